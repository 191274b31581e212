import PyProof.Rows.All
import Wide.All
import OpenK.AllK
import Wide.FinOn
import KE.KStateDown
import KE.OsHead
import Lean
import HandS.ForSpec
import HandS.Defaults
import HandS.Head0
import HandS.Head1
import HandS.Head2
import HandS.Head4
import HandS.HeadHook1
import HandS.HeadHook2
import VbbcabSpec
import HandS.ForMost
import HandS.WideBits
import HandS.Wide
import HandS.Flow
import HandS.Zip
import HandS.TupAny
import HandS.Conv
import HandS.RevRange
import PyVbbcab
import PyFlatLaws
import PySem.Challenge.RW_warmrooms_s01_answers
set_option Elab.async false
set_option linter.all false
section PartWHd
set_option Elab.async false
set_option linter.all false
set_option maxRecDepth 100000
set_option maxHeartbeats 0
namespace WH
open PySem PySem.Spec PyProof.Rows L2
def top (i : Nat) : Stmt := PySem.Challenge.pw_warmrooms_s01_answers.main.body.getD i (.Pass ⟨0, 0, 0, 0⟩)
/-! ### the text: its defs by their places, what the head tells of them -/
abbrev s_Plan_init : Stmt := inClass (top 6) 0
abbrev s_Plan_add_room : Stmt := inClass (top 6) 1
abbrev s_Plan_add_outside : Stmt := inClass (top 6) 2
abbrev s_Plan_add_link : Stmt := inClass (top 6) 3
abbrev s_Plan_add_heater : Stmt := inClass (top 6) 4
abbrev s_Plan_end_of : Stmt := inClass (top 6) 5
abbrev s_Plan_are_linked : Stmt := inClass (top 6) 6
abbrev s_Plan_loose_room : Stmt := inClass (top 6) 7
abbrev s_Plan_is_anchored : Stmt := inClass (top 6) 8
abbrev s_reached_of : Stmt := top 7
abbrev s_reach_both : Stmt := top 8
abbrev s_warmth_at : Stmt := top 13
abbrev s_flow_of : Stmt := top 14
abbrev s_flows : Stmt := top 15
abbrev s_take : Stmt := top 16
abbrev s_heats : Stmt := top 17
abbrev s_widest : Stmt := top 18
abbrev s_stepped : Stmt := top 19
abbrev s_gone_on : Stmt := top 20
abbrev s_told : Stmt := top 21
abbrev s_millionths : Stmt := top 22
abbrev s_equations : Stmt := top 24
abbrev s_put : Stmt := top 25
abbrev s_cleared : Stmt := top 26
abbrev s_solved : Stmt := top 27
abbrev s_common_part : Stmt := top 28
abbrev s_least_level : Stmt := top 29
abbrev s_octets_of : Stmt := top 47
abbrev s_cut_at : Stmt := top 48
abbrev s_is_letter : Stmt := top 49
abbrev s_is_digit : Stmt := top 50
abbrev s_is_name : Stmt := top 51
abbrev s_digits_of : Stmt := top 52
abbrev s_number_of : Stmt := top 53
abbrev s_room_fault : Stmt := top 54
abbrev s_outside_fault : Stmt := top 55
abbrev s_link_fault : Stmt := top 56
abbrev s_heater_fault : Stmt := top 57
abbrev s_line_fault : Stmt := top 58
abbrev s_plan_of : Stmt := top 59
abbrev s_name_at : Stmt := top 60
abbrev s_line_of : Stmt := top 61
abbrev s_printed : Stmt := top 62
abbrev s_is_warmth : Stmt := top 67
abbrev s_House_init : Stmt := inClass (top 68) 0
abbrev s_House_begin : Stmt := inClass (top 68) 1
abbrev s_House_close_books : Stmt := inClass (top 68) 2
abbrev s_House_has_room : Stmt := inClass (top 68) 3
abbrev s_House_has_heater : Stmt := inClass (top 68) 4
abbrev s_House_build : Stmt := inClass (top 68) 5
abbrev s_House_text : Stmt := inClass (top 68) 6
abbrev s_House_outside : Stmt := inClass (top 68) 7
abbrev s_House_heat : Stmt := inClass (top 68) 8
abbrev s_House_step : Stmt := inClass (top 68) 9
abbrev s_House_run : Stmt := inClass (top 68) 10
abbrev s_House_temp : Stmt := inClass (top 68) 11
abbrev s_House_trace : Stmt := inClass (top 68) 12
abbrev s_House_books : Stmt := inClass (top 68) 13
abbrev s_House_flow : Stmt := inClass (top 68) 14
abbrev s_House_rest : Stmt := inClass (top 68) 15
abbrev s_House_set_room : Stmt := inClass (top 68) 16
abbrev s_House_tell_clock : Stmt := inClass (top 68) 17
abbrev s_House_is_near : Stmt := inClass (top 68) 18
abbrev s_House_settle : Stmt := inClass (top 68) 19
abbrev s_House_halve : Stmt := inClass (top 68) 20
abbrev s_House_is_bound : Stmt := inClass (top 68) 21
abbrev s_House_bracket : Stmt := inClass (top 68) 22
abbrev s_House_latest : Stmt := inClass (top 68) 23
abbrev s_House_least : Stmt := inClass (top 68) 24
abbrev s_row_at : Stmt := top 71
abbrev s_plain_answer : Stmt := top 72
abbrev s_short_answer : Stmt := top 73
abbrev s_long_answer : Stmt := top 74
abbrev s_answer_at : Stmt := top 75
abbrev s_answers : Stmt := top 76
def d_Plan_init : He.DefD := { at_ := ("Plan", some "__init__"), name := "__init__", qual := "Plan.__init__", params := defArgs s_Plan_init, body := defBody s_Plan_init, scope := defScope s_Plan_init }
def d_Plan_add_room : He.DefD := { at_ := ("Plan", some "add_room"), name := "add_room", qual := "Plan.add_room", params := defArgs s_Plan_add_room, body := defBody s_Plan_add_room, scope := defScope s_Plan_add_room }
def d_Plan_add_outside : He.DefD := { at_ := ("Plan", some "add_outside"), name := "add_outside", qual := "Plan.add_outside", params := defArgs s_Plan_add_outside, body := defBody s_Plan_add_outside, scope := defScope s_Plan_add_outside }
def d_Plan_add_link : He.DefD := { at_ := ("Plan", some "add_link"), name := "add_link", qual := "Plan.add_link", params := defArgs s_Plan_add_link, body := defBody s_Plan_add_link, scope := defScope s_Plan_add_link }
def d_Plan_add_heater : He.DefD := { at_ := ("Plan", some "add_heater"), name := "add_heater", qual := "Plan.add_heater", params := defArgs s_Plan_add_heater, body := defBody s_Plan_add_heater, scope := defScope s_Plan_add_heater }
def d_Plan_end_of : He.DefD := { at_ := ("Plan", some "end_of"), name := "end_of", qual := "Plan.end_of", params := defArgs s_Plan_end_of, body := defBody s_Plan_end_of, scope := defScope s_Plan_end_of }
def d_Plan_are_linked : He.DefD := { at_ := ("Plan", some "are_linked"), name := "are_linked", qual := "Plan.are_linked", params := defArgs s_Plan_are_linked, body := defBody s_Plan_are_linked, scope := defScope s_Plan_are_linked }
def d_Plan_loose_room : He.DefD := { at_ := ("Plan", some "loose_room"), name := "loose_room", qual := "Plan.loose_room", params := defArgs s_Plan_loose_room, body := defBody s_Plan_loose_room, scope := defScope s_Plan_loose_room }
def d_Plan_is_anchored : He.DefD := { at_ := ("Plan", some "is_anchored"), name := "is_anchored", qual := "Plan.is_anchored", params := defArgs s_Plan_is_anchored, body := defBody s_Plan_is_anchored, scope := defScope s_Plan_is_anchored }
def d_reached_of : He.DefD := { at_ := ("reached_of", none), name := "reached_of", qual := "reached_of", params := defArgs s_reached_of, body := defBody s_reached_of, scope := defScope s_reached_of }
def d_reach_both : He.DefD := { at_ := ("reach_both", none), name := "reach_both", qual := "reach_both", params := defArgs s_reach_both, body := defBody s_reach_both, scope := defScope s_reach_both }
def d_warmth_at : He.DefD := { at_ := ("warmth_at", none), name := "warmth_at", qual := "warmth_at", params := defArgs s_warmth_at, body := defBody s_warmth_at, scope := defScope s_warmth_at }
def d_flow_of : He.DefD := { at_ := ("flow_of", none), name := "flow_of", qual := "flow_of", params := defArgs s_flow_of, body := defBody s_flow_of, scope := defScope s_flow_of }
def d_flows : He.DefD := { at_ := ("flows", none), name := "flows", qual := "flows", params := defArgs s_flows, body := defBody s_flows, scope := defScope s_flows }
def d_take : He.DefD := { at_ := ("take", none), name := "take", qual := "take", params := defArgs s_take, body := defBody s_take, scope := defScope s_take }
def d_heats : He.DefD := { at_ := ("heats", none), name := "heats", qual := "heats", params := defArgs s_heats, body := defBody s_heats, scope := defScope s_heats }
def d_widest : He.DefD := { at_ := ("widest", none), name := "widest", qual := "widest", params := defArgs s_widest, body := defBody s_widest, scope := defScope s_widest }
def d_stepped : He.DefD := { at_ := ("stepped", none), name := "stepped", qual := "stepped", params := defArgs s_stepped, body := defBody s_stepped, scope := defScope s_stepped }
def d_gone_on : He.DefD := { at_ := ("gone_on", none), name := "gone_on", qual := "gone_on", params := defArgs s_gone_on, body := defBody s_gone_on, scope := defScope s_gone_on }
def d_told : He.DefD := { at_ := ("told", none), name := "told", qual := "told", params := defArgs s_told, body := defBody s_told, scope := defScope s_told }
def d_millionths : He.DefD := { at_ := ("millionths", none), name := "millionths", qual := "millionths", params := defArgs s_millionths, body := defBody s_millionths, scope := defScope s_millionths }
def d_equations : He.DefD := { at_ := ("equations", none), name := "equations", qual := "equations", params := defArgs s_equations, body := defBody s_equations, scope := defScope s_equations }
def d_put : He.DefD := { at_ := ("put", none), name := "put", qual := "put", params := defArgs s_put, body := defBody s_put, scope := defScope s_put }
def d_cleared : He.DefD := { at_ := ("cleared", none), name := "cleared", qual := "cleared", params := defArgs s_cleared, body := defBody s_cleared, scope := defScope s_cleared }
def d_solved : He.DefD := { at_ := ("solved", none), name := "solved", qual := "solved", params := defArgs s_solved, body := defBody s_solved, scope := defScope s_solved }
def d_common_part : He.DefD := { at_ := ("common_part", none), name := "common_part", qual := "common_part", params := defArgs s_common_part, body := defBody s_common_part, scope := defScope s_common_part }
def d_least_level : He.DefD := { at_ := ("least_level", none), name := "least_level", qual := "least_level", params := defArgs s_least_level, body := defBody s_least_level, scope := defScope s_least_level }
def d_octets_of : He.DefD := { at_ := ("octets_of", none), name := "octets_of", qual := "octets_of", params := defArgs s_octets_of, body := defBody s_octets_of, scope := defScope s_octets_of }
def d_cut_at : He.DefD := { at_ := ("cut_at", none), name := "cut_at", qual := "cut_at", params := defArgs s_cut_at, body := defBody s_cut_at, scope := defScope s_cut_at }
def d_is_letter : He.DefD := { at_ := ("is_letter", none), name := "is_letter", qual := "is_letter", params := defArgs s_is_letter, body := defBody s_is_letter, scope := defScope s_is_letter }
def d_is_digit : He.DefD := { at_ := ("is_digit", none), name := "is_digit", qual := "is_digit", params := defArgs s_is_digit, body := defBody s_is_digit, scope := defScope s_is_digit }
def d_is_name : He.DefD := { at_ := ("is_name", none), name := "is_name", qual := "is_name", params := defArgs s_is_name, body := defBody s_is_name, scope := defScope s_is_name }
def d_digits_of : He.DefD := { at_ := ("digits_of", none), name := "digits_of", qual := "digits_of", params := defArgs s_digits_of, body := defBody s_digits_of, scope := defScope s_digits_of }
def d_number_of : He.DefD := { at_ := ("number_of", none), name := "number_of", qual := "number_of", params := defArgs s_number_of, body := defBody s_number_of, scope := defScope s_number_of }
def d_room_fault : He.DefD := { at_ := ("room_fault", none), name := "room_fault", qual := "room_fault", params := defArgs s_room_fault, body := defBody s_room_fault, scope := defScope s_room_fault }
def d_outside_fault : He.DefD := { at_ := ("outside_fault", none), name := "outside_fault", qual := "outside_fault", params := defArgs s_outside_fault, body := defBody s_outside_fault, scope := defScope s_outside_fault }
def d_link_fault : He.DefD := { at_ := ("link_fault", none), name := "link_fault", qual := "link_fault", params := defArgs s_link_fault, body := defBody s_link_fault, scope := defScope s_link_fault }
def d_heater_fault : He.DefD := { at_ := ("heater_fault", none), name := "heater_fault", qual := "heater_fault", params := defArgs s_heater_fault, body := defBody s_heater_fault, scope := defScope s_heater_fault }
def d_line_fault : He.DefD := { at_ := ("line_fault", none), name := "line_fault", qual := "line_fault", params := defArgs s_line_fault, body := defBody s_line_fault, scope := defScope s_line_fault }
def d_plan_of : He.DefD := { at_ := ("plan_of", none), name := "plan_of", qual := "plan_of", params := defArgs s_plan_of, body := defBody s_plan_of, scope := defScope s_plan_of }
def d_name_at : He.DefD := { at_ := ("name_at", none), name := "name_at", qual := "name_at", params := defArgs s_name_at, body := defBody s_name_at, scope := defScope s_name_at }
def d_line_of : He.DefD := { at_ := ("line_of", none), name := "line_of", qual := "line_of", params := defArgs s_line_of, body := defBody s_line_of, scope := defScope s_line_of }
def d_printed : He.DefD := { at_ := ("printed", none), name := "printed", qual := "printed", params := defArgs s_printed, body := defBody s_printed, scope := defScope s_printed }
def d_is_warmth : He.DefD := { at_ := ("is_warmth", none), name := "is_warmth", qual := "is_warmth", params := defArgs s_is_warmth, body := defBody s_is_warmth, scope := defScope s_is_warmth }
def d_House_init : He.DefD := { at_ := ("House", some "__init__"), name := "__init__", qual := "House.__init__", params := defArgs s_House_init, body := defBody s_House_init, scope := defScope s_House_init }
def d_House_begin : He.DefD := { at_ := ("House", some "begin"), name := "begin", qual := "House.begin", params := defArgs s_House_begin, body := defBody s_House_begin, scope := defScope s_House_begin }
def d_House_close_books : He.DefD := { at_ := ("House", some "close_books"), name := "close_books", qual := "House.close_books", params := defArgs s_House_close_books, body := defBody s_House_close_books, scope := defScope s_House_close_books }
def d_House_has_room : He.DefD := { at_ := ("House", some "has_room"), name := "has_room", qual := "House.has_room", params := defArgs s_House_has_room, body := defBody s_House_has_room, scope := defScope s_House_has_room }
def d_House_has_heater : He.DefD := { at_ := ("House", some "has_heater"), name := "has_heater", qual := "House.has_heater", params := defArgs s_House_has_heater, body := defBody s_House_has_heater, scope := defScope s_House_has_heater }
def d_House_build : He.DefD := { at_ := ("House", some "build"), name := "build", qual := "House.build", params := defArgs s_House_build, body := defBody s_House_build, scope := defScope s_House_build }
def d_House_text : He.DefD := { at_ := ("House", some "text"), name := "text", qual := "House.text", params := defArgs s_House_text, body := defBody s_House_text, scope := defScope s_House_text }
def d_House_outside : He.DefD := { at_ := ("House", some "outside"), name := "outside", qual := "House.outside", params := defArgs s_House_outside, body := defBody s_House_outside, scope := defScope s_House_outside }
def d_House_heat : He.DefD := { at_ := ("House", some "heat"), name := "heat", qual := "House.heat", params := defArgs s_House_heat, body := defBody s_House_heat, scope := defScope s_House_heat }
def d_House_step : He.DefD := { at_ := ("House", some "step"), name := "step", qual := "House.step", params := defArgs s_House_step, body := defBody s_House_step, scope := defScope s_House_step }
def d_House_run : He.DefD := { at_ := ("House", some "run"), name := "run", qual := "House.run", params := defArgs s_House_run, body := defBody s_House_run, scope := defScope s_House_run }
def d_House_temp : He.DefD := { at_ := ("House", some "temp"), name := "temp", qual := "House.temp", params := defArgs s_House_temp, body := defBody s_House_temp, scope := defScope s_House_temp }
def d_House_trace : He.DefD := { at_ := ("House", some "trace"), name := "trace", qual := "House.trace", params := defArgs s_House_trace, body := defBody s_House_trace, scope := defScope s_House_trace }
def d_House_books : He.DefD := { at_ := ("House", some "books"), name := "books", qual := "House.books", params := defArgs s_House_books, body := defBody s_House_books, scope := defScope s_House_books }
def d_House_flow : He.DefD := { at_ := ("House", some "flow"), name := "flow", qual := "House.flow", params := defArgs s_House_flow, body := defBody s_House_flow, scope := defScope s_House_flow }
def d_House_rest : He.DefD := { at_ := ("House", some "rest"), name := "rest", qual := "House.rest", params := defArgs s_House_rest, body := defBody s_House_rest, scope := defScope s_House_rest }
def d_House_set_room : He.DefD := { at_ := ("House", some "set_room"), name := "set_room", qual := "House.set_room", params := defArgs s_House_set_room, body := defBody s_House_set_room, scope := defScope s_House_set_room }
def d_House_tell_clock : He.DefD := { at_ := ("House", some "tell_clock"), name := "tell_clock", qual := "House.tell_clock", params := defArgs s_House_tell_clock, body := defBody s_House_tell_clock, scope := defScope s_House_tell_clock }
def d_House_is_near : He.DefD := { at_ := ("House", some "is_near"), name := "is_near", qual := "House.is_near", params := defArgs s_House_is_near, body := defBody s_House_is_near, scope := defScope s_House_is_near }
def d_House_settle : He.DefD := { at_ := ("House", some "settle"), name := "settle", qual := "House.settle", params := defArgs s_House_settle, body := defBody s_House_settle, scope := defScope s_House_settle }
def d_House_halve : He.DefD := { at_ := ("House", some "halve"), name := "halve", qual := "House.halve", params := defArgs s_House_halve, body := defBody s_House_halve, scope := defScope s_House_halve }
def d_House_is_bound : He.DefD := { at_ := ("House", some "is_bound"), name := "is_bound", qual := "House.is_bound", params := defArgs s_House_is_bound, body := defBody s_House_is_bound, scope := defScope s_House_is_bound }
def d_House_bracket : He.DefD := { at_ := ("House", some "bracket"), name := "bracket", qual := "House.bracket", params := defArgs s_House_bracket, body := defBody s_House_bracket, scope := defScope s_House_bracket }
def d_House_latest : He.DefD := { at_ := ("House", some "latest"), name := "latest", qual := "House.latest", params := defArgs s_House_latest, body := defBody s_House_latest, scope := defScope s_House_latest }
def d_House_least : He.DefD := { at_ := ("House", some "least"), name := "least", qual := "House.least", params := defArgs s_House_least, body := defBody s_House_least, scope := defScope s_House_least }
def d_row_at : He.DefD := { at_ := ("row_at", none), name := "row_at", qual := "row_at", params := defArgs s_row_at, body := defBody s_row_at, scope := defScope s_row_at }
def d_plain_answer : He.DefD := { at_ := ("plain_answer", none), name := "plain_answer", qual := "plain_answer", params := defArgs s_plain_answer, body := defBody s_plain_answer, scope := defScope s_plain_answer }
def d_short_answer : He.DefD := { at_ := ("short_answer", none), name := "short_answer", qual := "short_answer", params := defArgs s_short_answer, body := defBody s_short_answer, scope := defScope s_short_answer }
def d_long_answer : He.DefD := { at_ := ("long_answer", none), name := "long_answer", qual := "long_answer", params := defArgs s_long_answer, body := defBody s_long_answer, scope := defScope s_long_answer }
def d_answer_at : He.DefD := { at_ := ("answer_at", none), name := "answer_at", qual := "answer_at", params := defArgs s_answer_at, body := defBody s_answer_at, scope := defScope s_answer_at }
def d_answers : He.DefD := { at_ := ("answers", none), name := "answers", qual := "answers", params := defArgs s_answers, body := defBody s_answers, scope := defScope s_answers }
def fn0 : List He.DefD := [d_Plan_init, d_Plan_add_room, d_Plan_add_outside, d_Plan_add_link, d_Plan_add_heater, d_Plan_end_of, d_Plan_are_linked, d_Plan_loose_room, d_Plan_is_anchored, d_reached_of, d_reach_both, d_warmth_at, d_flow_of, d_flows, d_take, d_heats, d_widest, d_stepped, d_gone_on, d_told, d_millionths, d_equations, d_put, d_cleared, d_solved, d_common_part, d_least_level, d_octets_of, d_cut_at, d_is_letter]
def fn1 : List He.DefD := [d_is_digit, d_is_name, d_digits_of, d_number_of, d_room_fault, d_outside_fault, d_link_fault, d_heater_fault, d_line_fault, d_plan_of, d_name_at, d_line_of, d_printed, d_is_warmth, d_House_init, d_House_begin, d_House_close_books, d_House_has_room, d_House_has_heater, d_House_build, d_House_text, d_House_outside, d_House_heat, d_House_step, d_House_run, d_House_temp, d_House_trace, d_House_books, d_House_flow, d_House_rest]
def fn2 : List He.DefD := [d_House_set_room, d_House_tell_clock, d_House_is_near, d_House_settle, d_House_halve, d_House_is_bound, d_House_bracket, d_House_latest, d_House_least, d_row_at, d_plain_answer, d_short_answer, d_long_answer, d_answer_at, d_answers]
def fn : List He.DefD := fn0 ++ fn1 ++ fn2
def fa0 : List He.Fa := [.glo "reached_of", .glo "reach_both", .glo "warmth_at", .glo "flow_of", .glo "flows", .glo "take", .glo "heats", .glo "widest", .glo "stepped", .glo "gone_on", .glo "told", .glo "millionths", .glo "equations", .glo "put", .glo "cleared", .glo "solved", .glo "common_part", .glo "least_level", .glo "octets_of", .glo "cut_at", .glo "is_letter", .glo "is_digit", .glo "is_name", .glo "digits_of", .glo "number_of", .glo "room_fault", .glo "outside_fault", .glo "link_fault", .glo "heater_fault", .glo "line_fault"]
def fa1 : List He.Fa := [.glo "plan_of", .glo "name_at", .glo "line_of", .glo "printed", .glo "is_warmth", .glo "row_at", .glo "plain_answer", .glo "short_answer", .glo "long_answer", .glo "answer_at", .glo "answers", .glo "Plan", .glo "House", .glo "SIZES", .free "len", .free "range", .free "list", .free "tuple", .free "zip", .free "all", .free "sum", .free "max", .free "min", .free "abs", .free "ord", .free "str", .int "MOST_ROOMS" (12), .int "MOST_OUTSIDES" (4), .int "MOST_LINKS" (40), .int "MOST_HEATERS" (8)]
def fa2 : List He.Fa := [.int "PARTS" (64), .int "FLOW_SHIFT" (6), .int "PRIME" (1000000007), .int "MILLION" (1000000), .int "LINE_END" (10), .int "BLANK" (32), .int "MINUS" (45), .int "MOST_NAME" (12), .int "MOST_DIGITS" (7), .int "LEAST_WARMTH" (-100000), .int "MOST_WARMTH" (100000), .int "MOST_CAP" (10), .int "MOST_CONDUCTANCE" (100000), .int "MOST_GIVEN" (1000000), .int "FORM" (1), .int "THERE" (2), .int "MISSING" (3), .int "MANY" (4), .int "CROSSED" (5), .int "LOOSE" (6), .int "MOST_STEPS" (1000), .int "MOST_LATE" (60), .int "MOST_NEAR" (100000), .cls "Plan", .mkr "Plan", .noat "Plan" "caps", .noat "Plan" "heaters", .noat "Plan" "links", .noat "Plan" "names", .noat "Plan" "outsides"]
def fa3 : List He.Fa := [.noat "Plan" "rooms", .noat "Plan" "starts", .noat "Plan" "weather", .cls "House", .mkr "House", .noat "House" "cells", .noat "House" "clock", .noat "House" "given", .noat "House" "gone", .noat "House" "levels", .noat "House" "plan", .noat "House" "shift", .noat "House" "weather", .meth "Plan" "add_room", .meth "Plan" "add_outside", .meth "Plan" "add_link", .meth "Plan" "add_heater", .meth "Plan" "end_of", .meth "Plan" "are_linked", .meth "Plan" "loose_room", .meth "Plan" "is_anchored", .meth "House" "begin", .meth "House" "close_books", .meth "House" "has_room", .meth "House" "has_heater", .meth "House" "build", .meth "House" "text", .meth "House" "outside", .meth "House" "heat", .meth "House" "step"]
def fa4 : List He.Fa := [.meth "House" "run", .meth "House" "temp", .meth "House" "trace", .meth "House" "books", .meth "House" "flow", .meth "House" "rest", .meth "House" "set_room", .meth "House" "tell_clock", .meth "House" "is_near", .meth "House" "settle", .meth "House" "halve", .meth "House" "is_bound", .meth "House" "bracket", .meth "House" "latest", .meth "House" "least"]
def fa : List He.Fa := fa0 ++ fa1 ++ fa2 ++ fa3 ++ fa4
def nm0 : List PySem.Str := ["MOST_ROOMS", "MOST_OUTSIDES", "MOST_LINKS", "MOST_HEATERS", "PARTS", "Plan", "reached_of", "reach_both", "FLOW_SHIFT", "PRIME", "MILLION", "warmth_at", "flow_of", "flows", "take", "heats", "widest", "stepped", "gone_on", "told", "millionths", "equations", "put", "cleared", "solved", "common_part", "least_level", "LINE_END", "BLANK", "MINUS"]
def nm1 : List PySem.Str := ["MOST_NAME", "MOST_DIGITS", "LEAST_WARMTH", "MOST_WARMTH", "MOST_CAP", "MOST_CONDUCTANCE", "MOST_GIVEN", "FORM", "THERE", "MISSING", "MANY", "CROSSED", "LOOSE", "octets_of", "cut_at", "is_letter", "is_digit", "is_name", "digits_of", "number_of", "room_fault", "outside_fault", "link_fault", "heater_fault", "line_fault", "plan_of", "name_at", "line_of", "printed", "MOST_STEPS"]
def nm2 : List PySem.Str := ["MOST_LATE", "MOST_NEAR", "is_warmth", "House", "SIZES", "row_at", "plain_answer", "short_answer", "long_answer", "answer_at"]
def nms : List PySem.Str := nm0 ++ nm1 ++ nm2
abbrev R : PySem.W.OpenSpec := PySem.Challenge.rw_warmrooms_s01_answers
def entI (e : DictEntry) : Option (Int × Int × Int) := match e.key, e.val with
  | .int k _, .int v _ => some (k, e.hash, v)
  | _, _ => none
def sizesL : List (Int × Int) := [(2, 2), (3, 2), (4, 1), (5, 1), (6, 1), (8, 1), (10, 2), (11, 1), (13, 3), (14, 3), (15, 2)]
def szB (K : PySem.W.Frag) : Bool := match K.lookup (He.ga K "SIZES") with
  | some ⟨.type c, none, .dict es _, sl⟩ => decide (c = "dict") && (sl.isEmpty && (!(He.ga K "SIZES" == sysModules) && decide (es.toList.map entI = sizesL.map fun p => some (p.1, hashInt p.1, p.2))))
  | _ => false
abbrev AlW : Type := He.AlD × Bool
def obsW (g : Addr → Option Obj) : AlW := (He.obsDG 5 fa fn g, szB (He.frG g (He.asD g 5)))
def valW : AlW := (He.valD fn, true)
def hk : PySem.W.Hook where
  α := AlW
  obs := fun s => obsW s.heap.get?
  val := fun _ => valW
  says := fun _ h => ∃ K : PySem.W.Frag, K.In h ∧ He.SaysD fa fn K ∧ szB K = true
  of := fun _ _ e => ⟨_, He.frG_in, congrArg (fun z : AlW => z.1) e, congrArg (fun z : AlW => z.2) e⟩
  keeps := fun _ _ _ ⟨K, hK, c⟩ k => ⟨K, PySem.W.Frag.In.keeps hK k, c⟩
def ob (s : PySem.W.SharedT) : AlW := obsW (HandSHeadRun.getT s)
theorem ob_eq (s : PySem.W.SharedT) : ob s = hk.obs s.abs := by
  have e : HandSHeadRun.getT s = s.abs.heap.get? := funext (HandSHeadRun.getT_eq s)
  show obsW (HandSHeadRun.getT s) = obsW s.abs.heap.get?
  rw [e]
abbrev qv : Program := PySem.W.view R.prog [76]
end WH
end PartWHd
section PartWHe
set_option Elab.async false
set_option linter.all false
set_option maxRecDepth 100000
set_option maxHeartbeats 0
namespace WR
open PySem PySem.W PySem.Spec PyProof.Rows L2 WH HandSHeadRun
theorem rung_f (w : World) : RunEqS R qv hk ob 8000 nms (w.withFollow "special-get-raises" false) := by
  intro os
  kernel_rfl
theorem rung_t (w : World) : RunEqS R qv hk ob 8000 nms (w.withFollow "special-get-raises" true) := by
  intro os
  kernel_rfl
theorem rung (w : World) : RunEqS R qv hk ob 8000 nms w := byRow2 "special-get-raises" (P := fun w => RunEqS R qv hk ob 8000 nms w) rung_f rung_t w
def d_ans : DefRec := match s_answers with
  | .FunctionDef n p b _ _ _ sc _ _ pos => ⟨n, p, b, sc, pos⟩
  | _ => ⟨"", defArgs s_answers, [], defScope s_answers, ⟨0, 0, 0, 0⟩⟩
theorem q_open : opening R.prog = plainProg R.prog.main.scope.names := by kernel_rfl
theorem q_fence : ∀ s, fenceModules? R.prog s = some s := fun s => by kernel_rfl
theorem q_def : defOf qv R.name = some (d_ans, []) := by kernel_rfl
theorem q_the : R.prog.theDef R.name = some (d_ans.params, d_ans.body, d_ans.scope) := by kernel_rfl
theorem q_kw : kwWritten? d_ans.params.kwonlyargs d_ans.params.kw_defaults = some [] := by kernel_rfl
theorem q_shapes : ∀ as, R.pre as = true → WShape.hasAll [] as (R.args.map Codec.shape) = true := os_shapes
theorem q_well : R.wellSaid = true := by kernel_rfl
theorem q_bare : R.prog.bare := ⟨by kernel_rfl, by kernel_rfl, by kernel_rfl, by kernel_rfl, by kernel_rfl, by decide +kernel⟩
theorem q_some : ∃ args, R.pre args = true ∧ WData.layableAll args = true := ⟨[.list [.int 16]], by kernel_rfl, by kernel_rfl⟩
theorem q_ok : (chainsOk qv && opensWell R.prog) = true := by decide +kernel
theorem q_name : d_ans.name = "answers" := by kernel_rfl
end WR
end PartWHe
section PartWDy
set_option Elab.async false
/-! Dyadic numbers: a whole number over a power of 2, in the specification's normal form. -/
namespace WR
open Vbbcab

theorem two_pow_pos (k : Nat) : (0 : Int) < 2 ^ k := Int.pow_pos (by decide)
theorem two_pow_ne (k : Nat) : (2 : Int) ^ k ≠ 0 := Int.ne_of_gt (two_pow_pos k)
theorem pow_split {a b : Nat} (h : a ≤ b) : (2 : Int) ^ b = 2 ^ a * 2 ^ (b - a) := by
  rw [← Int.pow_add]
  congr 1
  omega
theorem shave_zero_arg : ∀ p : Nat, shave p 0 = ⟨0, 0⟩
  | 0 => rfl
  | _ + 1 => rfl
theorem shave_up1 (p : Nat) (n : Int) : shave (p + 1) (n * 2) = shave p n := by
  by_cases h : n = 0
  · subst h
    rw [shave_zero_arg]
    show shave (p + 1) 0 = _
    rw [shave_zero_arg]
  · show (if n * 2 = 0 then (⟨0, 0⟩ : Dy) else if n * 2 % 2 = 0 then shave p (n * 2 / 2) else ⟨n * 2, p + 1⟩) = _
    rw [if_neg (by omega), if_pos (by omega)]
    congr 1
    omega
theorem shave_up (p : Nat) : ∀ (k : Nat) (n : Int), shave (p + k) (n * 2 ^ k) = shave p n
  | 0, n => by simp
  | k + 1, n => by
    have e : n * 2 ^ (k + 1) = n * 2 ^ k * 2 := by rw [Int.pow_succ, Int.mul_assoc]
    rw [e, ← Nat.add_assoc, shave_up1, shave_up p k n]
/-- the same number over a greater power -/
theorem shave_to {p q : Nat} (h : p ≤ q) (n : Int) : shave p n = shave q (n * 2 ^ (q - p)) := by
  have e := shave_up p (q - p) n
  rw [show p + (q - p) = q by omega] at e
  exact e.symm
def Norm (a : Dy) : Prop := a.exp = 0 ∨ a.num % 2 = 1
theorem shave_norm : ∀ (p : Nat) (n : Int), Norm (shave p n)
  | 0, _ => .inl rfl
  | p + 1, n => by
    by_cases h : n = 0
    · subst h
      rw [shave_zero_arg]
      exact .inl rfl
    · show Norm (if n = 0 then (⟨0, 0⟩ : Dy) else if n % 2 = 0 then shave p (n / 2) else ⟨n, p + 1⟩)
      rw [if_neg h]
      by_cases h2 : n % 2 = 0
      · rw [if_pos h2]
        exact shave_norm p _
      · rw [if_neg h2]
        exact .inr (by show n % 2 = 1; omega)
theorem shave_self {a : Dy} (h : Norm a) : shave a.exp a.num = a := by
  obtain ⟨n, e⟩ := a
  rcases h with h | h
  · have h' : e = 0 := h
    subst h'
    rfl
  · have h' : n % 2 = 1 := h
    cases e with
    | zero => rfl
    | succ k =>
      show (if n = 0 then (⟨0, 0⟩ : Dy) else if n % 2 = 0 then shave k (n / 2) else ⟨n, k + 1⟩) = _
      rw [if_neg (by omega), if_neg (by omega)]
theorem shave_val : ∀ (p : Nat) (n : Int), (shave p n).exp ≤ p ∧ n = (shave p n).num * 2 ^ (p - (shave p n).exp)
  | 0, n => ⟨Nat.le_refl _, by show n = n * 2 ^ 0; simp⟩
  | p + 1, n => by
    by_cases h : n = 0
    · subst h
      rw [shave_zero_arg]
      exact ⟨Nat.zero_le _, by simp⟩
    · have e : shave (p + 1) n = if n % 2 = 0 then shave p (n / 2) else ⟨n, p + 1⟩ := by
        show (if n = 0 then (⟨0, 0⟩ : Dy) else if n % 2 = 0 then shave p (n / 2) else ⟨n, p + 1⟩) = _
        rw [if_neg h]
      by_cases h2 : n % 2 = 0
      · rw [e, if_pos h2]
        obtain ⟨h3, h4⟩ := shave_val p (n / 2)
        refine ⟨by omega, ?_⟩
        have e2 : p + 1 - (shave p (n / 2)).exp = (p - (shave p (n / 2)).exp) + 1 := by omega
        rw [e2, Int.pow_succ, ← Int.mul_assoc, ← h4]
        omega
      · rw [e, if_neg h2]
        exact ⟨Nat.le_refl _, by simp⟩
/-- the normal form is the only one -/
theorem shave_is {a : Dy} {p : Nat} {n : Int} (h : Norm a) (hp : a.exp ≤ p) (e : n = a.num * 2 ^ (p - a.exp)) : shave p n = a := by
  rw [e, ← shave_to hp, shave_self h]
theorem of_shave (n : Int) : Dy.of n = shave 0 n := rfl
theorem add_shave (p : Nat) (n m : Int) : (shave p n).add (shave p m) = shave p (n + m) := by
  obtain ⟨ha, ea⟩ := shave_val p n
  obtain ⟨hb, eb⟩ := shave_val p m
  generalize shave p n = a at *
  generalize shave p m = b at *
  have hm : max a.exp b.exp ≤ p := Nat.max_le.mpr ⟨ha, hb⟩
  show shave (max a.exp b.exp) (a.num * 2 ^ (max a.exp b.exp - a.exp) + b.num * 2 ^ (max a.exp b.exp - b.exp)) = _
  rw [shave_to hm]
  congr 1
  rw [Int.add_mul, Int.mul_assoc, Int.mul_assoc, ← Int.pow_add, ← Int.pow_add, ea, eb]
  have h1 : a.exp ≤ max a.exp b.exp := Nat.le_max_left _ _
  have h2 : b.exp ≤ max a.exp b.exp := Nat.le_max_right _ _
  rw [show max a.exp b.exp - a.exp + (p - max a.exp b.exp) = p - a.exp by omega, show max a.exp b.exp - b.exp + (p - max a.exp b.exp) = p - b.exp by omega]
theorem neg_shave (p : Nat) (n : Int) : (shave p n).neg = shave p (-n) := by
  obtain ⟨ha, ea⟩ := shave_val p n
  have hn := shave_norm p n
  symm
  refine shave_is (a := (shave p n).neg) ?_ ha ?_
  · rcases hn with h | h
    · exact .inl h
    · refine .inr ?_
      show (-(shave p n).num) % 2 = 1
      omega
  · show -n = -(shave p n).num * 2 ^ (p - (shave p n).exp)
    rw [Int.neg_mul, ← ea]
theorem sub_shave (p : Nat) (n m : Int) : (shave p n).sub (shave p m) = shave p (n - m) := by
  show (shave p n).add (shave p m).neg = _
  rw [neg_shave, add_shave, Int.sub_eq_add_neg]
theorem times_shave (p : Nat) (n k : Int) : (shave p n).times k = shave p (n * k) := by
  obtain ⟨ha, ea⟩ := shave_val p n
  generalize shave p n = a at *
  show shave a.exp (a.num * k) = _
  rw [shave_to ha]
  congr 1
  rw [ea, Int.mul_assoc, Int.mul_assoc, Int.mul_comm k]
theorem over_shave (p : Nat) (n : Int) (k : Nat) : (shave p n).over k = shave (p + k) n := by
  obtain ⟨ha, ea⟩ := shave_val p n
  generalize shave p n = a at *
  show shave (a.exp + k) a.num = _
  rw [shave_to (show a.exp + k ≤ p + k by omega)]
  congr 1
  rw [show p + k - (a.exp + k) = p - a.exp by omega]
  exact ea.symm
theorem floor_shave (p : Nat) (n : Int) : (shave p n).floor = n / 2 ^ p := by
  obtain ⟨ha, ea⟩ := shave_val p n
  generalize shave p n = a at *
  show a.num / 2 ^ a.exp = _
  rw [ea, pow_split ha, Int.mul_ediv_mul_of_pos_left _ _ (two_pow_pos _)]
theorem le_shave (p q : Nat) (n m : Int) : (shave p n).le (shave q m) = decide (n * 2 ^ q ≤ m * 2 ^ p) := by
  obtain ⟨ha, ea⟩ := shave_val p n
  obtain ⟨hb, eb⟩ := shave_val q m
  generalize shave p n = a at *
  generalize shave q m = b at *
  show decide (a.num * 2 ^ b.exp ≤ b.num * 2 ^ a.exp) = _
  refine decide_eq_decide.mpr ?_
  rw [ea, eb, pow_split ha, pow_split hb]
  have e1 : a.num * 2 ^ (p - a.exp) * (2 ^ b.exp * 2 ^ (q - b.exp)) = a.num * 2 ^ b.exp * (2 ^ (p - a.exp) * 2 ^ (q - b.exp)) := by
    simp only [Int.mul_assoc, Int.mul_left_comm, Int.mul_comm]
  have e2 : b.num * 2 ^ (q - b.exp) * (2 ^ a.exp * 2 ^ (p - a.exp)) = b.num * 2 ^ a.exp * (2 ^ (p - a.exp) * 2 ^ (q - b.exp)) := by
    simp only [Int.mul_assoc, Int.mul_left_comm, Int.mul_comm]
  rw [e1, e2]
  have hp : (0 : Int) < 2 ^ (p - a.exp) * 2 ^ (q - b.exp) := Int.mul_pos (two_pow_pos _) (two_pow_pos _)
  exact ⟨fun h => Int.mul_le_mul_of_nonneg_right h (Int.le_of_lt hp), fun h => Int.le_of_mul_le_mul_right h hp⟩
theorem sum_foldl_shave (p : Nat) : ∀ (l : List Int) (a : Int), (l.map fun n => shave p n).foldl (fun a b => a.add b) (shave p a) = shave p (a + l.sum)
  | [], a => by simp
  | x :: r, a => by
    rw [List.map_cons, List.foldl_cons, add_shave, sum_foldl_shave p r, List.sum_cons, Int.add_assoc]
theorem shave_zero_any (p q : Nat) : shave p 0 = shave q 0 := by rw [shave_zero_arg, shave_zero_arg]
theorem sum_shave (p : Nat) (l : List Int) : Dy.sum (l.map fun n => shave p n) = shave p l.sum := by
  show (l.map fun n => shave p n).foldl (fun a b => a.add b) (Dy.of 0) = _
  rw [show Dy.of 0 = shave p 0 from shave_zero_any 0 p, sum_foldl_shave, Int.zero_add]
/-- how a number is told: s is how often 2 goes into it (as far as the power goes) -/
theorem told_shave {p s : Nat} {n : Int} (hs : s ≤ p) (hd : n = n / 2 ^ s * 2 ^ s) (ho : s = p ∨ n / 2 ^ s % 2 = 1) :
    told (shave p n) = [n / 2 ^ p, (p : Int) - (s : Int), n / 2 ^ s % 1000000007] := by
  have e : shave p n = ⟨n / 2 ^ s, p - s⟩ := by
    refine shave_is (a := ⟨n / 2 ^ s, p - s⟩) ?_ (by show p - s ≤ p; omega) ?_
    · rcases ho with h | h
      · exact .inl (by show p - s = 0; omega)
      · exact .inr h
    · show n = n / 2 ^ s * 2 ^ (p - (p - s))
      rw [show p - (p - s) = s by omega]
      exact hd
  have f := floor_shave p n
  show [(shave p n).floor, ((shave p n).exp : Int), (shave p n).num % PRIME] = _
  rw [f, e]
  show [n / 2 ^ p, ((p - s : Nat) : Int), n / 2 ^ s % PRIME] = _
  rw [Int.ofNat_sub hs]
  rfl
theorem told_shave_zero (p : Nat) : told (shave p 0) = [0, 0, 0] := by
  rw [shave_zero_arg]
  rfl
theorem micro_shave (p : Nat) (n : Int) : micro (shave p n) = n * 1000000 / 2 ^ p := by
  show ((shave p n).times MICRO).floor = _
  rw [times_shave, floor_shave]
  rfl
end WR
end PartWDy
section PartWDet
set_option Elab.async false
/-! Determinants of vectors over the rationals: linear in each place, 0 where two are alike, whole numbers of whole numbers; and what elimination does to a basis. -/
namespace WR

def sumQ : Nat → (Nat → Rat) → Rat
  | 0, _ => 0
  | n + 1, f => sumQ n f + f n
theorem sumQ_congr {n : Nat} {f g : Nat → Rat} (h : ∀ i, i < n → f i = g i) : sumQ n f = sumQ n g := by
  induction n with
  | zero => rfl
  | succ n ih =>
    show sumQ n f + f n = sumQ n g + g n
    rw [ih fun i hi => h i (by omega), h n (by omega)]
theorem sumQ_lin {n : Nat} {f g : Nat → Rat} {c : Rat} : sumQ n (fun i => f i + c * g i) = sumQ n f + c * sumQ n g := by
  induction n with
  | zero => show (0 : Rat) = 0 + c * 0; grind
  | succ n ih =>
    show sumQ n (fun i => f i + c * g i) + (f n + c * g n) = (sumQ n f + f n) + c * (sumQ n g + g n)
    rw [ih]
    grind
theorem sumQ_mul {n : Nat} {f : Nat → Rat} {c : Rat} : sumQ n (fun i => c * f i) = c * sumQ n f := by
  induction n with
  | zero => show (0 : Rat) = c * 0; grind
  | succ n ih =>
    show sumQ n (fun i => c * f i) + c * f n = c * (sumQ n f + f n)
    rw [ih]
    grind
theorem sumQ_zero {n : Nat} {f : Nat → Rat} (h : ∀ i, i < n → f i = 0) : sumQ n f = 0 := by
  induction n with
  | zero => rfl
  | succ n ih =>
    show sumQ n f + f n = 0
    rw [ih fun i hi => h i (by omega), h n (by omega)]
    grind
theorem sumQ_one {n p : Nat} {f : Nat → Rat} (hp : p < n) (h : ∀ i, i < n → i ≠ p → f i = 0) : sumQ n f = f p := by
  induction n with
  | zero => omega
  | succ n ih =>
    show sumQ n f + f n = f p
    by_cases e : p = n
    · subst e
      rw [sumQ_zero fun i hi => h i (by omega) (by omega)]
      grind
    · rw [ih (by omega) fun i hi hn => h i (by omega) hn, h n (by omega) (by omega)]
      grind
theorem sumQ_two {n p q : Nat} {f : Nat → Rat} (hpq : p < q) (hq : q < n) (h : ∀ i, i < n → i ≠ p → i ≠ q → f i = 0) : sumQ n f = f p + f q := by
  induction n with
  | zero => omega
  | succ n ih =>
    show sumQ n f + f n = f p + f q
    by_cases e : q = n
    · subst e
      rw [sumQ_one hpq fun i hi hn => h i (by omega) hn (by omega)]
    · rw [ih (by omega) fun i hi hn hm => h i (by omega) hn hm, h n (by omega) (by omega) (by omega)]
      grind

abbrev Vecs := Nat → Nat → Rat
def skip (j i : Nat) : Nat := if i < j then i else i + 1
def sgn (j : Nat) : Rat := if j % 2 = 0 then 1 else -1
theorem sgn_succ (j : Nat) : sgn (j + 1) = - sgn j := by
  unfold sgn
  by_cases h : j % 2 = 0
  · rw [if_pos h, if_neg (by omega)]
  · rw [if_neg h, if_pos (by omega)]
    rfl
def minor (v : Vecs) (j : Nat) : Vecs := fun i r => v (skip j i) (r + 1)
def det : Nat → Vecs → Rat
  | 0, _ => 1
  | n + 1, v => sumQ (n + 1) fun j => sgn j * v j 0 * det n (minor v j)
theorem det_succ (n : Nat) (v : Vecs) : det (n + 1) v = sumQ (n + 1) fun j => sgn j * v j 0 * det n (minor v j) := rfl
theorem det_congr : ∀ {n : Nat} {v w : Vecs}, (∀ i, i < n → ∀ r, r < n → v i r = w i r) → det n v = det n w
  | 0, _, _, _ => rfl
  | n + 1, v, w, h => by
    rw [det_succ, det_succ]
    refine sumQ_congr fun j hj => ?_
    rw [h j hj 0 (by omega), det_congr (n := n) (v := minor v j) (w := minor w j) fun i hi r hr => h _ (by unfold skip; split <;> omega) _ (by omega)]
def putV (v : Vecs) (p : Nat) (x : Nat → Rat) : Vecs := fun i => if i = p then x else v i
theorem putV_same (v : Vecs) (p : Nat) (x : Nat → Rat) : putV v p x p = x := if_pos rfl
theorem putV_ne {v : Vecs} {p i : Nat} {x : Nat → Rat} (h : i ≠ p) : putV v p x i = v i := if_neg h
theorem putV_id (v : Vecs) (p : Nat) : putV v p (v p) = v := by
  funext i
  by_cases h : i = p
  · subst h
    exact putV_same ..
  · exact putV_ne h
theorem putV_put (v : Vecs) (p : Nat) (x y : Nat → Rat) : putV (putV v p x) p y = putV v p y := by
  funext i
  by_cases h : i = p
  · subst h
    rw [putV_same, putV_same]
  · rw [putV_ne h, putV_ne h, putV_ne h]
theorem minor_putV_self (v : Vecs) (p : Nat) (x : Nat → Rat) : minor (putV v p x) p = minor v p := by
  funext i r
  show putV v p x (skip p i) (r + 1) = v (skip p i) (r + 1)
  rw [putV_ne]
  unfold skip
  split <;> omega
theorem minor_putV_ne {v : Vecs} {p j : Nat} {x : Nat → Rat} (h : j ≠ p) : minor (putV v p x) j = putV (minor v j) (if p < j then p else p - 1) (fun r => x (r + 1)) := by
  funext i r
  show putV v p x (skip j i) (r + 1) = _
  by_cases e : skip j i = p
  · have e2 : i = if p < j then p else p - 1 := by
      unfold skip at e
      split at e <;> split <;> omega
    rw [e, putV_same, e2, putV_same]
  · have e2 : i ≠ if p < j then p else p - 1 := by
      intro z
      apply e
      unfold skip
      split at z <;> split <;> omega
    rw [putV_ne e, putV_ne e2]
    rfl
/-- linear in each place -/
theorem det_lin : ∀ {n p : Nat} {v : Vecs} {x y : Nat → Rat} {c : Rat}, p < n → det n (putV v p fun r => x r + c * y r) = det n (putV v p x) + c * det n (putV v p y)
  | 0, _, _, _, _, _, h => by omega
  | n + 1, p, v, x, y, c, h => by
    rw [det_succ, det_succ, det_succ, ← sumQ_lin]
    refine sumQ_congr fun j hj => ?_
    by_cases e : j = p
    · subst e
      rw [putV_same, putV_same, putV_same, minor_putV_self, minor_putV_self, minor_putV_self]
      grind
    · rw [putV_ne e, putV_ne e, putV_ne e, minor_putV_ne e, minor_putV_ne e, minor_putV_ne e]
      have hn : (if p < j then p else p - 1) < n := by split <;> omega
      rw [det_lin (v := minor v j) (x := fun r => x (r + 1)) (y := fun r => y (r + 1)) (c := c) hn]
      grind
/-- two neighbours alike -/
theorem det_adj : ∀ {n p : Nat} {v : Vecs}, p + 1 < n → v p = v (p + 1) → det n v = 0
  | 0, _, _, h, _ => by omega
  | n + 1, p, v, h, e => by
    rw [det_succ, sumQ_two (p := p) (q := p + 1) (by omega) h]
    · have em : minor v p = minor v (p + 1) := by
        funext i r
        show v (skip p i) (r + 1) = v (skip (p + 1) i) (r + 1)
        by_cases q : i = p
        · subst q
          rw [show skip i i = i + 1 by unfold skip; rw [if_neg (by omega)], show skip (i + 1) i = i by unfold skip; rw [if_pos (by omega)], e]
        · rw [show skip p i = skip (p + 1) i by unfold skip; split <;> split <;> omega]
      rw [em, e, sgn_succ]
      grind
    · intro j hj h1 h2
      have z : det n (minor v j) = 0 := by
        by_cases q : j < p
        · refine det_adj (p := p - 1) (by omega) ?_
          funext r
          show v (skip j (p - 1)) (r + 1) = v (skip j (p - 1 + 1)) (r + 1)
          rw [show skip j (p - 1) = p by unfold skip; split <;> omega, show skip j (p - 1 + 1) = p + 1 by unfold skip; split <;> omega, e]
        · refine det_adj (p := p) (by omega) ?_
          funext r
          show v (skip j p) (r + 1) = v (skip j (p + 1)) (r + 1)
          rw [show skip j p = p by unfold skip; split <;> omega, show skip j (p + 1) = p + 1 by unfold skip; split <;> omega, e]
      rw [z]
      grind
/-- neighbours changed for one another -/
theorem det_swap {n p : Nat} {v : Vecs} (h : p + 1 < n) : det n (putV (putV v p (v (p + 1))) (p + 1) (v p)) = - det n v := by
  have l1 : ∀ x y : Nat → Rat, det n (putV (putV v p x) (p + 1) y) = det n (putV (putV v (p + 1) y) p x) := fun x y => by
    congr 1
    funext i
    by_cases a : i = p
    · subst a
      rw [putV_ne (by omega), putV_same, putV_same]
    · by_cases b : i = p + 1
      · subst b
        rw [putV_same, putV_ne (by omega), putV_same]
      · rw [putV_ne b, putV_ne a, putV_ne a, putV_ne b]
  have z : ∀ x : Nat → Rat, det n (putV (putV v p x) (p + 1) x) = 0 := fun x => det_adj h (by rw [putV_ne (by omega), putV_same, putV_same])
  -- the sum of both at both places
  have s : det n (putV (putV v p fun r => v p r + 1 * v (p + 1) r) (p + 1) fun r => v p r + 1 * v (p + 1) r) = 0 := z _
  rw [det_lin h, l1, l1, det_lin (by omega), det_lin (by omega), ← l1, ← l1, ← l1, ← l1] at s
  rw [z, z] at s
  have e : putV (putV v p (v p)) (p + 1) (v (p + 1)) = v := by rw [putV_id, putV_id]
  rw [e] at s
  grind
/-- two alike -/
theorem det_same : ∀ {d n p : Nat} {v : Vecs}, p + 1 + d < n → v p = v (p + 1 + d) → det n v = 0
  | 0, n, p, v, h, e => det_adj h e
  | d + 1, n, p, v, h, e => by
    have s := det_swap (n := n) (p := p + 1 + d) (v := v) (by omega)
    have z : det n (putV (putV v (p + 1 + d) (v (p + 1 + d + 1))) (p + 1 + d + 1) (v (p + 1 + d))) = 0 := by
      refine det_same (d := d) (p := p) (by omega) ?_
      rw [putV_ne (by omega), putV_ne (by omega), putV_ne (by omega), putV_same, e]
      rfl
    rw [z] at s
    grind
theorem det_two {n p q : Nat} {v : Vecs} (hp : p < n) (hq : q < n) (hne : p ≠ q) (e : v p = v q) : det n v = 0 := by
  by_cases h : p < q
  · exact det_same (d := q - (p + 1)) (p := p) (by omega) (by rw [show p + 1 + (q - (p + 1)) = q by omega]; exact e)
  · exact det_same (d := p - (q + 1)) (p := q) (by omega) (by rw [show q + 1 + (p - (q + 1)) = p by omega]; exact e.symm)
def unitV : Vecs := fun i r => if i = r then 1 else 0
theorem det_unit : ∀ n : Nat, det n unitV = 1
  | 0 => rfl
  | n + 1 => by
    rw [det_succ, sumQ_one (p := 0) (by omega)]
    · have e : minor unitV 0 = unitV := by
        funext i r
        show (if skip 0 i = r + 1 then (1 : Rat) else 0) = if i = r then 1 else 0
        have k : skip 0 i = i + 1 := if_neg (by omega)
        rw [k]
        by_cases h : i = r
        · rw [if_pos h, if_pos (by omega)]
        · rw [if_neg h, if_neg (by omega)]
      rw [e, det_unit n]
      show sgn 0 * 1 * 1 = 1
      have k : sgn 0 = 1 := if_pos rfl
      rw [k]
      grind
    · intro i _ h
      have e : unitV i 0 = 0 := if_neg h
      rw [e]
      grind
/-- a sum put in a place -/
theorem det_sum {n p : Nat} {v : Vecs} (hp : p < n) (c : Nat → Rat) (u : Vecs) : ∀ m : Nat, det n (putV v p fun r => sumQ m fun t => c t * u t r) = sumQ m fun t => c t * det n (putV v p (u t))
  | 0 => by
    have e : (fun _ : Nat => (0 : Rat)) = fun r => (fun _ => 0) r + (-1 : Rat) * (fun _ : Nat => (0 : Rat)) r := by
      funext r
      show (0 : Rat) = 0 + -1 * 0
      grind
    show det n (putV v p fun _ => 0) = 0
    have l := det_lin (v := v) (x := fun _ => 0) (y := fun _ => 0) (c := -1) hp
    rw [← e] at l
    grind
  | m + 1 => by
    show det n (putV v p fun r => (sumQ m fun t => c t * u t r) + c m * u m r) = (sumQ m fun t => c t * det n (putV v p (u t))) + c m * det n (putV v p (u m))
    rw [det_lin (x := fun r => sumQ m fun t => c t * u t r) (y := u m) hp, det_sum hp c u m]
/-- CRAMER: a vector of known parts in a basis, put in a place -/
theorem det_cramer {n p : Nat} {b : Vecs} (hp : p < n) (c : Nat → Rat) : det n (putV b p fun r => sumQ n fun t => c t * b t r) = c p * det n b := by
  rw [det_sum hp, sumQ_one hp]
  · rw [putV_id]
  · intro i hi hne
    rw [det_two (p := i) (q := p) hi hp hne (by rw [putV_ne hne, putV_same])]
    grind

/-- whole numbers give a whole number -/
theorem sum_int {m : Nat} {f : Nat → Rat} {B : Nat} (h : ∀ i, i < m → ∃ z : Int, f i = (z : Rat) ∧ z.natAbs ≤ B) : ∃ z : Int, sumQ m f = (z : Rat) ∧ z.natAbs ≤ m * B := by
  induction m with
  | zero => exact ⟨0, rfl, by simp⟩
  | succ m ih =>
    obtain ⟨z, e, hz⟩ := ih fun i hi => h i (by omega)
    obtain ⟨y, e2, hy⟩ := h m (by omega)
    refine ⟨z + y, ?_, ?_⟩
    · show sumQ m f + f m = _
      rw [e, e2, Rat.intCast_add]
    · rw [Nat.succ_mul]
      omega
theorem det_int : ∀ {n N E : Nat} {v : Vecs}, n ≤ N → (∀ i, i < n → ∀ r, r < n → ∃ z : Int, v i r = (z : Rat) ∧ z.natAbs ≤ E) → ∃ z : Int, det n v = (z : Rat) ∧ z.natAbs ≤ (N * E) ^ n
  | 0, _, _, _, _, _ => ⟨1, rfl, by simp⟩
  | n + 1, N, E, v, hn, h => by
    have hz : ∃ z : Int, det (n + 1) v = (z : Rat) ∧ z.natAbs ≤ (n + 1) * (E * (N * E) ^ n) := by
      rw [det_succ]
      refine sum_int fun j hj => ?_
      obtain ⟨a, ea, ha⟩ := h j hj 0 (by omega)
      obtain ⟨d, ed, hd⟩ := det_int (n := n) (N := N) (E := E) (v := minor v j) (by omega) fun i hi r hr => h _ (by unfold skip; split <;> omega) _ (by omega)
      have hb : (a * d).natAbs ≤ E * (N * E) ^ n := by
        rw [Int.natAbs_mul]
        exact Nat.mul_le_mul ha hd
      rw [ea, ed]
      unfold sgn
      by_cases q : j % 2 = 0
      · rw [if_pos q]
        exact ⟨a * d, by rw [Rat.intCast_mul]; grind, hb⟩
      · rw [if_neg q]
        exact ⟨-(a * d), by rw [Rat.intCast_neg, Rat.intCast_mul]; grind, by rw [Int.natAbs_neg]; exact hb⟩
    obtain ⟨z, e, hz⟩ := hz
    refine ⟨z, e, Nat.le_trans hz ?_⟩
    rw [Nat.pow_succ, ← Nat.mul_assoc, Nat.mul_comm ((N * E) ^ n)]
    exact Nat.mul_le_mul_right _ (Nat.mul_le_mul_right _ hn)
end WR
end PartWDet
section PartWElim
set_option Elab.async false
/-! Elimination: Gauss and Jordan over the rationals, Bareiss over the whole numbers, and that both say the same. -/
namespace WR

abbrev Mat := Nat → Nat → Rat
def gj (M : Mat) (k : Nat) : Mat := fun i j => if i = k then M k j / M k k else M i j - M i k * (M k j / M k k)
def gjs (A : Mat) : Nat → Mat
  | 0 => A
  | k + 1 => gj (gjs A k) k
def piv (A : Mat) : Nat → Rat
  | 0 => 1
  | k + 1 => piv A k * gjs A k k k
theorem gjs_succ (A : Mat) (k : Nat) : gjs A (k + 1) = gj (gjs A k) k := rfl
theorem gj_self (M : Mat) (k j : Nat) : gj M k k j = M k j / M k k := if_pos rfl
theorem gj_ne {M : Mat} {k i j : Nat} (h : i ≠ k) : gj M k i j = M i j - M i k * (M k j / M k k) := if_neg h

theorem sumQ_upd {n k : Nat} {f g : Nat → Rat} (hk : k < n) (h : ∀ t, t < n → t ≠ k → g t = f t) : sumQ n g = sumQ n f + (g k - f k) := by
  have e : sumQ n (fun t => g t + (-1) * f t) = g k + (-1) * f k := by
    rw [sumQ_one hk]
    intro t ht hne
    rw [h t ht hne]
    grind
  rw [sumQ_lin] at e
  grind
/-- the basis: k columns, then unit vectors -/
def bas (A : Mat) (k : Nat) : Vecs := fun i r => if i < k then A r i else unitV i r
theorem bas_step (A : Mat) (k : Nat) : bas A (k + 1) = putV (bas A k) k (fun r => A r k) := by
  funext i r
  by_cases h : i = k
  · subst h
    rw [putV_same]
    exact if_pos (by omega)
  · rw [putV_ne h]
    unfold bas
    by_cases q : i < k
    · rw [if_pos q, if_pos (by omega)]
    · rw [if_neg q, if_neg (by omega)]
theorem span {A : Mat} {n : Nat} : ∀ {k : Nat}, k ≤ n → (∀ t, t < k → gjs A t t t ≠ 0) → ∀ j r, r < n → A r j = sumQ n fun t => gjs A k t j * bas A k t r
  | 0, _, _, j, r, hr => by
    have e : ∀ t, t < n → t ≠ r → gjs A 0 t j * bas A 0 t r = 0 := fun t _ hne => by
      have z : bas A 0 t r = 0 := by
        show (if t < 0 then A r t else unitV t r) = 0
        rw [if_neg (by omega)]
        exact if_neg hne
      rw [z]
      grind
    rw [sumQ_one hr e]
    have z : bas A 0 r r = 1 := by
      show (if r < 0 then A r r else unitV r r) = 1
      rw [if_neg (by omega)]
      exact if_pos rfl
    rw [z]
    show A r j = A r j * 1
    grind
  | k + 1, hk, hp, j, r, hr => by
    have ih := fun j => span (A := A) (k := k) (by omega) (fun t ht => hp t (by omega)) j r hr
    have p := hp k (by omega)
    have ij := ih j
    have ik := ih k
    rw [gjs_succ, bas_step]
    generalize gjs A k = M at *
    generalize hb : bas A k = b at *
    have ef : sumQ n (fun t => M t j * b t r + (-(M k j / M k k)) * (M t k * b t r)) = A r j + (-(M k j / M k k)) * A r k := by
      rw [sumQ_lin, ← ij, ← ik]
    have eg := sumQ_upd (n := n) (k := k) (f := fun t => M t j * b t r + (-(M k j / M k k)) * (M t k * b t r)) (g := fun t => gj M k t j * putV b k (fun r => A r k) t r) (by omega) (fun t _ hne => by
      show gj M k t j * putV b k (fun r => A r k) t r = _
      rw [gj_ne hne, putV_ne hne]
      grind)
    rw [eg, ef]
    show A r j = A r j + -(M k j / M k k) * A r k + (gj M k k j * putV b k (fun r => A r k) k r - (M k j * b k r + -(M k j / M k k) * (M k k * b k r)))
    rw [gj_self, putV_same]
    grind
theorem det_col {A : Mat} {n k i : Nat} (hk : k ≤ n) (hp : ∀ t, t < k → gjs A t t t ≠ 0) (hi : i < n) (j : Nat) : det n (putV (bas A k) i fun r => A r j) = gjs A k i j * det n (bas A k) := by
  rw [← det_cramer (b := bas A k) hi (fun t => gjs A k t j)]
  refine det_congr fun q hq r hr => ?_
  by_cases e : q = i
  · subst e
    rw [putV_same, putV_same]
    exact span hk hp j r hr
  · rw [putV_ne e, putV_ne e]
theorem det_bas {A : Mat} {n : Nat} : ∀ {k : Nat}, k ≤ n → (∀ t, t < k → gjs A t t t ≠ 0) → det n (bas A k) = piv A k
  | 0, _, _ => by
    have e : bas A 0 = unitV := by
      funext i r
      exact if_neg (by omega)
    rw [e, det_unit]
    rfl
  | k + 1, hk, hp => by
    rw [bas_step, det_col (by omega) (fun t ht => hp t (by omega)) (by omega), det_bas (by omega) fun t ht => hp t (by omega)]
    show _ = piv A k * gjs A k k k
    grind
/-- all that Bareiss reckons is whole, and not great -/
theorem whole {a : Nat → Nat → Int} {n N E k : Nat} (hN : n ≤ N) (h1 : 1 ≤ E) (hE : ∀ i j, i < n → j ≤ n → (a i j).natAbs ≤ E) (hk : k ≤ n) (hp : ∀ t, t < k → gjs (fun i j => (a i j : Rat)) t t t ≠ 0) {i j : Nat} (hi : i < n) (hj : j ≤ n) :
    ∃ z : Int, piv (fun i j => (a i j : Rat)) k * gjs (fun i j => (a i j : Rat)) k i j = (z : Rat) ∧ z.natAbs ≤ (N * E) ^ n := by
  have d := det_col (A := fun i j => (a i j : Rat)) hk hp hi j
  rw [det_bas hk hp] at d
  obtain ⟨z, e, hz⟩ := det_int (n := n) (N := N) (E := E) (v := putV (bas (fun i j => (a i j : Rat)) k) i fun r => (a r j : Rat)) hN fun q hq r hr => by
    by_cases e : q = i
    · subst e
      rw [putV_same]
      exact ⟨a r j, rfl, hE r j hr hj⟩
    · rw [putV_ne e]
      unfold bas
      by_cases l : q < k
      · rw [if_pos l]
        exact ⟨a r q, rfl, hE r q hr (by omega)⟩
      · rw [if_neg l]
        unfold unitV
        by_cases s : q = r
        · rw [if_pos s]
          exact ⟨1, rfl, h1⟩
        · rw [if_neg s]
          exact ⟨0, rfl, Nat.zero_le _⟩
  refine ⟨z, ?_, hz⟩
  rw [← e, d]
  grind

/-! ### Bareiss -/
def bst (a : Nat → Nat → Int) : Nat → (Nat → Nat → Int) × Int
  | 0 => (a, 1)
  | k + 1 => (fun i j => if i = k then (bst a k).1 k j else ((bst a k).1 k k * (bst a k).1 i j - (bst a k).1 i k * (bst a k).1 k j) / (bst a k).2, (bst a k).1 k k)
theorem bst_succ (a : Nat → Nat → Int) (k : Nat) : bst a (k + 1) = (fun i j => if i = k then (bst a k).1 k j else ((bst a k).1 k k * (bst a k).1 i j - (bst a k).1 i k * (bst a k).1 k j) / (bst a k).2, (bst a k).1 k k) := rfl
theorem piv_ne {A : Mat} : ∀ {k : Nat}, (∀ t, t < k → gjs A t t t ≠ 0) → piv A k ≠ 0
  | 0, _ => by
    show (1 : Rat) ≠ 0
    grind
  | k + 1, h => by
    show piv A k * gjs A k k k ≠ 0
    have h1 := piv_ne (A := A) (k := k) fun t ht => h t (by omega)
    have h2 := h k (by omega)
    intro z
    rcases Rat.mul_eq_zero.mp z with q | q
    · exact h1 q
    · exact h2 q
theorem bareiss {a : Nat → Nat → Int} {n N E : Nat} (hN : n ≤ N) (h1 : 1 ≤ E) (hE : ∀ i j, i < n → j ≤ n → (a i j).natAbs ≤ E) : ∀ {k : Nat}, k ≤ n → (∀ t, t < k → gjs (fun i j => (a i j : Rat)) t t t ≠ 0) →
    ((bst a k).2 : Rat) = piv (fun i j => (a i j : Rat)) k ∧ ∀ i j, i < n → j ≤ n → ((bst a k).1 i j : Rat) = piv (fun i j => (a i j : Rat)) k * gjs (fun i j => (a i j : Rat)) k i j
  | 0, _, _ => ⟨rfl, fun i j _ _ => by
    show (a i j : Rat) = 1 * (a i j : Rat)
    grind⟩
  | k + 1, hk, hp => by
    have hp' : ∀ t, t < k → gjs (fun i j => (a i j : Rat)) t t t ≠ 0 := fun t ht => hp t (by omega)
    obtain ⟨e2, e1⟩ := bareiss hN h1 hE (k := k) (by omega) hp'
    have pk := hp k (by omega)
    have dk := piv_ne hp'
    have w := fun i j (hi : i < n) (hj : j ≤ n) => whole hN h1 hE hk hp (i := i) (j := j) hi hj
    rw [bst_succ]
    refine ⟨by rw [e1 k k (by omega) (by omega)]; rfl, fun i j hi hj => ?_⟩
    show (((if i = k then (bst a k).1 k j else ((bst a k).1 k k * (bst a k).1 i j - (bst a k).1 i k * (bst a k).1 k j) / (bst a k).2 : Int)) : Rat) = piv _ k * gjs _ k k k * gj (gjs _ k) k i j
    by_cases q : i = k
    · subst q
      rw [if_pos rfl, e1 i j hi hj, gj_self]
      grind
    · rw [if_neg q, gj_ne q]
      obtain ⟨z, ez, _⟩ := w i j hi hj
      have ez2 : piv (fun i j => (a i j : Rat)) k * gjs (fun i j => (a i j : Rat)) k k k * (gj (gjs (fun i j => (a i j : Rat)) k) k i j) = (z : Rat) := ez
      rw [gj_ne q] at ez2
      -- the numerator is z times the divisor
      have num : ((bst a k).1 k k * (bst a k).1 i j - (bst a k).1 i k * (bst a k).1 k j) = z * (bst a k).2 := by
        have r : (((bst a k).1 k k * (bst a k).1 i j - (bst a k).1 i k * (bst a k).1 k j : Int) : Rat) = ((z * (bst a k).2 : Int) : Rat) := by
          rw [Rat.intCast_sub, Rat.intCast_mul, Rat.intCast_mul, Rat.intCast_mul, e1 k k (by omega) (by omega), e1 i j hi hj, e1 i k hi (by omega), e1 k j (by omega) hj, e2, ← ez2]
          grind
        exact Rat.intCast_inj.mp r
      have nz : (bst a k).2 ≠ 0 := fun z0 => dk (by rw [← e2, z0]; rfl)
      rw [num, Int.mul_ediv_cancel _ nz, ← ez2]
/-- the bounds in numbers -/
theorem bareiss_small {a : Nat → Nat → Int} {n N E : Nat} (hN : n ≤ N) (h1 : 1 ≤ E) (hE : ∀ i j, i < n → j ≤ n → (a i j).natAbs ≤ E) {k : Nat} (hk : k ≤ n) (hp : ∀ t, t < k → gjs (fun i j => (a i j : Rat)) t t t ≠ 0) {i j : Nat} (hi : i < n) (hj : j ≤ n) :
    ((bst a k).1 i j).natAbs ≤ (N * E) ^ n := by
  obtain ⟨z, e, hz⟩ := whole hN h1 hE hk hp hi hj
  have q := (bareiss hN h1 hE hk hp).2 i j hi hj
  rw [e] at q
  rw [Rat.intCast_inj.mp q]
  exact hz

/-! ### matrices of rooms: nothing above 0 off the diagonal, and a way up -/
/-- from place k on -/
def sumF (k : Nat) (n : Nat) (f : Nat → Rat) : Rat := sumQ n fun j => if k ≤ j then f j else 0
theorem sumF_step {k n : Nat} {f : Nat → Rat} (h : k < n) : sumF k n f = f k + sumF (k + 1) n f := by
  unfold sumF
  have e := sumQ_upd (n := n) (k := k) (f := fun j => if k + 1 ≤ j then f j else 0) (g := fun j => if k ≤ j then f j else 0) h fun t _ hne => by
    show (if k ≤ t then f t else 0) = if k + 1 ≤ t then f t else 0
    by_cases q : k ≤ t
    · rw [if_pos q, if_pos (by omega)]
    · rw [if_neg q, if_neg (by omega)]
  rw [e]
  show _ + ((if k ≤ k then f k else 0) - (if k + 1 ≤ k then f k else 0)) = _
  rw [if_pos (Nat.le_refl _), if_neg (by omega)]
  grind
theorem sumF_lin {k n : Nat} {f g : Nat → Rat} {c : Rat} : sumF k n (fun j => f j + c * g j) = sumF k n f + c * sumF k n g := by
  unfold sumF
  rw [← sumQ_lin]
  refine sumQ_congr fun j _ => ?_
  by_cases q : k ≤ j
  · rw [if_pos q, if_pos q, if_pos q]
  · rw [if_neg q, if_neg q, if_neg q]
    grind
theorem sumQ_nonpos {n : Nat} {f : Nat → Rat} (h : ∀ j, j < n → f j ≤ 0) : sumQ n f ≤ 0 := by
  induction n with
  | zero => exact Rat.le_refl
  | succ n ih =>
    show sumQ n f + f n ≤ 0
    have h1 := ih fun j hj => h j (by omega)
    have h2 := h n (by omega)
    grind
theorem sumF_nonpos {k n : Nat} {f : Nat → Rat} (h : ∀ j, k ≤ j → j < n → f j ≤ 0) : sumF k n f ≤ 0 := sumQ_nonpos fun j hj => by
  by_cases q : k ≤ j
  · rw [if_pos q]
    exact h j q hj
  · rw [if_neg q]
    exact Rat.le_refl
theorem sumF_congr {k n : Nat} {f g : Nat → Rat} (h : ∀ j, k ≤ j → j < n → f j = g j) : sumF k n f = sumF k n g := sumQ_congr fun j hj => by
  by_cases q : k ≤ j
  · rw [if_pos q, if_pos q, h j q hj]
  · rw [if_neg q, if_neg q]
theorem mul_nonpos_pos {a b : Rat} (h : a ≤ 0) (hb : 0 < b) : a * b ≤ 0 := by
  have q := Rat.mul_le_mul_of_nonneg_right (c := b) h (Rat.le_of_lt hb)
  grind
theorem mul_nonpos_nonpos {a b : Rat} (h : a ≤ 0) (hb : b ≤ 0) : 0 ≤ a * b := by
  have q := Rat.mul_le_mul_of_nonneg_right (a := 0) (b := -a) (c := -b) (by grind) (by grind)
  grind
theorem inv_pos' {a : Rat} (h : 0 < a) : 0 < a⁻¹ := Rat.inv_pos.mpr h
theorem div_nonpos_pos {a b : Rat} (h : a ≤ 0) (hb : 0 < b) : a / b ≤ 0 := by
  rw [Rat.div_def]
  exact mul_nonpos_pos h (inv_pos' hb)
structure Good (A : Mat) (n : Nat) (x : Nat → Rat) : Prop where
  off : ∀ i j, i < n → j < n → i ≠ j → A i j ≤ 0
  pos : ∀ i, i < n → 0 < x i
  up : ∀ i, i < n → 0 < sumQ n fun j => A i j * x j
structure Stage (A : Mat) (n : Nat) (x : Nat → Rat) (k : Nat) : Prop where
  off : ∀ i j, i < n → k ≤ j → j < n → i ≠ j → gjs A k i j ≤ 0
  up : ∀ i, k ≤ i → i < n → 0 < sumF k n fun j => gjs A k i j * x j
theorem Stage.piv_pos {A : Mat} {n k : Nat} {x : Nat → Rat} (hx : ∀ i, i < n → 0 < x i) (s : Stage A n x k) (hk : k < n) : 0 < gjs A k k k := by
  have u := s.up k (Nat.le_refl _) hk
  rw [sumF_step hk] at u
  have z : (sumF (k + 1) n fun j => gjs A k k j * x j) ≤ 0 := sumF_nonpos fun j h1 h2 => mul_nonpos_pos (s.off k j hk (by omega) h2 (by omega)) (hx j h2)
  have p : 0 < gjs A k k k * x k := by grind
  have xk := hx k hk
  by_cases q : gjs A k k k ≤ 0
  · have := mul_nonpos_pos q xk
    grind
  · grind
theorem stage {A : Mat} {n : Nat} {x : Nat → Rat} (g : Good A n x) : ∀ k, k ≤ n → Stage A n x k
  | 0, _ => ⟨fun i j hi _ hj hne => g.off i j hi hj hne, fun i _ hi => by
    have u := g.up i hi
    show 0 < sumQ n fun j => if 0 ≤ j then A i j * x j else 0
    rw [sumQ_congr (g := fun j => A i j * x j) fun j _ => if_pos (Nat.zero_le _)]
    exact u⟩
  | k + 1, hk => by
    have s := stage g k (by omega)
    have pp := s.piv_pos g.pos (by omega)
    have off' : ∀ i j, i < n → k + 1 ≤ j → j < n → i ≠ j → gjs A (k + 1) i j ≤ 0 := fun i j hi h1 h2 hne => by
      rw [gjs_succ]
      by_cases q : i = k
      · subst q
        rw [gj_self]
        exact div_nonpos_pos (s.off i j hi (by omega) h2 hne) pp
      · rw [gj_ne q]
        have a1 := s.off i j hi (by omega) h2 hne
        have a2 := s.off i k hi (Nat.le_refl _) (by omega) q
        have a3 := s.off k j (by omega) (by omega) h2 (by omega)
        have a4 := mul_nonpos_nonpos a2 (div_nonpos_pos a3 pp)
        grind
    refine ⟨off', fun i h1 h2 => ?_⟩
    have hik : i ≠ k := by omega
    have ui := s.up i (by omega) h2
    have uk := s.up k (Nat.le_refl _) (by omega)
    rw [sumF_step (by omega)] at ui uk
    have a2 := s.off i k h2 (Nat.le_refl _) (by omega) hik
    have e : (sumF (k + 1) n fun j => gjs A (k + 1) i j * x j) = (sumF (k + 1) n fun j => gjs A k i j * x j) + (-(gjs A k i k / gjs A k k k)) * (sumF (k + 1) n fun j => gjs A k k j * x j) := by
      rw [← sumF_lin]
      refine sumF_congr fun j _ _ => ?_
      rw [gjs_succ, gj_ne hik]
      grind
    rw [e]
    generalize (sumF (k + 1) n fun j => gjs A k i j * x j) = si at *
    generalize (sumF (k + 1) n fun j => gjs A k k j * x j) = sk at *
    have f := div_nonpos_pos a2 pp
    have f2 : 0 ≤ (-(gjs A k i k / gjs A k k k)) * (gjs A k k k * x k + sk) := by
      have := Rat.mul_le_mul_of_nonneg_right (a := 0) (b := -(gjs A k i k / gjs A k k k)) (c := gjs A k k k * x k + sk) (by grind) (by grind)
      grind
    have f3 : (-(gjs A k i k / gjs A k k k)) * (gjs A k k k * x k) = -(gjs A k i k * x k) := by grind
    grind
theorem Good.piv_pos {A : Mat} {n : Nat} {x : Nat → Rat} (g : Good A n x) {k : Nat} (hk : k < n) : 0 < gjs A k k k := (stage g k (by omega)).piv_pos g.pos hk
theorem Good.ne {A : Mat} {n : Nat} {x : Nat → Rat} (g : Good A n x) {k : Nat} (hk : k ≤ n) : ∀ t, t < k → gjs A t t t ≠ 0 := fun t ht z => by
  have p := g.piv_pos (k := t) (by omega)
  rw [z] at p
  grind
theorem Good.d_pos {A : Mat} {n : Nat} {x : Nat → Rat} (g : Good A n x) : ∀ {k : Nat}, k ≤ n → 0 < piv A k
  | 0, _ => by
    show (0 : Rat) < 1
    grind
  | k + 1, hk => Rat.mul_pos (g.d_pos (by omega)) (g.piv_pos (by omega))

/-! ### another right side -/
/-- the columns ahead of the right side do not look at it -/
theorem gjs_cols {A B : Mat} {n : Nat} (h : ∀ i j, i < n → j < n → A i j = B i j) : ∀ (k : Nat), k ≤ n → ∀ i j, i < n → j < n → gjs A k i j = gjs B k i j
  | 0, _, i, j, hi, hj => h i j hi hj
  | k + 1, hk, i, j, hi, hj => by
    have ih := gjs_cols h k (by omega)
    rw [gjs_succ, gjs_succ]
    by_cases q : i = k
    · subst q
      rw [gj_self, gj_self, ih i j hi hj, ih i i hi hi]
    · rw [gj_ne q, gj_ne q, ih i j hi hj, ih i k hi (by omega), ih k j (by omega) hj, ih k k (by omega) (by omega)]
theorem gjs_line {A B C : Mat} {n : Nat} {u : Rat} (h1 : ∀ i j, i < n → j < n → A i j = B i j) (h2 : ∀ i j, i < n → j < n → A i j = C i j) (hu : ∀ i, i < n → C i n = A i n + u * (B i n - A i n)) :
    ∀ (k : Nat), k ≤ n → ∀ i, i < n → gjs C k i n = gjs A k i n + u * (gjs B k i n - gjs A k i n)
  | 0, _, i, hi => hu i hi
  | k + 1, hk, i, hi => by
    have ih := gjs_line h1 h2 hu k (by omega)
    have c1 := gjs_cols h1 k (by omega)
    have c2 := gjs_cols h2 k (by omega)
    rw [gjs_succ, gjs_succ, gjs_succ]
    by_cases q : i = k
    · subst q
      rw [gj_self, gj_self, gj_self, ih i hi, ← c1 i i hi hi, ← c2 i i hi hi]
      grind
    · rw [gj_ne q, gj_ne q, gj_ne q, ih i hi, ih k (by omega), ← c1 i k hi (by omega), ← c2 i k hi (by omega), ← c1 k k (by omega) (by omega), ← c2 k k (by omega) (by omega)]
      grind
theorem gjs_mono {A B : Mat} {n : Nat} {x : Nat → Rat} (g : Good A n x) (h1 : ∀ i j, i < n → j < n → A i j = B i j) (hu : ∀ i, i < n → A i n ≤ B i n) : ∀ (k : Nat), k ≤ n → ∀ i, i < n → gjs A k i n ≤ gjs B k i n
  | 0, _, i, hi => hu i hi
  | k + 1, hk, i, hi => by
    have ih := gjs_mono g h1 hu k (by omega)
    have c1 := gjs_cols h1 k (by omega)
    have pp := g.piv_pos (k := k) (by omega)
    have s := stage g k (by omega)
    have dk : (gjs A k k n - gjs B k k n) / gjs A k k k ≤ 0 := div_nonpos_pos (by have := ih k (by omega); grind) pp
    rw [gjs_succ, gjs_succ]
    by_cases q : i = k
    · subst q
      rw [gj_self, gj_self, ← c1 i i hi hi]
      grind
    · rw [gj_ne q, gj_ne q, ← c1 i k hi (by omega), ← c1 k k (by omega) (by omega)]
      have a2 := s.off i k hi (Nat.le_refl _) (by omega) q
      have a4 := mul_nonpos_nonpos a2 dk
      have := ih i hi
      grind
theorem piv_cols {A B : Mat} {n : Nat} (h : ∀ i j, i < n → j < n → A i j = B i j) : ∀ (k : Nat), k ≤ n → piv A k = piv B k
  | 0, _ => rfl
  | k + 1, hk => by
    show piv A k * gjs A k k k = piv B k * gjs B k k k
    rw [piv_cols h k (by omega), gjs_cols h k (by omega) k k (by omega) (by omega)]
end WR
end PartWElim
section PartWMir
set_option Elab.async false
set_option linter.all false
/-! The mirror of the steps: what the program's defs reckon, as plain functions over whole numbers; how great these grow. -/
namespace WR
open Vbbcab

def idx (n : Nat) : Nat := if isOut n = true then n - OUT else n
def warmZ (cells : List Int) (s : Nat) (wt : List Int) (n : Nat) : Int := if isOut n = true then wt.getD (idx n) 0 * 2 ^ s else cells.getD (idx n) 0
def flowZ (cells : List Int) (s : Nat) (wt : List Int) (l : Link) : Int := (l.g : Int) * (warmZ cells s wt l.a - warmZ cells s wt l.b)
def bump (l : List Int) (i : Nat) (a : Int) : List Int := l.set i (l.getD i 0 + a)
def takeZ (st : List Int × List Int) (n : Nat) (a : Int) : List Int × List Int := if isOut n = true then (st.1, bump st.2 (idx n) a) else (bump st.1 (idx n) a, st.2)
def flowsStep (cells : List Int) (s : Nat) (wt : List Int) (st : List Int × List Int) (l : Link) : List Int × List Int := takeZ (takeZ st l.a (0 - flowZ cells s wt l)) l.b (flowZ cells s wt l)
def flowsZ (ls : List Link) (cells : List Int) (s : Nat) (wt : List Int) : List Int × List Int := ls.foldl (flowsStep cells s wt) (List.replicate cells.length 0, List.replicate wt.length 0)
def heatsStep (f : List Int) (x : Heater × Nat) : List Int := bump f x.1.room (x.2 : Int)
def heatsZ (n : Nat) (hs : List Heater) (lv : List Nat) : List Int := (hs.zip lv).foldl heatsStep (List.replicate n 0)
def wideZ (b : Building) : Nat := 6 + (b.rooms.map fun r => r.cap).foldl max 0
def stepAt (b : Building) (cells : List Int) (s : Nat) (fl ht : List Int) (i : Nat) : Int :=
  cells.getD i 0 * 2 ^ wideZ b + (fl.getD i 0 + ht.getD i 0 * 2 ^ (s + 6)) * 2 ^ (wideZ b - 6 - capOf b i)
def stepZ (b : Building) (cells : List Int) (s : Nat) (wt : List Int) (lv : List Nat) : List Int :=
  (List.range cells.length).map (stepAt b cells s (flowsZ b.links cells s wt).1 (heatsZ b.rooms.length b.heaters lv))
def gonZ (b : Building) (wt : List Int) (lv : List Nat) : Nat → List Int → Nat → List Int × Nat
  | 0, c, s => (c, s)
  | n + 1, c, s => gonZ b wt lv n (stepZ b c s wt lv) (s + wideZ b)

/-! ### well-made buildings -/
structure WfB (b : Building) : Prop where
  nr : b.rooms.length ≤ 12
  no : b.outs.length ≤ 4
  nl : b.links.length ≤ 40
  nh : b.heaters.length ≤ 8
  cap : ∀ r ∈ b.rooms, r.cap ≤ 10
  warm : ∀ r ∈ b.rooms, r.first.natAbs ≤ 100000
  outw : ∀ r ∈ b.outs, r.first.natAbs ≤ 100000
  ends : ∀ l ∈ b.links, (if isOut l.a = true then idx l.a < b.outs.length else idx l.a < b.rooms.length) ∧ (if isOut l.b = true then idx l.b < b.outs.length else idx l.b < b.rooms.length)
  apart : ∀ l ∈ b.links, l.a ≠ l.b ∧ ¬ (isOut l.a = true ∧ isOut l.b = true)
  g : ∀ l ∈ b.links, 1 ≤ l.g ∧ l.g ≤ 100000
  hroom : ∀ h ∈ b.heaters, h.room < b.rooms.length
  most : ∀ h ∈ b.heaters, h.most ≤ 1000000
  rname : ∀ r ∈ b.rooms, r.name.length ≤ 12
  oname : ∀ r ∈ b.outs, r.name.length ≤ 12
  hname : ∀ h ∈ b.heaters, h.name.length ≤ 12
/-- weather and levels that fit -/
structure WfW (b : Building) (wt : List Int) (lv : List Nat) : Prop where
  lw : wt.length = b.outs.length
  ll : lv.length = b.heaters.length
  warm : ∀ t ∈ wt, t.natAbs ≤ 100000
  lev : ∀ n ∈ lv, n ≤ 1000000

/-! ### how great -/
def Sm (n : Nat) (i : Int) : Prop := i.natAbs < 2 ^ n
def SmL (n : Nat) (l : List Int) : Prop := ∀ i ∈ l, Sm n i
theorem Sm.mono {n m : Nat} {i : Int} (h : Sm n i) (hm : n ≤ m) : Sm m i := Nat.lt_of_lt_of_le h (Nat.pow_le_pow_right (by decide) hm)
theorem Sm.zero (n : Nat) : Sm n 0 := Nat.two_pow_pos n
theorem Sm.add {n : Nat} {i j : Int} (h : Sm n i) (h2 : Sm n j) : Sm (n + 1) (i + j) := by
  unfold Sm at *
  rw [Nat.pow_succ]
  omega
theorem Sm.neg {n : Nat} {i : Int} (h : Sm n i) : Sm n (-i) := by
  unfold Sm at *
  omega
theorem Sm.sub {n : Nat} {i j : Int} (h : Sm n i) (h2 : Sm n j) : Sm (n + 1) (i - j) := by
  rw [Int.sub_eq_add_neg]
  exact h.add h2.neg
theorem Sm.mul {n m : Nat} {i j : Int} (h : Sm n i) (h2 : Sm m j) : Sm (n + m) (i * j) := by
  unfold Sm at *
  rw [Int.natAbs_mul, Nat.pow_add]
  exact Nat.mul_lt_mul'' h h2
theorem Sm.shl {n : Nat} {i : Int} (h : Sm n i) (k : Nat) : Sm (n + k) (i * 2 ^ k) := by
  unfold Sm at *
  rw [Int.natAbs_mul, Int.natAbs_pow, Nat.pow_add]
  exact Nat.mul_lt_mul_of_pos_right h (Nat.two_pow_pos k)
theorem Sm.of_le {n : Nat} {i : Int} {m : Nat} (h : i.natAbs ≤ m) (hm : m < 2 ^ n) : Sm n i := Nat.lt_of_le_of_lt h hm
theorem SmL.mono {n m : Nat} {l : List Int} (h : SmL n l) (hm : n ≤ m) : SmL m l := fun i hi => (h i hi).mono hm
theorem SmL.getD {n : Nat} {l : List Int} (h : SmL n l) (i : Nat) : Sm n (l.getD i 0) := by
  rw [List.getD_eq_getElem?_getD]
  cases e : l[i]? with
  | none => exact Sm.zero n
  | some x => exact h x (List.mem_of_getElem? e)
theorem warmZ_sm {cells : List Int} {s : Nat} {wt : List Int} {n : Nat} (k : Nat) (h : SmL n cells) (hw : ∀ t ∈ wt, t.natAbs ≤ 100000) (hs : s + 17 ≤ n) : Sm n (warmZ cells s wt k) := by
  unfold warmZ
  split
  · have h17 : Sm 17 (wt.getD (idx k) 0) := by
      rw [List.getD_eq_getElem?_getD]
      cases e : wt[idx k]? with
      | none => exact Sm.zero _
      | some x => exact Sm.of_le (hw x (List.mem_of_getElem? e)) (by decide)
    exact (h17.shl s).mono (by omega)
  · exact h.getD _
theorem flowZ_sm {cells : List Int} {s : Nat} {wt : List Int} {n : Nat} {l : Link} (h : SmL n cells) (hw : ∀ t ∈ wt, t.natAbs ≤ 100000) (hs : s + 17 ≤ n) (hg : l.g ≤ 100000) : Sm (n + 18) (flowZ cells s wt l) := by
  have g : Sm 17 (l.g : Int) := Sm.of_le (m := 100000) (by omega) (by decide)
  exact (g.mul ((warmZ_sm l.a h hw hs).sub (warmZ_sm l.b h hw hs))).mono (by omega)
/-- no item beyond k times A -/
def Lim (k A : Nat) (l : List Int) : Prop := ∀ i ∈ l, i.natAbs ≤ k * A
theorem Lim.bump {k A : Nat} {l : List Int} {i : Nat} {a : Int} (h : Lim k A l) (ha : a.natAbs ≤ A) : Lim (k + 1) A (bump l i a) := by
  intro x hx
  unfold WR.bump at hx
  rcases List.mem_or_eq_of_mem_set hx with q | q
  · have := h x q
    rw [Nat.succ_mul]
    omega
  · subst q
    have : (l.getD i 0).natAbs ≤ k * A := by
      rw [List.getD_eq_getElem?_getD]
      cases e : l[i]? with
      | none => exact Nat.zero_le _
      | some y => exact h y (List.mem_of_getElem? e)
    rw [Nat.succ_mul]
    omega
theorem Lim.up {k m A : Nat} {l : List Int} (h : Lim k A l) (hm : k ≤ m) : Lim m A l := fun i hi => Nat.le_trans (h i hi) (Nat.mul_le_mul_right _ hm)
theorem takeZ_lim {k A : Nat} {st : List Int × List Int} {n : Nat} {a : Int} (h : Lim k A st.1 ∧ Lim k A st.2) (ha : a.natAbs ≤ A) : Lim (k + 1) A (takeZ st n a).1 ∧ Lim (k + 1) A (takeZ st n a).2 := by
  unfold takeZ
  split
  · exact ⟨h.1.up (by omega), h.2.bump ha⟩
  · exact ⟨h.1.bump ha, h.2.up (by omega)⟩
theorem flows_lim {cells : List Int} {s : Nat} {wt : List Int} {A : Nat} : ∀ {ls : List Link} {k : Nat} {st : List Int × List Int}, (∀ l ∈ ls, (flowZ cells s wt l).natAbs ≤ A) → Lim k A st.1 ∧ Lim k A st.2 →
    Lim (k + 2 * ls.length) A (ls.foldl (flowsStep cells s wt) st).1 ∧ Lim (k + 2 * ls.length) A (ls.foldl (flowsStep cells s wt) st).2
  | [], k, st, _, h => h
  | l :: r, k, st, hl, h => by
    have a := hl l (List.mem_cons_self ..)
    have h1 := takeZ_lim (n := l.a) (a := 0 - flowZ cells s wt l) h (by omega)
    have h2 := takeZ_lim (n := l.b) (a := flowZ cells s wt l) h1 a
    have q := flows_lim (ls := r) (k := k + 1 + 1) (st := flowsStep cells s wt st l) (fun x hx => hl x (List.mem_cons_of_mem _ hx)) h2
    rw [List.length_cons, List.foldl_cons]
    rw [show k + 2 * (r.length + 1) = k + 1 + 1 + 2 * r.length by omega]
    exact q
theorem flowsZ_sm {ls : List Link} {cells : List Int} {s : Nat} {wt : List Int} {n : Nat} (h : SmL n cells) (hw : ∀ t ∈ wt, t.natAbs ≤ 100000) (hs : s + 17 ≤ n) (hg : ∀ l ∈ ls, l.g ≤ 100000) (hn : ls.length ≤ 40) :
    SmL (n + 25) (flowsZ ls cells s wt).1 ∧ SmL (n + 25) (flowsZ ls cells s wt).2 := by
  have z : ∀ m : Nat, Lim 0 (2 ^ (n + 18)) (List.replicate m (0 : Int)) := fun m i hi => by
    rw [(List.mem_replicate.mp hi).2]
    exact Nat.zero_le _
  obtain ⟨a, b⟩ := flows_lim (cells := cells) (s := s) (wt := wt) (A := 2 ^ (n + 18)) (ls := ls) (k := 0) (st := (List.replicate cells.length 0, List.replicate wt.length 0)) (fun l hl => Nat.le_of_lt (flowZ_sm h hw hs (hg l hl))) ⟨z _, z _⟩
  have e : ∀ i : Int, i.natAbs ≤ (0 + 2 * ls.length) * 2 ^ (n + 18) → Sm (n + 25) i := fun i hi => by
    refine Nat.lt_of_le_of_lt hi ?_
    rw [show n + 25 = 7 + (n + 18) by omega, Nat.pow_add 2 7]
    exact Nat.mul_lt_mul_of_pos_right (by omega) (Nat.two_pow_pos _)
  exact ⟨fun i hi => e i (a i hi), fun i hi => e i (b i hi)⟩
theorem heats_lim {A : Nat} : ∀ {hs : List Heater} {lv : List Nat} {k : Nat} {f : List Int}, (∀ n ∈ lv, n ≤ A) → Lim k A f → Lim (k + hs.length) A ((hs.zip lv).foldl heatsStep f)
  | [], lv, k, f, _, h => by
    rw [List.zip_nil_left]
    exact h
  | x :: hs, [], k, f, _, h => by
    rw [List.zip_nil_right]
    exact h.up (by omega)
  | x :: hs, y :: lv, k, f, hl, h => by
    rw [List.zip_cons_cons, List.foldl_cons]
    have q := heats_lim (hs := hs) (lv := lv) (k := k + 1) (f := heatsStep f (x, y)) (fun n hn => hl n (List.mem_cons_of_mem _ hn)) (h.bump (by have := hl y (List.mem_cons_self ..); show ((y : Int)).natAbs ≤ A; omega))
    rw [List.length_cons]
    exact q.up (by omega)
theorem heatsZ_sm {n : Nat} {hs : List Heater} {lv : List Nat} (hl : ∀ n ∈ lv, n ≤ 1000000) (hh : hs.length ≤ 8) : SmL 23 (heatsZ n hs lv) := by
  have z : Lim 0 1000000 (List.replicate n (0 : Int)) := fun i hi => by
    rw [(List.mem_replicate.mp hi).2]
    exact Nat.zero_le _
  have q := heats_lim (A := 1000000) (hs := hs) (lv := lv) hl z
  intro i hi
  have := q i hi
  refine Nat.lt_of_le_of_lt (m := 8 * 1000000) ?_ (by decide)
  refine Nat.le_trans this (Nat.mul_le_mul_right _ (by omega))
theorem foldl_max_le : ∀ (l : List Nat) (a m : Nat), a ≤ m → (∀ x ∈ l, x ≤ m) → l.foldl max a ≤ m
  | [], a, m, h, _ => h
  | x :: r, a, m, h, hl => foldl_max_le r (max a x) m (Nat.max_le.mpr ⟨h, hl x (List.mem_cons_self ..)⟩) fun y hy => hl y (List.mem_cons_of_mem _ hy)
theorem le_foldl_max : ∀ (l : List Nat) (a : Nat), a ≤ l.foldl max a ∧ ∀ x ∈ l, x ≤ l.foldl max a
  | [], a => ⟨Nat.le_refl _, fun x hx => by cases hx⟩
  | y :: r, a => by
    obtain ⟨h1, h2⟩ := le_foldl_max r (max a y)
    refine ⟨Nat.le_trans (Nat.le_max_left _ _) h1, fun x hx => ?_⟩
    rcases List.mem_cons.mp hx with rfl | hx
    · exact Nat.le_trans (Nat.le_max_right _ _) h1
    · exact h2 x hx
theorem wideZ_le {b : Building} (h : WfB b) : wideZ b ≤ 16 := by
  have := foldl_max_le (b.rooms.map fun r => r.cap) 0 10 (by omega) (fun x hx => by
    obtain ⟨r, hr, rfl⟩ := List.mem_map.mp hx
    exact h.cap r hr)
  unfold wideZ
  omega
theorem capOf_le_wide (b : Building) (i : Nat) : 6 + capOf b i ≤ wideZ b := by
  unfold wideZ capOf
  cases e : b.rooms[i]? with
  | none =>
    show 6 + 0 ≤ _
    omega
  | some r =>
    have := (le_foldl_max (b.rooms.map fun r => r.cap) 0).2 r.cap (List.mem_map.mpr ⟨r, List.mem_of_getElem? e, rfl⟩)
    show 6 + r.cap ≤ _
    omega
theorem stepAt_sm {b : Building} {cells : List Int} {s : Nat} {fl ht : List Int} {n i : Nat} (h : SmL n cells) (hf : SmL (n + 25) fl) (hh : SmL 23 ht) (hs : s + 17 ≤ n) (hw : wideZ b ≤ 16) :
    Sm (n + 26) (fl.getD i 0 + ht.getD i 0 * 2 ^ (s + 6)) ∧ Sm (n + 36) ((fl.getD i 0 + ht.getD i 0 * 2 ^ (s + 6)) * 2 ^ (wideZ b - 6 - capOf b i)) ∧ Sm (n + 37) (stepAt b cells s fl ht i) := by
  have c1 : Sm (n + 26) (fl.getD i 0 + ht.getD i 0 * 2 ^ (s + 6)) := (hf.getD i).add (((hh.getD i).shl (s + 6)).mono (by omega))
  have c2 : Sm (n + 36) ((fl.getD i 0 + ht.getD i 0 * 2 ^ (s + 6)) * 2 ^ (wideZ b - 6 - capOf b i)) := (c1.shl _).mono (by omega)
  exact ⟨c1, c2, (((h.getD i).shl (wideZ b)).mono (by omega)).add c2⟩
theorem stepZ_sm {b : Building} {cells : List Int} {s : Nat} {wt : List Int} {lv : List Nat} {n : Nat} (B : WfB b) (W : WfW b wt lv) (h : SmL n cells) (hs : s + 17 ≤ n) : SmL (n + 37) (stepZ b cells s wt lv) := by
  intro x hx
  obtain ⟨i, _, rfl⟩ := List.mem_map.mp hx
  exact (stepAt_sm h (flowsZ_sm h W.warm hs (fun l hl => (B.g l hl).2) B.nl).1 (heatsZ_sm W.lev B.nh) hs (wideZ_le B)).2.2
theorem stepZ_len {b : Building} {cells : List Int} {s : Nat} {wt : List Int} {lv : List Nat} : (stepZ b cells s wt lv).length = cells.length := by
  unfold stepZ
  rw [List.length_map, List.length_range]
theorem bump_len (l : List Int) (i : Nat) (a : Int) : (bump l i a).length = l.length := List.length_set
theorem takeZ_len (st : List Int × List Int) (n : Nat) (a : Int) : (takeZ st n a).1.length = st.1.length ∧ (takeZ st n a).2.length = st.2.length := by
  unfold takeZ
  split
  · exact ⟨rfl, bump_len _ _ _⟩
  · exact ⟨bump_len _ _ _, rfl⟩
theorem flows_len {cells : List Int} {s : Nat} {wt : List Int} : ∀ {ls : List Link} {st : List Int × List Int}, (ls.foldl (flowsStep cells s wt) st).1.length = st.1.length ∧ (ls.foldl (flowsStep cells s wt) st).2.length = st.2.length
  | [], _ => ⟨rfl, rfl⟩
  | l :: r, st => by
    obtain ⟨a, b⟩ := flows_len (ls := r) (st := flowsStep cells s wt st l)
    rw [List.foldl_cons, a, b]
    exact ⟨(takeZ_len _ _ _).1.trans (takeZ_len _ _ _).1, (takeZ_len _ _ _).2.trans (takeZ_len _ _ _).2⟩
theorem flowsZ_len {ls : List Link} {cells : List Int} {s : Nat} {wt : List Int} : (flowsZ ls cells s wt).1.length = cells.length ∧ (flowsZ ls cells s wt).2.length = wt.length := by
  obtain ⟨a, b⟩ := flows_len (cells := cells) (s := s) (wt := wt) (ls := ls) (st := (List.replicate cells.length 0, List.replicate wt.length 0))
  refine ⟨a.trans ?_, b.trans ?_⟩
  · exact List.length_replicate
  · exact List.length_replicate
theorem heats_len : ∀ {xs : List (Heater × Nat)} {f : List Int}, (xs.foldl heatsStep f).length = f.length
  | [], _ => rfl
  | x :: r, f => by
    rw [List.foldl_cons, heats_len (xs := r)]
    exact bump_len _ _ _
theorem heatsZ_len {n : Nat} {hs : List Heater} {lv : List Nat} : (heatsZ n hs lv).length = n := by
  unfold heatsZ
  rw [heats_len, List.length_replicate]
theorem gonZ_one (b : Building) (wt : List Int) (lv : List Nat) : ∀ (n : Nat) (c : List Int) (s : Nat), gonZ b wt lv (n + 1) c s = (stepZ b (gonZ b wt lv n c s).1 (gonZ b wt lv n c s).2 wt lv, (gonZ b wt lv n c s).2 + wideZ b)
  | 0, c, s => rfl
  | n + 1, c, s => by
    show gonZ b wt lv (n + 1) (stepZ b c s wt lv) (s + wideZ b) = _
    rw [gonZ_one b wt lv n]
    rfl
/-- behind k steps -/
theorem gonZ_sm {b : Building} {wt : List Int} {lv : List Nat} (B : WfB b) (W : WfW b wt lv) {c : List Int} {s n : Nat} (h : SmL n c) (hs : s + 17 ≤ n) :
    ∀ k : Nat, SmL (n + 37 * k) (gonZ b wt lv k c s).1 ∧ (gonZ b wt lv k c s).2 ≤ s + 16 * k ∧ (gonZ b wt lv k c s).1.length = c.length
  | 0 => ⟨h, Nat.le_refl _, rfl⟩
  | k + 1 => by
    obtain ⟨h1, h2, h3⟩ := gonZ_sm B W h hs k
    rw [gonZ_one]
    have hw := wideZ_le B
    refine ⟨?_, ?_, ?_⟩
    · have q := stepZ_sm B W h1 (s := (gonZ b wt lv k c s).2) (by omega)
      rw [show n + 37 * (k + 1) = n + 37 * k + 37 by omega]
      exact q
    · show (gonZ b wt lv k c s).2 + wideZ b ≤ s + 16 * (k + 1)
      omega
    · show (stepZ b (gonZ b wt lv k c s).1 (gonZ b wt lv k c s).2 wt lv).length = _
      rw [stepZ_len, h3]
end WR
end PartWMir
section PartWLib
set_option Elab.async false
set_option linter.all false
set_option maxRecDepth 100000
set_option maxHeartbeats 2000000
namespace WR
open PySem PySem.Spec PyProof.Rows L2

/-! ### rules with a class's facts put in -/
section
variable {X : Cx} {o e value : Expr} {es : List Expr} {x f m : Str} {pos pos' p apos tpos : Pos} {ta tv : TE} {t : TA} {C fa : Addr} {k : Nat} {ps : List Str} {sp : Sp}
theorem pe_gint {i : Int} (h : ∃ t, X.mg x = some (.int i t)) (hg : Gl X x := by rfl) (hd : (x == ("__debug__" : Str)) = false := by decide) : PE X (.Name x pos) (tC (.int i)) := by
  obtain ⟨t, h⟩ := h
  exact pe_glob hg h ⟨t, rfl⟩ hd
def tAt (C : Addr) (f : Str) (ta : TE) : TE := fun σ H Q => ta σ H fun x H1 => ∃ a dx fs v, x = .ref a ∧ H1 a = some (.ins C dx fs) ∧ fs.lookup f = some v ∧ Q v H1
theorem pe_at (c : Cls X.K C) (n : NoAttr X.K C f) (he : PE X e ta) (hb : attributeBase e f X.env (eval e X.env) = eval e X.env := by rfl) : PE X (.Attribute e f pos) (tAt C f ta) := by
  refine ⟨fun pins s σ H Q I h => ?_⟩
  refine attr_of hb (thn (he.run pins s σ H _ I h) fun u s1 ⟨x, H1, I1, rx, a, dx, fs, v, ex, ea, l, q⟩ => ?_)
  subst ex
  obtain rfl : u = Value.ref a := rx
  exact getattr_ok I1 ea c n l fun u' s2 I2 ru => ⟨v, H1, I2, ru, q⟩
def sAt (C : Addr) (f : Str) (ta tv : TE) : TS := fun D σ H => tv σ H fun y H1 => ta σ H1 fun x H2 => ∃ a dx fs, x = .ref a ∧ H2 a = some (.ins C dx fs) ∧ fs.length < 1000 ∧ D.nx σ (upd H2 a (.ins C dx (putF f y fs)))
theorem ps_at (c : Cls X.K C) (n : NoAttr X.K C f) (ha : PE X o ta) (hv : PE X value tv) (hs : swapsWith value (some (.Attribute o f pos')) pos.line X.env = pure false := by rfl) : PS X (.Assign [.Attribute o f pos'] value pos) (sAt C f ta tv) := by
  refine ⟨fun pins s σ H D I h => ?_⟩
  refine plainObj_wpAny_Assign_Attribute (thn (hv.run pins s σ H _ I h) fun u s1 ⟨y, H1, I1, ry, q⟩ => thn (ha.run pins s1 σ H1 _ I1 q) fun ov s2 ⟨x, H2, I2, rx, a, dx, fs, ex, ea, l, q2⟩ => ?_) hs
  subst ex
  obtain rfl : ov = Value.ref a := rx
  exact setattr_ok I2 ea c n l ry fun s3 I3 => ⟨σ, _, I3, q2⟩
/-- o.f += value (whole numbers) -/
def sAtAdd (C : Addr) (f : Str) (ta tv : TE) : TS := fun D σ H => ta σ H fun x H1 => ∃ a dx fs i, x = .ref a ∧ H1 a = some (.ins C dx fs) ∧ fs.lookup f = some (.int i) ∧
  tv σ H1 fun y H2 => ∃ j dx' fs', y = .int j ∧ H2 a = some (.ins C dx' fs') ∧ fs'.length < 1000 ∧ D.nx σ (upd H2 a (.ins C dx' (putF f (.int (i + j)) fs')))
theorem ps_atAdd (c : Cls X.K C) (n : NoAttr X.K C f) (ha : PE X o ta) (hv : PE X value tv) : PS X (.AugAssign (.Attribute o f tpos) .Add value pos) (sAtAdd C f ta tv) := by
  refine ⟨fun pins s σ H D I h => ?_⟩
  refine wpAny_AugAssign_AttributeAny (thn (ha.run pins s σ H _ I h) fun ov s1 ⟨x, H1, I1, rx, a, dx, fs, v, ex, ea, l, q⟩ => ?_)
  subst ex
  obtain rfl : ov = Value.ref a := rx
  refine getattr_ok I1 ea c n l fun u s2 I2 ru => thn (hv.run pins s2 σ H1 _ I2 q) fun w3 s3 ⟨y, H2, I3, ry, q3⟩ => ?_
  obtain ⟨j, dx', fs', rfl, ea', l', q4⟩ := q3
  refine thn (in_add pins s3 σ H2 _ _ u w3 (fun z H3 => z = .int (v + j) ∧ H3 = H2) I3 ru ry ⟨v, j, rfl, rfl, rfl, rfl⟩) fun w4 s4 ⟨z, H3, I4, rz, e1, e2⟩ => ?_
  subst e1 e2
  exact setattr_ok I4 ea' c n l' rz fun s5 I5 => ⟨σ, _, I5, q4⟩
/-- .., o.f, .. = (of a tuple) -/
def gAt (C : Addr) (f : Str) (ta : TE) : TG := fun v σ H Q => ta σ H fun x H1 => ∃ a dx fs, x = .ref a ∧ H1 a = some (.ins C dx fs) ∧ fs.length < 1000 ∧ Q σ (upd H1 a (.ins C dx (putF f v fs)))
theorem pg_at (c : Cls X.K C) (n : NoAttr X.K C f) (ha : PE X o ta)
    (hb : ∀ v, assign (.Attribute o f pos) X.env v = (do
      let ov ← holding [v] (eval o X.env)
      standAt pos.atName
      holding [v, ov] (setAttr ov f v)
      release [v, ov] []) := by intro _; rfl) : PG X (.Attribute o f pos) (gAt C f ta) := by
  refine ⟨fun pins s σ H v u Q I r h => ?_⟩
  rw [hb]
  refine wpAny_bind (wpAny_holding (thn (ha.run pins s σ H _ I h) fun ov s1 ⟨x, H1, I1, rx, a, dx, fs, ex, ea, l, q1⟩ => ?_))
  subst ex
  obtain rfl : ov = Value.ref a := rx
  refine wpAny_bind (wpAny_standAt (wpAny_bind (wpAny_holding (setattr_ok I1 ea c n l r fun s3 I3 => ?_))))
  exact wpAny_release ⟨σ, _, I3, q1⟩
end

/-! ### a def that may be called -/
structure Ok (P : Program) (w : World) (K : PySem.W.Frag) (mg : Str → Option Value) (base : Heap) (k : Nat) (f : Addr) (ps : List Str) (sp : Sp) : Prop where
  ex : ∃ fd, FnOk P w K mg base CX0 k f fd ps sp ∧ Binds K fd ps [] ∧ PySem.W.keepIn K (.ref f) = true
section
variable {X : Cx} {o e value : Expr} {es : List Expr} {x m : Str} {pos pos' p apos tpos : Pos} {ta tv : TE} {t : TA} {C f : Addr} {k : Nat} {ps : List Str} {sp : Sp}
def tCallE (sp : Sp) (t : TA) : TE := fun σ H Q => t σ H fun vs H1 => sp vs H1 Q E0
theorem pe_callE (G : Ok X.prog X.w X.K X.mg X.base k f ps sp) (hr : Room k X.A) (hm : X.mg x = some (.ref f)) (ha : PA X (e :: es) t) (hg : Gl X x := by rfl) (hdb : (x == ("__debug__" : Str)) = false := by decide)
    (he : starEach (e :: es) X.env = (false, eval e X.env) :: starEach es X.env := by rfl) (hpl : (backTo pos (starEach es X.env)).any (·.1) = false := by rfl) :
    PE X (.Call (.Name x p) (e :: es) [] pos) (tCallE sp t) := by
  obtain ⟨fd, F, hb, hk⟩ := G.ex
  refine ⟨fun pins s σ H Q I h => ?_⟩
  refine wpAny_Call_Name_kw (ld_glob I hg hm ?_ hdb)
  refine PySem.W.callWith_K (h₀ := X.base) I.ok.mod.kin hk (thn (ha.run pos pins s σ H _ I h) fun us s1 ⟨vs, H1, I1, r, q⟩ => ⟨I1.kIn, ?_⟩) he hpl
  exact run_fn (dvs := []) (E := E0) F hr hb .nil pass0 I1 r (by rw [List.append_nil]; exact q)
def tMethE (C : Addr) (m : Str) (sp : Sp) (ta : TE) (t : TA) : TE := fun σ H Q => ta σ H fun x H1 => ∃ a dx fs, x = .ref a ∧ H1 a = some (.ins C dx fs) ∧ fs.lookup m = none ∧ t σ H1 fun vs H2 => sp (x :: vs) H2 Q E0
theorem pe_methE {pl : Sem Bool} (he : PE X o ta) (c : Cls X.K C) (hm : Meth X.K C m f) (G : Ok X.prog X.w X.K X.mg X.base k f ps sp) (hr : Room k X.A) (ha : PA X (e :: es) t)
    (hst : starEach (e :: es) X.env = (false, eval e X.env) :: starEach es X.env := by rfl) (hpl : (backTo pos (starEach es X.env)).any (·.1) = false := by rfl)
    (ht : eval (.Call (.Attribute o m apos) (e :: es) [] pos) X.env = (do
      let ov ← eval o X.env
      standAt apos.atName
      let (f, first) ← holding [ov] (getMethod ov m pl)
      callWith pos f first (backTo pos (starEach (e :: es) X.env)) (backToKw pos (keywordEach [] X.env))) := by rfl) :
    PE X (.Call (.Attribute o m apos) (e :: es) [] pos) (tMethE C m sp ta t) := by
  obtain ⟨fd, F, hb, _⟩ := G.ex
  refine ⟨fun pins s σ H Q I h => ?_⟩
  refine PySem.W.methodCall_KW (pl := pl) (thn (he.run pins s σ H _ I h) fun u s1 ⟨x, H1, I1, rx, a, dx, fs, ex, ea, l, q⟩ => ?_) ht
  subst ex
  obtain rfl : u = Value.ref a := rx
  refine getmeth_ok I1 ea c hm l ?_
  refine PySem.W.callWith_K (first := [.ref a]) (h₀ := X.base) I.ok.mod.kin hm.kp (thn (ha.run pos pins s1 σ H1 _ I1 q) fun us s2 ⟨vs, H2, I2, r, q2⟩ => ⟨I2.kIn, ?_⟩) hst hpl
  exact run_fn (us := .ref a :: us) (vs := .ref a :: vs) (dvs := []) (E := E0) F hr hb .nil pass0 I2 (.cons rfl r) (by rw [List.append_nil]; exact q2)
theorem pe_methE0 {pl : Sem Bool} (he : PE X o ta) (c : Cls X.K C) (hm : Meth X.K C m f) (G : Ok X.prog X.w X.K X.mg X.base k f ps sp) (hr : Room k X.A)
    (ht : eval (.Call (.Attribute o m apos) [] [] pos) X.env = (do
      let ov ← eval o X.env
      standAt apos.atName
      let (f, first) ← holding [ov] (getMethod ov m pl)
      callWith pos f first (backTo pos (starEach [] X.env)) (backToKw pos (keywordEach [] X.env))) := by rfl) :
    PE X (.Call (.Attribute o m apos) [] [] pos) (tMethE C m sp ta tNil) := by
  obtain ⟨fd, F, hb, _⟩ := G.ex
  refine ⟨fun pins s σ H Q I h => ?_⟩
  refine PySem.W.methodCall_KW (pl := pl) (thn (he.run pins s σ H _ I h) fun u s1 ⟨x, H1, I1, rx, a, dx, fs, ex, ea, l, q⟩ => ?_) ht
  subst ex
  obtain rfl : u = Value.ref a := rx
  refine getmeth_ok I1 ea c hm l ?_
  exact PySem.W.callWith_K0 (first := [.ref a]) I1.kIn hm.kp (run_fn (us := [.ref a]) (vs := [.ref a]) (dvs := []) (E := E0) F hr hb .nil pass0 I1 (.cons rfl .nil) q)
def tMakeE (C : Addr) (sp : Sp) : TE := fun σ H Q => ∀ x dx, H x = none → H dx = none → dx ≠ x → sp [.ref x] (upd (upd H dx (.own x)) x (.ins C dx [])) (fun v H2 => v = .non ∧ Q (.ref x) H2) E0
theorem pe_makeE0 (M : Mk X.K C f) (G : Ok X.prog X.w X.K X.mg X.base k f ps sp) (hr : Room (k + 1) X.A) (hm : X.mg x = some (.ref C)) (hg : Gl X x := by rfl) (hdb : (x == ("__debug__" : Str)) = false := by decide) : PE X (.Call (.Name x p) [] [] pos) (tMakeE C sp) := by
  obtain ⟨fd, F, hb, _⟩ := G.ex
  exact ⟨fun pins s σ H Q I h => (pe_make0 (dvs := []) (E := E0) M F hr hg hm hb .nil pass0 hdb).run pins s σ H Q I h⟩
end

/-! ### lists: an item changed by an operator; extend by a tuple -/
section
open PySem.AutoSeq1 in
theorem ext_tup (l : Addr) (its : Array Value) (n : Nat) (b : Addr) (jts : Array Value) (m : Nat) (dd : Option Addr) (sl : Array (Option Value)) (h0 : ¬(!its.isEmpty && Builtin.List.listTooLong (its.size + jts.size)) = true) (h1 : its.size ≤ sizeLine) (h2 : its.size + jts.size ≤ sizeLine + 1) :
    Meets (Builtin.«list.extend» ⟨[.ref l, .ref b], []⟩) (fun _ R s => s.heap.get? l = some { cls := .type "list", dict := none, data := .seq its n, slots := #[] } ∧ s.heap.get? b = some { cls := .type "tuple", dict := dd, data := .seq jts m, slots := sl } ∧
      R (.ok (.ret Value.none)) { s with heap := s.heap.update l (Obj.mapSeq fun x => x ++ jts), toks := s.toks }) :=
  .of_wp fun prog w A R s h => by
    obtain ⟨hp, g, d, tk, os⟩ := s
    obtain ⟨hl, hb, h⟩ := h
    have f1 := PySem.AutoSeq1.idx_int
    have f2 := PySem.AutoSeq1.sub_tuple_tuple
    have f3 := PySem.AutoSeq1.sub_list_list
    have f4 := PySem.AutoSeq1.sub_tuple_list
    have f5 := PySem.AutoSeq1.sub_list_tuple
    have hz' : (its ++ jts).size ≤ sizeLine + 1 := by
      rw [Array.size_append]
      exact h2
    wp_walk using (wpAny_updateSeq hl rfl (hz := h1) (_hz' := hz')), wpAny_loadPart' hl, wpAny_loadPart' hb
    exact ⟨_, rfl, h⟩
variable {X : Cx}
def rGetL (K : PySem.W.Frag) : V → V → Hp → VK → Prop := fun x y H Q => ∃ p xs i v, x = .ref p ∧ y = .int i ∧ SqL K H p xs ∧ xs[i.toNat]? = some v ∧ 0 ≤ i ∧ Q v H
theorem get_list : PGet X (rGetL X.K) := by
  intro pins s σ H x y v u Q I rx ry h
  obtain ⟨p, xs, i, z, rfl, rfl, hq, he, h0, q⟩ := h
  cases rx
  obtain ⟨t, rfl⟩ := ry
  obtain ⟨its, r, pl, hz⟩ := I.list hq
  obtain ⟨w, ew, rw'⟩ := r.get he
  have hl := r.length
  have hn := line63
  have hi : i.toNat < xs.length := (List.getElem?_eq_some_iff.mp he).1
  exact wpAny_getItem_list pl.isList h0 (by omega) (by simpa using ew) ⟨z, H, I, rw', q⟩
def rExtT (K : PySem.W.Frag) : V → List V → Hp → VK → Prop := fun x vs H Q => ∃ l b xs zs, x = .ref l ∧ vs = [.ref b] ∧ H l = some (.lst xs) ∧ SqT K H b zs ∧ xs.length + zs.length ≤ sizeLine ∧ Q .non (upd H l (.lst (xs ++ zs)))
theorem mt_extT : MtM X "list.extend" (rExtT X.K) := by
  intro pins s σ H x vs v us Q I rx rv h
  obtain ⟨l, b, xs, zs, rfl, rfl, hH, hB, hz, q⟩ := h
  cases rx
  obtain ⟨u, rfl, ru⟩ := rv.one
  cases ru
  obtain ⟨z, its, n, r, hl, e⟩ := I.lstM hH
  obtain ⟨its2, r2, ⟨o2, e2, c2, n2, d2⟩, z2⟩ := I.tuple hB
  have hl2 := r2.length
  have hsz : its.toArray.size + its2.toArray.size ≤ sizeLine := by rw [List.size_toArray, List.size_toArray]; omega
  have hlong : ¬ (!its.toArray.isEmpty && Builtin.List.listTooLong (its.toArray.size + its2.toArray.size)) = true := by
    rw [notLongL hsz, Bool.and_false]
    exact Bool.false_ne_true
  obtain ⟨oc, od, odt, osl⟩ := o2
  simp only at c2 d2
  subst c2 d2
  refine call_meets F.slot_list_extend ⟨_, e, rfl⟩ F.entry_list_extend (F.args_list_extend_2 _ _)
    (ext_tup l its.toArray n b its2.toArray n2 _ _ hlong (by rw [List.size_toArray]; omega) (by omega)) ⟨e, e2, ?_⟩
  refine ⟨.non, _, I.lset (its' := its ++ its2) hH e (by simp) (r.append r2) ?_, rfl, q⟩
  rw [List.length_append]
  omega
end
end WR
/-! ### the table SIZES: a dict of the written part with whole numbers for keys -/
namespace WR
open PySem PySem.Spec PyProof.Rows L2
def sizeOf' (i : Int) : Int := ((WH.sizesL.find? fun p => decide (p.1 = i)).map (·.2)).getD 0
inductive SzRel : List DictEntry → List (Key × Value) → List (Int × Int) → Prop
  | nil : SzRel [] [] []
  | cons {e : DictEntry} {k v : Int} {t u : Tok} {es : List DictEntry} {kvs : List (Key × Value)} {l : List (Int × Int)} : e.key = .int k t → e.val = .int v u → e.hash = hashInt k → SzRel es kvs l → SzRel (e :: es) ((.inl k, .int v u) :: kvs) ((k, v) :: l)
theorem szRel_of : ∀ {es : List DictEntry} {l : List (Int × Int)}, es.map WH.entI = l.map (fun p => some (p.1, hashInt p.1, p.2)) → ∃ kvs, SzRel es kvs l
  | [], [], _ => ⟨[], .nil⟩
  | [], _ :: _, h => by cases h
  | _ :: _, [], h => by cases h
  | e :: es, (k, v) :: l, h => by
    have h1 : WH.entI e :: es.map WH.entI = some (k, hashInt k, v) :: l.map (fun p => some (p.1, hashInt p.1, p.2)) := h
    injection h1 with h2 h3
    obtain ⟨kvs, r⟩ := szRel_of h3
    unfold WH.entI at h2
    split at h2
    · rename_i k' t v' u e1 e2
      have h4 := Option.some.inj h2
      obtain ⟨h5, h6⟩ := Prod.mk.inj h4
      obtain ⟨h7, h8⟩ := Prod.mk.inj h6
      subst h5 h8
      exact ⟨_, .cons e1 e2 h7 r⟩
    · cases h2
theorem SzRel.pairs {P : Program} {w : World} {es : List DictEntry} {kvs : List (Key × Value)} {l : List (Int × Int)} (r : SzRel es kvs l) : Pairs (mixKind P w) es kvs := by
  induction r with
  | nil => exact .nil
  | @cons e k v t u es kvs l h1 h2 h3 _ ih => exact .cons (by show (mixKind P w).is (.inl k) e.key = true; rw [h1]; exact mixKind_int P w k t) h2 ih
theorem SzRel.keys {P : Program} {w : World} {es : List DictEntry} {kvs : List (Key × Value)} {l : List (Int × Int)} (r : SzRel es kvs l) : ∀ e ∈ es, ∃ k, (mixKind P w).is k e.key = true ∧ e.hash = (mixKind P w).hash k := by
  induction r with
  | nil =>
    intro e h
    cases h
  | @cons e k v t u es kvs l h1 h2 h3 _ ih =>
    intro e' h
    rcases List.mem_cons.mp h with rfl | h
    · exact ⟨.inl k, by rw [h1]; exact mixKind_int P w k t, h3⟩
    · exact ih e' h
theorem SzRel.val {es : List DictEntry} {kvs : List (Key × Value)} {l : List (Int × Int)} (r : SzRel es kvs l) (i : Int) : (∃ t, valueAt kvs (.inl i) = (l.find? fun p => decide (p.1 = i)).map fun p => .int p.2 t) := by
  induction r with
  | nil => exact ⟨0, rfl⟩
  | @cons e k v t u es kvs l h1 h2 h3 _ ih =>
    by_cases q : k = i
    · subst q
      refine ⟨u, ?_⟩
      simp [valueAt, List.find?_cons]
    · obtain ⟨t', ih⟩ := ih
      refine ⟨t', ?_⟩
      have q2 : ¬ (Sum.inl k : Key) = Sum.inl i := fun z => q (Sum.inl.inj z)
      simp only [valueAt, List.find?_cons, decide_eq_false q, decide_eq_false q2] at ih ⊢
      exact ih
section
variable {X : Cx} {e f : Expr} {p apos cpos : Pos} {te : TE}
def tSz (te : TE) : TE := fun σ H Q => te σ H fun y H1 => ∃ i, y = .int i ∧ Q (.int (sizeOf' i)) H1
theorem pe_sizes (z : WH.szB X.K = true) (hm : X.mg "SIZES" = some (.ref (He.ga X.K "SIZES"))) (he : PE X e te) (hf : PE X f (tC (.int 0))) (m : M2 X (.Name "SIZES" p) "get" apos e f cpos) (hg : Gl X "SIZES" := by rfl) :
    PE X (.Call (.Attribute (.Name "SIZES" p) "get" apos) [e, f] [] cpos) (tSz te) := by
  obtain ⟨es, n, lk, hsys, hr⟩ : ∃ es n, X.K.lookup (He.ga X.K "SIZES") = some ⟨.type "dict", none, .dict es n, #[]⟩ ∧ (He.ga X.K "SIZES" == sysModules) = false ∧ ∃ kvs, SzRel es.toList kvs WH.sizesL := by
    unfold WH.szB at z
    split at z
    · rename_i c es n sl lk
      simp only [Bool.and_eq_true, decide_eq_true_eq, Bool.not_eq_true', Array.isEmpty_iff] at z
      obtain ⟨z1, z2, z3, z4⟩ := z
      subst z1 z2
      exact ⟨es, n, lk, z3, szRel_of z4⟩
    · cases z
  obtain ⟨kvs, hr⟩ := hr
  refine ⟨fun pins s σ H Q I h => ?_⟩
  refine wpAny_Call_method m.base m.few m.line PySem.F.plainAttrs_dict PySem.F.slot_dict_get PySem.F.type_dict_get (ld_glob I hg hm ?_)
  have ob : ∀ {s' : Shared} {H' : Hp}, Inv X pins σ H' s' → s'.heap.get? (He.ga X.K "SIZES") = some ⟨.type "dict", none, .dict es n, #[]⟩ := fun I' => I'.kIn _ _ lk
  refine ⟨⟨_, ob I, rfl⟩, fun b q => ?_, ?_⟩
  · cases q
    exact ⟨_, ob I, rfl⟩
  rw [m.trees]
  refine Calls.callWith_builtin rfl (Calls.evalArgs_plain (Calls.spliced_cons (thn (he.run pins s σ H _ I h) fun iv s2 ⟨y, H2, I2, ry, i, ey, q2⟩ =>
    Calls.spliced_cons (thn (hf.run pins s2 σ H2 (fun v H3 => v = .int 0 ∧ H3 = H2) I2 ⟨rfl, rfl⟩) fun fv s3 ⟨zv, H3, I3, rz, e3, eH⟩ => Calls.spliced_nil ?_))))
  subst ey e3 eH
  have hmap : s3.heap.MapOf (mixKind X.prog X.w) (He.ga X.K "SIZES") (valueAt kvs) := by
    refine ⟨_, es, n, ob I3, ⟨rfl, rfl, rfl⟩, rfl, ?_, fun k => ?_⟩
    · intro e' he'
      exact hr.keys e' (by simpa using he')
    · rw [← (hr.pairs (P := X.prog) (w := X.w)).find k]
      obtain ⟨l⟩ := es
      simp [findBy]
  obtain ⟨t, hv⟩ := hr.val i
  refine call_meetsIn PySem.F.slot_dict_get hmap.typeIs PySem.F.entry_dict_get (PySem.F.args_dict_get_3 _ _ _) (meets_dict_get_default (mixKind X.prog X.w) _ (kV_is (k := Sum.inl i) ry) hsys fv) ⟨_, hmap, ?_⟩
  refine ⟨.int (sizeOf' i), _, I3.tok _, ?_, q2⟩
  rw [hv]
  unfold sizeOf'
  cases WH.sizesL.find? fun p => decide (p.1 = i) with
  | none => exact rz
  | some pr => exact ⟨t, rfl⟩
end
end WR
/-! ### the built-ins' names -/
namespace WR
open PySem PySem.Spec PyProof.Rows L2
theorem bt_len : bootBuiltins "len" = some (.builtin "len") := by decide +kernel
theorem bt_sum : bootBuiltins "sum" = some (.builtin "sum") := by decide +kernel
theorem bt_max : bootBuiltins "max" = some (.builtin "max") := by decide +kernel
theorem bt_min : bootBuiltins "min" = some (.builtin "min") := by decide +kernel
theorem bt_abs : bootBuiltins "abs" = some (.builtin "abs") := by decide +kernel
theorem bt_ord : bootBuiltins "ord" = some (.builtin "ord") := by decide +kernel
theorem bt_all : bootBuiltins "all" = some (.builtin "all") := by decide +kernel
theorem bt_list : bootBuiltins "list" = some (.type "list") := by decide +kernel
theorem bt_tuple : bootBuiltins "tuple" = some (.type "tuple") := by decide +kernel
theorem bt_str : bootBuiltins "str" = some (.type "str") := by decide +kernel
theorem bt_range : bootBuiltins "range" = some (.type "range") := by decide +kernel
theorem bt_zip : bootBuiltins "zip" = some (.type "zip") := by decide +kernel
end WR
/-! ### rules for a comprehension's block, the written part named -/
namespace WR
open PySem PySem.Spec PyProof.Rows L2
theorem ix_listK {X : Cx} {K : PySem.W.Frag} (h : X.K = K) : IxR X (rIxL K) := by
  subst h
  exact ix_list
theorem ix_tupK {X : Cx} {K : PySem.W.Frag} (h : X.K = K) : IxR X (rIxT K) := by
  subst h
  exact ix_tup
def rLenK (K : PySem.W.Frag) : List V → Hp → VK → Prop := fun xs H Q => ∃ p ys, xs = [.ref p] ∧ (SqL K H p ys ∨ SqT K H p ys) ∧ Q (.int ys.length) H
theorem len_seqK {X : Cx} {K : PySem.W.Frag} (h : X.K = K) : CallR X (.builtin "len") (rLenK K) := by
  subst h
  exact call_len_seq
theorem pg_tupK {X : Cx} {K : PySem.W.Frag} {pos : Pos} {es : List Expr} {k : Nat} {t : TGs} {n : Nat} (hK : X.K = K) (hc : X.calm = true) (h : PGs X es t)
    (hn : (assignEach es X.env).length = n := by rfl) (hst : (assignEach es X.env).findIdx? (·.1) = none := by rfl) : PG X (.Tuple es k pos) (gTup K n t) := by
  subst hK
  exact pg_tup hc h hn hst
end WR
end PartWLib
section PartWEnv
set_option Elab.async false
set_option linter.all false
set_option maxRecDepth 100000
set_option maxHeartbeats 2000000
namespace WR
open PySem PySem.Spec PyProof.Rows L2 WH
structure Env (K : PySem.W.Frag) (mg : Str → Option Value) : Prop where
  says : He.SaysD fa fn K
  sz : szB K = true
  glob : ∃ h : Heap, K.In h ∧ h.Ns mainGlobals mg
section
variable {K : PySem.W.Frag} {mg : Str → Option Value}
theorem Env.g_reached_of (e : Env K mg) : mg "reached_of" = some (.ref (He.ga K "reached_of")) := by
  obtain ⟨h, X, G⟩ := e.glob
  exact He.glo_ok X G (e.says.fact 0 (f := .glo "reached_of") rfl)
theorem Env.g_reach_both (e : Env K mg) : mg "reach_both" = some (.ref (He.ga K "reach_both")) := by
  obtain ⟨h, X, G⟩ := e.glob
  exact He.glo_ok X G (e.says.fact 1 (f := .glo "reach_both") rfl)
theorem Env.g_warmth_at (e : Env K mg) : mg "warmth_at" = some (.ref (He.ga K "warmth_at")) := by
  obtain ⟨h, X, G⟩ := e.glob
  exact He.glo_ok X G (e.says.fact 2 (f := .glo "warmth_at") rfl)
theorem Env.g_flow_of (e : Env K mg) : mg "flow_of" = some (.ref (He.ga K "flow_of")) := by
  obtain ⟨h, X, G⟩ := e.glob
  exact He.glo_ok X G (e.says.fact 3 (f := .glo "flow_of") rfl)
theorem Env.g_flows (e : Env K mg) : mg "flows" = some (.ref (He.ga K "flows")) := by
  obtain ⟨h, X, G⟩ := e.glob
  exact He.glo_ok X G (e.says.fact 4 (f := .glo "flows") rfl)
theorem Env.g_take (e : Env K mg) : mg "take" = some (.ref (He.ga K "take")) := by
  obtain ⟨h, X, G⟩ := e.glob
  exact He.glo_ok X G (e.says.fact 5 (f := .glo "take") rfl)
theorem Env.g_heats (e : Env K mg) : mg "heats" = some (.ref (He.ga K "heats")) := by
  obtain ⟨h, X, G⟩ := e.glob
  exact He.glo_ok X G (e.says.fact 6 (f := .glo "heats") rfl)
theorem Env.g_widest (e : Env K mg) : mg "widest" = some (.ref (He.ga K "widest")) := by
  obtain ⟨h, X, G⟩ := e.glob
  exact He.glo_ok X G (e.says.fact 7 (f := .glo "widest") rfl)
theorem Env.g_stepped (e : Env K mg) : mg "stepped" = some (.ref (He.ga K "stepped")) := by
  obtain ⟨h, X, G⟩ := e.glob
  exact He.glo_ok X G (e.says.fact 8 (f := .glo "stepped") rfl)
theorem Env.g_gone_on (e : Env K mg) : mg "gone_on" = some (.ref (He.ga K "gone_on")) := by
  obtain ⟨h, X, G⟩ := e.glob
  exact He.glo_ok X G (e.says.fact 9 (f := .glo "gone_on") rfl)
theorem Env.g_told (e : Env K mg) : mg "told" = some (.ref (He.ga K "told")) := by
  obtain ⟨h, X, G⟩ := e.glob
  exact He.glo_ok X G (e.says.fact 10 (f := .glo "told") rfl)
theorem Env.g_millionths (e : Env K mg) : mg "millionths" = some (.ref (He.ga K "millionths")) := by
  obtain ⟨h, X, G⟩ := e.glob
  exact He.glo_ok X G (e.says.fact 11 (f := .glo "millionths") rfl)
theorem Env.g_equations (e : Env K mg) : mg "equations" = some (.ref (He.ga K "equations")) := by
  obtain ⟨h, X, G⟩ := e.glob
  exact He.glo_ok X G (e.says.fact 12 (f := .glo "equations") rfl)
theorem Env.g_put (e : Env K mg) : mg "put" = some (.ref (He.ga K "put")) := by
  obtain ⟨h, X, G⟩ := e.glob
  exact He.glo_ok X G (e.says.fact 13 (f := .glo "put") rfl)
theorem Env.g_cleared (e : Env K mg) : mg "cleared" = some (.ref (He.ga K "cleared")) := by
  obtain ⟨h, X, G⟩ := e.glob
  exact He.glo_ok X G (e.says.fact 14 (f := .glo "cleared") rfl)
theorem Env.g_solved (e : Env K mg) : mg "solved" = some (.ref (He.ga K "solved")) := by
  obtain ⟨h, X, G⟩ := e.glob
  exact He.glo_ok X G (e.says.fact 15 (f := .glo "solved") rfl)
theorem Env.g_common_part (e : Env K mg) : mg "common_part" = some (.ref (He.ga K "common_part")) := by
  obtain ⟨h, X, G⟩ := e.glob
  exact He.glo_ok X G (e.says.fact 16 (f := .glo "common_part") rfl)
theorem Env.g_least_level (e : Env K mg) : mg "least_level" = some (.ref (He.ga K "least_level")) := by
  obtain ⟨h, X, G⟩ := e.glob
  exact He.glo_ok X G (e.says.fact 17 (f := .glo "least_level") rfl)
theorem Env.g_octets_of (e : Env K mg) : mg "octets_of" = some (.ref (He.ga K "octets_of")) := by
  obtain ⟨h, X, G⟩ := e.glob
  exact He.glo_ok X G (e.says.fact 18 (f := .glo "octets_of") rfl)
theorem Env.g_cut_at (e : Env K mg) : mg "cut_at" = some (.ref (He.ga K "cut_at")) := by
  obtain ⟨h, X, G⟩ := e.glob
  exact He.glo_ok X G (e.says.fact 19 (f := .glo "cut_at") rfl)
theorem Env.g_is_letter (e : Env K mg) : mg "is_letter" = some (.ref (He.ga K "is_letter")) := by
  obtain ⟨h, X, G⟩ := e.glob
  exact He.glo_ok X G (e.says.fact 20 (f := .glo "is_letter") rfl)
theorem Env.g_is_digit (e : Env K mg) : mg "is_digit" = some (.ref (He.ga K "is_digit")) := by
  obtain ⟨h, X, G⟩ := e.glob
  exact He.glo_ok X G (e.says.fact 21 (f := .glo "is_digit") rfl)
theorem Env.g_is_name (e : Env K mg) : mg "is_name" = some (.ref (He.ga K "is_name")) := by
  obtain ⟨h, X, G⟩ := e.glob
  exact He.glo_ok X G (e.says.fact 22 (f := .glo "is_name") rfl)
theorem Env.g_digits_of (e : Env K mg) : mg "digits_of" = some (.ref (He.ga K "digits_of")) := by
  obtain ⟨h, X, G⟩ := e.glob
  exact He.glo_ok X G (e.says.fact 23 (f := .glo "digits_of") rfl)
theorem Env.g_number_of (e : Env K mg) : mg "number_of" = some (.ref (He.ga K "number_of")) := by
  obtain ⟨h, X, G⟩ := e.glob
  exact He.glo_ok X G (e.says.fact 24 (f := .glo "number_of") rfl)
theorem Env.g_room_fault (e : Env K mg) : mg "room_fault" = some (.ref (He.ga K "room_fault")) := by
  obtain ⟨h, X, G⟩ := e.glob
  exact He.glo_ok X G (e.says.fact 25 (f := .glo "room_fault") rfl)
theorem Env.g_outside_fault (e : Env K mg) : mg "outside_fault" = some (.ref (He.ga K "outside_fault")) := by
  obtain ⟨h, X, G⟩ := e.glob
  exact He.glo_ok X G (e.says.fact 26 (f := .glo "outside_fault") rfl)
theorem Env.g_link_fault (e : Env K mg) : mg "link_fault" = some (.ref (He.ga K "link_fault")) := by
  obtain ⟨h, X, G⟩ := e.glob
  exact He.glo_ok X G (e.says.fact 27 (f := .glo "link_fault") rfl)
theorem Env.g_heater_fault (e : Env K mg) : mg "heater_fault" = some (.ref (He.ga K "heater_fault")) := by
  obtain ⟨h, X, G⟩ := e.glob
  exact He.glo_ok X G (e.says.fact 28 (f := .glo "heater_fault") rfl)
theorem Env.g_line_fault (e : Env K mg) : mg "line_fault" = some (.ref (He.ga K "line_fault")) := by
  obtain ⟨h, X, G⟩ := e.glob
  exact He.glo_ok X G (e.says.fact 29 (f := .glo "line_fault") rfl)
theorem Env.g_plan_of (e : Env K mg) : mg "plan_of" = some (.ref (He.ga K "plan_of")) := by
  obtain ⟨h, X, G⟩ := e.glob
  exact He.glo_ok X G (e.says.fact 30 (f := .glo "plan_of") rfl)
theorem Env.g_name_at (e : Env K mg) : mg "name_at" = some (.ref (He.ga K "name_at")) := by
  obtain ⟨h, X, G⟩ := e.glob
  exact He.glo_ok X G (e.says.fact 31 (f := .glo "name_at") rfl)
theorem Env.g_line_of (e : Env K mg) : mg "line_of" = some (.ref (He.ga K "line_of")) := by
  obtain ⟨h, X, G⟩ := e.glob
  exact He.glo_ok X G (e.says.fact 32 (f := .glo "line_of") rfl)
theorem Env.g_printed (e : Env K mg) : mg "printed" = some (.ref (He.ga K "printed")) := by
  obtain ⟨h, X, G⟩ := e.glob
  exact He.glo_ok X G (e.says.fact 33 (f := .glo "printed") rfl)
theorem Env.g_is_warmth (e : Env K mg) : mg "is_warmth" = some (.ref (He.ga K "is_warmth")) := by
  obtain ⟨h, X, G⟩ := e.glob
  exact He.glo_ok X G (e.says.fact 34 (f := .glo "is_warmth") rfl)
theorem Env.g_row_at (e : Env K mg) : mg "row_at" = some (.ref (He.ga K "row_at")) := by
  obtain ⟨h, X, G⟩ := e.glob
  exact He.glo_ok X G (e.says.fact 35 (f := .glo "row_at") rfl)
theorem Env.g_plain_answer (e : Env K mg) : mg "plain_answer" = some (.ref (He.ga K "plain_answer")) := by
  obtain ⟨h, X, G⟩ := e.glob
  exact He.glo_ok X G (e.says.fact 36 (f := .glo "plain_answer") rfl)
theorem Env.g_short_answer (e : Env K mg) : mg "short_answer" = some (.ref (He.ga K "short_answer")) := by
  obtain ⟨h, X, G⟩ := e.glob
  exact He.glo_ok X G (e.says.fact 37 (f := .glo "short_answer") rfl)
theorem Env.g_long_answer (e : Env K mg) : mg "long_answer" = some (.ref (He.ga K "long_answer")) := by
  obtain ⟨h, X, G⟩ := e.glob
  exact He.glo_ok X G (e.says.fact 38 (f := .glo "long_answer") rfl)
theorem Env.g_answer_at (e : Env K mg) : mg "answer_at" = some (.ref (He.ga K "answer_at")) := by
  obtain ⟨h, X, G⟩ := e.glob
  exact He.glo_ok X G (e.says.fact 39 (f := .glo "answer_at") rfl)
theorem Env.g_answers (e : Env K mg) : mg "answers" = some (.ref (He.ga K "answers")) := by
  obtain ⟨h, X, G⟩ := e.glob
  exact He.glo_ok X G (e.says.fact 40 (f := .glo "answers") rfl)
theorem Env.g_Plan (e : Env K mg) : mg "Plan" = some (.ref (He.ga K "Plan")) := by
  obtain ⟨h, X, G⟩ := e.glob
  exact He.glo_ok X G (e.says.fact 41 (f := .glo "Plan") rfl)
theorem Env.g_House (e : Env K mg) : mg "House" = some (.ref (He.ga K "House")) := by
  obtain ⟨h, X, G⟩ := e.glob
  exact He.glo_ok X G (e.says.fact 42 (f := .glo "House") rfl)
theorem Env.g_SIZES (e : Env K mg) : mg "SIZES" = some (.ref (He.ga K "SIZES")) := by
  obtain ⟨h, X, G⟩ := e.glob
  exact He.glo_ok X G (e.says.fact 43 (f := .glo "SIZES") rfl)
theorem Env.f_len (e : Env K mg) : mg "len" = none := by
  obtain ⟨h, X, G⟩ := e.glob
  exact He.free_ok X G (e.says.fact 44 (f := .free "len") rfl)
theorem Env.f_range (e : Env K mg) : mg "range" = none := by
  obtain ⟨h, X, G⟩ := e.glob
  exact He.free_ok X G (e.says.fact 45 (f := .free "range") rfl)
theorem Env.f_list (e : Env K mg) : mg "list" = none := by
  obtain ⟨h, X, G⟩ := e.glob
  exact He.free_ok X G (e.says.fact 46 (f := .free "list") rfl)
theorem Env.f_tuple (e : Env K mg) : mg "tuple" = none := by
  obtain ⟨h, X, G⟩ := e.glob
  exact He.free_ok X G (e.says.fact 47 (f := .free "tuple") rfl)
theorem Env.f_zip (e : Env K mg) : mg "zip" = none := by
  obtain ⟨h, X, G⟩ := e.glob
  exact He.free_ok X G (e.says.fact 48 (f := .free "zip") rfl)
theorem Env.f_all (e : Env K mg) : mg "all" = none := by
  obtain ⟨h, X, G⟩ := e.glob
  exact He.free_ok X G (e.says.fact 49 (f := .free "all") rfl)
theorem Env.f_sum (e : Env K mg) : mg "sum" = none := by
  obtain ⟨h, X, G⟩ := e.glob
  exact He.free_ok X G (e.says.fact 50 (f := .free "sum") rfl)
theorem Env.f_max (e : Env K mg) : mg "max" = none := by
  obtain ⟨h, X, G⟩ := e.glob
  exact He.free_ok X G (e.says.fact 51 (f := .free "max") rfl)
theorem Env.f_min (e : Env K mg) : mg "min" = none := by
  obtain ⟨h, X, G⟩ := e.glob
  exact He.free_ok X G (e.says.fact 52 (f := .free "min") rfl)
theorem Env.f_abs (e : Env K mg) : mg "abs" = none := by
  obtain ⟨h, X, G⟩ := e.glob
  exact He.free_ok X G (e.says.fact 53 (f := .free "abs") rfl)
theorem Env.f_ord (e : Env K mg) : mg "ord" = none := by
  obtain ⟨h, X, G⟩ := e.glob
  exact He.free_ok X G (e.says.fact 54 (f := .free "ord") rfl)
theorem Env.f_str (e : Env K mg) : mg "str" = none := by
  obtain ⟨h, X, G⟩ := e.glob
  exact He.free_ok X G (e.says.fact 55 (f := .free "str") rfl)
theorem Env.i_MOST_ROOMS (e : Env K mg) : ∃ t, mg "MOST_ROOMS" = some (.int (12) t) := by
  obtain ⟨h, X, G⟩ := e.glob
  exact He.int_ok X G (e.says.fact 56 (f := .int "MOST_ROOMS" (12)) rfl)
theorem Env.i_MOST_OUTSIDES (e : Env K mg) : ∃ t, mg "MOST_OUTSIDES" = some (.int (4) t) := by
  obtain ⟨h, X, G⟩ := e.glob
  exact He.int_ok X G (e.says.fact 57 (f := .int "MOST_OUTSIDES" (4)) rfl)
theorem Env.i_MOST_LINKS (e : Env K mg) : ∃ t, mg "MOST_LINKS" = some (.int (40) t) := by
  obtain ⟨h, X, G⟩ := e.glob
  exact He.int_ok X G (e.says.fact 58 (f := .int "MOST_LINKS" (40)) rfl)
theorem Env.i_MOST_HEATERS (e : Env K mg) : ∃ t, mg "MOST_HEATERS" = some (.int (8) t) := by
  obtain ⟨h, X, G⟩ := e.glob
  exact He.int_ok X G (e.says.fact 59 (f := .int "MOST_HEATERS" (8)) rfl)
theorem Env.i_PARTS (e : Env K mg) : ∃ t, mg "PARTS" = some (.int (64) t) := by
  obtain ⟨h, X, G⟩ := e.glob
  exact He.int_ok X G (e.says.fact 60 (f := .int "PARTS" (64)) rfl)
theorem Env.i_FLOW_SHIFT (e : Env K mg) : ∃ t, mg "FLOW_SHIFT" = some (.int (6) t) := by
  obtain ⟨h, X, G⟩ := e.glob
  exact He.int_ok X G (e.says.fact 61 (f := .int "FLOW_SHIFT" (6)) rfl)
theorem Env.i_PRIME (e : Env K mg) : ∃ t, mg "PRIME" = some (.int (1000000007) t) := by
  obtain ⟨h, X, G⟩ := e.glob
  exact He.int_ok X G (e.says.fact 62 (f := .int "PRIME" (1000000007)) rfl)
theorem Env.i_MILLION (e : Env K mg) : ∃ t, mg "MILLION" = some (.int (1000000) t) := by
  obtain ⟨h, X, G⟩ := e.glob
  exact He.int_ok X G (e.says.fact 63 (f := .int "MILLION" (1000000)) rfl)
theorem Env.i_LINE_END (e : Env K mg) : ∃ t, mg "LINE_END" = some (.int (10) t) := by
  obtain ⟨h, X, G⟩ := e.glob
  exact He.int_ok X G (e.says.fact 64 (f := .int "LINE_END" (10)) rfl)
theorem Env.i_BLANK (e : Env K mg) : ∃ t, mg "BLANK" = some (.int (32) t) := by
  obtain ⟨h, X, G⟩ := e.glob
  exact He.int_ok X G (e.says.fact 65 (f := .int "BLANK" (32)) rfl)
theorem Env.i_MINUS (e : Env K mg) : ∃ t, mg "MINUS" = some (.int (45) t) := by
  obtain ⟨h, X, G⟩ := e.glob
  exact He.int_ok X G (e.says.fact 66 (f := .int "MINUS" (45)) rfl)
theorem Env.i_MOST_NAME (e : Env K mg) : ∃ t, mg "MOST_NAME" = some (.int (12) t) := by
  obtain ⟨h, X, G⟩ := e.glob
  exact He.int_ok X G (e.says.fact 67 (f := .int "MOST_NAME" (12)) rfl)
theorem Env.i_MOST_DIGITS (e : Env K mg) : ∃ t, mg "MOST_DIGITS" = some (.int (7) t) := by
  obtain ⟨h, X, G⟩ := e.glob
  exact He.int_ok X G (e.says.fact 68 (f := .int "MOST_DIGITS" (7)) rfl)
theorem Env.i_LEAST_WARMTH (e : Env K mg) : ∃ t, mg "LEAST_WARMTH" = some (.int (-100000) t) := by
  obtain ⟨h, X, G⟩ := e.glob
  exact He.int_ok X G (e.says.fact 69 (f := .int "LEAST_WARMTH" (-100000)) rfl)
theorem Env.i_MOST_WARMTH (e : Env K mg) : ∃ t, mg "MOST_WARMTH" = some (.int (100000) t) := by
  obtain ⟨h, X, G⟩ := e.glob
  exact He.int_ok X G (e.says.fact 70 (f := .int "MOST_WARMTH" (100000)) rfl)
theorem Env.i_MOST_CAP (e : Env K mg) : ∃ t, mg "MOST_CAP" = some (.int (10) t) := by
  obtain ⟨h, X, G⟩ := e.glob
  exact He.int_ok X G (e.says.fact 71 (f := .int "MOST_CAP" (10)) rfl)
theorem Env.i_MOST_CONDUCTANCE (e : Env K mg) : ∃ t, mg "MOST_CONDUCTANCE" = some (.int (100000) t) := by
  obtain ⟨h, X, G⟩ := e.glob
  exact He.int_ok X G (e.says.fact 72 (f := .int "MOST_CONDUCTANCE" (100000)) rfl)
theorem Env.i_MOST_GIVEN (e : Env K mg) : ∃ t, mg "MOST_GIVEN" = some (.int (1000000) t) := by
  obtain ⟨h, X, G⟩ := e.glob
  exact He.int_ok X G (e.says.fact 73 (f := .int "MOST_GIVEN" (1000000)) rfl)
theorem Env.i_FORM (e : Env K mg) : ∃ t, mg "FORM" = some (.int (1) t) := by
  obtain ⟨h, X, G⟩ := e.glob
  exact He.int_ok X G (e.says.fact 74 (f := .int "FORM" (1)) rfl)
theorem Env.i_THERE (e : Env K mg) : ∃ t, mg "THERE" = some (.int (2) t) := by
  obtain ⟨h, X, G⟩ := e.glob
  exact He.int_ok X G (e.says.fact 75 (f := .int "THERE" (2)) rfl)
theorem Env.i_MISSING (e : Env K mg) : ∃ t, mg "MISSING" = some (.int (3) t) := by
  obtain ⟨h, X, G⟩ := e.glob
  exact He.int_ok X G (e.says.fact 76 (f := .int "MISSING" (3)) rfl)
theorem Env.i_MANY (e : Env K mg) : ∃ t, mg "MANY" = some (.int (4) t) := by
  obtain ⟨h, X, G⟩ := e.glob
  exact He.int_ok X G (e.says.fact 77 (f := .int "MANY" (4)) rfl)
theorem Env.i_CROSSED (e : Env K mg) : ∃ t, mg "CROSSED" = some (.int (5) t) := by
  obtain ⟨h, X, G⟩ := e.glob
  exact He.int_ok X G (e.says.fact 78 (f := .int "CROSSED" (5)) rfl)
theorem Env.i_LOOSE (e : Env K mg) : ∃ t, mg "LOOSE" = some (.int (6) t) := by
  obtain ⟨h, X, G⟩ := e.glob
  exact He.int_ok X G (e.says.fact 79 (f := .int "LOOSE" (6)) rfl)
theorem Env.i_MOST_STEPS (e : Env K mg) : ∃ t, mg "MOST_STEPS" = some (.int (1000) t) := by
  obtain ⟨h, X, G⟩ := e.glob
  exact He.int_ok X G (e.says.fact 80 (f := .int "MOST_STEPS" (1000)) rfl)
theorem Env.i_MOST_LATE (e : Env K mg) : ∃ t, mg "MOST_LATE" = some (.int (60) t) := by
  obtain ⟨h, X, G⟩ := e.glob
  exact He.int_ok X G (e.says.fact 81 (f := .int "MOST_LATE" (60)) rfl)
theorem Env.i_MOST_NEAR (e : Env K mg) : ∃ t, mg "MOST_NEAR" = some (.int (100000) t) := by
  obtain ⟨h, X, G⟩ := e.glob
  exact He.int_ok X G (e.says.fact 82 (f := .int "MOST_NEAR" (100000)) rfl)
theorem Env.c_Plan (e : Env K mg) : Cls K (He.ga K "Plan") := He.cls_ok (e.says.fact 83 (f := .cls "Plan") rfl)
theorem Env.k_Plan (e : Env K mg) : Mk K (He.ga K "Plan") (He.ma K (He.ga K "Plan") "__init__") := He.mkr_ok (e.says.fact 84 (f := .mkr "Plan") rfl)
theorem Env.n_Plan_caps (e : Env K mg) : NoAttr K (He.ga K "Plan") "caps" := He.noat_ok (e.says.fact 85 (f := .noat "Plan" "caps") rfl)
theorem Env.n_Plan_heaters (e : Env K mg) : NoAttr K (He.ga K "Plan") "heaters" := He.noat_ok (e.says.fact 86 (f := .noat "Plan" "heaters") rfl)
theorem Env.n_Plan_links (e : Env K mg) : NoAttr K (He.ga K "Plan") "links" := He.noat_ok (e.says.fact 87 (f := .noat "Plan" "links") rfl)
theorem Env.n_Plan_names (e : Env K mg) : NoAttr K (He.ga K "Plan") "names" := He.noat_ok (e.says.fact 88 (f := .noat "Plan" "names") rfl)
theorem Env.n_Plan_outsides (e : Env K mg) : NoAttr K (He.ga K "Plan") "outsides" := He.noat_ok (e.says.fact 89 (f := .noat "Plan" "outsides") rfl)
theorem Env.n_Plan_rooms (e : Env K mg) : NoAttr K (He.ga K "Plan") "rooms" := He.noat_ok (e.says.fact 90 (f := .noat "Plan" "rooms") rfl)
theorem Env.n_Plan_starts (e : Env K mg) : NoAttr K (He.ga K "Plan") "starts" := He.noat_ok (e.says.fact 91 (f := .noat "Plan" "starts") rfl)
theorem Env.n_Plan_weather (e : Env K mg) : NoAttr K (He.ga K "Plan") "weather" := He.noat_ok (e.says.fact 92 (f := .noat "Plan" "weather") rfl)
theorem Env.c_House (e : Env K mg) : Cls K (He.ga K "House") := He.cls_ok (e.says.fact 93 (f := .cls "House") rfl)
theorem Env.k_House (e : Env K mg) : Mk K (He.ga K "House") (He.ma K (He.ga K "House") "__init__") := He.mkr_ok (e.says.fact 94 (f := .mkr "House") rfl)
theorem Env.n_House_cells (e : Env K mg) : NoAttr K (He.ga K "House") "cells" := He.noat_ok (e.says.fact 95 (f := .noat "House" "cells") rfl)
theorem Env.n_House_clock (e : Env K mg) : NoAttr K (He.ga K "House") "clock" := He.noat_ok (e.says.fact 96 (f := .noat "House" "clock") rfl)
theorem Env.n_House_given (e : Env K mg) : NoAttr K (He.ga K "House") "given" := He.noat_ok (e.says.fact 97 (f := .noat "House" "given") rfl)
theorem Env.n_House_gone (e : Env K mg) : NoAttr K (He.ga K "House") "gone" := He.noat_ok (e.says.fact 98 (f := .noat "House" "gone") rfl)
theorem Env.n_House_levels (e : Env K mg) : NoAttr K (He.ga K "House") "levels" := He.noat_ok (e.says.fact 99 (f := .noat "House" "levels") rfl)
theorem Env.n_House_plan (e : Env K mg) : NoAttr K (He.ga K "House") "plan" := He.noat_ok (e.says.fact 100 (f := .noat "House" "plan") rfl)
theorem Env.n_House_shift (e : Env K mg) : NoAttr K (He.ga K "House") "shift" := He.noat_ok (e.says.fact 101 (f := .noat "House" "shift") rfl)
theorem Env.n_House_weather (e : Env K mg) : NoAttr K (He.ga K "House") "weather" := He.noat_ok (e.says.fact 102 (f := .noat "House" "weather") rfl)
theorem Env.m_Plan_add_room (e : Env K mg) : Meth K (He.ga K "Plan") "add_room" (He.ma K (He.ga K "Plan") "add_room") := He.meth_ok (e.says.fact 103 (f := .meth "Plan" "add_room") rfl)
theorem Env.m_Plan_add_outside (e : Env K mg) : Meth K (He.ga K "Plan") "add_outside" (He.ma K (He.ga K "Plan") "add_outside") := He.meth_ok (e.says.fact 104 (f := .meth "Plan" "add_outside") rfl)
theorem Env.m_Plan_add_link (e : Env K mg) : Meth K (He.ga K "Plan") "add_link" (He.ma K (He.ga K "Plan") "add_link") := He.meth_ok (e.says.fact 105 (f := .meth "Plan" "add_link") rfl)
theorem Env.m_Plan_add_heater (e : Env K mg) : Meth K (He.ga K "Plan") "add_heater" (He.ma K (He.ga K "Plan") "add_heater") := He.meth_ok (e.says.fact 106 (f := .meth "Plan" "add_heater") rfl)
theorem Env.m_Plan_end_of (e : Env K mg) : Meth K (He.ga K "Plan") "end_of" (He.ma K (He.ga K "Plan") "end_of") := He.meth_ok (e.says.fact 107 (f := .meth "Plan" "end_of") rfl)
theorem Env.m_Plan_are_linked (e : Env K mg) : Meth K (He.ga K "Plan") "are_linked" (He.ma K (He.ga K "Plan") "are_linked") := He.meth_ok (e.says.fact 108 (f := .meth "Plan" "are_linked") rfl)
theorem Env.m_Plan_loose_room (e : Env K mg) : Meth K (He.ga K "Plan") "loose_room" (He.ma K (He.ga K "Plan") "loose_room") := He.meth_ok (e.says.fact 109 (f := .meth "Plan" "loose_room") rfl)
theorem Env.m_Plan_is_anchored (e : Env K mg) : Meth K (He.ga K "Plan") "is_anchored" (He.ma K (He.ga K "Plan") "is_anchored") := He.meth_ok (e.says.fact 110 (f := .meth "Plan" "is_anchored") rfl)
theorem Env.m_House_begin (e : Env K mg) : Meth K (He.ga K "House") "begin" (He.ma K (He.ga K "House") "begin") := He.meth_ok (e.says.fact 111 (f := .meth "House" "begin") rfl)
theorem Env.m_House_close_books (e : Env K mg) : Meth K (He.ga K "House") "close_books" (He.ma K (He.ga K "House") "close_books") := He.meth_ok (e.says.fact 112 (f := .meth "House" "close_books") rfl)
theorem Env.m_House_has_room (e : Env K mg) : Meth K (He.ga K "House") "has_room" (He.ma K (He.ga K "House") "has_room") := He.meth_ok (e.says.fact 113 (f := .meth "House" "has_room") rfl)
theorem Env.m_House_has_heater (e : Env K mg) : Meth K (He.ga K "House") "has_heater" (He.ma K (He.ga K "House") "has_heater") := He.meth_ok (e.says.fact 114 (f := .meth "House" "has_heater") rfl)
theorem Env.m_House_build (e : Env K mg) : Meth K (He.ga K "House") "build" (He.ma K (He.ga K "House") "build") := He.meth_ok (e.says.fact 115 (f := .meth "House" "build") rfl)
theorem Env.m_House_text (e : Env K mg) : Meth K (He.ga K "House") "text" (He.ma K (He.ga K "House") "text") := He.meth_ok (e.says.fact 116 (f := .meth "House" "text") rfl)
theorem Env.m_House_outside (e : Env K mg) : Meth K (He.ga K "House") "outside" (He.ma K (He.ga K "House") "outside") := He.meth_ok (e.says.fact 117 (f := .meth "House" "outside") rfl)
theorem Env.m_House_heat (e : Env K mg) : Meth K (He.ga K "House") "heat" (He.ma K (He.ga K "House") "heat") := He.meth_ok (e.says.fact 118 (f := .meth "House" "heat") rfl)
theorem Env.m_House_step (e : Env K mg) : Meth K (He.ga K "House") "step" (He.ma K (He.ga K "House") "step") := He.meth_ok (e.says.fact 119 (f := .meth "House" "step") rfl)
theorem Env.m_House_run (e : Env K mg) : Meth K (He.ga K "House") "run" (He.ma K (He.ga K "House") "run") := He.meth_ok (e.says.fact 120 (f := .meth "House" "run") rfl)
theorem Env.m_House_temp (e : Env K mg) : Meth K (He.ga K "House") "temp" (He.ma K (He.ga K "House") "temp") := He.meth_ok (e.says.fact 121 (f := .meth "House" "temp") rfl)
theorem Env.m_House_trace (e : Env K mg) : Meth K (He.ga K "House") "trace" (He.ma K (He.ga K "House") "trace") := He.meth_ok (e.says.fact 122 (f := .meth "House" "trace") rfl)
theorem Env.m_House_books (e : Env K mg) : Meth K (He.ga K "House") "books" (He.ma K (He.ga K "House") "books") := He.meth_ok (e.says.fact 123 (f := .meth "House" "books") rfl)
theorem Env.m_House_flow (e : Env K mg) : Meth K (He.ga K "House") "flow" (He.ma K (He.ga K "House") "flow") := He.meth_ok (e.says.fact 124 (f := .meth "House" "flow") rfl)
theorem Env.m_House_rest (e : Env K mg) : Meth K (He.ga K "House") "rest" (He.ma K (He.ga K "House") "rest") := He.meth_ok (e.says.fact 125 (f := .meth "House" "rest") rfl)
theorem Env.m_House_set_room (e : Env K mg) : Meth K (He.ga K "House") "set_room" (He.ma K (He.ga K "House") "set_room") := He.meth_ok (e.says.fact 126 (f := .meth "House" "set_room") rfl)
theorem Env.m_House_tell_clock (e : Env K mg) : Meth K (He.ga K "House") "tell_clock" (He.ma K (He.ga K "House") "tell_clock") := He.meth_ok (e.says.fact 127 (f := .meth "House" "tell_clock") rfl)
theorem Env.m_House_is_near (e : Env K mg) : Meth K (He.ga K "House") "is_near" (He.ma K (He.ga K "House") "is_near") := He.meth_ok (e.says.fact 128 (f := .meth "House" "is_near") rfl)
theorem Env.m_House_settle (e : Env K mg) : Meth K (He.ga K "House") "settle" (He.ma K (He.ga K "House") "settle") := He.meth_ok (e.says.fact 129 (f := .meth "House" "settle") rfl)
theorem Env.m_House_halve (e : Env K mg) : Meth K (He.ga K "House") "halve" (He.ma K (He.ga K "House") "halve") := He.meth_ok (e.says.fact 130 (f := .meth "House" "halve") rfl)
theorem Env.m_House_is_bound (e : Env K mg) : Meth K (He.ga K "House") "is_bound" (He.ma K (He.ga K "House") "is_bound") := He.meth_ok (e.says.fact 131 (f := .meth "House" "is_bound") rfl)
theorem Env.m_House_bracket (e : Env K mg) : Meth K (He.ga K "House") "bracket" (He.ma K (He.ga K "House") "bracket") := He.meth_ok (e.says.fact 132 (f := .meth "House" "bracket") rfl)
theorem Env.m_House_latest (e : Env K mg) : Meth K (He.ga K "House") "latest" (He.ma K (He.ga K "House") "latest") := He.meth_ok (e.says.fact 133 (f := .meth "House" "latest") rfl)
theorem Env.m_House_least (e : Env K mg) : Meth K (He.ga K "House") "least" (He.ma K (He.ga K "House") "least") := He.meth_ok (e.says.fact 134 (f := .meth "House" "least") rfl)
theorem Env.fun_Plan_init (e : Env K mg) : ∃ fd, FunD K "__init__" "Plan.__init__" (defArgs s_Plan_init) (defBody s_Plan_init) (defScope s_Plan_init) [] [] (He.ma K (He.ga K "Plan") "__init__") fd := e.says.def_ 0 (d := d_Plan_init) rfl
theorem Env.fun_Plan_add_room (e : Env K mg) : ∃ fd, FunD K "add_room" "Plan.add_room" (defArgs s_Plan_add_room) (defBody s_Plan_add_room) (defScope s_Plan_add_room) [] [] (He.ma K (He.ga K "Plan") "add_room") fd := e.says.def_ 1 (d := d_Plan_add_room) rfl
theorem Env.fun_Plan_add_outside (e : Env K mg) : ∃ fd, FunD K "add_outside" "Plan.add_outside" (defArgs s_Plan_add_outside) (defBody s_Plan_add_outside) (defScope s_Plan_add_outside) [] [] (He.ma K (He.ga K "Plan") "add_outside") fd := e.says.def_ 2 (d := d_Plan_add_outside) rfl
theorem Env.fun_Plan_add_link (e : Env K mg) : ∃ fd, FunD K "add_link" "Plan.add_link" (defArgs s_Plan_add_link) (defBody s_Plan_add_link) (defScope s_Plan_add_link) [] [] (He.ma K (He.ga K "Plan") "add_link") fd := e.says.def_ 3 (d := d_Plan_add_link) rfl
theorem Env.fun_Plan_add_heater (e : Env K mg) : ∃ fd, FunD K "add_heater" "Plan.add_heater" (defArgs s_Plan_add_heater) (defBody s_Plan_add_heater) (defScope s_Plan_add_heater) [] [] (He.ma K (He.ga K "Plan") "add_heater") fd := e.says.def_ 4 (d := d_Plan_add_heater) rfl
theorem Env.fun_Plan_end_of (e : Env K mg) : ∃ fd, FunD K "end_of" "Plan.end_of" (defArgs s_Plan_end_of) (defBody s_Plan_end_of) (defScope s_Plan_end_of) [] [] (He.ma K (He.ga K "Plan") "end_of") fd := e.says.def_ 5 (d := d_Plan_end_of) rfl
theorem Env.fun_Plan_are_linked (e : Env K mg) : ∃ fd, FunD K "are_linked" "Plan.are_linked" (defArgs s_Plan_are_linked) (defBody s_Plan_are_linked) (defScope s_Plan_are_linked) [] [] (He.ma K (He.ga K "Plan") "are_linked") fd := e.says.def_ 6 (d := d_Plan_are_linked) rfl
theorem Env.fun_Plan_loose_room (e : Env K mg) : ∃ fd, FunD K "loose_room" "Plan.loose_room" (defArgs s_Plan_loose_room) (defBody s_Plan_loose_room) (defScope s_Plan_loose_room) [] [] (He.ma K (He.ga K "Plan") "loose_room") fd := e.says.def_ 7 (d := d_Plan_loose_room) rfl
theorem Env.fun_Plan_is_anchored (e : Env K mg) : ∃ fd, FunD K "is_anchored" "Plan.is_anchored" (defArgs s_Plan_is_anchored) (defBody s_Plan_is_anchored) (defScope s_Plan_is_anchored) [] [] (He.ma K (He.ga K "Plan") "is_anchored") fd := e.says.def_ 8 (d := d_Plan_is_anchored) rfl
theorem Env.fun_reached_of (e : Env K mg) : ∃ fd, FunD K "reached_of" "reached_of" (defArgs s_reached_of) (defBody s_reached_of) (defScope s_reached_of) [] [] (He.ga K "reached_of") fd := e.says.def_ 9 (d := d_reached_of) rfl
theorem Env.fun_reach_both (e : Env K mg) : ∃ fd, FunD K "reach_both" "reach_both" (defArgs s_reach_both) (defBody s_reach_both) (defScope s_reach_both) [] [] (He.ga K "reach_both") fd := e.says.def_ 10 (d := d_reach_both) rfl
theorem Env.fun_warmth_at (e : Env K mg) : ∃ fd, FunD K "warmth_at" "warmth_at" (defArgs s_warmth_at) (defBody s_warmth_at) (defScope s_warmth_at) [] [] (He.ga K "warmth_at") fd := e.says.def_ 11 (d := d_warmth_at) rfl
theorem Env.fun_flow_of (e : Env K mg) : ∃ fd, FunD K "flow_of" "flow_of" (defArgs s_flow_of) (defBody s_flow_of) (defScope s_flow_of) [] [] (He.ga K "flow_of") fd := e.says.def_ 12 (d := d_flow_of) rfl
theorem Env.fun_flows (e : Env K mg) : ∃ fd, FunD K "flows" "flows" (defArgs s_flows) (defBody s_flows) (defScope s_flows) [] [] (He.ga K "flows") fd := e.says.def_ 13 (d := d_flows) rfl
theorem Env.fun_take (e : Env K mg) : ∃ fd, FunD K "take" "take" (defArgs s_take) (defBody s_take) (defScope s_take) [] [] (He.ga K "take") fd := e.says.def_ 14 (d := d_take) rfl
theorem Env.fun_heats (e : Env K mg) : ∃ fd, FunD K "heats" "heats" (defArgs s_heats) (defBody s_heats) (defScope s_heats) [] [] (He.ga K "heats") fd := e.says.def_ 15 (d := d_heats) rfl
theorem Env.fun_widest (e : Env K mg) : ∃ fd, FunD K "widest" "widest" (defArgs s_widest) (defBody s_widest) (defScope s_widest) [] [] (He.ga K "widest") fd := e.says.def_ 16 (d := d_widest) rfl
theorem Env.fun_stepped (e : Env K mg) : ∃ fd, FunD K "stepped" "stepped" (defArgs s_stepped) (defBody s_stepped) (defScope s_stepped) [] [] (He.ga K "stepped") fd := e.says.def_ 17 (d := d_stepped) rfl
theorem Env.fun_gone_on (e : Env K mg) : ∃ fd, FunD K "gone_on" "gone_on" (defArgs s_gone_on) (defBody s_gone_on) (defScope s_gone_on) [] [] (He.ga K "gone_on") fd := e.says.def_ 18 (d := d_gone_on) rfl
theorem Env.fun_told (e : Env K mg) : ∃ fd, FunD K "told" "told" (defArgs s_told) (defBody s_told) (defScope s_told) [] [] (He.ga K "told") fd := e.says.def_ 19 (d := d_told) rfl
theorem Env.fun_millionths (e : Env K mg) : ∃ fd, FunD K "millionths" "millionths" (defArgs s_millionths) (defBody s_millionths) (defScope s_millionths) [] [] (He.ga K "millionths") fd := e.says.def_ 20 (d := d_millionths) rfl
theorem Env.fun_equations (e : Env K mg) : ∃ fd, FunD K "equations" "equations" (defArgs s_equations) (defBody s_equations) (defScope s_equations) [] [] (He.ga K "equations") fd := e.says.def_ 21 (d := d_equations) rfl
theorem Env.fun_put (e : Env K mg) : ∃ fd, FunD K "put" "put" (defArgs s_put) (defBody s_put) (defScope s_put) [] [] (He.ga K "put") fd := e.says.def_ 22 (d := d_put) rfl
theorem Env.fun_cleared (e : Env K mg) : ∃ fd, FunD K "cleared" "cleared" (defArgs s_cleared) (defBody s_cleared) (defScope s_cleared) [] [] (He.ga K "cleared") fd := e.says.def_ 23 (d := d_cleared) rfl
theorem Env.fun_solved (e : Env K mg) : ∃ fd, FunD K "solved" "solved" (defArgs s_solved) (defBody s_solved) (defScope s_solved) [] [] (He.ga K "solved") fd := e.says.def_ 24 (d := d_solved) rfl
theorem Env.fun_common_part (e : Env K mg) : ∃ fd, FunD K "common_part" "common_part" (defArgs s_common_part) (defBody s_common_part) (defScope s_common_part) [] [] (He.ga K "common_part") fd := e.says.def_ 25 (d := d_common_part) rfl
theorem Env.fun_least_level (e : Env K mg) : ∃ fd, FunD K "least_level" "least_level" (defArgs s_least_level) (defBody s_least_level) (defScope s_least_level) [] [] (He.ga K "least_level") fd := e.says.def_ 26 (d := d_least_level) rfl
theorem Env.fun_octets_of (e : Env K mg) : ∃ fd, FunD K "octets_of" "octets_of" (defArgs s_octets_of) (defBody s_octets_of) (defScope s_octets_of) [] [] (He.ga K "octets_of") fd := e.says.def_ 27 (d := d_octets_of) rfl
theorem Env.fun_cut_at (e : Env K mg) : ∃ fd, FunD K "cut_at" "cut_at" (defArgs s_cut_at) (defBody s_cut_at) (defScope s_cut_at) [] [] (He.ga K "cut_at") fd := e.says.def_ 28 (d := d_cut_at) rfl
theorem Env.fun_is_letter (e : Env K mg) : ∃ fd, FunD K "is_letter" "is_letter" (defArgs s_is_letter) (defBody s_is_letter) (defScope s_is_letter) [] [] (He.ga K "is_letter") fd := e.says.def_ 29 (d := d_is_letter) rfl
theorem Env.fun_is_digit (e : Env K mg) : ∃ fd, FunD K "is_digit" "is_digit" (defArgs s_is_digit) (defBody s_is_digit) (defScope s_is_digit) [] [] (He.ga K "is_digit") fd := e.says.def_ 30 (d := d_is_digit) rfl
theorem Env.fun_is_name (e : Env K mg) : ∃ fd, FunD K "is_name" "is_name" (defArgs s_is_name) (defBody s_is_name) (defScope s_is_name) [] [] (He.ga K "is_name") fd := e.says.def_ 31 (d := d_is_name) rfl
theorem Env.fun_digits_of (e : Env K mg) : ∃ fd, FunD K "digits_of" "digits_of" (defArgs s_digits_of) (defBody s_digits_of) (defScope s_digits_of) [] [] (He.ga K "digits_of") fd := e.says.def_ 32 (d := d_digits_of) rfl
theorem Env.fun_number_of (e : Env K mg) : ∃ fd, FunD K "number_of" "number_of" (defArgs s_number_of) (defBody s_number_of) (defScope s_number_of) [] [] (He.ga K "number_of") fd := e.says.def_ 33 (d := d_number_of) rfl
theorem Env.fun_room_fault (e : Env K mg) : ∃ fd, FunD K "room_fault" "room_fault" (defArgs s_room_fault) (defBody s_room_fault) (defScope s_room_fault) [] [] (He.ga K "room_fault") fd := e.says.def_ 34 (d := d_room_fault) rfl
theorem Env.fun_outside_fault (e : Env K mg) : ∃ fd, FunD K "outside_fault" "outside_fault" (defArgs s_outside_fault) (defBody s_outside_fault) (defScope s_outside_fault) [] [] (He.ga K "outside_fault") fd := e.says.def_ 35 (d := d_outside_fault) rfl
theorem Env.fun_link_fault (e : Env K mg) : ∃ fd, FunD K "link_fault" "link_fault" (defArgs s_link_fault) (defBody s_link_fault) (defScope s_link_fault) [] [] (He.ga K "link_fault") fd := e.says.def_ 36 (d := d_link_fault) rfl
theorem Env.fun_heater_fault (e : Env K mg) : ∃ fd, FunD K "heater_fault" "heater_fault" (defArgs s_heater_fault) (defBody s_heater_fault) (defScope s_heater_fault) [] [] (He.ga K "heater_fault") fd := e.says.def_ 37 (d := d_heater_fault) rfl
theorem Env.fun_line_fault (e : Env K mg) : ∃ fd, FunD K "line_fault" "line_fault" (defArgs s_line_fault) (defBody s_line_fault) (defScope s_line_fault) [] [] (He.ga K "line_fault") fd := e.says.def_ 38 (d := d_line_fault) rfl
theorem Env.fun_plan_of (e : Env K mg) : ∃ fd, FunD K "plan_of" "plan_of" (defArgs s_plan_of) (defBody s_plan_of) (defScope s_plan_of) [] [] (He.ga K "plan_of") fd := e.says.def_ 39 (d := d_plan_of) rfl
theorem Env.fun_name_at (e : Env K mg) : ∃ fd, FunD K "name_at" "name_at" (defArgs s_name_at) (defBody s_name_at) (defScope s_name_at) [] [] (He.ga K "name_at") fd := e.says.def_ 40 (d := d_name_at) rfl
theorem Env.fun_line_of (e : Env K mg) : ∃ fd, FunD K "line_of" "line_of" (defArgs s_line_of) (defBody s_line_of) (defScope s_line_of) [] [] (He.ga K "line_of") fd := e.says.def_ 41 (d := d_line_of) rfl
theorem Env.fun_printed (e : Env K mg) : ∃ fd, FunD K "printed" "printed" (defArgs s_printed) (defBody s_printed) (defScope s_printed) [] [] (He.ga K "printed") fd := e.says.def_ 42 (d := d_printed) rfl
theorem Env.fun_is_warmth (e : Env K mg) : ∃ fd, FunD K "is_warmth" "is_warmth" (defArgs s_is_warmth) (defBody s_is_warmth) (defScope s_is_warmth) [] [] (He.ga K "is_warmth") fd := e.says.def_ 43 (d := d_is_warmth) rfl
theorem Env.fun_House_init (e : Env K mg) : ∃ fd, FunD K "__init__" "House.__init__" (defArgs s_House_init) (defBody s_House_init) (defScope s_House_init) [] [] (He.ma K (He.ga K "House") "__init__") fd := e.says.def_ 44 (d := d_House_init) rfl
theorem Env.fun_House_begin (e : Env K mg) : ∃ fd, FunD K "begin" "House.begin" (defArgs s_House_begin) (defBody s_House_begin) (defScope s_House_begin) [] [] (He.ma K (He.ga K "House") "begin") fd := e.says.def_ 45 (d := d_House_begin) rfl
theorem Env.fun_House_close_books (e : Env K mg) : ∃ fd, FunD K "close_books" "House.close_books" (defArgs s_House_close_books) (defBody s_House_close_books) (defScope s_House_close_books) [] [] (He.ma K (He.ga K "House") "close_books") fd := e.says.def_ 46 (d := d_House_close_books) rfl
theorem Env.fun_House_has_room (e : Env K mg) : ∃ fd, FunD K "has_room" "House.has_room" (defArgs s_House_has_room) (defBody s_House_has_room) (defScope s_House_has_room) [] [] (He.ma K (He.ga K "House") "has_room") fd := e.says.def_ 47 (d := d_House_has_room) rfl
theorem Env.fun_House_has_heater (e : Env K mg) : ∃ fd, FunD K "has_heater" "House.has_heater" (defArgs s_House_has_heater) (defBody s_House_has_heater) (defScope s_House_has_heater) [] [] (He.ma K (He.ga K "House") "has_heater") fd := e.says.def_ 48 (d := d_House_has_heater) rfl
theorem Env.fun_House_build (e : Env K mg) : ∃ fd, FunD K "build" "House.build" (defArgs s_House_build) (defBody s_House_build) (defScope s_House_build) [] [] (He.ma K (He.ga K "House") "build") fd := e.says.def_ 49 (d := d_House_build) rfl
theorem Env.fun_House_text (e : Env K mg) : ∃ fd, FunD K "text" "House.text" (defArgs s_House_text) (defBody s_House_text) (defScope s_House_text) [] [] (He.ma K (He.ga K "House") "text") fd := e.says.def_ 50 (d := d_House_text) rfl
theorem Env.fun_House_outside (e : Env K mg) : ∃ fd, FunD K "outside" "House.outside" (defArgs s_House_outside) (defBody s_House_outside) (defScope s_House_outside) [] [] (He.ma K (He.ga K "House") "outside") fd := e.says.def_ 51 (d := d_House_outside) rfl
theorem Env.fun_House_heat (e : Env K mg) : ∃ fd, FunD K "heat" "House.heat" (defArgs s_House_heat) (defBody s_House_heat) (defScope s_House_heat) [] [] (He.ma K (He.ga K "House") "heat") fd := e.says.def_ 52 (d := d_House_heat) rfl
theorem Env.fun_House_step (e : Env K mg) : ∃ fd, FunD K "step" "House.step" (defArgs s_House_step) (defBody s_House_step) (defScope s_House_step) [] [] (He.ma K (He.ga K "House") "step") fd := e.says.def_ 53 (d := d_House_step) rfl
theorem Env.fun_House_run (e : Env K mg) : ∃ fd, FunD K "run" "House.run" (defArgs s_House_run) (defBody s_House_run) (defScope s_House_run) [] [] (He.ma K (He.ga K "House") "run") fd := e.says.def_ 54 (d := d_House_run) rfl
theorem Env.fun_House_temp (e : Env K mg) : ∃ fd, FunD K "temp" "House.temp" (defArgs s_House_temp) (defBody s_House_temp) (defScope s_House_temp) [] [] (He.ma K (He.ga K "House") "temp") fd := e.says.def_ 55 (d := d_House_temp) rfl
theorem Env.fun_House_trace (e : Env K mg) : ∃ fd, FunD K "trace" "House.trace" (defArgs s_House_trace) (defBody s_House_trace) (defScope s_House_trace) [] [] (He.ma K (He.ga K "House") "trace") fd := e.says.def_ 56 (d := d_House_trace) rfl
theorem Env.fun_House_books (e : Env K mg) : ∃ fd, FunD K "books" "House.books" (defArgs s_House_books) (defBody s_House_books) (defScope s_House_books) [] [] (He.ma K (He.ga K "House") "books") fd := e.says.def_ 57 (d := d_House_books) rfl
theorem Env.fun_House_flow (e : Env K mg) : ∃ fd, FunD K "flow" "House.flow" (defArgs s_House_flow) (defBody s_House_flow) (defScope s_House_flow) [] [] (He.ma K (He.ga K "House") "flow") fd := e.says.def_ 58 (d := d_House_flow) rfl
theorem Env.fun_House_rest (e : Env K mg) : ∃ fd, FunD K "rest" "House.rest" (defArgs s_House_rest) (defBody s_House_rest) (defScope s_House_rest) [] [] (He.ma K (He.ga K "House") "rest") fd := e.says.def_ 59 (d := d_House_rest) rfl
theorem Env.fun_House_set_room (e : Env K mg) : ∃ fd, FunD K "set_room" "House.set_room" (defArgs s_House_set_room) (defBody s_House_set_room) (defScope s_House_set_room) [] [] (He.ma K (He.ga K "House") "set_room") fd := e.says.def_ 60 (d := d_House_set_room) rfl
theorem Env.fun_House_tell_clock (e : Env K mg) : ∃ fd, FunD K "tell_clock" "House.tell_clock" (defArgs s_House_tell_clock) (defBody s_House_tell_clock) (defScope s_House_tell_clock) [] [] (He.ma K (He.ga K "House") "tell_clock") fd := e.says.def_ 61 (d := d_House_tell_clock) rfl
theorem Env.fun_House_is_near (e : Env K mg) : ∃ fd, FunD K "is_near" "House.is_near" (defArgs s_House_is_near) (defBody s_House_is_near) (defScope s_House_is_near) [] [] (He.ma K (He.ga K "House") "is_near") fd := e.says.def_ 62 (d := d_House_is_near) rfl
theorem Env.fun_House_settle (e : Env K mg) : ∃ fd, FunD K "settle" "House.settle" (defArgs s_House_settle) (defBody s_House_settle) (defScope s_House_settle) [] [] (He.ma K (He.ga K "House") "settle") fd := e.says.def_ 63 (d := d_House_settle) rfl
theorem Env.fun_House_halve (e : Env K mg) : ∃ fd, FunD K "halve" "House.halve" (defArgs s_House_halve) (defBody s_House_halve) (defScope s_House_halve) [] [] (He.ma K (He.ga K "House") "halve") fd := e.says.def_ 64 (d := d_House_halve) rfl
theorem Env.fun_House_is_bound (e : Env K mg) : ∃ fd, FunD K "is_bound" "House.is_bound" (defArgs s_House_is_bound) (defBody s_House_is_bound) (defScope s_House_is_bound) [] [] (He.ma K (He.ga K "House") "is_bound") fd := e.says.def_ 65 (d := d_House_is_bound) rfl
theorem Env.fun_House_bracket (e : Env K mg) : ∃ fd, FunD K "bracket" "House.bracket" (defArgs s_House_bracket) (defBody s_House_bracket) (defScope s_House_bracket) [] [] (He.ma K (He.ga K "House") "bracket") fd := e.says.def_ 66 (d := d_House_bracket) rfl
theorem Env.fun_House_latest (e : Env K mg) : ∃ fd, FunD K "latest" "House.latest" (defArgs s_House_latest) (defBody s_House_latest) (defScope s_House_latest) [] [] (He.ma K (He.ga K "House") "latest") fd := e.says.def_ 67 (d := d_House_latest) rfl
theorem Env.fun_House_least (e : Env K mg) : ∃ fd, FunD K "least" "House.least" (defArgs s_House_least) (defBody s_House_least) (defScope s_House_least) [] [] (He.ma K (He.ga K "House") "least") fd := e.says.def_ 68 (d := d_House_least) rfl
theorem Env.fun_row_at (e : Env K mg) : ∃ fd, FunD K "row_at" "row_at" (defArgs s_row_at) (defBody s_row_at) (defScope s_row_at) [] [] (He.ga K "row_at") fd := e.says.def_ 69 (d := d_row_at) rfl
theorem Env.fun_plain_answer (e : Env K mg) : ∃ fd, FunD K "plain_answer" "plain_answer" (defArgs s_plain_answer) (defBody s_plain_answer) (defScope s_plain_answer) [] [] (He.ga K "plain_answer") fd := e.says.def_ 70 (d := d_plain_answer) rfl
theorem Env.fun_short_answer (e : Env K mg) : ∃ fd, FunD K "short_answer" "short_answer" (defArgs s_short_answer) (defBody s_short_answer) (defScope s_short_answer) [] [] (He.ga K "short_answer") fd := e.says.def_ 71 (d := d_short_answer) rfl
theorem Env.fun_long_answer (e : Env K mg) : ∃ fd, FunD K "long_answer" "long_answer" (defArgs s_long_answer) (defBody s_long_answer) (defScope s_long_answer) [] [] (He.ga K "long_answer") fd := e.says.def_ 72 (d := d_long_answer) rfl
theorem Env.fun_answer_at (e : Env K mg) : ∃ fd, FunD K "answer_at" "answer_at" (defArgs s_answer_at) (defBody s_answer_at) (defScope s_answer_at) [] [] (He.ga K "answer_at") fd := e.says.def_ 73 (d := d_answer_at) rfl
theorem Env.fun_answers (e : Env K mg) : ∃ fd, FunD K "answers" "answers" (defArgs s_answers) (defBody s_answers) (defScope s_answers) [] [] (He.ga K "answers") fd := e.says.def_ 74 (d := d_answers) rfl
end
section
variable {P : Program} {w : World} {K : PySem.W.Frag} {mg : Str → Option Value} {base : Heap}
/-- a def's promise by its body -/
theorem ok_of {x qual : Str} {st : Stmt} {f : Addr} {N ps : List Str} {k : Nat} {sp : Sp} (F : ∃ fd, FunD K x qual (defArgs st) (defBody st) (defScope st) [] [] f fd) (S : FnScope N ps (defScope st))
    (hb : ∀ (kV doc pm : Value) (an : Option Addr) (cdv ct : Value) (us : List Value), us.length = ps.length → bindArgs (PySem.W.fnOf x qual (defArgs st) (defBody st) (defScope st) .none kV doc pm an cdv ct) ⟨us, []⟩ = pure (ps.zip us))
    (len : ∀ vs H Q E, sp vs H Q E → vs.length = ps.length)
    (hbody : ∀ (cdv : Value) (A : Around) (outer : List PySem.Env) (s : Shared) (H : Hp) (vs : List V) (Q : VK) (E : XK), Room k (A.deeper (envOfC qual (defScope st) s.heap.objs.size f cdv)) → sp vs H Q E →
      ∃ t, PSs (cxOf CX0 P w K mg base N qual (defScope st) f cdv A outer s H E).nox (defBody st) t ∧ t { nx := fun _ H' => Q .non H', rt := Q } (start N vs) H) : Ok P w K mg base (k + 1) f ps sp := by
  obtain ⟨fd, F⟩ := F
  exact ⟨fd, F.ok S len fun cdv A outer s H vs Q E hr h => by
    obtain ⟨t, h1, h2⟩ := hbody cdv A outer s H vs Q E hr h
    exact ⟨t, h1.nox, h2⟩, F.bindsN hb, F.kp⟩
end
end WR
end PartWEnv
section PartWRules
set_option Elab.async false
set_option linter.all false
set_option maxRecDepth 100000
set_option maxHeartbeats 2000000
namespace WR
open PySem PySem.Spec PyProof.Rows L2 WH

/-! ### heaps that grow: H' is H and, new, what l tells -/
structure Ext (H H' : Hp) (l : List (Addr × HO)) : Prop where
  same : ∀ b o, H b = some o → H' b = some o
  has : ∀ p ∈ l, H' p.1 = some p.2
  fr : ∀ p ∈ l, H p.1 = none
  nd : (l.map (·.1)).Nodup
/-- one object written -/
def Put (H H' : Hp) (a : Addr) (o : HO) : Prop := H' = upd H a o
def hide (M : List Addr) (H : Hp) : Hp := fun b => if b ∈ M then none else H b
section
variable {H H0 H1 H2 H' : Hp} {l l2 : List (Addr × HO)} {p a b : Addr} {o u : HO}
theorem Ext.refl (H : Hp) : Ext H H [] := ⟨fun _ _ h => h, fun p h => (by cases h), fun p h => (by cases h), List.nodup_nil⟩
theorem Ext.g (x : Ext H H' l) (i : Nat) (h : l[i]? = some (p, o) := by rfl) : H' p = some o := x.has _ (List.mem_of_getElem? h)
theorem Ext.f (x : Ext H H' l) (i : Nat) (h : l[i]? = some (p, o) := by rfl) : H p = none := x.fr _ (List.mem_of_getElem? h)
theorem Ext.k (x : Ext H H' l) (h : H b = some o) : H' b = some o := x.same _ _ h
theorem Ext.new (h : H p = none) : Ext H (upd H p o) [(p, o)] := by
  refine ⟨fun b u e => ?_, fun q hq => ?_, fun q hq => ?_, ?_⟩
  · rw [upd_ne (ne_of_none e h)]
    exact e
  · cases List.mem_singleton.mp hq
    exact upd_same
  · cases List.mem_singleton.mp hq
    exact h
  · simp
theorem Ext.trans (x : Ext H H1 l) (y : Ext H1 H2 l2) : Ext H H2 (l2 ++ l) := by
  refine ⟨fun b u e => y.same _ _ (x.same _ _ e), fun q hq => ?_, fun q hq => ?_, ?_⟩
  · rcases List.mem_append.mp hq with h | h
    · exact y.has q h
    · exact y.same _ _ (x.has q h)
  · rcases List.mem_append.mp hq with h | h
    · have z := y.fr q h
      cases e : H q.1 with
      | none => rfl
      | some u =>
        rw [x.same _ _ e] at z
        cases z
    · exact x.fr q h
  · rw [List.map_append]
    refine List.nodup_append.mpr ⟨y.nd, x.nd, fun s hs t ht e => ?_⟩
    subst e
    obtain ⟨q, hq, rfl⟩ := List.mem_map.mp hs
    obtain ⟨r, hr, e⟩ := List.mem_map.mp ht
    have z := y.fr q hq
    rw [← e, x.has r hr] at z
    cases z
/-- what is no more asked for is forgotten -/
theorem Ext.sub (x : Ext H H' l) (h : ∀ p ∈ l2, p ∈ l) (nd : (l2.map (·.1)).Nodup) : Ext H H' l2 := ⟨x.same, fun p hp => x.has p (h p hp), fun p hp => x.fr p (h p hp), nd⟩
theorem nodup_fst {l : List (Addr × HO)} (h : (l.map (·.1)).Nodup) {i j : Nat} (hi : l[i]? = some (p, o)) (hj : l[j]? = some (p, u)) : i = j := by
  have a1 : (l.map (·.1))[i]? = some p := by rw [List.getElem?_map, hi]; rfl
  have a2 : (l.map (·.1))[j]? = some p := by rw [List.getElem?_map, hj]; rfl
  exact nd_ix h a1 a2
theorem Ext.put (x : Ext H H1 l) (i : Nat) (h : l[i]? = some (p, o)) (e : Put H1 H2 p u) : Ext H H2 (l.set i (p, u)) := by
  have e : H2 = upd H1 p u := e
  subst e
  have hf : H p = none := x.f i h
  have mp : (l.set i (p, u)).map (·.1) = l.map (·.1) := by
    rw [List.map_set]
    refine List.ext_getElem? fun j => ?_
    rw [List.getElem?_set]
    split
    · rename_i q
      subst q
      rw [List.getElem?_map, h]
      split
      · rfl
      · rename_i q
        rw [List.length_map] at q
        exact absurd (List.getElem?_eq_some_iff.mp h).1 q
    · rfl
  refine ⟨fun b v q => ?_, fun q hq => ?_, fun q hq => ?_, by rw [mp]; exact x.nd⟩
  · rw [upd_ne (ne_of_none q hf)]
    exact x.same _ _ q
  · obtain ⟨j, hj, e⟩ := List.getElem_of_mem hq
    have ej : (l.set i (p, u))[j]? = some q := by rw [List.getElem?_eq_getElem hj, e]
    rw [List.getElem?_set] at ej
    split at ej
    · split at ej
      · cases ej
        exact upd_same
      · cases ej
    · rename_i hne
      have nq : q.1 ≠ p := fun z => by
        obtain ⟨q1, q2⟩ := q
        have z' : q1 = p := z
        subst z'
        exact hne (nodup_fst x.nd h ej)
      rw [upd_ne nq]
      exact x.has q (List.mem_of_getElem? ej)
  · have hq' : q.1 ∈ (l.set i (p, u)).map (·.1) := List.mem_map_of_mem hq
    rw [mp] at hq'
    obtain ⟨r, hr, e⟩ := List.mem_map.mp hq'
    rw [← e]
    exact x.fr r hr
theorem hide_ne {M : List Addr} (h : b ∉ M) : hide M H b = H b := if_neg h
theorem hide_in {M : List Addr} (h : b ∈ M) : hide M H b = none := if_pos h
theorem hide_some {M : List Addr} (h : hide M H b = some o) : H b = some o ∧ b ∉ M := by
  unfold hide at h
  split at h
  · cases h
  · exact ⟨h, by assumption⟩
/-- what is to be changed is put in the list -/
theorem Ext.hide1 (h : H a = some o) : Ext (hide [a] H) H [(a, o)] := by
  refine ⟨fun b u e => (hide_some e).1, fun q hq => ?_, fun q hq => ?_, by simp⟩
  · cases List.mem_singleton.mp hq
    exact h
  · cases List.mem_singleton.mp hq
    exact hide_in (by simp)
theorem Ext.hide2 (h : H a = some o) (h2 : H b = some u) (hne : a ≠ b) : Ext (hide [a, b] H) H [(a, o), (b, u)] := by
  refine ⟨fun c v e => (hide_some e).1, fun q hq => ?_, fun q hq => ?_, by simpa using hne⟩
  · rcases List.mem_cons.mp hq with rfl | hq
    · exact h
    · cases List.mem_singleton.mp hq
      exact h2
  · rcases List.mem_cons.mp hq with rfl | hq
    · exact hide_in (by simp)
    · cases List.mem_singleton.mp hq
      exact hide_in (by simp)
/-- behind a call that changes a, which we have made -/
theorem Ext.mod1 {a : Addr} {o o' : HO} {r : List (Addr × HO)} (x : Ext H H1 l) (i : Nat) (hi : l[i]? = some (a, o)) (m : Ext (hide [a] H1) H2 ((a, o') :: r)) : Ext H H2 (r ++ l.set i (a, o')) := by
  have hf := x.f i hi
  have ha : H2 a = some o' := m.g 0
  have hne : ∀ {b : Addr} {v : HO}, H1 b = some v → b ≠ a → H2 b = some v := fun {b v} e n => m.same b v (by rw [hide_ne (by simpa using n)]; exact e)
  have x2 : Ext H (upd H1 a o') (l.set i (a, o')) := x.put i hi rfl
  have r1 : ∀ p ∈ r, H1 p.1 = none := fun p hp => by
    have z := m.fr p (List.mem_cons_of_mem _ hp)
    have n : p.1 ≠ a := fun e => by
      have q := m.nd
      rw [List.map_cons, List.nodup_cons] at q
      exact q.1 (by show a ∈ r.map (·.1); rw [← e]; exact List.mem_map_of_mem hp)
    rw [hide_ne (by simpa using n)] at z
    exact z
  have y : Ext (upd H1 a o') H2 r := by
    refine ⟨fun b v e => ?_, fun p hp => m.has p (List.mem_cons_of_mem _ hp), fun p hp => ?_, ?_⟩
    · by_cases q : b = a
      · subst q
        rw [upd_same] at e
        cases e
        exact ha
      · rw [upd_ne q] at e
        exact hne e q
    · have z := r1 p hp
      have n : p.1 ≠ a := fun e => by rw [e, x.g i hi] at z; cases z
      rw [upd_ne n]
      exact z
    · have q := m.nd
      rw [List.map_cons, List.nodup_cons] at q
      exact q.2
  exact x2.trans y
end

/-! ### the rules over such heaps -/
section
variable {X : Cx} {K : PySem.W.Frag} {e o i value : Expr} {es : List Expr} {pos pos' apos cpos tpos : Pos} {t : TA} {te to ti tv : TE}
theorem impO {f : Value → Value → Sem Value} {r r' : R2} (h : OpR X f r) (q : ∀ x y H Q, r' x y H Q → r x y H Q) : OpR X f r' := fun pins s σ H x y v u Q I rx ry h' => h pins s σ H x y v u Q I rx ry (q _ _ _ _ h')
theorem impI {r r' : R2} (h : IxR X r) (q : ∀ x y H Q, r' x y H Q → r x y H Q) : IxR X r' := fun value slice pins s σ H x y v u Q I rx ry h' hs => h value slice pins s σ H x y v u Q I rx ry (q _ _ _ _ h') hs
theorem impC {f : Value} {r r' : List V → Hp → VK → Prop} (h : CallR X f r) (q : ∀ xs H Q, r' xs H Q → r xs H Q) : CallR X f r' := fun pins s σ H xs us Q I rs h' => h pins s σ H xs us Q I rs (q _ _ _ h')
theorem impS {r r' : V → Option Int → Option Int → Hp → VK → Prop} (h : SlR X r) (q : ∀ x lo hi H Q, r' x lo hi H Q → r x lo hi H Q) : SlR X r' := fun pins s σ H x v vl vu lo hi sl Q I rx hs pl pu h' => h pins s σ H x v vl vu lo hi sl Q I rx hs pl pu (q _ _ _ _ _ h')
/-- a new object -/
theorem new_of {H1 : Hp} {o : HO} {P : Addr → Hp → Prop} (h : ∀ p H', Ext H1 H' [(p, o)] → P p H') : ∀ p, H1 p = none → P p (upd H1 p o) := fun p hp => h p _ (Ext.new hp)
def nLst (t : TA) : TE := fun σ H Q => t σ H fun xs H1 => xs.length ≤ sizeLine ∧ ∀ p H', Ext H1 H' [(p, .lst xs)] → Q (.ref p) H'
def nTup (t : TA) : TE := fun σ H Q => t σ H fun xs H1 => xs.length ≤ sizeLine ∧ ∀ p H', Ext H1 H' [(p, .tup xs)] → Q (.ref p) H'
theorem pe_lstN (h : PA X es t) : PE X (.List es pos) (nLst t) := by
  refine ⟨fun pins s σ H Q I hq => ?_⟩
  refine wpAny_List_spliced (thn (h.run pos pins s σ H _ I hq) fun us s1 ⟨xs, H1, I1, r, z, q⟩ => ⟨by rw [← r.length]; exact z, ?_⟩)
  have hf : H1 s1.heap.objs.size = none := I1.hok.fresh (Nat.le_refl _)
  refine ⟨.ref s1.heap.objs.size, upd H1 s1.heap.objs.size (.lst xs), I1.laid (t' := s1.toks) (fun b u e => Heap.get?_push_of_some _ e) (Nat.le_refl _) ?_, rfl, q _ _ (Ext.new hf)⟩
  exact ⟨z, us, 0, r, Heap.get?_push_size _ rfl⟩
theorem pe_tupN {x1} (h : PA X es t) : PE X (.Tuple es x1 pos) (nTup t) := by
  refine ⟨fun pins s σ H Q I hq => ?_⟩
  refine wpAny_Tuple_spliced (thn (h.run pos pins s σ H _ I hq) fun us s1 ⟨xs, H1, I1, r, z, q⟩ => ⟨by rw [← r.length]; exact z, ?_⟩)
  have hf : H1 s1.heap.objs.size = none := I1.hok.fresh (Nat.le_refl _)
  refine ⟨.ref s1.heap.objs.size, upd H1 s1.heap.objs.size (.tup xs), I1.laid (t' := s1.toks) (fun b u e => Heap.get?_push_of_some _ e) (Nat.le_refl _) ?_, rfl, q _ _ (Ext.new hf)⟩
  exact ⟨z, us, r, ⟨_, Heap.get?_push_size _ rfl, rfl, _, rfl⟩⟩
def nDict : TE := fun _ H Q => ∀ p H', Ext H H' [(p, .dT [])] → Q (.ref p) H'
theorem pe_dnewN : PE X (.Dict [] [] pos) nDict := ⟨fun pins s σ H Q I h => pe_dnewT.run pins s σ H Q I (new_of h)⟩
/-- xs[i], t[i] of what is tracked -/
def nIxL : R2 := fun x y H Q => ∃ p xs i v, x = .ref p ∧ y = .int i ∧ H p = some (.lst xs) ∧ atI xs i = some v ∧ Q v H
def nIxT : R2 := fun x y H Q => ∃ p xs i v, x = .ref p ∧ y = .int i ∧ H p = some (.tup xs) ∧ atI xs i = some v ∧ Q v H
theorem ix_listN : IxR X nIxL := impI ix_list fun x y H Q ⟨p, xs, i, v, a, b, c, d, q⟩ => ⟨p, xs, i, v, a, b, SqL.of c, d, q⟩
theorem ix_tupN : IxR X nIxT := impI ix_tup fun x y H Q ⟨p, xs, i, v, a, b, c, d, q⟩ => ⟨p, xs, i, v, a, b, SqT.of c, d, q⟩
def nLenL : List V → Hp → VK → Prop := fun xs H Q => ∃ p ys, xs = [.ref p] ∧ H p = some (.lst ys) ∧ Q (.int ys.length) H
def nLenT : List V → Hp → VK → Prop := fun xs H Q => ∃ p ys, xs = [.ref p] ∧ H p = some (.tup ys) ∧ Q (.int ys.length) H
theorem len_listN : CallR X (.builtin "len") nLenL := impC call_len_seq fun xs H Q ⟨p, ys, a, b, q⟩ => ⟨p, ys, a, .inl (SqL.of b), q⟩
theorem len_tupN : CallR X (.builtin "len") nLenT := impC call_len_seq fun xs H Q ⟨p, ys, a, b, q⟩ => ⟨p, ys, a, .inr (SqT.of b), q⟩
def nListL : List V → Hp → VK → Prop := fun xs H Q => ∃ p ys, xs = [.ref p] ∧ H p = some (.lst ys) ∧ ∀ l H', Ext H H' [(l, .lst ys)] → Q (.ref l) H'
def nListT : List V → Hp → VK → Prop := fun xs H Q => ∃ p ys, xs = [.ref p] ∧ H p = some (.tup ys) ∧ ∀ l H', Ext H H' [(l, .lst ys)] → Q (.ref l) H'
def nTupL : List V → Hp → VK → Prop := fun xs H Q => ∃ p ys, xs = [.ref p] ∧ H p = some (.lst ys) ∧ ∀ l H', Ext H H' [(l, .tup ys)] → Q (.ref l) H'
theorem list_listN : CallR X (.type "list") nListL := impC call_list_of fun xs H Q ⟨p, ys, a, b, q⟩ => ⟨p, ys, a, .inl (SqL.of b), new_of q⟩
theorem list_tupN : CallR X (.type "list") nListT := impC call_list_of fun xs H Q ⟨p, ys, a, b, q⟩ => ⟨p, ys, a, .inr (SqT.of b), new_of q⟩
theorem tuple_listN : CallR X (.type "tuple") nTupL := impC call_tuple_of fun xs H Q ⟨p, ys, a, b, q⟩ => ⟨p, ys, a, .inl ⟨SqL.of b, new_of q⟩⟩
def nSum : List V → Hp → VK → Prop := fun vs H Q => ∃ (a : Addr) (ns : List Int), vs = [V.ref a] ∧ H a = some (.lst (ns.map V.int)) ∧ Q (.int ns.sum) H
theorem sumN (hc : X.calm = true) : CallR X (.builtin "sum") nSum := impC (cr_sum hc) fun xs H Q ⟨p, ys, a, b, q⟩ => ⟨p, ys, a, SqL.of b, q⟩
def nMax : List V → Hp → VK → Prop := fun vs H Q => ∃ (a : Addr) (ns : List Int), vs = [V.ref a] ∧ H a = some (.lst (ns.map V.int)) ∧ 0 < ns.length ∧ ∀ m, m ∈ ns → (∀ y, y ∈ ns → y ≤ m) → Q (.int m) H
theorem maxN (hc : X.calm = true) : CallR X (.builtin "max") nMax := impC (cr_max hc) fun xs H Q ⟨p, ys, a, b, c, q⟩ => ⟨p, ys, a, SqL.of b, c, q⟩
def nAll : List V → Hp → VK → Prop := fun vs H Q => ∃ (a : Addr) (bs : List Bool), vs = [V.ref a] ∧ H a = some (.lst (bs.map V.bl)) ∧ Q (.bl (bs.all id)) H
theorem allN (hc : X.calm = true) : CallR X (.builtin "all") nAll := impC (cr_all hc) fun xs H Q ⟨p, ys, a, b, q⟩ => ⟨p, ys, a, SqL.of b, q⟩
def nCat : R2 := fun x y H Q => ∃ l b xs zs, x = .ref l ∧ y = .ref b ∧ H l = some (.lst xs) ∧ H b = some (.lst zs) ∧ xs.length + zs.length ≤ sizeLine ∧ ∀ p H', Ext H H' [(p, .lst (xs ++ zs))] → Q (.ref p) H'
theorem op_catN : OpR X (binaryOp .Add) nCat := impO op_cat fun x y H Q ⟨l, b, xs, zs, a1, a2, a3, a4, a5, q⟩ => ⟨l, b, xs, zs, a1, a2, a3, a4, a5, new_of q⟩
/-- [v] * n -/
def nRep : R2 := fun x y H Q => ∃ l k v, x = .ref l ∧ y = .int k ∧ H l = some (.lst [v]) ∧ (0 ≤ k ∧ k ≤ 1000000) ∧ ∀ p H', Ext H H' [(p, .lst (List.replicate k.toNat v))] → Q (.ref p) H'
theorem flat_rep (v : V) : ∀ n : Nat, (List.replicate n [v]).flatten = List.replicate n v
  | 0 => rfl
  | n + 1 => by rw [List.replicate_succ, List.flatten_cons, flat_rep v n]; rfl
theorem op_repN : OpR X (binaryOp .Mult) nRep := impO op_rep fun x y H Q ⟨l, k, v, a1, a2, a3, ⟨a4, a5⟩, q⟩ => by
  refine ⟨l, k, [v], a1, a2, a3, by omega, by omega, ?_, ?_⟩
  · show 1 * k.toNat ≤ sizeLine
    have : (1000000 : Nat) ≤ sizeLine := by decide
    omega
  · rw [flat_rep]
    exact new_of q
def nSlL : V → Option Int → Option Int → Hp → VK → Prop := fun x lo hi H Q => ∃ a xs, x = .ref a ∧ H a = some (.lst xs) ∧ ∀ p H', Ext H H' [(p, .lst (cutV xs lo hi))] → Q (.ref p) H'
theorem sl_listN : SlR X nSlL := impS sl_list fun x lo hi H Q ⟨a, xs, a1, a2, q⟩ => ⟨a, xs, a1, SqL.of a2, new_of q⟩
/-- a slice of a tuple, whole or not -/
def nSlT : V → Option Int → Option Int → Hp → VK → Prop := fun x lo hi H Q => ∃ a xs, x = .ref a ∧ H a = some (.tup xs) ∧ ∀ p H', Ext H H' [] → H' p = some (.tup (cutV xs lo hi)) → Q (.ref p) H'
theorem cutV_all {xs : List V} {lo hi : Option Int} (h : HT.sIx xs.length 0 lo = 0 ∧ HT.sIx xs.length xs.length hi = xs.length) : cutV xs lo hi = xs := by
  unfold cutV
  rw [h.1, h.2]
  simp
theorem sl_tupN : SlR X nSlT := impS sl_tupA fun x lo hi H Q ⟨a, xs, a1, a2, q⟩ => ⟨a, xs, a1, SqT.of a2, fun z => by
    refine q a H (Ext.refl H) ?_
    rw [cutV_all z]
    exact a2, fun _ => new_of fun p H' x => q p H' (x.sub (fun _ h => nomatch h) List.nodup_nil) (x.g 0)⟩
def nSetL : V → V → V → Hp → (Hp → Prop) → Prop := fun o i v H Q => ∃ p xs k j, o = .ref p ∧ i = .int k ∧ H p = some (.lst xs) ∧ ixN xs.length k = some j ∧ ∀ H', Put H H' p (.lst (xs.set j v)) → Q H'
theorem set_listN : PSet X nSetL := fun pins s σ H o i v ov iv u Q I ro ri rv ⟨p, xs, k, j, a1, a2, a3, a4, q⟩ => set_list pins s σ H o i v ov iv u Q I ro ri rv ⟨p, xs, k, j, a1, a2, a3, a4, q _ rfl⟩
def nGetL : V → V → Hp → VK → Prop := fun x y H Q => ∃ p xs i v, x = .ref p ∧ y = .int i ∧ H p = some (.lst xs) ∧ atI xs i = some v ∧ 0 ≤ i ∧ Q v H
theorem get_listN : PGet X nGetL := fun pins s σ H x y v u Q I rx ry ⟨p, xs, i, w, a1, a2, a3, a4, a5, q⟩ => by
  refine get_list pins s σ H x y v u Q I rx ry ⟨p, xs, i, w, a1, a2, SqL.of a3, ?_, a5, q⟩
  obtain ⟨j, h1, h2, h3, h4, h5⟩ := atI_get a4
  rw [seqIndex_of a5 h5] at h1
  rw [Option.some.inj h1]
  exact h2
/-- (a, b, ..) = a tracked tuple of that length -/
def nGTup (n : Nat) (t : TGs) : TG := fun v σ H Q => ∃ a xs, v = .ref a ∧ H a = some (.tup xs) ∧ xs.length = n ∧ t xs σ H Q
theorem pg_tupN {k : Nat} {t : TGs} {n : Nat} (hc : X.calm = true) (h : PGs X es t)
    (hn : (assignEach es X.env).length = n := by rfl) (hst : (assignEach es X.env).findIdx? (·.1) = none := by rfl) : PG X (.Tuple es k pos) (nGTup n t) :=
  ⟨fun pins s σ H v u Q I r ⟨a, xs, e1, e2, e3, q⟩ => (pg_tup hc h hn hst).run pins s σ H v u Q I r ⟨a, xs, e1, SqT.of e2, e3, q⟩⟩
/-- xs.append(e), xs.extend(e) -/
def nApp (to : TE) (t : TA) : TE := fun σ H Q => to σ H fun x H1 => ∃ l ys, x = .ref l ∧ H1 l = some (.lst ys) ∧ t σ H1 fun vs H2 => ∃ y xs, vs = [y] ∧ H2 l = some (.lst xs) ∧ xs.length < sizeLine ∧ ∀ H', Put H2 H' l (.lst (xs ++ [y])) → Q .non H'
theorem pe_appN (ho : PE X o to) (ha : PA X [e] t) (hbase : attributeBase o "append" X.env (eval o X.env) = eval o X.env := by rfl)
    (hfew : ((backTo cpos (starEach [e] X.env)).all (fun x => !x.1) && (backToKw cpos (keywordEach [] X.env)).all (fun x => x.1.isSome) && decide (([e] : List Expr).length + ([] : List Keyword).length + (if ([] : List Keyword).isEmpty then 0 else 1) < 30)) = true := by rfl)
    (hline : (apos.endLine == cpos.line) = true := by rfl) (hs : starEach [e] X.env = (false, eval e X.env) :: starEach [] X.env := by rfl) (hplain : (backTo cpos (starEach [] X.env)).any (·.1) = false := by rfl) :
    PE X (.Call (.Attribute o "append" apos) [e] [] cpos) (nApp to t) := by
  refine ⟨fun pins s σ H Q I h => ?_⟩
  refine wpAny_Call_method_late hbase hfew hline rfl (thn (ho.run pins s σ H _ I h) fun v s1 ⟨x, H1, I1, r1, l, ys, ex, hl, q1⟩ => ?_)
  obtain ⟨h1, h2⟩ := tyV_is (T := "list") I1 r1 (by rw [ex]; exact .inl ⟨rfl, _, SqL.of hl⟩)
  refine ⟨"list", _, PySem.F.plainAttrs_list, PySem.F.slot_list_append, PySem.F.type_list_append, h1, h2, ?_⟩
  have hA := ha.run cpos pins s1 σ H1 _ I1 q1
  rw [hs] at hA ⊢
  refine Calls.callWith_builtin (by show (false || (backTo cpos (starEach [] X.env)).any (·.1)) = false; rw [hplain] <;> rfl) (Calls.evalArgs_plain ?_)
  refine thn hA fun us s2 ⟨vs, H2, I2, r2, y, xs, ev, hl2, hz, q2⟩ => ?_
  exact mt_append pins s2 σ H2 x vs v us Q I2 r1 r2 ⟨l, xs, y, ex, ev, hl2, hz, q2 _ rfl⟩
def nExtL (to : TE) (t : TA) : TE := fun σ H Q => to σ H fun x H1 => ∃ l ys, x = .ref l ∧ H1 l = some (.lst ys) ∧ t σ H1 fun vs H2 => ∃ b zs xs, vs = [.ref b] ∧ H2 b = some (.lst zs) ∧ H2 l = some (.lst xs) ∧ xs.length + zs.length ≤ sizeLine ∧ ∀ H', Put H2 H' l (.lst (xs ++ zs)) → Q .non H'
def nExtT (to : TE) (t : TA) : TE := fun σ H Q => to σ H fun x H1 => ∃ l ys, x = .ref l ∧ H1 l = some (.lst ys) ∧ t σ H1 fun vs H2 => ∃ b zs xs, vs = [.ref b] ∧ H2 b = some (.tup zs) ∧ H2 l = some (.lst xs) ∧ xs.length + zs.length ≤ sizeLine ∧ ∀ H', Put H2 H' l (.lst (xs ++ zs)) → Q .non H'
theorem pe_extLN (ho : PE X o to) (ha : PA X [e] t) (hbase : attributeBase o "extend" X.env (eval o X.env) = eval o X.env := by rfl)
    (hfew : ((backTo cpos (starEach [e] X.env)).all (fun x => !x.1) && (backToKw cpos (keywordEach [] X.env)).all (fun x => x.1.isSome) && decide (([e] : List Expr).length + ([] : List Keyword).length + (if ([] : List Keyword).isEmpty then 0 else 1) < 30)) = true := by rfl)
    (hline : (apos.endLine == cpos.line) = true := by rfl) (hs : starEach [e] X.env = (false, eval e X.env) :: starEach [] X.env := by rfl) (hplain : (backTo cpos (starEach [] X.env)).any (·.1) = false := by rfl) :
    PE X (.Call (.Attribute o "extend" apos) [e] [] cpos) (nExtL to t) := by
  refine ⟨fun pins s σ H Q I h => ?_⟩
  refine wpAny_Call_method_late hbase hfew hline rfl (thn (ho.run pins s σ H _ I h) fun v s1 ⟨x, H1, I1, r1, l, ys, ex, hl, q1⟩ => ?_)
  obtain ⟨h1, h2⟩ := tyV_is (T := "list") I1 r1 (by rw [ex]; exact .inl ⟨rfl, _, SqL.of hl⟩)
  refine ⟨"list", _, PySem.F.plainAttrs_list, PySem.F.slot_list_extend, PySem.F.type_list_extend, h1, h2, ?_⟩
  have hA := ha.run cpos pins s1 σ H1 _ I1 q1
  rw [hs] at hA ⊢
  refine Calls.callWith_builtin (by show (false || (backTo cpos (starEach [] X.env)).any (·.1)) = false; rw [hplain] <;> rfl) (Calls.evalArgs_plain ?_)
  refine thn hA fun us s2 ⟨vs, H2, I2, r2, b, zs, xs, ev, hb, hl2, hz, q2⟩ => ?_
  exact mt_extend pins s2 σ H2 x vs v us Q I2 r1 r2 ⟨l, b, xs, zs, ex, ev, hl2, hb, hz, q2 _ rfl⟩
theorem pe_extTN (ho : PE X o to) (ha : PA X [e] t) (hbase : attributeBase o "extend" X.env (eval o X.env) = eval o X.env := by rfl)
    (hfew : ((backTo cpos (starEach [e] X.env)).all (fun x => !x.1) && (backToKw cpos (keywordEach [] X.env)).all (fun x => x.1.isSome) && decide (([e] : List Expr).length + ([] : List Keyword).length + (if ([] : List Keyword).isEmpty then 0 else 1) < 30)) = true := by rfl)
    (hline : (apos.endLine == cpos.line) = true := by rfl) (hs : starEach [e] X.env = (false, eval e X.env) :: starEach [] X.env := by rfl) (hplain : (backTo cpos (starEach [] X.env)).any (·.1) = false := by rfl) :
    PE X (.Call (.Attribute o "extend" apos) [e] [] cpos) (nExtT to t) := by
  refine ⟨fun pins s σ H Q I h => ?_⟩
  refine wpAny_Call_method_late hbase hfew hline rfl (thn (ho.run pins s σ H _ I h) fun v s1 ⟨x, H1, I1, r1, l, ys, ex, hl, q1⟩ => ?_)
  obtain ⟨h1, h2⟩ := tyV_is (T := "list") I1 r1 (by rw [ex]; exact .inl ⟨rfl, _, SqL.of hl⟩)
  refine ⟨"list", _, PySem.F.plainAttrs_list, PySem.F.slot_list_extend, PySem.F.type_list_extend, h1, h2, ?_⟩
  have hA := ha.run cpos pins s1 σ H1 _ I1 q1
  rw [hs] at hA ⊢
  refine Calls.callWith_builtin (by show (false || (backTo cpos (starEach [] X.env)).any (·.1)) = false; rw [hplain] <;> rfl) (Calls.evalArgs_plain ?_)
  refine thn hA fun us s2 ⟨vs, H2, I2, r2, b, zs, xs, ev, hb, hl2, hz, q2⟩ => ?_
  exact mt_extT pins s2 σ H2 x vs v us Q I2 r1 r2 ⟨l, b, xs, zs, ex, ev, hl2, SqT.of hb, hz, q2 _ rfl⟩
/-- the names' dict: keys are tuples of whole numbers -/
def keyI (k : List Int) : List Key := k.map Sum.inl
theorem keyI_kV (k : List Int) : (keyI k).map kV = k.map V.int := by
  unfold keyI
  rw [List.map_map]
  rfl
def nDIn (ty td : TE) : TE := fun σ H Q => ty σ H fun y H1 => td σ H1 fun x H2 => ∃ a b kvs k, y = .ref b ∧ x = .ref a ∧ H2 a = some (.dT kvs) ∧ H2 b = some (.tup (k.map V.int)) ∧ Q (.bl (valV kvs (keyI k)).isSome) H2
theorem pc_dinN {ty td : TE} (hu : X.A.units + 1 < cLine) (hi : PE X i ty) (ho : PE X o td) : PC X .In i o (nDIn ty td) := by
  refine ⟨fun pins s σ H Q I h => ?_⟩
  refine thn (hi.run pins s σ H _ I h) fun iv s1 ⟨y, H1, I1, ry, q1⟩ => thn (ho.run pins s1 σ H1 _ I1 q1) fun u s2 ⟨x, H2, I2, rx, a, b, kvs, k, ey, ex, ha, hb, q2⟩ => ?_
  subst ex ey
  obtain rfl : u = Value.ref a := rx
  exact d_in hu I2 (DGet.t ha (k := keyI k) (by rw [keyI_kV]; exact hb)) ry fun s3 I3 => ⟨.bl _, H2, I3, rfl, q2⟩
def nDGet1 (td ty : TE) : TE := fun σ H Q => td σ H fun x H1 => ∃ a kvs, x = .ref a ∧ H1 a = some (.dT kvs) ∧ ty σ H1 fun y H2 => ∃ b k ws, y = .ref b ∧ H2 a = some (.dT ws) ∧ H2 b = some (.tup (k.map V.int)) ∧ Q ((valV ws (keyI k)).getD .non) H2
theorem pe_dget1N {ty td : TE} (hu : X.A.units + 1 < cLine) (ho : PE X o td) (he : PE X e ty) (m : M1 X o "get" apos e cpos) : PE X (.Call (.Attribute o "get" apos) [e] [] cpos) (nDGet1 td ty) := by
  refine ⟨fun pins s σ H Q I h => ?_⟩
  refine wpAny_Call_method m.base m.few m.line PySem.F.plainAttrs_dict PySem.F.slot_dict_get PySem.F.type_dict_get (thn (ho.run pins s σ H _ I h) fun u s1 ⟨x, H1, I1, rx, a, kvs, ex, d, q1⟩ => ?_)
  subst ex
  obtain rfl : u = Value.ref a := rx
  obtain ⟨t1, t2, _⟩ := isD_at I1 (.inr ⟨kvs, .inl d⟩)
  refine ⟨t1, t2, ?_⟩
  rw [m.trees]
  refine Calls.callWith_builtin rfl (Calls.evalArgs_plain (Calls.spliced_cons (thn (he.run pins s1 σ H1 _ I1 q1) fun iv s2 ⟨y, H2, I2, ry, b, k, ws, ey, ha, hb, q2⟩ => Calls.spliced_nil ?_)))
  subst ey
  exact d_get1 hu I2 (DGet.t ha (k := keyI k) (by rw [keyI_kV]; exact hb)) ry fun w' s3 I3 rw' => ⟨_, H2, I3, rw', q2⟩
def nDPut (td ty tv : TE) : TS := fun D σ H => tv σ H fun v H1 => td σ H1 fun x H2 => ty σ H2 fun y H3 => ∃ a b kvs k, x = .ref a ∧ y = .ref b ∧ H3 a = some (.dT kvs) ∧ H3 b = some (.tup (k.map V.int)) ∧ kvs.length < sizeLine ∧ ∀ H', Put H3 H' a (.dT (putK kvs (keyI k) v)) → D.nx σ H'
theorem ps_dputN {td ty tv : TE} (hu : X.A.units + 1 < cLine) (ho : PE X o td) (hi : PE X i ty) (hv : PE X value tv) (hs : swapsWith value (some (.Subscript o i pos')) pos.line X.env = pure false := by rfl) :
    PS X (.Assign [.Subscript o i pos'] value pos) (nDPut td ty tv) := by
  refine ⟨fun pins s σ H D I h => ?_⟩
  refine wpAny_Assign_Subscript (thn (hv.run pins s σ H _ I h) fun r s1 ⟨v, H1, I1, rv, q1⟩ => thn (ho.run pins s1 σ H1 _ I1 q1) fun u s2 ⟨x, H2, I2, rx, q2⟩ => thn (hi.run pins s2 σ H2 _ I2 q2) fun iv s3 ⟨y, H3, I3, ry, a, b, kvs, k, ex, ey, ha, hb, hl, q3⟩ => ?_) hs
  subst ex ey
  obtain rfl : u = Value.ref a := rx
  exact d_setItem hu I3 (DPut.t ha (k := keyI k) (by rw [keyI_kV]; exact hb) hl) ry rv fun s4 I4 => ⟨σ, _, I4, q3 _ rfl⟩
end
section
variable {X : Cx} {o value : Expr} {f : Str} {C fa : Addr} {k : Nat} {ps : List Str} {sp : Sp} {x : Str} {p pos pos' tpos : Pos} {ta tv : TE}
/-- o.f = value; o.f += value; .., o.f = a tuple -/
def nAt (C : Addr) (f : Str) (ta tv : TE) : TS := fun D σ H => tv σ H fun y H1 => ta σ H1 fun x H2 => ∃ a dx fs, x = .ref a ∧ H2 a = some (.ins C dx fs) ∧ fs.length < 1000 ∧ ∀ H', Put H2 H' a (.ins C dx (putF f y fs)) → D.nx σ H'
theorem ps_atN (c : Cls X.K C) (n : NoAttr X.K C f) (ha : PE X o ta) (hv : PE X value tv) (hs : swapsWith value (some (.Attribute o f pos')) pos.line X.env = pure false := by rfl) : PS X (.Assign [.Attribute o f pos'] value pos) (nAt C f ta tv) := by
  refine ⟨fun pins s σ H D I h => ?_⟩
  refine plainObj_wpAny_Assign_Attribute (thn (hv.run pins s σ H _ I h) fun u s1 ⟨y, H1, I1, ry, q⟩ => thn (ha.run pins s1 σ H1 _ I1 q) fun ov s2 ⟨x, H2, I2, rx, a, dx, fs, ex, ea, l, q2⟩ => ?_) hs
  subst ex
  obtain rfl : ov = Value.ref a := rx
  exact setattr_ok I2 ea c n l ry fun s3 I3 => ⟨σ, _, I3, q2 _ rfl⟩
def nAtAdd (C : Addr) (f : Str) (ta tv : TE) : TS := fun D σ H => ta σ H fun x H1 => ∃ a dx fs i, x = .ref a ∧ H1 a = some (.ins C dx fs) ∧ fs.lookup f = some (.int i) ∧
  tv σ H1 fun y H2 => ∃ j dx' fs', y = .int j ∧ H2 a = some (.ins C dx' fs') ∧ fs'.length < 1000 ∧ ∀ H', Put H2 H' a (.ins C dx' (putF f (.int (i + j)) fs')) → D.nx σ H'
theorem ps_atAddN (c : Cls X.K C) (n : NoAttr X.K C f) (ha : PE X o ta) (hv : PE X value tv) : PS X (.AugAssign (.Attribute o f tpos) .Add value pos) (nAtAdd C f ta tv) := by
  refine ⟨fun pins s σ H D I h => ?_⟩
  refine wpAny_AugAssign_AttributeAny (thn (ha.run pins s σ H _ I h) fun ov s1 ⟨x, H1, I1, rx, a, dx, fs, v, ex, ea, l, q⟩ => ?_)
  subst ex
  obtain rfl : ov = Value.ref a := rx
  refine getattr_ok I1 ea c n l fun u s2 I2 ru => thn (hv.run pins s2 σ H1 _ I2 q) fun w3 s3 ⟨y, H2, I3, ry, q3⟩ => ?_
  obtain ⟨j, dx', fs', rfl, ea', l', q4⟩ := q3
  refine thn (in_add pins s3 σ H2 _ _ u w3 (fun z H3 => z = .int (v + j) ∧ H3 = H2) I3 ru ry ⟨v, j, rfl, rfl, rfl, rfl⟩) fun w4 s4 ⟨z, H3, I4, rz, e1, e2⟩ => ?_
  subst e1 e2
  exact setattr_ok I4 ea' c n l' rz fun s5 I5 => ⟨σ, _, I5, q4 _ rfl⟩
def nGAt (C : Addr) (f : Str) (ta : TE) : TG := fun v σ H Q => ta σ H fun x H1 => ∃ a dx fs, x = .ref a ∧ H1 a = some (.ins C dx fs) ∧ fs.length < 1000 ∧ ∀ H', Put H1 H' a (.ins C dx (putF f v fs)) → Q σ H'
theorem pg_atN (c : Cls X.K C) (n : NoAttr X.K C f) (ha : PE X o ta)
    (hb : ∀ v, assign (.Attribute o f pos) X.env v = (do
      let ov ← holding [v] (eval o X.env)
      standAt pos.atName
      holding [v, ov] (setAttr ov f v)
      release [v, ov] []) := by intro _; rfl) : PG X (.Attribute o f pos) (nGAt C f ta) := by
  refine ⟨fun pins s σ H v u Q I r h => ?_⟩
  rw [hb]
  refine wpAny_bind (wpAny_holding (thn (ha.run pins s σ H _ I h) fun ov s1 ⟨x, H1, I1, rx, a, dx, fs, ex, ea, l, q1⟩ => ?_))
  subst ex
  obtain rfl : ov = Value.ref a := rx
  refine wpAny_bind (wpAny_standAt (wpAny_bind (wpAny_holding (setattr_ok I1 ea c n l r fun s3 I3 => ?_))))
  exact wpAny_release ⟨σ, _, I3, q1 _ rfl⟩
def nMake (C : Addr) (sp : Sp) : TE := fun σ H Q => ∀ x dx H', Ext H H' [(x, .ins C dx []), (dx, .own x)] → sp [.ref x] H' (fun v H2 => v = .non ∧ Q (.ref x) H2) E0
theorem pe_makeN (M : Mk X.K C fa) (G : Ok X.prog X.w X.K X.mg X.base k fa ps sp) (hr : Room (k + 1) X.A) (hm : X.mg x = some (.ref C)) (hg : Gl X x := by rfl) (hdb : (x == ("__debug__" : Str)) = false := by decide) : PE X (.Call (.Name x p) [] [] pos) (nMake C sp) := by
  refine ⟨fun pins s σ H Q I h => (pe_makeE0 M G hr hm hg hdb).run pins s σ H Q I fun x dx hx hdx ne => h x dx _ ?_⟩
  have x1 : Ext H (upd H dx (.own x)) [(dx, .own x)] := Ext.new hdx
  have hx2 : (upd H dx (.own x)) x = none := by rw [upd_ne (Ne.symm ne)]; exact hx
  exact x1.trans (Ext.new hx2)
end
end WR
end PartWRules
section PartWEv
set_option Elab.async false
set_option linter.all false
set_option maxRecDepth 100000
set_option maxHeartbeats 2000000
namespace WR
open PySem PySem.Spec PyProof.Rows L2 WH

/-! ### == and is None, to be reckoned -/
def nEqI : R2 := rI0 fun i j => .bl (decide (i = j))
def nNeI : R2 := rI0 fun i j => .bl (!decide (i = j))
def isNon : V → Bool
  | .non => true
  | _ => false
theorem isNon_eq (x : V) : isNon x = decide (x = .non) := by
  cases x <;> simp [isNon]
def nIsN : R2 := fun x y H Q => y = .non ∧ Q (.bl (isNon x)) H
section
variable {X : Cx}
theorem int_eq (i j : Int) : decide (V.int i = V.int j) = decide (i = j) := by
  by_cases h : i = j
  · subst h
    simp
  · rw [decide_eq_false h, decide_eq_false fun e => h (V.int.inj e)]
theorem op_eqN : OpR X (compareOp .Eq) nEqI := impO op_eq fun x y H Q ⟨i, j, a, b, q⟩ => by
  subst a b
  refine ⟨rfl, ?_⟩
  rw [int_eq]
  exact q
theorem op_neN : OpR X (compareOp .NotEq) nNeI := impO op_ne fun x y H Q ⟨i, j, a, b, q⟩ => by
  subst a b
  refine ⟨rfl, ?_⟩
  rw [int_eq]
  exact q
theorem op_isNN : OpR X (compareOp .Is) nIsN := impO op_isN fun x y H Q ⟨a, q⟩ => ⟨a, by rw [← isNon_eq]; exact q⟩
/-- False not in a list of truth values -/
def nNotInB : R2 := fun x y H Q => ∃ (p : Addr) (bs : List Bool), x = .bl false ∧ y = .ref p ∧ H p = some (.lst (bs.map V.bl)) ∧ Q (.bl (bs.all id)) H
theorem notIn_all : ∀ bs : List Bool, (!inV (.bl false) (bs.map V.bl)) = bs.all id
  | [] => rfl
  | b :: bs => by
    have ih := notIn_all bs
    unfold inV at ih ⊢
    rw [List.map_cons, List.any_cons, List.all_cons, Bool.not_or, ih]
    cases b <;> rfl
theorem flat_bls : ∀ bs : List Bool, (bs.map V.bl).all flatV = true
  | [] => rfl
  | b :: bs => by
    rw [List.map_cons, List.all_cons, flat_bls bs]
    rfl
theorem op_notInN : OpR X (compareOp .NotIn) nNotInB := impO op_notIn_seq fun x y H Q ⟨p, bs, a, b, h, q⟩ => by
  subst a b
  refine ⟨p, _, rfl, .inl (SqL.of h), rfl, flat_bls bs, ?_⟩
  show Q (.bl (if true = true then _ else _)) H
  rw [if_pos rfl, notIn_all]
  exact q
end

/-! ### what each reading comes to -/
theorem ev :
    (∀ (i : Nat) (σ : L2.St) (H : Hp) (Q : VK), tVar i σ H Q = ∃ v, σ[i]? = some (some v) ∧ Q v H) ∧
    (∀ (v : V) (σ : L2.St) (H : Hp) (Q : VK), tC v σ H Q = Q v H) ∧
    (∀ (C : Addr) (f : Str) (ta : TE) (σ : L2.St) (H : Hp) (Q : VK), tAt C f ta σ H Q = ta σ H fun x H1 => ∃ a dx fs v, x = .ref a ∧ H1 a = some (.ins C dx fs) ∧ fs.lookup f = some v ∧ Q v H1) ∧
    (∀ (sp : Sp) (t : TA) (σ : L2.St) (H : Hp) (Q : VK), tCallE sp t σ H Q = t σ H fun vs H1 => sp vs H1 Q E0) ∧
    (∀ (r : R2) (ta tb : TE) (σ : L2.St) (H : Hp) (Q : VK), tOp r ta tb σ H Q = ta σ H fun x H1 => tb σ H1 fun y H2 => r x y H2 Q) ∧
    (∀ (r : V → Hp → VK → Prop) (ta : TE) (σ : L2.St) (H : Hp) (Q : VK), tUn r ta σ H Q = ta σ H fun x H1 => r x H1 Q) ∧
    (∀ (g : Int → Int → V) (x y : V) (H : Hp) (Q : VK), rI0 g x y H Q = ∃ i j, x = .int i ∧ y = .int j ∧ Q (g i j) H) ∧
    (∀ (C : Int → Int → Prop) (g : Int → Int → V) (x y : V) (H : Hp) (Q : VK), rI C g x y H Q = ∃ i j, x = .int i ∧ y = .int j ∧ C i j ∧ Q (g i j) H) ∧
    (∀ (g : Int → V) (x : V) (H : Hp) (Q : VK), rU g x H Q = ∃ i, x = .int i ∧ Q (g i) H) ∧
    (∀ (r r' : R2) (ta tb tc : TE) (σ : L2.St) (H : Hp) (Q : VK), tChain r r' ta tb tc σ H Q = ta σ H fun x H1 => tb σ H1 fun y H2 => r x y H2 fun z H3 => ∃ k, z = .bl k ∧ (if k = true then tc σ H3 fun w' H4 => r' y w' H4 Q else Q (.bl false) H3)) ∧
    (∀ (t : TE) (σ : L2.St) (H : Hp) (Q : Bool → Hp → Prop), tTest t σ H Q = t σ H fun x H1 => ∃ k, x = .bl k ∧ Q k H1) ∧
    (∀ (t : TE) (σ : L2.St) (H : Hp) (Q : Bool → Hp → Prop), tB t σ H Q = t σ H fun x H1 => ∃ k, x = .bl k ∧ Q k H1) ∧
    (∀ (t u : TT) (σ : L2.St) (H : Hp) (Q : Bool → Hp → Prop), tAnd t u σ H Q = t σ H fun c H1 => if c = true then u σ H1 Q else Q false H1) ∧
    (∀ (t u : TT) (σ : L2.St) (H : Hp) (Q : Bool → Hp → Prop), tOr t u σ H Q = t σ H fun c H1 => if c = true then Q true H1 else u σ H1 Q) ∧
    (∀ (t : TT) (σ : L2.St) (H : Hp) (Q : Bool → Hp → Prop), tNot t σ H Q = t σ H fun c H1 => Q (!c) H1) ∧
    (∀ (ta tb : TE) (σ : L2.St) (H : Hp) (Q : VK), tAndV ta tb σ H Q = ta σ H fun x H1 => ∃ c, x = .bl c ∧ if c = true then tb σ H1 Q else Q (.bl false) H1) ∧
    (∀ (ta tb : TE) (σ : L2.St) (H : Hp) (Q : VK), tOrV ta tb σ H Q = ta σ H fun x H1 => ∃ c, x = .bl c ∧ if c = true then Q (.bl true) H1 else tb σ H1 Q) ∧
    (∀ (ta : TE) (σ : L2.St) (H : Hp) (Q : VK), tNotV ta σ H Q = ta σ H fun x H1 => ∃ c, x = .bl c ∧ Q (.bl (!c)) H1) ∧
    (∀ (t : TT) (ta tb : TE) (σ : L2.St) (H : Hp) (Q : VK), tIf t ta tb σ H Q = t σ H fun c H1 => if c = true then ta σ H1 Q else tb σ H1 Q) ∧
    (∀ (x y : V) (H : Hp) (Q : VK), nEqI x y H Q = ∃ i j, x = .int i ∧ y = .int j ∧ Q (.bl (decide (i = j))) H) ∧
    (∀ (x y : V) (H : Hp) (Q : VK), nNeI x y H Q = ∃ i j, x = .int i ∧ y = .int j ∧ Q (.bl (!decide (i = j))) H) ∧
    (∀ (x y : V) (H : Hp) (Q : VK), nIsN x y H Q = (y = .non ∧ Q (.bl (isNon x)) H)) ∧
    (∀ (t : TA) (σ : L2.St) (H : Hp) (Q : VK), nLst t σ H Q = t σ H fun xs H1 => xs.length ≤ sizeLine ∧ ∀ p H', Ext H1 H' [(p, .lst xs)] → Q (.ref p) H') ∧
    (∀ (t : TA) (σ : L2.St) (H : Hp) (Q : VK), nTup t σ H Q = t σ H fun xs H1 => xs.length ≤ sizeLine ∧ ∀ p H', Ext H1 H' [(p, .tup xs)] → Q (.ref p) H') ∧
    (∀ (σ : L2.St) (H : Hp) (Q : List V → Hp → Prop), tNil σ H Q = Q [] H) ∧
    (∀ (ta : TE) (tr : TA) (σ : L2.St) (H : Hp) (Q : List V → Hp → Prop), tCons ta tr σ H Q = ta σ H fun x H1 => tr σ H1 fun xs H2 => Q (x :: xs) H2) ∧
    (∀ (r : List V → Hp → VK → Prop) (t : TA) (σ : L2.St) (H : Hp) (Q : VK), tCB r t σ H Q = t σ H fun vs H1 => r vs H1 Q) ∧
    (∀ (r : V → Option Int → Option Int → Hp → VK → Prop) (te : TE) (tl th : TO) (σ : L2.St) (H : Hp) (Q : VK), tSl r te tl th σ H Q = te σ H fun x H1 => tl σ H1 fun l H2 => th σ H2 fun u H3 => r x l u H3 Q) ∧
    (∀ (σ : L2.St) (H : Hp) (Q : Option Int → Hp → Prop), tNoPart σ H Q = Q none H) ∧
    (∀ (t : TE) (σ : L2.St) (H : Hp) (Q : Option Int → Hp → Prop), tPart t σ H Q = t σ H fun x H1 => ∃ i, x = .int i ∧ Q (some i) H1) := by
  refine ⟨?_, ?_, ?_, ?_, ?_, ?_, ?_, ?_, ?_, ?_, ?_, ?_, ?_, ?_, ?_, ?_, ?_, ?_, ?_, ?_, ?_, ?_, ?_, ?_, ?_, ?_, ?_, ?_, ?_, ?_⟩ <;> intros <;> rfl
/-- what is asked by values -/
theorem ev2 :
    (∀ (x y : V) (H : Hp) (Q : VK), nIxL x y H Q = ∃ p xs i v, x = .ref p ∧ y = .int i ∧ H p = some (.lst xs) ∧ atI xs i = some v ∧ Q v H) ∧
    (∀ (x y : V) (H : Hp) (Q : VK), nIxT x y H Q = ∃ p xs i v, x = .ref p ∧ y = .int i ∧ H p = some (.tup xs) ∧ atI xs i = some v ∧ Q v H) ∧
    (∀ (xs : List V) (H : Hp) (Q : VK), nLenL xs H Q = ∃ p ys, xs = [.ref p] ∧ H p = some (.lst ys) ∧ Q (.int ys.length) H) ∧
    (∀ (xs : List V) (H : Hp) (Q : VK), nLenT xs H Q = ∃ p ys, xs = [.ref p] ∧ H p = some (.tup ys) ∧ Q (.int ys.length) H) ∧
    (∀ (xs : List V) (H : Hp) (Q : VK), nListL xs H Q = ∃ p ys, xs = [.ref p] ∧ H p = some (.lst ys) ∧ ∀ l H', Ext H H' [(l, .lst ys)] → Q (.ref l) H') ∧
    (∀ (xs : List V) (H : Hp) (Q : VK), nListT xs H Q = ∃ p ys, xs = [.ref p] ∧ H p = some (.tup ys) ∧ ∀ l H', Ext H H' [(l, .lst ys)] → Q (.ref l) H') ∧
    (∀ (xs : List V) (H : Hp) (Q : VK), nTupL xs H Q = ∃ p ys, xs = [.ref p] ∧ H p = some (.lst ys) ∧ ∀ l H', Ext H H' [(l, .tup ys)] → Q (.ref l) H') ∧
    (∀ (x y : V) (H : Hp) (Q : VK), nCat x y H Q = ∃ l b xs zs, x = .ref l ∧ y = .ref b ∧ H l = some (.lst xs) ∧ H b = some (.lst zs) ∧ xs.length + zs.length ≤ sizeLine ∧ ∀ p H', Ext H H' [(p, .lst (xs ++ zs))] → Q (.ref p) H') ∧
    (∀ (x y : V) (H : Hp) (Q : VK), nRep x y H Q = ∃ l k v, x = .ref l ∧ y = .int k ∧ H l = some (.lst [v]) ∧ (0 ≤ k ∧ k ≤ 1000000) ∧ ∀ p H', Ext H H' [(p, .lst (List.replicate k.toNat v))] → Q (.ref p) H') ∧
    (∀ (x : V) (lo hi : Option Int) (H : Hp) (Q : VK), nSlL x lo hi H Q = ∃ a xs, x = .ref a ∧ H a = some (.lst xs) ∧ ∀ p H', Ext H H' [(p, .lst (cutV xs lo hi))] → Q (.ref p) H') ∧
    (∀ (x : V) (lo hi : Option Int) (H : Hp) (Q : VK), nSlT x lo hi H Q = ∃ a xs, x = .ref a ∧ H a = some (.tup xs) ∧ ∀ p H', Ext H H' [] → H' p = some (.tup (cutV xs lo hi)) → Q (.ref p) H') ∧
    (∀ (n : Nat) (t : TGs) (v : V) (σ : L2.St) (H : Hp) (Q : L2.St → Hp → Prop), nGTup n t v σ H Q = ∃ a xs, v = .ref a ∧ H a = some (.tup xs) ∧ xs.length = n ∧ t xs σ H Q) ∧
    (∀ (vs : List V) (σ : L2.St) (H : Hp) (Q : L2.St → Hp → Prop), gNil vs σ H Q = (vs = [] ∧ Q σ H)) ∧
    (∀ (t : TG) (u : TGs) (vs : List V) (σ : L2.St) (H : Hp) (Q : L2.St → Hp → Prop), gCons t u vs σ H Q = ∃ v r, vs = v :: r ∧ t v σ H fun σ' H' => u r σ' H' Q) ∧
    (∀ (i : Nat) (v : V) (σ : L2.St) (H : Hp) (Q : L2.St → Hp → Prop), gName i v σ H Q = Q (σ.set i (some v)) H) ∧
    (∀ (o i v : V) (H : Hp) (Q : Hp → Prop), nSetL o i v H Q = ∃ p xs k j, o = .ref p ∧ i = .int k ∧ H p = some (.lst xs) ∧ ixN xs.length k = some j ∧ ∀ H', Put H H' p (.lst (xs.set j v)) → Q H') ∧
    (∀ (x y : V) (H : Hp) (Q : VK), nGetL x y H Q = ∃ p xs i v, x = .ref p ∧ y = .int i ∧ H p = some (.lst xs) ∧ atI xs i = some v ∧ 0 ≤ i ∧ Q v H) ∧
    (∀ (to : TE) (t : TA) (σ : L2.St) (H : Hp) (Q : VK), nApp to t σ H Q = to σ H fun x H1 => ∃ l ys, x = .ref l ∧ H1 l = some (.lst ys) ∧ t σ H1 fun vs H2 => ∃ y xs, vs = [y] ∧ H2 l = some (.lst xs) ∧ xs.length < sizeLine ∧ ∀ H', Put H2 H' l (.lst (xs ++ [y])) → Q .non H') ∧
    (∀ (to : TE) (t : TA) (σ : L2.St) (H : Hp) (Q : VK), nExtL to t σ H Q = to σ H fun x H1 => ∃ l ys, x = .ref l ∧ H1 l = some (.lst ys) ∧ t σ H1 fun vs H2 => ∃ b zs xs, vs = [.ref b] ∧ H2 b = some (.lst zs) ∧ H2 l = some (.lst xs) ∧ xs.length + zs.length ≤ sizeLine ∧ ∀ H', Put H2 H' l (.lst (xs ++ zs)) → Q .non H') ∧
    (∀ (to : TE) (t : TA) (σ : L2.St) (H : Hp) (Q : VK), nExtT to t σ H Q = to σ H fun x H1 => ∃ l ys, x = .ref l ∧ H1 l = some (.lst ys) ∧ t σ H1 fun vs H2 => ∃ b zs xs, vs = [.ref b] ∧ H2 b = some (.tup zs) ∧ H2 l = some (.lst xs) ∧ xs.length + zs.length ≤ sizeLine ∧ ∀ H', Put H2 H' l (.lst (xs ++ zs)) → Q .non H') ∧
    (∀ (ty td : TE) (σ : L2.St) (H : Hp) (Q : VK), nDIn ty td σ H Q = ty σ H fun y H1 => td σ H1 fun x H2 => ∃ a b kvs k, y = .ref b ∧ x = .ref a ∧ H2 a = some (.dT kvs) ∧ H2 b = some (.tup (k.map V.int)) ∧ Q (.bl (valV kvs (keyI k)).isSome) H2) ∧
    (∀ (td ty : TE) (σ : L2.St) (H : Hp) (Q : VK), nDGet1 td ty σ H Q = td σ H fun x H1 => ∃ a kvs, x = .ref a ∧ H1 a = some (.dT kvs) ∧ ty σ H1 fun y H2 => ∃ b k ws, y = .ref b ∧ H2 a = some (.dT ws) ∧ H2 b = some (.tup (k.map V.int)) ∧ Q ((valV ws (keyI k)).getD .non) H2) ∧
    (∀ (σ : L2.St) (H : Hp) (Q : VK), nDict σ H Q = ∀ p H', Ext H H' [(p, .dT [])] → Q (.ref p) H') ∧
    (∀ (te : TE) (σ : L2.St) (H : Hp) (Q : VK), tSz te σ H Q = te σ H fun y H1 => ∃ i, y = .int i ∧ Q (.int (sizeOf' i)) H1) ∧
    (∀ (to : TE) (σ : L2.St) (H : Hp) (Q : VK), tBits to σ H Q = to σ H fun x H1 => ∃ i, x = .int i ∧ Q (.int (Builtin.Int.intBits i : Nat)) H1) ∧
    (∀ (C : Addr) (m : Str) (sp : Sp) (ta : TE) (t : TA) (σ : L2.St) (H : Hp) (Q : VK), tMethE C m sp ta t σ H Q = ta σ H fun x H1 => ∃ a dx fs, x = .ref a ∧ H1 a = some (.ins C dx fs) ∧ fs.lookup m = none ∧ t σ H1 fun vs H2 => sp (x :: vs) H2 Q E0) ∧
    (∀ (C : Addr) (sp : Sp) (σ : L2.St) (H : Hp) (Q : VK), nMake C sp σ H Q = ∀ x dx H', Ext H H' [(x, .ins C dx []), (dx, .own x)] → sp [.ref x] H' (fun v H2 => v = .non ∧ Q (.ref x) H2) E0) := by
  refine ⟨?_, ?_, ?_, ?_, ?_, ?_, ?_, ?_, ?_, ?_, ?_, ?_, ?_, ?_, ?_, ?_, ?_, ?_, ?_, ?_, ?_, ?_, ?_, ?_, ?_, ?_, ?_⟩ <;> intros <;> rfl
/-- statements -/
theorem ev3 :
    (∀ (c : TT) (t u : TS) (D : Ends) (σ : L2.St) (H : Hp), tIfS c t u D σ H = c σ H fun b H1 => if b = true then t D σ H1 else u D σ H1) ∧
    (∀ (te : TE) (D : Ends) (σ : L2.St) (H : Hp), tRet te D σ H = te σ H D.rt) ∧
    (∀ (te : TE) (D : Ends) (σ : L2.St) (H : Hp), tDrop te D σ H = te σ H fun _ H1 => D.nx σ H1) ∧
    (∀ (te : TE) (g : TG) (D : Ends) (σ : L2.St) (H : Hp), tAsg te g D σ H = te σ H fun x H1 => g x σ H1 D.nx) ∧
    (∀ (to ti : TE) (t : TSet) (v : V) (σ : L2.St) (H : Hp) (Q : L2.St → Hp → Prop), gSub to ti t v σ H Q = to σ H fun o H1 => ti σ H1 fun i H2 => t o i v H2 fun H3 => Q σ H3) ∧
    (∀ (i j : Nat) (ta : TA) (D : Ends) (σ : L2.St) (H : Hp), tPar i j ta D σ H = ta σ H fun vs H1 => ∃ v w, vs = [v, w] ∧ D.nx ((σ.set i (some v)).set j (some w)) H1) ∧
    (∀ (to ti te : TE) (tget : V → V → Hp → VK → Prop) (tip : TIp) (tset : TSet) (D : Ends) (σ : L2.St) (H : Hp), tAugS to ti te tget tip tset D σ H = to σ H fun o H1 => ti σ H1 fun i H2 => tget o i H2 fun x H3 => te σ H3 fun y H4 => tip x y H4 fun z H5 => tset o i z H5 fun H6 => D.nx σ H6) ∧
    (∀ (f : Int → Int → Int) (x y : V) (H : Hp) (Q : VK), ipI f x y H Q = ∃ i j, x = .int i ∧ y = .int j ∧ Q (.int (f i j)) H) ∧
    (∀ (C : Addr) (f : Str) (ta tv : TE) (D : Ends) (σ : L2.St) (H : Hp), nAt C f ta tv D σ H = tv σ H fun y H1 => ta σ H1 fun x H2 => ∃ a dx fs, x = .ref a ∧ H2 a = some (.ins C dx fs) ∧ fs.length < 1000 ∧ ∀ H', Put H2 H' a (.ins C dx (putF f y fs)) → D.nx σ H') ∧
    (∀ (C : Addr) (f : Str) (ta tv : TE) (D : Ends) (σ : L2.St) (H : Hp), nAtAdd C f ta tv D σ H = ta σ H fun x H1 => ∃ a dx fs i, x = .ref a ∧ H1 a = some (.ins C dx fs) ∧ fs.lookup f = some (.int i) ∧
      tv σ H1 fun y H2 => ∃ j dx' fs', y = .int j ∧ H2 a = some (.ins C dx' fs') ∧ fs'.length < 1000 ∧ ∀ H', Put H2 H' a (.ins C dx' (putF f (.int (i + j)) fs')) → D.nx σ H') ∧
    (∀ (C : Addr) (f : Str) (ta : TE) (v : V) (σ : L2.St) (H : Hp) (Q : L2.St → Hp → Prop), nGAt C f ta v σ H Q = ta σ H fun x H1 => ∃ a dx fs, x = .ref a ∧ H1 a = some (.ins C dx fs) ∧ fs.length < 1000 ∧ ∀ H', Put H1 H' a (.ins C dx (putF f v fs)) → Q σ H') ∧
    (∀ (td ty tv : TE) (D : Ends) (σ : L2.St) (H : Hp), nDPut td ty tv D σ H = tv σ H fun v H1 => td σ H1 fun x H2 => ty σ H2 fun y H3 => ∃ a b kvs k, x = .ref a ∧ y = .ref b ∧ H3 a = some (.dT kvs) ∧ H3 b = some (.tup (k.map V.int)) ∧ kvs.length < sizeLine ∧ ∀ H', Put H3 H' a (.dT (putK kvs (keyI k) v)) → D.nx σ H') ∧
    (∀ (D : Ends) (σ : L2.St) (H : Hp), tNext D σ H = D.nx σ H) := by
  refine ⟨?_, ?_, ?_, ?_, ?_, ?_, ?_, ?_, ?_, ?_, ?_, ?_, ?_⟩ <;> intros <;> rfl
/-- what equations come to -/
theorem eq1 :
    (∀ a b : Int, (V.int a = V.int b) = (a = b)) ∧ (∀ a b : Addr, (V.ref a = V.ref b) = (a = b)) ∧ (∀ a b : Bool, (V.bl a = V.bl b) = (a = b)) ∧
    (∀ {α : Type} (a b : α), (some a = some b) = (a = b)) ∧ (∀ {α : Type} (a b : α) (l m : List α), (a :: l = b :: m) = (a = b ∧ l = m)) ∧ (∀ a b : List V, (HO.lst a = HO.lst b) = (a = b)) ∧ (∀ a b : List V, (HO.tup a = HO.tup b) = (a = b)) ∧
    (∀ (C C' d d' : Addr) (fs fs' : List (Str × V)), (HO.ins C d fs = HO.ins C' d' fs') = (C = C' ∧ d = d' ∧ fs = fs')) ∧ (∀ a b : List (List Key × V), (HO.dT a = HO.dT b) = (a = b)) ∧ (∀ x : V, (isNon (.int 0) = false)) := by
  refine ⟨fun a b => ?_, fun a b => ?_, fun a b => ?_, fun a b => ?_, fun a b l m => ?_, fun a b => ?_, fun a b => ?_, fun _ _ _ _ _ _ => ?_, fun a b => ?_, fun _ => rfl⟩ <;> simp
theorem st_seq {t u : TS} {D : Ends} {σ : L2.St} {H : Hp} (h : t { D with nx := u D } σ H) : tSeq t u D σ H := h
end WR
end PartWEv
section PartWSem
set_option Elab.async false
set_option linter.all false
set_option maxRecDepth 100000
set_option maxHeartbeats 2000000
namespace WR
open PySem PySem.Spec PyProof.Rows L2 WH

/-! ### how buildings lie in the heap -/
abbrev zs (l : List Int) : List V := l.map V.int
abbrev natV (n : Nat) : V := V.int (n : Int)
def nameI (w : List Nat) : List Int := w.map fun n : Nat => (n : Int)
def endV (n : Nat) : List V := [.bl (Vbbcab.isOut n), natV (idx n)]
def NameAt (H : Hp) (a : Addr) (w : List Nat) : Prop := H a = some (.tup (zs (nameI w)))
def EndAt (H : Hp) (a : Addr) (n : Nat) : Prop := H a = some (.tup (endV n))
def LinkAt (H : Hp) (a : Addr) (l : Vbbcab.Link) : Prop := ∃ ea eb, H a = some (.tup [.ref ea, .ref eb, natV l.g]) ∧ EndAt H ea l.a ∧ EndAt H eb l.b
def HeatAt (H : Hp) (a : Addr) (h : Vbbcab.Heater) : Prop := ∃ na, H a = some (.tup [.ref na, natV h.room, natV h.most]) ∧ NameAt H na h.name
/-- place by place -/
def All2 {α β : Type} (R : α → β → Prop) (as : List α) (bs : List β) : Prop := as.length = bs.length ∧ ∀ (i : Nat) (a : α) (b : β), as[i]? = some a → bs[i]? = some b → R a b
theorem All2.imp {α β : Type} {R S : α → β → Prop} {as : List α} {bs : List β} (h : All2 R as bs) (q : ∀ a b, R a b → S a b) : All2 S as bs := ⟨h.1, fun i a b e1 e2 => q a b (h.2 i a b e1 e2)⟩
theorem All2.nil {α β : Type} {R : α → β → Prop} : All2 R [] [] := ⟨rfl, fun i a b h => by simp at h⟩
theorem All2.snoc {α β : Type} {R : α → β → Prop} {as : List α} {bs : List β} {a : α} {b : β} (h : All2 R as bs) (r : R a b) : All2 R (as ++ [a]) (bs ++ [b]) := by
  refine ⟨by rw [List.length_append, List.length_append, h.1]; rfl, fun i x y e1 e2 => ?_⟩
  by_cases q : i < as.length
  · rw [List.getElem?_append_left q] at e1
    rw [List.getElem?_append_left (by rw [← h.1]; exact q)] at e2
    exact h.2 i x y e1 e2
  · rw [List.getElem?_append_right (by omega)] at e1
    rw [List.getElem?_append_right (by rw [← h.1]; omega), ← h.1] at e2
    have z : i - as.length = 0 := by
      have := (List.getElem?_eq_some_iff.mp e1).1
      rw [List.length_singleton] at this
      omega
    rw [z] at e1 e2
    cases e1
    cases e2
    exact r
theorem All2.get {α β : Type} {R : α → β → Prop} {as : List α} {bs : List β} (h : All2 R as bs) {i : Nat} {b : β} (e : bs[i]? = some b) : ∃ a, as[i]? = some a ∧ R a b := by
  have hi : i < as.length := by
    rw [h.1]
    exact (List.getElem?_eq_some_iff.mp e).1
  exact ⟨as[i], List.getElem?_eq_getElem hi, h.2 i _ b (List.getElem?_eq_getElem hi) e⟩
/-- a plan's lists -/
structure PR where
  names : Addr
  rooms : Addr
  caps : Addr
  starts : Addr
  outs : Addr
  weath : Addr
  links : Addr
  heaters : Addr
def pF (r : PR) : List (Str × V) := [("names", .ref r.names), ("rooms", .ref r.rooms), ("caps", .ref r.caps), ("starts", .ref r.starts), ("outsides", .ref r.outs), ("weather", .ref r.weath), ("links", .ref r.links), ("heaters", .ref r.heaters)]
structure PlanAt (K : PySem.W.Frag) (H : Hp) (p dx : Addr) (r : PR) (ra oa la ha : List Addr) (b : Vbbcab.Building) : Prop where
  ob : H p = some (.ins (He.ga K "Plan") dx (pF r))
  rl : H r.rooms = some (.lst (ra.map V.ref))
  rs : All2 (fun a (x : Vbbcab.Room) => NameAt H a x.name) ra b.rooms
  caps : H r.caps = some (.lst (zs (b.rooms.map fun x => (x.cap : Int))))
  starts : H r.starts = some (.lst (zs (b.rooms.map fun x => x.first)))
  ol : H r.outs = some (.lst (oa.map V.ref))
  os : All2 (fun a (x : Vbbcab.Outside) => NameAt H a x.name) oa b.outs
  weath : H r.weath = some (.lst (zs (b.outs.map fun x => x.first)))
  ll : H r.links = some (.lst (la.map V.ref))
  ls : All2 (LinkAt H) la b.links
  hl : H r.heaters = some (.lst (ha.map V.ref))
  hs : All2 (HeatAt H) ha b.heaters
/-- a plan at p -/
def PlanA (K : PySem.W.Frag) (H : Hp) (p : Addr) (b : Vbbcab.Building) : Prop := ∃ dx r ra oa la ha, PlanAt K H p dx r ra oa la ha b
theorem LinkAt.mono {H H' : Hp} (k : ∀ a o, H a = some o → H' a = some o) {a : Addr} {l : Vbbcab.Link} (h : LinkAt H a l) : LinkAt H' a l := by
  obtain ⟨ea, eb, h1, h2, h3⟩ := h
  exact ⟨ea, eb, k _ _ h1, k _ _ h2, k _ _ h3⟩
theorem HeatAt.mono {H H' : Hp} (k : ∀ a o, H a = some o → H' a = some o) {a : Addr} {l : Vbbcab.Heater} (h : HeatAt H a l) : HeatAt H' a l := by
  obtain ⟨ea, h1, h2⟩ := h
  exact ⟨ea, k _ _ h1, k _ _ h2⟩
theorem PlanAt.mono {K : PySem.W.Frag} {H H' : Hp} (k : ∀ a o, H a = some o → H' a = some o) {p dx : Addr} {r : PR} {ra oa la ha : List Addr} {b : Vbbcab.Building} (h : PlanAt K H p dx r ra oa la ha b) : PlanAt K H' p dx r ra oa la ha b :=
  ⟨k _ _ h.ob, k _ _ h.rl, h.rs.imp fun a b => k _ _, k _ _ h.caps, k _ _ h.starts, k _ _ h.ol, h.os.imp fun a b => k _ _, k _ _ h.weath, k _ _ h.ll, h.ls.imp fun a b => LinkAt.mono k, k _ _ h.hl, h.hs.imp fun a b => HeatAt.mono k⟩
theorem PlanA.mono {K : PySem.W.Frag} {H H' : Hp} (k : ∀ a o, H a = some o → H' a = some o) {p : Addr} {b : Vbbcab.Building} (h : PlanA K H p b) : PlanA K H' p b := by
  obtain ⟨dx, r, ra, oa, la, ha, h⟩ := h
  exact ⟨dx, r, ra, oa, la, ha, h.mono k⟩
theorem lk_here {k : Str} {v : V} {r : List (Str × V)} : List.lookup k ((k, v) :: r) = some v := by
  have e : (k == k) = true := beq_self_eq_true k
  simp only [List.lookup, e]
theorem lk_past {k g : Str} {v : V} {r : List (Str × V)} (h : (k == g) = false) : List.lookup k ((g, v) :: r) = List.lookup k r := by
  simp only [List.lookup, h]
theorem pF_names (r : PR) : (pF r).lookup ("names" : Str) = some (.ref r.names) := lk_here
theorem pF_rooms (r : PR) : (pF r).lookup ("rooms" : Str) = some (.ref r.rooms) := (lk_past (by decide +kernel)).trans lk_here
theorem pF_caps (r : PR) : (pF r).lookup ("caps" : Str) = some (.ref r.caps) := (lk_past (by decide +kernel)).trans ((lk_past (by decide +kernel)).trans lk_here)
theorem pF_starts (r : PR) : (pF r).lookup ("starts" : Str) = some (.ref r.starts) := (lk_past (by decide +kernel)).trans ((lk_past (by decide +kernel)).trans ((lk_past (by decide +kernel)).trans lk_here))
theorem pF_outs (r : PR) : (pF r).lookup ("outsides" : Str) = some (.ref r.outs) := (lk_past (by decide +kernel)).trans ((lk_past (by decide +kernel)).trans ((lk_past (by decide +kernel)).trans ((lk_past (by decide +kernel)).trans lk_here)))
theorem pF_weath (r : PR) : (pF r).lookup ("weather" : Str) = some (.ref r.weath) := (lk_past (by decide +kernel)).trans ((lk_past (by decide +kernel)).trans ((lk_past (by decide +kernel)).trans ((lk_past (by decide +kernel)).trans ((lk_past (by decide +kernel)).trans lk_here))))
theorem pF_links (r : PR) : (pF r).lookup ("links" : Str) = some (.ref r.links) := (lk_past (by decide +kernel)).trans ((lk_past (by decide +kernel)).trans ((lk_past (by decide +kernel)).trans ((lk_past (by decide +kernel)).trans ((lk_past (by decide +kernel)).trans ((lk_past (by decide +kernel)).trans lk_here)))))
theorem pF_heaters (r : PR) : (pF r).lookup ("heaters" : Str) = some (.ref r.heaters) := (lk_past (by decide +kernel)).trans ((lk_past (by decide +kernel)).trans ((lk_past (by decide +kernel)).trans ((lk_past (by decide +kernel)).trans ((lk_past (by decide +kernel)).trans ((lk_past (by decide +kernel)).trans ((lk_past (by decide +kernel)).trans lk_here))))))
theorem ev4 : (∀ r, (pF r).lookup ("names" : Str) = some (.ref r.names)) ∧ (∀ r, (pF r).lookup ("rooms" : Str) = some (.ref r.rooms)) ∧ (∀ r, (pF r).lookup ("caps" : Str) = some (.ref r.caps)) ∧ (∀ r, (pF r).lookup ("starts" : Str) = some (.ref r.starts)) ∧
    (∀ r, (pF r).lookup ("outsides" : Str) = some (.ref r.outs)) ∧ (∀ r, (pF r).lookup ("weather" : Str) = some (.ref r.weath)) ∧ (∀ r, (pF r).lookup ("links" : Str) = some (.ref r.links)) ∧ (∀ r, (pF r).lookup ("heaters" : Str) = some (.ref r.heaters)) :=
  ⟨pF_names, pF_rooms, pF_caps, pF_starts, pF_outs, pF_weath, pF_links, pF_heaters⟩
/-- slots and their stores -/
theorem sl : (∀ {α : Type} (a : α) (l : List α), (a :: l)[0]? = some a) ∧ (∀ {α : Type} (a : α) (l : List α) (i : Nat), (a :: l)[i + 1]? = l[i]?) ∧ (∀ {α : Type} (a b : α) (l : List α), (a :: l).set 0 b = b :: l) ∧ (∀ {α : Type} (a b : α) (l : List α) (i : Nat), (a :: l).set (i + 1) b = a :: l.set i b) :=
  ⟨fun _ _ => rfl, fun _ _ _ => rfl, fun _ _ _ => rfl, fun _ _ _ _ => rfl⟩
/-- items of written and of whole-number lists -/
theorem at_ints {l : List Int} {i : Nat} (h : i < l.length) : atI (zs l) (i : Int) = some (.int (l.getD i 0)) := by
  refine atI_nat ?_
  rw [List.getElem?_map, List.getElem?_eq_getElem h, List.getD_eq_getElem?_getD, List.getElem?_eq_getElem h]
  rfl
theorem at0 (v : V) (l : List V) : atI (v :: l) 0 = some v := atI_nat (j := 0) rfl
theorem at1 (a v : V) (l : List V) : atI (a :: v :: l) 1 = some v := atI_nat (j := 1) rfl
theorem at2 (a b v : V) (l : List V) : atI (a :: b :: v :: l) 2 = some v := atI_nat (j := 2) rfl
theorem ixN_of {n i : Nat} (h : i < n) : ixN n (i : Int) = some i := by
  unfold ixN
  rw [if_pos (by omega), if_pos (by omega)]
  simp
theorem shl_sm {i : Int} {n j : Nat} (h : Sm n i) (hn : n + j ≤ 1000000) : CShl i (j : Int) := shl_ok h (by omega)
theorem mul_sm {i j : Int} {n m : Nat} (h : Sm n i) (h2 : Sm m j) (hn : n + m ≤ 1000000) : CMulX i j := mulx_ok h h2 (by omega)
theorem exl {α : Type} : (∀ (a : α) (p : α → Prop), (∃ x, x = a ∧ p x) = p a) ∧ (∀ (a : α) (p : α → Prop), (∃ x, a = x ∧ p x) = p a) := ⟨fun a p => by simp, fun a p => by simp⟩
theorem size_ok {n : Nat} (h : n ≤ 1000000) : n ≤ sizeLine := Nat.le_trans h (by decide)
theorem size_lt {n : Nat} (h : n < 1000000) : n < sizeLine := Nat.lt_of_lt_of_le h (by decide)
end WR
/-! ### loops -/
namespace WR
open PySem PySem.Spec PyProof.Rows L2 WH
theorem forL {K : PySem.W.Frag} {tl : TE} {g : TG} {tb : TS} {D : Ends} {σ : L2.St} {H : Hp} {a : Addr} {xs : List V} (hx : ∀ Q : VK, Q (.ref a) H → tl σ H Q) (ha : H a = some (.lst xs)) (Pv : Nat → L2.St → Hp → Prop) (h0 : Pv 0 σ H)
    (hl : ∀ i σ H, Pv i σ H → H a = some (.lst xs)) (hs : ∀ i x σ H, xs[i]? = some x → Pv i σ H → g x σ H fun σ2 H2 => tb { D with nx := Pv (i + 1), ct := Pv (i + 1), bk := D.nx } σ2 H2) (hd : ∀ σ H, Pv xs.length σ H → D.nx σ H) :
    tFor (iList K tl) g tb D σ H := hx _ ⟨a, rfl, ⟨xs, SqL.of ha⟩, for_list Pv h0 (fun i σ H _ p => SqL.of (hl i σ H p)) hs hd⟩
theorem forT {K : PySem.W.Frag} {tl : TE} {g : TG} {tb : TS} {D : Ends} {σ : L2.St} {H : Hp} {a : Addr} {xs : List V} (hx : ∀ Q : VK, Q (.ref a) H → tl σ H Q) (ha : H a = some (.tup xs)) (Pv : Nat → L2.St → Hp → Prop) (h0 : Pv 0 σ H)
    (hl : ∀ i σ H, Pv i σ H → H a = some (.tup xs)) (hs : ∀ i x σ H, xs[i]? = some x → Pv i σ H → g x σ H fun σ2 H2 => tb { D with nx := Pv (i + 1), ct := Pv (i + 1), bk := D.nx } σ2 H2) (hd : ∀ σ H, Pv xs.length σ H → D.nx σ H) :
    tFor (iTup K tl) g tb D σ H := hx _ ⟨a, rfl, ⟨xs, SqT.of ha⟩, for_tup Pv h0 (fun i σ H _ p => SqT.of (hl i σ H p)) hs hd⟩
theorem forR {ta : TA} {g : TG} {tb : TS} {D : Ends} {σ : L2.St} {H : Hp} {n : Nat} (hx : ∀ Q : List V → Hp → Prop, Q [natV n] H → ta σ H Q) (hn : n ≤ 1000000) (Pv : Nat → L2.St → Hp → Prop) (h0 : Pv 0 σ H)
    (hs : ∀ i σ H, i < n → Pv i σ H → g (natV i) σ H fun σ2 H2 => tb { D with nx := Pv (i + 1), ct := Pv (i + 1), bk := D.nx } σ2 H2) (hd : ∀ σ H, Pv n σ H → D.nx σ H) :
    tFor (iRng1 ta) g tb D σ H := by
  refine hx _ ⟨(n : Int), rfl, by omega, by omega, ?_⟩
  have q := for_range (lo := 0) (n := n) (g := g) (tb := tb) (D := D) Pv h0 (fun i σ H hi p => by
    have e : (0 : Int) + (i : Int) = (i : Int) := Int.zero_add _
    rw [e]
    exact hs i σ H hi p) hd
  rw [Int.toNat_natCast]
  exact q
theorem take_snoc {α : Type} {l : List α} {i : Nat} {x : α} (h : l[i]? = some x) : l.take (i + 1) = l.take i ++ [x] := by
  rw [List.take_add_one, h]
  rfl
theorem ref_at {as : List Addr} {i : Nat} {x : V} (h : (as.map V.ref)[i]? = some x) : ∃ a, as[i]? = some a ∧ x = .ref a := by
  rw [List.getElem?_map] at h
  obtain ⟨a, h1, h2⟩ := Option.map_eq_some_iff.mp h
  exact ⟨a, h1, h2.symm⟩
theorem zs_set (l : List Int) (i : Nat) (x : Int) : (zs l).set i (.int x) = zs (l.set i x) := List.map_set.symm
theorem zs_rep (n : Nat) (x : Int) : List.replicate n (V.int x) = zs (List.replicate n x) := List.map_replicate.symm
theorem zs_len (l : List Int) : (zs l).length = l.length := List.length_map _
end WR
/-! ### readings, some at a time -/
namespace WR
open PySem PySem.Spec PyProof.Rows L2 WH
/-- H1 has all that H has -/
abbrev Keeps (H H1 : Hp) : Prop := ∀ a o, H a = some o → H1 a = some o
theorem rd_rep {v : V} {te : TE} {σ : L2.St} {H : Hp} {Q : VK} {k : Nat} (hk : k ≤ 1000000) (ht : ∀ H1, Keeps H H1 → ∀ Q' : VK, Q' (natV k) H1 → te σ H1 Q') (q : ∀ p H', Ext H H' [(p, .lst (List.replicate k v))] → Q (.ref p) H') :
    tOp nRep (nLst (tCons (tC v) tNil)) te σ H Q := by
  refine ⟨by show 1 ≤ sizeLine; decide, fun z H1 x1 => ht H1 x1.same _ ?_⟩
  refine ⟨z, (k : Int), v, rfl, rfl, x1.g 0, ⟨by omega, by omega⟩, fun p H' x2 => q p H' ?_⟩
  rw [Int.toNat_natCast] at x2
  exact (x1.trans x2).sub (by intro p hp; exact List.mem_append_left _ hp) (by simp)
theorem Ext.keeps {H H' : Hp} {l : List (Addr × HO)} (x : Ext H H' l) : Keeps H H' := x.same
/-- what is told of an extension may be told otherwise -/
theorem Ext.as {H H' : Hp} {l m : List (Addr × HO)} (x : Ext H H' l) (e : l = m) : Ext H H' m := e ▸ x
/-- the first alone -/
theorem Ext.hd {H H' : Hp} {p : Addr × HO} {l : List (Addr × HO)} (x : Ext H H' (p :: l)) : Ext H H' [p] := x.sub (by intro q hq; cases List.mem_singleton.mp hq; exact List.mem_cons_self ..) (by simp)
/-- the first and what is behind the second -/
theorem Ext.drop1 {H H' : Hp} {p q : Addr × HO} {l : List (Addr × HO)} (x : Ext H H' (p :: q :: l)) : Ext H H' (p :: l) := by
  refine x.sub (by intro r hr; rcases List.mem_cons.mp hr with rfl | hr; exact List.mem_cons_self ..; exact List.mem_cons_of_mem _ (List.mem_cons_of_mem _ hr)) ?_
  have n := x.nd
  simp only [List.map_cons, List.nodup_cons, List.mem_cons, not_or] at n ⊢
  exact ⟨n.1.2, n.2.2⟩
theorem Ext.tl {H H' : Hp} {p : Addr × HO} {l : List (Addr × HO)} (x : Ext H H' (p :: l)) : Ext H H' l := x.sub (fun q hq => List.mem_cons_of_mem _ hq) (by have n := x.nd; rw [List.map_cons, List.nodup_cons] at n; exact n.2)
theorem Ext.none {H H' : Hp} {l : List (Addr × HO)} (x : Ext H H' l) : Ext H H' [] := x.sub (fun q hq => nomatch hq) List.nodup_nil
/-- behind a call that changes two that we have made -/
theorem Ext.mod2 {H H1 H2 : Hp} {a b : Addr} {o u o' u' : HO} (x : Ext H H1 [(b, u), (a, o)]) (m : Ext (hide [a, b] H1) H2 [(a, o'), (b, u')]) : Ext H H2 [(b, u'), (a, o')] := by
  refine ⟨fun c v e => m.same c v ?_, fun q hq => ?_, fun q hq => ?_, x.nd⟩
  · have n : c ∉ [a, b] := by
      intro hc
      simp only [List.mem_cons, List.not_mem_nil, or_false] at hc
      rcases hc with rfl | rfl
      · rw [x.f 1] at e
        cases e
      · rw [x.f 0] at e
        cases e
    rw [hide_ne n]
    exact x.same c v e
  · simp only [List.mem_cons, List.not_mem_nil, or_false] at hq
    rcases hq with rfl | rfl
    · exact m.g 1
    · exact m.g 0
  · simp only [List.mem_cons, List.not_mem_nil, or_false] at hq
    rcases hq with rfl | rfl
    · exact x.f 0
    · exact x.f 1
theorem Ext.ne {H H' : Hp} {l : List (Addr × HO)} {a b : Addr} {o u : HO} (x : Ext H H' l) (i j : Nat) (hi : l[i]? = some (a, o) := by rfl) (hj : l[j]? = some (b, u) := by rfl) (hne : i ≠ j := by decide) : a ≠ b := by
  intro e
  subst e
  exact hne (nodup_fst x.nd hi hj)
end WR
/-! ### the lowest bit of a number -/
namespace WR
open PySem PySem.Spec PyProof.Rows L2 WH
theorem land_odd (r : Nat) : (2 * r + 1) &&& (2 * r) = 2 * r := by
  apply Nat.eq_of_testBit_eq
  intro i
  rw [Nat.testBit_and]
  cases i with
  | zero => simp
  | succ i => simp only [Nat.testBit_succ, show (2 * r + 1) / 2 = r by omega, show (2 * r) / 2 = r by omega, Bool.and_self]
theorem land_even (m : Nat) (h : 0 < m) : (2 * m) &&& (2 * m - 1) = 2 * (m &&& (m - 1)) := by
  apply Nat.eq_of_testBit_eq
  intro i
  rw [Nat.testBit_and]
  cases i with
  | zero => simp
  | succ i => simp only [Nat.testBit_succ, show (2 * m) / 2 = m by omega, show (2 * m - 1) / 2 = m - 1 by omega, show (2 * (m &&& (m - 1))) / 2 = m &&& (m - 1) by omega, Nat.testBit_and]
theorem lowbit_nat : ∀ (m : Nat), 0 < m → ∃ k, m - (m &&& (m - 1)) = 2 ^ k ∧ m % 2 ^ k = 0 ∧ m / 2 ^ k % 2 = 1 := by
  intro m
  induction m using Nat.strongRecOn with
  | ind m ih =>
    intro h
    by_cases o : m % 2 = 1
    · refine ⟨0, ?_, by simp [Nat.mod_one], by simpa using o⟩
      have e := land_odd (m / 2)
      rw [show 2 * (m / 2) + 1 = m by omega, show 2 * (m / 2) = m - 1 by omega] at e
      rw [e]
      show m - (m - 1) = 1
      omega
    · obtain ⟨k, e1, e2, e3⟩ := ih (m / 2) (by omega) (by omega)
      have e := land_even (m / 2) (by omega)
      rw [show 2 * (m / 2) = m by omega] at e
      refine ⟨k + 1, ?_, ?_, ?_⟩
      · rw [e, Nat.pow_succ]
        have := Nat.and_le_left (n := m / 2) (m := m / 2 - 1)
        omega
      · rw [Nat.pow_succ, Nat.mul_comm, Nat.mod_mul, e2]
        omega
      · rw [Nat.pow_succ, Nat.mul_comm, ← Nat.div_div_eq_div_mul]
        exact e3
theorem bitAnd_negOf {n : Int} (h : n ≠ 0) : Builtin.bitAnd n (-n) = ((n.natAbs - (n.natAbs &&& (n.natAbs - 1)) : Nat) : Int) := by
  have le := Nat.and_le_left (n := n.natAbs) (m := n.natAbs - 1)
  by_cases hn : 0 ≤ n
  · have e : Builtin.bitAnd n (-n) = n - ((n.toNat &&& (Builtin.bitNot (-n)).toNat : Nat) : Int) := by
      unfold Builtin.bitAnd
      rw [decide_eq_true hn, decide_eq_false (show ¬ 0 ≤ -n by omega)]
    rw [e]
    have e2 : (Builtin.bitNot (-n)).toNat = n.natAbs - 1 := by
      show (-(-n) - 1).toNat = _
      omega
    rw [e2, show n.toNat = n.natAbs by omega]
    generalize n.natAbs &&& (n.natAbs - 1) = z at *
    omega
  · have e : Builtin.bitAnd n (-n) = -n - (((-n).toNat &&& (Builtin.bitNot n).toNat : Nat) : Int) := by
      unfold Builtin.bitAnd
      rw [decide_eq_false hn, decide_eq_true (show 0 ≤ -n by omega)]
    rw [e]
    have e2 : (Builtin.bitNot n).toNat = n.natAbs - 1 := by
      show (-n - 1).toNat = _
      omega
    rw [e2, show (-n).toNat = n.natAbs by omega]
    generalize n.natAbs &&& (n.natAbs - 1) = z at *
    omega
theorem lowbit {n : Int} (h : n ≠ 0) : ∃ k : Nat, Builtin.Int.intBits (Builtin.bitAnd n (-n)) = k + 1 ∧ n % 2 ^ k = 0 ∧ n / 2 ^ k % 2 = 1 := by
  obtain ⟨k, e1, e2, e3⟩ := lowbit_nat n.natAbs (by omega)
  refine ⟨k, ?_, ?_, ?_⟩
  · rw [bitAnd_negOf h, e1]
    unfold Builtin.Int.intBits
    have hp := Nat.two_pow_pos k
    have hb : ¬ ((((2 ^ k : Nat) : Int) == 0) = true) := by
      intro z
      have z2 : ((2 ^ k : Nat) : Int) = 0 := eq_of_beq z
      omega
    rw [if_neg hb, Int.natAbs_natCast, Nat.log2_two_pow]
  · have : ((2 ^ k : Nat) : Int) ∣ n := by
      rw [Int.ofNat_dvd_left]
      exact Nat.dvd_of_mod_eq_zero e2
    have q := Int.emod_eq_zero_of_dvd this
    rw [Int.natCast_pow] at q
    exact q
  · obtain ⟨q, hq⟩ : ∃ q : Nat, n.natAbs = 2 ^ k * q := ⟨n.natAbs / 2 ^ k, by have := Nat.div_add_mod n.natAbs (2 ^ k); omega⟩
    have hp := Nat.two_pow_pos k
    have q1 : q % 2 = 1 := by
      rw [hq, Nat.mul_div_cancel_left _ hp] at e3
      exact e3
    have hpI : (2 : Int) ^ k ≠ 0 := by
      have : ((2 ^ k : Nat) : Int) ≠ 0 := by omega
      rwa [Int.natCast_pow] at this
    rcases Int.natAbs_eq n with e | e
    · rw [e, hq, Int.natCast_mul, Int.natCast_pow]
      rw [show ((2 : Nat) : Int) = 2 from rfl, Int.mul_ediv_cancel_left _ hpI]
      omega
    · rw [e, hq, Int.natCast_mul, Int.natCast_pow]
      rw [show ((2 : Nat) : Int) = 2 from rfl, ← Int.mul_neg, Int.mul_ediv_cancel_left _ hpI]
      omega
theorem low_div {n : Int} {k s : Nat} (h : n % 2 ^ k = 0) (hs : s ≤ k) : n = n / 2 ^ s * 2 ^ s := by
  have d : (2 : Int) ^ s ∣ n := by
    have a : (2 : Int) ^ s ∣ 2 ^ k := ⟨2 ^ (k - s), by rw [← Int.pow_add]; congr 1; omega⟩
    exact Int.dvd_trans a (Int.dvd_of_emod_eq_zero h)
  exact (Int.ediv_mul_cancel d).symm
end WR
/-! ### some of a list of new objects; lists that grow -/
namespace WR
open PySem PySem.Spec PyProof.Rows L2 WH
theorem Ext.pick {H H' : Hp} {l : List (Addr × HO)} (x : Ext H H' l) : ∀ (is : List Nat), is.Nodup → Ext H H' (is.filterMap fun i => l[i]?) := fun is hn => by
  refine x.sub (fun p hp => ?_) ?_
  · obtain ⟨i, _, e⟩ := List.mem_filterMap.mp hp
    exact List.mem_of_getElem? e
  · induction is with
    | nil => exact List.nodup_nil
    | cons i is ih =>
      rw [List.nodup_cons] at hn
      have ih := ih hn.2
      rw [List.filterMap_cons]
      cases e : l[i]? with
      | none => exact ih
      | some p =>
        show ((p :: is.filterMap fun i => l[i]?).map (·.1)).Nodup
        rw [List.map_cons, List.nodup_cons]
        refine ⟨fun hm => ?_, ih⟩
        obtain ⟨q, hq, eq⟩ := List.mem_map.mp hm
        obtain ⟨j, hj, ej⟩ := List.mem_filterMap.mp hq
        obtain ⟨p1, p2⟩ := p
        obtain ⟨q1, q2⟩ := q
        have eq' : q1 = p1 := eq
        subst eq'
        have ij := nodup_fst x.nd e ej
        subst ij
        exact hn.1 hj
theorem range_snoc {α : Type} {f : Nat → α} {n i : Nat} (h : i < n) : ((List.range n).take (i + 1)).map f = ((List.range n).take i).map f ++ [f i] := by
  have e : (List.range n)[i]? = some i := by rw [List.getElem?_range h]
  rw [take_snoc e, List.map_append]
  rfl
theorem zs_snoc (l : List Int) (x : Int) : zs (l ++ [x]) = zs l ++ [V.int x] := List.map_append
theorem range_all {α : Type} {f : Nat → α} {n : Nat} : ((List.range n).take n).map f = (List.range n).map f := by
  rw [List.take_of_length_le (by rw [List.length_range]; omega)]
end WR
end PartWSem
section PartWComp
set_option Elab.async false
set_option linter.all false
set_option maxRecDepth 100000
set_option maxHeartbeats 2000000
namespace WR
open PySem PySem.Spec PyProof.Rows L2 WH
/-! ### comprehensions whose items are known; loops over two lists -/
theorem wp : (∀ σ : L2.St, wipe σ [] = σ) ∧ (∀ (σ : L2.St) (v : Nat) (vs : List Nat), wipe σ (v :: vs) = (wipe σ vs).set v none) := ⟨fun _ => rfl, fun _ _ _ => rfl⟩
theorem lc_step {H H3 : Hp} {D : Addr} {f : Nat → V} {n i : Nat} (hi : i < n) (hn : n ≤ 900000) (x : Ext H H3 [(D, .lst (((List.range n).take i).map f))]) {H4 : Hp} (k : Keeps H3 H4) :
    ∃ acc, H4 D = some (.lst acc) ∧ acc.length < sizeLine ∧ Ext H (upd H4 D (.lst (acc ++ [f i]))) [(D, .lst (((List.range n).take (i + 1)).map f))] := by
  refine ⟨((List.range n).take i).map f, k _ _ (x.g 0), size_lt (by rw [List.length_map, List.length_take]; omega), ?_⟩
  rw [range_snoc hi]
  have x4 : Ext H H4 [(D, .lst (((List.range n).take i).map f))] := ⟨fun b o e => k _ _ (x.k e), fun p hp => k _ _ (x.has p hp), x.fr, x.nd⟩
  exact x4.put 0 rfl rfl
theorem lc_start {H H1 : Hp} {D : Addr} {f : Nat → V} {n : Nat} (k : Keeps H H1) (hD : H1 D = none) : Ext H (upd H1 D (.lst [])) [(D, .lst (((List.range n).take 0).map f))] := by
  have x : Ext H H1 [] := ⟨k, fun p hp => (nomatch hp), fun p hp => (nomatch hp), List.nodup_nil⟩
  exact x.trans (Ext.new hD)
theorem lcL {K : PySem.W.Frag} {tl : TE} {g : TG} {te : TE} {vs : List Nat} {σ : L2.St} {H : Hp} {Q : VK} {xs : List V} (f : Nat → V)
    (hx : ∀ R : VK, (∀ a H1, Keeps H H1 → H1 a = some (.lst xs) → R (.ref a) H1) → tl σ H R) (hn : xs.length ≤ 900000)
    (hs : ∀ i x H1, xs[i]? = some x → Keeps H H1 → ∀ R : VK, (∀ H2, Keeps H1 H2 → R (f i) H2) → g x (wipe σ vs) H1 fun σ2 H2 => wipe σ2 vs = wipe σ vs ∧ te σ2 H2 R)
    (q : ∀ D H', Ext H H' [(D, .lst ((List.range xs.length).map f))] → Q (.ref D) H') : tLc (iList K tl) g tYes te vs σ H Q := by
  refine hx _ fun a H1 k ha => ⟨a, rfl, ⟨xs, SqL.of ha⟩, fun D hD => ?_⟩
  have hne : a ≠ D := fun e => by rw [e, hD] at ha; cases ha
  refine lc_list (K := K) (a := a) (xs := xs) (fun i H' => H' a = some (.lst xs) ∧ Ext H H' [(D, .lst (((List.range xs.length).take i).map f))]) ⟨by rw [upd_ne hne]; exact ha, lc_start k hD⟩ (fun i H' _ p => SqL.of p.1) ?_ ?_
  · rintro i x H' hi ⟨p1, p2⟩
    refine hs i x H' hi p2.keeps _ fun H2 k2 => ?_
    obtain ⟨acc, h1, h2, h3⟩ := lc_step ((List.getElem?_eq_some_iff.mp hi).1) hn p2 k2
    refine ⟨acc, h1, h2, ?_, h3⟩
    rw [upd_ne hne]
    exact k2 _ _ p1
  · rintro H' ⟨p1, p2⟩
    rw [range_all] at p2
    exact q D H' p2
theorem lcT {K : PySem.W.Frag} {tl : TE} {g : TG} {te : TE} {vs : List Nat} {σ : L2.St} {H : Hp} {Q : VK} {xs : List V} (f : Nat → V)
    (hx : ∀ R : VK, (∀ a H1, Keeps H H1 → H1 a = some (.tup xs) → R (.ref a) H1) → tl σ H R) (hn : xs.length ≤ 900000)
    (hs : ∀ i x H1, xs[i]? = some x → Keeps H H1 → ∀ R : VK, (∀ H2, Keeps H1 H2 → R (f i) H2) → g x (wipe σ vs) H1 fun σ2 H2 => wipe σ2 vs = wipe σ vs ∧ te σ2 H2 R)
    (q : ∀ D H', Ext H H' [(D, .lst ((List.range xs.length).map f))] → Q (.ref D) H') : tLc (iTup K tl) g tYes te vs σ H Q := by
  refine hx _ fun a H1 k ha => ⟨a, rfl, ⟨xs, SqT.of ha⟩, fun D hD => ?_⟩
  have hne : a ≠ D := fun e => by rw [e, hD] at ha; cases ha
  refine lc_tup (K := K) (a := a) (xs := xs) (fun i H' => H' a = some (.tup xs) ∧ Ext H H' [(D, .lst (((List.range xs.length).take i).map f))]) ⟨by rw [upd_ne hne]; exact ha, lc_start k hD⟩ (fun i H' _ p => SqT.of p.1) ?_ ?_
  · rintro i x H' hi ⟨p1, p2⟩
    refine hs i x H' hi p2.keeps _ fun H2 k2 => ?_
    obtain ⟨acc, h1, h2, h3⟩ := lc_step ((List.getElem?_eq_some_iff.mp hi).1) hn p2 k2
    refine ⟨acc, h1, h2, ?_, h3⟩
    rw [upd_ne hne]
    exact k2 _ _ p1
  · rintro H' ⟨p1, p2⟩
    rw [range_all] at p2
    exact q D H' p2
theorem lcS {te0 : TE} {g : TG} {te : TE} {vs : List Nat} {σ : L2.St} {H : Hp} {Q : VK} {z : Str} (f : Nat → V)
    (hx : ∀ R : VK, R (.str z) H → te0 σ H R) (hn : z.cps.size ≤ 900000)
    (hs : ∀ i c H1, z.cps[i]? = some c → Keeps H H1 → ∀ R : VK, (∀ H2, Keeps H1 H2 → R (f i) H2) → g (.str ⟨#[c]⟩) (wipe σ vs) H1 fun σ2 H2 => wipe σ2 vs = wipe σ vs ∧ te σ2 H2 R)
    (q : ∀ D H', Ext H H' [(D, .lst ((List.range z.cps.size).map f))] → Q (.ref D) H') : tLc (iStr te0) g tYes te vs σ H Q := by
  refine hx _ ⟨z, rfl, fun D hD => ?_⟩
  refine ⟨fun i m H' => m = z.cps.size - i ∧ i ≤ z.cps.size ∧ Ext H H' [(D, .lst (((List.range z.cps.size).take i).map f))], ⟨z.cps.size, by simp, Nat.zero_le _, lc_start (fun _ _ h => h) hD⟩, ?_⟩
  rintro i m H' ⟨rfl, hi, p⟩
  by_cases hlt : i < z.cps.size
  · refine .inr ⟨hlt, fun H' => Ext H H' [(D, .lst (((List.range z.cps.size).take (i + 1)).map f))], fun H' p' => ⟨z.cps.size - (i + 1), by omega, rfl, hlt, p'⟩, fun x H2 y => ?_⟩
    obtain ⟨rfl, c, hc, rfl⟩ := y
    refine hs i c _ hc p.keeps _ fun H2 k2 => ?_
    exact lc_step hlt hn p k2
  · have e : i = z.cps.size := by omega
    subst e
    rw [range_all] at p
    exact .inl ⟨Nat.le_refl _, q D H' p⟩
theorem lcZ {K : PySem.W.Frag} {ta : TA} {g : TG} {te : TE} {vs : List Nat} {σ : L2.St} {H : Hp} {Q : VK} {xs ys : List V} (f : Nat → V)
    (hx : ∀ R : List V → Hp → Prop, (∀ a b H1, Keeps H H1 → H1 a = some (.lst xs) → H1 b = some (.lst ys) → R [.ref a, .ref b] H1) → ta σ H R) (hn : xs.length ≤ 900000)
    (hs : ∀ i x y T H1, xs[i]? = some x → ys[i]? = some y → Keeps H H1 → H1 T = some (.tup [x, y]) → ∀ R : VK, (∀ H2, Keeps H1 H2 → R (f i) H2) → g (.ref T) (wipe σ vs) H1 fun σ2 H2 => wipe σ2 vs = wipe σ vs ∧ te σ2 H2 R)
    (q : ∀ D H', Ext H H' [(D, .lst ((List.range (min xs.length ys.length)).map f))] → Q (.ref D) H') : tLc (iZip K ta) g tYes te vs σ H Q := by
  refine hx _ fun a b H1 k ha hb => ⟨a, b, xs, ys, rfl, SqL.of ha, SqL.of hb, fun D hD => ?_⟩
  have hne : a ≠ D := fun e => by rw [e, hD] at ha; cases ha
  have hnb : b ≠ D := fun e => by rw [e, hD] at hb; cases hb
  refine ⟨fun i m H' => m = min xs.length ys.length - i ∧ i ≤ min xs.length ys.length ∧ H' a = some (.lst xs) ∧ H' b = some (.lst ys) ∧ Ext H H' [(D, .lst (((List.range (min xs.length ys.length)).take i).map f))],
    ⟨min xs.length ys.length, by simp, Nat.zero_le _, by rw [upd_ne hne]; exact ha, by rw [upd_ne hnb]; exact hb, lc_start k hD⟩, ?_⟩
  rintro i m H' ⟨rfl, hi, p1, p2, p3⟩
  by_cases hlt : i < min xs.length ys.length
  · have gx : xs[i]? = some xs[i] := List.getElem?_eq_getElem (by omega)
    have gy : ys[i]? = some ys[i] := List.getElem?_eq_getElem (by omega)
    refine .inr ⟨⟨xs, ys, xs[i], ys[i], SqL.of p1, SqL.of p2, gx, gy⟩, fun H' => H' a = some (.lst xs) ∧ H' b = some (.lst ys) ∧ Ext H H' [(D, .lst (((List.range (min xs.length ys.length)).take (i + 1)).map f))],
      fun H' ⟨a1, a2, a3⟩ => ⟨_, by omega, rfl, hlt, a1, a2, a3⟩, fun x H2 y => ?_⟩
    obtain ⟨T, u, v, rfl, hT, rfl, fx, fy⟩ := y
    have eu : u = xs[i] := Option.some.inj ((fx _ (SqL.of p1)).symm.trans gx)
    have ev' : v = ys[i] := Option.some.inj ((fy _ (SqL.of p2)).symm.trans gy)
    subst eu ev'
    have xT := Ext.new (o := HO.tup [xs[i], ys[i]]) hT
    have p3' : Ext H (upd H' T (.tup [xs[i], ys[i]])) [(D, .lst (((List.range (min xs.length ys.length)).take i).map f))] := (p3.trans xT).pick [1] (by decide)
    refine hs i _ _ T _ gx gy p3'.keeps (xT.g 0) _ fun H2 k2 => ?_
    obtain ⟨acc, h1, h2, h3⟩ := lc_step hlt (by omega) p3' k2
    refine ⟨acc, h1, h2, ?_, ?_, h3⟩
    · rw [upd_ne hne]
      exact k2 _ _ (xT.k p1)
    · rw [upd_ne hnb]
      exact k2 _ _ (xT.k p2)
  · have e : i = min xs.length ys.length := by omega
    subst e
    rw [range_all] at p3
    exact .inl ⟨⟨xs, ys, SqL.of p1, SqL.of p2, by omega⟩, q D H' p3⟩
/-- over two lists: P by the turn; the pair is new -/
theorem forZ {K : PySem.W.Frag} {ta : TA} {g : TG} {tb : TS} {D : Ends} {σ : L2.St} {H : Hp} {a b : Addr} {xs ys : List V} (hx : ∀ R : List V → Hp → Prop, R [.ref a, .ref b] H → ta σ H R) (ha : H a = some (.lst xs)) (hb : H b = some (.lst ys)) (hl : xs.length = ys.length)
    (Pv : Nat → L2.St → Hp → Prop) (h0 : Pv 0 σ H) (hq : ∀ i σ H', Pv i σ H' → H' a = some (.lst xs) ∧ H' b = some (.lst ys))
    (hs : ∀ i x y T σ H1 H2, xs[i]? = some x → ys[i]? = some y → Pv i σ H1 → Ext H1 H2 [(T, .tup [x, y])] → g (.ref T) σ H2 fun σ2 H2 => tb { D with nx := Pv (i + 1), ct := Pv (i + 1), bk := D.nx } σ2 H2) (hd : ∀ σ H, Pv xs.length σ H → D.nx σ H) :
    tFor (iZip K ta) g tb D σ H := by
  refine hx _ ⟨a, b, xs, ys, rfl, SqL.of ha, SqL.of hb, ?_⟩
  refine ⟨fun i m σ H => m = xs.length - i ∧ i ≤ xs.length ∧ Pv i σ H, ⟨xs.length, by simp, Nat.zero_le _, h0⟩, ?_⟩
  rintro i m σ H ⟨rfl, hi, p⟩
  obtain ⟨p1, p2⟩ := hq i σ H p
  by_cases hlt : i < xs.length
  · have gx : xs[i]? = some xs[i] := List.getElem?_eq_getElem (by omega)
    have gy : ys[i]? = some ys[i] := List.getElem?_eq_getElem (by omega)
    refine .inr ⟨⟨xs, ys, xs[i], ys[i], SqL.of p1, SqL.of p2, gx, gy⟩, Pv (i + 1), fun σ' H' p' => ⟨xs.length - (i + 1), by omega, rfl, hlt, p'⟩, fun x H2 y => ?_⟩
    obtain ⟨T, u, v, rfl, hT, rfl, fx, fy⟩ := y
    have eu : u = xs[i] := Option.some.inj ((fx _ (SqL.of p1)).symm.trans gx)
    have ev' : v = ys[i] := Option.some.inj ((fy _ (SqL.of p2)).symm.trans gy)
    subst eu ev'
    exact hs i _ _ T σ _ _ gx gy p (Ext.new hT)
  · have e : i = xs.length := by omega
    subst e
    exact .inl ⟨⟨xs, ys, SqL.of p1, SqL.of p2, by omega⟩, hd σ H p⟩
/-- the list that a comprehension makes, told otherwise -/
theorem range_map_zs {l : List Int} {n : Nat} {f : Nat → V} (hn : n = l.length) (h : ∀ i, i < n → f i = .int (l.getD i 0)) : (List.range n).map f = zs l := by
  refine List.ext_getElem (by rw [List.length_map, List.length_range, zs_len, hn]) fun i h1 h2 => ?_
  rw [List.length_map, List.length_range] at h1
  rw [List.getElem_map, List.getElem_range, h i h1]
  show _ = (l.map V.int)[i]
  rw [List.getElem_map, List.getD_eq_getElem?_getD, List.getElem?_eq_getElem (by omega)]
  rfl
theorem range_map_bl {l : List Bool} {n : Nat} {f : Nat → V} (hn : n = l.length) (h : ∀ i, i < n → f i = .bl (l.getD i false)) : (List.range n).map f = l.map V.bl := by
  refine List.ext_getElem (by rw [List.length_map, List.length_range, List.length_map, hn]) fun i h1 h2 => ?_
  rw [List.length_map, List.length_range] at h1
  rw [List.getElem_map, List.getElem_range, h i h1, List.getElem_map, List.getD_eq_getElem?_getD, List.getElem?_eq_getElem (by omega)]
  rfl
theorem zs_get {l : List Int} {i : Nat} {x : V} (h : (zs l)[i]? = some x) : i < l.length ∧ x = .int (l.getD i 0) := by
  have h' : (l.map V.int)[i]? = some x := h
  rw [List.getElem?_map] at h'
  obtain ⟨a, e1, e2⟩ := Option.map_eq_some_iff.mp h'
  refine ⟨(List.getElem?_eq_some_iff.mp e1).1, ?_⟩
  rw [List.getD_eq_getElem?_getD, e1]
  exact e2.symm
end WR
/-! ### == of lists and tuples of whole numbers, of ends and of pairs of ends; what may be a list or a tuple -/
namespace WR
open PySem PySem.Spec PyProof.Rows L2 WH
theorem eqv_ints : ∀ xs ys : List Int, PyData.eqvAll (xs.map PyData.int) (ys.map PyData.int) = decide (xs = ys)
  | [], [] => rfl
  | [], _ :: _ => rfl
  | _ :: _, [] => rfl
  | x :: xs, y :: ys => by
    show (PyData.eqv (.int x) (.int y) && PyData.eqvAll (xs.map PyData.int) (ys.map PyData.int)) = _
    rw [eqv_ints xs ys]
    show ((x == y) && decide (xs = ys)) = _
    by_cases h : x = y
    · subst h
      by_cases q : xs = ys
      · subst q
        simp
      · rw [decide_eq_false q, Bool.and_false, decide_eq_false fun z => q (List.cons.inj z).2]
    · have : (x == y) = false := beq_eq_false_iff_ne.mpr h
      rw [this, Bool.false_and, decide_eq_false fun z => h (List.cons.inj z).1]
theorem lay_ints : ∀ xs : List Int, PyData.canLayAll0 (xs.map PyData.int) = true
  | [] => rfl
  | x :: xs => by
    show (PyData.canLay0 (.int x) && PyData.canLayAll0 (xs.map PyData.int)) = true
    rw [lay_ints xs]
    rfl
theorem depth_ints : ∀ xs : List Int, PyData.depthAll (xs.map PyData.int) = 0
  | [] => rfl
  | x :: xs => by
    show max (PyData.depth (.int x)) (PyData.depthAll (xs.map PyData.int)) = 0
    rw [depth_ints xs]
    rfl
theorem shaped_tup (xs : List Int) : SeqAt.shaped (.tuple (xs.map PyData.int)) = true := by
  unfold SeqAt.shaped
  show (PyData.canLayAll0 (xs.map PyData.int) && decide (PyData.depthAll (xs.map PyData.int) + 1 ≤ 64)) = true
  rw [lay_ints, depth_ints]
  rfl
theorem shaped_lst (xs : List Int) : SeqAt.shaped (.list (xs.map PyData.int)) = true := by
  unfold SeqAt.shaped
  show (PyData.canLayAll0 (xs.map PyData.int) && decide (PyData.depthAll (xs.map PyData.int) + 1 ≤ 64)) = true
  rw [lay_ints, depth_ints]
  rfl
theorem dp_ints {K : PySem.W.Frag} {H : Hp} : ∀ xs : List Int, DpAll K H (zs xs) (xs.map PyData.int)
  | [] => .nil
  | x :: xs => .cons (.int x) (dp_ints xs)
def nEqL : R2 := fun x y H Q => ∃ (a b : Addr) (xs ys : List Int), x = .ref a ∧ y = .ref b ∧ H a = some (.lst (zs xs)) ∧ H b = some (.lst (zs ys)) ∧ Q (.bl (decide (xs = ys))) H
def nEqT : R2 := fun x y H Q => ∃ (a b : Addr) (xs ys : List Int), x = .ref a ∧ y = .ref b ∧ H a = some (.tup (zs xs)) ∧ H b = some (.tup (zs ys)) ∧ Q (.bl (decide (xs = ys))) H
def nNeT : R2 := fun x y H Q => ∃ (a b : Addr) (xs ys : List Int), x = .ref a ∧ y = .ref b ∧ H a = some (.tup (zs xs)) ∧ H b = some (.tup (zs ys)) ∧ Q (.bl (!decide (xs = ys))) H
def nEqE : R2 := fun x y H Q => ∃ (a b : Addr) (n m : Nat), x = .ref a ∧ y = .ref b ∧ EndAt H a n ∧ EndAt H b m ∧ Q (.bl (decide (n = m))) H
def nEqP : R2 := fun x y H Q => ∃ (a b a1 a2 b1 b2 : Addr) (n1 n2 m1 m2 : Nat), x = .ref a ∧ y = .ref b ∧ H a = some (.tup [.ref a1, .ref a2]) ∧ H b = some (.tup [.ref b1, .ref b2]) ∧ EndAt H a1 n1 ∧ EndAt H a2 n2 ∧ EndAt H b1 m1 ∧ EndAt H b2 m2 ∧
  Q (.bl (decide (n1 = m1) && decide (n2 = m2))) H
def endD (n : Nat) : PyData := .tuple [.bool (Vbbcab.isOut n), .int (idx n : Int)]
theorem end_inj {n m : Nat} (h1 : Vbbcab.isOut n = Vbbcab.isOut m) (h2 : idx n = idx m) : n = m := by
  unfold idx at h2
  rw [h1] at h2
  by_cases q : Vbbcab.isOut m = true
  · rw [if_pos q, if_pos q] at h2
    rw [q] at h1
    have a1 : Vbbcab.OUT ≤ n := of_decide_eq_true h1
    have a2 : Vbbcab.OUT ≤ m := of_decide_eq_true q
    omega
  · rw [if_neg q, if_neg q] at h2
    exact h2
theorem eqv_end (n m : Nat) : PyData.eqv (endD n) (endD m) = decide (n = m) := by
  show ((Vbbcab.isOut n == Vbbcab.isOut m) && (((idx n : Int) == (idx m : Int)) && true)) = _
  by_cases h : n = m
  · subst h
    simp
  · rw [decide_eq_false h, Bool.and_true]
    cases e1 : Vbbcab.isOut n == Vbbcab.isOut m with
    | false => rfl
    | true =>
      rw [Bool.true_and]
      refine beq_eq_false_iff_ne.mpr fun z => h (end_inj (eq_of_beq e1) (by omega))
theorem dp_end {K : PySem.W.Frag} {H : Hp} {a : Addr} {n : Nat} (h : EndAt H a n) : Dp K H (.ref a) (endD n) := .tup (SqT.of h) (.cons (.bl _) (.cons (.int _) .nil))
section
variable {X : Cx}
theorem op_eqLN (hu : X.A.units + 64 < cLine) : OpR X (compareOp .Eq) nEqL := impO (op_eqD hu) fun x y H Q ⟨a, b, xs, ys, e1, e2, h1, h2, q⟩ => by
  subst e1 e2
  refine ⟨_, _, .lst (SqL.of h1) (dp_ints xs), .lst (SqL.of h2) (dp_ints ys), shaped_lst xs, shaped_lst ys, ?_⟩
  show Q (.bl (PyData.eqvAll _ _)) H
  rw [eqv_ints]
  exact q
theorem op_eqTN (hu : X.A.units + 64 < cLine) : OpR X (compareOp .Eq) nEqT := impO (op_eqD hu) fun x y H Q ⟨a, b, xs, ys, e1, e2, h1, h2, q⟩ => by
  subst e1 e2
  refine ⟨_, _, .tup (SqT.of h1) (dp_ints xs), .tup (SqT.of h2) (dp_ints ys), shaped_tup xs, shaped_tup ys, ?_⟩
  show Q (.bl (PyData.eqvAll _ _)) H
  rw [eqv_ints]
  exact q
theorem op_neTN (hu : X.A.units + 64 < cLine) : OpR X (compareOp .NotEq) nNeT := impO (op_neD hu) fun x y H Q ⟨a, b, xs, ys, e1, e2, h1, h2, q⟩ => by
  subst e1 e2
  refine ⟨_, _, .tup (SqT.of h1) (dp_ints xs), .tup (SqT.of h2) (dp_ints ys), shaped_tup xs, shaped_tup ys, ?_⟩
  show Q (.bl (!PyData.eqvAll _ _)) H
  rw [eqv_ints]
  exact q
theorem op_eqEN (hu : X.A.units + 64 < cLine) : OpR X (compareOp .Eq) nEqE := impO (op_eqD hu) fun x y H Q ⟨a, b, n, m, e1, e2, h1, h2, q⟩ => by
  subst e1 e2
  refine ⟨_, _, dp_end h1, dp_end h2, rfl, rfl, ?_⟩
  rw [eqv_end]
  exact q
theorem op_eqPN (hu : X.A.units + 64 < cLine) : OpR X (compareOp .Eq) nEqP := impO (op_eqD hu) fun x y H Q ⟨a, b, a1, a2, b1, b2, n1, n2, m1, m2, e1, e2, h1, h2, g1, g2, g3, g4, q⟩ => by
  subst e1 e2
  refine ⟨_, _, .tup (SqT.of h1) (.cons (dp_end g1) (.cons (dp_end g2) .nil)), .tup (SqT.of h2) (.cons (dp_end g3) (.cons (dp_end g4) .nil)), rfl, rfl, ?_⟩
  show Q (.bl (PyData.eqv (endD n1) (endD m1) && (PyData.eqv (endD n2) (endD m2) && true))) H
  rw [eqv_end, eqv_end, Bool.and_true]
  exact q
/-- a list or a tuple -/
def Sq (H : Hp) (a : Addr) (xs : List V) : Prop := H a = some (.lst xs) ∨ H a = some (.tup xs)
theorem Sq.keep {H H' : Hp} {a : Addr} {xs : List V} (h : Sq H a xs) (k : Keeps H H') : Sq H' a xs := h.imp (k _ _) (k _ _)
def nIxS : R2 := fun x y H Q => ∃ p xs i v, x = .ref p ∧ y = .int i ∧ Sq H p xs ∧ atI xs i = some v ∧ Q v H
theorem ix_seqN : IxR X nIxS := impI (ix_list.or ix_tup) fun x y H Q ⟨p, xs, i, v, a, b, c, d, q⟩ => c.elim (fun c => .inl ⟨p, xs, i, v, a, b, SqL.of c, d, q⟩) (fun c => .inr ⟨p, xs, i, v, a, b, SqT.of c, d, q⟩)
def nLenS : List V → Hp → VK → Prop := fun xs H Q => ∃ p ys, xs = [.ref p] ∧ Sq H p ys ∧ Q (.int ys.length) H
theorem len_seqN : CallR X (.builtin "len") nLenS := impC call_len_seq fun xs H Q ⟨p, ys, a, b, q⟩ => ⟨p, ys, a, b.imp SqL.of SqT.of, q⟩
def nSlS : V → Option Int → Option Int → Hp → VK → Prop := fun x lo hi H Q => ∃ a xs, x = .ref a ∧ Sq H a xs ∧ ∀ p H', Ext H H' [] → Sq H' p (cutV xs lo hi) → Q (.ref p) H'
theorem sl_seqN : SlR X nSlS := impS (sl_listN.or sl_tupN) fun x lo hi H Q ⟨a, xs, e, h, q⟩ => h.elim (fun h => .inl ⟨a, xs, e, h, fun p H' x => q p H' x.none (.inl (x.g 0))⟩) (fun h => .inr ⟨a, xs, e, h, fun p H' x g => q p H' x (.inr g)⟩)
def nTupS : List V → Hp → VK → Prop := fun xs H Q => ∃ p ys, xs = [.ref p] ∧ Sq H p ys ∧ ∀ l H', Ext H H' [] → H' l = some (.tup ys) → Q (.ref l) H'
theorem tuple_seqN : CallR X (.type "tuple") nTupS := impC call_tuple_of fun xs H Q ⟨p, ys, a, b, q⟩ => ⟨p, ys, a, b.elim (fun b => .inl ⟨SqL.of b, new_of fun l H' x => q l H' x.none (x.g 0)⟩) (fun b => .inr ⟨SqT.of b, q p H (Ext.refl H) b⟩)⟩
end
theorem ev5 :
    (∀ (x y : V) (H : Hp) (Q : VK), nIxS x y H Q = ∃ p xs i v, x = .ref p ∧ y = .int i ∧ Sq H p xs ∧ atI xs i = some v ∧ Q v H) ∧
    (∀ (xs : List V) (H : Hp) (Q : VK), nLenS xs H Q = ∃ p ys, xs = [.ref p] ∧ Sq H p ys ∧ Q (.int ys.length) H) ∧
    (∀ (x : V) (lo hi : Option Int) (H : Hp) (Q : VK), nSlS x lo hi H Q = ∃ a xs, x = .ref a ∧ Sq H a xs ∧ ∀ p H', Ext H H' [] → Sq H' p (cutV xs lo hi) → Q (.ref p) H') ∧
    (∀ (xs : List V) (H : Hp) (Q : VK), nTupS xs H Q = ∃ p ys, xs = [.ref p] ∧ Sq H p ys ∧ ∀ l H', Ext H H' [] → H' l = some (.tup ys) → Q (.ref l) H') ∧
    (∀ (x y : V) (H : Hp) (Q : VK), nEqL x y H Q = ∃ (a b : Addr) (xs ys : List Int), x = .ref a ∧ y = .ref b ∧ H a = some (.lst (zs xs)) ∧ H b = some (.lst (zs ys)) ∧ Q (.bl (decide (xs = ys))) H) ∧
    (∀ (x y : V) (H : Hp) (Q : VK), nEqT x y H Q = ∃ (a b : Addr) (xs ys : List Int), x = .ref a ∧ y = .ref b ∧ H a = some (.tup (zs xs)) ∧ H b = some (.tup (zs ys)) ∧ Q (.bl (decide (xs = ys))) H) ∧
    (∀ (x y : V) (H : Hp) (Q : VK), nNeT x y H Q = ∃ (a b : Addr) (xs ys : List Int), x = .ref a ∧ y = .ref b ∧ H a = some (.tup (zs xs)) ∧ H b = some (.tup (zs ys)) ∧ Q (.bl (!decide (xs = ys))) H) ∧
    (∀ (x y : V) (H : Hp) (Q : VK), nEqE x y H Q = ∃ (a b : Addr) (n m : Nat), x = .ref a ∧ y = .ref b ∧ EndAt H a n ∧ EndAt H b m ∧ Q (.bl (decide (n = m))) H) := by
  refine ⟨?_, ?_, ?_, ?_, ?_, ?_, ?_, ?_⟩ <;> intros <;> rfl
theorem cut_nat (xs : List V) (i j : Nat) : cutV xs (some (i : Int)) (some (j : Int)) = (xs.drop (min i xs.length)).take (min j xs.length - min i xs.length) := by
  unfold cutV
  rw [HT.sIx_nat, HT.sIx_nat]
theorem cut_zs {l : List Int} {i j : Nat} (hj : j ≤ l.length) : cutV (zs l) (some (i : Int)) (some (j : Int)) = zs ((l.drop i).take (j - i)) := by
  rw [cut_nat, zs_len]
  show ((l.map V.int).drop _).take _ = ((l.drop i).take (j - i)).map V.int
  rw [List.map_take, List.map_drop]
  by_cases h : i ≤ l.length
  · rw [show min i l.length = i by omega, show min j l.length = j by omega]
  · rw [show min j l.length - min i l.length = 0 by omega, show j - i = 0 by omega, List.take_zero, List.take_zero]
theorem cut_from {l : List Int} {i : Nat} (hi : i ≤ l.length) : cutV (zs l) (some (i : Int)) none = zs (l.drop i) := by
  unfold cutV
  rw [HT.sIx_nat, HT.sIx_none, zs_len, show min i l.length = i by omega]
  show ((l.map V.int).drop i).take _ = (l.drop i).map V.int
  rw [List.map_drop, List.take_of_length_le]
  rw [List.length_drop, List.length_map]
  omega
theorem cut_to {l : List Int} {j : Nat} : cutV (zs l) none (some (j : Int)) = zs (l.take j) := by
  unfold cutV
  rw [HT.sIx_nat, HT.sIx_none, zs_len]
  show ((l.map V.int).drop 0).take _ = (l.take j).map V.int
  rw [List.map_take, List.drop_zero]
  by_cases h : j ≤ l.length
  · rw [show min j l.length - 0 = j by omega]
  · rw [List.take_of_length_le (by rw [List.length_map]; omega), List.take_of_length_le (by rw [List.length_map]; omega)]
end WR
end PartWComp
section PartWa
set_option Elab.async false
set_option linter.all false
set_option maxRecDepth 100000
set_option maxHeartbeats 4000000
namespace WR
open PySem PySem.Spec PyProof.Rows L2 WH
section
variable {P : Program} {w : World} {K : PySem.W.Frag} {mg : Str → Option Value} {base : Heap}
/-- an end that is there -/
def EndOk (n : Nat) (cells wt : List Int) : Prop := if Vbbcab.isOut n = true then idx n < wt.length else idx n < cells.length
def Warm (wt : List Int) : Prop := ∀ t ∈ wt, t.natAbs ≤ 100000
def sp_warmth_at (K : PySem.W.Frag) : Sp := fun vs H Q _ => ∃ (c wa ea : Addr) (cells wt : List Int) (s n : Nat), vs = [.ref c, natV s, .ref wa, .ref ea] ∧ H c = some (.lst (zs cells)) ∧ H wa = some (.lst (zs wt)) ∧ EndAt H ea n ∧
  EndOk n cells wt ∧ Warm wt ∧ s ≤ 100000 ∧ Q (.int (warmZ cells s wt n)) H
abbrev N_warmth_at : List Str := ["cells", "shift", "weather", "end"]
theorem sc_warmth_at : FnScope N_warmth_at ["cells", "shift", "weather", "end"] (defScope s_warmth_at) := ⟨rfl, rfl, rfl, by decide +kernel, rfl, by decide +kernel, by decide +kernel⟩
theorem st_warmth_at (x0 x1 x2 x3 : V) : start N_warmth_at [x0, x1, x2, x3] = [some x0, some x1, some x2, some x3] := rfl
theorem ok_warmth_at (e : Env K mg) : Ok P w K mg base 1 (He.ga K "warmth_at") ["cells", "shift", "weather", "end"] (sp_warmth_at K) := by
  refine ok_of e.fun_warmth_at sc_warmth_at (fun _ _ _ _ _ _ us hl => match us, hl with | [_, _, _, _], _ => rfl) (by rintro _ _ _ _ ⟨c, wa, ea, cells, wt, s, n, rfl, hc, hw, he, hn, ht, hs, q⟩; rfl) ?_
  intro cdv A outer s0 H vs Q E hr hsp
  have sc := sc_warmth_at
  have hu := hu_of hr
  refine ⟨_, (pss_one (ps_ret (pe_ifExp (pt_val (pe_ix ix_tupN (pv 3) pe_int (fun _ _ => rfl))) (pe_op op_shlW (pe_ix ix_listN (pv 2) (pe_ix ix_tupN (pv 3) pe_int (fun _ _ => rfl)) (fun _ _ => rfl)) (pv 1)) (pe_ix ix_listN (pv 0) (pe_ix ix_tupN (pv 3) pe_int (fun _ _ => rfl)) (fun _ _ => rfl))))), ?_⟩
  obtain ⟨c, wa, ea, cells, wt, s, n, rfl, hc, hw, he, hn, ht, hs, q⟩ := hsp
  rw [st_warmth_at]
  have he : H ea = some (.tup [.bl (Vbbcab.isOut n), natV (idx n)]) := he
  simp only [ev3, ev, ev2, ev4, sl, eq1, exl, exists_and_left, and_assoc, true_and, at0, at1, at2, Int.toNat_natCast, he, hc, hw]
  unfold EndOk at hn
  unfold warmZ at q
  split
  · rename_i h
    rw [if_pos h] at hn q
    refine ⟨_, at_ints hn, _, rfl, shl_sm (n := 17) ?_ (by omega), q⟩
    rw [List.getD_eq_getElem?_getD, List.getElem?_eq_getElem hn]
    exact Sm.of_le (ht _ (List.getElem_mem hn)) (by decide)
  · rename_i h
    rw [if_neg h] at hn q
    exact ⟨_, at_ints hn, q⟩
def EndsOk (l : Vbbcab.Link) (cells wt : List Int) : Prop := EndOk l.a cells wt ∧ EndOk l.b cells wt ∧ l.g ≤ 100000
/-- numbers that fit: cells below 2 to n -/
structure Fit (cells wt : List Int) (s n : Nat) : Prop where
  warm : Warm wt
  sh : s + 17 ≤ n
  top : n ≤ 100000
  sm : SmL n cells
def sp_flow_of (K : PySem.W.Frag) : Sp := fun vs H Q _ => ∃ (c wa la : Addr) (cells wt : List Int) (s n : Nat) (l : Vbbcab.Link), vs = [.ref c, natV s, .ref wa, .ref la] ∧ H c = some (.lst (zs cells)) ∧ H wa = some (.lst (zs wt)) ∧ LinkAt H la l ∧
  EndsOk l cells wt ∧ Fit cells wt s n ∧ Q (.int (flowZ cells s wt l)) H
abbrev N_flow_of : List Str := ["cells", "shift", "weather", "link", "one", "other", "conductance"]
theorem sc_flow_of : FnScope N_flow_of ["cells", "shift", "weather", "link"] (defScope s_flow_of) := ⟨rfl, rfl, rfl, by decide +kernel, rfl, by decide +kernel, by decide +kernel⟩
theorem st_flow_of (x0 x1 x2 x3 : V) : start N_flow_of [x0, x1, x2, x3] = [some x0, some x1, some x2, some x3, none, none, none] := rfl
theorem ok_flow_of (e : Env K mg) : Ok P w K mg base 2 (He.ga K "flow_of") ["cells", "shift", "weather", "link"] (sp_flow_of K) := by
  refine ok_of e.fun_flow_of sc_flow_of (fun _ _ _ _ _ _ us hl => match us, hl with | [_, _, _, _], _ => rfl) (by rintro _ _ _ _ ⟨c, wa, la, cells, wt, s, n, l, rfl, hc, hw, ⟨ea, eb, hl, h1, h2⟩, ⟨k1, k2, kg⟩, F, q⟩; rfl) ?_
  intro cdv A outer s0 H vs Q E hr hsp
  have sc := sc_flow_of
  have hu := hu_of hr
  have G_warmth_at := ok_warmth_at (P := P) (w := w) (base := base) e
  refine ⟨_, (pss_cons (ps_asg (pv 3) (pg_tupN (n := 3) rfl (pgs_cons (pg_name (i := 4) sc.nd rfl (Or.inl rfl)) (pgs_cons (pg_name (i := 5) sc.nd rfl (Or.inl rfl)) (pgs_cons (pg_name (i := 6) sc.nd rfl (Or.inl rfl)) pgs_nil)))))
    (pss_one (ps_ret (pe_op op_mulX (pv 6) (pe_op op_sub (pe_callE G_warmth_at (hr.mono (by decide)) e.g_warmth_at (pa_cons (pv 0) (pa_cons (pv 1) (pa_cons (pv 2) (pa_cons (pv 4) pa_nil))))) (pe_callE G_warmth_at (hr.mono (by decide)) e.g_warmth_at (pa_cons (pv 0) (pa_cons (pv 1) (pa_cons (pv 2) (pa_cons (pv 5) pa_nil)))))))))), ?_⟩
  obtain ⟨c, wa, la, cells, wt, s, n, l, rfl, hc, hw, ⟨ea, eb, hl, h1, h2⟩, ⟨k1, k2, kg⟩, F, q⟩ := hsp
  rw [st_flow_of]
  refine st_seq ?_
  simp only [ev3, ev, ev2, ev4, sl, eq1, exl, exists_and_left, and_assoc, true_and, at0, at1, at2, Int.toNat_natCast, hl, List.length_cons, List.length_nil, true_and]
  refine ⟨c, wa, ea, cells, wt, s, l.a, rfl, hc, hw, h1, k1, F.warm, by have := F.sh; have := F.top; omega, ?_⟩
  refine ⟨c, wa, eb, cells, wt, s, l.b, rfl, hc, hw, h2, k2, F.warm, by have := F.sh; have := F.top; omega, ?_⟩
  simp only [ev3, ev, ev2, ev4, sl, eq1, exl, exists_and_left, and_assoc, true_and, at0, at1, at2, Int.toNat_natCast]
  exact ⟨mul_sm (n := 17) (m := n + 1) (Sm.of_le (m := 100000) (by omega) (by decide)) ((warmZ_sm _ F.sm F.warm F.sh).sub (warmZ_sm _ F.sm F.warm F.sh)) (by have := F.top; omega), q⟩
def sp_take (K : PySem.W.Frag) : Sp := fun vs H Q _ => ∃ (r o ea : Addr) (rs os : List Int) (n : Nat) (a : Int), vs = [.ref r, .ref o, .ref ea, .int a] ∧ H r = some (.lst (zs rs)) ∧ H o = some (.lst (zs os)) ∧ r ≠ o ∧ EndAt H ea n ∧ EndOk n rs os ∧
  ∀ H', Ext (hide [r, o] H) H' [(r, .lst (zs (takeZ (rs, os) n a).1)), (o, .lst (zs (takeZ (rs, os) n a).2))] → Q .non H'
abbrev N_take : List Str := ["rooms", "outsides", "end", "amount"]
theorem sc_take : FnScope N_take ["rooms", "outsides", "end", "amount"] (defScope s_take) := ⟨rfl, rfl, rfl, by decide +kernel, rfl, by decide +kernel, by decide +kernel⟩
theorem st_take (x0 x1 x2 x3 : V) : start N_take [x0, x1, x2, x3] = [some x0, some x1, some x2, some x3] := rfl
theorem ok_take (e : Env K mg) : Ok P w K mg base 1 (He.ga K "take") ["rooms", "outsides", "end", "amount"] (sp_take K) := by
  refine ok_of e.fun_take sc_take (fun _ _ _ _ _ _ us hl => match us, hl with | [_, _, _, _], _ => rfl) (by rintro _ _ _ _ ⟨r, o, ea, rs, os, n, a, rfl, h1, h2, hne, he, hn, q⟩; rfl) ?_
  intro cdv A outer s0 H vs Q E hr hsp
  have sc := sc_take
  have hu := hu_of hr
  refine ⟨_, (pss_one (ps_if (pt_val (pe_ix ix_tupN (pv 2) pe_int (fun _ _ => rfl)))
    (pss_one (ps_augS (pv 1) (pe_ix ix_tupN (pv 2) pe_int (fun _ _ => rfl)) get_listN (pv 3) ip_add set_listN))
    (pss_one (ps_augS (pv 0) (pe_ix ix_tupN (pv 2) pe_int (fun _ _ => rfl)) get_listN (pv 3) ip_add set_listN)))), ?_⟩
  obtain ⟨r, o, ea, rs, os, n, a, rfl, h1, h2, hne, he, hn, q⟩ := hsp
  rw [st_take]
  have he : H ea = some (.tup [.bl (Vbbcab.isOut n), natV (idx n)]) := he
  simp only [ev3, ev, ev2, ev4, sl, eq1, exl, exists_and_left, and_assoc, true_and, at0, at1, at2, Int.toNat_natCast, he, h1, h2]
  unfold EndOk at hn
  unfold takeZ at q
  have x := Ext.hide2 h1 h2 hne
  split
  · rename_i h
    rw [if_pos h] at hn
    simp only [if_pos h] at q
    refine ⟨_, at_ints hn, by omega, _, rfl, _, ixN_of (by rw [zs_len]; exact hn), fun H' e => q H' ?_⟩
    have y := x.put 1 rfl e
    rw [zs_set] at y
    exact y
  · rename_i h
    rw [if_neg h] at hn
    simp only [if_neg h] at q
    refine ⟨_, at_ints hn, by omega, _, rfl, _, ixN_of (by rw [zs_len]; exact hn), fun H' e => q H' ?_⟩
    have y := x.put 0 rfl e
    rw [zs_set] at y
    exact y
end
end WR
end PartWa
section PartWb
set_option Elab.async false
set_option linter.all false
set_option maxRecDepth 100000
set_option maxHeartbeats 4000000
namespace WR
open PySem PySem.Spec PyProof.Rows L2 WH
section
variable {P : Program} {w : World} {K : PySem.W.Frag} {mg : Str → Option Value} {base : Heap}
def fl0 (cells : List Int) (s : Nat) (wt : List Int) (ls : List Vbbcab.Link) (i : Nat) : List Int × List Int := (ls.take i).foldl (flowsStep cells s wt) (List.replicate cells.length 0, List.replicate wt.length 0)
theorem fl0_succ {cells : List Int} {s : Nat} {wt : List Int} {ls : List Vbbcab.Link} {i : Nat} {l : Vbbcab.Link} (h : ls[i]? = some l) : fl0 cells s wt ls (i + 1) = takeZ (takeZ (fl0 cells s wt ls i) l.a (0 - flowZ cells s wt l)) l.b (flowZ cells s wt l) := by
  unfold fl0
  rw [take_snoc h, List.foldl_append]
  rfl
theorem fl0_len {cells : List Int} {s : Nat} {wt : List Int} {ls : List Vbbcab.Link} {i : Nat} : (fl0 cells s wt ls i).1.length = cells.length ∧ (fl0 cells s wt ls i).2.length = wt.length := flowsZ_len (ls := ls.take i)
theorem EndOk.of_len {n : Nat} {cells wt rs os : List Int} (h : EndOk n cells wt) (h1 : rs.length = cells.length) (h2 : os.length = wt.length) : EndOk n rs os := by
  unfold EndOk at *
  rw [h1, h2]
  exact h
/-- the links' ends are there -/
def LinksOk (ls : List Vbbcab.Link) (cells wt : List Int) : Prop := ls.length ≤ 40 ∧ ∀ l ∈ ls, EndsOk l cells wt
def sp_flows (K : PySem.W.Frag) : Sp := fun vs H Q _ => ∃ (p c wa : Addr) (cells wt : List Int) (s n : Nat) (b : Vbbcab.Building), vs = [.ref p, .ref c, natV s, .ref wa] ∧ PlanA K H p b ∧ H c = some (.lst (zs cells)) ∧ H wa = some (.lst (zs wt)) ∧
  LinksOk b.links cells wt ∧ Fit cells wt s n ∧ (cells.length ≤ 100 ∧ wt.length ≤ 100) ∧
  ∀ H' t r o, Ext H H' [(t, .tup [.ref r, .ref o]), (o, .lst (zs (flowsZ b.links cells s wt).2)), (r, .lst (zs (flowsZ b.links cells s wt).1))] → Q (.ref t) H'
abbrev N_flows : List Str := ["plan", "cells", "shift", "weather", "rooms", "outsides", "link", "amount"]
theorem sc_flows : FnScope N_flows ["plan", "cells", "shift", "weather"] (defScope s_flows) := ⟨rfl, rfl, rfl, by decide +kernel, rfl, by decide +kernel, by decide +kernel⟩
theorem st_flows (x0 x1 x2 x3 : V) : start N_flows [x0, x1, x2, x3] = [some x0, some x1, some x2, some x3, none, none, none, none] := rfl
theorem ok_flows (e : Env K mg) : Ok P w K mg base 3 (He.ga K "flows") ["plan", "cells", "shift", "weather"] (sp_flows K) := by
  refine ok_of e.fun_flows sc_flows (fun _ _ _ _ _ _ us hl => match us, hl with | [_, _, _, _], _ => rfl) (by rintro _ _ _ _ ⟨p, c, wa, cells, wt, s, n, b, rfl, ⟨dx, pr, ra, oa, la, ha, A⟩, hc, hw, ⟨l40, lok⟩, F, ⟨n1, n2⟩, q⟩; rfl) ?_
  intro cdv A outer s0 H vs Q E hr hsp
  have sc := sc_flows
  have hu := hu_of hr
  have G_flow_of := ok_flow_of (P := P) (w := w) (base := base) e
  have G_take := ok_take (P := P) (w := w) (base := base) e
  refine ⟨_, (pss_cons (ps_set (i := 4) sc.nd rfl (Or.inl rfl) (pe_op op_repN (pe_lstN (pa_cons pe_int pa_nil)) (pe_callB len_listN (by rfl) e.f_len bt_len (pa_cons (pv 1) pa_nil))))
    (pss_cons (ps_set (i := 5) sc.nd rfl (Or.inl rfl) (pe_op op_repN (pe_lstN (pa_cons pe_int pa_nil)) (pe_callB len_listN (by rfl) e.f_len bt_len (pa_cons (pv 3) pa_nil))))
    (pss_cons (ps_for PassesOwn.never rfl (pi_list (pe_at e.c_Plan e.n_Plan_links (pv 0))) (pg_name (i := 6) sc.nd rfl (Or.inl rfl))
    (pss_cons (ps_set (i := 7) sc.nd rfl (Or.inl rfl) (pe_callE G_flow_of (hr.mono (by decide)) e.g_flow_of (pa_cons (pv 1) (pa_cons (pv 2) (pa_cons (pv 3) (pa_cons (pv 6) pa_nil))))))
    (pss_cons (ps_expr (pe_callE G_take (hr.mono (by decide)) e.g_take (pa_cons (pv 4) (pa_cons (pv 5) (pa_cons (pe_ix ix_tupN (pv 6) pe_int (fun _ _ => rfl)) (pa_cons (pe_op op_sub pe_int (pv 7)) pa_nil))))))
    (pss_one (ps_expr (pe_callE G_take (hr.mono (by decide)) e.g_take (pa_cons (pv 4) (pa_cons (pv 5) (pa_cons (pe_ix ix_tupN (pv 6) pe_int (fun _ _ => rfl)) (pa_cons (pv 7) pa_nil))))))))))
    (pss_one (ps_ret (pe_tupN (pa_cons (pv 4) (pa_cons (pv 5) pa_nil)))))))), ?_⟩
  obtain ⟨p, c, wa, cells, wt, s, n, b, rfl, ⟨dx, pr, ra, oa, la, ha, A⟩, hc, hw, ⟨l40, lok⟩, F, ⟨n1, n2⟩, q⟩ := hsp
  rw [st_flows]
  refine st_seq (rd_rep (k := cells.length) (by omega) (fun H1 k Q' q => by simp only [ev3, ev, ev2, ev4, sl, eq1, exl, exists_and_left, and_assoc, true_and, at0, at1, at2, Int.toNat_natCast, k _ _ hc, zs_len]; exact q) fun r H1 x1 => ?_)
  simp only [ev3, ev, ev2, ev4, sl, eq1, exl, exists_and_left, and_assoc, true_and, at0, at1, at2, Int.toNat_natCast]
  refine st_seq (rd_rep (k := wt.length) (by omega) (fun H1 k Q' q => by simp only [ev3, ev, ev2, ev4, sl, eq1, exl, exists_and_left, and_assoc, true_and, at0, at1, at2, Int.toNat_natCast, k _ _ (x1.k hw), zs_len]; exact q) fun o H2 x2 => ?_)
  simp only [ev3, ev, ev2, ev4, sl, eq1, exl, exists_and_left, and_assoc, true_and, at0, at1, at2, Int.toNat_natCast]
  have x : Ext H H2 [(o, .lst (zs (fl0 cells s wt b.links 0).2)), (r, .lst (zs (fl0 cells s wt b.links 0).1))] := by
    have y := x1.trans x2
    rw [zs_rep, zs_rep] at y
    exact y
  refine st_seq (forL (a := pr.links) (xs := la.map V.ref) (fun Q' q => by simp only [ev3, ev, ev2, ev4, sl, eq1, exl, exists_and_left, and_assoc, true_and, at0, at1, at2, Int.toNat_natCast, x.k A.ob]; exact q) (x.k A.ll)
    (fun i σ H' => ∃ v6 v7, σ = [some (.ref p), some (.ref c), some (natV s), some (.ref wa), some (.ref r), some (.ref o), v6, v7] ∧ Ext H H' [(o, .lst (zs (fl0 cells s wt b.links i).2)), (r, .lst (zs (fl0 cells s wt b.links i).1))]) ⟨_, _, rfl, x⟩ (fun i σ H' ⟨_, _, _, y⟩ => y.k A.ll) ?_ ?_)
  · rintro i x σ H' hx ⟨v6, v7, rfl, y⟩
    obtain ⟨a, ha', rfl⟩ := ref_at hx
    have hl : i < b.links.length := by
      rw [← A.ls.1]
      exact (List.getElem?_eq_some_iff.mp ha').1
    have hb : b.links[i]? = some b.links[i] := List.getElem?_eq_getElem hl
    have L := A.ls.2 i a _ ha' hb
    have ok := lok _ (List.getElem_mem hl)
    generalize b.links[i] = l at hb L ok
    obtain ⟨ea, eb, h1, h2, h3⟩ := L
    simp only [ev3, ev, ev2, ev4, sl, eq1, exl, exists_and_left, and_assoc, true_and, at0, at1, at2, Int.toNat_natCast]
    refine st_seq ?_
    simp only [ev3, ev, ev2, ev4, sl, eq1, exl, exists_and_left, and_assoc, true_and, at0, at1, at2, Int.toNat_natCast]
    refine ⟨c, wa, a, cells, wt, s, n, l, rfl, y.k hc, y.k hw, ⟨ea, eb, y.k h1, y.k h2, y.k h3⟩, ok, F, ?_⟩
    refine st_seq ?_
    simp only [ev3, ev, ev2, ev4, sl, eq1, exl, exists_and_left, and_assoc, true_and, at0, at1, at2, Int.toNat_natCast, y.k h1]
    refine ⟨r, o, ea, _, _, l.a, _, rfl, y.g 1, y.g 0, y.ne 1 0, y.k h2, ok.1.of_len fl0_len.1 fl0_len.2, fun H3 m => ?_⟩
    have y2 := y.mod2 m
    simp only [ev3, ev, ev2, ev4, sl, eq1, exl, exists_and_left, and_assoc, true_and, at0, at1, at2, Int.toNat_natCast, y2.k h1]
    refine ⟨r, o, eb, _, _, l.b, _, rfl, y2.g 1, y2.g 0, y2.ne 1 0, y2.k h3, ok.2.1.of_len ((takeZ_len _ _ _).1.trans fl0_len.1) ((takeZ_len _ _ _).2.trans fl0_len.2), fun H4 m2 => ?_⟩
    have y3 := y2.mod2 m2
    rw [fl0_succ hb]
    exact y3
  · rintro σ H' ⟨v6, v7, rfl, y⟩
    rw [List.length_map, A.ls.1] at y
    simp only [ev3, ev, ev2, ev4, sl, eq1, exl, exists_and_left, and_assoc, true_and, at0, at1, at2, Int.toNat_natCast, List.length_cons, List.length_nil]
    refine ⟨by decide, fun t H3 z => q H3 t r o ?_⟩
    have e : fl0 cells s wt b.links b.links.length = flowsZ b.links cells s wt := by
      unfold fl0
      rw [List.take_length]
      rfl
    rw [e] at y
    exact y.trans z
theorem heats_succ {n : Nat} {hs : List Vbbcab.Heater} {lv : List Nat} {i : Nat} {h : Vbbcab.Heater} {v : Nat} (e : hs[i]? = some h) (e2 : lv[i]? = some v) :
    ((hs.zip lv).take (i + 1)).foldl heatsStep (List.replicate n 0) = bump (((hs.zip lv).take i).foldl heatsStep (List.replicate n 0)) h.room (v : Int) := by
  have z : (hs.zip lv)[i]? = some (h, v) := by
    rw [List.getElem?_zip_eq_some]
    exact ⟨e, e2⟩
  rw [take_snoc z, List.foldl_append]
  rfl
def nzs (l : List Nat) : List Int := l.map fun n : Nat => (n : Int)
theorem nzs_at {l : List Nat} {i v : Nat} (h : l[i]? = some v) : atI (zs (nzs l)) (i : Int) = some (natV v) := by
  refine atI_nat ?_
  rw [List.getElem?_map, nzs, List.getElem?_map, h]
  rfl
theorem nzs_len (l : List Nat) : (nzs l).length = l.length := List.length_map _
def sp_heats (K : PySem.W.Frag) : Sp := fun vs H Q _ => ∃ (p l : Addr) (lv : List Nat) (b : Vbbcab.Building), vs = [.ref p, .ref l] ∧ PlanA K H p b ∧ H l = some (.lst (zs (nzs lv))) ∧ lv.length = b.heaters.length ∧ (∀ h ∈ b.heaters, h.room < b.rooms.length) ∧
  b.rooms.length ≤ 100 ∧ b.heaters.length ≤ 100 ∧ ∀ H' f, Ext H H' [(f, .lst (zs (heatsZ b.rooms.length b.heaters lv)))] → Q (.ref f) H'
abbrev N_heats : List Str := ["plan", "levels", "found", "at"]
theorem sc_heats : FnScope N_heats ["plan", "levels"] (defScope s_heats) := ⟨rfl, rfl, rfl, by decide +kernel, rfl, by decide +kernel, by decide +kernel⟩
theorem st_heats (x0 x1 : V) : start N_heats [x0, x1] = [some x0, some x1, none, none] := rfl
theorem ok_heats (e : Env K mg) : Ok P w K mg base 1 (He.ga K "heats") ["plan", "levels"] (sp_heats K) := by
  refine ok_of e.fun_heats sc_heats (fun _ _ _ _ _ _ us hl => match us, hl with | [_, _], _ => rfl) (by rintro _ _ _ _ ⟨p, l, lv, b, rfl, ⟨dx, pr, ra, oa, la, ha, A⟩, hl, hn, hr', n1, n2, q⟩; rfl) ?_
  intro cdv A outer s0 H vs Q E hr hsp
  have sc := sc_heats
  have hu := hu_of hr
  refine ⟨_, (pss_cons (ps_set (i := 2) sc.nd rfl (Or.inl rfl) (pe_op op_repN (pe_lstN (pa_cons pe_int pa_nil)) (pe_callB len_listN (by rfl) e.f_len bt_len (pa_cons (pe_at e.c_Plan e.n_Plan_rooms (pv 0)) pa_nil))))
    (pss_cons (ps_for PassesOwn.never rfl (pi_range1 (by rfl) e.f_range (pa_cons (pe_callB len_listN (by rfl) e.f_len bt_len (pa_cons (pv 1) pa_nil)) pa_nil)) (pg_name (i := 3) sc.nd rfl (Or.inl rfl))
    (pss_one (ps_augS (pv 2) (pe_ix ix_tupN (pe_ix ix_listN (pe_at e.c_Plan e.n_Plan_heaters (pv 0)) (pv 3) (fun _ _ => rfl)) pe_int (fun _ _ => rfl)) get_listN (pe_ix ix_listN (pv 1) (pv 3) (fun _ _ => rfl)) ip_add set_listN)))
    (pss_one (ps_ret (pv 2))))), ?_⟩
  obtain ⟨p, l, lv, b, rfl, ⟨dx, pr, ra, oa, la, ha, A⟩, hl, hn, hr', n1, n2, q⟩ := hsp
  rw [st_heats]
  refine st_seq (rd_rep (k := b.rooms.length) (by omega) (fun H1 k Q' q => by simp only [ev3, ev, ev2, ev4, sl, eq1, exl, exists_and_left, and_assoc, true_and, at0, at1, at2, Int.toNat_natCast, k _ _ A.ob, k _ _ A.rl, List.length_map, A.rs.1]; exact q) fun f H1 x => ?_)
  simp only [ev3, ev, ev2, ev4, sl, eq1, exl, exists_and_left, and_assoc, true_and, at0, at1, at2, Int.toNat_natCast]
  rw [zs_rep] at x
  refine st_seq (forR (n := lv.length) (fun Q' q => by simp only [ev3, ev, ev2, ev4, sl, eq1, exl, exists_and_left, and_assoc, true_and, at0, at1, at2, Int.toNat_natCast, x.k hl, zs_len, nzs_len]; exact q) (by omega)
    (fun i σ H' => ∃ v3, σ = [some (.ref p), some (.ref l), some (.ref f), v3] ∧ Ext H H' [(f, .lst (zs (((b.heaters.zip lv).take i).foldl heatsStep (List.replicate b.rooms.length 0))))]) ⟨_, rfl, x⟩ ?_ ?_)
  · rintro i σ H' hi ⟨v3, rfl, y⟩
    have hh : b.heaters[i]? = some b.heaters[i] := List.getElem?_eq_getElem (by omega)
    have hv : lv[i]? = some lv[i] := List.getElem?_eq_getElem hi
    have hroom := hr' _ (List.getElem_mem (show i < b.heaters.length by omega))
    obtain ⟨a, e1, na, e2, e3⟩ := A.hs.get hh
    generalize b.heaters[i] = h at *
    generalize lv[i] = v at *
    have ea : atI (ha.map V.ref) (i : Int) = some (.ref a) := atI_nat (by rw [List.getElem?_map, e1]; rfl)
    have hlen : h.room < (((b.heaters.zip lv).take i).foldl heatsStep (List.replicate b.rooms.length 0)).length := by
      rw [heats_len, List.length_replicate]
      exact hroom
    simp only [ev3, ev, ev2, ev4, sl, eq1, exl, exists_and_left, and_assoc, true_and, at0, at1, at2, Int.toNat_natCast, y.k A.ob, y.k A.hl, ea, y.k e2, y.g 0, y.k hl, nzs_at hv]
    refine ⟨_, at_ints hlen, by omega, _, rfl, _, ixN_of (by rw [zs_len]; exact hlen), fun H2 pt => ?_⟩
    have y2 := y.put 0 rfl pt
    rw [zs_set] at y2
    rw [heats_succ hh hv]
    exact y2
  · rintro σ H' ⟨v3, rfl, y⟩
    simp only [ev3, ev, ev2, ev4, sl, eq1, exl, exists_and_left, and_assoc, true_and, at0, at1, at2, Int.toNat_natCast]
    refine q H' f ?_
    have e : (b.heaters.zip lv).take lv.length = b.heaters.zip lv := by
      rw [List.take_of_length_le]
      rw [List.length_zip]
      omega
    rw [e] at y
    exact y
def sp_widest (K : PySem.W.Frag) : Sp := fun vs H Q _ => ∃ (p : Addr) (b : Vbbcab.Building), vs = [.ref p] ∧ PlanA K H p b ∧ b.rooms.length ≤ 100 ∧ ∀ H', Ext H H' [] → Q (natV (wideZ b)) H'
theorem max_is (b : Vbbcab.Building) {m : Int} (h1 : m ∈ [(0 : Int)] ++ b.rooms.map fun x => (x.cap : Int)) (h2 : ∀ y ∈ [(0 : Int)] ++ b.rooms.map (fun x => (x.cap : Int)), y ≤ m) : 6 + m = ((wideZ b : Nat) : Int) := by
  obtain ⟨a1, a2⟩ := le_foldl_max (b.rooms.map fun r => r.cap) 0
  have u := foldl_max_le (b.rooms.map fun r => r.cap) 0 m.toNat (Nat.zero_le _) (fun x hx => by
    obtain ⟨r, hr, rfl⟩ := List.mem_map.mp hx
    have := h2 (r.cap : Int) (List.mem_append_right _ (List.mem_map.mpr ⟨r, hr, rfl⟩))
    omega)
  have h0 := h2 0 (List.mem_append_left _ (List.mem_singleton.mpr rfl))
  unfold wideZ
  rcases List.mem_append.mp h1 with q | q
  · have := List.mem_singleton.mp q
    omega
  · obtain ⟨r, hr, e⟩ := List.mem_map.mp q
    have := a2 r.cap (List.mem_map.mpr ⟨r, hr, rfl⟩)
    omega
abbrev N_widest : List Str := ["plan"]
theorem sc_widest : FnScope N_widest ["plan"] (defScope s_widest) := ⟨rfl, rfl, rfl, by decide +kernel, rfl, by decide +kernel, by decide +kernel⟩
theorem st_widest (x0 : V) : start N_widest [x0] = [some x0] := rfl
theorem ok_widest (e : Env K mg) : Ok P w K mg base 1 (He.ga K "widest") ["plan"] (sp_widest K) := by
  refine ok_of e.fun_widest sc_widest (fun _ _ _ _ _ _ us hl => match us, hl with | [_], _ => rfl) (by rintro _ _ _ _ ⟨p, b, rfl, ⟨dx, pr, ra, oa, la, ha, A⟩, n1, q⟩; rfl) ?_
  intro cdv A outer s0 H vs Q E hr hsp
  have sc := sc_widest
  have hu := hu_of hr
  refine ⟨_, (pss_one (ps_ret (pe_op op_add (pe_gint e.i_FLOW_SHIFT) (pe_callB (maxN rfl) (by rfl) e.f_max bt_max (pa_cons (pe_op op_catN (pe_lstN (pa_cons pe_int pa_nil)) (pe_at e.c_Plan e.n_Plan_caps (pv 0))) pa_nil))))), ?_⟩
  obtain ⟨p, b, rfl, ⟨dx, pr, ra, oa, la, ha, A⟩, n1, q⟩ := hsp
  rw [st_widest]
  simp only [ev3, ev, ev2, ev4, sl, eq1, exl, exists_and_left, and_assoc, true_and, at0, at1, at2, Int.toNat_natCast, List.length_cons, List.length_nil]
  refine ⟨by decide, fun z H1 x1 => ?_⟩
  simp only [ev3, ev, ev2, ev4, sl, eq1, exl, exists_and_left, and_assoc, true_and, at0, at1, at2, Int.toNat_natCast, x1.k A.ob, x1.k A.caps, x1.g 0, List.length_cons, List.length_nil, zs_len, List.length_map]
  refine ⟨size_ok (by omega), fun c H2 x2 => ?_⟩
  refine ⟨c, [0] ++ b.rooms.map (fun x => (x.cap : Int)), rfl, x2.g 0, by simp, fun m h1 h2 => ?_⟩
  simp only [ev3, ev, ev2, ev4, sl, eq1, exl, exists_and_left, and_assoc, true_and, at0, at1, at2, Int.toNat_natCast]
  rw [max_is b h1 h2]
  exact q _ (x1.trans x2).none
def sp_millionths (K : PySem.W.Frag) : Sp := fun vs H Q _ => ∃ (n : Int) (p k : Nat), vs = [.int n, natV p] ∧ Sm k n ∧ k ≤ 900000 ∧ Q (.int (Vbbcab.micro (Vbbcab.shave p n))) H
abbrev N_millionths : List Str := ["number", "power"]
theorem sc_millionths : FnScope N_millionths ["number", "power"] (defScope s_millionths) := ⟨rfl, rfl, rfl, by decide +kernel, rfl, by decide +kernel, by decide +kernel⟩
theorem st_millionths (x0 x1 : V) : start N_millionths [x0, x1] = [some x0, some x1] := rfl
theorem ok_millionths (e : Env K mg) : Ok P w K mg base 1 (He.ga K "millionths") ["number", "power"] (sp_millionths K) := by
  refine ok_of e.fun_millionths sc_millionths (fun _ _ _ _ _ _ us hl => match us, hl with | [_, _], _ => rfl) (by rintro _ _ _ _ ⟨n, p, k, rfl, hn, hk, q⟩; rfl) ?_
  intro cdv A outer s0 H vs Q E hr hsp
  have sc := sc_millionths
  have hu := hu_of hr
  refine ⟨_, (pss_one (ps_ret (pe_op op_shr (pe_op op_mulX (pv 0) (pe_gint e.i_MILLION)) (pv 1)))), ?_⟩
  obtain ⟨n, p, k, rfl, hn, hk, q⟩ := hsp
  rw [st_millionths]
  simp only [ev3, ev, ev2, ev4, sl, eq1, exl, exists_and_left, and_assoc, true_and, at0, at1, at2, Int.toNat_natCast]
  rw [micro_shave] at q
  exact ⟨mul_sm (m := 20) hn (Sm.of_le (m := 1000000) (by omega) (by decide)) (by omega), by omega, q⟩
def sp_told (K : PySem.W.Frag) : Sp := fun vs H Q _ => ∃ (n : Int) (p : Nat), vs = [.int n, natV p] ∧ ∀ H' t, Ext H H' [(t, .lst (zs (Vbbcab.told (Vbbcab.shave p n))))] → Q (.ref t) H'
abbrev N_told : List Str := ["number", "power", "spare"]
theorem sc_told : FnScope N_told ["number", "power"] (defScope s_told) := ⟨rfl, rfl, rfl, by decide +kernel, rfl, by decide +kernel, by decide +kernel⟩
theorem st_told (x0 x1 : V) : start N_told [x0, x1] = [some x0, some x1, none] := rfl
theorem ok_told (e : Env K mg) : Ok P w K mg base 1 (He.ga K "told") ["number", "power"] (sp_told K) := by
  refine ok_of e.fun_told sc_told (fun _ _ _ _ _ _ us hl => match us, hl with | [_, _], _ => rfl) (by rintro _ _ _ _ ⟨n, p, rfl, q⟩; rfl) ?_
  intro cdv A outer s0 H vs Q E hr hsp
  have sc := sc_told
  have hu := hu_of hr
  refine ⟨_, (pss_cons (ps_set (i := 2) sc.nd rfl (Or.inl rfl) (pv 1))
    (pss_cons (ps_if (pt_cmpR op_neN (pv 0) pe_int (nomark _))
    (pss_one (ps_set (i := 2) sc.nd rfl (Or.inl rfl) (pe_callB (call_min2 rfl) (by rfl) e.f_min bt_min (pa_cons (pv 1) (pa_cons (pe_op op_sub (pe_bits (pe_op op_and (pv 0) (pe_op op_sub pe_int (pv 0)))) pe_int) pa_nil)))))
    pss_nil)
    (pss_one (ps_ret (pe_lstN (pa_cons (pe_op op_shr (pv 0) (pv 1)) (pa_cons (pe_op op_sub (pv 1) (pv 2)) (pa_cons (pe_op op_mod (pe_op op_shr (pv 0) (pv 2)) (pe_gint e.i_PRIME)) pa_nil)))))))), ?_⟩
  obtain ⟨n, p, rfl, q⟩ := hsp
  rw [st_told]
  refine st_seq ?_
  simp only [ev3, ev, ev2, ev4, sl, eq1, exl, exists_and_left, and_assoc, true_and, at0, at1, at2, Int.toNat_natCast]
  refine st_seq ?_
  simp only [ev3, ev, ev2, ev4, sl, eq1, exl, exists_and_left, and_assoc, true_and, at0, at1, at2, Int.toNat_natCast]
  by_cases h : n = 0
  · subst h
    simp only [ev3, ev, ev2, ev4, sl, eq1, exl, exists_and_left, and_assoc, true_and, at0, at1, at2, Int.toNat_natCast, decide_true, Bool.not_true, Bool.false_eq_true, if_false, List.length_cons, List.length_nil]
    refine ⟨by omega, by omega, by omega, by decide, fun t H1 x => q H1 t ?_⟩
    rw [told_shave_zero]
    rw [Int.zero_ediv, Int.sub_self] at x
    exact x
  · obtain ⟨k, e1, e2, e3⟩ := lowbit h
    simp only [ev3, ev, ev2, ev4, sl, eq1, exl, exists_and_left, and_assoc, true_and, at0, at1, at2, Int.toNat_natCast, decide_eq_false h, Bool.not_false, if_true, List.length_cons, List.length_nil, Int.zero_sub]
    rw [e1]
    have e4 : ((k + 1 : Nat) : Int) - 1 = (k : Int) := by omega
    rw [e4]
    have e5 : (if (k : Int) < (p : Int) then (k : Int) else (p : Int)) = ((min p k : Nat) : Int) := by
      split <;> omega
    rw [e5]
    simp only [ev3, ev, ev2, ev4, sl, eq1, exl, exists_and_left, and_assoc, true_and, at0, at1, at2, Int.toNat_natCast, List.length_cons, List.length_nil]
    refine ⟨by omega, by omega, by omega, by decide, fun t H1 x => q H1 t ?_⟩
    rw [told_shave (s := min p k) (by omega) (low_div e2 (by omega)) ?_]
    · exact x
    · by_cases hk : k < p
      · rw [show min p k = k by omega]
        exact .inr e3
      · exact .inl (by omega)
end
end WR
end PartWb
section PartWc
set_option Elab.async false
set_option linter.all false
set_option maxRecDepth 100000
set_option maxHeartbeats 4000000
namespace WR
open PySem PySem.Spec PyProof.Rows L2 WH
section
variable {P : Program} {w : World} {K : PySem.W.Frag} {mg : Str → Option Value} {base : Heap}
theorem WfB.links {b : Vbbcab.Building} (B : WfB b) {cells wt : List Int} (h1 : cells.length = b.rooms.length) (h2 : wt.length = b.outs.length) : LinksOk b.links cells wt := by
  refine ⟨B.nl, fun l hl => ?_⟩
  obtain ⟨a1, a2⟩ := B.ends l hl
  unfold EndsOk EndOk
  rw [h1, h2]
  exact ⟨a1, a2, (B.g l hl).2⟩
theorem cap_at {b : Vbbcab.Building} {i : Nat} (h : i < b.rooms.length) : atI (zs (b.rooms.map fun x => (x.cap : Int))) (i : Int) = some (natV (Vbbcab.capOf b i)) := by
  refine atI_nat ?_
  unfold Vbbcab.capOf
  rw [List.getElem?_map, List.getElem?_map, List.getElem?_eq_getElem h]
  rfl
def sp_stepped (K : PySem.W.Frag) : Sp := fun vs H Q _ => ∃ (p c wa l : Addr) (cells wt : List Int) (lv : List Nat) (s n : Nat) (b : Vbbcab.Building), vs = [.ref p, .ref c, natV s, .ref wa, .ref l] ∧ PlanA K H p b ∧ H c = some (.lst (zs cells)) ∧ H wa = some (.lst (zs wt)) ∧ H l = some (.lst (zs (nzs lv))) ∧
  WfB b ∧ WfW b wt lv ∧ cells.length = b.rooms.length ∧ Fit cells wt s n ∧
  ∀ H' t r o, Ext H H' [(t, .tup [.ref r, natV (s + wideZ b), .ref o]), (r, .lst (zs (stepZ b cells s wt lv))), (o, .lst (zs (flowsZ b.links cells s wt).2))] → Q (.ref t) H'
abbrev N_stepped : List Str := ["plan", "cells", "shift", "weather", "levels", "rooms", "outsides", "heat", "wide", "later", "at", "change"]
theorem sc_stepped : FnScope N_stepped ["plan", "cells", "shift", "weather", "levels"] (defScope s_stepped) := ⟨rfl, rfl, rfl, by decide +kernel, rfl, by decide +kernel, by decide +kernel⟩
theorem st_stepped (x0 x1 x2 x3 x4 : V) : start N_stepped [x0, x1, x2, x3, x4] = [some x0, some x1, some x2, some x3, some x4, none, none, none, none, none, none, none] := rfl
theorem ok_stepped (e : Env K mg) : Ok P w K mg base 4 (He.ga K "stepped") ["plan", "cells", "shift", "weather", "levels"] (sp_stepped K) := by
  refine ok_of e.fun_stepped sc_stepped (fun _ _ _ _ _ _ us hl => match us, hl with | [_, _, _, _, _], _ => rfl) (by rintro _ _ _ _ ⟨p, c, wa, l, cells, wt, lv, s, n, b, rfl, A, hc, hw, hl, B, W, hlen, F, q⟩; rfl) ?_
  intro cdv A outer s0 H vs Q E hr hsp
  have sc := sc_stepped
  have hu := hu_of hr
  have G_flows := ok_flows (P := P) (w := w) (base := base) e
  have G_heats := ok_heats (P := P) (w := w) (base := base) e
  have G_widest := ok_widest (P := P) (w := w) (base := base) e
  refine ⟨_, (pss_cons (ps_asg (pe_callE G_flows (hr.mono (by decide)) e.g_flows (pa_cons (pv 0) (pa_cons (pv 1) (pa_cons (pv 2) (pa_cons (pv 3) pa_nil))))) (pg_tupN (n := 2) rfl (pgs_cons (pg_name (i := 5) sc.nd rfl (Or.inl rfl)) (pgs_cons (pg_name (i := 6) sc.nd rfl (Or.inl rfl)) pgs_nil))))
    (pss_cons (ps_set (i := 7) sc.nd rfl (Or.inl rfl) (pe_callE G_heats (hr.mono (by decide)) e.g_heats (pa_cons (pv 0) (pa_cons (pv 4) pa_nil))))
    (pss_cons (ps_set (i := 8) sc.nd rfl (Or.inl rfl) (pe_callE G_widest (hr.mono (by decide)) e.g_widest (pa_cons (pv 0) pa_nil)))
    (pss_cons (ps_set (i := 9) sc.nd rfl (Or.inl rfl) (pe_lstN pa_nil))
    (pss_cons (ps_for PassesOwn.never rfl (pi_range1 (by rfl) e.f_range (pa_cons (pe_callB len_listN (by rfl) e.f_len bt_len (pa_cons (pv 1) pa_nil)) pa_nil)) (pg_name (i := 10) sc.nd rfl (Or.inl rfl))
    (pss_cons (ps_set (i := 11) sc.nd rfl (Or.inl rfl) (pe_op op_add (pe_ix ix_listN (pv 5) (pv 10) (fun _ _ => rfl)) (pe_op op_shlW (pe_ix ix_listN (pv 7) (pv 10) (fun _ _ => rfl)) (pe_op op_add (pv 2) (pe_gint e.i_FLOW_SHIFT)))))
    (pss_one (ps_expr (pe_appN (pv 9) (pa_cons (pe_op op_add (pe_op op_shlW (pe_ix ix_listN (pv 1) (pv 10) (fun _ _ => rfl)) (pv 8)) (pe_op op_shlW (pv 11) (pe_op op_sub (pe_op op_sub (pv 8) (pe_gint e.i_FLOW_SHIFT)) (pe_ix ix_listN (pe_at e.c_Plan e.n_Plan_caps (pv 0)) (pv 10) (fun _ _ => rfl))))) pa_nil))))))
    (pss_one (ps_ret (pe_tupN (pa_cons (pv 9) (pa_cons (pe_op op_add (pv 2) (pv 8)) (pa_cons (pv 6) pa_nil))))))))))), ?_⟩
  obtain ⟨p, c, wa, l, cells, wt, lv, s, n, b, rfl, A, hc, hw, hl, B, W, hlen, F, q⟩ := hsp
  rw [st_stepped]
  have n1 := B.nr
  have n2 := B.no
  have n3 := B.nh
  have hw16 := wideZ_le B
  refine st_seq ?_
  simp only [ev3, ev, ev2, ev4, sl, eq1, exl, exists_and_left, and_assoc, true_and, at0, at1, at2, Int.toNat_natCast]
  refine ⟨p, c, wa, cells, wt, s, n, b, rfl, A, hc, hw, B.links hlen W.lw, F, ⟨by omega, by have := W.lw; omega⟩, fun H1 t1 r o x1 => ?_⟩
  simp only [ev3, ev, ev2, ev4, sl, eq1, exl, exists_and_left, and_assoc, true_and, at0, at1, at2, Int.toNat_natCast, x1.g 0, List.length_cons, List.length_nil]
  refine st_seq ?_
  simp only [ev3, ev, ev2, ev4, sl, eq1, exl, exists_and_left, and_assoc, true_and, at0, at1, at2, Int.toNat_natCast]
  refine ⟨p, l, lv, b, rfl, A.mono x1.keeps, x1.k hl, W.ll, B.hroom, by omega, by omega, fun H2 f x2 => ?_⟩
  simp only [ev3, ev, ev2, ev4, sl, eq1, exl, exists_and_left, and_assoc, true_and, at0, at1, at2, Int.toNat_natCast]
  refine st_seq ?_
  simp only [ev3, ev, ev2, ev4, sl, eq1, exl, exists_and_left, and_assoc, true_and, at0, at1, at2, Int.toNat_natCast]
  refine ⟨p, b, rfl, A.mono (x1.trans x2).keeps, by omega, fun H3 x3 => ?_⟩
  simp only [ev3, ev, ev2, ev4, sl, eq1, exl, exists_and_left, and_assoc, true_and, at0, at1, at2, Int.toNat_natCast]
  refine st_seq ?_
  simp only [ev3, ev, ev2, ev4, sl, eq1, exl, exists_and_left, and_assoc, true_and, at0, at1, at2, Int.toNat_natCast, List.length_nil]
  refine ⟨by decide, fun a H4 x4 => ?_⟩
  have x : Ext H H4 [(a, .lst []), (f, .lst (zs (heatsZ b.rooms.length b.heaters lv))), (t1, .tup [.ref r, .ref o]), (o, .lst (zs (flowsZ b.links cells s wt).2)), (r, .lst (zs (flowsZ b.links cells s wt).1))] := ((x1.trans x2).trans x3).trans x4
  clear x1 x2 x3 x4
  obtain ⟨dx, pr, ra, oa, la, ha, A⟩ := A
  obtain ⟨fm1, fm2⟩ := flowsZ_sm F.sm F.warm F.sh (fun l hl => (B.g l hl).2) B.nl
  have hm := heatsZ_sm (n := b.rooms.length) (hs := b.heaters) W.lev B.nh
  have fl1 := (flowsZ_len (ls := b.links) (cells := cells) (s := s) (wt := wt)).1
  have hl1 := heatsZ_len (n := b.rooms.length) (hs := b.heaters) (lv := lv)
  have ftop := F.top
  have fsh := F.sh
  have h6 : (s : Int) + 6 = ((s + 6 : Nat) : Int) := by omega
  refine st_seq (forR (n := cells.length) (fun Q' q => by simp only [ev3, ev, ev2, ev4, sl, eq1, exl, exists_and_left, and_assoc, true_and, at0, at1, at2, Int.toNat_natCast, x.k hc, zs_len]; exact q) (by omega)
    (fun i σ H' => ∃ v10 v11, σ = [some (.ref p), some (.ref c), some (natV s), some (.ref wa), some (.ref l), some (.ref r), some (.ref o), some (.ref f), some (natV (wideZ b)), some (.ref a), v10, v11] ∧
      Ext H H' [(a, .lst (zs (((List.range cells.length).take i).map (stepAt b cells s (flowsZ b.links cells s wt).1 (heatsZ b.rooms.length b.heaters lv))))), (f, .lst (zs (heatsZ b.rooms.length b.heaters lv))), (t1, .tup [.ref r, .ref o]), (o, .lst (zs (flowsZ b.links cells s wt).2)), (r, .lst (zs (flowsZ b.links cells s wt).1))]) ⟨_, _, rfl, x⟩ ?_ ?_)
  · rintro i σ H' hi ⟨v10, v11, rfl, y⟩
    obtain ⟨m1, m2, m3⟩ := stepAt_sm (b := b) (cells := cells) (s := s) (i := i) F.sm fm1 hm F.sh hw16
    have hcw := capOf_le_wide b i
    have hsub : (wideZ b : Int) - 6 - (Vbbcab.capOf b i : Int) = ((wideZ b - 6 - Vbbcab.capOf b i : Nat) : Int) := by omega
    have cp := cap_at (b := b) (i := i) (by omega)
    simp only [ev3, ev, ev2, ev4, sl, eq1, exl, exists_and_left, and_assoc, true_and, at0, at1, at2, Int.toNat_natCast]
    refine st_seq ?_
    simp only [ev3, ev, ev2, ev4, sl, eq1, exl, exists_and_left, and_assoc, true_and, at0, at1, at2, Int.toNat_natCast, y.g 4, at_ints (show i < (flowsZ b.links cells s wt).1.length by omega), y.g 1, at_ints (show i < (heatsZ b.rooms.length b.heaters lv).length by omega)]
    rw [h6]
    refine ⟨shl_sm (hm.getD i) (by omega), ?_⟩
    simp only [ev3, ev, ev2, ev4, sl, eq1, exl, exists_and_left, and_assoc, true_and, at0, at1, at2, Int.toNat_natCast, y.g 0, y.k hc, at_ints hi, y.k A.ob, y.k A.caps, cp, hsub]
    refine ⟨shl_sm (F.sm.getD i) (by omega), shl_sm m1 (by omega), size_lt (by rw [zs_len, List.length_map, List.length_take]; omega), fun H2 pt => ?_⟩
    have y2 := y.put 0 rfl pt
    rw [range_snoc hi, zs_snoc]
    exact y2
  · rintro σ H' ⟨v10, v11, rfl, y⟩
    rw [range_all] at y
    simp only [ev3, ev, ev2, ev4, sl, eq1, exl, exists_and_left, and_assoc, true_and, at0, at1, at2, Int.toNat_natCast, List.length_cons, List.length_nil]
    refine ⟨by decide, fun t H3 z => q H3 t a o ?_⟩
    exact (y.trans z).pick [0, 1, 4] (by decide)
def sp_gone_on (K : PySem.W.Frag) : Sp := fun vs H Q _ => ∃ (p c wa l : Addr) (cells wt : List Int) (lv : List Nat) (s n m : Nat) (b : Vbbcab.Building), vs = [.ref p, .ref c, natV s, .ref wa, .ref l, natV m] ∧ PlanA K H p b ∧ H c = some (.lst (zs cells)) ∧ H wa = some (.lst (zs wt)) ∧ H l = some (.lst (zs (nzs lv))) ∧
  WfB b ∧ WfW b wt lv ∧ cells.length = b.rooms.length ∧ SmL n cells ∧ s + 17 ≤ n ∧ n + 37 * m ≤ 100000 ∧
  ∀ H' t r, Ext H H' [(t, .tup [.ref r, natV (gonZ b wt lv m cells s).2]), (r, .lst (zs (gonZ b wt lv m cells s).1))] → Q (.ref t) H'
abbrev N_gone_on : List Str := ["plan", "cells", "shift", "weather", "levels", "many", "now", "power", "turn", "outsides"]
theorem sc_gone_on : FnScope N_gone_on ["plan", "cells", "shift", "weather", "levels", "many"] (defScope s_gone_on) := ⟨rfl, rfl, rfl, by decide +kernel, rfl, by decide +kernel, by decide +kernel⟩
theorem st_gone_on (x0 x1 x2 x3 x4 x5 : V) : start N_gone_on [x0, x1, x2, x3, x4, x5] = [some x0, some x1, some x2, some x3, some x4, some x5, none, none, none, none] := rfl
theorem ok_gone_on (e : Env K mg) : Ok P w K mg base 5 (He.ga K "gone_on") ["plan", "cells", "shift", "weather", "levels", "many"] (sp_gone_on K) := by
  refine ok_of e.fun_gone_on sc_gone_on (fun _ _ _ _ _ _ us hl => match us, hl with | [_, _, _, _, _, _], _ => rfl) (by rintro _ _ _ _ ⟨p, c, wa, l, cells, wt, lv, s, n, m, b, rfl, A, hc, hw, hl, B, W, hlen, hsm, hsh, htop, q⟩; rfl) ?_
  intro cdv A outer s0 H vs Q E hr hsp
  have sc := sc_gone_on
  have hu := hu_of hr
  have G_stepped := ok_stepped (P := P) (w := w) (base := base) e
  refine ⟨_, (pss_cons (ps_par (i := 6) (j := 7) (by rfl) sc.nd rfl rfl (by decide) rfl rfl (pa_cons (pe_callTy list_listN (by rfl) e.f_list bt_list (pa_cons (pv 1) pa_nil)) (pa_cons (pv 2) pa_nil)) (by rfl))
    (pss_cons (ps_for PassesOwn.never rfl (pi_range1 (by rfl) e.f_range (pa_cons (pv 5) pa_nil)) (pg_name (i := 8) sc.nd rfl (Or.inl rfl))
    (pss_one (ps_asg (pe_callE G_stepped (hr.mono (by decide)) e.g_stepped (pa_cons (pv 0) (pa_cons (pv 6) (pa_cons (pv 7) (pa_cons (pv 3) (pa_cons (pv 4) pa_nil)))))) (pg_tupN (n := 3) rfl (pgs_cons (pg_name (i := 6) sc.nd rfl (Or.inl rfl)) (pgs_cons (pg_name (i := 7) sc.nd rfl (Or.inl rfl)) (pgs_cons (pg_name (i := 9) sc.nd rfl (Or.inl rfl)) pgs_nil)))))))
    (pss_one (ps_ret (pe_tupN (pa_cons (pv 6) (pa_cons (pv 7) pa_nil))))))), ?_⟩
  obtain ⟨p, c, wa, l, cells, wt, lv, s, n, m, b, rfl, A, hc, hw, hl, B, W, hlen, hsm, hsh, htop, q⟩ := hsp
  rw [st_gone_on]
  have n1 := B.nr
  refine st_seq ?_
  simp only [ev3, ev, ev2, ev4, sl, eq1, exl, exists_and_left, and_assoc, true_and, at0, at1, at2, Int.toNat_natCast, hc]
  refine fun c1 H1 x1 => ?_
  refine st_seq (forR (n := m) (fun Q' q => by simp only [ev3, ev, ev2, ev4, sl, eq1, exl, exists_and_left, and_assoc, true_and, at0, at1, at2, Int.toNat_natCast]; exact q) (by omega)
    (fun i σ H' => ∃ (r : Addr) (v8 v9 : Option V), σ = [some (.ref p), some (.ref c), some (natV s), some (.ref wa), some (.ref l), some (natV m), some (.ref r), some (natV (gonZ b wt lv i cells s).2), v8, v9] ∧
      Ext H H' [(r, .lst (zs (gonZ b wt lv i cells s).1))]) ⟨_, _, _, rfl, x1⟩ ?_ ?_)
  · rintro i σ H' hi ⟨r, v8, v9, rfl, y⟩
    obtain ⟨g1, g2, g3⟩ := gonZ_sm B W hsm hsh i
    simp only [ev3, ev, ev2, ev4, sl, eq1, exl, exists_and_left, and_assoc, true_and, at0, at1, at2, Int.toNat_natCast]
    refine ⟨p, r, wa, l, _, wt, lv, _, _, b, rfl, A.mono y.keeps, y.g 0, y.k hw, y.k hl, B, W, g3.trans hlen, ⟨W.warm, by omega, by omega, g1⟩, fun H2 t r2 o z => ?_⟩
    simp only [ev3, ev, ev2, ev4, sl, eq1, exl, exists_and_left, and_assoc, true_and, at0, at1, at2, Int.toNat_natCast, z.g 0, List.length_cons, List.length_nil]
    rw [gonZ_one]
    exact ⟨rfl, (y.trans z).pick [1] (by decide)⟩
  · rintro σ H' ⟨r, v8, v9, rfl, y⟩
    simp only [ev3, ev, ev2, ev4, sl, eq1, exl, exists_and_left, and_assoc, true_and, at0, at1, at2, Int.toNat_natCast, List.length_cons, List.length_nil]
    refine ⟨by decide, fun t H3 z => q H3 t r ?_⟩
    exact y.trans z
end
end WR
end PartWc
section PartWt1
set_option Elab.async false
set_option linter.all false
set_option maxRecDepth 100000
set_option maxHeartbeats 4000000
namespace WR
open PySem PySem.Spec PyProof.Rows L2 WH
section
variable {P : Program} {w : World} {K : PySem.W.Frag} {mg : Str → Option Value} {base : Heap}
def sp_octets_of (K : PySem.W.Frag) : Sp := fun vs H Q _ => ∃ (z : Str), vs = [.str z] ∧ z.cps.size ≤ 900000 ∧ ∀ H' t, Ext H H' [(t, .lst (zs (nameI z.cps.toList)))] → Q (.ref t) H'
theorem nameI_get {w : List Nat} {i : Nat} {x : V} (h : (zs (nameI w))[i]? = some x) : ∃ c, w[i]? = some c ∧ x = natV c := by
  have h' : ((w.map fun n : Nat => (n : Int)).map V.int)[i]? = some x := h
  rw [List.getElem?_map, List.getElem?_map] at h'
  obtain ⟨a, e1, e2⟩ := Option.map_eq_some_iff.mp h'
  obtain ⟨c, e3, e4⟩ := Option.map_eq_some_iff.mp e1
  exact ⟨c, e3, by rw [← e2, ← e4]⟩
theorem nameI_len (w : List Nat) : (zs (nameI w)).length = w.length := by rw [zs_len, nameI, List.length_map]
abbrev N_octets_of : List Str := ["text", "sign"]
theorem sc_octets_of : FnScope N_octets_of ["text"] (defScope s_octets_of) := ⟨rfl, rfl, rfl, by decide +kernel, rfl, by decide +kernel, by decide +kernel⟩
theorem st_octets_of (x0 : V) : start N_octets_of [x0] = [some x0, none] := rfl
theorem ok_octets_of (e : Env K mg) : Ok P w K mg base 1 (He.ga K "octets_of") ["text"] (sp_octets_of K) := by
  refine ok_of e.fun_octets_of sc_octets_of (fun _ _ _ _ _ _ us hl => match us, hl with | [_], _ => rfl) (by rintro _ _ _ _ ⟨z, rfl, hz, q⟩; rfl) ?_
  intro cdv A outer s0 H vs Q E hr hsp
  have sc := sc_octets_of
  have hu := hu_of hr
  refine ⟨_, (pss_one (ps_ret (pe_lc (own := [("sign", 1)]) rfl sc.nd (pi_str (pv 0)) (blkOk_by (own := [("sign", 1)]) (N := N_octets_of) (sc := defScope s_octets_of) (by decide +kernel)) (fun _ _ _ _ _ => (pg_name (i := 1) sc.nd rfl (Or.inl rfl) (Or.inr rfl))) (fun _ _ _ _ _ => pts_nil) (fun _ _ _ _ _ => (pe_callB call_ord (by rfl) e.f_ord bt_ord (pa_cons (pv 1) pa_nil)))))), ?_⟩
  obtain ⟨z, rfl, hz, q⟩ := hsp
  rw [st_octets_of]
  simp only [ev3, ev, ev2, ev4, sl, eq1, exl, exists_and_left, and_assoc, true_and, at0, at1, at2, Int.toNat_natCast]
  refine lcS (z := z) (fun i => .int ((z.cps.getD i 0 : Nat) : Int)) (fun R h => by simp only [ev3, ev, ev2, ev4, sl, eq1, exl, exists_and_left, and_assoc, true_and, at0, at1, at2, Int.toNat_natCast]; exact h) hz (fun i c H1 hc _ R h => ?_) (fun D H' x => q H' D ?_)
  · simp only [ev3, ev, ev2, ev4, sl, eq1, exl, exists_and_left, and_assoc, true_and, at0, at1, at2, Int.toNat_natCast, wp, List.map_cons, List.map_nil]
    have e : z.cps.getD i 0 = c := by simp [hc]
    refine ⟨⟨#[c]⟩, rfl, rfl, ?_⟩
    rw [e] at h
    exact h H1 fun _ _ h => h
  · have e : (List.range z.cps.size).map (fun i => V.int ((z.cps.getD i 0 : Nat) : Int)) = zs (nameI z.cps.toList) := by
      refine range_map_zs (by simp [nameI]) fun i hi => ?_
      congr 1
      simp [nameI, hi]
    rw [e] at x
    exact x
def sp_is_letter (K : PySem.W.Frag) : Sp := fun vs H Q _ => ∃ (c : Nat), vs = [natV c] ∧ Q (.bl (Vbbcab.small c)) H
def sp_is_digit (K : PySem.W.Frag) : Sp := fun vs H Q _ => ∃ (c : Nat), vs = [natV c] ∧ Q (.bl (Vbbcab.digit c)) H
theorem small_i (c : Nat) : Vbbcab.small c = (decide ((97 : Int) ≤ c) && decide ((c : Int) ≤ 122)) := by
  unfold Vbbcab.small
  congr 1 <;> exact decide_eq_decide.mpr (by omega)
theorem digit_i (c : Nat) : Vbbcab.digit c = (decide ((48 : Int) ≤ c) && decide ((c : Int) ≤ 57)) := by
  unfold Vbbcab.digit
  congr 1 <;> exact decide_eq_decide.mpr (by omega)
abbrev N_is_letter : List Str := ["sign"]
theorem sc_is_letter : FnScope N_is_letter ["sign"] (defScope s_is_letter) := ⟨rfl, rfl, rfl, by decide +kernel, rfl, by decide +kernel, by decide +kernel⟩
theorem st_is_letter (x0 : V) : start N_is_letter [x0] = [some x0] := rfl
theorem ok_is_letter (e : Env K mg) : Ok P w K mg base 1 (He.ga K "is_letter") ["sign"] (sp_is_letter K) := by
  refine ok_of e.fun_is_letter sc_is_letter (fun _ _ _ _ _ _ us hl => match us, hl with | [_], _ => rfl) (by rintro _ _ _ _ ⟨c, rfl, q⟩; rfl) ?_
  intro cdv A outer s0 H vs Q E hr hsp
  have sc := sc_is_letter
  have hu := hu_of hr
  refine ⟨_, (pss_one (ps_ret (pe_chain op_le op_le pe_int (pv 0) pe_int))), ?_⟩
  obtain ⟨c, rfl, q⟩ := hsp
  rw [st_is_letter]
  rw [small_i] at q
  simp only [ev3, ev, ev2, ev4, sl, eq1, exl, exists_and_left, and_assoc, true_and, at0, at1, at2, Int.toNat_natCast]
  split
  · rename_i h
    rw [h, Bool.true_and] at q
    exact q
  · rename_i h
    rw [Bool.eq_false_iff.mpr h, Bool.false_and] at q
    exact q
abbrev N_is_digit : List Str := ["sign"]
theorem sc_is_digit : FnScope N_is_digit ["sign"] (defScope s_is_digit) := ⟨rfl, rfl, rfl, by decide +kernel, rfl, by decide +kernel, by decide +kernel⟩
theorem st_is_digit (x0 : V) : start N_is_digit [x0] = [some x0] := rfl
theorem ok_is_digit (e : Env K mg) : Ok P w K mg base 1 (He.ga K "is_digit") ["sign"] (sp_is_digit K) := by
  refine ok_of e.fun_is_digit sc_is_digit (fun _ _ _ _ _ _ us hl => match us, hl with | [_], _ => rfl) (by rintro _ _ _ _ ⟨c, rfl, q⟩; rfl) ?_
  intro cdv A outer s0 H vs Q E hr hsp
  have sc := sc_is_digit
  have hu := hu_of hr
  refine ⟨_, (pss_one (ps_ret (pe_chain op_le op_le pe_int (pv 0) pe_int))), ?_⟩
  obtain ⟨c, rfl, q⟩ := hsp
  rw [st_is_digit]
  rw [digit_i] at q
  simp only [ev3, ev, ev2, ev4, sl, eq1, exl, exists_and_left, and_assoc, true_and, at0, at1, at2, Int.toNat_natCast]
  split
  · rename_i h
    rw [h, Bool.true_and] at q
    exact q
  · rename_i h
    rw [Bool.eq_false_iff.mpr h, Bool.false_and] at q
    exact q
def tu (b : Bool) : V := .bl b
def sp_is_name (K : PySem.W.Frag) : Sp := fun vs H Q _ => ∃ (a : Addr) (w : List Nat), vs = [.ref a] ∧ NameAt H a w ∧ w.length ≤ 4000 ∧ ∀ H', Keeps H H' → Q (.bl (Vbbcab.isName w)) H'
theorem all_map (w : List Nat) (f : Nat → Bool) : ((List.range w.length).map fun i => f (w.getD i 0)).all id = w.all f := by
  have e : (List.range w.length).map (fun i => f (w.getD i 0)) = w.map f := by
    refine List.ext_getElem (by simp) fun i h1 h2 => ?_
    rw [List.length_map, List.length_range] at h1
    simp [h1]
  rw [e, List.all_map]
  rfl
theorem map_bl (w : List Nat) (f : Nat → Bool) : (List.range w.length).map (fun i => V.bl (f (w.getD i 0))) = ((List.range w.length).map fun i => f (w.getD i 0)).map V.bl := by rw [List.map_map]; rfl
theorem dec_nat (a b : Nat) : decide ((a : Int) ≤ (b : Int)) = decide (a ≤ b) := decide_eq_decide.mpr (by omega)
theorem name_head {w : List Nat} (h : 1 ≤ w.length) (h2 : w.length ≤ 12) : Vbbcab.isName w = (Vbbcab.small (w.getD 0 0) && w.all fun c => Vbbcab.small c || Vbbcab.digit c) := by
  unfold Vbbcab.isName
  rw [decide_eq_true h, decide_eq_true h2]
  cases w with
  | nil => cases h
  | cons c r => rfl
theorem name_short {w : List Nat} (h : ¬ 1 ≤ w.length ∨ ¬ w.length ≤ 12) : Vbbcab.isName w = false := by
  unfold Vbbcab.isName
  rcases h with h | h
  · rw [decide_eq_false h, Bool.false_and]
  · rw [decide_eq_false h, Bool.false_and, Bool.and_false]
theorem nameI_at {w : List Nat} {i : Nat} (h : i < w.length) : atI (zs (nameI w)) (i : Int) = some (natV (w.getD i 0)) := by
  rw [at_ints (by rw [nameI, List.length_map]; exact h)]
  congr 2
  simp [nameI, h]
abbrev N_is_name : List Str := ["word", "sign"]
theorem sc_is_name : FnScope N_is_name ["word"] (defScope s_is_name) := ⟨rfl, rfl, rfl, by decide +kernel, rfl, by decide +kernel, by decide +kernel⟩
theorem st_is_name (x0 : V) : start N_is_name [x0] = [some x0, none] := rfl
theorem ok_is_name (e : Env K mg) : Ok P w K mg base 2 (He.ga K "is_name") ["word"] (sp_is_name K) := by
  refine ok_of e.fun_is_name sc_is_name (fun _ _ _ _ _ _ us hl => match us, hl with | [_], _ => rfl) (by rintro _ _ _ _ ⟨a, w, rfl, ha, hw, q⟩; rfl) ?_
  intro cdv A outer s0 H vs Q E hr hsp
  have sc := sc_is_name
  have hu := hu_of hr
  have G_is_letter := ok_is_letter (P := P) (w := w) (base := base) e
  have G_is_digit := ok_is_digit (P := P) (w := w) (base := base) e
  refine ⟨_, (pss_cons (ps_if (PW.pt (pw_or (pt_not (pt_chain op_le op_le pe_int (pe_callB len_tupN (by rfl) e.f_len bt_len (pa_cons (pv 0) pa_nil)) (pe_gint e.i_MOST_NAME))) (pw_or1 (pt_not (pt_val (pe_callE G_is_letter (hr.mono (by decide)) e.g_is_letter (pa_cons (pe_ix ix_tupN (pv 0) pe_int (fun _ _ => rfl)) pa_nil)))))))
    (pss_one (ps_ret pe_bl))
    pss_nil)
    (pss_one (ps_ret (pe_callB (allN rfl) (by rfl) e.f_all bt_all (pa_cons (pe_lc (own := [("sign", 1)]) rfl sc.nd (pi_tup (pv 0)) (blkOk_by (own := [("sign", 1)]) (N := N_is_name) (sc := defScope s_is_name) (by decide +kernel)) (fun _ _ _ _ _ => (pg_name (i := 1) sc.nd rfl (Or.inl rfl) (Or.inr rfl))) (fun _ _ _ _ _ => pts_nil) (fun _ _ _ _ _ => (pe_or (pe_callE G_is_letter (hr.mono (by decide)) e.g_is_letter (pa_cons (pv 1) pa_nil)) (pe_one (pe_callE G_is_digit (hr.mono (by decide)) e.g_is_digit (pa_cons (pv 1) pa_nil)))))) pa_nil))))), ?_⟩
  obtain ⟨a, w, rfl, ha, hw, q⟩ := hsp
  rw [st_is_name]
  have ha : H a = some (.tup (zs (nameI w))) := ha
  refine st_seq ?_
  simp only [ev3, ev, ev2, ev4, sl, eq1, exl, exists_and_left, and_assoc, true_and, at0, at1, at2, Int.toNat_natCast, ha, nameI_len]
  by_cases h1 : 1 ≤ w.length
  · by_cases h2 : w.length ≤ 12
    · rw [if_pos (decide_eq_true (by omega)), if_neg (by rw [decide_eq_true (by omega)]; decide)]
      refine ⟨_, nameI_at (i := 0) h1, ?_⟩
      refine ⟨_, rfl, _, rfl, ?_⟩
      rw [name_head h1 h2] at q
      cases hs : Vbbcab.small (w.getD 0 0) with
      | false =>
        rw [hs, Bool.false_and] at q
        exact q H fun _ _ h => h
      | true =>
        rw [hs, Bool.true_and] at q
        rw [if_neg (by decide)]
        refine lcT (xs := zs (nameI w)) (fun i => .bl (Vbbcab.small (w.getD i 0) || Vbbcab.digit (w.getD i 0))) (fun R h => by simp only [ev3, ev, ev2, ev4, sl, eq1, exl, exists_and_left, and_assoc, true_and, at0, at1, at2, Int.toNat_natCast]; exact h _ _ (fun _ _ h => h) ha) (by rw [nameI_len]; omega) (fun i x H2 hx _ R h => ?_) (fun D H' x => ?_)
        · obtain ⟨c, hc, rfl⟩ := nameI_get hx
          simp only [ev3, ev, ev2, ev4, sl, eq1, exl, exists_and_left, and_assoc, true_and, at0, at1, at2, Int.toNat_natCast, wp, List.map_cons, List.map_nil]
          refine ⟨c, rfl, ?_⟩
          have e : w.getD i 0 = c := by simp [hc]
          rw [e] at h
          refine ⟨_, rfl, ?_⟩
          split
          · rename_i q
            rw [q] at h
            exact h H2 fun _ _ h => h
          · rename_i q
            rw [Bool.eq_false_iff.mpr q, Bool.false_or] at h
            exact ⟨c, rfl, h H2 fun _ _ h => h⟩
        · rw [nameI_len, map_bl w fun c => Vbbcab.small c || Vbbcab.digit c] at x
          refine ⟨D, _, rfl, x.g 0, ?_⟩
          rw [all_map w fun c => Vbbcab.small c || Vbbcab.digit c]
          exact q H' x.keeps
    · rw [if_pos (decide_eq_true (by omega)), if_pos (by rw [decide_eq_false (by omega)]; decide), if_pos trivial]
      rw [name_short (.inr h2)] at q
      exact q H fun _ _ h => h
  · rw [if_neg (by rw [decide_eq_false (by omega)]; decide)]
    rw [name_short (.inl h1)] at q
    exact q H fun _ _ h => h
/-- digits' number as None or a number -/
def optV : Option Int → V
  | none => .non
  | some n => .int n
def optN : Option Nat → V
  | none => .non
  | some n => natV n
def sp_digits_of (K : PySem.W.Frag) : Sp := fun vs H Q _ => ∃ (a : Addr) (w : List Nat), vs = [.ref a] ∧ NameAt H a w ∧ w.length ≤ 4000 ∧ ∀ H', Keeps H H' → Q (optN (Vbbcab.natOf w)) H'
theorem nat_short {w : List Nat} (h : ¬ 1 ≤ w.length ∨ ¬ w.length ≤ 7) : Vbbcab.natOf w = none := by
  unfold Vbbcab.natOf
  refine if_pos ?_
  rcases h with h | h
  · left
    cases w with
    | nil => rfl
    | cons c r => exact absurd (Nat.le_add_left 1 _) h
  · exact .inr (.inl (by omega))
theorem nat_bad {w : List Nat} (h : w.all Vbbcab.digit = false) : Vbbcab.natOf w = none := by
  unfold Vbbcab.natOf
  exact if_pos (.inr (.inr (.inl h)))
theorem nat_zero {w : List Nat} (h : 1 < w.length) (h2 : w.getD 0 0 = 48) : Vbbcab.natOf w = none := by
  unfold Vbbcab.natOf
  refine if_pos (.inr (.inr (.inr ⟨h, ?_⟩)))
  cases w with
  | nil => cases h
  | cons c r => exact congrArg some h2
theorem nat_good {w : List Nat} (h1 : 1 ≤ w.length) (h2 : w.length ≤ 7) (h3 : w.all Vbbcab.digit = true) (h4 : ¬ (1 < w.length ∧ w.getD 0 0 = 48)) : Vbbcab.natOf w = some (Vbbcab.value w) := by
  unfold Vbbcab.natOf
  refine if_neg ?_
  rintro (h | h | h | ⟨h, h'⟩)
  · cases w with
    | nil => cases h1
    | cons c r => cases h
  · omega
  · rw [h3] at h
    cases h
  · refine h4 ⟨h, ?_⟩
    cases w with
    | nil => cases h1
    | cons c r => exact Option.some.inj h'
theorem value_take {w : List Nat} {i c : Nat} (h : w[i]? = some c) : Vbbcab.value (w.take (i + 1)) = 10 * Vbbcab.value (w.take i) + (c - 48) := by
  unfold Vbbcab.value
  rw [take_snoc h, List.foldl_append]
  rfl
theorem value_lt : ∀ (i : Nat) (w : List Nat), w.all Vbbcab.digit = true → Vbbcab.value (w.take i) < 10 ^ i
  | 0, w, h => by
    rw [List.take_zero]
    decide
  | i + 1, w, h => by
    have ih := value_lt i w h
    cases e : w[i]? with
    | none =>
      have hl := List.getElem?_eq_none_iff.mp e
      rw [List.take_of_length_le (by omega)]
      rw [List.take_of_length_le hl] at ih
      rw [Nat.pow_succ]
      omega
    | some c =>
      rw [value_take e, Nat.pow_succ]
      have := List.all_eq_true.mp h c (List.mem_of_getElem? e)
      unfold Vbbcab.digit at this
      simp only [Bool.and_eq_true, decide_eq_true_eq] at this
      omega
theorem digit_ge {w : List Nat} {i c : Nat} (h : w.all Vbbcab.digit = true) (e : w[i]? = some c) : 48 ≤ c := by
  have := List.all_eq_true.mp h c (List.mem_of_getElem? e)
  unfold Vbbcab.digit at this
  simp only [Bool.and_eq_true, decide_eq_true_eq] at this
  omega
abbrev N_digits_of : List Str := ["word", "sign", "found"]
theorem sc_digits_of : FnScope N_digits_of ["word"] (defScope s_digits_of) := ⟨rfl, rfl, rfl, by decide +kernel, rfl, by decide +kernel, by decide +kernel⟩
theorem st_digits_of (x0 : V) : start N_digits_of [x0] = [some x0, none, none] := rfl
theorem ok_digits_of (e : Env K mg) : Ok P w K mg base 2 (He.ga K "digits_of") ["word"] (sp_digits_of K) := by
  refine ok_of e.fun_digits_of sc_digits_of (fun _ _ _ _ _ _ us hl => match us, hl with | [_], _ => rfl) (by rintro _ _ _ _ ⟨a, w, rfl, ha, hw, q⟩; rfl) ?_
  intro cdv A outer s0 H vs Q E hr hsp
  have sc := sc_digits_of
  have hu := hu_of hr
  have G_is_digit := ok_is_digit (P := P) (w := w) (base := base) e
  refine ⟨_, (pss_cons (ps_if (PW.pt (pw_or (pt_not (pt_chain op_le op_le pe_int (pe_callB len_tupN (by rfl) e.f_len bt_len (pa_cons (pv 0) pa_nil)) (pe_gint e.i_MOST_DIGITS))) (pw_or1 (pt_not (pt_val (pe_callB (allN rfl) (by rfl) e.f_all bt_all (pa_cons (pe_lc (own := [("sign", 1)]) rfl sc.nd (pi_tup (pv 0)) (blkOk_by (own := [("sign", 1)]) (N := N_digits_of) (sc := defScope s_digits_of) (by decide +kernel)) (fun _ _ _ _ _ => (pg_name (i := 1) sc.nd rfl (Or.inl rfl) (Or.inr rfl))) (fun _ _ _ _ _ => pts_nil) (fun _ _ _ _ _ => (pe_callE G_is_digit (hr.mono (by decide)) e.g_is_digit (pa_cons (pv 1) pa_nil)))) pa_nil)))))))
    (pss_one (ps_ret pe_non))
    pss_nil)
    (pss_cons (ps_if (PW.pt (pw_and (pt_cmpR op_gt (pe_callB len_tupN (by rfl) e.f_len bt_len (pa_cons (pv 0) pa_nil)) pe_int (nomark _)) (pw_and1 (pt_cmpR op_eqN (pe_ix ix_tupN (pv 0) pe_int (fun _ _ => rfl)) pe_int (nomark _)))))
    (pss_one (ps_ret pe_non))
    pss_nil)
    (pss_cons (ps_set (i := 2) sc.nd rfl (Or.inl rfl) pe_int)
    (pss_cons (ps_for PassesOwn.never rfl (pi_tup (pv 0)) (pg_name (i := 1) sc.nd rfl (Or.inl rfl))
    (pss_one (ps_set (i := 2) sc.nd rfl (Or.inl rfl) (pe_op op_sub (pe_op op_add (pe_op op_mulX pe_int (pv 2)) (pv 1)) pe_int))))
    (pss_one (ps_ret (pv 2))))))), ?_⟩
  obtain ⟨a, w, rfl, ha, hw, q⟩ := hsp
  rw [st_digits_of]
  have ha : H a = some (.tup (zs (nameI w))) := ha
  refine st_seq ?_
  simp only [ev3, ev, ev2, ev4, sl, eq1, exl, exists_and_left, and_assoc, true_and, at0, at1, at2, Int.toNat_natCast, ha, nameI_len]
  by_cases h1 : 1 ≤ w.length
  · by_cases h2 : w.length ≤ 7
    · rw [if_pos (decide_eq_true (by omega)), if_neg (by rw [decide_eq_true (by omega)]; decide)]
      refine lcT (xs := zs (nameI w)) (fun i => .bl (Vbbcab.digit (w.getD i 0))) (fun R h => by simp only [ev3, ev, ev2, ev4, sl, eq1, exl, exists_and_left, and_assoc, true_and, at0, at1, at2, Int.toNat_natCast]; exact h _ _ (fun _ _ h => h) ha) (by rw [nameI_len]; omega) (fun i x H2 hx _ R h => ?_) (fun D H1 x => ?_)
      · obtain ⟨c, hc, rfl⟩ := nameI_get hx
        simp only [ev3, ev, ev2, ev4, sl, eq1, exl, exists_and_left, and_assoc, true_and, at0, at1, at2, Int.toNat_natCast, wp, List.map_cons, List.map_nil]
        have e : w.getD i 0 = c := by simp [hc]
        rw [e] at h
        exact ⟨c, rfl, h H2 fun _ _ h => h⟩
      · rw [nameI_len, map_bl w Vbbcab.digit] at x
        refine ⟨D, _, rfl, x.g 0, _, rfl, ?_⟩
        rw [all_map w Vbbcab.digit]
        cases hd : w.all Vbbcab.digit with
        | false =>
          rw [nat_bad hd] at q
          exact q H1 x.keeps
        | true =>
          rw [if_neg (by decide)]
          have ha1 := x.k ha
          refine st_seq ?_
          simp only [ev3, ev, ev2, ev4, sl, eq1, exl, exists_and_left, and_assoc, true_and, at0, at1, at2, Int.toNat_natCast, ha1, nameI_len]
          have body : ¬ (1 < w.length ∧ w.getD 0 0 = 48) → tSeq (tAsg (tC (V.int 0)) (gName 2)) (tSeq (tFor (iTup K (tVar 0)) (gName 1) (tAsg (tOp (rI0 fun i j => V.int (i - j)) (tOp (rI0 fun i j => V.int (i + j)) (tOp (rI CMulX fun i j => V.int (i * j)) (tC (V.int 10)) (tVar 2)) (tVar 1)) (tC (V.int 48))) (gName 2))) (tRet (tVar 2))) { nx := fun x H' => Q V.non H', rt := Q } [some (V.ref a), none, none] H1 := by
            intro h4
            rw [nat_good h1 h2 hd h4] at q
            refine st_seq ?_
            simp only [ev3, ev, ev2, ev4, sl, eq1, exl, exists_and_left, and_assoc, true_and, at0, at1, at2, Int.toNat_natCast]
            refine st_seq (forT (xs := zs (nameI w)) (fun Q' q => by simp only [ev3, ev, ev2, ev4, sl, eq1, exl, exists_and_left, and_assoc, true_and, at0, at1, at2, Int.toNat_natCast]; exact q) ha1 (fun i σ H' => ∃ v1, σ = [some (.ref a), v1, some (natV (Vbbcab.value (w.take i)))] ∧ Keeps H1 H') ⟨_, rfl, fun _ _ h => h⟩ (fun i σ H' ⟨_, _, k⟩ => k _ _ ha1) ?_ ?_)
            · rintro i x σ H' hx ⟨v1, rfl, k⟩
              obtain ⟨c, hc, rfl⟩ := nameI_get hx
              simp only [ev3, ev, ev2, ev4, sl, eq1, exl, exists_and_left, and_assoc, true_and, at0, at1, at2, Int.toNat_natCast]
              have hi : i < w.length := (List.getElem?_eq_some_iff.mp hc).1
              have hv := value_lt i w hd
              have hp : 10 ^ i ≤ 10 ^ 7 := Nat.pow_le_pow_right (by decide) (by omega)
              have hc48 := digit_ge hd hc
              refine ⟨mul_sm (n := 4) (m := 24) (Sm.of_le (m := 10) (by decide) (by decide)) (Sm.of_le (m := 10000000) (by omega) (by decide)) (by decide), ?_⟩
              refine ⟨by rw [value_take hc]; congr 3; omega, k⟩
            · rintro σ H' ⟨v1, rfl, k⟩
              rw [nameI_len, List.take_length]
              simp only [ev3, ev, ev2, ev4, sl, eq1, exl, exists_and_left, and_assoc, true_and, at0, at1, at2, Int.toNat_natCast]
              exact q H' fun b o h => k _ _ (x.k h)
          by_cases h3 : 1 < w.length
          · rw [if_pos (decide_eq_true (by omega))]
            refine ⟨_, nameI_at (i := 0) h1, ?_⟩
            by_cases h4 : w.getD 0 0 = 48
            · rw [nat_zero h3 h4] at q
              exact ⟨_, rfl, by rw [if_pos (decide_eq_true (by omega))]; exact q H1 x.keeps⟩
            · exact ⟨_, rfl, by rw [if_neg (by rw [decide_eq_false (by omega)]; decide)]; exact body fun h => h4 h.2⟩
          · rw [if_neg (by rw [decide_eq_false (by omega)]; decide)]
            exact body fun h => h3 h.1
    · rw [if_pos (decide_eq_true (by omega)), if_pos (by rw [decide_eq_false (by omega)]; decide), if_pos trivial]
      rw [nat_short (.inr h2)] at q
      exact q H fun _ _ h => h
  · rw [if_neg (by rw [decide_eq_false (by omega)]; decide)]
    rw [nat_short (.inl h1)] at q
    exact q H fun _ _ h => h
def natI (w : List Nat) : Option Int := match Vbbcab.natOf w with
  | none => none
  | some n => some (n : Int)
theorem intOf_minus (r : List Nat) : Vbbcab.intOf (45 :: r) = match Vbbcab.natOf r with
    | some (n + 1) => some (-((n : Int) + 1))
    | _ => none := rfl
theorem intOf_plain {w : List Nat} (h : ¬ w.take 1 = [45]) : Vbbcab.intOf w = natI w := by
  unfold Vbbcab.intOf
  split
  · exact absurd rfl h
  · unfold natI
    cases Vbbcab.natOf w <;> rfl
/-- the number of a word, from lo to hi -/
def numZ (w : List Nat) (lo hi : Int) : Option Int :=
  match (if lo < 0 then Vbbcab.intOf w else natI w) with
  | none => none
  | some n => if lo ≤ n ∧ n ≤ hi then some n else none
def sp_number_of (K : PySem.W.Frag) : Sp := fun vs H Q _ => ∃ (a : Addr) (w : List Nat) (lo hi : Int), vs = [.ref a, .int lo, .int hi] ∧ NameAt H a w ∧ w.length ≤ 4000 ∧ ∀ H', Keeps H H' → Q (optV (numZ w lo hi)) H'
theorem st_cut {t u : TS} {D : Ends} {σ : L2.St} {H : Hp} (R : L2.St → Hp → Prop) (h1 : ∀ U : L2.St → Hp → Prop, (∀ σ H, R σ H → U σ H) → t { D with nx := U } σ H) (h2 : ∀ σ H, R σ H → u D σ H) : tSeq t u D σ H := h1 _ h2
/-- whether a number of a word is below 0 -/
def belowZ (w : List Nat) (lo : Int) : Bool := decide (lo < 0) && decide (w.take 1 = [45])
theorem take_inj {w : List Nat} : (nameI w).take 1 = [(45 : Int)] ↔ w.take 1 = [45] := by
  cases w with
  | nil => constructor <;> intro h <;> cases h
  | cons c r =>
    show [((c : Nat) : Int)] = [45] ↔ [c] = [45]
    constructor
    · intro h
      have := (List.cons.inj h).1
      rw [show c = 45 by omega]
    · intro h
      rw [(List.cons.inj h).1]
      rfl
theorem numZ_below {w : List Nat} {lo hi : Int} (h : belowZ w lo = true) : numZ w lo hi = match Vbbcab.natOf (w.drop 1) with
    | none => none
    | some n => if n = 0 then none else if lo ≤ 0 - (n : Int) ∧ 0 - (n : Int) ≤ hi then some (0 - (n : Int)) else none := by
  unfold belowZ at h
  rw [Bool.and_eq_true, decide_eq_true_eq, decide_eq_true_eq] at h
  obtain ⟨h1, h2⟩ := h
  unfold numZ
  rw [if_pos h1]
  cases w with
  | nil => cases h2
  | cons c r =>
    have : c = 45 := (List.cons.inj h2).1
    subst this
    rw [intOf_minus]
    show _ = match Vbbcab.natOf r with | none => none | some n => _
    cases e : Vbbcab.natOf r with
    | none => rfl
    | some n =>
      cases n with
      | zero => rfl
      | succ n =>
        show (if lo ≤ -((n : Int) + 1) ∧ -((n : Int) + 1) ≤ hi then some (-((n : Int) + 1)) else none) = if lo ≤ 0 - ((n + 1 : Nat) : Int) ∧ 0 - ((n + 1 : Nat) : Int) ≤ hi then some (0 - ((n + 1 : Nat) : Int)) else none
        rw [show (0 : Int) - ((n + 1 : Nat) : Int) = -((n : Int) + 1) by omega]
theorem numZ_plain {w : List Nat} {lo hi : Int} (h : belowZ w lo = false) : numZ w lo hi = match Vbbcab.natOf w with
    | none => none
    | some n => if lo ≤ (n : Int) ∧ (n : Int) ≤ hi then some (n : Int) else none := by
  unfold belowZ at h
  unfold numZ
  have e : (if lo < 0 then Vbbcab.intOf w else natI w) = natI w := by
    by_cases h1 : lo < 0
    · rw [if_pos h1]
      rw [decide_eq_true h1, Bool.true_and, decide_eq_false_iff_not] at h
      exact intOf_plain h
    · rw [if_neg h1]
  rw [e]
  unfold natI
  cases Vbbcab.natOf w <;> rfl
theorem name_drop {w : List Nat} {i : Nat} (h : i ≤ w.length) : cutV (zs (nameI w)) (some (i : Int)) none = zs (nameI (w.drop i)) := by
  rw [cut_from (by rw [nameI, List.length_map]; exact h), nameI, nameI, List.map_drop]
theorem rng_ite {P : V → Prop} {lo hi m : Int} (h : P (optV (if lo ≤ m ∧ m ≤ hi then some m else none))) : if decide (lo ≤ m) = true then (if decide (m ≤ hi) = true then P (.int m) else P .non) else if false = true then P (.int m) else P .non := by
  by_cases h1 : lo ≤ m
  · rw [if_pos (decide_eq_true h1)]
    by_cases h2 : m ≤ hi
    · rw [if_pos (decide_eq_true h2)]
      rw [if_pos ⟨h1, h2⟩] at h
      exact h
    · rw [if_neg (by rw [decide_eq_false h2]; decide)]
      rw [if_neg fun z => h2 z.2] at h
      exact h
  · rw [if_neg (by rw [decide_eq_false h1]; decide), if_neg (by decide)]
    rw [if_neg fun z => h1 z.1] at h
    exact h
abbrev N_number_of : List Str := ["word", "least", "most", "is_below", "found"]
theorem sc_number_of : FnScope N_number_of ["word", "least", "most"] (defScope s_number_of) := ⟨rfl, rfl, rfl, by decide +kernel, rfl, by decide +kernel, by decide +kernel⟩
theorem st_number_of (x0 x1 x2 : V) : start N_number_of [x0, x1, x2] = [some x0, some x1, some x2, none, none] := rfl
theorem ok_number_of (e : Env K mg) : Ok P w K mg base 3 (He.ga K "number_of") ["word", "least", "most"] (sp_number_of K) := by
  refine ok_of e.fun_number_of sc_number_of (fun _ _ _ _ _ _ us hl => match us, hl with | [_, _, _], _ => rfl) (by rintro _ _ _ _ ⟨a, w, lo, hi, rfl, ha, hw, q⟩; rfl) ?_
  intro cdv A outer s0 H vs Q E hr hsp
  have sc := sc_number_of
  have hu := hu_of hr
  have G_digits_of := ok_digits_of (P := P) (w := w) (base := base) e
  refine ⟨_, (pss_cons (ps_set (i := 3) sc.nd rfl (Or.inl rfl) (pe_and (pe_cmpR op_lt (pv 1) pe_int (nomark _)) (pe_one (pe_cmpR (op_eqTN hr.units) (pe_slice sl_tupN (pv 0) po_none (po_some pe_int)) (pe_tupN (pa_cons (pe_gint e.i_MINUS) pa_nil)) (nomark _)))))
    (pss_cons (ps_set (i := 4) sc.nd rfl (Or.inl rfl) (pe_callE G_digits_of (hr.mono (by decide)) e.g_digits_of (pa_cons (pe_ifExp (pt_val (pv 3)) (pe_slice sl_tupN (pv 0) (po_some pe_int) po_none) (pv 0)) pa_nil)))
    (pss_cons (ps_if (PW.pt (pw_or (pt_cmpR op_isNN (pv 4) pe_non (nomark _)) (pw_or1 (PW.pt (pw_and (pt_val (pv 3)) (pw_and1 (pt_cmpR op_eqN (pv 4) pe_int (nomark _))))))))
    (pss_one (ps_ret pe_non))
    pss_nil)
    (pss_cons (ps_set (i := 4) sc.nd rfl (Or.inl rfl) (pe_ifExp (pt_val (pv 3)) (pe_op op_sub pe_int (pv 4)) (pv 4)))
    (pss_one (ps_ret (pe_ifExp (pt_chain op_le op_le (pv 1) (pv 4) (pv 2)) (pv 4) pe_non))))))), ?_⟩
  obtain ⟨a, w, lo, hi, rfl, ha, hw, q⟩ := hsp
  rw [st_number_of]
  have ha : H a = some (.tup (zs (nameI w))) := ha
  refine st_cut (fun σ H1 => σ = [some (.ref a), some (.int lo), some (.int hi), some (.bl (belowZ w lo)), none] ∧ Keeps H H1) (fun U hU => ?_) ?_
  · simp only [ev3, ev, ev2, ev4, sl, eq1, exl, exists_and_left, and_assoc, true_and, at0, at1, at2, Int.toNat_natCast, ev5, ha, nameI_len, e.i_MINUS]
    by_cases h : lo < 0
    · rw [if_pos (decide_eq_true h)]
      intro p H1 x1 h1
      refine ⟨by decide, fun p2 H2 x2 => ?_⟩
      refine ⟨(nameI w).take 1, ?_, [45], x2.g 0, hU _ _ ⟨?_, (x1.trans x2).keeps⟩⟩
      · rw [x2.k h1]
        exact congrArg (fun l => some (HO.tup l)) (cut_to (j := 1))
      · unfold belowZ
        rw [decide_eq_true h, Bool.true_and, decide_eq_decide.mpr take_inj]
    · rw [if_neg (by rw [decide_eq_false h]; decide)]
      refine hU _ _ ⟨?_, fun _ _ h => h⟩
      unfold belowZ
      rw [decide_eq_false h, Bool.false_and]
  rintro σ H1 ⟨rfl, k1⟩
  refine st_cut (fun σ H2 => σ = [some (.ref a), some (.int lo), some (.int hi), some (.bl (belowZ w lo)), some (optN (Vbbcab.natOf (if belowZ w lo = true then w.drop 1 else w)))] ∧ Keeps H H2) (fun U hU => ?_) ?_
  · simp only [ev3, ev, ev2, ev4, sl, eq1, exl, exists_and_left, and_assoc, true_and, at0, at1, at2, Int.toNat_natCast]
    split
    · rename_i hb
      refine ⟨_, k1 _ _ ha, fun p H2 x2 h2 => ?_⟩
      have h1 : 1 ≤ w.length := by
        cases w with
        | nil => unfold belowZ at hb; simp at hb
        | cons c r => exact Nat.le_add_left 1 _
      refine ⟨p, w.drop 1, rfl, h2.trans (congrArg (fun l => some (HO.tup l)) (name_drop (i := 1) h1)), by rw [List.length_drop]; omega, fun H3 k3 => hU _ _ ⟨by rw [if_pos hb], fun b o h => k3 _ _ (x2.k (k1 _ _ h))⟩⟩
    · rename_i hb
      exact ⟨a, w, rfl, k1 _ _ ha, hw, fun H3 k3 => hU _ _ ⟨by rw [if_neg hb], fun b o h => k3 _ _ (k1 _ _ h)⟩⟩
  rintro σ H2 ⟨rfl, k2⟩
  have q := q H2 k2
  clear k2 k1
  cases hb : belowZ w lo with
  | true =>
    rw [numZ_below hb] at q
    rw [if_pos rfl]
    cases hn : Vbbcab.natOf (w.drop 1) with
    | none =>
      rw [hn] at q
      refine st_seq ?_
      simp only [ev3, ev, ev2, ev4, sl, eq1, exl, exists_and_left, and_assoc, true_and, at0, at1, at2, Int.toNat_natCast, optN, isNon, Bool.false_eq_true, if_false, if_true]
      exact q
    | some n =>
      rw [hn] at q
      have q : Q (optV (if n = 0 then none else if lo ≤ 0 - (n : Int) ∧ 0 - (n : Int) ≤ hi then some (0 - (n : Int)) else none)) H2 := q
      refine st_seq ?_
      simp only [ev3, ev, ev2, ev4, sl, eq1, exl, exists_and_left, and_assoc, true_and, at0, at1, at2, Int.toNat_natCast, optN, isNon, Bool.false_eq_true, if_false, if_true]
      by_cases h0 : n = 0
      · rw [if_pos h0] at q
        rw [if_pos (decide_eq_true (by omega))]
        exact q
      · rw [if_neg h0] at q
        rw [if_neg (by rw [decide_eq_false (by omega)]; decide)]
        refine st_seq ?_
        simp only [ev3, ev, ev2, ev4, sl, eq1, exl, exists_and_left, and_assoc, true_and, at0, at1, at2, Int.toNat_natCast]
        rw [if_pos trivial]
        exact rng_ite (P := fun v => Q v H2) q
  | false =>
    rw [numZ_plain hb] at q
    rw [if_neg (by decide)]
    cases hn : Vbbcab.natOf w with
    | none =>
      rw [hn] at q
      refine st_seq ?_
      simp only [ev3, ev, ev2, ev4, sl, eq1, exl, exists_and_left, and_assoc, true_and, at0, at1, at2, Int.toNat_natCast, optN, isNon, Bool.false_eq_true, if_false, if_true]
      exact q
    | some n =>
      rw [hn] at q
      have q : Q (optV (if lo ≤ (n : Int) ∧ (n : Int) ≤ hi then some (n : Int) else none)) H2 := q
      refine st_seq ?_
      simp only [ev3, ev, ev2, ev4, sl, eq1, exl, exists_and_left, and_assoc, true_and, at0, at1, at2, Int.toNat_natCast, optN, isNon, Bool.false_eq_true, if_false, if_true]
      refine st_seq ?_
      simp only [ev3, ev, ev2, ev4, sl, eq1, exl, exists_and_left, and_assoc, true_and, at0, at1, at2, Int.toNat_natCast]
      rw [if_neg (by decide)]
      exact rng_ite (P := fun v => Q v H2) q
/-- a piece before pieces -/
def glue (cur : List Nat) : List (List Nat) → List (List Nat)
  | [] => [cur]
  | h :: m => (cur ++ h) :: m
theorem split_cons (c x : Nat) (r : List Nat) : Vbbcab.splitAt c (x :: r) = match Vbbcab.splitAt c r with
    | [] => [[x]]
    | l :: m => if x = c then [] :: (l :: m) else (x :: l) :: m := rfl
theorem split_ne (c : Nat) (l : List Nat) : ∃ h m, Vbbcab.splitAt c l = h :: m := by
  cases l with
  | nil => exact ⟨_, _, rfl⟩
  | cons x r =>
    rw [split_cons]
    split
    · exact ⟨_, _, rfl⟩
    · split <;> exact ⟨_, _, rfl⟩
theorem split_step {c x : Nat} {r cur : List Nat} : glue cur (Vbbcab.splitAt c (x :: r)) = if x = c then cur :: glue [] (Vbbcab.splitAt c r) else glue (cur ++ [x]) (Vbbcab.splitAt c r) := by
  obtain ⟨h, m, e⟩ := split_ne c r
  rw [split_cons, e]
  by_cases q : x = c
  · simp [q, glue]
  · simp [q, glue]
theorem glue_nil (c : Nat) (l : List Nat) : glue [] (Vbbcab.splitAt c l) = Vbbcab.splitAt c l := by
  obtain ⟨h, m, e⟩ := split_ne c l
  rw [e]
  rfl
theorem split_len (c : Nat) : ∀ l : List Nat, (Vbbcab.splitAt c l).length ≤ l.length + 1
  | [] => Nat.le_refl _
  | x :: r => by
    have ih := split_len c r
    unfold Vbbcab.splitAt
    split
    · exact Nat.le_add_left 1 _
    · rename_i e
      rw [e] at ih
      split
      · simp only [List.length_cons] at *
        omega
      · simp only [List.length_cons] at *
        omega
theorem name_cut {l : List Nat} {i j : Nat} (hj : j ≤ l.length) : cutV (zs (nameI l)) (some (i : Int)) (some (j : Int)) = zs (nameI ((l.drop i).take (j - i))) := by
  rw [cut_zs (by rw [nameI, List.length_map]; exact hj), nameI, nameI, List.map_take, List.map_drop]
theorem ref_snoc (as : List Addr) (t : Addr) : (as ++ [t]).map V.ref = as.map V.ref ++ [V.ref t] := List.map_append
def sp_cut_at (K : PySem.W.Frag) : Sp := fun vs H Q _ => ∃ (a : Addr) (c : Nat) (l : List Nat), vs = [.ref a, natV c] ∧ Sq H a (zs (nameI l)) ∧ l.length ≤ 4000 ∧
  ∀ H' t as, Ext H H' [(t, .lst (as.map V.ref))] → All2 (NameAt H') as (Vbbcab.splitAt c l) → Q (.ref t) H'
abbrev N_cut_at : List Str := ["octets", "sign", "found", "begin", "at"]
theorem sc_cut_at : FnScope N_cut_at ["octets", "sign"] (defScope s_cut_at) := ⟨rfl, rfl, rfl, by decide +kernel, rfl, by decide +kernel, by decide +kernel⟩
theorem st_cut_at (x0 x1 : V) : start N_cut_at [x0, x1] = [some x0, some x1, none, none, none] := rfl
theorem ok_cut_at (e : Env K mg) : Ok P w K mg base 1 (He.ga K "cut_at") ["octets", "sign"] (sp_cut_at K) := by
  refine ok_of e.fun_cut_at sc_cut_at (fun _ _ _ _ _ _ us hl => match us, hl with | [_, _], _ => rfl) (by rintro _ _ _ _ ⟨a, c, l, rfl, ha, hl, q⟩; rfl) ?_
  intro cdv A outer s0 H vs Q E hr hsp
  have sc := sc_cut_at
  have hu := hu_of hr
  refine ⟨_, (pss_cons (ps_set (i := 2) sc.nd rfl (Or.inl rfl) (pe_lstN pa_nil))
    (pss_cons (ps_set (i := 3) sc.nd rfl (Or.inl rfl) pe_int)
    (pss_cons (ps_for PassesOwn.never rfl (pi_range1 (by rfl) e.f_range (pa_cons (pe_callB len_seqN (by rfl) e.f_len bt_len (pa_cons (pv 0) pa_nil)) pa_nil)) (pg_name (i := 4) sc.nd rfl (Or.inl rfl))
    (pss_one (ps_if (pt_cmpR op_eqN (pe_ix ix_seqN (pv 0) (pv 4) (fun _ _ => rfl)) (pv 1) (nomark _))
    (pss_cons (ps_expr (pe_appN (pv 2) (pa_cons (pe_callTy tuple_seqN (by rfl) e.f_tuple bt_tuple (pa_cons (pe_slice sl_seqN (pv 0) (po_some (pv 3)) (po_some (pv 4))) pa_nil)) pa_nil)))
    (pss_one (ps_set (i := 3) sc.nd rfl (Or.inl rfl) (pe_op op_add (pv 4) pe_int))))
    pss_nil)))
    (pss_cons (ps_expr (pe_appN (pv 2) (pa_cons (pe_callTy tuple_seqN (by rfl) e.f_tuple bt_tuple (pa_cons (pe_slice sl_seqN (pv 0) (po_some (pv 3)) po_none) pa_nil)) pa_nil)))
    (pss_one (ps_ret (pv 2))))))), ?_⟩
  obtain ⟨a, c, l, rfl, ha, hl, q⟩ := hsp
  rw [st_cut_at]
  refine st_seq ?_
  simp only [ev3, ev, ev2, ev4, sl, eq1, exl, exists_and_left, and_assoc, true_and, at0, at1, at2, Int.toNat_natCast, List.length_nil]
  refine ⟨by decide, fun t H1 x1 => ?_⟩
  refine st_seq ?_
  simp only [ev3, ev, ev2, ev4, sl, eq1, exl, exists_and_left, and_assoc, true_and, at0, at1, at2, Int.toNat_natCast]
  have x0 : Ext H H1 [(t, .lst (([] : List Addr).map V.ref))] := x1
  refine st_seq (forR (n := l.length) (fun Q' q => by simp only [ev3, ev, ev2, ev4, sl, eq1, exl, exists_and_left, and_assoc, true_and, at0, at1, at2, Int.toNat_natCast, ev5]; exact ⟨_, ha.keep x1.keeps, by rw [nameI_len]; exact q⟩) (by omega)
    (fun i σ H' => ∃ (v4 : Option V) (bg : Nat) (as : List Addr) (ws : List (List Nat)), σ = [some (.ref a), some (natV c), some (.ref t), some (natV bg), v4] ∧ Ext H H' [(t, .lst (as.map V.ref))] ∧ All2 (NameAt H') as ws ∧ bg ≤ i ∧ ws.length ≤ i ∧
      Vbbcab.splitAt c l = ws ++ glue ((l.drop bg).take (i - bg)) (Vbbcab.splitAt c (l.drop i))) ⟨_, 0, [], [], rfl, x0, All2.nil, Nat.le_refl _, Nat.le_refl _, (glue_nil c l).symm⟩ ?_ ?_)
  · rintro i σ H2 hi ⟨v4, bg, as, ws, rfl, x, al, hb, hw, hs⟩
    have hd : l.drop i = l.getD i 0 :: l.drop (i + 1) := by
      rw [List.drop_eq_getElem_cons hi, List.getD_eq_getElem?_getD, List.getElem?_eq_getElem hi]
      rfl
    rw [hd, split_step] at hs
    have ha2 := ha.keep x.keeps
    simp only [ev3, ev, ev2, ev4, sl, eq1, exl, exists_and_left, and_assoc, true_and, at0, at1, at2, Int.toNat_natCast, ev5]
    refine ⟨_, ha2, _, nameI_at hi, _, rfl, ?_⟩
    by_cases hc : l.getD i 0 = c
    · rw [if_pos (decide_eq_true (by omega))]
      rw [if_pos hc] at hs
      refine st_seq ?_
      simp only [ev3, ev, ev2, ev4, sl, eq1, exl, exists_and_left, and_assoc, true_and, at0, at1, at2, Int.toNat_natCast, ev5, x.g 0]
      refine ⟨_, ha2, fun p H3 x3 h3 => ⟨_, h3, fun u H4 x4 h4 => ?_⟩⟩
      have y := (x.trans x3).trans x4
      have y0 : Ext H H4 [(t, .lst (as.map V.ref))] := y
      simp only [ev3, ev, ev2, ev4, sl, eq1, exl, exists_and_left, and_assoc, true_and, at0, at1, at2, Int.toNat_natCast, y0.g 0]
      refine ⟨size_lt (by rw [List.length_map, al.1]; omega), fun H5 pt => ?_⟩
      have y5 := y0.put 0 rfl pt
      rw [show ((i : Int) + 1) = ((i + 1 : Nat) : Int) by omega]
      have kt : ∀ {b : Addr} {w : List V}, H4 b = some (.tup w) → H5 b = some (.tup w) := fun {b w} hb => by
        have pt : H5 = upd H4 t (.lst (as.map V.ref ++ [.ref u])) := pt
        rw [pt, upd_ne (fun e => by rw [e, y0.g 0] at hb; cases hb)]
        exact hb
      refine ⟨_, i + 1, rfl, rfl, as ++ [u], ?_, ws ++ [(l.drop bg).take (i - bg)], ?_, Nat.le_refl _, by rw [List.length_append]; exact Nat.add_le_add hw (Nat.le_refl _), ?_⟩
      · rw [ref_snoc]
        exact y5
      · rw [name_cut (by omega)] at h4
        exact (al.imp fun b w hb => kt (x4.k (x3.k hb))).snoc (kt h4)
      · rw [hs, Nat.sub_self, List.take_zero, List.append_assoc]
        rfl
    · rw [if_neg (by rw [decide_eq_false (by omega)]; decide)]
      rw [if_neg hc] at hs
      refine ⟨_, bg, rfl, rfl, as, x, ws, al, by omega, by omega, ?_⟩
      rw [hs]
      congr 2
      rw [show i + 1 - bg = (i - bg) + 1 by omega, List.take_add_one, List.getElem?_drop, show bg + (i - bg) = i by omega, List.getElem?_eq_getElem hi, List.getD_eq_getElem?_getD, List.getElem?_eq_getElem hi]
      rfl
  · rintro σ H2 ⟨v4, bg, as, ws, rfl, x, al, hb, hw, hs⟩
    have ha2 := ha.keep x.keeps
    simp only [ev3, ev, ev2, ev4, sl, eq1, exl, exists_and_left, and_assoc, true_and, at0, at1, at2, Int.toNat_natCast]
    refine st_seq ?_
    simp only [ev3, ev, ev2, ev4, sl, eq1, exl, exists_and_left, and_assoc, true_and, at0, at1, at2, Int.toNat_natCast, ev5, x.g 0]
    refine ⟨_, ha2, fun p H3 x3 h3 => ⟨_, h3, fun u H4 x4 h4 => ?_⟩⟩
    have y0 : Ext H H4 [(t, .lst (as.map V.ref))] := (x.trans x3).trans x4
    simp only [ev3, ev, ev2, ev4, sl, eq1, exl, exists_and_left, and_assoc, true_and, at0, at1, at2, Int.toNat_natCast, y0.g 0]
    refine ⟨size_lt (by rw [List.length_map, al.1]; omega), fun H5 pt => ?_⟩
    have y5 := y0.put 0 rfl pt
    have kt : ∀ {b : Addr} {w : List V}, H4 b = some (.tup w) → H5 b = some (.tup w) := fun {b w} hb => by
      have pt : H5 = upd H4 t (.lst (as.map V.ref ++ [.ref u])) := pt
      rw [pt, upd_ne (fun e => by rw [e, y0.g 0] at hb; cases hb)]
      exact hb
    refine q H5 t (as ++ [u]) (by rw [ref_snoc]; exact y5) ?_
    rw [name_drop hb] at h4
    have e : Vbbcab.splitAt c l = ws ++ [l.drop bg] := by
      rw [hs, List.drop_length, List.take_of_length_le (by rw [List.length_drop]; omega)]
      show ws ++ [l.drop bg ++ []] = _
      rw [List.append_nil]
    rw [e]
    exact (al.imp fun b w hb => kt (x4.k (x3.k hb))).snoc (kt h4)
end
end WR
end PartWt1
section PartWPb
set_option Elab.async false
set_option linter.all false
set_option maxRecDepth 100000
set_option maxHeartbeats 2000000
namespace WR
open PySem PySem.Spec PyProof.Rows L2 WH
theorem putF_nil (f : Str) (v : V) : putF f v [] = [(f, v)] := rfl
theorem putF_cons (f : Str) (v : V) (g : Str) (x : V) (r : List (Str × V)) : putF f v ((g, x) :: r) = if g = f then (g, v) :: r else (g, x) :: putF f v r := rfl
theorem pne :
    ((("names" : Str) = "rooms") = False) ∧
    ((("names" : Str) = "caps") = False) ∧
    ((("names" : Str) = "starts") = False) ∧
    ((("names" : Str) = "outsides") = False) ∧
    ((("names" : Str) = "weather") = False) ∧
    ((("names" : Str) = "links") = False) ∧
    ((("names" : Str) = "heaters") = False) ∧
    ((("rooms" : Str) = "caps") = False) ∧
    ((("rooms" : Str) = "starts") = False) ∧
    ((("rooms" : Str) = "outsides") = False) ∧
    ((("rooms" : Str) = "weather") = False) ∧
    ((("rooms" : Str) = "links") = False) ∧
    ((("rooms" : Str) = "heaters") = False) ∧
    ((("caps" : Str) = "starts") = False) ∧
    ((("caps" : Str) = "outsides") = False) ∧
    ((("caps" : Str) = "weather") = False) ∧
    ((("caps" : Str) = "links") = False) ∧
    ((("caps" : Str) = "heaters") = False) ∧
    ((("starts" : Str) = "outsides") = False) ∧
    ((("starts" : Str) = "weather") = False) ∧
    ((("starts" : Str) = "links") = False) ∧
    ((("starts" : Str) = "heaters") = False) ∧
    ((("outsides" : Str) = "weather") = False) ∧
    ((("outsides" : Str) = "links") = False) ∧
    ((("outsides" : Str) = "heaters") = False) ∧
    ((("weather" : Str) = "links") = False) ∧
    ((("weather" : Str) = "heaters") = False) ∧
    ((("links" : Str) = "heaters") = False) :=
  ⟨eq_false (by decide +kernel), eq_false (by decide +kernel), eq_false (by decide +kernel), eq_false (by decide +kernel), eq_false (by decide +kernel), eq_false (by decide +kernel), eq_false (by decide +kernel), eq_false (by decide +kernel), eq_false (by decide +kernel), eq_false (by decide +kernel), eq_false (by decide +kernel), eq_false (by decide +kernel), eq_false (by decide +kernel), eq_false (by decide +kernel), eq_false (by decide +kernel), eq_false (by decide +kernel), eq_false (by decide +kernel), eq_false (by decide +kernel), eq_false (by decide +kernel), eq_false (by decide +kernel), eq_false (by decide +kernel), eq_false (by decide +kernel), eq_false (by decide +kernel), eq_false (by decide +kernel), eq_false (by decide +kernel), eq_false (by decide +kernel), eq_false (by decide +kernel), eq_false (by decide +kernel)⟩

theorem hne :
    ((("plan" : Str) = "cells") = False) ∧
    ((("plan" : Str) = "shift") = False) ∧
    ((("plan" : Str) = "weather") = False) ∧
    ((("plan" : Str) = "levels") = False) ∧
    ((("plan" : Str) = "clock") = False) ∧
    ((("plan" : Str) = "given") = False) ∧
    ((("plan" : Str) = "gone") = False) ∧
    ((("cells" : Str) = "shift") = False) ∧
    ((("cells" : Str) = "weather") = False) ∧
    ((("cells" : Str) = "levels") = False) ∧
    ((("cells" : Str) = "clock") = False) ∧
    ((("cells" : Str) = "given") = False) ∧
    ((("cells" : Str) = "gone") = False) ∧
    ((("shift" : Str) = "weather") = False) ∧
    ((("shift" : Str) = "levels") = False) ∧
    ((("shift" : Str) = "clock") = False) ∧
    ((("shift" : Str) = "given") = False) ∧
    ((("shift" : Str) = "gone") = False) ∧
    ((("weather" : Str) = "levels") = False) ∧
    ((("weather" : Str) = "clock") = False) ∧
    ((("weather" : Str) = "given") = False) ∧
    ((("weather" : Str) = "gone") = False) ∧
    ((("levels" : Str) = "clock") = False) ∧
    ((("levels" : Str) = "given") = False) ∧
    ((("levels" : Str) = "gone") = False) ∧
    ((("clock" : Str) = "given") = False) ∧
    ((("clock" : Str) = "gone") = False) ∧
    ((("given" : Str) = "gone") = False) :=
  ⟨eq_false (by decide +kernel), eq_false (by decide +kernel), eq_false (by decide +kernel), eq_false (by decide +kernel), eq_false (by decide +kernel), eq_false (by decide +kernel), eq_false (by decide +kernel), eq_false (by decide +kernel), eq_false (by decide +kernel), eq_false (by decide +kernel), eq_false (by decide +kernel), eq_false (by decide +kernel), eq_false (by decide +kernel), eq_false (by decide +kernel), eq_false (by decide +kernel), eq_false (by decide +kernel), eq_false (by decide +kernel), eq_false (by decide +kernel), eq_false (by decide +kernel), eq_false (by decide +kernel), eq_false (by decide +kernel), eq_false (by decide +kernel), eq_false (by decide +kernel), eq_false (by decide +kernel), eq_false (by decide +kernel), eq_false (by decide +kernel), eq_false (by decide +kernel), eq_false (by decide +kernel)⟩

theorem lk_none {k : Str} : ∀ {fs : List (Str × V)}, (∀ p ∈ fs, (k == p.1) = false) → List.lookup k fs = none
  | [], _ => rfl
  | (g, v) :: r, h => (lk_past (h _ (List.mem_cons_self ..))).trans (lk_none fun p hp => h p (List.mem_cons_of_mem _ hp))
theorem pF_no {k : Str} (r : PR) (h : ([("names" : Str), "rooms", "caps", "starts", "outsides", "weather", "links", "heaters"].all fun g => !(k == g)) = true := by decide +kernel) : (pF r).lookup k = none := by
  refine lk_none fun p hp => ?_
  have hp' : p.1 ∈ [("names" : Str), "rooms", "caps", "starts", "outsides", "weather", "links", "heaters"] := List.mem_map_of_mem (f := fun q : Str × V => q.1) hp
  have := List.all_eq_true.mp h _ hp'
  simpa using this
/-- an object more in the frame -/
theorem Ext.absorb {F H : Hp} {t : Addr} {o : HO} {l : List (Addr × HO)} (x : Ext F H ((t, o) :: l)) : Ext (upd F t o) H l := by
  have nd := x.nd
  rw [List.map_cons, List.nodup_cons] at nd
  refine ⟨fun b u h => ?_, fun q hq => x.has q (List.mem_cons_of_mem _ hq), fun q hq => ?_, nd.2⟩
  · by_cases e : b = t
    · subst e
      rw [upd_same] at h
      cases h
      exact x.g 0
    · rw [upd_ne e] at h
      exact x.k h
  · have ne : q.1 ≠ t := fun e => nd.1 (by show t ∈ l.map (·.1); rw [← e]; exact List.mem_map_of_mem hq)
    rw [upd_ne ne]
    exact x.fr q (List.mem_cons_of_mem _ hq)
theorem Keeps.upd {F : Hp} {t : Addr} {o : HO} (h : F t = none) : Keeps F (upd F t o) := fun a u e => by
  rw [upd_ne (ne_of_none e h)]
  exact e
theorem Keeps.trans {H H1 H2 : Hp} (a : Keeps H H1) (b : Keeps H1 H2) : Keeps H H2 := fun x o h => b _ _ (a _ _ h)
/-- a heap over the frame goes on -/
theorem Ext.on {F H H1 : Hp} {l : List (Addr × HO)} (x : Ext F H l) (k : Keeps H H1) : Ext F H1 l := ⟨fun b o e => k _ _ (x.k e), fun p hp => k _ _ (x.has p hp), x.fr, x.nd⟩
/-- all but what l tells is put in the frame -/
theorem Ext.all {F H : Hp} {l : List (Addr × HO)} (x : Ext F H l) : Ext (hide (l.map (·.1)) H) H l := ⟨fun b o e => (hide_some e).1, x.has, fun p hp => hide_in (List.mem_map_of_mem hp), x.nd⟩
theorem Ext.allK {F H : Hp} {l : List (Addr × HO)} (x : Ext F H l) : Keeps F (hide (l.map (·.1)) H) := fun a o e => by
  rw [hide_ne fun hm => ?_]
  · exact x.k e
  · obtain ⟨q, hq, e2⟩ := List.mem_map.mp hm
    have := x.fr q hq
    rw [e2, e] at this
    cases this
theorem Ext.allG {F H : Hp} {l : List (Addr × HO)} (x : Ext F H l) {a : Addr} {o : HO} (h : H a = some o) (n : ∀ q ∈ l, q.2 ≠ o) : hide (l.map (·.1)) H a = some o := by
  rw [hide_ne fun hm => ?_]
  · exact h
  · obtain ⟨q, hq, e2⟩ := List.mem_map.mp hm
    have := x.has q hq
    rw [e2, h] at this
    exact n q hq (Option.some.inj this).symm
/-- over a new list -/
theorem forLn {K : PySem.W.Frag} {tl : TE} {g : TG} {tb : TS} {D : Ends} {σ : L2.St} {H : Hp} {xs : List V} (hx : ∀ R : VK, (∀ a H1, Ext H H1 [(a, .lst xs)] → R (.ref a) H1) → tl σ H R) (Pv : Addr → Nat → L2.St → Hp → Prop) (h0 : ∀ a H1, Ext H H1 [(a, .lst xs)] → Pv a 0 σ H1)
    (hl : ∀ a i σ H, Pv a i σ H → H a = some (.lst xs)) (hs : ∀ a i x σ H, xs[i]? = some x → Pv a i σ H → g x σ H fun σ2 H2 => tb { D with nx := Pv a (i + 1), ct := Pv a (i + 1), bk := D.nx } σ2 H2) (hd : ∀ a σ H, Pv a xs.length σ H → D.nx σ H) :
    tFor (iList K tl) g tb D σ H := hx _ fun a H1 x => ⟨a, rfl, ⟨xs, SqL.of (x.g 0)⟩, for_list (Pv a) (h0 a H1 x) (fun i σ H _ p => SqL.of (hl a i σ H p)) (hs a) (hd a)⟩
/-! ### a plan that is being made -/
def bE (r : PR) (kvs : List (List Key × V)) (ra oa la ha : List Addr) (b : Vbbcab.Building) : List (Addr × HO) :=
  [(r.names, .dT kvs), (r.rooms, .lst (ra.map V.ref)), (r.caps, .lst (zs (b.rooms.map fun x => (x.cap : Int)))), (r.starts, .lst (zs (b.rooms.map fun x => x.first))),
   (r.outs, .lst (oa.map V.ref)), (r.weath, .lst (zs (b.outs.map fun x => x.first))), (r.links, .lst (la.map V.ref)), (r.heaters, .lst (ha.map V.ref))]
/-- a name's kind and place -/
def nameIx (b : Vbbcab.Building) (w : List Nat) : Option (Nat × Nat) :=
  match Vbbcab.placeOf b.rooms fun r => r.name == w with
  | some i => some (0, i)
  | none => match Vbbcab.placeOf b.outs fun r => r.name == w with
    | some i => some (1, i)
    | none => (Vbbcab.placeOf b.heaters fun r => r.name == w).map fun i => (2, i)
def NmOk (F : Hp) (kvs : List (List Key × V)) (o : Option (Nat × Nat)) (w : List Nat) : Prop :=
  match o with
  | none => valV kvs (keyI (nameI w)) = none
  | some (k, i) => ∃ t, valV kvs (keyI (nameI w)) = some (.ref t) ∧ F t = some (.tup [natV k, natV i])
structure PB (K : PySem.W.Frag) (F H : Hp) (p dx : Addr) (r : PR) (kvs : List (List Key × V)) (ra oa la ha : List Addr) (b : Vbbcab.Building) : Prop where
  x : Ext F H (bE r kvs ra oa la ha b)
  ob : F p = some (.ins (He.ga K "Plan") dx (pF r))
  rs : All2 (fun a (y : Vbbcab.Room) => NameAt F a y.name) ra b.rooms
  os : All2 (fun a (y : Vbbcab.Outside) => NameAt F a y.name) oa b.outs
  ls : All2 (LinkAt F) la b.links
  hs : All2 (HeatAt F) ha b.heaters
  nm : ∀ w, NmOk F kvs (nameIx b w) w
  kl : kvs.length ≤ b.rooms.length + b.outs.length + b.heaters.length
def PBx (K : PySem.W.Frag) (F H : Hp) (p dx : Addr) (r : PR) (b : Vbbcab.Building) : Prop := ∃ kvs ra oa la ha, PB K F H p dx r kvs ra oa la ha b
section
variable {K : PySem.W.Frag} {F F' H H1 : Hp} {p dx : Addr} {r : PR} {kvs : List (List Key × V)} {ra oa la ha : List Addr} {b : Vbbcab.Building}
theorem PB.plan (h : PB K F H p dx r kvs ra oa la ha b) : PlanAt K H p dx r ra oa la ha b :=
  ⟨h.x.k h.ob, h.x.g 1, h.rs.imp fun a b e => h.x.k e, h.x.g 2, h.x.g 3, h.x.g 4, h.os.imp fun a b e => h.x.k e, h.x.g 5, h.x.g 6, h.ls.imp fun a b => LinkAt.mono h.x.keeps, h.x.g 7, h.hs.imp fun a b => HeatAt.mono h.x.keeps⟩
theorem NmOk.mono {o : Option (Nat × Nat)} {w : List Nat} (h : NmOk F kvs o w) (k : Keeps F F') : NmOk F' kvs o w := by
  unfold NmOk at *
  split
  · exact h
  · obtain ⟨t, h1, h2⟩ := h
    exact ⟨t, h1, k _ _ h2⟩
theorem PB.grow (h : PB K F H p dx r kvs ra oa la ha b) (k : Keeps H H1) : PB K F H1 p dx r kvs ra oa la ha b := ⟨h.x.on k, h.ob, h.rs, h.os, h.ls, h.hs, h.nm, h.kl⟩
/-- over another frame -/
theorem PB.over (h : PB K F H p dx r kvs ra oa la ha b) (k : Keeps F F') (x : Ext F' H1 (bE r kvs ra oa la ha b)) : PB K F' H1 p dx r kvs ra oa la ha b :=
  ⟨x, k _ _ h.ob, h.rs.imp fun a b e => k _ _ e, h.os.imp fun a b e => k _ _ e, h.ls.imp fun a b => LinkAt.mono k, h.hs.imp fun a b => HeatAt.mono k, fun w => (h.nm w).mono k, h.kl⟩
/-- all but the plan's lists into the frame -/
theorem PB.all (h : PB K F H p dx r kvs ra oa la ha b) : PB K (hide ((bE r kvs ra oa la ha b).map (·.1)) H) H p dx r kvs ra oa la ha b := h.over h.x.allK h.x.all
theorem PB.allT (h : PB K F H p dx r kvs ra oa la ha b) {a : Addr} {xs : List V} (e : H a = some (.tup xs)) : hide ((bE r kvs ra oa la ha b).map (·.1)) H a = some (.tup xs) := h.x.allG e fun q hq => by
  unfold bE at hq
  simp only [List.mem_cons, List.not_mem_nil, or_false] at hq
  rcases hq with rfl | rfl | rfl | rfl | rfl | rfl | rfl | rfl <;> intro z <;> cases z
theorem keyI_inj {w v : List Nat} : keyI (nameI w) = keyI (nameI v) ↔ w = v := by
  constructor
  · intro h
    unfold keyI nameI at h
    rw [List.map_map, List.map_map] at h
    exact (List.map_inj_right fun a c e => by
      have e2 : (a : Int) = (c : Int) := Sum.inl.inj e
      omega).mp h
  · rintro rfl
    rfl
theorem valV_put' {kvs : List (List Key × V)} {w w' : List Nat} {v : V} : valV (putK kvs (keyI (nameI w)) v) (keyI (nameI w')) = if w' = w then some v else valV kvs (keyI (nameI w')) := by
  rw [valV_put]
  by_cases h : w' = w
  · rw [if_pos h, if_pos (keyI_inj.mpr h)]
  · rw [if_neg h, if_neg fun e => h (keyI_inj.mp e)]
theorem NmOk.put {b' : Vbbcab.Building} {w : List Nat} {t : Addr} {k i : Nat} (h : ∀ w, NmOk F kvs (nameIx b w) w) (kp : Keeps F F') (ht : F' t = some (.tup [natV k, natV i])) (h1 : nameIx b' w = some (k, i)) (h2 : ∀ v, v ≠ w → nameIx b' v = nameIx b v) :
    ∀ v, NmOk F' (putK kvs (keyI (nameI w)) (.ref t)) (nameIx b' v) v := fun v => by
  by_cases e : v = w
  · subst e
    rw [h1]
    exact ⟨t, by rw [valV_put', if_pos rfl], ht⟩
  · rw [h2 v e]
    have q := (h v).mono kp
    unfold NmOk at *
    rw [valV_put', if_neg e]
    exact q
theorem place_snoc {α : Type} {l : List α} {x : α} {f : α → Bool} : Vbbcab.placeOf (l ++ [x]) f = match Vbbcab.placeOf l f with
    | some i => some i
    | none => if f x = true then some l.length else none := by
  unfold Vbbcab.placeOf
  rw [List.findIdx_append]
  have hle := List.findIdx_le_length (xs := l) (p := f)
  by_cases h : l.findIdx f < l.length
  · simp only [if_pos h]
    rw [if_pos (by rw [List.length_append]; omega)]
  · simp only [if_neg h]
    by_cases q : f x = true
    · rw [if_pos q]
      have : List.findIdx f [x] = 0 := by simp [List.findIdx_cons, q]
      rw [this, if_pos (by rw [List.length_append]; simp)]
      simp
    · rw [if_neg q]
      have : List.findIdx f [x] = 1 := by simp [List.findIdx_cons, q]
      rw [this, if_neg (by rw [List.length_append, List.length_singleton]; omega)]
theorem place_lt {α : Type} {l : List α} {f : α → Bool} {i : Nat} (h : Vbbcab.placeOf l f = some i) : i < l.length := by
  unfold Vbbcab.placeOf at h
  by_cases q : l.findIdx f < l.length
  · simp only [if_pos q] at h
    have := Option.some.inj h
    omega
  · simp only [if_neg q] at h
    cases h
theorem name_none {w : List Nat} (h : nameIx b w = none) : Vbbcab.placeOf b.rooms (fun r => r.name == w) = none ∧ Vbbcab.placeOf b.outs (fun r => r.name == w) = none ∧ Vbbcab.placeOf b.heaters (fun r => r.name == w) = none := by
  unfold nameIx at h
  split at h
  · cases h
  · rename_i h1
    split at h
    · cases h
    · rename_i h2
      exact ⟨h1, h2, Option.map_eq_none_iff.mp h⟩
theorem name_ne {w v : List Nat} (h : v ≠ w) : ((w == v) = true) = False := eq_false fun e => h (eq_of_beq e).symm
theorem nameIx_room {w : List Nat} {c : Nat} {f : Int} (h : nameIx b w = none) : nameIx { b with rooms := b.rooms ++ [⟨w, c, f⟩] } w = some (0, b.rooms.length) ∧ ∀ v, v ≠ w → nameIx { b with rooms := b.rooms ++ [⟨w, c, f⟩] } v = nameIx b v := by
  obtain ⟨h1, h2, h3⟩ := name_none h
  constructor
  · unfold nameIx
    simp only [place_snoc, h1, beq_self_eq_true, if_true]
  · intro v hv
    unfold nameIx
    simp only [place_snoc, name_ne hv, if_false]
    cases Vbbcab.placeOf b.rooms (fun r => r.name == v) <;> rfl
theorem nameIx_out {w : List Nat} {f : Int} (h : nameIx b w = none) : nameIx { b with outs := b.outs ++ [⟨w, f⟩] } w = some (1, b.outs.length) ∧ ∀ v, v ≠ w → nameIx { b with outs := b.outs ++ [⟨w, f⟩] } v = nameIx b v := by
  obtain ⟨h1, h2, h3⟩ := name_none h
  constructor
  · unfold nameIx
    simp only [place_snoc, h1, h2, beq_self_eq_true, if_true]
  · intro v hv
    unfold nameIx
    simp only [place_snoc, name_ne hv, if_false]
    cases Vbbcab.placeOf b.rooms (fun r => r.name == v)
    · cases Vbbcab.placeOf b.outs (fun r => r.name == v) <;> rfl
    · rfl
theorem nameIx_heater {w : List Nat} {i m : Nat} (h : nameIx b w = none) : nameIx { b with heaters := b.heaters ++ [⟨w, i, m⟩] } w = some (2, b.heaters.length) ∧ ∀ v, v ≠ w → nameIx { b with heaters := b.heaters ++ [⟨w, i, m⟩] } v = nameIx b v := by
  obtain ⟨h1, h2, h3⟩ := name_none h
  constructor
  · unfold nameIx
    simp only [place_snoc, h1, h2, h3, beq_self_eq_true, if_true]
    rfl
  · intro v hv
    unfold nameIx
    simp only [place_snoc, name_ne hv, if_false]
    cases Vbbcab.placeOf b.rooms (fun r => r.name == v)
    · cases Vbbcab.placeOf b.outs (fun r => r.name == v)
      · cases Vbbcab.placeOf b.heaters (fun r => r.name == v) <;> rfl
      · rfl
    · rfl
theorem All2.mono {α β : Type} {R S : α → β → Prop} {as : List α} {bs : List β} (h : All2 R as bs) (q : ∀ a b, R a b → S a b) : All2 S as bs := h.imp q
end
end WR
end PartWPb
section PartWp
set_option Elab.async false
set_option linter.all false
set_option maxRecDepth 100000
set_option maxHeartbeats 4000000
namespace WR
open PySem PySem.Spec PyProof.Rows L2 WH
section
variable {P : Program} {w : World} {K : PySem.W.Frag} {mg : Str → Option Value} {base : Heap}
def sp_Plan_init (K : PySem.W.Frag) : Sp := fun vs H Q _ => ∃ (p dx : Addr), vs = [.ref p] ∧ H p = some (.ins (He.ga K "Plan") dx []) ∧
  ∀ H' r, Ext (hide [p] H) H' ((p, .ins (He.ga K "Plan") dx (pF r)) :: bE r [] [] [] [] [] {}) → Q .non H'
abbrev N_Plan_init : List Str := ["self"]
theorem sc_Plan_init : FnScope N_Plan_init ["self"] (defScope s_Plan_init) := ⟨rfl, rfl, rfl, by decide +kernel, rfl, by decide +kernel, by decide +kernel⟩
theorem st_Plan_init (x0 : V) : start N_Plan_init [x0] = [some x0] := rfl
theorem ok_Plan_init (e : Env K mg) : Ok P w K mg base 1 (He.ma K (He.ga K "Plan") "__init__") ["self"] (sp_Plan_init K) := by
  refine ok_of e.fun_Plan_init sc_Plan_init (fun _ _ _ _ _ _ us hl => match us, hl with | [_], _ => rfl) (by rintro _ _ _ _ ⟨p, dx, rfl, hp, q⟩; rfl) ?_
  intro cdv A outer s0 H vs Q E hr hsp
  have sc := sc_Plan_init
  have hu := hu_of hr
  refine ⟨_, (pss_cons (ps_atN e.c_Plan e.n_Plan_names (pv 0) pe_dnewN)
    (pss_cons (ps_atN e.c_Plan e.n_Plan_rooms (pv 0) (pe_lstN pa_nil))
    (pss_cons (ps_atN e.c_Plan e.n_Plan_caps (pv 0) (pe_lstN pa_nil))
    (pss_cons (ps_atN e.c_Plan e.n_Plan_starts (pv 0) (pe_lstN pa_nil))
    (pss_cons (ps_atN e.c_Plan e.n_Plan_outsides (pv 0) (pe_lstN pa_nil))
    (pss_cons (ps_atN e.c_Plan e.n_Plan_weather (pv 0) (pe_lstN pa_nil))
    (pss_cons (ps_atN e.c_Plan e.n_Plan_links (pv 0) (pe_lstN pa_nil))
    (pss_one (ps_atN e.c_Plan e.n_Plan_heaters (pv 0) (pe_lstN pa_nil)))))))))), ?_⟩
  obtain ⟨p, dx, rfl, hp, q⟩ := hsp
  rw [st_Plan_init]
  have y0 := Ext.hide1 hp
  refine st_seq ?_
  simp only [ev3, ev, ev2, ev4, sl, eq1, exl, exists_and_left, and_assoc, true_and, at0, at1, at2, Int.toNat_natCast, List.length_nil]
  intro p1 H1 x1
  have z1 := y0.trans x1
  refine ⟨_, _, z1.g 1, by simp, fun G1 pt => ?_⟩
  have y1 := z1.put 1 rfl pt
  simp only [putF_nil, putF_cons, pne, if_false, List.singleton_append, List.cons_append, List.nil_append, List.set_cons_succ, List.set_cons_zero] at y1
  refine st_seq ?_
  simp only [ev3, ev, ev2, ev4, sl, eq1, exl, exists_and_left, and_assoc, true_and, at0, at1, at2, Int.toNat_natCast, List.length_nil]
  refine ⟨by decide, fun p2 H2 x2 => ?_⟩
  have z2 := y1.trans x2
  refine ⟨_, _, z2.g 2, by simp, fun G2 pt => ?_⟩
  have y2 := z2.put 2 rfl pt
  simp only [putF_nil, putF_cons, pne, if_false, List.singleton_append, List.cons_append, List.nil_append, List.set_cons_succ, List.set_cons_zero] at y2
  refine st_seq ?_
  simp only [ev3, ev, ev2, ev4, sl, eq1, exl, exists_and_left, and_assoc, true_and, at0, at1, at2, Int.toNat_natCast, List.length_nil]
  refine ⟨by decide, fun p3 H3 x3 => ?_⟩
  have z3 := y2.trans x3
  refine ⟨_, _, z3.g 3, by simp, fun G3 pt => ?_⟩
  have y3 := z3.put 3 rfl pt
  simp only [putF_nil, putF_cons, pne, if_false, List.singleton_append, List.cons_append, List.nil_append, List.set_cons_succ, List.set_cons_zero] at y3
  refine st_seq ?_
  simp only [ev3, ev, ev2, ev4, sl, eq1, exl, exists_and_left, and_assoc, true_and, at0, at1, at2, Int.toNat_natCast, List.length_nil]
  refine ⟨by decide, fun p4 H4 x4 => ?_⟩
  have z4 := y3.trans x4
  refine ⟨_, _, z4.g 4, by simp, fun G4 pt => ?_⟩
  have y4 := z4.put 4 rfl pt
  simp only [putF_nil, putF_cons, pne, if_false, List.singleton_append, List.cons_append, List.nil_append, List.set_cons_succ, List.set_cons_zero] at y4
  refine st_seq ?_
  simp only [ev3, ev, ev2, ev4, sl, eq1, exl, exists_and_left, and_assoc, true_and, at0, at1, at2, Int.toNat_natCast, List.length_nil]
  refine ⟨by decide, fun p5 H5 x5 => ?_⟩
  have z5 := y4.trans x5
  refine ⟨_, _, z5.g 5, by simp, fun G5 pt => ?_⟩
  have y5 := z5.put 5 rfl pt
  simp only [putF_nil, putF_cons, pne, if_false, List.singleton_append, List.cons_append, List.nil_append, List.set_cons_succ, List.set_cons_zero] at y5
  refine st_seq ?_
  simp only [ev3, ev, ev2, ev4, sl, eq1, exl, exists_and_left, and_assoc, true_and, at0, at1, at2, Int.toNat_natCast, List.length_nil]
  refine ⟨by decide, fun p6 H6 x6 => ?_⟩
  have z6 := y5.trans x6
  refine ⟨_, _, z6.g 6, by simp, fun G6 pt => ?_⟩
  have y6 := z6.put 6 rfl pt
  simp only [putF_nil, putF_cons, pne, if_false, List.singleton_append, List.cons_append, List.nil_append, List.set_cons_succ, List.set_cons_zero] at y6
  refine st_seq ?_
  simp only [ev3, ev, ev2, ev4, sl, eq1, exl, exists_and_left, and_assoc, true_and, at0, at1, at2, Int.toNat_natCast, List.length_nil]
  refine ⟨by decide, fun p7 H7 x7 => ?_⟩
  have z7 := y6.trans x7
  refine ⟨_, _, z7.g 7, by simp, fun G7 pt => ?_⟩
  have y7 := z7.put 7 rfl pt
  simp only [putF_nil, putF_cons, pne, if_false, List.singleton_append, List.cons_append, List.nil_append, List.set_cons_succ, List.set_cons_zero] at y7
  refine ⟨by decide, fun p8 H8 x8 => ?_⟩
  have z8 := y7.trans x8
  refine ⟨_, _, z8.g 8, by simp, fun G8 pt => ?_⟩
  have y8 := z8.put 8 rfl pt
  simp only [putF_nil, putF_cons, pne, if_false, List.singleton_append, List.cons_append, List.nil_append, List.set_cons_succ, List.set_cons_zero] at y8
  exact q _ ⟨p1, p2, p3, p4, p5, p6, p7, p8⟩ (y8.pick [8, 7, 6, 5, 4, 3, 2, 1, 0] (by decide))
structure Few (b : Vbbcab.Building) : Prop where
  nr : b.rooms.length ≤ 100
  no : b.outs.length ≤ 100
  nl : b.links.length ≤ 100
  nh : b.heaters.length ≤ 100
theorem map_snoc' {α β : Type} (f : α → β) (l : List α) (x : α) : (l ++ [x]).map f = l.map f ++ [f x] := List.map_append
def sp_Plan_add_room (K : PySem.W.Frag) : Sp := fun vs H Q _ => ∃ (p na dx : Addr) (cap : Nat) (first : Int) (F : Hp) (r : PR) (w : List Nat) (b : Vbbcab.Building), vs = [.ref p, .ref na, natV cap, .int first] ∧ PBx K F H p dx r b ∧ NameAt F na w ∧
  nameIx b w = none ∧ Few b ∧ ∀ F' H', Keeps F F' → PBx K F' H' p dx r { b with rooms := b.rooms ++ [⟨w, cap, first⟩] } → Q .non H'
abbrev N_Plan_add_room : List Str := ["self", "name", "cap", "start"]
theorem sc_Plan_add_room : FnScope N_Plan_add_room ["self", "name", "cap", "start"] (defScope s_Plan_add_room) := ⟨rfl, rfl, rfl, by decide +kernel, rfl, by decide +kernel, by decide +kernel⟩
theorem st_Plan_add_room (x0 x1 x2 x3 : V) : start N_Plan_add_room [x0, x1, x2, x3] = [some x0, some x1, some x2, some x3] := rfl
theorem ok_Plan_add_room (e : Env K mg) : Ok P w K mg base 1 (He.ma K (He.ga K "Plan") "add_room") ["self", "name", "cap", "start"] (sp_Plan_add_room K) := by
  refine ok_of e.fun_Plan_add_room sc_Plan_add_room (fun _ _ _ _ _ _ us hl => match us, hl with | [_, _, _, _], _ => rfl) (by rintro _ _ _ _ ⟨p, na, dx, cap, first, F, r, w, b, rfl, ⟨kvs, ra, oa, la, ha, B⟩, hn, hw, L, q⟩; rfl) ?_
  intro cdv A outer s0 H vs Q E hr hsp
  have sc := sc_Plan_add_room
  have hu := hu_of hr
  refine ⟨_, (pss_cons (ps_dputN hu (pe_at e.c_Plan e.n_Plan_names (pv 0)) (pv 1) (pe_tupN (pa_cons pe_int (pa_cons (pe_callB len_listN (by rfl) e.f_len bt_len (pa_cons (pe_at e.c_Plan e.n_Plan_rooms (pv 0)) pa_nil)) pa_nil))))
    (pss_cons (ps_expr (pe_appN (pe_at e.c_Plan e.n_Plan_rooms (pv 0)) (pa_cons (pv 1) pa_nil)))
    (pss_cons (ps_expr (pe_appN (pe_at e.c_Plan e.n_Plan_caps (pv 0)) (pa_cons (pv 2) pa_nil)))
    (pss_one (ps_expr (pe_appN (pe_at e.c_Plan e.n_Plan_starts (pv 0)) (pa_cons (pv 3) pa_nil))))))), ?_⟩
  obtain ⟨p, na, dx, cap, first, F, r, w, b, rfl, ⟨kvs, ra, oa, la, ha, B⟩, hn, hw, L, q⟩ := hsp
  rw [st_Plan_add_room]
  have hn' : F na = some (.tup (zs (nameI w))) := hn
  have L1 := L.nr
  have L2 := L.no
  have L3 := L.nh
  have kl := B.kl
  refine st_seq ?_
  simp only [ev3, ev, ev2, ev4, sl, eq1, exl, exists_and_left, and_assoc, true_and, at0, at1, at2, Int.toNat_natCast, B.x.k B.ob, B.x.g 1, List.length_map, List.length_cons, List.length_nil]
  refine ⟨by decide, fun t H1 x1 => ?_⟩
  have y1 : Ext F H1 ((t, _) :: bE r kvs ra oa la ha b) := B.x.trans x1
  simp only [ev3, ev, ev2, ev4, sl, eq1, exl, exists_and_left, and_assoc, true_and, at0, at1, at2, Int.toNat_natCast, y1.k B.ob, y1.g 1, y1.k hn']
  refine ⟨_, rfl, size_lt (by omega), fun H2 pt => ?_⟩
  have y2 := y1.put 1 rfl pt
  refine st_seq ?_
  simp only [ev3, ev, ev2, ev4, sl, eq1, exl, exists_and_left, and_assoc, true_and, at0, at1, at2, Int.toNat_natCast, y2.k B.ob, y2.g 2]
  refine ⟨size_lt (by rw [List.length_map, B.rs.1]; omega), fun H3 pt3 => ?_⟩
  have y3 := y2.put 2 rfl pt3
  refine st_seq ?_
  simp only [ev3, ev, ev2, ev4, sl, eq1, exl, exists_and_left, and_assoc, true_and, at0, at1, at2, Int.toNat_natCast, y3.k B.ob, y3.g 3]
  refine ⟨size_lt (by rw [zs_len, List.length_map]; omega), fun H4 pt4 => ?_⟩
  have y4 := y3.put 3 rfl pt4
  simp only [ev3, ev, ev2, ev4, sl, eq1, exl, exists_and_left, and_assoc, true_and, at0, at1, at2, Int.toNat_natCast, y4.k B.ob, y4.g 4]
  refine ⟨size_lt (by rw [zs_len, List.length_map]; omega), fun H5 pt5 => ?_⟩
  have y5 := y4.put 4 rfl pt5
  have kf : Keeps F (upd F t (.tup [natV 0, natV b.rooms.length])) := Keeps.upd (y1.f 0)
  refine q (upd F t (.tup [natV 0, natV b.rooms.length])) H5 kf ⟨putK kvs (keyI (nameI w)) (.ref t), ra ++ [na], oa, la, ha, ?_⟩
  have z : Ext F H5 ((t, .tup [natV 0, natV b.rooms.length]) :: bE r (putK kvs (keyI (nameI w)) (.ref t)) (ra ++ [na]) oa la ha { b with rooms := b.rooms ++ [⟨w, cap, first⟩] }) := by
    unfold bE
    rw [ref_snoc, map_snoc', map_snoc', zs_snoc, zs_snoc]
    have y6 := y5
    rw [← B.rs.1]
    exact y6
  refine ⟨z.absorb, kf _ _ B.ob, (B.rs.imp fun a y h => kf _ _ h).snoc (kf _ _ hn'), B.os.imp fun a y h => kf _ _ h, B.ls.imp fun a y => LinkAt.mono kf, B.hs.imp fun a y => HeatAt.mono kf, ?_, ?_⟩
  · obtain ⟨i1, i2⟩ := nameIx_room (b := b) (c := cap) (f := first) hw
    exact NmOk.put B.nm kf upd_same i1 i2
  · have := length_putK kvs (keyI (nameI w)) (.ref t)
    show _ ≤ (b.rooms ++ [_]).length + b.outs.length + b.heaters.length
    rw [List.length_append, List.length_singleton]
    omega
def sp_Plan_add_outside (K : PySem.W.Frag) : Sp := fun vs H Q _ => ∃ (p na dx : Addr) (first : Int) (F : Hp) (r : PR) (w : List Nat) (b : Vbbcab.Building), vs = [.ref p, .ref na, .int first] ∧ PBx K F H p dx r b ∧ NameAt F na w ∧
  nameIx b w = none ∧ Few b ∧ ∀ F' H', Keeps F F' → PBx K F' H' p dx r { b with outs := b.outs ++ [⟨w, first⟩] } → Q .non H'
abbrev N_Plan_add_outside : List Str := ["self", "name", "start"]
theorem sc_Plan_add_outside : FnScope N_Plan_add_outside ["self", "name", "start"] (defScope s_Plan_add_outside) := ⟨rfl, rfl, rfl, by decide +kernel, rfl, by decide +kernel, by decide +kernel⟩
theorem st_Plan_add_outside (x0 x1 x2 : V) : start N_Plan_add_outside [x0, x1, x2] = [some x0, some x1, some x2] := rfl
theorem ok_Plan_add_outside (e : Env K mg) : Ok P w K mg base 1 (He.ma K (He.ga K "Plan") "add_outside") ["self", "name", "start"] (sp_Plan_add_outside K) := by
  refine ok_of e.fun_Plan_add_outside sc_Plan_add_outside (fun _ _ _ _ _ _ us hl => match us, hl with | [_, _, _], _ => rfl) (by rintro _ _ _ _ ⟨p, na, dx, first, F, r, w, b, rfl, ⟨kvs, ra, oa, la, ha, B⟩, hn, hw, L, q⟩; rfl) ?_
  intro cdv A outer s0 H vs Q E hr hsp
  have sc := sc_Plan_add_outside
  have hu := hu_of hr
  refine ⟨_, (pss_cons (ps_dputN hu (pe_at e.c_Plan e.n_Plan_names (pv 0)) (pv 1) (pe_tupN (pa_cons pe_int (pa_cons (pe_callB len_listN (by rfl) e.f_len bt_len (pa_cons (pe_at e.c_Plan e.n_Plan_outsides (pv 0)) pa_nil)) pa_nil))))
    (pss_cons (ps_expr (pe_appN (pe_at e.c_Plan e.n_Plan_outsides (pv 0)) (pa_cons (pv 1) pa_nil)))
    (pss_one (ps_expr (pe_appN (pe_at e.c_Plan e.n_Plan_weather (pv 0)) (pa_cons (pv 2) pa_nil)))))), ?_⟩
  obtain ⟨p, na, dx, first, F, r, w, b, rfl, ⟨kvs, ra, oa, la, ha, B⟩, hn, hw, L, q⟩ := hsp
  rw [st_Plan_add_outside]
  have hn' : F na = some (.tup (zs (nameI w))) := hn
  have L1 := L.nr
  have L2 := L.no
  have L3 := L.nh
  have kl := B.kl
  refine st_seq ?_
  simp only [ev3, ev, ev2, ev4, sl, eq1, exl, exists_and_left, and_assoc, true_and, at0, at1, at2, Int.toNat_natCast, B.x.k B.ob, B.x.g 4, List.length_map, List.length_cons, List.length_nil]
  refine ⟨by decide, fun t H1 x1 => ?_⟩
  have y1 : Ext F H1 ((t, _) :: bE r kvs ra oa la ha b) := B.x.trans x1
  simp only [ev3, ev, ev2, ev4, sl, eq1, exl, exists_and_left, and_assoc, true_and, at0, at1, at2, Int.toNat_natCast, y1.k B.ob, y1.g 1, y1.k hn']
  refine ⟨_, rfl, size_lt (by omega), fun H2 pt => ?_⟩
  have y2 := y1.put 1 rfl pt
  refine st_seq ?_
  simp only [ev3, ev, ev2, ev4, sl, eq1, exl, exists_and_left, and_assoc, true_and, at0, at1, at2, Int.toNat_natCast, y2.k B.ob, y2.g 5]
  refine ⟨size_lt (by rw [List.length_map, B.os.1]; omega), fun H3 pt3 => ?_⟩
  have y3 := y2.put 5 rfl pt3
  simp only [ev3, ev, ev2, ev4, sl, eq1, exl, exists_and_left, and_assoc, true_and, at0, at1, at2, Int.toNat_natCast, y3.k B.ob, y3.g 6]
  refine ⟨size_lt (by rw [zs_len, List.length_map]; omega), fun H5 pt5 => ?_⟩
  have y5 := y3.put 6 rfl pt5
  have kf : Keeps F (upd F t (.tup [natV 1, natV b.outs.length])) := Keeps.upd (y1.f 0)
  refine q (upd F t (.tup [natV 1, natV b.outs.length])) H5 kf ⟨putK kvs (keyI (nameI w)) (.ref t), ra, oa ++ [na], la, ha, ?_⟩
  have z : Ext F H5 ((t, .tup [natV 1, natV b.outs.length]) :: bE r (putK kvs (keyI (nameI w)) (.ref t)) ra (oa ++ [na]) la ha { b with outs := b.outs ++ [⟨w, first⟩] }) := by
    unfold bE
    rw [ref_snoc, map_snoc', zs_snoc]
    have y6 := y5
    rw [← B.os.1]
    exact y6
  refine ⟨z.absorb, kf _ _ B.ob, B.rs.imp fun a y h => kf _ _ h, (B.os.imp fun a y h => kf _ _ h).snoc (kf _ _ hn'), B.ls.imp fun a y => LinkAt.mono kf, B.hs.imp fun a y => HeatAt.mono kf, ?_, ?_⟩
  · obtain ⟨i1, i2⟩ := nameIx_out (b := b) (f := first) hw
    exact NmOk.put B.nm kf upd_same i1 i2
  · have := length_putK kvs (keyI (nameI w)) (.ref t)
    show _ ≤ b.rooms.length + (b.outs ++ [_]).length + b.heaters.length
    rw [List.length_append, List.length_singleton]
    omega
def sp_Plan_add_link (K : PySem.W.Frag) : Sp := fun vs H Q _ => ∃ (p ea eb dx : Addr) (g : Nat) (F : Hp) (r : PR) (n m : Nat) (b : Vbbcab.Building), vs = [.ref p, .ref ea, .ref eb, natV g] ∧ PBx K F H p dx r b ∧ EndAt F ea n ∧ EndAt F eb m ∧
  Few b ∧ ∀ F' H', Keeps F F' → PBx K F' H' p dx r { b with links := b.links ++ [⟨n, m, g⟩] } → Q .non H'
abbrev N_Plan_add_link : List Str := ["self", "one", "other", "conductance"]
theorem sc_Plan_add_link : FnScope N_Plan_add_link ["self", "one", "other", "conductance"] (defScope s_Plan_add_link) := ⟨rfl, rfl, rfl, by decide +kernel, rfl, by decide +kernel, by decide +kernel⟩
theorem st_Plan_add_link (x0 x1 x2 x3 : V) : start N_Plan_add_link [x0, x1, x2, x3] = [some x0, some x1, some x2, some x3] := rfl
theorem ok_Plan_add_link (e : Env K mg) : Ok P w K mg base 1 (He.ma K (He.ga K "Plan") "add_link") ["self", "one", "other", "conductance"] (sp_Plan_add_link K) := by
  refine ok_of e.fun_Plan_add_link sc_Plan_add_link (fun _ _ _ _ _ _ us hl => match us, hl with | [_, _, _, _], _ => rfl) (by rintro _ _ _ _ ⟨p, ea, eb, dx, g, F, r, n, m, b, rfl, ⟨kvs, ra, oa, la, ha, B⟩, hn, hm, L, q⟩; rfl) ?_
  intro cdv A outer s0 H vs Q E hr hsp
  have sc := sc_Plan_add_link
  have hu := hu_of hr
  refine ⟨_, (pss_one (ps_expr (pe_appN (pe_at e.c_Plan e.n_Plan_links (pv 0)) (pa_cons (pe_tupN (pa_cons (pv 1) (pa_cons (pv 2) (pa_cons (pv 3) pa_nil)))) pa_nil)))), ?_⟩
  obtain ⟨p, ea, eb, dx, g, F, r, n, m, b, rfl, ⟨kvs, ra, oa, la, ha, B⟩, hn, hm, L, q⟩ := hsp
  rw [st_Plan_add_link]
  have L1 := L.nl
  simp only [ev3, ev, ev2, ev4, sl, eq1, exl, exists_and_left, and_assoc, true_and, at0, at1, at2, Int.toNat_natCast, B.x.k B.ob, B.x.g 6, List.length_map, List.length_cons, List.length_nil]
  refine ⟨by decide, fun t H1 x1 => ?_⟩
  have y1 : Ext F H1 ((t, _) :: bE r kvs ra oa la ha b) := B.x.trans x1
  simp only [ev3, ev, ev2, ev4, sl, eq1, exl, exists_and_left, and_assoc, true_and, at0, at1, at2, Int.toNat_natCast, y1.g 7]
  refine ⟨size_lt (by rw [List.length_map, B.ls.1]; omega), fun H5 pt5 => ?_⟩
  have y5 := y1.put 7 rfl pt5
  have kf : Keeps F (upd F t (.tup [.ref ea, .ref eb, natV g])) := Keeps.upd (y1.f 0)
  refine q (upd F t (.tup [.ref ea, .ref eb, natV g])) H5 kf ⟨kvs, ra, oa, la ++ [t], ha, ?_⟩
  have z : Ext F H5 ((t, .tup [.ref ea, .ref eb, natV g]) :: bE r kvs ra oa (la ++ [t]) ha { b with links := b.links ++ [⟨n, m, g⟩] }) := by
    unfold bE
    rw [ref_snoc]
    exact y5
  exact ⟨z.absorb, kf _ _ B.ob, B.rs.imp fun a y h => kf _ _ h, B.os.imp fun a y h => kf _ _ h, (B.ls.imp fun a y => LinkAt.mono kf).snoc ⟨ea, eb, upd_same, kf _ _ hn, kf _ _ hm⟩, B.hs.imp fun a y => HeatAt.mono kf, fun w => (B.nm w).mono kf, B.kl⟩
def sp_Plan_add_heater (K : PySem.W.Frag) : Sp := fun vs H Q _ => ∃ (p na dx : Addr) (i m : Nat) (F : Hp) (r : PR) (w : List Nat) (b : Vbbcab.Building), vs = [.ref p, .ref na, natV i, natV m] ∧ PBx K F H p dx r b ∧ NameAt F na w ∧
  nameIx b w = none ∧ Few b ∧ ∀ F' H', Keeps F F' → PBx K F' H' p dx r { b with heaters := b.heaters ++ [⟨w, i, m⟩] } → Q .non H'
abbrev N_Plan_add_heater : List Str := ["self", "name", "room", "most"]
theorem sc_Plan_add_heater : FnScope N_Plan_add_heater ["self", "name", "room", "most"] (defScope s_Plan_add_heater) := ⟨rfl, rfl, rfl, by decide +kernel, rfl, by decide +kernel, by decide +kernel⟩
theorem st_Plan_add_heater (x0 x1 x2 x3 : V) : start N_Plan_add_heater [x0, x1, x2, x3] = [some x0, some x1, some x2, some x3] := rfl
theorem ok_Plan_add_heater (e : Env K mg) : Ok P w K mg base 1 (He.ma K (He.ga K "Plan") "add_heater") ["self", "name", "room", "most"] (sp_Plan_add_heater K) := by
  refine ok_of e.fun_Plan_add_heater sc_Plan_add_heater (fun _ _ _ _ _ _ us hl => match us, hl with | [_, _, _, _], _ => rfl) (by rintro _ _ _ _ ⟨p, na, dx, i, m, F, r, w, b, rfl, ⟨kvs, ra, oa, la, ha, B⟩, hn, hw, L, q⟩; rfl) ?_
  intro cdv A outer s0 H vs Q E hr hsp
  have sc := sc_Plan_add_heater
  have hu := hu_of hr
  refine ⟨_, (pss_cons (ps_dputN hu (pe_at e.c_Plan e.n_Plan_names (pv 0)) (pv 1) (pe_tupN (pa_cons pe_int (pa_cons (pe_callB len_listN (by rfl) e.f_len bt_len (pa_cons (pe_at e.c_Plan e.n_Plan_heaters (pv 0)) pa_nil)) pa_nil))))
    (pss_one (ps_expr (pe_appN (pe_at e.c_Plan e.n_Plan_heaters (pv 0)) (pa_cons (pe_tupN (pa_cons (pv 1) (pa_cons (pv 2) (pa_cons (pv 3) pa_nil)))) pa_nil))))), ?_⟩
  obtain ⟨p, na, dx, i, m, F, r, w, b, rfl, ⟨kvs, ra, oa, la, ha, B⟩, hn, hw, L, q⟩ := hsp
  rw [st_Plan_add_heater]
  have hn' : F na = some (.tup (zs (nameI w))) := hn
  have L1 := L.nr
  have L2 := L.no
  have L3 := L.nh
  have kl := B.kl
  refine st_seq ?_
  simp only [ev3, ev, ev2, ev4, sl, eq1, exl, exists_and_left, and_assoc, true_and, at0, at1, at2, Int.toNat_natCast, B.x.k B.ob, B.x.g 7, List.length_map, List.length_cons, List.length_nil]
  refine ⟨by decide, fun t H1 x1 => ?_⟩
  have y1 : Ext F H1 ((t, _) :: bE r kvs ra oa la ha b) := B.x.trans x1
  simp only [ev3, ev, ev2, ev4, sl, eq1, exl, exists_and_left, and_assoc, true_and, at0, at1, at2, Int.toNat_natCast, y1.k B.ob, y1.g 1, y1.k hn']
  refine ⟨_, rfl, size_lt (by omega), fun H2 pt => ?_⟩
  have y2 := y1.put 1 rfl pt
  simp only [ev3, ev, ev2, ev4, sl, eq1, exl, exists_and_left, and_assoc, true_and, at0, at1, at2, Int.toNat_natCast, y2.k B.ob, y2.g 8, List.length_cons, List.length_nil]
  refine ⟨by decide, fun t2 H3 x3 => ?_⟩
  have y3 := y2.trans x3
  simp only [ev3, ev, ev2, ev4, sl, eq1, exl, exists_and_left, and_assoc, true_and, at0, at1, at2, Int.toNat_natCast, y3.g 9]
  refine ⟨size_lt (by rw [List.length_map, B.hs.1]; omega), fun H5 pt5 => ?_⟩
  have y5 := y3.put 9 rfl pt5
  have y5' : Ext F H5 ((t2, .tup [.ref na, natV i, natV m]) :: (t, .tup [natV 2, natV b.heaters.length]) :: bE r (putK kvs (keyI (nameI w)) (.ref t)) ra oa la (ha ++ [t2]) { b with heaters := b.heaters ++ [⟨w, i, m⟩] }) := by
    unfold bE
    rw [ref_snoc, ← B.hs.1]
    exact y5
  have k1 : Keeps F (upd F t2 (.tup [.ref na, natV i, natV m])) := Keeps.upd (y5'.f 0)
  have z := y5'.absorb
  have k2 : Keeps (upd F t2 (.tup [.ref na, natV i, natV m])) (upd (upd F t2 (.tup [.ref na, natV i, natV m])) t (.tup [natV 2, natV b.heaters.length])) := Keeps.upd (z.f 0)
  have kf := k1.trans k2
  refine q _ H5 kf ⟨putK kvs (keyI (nameI w)) (.ref t), ra, oa, la, ha ++ [t2], ?_⟩
  refine ⟨z.absorb, kf _ _ B.ob, B.rs.imp fun a y h => kf _ _ h, B.os.imp fun a y h => kf _ _ h, B.ls.imp fun a y => LinkAt.mono kf, (B.hs.imp fun a y => HeatAt.mono kf).snoc ⟨na, k2 _ _ upd_same, kf _ _ hn'⟩, ?_, ?_⟩
  · obtain ⟨i1, i2⟩ := nameIx_heater (b := b) (i := i) (m := m) hw
    exact NmOk.put B.nm kf upd_same i1 i2
  · have := length_putK kvs (keyI (nameI w)) (.ref t)
    show _ ≤ b.rooms.length + b.outs.length + (b.heaters ++ [_]).length
    rw [List.length_append, List.length_singleton]
    omega
/-- the end that a name tells -/
def endOf (b : Vbbcab.Building) (w : List Nat) : Option Nat := match nameIx b w with
  | none => none
  | some (k, i) => if k = 2 then none else some (if k = 1 then Vbbcab.OUT + i else i)
theorem nameIx_kind {b : Vbbcab.Building} {w : List Nat} {k i : Nat} (h : nameIx b w = some (k, i)) : (k = 0 ∧ i < b.rooms.length) ∨ (k = 1 ∧ i < b.outs.length) ∨ (k = 2 ∧ i < b.heaters.length) := by
  unfold nameIx at h
  split at h
  · rename_i e
    cases h
    exact .inl ⟨rfl, place_lt e⟩
  · split at h
    · rename_i e
      cases h
      exact .inr (.inl ⟨rfl, place_lt e⟩)
    · obtain ⟨j, e1, e2⟩ := Option.map_eq_some_iff.mp h
      cases e2
      exact .inr (.inr ⟨rfl, place_lt e1⟩)
theorem endV_room {i : Nat} (h : i < 100) : endV i = [.bl false, natV i] := by
  have e : Vbbcab.isOut i = false := decide_eq_false (by unfold Vbbcab.OUT; omega)
  unfold endV idx
  rw [e]
  rfl
theorem endV_out (i : Nat) : endV (Vbbcab.OUT + i) = [.bl true, natV i] := by
  have e : Vbbcab.isOut (Vbbcab.OUT + i) = true := decide_eq_true (by omega)
  unfold endV idx
  rw [e, if_pos rfl, Nat.add_sub_cancel_left]
def sp_Plan_end_of (K : PySem.W.Frag) : Sp := fun vs H Q _ => ∃ (p na dx : Addr) (F : Hp) (r : PR) (w : List Nat) (b : Vbbcab.Building), vs = [.ref p, .ref na] ∧ PBx K F H p dx r b ∧ NameAt F na w ∧ b.rooms.length < 100 ∧
  (endOf b w = none → Q .non H) ∧ (∀ n, endOf b w = some n → ∀ H' e, Ext H H' [(e, .tup (endV n))] → Q (.ref e) H')
abbrev N_Plan_end_of : List Str := ["self", "name", "found"]
theorem sc_Plan_end_of : FnScope N_Plan_end_of ["self", "name"] (defScope s_Plan_end_of) := ⟨rfl, rfl, rfl, by decide +kernel, rfl, by decide +kernel, by decide +kernel⟩
theorem st_Plan_end_of (x0 x1 : V) : start N_Plan_end_of [x0, x1] = [some x0, some x1, none] := rfl
theorem ok_Plan_end_of (e : Env K mg) : Ok P w K mg base 1 (He.ma K (He.ga K "Plan") "end_of") ["self", "name"] (sp_Plan_end_of K) := by
  refine ok_of e.fun_Plan_end_of sc_Plan_end_of (fun _ _ _ _ _ _ us hl => match us, hl with | [_, _], _ => rfl) (by rintro _ _ _ _ ⟨p, na, dx, F, r, w, b, rfl, ⟨kvs, ra, oa, la, ha, B⟩, hn, L, q1, q2⟩; rfl) ?_
  intro cdv A outer s0 H vs Q E hr hsp
  have sc := sc_Plan_end_of
  have hu := hu_of hr
  refine ⟨_, (pss_cons (ps_set (i := 2) sc.nd rfl (Or.inl rfl) (pe_dget1N hu (pe_at e.c_Plan e.n_Plan_names (pv 0)) (pv 1) ⟨rfl, rfl, rfl, rfl⟩))
    (pss_cons (ps_if (PW.pt (pw_or (pt_cmpR op_isNN (pv 2) pe_non (nomark _)) (pw_or1 (pt_cmpR op_eqN (pe_ix ix_tupN (pv 2) pe_int (fun _ _ => rfl)) pe_int (nomark _)))))
    (pss_one (ps_ret pe_non))
    pss_nil)
    (pss_one (ps_ret (pe_tupN (pa_cons (pe_cmpR op_eqN (pe_ix ix_tupN (pv 2) pe_int (fun _ _ => rfl)) pe_int (nomark _)) (pa_cons (pe_ix ix_tupN (pv 2) pe_int (fun _ _ => rfl)) pa_nil))))))), ?_⟩
  obtain ⟨p, na, dx, F, r, w, b, rfl, ⟨kvs, ra, oa, la, ha, B⟩, hn, L, q1, q2⟩ := hsp
  rw [st_Plan_end_of]
  have hn' : F na = some (.tup (zs (nameI w))) := hn
  refine st_seq ?_
  simp only [ev3, ev, ev2, ev4, sl, eq1, exl, exists_and_left, and_assoc, true_and, at0, at1, at2, Int.toNat_natCast, B.x.k B.ob, B.x.g 0, B.x.k hn']
  refine ⟨_, rfl, ?_⟩
  have nm := B.nm w
  unfold endOf at q1 q2
  cases e : nameIx b w with
  | none =>
    rw [e] at nm q1
    have nm : valV kvs (keyI (nameI w)) = none := nm
    rw [nm]
    refine st_seq ?_
    simp only [ev3, ev, ev2, ev4, sl, eq1, exl, exists_and_left, and_assoc, true_and, at0, at1, at2, Int.toNat_natCast, Option.getD_none, isNon, if_true]
    exact q1 rfl
  | some x =>
    obtain ⟨k, i⟩ := x
    rw [e] at nm q1 q2
    obtain ⟨t, h1, h2⟩ := nm
    rw [h1]
    refine st_seq ?_
    have hk := nameIx_kind e
    simp only [ev3, ev, ev2, ev4, sl, eq1, exl, exists_and_left, and_assoc, true_and, at0, at1, at2, Int.toNat_natCast, Option.getD_some, isNon, Bool.false_eq_true, if_false, B.x.k h2, List.length_cons, List.length_nil]
    by_cases k2 : k = 2
    · rw [if_pos (decide_eq_true (by omega))]
      exact q1 (if_pos k2)
    · rw [if_neg (by rw [decide_eq_false (by omega)]; decide)]
      refine ⟨by decide, fun t2 H2 x2 => ?_⟩
      refine q2 _ (if_neg k2) H2 t2 ?_
      rcases hk with ⟨rfl, hi⟩ | ⟨rfl, hi⟩ | ⟨rfl, hi⟩
      · rw [if_neg (by decide), endV_room (by omega)]
        exact x2
      · rw [if_pos rfl, endV_out]
        exact x2
      · exact absurd rfl k2
def sp_Plan_are_linked (K : PySem.W.Frag) : Sp := fun vs H Q _ => ∃ (p ea eb : Addr) (n m : Nat) (b : Vbbcab.Building), vs = [.ref p, .ref ea, .ref eb] ∧ PlanA K H p b ∧ EndAt H ea n ∧ EndAt H eb m ∧ ∀ H', Keeps H H' → Q (.bl (Vbbcab.joins b n m)) H'
theorem joins_yes {b : Vbbcab.Building} {n m i : Nat} {l : Vbbcab.Link} (h : b.links[i]? = some l) (e : ((l.a == n && l.b == m) || (l.a == m && l.b == n)) = true) : Vbbcab.joins b n m = true := by
  unfold Vbbcab.joins
  exact List.any_eq_true.mpr ⟨l, List.mem_of_getElem? h, e⟩
abbrev N_Plan_are_linked : List Str := ["self", "one", "other", "first", "second", "conductance"]
theorem sc_Plan_are_linked : FnScope N_Plan_are_linked ["self", "one", "other"] (defScope s_Plan_are_linked) := ⟨rfl, rfl, rfl, by decide +kernel, rfl, by decide +kernel, by decide +kernel⟩
theorem st_Plan_are_linked (x0 x1 x2 : V) : start N_Plan_are_linked [x0, x1, x2] = [some x0, some x1, some x2, none, none, none] := rfl
theorem ok_Plan_are_linked (e : Env K mg) : Ok P w K mg base 1 (He.ma K (He.ga K "Plan") "are_linked") ["self", "one", "other"] (sp_Plan_are_linked K) := by
  refine ok_of e.fun_Plan_are_linked sc_Plan_are_linked (fun _ _ _ _ _ _ us hl => match us, hl with | [_, _, _], _ => rfl) (by rintro _ _ _ _ ⟨p, ea, eb, n, m, b, rfl, ⟨dx, pr, ra, oa, la, ha, A⟩, h1, h2, q⟩; rfl) ?_
  intro cdv A outer s0 H vs Q E hr hsp
  have sc := sc_Plan_are_linked
  have hu := hu_of hr
  refine ⟨_, (pss_cons (ps_for PassesOwn.never rfl (pi_list (pe_at e.c_Plan e.n_Plan_links (pv 0))) (pg_tupN (n := 3) rfl (pgs_cons (pg_name (i := 3) sc.nd rfl (Or.inl rfl)) (pgs_cons (pg_name (i := 4) sc.nd rfl (Or.inl rfl)) (pgs_cons (pg_name (i := 5) sc.nd rfl (Or.inl rfl)) pgs_nil))))
    (pss_one (ps_if (PW.pt (pw_or (pt_cmpR (op_eqPN hr.units) (pe_tupN (pa_cons (pv 3) (pa_cons (pv 4) pa_nil))) (pe_tupN (pa_cons (pv 1) (pa_cons (pv 2) pa_nil))) (nomark _)) (pw_or1 (pt_cmpR (op_eqPN hr.units) (pe_tupN (pa_cons (pv 4) (pa_cons (pv 3) pa_nil))) (pe_tupN (pa_cons (pv 1) (pa_cons (pv 2) pa_nil))) (nomark _)))))
    (pss_one (ps_ret pe_bl))
    pss_nil)))
    (pss_one (ps_ret pe_bl))), ?_⟩
  obtain ⟨p, ea, eb, n, m, b, rfl, ⟨dx, pr, ra, oa, la, ha, A⟩, h1, h2, q⟩ := hsp
  rw [st_Plan_are_linked]
  refine st_seq (forL (a := pr.links) (xs := la.map V.ref) (fun Q' q => by simp only [ev3, ev, ev2, ev4, sl, eq1, exl, exists_and_left, and_assoc, true_and, at0, at1, at2, Int.toNat_natCast, A.ob]; exact q) A.ll
    (fun i σ H' => ∃ v3 v4 v5, σ = [some (.ref p), some (.ref ea), some (.ref eb), v3, v4, v5] ∧ Keeps H H' ∧ ∀ l ∈ b.links.take i, ((l.a == n && l.b == m) || (l.a == m && l.b == n)) = false) ⟨_, _, _, rfl, fun _ _ h => h, by simp⟩ (fun i σ H' ⟨_, _, _, _, k, _⟩ => k _ _ A.ll) ?_ ?_)
  · rintro i x σ H' hx ⟨v3, v4, v5, rfl, k, hno⟩
    obtain ⟨a, ha', rfl⟩ := ref_at hx
    have hl : i < b.links.length := by
      rw [← A.ls.1]
      exact (List.getElem?_eq_some_iff.mp ha').1
    have hb : b.links[i]? = some b.links[i] := List.getElem?_eq_getElem hl
    have L := A.ls.2 i a _ ha' hb
    generalize b.links[i] = l at hb L
    obtain ⟨fa, fb, l1, l2, l3⟩ := L
    simp only [ev3, ev, ev2, ev4, sl, eq1, exl, exists_and_left, and_assoc, true_and, at0, at1, at2, Int.toNat_natCast, k _ _ l1, List.length_cons, List.length_nil]
    refine ⟨by decide, fun t1 H1 x1 => ⟨by decide, fun t2 H2 x2 => ?_⟩⟩
    have kk := k.trans (x1.trans x2).keeps
    refine ⟨t1, t2, fa, fb, ea, eb, l.a, l.b, n, m, rfl, rfl, x2.k (x1.g 0), x2.g 0, kk _ _ l2, kk _ _ l3, kk _ _ h1, kk _ _ h2, ?_⟩
    refine ⟨_, rfl, ?_⟩
    have dec : ((l.a == n && l.b == m) || (l.a == m && l.b == n)) = ((decide (l.a = n) && decide (l.b = m)) || (decide (l.b = n) && decide (l.a = m))) := by
      rw [Bool.and_comm (decide (l.b = n))]
      rfl
    have snoc : ((l.a == n && l.b == m) || (l.a == m && l.b == n)) = false → ∀ l ∈ b.links.take (i + 1), ((l.a == n && l.b == m) || (l.a == m && l.b == n)) = false := fun hf l' hl' => by
      rw [take_snoc hb] at hl'
      rcases List.mem_append.mp hl' with h | h
      · exact hno l' h
      · rw [List.mem_singleton.mp h]
        exact hf
    cases c1 : (decide (l.a = n) && decide (l.b = m)) with
    | true =>
      rw [if_pos rfl, if_pos trivial]
      rw [joins_yes hb (by rw [dec, c1, Bool.true_or])] at q
      exact q H2 kk
    | false =>
      rw [if_neg (by decide)]
      refine ⟨by decide, fun t3 H3 x3 => ⟨by decide, fun t4 H4 x4 => ?_⟩⟩
      have k4 := kk.trans (x3.trans x4).keeps
      refine ⟨t3, t4, fb, fa, ea, eb, l.b, l.a, n, m, rfl, rfl, x4.k (x3.g 0), x4.g 0, k4 _ _ l3, k4 _ _ l2, k4 _ _ h1, k4 _ _ h2, ?_⟩
      refine ⟨_, rfl, ?_⟩
      cases c2 : (decide (l.b = n) && decide (l.a = m)) with
      | true =>
        rw [if_pos rfl]
        rw [joins_yes hb (by rw [dec, c1, c2]; rfl)] at q
        exact q H4 k4
      | false =>
        rw [if_neg (by decide)]
        exact ⟨k4, snoc (by rw [dec, c1, c2]; rfl)⟩
  · rintro σ H' ⟨v3, v4, v5, rfl, k, hno⟩
    simp only [ev3, ev, ev2, ev4, sl, eq1, exl, exists_and_left, and_assoc, true_and, at0, at1, at2, Int.toNat_natCast]
    have e : Vbbcab.joins b n m = false := by
      rw [List.length_map, A.ls.1, List.take_length] at hno
      unfold Vbbcab.joins
      exact List.any_eq_false.mpr fun l hl => by rw [hno l hl]; decide
    rw [e] at q
    exact q H' k
/-- the sums of the links' conductances -/
def sumTo (s : List Int) (n : Nat) (g : Nat) : List Int := if Vbbcab.isOut n = true then s else bump s (idx n) (g : Int)
def sumStep (s : List Int) (l : Vbbcab.Link) : List Int := sumTo (sumTo s l.a l.g) l.b l.g
def sumsZ (b : Vbbcab.Building) : List Int := b.links.foldl sumStep (List.replicate b.rooms.length 0)
def looseAt (b : Vbbcab.Building) (i : Nat) : Bool := decide (64 * 2 ^ Vbbcab.capOf b i < (sumsZ b).getD i 0)
def looseZ (b : Vbbcab.Building) : Option Nat := (List.range b.rooms.length).find? (looseAt b)
theorem sumTo_len (s : List Int) (n g : Nat) : (sumTo s n g).length = s.length := by
  unfold sumTo
  split
  · rfl
  · exact bump_len ..
theorem sums_len : ∀ (ls : List Vbbcab.Link) (s : List Int), (ls.foldl sumStep s).length = s.length
  | [], s => rfl
  | l :: r, s => by
    rw [List.foldl_cons, sums_len r]
    unfold sumStep
    rw [sumTo_len, sumTo_len]
def RoomEnd (n : Nat) (b : Vbbcab.Building) : Prop := Vbbcab.isOut n = true ∨ idx n < b.rooms.length
def sp_Plan_loose_room (K : PySem.W.Frag) : Sp := fun vs H Q _ => ∃ (p : Addr) (b : Vbbcab.Building), vs = [.ref p] ∧ PlanA K H p b ∧ Few b ∧ (∀ l ∈ b.links, RoomEnd l.a b ∧ RoomEnd l.b b) ∧ (∀ x ∈ b.rooms, x.cap ≤ 100) ∧ ∀ H', Keeps H H' → Q (optN (looseZ b)) H'
abbrev N_Plan_loose_room : List Str := ["self", "sums", "one", "other", "conductance", "is_outside", "index"]
theorem sc_Plan_loose_room : FnScope N_Plan_loose_room ["self"] (defScope s_Plan_loose_room) := ⟨rfl, rfl, rfl, by decide +kernel, rfl, by decide +kernel, by decide +kernel⟩
theorem st_Plan_loose_room (x0 : V) : start N_Plan_loose_room [x0] = [some x0, none, none, none, none, none, none] := rfl
theorem ok_Plan_loose_room (e : Env K mg) : Ok P w K mg base 1 (He.ma K (He.ga K "Plan") "loose_room") ["self"] (sp_Plan_loose_room K) := by
  refine ok_of e.fun_Plan_loose_room sc_Plan_loose_room (fun _ _ _ _ _ _ us hl => match us, hl with | [_], _ => rfl) (by rintro _ _ _ _ ⟨p, b, rfl, ⟨dx, pr, ra, oa, la, ha, A⟩, L, ends, caps, q⟩; rfl) ?_
  intro cdv A outer s0 H vs Q E hr hsp
  have sc := sc_Plan_loose_room
  have hu := hu_of hr
  refine ⟨_, (pss_cons (ps_set (i := 1) sc.nd rfl (Or.inl rfl) (pe_op op_repN (pe_lstN (pa_cons pe_int pa_nil)) (pe_callB len_listN (by rfl) e.f_len bt_len (pa_cons (pe_at e.c_Plan e.n_Plan_rooms (pv 0)) pa_nil))))
    (pss_cons (ps_for PassesOwn.never rfl (pi_list (pe_at e.c_Plan e.n_Plan_links (pv 0))) (pg_tupN (n := 3) rfl (pgs_cons (pg_name (i := 2) sc.nd rfl (Or.inl rfl)) (pgs_cons (pg_name (i := 3) sc.nd rfl (Or.inl rfl)) (pgs_cons (pg_name (i := 4) sc.nd rfl (Or.inl rfl)) pgs_nil))))
    (pss_one (ps_for PassesOwn.never rfl (pi_list (pe_lstN (pa_cons (pv 2) (pa_cons (pv 3) pa_nil)))) (pg_tupN (n := 2) rfl (pgs_cons (pg_name (i := 5) sc.nd rfl (Or.inl rfl)) (pgs_cons (pg_name (i := 6) sc.nd rfl (Or.inl rfl)) pgs_nil)))
    (pss_one (ps_if (pt_not (pt_val (pv 5)))
    (pss_one (ps_augS (pv 1) (pv 6) get_listN (pv 4) ip_add set_listN))
    pss_nil)))))
    (pss_cons (ps_for PassesOwn.never rfl (pi_range1 (by rfl) e.f_range (pa_cons (pe_callB len_listN (by rfl) e.f_len bt_len (pa_cons (pv 1) pa_nil)) pa_nil)) (pg_name (i := 6) sc.nd rfl (Or.inl rfl))
    (pss_one (ps_if (pt_cmpR op_gt (pe_ix ix_listN (pv 1) (pv 6) (fun _ _ => rfl)) (pe_op op_shlW (pe_gint e.i_PARTS) (pe_ix ix_listN (pe_at e.c_Plan e.n_Plan_caps (pv 0)) (pv 6) (fun _ _ => rfl))) (nomark _))
    (pss_one (ps_ret (pv 6)))
    pss_nil)))
    (pss_one (ps_ret pe_non))))), ?_⟩
  obtain ⟨p, b, rfl, ⟨dx, pr, ra, oa, la, ha, A⟩, L, ends, caps, q⟩ := hsp
  rw [st_Plan_loose_room]
  have L1 := L.nr
  refine st_seq (rd_rep (k := b.rooms.length) (by omega) (fun H1 k Q' q => by simp only [ev3, ev, ev2, ev4, sl, eq1, exl, exists_and_left, and_assoc, true_and, at0, at1, at2, Int.toNat_natCast, k _ _ A.ob, k _ _ A.rl, List.length_map, A.rs.1]; exact q) fun s H1 x1 => ?_)
  simp only [ev3, ev, ev2, ev4, sl, eq1, exl, exists_and_left, and_assoc, true_and, at0, at1, at2, Int.toNat_natCast]
  rw [zs_rep] at x1
  refine st_seq (forL (a := pr.links) (xs := la.map V.ref) (fun Q' q => by simp only [ev3, ev, ev2, ev4, sl, eq1, exl, exists_and_left, and_assoc, true_and, at0, at1, at2, Int.toNat_natCast, x1.k A.ob]; exact q) (x1.k A.ll)
    (fun i σ H' => ∃ v2 v3 v4 v5 v6, σ = [some (.ref p), some (.ref s), v2, v3, v4, v5, v6] ∧ Ext H H' [(s, .lst (zs ((b.links.take i).foldl sumStep (List.replicate b.rooms.length 0))))]) ⟨_, _, _, _, _, rfl, x1⟩ (fun i σ H' ⟨_, _, _, _, _, _, x⟩ => x.k A.ll) ?_ ?_)
  · rintro i x σ H2 hx ⟨v2, v3, v4, v5, v6, rfl, y⟩
    obtain ⟨a, ha', rfl⟩ := ref_at hx
    have hl : i < b.links.length := by
      rw [← A.ls.1]
      exact (List.getElem?_eq_some_iff.mp ha').1
    have hb : b.links[i]? = some b.links[i] := List.getElem?_eq_getElem hl
    have L := A.ls.2 i a _ ha' hb
    have en := ends _ (List.getElem_mem hl)
    generalize b.links[i] = l at hb L en
    obtain ⟨fa, fb, l1, l2, l3⟩ := L
    have slen := sums_len (b.links.take i) (List.replicate b.rooms.length 0)
    have snoc : (b.links.take (i + 1)).foldl sumStep (List.replicate b.rooms.length 0) = sumTo (sumTo ((b.links.take i).foldl sumStep (List.replicate b.rooms.length 0)) l.a l.g) l.b l.g := by
      rw [take_snoc hb, List.foldl_append]
      rfl
    generalize (b.links.take i).foldl sumStep (List.replicate b.rooms.length 0) = S at *
    rw [List.length_replicate] at slen
    simp only [ev3, ev, ev2, ev4, sl, eq1, exl, exists_and_left, and_assoc, true_and, at0, at1, at2, Int.toNat_natCast, y.k l1, List.length_cons, List.length_nil]
    refine forLn (xs := [.ref fa, .ref fb]) (fun R h => by simp only [ev3, ev, ev2, ev4, sl, eq1, exl, exists_and_left, and_assoc, true_and, at0, at1, at2, Int.toNat_natCast, List.length_cons, List.length_nil]; exact ⟨by decide, h⟩)
      (fun t j σ H' => ∃ v5 v6, σ = [some (.ref p), some (.ref s), some (.ref fa), some (.ref fb), some (natV l.g), v5, v6] ∧ Ext H H' [(t, .lst [.ref fa, .ref fb]), (s, .lst (zs (([l.a, l.b].take j).foldl (fun s n => sumTo s n l.g) S)))]) (fun t H1 x1 => ⟨_, _, rfl, y.trans x1⟩) (fun t j σ H' ⟨_, _, _, z⟩ => z.g 0) ?_ ?_
    · rintro t j x σ H3 hj ⟨v5, v6, rfl, z⟩
      obtain ⟨f, n, rfl, he, hr, e2, e1⟩ : ∃ f n, x = V.ref f ∧ EndAt H f n ∧ RoomEnd n b ∧ ([l.a, l.b].take (j + 1)).foldl (fun s n => sumTo s n l.g) S = sumTo (([l.a, l.b].take j).foldl (fun s n => sumTo s n l.g) S) n l.g ∧ (([l.a, l.b].take j).foldl (fun s n => sumTo s n l.g) S).length = b.rooms.length := by
        match j with
        | 0 =>
          cases hj
          exact ⟨fa, l.a, rfl, l2, en.1, rfl, slen⟩
        | 1 =>
          cases hj
          exact ⟨fb, l.b, rfl, l3, en.2, rfl, (sumTo_len ..).trans slen⟩
        | k + 2 => cases hj
      generalize ([l.a, l.b].take j).foldl (fun s n => sumTo s n l.g) S = T at *
      rw [e2]
      have he : H f = some (.tup [.bl (Vbbcab.isOut n), natV (idx n)]) := he
      simp only [ev3, ev, ev2, ev4, sl, eq1, exl, exists_and_left, and_assoc, true_and, at0, at1, at2, Int.toNat_natCast, z.k he, List.length_cons, List.length_nil]
      unfold sumTo
      cases ho : Vbbcab.isOut n with
      | true =>
        simp only [Bool.not_true, Bool.false_eq_true, if_false, if_true]
        exact z
      | false =>
        have hi : idx n < T.length := by
          rcases hr with h | h
          · rw [ho] at h
            cases h
          · omega
        simp only [ev3, ev, ev2, ev4, sl, eq1, exl, exists_and_left, and_assoc, true_and, at0, at1, at2, Int.toNat_natCast, Bool.not_false, Bool.false_eq_true, if_false, if_true, z.g 1]
        refine ⟨_, at_ints hi, by omega, _, rfl, _, ixN_of (by rw [zs_len]; exact hi), fun H4 pt => ?_⟩
        have z2 := z.put 1 rfl pt
        rw [zs_set] at z2
        exact z2
    · rintro t σ H3 ⟨v5, v6, rfl, z⟩
      rw [snoc]
      exact ⟨_, _, _, _, _, rfl, z.pick [1] (by decide)⟩
  · rintro σ H2 ⟨v2, v3, v4, v5, v6, rfl, y⟩
    rw [List.length_map, A.ls.1, List.take_length] at y
    have y : Ext H H2 [(s, .lst (zs (sumsZ b)))] := y
    have sl2 : (sumsZ b).length = b.rooms.length := by
      unfold sumsZ
      rw [sums_len, List.length_replicate]
    simp only [ev3, ev, ev2, ev4, sl, eq1, exl, exists_and_left, and_assoc, true_and, at0, at1, at2, Int.toNat_natCast]
    refine st_seq (forR (n := b.rooms.length) (fun Q' q => by simp only [ev3, ev, ev2, ev4, sl, eq1, exl, exists_and_left, and_assoc, true_and, at0, at1, at2, Int.toNat_natCast, y.g 0, zs_len, sl2]; exact q) (by omega)
      (fun i σ H' => ∃ v2 v3 v4 v5 v6, σ = [some (.ref p), some (.ref s), v2, v3, v4, v5, v6] ∧ H' = H2 ∧ ∀ j < i, looseAt b j = false) ⟨_, _, _, _, _, rfl, rfl, fun j hj => by omega⟩ ?_ ?_)
    · rintro i σ H' hi ⟨v2, v3, v4, v5, v6, rfl, rfl, hno⟩
      have cp := cap_at (b := b) (i := i) hi
      have hcap : Vbbcab.capOf b i ≤ 100 := by
        unfold Vbbcab.capOf
        rw [List.getElem?_eq_getElem hi]
        exact caps _ (List.getElem_mem hi)
      simp only [ev3, ev, ev2, ev4, sl, eq1, exl, exists_and_left, and_assoc, true_and, at0, at1, at2, Int.toNat_natCast, y.g 0, at_ints (show i < (sumsZ b).length by omega), y.k A.ob, y.k A.caps, cp]
      refine ⟨shl_sm (n := 7) (Sm.of_le (m := 64) (by decide) (by decide)) (by omega), ?_⟩
      cases hc : looseAt b i with
      | true =>
        have hc' : decide ((64 : Int) * 2 ^ Vbbcab.capOf b i < (sumsZ b).getD i 0) = true := hc
        rw [if_pos hc']
        have e : looseZ b = some i := by
          unfold looseZ
          rw [List.find?_range_eq_some]
          exact ⟨hc, List.mem_range.mpr hi, fun j hj => by rw [hno j hj]; rfl⟩
        rw [e] at q
        exact q _ y.keeps
      | false =>
        have hc' : decide ((64 : Int) * 2 ^ Vbbcab.capOf b i < (sumsZ b).getD i 0) = false := hc
        rw [if_neg (by rw [hc']; decide)]
        intro j hj
        by_cases h : j = i
        · rw [h]
          exact hc
        · exact hno j (by omega)
    · rintro σ H' ⟨v2, v3, v4, v5, v6, rfl, rfl, hno⟩
      simp only [ev3, ev, ev2, ev4, sl, eq1, exl, exists_and_left, and_assoc, true_and, at0, at1, at2, Int.toNat_natCast]
      have e : looseZ b = none := by
        unfold looseZ
        rw [List.find?_eq_none]
        intro j hj
        rw [hno j (List.mem_range.mp hj)]
        decide
      rw [e] at q
      exact q _ y.keeps
/-- rooms that are reached -/
def reachedZ (bs : List Bool) (n : Nat) : Bool := Vbbcab.isOut n || bs.getD (idx n) false
def markZ (bs : List Bool) (n : Nat) : List Bool := if Vbbcab.isOut n = true then bs else bs.set (idx n) true
def reachZ (bs : List Bool) (l : Vbbcab.Link) : List Bool := if (reachedZ bs l.a || reachedZ bs l.b) = true then markZ (markZ bs l.a) l.b else bs
def sweepZ (b : Vbbcab.Building) (bs : List Bool) : List Bool := b.links.foldl reachZ bs
def sweepsZ (b : Vbbcab.Building) : Nat → List Bool
  | 0 => List.replicate b.rooms.length false
  | n + 1 => sweepZ b (sweepsZ b n)
def anchZ (b : Vbbcab.Building) : Bool := (sweepsZ b b.rooms.length).all id
abbrev bls (l : List Bool) : List V := l.map V.bl
theorem at_bls {l : List Bool} {i : Nat} (h : i < l.length) : atI (bls l) (i : Int) = some (.bl (l.getD i false)) := by
  refine atI_nat ?_
  rw [List.getElem?_map, List.getElem?_eq_getElem h, List.getD_eq_getElem?_getD, List.getElem?_eq_getElem h]
  rfl
theorem bls_len (l : List Bool) : (bls l).length = l.length := List.length_map _
theorem mark_len (bs : List Bool) (n : Nat) : (markZ bs n).length = bs.length := by
  unfold markZ
  split
  · rfl
  · exact List.length_set
theorem reach_len (bs : List Bool) (l : Vbbcab.Link) : (reachZ bs l).length = bs.length := by
  unfold reachZ
  split
  · rw [mark_len, mark_len]
  · rfl
theorem sweep_len' : ∀ (ls : List Vbbcab.Link) (bs : List Bool), (ls.foldl reachZ bs).length = bs.length
  | [], _ => rfl
  | l :: r, bs => by rw [List.foldl_cons, sweep_len' r, reach_len]
theorem sweeps_len (b : Vbbcab.Building) : ∀ n, (sweepsZ b n).length = b.rooms.length
  | 0 => List.length_replicate
  | n + 1 => by
    unfold sweepsZ sweepZ
    rw [sweep_len', sweeps_len b n]
def InB (n : Nat) (bs : List Bool) : Prop := Vbbcab.isOut n = true ∨ idx n < bs.length
def sp_reached_of (K : PySem.W.Frag) : Sp := fun vs H Q _ => ∃ (a ea : Addr) (n : Nat) (bs : List Bool), vs = [.ref a, .ref ea] ∧ H a = some (.lst (bls bs)) ∧ EndAt H ea n ∧ InB n bs ∧ Q (.bl (reachedZ bs n)) H
abbrev N_reached_of : List Str := ["reached", "end"]
theorem sc_reached_of : FnScope N_reached_of ["reached", "end"] (defScope s_reached_of) := ⟨rfl, rfl, rfl, by decide +kernel, rfl, by decide +kernel, by decide +kernel⟩
theorem st_reached_of (x0 x1 : V) : start N_reached_of [x0, x1] = [some x0, some x1] := rfl
theorem ok_reached_of (e : Env K mg) : Ok P w K mg base 1 (He.ga K "reached_of") ["reached", "end"] (sp_reached_of K) := by
  refine ok_of e.fun_reached_of sc_reached_of (fun _ _ _ _ _ _ us hl => match us, hl with | [_, _], _ => rfl) (by rintro _ _ _ _ ⟨a, ea, n, bs, rfl, ha, he, hi, q⟩; rfl) ?_
  intro cdv A outer s0 H vs Q E hr hsp
  have sc := sc_reached_of
  have hu := hu_of hr
  refine ⟨_, (pss_one (ps_ret (pe_or (pe_ix ix_tupN (pv 1) pe_int (fun _ _ => rfl)) (pe_one (pe_ix ix_listN (pv 0) (pe_ix ix_tupN (pv 1) pe_int (fun _ _ => rfl)) (fun _ _ => rfl)))))), ?_⟩
  obtain ⟨a, ea, n, bs, rfl, ha, he, hi, q⟩ := hsp
  rw [st_reached_of]
  have he : H ea = some (.tup [.bl (Vbbcab.isOut n), natV (idx n)]) := he
  simp only [ev3, ev, ev2, ev4, sl, eq1, exl, exists_and_left, and_assoc, true_and, at0, at1, at2, Int.toNat_natCast, he, ha]
  unfold reachedZ at q
  cases ho : Vbbcab.isOut n with
  | true =>
    rw [ho, Bool.true_or] at q
    exact q
  | false =>
    rw [ho, Bool.false_or] at q
    have hi : idx n < bs.length := by
      rcases hi with h | h
      · rw [ho] at h
        cases h
      · exact h
    rw [if_neg (by decide)]
    exact ⟨_, at_bls hi, q⟩
def sp_reach_both (K : PySem.W.Frag) : Sp := fun vs H Q _ => ∃ (a ea eb : Addr) (l : Vbbcab.Link) (bs : List Bool), vs = [.ref a, .ref ea, .ref eb] ∧ H a = some (.lst (bls bs)) ∧ EndAt H ea l.a ∧ EndAt H eb l.b ∧ InB l.a bs ∧ InB l.b bs ∧
  ∀ H', Ext (hide [a] H) H' [(a, .lst (bls (reachZ bs l)))] → Q .non H'
abbrev N_reach_both : List Str := ["reached", "one", "other", "is_outside", "index"]
theorem sc_reach_both : FnScope N_reach_both ["reached", "one", "other"] (defScope s_reach_both) := ⟨rfl, rfl, rfl, by decide +kernel, rfl, by decide +kernel, by decide +kernel⟩
theorem st_reach_both (x0 x1 x2 : V) : start N_reach_both [x0, x1, x2] = [some x0, some x1, some x2, none, none] := rfl
theorem ok_reach_both (e : Env K mg) : Ok P w K mg base 2 (He.ga K "reach_both") ["reached", "one", "other"] (sp_reach_both K) := by
  refine ok_of e.fun_reach_both sc_reach_both (fun _ _ _ _ _ _ us hl => match us, hl with | [_, _, _], _ => rfl) (by rintro _ _ _ _ ⟨a, fa, fb, l, bs, rfl, ha, l2, l3, i1, i2, q⟩; rfl) ?_
  intro cdv A outer s0 H vs Q E hr hsp
  have sc := sc_reach_both
  have hu := hu_of hr
  have G_reached_of := ok_reached_of (P := P) (w := w) (base := base) e
  refine ⟨_, (pss_one (ps_if (PW.pt (pw_or (pt_val (pe_callE G_reached_of (hr.mono (by decide)) e.g_reached_of (pa_cons (pv 0) (pa_cons (pv 1) pa_nil)))) (pw_or1 (pt_val (pe_callE G_reached_of (hr.mono (by decide)) e.g_reached_of (pa_cons (pv 0) (pa_cons (pv 2) pa_nil)))))))
    (pss_one (ps_for PassesOwn.never rfl (pi_list (pe_lstN (pa_cons (pv 1) (pa_cons (pv 2) pa_nil)))) (pg_tupN (n := 2) rfl (pgs_cons (pg_name (i := 3) sc.nd rfl (Or.inl rfl)) (pgs_cons (pg_name (i := 4) sc.nd rfl (Or.inl rfl)) pgs_nil)))
    (pss_one (ps_if (pt_not (pt_val (pv 3)))
    (pss_one (ps_asg pe_bl (pg_sub (pv 0) (pv 4) set_listN)))
    pss_nil))))
    pss_nil)), ?_⟩
  obtain ⟨a, fa, fb, l, bs, rfl, ha, l2, l3, i1, i2, q⟩ := hsp
  rw [st_reach_both]
  have y := Ext.hide1 ha
  have ne : ∀ {c : Addr} {x : List V}, H c = some (.tup x) → hide [a] H c = some (.tup x) := fun {c x} h => by
    rw [hide_ne fun e => ?_]
    · exact h
    · rw [List.mem_singleton.mp e, ha] at h
      cases h
  have m2 : EndAt (hide [a] H) fa l.a := ne l2
  have m3 : EndAt (hide [a] H) fb l.b := ne l3
  simp only [ev3, ev, ev2, ev4, sl, eq1, exl, exists_and_left, and_assoc, true_and, at0, at1, at2, Int.toNat_natCast]
  refine ⟨a, fa, l.a, bs, rfl, ha, l2, i1, ?_⟩
  have loop : (reachedZ bs l.a || reachedZ bs l.b) = true → tFor (iList K (nLst (tCons (tVar 1) (tCons (tVar 2) tNil)))) (nGTup 2 (gCons (gName 3) (gCons (gName 4) gNil))) (tIfS (tNot (tB (tVar 3))) (tAsg (tC (.bl true)) (gSub (tVar 0) (tVar 4) nSetL)) tNext)
      { nx := fun x H' => Q V.non H', rt := Q } [some (.ref a), some (.ref fa), some (.ref fb), none, none] H := by
    intro hr
    refine forLn (xs := [.ref fa, .ref fb]) (fun R h => by simp only [ev3, ev, ev2, ev4, sl, eq1, exl, exists_and_left, and_assoc, true_and, at0, at1, at2, Int.toNat_natCast, List.length_cons, List.length_nil]; exact ⟨by decide, h⟩)
      (fun t j σ H' => ∃ v5 v6, σ = [some (.ref a), some (.ref fa), some (.ref fb), v5, v6] ∧ Ext (hide [a] H) H' [(t, .lst [.ref fa, .ref fb]), (a, .lst (bls (([l.a, l.b].take j).foldl markZ bs)))]) (fun t H1 x1 => ⟨_, _, rfl, y.trans x1⟩) (fun t j σ H' ⟨_, _, _, z⟩ => z.g 0) ?_ ?_
    · rintro t j x σ H3 hj ⟨v5, v6, rfl, z⟩
      obtain ⟨f, n, rfl, he, hr, e2, e1⟩ : ∃ f n, x = V.ref f ∧ EndAt (hide [a] H) f n ∧ InB n bs ∧ ([l.a, l.b].take (j + 1)).foldl markZ bs = markZ (([l.a, l.b].take j).foldl markZ bs) n ∧ (([l.a, l.b].take j).foldl markZ bs).length = bs.length := by
        match j with
        | 0 =>
          cases hj
          exact ⟨fa, l.a, rfl, m2, i1, rfl, rfl⟩
        | 1 =>
          cases hj
          exact ⟨fb, l.b, rfl, m3, i2, rfl, mark_len ..⟩
        | k + 2 => cases hj
      generalize ([l.a, l.b].take j).foldl markZ bs = T at *
      rw [e2]
      have he : hide [a] H f = some (.tup [.bl (Vbbcab.isOut n), natV (idx n)]) := he
      simp only [ev3, ev, ev2, ev4, sl, eq1, exl, exists_and_left, and_assoc, true_and, at0, at1, at2, Int.toNat_natCast, z.k he, List.length_cons, List.length_nil]
      unfold markZ
      cases ho : Vbbcab.isOut n with
      | true =>
        simp only [Bool.not_true, Bool.false_eq_true, if_false, if_true]
        exact z
      | false =>
        have hi : idx n < T.length := by
          rcases hr with h | h
          · rw [ho] at h
            cases h
          · omega
        simp only [ev3, ev, ev2, ev4, sl, eq1, exl, exists_and_left, and_assoc, true_and, at0, at1, at2, Int.toNat_natCast, Bool.not_false, Bool.false_eq_true, if_false, if_true, z.g 1]
        refine ⟨_, ixN_of (by rw [bls_len]; exact hi), fun H4 pt => ?_⟩
        have z2 := z.put 1 rfl pt
        rw [show (bls T).set (idx n) (V.bl true) = bls (T.set (idx n) true) from List.map_set.symm] at z2
        exact z2
    · rintro t σ H3 ⟨v5, v6, rfl, z⟩
      refine q H3 ?_
      unfold reachZ
      rw [if_pos hr]
      exact z.pick [1] (by decide)
  cases h1 : reachedZ bs l.a with
  | true =>
    simp only [ev3, ev, ev2, ev4, sl, eq1, exl, exists_and_left, and_assoc, true_and, at0, at1, at2, Int.toNat_natCast, if_true]
    exact loop (by rw [h1]; rfl)
  | false =>
    simp only [ev3, ev, ev2, ev4, sl, eq1, exl, exists_and_left, and_assoc, true_and, at0, at1, at2, Int.toNat_natCast, Bool.false_eq_true, if_false]
    refine ⟨a, fb, l.b, bs, rfl, ha, l3, i2, ?_⟩
    cases h2 : reachedZ bs l.b with
    | true =>
      simp only [ev3, ev, ev2, ev4, sl, eq1, exl, exists_and_left, and_assoc, true_and, at0, at1, at2, Int.toNat_natCast, if_true]
      exact loop (by rw [h1, h2]; rfl)
    | false =>
      simp only [ev3, ev, ev2, ev4, sl, eq1, exl, exists_and_left, and_assoc, true_and, at0, at1, at2, Int.toNat_natCast, Bool.false_eq_true, if_false]
      refine q H ?_
      unfold reachZ
      rw [h1, h2]
      exact y
theorem bls_rep (n : Nat) (x : Bool) : List.replicate n (V.bl x) = bls (List.replicate n x) := List.map_replicate.symm
def sp_Plan_is_anchored (K : PySem.W.Frag) : Sp := fun vs H Q _ => ∃ (p : Addr) (b : Vbbcab.Building), vs = [.ref p] ∧ PlanA K H p b ∧ Few b ∧ (∀ l ∈ b.links, RoomEnd l.a b ∧ RoomEnd l.b b) ∧ ∀ H', Keeps H H' → Q (.bl (anchZ b)) H'
abbrev N_Plan_is_anchored : List Str := ["self", "reached", "turn", "one", "other", "conductance"]
theorem sc_Plan_is_anchored : FnScope N_Plan_is_anchored ["self"] (defScope s_Plan_is_anchored) := ⟨rfl, rfl, rfl, by decide +kernel, rfl, by decide +kernel, by decide +kernel⟩
theorem st_Plan_is_anchored (x0 : V) : start N_Plan_is_anchored [x0] = [some x0, none, none, none, none, none] := rfl
theorem ok_Plan_is_anchored (e : Env K mg) : Ok P w K mg base 3 (He.ma K (He.ga K "Plan") "is_anchored") ["self"] (sp_Plan_is_anchored K) := by
  refine ok_of e.fun_Plan_is_anchored sc_Plan_is_anchored (fun _ _ _ _ _ _ us hl => match us, hl with | [_], _ => rfl) (by rintro _ _ _ _ ⟨p, b, rfl, ⟨dx, pr, ra, oa, la, ha, A⟩, L, ends, q⟩; rfl) ?_
  intro cdv A outer s0 H vs Q E hr hsp
  have sc := sc_Plan_is_anchored
  have hu := hu_of hr
  have G_reach_both := ok_reach_both (P := P) (w := w) (base := base) e
  refine ⟨_, (pss_cons (ps_set (i := 1) sc.nd rfl (Or.inl rfl) (pe_op op_repN (pe_lstN (pa_cons pe_bl pa_nil)) (pe_callB len_listN (by rfl) e.f_len bt_len (pa_cons (pe_at e.c_Plan e.n_Plan_rooms (pv 0)) pa_nil))))
    (pss_cons (ps_for PassesOwn.never rfl (pi_range1 (by rfl) e.f_range (pa_cons (pe_callB len_listN (by rfl) e.f_len bt_len (pa_cons (pe_at e.c_Plan e.n_Plan_rooms (pv 0)) pa_nil)) pa_nil)) (pg_name (i := 2) sc.nd rfl (Or.inl rfl))
    (pss_one (ps_for PassesOwn.never rfl (pi_list (pe_at e.c_Plan e.n_Plan_links (pv 0))) (pg_tupN (n := 3) rfl (pgs_cons (pg_name (i := 3) sc.nd rfl (Or.inl rfl)) (pgs_cons (pg_name (i := 4) sc.nd rfl (Or.inl rfl)) (pgs_cons (pg_name (i := 5) sc.nd rfl (Or.inl rfl)) pgs_nil))))
    (pss_one (ps_expr (pe_callE G_reach_both (hr.mono (by decide)) e.g_reach_both (pa_cons (pv 1) (pa_cons (pv 3) (pa_cons (pv 4) pa_nil)))))))))
    (pss_one (ps_ret (pe_cmpR op_notInN pe_bl (pv 1) rfl))))), ?_⟩
  obtain ⟨p, b, rfl, ⟨dx, pr, ra, oa, la, ha, A⟩, L, ends, q⟩ := hsp
  rw [st_Plan_is_anchored]
  have L1 := L.nr
  refine st_seq (rd_rep (k := b.rooms.length) (by omega) (fun H1 k Q' q => by simp only [ev3, ev, ev2, ev4, sl, eq1, exl, exists_and_left, and_assoc, true_and, at0, at1, at2, Int.toNat_natCast, k _ _ A.ob, k _ _ A.rl, List.length_map, A.rs.1]; exact q) fun s H1 x1 => ?_)
  simp only [ev3, ev, ev2, ev4, sl, eq1, exl, exists_and_left, and_assoc, true_and, at0, at1, at2, Int.toNat_natCast]
  rw [bls_rep] at x1
  refine st_seq (forR (n := b.rooms.length) (fun Q' q => by simp only [ev3, ev, ev2, ev4, sl, eq1, exl, exists_and_left, and_assoc, true_and, at0, at1, at2, Int.toNat_natCast, x1.k A.ob, x1.k A.rl, List.length_map, A.rs.1]; exact q) (by omega)
    (fun i σ H' => ∃ v2 v3 v4 v5, σ = [some (.ref p), some (.ref s), v2, v3, v4, v5] ∧ Ext H H' [(s, .lst (bls (sweepsZ b i)))]) ⟨_, _, _, _, rfl, x1⟩ ?_ ?_)
  · rintro i σ H2 hi ⟨v2, v3, v4, v5, rfl, y⟩
    simp only [ev3, ev, ev2, ev4, sl, eq1, exl, exists_and_left, and_assoc, true_and, at0, at1, at2, Int.toNat_natCast]
    refine forL (a := pr.links) (xs := la.map V.ref) (fun Q' q => by simp only [ev3, ev, ev2, ev4, sl, eq1, exl, exists_and_left, and_assoc, true_and, at0, at1, at2, Int.toNat_natCast, y.k A.ob]; exact q) (y.k A.ll)
      (fun j σ H' => ∃ v2 v3 v4 v5, σ = [some (.ref p), some (.ref s), v2, v3, v4, v5] ∧ Ext H H' [(s, .lst (bls ((b.links.take j).foldl reachZ (sweepsZ b i))))]) ⟨_, _, _, _, rfl, y⟩ (fun i σ H' ⟨_, _, _, _, _, x⟩ => x.k A.ll) ?_ ?_
    · rintro j x σ H3 hx ⟨v2, v3, v4, v5, rfl, z⟩
      obtain ⟨a, ha', rfl⟩ := ref_at hx
      have hl : j < b.links.length := by
        rw [← A.ls.1]
        exact (List.getElem?_eq_some_iff.mp ha').1
      have hb : b.links[j]? = some b.links[j] := List.getElem?_eq_getElem hl
      have L := A.ls.2 j a _ ha' hb
      have en := ends _ (List.getElem_mem hl)
      generalize b.links[j] = l at hb L en
      obtain ⟨fa, fb, l1, l2, l3⟩ := L
      have slen := sweep_len' (b.links.take j) (sweepsZ b i)
      rw [sweeps_len] at slen
      have snoc : (b.links.take (j + 1)).foldl reachZ (sweepsZ b i) = reachZ ((b.links.take j).foldl reachZ (sweepsZ b i)) l := by
        rw [take_snoc hb, List.foldl_append]
        rfl
      rw [snoc]
      generalize (b.links.take j).foldl reachZ (sweepsZ b i) = S at *
      simp only [ev3, ev, ev2, ev4, sl, eq1, exl, exists_and_left, and_assoc, true_and, at0, at1, at2, Int.toNat_natCast, z.k l1, List.length_cons, List.length_nil]
      refine ⟨s, fa, fb, l, S, rfl, z.g 0, z.k l2, z.k l3, ?_, ?_, fun H4 m => ?_⟩
      · rcases en.1 with h | h
        · exact .inl h
        · exact .inr (by omega)
      · rcases en.2 with h | h
        · exact .inl h
        · exact .inr (by omega)
      · exact z.mod1 0 rfl m
    · rintro σ H3 ⟨v2, v3, v4, v5, rfl, z⟩
      rw [List.length_map, A.ls.1, List.take_length] at z
      exact ⟨_, _, _, _, rfl, z⟩
  · rintro σ H2 ⟨v2, v3, v4, v5, rfl, y⟩
    simp only [ev3, ev, ev2, ev4, sl, eq1, exl, exists_and_left, and_assoc, true_and, at0, at1, at2, Int.toNat_natCast]
    exact ⟨s, _, rfl, rfl, y.g 0, q H2 y.keeps⟩
end
end WR
end PartWp
section PartWt2
set_option Elab.async false
set_option linter.all false
set_option maxRecDepth 100000
set_option maxHeartbeats 4000000
namespace WR
open PySem PySem.Spec PyProof.Rows L2 WH
section
variable {P : Program} {w : World} {K : PySem.W.Frag} {mg : Str → Option Value} {base : Heap}
theorem PBx.grow {K : PySem.W.Frag} {F H H1 : Hp} {p dx : Addr} {r : PR} {b : Vbbcab.Building} (h : PBx K F H p dx r b) (k : Keeps H H1) : PBx K F H1 p dx r b := by
  obtain ⟨kvs, ra, oa, la, ha, h⟩ := h
  exact ⟨kvs, ra, oa, la, ha, h.grow k⟩
theorem PBx.k {K : PySem.W.Frag} {F H : Hp} {p dx : Addr} {r : PR} {b : Vbbcab.Building} (h : PBx K F H p dx r b) {a : Addr} {o : HO} (e : F a = some o) : H a = some o := by
  obtain ⟨kvs, ra, oa, la, ha, h⟩ := h
  exact h.x.k e
/-- a line's words -/
structure Words (F : Hp) (wl : Addr) (as : List Addr) (ws : List (List Nat)) : Prop where
  l : F wl = some (.lst (as.map V.ref))
  a : All2 (NameAt F) as ws
  s : ∀ w ∈ ws, w.length ≤ 4000
def wd (ws : List (List Nat)) (i : Nat) : List Nat := ws.getD i []
theorem Words.at_ {F : Hp} {wl : Addr} {as : List Addr} {ws : List (List Nat)} (W : Words F wl as ws) {i : Nat} (h : i < ws.length) : ∃ a, atI (as.map V.ref) (i : Int) = some (.ref a) ∧ NameAt F a (wd ws i) ∧ (wd ws i).length ≤ 4000 := by
  obtain ⟨a, e1, e2⟩ := W.a.get (List.getElem?_eq_getElem h)
  have e : wd ws i = ws[i] := by
    unfold wd
    rw [List.getD_eq_getElem?_getD, List.getElem?_eq_getElem h]
    rfl
  exact ⟨a, atI_nat (by rw [List.getElem?_map, e1]; rfl), by rw [e]; exact e2, by rw [e]; exact W.s _ (List.getElem_mem h)⟩
def FaultP (K : PySem.W.Frag) (f : Vbbcab.Building → List (List Nat) → Nat × Vbbcab.Building) : Sp := fun vs H Q _ => ∃ (p wl dx : Addr) (F : Hp) (r : PR) (as : List Addr) (ws : List (List Nat)) (b : Vbbcab.Building), vs = [.ref p, .ref wl] ∧ PBx K F H p dx r b ∧ Words F wl as ws ∧ WfB b ∧
  ∀ F' H', Keeps F F' → PBx K F' H' p dx r (f b ws).2 → Q (natV (f b ws).1) H'
theorem WfB.few {b : Vbbcab.Building} (B : WfB b) : Few b := ⟨by have := B.nr; omega, by have := B.no; omega, by have := B.nl; omega, by have := B.nh; omega⟩
def roomZ (b : Vbbcab.Building) (ws : List (List Nat)) : Nat × Vbbcab.Building :=
  if ¬ (ws.length = 4 ∧ Vbbcab.isName (wd ws 1) = true) then (1, b) else
  match numZ (wd ws 2) 0 10, numZ (wd ws 3) (-100000) 100000 with
  | some c, some f => if (nameIx b (wd ws 1)).isSome = true then (2, b) else if b.rooms.length = 12 then (4, b) else (0, { b with rooms := b.rooms ++ [⟨wd ws 1, c.toNat, f⟩] })
  | _, _ => (1, b)
def sp_room_fault (K : PySem.W.Frag) : Sp := FaultP K roomZ
def outsideZ (b : Vbbcab.Building) (ws : List (List Nat)) : Nat × Vbbcab.Building :=
  if ¬ (ws.length = 3 ∧ Vbbcab.isName (wd ws 1) = true) then (1, b) else
  match numZ (wd ws 2) (-100000) 100000 with
  | some f => if (nameIx b (wd ws 1)).isSome = true then (2, b) else if b.outs.length = 4 then (4, b) else (0, { b with outs := b.outs ++ [⟨wd ws 1, f⟩] })
  | none => (1, b)
def sp_outside_fault (K : PySem.W.Frag) : Sp := FaultP K outsideZ
def linkZ (b : Vbbcab.Building) (ws : List (List Nat)) : Nat × Vbbcab.Building :=
  if ¬ (ws.length = 4 ∧ Vbbcab.isName (wd ws 1) = true ∧ Vbbcab.isName (wd ws 2) = true) then (1, b) else
  match numZ (wd ws 3) 1 100000 with
  | some g => match endOf b (wd ws 1), endOf b (wd ws 2) with
    | some i, some j => if b.links.length = 40 then (4, b) else if (decide (i = j) || (Vbbcab.isOut i && Vbbcab.isOut j) || Vbbcab.joins b i j) = true then (5, b) else (0, { b with links := b.links ++ [⟨i, j, g.toNat⟩] })
    | _, _ => (3, b)
  | none => (1, b)
def sp_link_fault (K : PySem.W.Frag) : Sp := FaultP K linkZ
def heaterZ (b : Vbbcab.Building) (ws : List (List Nat)) : Nat × Vbbcab.Building :=
  if ¬ (ws.length = 4 ∧ Vbbcab.isName (wd ws 1) = true ∧ Vbbcab.isName (wd ws 2) = true) then (1, b) else
  match numZ (wd ws 3) 1 1000000 with
  | some m => if (nameIx b (wd ws 1)).isSome = true then (2, b) else match nameIx b (wd ws 2) with
    | some (k, i) => if k = 0 then (if b.heaters.length = 8 then (4, b) else (0, { b with heaters := b.heaters ++ [⟨wd ws 1, i, m.toNat⟩] })) else (3, b)
    | none => (3, b)
  | none => (1, b)
def sp_heater_fault (K : PySem.W.Frag) : Sp := FaultP K heaterZ
/-- None or an end -/
def EV (H : Hp) (o : Option Nat) (v : V) : Prop := match o with
  | none => v = .non
  | some n => ∃ e, v = .ref e ∧ EndAt H e n
theorem EV.mono {H H' : Hp} {o : Option Nat} {v : V} (h : EV H o v) (k : Keeps H H') : EV H' o v := by
  unfold EV at *
  split
  · exact h
  · obtain ⟨e, h1, h2⟩ := h
    exact ⟨e, h1, k _ _ h2⟩
theorem endOf_ev {K : PySem.W.Frag} {H F : Hp} {Q : VK} {p na dx : Addr} {r : PR} {w : List Nat} {b : Vbbcab.Building} (B : PBx K F H p dx r b) (hn : NameAt F na w) (h : b.rooms.length < 100) (q : ∀ v H', Keeps H H' → EV H' (endOf b w) v → Q v H') : sp_Plan_end_of K [.ref p, .ref na] H Q E0 := by
  refine ⟨p, na, dx, F, r, w, b, rfl, B, hn, h, fun e => q _ H (fun _ _ h => h) (by rw [e]; rfl), fun n e H' t x => q _ H' x.keeps ?_⟩
  rw [e]
  exact ⟨t, rfl, x.g 0⟩
theorem numZ_in {w : List Nat} {lo hi n : Int} (h : numZ w lo hi = some n) : lo ≤ n ∧ n ≤ hi := by
  unfold numZ at h
  split at h
  · cases h
  · split at h
    · cases h
      assumption
    · cases h
theorem nm_some {K : PySem.W.Frag} {F H : Hp} {p dx : Addr} {r : PR} {kvs : List (List Key × V)} {ra oa la ha : List Addr} {b : Vbbcab.Building} (B : PB K F H p dx r kvs ra oa la ha b) (w : List Nat) : (valV kvs (keyI (nameI w))).isSome = (nameIx b w).isSome := by
  have := B.nm w
  unfold NmOk at this
  cases e : nameIx b w with
  | none =>
    rw [e] at this
    rw [show valV kvs (keyI (nameI w)) = none from this]
    rfl
  | some x =>
    obtain ⟨k, i⟩ := x
    rw [e] at this
    obtain ⟨t, h, _⟩ := this
    rw [h]
    rfl
abbrev N_room_fault : List Str := ["plan", "words", "cap", "start"]
theorem sc_room_fault : FnScope N_room_fault ["plan", "words"] (defScope s_room_fault) := ⟨rfl, rfl, rfl, by decide +kernel, rfl, by decide +kernel, by decide +kernel⟩
theorem st_room_fault (x0 x1 : V) : start N_room_fault [x0, x1] = [some x0, some x1, none, none] := rfl
theorem ok_room_fault (e : Env K mg) : Ok P w K mg base 4 (He.ga K "room_fault") ["plan", "words"] (sp_room_fault K) := by
  refine ok_of e.fun_room_fault sc_room_fault (fun _ _ _ _ _ _ us hl => match us, hl with | [_, _], _ => rfl) (by rintro _ _ _ _ ⟨p, wl, dx, F, r, as, ws, b, rfl, B, W, wf, q⟩; rfl) ?_
  intro cdv A outer s0 H vs Q E hr hsp
  have sc := sc_room_fault
  have hu := hu_of hr
  have G_is_name := ok_is_name (P := P) (w := w) (base := base) e
  have G_number_of := ok_number_of (P := P) (w := w) (base := base) e
  have G_Plan_add_room := ok_Plan_add_room (P := P) (w := w) (base := base) e
  refine ⟨_, (pss_cons (ps_if (PW.pt (pw_or (pt_cmpR op_neN (pe_callB len_listN (by rfl) e.f_len bt_len (pa_cons (pv 1) pa_nil)) pe_int (nomark _)) (pw_or1 (pt_not (pt_val (pe_callE G_is_name (hr.mono (by decide)) e.g_is_name (pa_cons (pe_ix ix_listN (pv 1) pe_int (fun _ _ => rfl)) pa_nil)))))))
    (pss_one (ps_ret (pe_gint e.i_FORM)))
    pss_nil)
    (pss_cons (ps_par (i := 2) (j := 3) (by rfl) sc.nd rfl rfl (by decide) rfl rfl (pa_cons (pe_callE G_number_of (hr.mono (by decide)) e.g_number_of (pa_cons (pe_ix ix_listN (pv 1) pe_int (fun _ _ => rfl)) (pa_cons pe_int (pa_cons (pe_gint e.i_MOST_CAP) pa_nil)))) (pa_cons (pe_callE G_number_of (hr.mono (by decide)) e.g_number_of (pa_cons (pe_ix ix_listN (pv 1) pe_int (fun _ _ => rfl)) (pa_cons (pe_gint e.i_LEAST_WARMTH) (pa_cons (pe_gint e.i_MOST_WARMTH) pa_nil)))) pa_nil)) (by rfl))
    (pss_cons (ps_if (PW.pt (pw_or (pt_cmpR op_isNN (pv 2) pe_non (nomark _)) (pw_or1 (pt_cmpR op_isNN (pv 3) pe_non (nomark _)))))
    (pss_one (ps_ret (pe_gint e.i_FORM)))
    pss_nil)
    (pss_cons (ps_if (pt_cmp (pc_dinN hu (pe_ix ix_listN (pv 1) pe_int (fun _ _ => rfl)) (pe_at e.c_Plan e.n_Plan_names (pv 0))))
    (pss_one (ps_ret (pe_gint e.i_THERE)))
    pss_nil)
    (pss_cons (ps_if (pt_cmpR op_eqN (pe_callB len_listN (by rfl) e.f_len bt_len (pa_cons (pe_at e.c_Plan e.n_Plan_rooms (pv 0)) pa_nil)) (pe_gint e.i_MOST_ROOMS) (nomark _))
    (pss_one (ps_ret (pe_gint e.i_MANY)))
    pss_nil)
    (pss_cons (ps_expr (pe_methE (pv 0) e.c_Plan e.m_Plan_add_room G_Plan_add_room (hr.mono (by decide)) (pa_cons (pe_ix ix_listN (pv 1) pe_int (fun _ _ => rfl)) (pa_cons (pv 2) (pa_cons (pv 3) pa_nil)))))
    (pss_one (ps_ret pe_int)))))))), ?_⟩
  obtain ⟨p, wl, dx, F, r, as, ws, b, rfl, B, W, wf, q⟩ := hsp
  rw [st_room_fault]
  have out : ∀ n b', roomZ b ws = (n, b') → ∀ F' H1, Keeps F F' → PBx K F' H1 p dx r b' → Q (natV n) H1 := fun n b' e F' H1 kf B' => by
    have z := q F' H1 kf
    rw [e] at z
    exact z B'
  have same : ∀ n, roomZ b ws = (n, b) → ∀ H1, Keeps H H1 → Q (natV n) H1 := fun n e H1 k => out n b e F H1 (fun _ _ h => h) (B.grow k)
  refine st_cut (fun σ H1 => σ = [some (.ref p), some (.ref wl), none, none] ∧ Keeps H H1 ∧ (ws.length = 4 ∧ Vbbcab.isName (wd ws 1) = true)) (fun U hU => ?_) ?_
  · simp only [ev3, ev, ev2, ev4, sl, eq1, exl, exists_and_left, and_assoc, true_and, at0, at1, at2, Int.toNat_natCast, B.k W.l, List.length_map, W.a.1]
    by_cases h4 : ws.length = 4
    · rw [if_neg (by rw [decide_eq_true (by omega)]; decide)]
      obtain ⟨a, e1, e2, e3⟩ := W.at_ (i := 1) (by omega)
      refine ⟨_, e1, a, _, rfl, B.k e2, e3, fun H1 k1 => ⟨_, rfl, ?_⟩⟩
      cases hn : Vbbcab.isName (wd ws 1) with
      | true => exact hU _ _ ⟨rfl, k1, h4, hn⟩
      | false => exact same 1 (if_pos fun z => by rw [hn] at z; cases z.2) H1 k1
    · rw [if_pos (by rw [decide_eq_false (by omega)]; decide), if_pos trivial]
      exact same 1 (if_pos fun z => h4 z.1) H fun _ _ h => h
  rintro σ H1 ⟨rfl, k1, hw⟩
  have hw4 := hw.1
  refine st_cut (fun σ H2 => σ = [some (.ref p), some (.ref wl), some (optV (numZ (wd ws 2) 0 10)), some (optV (numZ (wd ws 3) (-100000) 100000))] ∧ Keeps H H2) (fun U hU => ?_) ?_
  · have B1 := B.grow k1
    obtain ⟨a, e1, e2, e3⟩ := W.at_ (i := 2) (by omega)
    have e1 : atI (as.map V.ref) 2 = some (.ref a) := e1
    simp only [ev3, ev, ev2, ev4, sl, eq1, exl, exists_and_left, and_assoc, true_and, at0, at1, at2, Int.toNat_natCast, B1.k W.l, e1]
    refine ⟨a, _, _, _, rfl, B1.k e2, e3, fun H2 k2 => ?_⟩
    have B2 := B1.grow k2
    obtain ⟨a, e1, e2, e3⟩ := W.at_ (i := 3) (by omega)
    have e1 : atI (as.map V.ref) 3 = some (.ref a) := e1
    simp only [ev3, ev, ev2, ev4, sl, eq1, exl, exists_and_left, and_assoc, true_and, at0, at1, at2, Int.toNat_natCast, B2.k W.l, e1]
    exact ⟨a, _, _, _, rfl, B2.k e2, e3, fun H3 k3 => hU _ _ ⟨rfl, (k1.trans k2).trans k3⟩⟩
  rintro σ H2 ⟨rfl, k2⟩
  have B2 := B.grow k2
  cases hc : numZ (wd ws 2) 0 10 with
  | none =>
    refine st_seq ?_
    simp only [ev3, ev, ev2, ev4, sl, eq1, exl, exists_and_left, and_assoc, true_and, at0, at1, at2, Int.toNat_natCast, optV, isNon, if_true]
    refine same 1 ?_ H2 k2
    unfold roomZ
    rw [if_neg (fun z => z hw), hc]
  | some c =>
  cases hf : numZ (wd ws 3) (-100000) 100000 with
  | none =>
    refine st_seq ?_
    simp only [ev3, ev, ev2, ev4, sl, eq1, exl, exists_and_left, and_assoc, true_and, at0, at1, at2, Int.toNat_natCast, optV, isNon, if_true, if_false, Bool.false_eq_true]
    refine same 1 ?_ H2 k2
    unfold roomZ
    rw [if_neg (fun z => z hw), hc, hf]
  | some f =>
  have eq : roomZ b ws = if (nameIx b (wd ws 1)).isSome = true then (2, b) else if b.rooms.length = 12 then (4, b) else (0, { b with rooms := b.rooms ++ [⟨wd ws 1, c.toNat, f⟩] }) := by
    unfold roomZ
    rw [if_neg (fun z => z hw), hc, hf]
  refine st_seq ?_
  simp only [ev3, ev, ev2, ev4, sl, eq1, exl, exists_and_left, and_assoc, true_and, at0, at1, at2, Int.toNat_natCast, optV, isNon, if_true, if_false, Bool.false_eq_true]
  obtain ⟨kvs, ra, oa, la, ha, PBB⟩ := B2
  obtain ⟨a, e1, e2, e3⟩ := W.at_ (i := 1) (by omega)
  have e1 : atI (as.map V.ref) 1 = some (.ref a) := e1
  have e2' : H2 a = some (.tup (zs (nameI (wd ws 1)))) := PBB.x.k e2
  refine st_seq ?_
  simp only [ev3, ev, ev2, ev4, sl, eq1, exl, exists_and_left, and_assoc, true_and, at0, at1, at2, Int.toNat_natCast, PBB.x.k W.l, e1, PBB.x.k PBB.ob, PBB.x.g 0, e2']
  refine ⟨_, rfl, ?_⟩
  rw [nm_some PBB]
  cases hs : nameIx b (wd ws 1) with
  | some x =>
    rw [Option.isSome_some, if_pos rfl]
    exact same 2 (by rw [eq, hs]; rfl) H2 k2
  | none =>
  rw [Option.isSome_none, if_neg (by decide)]
  refine st_seq ?_
  simp only [ev3, ev, ev2, ev4, sl, eq1, exl, exists_and_left, and_assoc, true_and, at0, at1, at2, Int.toNat_natCast, PBB.x.k PBB.ob, PBB.x.g 1, List.length_map, PBB.rs.1]
  by_cases h12 : b.rooms.length = 12
  · rw [if_pos (decide_eq_true (by omega))]
    exact same 4 (by rw [eq, hs, if_neg (by decide), if_pos h12]) H2 k2
  rw [if_neg (by rw [decide_eq_false (by omega)]; decide)]
  refine st_seq ?_
  simp only [ev3, ev, ev2, ev4, sl, eq1, exl, exists_and_left, and_assoc, true_and, at0, at1, at2, Int.toNat_natCast, PBB.x.k W.l, e1]
  have hc0 := numZ_in hc
  refine ⟨_, _, PBB.x.k PBB.ob, pF_no r, ?_⟩
  refine ⟨p, a, dx, c.toNat, f, F, r, wd ws 1, b, by unfold natV; rw [show ((c.toNat : Nat) : Int) = c by omega], ⟨kvs, ra, oa, la, ha, PBB⟩, e2, hs, wf.few, fun F' H' kf B' => ?_⟩
  exact out 0 _ (by rw [eq, hs, if_neg (by decide), if_neg h12]) F' H' kf B'
abbrev N_outside_fault : List Str := ["plan", "words", "start"]
theorem sc_outside_fault : FnScope N_outside_fault ["plan", "words"] (defScope s_outside_fault) := ⟨rfl, rfl, rfl, by decide +kernel, rfl, by decide +kernel, by decide +kernel⟩
theorem st_outside_fault (x0 x1 : V) : start N_outside_fault [x0, x1] = [some x0, some x1, none] := rfl
theorem ok_outside_fault (e : Env K mg) : Ok P w K mg base 4 (He.ga K "outside_fault") ["plan", "words"] (sp_outside_fault K) := by
  refine ok_of e.fun_outside_fault sc_outside_fault (fun _ _ _ _ _ _ us hl => match us, hl with | [_, _], _ => rfl) (by rintro _ _ _ _ ⟨p, wl, dx, F, r, as, ws, b, rfl, B, W, wf, q⟩; rfl) ?_
  intro cdv A outer s0 H vs Q E hr hsp
  have sc := sc_outside_fault
  have hu := hu_of hr
  have G_is_name := ok_is_name (P := P) (w := w) (base := base) e
  have G_number_of := ok_number_of (P := P) (w := w) (base := base) e
  have G_Plan_add_outside := ok_Plan_add_outside (P := P) (w := w) (base := base) e
  refine ⟨_, (pss_cons (ps_if (PW.pt (pw_or (pt_cmpR op_neN (pe_callB len_listN (by rfl) e.f_len bt_len (pa_cons (pv 1) pa_nil)) pe_int (nomark _)) (pw_or1 (pt_not (pt_val (pe_callE G_is_name (hr.mono (by decide)) e.g_is_name (pa_cons (pe_ix ix_listN (pv 1) pe_int (fun _ _ => rfl)) pa_nil)))))))
    (pss_one (ps_ret (pe_gint e.i_FORM)))
    pss_nil)
    (pss_cons (ps_set (i := 2) sc.nd rfl (Or.inl rfl) (pe_callE G_number_of (hr.mono (by decide)) e.g_number_of (pa_cons (pe_ix ix_listN (pv 1) pe_int (fun _ _ => rfl)) (pa_cons (pe_gint e.i_LEAST_WARMTH) (pa_cons (pe_gint e.i_MOST_WARMTH) pa_nil)))))
    (pss_cons (ps_if (pt_cmpR op_isNN (pv 2) pe_non (nomark _))
    (pss_one (ps_ret (pe_gint e.i_FORM)))
    pss_nil)
    (pss_cons (ps_if (pt_cmp (pc_dinN hu (pe_ix ix_listN (pv 1) pe_int (fun _ _ => rfl)) (pe_at e.c_Plan e.n_Plan_names (pv 0))))
    (pss_one (ps_ret (pe_gint e.i_THERE)))
    pss_nil)
    (pss_cons (ps_if (pt_cmpR op_eqN (pe_callB len_listN (by rfl) e.f_len bt_len (pa_cons (pe_at e.c_Plan e.n_Plan_outsides (pv 0)) pa_nil)) (pe_gint e.i_MOST_OUTSIDES) (nomark _))
    (pss_one (ps_ret (pe_gint e.i_MANY)))
    pss_nil)
    (pss_cons (ps_expr (pe_methE (pv 0) e.c_Plan e.m_Plan_add_outside G_Plan_add_outside (hr.mono (by decide)) (pa_cons (pe_ix ix_listN (pv 1) pe_int (fun _ _ => rfl)) (pa_cons (pv 2) pa_nil))))
    (pss_one (ps_ret pe_int)))))))), ?_⟩
  obtain ⟨p, wl, dx, F, r, as, ws, b, rfl, B, W, wf, q⟩ := hsp
  rw [st_outside_fault]
  have out : ∀ n b', outsideZ b ws = (n, b') → ∀ F' H1, Keeps F F' → PBx K F' H1 p dx r b' → Q (natV n) H1 := fun n b' e F' H1 kf B' => by
    have z := q F' H1 kf
    rw [e] at z
    exact z B'
  have same : ∀ n, outsideZ b ws = (n, b) → ∀ H1, Keeps H H1 → Q (natV n) H1 := fun n e H1 k => out n b e F H1 (fun _ _ h => h) (B.grow k)
  refine st_cut (fun σ H1 => σ = [some (.ref p), some (.ref wl), none] ∧ Keeps H H1 ∧ (ws.length = 3 ∧ Vbbcab.isName (wd ws 1) = true)) (fun U hU => ?_) ?_
  · simp only [ev3, ev, ev2, ev4, sl, eq1, exl, exists_and_left, and_assoc, true_and, at0, at1, at2, Int.toNat_natCast, B.k W.l, List.length_map, W.a.1]
    by_cases h4 : ws.length = 3
    · rw [if_neg (by rw [decide_eq_true (by omega)]; decide)]
      obtain ⟨a, e1, e2, e3⟩ := W.at_ (i := 1) (by omega)
      refine ⟨_, e1, a, _, rfl, B.k e2, e3, fun H1 k1 => ⟨_, rfl, ?_⟩⟩
      cases hn : Vbbcab.isName (wd ws 1) with
      | true => exact hU _ _ ⟨rfl, k1, h4, hn⟩
      | false => exact same 1 (if_pos fun z => by rw [hn] at z; cases z.2) H1 k1
    · rw [if_pos (by rw [decide_eq_false (by omega)]; decide), if_pos trivial]
      exact same 1 (if_pos fun z => h4 z.1) H fun _ _ h => h
  rintro σ H1 ⟨rfl, k1, hw⟩
  have hw4 := hw.1
  refine st_cut (fun σ H2 => σ = [some (.ref p), some (.ref wl), some (optV (numZ (wd ws 2) (-100000) 100000))] ∧ Keeps H H2) (fun U hU => ?_) ?_
  · have B1 := B.grow k1
    obtain ⟨a, e1, e2, e3⟩ := W.at_ (i := 2) (by omega)
    have e1 : atI (as.map V.ref) 2 = some (.ref a) := e1
    simp only [ev3, ev, ev2, ev4, sl, eq1, exl, exists_and_left, and_assoc, true_and, at0, at1, at2, Int.toNat_natCast, B1.k W.l, e1]
    exact ⟨a, _, _, _, rfl, B1.k e2, e3, fun H3 k3 => hU _ _ ⟨rfl, k1.trans k3⟩⟩
  rintro σ H2 ⟨rfl, k2⟩
  have B2 := B.grow k2
  cases hf : numZ (wd ws 2) (-100000) 100000 with
  | none =>
    refine st_seq ?_
    simp only [ev3, ev, ev2, ev4, sl, eq1, exl, exists_and_left, and_assoc, true_and, at0, at1, at2, Int.toNat_natCast, optV, isNon, if_true]
    refine same 1 ?_ H2 k2
    unfold outsideZ
    rw [if_neg (fun z => z hw), hf]
  | some f =>
  have eq : outsideZ b ws = if (nameIx b (wd ws 1)).isSome = true then (2, b) else if b.outs.length = 4 then (4, b) else (0, { b with outs := b.outs ++ [⟨wd ws 1, f⟩] }) := by
    unfold outsideZ
    rw [if_neg (fun z => z hw), hf]
  refine st_seq ?_
  simp only [ev3, ev, ev2, ev4, sl, eq1, exl, exists_and_left, and_assoc, true_and, at0, at1, at2, Int.toNat_natCast, optV, isNon, if_true, if_false, Bool.false_eq_true]
  obtain ⟨kvs, ra, oa, la, ha, PBB⟩ := B2
  obtain ⟨a, e1, e2, e3⟩ := W.at_ (i := 1) (by omega)
  have e1 : atI (as.map V.ref) 1 = some (.ref a) := e1
  have e2' : H2 a = some (.tup (zs (nameI (wd ws 1)))) := PBB.x.k e2
  refine st_seq ?_
  simp only [ev3, ev, ev2, ev4, sl, eq1, exl, exists_and_left, and_assoc, true_and, at0, at1, at2, Int.toNat_natCast, PBB.x.k W.l, e1, PBB.x.k PBB.ob, PBB.x.g 0, e2']
  refine ⟨_, rfl, ?_⟩
  rw [nm_some PBB]
  cases hs : nameIx b (wd ws 1) with
  | some x =>
    rw [Option.isSome_some, if_pos rfl]
    exact same 2 (by rw [eq, hs]; rfl) H2 k2
  | none =>
  rw [Option.isSome_none, if_neg (by decide)]
  refine st_seq ?_
  simp only [ev3, ev, ev2, ev4, sl, eq1, exl, exists_and_left, and_assoc, true_and, at0, at1, at2, Int.toNat_natCast, PBB.x.k PBB.ob, PBB.x.g 4, List.length_map, PBB.os.1]
  by_cases h12 : b.outs.length = 4
  · rw [if_pos (decide_eq_true (by omega))]
    exact same 4 (by rw [eq, hs, if_neg (by decide), if_pos h12]) H2 k2
  rw [if_neg (by rw [decide_eq_false (by omega)]; decide)]
  refine st_seq ?_
  simp only [ev3, ev, ev2, ev4, sl, eq1, exl, exists_and_left, and_assoc, true_and, at0, at1, at2, Int.toNat_natCast, PBB.x.k W.l, e1]
  refine ⟨_, _, PBB.x.k PBB.ob, pF_no r, ?_⟩
  refine ⟨p, a, dx, f, F, r, wd ws 1, b, rfl, ⟨kvs, ra, oa, la, ha, PBB⟩, e2, hs, wf.few, fun F' H' kf B' => ?_⟩
  exact out 0 _ (by rw [eq, hs, if_neg (by decide), if_neg h12]) F' H' kf B'
abbrev N_link_fault : List Str := ["plan", "words", "conductance", "one", "other"]
theorem sc_link_fault : FnScope N_link_fault ["plan", "words"] (defScope s_link_fault) := ⟨rfl, rfl, rfl, by decide +kernel, rfl, by decide +kernel, by decide +kernel⟩
theorem st_link_fault (x0 x1 : V) : start N_link_fault [x0, x1] = [some x0, some x1, none, none, none] := rfl
theorem ok_link_fault (e : Env K mg) : Ok P w K mg base 4 (He.ga K "link_fault") ["plan", "words"] (sp_link_fault K) := by
  refine ok_of e.fun_link_fault sc_link_fault (fun _ _ _ _ _ _ us hl => match us, hl with | [_, _], _ => rfl) (by rintro _ _ _ _ ⟨p, wl, dx, F, r, as, ws, b, rfl, B, W, wf, q⟩; rfl) ?_
  intro cdv A outer s0 H vs Q E hr hsp
  have sc := sc_link_fault
  have hu := hu_of hr
  have G_is_name := ok_is_name (P := P) (w := w) (base := base) e
  have G_number_of := ok_number_of (P := P) (w := w) (base := base) e
  have G_Plan_end_of := ok_Plan_end_of (P := P) (w := w) (base := base) e
  have G_Plan_are_linked := ok_Plan_are_linked (P := P) (w := w) (base := base) e
  have G_Plan_add_link := ok_Plan_add_link (P := P) (w := w) (base := base) e
  refine ⟨_, (pss_cons (ps_if (PW.pt (pw_or (pt_cmpR op_neN (pe_callB len_listN (by rfl) e.f_len bt_len (pa_cons (pv 1) pa_nil)) pe_int (nomark _)) (pw_or (pt_not (pt_val (pe_callE G_is_name (hr.mono (by decide)) e.g_is_name (pa_cons (pe_ix ix_listN (pv 1) pe_int (fun _ _ => rfl)) pa_nil)))) (pw_or1 (pt_not (pt_val (pe_callE G_is_name (hr.mono (by decide)) e.g_is_name (pa_cons (pe_ix ix_listN (pv 1) pe_int (fun _ _ => rfl)) pa_nil))))))))
    (pss_one (ps_ret (pe_gint e.i_FORM)))
    pss_nil)
    (pss_cons (ps_set (i := 2) sc.nd rfl (Or.inl rfl) (pe_callE G_number_of (hr.mono (by decide)) e.g_number_of (pa_cons (pe_ix ix_listN (pv 1) pe_int (fun _ _ => rfl)) (pa_cons pe_int (pa_cons (pe_gint e.i_MOST_CONDUCTANCE) pa_nil)))))
    (pss_cons (ps_if (pt_cmpR op_isNN (pv 2) pe_non (nomark _))
    (pss_one (ps_ret (pe_gint e.i_FORM)))
    pss_nil)
    (pss_cons (ps_par (i := 3) (j := 4) (by rfl) sc.nd rfl rfl (by decide) rfl rfl (pa_cons (pe_methE (pv 0) e.c_Plan e.m_Plan_end_of G_Plan_end_of (hr.mono (by decide)) (pa_cons (pe_ix ix_listN (pv 1) pe_int (fun _ _ => rfl)) pa_nil)) (pa_cons (pe_methE (pv 0) e.c_Plan e.m_Plan_end_of G_Plan_end_of (hr.mono (by decide)) (pa_cons (pe_ix ix_listN (pv 1) pe_int (fun _ _ => rfl)) pa_nil)) pa_nil)) (by rfl))
    (pss_cons (ps_if (PW.pt (pw_or (pt_cmpR op_isNN (pv 3) pe_non (nomark _)) (pw_or1 (pt_cmpR op_isNN (pv 4) pe_non (nomark _)))))
    (pss_one (ps_ret (pe_gint e.i_MISSING)))
    pss_nil)
    (pss_cons (ps_if (pt_cmpR op_eqN (pe_callB len_listN (by rfl) e.f_len bt_len (pa_cons (pe_at e.c_Plan e.n_Plan_links (pv 0)) pa_nil)) (pe_gint e.i_MOST_LINKS) (nomark _))
    (pss_one (ps_ret (pe_gint e.i_MANY)))
    pss_nil)
    (pss_cons (ps_if (PW.pt (pw_or (pt_cmpR (op_eqEN hr.units) (pv 3) (pv 4) (nomark _)) (pw_or (PW.pt (pw_and (pt_val (pe_ix ix_tupN (pv 3) pe_int (fun _ _ => rfl))) (pw_and1 (pt_val (pe_ix ix_tupN (pv 4) pe_int (fun _ _ => rfl)))))) (pw_or1 (pt_val (pe_methE (pv 0) e.c_Plan e.m_Plan_are_linked G_Plan_are_linked (hr.mono (by decide)) (pa_cons (pv 3) (pa_cons (pv 4) pa_nil))))))))
    (pss_one (ps_ret (pe_gint e.i_CROSSED)))
    pss_nil)
    (pss_cons (ps_expr (pe_methE (pv 0) e.c_Plan e.m_Plan_add_link G_Plan_add_link (hr.mono (by decide)) (pa_cons (pv 3) (pa_cons (pv 4) (pa_cons (pv 2) pa_nil)))))
    (pss_one (ps_ret pe_int)))))))))), ?_⟩
  obtain ⟨p, wl, dx, F, r, as, ws, b, rfl, B, W, wf, q⟩ := hsp
  rw [st_link_fault]
  have out : ∀ n b', linkZ b ws = (n, b') → ∀ F' H1, Keeps F F' → PBx K F' H1 p dx r b' → Q (natV n) H1 := fun n b' e F' H1 kf B' => by
    have z := q F' H1 kf
    rw [e] at z
    exact z B'
  have same : ∀ n, linkZ b ws = (n, b) → ∀ H1, Keeps H H1 → Q (natV n) H1 := fun n e H1 k => out n b e F H1 (fun _ _ h => h) (B.grow k)
  refine st_cut (fun σ H1 => σ = [some (.ref p), some (.ref wl), none, none, none] ∧ Keeps H H1 ∧ (ws.length = 4 ∧ Vbbcab.isName (wd ws 1) = true ∧ Vbbcab.isName (wd ws 2) = true)) (fun U hU => ?_) ?_
  · simp only [ev3, ev, ev2, ev4, sl, eq1, exl, exists_and_left, and_assoc, true_and, at0, at1, at2, Int.toNat_natCast, B.k W.l, List.length_map, W.a.1]
    by_cases h4 : ws.length = 4
    · rw [if_neg (by rw [decide_eq_true (by omega)]; decide)]
      obtain ⟨a, e1, e2, e3⟩ := W.at_ (i := 1) (by omega)
      refine ⟨_, e1, a, _, rfl, B.k e2, e3, fun H1 k1 => ⟨_, rfl, ?_⟩⟩
      cases hn : Vbbcab.isName (wd ws 1) with
      | false => exact same 1 (if_pos fun z => by rw [hn] at z; cases z.2.1) H1 k1
      | true =>
      have B1 := B.grow k1
      rw [if_neg (by decide)]
      obtain ⟨a, e1, e2, e3⟩ := W.at_ (i := 2) (by omega)
      have e1 : atI (as.map V.ref) 2 = some (.ref a) := e1
      simp only [ev3, ev, ev2, ev4, sl, eq1, exl, exists_and_left, and_assoc, true_and, at0, at1, at2, Int.toNat_natCast, B1.k W.l, e1]
      refine ⟨a, _, rfl, B1.k e2, e3, fun H2 k2 => ⟨_, rfl, ?_⟩⟩
      cases hn2 : Vbbcab.isName (wd ws 2) with
      | false => exact same 1 (if_pos fun z => by rw [hn2] at z; cases z.2.2) H2 (k1.trans k2)
      | true => exact hU _ _ ⟨rfl, k1.trans k2, h4, hn, hn2⟩
    · rw [if_pos (by rw [decide_eq_false (by omega)]; decide), if_pos trivial]
      exact same 1 (if_pos fun z => h4 z.1) H fun _ _ h => h
  rintro σ H1 ⟨rfl, k1, hw⟩
  have hw4 := hw.1
  refine st_cut (fun σ H2 => σ = [some (.ref p), some (.ref wl), some (optV (numZ (wd ws 3) 1 100000)), none, none] ∧ Keeps H H2) (fun U hU => ?_) ?_
  · have B1 := B.grow k1
    obtain ⟨a, e1, e2, e3⟩ := W.at_ (i := 3) (by omega)
    have e1 : atI (as.map V.ref) 3 = some (.ref a) := e1
    simp only [ev3, ev, ev2, ev4, sl, eq1, exl, exists_and_left, and_assoc, true_and, at0, at1, at2, Int.toNat_natCast, B1.k W.l, e1]
    exact ⟨a, _, _, _, rfl, B1.k e2, e3, fun H3 k3 => hU _ _ ⟨rfl, k1.trans k3⟩⟩
  rintro σ H2 ⟨rfl, k2⟩
  have B2 := B.grow k2
  cases hf : numZ (wd ws 3) 1 100000 with
  | none =>
    refine st_seq ?_
    simp only [ev3, ev, ev2, ev4, sl, eq1, exl, exists_and_left, and_assoc, true_and, at0, at1, at2, Int.toNat_natCast, optV, isNon, if_true]
    refine same 1 ?_ H2 k2
    unfold linkZ
    rw [if_neg (fun z => z hw), hf]
  | some g =>
  have hg := numZ_in hf
  have eq : linkZ b ws = match endOf b (wd ws 1), endOf b (wd ws 2) with
    | some i, some j => if b.links.length = 40 then (4, b) else if (decide (i = j) || (Vbbcab.isOut i && Vbbcab.isOut j) || Vbbcab.joins b i j) = true then (5, b) else (0, { b with links := b.links ++ [⟨i, j, g.toNat⟩] })
    | _, _ => (3, b) := by
    unfold linkZ
    rw [if_neg (fun z => z hw), hf]
  have nr : b.rooms.length < 100 := by have := wf.nr; omega
  refine st_seq ?_
  simp only [ev3, ev, ev2, ev4, sl, eq1, exl, exists_and_left, and_assoc, true_and, at0, at1, at2, Int.toNat_natCast, optV, isNon, if_true, if_false, Bool.false_eq_true]
  refine st_cut (fun σ H3 => ∃ v w', σ = [some (.ref p), some (.ref wl), some (.int g), some v, some w'] ∧ Keeps H H3 ∧ EV H3 (endOf b (wd ws 1)) v ∧ EV H3 (endOf b (wd ws 2)) w') (fun U hU => ?_) ?_
  · obtain ⟨a, e1, e2, e3⟩ := W.at_ (i := 1) (by omega)
    have e1 : atI (as.map V.ref) 1 = some (.ref a) := e1
    obtain ⟨a2, e4, e5, e6⟩ := W.at_ (i := 2) (by omega)
    have e4 : atI (as.map V.ref) 2 = some (.ref a2) := e4
    obtain ⟨kvs, ra, oa, la, ha, PBB⟩ := B2
    simp only [ev3, ev, ev2, ev4, sl, eq1, exl, exists_and_left, and_assoc, true_and, at0, at1, at2, Int.toNat_natCast, PBB.x.k PBB.ob, PBB.x.k W.l, e1]
    refine ⟨pF_no r, endOf_ev ⟨kvs, ra, oa, la, ha, PBB⟩ e2 nr fun v H3 k3 hv => ?_⟩
    have PB3 := PBB.grow k3
    simp only [ev3, ev, ev2, ev4, sl, eq1, exl, exists_and_left, and_assoc, true_and, at0, at1, at2, Int.toNat_natCast, PB3.x.k PBB.ob, PB3.x.k W.l, e4]
    refine ⟨pF_no r, endOf_ev ⟨kvs, ra, oa, la, ha, PB3⟩ e5 nr fun w' H4 k4 hw' => ?_⟩
    exact hU _ _ ⟨_, _, rfl, (k2.trans k3).trans k4, hv.mono k4, hw'⟩
  rintro σ H3 ⟨v, w', rfl, k3, ev1, ev2'⟩
  refine st_seq ?_
  cases h1 : endOf b (wd ws 1) with
  | none =>
    rw [h1] at ev1
    obtain rfl : v = .non := ev1
    simp only [ev3, ev, ev2, ev4, sl, eq1, exl, exists_and_left, and_assoc, true_and, at0, at1, at2, Int.toNat_natCast, isNon, if_true]
    exact same 3 (by rw [eq, h1]) H3 k3
  | some i =>
  rw [h1] at ev1
  obtain ⟨ea, rfl, ea1⟩ := ev1
  cases h2 : endOf b (wd ws 2) with
  | none =>
    rw [h2] at ev2'
    obtain rfl : w' = .non := ev2'
    simp only [ev3, ev, ev2, ev4, sl, eq1, exl, exists_and_left, and_assoc, true_and, at0, at1, at2, Int.toNat_natCast, isNon, if_true, if_false, Bool.false_eq_true]
    exact same 3 (by rw [eq, h1, h2]) H3 k3
  | some j =>
  rw [h2] at ev2'
  obtain ⟨eb, rfl, eb1⟩ := ev2'
  have eq : linkZ b ws = if b.links.length = 40 then (4, b) else if (decide (i = j) || (Vbbcab.isOut i && Vbbcab.isOut j) || Vbbcab.joins b i j) = true then (5, b) else (0, { b with links := b.links ++ [⟨i, j, g.toNat⟩] }) := by
    rw [eq, h1, h2]
  simp only [ev3, ev, ev2, ev4, sl, eq1, exl, exists_and_left, and_assoc, true_and, at0, at1, at2, Int.toNat_natCast, isNon, if_true, if_false, Bool.false_eq_true]
  refine st_seq ?_
  obtain ⟨kvs, ra, oa, la, ha, PBB⟩ := B.grow k3
  simp only [ev3, ev, ev2, ev4, sl, eq1, exl, exists_and_left, and_assoc, true_and, at0, at1, at2, Int.toNat_natCast, PBB.x.k PBB.ob, PBB.x.g 6, List.length_map, PBB.ls.1]
  by_cases h40 : b.links.length = 40
  · rw [if_pos (decide_eq_true (by omega))]
    exact same 4 (by rw [eq, if_pos h40]) H3 k3
  rw [if_neg (by rw [decide_eq_false (by omega)]; decide)]
  rw [if_neg h40] at eq
  have five : (decide (i = j) || (Vbbcab.isOut i && Vbbcab.isOut j) || Vbbcab.joins b i j) = true → ∀ H4, Keeps H H4 → Q (natV 5) H4 := fun h H4 k4 => same 5 (by rw [eq, if_pos h]) H4 k4
  have ea2 : H3 ea = some (.tup [.bl (Vbbcab.isOut i), natV (idx i)]) := ea1
  have eb2 : H3 eb = some (.tup [.bl (Vbbcab.isOut j), natV (idx j)]) := eb1
  refine st_cut (fun σ H4 => σ = [some (.ref p), some (.ref wl), some (.int g), some (.ref ea), some (.ref eb)] ∧ Keeps H3 H4 ∧ (decide (i = j) || (Vbbcab.isOut i && Vbbcab.isOut j) || Vbbcab.joins b i j) = false) (fun U hU => ?_) ?_
  · simp only [ev3, ev, ev2, ev4, sl, eq1, exl, exists_and_left, and_assoc, true_and, at0, at1, at2, Int.toNat_natCast]
    have dn : ∀ H4, Keeps H3 H4 → (Vbbcab.isOut i && Vbbcab.isOut j) = false → (i = j → False) → sp_Plan_are_linked K [.ref p, .ref ea, .ref eb] H4 (fun x H5 => ∃ k, x = V.bl k ∧ if k = true then Q (V.int 5) H5 else U [some (.ref p), some (.ref wl), some (.int g), some (.ref ea), some (.ref eb)] H5) E0 := by
      intro H4 k4 hoo hne
      obtain ⟨kvs, ra, oa, la, ha, PB4⟩ := B.grow (k3.trans k4)
      refine ⟨p, ea, eb, i, j, b, rfl, ⟨dx, r, ra, oa, la, ha, PB4.plan⟩, k4 _ _ ea1, k4 _ _ eb1, fun H5 k5 => ⟨_, rfl, ?_⟩⟩
      cases hj : Vbbcab.joins b i j with
      | true =>
        rw [if_pos rfl]
        exact five (by rw [hj, Bool.or_true]) H5 ((k3.trans k4).trans k5)
      | false =>
        rw [if_neg (by decide)]
        exact hU _ _ ⟨rfl, k4.trans k5, by rw [hj, hoo, decide_eq_false hne]; rfl⟩
    refine ⟨ea, eb, i, j, rfl, rfl, ea1, eb1, _, rfl, ?_⟩
    by_cases hij : i = j
    · rw [if_pos (decide_eq_true hij), if_pos trivial]
      exact five (by rw [decide_eq_true hij]; rfl) H3 k3
    rw [if_neg (by rw [decide_eq_false hij]; decide)]
    simp only [ev3, ev, ev2, ev4, sl, eq1, exl, exists_and_left, and_assoc, true_and, at0, at1, at2, Int.toNat_natCast, ea2]
    cases hoi : Vbbcab.isOut i with
    | false =>
      rw [hoi] at dn
      simp only [ev3, ev, ev2, ev4, sl, eq1, exl, exists_and_left, and_assoc, true_and, at0, at1, at2, Int.toNat_natCast, Bool.false_eq_true, if_false, if_true, PBB.x.k PBB.ob]
      exact ⟨pF_no r, dn H3 (fun _ _ h => h) rfl hij⟩
    | true =>
      rw [hoi] at dn
      simp only [ev3, ev, ev2, ev4, sl, eq1, exl, exists_and_left, and_assoc, true_and, at0, at1, at2, Int.toNat_natCast, Bool.false_eq_true, if_false, if_true, eb2]
      cases hoj : Vbbcab.isOut j with
      | true =>
        rw [if_pos rfl]
        exact five (by rw [hoi, hoj, Bool.true_and, Bool.or_true]; rfl) H3 k3
      | false =>
        rw [hoj] at dn
        rw [if_neg (by decide)]
        simp only [ev3, ev, ev2, ev4, sl, eq1, exl, exists_and_left, and_assoc, true_and, at0, at1, at2, Int.toNat_natCast, PBB.x.k PBB.ob]
        exact ⟨pF_no r, dn H3 (fun _ _ h => h) rfl hij⟩
  rintro σ H4 ⟨rfl, k4, hf5⟩
  have B4 := B.grow (k3.trans k4)
  obtain ⟨kvs, ra, oa, la, ha, PB4⟩ := B4
  refine st_seq ?_
  simp only [ev3, ev, ev2, ev4, sl, eq1, exl, exists_and_left, and_assoc, true_and, at0, at1, at2, Int.toNat_natCast, PB4.x.k PB4.ob]
  refine ⟨pF_no r, ?_⟩
  refine ⟨p, ea, eb, dx, g.toNat, _, r, i, j, b, by unfold natV; rw [show ((g.toNat : Nat) : Int) = g by omega], ⟨kvs, ra, oa, la, ha, PB4.all⟩, PB4.allT (k4 _ _ ea2), PB4.allT (k4 _ _ eb2), wf.few, fun F' H' kf B' => ?_⟩
  exact out 0 _ (by rw [eq, if_neg (by rw [hf5]; decide)]) F' H' (PB4.x.allK.trans kf) B'
abbrev N_heater_fault : List Str := ["plan", "words", "most", "room"]
theorem sc_heater_fault : FnScope N_heater_fault ["plan", "words"] (defScope s_heater_fault) := ⟨rfl, rfl, rfl, by decide +kernel, rfl, by decide +kernel, by decide +kernel⟩
theorem st_heater_fault (x0 x1 : V) : start N_heater_fault [x0, x1] = [some x0, some x1, none, none] := rfl
theorem ok_heater_fault (e : Env K mg) : Ok P w K mg base 4 (He.ga K "heater_fault") ["plan", "words"] (sp_heater_fault K) := by
  refine ok_of e.fun_heater_fault sc_heater_fault (fun _ _ _ _ _ _ us hl => match us, hl with | [_, _], _ => rfl) (by rintro _ _ _ _ ⟨p, wl, dx, F, r, as, ws, b, rfl, B, W, wf, q⟩; rfl) ?_
  intro cdv A outer s0 H vs Q E hr hsp
  have sc := sc_heater_fault
  have hu := hu_of hr
  have G_is_name := ok_is_name (P := P) (w := w) (base := base) e
  have G_number_of := ok_number_of (P := P) (w := w) (base := base) e
  have G_Plan_add_heater := ok_Plan_add_heater (P := P) (w := w) (base := base) e
  refine ⟨_, (pss_cons (ps_if (PW.pt (pw_or (pt_cmpR op_neN (pe_callB len_listN (by rfl) e.f_len bt_len (pa_cons (pv 1) pa_nil)) pe_int (nomark _)) (pw_or (pt_not (pt_val (pe_callE G_is_name (hr.mono (by decide)) e.g_is_name (pa_cons (pe_ix ix_listN (pv 1) pe_int (fun _ _ => rfl)) pa_nil)))) (pw_or1 (pt_not (pt_val (pe_callE G_is_name (hr.mono (by decide)) e.g_is_name (pa_cons (pe_ix ix_listN (pv 1) pe_int (fun _ _ => rfl)) pa_nil))))))))
    (pss_one (ps_ret (pe_gint e.i_FORM)))
    pss_nil)
    (pss_cons (ps_set (i := 2) sc.nd rfl (Or.inl rfl) (pe_callE G_number_of (hr.mono (by decide)) e.g_number_of (pa_cons (pe_ix ix_listN (pv 1) pe_int (fun _ _ => rfl)) (pa_cons pe_int (pa_cons (pe_gint e.i_MOST_GIVEN) pa_nil)))))
    (pss_cons (ps_if (pt_cmpR op_isNN (pv 2) pe_non (nomark _))
    (pss_one (ps_ret (pe_gint e.i_FORM)))
    pss_nil)
    (pss_cons (ps_if (pt_cmp (pc_dinN hu (pe_ix ix_listN (pv 1) pe_int (fun _ _ => rfl)) (pe_at e.c_Plan e.n_Plan_names (pv 0))))
    (pss_one (ps_ret (pe_gint e.i_THERE)))
    pss_nil)
    (pss_cons (ps_set (i := 3) sc.nd rfl (Or.inl rfl) (pe_dget1N hu (pe_at e.c_Plan e.n_Plan_names (pv 0)) (pe_ix ix_listN (pv 1) pe_int (fun _ _ => rfl)) ⟨rfl, rfl, rfl, rfl⟩))
    (pss_cons (ps_if (PW.pt (pw_or (pt_cmpR op_isNN (pv 3) pe_non (nomark _)) (pw_or1 (pt_cmpR op_neN (pe_ix ix_tupN (pv 3) pe_int (fun _ _ => rfl)) pe_int (nomark _)))))
    (pss_one (ps_ret (pe_gint e.i_MISSING)))
    pss_nil)
    (pss_cons (ps_if (pt_cmpR op_eqN (pe_callB len_listN (by rfl) e.f_len bt_len (pa_cons (pe_at e.c_Plan e.n_Plan_heaters (pv 0)) pa_nil)) (pe_gint e.i_MOST_HEATERS) (nomark _))
    (pss_one (ps_ret (pe_gint e.i_MANY)))
    pss_nil)
    (pss_cons (ps_expr (pe_methE (pv 0) e.c_Plan e.m_Plan_add_heater G_Plan_add_heater (hr.mono (by decide)) (pa_cons (pe_ix ix_listN (pv 1) pe_int (fun _ _ => rfl)) (pa_cons (pe_ix ix_tupN (pv 3) pe_int (fun _ _ => rfl)) (pa_cons (pv 2) pa_nil)))))
    (pss_one (ps_ret pe_int)))))))))), ?_⟩
  obtain ⟨p, wl, dx, F, r, as, ws, b, rfl, B, W, wf, q⟩ := hsp
  rw [st_heater_fault]
  have out : ∀ n b', heaterZ b ws = (n, b') → ∀ F' H1, Keeps F F' → PBx K F' H1 p dx r b' → Q (natV n) H1 := fun n b' e F' H1 kf B' => by
    have z := q F' H1 kf
    rw [e] at z
    exact z B'
  have same : ∀ n, heaterZ b ws = (n, b) → ∀ H1, Keeps H H1 → Q (natV n) H1 := fun n e H1 k => out n b e F H1 (fun _ _ h => h) (B.grow k)
  refine st_cut (fun σ H1 => σ = [some (.ref p), some (.ref wl), none, none] ∧ Keeps H H1 ∧ (ws.length = 4 ∧ Vbbcab.isName (wd ws 1) = true ∧ Vbbcab.isName (wd ws 2) = true)) (fun U hU => ?_) ?_
  · simp only [ev3, ev, ev2, ev4, sl, eq1, exl, exists_and_left, and_assoc, true_and, at0, at1, at2, Int.toNat_natCast, B.k W.l, List.length_map, W.a.1]
    by_cases h4 : ws.length = 4
    · rw [if_neg (by rw [decide_eq_true (by omega)]; decide)]
      obtain ⟨a, e1, e2, e3⟩ := W.at_ (i := 1) (by omega)
      refine ⟨_, e1, a, _, rfl, B.k e2, e3, fun H1 k1 => ⟨_, rfl, ?_⟩⟩
      cases hn : Vbbcab.isName (wd ws 1) with
      | false => exact same 1 (if_pos fun z => by rw [hn] at z; cases z.2.1) H1 k1
      | true =>
      have B1 := B.grow k1
      rw [if_neg (by decide)]
      obtain ⟨a, e1, e2, e3⟩ := W.at_ (i := 2) (by omega)
      have e1 : atI (as.map V.ref) 2 = some (.ref a) := e1
      simp only [ev3, ev, ev2, ev4, sl, eq1, exl, exists_and_left, and_assoc, true_and, at0, at1, at2, Int.toNat_natCast, B1.k W.l, e1]
      refine ⟨a, _, rfl, B1.k e2, e3, fun H2 k2 => ⟨_, rfl, ?_⟩⟩
      cases hn2 : Vbbcab.isName (wd ws 2) with
      | false => exact same 1 (if_pos fun z => by rw [hn2] at z; cases z.2.2) H2 (k1.trans k2)
      | true => exact hU _ _ ⟨rfl, k1.trans k2, h4, hn, hn2⟩
    · rw [if_pos (by rw [decide_eq_false (by omega)]; decide), if_pos trivial]
      exact same 1 (if_pos fun z => h4 z.1) H fun _ _ h => h
  rintro σ H1 ⟨rfl, k1, hw⟩
  have hw4 := hw.1
  refine st_cut (fun σ H2 => σ = [some (.ref p), some (.ref wl), some (optV (numZ (wd ws 3) 1 1000000)), none] ∧ Keeps H H2) (fun U hU => ?_) ?_
  · have B1 := B.grow k1
    obtain ⟨a, e1, e2, e3⟩ := W.at_ (i := 3) (by omega)
    have e1 : atI (as.map V.ref) 3 = some (.ref a) := e1
    simp only [ev3, ev, ev2, ev4, sl, eq1, exl, exists_and_left, and_assoc, true_and, at0, at1, at2, Int.toNat_natCast, B1.k W.l, e1]
    exact ⟨a, _, _, _, rfl, B1.k e2, e3, fun H3 k3 => hU _ _ ⟨rfl, k1.trans k3⟩⟩
  rintro σ H2 ⟨rfl, k2⟩
  have B2 := B.grow k2
  cases hf : numZ (wd ws 3) 1 1000000 with
  | none =>
    refine st_seq ?_
    simp only [ev3, ev, ev2, ev4, sl, eq1, exl, exists_and_left, and_assoc, true_and, at0, at1, at2, Int.toNat_natCast, optV, isNon, if_true]
    refine same 1 ?_ H2 k2
    unfold heaterZ
    rw [if_neg (fun z => z hw), hf]
  | some m =>
  have hg := numZ_in hf
  have eq : heaterZ b ws = if (nameIx b (wd ws 1)).isSome = true then (2, b) else match nameIx b (wd ws 2) with
    | some (k, i) => if k = 0 then (if b.heaters.length = 8 then (4, b) else (0, { b with heaters := b.heaters ++ [⟨wd ws 1, i, m.toNat⟩] })) else (3, b)
    | none => (3, b) := by
    unfold heaterZ
    rw [if_neg (fun z => z hw), hf]
  refine st_seq ?_
  simp only [ev3, ev, ev2, ev4, sl, eq1, exl, exists_and_left, and_assoc, true_and, at0, at1, at2, Int.toNat_natCast, optV, isNon, if_true, if_false, Bool.false_eq_true]
  obtain ⟨kvs, ra, oa, la, ha, PBB⟩ := B2
  obtain ⟨a, e1, e2, e3⟩ := W.at_ (i := 1) (by omega)
  have e1 : atI (as.map V.ref) 1 = some (.ref a) := e1
  have e2' : H2 a = some (.tup (zs (nameI (wd ws 1)))) := PBB.x.k e2
  obtain ⟨a2, e4, e5, e6⟩ := W.at_ (i := 2) (by omega)
  have e4 : atI (as.map V.ref) 2 = some (.ref a2) := e4
  have e5' : H2 a2 = some (.tup (zs (nameI (wd ws 2)))) := PBB.x.k e5
  refine st_seq ?_
  simp only [ev3, ev, ev2, ev4, sl, eq1, exl, exists_and_left, and_assoc, true_and, at0, at1, at2, Int.toNat_natCast, PBB.x.k W.l, e1, PBB.x.k PBB.ob, PBB.x.g 0, e2']
  refine ⟨_, rfl, ?_⟩
  rw [nm_some PBB]
  cases hs : nameIx b (wd ws 1) with
  | some x =>
    rw [Option.isSome_some, if_pos rfl]
    exact same 2 (by rw [eq, hs]; rfl) H2 k2
  | none =>
  rw [Option.isSome_none, if_neg (by decide)]
  have eq := eq
  rw [hs, Option.isSome_none, if_neg (by decide)] at eq
  refine st_seq ?_
  simp only [ev3, ev, ev2, ev4, sl, eq1, exl, exists_and_left, and_assoc, true_and, at0, at1, at2, Int.toNat_natCast, PBB.x.k W.l, e4, PBB.x.k PBB.ob, PBB.x.g 0, e5']
  refine ⟨_, rfl, ?_⟩
  have nm := PBB.nm (wd ws 2)
  cases h2 : nameIx b (wd ws 2) with
  | none =>
    rw [h2] at nm
    have nm : valV kvs (keyI (nameI (wd ws 2))) = none := nm
    rw [nm]
    refine st_seq ?_
    simp only [ev3, ev, ev2, ev4, sl, eq1, exl, exists_and_left, and_assoc, true_and, at0, at1, at2, Int.toNat_natCast, Option.getD_none, isNon, if_true]
    exact same 3 (by rw [eq, h2]) H2 k2
  | some x =>
  obtain ⟨k, i⟩ := x
  rw [h2] at nm eq
  obtain ⟨t, t1, t2⟩ := nm
  rw [t1]
  have eq : heaterZ b ws = if k = 0 then (if b.heaters.length = 8 then (4, b) else (0, { b with heaters := b.heaters ++ [⟨wd ws 1, i, m.toNat⟩] })) else (3, b) := eq
  refine st_seq ?_
  simp only [ev3, ev, ev2, ev4, sl, eq1, exl, exists_and_left, and_assoc, true_and, at0, at1, at2, Int.toNat_natCast, Option.getD_some, isNon, if_true, if_false, Bool.false_eq_true, PBB.x.k t2, List.length_cons, List.length_nil]
  by_cases hk : k = 0
  · rw [if_neg (by rw [decide_eq_true (by omega)]; decide)]
    rw [if_pos hk] at eq
    refine st_seq ?_
    simp only [ev3, ev, ev2, ev4, sl, eq1, exl, exists_and_left, and_assoc, true_and, at0, at1, at2, Int.toNat_natCast, PBB.x.k PBB.ob, PBB.x.g 7, List.length_map, PBB.hs.1]
    by_cases h8 : b.heaters.length = 8
    · rw [if_pos (decide_eq_true (by omega))]
      exact same 4 (by rw [eq, if_pos h8]) H2 k2
    rw [if_neg (by rw [decide_eq_false (by omega)]; decide)]
    refine st_seq ?_
    simp only [ev3, ev, ev2, ev4, sl, eq1, exl, exists_and_left, and_assoc, true_and, at0, at1, at2, Int.toNat_natCast, PBB.x.k PBB.ob, PBB.x.k W.l, e1, PBB.x.k t2]
    refine ⟨pF_no r, ?_⟩
    refine ⟨p, a, dx, i, m.toNat, F, r, wd ws 1, b, by unfold natV; rw [show ((m.toNat : Nat) : Int) = m by omega], ⟨kvs, ra, oa, la, ha, PBB⟩, e2, hs, wf.few, fun F' H' kf B' => ?_⟩
    exact out 0 _ (by rw [eq, if_neg h8]) F' H' kf B'
  · rw [if_pos (by rw [decide_eq_false (by omega)]; decide)]
    exact same 3 (by rw [eq, if_neg hk]) H2 k2
end
end WR
end PartWt2
section PartWt3
set_option Elab.async false
set_option linter.all false
set_option maxRecDepth 100000
set_option maxHeartbeats 4000000
namespace WR
open PySem PySem.Spec PyProof.Rows L2 WH
section
variable {P : Program} {w : World} {K : PySem.W.Frag} {mg : Str → Option Value} {base : Heap}
theorem split_piece {c : Nat} : ∀ {l : List Nat} {w : List Nat}, w ∈ Vbbcab.splitAt c l → w.length ≤ l.length
  | [], w, h => by
    rw [List.mem_singleton.mp h]
    exact Nat.le_refl _
  | x :: r, w, h => by
    obtain ⟨y, m, e⟩ := split_ne c r
    rw [split_cons, e] at h
    have h : w ∈ (if x = c then [] :: (y :: m) else (x :: y) :: m) := h
    have ih : ∀ w ∈ y :: m, w.length ≤ r.length := fun w hw => split_piece (c := c) (by rw [e]; exact hw)
    rw [List.length_cons]
    split at h
    · rcases List.mem_cons.mp h with rfl | h
      · exact Nat.zero_le _
      · exact Nat.le_succ_of_le (ih w h)
    · rcases List.mem_cons.mp h with rfl | h
      · have := ih y (List.mem_cons_self ..)
        rw [List.length_cons]
        omega
      · exact Nat.le_succ_of_le (ih w (List.mem_cons_of_mem _ h))
theorem PB.allN {K : PySem.W.Frag} {F H H1 : Hp} {p dx : Addr} {r : PR} {kvs : List (List Key × V)} {ra oa la ha : List Addr} {b : Vbbcab.Building} (h : PB K F H p dx r kvs ra oa la ha b) {l : List (Addr × HO)} (x : Ext H H1 l) {a : Addr} {o : HO} (m : (a, o) ∈ l) :
    hide ((bE r kvs ra oa la ha b).map (·.1)) H1 a = some o := by
  rw [hide_ne fun hm => ?_]
  · exact x.has _ m
  · obtain ⟨q, hq, e2⟩ := List.mem_map.mp hm
    have h1 := h.x.has q hq
    have h2 := x.fr _ m
    rw [e2, show H a = none from h2] at h1
    cases h1
theorem nameI_inj {w v : List Nat} : nameI w = nameI v ↔ w = v := by
  constructor
  · intro h
    exact (List.map_inj_right fun a c e => by
      have e2 : (a : Int) = (c : Int) := e
      omega).mp h
  · rintro rfl
    rfl
theorem word_cps : ((("room" : Str).cps.toList = Vbbcab.word "room") ∧ (("outside" : Str).cps.toList = Vbbcab.word "outside")) ∧ (("link" : Str).cps.toList = Vbbcab.word "link") ∧ (("heater" : Str).cps.toList = Vbbcab.word "heater") := by decide +kernel
def lineZ (b : Vbbcab.Building) (ws : List (List Nat)) : Nat × Vbbcab.Building :=
  if wd ws 0 = Vbbcab.word "room" then roomZ b ws else if wd ws 0 = Vbbcab.word "outside" then outsideZ b ws else if wd ws 0 = Vbbcab.word "link" then linkZ b ws else if wd ws 0 = Vbbcab.word "heater" then heaterZ b ws else (1, b)
def sp_line_fault (K : PySem.W.Frag) : Sp := fun vs H Q _ => ∃ (p la dx : Addr) (F : Hp) (r : PR) (t : List Nat) (b : Vbbcab.Building), vs = [.ref p, .ref la] ∧ PBx K F H p dx r b ∧ NameAt F la t ∧ t.length ≤ 4000 ∧ WfB b ∧
  ∀ F' H', Keeps F F' → PBx K F' H' p dx r (lineZ b (Vbbcab.splitAt 32 t)).2 → Q (natV (lineZ b (Vbbcab.splitAt 32 t)).1) H'
abbrev N_line_fault : List Str := ["plan", "line", "words", "first"]
theorem sc_line_fault : FnScope N_line_fault ["plan", "line"] (defScope s_line_fault) := ⟨rfl, rfl, rfl, by decide +kernel, rfl, by decide +kernel, by decide +kernel⟩
theorem st_line_fault (x0 x1 : V) : start N_line_fault [x0, x1] = [some x0, some x1, none, none] := rfl
theorem ok_line_fault (e : Env K mg) : Ok P w K mg base 5 (He.ga K "line_fault") ["plan", "line"] (sp_line_fault K) := by
  refine ok_of e.fun_line_fault sc_line_fault (fun _ _ _ _ _ _ us hl => match us, hl with | [_, _], _ => rfl) (by rintro _ _ _ _ ⟨p, la, dx, F, r, t, b, rfl, B, hl, ht, wf, q⟩; rfl) ?_
  intro cdv A outer s0 H vs Q E hr hsp
  have sc := sc_line_fault
  have hu := hu_of hr
  have G_cut_at := ok_cut_at (P := P) (w := w) (base := base) e
  have G_octets_of := ok_octets_of (P := P) (w := w) (base := base) e
  have G_room_fault := ok_room_fault (P := P) (w := w) (base := base) e
  have G_outside_fault := ok_outside_fault (P := P) (w := w) (base := base) e
  have G_link_fault := ok_link_fault (P := P) (w := w) (base := base) e
  have G_heater_fault := ok_heater_fault (P := P) (w := w) (base := base) e
  refine ⟨_, (pss_cons (ps_set (i := 2) sc.nd rfl (Or.inl rfl) (pe_callE G_cut_at (hr.mono (by decide)) e.g_cut_at (pa_cons (pv 1) (pa_cons (pe_gint e.i_BLANK) pa_nil))))
    (pss_cons (ps_set (i := 3) sc.nd rfl (Or.inl rfl) (pe_callTy list_tupN (by rfl) e.f_list bt_list (pa_cons (pe_ix ix_listN (pv 2) pe_int (fun _ _ => rfl)) pa_nil)))
    (pss_cons (ps_if (pt_cmpR (op_eqLN hr.units) (pv 3) (pe_callE G_octets_of (hr.mono (by decide)) e.g_octets_of (pa_cons pe_str pa_nil)) (nomark _))
    (pss_one (ps_ret (pe_callE G_room_fault (hr.mono (by decide)) e.g_room_fault (pa_cons (pv 0) (pa_cons (pv 2) pa_nil)))))
    pss_nil)
    (pss_cons (ps_if (pt_cmpR (op_eqLN hr.units) (pv 3) (pe_callE G_octets_of (hr.mono (by decide)) e.g_octets_of (pa_cons pe_str pa_nil)) (nomark _))
    (pss_one (ps_ret (pe_callE G_outside_fault (hr.mono (by decide)) e.g_outside_fault (pa_cons (pv 0) (pa_cons (pv 2) pa_nil)))))
    pss_nil)
    (pss_cons (ps_if (pt_cmpR (op_eqLN hr.units) (pv 3) (pe_callE G_octets_of (hr.mono (by decide)) e.g_octets_of (pa_cons pe_str pa_nil)) (nomark _))
    (pss_one (ps_ret (pe_callE G_link_fault (hr.mono (by decide)) e.g_link_fault (pa_cons (pv 0) (pa_cons (pv 2) pa_nil)))))
    pss_nil)
    (pss_one (ps_ret (pe_ifExp (pt_cmpR (op_eqLN hr.units) (pv 3) (pe_callE G_octets_of (hr.mono (by decide)) e.g_octets_of (pa_cons pe_str pa_nil)) (nomark _)) (pe_callE G_heater_fault (hr.mono (by decide)) e.g_heater_fault (pa_cons (pv 0) (pa_cons (pv 2) pa_nil))) (pe_gint e.i_FORM))))))))), ?_⟩
  obtain ⟨p, la, dx, F, r, t, b, rfl, B, hl, ht, wf, q⟩ := hsp
  rw [st_line_fault]
  have hl' : F la = some (.tup (zs (nameI t))) := hl
  refine st_seq ?_
  simp only [ev3, ev, ev2, ev4, sl, eq1, exl, exists_and_left, and_assoc, true_and, at0, at1, at2, Int.toNat_natCast]
  refine ⟨la, 32, t, rfl, .inr (B.k hl'), ht, fun H1 wl as x1 al => ?_⟩
  obtain ⟨kvs, ra, oa, la', ha, PB0⟩ := B
  have PB1 := (PB0.grow x1.keeps).all
  have W : Words _ wl as (Vbbcab.splitAt 32 t) := ⟨PB0.allN x1 (List.mem_singleton.mpr rfl), al.imp fun a w h => (PB0.grow x1.keeps).allT h, fun w hw => Nat.le_trans (split_piece hw) ht⟩
  have kF := (PB0.grow x1.keeps).x.allK
  have wl0 : 0 < (Vbbcab.splitAt 32 t).length := by
    obtain ⟨y, m, e⟩ := split_ne 32 t
    rw [e]
    exact Nat.zero_lt_succ _
  generalize Vbbcab.splitAt 32 t = ws at *
  generalize hide ((bE r kvs ra oa la' ha b).map (·.1)) H1 = F1 at *
  obtain ⟨a, e1, e2, e3⟩ := W.at_ (i := 0) wl0
  have e1 : atI (as.map V.ref) 0 = some (.ref a) := e1
  have e2' : H1 a = some (.tup (zs (nameI (wd ws 0)))) := PB1.x.k e2
  refine st_seq ?_
  simp only [ev3, ev, ev2, ev4, sl, eq1, exl, exists_and_left, and_assoc, true_and, at0, at1, at2, Int.toNat_natCast, PB1.x.k W.l, e1, e2']
  intro l0 H2 x2
  have B2 : PBx K F1 H2 p dx r b := ⟨kvs, ra, oa, la', ha, PB1.grow x2.keeps⟩
  have hl0 := x2.g 0
  clear x2
  refine st_seq ?_
  simp only [ev3, ev, ev2, ev4, sl, eq1, exl, exists_and_left, and_assoc, true_and, at0, at1, at2, Int.toNat_natCast]
  refine ⟨"room", rfl, by decide +kernel, fun H3 t3 x3 => ?_⟩
  have B3 := B2.grow x3.keeps
  have hl3 : H3 l0 = _ := x3.k hl0
  have ht3 := x3.g 0
  rw [word_cps.1.1] at ht3
  refine ⟨l0, t3, _, _, rfl, rfl, hl3, ht3, _, rfl, ?_⟩
  by_cases hroom : wd ws 0 = Vbbcab.word "room"
  · rw [if_pos (decide_eq_true (nameI_inj.mpr hroom))]
    have eq : lineZ b ws = roomZ b ws := by
      unfold lineZ
      rw [if_pos hroom]
    rw [eq] at q
    exact ⟨p, wl, dx, F1, r, as, ws, b, rfl, B3, W, wf, fun F' H' k B' => q F' H' (kF.trans k) B'⟩
  rw [if_neg (by rw [decide_eq_false fun z => hroom (nameI_inj.mp z)]; decide)]
  refine st_seq ?_
  simp only [ev3, ev, ev2, ev4, sl, eq1, exl, exists_and_left, and_assoc, true_and, at0, at1, at2, Int.toNat_natCast]
  refine ⟨"outside", rfl, by decide +kernel, fun H4 t4 x4 => ?_⟩
  have B4 := B3.grow x4.keeps
  have hl4 : H4 l0 = _ := x4.k hl3
  have ht4 := x4.g 0
  rw [word_cps.1.2] at ht4
  refine ⟨l0, t4, _, _, rfl, rfl, hl4, ht4, _, rfl, ?_⟩
  by_cases houtside : wd ws 0 = Vbbcab.word "outside"
  · rw [if_pos (decide_eq_true (nameI_inj.mpr houtside))]
    have eq : lineZ b ws = outsideZ b ws := by
      unfold lineZ
      rw [if_neg hroom, if_pos houtside]
    rw [eq] at q
    exact ⟨p, wl, dx, F1, r, as, ws, b, rfl, B4, W, wf, fun F' H' k B' => q F' H' (kF.trans k) B'⟩
  rw [if_neg (by rw [decide_eq_false fun z => houtside (nameI_inj.mp z)]; decide)]
  refine st_seq ?_
  simp only [ev3, ev, ev2, ev4, sl, eq1, exl, exists_and_left, and_assoc, true_and, at0, at1, at2, Int.toNat_natCast]
  refine ⟨"link", rfl, by decide +kernel, fun H5 t5 x5 => ?_⟩
  have B5 := B4.grow x5.keeps
  have hl5 : H5 l0 = _ := x5.k hl4
  have ht5 := x5.g 0
  rw [word_cps.2.1] at ht5
  refine ⟨l0, t5, _, _, rfl, rfl, hl5, ht5, _, rfl, ?_⟩
  by_cases hlink : wd ws 0 = Vbbcab.word "link"
  · rw [if_pos (decide_eq_true (nameI_inj.mpr hlink))]
    have eq : lineZ b ws = linkZ b ws := by
      unfold lineZ
      rw [if_neg hroom, if_neg houtside, if_pos hlink]
    rw [eq] at q
    exact ⟨p, wl, dx, F1, r, as, ws, b, rfl, B5, W, wf, fun F' H' k B' => q F' H' (kF.trans k) B'⟩
  rw [if_neg (by rw [decide_eq_false fun z => hlink (nameI_inj.mp z)]; decide)]
  refine ⟨"heater", rfl, by decide +kernel, fun H6 t6 x6 => ?_⟩
  have B6 := B5.grow x6.keeps
  have hl6 : H6 l0 = _ := x6.k hl5
  have ht6 := x6.g 0
  rw [word_cps.2.2] at ht6
  refine ⟨l0, t6, _, _, rfl, rfl, hl6, ht6, _, rfl, ?_⟩
  by_cases hheater : wd ws 0 = Vbbcab.word "heater"
  · rw [if_pos (decide_eq_true (nameI_inj.mpr hheater))]
    have eq : lineZ b ws = heaterZ b ws := by
      unfold lineZ
      rw [if_neg hroom, if_neg houtside, if_neg hlink, if_pos hheater]
    rw [eq] at q
    exact ⟨p, wl, dx, F1, r, as, ws, b, rfl, B6, W, wf, fun F' H' k B' => q F' H' (kF.trans k) B'⟩
  rw [if_neg (by rw [decide_eq_false fun z => hheater (nameI_inj.mp z)]; decide)]
  have eq : lineZ b ws = (1, b) := by
    unfold lineZ
    rw [if_neg hroom, if_neg houtside, if_neg hlink, if_neg hheater]
  rw [eq] at q
  exact q F1 H6 kF B6
/-- well-made buildings stay well made -/
theorem name_le {w : List Nat} (h : Vbbcab.isName w = true) : w.length ≤ 12 := by
  by_cases q : w.length ≤ 12
  · exact q
  · rw [name_short (.inr q)] at h
    cases h
theorem snoc_name {α : Type} {l : List α} {x : α} {P : α → Prop} (h : ∀ y ∈ l, P y) (hx : P x) : ∀ y ∈ l ++ [x], P y := fun y hy => by
  rcases List.mem_append.mp hy with q | q
  · exact h y q
  · rw [List.mem_singleton.mp q]
    exact hx
theorem roomZ_wf {b : Vbbcab.Building} {ws : List (List Nat)} (B : WfB b) : WfB (roomZ b ws).2 := by
  unfold roomZ
  split
  · exact B
  · rename_i hnm
    split
    · rename_i c f h1 h2
      split
      · exact B
      · split
        · exact B
        · rename_i h12
          have n := B.nr
          have c1 := numZ_in h1
          have f1 := numZ_in h2
          refine ⟨?_, B.no, B.nl, B.nh, ?_, ?_, B.outw, ?_, B.apart, B.g, ?_, B.most, snoc_name B.rname (name_le (Decidable.not_not.mp hnm).2), B.oname, B.hname⟩
          · show (b.rooms ++ [_]).length ≤ 12
            rw [List.length_append, List.length_singleton]
            omega
          · intro r hr
            rcases List.mem_append.mp hr with h | h
            · exact B.cap r h
            · rw [List.mem_singleton.mp h]
              show c.toNat ≤ 10
              omega
          · intro r hr
            rcases List.mem_append.mp hr with h | h
            · exact B.warm r h
            · rw [List.mem_singleton.mp h]
              show f.natAbs ≤ 100000
              omega
          · intro l hl
            have := B.ends l hl
            show (if _ then _ else _ < (b.rooms ++ [_]).length) ∧ (if _ then _ else _ < (b.rooms ++ [_]).length)
            rw [List.length_append, List.length_singleton]
            refine ⟨?_, ?_⟩
            · have := this.1
              split <;> rename_i q
              · rw [if_pos q] at this
                exact this
              · rw [if_neg q] at this
                omega
            · have := this.2
              split <;> rename_i q
              · rw [if_pos q] at this
                exact this
              · rw [if_neg q] at this
                omega
          · intro h hh
            have := B.hroom h hh
            show _ < (b.rooms ++ [_]).length
            rw [List.length_append, List.length_singleton]
            omega
    · exact B
theorem outsideZ_wf {b : Vbbcab.Building} {ws : List (List Nat)} (B : WfB b) : WfB (outsideZ b ws).2 := by
  unfold outsideZ
  split
  · exact B
  · rename_i hnm
    split
    · rename_i f h2
      split
      · exact B
      · split
        · exact B
        · rename_i h12
          have n := B.no
          have f1 := numZ_in h2
          refine ⟨B.nr, ?_, B.nl, B.nh, B.cap, B.warm, ?_, ?_, B.apart, B.g, B.hroom, B.most, B.rname, snoc_name B.oname (name_le (Decidable.not_not.mp hnm).2), B.hname⟩
          · show (b.outs ++ [_]).length ≤ 4
            rw [List.length_append, List.length_singleton]
            omega
          · intro r hr
            rcases List.mem_append.mp hr with h | h
            · exact B.outw r h
            · rw [List.mem_singleton.mp h]
              show f.natAbs ≤ 100000
              omega
          · intro l hl
            have := B.ends l hl
            show (if _ then _ < (b.outs ++ [_]).length else _) ∧ (if _ then _ < (b.outs ++ [_]).length else _)
            rw [List.length_append, List.length_singleton]
            refine ⟨?_, ?_⟩
            · have := this.1
              split <;> rename_i q
              · rw [if_pos q] at this
                omega
              · rw [if_neg q] at this
                exact this
            · have := this.2
              split <;> rename_i q
              · rw [if_pos q] at this
                omega
              · rw [if_neg q] at this
                exact this
    · exact B
theorem endOf_ok {b : Vbbcab.Building} {w : List Nat} {n : Nat} (B : WfB b) (h : endOf b w = some n) : if Vbbcab.isOut n = true then idx n < b.outs.length else idx n < b.rooms.length := by
  unfold endOf at h
  split at h
  · cases h
  · rename_i k i e
    have n1 := B.nr
    split at h
    · cases h
    · rename_i h2
      cases h
      rcases nameIx_kind e with ⟨rfl, hi⟩ | ⟨rfl, hi⟩ | ⟨rfl, hi⟩
      · rw [if_neg (by decide : ¬ (0 = 1))]
        have e : Vbbcab.isOut i = false := decide_eq_false (by unfold Vbbcab.OUT; omega)
        unfold idx
        rw [e]
        exact hi
      · rw [if_pos rfl]
        have e : Vbbcab.isOut (Vbbcab.OUT + i) = true := decide_eq_true (by omega)
        unfold idx
        rw [e, if_pos rfl, if_pos rfl, Nat.add_sub_cancel_left]
        exact hi
      · exact absurd rfl h2
theorem linkZ_wf {b : Vbbcab.Building} {ws : List (List Nat)} (B : WfB b) : WfB (linkZ b ws).2 := by
  unfold linkZ
  split
  · exact B
  · split
    · rename_i g hg
      split
      · rename_i i j e1 e2
        split
        · exact B
        · rename_i h40
          split
          · exact B
          · rename_i h5
            have n := B.nl
            have g1 := numZ_in hg
            have a1 := endOf_ok B e1
            have a2 := endOf_ok B e2
            simp only [Bool.or_eq_true, decide_eq_true_eq, Bool.and_eq_true, not_or] at h5
            refine ⟨B.nr, B.no, ?_, B.nh, B.cap, B.warm, B.outw, ?_, ?_, ?_, B.hroom, B.most, B.rname, B.oname, B.hname⟩
            · show (b.links ++ [_]).length ≤ 40
              rw [List.length_append, List.length_singleton]
              omega
            · intro l hl
              rcases List.mem_append.mp hl with h | h
              · exact B.ends l h
              · rw [List.mem_singleton.mp h]
                exact ⟨a1, a2⟩
            · intro l hl
              rcases List.mem_append.mp hl with h | h
              · exact B.apart l h
              · rw [List.mem_singleton.mp h]
                exact ⟨h5.1.1, h5.1.2⟩
            · intro l hl
              rcases List.mem_append.mp hl with h | h
              · exact B.g l h
              · rw [List.mem_singleton.mp h]
                show 1 ≤ g.toNat ∧ g.toNat ≤ 100000
                omega
      · exact B
    · exact B
theorem heaterZ_wf {b : Vbbcab.Building} {ws : List (List Nat)} (B : WfB b) : WfB (heaterZ b ws).2 := by
  unfold heaterZ
  split
  · exact B
  · rename_i hnm
    split
    · rename_i m hm
      split
      · exact B
      · split
        · rename_i k i e
          split
          · rename_i hk
            split
            · exact B
            · rename_i h8
              have n := B.nh
              have m1 := numZ_in hm
              have hi : i < b.rooms.length := by
                rcases nameIx_kind e with ⟨h, hi⟩ | ⟨h, hi⟩ | ⟨h, hi⟩
                · exact hi
                · omega
                · omega
              refine ⟨B.nr, B.no, B.nl, ?_, B.cap, B.warm, B.outw, B.ends, B.apart, B.g, ?_, ?_, B.rname, B.oname, snoc_name B.hname (name_le (Decidable.not_not.mp hnm).2.1)⟩
              · show (b.heaters ++ [_]).length ≤ 8
                rw [List.length_append, List.length_singleton]
                omega
              · intro h hh
                rcases List.mem_append.mp hh with q | q
                · exact B.hroom h q
                · rw [List.mem_singleton.mp q]
                  exact hi
              · intro h hh
                rcases List.mem_append.mp hh with q | q
                · exact B.most h q
                · rw [List.mem_singleton.mp q]
                  show m.toNat ≤ 1000000
                  omega
          · exact B
        · exact B
    · exact B
theorem lineZ_wf {b : Vbbcab.Building} {ws : List (List Nat)} (B : WfB b) : WfB (lineZ b ws).2 := by
  unfold lineZ
  split
  · exact roomZ_wf B
  · split
    · exact outsideZ_wf B
    · split
      · exact linkZ_wf B
      · split
        · exact heaterZ_wf B
        · exact B
theorem WfB.empty : WfB {} := ⟨by decide, by decide, by decide, by decide, by simp, by simp, by simp, by simp, by simp, by simp, by simp, by simp, by simp, by simp, by simp⟩
end
end WR
end PartWt3
section PartWt4
set_option Elab.async false
set_option linter.all false
set_option maxRecDepth 100000
set_option maxHeartbeats 4000000
namespace WR
open PySem PySem.Spec PyProof.Rows L2 WH
section
variable {P : Program} {w : World} {K : PySem.W.Frag} {mg : Str → Option Value} {base : Heap}
def linesZ : Nat → Vbbcab.Building → List (List Nat) → Nat × Nat × Vbbcab.Building
  | _, b, [] => (0, 0, b)
  | n, b, t :: r => if 0 < (lineZ b (Vbbcab.splitAt 32 t)).1 then (n + 1, (lineZ b (Vbbcab.splitAt 32 t)).1, (lineZ b (Vbbcab.splitAt 32 t)).2) else linesZ (n + 1) (lineZ b (Vbbcab.splitAt 32 t)).2 r
def looseEnd (x : Nat × Nat × Vbbcab.Building) : Nat × Nat × Vbbcab.Building := if 0 < x.2.1 then x else match looseZ x.2.2 with
  | none => (0, 0, x.2.2)
  | some i => (i + 1, 6, x.2.2)
def planZ (t : List Nat) : Nat × Nat × Vbbcab.Building :=
  if t = [] then (0, 0, {}) else
  if ¬ (Vbbcab.splitAt 10 t).getLast? = some [] then ((Vbbcab.splitAt 10 t).length, 1, {}) else looseEnd (linesZ 0 {} (Vbbcab.splitAt 10 t).dropLast)
/-- a new plan -/
def PlanNew (K : PySem.W.Frag) (H H' : Hp) (p : Addr) (b : Vbbcab.Building) : Prop := ∃ dx r ra oa la ha, PlanAt K H' p dx r ra oa la ha b ∧ ∀ x ∈ [p, r.names, r.rooms, r.caps, r.starts, r.outs, r.weath, r.links, r.heaters], H x = none
theorem atI_end {xs : List V} {x : V} (h : xs[xs.length - 1]? = some x) : atI xs (-1) = some x := by
  rcases List.eq_nil_or_concat xs with rfl | ⟨l, y, rfl⟩
  · cases h
  · rw [List.concat_eq_append] at *
    rw [List.length_append, List.length_singleton, Nat.add_sub_cancel, List.getElem?_append_right (Nat.le_refl _), Nat.sub_self] at h
    cases h
    exact atI_last l _
theorem nameI_nil {w : List Nat} : nameI w = [] ↔ w = [] := List.map_eq_nil_iff
theorem WfB.roomEnds {b : Vbbcab.Building} (B : WfB b) : ∀ l ∈ b.links, RoomEnd l.a b ∧ RoomEnd l.b b := fun l hl => by
  have := B.ends l hl
  unfold RoomEnd
  refine ⟨?_, ?_⟩
  · have := this.1
    cases h : Vbbcab.isOut l.a with
    | true => exact .inl rfl
    | false =>
      rw [h] at this
      exact .inr this
  · have := this.2
    cases h : Vbbcab.isOut l.b with
    | true => exact .inl rfl
    | false =>
      rw [h] at this
      exact .inr this
def sp_plan_of (K : PySem.W.Frag) : Sp := fun vs H Q _ => ∃ (a : Addr) (t : List Nat), vs = [.ref a] ∧ H a = some (.lst (zs (nameI t))) ∧ t.length ≤ 4000 ∧
  ∀ H' u p, Keeps H H' → H' u = some (.tup [.ref p, natV (planZ t).1, natV (planZ t).2.1]) → PlanNew K H H' p (planZ t).2.2 → WfB (planZ t).2.2 → Q (.ref u) H'
abbrev N_plan_of : List Str := ["octets", "plan", "lines", "at", "why", "loose"]
theorem sc_plan_of : FnScope N_plan_of ["octets"] (defScope s_plan_of) := ⟨rfl, rfl, rfl, by decide +kernel, rfl, by decide +kernel, by decide +kernel⟩
theorem st_plan_of (x0 : V) : start N_plan_of [x0] = [some x0, none, none, none, none, none] := rfl
theorem ok_plan_of (e : Env K mg) : Ok P w K mg base 6 (He.ga K "plan_of") ["octets"] (sp_plan_of K) := by
  refine ok_of e.fun_plan_of sc_plan_of (fun _ _ _ _ _ _ us hl => match us, hl with | [_], _ => rfl) (by rintro _ _ _ _ ⟨a, t, rfl, ha, ht, q⟩; rfl) ?_
  intro cdv A outer s0 H vs Q E hr hsp
  have sc := sc_plan_of
  have hu := hu_of hr
  have G_Plan_init := ok_Plan_init (P := P) (w := w) (base := base) e
  have G_cut_at := ok_cut_at (P := P) (w := w) (base := base) e
  have G_line_fault := ok_line_fault (P := P) (w := w) (base := base) e
  have G_Plan_loose_room := ok_Plan_loose_room (P := P) (w := w) (base := base) e
  refine ⟨_, (pss_cons (ps_set (i := 1) sc.nd rfl (Or.inl rfl) (pe_makeN e.k_Plan G_Plan_init (hr.mono (by decide)) e.g_Plan))
    (pss_cons (ps_if (pt_cmpR (op_eqLN hr.units) (pv 0) (pe_lstN pa_nil) (nomark _))
    (pss_one (ps_ret (pe_tupN (pa_cons (pv 1) (pa_cons pe_int (pa_cons pe_int pa_nil))))))
    pss_nil)
    (pss_cons (ps_set (i := 2) sc.nd rfl (Or.inl rfl) (pe_callE G_cut_at (hr.mono (by decide)) e.g_cut_at (pa_cons (pv 0) (pa_cons (pe_gint e.i_LINE_END) pa_nil))))
    (pss_cons (ps_if (pt_cmpR (op_neTN hr.units) (pe_ix ix_listN (pv 2) (pe_un un_neg pe_int) (fun _ _ => rfl)) (pe_tupN pa_nil) (nomark _))
    (pss_one (ps_ret (pe_tupN (pa_cons (pv 1) (pa_cons (pe_callB len_listN (by rfl) e.f_len bt_len (pa_cons (pv 2) pa_nil)) (pa_cons (pe_gint e.i_FORM) pa_nil))))))
    pss_nil)
    (pss_cons (ps_for PassesOwn.never rfl (pi_range1 (by rfl) e.f_range (pa_cons (pe_op op_sub (pe_callB len_listN (by rfl) e.f_len bt_len (pa_cons (pv 2) pa_nil)) pe_int) pa_nil)) (pg_name (i := 3) sc.nd rfl (Or.inl rfl))
    (pss_cons (ps_set (i := 4) sc.nd rfl (Or.inl rfl) (pe_callE G_line_fault (hr.mono (by decide)) e.g_line_fault (pa_cons (pv 1) (pa_cons (pe_ix ix_listN (pv 2) (pv 3) (fun _ _ => rfl)) pa_nil))))
    (pss_one (ps_if (pt_cmpR op_gt (pv 4) pe_int (nomark _))
    (pss_one (ps_ret (pe_tupN (pa_cons (pv 1) (pa_cons (pe_op op_add (pv 3) pe_int) (pa_cons (pv 4) pa_nil))))))
    pss_nil))))
    (pss_cons (ps_set (i := 5) sc.nd rfl (Or.inl rfl) (pe_methE0 (pv 1) e.c_Plan e.m_Plan_loose_room G_Plan_loose_room (hr.mono (by decide))))
    (pss_one (ps_ret (pe_ifExp (pt_cmpR op_isNN (pv 5) pe_non (nomark _)) (pe_tupN (pa_cons (pv 1) (pa_cons pe_int (pa_cons pe_int pa_nil)))) (pe_tupN (pa_cons (pv 1) (pa_cons (pe_op op_add (pv 5) pe_int) (pa_cons (pe_gint e.i_LOOSE) pa_nil))))))))))))), ?_⟩
  obtain ⟨a, t, rfl, ha, ht, q⟩ := hsp
  rw [st_plan_of]
  refine st_cut (fun σ H2 => ∃ p dx r F, σ = [some (.ref a), some (.ref p), none, none, none, none] ∧ Keeps H F ∧ PBx K F H2 p dx r {} ∧ (∀ x ∈ [p, r.names, r.rooms, r.caps, r.starts, r.outs, r.weath, r.links, r.heaters], H x = none)) (fun U hU => ?_) ?_
  · simp only [ev3, ev, ev2, ev4, sl, eq1, exl, exists_and_left, and_assoc, true_and, at0, at1, at2, Int.toNat_natCast]
    intro p dx H1 x1
    refine ⟨p, dx, rfl, x1.g 0, fun H2 r m => ⟨rfl, ?_⟩⟩
    have y := x1.mod1 0 rfl m
    have y1 : Ext H H2 (bE r [] [] [] [] [] {}) := y.pick [0, 1, 2, 3, 4, 5, 6, 7] (by decide)
    have hp : H2 p = some (.ins (He.ga K "Plan") dx (pF r)) := y.g 8
    refine hU _ _ ⟨p, dx, r, _, rfl, y1.allK, ⟨[], [], [], [], [], ?_⟩, ?_⟩
    · refine ⟨y1.all, y1.allG hp fun q hq => ?_, All2.nil, All2.nil, All2.nil, All2.nil, fun w => rfl, Nat.zero_le _⟩
      unfold bE at hq
      simp only [List.mem_cons, List.not_mem_nil, or_false] at hq
      rcases hq with rfl | rfl | rfl | rfl | rfl | rfl | rfl | rfl <;> intro z <;> cases z
    · intro x hx
      simp only [List.mem_cons, List.not_mem_nil, or_false] at hx
      rcases hx with rfl | rfl | rfl | rfl | rfl | rfl | rfl | rfl | rfl
      · exact y.f 8
      · exact y.f 0
      · exact y.f 1
      · exact y.f 2
      · exact y.f 3
      · exact y.f 4
      · exact y.f 5
      · exact y.f 6
      · exact y.f 7
  rintro σ H2 ⟨p, dx, r, F, rfl, kF, B, fr⟩
  have done : ∀ n why b F' H3 H4 u, planZ t = (n, why, b) → Keeps F F' → PBx K F' H3 p dx r b → WfB b → Ext H3 H4 [(u, .tup [.ref p, natV n, natV why])] → Q (.ref u) H4 := by
    intro n why b F' H3 H4 u e kf B' wf x
    rw [e] at q
    obtain ⟨kvs, ra, oa, la, ha', PBB⟩ := B'
    have PBB := PBB.grow x.keeps
    exact q H4 u p ((kF.trans kf).trans PBB.x.keeps) (x.g 0) ⟨dx, r, ra, oa, la, ha', PBB.plan, fr⟩ wf
  refine st_seq ?_
  simp only [ev3, ev, ev2, ev4, sl, eq1, exl, exists_and_left, and_assoc, true_and, at0, at1, at2, Int.toNat_natCast, List.length_nil]
  refine ⟨by decide, fun l0 H3 x3 => ?_⟩
  have B3 := B.grow x3.keeps
  refine ⟨a, l0, nameI t, [], rfl, rfl, B3.k (kF _ _ ha), x3.g 0, _, rfl, ?_⟩
  by_cases h0 : t = []
  · rw [if_pos (decide_eq_true (by rw [h0]; rfl))]
    simp only [ev3, ev, ev2, ev4, sl, eq1, exl, exists_and_left, and_assoc, true_and, at0, at1, at2, Int.toNat_natCast, List.length_cons, List.length_nil]
    exact ⟨by decide, fun u H4 x4 => done 0 0 {} F H3 H4 u (if_pos h0) (fun _ _ h => h) B3 WfB.empty x4⟩
  rw [if_neg (by rw [decide_eq_false fun z => h0 (nameI_nil.mp z)]; decide)]
  have eqp : planZ t = if ¬ (Vbbcab.splitAt 10 t).getLast? = some [] then ((Vbbcab.splitAt 10 t).length, 1, {}) else looseEnd (linesZ 0 {} (Vbbcab.splitAt 10 t).dropLast) := if_neg h0
  refine st_seq ?_
  simp only [ev3, ev, ev2, ev4, sl, eq1, exl, exists_and_left, and_assoc, true_and, at0, at1, at2, Int.toNat_natCast]
  refine ⟨a, 10, t, rfl, .inl (B3.k (kF _ _ ha)), ht, fun H4 ll as x4 al => ?_⟩
  obtain ⟨kvs, ra, oa, la, ha', PB0⟩ := B3
  have PB1 := (PB0.grow x4.keeps).all
  have W : Words _ ll as (Vbbcab.splitAt 10 t) := ⟨PB0.allN x4 (List.mem_singleton.mpr rfl), al.imp fun a w h => (PB0.grow x4.keeps).allT h, fun w hw => Nat.le_trans (split_piece hw) ht⟩
  have kF1 := (PB0.grow x4.keeps).x.allK
  have wl0 : 0 < (Vbbcab.splitAt 10 t).length := by
    obtain ⟨y, m, e⟩ := split_ne 10 t
    rw [e]
    exact Nat.zero_lt_succ _
  have wlen := split_len 10 t
  generalize Vbbcab.splitAt 10 t = ls at *
  generalize hide ((bE r kvs ra oa la ha' {}).map (·.1)) H4 = F1 at *
  have B4 : PBx K F1 H4 p dx r {} := ⟨kvs, ra, oa, la, ha', PB1⟩
  obtain ⟨a1, e1, e2, e3⟩ : ∃ a, as[as.length - 1]? = some a ∧ NameAt F1 a (wd ls (ls.length - 1)) ∧ (wd ls (ls.length - 1)).length ≤ 4000 := by
    obtain ⟨a, e1, e2⟩ := W.a.get (i := ls.length - 1) (List.getElem?_eq_getElem (by omega))
    have e : wd ls (ls.length - 1) = ls[ls.length - 1] := by
      unfold wd
      rw [List.getD_eq_getElem?_getD, List.getElem?_eq_getElem (by omega)]
      rfl
    exact ⟨a, by rw [W.a.1]; exact e1, by rw [e]; exact e2, by rw [e]; exact W.s _ (List.getElem_mem _)⟩
  have elast : ls.getLast? = some (wd ls (ls.length - 1)) := by
    unfold wd
    rw [List.getLast?_eq_getElem?, List.getD_eq_getElem?_getD, List.getElem?_eq_getElem (by omega)]
    rfl
  have e1' : atI (as.map V.ref) (-1) = some (.ref a1) := atI_end (by rw [List.length_map, List.getElem?_map, e1]; rfl)
  refine st_seq ?_
  simp only [ev3, ev, ev2, ev4, sl, eq1, exl, exists_and_left, and_assoc, true_and, at0, at1, at2, Int.toNat_natCast, B4.k W.l, e1', List.length_nil]
  refine ⟨by decide, fun t0 H5 x5 => ?_⟩
  have B5 := B4.grow x5.keeps
  refine ⟨a1, t0, nameI (wd ls (ls.length - 1)), [], rfl, rfl, B5.k e2, x5.g 0, _, rfl, ?_⟩
  by_cases hlast : wd ls (ls.length - 1) = []
  · rw [if_neg (by rw [decide_eq_true (nameI_nil.mpr hlast)]; decide)]
    rw [if_neg (fun z => z (by rw [elast, hlast]))] at eqp
    refine st_cut (fun σ H6 => ∃ v4 v5 b F', σ = [some (.ref a), some (.ref p), some (.ref ll), v4, v5, none] ∧ PBx K F' H6 p dx r b ∧ Keeps F1 F' ∧ WfB b ∧ linesZ 0 {} ls.dropLast = (0, 0, b)) (fun U hU => ?_) ?_
    · refine forR (n := ls.length - 1) (fun Q' q => by
        simp only [ev3, ev, ev2, ev4, sl, eq1, exl, exists_and_left, and_assoc, true_and, at0, at1, at2, Int.toNat_natCast, B5.k W.l, List.length_map, W.a.1]
        rw [show (ls.length : Int) - 1 = ((ls.length - 1 : Nat) : Int) by omega]
        exact q) (by omega)
        (fun i σ H6 => ∃ v4 v5 b F', σ = [some (.ref a), some (.ref p), some (.ref ll), v4, v5, none] ∧ PBx K F' H6 p dx r b ∧ Keeps F1 F' ∧ WfB b ∧ linesZ 0 {} ls.dropLast = linesZ i b (ls.dropLast.drop i))
        ⟨_, _, {}, F1, rfl, B5, fun _ _ h => h, WfB.empty, rfl⟩ ?_ ?_
      · rintro i σ H6 hi ⟨v4, v5, b, F', rfl, B6, k6, wf, eql⟩
        obtain ⟨ai, f1, f2, f3⟩ := W.at_ (i := i) (by omega)
        have hd : ls.dropLast.drop i = wd ls i :: ls.dropLast.drop (i + 1) := by
          rw [List.drop_eq_getElem_cons (by rw [List.length_dropLast]; exact hi), List.getElem_dropLast]
          unfold wd
          rw [List.getD_eq_getElem?_getD, List.getElem?_eq_getElem (by omega)]
          rfl
        rw [hd] at eql
        have eql : linesZ 0 {} ls.dropLast = if 0 < (lineZ b (Vbbcab.splitAt 32 (wd ls i))).1 then (i + 1, (lineZ b (Vbbcab.splitAt 32 (wd ls i))).1, (lineZ b (Vbbcab.splitAt 32 (wd ls i))).2) else linesZ (i + 1) (lineZ b (Vbbcab.splitAt 32 (wd ls i))).2 (ls.dropLast.drop (i + 1)) := eql
        simp only [ev3, ev, ev2, ev4, sl, eq1, exl, exists_and_left, and_assoc, true_and, at0, at1, at2, Int.toNat_natCast]
        refine st_seq ?_
        simp only [ev3, ev, ev2, ev4, sl, eq1, exl, exists_and_left, and_assoc, true_and, at0, at1, at2, Int.toNat_natCast, B6.k (k6 _ _ W.l), f1]
        refine ⟨p, ai, dx, F', r, wd ls i, b, rfl, B6, k6 _ _ f2, f3, wf, fun F'' H7 k7 B7 => ?_⟩
        have wf2 := lineZ_wf (ws := Vbbcab.splitAt 32 (wd ls i)) wf
        generalize lineZ b (Vbbcab.splitAt 32 (wd ls i)) = res at *
        obtain ⟨why, b2⟩ := res
        simp only [ev3, ev, ev2, ev4, sl, eq1, exl, exists_and_left, and_assoc, true_and, at0, at1, at2, Int.toNat_natCast]
        by_cases hw : 0 < why
        · rw [if_pos (decide_eq_true (by omega))]
          rw [if_pos hw] at eql
          simp only [ev3, ev, ev2, ev4, sl, eq1, exl, exists_and_left, and_assoc, true_and, at0, at1, at2, Int.toNat_natCast, List.length_cons, List.length_nil]
          refine ⟨by decide, fun u H8 x8 => done (i + 1) why b2 F'' H7 H8 u ?_ ((kF1.trans k6).trans k7) B7 wf2 x8⟩
          rw [eqp, eql]
          exact if_pos hw
        · rw [if_neg (by rw [decide_eq_false (by omega)]; decide)]
          rw [if_neg hw] at eql
          exact ⟨_, _, B7, k6.trans k7, wf2, eql⟩
      · rintro σ H6 ⟨v4, v5, b, F', rfl, B6, k6, wf, eql⟩
        rw [List.drop_of_length_le (by rw [List.length_dropLast]; exact Nat.le_refl _)] at eql
        exact hU _ _ ⟨_, _, b, F', rfl, B6, k6, wf, eql⟩
    rintro σ H6 ⟨v4, v5, b, F', rfl, B6, k6, wf, eql⟩
    rw [eql] at eqp
    obtain ⟨kvs, ra, oa, la, ha', PB6⟩ := B6
    refine st_cut (fun σ H7 => σ = [some (.ref a), some (.ref p), some (.ref ll), v4, v5, some (optN (looseZ b))] ∧ Keeps H6 H7) (fun U hU => ?_) ?_
    · simp only [ev3, ev, ev2, ev4, sl, eq1, exl, exists_and_left, and_assoc, true_and, at0, at1, at2, Int.toNat_natCast, PB6.x.k PB6.ob]
      exact ⟨pF_no r, p, b, rfl, ⟨dx, r, ra, oa, la, ha', PB6.plan⟩, wf.few, wf.roomEnds, fun x hx => Nat.le_trans (wf.cap x hx) (by decide), fun H7 k7 => hU _ _ ⟨rfl, k7⟩⟩
    rintro σ H7 ⟨rfl, k7⟩
    have B7 : PBx K F' H7 p dx r b := ⟨kvs, ra, oa, la, ha', PB6.grow k7⟩
    have eqp : planZ t = match looseZ b with
      | none => (0, 0, b)
      | some i => (i + 1, 6, b) := eqp
    cases hz : looseZ b with
    | none =>
      rw [hz] at eqp
      simp only [ev3, ev, ev2, ev4, sl, eq1, exl, exists_and_left, and_assoc, true_and, at0, at1, at2, Int.toNat_natCast, optN, isNon, if_true, List.length_cons, List.length_nil]
      exact ⟨by decide, fun u H8 x8 => done 0 0 b F' H7 H8 u eqp (kF1.trans k6) B7 wf x8⟩
    | some i =>
      rw [hz] at eqp
      simp only [ev3, ev, ev2, ev4, sl, eq1, exl, exists_and_left, and_assoc, true_and, at0, at1, at2, Int.toNat_natCast, optN, isNon, if_false, Bool.false_eq_true, List.length_cons, List.length_nil]
      exact ⟨by decide, fun u H8 x8 => done (i + 1) 6 b F' H7 H8 u eqp (kF1.trans k6) B7 wf x8⟩
  · rw [if_pos (by rw [decide_eq_false fun z => hlast (nameI_nil.mp z)]; decide)]
    simp only [ev3, ev, ev2, ev4, sl, eq1, exl, exists_and_left, and_assoc, true_and, at0, at1, at2, Int.toNat_natCast, B5.k W.l, List.length_map, W.a.1, List.length_cons, List.length_nil]
    exact ⟨by decide, fun u H6 x6 => done ls.length 1 {} F1 H5 H6 u (by rw [eqp, if_pos fun z => hlast (by rw [elast] at z; exact Option.some.inj z)]) kF1 B5 WfB.empty x6⟩
end
end WR
end PartWt4
section PartWt5
set_option Elab.async false
set_option linter.all false
set_option maxRecDepth 100000
set_option maxHeartbeats 4000000
namespace WR
open PySem PySem.Spec PyProof.Rows L2 WH
section
variable {P : Program} {w : World} {K : PySem.W.Frag} {mg : Str → Option Value} {base : Heap}
def sp_name_at (K : PySem.W.Frag) : Sp := fun vs H Q _ => ∃ (p ea : Addr) (n : Nat) (b : Vbbcab.Building), vs = [.ref p, .ref ea] ∧ PlanA K H p b ∧ EndAt H ea n ∧ (if Vbbcab.isOut n = true then idx n < b.outs.length else idx n < b.rooms.length) ∧
  ∀ a, NameAt H a (Vbbcab.nodeName b n) → Q (.ref a) H
abbrev N_name_at : List Str := ["plan", "end"]
theorem sc_name_at : FnScope N_name_at ["plan", "end"] (defScope s_name_at) := ⟨rfl, rfl, rfl, by decide +kernel, rfl, by decide +kernel, by decide +kernel⟩
theorem st_name_at (x0 x1 : V) : start N_name_at [x0, x1] = [some x0, some x1] := rfl
theorem ok_name_at (e : Env K mg) : Ok P w K mg base 1 (He.ga K "name_at") ["plan", "end"] (sp_name_at K) := by
  refine ok_of e.fun_name_at sc_name_at (fun _ _ _ _ _ _ us hl => match us, hl with | [_, _], _ => rfl) (by rintro _ _ _ _ ⟨p, ea, n, b, rfl, ⟨dx, r, ra, oa, la, ha, A⟩, he, hn, q⟩; rfl) ?_
  intro cdv A outer s0 H vs Q E hr hsp
  have sc := sc_name_at
  have hu := hu_of hr
  refine ⟨_, (pss_one (ps_ret (pe_ifExp (pt_val (pe_ix ix_tupN (pv 1) pe_int (fun _ _ => rfl))) (pe_ix ix_listN (pe_at e.c_Plan e.n_Plan_outsides (pv 0)) (pe_ix ix_tupN (pv 1) pe_int (fun _ _ => rfl)) (fun _ _ => rfl)) (pe_ix ix_listN (pe_at e.c_Plan e.n_Plan_rooms (pv 0)) (pe_ix ix_tupN (pv 1) pe_int (fun _ _ => rfl)) (fun _ _ => rfl))))), ?_⟩
  obtain ⟨p, ea, n, b, rfl, ⟨dx, r, ra, oa, la, ha, A⟩, he, hn, q⟩ := hsp
  rw [st_name_at]
  have he : H ea = some (.tup [.bl (Vbbcab.isOut n), natV (idx n)]) := he
  simp only [ev3, ev, ev2, ev4, sl, eq1, exl, exists_and_left, and_assoc, true_and, at0, at1, at2, Int.toNat_natCast, he, A.ob, A.ol, A.rl]
  cases ho : Vbbcab.isOut n with
  | true =>
    rw [ho] at hn
    have hn : idx n < b.outs.length := hn
    obtain ⟨a, e1, e2⟩ := A.os.get (List.getElem?_eq_getElem hn)
    rw [if_pos rfl]
    refine ⟨.ref a, atI_nat (by rw [List.getElem?_map, e1]; rfl), q a ?_⟩
    have e : Vbbcab.nodeName b n = b.outs[idx n].name := by
      unfold Vbbcab.nodeName
      have : idx n = n - Vbbcab.OUT := by unfold idx; rw [if_pos ho]
      rw [if_pos ho, ← this, List.getElem?_eq_getElem hn]
      rfl
    rw [e]
    exact e2
  | false =>
    rw [ho] at hn
    have hn : idx n < b.rooms.length := hn
    obtain ⟨a, e1, e2⟩ := A.rs.get (List.getElem?_eq_getElem hn)
    rw [if_neg (by decide)]
    refine ⟨.ref a, atI_nat (by rw [List.getElem?_map, e1]; rfl), q a ?_⟩
    have e : Vbbcab.nodeName b n = b.rooms[idx n].name := by
      unfold Vbbcab.nodeName
      have : idx n = n := by unfold idx; rw [if_neg (by rw [ho]; decide)]
      rw [if_neg (by rw [ho]; decide)]
      simp only [this]
      rw [List.getElem?_eq_getElem (by omega)]
      rfl
    rw [e]
    exact e2
theorem digits_len : ∀ k m : Nat, m < 10 ^ (k + 1) → (Nat.toDigits 10 m).length ≤ k + 1
  | 0, m, h => by
    rw [Nat.toDigits_of_lt_base (by omega)]
    exact Nat.le_refl _
  | k + 1, m, h => by
    by_cases h10 : m < 10
    · rw [Nat.toDigits_of_lt_base h10]
      exact Nat.le_add_left 1 _
    · have t : Nat.toDigits 10 (m / 10) ++ Nat.toDigits 10 (m % 10) = Nat.toDigits 10 (10 * (m / 10) + m % 10) := Nat.toDigits_append_toDigits (by decide) (by omega) (Nat.mod_lt _ (by decide))
      rw [Nat.div_add_mod] at t
      have ih := digits_len k (m / 10) (by rw [Nat.pow_succ] at h; omega)
      rw [← t, List.length_append, Nat.toDigits_of_lt_base (Nat.mod_lt _ (by decide)), List.length_singleton]
      omega
theorem decimal_len {n : Int} (h : n.natAbs < 10 ^ 7) : (Vbbcab.decimal n).length ≤ 8 := by
  unfold Vbbcab.decimal
  rw [List.length_map]
  cases n with
  | ofNat m =>
    show (Nat.repr m).toList.length ≤ 8
    rw [Nat.toList_repr]
    have := digits_len 6 m h
    omega
  | negSucc m =>
    show ("-" ++ Nat.repr (m + 1)).toList.length ≤ 8
    rw [String.toList_append, List.length_append, Nat.toList_repr]
    have := digits_len 6 (m + 1) h
    have e : "-".toList.length = 1 := by decide
    omega
theorem cps_text (n : Int) : (PySem.Str.ofString (toString n)).cps.toList = Vbbcab.decimal n := by
  rw [PySem.Str.ofString_eq_toList]
  rfl
theorem flat_len {α : Type} {f : α → List Nat} {k : Nat} : ∀ {l : List α}, (∀ x ∈ l, (f x).length ≤ k) → (l.flatMap f).length ≤ k * l.length
  | [], _ => Nat.zero_le _
  | x :: r, h => by
    have := flat_len (l := r) fun y hy => h y (List.mem_cons_of_mem _ hy)
    have h1 := h x (List.mem_cons_self ..)
    rw [List.flatMap_cons, List.length_append, List.length_cons, Nat.mul_succ]
    omega
theorem log_small {n : Nat} (h : n < 10 ^ 7) : n.log2 < 1920 := by
  by_cases h0 : n = 0
  · subst h0
    decide
  · rw [Nat.log2_lt h0]
    exact Nat.lt_of_lt_of_le h (by decide +kernel)
theorem nameI_app (a c : List Nat) : zs (nameI (a ++ c)) = zs (nameI a) ++ zs (nameI c) := by rw [nameI, List.map_append]; exact List.map_append
def bl_w (w : List Nat) : List Nat := 32 :: w
def bl_n (n : Int) : List Nat := 32 :: Vbbcab.decimal n
def lineOut (z : List Nat) (ns : List (List Nat)) (ms : List Int) : List Nat := ((z ++ ns.flatMap bl_w) ++ ms.flatMap bl_n) ++ [10]
def sp_line_of (K : PySem.W.Frag) : Sp := fun vs H Q _ => ∃ (z : Str) (nl ml : Addr) (as : List Addr) (ns : List (List Nat)) (ms : List Int), vs = [.str z, .ref nl, .ref ml] ∧ z.cps.size ≤ 20 ∧ H nl = some (.lst (as.map V.ref)) ∧ All2 (NameAt H) as ns ∧
  (∀ w ∈ ns, w.length ≤ 12) ∧ ns.length ≤ 4 ∧ H ml = some (.lst (zs ms)) ∧ (∀ m ∈ ms, m.natAbs < 10 ^ 7) ∧ ms.length ≤ 4 ∧ ∀ H' t, Ext H H' [(t, .lst (zs (nameI (lineOut z.cps.toList ns ms))))] → Q (.ref t) H'
abbrev N_line_of : List Str := ["word", "names", "numbers", "found", "name", "number"]
theorem sc_line_of : FnScope N_line_of ["word", "names", "numbers"] (defScope s_line_of) := ⟨rfl, rfl, rfl, by decide +kernel, rfl, by decide +kernel, by decide +kernel⟩
theorem st_line_of (x0 x1 x2 : V) : start N_line_of [x0, x1, x2] = [some x0, some x1, some x2, none, none, none] := rfl
theorem ok_line_of (e : Env K mg) : Ok P w K mg base 2 (He.ga K "line_of") ["word", "names", "numbers"] (sp_line_of K) := by
  refine ok_of e.fun_line_of sc_line_of (fun _ _ _ _ _ _ us hl => match us, hl with | [_, _, _], _ => rfl) (by rintro _ _ _ _ ⟨z, nl, ml, as, ns, ms, rfl, hz, hnl, al, hw, n4, hml, hm, m4, q⟩; rfl) ?_
  intro cdv A outer s0 H vs Q E hr hsp
  have sc := sc_line_of
  have hu := hu_of hr
  have G_octets_of := ok_octets_of (P := P) (w := w) (base := base) e
  refine ⟨_, (pss_cons (ps_set (i := 3) sc.nd rfl (Or.inl rfl) (pe_callE G_octets_of (hr.mono (by decide)) e.g_octets_of (pa_cons (pv 0) pa_nil)))
    (pss_cons (ps_for PassesOwn.never rfl (pi_list (pv 1)) (pg_name (i := 4) sc.nd rfl (Or.inl rfl))
    (pss_cons (ps_expr (pe_appN (pv 3) (pa_cons (pe_gint e.i_BLANK) pa_nil)))
    (pss_one (ps_expr (pe_extTN (pv 3) (pa_cons (pv 4) pa_nil))))))
    (pss_cons (ps_for PassesOwn.never rfl (pi_list (pv 2)) (pg_name (i := 5) sc.nd rfl (Or.inl rfl))
    (pss_cons (ps_expr (pe_appN (pv 3) (pa_cons (pe_gint e.i_BLANK) pa_nil)))
    (pss_one (ps_expr (pe_extLN (pv 3) (pa_cons (pe_callE G_octets_of (hr.mono (by decide)) e.g_octets_of (pa_cons (pe_callTy call_str_int (by rfl) e.f_str bt_str (pa_cons (pv 5) pa_nil)) pa_nil)) pa_nil))))))
    (pss_one (ps_ret (pe_op op_catN (pv 3) (pe_lstN (pa_cons (pe_gint e.i_LINE_END) pa_nil)))))))), ?_⟩
  obtain ⟨z, nl, ml, as, ns, ms, rfl, hz, hnl, al, hw, n4, hml, hm, m4, q⟩ := hsp
  rw [st_line_of]
  have hz' : z.cps.toList.length ≤ 20 := by rw [Array.length_toList]; exact hz
  have wt : ∀ i, ((ns.take i).flatMap bl_w).length ≤ 13 * ns.length := fun i => by
    have := flat_len (f := bl_w) (k := 13) (l := ns.take i) fun w h => by
      have := hw w (List.mem_of_mem_take h)
      show w.length + 1 ≤ 13
      omega
    have h2 : (ns.take i).length ≤ ns.length := by rw [List.length_take]; omega
    have h3 := Nat.mul_le_mul_left 13 h2
    omega
  have mt : ∀ i, ((ms.take i).flatMap bl_n).length ≤ 9 * ms.length := fun i => by
    have := flat_len (f := bl_n) (k := 9) (l := ms.take i) fun m h => by
      have := decimal_len (hm m (List.mem_of_mem_take h))
      show (Vbbcab.decimal m).length + 1 ≤ 9
      omega
    have h2 : (ms.take i).length ≤ ms.length := by rw [List.length_take]; omega
    have h3 := Nat.mul_le_mul_left 9 h2
    omega
  refine st_seq ?_
  simp only [ev3, ev, ev2, ev4, sl, eq1, exl, exists_and_left, and_assoc, true_and, at0, at1, at2, Int.toNat_natCast]
  refine ⟨z, rfl, by omega, fun H1 f x1 => ?_⟩
  have x1' : Ext H H1 [(f, .lst (zs (nameI (z.cps.toList ++ (ns.take 0).flatMap bl_w))))] := by
    rw [List.take_zero, List.flatMap_nil, List.append_nil]
    exact x1
  refine st_seq (forL (a := nl) (xs := as.map V.ref) (fun Q' q => by simp only [ev3, ev, ev2, ev4, sl, eq1, exl, exists_and_left, and_assoc, true_and, at0, at1, at2, Int.toNat_natCast]; exact q) (x1.k hnl)
    (fun i σ H' => ∃ v4 v5, σ = [some (.str z), some (.ref nl), some (.ref ml), some (.ref f), v4, v5] ∧ Ext H H' [(f, .lst (zs (nameI (z.cps.toList ++ (ns.take i).flatMap bl_w))))]) ⟨_, _, rfl, x1'⟩ (fun i σ H' ⟨_, _, _, x⟩ => x.k hnl) ?_ ?_)
  · rintro i x σ H2 hx ⟨v4, v5, rfl, y⟩
    obtain ⟨a, ha', rfl⟩ := ref_at hx
    have hl : i < ns.length := by
      rw [← al.1]
      exact (List.getElem?_eq_some_iff.mp ha').1
    have hb : ns[i]? = some ns[i] := List.getElem?_eq_getElem hl
    have L := al.2 i a _ ha' hb
    have wl := hw _ (List.getElem_mem hl)
    have snoc : z.cps.toList ++ (ns.take (i + 1)).flatMap bl_w = ((z.cps.toList ++ (ns.take i).flatMap bl_w) ++ [32]) ++ ns[i] := by
      rw [take_snoc hb, List.flatMap_append, List.append_assoc, List.append_assoc, List.flatMap_cons, List.flatMap_nil, List.append_nil]
      rfl
    have wi := wt i
    have L : H a = some (.tup (zs (nameI ns[i]))) := L
    rw [snoc]
    have len : (z.cps.toList ++ (ns.take i).flatMap bl_w).length ≤ 100 := by rw [List.length_append]; omega
    generalize z.cps.toList ++ (ns.take i).flatMap bl_w = S at *
    refine st_seq ?_
    simp only [ev3, ev, ev2, ev4, sl, eq1, exl, exists_and_left, and_assoc, true_and, at0, at1, at2, Int.toNat_natCast, y.g 0]
    refine ⟨size_lt (by rw [nameI_len]; omega), fun H3 pt => ?_⟩
    have y3 := y.put 0 rfl pt
    simp only [ev3, ev, ev2, ev4, sl, eq1, exl, exists_and_left, and_assoc, true_and, at0, at1, at2, Int.toNat_natCast, y3.g 0, y3.k L]
    refine ⟨size_ok (by simp only [List.length_append, List.length_singleton, nameI_len]; omega), fun H4 pt4 => ?_⟩
    have y4 := y3.put 0 rfl pt4
    rw [nameI_app, nameI_app]
    exact y4
  rintro σ H2 ⟨v4, v5, rfl, y⟩
  rw [List.length_map, al.1, List.take_length] at y
  have wi := wt ns.length
  rw [List.take_length] at wi
  have len : (z.cps.toList ++ ns.flatMap bl_w).length ≤ 100 := by rw [List.length_append]; omega
  unfold lineOut at q
  generalize z.cps.toList ++ ns.flatMap bl_w = S at *
  have y' : Ext H H2 [(f, .lst (zs (nameI (S ++ (ms.take 0).flatMap bl_n))))] := by
    rw [List.take_zero, List.flatMap_nil, List.append_nil]
    exact y
  simp only [ev3, ev, ev2, ev4, sl, eq1, exl, exists_and_left, and_assoc, true_and, at0, at1, at2, Int.toNat_natCast]
  refine st_seq (forL (a := ml) (xs := zs ms) (fun Q' q => by simp only [ev3, ev, ev2, ev4, sl, eq1, exl, exists_and_left, and_assoc, true_and, at0, at1, at2, Int.toNat_natCast]; exact q) (y.k hml)
    (fun i σ H' => ∃ v4 v5, σ = [some (.str z), some (.ref nl), some (.ref ml), some (.ref f), v4, v5] ∧ Ext H H' [(f, .lst (zs (nameI (S ++ (ms.take i).flatMap bl_n))))]) ⟨_, _, rfl, y'⟩ (fun i σ H' ⟨_, _, _, x⟩ => x.k hml) ?_ ?_)
  · rintro i x σ H3 hx ⟨v4, v5, rfl, y⟩
    obtain ⟨hi, rfl⟩ := zs_get hx
    have hb : ms[i]? = some (ms.getD i 0) := by rw [List.getD_eq_getElem?_getD, List.getElem?_eq_getElem hi]; rfl
    have hmi := hm _ (List.mem_of_getElem? hb)
    generalize ms.getD i 0 = m at *
    have snoc : S ++ (ms.take (i + 1)).flatMap bl_n = ((S ++ (ms.take i).flatMap bl_n) ++ [32]) ++ Vbbcab.decimal m := by
      rw [take_snoc hb, List.flatMap_append, List.append_assoc, List.append_assoc, List.flatMap_cons, List.flatMap_nil, List.append_nil]
      rfl
    have wi := mt i
    have dl := decimal_len hmi
    rw [snoc]
    have len : (S ++ (ms.take i).flatMap bl_n).length ≤ 200 := by rw [List.length_append]; omega
    generalize S ++ (ms.take i).flatMap bl_n = T at *
    refine st_seq ?_
    simp only [ev3, ev, ev2, ev4, sl, eq1, exl, exists_and_left, and_assoc, true_and, at0, at1, at2, Int.toNat_natCast, y.g 0]
    refine ⟨size_lt (by rw [nameI_len]; omega), fun H4 pt => ?_⟩
    have y3 := y.put 0 rfl pt
    simp only [ev3, ev, ev2, ev4, sl, eq1, exl, exists_and_left, and_assoc, true_and, at0, at1, at2, Int.toNat_natCast, y3.g 0]
    refine ⟨log_small hmi, _, rfl, by rw [← Array.length_toList, cps_text]; omega, fun H5 u x5 => ?_⟩
    have y5 := y3.trans x5
    rw [cps_text] at y5
    refine ⟨u, rfl, _, y5.g 0, _, y5.g 1, size_ok (by simp only [List.length_append, List.length_singleton, nameI_len]; omega), fun H6 pt6 => ?_⟩
    have y6 := y5.put 1 rfl pt6
    rw [nameI_app, nameI_app]
    exact y6.pick [1] (by decide)
  rintro σ H3 ⟨v4, v5, rfl, y⟩
  rw [zs_len, List.take_length] at y
  simp only [ev3, ev, ev2, ev4, sl, eq1, exl, exists_and_left, and_assoc, true_and, at0, at1, at2, Int.toNat_natCast, List.length_cons, List.length_nil]
  refine ⟨by decide, fun l H4 x4 => ?_⟩
  have y4 := y.trans x4
  have ml := mt ms.length
  rw [List.take_length] at ml
  refine ⟨_, y4.g 1, _, y4.g 0, size_ok (by simp only [List.length_append, List.length_cons, List.length_nil, nameI_len]; omega), fun u H5 x5 => q H5 u ?_⟩
  rw [nameI_app]
  exact (y4.trans x5).pick [0] (by decide)
def roomL (r : Vbbcab.Room) : List Nat := lineOut (Vbbcab.word "room") [r.name] [(r.cap : Int), r.first]
def outL (r : Vbbcab.Outside) : List Nat := lineOut (Vbbcab.word "outside") [r.name] [r.first]
def linkL (b : Vbbcab.Building) (l : Vbbcab.Link) : List Nat := lineOut (Vbbcab.word "link") [Vbbcab.nodeName b l.a, Vbbcab.nodeName b l.b] [(l.g : Int)]
def heaterL (b : Vbbcab.Building) (h : Vbbcab.Heater) : List Nat := lineOut (Vbbcab.word "heater") [h.name, Vbbcab.nodeName b h.room] [(h.most : Int)]
def printZ (b : Vbbcab.Building) : List Nat := ((b.rooms.flatMap roomL ++ b.outs.flatMap outL) ++ b.links.flatMap (linkL b)) ++ b.heaters.flatMap (heaterL b)
theorem lineOut_len {z : List Nat} {ns : List (List Nat)} {ms : List Int} (h1 : z.length ≤ 20) (h2 : ns.length ≤ 4) (h3 : ms.length ≤ 4) (h4 : ∀ w ∈ ns, w.length ≤ 12) (h5 : ∀ m ∈ ms, m.natAbs < 10 ^ 7) : (lineOut z ns ms).length ≤ 120 := by
  have a := flat_len (f := bl_w) (k := 13) (l := ns) fun w h => by
    have := h4 w h
    show w.length + 1 ≤ 13
    omega
  have c := flat_len (f := bl_n) (k := 9) (l := ms) fun m h => by
    have := decimal_len (h5 m h)
    show (Vbbcab.decimal m).length + 1 ≤ 9
    omega
  unfold lineOut
  simp only [List.length_append, List.length_singleton]
  have := Nat.mul_le_mul_left 13 h2
  have := Nat.mul_le_mul_left 9 h3
  omega
theorem nodeName_len {b : Vbbcab.Building} (B : WfB b) (n : Nat) : (Vbbcab.nodeName b n).length ≤ 12 := by
  unfold Vbbcab.nodeName
  split
  · cases e : b.outs[n - Vbbcab.OUT]? with
    | none => exact Nat.zero_le _
    | some o => exact B.oname o (List.mem_of_getElem? e)
  · cases e : b.rooms[n]? with
    | none => exact Nat.zero_le _
    | some o => exact B.rname o (List.mem_of_getElem? e)
theorem all2_one {α β : Type} {R : α → β → Prop} {a : α} {b : β} (h : R a b) : All2 R [a] [b] := All2.nil.snoc h
theorem all2_two {α β : Type} {R : α → β → Prop} {a a' : α} {b b' : β} (h : R a b) (h' : R a' b') : All2 R [a, a'] [b, b'] := (All2.nil.snoc h).snoc h'
def sp_printed (K : PySem.W.Frag) : Sp := fun vs H Q _ => ∃ (p : Addr) (b : Vbbcab.Building), vs = [.ref p] ∧ PlanA K H p b ∧ WfB b ∧ ∀ H' t, Ext H H' [(t, .lst (zs (nameI (printZ b))))] → Q (.ref t) H'
abbrev N_printed : List Str := ["plan", "found", "at", "one", "other", "conductance", "name", "room", "most"]
theorem sc_printed : FnScope N_printed ["plan"] (defScope s_printed) := ⟨rfl, rfl, rfl, by decide +kernel, rfl, by decide +kernel, by decide +kernel⟩
theorem st_printed (x0 : V) : start N_printed [x0] = [some x0, none, none, none, none, none, none, none, none] := rfl
theorem ok_printed (e : Env K mg) : Ok P w K mg base 3 (He.ga K "printed") ["plan"] (sp_printed K) := by
  refine ok_of e.fun_printed sc_printed (fun _ _ _ _ _ _ us hl => match us, hl with | [_], _ => rfl) (by rintro _ _ _ _ ⟨p, b, rfl, PA, B, q⟩; rfl) ?_
  intro cdv A outer s0 H vs Q E hr hsp
  have sc := sc_printed
  have hu := hu_of hr
  have G_line_of := ok_line_of (P := P) (w := w) (base := base) e
  have G_name_at := ok_name_at (P := P) (w := w) (base := base) e
  refine ⟨_, (pss_cons (ps_set (i := 1) sc.nd rfl (Or.inl rfl) (pe_lstN pa_nil))
    (pss_cons (ps_for PassesOwn.never rfl (pi_range1 (by rfl) e.f_range (pa_cons (pe_callB len_listN (by rfl) e.f_len bt_len (pa_cons (pe_at e.c_Plan e.n_Plan_rooms (pv 0)) pa_nil)) pa_nil)) (pg_name (i := 2) sc.nd rfl (Or.inl rfl))
    (pss_one (ps_expr (pe_extLN (pv 1) (pa_cons (pe_callE G_line_of (hr.mono (by decide)) e.g_line_of (pa_cons pe_str (pa_cons (pe_lstN (pa_cons (pe_ix ix_listN (pe_at e.c_Plan e.n_Plan_rooms (pv 0)) (pv 2) (fun _ _ => rfl)) pa_nil)) (pa_cons (pe_lstN (pa_cons (pe_ix ix_listN (pe_at e.c_Plan e.n_Plan_caps (pv 0)) (pv 2) (fun _ _ => rfl)) (pa_cons (pe_ix ix_listN (pe_at e.c_Plan e.n_Plan_starts (pv 0)) (pv 2) (fun _ _ => rfl)) pa_nil))) pa_nil)))) pa_nil)))))
    (pss_cons (ps_for PassesOwn.never rfl (pi_range1 (by rfl) e.f_range (pa_cons (pe_callB len_listN (by rfl) e.f_len bt_len (pa_cons (pe_at e.c_Plan e.n_Plan_outsides (pv 0)) pa_nil)) pa_nil)) (pg_name (i := 2) sc.nd rfl (Or.inl rfl))
    (pss_one (ps_expr (pe_extLN (pv 1) (pa_cons (pe_callE G_line_of (hr.mono (by decide)) e.g_line_of (pa_cons pe_str (pa_cons (pe_lstN (pa_cons (pe_ix ix_listN (pe_at e.c_Plan e.n_Plan_outsides (pv 0)) (pv 2) (fun _ _ => rfl)) pa_nil)) (pa_cons (pe_lstN (pa_cons (pe_ix ix_listN (pe_at e.c_Plan e.n_Plan_weather (pv 0)) (pv 2) (fun _ _ => rfl)) pa_nil)) pa_nil)))) pa_nil)))))
    (pss_cons (ps_for PassesOwn.never rfl (pi_list (pe_at e.c_Plan e.n_Plan_links (pv 0))) (pg_tupN (n := 3) rfl (pgs_cons (pg_name (i := 3) sc.nd rfl (Or.inl rfl)) (pgs_cons (pg_name (i := 4) sc.nd rfl (Or.inl rfl)) (pgs_cons (pg_name (i := 5) sc.nd rfl (Or.inl rfl)) pgs_nil))))
    (pss_one (ps_expr (pe_extLN (pv 1) (pa_cons (pe_callE G_line_of (hr.mono (by decide)) e.g_line_of (pa_cons pe_str (pa_cons (pe_lstN (pa_cons (pe_callE G_name_at (hr.mono (by decide)) e.g_name_at (pa_cons (pv 0) (pa_cons (pv 3) pa_nil))) (pa_cons (pe_callE G_name_at (hr.mono (by decide)) e.g_name_at (pa_cons (pv 0) (pa_cons (pv 4) pa_nil))) pa_nil))) (pa_cons (pe_lstN (pa_cons (pv 5) pa_nil)) pa_nil)))) pa_nil)))))
    (pss_cons (ps_for PassesOwn.never rfl (pi_list (pe_at e.c_Plan e.n_Plan_heaters (pv 0))) (pg_tupN (n := 3) rfl (pgs_cons (pg_name (i := 6) sc.nd rfl (Or.inl rfl)) (pgs_cons (pg_name (i := 7) sc.nd rfl (Or.inl rfl)) (pgs_cons (pg_name (i := 8) sc.nd rfl (Or.inl rfl)) pgs_nil))))
    (pss_one (ps_expr (pe_extLN (pv 1) (pa_cons (pe_callE G_line_of (hr.mono (by decide)) e.g_line_of (pa_cons pe_str (pa_cons (pe_lstN (pa_cons (pv 6) (pa_cons (pe_ix ix_listN (pe_at e.c_Plan e.n_Plan_rooms (pv 0)) (pv 7) (fun _ _ => rfl)) pa_nil))) (pa_cons (pe_lstN (pa_cons (pv 8) pa_nil)) pa_nil)))) pa_nil)))))
    (pss_one (ps_ret (pv 1)))))))), ?_⟩
  obtain ⟨p, b, rfl, PA, B, q⟩ := hsp
  rw [st_printed]
  obtain ⟨dx, r, ra, oa, la, ha, A⟩ := id PA
  refine st_seq ?_
  simp only [ev3, ev, ev2, ev4, sl, eq1, exl, exists_and_left, and_assoc, true_and, at0, at1, at2, Int.toNat_natCast, List.length_nil]
  refine ⟨by decide, fun f H1 x1 => ?_⟩
  have n1 := B.nr
  have n2 := B.no
  have n3 := B.nl
  have n4 := B.nh
  have len1 : ∀ i, ((b.rooms.take i).flatMap roomL).length ≤ 120 * 12 := fun i => by
    have := flat_len (f := roomL) (k := 120) (l := b.rooms.take i) fun r hr => by
      have hr := List.mem_of_mem_take hr
      have c1 := B.cap r hr
      have c2 := B.warm r hr
      exact lineOut_len (by decide) (by simp) (by simp) (fun w hw => by rw [List.mem_singleton.mp hw]; exact B.rname r hr) (fun m hm => by
        simp only [List.mem_cons, List.not_mem_nil, or_false] at hm
        rcases hm with rfl | rfl <;> omega)
    have h2 : (b.rooms.take i).length ≤ 12 := by rw [List.length_take]; omega
    omega
  have len2 : ∀ i, ((b.outs.take i).flatMap outL).length ≤ 120 * 4 := fun i => by
    have := flat_len (f := outL) (k := 120) (l := b.outs.take i) fun r hr => by
      have hr := List.mem_of_mem_take hr
      have c2 := B.outw r hr
      exact lineOut_len (by decide) (by simp) (by simp) (fun w hw => by rw [List.mem_singleton.mp hw]; exact B.oname r hr) (fun m hm => by
        rw [List.mem_singleton.mp hm]
        omega)
    have h2 : (b.outs.take i).length ≤ 4 := by rw [List.length_take]; omega
    omega
  have len3 : ∀ i, ((b.links.take i).flatMap (linkL b)).length ≤ 120 * 40 := fun i => by
    have := flat_len (f := linkL b) (k := 120) (l := b.links.take i) fun l hl => by
      have hl := List.mem_of_mem_take hl
      have c2 := B.g l hl
      exact lineOut_len (by decide) (by simp) (by simp) (fun w hw => by
        simp only [List.mem_cons, List.not_mem_nil, or_false] at hw
        rcases hw with rfl | rfl <;> exact nodeName_len B _) (fun m hm => by
        rw [List.mem_singleton.mp hm]
        omega)
    have h2 : (b.links.take i).length ≤ 40 := by rw [List.length_take]; omega
    omega
  have len4 : ∀ i, ((b.heaters.take i).flatMap (heaterL b)).length ≤ 120 * 8 := fun i => by
    have := flat_len (f := heaterL b) (k := 120) (l := b.heaters.take i) fun l hl => by
      have hl := List.mem_of_mem_take hl
      have c2 := B.most l hl
      exact lineOut_len (by decide) (by simp) (by simp) (fun w hw => by
        simp only [List.mem_cons, List.not_mem_nil, or_false] at hw
        rcases hw with rfl | rfl
        · exact B.hname l hl
        · exact nodeName_len B _) (fun m hm => by
        rw [List.mem_singleton.mp hm]
        omega)
    have h2 : (b.heaters.take i).length ≤ 8 := by rw [List.length_take]; omega
    omega
  have x1' : Ext H H1 [(f, .lst (zs (nameI ((b.rooms.take 0).flatMap roomL))))] := x1
  refine st_seq (forR (n := b.rooms.length) (fun Q' q => by simp only [ev3, ev, ev2, ev4, sl, eq1, exl, exists_and_left, and_assoc, true_and, at0, at1, at2, Int.toNat_natCast, x1.k A.ob, x1.k A.rl, List.length_map, A.rs.1]; exact q) (by omega)
    (fun i σ H' => ∃ v2 v3 v4 v5 v6 v7 v8, σ = [some (.ref p), some (.ref f), v2, v3, v4, v5, v6, v7, v8] ∧ Ext H H' [(f, .lst (zs (nameI ((b.rooms.take i).flatMap roomL))))]) ⟨_, _, _, _, _, _, _, rfl, x1'⟩ ?_ ?_)
  · rintro i σ H2 hi ⟨v2, v3, v4, v5, v6, v7, v8, rfl, y⟩
    have hb : b.rooms[i]? = some b.rooms[i] := List.getElem?_eq_getElem hi
    obtain ⟨a, e1, e2⟩ := A.rs.get hb
    have ra1 : atI (ra.map V.ref) (i : Int) = some (.ref a) := atI_nat (by rw [List.getElem?_map, e1]; rfl)
    have cp : atI (zs (b.rooms.map fun x => (x.cap : Int))) (i : Int) = some (natV b.rooms[i].cap) := atI_nat (by rw [List.getElem?_map, List.getElem?_map, hb]; rfl)
    have sp : atI (zs (b.rooms.map fun x => x.first)) (i : Int) = some (.int b.rooms[i].first) := atI_nat (by rw [List.getElem?_map, List.getElem?_map, hb]; rfl)
    have c1 := B.cap _ (List.getElem_mem hi)
    have c2 := B.warm _ (List.getElem_mem hi)
    have c3 := B.rname _ (List.getElem_mem hi)
    have snoc : (b.rooms.take (i + 1)).flatMap roomL = (b.rooms.take i).flatMap roomL ++ roomL b.rooms[i] := by
      rw [take_snoc hb, List.flatMap_append, List.flatMap_cons, List.flatMap_nil, List.append_nil]
    have len := len1 i
    rw [snoc]
    generalize (b.rooms.take i).flatMap roomL = S at *
    generalize b.rooms[i] = rm at *
    simp only [ev3, ev, ev2, ev4, sl, eq1, exl, exists_and_left, and_assoc, true_and, at0, at1, at2, Int.toNat_natCast, y.g 0, y.k A.ob, y.k A.rl, ra1, List.length_cons, List.length_nil]
    refine ⟨by decide, fun t1 H3 x3 => ?_⟩
    have z3 := y.trans x3
    simp only [ev3, ev, ev2, ev4, sl, eq1, exl, exists_and_left, and_assoc, true_and, at0, at1, at2, Int.toNat_natCast, z3.k A.ob, z3.k A.caps, z3.k A.starts, cp, sp, List.length_cons, List.length_nil]
    refine ⟨by decide, fun t2 H4 x4 => ?_⟩
    have z4 := z3.trans x4
    refine ⟨"room", t1, t2, [a], [rm.name], [(rm.cap : Int), rm.first], rfl, by decide +kernel, z4.g 1, all2_one (z4.k e2), fun w hw => by rw [List.mem_singleton.mp hw]; exact c3, by simp, z4.g 0, fun m hm => by
        simp only [List.mem_cons, List.not_mem_nil, or_false] at hm
        rcases hm with rfl | rfl <;> omega, by simp, fun H5 t5 x5 => ?_⟩
    have z5 := z4.trans x5
    rw [word_cps.1.1] at z5
    have z5 : Ext H H5 ((t5, .lst (zs (nameI (roomL rm)))) :: (t2, _) :: (t1, _) :: (f, _) :: []) := z5
    have ll : (roomL rm).length ≤ 120 := lineOut_len (by decide) (by simp) (by simp) (fun w hw => by rw [List.mem_singleton.mp hw]; exact c3) (fun m hm => by
        simp only [List.mem_cons, List.not_mem_nil, or_false] at hm
        rcases hm with rfl | rfl <;> omega)
    refine ⟨t5, rfl, _, z5.g 0, _, z5.g 3, size_ok (by simp only [nameI_len]; omega), fun H6 pt => ?_⟩
    have z6 := z5.put 3 rfl pt
    rw [nameI_app]
    exact z6.pick [3] (by decide)
  rintro σ H2 ⟨v2, v3, v4, v5, v6, v7, v8, rfl, y⟩
  rw [List.take_length] at y
  have l1 := len1 b.rooms.length
  rw [List.take_length] at l1
  have q : ∀ H' t, Ext H H' [(t, .lst (zs (nameI (((b.rooms.flatMap roomL ++ b.outs.flatMap outL) ++ b.links.flatMap (linkL b)) ++ b.heaters.flatMap (heaterL b)))))] → Q (.ref t) H' := q
  generalize b.rooms.flatMap roomL = S1 at *
  have y' : Ext H H2 [(f, .lst (zs (nameI (S1 ++ (b.outs.take 0).flatMap outL))))] := by
    rw [List.take_zero, List.flatMap_nil, List.append_nil]
    exact y
  simp only [ev3, ev, ev2, ev4, sl, eq1, exl, exists_and_left, and_assoc, true_and, at0, at1, at2, Int.toNat_natCast]
  refine st_seq (forR (n := b.outs.length) (fun Q' q => by simp only [ev3, ev, ev2, ev4, sl, eq1, exl, exists_and_left, and_assoc, true_and, at0, at1, at2, Int.toNat_natCast, y.k A.ob, y.k A.ol, List.length_map, A.os.1]; exact q) (by omega)
    (fun i σ H' => ∃ v2 v3 v4 v5 v6 v7 v8, σ = [some (.ref p), some (.ref f), v2, v3, v4, v5, v6, v7, v8] ∧ Ext H H' [(f, .lst (zs (nameI (S1 ++ (b.outs.take i).flatMap outL))))]) ⟨_, _, _, _, _, _, _, rfl, y'⟩ ?_ ?_)
  · rintro i σ H2 hi ⟨v2, v3, v4, v5, v6, v7, v8, rfl, y⟩
    have hb : b.outs[i]? = some b.outs[i] := List.getElem?_eq_getElem hi
    obtain ⟨a, e1, e2⟩ := A.os.get hb
    have ra1 : atI (oa.map V.ref) (i : Int) = some (.ref a) := atI_nat (by rw [List.getElem?_map, e1]; rfl)
    have sp : atI (zs (b.outs.map fun x => x.first)) (i : Int) = some (.int b.outs[i].first) := atI_nat (by rw [List.getElem?_map, List.getElem?_map, hb]; rfl)
    have c2 := B.outw _ (List.getElem_mem hi)
    have c3 := B.oname _ (List.getElem_mem hi)
    have snoc : S1 ++ (b.outs.take (i + 1)).flatMap outL = (S1 ++ (b.outs.take i).flatMap outL) ++ outL b.outs[i] := by
      rw [take_snoc hb, List.flatMap_append, List.flatMap_cons, List.flatMap_nil, List.append_nil, List.append_assoc]
    have len := len2 i
    rw [snoc]
    have len : (S1 ++ (b.outs.take i).flatMap outL).length ≤ 10000 := by rw [List.length_append]; omega
    generalize S1 ++ (b.outs.take i).flatMap outL = S at *
    generalize b.outs[i] = rm at *
    simp only [ev3, ev, ev2, ev4, sl, eq1, exl, exists_and_left, and_assoc, true_and, at0, at1, at2, Int.toNat_natCast, y.g 0, y.k A.ob, y.k A.ol, ra1, List.length_cons, List.length_nil]
    refine ⟨by decide, fun t1 H3 x3 => ?_⟩
    have z3 := y.trans x3
    simp only [ev3, ev, ev2, ev4, sl, eq1, exl, exists_and_left, and_assoc, true_and, at0, at1, at2, Int.toNat_natCast, z3.k A.ob, z3.k A.weath, sp, List.length_cons, List.length_nil]
    refine ⟨by decide, fun t2 H4 x4 => ?_⟩
    have z4 := z3.trans x4
    refine ⟨"outside", t1, t2, [a], [rm.name], [rm.first], rfl, by decide +kernel, z4.g 1, all2_one (z4.k e2), fun w hw => by rw [List.mem_singleton.mp hw]; exact c3, by simp, z4.g 0, fun m hm => by
        rw [List.mem_singleton.mp hm]
        omega, by simp, fun H5 t5 x5 => ?_⟩
    have z5 := z4.trans x5
    rw [word_cps.1.2] at z5
    have z5 : Ext H H5 ((t5, .lst (zs (nameI (outL rm)))) :: (t2, _) :: (t1, _) :: (f, _) :: []) := z5
    have ll : (outL rm).length ≤ 120 := lineOut_len (by decide) (by simp) (by simp) (fun w hw => by rw [List.mem_singleton.mp hw]; exact c3) (fun m hm => by
        rw [List.mem_singleton.mp hm]
        omega)
    refine ⟨t5, rfl, _, z5.g 0, _, z5.g 3, size_ok (by simp only [nameI_len]; omega), fun H6 pt => ?_⟩
    have z6 := z5.put 3 rfl pt
    rw [nameI_app]
    exact z6.pick [3] (by decide)
  rintro σ H2 ⟨v2, v3, v4, v5, v6, v7, v8, rfl, y⟩
  rw [List.take_length] at y
  have l2 := len2 b.outs.length
  rw [List.take_length] at l2
  have l2 : (S1 ++ b.outs.flatMap outL).length ≤ 2000 := by rw [List.length_append]; omega
  generalize S1 ++ b.outs.flatMap outL = S2 at *
  have y' : Ext H H2 [(f, .lst (zs (nameI (S2 ++ (b.links.take 0).flatMap (linkL b)))))] := by
    rw [List.take_zero, List.flatMap_nil, List.append_nil]
    exact y
  simp only [ev3, ev, ev2, ev4, sl, eq1, exl, exists_and_left, and_assoc, true_and, at0, at1, at2, Int.toNat_natCast]
  refine st_seq (forL (a := r.links) (xs := la.map V.ref) (fun Q' q => by simp only [ev3, ev, ev2, ev4, sl, eq1, exl, exists_and_left, and_assoc, true_and, at0, at1, at2, Int.toNat_natCast, y.k A.ob]; exact q) (y.k A.ll)
    (fun i σ H' => ∃ v2 v3 v4 v5 v6 v7 v8, σ = [some (.ref p), some (.ref f), v2, v3, v4, v5, v6, v7, v8] ∧ Ext H H' [(f, .lst (zs (nameI (S2 ++ (b.links.take i).flatMap (linkL b)))))]) ⟨_, _, _, _, _, _, _, rfl, y'⟩ (fun i σ H' ⟨_, _, _, _, _, _, _, _, x⟩ => x.k A.ll) ?_ ?_)
  · rintro i x σ H2 hx ⟨v2, v3, v4, v5, v6, v7, v8, rfl, y⟩
    obtain ⟨a, ha', rfl⟩ := ref_at hx
    have hi : i < b.links.length := by
      rw [← A.ls.1]
      exact (List.getElem?_eq_some_iff.mp ha').1
    have hb : b.links[i]? = some b.links[i] := List.getElem?_eq_getElem hi
    have L := A.ls.2 i a _ ha' hb
    have c2 := B.g _ (List.getElem_mem hi)
    have c4 := B.ends _ (List.getElem_mem hi)
    have snoc : S2 ++ (b.links.take (i + 1)).flatMap (linkL b) = (S2 ++ (b.links.take i).flatMap (linkL b)) ++ linkL b b.links[i] := by
      rw [take_snoc hb, List.flatMap_append, List.flatMap_cons, List.flatMap_nil, List.append_nil, List.append_assoc]
    have len := len3 i
    rw [snoc]
    have len : (S2 ++ (b.links.take i).flatMap (linkL b)).length ≤ 10000 := by rw [List.length_append]; omega
    generalize S2 ++ (b.links.take i).flatMap (linkL b) = S at *
    generalize b.links[i] = l at *
    obtain ⟨fa, fb, l1, l2', l3⟩ := L
    simp only [ev3, ev, ev2, ev4, sl, eq1, exl, exists_and_left, and_assoc, true_and, at0, at1, at2, Int.toNat_natCast, y.g 0, y.k l1, List.length_cons, List.length_nil]
    refine ⟨p, fa, l.a, b, rfl, PA.mono y.keeps, y.k l2', c4.1, fun a1 ha1 => ?_⟩
    refine ⟨p, fb, l.b, b, rfl, PA.mono y.keeps, y.k l3, c4.2, fun a2 ha2 => ?_⟩
    refine ⟨by decide, fun t1 H3 x3 => ⟨by decide, fun t2 H4 x4 => ?_⟩⟩
    have z4 := (y.trans x3).trans x4
    have k4 := (x3.trans x4).keeps
    refine ⟨"link", t1, t2, [a1, a2], [Vbbcab.nodeName b l.a, Vbbcab.nodeName b l.b], [(l.g : Int)], rfl, by decide +kernel, z4.g 1, all2_two (k4 _ _ ha1) (k4 _ _ ha2), fun w hw => by
        simp only [List.mem_cons, List.not_mem_nil, or_false] at hw
        rcases hw with rfl | rfl <;> exact nodeName_len B _, by simp, z4.g 0, fun m hm => by
        rw [List.mem_singleton.mp hm]
        omega, by simp, fun H5 t5 x5 => ?_⟩
    have z5 := z4.trans x5
    rw [word_cps.2.1] at z5
    have z5 : Ext H H5 ((t5, .lst (zs (nameI (linkL b l)))) :: (t2, _) :: (t1, _) :: (f, _) :: []) := z5
    have ll : (linkL b l).length ≤ 120 := lineOut_len (by decide) (by simp) (by simp) (fun w hw => by
        simp only [List.mem_cons, List.not_mem_nil, or_false] at hw
        rcases hw with rfl | rfl <;> exact nodeName_len B _) (fun m hm => by
        rw [List.mem_singleton.mp hm]
        omega)
    refine ⟨t5, rfl, _, z5.g 0, _, z5.g 3, size_ok (by simp only [nameI_len]; omega), fun H6 pt => ?_⟩
    have z6 := z5.put 3 rfl pt
    rw [nameI_app]
    exact z6.pick [3] (by decide)
  rintro σ H2 ⟨v2, v3, v4, v5, v6, v7, v8, rfl, y⟩
  rw [List.length_map, A.ls.1, List.take_length] at y
  have l3 := len3 b.links.length
  rw [List.take_length] at l3
  have l3 : (S2 ++ b.links.flatMap (linkL b)).length ≤ 10000 := by rw [List.length_append]; omega
  generalize S2 ++ b.links.flatMap (linkL b) = S3 at *
  have y' : Ext H H2 [(f, .lst (zs (nameI (S3 ++ (b.heaters.take 0).flatMap (heaterL b)))))] := by
    rw [List.take_zero, List.flatMap_nil, List.append_nil]
    exact y
  simp only [ev3, ev, ev2, ev4, sl, eq1, exl, exists_and_left, and_assoc, true_and, at0, at1, at2, Int.toNat_natCast]
  refine st_seq (forL (a := r.heaters) (xs := ha.map V.ref) (fun Q' q => by simp only [ev3, ev, ev2, ev4, sl, eq1, exl, exists_and_left, and_assoc, true_and, at0, at1, at2, Int.toNat_natCast, y.k A.ob]; exact q) (y.k A.hl)
    (fun i σ H' => ∃ v2 v3 v4 v5 v6 v7 v8, σ = [some (.ref p), some (.ref f), v2, v3, v4, v5, v6, v7, v8] ∧ Ext H H' [(f, .lst (zs (nameI (S3 ++ (b.heaters.take i).flatMap (heaterL b)))))]) ⟨_, _, _, _, _, _, _, rfl, y'⟩ (fun i σ H' ⟨_, _, _, _, _, _, _, _, x⟩ => x.k A.hl) ?_ ?_)
  · rintro i x σ H2 hx ⟨v2, v3, v4, v5, v6, v7, v8, rfl, y⟩
    obtain ⟨a, ha', rfl⟩ := ref_at hx
    have hi : i < b.heaters.length := by
      rw [← A.hs.1]
      exact (List.getElem?_eq_some_iff.mp ha').1
    have hb : b.heaters[i]? = some b.heaters[i] := List.getElem?_eq_getElem hi
    have L := A.hs.2 i a _ ha' hb
    have c2 := B.most _ (List.getElem_mem hi)
    have c4 := B.hroom _ (List.getElem_mem hi)
    have c5 := B.hname _ (List.getElem_mem hi)
    have snoc : S3 ++ (b.heaters.take (i + 1)).flatMap (heaterL b) = (S3 ++ (b.heaters.take i).flatMap (heaterL b)) ++ heaterL b b.heaters[i] := by
      rw [take_snoc hb, List.flatMap_append, List.flatMap_cons, List.flatMap_nil, List.append_nil, List.append_assoc]
    have len := len4 i
    rw [snoc]
    have len : (S3 ++ (b.heaters.take i).flatMap (heaterL b)).length ≤ 20000 := by rw [List.length_append]; omega
    generalize S3 ++ (b.heaters.take i).flatMap (heaterL b) = S at *
    generalize b.heaters[i] = h at *
    obtain ⟨na, h1, h2⟩ := L
    have hr : b.rooms[h.room]? = some b.rooms[h.room] := List.getElem?_eq_getElem c4
    obtain ⟨a2, e1, e2⟩ := A.rs.get hr
    have ra1 : atI (ra.map V.ref) (h.room : Int) = some (.ref a2) := atI_nat (by rw [List.getElem?_map, e1]; rfl)
    have e2 : NameAt H a2 (Vbbcab.nodeName b h.room) := by
      unfold Vbbcab.nodeName
      rw [if_neg (by unfold Vbbcab.isOut Vbbcab.OUT; rw [decide_eq_false (by omega)]; decide), hr]
      exact e2
    simp only [ev3, ev, ev2, ev4, sl, eq1, exl, exists_and_left, and_assoc, true_and, at0, at1, at2, Int.toNat_natCast, y.g 0, y.k h1, y.k A.ob, y.k A.rl, ra1, List.length_cons, List.length_nil]
    refine ⟨by decide, fun t1 H3 x3 => ⟨by decide, fun t2 H4 x4 => ?_⟩⟩
    have z4 := (y.trans x3).trans x4
    refine ⟨"heater", t1, t2, [na, a2], [h.name, Vbbcab.nodeName b h.room], [(h.most : Int)], rfl, by decide +kernel, z4.g 1, all2_two (z4.k h2) (z4.k e2), fun w hw => by
        simp only [List.mem_cons, List.not_mem_nil, or_false] at hw
        rcases hw with rfl | rfl
        · exact c5
        · exact nodeName_len B _, by simp, z4.g 0, fun m hm => by
        rw [List.mem_singleton.mp hm]
        omega, by simp, fun H5 t5 x5 => ?_⟩
    have z5 := z4.trans x5
    rw [word_cps.2.2] at z5
    have z5 : Ext H H5 ((t5, .lst (zs (nameI (heaterL b h)))) :: (t2, _) :: (t1, _) :: (f, _) :: []) := z5
    have ll : (heaterL b h).length ≤ 120 := lineOut_len (by decide) (by simp) (by simp) (fun w hw => by
        simp only [List.mem_cons, List.not_mem_nil, or_false] at hw
        rcases hw with rfl | rfl
        · exact c5
        · exact nodeName_len B _) (fun m hm => by
        rw [List.mem_singleton.mp hm]
        omega)
    refine ⟨t5, rfl, _, z5.g 0, _, z5.g 3, size_ok (by simp only [nameI_len]; omega), fun H6 pt => ?_⟩
    have z6 := z5.put 3 rfl pt
    rw [nameI_app]
    exact z6.pick [3] (by decide)
  rintro σ H2 ⟨v2, v3, v4, v5, v6, v7, v8, rfl, y⟩
  rw [List.length_map, A.hs.1, List.take_length] at y
  simp only [ev3, ev, ev2, ev4, sl, eq1, exl, exists_and_left, and_assoc, true_and, at0, at1, at2, Int.toNat_natCast]
  exact q H2 f y
end
end WR
end PartWt5
section PartWr
set_option Elab.async false
set_option linter.all false
set_option maxRecDepth 100000
set_option maxHeartbeats 4000000
namespace WR
open PySem PySem.Spec PyProof.Rows L2 WH
section
variable {P : Program} {w : World} {K : PySem.W.Frag} {mg : Str → Option Value} {base : Heap}
/-! ### the equations -/
def putRow (row : List Int) (n : Nat) (wt : List Int) (i m g : Nat) : List Int := bump (bump row i (g : Int)) (if Vbbcab.isOut m = true then n else idx m) (if Vbbcab.isOut m = true then (g : Int) * wt.getD (idx m) 0 else -(g : Int))
def putZ (rows : List (List Int)) (wt : List Int) (n m g : Nat) : List (List Int) := if Vbbcab.isOut n = true then rows else rows.set (idx n) (putRow (rows.getD (idx n) []) rows.length wt (idx n) m g)
def linkRows (wt : List Int) (rows : List (List Int)) (l : Vbbcab.Link) : List (List Int) := putZ (putZ rows wt l.a l.b l.g) wt l.b l.a l.g
def baseRow (n : Nat) (h : Int) : List Int := (List.replicate (n + 1) 0).set n (64 * h)
def baseRows (n : Nat) (heat : List Int) : List (List Int) := (List.range n).map fun i => baseRow n (heat.getD i 0)
def eqZ (b : Vbbcab.Building) (wt : List Int) (lv : List Nat) : List (List Int) := b.links.foldl (linkRows wt) (baseRows b.rooms.length (heatsZ b.rooms.length b.heaters lv))
theorem upd_upd (H : Hp) (a : Addr) (x y : HO) : upd (upd H a x) a y = upd H a y := by
  funext c
  unfold upd
  split <;> rfl
def sp_put (K : PySem.W.Frag) : Sp := fun vs H Q _ => ∃ (ra wa ea eb : Addr) (as : List Addr) (wt : List Int) (n m g : Nat), vs = [.ref ra, .ref wa, .ref ea, .ref eb, natV g] ∧ H ra = some (.lst (as.map V.ref)) ∧ H wa = some (.lst (zs wt)) ∧ EndAt H ea n ∧ EndAt H eb m ∧ Warm wt ∧ g ≤ 100000 ∧
  (Vbbcab.isOut n = true → Q .non H) ∧ (Vbbcab.isOut n = false → ∃ a row, as[idx n]? = some a ∧ H a = some (.lst (zs row)) ∧ ra ≠ a ∧ wa ≠ a ∧ row.length = as.length + 1 ∧ (if Vbbcab.isOut m = true then idx m < wt.length else idx m < as.length) ∧
    ∀ H', Put H H' a (.lst (zs (putRow row as.length wt (idx n) m g))) → Q .non H')
abbrev N_put : List Str := ["rows", "weather", "here", "there", "conductance", "row"]
theorem sc_put : FnScope N_put ["rows", "weather", "here", "there", "conductance"] (defScope s_put) := ⟨rfl, rfl, rfl, by decide +kernel, rfl, by decide +kernel, by decide +kernel⟩
theorem st_put (x0 x1 x2 x3 x4 : V) : start N_put [x0, x1, x2, x3, x4] = [some x0, some x1, some x2, some x3, some x4, none] := rfl
theorem ok_put (e : Env K mg) : Ok P w K mg base 1 (He.ga K "put") ["rows", "weather", "here", "there", "conductance"] (sp_put K) := by
  refine ok_of e.fun_put sc_put (fun _ _ _ _ _ _ us hl => match us, hl with | [_, _, _, _, _], _ => rfl) (by rintro _ _ _ _ ⟨ra, wa, ea, eb, as, wt, n, m, g, rfl, hra, hwa, he, hf, hw, hg, q1, q2⟩; rfl) ?_
  intro cdv A outer s0 H vs Q E hr hsp
  have sc := sc_put
  have hu := hu_of hr
  refine ⟨_, (pss_one (ps_if (pt_not (pt_val (pe_ix ix_tupN (pv 2) pe_int (fun _ _ => rfl))))
    (pss_cons (ps_set (i := 5) sc.nd rfl (Or.inl rfl) (pe_ix ix_listN (pv 0) (pe_ix ix_tupN (pv 2) pe_int (fun _ _ => rfl)) (fun _ _ => rfl)))
    (pss_cons (ps_augS (pv 5) (pe_ix ix_tupN (pv 2) pe_int (fun _ _ => rfl)) get_listN (pv 4) ip_add set_listN)
    (pss_one (ps_if (pt_val (pe_ix ix_tupN (pv 3) pe_int (fun _ _ => rfl)))
    (pss_one (ps_augS (pv 5) (pe_callB len_listN (by rfl) e.f_len bt_len (pa_cons (pv 0) pa_nil)) get_listN (pe_op op_mulX (pv 4) (pe_ix ix_listN (pv 1) (pe_ix ix_tupN (pv 3) pe_int (fun _ _ => rfl)) (fun _ _ => rfl))) ip_add set_listN))
    (pss_one (ps_augS (pv 5) (pe_ix ix_tupN (pv 3) pe_int (fun _ _ => rfl)) get_listN (pv 4) ip_sub set_listN))))))
    pss_nil)), ?_⟩
  obtain ⟨ra, wa, ea, eb, as, wt, n, m, g, rfl, hra, hwa, he, hf, hw, hg, q1, q2⟩ := hsp
  rw [st_put]
  have he' : H ea = some (.tup [.bl (Vbbcab.isOut n), natV (idx n)]) := he
  have hf' : H eb = some (.tup [.bl (Vbbcab.isOut m), natV (idx m)]) := hf
  simp only [ev3, ev, ev2, ev4, sl, eq1, exl, exists_and_left, and_assoc, true_and, at0, at1, at2, Int.toNat_natCast, he']
  cases ho : Vbbcab.isOut n with
  | true =>
    rw [if_neg (by decide)]
    exact q1 ho
  | false =>
  rw [if_pos (by decide)]
  obtain ⟨a, row, e1, ha, n1, n2, hl, hm, q⟩ := q2 ho
  have hi : idx n < as.length := (List.getElem?_eq_some_iff.mp e1).1
  have e1' : atI (as.map V.ref) ((idx n : Nat) : Int) = some (.ref a) := atI_nat (by rw [List.getElem?_map, e1]; rfl)
  refine st_seq ?_
  simp only [ev3, ev, ev2, ev4, sl, eq1, exl, exists_and_left, and_assoc, true_and, at0, at1, at2, Int.toNat_natCast, hra, he', e1']
  refine st_seq ?_
  simp only [ev3, ev, ev2, ev4, sl, eq1, exl, exists_and_left, and_assoc, true_and, at0, at1, at2, Int.toNat_natCast, ha, he']
  refine ⟨_, at_ints (by omega), by omega, _, rfl, _, ixN_of (by rw [zs_len]; omega), fun H1 pt => ?_⟩
  have x := Ext.hide1 ha
  have y := x.put 0 rfl pt
  have kt : ∀ {c : Addr} {v : List V}, H c = some (.tup v) → H1 c = some (.tup v) := fun {c v} h => y.k (by
    rw [hide_ne fun e => ?_]
    · exact h
    · rw [List.mem_singleton.mp e, ha] at h
      cases h)
  have kr : H1 ra = some (.lst (as.map V.ref)) := y.k (by rw [hide_ne (by simpa using n1)]; exact hra)
  have kw : H1 wa = some (.lst (zs wt)) := y.k (by rw [hide_ne (by simpa using n2)]; exact hwa)
  rw [zs_set] at y
  have y : Ext (hide [a] H) H1 [(a, .lst (zs (bump row (idx n) (g : Int))))] := y
  have l1 := bump_len row (idx n) (g : Int)
  have hput : ∀ H2, Put H1 H2 a (.lst (zs (putRow row as.length wt (idx n) m g))) → Put H H2 a (.lst (zs (putRow row as.length wt (idx n) m g))) := fun H2 p2 => by
    have p2 : H2 = upd H1 a (.lst (zs (putRow row as.length wt (idx n) m g))) := p2
    have pt : H1 = upd H a _ := pt
    show H2 = upd H a _
    rw [p2, pt, upd_upd]
  simp only [ev3, ev, ev2, ev4, sl, eq1, exl, exists_and_left, and_assoc, true_and, at0, at1, at2, Int.toNat_natCast, kt hf']
  cases hom : Vbbcab.isOut m with
  | true =>
    rw [hom] at hm
    have hm : idx m < wt.length := hm
    have hwm : Sm 17 (wt.getD (idx m) 0) := by
      rw [List.getD_eq_getElem?_getD, List.getElem?_eq_getElem hm]
      exact Sm.of_le (hw _ (List.getElem_mem hm)) (by decide)
    simp only [ev3, ev, ev2, ev4, sl, eq1, exl, exists_and_left, and_assoc, true_and, at0, at1, at2, Int.toNat_natCast, if_true, kr, List.length_map, y.g 0]
    refine ⟨_, at_ints (by omega), by omega, ?_⟩
    simp only [ev3, ev, ev2, ev4, sl, eq1, exl, exists_and_left, and_assoc, true_and, at0, at1, at2, Int.toNat_natCast, kw]
    refine ⟨_, at_ints hm, _, rfl, mul_sm (n := 17) (Sm.of_le (m := 100000) (by omega) (by decide)) hwm (by decide), _, ixN_of (by omega), fun H2 pt2 => ?_⟩
    refine q H2 (hput H2 ?_)
    unfold putRow
    rw [hom, if_pos rfl, if_pos rfl]
    rw [zs_set] at pt2
    exact pt2
  | false =>
    rw [hom] at hm
    have hm : idx m < as.length := hm
    simp only [ev3, ev, ev2, ev4, sl, eq1, exl, exists_and_left, and_assoc, true_and, at0, at1, at2, Int.toNat_natCast, Bool.false_eq_true, if_false, y.g 0]
    refine ⟨_, at_ints (by omega), by omega, _, rfl, _, ixN_of (by rw [zs_len]; omega), fun H2 pt2 => ?_⟩
    refine q H2 (hput H2 ?_)
    unfold putRow
    rw [hom, if_neg (by decide), if_neg (by decide)]
    rw [zs_set, Int.sub_eq_add_neg] at pt2
    exact pt2
theorem lcR {ta : TA} {g : TG} {te : TE} {vs : List Nat} {σ : L2.St} {H : Hp} {Q : VK} {n : Nat} (hx : ∀ R : List V → Hp → Prop, R [natV n] H → ta σ H R) (hn : n ≤ 1000000) (Pv : Addr → Nat → Hp → Prop) (h0 : ∀ D, H D = none → Pv D 0 (upd H D (.lst [])))
    (hs : ∀ D i H', i < n → Pv D i H' → g (natV i) (wipe σ vs) H' fun σ2 H2 => wipe σ2 vs = wipe σ vs ∧ te σ2 H2 fun y H4 => ∃ acc, H4 D = some (.lst acc) ∧ acc.length < sizeLine ∧ Pv D (i + 1) (upd H4 D (.lst (acc ++ [y])))) (hd : ∀ D H', Pv D n H' → Q (.ref D) H') : tLc (iRng1 ta) g tYes te vs σ H Q := by
  refine hx _ ⟨(n : Int), rfl, by omega, by omega, fun D hD => ?_⟩
  rw [Int.toNat_natCast]
  refine lc_range (Pv D) (h0 D hD) (fun i H' hi p => ?_) (hd D)
  have e : (0 : Int) + (i : Int) = (i : Int) := Int.zero_add _
  rw [e]
  exact hs D i H' hi p
theorem Ext.perm {H H' : Hp} {l m : List (Addr × HO)} (x : Ext H H' l) (p : l.Perm m) : Ext H H' m := ⟨x.same, fun q hq => x.has q (p.mem_iff.mpr hq), fun q hq => x.fr q (p.mem_iff.mpr hq), (p.map _).nodup_iff.mp x.nd⟩
/-- rows in the heap -/
def rowE : List Addr → List (List Int) → List (Addr × HO)
  | a :: as, r :: rs => (a, .lst (zs r)) :: rowE as rs
  | _, _ => []
theorem rowE_get : ∀ {as : List Addr} {rs : List (List Int)} {i : Nat} {a : Addr} {r : List Int}, as[i]? = some a → rs[i]? = some r → (rowE as rs)[i]? = some (a, .lst (zs r))
  | x :: as, y :: rs, 0, a, r, h1, h2 => by
    cases h1
    cases h2
    rfl
  | x :: as, y :: rs, i + 1, a, r, h1, h2 => rowE_get (as := as) (rs := rs) (i := i) h1 h2
  | [], _, i, a, r, h1, h2 => by cases h1
  | _ :: _, [], i, a, r, h1, h2 => by cases h2
theorem rowE_set : ∀ {as : List Addr} {rs : List (List Int)} {i : Nat} {a : Addr} {r : List Int}, as[i]? = some a → (rowE as rs).set i (a, .lst (zs r)) = rowE as (rs.set i r)
  | x :: as, y :: rs, 0, a, r, h1 => by
    cases h1
    rfl
  | x :: as, y :: rs, i + 1, a, r, h1 => congrArg _ (rowE_set (as := as) (rs := rs) (i := i) h1)
  | [], _, i, a, r, h1 => by cases h1
  | _ :: _, [], i, a, r, h1 => by cases i <;> rfl
theorem rowE_snoc : ∀ {as : List Addr} {rs : List (List Int)} {a : Addr} {r : List Int}, as.length = rs.length → rowE (as ++ [a]) (rs ++ [r]) = rowE as rs ++ [(a, .lst (zs r))]
  | [], [], a, r, _ => rfl
  | x :: as, y :: rs, a, r, h => congrArg _ (rowE_snoc (as := as) (rs := rs) (Nat.succ.inj h))
  | [], _ :: _, a, r, h => by cases h
  | _ :: _, [], a, r, h => by cases h
theorem rep_snoc {α : Type} (n : Nat) (x : α) : List.replicate (n + 1) x = List.replicate n x ++ [x] := List.replicate_succ'
structure RowsOk (rows : List (List Int)) (n : Nat) : Prop where
  l : rows.length = n
  r : ∀ x ∈ rows, x.length = n + 1
theorem putRow_len (row : List Int) (n : Nat) (wt : List Int) (i m g : Nat) : (putRow row n wt i m g).length = row.length := by
  unfold putRow
  rw [bump_len, bump_len]
theorem RowsOk.put {rows : List (List Int)} {k : Nat} (R : RowsOk rows k) {wt : List Int} {n m g : Nat} : RowsOk (putZ rows wt n m g) k := by
  unfold putZ
  split
  · exact R
  · refine ⟨by rw [List.length_set]; exact R.l, fun x hx => ?_⟩
    by_cases h : idx n < rows.length
    · rcases List.mem_or_eq_of_mem_set hx with h | h
      · exact R.r x h
      · rw [h, putRow_len, List.getD_eq_getElem?_getD, List.getElem?_eq_getElem (by assumption)]
        exact R.r _ (List.getElem_mem _)
    · rw [List.set_eq_of_length_le (by omega)] at hx
      exact R.r x hx
theorem RowsOk.links {k : Nat} {wt : List Int} : ∀ (ls : List Vbbcab.Link) {rows : List (List Int)}, RowsOk rows k → RowsOk (ls.foldl (linkRows wt) rows) k
  | [], _, R => R
  | l :: r, rows, R => RowsOk.links r (rows := linkRows wt rows l) (R.put.put)
theorem RowsOk.ofBase (n : Nat) (heat : List Int) : RowsOk (baseRows n heat) n := by
  refine ⟨by unfold baseRows; rw [List.length_map, List.length_range], fun x hx => ?_⟩
  obtain ⟨i, _, rfl⟩ := List.mem_map.mp hx
  unfold baseRow
  rw [List.length_set, List.length_replicate]
theorem eqZ_ok (b : Vbbcab.Building) (wt : List Int) (lv : List Nat) : RowsOk (eqZ b wt lv) b.rooms.length := (RowsOk.ofBase ..).links _
theorem put_step {K : PySem.W.Frag} {H H1 : Hp} {D wa ea eb : Addr} {as : List Addr} {rows : List (List Int)} {wt : List Int} {n m g k : Nat} {Q : VK} (x : Ext H H1 ((D, .lst (as.map V.ref)) :: rowE as rows)) (R : RowsOk rows k) (hl : as.length = k) (hwa : H wa = some (.lst (zs wt)))
    (he : EndAt H ea n) (hf : EndAt H eb m) (hw : Warm wt) (hg : g ≤ 100000) (hn : Vbbcab.isOut n = false → idx n < k) (hm : if Vbbcab.isOut m = true then idx m < wt.length else idx m < k)
    (q : ∀ H2, Ext H H2 ((D, .lst (as.map V.ref)) :: rowE as (putZ rows wt n m g)) → Q .non H2) : sp_put K [.ref D, .ref wa, .ref ea, .ref eb, natV g] H1 Q E0 := by
  refine ⟨D, wa, ea, eb, as, wt, n, m, g, rfl, x.g 0, x.k hwa, x.k he, x.k hf, hw, hg, fun ho => q H1 ?_, fun ho => ?_⟩
  · unfold putZ
    rw [if_pos ho]
    exact x
  · have hn := hn ho
    have er : rows[idx n]? = some (rows.getD (idx n) []) := by rw [List.getD_eq_getElem?_getD, List.getElem?_eq_getElem (by rw [R.l]; exact hn)]; rfl
    have ea' : as[idx n]? = some as[idx n] := List.getElem?_eq_getElem (by omega)
    have eg := rowE_get ea' er
    have es := rowE_set (rs := rows) (r := putRow (rows.getD (idx n) []) rows.length wt (idx n) m g) ea'
    have eg2 : ((D, HO.lst (as.map V.ref)) :: rowE as rows)[idx n + 1]? = some (as[idx n], .lst (zs (rows.getD (idx n) []))) := eg
    refine ⟨as[idx n], rows.getD (idx n) [], ea', x.g (idx n + 1) eg2, x.ne 0 (idx n + 1) rfl eg2 (by omega), fun e => ?_, ?_, ?_, fun H2 pt => q H2 ?_⟩
    · have := x.f (idx n + 1) eg2
      rw [← e, hwa] at this
      cases this
    · rw [R.r _ (List.mem_of_getElem? er), hl]
    · rw [hl]
      exact hm
    · unfold putZ
      rw [if_neg (by rw [ho]; decide)]
      have hl2 : as.length = rows.length := hl.trans R.l.symm
      have eput : putRow (rows.getD (idx n) []) as.length wt (idx n) m g = putRow (rows.getD (idx n) []) rows.length wt (idx n) m g := by rw [hl2]
      rw [eput] at pt
      have z := x.put (idx n + 1) eg2 pt
      rw [← es]
      exact z
def sp_equations (K : PySem.W.Frag) : Sp := fun vs H Q _ => ∃ (p wa l : Addr) (wt : List Int) (lv : List Nat) (b : Vbbcab.Building), vs = [.ref p, .ref wa, .ref l] ∧ PlanA K H p b ∧ H wa = some (.lst (zs wt)) ∧ H l = some (.lst (zs (nzs lv))) ∧ WfB b ∧ WfW b wt lv ∧
  ∀ H' ra as, as.length = b.rooms.length → Ext H H' ((ra, .lst (as.map V.ref)) :: rowE as (eqZ b wt lv)) → Q (.ref ra) H'
abbrev N_equations : List Str := ["plan", "weather", "levels", "many", "at", "rows", "heat", "one", "other", "conductance"]
theorem sc_equations : FnScope N_equations ["plan", "weather", "levels"] (defScope s_equations) := ⟨rfl, rfl, rfl, by decide +kernel, rfl, by decide +kernel, by decide +kernel⟩
theorem st_equations (x0 x1 x2 : V) : start N_equations [x0, x1, x2] = [some x0, some x1, some x2, none, none, none, none, none, none, none] := rfl
theorem ok_equations (e : Env K mg) : Ok P w K mg base 2 (He.ga K "equations") ["plan", "weather", "levels"] (sp_equations K) := by
  refine ok_of e.fun_equations sc_equations (fun _ _ _ _ _ _ us hl => match us, hl with | [_, _, _], _ => rfl) (by rintro _ _ _ _ ⟨p, wa, l, wt, lv, b, rfl, PA, hwa, hl, B, W, q⟩; rfl) ?_
  intro cdv A outer s0 H vs Q E hr hsp
  have sc := sc_equations
  have hu := hu_of hr
  have G_heats := ok_heats (P := P) (w := w) (base := base) e
  have G_put := ok_put (P := P) (w := w) (base := base) e
  refine ⟨_, (pss_cons (ps_set (i := 3) sc.nd rfl (Or.inr rfl) (pe_callB len_listN (by rfl) e.f_len bt_len (pa_cons (pe_at e.c_Plan e.n_Plan_rooms (pv 0)) pa_nil)))
    (pss_cons (ps_setLc (i := 5) (own := [("at", 4)]) rfl sc.nd rfl rfl (sw_true rfl rfl rfl (by decide +kernel)) (pi_range1 (by rfl) e.f_range (pa_cons (pv 3) pa_nil)) (blkOk_by (own := [("at", 4)]) (N := N_equations) (sc := defScope s_equations) (by decide +kernel)) (fun _ _ _ _ _ => (pg_name (i := 4) sc.nd rfl (Or.inl rfl) (Or.inr rfl))) (fun _ _ _ _ _ => pts_nil) (fun _ _ _ _ _ => (pe_op op_repN (pe_lstN (pa_cons pe_int pa_nil)) (pe_op op_add (pv 3) pe_int))))
    (pss_cons (ps_set (i := 6) sc.nd rfl (Or.inl rfl) (pe_callE G_heats (hr.mono (by decide)) e.g_heats (pa_cons (pv 0) (pa_cons (pv 2) pa_nil))))
    (pss_cons (ps_for PassesOwn.never rfl (pi_range1 (by rfl) e.f_range (pa_cons (pv 3) pa_nil)) (pg_name (i := 4) sc.nd rfl (Or.inl rfl))
    (pss_one (ps_asg (pe_op op_mulX pe_int (pe_ix ix_listN (pv 6) (pv 4) (fun _ _ => rfl))) (pg_sub (pe_ix ix_listN (pv 5) (pv 4) (fun _ _ => rfl)) (pv 3) set_listN))))
    (pss_cons (ps_for PassesOwn.never rfl (pi_list (pe_at e.c_Plan e.n_Plan_links (pv 0))) (pg_tupN (n := 3) rfl (pgs_cons (pg_name (i := 7) sc.nd rfl (Or.inl rfl)) (pgs_cons (pg_name (i := 8) sc.nd rfl (Or.inl rfl)) (pgs_cons (pg_name (i := 9) sc.nd rfl (Or.inl rfl)) pgs_nil))))
    (pss_cons (ps_expr (pe_callE G_put (hr.mono (by decide)) e.g_put (pa_cons (pv 5) (pa_cons (pv 1) (pa_cons (pv 7) (pa_cons (pv 8) (pa_cons (pv 9) pa_nil)))))))
    (pss_one (ps_expr (pe_callE G_put (hr.mono (by decide)) e.g_put (pa_cons (pv 5) (pa_cons (pv 1) (pa_cons (pv 8) (pa_cons (pv 7) (pa_cons (pv 9) pa_nil))))))))))
    (pss_one (ps_ret (pv 5)))))))), ?_⟩
  obtain ⟨p, wa, l, wt, lv, b, rfl, PA, hwa, hl, B, W, q⟩ := hsp
  rw [st_equations]
  obtain ⟨dx, r, ra, oa, la, ha, A⟩ := id PA
  have n1 := B.nr
  have n3 := B.nh
  refine st_seq ?_
  simp only [ev3, ev, ev2, ev4, sl, eq1, exl, exists_and_left, and_assoc, true_and, at0, at1, at2, Int.toNat_natCast, A.ob, A.rl, List.length_map, A.rs.1]
  refine st_seq ?_
  simp only [ev3, ev, ev2, ev4, sl, eq1, exl, exists_and_left, and_assoc, true_and, at0, at1, at2, Int.toNat_natCast]
  refine lcR (n := b.rooms.length) (fun R h => by simp only [ev3, ev, ev2, ev4, sl, eq1, exl, exists_and_left, and_assoc, true_and, at0, at1, at2, Int.toNat_natCast]; exact h) (by omega)
    (fun D i H' => ∃ as, as.length = i ∧ Ext H H' ((D, .lst (as.map V.ref)) :: rowE as (List.replicate i (List.replicate (b.rooms.length + 1) 0)))) (fun D hD => ⟨[], rfl, Ext.new hD⟩) ?_ ?_
  · rintro D i H1 hi ⟨as, hl1, x⟩
    simp only [ev3, ev, ev2, ev4, sl, eq1, exl, exists_and_left, and_assoc, true_and, at0, at1, at2, Int.toNat_natCast, wp, List.map_cons, List.map_nil]
    refine ⟨by decide, fun z H2 x2 => ⟨.int 0, x2.g 0, by omega, by omega, fun t H3 x3 => ?_⟩⟩
    rw [show ((b.rooms.length : Int) + 1).toNat = b.rooms.length + 1 by omega, zs_rep] at x3
    have y := (x.trans x2).trans x3
    have y3 : Ext H H3 ((t, .lst (zs (List.replicate (b.rooms.length + 1) 0))) :: (z, .lst [.int 0]) :: (D, .lst (as.map V.ref)) :: rowE as (List.replicate i (List.replicate (b.rooms.length + 1) 0))) := y
    refine ⟨_, y3.g 2, size_lt (by rw [List.length_map]; omega), as ++ [t], by rw [List.length_append, hl1]; rfl, ?_⟩
    have y4 := y3.drop1.put (u := .lst (as.map V.ref ++ [.ref t])) 1 rfl (show Put H3 (upd H3 D (.lst (as.map V.ref ++ [.ref t]))) D (.lst (as.map V.ref ++ [.ref t])) from rfl)
    rw [ref_snoc, rep_snoc, rowE_snoc (by rw [hl1, List.length_replicate])]
    have y5 : Ext H (upd H3 D (.lst (as.map V.ref ++ [.ref t]))) ((t, .lst (zs (List.replicate (b.rooms.length + 1) 0))) :: (D, .lst (as.map V.ref ++ [.ref t])) :: rowE as (List.replicate i (List.replicate (b.rooms.length + 1) 0))) := y4
    exact y5.perm ((List.Perm.swap _ _ _).trans (List.Perm.cons _ (List.perm_append_singleton _ _).symm))
  rintro D H1 ⟨as, hl1, x⟩
  refine st_seq ?_
  simp only [ev3, ev, ev2, ev4, sl, eq1, exl, exists_and_left, and_assoc, true_and, at0, at1, at2, Int.toNat_natCast]
  refine ⟨p, l, lv, b, rfl, PA.mono x.keeps, x.k hl, W.ll, B.hroom, by omega, by omega, fun H2 f x2 => ?_⟩
  have y : Ext H H2 ((f, .lst (zs (heatsZ b.rooms.length b.heaters lv))) :: (D, .lst (as.map V.ref)) :: rowE as (List.replicate b.rooms.length (List.replicate (b.rooms.length + 1) 0))) := x.trans x2
  clear x x2
  have hm := heatsZ_sm (n := b.rooms.length) (hs := b.heaters) W.lev B.nh
  have hlen := heatsZ_len (n := b.rooms.length) (hs := b.heaters) (lv := lv)
  unfold eqZ at q
  generalize heatsZ b.rooms.length b.heaters lv = heat at *
  refine st_seq (forR (n := b.rooms.length) (fun Q' q => by simp only [ev3, ev, ev2, ev4, sl, eq1, exl, exists_and_left, and_assoc, true_and, at0, at1, at2, Int.toNat_natCast]; exact q) (by omega)
    (fun i σ H' => ∃ v4 v7 v8 v9, σ = [some (.ref p), some (.ref wa), some (.ref l), some (natV b.rooms.length), v4, some (.ref D), some (.ref f), v7, v8, v9] ∧
      Ext H H' ((f, .lst (zs heat)) :: (D, .lst (as.map V.ref)) :: rowE as ((List.range b.rooms.length).map fun j => if j < i then baseRow b.rooms.length (heat.getD j 0) else List.replicate (b.rooms.length + 1) 0))) ⟨_, _, _, _, rfl, ?_⟩ ?_ ?_)
  · have e : (List.range b.rooms.length).map (fun j => if j < 0 then baseRow b.rooms.length (heat.getD j 0) else List.replicate (b.rooms.length + 1) 0) = List.replicate b.rooms.length (List.replicate (b.rooms.length + 1) 0) := by
      refine List.ext_getElem (by simp) fun i h1 h2 => ?_
      simp
    rw [e]
    exact y
  · rintro i σ H3 hi ⟨v4, v7, v8, v9, rfl, z⟩
    have ea : as[i]? = some as[i] := List.getElem?_eq_getElem (by omega)
    have er : ((List.range b.rooms.length).map fun j => if j < i then baseRow b.rooms.length (heat.getD j 0) else List.replicate (b.rooms.length + 1) 0)[i]? = some (List.replicate (b.rooms.length + 1) 0) := by
      rw [List.getElem?_map, List.getElem?_range hi]
      simp
    have eset : ((List.range b.rooms.length).map fun j => if j < i then baseRow b.rooms.length (heat.getD j 0) else List.replicate (b.rooms.length + 1) 0).set i (baseRow b.rooms.length (heat.getD i 0)) = (List.range b.rooms.length).map fun j => if j < i + 1 then baseRow b.rooms.length (heat.getD j 0) else List.replicate (b.rooms.length + 1) 0 := by
      refine List.ext_getElem (by simp) fun j h1 h2 => ?_
      rw [List.getElem_set]
      by_cases h : i = j
      · subst h
        simp
      · rw [if_neg h]
        simp only [List.getElem_map, List.getElem_range]
        by_cases h' : j < i
        · rw [if_pos h', if_pos (by omega)]
        · rw [if_neg h', if_neg (by omega)]
    rw [← eset]
    generalize ((List.range b.rooms.length).map fun j => if j < i then baseRow b.rooms.length (heat.getD j 0) else List.replicate (b.rooms.length + 1) 0) = rs at *
    have eg := rowE_get ea er
    have es := rowE_set (rs := rs) (r := baseRow b.rooms.length (heat.getD i 0)) ea
    generalize as[i] = a at *
    have e1 : atI (as.map V.ref) (i : Int) = some (.ref a) := atI_nat (by rw [List.getElem?_map, ea]; rfl)
    have hz : Sm 23 (heat.getD i 0) := hm.getD i
    simp only [ev3, ev, ev2, ev4, sl, eq1, exl, exists_and_left, and_assoc, true_and, at0, at1, at2, Int.toNat_natCast, z.g 0, at_ints (show i < heat.length by omega), z.g 1, e1]
    have eg2 : ((f, HO.lst (zs heat)) :: (D, HO.lst (as.map V.ref)) :: rowE as rs)[i + 2]? = some (a, .lst (zs (List.replicate (b.rooms.length + 1) 0))) := eg
    have ga := z.g (i + 2) eg2
    refine ⟨mul_sm (n := 7) (Sm.of_le (m := 64) (by decide) (by decide)) hz (by decide), ?_⟩
    simp only [ev3, ev, ev2, ev4, sl, eq1, exl, exists_and_left, and_assoc, true_and, at0, at1, at2, Int.toNat_natCast, ga]
    refine ⟨_, ixN_of (by rw [zs_len, List.length_replicate]; omega), fun H4 pt => ?_⟩
    rw [zs_set] at pt
    have z4 := z.put (i + 2) eg2 pt
    rw [← es]
    exact z4
  rintro σ H3 ⟨v4, v7, v8, v9, rfl, z⟩
  have e : (List.range b.rooms.length).map (fun j => if j < b.rooms.length then baseRow b.rooms.length (heat.getD j 0) else List.replicate (b.rooms.length + 1) 0) = baseRows b.rooms.length heat := by
    refine List.map_congr_left fun j hj => ?_
    rw [if_pos (List.mem_range.mp hj)]
  rw [e] at z
  have z := z.tl
  simp only [ev3, ev, ev2, ev4, sl, eq1, exl, exists_and_left, and_assoc, true_and, at0, at1, at2, Int.toNat_natCast]
  refine st_seq (forL (a := r.links) (xs := la.map V.ref) (fun Q' q => by simp only [ev3, ev, ev2, ev4, sl, eq1, exl, exists_and_left, and_assoc, true_and, at0, at1, at2, Int.toNat_natCast, z.k A.ob]; exact q) (z.k A.ll)
    (fun i σ H' => ∃ v4 v7 v8 v9, σ = [some (.ref p), some (.ref wa), some (.ref l), some (natV b.rooms.length), v4, some (.ref D), some (.ref f), v7, v8, v9] ∧
      Ext H H' ((D, .lst (as.map V.ref)) :: rowE as ((b.links.take i).foldl (linkRows wt) (baseRows b.rooms.length heat)))) ⟨_, _, _, _, rfl, z⟩ (fun i σ H' ⟨_, _, _, _, _, x⟩ => x.k A.ll) ?_ ?_)
  · rintro i x σ H4 hx ⟨v4, v7, v8, v9, rfl, y⟩
    obtain ⟨a, ha', rfl⟩ := ref_at hx
    have hi : i < b.links.length := by
      rw [← A.ls.1]
      exact (List.getElem?_eq_some_iff.mp ha').1
    have hb : b.links[i]? = some b.links[i] := List.getElem?_eq_getElem hi
    have L := A.ls.2 i a _ ha' hb
    have g1 := B.g _ (List.getElem_mem hi)
    have c4 := B.ends _ (List.getElem_mem hi)
    have R := (RowsOk.ofBase b.rooms.length heat).links (wt := wt) (b.links.take i)
    have snoc : (b.links.take (i + 1)).foldl (linkRows wt) (baseRows b.rooms.length heat) = linkRows wt ((b.links.take i).foldl (linkRows wt) (baseRows b.rooms.length heat)) b.links[i] := by
      rw [take_snoc hb, List.foldl_append]
      rfl
    rw [snoc]
    generalize (b.links.take i).foldl (linkRows wt) (baseRows b.rooms.length heat) = S at *
    generalize b.links[i] = lk at *
    obtain ⟨fa, fb, l1, l2, l3⟩ := L
    have lw := W.lw
    have hin : ∀ {n : Nat}, (if Vbbcab.isOut n = true then idx n < b.outs.length else idx n < b.rooms.length) → Vbbcab.isOut n = false → idx n < b.rooms.length := fun {n} h ho => by
      rw [ho] at h
      exact h
    simp only [ev3, ev, ev2, ev4, sl, eq1, exl, exists_and_left, and_assoc, true_and, at0, at1, at2, Int.toNat_natCast, y.k l1, List.length_cons, List.length_nil]
    refine st_seq ?_
    simp only [ev3, ev, ev2, ev4, sl, eq1, exl, exists_and_left, and_assoc, true_and, at0, at1, at2, Int.toNat_natCast]
    refine put_step y R hl1 hwa l2 l3 W.warm g1.2 (hin c4.1) (by rw [lw]; exact c4.2) fun H5 y5 => ?_
    exact put_step y5 R.put hl1 hwa l3 l2 W.warm g1.2 (hin c4.2) (by rw [lw]; exact c4.1) fun H6 y6 => y6
  rintro σ H4 ⟨v4, v7, v8, v9, rfl, y⟩
  rw [List.length_map, A.ls.1, List.take_length] at y
  simp only [ev3, ev, ev2, ev4, sl, eq1, exl, exists_and_left, and_assoc, true_and, at0, at1, at2, Int.toNat_natCast]
  exact q H4 D as hl1 y
end
end WR
end PartWr
section PartWs
set_option Elab.async false
set_option linter.all false
set_option maxRecDepth 100000
set_option maxHeartbeats 4000000
namespace WR
open PySem PySem.Spec PyProof.Rows L2 WH
section
variable {P : Program} {w : World} {K : PySem.W.Frag} {mg : Str → Option Value} {base : Heap}
def clearZ (row lead : List Int) (k : Nat) (d : Int) : List Int := (List.range row.length).map fun j => (lead.getD k 0 * row.getD j 0 - row.getD k 0 * lead.getD j 0) / d
def sp_cleared (K : PySem.W.Frag) : Sp := fun vs H Q _ => ∃ (ro le : Addr) (row lead : List Int) (k : Nat) (d : Int), vs = [.ref ro, .ref le, natV k, .int d] ∧ H ro = some (.lst (zs row)) ∧ H le = some (.lst (zs lead)) ∧ row.length = lead.length ∧ row.length ≤ 100 ∧ k < row.length ∧
  0 < d ∧ Sm 8000 d ∧ SmL 8000 row ∧ SmL 8000 lead ∧ ∀ H' t, Ext H H' [(t, .lst (zs (clearZ row lead k d)))] → Q (.ref t) H'
abbrev N_cleared : List Str := ["row", "lead", "at", "before", "own", "other"]
theorem sc_cleared : FnScope N_cleared ["row", "lead", "at", "before"] (defScope s_cleared) := ⟨rfl, rfl, rfl, by decide +kernel, rfl, by decide +kernel, by decide +kernel⟩
theorem st_cleared (x0 x1 x2 x3 : V) : start N_cleared [x0, x1, x2, x3] = [some x0, some x1, some x2, some x3, none, none] := rfl
theorem ok_cleared (e : Env K mg) : Ok P w K mg base 1 (He.ga K "cleared") ["row", "lead", "at", "before"] (sp_cleared K) := by
  refine ok_of e.fun_cleared sc_cleared (fun _ _ _ _ _ _ us hl => match us, hl with | [_, _, _, _], _ => rfl) (by rintro _ _ _ _ ⟨ro, le, row, lead, k, d, rfl, h1, h2, hl, hs, hk, hd, sd, s1, s2, q⟩; rfl) ?_
  intro cdv A outer s0 H vs Q E hr hsp
  have sc := sc_cleared
  have hu := hu_of hr
  refine ⟨_, (pss_one (ps_ret (pe_lc (own := [("own", 4), ("other", 5)]) rfl sc.nd (pi_zip (by rfl) e.f_zip (pa_cons (pv 0) (pa_cons (pv 1) pa_nil))) (blkOk_by (own := [("own", 4), ("other", 5)]) (N := N_cleared) (sc := defScope s_cleared) (by decide +kernel)) (fun _ _ _ _ _ => (pg_tupN (n := 2) rfl (pgs_cons (pg_name (i := 4) sc.nd rfl (Or.inl rfl) (Or.inr rfl)) (pgs_cons (pg_name (i := 5) sc.nd rfl (Or.inl rfl) (Or.inr rfl)) pgs_nil)))) (fun _ _ _ _ _ => pts_nil) (fun _ _ _ _ _ => (pe_op op_fdivW (pe_op op_sub (pe_op op_mulX (pe_ix ix_listN (pv 1) (pv 2) (fun _ _ => rfl)) (pv 4)) (pe_op op_mulX (pe_ix ix_listN (pv 0) (pv 2) (fun _ _ => rfl)) (pv 5))) (pv 3)))))), ?_⟩
  obtain ⟨ro, le, row, lead, k, d, rfl, h1, h2, hl, hs, hk, hd, sd, s1, s2, q⟩ := hsp
  rw [st_cleared]
  simp only [ev3, ev, ev2, ev4, sl, eq1, exl, exists_and_left, and_assoc, true_and, at0, at1, at2, Int.toNat_natCast]
  refine lcZ (xs := zs row) (ys := zs lead) (fun j => .int ((lead.getD k 0 * row.getD j 0 - row.getD k 0 * lead.getD j 0) / d)) (fun R h => by simp only [ev3, ev, ev2, ev4, sl, eq1, exl, exists_and_left, and_assoc, true_and, at0, at1, at2, Int.toNat_natCast]; exact h _ _ _ (fun _ _ h => h) h1 h2) (by rw [zs_len]; omega) (fun j x y T H1 hx hy k1 hT R h => ?_) (fun D H' x => q H' D ?_)
  · obtain ⟨i1, rfl⟩ := zs_get hx
    obtain ⟨i2, rfl⟩ := zs_get hy
    simp only [ev3, ev, ev2, ev4, sl, eq1, exl, exists_and_left, and_assoc, true_and, at0, at1, at2, Int.toNat_natCast, wp, List.map_cons, List.map_nil, hT, k1 _ _ h1, k1 _ _ h2, List.length_cons, List.length_nil]
    refine ⟨_, at_ints (by omega), ?_⟩
    refine ⟨_, rfl, mul_sm (s2.getD k) (s1.getD j) (by decide), _, at_ints hk, _, rfl, mul_sm (s1.getD k) (s2.getD j) (by decide), wide_div hd sd (by decide) (by decide), ?_⟩
    exact h H1 fun _ _ h => h
  · rw [zs_len, zs_len, ← hl, Nat.min_self] at x
    have e : (List.range row.length).map (fun j => V.int ((lead.getD k 0 * row.getD j 0 - row.getD k 0 * lead.getD j 0) / d)) = zs (clearZ row lead k d) := by
      unfold clearZ zs
      rw [List.map_map]
      rfl
    rw [e] at x
    exact x
/-- the rows behind k turns -/
def rowK (a : Nat → Nat → Int) (n k i : Nat) : List Int := (List.range (n + 1)).map fun j => (bst a k).1 i j
def rowsK (a : Nat → Nat → Int) (n k : Nat) : List (List Int) := (List.range n).map fun i => rowK a n k i
def matOf (rows : List (List Int)) : Nat → Nat → Int := fun i j => (rows.getD i []).getD j 0
theorem rowK_len (a : Nat → Nat → Int) (n k i : Nat) : (rowK a n k i).length = n + 1 := by
  unfold rowK
  rw [List.length_map, List.length_range]
theorem rowK_get {a : Nat → Nat → Int} {n k i j : Nat} (h : j < n + 1) : (rowK a n k i).getD j 0 = (bst a k).1 i j := by
  unfold rowK
  rw [List.getD_eq_getElem?_getD, List.getElem?_map, List.getElem?_range h]
  rfl
theorem rowsK_get {a : Nat → Nat → Int} {n k i : Nat} (h : i < n) : (rowsK a n k)[i]? = some (rowK a n k i) := by
  unfold rowsK
  rw [List.getElem?_map, List.getElem?_range h]
  rfl
theorem rowsK_len (a : Nat → Nat → Int) (n k : Nat) : (rowsK a n k).length = n := by
  unfold rowsK
  rw [List.length_map, List.length_range]
theorem rowsK_zero {rows : List (List Int)} {n : Nat} (R : RowsOk rows n) : rowsK (matOf rows) n 0 = rows := by
  refine List.ext_getElem (by rw [rowsK_len, R.l]) fun i h1 h2 => ?_
  rw [rowsK_len] at h1
  have e := rowsK_get (a := matOf rows) (k := 0) h1
  rw [List.getElem?_eq_getElem (by rw [rowsK_len]; exact h1)] at e
  rw [Option.some.inj e]
  have rl := R.r _ (List.getElem_mem h2)
  refine List.ext_getElem (by rw [rowK_len, rl]) fun j h3 h4 => ?_
  rw [rowK_len] at h3
  have e2 := rowK_get (a := matOf rows) (n := n) (k := 0) (i := i) h3
  rw [List.getD_eq_getElem?_getD, List.getElem?_eq_getElem (by rw [rowK_len]; exact h3)] at e2
  refine e2.trans ?_
  show (rows.getD i []).getD j 0 = _
  simp [h2, h4]
theorem clear_row {a : Nat → Nat → Int} {n k i : Nat} (hi : i ≠ k) (hk : k < n) : clearZ (rowK a n k i) (rowK a n k k) k (bst a k).2 = rowK a n (k + 1) i := by
  unfold clearZ
  rw [rowK_len]
  refine List.map_congr_left fun j hj => ?_
  have hj := List.mem_range.mp hj
  rw [rowK_get hj, rowK_get hj, rowK_get (by omega), rowK_get (by omega), bst_succ]
  exact (if_neg hi).symm
theorem lead_row {a : Nat → Nat → Int} {n k : Nat} : rowK a n (k + 1) k = rowK a n k k := by
  unfold rowK
  refine List.map_congr_left fun j hj => ?_
  rw [bst_succ]
  exact if_pos rfl
/-- how great the numbers of the elimination are -/
structure BstOk (a : Nat → Nat → Int) (n : Nat) : Prop where
  pos : ∀ k ≤ n, 0 < (bst a k).2
  d : ∀ k ≤ n, Sm 8000 (bst a k).2
  e : ∀ k ≤ n, ∀ i < n, ∀ j ≤ n, Sm 8000 ((bst a k).1 i j)
theorem BstOk.row {a : Nat → Nat → Int} {n : Nat} (B : BstOk a n) {k i : Nat} (hk : k ≤ n) (hi : i < n) : SmL 8000 (rowK a n k i) := fun x hx => by
  obtain ⟨j, hj, rfl⟩ := List.mem_map.mp hx
  exact B.e k hk i hi j (Nat.le_of_lt_succ (List.mem_range.mp hj))
def RowAt (H : Hp) (a : Addr) (r : List Int) : Prop := H a = some (.lst (zs r))
theorem rowE_all : ∀ {H F : Hp} {l : List (Addr × HO)} {as : List Addr} {rs : List (List Int)}, as.length = rs.length → (∀ q ∈ rowE as rs, H q.1 = some q.2) → All2 (RowAt H) as rs := fun {H F l as rs} hl h => ⟨hl, fun i a r e1 e2 => h _ (List.mem_of_getElem? (rowE_get e1 e2))⟩
def numsZ (a : Nat → Nat → Int) (n : Nat) : List Int := (List.range n).map fun i => (bst a n).1 i n
def aM (b : Vbbcab.Building) (wt : List Int) (lv : List Nat) : Nat → Nat → Int := matOf (eqZ b wt lv)
def sp_solved (K : PySem.W.Frag) : Sp := fun vs H Q _ => ∃ (p wa l : Addr) (wt : List Int) (lv : List Nat) (b : Vbbcab.Building), vs = [.ref p, .ref wa, .ref l] ∧ PlanA K H p b ∧ H wa = some (.lst (zs wt)) ∧ H l = some (.lst (zs (nzs lv))) ∧ WfB b ∧ WfW b wt lv ∧ BstOk (aM b wt lv) b.rooms.length ∧
  ∀ H' t u, Ext H H' [(t, .tup [.ref u, .int (bst (aM b wt lv) b.rooms.length).2]), (u, .lst (zs (numsZ (aM b wt lv) b.rooms.length)))] → Q (.ref t) H'
abbrev N_solved : List Str := ["plan", "weather", "levels", "rows", "before", "at", "lead", "later", "place", "row"]
theorem sc_solved : FnScope N_solved ["plan", "weather", "levels"] (defScope s_solved) := ⟨rfl, rfl, rfl, by decide +kernel, rfl, by decide +kernel, by decide +kernel⟩
theorem st_solved (x0 x1 x2 : V) : start N_solved [x0, x1, x2] = [some x0, some x1, some x2, none, none, none, none, none, none, none] := rfl
theorem ok_solved (e : Env K mg) : Ok P w K mg base 3 (He.ga K "solved") ["plan", "weather", "levels"] (sp_solved K) := by
  refine ok_of e.fun_solved sc_solved (fun _ _ _ _ _ _ us hl => match us, hl with | [_, _, _], _ => rfl) (by rintro _ _ _ _ ⟨p, wa, l, wt, lv, b, rfl, PA, hwa, hl, B, W, ok, q⟩; rfl) ?_
  intro cdv A outer s0 H vs Q E hr hsp
  have sc := sc_solved
  have hu := hu_of hr
  have G_equations := ok_equations (P := P) (w := w) (base := base) e
  have G_cleared := ok_cleared (P := P) (w := w) (base := base) e
  refine ⟨_, (pss_cons (ps_set (i := 3) sc.nd rfl (Or.inr rfl) (pe_callE G_equations (hr.mono (by decide)) e.g_equations (pa_cons (pv 0) (pa_cons (pv 1) (pa_cons (pv 2) pa_nil)))))
    (pss_cons (ps_set (i := 4) sc.nd rfl (Or.inl rfl) pe_int)
    (pss_cons (ps_for PassesOwn.never rfl (pi_range1 (by rfl) e.f_range (pa_cons (pe_callB len_listN (by rfl) e.f_len bt_len (pa_cons (pv 3) pa_nil)) pa_nil)) (pg_name (i := 5) sc.nd rfl (Or.inl rfl))
    (pss_cons (ps_set (i := 6) sc.nd rfl (Or.inl rfl) (pe_ix ix_listN (pv 3) (pv 5) (fun _ _ => rfl)))
    (pss_cons (ps_set (i := 7) sc.nd rfl (Or.inl rfl) (pe_lstN pa_nil))
    (pss_cons (ps_for PassesOwn.never rfl (pi_range1 (by rfl) e.f_range (pa_cons (pe_callB len_listN (by rfl) e.f_len bt_len (pa_cons (pv 3) pa_nil)) pa_nil)) (pg_name (i := 8) sc.nd rfl (Or.inl rfl))
    (pss_one (ps_expr (pe_appN (pv 7) (pa_cons (pe_ifExp (pt_cmpR op_eqN (pv 8) (pv 5) (nomark _)) (pv 6) (pe_callE G_cleared (hr.mono (by decide)) e.g_cleared (pa_cons (pe_ix ix_listN (pv 3) (pv 8) (fun _ _ => rfl)) (pa_cons (pv 6) (pa_cons (pv 5) (pa_cons (pv 4) pa_nil)))))) pa_nil)))))
    (pss_cons (ps_set (i := 3) sc.nd rfl (Or.inr rfl) (pv 7))
    (pss_one (ps_set (i := 4) sc.nd rfl (Or.inl rfl) (pe_ix ix_listN (pv 6) (pv 5) (fun _ _ => rfl)))))))))
    (pss_one (ps_ret (pe_tupN (pa_cons (pe_lc (own := [("row", 9)]) rfl sc.nd (pi_list (pv 3)) (blkOk_by (own := [("row", 9)]) (N := N_solved) (sc := defScope s_solved) (by decide +kernel)) (fun _ _ _ _ _ => (pg_name (i := 9) sc.nd rfl (Or.inl rfl) (Or.inr rfl))) (fun _ _ _ _ _ => pts_nil) (fun _ _ _ _ _ => (pe_ix ix_listN (pv 9) (pe_callB len_listN (by rfl) e.f_len bt_len (pa_cons (pv 3) pa_nil)) (fun _ _ => rfl)))) (pa_cons (pv 4) pa_nil)))))))), ?_⟩
  obtain ⟨p, wa, l, wt, lv, b, rfl, PA, hwa, hl, B, W, ok, q⟩ := hsp
  rw [st_solved]
  have n1 := B.nr
  have RZ := rowsK_zero (eqZ_ok b wt lv)
  have RL := (eqZ_ok b wt lv).l
  refine st_seq ?_
  simp only [ev3, ev, ev2, ev4, sl, eq1, exl, exists_and_left, and_assoc, true_and, at0, at1, at2, Int.toNat_natCast]
  refine ⟨p, wa, l, wt, lv, b, rfl, PA, hwa, hl, B, W, fun H1 D as hl1 x => ?_⟩
  have al : All2 (RowAt H1) as (rowsK (aM b wt lv) b.rooms.length 0) := by
    have RZ : rowsK (aM b wt lv) b.rooms.length 0 = eqZ b wt lv := RZ
    rw [RZ]
    exact ⟨by rw [hl1, RL], fun i a r e1 e2 => x.has _ (List.mem_cons_of_mem _ (List.mem_of_getElem? (rowE_get e1 e2)))⟩
  have hD := x.g 0
  have k1 := x.keeps
  clear x
  generalize aM b wt lv = a at *
  generalize b.rooms.length = n at *
  refine st_seq ?_
  simp only [ev3, ev, ev2, ev4, sl, eq1, exl, exists_and_left, and_assoc, true_and, at0, at1, at2, Int.toNat_natCast]
  refine st_seq (forR (n := n) (fun Q' q => by simp only [ev3, ev, ev2, ev4, sl, eq1, exl, exists_and_left, and_assoc, true_and, at0, at1, at2, Int.toNat_natCast, hD, List.length_map, hl1]; exact q) (by omega)
    (fun k σ H' => ∃ D as v5 v6 v7 v8 v9, σ = [some (.ref p), some (.ref wa), some (.ref l), some (.ref D), some (.int (bst a k).2), v5, v6, v7, v8, v9] ∧ Keeps H H' ∧ H' D = some (.lst (as.map V.ref)) ∧ All2 (RowAt H') as (rowsK a n k)) ⟨D, as, _, _, _, _, _, rfl, k1, hD, al⟩ ?_ ?_)
  · rintro k σ H2 hk ⟨D, as, v5, v6, v7, v8, v9, rfl, k2, hD, al⟩
    obtain ⟨le, ea, hle⟩ := al.get (rowsK_get hk)
    have hle : H2 le = some (.lst (zs (rowK a n k k))) := hle
    have e1 : atI (as.map V.ref) (k : Int) = some (.ref le) := atI_nat (by rw [List.getElem?_map, ea]; rfl)
    have hn : as.length = n := by rw [al.1, rowsK_len]
    simp only [ev3, ev, ev2, ev4, sl, eq1, exl, exists_and_left, and_assoc, true_and, at0, at1, at2, Int.toNat_natCast]
    refine st_seq ?_
    simp only [ev3, ev, ev2, ev4, sl, eq1, exl, exists_and_left, and_assoc, true_and, at0, at1, at2, Int.toNat_natCast, hD, e1]
    refine st_seq ?_
    simp only [ev3, ev, ev2, ev4, sl, eq1, exl, exists_and_left, and_assoc, true_and, at0, at1, at2, Int.toNat_natCast, List.length_nil]
    refine ⟨by decide, fun la H3 x3 => ?_⟩
    refine st_cut (fun σ H4 => ∃ v8 F bs, σ = [some (.ref p), some (.ref wa), some (.ref l), some (.ref D), some (.int (bst a k).2), some (natV k), some (.ref le), some (.ref la), v8, v9] ∧ Keeps H2 F ∧ Ext F H4 [(la, .lst (bs.map V.ref))] ∧ All2 (RowAt F) bs (rowsK a n (k + 1))) (fun U hU => ?_) ?_
    · refine forR (n := n) (fun Q' q => by simp only [ev3, ev, ev2, ev4, sl, eq1, exl, exists_and_left, and_assoc, true_and, at0, at1, at2, Int.toNat_natCast, x3.k hD, List.length_map, hn]; exact q) (by omega)
        (fun j σ H4 => ∃ v8 F bs, σ = [some (.ref p), some (.ref wa), some (.ref l), some (.ref D), some (.int (bst a k).2), some (natV k), some (.ref le), some (.ref la), v8, v9] ∧ Keeps H2 F ∧ Ext F H4 [(la, .lst (bs.map V.ref))] ∧ All2 (RowAt F) bs ((rowsK a n (k + 1)).take j)) ⟨_, H2, [], rfl, fun _ _ h => h, x3, All2.nil⟩ ?_ ?_
      · rintro j σ H4 hj ⟨v8, F, bs, rfl, kF, y, bl⟩
        have snoc : (rowsK a n (k + 1)).take (j + 1) = (rowsK a n (k + 1)).take j ++ [rowK a n (k + 1) j] := take_snoc (rowsK_get hj)
        rw [snoc]
        have bslen : bs.length ≤ n := by
          rw [bl.1, List.length_take, rowsK_len]
          omega
        simp only [ev3, ev, ev2, ev4, sl, eq1, exl, exists_and_left, and_assoc, true_and, at0, at1, at2, Int.toNat_natCast, y.g 0]
        by_cases hjk : j = k
        · rw [if_pos (decide_eq_true (by omega))]
          refine ⟨size_lt (by rw [List.length_map]; omega), fun H5 pt => ?_⟩
          have z := y.put 0 rfl pt
          refine ⟨F, kF, bs ++ [le], by rw [ref_snoc]; exact z, bl.snoc ?_⟩
          rw [hjk, lead_row]
          exact kF _ _ hle
        · rw [if_neg (by rw [decide_eq_false (by omega)]; decide)]
          obtain ⟨ro, eb, hro⟩ := al.get (rowsK_get hj)
          have hro : H2 ro = some (.lst (zs (rowK a n k j))) := hro
          have e2 : atI (as.map V.ref) (j : Int) = some (.ref ro) := atI_nat (by rw [List.getElem?_map, eb]; rfl)
          simp only [ev3, ev, ev2, ev4, sl, eq1, exl, exists_and_left, and_assoc, true_and, at0, at1, at2, Int.toNat_natCast, y.k (kF _ _ hD), e2]
          refine ⟨ro, le, rowK a n k j, rowK a n k k, k, _, rfl, y.k (kF _ _ hro), y.k (kF _ _ hle), by rw [rowK_len, rowK_len], by rw [rowK_len]; omega, by rw [rowK_len]; omega, ok.pos k (by omega), ok.d k (by omega), ok.row (by omega) hj, ok.row (by omega) hk, fun H5 t x5 => ?_⟩
          rw [clear_row hjk hk] at x5
          have z := y.trans x5
          refine ⟨_, z.g 1, size_lt (by rw [List.length_map]; omega), fun H6 pt => ?_⟩
          have z6 := z.put 1 rfl pt
          have z7 : Ext F H6 ((t, .lst (zs (rowK a n (k + 1) j))) :: [(la, .lst (bs.map V.ref ++ [.ref t]))]) := z6
          have kf : Keeps F (upd F t (.lst (zs (rowK a n (k + 1) j)))) := Keeps.upd (z7.f 0)
          refine ⟨upd F t (.lst (zs (rowK a n (k + 1) j))), kF.trans kf, bs ++ [t], by rw [ref_snoc]; exact z7.absorb, ?_⟩
          exact (bl.imp fun c r h => kf _ _ h).snoc upd_same
      · rintro σ H4 ⟨v8, F, bs, rfl, kF, y, bl⟩
        rw [List.take_of_length_le (by rw [rowsK_len]; exact Nat.le_refl _)] at bl
        exact hU _ _ ⟨_, F, bs, rfl, kF, y, bl⟩
    rintro σ H4 ⟨v8, F, bs, rfl, kF, y, bl⟩
    refine st_seq ?_
    simp only [ev3, ev, ev2, ev4, sl, eq1, exl, exists_and_left, and_assoc, true_and, at0, at1, at2, Int.toNat_natCast]
    have eb : atI (zs (rowK a n k k)) (k : Int) = some (.int (bst a (k + 1)).2) := by
      rw [at_ints (by rw [rowK_len]; omega), rowK_get (by omega)]
      rfl
    simp only [y.k (kF _ _ hle), eb, ev3, ev, ev2, ev4, sl, eq1, exl, exists_and_left, and_assoc, true_and, at0, at1, at2, Int.toNat_natCast]
    exact ⟨(k2.trans kF).trans y.keeps, bs, y.g 0, bl.imp fun c r h => y.k h⟩
  rintro σ H2 ⟨D, as, v5, v6, v7, v8, v9, rfl, k2, hD, al⟩
  have hn : as.length = n := by rw [al.1, rowsK_len]
  simp only [ev3, ev, ev2, ev4, sl, eq1, exl, exists_and_left, and_assoc, true_and, at0, at1, at2, Int.toNat_natCast]
  refine lcL (xs := as.map V.ref) (fun i => .int ((bst a n).1 i n)) (fun R h => by simp only [ev3, ev, ev2, ev4, sl, eq1, exl, exists_and_left, and_assoc, true_and, at0, at1, at2, Int.toNat_natCast]; exact h _ _ (fun _ _ h => h) hD) (by rw [List.length_map]; omega) (fun i x H3 hx k3 R h => ?_) (fun u H3 x3 => ?_)
  · obtain ⟨c, hc, rfl⟩ := ref_at hx
    have hi : i < n := by
      rw [← hn]
      exact (List.getElem?_eq_some_iff.mp hc).1
    have hr := al.2 i c _ hc (rowsK_get hi)
    have hr : H2 c = some (.lst (zs (rowK a n n i))) := hr
    simp only [ev3, ev, ev2, ev4, sl, eq1, exl, exists_and_left, and_assoc, true_and, at0, at1, at2, Int.toNat_natCast, wp, List.map_cons, List.map_nil, k3 _ _ hr, k3 _ _ hD, List.length_map, hn]
    refine ⟨_, at_ints (by rw [rowK_len]; omega), ?_⟩
    rw [rowK_get (by omega)]
    exact h H3 fun _ _ h => h
  · simp only [ev3, ev, ev2, ev4, sl, eq1, exl, exists_and_left, and_assoc, true_and, at0, at1, at2, Int.toNat_natCast, List.length_cons, List.length_nil]
    refine ⟨by decide, fun t H4 x4 => q H4 t u ?_⟩
    have e : (List.range (as.map V.ref).length).map (fun i => V.int ((bst a n).1 i n)) = zs (numsZ a n) := by
      unfold numsZ zs
      rw [List.length_map, hn, List.map_map]
      rfl
    rw [e] at x3
    exact ((⟨k2, fun p hp => (nomatch hp), fun p hp => (nomatch hp), List.nodup_nil⟩ : Ext H H2 []).trans x3).trans x4
def sp_common_part (K : PySem.W.Frag) : Sp := fun vs H Q _ => ∃ (n d : Int), vs = [.int n, .int d] ∧ 0 < d ∧ Q (.int ((Int.gcd n d : Nat) : Int)) H
abbrev N_common_part : List Str := ["one", "other", "first", "second"]
theorem sc_common_part : FnScope N_common_part ["one", "other"] (defScope s_common_part) := ⟨rfl, rfl, rfl, by decide +kernel, rfl, by decide +kernel, by decide +kernel⟩
theorem st_common_part (x0 x1 : V) : start N_common_part [x0, x1] = [some x0, some x1, none, none] := rfl
theorem ok_common_part (e : Env K mg) : Ok P w K mg base 1 (He.ga K "common_part") ["one", "other"] (sp_common_part K) := by
  refine ok_of e.fun_common_part sc_common_part (fun _ _ _ _ _ _ us hl => match us, hl with | [_, _], _ => rfl) (by rintro _ _ _ _ ⟨n, d, rfl, hd, q⟩; rfl) ?_
  intro cdv A outer s0 H vs Q E hr hsp
  have sc := sc_common_part
  have hu := hu_of hr
  refine ⟨_, (pss_cons (ps_par (i := 2) (j := 3) (by rfl) sc.nd rfl rfl (by decide) rfl rfl (pa_cons (pe_callB call_abs (by rfl) e.f_abs bt_abs (pa_cons (pv 0) pa_nil)) (pa_cons (pv 1) pa_nil)) (by rfl))
    (pss_cons (ps_while PassesOwn.never (pt_cmpR op_gt (pv 2) pe_int (nomark _))
    (pss_one (ps_par (i := 2) (j := 3) (by rfl) sc.nd rfl rfl (by decide) rfl rfl (pa_cons (pe_op op_mod (pv 3) (pv 2)) (pa_cons (pv 2) pa_nil)) (by rfl))))
    (pss_one (ps_ret (pv 3))))), ?_⟩
  obtain ⟨n, d, rfl, hd, q⟩ := hsp
  rw [st_common_part]
  refine st_seq ?_
  simp only [ev3, ev, ev2, ev4, sl, eq1, exl, exists_and_left, and_assoc, true_and, at0, at1, at2, Int.toNat_natCast]
  have e1 : (if n < 0 then -n else n) = ((n.natAbs : Nat) : Int) := by split <;> omega
  have e2 : d = ((d.toNat : Nat) : Int) := by omega
  rw [e1]
  refine st_seq ⟨fun m σ H' => ∃ x y : Nat, m = x ∧ σ = [some (.int n), some (.int d), some (natV x), some (natV y)] ∧ H' = H ∧ Nat.gcd x y = Int.gcd n d ∧ 0 < y, ⟨_, n.natAbs, d.toNat, rfl, by unfold natV; rw [← e2], rfl, ?_, by omega⟩, ?_⟩
  · unfold Int.gcd
    congr 1
    omega
  · rintro m σ H' ⟨x, y, rfl, rfl, rfl, hg, hy⟩
    simp only [ev3, ev, ev2, ev4, sl, eq1, exl, exists_and_left, and_assoc, true_and, at0, at1, at2, Int.toNat_natCast]
    by_cases hx : 0 < m
    · rw [if_pos (decide_eq_true (by omega))]
      refine ⟨fun σ H'' => ∃ x2 y2 : Nat, x2 < m ∧ σ = [some (.int n), some (.int d), some (natV x2), some (natV y2)] ∧ H'' = H' ∧ Nat.gcd x2 y2 = Int.gcd n d ∧ 0 < y2, ?_, ?_⟩
      · rintro σ' H'' ⟨x2, y2, lt, rfl, rfl, g2, hy2⟩
        exact ⟨x2, lt, y2, rfl, rfl, g2, hy2⟩
      · refine ⟨by omega, y % m, m, Nat.mod_lt _ hx, ?_, rfl, ?_, hx⟩
        · rw [← Int.natCast_emod]
        · rw [← Nat.gcd_rec]
          exact hg
    · rw [if_neg (by rw [decide_eq_false (by omega)]; decide)]
      obtain rfl : m = 0 := by omega
      rw [Nat.gcd_zero_left] at hg
      rw [hg]
      exact q
/-- the least level as the program reckons it -/
def leastZ (b : Vbbcab.Building) (wt : List Int) (lv : List Nat) (h i : Nat) (t : Int) : Option Int :=
  let N := (numsZ (aM b wt (lv.set h 0)) b.rooms.length).getD i 0
  let M := (numsZ (aM b wt (lv.set h 1)) b.rooms.length).getD i 0
  let gain := M - N
  let lack := t * (bst (aM b wt (lv.set h 0)) b.rooms.length).2 - N
  if lack ≤ 0 then some 0 else if gain ≤ 0 then none else if (lack + gain - 1) / gain ≤ (((b.heaters[h]?).map fun x => x.most).getD 0 : Nat) then some ((lack + gain - 1) / gain) else none
theorem nzs_set (lv : List Nat) (h v : Nat) : (zs (nzs lv)).set h (natV v) = zs (nzs (lv.set h v)) := by
  rw [zs_set]
  congr 1
  exact List.map_set.symm
theorem WfW.setL {b : Vbbcab.Building} {wt : List Int} {lv : List Nat} (W : WfW b wt lv) (h v : Nat) (hv : v ≤ 1000000) : WfW b wt (lv.set h v) := ⟨W.lw, by rw [List.length_set]; exact W.ll, W.warm, fun n hn => by
  rcases List.mem_or_eq_of_mem_set hn with q | q
  · exact W.lev n q
  · omega⟩
theorem numsZ_len (a : Nat → Nat → Int) (n : Nat) : (numsZ a n).length = n := by
  unfold numsZ
  rw [List.length_map, List.length_range]
theorem BstOk.nums {a : Nat → Nat → Int} {n : Nat} (B : BstOk a n) : SmL 8000 (numsZ a n) := fun x hx => by
  obtain ⟨i, hi, rfl⟩ := List.mem_map.mp hx
  exact B.e n (Nat.le_refl _) i (List.mem_range.mp hi) n (Nat.le_refl _)
def sp_least_level (K : PySem.W.Frag) : Sp := fun vs H Q _ => ∃ (p wa l : Addr) (wt : List Int) (lv : List Nat) (b : Vbbcab.Building) (h i : Nat) (t : Int), vs = [.ref p, .ref wa, .ref l, natV h, natV i, .int t] ∧ PlanA K H p b ∧ H wa = some (.lst (zs wt)) ∧ H l = some (.lst (zs (nzs lv))) ∧ WfB b ∧ WfW b wt lv ∧
  BstOk (aM b wt (lv.set h 0)) b.rooms.length ∧ BstOk (aM b wt (lv.set h 1)) b.rooms.length ∧ h < b.heaters.length ∧ i < b.rooms.length ∧ Sm 17 t ∧ ∀ H', Keeps H H' → Q (optV (leastZ b wt lv h i t)) H'
abbrev N_least_level : List Str := ["plan", "weather", "levels", "heater", "room", "wanted", "low", "high", "numbers", "part", "more", "gain", "lack", "level"]
theorem sc_least_level : FnScope N_least_level ["plan", "weather", "levels", "heater", "room", "wanted"] (defScope s_least_level) := ⟨rfl, rfl, rfl, by decide +kernel, rfl, by decide +kernel, by decide +kernel⟩
theorem st_least_level (x0 x1 x2 x3 x4 x5 : V) : start N_least_level [x0, x1, x2, x3, x4, x5] = [some x0, some x1, some x2, some x3, some x4, some x5, none, none, none, none, none, none, none, none] := rfl
theorem ok_least_level (e : Env K mg) : Ok P w K mg base 4 (He.ga K "least_level") ["plan", "weather", "levels", "heater", "room", "wanted"] (sp_least_level K) := by
  refine ok_of e.fun_least_level sc_least_level (fun _ _ _ _ _ _ us hl => match us, hl with | [_, _, _, _, _, _], _ => rfl) (by rintro _ _ _ _ ⟨p, wa, l, wt, lv, b, h, i, t, rfl, PA, hwa, hl, B, W, ok0, ok1, hh, hi, ht, q⟩; rfl) ?_
  intro cdv A outer s0 H vs Q E hr hsp
  have sc := sc_least_level
  have hu := hu_of hr
  have G_solved := ok_solved (P := P) (w := w) (base := base) e
  refine ⟨_, (pss_cons (ps_par (i := 6) (j := 7) (by rfl) sc.nd rfl rfl (by decide) rfl rfl (pa_cons (pe_callTy list_listN (by rfl) e.f_list bt_list (pa_cons (pv 2) pa_nil)) (pa_cons (pe_callTy list_listN (by rfl) e.f_list bt_list (pa_cons (pv 2) pa_nil)) pa_nil)) (by rfl))
    (pss_cons (ps_asg pe_int (pg_sub (pv 6) (pv 3) set_listN))
    (pss_cons (ps_asg pe_int (pg_sub (pv 7) (pv 3) set_listN))
    (pss_cons (ps_asg (pe_callE G_solved (hr.mono (by decide)) e.g_solved (pa_cons (pv 0) (pa_cons (pv 1) (pa_cons (pv 6) pa_nil)))) (pg_tupN (n := 2) rfl (pgs_cons (pg_name (i := 8) sc.nd rfl (Or.inl rfl)) (pgs_cons (pg_name (i := 9) sc.nd rfl (Or.inl rfl)) pgs_nil))))
    (pss_cons (ps_set (i := 10) sc.nd rfl (Or.inl rfl) (pe_ix ix_tupN (pe_callE G_solved (hr.mono (by decide)) e.g_solved (pa_cons (pv 0) (pa_cons (pv 1) (pa_cons (pv 7) pa_nil)))) pe_int (fun _ _ => rfl)))
    (pss_cons (ps_set (i := 11) sc.nd rfl (Or.inl rfl) (pe_op op_sub (pe_ix ix_listN (pv 10) (pv 4) (fun _ _ => rfl)) (pe_ix ix_listN (pv 8) (pv 4) (fun _ _ => rfl))))
    (pss_cons (ps_set (i := 12) sc.nd rfl (Or.inl rfl) (pe_op op_sub (pe_op op_mulX (pv 5) (pv 9)) (pe_ix ix_listN (pv 8) (pv 4) (fun _ _ => rfl))))
    (pss_cons (ps_if (pt_cmpR op_le (pv 12) pe_int (nomark _))
    (pss_one (ps_ret pe_int))
    pss_nil)
    (pss_cons (ps_if (pt_cmpR op_le (pv 11) pe_int (nomark _))
    (pss_one (ps_ret pe_non))
    pss_nil)
    (pss_cons (ps_set (i := 13) sc.nd rfl (Or.inl rfl) (pe_op op_fdivW (pe_op op_sub (pe_op op_add (pv 12) (pv 11)) pe_int) (pv 11)))
    (pss_one (ps_ret (pe_ifExp (pt_cmpR op_le (pv 13) (pe_ix ix_tupN (pe_ix ix_listN (pe_at e.c_Plan e.n_Plan_heaters (pv 0)) (pv 3) (fun _ _ => rfl)) pe_int (fun _ _ => rfl)) (nomark _)) (pv 13) pe_non))))))))))))), ?_⟩
  obtain ⟨p, wa, l, wt, lv, b, h, i, t, rfl, PA, hwa, hl, B, W, ok0, ok1, hh, hi, ht, q⟩ := hsp
  rw [st_least_level]
  obtain ⟨dx, r, ra, oa, la, ha, A⟩ := id PA
  have ll := W.ll
  refine st_seq ?_
  simp only [ev3, ev, ev2, ev4, sl, eq1, exl, exists_and_left, and_assoc, true_and, at0, at1, at2, Int.toNat_natCast, hl]
  intro l1 H1 x1
  simp only [ev3, ev, ev2, ev4, sl, eq1, exl, exists_and_left, and_assoc, true_and, at0, at1, at2, Int.toNat_natCast, x1.k hl]
  intro l2 H2 x2
  have y2 := x1.trans x2
  refine st_seq ?_
  simp only [ev3, ev, ev2, ev4, sl, eq1, exl, exists_and_left, and_assoc, true_and, at0, at1, at2, Int.toNat_natCast, y2.g 1]
  refine ⟨_, ixN_of (by rw [zs_len, nzs_len]; omega), fun H3 pt3 => ?_⟩
  have y3 := y2.put 1 rfl pt3
  refine st_seq ?_
  simp only [ev3, ev, ev2, ev4, sl, eq1, exl, exists_and_left, and_assoc, true_and, at0, at1, at2, Int.toNat_natCast, y3.g 0]
  refine ⟨_, ixN_of (by rw [zs_len, nzs_len]; omega), fun H4 pt4 => ?_⟩
  have y4 := y3.put 0 rfl pt4
  have e0 := nzs_set lv h 0
  have e1 := nzs_set lv h 1
  have y4 : Ext H H4 [(l2, .lst ((zs (nzs lv)).set h (natV 1))), (l1, .lst ((zs (nzs lv)).set h (natV 0)))] := y4
  rw [e0, e1] at y4
  refine st_seq ?_
  simp only [ev3, ev, ev2, ev4, sl, eq1, exl, exists_and_left, and_assoc, true_and, at0, at1, at2, Int.toNat_natCast]
  refine ⟨p, wa, l1, wt, lv.set h 0, b, rfl, PA.mono y4.keeps, y4.k hwa, y4.g 1, B, W.setL h 0 (by decide), ok0, fun H5 t5 u5 x5 => ?_⟩
  simp only [ev3, ev, ev2, ev4, sl, eq1, exl, exists_and_left, and_assoc, true_and, at0, at1, at2, Int.toNat_natCast, x5.g 0, List.length_cons, List.length_nil]
  have y5 := y4.trans x5
  refine st_seq ?_
  simp only [ev3, ev, ev2, ev4, sl, eq1, exl, exists_and_left, and_assoc, true_and, at0, at1, at2, Int.toNat_natCast]
  refine ⟨p, wa, l2, wt, lv.set h 1, b, rfl, PA.mono y5.keeps, y5.k hwa, y5.g 2, B, W.setL h 1 (by decide), ok1, fun H6 t6 u6 x6 => ?_⟩
  simp only [ev3, ev, ev2, ev4, sl, eq1, exl, exists_and_left, and_assoc, true_and, at0, at1, at2, Int.toNat_natCast, x6.g 0]
  have y6 := y5.trans x6
  have K6 := y6.keeps
  have g1 := y6.g 1
  have g3 := y6.g 3
  clear y6 y5 y4 y3 y2 x1 x2 x5 x6
  have n1 := ok0.nums
  have n2 := ok1.nums
  have d0 := ok0.d _ (Nat.le_refl _)
  have p0 := ok0.pos _ (Nat.le_refl _)
  have l1' := numsZ_len (aM b wt (lv.set h 0)) b.rooms.length
  have l2' := numsZ_len (aM b wt (lv.set h 1)) b.rooms.length
  unfold leastZ at q
  generalize numsZ (aM b wt (lv.set h 0)) b.rooms.length = N at *
  generalize numsZ (aM b wt (lv.set h 1)) b.rooms.length = M at *
  generalize (bst (aM b wt (lv.set h 0)) b.rooms.length).2 = d at *
  refine st_seq ?_
  simp only [ev3, ev, ev2, ev4, sl, eq1, exl, exists_and_left, and_assoc, true_and, at0, at1, at2, Int.toNat_natCast, g1, at_ints (show i < M.length by omega), g3, at_ints (show i < N.length by omega)]
  refine st_seq ?_
  simp only [ev3, ev, ev2, ev4, sl, eq1, exl, exists_and_left, and_assoc, true_and, at0, at1, at2, Int.toNat_natCast, g3, at_ints (show i < N.length by omega)]
  refine ⟨mul_sm ht d0 (by decide), ?_⟩
  have sN := n1.getD i
  have sM := n2.getD i
  generalize N.getD i 0 = x at *
  generalize M.getD i 0 = y at *
  refine st_seq ?_
  simp only [ev3, ev, ev2, ev4, sl, eq1, exl, exists_and_left, and_assoc, true_and, at0, at1, at2, Int.toNat_natCast]
  by_cases h1 : t * d - x ≤ 0
  · rw [if_pos (decide_eq_true h1)]
    simp only [if_pos h1] at q
    exact q H6 K6
  rw [if_neg (by rw [decide_eq_false h1]; decide)]
  simp only [if_neg h1] at q
  refine st_seq ?_
  simp only [ev3, ev, ev2, ev4, sl, eq1, exl, exists_and_left, and_assoc, true_and, at0, at1, at2, Int.toNat_natCast]
  by_cases h2 : y - x ≤ 0
  · rw [if_pos (decide_eq_true h2)]
    simp only [if_pos h2] at q
    exact q H6 K6
  rw [if_neg (by rw [decide_eq_false h2]; decide)]
  simp only [if_neg h2] at q
  refine st_seq ?_
  simp only [ev3, ev, ev2, ev4, sl, eq1, exl, exists_and_left, and_assoc, true_and, at0, at1, at2, Int.toNat_natCast]
  refine ⟨wide_div (by omega) (sM.sub sN) (by decide) (by decide), ?_⟩
  have hb : b.heaters[h]? = some b.heaters[h] := List.getElem?_eq_getElem hh
  obtain ⟨a, ea, na, e2, e3⟩ := A.hs.get hb
  rw [hb] at q
  have em : (((some b.heaters[h]).map fun x : Vbbcab.Heater => x.most).getD 0) = b.heaters[h].most := rfl
  rw [em] at q
  generalize b.heaters[h] = he at *
  have ea : atI (ha.map V.ref) (h : Int) = some (.ref a) := atI_nat (by rw [List.getElem?_map, ea]; rfl)
  simp only [ev3, ev, ev2, ev4, sl, eq1, exl, exists_and_left, and_assoc, true_and, at0, at1, at2, Int.toNat_natCast, K6 _ _ A.ob, K6 _ _ A.hl, ea, K6 _ _ e2]
  by_cases h3 : (t * d - x + (y - x) - 1) / (y - x) ≤ (he.most : Int)
  · rw [if_pos (decide_eq_true h3)]
    rw [if_pos h3] at q
    exact q H6 K6
  · rw [if_neg (by rw [decide_eq_false h3]; decide)]
    rw [if_neg h3] at q
    exact q H6 K6
end
end WR
end PartWs
section PartWHo
set_option Elab.async false
set_option linter.all false
set_option maxRecDepth 100000
set_option maxHeartbeats 2000000
namespace WR
open PySem PySem.Spec PyProof.Rows L2 WH
/-! ### the house: where it lies, what it holds -/
structure HA where
  h : Addr
  dx : Addr
  p : Addr
  c : Addr
  w : Addr
  l : Addr
  g : Addr
structure HS where
  b : Vbbcab.Building
  cells : List Int
  shift : Nat
  wt : List Int
  lv : List Nat
  clock : Nat
  given : Int
  gone : List Int
def hF (r : HA) (s : HS) : List (Str × V) := [("plan", .ref r.p), ("cells", .ref r.c), ("shift", natV s.shift), ("weather", .ref r.w), ("levels", .ref r.l), ("clock", natV s.clock), ("given", .int s.given), ("gone", .ref r.g)]
theorem hF_no {k : Str} (r : HA) (s : HS) (h : ([("plan" : Str), "cells", "shift", "weather", "levels", "clock", "given", "gone"].all fun g => !(k == g)) = true := by decide +kernel) : (hF r s).lookup k = none := by
  refine lk_none fun p hp => ?_
  have hp' : p.1 ∈ [("plan" : Str), "cells", "shift", "weather", "levels", "clock", "given", "gone"] := List.mem_map_of_mem (f := fun q : Str × V => q.1) hp
  have := List.all_eq_true.mp h _ hp'
  simpa using this
theorem ev6 : (∀ r s, (hF r s).lookup ("plan" : Str) = some (.ref r.p)) ∧ (∀ r s, (hF r s).lookup ("cells" : Str) = some (.ref r.c)) ∧ (∀ r s, (hF r s).lookup ("shift" : Str) = some (natV s.shift)) ∧ (∀ r s, (hF r s).lookup ("weather" : Str) = some (.ref r.w)) ∧
    (∀ r s, (hF r s).lookup ("levels" : Str) = some (.ref r.l)) ∧ (∀ r s, (hF r s).lookup ("clock" : Str) = some (natV s.clock)) ∧ (∀ r s, (hF r s).lookup ("given" : Str) = some (.int s.given)) ∧ (∀ r s, (hF r s).lookup ("gone" : Str) = some (.ref r.g)) := by
  refine ⟨fun r s => lk_here, fun r s => (lk_past (by decide +kernel)).trans lk_here, fun r s => (lk_past (by decide +kernel)).trans ((lk_past (by decide +kernel)).trans lk_here), fun r s => (lk_past (by decide +kernel)).trans ((lk_past (by decide +kernel)).trans ((lk_past (by decide +kernel)).trans lk_here)),
    fun r s => (lk_past (by decide +kernel)).trans ((lk_past (by decide +kernel)).trans ((lk_past (by decide +kernel)).trans ((lk_past (by decide +kernel)).trans lk_here))),
    fun r s => (lk_past (by decide +kernel)).trans ((lk_past (by decide +kernel)).trans ((lk_past (by decide +kernel)).trans ((lk_past (by decide +kernel)).trans ((lk_past (by decide +kernel)).trans lk_here)))),
    fun r s => (lk_past (by decide +kernel)).trans ((lk_past (by decide +kernel)).trans ((lk_past (by decide +kernel)).trans ((lk_past (by decide +kernel)).trans ((lk_past (by decide +kernel)).trans ((lk_past (by decide +kernel)).trans lk_here))))),
    fun r s => (lk_past (by decide +kernel)).trans ((lk_past (by decide +kernel)).trans ((lk_past (by decide +kernel)).trans ((lk_past (by decide +kernel)).trans ((lk_past (by decide +kernel)).trans ((lk_past (by decide +kernel)).trans ((lk_past (by decide +kernel)).trans lk_here))))))⟩
theorem hput : (∀ r s a, putF ("plan" : Str) (.ref a) (hF r s) = hF { r with p := a } s) ∧ (∀ r s a, putF ("cells" : Str) (.ref a) (hF r s) = hF { r with c := a } s) ∧ (∀ r s (n : Nat), putF ("shift" : Str) (natV n) (hF r s) = hF r { s with shift := n }) ∧
    (∀ r s a, putF ("weather" : Str) (.ref a) (hF r s) = hF { r with w := a } s) ∧ (∀ r s a, putF ("levels" : Str) (.ref a) (hF r s) = hF { r with l := a } s) ∧ (∀ r s (n : Nat), putF ("clock" : Str) (natV n) (hF r s) = hF r { s with clock := n }) ∧
    (∀ r s (n : Int), putF ("given" : Str) (.int n) (hF r s) = hF r { s with given := n }) ∧ (∀ r s a, putF ("gone" : Str) (.ref a) (hF r s) = hF { r with g := a } s) := by
  refine ⟨?_, ?_, ?_, ?_, ?_, ?_, ?_, ?_⟩ <;> intros <;> unfold hF <;> simp only [putF_cons, hne, if_false, if_true]
theorem hF_len (r : HA) (s : HS) : (hF r s).length < 1000 := by
  show 8 < 1000
  decide
def hE (K : PySem.W.Frag) (r : HA) (s : HS) : List (Addr × HO) := [(r.h, .ins (He.ga K "House") r.dx (hF r s)), (r.c, .lst (zs s.cells)), (r.w, .lst (zs s.wt)), (r.l, .lst (zs (nzs s.lv))), (r.g, .lst (zs s.gone))]
structure WfS (s : HS) : Prop where
  b : WfB s.b
  w : WfW s.b s.wt s.lv
  cl : s.cells.length = s.b.rooms.length
  gl : s.gone.length = s.b.outs.length
  cs : SmL (40 + 37 * s.clock) s.cells
  sh : s.shift ≤ 16 * s.clock
  gs : SmL (80 + 40 * s.clock) s.gone
  ck : s.clock ≤ 1000
/-- the house in the heap over a frame -/
structure HI (K : PySem.W.Frag) (F H : Hp) (r : HA) (s : HS) : Prop where
  x : Ext F H (hE K r s)
  p : PlanA K F r.p s.b
  w : WfS s
/-- an answer that leaves all as it is -/
def AnsQ (K : PySem.W.Frag) (F : Hp) (r : HA) (s : HS) (ans : List Int) (Q : VK) : Prop := ∀ H' t, Ext F H' ((t, .lst (zs ans)) :: hE K r s) → Q (.ref t) H'
/-- the plan that is then the house's; it does not touch other lists -/
def PlanS (K : PySem.W.Frag) (F : Hp) (r : HA) (s : HS) (F' : Hp) (r' : HA) (s' : HS) : Prop := PlanA K F' r'.p s'.b ∧ ∀ f xs, F f = some (.lst xs) → PlanA K (hide [f] F) r.p s.b → PlanA K (hide [f] F') r'.p s'.b
def AnsM (K : PySem.W.Frag) (F : Hp) (r : HA) (s s' : HS) (ans : List Int) (Q : VK) : Prop := ∀ F' H' t r', r'.h = r.h → Keeps F F' → Ext F' H' ((t, .lst (zs ans)) :: hE K r' s') → PlanS K F r s F' r' s' → Q (.ref t) H'
theorem hide_hide (M N : List Addr) (H : Hp) : hide M (hide N H) = hide (M ++ N) H := by
  funext b
  unfold hide
  by_cases h1 : b ∈ M
  · rw [if_pos h1, if_pos (List.mem_append_left _ h1)]
  · rw [if_neg h1]
    by_cases h2 : b ∈ N
    · rw [if_pos h2, if_pos (List.mem_append_right _ h2)]
    · rw [if_neg h2, if_neg fun h => (List.mem_append.mp h).elim h1 h2]
theorem AnsM.q {K : PySem.W.Frag} {F : Hp} {r : HA} {s : HS} {ans : List Int} {Q : VK} (h : AnsM K F r s s ans Q) (p : PlanA K F r.p s.b) : AnsQ K F r s ans Q := fun H' t x => h F H' t r rfl (fun _ _ h => h) x ⟨p, fun _ _ _ h => h⟩
theorem HI.on {K : PySem.W.Frag} {F H H1 : Hp} {r : HA} {s : HS} (I : HI K F H r s) (k : Keeps H H1) : HI K F H1 r s := ⟨I.x.on k, I.p, I.w⟩
theorem one_int (n : Int) : [V.int n] = zs [n] := rfl
end WR
end PartWHo
section PartWh1
set_option Elab.async false
set_option linter.all false
set_option maxRecDepth 100000
set_option maxHeartbeats 4000000
namespace WR
open PySem PySem.Spec PyProof.Rows L2 WH
section
variable {P : Program} {w : World} {K : PySem.W.Frag} {mg : Str → Option Value} {base : Heap}
def sp_is_warmth (K : PySem.W.Frag) : Sp := fun vs H Q _ => ∃ (n : Int), vs = [.int n] ∧ Q (.bl (Vbbcab.inside n (-100000) 100000)) H
abbrev N_is_warmth : List Str := ["number"]
theorem sc_is_warmth : FnScope N_is_warmth ["number"] (defScope s_is_warmth) := ⟨rfl, rfl, rfl, by decide +kernel, rfl, by decide +kernel, by decide +kernel⟩
theorem st_is_warmth (x0 : V) : start N_is_warmth [x0] = [some x0] := rfl
theorem ok_is_warmth (e : Env K mg) : Ok P w K mg base 1 (He.ga K "is_warmth") ["number"] (sp_is_warmth K) := by
  refine ok_of e.fun_is_warmth sc_is_warmth (fun _ _ _ _ _ _ us hl => match us, hl with | [_], _ => rfl) (by rintro _ _ _ _ ⟨n, rfl, q⟩; rfl) ?_
  intro cdv A outer s0 H vs Q E hr hsp
  have sc := sc_is_warmth
  have hu := hu_of hr
  refine ⟨_, (pss_one (ps_ret (pe_chain op_le op_le (pe_gint e.i_LEAST_WARMTH) (pv 0) (pe_gint e.i_MOST_WARMTH)))), ?_⟩
  obtain ⟨n, rfl, q⟩ := hsp
  rw [st_is_warmth]
  simp only [ev3, ev, ev2, ev4, sl, eq1, exl, exists_and_left, and_assoc, true_and, at0, at1, at2, Int.toNat_natCast]
  unfold Vbbcab.inside at q
  split
  · rename_i h
    rw [h, Bool.true_and] at q
    exact q
  · rename_i h
    rw [Bool.eq_false_iff.mpr h, Bool.false_and] at q
    exact q
def HasP (K : PySem.W.Frag) (f : HS → Int → Bool) : Sp := fun vs H Q _ => ∃ (F : Hp) (r : HA) (s : HS) (n : Int), vs = [.ref r.h, .int n] ∧ HI K F H r s ∧ Q (.bl (f s n)) H
def hasRoom (s : HS) (n : Int) : Bool := Vbbcab.inside n 1 (s.cells.length : Int)
def hasHeater (s : HS) (n : Int) : Bool := Vbbcab.inside n 1 (s.lv.length : Int)
def sp_House_has_room (K : PySem.W.Frag) : Sp := HasP K hasRoom
def sp_House_has_heater (K : PySem.W.Frag) : Sp := HasP K hasHeater
theorem in_ite {P : Bool → Prop} {n lo hi : Int} (q : P (Vbbcab.inside n lo hi)) : if decide (lo ≤ n) = true then P (decide (n ≤ hi)) else P false := by
  unfold Vbbcab.inside at q
  split
  · rename_i h
    rw [h, Bool.true_and] at q
    exact q
  · rename_i h
    rw [Bool.eq_false_iff.mpr h, Bool.false_and] at q
    exact q
abbrev N_House_has_room : List Str := ["self", "number"]
theorem sc_House_has_room : FnScope N_House_has_room ["self", "number"] (defScope s_House_has_room) := ⟨rfl, rfl, rfl, by decide +kernel, rfl, by decide +kernel, by decide +kernel⟩
theorem st_House_has_room (x0 x1 : V) : start N_House_has_room [x0, x1] = [some x0, some x1] := rfl
theorem ok_House_has_room (e : Env K mg) : Ok P w K mg base 1 (He.ma K (He.ga K "House") "has_room") ["self", "number"] (sp_House_has_room K) := by
  refine ok_of e.fun_House_has_room sc_House_has_room (fun _ _ _ _ _ _ us hl => match us, hl with | [_, _], _ => rfl) (by rintro _ _ _ _ ⟨F, r, s, n, rfl, I, q⟩; rfl) ?_
  intro cdv A outer s0 H vs Q E hr hsp
  have sc := sc_House_has_room
  have hu := hu_of hr
  refine ⟨_, (pss_one (ps_ret (pe_chain op_le op_le pe_int (pv 1) (pe_callB len_listN (by rfl) e.f_len bt_len (pa_cons (pe_at e.c_House e.n_House_cells (pv 0)) pa_nil))))), ?_⟩
  obtain ⟨F, r, s, n, rfl, I, q⟩ := hsp
  rw [st_House_has_room]
  have gh := I.x.g 0
  have gc := I.x.g 1
  simp only [ev3, ev, ev2, ev4, sl, eq1, exl, exists_and_left, and_assoc, true_and, at0, at1, at2, Int.toNat_natCast, gh, ev6, gc, zs_len]
  exact in_ite (P := fun b => Q (.bl b) H) q
abbrev N_House_has_heater : List Str := ["self", "number"]
theorem sc_House_has_heater : FnScope N_House_has_heater ["self", "number"] (defScope s_House_has_heater) := ⟨rfl, rfl, rfl, by decide +kernel, rfl, by decide +kernel, by decide +kernel⟩
theorem st_House_has_heater (x0 x1 : V) : start N_House_has_heater [x0, x1] = [some x0, some x1] := rfl
theorem ok_House_has_heater (e : Env K mg) : Ok P w K mg base 1 (He.ma K (He.ga K "House") "has_heater") ["self", "number"] (sp_House_has_heater K) := by
  refine ok_of e.fun_House_has_heater sc_House_has_heater (fun _ _ _ _ _ _ us hl => match us, hl with | [_, _], _ => rfl) (by rintro _ _ _ _ ⟨F, r, s, n, rfl, I, q⟩; rfl) ?_
  intro cdv A outer s0 H vs Q E hr hsp
  have sc := sc_House_has_heater
  have hu := hu_of hr
  refine ⟨_, (pss_one (ps_ret (pe_chain op_le op_le pe_int (pv 1) (pe_callB len_listN (by rfl) e.f_len bt_len (pa_cons (pe_at e.c_House e.n_House_levels (pv 0)) pa_nil))))), ?_⟩
  obtain ⟨F, r, s, n, rfl, I, q⟩ := hsp
  rw [st_House_has_heater]
  have gh := I.x.g 0
  have gc := I.x.g 3
  simp only [ev3, ev, ev2, ev4, sl, eq1, exl, exists_and_left, and_assoc, true_and, at0, at1, at2, Int.toNat_natCast, gh, ev6, gc, zs_len, nzs_len]
  exact in_ite (P := fun b => Q (.bl b) H) q
def sp_House_close_books (K : PySem.W.Frag) : Sp := fun vs H Q _ => ∃ (h dx w : Addr) (fs : List (Str × V)) (ws : List Int), vs = [.ref h] ∧ H h = some (.ins (He.ga K "House") dx fs) ∧ fs.length < 900 ∧ List.lookup ("weather" : Str) fs = some (V.ref w) ∧ H w = some (.lst (zs ws)) ∧ ws.length ≤ 100 ∧
  ∀ H' g, Ext (hide [h] H) H' [(g, .lst (zs (List.replicate ws.length 0))), (h, .ins (He.ga K "House") dx (putF "gone" (.ref g) (putF "given" (.int 0) fs)))] → Q .non H'
abbrev N_House_close_books : List Str := ["self"]
theorem sc_House_close_books : FnScope N_House_close_books ["self"] (defScope s_House_close_books) := ⟨rfl, rfl, rfl, by decide +kernel, rfl, by decide +kernel, by decide +kernel⟩
theorem st_House_close_books (x0 : V) : start N_House_close_books [x0] = [some x0] := rfl
theorem ok_House_close_books (e : Env K mg) : Ok P w K mg base 1 (He.ma K (He.ga K "House") "close_books") ["self"] (sp_House_close_books K) := by
  refine ok_of e.fun_House_close_books sc_House_close_books (fun _ _ _ _ _ _ us hl => match us, hl with | [_], _ => rfl) (by rintro _ _ _ _ ⟨h, dx, w, fs, ws, rfl, hh, hl, hw, hws, hn, q⟩; rfl) ?_
  intro cdv A outer s0 H vs Q E hr hsp
  have sc := sc_House_close_books
  have hu := hu_of hr
  refine ⟨_, (pss_cons (ps_atN e.c_House e.n_House_given (pv 0) pe_int)
    (pss_one (ps_atN e.c_House e.n_House_gone (pv 0) (pe_op op_repN (pe_lstN (pa_cons pe_int pa_nil)) (pe_callB len_listN (by rfl) e.f_len bt_len (pa_cons (pe_at e.c_House e.n_House_weather (pv 0)) pa_nil)))))), ?_⟩
  obtain ⟨h, dx, w, fs, ws, rfl, hh, hl, hw, hws, hn, q⟩ := hsp
  rw [st_House_close_books]
  have x := Ext.hide1 hh
  have kw : hide [h] H w = some (.lst (zs ws)) := by
    rw [hide_ne fun e => ?_]
    · exact hws
    · rw [List.mem_singleton.mp e, hh] at hws
      cases hws
  refine st_seq ?_
  simp only [ev3, ev, ev2, ev4, sl, eq1, exl, exists_and_left, and_assoc, true_and, at0, at1, at2, Int.toNat_natCast, hh]
  refine ⟨by omega, fun H1 pt => ?_⟩
  have y := x.put 0 rfl pt
  have y : Ext (hide [h] H) H1 [(h, .ins (He.ga K "House") dx (putF "given" (.int 0) fs))] := y
  have l1 := length_putF "given" (.int 0) fs
  have lk : List.lookup ("weather" : Str) (putF ("given" : Str) (.int 0) fs) = some (.ref w) := by
    rw [lookup_putF, if_neg (by decide +kernel)]
    exact hw
  simp only [ev3, ev, ev2, ev4, sl, eq1, exl, exists_and_left, and_assoc, true_and, at0, at1, at2, Int.toNat_natCast, List.length_cons, List.length_nil]
  refine ⟨by decide, fun z H2 x2 => ?_⟩
  have z2 := y.trans x2
  simp only [ev3, ev, ev2, ev4, sl, eq1, exl, exists_and_left, and_assoc, true_and, at0, at1, at2, Int.toNat_natCast, z2.g 1, lk, z2.k kw, zs_len, z2.g 0]
  refine ⟨by omega, by omega, fun g H3 x3 => ?_⟩
  have z3 := z2.trans x3
  refine ⟨_, _, z3.g 2, by omega, fun H4 pt4 => q H4 g ?_⟩
  have z4 := z3.put 2 rfl pt4
  rw [zs_rep] at z4
  exact z4.pick [0, 2] (by decide)
/-- a house that begins -/
def begunZ (b : Vbbcab.Building) : HS := ⟨b, b.rooms.map (fun x => x.first), 0, b.outs.map (fun x => x.first), List.replicate b.heaters.length 0, 0, 0, List.replicate b.outs.length 0⟩
def sp_House_begin (K : PySem.W.Frag) : Sp := fun vs H Q _ => ∃ (h dx p : Addr) (fs : List (Str × V)) (b : Vbbcab.Building), vs = [.ref h, .ref p] ∧ H h = some (.ins (He.ga K "House") dx fs) ∧ (fs = [] ∨ ∃ r s, fs = hF r s) ∧ PlanA K (hide [h] H) p b ∧ Few b ∧
  ∀ H' c w l g, Ext (hide [h] H) H' (hE K ⟨h, dx, p, c, w, l, g⟩ (begunZ b)) → Q .non H'
theorem begin_fs {fs : List (Str × V)} (h : fs = [] ∨ ∃ r s, fs = hF r s) (hh dx p c w l g : Addr) (b : Vbbcab.Building) :
    putF ("gone" : Str) (.ref g) (putF ("given" : Str) (.int 0) (putF ("clock" : Str) (.int 0) (putF ("levels" : Str) (.ref l) (putF ("weather" : Str) (.ref w) (putF ("shift" : Str) (.int 0) (putF ("cells" : Str) (.ref c) (putF ("plan" : Str) (.ref p) fs))))))) = hF ⟨hh, dx, p, c, w, l, g⟩ (begunZ b) := by
  rcases h with rfl | ⟨r, s, rfl⟩
  · unfold hF begunZ
    simp only [putF_nil, putF_cons, hne, if_false, if_true]
    rfl
  · rw [hput.1, hput.2.1]
    rw [show (V.int 0) = natV 0 from rfl, hput.2.2.1, hput.2.2.2.1, hput.2.2.2.2.1, hput.2.2.2.2.2.1]
    rw [show natV 0 = V.int 0 from rfl, hput.2.2.2.2.2.2.1, hput.2.2.2.2.2.2.2]
    rfl
theorem begin_len {fs : List (Str × V)} (h : fs = [] ∨ ∃ r s, fs = hF r s) : fs.length ≤ 8 := by
  rcases h with rfl | ⟨r, s, rfl⟩
  · exact Nat.zero_le _
  · exact Nat.le_refl 8
abbrev N_House_begin : List Str := ["self", "plan"]
theorem sc_House_begin : FnScope N_House_begin ["self", "plan"] (defScope s_House_begin) := ⟨rfl, rfl, rfl, by decide +kernel, rfl, by decide +kernel, by decide +kernel⟩
theorem st_House_begin (x0 x1 : V) : start N_House_begin [x0, x1] = [some x0, some x1] := rfl
theorem ok_House_begin (e : Env K mg) : Ok P w K mg base 2 (He.ma K (He.ga K "House") "begin") ["self", "plan"] (sp_House_begin K) := by
  refine ok_of e.fun_House_begin sc_House_begin (fun _ _ _ _ _ _ us hl => match us, hl with | [_, _], _ => rfl) (by rintro _ _ _ _ ⟨h, dx, p, fs, b, rfl, hh, hfs, PA, L, q⟩; rfl) ?_
  intro cdv A outer s0 H vs Q E hr hsp
  have sc := sc_House_begin
  have hu := hu_of hr
  have G_House_close_books := ok_House_close_books (P := P) (w := w) (base := base) e
  refine ⟨_, (pss_cons (ps_atN e.c_House e.n_House_plan (pv 0) (pv 1))
    (pss_cons (ps_atN e.c_House e.n_House_cells (pv 0) (pe_callTy list_listN (by rfl) e.f_list bt_list (pa_cons (pe_at e.c_Plan e.n_Plan_starts (pv 1)) pa_nil)))
    (pss_cons (ps_atN e.c_House e.n_House_shift (pv 0) pe_int)
    (pss_cons (ps_atN e.c_House e.n_House_weather (pv 0) (pe_callTy list_listN (by rfl) e.f_list bt_list (pa_cons (pe_at e.c_Plan e.n_Plan_weather (pv 1)) pa_nil)))
    (pss_cons (ps_atN e.c_House e.n_House_levels (pv 0) (pe_op op_repN (pe_lstN (pa_cons pe_int pa_nil)) (pe_callB len_listN (by rfl) e.f_len bt_len (pa_cons (pe_at e.c_Plan e.n_Plan_heaters (pv 1)) pa_nil))))
    (pss_cons (ps_atN e.c_House e.n_House_clock (pv 0) pe_int)
    (pss_one (ps_expr (pe_methE0 (pv 0) e.c_House e.m_House_close_books G_House_close_books (hr.mono (by decide))))))))))), ?_⟩
  obtain ⟨h, dx, p, fs, b, rfl, hh, hfs, PA, L, q⟩ := hsp
  rw [st_House_begin]
  have nfs := begin_len hfs
  obtain ⟨pdx, pr, ra, oa, la, ha, A⟩ := id PA
  have n1 := L.nr
  have n2 := L.no
  have n4 := L.nh
  have x := Ext.hide1 hh
  refine st_seq ?_
  simp only [ev3, ev, ev2, ev4, sl, eq1, exl, exists_and_left, and_assoc, true_and, at0, at1, at2, Int.toNat_natCast, hh]
  refine ⟨by omega, fun H1 pt => ?_⟩
  have y1 := x.put 0 rfl pt
  have y1 : Ext (hide [h] H) H1 [(h, .ins (He.ga K "House") dx (putF "plan" (.ref p) fs))] := y1
  have k1 := length_putF "plan" (.ref p) fs
  refine st_seq ?_
  simp only [ev3, ev, ev2, ev4, sl, eq1, exl, exists_and_left, and_assoc, true_and, at0, at1, at2, Int.toNat_natCast, y1.k A.ob, y1.k A.starts]
  intro c H2 x2
  have y2 := y1.trans x2
  refine ⟨_, _, y2.g 1, by omega, fun H3 pt => ?_⟩
  have y3 := y2.put 1 rfl pt
  have k3 := length_putF "cells" (.ref c) (putF "plan" (.ref p) fs)
  refine st_seq ?_
  simp only [ev3, ev, ev2, ev4, sl, eq1, exl, exists_and_left, and_assoc, true_and, at0, at1, at2, Int.toNat_natCast, y3.g 1]
  refine ⟨by omega, fun H4 pt => ?_⟩
  have y4 := y3.put 1 rfl pt
  have k4 := length_putF "shift" (.int 0) (putF "cells" (.ref c) (putF "plan" (.ref p) fs))
  refine st_seq ?_
  simp only [ev3, ev, ev2, ev4, sl, eq1, exl, exists_and_left, and_assoc, true_and, at0, at1, at2, Int.toNat_natCast, y4.k A.ob, y4.k A.weath]
  intro w H5 x5
  have y5 := y4.trans x5
  refine ⟨_, _, y5.g 2, by omega, fun H6 pt => ?_⟩
  have y6 := y5.put 2 rfl pt
  have k6 := length_putF "weather" (.ref w) (putF "shift" (.int 0) (putF "cells" (.ref c) (putF "plan" (.ref p) fs)))
  refine st_seq ?_
  simp only [ev3, ev, ev2, ev4, sl, eq1, exl, exists_and_left, and_assoc, true_and, at0, at1, at2, Int.toNat_natCast, List.length_cons, List.length_nil]
  refine ⟨by decide, fun z H7 x7 => ?_⟩
  have y7 := y6.trans x7
  simp only [ev3, ev, ev2, ev4, sl, eq1, exl, exists_and_left, and_assoc, true_and, at0, at1, at2, Int.toNat_natCast, y7.k A.ob, y7.k A.hl, List.length_map, A.hs.1, y7.g 0]
  refine ⟨by omega, by omega, fun l H8 x8 => ?_⟩
  have y8 := y7.trans x8
  refine ⟨_, _, y8.g 4, by omega, fun H9 pt => ?_⟩
  have y9 := y8.put 4 rfl pt
  have k9 := length_putF "levels" (.ref l) (putF "weather" (.ref w) (putF "shift" (.int 0) (putF "cells" (.ref c) (putF "plan" (.ref p) fs))))
  refine st_seq ?_
  simp only [ev3, ev, ev2, ev4, sl, eq1, exl, exists_and_left, and_assoc, true_and, at0, at1, at2, Int.toNat_natCast, y9.g 4]
  refine ⟨by omega, fun H10 pt => ?_⟩
  have y10 := y9.put 4 rfl pt
  have k10 := length_putF "clock" (.int 0) (putF "levels" (.ref l) (putF "weather" (.ref w) (putF "shift" (.int 0) (putF "cells" (.ref c) (putF "plan" (.ref p) fs)))))
  have lkw : List.lookup ("weather" : Str) (putF "clock" (.int 0) (putF "levels" (.ref l) (putF "weather" (.ref w) (putF "shift" (.int 0) (putF "cells" (.ref c) (putF "plan" (.ref p) fs)))))) = some (.ref w) := by
    rw [lookup_putF, if_neg (by decide +kernel), lookup_putF, if_neg (by decide +kernel), lookup_putF, if_pos rfl]
  simp only [ev3, ev, ev2, ev4, sl, eq1, exl, exists_and_left, and_assoc, true_and, at0, at1, at2, Int.toNat_natCast, y10.g 4]
  have lkc : List.lookup ("close_books" : Str) (putF "clock" (.int 0) (putF "levels" (.ref l) (putF "weather" (.ref w) (putF "shift" (.int 0) (putF "cells" (.ref c) (putF "plan" (.ref p) fs)))))) = none := by
    rw [lookup_putF, if_neg (by decide +kernel), lookup_putF, if_neg (by decide +kernel), lookup_putF, if_neg (by decide +kernel), lookup_putF, if_neg (by decide +kernel), lookup_putF, if_neg (by decide +kernel), lookup_putF, if_neg (by decide +kernel)]
    rcases hfs with rfl | ⟨r, s, rfl⟩
    · rfl
    · exact hF_no r s
  refine ⟨lkc, h, dx, w, _, b.outs.map (fun x => x.first), rfl, y10.g 4, by omega, lkw, y10.g 2, by rw [List.length_map]; omega, fun H11 g m => ?_⟩
  have y11 := y10.mod1 4 rfl (m.pick [1, 0] (by decide))
  refine q H11 c w l g ?_
  have e := begin_fs hfs h dx p c w l g b
  have y12 := y11.pick [5, 4, 3, 1, 0] (by decide)
  have e2 : List.replicate b.heaters.length (V.int 0) = zs (nzs (List.replicate b.heaters.length 0)) := by
    rw [zs_rep]
    unfold nzs
    rw [List.map_replicate]
    rfl
  have y13 : Ext (hide [h] H) H11 [(h, .ins (He.ga K "House") dx (putF ("gone" : Str) (.ref g) (putF ("given" : Str) (.int 0) (putF ("clock" : Str) (.int 0) (putF ("levels" : Str) (.ref l) (putF ("weather" : Str) (.ref w) (putF ("shift" : Str) (.int 0) (putF ("cells" : Str) (.ref c) (putF ("plan" : Str) (.ref p) fs))))))))),
    (c, .lst (zs (b.rooms.map (fun x => x.first)))), (w, .lst (zs (b.outs.map (fun x => x.first)))), (l, .lst (List.replicate b.heaters.length (V.int 0))), (g, .lst (zs (List.replicate (b.outs.map (fun x => x.first)).length 0)))] := y12
  rw [e, e2, List.length_map] at y13
  exact y13
theorem PlanNew.hide {K : PySem.W.Frag} {H H' : Hp} {p : Addr} {b : Vbbcab.Building} (h : PlanNew K H H' p b) {M : List Addr} (hM : ∀ a ∈ M, ∃ o, H a = some o) (ht : ∀ a ∈ M, ∀ xs, H' a ≠ some (.tup xs)) : PlanA K (WR.hide M H') p b := by
  obtain ⟨dx, r, ra, oa, la, ha, A, fr⟩ := h
  have nm : ∀ x ∈ [p, r.names, r.rooms, r.caps, r.starts, r.outs, r.weath, r.links, r.heaters], x ∉ M := fun x hx hm => by
    obtain ⟨o, e⟩ := hM x hm
    rw [fr x hx] at e
    cases e
  have kt : ∀ {a : Addr} {xs : List V}, H' a = some (.tup xs) → WR.hide M H' a = some (.tup xs) := fun {a xs} e => by
    rw [hide_ne fun hm => ht a hm xs e]
    exact e
  have kl : ∀ {x : Addr} {o : HO}, x ∈ [p, r.names, r.rooms, r.caps, r.starts, r.outs, r.weath, r.links, r.heaters] → H' x = some o → WR.hide M H' x = some o := fun {x o} hx e => by
    rw [hide_ne (nm x hx)]
    exact e
  exact ⟨dx, r, ra, oa, la, ha, kl (by simp) A.ob, kl (by simp) A.rl, A.rs.imp fun a b e => kt e, kl (by simp) A.caps, kl (by simp) A.starts, kl (by simp) A.ol, A.os.imp fun a b e => kt e, kl (by simp) A.weath, kl (by simp) A.ll,
    A.ls.imp fun a b ⟨x, y, h1, h2, h3⟩ => ⟨x, y, kt h1, kt h2, kt h3⟩, kl (by simp) A.hl, A.hs.imp fun a b ⟨x, h1, h2⟩ => ⟨x, kt h1, kt h2⟩⟩
theorem WfS.begun {b : Vbbcab.Building} (B : WfB b) : WfS (begunZ b) := by
  refine ⟨B, ⟨List.length_map _, List.length_replicate, fun t ht => ?_, fun n hn => ?_⟩, List.length_map _, List.length_replicate, fun x hx => ?_, Nat.zero_le _, fun x hx => ?_, Nat.zero_le _⟩
  · obtain ⟨o, ho, rfl⟩ := List.mem_map.mp ht
    exact B.outw o ho
  · have := List.eq_of_mem_replicate hn
    omega
  · obtain ⟨o, ho, rfl⟩ := List.mem_map.mp hx
    exact Sm.of_le (B.warm o ho) (by show 100000 < 2 ^ 40; decide)
  · rw [List.eq_of_mem_replicate hx]
    exact Sm.zero _
def sp_House_init (K : PySem.W.Frag) : Sp := fun vs H Q _ => ∃ (h dx : Addr), vs = [.ref h] ∧ H h = some (.ins (He.ga K "House") dx []) ∧
  ∀ F H' r, r.h = h → (∀ a o, a ≠ h → H a = some o → F a = some o) → F h = none → HI K F H' r (begunZ {}) → Q .non H'
abbrev N_House_init : List Str := ["self"]
theorem sc_House_init : FnScope N_House_init ["self"] (defScope s_House_init) := ⟨rfl, rfl, rfl, by decide +kernel, rfl, by decide +kernel, by decide +kernel⟩
theorem st_House_init (x0 : V) : start N_House_init [x0] = [some x0] := rfl
theorem ok_House_init (e : Env K mg) : Ok P w K mg base 3 (He.ma K (He.ga K "House") "__init__") ["self"] (sp_House_init K) := by
  refine ok_of e.fun_House_init sc_House_init (fun _ _ _ _ _ _ us hl => match us, hl with | [_], _ => rfl) (by rintro _ _ _ _ ⟨h, dx, rfl, hh, q⟩; rfl) ?_
  intro cdv A outer s0 H vs Q E hr hsp
  have sc := sc_House_init
  have hu := hu_of hr
  have G_House_begin := ok_House_begin (P := P) (w := w) (base := base) e
  have G_Plan_init := ok_Plan_init (P := P) (w := w) (base := base) e
  refine ⟨_, (pss_one (ps_expr (pe_methE (pv 0) e.c_House e.m_House_begin G_House_begin (hr.mono (by decide)) (pa_cons (pe_makeN e.k_Plan G_Plan_init (hr.mono (by decide)) e.g_Plan) pa_nil)))), ?_⟩
  obtain ⟨h, dx, rfl, hh, q⟩ := hsp
  rw [st_House_init]
  simp only [ev3, ev, ev2, ev4, sl, eq1, exl, exists_and_left, and_assoc, true_and, at0, at1, at2, Int.toNat_natCast, hh]
  refine ⟨rfl, fun x pdx H1 x1 => ⟨x, pdx, rfl, x1.g 0, fun H2 pr m => ⟨rfl, ?_⟩⟩⟩
  have y := x1.mod1 0 rfl m
  have y : Ext H H2 (bE pr [] [] [] [] [] {} ++ [(x, .ins (He.ga K "Plan") pdx (pF pr)), (pdx, .own x)]) := y
  have PN : PlanNew K H H2 x {} := by
    refine ⟨pdx, pr, [], [], [], [], ⟨y.g 8, y.g 1, All2.nil, y.g 2, y.g 3, y.g 4, All2.nil, y.g 5, y.g 6, All2.nil, y.g 7, All2.nil⟩, fun a ha => ?_⟩
    simp only [List.mem_cons, List.not_mem_nil, or_false] at ha
    rcases ha with rfl | rfl | rfl | rfl | rfl | rfl | rfl | rfl | rfl
    · exact y.f 8
    · exact y.f 0
    · exact y.f 1
    · exact y.f 2
    · exact y.f 3
    · exact y.f 4
    · exact y.f 5
    · exact y.f 6
    · exact y.f 7
  have h2 := y.k hh
  have PA : PlanA K (hide [h] H2) x {} := PN.hide (fun a ha => by rw [List.mem_singleton.mp ha]; exact ⟨_, hh⟩) (fun a ha xs e => by rw [List.mem_singleton.mp ha, h2] at e; cases e)
  refine ⟨h, dx, x, [], {}, rfl, h2, .inl rfl, PA, ⟨by decide, by decide, by decide, by decide⟩, fun H3 c w l g z => ?_⟩
  refine q (hide [h] H2) H3 ⟨h, dx, x, c, w, l, g⟩ rfl (fun a o ne e => ?_) (hide_in (by simp)) ⟨z, PA, WfS.begun WfB.empty⟩
  rw [hide_ne (by simpa using ne)]
  exact y.k e
def outsideH (s : HS) (n t : Int) : HS × List Int := if Vbbcab.inside n 1 (s.wt.length : Int) = false then (s, [-1]) else if Vbbcab.inside t (-100000) 100000 = false then (s, [-2]) else ({ s with wt := s.wt.set (n.toNat - 1) t }, [0])
def heatH (s : HS) (n u : Int) : HS × List Int := if Vbbcab.inside n 1 (s.lv.length : Int) = false then (s, [-1]) else if Vbbcab.inside u 0 ((((s.b.heaters[n.toNat - 1]?).map fun x => x.most).getD 0 : Nat) : Int) = false then (s, [-2]) else ({ s with lv := s.lv.set (n.toNat - 1) u.toNat }, [0])
def setH (s : HS) (n t : Int) : HS × List Int := if hasRoom s n = false then (s, [-1]) else if Vbbcab.inside t (-100000) 100000 = false then (s, [-2]) else ({ s with cells := s.cells.set (n.toNat - 1) (t * 2 ^ s.shift), given := 0, gone := List.replicate s.wt.length 0 }, [0])
/-- a method of two numbers -/
def Meth2 (K : PySem.W.Frag) (f : HS → Int → Int → HS × List Int) : Sp := fun vs H Q _ => ∃ (F : Hp) (r : HA) (s : HS) (n t : Int), vs = [.ref r.h, .int n, .int t] ∧ HI K F H r s ∧ AnsM K F r s (f s n t).1 (f s n t).2 Q
theorem inside_iff {n lo hi : Int} : Vbbcab.inside n lo hi = true ↔ lo ≤ n ∧ n ≤ hi := by
  unfold Vbbcab.inside
  rw [Bool.and_eq_true, decide_eq_true_eq, decide_eq_true_eq]
theorem in_not {P R : Prop} {n lo hi : Int} (h1 : Vbbcab.inside n lo hi = false → P) (h2 : Vbbcab.inside n lo hi = true → R) : if decide (lo ≤ n) = true then (if (!decide (n ≤ hi)) = true then P else R) else if (!false) = true then P else R := by
  unfold Vbbcab.inside at *
  by_cases a : lo ≤ n
  · rw [if_pos (decide_eq_true a)]
    by_cases c : n ≤ hi
    · rw [if_neg (by rw [decide_eq_true c]; decide)]
      exact h2 (by rw [decide_eq_true a, decide_eq_true c]; rfl)
    · rw [if_pos (by rw [decide_eq_false c]; decide)]
      exact h1 (by rw [decide_eq_false c, Bool.and_false])
  · rw [if_neg (by rw [decide_eq_false a]; decide), if_pos (by decide)]
    exact h1 (by rw [decide_eq_false a, Bool.false_and])
/-- behind nothing done -/
theorem AnsM.stay {K : PySem.W.Frag} {F H : Hp} {r : HA} {s : HS} {ans : List Int} {Q : VK} (h : AnsM K F r s s ans Q) (I : HI K F H r s) {H' : Hp} {t : Addr} (x : Ext H H' [(t, .lst (zs ans))]) : Q (.ref t) H' := h F H' t r rfl (fun _ _ h => h) (I.x.trans x) ⟨I.p, fun _ _ _ h => h⟩
def sp_House_outside (K : PySem.W.Frag) : Sp := Meth2 K outsideH
abbrev N_House_outside : List Str := ["self", "number", "warmth"]
theorem sc_House_outside : FnScope N_House_outside ["self", "number", "warmth"] (defScope s_House_outside) := ⟨rfl, rfl, rfl, by decide +kernel, rfl, by decide +kernel, by decide +kernel⟩
theorem st_House_outside (x0 x1 x2 : V) : start N_House_outside [x0, x1, x2] = [some x0, some x1, some x2] := rfl
theorem ok_House_outside (e : Env K mg) : Ok P w K mg base 2 (He.ma K (He.ga K "House") "outside") ["self", "number", "warmth"] (sp_House_outside K) := by
  refine ok_of e.fun_House_outside sc_House_outside (fun _ _ _ _ _ _ us hl => match us, hl with | [_, _, _], _ => rfl) (by rintro _ _ _ _ ⟨F, r, s, n, t, rfl, I, q⟩; rfl) ?_
  intro cdv A outer s0 H vs Q E hr hsp
  have sc := sc_House_outside
  have hu := hu_of hr
  have G_is_warmth := ok_is_warmth (P := P) (w := w) (base := base) e
  refine ⟨_, (pss_cons (ps_if (pt_not (pt_chain op_le op_le pe_int (pv 1) (pe_callB len_listN (by rfl) e.f_len bt_len (pa_cons (pe_at e.c_House e.n_House_weather (pv 0)) pa_nil))))
    (pss_one (ps_ret (pe_lstN (pa_cons (pe_un un_neg pe_int) pa_nil))))
    pss_nil)
    (pss_cons (ps_if (pt_not (pt_val (pe_callE G_is_warmth (hr.mono (by decide)) e.g_is_warmth (pa_cons (pv 2) pa_nil))))
    (pss_one (ps_ret (pe_lstN (pa_cons (pe_un un_neg pe_int) pa_nil))))
    pss_nil)
    (pss_cons (ps_asg (pv 2) (pg_sub (pe_at e.c_House e.n_House_weather (pv 0)) (pe_op op_sub (pv 1) pe_int) set_listN))
    (pss_one (ps_ret (pe_lstN (pa_cons pe_int pa_nil))))))), ?_⟩
  obtain ⟨F, r, s, n, t, rfl, I, q⟩ := hsp
  rw [st_House_outside]
  have gh := I.x.g 0
  have gw := I.x.g 2
  refine st_seq ?_
  simp only [ev3, ev, ev2, ev4, sl, eq1, exl, exists_and_left, and_assoc, true_and, at0, at1, at2, Int.toNat_natCast, gh, ev6, gw, zs_len]
  unfold outsideH at q
  refine in_not (fun h1 => ?_) (fun h1 => ?_)
  · rw [if_pos h1] at q
    exact ⟨by show 1 ≤ sizeLine; decide, fun u H1 x => q.stay I x⟩
  rw [if_neg (by rw [h1]; decide)] at q
  obtain ⟨a1, a2⟩ := inside_iff.mp h1
  refine st_seq ?_
  simp only [ev3, ev, ev2, ev4, sl, eq1, exl, exists_and_left, and_assoc, true_and, at0, at1, at2, Int.toNat_natCast]
  refine ⟨t, rfl, _, rfl, ?_⟩
  cases ht : Vbbcab.inside t (-100000) 100000 with
  | false =>
    rw [if_pos ht] at q
    rw [if_pos (by decide)]
    exact ⟨by show 1 ≤ sizeLine; decide, fun u H1 x => q.stay I x⟩
  | true =>
  rw [if_neg (by rw [ht]; decide)] at q
  rw [if_neg (by decide)]
  refine st_seq ?_
  simp only [ev3, ev, ev2, ev4, sl, eq1, exl, exists_and_left, and_assoc, true_and, at0, at1, at2, Int.toNat_natCast, gh, ev6, gw]
  have e : n - 1 = ((n.toNat - 1 : Nat) : Int) := by omega
  rw [e]
  refine ⟨_, ixN_of (by rw [zs_len]; omega), fun H1 pt => ?_⟩
  rw [zs_set] at pt
  have y := I.x.put 2 rfl pt
  refine ⟨by show 1 ≤ sizeLine; decide, fun u H2 x2 => q F H2 u r rfl (fun _ _ h => h) (y.trans x2) ⟨I.p, fun _ _ _ h => h⟩⟩
def sp_House_heat (K : PySem.W.Frag) : Sp := Meth2 K heatH
abbrev N_House_heat : List Str := ["self", "number", "level"]
theorem sc_House_heat : FnScope N_House_heat ["self", "number", "level"] (defScope s_House_heat) := ⟨rfl, rfl, rfl, by decide +kernel, rfl, by decide +kernel, by decide +kernel⟩
theorem st_House_heat (x0 x1 x2 : V) : start N_House_heat [x0, x1, x2] = [some x0, some x1, some x2] := rfl
theorem ok_House_heat (e : Env K mg) : Ok P w K mg base 2 (He.ma K (He.ga K "House") "heat") ["self", "number", "level"] (sp_House_heat K) := by
  refine ok_of e.fun_House_heat sc_House_heat (fun _ _ _ _ _ _ us hl => match us, hl with | [_, _, _], _ => rfl) (by rintro _ _ _ _ ⟨F, r, s, n, t, rfl, I, q⟩; rfl) ?_
  intro cdv A outer s0 H vs Q E hr hsp
  have sc := sc_House_heat
  have hu := hu_of hr
  have G_House_has_heater := ok_House_has_heater (P := P) (w := w) (base := base) e
  refine ⟨_, (pss_cons (ps_if (pt_not (pt_val (pe_methE (pv 0) e.c_House e.m_House_has_heater G_House_has_heater (hr.mono (by decide)) (pa_cons (pv 1) pa_nil))))
    (pss_one (ps_ret (pe_lstN (pa_cons (pe_un un_neg pe_int) pa_nil))))
    pss_nil)
    (pss_cons (ps_if (pt_not (pt_chain op_le op_le pe_int (pv 2) (pe_ix ix_tupN (pe_ix ix_listN (pe_at e.c_Plan e.n_Plan_heaters (pe_at e.c_House e.n_House_plan (pv 0))) (pe_op op_sub (pv 1) pe_int) (fun _ _ => rfl)) pe_int (fun _ _ => rfl))))
    (pss_one (ps_ret (pe_lstN (pa_cons (pe_un un_neg pe_int) pa_nil))))
    pss_nil)
    (pss_cons (ps_asg (pv 2) (pg_sub (pe_at e.c_House e.n_House_levels (pv 0)) (pe_op op_sub (pv 1) pe_int) set_listN))
    (pss_one (ps_ret (pe_lstN (pa_cons pe_int pa_nil))))))), ?_⟩
  obtain ⟨F, r, s, n, t, rfl, I, q⟩ := hsp
  rw [st_House_heat]
  have gh := I.x.g 0
  have gl := I.x.g 3
  have ll := I.w.w.ll
  unfold heatH at q
  refine st_seq ?_
  simp only [ev3, ev, ev2, ev4, sl, eq1, exl, exists_and_left, and_assoc, true_and, at0, at1, at2, Int.toNat_natCast, gh]
  refine ⟨hF_no r s, F, r, s, n, rfl, I, _, rfl, ?_⟩
  have eh : hasHeater s n = Vbbcab.inside n 1 (s.lv.length : Int) := rfl
  rw [eh]
  cases h1 : Vbbcab.inside n 1 (s.lv.length : Int) with
  | false =>
    rw [if_pos h1] at q
    rw [if_pos (by decide)]
    exact ⟨by show 1 ≤ sizeLine; decide, fun u H1 x => q.stay I x⟩
  | true =>
  rw [if_neg (by rw [h1]; decide)] at q
  rw [if_neg (by decide)]
  obtain ⟨a1, a2⟩ := inside_iff.mp h1
  obtain ⟨dx, pr, ra, oa, la, ha, A⟩ := I.p
  have hb : s.b.heaters[n.toNat - 1]? = some s.b.heaters[n.toNat - 1] := List.getElem?_eq_getElem (by omega)
  obtain ⟨a, ea, na, e2, e3⟩ := A.hs.get hb
  rw [hb] at q
  have em : (((some s.b.heaters[n.toNat - 1]).map fun x : Vbbcab.Heater => x.most).getD 0) = s.b.heaters[n.toNat - 1].most := rfl
  rw [em] at q
  generalize s.b.heaters[n.toNat - 1] = he at *
  have e : n - 1 = ((n.toNat - 1 : Nat) : Int) := by omega
  have ea : atI (ha.map V.ref) ((n.toNat - 1 : Nat) : Int) = some (.ref a) := atI_nat (by rw [List.getElem?_map, ea]; rfl)
  refine st_seq ?_
  simp only [ev3, ev, ev2, ev4, sl, eq1, exl, exists_and_left, and_assoc, true_and, at0, at1, at2, Int.toNat_natCast, gh, ev6, I.x.k A.ob, I.x.k A.hl, e, ea, I.x.k e2]
  refine in_not (fun h2 => ?_) (fun h2 => ?_)
  · rw [if_pos h2] at q
    exact ⟨by show 1 ≤ sizeLine; decide, fun u H1 x => q.stay I x⟩
  rw [if_neg (by rw [h2]; decide)] at q
  obtain ⟨b1, b2⟩ := inside_iff.mp h2
  refine st_seq ?_
  simp only [ev3, ev, ev2, ev4, sl, eq1, exl, exists_and_left, and_assoc, true_and, at0, at1, at2, Int.toNat_natCast, gh, ev6, gl, e]
  refine ⟨_, ixN_of (by rw [zs_len, nzs_len]; omega), fun H1 pt => ?_⟩
  have et : V.int t = natV t.toNat := by unfold natV; rw [show ((t.toNat : Nat) : Int) = t by omega]
  rw [et, nzs_set] at pt
  have y := I.x.put 3 rfl pt
  exact ⟨by show 1 ≤ sizeLine; decide, fun u H2 x2 => q F H2 u r rfl (fun _ _ h => h) (y.trans x2) ⟨I.p, fun _ _ _ h => h⟩⟩
theorem WfS.setW {s : HS} (W : WfS s) {i : Nat} {t : Int} (ht : Vbbcab.inside t (-100000) 100000 = true) : WfS { s with wt := s.wt.set i t } := by
  obtain ⟨a1, a2⟩ := inside_iff.mp ht
  refine ⟨W.b, ⟨by show (s.wt.set i t).length = _; rw [List.length_set]; exact W.w.lw, W.w.ll, fun x hx => ?_, W.w.lev⟩, W.cl, W.gl, W.cs, W.sh, W.gs, W.ck⟩
  rcases List.mem_or_eq_of_mem_set hx with h | h
  · exact W.w.warm x h
  · omega
theorem outsideH_wf {s : HS} (W : WfS s) (n t : Int) : WfS (outsideH s n t).1 := by
  unfold outsideH
  split
  · exact W
  · split
    · exact W
    · rename_i h
      exact W.setW (by simpa using h)
theorem most_le {b : Vbbcab.Building} (B : WfB b) (i : Nat) : ((b.heaters[i]?).map fun x => x.most).getD 0 ≤ 1000000 := by
  cases e : b.heaters[i]? with
  | none => exact Nat.zero_le _
  | some h => exact B.most h (List.mem_of_getElem? e)
theorem heatH_wf {s : HS} (W : WfS s) (n t : Int) : WfS (heatH s n t).1 := by
  unfold heatH
  split
  · exact W
  · split
    · exact W
    · rename_i h
      obtain ⟨a1, a2⟩ := inside_iff.mp (by simpa using h)
      have := most_le W.b (n.toNat - 1)
      exact ⟨W.b, W.w.setL _ _ (by omega), W.cl, W.gl, W.cs, W.sh, W.gs, W.ck⟩
theorem setH_wf {s : HS} (W : WfS s) (n t : Int) : WfS (setH s n t).1 := by
  unfold setH
  split
  · exact W
  · split
    · exact W
    · rename_i h
      obtain ⟨a1, a2⟩ := inside_iff.mp (by simpa using h)
      have sh := W.sh
      refine ⟨W.b, W.w, by show (s.cells.set _ _).length = _; rw [List.length_set]; exact W.cl, by show (List.replicate _ _).length = _; rw [List.length_replicate]; exact W.w.lw, fun x hx => ?_, W.sh, fun x hx => ?_, W.ck⟩
      · rcases List.mem_or_eq_of_mem_set hx with q | q
        · exact W.cs x q
        · rw [q]
          exact ((Sm.of_le (n := 17) (m := 100000) (by omega) (by decide)).shl s.shift).mono (by show 17 + s.shift ≤ 40 + 37 * s.clock; omega)
      · rw [List.eq_of_mem_replicate hx]
        exact Sm.zero _
def sp_House_set_room (K : PySem.W.Frag) : Sp := Meth2 K setH
abbrev N_House_set_room : List Str := ["self", "number", "warmth"]
theorem sc_House_set_room : FnScope N_House_set_room ["self", "number", "warmth"] (defScope s_House_set_room) := ⟨rfl, rfl, rfl, by decide +kernel, rfl, by decide +kernel, by decide +kernel⟩
theorem st_House_set_room (x0 x1 x2 : V) : start N_House_set_room [x0, x1, x2] = [some x0, some x1, some x2] := rfl
theorem ok_House_set_room (e : Env K mg) : Ok P w K mg base 2 (He.ma K (He.ga K "House") "set_room") ["self", "number", "warmth"] (sp_House_set_room K) := by
  refine ok_of e.fun_House_set_room sc_House_set_room (fun _ _ _ _ _ _ us hl => match us, hl with | [_, _, _], _ => rfl) (by rintro _ _ _ _ ⟨F, r, s, n, t, rfl, I, q⟩; rfl) ?_
  intro cdv A outer s0 H vs Q E hr hsp
  have sc := sc_House_set_room
  have hu := hu_of hr
  have G_House_has_room := ok_House_has_room (P := P) (w := w) (base := base) e
  have G_is_warmth := ok_is_warmth (P := P) (w := w) (base := base) e
  have G_House_close_books := ok_House_close_books (P := P) (w := w) (base := base) e
  refine ⟨_, (pss_cons (ps_if (pt_not (pt_val (pe_methE (pv 0) e.c_House e.m_House_has_room G_House_has_room (hr.mono (by decide)) (pa_cons (pv 1) pa_nil))))
    (pss_one (ps_ret (pe_lstN (pa_cons (pe_un un_neg pe_int) pa_nil))))
    pss_nil)
    (pss_cons (ps_if (pt_not (pt_val (pe_callE G_is_warmth (hr.mono (by decide)) e.g_is_warmth (pa_cons (pv 2) pa_nil))))
    (pss_one (ps_ret (pe_lstN (pa_cons (pe_un un_neg pe_int) pa_nil))))
    pss_nil)
    (pss_cons (ps_asg (pe_op op_shlW (pv 2) (pe_at e.c_House e.n_House_shift (pv 0))) (pg_sub (pe_at e.c_House e.n_House_cells (pv 0)) (pe_op op_sub (pv 1) pe_int) set_listN))
    (pss_cons (ps_expr (pe_methE0 (pv 0) e.c_House e.m_House_close_books G_House_close_books (hr.mono (by decide))))
    (pss_one (ps_ret (pe_lstN (pa_cons pe_int pa_nil)))))))), ?_⟩
  obtain ⟨F, r, s, n, t, rfl, I, q⟩ := hsp
  rw [st_House_set_room]
  have gh := I.x.g 0
  have gc := I.x.g 1
  unfold setH at q
  refine st_seq ?_
  simp only [ev3, ev, ev2, ev4, sl, eq1, exl, exists_and_left, and_assoc, true_and, at0, at1, at2, Int.toNat_natCast, gh]
  refine ⟨hF_no r s, F, r, s, n, rfl, I, _, rfl, ?_⟩
  cases h1 : hasRoom s n with
  | false =>
    rw [if_pos h1] at q
    rw [if_pos (by decide)]
    exact ⟨by show 1 ≤ sizeLine; decide, fun u H1 x => q.stay I x⟩
  | true =>
  rw [if_neg (by rw [h1]; decide)] at q
  rw [if_neg (by decide)]
  obtain ⟨a1, a2⟩ := inside_iff.mp h1
  refine st_seq ?_
  simp only [ev3, ev, ev2, ev4, sl, eq1, exl, exists_and_left, and_assoc, true_and, at0, at1, at2, Int.toNat_natCast]
  refine ⟨t, rfl, _, rfl, ?_⟩
  cases ht : Vbbcab.inside t (-100000) 100000 with
  | false =>
    rw [if_pos ht] at q
    rw [if_pos (by decide)]
    exact ⟨by show 1 ≤ sizeLine; decide, fun u H1 x => q.stay I x⟩
  | true =>
  rw [if_neg (by rw [ht]; decide)] at q
  rw [if_neg (by decide)]
  obtain ⟨b1, b2⟩ := inside_iff.mp ht
  have sh := I.w.sh
  have ck := I.w.ck
  refine st_seq ?_
  have e : n - 1 = ((n.toNat - 1 : Nat) : Int) := by omega
  simp only [ev3, ev, ev2, ev4, sl, eq1, exl, exists_and_left, and_assoc, true_and, at0, at1, at2, Int.toNat_natCast, gh, ev6, gc, e]
  refine ⟨shl_sm (n := 17) (Sm.of_le (m := 100000) (by omega) (by decide)) (by omega), _, ixN_of (by rw [zs_len]; omega), fun H1 pt => ?_⟩
  rw [zs_set] at pt
  have y := I.x.put 1 rfl pt
  refine st_seq ?_
  have gh1 := y.g 0
  simp only [ev3, ev, ev2, ev4, sl, eq1, exl, exists_and_left, and_assoc, true_and, at0, at1, at2, Int.toNat_natCast, gh1]
  have L := I.w.b.few.no
  refine ⟨hF_no r s, r.h, r.dx, r.w, hF r s, s.wt, rfl, gh1, by show 8 < 900; decide, ev6.2.2.2.1 r s, y.g 2, by rw [I.w.w.lw]; exact L, fun H2 g m => ?_⟩
  have z := y.mod1 0 rfl (m.pick [1, 0] (by decide))
  rw [hput.2.2.2.2.2.2.1, hput.2.2.2.2.2.2.2] at z
  refine ⟨by show 1 ≤ sizeLine; decide, fun u H3 x3 => ?_⟩
  have z3 := z.trans x3
  exact q F H3 u { r with g := g } rfl (fun _ _ h => h) (z3.pick [0, 2, 3, 4, 5, 1] (by decide)) ⟨I.p, fun _ _ _ h => h⟩
end
end WR
end PartWh1
section PartWh2
set_option Elab.async false
set_option linter.all false
set_option maxRecDepth 100000
set_option maxHeartbeats 4000000
namespace WR
open PySem PySem.Spec PyProof.Rows L2 WH
section
variable {P : Program} {w : World} {K : PySem.W.Frag} {mg : Str → Option Value} {base : Heap}
theorem printZ_len {b : Vbbcab.Building} (B : WfB b) : (printZ b).length ≤ 20000 := by
  have n1 := B.nr
  have n2 := B.no
  have n3 := B.nl
  have n4 := B.nh
  have len1 := flat_len (f := roomL) (k := 120) (l := b.rooms) fun r hr => by
    have c1 := B.cap r hr
    have c2 := B.warm r hr
    exact lineOut_len (by decide) (by simp) (by simp) (fun w hw => by rw [List.mem_singleton.mp hw]; exact B.rname r hr) (fun m hm => by
      simp only [List.mem_cons, List.not_mem_nil, or_false] at hm
      rcases hm with rfl | rfl <;> omega)
  have len2 := flat_len (f := outL) (k := 120) (l := b.outs) fun r hr => by
    have c2 := B.outw r hr
    exact lineOut_len (by decide) (by simp) (by simp) (fun w hw => by rw [List.mem_singleton.mp hw]; exact B.oname r hr) (fun m hm => by
      rw [List.mem_singleton.mp hm]
      omega)
  have len3 := flat_len (f := linkL b) (k := 120) (l := b.links) fun l hl => by
    have c2 := B.g l hl
    exact lineOut_len (by decide) (by simp) (by simp) (fun w hw => by
      simp only [List.mem_cons, List.not_mem_nil, or_false] at hw
      rcases hw with rfl | rfl <;> exact nodeName_len B _) (fun m hm => by
      rw [List.mem_singleton.mp hm]
      omega)
  have len4 := flat_len (f := heaterL b) (k := 120) (l := b.heaters) fun l hl => by
    have c2 := B.most l hl
    exact lineOut_len (by decide) (by simp) (by simp) (fun w hw => by
      simp only [List.mem_cons, List.not_mem_nil, or_false] at hw
      rcases hw with rfl | rfl
      · exact B.hname l hl
      · exact nodeName_len B _) (fun m hm => by
      rw [List.mem_singleton.mp hm]
      omega)
  unfold printZ
  simp only [List.length_append]
  omega
def Meth0 (K : PySem.W.Frag) (f : HS → HS × List Int) : Sp := fun vs H Q _ => ∃ (F : Hp) (r : HA) (s : HS), vs = [.ref r.h] ∧ HI K F H r s ∧ AnsM K F r s (f s).1 (f s).2 Q
def Meth1 (K : PySem.W.Frag) (f : HS → Int → HS × List Int) : Sp := fun vs H Q _ => ∃ (F : Hp) (r : HA) (s : HS) (n : Int), vs = [.ref r.h, .int n] ∧ HI K F H r s ∧ AnsM K F r s (f s n).1 (f s n).2 Q
theorem sz1 : (1 : Nat) ≤ sizeLine := by decide
theorem HI.pl {K : PySem.W.Frag} {F H : Hp} {r : HA} {s : HS} (I : HI K F H r s) : PlanA K H r.p s.b := I.p.mono I.x.keeps
def clockH (s : HS) : HS × List Int := (s, (0 :: (s.clock : Int) :: s.wt) ++ nzs s.lv)
def sp_House_tell_clock (K : PySem.W.Frag) : Sp := Meth0 K clockH
abbrev N_House_tell_clock : List Str := ["self"]
theorem sc_House_tell_clock : FnScope N_House_tell_clock ["self"] (defScope s_House_tell_clock) := ⟨rfl, rfl, rfl, by decide +kernel, rfl, by decide +kernel, by decide +kernel⟩
theorem st_House_tell_clock (x0 : V) : start N_House_tell_clock [x0] = [some x0] := rfl
theorem ok_House_tell_clock (e : Env K mg) : Ok P w K mg base 1 (He.ma K (He.ga K "House") "tell_clock") ["self"] (sp_House_tell_clock K) := by
  refine ok_of e.fun_House_tell_clock sc_House_tell_clock (fun _ _ _ _ _ _ us hl => match us, hl with | [_], _ => rfl) (by rintro _ _ _ _ ⟨F, r, s, rfl, I, q⟩; rfl) ?_
  intro cdv A outer s0 H vs Q E hr hsp
  have sc := sc_House_tell_clock
  have hu := hu_of hr
  refine ⟨_, (pss_one (ps_ret (pe_op op_catN (pe_op op_catN (pe_lstN (pa_cons pe_int (pa_cons (pe_at e.c_House e.n_House_clock (pv 0)) pa_nil))) (pe_at e.c_House e.n_House_weather (pv 0))) (pe_at e.c_House e.n_House_levels (pv 0))))), ?_⟩
  obtain ⟨F, r, s, rfl, I, q⟩ := hsp
  rw [st_House_tell_clock]
  have gh := I.x.g 0
  have lw := I.w.w.lw
  have ll := I.w.w.ll
  have n2 := I.w.b.no
  have n4 := I.w.b.nh
  simp only [ev3, ev, ev2, ev4, sl, eq1, exl, exists_and_left, and_assoc, true_and, at0, at1, at2, Int.toNat_natCast, gh, ev6, List.length_cons, List.length_nil]
  refine ⟨by decide, fun a H1 x1 => ?_⟩
  have y1 := I.x.trans x1
  have gh1 := y1.g 1
  simp only [ev3, ev, ev2, ev4, sl, eq1, exl, exists_and_left, and_assoc, true_and, at0, at1, at2, Int.toNat_natCast, gh1, ev6]
  refine ⟨_, y1.g 0, _, y1.g 3, size_ok (by simp only [List.length_cons, List.length_nil, zs_len]; omega), fun c H2 x2 => ?_⟩
  have y2 := y1.trans x2
  have gh2 := y2.g 2
  simp only [ev3, ev, ev2, ev4, sl, eq1, exl, exists_and_left, and_assoc, true_and, at0, at1, at2, Int.toNat_natCast, gh2, ev6]
  refine ⟨_, y2.g 0, _, y2.g 5, size_ok (by simp only [List.length_append, List.length_cons, List.length_nil, zs_len, nzs_len]; omega), fun u H3 x3 => ?_⟩
  have y3 := y2.trans x3
  refine q F H3 u r rfl (fun _ _ h => h) ?_ ⟨I.p, fun _ _ _ h => h⟩
  have e : ([V.int 0, natV s.clock] ++ zs s.wt) ++ zs (nzs s.lv) = zs (clockH s).2 := by
    unfold clockH
    show _ = List.map V.int _
    rw [List.map_append]
    rfl
  rw [e] at y3
  exact y3.pick [0, 3, 4, 5, 6, 7] (by decide)
def textH (s : HS) : HS × List Int := (s, 0 :: nameI (printZ s.b))
def sp_House_text (K : PySem.W.Frag) : Sp := Meth0 K textH
abbrev N_House_text : List Str := ["self"]
theorem sc_House_text : FnScope N_House_text ["self"] (defScope s_House_text) := ⟨rfl, rfl, rfl, by decide +kernel, rfl, by decide +kernel, by decide +kernel⟩
theorem st_House_text (x0 : V) : start N_House_text [x0] = [some x0] := rfl
theorem ok_House_text (e : Env K mg) : Ok P w K mg base 4 (He.ma K (He.ga K "House") "text") ["self"] (sp_House_text K) := by
  refine ok_of e.fun_House_text sc_House_text (fun _ _ _ _ _ _ us hl => match us, hl with | [_], _ => rfl) (by rintro _ _ _ _ ⟨F, r, s, rfl, I, q⟩; rfl) ?_
  intro cdv A outer s0 H vs Q E hr hsp
  have sc := sc_House_text
  have hu := hu_of hr
  have G_printed := ok_printed (P := P) (w := w) (base := base) e
  refine ⟨_, (pss_one (ps_ret (pe_op op_catN (pe_lstN (pa_cons pe_int pa_nil)) (pe_callE G_printed (hr.mono (by decide)) e.g_printed (pa_cons (pe_at e.c_House e.n_House_plan (pv 0)) pa_nil))))), ?_⟩
  obtain ⟨F, r, s, rfl, I, q⟩ := hsp
  rw [st_House_text]
  have gh := I.x.g 0
  have pl := printZ_len I.w.b
  simp only [ev3, ev, ev2, ev4, sl, eq1, exl, exists_and_left, and_assoc, true_and, at0, at1, at2, Int.toNat_natCast, List.length_cons, List.length_nil]
  refine ⟨by decide, fun a H1 x1 => ?_⟩
  have y1 := I.x.trans x1
  have gh1 := y1.g 1
  simp only [ev3, ev, ev2, ev4, sl, eq1, exl, exists_and_left, and_assoc, true_and, at0, at1, at2, Int.toNat_natCast, gh1, ev6]
  refine ⟨r.p, s.b, rfl, I.pl.mono x1.keeps, I.w.b, fun H2 c x2 => ?_⟩
  have y2 := y1.trans x2
  refine ⟨c, rfl, _, y2.g 1, _, y2.g 0, size_ok (by simp only [List.length_cons, List.length_nil, nameI_len]; omega), fun u H3 x3 => ?_⟩
  have y3 := y2.trans x3
  exact q F H3 u r rfl (fun _ _ h => h) (y3.pick [0, 3, 4, 5, 6, 7] (by decide)) ⟨I.p, fun _ _ _ h => h⟩
def tempH (s : HS) (n : Int) : HS × List Int := (s, if hasRoom s n = false then [-1] else 0 :: Vbbcab.told (Vbbcab.shave s.shift (s.cells.getD (n.toNat - 1) 0)))
def sp_House_temp (K : PySem.W.Frag) : Sp := Meth1 K tempH
abbrev N_House_temp : List Str := ["self", "number"]
theorem sc_House_temp : FnScope N_House_temp ["self", "number"] (defScope s_House_temp) := ⟨rfl, rfl, rfl, by decide +kernel, rfl, by decide +kernel, by decide +kernel⟩
theorem st_House_temp (x0 x1 : V) : start N_House_temp [x0, x1] = [some x0, some x1] := rfl
theorem ok_House_temp (e : Env K mg) : Ok P w K mg base 2 (He.ma K (He.ga K "House") "temp") ["self", "number"] (sp_House_temp K) := by
  refine ok_of e.fun_House_temp sc_House_temp (fun _ _ _ _ _ _ us hl => match us, hl with | [_, _], _ => rfl) (by rintro _ _ _ _ ⟨F, r, s, n, rfl, I, q⟩; rfl) ?_
  intro cdv A outer s0 H vs Q E hr hsp
  have sc := sc_House_temp
  have hu := hu_of hr
  have G_House_has_room := ok_House_has_room (P := P) (w := w) (base := base) e
  have G_told := ok_told (P := P) (w := w) (base := base) e
  refine ⟨_, (pss_one (ps_ret (pe_ifExp (pt_val (pe_methE (pv 0) e.c_House e.m_House_has_room G_House_has_room (hr.mono (by decide)) (pa_cons (pv 1) pa_nil))) (pe_op op_catN (pe_lstN (pa_cons pe_int pa_nil)) (pe_callE G_told (hr.mono (by decide)) e.g_told (pa_cons (pe_ix ix_listN (pe_at e.c_House e.n_House_cells (pv 0)) (pe_op op_sub (pv 1) pe_int) (fun _ _ => rfl)) (pa_cons (pe_at e.c_House e.n_House_shift (pv 0)) pa_nil)))) (pe_lstN (pa_cons (pe_un un_neg pe_int) pa_nil))))), ?_⟩
  obtain ⟨F, r, s, n, rfl, I, q⟩ := hsp
  rw [st_House_temp]
  have gh := I.x.g 0
  unfold tempH at q
  simp only [ev3, ev, ev2, ev4, sl, eq1, exl, exists_and_left, and_assoc, true_and, at0, at1, at2, Int.toNat_natCast, gh]
  refine ⟨hF_no r s, F, r, s, n, rfl, I, _, rfl, ?_⟩
  cases h1 : hasRoom s n with
  | false =>
    rw [if_pos h1] at q
    rw [if_neg (by decide)]
    exact ⟨sz1, fun u H1 x => q.stay I x⟩
  | true =>
  rw [if_neg (by rw [h1]; decide)] at q
  rw [if_pos rfl]
  obtain ⟨a1, a2⟩ := inside_iff.mp h1
  refine ⟨sz1, fun a H1 x1 => ?_⟩
  have y1 := I.x.trans x1
  have gh1 := y1.g 1
  have e : n - 1 = ((n.toNat - 1 : Nat) : Int) := by omega
  simp only [ev3, ev, ev2, ev4, sl, eq1, exl, exists_and_left, and_assoc, true_and, at0, at1, at2, Int.toNat_natCast, gh1, ev6, e, y1.g 2]
  refine ⟨_, at_ints (by omega), ?_⟩
  refine ⟨_, s.shift, rfl, fun H2 c x2 => ?_⟩
  have y2 := y1.trans x2
  refine ⟨c, rfl, _, y2.g 1, _, y2.g 0, size_ok (by simp [Vbbcab.told]), fun u H3 x3 => ?_⟩
  have y3 := y2.trans x3
  exact q F H3 u r rfl (fun _ _ h => h) (y3.pick [0, 3, 4, 5, 6, 7] (by decide)) ⟨I.p, fun _ _ _ h => h⟩
theorem WfS.fit {s : HS} (W : WfS s) : Fit s.cells s.wt s.shift (40 + 37 * s.clock) := by
  have := W.sh
  have := W.ck
  exact ⟨W.w.warm, by omega, by omega, W.cs⟩
theorem WfS.links {s : HS} (W : WfS s) : LinksOk s.b.links s.cells s.wt := W.b.links W.cl W.w.lw
def traceH (s : HS) (n : Int) : HS × List Int := (s, if hasRoom s n = false then [-1] else [0, Vbbcab.micro (Vbbcab.shave s.shift (s.cells.getD (n.toNat - 1) 0)),
  Vbbcab.micro (Vbbcab.shave (s.shift + 6) ((flowsZ s.b.links s.cells s.shift s.wt).1.getD (n.toNat - 1) 0)), (heatsZ s.b.rooms.length s.b.heaters s.lv).getD (n.toNat - 1) 0])
def sp_House_trace (K : PySem.W.Frag) : Sp := Meth1 K traceH
abbrev N_House_trace : List Str := ["self", "number", "rooms", "outs", "inward"]
theorem sc_House_trace : FnScope N_House_trace ["self", "number"] (defScope s_House_trace) := ⟨rfl, rfl, rfl, by decide +kernel, rfl, by decide +kernel, by decide +kernel⟩
theorem st_House_trace (x0 x1 : V) : start N_House_trace [x0, x1] = [some x0, some x1, none, none, none] := rfl
theorem ok_House_trace (e : Env K mg) : Ok P w K mg base 4 (He.ma K (He.ga K "House") "trace") ["self", "number"] (sp_House_trace K) := by
  refine ok_of e.fun_House_trace sc_House_trace (fun _ _ _ _ _ _ us hl => match us, hl with | [_, _], _ => rfl) (by rintro _ _ _ _ ⟨F, r, s, n, rfl, I, q⟩; rfl) ?_
  intro cdv A outer s0 H vs Q E hr hsp
  have sc := sc_House_trace
  have hu := hu_of hr
  have G_House_has_room := ok_House_has_room (P := P) (w := w) (base := base) e
  have G_flows := ok_flows (P := P) (w := w) (base := base) e
  have G_millionths := ok_millionths (P := P) (w := w) (base := base) e
  have G_heats := ok_heats (P := P) (w := w) (base := base) e
  refine ⟨_, (pss_cons (ps_if (pt_not (pt_val (pe_methE (pv 0) e.c_House e.m_House_has_room G_House_has_room (hr.mono (by decide)) (pa_cons (pv 1) pa_nil))))
    (pss_one (ps_ret (pe_lstN (pa_cons (pe_un un_neg pe_int) pa_nil))))
    pss_nil)
    (pss_cons (ps_asg (pe_callE G_flows (hr.mono (by decide)) e.g_flows (pa_cons (pe_at e.c_House e.n_House_plan (pv 0)) (pa_cons (pe_at e.c_House e.n_House_cells (pv 0)) (pa_cons (pe_at e.c_House e.n_House_shift (pv 0)) (pa_cons (pe_at e.c_House e.n_House_weather (pv 0)) pa_nil))))) (pg_tupN (n := 2) rfl (pgs_cons (pg_name (i := 2) sc.nd rfl (Or.inl rfl)) (pgs_cons (pg_name (i := 3) sc.nd rfl (Or.inl rfl)) pgs_nil))))
    (pss_cons (ps_set (i := 4) sc.nd rfl (Or.inl rfl) (pe_callE G_millionths (hr.mono (by decide)) e.g_millionths (pa_cons (pe_ix ix_listN (pv 2) (pe_op op_sub (pv 1) pe_int) (fun _ _ => rfl)) (pa_cons (pe_op op_add (pe_at e.c_House e.n_House_shift (pv 0)) pe_int) pa_nil))))
    (pss_one (ps_ret (pe_lstN (pa_cons pe_int (pa_cons (pe_callE G_millionths (hr.mono (by decide)) e.g_millionths (pa_cons (pe_ix ix_listN (pe_at e.c_House e.n_House_cells (pv 0)) (pe_op op_sub (pv 1) pe_int) (fun _ _ => rfl)) (pa_cons (pe_at e.c_House e.n_House_shift (pv 0)) pa_nil))) (pa_cons (pv 4) (pa_cons (pe_ix ix_listN (pe_callE G_heats (hr.mono (by decide)) e.g_heats (pa_cons (pe_at e.c_House e.n_House_plan (pv 0)) (pa_cons (pe_at e.c_House e.n_House_levels (pv 0)) pa_nil))) (pe_op op_sub (pv 1) pe_int) (fun _ _ => rfl)) pa_nil)))))))))), ?_⟩
  obtain ⟨F, r, s, n, rfl, I, q⟩ := hsp
  rw [st_House_trace]
  have gh := I.x.g 0
  have W := I.w
  have n1 := W.b.nr
  have n2 := W.b.no
  have n4 := W.b.nh
  have ck := W.ck
  have sh := W.sh
  have cl := W.cl
  have lw := W.w.lw
  unfold traceH at q
  refine st_seq ?_
  simp only [ev3, ev, ev2, ev4, sl, eq1, exl, exists_and_left, and_assoc, true_and, at0, at1, at2, Int.toNat_natCast, gh]
  refine ⟨hF_no r s, F, r, s, n, rfl, I, _, rfl, ?_⟩
  cases h1 : hasRoom s n with
  | false =>
    rw [if_pos h1] at q
    rw [if_pos (by decide)]
    exact ⟨sz1, fun u H1 x => q.stay I x⟩
  | true =>
  rw [if_neg (by rw [h1]; decide)] at q
  rw [if_neg (by decide)]
  obtain ⟨a1, a2⟩ := inside_iff.mp h1
  have e : n - 1 = ((n.toNat - 1 : Nat) : Int) := by omega
  refine st_seq ?_
  simp only [ev3, ev, ev2, ev4, sl, eq1, exl, exists_and_left, and_assoc, true_and, at0, at1, at2, Int.toNat_natCast, gh, ev6]
  refine ⟨r.p, r.c, r.w, s.cells, s.wt, s.shift, _, s.b, rfl, I.pl, I.x.g 1, I.x.g 2, W.links, W.fit, ⟨by omega, by omega⟩, fun H1 t1 r1 o1 x1 => ?_⟩
  simp only [ev3, ev, ev2, ev4, sl, eq1, exl, exists_and_left, and_assoc, true_and, at0, at1, at2, Int.toNat_natCast, x1.g 0, List.length_cons, List.length_nil]
  have fsm := (flowsZ_sm W.cs W.w.warm W.fit.sh (fun l hl => (W.b.g l hl).2) W.b.nl).1
  have fl1 := (flowsZ_len (ls := s.b.links) (cells := s.cells) (s := s.shift) (wt := s.wt)).1
  have hl1 := heatsZ_len (n := s.b.rooms.length) (hs := s.b.heaters) (lv := s.lv)
  have y1 := I.x.trans x1
  have gh1 := y1.g 3
  refine st_seq ?_
  have e6 : (s.shift : Int) + 6 = ((s.shift + 6 : Nat) : Int) := by omega
  simp only [ev3, ev, ev2, ev4, sl, eq1, exl, exists_and_left, and_assoc, true_and, at0, at1, at2, Int.toNat_natCast, gh1, ev6, e, e6, y1.g 2]
  refine ⟨_, at_ints (by omega), _, s.shift + 6, _, rfl, fsm.getD _, by omega, ?_⟩
  simp only [ev3, ev, ev2, ev4, sl, eq1, exl, exists_and_left, and_assoc, true_and, at0, at1, at2, Int.toNat_natCast, gh1, ev6, y1.g 4]
  refine ⟨_, at_ints (by omega), ?_⟩
  refine ⟨_, s.shift, _, rfl, W.cs.getD _, by omega, ?_⟩
  simp only [ev3, ev, ev2, ev4, sl, eq1, exl, exists_and_left, and_assoc, true_and, at0, at1, at2, Int.toNat_natCast, gh1, ev6]
  refine ⟨r.p, r.l, s.lv, s.b, rfl, I.pl.mono x1.keeps, y1.g 6, W.w.ll, W.b.hroom, by omega, by omega, fun H2 f x2 => ?_⟩
  have y2 := y1.trans x2
  refine ⟨f, rfl, _, y2.g 0, _, at_ints (by omega), by simp only [List.length_cons, List.length_nil]; decide, fun u H3 x3 => ?_⟩
  have y3 := y2.trans x3
  exact q F H3 u r rfl (fun _ _ h => h) (y3.pick [0, 5, 6, 7, 8, 9] (by decide)) ⟨I.p, fun _ _ _ h => h⟩
def flowH (s : HS) (n : Int) : HS × List Int := (s, if Vbbcab.inside n 1 (s.b.links.length : Int) = false then [-1] else [0, Vbbcab.micro (Vbbcab.shave (s.shift + 6) (((s.b.links[n.toNat - 1]?).map fun l => flowZ s.cells s.shift s.wt l).getD 0))])
def sp_House_flow (K : PySem.W.Frag) : Sp := Meth1 K flowH
abbrev N_House_flow : List Str := ["self", "number", "amount"]
theorem sc_House_flow : FnScope N_House_flow ["self", "number"] (defScope s_House_flow) := ⟨rfl, rfl, rfl, by decide +kernel, rfl, by decide +kernel, by decide +kernel⟩
theorem st_House_flow (x0 x1 : V) : start N_House_flow [x0, x1] = [some x0, some x1, none] := rfl
theorem ok_House_flow (e : Env K mg) : Ok P w K mg base 3 (He.ma K (He.ga K "House") "flow") ["self", "number"] (sp_House_flow K) := by
  refine ok_of e.fun_House_flow sc_House_flow (fun _ _ _ _ _ _ us hl => match us, hl with | [_, _], _ => rfl) (by rintro _ _ _ _ ⟨F, r, s, n, rfl, I, q⟩; rfl) ?_
  intro cdv A outer s0 H vs Q E hr hsp
  have sc := sc_House_flow
  have hu := hu_of hr
  have G_flow_of := ok_flow_of (P := P) (w := w) (base := base) e
  have G_millionths := ok_millionths (P := P) (w := w) (base := base) e
  refine ⟨_, (pss_cons (ps_if (pt_not (pt_chain op_le op_le pe_int (pv 1) (pe_callB len_listN (by rfl) e.f_len bt_len (pa_cons (pe_at e.c_Plan e.n_Plan_links (pe_at e.c_House e.n_House_plan (pv 0))) pa_nil))))
    (pss_one (ps_ret (pe_lstN (pa_cons (pe_un un_neg pe_int) pa_nil))))
    pss_nil)
    (pss_cons (ps_set (i := 2) sc.nd rfl (Or.inl rfl) (pe_callE G_flow_of (hr.mono (by decide)) e.g_flow_of (pa_cons (pe_at e.c_House e.n_House_cells (pv 0)) (pa_cons (pe_at e.c_House e.n_House_shift (pv 0)) (pa_cons (pe_at e.c_House e.n_House_weather (pv 0)) (pa_cons (pe_ix ix_listN (pe_at e.c_Plan e.n_Plan_links (pe_at e.c_House e.n_House_plan (pv 0))) (pe_op op_sub (pv 1) pe_int) (fun _ _ => rfl)) pa_nil))))))
    (pss_one (ps_ret (pe_lstN (pa_cons pe_int (pa_cons (pe_callE G_millionths (hr.mono (by decide)) e.g_millionths (pa_cons (pv 2) (pa_cons (pe_op op_add (pe_at e.c_House e.n_House_shift (pv 0)) pe_int) pa_nil))) pa_nil))))))), ?_⟩
  obtain ⟨F, r, s, n, rfl, I, q⟩ := hsp
  rw [st_House_flow]
  have gh := I.x.g 0
  have W := I.w
  have ck := W.ck
  have sh := W.sh
  obtain ⟨dx, pr, ra, oa, la, ha, A⟩ := I.p
  unfold flowH at q
  refine st_seq ?_
  simp only [ev3, ev, ev2, ev4, sl, eq1, exl, exists_and_left, and_assoc, true_and, at0, at1, at2, Int.toNat_natCast, gh, ev6, I.x.k A.ob, I.x.k A.ll, List.length_map, A.ls.1]
  refine in_not (fun h1 => ?_) (fun h1 => ?_)
  · rw [if_pos h1] at q
    exact ⟨sz1, fun u H1 x => q.stay I x⟩
  rw [if_neg (by rw [h1]; decide)] at q
  obtain ⟨a1, a2⟩ := inside_iff.mp h1
  have e : n - 1 = ((n.toNat - 1 : Nat) : Int) := by omega
  have hi : n.toNat - 1 < s.b.links.length := by omega
  have hb : s.b.links[n.toNat - 1]? = some s.b.links[n.toNat - 1] := List.getElem?_eq_getElem hi
  obtain ⟨a, ea, L⟩ := A.ls.get hb
  have lo := W.links.2 _ (List.getElem_mem hi)
  have lg := (W.b.g _ (List.getElem_mem hi)).2
  rw [hb] at q
  have q : AnsM K F r s s [0, Vbbcab.micro (Vbbcab.shave (s.shift + 6) (flowZ s.cells s.shift s.wt s.b.links[n.toNat - 1]))] Q := q
  generalize s.b.links[n.toNat - 1] = l at *
  have ea : atI (la.map V.ref) ((n.toNat - 1 : Nat) : Int) = some (.ref a) := atI_nat (by rw [List.getElem?_map, ea]; rfl)
  refine st_seq ?_
  simp only [ev3, ev, ev2, ev4, sl, eq1, exl, exists_and_left, and_assoc, true_and, at0, at1, at2, Int.toNat_natCast, gh, ev6, I.x.k A.ob, I.x.k A.ll, e, ea]
  refine ⟨r.c, r.w, a, s.cells, s.wt, s.shift, _, l, rfl, I.x.g 1, I.x.g 2, L.mono I.x.keeps, lo, W.fit, ?_⟩
  have e6 : (s.shift : Int) + 6 = ((s.shift + 6 : Nat) : Int) := by omega
  simp only [ev3, ev, ev2, ev4, sl, eq1, exl, exists_and_left, and_assoc, true_and, at0, at1, at2, Int.toNat_natCast, gh, ev6, e6]
  refine ⟨_, s.shift + 6, _, rfl, flowZ_sm W.cs W.w.warm W.fit.sh lg, by omega, ?_⟩
  exact ⟨by simp only [List.length_cons, List.length_nil]; decide, fun u H1 x => q.stay I x⟩
end
end WR
end PartWh2
section PartWh3
set_option Elab.async false
set_option linter.all false
set_option maxRecDepth 100000
set_option maxHeartbeats 4000000
namespace WR
open PySem PySem.Spec PyProof.Rows L2 WH
section
variable {P : Program} {w : World} {K : PySem.W.Frag} {mg : Str → Option Value} {base : Heap}
def goneZ (gone outs : List Int) (wide : Nat) : List Int := (List.range gone.length).map fun i => (gone.getD i 0 + outs.getD i 0) * 2 ^ wide
def stepH (s : HS) : HS := { s with cells := stepZ s.b s.cells s.shift s.wt s.lv, shift := s.shift + wideZ s.b, given := s.given + (nzs s.lv).sum, gone := goneZ s.gone (flowsZ s.b.links s.cells s.shift s.wt).2 (wideZ s.b) }
theorem goneZ_len (gone outs : List Int) (wide : Nat) : (goneZ gone outs wide).length = gone.length := by
  unfold goneZ
  rw [List.length_map, List.length_range]
theorem WfS.step {s : HS} {k : Nat} (W : WfS { s with clock := k }) (hk : k < 1000) : WfS { stepH s with clock := k + 1 } := by
  have hw : wideZ s.b ≤ 16 := wideZ_le W.b
  have sh : s.shift ≤ 16 * k := W.sh
  have cs : SmL (40 + 37 * k) s.cells := W.cs
  have gs : SmL (80 + 40 * k) s.gone := W.gs
  have fo := (flowsZ_sm cs W.w.warm (by omega : s.shift + 17 ≤ 40 + 37 * k) (fun l hl => (W.b.g l hl).2) W.b.nl).2
  refine ⟨W.b, W.w, stepZ_len.trans W.cl, (goneZ_len ..).trans W.gl, ?_, ?_, ?_, by show k + 1 ≤ 1000; omega⟩
  · have := stepZ_sm W.b W.w cs (by omega : s.shift + 17 ≤ 40 + 37 * k)
    exact this.mono (by show 40 + 37 * k + 37 ≤ 40 + 37 * (k + 1); omega)
  · show s.shift + wideZ s.b ≤ 16 * (k + 1)
    omega
  · intro x hx
    obtain ⟨i, hi, rfl⟩ := List.mem_map.mp hx
    have a := (gs.getD i).add ((fo.getD i).mono (show 40 + 37 * k + 25 ≤ 80 + 40 * k by omega))
    exact (a.shl (wideZ s.b)).mono (by show 80 + 40 * k + 1 + wideZ s.b ≤ 80 + 40 * (k + 1); omega)
def sp_House_step (K : PySem.W.Frag) : Sp := fun vs H Q _ => ∃ (F : Hp) (r : HA) (s : HS) (k : Nat), vs = [.ref r.h] ∧ Ext F H (hE K r s) ∧ PlanA K F r.p s.b ∧ WfS { s with clock := k } ∧ k < 1000 ∧
  ∀ H' c g, Ext F H' (hE K { r with c := c, g := g } (stepH s)) → Q .non H'
abbrev N_House_step : List Str := ["self", "wide", "outs", "own", "more"]
theorem sc_House_step : FnScope N_House_step ["self"] (defScope s_House_step) := ⟨rfl, rfl, rfl, by decide +kernel, rfl, by decide +kernel, by decide +kernel⟩
theorem st_House_step (x0 : V) : start N_House_step [x0] = [some x0, none, none, none, none] := rfl
theorem ok_House_step (e : Env K mg) : Ok P w K mg base 5 (He.ma K (He.ga K "House") "step") ["self"] (sp_House_step K) := by
  refine ok_of e.fun_House_step sc_House_step (fun _ _ _ _ _ _ us hl => match us, hl with | [_], _ => rfl) (by rintro _ _ _ _ ⟨F, r, s, k, rfl, X, PF, W, hk, q⟩; rfl) ?_
  intro cdv A outer s0 H vs Q E hr hsp
  have sc := sc_House_step
  have hu := hu_of hr
  have G_widest := ok_widest (P := P) (w := w) (base := base) e
  have G_stepped := ok_stepped (P := P) (w := w) (base := base) e
  refine ⟨_, (pss_cons (ps_set (i := 1) sc.nd rfl (Or.inr rfl) (pe_callE G_widest (hr.mono (by decide)) e.g_widest (pa_cons (pe_at e.c_House e.n_House_plan (pv 0)) pa_nil)))
    (pss_cons (ps_asg (pe_callE G_stepped (hr.mono (by decide)) e.g_stepped (pa_cons (pe_at e.c_House e.n_House_plan (pv 0)) (pa_cons (pe_at e.c_House e.n_House_cells (pv 0)) (pa_cons (pe_at e.c_House e.n_House_shift (pv 0)) (pa_cons (pe_at e.c_House e.n_House_weather (pv 0)) (pa_cons (pe_at e.c_House e.n_House_levels (pv 0)) pa_nil)))))) (pg_tupN (n := 3) rfl (pgs_cons (pg_atN e.c_House e.n_House_cells (pv 0)) (pgs_cons (pg_atN e.c_House e.n_House_shift (pv 0)) (pgs_cons (pg_name (i := 2) sc.nd rfl (Or.inl rfl)) pgs_nil)))))
    (pss_cons (ps_atN e.c_House e.n_House_gone (pv 0) (pe_lc (own := [("own", 3), ("more", 4)]) rfl sc.nd (pi_zip (by rfl) e.f_zip (pa_cons (pe_at e.c_House e.n_House_gone (pv 0)) (pa_cons (pv 2) pa_nil))) (blkOk_by (own := [("own", 3), ("more", 4)]) (N := N_House_step) (sc := defScope s_House_step) (by decide +kernel)) (fun _ _ _ _ _ => (pg_tupN (n := 2) rfl (pgs_cons (pg_name (i := 3) sc.nd rfl (Or.inl rfl) (Or.inr rfl)) (pgs_cons (pg_name (i := 4) sc.nd rfl (Or.inl rfl) (Or.inr rfl)) pgs_nil)))) (fun _ _ _ _ _ => pts_nil) (fun _ _ _ _ _ => (pe_op op_shlW (pe_op op_add (pv 3) (pv 4)) (pv 1)))))
    (pss_one (ps_atAddN e.c_House e.n_House_given (pv 0) (pe_callB (sumN rfl) (by rfl) e.f_sum bt_sum (pa_cons (pe_at e.c_House e.n_House_levels (pv 0)) pa_nil))))))), ?_⟩
  obtain ⟨F, r, s, k, rfl, X, PF, W, hk, q⟩ := hsp
  rw [st_House_step]
  have gh := X.g 0
  have PA := PF.mono X.keeps
  have n1 : s.b.rooms.length ≤ 12 := W.b.nr
  have n2 : s.b.outs.length ≤ 4 := W.b.no
  have hw : wideZ s.b ≤ 16 := wideZ_le W.b
  have sh : s.shift ≤ 16 * k := W.sh
  have cs : SmL (40 + 37 * k) s.cells := W.cs
  have gs : SmL (80 + 40 * k) s.gone := W.gs
  have gl : s.gone.length = s.b.outs.length := W.gl
  have lw : s.wt.length = s.b.outs.length := W.w.lw
  have fo := (flowsZ_sm cs W.w.warm (by omega : s.shift + 17 ≤ 40 + 37 * k) (fun l hl => (W.b.g l hl).2) W.b.nl).2
  have fol := (flowsZ_len (ls := s.b.links) (cells := s.cells) (s := s.shift) (wt := s.wt)).2
  refine st_seq ?_
  simp only [ev3, ev, ev2, ev4, sl, eq1, exl, exists_and_left, and_assoc, true_and, at0, at1, at2, Int.toNat_natCast, gh, ev6]
  refine ⟨r.p, s.b, rfl, PA, by omega, fun H1 x1 => ?_⟩
  have y1 := X.on x1.keeps
  have gh1 := y1.g 0
  refine st_seq ?_
  simp only [ev3, ev, ev2, ev4, sl, eq1, exl, exists_and_left, and_assoc, true_and, at0, at1, at2, Int.toNat_natCast, gh1, ev6]
  refine ⟨r.p, r.c, r.w, r.l, s.cells, s.wt, s.lv, s.shift, 40 + 37 * k, s.b, rfl, PF.mono y1.keeps, y1.g 1, y1.g 2, y1.g 3, W.b, W.w, W.cl, ⟨W.w.warm, by omega, by omega, cs⟩, fun H2 t c o x2 => ?_⟩
  have y2 := y1.trans x2
  have y2 : Ext F H2 ((t, .tup [.ref c, natV (s.shift + wideZ s.b), .ref o]) :: (c, .lst (zs (stepZ s.b s.cells s.shift s.wt s.lv))) :: (o, .lst (zs (flowsZ s.b.links s.cells s.shift s.wt).2)) :: hE K r s) := y2
  have gh2 := y2.g 3
  simp only [ev3, ev, ev2, ev4, sl, eq1, exl, exists_and_left, and_assoc, true_and, at0, at1, at2, Int.toNat_natCast, y2.g 0, List.length_cons, List.length_nil, gh2]
  refine ⟨hF_len r s, fun H3 pt => ?_⟩
  rw [hput.2.1] at pt
  have y3 := y2.put 3 rfl pt
  have gh3 := y3.g 3
  simp only [ev3, ev, ev2, ev4, sl, eq1, exl, exists_and_left, and_assoc, true_and, at0, at1, at2, Int.toNat_natCast, gh3]
  refine ⟨hF_len _ s, fun H4 pt4 => ?_⟩
  rw [hput.2.2.1] at pt4
  have y4 := y3.put 3 rfl pt4
  have gh4 := y4.g 3
  refine st_seq ?_
  simp only [ev3, ev, ev2, ev4, sl, eq1, exl, exists_and_left, and_assoc, true_and, at0, at1, at2, Int.toNat_natCast]
  generalize hfz : flowsZ s.b.links s.cells s.shift s.wt = fz at *
  refine lcZ (xs := zs s.gone) (ys := zs fz.2) (fun i => .int ((s.gone.getD i 0 + fz.2.getD i 0) * 2 ^ wideZ s.b)) (fun R h => by simp only [ev3, ev, ev2, ev4, sl, eq1, exl, exists_and_left, and_assoc, true_and, at0, at1, at2, Int.toNat_natCast, gh4, ev6]; exact h _ _ _ (fun _ _ h => h) (y4.g 7) (y4.g 2)) (by rw [zs_len]; omega) (fun j x y T H5 hx hy k5 hT R h => ?_) (fun D H5 x5 => ?_)
  · obtain ⟨i1, rfl⟩ := zs_get hx
    obtain ⟨i2, rfl⟩ := zs_get hy
    simp only [ev3, ev, ev2, ev4, sl, eq1, exl, exists_and_left, and_assoc, true_and, at0, at1, at2, Int.toNat_natCast, wp, List.map_cons, List.map_nil, hT, List.length_cons, List.length_nil]
    exact ⟨shl_sm ((gs.getD j).add ((fo.getD j).mono (show 40 + 37 * k + 25 ≤ 80 + 40 * k by omega))) (by omega), h H5 fun _ _ h => h⟩
  · have e : (List.range (min (zs s.gone).length (zs fz.2).length)).map (fun i => V.int ((s.gone.getD i 0 + fz.2.getD i 0) * 2 ^ wideZ s.b)) = zs (goneZ s.gone fz.2 (wideZ s.b)) := by
      rw [zs_len, zs_len, show min s.gone.length fz.2.length = s.gone.length by omega]
      unfold goneZ zs
      rw [List.map_map]
      rfl
    rw [e] at x5
    have y5 := y4.trans x5
    have gh5 := y5.g 4
    simp only [ev3, ev, ev2, ev4, sl, eq1, exl, exists_and_left, and_assoc, true_and, at0, at1, at2, Int.toNat_natCast, gh5]
    refine ⟨hF_len _ _, fun H6 pt6 => ?_⟩
    rw [hput.2.2.2.2.2.2.2] at pt6
    have y6 := y5.put 4 rfl pt6
    have gh6 := y6.g 4
    simp only [ev3, ev, ev2, ev4, sl, eq1, exl, exists_and_left, and_assoc, true_and, at0, at1, at2, Int.toNat_natCast, gh6, ev6]
    refine ⟨_, nzs s.lv, rfl, y6.g 7, _, rfl, _, _, gh6, hF_len _ _, fun H7 pt7 => ?_⟩
    rw [hput.2.2.2.2.2.2.1] at pt7
    have y7 := y6.put 4 rfl pt7
    subst hfz
    exact q H7 c D (y7.pick [4, 2, 6, 7, 0] (by decide))
def stepsH : Nat → HS → HS
  | 0, s => s
  | n + 1, s => stepH (stepsH n s)
def runH (s : HS) (n : Int) : HS × List Int := if Vbbcab.inside n 1 1000 = false then (s, [-2]) else if 1000 < s.clock + n.toNat then (s, [-3]) else ({ stepsH n.toNat s with clock := s.clock + n.toNat }, [0, ((s.clock + n.toNat : Nat) : Int)])
theorem stepsH_clock (s : HS) : ∀ n, (stepsH n s).clock = s.clock
  | 0 => rfl
  | n + 1 => stepsH_clock s n
theorem stepsH_b (s : HS) : ∀ n, (stepsH n s).b = s.b
  | 0 => rfl
  | n + 1 => stepsH_b s n
theorem WfS.steps {s : HS} (W : WfS s) : ∀ n, s.clock + n ≤ 1000 → WfS { stepsH n s with clock := s.clock + n }
  | 0, _ => W
  | n + 1, h => (W.steps n (by omega)).step (by omega)
theorem runH_wf {s : HS} (W : WfS s) (n : Int) : WfS (runH s n).1 := by
  unfold runH
  split
  · exact W
  · split
    · exact W
    · exact W.steps _ (by omega)
def sp_House_run (K : PySem.W.Frag) : Sp := Meth1 K runH
abbrev N_House_run : List Str := ["self", "many", "turn"]
theorem sc_House_run : FnScope N_House_run ["self", "many"] (defScope s_House_run) := ⟨rfl, rfl, rfl, by decide +kernel, rfl, by decide +kernel, by decide +kernel⟩
theorem st_House_run (x0 x1 : V) : start N_House_run [x0, x1] = [some x0, some x1, none] := rfl
theorem ok_House_run (e : Env K mg) : Ok P w K mg base 6 (He.ma K (He.ga K "House") "run") ["self", "many"] (sp_House_run K) := by
  refine ok_of e.fun_House_run sc_House_run (fun _ _ _ _ _ _ us hl => match us, hl with | [_, _], _ => rfl) (by rintro _ _ _ _ ⟨F, r, s, n, rfl, I, q⟩; rfl) ?_
  intro cdv A outer s0 H vs Q E hr hsp
  have sc := sc_House_run
  have hu := hu_of hr
  have G_House_step := ok_House_step (P := P) (w := w) (base := base) e
  refine ⟨_, (pss_cons (ps_if (pt_not (pt_chain op_le op_le pe_int (pv 1) (pe_gint e.i_MOST_STEPS)))
    (pss_one (ps_ret (pe_lstN (pa_cons (pe_un un_neg pe_int) pa_nil))))
    pss_nil)
    (pss_cons (ps_if (pt_cmpR op_gt (pe_op op_add (pe_at e.c_House e.n_House_clock (pv 0)) (pv 1)) (pe_gint e.i_MOST_STEPS) (nomark _))
    (pss_one (ps_ret (pe_lstN (pa_cons (pe_un un_neg pe_int) pa_nil))))
    pss_nil)
    (pss_cons (ps_for PassesOwn.never rfl (pi_range1 (by rfl) e.f_range (pa_cons (pv 1) pa_nil)) (pg_name (i := 2) sc.nd rfl (Or.inl rfl))
    (pss_one (ps_expr (pe_methE0 (pv 0) e.c_House e.m_House_step G_House_step (hr.mono (by decide))))))
    (pss_cons (ps_atAddN e.c_House e.n_House_clock (pv 0) (pv 1))
    (pss_one (ps_ret (pe_lstN (pa_cons pe_int (pa_cons (pe_at e.c_House e.n_House_clock (pv 0)) pa_nil))))))))), ?_⟩
  obtain ⟨F, r, s, n, rfl, I, q⟩ := hsp
  rw [st_House_run]
  have gh := I.x.g 0
  have ck := I.w.ck
  unfold runH at q
  refine st_seq ?_
  simp only [ev3, ev, ev2, ev4, sl, eq1, exl, exists_and_left, and_assoc, true_and, at0, at1, at2, Int.toNat_natCast]
  refine in_not (fun h1 => ?_) (fun h1 => ?_)
  · rw [if_pos h1] at q
    exact ⟨sz1, fun u H1 x => q.stay I x⟩
  rw [if_neg (by rw [h1]; decide)] at q
  obtain ⟨a1, a2⟩ := inside_iff.mp h1
  refine st_seq ?_
  simp only [ev3, ev, ev2, ev4, sl, eq1, exl, exists_and_left, and_assoc, true_and, at0, at1, at2, Int.toNat_natCast, gh, ev6]
  by_cases h2 : 1000 < s.clock + n.toNat
  · rw [if_pos (decide_eq_true (by omega))]
    rw [if_pos h2] at q
    exact ⟨sz1, fun u H1 x => q.stay I x⟩
  rw [if_neg (by rw [decide_eq_false (by omega)]; decide)]
  rw [if_neg h2] at q
  have en : V.int n = natV n.toNat := by unfold natV; rw [show ((n.toNat : Nat) : Int) = n by omega]
  refine st_cut (fun σ H2 => ∃ v2 c g, σ = [some (.ref r.h), some (.int n), v2] ∧ Ext F H2 (hE K { r with c := c, g := g } (stepsH n.toNat s))) (fun U hU => ?_) ?_
  · refine forR (n := n.toNat) (fun Q' q => by simp only [ev3, ev, ev2, ev4, sl, eq1, exl, exists_and_left, and_assoc, true_and, at0, at1, at2, Int.toNat_natCast]; rw [en]; exact q) (by omega)
      (fun i σ H2 => ∃ v2 c g, σ = [some (.ref r.h), some (.int n), v2] ∧ Ext F H2 (hE K { r with c := c, g := g } (stepsH i s))) ⟨_, r.c, r.g, rfl, I.x⟩ ?_ ?_
    · rintro i σ H2 hi ⟨v2, c, g, rfl, y⟩
      have gh2 := y.g 0
      simp only [ev3, ev, ev2, ev4, sl, eq1, exl, exists_and_left, and_assoc, true_and, at0, at1, at2, Int.toNat_natCast, gh2]
      refine ⟨hF_no _ _, F, { r with c := c, g := g }, stepsH i s, s.clock + i, rfl, y, ?_, I.w.steps i (by omega), by omega, fun H3 c' g' z => ?_⟩
      · rw [stepsH_b]
        exact I.p
      · exact ⟨c', g', z⟩
    · rintro σ H2 ⟨v2, c, g, rfl, y⟩
      exact hU _ _ ⟨_, c, g, rfl, y⟩
  rintro σ H2 ⟨v2, c, g, rfl, y⟩
  have gh2 := y.g 0
  have ec := stepsH_clock s n.toNat
  refine st_seq ?_
  simp only [ev3, ev, ev2, ev4, sl, eq1, exl, exists_and_left, and_assoc, true_and, at0, at1, at2, Int.toNat_natCast, gh2, ev6]
  refine ⟨hF_len _ _, fun H3 pt => ?_⟩
  have e3 : V.int (((stepsH n.toNat s).clock : Int) + n) = natV (s.clock + n.toNat) := by
    unfold natV
    rw [ec]
    congr 1
    omega
  rw [e3, hput.2.2.2.2.2.1] at pt
  have y3 := y.put 0 rfl pt
  have gh3 := y3.g 0
  simp only [ev3, ev, ev2, ev4, sl, eq1, exl, exists_and_left, and_assoc, true_and, at0, at1, at2, Int.toNat_natCast, gh3, ev6, List.length_cons, List.length_nil]
  refine ⟨by decide, fun u H4 x4 => ?_⟩
  have y4 := y3.trans x4
  refine q F H4 u { r with c := c, g := g } rfl (fun _ _ h => h) y4 ⟨?_, fun f xs _ h => ?_⟩
  · show PlanA K F r.p (stepsH n.toNat s).b
    rw [stepsH_b]
    exact I.p
  · show PlanA K (hide [f] F) r.p (stepsH n.toNat s).b
    rw [stepsH_b]
    exact h
end
end WR
end PartWh3
section PartWh4
set_option Elab.async false
set_option linter.all false
set_option maxRecDepth 100000
set_option maxHeartbeats 4000000
namespace WR
open PySem PySem.Spec PyProof.Rows L2 WH
section
variable {P : Program} {w : World} {K : PySem.W.Frag} {mg : Str → Option Value} {base : Heap}
def heldZ (s : HS) : Int := ((List.range s.cells.length).map fun i => s.cells.getD i 0 * 2 ^ Vbbcab.capOf s.b i).sum
def toldG (s : HS) (g : Int) : List Int := Vbbcab.told (Vbbcab.shave (s.shift + 6) g)
def booksH (s : HS) : HS × List Int := (s, (([0] ++ Vbbcab.told (Vbbcab.shave s.shift (heldZ s))) ++ [s.given]) ++ s.gone.flatMap (toldG s))
theorem zs_app (a c : List Int) : zs (a ++ c) = zs a ++ zs c := List.map_append
theorem flatI_len {α : Type} {f : α → List Int} {k : Nat} : ∀ {l : List α}, (∀ x ∈ l, (f x).length ≤ k) → (l.flatMap f).length ≤ k * l.length
  | [], _ => Nat.zero_le _
  | x :: r, h => by
    have := flatI_len (l := r) fun y hy => h y (List.mem_cons_of_mem _ hy)
    have h1 := h x (List.mem_cons_self ..)
    rw [List.flatMap_cons, List.length_append, List.length_cons, Nat.mul_succ]
    omega
def sp_House_books (K : PySem.W.Frag) : Sp := Meth0 K booksH
abbrev N_House_books : List Str := ["self", "held", "found", "own", "cell", "cap"]
theorem sc_House_books : FnScope N_House_books ["self"] (defScope s_House_books) := ⟨rfl, rfl, rfl, by decide +kernel, rfl, by decide +kernel, by decide +kernel⟩
theorem st_House_books (x0 : V) : start N_House_books [x0] = [some x0, none, none, none, none, none] := rfl
theorem ok_House_books (e : Env K mg) : Ok P w K mg base 2 (He.ma K (He.ga K "House") "books") ["self"] (sp_House_books K) := by
  refine ok_of e.fun_House_books sc_House_books (fun _ _ _ _ _ _ us hl => match us, hl with | [_], _ => rfl) (by rintro _ _ _ _ ⟨F, r, s, rfl, I, q⟩; rfl) ?_
  intro cdv A outer s0 H vs Q E hr hsp
  have sc := sc_House_books
  have hu := hu_of hr
  have G_told := ok_told (P := P) (w := w) (base := base) e
  refine ⟨_, (pss_cons (ps_set (i := 1) sc.nd rfl (Or.inl rfl) (pe_callB (sumN rfl) (by rfl) e.f_sum bt_sum (pa_cons (pe_lc (own := [("cell", 4), ("cap", 5)]) rfl sc.nd (pi_zip (by rfl) e.f_zip (pa_cons (pe_at e.c_House e.n_House_cells (pv 0)) (pa_cons (pe_at e.c_Plan e.n_Plan_caps (pe_at e.c_House e.n_House_plan (pv 0))) pa_nil))) (blkOk_by (own := [("cell", 4), ("cap", 5)]) (N := N_House_books) (sc := defScope s_House_books) (by decide +kernel)) (fun _ _ _ _ _ => (pg_tupN (n := 2) rfl (pgs_cons (pg_name (i := 4) sc.nd rfl (Or.inl rfl) (Or.inr rfl)) (pgs_cons (pg_name (i := 5) sc.nd rfl (Or.inl rfl) (Or.inr rfl)) pgs_nil)))) (fun _ _ _ _ _ => pts_nil) (fun _ _ _ _ _ => (pe_op op_shlW (pv 4) (pv 5)))) pa_nil)))
    (pss_cons (ps_set (i := 2) sc.nd rfl (Or.inl rfl) (pe_op op_catN (pe_op op_catN (pe_lstN (pa_cons pe_int pa_nil)) (pe_callE G_told (hr.mono (by decide)) e.g_told (pa_cons (pv 1) (pa_cons (pe_at e.c_House e.n_House_shift (pv 0)) pa_nil)))) (pe_lstN (pa_cons (pe_at e.c_House e.n_House_given (pv 0)) pa_nil))))
    (pss_cons (ps_for PassesOwn.never rfl (pi_list (pe_at e.c_House e.n_House_gone (pv 0))) (pg_name (i := 3) sc.nd rfl (Or.inl rfl))
    (pss_one (ps_expr (pe_extLN (pv 2) (pa_cons (pe_callE G_told (hr.mono (by decide)) e.g_told (pa_cons (pv 3) (pa_cons (pe_op op_add (pe_at e.c_House e.n_House_shift (pv 0)) pe_int) pa_nil))) pa_nil)))))
    (pss_one (ps_ret (pv 2)))))), ?_⟩
  obtain ⟨F, r, s, rfl, I, q⟩ := hsp
  rw [st_House_books]
  have gh := I.x.g 0
  have W := I.w
  have n1 := W.b.nr
  have n2 := W.b.no
  have cl := W.cl
  have gl := W.gl
  have ck := W.ck
  have sh := W.sh
  obtain ⟨dx, pr, ra, oa, la, ha, A⟩ := I.p
  refine st_seq ?_
  simp only [ev3, ev, ev2, ev4, sl, eq1, exl, exists_and_left, and_assoc, true_and, at0, at1, at2, Int.toNat_natCast]
  refine lcZ (xs := zs s.cells) (ys := zs (s.b.rooms.map fun x => (x.cap : Int))) (fun i => .int (s.cells.getD i 0 * 2 ^ Vbbcab.capOf s.b i)) (fun R h => by simp only [ev3, ev, ev2, ev4, sl, eq1, exl, exists_and_left, and_assoc, true_and, at0, at1, at2, Int.toNat_natCast, gh, ev6, I.x.k A.ob]; exact h _ _ _ (fun _ _ h => h) (I.x.g 1) (I.x.k A.caps)) (by rw [zs_len]; omega) (fun j x y T H5 hx hy k5 hT R h => ?_) (fun D H1 x1 => ?_)
  · obtain ⟨i1, rfl⟩ := zs_get hx
    have ey : y = natV (Vbbcab.capOf s.b j) := by
      have := cap_at (b := s.b) (i := j) (by omega)
      obtain ⟨j', h1, h2, h3, h4, h5⟩ := atI_get this
      rw [seqIndex_of (by omega) h5] at h1
      have e : j = j' := by
        have := Option.some.inj h1
        omega
      subst e
      exact Option.some.inj (hy.symm.trans h2)
    subst ey
    have hc : Vbbcab.capOf s.b j ≤ 10 := by
      unfold Vbbcab.capOf
      rw [List.getElem?_eq_getElem (by omega)]
      exact W.b.cap _ (List.getElem_mem _)
    simp only [ev3, ev, ev2, ev4, sl, eq1, exl, exists_and_left, and_assoc, true_and, at0, at1, at2, Int.toNat_natCast, wp, List.map_cons, List.map_nil, hT, List.length_cons, List.length_nil]
    exact ⟨shl_sm (W.cs.getD j) (by omega), h H5 fun _ _ h => h⟩
  have e : (List.range (min (zs s.cells).length (zs (s.b.rooms.map fun x => (x.cap : Int))).length)).map (fun i => V.int (s.cells.getD i 0 * 2 ^ Vbbcab.capOf s.b i)) = zs ((List.range s.cells.length).map fun i => s.cells.getD i 0 * 2 ^ Vbbcab.capOf s.b i) := by
    rw [zs_len, zs_len, List.length_map, show min s.cells.length s.b.rooms.length = s.cells.length by omega]
    unfold zs
    rw [List.map_map]
    rfl
  rw [e] at x1
  have y1 := I.x.trans x1
  have gh1 := y1.g 1
  refine ⟨D, _, rfl, y1.g 0, ?_⟩
  refine st_seq ?_
  simp only [ev3, ev, ev2, ev4, sl, eq1, exl, exists_and_left, and_assoc, true_and, at0, at1, at2, Int.toNat_natCast, List.length_cons, List.length_nil]
  refine ⟨by decide, fun z H2 x2 => ?_⟩
  have y2 := y1.trans x2
  have gh2 := y2.g 2
  simp only [ev3, ev, ev2, ev4, sl, eq1, exl, exists_and_left, and_assoc, true_and, at0, at1, at2, Int.toNat_natCast, gh2, ev6]
  refine ⟨_, s.shift, rfl, fun H3 t3 x3 => ?_⟩
  have y3 := y2.trans x3
  have hh : ((List.range s.cells.length).map fun i => s.cells.getD i 0 * 2 ^ Vbbcab.capOf s.b i).sum = heldZ s := rfl
  rw [hh] at y3
  refine ⟨t3, rfl, _, y3.g 1, _, y3.g 0, size_ok (by simp [Vbbcab.told]), fun c4 H4 x4 => ?_⟩
  have y4 := y3.trans x4
  have gh4 := y4.g 4
  simp only [ev3, ev, ev2, ev4, sl, eq1, exl, exists_and_left, and_assoc, true_and, at0, at1, at2, Int.toNat_natCast, gh4, ev6, List.length_cons, List.length_nil]
  refine ⟨by decide, fun z5 H5 x5 => ?_⟩
  have y5 := y4.trans x5
  refine ⟨_, y5.g 1, _, y5.g 0, size_ok (by simp [Vbbcab.told]), fun f H6 x6 => ?_⟩
  have y6 := y5.trans x6
  have e6 : ([V.int 0] ++ zs (Vbbcab.told (Vbbcab.shave s.shift (heldZ s)))) ++ [V.int s.given] = zs ((([0] ++ Vbbcab.told (Vbbcab.shave s.shift (heldZ s))) ++ [s.given]) ++ (s.gone.take 0).flatMap (toldG s)) := by
    rw [List.take_zero, List.flatMap_nil, List.append_nil, zs_app, zs_app]
    rfl
  rw [e6] at y6
  have y6 := y6.pick [0, 6, 7, 8, 9, 10] (by decide)
  have y6 : Ext F H6 ((f, .lst (zs ((([0] ++ Vbbcab.told (Vbbcab.shave s.shift (heldZ s))) ++ [s.given]) ++ (s.gone.take 0).flatMap (toldG s)))) :: hE K r s) := y6
  have gh6 := y6.g 1
  have tl : ∀ i, ((s.gone.take i).flatMap (toldG s)).length ≤ 3 * s.gone.length := fun i => by
    have := flatI_len (f := toldG s) (k := 3) (l := s.gone.take i) fun x _ => by
      unfold toldG Vbbcab.told
      exact Nat.le_refl 3
    have h2 : (s.gone.take i).length ≤ s.gone.length := by rw [List.length_take]; omega
    omega
  unfold booksH at q
  have bl : (([0] ++ Vbbcab.told (Vbbcab.shave s.shift (heldZ s))) ++ [s.given]).length = 5 := rfl
  generalize ([0] ++ Vbbcab.told (Vbbcab.shave s.shift (heldZ s))) ++ [s.given] = base0 at *
  refine st_seq (forL (a := r.g) (xs := zs s.gone) (fun Q' q => by simp only [ev3, ev, ev2, ev4, sl, eq1, exl, exists_and_left, and_assoc, true_and, at0, at1, at2, Int.toNat_natCast, gh6, ev6]; exact q) (y6.g 5)
    (fun i σ H' => ∃ v1 v3 v4 v5, σ = [some (.ref r.h), v1, some (.ref f), v3, v4, v5] ∧ Ext F H' ((f, .lst (zs (base0 ++ (s.gone.take i).flatMap (toldG s)))) :: hE K r s)) ⟨_, _, _, _, rfl, y6⟩ (fun i σ H' ⟨_, _, _, _, _, y⟩ => y.g 5) ?_ ?_)
  · rintro i x σ H7 hx ⟨v1, v3, v4, v5, rfl, y⟩
    obtain ⟨hi, rfl⟩ := zs_get hx
    have hb : s.gone[i]? = some (s.gone.getD i 0) := by rw [List.getD_eq_getElem?_getD, List.getElem?_eq_getElem hi]; rfl
    have tli := tl i
    have snoc : base0 ++ (s.gone.take (i + 1)).flatMap (toldG s) = (base0 ++ (s.gone.take i).flatMap (toldG s)) ++ toldG s (s.gone.getD i 0) := by
      rw [take_snoc hb, List.flatMap_append, List.flatMap_cons, List.flatMap_nil, List.append_nil, List.append_assoc]
    have gh7 := y.g 1
    have e6 : (s.shift : Int) + 6 = ((s.shift + 6 : Nat) : Int) := by omega
    rw [snoc]
    simp only [ev3, ev, ev2, ev4, sl, eq1, exl, exists_and_left, and_assoc, true_and, at0, at1, at2, Int.toNat_natCast, y.g 0, gh7, ev6, e6]
    refine ⟨_, s.shift + 6, rfl, fun H8 t8 x8 => ?_⟩
    have y8 := y.trans x8
    refine ⟨t8, rfl, _, y8.g 0, _, y8.g 1, size_ok (by simp only [zs_len, List.length_append]; have : (Vbbcab.told (Vbbcab.shave (s.shift + 6) (s.gone.getD i 0))).length = 3 := rfl; omega), fun H9 pt => ?_⟩
    have y9 := y8.put 1 rfl pt
    rw [← zs_app] at y9
    exact y9.pick [1, 2, 3, 4, 5, 6] (by decide)
  rintro σ H7 ⟨v1, v3, v4, v5, rfl, y⟩
  rw [zs_len, List.take_length] at y
  simp only [ev3, ev, ev2, ev4, sl, eq1, exl, exists_and_left, and_assoc, true_and, at0, at1, at2, Int.toNat_natCast]
  exact q F H7 f r rfl (fun _ _ h => h) y ⟨⟨dx, pr, ra, oa, la, ha, A⟩, fun _ _ _ h => h⟩
/-- where each room's way leads out the elimination goes well -/
def AnchOk : Prop := ∀ (b : Vbbcab.Building) (wt : List Int) (lv : List Nat), WfB b → WfW b wt lv → anchZ b = true → BstOk (aM b wt lv) b.rooms.length
def restP (d x : Int) : List Int := [x * 1000000 / d, d / ((Int.gcd x d : Nat) : Int) % 1000000007]
def restH (s : HS) : HS × List Int := (s, if anchZ s.b = false then [-4] else [0] ++ (numsZ (aM s.b s.wt s.lv) s.b.rooms.length).flatMap (restP (bst (aM s.b s.wt s.lv) s.b.rooms.length).2))
def sp_House_rest (K : PySem.W.Frag) : Sp := fun vs H Q E => AnchOk ∧ Meth0 K restH vs H Q E
abbrev N_House_rest : List Str := ["self", "numbers", "part", "found", "number"]
theorem sc_House_rest : FnScope N_House_rest ["self"] (defScope s_House_rest) := ⟨rfl, rfl, rfl, by decide +kernel, rfl, by decide +kernel, by decide +kernel⟩
theorem st_House_rest (x0 : V) : start N_House_rest [x0] = [some x0, none, none, none, none] := rfl
theorem ok_House_rest (e : Env K mg) : Ok P w K mg base 4 (He.ma K (He.ga K "House") "rest") ["self"] (sp_House_rest K) := by
  refine ok_of e.fun_House_rest sc_House_rest (fun _ _ _ _ _ _ us hl => match us, hl with | [_], _ => rfl) (by rintro _ _ _ _ ⟨anch, F, r, s, rfl, I, q⟩; rfl) ?_
  intro cdv A outer s0 H vs Q E hr hsp
  have sc := sc_House_rest
  have hu := hu_of hr
  have G_Plan_is_anchored := ok_Plan_is_anchored (P := P) (w := w) (base := base) e
  have G_solved := ok_solved (P := P) (w := w) (base := base) e
  have G_common_part := ok_common_part (P := P) (w := w) (base := base) e
  refine ⟨_, (pss_cons (ps_if (pt_not (pt_val (pe_methE0 (pe_at e.c_House e.n_House_plan (pv 0)) e.c_Plan e.m_Plan_is_anchored G_Plan_is_anchored (hr.mono (by decide)))))
    (pss_one (ps_ret (pe_lstN (pa_cons (pe_un un_neg pe_int) pa_nil))))
    pss_nil)
    (pss_cons (ps_asg (pe_callE G_solved (hr.mono (by decide)) e.g_solved (pa_cons (pe_at e.c_House e.n_House_plan (pv 0)) (pa_cons (pe_at e.c_House e.n_House_weather (pv 0)) (pa_cons (pe_at e.c_House e.n_House_levels (pv 0)) pa_nil)))) (pg_tupN (n := 2) rfl (pgs_cons (pg_name (i := 1) sc.nd rfl (Or.inl rfl)) (pgs_cons (pg_name (i := 2) sc.nd rfl (Or.inl rfl)) pgs_nil))))
    (pss_cons (ps_set (i := 3) sc.nd rfl (Or.inl rfl) (pe_lstN (pa_cons pe_int pa_nil)))
    (pss_cons (ps_for PassesOwn.never rfl (pi_list (pv 1)) (pg_name (i := 4) sc.nd rfl (Or.inl rfl))
    (pss_one (ps_expr (pe_extLN (pv 3) (pa_cons (pe_lstN (pa_cons (pe_op op_fdivW (pe_op op_mulX (pv 4) (pe_gint e.i_MILLION)) (pv 2)) (pa_cons (pe_op op_mod (pe_op op_fdivW (pv 2) (pe_callE G_common_part (hr.mono (by decide)) e.g_common_part (pa_cons (pv 4) (pa_cons (pv 2) pa_nil)))) (pe_gint e.i_PRIME)) pa_nil))) pa_nil)))))
    (pss_one (ps_ret (pv 3))))))), ?_⟩
  obtain ⟨anch, F, r, s, rfl, I, q⟩ := hsp
  rw [st_House_rest]
  have gh := I.x.g 0
  have W := I.w
  have n1 := W.b.nr
  have PA := I.pl
  obtain ⟨dx, pr, ra, oa, la, ha, A⟩ := I.p
  unfold restH at q
  refine st_seq ?_
  simp only [ev3, ev, ev2, ev4, sl, eq1, exl, exists_and_left, and_assoc, true_and, at0, at1, at2, Int.toNat_natCast, gh, ev6, I.x.k A.ob]
  refine ⟨pF_no pr, r.p, s.b, rfl, PA, W.b.few, W.b.roomEnds, fun H1 k1 => ⟨_, rfl, ?_⟩⟩
  have I1 := I.on k1
  cases ha : anchZ s.b with
  | false =>
    rw [if_pos ha] at q
    rw [if_pos (by decide)]
    exact ⟨sz1, fun u H1 x => q.stay I1 x⟩
  | true =>
  rw [if_neg (by rw [ha]; decide)] at q
  rw [if_neg (by decide)]
  have ok := anch s.b s.wt s.lv W.b W.w ha
  have gh1 := I1.x.g 0
  refine st_seq ?_
  simp only [ev3, ev, ev2, ev4, sl, eq1, exl, exists_and_left, and_assoc, true_and, at0, at1, at2, Int.toNat_natCast, gh1, ev6]
  refine ⟨r.p, r.w, r.l, s.wt, s.lv, s.b, rfl, PA.mono k1, I1.x.g 2, I1.x.g 3, W.b, W.w, ok, fun H2 t2 u2 x2 => ?_⟩
  simp only [ev3, ev, ev2, ev4, sl, eq1, exl, exists_and_left, and_assoc, true_and, at0, at1, at2, Int.toNat_natCast, x2.g 0, List.length_cons, List.length_nil]
  have y2 := I1.x.trans x2
  have nl := numsZ_len (aM s.b s.wt s.lv) s.b.rooms.length
  have ns := ok.nums
  have dp := ok.pos _ (Nat.le_refl _)
  have ds := ok.d _ (Nat.le_refl _)
  generalize numsZ (aM s.b s.wt s.lv) s.b.rooms.length = N at *
  generalize (bst (aM s.b s.wt s.lv) s.b.rooms.length).2 = d at *
  refine st_seq ?_
  simp only [ev3, ev, ev2, ev4, sl, eq1, exl, exists_and_left, and_assoc, true_and, at0, at1, at2, Int.toNat_natCast, List.length_cons, List.length_nil]
  refine ⟨by decide, fun f H3 x3 => ?_⟩
  have y3 : Ext F H3 ((f, .lst (zs ([0] ++ (N.take 0).flatMap (restP d)))) :: (t2, .tup [.ref u2, .int d]) :: (u2, .lst (zs N)) :: hE K r s) := y2.trans x3
  refine st_seq (forL (a := u2) (xs := zs N) (fun Q' q => by simp only [ev3, ev, ev2, ev4, sl, eq1, exl, exists_and_left, and_assoc, true_and, at0, at1, at2, Int.toNat_natCast]; exact q) (y3.g 2)
    (fun i σ H' => ∃ v4, σ = [some (.ref r.h), some (.ref u2), some (.int d), some (.ref f), v4] ∧ Ext F H' ((f, .lst (zs ([0] ++ (N.take i).flatMap (restP d)))) :: (t2, .tup [.ref u2, .int d]) :: (u2, .lst (zs N)) :: hE K r s)) ⟨_, rfl, y3⟩ (fun i σ H' ⟨_, _, y⟩ => y.g 2) ?_ ?_)
  · rintro i x σ H4 hx ⟨v4, rfl, y⟩
    obtain ⟨hi, rfl⟩ := zs_get hx
    have hb : N[i]? = some (N.getD i 0) := by rw [List.getD_eq_getElem?_getD, List.getElem?_eq_getElem hi]; rfl
    have snoc : [0] ++ (N.take (i + 1)).flatMap (restP d) = ([0] ++ (N.take i).flatMap (restP d)) ++ restP d (N.getD i 0) := by
      rw [take_snoc hb, List.flatMap_append, List.flatMap_cons, List.flatMap_nil, List.append_nil, List.append_assoc]
    have fl := flatI_len (f := restP d) (k := 2) (l := N.take i) fun x _ => Nat.le_refl 2
    have h2 : (N.take i).length ≤ 12 := by rw [List.length_take]; omega
    have sx := ns.getD i
    rw [snoc]
    have len : ([0] ++ (N.take i).flatMap (restP d)).length ≤ 100 := by rw [List.length_append, List.length_singleton]; omega
    generalize [0] ++ (N.take i).flatMap (restP d) = S at *
    unfold restP
    generalize N.getD i 0 = x at *
    have gp : 0 < Int.gcd x d := Int.gcd_pos_of_ne_zero_right x (by omega)
    have gs : Sm 8000 ((Int.gcd x d : Nat) : Int) := by
      have hle : Int.gcd x d ≤ d.natAbs := Nat.le_of_dvd (by omega) (Int.gcd_dvd_natAbs_right x d)
      show ((Int.gcd x d : Nat) : Int).natAbs < 2 ^ 8000
      rw [Int.natAbs_natCast]
      exact Nat.lt_of_le_of_lt hle ds
    simp only [ev3, ev, ev2, ev4, sl, eq1, exl, exists_and_left, and_assoc, true_and, at0, at1, at2, Int.toNat_natCast, y.g 0, List.length_cons, List.length_nil]
    refine ⟨mul_sm (m := 20) sx (Sm.of_le (m := 1000000) (by decide) (by decide)) (by decide), wide_div dp ds (by decide) (by decide), x, d, rfl, dp, ?_⟩
    simp only [ev3, ev, ev2, ev4, sl, eq1, exl, exists_and_left, and_assoc, true_and, at0, at1, at2, Int.toNat_natCast]
    refine ⟨wide_div (by omega) gs (by decide) (by decide), by decide, by decide, fun z H5 x5 => ?_⟩
    have y5 := y.trans x5
    refine ⟨_, y5.g 0, _, y5.g 1, size_ok (by simp only [zs_len, List.length_cons, List.length_nil]; omega), fun H6 pt => ?_⟩
    have y6 := y5.put 1 rfl pt
    rw [zs_app]
    exact y6.pick [1, 2, 3, 4, 5, 6, 7, 8] (by decide)
  rintro σ H4 ⟨v4, rfl, y⟩
  rw [zs_len, List.take_length] at y
  simp only [ev3, ev, ev2, ev4, sl, eq1, exl, exists_and_left, and_assoc, true_and, at0, at1, at2, Int.toNat_natCast]
  exact q F H4 f r rfl (fun _ _ h => h) (y.pick [0, 3, 4, 5, 6, 7] (by decide)) ⟨I.p, fun _ _ _ h => h⟩
def buildH (s : HS) (t : List Nat) : HS × List Int := if 0 < (planZ t).2.1 then (s, [1, ((planZ t).1 : Int), ((planZ t).2.1 : Int)]) else
  (begunZ (planZ t).2.2, [0, ((planZ t).2.2.rooms.length : Int), ((planZ t).2.2.outs.length : Int), ((planZ t).2.2.links.length : Int), ((planZ t).2.2.heaters.length : Int)])
def sp_House_build (K : PySem.W.Frag) : Sp := fun vs H Q _ => ∃ (F : Hp) (r : HA) (s : HS) (o : Addr) (t : List Nat), vs = [.ref r.h, .ref o] ∧ HI K F H r s ∧ H o = some (.lst (zs (nameI t))) ∧ t.length ≤ 4000 ∧ (∀ s', s' = (buildH s t).1 → WfS s' → AnsM K F r s s' (buildH s t).2 Q)
abbrev N_House_build : List Str := ["self", "octets", "plan", "number", "why"]
theorem sc_House_build : FnScope N_House_build ["self", "octets"] (defScope s_House_build) := ⟨rfl, rfl, rfl, by decide +kernel, rfl, by decide +kernel, by decide +kernel⟩
theorem st_House_build (x0 x1 : V) : start N_House_build [x0, x1] = [some x0, some x1, none, none, none] := rfl
theorem ok_House_build (e : Env K mg) : Ok P w K mg base 7 (He.ma K (He.ga K "House") "build") ["self", "octets"] (sp_House_build K) := by
  refine ok_of e.fun_House_build sc_House_build (fun _ _ _ _ _ _ us hl => match us, hl with | [_, _], _ => rfl) (by rintro _ _ _ _ ⟨F, r, s, o, t, rfl, I, ho, ht, q⟩; rfl) ?_
  intro cdv A outer s0 H vs Q E hr hsp
  have sc := sc_House_build
  have hu := hu_of hr
  have G_plan_of := ok_plan_of (P := P) (w := w) (base := base) e
  have G_House_begin := ok_House_begin (P := P) (w := w) (base := base) e
  refine ⟨_, (pss_cons (ps_asg (pe_callE G_plan_of (hr.mono (by decide)) e.g_plan_of (pa_cons (pv 1) pa_nil)) (pg_tupN (n := 3) rfl (pgs_cons (pg_name (i := 2) sc.nd rfl (Or.inl rfl)) (pgs_cons (pg_name (i := 3) sc.nd rfl (Or.inl rfl)) (pgs_cons (pg_name (i := 4) sc.nd rfl (Or.inl rfl)) pgs_nil)))))
    (pss_cons (ps_if (pt_cmpR op_gt (pv 4) pe_int (nomark _))
    (pss_one (ps_ret (pe_lstN (pa_cons pe_int (pa_cons (pv 3) (pa_cons (pv 4) pa_nil))))))
    pss_nil)
    (pss_cons (ps_expr (pe_methE (pv 0) e.c_House e.m_House_begin G_House_begin (hr.mono (by decide)) (pa_cons (pv 2) pa_nil)))
    (pss_one (ps_ret (pe_lstN (pa_cons pe_int (pa_cons (pe_callB len_listN (by rfl) e.f_len bt_len (pa_cons (pe_at e.c_Plan e.n_Plan_rooms (pv 2)) pa_nil)) (pa_cons (pe_callB len_listN (by rfl) e.f_len bt_len (pa_cons (pe_at e.c_Plan e.n_Plan_outsides (pv 2)) pa_nil)) (pa_cons (pe_callB len_listN (by rfl) e.f_len bt_len (pa_cons (pe_at e.c_Plan e.n_Plan_links (pv 2)) pa_nil)) (pa_cons (pe_callB len_listN (by rfl) e.f_len bt_len (pa_cons (pe_at e.c_Plan e.n_Plan_heaters (pv 2)) pa_nil)) pa_nil))))))))))), ?_⟩
  obtain ⟨F, r, s, o, t, rfl, I, ho, ht, q⟩ := hsp
  rw [st_House_build]
  refine st_seq ?_
  simp only [ev3, ev, ev2, ev4, sl, eq1, exl, exists_and_left, and_assoc, true_and, at0, at1, at2, Int.toNat_natCast]
  refine ⟨o, t, rfl, ho, ht, fun H1 u p k1 hu PN wf => ?_⟩
  simp only [ev3, ev, ev2, ev4, sl, eq1, exl, exists_and_left, and_assoc, true_and, at0, at1, at2, Int.toNat_natCast, hu, List.length_cons, List.length_nil]
  have I1 := I.on k1
  unfold buildH at q
  generalize planZ t = x at *
  obtain ⟨n, why, b⟩ := x
  simp only at q PN wf
  refine st_seq ?_
  simp only [ev3, ev, ev2, ev4, sl, eq1, exl, exists_and_left, and_assoc, true_and, at0, at1, at2, Int.toNat_natCast]
  by_cases hw : 0 < why
  · rw [if_pos (decide_eq_true (by omega))]
    rw [if_pos hw] at q
    simp only [ev3, ev, ev2, ev4, sl, eq1, exl, exists_and_left, and_assoc, true_and, at0, at1, at2, Int.toNat_natCast, List.length_cons, List.length_nil]
    exact ⟨by decide, fun a H2 x2 => (q s rfl I.w).stay I1 x2⟩
  rw [if_neg (by rw [decide_eq_false (by omega)]; decide)]
  rw [if_neg hw] at q
  have q := q _ rfl (WfS.begun wf)
  refine st_seq ?_
  have gh1 := I1.x.g 0
  simp only [ev3, ev, ev2, ev4, sl, eq1, exl, exists_and_left, and_assoc, true_and, at0, at1, at2, Int.toNat_natCast, gh1]
  have PH : PlanA K (hide [r.h] H1) p b := PN.hide (fun a ha => by rw [List.mem_singleton.mp ha]; exact ⟨_, I.x.g 0⟩) (fun a ha xs e => by rw [List.mem_singleton.mp ha, gh1] at e; cases e)
  refine ⟨hF_no r s, r.h, r.dx, p, hF r s, b, rfl, gh1, .inr ⟨r, s, rfl⟩, PH, wf.few, fun H2 c w l g z => ?_⟩
  obtain ⟨pdx, pr, ra, oa, la, ha, A⟩ := PH
  simp only [ev3, ev, ev2, ev4, sl, eq1, exl, exists_and_left, and_assoc, true_and, at0, at1, at2, Int.toNat_natCast, z.k A.ob, z.k A.rl, z.k A.ol, z.k A.ll, z.k A.hl, List.length_map, A.rs.1, A.os.1, A.ls.1, A.hs.1, List.length_cons, List.length_nil]
  refine ⟨by decide, fun a H3 x3 => ?_⟩
  refine q (hide [r.h] H1) H3 a ⟨r.h, r.dx, p, c, w, l, g⟩ rfl (fun x v hx => ?_) (z.trans x3) ⟨⟨pdx, pr, ra, oa, la, ha, A⟩, fun f xs hf _ => ?_⟩
  · rw [hide_ne fun e => ?_]
    · exact I1.x.k hx
    · rw [List.mem_singleton.mp e, I.x.f 0] at hx
      cases hx
  · rw [hide_hide]
    have kf := I.x.k hf
    refine PN.hide (fun a ha => ?_) (fun a ha ys e => ?_)
    · simp only [List.cons_append, List.nil_append, List.mem_cons, List.not_mem_nil, or_false] at ha
      rcases ha with rfl | rfl
      · exact ⟨_, kf⟩
      · exact ⟨_, I.x.g 0⟩
    · simp only [List.cons_append, List.nil_append, List.mem_cons, List.not_mem_nil, or_false] at ha
      rcases ha with rfl | rfl
      · rw [k1 _ _ kf] at e
        cases e
      · rw [gh1] at e
        cases e
end
end WR
end PartWh4
section PartWh5
set_option Elab.async false
set_option linter.all false
set_option maxRecDepth 100000
set_option maxHeartbeats 4000000
namespace WR
open PySem PySem.Spec PyProof.Rows L2 WH
section
variable {P : Program} {w : World} {K : PySem.W.Frag} {mg : Str → Option Value} {base : Heap}
def nearAt (cells : List Int) (s : Nat) (N : List Int) (d e : Int) (i : Nat) : Bool := !decide (e * d * 2 ^ s < (if cells.getD i 0 * d - N.getD i 0 * 2 ^ s < 0 then -(cells.getD i 0 * d - N.getD i 0 * 2 ^ s) else cells.getD i 0 * d - N.getD i 0 * 2 ^ s))
def nearZ (cells : List Int) (s : Nat) (N : List Int) (d e : Int) : Bool := (List.range cells.length).all (nearAt cells s N d e)
def sp_House_is_near (K : PySem.W.Frag) : Sp := fun vs H Q _ => ∃ (h c t u : Addr) (cells N : List Int) (s n : Nat) (d e : Int), vs = [.ref h, .ref c, natV s, .ref t, .int e] ∧ H c = some (.lst (zs cells)) ∧ H t = some (.tup [.ref u, .int d]) ∧ H u = some (.lst (zs N)) ∧ cells.length = N.length ∧
  cells.length ≤ 100 ∧ SmL n cells ∧ n ≤ 100000 ∧ s ≤ 100000 ∧ SmL 8000 N ∧ Sm 8000 d ∧ Sm 20 e ∧ ∀ H', Keeps H H' → Q (.bl (nearZ cells s N d e)) H'
abbrev N_House_is_near : List Str := ["self", "cells", "shift", "rest", "near", "numbers", "part", "cell", "number"]
theorem sc_House_is_near : FnScope N_House_is_near ["self", "cells", "shift", "rest", "near"] (defScope s_House_is_near) := ⟨rfl, rfl, rfl, by decide +kernel, rfl, by decide +kernel, by decide +kernel⟩
theorem st_House_is_near (x0 x1 x2 x3 x4 : V) : start N_House_is_near [x0, x1, x2, x3, x4] = [some x0, some x1, some x2, some x3, some x4, none, none, none, none] := rfl
theorem ok_House_is_near (e : Env K mg) : Ok P w K mg base 1 (He.ma K (He.ga K "House") "is_near") ["self", "cells", "shift", "rest", "near"] (sp_House_is_near K) := by
  refine ok_of e.fun_House_is_near sc_House_is_near (fun _ _ _ _ _ _ us hl => match us, hl with | [_, _, _, _, _], _ => rfl) (by rintro _ _ _ _ ⟨h, c, t, u, cells, N, s, n, d, e0, rfl, hc, ht, hu', hl, hs, sc', hn, hs2, sN, sd, se, q⟩; rfl) ?_
  intro cdv A outer s0 H vs Q E hr hsp
  have sc := sc_House_is_near
  have hu := hu_of hr
  refine ⟨_, (pss_cons (ps_asg (pv 3) (pg_tupN (n := 2) rfl (pgs_cons (pg_name (i := 5) sc.nd rfl (Or.inl rfl)) (pgs_cons (pg_name (i := 6) sc.nd rfl (Or.inl rfl)) pgs_nil))))
    (pss_cons (ps_for PassesOwn.never rfl (pi_zip (by rfl) e.f_zip (pa_cons (pv 1) (pa_cons (pv 5) pa_nil))) (pg_tupN (n := 2) rfl (pgs_cons (pg_name (i := 7) sc.nd rfl (Or.inl rfl)) (pgs_cons (pg_name (i := 8) sc.nd rfl (Or.inl rfl)) pgs_nil)))
    (pss_one (ps_if (pt_cmpR op_gt (pe_callB call_abs (by rfl) e.f_abs bt_abs (pa_cons (pe_op op_sub (pe_op op_mulX (pv 7) (pv 6)) (pe_op op_shlW (pv 8) (pv 2))) pa_nil)) (pe_op op_shlW (pe_op op_mulX (pv 4) (pv 6)) (pv 2)) (nomark _))
    (pss_one (ps_ret pe_bl))
    pss_nil)))
    (pss_one (ps_ret pe_bl)))), ?_⟩
  obtain ⟨h, c, t, u, cells, N, s, n, d, e0, rfl, hc, ht, hu', hl, hs, sc', hn, hs2, sN, sd, se, q⟩ := hsp
  rw [st_House_is_near]
  refine st_seq ?_
  simp only [ev3, ev, ev2, ev4, sl, eq1, exl, exists_and_left, and_assoc, true_and, at0, at1, at2, Int.toNat_natCast, ht, List.length_cons, List.length_nil]
  refine st_seq (forZ (a := c) (b := u) (xs := zs cells) (ys := zs N) (fun R h => by simp only [ev3, ev, ev2, ev4, sl, eq1, exl, exists_and_left, and_assoc, true_and, at0, at1, at2, Int.toNat_natCast]; exact h) hc hu' (by rw [zs_len, zs_len]; exact hl)
    (fun i σ H' => ∃ v7 v8, σ = [some (.ref h), some (.ref c), some (natV s), some (.ref t), some (.int e0), some (.ref u), some (.int d), v7, v8] ∧ Keeps H H' ∧ ∀ j < i, nearAt cells s N d e0 j = true) ⟨_, _, rfl, fun _ _ h => h, fun j hj => by omega⟩ (fun i σ H' ⟨_, _, _, k, _⟩ => ⟨k _ _ hc, k _ _ hu'⟩) ?_ ?_)
  · rintro i x y T σ H1 H2 hx hy ⟨v7, v8, rfl, k, hno⟩ xT
    obtain ⟨i1, rfl⟩ := zs_get hx
    obtain ⟨i2, rfl⟩ := zs_get hy
    simp only [ev3, ev, ev2, ev4, sl, eq1, exl, exists_and_left, and_assoc, true_and, at0, at1, at2, Int.toNat_natCast, xT.g 0, List.length_cons, List.length_nil]
    refine ⟨mul_sm (sc'.getD i) sd (by omega), shl_sm (sN.getD i) (by omega), mul_sm se sd (by decide), shl_sm (se.mul sd) (by omega), ?_⟩
    have k2 := k.trans xT.keeps
    cases hc' : nearAt cells s N d e0 i with
    | false =>
      unfold nearAt at hc'
      have hc2 : decide (e0 * d * 2 ^ s < (if cells.getD i 0 * d - N.getD i 0 * 2 ^ s < 0 then -(cells.getD i 0 * d - N.getD i 0 * 2 ^ s) else cells.getD i 0 * d - N.getD i 0 * 2 ^ s)) = true := by simpa using hc'
      rw [if_pos hc2]
      have e : nearZ cells s N d e0 = false := by
        unfold nearZ
        rw [List.all_eq_false]
        exact ⟨i, List.mem_range.mpr i1, by unfold nearAt; rw [hc2]; decide⟩
      rw [e] at q
      exact q H2 k2
    | true =>
      have hc3 := hc'
      unfold nearAt at hc'
      have hc2 : decide (e0 * d * 2 ^ s < (if cells.getD i 0 * d - N.getD i 0 * 2 ^ s < 0 then -(cells.getD i 0 * d - N.getD i 0 * 2 ^ s) else cells.getD i 0 * d - N.getD i 0 * 2 ^ s)) = false := by simpa using hc'
      rw [if_neg (by rw [hc2]; decide)]
      refine ⟨k2, fun j hj => ?_⟩
      by_cases h : j = i
      · rw [h]
        exact hc3
      · exact hno j (by omega)
  rintro σ H2 ⟨v7, v8, rfl, k, hno⟩
  rw [zs_len] at hno
  simp only [ev3, ev, ev2, ev4, sl, eq1, exl, exists_and_left, and_assoc, true_and, at0, at1, at2, Int.toNat_natCast]
  have e : nearZ cells s N d e0 = true := by
    unfold nearZ
    rw [List.all_eq_true]
    intro j hj
    exact hno j (List.mem_range.mp hj)
  rw [e] at q
  exact q H2 k
/-- the first turn of a run at which a thing is so -/
def firstZ (b : Vbbcab.Building) (wt : List Int) (lv : List Nat) (cells : List Int) (s : Nat) (ok : List Int → Nat → Bool) (many : Nat) : Option Nat := (List.range (many + 1)).find? fun k => ok (gonZ b wt lv k cells s).1 (gonZ b wt lv k cells s).2
def foundL : Option Nat → List Int
  | none => [0, 0]
  | some k => [0, 1, (k : Int)]
def settleH (s : HS) (e n : Int) : HS × List Int := (s, if Vbbcab.inside e 0 100000 = false ∨ Vbbcab.inside n 0 1000 = false then [-2] else if anchZ s.b = false then [-4] else
  foundL (firstZ s.b s.wt s.lv s.cells s.shift (fun c k => nearZ c k (numsZ (aM s.b s.wt s.lv) s.b.rooms.length) (bst (aM s.b s.wt s.lv) s.b.rooms.length).2 e) n.toNat))
theorem first_some {b : Vbbcab.Building} {wt : List Int} {lv : List Nat} {cells : List Int} {s : Nat} {ok : List Int → Nat → Bool} {many k : Nat} (hk : k < many + 1) (h : ok (gonZ b wt lv k cells s).1 (gonZ b wt lv k cells s).2 = true) (hno : ∀ j < k, ok (gonZ b wt lv j cells s).1 (gonZ b wt lv j cells s).2 = false) : firstZ b wt lv cells s ok many = some k := by
  unfold firstZ
  rw [List.find?_range_eq_some]
  exact ⟨h, List.mem_range.mpr hk, fun j hj => by rw [hno j hj]; rfl⟩
theorem first_none {b : Vbbcab.Building} {wt : List Int} {lv : List Nat} {cells : List Int} {s : Nat} {ok : List Int → Nat → Bool} {many : Nat} (hno : ∀ j < many + 1, ok (gonZ b wt lv j cells s).1 (gonZ b wt lv j cells s).2 = false) : firstZ b wt lv cells s ok many = none := by
  unfold firstZ
  rw [List.find?_eq_none]
  intro j hj
  rw [hno j (List.mem_range.mp hj)]
  decide
/-- a test of a chain, and what follows -/
theorem in_or {P R X : Prop} {n lo hi : Int} (h1 : Vbbcab.inside n lo hi = false → P) (h2 : Vbbcab.inside n lo hi = true → R) : if decide (lo ≤ n) = true then (if (!decide (n ≤ hi)) = true then (if True then P else X) else R) else (if (!false) = true then (if True then P else X) else R) := by
  unfold Vbbcab.inside at *
  by_cases a : lo ≤ n
  · rw [if_pos (decide_eq_true a)]
    by_cases c : n ≤ hi
    · rw [if_neg (by rw [decide_eq_true c]; decide)]
      exact h2 (by rw [decide_eq_true a, decide_eq_true c]; rfl)
    · rw [if_pos (by rw [decide_eq_false c]; decide), if_pos trivial]
      exact h1 (by rw [decide_eq_false c, Bool.and_false])
  · rw [if_neg (by rw [decide_eq_false a]; decide), if_pos (by decide), if_pos trivial]
    exact h1 (by rw [decide_eq_false a, Bool.false_and])
def sp_House_settle (K : PySem.W.Frag) : Sp := fun vs H Q E => AnchOk ∧ Meth2 K settleH vs H Q E
abbrev N_House_settle : List Str := ["self", "near", "many", "rest", "cells", "shift", "turn", "outs"]
theorem sc_House_settle : FnScope N_House_settle ["self", "near", "many"] (defScope s_House_settle) := ⟨rfl, rfl, rfl, by decide +kernel, rfl, by decide +kernel, by decide +kernel⟩
theorem st_House_settle (x0 x1 x2 : V) : start N_House_settle [x0, x1, x2] = [some x0, some x1, some x2, none, none, none, none, none] := rfl
theorem ok_House_settle (e : Env K mg) : Ok P w K mg base 5 (He.ma K (He.ga K "House") "settle") ["self", "near", "many"] (sp_House_settle K) := by
  refine ok_of e.fun_House_settle sc_House_settle (fun _ _ _ _ _ _ us hl => match us, hl with | [_, _, _], _ => rfl) (by rintro _ _ _ _ ⟨anch, F, r, s, e0, n, rfl, I, q⟩; rfl) ?_
  intro cdv A outer s0 H vs Q E hr hsp
  have sc := sc_House_settle
  have hu := hu_of hr
  have G_Plan_is_anchored := ok_Plan_is_anchored (P := P) (w := w) (base := base) e
  have G_solved := ok_solved (P := P) (w := w) (base := base) e
  have G_House_is_near := ok_House_is_near (P := P) (w := w) (base := base) e
  have G_stepped := ok_stepped (P := P) (w := w) (base := base) e
  refine ⟨_, (pss_cons (ps_if (PW.pt (pw_or (pt_not (pt_chain op_le op_le pe_int (pv 1) (pe_gint e.i_MOST_NEAR))) (pw_or1 (pt_not (pt_chain op_le op_le pe_int (pv 2) (pe_gint e.i_MOST_STEPS))))))
    (pss_one (ps_ret (pe_lstN (pa_cons (pe_un un_neg pe_int) pa_nil))))
    pss_nil)
    (pss_cons (ps_if (pt_not (pt_val (pe_methE0 (pe_at e.c_House e.n_House_plan (pv 0)) e.c_Plan e.m_Plan_is_anchored G_Plan_is_anchored (hr.mono (by decide)))))
    (pss_one (ps_ret (pe_lstN (pa_cons (pe_un un_neg pe_int) pa_nil))))
    pss_nil)
    (pss_cons (ps_set (i := 3) sc.nd rfl (Or.inl rfl) (pe_callE G_solved (hr.mono (by decide)) e.g_solved (pa_cons (pe_at e.c_House e.n_House_plan (pv 0)) (pa_cons (pe_at e.c_House e.n_House_weather (pv 0)) (pa_cons (pe_at e.c_House e.n_House_levels (pv 0)) pa_nil)))))
    (pss_cons (ps_par (i := 4) (j := 5) (by rfl) sc.nd rfl rfl (by decide) rfl rfl (pa_cons (pe_callTy list_listN (by rfl) e.f_list bt_list (pa_cons (pe_at e.c_House e.n_House_cells (pv 0)) pa_nil)) (pa_cons (pe_at e.c_House e.n_House_shift (pv 0)) pa_nil)) (by rfl))
    (pss_cons (ps_for PassesOwn.never rfl (pi_range1 (by rfl) e.f_range (pa_cons (pe_op op_add (pv 2) pe_int) pa_nil)) (pg_name (i := 6) sc.nd rfl (Or.inl rfl))
    (pss_cons (ps_if (pt_val (pe_methE (pv 0) e.c_House e.m_House_is_near G_House_is_near (hr.mono (by decide)) (pa_cons (pv 4) (pa_cons (pv 5) (pa_cons (pv 3) (pa_cons (pv 1) pa_nil))))))
    (pss_one (ps_ret (pe_lstN (pa_cons pe_int (pa_cons pe_int (pa_cons (pv 6) pa_nil))))))
    pss_nil)
    (pss_one (ps_asg (pe_callE G_stepped (hr.mono (by decide)) e.g_stepped (pa_cons (pe_at e.c_House e.n_House_plan (pv 0)) (pa_cons (pv 4) (pa_cons (pv 5) (pa_cons (pe_at e.c_House e.n_House_weather (pv 0)) (pa_cons (pe_at e.c_House e.n_House_levels (pv 0)) pa_nil)))))) (pg_tupN (n := 3) rfl (pgs_cons (pg_name (i := 4) sc.nd rfl (Or.inl rfl)) (pgs_cons (pg_name (i := 5) sc.nd rfl (Or.inl rfl)) (pgs_cons (pg_name (i := 7) sc.nd rfl (Or.inl rfl)) pgs_nil))))))))
    (pss_one (ps_ret (pe_lstN (pa_cons pe_int (pa_cons pe_int pa_nil)))))))))), ?_⟩
  obtain ⟨anch, F, r, s, e0, n, rfl, I, q⟩ := hsp
  rw [st_House_settle]
  unfold settleH at q
  refine st_seq ?_
  simp only [ev3, ev, ev2, ev4, sl, eq1, exl, exists_and_left, and_assoc, true_and, at0, at1, at2, Int.toNat_natCast]
  refine in_or (fun h1 => ?_) (fun h1 => ?_)
  · rw [if_pos (.inl h1)] at q
    exact ⟨sz1, fun u H1 x => q.stay I x⟩
  refine in_not (fun h2 => ?_) (fun h2 => ?_)
  · rw [if_pos (.inr h2)] at q
    exact ⟨sz1, fun u H1 x => q.stay I x⟩
  rw [if_neg (by rw [h1, h2]; decide)] at q
  obtain ⟨a1, a2⟩ := inside_iff.mp h1
  obtain ⟨b1, b2⟩ := inside_iff.mp h2
  have gh := I.x.g 0
  have W := I.w
  have n1 := W.b.nr
  have sh := W.sh
  have ck := W.ck
  have PA := I.pl
  obtain ⟨dx, pr, ra, oa, la, ha, A⟩ := I.p
  refine st_seq ?_
  simp only [ev3, ev, ev2, ev4, sl, eq1, exl, exists_and_left, and_assoc, true_and, at0, at1, at2, Int.toNat_natCast, gh, ev6, I.x.k A.ob]
  refine ⟨pF_no pr, r.p, s.b, rfl, PA, W.b.few, W.b.roomEnds, fun H1 k1 => ⟨_, rfl, ?_⟩⟩
  have I1 := I.on k1
  cases ha : anchZ s.b with
  | false =>
    rw [if_pos ha] at q
    rw [if_pos (by decide)]
    exact ⟨sz1, fun u H1 x => q.stay I1 x⟩
  | true =>
  rw [if_neg (by rw [ha]; decide)] at q
  rw [if_neg (by decide)]
  have ok := anch s.b s.wt s.lv W.b W.w ha
  have gh1 := I1.x.g 0
  refine st_seq ?_
  simp only [ev3, ev, ev2, ev4, sl, eq1, exl, exists_and_left, and_assoc, true_and, at0, at1, at2, Int.toNat_natCast, gh1, ev6]
  refine ⟨r.p, r.w, r.l, s.wt, s.lv, s.b, rfl, PA.mono k1, I1.x.g 2, I1.x.g 3, W.b, W.w, ok, fun H2 t2 u2 x2 => ?_⟩
  have y2 := I1.x.trans x2
  have nl := numsZ_len (aM s.b s.wt s.lv) s.b.rooms.length
  have ns := ok.nums
  have ds := ok.d _ (Nat.le_refl _)
  generalize numsZ (aM s.b s.wt s.lv) s.b.rooms.length = N at *
  generalize (bst (aM s.b s.wt s.lv) s.b.rooms.length).2 = d at *
  have gh2 := y2.g 2
  refine st_seq ?_
  simp only [ev3, ev, ev2, ev4, sl, eq1, exl, exists_and_left, and_assoc, true_and, at0, at1, at2, Int.toNat_natCast, gh2, ev6, y2.g 3]
  intro c H3 x3
  have y3 := y2.trans x3
  have gh3 := y3.g 3
  simp only [ev3, ev, ev2, ev4, sl, eq1, exl, exists_and_left, and_assoc, true_and, at0, at1, at2, Int.toNat_natCast, gh3, ev6]
  have y3 : Ext F H3 ((c, .lst (zs s.cells)) :: (t2, .tup [.ref u2, .int d]) :: (u2, .lst (zs N)) :: hE K r s) := y3
  have en : V.int (n + 1) = natV (n.toNat + 1) := by unfold natV; rw [show ((n.toNat + 1 : Nat) : Int) = n + 1 by omega]
  have fits : SmL (40 + 37 * s.clock) s.cells := W.cs
  refine st_seq (forR (n := n.toNat + 1) (fun Q' q => by simp only [ev3, ev, ev2, ev4, sl, eq1, exl, exists_and_left, and_assoc, true_and, at0, at1, at2, Int.toNat_natCast]; rw [en]; exact q) (by omega)
    (fun i σ H' => ∃ (c : Addr) (v6 v7 : Option V), σ = [some (.ref r.h), some (.int e0), some (.int n), some (.ref t2), some (.ref c), some (natV (gonZ s.b s.wt s.lv i s.cells s.shift).2), v6, v7] ∧
      Ext F H' ((c, .lst (zs (gonZ s.b s.wt s.lv i s.cells s.shift).1)) :: (t2, .tup [.ref u2, .int d]) :: (u2, .lst (zs N)) :: hE K r s) ∧ ∀ j < i, nearZ (gonZ s.b s.wt s.lv j s.cells s.shift).1 (gonZ s.b s.wt s.lv j s.cells s.shift).2 N d e0 = false) ⟨c, _, _, rfl, y3, fun j hj => by omega⟩ ?_ ?_)
  · rintro i σ H4 hi ⟨c, v6, v7, rfl, y, hno⟩
    obtain ⟨g1, g2, g3⟩ := gonZ_sm W.b W.w fits (by omega : s.shift + 17 ≤ 40 + 37 * s.clock) i
    have gh4 := y.g 3
    simp only [ev3, ev, ev2, ev4, sl, eq1, exl, exists_and_left, and_assoc, true_and, at0, at1, at2, Int.toNat_natCast]
    refine st_seq ?_
    simp only [ev3, ev, ev2, ev4, sl, eq1, exl, exists_and_left, and_assoc, true_and, at0, at1, at2, Int.toNat_natCast, gh4]
    have cl := W.cl
    refine ⟨hF_no r s, r.h, c, t2, u2, _, N, _, _, d, e0, rfl, y.g 0, y.g 1, y.g 2, by omega, by omega, g1, by omega, by omega, ns, ds, Sm.of_le (m := 100000) (by omega) (by decide), fun H5 k5 => ⟨_, rfl, ?_⟩⟩
    have y5 := y.on k5
    cases hz : nearZ (gonZ s.b s.wt s.lv i s.cells s.shift).1 (gonZ s.b s.wt s.lv i s.cells s.shift).2 N d e0 with
    | true =>
      rw [if_pos rfl]
      have e := first_some (ok := fun c k => nearZ c k N d e0) (many := n.toNat) hi hz hno
      rw [e] at q
      simp only [ev3, ev, ev2, ev4, sl, eq1, exl, exists_and_left, and_assoc, true_and, at0, at1, at2, Int.toNat_natCast, List.length_cons, List.length_nil]
      refine ⟨by decide, fun u H6 x6 => ?_⟩
      exact q F H6 u r rfl (fun _ _ h => h) ((y5.trans x6).pick [0, 4, 5, 6, 7, 8] (by decide)) ⟨I.p, fun _ _ _ h => h⟩
    | false =>
      rw [if_neg (by decide)]
      have gh5 := y5.g 3
      simp only [ev3, ev, ev2, ev4, sl, eq1, exl, exists_and_left, and_assoc, true_and, at0, at1, at2, Int.toNat_natCast, gh5, ev6]
      refine ⟨r.p, c, r.w, r.l, _, s.wt, s.lv, _, _, s.b, rfl, I.p.mono y5.keeps, y5.g 0, y5.g 5, y5.g 6, W.b, W.w, by omega, ⟨W.w.warm, by omega, by omega, g1⟩, fun H6 t6 c6 o6 x6 => ?_⟩
      simp only [ev3, ev, ev2, ev4, sl, eq1, exl, exists_and_left, and_assoc, true_and, at0, at1, at2, Int.toNat_natCast, x6.g 0, List.length_cons, List.length_nil]
      have y6 := y5.trans x6
      rw [gonZ_one]
      refine ⟨rfl, y6.pick [1, 4, 5, 6, 7, 8, 9, 10] (by decide), fun j hj => ?_⟩
      by_cases h : j = i
      · rw [h]
        exact hz
      · exact hno j (by omega)
  rintro σ H4 ⟨c, v6, v7, rfl, y, hno⟩
  simp only [ev3, ev, ev2, ev4, sl, eq1, exl, exists_and_left, and_assoc, true_and, at0, at1, at2, Int.toNat_natCast, List.length_cons, List.length_nil]
  refine ⟨by decide, fun u H6 x6 => ?_⟩
  have e := first_none (ok := fun c k => nearZ c k N d e0) (many := n.toNat) hno
  rw [e] at q
  exact q F H6 u r rfl (fun _ _ h => h) ((y.trans x6).pick [0, 4, 5, 6, 7, 8] (by decide)) ⟨I.p, fun _ _ _ h => h⟩
def halfZ (c : List Int) (k : Nat) : Bool := c.all fun x => decide (2 * x ≤ 1 * 2 ^ k)
def halveH (s : HS) (n : Int) : HS × List Int := (s, if Vbbcab.inside n 0 1000 = false then [-2] else foundL (firstZ s.b (List.replicate s.wt.length 0) (List.replicate s.lv.length 0) (List.replicate s.cells.length 1) 0 halfZ n.toNat))
theorem allI_map (w : List Int) (f : Int → Bool) : ((List.range w.length).map fun i => f (w.getD i 0)).all id = w.all f := by
  have e : (List.range w.length).map (fun i => f (w.getD i 0)) = w.map f := by
    refine List.ext_getElem (by simp) fun i h1 h2 => ?_
    rw [List.length_map, List.length_range] at h1
    simp [h1]
  rw [e, List.all_map]
  rfl
theorem mapI_bl (w : List Int) (f : Int → Bool) : (List.range w.length).map (fun i => V.bl (f (w.getD i 0))) = ((List.range w.length).map fun i => f (w.getD i 0)).map V.bl := by rw [List.map_map]; rfl
def sp_House_halve (K : PySem.W.Frag) : Sp := Meth1 K halveH
abbrev N_House_halve : List Str := ["self", "many", "cells", "shift", "weather", "levels", "turn", "outs", "cell"]
theorem sc_House_halve : FnScope N_House_halve ["self", "many"] (defScope s_House_halve) := ⟨rfl, rfl, rfl, by decide +kernel, rfl, by decide +kernel, by decide +kernel⟩
theorem st_House_halve (x0 x1 : V) : start N_House_halve [x0, x1] = [some x0, some x1, none, none, none, none, none, none, none] := rfl
theorem ok_House_halve (e : Env K mg) : Ok P w K mg base 5 (He.ma K (He.ga K "House") "halve") ["self", "many"] (sp_House_halve K) := by
  refine ok_of e.fun_House_halve sc_House_halve (fun _ _ _ _ _ _ us hl => match us, hl with | [_, _], _ => rfl) (by rintro _ _ _ _ ⟨F, r, s, n, rfl, I, q⟩; rfl) ?_
  intro cdv A outer s0 H vs Q E hr hsp
  have sc := sc_House_halve
  have hu := hu_of hr
  have G_stepped := ok_stepped (P := P) (w := w) (base := base) e
  refine ⟨_, (pss_cons (ps_if (pt_not (pt_chain op_le op_le pe_int (pv 1) (pe_gint e.i_MOST_STEPS)))
    (pss_one (ps_ret (pe_lstN (pa_cons (pe_un un_neg pe_int) pa_nil))))
    pss_nil)
    (pss_cons (ps_asg (pe_tupN (pa_cons (pe_op op_repN (pe_lstN (pa_cons pe_int pa_nil)) (pe_callB len_listN (by rfl) e.f_len bt_len (pa_cons (pe_at e.c_House e.n_House_cells (pv 0)) pa_nil))) (pa_cons pe_int pa_nil))) (pg_tupN (n := 2) rfl (pgs_cons (pg_name (i := 2) sc.nd rfl (Or.inl rfl)) (pgs_cons (pg_name (i := 3) sc.nd rfl (Or.inr rfl)) pgs_nil))))
    (pss_cons (ps_par (i := 4) (j := 5) (by rfl) sc.nd rfl rfl (by decide) rfl rfl (pa_cons (pe_op op_repN (pe_lstN (pa_cons pe_int pa_nil)) (pe_callB len_listN (by rfl) e.f_len bt_len (pa_cons (pe_at e.c_House e.n_House_weather (pv 0)) pa_nil))) (pa_cons (pe_op op_repN (pe_lstN (pa_cons pe_int pa_nil)) (pe_callB len_listN (by rfl) e.f_len bt_len (pa_cons (pe_at e.c_House e.n_House_levels (pv 0)) pa_nil))) pa_nil)) (by rfl))
    (pss_cons (ps_for PassesOwn.never rfl (pi_range1 (by rfl) e.f_range (pa_cons (pe_op op_add (pv 1) pe_int) pa_nil)) (pg_name (i := 6) sc.nd rfl (Or.inl rfl))
    (pss_cons (ps_if (pt_val (pe_callB (allN rfl) (by rfl) e.f_all bt_all (pa_cons (pe_lc (own := [("cell", 8)]) rfl sc.nd (pi_list (pv 2)) (blkOk_by (own := [("cell", 8)]) (N := N_House_halve) (sc := defScope s_House_halve) (by decide +kernel)) (fun _ _ _ _ _ => (pg_name (i := 8) sc.nd rfl (Or.inl rfl) (Or.inr rfl))) (fun _ _ _ _ _ => pts_nil) (fun _ _ _ _ _ => (pe_cmpR op_le (pe_op op_mulX pe_int (pv 8)) (pe_op op_shlW pe_int (pv 3)) (nomark _)))) pa_nil)))
    (pss_one (ps_ret (pe_lstN (pa_cons pe_int (pa_cons pe_int (pa_cons (pv 6) pa_nil))))))
    pss_nil)
    (pss_one (ps_asg (pe_callE G_stepped (hr.mono (by decide)) e.g_stepped (pa_cons (pe_at e.c_House e.n_House_plan (pv 0)) (pa_cons (pv 2) (pa_cons (pv 3) (pa_cons (pv 4) (pa_cons (pv 5) pa_nil)))))) (pg_tupN (n := 3) rfl (pgs_cons (pg_name (i := 2) sc.nd rfl (Or.inl rfl)) (pgs_cons (pg_name (i := 3) sc.nd rfl (Or.inr rfl)) (pgs_cons (pg_name (i := 7) sc.nd rfl (Or.inl rfl)) pgs_nil))))))))
    (pss_one (ps_ret (pe_lstN (pa_cons pe_int (pa_cons pe_int pa_nil))))))))), ?_⟩
  obtain ⟨F, r, s, n, rfl, I, q⟩ := hsp
  rw [st_House_halve]
  unfold halveH at q
  refine st_seq ?_
  simp only [ev3, ev, ev2, ev4, sl, eq1, exl, exists_and_left, and_assoc, true_and, at0, at1, at2, Int.toNat_natCast]
  refine in_not (fun h1 => ?_) (fun h1 => ?_)
  · rw [if_pos h1] at q
    exact ⟨sz1, fun u H1 x => q.stay I x⟩
  rw [if_neg (by rw [h1]; decide)] at q
  obtain ⟨a1, a2⟩ := inside_iff.mp h1
  have gh := I.x.g 0
  have W := I.w
  have n1 := W.b.nr
  have n2 := W.b.no
  have n4 := W.b.nh
  have cl := W.cl
  have lw := W.w.lw
  have ll := W.w.ll
  refine st_seq ?_
  simp only [ev3, ev, ev2, ev4, sl, eq1, exl, exists_and_left, and_assoc, true_and, at0, at1, at2, Int.toNat_natCast, List.length_cons, List.length_nil]
  refine ⟨by decide, fun z1 H1 x1 => ?_⟩
  have y1 := I.x.trans x1
  have gh1 := y1.g 1
  simp only [ev3, ev, ev2, ev4, sl, eq1, exl, exists_and_left, and_assoc, true_and, at0, at1, at2, Int.toNat_natCast, gh1, ev6, y1.g 2, zs_len, y1.g 0]
  refine ⟨by omega, by omega, fun c H2 x2 => ⟨by decide, fun t H3 x3 => ?_⟩⟩
  have y3 := (y1.trans x2).trans x3
  rw [zs_rep] at y3
  have y3 : Ext F H3 ((t, .tup [.ref c, .int 0]) :: (c, .lst (zs (List.replicate s.cells.length 1))) :: (z1, _) :: hE K r s) := y3
  simp only [ev3, ev, ev2, ev4, sl, eq1, exl, exists_and_left, and_assoc, true_and, at0, at1, at2, Int.toNat_natCast, y3.g 0, List.length_cons, List.length_nil]
  refine st_seq ?_
  simp only [ev3, ev, ev2, ev4, sl, eq1, exl, exists_and_left, and_assoc, true_and, at0, at1, at2, Int.toNat_natCast, List.length_cons, List.length_nil]
  refine ⟨by decide, fun z4 H4 x4 => ?_⟩
  have y4 := y3.trans x4
  have gh4 := y4.g 4
  simp only [ev3, ev, ev2, ev4, sl, eq1, exl, exists_and_left, and_assoc, true_and, at0, at1, at2, Int.toNat_natCast, gh4, ev6, y4.g 6, zs_len, y4.g 0]
  refine ⟨by omega, by omega, fun w5 H5 x5 => ⟨by decide, fun z6 H6 x6 => ?_⟩⟩
  have y6 := (y4.trans x5).trans x6
  have gh6 := y6.g 6
  simp only [ev3, ev, ev2, ev4, sl, eq1, exl, exists_and_left, and_assoc, true_and, at0, at1, at2, Int.toNat_natCast, gh6, ev6, y6.g 9, zs_len, nzs_len, y6.g 0]
  refine ⟨by omega, by omega, fun l7 H7 x7 => ?_⟩
  have y7 := y6.trans x7
  have e7 : zs (List.replicate s.lv.length (0 : Int)) = zs (nzs (List.replicate s.lv.length 0)) := by
    congr 1
    unfold nzs
    rw [List.map_replicate]
    rfl
  rw [zs_rep, zs_rep, e7] at y7
  have y7 := y7.pick [5, 0, 2, 7, 8, 9, 10, 11] (by decide)
  have y7 : Ext F H7 ((c, .lst (zs (List.replicate s.cells.length 1))) :: (l7, .lst (zs (nzs (List.replicate s.lv.length 0)))) :: (w5, .lst (zs (List.replicate s.wt.length 0))) :: hE K r s) := y7
  have WW : WfW s.b (List.replicate s.wt.length 0) (List.replicate s.lv.length 0) := ⟨by rw [List.length_replicate]; exact lw, by rw [List.length_replicate]; exact ll, fun t ht => by rw [List.eq_of_mem_replicate ht]; decide, fun t ht => by rw [List.eq_of_mem_replicate ht]; decide⟩
  have fits : SmL 40 (List.replicate s.cells.length (1 : Int)) := fun x hx => by
    rw [List.eq_of_mem_replicate hx]
    exact Sm.of_le (m := 1) (by decide) (by decide)
  have clr : (List.replicate s.cells.length (1 : Int)).length = s.b.rooms.length := by rw [List.length_replicate]; exact cl
  generalize List.replicate s.wt.length (0 : Int) = wt at *
  generalize List.replicate s.lv.length (0 : Nat) = lv at *
  generalize List.replicate s.cells.length (1 : Int) = cells at *
  have en : V.int (n + 1) = natV (n.toNat + 1) := by unfold natV; rw [show ((n.toNat + 1 : Nat) : Int) = n + 1 by omega]
  refine st_seq (forR (n := n.toNat + 1) (fun Q' q => by simp only [ev3, ev, ev2, ev4, sl, eq1, exl, exists_and_left, and_assoc, true_and, at0, at1, at2, Int.toNat_natCast]; rw [en]; exact q) (by omega)
    (fun i σ H' => ∃ (c : Addr) (v6 v7 v8 : Option V), σ = [some (.ref r.h), some (.int n), some (.ref c), some (natV (gonZ s.b wt lv i cells 0).2), some (.ref w5), some (.ref l7), v6, v7, v8] ∧
      Ext F H' ((c, .lst (zs (gonZ s.b wt lv i cells 0).1)) :: (l7, .lst (zs (nzs lv))) :: (w5, .lst (zs wt)) :: hE K r s) ∧ ∀ j < i, halfZ (gonZ s.b wt lv j cells 0).1 (gonZ s.b wt lv j cells 0).2 = false) ⟨c, _, _, _, rfl, y7, fun j hj => by omega⟩ ?_ ?_)
  · rintro i σ H8 hi ⟨c, v6, v7, v8, rfl, y, hno⟩
    obtain ⟨g1, g2, g3⟩ := gonZ_sm W.b WW fits (by decide : 0 + 17 ≤ 40) i
    have gh8 := y.g 3
    simp only [ev3, ev, ev2, ev4, sl, eq1, exl, exists_and_left, and_assoc, true_and, at0, at1, at2, Int.toNat_natCast]
    refine st_seq ?_
    simp only [ev3, ev, ev2, ev4, sl, eq1, exl, exists_and_left, and_assoc, true_and, at0, at1, at2, Int.toNat_natCast]
    refine lcL (xs := zs (gonZ s.b wt lv i cells 0).1) (fun j => .bl (decide (2 * (gonZ s.b wt lv i cells 0).1.getD j 0 ≤ 1 * 2 ^ (gonZ s.b wt lv i cells 0).2))) (fun R h => by simp only [ev3, ev, ev2, ev4, sl, eq1, exl, exists_and_left, and_assoc, true_and, at0, at1, at2, Int.toNat_natCast]; exact h _ _ (fun _ _ h => h) (y.g 0)) (by rw [zs_len]; omega) (fun j x H9 hx k9 R h => ?_) (fun D H9 x9 => ?_)
    · obtain ⟨hj, rfl⟩ := zs_get hx
      simp only [ev3, ev, ev2, ev4, sl, eq1, exl, exists_and_left, and_assoc, true_and, at0, at1, at2, Int.toNat_natCast, wp, List.map_cons, List.map_nil]
      exact ⟨mul_sm (n := 2) (Sm.of_le (m := 2) (by decide) (by decide)) (g1.getD j) (by omega), shl_sm (n := 1) (Sm.of_le (m := 1) (by decide) (by decide)) (by omega), h H9 fun _ _ h => h⟩
    rw [zs_len, mapI_bl (gonZ s.b wt lv i cells 0).1 fun x => decide (2 * x ≤ 1 * 2 ^ (gonZ s.b wt lv i cells 0).2)] at x9
    refine ⟨D, _, rfl, x9.g 0, _, rfl, ?_⟩
    rw [allI_map (gonZ s.b wt lv i cells 0).1 fun x => decide (2 * x ≤ 1 * 2 ^ (gonZ s.b wt lv i cells 0).2)]
    have y9 := y.on x9.keeps
    have eh : ((gonZ s.b wt lv i cells 0).1.all fun x => decide (2 * x ≤ 1 * 2 ^ (gonZ s.b wt lv i cells 0).2)) = halfZ (gonZ s.b wt lv i cells 0).1 (gonZ s.b wt lv i cells 0).2 := rfl
    rw [eh]
    cases hz : halfZ (gonZ s.b wt lv i cells 0).1 (gonZ s.b wt lv i cells 0).2 with
    | true =>
      rw [if_pos rfl]
      have e := first_some (ok := halfZ) (many := n.toNat) hi hz hno
      rw [e] at q
      simp only [ev3, ev, ev2, ev4, sl, eq1, exl, exists_and_left, and_assoc, true_and, at0, at1, at2, Int.toNat_natCast, List.length_cons, List.length_nil]
      refine ⟨by decide, fun u H6 x6 => ?_⟩
      exact q F H6 u r rfl (fun _ _ h => h) ((y9.trans x6).pick [0, 4, 5, 6, 7, 8] (by decide)) ⟨I.p, fun _ _ _ h => h⟩
    | false =>
      rw [if_neg (by decide)]
      have gh5 := y9.g 3
      simp only [ev3, ev, ev2, ev4, sl, eq1, exl, exists_and_left, and_assoc, true_and, at0, at1, at2, Int.toNat_natCast, gh5, ev6]
      refine ⟨r.p, c, w5, l7, _, wt, lv, _, _, s.b, rfl, I.p.mono y9.keeps, y9.g 0, y9.g 2, y9.g 1, W.b, WW, by omega, ⟨WW.warm, by omega, by omega, g1⟩, fun H6 t6 c6 o6 x6 => ?_⟩
      simp only [ev3, ev, ev2, ev4, sl, eq1, exl, exists_and_left, and_assoc, true_and, at0, at1, at2, Int.toNat_natCast, x6.g 0, List.length_cons, List.length_nil]
      have y6 := y9.trans x6
      rw [gonZ_one]
      refine ⟨rfl, y6.pick [1, 4, 5, 6, 7, 8, 9, 10] (by decide), fun j hj => ?_⟩
      by_cases h : j = i
      · rw [h]
        exact hz
      · exact hno j (by omega)
  rintro σ H4 ⟨c, v6, v7, v8, rfl, y, hno⟩
  simp only [ev3, ev, ev2, ev4, sl, eq1, exl, exists_and_left, and_assoc, true_and, at0, at1, at2, Int.toNat_natCast, List.length_cons, List.length_nil]
  refine ⟨by decide, fun u H6 x6 => ?_⟩
  have e := first_none (ok := halfZ) (many := n.toNat) hno
  rw [e] at q
  exact q F H6 u r rfl (fun _ _ h => h) ((y.trans x6).pick [0, 4, 5, 6, 7, 8] (by decide)) ⟨I.p, fun _ _ _ h => h⟩
end
end WR
end PartWh5
section PartWh6
set_option Elab.async false
set_option linter.all false
set_option maxRecDepth 100000
set_option maxHeartbeats 4000000
namespace WR
open PySem PySem.Spec PyProof.Rows L2 WH
section
variable {P : Program} {w : World} {K : PySem.W.Frag} {mg : Str → Option Value} {base : Heap}
def mostsZ (b : Vbbcab.Building) : List Int := b.heaters.map fun h => (h.most : Int)
def levAt (row mosts : List Int) (i : Nat) : Bool := Vbbcab.inside (row.getD i 0) 0 (mosts.getD i 0)
def levOk (row mosts : List Int) : Bool := (List.range (min row.length mosts.length)).all (levAt row mosts)
def boundZ (s : HS) (row : List Int) : Bool := decide (row.length = s.wt.length + s.lv.length) && ((row.take s.wt.length).all (fun x => Vbbcab.inside x (-100000) 100000) && levOk (row.drop s.wt.length) (mostsZ s.b))
theorem mosts_lc {K : PySem.W.Frag} {H : Hp} {p dx : Addr} {r : PR} {ra oa la ha : List Addr} {b : Vbbcab.Building} (A : PlanAt K H p dx r ra oa la ha b) {tl : TE} {n m k : Nat} {vs : List Nat} {σ : L2.St} {Q : VK}
    (hx : ∀ R : VK, R (.ref r.heaters) H → tl σ H R) (hb : b.heaters.length ≤ 100)
    (hw : ∀ (x y z : V), wipe ((((wipe σ vs).set n (some x)).set m (some y)).set k (some z)) vs = wipe σ vs) (hg : ∀ (x y z : V), ((((wipe σ vs).set n (some x)).set m (some y)).set k (some z))[k]? = some (some z))
    (q : ∀ D H', Ext H H' [(D, .lst (zs (mostsZ b)))] → Q (.ref D) H') : tLc (iList K tl) (nGTup 3 (gCons (gName n) (gCons (gName m) (gCons (gName k) gNil)))) tYes (tVar k) vs σ H Q := by
  refine lcL (xs := ha.map V.ref) (fun i => .int ((mostsZ b).getD i 0)) (fun R h => hx _ (h _ _ (fun _ _ h => h) A.hl)) (by rw [List.length_map, A.hs.1]; omega) (fun i x H1 hx k1 R h => ?_) (fun D H' x => ?_)
  · obtain ⟨a, ha', rfl⟩ := ref_at hx
    have hi : i < b.heaters.length := by
      rw [← A.hs.1]
      exact (List.getElem?_eq_some_iff.mp ha').1
    have hb : b.heaters[i]? = some b.heaters[i] := List.getElem?_eq_getElem hi
    have e : (mostsZ b).getD i 0 = (b.heaters[i].most : Int) := by
      unfold mostsZ
      rw [List.getD_eq_getElem?_getD, List.getElem?_map, hb]
      rfl
    rw [e] at h
    obtain ⟨na, h1, h2⟩ := A.hs.2 i a _ ha' hb
    refine ⟨a, _, rfl, k1 _ _ h1, rfl, _, _, rfl, _, _, rfl, _, _, rfl, rfl, hw _ _ _, ?_⟩
    exact ⟨_, hg _ _ _, h H1 fun _ _ h => h⟩
  · rw [List.length_map, A.hs.1] at x
    have e : (List.range b.heaters.length).map (fun i => V.int ((mostsZ b).getD i 0)) = zs (mostsZ b) := range_map_zs (by unfold mostsZ; rw [List.length_map]) fun _ _ => rfl
    rw [e] at x
    exact q D H' x
theorem rangeI_bl {n : Nat} (f : Nat → Bool) : (List.range n).map (fun i => V.bl (f i)) = ((List.range n).map f).map V.bl := by rw [List.map_map]; rfl
theorem range_all_id {n : Nat} (f : Nat → Bool) : ((List.range n).map f).all id = (List.range n).all f := by
  rw [List.all_map]
  rfl
def sp_House_is_bound (K : PySem.W.Frag) : Sp := fun vs H Q _ => ∃ (F : Hp) (r : HA) (s : HS) (o : Addr) (row : List Int), vs = [.ref r.h, .ref o] ∧ HI K F H r s ∧ H o = some (.lst (zs row)) ∧ row.length ≤ 1000 ∧ ∀ H', Keeps H H' → Q (.bl (boundZ s row)) H'
abbrev N_House_is_bound : List Str := ["self", "row", "many", "mosts", "name", "room", "most", "level", "number"]
theorem sc_House_is_bound : FnScope N_House_is_bound ["self", "row"] (defScope s_House_is_bound) := ⟨rfl, rfl, rfl, by decide +kernel, rfl, by decide +kernel, by decide +kernel⟩
theorem st_House_is_bound (x0 x1 : V) : start N_House_is_bound [x0, x1] = [some x0, some x1, none, none, none, none, none, none, none] := rfl
theorem ok_House_is_bound (e : Env K mg) : Ok P w K mg base 2 (He.ma K (He.ga K "House") "is_bound") ["self", "row"] (sp_House_is_bound K) := by
  refine ok_of e.fun_House_is_bound sc_House_is_bound (fun _ _ _ _ _ _ us hl => match us, hl with | [_, _], _ => rfl) (by rintro _ _ _ _ ⟨F, r, s, o, row, rfl, I, ho, hr', q⟩; rfl) ?_
  intro cdv A outer s0 H vs Q E hr hsp
  have sc := sc_House_is_bound
  have hu := hu_of hr
  have G_is_warmth := ok_is_warmth (P := P) (w := w) (base := base) e
  refine ⟨_, (pss_cons (ps_set (i := 2) sc.nd rfl (Or.inl rfl) (pe_callB len_listN (by rfl) e.f_len bt_len (pa_cons (pe_at e.c_House e.n_House_weather (pv 0)) pa_nil)))
    (pss_cons (ps_if (PW.pt (pw_or (pt_cmpR op_neN (pe_callB len_listN (by rfl) e.f_len bt_len (pa_cons (pv 1) pa_nil)) (pe_op op_add (pv 2) (pe_callB len_listN (by rfl) e.f_len bt_len (pa_cons (pe_at e.c_House e.n_House_levels (pv 0)) pa_nil))) (nomark _)) (pw_or1 (pt_not (pt_val (pe_callB (allN rfl) (by rfl) e.f_all bt_all (pa_cons (pe_lc (own := [("number", 8)]) rfl sc.nd (pi_list (pe_slice sl_listN (pv 1) po_none (po_some (pv 2)))) (blkOk_by (own := [("number", 8)]) (N := N_House_is_bound) (sc := defScope s_House_is_bound) (by decide +kernel)) (fun _ _ _ _ _ => (pg_name (i := 8) sc.nd rfl (Or.inl rfl) (Or.inr rfl))) (fun _ _ _ _ _ => pts_nil) (fun _ _ _ _ _ => (pe_callE G_is_warmth (hr.mono (by decide)) e.g_is_warmth (pa_cons (pv 8) pa_nil)))) pa_nil)))))))
    (pss_one (ps_ret pe_bl))
    pss_nil)
    (pss_cons (ps_setLc (i := 3) (own := [("name", 4), ("room", 5), ("most", 6)]) rfl sc.nd rfl rfl (sw_true rfl rfl rfl (by decide +kernel)) (pi_list (pe_at e.c_Plan e.n_Plan_heaters (pe_at e.c_House e.n_House_plan (pv 0)))) (blkOk_by (own := [("name", 4), ("room", 5), ("most", 6)]) (N := N_House_is_bound) (sc := defScope s_House_is_bound) (by decide +kernel)) (fun _ _ _ _ _ => (pg_tupN (n := 3) rfl (pgs_cons (pg_name (i := 4) sc.nd rfl (Or.inl rfl) (Or.inr rfl)) (pgs_cons (pg_name (i := 5) sc.nd rfl (Or.inl rfl) (Or.inr rfl)) (pgs_cons (pg_name (i := 6) sc.nd rfl (Or.inl rfl) (Or.inr rfl)) pgs_nil))))) (fun _ _ _ _ _ => pts_nil) (fun _ _ _ _ _ => (pv 6)))
    (pss_one (ps_ret (pe_callB (allN rfl) (by rfl) e.f_all bt_all (pa_cons (pe_lc (own := [("level", 7), ("most", 6)]) rfl sc.nd (pi_zip (by rfl) e.f_zip (pa_cons (pe_slice sl_listN (pv 1) (po_some (pv 2)) po_none) (pa_cons (pv 3) pa_nil))) (blkOk_by (own := [("level", 7), ("most", 6)]) (N := N_House_is_bound) (sc := defScope s_House_is_bound) (by decide +kernel)) (fun _ _ _ _ _ => (pg_tupN (n := 2) rfl (pgs_cons (pg_name (i := 7) sc.nd rfl (Or.inl rfl) (Or.inr rfl)) (pgs_cons (pg_name (i := 6) sc.nd rfl (Or.inl rfl) (Or.inr rfl)) pgs_nil)))) (fun _ _ _ _ _ => pts_nil) (fun _ _ _ _ _ => (pe_chain op_le op_le pe_int (pv 7) (pv 6)))) pa_nil))))))), ?_⟩
  obtain ⟨F, r, s, o, row, rfl, I, ho, hr', q⟩ := hsp
  rw [st_House_is_bound]
  have gh := I.x.g 0
  have W := I.w
  have n4 := W.b.nh
  have lw := W.w.lw
  have ll := W.w.ll
  have PA := I.pl
  obtain ⟨dx, pr, ra, oa, la, ha, A⟩ := PA
  unfold boundZ at q
  refine st_seq ?_
  simp only [ev3, ev, ev2, ev4, sl, eq1, exl, exists_and_left, and_assoc, true_and, at0, at1, at2, Int.toNat_natCast, gh, ev6, I.x.g 2, zs_len]
  refine st_cut (fun σ H1 => ∃ v3 v4 v5 v6 v7 v8, σ = [some (.ref r.h), some (.ref o), some (natV s.wt.length), v3, v4, v5, v6, v7, v8] ∧ Keeps H H1 ∧ row.length = s.wt.length + s.lv.length ∧ ((row.take s.wt.length).all (fun x => Vbbcab.inside x (-100000) 100000)) = true) (fun U hU => ?_) ?_
  · simp only [ev3, ev, ev2, ev4, sl, eq1, exl, exists_and_left, and_assoc, true_and, at0, at1, at2, Int.toNat_natCast, gh, ev6, I.x.g 3, ho, zs_len, nzs_len]
    by_cases h1 : row.length = s.wt.length + s.lv.length
    · rw [if_neg (by rw [decide_eq_true (by omega)]; decide)]
      refine lcL (xs := zs (row.take s.wt.length)) (fun i => .bl (Vbbcab.inside ((row.take s.wt.length).getD i 0) (-100000) 100000)) (fun R h => by simp only [ev3, ev, ev2, ev4, sl, eq1, exl, exists_and_left, and_assoc, true_and, at0, at1, at2, Int.toNat_natCast, ho, cut_to]; exact fun p H1 x1 => h p H1 x1.keeps (x1.g 0)) (by rw [zs_len, List.length_take]; omega) (fun i x H1 hx k1 R h => ?_) (fun D H1 x1 => ?_)
      · obtain ⟨hi, rfl⟩ := zs_get hx
        simp only [ev3, ev, ev2, ev4, sl, eq1, exl, exists_and_left, and_assoc, true_and, at0, at1, at2, Int.toNat_natCast, wp, List.map_cons, List.map_nil]
        exact ⟨_, rfl, h H1 fun _ _ h => h⟩
      · rw [zs_len, mapI_bl (row.take s.wt.length) fun x => Vbbcab.inside x (-100000) 100000] at x1
        refine ⟨D, _, rfl, x1.g 0, _, rfl, ?_⟩
        rw [allI_map (row.take s.wt.length) fun x => Vbbcab.inside x (-100000) 100000]
        cases ha : (row.take s.wt.length).all fun x => Vbbcab.inside x (-100000) 100000 with
        | true => 
          rw [if_neg (by decide)]
          exact hU _ _ ⟨_, _, _, _, _, _, rfl, x1.keeps, h1, ha⟩
        | false =>
          rw [if_pos (by decide)]
          rw [ha, Bool.false_and, Bool.and_false] at q
          exact q H1 x1.keeps
    · rw [if_pos (by rw [decide_eq_false (by omega)]; decide), if_pos trivial]
      rw [decide_eq_false h1, Bool.false_and] at q
      exact q H fun _ _ h => h
  rintro σ H1 ⟨v3, v4, v5, v6, v7, v8, rfl, k1, h1, h2⟩
  rw [decide_eq_true h1, h2, Bool.true_and, Bool.true_and] at q
  refine st_seq ?_
  simp only [ev3, ev, ev2, ev4, sl, eq1, exl, exists_and_left, and_assoc, true_and, at0, at1, at2, Int.toNat_natCast]
  have I1 := I.on k1
  have gh1 := I1.x.g 0
  refine mosts_lc (A.mono k1) (fun R h => by simp only [ev3, ev, ev2, ev4, sl, eq1, exl, exists_and_left, and_assoc, true_and, at0, at1, at2, Int.toNat_natCast, gh1, ev6, k1 _ _ A.ob]; exact h) (by omega) (fun _ _ _ => rfl) (fun _ _ _ => rfl) fun m H2 x2 => ?_
  have k2 := k1.trans x2.keeps
  have ml : (mostsZ s.b).length = s.b.heaters.length := by unfold mostsZ; rw [List.length_map]
  refine lcZ (xs := zs (row.drop s.wt.length)) (ys := zs (mostsZ s.b)) (fun i => .bl (levAt (row.drop s.wt.length) (mostsZ s.b) i)) (fun R h => by
    simp only [ev3, ev, ev2, ev4, sl, eq1, exl, exists_and_left, and_assoc, true_and, at0, at1, at2, Int.toNat_natCast, k2 _ _ ho]
    intro p H3 x3
    rw [cut_from (by omega)] at x3
    exact h p m H3 x3.keeps (x3.g 0) (x3.k (x2.g 0))) (by rw [zs_len, List.length_drop]; omega) (fun j x y T H3 hx hy k3 hT R h => ?_) (fun D H3 x3 => ?_)
  · obtain ⟨i1, rfl⟩ := zs_get hx
    obtain ⟨i2, rfl⟩ := zs_get hy
    simp only [ev3, ev, ev2, ev4, sl, eq1, exl, exists_and_left, and_assoc, true_and, at0, at1, at2, Int.toNat_natCast, wp, List.map_cons, List.map_nil, hT, List.length_cons, List.length_nil]
    exact in_ite (P := fun c => R (.bl c) H3) (h H3 fun _ _ h => h)
  · rw [zs_len, zs_len, rangeI_bl] at x3
    refine ⟨D, _, rfl, x3.g 0, ?_⟩
    rw [range_all_id]
    exact q H3 (k2.trans x3.keeps)
def leZ (lo hi : List Int) : Bool := (List.range (min lo.length hi.length)).all fun i => decide (lo.getD i 0 ≤ hi.getD i 0)
/-- a row's weather and levels -/
def rowW (s : HS) (row : List Int) : List Int := row.take s.wt.length
def rowL (s : HS) (row : List Int) : List Nat := (row.drop s.wt.length).map Int.toNat
def goneOn (s : HS) (row : List Int) (n : Nat) : List Int × Nat := gonZ s.b (rowW s row) (rowL s row) n s.cells s.shift
def pairM (a c : List Int) (p : Nat) (i : Nat) : List Int := [Vbbcab.micro (Vbbcab.shave p (a.getD i 0)), Vbbcab.micro (Vbbcab.shave p (c.getD i 0))]
def bracketH (s : HS) (n : Int) (lo hi : List Int) : HS × List Int := (s, if Vbbcab.inside n 0 1000 = false ∨ boundZ s lo = false ∨ boundZ s hi = false ∨ leZ lo hi = false then [-2] else
  [0] ++ (List.range s.cells.length).flatMap (pairM (goneOn s lo n.toNat).1 (goneOn s hi n.toNat).1 (goneOn s hi n.toNat).2))
theorem bound_wf {s : HS} (W : WfS s) {row : List Int} (h : boundZ s row = true) : WfW s.b (rowW s row) (rowL s row) ∧ zs (row.drop s.wt.length) = zs (nzs (rowL s row)) ∧ s.wt.length ≤ row.length := by
  unfold boundZ at h
  rw [Bool.and_eq_true, Bool.and_eq_true, decide_eq_true_eq] at h
  obtain ⟨h1, h2, h3⟩ := h
  have lw := W.w.lw
  have ll := W.w.ll
  have ml : (mostsZ s.b).length = s.b.heaters.length := by unfold mostsZ; rw [List.length_map]
  have lev : ∀ i < (row.drop s.wt.length).length, 0 ≤ (row.drop s.wt.length).getD i 0 ∧ (row.drop s.wt.length).getD i 0 ≤ 1000000 := fun i hi => by
    have hd : (row.drop s.wt.length).length = s.b.heaters.length := by rw [List.length_drop]; omega
    have := List.all_eq_true.mp h3 i (List.mem_range.mpr (by omega))
    obtain ⟨a1, a2⟩ := inside_iff.mp this
    have hb : s.b.heaters[i]? = some s.b.heaters[i] := List.getElem?_eq_getElem (by omega)
    have e : (mostsZ s.b).getD i 0 = (s.b.heaters[i].most : Int) := by
      unfold mostsZ
      rw [List.getD_eq_getElem?_getD, List.getElem?_map, hb]
      rfl
    have := W.b.most _ (List.getElem_mem (by omega : i < s.b.heaters.length))
    omega
  have mem : ∀ x ∈ row.drop s.wt.length, 0 ≤ x ∧ x ≤ 1000000 := fun x hx => by
    obtain ⟨i, hi, rfl⟩ := List.getElem_of_mem hx
    have := lev i hi
    rw [List.getD_eq_getElem?_getD, List.getElem?_eq_getElem hi] at this
    exact this
  refine ⟨⟨?_, ?_, fun t ht => ?_, fun n hn => ?_⟩, ?_, by omega⟩
  · unfold rowW
    rw [List.length_take]
    omega
  · unfold rowL
    rw [List.length_map, List.length_drop]
    omega
  · obtain ⟨a1, a2⟩ := inside_iff.mp (List.all_eq_true.mp h2 t ht)
    omega
  · obtain ⟨x, hx, rfl⟩ := List.mem_map.mp hn
    have := mem x hx
    omega
  · congr 1
    unfold nzs rowL
    rw [List.map_map]
    have e : ((fun n : Nat => (n : Int)) ∘ Int.toNat) = fun x : Int => ((x.toNat : Nat) : Int) := rfl
    rw [e]
    have := List.map_congr_left (f := fun x : Int => ((x.toNat : Nat) : Int)) (g := fun x => x) (l := row.drop s.wt.length) fun x hx => by
      have := mem x hx
      show ((x.toNat : Nat) : Int) = x
      omega
    rw [this, List.map_id']
theorem cutT {row : List Int} {n : Nat} : cutV (zs row) none (some (n : Int)) = zs (row.take n) := cut_to
def sp_House_bracket (K : PySem.W.Frag) : Sp := fun vs H Q _ => ∃ (F : Hp) (r : HA) (s : HS) (n : Int) (a c : Addr) (lo hi : List Int), vs = [.ref r.h, .int n, .ref a, .ref c] ∧ HI K F H r s ∧ H a = some (.lst (zs lo)) ∧ H c = some (.lst (zs hi)) ∧ lo.length ≤ 1000 ∧ hi.length ≤ 1000 ∧ AnsM K F r s s (bracketH s n lo hi).2 Q
abbrev N_House_bracket : List Str := ["self", "many", "lower", "upper", "low", "high", "cut", "first", "power", "second", "found"]
theorem sc_House_bracket : FnScope N_House_bracket ["self", "many", "lower", "upper"] (defScope s_House_bracket) := ⟨rfl, rfl, rfl, by decide +kernel, rfl, by decide +kernel, by decide +kernel⟩
theorem st_House_bracket (x0 x1 x2 x3 : V) : start N_House_bracket [x0, x1, x2, x3] = [some x0, some x1, some x2, some x3, none, none, none, none, none, none, none] := rfl
theorem ok_House_bracket (e : Env K mg) : Ok P w K mg base 6 (He.ma K (He.ga K "House") "bracket") ["self", "many", "lower", "upper"] (sp_House_bracket K) := by
  refine ok_of e.fun_House_bracket sc_House_bracket (fun _ _ _ _ _ _ us hl => match us, hl with | [_, _, _, _], _ => rfl) (by rintro _ _ _ _ ⟨F, r, s, n, a, c, lo, hi, rfl, I, hlo, hhi, nlo, nhi, q⟩; rfl) ?_
  intro cdv A outer s0 H vs Q E hr hsp
  have sc := sc_House_bracket
  have hu := hu_of hr
  have G_House_is_bound := ok_House_is_bound (P := P) (w := w) (base := base) e
  have G_gone_on := ok_gone_on (P := P) (w := w) (base := base) e
  have G_millionths := ok_millionths (P := P) (w := w) (base := base) e
  refine ⟨_, (pss_cons (ps_if (PW.pt (pw_or (pt_not (pt_chain op_le op_le pe_int (pv 1) (pe_gint e.i_MOST_STEPS))) (pw_or (pt_not (pt_val (pe_methE (pv 0) e.c_House e.m_House_is_bound G_House_is_bound (hr.mono (by decide)) (pa_cons (pv 2) pa_nil)))) (pw_or1 (pt_not (pt_val (pe_methE (pv 0) e.c_House e.m_House_is_bound G_House_is_bound (hr.mono (by decide)) (pa_cons (pv 3) pa_nil))))))))
    (pss_one (ps_ret (pe_lstN (pa_cons (pe_un un_neg pe_int) pa_nil))))
    pss_nil)
    (pss_cons (ps_if (pt_not (pt_val (pe_callB (allN rfl) (by rfl) e.f_all bt_all (pa_cons (pe_lc (own := [("low", 4), ("high", 5)]) rfl sc.nd (pi_zip (by rfl) e.f_zip (pa_cons (pv 2) (pa_cons (pv 3) pa_nil))) (blkOk_by (own := [("low", 4), ("high", 5)]) (N := N_House_bracket) (sc := defScope s_House_bracket) (by decide +kernel)) (fun _ _ _ _ _ => (pg_tupN (n := 2) rfl (pgs_cons (pg_name (i := 4) sc.nd rfl (Or.inl rfl) (Or.inr rfl)) (pgs_cons (pg_name (i := 5) sc.nd rfl (Or.inl rfl) (Or.inr rfl)) pgs_nil)))) (fun _ _ _ _ _ => pts_nil) (fun _ _ _ _ _ => (pe_cmpR op_le (pv 4) (pv 5) (nomark _)))) pa_nil))))
    (pss_one (ps_ret (pe_lstN (pa_cons (pe_un un_neg pe_int) pa_nil))))
    pss_nil)
    (pss_cons (ps_set (i := 6) sc.nd rfl (Or.inl rfl) (pe_callB len_listN (by rfl) e.f_len bt_len (pa_cons (pe_at e.c_House e.n_House_weather (pv 0)) pa_nil)))
    (pss_cons (ps_asg (pe_callE G_gone_on (hr.mono (by decide)) e.g_gone_on (pa_cons (pe_at e.c_House e.n_House_plan (pv 0)) (pa_cons (pe_at e.c_House e.n_House_cells (pv 0)) (pa_cons (pe_at e.c_House e.n_House_shift (pv 0)) (pa_cons (pe_slice sl_listN (pv 2) po_none (po_some (pv 6))) (pa_cons (pe_slice sl_listN (pv 2) (po_some (pv 6)) po_none) (pa_cons (pv 1) pa_nil))))))) (pg_tupN (n := 2) rfl (pgs_cons (pg_name (i := 7) sc.nd rfl (Or.inl rfl)) (pgs_cons (pg_name (i := 8) sc.nd rfl (Or.inl rfl)) pgs_nil))))
    (pss_cons (ps_asg (pe_callE G_gone_on (hr.mono (by decide)) e.g_gone_on (pa_cons (pe_at e.c_House e.n_House_plan (pv 0)) (pa_cons (pe_at e.c_House e.n_House_cells (pv 0)) (pa_cons (pe_at e.c_House e.n_House_shift (pv 0)) (pa_cons (pe_slice sl_listN (pv 3) po_none (po_some (pv 6))) (pa_cons (pe_slice sl_listN (pv 3) (po_some (pv 6)) po_none) (pa_cons (pv 1) pa_nil))))))) (pg_tupN (n := 2) rfl (pgs_cons (pg_name (i := 9) sc.nd rfl (Or.inl rfl)) (pgs_cons (pg_name (i := 8) sc.nd rfl (Or.inl rfl)) pgs_nil))))
    (pss_cons (ps_set (i := 10) sc.nd rfl (Or.inl rfl) (pe_lstN (pa_cons pe_int pa_nil)))
    (pss_cons (ps_for PassesOwn.never rfl (pi_zip (by rfl) e.f_zip (pa_cons (pv 7) (pa_cons (pv 9) pa_nil))) (pg_tupN (n := 2) rfl (pgs_cons (pg_name (i := 4) sc.nd rfl (Or.inl rfl)) (pgs_cons (pg_name (i := 5) sc.nd rfl (Or.inl rfl)) pgs_nil)))
    (pss_one (ps_expr (pe_extLN (pv 10) (pa_cons (pe_lstN (pa_cons (pe_callE G_millionths (hr.mono (by decide)) e.g_millionths (pa_cons (pv 4) (pa_cons (pv 8) pa_nil))) (pa_cons (pe_callE G_millionths (hr.mono (by decide)) e.g_millionths (pa_cons (pv 5) (pa_cons (pv 8) pa_nil))) pa_nil))) pa_nil)))))
    (pss_one (ps_ret (pv 10)))))))))), ?_⟩
  obtain ⟨F, r, s, n, a, c, lo, hi, rfl, I, hlo, hhi, nlo, nhi, q⟩ := hsp
  rw [st_House_bracket]
  unfold bracketH at q
  have gh := I.x.g 0
  have W := I.w
  have n1 := W.b.nr
  have ck := W.ck
  have sh := W.sh
  have cl := W.cl
  have bad : (Vbbcab.inside n 0 1000 = false ∨ boundZ s lo = false ∨ boundZ s hi = false ∨ leZ lo hi = false) → ∀ H', Keeps H H' → [V.int (-2)].length ≤ sizeLine ∧ ∀ (p : Addr) (H'' : Hp), Ext H' H'' [(p, .lst [V.int (-2)])] → Q (.ref p) H'' := fun h H' k => ⟨sz1, fun u H1 x => by
    rw [if_pos h] at q
    exact q.stay (I.on k) x⟩
  refine st_cut (fun σ H1 => σ = [some (.ref r.h), some (.int n), some (.ref a), some (.ref c), none, none, none, none, none, none, none] ∧ Keeps H H1 ∧ Vbbcab.inside n 0 1000 = true ∧ boundZ s lo = true ∧ boundZ s hi = true) (fun U hU => ?_) ?_
  · simp only [ev3, ev, ev2, ev4, sl, eq1, exl, exists_and_left, and_assoc, true_and, at0, at1, at2, Int.toNat_natCast]
    refine in_or (fun h1 => bad (.inl h1) H fun _ _ h => h) (fun h1 => ?_)
    simp only [ev3, ev, ev2, ev4, sl, eq1, exl, exists_and_left, and_assoc, true_and, at0, at1, at2, Int.toNat_natCast, gh]
    refine ⟨hF_no r s, F, r, s, a, lo, rfl, I, hlo, nlo, fun H1 k1 => ⟨_, rfl, ?_⟩⟩
    cases h2 : boundZ s lo with
    | false =>
      rw [if_pos (by decide), if_pos trivial]
      exact bad (.inr (.inl h2)) H1 k1
    | true =>
    rw [if_neg (by decide)]
    have I1 := I.on k1
    have gh1 := I1.x.g 0
    simp only [ev3, ev, ev2, ev4, sl, eq1, exl, exists_and_left, and_assoc, true_and, at0, at1, at2, Int.toNat_natCast, gh1]
    refine ⟨hF_no r s, F, r, s, c, hi, rfl, I1, k1 _ _ hhi, nhi, fun H2 k2 => ⟨_, rfl, ?_⟩⟩
    cases h3 : boundZ s hi with
    | false =>
      rw [if_pos (by decide)]
      exact bad (.inr (.inr (.inl h3))) H2 (k1.trans k2)
    | true =>
    rw [if_neg (by decide)]
    exact hU _ _ ⟨rfl, k1.trans k2, h1, h2, h3⟩
  rintro σ H1 ⟨rfl, k1, h1, h2, h3⟩
  obtain ⟨a1, a2⟩ := inside_iff.mp h1
  refine st_cut (fun σ H2 => σ = [some (.ref r.h), some (.int n), some (.ref a), some (.ref c), none, none, none, none, none, none, none] ∧ Keeps H H2 ∧ leZ lo hi = true) (fun U hU => ?_) ?_
  · simp only [ev3, ev, ev2, ev4, sl, eq1, exl, exists_and_left, and_assoc, true_and, at0, at1, at2, Int.toNat_natCast]
    refine lcZ (xs := zs lo) (ys := zs hi) (fun i => .bl (decide (lo.getD i 0 ≤ hi.getD i 0))) (fun R h => by simp only [ev3, ev, ev2, ev4, sl, eq1, exl, exists_and_left, and_assoc, true_and, at0, at1, at2, Int.toNat_natCast]; exact h _ _ _ (fun _ _ h => h) (k1 _ _ hlo) (k1 _ _ hhi)) (by rw [zs_len]; omega) (fun j x y T H3 hx hy k3 hT R h => ?_) (fun D H3 x3 => ?_)
    · obtain ⟨i1, rfl⟩ := zs_get hx
      obtain ⟨i2, rfl⟩ := zs_get hy
      simp only [ev3, ev, ev2, ev4, sl, eq1, exl, exists_and_left, and_assoc, true_and, at0, at1, at2, Int.toNat_natCast, wp, List.map_cons, List.map_nil, hT, List.length_cons, List.length_nil]
      exact h H3 fun _ _ h => h
    · rw [zs_len, zs_len, rangeI_bl] at x3
      refine ⟨D, _, rfl, x3.g 0, _, rfl, ?_⟩
      rw [range_all_id]
      have el : (List.range (min lo.length hi.length)).all (fun i => decide (lo.getD i 0 ≤ hi.getD i 0)) = leZ lo hi := rfl
      rw [el]
      cases h4 : leZ lo hi with
      | false =>
        rw [if_pos (by decide)]
        exact bad (.inr (.inr (.inr h4))) H3 (k1.trans x3.keeps)
      | true =>
        rw [if_neg (by decide)]
        exact hU _ _ ⟨rfl, k1.trans x3.keeps, h4⟩
  rintro σ H2 ⟨rfl, k2, h4⟩
  rw [if_neg (by rw [h1, h2, h3, h4]; decide)] at q
  have I2 := I.on k2
  have gh2 := I2.x.g 0
  refine st_seq ?_
  simp only [ev3, ev, ev2, ev4, sl, eq1, exl, exists_and_left, and_assoc, true_and, at0, at1, at2, Int.toNat_natCast, gh2, ev6, I2.x.g 2, zs_len]
  obtain ⟨w1, z1, l1⟩ := bound_wf W h2
  obtain ⟨w2, z2, l2⟩ := bound_wf W h3
  have en : V.int n = natV n.toNat := by unfold natV; rw [show ((n.toNat : Nat) : Int) = n by omega]
  rw [en]
  have PA := I2.pl
  refine st_seq ?_
  simp only [ev3, ev, ev2, ev4, sl, eq1, exl, exists_and_left, and_assoc, true_and, at0, at1, at2, Int.toNat_natCast, gh2, ev6, k2 _ _ hlo, cutT]
  intro t3 H3 x3
  simp only [ev3, ev, ev2, ev4, sl, eq1, exl, exists_and_left, and_assoc, true_and, at0, at1, at2, Int.toNat_natCast, x3.k (k2 _ _ hlo)]
  intro t4 H4 x4
  rw [cut_from l1, z1] at x4
  have x34 := x3.trans x4
  refine ⟨r.p, r.c, t3, t4, s.cells, rowW s lo, rowL s lo, s.shift, 40 + 37 * s.clock, n.toNat, s.b, rfl, PA.mono x34.keeps, x34.k (I2.x.g 1), x34.g 1, x34.g 0, W.b, w1, cl, W.cs, by omega, by omega, fun H5 t5 f5 x5 => ?_⟩
  simp only [ev3, ev, ev2, ev4, sl, eq1, exl, exists_and_left, and_assoc, true_and, at0, at1, at2, Int.toNat_natCast, x5.g 0, List.length_cons, List.length_nil]
  have I5 := (I2.on x34.keeps).on x5.keeps
  have gh5 := I5.x.g 0
  have k5 : Keeps H H5 := (k2.trans x34.keeps).trans x5.keeps
  have f5g := x5.g 1
  refine st_seq ?_
  simp only [ev3, ev, ev2, ev4, sl, eq1, exl, exists_and_left, and_assoc, true_and, at0, at1, at2, Int.toNat_natCast, gh5, ev6, k5 _ _ hhi, cutT]
  intro t6 H6 x6
  simp only [ev3, ev, ev2, ev4, sl, eq1, exl, exists_and_left, and_assoc, true_and, at0, at1, at2, Int.toNat_natCast, x6.k (k5 _ _ hhi)]
  intro t7 H7 x7
  rw [cut_from l2, z2] at x7
  have x67 := x6.trans x7
  refine ⟨r.p, r.c, t6, t7, s.cells, rowW s hi, rowL s hi, s.shift, 40 + 37 * s.clock, n.toNat, s.b, rfl, I5.pl.mono x67.keeps, x67.k (I5.x.g 1), x67.g 1, x67.g 0, W.b, w2, cl, W.cs, by omega, by omega, fun H8 t8 f8 x8 => ?_⟩
  simp only [ev3, ev, ev2, ev4, sl, eq1, exl, exists_and_left, and_assoc, true_and, at0, at1, at2, Int.toNat_natCast, x8.g 0, List.length_cons, List.length_nil]
  have I8 := (I5.on x67.keeps).on x8.keeps
  have Y := ((((I2.x.trans x34).trans x5).trans x67).trans x8).pick [1, 5, 8, 9, 10, 11, 12] (by decide)
  have Y : Ext F H8 ((f8, .lst (zs (goneOn s hi n.toNat).1)) :: (f5, .lst (zs (goneOn s lo n.toNat).1)) :: hE K r s) := Y
  have g5 := gonZ_sm W.b w1 W.cs (by omega : s.shift + 17 ≤ 40 + 37 * s.clock) n.toNat
  have g8 := gonZ_sm W.b w2 W.cs (by omega : s.shift + 17 ≤ 40 + 37 * s.clock) n.toNat
  have g5 : SmL (40 + 37 * s.clock + 37 * n.toNat) (goneOn s lo n.toNat).1 ∧ _ ∧ (goneOn s lo n.toNat).1.length = s.cells.length := g5
  have g8 : SmL (40 + 37 * s.clock + 37 * n.toNat) (goneOn s hi n.toNat).1 ∧ _ ∧ (goneOn s hi n.toNat).1.length = s.cells.length := g8
  have e8 : gonZ s.b (rowW s hi) (rowL s hi) n.toNat s.cells s.shift = goneOn s hi n.toNat := rfl
  rw [e8]
  generalize goneOn s lo n.toNat = P at *
  generalize goneOn s hi n.toNat = R at *
  refine st_seq ?_
  simp only [ev3, ev, ev2, ev4, sl, eq1, exl, exists_and_left, and_assoc, true_and, at0, at1, at2, Int.toNat_natCast, List.length_cons, List.length_nil]
  refine ⟨by decide, fun f H9 x9 => ?_⟩
  have y9 : Ext F H9 ((f, .lst (zs ([0] ++ ((List.range s.cells.length).take 0).flatMap (pairM P.1 R.1 R.2)))) :: (f8, .lst (zs R.1)) :: (f5, .lst (zs P.1)) :: hE K r s) := Y.trans x9
  refine st_seq (forZ (a := f5) (b := f8) (xs := zs P.1) (ys := zs R.1) (fun R h => by simp only [ev3, ev, ev2, ev4, sl, eq1, exl, exists_and_left, and_assoc, true_and, at0, at1, at2, Int.toNat_natCast]; exact h) (y9.g 2) (y9.g 1) (by rw [zs_len, zs_len, g5.2.2, g8.2.2])
    (fun i σ H' => ∃ v4 v5, σ = [some (.ref r.h), some (natV n.toNat), some (.ref a), some (.ref c), v4, v5, some (.int (s.wt.length : Int)), some (.ref f5), some (natV R.2), some (.ref f8), some (.ref f)] ∧
      Ext F H' ((f, .lst (zs ([0] ++ ((List.range s.cells.length).take i).flatMap (pairM P.1 R.1 R.2)))) :: (f8, .lst (zs R.1)) :: (f5, .lst (zs P.1)) :: hE K r s)) ⟨_, _, rfl, y9⟩ (fun i σ H' ⟨_, _, _, y⟩ => ⟨y.g 2, y.g 1⟩) ?_ ?_)
  · rintro i x y T σ H10 H11 hx hy ⟨v4, v5, rfl, z⟩ xT
    obtain ⟨i1, rfl⟩ := zs_get hx
    obtain ⟨i2, rfl⟩ := zs_get hy
    have hi : i < s.cells.length := by omega
    have snoc : [0] ++ ((List.range s.cells.length).take (i + 1)).flatMap (pairM P.1 R.1 R.2) = ([0] ++ ((List.range s.cells.length).take i).flatMap (pairM P.1 R.1 R.2)) ++ pairM P.1 R.1 R.2 i := by
      rw [take_snoc (List.getElem?_range hi), List.flatMap_append, List.flatMap_cons, List.flatMap_nil, List.append_nil, List.append_assoc]
    have fl := flatI_len (f := pairM P.1 R.1 R.2) (k := 2) (l := (List.range s.cells.length).take i) fun x _ => Nat.le_refl 2
    have hl2 : ((List.range s.cells.length).take i).length ≤ 12 := by rw [List.length_take, List.length_range]; omega
    rw [snoc]
    have len : ([0] ++ ((List.range s.cells.length).take i).flatMap (pairM P.1 R.1 R.2)).length ≤ 100 := by rw [List.length_append, List.length_singleton]; omega
    generalize [0] ++ ((List.range s.cells.length).take i).flatMap (pairM P.1 R.1 R.2) = S at *
    unfold pairM
    have zT := z.trans xT
    simp only [ev3, ev, ev2, ev4, sl, eq1, exl, exists_and_left, and_assoc, true_and, at0, at1, at2, Int.toNat_natCast, zT.g 0, zT.g 1, List.length_cons, List.length_nil]
    refine ⟨_, R.2, _, rfl, g5.1.getD i, by omega, ?_⟩
    refine ⟨_, R.2, _, rfl, g8.1.getD i, by omega, ?_⟩
    refine ⟨by decide, fun u H12 x12 => ?_⟩
    have z12 := zT.trans x12
    refine ⟨_, z12.g 0, _, z12.g 2, size_ok (by simp only [zs_len, List.length_cons, List.length_nil]; omega), fun H13 pt => ?_⟩
    have z13 := z12.put 2 rfl pt
    rw [zs_app]
    exact z13.pick [2, 3, 4, 5, 6, 7, 8, 9] (by decide)
  rintro σ H10 ⟨v4, v5, rfl, z⟩
  rw [zs_len, g5.2.2, List.take_of_length_le (by rw [List.length_range]; omega)] at z
  simp only [ev3, ev, ev2, ev4, sl, eq1, exl, exists_and_left, and_assoc, true_and, at0, at1, at2, Int.toNat_natCast]
  exact q F H10 f r rfl (fun _ _ h => h) (z.pick [0, 3, 4, 5, 6, 7] (by decide)) ⟨I.p, fun _ _ _ h => h⟩
end
end WR
end PartWh6
section PartWh7
set_option Elab.async false
set_option linter.all false
set_option maxRecDepth 100000
set_option maxHeartbeats 4000000
namespace WR
open PySem PySem.Spec PyProof.Rows L2 WH
section
variable {P : Program} {w : World} {K : PySem.W.Frag} {mg : Str → Option Value} {base : Heap}
def mostsN (b : Vbbcab.Building) : List Nat := b.heaters.map fun h => h.most
theorem mostsN_z (b : Vbbcab.Building) : mostsZ b = nzs (mostsN b) := by
  unfold mostsZ nzs mostsN
  rw [List.map_map]
  rfl
def coldZ (s : HS) (k : Nat) : List Int × Nat := gonZ s.b s.wt (List.replicate s.lv.length 0) k s.cells s.shift
def hotZ (s : HS) (n k : Nat) : List Int × Nat := gonZ s.b s.wt (mostsN s.b) (n - k) (coldZ s k).1 (coldZ s k).2
def lateAt (s : HS) (i : Nat) (t : Int) (n k : Nat) : Bool := decide (t * 2 ^ (hotZ s n k).2 ≤ (hotZ s n k).1.getD i 0)
def lateDown (s : HS) (i : Nat) (t : Int) (n : Nat) : Nat → Option Nat
  | 0 => if lateAt s i t n 0 = true then some 0 else none
  | k + 1 => if lateAt s i t n (k + 1) = true then some (k + 1) else lateDown s i t n k
def latestH (s : HS) (i t n : Int) : HS × List Int := (s, if hasRoom s i = false then [-1] else if Vbbcab.inside t (-100000) 100000 = false ∨ Vbbcab.inside n 0 60 = false then [-2] else match lateDown s (i.toNat - 1) t n.toNat n.toNat with
  | none => [-5]
  | some k => [0, (k : Int)])
theorem forR3 {ta : TA} {g : TG} {tb : TS} {D : Ends} {σ : L2.St} {H : Hp} {n : Nat} (hx : ∀ Q : List V → Hp → Prop, Q [natV n, .int (-1), .int (-1)] H → ta σ H Q) (hn : n ≤ 1000000) (Pv : Nat → L2.St → Hp → Prop) (h0 : Pv 0 σ H)
    (hs : ∀ i σ H, i < n + 1 → Pv i σ H → g (natV (n - i)) σ H fun σ2 H2 => tb { D with nx := Pv (i + 1), ct := Pv (i + 1), bk := D.nx } σ2 H2) (hd : ∀ σ H, Pv (n + 1) σ H → D.nx σ H) : tFor (iRng3 ta) g tb D σ H := by
  refine hx _ ⟨(n : Int), -1, -1, n + 1, rfl, ?_, ?_⟩
  · have := RgC.neg (i := (n : Int)) (j := -1) (by omega) (by omega) (by omega) (by omega)
    rw [show ((n : Int) - -1).toNat = n + 1 by omega] at this
    exact this
  · refine for_rangeC Pv h0 (fun i σ H hi p => ?_) hd
    have e : (n : Int) + ((i : Nat) : Int) * -1 = ((n - i : Nat) : Int) := by omega
    rw [e]
    exact hs i σ H hi p
def ColdAt (G : Hp) (a : Addr) (x : List Int × Nat) : Prop := ∃ c, G a = some (.tup [.ref c, natV x.2]) ∧ G c = some (.lst (zs x.1))
theorem late_stop {s : HS} {i : Nat} {t : Int} {n k : Nat} (h : lateAt s i t n k = true) : lateDown s i t n k = some k := by
  cases k with
  | zero => exact if_pos h
  | succ k => exact if_pos h
def Meth3 (K : PySem.W.Frag) (f : HS → Int → Int → Int → HS × List Int) : Sp := fun vs H Q _ => ∃ (F : Hp) (r : HA) (s : HS) (n t m : Int), vs = [.ref r.h, .int n, .int t, .int m] ∧ HI K F H r s ∧ AnsM K F r s (f s n t m).1 (f s n t m).2 Q
def sp_House_latest (K : PySem.W.Frag) : Sp := Meth3 K latestH
abbrev N_House_latest : List Str := ["self", "number", "wanted", "many", "none", "mosts", "cold", "turn", "start", "cells", "shift", "name", "room", "most"]
theorem sc_House_latest : FnScope N_House_latest ["self", "number", "wanted", "many"] (defScope s_House_latest) := ⟨rfl, rfl, rfl, by decide +kernel, rfl, by decide +kernel, by decide +kernel⟩
theorem st_House_latest (x0 x1 x2 x3 : V) : start N_House_latest [x0, x1, x2, x3] = [some x0, some x1, some x2, some x3, none, none, none, none, none, none, none, none, none, none] := rfl
theorem ok_House_latest (e : Env K mg) : Ok P w K mg base 6 (He.ma K (He.ga K "House") "latest") ["self", "number", "wanted", "many"] (sp_House_latest K) := by
  refine ok_of e.fun_House_latest sc_House_latest (fun _ _ _ _ _ _ us hl => match us, hl with | [_, _, _, _], _ => rfl) (by rintro _ _ _ _ ⟨F, r, s, i, t, n, rfl, I, q⟩; rfl) ?_
  intro cdv A outer s0 H vs Q E hr hsp
  have sc := sc_House_latest
  have hu := hu_of hr
  have G_House_has_room := ok_House_has_room (P := P) (w := w) (base := base) e
  have G_is_warmth := ok_is_warmth (P := P) (w := w) (base := base) e
  have G_gone_on := ok_gone_on (P := P) (w := w) (base := base) e
  refine ⟨_, (pss_cons (ps_if (pt_not (pt_val (pe_methE (pv 0) e.c_House e.m_House_has_room G_House_has_room (hr.mono (by decide)) (pa_cons (pv 1) pa_nil))))
    (pss_one (ps_ret (pe_lstN (pa_cons (pe_un un_neg pe_int) pa_nil))))
    pss_nil)
    (pss_cons (ps_if (PW.pt (pw_or (pt_not (pt_val (pe_callE G_is_warmth (hr.mono (by decide)) e.g_is_warmth (pa_cons (pv 2) pa_nil)))) (pw_or1 (pt_not (pt_chain op_le op_le pe_int (pv 3) (pe_gint e.i_MOST_LATE))))))
    (pss_one (ps_ret (pe_lstN (pa_cons (pe_un un_neg pe_int) pa_nil))))
    pss_nil)
    (pss_cons (ps_par (i := 4) (j := 5) (by rfl) sc.nd rfl rfl (by decide) rfl rfl (pa_cons (pe_op op_repN (pe_lstN (pa_cons pe_int pa_nil)) (pe_callB len_listN (by rfl) e.f_len bt_len (pa_cons (pe_at e.c_House e.n_House_levels (pv 0)) pa_nil))) (pa_cons (pe_lc (own := [("name", 11), ("room", 12), ("most", 13)]) rfl sc.nd (pi_list (pe_at e.c_Plan e.n_Plan_heaters (pe_at e.c_House e.n_House_plan (pv 0)))) (blkOk_by (own := [("name", 11), ("room", 12), ("most", 13)]) (N := N_House_latest) (sc := defScope s_House_latest) (by decide +kernel)) (fun _ _ _ _ _ => (pg_tupN (n := 3) rfl (pgs_cons (pg_name (i := 11) sc.nd rfl (Or.inl rfl) (Or.inr rfl)) (pgs_cons (pg_name (i := 12) sc.nd rfl (Or.inl rfl) (Or.inr rfl)) (pgs_cons (pg_name (i := 13) sc.nd rfl (Or.inl rfl) (Or.inr rfl)) pgs_nil))))) (fun _ _ _ _ _ => pts_nil) (fun _ _ _ _ _ => (pv 13))) pa_nil)) (by rfl))
    (pss_cons (ps_set (i := 6) sc.nd rfl (Or.inl rfl) (pe_lstN (pa_cons (pe_tupN (pa_cons (pe_at e.c_House e.n_House_cells (pv 0)) (pa_cons (pe_at e.c_House e.n_House_shift (pv 0)) pa_nil))) pa_nil)))
    (pss_cons (ps_for PassesOwn.never rfl (pi_range1 (by rfl) e.f_range (pa_cons (pv 3) pa_nil)) (pg_name (i := 7) sc.nd rfl (Or.inl rfl))
    (pss_one (ps_expr (pe_appN (pv 6) (pa_cons (pe_callE G_gone_on (hr.mono (by decide)) e.g_gone_on (pa_cons (pe_at e.c_House e.n_House_plan (pv 0)) (pa_cons (pe_ix ix_tupN (pe_ix ix_listN (pv 6) (pe_un un_neg pe_int) (fun _ _ => rfl)) pe_int (fun _ _ => rfl)) (pa_cons (pe_ix ix_tupN (pe_ix ix_listN (pv 6) (pe_un un_neg pe_int) (fun _ _ => rfl)) pe_int (fun _ _ => rfl)) (pa_cons (pe_at e.c_House e.n_House_weather (pv 0)) (pa_cons (pv 4) (pa_cons pe_int pa_nil))))))) pa_nil)))))
    (pss_cons (ps_for PassesOwn.never rfl (pi_range3 (by rfl) e.f_range (pa_cons (pv 3) (pa_cons (pe_un un_neg pe_int) (pa_cons (pe_un un_neg pe_int) pa_nil)))) (pg_name (i := 8) sc.nd rfl (Or.inl rfl))
    (pss_cons (ps_asg (pe_callE G_gone_on (hr.mono (by decide)) e.g_gone_on (pa_cons (pe_at e.c_House e.n_House_plan (pv 0)) (pa_cons (pe_ix ix_tupN (pe_ix ix_listN (pv 6) (pv 8) (fun _ _ => rfl)) pe_int (fun _ _ => rfl)) (pa_cons (pe_ix ix_tupN (pe_ix ix_listN (pv 6) (pv 8) (fun _ _ => rfl)) pe_int (fun _ _ => rfl)) (pa_cons (pe_at e.c_House e.n_House_weather (pv 0)) (pa_cons (pv 5) (pa_cons (pe_op op_sub (pv 3) (pv 8)) pa_nil))))))) (pg_tupN (n := 2) rfl (pgs_cons (pg_name (i := 9) sc.nd rfl (Or.inl rfl)) (pgs_cons (pg_name (i := 10) sc.nd rfl (Or.inl rfl)) pgs_nil))))
    (pss_one (ps_if (pt_cmpR op_ge (pe_ix ix_listN (pv 9) (pe_op op_sub (pv 1) pe_int) (fun _ _ => rfl)) (pe_op op_shlW (pv 2) (pv 10)) (nomark _))
    (pss_one (ps_ret (pe_lstN (pa_cons pe_int (pa_cons (pv 8) pa_nil)))))
    pss_nil))))
    (pss_one (ps_ret (pe_lstN (pa_cons (pe_un un_neg pe_int) pa_nil)))))))))), ?_⟩
  obtain ⟨F, r, s, i, t, n, rfl, I, q⟩ := hsp
  rw [st_House_latest]
  unfold latestH at q
  have gh := I.x.g 0
  have W := I.w
  have n1 := W.b.nr
  have n4 := W.b.nh
  have ck := W.ck
  have sh := W.sh
  have cl := W.cl
  have ll := W.w.ll
  refine st_seq ?_
  simp only [ev3, ev, ev2, ev4, sl, eq1, exl, exists_and_left, and_assoc, true_and, at0, at1, at2, Int.toNat_natCast, gh]
  refine ⟨hF_no r s, F, r, s, i, rfl, I, _, rfl, ?_⟩
  cases h1 : hasRoom s i with
  | false =>
    rw [if_pos h1] at q
    rw [if_pos (by decide)]
    exact ⟨sz1, fun u H1 x => q.stay I x⟩
  | true =>
  rw [if_neg (by rw [h1]; decide)] at q
  rw [if_neg (by decide)]
  obtain ⟨a1, a2⟩ := inside_iff.mp h1
  refine st_seq ?_
  simp only [ev3, ev, ev2, ev4, sl, eq1, exl, exists_and_left, and_assoc, true_and, at0, at1, at2, Int.toNat_natCast]
  refine ⟨t, rfl, _, rfl, ?_⟩
  cases ht : Vbbcab.inside t (-100000) 100000 with
  | false =>
    rw [if_pos (.inl ht)] at q
    rw [if_pos (by decide), if_pos trivial]
    exact ⟨sz1, fun u H1 x => q.stay I x⟩
  | true =>
  rw [if_neg (by decide)]
  obtain ⟨t1, t2⟩ := inside_iff.mp ht
  refine in_not (fun h2 => ?_) (fun h2 => ?_)
  · rw [if_pos (.inr h2)] at q
    exact ⟨sz1, fun u H1 x => q.stay I x⟩
  rw [if_neg (by rw [ht, h2]; decide)] at q
  obtain ⟨b1, b2⟩ := inside_iff.mp h2
  have en : V.int n = natV n.toNat := by unfold natV; rw [show ((n.toNat : Nat) : Int) = n by omega]
  rw [en]
  obtain ⟨dx, pr, ra, oa, la, ha, A⟩ := I.pl
  refine st_seq ?_
  simp only [ev3, ev, ev2, ev4, sl, eq1, exl, exists_and_left, and_assoc, true_and, at0, at1, at2, Int.toNat_natCast, List.length_cons, List.length_nil]
  refine ⟨by decide, fun z1 H1 x1 => ?_⟩
  have y1 := I.x.trans x1
  have gh1 := y1.g 1
  simp only [ev3, ev, ev2, ev4, sl, eq1, exl, exists_and_left, and_assoc, true_and, at0, at1, at2, Int.toNat_natCast, gh1, ev6, y1.g 4, zs_len, nzs_len, y1.g 0]
  refine ⟨by omega, by omega, fun no H2 x2 => ?_⟩
  have y2 := y1.trans x2
  have gh2 := y2.g 2
  have A2 := A.mono (x1.trans x2).keeps
  refine mosts_lc A2 (fun R h => by simp only [ev3, ev, ev2, ev4, sl, eq1, exl, exists_and_left, and_assoc, true_and, at0, at1, at2, Int.toNat_natCast, gh2, ev6, A2.ob]; exact h) (by omega) (fun _ _ _ => rfl) (fun _ _ _ => rfl) fun mo H3 x3 => ?_
  have k13 := ((x1.trans x2).trans x3).keeps
  have gno : H3 no = some (.lst (zs (nzs (List.replicate s.lv.length 0)))) := by
    have e7 : zs (List.replicate s.lv.length (0 : Int)) = zs (nzs (List.replicate s.lv.length 0)) := by
      congr 1
      unfold nzs
      rw [List.map_replicate]
      rfl
    have := x3.k (x2.g 0)
    rw [zs_rep, e7] at this
    exact this
  have gmo := x3.g 0
  rw [mostsN_z] at gmo
  have I3 := I.on k13
  have gh3 := I3.x.g 0
  have fits : SmL (40 + 37 * s.clock) s.cells := W.cs
  have W0 : WfW s.b s.wt (List.replicate s.lv.length 0) := ⟨W.w.lw, by rw [List.length_replicate]; exact ll, W.w.warm, fun x hx => by rw [List.eq_of_mem_replicate hx]; decide⟩
  have WM : WfW s.b s.wt (mostsN s.b) := ⟨W.w.lw, by unfold mostsN; rw [List.length_map], W.w.warm, fun x hx => by
    obtain ⟨h, hh, rfl⟩ := List.mem_map.mp hx
    exact W.b.most h hh⟩
  have cold := fun k => gonZ_sm W.b W0 fits (by omega : s.shift + 17 ≤ 40 + 37 * s.clock) k
  have cold : ∀ k, SmL (40 + 37 * s.clock + 37 * k) (coldZ s k).1 ∧ (coldZ s k).2 ≤ s.shift + 16 * k ∧ (coldZ s k).1.length = s.cells.length := cold
  refine st_seq ?_
  simp only [ev3, ev, ev2, ev4, sl, eq1, exl, exists_and_left, and_assoc, true_and, at0, at1, at2, Int.toNat_natCast, gh3, ev6, List.length_cons, List.length_nil]
  refine ⟨by decide, fun t4 H4 x4 => ⟨by decide, fun co H5 x5 => ?_⟩⟩
  have I4 := I3.on x4.keeps
  have k4 := k13.trans x4.keeps
  have c0 : ColdAt H4 t4 (coldZ s 0) := ⟨r.c, x4.g 0, I4.x.g 1⟩
  have x5 : Ext H4 H5 [(co, .lst ([t4].map V.ref))] := x5
  have gno := x4.k gno
  have gmo := x4.k gmo
  refine st_cut (fun σ H6 => ∃ (v7 v8 v9 v10 v11 v12 v13 : Option V) (G : Hp) (as : List Addr), σ = [some (.ref r.h), some (.int i), some (.int t), some (natV n.toNat), some (.ref no), some (.ref mo), some (.ref co), v7, v8, v9, v10, v11, v12, v13] ∧ Keeps H4 G ∧ Ext G H6 [(co, .lst (as.map V.ref))] ∧ as.length = n.toNat + 1 ∧ ∀ k a, as[k]? = some a → ColdAt G a (coldZ s k)) (fun U hU => ?_) ?_
  · refine forR (n := n.toNat) (fun Q' q => by simp only [ev3, ev, ev2, ev4, sl, eq1, exl, exists_and_left, and_assoc, true_and, at0, at1, at2, Int.toNat_natCast]; exact q) (by omega)
      (fun j σ H6 => ∃ (v7 v8 v9 v10 v11 v12 v13 : Option V) (G : Hp) (as : List Addr), σ = [some (.ref r.h), some (.int i), some (.int t), some (natV n.toNat), some (.ref no), some (.ref mo), some (.ref co), v7, v8, v9, v10, v11, v12, v13] ∧ Keeps H4 G ∧ Ext G H6 [(co, .lst (as.map V.ref))] ∧ as.length = j + 1 ∧ ∀ k a, as[k]? = some a → ColdAt G a (coldZ s k))
      ⟨_, _, _, _, _, _, _, H4, [t4], rfl, fun _ _ h => h, x5, rfl, fun k a hk => ?_⟩ ?_ ?_
    · match k with
      | 0 =>
        cases hk
        exact c0
      | k + 1 => cases hk
    · rintro j σ H6 hj ⟨v7, v8, v9, v10, v11, v12, v13, G, as, rfl, kG, y, hl, hc⟩
      obtain ⟨aj, haj⟩ : ∃ a, as[j]? = some a := ⟨_, List.getElem?_eq_getElem (by omega)⟩
      obtain ⟨ca, ea, ec⟩ := hc j aj haj
      have el : atI (as.map V.ref) (-1) = some (.ref aj) := atI_end (by
        rw [List.length_map, hl, Nat.add_sub_cancel, List.getElem?_map, haj]
        rfl)
      have I6 := I4.on (kG.trans y.keeps)
      have gh6 := I6.x.g 0
      obtain ⟨d1, d2, d3⟩ := cold j
      simp only [ev3, ev, ev2, ev4, sl, eq1, exl, exists_and_left, and_assoc, true_and, at0, at1, at2, Int.toNat_natCast, y.g 0, gh6, ev6, el, y.k ea]
      have k46 : Keeps H4 H6 := kG.trans y.keeps
      refine ⟨r.p, ca, r.w, no, (coldZ s j).1, s.wt, List.replicate s.lv.length 0, (coldZ s j).2, 40 + 37 * s.clock + 37 * j, 1, s.b, rfl, I6.pl, y.k ec, I6.x.g 2, k46 _ _ gno, W.b, W0, by omega, d1, by omega, by omega, fun H7 t7 f7 x7 => ?_⟩
      have y7 := y.trans x7
      refine ⟨_, y7.g 2, size_lt (by rw [List.length_map]; omega), fun H8 pt => ?_⟩
      have y8 := y7.put 2 rfl pt
      have y8 : Ext G H8 ((t7, .tup [.ref f7, natV (coldZ s (j + 1)).2]) :: (f7, .lst (zs (coldZ s (j + 1)).1)) :: [(co, .lst (as.map V.ref ++ [.ref t7]))]) := by
        have e : coldZ s (j + 1) = gonZ s.b s.wt (List.replicate s.lv.length 0) 1 (coldZ s j).1 (coldZ s j).2 := gonZ_one ..
        rw [e]
        exact y8
      have kg1 : Keeps G (upd G t7 (.tup [.ref f7, natV (coldZ s (j + 1)).2])) := Keeps.upd (y8.f 0)
      have y9 := y8.absorb
      have kg2 : Keeps (upd G t7 (.tup [.ref f7, natV (coldZ s (j + 1)).2])) (upd (upd G t7 (.tup [.ref f7, natV (coldZ s (j + 1)).2])) f7 (.lst (zs (coldZ s (j + 1)).1))) := Keeps.upd (y9.f 0)
      have y10 := y9.absorb
      rw [← ref_snoc] at y10
      refine ⟨_, kG.trans (kg1.trans kg2), as ++ [t7], y10, by rw [List.length_append, hl]; rfl, fun k a hk => ?_⟩
      by_cases hkl : k < as.length
      · rw [List.getElem?_append_left hkl] at hk
        obtain ⟨c, h1, h2⟩ := hc k a hk
        exact ⟨c, kg2 _ _ (kg1 _ _ h1), kg2 _ _ (kg1 _ _ h2)⟩
      · rw [List.getElem?_append_right (by omega)] at hk
        have hk0 : k - as.length = 0 := by
          have := (List.getElem?_eq_some_iff.mp hk).1
          rw [List.length_singleton] at this
          omega
        rw [hk0] at hk
        cases hk
        have ek : k = j + 1 := by omega
        rw [ek]
        exact ⟨f7, kg2 _ _ upd_same, upd_same⟩
    · rintro σ H6 ⟨v7, v8, v9, v10, v11, v12, v13, G, as, rfl, kG, y, hl, hc⟩
      exact hU _ _ ⟨_, _, _, _, _, _, _, G, as, rfl, kG, y, hl, hc⟩
  rintro σ H6 ⟨v7, v8, v9, v10, v11, v12, v13, G, as, rfl, kG, y, hl, hc⟩
  have I6 := I4.on (kG.trans y.keeps)
  have k6 := k4.trans (kG.trans y.keeps)
  refine st_seq (forR3 (n := n.toNat) (fun Q' q => by simp only [ev3, ev, ev2, ev4, sl, eq1, exl, exists_and_left, and_assoc, true_and, at0, at1, at2, Int.toNat_natCast]; exact q) (by omega)
    (fun j σ H7 => ∃ (v7 v8 v9 v10 v11 v12 v13 : Option V), σ = [some (.ref r.h), some (.int i), some (.int t), some (natV n.toNat), some (.ref no), some (.ref mo), some (.ref co), v7, v8, v9, v10, v11, v12, v13] ∧ Keeps H6 H7 ∧
      (j ≤ n.toNat → lateDown s (i.toNat - 1) t n.toNat n.toNat = lateDown s (i.toNat - 1) t n.toNat (n.toNat - j)) ∧ (j = n.toNat + 1 → lateDown s (i.toNat - 1) t n.toNat n.toNat = none)) ⟨_, _, _, _, _, _, _, rfl, fun _ _ h => h, fun _ => rfl, fun h => by omega⟩ ?_ ?_)
  · rintro j σ H7 hj ⟨v7, v8, v9, v10, v11, v12, v13, rfl, k7, e1, e2⟩
    have e1 := e1 (by omega)
    generalize hk : n.toNat - j = k at *
    obtain ⟨ak, hak⟩ : ∃ a, as[k]? = some a := ⟨_, List.getElem?_eq_getElem (by omega)⟩
    obtain ⟨ca, ea, ec⟩ := hc k ak hak
    have el : atI (as.map V.ref) (k : Int) = some (.ref ak) := atI_nat (by
      rw [List.getElem?_map, hak]
      rfl)
    obtain ⟨d1, d2, d3⟩ := cold k
    have I7 := I6.on k7
    have gh7 := I7.x.g 0
    have k47 : Keeps H4 H7 := (kG.trans y.keeps).trans k7
    simp only [ev3, ev, ev2, ev4, sl, eq1, exl, exists_and_left, and_assoc, true_and, at0, at1, at2, Int.toNat_natCast]
    refine st_seq ?_
    simp only [ev3, ev, ev2, ev4, sl, eq1, exl, exists_and_left, and_assoc, true_and, at0, at1, at2, Int.toNat_natCast, gh7, ev6, k7 _ _ (y.g 0), el, k7 _ _ (y.k ea)]
    refine ⟨r.p, ca, r.w, mo, (coldZ s k).1, s.wt, mostsN s.b, (coldZ s k).2, 40 + 37 * s.clock + 37 * k, n.toNat - k, s.b, by unfold natV; rw [show ((n.toNat - k : Nat) : Int) = (n.toNat : Int) - (k : Int) by omega], I7.pl, k7 _ _ (y.k ec), I7.x.g 2, k47 _ _ gmo, W.b, WM, by omega, d1, by omega, by omega, fun H8 t8 f8 x8 => ?_⟩
    obtain ⟨g1, g2, g3⟩ := gonZ_sm W.b WM d1 (by omega : (coldZ s k).2 + 17 ≤ 40 + 37 * s.clock + 37 * k) (n.toNat - k)
    have e : i - 1 = ((i.toNat - 1 : Nat) : Int) := by omega
    have hh : gonZ s.b s.wt (mostsN s.b) (n.toNat - k) (coldZ s k).1 (coldZ s k).2 = hotZ s n.toNat k := rfl
    rw [hh] at x8 g1 g2 g3
    have g8 := x8.g 1
    simp only [ev3, ev, ev2, ev4, sl, eq1, exl, exists_and_left, and_assoc, true_and, at0, at1, at2, Int.toNat_natCast, x8.g 0, g8, e, List.length_cons, List.length_nil, at_ints (show i.toNat - 1 < (hotZ s n.toNat k).1.length by omega)]
    refine ⟨shl_sm (n := 17) (Sm.of_le (m := 100000) (by omega) (by decide)) (by omega), ?_⟩
    cases hz : lateAt s (i.toNat - 1) t n.toNat k with
    | true =>
      rw [if_pos (show decide (t * 2 ^ (hotZ s n.toNat k).2 ≤ (hotZ s n.toNat k).1.getD (i.toNat - 1) 0) = true from hz)]
      rw [e1, late_stop hz] at q
      exact ⟨by decide, fun u H9 x9 => q.stay (I7.on x8.keeps) x9⟩
    | false =>
      rw [if_neg (by rw [show decide (t * 2 ^ (hotZ s n.toNat k).2 ≤ (hotZ s n.toNat k).1.getD (i.toNat - 1) 0) = false from hz]; decide)]
      refine ⟨k7.trans x8.keeps, fun hj2 => ?_, fun hj2 => ?_⟩
      · rw [e1]
        obtain ⟨k', rfl⟩ : ∃ k', k = k' + 1 := ⟨k - 1, by omega⟩
        rw [show n.toNat - (j + 1) = k' by omega]
        exact if_neg (by rw [hz]; decide)
      · rw [e1]
        obtain rfl : k = 0 := by omega
        exact if_neg (by rw [hz]; decide)
  rintro σ H7 ⟨v7, v8, v9, v10, v11, v12, v13, rfl, k7, e1, e2⟩
  rw [e2 rfl] at q
  simp only [ev3, ev, ev2, ev4, sl, eq1, exl, exists_and_left, and_assoc, true_and, at0, at1, at2, Int.toNat_natCast]
  exact ⟨sz1, fun u H8 x8 => q.stay (I6.on k7) x8⟩
def leastH (s : HS) (h i t : Int) : HS × List Int := (s, if hasHeater s h = false ∨ hasRoom s i = false then [-1] else if Vbbcab.inside t (-100000) 100000 = false then [-2] else if anchZ s.b = false then [-4] else match leastZ s.b s.wt s.lv (h.toNat - 1) (i.toNat - 1) t with
  | none => [-5]
  | some l => [0, l])
def sp_House_least (K : PySem.W.Frag) : Sp := fun vs H Q E => AnchOk ∧ Meth3 K leastH vs H Q E
abbrev N_House_least : List Str := ["self", "heater", "number", "wanted", "level"]
theorem sc_House_least : FnScope N_House_least ["self", "heater", "number", "wanted"] (defScope s_House_least) := ⟨rfl, rfl, rfl, by decide +kernel, rfl, by decide +kernel, by decide +kernel⟩
theorem st_House_least (x0 x1 x2 x3 : V) : start N_House_least [x0, x1, x2, x3] = [some x0, some x1, some x2, some x3, none] := rfl
theorem ok_House_least (e : Env K mg) : Ok P w K mg base 5 (He.ma K (He.ga K "House") "least") ["self", "heater", "number", "wanted"] (sp_House_least K) := by
  refine ok_of e.fun_House_least sc_House_least (fun _ _ _ _ _ _ us hl => match us, hl with | [_, _, _, _], _ => rfl) (by rintro _ _ _ _ ⟨anch, F, r, s, h, i, t, rfl, I, q⟩; rfl) ?_
  intro cdv A outer s0 H vs Q E hr hsp
  have sc := sc_House_least
  have hu := hu_of hr
  have G_House_has_room := ok_House_has_room (P := P) (w := w) (base := base) e
  have G_House_has_heater := ok_House_has_heater (P := P) (w := w) (base := base) e
  have G_is_warmth := ok_is_warmth (P := P) (w := w) (base := base) e
  have G_Plan_is_anchored := ok_Plan_is_anchored (P := P) (w := w) (base := base) e
  have G_least_level := ok_least_level (P := P) (w := w) (base := base) e
  refine ⟨_, (pss_cons (ps_if (PW.pt (pw_or (pt_not (pt_val (pe_methE (pv 0) e.c_House e.m_House_has_heater G_House_has_heater (hr.mono (by decide)) (pa_cons (pv 1) pa_nil)))) (pw_or1 (pt_not (pt_val (pe_methE (pv 0) e.c_House e.m_House_has_room G_House_has_room (hr.mono (by decide)) (pa_cons (pv 2) pa_nil)))))))
    (pss_one (ps_ret (pe_lstN (pa_cons (pe_un un_neg pe_int) pa_nil))))
    pss_nil)
    (pss_cons (ps_if (pt_not (pt_val (pe_callE G_is_warmth (hr.mono (by decide)) e.g_is_warmth (pa_cons (pv 3) pa_nil))))
    (pss_one (ps_ret (pe_lstN (pa_cons (pe_un un_neg pe_int) pa_nil))))
    pss_nil)
    (pss_cons (ps_if (pt_not (pt_val (pe_methE0 (pe_at e.c_House e.n_House_plan (pv 0)) e.c_Plan e.m_Plan_is_anchored G_Plan_is_anchored (hr.mono (by decide)))))
    (pss_one (ps_ret (pe_lstN (pa_cons (pe_un un_neg pe_int) pa_nil))))
    pss_nil)
    (pss_cons (ps_set (i := 4) sc.nd rfl (Or.inl rfl) (pe_callE G_least_level (hr.mono (by decide)) e.g_least_level (pa_cons (pe_at e.c_House e.n_House_plan (pv 0)) (pa_cons (pe_at e.c_House e.n_House_weather (pv 0)) (pa_cons (pe_at e.c_House e.n_House_levels (pv 0)) (pa_cons (pe_op op_sub (pv 1) pe_int) (pa_cons (pe_op op_sub (pv 2) pe_int) (pa_cons (pv 3) pa_nil))))))))
    (pss_one (ps_ret (pe_ifExp (pt_cmpR op_isNN (pv 4) pe_non (nomark _)) (pe_lstN (pa_cons (pe_un un_neg pe_int) pa_nil)) (pe_lstN (pa_cons pe_int (pa_cons (pv 4) pa_nil)))))))))), ?_⟩
  obtain ⟨anch, F, r, s, h, i, t, rfl, I, q⟩ := hsp
  rw [st_House_least]
  unfold leastH at q
  have gh := I.x.g 0
  have W := I.w
  have cl := W.cl
  have ll := W.w.ll
  refine st_seq ?_
  simp only [ev3, ev, ev2, ev4, sl, eq1, exl, exists_and_left, and_assoc, true_and, at0, at1, at2, Int.toNat_natCast, gh]
  refine ⟨hF_no r s, F, r, s, h, rfl, I, _, rfl, ?_⟩
  cases h1 : hasHeater s h with
  | false =>
    rw [if_pos (.inl h1)] at q
    rw [if_pos (by decide), if_pos trivial]
    exact ⟨sz1, fun u H1 x => q.stay I x⟩
  | true =>
  rw [if_neg (by decide)]
  obtain ⟨a1, a2⟩ := inside_iff.mp h1
  simp only [ev3, ev, ev2, ev4, sl, eq1, exl, exists_and_left, and_assoc, true_and, at0, at1, at2, Int.toNat_natCast, gh]
  refine ⟨hF_no r s, F, r, s, i, rfl, I, _, rfl, ?_⟩
  cases h2 : hasRoom s i with
  | false =>
    rw [if_pos (.inr h2)] at q
    rw [if_pos (by decide)]
    exact ⟨sz1, fun u H1 x => q.stay I x⟩
  | true =>
  rw [if_neg (by decide)]
  rw [if_neg (by rw [h1, h2]; decide)] at q
  obtain ⟨b1, b2⟩ := inside_iff.mp h2
  refine st_seq ?_
  simp only [ev3, ev, ev2, ev4, sl, eq1, exl, exists_and_left, and_assoc, true_and, at0, at1, at2, Int.toNat_natCast]
  refine ⟨t, rfl, _, rfl, ?_⟩
  cases ht : Vbbcab.inside t (-100000) 100000 with
  | false =>
    rw [if_pos ht] at q
    rw [if_pos (by decide)]
    exact ⟨sz1, fun u H1 x => q.stay I x⟩
  | true =>
  rw [if_neg (by decide)]
  rw [if_neg (by rw [ht]; decide)] at q
  obtain ⟨t1, t2⟩ := inside_iff.mp ht
  have PA := I.pl
  obtain ⟨dx, pr, ra, oa, la, ha, A⟩ := I.p
  refine st_seq ?_
  simp only [ev3, ev, ev2, ev4, sl, eq1, exl, exists_and_left, and_assoc, true_and, at0, at1, at2, Int.toNat_natCast, gh, ev6, I.x.k A.ob]
  refine ⟨pF_no pr, r.p, s.b, rfl, PA, W.b.few, W.b.roomEnds, fun H1 k1 => ⟨_, rfl, ?_⟩⟩
  have I1 := I.on k1
  cases ha : anchZ s.b with
  | false =>
    rw [if_pos ha] at q
    rw [if_pos (by decide)]
    exact ⟨sz1, fun u H1 x => q.stay I1 x⟩
  | true =>
  rw [if_neg (by rw [ha]; decide)] at q
  rw [if_neg (by decide)]
  have gh1 := I1.x.g 0
  have e1 : h - 1 = ((h.toNat - 1 : Nat) : Int) := by omega
  have e2 : i - 1 = ((i.toNat - 1 : Nat) : Int) := by omega
  refine st_seq ?_
  simp only [ev3, ev, ev2, ev4, sl, eq1, exl, exists_and_left, and_assoc, true_and, at0, at1, at2, Int.toNat_natCast, gh1, ev6, e1, e2]
  refine ⟨r.p, r.w, r.l, s.wt, s.lv, s.b, h.toNat - 1, i.toNat - 1, t, rfl, PA.mono k1, I1.x.g 2, I1.x.g 3, W.b, W.w, anch _ _ _ W.b (W.w.setL _ _ (by decide)) ha, anch _ _ _ W.b (W.w.setL _ _ (by decide)) ha, by omega, by omega, Sm.of_le (m := 100000) (by omega) (by decide), fun H2 k2 => ?_⟩
  have I2 := I1.on k2
  cases hz : leastZ s.b s.wt s.lv (h.toNat - 1) (i.toNat - 1) t with
  | none =>
    rw [hz] at q
    simp only [ev3, ev, ev2, ev4, sl, eq1, exl, exists_and_left, and_assoc, true_and, at0, at1, at2, Int.toNat_natCast, optV, isNon, if_true]
    exact ⟨sz1, fun u H3 x => q.stay I2 x⟩
  | some l =>
    rw [hz] at q
    simp only [ev3, ev, ev2, ev4, sl, eq1, exl, exists_and_left, and_assoc, true_and, at0, at1, at2, Int.toNat_natCast, optV, isNon, if_false, Bool.false_eq_true]
    exact ⟨by simp only [List.length_cons, List.length_nil]; decide, fun u H3 x => q.stay I2 x⟩
end
end WR
end PartWh7
section PartWx
set_option Elab.async false
set_option linter.all false
set_option maxRecDepth 100000
set_option maxHeartbeats 4000000
namespace WR
open PySem PySem.Spec PyProof.Rows L2 WH
section
variable {P : Program} {w : World} {K : PySem.W.Frag} {mg : Str → Option Value} {base : Heap}
theorem SqL.keep {K : PySem.W.Frag} {H H' : Hp} {a : Addr} {xs : List V} (h : SqL K H a xs) (k : Keeps H H') : SqL K H' a xs := h.elim (fun h => .inl (h.elim (fun h => .inl (k _ _ h)) fun ⟨o, h⟩ => .inr ⟨o, k _ _ h⟩)) fun h => .inr h
theorem zs_at {xs : List Int} {i : Nat} {x : Int} (h : xs[i]? = some x) : atI (zs xs) (i : Int) = some (.int x) := atI_nat (by rw [List.getElem?_map, h]; rfl)
def sp_row_at (K : PySem.W.Frag) : Sp := fun vs H Q _ => ∃ (ca : Addr) (xs : List Int) (i k : Nat), vs = [.ref ca, natV i] ∧ SqL K H ca (zs xs) ∧ xs[i]? = some (k : Int) ∧ i + 1 + k ≤ xs.length ∧
  ∀ H' t u, Ext H H' [(t, .tup [.ref u, natV (i + 1 + k)]), (u, .lst (zs ((xs.drop (i + 1)).take k)))] → Q (.ref t) H'
abbrev N_row_at : List Str := ["calls", "at", "end"]
theorem sc_row_at : FnScope N_row_at ["calls", "at"] (defScope s_row_at) := ⟨rfl, rfl, rfl, by decide +kernel, rfl, by decide +kernel, by decide +kernel⟩
theorem st_row_at (x0 x1 : V) : start N_row_at [x0, x1] = [some x0, some x1, none] := rfl
theorem ok_row_at (e : Env K mg) : Ok P w K mg base 1 (He.ga K "row_at") ["calls", "at"] (sp_row_at K) := by
  refine ok_of e.fun_row_at sc_row_at (fun _ _ _ _ _ _ us hl => match us, hl with | [_, _], _ => rfl) (by rintro _ _ _ _ ⟨ca, xs, i, k, rfl, hs, hk, hle, q⟩; rfl) ?_
  intro cdv A outer s0 H vs Q E hr hsp
  have sc := sc_row_at
  have hu := hu_of hr
  refine ⟨_, (pss_cons (ps_set (i := 2) sc.nd rfl (Or.inl rfl) (pe_op op_add (pe_op op_add (pv 1) pe_int) (pe_ix (ix_listK (K := K) rfl) (pv 0) (pv 1) (fun _ _ => rfl))))
    (pss_one (ps_ret (pe_tupN (pa_cons (pe_slice sl_list (pv 0) (po_some (pe_op op_add (pv 1) pe_int)) (po_some (pv 2))) (pa_cons (pv 2) pa_nil)))))), ?_⟩
  obtain ⟨ca, xs, i, k, rfl, hs, hk, hle, q⟩ := hsp
  rw [st_row_at]
  refine st_seq ?_
  simp only [ev3, ev, ev2, ev4, sl, eq1, exl, exists_and_left, and_assoc, true_and, at0, at1, at2, Int.toNat_natCast]
  refine ⟨ca, zs xs, (i : Int), _, rfl, rfl, hs, zs_at hk, (k : Int), rfl, ?_⟩
  have e1 : (i : Int) + 1 = ((i + 1 : Nat) : Int) := by omega
  have e2 : ((i + 1 : Nat) : Int) + (k : Int) = ((i + 1 + k : Nat) : Int) := by omega
  rw [e1, e2]
  refine ⟨ca, zs xs, rfl, hs, fun u hu => ?_⟩
  have x1 := Ext.new (o := HO.lst (cutV (zs xs) (some ((i + 1 : Nat) : Int)) (some ((i + 1 + k : Nat) : Int)))) hu
  refine ⟨by simp only [List.length_cons, List.length_nil]; decide, fun t H2 x2 => q H2 t u ?_⟩
  have y := x1.trans x2
  rw [cut_zs hle, Nat.add_sub_cancel_left] at y
  exact y
def plainH (s : HS) (c : Int) : HS × List Int := if c = 1 then textH s else if c = 7 then booksH s else if c = 9 then restH s else clockH s
def sp_plain_answer (K : PySem.W.Frag) : Sp := fun vs H Q _ => AnchOk ∧ ∃ (F : Hp) (r : HA) (s : HS) (c : Int), vs = [.ref r.h, .int c] ∧ HI K F H r s ∧ AnsM K F r s (plainH s c).1 (plainH s c).2 Q
abbrev N_plain_answer : List Str := ["house", "call"]
theorem sc_plain_answer : FnScope N_plain_answer ["house", "call"] (defScope s_plain_answer) := ⟨rfl, rfl, rfl, by decide +kernel, rfl, by decide +kernel, by decide +kernel⟩
theorem st_plain_answer (x0 x1 : V) : start N_plain_answer [x0, x1] = [some x0, some x1] := rfl
theorem ok_plain_answer (e : Env K mg) : Ok P w K mg base 5 (He.ga K "plain_answer") ["house", "call"] (sp_plain_answer K) := by
  refine ok_of e.fun_plain_answer sc_plain_answer (fun _ _ _ _ _ _ us hl => match us, hl with | [_, _], _ => rfl) (by rintro _ _ _ _ ⟨anch, F, r, s, c, rfl, I, q⟩; rfl) ?_
  intro cdv A outer s0 H vs Q E hr hsp
  have sc := sc_plain_answer
  have hu := hu_of hr
  have G_House_text := ok_House_text (P := P) (w := w) (base := base) e
  have G_House_books := ok_House_books (P := P) (w := w) (base := base) e
  have G_House_rest := ok_House_rest (P := P) (w := w) (base := base) e
  have G_House_tell_clock := ok_House_tell_clock (P := P) (w := w) (base := base) e
  refine ⟨_, (pss_cons (ps_if (pt_cmpR op_eqN (pv 1) pe_int (nomark _))
    (pss_one (ps_ret (pe_methE0 (pv 0) e.c_House e.m_House_text G_House_text (hr.mono (by decide)))))
    pss_nil)
    (pss_cons (ps_if (pt_cmpR op_eqN (pv 1) pe_int (nomark _))
    (pss_one (ps_ret (pe_methE0 (pv 0) e.c_House e.m_House_books G_House_books (hr.mono (by decide)))))
    pss_nil)
    (pss_one (ps_ret (pe_ifExp (pt_cmpR op_eqN (pv 1) pe_int (nomark _)) (pe_methE0 (pv 0) e.c_House e.m_House_rest G_House_rest (hr.mono (by decide))) (pe_methE0 (pv 0) e.c_House e.m_House_tell_clock G_House_tell_clock (hr.mono (by decide)))))))), ?_⟩
  obtain ⟨anch, F, r, s, c, rfl, I, q⟩ := hsp
  rw [st_plain_answer]
  have gh := I.x.g 0
  unfold plainH at q
  refine st_seq ?_
  simp only [ev3, ev, ev2, ev4, sl, eq1, exl, exists_and_left, and_assoc, true_and, at0, at1, at2, Int.toNat_natCast, gh]
  by_cases h1 : c = 1
  · rw [if_pos (decide_eq_true h1)]
    rw [if_pos h1] at q
    exact ⟨hF_no r s, F, r, s, rfl, I, q⟩
  rw [if_neg (by rw [decide_eq_false h1]; decide)]
  rw [if_neg h1] at q
  refine st_seq ?_
  simp only [ev3, ev, ev2, ev4, sl, eq1, exl, exists_and_left, and_assoc, true_and, at0, at1, at2, Int.toNat_natCast, gh]
  by_cases h7 : c = 7
  · rw [if_pos (decide_eq_true h7)]
    rw [if_pos h7] at q
    exact ⟨hF_no r s, F, r, s, rfl, I, q⟩
  rw [if_neg (by rw [decide_eq_false h7]; decide)]
  rw [if_neg h7] at q
  by_cases h9 : c = 9
  · rw [if_pos (decide_eq_true h9)]
    rw [if_pos h9] at q
    exact ⟨hF_no r s, anch, F, r, s, rfl, I, q⟩
  rw [if_neg (by rw [decide_eq_false h9]; decide)]
  rw [if_neg h9] at q
  exact ⟨hF_no r s, F, r, s, rfl, I, q⟩
def shortH (s : HS) (c n : Int) : HS × List Int := if c = 4 then runH s n else if c = 5 then tempH s n else if c = 6 then traceH s n else if c = 8 then flowH s n else halveH s n
def sp_short_answer (K : PySem.W.Frag) : Sp := fun vs H Q _ => ∃ (F : Hp) (r : HA) (s : HS) (c n : Int), vs = [.ref r.h, .int c, .int n] ∧ HI K F H r s ∧ AnsM K F r s (shortH s c n).1 (shortH s c n).2 Q
abbrev N_short_answer : List Str := ["house", "call", "number"]
theorem sc_short_answer : FnScope N_short_answer ["house", "call", "number"] (defScope s_short_answer) := ⟨rfl, rfl, rfl, by decide +kernel, rfl, by decide +kernel, by decide +kernel⟩
theorem st_short_answer (x0 x1 x2 : V) : start N_short_answer [x0, x1, x2] = [some x0, some x1, some x2] := rfl
theorem ok_short_answer (e : Env K mg) : Ok P w K mg base 7 (He.ga K "short_answer") ["house", "call", "number"] (sp_short_answer K) := by
  refine ok_of e.fun_short_answer sc_short_answer (fun _ _ _ _ _ _ us hl => match us, hl with | [_, _, _], _ => rfl) (by rintro _ _ _ _ ⟨F, r, s, c, n, rfl, I, q⟩; rfl) ?_
  intro cdv A outer s0 H vs Q E hr hsp
  have sc := sc_short_answer
  have hu := hu_of hr
  have G_House_run := ok_House_run (P := P) (w := w) (base := base) e
  have G_House_temp := ok_House_temp (P := P) (w := w) (base := base) e
  have G_House_trace := ok_House_trace (P := P) (w := w) (base := base) e
  have G_House_flow := ok_House_flow (P := P) (w := w) (base := base) e
  have G_House_halve := ok_House_halve (P := P) (w := w) (base := base) e
  refine ⟨_, (pss_cons (ps_if (pt_cmpR op_eqN (pv 1) pe_int (nomark _))
    (pss_one (ps_ret (pe_methE (pv 0) e.c_House e.m_House_run G_House_run (hr.mono (by decide)) (pa_cons (pv 2) pa_nil))))
    pss_nil)
    (pss_cons (ps_if (pt_cmpR op_eqN (pv 1) pe_int (nomark _))
    (pss_one (ps_ret (pe_methE (pv 0) e.c_House e.m_House_temp G_House_temp (hr.mono (by decide)) (pa_cons (pv 2) pa_nil))))
    pss_nil)
    (pss_cons (ps_if (pt_cmpR op_eqN (pv 1) pe_int (nomark _))
    (pss_one (ps_ret (pe_methE (pv 0) e.c_House e.m_House_trace G_House_trace (hr.mono (by decide)) (pa_cons (pv 2) pa_nil))))
    pss_nil)
    (pss_one (ps_ret (pe_ifExp (pt_cmpR op_eqN (pv 1) pe_int (nomark _)) (pe_methE (pv 0) e.c_House e.m_House_flow G_House_flow (hr.mono (by decide)) (pa_cons (pv 2) pa_nil)) (pe_methE (pv 0) e.c_House e.m_House_halve G_House_halve (hr.mono (by decide)) (pa_cons (pv 2) pa_nil)))))))), ?_⟩
  obtain ⟨F, r, s, c, n, rfl, I, q⟩ := hsp
  rw [st_short_answer]
  have gh := I.x.g 0
  unfold shortH at q
  refine st_seq ?_
  simp only [ev3, ev, ev2, ev4, sl, eq1, exl, exists_and_left, and_assoc, true_and, at0, at1, at2, Int.toNat_natCast, gh]
  by_cases h4 : c = 4
  · rw [if_pos (decide_eq_true h4)]
    rw [if_pos h4] at q
    exact ⟨hF_no r s, F, r, s, n, rfl, I, q⟩
  rw [if_neg (by rw [decide_eq_false h4]; decide)]
  rw [if_neg h4] at q
  refine st_seq ?_
  simp only [ev3, ev, ev2, ev4, sl, eq1, exl, exists_and_left, and_assoc, true_and, at0, at1, at2, Int.toNat_natCast, gh]
  by_cases h5 : c = 5
  · rw [if_pos (decide_eq_true h5)]
    rw [if_pos h5] at q
    exact ⟨hF_no r s, F, r, s, n, rfl, I, q⟩
  rw [if_neg (by rw [decide_eq_false h5]; decide)]
  rw [if_neg h5] at q
  refine st_seq ?_
  simp only [ev3, ev, ev2, ev4, sl, eq1, exl, exists_and_left, and_assoc, true_and, at0, at1, at2, Int.toNat_natCast, gh]
  by_cases h6 : c = 6
  · rw [if_pos (decide_eq_true h6)]
    rw [if_pos h6] at q
    exact ⟨hF_no r s, F, r, s, n, rfl, I, q⟩
  rw [if_neg (by rw [decide_eq_false h6]; decide)]
  rw [if_neg h6] at q
  by_cases h8 : c = 8
  · rw [if_pos (decide_eq_true h8)]
    rw [if_pos h8] at q
    exact ⟨hF_no r s, F, r, s, n, rfl, I, q⟩
  rw [if_neg (by rw [decide_eq_false h8]; decide)]
  rw [if_neg h8] at q
  exact ⟨hF_no r s, F, r, s, n, rfl, I, q⟩
def longH (s : HS) (c : Int) (xs : List Int) : HS × List Int := if c = 2 then outsideH s (xs.getD 0 0) (xs.getD 1 0) else if c = 3 then heatH s (xs.getD 0 0) (xs.getD 1 0) else if c = 10 then settleH s (xs.getD 0 0) (xs.getD 1 0) else if c = 15 then setH s (xs.getD 0 0) (xs.getD 1 0) else
  if c = 13 then latestH s (xs.getD 0 0) (xs.getD 1 0) (xs.getD 2 0) else leastH s (xs.getD 0 0) (xs.getD 1 0) (xs.getD 2 0)
theorem at_i0 {l : List Int} (h : 0 < l.length) : atI (zs l) 0 = some (.int (l.getD 0 0)) := at_ints (i := 0) h
theorem at_i1 {l : List Int} (h : 1 < l.length) : atI (zs l) 1 = some (.int (l.getD 1 0)) := at_ints (i := 1) h
theorem at_i2 {l : List Int} (h : 2 < l.length) : atI (zs l) 2 = some (.int (l.getD 2 0)) := at_ints (i := 2) h
def sp_long_answer (K : PySem.W.Frag) : Sp := fun vs H Q _ => AnchOk ∧ ∃ (F : Hp) (r : HA) (s : HS) (c : Int) (o : Addr) (xs : List Int), vs = [.ref r.h, .int c, .ref o] ∧ HI K F H r s ∧ H o = some (.lst (zs xs)) ∧ 2 ≤ xs.length ∧ (c = 13 ∨ c = 14 → 3 ≤ xs.length) ∧ (c = 2 ∨ c = 3 ∨ c = 10 ∨ c = 15 ∨ c = 13 ∨ c = 14) ∧ AnsM K F r s (longH s c xs).1 (longH s c xs).2 Q
abbrev N_long_answer : List Str := ["house", "call", "numbers"]
theorem sc_long_answer : FnScope N_long_answer ["house", "call", "numbers"] (defScope s_long_answer) := ⟨rfl, rfl, rfl, by decide +kernel, rfl, by decide +kernel, by decide +kernel⟩
theorem st_long_answer (x0 x1 x2 : V) : start N_long_answer [x0, x1, x2] = [some x0, some x1, some x2] := rfl
theorem ok_long_answer (e : Env K mg) : Ok P w K mg base 7 (He.ga K "long_answer") ["house", "call", "numbers"] (sp_long_answer K) := by
  refine ok_of e.fun_long_answer sc_long_answer (fun _ _ _ _ _ _ us hl => match us, hl with | [_, _, _], _ => rfl) (by rintro _ _ _ _ ⟨anch, F, r, s, c, o, xs, rfl, I, ho, l2, l3, hc, q⟩; rfl) ?_
  intro cdv A outer s0 H vs Q E hr hsp
  have sc := sc_long_answer
  have hu := hu_of hr
  have G_House_outside := ok_House_outside (P := P) (w := w) (base := base) e
  have G_House_heat := ok_House_heat (P := P) (w := w) (base := base) e
  have G_House_settle := ok_House_settle (P := P) (w := w) (base := base) e
  have G_House_set_room := ok_House_set_room (P := P) (w := w) (base := base) e
  have G_House_latest := ok_House_latest (P := P) (w := w) (base := base) e
  have G_House_least := ok_House_least (P := P) (w := w) (base := base) e
  refine ⟨_, (pss_cons (ps_if (pt_cmpR op_eqN (pv 1) pe_int (nomark _))
    (pss_one (ps_ret (pe_methE (pv 0) e.c_House e.m_House_outside G_House_outside (hr.mono (by decide)) (pa_cons (pe_ix ix_listN (pv 2) pe_int (fun _ _ => rfl)) (pa_cons (pe_ix ix_listN (pv 2) pe_int (fun _ _ => rfl)) pa_nil)))))
    pss_nil)
    (pss_cons (ps_if (pt_cmpR op_eqN (pv 1) pe_int (nomark _))
    (pss_one (ps_ret (pe_methE (pv 0) e.c_House e.m_House_heat G_House_heat (hr.mono (by decide)) (pa_cons (pe_ix ix_listN (pv 2) pe_int (fun _ _ => rfl)) (pa_cons (pe_ix ix_listN (pv 2) pe_int (fun _ _ => rfl)) pa_nil)))))
    pss_nil)
    (pss_cons (ps_if (pt_cmpR op_eqN (pv 1) pe_int (nomark _))
    (pss_one (ps_ret (pe_methE (pv 0) e.c_House e.m_House_settle G_House_settle (hr.mono (by decide)) (pa_cons (pe_ix ix_listN (pv 2) pe_int (fun _ _ => rfl)) (pa_cons (pe_ix ix_listN (pv 2) pe_int (fun _ _ => rfl)) pa_nil)))))
    pss_nil)
    (pss_cons (ps_if (pt_cmpR op_eqN (pv 1) pe_int (nomark _))
    (pss_one (ps_ret (pe_methE (pv 0) e.c_House e.m_House_set_room G_House_set_room (hr.mono (by decide)) (pa_cons (pe_ix ix_listN (pv 2) pe_int (fun _ _ => rfl)) (pa_cons (pe_ix ix_listN (pv 2) pe_int (fun _ _ => rfl)) pa_nil)))))
    pss_nil)
    (pss_cons (ps_if (pt_cmpR op_eqN (pv 1) pe_int (nomark _))
    (pss_one (ps_ret (pe_methE (pv 0) e.c_House e.m_House_latest G_House_latest (hr.mono (by decide)) (pa_cons (pe_ix ix_listN (pv 2) pe_int (fun _ _ => rfl)) (pa_cons (pe_ix ix_listN (pv 2) pe_int (fun _ _ => rfl)) (pa_cons (pe_ix ix_listN (pv 2) pe_int (fun _ _ => rfl)) pa_nil))))))
    pss_nil)
    (pss_one (ps_ret (pe_methE (pv 0) e.c_House e.m_House_least G_House_least (hr.mono (by decide)) (pa_cons (pe_ix ix_listN (pv 2) pe_int (fun _ _ => rfl)) (pa_cons (pe_ix ix_listN (pv 2) pe_int (fun _ _ => rfl)) (pa_cons (pe_ix ix_listN (pv 2) pe_int (fun _ _ => rfl)) pa_nil))))))))))), ?_⟩
  obtain ⟨anch, F, r, s, c, o, xs, rfl, I, ho, l2, l3, hc, q⟩ := hsp
  rw [st_long_answer]
  have gh := I.x.g 0
  unfold longH at q
  have g0 := at_i0 (l := xs) (by omega)
  have g1 := at_i1 (l := xs) (by omega)
  refine st_seq ?_
  simp only [ev3, ev, ev2, ev4, sl, eq1, exl, exists_and_left, and_assoc, true_and, at0, at1, at2, Int.toNat_natCast, gh, ho, g0, g1]
  by_cases h2 : c = 2
  · rw [if_pos (decide_eq_true h2)]
    rw [if_pos h2] at q
    exact ⟨hF_no r s, F, r, s, _, _, rfl, I, q⟩
  rw [if_neg (by rw [decide_eq_false h2]; decide)]
  rw [if_neg h2] at q
  refine st_seq ?_
  simp only [ev3, ev, ev2, ev4, sl, eq1, exl, exists_and_left, and_assoc, true_and, at0, at1, at2, Int.toNat_natCast, gh, ho, g0, g1]
  by_cases h3 : c = 3
  · rw [if_pos (decide_eq_true h3)]
    rw [if_pos h3] at q
    exact ⟨hF_no r s, F, r, s, _, _, rfl, I, q⟩
  rw [if_neg (by rw [decide_eq_false h3]; decide)]
  rw [if_neg h3] at q
  refine st_seq ?_
  simp only [ev3, ev, ev2, ev4, sl, eq1, exl, exists_and_left, and_assoc, true_and, at0, at1, at2, Int.toNat_natCast, gh, ho, g0, g1]
  by_cases h10 : c = 10
  · rw [if_pos (decide_eq_true h10)]
    rw [if_pos h10] at q
    exact ⟨hF_no r s, anch, F, r, s, _, _, rfl, I, q⟩
  rw [if_neg (by rw [decide_eq_false h10]; decide)]
  rw [if_neg h10] at q
  refine st_seq ?_
  simp only [ev3, ev, ev2, ev4, sl, eq1, exl, exists_and_left, and_assoc, true_and, at0, at1, at2, Int.toNat_natCast, gh, ho, g0, g1]
  by_cases h15 : c = 15
  · rw [if_pos (decide_eq_true h15)]
    rw [if_pos h15] at q
    exact ⟨hF_no r s, F, r, s, _, _, rfl, I, q⟩
  rw [if_neg (by rw [decide_eq_false h15]; decide)]
  rw [if_neg h15] at q
  have g2 := at_i2 (l := xs) (l3 (by omega))
  refine st_seq ?_
  simp only [ev3, ev, ev2, ev4, sl, eq1, exl, exists_and_left, and_assoc, true_and, at0, at1, at2, Int.toNat_natCast, gh, ho, g0, g1, g2]
  by_cases h13 : c = 13
  · rw [if_pos (decide_eq_true h13)]
    rw [if_pos h13] at q
    exact ⟨hF_no r s, F, r, s, _, _, _, rfl, I, q⟩
  rw [if_neg (by rw [decide_eq_false h13]; decide)]
  rw [if_neg h13] at q
  exact ⟨hF_no r s, anch, F, r, s, _, _, _, rfl, I, q⟩
/-- one call -/
def mstep (s : HS) (c : List (List Int)) : HS × List Int := match c with
  | [[0], t] => buildH s (t.map Int.toNat)
  | [[12, n], lo, hi] => bracketH s n lo hi
  | [[1]] => textH s
  | [[7]] => booksH s
  | [[9]] => restH s
  | [[16]] => clockH s
  | [[4, n]] => runH s n
  | [[5, n]] => tempH s n
  | [[6, n]] => traceH s n
  | [[8, n]] => flowH s n
  | [[11, n]] => halveH s n
  | [[2, n, t]] => outsideH s n t
  | [[3, n, t]] => heatH s n t
  | [[10, n, t]] => settleH s n t
  | [[15, n, t]] => setH s n t
  | [[13, n, t, m]] => latestH s n t m
  | [[14, n, t, m]] => leastH s n t m
  | _ => (s, [])
/-- the calls there are -/
inductive Call1 : List (List Int) → Prop
  | build (t : List Int) : t.length ≤ 4000 → (∀ x ∈ t, 0 ≤ x ∧ x ≤ 255) → Call1 [[0], t]
  | bracket (n : Int) (lo hi : List Int) : lo.length ≤ 20 → hi.length ≤ 20 → Call1 [[12, n], lo, hi]
  | plain (p : Int) : p = 1 ∨ p = 7 ∨ p = 9 ∨ p = 16 → Call1 [[p]]
  | short (p n : Int) : p = 4 ∨ p = 5 ∨ p = 6 ∨ p = 8 ∨ p = 11 → Call1 [[p, n]]
  | two (p n t : Int) : p = 2 ∨ p = 3 ∨ p = 10 ∨ p = 15 → Call1 [[p, n, t]]
  | three (p n t m : Int) : p = 13 ∨ p = 14 → Call1 [[p, n, t, m]]
theorem mplain {s : HS} {p : Int} (h : p = 1 ∨ p = 7 ∨ p = 9 ∨ p = 16) : mstep s [[p]] = plainH s p := by
  rcases h with rfl | rfl | rfl | rfl <;> rfl
theorem mshort {s : HS} {p n : Int} (h : p = 4 ∨ p = 5 ∨ p = 6 ∨ p = 8 ∨ p = 11) : mstep s [[p, n]] = shortH s p n := by
  rcases h with rfl | rfl | rfl | rfl | rfl <;> rfl
theorem mtwo {s : HS} {p n t : Int} (h : p = 2 ∨ p = 3 ∨ p = 10 ∨ p = 15) : mstep s [[p, n, t]] = longH s p [n, t] := by
  rcases h with rfl | rfl | rfl | rfl <;> rfl
theorem mthree {s : HS} {p n t m : Int} (h : p = 13 ∨ p = 14) : mstep s [[p, n, t, m]] = longH s p [n, t, m] := by
  rcases h with rfl | rfl <;> rfl
theorem drop_at {xs l r : List Int} {i j : Nat} {x : Int} (h : xs.drop i = l ++ r) (hj : l[j]? = some x) : xs[i + j]? = some x := by
  rw [← List.getElem?_drop, h, List.getElem?_append_left (List.getElem?_eq_some_iff.mp hj).1]
  exact hj
theorem drop_le {xs l r : List Int} {i : Nat} (h : xs.drop i = l ++ r) (hi : i ≤ xs.length) : i + l.length ≤ xs.length := by
  have := congrArg List.length h
  rw [List.length_drop, List.length_append] at this
  omega
theorem drop_cut {xs l r : List Int} {i j k : Nat} (h : xs.drop i = l ++ r) (hl : j + k ≤ l.length) : (xs.drop (i + j)).take k = (l.drop j).take k := by
  rw [← List.drop_drop, h, List.drop_append_of_le_length (by omega), List.take_append_of_le_length (by rw [List.length_drop]; omega)]
theorem nameI_toNat {t : List Int} (h : ∀ x ∈ t, 0 ≤ x ∧ x ≤ 255) : nameI (t.map Int.toNat) = t := by
  unfold nameI
  rw [List.map_map]
  have := List.map_congr_left (f := (fun n : Nat => (n : Int)) ∘ Int.toNat) (g := fun x => x) (l := t) fun x hx => by
    have := h x hx
    show ((x.toNat : Nat) : Int) = x
    omega
  rw [this, List.map_id']
theorem sz2 : (2 : Nat) ≤ sizeLine := by decide
def sp_answer_at (K : PySem.W.Frag) : Sp := fun vs H Q _ => AnchOk ∧ ∃ (F : Hp) (r : HA) (s : HS) (ca : Addr) (xs : List Int) (i : Nat) (c : List (List Int)) (rest : List Int), vs = [.ref r.h, .ref ca, natV i] ∧ HI K F H r s ∧ SqL K H ca (zs xs) ∧ i ≤ xs.length ∧
  xs.drop i = PyFlat.put1 c ++ rest ∧ Call1 c ∧ ∀ F' H' u t r', r'.h = r.h → Keeps F F' → Ext F' H' ((u, .tup [.ref t, natV (i + (PyFlat.put1 c).length)]) :: (t, .lst (zs (mstep s c).2)) :: hE K r' (mstep s c).1) → PlanS K F r s F' r' (mstep s c).1 → Q (.ref u) H'
abbrev N_answer_at : List Str := ["house", "calls", "at", "call", "octets", "end", "lower", "middle", "upper", "size"]
theorem sc_answer_at : FnScope N_answer_at ["house", "calls", "at"] (defScope s_answer_at) := ⟨rfl, rfl, rfl, by decide +kernel, rfl, by decide +kernel, by decide +kernel⟩
theorem st_answer_at (x0 x1 x2 : V) : start N_answer_at [x0, x1, x2] = [some x0, some x1, some x2, none, none, none, none, none, none, none] := rfl
theorem ok_answer_at (e : Env K mg) : Ok P w K mg base 8 (He.ga K "answer_at") ["house", "calls", "at"] (sp_answer_at K) := by
  refine ok_of e.fun_answer_at sc_answer_at (fun _ _ _ _ _ _ us hl => match us, hl with | [_, _, _], _ => rfl) (by rintro _ _ _ _ ⟨anch, F, r, s, ca, xs, i, c, rest, rfl, I, hs, hi, hd, hc, q⟩; rfl) ?_
  intro cdv A outer s0 H vs Q E hr hsp
  have sc := sc_answer_at
  have hu := hu_of hr
  have G_row_at := ok_row_at (P := P) (w := w) (base := base) e
  have G_House_build := ok_House_build (P := P) (w := w) (base := base) e
  have G_House_bracket := ok_House_bracket (P := P) (w := w) (base := base) e
  have G_plain_answer := ok_plain_answer (P := P) (w := w) (base := base) e
  have G_short_answer := ok_short_answer (P := P) (w := w) (base := base) e
  have G_long_answer := ok_long_answer (P := P) (w := w) (base := base) e
  refine ⟨_, (pss_cons (ps_set (i := 3) sc.nd rfl (Or.inl rfl) (pe_ix (ix_listK (K := K) rfl) (pv 1) (pv 2) (fun _ _ => rfl)))
    (pss_cons (ps_if (pt_cmpR op_eqN (pv 3) pe_int (nomark _))
    (pss_cons (ps_asg (pe_callE G_row_at (hr.mono (by decide)) e.g_row_at (pa_cons (pv 1) (pa_cons (pe_op op_add (pv 2) pe_int) pa_nil))) (pg_tupN (n := 2) rfl (pgs_cons (pg_name (i := 4) sc.nd rfl (Or.inl rfl)) (pgs_cons (pg_name (i := 5) sc.nd rfl (Or.inl rfl)) pgs_nil))))
    (pss_one (ps_ret (pe_tupN (pa_cons (pe_methE (pv 0) e.c_House e.m_House_build G_House_build (hr.mono (by decide)) (pa_cons (pv 4) pa_nil)) (pa_cons (pv 5) pa_nil))))))
    pss_nil)
    (pss_cons (ps_if (pt_cmpR op_eqN (pv 3) pe_int (nomark _))
    (pss_cons (ps_asg (pe_callE G_row_at (hr.mono (by decide)) e.g_row_at (pa_cons (pv 1) (pa_cons (pe_op op_add (pv 2) pe_int) pa_nil))) (pg_tupN (n := 2) rfl (pgs_cons (pg_name (i := 6) sc.nd rfl (Or.inl rfl)) (pgs_cons (pg_name (i := 7) sc.nd rfl (Or.inl rfl)) pgs_nil))))
    (pss_cons (ps_asg (pe_callE G_row_at (hr.mono (by decide)) e.g_row_at (pa_cons (pv 1) (pa_cons (pv 7) pa_nil))) (pg_tupN (n := 2) rfl (pgs_cons (pg_name (i := 8) sc.nd rfl (Or.inl rfl)) (pgs_cons (pg_name (i := 5) sc.nd rfl (Or.inl rfl)) pgs_nil))))
    (pss_one (ps_ret (pe_tupN (pa_cons (pe_methE (pv 0) e.c_House e.m_House_bracket G_House_bracket (hr.mono (by decide)) (pa_cons (pe_ix (ix_listK (K := K) rfl) (pv 1) (pe_op op_add (pv 2) pe_int) (fun _ _ => rfl)) (pa_cons (pv 6) (pa_cons (pv 8) pa_nil)))) (pa_cons (pv 5) pa_nil)))))))
    pss_nil)
    (pss_cons (ps_set (i := 9) sc.nd rfl (Or.inl rfl) (pe_sizes e.sz e.g_SIZES (pv 3) pe_int ⟨rfl, rfl, rfl, rfl⟩))
    (pss_cons (ps_if (pt_cmpR op_eqN (pv 9) pe_int (nomark _))
    (pss_one (ps_ret (pe_tupN (pa_cons (pe_callE G_plain_answer (hr.mono (by decide)) e.g_plain_answer (pa_cons (pv 0) (pa_cons (pv 3) pa_nil))) (pa_cons (pe_op op_add (pv 2) pe_int) pa_nil)))))
    pss_nil)
    (pss_cons (ps_if (pt_cmpR op_eqN (pv 9) pe_int (nomark _))
    (pss_one (ps_ret (pe_tupN (pa_cons (pe_callE G_short_answer (hr.mono (by decide)) e.g_short_answer (pa_cons (pv 0) (pa_cons (pv 3) (pa_cons (pe_ix (ix_listK (K := K) rfl) (pv 1) (pe_op op_add (pv 2) pe_int) (fun _ _ => rfl)) pa_nil)))) (pa_cons (pe_op op_add (pv 2) pe_int) pa_nil)))))
    pss_nil)
    (pss_one (ps_ret (pe_tupN (pa_cons (pe_callE G_long_answer (hr.mono (by decide)) e.g_long_answer (pa_cons (pv 0) (pa_cons (pv 3) (pa_cons (pe_slice sl_list (pv 1) (po_some (pe_op op_add (pv 2) pe_int)) (po_some (pe_op op_add (pe_op op_add (pv 2) pe_int) (pv 9)))) pa_nil)))) (pa_cons (pe_op op_add (pe_op op_add (pv 2) pe_int) (pv 9)) pa_nil))))))))))), ?_⟩
  obtain ⟨anch, F, r, s, ca, xs, i, c, rest, rfl, I, hs, hi, hd, hc, q⟩ := hsp
  rw [st_answer_at]
  have gh := I.x.g 0
  have hle := drop_le hd hi
  have at_ : ∀ {j : Nat} {x : Int}, (PyFlat.put1 c)[j]? = some x → atI (zs xs) ((i + j : Nat) : Int) = some (.int x) := fun h => zs_at (drop_at hd h)
  refine st_seq ?_
  simp only [ev3, ev, ev2, ev4, sl, eq1, exl, exists_and_left, and_assoc, true_and, at0, at1, at2, Int.toNat_natCast]
  have i1 : (i : Int) + 1 = ((i + 1 : Nat) : Int) := by omega
  have i2 : (i : Int) + 2 = ((i + 2 : Nat) : Int) := by omega
  cases hc with
  | build t ht hb =>
    refine ⟨ca, zs xs, (i : Int), _, rfl, rfl, hs, at_ (j := 0) rfl, ?_⟩
    refine st_seq ?_
    simp only [ev3, ev, ev2, ev4, sl, eq1, exl, exists_and_left, and_assoc, true_and, at0, at1, at2, Int.toNat_natCast, decide_true, if_true]
    refine st_seq ?_
    simp only [ev3, ev, ev2, ev4, sl, eq1, exl, exists_and_left, and_assoc, true_and, at0, at1, at2, Int.toNat_natCast, i1]
    have pl : PyFlat.put1 [[0], t] = 0 :: (t.length : Int) :: t := by
      show [0] ++ ((t.length : Int) :: t ++ []) = _
      rw [List.append_nil]
      rfl
    have hlen : (PyFlat.put1 [[0], t]).length = t.length + 2 := by rw [pl]; rfl
    refine ⟨ca, xs, i + 1, t.length, rfl, hs, drop_at hd (j := 1) (by rw [pl]; rfl), by omega, fun H1 u1 o1 x1 => ?_⟩
    have ecut : (xs.drop (i + 1 + 1)).take t.length = t := by
      have := drop_cut (j := 2) (k := t.length) hd (by omega)
      rw [show i + 1 + 1 = i + 2 by omega, this, pl]
      exact List.take_length
    rw [ecut] at x1
    have I1 := I.on x1.keeps
    have gh1 := I1.x.g 0
    simp only [ev3, ev, ev2, ev4, sl, eq1, exl, exists_and_left, and_assoc, true_and, at0, at1, at2, Int.toNat_natCast, x1.g 0, List.length_cons, List.length_nil, gh1]
    refine ⟨hF_no r s, F, r, s, o1, t.map Int.toNat, rfl, I1, ?_, by rw [List.length_map]; exact ht, fun s' es wf => ?_⟩
    · rw [nameI_toNat hb]
      exact x1.g 1
    · subst es
      intro F' H2 t2 r' er kF x2 pA
      refine ⟨sz2, fun u3 H3 x3 => ?_⟩
      refine q F' H3 u3 t2 r' er kF ?_ pA
      have z := x2.trans x3
      rw [hlen, show i + (t.length + 2) = i + 1 + 1 + t.length by omega]
      exact z
  | bracket n lo hi' hl1 hl2 =>
    have pl : PyFlat.put1 [[12, n], lo, hi'] = 12 :: n :: (lo.length : Int) :: (lo ++ ((hi'.length : Int) :: hi')) := by
      show [12, n] ++ ((lo.length : Int) :: lo ++ ((hi'.length : Int) :: hi' ++ [])) = _
      rw [List.append_nil]
      rfl
    have hlen : (PyFlat.put1 [[12, n], lo, hi']).length = lo.length + hi'.length + 4 := by
      rw [pl]
      simp only [List.length_cons, List.length_append]
      omega
    refine ⟨ca, zs xs, (i : Int), _, rfl, rfl, hs, at_ (j := 0) rfl, ?_⟩
    refine st_seq ?_
    simp only [ev3, ev, ev2, ev4, sl, eq1, exl, exists_and_left, and_assoc, true_and, at0, at1, at2, Int.toNat_natCast, show decide ((12 : Int) = 0) = false from rfl, Bool.false_eq_true, if_false]
    refine st_seq ?_
    simp only [ev3, ev, ev2, ev4, sl, eq1, exl, exists_and_left, and_assoc, true_and, at0, at1, at2, Int.toNat_natCast, decide_true, if_true]
    refine st_seq ?_
    simp only [ev3, ev, ev2, ev4, sl, eq1, exl, exists_and_left, and_assoc, true_and, at0, at1, at2, Int.toNat_natCast, i2]
    refine ⟨ca, xs, i + 2, lo.length, rfl, hs, drop_at hd (j := 2) (by rw [pl]; rfl), by omega, fun H1 u1 o1 x1 => ?_⟩
    have ecut : (xs.drop (i + 2 + 1)).take lo.length = lo := by
      have := drop_cut (j := 3) (k := lo.length) hd (by omega)
      rw [show i + 2 + 1 = i + 3 by omega, this, pl]
      exact List.take_left
    rw [ecut] at x1
    simp only [ev3, ev, ev2, ev4, sl, eq1, exl, exists_and_left, and_assoc, true_and, at0, at1, at2, Int.toNat_natCast, x1.g 0, List.length_cons, List.length_nil]
    refine st_seq ?_
    simp only [ev3, ev, ev2, ev4, sl, eq1, exl, exists_and_left, and_assoc, true_and, at0, at1, at2, Int.toNat_natCast]
    have hs1 := SqL.keep hs x1.keeps
    refine ⟨ca, xs, i + 2 + 1 + lo.length, hi'.length, rfl, hs1, ?_, by omega, fun H2 u2 o2 x2 => ?_⟩
    · rw [show i + 2 + 1 + lo.length = i + (lo.length + 3) by omega]
      refine drop_at hd ?_
      rw [pl]
      show (lo ++ ((hi'.length : Int) :: hi'))[lo.length]? = _
      rw [List.getElem?_append_right (Nat.le_refl _), Nat.sub_self]
      rfl
    have ecut2 : (xs.drop (i + 2 + 1 + lo.length + 1)).take hi'.length = hi' := by
      have := drop_cut (j := lo.length + 4) (k := hi'.length) hd (by omega)
      rw [show i + 2 + 1 + lo.length + 1 = i + (lo.length + 4) by omega, this, pl]
      have e : (12 :: n :: (lo.length : Int) :: (lo ++ ((hi'.length : Int) :: hi'))).drop (lo.length + 4) = hi' := by
        show (lo ++ ((hi'.length : Int) :: hi')).drop (lo.length + 1) = hi'
        rw [List.drop_append, List.drop_of_length_le (by omega), Nat.add_sub_cancel_left]
        rfl
      rw [e]
      exact List.take_length
    rw [ecut2] at x2
    have x12 := x1.trans x2
    have I2 := I.on x12.keeps
    have gh2 := I2.x.g 0
    simp only [ev3, ev, ev2, ev4, sl, eq1, exl, exists_and_left, and_assoc, true_and, at0, at1, at2, Int.toNat_natCast, x2.g 0, List.length_cons, List.length_nil, gh2, i1]
    refine ⟨hF_no r s, ca, zs xs, ((i + 1 : Nat) : Int), _, rfl, rfl, SqL.keep hs x12.keeps, at_ (j := 1) rfl, ?_⟩
    refine ⟨F, r, s, n, o1, o2, lo, hi', rfl, I2, x12.g 3, x12.g 1, by omega, by omega, ?_⟩
    intro F' H3 t3 r' er kF x3 pA
    refine ⟨sz2, fun u4 H4 x4 => ?_⟩
    refine q F' H4 u4 t3 r' er kF ?_ pA
    have z := x3.trans x4
    rw [hlen, show i + (lo.length + hi'.length + 4) = i + 2 + 1 + lo.length + 1 + hi'.length by omega]
    exact z
  | plain p hp =>
    have hlen : (PyFlat.put1 [[p]]).length = 1 := rfl
    refine ⟨ca, zs xs, (i : Int), _, rfl, rfl, hs, at_ (j := 0) rfl, ?_⟩
    have d0 : decide (p = 0) = false := decide_eq_false (by omega)
    have d12 : decide (p = 12) = false := decide_eq_false (by omega)
    have dz : sizeOf' p = 0 := by rcases hp with rfl | rfl | rfl | rfl <;> rfl
    refine st_seq ?_
    simp only [ev3, ev, ev2, ev4, sl, eq1, exl, exists_and_left, and_assoc, true_and, at0, at1, at2, Int.toNat_natCast, d0, Bool.false_eq_true, if_false]
    refine st_seq ?_
    simp only [ev3, ev, ev2, ev4, sl, eq1, exl, exists_and_left, and_assoc, true_and, at0, at1, at2, Int.toNat_natCast, d12, Bool.false_eq_true, if_false]
    refine st_seq ?_
    simp only [ev3, ev, ev2, ev4, sl, eq1, exl, exists_and_left, and_assoc, true_and, at0, at1, at2, Int.toNat_natCast, dz]
    refine st_seq ?_
    simp only [ev3, ev, ev2, ev4, sl, eq1, exl, exists_and_left, and_assoc, true_and, at0, at1, at2, Int.toNat_natCast, decide_true, if_true]
    refine ⟨anch, F, r, s, p, rfl, I, ?_⟩
    rw [mplain hp] at q
    intro F' H3 t3 r' er kF x3 pA
    refine ⟨sz2, fun u4 H4 x4 => ?_⟩
    refine q F' H4 u4 t3 r' er kF ?_ pA
    rw [i1] at x4
    exact x3.trans x4
  | short p n hp =>
    refine ⟨ca, zs xs, (i : Int), _, rfl, rfl, hs, at_ (j := 0) rfl, ?_⟩
    have d0 : decide (p = 0) = false := decide_eq_false (by omega)
    have d12 : decide (p = 12) = false := decide_eq_false (by omega)
    have dz : sizeOf' p = 1 := by rcases hp with rfl | rfl | rfl | rfl | rfl <;> rfl
    refine st_seq ?_
    simp only [ev3, ev, ev2, ev4, sl, eq1, exl, exists_and_left, and_assoc, true_and, at0, at1, at2, Int.toNat_natCast, d0, Bool.false_eq_true, if_false]
    refine st_seq ?_
    simp only [ev3, ev, ev2, ev4, sl, eq1, exl, exists_and_left, and_assoc, true_and, at0, at1, at2, Int.toNat_natCast, d12, Bool.false_eq_true, if_false]
    refine st_seq ?_
    simp only [ev3, ev, ev2, ev4, sl, eq1, exl, exists_and_left, and_assoc, true_and, at0, at1, at2, Int.toNat_natCast, dz]
    refine st_seq ?_
    simp only [ev3, ev, ev2, ev4, sl, eq1, exl, exists_and_left, and_assoc, true_and, at0, at1, at2, Int.toNat_natCast, show decide ((1 : Int) = 0) = false from rfl, Bool.false_eq_true, if_false]
    refine st_seq ?_
    simp only [ev3, ev, ev2, ev4, sl, eq1, exl, exists_and_left, and_assoc, true_and, at0, at1, at2, Int.toNat_natCast, decide_true, if_true, i1]
    refine ⟨ca, zs xs, ((i + 1 : Nat) : Int), _, rfl, rfl, hs, at_ (j := 1) rfl, ?_⟩
    refine ⟨F, r, s, p, n, rfl, I, ?_⟩
    rw [mshort hp] at q
    intro F' H3 t3 r' er kF x3 pA
    refine ⟨sz2, fun u4 H4 x4 => ?_⟩
    refine q F' H4 u4 t3 r' er kF ?_ pA
    rw [i2] at x4
    exact x3.trans x4
  | two p n t hp =>
    refine ⟨ca, zs xs, (i : Int), _, rfl, rfl, hs, at_ (j := 0) rfl, ?_⟩
    have d0 : decide (p = 0) = false := decide_eq_false (by omega)
    have d12 : decide (p = 12) = false := decide_eq_false (by omega)
    have dz : sizeOf' p = 2 := by rcases hp with rfl | rfl | rfl | rfl <;> rfl
    refine st_seq ?_
    simp only [ev3, ev, ev2, ev4, sl, eq1, exl, exists_and_left, and_assoc, true_and, at0, at1, at2, Int.toNat_natCast, d0, Bool.false_eq_true, if_false]
    refine st_seq ?_
    simp only [ev3, ev, ev2, ev4, sl, eq1, exl, exists_and_left, and_assoc, true_and, at0, at1, at2, Int.toNat_natCast, d12, Bool.false_eq_true, if_false]
    refine st_seq ?_
    simp only [ev3, ev, ev2, ev4, sl, eq1, exl, exists_and_left, and_assoc, true_and, at0, at1, at2, Int.toNat_natCast, dz]
    refine st_seq ?_
    simp only [ev3, ev, ev2, ev4, sl, eq1, exl, exists_and_left, and_assoc, true_and, at0, at1, at2, Int.toNat_natCast, show decide ((2 : Int) = 0) = false from rfl, Bool.false_eq_true, if_false]
    refine st_seq ?_
    simp only [ev3, ev, ev2, ev4, sl, eq1, exl, exists_and_left, and_assoc, true_and, at0, at1, at2, Int.toNat_natCast, show decide ((2 : Int) = 1) = false from rfl, Bool.false_eq_true, if_false]
    have ie : (i : Int) + 1 + 2 = ((i + 1 + 2 : Nat) : Int) := by omega
    have hl : (PyFlat.put1 [[p, n, t]]).length = 3 := rfl
    rw [ie, i1]
    refine ⟨ca, zs xs, rfl, hs, fun u hu => ?_⟩
    have x1 := Ext.new (o := HO.lst (cutV (zs xs) (some ((i + 1 : Nat) : Int)) (some ((i + 1 + 2 : Nat) : Int)))) hu
    rw [cut_zs (by omega), Nat.add_sub_cancel_left] at x1
    have ecut : (xs.drop (i + 1)).take 2 = [n, t] := by
      have := drop_cut (j := 1) (k := 2) hd (by omega)
      rw [this]
      rfl
    rw [ecut] at x1
    rw [cut_zs (by omega), Nat.add_sub_cancel_left, ecut]
    refine ⟨anch, F, r, s, p, u, [n, t], rfl, I.on x1.keeps, x1.g 0, by simp, fun _ => by simp; omega, by omega, ?_⟩
    rw [mtwo hp] at q
    intro F' H3 t3 r' er kF x3 pA
    refine ⟨sz2, fun u4 H4 x4 => ?_⟩
    refine q F' H4 u4 t3 r' er kF ?_ pA
    exact x3.trans x4
  | three p n t m hp =>
    refine ⟨ca, zs xs, (i : Int), _, rfl, rfl, hs, at_ (j := 0) rfl, ?_⟩
    have d0 : decide (p = 0) = false := decide_eq_false (by omega)
    have d12 : decide (p = 12) = false := decide_eq_false (by omega)
    have dz : sizeOf' p = 3 := by rcases hp with rfl | rfl <;> rfl
    refine st_seq ?_
    simp only [ev3, ev, ev2, ev4, sl, eq1, exl, exists_and_left, and_assoc, true_and, at0, at1, at2, Int.toNat_natCast, d0, Bool.false_eq_true, if_false]
    refine st_seq ?_
    simp only [ev3, ev, ev2, ev4, sl, eq1, exl, exists_and_left, and_assoc, true_and, at0, at1, at2, Int.toNat_natCast, d12, Bool.false_eq_true, if_false]
    refine st_seq ?_
    simp only [ev3, ev, ev2, ev4, sl, eq1, exl, exists_and_left, and_assoc, true_and, at0, at1, at2, Int.toNat_natCast, dz]
    refine st_seq ?_
    simp only [ev3, ev, ev2, ev4, sl, eq1, exl, exists_and_left, and_assoc, true_and, at0, at1, at2, Int.toNat_natCast, show decide ((3 : Int) = 0) = false from rfl, Bool.false_eq_true, if_false]
    refine st_seq ?_
    simp only [ev3, ev, ev2, ev4, sl, eq1, exl, exists_and_left, and_assoc, true_and, at0, at1, at2, Int.toNat_natCast, show decide ((3 : Int) = 1) = false from rfl, Bool.false_eq_true, if_false]
    have ie : (i : Int) + 1 + 3 = ((i + 1 + 3 : Nat) : Int) := by omega
    have hl : (PyFlat.put1 [[p, n, t, m]]).length = 4 := rfl
    rw [ie, i1]
    refine ⟨ca, zs xs, rfl, hs, fun u hu => ?_⟩
    have x1 := Ext.new (o := HO.lst (cutV (zs xs) (some ((i + 1 : Nat) : Int)) (some ((i + 1 + 3 : Nat) : Int)))) hu
    rw [cut_zs (by omega), Nat.add_sub_cancel_left] at x1
    have ecut : (xs.drop (i + 1)).take 3 = [n, t, m] := by
      have := drop_cut (j := 1) (k := 3) hd (by omega)
      rw [this]
      rfl
    rw [ecut] at x1
    rw [cut_zs (by omega), Nat.add_sub_cancel_left, ecut]
    refine ⟨anch, F, r, s, p, u, [n, t, m], rfl, I.on x1.keeps, x1.g 0, by simp, fun _ => by simp, by omega, ?_⟩
    rw [mthree hp] at q
    intro F' H3 t3 r' er kF x3 pA
    refine ⟨sz2, fun u4 H4 x4 => ?_⟩
    refine q F' H4 u4 t3 r' er kF ?_ pA
    exact x3.trans x4
theorem Ext.unabsorb {F H : Hp} {l : List (Addr × HO)} (x : Ext F H l) {f : Addr} {o : HO} (h : F f = some o) : Ext (hide [f] F) H ((f, o) :: l) := by
  refine ⟨fun b u e => x.k (hide_some e).1, fun q hq => ?_, fun q hq => ?_, ?_⟩
  · rcases List.mem_cons.mp hq with rfl | hq
    · exact x.k h
    · exact x.has q hq
  · rcases List.mem_cons.mp hq with rfl | hq
    · exact hide_in (by simp)
    · have := x.fr q hq
      unfold hide
      split
      · rfl
      · exact this
  · rw [List.map_cons, List.nodup_cons]
    refine ⟨fun hm => ?_, x.nd⟩
    obtain ⟨q, hq, e⟩ := List.mem_map.mp hm
    have := x.fr q hq
    rw [e, h] at this
    cases this
def playedM (s : HS) (cs : List (List (List Int))) : List Int := PyFlat.told (PyFlat.played mstep s cs)
theorem playedM_cons (s : HS) (c : List (List Int)) (cs : List (List (List Int))) : playedM s (c :: cs) = ((mstep s c).2.length : Int) :: ((mstep s c).2 ++ playedM (mstep s c).1 cs) := rfl
theorem mstep_wf {s : HS} (W : WfS s) {c : List (List Int)} (hc : Call1 c) (hb : ∀ t, c = [[0], t] → WfS (buildH s (t.map Int.toNat)).1) : WfS (mstep s c).1 := by
  cases hc with
  | build t _ _ => exact hb t rfl
  | bracket n lo hi _ _ => exact W
  | plain p hp => rcases hp with rfl | rfl | rfl | rfl <;> exact W
  | short p n hp =>
    rcases hp with rfl | rfl | rfl | rfl | rfl
    · exact runH_wf W n
    · exact W
    · exact W
    · exact W
    · exact W
  | two p n t hp =>
    rcases hp with rfl | rfl | rfl | rfl
    · exact outsideH_wf W n t
    · exact heatH_wf W n t
    · exact W
    · exact setH_wf W n t
  | three p n t m hp => rcases hp with rfl | rfl <;> exact W
theorem linesZ_wf : ∀ (ls : List (List Nat)) (n : Nat) (b : Vbbcab.Building), WfB b → WfB (linesZ n b ls).2.2
  | [], n, b, W => W
  | t :: r, n, b, W => by
    unfold linesZ
    split
    · exact lineZ_wf W
    · exact linesZ_wf r _ _ (lineZ_wf W)
theorem planZ_wf (t : List Nat) : WfB (planZ t).2.2 := by
  unfold planZ
  split
  · exact WfB.empty
  · split
    · exact WfB.empty
    · unfold looseEnd
      have := linesZ_wf (Vbbcab.splitAt 10 t).dropLast 0 {} WfB.empty
      split
      · exact this
      · split <;> exact this
theorem buildH_wf {s : HS} (W : WfS s) (t : List Nat) : WfS (buildH s t).1 := by
  unfold buildH
  split
  · exact W
  · exact WfS.begun (planZ_wf t)
theorem putc_pos {c : List (List Int)} (h : Call1 c) : 0 < (PyFlat.put1 c).length := by
  cases h <;> exact Nat.zero_lt_succ _
theorem put_cons (c : List (List Int)) (cs : List (List (List Int))) : PyFlat.put (c :: cs) = PyFlat.put1 c ++ PyFlat.put cs := rfl
/-- a def's promise, its own data told -/
structure OkF (P : Program) (w : World) (K : PySem.W.Frag) (mg : Str → Option Value) (base : Heap) (k : Nat) (f : Addr) (fd : FuncData) (ps : List Str) (sp : Sp) : Prop where
  ok : FnOk P w K mg base CX0 k f fd ps sp
  bs : ∀ (s : Shared) (us : List Value), us.length = ps.length → BindsTo s fd ⟨us, []⟩ (ps.zip us)
theorem ok_ofF {x qual : Str} {st : Stmt} {f : Addr} {N ps : List Str} {k : Nat} {sp : Sp} {fd : FuncData} (F : FunD K x qual (defArgs st) (defBody st) (defScope st) [] [] f fd) (S : FnScope N ps (defScope st))
    (hb : ∀ (kV doc pm : Value) (an : Option Addr) (cdv ct : Value) (us : List Value), us.length = ps.length → bindArgs (PySem.W.fnOf x qual (defArgs st) (defBody st) (defScope st) .none kV doc pm an cdv ct) ⟨us, []⟩ = pure (ps.zip us))
    (len : ∀ vs H Q E, sp vs H Q E → vs.length = ps.length)
    (hbody : ∀ (cdv : Value) (A : Around) (outer : List PySem.Env) (s : Shared) (H : Hp) (vs : List V) (Q : VK) (E : XK), Room k (A.deeper (envOfC qual (defScope st) s.heap.objs.size f cdv)) → sp vs H Q E →
      ∃ t, PSs (cxOf CX0 P w K mg base N qual (defScope st) f cdv A outer s H E).nox (defBody st) t ∧ t { nx := fun _ H' => Q .non H', rt := Q } (start N vs) H) : OkF P w K mg base (k + 1) f fd ps sp :=
  ⟨F.ok S len fun cdv A outer s H vs Q E hr h => by
    obtain ⟨t, h1, h2⟩ := hbody cdv A outer s H vs Q E hr h
    exact ⟨t, h1.nox, h2⟩, by
    obtain ⟨oc, od, dV, kV, doc, pm, an, cdv, ct, osl, rfl, lk, hcd, hD, hK⟩ := F.ex
    rcases hD with ⟨_, rfl⟩ | ⟨e, _⟩
    · exact fun s us hl => .of_eq (hb kV doc pm an cdv ct us hl)
    · exact absurd rfl e⟩
def sp_answers (K : PySem.W.Frag) : Sp := fun vs H Q _ => AnchOk ∧ ∃ (ca : Addr) (cs : List (List (List Int))), vs = [.ref ca] ∧ SqL K H ca (zs (PyFlat.put cs)) ∧ (∀ c ∈ cs, Call1 c) ∧ (playedM (begunZ {}) cs).length ≤ 10000000 ∧
  ∀ H' t, Keeps H H' → H' t = some (.lst (zs (playedM (begunZ {}) cs))) → Q (.ref t) H'
abbrev N_answers : List Str := ["calls", "house", "found", "at", "told"]
theorem sc_answers : FnScope N_answers ["calls"] (defScope s_answers) := ⟨rfl, rfl, rfl, by decide +kernel, rfl, by decide +kernel, by decide +kernel⟩
theorem st_answers (x0 : V) : start N_answers [x0] = [some x0, none, none, none, none] := rfl
theorem ok_answers (e : Env K mg) {fd : FuncData} (FD : FunD K "answers" "answers" (defArgs s_answers) (defBody s_answers) (defScope s_answers) [] [] (He.ga K "answers") fd) : OkF P w K mg base 9 (He.ga K "answers") fd ["calls"] (sp_answers K) := by
  refine ok_ofF FD sc_answers (fun _ _ _ _ _ _ us hl => match us, hl with | [_], _ => rfl) (by rintro _ _ _ _ ⟨anch, ca, cs, rfl, hs, hcs, hlen, q⟩; rfl) ?_
  intro cdv A outer s0 H vs Q E hr hsp
  have sc := sc_answers
  have hu := hu_of hr
  have G_House_init := ok_House_init (P := P) (w := w) (base := base) e
  have G_answer_at := ok_answer_at (P := P) (w := w) (base := base) e
  refine ⟨_, (pss_cons (ps_set (i := 1) sc.nd rfl (Or.inl rfl) (pe_makeN e.k_House G_House_init (hr.mono (by decide)) e.g_House))
    (pss_cons (ps_set (i := 2) sc.nd rfl (Or.inl rfl) (pe_lstN pa_nil))
    (pss_cons (ps_set (i := 3) sc.nd rfl (Or.inl rfl) pe_int)
    (pss_cons (ps_while PassesOwn.never (pt_cmpR op_lt (pv 3) (pe_callB (len_seqK (K := K) rfl) (by rfl) e.f_len bt_len (pa_cons (pv 0) pa_nil)) (nomark _))
    (pss_cons (ps_asg (pe_callE G_answer_at (hr.mono (by decide)) e.g_answer_at (pa_cons (pv 1) (pa_cons (pv 0) (pa_cons (pv 3) pa_nil)))) (pg_tupN (n := 2) rfl (pgs_cons (pg_name (i := 4) sc.nd rfl (Or.inl rfl)) (pgs_cons (pg_name (i := 3) sc.nd rfl (Or.inl rfl)) pgs_nil))))
    (pss_cons (ps_expr (pe_appN (pv 2) (pa_cons (pe_callB len_listN (by rfl) e.f_len bt_len (pa_cons (pv 4) pa_nil)) pa_nil)))
    (pss_one (ps_expr (pe_extLN (pv 2) (pa_cons (pv 4) pa_nil)))))))
    (pss_one (ps_ret (pv 2))))))), ?_⟩
  obtain ⟨anch, ca, cs, rfl, hs, hcs, hlen, q⟩ := hsp
  rw [st_answers]
  refine st_cut (fun σ H1 => ∃ F r, σ = [some (.ref ca), some (.ref r.h), none, none, none] ∧ Keeps H F ∧ HI K F H1 r (begunZ {})) (fun U hU => ?_) ?_
  · simp only [ev3, ev, ev2, ev4, sl, eq1, exl, exists_and_left, and_assoc, true_and, at0, at1, at2, Int.toNat_natCast]
    intro x dx H1 x1
    refine ⟨x, dx, rfl, x1.g 0, fun F H2 r er kF nF I => ⟨rfl, hU _ _ ⟨F, r, by rw [er], fun a o e => kF a o (fun z => ?_) (x1.k e), I⟩⟩⟩
    rw [z, x1.f 0] at e
    cases e
  rintro σ H1 ⟨F, r, rfl, kF, I⟩
  refine st_seq ?_
  simp only [ev3, ev, ev2, ev4, sl, eq1, exl, exists_and_left, and_assoc, true_and, at0, at1, at2, Int.toNat_natCast, List.length_nil]
  refine ⟨by decide, fun f H2 x2 => ?_⟩
  have y2 : Ext F H2 ((f, .lst (zs [])) :: hE K r (begunZ {})) := I.x.trans x2
  have p2 : PlanA K F r.p (begunZ {}).b := I.p
  have w2 := I.w
  clear I x2
  refine st_seq ?_
  simp only [ev3, ev, ev2, ev4, sl, eq1, exl, exists_and_left, and_assoc, true_and, at0, at1, at2, Int.toNat_natCast]
  refine st_seq ⟨fun m σ H' => ∃ (v4 : Option V) (F : Hp) (r : HA) (s : HS) (out xs rem : _) (i : Nat), m = List.length rem ∧ σ = [some (.ref ca), some (.ref r.h), some (.ref f), some (natV i), v4] ∧ Keeps H F ∧ Ext F H' ((f, .lst (zs out)) :: hE K r s) ∧ PlanA K F r.p s.b ∧ WfS s ∧ xs = PyFlat.put cs ∧
    xs.drop i = PyFlat.put rem ∧ i ≤ xs.length ∧ (∀ c ∈ rem, Call1 c) ∧ out ++ playedM s rem = playedM (begunZ {}) cs, ⟨_, _, F, r, begunZ {}, [], _, cs, 0, rfl, rfl, kF, y2, p2, w2, rfl, rfl, Nat.zero_le _, hcs, rfl⟩, ?_⟩
  rintro m σ H3 ⟨v4, F, r, s, out, xs, rem, i, rfl, rfl, kF, y, pA, W, rfl, hd, hi, hrem, hout⟩
  simp only [ev3, ev, ev2, ev4, sl, eq1, exl, exists_and_left, and_assoc, true_and, at0, at1, at2, Int.toNat_natCast]
  have hs3 : SqL K H3 ca (zs (PyFlat.put cs)) := SqL.keep hs (kF.trans y.keeps)
  refine ⟨ca, zs (PyFlat.put cs), rfl, .inl hs3, ?_⟩
  rw [zs_len]
  refine ⟨_, rfl, ?_⟩
  cases rem with
  | nil =>
    have hi2 : (PyFlat.put cs).length ≤ i := by
      have := congrArg List.length hd
      rw [List.length_drop] at this
      have e : (PyFlat.put []).length = 0 := rfl
      omega
    rw [if_neg (by rw [decide_eq_false (by omega)]; decide)]
    have e : out = playedM (begunZ {}) cs := by
      rw [← hout]
      exact (List.append_nil out).symm
    rw [← e] at q
    exact q H3 f (kF.trans y.keeps) (y.g 0)
  | cons c rem =>
    have c1 := hrem c (List.mem_cons_self ..)
    have pp := putc_pos c1
    rw [put_cons] at hd
    have hle := drop_le hd hi
    rw [if_pos (decide_eq_true (by omega))]
    rw [playedM_cons] at hout
    have tot := congrArg List.length hout
    rw [List.length_append, List.length_cons, List.length_append] at tot
    refine ⟨fun σ H' => ∃ (v4 : Option V) (F : Hp) (r : HA) (s : HS) (out : List Int) (i : Nat), σ = [some (.ref ca), some (.ref r.h), some (.ref f), some (natV i), v4] ∧ Keeps H F ∧ Ext F H' ((f, .lst (zs out)) :: hE K r s) ∧ PlanA K F r.p s.b ∧ WfS s ∧
      (PyFlat.put cs).drop i = PyFlat.put rem ∧ i ≤ (PyFlat.put cs).length ∧ out ++ playedM s rem = playedM (begunZ {}) cs, ?_, ?_⟩
    · rintro σ' H' ⟨v4, F, r, s, out, i, rfl, a1, a2, a3, a4, a5, a6, a7⟩
      exact ⟨rem.length, Nat.lt_succ_self _, v4, F, r, s, out, _, rem, rfl, i, rfl, a1, a2, a3, a4, rfl, a5, a6, fun c hc => hrem c (List.mem_cons_of_mem _ hc), a7⟩
    refine st_seq ?_
    simp only [ev3, ev, ev2, ev4, sl, eq1, exl, exists_and_left, and_assoc, true_and, at0, at1, at2, Int.toNat_natCast]
    have ff := y.f 0
    have yF := y.absorb
    have kU : Keeps F (upd F f (.lst (zs out))) := Keeps.upd ff
    refine ⟨anch, upd F f (.lst (zs out)), r, s, ca, PyFlat.put cs, i, c, PyFlat.put rem, rfl, ⟨yF, pA.mono kU, W⟩, hs3, hi, hd, c1, fun F' H' u t r' er kF' x pS => ?_⟩
    have gf : F' f = some (.lst (zs out)) := kF' _ _ upd_same
    have z := x.unabsorb gf
    have z : Ext (hide [f] F') H' ((f, .lst (zs out)) :: (u, .tup [.ref t, natV (i + (PyFlat.put1 c).length)]) :: (t, .lst (zs (mstep s c).2)) :: hE K r' (mstep s c).1) := z
    have pH : PlanA K (hide [f] F') r'.p (mstep s c).1.b := by
      refine pS.2 f (zs out) upd_same ?_
      have e : hide [f] (upd F f (.lst (zs out))) = F := by
        funext a
        by_cases h : a = f
        · rw [h, hide_in (by simp)]
          exact ff.symm
        · rw [hide_ne (by simpa using h), upd_ne h]
      rw [e]
      exact pA
    have kH : Keeps H (hide [f] F') := fun a o e => by
      have h1 := kF _ _ e
      rw [hide_ne fun hm => ?_]
      · exact kF' _ _ (kU _ _ h1)
      · rw [List.mem_singleton.mp hm, ff] at h1
        cases h1
    simp only [ev3, ev, ev2, ev4, sl, eq1, exl, exists_and_left, and_assoc, true_and, at0, at1, at2, Int.toNat_natCast, x.g 0, List.length_cons, List.length_nil]
    refine st_seq ?_
    simp only [ev3, ev, ev2, ev4, sl, eq1, exl, exists_and_left, and_assoc, true_and, at0, at1, at2, Int.toNat_natCast, z.g 0, z.g 2, zs_len]
    refine ⟨Nat.lt_of_lt_of_le (by omega : out.length < 10000001) (by decide), fun H5 pt => ?_⟩
    have z5 := z.put 0 rfl pt
    simp only [ev3, ev, ev2, ev4, sl, eq1, exl, exists_and_left, and_assoc, true_and, at0, at1, at2, Int.toNat_natCast, z5.g 0, z5.g 2]
    refine ⟨Nat.le_trans (by simp only [List.length_append, List.length_singleton, zs_len]; omega : _ ≤ 10000001) (by decide), fun H6 pt6 => ?_⟩
    have z6 := z5.put 0 rfl pt6
    have eo : (zs out ++ [V.int ((mstep s c).2.length : Int)]) ++ zs (mstep s c).2 = zs ((out ++ [((mstep s c).2.length : Int)]) ++ (mstep s c).2) := by rw [zs_app, zs_app]; rfl
    rw [eo] at z6
    refine ⟨_, hide [f] F', r', er.symm, (mstep s c).1, (out ++ [((mstep s c).2.length : Int)]) ++ (mstep s c).2, i + (PyFlat.put1 c).length, rfl, rfl, kH, z6.pick [0, 3, 4, 5, 6, 7] (by decide), pH, mstep_wf W c1 (fun t _ => buildH_wf W _), ?_, hle, ?_⟩
    · rw [← List.drop_drop, hd, List.drop_left]
    · rw [← hout, List.append_assoc, List.append_assoc]
      rfl
end
end WR
end PartWx
section PartWEnd
set_option Elab.async false
set_option linter.all false
set_option maxRecDepth 100000
set_option maxHeartbeats 0
namespace WR
open PySem PySem.Spec PyProof.Rows L2 WH
theorem walk_specE {r : PySem.W.OpenSpec} {k : Nat} {q : Program} {loose : List Str} {XP : (Str → Option Value) → Heap → Prop} {YP : World → Heap → Prop} {d : DefRec} {CX : CXT} {ps : List Str}
    (hwell : r.wellSaid = true) (hlen : r.args.length = ps.length) (hr : Room k callerA)
    (F : ∀ (w : World) (mg : Str → Option Value) (fa : Addr) (h : Heap), YP w h → h.Ns mainGlobals mg → mg d.name = some (.ref fa) →
      ∃ (K : PySem.W.Frag) (fd : FuncData) (sp : Sp), K.In h ∧ (∀ (s : Shared) (us : List Value), us.length = ps.length → BindsTo s fd ⟨us, []⟩ (ps.zip us)) ∧
        (∀ (H : Hp) (xs : List V) (a : PySem.W.Codec.denoteAll r.args), OnlyF H → PySem.W.Codec.withinAll r.args a = true → PySem.W.Codec.app r.args r.asked a = true → DwAll K H xs (PySem.W.Codec.encAll r.args a) →
          sp xs H (fun v H' => Dw K H' v (r.ret.enc (PySem.W.Codec.app r.args r.f a))) fun _ _ _ => False) ∧
        ∀ base : Heap, K.In base → base.Ns mainGlobals mg → FnOk r.prog w K mg base CX k fa fd ps sp)
    (hCX : ∀ (H : Hp) (s : Shared) (e : Value) (s' : Shared), CX [] H s (fun _ _ _ => False) e s' → False) :
    PySem.W.WalkOS q loose XP YP r d [] (fun f vs => PySem.call f vs) := by
  intro w s₀ s₁ mg mb G Y fa o pm cd doc dV kV ho hd hcd hD hmg hg args vals as hpre hlay hrd hwl hlo
  obtain ⟨a, e1, e2⟩ := PySem.W.os_pre_some hpre
  obtain ⟨e3, hwi⟩ := PySem.W.Codec.encAll_of_decAll r.args args a e1
  subst e3
  obtain ⟨K, fd, sp, KX, hb, hsp, hF⟩ := F w mg fa _ Y G.T.g hmg
  refine PySem.W.enter_call (codeAny_mono (spec_call (R := []) (cl := classAt s₀.heap) (d0 := r.ret.enc (PySem.W.Codec.app r.args r.f a)) KX G.T.g G.T.b G.T.builtins G.T.nolimit hg hwl (pl_encAll _ _) (layable_weight hlay) hr hF hb (by rw [encAll_len]; exact hlen)
    (fun H xs hO hS => hsp H xs a hO hwi e2 hS) fun H e s' => hCX H s₁ e s') fun r' s' hq => ?_)
  obtain ⟨u, as', rfl, h1, h2, h3, h4⟩ := hq
  exact ⟨.inl ⟨u, _, as', rfl, fun _ => rfl, h1, (PySem.W.OpenSpec.post_iff hwell hwi _ _).mpr rfl, fun z => Bool.noConfusion (show false = true from z)⟩, h2, h3, h4⟩
/-- what is left to be shown in plain Lean -/
def MainOk : Prop := ∀ l : List Int, PyVbbcab.answers_asked l = true → ∃ cs, l = PyFlat.put cs ∧ (∀ c ∈ cs, Call1 c) ∧ (playedM (begunZ {}) cs).length ≤ 10000000 ∧ playedM (begunZ {}) cs = PyVbbcab.answers l
theorem ends_ok {K : PySem.W.Frag} (anch : AnchOk) (main : MainOk) (H : Hp) (xs : List V) (a : PySem.W.Codec.denoteAll R.args) (hw : PySem.W.Codec.withinAll R.args a = true) (hq : PySem.W.Codec.app R.args R.asked a = true) (hd : DwAll K H xs (PySem.W.Codec.encAll R.args a)) :
    sp_answers K xs H (fun v H' => Dw K H' v (R.ret.enc (PySem.W.Codec.app R.args R.f a))) fun _ _ _ => False := by
  obtain ⟨l, u⟩ := a
  have hq : PyVbbcab.answers_asked l = true := hq
  have hd : DwAll K H xs [PySem.W.WData.list (l.map PySem.W.WData.int)] := hd
  show sp_answers K xs H (fun v H' => Dw K H' v (.list ((PyVbbcab.answers l).map PySem.W.WData.int))) fun _ _ _ => False
  obtain ⟨cs, rfl, hc, hlen, he⟩ := main l hq
  cases hd with
  | cons h1 h2 =>
    cases h2
    cases h1 with
    | lst hs hv =>
      have e := ints_dw _ _ hv
      subst e
      refine ⟨anch, _, cs, rfl, hs, hc, hlen, fun H' t k ht => ?_⟩
      rw [he] at ht
      exact .lst (SqL.of ht) (dw_ints _)
theorem holds_of (anch : AnchOk) (main : MainOk) : R.Holds := by
  refine HandSHeadRun.head_spec (q := qv) (H := hk) (ob := ob) (M := 8000) (loose := nms) (d := d_ans) (kwd := []) ob_eq q_open q_fence rung q_def q_the q_kw q_shapes q_well q_ok q_bare q_some ?call
  refine walk_specE (k := 9) (ps := ["calls"]) (CX := CX0) q_well rfl ⟨rfl, by decide, by decide⟩ ?F (fun _ _ _ _ h => h)
  intro w mg fa h Y G hmg
  obtain ⟨K, X, S, sz⟩ := Y
  have e : Env K mg := ⟨S, sz, ⟨h, X, G⟩⟩
  rw [q_name] at hmg
  have ega : fa = He.ga K "answers" := by
    have := e.g_answers
    rw [hmg] at this
    cases this
    rfl
  subst ega
  obtain ⟨fd, FD⟩ := e.fun_answers
  exact ⟨K, fd, sp_answers K, X, fun s us hl => (ok_answers (P := R.prog) (w := w) (base := h) e FD).bs s us hl, fun H xs a _ hw hq hd => ends_ok anch main H xs a hw hq hd, fun base _ _ => (ok_answers e FD).ok⟩
end WR
end PartWEnd
section PartWm1
set_option Elab.async false
set_option linter.all false
set_option maxHeartbeats 1000000
/-! ### the step of the mirror is the step of the document -/
namespace WR
open Vbbcab
/-- a sum over a list -/
def sumI {α : Type} (l : List α) (f : α → Int) : Int := (l.map f).sum
theorem sumI_nil {α : Type} (f : α → Int) : sumI ([] : List α) f = 0 := rfl
theorem sumI_cons {α : Type} (x : α) (l : List α) (f : α → Int) : sumI (x :: l) f = f x + sumI l f := by
  unfold sumI
  rw [List.map_cons, List.sum_cons]
theorem sumI_congr {α : Type} {l : List α} {f g : α → Int} (h : ∀ x ∈ l, f x = g x) : sumI l f = sumI l g := by
  unfold sumI
  rw [List.map_congr_left h]
theorem getD_set (l : List Int) (i j : Nat) (x : Int) : (l.set j x).getD i 0 = if i = j ∧ j < l.length then x else l.getD i 0 := by
  rw [List.getD_eq_getElem?_getD, List.getElem?_set]
  by_cases h : j = i
  · subst h
    by_cases q : j < l.length
    · simp [q]
    · rw [if_pos rfl, if_neg q, if_neg (by omega), List.getD_eq_getElem?_getD, List.getElem?_eq_none_iff.mpr (by omega)]
  · rw [if_neg h, if_neg (by omega), List.getD_eq_getElem?_getD]
theorem bump_get {l : List Int} {j : Nat} (hj : j < l.length) (i : Nat) (a : Int) : (bump l j a).getD i 0 = l.getD i 0 + if i = j then a else 0 := by
  unfold bump
  rw [getD_set]
  by_cases h : i = j
  · subst h
    rw [if_pos ⟨rfl, hj⟩, if_pos rfl]
  · rw [if_neg (by omega), if_neg h, Int.add_zero]
theorem isOut_iff (n : Nat) : isOut n = true ↔ 100 ≤ n := decide_eq_true_iff
theorem idx_out {n : Nat} (h : isOut n = true) : idx n = n - 100 := if_pos h
theorem idx_room {n : Nat} (h : isOut n = false) : idx n = n := if_neg (by rw [h]; decide)
/-- what a link's end takes -/
theorem takeZ_room {st : List Int × List Int} {n : Nat} {a : Int} {i : Nat} (h : EndOk n st.1 st.2) (hi : i < 100) : (takeZ st n a).1.getD i 0 = st.1.getD i 0 + if n = i then a else 0 := by
  unfold EndOk at h
  unfold takeZ
  cases ho : isOut n with
  | true =>
    have := (isOut_iff n).mp ho
    rw [if_pos rfl, if_neg (by omega), Int.add_zero]
  | false =>
    rw [ho, if_neg (by decide)] at h
    rw [if_neg (by decide)]
    show (bump st.1 (idx n) a).getD i 0 = _
    rw [bump_get h, idx_room ho]
    by_cases q : i = n
    · rw [if_pos q, if_pos q.symm]
    · rw [if_neg q, if_neg (Ne.symm q)]
theorem takeZ_out {st : List Int × List Int} {n : Nat} {a : Int} {o : Nat} (h : EndOk n st.1 st.2) : (takeZ st n a).2.getD o 0 = st.2.getD o 0 + if n = 100 + o then a else 0 := by
  unfold EndOk at h
  unfold takeZ
  cases ho : isOut n with
  | true =>
    have := (isOut_iff n).mp ho
    rw [ho, if_pos rfl] at h
    rw [if_pos rfl]
    show (bump st.2 (idx n) a).getD o 0 = _
    rw [bump_get h, idx_out ho]
    by_cases q : o = n - 100
    · rw [if_pos q, if_pos (by omega)]
    · rw [if_neg q, if_neg (by omega)]
  | false =>
    have : ¬ 100 ≤ n := fun z => by rw [(isOut_iff n).mpr z] at ho; cases ho
    rw [if_neg (by decide), if_neg (by omega), Int.add_zero]
def linkIn (cells : List Int) (s : Nat) (wt : List Int) (n : Nat) (l : Link) : Int := (if l.a = n then 0 - flowZ cells s wt l else 0) + if l.b = n then flowZ cells s wt l else 0
theorem flows_sum {cells : List Int} {s : Nat} {wt : List Int} : ∀ (ls : List Link) (st : List Int × List Int), st.1.length = cells.length → st.2.length = wt.length → (∀ l ∈ ls, EndsOk l cells wt) →
    (∀ i, i < 100 → (ls.foldl (flowsStep cells s wt) st).1.getD i 0 = st.1.getD i 0 + sumI ls (linkIn cells s wt i)) ∧ ∀ o, (ls.foldl (flowsStep cells s wt) st).2.getD o 0 = st.2.getD o 0 + sumI ls (linkIn cells s wt (100 + o))
  | [], st, _, _, _ => ⟨fun i _ => by rw [sumI_nil, Int.add_zero]; rfl, fun o => by rw [sumI_nil, Int.add_zero]; rfl⟩
  | l :: r, st, h1, h2, h => by
    have ok := h l (List.mem_cons_self ..)
    have e1 : EndOk l.a st.1 st.2 := ok.1.of_len h1 h2
    have t1 := takeZ_len st l.a (0 - flowZ cells s wt l)
    have e2 : EndOk l.b (takeZ st l.a (0 - flowZ cells s wt l)).1 (takeZ st l.a (0 - flowZ cells s wt l)).2 := ok.2.1.of_len (t1.1.trans h1) (t1.2.trans h2)
    have t2 := takeZ_len (takeZ st l.a (0 - flowZ cells s wt l)) l.b (flowZ cells s wt l)
    obtain ⟨i1, i2⟩ := flows_sum r (flowsStep cells s wt st l) (t2.1.trans (t1.1.trans h1)) (t2.2.trans (t1.2.trans h2)) fun x hx => h x (List.mem_cons_of_mem _ hx)
    refine ⟨fun i hi => ?_, fun o => ?_⟩
    · rw [List.foldl_cons, i1 i hi, sumI_cons]
      unfold flowsStep linkIn
      rw [takeZ_room e2 hi, takeZ_room e1 hi]
      omega
    · rw [List.foldl_cons, i2 o, sumI_cons]
      unfold flowsStep linkIn
      rw [takeZ_out e2, takeZ_out e1]
      omega
theorem rep_get (n i : Nat) : (List.replicate n (0 : Int)).getD i 0 = 0 := by
  rw [List.getD_eq_getElem?_getD, List.getElem?_replicate]
  split <;> rfl
theorem flowsZ_room {ls : List Link} {cells : List Int} {s : Nat} {wt : List Int} (h : ∀ l ∈ ls, EndsOk l cells wt) {i : Nat} (hi : i < 100) : (flowsZ ls cells s wt).1.getD i 0 = sumI ls (linkIn cells s wt i) := by
  unfold flowsZ
  rw [(flows_sum ls _ List.length_replicate List.length_replicate h).1 i hi]
  rw [rep_get, Int.zero_add]
theorem flowsZ_out {ls : List Link} {cells : List Int} {s : Nat} {wt : List Int} (h : ∀ l ∈ ls, EndsOk l cells wt) (o : Nat) : (flowsZ ls cells s wt).2.getD o 0 = sumI ls (linkIn cells s wt (100 + o)) := by
  unfold flowsZ
  rw [(flows_sum ls _ List.length_replicate List.length_replicate h).2 o]
  rw [rep_get, Int.zero_add]
/-- sums over a room's links -/
theorem linksOf_sum (b : Building) (i : Nat) (f : Nat × Nat → Int) : sumI (linksOf b i) f = sumI b.links fun l => if l.a = i then f (l.b, l.g) else if l.b = i then f (l.a, l.g) else 0 := by
  unfold linksOf
  induction b.links with
  | nil => rfl
  | cons l r ih =>
    rw [sumI_cons, List.filterMap_cons]
    by_cases h1 : l.a = i
    · simp only [if_pos h1]
      rw [sumI_cons, ih]
    · simp only [if_neg h1]
      by_cases h2 : l.b = i
      · simp only [if_pos h2]
        rw [sumI_cons, ih]
      · simp only [if_neg h2]
        rw [ih, Int.zero_add]
/-! dyadic numbers of cells -/
theorem tempAt_map (cells : List Int) (s i : Nat) : tempAt (cells.map (shave s)) i = shave s (cells.getD i 0) := by
  unfold tempAt
  rw [List.getD_eq_getElem?_getD, List.getElem?_map, List.getD_eq_getElem?_getD]
  cases cells[i]? with
  | none => exact (shave_zero_arg s).symm
  | some x => rfl
theorem of_shave_s (s : Nat) (n : Int) : Dy.of n = shave s (n * 2 ^ s) := by
  rw [of_shave]
  have := shave_to (Nat.zero_le s) n
  rw [Nat.sub_zero] at this
  exact this
theorem nodeTemp_map (cells : List Int) (s : Nat) (wt : List Int) (lv : List Nat) (n : Nat) : nodeTemp ⟨wt, lv⟩ (cells.map (shave s)) n = shave s (warmZ cells s wt n) := by
  unfold nodeTemp warmZ
  cases h : isOut n with
  | true =>
    rw [if_pos rfl, if_pos rfl, of_shave_s s, idx_out h]
    rfl
  | false =>
    rw [if_neg (by decide), if_neg (by decide), tempAt_map, idx_room h]
theorem warm_room (cells : List Int) (s : Nat) (wt : List Int) {i : Nat} (hi : i < 100) : warmZ cells s wt i = cells.getD i 0 := by
  have ho : isOut i = false := Bool.eq_false_iff.mpr fun z => by have := (isOut_iff i).mp z; omega
  unfold warmZ
  rw [ho, if_neg (by decide), idx_room ho]
theorem inflow_map {b : Building} (B : WfB b) {cells wt : List Int} (lv : List Nat) (s : Nat) (hc : cells.length = b.rooms.length) (hw : wt.length = b.outs.length) {i : Nat} (hi : i < 100) :
    inflow b ⟨wt, lv⟩ (cells.map (shave s)) i = shave (s + 6) ((flowsZ b.links cells s wt).1.getD i 0) := by
  unfold inflow
  have e : (linksOf b i).map (fun x => ((nodeTemp ⟨wt, lv⟩ (cells.map (shave s)) x.1).sub (tempAt (cells.map (shave s)) i)).times (x.2 : Int)) = ((linksOf b i).map fun x => (warmZ cells s wt x.1 - cells.getD i 0) * (x.2 : Int)).map fun n => shave s n := by
    rw [List.map_map]
    refine List.map_congr_left fun x _ => ?_
    rw [nodeTemp_map, tempAt_map, sub_shave, times_shave]
    rfl
  rw [e, sum_shave, over_shave]
  show shave (s + 6) _ = _
  congr 1
  rw [flowsZ_room (B.links hc hw).2 hi]
  show sumI (linksOf b i) _ = _
  rw [linksOf_sum]
  refine sumI_congr fun l hl => ?_
  have ap := (B.apart l hl).1
  unfold linkIn flowZ
  have hwr := warm_room cells s wt hi
  by_cases h1 : l.a = i
  · rw [if_pos h1, if_pos h1, if_neg (by omega), h1, hwr]
    show (warmZ cells s wt l.b - cells.getD i 0) * (l.g : Int) = _
    rw [Int.mul_comm, Int.add_zero, Int.mul_sub, Int.mul_sub]
    omega
  · rw [if_neg h1, if_neg h1]
    by_cases h2 : l.b = i
    · rw [if_pos h2, if_pos h2, h2, hwr, Int.zero_add]
      exact Int.mul_comm _ _
    · rw [if_neg h2, if_neg h2]
      rfl
end WR
end PartWm1
section PartWm2
set_option Elab.async false
set_option linter.all false
set_option maxHeartbeats 1000000
namespace WR
open Vbbcab
theorem total_eq (l : List Nat) : ((total l : Nat) : Int) = (l.map fun n : Nat => (n : Int)).sum := by
  unfold total
  have h : ∀ (l : List Nat) (a : Nat), ((l.foldl (fun a b => a + b) a : Nat) : Int) = (a : Int) + (l.map fun n : Nat => (n : Int)).sum := by
    intro l
    induction l with
    | nil => intro a; simp
    | cons x r ih =>
      intro a
      rw [List.foldl_cons, ih, List.map_cons, List.sum_cons]
      omega
  rw [h]
  simp
/-- what heaters give a room -/
theorem heats_sum : ∀ (hs : List Heater) (lv : List Nat) (f : List Int) (i : Nat), (∀ h ∈ hs, h.room < f.length) → lv.length = hs.length →
    ((hs.zip lv).foldl heatsStep f).getD i 0 = f.getD i 0 + sumI (hs.zip lv) fun x => if x.1.room = i then (x.2 : Int) else 0
  | [], _, f, i, _, _ => by simp [sumI]
  | h :: hs, [], f, i, _, hl => by cases hl
  | h :: hs, v :: lv, f, i, hr, hl => by
    rw [List.zip_cons_cons, List.foldl_cons, sumI_cons]
    rw [heats_sum hs lv (heatsStep f (h, v)) i (fun x hx => by unfold heatsStep; rw [bump_len]; exact hr x (List.mem_cons_of_mem _ hx)) (Nat.succ.inj hl)]
    unfold heatsStep
    rw [bump_get (hr h (List.mem_cons_self ..))]
    by_cases q : i = h.room
    · simp only [if_pos q, if_pos q.symm]
      omega
    · simp only [if_neg q, if_neg (Ne.symm q)]
      omega
theorem zip_range {hs : List Heater} {lv : List Nat} (hl : lv.length = hs.length) (i : Nat) : ∀ (k : Nat) (pre : List Nat), pre.length = k →
    ((List.range' k hs.length).zip hs).map (fun x => if x.2.room = i then (pre ++ lv).getD x.1 0 else 0) = (hs.zip lv).map fun x => if x.1.room = i then x.2 else 0 := by
  induction hs generalizing lv with
  | nil => intro k pre _; rfl
  | cons h hs ih =>
    intro k pre hp
    cases lv with
    | nil => cases hl
    | cons v lv =>
      rw [List.length_cons, List.range'_succ, List.zip_cons_cons, List.map_cons, List.zip_cons_cons, List.map_cons]
      have e : pre ++ v :: lv = (pre ++ [v]) ++ lv := by rw [List.append_assoc]; rfl
      have e0 : (pre ++ v :: lv).getD k 0 = v := by
        rw [List.getD_eq_getElem?_getD, List.getElem?_append_right (by omega), hp, Nat.sub_self]
        rfl
      rw [e] at *
      rw [ih (Nat.succ.inj hl) (k + 1) (pre ++ [v]) (by rw [List.length_append, hp]; rfl)]
      rw [e0]
theorem heatIn_eq {b : Building} (B : WfB b) {wt : List Int} {lv : List Nat} (hl : lv.length = b.heaters.length) (i : Nat) : ((heatIn b ⟨wt, lv⟩ i : Nat) : Int) = (heatsZ b.rooms.length b.heaters lv).getD i 0 := by
  unfold heatIn
  have e := zip_range (hs := b.heaters) hl i 0 [] rfl
  rw [List.nil_append] at e
  rw [List.range_eq_range', e, total_eq, List.map_map]
  unfold heatsZ
  rw [heats_sum b.heaters lv _ i (fun h hh => by rw [List.length_replicate]; exact B.hroom h hh) hl, rep_get, Int.zero_add]
  show _ = ((b.heaters.zip lv).map _).sum
  congr 1
  refine List.map_congr_left fun x _ => ?_
  show ((if x.1.room = i then x.2 else 0 : Nat) : Int) = if x.1.room = i then (x.2 : Int) else 0
  split <;> rfl
theorem range_getD (l : List Int) {n : Nat} (h : l.length = n) (f : Int → Dy) : (List.range n).map (fun i => f (l.getD i 0)) = l.map f := by
  subst h
  refine List.ext_getElem (by simp) fun i h1 h2 => ?_
  rw [List.length_map, List.length_range] at h1
  simp [h1]
/-- one step -/
theorem stepped_map {b : Building} (B : WfB b) {cells wt : List Int} {lv : List Nat} (s : Nat) (hc : cells.length = b.rooms.length) (hw : wt.length = b.outs.length) (hl : lv.length = b.heaters.length) :
    stepped b ⟨wt, lv⟩ (cells.map (shave s)) = (stepZ b cells s wt lv).map (shave (s + wideZ b)) := by
  unfold stepped stepZ
  rw [List.map_map, hc]
  refine List.map_congr_left fun i hi => ?_
  have hi := List.mem_range.mp hi
  have n1 := B.nr
  have hcw := capOf_le_wide b i
  show _ = shave (s + wideZ b) (stepAt b cells s (flowsZ b.links cells s wt).1 (heatsZ b.rooms.length b.heaters lv) i)
  rw [tempAt_map, inflow_map B lv s hc hw (by omega), of_shave_s (s + 6), add_shave, over_shave, heatIn_eq B hl]
  have e1 := shave_to (show s ≤ s + wideZ b by omega) (cells.getD i 0)
  have e2 := shave_to (show s + 6 + capOf b i ≤ s + wideZ b by omega) ((flowsZ b.links cells s wt).1.getD i 0 + (heatsZ b.rooms.length b.heaters lv).getD i 0 * 2 ^ (s + 6))
  rw [e1, e2, add_shave]
  unfold stepAt
  rw [show s + wideZ b - s = wideZ b by omega, show s + wideZ b - (s + 6 + capOf b i) = wideZ b - 6 - capOf b i by omega]
theorem steps_map {b : Building} (B : WfB b) {wt : List Int} {lv : List Nat} (hw : wt.length = b.outs.length) (hl : lv.length = b.heaters.length) : ∀ (n : Nat) (cells : List Int) (s : Nat), cells.length = b.rooms.length →
    steps b ⟨wt, lv⟩ n (cells.map (shave s)) = (gonZ b wt lv n cells s).1.map (shave (gonZ b wt lv n cells s).2)
  | 0, cells, s, _ => rfl
  | n + 1, cells, s, hc => by
    unfold steps gonZ
    rw [stepped_map B s hc hw hl]
    exact steps_map B hw hl n _ _ (stepZ_len.trans hc)
theorem outflow_map {b : Building} (B : WfB b) {cells wt : List Int} (lv : List Nat) (s : Nat) (hc : cells.length = b.rooms.length) (hw : wt.length = b.outs.length) (o : Nat) :
    outflow b ⟨wt, lv⟩ (cells.map (shave s)) o = shave (s + 6) ((flowsZ b.links cells s wt).2.getD o 0) := by
  unfold outflow
  rw [flowsZ_out (B.links hc hw).2]
  have e : b.links.map (fun k =>
      let at_ (n m : Nat) : Dy := if n = OUT + o then ((nodeTemp ⟨wt, lv⟩ (cells.map (shave s)) m).sub (.of (outAt ⟨wt, lv⟩ o))).times (k.g : Int) else .of 0
      (at_ k.a k.b).add (at_ k.b k.a)) = (b.links.map (linkIn cells s wt (100 + o))).map fun n => shave s n := by
    rw [List.map_map]
    refine List.map_congr_left fun k hk => ?_
    show Dy.add (if k.a = OUT + o then ((nodeTemp ⟨wt, lv⟩ (cells.map (shave s)) k.b).sub (.of (outAt ⟨wt, lv⟩ o))).times (k.g : Int) else .of 0) (if k.b = OUT + o then ((nodeTemp ⟨wt, lv⟩ (cells.map (shave s)) k.a).sub (.of (outAt ⟨wt, lv⟩ o))).times (k.g : Int) else .of 0) = shave s (linkIn cells s wt (100 + o) k)
    have ho : warmZ cells s wt (100 + o) = wt.getD o 0 * 2 ^ s := by
      have q : isOut (100 + o) = true := (isOut_iff _).mpr (by omega)
      unfold warmZ
      rw [q, if_pos rfl, idx_out q, Nat.add_sub_cancel_left]
    have e1 : ∀ m, ((nodeTemp ⟨wt, lv⟩ (cells.map (shave s)) m).sub (.of (outAt ⟨wt, lv⟩ o))).times (k.g : Int) = shave s ((warmZ cells s wt m - wt.getD o 0 * 2 ^ s) * (k.g : Int)) := fun m => by
      rw [nodeTemp_map, of_shave_s s, sub_shave, times_shave]
      rfl
    have e0 : Dy.of 0 = shave s 0 := (shave_zero_arg s).symm
    rw [e1, e1, e0]
    have e2 : ∀ (c : Prop) [Decidable c] (x y : Int), (if c then shave s x else shave s y) = shave s (if c then x else y) := fun c _ x y => by split <;> rfl
    rw [e2, e2, add_shave]
    congr 1
    unfold linkIn flowZ
    rw [← ho]
    show (if k.a = 100 + o then _ else _) + (if k.b = 100 + o then _ else _) = _
    by_cases h1 : k.a = 100 + o
    · rw [if_pos h1, if_pos h1, h1]
      by_cases h2 : k.b = 100 + o
      · rw [if_pos h2, if_pos h2, h2, Int.sub_self, Int.zero_mul, Int.mul_zero]
        rfl
      · rw [if_neg h2, if_neg h2, Int.mul_comm, Int.mul_sub, Int.mul_sub]
        omega
    · rw [if_neg h1, if_neg h1]
      by_cases h2 : k.b = 100 + o
      · rw [if_pos h2, if_pos h2, h2, Int.mul_comm]
      · rw [if_neg h2, if_neg h2]
  rw [e, sum_shave, over_shave]
  rfl
theorem held_map (b : Building) (cells : List Int) (s : Nat) (hc : cells.length = b.rooms.length) : held b (cells.map (shave s)) = shave s (((List.range cells.length).map fun i => cells.getD i 0 * 2 ^ capOf b i).sum) := by
  unfold held
  have e : (List.range b.rooms.length).map (fun i => (tempAt (cells.map (shave s)) i).times (2 ^ capOf b i : Nat)) = ((List.range cells.length).map fun i => cells.getD i 0 * 2 ^ capOf b i).map fun n => shave s n := by
    rw [List.map_map, hc]
    refine List.map_congr_left fun i _ => ?_
    show (tempAt (cells.map (shave s)) i).times _ = shave s (cells.getD i 0 * 2 ^ capOf b i)
    rw [tempAt_map, times_shave]
    congr 2
  rw [e, sum_shave]
end WR
end PartWm2
section PartWm3
set_option Elab.async false
set_option linter.all false
set_option maxHeartbeats 1000000
namespace WR
open Vbbcab
/-- what the house's state stands for -/
def toSpec (s : HS) : State := { b := s.b, w := ⟨s.wt, s.lv⟩, temps := s.cells.map (shave s.shift), clock := s.clock, given := s.given, gone := s.gone.map (shave (s.shift + 6)) }
abbrev SimAt (s : HS) (c : Call) (x : HS × List Int) : Prop := step (toSpec s) c = (toSpec x.1, x.2)
section
variable {s : HS} (W : WfS s)
include W
theorem sim_clock : SimAt s .clock (clockH s) := by
  show (toSpec s, _) = (toSpec s, _)
  congr 1
theorem sim_outside (o t : Int) : SimAt s (.outside o t) (outsideH s o t) := by
  have lw := W.w.lw
  show (if inside o 1 (s.b.outs.length : Int) = false then no (toSpec s) (-1) else if inside t (-100000) 100000 = false then no (toSpec s) (-2) else ({ toSpec s with w := { (toSpec s).w with outs := s.wt.set (o.toNat - 1) t } }, [0])) = _
  unfold outsideH
  rw [lw]
  split
  · rfl
  · split
    · rfl
    · rfl
theorem sim_heat (h u : Int) : SimAt s (.heat h u) (heatH s h u) := by
  have ll := W.w.ll
  show (if inside h 1 (s.b.heaters.length : Int) = false then no (toSpec s) (-1) else if inside u 0 ((((s.b.heaters[h.toNat - 1]?).map fun x => x.most).getD 0 : Nat) : Int) = false then no (toSpec s) (-2) else ({ toSpec s with w := { (toSpec s).w with heat := s.lv.set (h.toNat - 1) u.toNat } }, [0])) = _
  unfold heatH
  rw [ll]
  split
  · rfl
  · split
    · rfl
    · rfl
theorem sim_set (i t : Int) : SimAt s (.set_ i t) (setH s i t) := by
  have cl := W.cl
  have lw := W.w.lw
  show (if inside i 1 (s.b.rooms.length : Int) = false then no (toSpec s) (-1) else if inside t (-100000) 100000 = false then no (toSpec s) (-2) else
    ({ toSpec s with temps := (s.cells.map (shave s.shift)).set (i.toNat - 1) (.of t), given := 0, gone := s.b.outs.map fun _ => .of 0 }, [0])) = _
  unfold setH hasRoom
  rw [cl]
  split
  · rfl
  · split
    · rfl
    · show ({ toSpec s with temps := (s.cells.map (shave s.shift)).set (i.toNat - 1) (.of t), given := 0, gone := s.b.outs.map fun _ => .of 0 }, [0]) = (toSpec _, [0])
      congr 1
      have e1 : (s.cells.map (shave s.shift)).set (i.toNat - 1) (.of t) = (s.cells.set (i.toNat - 1) (t * 2 ^ s.shift)).map (shave s.shift) := by
        rw [List.map_set, of_shave_s s.shift]
      have e2 : (s.b.outs.map fun _ => Dy.of 0) = (List.replicate s.wt.length (0 : Int)).map (shave (s.shift + 6)) := by
        rw [List.map_replicate, shave_zero_arg, lw, List.map_const']
        rfl
      unfold toSpec
      simp only [e1, e2]
theorem sim_temp (i : Int) : SimAt s (.temp i) (tempH s i) := by
  have cl := W.cl
  show (if inside i 1 (s.b.rooms.length : Int) = false then no (toSpec s) (-1) else (toSpec s, 0 :: told (tempAt (s.cells.map (shave s.shift)) (i.toNat - 1)))) = _
  unfold tempH hasRoom
  rw [cl, tempAt_map]
  split <;> rfl
theorem sim_trace (i : Int) : SimAt s (.trace i) (traceH s i) := by
  have cl := W.cl
  have n1 := W.b.nr
  show (if inside i 1 (s.b.rooms.length : Int) = false then no (toSpec s) (-1) else (toSpec s, [0, micro (tempAt (s.cells.map (shave s.shift)) (i.toNat - 1)), micro (inflow s.b ⟨s.wt, s.lv⟩ (s.cells.map (shave s.shift)) (i.toNat - 1)), (heatIn s.b ⟨s.wt, s.lv⟩ (i.toNat - 1) : Int)])) = _
  unfold traceH hasRoom
  rw [cl]
  split
  · rfl
  · rename_i h
    have hi := inside_iff.mp (by simpa using h)
    rw [tempAt_map, inflow_map W.b s.lv s.shift W.cl W.w.lw (by omega), heatIn_eq W.b W.w.ll]
theorem sim_flow (k : Int) : SimAt s (.flow k) (flowH s k) := by
  show (if inside k 1 (s.b.links.length : Int) = false then no (toSpec s) (-1) else match s.b.links[k.toNat - 1]? with
    | none => no (toSpec s) (-1)
    | some l => (toSpec s, [0, micro ((((nodeTemp ⟨s.wt, s.lv⟩ (s.cells.map (shave s.shift)) l.a).sub (nodeTemp ⟨s.wt, s.lv⟩ (s.cells.map (shave s.shift)) l.b)).times (l.g : Int)).over SCALE)])) = _
  unfold flowH
  split
  · rfl
  · rename_i h
    have hi := inside_iff.mp (by simpa using h)
    rw [List.getElem?_eq_getElem (by omega)]
    show (toSpec s, [0, micro ((((nodeTemp ⟨s.wt, s.lv⟩ (s.cells.map (shave s.shift)) (s.b.links[k.toNat - 1]'(by omega)).a).sub _).times _).over SCALE)]) = (toSpec s, [0, micro (shave (s.shift + 6) (flowZ s.cells s.shift s.wt (s.b.links[k.toNat - 1]'(by omega))))])
    rw [nodeTemp_map, nodeTemp_map, sub_shave, times_shave, over_shave]
    unfold flowZ
    rw [Int.mul_comm]
    rfl
theorem sim_books : SimAt s .books (booksH s) := by
  show (toSpec s, 0 :: told (held s.b (s.cells.map (shave s.shift))) ++ (s.given :: (s.gone.map (shave (s.shift + 6))).flatMap told)) = _
  rw [held_map s.b s.cells s.shift W.cl]
  unfold booksH
  have e : (s.gone.map (shave (s.shift + 6))).flatMap told = s.gone.flatMap (toldG s) := by
    rw [List.flatMap_map]
    rfl
  rw [e]
  show (toSpec s, _) = (toSpec s, _)
  congr 1
end
theorem sum_set : ∀ (l : List Int) (i : Nat) (x : Int), i < l.length → (l.set i x).sum = l.sum - l.getD i 0 + x
  | [], i, x, h => by cases h
  | a :: r, 0, x, _ => by
    show (x :: r).sum = (a :: r).sum - a + x
    rw [List.sum_cons, List.sum_cons]
    omega
  | a :: r, i + 1, x, h => by
    have ih := sum_set r i x (Nat.lt_of_succ_lt_succ h)
    show (a :: r.set i x).sum = (a :: r).sum - r.getD i 0 + x
    rw [List.sum_cons, List.sum_cons, ih]
    omega
theorem heats_total : ∀ (hs : List Heater) (lv : List Nat) (f : List Int), (∀ h ∈ hs, h.room < f.length) → lv.length = hs.length → ((hs.zip lv).foldl heatsStep f).sum = f.sum + (nzs lv).sum
  | [], lv, f, _, hl => by
    obtain rfl : lv = [] := List.length_eq_zero_iff.mp hl
    show f.sum = f.sum + 0
    omega
  | h :: hs, [], f, _, hl => by cases hl
  | h :: hs, v :: lv, f, hr, hl => by
    rw [List.zip_cons_cons, List.foldl_cons, heats_total hs lv (heatsStep f (h, v)) (fun x hx => by unfold heatsStep; rw [bump_len]; exact hr x (List.mem_cons_of_mem _ hx)) (Nat.succ.inj hl)]
    unfold heatsStep bump
    rw [sum_set _ _ _ (hr h (List.mem_cons_self ..))]
    show f.sum - f.getD h.room 0 + (f.getD h.room 0 + (v : Int)) + (nzs lv).sum = f.sum + ((v : Int) :: nzs lv).sum
    rw [List.sum_cons]
    omega
theorem sum_getD (l : List Int) : ((List.range l.length).map fun i => l.getD i 0).sum = l.sum := by
  congr 1
  refine List.ext_getElem (by simp) fun i h1 h2 => ?_
  simp [h2]
/-- one step of the state -/
theorem sim_tick {s : HS} {k : Nat} (W : WfS { s with clock := k }) : ticked (toSpec s) = { toSpec (stepH s) with clock := s.clock + 1 } := by
  have hc : s.cells.length = s.b.rooms.length := W.cl
  have hw : s.wt.length = s.b.outs.length := W.w.lw
  have hl : s.lv.length = s.b.heaters.length := W.w.ll
  have hg : s.gone.length = s.b.outs.length := W.gl
  have hwide := wideZ_le W.b
  unfold ticked
  have e1 := stepped_map W.b s.shift hc hw hl
  have e2 : ((List.range (toSpec s).gone.length).zip (toSpec s).gone).map (fun x => x.2.add (outflow s.b ⟨s.wt, s.lv⟩ (s.cells.map (shave s.shift)) x.1)) = (goneZ s.gone (flowsZ s.b.links s.cells s.shift s.wt).2 (wideZ s.b)).map (shave (s.shift + wideZ s.b + 6)) := by
    unfold goneZ
    rw [List.map_map]
    refine List.ext_getElem (by simp [toSpec]) fun i h1 h2 => ?_
    have hi : i < s.gone.length := by simpa using h2
    simp only [List.getElem_map, List.getElem_zip, List.getElem_range, toSpec]
    rw [outflow_map W.b s.lv s.shift hc hw, add_shave]
    show _ = shave (s.shift + wideZ s.b + 6) ((s.gone.getD i 0 + (flowsZ s.b.links s.cells s.shift s.wt).2.getD i 0) * 2 ^ wideZ s.b)
    have e := shave_to (show s.shift + 6 ≤ s.shift + wideZ s.b + 6 by omega) (s.gone[i] + (flowsZ s.b.links s.cells s.shift s.wt).2.getD i 0)
    rw [e, show s.shift + wideZ s.b + 6 - (s.shift + 6) = wideZ s.b by omega]
    congr 3
    rw [List.getD_eq_getElem?_getD, List.getElem?_eq_getElem hi]
    rfl
  have e3 : ((total ((List.range s.b.rooms.length).map fun i => heatIn s.b ⟨s.wt, s.lv⟩ i) : Nat) : Int) = (nzs s.lv).sum := by
    rw [total_eq, List.map_map]
    have e : (List.range s.b.rooms.length).map ((fun n : Nat => (n : Int)) ∘ fun i => heatIn s.b ⟨s.wt, s.lv⟩ i) = (List.range (heatsZ s.b.rooms.length s.b.heaters s.lv).length).map fun i => (heatsZ s.b.rooms.length s.b.heaters s.lv).getD i 0 := by
      rw [heatsZ_len]
      exact List.map_congr_left fun i _ => heatIn_eq W.b hl i
    rw [e, sum_getD]
    unfold heatsZ
    rw [heats_total _ _ _ (fun h hh => by rw [List.length_replicate]; exact W.b.hroom h hh) hl]
    have z : (List.replicate s.b.rooms.length (0 : Int)).sum = 0 := by
      induction s.b.rooms.length with
      | zero => rfl
      | succ n ih => rw [List.replicate_succ, List.sum_cons, ih]; rfl
    rw [z, Int.zero_add]
  show ({ b := s.b, w := ⟨s.wt, s.lv⟩, temps := stepped s.b ⟨s.wt, s.lv⟩ (s.cells.map (shave s.shift)), clock := s.clock + 1, given := s.given + ((total ((List.range s.b.rooms.length).map fun i => heatIn s.b ⟨s.wt, s.lv⟩ i) : Nat) : Int), gone := ((List.range (toSpec s).gone.length).zip (toSpec s).gone).map (fun x => x.2.add (outflow s.b ⟨s.wt, s.lv⟩ (s.cells.map (shave s.shift)) x.1)) } : State) = _
  rw [e1, e2, e3]
  rfl
theorem sim_ticks {s : HS} (W : WfS s) : ∀ n, s.clock + n ≤ 1000 → ticks n (toSpec s) = { toSpec (stepsH n s) with clock := s.clock + n } := by
  have h : ∀ (n m : Nat) (t : HS) (k : Nat), WfS { t with clock := k } → k + n ≤ 1000 → ticks n { toSpec t with clock := m } = { toSpec (stepsH n t) with clock := m + n } := by
    intro n
    induction n with
    | zero => intro m t k _ _; rfl
    | succ n ih =>
      intro m t k W hk
      have e := sim_tick W
      have e' : ticked { toSpec t with clock := m } = { toSpec (stepH t) with clock := m + 1 } := by
        have := congrArg (fun x : State => { x with clock := m + 1 }) e
        exact this
      show ticks n (ticked { toSpec t with clock := m }) = _
      rw [e', ih (m + 1) (stepH t) (k + 1) (W.step (by omega)) (by omega)]
      have e2 : stepsH n (stepH t) = stepsH (n + 1) t := by
        clear ih e e' W hk
        induction n with
        | zero => rfl
        | succ n ih =>
          show stepH (stepsH n (stepH t)) = stepH (stepsH (n + 1) t)
          rw [ih]
      rw [e2, show m + 1 + n = m + (n + 1) by omega]
  intro n hn
  exact h n s.clock s s.clock W hn
theorem sim_run {s : HS} (W : WfS s) (n : Int) : SimAt s (.run n) (runH s n) := by
  show (if inside n 1 1000 = false then no (toSpec s) (-2) else if 1000 < s.clock + n.toNat then no (toSpec s) (-3) else (ticks n.toNat (toSpec s), [0, ((ticks n.toNat (toSpec s)).clock : Int)])) = _
  unfold runH
  split
  · rfl
  · split
    · rfl
    · rw [sim_ticks W n.toNat (by omega)]
      rfl
theorem sim_text {s : HS} (h : shown s.b = printZ s.b) : SimAt s .print (textH s) := by
  show (toSpec s, 0 :: (shown s.b).map fun n : Nat => (n : Int)) = (toSpec s, 0 :: nameI (printZ s.b))
  rw [h]
  rfl
theorem line_un1 (z w : List Nat) (m : Int) : unwords [z, w, decimal m] ++ [10] = lineOut z [w] [m] := by
  unfold lineOut
  show (z ++ (32 :: (w ++ (32 :: decimal m)))) ++ [10] = ((z ++ (32 :: w ++ [])) ++ (32 :: decimal m ++ [])) ++ [10]
  simp [List.append_assoc]
theorem line_un2 (z w : List Nat) (m k : Int) : unwords [z, w, decimal m, decimal k] ++ [10] = lineOut z [w] [m, k] := by
  unfold lineOut bl_w bl_n
  show (z ++ (32 :: (w ++ (32 :: (decimal m ++ (32 :: decimal k)))))) ++ [10] = _
  simp [List.append_assoc]
theorem line_un3 (z w v : List Nat) (m : Int) : unwords [z, w, v, decimal m] ++ [10] = lineOut z [w, v] [m] := by
  unfold lineOut bl_w bl_n
  show (z ++ (32 :: (w ++ (32 :: (v ++ (32 :: decimal m)))))) ++ [10] = _
  simp [List.append_assoc]
theorem shown_eq (b : Building) : shown b = printZ b := by
  unfold shown printZ
  have e1 : (b.rooms.flatMap fun r => unwords [word "room", r.name, decimal r.cap, decimal r.first] ++ [10]) = b.rooms.flatMap roomL := by
    congr 1
    funext r
    exact line_un2 _ _ _ _
  have e2 : (b.outs.flatMap fun o => unwords [word "outside", o.name, decimal o.first] ++ [10]) = b.outs.flatMap outL := by
    congr 1
    funext r
    exact line_un1 _ _ _
  have e3 : (b.links.flatMap fun l => unwords [word "link", nodeName b l.a, nodeName b l.b, decimal l.g] ++ [10]) = b.links.flatMap (linkL b) := by
    congr 1
    funext r
    exact line_un3 _ _ _ _
  have e4 : (b.heaters.flatMap fun h => unwords [word "heater", h.name, nodeName b h.room, decimal h.most] ++ [10]) = b.heaters.flatMap (heaterL b) := by
    congr 1
    funext r
    exact line_un3 _ _ _ _
  rw [e1, e2, e3, e4, List.append_assoc, List.append_assoc]
end WR
end PartWm3
section PartWm4
set_option Elab.async false
set_option linter.all false
set_option maxHeartbeats 1000000
namespace WR
open Vbbcab
theorem first_zero (b : Building) (wt : List Int) (lv : List Nat) (cells : List Int) (s : Nat) (ok : List Int → Nat → Bool) : firstZ b wt lv cells s ok 0 = if ok cells s = true then some 0 else none := by
  unfold firstZ
  rw [show List.range (0 + 1) = [0] from rfl, List.find?_cons]
  show (match ok cells s with | true => some 0 | false => none) = _
  cases ok cells s <;> rfl
theorem first_succ (b : Building) (wt : List Int) (lv : List Nat) (cells : List Int) (s : Nat) (ok : List Int → Nat → Bool) (n : Nat) :
    firstZ b wt lv cells s ok (n + 1) = if ok cells s = true then some 0 else (firstZ b wt lv (stepZ b cells s wt lv) (s + wideZ b) ok n).map (· + 1) := by
  unfold firstZ
  rw [List.range_succ_eq_map, List.find?_cons, List.find?_map]
  show (match ok cells s with | true => some 0 | false => _) = _
  cases ok cells s <;> rfl
/-- a run's first good turn, by the document's recursion -/
def firstR (b : Building) (w : Weather) (P : List Dy → Bool) : Nat → Nat → List Dy → Option Nat
  | 0, k, l => if P l = true then some k else none
  | n + 1, k, l => if P l = true then some k else firstR b w P n (k + 1) (stepped b w l)
theorem firstR_map {b : Building} (B : WfB b) {wt : List Int} {lv : List Nat} (hw : wt.length = b.outs.length) (hl : lv.length = b.heaters.length) {P : List Dy → Bool} {ok : List Int → Nat → Bool}
    (h : ∀ (cells : List Int) (s : Nat), cells.length = b.rooms.length → P (cells.map (shave s)) = ok cells s) : ∀ (n k : Nat) (cells : List Int) (s : Nat), cells.length = b.rooms.length →
      firstR b ⟨wt, lv⟩ P n k (cells.map (shave s)) = (firstZ b wt lv cells s ok n).map (· + k)
  | 0, k, cells, s, hc => by
    unfold firstR
    rw [first_zero, h cells s hc]
    split
    · show some k = some (0 + k)
      rw [Nat.zero_add]
    · rfl
  | n + 1, k, cells, s, hc => by
    unfold firstR
    rw [first_succ, h cells s hc]
    split
    · show some k = some (0 + k)
      rw [Nat.zero_add]
    · rw [stepped_map B s hc hw hl, firstR_map B hw hl h n (k + 1) _ _ (stepZ_len.trans hc), Option.map_map]
      congr 1
      funext x
      show x + (k + 1) = x + 1 + k
      omega
theorem halves_eq (b : Building) : ∀ (n k : Nat) (l : List Dy), halves b n k l = firstR b (calm b) (fun l => l.all fun t => (t.times 2).le (.of 1)) n k l
  | 0, k, l => rfl
  | n + 1, k, l => by
    unfold halves firstR
    rw [halves_eq b n]
theorem settles_eq (b : Building) (w : Weather) (r : List Frac) (e : Int) : ∀ (n k : Nat) (l : List Dy), settles b w r e n k l = firstR b w (fun l => near l r e) n k l
  | 0, k, l => rfl
  | n + 1, k, l => by
    unfold settles firstR
    rw [settles_eq b w r e n]
theorem foundL_eq (o : Option Nat) (t : State) : (match o with | none => (t, [0, 0]) | some k => (t, [0, 1, (k : Int)])) = (t, foundL o) := by
  cases o <;> rfl
theorem opt_zero (o : Option Nat) : o.map (· + 0) = o := by
  cases o <;> rfl
theorem calm_eq {s : HS} (W : WfS s) : calm s.b = ⟨List.replicate s.wt.length 0, List.replicate s.lv.length 0⟩ := by
  unfold calm
  rw [W.w.lw, W.w.ll, List.map_const', List.map_const']
theorem sim_halve {s : HS} (W : WfS s) (n : Int) : SimAt s (.halve n) (halveH s n) := by
  have hs : (s.b.rooms.map fun _ => Dy.of 1) = (List.replicate s.cells.length (1 : Int)).map (shave 0) := by
    rw [List.map_replicate, W.cl, List.map_const']
    rfl
  show (if inside n 0 1000 = false then no (toSpec s) (-2) else match halves s.b n.toNat 0 (s.b.rooms.map fun _ => .of 1) with
    | none => (toSpec s, [0, 0])
    | some k => (toSpec s, [0, 1, (k : Int)])) = _
  unfold halveH
  split
  · rfl
  · rw [foundL_eq, halves_eq, hs, calm_eq W]
    rw [firstR_map W.b (by rw [List.length_replicate]; exact W.w.lw) (by rw [List.length_replicate]; exact W.w.ll) (ok := halfZ) (fun cells k _ => ?_) n.toNat 0 _ 0 (by rw [List.length_replicate]; exact W.cl), opt_zero]
    unfold halfZ
    rw [List.all_map]
    congr 1
    funext x
    show ((shave k x).times 2).le (.of 1) = _
    rw [times_shave, of_shave, le_shave]
    exact decide_eq_decide.mpr (by
      rw [Int.pow_zero, Int.mul_one, Int.mul_comm x 2])
end WR
end PartWm4
section PartWm5
set_option Elab.async false
set_option linter.all false
set_option maxHeartbeats 1000000
namespace WR
open Vbbcab
theorem gonZ_shift (b : Building) (wt : List Int) (lv : List Nat) : ∀ (n : Nat) (c : List Int) (s : Nat), (gonZ b wt lv n c s).2 = s + n * wideZ b
  | 0, c, s => by
    show s = s + 0 * wideZ b
    rw [Nat.zero_mul, Nat.add_zero]
  | n + 1, c, s => by
    show (gonZ b wt lv n (stepZ b c s wt lv) (s + wideZ b)).2 = _
    rw [gonZ_shift b wt lv n, Nat.succ_mul]
    omega
theorem gonZ_len {b : Building} {wt : List Int} {lv : List Nat} : ∀ (n : Nat) (c : List Int) (s : Nat), (gonZ b wt lv n c s).1.length = c.length
  | 0, c, s => rfl
  | n + 1, c, s => by
    show (gonZ b wt lv n (stepZ b c s wt lv) (s + wideZ b)).1.length = _
    rw [gonZ_len n, stepZ_len]
theorem warmed_eq {s : HS} (W : WfS s) (i n k : Nat) : warmedAt s.b ⟨s.wt, s.lv⟩ (s.cells.map (shave s.shift)) i n k = shave (hotZ s n k).2 ((hotZ s n k).1.getD i 0) := by
  have e1 : noHeat s.b ⟨s.wt, s.lv⟩ = ⟨s.wt, List.replicate s.lv.length 0⟩ := by
    unfold noHeat
    rw [W.w.ll, List.map_const']
  have e2 : fullHeat s.b ⟨s.wt, s.lv⟩ = ⟨s.wt, mostsN s.b⟩ := rfl
  unfold warmedAt
  rw [e1, e2]
  rw [steps_map W.b W.w.lw (by rw [List.length_replicate]; exact W.w.ll) k s.cells s.shift W.cl]
  rw [steps_map W.b W.w.lw (by unfold mostsN; rw [List.length_map]) (n - k) _ _ ((gonZ_len ..).trans W.cl)]
  rw [tempAt_map]
  rfl
theorem late_eq {s : HS} (W : WfS s) (i : Nat) (t : Int) (n : Nat) : ∀ k, latest s.b ⟨s.wt, s.lv⟩ (s.cells.map (shave s.shift)) i t n k = lateDown s i t n k := by
  have h : ∀ k, (Dy.of t).le (warmedAt s.b ⟨s.wt, s.lv⟩ (s.cells.map (shave s.shift)) i n k) = lateAt s i t n k := fun k => by
    rw [warmed_eq W, of_shave, le_shave]
    unfold lateAt
    exact decide_eq_decide.mpr (by rw [Int.pow_zero, Int.mul_one])
  intro k
  induction k with
  | zero =>
    unfold latest lateDown
    rw [h]
  | succ k ih =>
    unfold latest lateDown
    rw [h, ih]
theorem sim_latest {s : HS} (W : WfS s) (i t n : Int) : SimAt s (.latest i t n) (latestH s i t n) := by
  have cl := W.cl
  show (if inside i 1 (s.b.rooms.length : Int) = false then no (toSpec s) (-1) else if inside t (-100000) 100000 = false ∨ inside n 0 60 = false then no (toSpec s) (-2) else match latest s.b ⟨s.wt, s.lv⟩ (s.cells.map (shave s.shift)) (i.toNat - 1) t n.toNat n.toNat with
    | none => no (toSpec s) (-5)
    | some k => (toSpec s, [0, (k : Int)])) = _
  unfold latestH hasRoom
  rw [cl, late_eq W]
  split
  · rfl
  · split
    · rfl
    · cases lateDown s (i.toNat - 1) t n.toNat n.toNat <;> rfl
/-! bounds -/
theorem all_range {α β : Type} (xs : List α) (ys : List β) (dx : α) (dy : β) (f : α → β → Bool) : (xs.zip ys).all (fun x => f x.1 x.2) = (List.range (min xs.length ys.length)).all fun i => f (xs.getD i dx) (ys.getD i dy) := by
  rw [Bool.eq_iff_iff, List.all_eq_true, List.all_eq_true]
  constructor
  · intro h i hi
    have hi := List.mem_range.mp hi
    have := h (xs[i]'(by omega), ys[i]'(by omega)) (by
      have e : (xs.zip ys)[i]'(by rw [List.length_zip]; exact hi) = (xs[i]'(by omega), ys[i]'(by omega)) := List.getElem_zip
      rw [← e]
      exact List.getElem_mem _)
    rw [List.getD_eq_getElem?_getD, List.getD_eq_getElem?_getD, List.getElem?_eq_getElem (by omega), List.getElem?_eq_getElem (by omega)]
    exact this
  · intro h x hx
    obtain ⟨i, hi, rfl⟩ := List.getElem_of_mem hx
    rw [List.length_zip] at hi
    have := h i (List.mem_range.mpr hi)
    rw [List.getD_eq_getElem?_getD, List.getD_eq_getElem?_getD, List.getElem?_eq_getElem (by omega), List.getElem?_eq_getElem (by omega)] at this
    rw [List.getElem_zip]
    exact this
theorem bounds_iff {s : HS} (W : WfS s) (lo hi : List Int) : boundsOk s.b lo hi = true ↔ boundZ s lo = true ∧ boundZ s hi = true ∧ leZ lo hi = true := by
  have lw := W.w.lw
  have ll := W.w.ll
  have ml : (mostsZ s.b).length = s.b.heaters.length := by unfold mostsZ; rw [List.length_map]
  have lez : (lo.zip hi).all (fun x => decide (x.1 ≤ x.2)) = leZ lo hi := all_range lo hi 0 0 fun a c => decide (a ≤ c)
  have hm : ((hi.drop s.b.outs.length).zip s.b.heaters).all (fun x => decide (x.1 ≤ (x.2.most : Int))) = ((hi.drop s.b.outs.length).zip (mostsZ s.b)).all (fun x => decide (x.1 ≤ x.2)) := by
    unfold mostsZ
    rw [List.zip_map_right, List.all_map]
    rfl
  unfold boundsOk boundZ
  rw [lez, hm, lw, ll, all_range (hi.drop s.b.outs.length) (mostsZ s.b) 0 0 fun a c => decide (a ≤ c)]
  simp only [Bool.and_eq_true, decide_eq_true_eq, beq_iff_eq, List.all_append]
  have lev : ∀ (row : List Int), levOk (row.drop s.b.outs.length) (mostsZ s.b) = true ↔ ∀ i, i < min (row.drop s.b.outs.length).length (mostsZ s.b).length → 0 ≤ (row.drop s.b.outs.length).getD i 0 ∧ (row.drop s.b.outs.length).getD i 0 ≤ (mostsZ s.b).getD i 0 := fun row => by
    unfold levOk
    rw [List.all_eq_true]
    exact ⟨fun h i hi => inside_iff.mp (h i (List.mem_range.mpr hi)), fun h i hi => inside_iff.mpr (h i (List.mem_range.mp hi))⟩
  rw [lev, lev]
  constructor
  · rintro ⟨h1, h2, h3, ⟨h4, h5⟩, h6, h7⟩
    have hle : ∀ i, i < lo.length → lo.getD i 0 ≤ hi.getD i 0 := fun i hi' => of_decide_eq_true (List.all_eq_true.mp h3 i (List.mem_range.mpr (by omega)))
    have dget : ∀ (row : List Int) (i : Nat), (row.drop s.b.outs.length).getD i 0 = row.getD (s.b.outs.length + i) 0 := fun row i => by
      rw [List.getD_eq_getElem?_getD, List.getElem?_drop, ← List.getD_eq_getElem?_getD]
    have lo0 : ∀ i, i < (lo.drop s.b.outs.length).length → 0 ≤ (lo.drop s.b.outs.length).getD i 0 := fun i hi' => by
      have := of_decide_eq_true (List.all_eq_true.mp h6 _ (List.getElem_mem hi'))
      rw [List.getD_eq_getElem?_getD, List.getElem?_eq_getElem hi']
      exact this
    have hiM : ∀ i, i < min (hi.drop s.b.outs.length).length (mostsZ s.b).length → (hi.drop s.b.outs.length).getD i 0 ≤ (mostsZ s.b).getD i 0 := fun i hi' => of_decide_eq_true (List.all_eq_true.mp h7 i (List.mem_range.mpr hi'))
    refine ⟨⟨h1, h4, fun i hi' => ?_⟩, ⟨by omega, h5, fun i hi' => ?_⟩, h3⟩
    · rw [List.length_drop] at hi'
      have a1 := lo0 i (by rw [List.length_drop]; omega)
      have a2 := hiM i (by rw [List.length_drop]; omega)
      have a3 := hle (s.b.outs.length + i) (by omega)
      rw [dget] at a1 a2 ⊢
      omega
    · rw [List.length_drop] at hi'
      have a1 := lo0 i (by rw [List.length_drop]; omega)
      have a2 := hiM i (by rw [List.length_drop]; omega)
      have a3 := hle (s.b.outs.length + i) (by omega)
      rw [dget] at a1 a2 ⊢
      omega
  · rintro ⟨⟨h1, h2, h3⟩, ⟨h4, h5, h6⟩, h7⟩
    refine ⟨h1, by omega, h7, ⟨h2, h5⟩, ?_, ?_⟩
    · rw [List.all_eq_true]
      intro x hx
      obtain ⟨i, hi', rfl⟩ := List.getElem_of_mem hx
      have := (h3 i (by rw [List.length_drop] at *; omega)).1
      rw [List.getD_eq_getElem?_getD, List.getElem?_eq_getElem hi'] at this
      exact decide_eq_true this
    · rw [List.all_eq_true]
      intro i hi'
      exact decide_eq_true (h6 i (List.mem_range.mp hi')).2
theorem sim_bracket {s : HS} (W : WfS s) (n : Int) (lo hi : List Int) : SimAt s (.bracket n lo hi) (bracketH s n lo hi) := by
  have bi := bounds_iff W lo hi
  show (if inside n 0 1000 = false ∨ boundsOk s.b lo hi = false then no (toSpec s) (-2) else
    (toSpec s, 0 :: ((steps s.b (weatherOf s.b lo) n.toNat (s.cells.map (shave s.shift))).zip (steps s.b (weatherOf s.b hi) n.toNat (s.cells.map (shave s.shift)))).flatMap fun x => [micro x.1, micro x.2])) = _
  unfold bracketH
  have cond : (inside n 0 1000 = false ∨ boundsOk s.b lo hi = false) ↔ (inside n 0 1000 = false ∨ boundZ s lo = false ∨ boundZ s hi = false ∨ leZ lo hi = false) := by
    cases h : boundsOk s.b lo hi with
    | true =>
      obtain ⟨a, c, d⟩ := bi.mp h
      rw [a, c, d]
      simp
    | false =>
      refine ⟨fun _ => ?_, fun _ => .inr rfl⟩
      by_cases a : boundZ s lo = true
      · by_cases c : boundZ s hi = true
        · by_cases d : leZ lo hi = true
          · rw [bi.mpr ⟨a, c, d⟩] at h
            cases h
          · exact .inr (.inr (.inr (Bool.eq_false_iff.mpr d)))
        · exact .inr (.inr (.inl (Bool.eq_false_iff.mpr c)))
      · exact .inr (.inl (Bool.eq_false_iff.mpr a))
  by_cases h : inside n 0 1000 = false ∨ boundsOk s.b lo hi = false
  · rw [if_pos h, if_pos (cond.mp h)]
    rfl
  · rw [if_neg h, if_neg fun z => h (cond.mpr z)]
    have hb : boundsOk s.b lo hi = true := by
      cases q : boundsOk s.b lo hi with
      | true => rfl
      | false => exact absurd (.inr q) h
    obtain ⟨a, c, d⟩ := bi.mp hb
    obtain ⟨w1, _, _⟩ := bound_wf W a
    obtain ⟨w2, _, _⟩ := bound_wf W c
    have e1 : weatherOf s.b lo = ⟨rowW s lo, rowL s lo⟩ := by unfold weatherOf rowW rowL; rw [W.w.lw]
    have e2 : weatherOf s.b hi = ⟨rowW s hi, rowL s hi⟩ := by unfold weatherOf rowW rowL; rw [W.w.lw]
    rw [e1, e2, steps_map W.b w1.lw w1.ll _ _ _ W.cl, steps_map W.b w2.lw w2.ll _ _ _ W.cl]
    show (toSpec s, _) = (toSpec s, _)
    congr 1
    show 0 :: _ = 0 :: _
    congr 1
    have sh : (goneOn s lo n.toNat).2 = (goneOn s hi n.toNat).2 := by
      unfold goneOn
      rw [gonZ_shift, gonZ_shift]
    have l1 : (goneOn s lo n.toNat).1.length = s.cells.length := gonZ_len ..
    have l2 : (goneOn s hi n.toNat).1.length = s.cells.length := gonZ_len ..
    show (((goneOn s lo n.toNat).1.map (shave (goneOn s lo n.toNat).2)).zip ((goneOn s hi n.toNat).1.map (shave (goneOn s hi n.toNat).2))).flatMap _ = _
    rw [sh]
    generalize (goneOn s lo n.toNat).1 = P at *
    generalize (goneOn s hi n.toNat).2 = p at *
    generalize (goneOn s hi n.toNat).1 = R at *
    have e : (P.map (shave p)).zip (R.map (shave p)) = (List.range s.cells.length).map fun i => (shave p (P.getD i 0), shave p (R.getD i 0)) := by
      refine List.ext_getElem (by simp [l1, l2]) fun i h1 h2 => ?_
      have hi' : i < s.cells.length := by simpa using h2
      rw [List.getElem_zip, List.getElem_map, List.getElem_map, List.getElem_map, List.getElem_range]
      simp [l1, l2, hi']
    rw [e, List.flatMap_map]
    rfl
end WR
end PartWm5
section PartWm6
set_option Elab.async false
set_option linter.all false
set_option maxHeartbeats 1000000
/-! ### buildings read -/
namespace WR
open Vbbcab
theorem place_some {α : Type} (l : List α) (p : α → Bool) : (placeOf l p).isSome = l.any p := by
  unfold placeOf
  rw [Bool.eq_iff_iff]
  by_cases h : l.findIdx p < l.length
  · simp only [if_pos h]
    refine ⟨fun _ => ?_, fun _ => rfl⟩
    rw [List.any_eq_true]
    exact ⟨l[l.findIdx p], List.getElem_mem h, List.findIdx_getElem⟩
  · simp only [if_neg h]
    refine ⟨fun z => (by cases z), fun z => ?_⟩
    obtain ⟨x, hx, hp⟩ := List.any_eq_true.mp z
    exact absurd (List.findIdx_lt_length_of_exists ⟨x, hx, hp⟩) h
theorem endOf_node (b : Building) (w : Text) : endOf b w = nodeOf b w := by
  unfold endOf nameIx nodeOf
  cases placeOf b.rooms fun r => r.name == w with
  | some i => rfl
  | none =>
    cases placeOf b.outs fun o => o.name == w with
    | some i => rfl
    | none =>
      cases placeOf b.heaters fun r => r.name == w <;> rfl
theorem taken_ix (b : Building) (w : Text) : taken b w = (nameIx b w).isSome := by
  have h := place_some b.heaters fun h => h.name == w
  unfold taken nodeOf nameIx
  rw [← h]
  cases placeOf b.rooms fun r => r.name == w with
  | some i => rfl
  | none =>
    cases placeOf b.outs fun o => o.name == w with
    | some i => rfl
    | none =>
      cases placeOf b.heaters fun r => r.name == w <;> rfl
/-- a line's outcome told as the mirror tells it -/
def lineR (x : Nat × Building) : Nat ⊕ Building := if 0 < x.1 then .inl x.1 else .inr x.2
theorem numZ_nat (w : Text) (lo hi : Nat) : numZ w (lo : Int) (hi : Int) = match natOf w with
    | none => none
    | some n => if lo ≤ n ∧ n ≤ hi then some (n : Int) else none := by
  unfold numZ natI
  rw [if_neg (by omega)]
  cases natOf w with
  | none => rfl
  | some n =>
    show (if (lo : Int) ≤ (n : Int) ∧ (n : Int) ≤ (hi : Int) then some (n : Int) else none) = if lo ≤ n ∧ n ≤ hi then some (n : Int) else none
    by_cases h : lo ≤ n ∧ n ≤ hi
    · rw [if_pos h, if_pos (by omega)]
    · rw [if_neg h, if_neg (by omega)]
theorem numZ_int (w : Text) : numZ w (-100000) 100000 = match intOf w with
    | none => none
    | some n => if -100000 ≤ n ∧ n ≤ 100000 then some n else none := by
  unfold numZ
  rw [if_pos (show (-100000 : Int) < 0 by decide)] <;> cases intOf w <;> rfl
theorem read_room {b : Building} (B : WfB b) (k n c f : Text) : lineR (roomZ b [k, n, c, f]) = (match isName n, natOf c, intOf f with
      | true, some c, some f => if 10 < c ∨ f < -100000 ∨ 100000 < f then .inl 1 else if taken b n = true then .inl 2 else if ROOMS ≤ b.rooms.length then .inl 4 else .inr { b with rooms := b.rooms ++ [⟨n, c, f⟩] }
      | _, _, _ => .inl 1) := by
  have n1 := B.nr
  unfold roomZ
  show lineR (if ¬ (4 = 4 ∧ isName n = true) then (1, b) else match numZ c 0 10, numZ f (-100000) 100000 with
    | some c, some f => if (nameIx b n).isSome = true then (2, b) else if b.rooms.length = 12 then (4, b) else (0, { b with rooms := b.rooms ++ [⟨n, c.toNat, f⟩] })
    | _, _ => (1, b)) = _
  have e1 : numZ c 0 10 = _ := numZ_nat c 0 10
  rw [e1, numZ_int, taken_ix]
  cases isName n with
  | false => rfl
  | true =>
    rw [if_neg (by simp)]
    cases natOf c with
    | none => rfl
    | some c =>
      cases intOf f with
      | none =>
        show lineR (match (if 0 ≤ c ∧ c ≤ 10 then some (c : Int) else none), (none : Option Int) with | some c, some f => _ | _, _ => (1, b)) = .inl 1
        by_cases q : 0 ≤ c ∧ c ≤ 10
        · rw [if_pos q]
          rfl
        · rw [if_neg q]
          rfl
      | some f =>
        show lineR (match (if 0 ≤ c ∧ c ≤ 10 then some (c : Int) else none), (if -100000 ≤ f ∧ f ≤ 100000 then some f else none) with
          | some c, some f => if (nameIx b n).isSome = true then (2, b) else if b.rooms.length = 12 then (4, b) else (0, { b with rooms := b.rooms ++ [⟨n, c.toNat, f⟩] })
          | _, _ => (1, b)) = if 10 < c ∨ f < -100000 ∨ 100000 < f then .inl 1 else if (nameIx b n).isSome = true then .inl 2 else if 12 ≤ b.rooms.length then .inl 4 else .inr { b with rooms := b.rooms ++ [⟨n, c, f⟩] }
        by_cases h1 : c ≤ 10
        · rw [if_pos (by omega)]
          by_cases h2 : -100000 ≤ f ∧ f ≤ 100000
          · rw [if_pos h2, if_neg (by omega)]
            show lineR (if (nameIx b n).isSome = true then (2, b) else if b.rooms.length = 12 then (4, b) else (0, { b with rooms := b.rooms ++ [⟨n, ((c : Int)).toNat, f⟩] })) = _
            split
            · rfl
            · by_cases h3 : b.rooms.length = 12
              · rw [if_pos h3, if_pos (by omega)]
                rfl
              · rw [if_neg h3, if_neg (by omega)]
                rfl
          · rw [if_neg h2, if_pos (show 10 < c ∨ f < -100000 ∨ 100000 < f by omega)]
            rfl
        · rw [if_neg (show ¬ (0 ≤ c ∧ c ≤ 10) by omega), if_pos (show 10 < c ∨ f < -100000 ∨ 100000 < f by omega)]
          by_cases h2 : -100000 ≤ f ∧ f ≤ 100000
          · rw [if_pos h2]
            rfl
          · rw [if_neg h2]
            rfl
theorem read_outside {b : Building} (B : WfB b) (k n f : Text) : lineR (outsideZ b [k, n, f]) = (match isName n, intOf f with
      | true, some f => if f < -100000 ∨ 100000 < f then .inl 1 else if taken b n = true then .inl 2 else if OUTS ≤ b.outs.length then .inl 4 else .inr { b with outs := b.outs ++ [⟨n, f⟩] }
      | _, _ => .inl 1) := by
  have n1 := B.no
  unfold outsideZ
  show lineR (if ¬ (3 = 3 ∧ isName n = true) then (1, b) else match numZ f (-100000) 100000 with
    | some f => if (nameIx b n).isSome = true then (2, b) else if b.outs.length = 4 then (4, b) else (0, { b with outs := b.outs ++ [⟨n, f⟩] })
    | none => (1, b)) = _
  rw [numZ_int, taken_ix]
  cases isName n with
  | false => rfl
  | true =>
    rw [if_neg (by simp)]
    cases intOf f with
    | none => rfl
    | some f =>
      show lineR (match (if -100000 ≤ f ∧ f ≤ 100000 then some f else none) with
          | some f => if (nameIx b n).isSome = true then (2, b) else if b.outs.length = 4 then (4, b) else (0, { b with outs := b.outs ++ [⟨n, f⟩] })
          | none => (1, b)) = if f < -100000 ∨ 100000 < f then .inl 1 else if (nameIx b n).isSome = true then .inl 2 else if 4 ≤ b.outs.length then .inl 4 else .inr { b with outs := b.outs ++ [⟨n, f⟩] }
      by_cases h2 : -100000 ≤ f ∧ f ≤ 100000
      · rw [if_pos h2, if_neg (show ¬ (f < -100000 ∨ 100000 < f) by omega)]
        show lineR (if (nameIx b n).isSome = true then (2, b) else if b.outs.length = 4 then (4, b) else (0, { b with outs := b.outs ++ [⟨n, f⟩] })) = _
        split
        · rfl
        · by_cases h3 : b.outs.length = 4
          · rw [if_pos h3, if_pos (by omega)]
            rfl
          · rw [if_neg h3, if_neg (by omega)]
            rfl
      · rw [if_neg h2, if_pos (show f < -100000 ∨ 100000 < f by omega)]
        rfl
theorem read_link {b : Building} (B : WfB b) (k n c f : Text) : lineR (linkZ b [k, n, c, f]) = (match natOf f with
      | none => .inl 1
      | some g => if isName n = false ∨ isName c = false ∨ g < 1 ∨ 100000 < g then .inl 1 else match nodeOf b n, nodeOf b c with
        | some i, some j => if LINKS ≤ b.links.length then .inl 4 else if i = j ∨ (isOut i && isOut j) = true ∨ joins b i j = true then .inl 5 else .inr { b with links := b.links ++ [⟨i, j, g⟩] }
        | _, _ => .inl 3) := by
  have n1 := B.nl
  unfold linkZ
  show lineR (if ¬ (4 = 4 ∧ isName n = true ∧ isName c = true) then (1, b) else match numZ f 1 100000 with
    | some g => match endOf b n, endOf b c with
      | some i, some j => if b.links.length = 40 then (4, b) else if (decide (i = j) || (isOut i && isOut j) || joins b i j) = true then (5, b) else (0, { b with links := b.links ++ [⟨i, j, g.toNat⟩] })
      | _, _ => (3, b)
    | none => (1, b)) = _
  have e1 : numZ f 1 100000 = _ := numZ_nat f 1 100000
  rw [e1, endOf_node, endOf_node]
  cases natOf f with
  | none =>
    show lineR (if _ then (1, b) else (1, b)) = .inl 1
    split <;> rfl
  | some g =>
    show lineR (if ¬ (4 = 4 ∧ isName n = true ∧ isName c = true) then (1, b) else match (if 1 ≤ g ∧ g ≤ 100000 then some (g : Int) else none) with
      | some g => match nodeOf b n, nodeOf b c with
        | some i, some j => if b.links.length = 40 then (4, b) else if (decide (i = j) || (isOut i && isOut j) || joins b i j) = true then (5, b) else (0, { b with links := b.links ++ [⟨i, j, g.toNat⟩] })
        | _, _ => (3, b)
      | none => (1, b)) = if isName n = false ∨ isName c = false ∨ g < 1 ∨ 100000 < g then .inl 1 else match nodeOf b n, nodeOf b c with
        | some i, some j => if 40 ≤ b.links.length then .inl 4 else if i = j ∨ (isOut i && isOut j) = true ∨ joins b i j = true then .inl 5 else .inr { b with links := b.links ++ [⟨i, j, g⟩] }
        | _, _ => .inl 3
    by_cases hn : isName n = true ∧ isName c = true
    · rw [if_neg (by simp [hn])]
      by_cases hg : 1 ≤ g ∧ g ≤ 100000
      · rw [if_pos hg, if_neg (by simp [hn]; omega)]
        cases nodeOf b n with
        | none => rfl
        | some i =>
          cases nodeOf b c with
          | none => rfl
          | some j =>
            show lineR (if b.links.length = 40 then (4, b) else if (decide (i = j) || (isOut i && isOut j) || joins b i j) = true then (5, b) else (0, { b with links := b.links ++ [⟨i, j, ((g : Int)).toNat⟩] })) = if 40 ≤ b.links.length then .inl 4 else if i = j ∨ (isOut i && isOut j) = true ∨ joins b i j = true then .inl 5 else .inr { b with links := b.links ++ [⟨i, j, g⟩] }
            by_cases h3 : b.links.length = 40
            · rw [if_pos h3, if_pos (by omega)]
              rfl
            · rw [if_neg h3, if_neg (show ¬ 40 ≤ b.links.length by omega)]
              have hiff : ((decide (i = j) || (isOut i && isOut j) || joins b i j) = true) ↔ (i = j ∨ (isOut i && isOut j) = true ∨ joins b i j = true) := by
                rw [Bool.or_eq_true, Bool.or_eq_true, decide_eq_true_eq, or_assoc]
              by_cases h5 : (decide (i = j) || (isOut i && isOut j) || joins b i j) = true
              · rw [if_pos h5, if_pos (hiff.mp h5)]
                rfl
              · rw [if_neg h5, if_neg fun z => h5 (hiff.mpr z)]
                rfl
      · rw [if_neg hg, if_pos (by omega)]
        rfl
    · rw [if_pos (by simpa using hn), if_pos]
      · rfl
      · by_cases a : isName n = true
        · exact .inr (.inl (Bool.eq_false_iff.mpr fun z => hn ⟨a, z⟩))
        · exact .inl (Bool.eq_false_iff.mpr a)
theorem nameIx_place (b : Building) (w : Text) : (match nameIx b w with | some (k, i) => if k = 0 then some i else none | none => none) = placeOf b.rooms fun r => r.name == w := by
  unfold nameIx
  cases placeOf b.rooms fun r => r.name == w with
  | some i => rfl
  | none =>
    cases placeOf b.outs fun o => o.name == w with
    | some i => rfl
    | none =>
      cases placeOf b.heaters fun r => r.name == w <;> rfl
theorem read_heater {b : Building} (B : WfB b) (k n c f : Text) : lineR (heaterZ b [k, n, c, f]) = (match natOf f with
      | none => .inl 1
      | some m => if isName n = false ∨ isName c = false ∨ m < 1 ∨ 1000000 < m then .inl 1 else if taken b n = true then .inl 2 else match placeOf b.rooms fun r => r.name == c with
        | some i => if HEATERS ≤ b.heaters.length then .inl 4 else .inr { b with heaters := b.heaters ++ [⟨n, i, m⟩] }
        | none => .inl 3) := by
  have n1 := B.nh
  unfold heaterZ
  show lineR (if ¬ (4 = 4 ∧ isName n = true ∧ isName c = true) then (1, b) else match numZ f 1 1000000 with
    | some m => if (nameIx b n).isSome = true then (2, b) else match nameIx b c with
      | some (k, i) => if k = 0 then (if b.heaters.length = 8 then (4, b) else (0, { b with heaters := b.heaters ++ [⟨n, i, m.toNat⟩] })) else (3, b)
      | none => (3, b)
    | none => (1, b)) = _
  have e1 : numZ f 1 1000000 = _ := numZ_nat f 1 1000000
  rw [e1, taken_ix]
  cases natOf f with
  | none =>
    show lineR (if _ then (1, b) else (1, b)) = .inl 1
    split <;> rfl
  | some g =>
    show lineR (if ¬ (4 = 4 ∧ isName n = true ∧ isName c = true) then (1, b) else match (if 1 ≤ g ∧ g ≤ 1000000 then some (g : Int) else none) with
      | some m => if (nameIx b n).isSome = true then (2, b) else match nameIx b c with
        | some (k, i) => if k = 0 then (if b.heaters.length = 8 then (4, b) else (0, { b with heaters := b.heaters ++ [⟨n, i, m.toNat⟩] })) else (3, b)
        | none => (3, b)
      | none => (1, b)) = if isName n = false ∨ isName c = false ∨ g < 1 ∨ 1000000 < g then .inl 1 else if (nameIx b n).isSome = true then .inl 2 else match placeOf b.rooms fun r => r.name == c with
        | some i => if 8 ≤ b.heaters.length then .inl 4 else .inr { b with heaters := b.heaters ++ [⟨n, i, g⟩] }
        | none => .inl 3
    by_cases hn : isName n = true ∧ isName c = true
    · rw [if_neg (by simp [hn])]
      by_cases hg : 1 ≤ g ∧ g ≤ 1000000
      · rw [if_pos hg, if_neg (by simp [hn]; omega)]
        show lineR (if (nameIx b n).isSome = true then (2, b) else match nameIx b c with
        | some (k, i) => if k = 0 then (if b.heaters.length = 8 then (4, b) else (0, { b with heaters := b.heaters ++ [⟨n, i, ((g : Int)).toNat⟩] })) else (3, b)
        | none => (3, b)) = _
        by_cases ht : (nameIx b n).isSome = true
        · rw [if_pos ht, if_pos ht]
          rfl
        · rw [if_neg ht, if_neg ht, ← nameIx_place]
          cases nameIx b c with
          | none => rfl
          | some x =>
            obtain ⟨k, i⟩ := x
            show lineR (if k = 0 then (if b.heaters.length = 8 then (4, b) else (0, { b with heaters := b.heaters ++ [⟨n, i, ((g : Int)).toNat⟩] })) else (3, b)) = match (if k = 0 then some i else none) with
              | some i => if 8 ≤ b.heaters.length then .inl 4 else .inr { b with heaters := b.heaters ++ [⟨n, i, g⟩] }
              | none => .inl 3
            by_cases hk : k = 0
            · rw [if_pos hk, if_pos hk]
              show lineR (if b.heaters.length = 8 then (4, b) else (0, { b with heaters := b.heaters ++ [⟨n, i, ((g : Int)).toNat⟩] })) = if 8 ≤ b.heaters.length then .inl 4 else .inr { b with heaters := b.heaters ++ [⟨n, i, g⟩] }
              by_cases h3 : b.heaters.length = 8
              · rw [if_pos h3, if_pos (by omega)]
                rfl
              · rw [if_neg h3, if_neg (by omega)]
                rfl
            · rw [if_neg hk, if_neg hk]
              rfl
      · rw [if_neg hg, if_pos (by omega)]
        rfl
    · rw [if_pos (by simpa using hn), if_pos]
      · rfl
      · by_cases a : isName n = true
        · exact .inr (.inl (Bool.eq_false_iff.mpr fun z => hn ⟨a, z⟩))
        · exact .inl (Bool.eq_false_iff.mpr a)
theorem word_ne : word "room" ≠ word "outside" ∧ word "room" ≠ word "link" ∧ word "room" ≠ word "heater" ∧ word "outside" ≠ word "link" ∧ word "outside" ≠ word "heater" ∧ word "link" ≠ word "heater" := by decide +kernel
theorem read_line {b : Building} (B : WfB b) (t : Text) : readLine b t = lineR (lineZ b (splitAt 32 t)) := by
  obtain ⟨w1, w2, w3, w4, w5, w6⟩ := word_ne
  unfold readLine
  generalize splitAt 32 t = ws
  match ws with
  | [] =>
    have e1 : roomZ b [] = (1, b) := if_pos (by simp)
    have e2 : outsideZ b [] = (1, b) := if_pos (by simp)
    have e3 : linkZ b [] = (1, b) := if_pos (by simp)
    have e4 : heaterZ b [] = (1, b) := if_pos (by simp)
    unfold lineZ
    rw [e1, e2, e3, e4]
    show Sum.inl 1 = lineR (if ([] : List Nat) = word "room" then (1, b) else if ([] : List Nat) = word "outside" then (1, b) else if ([] : List Nat) = word "link" then (1, b) else if ([] : List Nat) = word "heater" then (1, b) else (1, b))
    split
    · rfl
    · split
      · rfl
      · split
        · rfl
        · split <;> rfl
  | [k] =>
    have e1 : roomZ b [k] = (1, b) := if_pos (by simp)
    have e2 : outsideZ b [k] = (1, b) := if_pos (by simp)
    have e3 : linkZ b [k] = (1, b) := if_pos (by simp)
    have e4 : heaterZ b [k] = (1, b) := if_pos (by simp)
    unfold lineZ
    rw [e1, e2, e3, e4]
    show Sum.inl 1 = lineR (if k = word "room" then (1, b) else if k = word "outside" then (1, b) else if k = word "link" then (1, b) else if k = word "heater" then (1, b) else (1, b))
    split
    · rfl
    · split
      · rfl
      · split
        · rfl
        · split <;> rfl
  | [k, n] =>
    have e1 : roomZ b [k, n] = (1, b) := if_pos (by simp)
    have e2 : outsideZ b [k, n] = (1, b) := if_pos (by simp)
    have e3 : linkZ b [k, n] = (1, b) := if_pos (by simp)
    have e4 : heaterZ b [k, n] = (1, b) := if_pos (by simp)
    unfold lineZ
    rw [e1, e2, e3, e4]
    show Sum.inl 1 = lineR (if k = word "room" then (1, b) else if k = word "outside" then (1, b) else if k = word "link" then (1, b) else if k = word "heater" then (1, b) else (1, b))
    split
    · rfl
    · split
      · rfl
      · split
        · rfl
        · split <;> rfl
  | [k, n, f] =>
    unfold lineZ
    show (if k = word "outside" then _ else Sum.inl 1) = lineR (if k = word "room" then roomZ b [k, n, f] else if k = word "outside" then outsideZ b [k, n, f] else if k = word "link" then linkZ b [k, n, f] else if k = word "heater" then heaterZ b [k, n, f] else (1, b))
    by_cases h : k = word "outside"
    · rw [if_pos h, if_neg (by rw [h]; exact w1.symm), if_pos h]
      exact (read_outside B k n f).symm
    · rw [if_neg h, if_neg h]
      have e1 : roomZ b [k, n, f] = (1, b) := if_pos (by simp)
      have e2 : linkZ b [k, n, f] = (1, b) := if_pos (by simp)
      have e3 : heaterZ b [k, n, f] = (1, b) := if_pos (by simp)
      rw [e1, e2, e3]
      split
      · rfl
      · split
        · rfl
        · split <;> rfl
  | [k, n, c, f] =>
    unfold lineZ
    show (if k = word "room" then _ else if k = word "link" then _ else if k = word "heater" then _ else Sum.inl 1) = lineR (if k = word "room" then roomZ b [k, n, c, f] else if k = word "outside" then outsideZ b [k, n, c, f] else if k = word "link" then linkZ b [k, n, c, f] else if k = word "heater" then heaterZ b [k, n, c, f] else (1, b))
    by_cases h1 : k = word "room"
    · rw [if_pos h1, if_pos h1]
      exact (read_room B k n c f).symm
    · rw [if_neg h1, if_neg h1]
      by_cases h2 : k = word "link"
      · rw [if_pos h2, if_neg (by rw [h2]; exact w4.symm), if_pos h2]
        exact (read_link B k n c f).symm
      · rw [if_neg h2]
        by_cases h3 : k = word "heater"
        · rw [if_pos h3, if_neg (by rw [h3]; exact w5.symm), if_neg h2, if_pos h3]
          exact (read_heater B k n c f).symm
        · rw [if_neg h3, if_neg h2, if_neg h3]
          have e1 : outsideZ b [k, n, c, f] = (1, b) := if_pos (by simp)
          rw [e1]
          split <;> rfl
  | a :: k :: n :: c :: f :: r =>
    have e1 : roomZ b (a :: k :: n :: c :: f :: r) = (1, b) := if_pos (by simp)
    have e2 : outsideZ b (a :: k :: n :: c :: f :: r) = (1, b) := if_pos (by simp)
    have e3 : linkZ b (a :: k :: n :: c :: f :: r) = (1, b) := if_pos (by simp)
    have e4 : heaterZ b (a :: k :: n :: c :: f :: r) = (1, b) := if_pos (by simp)
    unfold lineZ
    rw [e1, e2, e3, e4]
    show Sum.inl 1 = lineR (if a = word "room" then (1, b) else if a = word "outside" then (1, b) else if a = word "link" then (1, b) else if a = word "heater" then (1, b) else (1, b))
    split
    · rfl
    · split
      · rfl
      · split
        · rfl
        · split <;> rfl
end WR
end PartWm6
section PartWm7
set_option Elab.async false
set_option linter.all false
set_option maxHeartbeats 1000000
namespace WR
open Vbbcab
/-- an outcome of lines -/
def outR (x : Nat × Nat × Building) : (Nat × Nat) ⊕ Building := if 0 < x.2.1 then .inl (x.1, x.2.1) else .inr x.2.2
theorem read_lines : ∀ (ls : List Text) (n : Nat) (b : Building), WfB b → readLines (n + 1) b ls = outR (linesZ n b ls)
  | [], n, b, _ => rfl
  | t :: r, n, b, B => by
    unfold readLines
    rw [read_line B]
    have W := lineZ_wf (ws := splitAt 32 t) B
    have e : linesZ n b (t :: r) = if 0 < (lineZ b (splitAt 32 t)).1 then (n + 1, (lineZ b (splitAt 32 t)).1, (lineZ b (splitAt 32 t)).2) else linesZ (n + 1) (lineZ b (splitAt 32 t)).2 r := rfl
    rw [e]
    generalize lineZ b (splitAt 32 t) = x at *
    obtain ⟨k, c⟩ := x
    unfold lineR
    by_cases h : 0 < k
    · have h' : 0 < ((k, c) : Nat × Building).1 := h
      rw [if_pos h', if_pos h']
      show Sum.inl (n + 1, k) = outR (n + 1, k, c)
      exact (if_pos h).symm
    · have h' : ¬ 0 < ((k, c) : Nat × Building).1 := h
      rw [if_neg h', if_neg h']
      exact read_lines r (n + 1) c W
/-- the links' sums -/
theorem sumTo_get {s : List Int} {n g i : Nat} (h : isOut n = true ∨ idx n < s.length) (hi : i < 100) : (sumTo s n g).getD i 0 = s.getD i 0 + if n = i then (g : Int) else 0 := by
  unfold sumTo
  cases ho : isOut n with
  | true =>
    have := (isOut_iff n).mp ho
    rw [if_pos rfl, if_neg (by omega), Int.add_zero]
  | false =>
    rw [if_neg (by decide)]
    have hl : idx n < s.length := by
      rcases h with h | h
      · rw [ho] at h
        cases h
      · exact h
    rw [bump_get hl, idx_room ho]
    by_cases q : i = n
    · rw [if_pos q, if_pos q.symm]
    · rw [if_neg q, if_neg (Ne.symm q)]
theorem sums_get : ∀ (ls : List Link) (s : List Int) (i : Nat), i < 100 → (∀ l ∈ ls, (isOut l.a = true ∨ idx l.a < s.length) ∧ (isOut l.b = true ∨ idx l.b < s.length)) → (ls.foldl sumStep s).getD i 0 = s.getD i 0 + sumI ls fun l => (if l.a = i then (l.g : Int) else 0) + if l.b = i then (l.g : Int) else 0
  | [], s, i, _, _ => by rw [sumI_nil, Int.add_zero]; rfl
  | l :: r, s, i, hi, h => by
    obtain ⟨h1, h2⟩ := h l (List.mem_cons_self ..)
    rw [List.foldl_cons, sumI_cons, sums_get r _ i hi (fun x hx => by unfold sumStep; rw [sumTo_len, sumTo_len]; exact h x (List.mem_cons_of_mem _ hx))]
    unfold sumStep
    rw [sumTo_get (by rw [sumTo_len]; exact h2) hi, sumTo_get h1 hi]
    omega
theorem conduct {b : Building} (B : WfB b) {i : Nat} (hi : i < 100) : (sumsZ b).getD i 0 = ((conductance b i : Nat) : Int) := by
  unfold sumsZ conductance
  rw [sums_get _ _ i hi (fun l hl => by rw [List.length_replicate]; exact B.roomEnds l hl), rep_get, Int.zero_add, total_eq, List.map_map]
  show _ = sumI (linksOf b i) fun x => ((x.2 : Nat) : Int)
  rw [linksOf_sum]
  refine sumI_congr fun l hl => ?_
  have ap := (B.apart l hl).1
  by_cases h1 : l.a = i
  · rw [if_pos h1, if_pos h1, if_neg (by omega), Int.add_zero]
  · rw [if_neg h1, if_neg h1, Int.zero_add]
theorem find_congr {p q : Nat → Bool} : ∀ {l : List Nat}, (∀ i ∈ l, p i = q i) → l.find? p = l.find? q
  | [], _ => rfl
  | x :: r, h => by
    rw [List.find?_cons, List.find?_cons, h x (List.mem_cons_self ..), find_congr fun i hi => h i (List.mem_cons_of_mem _ hi)]
def looseS (x : (Nat × Nat) ⊕ Building) : (Nat × Nat) ⊕ Building := match x with
  | .inl x => .inl x
  | .inr b => match (List.range b.rooms.length).find? fun i => !steady b i with
    | some i => .inl (i + 1, 6)
    | none => .inr b
theorem looseS_out {x : Nat × Nat × Building} (W : WfB x.2.2) (hl : looseZ x.2.2 = (List.range x.2.2.rooms.length).find? fun i => !steady x.2.2 i) : looseS (outR x) = outR (looseEnd x) := by
  obtain ⟨n, k, b⟩ := x
  have hl : looseZ b = (List.range b.rooms.length).find? fun i => !steady b i := hl
  by_cases h : 0 < k
  · have e1 : outR (n, k, b) = .inl (n, k) := if_pos h
    have e2 : looseEnd (n, k, b) = (n, k, b) := if_pos h
    rw [e2, e1]
    rfl
  · have e1 : outR (n, k, b) = .inr b := if_neg h
    have e2 : looseEnd (n, k, b) = match looseZ b with
      | none => (0, 0, b)
      | some i => (i + 1, 6, b) := if_neg h
    rw [e2, e1]
    show (match (List.range b.rooms.length).find? fun i => !steady b i with
      | some i => Sum.inl (i + 1, 6)
      | none => Sum.inr b) = _
    rw [← hl]
    cases looseZ b <;> rfl
theorem loose_eq {b : Building} (B : WfB b) : looseZ b = (List.range b.rooms.length).find? fun i => !steady b i := by
  unfold looseZ
  have n1 := B.nr
  refine find_congr fun i hi => ?_
  have hi := List.mem_range.mp hi
  unfold looseAt steady
  rw [conduct B (by omega)]
  have e : (64 : Int) * 2 ^ capOf b i = ((2 ^ (capOf b i + SCALE) : Nat) : Int) := by
    rw [Int.natCast_pow, Int.pow_add, Int.mul_comm]
    rfl
  rw [e, Bool.eq_iff_iff, decide_eq_true_eq, Bool.not_eq_true', decide_eq_false_iff_not]
  omega
theorem read_text (t : Text) : readText t = outR (planZ t) := by
  unfold readText planZ
  by_cases h0 : t = []
  · subst h0
    rfl
  · rw [if_neg h0]
    show (match (splitAt 10 t).getLast? with
      | some [] => looseS (readLines (0 + 1) {} (splitAt 10 t).dropLast)
      | _ => Sum.inl ((splitAt 10 t).length, 1)) = _
    cases hl : (splitAt 10 t).getLast? with
    | none => rfl
    | some w =>
      cases w with
      | cons c r => rfl
      | nil =>
        rw [if_neg (fun z => z rfl)]
        show looseS (readLines (0 + 1) {} (splitAt 10 t).dropLast) = _
        rw [read_lines _ 0 {} WfB.empty]
        have W := linesZ_wf (splitAt 10 t).dropLast 0 {} WfB.empty
        exact looseS_out W (loose_eq W)
theorem sim_build {s : HS} (t : Text) : SimAt s (.build t) (buildH s t) := by
  show (match readText t with
    | .inl x => (toSpec s, [1, (x.1 : Int), (x.2 : Int)])
    | .inr b => (begun b, [0, (b.rooms.length : Int), (b.outs.length : Int), (b.links.length : Int), (b.heaters.length : Int)])) = _
  rw [read_text]
  have W := planZ_wf t
  unfold buildH outR
  generalize planZ t = x at *
  obtain ⟨n, k, b⟩ := x
  by_cases h : 0 < k
  · have h' : 0 < ((n, k, b) : Nat × Nat × Building).2.1 := h
    rw [if_pos h', if_pos h']
  · have h' : ¬ 0 < ((n, k, b) : Nat × Nat × Building).2.1 := h
    rw [if_neg h', if_neg h']
    show (begun b, _) = (toSpec (begunZ b), _)
    congr 1
    unfold begun toSpec begunZ firstWeather firstTemps
    have e1 : (b.heaters.map fun _ => 0) = List.replicate b.heaters.length 0 := List.map_const' ..
    have e2 : (b.outs.map fun _ => Dy.of 0) = (List.replicate b.outs.length (0 : Int)).map (shave (0 + 6)) := by
      rw [List.map_replicate, shave_zero_arg, List.map_const']
      rfl
    have e3 : (b.rooms.map fun r => Dy.of r.first) = (b.rooms.map fun x => x.first).map (shave 0) := by
      rw [List.map_map]
      rfl
    simp only [e1, e2, e3]
end WR
end PartWm7
section PartWf1
set_option Elab.async false
set_option linter.all false
/-! ### fractions in least terms -/
namespace WR
open Vbbcab
def fq (f : Frac) : Rat := (f.num : Rat) / (f.den : Rat)
structure FOk (f : Frac) : Prop where
  pos : 0 < f.den
  cop : Int.gcd f.num f.den = 1
theorem fof (n : Int) : FOk (Frac.of n) := ⟨Nat.zero_lt_one, Int.gcd_one_right n⟩
theorem made_pos {n d : Int} (hd : 0 < d) : Frac.made n d = ⟨n / (Int.gcd n d : Int), (d / (Int.gcd n d : Int)).toNat⟩ := by
  unfold Frac.made
  rw [if_neg (by omega)]
  show (if 0 < d then _ else _) = _
  rw [if_pos hd]
theorem made_ok {n d : Int} (hd : 0 < d) : FOk (Frac.made n d) ∧ (Frac.made n d).num * d = n * ((Frac.made n d).den : Int) := by
  rw [made_pos hd]
  have gp : 0 < Int.gcd n d := Int.gcd_pos_of_ne_zero_right n (by omega)
  obtain ⟨a, ha⟩ := Int.gcd_dvd_left n d
  obtain ⟨c, hc⟩ := Int.gcd_dvd_right n d
  have ea : n / (Int.gcd n d : Int) = a := by
    rw [Int.ediv_eq_of_eq_mul_right (by omega) ha]
  have ec : d / (Int.gcd n d : Int) = c := by
    rw [Int.ediv_eq_of_eq_mul_right (by omega) hc]
  have cp : 0 < c := by
    rcases (by omega : 0 < c ∨ c ≤ 0) with h | h
    · exact h
    · have := Int.mul_le_mul_of_nonneg_left h (show (0 : Int) ≤ (Int.gcd n d : Int) by omega)
      rw [Int.mul_zero] at this
      omega
  have ct : ((c.toNat : Nat) : Int) = c := by omega
  rw [ea, ec]
  refine ⟨⟨by show 0 < c.toNat; omega, ?_⟩, ?_⟩
  · show Int.gcd a ((c.toNat : Nat) : Int) = 1
    rw [ct]
    have := Int.gcd_mul_left (Int.gcd n d : Int) a c
    rw [← ha, ← hc, Int.natAbs_natCast] at this
    exact Nat.eq_of_mul_eq_mul_left gp (by rw [← this, Nat.mul_one])
  · show a * d = n * ((c.toNat : Nat) : Int)
    rw [ct]
    conv => lhs; rw [hc]
    conv => rhs; rw [ha]
    rw [Int.mul_left_comm, Int.mul_assoc]
/-- f tells q -/
structure FV (f : Frac) (q : Rat) : Prop where
  ok : FOk f
  v : (f.num : Rat) = q * (f.den : Rat)
theorem fv_of (n : Int) : FV (Frac.of n) (n : Rat) := ⟨fof n, by
  show (n : Rat) = (n : Rat) * ((1 : Nat) : Rat)
  rw [show ((1 : Nat) : Rat) = 1 from rfl]
  grind⟩
theorem den_ne {f : Frac} (h : FOk f) : (f.den : Rat) ≠ 0 := by
  have := h.pos
  intro z
  have : f.den = 0 := by exact_mod_cast z
  omega
theorem fv_made {n d : Int} {q : Rat} (hd : 0 < d) (h : (n : Rat) = q * (d : Rat)) : FV (Frac.made n d) q := by
  obtain ⟨ok, e⟩ := made_ok (n := n) hd
  refine ⟨ok, ?_⟩
  have e2 : ((Frac.made n d).num : Rat) * (d : Rat) = (n : Rat) * ((Frac.made n d).den : Rat) := by exact_mod_cast congrArg (fun z : Int => (z : Rat)) e
  have dn : (d : Rat) ≠ 0 := fun z => by
    have : d = 0 := by exact_mod_cast z
    omega
  rw [h] at e2
  have : (((Frac.made n d).num : Rat) - q * ((Frac.made n d).den : Rat)) * (d : Rat) = 0 := by grind
  rcases Rat.mul_eq_zero.mp this with z | z
  · grind
  · exact absurd z dn
theorem fv_sub {a b : Frac} {x y : Rat} (ha : FV a x) (hb : FV b y) : FV (a.sub b) (x - y) := by
  have pa := ha.ok.pos
  have pb := hb.ok.pos
  refine fv_made (by exact_mod_cast Nat.mul_pos pa pb) ?_
  have h1 := ha.v
  have h2 := hb.v
  rw [Rat.intCast_sub, Rat.intCast_mul, Rat.intCast_mul, h1, h2]
  have e : (((a.den * b.den : Nat) : Int) : Rat) = (a.den : Rat) * (b.den : Rat) := by
    rw [Int.natCast_mul, Rat.intCast_mul]
    rfl
  rw [e]
  show x * (a.den : Rat) * (((b.den : Nat) : Int) : Rat) - y * (b.den : Rat) * (((a.den : Nat) : Int) : Rat) = _
  have ea : (((a.den : Nat) : Int) : Rat) = (a.den : Rat) := rfl
  have eb : (((b.den : Nat) : Int) : Rat) = (b.den : Rat) := rfl
  rw [ea, eb]
  grind
theorem fv_mul {a b : Frac} {x y : Rat} (ha : FV a x) (hb : FV b y) : FV (a.mul b) (x * y) := by
  have pa := ha.ok.pos
  have pb := hb.ok.pos
  refine fv_made (by exact_mod_cast Nat.mul_pos pa pb) ?_
  have h1 := ha.v
  have h2 := hb.v
  rw [Rat.intCast_mul, h1, h2]
  have e : (((a.den * b.den : Nat) : Int) : Rat) = (a.den : Rat) * (b.den : Rat) := by
    rw [Int.natCast_mul, Rat.intCast_mul]
    rfl
  rw [e]
  grind
theorem fv_num_pos {b : Frac} {y : Rat} (hb : FV b y) (hy : 0 < y) : 0 < b.num := by
  have h2 := hb.v
  have dp : (0 : Rat) < (b.den : Rat) := by exact_mod_cast hb.ok.pos
  have : (0 : Rat) < (b.num : Rat) := by
    rw [h2]
    exact Rat.mul_pos hy dp
  exact_mod_cast this
theorem fv_div {a b : Frac} {x y : Rat} (ha : FV a x) (hb : FV b y) (hy : 0 < y) : FV (a.div b) (x / y) := by
  have pa := ha.ok.pos
  have pn := fv_num_pos hb hy
  refine fv_made (Int.mul_pos pn (by exact_mod_cast pa)) ?_
  have h1 := ha.v
  have h2 := hb.v
  rw [Rat.intCast_mul, Rat.intCast_mul, h1, h2]
  have ea : (((a.den : Nat) : Int) : Rat) = (a.den : Rat) := rfl
  have eb : (((b.den : Nat) : Int) : Rat) = (b.den : Rat) := rfl
  rw [ea, eb]
  have yn : y ≠ 0 := fun z => by rw [z] at hy; exact absurd hy (by decide)
  have e : x / y * y = x := Rat.div_mul_cancel yn
  have e2 : x / y * (y * (b.den : Rat) * (a.den : Rat)) = (x / y * y) * (b.den : Rat) * (a.den : Rat) := by grind
  rw [e2, e]
  grind
theorem fv_unique {f g : Frac} {q : Rat} (hf : FV f q) (hg : FV g q) : f = g := by
  have e : f.num * (g.den : Int) = g.num * (f.den : Int) := by
    have r : ((f.num * (g.den : Int) : Int) : Rat) = ((g.num * (f.den : Int) : Int) : Rat) := by
      rw [Rat.intCast_mul, Rat.intCast_mul, hf.v, hg.v]
      have ea : (((f.den : Nat) : Int) : Rat) = (f.den : Rat) := rfl
      have eb : (((g.den : Nat) : Int) : Rat) = (g.den : Rat) := rfl
      rw [ea, eb]
      grind
    exact_mod_cast r
  have cf := hf.ok.cop
  have cg := hg.ok.cop
  have pf := hf.ok.pos
  have pg := hg.ok.pos
  have en' : f.num.natAbs * g.den = g.num.natAbs * f.den := by
    have := congrArg Int.natAbs e
    rw [Int.natAbs_mul, Int.natAbs_mul, Int.natAbs_natCast, Int.natAbs_natCast] at this
    exact this
  have cf' : Nat.Coprime f.den f.num.natAbs := by
    have : Nat.gcd f.num.natAbs f.den = 1 := cf
    rw [Nat.gcd_comm] at this
    exact this
  have cg' : Nat.Coprime g.den g.num.natAbs := by
    have : Nat.gcd g.num.natAbs g.den = 1 := cg
    rw [Nat.gcd_comm] at this
    exact this
  have d1 : f.den ∣ g.den := cf'.dvd_of_dvd_mul_left ⟨g.num.natAbs, by rw [en', Nat.mul_comm]⟩
  have d2 : g.den ∣ f.den := cg'.dvd_of_dvd_mul_left ⟨f.num.natAbs, by rw [← en', Nat.mul_comm]⟩
  have ed : f.den = g.den := Nat.dvd_antisymm d1 d2
  have en : f.num = g.num := by
    rw [← ed] at e
    exact Int.eq_of_mul_eq_mul_right (by omega) e
  cases f
  cases g
  simp only at ed en
  subst ed en
  rfl
end WR
end PartWf1
section PartWf2
set_option Elab.async false
set_option linter.all false
/-! ### elimination over fractions in least terms is elimination over the rationals -/
namespace WR
open Vbbcab
structure MV (m : List Vbbcab.Row) (n : Nat) (M : Mat) : Prop where
  l : m.length = n
  r : ∀ i, i < n → ∃ row, m[i]? = some row ∧ row.length = n + 1 ∧ ∀ j, j ≤ n → ∃ f, row[j]? = some f ∧ FV f (M i j)
def elimAt (i : Nat) (m : List Vbbcab.Row) : List Vbbcab.Row :=
  let p := (m.getD i []).map fun x => x.div ((m.getD i []).getD i (.of 1))
  ((List.range m.length).zip m).map fun x => if x.1 = i then p else less x.2 p (x.2.getD i (.of 0))
theorem elim_succ (c i : Nat) (m : List Vbbcab.Row) : eliminate (c + 1) i m = eliminate c (i + 1) (elimAt i m) := rfl
theorem elimAt_mv {m : List Vbbcab.Row} {n k : Nat} {M : Mat} (h : MV m n M) (hk : k < n) (hp : 0 < M k k) : MV (elimAt k m) n (gj M k) := by
  obtain ⟨rk, ek, lk, vk⟩ := h.r k hk
  have eg : m.getD k [] = rk := by rw [List.getD_eq_getElem?_getD, ek]; rfl
  obtain ⟨fk, efk, vfk⟩ := vk k (by omega)
  have egf : rk.getD k (.of 1) = fk := by rw [List.getD_eq_getElem?_getD, efk]; rfl
  -- the leading row
  have lead : ∀ j, j ≤ n → ∃ f, (rk.map fun x => x.div fk)[j]? = some f ∧ FV f (M k j / M k k) := fun j hj => by
    obtain ⟨f, ef, vf⟩ := vk j hj
    exact ⟨f.div fk, by rw [List.getElem?_map, ef]; rfl, fv_div vf vfk hp⟩
  refine ⟨?_, fun i hi => ?_⟩
  · unfold elimAt
    rw [List.length_map, List.length_zip, List.length_range, Nat.min_self, h.l]
  obtain ⟨ri, ei, li, vi⟩ := h.r i hi
  have ez : ((List.range m.length).zip m)[i]? = some (i, ri) := by
    rw [List.getElem?_zip_eq_some]
    exact ⟨List.getElem?_range (by rw [h.l]; exact hi), ei⟩
  have e1 : (elimAt k m)[i]? = some (if i = k then rk.map (fun x => x.div fk) else less ri (rk.map fun x => x.div fk) (ri.getD k (.of 0))) := by
    unfold elimAt
    rw [List.getElem?_map, ez, eg, egf]
    rfl
  refine ⟨_, e1, ?_, fun j hj => ?_⟩
  · split
    · rw [List.length_map, lk]
    · unfold less
      rw [List.length_map, List.length_zip, List.length_map, li, lk, Nat.min_self]
  · by_cases q : i = k
    · subst q
      rw [if_pos rfl, gj_self]
      exact lead j hj
    · rw [if_neg q, gj_ne q]
      obtain ⟨f, ef, vf⟩ := vi j hj
      obtain ⟨g, egk, vg⟩ := vi k (by omega)
      obtain ⟨p, epj, vp⟩ := lead j hj
      have egg : ri.getD k (.of 0) = g := by rw [List.getD_eq_getElem?_getD, egk]; rfl
      refine ⟨f.sub (g.mul p), ?_, fv_sub vf (fv_mul vg vp)⟩
      unfold less
      rw [List.getElem?_map, egg]
      have : (ri.zip (rk.map fun x => x.div fk))[j]? = some (f, p) := by
        rw [List.getElem?_zip_eq_some]
        exact ⟨ef, epj⟩
      rw [this]
      rfl
theorem elim_mv {n : Nat} {A : Mat} (hp : ∀ k, k < n → 0 < gjs A k k k) : ∀ (c k : Nat) (m : List Vbbcab.Row), k + c = n → MV m n (gjs A k) → MV (eliminate c k m) n (gjs A n)
  | 0, k, m, hk, h => by
    obtain rfl : k = n := by omega
    exact h
  | c + 1, k, m, hk, h => by
    rw [elim_succ]
    exact elim_mv hp c (k + 1) _ (by omega) (elimAt_mv h (by omega) (hp k (by omega)))
end WR
end PartWf2
section PartWf3
set_option Elab.async false
set_option linter.all false
set_option maxHeartbeats 1000000
/-! ### the document's rows are the program's equations -/
namespace WR
open Vbbcab
/-- what a link gives row i at place j -/
def linkAt (wt : List Int) (n i j : Nat) (l : Link) : Int :=
  (if l.a = i then (if j = n then (if isOut l.b = true then (l.g : Int) * wt.getD (idx l.b) 0 else 0) else (if j = i then (l.g : Int) else 0) + (if l.b = j then -(l.g : Int) else 0)) else 0) +
  (if l.b = i then (if j = n then (if isOut l.a = true then (l.g : Int) * wt.getD (idx l.a) 0 else 0) else (if j = i then (l.g : Int) else 0) + (if l.a = j then -(l.g : Int) else 0)) else 0)
def endAt (wt : List Int) (n i j h t g : Nat) : Int := if h = i then (if j = n then (if isOut t = true then (g : Int) * wt.getD (idx t) 0 else 0) else (if j = i then (g : Int) else 0) + (if t = j then -(g : Int) else 0)) else 0
theorem putRow_get {row : List Int} {n : Nat} {wt : List Int} {i m g : Nat} (hl : row.length = n + 1) (hi : i < n) (hn : n ≤ 12) (hm : isOut m = true ∨ idx m < n) {j : Nat} (hj : j ≤ n) :
    (putRow row n wt i m g).getD j 0 = row.getD j 0 + (if j = n then (if isOut m = true then (g : Int) * wt.getD (idx m) 0 else 0) else (if j = i then (g : Int) else 0) + (if m = j then -(g : Int) else 0)) := by
  unfold putRow
  cases ho : isOut m with
  | true =>
    have h100 := (isOut_iff m).mp ho
    rw [if_pos rfl, if_pos rfl, bump_get (by rw [bump_len]; omega), bump_get (by omega)]
    by_cases hjn : j = n
    · rw [if_pos hjn, if_pos hjn, if_pos rfl, if_neg (by omega)]
      omega
    · rw [if_neg hjn, if_neg hjn, if_neg (show ¬ m = j by omega)]
      omega
  | false =>
    have hmi : idx m < n := by
      rcases hm with h | h
      · rw [ho] at h
        cases h
      · exact h
    have em := idx_room ho
    rw [if_neg (by decide), if_neg (by decide), bump_get (by rw [bump_len]; omega), bump_get (by omega)]
    by_cases hjn : j = n
    · rw [if_neg (show ¬ j = i by omega), if_neg (show ¬ j = idx m by omega), if_pos hjn, if_neg (by decide)]
      omega
    · rw [if_neg hjn, em]
      by_cases q : j = m
      · rw [if_pos q, if_pos q.symm]
        omega
      · rw [if_neg q, if_neg (Ne.symm q)]
        omega
def getM (rows : List (List Int)) (i j : Nat) : Int := (rows.getD i []).getD j 0
theorem putZ_get {rows : List (List Int)} {k : Nat} (R : RowsOk rows k) {wt : List Int} {n m g : Nat} (hk : k ≤ 12) (hn : isOut n = true ∨ idx n < k) (hm : isOut m = true ∨ idx m < k) {i j : Nat} (hi : i < k) (hj : j ≤ k) :
    getM (putZ rows wt n m g) i j = getM rows i j + endAt wt k i j n m g := by
  unfold putZ endAt getM
  cases ho : isOut n with
  | true =>
    have h100 := (isOut_iff n).mp ho
    rw [if_pos rfl, if_neg (by omega), Int.add_zero]
  | false =>
    have hni : idx n < k := by
      rcases hn with h | h
      · rw [ho] at h
        cases h
      · exact h
    have en := idx_room ho
    rw [if_neg (by decide), R.l]
    rw [List.getD_eq_getElem?_getD (l := rows.set _ _), List.getElem?_set]
    have rlen : (rows.getD (idx n) []).length = k + 1 := by
      rw [List.getD_eq_getElem?_getD, List.getElem?_eq_getElem (by rw [R.l]; exact hni)]
      exact R.r _ (List.getElem_mem _)
    by_cases q : idx n = i
    · rw [if_pos q, if_pos (by rw [R.l]; omega)]
      rw [if_pos (show n = i by omega)]
      show (putRow (rows.getD (idx n) []) k wt (idx n) m g).getD j 0 = _
      rw [putRow_get rlen hni hk hm hj, q]
    · rw [if_neg q, if_neg (show ¬ n = i by omega), ← List.getD_eq_getElem?_getD, Int.add_zero]
theorem links_get {wt : List Int} {k : Nat} (hk : k ≤ 12) : ∀ (ls : List Link) (rows : List (List Int)), RowsOk rows k → (∀ l ∈ ls, (isOut l.a = true ∨ idx l.a < k) ∧ (isOut l.b = true ∨ idx l.b < k)) → ∀ i j, i < k → j ≤ k →
    getM (ls.foldl (linkRows wt) rows) i j = getM rows i j + sumI ls fun l => endAt wt k i j l.a l.b l.g + endAt wt k i j l.b l.a l.g
  | [], rows, R, _, i, j, hi, hj => by rw [sumI_nil, Int.add_zero]; rfl
  | l :: r, rows, R, h, i, j, hi, hj => by
    obtain ⟨h1, h2⟩ := h l (List.mem_cons_self ..)
    rw [List.foldl_cons, sumI_cons, links_get hk r _ (show RowsOk (linkRows wt rows l) k from R.put.put) (fun x hx => h x (List.mem_cons_of_mem _ hx)) i j hi hj]
    unfold linkRows
    rw [putZ_get R.put hk h2 h1 hi hj, putZ_get R hk h1 h2 hi hj]
    omega
/-- what a neighbour gives -/
def nbr (wt : List Int) (n i j : Nat) (x : Nat × Nat) : Int := if j = n then (if isOut x.1 = true then (x.2 : Int) * wt.getD (idx x.1) 0 else 0) else (if j = i then (x.2 : Int) else 0) + (if x.1 = j then -(x.2 : Int) else 0)
theorem ends_nbr {b : Building} (B : WfB b) (wt : List Int) (n i j : Nat) : (sumI b.links fun l => endAt wt n i j l.a l.b l.g + endAt wt n i j l.b l.a l.g) = sumI (linksOf b i) (nbr wt n i j) := by
  rw [linksOf_sum]
  refine sumI_congr fun l hl => ?_
  have ap := (B.apart l hl).1
  unfold endAt
  by_cases h1 : l.a = i
  · rw [if_pos h1, if_pos h1, if_neg (show ¬ l.b = i by omega), Int.add_zero]
    rfl
  · rw [if_neg h1, if_neg h1, Int.zero_add]
    rfl
theorem base_get {n : Nat} {heat : List Int} {i j : Nat} (hi : i < n) (hj : j ≤ n) : getM (baseRows n heat) i j = if j = n then 64 * heat.getD i 0 else 0 := by
  unfold getM baseRows
  rw [List.getD_eq_getElem?_getD (l := List.map _ _), List.getElem?_map, List.getElem?_range hi]
  show (baseRow n (heat.getD i 0)).getD j 0 = _
  unfold baseRow
  rw [getD_set, List.length_replicate, rep_get]
  by_cases h : j = n
  · rw [if_pos ⟨h, by omega⟩, if_pos h]
  · rw [if_neg fun z => h z.1, if_neg h]
theorem aM_get {b : Building} (B : WfB b) (wt : List Int) (lv : List Nat) {i j : Nat} (hi : i < b.rooms.length) (hj : j ≤ b.rooms.length) :
    aM b wt lv i j = (if j = b.rooms.length then 64 * (heatsZ b.rooms.length b.heaters lv).getD i 0 else 0) + sumI (linksOf b i) (nbr wt b.rooms.length i j) := by
  have h := links_get (wt := wt) B.nr b.links (baseRows b.rooms.length (heatsZ b.rooms.length b.heaters lv)) (RowsOk.ofBase ..) B.roomEnds i j hi hj
  rw [base_get hi hj, ends_nbr B] at h
  exact h
theorem linksOf_ne {b : Building} (B : WfB b) {i : Nat} : ∀ x ∈ linksOf b i, x.1 ≠ i := fun x hx => by
  unfold linksOf at hx
  obtain ⟨l, hl, e⟩ := List.mem_filterMap.mp hx
  have ap := (B.apart l hl).1
  by_cases h1 : l.a = i
  · rw [if_pos h1] at e
    cases e
    show l.b ≠ i
    omega
  · rw [if_neg h1] at e
    by_cases h2 : l.b = i
    · rw [if_pos h2] at e
      cases e
      exact h1
    · rw [if_neg h2] at e
      cases e
theorem aM_diag {b : Building} (B : WfB b) (wt : List Int) (lv : List Nat) {i : Nat} (hi : i < b.rooms.length) : aM b wt lv i i = ((conductance b i : Nat) : Int) := by
  rw [aM_get B wt lv hi (by omega), if_neg (by omega), Int.zero_add]
  unfold conductance
  rw [total_eq, List.map_map]
  show _ = sumI (linksOf b i) fun x => ((x.2 : Nat) : Int)
  refine sumI_congr fun x hx => ?_
  unfold nbr
  rw [if_neg (by omega), if_pos rfl, if_neg (linksOf_ne B x hx), Int.add_zero]
theorem total_filter (l : List (Nat × Nat)) (j : Nat) : ((total ((l.filter fun x => x.1 == j).map fun x => x.2) : Nat) : Int) = sumI l fun x => if x.1 = j then (x.2 : Int) else 0 := by
  rw [total_eq, List.map_map]
  induction l with
  | nil => rfl
  | cons x r ih =>
    rw [sumI_cons]
    by_cases h : x.1 = j
    · rw [List.filter_cons_of_pos (by simpa using h), List.map_cons, List.sum_cons, if_pos h, ih]
      rfl
    · rw [List.filter_cons_of_neg (by simpa using h), if_neg h, ih, Int.zero_add]
theorem sumI_neg {α : Type} (l : List α) (f : α → Int) : sumI l (fun x => -f x) = -sumI l f := by
  induction l with
  | nil => rfl
  | cons x r ih =>
    rw [sumI_cons, sumI_cons, ih]
    omega
theorem aM_off {b : Building} (B : WfB b) (wt : List Int) (lv : List Nat) {i j : Nat} (hi : i < b.rooms.length) (hj : j < b.rooms.length) (hne : j ≠ i) : aM b wt lv i j = -((total (((linksOf b i).filter fun x => x.1 == j).map fun x => x.2) : Nat) : Int) := by
  rw [aM_get B wt lv hi (by omega), if_neg (by omega), Int.zero_add, total_filter, ← sumI_neg]
  refine sumI_congr fun x hx => ?_
  unfold nbr
  rw [if_neg (by omega), if_neg hne, Int.zero_add]
  split <;> rfl
theorem fold_sum (l : List (Nat × Nat)) (wt : List Int) (lv : List Nat) : ∀ a : Int, l.foldl (fun s x => if isOut x.1 = true then s + (x.2 : Int) * outAt ⟨wt, lv⟩ (x.1 - OUT) else s) a = a + sumI l fun x => if isOut x.1 = true then (x.2 : Int) * wt.getD (idx x.1) 0 else 0 := by
  induction l with
  | nil => intro a; rw [sumI_nil, Int.add_zero]; rfl
  | cons x r ih =>
    intro a
    rw [List.foldl_cons, ih, sumI_cons]
    by_cases h : isOut x.1 = true
    · rw [if_pos h, if_pos h, idx_out h]
      show a + (x.2 : Int) * wt.getD (x.1 - 100) 0 + _ = _
      omega
    · rw [if_neg h, if_neg h]
      omega
theorem aM_last {b : Building} (B : WfB b) {wt : List Int} {lv : List Nat} (hl : lv.length = b.heaters.length) {i : Nat} (hi : i < b.rooms.length) :
    aM b wt lv i b.rooms.length = ((linksOf b i).foldl (fun s x => if isOut x.1 = true then s + (x.2 : Int) * outAt ⟨wt, lv⟩ (x.1 - OUT) else s) 0) + (2 ^ SCALE : Nat) * (heatIn b ⟨wt, lv⟩ i : Int) := by
  rw [aM_get B wt lv hi (Nat.le_refl _), if_pos rfl, fold_sum, Int.zero_add, heatIn_eq B hl, Int.add_comm]
  congr 1
  refine sumI_congr fun x _ => ?_
  unfold nbr
  rw [if_pos rfl]
end WR
end PartWf3
section PartWf4
set_option Elab.async false
set_option linter.all false
set_option maxHeartbeats 1000000
namespace WR
open Vbbcab
/-- the equations as a matrix of rationals -/
def qM (b : Building) (wt : List Int) (lv : List Nat) : Mat := fun i j => ((aM b wt lv i j : Int) : Rat)
theorem rows_mv {b : Building} (B : WfB b) {wt : List Int} {lv : List Nat} (hl : lv.length = b.heaters.length) : MV (rows b ⟨wt, lv⟩) b.rooms.length (qM b wt lv) := by
  refine ⟨by unfold rows; rw [List.length_map, List.length_range], fun i hi => ?_⟩
  refine ⟨_, by unfold rows; rw [List.getElem?_map, List.getElem?_range hi]; rfl, by rw [List.length_append, List.length_map, List.length_range]; rfl, fun j hj => ?_⟩
  by_cases hjn : j < b.rooms.length
  · rw [List.getElem?_append_left (by rw [List.length_map, List.length_range]; exact hjn), List.getElem?_map, List.getElem?_range hjn]
    refine ⟨_, rfl, ?_⟩
    unfold qM
    by_cases q : j = i
    · subst q
      rw [aM_diag B wt lv hi]
      show FV (if j = j then _ else _) _
      rw [if_pos rfl]
      exact fv_of _
    · rw [aM_off B wt lv hi hjn q]
      show FV (if j = i then _ else _) _
      rw [if_neg q]
      exact fv_of _
  · obtain rfl : j = b.rooms.length := by omega
    rw [List.getElem?_append_right (by rw [List.length_map, List.length_range]; exact Nat.le_refl _), List.length_map, List.length_range, Nat.sub_self]
    refine ⟨_, rfl, ?_⟩
    unfold qM
    rw [aM_last B hl hi]
    exact fv_of _
theorem rest_mv {b : Building} (B : WfB b) {wt : List Int} {lv : List Nat} (hl : lv.length = b.heaters.length) (hp : ∀ k, k < b.rooms.length → 0 < gjs (qM b wt lv) k k k) :
    (rest b ⟨wt, lv⟩).length = b.rooms.length ∧ ∀ i, i < b.rooms.length → ∃ f, (rest b ⟨wt, lv⟩)[i]? = some f ∧ FV f (gjs (qM b wt lv) b.rooms.length i b.rooms.length) := by
  have h := elim_mv hp b.rooms.length 0 _ (Nat.zero_add _) (rows_mv B hl)
  unfold rest
  refine ⟨by rw [List.length_map, h.l], fun i hi => ?_⟩
  obtain ⟨row, e1, e2, e3⟩ := h.r i hi
  obtain ⟨f, e4, e5⟩ := e3 b.rooms.length (Nat.le_refl _)
  refine ⟨f, ?_, e5⟩
  rw [List.getElem?_map, e1]
  show some (row.getLastD (.of 0)) = some f
  congr 1
  rw [List.getLastD_eq_getLast?, List.getLast?_eq_getElem?, e2, Nat.add_sub_cancel, e4]
  rfl
end WR
end PartWf4
section PartWf5
set_option Elab.async false
set_option linter.all false
set_option maxHeartbeats 1000000
/-! ### ranks of rooms from which a way leads out -/
namespace WR
open Vbbcab
/-- rooms marked have ranks: a neighbour is an outside or of a smaller rank -/
def Ranked (b : Building) (bs : List Bool) (r : Nat → Nat) (T : Nat) : Prop := ∀ i, i < 100 → bs.getD i false = true → r i ≤ T ∧ ∃ x ∈ linksOf b i, isOut x.1 = true ∨ (bs.getD x.1 false = true ∧ r x.1 < r i)
theorem mem_links_a {b : Building} {l : Link} (h : l ∈ b.links) : (l.b, l.g) ∈ linksOf b l.a := by
  unfold linksOf
  exact List.mem_filterMap.mpr ⟨l, h, if_pos rfl⟩
theorem mem_links_b {b : Building} (B : WfB b) {l : Link} (h : l ∈ b.links) : (l.a, l.g) ∈ linksOf b l.b := by
  unfold linksOf
  have ap := (B.apart l h).1
  exact List.mem_filterMap.mpr ⟨l, h, by rw [if_neg ap, if_pos rfl]⟩
theorem mark_get (bs : List Bool) (n i : Nat) : (markZ bs n).getD i false = true → bs.getD i false = true ∨ (isOut n = false ∧ i = n) := by
  unfold markZ
  cases ho : isOut n with
  | true =>
    rw [if_pos rfl]
    exact .inl
  | false =>
    rw [if_neg (by decide), idx_room ho]
    intro h
    rw [List.getD_eq_getElem?_getD, List.getElem?_set] at h
    by_cases q : n = i
    · exact .inr ⟨rfl, q.symm⟩
    · rw [if_neg q, ← List.getD_eq_getElem?_getD] at h
      exact .inl h
theorem mark_keep (bs : List Bool) (n i : Nat) (h : bs.getD i false = true) : (markZ bs n).getD i false = true := by
  unfold markZ
  split
  · exact h
  · rw [List.getD_eq_getElem?_getD, List.getElem?_set]
    rw [List.getD_eq_getElem?_getD] at h
    by_cases q : idx n = i
    · rw [if_pos q]
      have : i < bs.length := by
        by_cases z : i < bs.length
        · exact z
        · rw [List.getElem?_eq_none_iff.mpr (by omega)] at h
          cases h
      rw [if_pos (by omega)]
      rfl
    · rw [if_neg q]
      exact h
theorem reached_iff (bs : List Bool) (n : Nat) : reachedZ bs n = true ↔ isOut n = true ∨ (isOut n = false ∧ bs.getD n false = true) := by
  unfold reachedZ
  cases ho : isOut n with
  | true => simp
  | false =>
    rw [idx_room ho]
    simp
theorem ranked_step {b : Building} (B : WfB b) {bs : List Bool} {r : Nat → Nat} {T : Nat} (R : Ranked b bs r T) {l : Link} (hl : l ∈ b.links) : ∃ r', Ranked b (reachZ bs l) r' (T + 1) := by
  refine ⟨fun i => if bs.getD i false = true then r i else T + 1, fun i hi h => ?_⟩
  unfold reachZ at *
  by_cases c : (reachedZ bs l.a || reachedZ bs l.b) = true
  · rw [if_pos c] at h ⊢
    by_cases old : bs.getD i false = true
    · obtain ⟨h1, x, hx, h2⟩ := R i hi old
      simp only [if_pos old]
      refine ⟨by omega, x, hx, h2.imp id fun ⟨a1, a2⟩ => ⟨mark_keep _ _ _ (mark_keep _ _ _ a1), ?_⟩⟩
      rw [if_pos a1]
      exact a2
    · simp only [if_neg old]
      refine ⟨Nat.le_refl _, ?_⟩
      have new : (isOut l.a = false ∧ i = l.a) ∨ (isOut l.b = false ∧ i = l.b) := by
        rcases mark_get _ _ _ h with h | h
        · rcases mark_get _ _ _ h with h | h
          · exact absurd h old
          · exact .inl h
        · exact .inr h
      rw [Bool.or_eq_true, reached_iff, reached_iff] at c
      rcases new with ⟨o, e⟩ | ⟨o, e⟩
      · subst e
        refine ⟨_, mem_links_a hl, ?_⟩
        rcases c with (c | c) | (c | c)
        · rw [o] at c; cases c
        · exact absurd c.2 old
        · exact .inl c
        · refine .inr ⟨mark_keep _ _ _ (mark_keep _ _ _ c.2), ?_⟩
          show (if bs.getD l.b false = true then r l.b else T + 1) < T + 1
          rw [if_pos c.2]
          have hb : l.b < 100 := by
            have := fun z => (isOut_iff l.b).mpr z
            by_cases q : 100 ≤ l.b
            · rw [this q] at c; cases c.1
            · omega
          have := (R l.b hb c.2).1
          omega
      · subst e
        refine ⟨_, mem_links_b B hl, ?_⟩
        rcases c with (c | c) | (c | c)
        · exact .inl c
        · refine .inr ⟨mark_keep _ _ _ (mark_keep _ _ _ c.2), ?_⟩
          show (if bs.getD l.a false = true then r l.a else T + 1) < T + 1
          rw [if_pos c.2]
          have hb : l.a < 100 := by
            have := fun z => (isOut_iff l.a).mpr z
            by_cases q : 100 ≤ l.a
            · rw [this q] at c; cases c.1
            · omega
          have := (R l.a hb c.2).1
          omega
        · rw [o] at c; cases c
        · exact absurd c.2 old
  · rw [if_neg c] at h ⊢
    obtain ⟨h1, x, hx, h2⟩ := R i hi h
    simp only [if_pos h]
    refine ⟨by omega, x, hx, h2.imp id fun ⟨a1, a2⟩ => ⟨a1, ?_⟩⟩
    rw [if_pos a1]
    exact a2
theorem ranked_fold {b : Building} (B : WfB b) : ∀ (ls : List Link), (∀ l ∈ ls, l ∈ b.links) → ∀ (bs : List Bool) (r : Nat → Nat) (T : Nat), Ranked b bs r T → ∃ r' T', Ranked b (ls.foldl reachZ bs) r' T'
  | [], _, bs, r, T, R => ⟨r, T, R⟩
  | l :: ls, h, bs, r, T, R => by
    obtain ⟨r', R'⟩ := ranked_step B R (h l (List.mem_cons_self ..))
    exact ranked_fold B ls (fun x hx => h x (List.mem_cons_of_mem _ hx)) _ r' _ R'
theorem ranked_sweeps {b : Building} (B : WfB b) : ∀ n, ∃ r T, Ranked b (sweepsZ b n) r T
  | 0 => ⟨fun _ => 0, 0, fun i _ h => by
    rw [show sweepsZ b 0 = List.replicate b.rooms.length false from rfl, List.getD_eq_getElem?_getD, List.getElem?_replicate] at h
    split at h <;> cases h⟩
  | n + 1 => by
    obtain ⟨r, T, R⟩ := ranked_sweeps B n
    exact ranked_fold B b.links (fun l h => h) _ r T R
end WR
end PartWf5
section PartWf6
set_option Elab.async false
set_option linter.all false
set_option maxHeartbeats 1000000
/-! ### the matrix of an anchored building has a way up -/
namespace WR
open Vbbcab
theorem sumI_add {α : Type} (l : List α) (f g : α → Int) : sumI l (fun x => f x + g x) = sumI l f + sumI l g := by
  induction l with
  | nil => rfl
  | cons x r ih =>
    rw [sumI_cons, sumI_cons, sumI_cons, ih]
    omega
theorem sumI_zero {α : Type} (l : List α) : sumI l (fun _ => 0) = 0 := by
  induction l with
  | nil => rfl
  | cons x r ih =>
    rw [sumI_cons, ih]
    rfl
theorem sumI_swap {α β : Type} (l : List α) (m : List β) (f : α → β → Int) : sumI l (fun x => sumI m (f x)) = sumI m fun y => sumI l fun x => f x y := by
  induction l with
  | nil =>
    rw [sumI_nil]
    exact (sumI_zero m).symm
  | cons x r ih =>
    rw [sumI_cons, ih, ← sumI_add]
    refine sumI_congr fun y _ => ?_
    rw [sumI_cons]
theorem sumI_mul {α : Type} (l : List α) (f : α → Int) (c : Int) : sumI l (fun x => f x * c) = sumI l f * c := by
  induction l with
  | nil => rw [sumI_nil, sumI_nil, Int.zero_mul]
  | cons x r ih => rw [sumI_cons, sumI_cons, ih, Int.add_mul]
theorem sumI_snoc {α : Type} (l : List α) (x : α) (f : α → Int) : sumI (l ++ [x]) f = sumI l f + f x := by
  unfold sumI
  rw [List.map_append, List.sum_append]
  simp
theorem sumI_pick {n i : Nat} (hi : i < n) (f : Nat → Int) : sumI (List.range n) (fun j => if j = i then f j else 0) = f i := by
  induction n with
  | zero => omega
  | succ n ih =>
    rw [List.range_succ, sumI_snoc]
    by_cases h : i = n
    · subst h
      rw [if_pos rfl]
      have : sumI (List.range i) (fun j => if j = i then f j else 0) = 0 := by
        refine Eq.trans (sumI_congr (g := fun _ => 0) ?_) (sumI_zero (List.range i))
        exact fun j hj => if_neg (show ¬ j = i from fun e => by have := List.mem_range.mp hj; omega)
      rw [this, Int.zero_add]
    · rw [ih (by omega), if_neg (by omega), Int.add_zero]
theorem sumI_pick0 {n i : Nat} (hi : n ≤ i) (f : Nat → Int) : sumI (List.range n) (fun j => if j = i then f j else 0) = 0 := by
  refine Eq.trans (sumI_congr (g := fun _ => 0) ?_) (sumI_zero (List.range n))
  exact fun j hj => if_neg (show ¬ j = i from fun e => by have := List.mem_range.mp hj; omega)
theorem sumQ_int (f : Nat → Int) : ∀ n, sumQ n (fun j => ((f j : Int) : Rat)) = ((sumI (List.range n) f : Int) : Rat)
  | 0 => rfl
  | n + 1 => by
    rw [List.range_succ, sumI_snoc, Rat.intCast_add, ← sumQ_int f n]
    rfl
theorem links_lt {b : Building} (B : WfB b) {i : Nat} : ∀ x ∈ linksOf b i, isOut x.1 = true ∨ (isOut x.1 = false ∧ x.1 < b.rooms.length) := fun x hx => by
  unfold linksOf at hx
  obtain ⟨l, hl, e⟩ := List.mem_filterMap.mp hx
  have en := B.ends l hl
  have one : ∀ n, (if isOut n = true then idx n < b.outs.length else idx n < b.rooms.length) → isOut n = true ∨ (isOut n = false ∧ n < b.rooms.length) := fun n h => by
    cases ho : isOut n with
    | true => exact .inl rfl
    | false =>
      rw [ho, if_neg (by decide), idx_room ho] at h
      exact .inr ⟨rfl, h⟩
  by_cases h1 : l.a = i
  · rw [if_pos h1] at e
    cases e
    exact one _ en.2
  · rw [if_neg h1] at e
    by_cases h2 : l.b = i
    · rw [if_pos h2] at e
      cases e
      exact one _ en.1
    · rw [if_neg h2] at e
      cases e
def valOf (y : Nat → Int) (m : Nat) : Int := if isOut m = true then 0 else y m
theorem row_sum {b : Building} (B : WfB b) (wt : List Int) (lv : List Nat) (y : Nat → Int) {i : Nat} (hi : i < b.rooms.length) :
    sumQ b.rooms.length (fun j => qM b wt lv i j * ((y j : Int) : Rat)) = ((sumI (linksOf b i) (fun x => (x.2 : Int) * (y i - valOf y x.1)) : Int) : Rat) := by
  have e1 : sumQ b.rooms.length (fun j => qM b wt lv i j * ((y j : Int) : Rat)) = sumQ b.rooms.length fun j => ((sumI (linksOf b i) (fun x => ((if j = i then (x.2 : Int) * y i else 0) + if j = x.1 then -((x.2 : Int) * y x.1) else 0)) : Int) : Rat) := by
    refine sumQ_congr fun j hj => ?_
    unfold qM
    rw [aM_get B wt lv hi (by omega), if_neg (by omega), Int.zero_add, ← Rat.intCast_mul, ← sumI_mul]
    congr 1
    refine sumI_congr fun x _ => ?_
    unfold nbr
    rw [if_neg (by omega), Int.add_mul]
    congr 1
    · by_cases h : j = i
      · rw [if_pos h, if_pos h, h]
      · rw [if_neg h, if_neg h, Int.zero_mul]
    · by_cases h : x.1 = j
      · rw [if_pos h, if_pos h.symm, h, Int.neg_mul]
      · rw [if_neg h, if_neg (Ne.symm h), Int.zero_mul]
  rw [e1, sumQ_int, sumI_swap]
  congr 1
  refine sumI_congr fun x hx => ?_
  rw [sumI_add, sumI_pick hi fun _ => (x.2 : Int) * y i]
  unfold valOf
  rcases links_lt B x hx with h | ⟨h, hl⟩
  · have h100 := (isOut_iff x.1).mp h
    have n1 := B.nr
    rw [sumI_pick0 (by omega) fun _ => -((x.2 : Int) * y x.1), if_pos h, Int.sub_zero, Int.add_zero]
  · rw [sumI_pick hl fun _ => -((x.2 : Int) * y x.1), h, if_neg (by decide), Int.mul_sub]
    omega
end WR
end PartWf6
section PartWf7
set_option Elab.async false
set_option linter.all false
set_option maxHeartbeats 1000000
namespace WR
open Vbbcab
theorem sumI_nonneg {α : Type} {l : List α} {f : α → Int} (h : ∀ x ∈ l, 0 ≤ f x) : 0 ≤ sumI l f := by
  induction l with
  | nil => exact Int.le_refl 0
  | cons x r ih =>
    rw [sumI_cons]
    have := h x (List.mem_cons_self ..)
    have := ih fun y hy => h y (List.mem_cons_of_mem _ hy)
    omega
theorem sumI_ge {α : Type} {l : List α} {f : α → Int} (h : ∀ x ∈ l, 0 ≤ f x) {x : α} (hx : x ∈ l) : f x ≤ sumI l f := by
  induction l with
  | nil => cases hx
  | cons y r ih =>
    rw [sumI_cons]
    have h1 := h y (List.mem_cons_self ..)
    have h2 := sumI_nonneg (l := r) fun z hz => h z (List.mem_cons_of_mem _ hz)
    rcases List.mem_cons.mp hx with rfl | hx
    · omega
    · have := ih (fun z hz => h z (List.mem_cons_of_mem _ hz)) hx
      omega
theorem sumI_le {α : Type} {l : List α} {f : α → Int} {c : Int} (h : ∀ x ∈ l, f x ≤ c) : sumI l f ≤ (l.length : Int) * c := by
  induction l with
  | nil => rw [sumI_nil, List.length_nil]; simp
  | cons x r ih =>
    rw [sumI_cons, List.length_cons]
    have h1 := h x (List.mem_cons_self ..)
    have h2 := ih fun z hz => h z (List.mem_cons_of_mem _ hz)
    rw [Int.natCast_add, Int.add_mul]
    omega
theorem links_g {b : Building} (B : WfB b) {i : Nat} : ∀ x ∈ linksOf b i, 1 ≤ x.2 ∧ x.2 ≤ 100000 := fun x hx => by
  unfold linksOf at hx
  obtain ⟨l, hl, e⟩ := List.mem_filterMap.mp hx
  have g := B.g l hl
  by_cases h1 : l.a = i
  · rw [if_pos h1] at e
    cases e
    exact g
  · rw [if_neg h1] at e
    by_cases h2 : l.b = i
    · rw [if_pos h2] at e
      cases e
      exact g
    · rw [if_neg h2] at e
      cases e
theorem links_total {b : Building} (B : WfB b) (i : Nat) : sumI (linksOf b i) (fun x => (x.2 : Int)) ≤ 4000000 := by
  have h := sumI_le (l := linksOf b i) (f := fun x => (x.2 : Int)) (c := 100000) fun x hx => by
    have := (links_g B x hx).2
    omega
  have hl : (linksOf b i).length ≤ 40 := by
    unfold linksOf
    exact Nat.le_trans (List.length_filterMap_le ..) B.nl
  omega
def KK : Int := 5000000
theorem KK_pow (n : Nat) : 0 < KK ^ n := Int.pow_pos (by decide)
theorem KK_le {a c : Nat} (h : a ≤ c) : KK ^ a ≤ KK ^ c := by
  obtain ⟨d, rfl⟩ := Nat.exists_eq_add_of_le h
  rw [Int.pow_add]
  have h1 := KK_pow a
  have h2 := KK_pow d
  have := Int.mul_le_mul_of_nonneg_left (show (1 : Int) ≤ KK ^ d by omega) (show (0 : Int) ≤ KK ^ a by omega)
  omega
theorem KK_step {a c : Nat} (h : a + 1 ≤ c) : KK ^ a * KK ≤ KK ^ c := by
  have := KK_le h
  rw [Int.pow_succ] at this
  exact this
/-- the weights of ranks -/
def wgt (r : Nat → Nat) (N i : Nat) : Int := KK ^ N - KK ^ (N - (r i + 1))
theorem rank_row {b : Building} (B : WfB b) {bs : List Bool} {r : Nat → Nat} {T : Nat} (R : Ranked b bs r T) (all : ∀ i, i < b.rooms.length → bs.getD i false = true) {i : Nat} (hi : i < b.rooms.length) :
    0 < sumI (linksOf b i) fun x => (x.2 : Int) * (wgt r (T + 1) i - valOf (wgt r (T + 1)) x.1) := by
  have n1 := B.nr
  obtain ⟨h1, x0, hx0, h2⟩ := R i (by omega) (all i hi)
  generalize hP : KK ^ (T + 1 - (r i + 1)) = P
  have Pp : 0 < P := by rw [← hP]; exact KK_pow _
  have tot := links_total B i
  -- each term with P more is not below 0
  have each : ∀ x ∈ linksOf b i, 0 ≤ wgt r (T + 1) i - valOf (wgt r (T + 1)) x.1 + P := fun x hx => by
    unfold valOf wgt
    rw [hP]
    rcases links_lt B x hx with h | ⟨h, hl⟩
    · rw [if_pos h]
      have := KK_pow (T + 1)
      omega
    · rw [h, if_neg (by decide)]
      have := KK_pow (T + 1 - (r x.1 + 1))
      omega
  have one : P * KK ≤ wgt r (T + 1) i - valOf (wgt r (T + 1)) x0.1 + P := by
    unfold valOf wgt
    rw [hP]
    rcases links_lt B x0 hx0 with h | ⟨h, hl⟩
    · rw [if_pos h]
      have := KK_step (a := T + 1 - (r i + 1)) (c := T + 1) (by omega)
      rw [hP] at this
      omega
    · rw [h, if_neg (by decide)]
      rcases h2 with h2 | ⟨_, h2⟩
      · rw [h] at h2
        cases h2
      · have := KK_step (a := T + 1 - (r i + 1)) (c := T + 1 - (r x0.1 + 1)) (by omega)
        rw [hP] at this
        omega
  have e : sumI (linksOf b i) (fun x => (x.2 : Int) * (wgt r (T + 1) i - valOf (wgt r (T + 1)) x.1 + P)) = sumI (linksOf b i) (fun x => (x.2 : Int) * (wgt r (T + 1) i - valOf (wgt r (T + 1)) x.1)) + sumI (linksOf b i) (fun x => (x.2 : Int)) * P := by
    rw [← sumI_mul, ← sumI_add]
    exact sumI_congr fun x _ => Int.mul_add ..
  have big := sumI_ge (l := linksOf b i) (f := fun x => (x.2 : Int) * (wgt r (T + 1) i - valOf (wgt r (T + 1)) x.1 + P)) (fun x hx => Int.mul_nonneg (by omega) (each x hx)) hx0
  have g0 := (links_g B x0 hx0).1
  have b1 : P * KK ≤ (x0.2 : Int) * (wgt r (T + 1) i - valOf (wgt r (T + 1)) x0.1 + P) := by
    have z := each x0 hx0
    have := Int.mul_le_mul_of_nonneg_right (show (1 : Int) ≤ (x0.2 : Int) by omega) z
    omega
  have b2 : sumI (linksOf b i) (fun x => (x.2 : Int)) * P ≤ 4000000 * P := Int.mul_le_mul_of_nonneg_right tot (by omega)
  rw [e] at big
  have b3 : P * KK = 5000000 * P := Int.mul_comm ..
  omega
theorem anch_all {b : Building} (h : anchZ b = true) : ∀ i, i < b.rooms.length → (sweepsZ b b.rooms.length).getD i false = true := fun i hi => by
  unfold anchZ at h
  have hl := sweeps_len b b.rooms.length
  have := List.all_eq_true.mp h _ (List.getElem_mem (show i < (sweepsZ b b.rooms.length).length by omega))
  rw [List.getD_eq_getElem?_getD, List.getElem?_eq_getElem (by omega)]
  exact this
theorem anch_good {b : Building} (B : WfB b) (h : anchZ b = true) (wt : List Int) (lv : List Nat) : ∃ x, Good (qM b wt lv) b.rooms.length x := by
  obtain ⟨r, T, R⟩ := ranked_sweeps B b.rooms.length
  have n1 := B.nr
  refine ⟨fun i => ((wgt r (T + 1) i : Int) : Rat), fun i j hi hj hne => ?_, fun i hi => ?_, fun i hi => ?_⟩
  · unfold qM
    rw [aM_off B wt lv hi hj (Ne.symm hne)]
    have : (-((total (((linksOf b i).filter fun x => x.1 == j).map fun x => x.2) : Nat) : Int)) ≤ 0 := by omega
    exact_mod_cast this
  · have hr := (R i (by omega) (anch_all h i hi)).1
    have := KK_step (a := T + 1 - (r i + 1)) (c := T + 1) (by omega)
    have p := KK_pow (T + 1 - (r i + 1))
    have : 0 < wgt r (T + 1) i := by
      unfold wgt
      have e : KK ^ (T + 1 - (r i + 1)) * KK = 5000000 * KK ^ (T + 1 - (r i + 1)) := Int.mul_comm ..
      omega
    exact_mod_cast this
  · rw [row_sum B wt lv (wgt r (T + 1)) hi]
    exact_mod_cast rank_row B R (anch_all h) hi
end WR
end PartWf7
section PartWf8
set_option Elab.async false
set_option linter.all false
set_option maxHeartbeats 1000000
namespace WR
open Vbbcab
theorem sumI_abs {α : Type} {l : List α} {f : α → Int} {c : Nat} (h : ∀ x ∈ l, (f x).natAbs ≤ c) : (sumI l f).natAbs ≤ l.length * c := by
  induction l with
  | nil => rw [sumI_nil]; exact Nat.zero_le _
  | cons x r ih =>
    rw [sumI_cons, List.length_cons, Nat.succ_mul]
    have h1 := h x (List.mem_cons_self ..)
    have h2 := ih fun z hz => h z (List.mem_cons_of_mem _ hz)
    omega
theorem aM_small {b : Building} (B : WfB b) {wt : List Int} {lv : List Nat} (W : WfW b wt lv) {i j : Nat} (hi : i < b.rooms.length) (hj : j ≤ b.rooms.length) : (aM b wt lv i j).natAbs ≤ 1000000000000 := by
  rw [aM_get B wt lv hi hj]
  have hh := (heatsZ_sm (n := b.rooms.length) (hs := b.heaters) W.lev B.nh).getD i
  have hh : ((heatsZ b.rooms.length b.heaters lv).getD i 0).natAbs < 8388608 := hh
  have hs := sumI_abs (l := linksOf b i) (f := nbr wt b.rooms.length i j) (c := 10000000000) fun x hx => by
    have g := links_g B x hx
    unfold nbr
    by_cases h : j = b.rooms.length
    · rw [if_pos h]
      split
      · rw [Int.natAbs_mul, Int.natAbs_natCast]
        have hw : (wt.getD (idx x.1) 0).natAbs ≤ 100000 := by
          rw [List.getD_eq_getElem?_getD]
          cases e : wt[idx x.1]? with
          | none => exact Nat.zero_le _
          | some t => exact W.warm t (List.mem_of_getElem? e)
        exact Nat.le_trans (Nat.mul_le_mul g.2 hw) (by decide)
      · exact Nat.zero_le _
    · rw [if_neg h]
      split <;> split <;> omega
  have hl : (linksOf b i).length ≤ 40 := by
    unfold linksOf
    exact Nat.le_trans (List.length_filterMap_le ..) B.nl
  have : (linksOf b i).length * 10000000000 ≤ 400000000000 := by omega
  split <;> omega
theorem small_pow {n : Nat} (h : n ≤ 12) : (12 * 1000000000000) ^ n < 2 ^ 8000 := by
  have h1 : (12 * 1000000000000) ^ n ≤ (12 * 1000000000000) ^ 12 := Nat.pow_le_pow_right (by decide) h
  exact Nat.lt_of_le_of_lt h1 (by decide +kernel)
theorem anch_ok : AnchOk := by
  intro b wt lv B W h
  obtain ⟨x, G⟩ := anch_good B h wt lv
  have n1 := B.nr
  have hE : ∀ i j, i < b.rooms.length → j ≤ b.rooms.length → (aM b wt lv i j).natAbs ≤ 1000000000000 := fun i j hi hj => aM_small B W hi hj
  have br := fun k (hk : k ≤ b.rooms.length) => bareiss (N := 12) n1 (by decide) hE hk (G.ne hk)
  have sm := fun k (hk : k ≤ b.rooms.length) i j (hi : i < b.rooms.length) (hj : j ≤ b.rooms.length) => bareiss_small (N := 12) n1 (by decide) hE hk (G.ne hk) hi hj
  have pos : ∀ k ≤ b.rooms.length, 0 < (bst (aM b wt lv) k).2 := fun k hk => by
    have := G.d_pos hk
    have e := (br k hk).1
    have e' : ((bst (aM b wt lv) k).2 : Rat) = piv (qM b wt lv) k := e
    rw [← e'] at this
    exact_mod_cast this
  refine ⟨pos, fun k hk => ?_, fun k hk i hi j hj => Nat.lt_of_le_of_lt (sm k hk i j hi hj) (small_pow n1)⟩
  cases k with
  | zero =>
    show (1 : Int).natAbs < 2 ^ 8000
    decide +kernel
  | succ k =>
    show ((bst (aM b wt lv) k).1 k k).natAbs < 2 ^ 8000
    exact Nat.lt_of_le_of_lt (sm k (by omega) k k (by omega) (by omega)) (small_pow n1)
/-- what the elimination says, at rest -/
theorem nums_rest {b : Building} (B : WfB b) {wt : List Int} {lv : List Nat} (W : WfW b wt lv) (h : anchZ b = true) :
    (rest b ⟨wt, lv⟩).length = b.rooms.length ∧ ∀ i, i < b.rooms.length → ∃ f, (rest b ⟨wt, lv⟩)[i]? = some f ∧ FV f (gjs (qM b wt lv) b.rooms.length i b.rooms.length) ∧
      (((bst (aM b wt lv) b.rooms.length).1 i b.rooms.length : Int) : Rat) = gjs (qM b wt lv) b.rooms.length i b.rooms.length * (((bst (aM b wt lv) b.rooms.length).2 : Int) : Rat) := by
  obtain ⟨x, G⟩ := anch_good B h wt lv
  have n1 := B.nr
  have hE : ∀ i j, i < b.rooms.length → j ≤ b.rooms.length → (aM b wt lv i j).natAbs ≤ 1000000000000 := fun i j hi hj => aM_small B W hi hj
  obtain ⟨e1, e2⟩ := bareiss (N := 12) n1 (by decide) hE (Nat.le_refl _) (G.ne (Nat.le_refl _))
  obtain ⟨r1, r2⟩ := rest_mv B W.ll fun k hk => G.piv_pos hk
  refine ⟨r1, fun i hi => ?_⟩
  obtain ⟨f, f1, f2⟩ := r2 i hi
  refine ⟨f, f1, f2, ?_⟩
  have e1 : ((bst (aM b wt lv) b.rooms.length).2 : Rat) = piv (qM b wt lv) b.rooms.length := e1
  have e2 : ((bst (aM b wt lv) b.rooms.length).1 i b.rooms.length : Rat) = piv (qM b wt lv) b.rooms.length * gjs (qM b wt lv) b.rooms.length i b.rooms.length := e2 i b.rooms.length hi (Nat.le_refl _)
  rw [e2, e1]
  grind
end WR
end PartWf8
section PartWf9
set_option Elab.async false
set_option linter.all false
set_option maxHeartbeats 1000000
/-! ### the program's sweeps are the document's spreading -/
namespace WR
open Vbbcab
/-- from a room a way leads out -/
inductive Way (b : Building) : Nat → Prop
  | out (i : Nat) (x : Nat × Nat) : i < b.rooms.length → x ∈ linksOf b i → isOut x.1 = true → Way b i
  | nb (i : Nat) (x : Nat × Nat) : i < b.rooms.length → x ∈ linksOf b i → Way b x.1 → Way b i
theorem Way.lt {b : Building} {i : Nat} (h : Way b i) : i < b.rooms.length := by
  cases h <;> assumption
/-! filters of a range -/
def pickL (n : Nat) (p : Nat → Bool) : List Nat := (List.range n).filter p
theorem mem_pick {n : Nat} {p : Nat → Bool} {i : Nat} : i ∈ pickL n p ↔ i < n ∧ p i = true := by
  unfold pickL
  rw [List.mem_filter, List.mem_range]
theorem pick_sub {n : Nat} {p q : Nat → Bool} (h : ∀ i, i < n → p i = true → q i = true) : (pickL n p).Sublist (pickL n q) := by
  have e : (pickL n q).filter p = pickL n p := by
    unfold pickL
    rw [List.filter_filter]
    refine List.filter_congr fun i hi => ?_
    have := h i (List.mem_range.mp hi)
    cases hp : p i with
    | false => rfl
    | true => rw [this hp]; rfl
  rw [← e]
  exact List.filter_sublist
theorem pick_le (n : Nat) (p : Nat → Bool) : (pickL n p).length ≤ n := by
  have := List.length_filter_le p (List.range n)
  rw [List.length_range] at this
  exact this
theorem pick_all {n : Nat} {p : Nat → Bool} (h : n ≤ (pickL n p).length) : ∀ i, i < n → p i = true := fun i hi => by
  have s : (pickL n p).Sublist (List.range n) := List.filter_sublist
  have e := s.eq_of_length_le (by rw [List.length_range]; exact h)
  have m : i ∈ pickL n p := by
    rw [e]
    exact List.mem_range.mpr hi
  exact (mem_pick.mp m).2
theorem pick_full {n : Nat} {p : Nat → Bool} (h : ∀ i, i < n → p i = true) : (pickL n p).length = n := by
  have e : pickL n p = List.range n := by
    unfold pickL
    exact List.filter_eq_self.mpr fun i hi => h i (List.mem_range.mp hi)
  rw [e, List.length_range]
theorem spread_succ (b : Building) (n : Nat) (l : List Nat) : spread b (n + 1) l = if (pickL b.rooms.length fun i => l.contains i || (linksOf b i).any fun x => l.contains x.1).length = l.length then (pickL b.rooms.length fun i => l.contains i || (linksOf b i).any fun x => l.contains x.1) else spread b n (pickL b.rooms.length fun i => l.contains i || (linksOf b i).any fun x => l.contains x.1) := rfl
def Shut (b : Building) (l : List Nat) : Prop := ∀ i, i < b.rooms.length → ∀ x ∈ linksOf b i, x.1 ∈ l → i ∈ l
theorem spread_ok (b : Building) : ∀ (n : Nat) (p : Nat → Bool), ∃ q, spread b n (pickL b.rooms.length p) = pickL b.rooms.length q ∧ (∀ i, i < b.rooms.length → p i = true → q i = true) ∧ ((∀ i, i < b.rooms.length → p i = true → Way b i) → ∀ i, i < b.rooms.length → q i = true → Way b i) ∧
      (Shut b (pickL b.rooms.length q) ∨ (pickL b.rooms.length p).length + n ≤ (pickL b.rooms.length q).length)
  | 0, p => ⟨p, rfl, fun _ _ h => h, fun h => h, .inr (Nat.le_refl _)⟩
  | n + 1, p => by
    rw [spread_succ]
    generalize hl : pickL b.rooms.length p = l
    generalize hp2 : (fun i => l.contains i || (linksOf b i).any fun x => l.contains x.1) = p2
    have up : ∀ i, i < b.rooms.length → p i = true → p2 i = true := fun i hi h => by
      have m : i ∈ l := by rw [← hl]; exact mem_pick.mpr ⟨hi, h⟩
      rw [← hp2]
      show (l.contains i || _) = true
      rw [List.contains_iff_mem.mpr m]
      rfl
    have sub : l.Sublist (pickL b.rooms.length p2) := by
      rw [← hl]
      exact pick_sub up
    have way : (∀ i, i < b.rooms.length → p i = true → Way b i) → ∀ i, i < b.rooms.length → p2 i = true → Way b i := fun h i hi h2 => by
      rw [← hp2] at h2
      have h2 : (l.contains i || (linksOf b i).any fun x => l.contains x.1) = true := h2
      rcases Bool.or_eq_true _ _ ▸ h2 with m | m
      · have m := List.contains_iff_mem.mp m
        rw [← hl] at m
        exact h i hi (mem_pick.mp m).2
      · obtain ⟨x, hx, hm⟩ := List.any_eq_true.mp m
        have hm := List.contains_iff_mem.mp hm
        rw [← hl] at hm
        exact .nb i x hi hx (h _ (mem_pick.mp hm).1 (mem_pick.mp hm).2)
    by_cases c : (pickL b.rooms.length p2).length = l.length
    · rw [if_pos c]
      refine ⟨p2, rfl, up, way, .inl fun i hi x hx hm => ?_⟩
      have e : l = pickL b.rooms.length p2 := sub.eq_of_length c.symm
      refine mem_pick.mpr ⟨hi, ?_⟩
      rw [← e] at hm
      rw [← hp2]
      show (l.contains i || (linksOf b i).any fun x => l.contains x.1) = true
      have a : ((linksOf b i).any fun x => l.contains x.1) = true := List.any_eq_true.mpr ⟨x, hx, List.contains_iff_mem.mpr hm⟩
      rw [a, Bool.or_true]
    · rw [if_neg c]
      obtain ⟨q, e, h1, h2, h3⟩ := spread_ok b n p2
      refine ⟨q, e, fun i hi h => h1 i hi (up i hi h), fun h => h2 (way h), h3.imp id fun h => ?_⟩
      have := sub.length_le
      omega
theorem vented_ok {b : Building} (B : WfB b) : ∃ q, vented b = pickL b.rooms.length q ∧ (∀ i, i < b.rooms.length → q i = true → Way b i) ∧ ∀ i, Way b i → q i = true := by
  obtain ⟨q, e, h1, h2, h3⟩ := spread_ok b 12 fun i => (linksOf b i).any fun x => isOut x.1
  have n1 := B.nr
  refine ⟨q, e, h2 fun i hi h => ?_, ?_⟩
  · obtain ⟨x, hx, hm⟩ := List.any_eq_true.mp h
    exact .out i x hi hx hm
  · have shut : Shut b (pickL b.rooms.length q) := by
      rcases h3 with h | h
      · exact h
      · have all := pick_all (n := b.rooms.length) (p := q) (by omega)
        exact fun i hi _ _ _ => mem_pick.mpr ⟨hi, all i hi⟩
    intro i w
    have m : i ∈ pickL b.rooms.length q := by
      induction w with
      | out i x hi hx ho => exact mem_pick.mpr ⟨hi, h1 i hi (List.any_eq_true.mpr ⟨x, hx, ho⟩)⟩
      | nb i x hi hx _ ih => exact shut i hi x hx ih
    exact (mem_pick.mp m).2
theorem vented_iff {b : Building} (B : WfB b) : allVented b = true ↔ ∀ i, i < b.rooms.length → Way b i := by
  obtain ⟨q, e, h1, h2⟩ := vented_ok B
  unfold allVented
  rw [e, beq_iff_eq]
  constructor
  · intro h i hi
    exact h1 i hi (pick_all (by omega) i hi)
  · intro h
    exact pick_full fun i hi => h2 i (h i hi)
/-! the sweeps -/
theorem way_ranked {b : Building} (B : WfB b) {bs : List Bool} {r : Nat → Nat} {T : Nat} (R : Ranked b bs r T) (hl : bs.length = b.rooms.length) : ∀ (k i : Nat), r i ≤ k → i < b.rooms.length → bs.getD i false = true → Way b i := by
  have n1 := B.nr
  intro k
  induction k with
  | zero =>
    intro i hr hi h
    obtain ⟨h1, x, hx, h2⟩ := R i (by omega) h
    rcases h2 with h2 | ⟨_, h2⟩
    · exact .out i x hi hx h2
    · omega
  | succ k ih =>
    intro i hr hi h
    obtain ⟨h1, x, hx, h2⟩ := R i (by omega) h
    rcases h2 with h2 | ⟨h2, h3⟩
    · exact .out i x hi hx h2
    · refine .nb i x hi hx (ih x.1 (by omega) ?_ h2)
      by_cases z : x.1 < bs.length
      · omega
      · rw [List.getD_eq_getElem?_getD, List.getElem?_eq_none_iff.mpr (by omega)] at h2
        cases h2
def cntB (bs : List Bool) : List Nat := pickL bs.length fun i => bs.getD i false
def LeB (bs cs : List Bool) : Prop := ∀ i, bs.getD i false = true → cs.getD i false = true
theorem LeB.trans {a c d : List Bool} (h : LeB a c) (k : LeB c d) : LeB a d := fun i z => k i (h i z)
theorem LeB.anti {a c : List Bool} (h : LeB a c) (k : LeB c a) (hl : a.length = c.length) : a = c := by
  refine List.ext_getElem hl fun i h1 h2 => ?_
  have e1 : a.getD i false = a[i] := by rw [List.getD_eq_getElem?_getD, List.getElem?_eq_getElem h1]; rfl
  have e2 : c.getD i false = c[i] := by rw [List.getD_eq_getElem?_getD, List.getElem?_eq_getElem h2]; rfl
  have h := h i
  have k := k i
  rw [e1, e2] at h k
  exact Bool.eq_iff_iff.mpr ⟨h, k⟩
theorem mark_le (bs : List Bool) (n : Nat) : LeB bs (markZ bs n) := fun i h => mark_keep bs n i h
theorem reach_le (bs : List Bool) (l : Link) : LeB bs (reachZ bs l) := by
  unfold reachZ
  split
  · exact (mark_le _ _).trans (mark_le _ _)
  · exact fun _ h => h
theorem fold_le : ∀ (ls : List Link) (bs : List Bool), LeB bs (ls.foldl reachZ bs)
  | [], bs => fun _ h => h
  | l :: r, bs => (reach_le bs l).trans (fold_le r _)
theorem fold_fix : ∀ (ls : List Link) (bs : List Bool), ls.foldl reachZ bs = bs → ∀ l ∈ ls, reachZ bs l = bs
  | [], _, _, l, hl => by cases hl
  | l :: r, bs, h, x, hx => by
    rw [List.foldl_cons] at h
    have e : reachZ bs l = bs := by
      refine LeB.anti (fun i z => ?_) (reach_le bs l) (reach_len bs l)
      have := fold_le r (reachZ bs l) i z
      rw [h] at this
      exact this
    rcases List.mem_cons.mp hx with rfl | hx
    · exact e
    · rw [e] at h
      exact fold_fix r bs h x hx
theorem mark_here {bs : List Bool} {n : Nat} (ho : isOut n = false) (hn : n < bs.length) : (markZ bs n).getD n false = true := by
  unfold markZ
  rw [ho, if_neg (by decide), idx_room ho, List.getD_eq_getElem?_getD, List.getElem?_set, if_pos rfl, if_pos (by omega)]
  rfl
theorem fix_way {b : Building} (B : WfB b) {bs : List Bool} (hl : bs.length = b.rooms.length) (h : sweepZ b bs = bs) : ∀ i, Way b i → bs.getD i false = true := by
  have n1 := B.nr
  have fix := fold_fix b.links bs h
  -- a link one end of which is reached
  have one : ∀ i, i < b.rooms.length → ∀ x ∈ linksOf b i, reachedZ bs x.1 = true → bs.getD i false = true := fun i hi x hx hr => by
    unfold linksOf at hx
    obtain ⟨l, hlk, e⟩ := List.mem_filterMap.mp hx
    have f := fix l hlk
    have oi : isOut i = false := Bool.eq_false_iff.mpr fun z => by have := (isOut_iff i).mp z; omega
    unfold reachZ at f
    by_cases h1 : l.a = i
    · rw [if_pos h1] at e
      cases e
      have hr : reachedZ bs l.b = true := hr
      rw [hr, Bool.or_true, if_pos rfl] at f
      rw [← f, h1]
      exact mark_keep _ _ _ (mark_here oi (by omega))
    · rw [if_neg h1] at e
      by_cases h2 : l.b = i
      · rw [if_pos h2] at e
        cases e
        have hr : reachedZ bs l.a = true := hr
        rw [hr, Bool.true_or, if_pos rfl] at f
        rw [← f, h2]
        exact mark_here oi (by rw [mark_len]; omega)
      · rw [if_neg h2] at e
        cases e
  intro i w
  induction w with
  | out i x hi hx ho => exact one i hi x hx ((reached_iff _ _).mpr (.inl ho))
  | nb i x hi hx w ih =>
    have := w.lt
    have ox : isOut x.1 = false := Bool.eq_false_iff.mpr fun z => by have := (isOut_iff x.1).mp z; omega
    exact one i hi x hx ((reached_iff _ _).mpr (.inr ⟨ox, ih⟩))
theorem sweeps_grow (b : Building) : ∀ n, sweepZ b (sweepsZ b n) = sweepsZ b n ∨ n ≤ (cntB (sweepsZ b n)).length
  | 0 => .inr (Nat.zero_le _)
  | n + 1 => by
    rcases sweeps_grow b n with h | h
    · left
      have e : sweepsZ b (n + 1) = sweepsZ b n := h
      rw [e]
      exact h
    · by_cases c : sweepsZ b (n + 1) = sweepsZ b n
      · left
        rw [c]
        exact c
      · right
        have l1 := sweeps_len b n
        have l2 := sweeps_len b (n + 1)
        have le : LeB (sweepsZ b n) (sweepsZ b (n + 1)) := fold_le b.links _
        have sub : (cntB (sweepsZ b n)).Sublist (cntB (sweepsZ b (n + 1))) := by
          unfold cntB
          rw [l1, l2]
          exact pick_sub fun i _ h => le i h
        have lt : (cntB (sweepsZ b n)).length < (cntB (sweepsZ b (n + 1))).length := by
          rcases Nat.lt_or_ge (cntB (sweepsZ b n)).length (cntB (sweepsZ b (n + 1))).length with q | q
          · exact q
          · have e := sub.eq_of_length_le q
            exfalso
            refine c (LeB.anti (fun i z => ?_) le (by rw [l1, l2]))
            have hi : i < (sweepsZ b (n + 1)).length := by
              by_cases q : i < (sweepsZ b (n + 1)).length
              · exact q
              · rw [List.getD_eq_getElem?_getD, List.getElem?_eq_none_iff.mpr (by omega)] at z
                cases z
            have m : i ∈ cntB (sweepsZ b (n + 1)) := mem_pick.mpr ⟨hi, z⟩
            rw [← e] at m
            exact (mem_pick.mp m).2
        omega
theorem anch_vented {b : Building} (B : WfB b) : allVented b = anchZ b := by
  have hl := sweeps_len b b.rooms.length
  rw [Bool.eq_iff_iff, vented_iff B]
  constructor
  · intro h
    have all : ∀ i, i < b.rooms.length → (sweepsZ b b.rooms.length).getD i false = true := by
      rcases sweeps_grow b b.rooms.length with g | g
      · exact fun i hi => fix_way B hl g i (h i hi)
      · unfold cntB at g
        rw [hl] at g
        exact fun i hi => pick_all g i hi
    unfold anchZ
    rw [List.all_eq_true]
    intro x hx
    obtain ⟨i, hi, rfl⟩ := List.getElem_of_mem hx
    have := all i (by omega)
    rw [List.getD_eq_getElem?_getD, List.getElem?_eq_getElem hi] at this
    exact this
  · intro h i hi
    obtain ⟨r, T, R⟩ := ranked_sweeps B b.rooms.length
    exact way_ranked B R hl _ i (Nat.le_refl _) hi (anch_all h i hi)
end WR
end PartWf9
section PartWf10
set_option Elab.async false
set_option linter.all false
set_option maxHeartbeats 1000000
/-! ### rest and settle -/
namespace WR
open Vbbcab
theorem d_pos {b : Building} (B : WfB b) {wt : List Int} {lv : List Nat} (W : WfW b wt lv) (h : anchZ b = true) : 0 < (bst (aM b wt lv) b.rooms.length).2 := (anch_ok b wt lv B W h).pos _ (Nat.le_refl _)
theorem fv_nums {b : Building} (B : WfB b) {wt : List Int} {lv : List Nat} (W : WfW b wt lv) (h : anchZ b = true) {i : Nat} (hi : i < b.rooms.length) :
    (rest b ⟨wt, lv⟩)[i]? = some (Frac.made ((bst (aM b wt lv) b.rooms.length).1 i b.rooms.length) (bst (aM b wt lv) b.rooms.length).2) := by
  obtain ⟨r1, r2⟩ := nums_rest B W h
  obtain ⟨f, f1, f2, f3⟩ := r2 i hi
  rw [f1, fv_unique f2 (fv_made (d_pos B W h) f3)]
theorem rest_eq {b : Building} (B : WfB b) {wt : List Int} {lv : List Nat} (W : WfW b wt lv) (h : anchZ b = true) :
    rest b ⟨wt, lv⟩ = (numsZ (aM b wt lv) b.rooms.length).map fun z => Frac.made z (bst (aM b wt lv) b.rooms.length).2 := by
  have r1 := (nums_rest B W h).1
  refine List.ext_getElem? fun i => ?_
  by_cases hi : i < b.rooms.length
  · rw [fv_nums B W h hi]
    unfold numsZ
    rw [List.map_map, List.getElem?_map, List.getElem?_range hi]
    rfl
  · rw [List.getElem?_eq_none_iff.mpr (by omega), List.getElem?_eq_none_iff.mpr (by rw [List.length_map, numsZ_len]; omega)]
/-- a fraction made, and its parts -/
theorem made_parts {z d : Int} (hd : 0 < d) : (Frac.made z d).num = z / (Int.gcd z d : Int) ∧ ((Frac.made z d).den : Int) = d / (Int.gcd z d : Int) ∧ z = (Frac.made z d).num * (Int.gcd z d : Int) ∧ d = ((Frac.made z d).den : Int) * (Int.gcd z d : Int) ∧ (0 : Int) < (Int.gcd z d : Int) ∧ (0 : Int) < ((Frac.made z d).den : Int) := by
  have gp : 0 < Int.gcd z d := Int.gcd_pos_of_ne_zero_right z (by omega)
  have dz : z / (Int.gcd z d : Int) * (Int.gcd z d : Int) = z := Int.ediv_mul_cancel (Int.gcd_dvd_left z d)
  have dd : d / (Int.gcd z d : Int) * (Int.gcd z d : Int) = d := Int.ediv_mul_cancel (Int.gcd_dvd_right z d)
  rw [made_pos hd]
  have c0 : 0 < d / (Int.gcd z d : Int) := by
    rcases (by omega : 0 < d / (Int.gcd z d : Int) ∨ d / (Int.gcd z d : Int) ≤ 0) with q | q
    · exact q
    · have := Int.mul_le_mul_of_nonneg_right q (show (0 : Int) ≤ (Int.gcd z d : Int) by omega)
      rw [dd, Int.zero_mul] at this
      omega
  have ct : (((d / (Int.gcd z d : Int)).toNat : Nat) : Int) = d / (Int.gcd z d : Int) := by omega
  refine ⟨rfl, ct, dz.symm, ?_, by omega, ?_⟩
  · show d = (((d / (Int.gcd z d : Int)).toNat : Nat) : Int) * _
    rw [ct, dd]
  · show (0 : Int) < (((d / (Int.gcd z d : Int)).toNat : Nat) : Int)
    rw [ct]
    exact c0
theorem restP_made {z d : Int} (hd : 0 < d) : restP d z = [((Frac.made z d).num * MICRO) / (Frac.made z d).den, ((Frac.made z d).den : Int) % PRIME] := by
  obtain ⟨_, h2, h3, h4, h5, _⟩ := made_parts (z := z) hd
  unfold restP
  have e1 : z * 1000000 / d = ((Frac.made z d).num * MICRO) / ((Frac.made z d).den : Int) := by
    conv => lhs; rw [h3]; arg 2; rw [h4]
    rw [Int.mul_right_comm]
    show (Frac.made z d).num * MICRO * _ / _ = _
    exact Int.mul_ediv_mul_of_pos_left _ _ h5
  rw [e1, ← h2]
  rfl
theorem sim_rest {s : HS} (W : WfS s) : SimAt s .rest (restH s) := by
  show (if allVented s.b = false then no (toSpec s) (-4) else (toSpec s, 0 :: (rest s.b ⟨s.wt, s.lv⟩).flatMap fun r => [(r.num * MICRO) / r.den, (r.den : Int) % PRIME])) = _
  rw [anch_vented W.b]
  unfold restH
  cases ha : anchZ s.b with
  | false => rfl
  | true =>
    rw [if_neg (by decide), if_neg (by decide), rest_eq W.b W.w ha]
    show (toSpec s, _) = (toSpec s, _)
    congr 1
    show 0 :: _ = 0 :: _
    congr 1
    rw [List.flatMap_map]
    congr 1
    funext z
    exact (restP_made (d_pos W.b W.w ha)).symm
/-- near, by whole numbers -/
theorem near_one {c z d e : Int} (s : Nat) (hd : 0 < d) : (decide ((shave s c).num * ((Frac.made z d).den : Int) - (Frac.made z d).num * 2 ^ (shave s c).exp ≤ e * (((2 ^ (shave s c).exp : Nat) : Int) * ((Frac.made z d).den : Int))) &&
      decide ((Frac.made z d).num * 2 ^ (shave s c).exp - (shave s c).num * ((Frac.made z d).den : Int) ≤ e * (((2 ^ (shave s c).exp : Nat) : Int) * ((Frac.made z d).den : Int)))) =
    (decide (c * d - z * 2 ^ s ≤ e * d * 2 ^ s) && decide (z * 2 ^ s - c * d ≤ e * d * 2 ^ s)) := by
  obtain ⟨_, _, h3, h4, h5, h6⟩ := made_parts (z := z) hd
  obtain ⟨le, hc⟩ := shave_val s c
  have hE : (((2 ^ (shave s c).exp : Nat) : Int)) = 2 ^ (shave s c).exp := by rw [Int.natCast_pow]; rfl
  rw [hE]
  have hs : (2 : Int) ^ s = 2 ^ (shave s c).exp * 2 ^ (s - (shave s c).exp) := pow_split le
  have up := two_pow_pos (s - (shave s c).exp)
  generalize (2 : Int) ^ (s - (shave s c).exp) = u at *
  generalize (2 : Int) ^ (shave s c).exp = E at *
  generalize (shave s c).num = n at *
  generalize (Frac.made z d).num = m at *
  generalize ((Frac.made z d).den : Int) = k at *
  generalize (Int.gcd z d : Int) = g at *
  have gu : 0 < g * u := Int.mul_pos h5 up
  have e1 : c * d - z * 2 ^ s = (n * k - m * E) * (g * u) := by
    rw [hs, hc, h3, h4]
    grind
  have e2 : z * 2 ^ s - c * d = (m * E - n * k) * (g * u) := by
    rw [hs, hc, h3, h4]
    grind
  have e3 : e * d * 2 ^ s = (e * (E * k)) * (g * u) := by
    rw [hs, h4]
    grind
  have key : ∀ a y : Int, a ≤ y ↔ a * (g * u) ≤ y * (g * u) := fun a y => ⟨fun h => Int.mul_le_mul_of_nonneg_right h (Int.le_of_lt gu), fun h => Int.le_of_mul_le_mul_right h gu⟩
  rw [e1, e2, e3]
  congr 1
  · exact decide_eq_decide.mpr (key _ _)
  · exact decide_eq_decide.mpr (key _ _)
theorem near_abs (x y : Int) : (!decide (y < (if x < 0 then -x else x))) = (decide (x ≤ y) && decide (-x ≤ y)) := by
  rw [Bool.eq_iff_iff, Bool.not_eq_true', decide_eq_false_iff_not, Bool.and_eq_true, decide_eq_true_eq, decide_eq_true_eq]
  split <;> omega
theorem near_map {b : Building} (B : WfB b) {wt : List Int} {lv : List Nat} (W : WfW b wt lv) (h : anchZ b = true) (e : Int) (cells : List Int) (s : Nat) (hc : cells.length = b.rooms.length) :
    near (cells.map (shave s)) (rest b ⟨wt, lv⟩) e = nearZ cells s (numsZ (aM b wt lv) b.rooms.length) (bst (aM b wt lv) b.rooms.length).2 e := by
  have dp := d_pos B W h
  have nl := numsZ_len (aM b wt lv) b.rooms.length
  rw [rest_eq B W h]
  generalize numsZ (aM b wt lv) b.rooms.length = N at *
  generalize (bst (aM b wt lv) b.rooms.length).2 = d at *
  unfold near nearZ
  rw [List.zip_map, List.all_map]
  have e1 := all_range cells N 0 0 (fun c z => (decide ((shave s c).num * ((Frac.made z d).den : Int) - (Frac.made z d).num * 2 ^ (shave s c).exp ≤ e * (((2 ^ (shave s c).exp : Nat) : Int) * ((Frac.made z d).den : Int))) &&
      decide ((Frac.made z d).num * 2 ^ (shave s c).exp - (shave s c).num * ((Frac.made z d).den : Int) ≤ e * (((2 ^ (shave s c).exp : Nat) : Int) * ((Frac.made z d).den : Int)))))
  refine Eq.trans e1 ?_
  rw [show min cells.length N.length = cells.length by omega]
  congr 1
  funext i
  rw [near_one s dp]
  unfold nearAt
  rw [near_abs]
  congr 2
  refine propext ?_
  omega
theorem sim_settle {s : HS} (W : WfS s) (e n : Int) : SimAt s (.settle e n) (settleH s e n) := by
  show (if inside e 0 100000 = false ∨ inside n 0 1000 = false then no (toSpec s) (-2) else if allVented s.b = false then no (toSpec s) (-4) else match settles s.b ⟨s.wt, s.lv⟩ (rest s.b ⟨s.wt, s.lv⟩) e n.toNat 0 (s.cells.map (shave s.shift)) with
    | none => (toSpec s, [0, 0])
    | some k => (toSpec s, [0, 1, (k : Int)])) = _
  rw [anch_vented W.b]
  unfold settleH
  split
  · rfl
  · cases ha : anchZ s.b with
    | false => rfl
    | true =>
      rw [if_neg (by decide), if_neg (by decide)]
      refine (foundL_eq _ _).trans ?_
      rw [settles_eq]
      rw [firstR_map W.b W.w.lw W.w.ll (ok := fun c k => nearZ c k (numsZ (aM s.b s.wt s.lv) s.b.rooms.length) (bst (aM s.b s.wt s.lv) s.b.rooms.length).2 e) (fun cells k hc => near_map W.b W.w ha e cells k hc) n.toNat 0 _ _ W.cl, opt_zero]
end WR
end PartWf10
section PartWf11
set_option Elab.async false
set_option linter.all false
set_option maxHeartbeats 1000000
/-! ### the least level -/
namespace WR
open Vbbcab
/-- another level: the heat is a line -/
theorem sumI_level (i : Nat) : ∀ (hs : List Heater) (lv : List Nat) (h u : Nat), lv.length = hs.length → sumI (hs.zip (lv.set h u)) (fun x => if x.1.room = i then (x.2 : Int) else 0) = sumI (hs.zip (lv.set h 0)) (fun x => if x.1.room = i then (x.2 : Int) else 0) + (u : Int) * (match hs[h]? with | some x => if x.room = i then 1 else 0 | none => 0)
  | [], lv, h, u, hl => by
    obtain rfl : lv = [] := List.length_eq_zero_iff.mp hl
    simp [sumI]
  | x :: hs, [], h, u, hl => by cases hl
  | x :: hs, v :: lv, 0, u, hl => by
    show sumI ((x, u) :: hs.zip lv) _ = sumI ((x, 0) :: hs.zip lv) _ + (u : Int) * (if x.room = i then 1 else 0)
    rw [sumI_cons, sumI_cons]
    show (if x.room = i then (u : Int) else 0) + _ = (if x.room = i then ((0 : Nat) : Int) else 0) + _ + _
    split <;> omega
  | x :: hs, v :: lv, h + 1, u, hl => by
    have ih := sumI_level i hs lv h u (Nat.succ.inj hl)
    show sumI ((x, v) :: hs.zip (lv.set h u)) _ = sumI ((x, v) :: hs.zip (lv.set h 0)) _ + (u : Int) * (match hs[h]? with | some x => if x.room = i then 1 else 0 | none => 0)
    rw [sumI_cons, sumI_cons, ih]
    omega
def roomIs (b : Building) (h i : Nat) : Int := match b.heaters[h]? with | some x => if x.room = i then 1 else 0 | none => 0
theorem roomIs_nn (b : Building) (h i : Nat) : 0 ≤ roomIs b h i := by
  unfold roomIs
  split
  · split <;> omega
  · omega
theorem heats_level {b : Building} (B : WfB b) {lv : List Nat} (hl : lv.length = b.heaters.length) (h u i : Nat) : (heatsZ b.rooms.length b.heaters (lv.set h u)).getD i 0 = (heatsZ b.rooms.length b.heaters (lv.set h 0)).getD i 0 + (u : Int) * roomIs b h i := by
  unfold heatsZ
  rw [heats_sum b.heaters _ _ i (fun x hx => by rw [List.length_replicate]; exact B.hroom x hx) (by rw [List.length_set]; exact hl), heats_sum b.heaters _ _ i (fun x hx => by rw [List.length_replicate]; exact B.hroom x hx) (by rw [List.length_set]; exact hl), sumI_level i b.heaters lv h u hl]
  show _ + (_ + _) = _ + _ + (u : Int) * roomIs b h i
  unfold roomIs
  omega
theorem aM_level {b : Building} (B : WfB b) (wt : List Int) {lv : List Nat} (hl : lv.length = b.heaters.length) (h u : Nat) {i j : Nat} (hi : i < b.rooms.length) (hj : j ≤ b.rooms.length) :
    aM b wt (lv.set h u) i j = aM b wt (lv.set h 0) i j + (if j = b.rooms.length then 64 * ((u : Int) * roomIs b h i) else 0) := by
  rw [aM_get B wt _ hi hj, aM_get B wt _ hi hj]
  by_cases q : j = b.rooms.length
  · rw [if_pos q, if_pos q, if_pos q, heats_level B hl h u]
    omega
  · rw [if_neg q, if_neg q, if_neg q]
    omega
section
variable {b : Building} (B : WfB b) {wt : List Int} {lv : List Nat} (W : WfW b wt lv) (ha : anchZ b = true) (h : Nat)
include B W
theorem qM_cols (u : Nat) : ∀ i j, i < b.rooms.length → j < b.rooms.length → qM b wt (lv.set h 0) i j = qM b wt (lv.set h u) i j := fun i j hi hj => by
  unfold qM
  rw [aM_level B wt W.ll h u hi (by omega), if_neg (by omega), Int.add_zero]
theorem qM_last (u : Nat) : ∀ i, i < b.rooms.length → qM b wt (lv.set h u) i b.rooms.length = qM b wt (lv.set h 0) i b.rooms.length + (u : Rat) * (qM b wt (lv.set h 1) i b.rooms.length - qM b wt (lv.set h 0) i b.rooms.length) := fun i hi => by
  unfold qM
  rw [aM_level B wt W.ll h u hi (Nat.le_refl _), aM_level B wt W.ll h 1 hi (Nat.le_refl _), if_pos rfl, if_pos rfl]
  have e : (((aM b wt (lv.set h 0) i b.rooms.length + 64 * ((u : Int) * roomIs b h i) : Int)) : Rat) = ((aM b wt (lv.set h 0) i b.rooms.length : Int) : Rat) + 64 * ((u : Rat) * ((roomIs b h i : Int) : Rat)) := by
    rw [Rat.intCast_add, Rat.intCast_mul, Rat.intCast_mul]
    rfl
  have e1 : (((aM b wt (lv.set h 0) i b.rooms.length + 64 * (((1 : Nat) : Int) * roomIs b h i) : Int)) : Rat) = ((aM b wt (lv.set h 0) i b.rooms.length : Int) : Rat) + 64 * ((roomIs b h i : Int) : Rat) := by
    rw [show (((1 : Nat) : Int)) = 1 from rfl, Int.one_mul, Rat.intCast_add, Rat.intCast_mul]
    rfl
  rw [e, e1]
  grind
include ha
/-- what matters of the eliminations with the levels 0, 1 and u -/
theorem level_line {i : Nat} (hi : i < b.rooms.length) {u : Nat} (hu : u ≤ 1000000) :
    (bst (aM b wt (lv.set h u)) b.rooms.length).2 = (bst (aM b wt (lv.set h 0)) b.rooms.length).2 ∧
    (bst (aM b wt (lv.set h u)) b.rooms.length).1 i b.rooms.length = (bst (aM b wt (lv.set h 0)) b.rooms.length).1 i b.rooms.length + (u : Int) * ((bst (aM b wt (lv.set h 1)) b.rooms.length).1 i b.rooms.length - (bst (aM b wt (lv.set h 0)) b.rooms.length).1 i b.rooms.length) := by
  have n1 := B.nr
  have all : ∀ v, v ≤ 1000000 → ((bst (aM b wt (lv.set h v)) b.rooms.length).2 : Rat) = piv (qM b wt (lv.set h v)) b.rooms.length ∧ ((bst (aM b wt (lv.set h v)) b.rooms.length).1 i b.rooms.length : Rat) = piv (qM b wt (lv.set h v)) b.rooms.length * gjs (qM b wt (lv.set h v)) b.rooms.length i b.rooms.length := fun v hv => by
    have Wv := W.setL h v hv
    obtain ⟨x, G⟩ := anch_good B ha wt (lv.set h v)
    have hE : ∀ i j, i < b.rooms.length → j ≤ b.rooms.length → (aM b wt (lv.set h v) i j).natAbs ≤ 1000000000000 := fun i j hi hj => aM_small B Wv hi hj
    obtain ⟨e1, e2⟩ := bareiss (N := 12) n1 (by decide) hE (Nat.le_refl _) (G.ne (Nat.le_refl _))
    exact ⟨e1, e2 i b.rooms.length hi (Nat.le_refl _)⟩
  obtain ⟨d0, z0⟩ := all 0 (by omega)
  obtain ⟨d1, z1⟩ := all 1 (by omega)
  obtain ⟨du, zu⟩ := all u hu
  have p1 := piv_cols (qM_cols B W h 1) _ (Nat.le_refl _)
  have pu := piv_cols (qM_cols B W h u) _ (Nat.le_refl _)
  have line := gjs_line (qM_cols B W h 1) (qM_cols B W h u) (qM_last B W h u) _ (Nat.le_refl _) i hi
  rw [← p1] at d1 z1
  rw [← pu] at du zu
  refine ⟨?_, ?_⟩
  · have : ((bst (aM b wt (lv.set h u)) b.rooms.length).2 : Rat) = ((bst (aM b wt (lv.set h 0)) b.rooms.length).2 : Rat) := by rw [du, d0]
    exact_mod_cast this
  · refine Rat.intCast_inj.mp ?_
    rw [Rat.intCast_add, Rat.intCast_mul, Rat.intCast_sub, zu, z0, z1, line]
    have : (((u : Int)) : Rat) = (u : Rat) := rfl
    rw [this]
    grind
theorem level_up {i : Nat} (hi : i < b.rooms.length) : 0 ≤ (bst (aM b wt (lv.set h 1)) b.rooms.length).1 i b.rooms.length - (bst (aM b wt (lv.set h 0)) b.rooms.length).1 i b.rooms.length := by
  have n1 := B.nr
  obtain ⟨x, G⟩ := anch_good B ha wt (lv.set h 0)
  have all : ∀ v, v ≤ 1000000 → ((bst (aM b wt (lv.set h v)) b.rooms.length).1 i b.rooms.length : Rat) = piv (qM b wt (lv.set h v)) b.rooms.length * gjs (qM b wt (lv.set h v)) b.rooms.length i b.rooms.length := fun v hv => by
    have Wv := W.setL h v hv
    obtain ⟨x, G⟩ := anch_good B ha wt (lv.set h v)
    have hE : ∀ i j, i < b.rooms.length → j ≤ b.rooms.length → (aM b wt (lv.set h v) i j).natAbs ≤ 1000000000000 := fun i j hi hj => aM_small B Wv hi hj
    obtain ⟨e1, e2⟩ := bareiss (N := 12) n1 (by decide) hE (Nat.le_refl _) (G.ne (Nat.le_refl _))
    exact e2 i b.rooms.length hi (Nat.le_refl _)
  have z0 := all 0 (by omega)
  have z1 := all 1 (by omega)
  have p1 := piv_cols (qM_cols B W h 1) _ (Nat.le_refl _)
  have up := gjs_mono G (qM_cols B W h 1) (fun i hi => by
    unfold qM
    rw [aM_level B wt W.ll h 1 hi (Nat.le_refl _), if_pos rfl]
    have := roomIs_nn b h i
    have : aM b wt (lv.set h 0) i b.rooms.length ≤ aM b wt (lv.set h 0) i b.rooms.length + 64 * (((1 : Nat) : Int) * roomIs b h i) := by omega
    exact_mod_cast this) _ (Nat.le_refl _) i hi
  have dp := G.d_pos (Nat.le_refl b.rooms.length)
  rw [← p1] at z1
  have le : ((bst (aM b wt (lv.set h 0)) b.rooms.length).1 i b.rooms.length : Rat) ≤ ((bst (aM b wt (lv.set h 1)) b.rooms.length).1 i b.rooms.length : Rat) := by
    rw [z0, z1]
    exact Rat.mul_le_mul_of_nonneg_left up (Rat.le_of_lt dp)
  have le : (bst (aM b wt (lv.set h 0)) b.rooms.length).1 i b.rooms.length ≤ (bst (aM b wt (lv.set h 1)) b.rooms.length).1 i b.rooms.length := by exact_mod_cast le
  omega
/-- whether a level is enough -/
theorem enough_iff {i : Nat} (hi : i < b.rooms.length) (t : Int) {u : Nat} (hu : u ≤ 1000000) :
    enough b ⟨wt, lv⟩ h i t u = decide (t * (bst (aM b wt (lv.set h 0)) b.rooms.length).2 - (bst (aM b wt (lv.set h 0)) b.rooms.length).1 i b.rooms.length ≤ (u : Int) * ((bst (aM b wt (lv.set h 1)) b.rooms.length).1 i b.rooms.length - (bst (aM b wt (lv.set h 0)) b.rooms.length).1 i b.rooms.length)) := by
  have Wu := W.setL h u hu
  obtain ⟨e1, e2⟩ := level_line B W ha h hi hu
  have dp := d_pos B Wu ha
  have r := fv_nums B Wu ha hi
  have er : restWith b ⟨wt, lv⟩ h u i = Frac.made ((bst (aM b wt (lv.set h u)) b.rooms.length).1 i b.rooms.length) (bst (aM b wt (lv.set h u)) b.rooms.length).2 := by
    show (rest b ⟨wt, lv.set h u⟩).getD i (.of 0) = _
    rw [List.getD_eq_getElem?_getD, r]
    rfl
  unfold enough
  rw [er]
  show decide (t * ((Frac.made _ _).den : Int) ≤ (Frac.made _ _).num) = _
  rw [e1] at dp ⊢
  obtain ⟨_, _, h3, h4, h5, h6⟩ := made_parts (z := (bst (aM b wt (lv.set h u)) b.rooms.length).1 i b.rooms.length) dp
  refine decide_eq_decide.mpr ?_
  have key : t * ((Frac.made ((bst (aM b wt (lv.set h u)) b.rooms.length).1 i b.rooms.length) (bst (aM b wt (lv.set h 0)) b.rooms.length).2).den : Int) ≤ (Frac.made ((bst (aM b wt (lv.set h u)) b.rooms.length).1 i b.rooms.length) (bst (aM b wt (lv.set h 0)) b.rooms.length).2).num ↔ t * (bst (aM b wt (lv.set h 0)) b.rooms.length).2 ≤ (bst (aM b wt (lv.set h u)) b.rooms.length).1 i b.rooms.length := by
    generalize Frac.made ((bst (aM b wt (lv.set h u)) b.rooms.length).1 i b.rooms.length) (bst (aM b wt (lv.set h 0)) b.rooms.length).2 = f at *
    generalize (Int.gcd ((bst (aM b wt (lv.set h u)) b.rooms.length).1 i b.rooms.length) (bst (aM b wt (lv.set h 0)) b.rooms.length).2 : Int) = g at *
    rw [h3, h4, ← Int.mul_assoc]
    exact ⟨fun q => Int.mul_le_mul_of_nonneg_right q (Int.le_of_lt h5), fun q => Int.le_of_mul_le_mul_right q h5⟩
  rw [key, e2]
  omega
end
/-- by halves -/
theorem least_heat {b : Building} {w : Weather} {h i : Nat} {t : Int} {P : Nat → Prop} {m : Nat} (hP : ∀ u, u ≤ m → (enough b w h i t u = true ↔ P u)) (up : ∀ u v, u ≤ v → P u → P v) : ∀ (n lo hi : Nat), lo ≤ hi → hi ≤ m → hi - lo < 2 ^ n → P hi →
    P (leastHeat b w h i t n lo hi) ∧ lo ≤ leastHeat b w h i t n lo hi ∧ leastHeat b w h i t n lo hi ≤ hi ∧ ∀ u, lo ≤ u → u < leastHeat b w h i t n lo hi → ¬ P u
  | 0, lo, hi, h1, h2, h3, h4 => by
    rw [Nat.pow_zero] at h3
    refine ⟨h4, h1, Nat.le_refl _, fun u a c => ?_⟩
    have c : u < hi := c
    omega
  | n + 1, lo, hi, h1, h2, h3, h4 => by
    rw [Nat.pow_succ] at h3
    unfold leastHeat
    by_cases q : hi ≤ lo
    · rw [if_pos q]
      exact ⟨h4, h1, Nat.le_refl _, fun u a c => by omega⟩
    · rw [if_neg q]
      show P (if enough b w h i t ((lo + hi) / 2) = true then leastHeat b w h i t n lo ((lo + hi) / 2) else leastHeat b w h i t n ((lo + hi) / 2 + 1) hi) ∧ lo ≤ (if enough b w h i t ((lo + hi) / 2) = true then leastHeat b w h i t n lo ((lo + hi) / 2) else leastHeat b w h i t n ((lo + hi) / 2 + 1) hi) ∧ (if enough b w h i t ((lo + hi) / 2) = true then leastHeat b w h i t n lo ((lo + hi) / 2) else leastHeat b w h i t n ((lo + hi) / 2 + 1) hi) ≤ hi ∧
        ∀ u, lo ≤ u → u < (if enough b w h i t ((lo + hi) / 2) = true then leastHeat b w h i t n lo ((lo + hi) / 2) else leastHeat b w h i t n ((lo + hi) / 2 + 1) hi) → ¬ P u
      by_cases c : enough b w h i t ((lo + hi) / 2) = true
      · rw [if_pos c]
        obtain ⟨a1, a2, a3, a4⟩ := least_heat hP up n lo ((lo + hi) / 2) (by omega) (by omega) (by omega) ((hP _ (by omega)).mp c)
        exact ⟨a1, a2, by omega, a4⟩
      · rw [if_neg c]
        have no : ¬ P ((lo + hi) / 2) := fun z => c ((hP _ (by omega)).mpr z)
        obtain ⟨a1, a2, a3, a4⟩ := least_heat hP up n ((lo + hi) / 2 + 1) hi (by omega) h2 (by omega) h4
        refine ⟨a1, by omega, a3, fun u b1 b2 z => ?_⟩
        by_cases d : (lo + hi) / 2 + 1 ≤ u
        · exact a4 u d b2 z
        · exact no (up u _ (by omega) z)
/-- the least whole number that is enough -/
theorem ceil_le {lack gain : Int} (hg : 0 < gain) (u : Int) : (lack + gain - 1) / gain ≤ u ↔ lack ≤ u * gain := by
  have e : (lack + gain - 1) / gain ≤ u ↔ (lack + gain - 1) / gain < u + 1 := by omega
  rw [e, Int.ediv_lt_iff_lt_mul hg, Int.add_mul, Int.one_mul]
  omega
theorem sim_least {s : HS} (W : WfS s) (h i t : Int) : SimAt s (.least h i t) (leastH s h i t) := by
  have cl := W.cl
  have ll := W.w.ll
  show (if inside h 1 (s.b.heaters.length : Int) = false ∨ inside i 1 (s.b.rooms.length : Int) = false then no (toSpec s) (-1) else if inside t (-100000) 100000 = false then no (toSpec s) (-2) else if allVented s.b = false then no (toSpec s) (-4) else
    if enough s.b ⟨s.wt, s.lv⟩ (h.toNat - 1) (i.toNat - 1) t (((s.b.heaters[h.toNat - 1]?).map fun x => x.most).getD 0) = false then no (toSpec s) (-5) else (toSpec s, [0, (leastHeat s.b ⟨s.wt, s.lv⟩ (h.toNat - 1) (i.toNat - 1) t 20 0 (((s.b.heaters[h.toNat - 1]?).map fun x => x.most).getD 0) : Int)])) = _
  rw [anch_vented W.b]
  unfold leastH hasHeater hasRoom
  rw [ll, cl]
  split
  · rfl
  rename_i hh
  have h1 : inside h 1 (s.b.heaters.length : Int) = true := by
    cases q : inside h 1 (s.b.heaters.length : Int) with
    | true => rfl
    | false => exact absurd (.inl q) hh
  have h2 : inside i 1 (s.b.rooms.length : Int) = true := by
    cases q : inside i 1 (s.b.rooms.length : Int) with
    | true => rfl
    | false => exact absurd (.inr q) hh
  obtain ⟨a1, a2⟩ := inside_iff.mp h1
  obtain ⟨b1, b2⟩ := inside_iff.mp h2
  split
  · rfl
  cases ha : anchZ s.b with
  | false => rfl
  | true =>
  have nt : ¬ (true = false) := by decide
  rw [if_neg nt, if_neg nt]
  have hh : h.toNat - 1 < s.b.heaters.length := by omega
  have hi : i.toNat - 1 < s.b.rooms.length := by omega
  have hm : ((s.b.heaters[h.toNat - 1]?).map fun x => x.most).getD 0 ≤ 1000000 := by
    rw [List.getElem?_eq_getElem hh]
    exact W.b.most _ (List.getElem_mem _)
  unfold leastZ
  have nm : ∀ lv, (numsZ (aM s.b s.wt lv) s.b.rooms.length).getD (i.toNat - 1) 0 = (bst (aM s.b s.wt lv) s.b.rooms.length).1 (i.toNat - 1) s.b.rooms.length := fun lv => by
    unfold numsZ
    rw [List.getD_eq_getElem?_getD, List.getElem?_map, List.getElem?_range hi]
    rfl
  rw [nm, nm]
  have en := fun u (hu : u ≤ 1000000) => enough_iff W.b W.w ha (h.toNat - 1) hi t hu
  have gn := level_up W.b W.w ha (h.toNat - 1) hi
  generalize ((s.b.heaters[h.toNat - 1]?).map fun x => x.most).getD 0 = m at *
  simp only at *
  generalize (bst (aM s.b s.wt (s.lv.set (h.toNat - 1) 1)) s.b.rooms.length).1 (i.toNat - 1) s.b.rooms.length - (bst (aM s.b s.wt (s.lv.set (h.toNat - 1) 0)) s.b.rooms.length).1 (i.toNat - 1) s.b.rooms.length = gain at *
  generalize t * (bst (aM s.b s.wt (s.lv.set (h.toNat - 1) 0)) s.b.rooms.length).2 - (bst (aM s.b s.wt (s.lv.set (h.toNat - 1) 0)) s.b.rooms.length).1 (i.toNat - 1) s.b.rooms.length = lack at *
  have hP : ∀ u, u ≤ m → (enough s.b ⟨s.wt, s.lv⟩ (h.toNat - 1) (i.toNat - 1) t u = true ↔ lack ≤ (u : Int) * gain) := fun u hu => by
    rw [en u (by omega), decide_eq_true_eq]
  have up : ∀ u v : Nat, u ≤ v → lack ≤ (u : Int) * gain → lack ≤ (v : Int) * gain := fun u v huv q => by
    have := Int.mul_le_mul_of_nonneg_right (show (u : Int) ≤ (v : Int) by omega) gn
    omega
  have fin := fun (hPm : lack ≤ (m : Int) * gain) => least_heat hP up 20 0 m (Nat.zero_le _) (Nat.le_refl _) (by omega) hPm
  have ef := hP m (Nat.le_refl _)
  generalize enough s.b ⟨s.wt, s.lv⟩ (h.toNat - 1) (i.toNat - 1) t m = em at *
  generalize leastHeat s.b ⟨s.wt, s.lv⟩ (h.toNat - 1) (i.toNat - 1) t 20 0 m = v at *
  by_cases l0 : lack ≤ 0
  · rw [if_pos l0]
    have pm : lack ≤ (m : Int) * gain := by
      have := Int.mul_nonneg (show (0 : Int) ≤ (m : Int) by omega) gn
      omega
    obtain ⟨p1, _, p3, p4⟩ := fin pm
    have v0 : v = 0 := by
      rcases Nat.eq_zero_or_pos v with z | z
      · exact z
      · exact absurd (show lack ≤ ((0 : Nat) : Int) * gain by show lack ≤ 0 * gain; omega) (p4 0 (Nat.le_refl _) z)
    rw [if_neg (by rw [ef.mpr pm]; decide), v0]
    rfl
  · rw [if_neg l0]
    by_cases g0 : gain ≤ 0
    · rw [if_pos g0]
      have z : gain = 0 := by omega
      have : em = false := by
        rw [Bool.eq_false_iff]
        intro y
        have := ef.mp y
        rw [z, Int.mul_zero] at this
        omega
      rw [if_pos this]
      rfl
    · rw [if_neg g0]
      have gp : 0 < gain := by omega
      have ce := fun u => ceil_le (lack := lack) gp u
      by_cases q : (lack + gain - 1) / gain ≤ (m : Int)
      · rw [if_pos q]
        have pm := (ce _).mp q
        obtain ⟨p1, _, p3, p4⟩ := fin pm
        have c1 := (ce _).mpr p1
        have c0 : 0 ≤ (lack + gain - 1) / gain := Int.ediv_nonneg (by omega) (by omega)
        have eq : (v : Int) = (lack + gain - 1) / gain := by
          rcases (by omega : (v : Int) = (lack + gain - 1) / gain ∨ (lack + gain - 1) / gain < (v : Int)) with y | y
          · exact y
          · have : lack ≤ ((((lack + gain - 1) / gain).toNat : Nat) : Int) * gain := by
              rw [show ((((lack + gain - 1) / gain).toNat : Nat) : Int) = (lack + gain - 1) / gain by omega]
              exact (ce _).mp (Int.le_refl _)
            exact absurd this (p4 _ (Nat.zero_le _) (by omega))
        rw [if_neg (by rw [ef.mpr pm]; decide), eq]
      · rw [if_neg q]
        have : em = false := by
          rw [Bool.eq_false_iff]
          intro y
          exact q ((ce _).mpr (ef.mp y))
        rw [if_pos this]
        rfl
end WR
end PartWf11
section PartWf12
set_option Elab.async false
set_option linter.all false
set_option maxHeartbeats 1000000
/-! ### all calls -/
namespace WR
open Vbbcab
theorem whole_id (c : List (List Int)) : PyVbbcab.whole c = c := by
  unfold PyVbbcab.whole
  split <;> rfl
theorem sim_call {s : HS} (W : WfS s) {c : List (List Int)} (hc : Call1 c) : VbbcabNeutral.step (toSpec s) c = (toSpec (mstep s c).1, (mstep s c).2) := by
  cases hc with
  | build t h1 h2 =>
    have e : text? t = some (t.map Int.toNat) := by
      unfold text?
      rw [if_pos]
      rw [List.all_eq_true]
      intro x hx
      obtain ⟨a, b⟩ := h2 x hx
      unfold byte
      rw [decide_eq_true a, decide_eq_true b]
      rfl
    have e2 : VbbcabNeutral.step (toSpec s) [[0], t] = Vbbcab.step (toSpec s) (.build (t.map Int.toNat)) := by
      unfold VbbcabNeutral.step
      have : callOf [[0], t] = some (.build (t.map Int.toNat)) := by
        show (text? t).map _ = _
        rw [e]
        rfl
      rw [this]
    rw [e2]
    exact sim_build (t.map Int.toNat)
  | bracket n lo hi h1 h2 => exact sim_bracket W n lo hi
  | plain p hp =>
    rcases hp with rfl | rfl | rfl | rfl
    · exact sim_text (shown_eq s.b)
    · exact sim_books W
    · exact sim_rest W
    · exact sim_clock W
  | short p n hp =>
    rcases hp with rfl | rfl | rfl | rfl | rfl
    · exact sim_run W n
    · exact sim_temp W n
    · exact sim_trace W n
    · exact sim_flow W n
    · exact sim_halve W n
  | two p n t hp =>
    rcases hp with rfl | rfl | rfl | rfl
    · exact sim_outside W n t
    · exact sim_heat W n t
    · exact sim_settle W n t
    · exact sim_set W n t
  | three p n t m hp =>
    rcases hp with rfl | rfl
    · exact sim_latest W n t m
    · exact sim_least W n t m
theorem sim_played : ∀ (cs : List (List (List Int))) (s : HS), WfS s → (∀ c ∈ cs, Call1 c) → PyFlat.played VbbcabNeutral.step (toSpec s) cs = PyFlat.played mstep s cs
  | [], s, _, _ => rfl
  | c :: r, s, W, h => by
    have hc := h c (List.mem_cons_self ..)
    show (VbbcabNeutral.step (toSpec s) c).2 :: PyFlat.played VbbcabNeutral.step (VbbcabNeutral.step (toSpec s) c).1 r = (mstep s c).2 :: PyFlat.played mstep (mstep s c).1 r
    rw [sim_call W hc]
    show _ :: PyFlat.played VbbcabNeutral.step (toSpec (mstep s c).1) r = _
    rw [sim_played r _ (mstep_wf W hc fun t _ => buildH_wf W _) fun x hx => h x (List.mem_cons_of_mem _ hx)]
theorem len0 {l : List Int} (h : l.length = 0) : l = [] := List.length_eq_zero_iff.mp h
theorem len1 {l : List Int} (h : l.length = 1) : ∃ x, l = [x] := List.length_eq_one_iff.mp h
theorem len2 {l : List Int} (h : l.length = 2) : ∃ x y, l = [x, y] := by
  match l, h with
  | [x, y], _ => exact ⟨x, y, rfl⟩
theorem len3 {l : List Int} (h : l.length = 3) : ∃ x y z, l = [x, y, z] := by
  match l, h with
  | [x, y, z], _ => exact ⟨x, y, z, rfl⟩
theorem some_pair {a b c d : Nat} (h : some (a, b) = some (c, d)) : a = c ∧ b = d := by
  cases h
  exact ⟨rfl, rfl⟩
theorem call1_of {c : List (List Int)} (h : PyFlat.okCall PyVbbcab.shape c) (hb : PyInside.call PyVbbcab.bound c = true) : Call1 c := by
  obtain ⟨p, a, xs, rfl, hs⟩ := h
  have no : ∀ {m : Nat}, some (m, 0) = some (a.length, xs.length) → xs = [] ∧ a.length = m := fun e => ⟨List.length_eq_zero_iff.mp (some_pair e).2.symm, (some_pair e).1.symm⟩
  unfold PyVbbcab.shape at hs
  by_cases h0 : p = 0
  · subst h0
    rw [if_pos rfl] at hs
    obtain ⟨e1, e2⟩ := some_pair hs
    obtain rfl := len0 e1.symm
    match xs, e2 with
    | [t], _ =>
      have hb : (PyInside.each [] [] && (decide (0 ≤ t.length) && decide (t.length ≤ 4000) && t.all (PyInside.within 0 255) && PyInside.lists [] [])) = true := hb
      simp only [Bool.and_eq_true, decide_eq_true_eq] at hb
      refine .build t hb.2.1.1.2 fun x hx => ?_
      have := List.all_eq_true.mp hb.2.1.2 x hx
      unfold PyInside.within at this
      simpa using this
  rw [if_neg h0] at hs
  by_cases h1 : p = 1
  · subst h1
    rw [if_pos rfl] at hs
    obtain ⟨rfl, e⟩ := no hs
    obtain rfl := len0 e
    exact .plain 1 (by simp)
  rw [if_neg h1] at hs
  by_cases h2 : p = 2
  · subst h2
    rw [if_pos rfl] at hs
    obtain ⟨rfl, e⟩ := no hs
    obtain ⟨x, y, rfl⟩ := len2 e
    exact .two 2 x y (by simp)
  rw [if_neg h2] at hs
  by_cases h3 : p = 3
  · subst h3
    rw [if_pos rfl] at hs
    obtain ⟨rfl, e⟩ := no hs
    obtain ⟨x, y, rfl⟩ := len2 e
    exact .two 3 x y (by simp)
  rw [if_neg h3] at hs
  by_cases h4 : p = 4
  · subst h4
    rw [if_pos rfl] at hs
    obtain ⟨rfl, e⟩ := no hs
    obtain ⟨x, rfl⟩ := len1 e
    exact .short 4 x (by simp)
  rw [if_neg h4] at hs
  by_cases h5 : p = 5
  · subst h5
    rw [if_pos rfl] at hs
    obtain ⟨rfl, e⟩ := no hs
    obtain ⟨x, rfl⟩ := len1 e
    exact .short 5 x (by simp)
  rw [if_neg h5] at hs
  by_cases h6 : p = 6
  · subst h6
    rw [if_pos rfl] at hs
    obtain ⟨rfl, e⟩ := no hs
    obtain ⟨x, rfl⟩ := len1 e
    exact .short 6 x (by simp)
  rw [if_neg h6] at hs
  by_cases h7 : p = 7
  · subst h7
    rw [if_pos rfl] at hs
    obtain ⟨rfl, e⟩ := no hs
    obtain rfl := len0 e
    exact .plain 7 (by simp)
  rw [if_neg h7] at hs
  by_cases h8 : p = 8
  · subst h8
    rw [if_pos rfl] at hs
    obtain ⟨rfl, e⟩ := no hs
    obtain ⟨x, rfl⟩ := len1 e
    exact .short 8 x (by simp)
  rw [if_neg h8] at hs
  by_cases h9 : p = 9
  · subst h9
    rw [if_pos rfl] at hs
    obtain ⟨rfl, e⟩ := no hs
    obtain rfl := len0 e
    exact .plain 9 (by simp)
  rw [if_neg h9] at hs
  by_cases h10 : p = 10
  · subst h10
    rw [if_pos rfl] at hs
    obtain ⟨rfl, e⟩ := no hs
    obtain ⟨x, y, rfl⟩ := len2 e
    exact .two 10 x y (by simp)
  rw [if_neg h10] at hs
  by_cases h11 : p = 11
  · subst h11
    rw [if_pos rfl] at hs
    obtain ⟨rfl, e⟩ := no hs
    obtain ⟨x, rfl⟩ := len1 e
    exact .short 11 x (by simp)
  rw [if_neg h11] at hs
  by_cases h12 : p = 12
  · subst h12
    rw [if_pos rfl] at hs
    obtain ⟨e1, e2⟩ := some_pair hs
    obtain ⟨n, rfl⟩ := len1 e1.symm
    match xs, e2 with
    | [lo, hi], _ =>
      have hb : (PyInside.each [(-1000000000, 1000000000)] [n] && (decide (0 ≤ lo.length) && decide (lo.length ≤ 20) && lo.all (PyInside.within (-1000000000) 1000000000) && (decide (0 ≤ hi.length) && decide (hi.length ≤ 20) && hi.all (PyInside.within (-1000000000) 1000000000) && PyInside.lists [] []))) = true := hb
      simp only [Bool.and_eq_true, decide_eq_true_eq] at hb
      exact .bracket n lo hi hb.2.1.1.2 hb.2.2.1.1.2
  rw [if_neg h12] at hs
  by_cases h13 : p = 13
  · subst h13
    rw [if_pos rfl] at hs
    obtain ⟨rfl, e⟩ := no hs
    obtain ⟨x, y, z, rfl⟩ := len3 e
    exact .three 13 x y z (by simp)
  rw [if_neg h13] at hs
  by_cases h14 : p = 14
  · subst h14
    rw [if_pos rfl] at hs
    obtain ⟨rfl, e⟩ := no hs
    obtain ⟨x, y, z, rfl⟩ := len3 e
    exact .three 14 x y z (by simp)
  rw [if_neg h14] at hs
  by_cases h15 : p = 15
  · subst h15
    rw [if_pos rfl] at hs
    obtain ⟨rfl, e⟩ := no hs
    obtain ⟨x, y, rfl⟩ := len2 e
    exact .two 15 x y (by simp)
  rw [if_neg h15] at hs
  by_cases h16 : p = 16
  · subst h16
    rw [if_pos rfl] at hs
    obtain ⟨rfl, e⟩ := no hs
    obtain rfl := len0 e
    exact .plain 16 (by simp)
  rw [if_neg h16] at hs
  cases hs
theorem main_ok : MainOk := by
  intro l h
  unfold PyVbbcab.answers_asked at h
  cases hc : PyFlat.calls PyVbbcab.shape l.length l with
  | none =>
    rw [hc] at h
    cases h
  | some raw =>
    rw [hc] at h
    have h : (!raw.isEmpty && PyFlat.atMost 200 raw && PyInside.calls PyVbbcab.bound raw && VbbcabNeutral.asked (raw.map PyVbbcab.whole) && PyFlat.short 10000000 (PyVbbcab.answers l)) = true := h
    simp only [Bool.and_eq_true] at h
    obtain ⟨⟨⟨_, hb⟩, _⟩, hs⟩ := h
    obtain ⟨e, ok⟩ := PyFlat.put_calls l.length l raw hc
    have c1 : ∀ c ∈ raw, Call1 c := fun c hc => call1_of (ok c hc) (List.all_eq_true.mp hb c hc)
    have em : raw.map PyVbbcab.whole = raw := by
      have : PyVbbcab.whole = id := funext whole_id
      rw [this, List.map_id]
    have ea : playedM (begunZ {}) raw = PyVbbcab.answers l := by
      unfold PyVbbcab.answers PyVbbcab.calls
      rw [hc]
      show _ = PyFlat.told (PyFlat.played VbbcabNeutral.step VbbcabNeutral.start (raw.map PyVbbcab.whole))
      rw [em]
      show PyFlat.told _ = _
      congr 1
      exact (sim_played raw (begunZ {}) (WfS.begun WfB.empty) c1).symm
    refine ⟨raw, e, c1, ?_, ea⟩
    rw [ea]
    exact of_decide_eq_true hs
theorem holds : WH.R.Holds := holds_of anch_ok main_ok
end WR
end PartWf12
theorem PySem.Challenge.cw_warmrooms_s01_answers_holds : PySem.Challenge.rw_warmrooms_s01_answers.Holds := by
  exact WR.holds
