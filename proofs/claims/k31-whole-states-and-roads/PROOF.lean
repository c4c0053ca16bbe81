import PyProof.Rows.All
import Wide.All
import OpenK.AllK
import Wide.FinOn
import HandS.ForMost
import HandS.Flow
import HandS.Exc
import HandS.IsInst
import HandS.Star
import HandS.ClsMeth
import HandS.Property
import HandS.MakeKw
import HandS.Defaults
import HandS.HeadHook1
import HandS.HeadHook2
import HandS.HeadHook3
import HandS.HeadHook4
import KE.KStateDown
import HandS.Head0
import HandS.Head1
import HandS.Head2
import HandS.Zip
import HandS.Strs
import HandS.Style
import HandS.MakeKwOnly
import HandS.Evl
import HandS.Walk
import HandS.More
import HandS.Text
import HandS.HeadEnd
import HandS.HeadWalk
import PySem.Challenge.RW_latewords_k31_whole_states_and_roads
set_option Elab.async false
set_option linter.all false
set_option maxRecDepth 100000
set_option maxHeartbeats 0
/-! LwT: the text by places, the facts that the head tells (printed by a program). -/
namespace Lw
open PySem L2
def tops (i : Nat) : Stmt := PySem.Challenge.pw_latewords_k31_whole_states_and_roads.main.body.getD i (.Pass ⟨0, 0, 0, 0⟩)
abbrev s_is_integer : Stmt := tops 12
abbrev n_is_integer : List Str := ["value"]
theorem sc_is_integer : FnScope n_is_integer ["value"] (defScope s_is_integer) := ⟨rfl, rfl, rfl, by decide +kernel, rfl, by decide +kernel, by decide +kernel⟩
abbrev s_split_turns : Stmt := tops 22
abbrev n_split_turns : List Str := ["writes", "found", "index", "write"]
theorem sc_split_turns : FnScope n_split_turns ["writes"] (defScope s_split_turns) := ⟨rfl, rfl, rfl, by decide +kernel, rfl, by decide +kernel, by decide +kernel⟩
abbrev s_rules_of : Stmt := tops 25
abbrev n_rules_of : List Str := ["setting", "speaker"]
theorem sc_rules_of : FnScope n_rules_of ["setting", "speaker"] (defScope s_rules_of) := ⟨rfl, rfl, rfl, by decide +kernel, rfl, by decide +kernel, by decide +kernel⟩
abbrev s_with_full : Stmt := tops 26
abbrev n_with_full : List Str := ["rules", "parts", "many", "size", "hold", "every", "rest", "kept", "blocked", "stuck", "pending", "quick", "soon", "late", "told"]
theorem sc_with_full : FnScope n_with_full ["rules", "parts", "many"] (defScope s_with_full) := ⟨rfl, rfl, rfl, by decide +kernel, rfl, by decide +kernel, by decide +kernel⟩
abbrev s_with_partial : Stmt := tops 27
abbrev n_with_partial : List Str := ["rules", "parts", "blocked"]
theorem sc_with_partial : FnScope n_with_partial ["rules", "parts"] (defScope s_with_partial) := ⟨rfl, rfl, rfl, by decide +kernel, rfl, by decide +kernel, by decide +kernel⟩
abbrev s_Outcome__init : Stmt := inClass (tops 32) 0
abbrev n_Outcome__init : List Str := ["self", "stalls", "segments", "acknowledgments", "stalled"]
theorem sc_Outcome__init : FnScope n_Outcome__init ["self", "stalls", "segments", "acknowledgments", "stalled"] (defScope s_Outcome__init) := ⟨rfl, rfl, rfl, by decide +kernel, rfl, by decide +kernel, by decide +kernel⟩
abbrev s_first_parts : Stmt := tops 33
abbrev n_first_parts : List Str := ["quick"]
theorem sc_first_parts : FnScope n_first_parts ["quick"] (defScope s_first_parts) := ⟨rfl, rfl, rfl, by decide +kernel, rfl, by decide +kernel, by decide +kernel⟩
abbrev s_first_quick : Stmt := tops 34
abbrev n_first_quick : List Str := ["setting", "policy"]
theorem sc_first_quick : FnScope n_first_quick ["setting"] (defScope s_first_quick) := ⟨rfl, rfl, rfl, by decide +kernel, rfl, by decide +kernel, by decide +kernel⟩
abbrev s_with_quick : Stmt := tops 35
abbrev n_with_quick : List Str := ["quick", "endpoint", "many"]
theorem sc_with_quick : FnScope n_with_quick ["quick", "endpoint", "many"] (defScope s_with_quick) := ⟨rfl, rfl, rfl, by decide +kernel, rfl, by decide +kernel, by decide +kernel⟩
abbrev s_Side__init : Stmt := inClass (tops 42) 0
abbrev n_Side__init : List Str := ["self", "values"]
theorem sc_Side__init : FnScope n_Side__init ["self", "values"] (defScope s_Side__init) := ⟨rfl, rfl, rfl, by decide +kernel, rfl, by decide +kernel, by decide +kernel⟩
abbrev s_Side_packed : Stmt := inClass (tops 42) 1
abbrev n_Side_packed : List Str := ["self"]
theorem sc_Side_packed : FnScope n_Side_packed ["self"] (defScope s_Side_packed) := ⟨rfl, rfl, rfl, by decide +kernel, rfl, by decide +kernel, by decide +kernel⟩
abbrev s_Side_permits : Stmt := inClass (tops 42) 2
abbrev n_Side_permits : List Str := ["self", "hold"]
theorem sc_Side_permits : FnScope n_Side_permits ["self", "hold"] (defScope s_Side_permits) := ⟨rfl, rfl, rfl, by decide +kernel, rfl, by decide +kernel, by decide +kernel⟩
abbrev s_Draft_send : Stmt := inClass (tops 43) 2
abbrev n_Draft_send : List Str := ["self", "endpoint", "count", "side"]
theorem sc_Draft_send : FnScope n_Draft_send ["self", "endpoint", "count"] (defScope s_Draft_send) := ⟨rfl, rfl, rfl, by decide +kernel, rfl, by decide +kernel, by decide +kernel⟩
abbrev s_Rules_first : Stmt := inClass (tops 44) 1
abbrev n_Rules_first : List Str := ["self", "side"]
theorem sc_Rules_first : FnScope n_Rules_first ["self"] (defScope s_Rules_first) := ⟨rfl, rfl, rfl, by decide +kernel, rfl, by decide +kernel, by decide +kernel⟩
abbrev s_Rules_heard_all : Stmt := inClass (tops 44) 2
abbrev n_Rules_heard_all : List Str := ["self", "scene", "endpoint"]
theorem sc_Rules_heard_all : FnScope n_Rules_heard_all ["self", "scene", "endpoint"] (defScope s_Rules_heard_all) := ⟨rfl, rfl, rfl, by decide +kernel, rfl, by decide +kernel, by decide +kernel⟩
abbrev s_Road_log : Stmt := inClass (tops 45) 5
abbrev n_Road_log : List Str := ["self"]
theorem sc_Road_log : FnScope n_Road_log ["self"] (defScope s_Road_log) := ⟨rfl, rfl, rfl, by decide +kernel, rfl, by decide +kernel, by decide +kernel⟩
abbrev s_Road_way_from : Stmt := inClass (tops 45) 16
abbrev n_Road_way_from : List Str := ["self", "endpoint"]
theorem sc_Road_way_from : FnScope n_Road_way_from ["self", "endpoint"] (defScope s_Road_way_from) := ⟨rfl, rfl, rfl, by decide +kernel, rfl, by decide +kernel, by decide +kernel⟩
abbrev s_law_bag : Stmt := tops 47
abbrev n_law_bag : List Str := ["_law_script", "_law_at", "_law_cell"]
theorem sc_law_bag : FnScope n_law_bag ["_law_script", "_law_at"] (defScope s_law_bag) := ⟨rfl, rfl, rfl, by decide +kernel, rfl, by decide +kernel, by decide +kernel⟩
abbrev s_law_take : Stmt := tops 48
abbrev n_law_take : List Str := ["_law_bag_here", "_law_many", "_law_digit"]
theorem sc_law_take : FnScope n_law_take ["_law_bag_here", "_law_many"] (defScope s_law_take) := ⟨rfl, rfl, rfl, by decide +kernel, rfl, by decide +kernel, by decide +kernel⟩
abbrev s_law_side : Stmt := tops 49
abbrev n_law_side : List Str := []
theorem sc_law_side : FnScope n_law_side [] (defScope s_law_side) := ⟨rfl, rfl, rfl, by decide +kernel, rfl, by decide +kernel, by decide +kernel⟩
abbrev s_law_send : Stmt := tops 51
abbrev n_law_send : List Str := ["_law_model_here", "_law_who", "_law_count", "_law_side_here", "_law_way"]
theorem sc_law_send : FnScope n_law_send ["_law_model_here", "_law_who", "_law_count"] (defScope s_law_send) := ⟨rfl, rfl, rfl, by decide +kernel, rfl, by decide +kernel, by decide +kernel⟩
abbrev s_law_may_send : Stmt := tops 52
abbrev n_law_may_send : List Str := ["_law_model_here", "_law_who", "_law_side_here", "_law_held"]
theorem sc_law_may_send : FnScope n_law_may_send ["_law_model_here", "_law_who"] (defScope s_law_may_send) := ⟨rfl, rfl, rfl, by decide +kernel, rfl, by decide +kernel, by decide +kernel⟩
abbrev s_law_heard : Stmt := tops 56
abbrev n_law_heard : List Str := ["_law_model_here", "_law_who", "_law_given", "_law_other", "_law_length", "_law_how"]
theorem sc_law_heard : FnScope n_law_heard ["_law_model_here", "_law_who"] (defScope s_law_heard) := ⟨rfl, rfl, rfl, by decide +kernel, rfl, by decide +kernel, by decide +kernel⟩
abbrev s_in_range : Stmt := tops 13
abbrev n_in_range : List Str := ["value", "least", "most"]
theorem sc_in_range : FnScope n_in_range ["value", "least", "most"] (defScope s_in_range) := ⟨rfl, rfl, rfl, by decide +kernel, rfl, by decide +kernel, by decide +kernel⟩
abbrev s_after_write : Stmt := tops 28
abbrev n_after_write : List Str := ["rules", "parts", "length", "mode", "many", "rest", "told", "more"]
theorem sc_after_write : FnScope n_after_write ["rules", "parts", "length", "mode"] (defScope s_after_write) := ⟨rfl, rfl, rfl, by decide +kernel, rfl, by decide +kernel, by decide +kernel⟩
abbrev s_after_clearing : Stmt := tops 29
abbrev n_after_clearing : List Str := ["rules", "parts", "told"]
theorem sc_after_clearing : FnScope n_after_clearing ["rules", "parts"] (defScope s_after_clearing) := ⟨rfl, rfl, rfl, by decide +kernel, rfl, by decide +kernel, by decide +kernel⟩
abbrev s_Draft_packed : Stmt := inClass (tops 43) 1
abbrev n_Draft_packed : List Str := ["self", "sides", "side", "way"]
theorem sc_Draft_packed : FnScope n_Draft_packed ["self"] (defScope s_Draft_packed) := ⟨rfl, rfl, rfl, by decide +kernel, rfl, by decide +kernel, by decide +kernel⟩
abbrev s_Draft_write : Stmt := inClass (tops 43) 3
abbrev n_Draft_write : List Str := ["self", "endpoint", "length", "mode", "side"]
theorem sc_Draft_write : FnScope n_Draft_write ["self", "endpoint", "length", "mode"] (defScope s_Draft_write) := ⟨rfl, rfl, rfl, by decide +kernel, rfl, by decide +kernel, by decide +kernel⟩
abbrev s_Draft_arrive : Stmt := inClass (tops 43) 4
abbrev n_Draft_arrive : List Str := ["self", "sender", "count", "covers", "endpoint", "side", "policy", "is_full"]
theorem sc_Draft_arrive : FnScope n_Draft_arrive ["self", "sender"] (defScope s_Draft_arrive) := ⟨rfl, rfl, rfl, by decide +kernel, rfl, by decide +kernel, by decide +kernel⟩
abbrev s_Draft_fire : Stmt := inClass (tops 43) 5
abbrev n_Draft_fire : List Str := ["self", "speaker"]
theorem sc_Draft_fire : FnScope n_Draft_fire ["self", "speaker"] (defScope s_Draft_fire) := ⟨rfl, rfl, rfl, by decide +kernel, rfl, by decide +kernel, by decide +kernel⟩
abbrev s_Rules_finished : Stmt := inClass (tops 44) 3
abbrev n_Rules_finished : List Str := ["self", "scene", "made"]
theorem sc_Rules_finished : FnScope n_Rules_finished ["self", "scene"] (defScope s_Rules_finished) := ⟨rfl, rfl, rfl, by decide +kernel, rfl, by decide +kernel, by decide +kernel⟩
abbrev s_law_model : Stmt := tops 50
abbrev n_law_model : List Str := ["_law_setting", "_law_words", "_law_rules", "_law_policy", "_law_model_here"]
theorem sc_law_model : FnScope n_law_model ["_law_setting", "_law_words"] (defScope s_law_model) := ⟨rfl, rfl, rfl, by decide +kernel, rfl, by decide +kernel, by decide +kernel⟩
abbrev s_law_write : Stmt := tops 53
abbrev n_law_write : List Str := ["_law_model_here", "_law_who", "_law_length", "_law_how", "_law_side_here"]
theorem sc_law_write : FnScope n_law_write ["_law_model_here"] (defScope s_law_write) := ⟨rfl, rfl, rfl, by decide +kernel, rfl, by decide +kernel, by decide +kernel⟩
abbrev s_law_arrive : Stmt := tops 54
abbrev n_law_arrive : List Str := ["_law_model_here", "_law_sender", "_law_who", "_law_way", "_law_count", "_law_covers", "_law_side_here", "_law_held", "_law_often", "_law_first"]
theorem sc_law_arrive : FnScope n_law_arrive ["_law_model_here", "_law_sender"] (defScope s_law_arrive) := ⟨rfl, rfl, rfl, by decide +kernel, rfl, by decide +kernel, by decide +kernel⟩
abbrev s_law_fire : Stmt := tops 55
abbrev n_law_fire : List Str := ["_law_model_here", "_law_who", "_law_side_here"]
theorem sc_law_fire : FnScope n_law_fire ["_law_model_here"] (defScope s_law_fire) := ⟨rfl, rfl, rfl, by decide +kernel, rfl, by decide +kernel, by decide +kernel⟩
abbrev s_law_over : Stmt := tops 57
abbrev n_law_over : List Str := ["_law_model_here"]
theorem sc_law_over : FnScope n_law_over ["_law_model_here"] (defScope s_law_over) := ⟨rfl, rfl, rfl, by decide +kernel, rfl, by decide +kernel, by decide +kernel⟩
abbrev s_law_order : Stmt := tops 60
abbrev n_law_order : List Str := ["_law_bag_here", "_law_words", "_law_found", "_law_k"]
theorem sc_law_order : FnScope n_law_order ["_law_bag_here", "_law_words"] (defScope s_law_order) := ⟨rfl, rfl, rfl, by decide +kernel, rfl, by decide +kernel, by decide +kernel⟩
abbrev s_Policy__init : Stmt := inClass (tops 14) 1
abbrev n_Policy__init : List Str := ["self", "hold", "every", "quick"]
theorem sc_Policy__init : FnScope n_Policy__init ["self", "hold", "every", "quick"] (defScope s_Policy__init) := ⟨rfl, rfl, rfl, by decide +kernel, rfl, by decide +kernel, by decide +kernel⟩
abbrev s_is_write : Stmt := tops 20
abbrev n_is_write : List Str := ["value", "endpoint", "length", "mode"]
theorem sc_is_write : FnScope n_is_write ["value"] (defScope s_is_write) := ⟨rfl, rfl, rfl, by decide +kernel, rfl, by decide +kernel, by decide +kernel⟩
abbrev s_after_turn : Stmt := tops 30
abbrev n_after_turn : List Str := ["rules", "parts", "segments", "acknowledgments", "turn", "sent", "told", "timer"]
theorem sc_after_turn : FnScope n_after_turn ["rules", "parts"] (defScope s_after_turn) := ⟨rfl, rfl, rfl, by decide +kernel, rfl, by decide +kernel, by decide +kernel⟩
abbrev s_Draft__init : Stmt := inClass (tops 43) 0
abbrev n_Draft__init : List Str := ["self", "setting", "scene", "values", "way"]
theorem sc_Draft__init : FnScope n_Draft__init ["self", "setting", "scene"] (defScope s_Draft__init) := ⟨rfl, rfl, rfl, by decide +kernel, rfl, by decide +kernel, by decide +kernel⟩
abbrev s_Rules_possible : Stmt := inClass (tops 44) 4
abbrev n_Rules_possible : List Str := ["self", "scene", "found", "name", "way", "made"]
theorem sc_Rules_possible : FnScope n_Rules_possible ["self", "scene"] (defScope s_Rules_possible) := ⟨rfl, rfl, rfl, by decide +kernel, rfl, by decide +kernel, by decide +kernel⟩
abbrev s_law_events : Stmt := tops 58
abbrev n_law_events : List Str := ["_law_model_here", "_law_found", "_law_who"]
theorem sc_law_events : FnScope n_law_events ["_law_model_here"] (defScope s_law_events) := ⟨rfl, rfl, rfl, by decide +kernel, rfl, by decide +kernel, by decide +kernel⟩
abbrev s_law_do : Stmt := tops 59
abbrev n_law_do : List Str := ["_law_model_here", "_law_event"]
theorem sc_law_do : FnScope n_law_do ["_law_model_here", "_law_event"] (defScope s_law_do) := ⟨rfl, rfl, rfl, by decide +kernel, rfl, by decide +kernel, by decide +kernel⟩
abbrev s_law_finished : Stmt := tops 61
abbrev n_law_finished : List Str := ["_law_bag_here", "_law_words", "_law_kind", "_law_limit", "_law_k", "_law_write_here", "_law_drawn_here"]
theorem sc_law_finished : FnScope n_law_finished ["_law_bag_here", "_law_words", "_law_kind"] (defScope s_law_finished) := ⟨rfl, rfl, rfl, by decide +kernel, rfl, by decide +kernel, by decide +kernel⟩
abbrev s_law_noted : Stmt := tops 63
abbrev n_law_noted : List Str := ["_law_model_here", "_law_log", "_law_done", "_law_who", "_law_sender", "_law_step"]
theorem sc_law_noted : FnScope n_law_noted ["_law_model_here", "_law_log"] (defScope s_law_noted) := ⟨rfl, rfl, rfl, by decide +kernel, rfl, by decide +kernel, by decide +kernel⟩
abbrev s_check : Stmt := tops 21
abbrev n_check : List Str := ["conversation", "index", "write"]
theorem sc_check : FnScope n_check ["conversation"] (defScope s_check) := ⟨rfl, rfl, rfl, by decide +kernel, rfl, by decide +kernel, by decide +kernel⟩
abbrev s_Road_possible : Stmt := inClass (tops 45) 2
abbrev n_Road_possible : List Str := ["self"]
theorem sc_Road_possible : FnScope n_Road_possible ["self"] (defScope s_Road_possible) := ⟨rfl, rfl, rfl, by decide +kernel, rfl, by decide +kernel, by decide +kernel⟩
abbrev s_law_settle : Stmt := tops 62
abbrev n_law_settle : List Str := ["_law_model_here", "_law_log", "_law_again", "_law_found"]
theorem sc_law_settle : FnScope n_law_settle ["_law_model_here", "_law_log"] (defScope s_law_settle) := ⟨rfl, rfl, rfl, by decide +kernel, rfl, by decide +kernel, by decide +kernel⟩
abbrev s_law_counted : Stmt := tops 66
abbrev n_law_counted : List Str := ["_law_setting", "_law_words", "_law_log", "_law_model_here", "_law_bare", "_law_event", "_law_before", "_law_who", "_law_way", "_law_pair"]
theorem sc_law_counted : FnScope n_law_counted ["_law_setting", "_law_words", "_law_log"] (defScope s_law_counted) := ⟨rfl, rfl, rfl, by decide +kernel, rfl, by decide +kernel, by decide +kernel⟩
abbrev s_Setting__init : Stmt := inClass (tops 15) 0
abbrev n_Setting__init : List Str := ["self", "size", "policies", "policy", "both"]
theorem sc_Setting__init : FnScope n_Setting__init ["self", "size", "policies"] (defScope s_Setting__init) := ⟨rfl, rfl, rfl, by decide +kernel, rfl, by decide +kernel, by decide +kernel⟩
abbrev s_normal_order : Stmt := tops 23
abbrev n_normal_order : List Str := ["conversation", "order", "starts", "endpoint", "start", "stop", "most", "index", "write", "many"]
theorem sc_normal_order : FnScope n_normal_order ["conversation", "order"] (defScope s_normal_order) := ⟨rfl, rfl, rfl, by decide +kernel, rfl, by decide +kernel, by decide +kernel⟩
abbrev s_Rules__init : Stmt := inClass (tops 44) 0
abbrev n_Rules__init : List Str := ["self", "setting", "conversation", "bound", "many", "endpoint", "length", "mode", "zero", "one"]
theorem sc_Rules__init : FnScope n_Rules__init ["self", "setting", "conversation", "bound"] (defScope s_Rules__init) := ⟨rfl, rfl, rfl, by decide +kernel, rfl, by decide +kernel, by decide +kernel⟩
abbrev s_Rules_after : Stmt := inClass (tops 44) 5
abbrev n_Rules_after : List Str := ["self", "scene", "event", "draft", "endpoint", "length", "mode"]
theorem sc_Rules_after : FnScope n_Rules_after ["self", "scene", "event"] (defScope s_Rules_after) := ⟨rfl, rfl, rfl, by decide +kernel, rfl, by decide +kernel, by decide +kernel⟩
abbrev s_law_played : Stmt := tops 64
abbrev n_law_played : List Str := ["_law_setting", "_law_words", "_law_plan", "_law_model_here", "_law_log", "_law_stalled", "_law_k", "_law_step"]
theorem sc_law_played : FnScope n_law_played ["_law_setting", "_law_words", "_law_plan"] (defScope s_law_played) := ⟨rfl, rfl, rfl, by decide +kernel, rfl, by decide +kernel, by decide +kernel⟩
abbrev s_outcome : Stmt := tops 36
abbrev n_outcome : List Str := ["setting", "conversation", "order", "steps", "quick", "segments", "acknowledgments", "stalled", "turn", "speaker", "start", "stop", "rules", "parts", "index", "step", "sent", "told", "stall", "left"]
theorem sc_outcome : FnScope n_outcome ["setting", "conversation", "order"] (defScope s_outcome) := ⟨rfl, rfl, rfl, by decide +kernel, rfl, by decide +kernel, by decide +kernel⟩
abbrev s_Road_do : Stmt := inClass (tops 45) 3
abbrev n_Road_do : List Str := ["self", "event"]
theorem sc_Road_do : FnScope n_Road_do ["self", "event"] (defScope s_Road_do) := ⟨rfl, rfl, rfl, by decide +kernel, rfl, by decide +kernel, by decide +kernel⟩
abbrev s_Road__init : Stmt := inClass (tops 45) 0
abbrev n_Road__init : List Str := ["self", "setting", "conversation"]
theorem sc_Road__init : FnScope n_Road__init ["self", "setting", "conversation"] (defScope s_Road__init) := ⟨rfl, rfl, rfl, by decide +kernel, rfl, by decide +kernel, by decide +kernel⟩
abbrev s_Road_clearing : Stmt := inClass (tops 45) 17
abbrev n_Road_clearing : List Str := ["self", "made", "before", "speaker", "sender", "turn"]
theorem sc_Road_clearing : FnScope n_Road_clearing ["self"] (defScope s_Road_clearing) := ⟨rfl, rfl, rfl, by decide +kernel, rfl, by decide +kernel, by decide +kernel⟩
abbrev s_law_drawn : Stmt := tops 65
abbrev n_law_drawn : List Str := ["_law_bag_here", "_law_size", "_law_some", "_law_who", "_law_held", "_law_words", "_law_step", "_law_length"]
theorem sc_law_drawn : FnScope n_law_drawn ["_law_bag_here"] (defScope s_law_drawn) := ⟨rfl, rfl, rfl, by decide +kernel, rfl, by decide +kernel, by decide +kernel⟩
abbrev s_Road_settle : Stmt := inClass (tops 45) 18
abbrev n_Road_settle : List Str := ["self"]
theorem sc_Road_settle : FnScope n_Road_settle ["self"] (defScope s_Road_settle) := ⟨rfl, rfl, rfl, by decide +kernel, rfl, by decide +kernel, by decide +kernel⟩
abbrev s_Road_end_turn : Stmt := inClass (tops 45) 19
abbrev n_Road_end_turn : List Str := ["self"]
theorem sc_Road_end_turn : FnScope n_Road_end_turn ["self"] (defScope s_Road_end_turn) := ⟨rfl, rfl, rfl, by decide +kernel, rfl, by decide +kernel, by decide +kernel⟩
abbrev s_Road_play : Stmt := inClass (tops 45) 21
abbrev n_Road_play : List Str := ["self", "order", "road", "plan", "index", "write", "turn"]
theorem sc_Road_play : FnScope n_Road_play ["self", "order"] (defScope s_Road_play) := ⟨rfl, rfl, rfl, by decide +kernel, rfl, by decide +kernel, by decide +kernel⟩
abbrev s_law_right : Stmt := tops 67
abbrev n_law_right : List Str := ["_law_bag_here", "_law_setting", "_law_words", "_law_kind", "_law_asked", "_law_plan", "_law_model_here", "_law_log", "_law_stalled", "_law_found", "_law_due", "_law_k"]
theorem sc_law_right : FnScope n_law_right ["_law_bag_here"] (defScope s_law_right) := ⟨rfl, rfl, rfl, by decide +kernel, rfl, by decide +kernel, by decide +kernel⟩
abbrev s_law : Stmt := tops 68
abbrev n_law : List Str := ["_law_script", "_law_at"]
theorem sc_law : FnScope n_law ["_law_script"] (defScope s_law) := ⟨rfl, rfl, rfl, by decide +kernel, rfl, by decide +kernel, by decide +kernel⟩
abbrev s_Outcome__bool : Stmt := inClass (tops 32) 3
abbrev n_Outcome__bool : List Str := ["self"]
theorem sc_Outcome__bool : FnScope n_Outcome__bool ["self"] (defScope s_Outcome__bool) := ⟨rfl, rfl, rfl, by decide +kernel, rfl, by decide +kernel, by decide +kernel⟩
abbrev s_Road_is_over : Stmt := inClass (tops 45) 7
abbrev n_Road_is_over : List Str := ["self"]
theorem sc_Road_is_over : FnScope n_Road_is_over ["self"] (defScope s_Road_is_over) := ⟨rfl, rfl, rfl, by decide +kernel, rfl, by decide +kernel, by decide +kernel⟩
def d_is_integer : He.DefD := ⟨("is_integer", none), "is_integer", "is_integer", defArgs s_is_integer, defBody s_is_integer, defScope s_is_integer, [], []⟩
def d_split_turns : He.DefD := ⟨("split_turns", none), "split_turns", "split_turns", defArgs s_split_turns, defBody s_split_turns, defScope s_split_turns, [], []⟩
def d_rules_of : He.DefD := ⟨("rules_of", none), "rules_of", "rules_of", defArgs s_rules_of, defBody s_rules_of, defScope s_rules_of, [], []⟩
def d_with_full : He.DefD := ⟨("with_full", none), "with_full", "with_full", defArgs s_with_full, defBody s_with_full, defScope s_with_full, [], []⟩
def d_with_partial : He.DefD := ⟨("with_partial", none), "with_partial", "with_partial", defArgs s_with_partial, defBody s_with_partial, defScope s_with_partial, [], []⟩
def d_Outcome__init : He.DefD := ⟨("Outcome", some "__init__"), "__init__", "Outcome.__init__", defArgs s_Outcome__init, defBody s_Outcome__init, defScope s_Outcome__init, [.int 0, .int 0, .int 0, .adr (He.dflAt ("Outcome", some "__init__") 3)], []⟩
def d_first_parts : He.DefD := ⟨("first_parts", none), "first_parts", "first_parts", defArgs s_first_parts, defBody s_first_parts, defScope s_first_parts, [], []⟩
def d_first_quick : He.DefD := ⟨("first_quick", none), "first_quick", "first_quick", defArgs s_first_quick, defBody s_first_quick, defScope s_first_quick, [], []⟩
def d_with_quick : He.DefD := ⟨("with_quick", none), "with_quick", "with_quick", defArgs s_with_quick, defBody s_with_quick, defScope s_with_quick, [], []⟩
def d_Side__init : He.DefD := ⟨("Side", some "__init__"), "__init__", "Side.__init__", defArgs s_Side__init, defBody s_Side__init, defScope s_Side__init, [], []⟩
def d_Side_packed : He.DefD := ⟨("Side", some "packed"), "packed", "Side.packed", defArgs s_Side_packed, defBody s_Side_packed, defScope s_Side_packed, [], []⟩
def d_Side_permits : He.DefD := ⟨("Side", some "permits"), "permits", "Side.permits", defArgs s_Side_permits, defBody s_Side_permits, defScope s_Side_permits, [], []⟩
def d_Draft_send : He.DefD := ⟨("Draft", some "send"), "send", "Draft.send", defArgs s_Draft_send, defBody s_Draft_send, defScope s_Draft_send, [], []⟩
def d_Rules_first : He.DefD := ⟨("Rules", some "first"), "first", "Rules.first", defArgs s_Rules_first, defBody s_Rules_first, defScope s_Rules_first, [], []⟩
def d_Rules_heard_all : He.DefD := ⟨("Rules", some "heard_all"), "heard_all", "Rules.heard_all", defArgs s_Rules_heard_all, defBody s_Rules_heard_all, defScope s_Rules_heard_all, [], []⟩
def d_Road_log : He.DefD := ⟨("Road", some "log"), "log", "Road.log", defArgs s_Road_log, defBody s_Road_log, defScope s_Road_log, [], []⟩
def d_Road_way_from : He.DefD := ⟨("Road", some "way_from"), "way_from", "Road.way_from", defArgs s_Road_way_from, defBody s_Road_way_from, defScope s_Road_way_from, [], []⟩
def d_law_bag : He.DefD := ⟨("_law_bag", none), "_law_bag", "_law_bag", defArgs s_law_bag, defBody s_law_bag, defScope s_law_bag, [], []⟩
def d_law_take : He.DefD := ⟨("_law_take", none), "_law_take", "_law_take", defArgs s_law_take, defBody s_law_take, defScope s_law_take, [], []⟩
def d_law_side : He.DefD := ⟨("_law_side", none), "_law_side", "_law_side", defArgs s_law_side, defBody s_law_side, defScope s_law_side, [], []⟩
def d_law_send : He.DefD := ⟨("_law_send", none), "_law_send", "_law_send", defArgs s_law_send, defBody s_law_send, defScope s_law_send, [], []⟩
def d_law_may_send : He.DefD := ⟨("_law_may_send", none), "_law_may_send", "_law_may_send", defArgs s_law_may_send, defBody s_law_may_send, defScope s_law_may_send, [], []⟩
def d_law_heard : He.DefD := ⟨("_law_heard", none), "_law_heard", "_law_heard", defArgs s_law_heard, defBody s_law_heard, defScope s_law_heard, [], []⟩
def d_in_range : He.DefD := ⟨("in_range", none), "in_range", "in_range", defArgs s_in_range, defBody s_in_range, defScope s_in_range, [], []⟩
def d_after_write : He.DefD := ⟨("after_write", none), "after_write", "after_write", defArgs s_after_write, defBody s_after_write, defScope s_after_write, [], []⟩
def d_after_clearing : He.DefD := ⟨("after_clearing", none), "after_clearing", "after_clearing", defArgs s_after_clearing, defBody s_after_clearing, defScope s_after_clearing, [], []⟩
def d_Draft_packed : He.DefD := ⟨("Draft", some "packed"), "packed", "Draft.packed", defArgs s_Draft_packed, defBody s_Draft_packed, defScope s_Draft_packed, [], []⟩
def d_Draft_write : He.DefD := ⟨("Draft", some "write"), "write", "Draft.write", defArgs s_Draft_write, defBody s_Draft_write, defScope s_Draft_write, [], []⟩
def d_Draft_arrive : He.DefD := ⟨("Draft", some "arrive"), "arrive", "Draft.arrive", defArgs s_Draft_arrive, defBody s_Draft_arrive, defScope s_Draft_arrive, [], []⟩
def d_Draft_fire : He.DefD := ⟨("Draft", some "fire"), "fire", "Draft.fire", defArgs s_Draft_fire, defBody s_Draft_fire, defScope s_Draft_fire, [], []⟩
def d_Rules_finished : He.DefD := ⟨("Rules", some "finished"), "finished", "Rules.finished", defArgs s_Rules_finished, defBody s_Rules_finished, defScope s_Rules_finished, [], []⟩
def d_law_model : He.DefD := ⟨("_law_model", none), "_law_model", "_law_model", defArgs s_law_model, defBody s_law_model, defScope s_law_model, [], []⟩
def d_law_write : He.DefD := ⟨("_law_write", none), "_law_write", "_law_write", defArgs s_law_write, defBody s_law_write, defScope s_law_write, [], []⟩
def d_law_arrive : He.DefD := ⟨("_law_arrive", none), "_law_arrive", "_law_arrive", defArgs s_law_arrive, defBody s_law_arrive, defScope s_law_arrive, [], []⟩
def d_law_fire : He.DefD := ⟨("_law_fire", none), "_law_fire", "_law_fire", defArgs s_law_fire, defBody s_law_fire, defScope s_law_fire, [], []⟩
def d_law_over : He.DefD := ⟨("_law_over", none), "_law_over", "_law_over", defArgs s_law_over, defBody s_law_over, defScope s_law_over, [], []⟩
def d_law_order : He.DefD := ⟨("_law_order", none), "_law_order", "_law_order", defArgs s_law_order, defBody s_law_order, defScope s_law_order, [], []⟩
def d_Policy__init : He.DefD := ⟨("Policy", some "__init__"), "__init__", "Policy.__init__", defArgs s_Policy__init, defBody s_Policy__init, defScope s_Policy__init, [.str "all"], [("every", .int 2), ("quick", .int 0)]⟩
def d_is_write : He.DefD := ⟨("is_write", none), "is_write", "is_write", defArgs s_is_write, defBody s_is_write, defScope s_is_write, [], []⟩
def d_after_turn : He.DefD := ⟨("after_turn", none), "after_turn", "after_turn", defArgs s_after_turn, defBody s_after_turn, defScope s_after_turn, [], []⟩
def d_Draft__init : He.DefD := ⟨("Draft", some "__init__"), "__init__", "Draft.__init__", defArgs s_Draft__init, defBody s_Draft__init, defScope s_Draft__init, [], []⟩
def d_Rules_possible : He.DefD := ⟨("Rules", some "possible"), "possible", "Rules.possible", defArgs s_Rules_possible, defBody s_Rules_possible, defScope s_Rules_possible, [], []⟩
def d_law_events : He.DefD := ⟨("_law_events", none), "_law_events", "_law_events", defArgs s_law_events, defBody s_law_events, defScope s_law_events, [], []⟩
def d_law_do : He.DefD := ⟨("_law_do", none), "_law_do", "_law_do", defArgs s_law_do, defBody s_law_do, defScope s_law_do, [], []⟩
def d_law_finished : He.DefD := ⟨("_law_finished", none), "_law_finished", "_law_finished", defArgs s_law_finished, defBody s_law_finished, defScope s_law_finished, [], []⟩
def d_law_noted : He.DefD := ⟨("_law_noted", none), "_law_noted", "_law_noted", defArgs s_law_noted, defBody s_law_noted, defScope s_law_noted, [], []⟩
def d_check : He.DefD := ⟨("check", none), "check", "check", defArgs s_check, defBody s_check, defScope s_check, [], []⟩
def d_Road_possible : He.DefD := ⟨("Road", some "possible"), "possible", "Road.possible", defArgs s_Road_possible, defBody s_Road_possible, defScope s_Road_possible, [], []⟩
def d_law_settle : He.DefD := ⟨("_law_settle", none), "_law_settle", "_law_settle", defArgs s_law_settle, defBody s_law_settle, defScope s_law_settle, [], []⟩
def d_law_counted : He.DefD := ⟨("_law_counted", none), "_law_counted", "_law_counted", defArgs s_law_counted, defBody s_law_counted, defScope s_law_counted, [], []⟩
def d_Setting__init : He.DefD := ⟨("Setting", some "__init__"), "__init__", "Setting.__init__", defArgs s_Setting__init, defBody s_Setting__init, defScope s_Setting__init, [], []⟩
def d_normal_order : He.DefD := ⟨("normal_order", none), "normal_order", "normal_order", defArgs s_normal_order, defBody s_normal_order, defScope s_normal_order, [], []⟩
def d_Rules__init : He.DefD := ⟨("Rules", some "__init__"), "__init__", "Rules.__init__", defArgs s_Rules__init, defBody s_Rules__init, defScope s_Rules__init, [], []⟩
def d_Rules_after : He.DefD := ⟨("Rules", some "after"), "after", "Rules.after", defArgs s_Rules_after, defBody s_Rules_after, defScope s_Rules_after, [], []⟩
def d_law_played : He.DefD := ⟨("_law_played", none), "_law_played", "_law_played", defArgs s_law_played, defBody s_law_played, defScope s_law_played, [], []⟩
def d_outcome : He.DefD := ⟨("outcome", none), "outcome", "outcome", defArgs s_outcome, defBody s_outcome, defScope s_outcome, [.str "quick"], []⟩
def d_Road_do : He.DefD := ⟨("Road", some "do"), "do", "Road.do", defArgs s_Road_do, defBody s_Road_do, defScope s_Road_do, [], []⟩
def d_Road__init : He.DefD := ⟨("Road", some "__init__"), "__init__", "Road.__init__", defArgs s_Road__init, defBody s_Road__init, defScope s_Road__init, [], []⟩
def d_Road_clearing : He.DefD := ⟨("Road", some "clearing"), "clearing", "Road.clearing", defArgs s_Road_clearing, defBody s_Road_clearing, defScope s_Road_clearing, [], []⟩
def d_law_drawn : He.DefD := ⟨("_law_drawn", none), "_law_drawn", "_law_drawn", defArgs s_law_drawn, defBody s_law_drawn, defScope s_law_drawn, [], []⟩
def d_Road_settle : He.DefD := ⟨("Road", some "settle"), "settle", "Road.settle", defArgs s_Road_settle, defBody s_Road_settle, defScope s_Road_settle, [], []⟩
def d_Road_end_turn : He.DefD := ⟨("Road", some "end_turn"), "end_turn", "Road.end_turn", defArgs s_Road_end_turn, defBody s_Road_end_turn, defScope s_Road_end_turn, [], []⟩
def d_Road_play : He.DefD := ⟨("Road", some "play"), "play", "Road.play", defArgs s_Road_play, defBody s_Road_play, defScope s_Road_play, [.str "quick"], []⟩
def d_law_right : He.DefD := ⟨("_law_right", none), "_law_right", "_law_right", defArgs s_law_right, defBody s_law_right, defScope s_law_right, [], []⟩
def d_law : He.DefD := ⟨("law", none), "law", "law", defArgs s_law, defBody s_law, defScope s_law, [], []⟩
def d_Outcome__bool : He.DefD := ⟨("Outcome", some "__bool__"), "__bool__", "Outcome.__bool__", defArgs s_Outcome__bool, defBody s_Outcome__bool, defScope s_Outcome__bool, [], []⟩
def d_Road_is_over : He.DefD := ⟨("Road", some "is_over"), "is_over", "Road.is_over", defArgs s_Road_is_over, defBody s_Road_is_over, defScope s_Road_is_over, [], []⟩
def fn : List He.DefD := [d_is_integer, d_split_turns, d_rules_of, d_with_full, d_with_partial, d_Outcome__init, d_first_parts, d_first_quick, d_with_quick, d_Side__init, d_Side_packed, d_Side_permits, d_Draft_send, d_Rules_first, d_Rules_heard_all, d_Road_log, d_Road_way_from, d_law_bag, d_law_take, d_law_side, d_law_send, d_law_may_send, d_law_heard, d_in_range, d_after_write, d_after_clearing, d_Draft_packed, d_Draft_write, d_Draft_arrive, d_Draft_fire, d_Rules_finished, d_law_model, d_law_write, d_law_arrive, d_law_fire, d_law_over, d_law_order, d_Policy__init, d_is_write, d_after_turn, d_Draft__init, d_Rules_possible, d_law_events, d_law_do, d_law_finished, d_law_noted, d_check, d_Road_possible, d_law_settle, d_law_counted, d_Setting__init, d_normal_order, d_Rules__init, d_Rules_after, d_law_played, d_outcome, d_Road_do, d_Road__init, d_Road_clearing, d_law_drawn, d_Road_settle, d_Road_end_turn, d_Road_play, d_law_right, d_law, d_Outcome__bool]
def fa : List He.Fa := [.glo "is_integer", .glo "split_turns", .glo "rules_of", .glo "with_full", .glo "with_partial", .glo "first_parts", .glo "first_quick", .glo "with_quick", .glo "_law_bag", .glo "_law_take", .glo "_law_side", .glo "_law_send", .glo "_law_may_send", .glo "_law_heard", .glo "in_range", .glo "after_write", .glo "after_clearing", .glo "_law_model", .glo "_law_write", .glo "_law_arrive", .glo "_law_fire", .glo "_law_over", .glo "_law_order", .glo "is_write", .glo "after_turn", .glo "_law_events", .glo "_law_do", .glo "_law_finished", .glo "_law_noted", .glo "check", .glo "_law_settle", .glo "_law_counted", .glo "normal_order", .glo "_law_played", .glo "outcome", .glo "_law_drawn", .glo "_law_right", .glo "law", .glo "Policy", .glo "Setting", .glo "Outcome", .glo "Side", .glo "Draft", .glo "Rules", .glo "Road", .glo "MODES", .glo "ARRIVALS", .free "len", .free "range", .free "isinstance", .free "str", .free "list", .free "tuple", .free "int", .free "bool", .free "enumerate", .free "zip", .free "sum", .free "max", .free "min", .free "abs", .free "divmod", .free "all", .int "MOST_EVERY" 9, .int "MOST_QUICK" 4, .int "MOST_SIZE" 1000000000000000000, .int "MOST_WRITES" 200, .int "MOST_LENGTH" 1000000000000000000, .int "MOST_SEGMENTS" 300, .str "WRITE" "write", .str "TIMER" "timer", .cls "Policy", .mkr "Policy", .noat "Policy" "hold", .noat "Policy" "every", .noat "Policy" "quick", .cls "Setting", .mkr "Setting", .noat "Setting" "size", .noat "Setting" "policies", .cls "Outcome", .mkr "Outcome", .noat "Outcome" "stalls", .noat "Outcome" "segments", .noat "Outcome" "acknowledgments", .noat "Outcome" "stalled", .cls "Side", .mkr "Side", .noat "Side" "waiting", .noat "Side" "corked", .noat "Side" "out", .noat "Side" "covered", .noat "Side" "heard", .noat "Side" "fulls", .noat "Side" "arrived", .noat "Side" "mark", .cls "Draft", .mkr "Draft", .noat "Draft" "setting", .noat "Draft" "made", .noat "Draft" "stalls", .noat "Draft" "sides", .noat "Draft" "ways", .cls "Rules", .mkr "Rules", .noat "Rules" "setting", .noat "Rules" "writes", .noat "Rules" "given", .cls "Road", .mkr "Road", .noat "Road" "rules", .noat "Road" "scenes", .noat "Road" "deeds", .noat "Road" "floor", .meth "Side" "packed", .meth "Side" "permits", .meth "Draft" "send", .meth "Rules" "first", .meth "Rules" "heard_all", .meth "Road" "log", .meth "Road" "way_from", .meth "Draft" "packed", .meth "Draft" "write", .meth "Draft" "arrive", .meth "Draft" "fire", .meth "Rules" "finished", .meth "Rules" "possible", .meth "Road" "possible", .meth "Rules" "after", .meth "Road" "do", .meth "Road" "clearing", .meth "Road" "settle", .meth "Road" "end_turn", .meth "Road" "play", .meth "Outcome" "__bool__"]
/-- an object's items, a tuple -/
def tupAt (K : PySem.W.Frag) (a : Addr) (vs : List V) : Bool := match K.lookup a with
  | some ⟨.type c, _, .seq its _, _⟩ => decide (c = "tuple") && (decide (its.size ≤ sizeLine) && He.relAll vs its.toList)
  | _ => false
theorem tupAt_ok {K : PySem.W.Frag} {a : Addr} {vs : List V} (h : tupAt K a vs = true) (H : Hp) : SqT K H a vs := by
  unfold tupAt at h
  cases q : K.lookup a with
  | none =>
    rw [q] at h
    cases h
  | some o =>
    obtain ⟨oc, od, dt, osl⟩ := o
    rw [q] at h
    cases oc with
    | type c =>
      cases dt with
      | seq its n =>
        obtain ⟨h1, h2⟩ := He.ba (show (decide (c = "tuple") && (decide (its.size ≤ sizeLine) && He.relAll vs its.toList)) = true from h)
        obtain ⟨h3, h4⟩ := He.ba h2
        exact .inr ⟨_, its, n, q, congrArg Value.type (of_decide_eq_true h1), rfl, of_decide_eq_true h3, He.relAll_ok h4⟩
      | _ => cases h
    | _ => cases dt <;> cases h
/-- the class constant HOLDS: where it stands -/
def holdsA (K : PySem.W.Frag) : Addr := match PySem.W.findCls K (.ref (He.ga K "Policy")) (.type "type") "HOLDS" with
  | some (.val (.ref a)) => a
  | _ => 0
def holdsB (K : PySem.W.Frag) : Bool := (match PySem.W.findCls K (.ref (He.ga K "Policy")) (.type "type") "HOLDS" with
  | some (.val (.ref a)) => decide (a = holdsA K)
  | _ => false) && (PySem.W.readsIn K (He.ga K "Policy") (.type "type") && (He.eqO (PySem.W.specialIn K (.ref (He.ga K "Policy")) "__getattribute__") (some (some (.builtin "type.__getattribute__"))) && tupAt K (holdsA K) [.str "off", .str "partial", .str "all"]))
def overP (K : PySem.W.Frag) : Addr := match PySem.W.findIn K (.ref (He.ga K "Road")) "is_over" with
  | some (some (.ref a)) => a
  | _ => 0
def overG (K : PySem.W.Frag) : Addr := match PySem.W.recIn K (overP K) "property" with
  | some (.ref g :: _) => g
  | _ => 0
def overB (K : PySem.W.Frag) : Bool := He.eqO (PySem.W.findIn K (.ref (He.ga K "Road")) "is_over") (some (some (.ref (overP K)))) && (He.eqO (PySem.W.specialIn K (.ref (overP K)) "__get__") (some (some (.builtin "property.__get__"))) && (decide (PySem.W.takesIn K (.ref (overP K)) = some true) && (match PySem.W.recIn K (overP K) "property" with
  | some (.ref g :: _) => decide (g = overG K)
  | _ => false)))
/-- a function by its address -/
def fnWA (K : PySem.W.Frag) (a : Addr) : He.FnW := match K.lookup a with
  | some ⟨_, _, .func fd, _⟩ => some (fd.name, fd.qualname, fd.params, fd.body, fd.scope, fd.globals, fd.closure, fd.builtins)
  | _ => none
def okA (K : PySem.W.Frag) (a : Addr) (q : Str) : Bool := PySem.W.keepIn K (.ref a) && (match K.lookup a with
  | some ⟨_, _, .func fd, _⟩ => PySem.W.codeIn K fd.code q && (He.dflB K fd.defaults [] && He.kwdB K fd.kwdefaults [])
  | _ => false)
theorem funD_at {K : PySem.W.Frag} {a : Addr} {d : He.DefD} (e : fnWA K a = d.val) (c : okA K a d.qual = true) : ∃ fd, FunD K d.name d.qual d.params d.body d.scope [] [] a fd := by
  obtain ⟨kp, c2⟩ := He.ba c
  unfold fnWA at e
  cases q : K.lookup a with
  | none =>
    rw [q] at c2
    cases c2
  | some o =>
    obtain ⟨oc, od, dt, osl⟩ := o
    rw [q] at c2 e
    cases dt with
    | func fd =>
      obtain ⟨n1, n2, n3, n4, n5, n6, n7, n8, n9, n10, n11, n12, n13, n14, n15⟩ := fd
      have e2 : (some (n1, n2, n3, n4, n5, n6, n7, n15) : He.FnW) = some (d.name, d.qual, d.params, .stmts d.body, d.scope, mainGlobals, [], builtinsNs) := e
      simp only [Option.some.injEq, Prod.mk.injEq] at e2
      obtain ⟨h1, h2, h3, h4, h5, h6, h7, h8⟩ := e2
      subst h1 h2 h3 h4 h5 h6 h7 h8
      have c3 : (PySem.W.codeIn K n13 d.qual && (He.dflB K n8 [] && He.kwdB K n9 [])) = true := c2
      obtain ⟨k1, k2⟩ := He.ba c3
      obtain ⟨k3, k4⟩ := He.ba k2
      exact ⟨_, ⟨oc, od, n8, n9, n10, n11, n12, n13, n14, osl, rfl, q, k1, He.dflB_ok k3, He.kwdB_ok k4⟩, kp⟩
    | _ => cases c2
def polB (K : PySem.W.Frag) : Bool := He.eqO (PySem.W.findIn K (.ref (He.ga K "Policy")) "__class__") (some (some (.builtin "object.__class__"))) && (He.eqO (PySem.W.specialIn K (.builtin "object.__class__") "__get__") (some (some (.builtin "getset_descriptor.__get__"))) && (decide (PySem.W.takesIn K (.builtin "object.__class__") = some true) && (decide (PySem.W.mroIn K (He.ga K "Policy") (.type "object") = some true) && decide (PySem.W.kitOne K (.ref (He.ga K "Policy")) (.ref (He.ga K "Policy")) = some true))))
/-- the tuple ARRIVALS has no dict -/
def noDict (K : PySem.W.Frag) : Bool := match K.lookup (He.ga K "ARRIVALS") with
  | some o => decide (o.cls = .type "tuple") && o.dict.isNone
  | none => false
def exB (K : PySem.W.Frag) : Bool := (He.tupB K "MODES" [.str "plain", .str "push", .str "more"] && noDict K) && (He.tupB K "ARRIVALS" [.str "arrive 0", .str "arrive 1"] && (holdsB K && (overB K && (polB K && okA K (overG K) "Road.is_over"))))
/-- what the head tells -/
structure U (K : PySem.W.Frag) (mg : Str → Option Value) : Prop where
  ex : ∃ h : Heap, K.In h ∧ h.Ns mainGlobals mg
  c : He.SaysD fa fn K
  o : fnWA K (overG K) = He.DefD.val d_Road_is_over
  b : exB K = true
/-! the hook -/
/-- the ways from some addresses, no longer than n: no address is looked for twice (to take out those that come twice costs the kernel far more than they do) -/
def asP (g : Addr → Option Obj) : Nat → List Addr → List Addr
  | 0, l => l
  | n + 1, l => l ++ asP g n (l.flatMap fun a => match g a with
    | some o => He.refsD o
    | none => [])
def asY (g : Addr → Option Obj) (n : Nat) : List Addr := asP g n [mainGlobals, PySem.cStatics]
abbrev AlY : Type := He.AlD × He.FnW × Bool
def obsY (g : Addr → Option Obj) : AlY := (He.obsD fa fn (He.frG g (asY g 5)), fnWA (He.frG g (asY g 5)) (overG (He.frG g (asY g 5))), exB (He.frG g (asY g 5)))
def valY : AlY := (He.valD fn, He.DefD.val d_Road_is_over, true)
def SaysY (K : PySem.W.Frag) : Prop := He.SaysD fa fn K ∧ fnWA K (overG K) = He.DefD.val d_Road_is_over ∧ exB K = true
def hookY : PySem.W.Hook where
  α := AlY
  obs := fun s => obsY s.heap.get?
  val := fun _ => valY
  says := fun _ h => ∃ K : PySem.W.Frag, K.In h ∧ SaysY K
  of := fun _ _ e => ⟨_, He.frG_in, congrArg (fun z : AlY => z.1) e, congrArg (fun z : AlY => z.2.1) e, congrArg (fun z : AlY => z.2.2) e⟩
  keeps := fun _ _ _ ⟨K, hK, c⟩ k => ⟨K, PySem.W.Frag.In.keeps hK k, c⟩
theorem obsY_eq {g : Addr → Option Obj} {s : Shared} (h : ∀ a, g a = s.heap.get? a) : obsY g = hookY.obs s := by
  have e : g = s.heap.get? := funext h
  rw [e] <;> rfl
section
variable {K : PySem.W.Frag} {mg : Str → Option Value}
theorem U.g_is_integer (u : U K mg) : mg "is_integer" = some (.ref (He.ga K "is_integer")) := let ⟨_, X, G⟩ := u.ex; He.glo_ok X G (u.c.fact 0 rfl)
theorem U.g_split_turns (u : U K mg) : mg "split_turns" = some (.ref (He.ga K "split_turns")) := let ⟨_, X, G⟩ := u.ex; He.glo_ok X G (u.c.fact 1 rfl)
theorem U.g_rules_of (u : U K mg) : mg "rules_of" = some (.ref (He.ga K "rules_of")) := let ⟨_, X, G⟩ := u.ex; He.glo_ok X G (u.c.fact 2 rfl)
theorem U.g_with_full (u : U K mg) : mg "with_full" = some (.ref (He.ga K "with_full")) := let ⟨_, X, G⟩ := u.ex; He.glo_ok X G (u.c.fact 3 rfl)
theorem U.g_with_partial (u : U K mg) : mg "with_partial" = some (.ref (He.ga K "with_partial")) := let ⟨_, X, G⟩ := u.ex; He.glo_ok X G (u.c.fact 4 rfl)
theorem U.g_first_parts (u : U K mg) : mg "first_parts" = some (.ref (He.ga K "first_parts")) := let ⟨_, X, G⟩ := u.ex; He.glo_ok X G (u.c.fact 5 rfl)
theorem U.g_first_quick (u : U K mg) : mg "first_quick" = some (.ref (He.ga K "first_quick")) := let ⟨_, X, G⟩ := u.ex; He.glo_ok X G (u.c.fact 6 rfl)
theorem U.g_with_quick (u : U K mg) : mg "with_quick" = some (.ref (He.ga K "with_quick")) := let ⟨_, X, G⟩ := u.ex; He.glo_ok X G (u.c.fact 7 rfl)
theorem U.g__law_bag (u : U K mg) : mg "_law_bag" = some (.ref (He.ga K "_law_bag")) := let ⟨_, X, G⟩ := u.ex; He.glo_ok X G (u.c.fact 8 rfl)
theorem U.g__law_take (u : U K mg) : mg "_law_take" = some (.ref (He.ga K "_law_take")) := let ⟨_, X, G⟩ := u.ex; He.glo_ok X G (u.c.fact 9 rfl)
theorem U.g__law_side (u : U K mg) : mg "_law_side" = some (.ref (He.ga K "_law_side")) := let ⟨_, X, G⟩ := u.ex; He.glo_ok X G (u.c.fact 10 rfl)
theorem U.g__law_send (u : U K mg) : mg "_law_send" = some (.ref (He.ga K "_law_send")) := let ⟨_, X, G⟩ := u.ex; He.glo_ok X G (u.c.fact 11 rfl)
theorem U.g__law_may_send (u : U K mg) : mg "_law_may_send" = some (.ref (He.ga K "_law_may_send")) := let ⟨_, X, G⟩ := u.ex; He.glo_ok X G (u.c.fact 12 rfl)
theorem U.g__law_heard (u : U K mg) : mg "_law_heard" = some (.ref (He.ga K "_law_heard")) := let ⟨_, X, G⟩ := u.ex; He.glo_ok X G (u.c.fact 13 rfl)
theorem U.g_in_range (u : U K mg) : mg "in_range" = some (.ref (He.ga K "in_range")) := let ⟨_, X, G⟩ := u.ex; He.glo_ok X G (u.c.fact 14 rfl)
theorem U.g_after_write (u : U K mg) : mg "after_write" = some (.ref (He.ga K "after_write")) := let ⟨_, X, G⟩ := u.ex; He.glo_ok X G (u.c.fact 15 rfl)
theorem U.g_after_clearing (u : U K mg) : mg "after_clearing" = some (.ref (He.ga K "after_clearing")) := let ⟨_, X, G⟩ := u.ex; He.glo_ok X G (u.c.fact 16 rfl)
theorem U.g__law_model (u : U K mg) : mg "_law_model" = some (.ref (He.ga K "_law_model")) := let ⟨_, X, G⟩ := u.ex; He.glo_ok X G (u.c.fact 17 rfl)
theorem U.g__law_write (u : U K mg) : mg "_law_write" = some (.ref (He.ga K "_law_write")) := let ⟨_, X, G⟩ := u.ex; He.glo_ok X G (u.c.fact 18 rfl)
theorem U.g__law_arrive (u : U K mg) : mg "_law_arrive" = some (.ref (He.ga K "_law_arrive")) := let ⟨_, X, G⟩ := u.ex; He.glo_ok X G (u.c.fact 19 rfl)
theorem U.g__law_fire (u : U K mg) : mg "_law_fire" = some (.ref (He.ga K "_law_fire")) := let ⟨_, X, G⟩ := u.ex; He.glo_ok X G (u.c.fact 20 rfl)
theorem U.g__law_over (u : U K mg) : mg "_law_over" = some (.ref (He.ga K "_law_over")) := let ⟨_, X, G⟩ := u.ex; He.glo_ok X G (u.c.fact 21 rfl)
theorem U.g__law_order (u : U K mg) : mg "_law_order" = some (.ref (He.ga K "_law_order")) := let ⟨_, X, G⟩ := u.ex; He.glo_ok X G (u.c.fact 22 rfl)
theorem U.g_is_write (u : U K mg) : mg "is_write" = some (.ref (He.ga K "is_write")) := let ⟨_, X, G⟩ := u.ex; He.glo_ok X G (u.c.fact 23 rfl)
theorem U.g_after_turn (u : U K mg) : mg "after_turn" = some (.ref (He.ga K "after_turn")) := let ⟨_, X, G⟩ := u.ex; He.glo_ok X G (u.c.fact 24 rfl)
theorem U.g__law_events (u : U K mg) : mg "_law_events" = some (.ref (He.ga K "_law_events")) := let ⟨_, X, G⟩ := u.ex; He.glo_ok X G (u.c.fact 25 rfl)
theorem U.g__law_do (u : U K mg) : mg "_law_do" = some (.ref (He.ga K "_law_do")) := let ⟨_, X, G⟩ := u.ex; He.glo_ok X G (u.c.fact 26 rfl)
theorem U.g__law_finished (u : U K mg) : mg "_law_finished" = some (.ref (He.ga K "_law_finished")) := let ⟨_, X, G⟩ := u.ex; He.glo_ok X G (u.c.fact 27 rfl)
theorem U.g__law_noted (u : U K mg) : mg "_law_noted" = some (.ref (He.ga K "_law_noted")) := let ⟨_, X, G⟩ := u.ex; He.glo_ok X G (u.c.fact 28 rfl)
theorem U.g_check (u : U K mg) : mg "check" = some (.ref (He.ga K "check")) := let ⟨_, X, G⟩ := u.ex; He.glo_ok X G (u.c.fact 29 rfl)
theorem U.g__law_settle (u : U K mg) : mg "_law_settle" = some (.ref (He.ga K "_law_settle")) := let ⟨_, X, G⟩ := u.ex; He.glo_ok X G (u.c.fact 30 rfl)
theorem U.g__law_counted (u : U K mg) : mg "_law_counted" = some (.ref (He.ga K "_law_counted")) := let ⟨_, X, G⟩ := u.ex; He.glo_ok X G (u.c.fact 31 rfl)
theorem U.g_normal_order (u : U K mg) : mg "normal_order" = some (.ref (He.ga K "normal_order")) := let ⟨_, X, G⟩ := u.ex; He.glo_ok X G (u.c.fact 32 rfl)
theorem U.g__law_played (u : U K mg) : mg "_law_played" = some (.ref (He.ga K "_law_played")) := let ⟨_, X, G⟩ := u.ex; He.glo_ok X G (u.c.fact 33 rfl)
theorem U.g_outcome (u : U K mg) : mg "outcome" = some (.ref (He.ga K "outcome")) := let ⟨_, X, G⟩ := u.ex; He.glo_ok X G (u.c.fact 34 rfl)
theorem U.g__law_drawn (u : U K mg) : mg "_law_drawn" = some (.ref (He.ga K "_law_drawn")) := let ⟨_, X, G⟩ := u.ex; He.glo_ok X G (u.c.fact 35 rfl)
theorem U.g__law_right (u : U K mg) : mg "_law_right" = some (.ref (He.ga K "_law_right")) := let ⟨_, X, G⟩ := u.ex; He.glo_ok X G (u.c.fact 36 rfl)
theorem U.g_law (u : U K mg) : mg "law" = some (.ref (He.ga K "law")) := let ⟨_, X, G⟩ := u.ex; He.glo_ok X G (u.c.fact 37 rfl)
theorem U.g_Policy (u : U K mg) : mg "Policy" = some (.ref (He.ga K "Policy")) := let ⟨_, X, G⟩ := u.ex; He.glo_ok X G (u.c.fact 38 rfl)
theorem U.g_Setting (u : U K mg) : mg "Setting" = some (.ref (He.ga K "Setting")) := let ⟨_, X, G⟩ := u.ex; He.glo_ok X G (u.c.fact 39 rfl)
theorem U.g_Outcome (u : U K mg) : mg "Outcome" = some (.ref (He.ga K "Outcome")) := let ⟨_, X, G⟩ := u.ex; He.glo_ok X G (u.c.fact 40 rfl)
theorem U.g_Side (u : U K mg) : mg "Side" = some (.ref (He.ga K "Side")) := let ⟨_, X, G⟩ := u.ex; He.glo_ok X G (u.c.fact 41 rfl)
theorem U.g_Draft (u : U K mg) : mg "Draft" = some (.ref (He.ga K "Draft")) := let ⟨_, X, G⟩ := u.ex; He.glo_ok X G (u.c.fact 42 rfl)
theorem U.g_Rules (u : U K mg) : mg "Rules" = some (.ref (He.ga K "Rules")) := let ⟨_, X, G⟩ := u.ex; He.glo_ok X G (u.c.fact 43 rfl)
theorem U.g_Road (u : U K mg) : mg "Road" = some (.ref (He.ga K "Road")) := let ⟨_, X, G⟩ := u.ex; He.glo_ok X G (u.c.fact 44 rfl)
theorem U.g_MODES (u : U K mg) : mg "MODES" = some (.ref (He.ga K "MODES")) := let ⟨_, X, G⟩ := u.ex; He.glo_ok X G (u.c.fact 45 rfl)
theorem U.g_ARRIVALS (u : U K mg) : mg "ARRIVALS" = some (.ref (He.ga K "ARRIVALS")) := let ⟨_, X, G⟩ := u.ex; He.glo_ok X G (u.c.fact 46 rfl)
theorem U.n_len (u : U K mg) : mg "len" = none := let ⟨_, X, G⟩ := u.ex; He.free_ok X G (u.c.fact 47 rfl)
theorem U.n_range (u : U K mg) : mg "range" = none := let ⟨_, X, G⟩ := u.ex; He.free_ok X G (u.c.fact 48 rfl)
theorem U.n_isinstance (u : U K mg) : mg "isinstance" = none := let ⟨_, X, G⟩ := u.ex; He.free_ok X G (u.c.fact 49 rfl)
theorem U.n_str (u : U K mg) : mg "str" = none := let ⟨_, X, G⟩ := u.ex; He.free_ok X G (u.c.fact 50 rfl)
theorem U.n_list (u : U K mg) : mg "list" = none := let ⟨_, X, G⟩ := u.ex; He.free_ok X G (u.c.fact 51 rfl)
theorem U.n_tuple (u : U K mg) : mg "tuple" = none := let ⟨_, X, G⟩ := u.ex; He.free_ok X G (u.c.fact 52 rfl)
theorem U.n_int (u : U K mg) : mg "int" = none := let ⟨_, X, G⟩ := u.ex; He.free_ok X G (u.c.fact 53 rfl)
theorem U.n_bool (u : U K mg) : mg "bool" = none := let ⟨_, X, G⟩ := u.ex; He.free_ok X G (u.c.fact 54 rfl)
theorem U.n_enumerate (u : U K mg) : mg "enumerate" = none := let ⟨_, X, G⟩ := u.ex; He.free_ok X G (u.c.fact 55 rfl)
theorem U.n_zip (u : U K mg) : mg "zip" = none := let ⟨_, X, G⟩ := u.ex; He.free_ok X G (u.c.fact 56 rfl)
theorem U.n_sum (u : U K mg) : mg "sum" = none := let ⟨_, X, G⟩ := u.ex; He.free_ok X G (u.c.fact 57 rfl)
theorem U.n_max (u : U K mg) : mg "max" = none := let ⟨_, X, G⟩ := u.ex; He.free_ok X G (u.c.fact 58 rfl)
theorem U.n_min (u : U K mg) : mg "min" = none := let ⟨_, X, G⟩ := u.ex; He.free_ok X G (u.c.fact 59 rfl)
theorem U.n_abs (u : U K mg) : mg "abs" = none := let ⟨_, X, G⟩ := u.ex; He.free_ok X G (u.c.fact 60 rfl)
theorem U.n_divmod (u : U K mg) : mg "divmod" = none := let ⟨_, X, G⟩ := u.ex; He.free_ok X G (u.c.fact 61 rfl)
theorem U.n_all (u : U K mg) : mg "all" = none := let ⟨_, X, G⟩ := u.ex; He.free_ok X G (u.c.fact 62 rfl)
theorem U.k_MOST_EVERY (u : U K mg) : ∃ t, mg "MOST_EVERY" = some (.int 9 t) := let ⟨_, X, G⟩ := u.ex; He.int_ok X G (u.c.fact 63 rfl)
theorem U.k_MOST_QUICK (u : U K mg) : ∃ t, mg "MOST_QUICK" = some (.int 4 t) := let ⟨_, X, G⟩ := u.ex; He.int_ok X G (u.c.fact 64 rfl)
theorem U.k_MOST_SIZE (u : U K mg) : ∃ t, mg "MOST_SIZE" = some (.int 1000000000000000000 t) := let ⟨_, X, G⟩ := u.ex; He.int_ok X G (u.c.fact 65 rfl)
theorem U.k_MOST_WRITES (u : U K mg) : ∃ t, mg "MOST_WRITES" = some (.int 200 t) := let ⟨_, X, G⟩ := u.ex; He.int_ok X G (u.c.fact 66 rfl)
theorem U.k_MOST_LENGTH (u : U K mg) : ∃ t, mg "MOST_LENGTH" = some (.int 1000000000000000000 t) := let ⟨_, X, G⟩ := u.ex; He.int_ok X G (u.c.fact 67 rfl)
theorem U.k_MOST_SEGMENTS (u : U K mg) : ∃ t, mg "MOST_SEGMENTS" = some (.int 300 t) := let ⟨_, X, G⟩ := u.ex; He.int_ok X G (u.c.fact 68 rfl)
theorem U.k_WRITE (u : U K mg) : ∃ t, mg "WRITE" = some (.str "write" t) := let ⟨_, X, G⟩ := u.ex; He.str_ok X G (u.c.fact 69 rfl)
theorem U.k_TIMER (u : U K mg) : ∃ t, mg "TIMER" = some (.str "timer" t) := let ⟨_, X, G⟩ := u.ex; He.str_ok X G (u.c.fact 70 rfl)
theorem U.c_Policy (u : U K mg) : Cls K (He.ga K "Policy") := He.cls_ok (u.c.fact 71 rfl)
theorem U.mk_Policy (u : U K mg) : Mk K (He.ga K "Policy") (He.ma K (He.ga K "Policy") "__init__") := He.mkr_ok (u.c.fact 72 rfl)
theorem U.a_Policy_hold (u : U K mg) : NoAttr K (He.ga K "Policy") "hold" := He.noat_ok (u.c.fact 73 rfl)
theorem U.a_Policy_every (u : U K mg) : NoAttr K (He.ga K "Policy") "every" := He.noat_ok (u.c.fact 74 rfl)
theorem U.a_Policy_quick (u : U K mg) : NoAttr K (He.ga K "Policy") "quick" := He.noat_ok (u.c.fact 75 rfl)
theorem U.c_Setting (u : U K mg) : Cls K (He.ga K "Setting") := He.cls_ok (u.c.fact 76 rfl)
theorem U.mk_Setting (u : U K mg) : Mk K (He.ga K "Setting") (He.ma K (He.ga K "Setting") "__init__") := He.mkr_ok (u.c.fact 77 rfl)
theorem U.a_Setting_size (u : U K mg) : NoAttr K (He.ga K "Setting") "size" := He.noat_ok (u.c.fact 78 rfl)
theorem U.a_Setting_policies (u : U K mg) : NoAttr K (He.ga K "Setting") "policies" := He.noat_ok (u.c.fact 79 rfl)
theorem U.c_Outcome (u : U K mg) : Cls K (He.ga K "Outcome") := He.cls_ok (u.c.fact 80 rfl)
theorem U.mk_Outcome (u : U K mg) : Mk K (He.ga K "Outcome") (He.ma K (He.ga K "Outcome") "__init__") := He.mkr_ok (u.c.fact 81 rfl)
theorem U.a_Outcome_stalls (u : U K mg) : NoAttr K (He.ga K "Outcome") "stalls" := He.noat_ok (u.c.fact 82 rfl)
theorem U.a_Outcome_segments (u : U K mg) : NoAttr K (He.ga K "Outcome") "segments" := He.noat_ok (u.c.fact 83 rfl)
theorem U.a_Outcome_acknowledgments (u : U K mg) : NoAttr K (He.ga K "Outcome") "acknowledgments" := He.noat_ok (u.c.fact 84 rfl)
theorem U.a_Outcome_stalled (u : U K mg) : NoAttr K (He.ga K "Outcome") "stalled" := He.noat_ok (u.c.fact 85 rfl)
theorem U.c_Side (u : U K mg) : Cls K (He.ga K "Side") := He.cls_ok (u.c.fact 86 rfl)
theorem U.mk_Side (u : U K mg) : Mk K (He.ga K "Side") (He.ma K (He.ga K "Side") "__init__") := He.mkr_ok (u.c.fact 87 rfl)
theorem U.a_Side_waiting (u : U K mg) : NoAttr K (He.ga K "Side") "waiting" := He.noat_ok (u.c.fact 88 rfl)
theorem U.a_Side_corked (u : U K mg) : NoAttr K (He.ga K "Side") "corked" := He.noat_ok (u.c.fact 89 rfl)
theorem U.a_Side_out (u : U K mg) : NoAttr K (He.ga K "Side") "out" := He.noat_ok (u.c.fact 90 rfl)
theorem U.a_Side_covered (u : U K mg) : NoAttr K (He.ga K "Side") "covered" := He.noat_ok (u.c.fact 91 rfl)
theorem U.a_Side_heard (u : U K mg) : NoAttr K (He.ga K "Side") "heard" := He.noat_ok (u.c.fact 92 rfl)
theorem U.a_Side_fulls (u : U K mg) : NoAttr K (He.ga K "Side") "fulls" := He.noat_ok (u.c.fact 93 rfl)
theorem U.a_Side_arrived (u : U K mg) : NoAttr K (He.ga K "Side") "arrived" := He.noat_ok (u.c.fact 94 rfl)
theorem U.a_Side_mark (u : U K mg) : NoAttr K (He.ga K "Side") "mark" := He.noat_ok (u.c.fact 95 rfl)
theorem U.c_Draft (u : U K mg) : Cls K (He.ga K "Draft") := He.cls_ok (u.c.fact 96 rfl)
theorem U.mk_Draft (u : U K mg) : Mk K (He.ga K "Draft") (He.ma K (He.ga K "Draft") "__init__") := He.mkr_ok (u.c.fact 97 rfl)
theorem U.a_Draft_setting (u : U K mg) : NoAttr K (He.ga K "Draft") "setting" := He.noat_ok (u.c.fact 98 rfl)
theorem U.a_Draft_made (u : U K mg) : NoAttr K (He.ga K "Draft") "made" := He.noat_ok (u.c.fact 99 rfl)
theorem U.a_Draft_stalls (u : U K mg) : NoAttr K (He.ga K "Draft") "stalls" := He.noat_ok (u.c.fact 100 rfl)
theorem U.a_Draft_sides (u : U K mg) : NoAttr K (He.ga K "Draft") "sides" := He.noat_ok (u.c.fact 101 rfl)
theorem U.a_Draft_ways (u : U K mg) : NoAttr K (He.ga K "Draft") "ways" := He.noat_ok (u.c.fact 102 rfl)
theorem U.c_Rules (u : U K mg) : Cls K (He.ga K "Rules") := He.cls_ok (u.c.fact 103 rfl)
theorem U.mk_Rules (u : U K mg) : Mk K (He.ga K "Rules") (He.ma K (He.ga K "Rules") "__init__") := He.mkr_ok (u.c.fact 104 rfl)
theorem U.a_Rules_setting (u : U K mg) : NoAttr K (He.ga K "Rules") "setting" := He.noat_ok (u.c.fact 105 rfl)
theorem U.a_Rules_writes (u : U K mg) : NoAttr K (He.ga K "Rules") "writes" := He.noat_ok (u.c.fact 106 rfl)
theorem U.a_Rules_given (u : U K mg) : NoAttr K (He.ga K "Rules") "given" := He.noat_ok (u.c.fact 107 rfl)
theorem U.c_Road (u : U K mg) : Cls K (He.ga K "Road") := He.cls_ok (u.c.fact 108 rfl)
theorem U.mk_Road (u : U K mg) : Mk K (He.ga K "Road") (He.ma K (He.ga K "Road") "__init__") := He.mkr_ok (u.c.fact 109 rfl)
theorem U.a_Road_rules (u : U K mg) : NoAttr K (He.ga K "Road") "rules" := He.noat_ok (u.c.fact 110 rfl)
theorem U.a_Road_scenes (u : U K mg) : NoAttr K (He.ga K "Road") "scenes" := He.noat_ok (u.c.fact 111 rfl)
theorem U.a_Road_deeds (u : U K mg) : NoAttr K (He.ga K "Road") "deeds" := He.noat_ok (u.c.fact 112 rfl)
theorem U.a_Road_floor (u : U K mg) : NoAttr K (He.ga K "Road") "floor" := He.noat_ok (u.c.fact 113 rfl)
theorem U.m_Side_packed (u : U K mg) : Meth K (He.ga K "Side") "packed" (He.ma K (He.ga K "Side") "packed") := He.meth_ok (u.c.fact 114 rfl)
theorem U.m_Side_permits (u : U K mg) : Meth K (He.ga K "Side") "permits" (He.ma K (He.ga K "Side") "permits") := He.meth_ok (u.c.fact 115 rfl)
theorem U.m_Draft_send (u : U K mg) : Meth K (He.ga K "Draft") "send" (He.ma K (He.ga K "Draft") "send") := He.meth_ok (u.c.fact 116 rfl)
theorem U.m_Rules_first (u : U K mg) : Meth K (He.ga K "Rules") "first" (He.ma K (He.ga K "Rules") "first") := He.meth_ok (u.c.fact 117 rfl)
theorem U.m_Rules_heard_all (u : U K mg) : Meth K (He.ga K "Rules") "heard_all" (He.ma K (He.ga K "Rules") "heard_all") := He.meth_ok (u.c.fact 118 rfl)
theorem U.m_Road_log (u : U K mg) : Meth K (He.ga K "Road") "log" (He.ma K (He.ga K "Road") "log") := He.meth_ok (u.c.fact 119 rfl)
theorem U.m_Road_way_from (u : U K mg) : Meth K (He.ga K "Road") "way_from" (He.ma K (He.ga K "Road") "way_from") := He.meth_ok (u.c.fact 120 rfl)
theorem U.m_Draft_packed (u : U K mg) : Meth K (He.ga K "Draft") "packed" (He.ma K (He.ga K "Draft") "packed") := He.meth_ok (u.c.fact 121 rfl)
theorem U.m_Draft_write (u : U K mg) : Meth K (He.ga K "Draft") "write" (He.ma K (He.ga K "Draft") "write") := He.meth_ok (u.c.fact 122 rfl)
theorem U.m_Draft_arrive (u : U K mg) : Meth K (He.ga K "Draft") "arrive" (He.ma K (He.ga K "Draft") "arrive") := He.meth_ok (u.c.fact 123 rfl)
theorem U.m_Draft_fire (u : U K mg) : Meth K (He.ga K "Draft") "fire" (He.ma K (He.ga K "Draft") "fire") := He.meth_ok (u.c.fact 124 rfl)
theorem U.m_Rules_finished (u : U K mg) : Meth K (He.ga K "Rules") "finished" (He.ma K (He.ga K "Rules") "finished") := He.meth_ok (u.c.fact 125 rfl)
theorem U.m_Rules_possible (u : U K mg) : Meth K (He.ga K "Rules") "possible" (He.ma K (He.ga K "Rules") "possible") := He.meth_ok (u.c.fact 126 rfl)
theorem U.m_Road_possible (u : U K mg) : Meth K (He.ga K "Road") "possible" (He.ma K (He.ga K "Road") "possible") := He.meth_ok (u.c.fact 127 rfl)
theorem U.m_Rules_after (u : U K mg) : Meth K (He.ga K "Rules") "after" (He.ma K (He.ga K "Rules") "after") := He.meth_ok (u.c.fact 128 rfl)
theorem U.m_Road_do (u : U K mg) : Meth K (He.ga K "Road") "do" (He.ma K (He.ga K "Road") "do") := He.meth_ok (u.c.fact 129 rfl)
theorem U.m_Road_clearing (u : U K mg) : Meth K (He.ga K "Road") "clearing" (He.ma K (He.ga K "Road") "clearing") := He.meth_ok (u.c.fact 130 rfl)
theorem U.m_Road_settle (u : U K mg) : Meth K (He.ga K "Road") "settle" (He.ma K (He.ga K "Road") "settle") := He.meth_ok (u.c.fact 131 rfl)
theorem U.m_Road_end_turn (u : U K mg) : Meth K (He.ga K "Road") "end_turn" (He.ma K (He.ga K "Road") "end_turn") := He.meth_ok (u.c.fact 132 rfl)
theorem U.m_Road_play (u : U K mg) : Meth K (He.ga K "Road") "play" (He.ma K (He.ga K "Road") "play") := He.meth_ok (u.c.fact 133 rfl)
theorem U.m_Outcome_bool (u : U K mg) : Meth K (He.ga K "Outcome") "__bool__" (He.ma K (He.ga K "Outcome") "__bool__") := He.meth_ok (u.c.fact 134 rfl)
theorem U.d_is_integer (u : U K mg) : ∃ fd, FunD K "is_integer" "is_integer" (defArgs s_is_integer) (defBody s_is_integer) (defScope s_is_integer) [] [] (He.ga K "is_integer") fd := u.c.def_ 0 (d := Lw.d_is_integer) rfl
theorem U.d_split_turns (u : U K mg) : ∃ fd, FunD K "split_turns" "split_turns" (defArgs s_split_turns) (defBody s_split_turns) (defScope s_split_turns) [] [] (He.ga K "split_turns") fd := u.c.def_ 1 (d := Lw.d_split_turns) rfl
theorem U.d_rules_of (u : U K mg) : ∃ fd, FunD K "rules_of" "rules_of" (defArgs s_rules_of) (defBody s_rules_of) (defScope s_rules_of) [] [] (He.ga K "rules_of") fd := u.c.def_ 2 (d := Lw.d_rules_of) rfl
theorem U.d_with_full (u : U K mg) : ∃ fd, FunD K "with_full" "with_full" (defArgs s_with_full) (defBody s_with_full) (defScope s_with_full) [] [] (He.ga K "with_full") fd := u.c.def_ 3 (d := Lw.d_with_full) rfl
theorem U.d_with_partial (u : U K mg) : ∃ fd, FunD K "with_partial" "with_partial" (defArgs s_with_partial) (defBody s_with_partial) (defScope s_with_partial) [] [] (He.ga K "with_partial") fd := u.c.def_ 4 (d := Lw.d_with_partial) rfl
theorem U.d_Outcome__init (u : U K mg) : ∃ fd, FunD K "__init__" "Outcome.__init__" (defArgs s_Outcome__init) (defBody s_Outcome__init) (defScope s_Outcome__init) [.int 0, .int 0, .int 0, .ref (He.dflAt ("Outcome", some "__init__") 3 K)] [] (He.ma K (He.ga K "Outcome") "__init__") fd := u.c.def_ 5 (d := Lw.d_Outcome__init) rfl
theorem U.d_first_parts (u : U K mg) : ∃ fd, FunD K "first_parts" "first_parts" (defArgs s_first_parts) (defBody s_first_parts) (defScope s_first_parts) [] [] (He.ga K "first_parts") fd := u.c.def_ 6 (d := Lw.d_first_parts) rfl
theorem U.d_first_quick (u : U K mg) : ∃ fd, FunD K "first_quick" "first_quick" (defArgs s_first_quick) (defBody s_first_quick) (defScope s_first_quick) [] [] (He.ga K "first_quick") fd := u.c.def_ 7 (d := Lw.d_first_quick) rfl
theorem U.d_with_quick (u : U K mg) : ∃ fd, FunD K "with_quick" "with_quick" (defArgs s_with_quick) (defBody s_with_quick) (defScope s_with_quick) [] [] (He.ga K "with_quick") fd := u.c.def_ 8 (d := Lw.d_with_quick) rfl
theorem U.d_Side__init (u : U K mg) : ∃ fd, FunD K "__init__" "Side.__init__" (defArgs s_Side__init) (defBody s_Side__init) (defScope s_Side__init) [] [] (He.ma K (He.ga K "Side") "__init__") fd := u.c.def_ 9 (d := Lw.d_Side__init) rfl
theorem U.d_Side_packed (u : U K mg) : ∃ fd, FunD K "packed" "Side.packed" (defArgs s_Side_packed) (defBody s_Side_packed) (defScope s_Side_packed) [] [] (He.ma K (He.ga K "Side") "packed") fd := u.c.def_ 10 (d := Lw.d_Side_packed) rfl
theorem U.d_Side_permits (u : U K mg) : ∃ fd, FunD K "permits" "Side.permits" (defArgs s_Side_permits) (defBody s_Side_permits) (defScope s_Side_permits) [] [] (He.ma K (He.ga K "Side") "permits") fd := u.c.def_ 11 (d := Lw.d_Side_permits) rfl
theorem U.d_Draft_send (u : U K mg) : ∃ fd, FunD K "send" "Draft.send" (defArgs s_Draft_send) (defBody s_Draft_send) (defScope s_Draft_send) [] [] (He.ma K (He.ga K "Draft") "send") fd := u.c.def_ 12 (d := Lw.d_Draft_send) rfl
theorem U.d_Rules_first (u : U K mg) : ∃ fd, FunD K "first" "Rules.first" (defArgs s_Rules_first) (defBody s_Rules_first) (defScope s_Rules_first) [] [] (He.ma K (He.ga K "Rules") "first") fd := u.c.def_ 13 (d := Lw.d_Rules_first) rfl
theorem U.d_Rules_heard_all (u : U K mg) : ∃ fd, FunD K "heard_all" "Rules.heard_all" (defArgs s_Rules_heard_all) (defBody s_Rules_heard_all) (defScope s_Rules_heard_all) [] [] (He.ma K (He.ga K "Rules") "heard_all") fd := u.c.def_ 14 (d := Lw.d_Rules_heard_all) rfl
theorem U.d_Road_log (u : U K mg) : ∃ fd, FunD K "log" "Road.log" (defArgs s_Road_log) (defBody s_Road_log) (defScope s_Road_log) [] [] (He.ma K (He.ga K "Road") "log") fd := u.c.def_ 15 (d := Lw.d_Road_log) rfl
theorem U.d_Road_way_from (u : U K mg) : ∃ fd, FunD K "way_from" "Road.way_from" (defArgs s_Road_way_from) (defBody s_Road_way_from) (defScope s_Road_way_from) [] [] (He.ma K (He.ga K "Road") "way_from") fd := u.c.def_ 16 (d := Lw.d_Road_way_from) rfl
theorem U.d_law_bag (u : U K mg) : ∃ fd, FunD K "_law_bag" "_law_bag" (defArgs s_law_bag) (defBody s_law_bag) (defScope s_law_bag) [] [] (He.ga K "_law_bag") fd := u.c.def_ 17 (d := Lw.d_law_bag) rfl
theorem U.d_law_take (u : U K mg) : ∃ fd, FunD K "_law_take" "_law_take" (defArgs s_law_take) (defBody s_law_take) (defScope s_law_take) [] [] (He.ga K "_law_take") fd := u.c.def_ 18 (d := Lw.d_law_take) rfl
theorem U.d_law_side (u : U K mg) : ∃ fd, FunD K "_law_side" "_law_side" (defArgs s_law_side) (defBody s_law_side) (defScope s_law_side) [] [] (He.ga K "_law_side") fd := u.c.def_ 19 (d := Lw.d_law_side) rfl
theorem U.d_law_send (u : U K mg) : ∃ fd, FunD K "_law_send" "_law_send" (defArgs s_law_send) (defBody s_law_send) (defScope s_law_send) [] [] (He.ga K "_law_send") fd := u.c.def_ 20 (d := Lw.d_law_send) rfl
theorem U.d_law_may_send (u : U K mg) : ∃ fd, FunD K "_law_may_send" "_law_may_send" (defArgs s_law_may_send) (defBody s_law_may_send) (defScope s_law_may_send) [] [] (He.ga K "_law_may_send") fd := u.c.def_ 21 (d := Lw.d_law_may_send) rfl
theorem U.d_law_heard (u : U K mg) : ∃ fd, FunD K "_law_heard" "_law_heard" (defArgs s_law_heard) (defBody s_law_heard) (defScope s_law_heard) [] [] (He.ga K "_law_heard") fd := u.c.def_ 22 (d := Lw.d_law_heard) rfl
theorem U.d_in_range (u : U K mg) : ∃ fd, FunD K "in_range" "in_range" (defArgs s_in_range) (defBody s_in_range) (defScope s_in_range) [] [] (He.ga K "in_range") fd := u.c.def_ 23 (d := Lw.d_in_range) rfl
theorem U.d_after_write (u : U K mg) : ∃ fd, FunD K "after_write" "after_write" (defArgs s_after_write) (defBody s_after_write) (defScope s_after_write) [] [] (He.ga K "after_write") fd := u.c.def_ 24 (d := Lw.d_after_write) rfl
theorem U.d_after_clearing (u : U K mg) : ∃ fd, FunD K "after_clearing" "after_clearing" (defArgs s_after_clearing) (defBody s_after_clearing) (defScope s_after_clearing) [] [] (He.ga K "after_clearing") fd := u.c.def_ 25 (d := Lw.d_after_clearing) rfl
theorem U.d_Draft_packed (u : U K mg) : ∃ fd, FunD K "packed" "Draft.packed" (defArgs s_Draft_packed) (defBody s_Draft_packed) (defScope s_Draft_packed) [] [] (He.ma K (He.ga K "Draft") "packed") fd := u.c.def_ 26 (d := Lw.d_Draft_packed) rfl
theorem U.d_Draft_write (u : U K mg) : ∃ fd, FunD K "write" "Draft.write" (defArgs s_Draft_write) (defBody s_Draft_write) (defScope s_Draft_write) [] [] (He.ma K (He.ga K "Draft") "write") fd := u.c.def_ 27 (d := Lw.d_Draft_write) rfl
theorem U.d_Draft_arrive (u : U K mg) : ∃ fd, FunD K "arrive" "Draft.arrive" (defArgs s_Draft_arrive) (defBody s_Draft_arrive) (defScope s_Draft_arrive) [] [] (He.ma K (He.ga K "Draft") "arrive") fd := u.c.def_ 28 (d := Lw.d_Draft_arrive) rfl
theorem U.d_Draft_fire (u : U K mg) : ∃ fd, FunD K "fire" "Draft.fire" (defArgs s_Draft_fire) (defBody s_Draft_fire) (defScope s_Draft_fire) [] [] (He.ma K (He.ga K "Draft") "fire") fd := u.c.def_ 29 (d := Lw.d_Draft_fire) rfl
theorem U.d_Rules_finished (u : U K mg) : ∃ fd, FunD K "finished" "Rules.finished" (defArgs s_Rules_finished) (defBody s_Rules_finished) (defScope s_Rules_finished) [] [] (He.ma K (He.ga K "Rules") "finished") fd := u.c.def_ 30 (d := Lw.d_Rules_finished) rfl
theorem U.d_law_model (u : U K mg) : ∃ fd, FunD K "_law_model" "_law_model" (defArgs s_law_model) (defBody s_law_model) (defScope s_law_model) [] [] (He.ga K "_law_model") fd := u.c.def_ 31 (d := Lw.d_law_model) rfl
theorem U.d_law_write (u : U K mg) : ∃ fd, FunD K "_law_write" "_law_write" (defArgs s_law_write) (defBody s_law_write) (defScope s_law_write) [] [] (He.ga K "_law_write") fd := u.c.def_ 32 (d := Lw.d_law_write) rfl
theorem U.d_law_arrive (u : U K mg) : ∃ fd, FunD K "_law_arrive" "_law_arrive" (defArgs s_law_arrive) (defBody s_law_arrive) (defScope s_law_arrive) [] [] (He.ga K "_law_arrive") fd := u.c.def_ 33 (d := Lw.d_law_arrive) rfl
theorem U.d_law_fire (u : U K mg) : ∃ fd, FunD K "_law_fire" "_law_fire" (defArgs s_law_fire) (defBody s_law_fire) (defScope s_law_fire) [] [] (He.ga K "_law_fire") fd := u.c.def_ 34 (d := Lw.d_law_fire) rfl
theorem U.d_law_over (u : U K mg) : ∃ fd, FunD K "_law_over" "_law_over" (defArgs s_law_over) (defBody s_law_over) (defScope s_law_over) [] [] (He.ga K "_law_over") fd := u.c.def_ 35 (d := Lw.d_law_over) rfl
theorem U.d_law_order (u : U K mg) : ∃ fd, FunD K "_law_order" "_law_order" (defArgs s_law_order) (defBody s_law_order) (defScope s_law_order) [] [] (He.ga K "_law_order") fd := u.c.def_ 36 (d := Lw.d_law_order) rfl
theorem U.d_Policy__init (u : U K mg) : ∃ fd, FunD K "__init__" "Policy.__init__" (defArgs s_Policy__init) (defBody s_Policy__init) (defScope s_Policy__init) [.str "all"] [("every", .int 2), ("quick", .int 0)] (He.ma K (He.ga K "Policy") "__init__") fd := u.c.def_ 37 (d := Lw.d_Policy__init) rfl
theorem U.d_is_write (u : U K mg) : ∃ fd, FunD K "is_write" "is_write" (defArgs s_is_write) (defBody s_is_write) (defScope s_is_write) [] [] (He.ga K "is_write") fd := u.c.def_ 38 (d := Lw.d_is_write) rfl
theorem U.d_after_turn (u : U K mg) : ∃ fd, FunD K "after_turn" "after_turn" (defArgs s_after_turn) (defBody s_after_turn) (defScope s_after_turn) [] [] (He.ga K "after_turn") fd := u.c.def_ 39 (d := Lw.d_after_turn) rfl
theorem U.d_Draft__init (u : U K mg) : ∃ fd, FunD K "__init__" "Draft.__init__" (defArgs s_Draft__init) (defBody s_Draft__init) (defScope s_Draft__init) [] [] (He.ma K (He.ga K "Draft") "__init__") fd := u.c.def_ 40 (d := Lw.d_Draft__init) rfl
theorem U.d_Rules_possible (u : U K mg) : ∃ fd, FunD K "possible" "Rules.possible" (defArgs s_Rules_possible) (defBody s_Rules_possible) (defScope s_Rules_possible) [] [] (He.ma K (He.ga K "Rules") "possible") fd := u.c.def_ 41 (d := Lw.d_Rules_possible) rfl
theorem U.d_law_events (u : U K mg) : ∃ fd, FunD K "_law_events" "_law_events" (defArgs s_law_events) (defBody s_law_events) (defScope s_law_events) [] [] (He.ga K "_law_events") fd := u.c.def_ 42 (d := Lw.d_law_events) rfl
theorem U.d_law_do (u : U K mg) : ∃ fd, FunD K "_law_do" "_law_do" (defArgs s_law_do) (defBody s_law_do) (defScope s_law_do) [] [] (He.ga K "_law_do") fd := u.c.def_ 43 (d := Lw.d_law_do) rfl
theorem U.d_law_finished (u : U K mg) : ∃ fd, FunD K "_law_finished" "_law_finished" (defArgs s_law_finished) (defBody s_law_finished) (defScope s_law_finished) [] [] (He.ga K "_law_finished") fd := u.c.def_ 44 (d := Lw.d_law_finished) rfl
theorem U.d_law_noted (u : U K mg) : ∃ fd, FunD K "_law_noted" "_law_noted" (defArgs s_law_noted) (defBody s_law_noted) (defScope s_law_noted) [] [] (He.ga K "_law_noted") fd := u.c.def_ 45 (d := Lw.d_law_noted) rfl
theorem U.d_check (u : U K mg) : ∃ fd, FunD K "check" "check" (defArgs s_check) (defBody s_check) (defScope s_check) [] [] (He.ga K "check") fd := u.c.def_ 46 (d := Lw.d_check) rfl
theorem U.d_Road_possible (u : U K mg) : ∃ fd, FunD K "possible" "Road.possible" (defArgs s_Road_possible) (defBody s_Road_possible) (defScope s_Road_possible) [] [] (He.ma K (He.ga K "Road") "possible") fd := u.c.def_ 47 (d := Lw.d_Road_possible) rfl
theorem U.d_law_settle (u : U K mg) : ∃ fd, FunD K "_law_settle" "_law_settle" (defArgs s_law_settle) (defBody s_law_settle) (defScope s_law_settle) [] [] (He.ga K "_law_settle") fd := u.c.def_ 48 (d := Lw.d_law_settle) rfl
theorem U.d_law_counted (u : U K mg) : ∃ fd, FunD K "_law_counted" "_law_counted" (defArgs s_law_counted) (defBody s_law_counted) (defScope s_law_counted) [] [] (He.ga K "_law_counted") fd := u.c.def_ 49 (d := Lw.d_law_counted) rfl
theorem U.d_Setting__init (u : U K mg) : ∃ fd, FunD K "__init__" "Setting.__init__" (defArgs s_Setting__init) (defBody s_Setting__init) (defScope s_Setting__init) [] [] (He.ma K (He.ga K "Setting") "__init__") fd := u.c.def_ 50 (d := Lw.d_Setting__init) rfl
theorem U.d_normal_order (u : U K mg) : ∃ fd, FunD K "normal_order" "normal_order" (defArgs s_normal_order) (defBody s_normal_order) (defScope s_normal_order) [] [] (He.ga K "normal_order") fd := u.c.def_ 51 (d := Lw.d_normal_order) rfl
theorem U.d_Rules__init (u : U K mg) : ∃ fd, FunD K "__init__" "Rules.__init__" (defArgs s_Rules__init) (defBody s_Rules__init) (defScope s_Rules__init) [] [] (He.ma K (He.ga K "Rules") "__init__") fd := u.c.def_ 52 (d := Lw.d_Rules__init) rfl
theorem U.d_Rules_after (u : U K mg) : ∃ fd, FunD K "after" "Rules.after" (defArgs s_Rules_after) (defBody s_Rules_after) (defScope s_Rules_after) [] [] (He.ma K (He.ga K "Rules") "after") fd := u.c.def_ 53 (d := Lw.d_Rules_after) rfl
theorem U.d_law_played (u : U K mg) : ∃ fd, FunD K "_law_played" "_law_played" (defArgs s_law_played) (defBody s_law_played) (defScope s_law_played) [] [] (He.ga K "_law_played") fd := u.c.def_ 54 (d := Lw.d_law_played) rfl
theorem U.d_outcome (u : U K mg) : ∃ fd, FunD K "outcome" "outcome" (defArgs s_outcome) (defBody s_outcome) (defScope s_outcome) [.str "quick"] [] (He.ga K "outcome") fd := u.c.def_ 55 (d := Lw.d_outcome) rfl
theorem U.d_Road_do (u : U K mg) : ∃ fd, FunD K "do" "Road.do" (defArgs s_Road_do) (defBody s_Road_do) (defScope s_Road_do) [] [] (He.ma K (He.ga K "Road") "do") fd := u.c.def_ 56 (d := Lw.d_Road_do) rfl
theorem U.d_Road__init (u : U K mg) : ∃ fd, FunD K "__init__" "Road.__init__" (defArgs s_Road__init) (defBody s_Road__init) (defScope s_Road__init) [] [] (He.ma K (He.ga K "Road") "__init__") fd := u.c.def_ 57 (d := Lw.d_Road__init) rfl
theorem U.d_Road_clearing (u : U K mg) : ∃ fd, FunD K "clearing" "Road.clearing" (defArgs s_Road_clearing) (defBody s_Road_clearing) (defScope s_Road_clearing) [] [] (He.ma K (He.ga K "Road") "clearing") fd := u.c.def_ 58 (d := Lw.d_Road_clearing) rfl
theorem U.d_law_drawn (u : U K mg) : ∃ fd, FunD K "_law_drawn" "_law_drawn" (defArgs s_law_drawn) (defBody s_law_drawn) (defScope s_law_drawn) [] [] (He.ga K "_law_drawn") fd := u.c.def_ 59 (d := Lw.d_law_drawn) rfl
theorem U.d_Road_settle (u : U K mg) : ∃ fd, FunD K "settle" "Road.settle" (defArgs s_Road_settle) (defBody s_Road_settle) (defScope s_Road_settle) [] [] (He.ma K (He.ga K "Road") "settle") fd := u.c.def_ 60 (d := Lw.d_Road_settle) rfl
theorem U.d_Road_end_turn (u : U K mg) : ∃ fd, FunD K "end_turn" "Road.end_turn" (defArgs s_Road_end_turn) (defBody s_Road_end_turn) (defScope s_Road_end_turn) [] [] (He.ma K (He.ga K "Road") "end_turn") fd := u.c.def_ 61 (d := Lw.d_Road_end_turn) rfl
theorem U.d_Road_play (u : U K mg) : ∃ fd, FunD K "play" "Road.play" (defArgs s_Road_play) (defBody s_Road_play) (defScope s_Road_play) [.str "quick"] [] (He.ma K (He.ga K "Road") "play") fd := u.c.def_ 62 (d := Lw.d_Road_play) rfl
theorem U.d_law_right (u : U K mg) : ∃ fd, FunD K "_law_right" "_law_right" (defArgs s_law_right) (defBody s_law_right) (defScope s_law_right) [] [] (He.ga K "_law_right") fd := u.c.def_ 63 (d := Lw.d_law_right) rfl
theorem U.d_law (u : U K mg) : ∃ fd, FunD K "law" "law" (defArgs s_law) (defBody s_law) (defScope s_law) [] [] (He.ga K "law") fd := u.c.def_ 64 (d := Lw.d_law) rfl
theorem U.d_Outcome__bool (u : U K mg) : ∃ fd, FunD K "__bool__" "Outcome.__bool__" (defArgs s_Outcome__bool) (defBody s_Outcome__bool) (defScope s_Outcome__bool) [] [] (He.ma K (He.ga K "Outcome") "__bool__") fd := u.c.def_ 65 (d := Lw.d_Outcome__bool) rfl
theorem U.d_Road_is_over (u : U K mg) : ∃ fd, FunD K "is_over" "Road.is_over" (defArgs s_Road_is_over) (defBody s_Road_is_over) (defScope s_Road_is_over) [] [] (overG K) fd := funD_at (d := Lw.d_Road_is_over) u.o (He.ba (He.ba (He.ba (He.ba (He.ba u.b).2).2).2).2).2
end
end Lw
namespace LwHead
open PySem PySem.W PySem.Calls PyProof.Rows Lw
abbrev RR : OpenRow := OpenLaw.row PySem.Challenge.rw_latewords_k31_whole_states_and_roads
def names0 : List PySem.Str := ["_wall", "LatewordsError", "BadSetting", "BadWrite", "BadOrder", "NotPossible", "TooLong", "MOST_EVERY", "MOST_QUICK", "MOST_SIZE", "is_integer", "in_range", "Policy", "Setting", "MODES", "MOST_WRITES", "MOST_LENGTH", "is_write", "check", "split_turns", "normal_order", "rules_of", "with_full", "with_partial", "after_write", "after_clearing", "after_turn", "Outcome", "first_parts", "first_quick"]
def names1 : List PySem.Str := ["with_quick", "outcome", "WRITE", "TIMER", "ARRIVALS", "MOST_SEGMENTS", "Side", "Draft", "Rules", "Road", "_law_bag", "_law_take", "_law_side", "_law_model", "_law_send", "_law_may_send", "_law_write", "_law_arrive", "_law_fire", "_law_heard", "_law_over", "_law_events", "_law_do", "_law_order", "_law_finished", "_law_settle", "_law_noted", "_law_played", "_law_drawn", "_law_counted"]
def names2 : List PySem.Str := ["_law_right"]
def names : List PySem.Str := names0 ++ names1 ++ names2
def ob (s : SharedT) : AlY := obsY (HandSHeadRun.getT s)
theorem ob_eq (s : SharedT) : ob s = hookY.obs s.abs := obsY_eq (HandSHeadRun.getT_eq s)
theorem hrun (w : World) : HandSHeadRun.RunEq RR (view RR.prog [68]) hookY ob 30000 names w := by
  intro os
  kernel_rfl
end LwHead
/-! LwA: the pure event model, the pure states. -/
namespace Lw
inductive Hold where | off | part | all
  deriving DecidableEq
inductive Mode where | plain | push | more
  deriving DecidableEq
structure Rule where
  hold : Hold
  every : Int
  quick : Int
structure Word where
  who : Bool
  len : Int
  how : Mode
structure Cfg where
  size : Int
  rule : Bool → Rule
  words : List Word
structure Side where
  rest : Int
  kept : Bool
  sent : Int
  told : Int
  got : Int
  fulls : Int
  came : Int
  mark : Int
/-- the model; bare is a ghost: how many bare acknowledgments were sent -/
structure Mo where
  made : Nat
  stalls : Int
  side : Bool → Side
  way : Bool → List (Int × Int)
  bare : Nat
inductive Ev where | write | arr (b : Bool) | timer
  deriving DecidableEq
def side0 : Side := ⟨0, false, 0, 0, 0, 0, 0, 0⟩
def mo0 : Mo := ⟨0, 0, fun _ => side0, fun _ => [], 0⟩
def fset {α : Type} (f : Bool → α) (b : Bool) (x : α) : Bool → α := fun c => if c = b then x else f c
theorem fset_same {α : Type} (f : Bool → α) (b : Bool) (x : α) : fset f b x b = x := by simp [fset]
theorem fset_ne {α : Type} (f : Bool → α) {b c : Bool} (x : α) (h : c ≠ b) : fset f b x c = f c := by simp [fset, h]
theorem fset_not {α : Type} (f : Bool → α) (b : Bool) (x : α) : fset f b x (!b) = f (!b) := by cases b <;> simp [fset]
theorem fset_not' {α : Type} (f : Bool → α) (b : Bool) (x : α) : fset f (!b) x b = f b := by cases b <;> simp [fset]
theorem not_ne (b : Bool) : (!b) ≠ b := by cases b <;> decide
theorem ne_not (b : Bool) : b ≠ (!b) := by cases b <;> decide

/-! ### events -/
def sendS (size count : Int) (s : Side) : Side :=
  { s with rest := s.rest - count, sent := s.sent + count, fulls := 0,
           mark := if 0 < count ∧ count < size then s.sent + count else s.mark,
           kept := if 0 < count ∧ count < size then false else s.kept }
def send (c : Cfg) (b : Bool) (count : Int) (m : Mo) : Mo :=
  { m with side := fset m.side b (sendS c.size count (m.side b)),
           way := fset m.way b (m.way b ++ [(count, (m.side b).got)]),
           bare := m.bare + (if count = 0 then 1 else 0) }
def may (c : Cfg) (b : Bool) (s : Side) : Bool := match (c.rule b).hold with
  | .part => decide (s.mark ≤ s.told)
  | .off => true
  | .all => decide (s.told = s.sent)
def sends (c : Cfg) (b : Bool) : Nat → Mo → Mo
  | 0, m => m
  | n + 1, m => sends c b n (send c b c.size m)
def setSide (m : Mo) (b : Bool) (s : Side) : Mo := { m with side := fset m.side b s }
def wd (c : Cfg) (k : Nat) : Word := c.words.getD k ⟨false, 1, .plain⟩
/-- what a write does behind the loop of full segments -/
def wTail (c : Cfg) (b : Bool) (how : Mode) (m : Mo) : Mo :=
  if (m.side b).rest > 0 ∧ how = .more then setSide m b { m.side b with kept := true }
  else if (m.side b).rest > 0 ∧ (how = .push ∨ may c b (m.side b) = true) then send c b (m.side b).rest m
  else m
def wHead (c : Cfg) (w : Word) (m : Mo) : Mo :=
  { setSide m w.who { m.side w.who with rest := (m.side w.who).rest + w.len, kept := false } with made := m.made + 1 }
def nFull (c : Cfg) (w : Word) (m : Mo) : Nat := (((m.side w.who).rest + w.len) / c.size).toNat
def write (c : Cfg) (m : Mo) : Mo :=
  let w := wd c m.made
  wTail c w.who w.how (sends c w.who (nFull c w m) (wHead c w m))
/-- the effect of the acknowledgment -/
def arrAck (c : Cfg) (b : Bool) (covers : Int) (m : Mo) : Mo :=
  let m1 := setSide m b { m.side b with told := max (m.side b).told covers }
  if (m1.side b).rest > 0 ∧ (m1.side b).kept = false ∧ may c b (m1.side b) = true then send c b (m1.side b).rest m1 else m1
/-- the effect of the bytes -/
def arrGot (c : Cfg) (b : Bool) (count : Int) (m : Mo) : Mo :=
  let s := m.side b
  let s1 : Side := { s with got := s.got + count, came := s.came + 1, fulls := s.fulls + (if count = c.size then 1 else 0) }
  let m1 := setSide m b s1
  if s1.came ≤ (c.rule b).quick ∨ (count = c.size ∧ s1.fulls = (c.rule b).every) then send c b 0 m1 else m1
def arrive (c : Cfg) (a : Bool) (m : Mo) : Mo :=
  match m.way a with
  | [] => m
  | (count, covers) :: r =>
    let m1 := arrAck c (!a) covers { m with way := fset m.way a r }
    if count > 0 then arrGot c (!a) count m1 else m1
def fire (c : Cfg) (m : Mo) : Mo :=
  let b := (wd c (m.made - 1)).who
  let m1 := { m with stalls := m.stalls + 1 }
  if (m.side b).kept = true then send c b (m.side b).rest m1 else send c (!b) 0 m1
/-- what the writes ahead of place k give endpoint b to write -/
def given (c : Cfg) (k : Nat) (b : Bool) : Int := (((c.words.take k).filter fun w => w.who == b).map (·.len)).sum
def heard (c : Cfg) (m : Mo) (b : Bool) : Bool := decide ((m.side b).got = given c m.made (!b))
def over (c : Cfg) (m : Mo) : Bool := decide (m.made = c.words.length) && heard c m false && heard c m true
def canWrite (c : Cfg) (m : Mo) : Bool := decide (m.made < c.words.length) && heard c m (wd c m.made).who
def due (c : Cfg) (m : Mo) : Bool := !over c m && !canWrite c m && decide (m.way false = []) && decide (m.way true = [])
def step (c : Cfg) : Ev → Mo → Mo
  | .write, m => write c m
  | .arr a, m => arrive c a m
  | .timer, m => fire c m

/-! ### the model with its log -/
abbrev ML := Mo × List Ev
def does (c : Cfg) (e : Ev) (x : ML) : ML := (step c e x.1, x.2 ++ [e])
def arrOne (c : Cfg) (a : Bool) (x : ML) : ML := if over c x.1 = true then x else does c (.arr a) x
def arrN (c : Cfg) (a : Bool) : Nat → ML → ML
  | 0, x => x
  | n + 1, x => arrN c a n (arrOne c a x)
def noted (c : Cfg) (x : ML) : ML :=
  if x.1.made = 0 ∨ over c x.1 = true then x else
    let b := (wd c (x.1.made - 1)).who
    let y := arrN c b (x.1.way b).length x
    arrN c (!b) (y.1.way (!b)).length y
def notedN (c : Cfg) : Nat → ML → ML
  | 0, x => x
  | n + 1, x => notedN c n (noted c x)

/-! ### the states of a turn -/
structure Parts where
  rest : Int
  kept : Bool
  blocked : Bool
  stuck : Bool
  pending : Int
  quick : Int
  deriving DecidableEq
/-- (size, hold, every) -/
structure Ru where
  size : Int
  hold : Hold
  every : Int
def withFull (r : Ru) (p : Parts) (many : Int) : Parts × Int :=
  if many = 0 then (p, 0) else
  let soon := min p.quick many
  let late := many - soon
  let pending := if soon > 0 then 0 else p.pending
  let told := if r.every > 0 then soon + (pending + late) / r.every else soon
  let pending := if r.every > 0 then (pending + late) % r.every else pending
  let blocked := if r.hold = .all then true else p.blocked
  let stuck := if r.hold = .all then decide (late > 0) && (decide (r.every = 0) || decide (pending > 0)) else p.stuck
  let stuck := if r.hold = .part then stuck && decide (told = 0) else stuck
  (⟨p.rest, p.kept, blocked, stuck, pending, p.quick - soon⟩, told)
def withPartial (r : Ru) (p : Parts) : Parts × Int :=
  let blocked := decide (r.hold ≠ .off)
  if p.quick > 0 then (⟨0, false, blocked, false, 0, p.quick - 1⟩, 1) else (⟨0, false, blocked, blocked, p.pending, 0⟩, 0)
/-- parts, segments, acknowledgments -/
def afterWrite (r : Ru) (p : Parts) (len : Int) (how : Mode) : Parts × Int × Int :=
  let many := (p.rest + len) / r.size
  let rest := (p.rest + len) % r.size
  let q := withFull r { p with rest := rest, kept := false } many
  if rest > 0 ∧ how = .more then ({ q.1 with rest := rest, kept := true }, many, q.2)
  else if rest > 0 ∧ (how = .push ∨ q.1.blocked = false) then
    let q2 := withPartial r q.1
    (q2.1, many + 1, q.2 + q2.2)
  else (q.1, many, q.2)
def afterClearing (r : Ru) (p : Parts) : Parts × Int × Int :=
  if p.blocked = false ∨ p.stuck = true then (p, 0, 0) else
  let p := { p with blocked := false, stuck := false }
  if p.rest = 0 ∨ p.kept = true then (p, 0, 0) else
  let q := withPartial r p
  (q.1, 1, q.2)
/-- stalls, quick, segments, acknowledgments -/
def afterTurn (r : Ru) (p : Parts) : Int × Int × Int × Int :=
  let a := afterClearing r p
  let b := afterClearing r a.1
  let sg := a.2.1 + b.2.1
  let ac := a.2.2 + b.2.2
  if b.1.rest = 0 then (0, b.1.quick, sg, ac) else
  let timer : Int := if b.1.kept = true then 0 else 1
  let q := withPartial r b.1
  (1, q.1.quick, sg + 1, ac + q.2 + timer)
def parts0 (quick : Int) : Parts := ⟨0, false, false, false, 0, quick⟩
end Lw
/-! LwB: what the listener does with all that is on the way; the relation of a turn; full and partial segments. -/
namespace Lw
structure Rc where
  got : Int
  came : Int
  fulls : Int
  acks : List Int
def rstep (size every first : Int) (r : Rc) (n : Int) : Rc :=
  if r.came + 1 ≤ first ∨ (n = size ∧ r.fulls + (if n = size then 1 else 0) = every) then ⟨r.got + n, r.came + 1, 0, r.acks ++ [r.got + n]⟩
  else ⟨r.got + n, r.came + 1, r.fulls + (if n = size then 1 else 0), r.acks⟩
def run (size every first : Int) (r : Rc) (ws : List Int) : Rc := ws.foldl (rstep size every first) r
theorem run_snoc (a b d : Int) (r : Rc) (ws : List Int) (n : Int) : run a b d r (ws ++ [n]) = rstep a b d (run a b d r ws) n := by
  unfold run; rw [List.foldl_append]; rfl
theorem run_cons (a b d : Int) (r : Rc) (ws : List Int) (n : Int) : run a b d r (n :: ws) = run a b d (rstep a b d r n) ws := rfl
/-- the greatest of what was told and the acknowledgments -/
def top (t : Int) (as : List Int) : Int := as.foldl max t
theorem top_snoc (t : Int) (as : List Int) (a : Int) : top t (as ++ [a]) = max (top t as) a := by
  unfold top; rw [List.foldl_append]; rfl
theorem top_ge (t : Int) (as : List Int) : t ≤ top t as := by
  induction as generalizing t with
  | nil => exact Int.le_refl _
  | cons a as ih => exact Int.le_trans (Int.le_max_left t a) (ih (max t a))
theorem top_le {t g : Int} {as : List Int} (ht : t ≤ g) (h : ∀ a ∈ as, a ≤ g) : top t as ≤ g := by
  induction as generalizing t with
  | nil => exact ht
  | cons a as ih => exact ih (Int.max_le.mpr ⟨ht, h a (List.mem_cons_self)⟩) fun b hb => h b (List.mem_cons_of_mem _ hb)

abbrev every (c : Cfg) (s : Bool) : Int := (c.rule (!s)).every
abbrev first (c : Cfg) (s : Bool) : Int := (c.rule (!s)).quick
abbrev runC (c : Cfg) (s : Bool) (r : Rc) (ws : List Int) : Rc := run c.size (every c s) (first c s) r ws
abbrev rstepC (c : Cfg) (s : Bool) (r : Rc) (n : Int) : Rc := rstep c.size (every c s) (first c s) r n
abbrev rc0 (L : Side) : Rc := ⟨L.got, L.came, L.fulls, []⟩
def ru (c : Cfg) (s : Bool) : Ru := ⟨c.size, (c.rule s).hold, (c.rule (!s)).every⟩

structure CfgOk (c : Cfg) : Prop where
  size : 0 < c.size
  ev0 : ∀ b, 0 ≤ (c.rule b).every
  ev9 : ∀ b, (c.rule b).every ≤ 9
  qk : ∀ b, 0 ≤ (c.rule b).quick
  qk4 : ∀ b, (c.rule b).quick ≤ 4
  len : ∀ w ∈ c.words, 0 < w.len

/-- the relation but for the rest: S the speaker's side, L the listener's, ws on the way, r behind all arrivals, p the parts -/
structure Core (c : Cfg) (s : Bool) (S L : Side) (p : Parts) (ws : List Int) (r : Rc) : Prop where
  run_ : r = runC c s (rc0 L) ws
  pos : ∀ n ∈ ws, 0 < n ∧ n ≤ c.size
  got : r.got = S.sent
  tle : S.told ≤ L.got
  mle : S.mark ≤ S.sent
  ale : ∀ a ∈ r.acks, a ≤ r.got
  lle : L.got ≤ r.got
  blk : p.blocked = !may c s S
  stk : p.stuck = !may c s { S with told := top S.told r.acks }
  pend : p.pending = if every c s = 0 then 0 else r.fulls
  f0 : 0 ≤ r.fulls
  fe : 0 < every c s → r.fulls < every c s
  qk : p.quick = max 0 (first c s - r.came)


/-- one full segment, in plain steps -/
def full1 (r : Ru) (p : Parts) : Parts × Int :=
  if p.quick > 0 ∨ (0 < r.every ∧ p.pending + 1 = r.every) then
    (⟨p.rest, p.kept, if r.hold = .all then true else p.blocked, if r.hold = .off then p.stuck else false, 0, if p.quick > 0 then p.quick - 1 else p.quick⟩, 1)
  else (⟨p.rest, p.kept, if r.hold = .all then true else p.blocked, if r.hold = .all then true else p.stuck, if 0 < r.every then p.pending + 1 else p.pending, p.quick⟩, 0)
structure Valid (r : Ru) (p : Parts) : Prop where
  e0 : 0 ≤ r.every
  e9 : r.every ≤ 9
  q0 : 0 ≤ p.quick
  p0 : 0 ≤ p.pending
  pe : 0 < r.every → p.pending < r.every
  pz : r.every = 0 → p.pending = 0
theorem withFull_zero (r : Ru) (p : Parts) : withFull r p 0 = (p, 0) := by unfold withFull; rw [if_pos rfl]
theorem Valid.full1 {r : Ru} {p : Parts} (v : Valid r p) : Valid r (full1 r p).1 := by
  obtain ⟨e0, e9, q0, p0, pe, pz⟩ := v
  unfold Lw.full1
  split
  · refine ⟨e0, e9, ?_, Int.le_refl _, fun h => h, fun _ => rfl⟩
    show 0 ≤ if p.quick > 0 then p.quick - 1 else p.quick
    split <;> omega
  · rename_i h
    refine ⟨e0, e9, q0, ?_, ?_, ?_⟩
    · show 0 ≤ if 0 < r.every then p.pending + 1 else p.pending
      split <;> omega
    · intro he
      show (if 0 < r.every then p.pending + 1 else p.pending) < r.every
      have := pe he
      rw [if_pos he]; omega
    · intro he
      show (if 0 < r.every then p.pending + 1 else p.pending) = 0
      rw [if_neg (by omega)]; exact pz he
/-- the closed form, one more -/
theorem withFull_succ {r : Ru} {p : Parts} (v : Valid r p) (n : Nat) :
    withFull r p ((n : Int) + 1) = ((full1 r (withFull r p n).1).1, (withFull r p n).2 + (full1 r (withFull r p n).1).2) ∧ Valid r (withFull r p n).1 ∧ 0 ≤ (withFull r p n).2 := by
  have key : ∀ e : Int, 0 < e → e ≤ 9 → ∀ x : Int, 0 ≤ x → (x + 1) / e = x / e + (if x % e + 1 = e then 1 else 0) ∧ (x + 1) % e = if x % e + 1 = e then 0 else x % e + 1 := by
    intro e h1 h2 x hx
    have : e = 1 ∨ e = 2 ∨ e = 3 ∨ e = 4 ∨ e = 5 ∨ e = 6 ∨ e = 7 ∨ e = 8 ∨ e = 9 := by omega
    rcases this with rfl | rfl | rfl | rfl | rfl | rfl | rfl | rfl | rfl <;> (constructor <;> split <;> omega)
  obtain ⟨e0, e9, q0, p0, pe, pz⟩ := id v
  by_cases hn : n = 0
  · subst hn
    rw [show ((0 : Nat) : Int) = 0 from rfl, withFull_zero]
    refine ⟨?_, v, Int.le_refl _⟩
    show _ = ((full1 r p).1, 0 + (full1 r p).2)
    unfold withFull full1
    rw [if_neg (by decide)]
    dsimp only
    by_cases hq : p.quick > 0
    · rw [show min p.quick (0 + 1 : Int) = 1 by omega, if_pos (Or.inl hq), if_pos hq]
      rw [if_pos (show (1 : Int) > 0 by decide)]
      rw [show (0 : Int) + (0 + 1 - 1) = 0 by omega, Int.zero_ediv, Int.zero_emod]
      cases hh : r.hold <;> simp
    · have hq' : p.quick = 0 := by omega
      rw [show min p.quick (0 + 1 : Int) = 0 by omega, if_neg (show ¬ (0 : Int) > 0 by decide)]
      rw [show p.pending + (0 + 1 - 0) = p.pending + 1 by omega]
      by_cases he : 0 < r.every
      · rw [if_pos he, if_pos he]
        have k := key r.every he e9 p.pending p0
        rw [Int.ediv_eq_zero_of_lt p0 (pe he), Int.emod_eq_of_lt p0 (pe he)] at k
        rw [k.1, k.2]
        by_cases hp : p.pending + 1 = r.every
        · rw [if_pos (Or.inr ⟨he, hp⟩), if_pos hp, if_pos hp, if_neg hq]
          have : ¬ r.every = 0 := by omega
          cases hh : r.hold <;> simp [this, hq']
        · rw [if_neg (show ¬ (p.quick > 0 ∨ (0 < r.every ∧ p.pending + 1 = r.every)) by omega), if_neg hp, if_neg hp, if_pos he]
          have : 0 < p.pending + 1 := by omega
          cases hh : r.hold <;> simp [this, hq']
      · have e1 : r.every = 0 := by omega
        rw [if_neg (show ¬ r.every > 0 from he), if_neg (show ¬ r.every > 0 from he), if_neg (show ¬ (p.quick > 0 ∨ (0 < r.every ∧ p.pending + 1 = r.every)) by omega), if_neg he]
        cases hh : r.hold <;> simp [e1, hq']
  · have hn1 : ((n : Int) + 1 = 0) = False := by simp; omega
    have hn2 : ((n : Int) = 0) = False := by simp; omega
    have hv : Valid r (withFull r p n).1 := by
      unfold withFull
      simp only [hn2, if_false]
      refine ⟨e0, e9, ?_, ?_, ?_, ?_⟩
      · show 0 ≤ p.quick - min p.quick n; omega
      · show 0 ≤ if r.every > 0 then ((if min p.quick (n : Int) > 0 then 0 else p.pending) + ((n : Int) - min p.quick n)) % r.every else if min p.quick (n : Int) > 0 then 0 else p.pending
        split
        · exact Int.emod_nonneg _ (by omega)
        · split <;> omega
      · intro he
        show (if r.every > 0 then ((if min p.quick (n : Int) > 0 then 0 else p.pending) + ((n : Int) - min p.quick n)) % r.every else if min p.quick (n : Int) > 0 then 0 else p.pending) < r.every
        rw [if_pos he]
        exact Int.emod_lt_of_pos _ he
      · intro he
        show (if r.every > 0 then ((if min p.quick (n : Int) > 0 then 0 else p.pending) + ((n : Int) - min p.quick n)) % r.every else if min p.quick (n : Int) > 0 then 0 else p.pending) = 0
        rw [if_neg (by omega)]
        have := pz he
        split <;> omega
    have ht : 0 ≤ (withFull r p n).2 := by
      unfold withFull
      simp only [hn2, if_false]
      split
      · rename_i he
        have : 0 ≤ ((if min p.quick (n : Int) > 0 then 0 else p.pending) + ((n : Int) - min p.quick n)) / r.every := by
          refine Int.ediv_nonneg ?_ (by omega)
          split <;> omega
        omega
      · omega
    refine ⟨?_, hv, ht⟩
    unfold full1 withFull
    simp only [hn1, hn2, if_false]
    by_cases hq : p.quick ≥ (n : Int) + 1
    · -- all among the first
      rw [show min p.quick ((n : Int) + 1) = (n : Int) + 1 by omega, show min p.quick (n : Int) = (n : Int) by omega]
      have g1 : (n : Int) + 1 > 0 := by omega
      have g2 : (n : Int) > 0 := by omega
      have g3 : p.quick - (n : Int) > 0 := by omega
      simp only [g1, g2, g3, if_true, true_or, Int.sub_self, Int.add_zero, Int.zero_ediv, Int.zero_emod]
      have g4 : p.quick - ((n : Int) + 1) = p.quick - n - 1 := by omega
      have g5 : ¬ ((n : Int) + 1 = 0) := by omega
      have g6 : ¬ ((n : Int) = 0) := by omega
      rw [g4]
      by_cases he : 0 < r.every
      · cases hh : r.hold <;> simp [he, g5, g6]
      · have e1 : r.every = 0 := by omega
        cases hh : r.hold <;> simp [e1, g5, g6]
    · -- late ones
      have g0 : min p.quick ((n : Int) + 1) = min p.quick (n : Int) := by omega
      rw [g0]
      have g3 : ¬ (p.quick - min p.quick (n : Int) > 0) := by omega
      have g3' : p.quick - min p.quick (n : Int) = 0 := by omega
      have g7 : (n : Int) + 1 - min p.quick (n : Int) > 0 := by omega
      generalize hsn : min p.quick (n : Int) = sn at *
      generalize hpd : (if sn > 0 then 0 else p.pending) = pd at *
      have pd0 : 0 ≤ pd := by rw [← hpd]; split <;> omega
      have x0 : 0 ≤ pd + ((n : Int) - sn) := by omega
      simp only [g3, false_or]
      rw [show pd + ((n : Int) + 1 - sn) = pd + ((n : Int) - sn) + 1 by omega]
      by_cases he : 0 < r.every
      · have k := key r.every he e9 _ x0
        simp only [he, if_true, gt_iff_lt, true_and]
        rw [k.1, k.2]
        have hne : ¬ r.every = 0 := by omega
        have y0 : 0 ≤ (pd + ((n : Int) - sn)) % r.every := Int.emod_nonneg _ (by omega)
        have d0 : 0 ≤ (pd + ((n : Int) - sn)) / r.every := Int.ediv_nonneg x0 (by omega)
        have sn0 : 0 ≤ sn := by omega
        by_cases hp : (pd + ((n : Int) - sn)) % r.every + 1 = r.every
        · simp only [hp, if_true]
          have t1 : ¬ sn + ((pd + ((n : Int) - sn)) / r.every + 1) = 0 := by omega
          cases hh : r.hold <;> simp [hne, g3', t1] <;> omega
        · simp only [hp, if_false]
          have z1 : 0 < (pd + ((n : Int) - sn)) % r.every + 1 := by omega
          cases hh : r.hold <;> simp [hne, z1, g7]
          omega
      · have e1 : r.every = 0 := by omega
        simp only [e1]
        cases hh : r.hold <;> simp
        omega
/-- the parts by what happened: n more were sent by rstep -/
theorem core_valid {c : Cfg} {s : Bool} {S L : Side} {p : Parts} {ws : List Int} {r : Rc} (ok : CfgOk c) (h : Core c s S L p ws r) : Valid (ru c s) p := by
  have e0 := ok.ev0 (!s)
  refine ⟨e0, ok.ev9 (!s), ?_, ?_, ?_, ?_⟩
  · rw [h.qk]; omega
  · rw [h.pend]; have := h.f0; split <;> omega
  · intro he
    have : every c s ≠ 0 := fun q => by have : 0 < every c s := he; omega
    rw [h.pend, if_neg this]; exact h.fe he
  · intro he
    rw [h.pend, if_pos (show every c s = 0 from he)]
/-- one full segment -/
theorem core_full {c : Cfg} {s : Bool} {S L : Side} {p : Parts} {ws : List Int} {r : Rc} (ok : CfgOk c) (h : Core c s S L p ws r) :
    Core c s (sendS c.size c.size S) L (full1 (ru c s) p).1 (ws ++ [c.size]) (rstepC c s r c.size) ∧
    (full1 (ru c s) p).2 + r.acks.length = ((rstepC c s r c.size).acks.length : Int) := by
  have v := core_valid ok h
  obtain ⟨run_, pos, got, tle, mle, ale, lle, blk, stk, pend, f0, fe, qk⟩ := h
  have hs := ok.size
  have e0 := ok.ev0 (!s)
  have hq0 := ok.qk (!s)
  have tt : S.told ≤ top S.told r.acks := top_ge _ _
  have tl : top S.told r.acks ≤ r.got := top_le (Int.le_trans tle lle) ale
  have hrun : rstepC c s r c.size = runC c s (rc0 L) (ws ++ [c.size]) := by
    show rstep _ _ _ r c.size = run _ _ _ _ _
    rw [run_snoc, run_]
  have hpos : ∀ n ∈ ws ++ [c.size], 0 < n ∧ n ≤ c.size := by
    intro n hn
    rcases List.mem_append.mp hn with h | h
    · exact pos n h
    · simp at h; subst h; exact ⟨hs, Int.le_refl _⟩
  have hm : (sendS c.size c.size S).mark = S.mark := by
    show (if 0 < c.size ∧ c.size < c.size then S.sent + c.size else S.mark) = S.mark
    rw [if_neg (by omega)]
  have hsn : (sendS c.size c.size S).sent = S.sent + c.size := rfl
  have hmay : ∀ t, may c s { (sendS c.size c.size S) with told := t } = (match (c.rule s).hold with | .part => decide (S.mark ≤ t) | .off => true | .all => decide (t = S.sent + c.size)) := by
    intro t
    unfold may
    show (match (c.rule s).hold with | .part => decide ((sendS c.size c.size S).mark ≤ t) | .off => true | .all => decide (t = S.sent + c.size)) = _
    rw [hm]
  have hblk : ∀ b : Bool, b = (if (ru c s).hold = .all then true else p.blocked) → b = !may c s (sendS c.size c.size S) := by
    intro b hb
    rw [hb, blk]
    have := hmay S.told
    have e : ({ (sendS c.size c.size S) with told := S.told } : Side) = sendS c.size c.size S := rfl
    rw [e] at this
    rw [this]
    unfold may ru
    cases hh : (c.rule s).hold <;> simp
    omega
  have hle : ∀ a ∈ r.acks, a ≤ r.got + c.size := fun a h => by have := ale a h; omega
  by_cases ha : r.came + 1 ≤ first c s ∨ (r.fulls + 1 = every c s)
  · have er : rstepC c s r c.size = ⟨r.got + c.size, r.came + 1, 0, r.acks ++ [r.got + c.size]⟩ := by
      show rstep _ _ _ r c.size = _
      unfold rstep
      rw [if_pos (by simpa using ha)]
    have ef : full1 (ru c s) p = (⟨p.rest, p.kept, if (ru c s).hold = .all then true else p.blocked, if (ru c s).hold = .off then p.stuck else false, 0, if p.quick > 0 then p.quick - 1 else p.quick⟩, 1) := by
      unfold full1
      rw [if_pos]
      rw [qk, pend]
      rcases ha with ha | ha
      · left; omega
      · by_cases hq : r.came + 1 ≤ first c s
        · left; omega
        · right
          have : every c s ≠ 0 := by omega
          rw [if_neg this]
          exact ⟨show 0 < every c s by omega, ha⟩
    rw [er] at hrun ⊢
    rw [ef]
    have etop : top S.told (r.acks ++ [r.got + c.size]) = r.got + c.size := by rw [top_snoc]; omega
    refine ⟨⟨hrun, hpos, ?_, tle, ?_, ?_, ?_, hblk _ rfl, ?_, ?_, Int.le_refl _, fun h => h, ?_⟩, by simp; omega⟩
    · show r.got + c.size = S.sent + c.size; omega
    · rw [hm, hsn]; omega
    · intro a h
      rcases List.mem_append.mp h with h | h
      · exact hle a h
      · simp at h; subst h; exact Int.le_refl _
    · show L.got ≤ r.got + c.size; omega
    · show _ = !may c s { (sendS c.size c.size S) with told := top S.told (r.acks ++ [r.got + c.size]) }
      rw [hmay, etop]
      show (if (c.rule s).hold = .off then p.stuck else false) = _
      cases hh : (c.rule s).hold
      · simp; rw [stk]; unfold may; rw [hh]; rfl
      · simp; omega
      · simp; omega
    · show (0 : Int) = if every c s = 0 then 0 else 0
      split <;> rfl
    · show (if p.quick > 0 then p.quick - 1 else p.quick) = max 0 (first c s - (r.came + 1))
      rw [qk]; split <;> omega
  · have er : rstepC c s r c.size = ⟨r.got + c.size, r.came + 1, r.fulls + 1, r.acks⟩ := by
      show rstep _ _ _ r c.size = _
      unfold rstep
      rw [if_neg (by simpa using ha), if_pos rfl]
    have hq : ¬ (max 0 (first c s - r.came) > 0) := by omega
    have ef : full1 (ru c s) p = (⟨p.rest, p.kept, if (ru c s).hold = .all then true else p.blocked, if (ru c s).hold = .all then true else p.stuck, if 0 < (ru c s).every then p.pending + 1 else p.pending, p.quick⟩, 0) := by
      unfold full1
      rw [if_neg]
      rw [qk, pend]
      rintro (h | ⟨h1, h2⟩)
      · omega
      · have h1' : 0 < every c s := h1
        have : every c s ≠ 0 := by omega
        rw [if_neg this] at h2
        exact ha (Or.inr h2)
    rw [er] at hrun ⊢
    rw [ef]
    refine ⟨⟨hrun, hpos, ?_, tle, ?_, fun a h => hle a h, ?_, hblk _ rfl, ?_, ?_, ?_, ?_, ?_⟩, by simp⟩
    · show r.got + c.size = S.sent + c.size; omega
    · rw [hm, hsn]; omega
    · show L.got ≤ r.got + c.size; omega
    · show _ = !may c s { (sendS c.size c.size S) with told := top S.told r.acks }
      rw [hmay]
      show (if (c.rule s).hold = .all then true else p.stuck) = _
      rw [stk]
      unfold may
      cases hh : (c.rule s).hold
      · simp
      · simp
      · simp; omega
    · show (if 0 < every c s then p.pending + 1 else p.pending) = if every c s = 0 then 0 else r.fulls + 1
      rw [pend]
      by_cases he : every c s = 0
      · rw [if_neg (by omega), if_pos he, if_pos he]
      · rw [if_pos (show 0 < every c s by have : 0 ≤ every c s := e0; omega), if_neg he, if_neg he]
    · show 0 ≤ r.fulls + 1; omega
    · intro he
      have := fe he
      show r.fulls + 1 < every c s
      have : r.fulls + 1 ≠ every c s := fun h => ha (Or.inr h)
      omega
    · show p.quick = max 0 (first c s - (r.came + 1))
      rw [qk]; omega
/-- a partial segment of x bytes -/
theorem core_partial {c : Cfg} {s : Bool} {S L : Side} {p : Parts} {ws : List Int} {r : Rc} {x : Int} (ok : CfgOk c) (h : Core c s S L p ws r) (x0 : 0 < x) (x1 : x < c.size) :
    Core c s (sendS c.size x S) L (withPartial (ru c s) p).1 (ws ++ [x]) (rstepC c s r x) ∧
    (withPartial (ru c s) p).2 + r.acks.length = ((rstepC c s r x).acks.length : Int) := by
  obtain ⟨run_, pos, got, tle, mle, ale, lle, blk, stk, pend, f0, fe, qk⟩ := h
  have hs := ok.size
  have hq0 := ok.qk (!s)
  have tt : S.told ≤ top S.told r.acks := top_ge _ _
  have tl : top S.told r.acks ≤ r.got := top_le (Int.le_trans tle lle) ale
  have hne : ¬ x = c.size := by omega
  have hrun : rstepC c s r x = runC c s (rc0 L) (ws ++ [x]) := by
    show rstep _ _ _ r x = run _ _ _ _ _
    rw [run_snoc, run_]
  have hpos : ∀ n ∈ ws ++ [x], 0 < n ∧ n ≤ c.size := by
    intro n hn
    rcases List.mem_append.mp hn with h | h
    · exact pos n h
    · simp at h; subst h; exact ⟨x0, by omega⟩
  have hm : (sendS c.size x S).mark = S.sent + x := by
    show (if 0 < x ∧ x < c.size then S.sent + x else S.mark) = S.sent + x
    rw [if_pos ⟨x0, x1⟩]
  have hsn : (sendS c.size x S).sent = S.sent + x := rfl
  have hmay : ∀ t, may c s { (sendS c.size x S) with told := t } = (match (c.rule s).hold with | .part => decide (S.sent + x ≤ t) | .off => true | .all => decide (t = S.sent + x)) := by
    intro t
    unfold may
    show (match (c.rule s).hold with | .part => decide ((sendS c.size x S).mark ≤ t) | .off => true | .all => decide (t = S.sent + x)) = _
    rw [hm]
  have hblk : decide ((ru c s).hold ≠ .off) = !may c s (sendS c.size x S) := by
    have := hmay S.told
    have e : ({ (sendS c.size x S) with told := S.told } : Side) = sendS c.size x S := rfl
    rw [e] at this
    rw [this]
    unfold ru
    cases hh : (c.rule s).hold <;> simp <;> omega
  have hle : ∀ a ∈ r.acks, a ≤ r.got + x := fun a h => by have := ale a h; omega
  by_cases ha : r.came + 1 ≤ first c s
  · have er : rstepC c s r x = ⟨r.got + x, r.came + 1, 0, r.acks ++ [r.got + x]⟩ := by
      show rstep _ _ _ r x = _
      unfold rstep
      rw [if_pos (Or.inl ha)]
    have ef : withPartial (ru c s) p = (⟨0, false, decide ((ru c s).hold ≠ .off), false, 0, p.quick - 1⟩, 1) := by
      unfold withPartial
      rw [if_pos (by rw [qk]; omega)]
    rw [er] at hrun ⊢
    rw [ef]
    have etop : top S.told (r.acks ++ [r.got + x]) = r.got + x := by rw [top_snoc]; omega
    refine ⟨⟨hrun, hpos, ?_, tle, ?_, ?_, ?_, hblk, ?_, ?_, Int.le_refl _, fun h => h, ?_⟩, by simp; omega⟩
    · show r.got + x = S.sent + x; omega
    · rw [hm, hsn]; omega
    · intro a h
      rcases List.mem_append.mp h with h | h
      · exact hle a h
      · simp at h; subst h; exact Int.le_refl _
    · show L.got ≤ r.got + x; omega
    · show _ = !may c s { (sendS c.size x S) with told := top S.told (r.acks ++ [r.got + x]) }
      rw [hmay, etop]
      cases hh : (c.rule s).hold <;> simp <;> omega
    · show (0 : Int) = if every c s = 0 then 0 else 0
      split <;> rfl
    · show p.quick - 1 = max 0 (first c s - (r.came + 1))
      rw [qk]; omega
  · have er : rstepC c s r x = ⟨r.got + x, r.came + 1, r.fulls, r.acks⟩ := by
      show rstep _ _ _ r x = _
      unfold rstep
      rw [if_neg (fun q => by rcases q with q | ⟨q, _⟩; exact ha q; exact hne q), if_neg hne, Int.add_zero]
    have ef : withPartial (ru c s) p = (⟨0, false, decide ((ru c s).hold ≠ .off), decide ((ru c s).hold ≠ .off), p.pending, 0⟩, 0) := by
      unfold withPartial
      rw [if_neg (by rw [qk]; omega)]
    rw [er] at hrun ⊢
    rw [ef]
    refine ⟨⟨hrun, hpos, ?_, tle, ?_, fun a h => hle a h, ?_, hblk, ?_, pend, f0, fe, ?_⟩, by simp⟩
    · show r.got + x = S.sent + x; omega
    · rw [hm, hsn]; omega
    · show L.got ≤ r.got + x; omega
    · show _ = !may c s { (sendS c.size x S) with told := top S.told r.acks }
      rw [hmay]
      unfold ru
      cases hh : (c.rule s).hold <;> simp <;> omega
    · show (0 : Int) = max 0 (first c s - (r.came + 1))
      omega
end Lw
/-! LwC: arrivals, clearings, writes, at the model. -/
namespace Lw
structure At (s : Bool) (m : Mo) (S L : Side) (ws as : List Int) : Prop where
  sp : m.side s = S
  li : m.side (!s) = L
  wS : m.way s = ws.map fun n => (n, S.got)
  wL : m.way (!s) = as.map fun a => ((0 : Int), a)
def Lr (L : Side) (t : Int) (r : Rc) : Side := { L with told := t, got := r.got, came := r.came, fulls := r.fulls }
theorem setSide_same (m : Mo) (b : Bool) (S : Side) : (setSide m b S).side b = S := by simp [setSide, fset]
theorem setSide_not (m : Mo) (b : Bool) (S : Side) : (setSide m b S).side (!b) = m.side (!b) := by simp [setSide, fset]
theorem setSide_not' (m : Mo) (b : Bool) (S : Side) : (setSide m (!b) S).side b = m.side b := by simp [setSide, fset]
theorem arrAck_none {c : Cfg} {b : Bool} {v : Int} {m : Mo} (h : (m.side b).rest = 0) : arrAck c b v m = setSide m b { m.side b with told := max (m.side b).told v } := by
  unfold arrAck
  simp only [setSide_same]
  rw [if_neg (by rw [h]; intro q; exact absurd q.1 (by decide))]
theorem at_got {c : Cfg} {s : Bool} {m : Mo} {S L : Side} {n : Int} {ws as : List Int} (h : At s m S L ws as) (hr : L.rest = 0) :
    let r := rstepC c s ⟨L.got, L.came, L.fulls, as⟩ n
    At s (arrGot c (!s) n m) S (Lr L L.told r) ws r.acks ∧ (arrGot c (!s) n m).made = m.made ∧ (arrGot c (!s) n m).stalls = m.stalls ∧ (arrGot c (!s) n m).bare + as.length = m.bare + r.acks.length := by
  obtain ⟨sp, li, wS, wL⟩ := h
  obtain ⟨L1, L2, L3, L4, L5, L6, L7, L8⟩ := L
  simp only at hr
  subst hr
  unfold arrGot rstepC rstep
  rw [li]
  dsimp only
  by_cases hz : L7 + 1 ≤ first c s ∨ n = c.size ∧ L6 + (if n = c.size then 1 else 0) = every c s
  · rw [if_pos hz, if_pos hz]
    unfold send
    refine ⟨⟨?_, ?_, ?_, ?_⟩, rfl, rfl, ?_⟩
    · show fset (setSide m (!s) _).side (!s) _ s = S
      rw [fset_not', setSide_not', sp]
    · show fset (setSide m (!s) _).side (!s) _ (!s) = _
      rw [fset_same, setSide_same]
      simp [sendS, Lr]
    · show fset m.way (!s) _ s = _
      rw [fset_not', wS]
    · show fset m.way (!s) (m.way (!s) ++ [(0, ((setSide m (!s) _).side (!s)).got)]) (!s) = _
      rw [fset_same, setSide_same, wL]
      simp
    · show m.bare + 1 + as.length = m.bare + (as ++ [L5 + n]).length
      simp; omega
  · rw [if_neg hz, if_neg hz]
    refine ⟨⟨?_, ?_, wS, wL⟩, rfl, rfl, rfl⟩
    · rw [setSide_not', sp]
    · rw [setSide_same]; rfl
/-- a segment arrives at the listener -/
theorem arrive_seg {c : Cfg} {s : Bool} {m : Mo} {S L : Side} {n : Int} {ws as : List Int} (h : At s m S L (n :: ws) as) (hn : 0 < n) (hs : n ≤ c.size) (hr : L.rest = 0) :
    let r := rstepC c s ⟨L.got, L.came, L.fulls, as⟩ n
    At s (arrive c s m) S (Lr L (max L.told S.got) r) ws r.acks ∧ (arrive c s m).made = m.made ∧ (arrive c s m).stalls = m.stalls ∧ (arrive c s m).bare + as.length = m.bare + r.acks.length := by
  obtain ⟨sp, li, wS, wL⟩ := h
  have e : arrive c s m = arrGot c (!s) n (setSide { m with way := fset m.way s (ws.map fun n => (n, S.got)) } (!s) { L with told := max L.told S.got }) := by
    unfold arrive
    rw [wS]
    simp only [List.map_cons]
    rw [if_pos (show n > 0 from hn)]
    rw [arrAck_none (by show (m.side (!s)).rest = 0; rw [li]; exact hr)]
    show arrGot c (!s) n (setSide _ (!s) { m.side (!s) with told := max (m.side (!s)).told S.got }) = _
    rw [li]
  have hA : At s (setSide { m with way := fset m.way s (ws.map fun n => (n, S.got)) } (!s) { L with told := max L.told S.got }) S { L with told := max L.told S.got } ws as := by
    refine ⟨?_, ?_, ?_, ?_⟩
    · rw [setSide_not']; exact sp
    · rw [setSide_same]
    · show fset m.way s _ s = _
      rw [fset_same]
    · show fset m.way s _ (!s) = _
      rw [fset_not]; exact wL
  rw [e]
  exact at_got hA hr
/-- not over while the listener lacks bytes -/
theorem over_heard {c : Cfg} {m : Mo} (h : over c m = true) (b : Bool) : heard c m b = true := by
  unfold over at h
  simp only [Bool.and_eq_true] at h
  cases b
  · exact h.1.2
  · exact h.2
theorem not_over {c : Cfg} {m : Mo} {b : Bool} (h : (m.side b).got ≠ given c m.made (!b)) : over c m = false := by
  cases e : over c m with
  | false => rfl
  | true =>
    have := over_heard e b
    unfold heard at this
    exact absurd (of_decide_eq_true this) h
theorem rstep_got (a b d : Int) (r : Rc) (n : Int) : (rstep a b d r n).got = r.got + n := by unfold rstep; split <;> split <;> rfl
theorem rstep_came (a b d : Int) (r : Rc) (n : Int) : (rstep a b d r n).came = r.came + 1 := by unfold rstep; split <;> split <;> rfl
theorem run_got (a b d : Int) : ∀ (ws : List Int) (r : Rc), (run a b d r ws).got = r.got + ws.sum
  | [], r => by simp [run]
  | n :: ws, r => by rw [run_cons, run_got a b d ws, rstep_got, List.sum_cons]; omega
theorem run_came (a b d : Int) : ∀ (ws : List Int) (r : Rc), (run a b d r ws).came = r.came + ws.length
  | [], r => by simp [run]
  | n :: ws, r => by rw [run_cons, run_came a b d ws, rstep_came, List.length_cons]; omega
theorem rep_succ {α : Type} (n : Nat) (x : α) : x :: List.replicate n x = List.replicate (n + 1) x := rfl
/-- all that is on the way from the speaker arrives -/
theorem arrN_segs {c : Cfg} {s : Bool} : ∀ (ws : List Int) {m : Mo} {lg : List Ev} {S L : Side} {as : List Int}, At s m S L ws as → (∀ n ∈ ws, 0 < n ∧ n ≤ c.size) → L.rest = 0 →
    L.got + ws.sum ≤ given c m.made s →
    ∃ m', arrN c s ws.length (m, lg) = (m', lg ++ List.replicate ws.length (.arr s)) ∧
      At s m' S (Lr L (if ws = [] then L.told else max L.told S.got) (runC c s ⟨L.got, L.came, L.fulls, as⟩ ws)) [] (runC c s ⟨L.got, L.came, L.fulls, as⟩ ws).acks ∧
      m'.made = m.made ∧ m'.stalls = m.stalls ∧ m'.bare + as.length = m.bare + (runC c s ⟨L.got, L.came, L.fulls, as⟩ ws).acks.length
  | [], m, lg, S, L, as, h, _, _, _ => ⟨m, by simp [arrN], by simpa [run, Lr] using h, rfl, rfl, rfl⟩
  | n :: ws, m, lg, S, L, as, h, hp, hr, hg => by
    have hn := hp n List.mem_cons_self
    have hws : ∀ n ∈ ws, 0 < n ∧ n ≤ c.size := fun x hx => hp x (List.mem_cons_of_mem _ hx)
    have hsum : 0 ≤ ws.sum := by
      clear hg h hp
      induction ws with
      | nil => simp
      | cons a r ih =>
        rw [List.sum_cons]
        have := (hws a List.mem_cons_self).1
        have := ih fun x hx => hws x (List.mem_cons_of_mem _ hx)
        omega
    rw [List.sum_cons] at hg
    have hno : over c m = false := by
      refine not_over (b := !s) ?_
      rw [h.li, Bool.not_not]
      omega
    obtain ⟨h1, e1, e2, e3⟩ := arrive_seg h hn.1 hn.2 hr
    generalize hr1 : rstepC c s ⟨L.got, L.came, L.fulls, as⟩ n = r1 at *
    obtain ⟨m', q1, q2, q3, q4, q5⟩ := arrN_segs ws (lg := lg ++ [.arr s]) h1 hws hr (by
      rw [e1]
      show r1.got + ws.sum ≤ _
      rw [← hr1, rstep_got]
      show L.got + n + ws.sum ≤ _
      omega)
    have hrr : (⟨(Lr L (max L.told S.got) r1).got, (Lr L (max L.told S.got) r1).came, (Lr L (max L.told S.got) r1).fulls, r1.acks⟩ : Rc) = r1 := rfl
    rw [hrr] at q2 q5
    have hrun : runC c s ⟨L.got, L.came, L.fulls, as⟩ (n :: ws) = runC c s r1 ws := by
      show run _ _ _ _ _ = _
      rw [run_cons]
      exact congrArg (fun r => runC c s r ws) hr1
    refine ⟨m', ?_, ?_, by rw [q3, e1], by rw [q4, e2], by rw [hrun]; omega⟩
    · show arrN c s ws.length (arrOne c s (m, lg)) = _
      unfold arrOne
      rw [if_neg (by rw [hno]; decide)]
      show arrN c s ws.length (arrive c s m, lg ++ [.arr s]) = _
      rw [q1, List.append_assoc]
      rfl
    · rw [hrun]
      have : (if (n :: ws) = [] then L.told else max L.told S.got) = max L.told S.got := by simp
      rw [this]
      have e4 : (Lr (Lr L (max L.told S.got) r1) (if ws = [] then (Lr L (max L.told S.got) r1).told else max (Lr L (max L.told S.got) r1).told S.got) (runC c s r1 ws)) = Lr L (max L.told S.got) (runC c s r1 ws) := by
        unfold Lr
        simp only
        have : (if ws = [] then max L.told S.got else max (max L.told S.got) S.got) = max L.told S.got := by split <;> omega
        rw [this]
      rw [e4] at q2
      exact q2

/-- an acknowledgment arrives at the speaker -/
def ackS (c : Cfg) (s : Bool) (S : Side) (a : Int) : Side :=
  if S.rest > 0 ∧ S.kept = false ∧ may c s { S with told := max S.told a } = true then sendS c.size S.rest { S with told := max S.told a } else { S with told := max S.told a }
def ackW (c : Cfg) (s : Bool) (S : Side) (a : Int) (ws : List Int) : List Int :=
  if S.rest > 0 ∧ S.kept = false ∧ may c s { S with told := max S.told a } = true then ws ++ [S.rest] else ws
theorem at_ack {c : Cfg} {s : Bool} {m : Mo} {S L : Side} {a : Int} {ws as : List Int} (h : At s m S L ws as) :
    At s (arrAck c s a m) (ackS c s S a) L (ackW c s S a ws) as ∧ (arrAck c s a m).made = m.made ∧ (arrAck c s a m).stalls = m.stalls ∧ (arrAck c s a m).bare = m.bare := by
  obtain ⟨sp, li, wS, wL⟩ := h
  unfold arrAck ackS ackW
  simp only [setSide_same, sp]
  by_cases hq : S.rest > 0 ∧ S.kept = false ∧ may c s { S with told := max S.told a } = true
  · rw [if_pos hq, if_pos hq, if_pos hq]
    unfold send
    refine ⟨⟨?_, ?_, ?_, ?_⟩, rfl, rfl, ?_⟩
    · show fset (setSide m s _).side s _ s = _
      rw [fset_same, setSide_same]
    · show fset (setSide m s _).side s _ (!s) = _
      rw [fset_not, setSide_not]; exact li
    · show fset m.way s (m.way s ++ [(S.rest, ((setSide m s _).side s).got)]) s = _
      rw [fset_same, setSide_same, wS, List.map_append]
      rfl
    · show fset m.way s _ (!s) = _
      rw [fset_not]; exact wL
    · show m.bare + (if S.rest = 0 then 1 else 0) = m.bare
      rw [if_neg (by omega)]; rfl
  · rw [if_neg hq, if_neg hq, if_neg hq]
    refine ⟨⟨?_, ?_, wS, wL⟩, rfl, rfl, rfl⟩
    · rw [setSide_same]
    · rw [setSide_not]; exact li
theorem arrive_ack {c : Cfg} {s : Bool} {m : Mo} {S L : Side} {a : Int} {ws as : List Int} (h : At s m S L ws (a :: as)) :
    At s (arrive c (!s) m) (ackS c s S a) L (ackW c s S a ws) as ∧ (arrive c (!s) m).made = m.made ∧ (arrive c (!s) m).stalls = m.stalls ∧ (arrive c (!s) m).bare = m.bare := by
  obtain ⟨sp, li, wS, wL⟩ := h
  have e : arrive c (!s) m = arrAck c s a { m with way := fset m.way (!s) (as.map fun a => ((0 : Int), a)) } := by
    unfold arrive
    rw [wL]
    simp only [List.map_cons]
    rw [if_neg (by decide), Bool.not_not]
  have hA : At s { m with way := fset m.way (!s) (as.map fun a => ((0 : Int), a)) } S L ws as := by
    refine ⟨sp, li, ?_, ?_⟩
    · show fset m.way (!s) _ s = _
      rw [fset_not']; exact wS
    · show fset m.way (!s) _ (!s) = _
      rw [fset_same]
  rw [e]
  exact at_ack hA
theorem may_mono {c : Cfg} {s : Bool} {S : Side} {t u : Int} (h : t ≤ u) (hu : u ≤ S.sent) (hm : may c s { S with told := t } = true) : may c s { S with told := u } = true := by
  unfold may at *
  cases hh : (c.rule s).hold <;> rw [hh] at hm <;> simp at * <;> omega
/-- all acknowledgments arrive: the speaker's side, what it sends -/
def acksS (c : Cfg) (s : Bool) (S : Side) (as : List Int) : Side :=
  if S.rest > 0 ∧ S.kept = false ∧ may c s { S with told := top S.told as } = true ∧ as ≠ [] then sendS c.size S.rest { S with told := top S.told as } else { S with told := top S.told as }
def acksW (c : Cfg) (s : Bool) (S : Side) (as : List Int) : List Int :=
  if S.rest > 0 ∧ S.kept = false ∧ may c s { S with told := top S.told as } = true ∧ as ≠ [] then [S.rest] else []
theorem arrN_acks {c : Cfg} {s : Bool} : ∀ (as : List Int) {m : Mo} {lg : List Ev} {S L : Side} {ws : List Int}, At s m S L ws as → over c m = false → (∀ a ∈ as, a ≤ S.sent) → S.told ≤ S.sent →
    ∃ m', arrN c (!s) as.length (m, lg) = (m', lg ++ List.replicate as.length (.arr (!s))) ∧ At s m' (acksS c s S as) L (ws ++ acksW c s S as) [] ∧ m'.made = m.made ∧ m'.stalls = m.stalls ∧ m'.bare = m.bare
  | [], m, lg, S, L, ws, h, _, _, _ => ⟨m, by simp [arrN], by simpa [acksS, acksW, top] using h, rfl, rfl, rfl⟩
  | a :: as, m, lg, S, L, ws, h, ho, hle, hts => by
    obtain ⟨h1, e1, e2, e3⟩ := arrive_ack (c := c) h
    have hle' : ∀ a ∈ as, a ≤ S.sent := fun x hx => hle x (List.mem_cons_of_mem _ hx)
    have ha := hle a List.mem_cons_self
    have hgS : (ackS c s S a).got = S.got := by unfold ackS; split <;> rfl
    have ho1 : over c (arrive c (!s) m) = false := by
      unfold over heard at ho ⊢
      rw [e1]
      have g1 : ∀ b, ((arrive c (!s) m).side b).got = (m.side b).got := by
        intro b
        by_cases hb : b = s
        · subst hb; rw [h1.sp, h.sp, hgS]
        · have : b = !s := by cases b <;> cases s <;> simp_all
          subst this; rw [h1.li, h.li]
      rw [g1, g1]; exact ho
    have key : (∀ x ∈ as, x ≤ (ackS c s S a).sent) ∧ (ackS c s S a).told ≤ (ackS c s S a).sent ∧ acksS c s (ackS c s S a) as = acksS c s S (a :: as) ∧ ackW c s S a ws ++ acksW c s (ackS c s S a) as = ws ++ acksW c s S (a :: as) := by
      have et : top S.told (a :: as) = top (max S.told a) as := rfl
      have tl : top (max S.told a) as ≤ S.sent := top_le (by omega) hle'
      have tg : max S.told a ≤ top (max S.told a) as := top_ge _ _
      by_cases hq : S.rest > 0 ∧ S.kept = false ∧ may c s { S with told := max S.told a } = true
      · have hm := may_mono (S := S) tg tl hq.2.2
        have eS : ackS c s S a = sendS c.size S.rest { S with told := max S.told a } := by unfold ackS; rw [if_pos hq]
        have eW : ackW c s S a ws = ws ++ [S.rest] := by unfold ackW; rw [if_pos hq]
        have r0 : (sendS c.size S.rest { S with told := max S.told a }).rest = 0 := by show S.rest - S.rest = 0; omega
        rw [eS, eW]
        refine ⟨?_, ?_, ?_, ?_⟩
        · intro x hx
          show x ≤ S.sent + S.rest
          have := hle' x hx; omega
        · show max S.told a ≤ S.sent + S.rest
          omega
        · unfold acksS
          rw [if_neg (by rw [r0]; omega), if_pos ⟨hq.1, hq.2.1, by rw [et]; exact hm, by simp⟩, et]
          rfl
        · unfold acksW
          rw [if_neg (by rw [r0]; omega), if_pos ⟨hq.1, hq.2.1, by rw [et]; exact hm, by simp⟩]
          simp
      · have eS : ackS c s S a = { S with told := max S.told a } := by unfold ackS; rw [if_neg hq]
        have eW : ackW c s S a ws = ws := by unfold ackW; rw [if_neg hq]
        rw [eS, eW]
        refine ⟨hle', show max S.told a ≤ S.sent by omega, ?_, ?_⟩
        · unfold acksS
          show (if S.rest > 0 ∧ S.kept = false ∧ may c s { S with told := top (max S.told a) as } = true ∧ as ≠ [] then _ else _) = if S.rest > 0 ∧ S.kept = false ∧ may c s { S with told := top (max S.told a) as } = true ∧ (a :: as) ≠ [] then _ else _
          by_cases hn : as = []
          · subst hn
            rw [if_neg (by simp), if_neg (fun q => hq ⟨q.1, q.2.1, q.2.2.1⟩)]
            rfl
          · by_cases hP : S.rest > 0 ∧ S.kept = false ∧ may c s { S with told := top (max S.told a) as } = true
            · rw [if_pos ⟨hP.1, hP.2.1, hP.2.2, hn⟩, if_pos ⟨hP.1, hP.2.1, hP.2.2, by simp⟩] <;> rfl
            · rw [if_neg (fun q => hP ⟨q.1, q.2.1, q.2.2.1⟩), if_neg (fun q => hP ⟨q.1, q.2.1, q.2.2.1⟩)] <;> rfl
        · unfold acksW
          show ws ++ (if S.rest > 0 ∧ S.kept = false ∧ may c s { S with told := top (max S.told a) as } = true ∧ as ≠ [] then _ else _) = ws ++ if S.rest > 0 ∧ S.kept = false ∧ may c s { S with told := top (max S.told a) as } = true ∧ (a :: as) ≠ [] then _ else _
          by_cases hn : as = []
          · subst hn
            rw [if_neg (by simp), if_neg (fun q => hq ⟨q.1, q.2.1, q.2.2.1⟩)]
          · by_cases hP : S.rest > 0 ∧ S.kept = false ∧ may c s { S with told := top (max S.told a) as } = true
            · rw [if_pos ⟨hP.1, hP.2.1, hP.2.2, hn⟩, if_pos ⟨hP.1, hP.2.1, hP.2.2, by simp⟩]
            · rw [if_neg (fun q => hP ⟨q.1, q.2.1, q.2.2.1⟩), if_neg (fun q => hP ⟨q.1, q.2.1, q.2.2.1⟩)]
    obtain ⟨k1, k2, k3, k4⟩ := key
    obtain ⟨m', q1, q2, q3, q4, q5⟩ := arrN_acks as (lg := lg ++ [.arr (!s)]) h1 ho1 k1 k2
    refine ⟨m', ?_, ?_, by rw [q3, e1], by rw [q4, e2], by rw [q5, e3]⟩
    · show arrN c (!s) as.length (arrOne c (!s) (m, lg)) = _
      unfold arrOne
      rw [if_neg (by rw [ho]; decide)]
      show arrN c (!s) as.length (arrive c (!s) m, lg ++ [.arr (!s)]) = _
      rw [q1, List.append_assoc]
      rfl
    · rw [k3, k4] at q2
      exact q2
end Lw
/-! LwD: the relation within a turn; a clearing and a write keep it. -/
namespace Lw
structure R (c : Cfg) (s : Bool) (g0 c0 : Int) (m : Mo) (p : Parts) (seg ack : Int) (S L : Side) (ws : List Int) (r : Rc) : Prop where
  at_ : At s m S L ws []
  core : Core c s S L p ws r
  prest : p.rest = S.rest
  pkept : p.kept = S.kept
  r0 : 0 ≤ S.rest
  r1 : S.rest < c.size
  kr : S.kept = true → 0 < S.rest
  held : 0 < S.rest → S.kept = false → p.blocked = true
  lrest : L.rest = 0
  lkept : L.kept = false
  lgot : S.got = L.sent
  lmark : L.mark ≤ L.sent
  ltold : L.told ≤ L.sent
  lheard : L.told = L.sent ∨ L.got = g0
  sfull : S.fulls = 0 ∨ S.sent = g0
  cons : S.sent + S.rest = given c m.made s
  consl : L.sent = given c m.made (!s)
  segs : seg = S.came + L.came + ws.length
  acks : ack = m.bare + r.acks.length
  scame : S.came = c0
/-- the end of the conversation -/
structure Fin (c : Cfg) (m : Mo) (seg ack : Int) : Prop where
  ov : over c m = true
  segs : seg = (m.side false).came + (m.side true).came
  acks : ack = m.bare
theorem nb1 {b : Bool} (h : false = !b) : b = true := by cases b; cases h; rfl
theorem nb2 {b : Bool} (h : true = !b) : b = false := by cases b; rfl; cases h
theorem came_both {s : Bool} {m : Mo} {S L : Side} {ws as : List Int} (h : At s m S L ws as) : (m.side false).came + (m.side true).came = S.came + L.came := by
  have h1 := h.sp
  have h2 := h.li
  cases s
  · rw [h1]; rw [show (!false) = true from rfl] at h2; rw [h2]
  · rw [h1]; rw [show (!true) = false from rfl] at h2; rw [h2]; omega
theorem arrN_over {c : Cfg} {a : Bool} {x : ML} (h : over c x.1 = true) : ∀ n, arrN c a n x = x
  | 0 => rfl
  | n + 1 => by
    show arrN c a n (arrOne c a x) = x
    unfold arrOne
    rw [if_pos h]
    exact arrN_over h n
theorem core_cong {c : Cfg} {s : Bool} {S S' L : Side} {p p' : Parts} {ws : List Int} {r : Rc} (h : Core c s S L p ws r) (e1 : S'.sent = S.sent) (e2 : S'.told = S.told) (e3 : S'.mark = S.mark)
    (q1 : p'.blocked = p.blocked) (q2 : p'.stuck = p.stuck) (q3 : p'.pending = p.pending) (q4 : p'.quick = p.quick) : Core c s S' L p' ws r := by
  obtain ⟨run_, pos, got, tle, mle, ale, lle, blk, stk, pend, f0, fe, qk⟩ := h
  have em : ∀ t, may c s { S' with told := t } = may c s { S with told := t } := by
    intro t
    unfold may
    simp only [e1, e3]
  have em' : may c s S' = may c s S := by
    unfold may
    simp only [e1, e2, e3]
  refine ⟨run_, pos, by rw [e1]; exact got, by rw [e2]; exact tle, by rw [e1, e3]; exact mle, ale, lle, by rw [q1, blk, em'], by rw [q2, stk, e2, em], by rw [q3]; exact pend, f0, fe, by rw [q4]; exact qk⟩
theorem sum_pos {ws : List Int} (h : ∀ n ∈ ws, 0 < n) : 0 ≤ ws.sum ∧ (ws.sum = 0 → ws = []) := by
  induction ws with
  | nil => exact ⟨Int.le_refl _, fun _ => rfl⟩
  | cons a r ih =>
    obtain ⟨i1, i2⟩ := ih fun x hx => h x (List.mem_cons_of_mem _ hx)
    have := h a List.mem_cons_self
    rw [List.sum_cons]
    exact ⟨by omega, fun q => by omega⟩
theorem core_sum {c : Cfg} {s : Bool} {S L : Side} {p : Parts} {ws : List Int} {r : Rc} (h : Core c s S L p ws r) : L.got + ws.sum = S.sent := by
  rw [← h.got, h.run_]
  show _ = (run _ _ _ _ ws).got
  rw [run_got]
/-- a state that is over -/
theorem R.fin {c : Cfg} {s : Bool} {g0 c0 : Int} {m : Mo} {p : Parts} {seg ack : Int} {S L : Side} {ws : List Int} {r : Rc} (h : R c s g0 c0 m p seg ack S L ws r) (ho : over c m = true) : Fin c m seg ack ∧ ws = [] ∧ S.rest = 0 := by
  have h1 := over_heard ho (!s)
  unfold heard at h1
  have h2 := of_decide_eq_true h1
  rw [h.at_.li, Bool.not_not, ← h.cons] at h2
  have h3 := core_sum h.core
  obtain ⟨s0, s1⟩ := sum_pos fun n hn => (h.core.pos n hn).1
  have := h.r0
  have hw : ws = [] := s1 (by omega)
  refine ⟨⟨ho, ?_, ?_⟩, hw, by omega⟩
  · rw [h.segs, came_both h.at_, hw]; simp
  · rw [h.acks, h.core.run_, hw]
    show (m.bare : Int) + ((0 : Nat) : Int) = m.bare
    omega
/-- a clearing, within a turn -/
theorem clear_R {c : Cfg} {s : Bool} {g0 c0 : Int} {m : Mo} {p : Parts} {seg ack : Int} {S L : Side} {ws : List Int} {r : Rc} (ok : CfgOk c) (h : R c s g0 c0 m p seg ack S L ws r)
    (hm : m.made ≠ 0) (hw : (wd c (m.made - 1)).who = s) (lg : List Ev) :
    let q := afterClearing (ru c s) p
    ∃ m' lg', noted c (m, lg) = (m', lg') ∧ m'.made = m.made ∧ m'.stalls = m.stalls ∧
      ((∃ S' L' ws' r', R c s g0 c0 m' q.1 (seg + q.2.1) (ack + q.2.2) S' L' ws' r' ∧ ((ws = [] ∨ S.rest = 0) → ws' = []) ∧ (ws' = [] ∨ S'.rest = 0) ∧ (q.1.rest = S'.rest)) ∨
       (Fin c m' (seg + q.2.1) (ack + q.2.2) ∧ S.rest = 0)) := by
  intro q
  cases ho : over c m with
  | true =>
    obtain ⟨f, hws, hr⟩ := h.fin ho
    have hq : q.2 = (0, 0) := by
      show (afterClearing (ru c s) p).2 = (0, 0)
      unfold afterClearing
      have e : p.rest = 0 := by rw [h.prest, hr]
      split
      · rfl
      · simp [e]
    refine ⟨m, lg, ?_, rfl, rfl, Or.inr ⟨?_, hr⟩⟩
    · unfold noted; rw [if_pos (Or.inr ho)]
    · rw [hq]; simpa using f
  | false =>
    have hpos := h.core.pos
    have hsum := core_sum h.core
    have r0 := h.r0
    obtain ⟨m1, a1, a2, a3, a4, a5⟩ := arrN_segs (lg := lg) ws h.at_ hpos h.lrest (by rw [hsum, ← h.cons]; omega)
    have hrun : runC c s ⟨L.got, L.came, L.fulls, []⟩ ws = r := h.core.run_.symm
    rw [hrun] at a2 a5
    have hlen : (m.way s).length = ws.length := by rw [h.at_.wS, List.length_map]
    generalize ht : (if ws = [] then L.told else max L.told S.got) = tl at a2
    have hlen1 : (m1.way (!s)).length = r.acks.length := by rw [a2.wL, List.length_map]
    have hnoted : noted c (m, lg) = arrN c (!s) r.acks.length (m1, lg ++ List.replicate ws.length (.arr s)) := by
      unfold noted
      rw [if_neg (by rw [ho]; simp [hm])]
      simp only [hw, hlen, a1, hlen1]
    have hcame : r.came = L.came + ws.length := by rw [← hrun]; exact run_came _ _ _ _ _
    have hbare : (m1.bare : Int) = m.bare + r.acks.length := by
      have := a5; simp at this; omega
    have hS : S.told ≤ S.sent := by have := h.core.tle; have := h.core.lle; have := h.core.got; omega
    have hA : ∀ a ∈ r.acks, a ≤ S.sent := fun a ha => by rw [← h.core.got]; exact h.core.ale a ha
    cases ho1 : over c m1 with
    | true =>
      have hr : S.rest = 0 := by
        have h1 := over_heard ho1 (!s)
        unfold heard at h1
        have h2 := of_decide_eq_true h1
        rw [a2.li, Bool.not_not, a3, ← h.cons] at h2
        have h3 : r.got = S.sent + S.rest := h2
        have := h.core.got
        omega
      have hq : q.2 = (0, 0) := by
        show (afterClearing (ru c s) p).2 = (0, 0)
        unfold afterClearing
        have e : p.rest = 0 := by rw [h.prest, hr]
        split
        · rfl
        · simp [e]
      refine ⟨m1, _, by rw [hnoted]; exact arrN_over (x := (m1, _)) ho1 _, a3, a4, Or.inr ⟨⟨ho1, ?_, ?_⟩, hr⟩⟩
      · rw [hq, came_both a2]
        show seg + 0 = S.came + r.came
        rw [h.segs, hcame]; omega
      · rw [hq, hbare, h.acks]; simp
    | false =>
      obtain ⟨m2, b1, b2, b3, b4, b5⟩ := arrN_acks (lg := lg ++ List.replicate ws.length (.arr s)) r.acks a2 ho1 hA hS
      have tT : S.told ≤ top S.told r.acks := top_ge _ _
      have Tl : top S.told r.acks ≤ r.got := top_le (Int.le_trans h.core.tle h.core.lle) h.core.ale
      generalize hT : top S.told r.acks = T at *
      generalize hL1 : Lr L tl r = L1 at *
      have L1got : L1.got = r.got := by rw [← hL1]; rfl
      have L1came : L1.came = r.came := by rw [← hL1]; rfl
      have L1fulls : L1.fulls = r.fulls := by rw [← hL1]; rfl
      have L1rest : L1.rest = L.rest := by rw [← hL1]; rfl
      have L1kept : L1.kept = L.kept := by rw [← hL1]; rfl
      have L1sent : L1.sent = L.sent := by rw [← hL1]; rfl
      have L1mark : L1.mark = L.mark := by rw [← hL1]; rfl
      have L1told : L1.told = tl := by rw [← hL1]; rfl
      have hlt : L1.told ≤ L1.sent ∧ (L1.told = L1.sent ∨ L1.got = g0) := by
        rw [L1told, L1sent, L1got, ← ht]
        have := h.ltold
        have := h.lgot
        by_cases hws : ws = []
        · rw [if_pos hws]
          refine ⟨by omega, ?_⟩
          have : r.got = L.got := by rw [← hrun, hws]; rfl
          rw [this]
          exact h.lheard
        · rw [if_neg hws]
          exact ⟨by omega, Or.inl (by omega)⟩
      -- the core behind all arrivals, before a rest is sent
      have mk : ∀ p' : Parts, p'.blocked = !may c s { S with told := T } → p'.stuck = !may c s { S with told := T } → p'.pending = p.pending → p'.quick = p.quick → Core c s { S with told := T } L1 p' [] (rc0 L1) := by
        intro p' q1 q2 q3 q4
        refine ⟨rfl, fun n hn => (List.not_mem_nil hn).elim, ?_, ?_, h.core.mle, fun a ha => (List.not_mem_nil ha).elim, Int.le_refl _, q1, q2, ?_, ?_, ?_, ?_⟩
        · show L1.got = S.sent; rw [L1got]; exact h.core.got
        · show T ≤ L1.got; rw [L1got]; exact Tl
        · rw [q3, h.core.pend]; show _ = if every c s = 0 then 0 else L1.fulls; rw [L1fulls]
        · show 0 ≤ L1.fulls; rw [L1fulls]; exact h.core.f0
        · show 0 < every c s → L1.fulls < every c s; rw [L1fulls]; exact h.core.fe
        · show p'.quick = max 0 (first c s - L1.came); rw [q4, L1came]; exact h.core.qk
      have stk : p.stuck = !may c s { S with told := T } := by rw [h.core.stk, hT]
      have blk := h.core.blk
      have Sgot := h.core.got
      have hmono : may c s S = true → may c s { S with told := T } = true := fun hm' => may_mono (S := S) (t := S.told) tT (by omega) hm'
      by_cases hA' : p.blocked = false ∨ p.stuck = true
      · -- nothing changes
        have hq : q = (p, 0, 0) := by
          show afterClearing (ru c s) p = _
          unfold afterClearing; rw [if_pos hA']
        have hno : ¬ (S.rest > 0 ∧ S.kept = false ∧ may c s { S with told := T } = true ∧ r.acks ≠ []) := by
          rintro ⟨x1, x2, x3, _⟩
          have hb := h.held x1 x2
          rcases hA' with x | x
          · rw [hb] at x; cases x
          · rw [stk, x3] at x; cases x
        have eS : acksS c s S r.acks = { S with told := T } := by unfold acksS; rw [hT, if_neg hno]
        have eW : acksW c s S r.acks = [] := by unfold acksW; rw [hT, if_neg hno]
        rw [eS, eW] at b2
        have hblk : p.blocked = !may c s { S with told := T } := by
          rcases hA' with x | x
          · rw [x] at blk ⊢
            have : may c s S = true := nb1 blk
            rw [hmono this] <;> rfl
          · rw [x] at stk
            have h1 : may c s { S with told := T } = false := nb2 stk
            have h2 : may c s S = false := by
              cases hh : may c s S with
              | false => rfl
              | true => rw [hmono hh] at h1; cases h1
            rw [blk, h2, h1]
        refine ⟨m2, _, by rw [hnoted, b1], by rw [b3, a3], by rw [b4, a4], Or.inl ⟨{ S with told := T }, L1, [], rc0 L1, ?_, fun _ => rfl, Or.inl rfl, by rw [hq]; exact h.prest⟩⟩
        rw [hq]
        refine ⟨b2, mk p hblk stk rfl rfl, h.prest, h.pkept, h.r0, h.r1, h.kr, h.held, by rw [L1rest]; exact h.lrest, by rw [L1kept]; exact h.lkept, by rw [L1sent]; exact h.lgot, by rw [L1mark, L1sent]; exact h.lmark, hlt.1, hlt.2, h.sfull, ?_, ?_, ?_, ?_, h.scame⟩
        · rw [b3, a3]; exact h.cons
        · rw [b3, a3, L1sent]; exact h.consl
        · show seg + 0 = S.came + L1.came + (0 : Nat); rw [L1came, hcame, h.segs]; omega
        · show ack + 0 = (m2.bare : Int) + (0 : Nat)
          rw [b5, hbare, h.acks]; omega
      · -- unblocked
        have hb : p.blocked = true := by cases e : p.blocked; exact absurd (Or.inl e) hA'; rfl
        have hst : p.stuck = false := by cases e : p.stuck; rfl; exact absurd (Or.inr e) hA'
        have hmT : may c s { S with told := T } = true := by
          rw [hst] at stk
          exact nb1 stk
        have hmS : may c s S = false := by
          rw [hb] at blk
          exact nb2 blk
        have hac : r.acks ≠ [] := by
          intro e
          have : T = S.told := by rw [← hT, e]; rfl
          rw [this] at hmT
          have : may c s { S with told := S.told } = may c s S := rfl
          rw [this, hmS] at hmT; cases hmT
        have hwne : ws ≠ [] := by
          intro e
          apply hac
          rw [← hrun, e]; rfl
        let p1 : Parts := { p with blocked := false, stuck := false }
        have C1 : Core c s { S with told := T } L1 p1 [] (rc0 L1) := mk p1 (by rw [hmT] <;> rfl) (by rw [hmT] <;> rfl) rfl rfl
        by_cases hB : p.rest = 0 ∨ p.kept = true
        · have hq : q = (p1, 0, 0) := by
            show afterClearing (ru c s) p = _
            unfold afterClearing; rw [if_neg hA']
            simp only []
            rw [if_pos hB]
          have hno : ¬ (S.rest > 0 ∧ S.kept = false ∧ may c s { S with told := T } = true ∧ r.acks ≠ []) := by
            rintro ⟨x1, x2, x3, _⟩
            rw [h.prest, h.pkept] at hB
            rcases hB with x | x
            · omega
            · rw [x] at x2; cases x2
          have eS : acksS c s S r.acks = { S with told := T } := by unfold acksS; rw [hT, if_neg hno]
          have eW : acksW c s S r.acks = [] := by unfold acksW; rw [hT, if_neg hno]
          rw [eS, eW] at b2
          refine ⟨m2, _, by rw [hnoted, b1], by rw [b3, a3], by rw [b4, a4], Or.inl ⟨{ S with told := T }, L1, [], rc0 L1, ?_, fun _ => rfl, Or.inl rfl, by rw [hq]; exact h.prest⟩⟩
          rw [hq]
          refine ⟨b2, C1, h.prest, h.pkept, h.r0, h.r1, h.kr, ?_, by rw [L1rest]; exact h.lrest, by rw [L1kept]; exact h.lkept, by rw [L1sent]; exact h.lgot, by rw [L1mark, L1sent]; exact h.lmark, hlt.1, hlt.2, h.sfull, ?_, ?_, ?_, ?_, h.scame⟩
          · intro x1 x2
            rw [h.prest, h.pkept] at hB
            rcases hB with x | x
            · have x1' : 0 < S.rest := x1; omega
            · have x2' : S.kept = false := x2; rw [x] at x2'; cases x2'
          · rw [b3, a3]; exact h.cons
          · rw [b3, a3, L1sent]; exact h.consl
          · show seg + 0 = S.came + L1.came + (0 : Nat); rw [L1came, hcame, h.segs]; omega
          · show ack + 0 = (m2.bare : Int) + (0 : Nat)
            rw [b5, hbare, h.acks]; omega
        · -- the rest is sent
          have hq : q = ((withPartial (ru c s) p1).1, 1, (withPartial (ru c s) p1).2) := by
            show afterClearing (ru c s) p = _
            unfold afterClearing; rw [if_neg hA']
            simp only []
            rw [if_neg hB]
          have x1 : 0 < S.rest := by
            have : ¬ p.rest = 0 := fun e => hB (Or.inl e)
            rw [h.prest] at this; omega
          have x2 : S.kept = false := by
            cases e : S.kept
            · rfl
            · exact absurd (Or.inr (by rw [h.pkept, e])) hB
          have hyes : S.rest > 0 ∧ S.kept = false ∧ may c s { S with told := T } = true ∧ r.acks ≠ [] := ⟨x1, x2, hmT, hac⟩
          have eS : acksS c s S r.acks = sendS c.size S.rest { S with told := T } := by unfold acksS; rw [hT, if_pos hyes]
          have eW : acksW c s S r.acks = [S.rest] := by unfold acksW; rw [hT, if_pos hyes]
          rw [eS, eW] at b2
          obtain ⟨C2, e2⟩ := core_partial ok C1 x1 h.r1
          have pr : (withPartial (ru c s) p1).1.rest = 0 := by unfold withPartial; split <;> rfl
          have pk : (withPartial (ru c s) p1).1.kept = false := by unfold withPartial; split <;> rfl
          have sk : (sendS c.size S.rest { S with told := T }).kept = false := by
            show (if 0 < S.rest ∧ S.rest < c.size then false else S.kept) = false
            rw [if_pos ⟨x1, h.r1⟩]
          have sr : (sendS c.size S.rest { S with told := T }).rest = 0 := by show S.rest - S.rest = 0; omega
          refine ⟨m2, _, by rw [hnoted, b1], by rw [b3, a3], by rw [b4, a4], Or.inl ⟨_, L1, [S.rest], rstepC c s (rc0 L1) S.rest, ?_, ?_, Or.inr sr, by rw [hq, sr, pr]⟩⟩
          · rw [hq]
            refine ⟨b2, C2, by rw [pr, sr], by rw [pk, sk], by rw [sr]; omega, by rw [sr]; exact ok.size, (fun e => by rw [sk] at e; cases e), (fun e => by rw [sr] at e; omega), by rw [L1rest]; exact h.lrest, by rw [L1kept]; exact h.lkept, by rw [L1sent]; exact h.lgot, by rw [L1mark, L1sent]; exact h.lmark, hlt.1, hlt.2, Or.inl rfl, ?_, ?_, ?_, ?_, h.scame⟩
            · rw [b3, a3, sr, ← h.cons]
              show S.sent + S.rest + 0 = _
              omega
            · rw [b3, a3, L1sent]; exact h.consl
            · show seg + 1 = S.came + L1.came + (1 : Nat); rw [L1came, hcame, h.segs]; omega
            · show ack + (withPartial (ru c s) p1).2 = (m2.bare : Int) + _
              rw [b5, hbare, h.acks, ← e2]
              show _ = (m.bare : Int) + r.acks.length + ((withPartial (ru c s) p1).2 + (0 : Nat))
              omega
          · rintro (x | x)
            · exact absurd x hwne
            · omega
end Lw
/-! LwE: a write keeps the relation; the end of a turn. -/
namespace Lw
theorem sends_succ' (c : Cfg) (b : Bool) : ∀ (n : Nat) (m : Mo), sends c b (n + 1) m = send c b c.size (sends c b n m)
  | 0, m => rfl
  | n + 1, m => by
    show sends c b (n + 1) (send c b c.size m) = _
    rw [sends_succ' c b n]
    rfl
theorem at_send {c : Cfg} {s : Bool} {m : Mo} {S L : Side} {ws as : List Int} {x : Int} (h : At s m S L ws as) (hx : x ≠ 0) :
    At s (send c s x m) (sendS c.size x S) L (ws ++ [x]) as ∧ (send c s x m).made = m.made ∧ (send c s x m).stalls = m.stalls ∧ (send c s x m).bare = m.bare := by
  obtain ⟨sp, li, wS, wL⟩ := h
  unfold send
  refine ⟨⟨?_, ?_, ?_, ?_⟩, rfl, rfl, ?_⟩
  · show fset m.side s _ s = _
    rw [fset_same, sp]
  · show fset m.side s _ (!s) = _
    rw [fset_not]; exact li
  · show fset m.way s (m.way s ++ [(x, (m.side s).got)]) s = _
    rw [fset_same, wS, sp, List.map_append]
    rfl
  · show fset m.way s _ (!s) = _
    rw [fset_not]; exact wL
  · show m.bare + (if x = 0 then 1 else 0) = m.bare
    rw [if_neg hx]; rfl
theorem sends_core {c : Cfg} {s : Bool} {L : Side} {p : Parts} {ws : List Int} {r : Rc} (ok : CfgOk c) : ∀ (n : Nat) {m : Mo} {S : Side}, At s m S L ws [] → Core c s S L p ws r →
    ∃ S' r', At s (sends c s n m) S' L (ws ++ List.replicate n c.size) [] ∧ Core c s S' L (withFull (ru c s) p n).1 (ws ++ List.replicate n c.size) r' ∧ S'.rest = S.rest - c.size * n ∧ S'.sent = S.sent + c.size * n ∧
      S'.kept = S.kept ∧ S'.got = S.got ∧ S'.came = S.came ∧ (S'.fulls = 0 ∨ (S'.fulls = S.fulls ∧ n = 0)) ∧ (withFull (ru c s) p n).2 + r.acks.length = (r'.acks.length : Int) ∧
      (sends c s n m).made = m.made ∧ (sends c s n m).stalls = m.stalls ∧ (sends c s n m).bare = m.bare ∧ (withFull (ru c s) p n).1.rest = p.rest ∧ (withFull (ru c s) p n).1.kept = p.kept
  | 0, m, S, h, C => by
    rw [show ((0 : Nat) : Int) = 0 from rfl, withFull_zero]
    refine ⟨S, r, by simpa [sends] using h, by simpa using C, by simp, by simp, rfl, rfl, rfl, Or.inr ⟨rfl, rfl⟩, by simp, rfl, rfl, rfl, rfl, rfl⟩
  | n + 1, m, S, h, C => by
    have v := core_valid ok C
    obtain ⟨S1, r1, a1, a2, a3, a4, a5, a6, a7, a8, a9, b1, b2, b3, b4, b5⟩ := sends_core ok n h C
    obtain ⟨w1, w2, w3⟩ := withFull_succ v n
    have hs := ok.size
    obtain ⟨c1, c2⟩ := core_full ok a2
    obtain ⟨d1, d2, d3, d4⟩ := at_send (c := c) (x := c.size) a1 (by omega)
    rw [show ((n + 1 : Nat) : Int) = (n : Int) + 1 from rfl, w1, sends_succ']
    have er : List.replicate (n + 1) c.size = List.replicate n c.size ++ [c.size] := by
      rw [List.replicate_succ']
    rw [er, ← List.append_assoc]
    have e : c.size * ((n : Int) + 1) = c.size * n + c.size := by rw [Int.mul_add, Int.mul_one]
    have kk : ∀ q : Parts, (full1 (ru c s) q).1.rest = q.rest ∧ (full1 (ru c s) q).1.kept = q.kept := by
      intro q; unfold full1; split <;> exact ⟨rfl, rfl⟩
    refine ⟨_, _, d1, c1, ?_, ?_, ?_, ?_, ?_, Or.inl rfl, ?_, by rw [d2, b1], by rw [d3, b2], by rw [d4, b3], by rw [(kk _).1, b4], by rw [(kk _).2, b5]⟩
    · show S1.rest - c.size = _; rw [a3, e]; omega
    · show S1.sent + c.size = _; rw [a4, e]; omega
    · show (if 0 < c.size ∧ c.size < c.size then false else S1.kept) = S.kept
      rw [if_neg (by omega), a5]
    · show S1.got = S.got; exact a6
    · show S1.came = S.came; exact a7
    · show (withFull (ru c s) p n).2 + (full1 (ru c s) (withFull (ru c s) p n).1).2 + _ = _
      rw [← c2, ← a9]; omega
theorem given_succ {c : Cfg} {k : Nat} (hk : k < c.words.length) (b : Bool) : given c (k + 1) b = given c k b + if (wd c k).who = b then (wd c k).len else 0 := by
  unfold given wd
  rw [List.take_add_one, List.getElem?_eq_getElem hk]
  have e : c.words.getD k ⟨false, 1, .plain⟩ = c.words[k] := by
    rw [List.getD_eq_getElem?_getD, List.getElem?_eq_getElem hk]; rfl
  rw [e]
  simp only [Option.toList, List.filter_append, List.map_append, List.sum_append]
  congr 1
  by_cases hb : c.words[k].who = b
  · rw [if_pos hb]; simp [hb]
  · rw [if_neg hb]; simp [hb]
theorem wd_mem {c : Cfg} {k : Nat} (hk : k < c.words.length) : wd c k ∈ c.words := by
  unfold wd
  rw [List.getD_eq_getElem?_getD, List.getElem?_eq_getElem hk]
  exact List.getElem_mem hk
/-- a write, within a turn -/
theorem write_R {c : Cfg} {s : Bool} {g0 c0 : Int} {m : Mo} {p : Parts} {seg ack : Int} {S L : Side} {ws : List Int} {r : Rc} (ok : CfgOk c) (h : R c s g0 c0 m p seg ack S L ws r)
    (hk : m.made < c.words.length) (hw : (wd c m.made).who = s) :
    let q := afterWrite (ru c s) p (wd c m.made).len (wd c m.made).how
    ∃ S' L' ws' r', R c s g0 c0 (write c m) q.1 (seg + q.2.1) (ack + q.2.2) S' L' ws' r' ∧ (write c m).made = m.made + 1 ∧ (write c m).stalls = m.stalls := by
  intro q
  have hs := ok.size
  have hlen := ok.len _ (wd_mem hk)
  generalize hlen' : (wd c m.made).len = len at *
  have r0 := h.r0
  have hsum : 0 ≤ S.rest + len := by omega
  have hdiv : 0 ≤ (S.rest + len) / c.size := Int.ediv_nonneg hsum (by omega)
  have hmod0 : 0 ≤ (S.rest + len) % c.size := Int.emod_nonneg _ (by omega)
  have hmod1 : (S.rest + len) % c.size < c.size := Int.emod_lt_of_pos _ hs
  have hem : c.size * ((S.rest + len) / c.size) + (S.rest + len) % c.size = S.rest + len := Int.mul_ediv_add_emod _ _
  obtain ⟨sp, li, wS, wL⟩ := h.at_
  let S1 : Side := { S with rest := S.rest + len, kept := false }
  let p1 : Parts := { p with rest := (p.rest + len) % c.size, kept := false }
  have hA : At s (wHead c (wd c m.made) m) S1 L ws [] := by
    unfold wHead
    rw [hw, hlen', sp]
    exact ⟨setSide_same m s S1, by rw [← li]; exact setSide_not m s S1, wS, wL⟩
  have hC : Core c s S1 L p1 ws r := core_cong h.core rfl rfl rfl rfl rfl rfl rfl
  have hn : nFull c (wd c m.made) m = ((S.rest + len) / c.size).toNat := by
    unfold nFull; rw [hw, hlen', sp]
  have hni : ((nFull c (wd c m.made) m : Nat) : Int) = (S.rest + len) / c.size := by rw [hn]; omega
  obtain ⟨S2, r2, a1, a2, a3, a4, a5, a6, a7, a8, a9, b1, b2, b3, b4, b5⟩ := sends_core ok (nFull c (wd c m.made) m) hA hC
  rw [hni] at a2 a3 a4 a9 b4 b5
  generalize hm2 : sends c s (nFull c (wd c m.made) m) (wHead c (wd c m.made) m) = m2 at *
  have made2 : m2.made = m.made + 1 := b1
  have st2 : m2.stalls = m.stalls := b2
  have bare2 : m2.bare = m.bare := b3
  have rest2 : S2.rest = (S.rest + len) % c.size := by rw [a3]; show S.rest + len - _ = _; omega
  have sent2 : S2.sent = S.sent + c.size * ((S.rest + len) / c.size) := a4
  have kept2 : S2.kept = false := a5
  have hwr : write c m = wTail c s (wd c m.made).how m2 := by
    unfold write
    simp only [hw]
    rw [hm2]
  have g1 := given_succ hk s
  rw [hw, if_pos rfl, hlen'] at g1
  have g2 := given_succ hk (!s)
  rw [hw, if_neg (ne_not s)] at g2
  have hq : q = afterWrite (ru c s) p len (wd c m.made).how := by rw [← hlen']
  have hpr : p.rest = S.rest := h.prest
  -- the parts behind the full segments
  generalize hQ : withFull (ru c s) p1 ((S.rest + len) / c.size) = Q at *
  have hlen2 : (ws ++ List.replicate (nFull c (wd c m.made) m) c.size).length = ws.length + nFull c (wd c m.made) m := by simp
  have hsegs := h.segs
  have hacks := h.acks
  have hcons := h.cons
  have hconsl := h.consl
  -- what all ways share
  have fin : ∀ (m3 : Mo) (S3 : Side) (p3 : Parts) (ws3 : List Int) (r3 : Rc) (sg ac : Int), At s m3 S3 L ws3 [] → Core c s S3 L p3 ws3 r3 → p3.rest = S3.rest → p3.kept = S3.kept → 0 ≤ S3.rest → S3.rest < c.size → (S3.kept = true → 0 < S3.rest) →
      (0 < S3.rest → S3.kept = false → p3.blocked = true) → S3.got = S.got → (S3.fulls = 0 ∨ S3.sent = g0) → S3.sent + S3.rest = S.sent + S.rest + len → m3.made = m.made + 1 → m3.bare = m.bare → seg + sg = S3.came + L.came + ws3.length → ac + r.acks.length = (r3.acks.length : Int) → S3.came = S.came →
      R c s g0 c0 m3 p3 (seg + sg) (ack + ac) S3 L ws3 r3 := by
    intro m3 S3 p3 ws3 r3 sg ac q1 q2 q3 q4 q5 q6 q7 q8 q9 q10 q11 q12 q13 q14 q15 q16
    refine ⟨q1, q2, q3, q4, q5, q6, q7, q8, h.lrest, h.lkept, by rw [q9]; exact h.lgot, h.lmark, h.ltold, h.lheard, q10, by rw [q12, g1]; omega, by rw [q12, g2]; omega, q14, ?_, by rw [q16]; exact h.scame⟩
    rw [q13, hacks]; omega
  have sf2 : S2.fulls = 0 ∨ S2.sent = g0 := by
    rcases a8 with x | ⟨x, y⟩
    · exact Or.inl x
    · rcases h.sfull with z | z
      · left; rw [x]; exact z
      · right
        have : (S.rest + len) / c.size = 0 := by rw [← hni, y]; rfl
        rw [sent2, this, z]; omega
  have sum2 : S2.sent + S2.rest = S.sent + S.rest + len := by rw [sent2, rest2]; omega
  have seg2 : seg + (S.rest + len) / c.size = S2.came + L.came + ((ws ++ List.replicate (nFull c (wd c m.made) m) c.size).length : Nat) := by
    rw [hlen2, hsegs, a7]
    show _ = S.came + L.came + ((ws.length + nFull c (wd c m.made) m : Nat) : Int)
    rw [Int.natCast_add, hni]; omega
  have g2got : S2.got = S.got := a6
  rw [hwr]
  by_cases hA1 : 0 < (S.rest + len) % c.size ∧ (wd c m.made).how = .more
  · -- kept
    have eq1 : q = ({ Q.1 with rest := (S.rest + len) % c.size, kept := true }, (S.rest + len) / c.size, Q.2) := by
      rw [hq]; unfold afterWrite
      simp only [hpr]
      rw [show (ru c s).size = c.size from rfl]
      have : withFull (ru c s) { p with rest := (S.rest + len) % c.size, kept := false } ((S.rest + len) / c.size) = Q := by rw [← hQ]; simp only [p1, hpr]
      rw [this, if_pos hA1]
    have ew : wTail c s (wd c m.made).how m2 = setSide m2 s { S2 with kept := true } := by
      unfold wTail
      rw [a1.sp, if_pos ⟨by rw [rest2]; exact hA1.1, hA1.2⟩]
    rw [eq1, ew]
    refine ⟨{ S2 with kept := true }, L, _, r2, fin _ { S2 with kept := true } _ _ r2 _ _ ⟨setSide_same _ _ _, by rw [setSide_not]; exact a1.li, a1.wS, a1.wL⟩ (core_cong a2 rfl rfl rfl rfl rfl rfl rfl) rest2.symm rfl ?_ ?_ (fun _ => ?_) (fun _ e => by cases e) g2got sf2 sum2 made2 bare2 seg2 a9 a7, made2, st2⟩
    · show 0 ≤ S2.rest; rw [rest2]; exact hmod0
    · show S2.rest < c.size; rw [rest2]; exact hmod1
    · show 0 < S2.rest; rw [rest2]; exact hA1.1
  · by_cases hA2 : 0 < (S.rest + len) % c.size ∧ ((wd c m.made).how = .push ∨ Q.1.blocked = false)
    · -- sent
      have eq1 : q = ((withPartial (ru c s) Q.1).1, (S.rest + len) / c.size + 1, Q.2 + (withPartial (ru c s) Q.1).2) := by
        rw [hq]; unfold afterWrite
        simp only [hpr]
        rw [show (ru c s).size = c.size from rfl]
        have : withFull (ru c s) { p with rest := (S.rest + len) % c.size, kept := false } ((S.rest + len) / c.size) = Q := by rw [← hQ]; simp only [p1, hpr]
        rw [this, if_neg hA1, if_pos hA2]
      have ew : wTail c s (wd c m.made).how m2 = send c s S2.rest m2 := by
        unfold wTail
        rw [a1.sp, if_neg (by rw [rest2]; exact hA1), if_pos]
        refine ⟨by rw [rest2]; exact hA2.1, ?_⟩
        rcases hA2.2 with x | x
        · exact Or.inl x
        · right
          have := a2.blk
          rw [x] at this
          exact nb1 this
      have x0 : 0 < S2.rest := by rw [rest2]; exact hA2.1
      have x1 : S2.rest < c.size := by rw [rest2]; exact hmod1
      obtain ⟨c1, c2⟩ := core_partial ok a2 x0 x1
      obtain ⟨d1, d2, d3, d4⟩ := at_send (c := c) (x := S2.rest) a1 (by omega)
      have pr : (withPartial (ru c s) Q.1).1.rest = 0 := by unfold withPartial; split <;> rfl
      have pk : (withPartial (ru c s) Q.1).1.kept = false := by unfold withPartial; split <;> rfl
      have sk : (sendS c.size S2.rest S2).kept = false := by
        show (if 0 < S2.rest ∧ S2.rest < c.size then false else S2.kept) = false
        rw [if_pos ⟨x0, x1⟩]
      have sr : (sendS c.size S2.rest S2).rest = 0 := by show S2.rest - S2.rest = 0; omega
      rw [eq1, ew]
      refine ⟨_, L, _, _, fin _ _ _ _ _ _ _ d1 c1 (by rw [pr, sr]) (by rw [pk, sk]) (by rw [sr]; omega) (by rw [sr]; exact hs) (fun e => by rw [sk] at e; cases e) (fun e => by rw [sr] at e; omega) g2got (Or.inl rfl) ?_ (by rw [d2]; exact made2) (by rw [d4]; exact bare2) ?_ ?_ a7, by rw [d2]; exact made2, by rw [d3]; exact st2⟩
      · rw [sr]; show S2.sent + S2.rest + 0 = _; omega
      · show seg + ((S.rest + len) / c.size + 1) = S2.came + L.came + ((ws ++ List.replicate (nFull c (wd c m.made) m) c.size ++ [S2.rest]).length : Nat)
        rw [List.length_append, Int.natCast_add]
        simp only [List.length_singleton]
        omega
      · show Q.2 + (withPartial (ru c s) Q.1).2 + (r.acks.length : Int) = _
        rw [← c2]; omega
    · -- held, or nothing
      have eq1 : q = (Q.1, (S.rest + len) / c.size, Q.2) := by
        rw [hq]; unfold afterWrite
        simp only [hpr]
        rw [show (ru c s).size = c.size from rfl]
        have : withFull (ru c s) { p with rest := (S.rest + len) % c.size, kept := false } ((S.rest + len) / c.size) = Q := by rw [← hQ]; simp only [p1, hpr]
        rw [this, if_neg hA1, if_neg hA2]
      have ew : wTail c s (wd c m.made).how m2 = m2 := by
        unfold wTail
        rw [a1.sp, if_neg (by rw [rest2]; exact hA1), if_neg]
        rintro ⟨y1, y2⟩
        rw [rest2] at y1
        refine hA2 ⟨y1, ?_⟩
        rcases y2 with x | x
        · exact Or.inl x
        · right
          rw [a2.blk, x] <;> rfl
      have pr : Q.1.rest = (S.rest + len) % c.size := by rw [b4]; show (p.rest + len) % c.size = _; rw [hpr]
      have pk : Q.1.kept = false := b5
      rw [eq1, ew]
      refine ⟨S2, L, _, r2, fin _ S2 _ _ r2 _ _ a1 a2 (by rw [pr, rest2]) (by rw [pk, kept2]) (by rw [rest2]; exact hmod0) (by rw [rest2]; exact hmod1) (fun e => by rw [kept2] at e; cases e) ?_ g2got sf2 sum2 made2 bare2 seg2 a9 a7, made2, st2⟩
      intro y1 _
      rw [rest2] at y1
      cases e : Q.1.blocked
      · exact absurd ⟨y1, Or.inr e⟩ hA2
      · rfl
end Lw
/-! LwF: settling, the end of a turn. -/
namespace Lw
/-! ### the potential -/
def wgt (w : List (Int × Int)) : Nat := (w.map fun x => if x.1 = 0 then 1 else 2).sum
def rsw (s : Side) : Nat := if s.rest = 0 then 0 else 3
def phiB (m : Mo) (a : Bool) : Nat := wgt (m.way a) + wgt (m.way (!a)) + rsw (m.side a) + rsw (m.side (!a))
def phi (m : Mo) : Nat := phiB m false
theorem phiB_eq (m : Mo) (a : Bool) : phiB m a = phi m := by
  unfold phi phiB
  cases a
  · rfl
  · show wgt (m.way true) + wgt (m.way false) + rsw (m.side true) + rsw (m.side false) = wgt (m.way false) + wgt (m.way true) + rsw (m.side false) + rsw (m.side true)
    omega
theorem wgt_snoc (w : List (Int × Int)) (x : Int × Int) : wgt (w ++ [x]) = wgt w + if x.1 = 0 then 1 else 2 := by
  unfold wgt
  rw [List.map_append, List.sum_append]
  simp
theorem wgt_cons (w : List (Int × Int)) (x : Int × Int) : wgt (x :: w) = (if x.1 = 0 then 1 else 2) + wgt w := by
  unfold wgt; simp
theorem len_wgt (w : List (Int × Int)) : w.length ≤ wgt w := by
  induction w with
  | nil => exact Nat.le_refl _
  | cons x w ih => rw [wgt_cons, List.length_cons]; split <;> omega
theorem way_phi (m : Mo) (a : Bool) : (m.way a).length ≤ phi m := by
  rw [← phiB_eq m a]
  have := len_wgt (m.way a)
  unfold phiB
  omega
theorem send_way_not (c : Cfg) (b : Bool) (x : Int) (m : Mo) : (send c b x m).way (!b) = m.way (!b) := by unfold send; exact fset_not _ _ _
theorem send_side_not (c : Cfg) (b : Bool) (x : Int) (m : Mo) : (send c b x m).side (!b) = m.side (!b) := by unfold send; exact fset_not _ _ _
theorem send_way (c : Cfg) (b : Bool) (x : Int) (m : Mo) : (send c b x m).way b = m.way b ++ [(x, (m.side b).got)] := by unfold send; exact fset_same _ _ _
theorem send_side (c : Cfg) (b : Bool) (x : Int) (m : Mo) : (send c b x m).side b = sendS c.size x (m.side b) := by unfold send; exact fset_same _ _ _
theorem phi_send0 (c : Cfg) (b : Bool) (m : Mo) : phi (send c b 0 m) = phi m + 1 := by
  rw [← phiB_eq _ b, ← phiB_eq m b]
  unfold phiB
  rw [send_way_not, send_side_not, send_way, send_side, wgt_snoc]
  have : rsw (sendS c.size 0 (m.side b)) = rsw (m.side b) := by unfold rsw sendS; simp
  rw [this]
  simp
  omega
theorem phi_send_rest (c : Cfg) (b : Bool) (m : Mo) (h : (m.side b).rest ≠ 0) : phi (send c b (m.side b).rest m) + 1 = phi m := by
  rw [← phiB_eq _ b, ← phiB_eq m b]
  unfold phiB
  rw [send_way_not, send_side_not, send_way, send_side, wgt_snoc]
  have : rsw (sendS c.size (m.side b).rest (m.side b)) = 0 := by unfold rsw sendS; simp
  rw [this]
  have : rsw (m.side b) = 3 := by unfold rsw; rw [if_neg h]
  rw [this]
  simp [h]
  omega
theorem phi_setSide (m : Mo) (b : Bool) (S : Side) (h : S.rest = (m.side b).rest) : phi (setSide m b S) = phi m := by
  rw [← phiB_eq _ b, ← phiB_eq m b]
  unfold phiB
  rw [setSide_same, setSide_not]
  have : rsw S = rsw (m.side b) := by unfold rsw; rw [h]
  rw [this]
  rfl
theorem phi_arrAck (c : Cfg) (b : Bool) (v : Int) (m : Mo) : phi (arrAck c b v m) ≤ phi m := by
  unfold arrAck
  have e := phi_setSide m b { m.side b with told := max (m.side b).told v } rfl
  generalize setSide m b { m.side b with told := max (m.side b).told v } = m1 at *
  simp only
  split
  · rename_i h
    have := phi_send_rest c b m1 (by omega)
    omega
  · omega
theorem arrGot_eq (c : Cfg) (b : Bool) (n : Int) (m : Mo) : ∃ S1 : Side, S1.rest = (m.side b).rest ∧ (arrGot c b n m = send c b 0 (setSide m b S1) ∨ arrGot c b n m = setSide m b S1) :=
  ⟨{ m.side b with got := (m.side b).got + n, came := (m.side b).came + 1, fulls := (m.side b).fulls + (if n = c.size then 1 else 0) }, rfl, by
    unfold arrGot
    simp only
    by_cases hz : (m.side b).came + 1 ≤ (c.rule b).quick ∨ (n = c.size ∧ (m.side b).fulls + (if n = c.size then 1 else 0) = (c.rule b).every)
    · left; exact if_pos hz
    · right; exact if_neg hz⟩
theorem phi_arrGot (c : Cfg) (b : Bool) (n : Int) (m : Mo) : phi (arrGot c b n m) ≤ phi m + 1 := by
  obtain ⟨S1, e, h | h⟩ := arrGot_eq c b n m
  · rw [h, phi_send0, phi_setSide _ _ _ e]
    exact Nat.le_refl _
  · rw [h, phi_setSide _ _ _ e]
    omega
theorem arrAck_way (c : Cfg) (b : Bool) (v : Int) (m : Mo) : (arrAck c b v m).way (!b) = m.way (!b) := by
  unfold arrAck
  simp only
  split
  · rw [send_way_not]; rfl
  · rfl
theorem arrGot_way (c : Cfg) (b : Bool) (n : Int) (m : Mo) : (arrGot c b n m).way (!b) = m.way (!b) := by
  obtain ⟨S1, e, h | h⟩ := arrGot_eq c b n m
  · rw [h, send_way_not]; rfl
  · rw [h]; rfl
theorem arrive_way (c : Cfg) (a : Bool) (m : Mo) : (arrive c a m).way a = (m.way a).tail := by
  unfold arrive
  split
  · rename_i h; rw [h]; rfl
  · rename_i x y r h
    have e : ∀ (m : Mo), (arrAck c (!a) y m).way a = m.way a := fun m => by
      have := arrAck_way c (!a) y m
      rwa [Bool.not_not] at this
    have e2 : ∀ (m : Mo), (arrGot c (!a) x m).way a = m.way a := fun m => by
      have := arrGot_way c (!a) x m
      rwa [Bool.not_not] at this
    simp only
    split
    · rw [e2, e]; show fset m.way a r a = _; rw [fset_same, h]; rfl
    · rw [e]; show fset m.way a r a = _; rw [fset_same, h]; rfl
theorem phi_arrive (c : Cfg) (a : Bool) (m : Mo) (h : m.way a ≠ []) : phi (arrive c a m) + 1 ≤ phi m := by
  unfold arrive
  split
  · rename_i e; exact absurd e h
  · rename_i x y r e
    have e1 : phi { m with way := fset m.way a r } + (if x = 0 then 1 else 2) = phi m := by
      rw [← phiB_eq _ a, ← phiB_eq m a]
      unfold phiB
      simp only [fset_same, fset_not]
      rw [e, wgt_cons]
      dsimp only
      omega
    have e2 := phi_arrAck c (!a) y { m with way := fset m.way a r }
    simp only
    split
    · rename_i hx
      have e3 := phi_arrGot c (!a) x (arrAck c (!a) y { m with way := fset m.way a r })
      rw [if_neg (by omega)] at e1
      omega
    · split at e1 <;> omega
theorem arrN_phi (c : Cfg) (a : Bool) : ∀ (n : Nat) (x : ML), n ≤ (x.1.way a).length → phi (arrN c a n x).1 + (arrN c a n x).2.length ≤ phi x.1 + x.2.length
  | 0, x, _ => Nat.le_refl _
  | n + 1, x, h => by
    show phi (arrN c a n (arrOne c a x)).1 + (arrN c a n (arrOne c a x)).2.length ≤ _
    unfold arrOne
    by_cases ho : over c x.1 = true
    · rw [if_pos ho, arrN_over ho]; exact Nat.le_refl _
    · rw [if_neg ho]
      have hw : x.1.way a ≠ [] := by intro e; rw [e] at h; simp at h
      have := arrN_phi c a n (does c (.arr a) x) (by
        show n ≤ ((arrive c a x.1).way a).length
        rw [arrive_way, List.length_tail]; omega)
      have h2 := phi_arrive c a x.1 hw
      have h3 : phi (does c (.arr a) x).1 + (does c (.arr a) x).2.length ≤ phi x.1 + x.2.length := by
        show phi (arrive c a x.1) + (x.2 ++ [Ev.arr a]).length ≤ _
        rw [List.length_append]; simp; omega
      omega
theorem arrN_log (c : Cfg) (a : Bool) : ∀ (n : Nat) (x : ML), x.2.length ≤ (arrN c a n x).2.length
  | 0, x => Nat.le_refl _
  | n + 1, x => by
    show _ ≤ (arrN c a n (arrOne c a x)).2.length
    refine Nat.le_trans ?_ (arrN_log c a n _)
    unfold arrOne
    split
    · exact Nat.le_refl _
    · show x.2.length ≤ (x.2 ++ [Ev.arr a]).length
      rw [List.length_append]; omega
theorem arrN_stay (c : Cfg) (a : Bool) : ∀ (n : Nat) (x : ML), (arrN c a n x).2.length = x.2.length → arrN c a n x = x
  | 0, x, _ => rfl
  | n + 1, x, h => by
    have h1 : (arrN c a n (arrOne c a x)).2.length = x.2.length := h
    show arrN c a n (arrOne c a x) = x
    unfold arrOne at h1 ⊢
    by_cases ho : over c x.1 = true
    · rw [if_pos ho]; exact arrN_over ho n
    · rw [if_neg ho] at h1
      have := arrN_log c a n (does c (.arr a) x)
      have e : (does c (.arr a) x).2.length = x.2.length + 1 := by show (x.2 ++ [Ev.arr a]).length = _; simp
      omega
theorem noted_phi (c : Cfg) (x : ML) : phi (noted c x).1 + (noted c x).2.length ≤ phi x.1 + x.2.length := by
  unfold noted
  split
  · exact Nat.le_refl _
  · exact Nat.le_trans (arrN_phi c _ _ _ (Nat.le_refl _)) (arrN_phi c _ _ _ (Nat.le_refl _))
theorem noted_log (c : Cfg) (x : ML) : x.2.length ≤ (noted c x).2.length := by
  unfold noted
  split
  · exact Nat.le_refl _
  · exact Nat.le_trans (arrN_log c _ _ _) (arrN_log c _ _ _)
theorem noted_stay (c : Cfg) (x : ML) (h : (noted c x).2.length = x.2.length) : noted c x = x := by
  unfold noted at h ⊢
  split
  · rfl
  · rename_i hc
    rw [if_neg hc] at h
    simp only at h ⊢
    generalize hy : arrN c (wd c (x.1.made - 1)).who (x.1.way (wd c (x.1.made - 1)).who).length x = y at *
    have l1 : x.2.length ≤ y.2.length := by rw [← hy]; exact arrN_log c _ _ _
    have l2 := arrN_log c (!(wd c (x.1.made - 1)).who) (y.1.way (!(wd c (x.1.made - 1)).who)).length y
    have e1 : y = x := by
      rw [← hy]
      exact arrN_stay c _ _ _ (by rw [hy]; omega)
    rw [arrN_stay c _ _ _ (by omega), e1]
def settleF (c : Cfg) : Nat → ML → ML
  | 0, x => x
  | n + 1, x => if x.2.length < (noted c x).2.length then settleF c n (noted c x) else noted c x
def settle (c : Cfg) (x : ML) : ML := settleF c (phi x.1 + 1) x
theorem settleF_more (c : Cfg) : ∀ (n k : Nat) (x : ML), phi x.1 + 1 ≤ n → phi x.1 + 1 ≤ k → settleF c n x = settleF c k x
  | 0, k, x, h, _ => by omega
  | n + 1, 0, x, _, h => by omega
  | n + 1, k + 1, x, h, h' => by
    show (if x.2.length < (noted c x).2.length then settleF c n (noted c x) else noted c x) = if x.2.length < (noted c x).2.length then settleF c k (noted c x) else noted c x
    split
    · have := noted_phi c x
      exact settleF_more c n k (noted c x) (by omega) (by omega)
    · rfl
theorem settle_eq (c : Cfg) (x : ML) : settle c x = if x.2.length < (noted c x).2.length then settle c (noted c x) else noted c x := by
  show settleF c (phi x.1 + 1) x = _
  show (if x.2.length < (noted c x).2.length then settleF c (phi x.1) (noted c x) else noted c x) = _
  split
  · have := noted_phi c x
    exact settleF_more c (phi x.1) _ (noted c x) (by omega) (Nat.le_refl _)
  · rfl
theorem settle_still {c : Cfg} {x : ML} (h : noted c x = x) : settle c x = x := by
  rw [settle_eq, h, if_neg (Nat.lt_irrefl _)]
theorem settle_noted (c : Cfg) (x : ML) : settle c x = settle c (noted c x) := by
  by_cases h : x.2.length < (noted c x).2.length
  · rw [settle_eq, if_pos h]
  · have := noted_log c x
    rw [noted_stay c x (by omega)]
theorem settle_phi (c : Cfg) (x : ML) : phi (settle c x).1 + (settle c x).2.length ≤ phi x.1 + x.2.length := by
  have : ∀ (n : Nat) (x : ML), phi (settleF c n x).1 + (settleF c n x).2.length ≤ phi x.1 + x.2.length := by
    intro n
    induction n with
    | zero => intro x; exact Nat.le_refl _
    | succ n ih =>
      intro x
      show phi (if x.2.length < (noted c x).2.length then settleF c n (noted c x) else noted c x).1 + (if x.2.length < (noted c x).2.length then settleF c n (noted c x) else noted c x).2.length ≤ _
      split
      · exact Nat.le_trans (ih _) (noted_phi c x)
      · exact noted_phi c x
  exact this _ x
def lawEnd (c : Cfg) (x : ML) : ML :=
  let y := settle c x
  let z := if due c y.1 = true then does c .timer y else y
  let u := settle c z
  if due c u.1 = true then does c .timer u else u
def roadEnd (c : Cfg) (x : ML) : ML :=
  let y := settle c x
  if due c y.1 = true then settle c (does c .timer y) else y
end Lw
/-! LwG: the end of a turn: both readings, the states. -/
namespace Lw
theorem ac_rest0 {ru : Ru} {p : Parts} (h : p.rest = 0) : (afterClearing ru p).1.rest = 0 ∧ (afterClearing ru p).2 = (0, 0) ∧ (afterClearing ru p).1.kept = p.kept ∧ (afterClearing ru p).1.quick = p.quick := by
  unfold afterClearing
  split
  · exact ⟨h, rfl, rfl, rfl⟩
  · simp only
    rw [if_pos (Or.inl h)]
    exact ⟨h, rfl, rfl, rfl⟩
/-- what a state behind all is like -/
structure Calm (c : Cfg) (s : Bool) (g0 c0 : Int) (m : Mo) (p : Parts) (seg ack : Int) : Prop where
  ex : ∃ S L r, R c s g0 c0 m p seg ack S L [] r
  no : over c m = false
theorem noted_nil {c : Cfg} {s : Bool} {m : Mo} {lg : List Ev} (hw : (wd c (m.made - 1)).who = s) (h1 : m.way s = []) (h2 : m.way (!s) = []) : noted c (m, lg) = (m, lg) := by
  unfold noted
  split
  · rfl
  · simp only [hw, h1]
    show arrN c (!s) (m.way (!s)).length (m, lg) = (m, lg)
    rw [h2]; rfl
theorem noted_over {c : Cfg} {m : Mo} {lg : List Ev} (h : over c m = true) : noted c (m, lg) = (m, lg) := by
  unfold noted; rw [if_pos (Or.inr h)]
theorem settle_R {c : Cfg} {s : Bool} {g0 c0 : Int} {m : Mo} {p : Parts} {seg ack : Int} {S L : Side} {ws : List Int} {r : Rc} (ok : CfgOk c) (h : R c s g0 c0 m p seg ack S L ws r)
    (hm : m.made ≠ 0) (hw : (wd c (m.made - 1)).who = s) (lg : List Ev) :
    let a := afterClearing (ru c s) p
    let b := afterClearing (ru c s) a.1
    ∃ m' lg', settle c (m, lg) = (m', lg') ∧ settle c (m', lg') = (m', lg') ∧ m'.made = m.made ∧ m'.stalls = m.stalls ∧
      (Calm c s g0 c0 m' b.1 (seg + (a.2.1 + b.2.1)) (ack + (a.2.2 + b.2.2)) ∨ (Fin c m' (seg + (a.2.1 + b.2.1)) (ack + (a.2.2 + b.2.2)) ∧ b.1.rest = 0)) := by
  intro a b
  obtain ⟨m1, l1, e1, md1, st1, H1⟩ := clear_R ok h hm hw lg
  have es : settle c (m, lg) = settle c (m1, l1) := by rw [settle_noted, e1]
  rcases H1 with ⟨S1, L1, ws1, r1, R1, n1, k1, pr1⟩ | ⟨F1, hr⟩
  · have hm1 : m1.made ≠ 0 := by rw [md1]; exact hm
    have hw1 : (wd c (m1.made - 1)).who = s := by rw [md1]; exact hw
    obtain ⟨m2, l2, e2, md2, st2, H2⟩ := clear_R ok R1 hm1 hw1 l1
    have es2 : settle c (m, lg) = settle c (m2, l2) := by rw [es, settle_noted, e2]
    rcases H2 with ⟨S2, L2, ws2, r2, R2, n2, k2, pr2⟩ | ⟨F2, hr2⟩
    · have hws2 : ws2 = [] := n2 k1
      subst hws2
      have still : noted c (m2, l2) = (m2, l2) := noted_nil (s := s) (by rw [md2]; exact hw1) (by rw [R2.at_.wS]; rfl) (by rw [R2.at_.wL]; rfl)
      refine ⟨m2, l2, by rw [es2, settle_still still], settle_still still, by rw [md2, md1], by rw [st2, st1], ?_⟩
      have R2' : R c s g0 c0 m2 b.1 (seg + (a.2.1 + b.2.1)) (ack + (a.2.2 + b.2.2)) S2 L2 [] r2 := by
        rw [← Int.add_assoc, ← Int.add_assoc]; exact R2
      cases ho : over c m2 with
      | false => exact Or.inl ⟨⟨S2, L2, r2, R2'⟩, ho⟩
      | true =>
        obtain ⟨f, _, hr⟩ := R2'.fin ho
        exact Or.inr ⟨f, by rw [R2'.prest, hr]⟩
    · have still := noted_over (lg := l2) F2.ov
      refine ⟨m2, l2, by rw [es2, settle_still still], settle_still still, by rw [md2, md1], by rw [st2, st1], Or.inr ⟨?_, ?_⟩⟩
      · rw [← Int.add_assoc, ← Int.add_assoc]; exact F2
      · exact (ac_rest0 (by rw [R1.prest, hr2])).1
  · have still := noted_over (lg := l1) F1.ov
    have a0 := ac_rest0 (ru := ru c s) (p := p) (by rw [h.prest, hr])
    have b0 := ac_rest0 (ru := ru c s) a0.1
    refine ⟨m1, l1, by rw [es, settle_still still], settle_still still, md1, st1, Or.inr ⟨?_, b0.1⟩⟩
    have eb : b.2 = (0, 0) := b0.2.1
    rw [show b.2.1 = 0 by rw [eb], show b.2.2 = 0 by rw [eb], Int.add_zero, Int.add_zero]
    exact F1
/-- where a turn begins -/
structure Start (c : Cfg) (s : Bool) (m : Mo) (qk : Bool → Int) (seg ack : Int) : Prop where
  ex : ∃ S L, R c s L.got S.came m (parts0 (qk (!s))) seg ack S L [] (rc0 L) ∧ qk s = max 0 ((c.rule s).quick - S.came)
/-- a turn's end leads to the next turn's start -/
theorem calm_start {c : Cfg} {s : Bool} {g0 c0 : Int} {m : Mo} {p : Parts} {seg ack : Int} {qk : Bool → Int} (ok : CfgOk c) (h : Calm c s g0 c0 m p seg ack) (hr : p.rest = 0)
    (hq : qk s = max 0 ((c.rule s).quick - c0)) (hg : g0 < given c m.made s) : Start c (!s) m (fset qk (!s) p.quick) seg ack := by
  obtain ⟨⟨S, L, r, h⟩, ho⟩ := h
  have hS : S.rest = 0 := by rw [← h.prest, hr]
  have hr0 : r = rc0 L := h.core.run_
  subst hr0
  have hsum := core_sum h.core
  simp only [List.sum_nil, Int.add_zero] at hsum
  have hcons := h.cons
  have hLg : g0 < L.got := by omega
  have hlt : L.told = L.sent := by
    rcases h.lheard with x | x
    · exact x
    · omega
  have hsf : S.fulls = 0 := by
    rcases h.sfull with x | x
    · exact x
    · omega
  have hle := h.core.tle
  have hml : may c (!s) L = true := by
    unfold may
    have := h.lmark
    cases hh : (c.rule (!s)).hold <;> simp <;> omega
  have hsk : S.kept = false := by
    cases e : S.kept
    · rfl
    · have := h.kr e; omega
  have e1 : first c (!s) = (c.rule s).quick := by show (c.rule (!(!s))).quick = _; rw [Bool.not_not]
  refine ⟨L, S, ⟨⟨h.at_.li, by rw [Bool.not_not]; exact h.at_.sp, by rw [h.at_.wL]; rfl, by rw [Bool.not_not, h.at_.wS]; rfl⟩, ?_, ?_, ?_, ?_, ?_, ?_, ?_, hS, hsk, by omega, h.core.mle, by omega, Or.inr rfl, Or.inr ?_, ?_, ?_, ?_, ?_, rfl⟩, ?_⟩
  · refine ⟨rfl, fun n hn => (List.not_mem_nil hn).elim, ?_, ?_, h.lmark, fun a ha => (List.not_mem_nil ha).elim, Int.le_refl _, ?_, ?_, ?_, ?_, ?_, ?_⟩
    · show S.got = L.sent; exact h.lgot
    · rw [h.lgot]; exact h.ltold
    · show false = !may c (!s) L; rw [hml] <;> rfl
    · show false = !may c (!s) { L with told := top L.told [] }
      show false = !may c (!s) L
      rw [hml] <;> rfl
    · show (0 : Int) = if every c (!s) = 0 then 0 else S.fulls
      rw [hsf]; split <;> rfl
    · show 0 ≤ S.fulls; omega
    · show 0 < every c (!s) → S.fulls < every c (!s)
      rw [hsf]; exact id
    · show (fset qk (!s) p.quick) (!(!s)) = max 0 (first c (!s) - S.came)
      rw [Bool.not_not, fset_not', hq, e1, h.scame]
  · show (0 : Int) = L.rest; exact h.lrest.symm
  · show false = L.kept; exact h.lkept.symm
  · rw [h.lrest]; exact Int.le_refl _
  · rw [h.lrest]; exact ok.size
  · intro e; rw [h.lkept] at e; cases e
  · intro e; rw [h.lrest] at e; omega
  · exact h.lgot.symm
  · rw [h.lrest, h.consl]; omega
  · rw [Bool.not_not]; omega
  · rw [h.segs]; simp; omega
  · have := h.acks; simpa using this
  · rw [fset_same, h.core.qk]
theorem due_calm {c : Cfg} {s : Bool} {g0 c0 : Int} {m : Mo} {p : Parts} {seg ack : Int} (h : Calm c s g0 c0 m p seg ack) (hmx : m.made ≤ c.words.length) (hn : m.made < c.words.length → (wd c m.made).who = !s) :
    (p.rest = 0 → due c m = false ∧ m.made < c.words.length) ∧ (p.rest ≠ 0 → due c m = true ∧ heard c m (!s) = false) := by
  obtain ⟨⟨S, L, r, h⟩, ho⟩ := h
  have hsum := core_sum h.core
  simp only [List.sum_nil, Int.add_zero] at hsum
  have hcons := h.cons
  have hpr := h.prest
  have hh1 : heard c m (!s) = decide (L.got = given c m.made s) := by unfold heard; rw [h.at_.li, Bool.not_not]
  have hh2 : heard c m s = true := by
    unfold heard
    rw [h.at_.sp, h.lgot, h.consl]
    exact decide_eq_true rfl
  constructor
  · intro e
    have hT : heard c m (!s) = true := by rw [hh1]; exact decide_eq_true (by omega)
    have hlt : m.made < c.words.length := by
      refine Nat.lt_of_le_of_ne hmx fun q => ?_
      have : over c m = true := by
        unfold over
        rw [decide_eq_true q]
        cases s
        · have a1 : heard c m false = true := hh2
          have a2 : heard c m true = true := hT
          rw [a1, a2]; rfl
        · have a1 : heard c m true = true := hh2
          have a2 : heard c m false = true := hT
          rw [a1, a2]; rfl
      rw [this] at ho; cases ho
    refine ⟨?_, hlt⟩
    have : canWrite c m = true := by
      unfold canWrite
      rw [hn hlt, hT, decide_eq_true hlt] <;> rfl
    unfold due
    rw [this]
    simp
  · intro e
    have hF : heard c m (!s) = false := by rw [hh1]; exact decide_eq_false (by omega)
    refine ⟨?_, hF⟩
    have : canWrite c m = false := by
      unfold canWrite
      by_cases hlt : m.made < c.words.length
      · rw [hn hlt, hF]; simp
      · rw [decide_eq_false hlt] <;> rfl
    unfold due
    rw [this, ho]
    have w1 : m.way s = [] := by rw [h.at_.wS]; rfl
    have w2 : m.way (!s) = [] := by rw [h.at_.wL]; rfl
    cases s
    · rw [w1, show m.way true = [] from w2]; rfl
    · rw [w1, show m.way false = [] from w2]; rfl
theorem over_due {c : Cfg} {m : Mo} (h : over c m = true) : due c m = false := by unfold due; rw [h]; rfl
theorem wp_rest (ru : Ru) (p : Parts) : (withPartial ru p).1.rest = 0 ∧ (withPartial ru p).1.kept = false := by unfold withPartial; split <;> exact ⟨rfl, rfl⟩
/-- the timer fires: the state behind it, perhaps behind one more clearing -/
theorem fire_R {c : Cfg} {s : Bool} {g0 c0 : Int} {m : Mo} {p : Parts} {seg ack : Int} (ok : CfgOk c) (h : Calm c s g0 c0 m p seg ack) (hp : p.rest ≠ 0) (hhd : heard c m (!s) = false)
    (hm : m.made ≠ 0) (hw : (wd c (m.made - 1)).who = s) (lg : List Ev) :
    ∃ m' lg' p' S L ws r, settle c (fire c m, lg) = settle c (m', lg') ∧ m'.made = m.made ∧ m'.stalls = m.stalls + 1 ∧
      R c s g0 c0 m' p' (seg + 1) (ack + (withPartial (ru c s) p).2 + (if p.kept = true then 0 else 1)) S L ws r ∧ p'.rest = 0 ∧ p'.quick = (withPartial (ru c s) p).1.quick := by
  obtain ⟨⟨S, L, r, h⟩, ho⟩ := h
  have x0 : 0 < S.rest := by
    have := h.r0
    have := h.prest
    omega
  have x1 := h.r1
  have sk : (sendS c.size S.rest S).kept = false := by
    show (if 0 < S.rest ∧ S.rest < c.size then false else S.kept) = false
    rw [if_pos ⟨x0, x1⟩]
  have sr : (sendS c.size S.rest S).rest = 0 := by show S.rest - S.rest = 0; omega
  have wr := wp_rest (ru c s) p
  by_cases hk : S.kept = true
  · -- the rest was kept
    have hA : At s { m with stalls := m.stalls + 1 } S L [] [] := ⟨h.at_.sp, h.at_.li, h.at_.wS, h.at_.wL⟩
    have ef : fire c m = send c s S.rest { m with stalls := m.stalls + 1 } := by
      unfold fire
      simp only [hw]
      rw [h.at_.sp, if_pos hk]
    obtain ⟨d1, d2, d3, d4⟩ := at_send (c := c) (x := S.rest) hA (by omega)
    obtain ⟨c1, c2⟩ := core_partial ok h.core x0 x1
    refine ⟨fire c m, lg, (withPartial (ru c s) p).1, sendS c.size S.rest S, L, [] ++ [S.rest], rstepC c s r S.rest, rfl, by rw [ef, d2], by rw [ef, d3], ?_, wr.1, rfl⟩
    rw [ef]
    refine ⟨d1, c1, by rw [wr.1, sr], by rw [wr.2, sk], by rw [sr]; omega, by rw [sr]; exact ok.size, (fun e => by rw [sk] at e; cases e), (fun e => by rw [sr] at e; omega), h.lrest, h.lkept, h.lgot, h.lmark, h.ltold, h.lheard, Or.inl rfl, ?_, ?_, ?_, ?_, h.scame⟩
    · rw [d2, sr]; show S.sent + S.rest + 0 = given c m.made s; have := h.cons; omega
    · rw [d2]; exact h.consl
    · show seg + 1 = S.came + L.came + (1 : Nat); have := h.segs; simp at this; omega
    · rw [d4, h.pkept, if_pos hk]
      show ack + (withPartial (ru c s) p).2 + 0 = (m.bare : Int) + _
      rw [← c2, h.acks]; omega
  · -- held: the listener acknowledges
    have hk' : S.kept = false := by cases e : S.kept; rfl; exact absurd e hk
    have hr0 : r = rc0 L := h.core.run_
    subst hr0
    have hsum := core_sum h.core
    simp only [List.sum_nil, Int.add_zero] at hsum
    let L3 : Side := sendS c.size 0 L
    have ef : fire c m = send c (!s) 0 { m with stalls := m.stalls + 1 } := by
      unfold fire
      simp only [hw]
      rw [h.at_.sp, if_neg hk]
    have sps : ({ m with stalls := m.stalls + 1 } : Mo).side = m.side := rfl
    have hA : At s (fire c m) S L3 [] [L.got] := by
      rw [ef]
      refine ⟨?_, ?_, ?_, ?_⟩
      · have := send_side_not c (!s) 0 { m with stalls := m.stalls + 1 }
        rw [Bool.not_not] at this
        rw [this]; exact h.at_.sp
      · rw [send_side]; show sendS c.size 0 (m.side (!s)) = _; rw [h.at_.li]
      · have := send_way_not c (!s) 0 { m with stalls := m.stalls + 1 }
        rw [Bool.not_not] at this
        rw [this]; exact h.at_.wS
      · rw [send_way]
        show m.way (!s) ++ [(0, (m.side (!s)).got)] = _
        rw [h.at_.wL, h.at_.li]; rfl
    have md : (fire c m).made = m.made := by rw [ef]; rfl
    have hst : (fire c m).stalls = m.stalls + 1 := by rw [ef]; rfl
    have bm : (fire c m).bare = m.bare + 1 := by rw [ef]; rfl
    have hno : over c (fire c m) = false := by
      refine not_over (b := !s) ?_
      rw [hA.li, Bool.not_not, md]
      show L.got ≠ _
      unfold heard at hhd
      have := of_decide_eq_false hhd
      rw [h.at_.li, Bool.not_not] at this
      exact this
    have hSt : S.told ≤ S.sent := by have := h.core.tle; omega
    obtain ⟨m2, b1, b2, b3, b4, b5⟩ := arrN_acks (lg := lg) [L.got] hA hno (fun a ha => by simp at ha; omega) hSt
    have hT : top S.told [L.got] = S.sent := by
      show max S.told L.got = S.sent
      have := h.core.tle
      omega
    have hmT : may c s { S with told := top S.told [L.got] } = true := by
      rw [hT]
      unfold may
      have := h.core.mle
      cases hh : (c.rule s).hold <;> simp <;> omega
    have hyes : S.rest > 0 ∧ S.kept = false ∧ may c s { S with told := top S.told [L.got] } = true ∧ [L.got] ≠ [] := ⟨x0, hk', hmT, by simp⟩
    have eS : acksS c s S [L.got] = sendS c.size S.rest { S with told := S.sent } := by unfold acksS; rw [if_pos hyes, hT]
    have eW : acksW c s S [L.got] = [S.rest] := by unfold acksW; rw [if_pos hyes]
    rw [eS, eW] at b2
    have hn : noted c (fire c m, lg) = (m2, lg ++ [.arr (!s)]) := by
      unfold noted
      rw [if_neg (by rw [hno]; simp [md, hm])]
      simp only [md, hw, hA.wS]
      show arrN c (!s) ((fire c m).way (!s)).length (fire c m, lg) = _
      rw [hA.wL]
      exact b1
    have hmT' : may c s { S with told := S.sent } = true := by
      rw [hT] at hmT
      exact hmT
    let p2 : Parts := { p with blocked := false, stuck := false, pending := 0 }
    have C2 : Core c s { S with told := S.sent } L3 p2 [] (rc0 L3) := by
      refine ⟨rfl, fun n hn => (List.not_mem_nil hn).elim, hsum, ?_, h.core.mle, fun a ha => (List.not_mem_nil ha).elim, Int.le_refl _, ?_, ?_, ?_, Int.le_refl _, fun e => e, h.core.qk⟩
      · show S.sent ≤ L.got; omega
      · show false = !may c s { S with told := S.sent }; rw [hmT'] <;> rfl
      · show false = !may c s { S with told := S.sent }; rw [hmT'] <;> rfl
      · show (0 : Int) = if every c s = 0 then 0 else 0; split <;> rfl
    obtain ⟨c1, c2⟩ := core_partial ok C2 x0 x1
    have wq : (withPartial (ru c s) p2).1.quick = (withPartial (ru c s) p).1.quick ∧ (withPartial (ru c s) p2).2 = (withPartial (ru c s) p).2 := by
      unfold withPartial
      show (if p.quick > 0 then _ else _ : Parts × Int).1.quick = _ ∧ (if p.quick > 0 then _ else _ : Parts × Int).2 = _
      split <;> exact ⟨rfl, rfl⟩
    have wr2 := wp_rest (ru c s) p2
    have lr : L3.rest = 0 := by show L.rest - 0 = 0; rw [h.lrest]; rfl
    have ls : L3.sent = L.sent := by show L.sent + 0 = L.sent; omega
    have lk : L3.kept = false := by
      show (if (0 : Int) < 0 ∧ (0 : Int) < c.size then false else L.kept) = false
      rw [if_neg (by omega)]; exact h.lkept
    have lm : L3.mark = L.mark := by
      show (if (0 : Int) < 0 ∧ (0 : Int) < c.size then L.sent + 0 else L.mark) = L.mark
      rw [if_neg (by omega)]
    have sk2 : (sendS c.size S.rest { S with told := S.sent }).kept = false := sk
    have sr2 : (sendS c.size S.rest { S with told := S.sent }).rest = 0 := sr
    refine ⟨m2, lg ++ [.arr (!s)], (withPartial (ru c s) p2).1, sendS c.size S.rest { S with told := S.sent }, L3, [] ++ [S.rest], rstepC c s (rc0 L3) S.rest, by rw [settle_noted, hn], by rw [b3, md], by rw [b4, hst], ?_, wr2.1, wq.1⟩
    refine ⟨b2, c1, by rw [wr2.1, sr2], by rw [wr2.2, sk2], by rw [sr2]; omega, by rw [sr2]; exact ok.size, (fun e => by rw [sk2] at e; cases e), (fun e => by rw [sr2] at e; omega), lr, lk, by rw [ls]; exact h.lgot, by rw [lm, ls]; exact h.lmark, by rw [ls]; exact h.ltold, by rw [ls]; exact h.lheard, Or.inl rfl, ?_, ?_, ?_, ?_, h.scame⟩
    · rw [b3, md, sr2]; show S.sent + S.rest + 0 = given c m.made s; have := h.cons; omega
    · rw [b3, md, ls]; exact h.consl
    · show seg + 1 = S.came + L.came + (1 : Nat); have := h.segs; simp at this; omega
    · rw [b5, bm, h.pkept, if_neg hk, ← c2, wq.2]
      have := h.acks
      show ack + (withPartial (ru c s) p).2 + 1 = ((m.bare + 1 : Nat) : Int) + ((withPartial (ru c s) p).2 + (0 : Nat))
      simp at this
      omega
/-- THE END OF A TURN -/
theorem turn_end {c : Cfg} {s : Bool} {g0 c0 : Int} {m : Mo} {p : Parts} {seg ack : Int} {S L : Side} {ws : List Int} {r : Rc} {qk : Bool → Int} (ok : CfgOk c) (h : R c s g0 c0 m p seg ack S L ws r)
    (hm : m.made ≠ 0) (hw : (wd c (m.made - 1)).who = s) (hmx : m.made ≤ c.words.length) (hn : m.made < c.words.length → (wd c m.made).who = !s)
    (hq : qk s = max 0 ((c.rule s).quick - c0)) (hg : g0 < given c m.made s) (lg : List Ev) :
    let t := afterTurn (ru c s) p
    ∃ m' lg', lawEnd c (m, lg) = (m', lg') ∧ roadEnd c (m, lg) = (m', lg') ∧ m'.made = m.made ∧ m'.stalls = m.stalls + t.1 ∧
      (m.made < c.words.length → Start c (!s) m' (fset qk (!s) t.2.1) (seg + t.2.2.1) (ack + t.2.2.2)) ∧ (m.made = c.words.length → Fin c m' (seg + t.2.2.1) (ack + t.2.2.2)) := by
  intro t
  obtain ⟨m1, l1, e1, z1, md1, st1, H1⟩ := settle_R ok h hm hw lg
  generalize ha : afterClearing (ru c s) p = a at *
  generalize hb : afterClearing (ru c s) a.1 = b at *
  have ht : t = if b.1.rest = 0 then (0, b.1.quick, a.2.1 + b.2.1, a.2.2 + b.2.2) else (1, (withPartial (ru c s) b.1).1.quick, a.2.1 + b.2.1 + 1, a.2.2 + b.2.2 + (withPartial (ru c s) b.1).2 + if b.1.kept = true then 0 else 1) := by
    show afterTurn (ru c s) p = _
    unfold afterTurn
    rw [ha]
    simp only [hb]
  have quiet : due c m1 = false → lawEnd c (m, lg) = (m1, l1) ∧ roadEnd c (m, lg) = (m1, l1) := by
    intro hd
    constructor
    · unfold lawEnd
      simp only [e1, hd, Bool.false_eq_true, if_false, z1]
    · unfold roadEnd
      simp only [e1, hd, Bool.false_eq_true, if_false]
  rcases H1 with C1 | ⟨F1, hr⟩
  · have hD := due_calm C1 (by rw [md1]; exact hmx) (by rw [md1]; exact hn)
    by_cases hr : b.1.rest = 0
    · obtain ⟨d1, d2⟩ := hD.1 hr
      obtain ⟨q1, q2⟩ := quiet d1
      rw [ht, if_pos hr]
      refine ⟨m1, l1, q1, q2, md1, by rw [st1]; simp, fun _ => ?_, fun q => by rw [md1] at d2; omega⟩
      exact calm_start ok C1 hr hq (by rw [md1]; exact hg)
    · obtain ⟨d1, d2⟩ := hD.2 hr
      obtain ⟨m2, l2, p2, S2, L2, ws2, r2, f1, f2, f3, f4, f5, f6⟩ := fire_R ok C1 hr d2 (by rw [md1]; exact hm) (by rw [md1]; exact hw) (l1 ++ [.timer])
      obtain ⟨m3, l3, e3, z3, md3, st3, H3⟩ := settle_R ok f4 (by rw [f2, md1]; exact hm) (by rw [f2, md1]; exact hw) l2
      have a0 := ac_rest0 (ru := ru c s) f5
      have b0 := ac_rest0 (ru := ru c s) a0.1
      have i0 : (afterClearing (ru c s) p2).2.1 + (afterClearing (ru c s) (afterClearing (ru c s) p2).1).2.1 = 0 := by rw [a0.2.1, b0.2.1]; rfl
      have j0 : (afterClearing (ru c s) p2).2.2 + (afterClearing (ru c s) (afterClearing (ru c s) p2).1).2.2 = 0 := by rw [a0.2.1, b0.2.1]; rfl
      rw [i0, j0, Int.add_zero, Int.add_zero] at H3
      have es : settle c (does c .timer (m1, l1)) = (m3, l3) := by
        show settle c (fire c m1, l1 ++ [.timer]) = _
        rw [f1, e3]
      have hd3 : due c m3 = false := by
        rcases H3 with C3 | ⟨F3, _⟩
        · exact ((due_calm C3 (by rw [md3, f2, md1]; exact hmx) (by rw [md3, f2, md1]; exact hn)).1 b0.1).1
        · exact over_due F3.ov
      rw [ht, if_neg hr]
      refine ⟨m3, l3, ?_, ?_, by rw [md3, f2, md1], by rw [st3, f3, st1], ?_, ?_⟩
      · unfold lawEnd
        simp only [e1, d1, if_true, es, hd3, Bool.false_eq_true, if_false]
      · unfold roadEnd
        simp only [e1, d1, if_true, es]
      · intro hlt
        rcases H3 with C3 | ⟨F3, _⟩
        · have := calm_start (qk := qk) ok C3 b0.1 hq (by rw [md3, f2, md1]; exact hg)
          rw [b0.2.2.2, a0.2.2.2, f6] at this
          have ea : ack + (a.2.2 + b.2.2) + (withPartial (ru c s) b.1).2 + (if b.1.kept = true then 0 else 1) = ack + (a.2.2 + b.2.2 + (withPartial (ru c s) b.1).2 + if b.1.kept = true then 0 else 1) := by omega
          have eb : seg + (a.2.1 + b.2.1) + 1 = seg + (a.2.1 + b.2.1 + 1) := by omega
          rw [ea, eb] at this
          exact this
        · have := F3.ov
          unfold over at this
          simp only [Bool.and_eq_true, decide_eq_true_eq] at this
          rw [md3, f2, md1] at this
          omega
      · intro heq
        have ea : ack + (a.2.2 + b.2.2) + (withPartial (ru c s) b.1).2 + (if b.1.kept = true then 0 else 1) = ack + (a.2.2 + b.2.2 + (withPartial (ru c s) b.1).2 + if b.1.kept = true then 0 else 1) := by omega
        have eb : seg + (a.2.1 + b.2.1) + 1 = seg + (a.2.1 + b.2.1 + 1) := by omega
        rw [ea, eb] at H3
        rcases H3 with C3 | ⟨F3, _⟩
        · have := ((due_calm C3 (by rw [md3, f2, md1]; exact hmx) (by rw [md3, f2, md1]; exact hn)).1 b0.1).2
          rw [md3, f2, md1] at this
          omega
        · exact F3
  · obtain ⟨q1, q2⟩ := quiet (over_due F1.ov)
    rw [ht, if_pos hr]
    refine ⟨m1, l1, q1, q2, md1, by rw [st1]; simp, fun hlt => ?_, fun _ => F1⟩
    have := F1.ov
    unfold over at this
    simp only [Bool.and_eq_true, decide_eq_true_eq] at this
    rw [md1] at this
    omega
end Lw
/-! LwH: the whole conversation: outcome by states, the law's model, the road. -/
namespace Lw
/-! ### turns -/
abbrev Tn := Bool × Nat × Nat
def splitS (found : List Tn) (i : Nat) (w : Bool) : List Tn :=
  match found.getLast? with
  | none => found ++ [(w, i, i + 1)]
  | some t => if t.1 = w then found.set (found.length - 1) (w, t.2.1, i + 1) else found ++ [(w, i, i + 1)]
def splitN (c : Cfg) : Nat → List Tn
  | 0 => []
  | k + 1 => splitS (splitN c k) k (wd c k).who
theorem set_last {α : Type} (f : List α) (t x : α) : (f ++ [t]).set ((f ++ [t]).length - 1) x = f ++ [x] := by
  rw [List.length_append, List.length_singleton, Nat.add_sub_cancel, List.set_append_right _ _ (Nat.le_refl _), Nat.sub_self]
  rfl
theorem splitS_nil (i : Nat) (w : Bool) : splitS [] i w = [(w, i, i + 1)] := rfl
theorem splitS_snoc (f : List Tn) (t : Tn) (i : Nat) (w : Bool) : splitS (f ++ [t]) i w = if t.1 = w then f ++ [(w, t.2.1, i + 1)] else f ++ [t] ++ [(w, i, i + 1)] := by
  unfold splitS
  rw [List.getLast?_append, List.getLast?_singleton]
  show (if t.1 = w then (f ++ [t]).set ((f ++ [t]).length - 1) (w, t.2.1, i + 1) else _) = _
  rw [set_last]
/-! ### outcome -/
abbrev PX := Parts × Int × Int
def clear1 (r : Ru) (x : PX) : PX := ((afterClearing r x.1).1, x.2.1 + (afterClearing r x.1).2.1, x.2.2 + (afterClearing r x.1).2.2)
def oClear (r : Ru) : Nat → PX → PX
  | 0, x => x
  | n + 1, x => clear1 r (oClear r n x)
def oWrite (r : Ru) (w : Word) (x : PX) : PX := ((afterWrite r x.1 w.len w.how).1, x.2.1 + (afterWrite r x.1 w.len w.how).2.1, x.2.2 + (afterWrite r x.1 w.len w.how).2.2)
/-- the turn's writes from place a on, j of them -/
def oIn (c : Cfg) (plan : Nat → Nat) (r : Ru) (a : Nat) : Nat → PX → PX
  | 0, x => x
  | j + 1, x => oWrite r (wd c (a + j)) (oClear r (plan (a + j)) (oIn c plan r a j x))
structure OS where
  quick : Bool → Int
  seg : Int
  ack : Int
  stalled : List Int
def os0 (c : Cfg) : OS := ⟨fun b => (c.rule b).quick, 0, 0, []⟩
def oBody (c : Cfg) (plan : Nat → Nat) (t : Tn) (o : OS) : PX := oIn c plan (ru c t.1) t.2.1 (t.2.2 - t.2.1) (parts0 (o.quick (!t.1)), o.seg, o.ack)
def oTurn (c : Cfg) (plan : Nat → Nat) (i : Nat) (t : Tn) (o : OS) : OS :=
  let x := oBody c plan t o
  let e := afterTurn (ru c t.1) x.1
  ⟨fset o.quick (!t.1) e.2.1, x.2.1 + e.2.2.1, x.2.2 + e.2.2.2, if e.1 > 0 then o.stalled ++ [(i : Int)] else o.stalled⟩
def outT (c : Cfg) (plan : Nat → Nat) (ts : List Tn) : Nat → OS
  | 0 => os0 c
  | i + 1 => oTurn c plan i (ts.getD i (false, 0, 0)) (outT c plan ts i)
def outAll (c : Cfg) (plan : Nat → Nat) : OS := outT c plan (splitN c c.words.length) (splitN c c.words.length).length
theorem outT_app (c : Cfg) (plan : Nat → Nat) (f g : List Tn) : ∀ i, i ≤ f.length → outT c plan (f ++ g) i = outT c plan f i
  | 0, _ => rfl
  | i + 1, h => by
    show oTurn c plan i ((f ++ g).getD i _) (outT c plan (f ++ g) i) = oTurn c plan i (f.getD i _) (outT c plan f i)
    rw [outT_app c plan f g i (by omega)]
    have : (f ++ g).getD i (false, 0, 0) = f.getD i (false, 0, 0) := by
      rw [List.getD_eq_getElem?_getD, List.getD_eq_getElem?_getD, List.getElem?_append_left (by omega)]
    rw [this]
theorem outT_snoc (c : Cfg) (plan : Nat → Nat) (f : List Tn) (t : Tn) : outT c plan (f ++ [t]) (f ++ [t]).length = oTurn c plan f.length t (outT c plan f f.length) := by
  rw [List.length_append, List.length_singleton]
  show oTurn c plan f.length ((f ++ [t]).getD f.length _) (outT c plan (f ++ [t]) f.length) = _
  rw [outT_app c plan f [t] f.length (Nat.le_refl _)]
  have : (f ++ [t]).getD f.length (false, 0, 0) = t := by
    rw [List.getD_eq_getElem?_getD, List.getElem?_append_right (Nat.le_refl _), Nat.sub_self]; rfl
  rw [this]
/-! ### the law's play -/
def fresh (c : Cfg) (k : Nat) : Bool := decide (k = 0) || decide ((wd c (k - 1)).who ≠ (wd c k).who)
def played (c : Cfg) (plan : Nat → Nat) : Nat → ML × List Int
  | 0 => ((mo0, []), [])
  | k + 1 =>
    let x := played c plan k
    let x1 : ML × List Int := if fresh c k = true then (lawEnd c x.1, x.2 ++ [(lawEnd c x.1).1.stalls]) else x
    (does c .write (notedN c (plan k) x1.1), x1.2)
def playedEnd (c : Cfg) (plan : Nat → Nat) : ML × List Int :=
  let x := played c plan c.words.length
  (lawEnd c x.1, x.2 ++ [(lawEnd c x.1).1.stalls])
def roadN (c : Cfg) (plan : Nat → Nat) : Nat → ML
  | 0 => (mo0, [])
  | k + 1 =>
    let x := roadN c plan k
    let x1 := if 0 < k ∧ (wd c k).who ≠ (wd c (k - 1)).who then roadEnd c x else x
    does c .write (notedN c (plan k) x1)
def roadAll (c : Cfg) (plan : Nat → Nat) : ML := roadEnd c (roadN c plan c.words.length)
/-! ### stalls of the turns -/
def pre (fl : List Int) : List Int := (List.range (fl.length + 1)).map fun k => (fl.take k).sum
theorem pre_snoc (fl : List Int) (f : Int) : pre (fl ++ [f]) = pre fl ++ [fl.sum + f] := by
  unfold pre
  rw [List.length_append, List.length_singleton, List.range_succ, List.map_append]
  congr 1
  · apply List.map_congr_left
    intro k hk
    rw [List.mem_range] at hk
    rw [List.take_append_of_le_length (by omega)]
  · simp only [List.map_cons, List.map_nil]
    rw [List.take_of_length_le (by simp)]
    simp
def idx (fl : List Int) : List Int := ((List.range fl.length).filter fun k => decide (fl.getD k 0 > 0)).map fun (k : Nat) => (k : Int)
theorem idx_snoc (fl : List Int) (f : Int) : idx (fl ++ [f]) = if f > 0 then idx fl ++ [(fl.length : Int)] else idx fl := by
  unfold idx
  rw [List.length_append, List.length_singleton, List.range_succ, List.filter_append, List.map_append]
  have e1 : ((List.range fl.length).filter fun k => decide ((fl ++ [f]).getD k 0 > 0)) = (List.range fl.length).filter fun k => decide (fl.getD k 0 > 0) := by
    apply List.filter_congr
    intro k hk
    rw [List.mem_range] at hk
    rw [List.getD_eq_getElem?_getD, List.getD_eq_getElem?_getD, List.getElem?_append_left (by omega)]
  have e2 : (fl ++ [f]).getD fl.length 0 = f := by
    rw [List.getD_eq_getElem?_getD, List.getElem?_append_right (Nat.le_refl _), Nat.sub_self]; rfl
  rw [e1]
  by_cases h : f > 0
  · rw [if_pos h, List.filter_cons, if_pos (by rw [e2]; exact decide_eq_true h)]
    rfl
  · rw [if_neg h, List.filter_cons, if_neg (by rw [e2]; simpa using h)]
    simp
theorem afterTurn_flag (r : Ru) (p : Parts) : (afterTurn r p).1 = 0 ∨ (afterTurn r p).1 = 1 := by
  unfold afterTurn
  simp only
  split
  · exact Or.inl rfl
  · exact Or.inr rfl
/-! ### together -/
structure PlanOk (c : Cfg) (plan : Nat → Nat) : Prop where
  le : ∀ k, plan k ≤ 2
  fr : ∀ k, fresh c k = true → plan k = 0
/-- behind k writes, k ≥ 1 -/
structure Mid (c : Cfg) (plan : Nat → Nat) (k : Nat) (m : Mo) (lg : List Ev) (sl fl : List Int) (f : List Tn) (a : Nat) : Prop where
  pl : played c plan k = ((m, lg), sl)
  rd : roadN c plan k = (m, lg)
  made : m.made = k
  split : splitN c k = f ++ [((wd c (k - 1)).who, a, k)]
  ak : a < k
  rel : ∃ g0 c0 S L ws r, R c (wd c (k - 1)).who g0 c0 m (oBody c plan ((wd c (k - 1)).who, a, k) (outT c plan f f.length)).1 (oBody c plan ((wd c (k - 1)).who, a, k) (outT c plan f f.length)).2.1 (oBody c plan ((wd c (k - 1)).who, a, k) (outT c plan f f.length)).2.2 S L ws r ∧
    g0 < given c k (wd c (k - 1)).who ∧ (outT c plan f f.length).quick (wd c (k - 1)).who = max 0 ((c.rule (wd c (k - 1)).who).quick - c0)
  sl_ : sl = pre fl
  fl_ : fl.length = f.length
  st : m.stalls = fl.sum
  idx_ : (outT c plan f f.length).stalled = idx fl
  sum_ : ((outT c plan f f.length).stalled.length : Int) = fl.sum
  f01 : ∀ x ∈ fl, x = 0 ∨ x = 1
theorem noted_made (c : Cfg) (x : ML) : True := trivial
theorem lawEnd_0 {c : Cfg} (h : 0 < c.words.length ∨ c.words.length = 0) : lawEnd c (mo0, []) = (mo0, []) ∧ roadEnd c (mo0, []) = (mo0, []) := by
  have n0 : noted c (mo0, []) = (mo0, []) := by
    unfold noted
    exact if_pos (Or.inl rfl)
  have s0 := settle_still n0
  have g0 : ∀ b, given c 0 b = 0 := fun b => by unfold given; simp
  have hh : ∀ b, heard c mo0 b = true := fun b => by
    unfold heard
    show decide ((0 : Int) = given c 0 (!b)) = true
    rw [g0]; rfl
  have d0 : due c mo0 = false := by
    unfold due
    rcases h with h | h
    · have : canWrite c mo0 = true := by
        unfold canWrite
        rw [hh]
        show (decide (0 < c.words.length) && true) = true
        rw [decide_eq_true h] <;> rfl
      rw [this]; simp
    · have : over c mo0 = true := by
        unfold over
        rw [hh, hh]
        show (decide (0 = c.words.length) && true && true) = true
        rw [decide_eq_true h.symm] <;> rfl
      rw [this]; rfl
  constructor
  · unfold lawEnd
    simp only [s0, d0, Bool.false_eq_true, if_false]
  · unfold roadEnd
    simp only [s0, d0, Bool.false_eq_true, if_false]
theorem not_over_made {c : Cfg} {m : Mo} (h : m.made < c.words.length) : over c m = false := by
  cases e : over c m with
  | false => rfl
  | true =>
    unfold over at e
    simp only [Bool.and_eq_true, decide_eq_true_eq] at e
    omega
/-- clearings in the middle of a turn -/
theorem notedN_R {c : Cfg} {s : Bool} {g0 c0 : Int} (ok : CfgOk c) : ∀ (n : Nat) {m : Mo} {p : Parts} {seg ack : Int} {S L : Side} {ws : List Int} {r : Rc} {lg : List Ev}, R c s g0 c0 m p seg ack S L ws r →
    m.made ≠ 0 → (wd c (m.made - 1)).who = s → m.made < c.words.length →
    ∃ m' lg' S' L' ws' r', notedN c n (m, lg) = (m', lg') ∧ m'.made = m.made ∧ m'.stalls = m.stalls ∧ R c s g0 c0 m' (oClear (ru c s) n (p, seg, ack)).1 (oClear (ru c s) n (p, seg, ack)).2.1 (oClear (ru c s) n (p, seg, ack)).2.2 S' L' ws' r'
  | 0, m, p, seg, ack, S, L, ws, r, lg, h, _, _, _ => ⟨m, lg, S, L, ws, r, rfl, rfl, rfl, h⟩
  | n + 1, m, p, seg, ack, S, L, ws, r, lg, h, hm, hw, hk => by
    obtain ⟨m1, l1, S1, L1, ws1, r1, e1, a1, a2, a3⟩ := notedN_R ok n (lg := lg) h hm hw hk
    obtain ⟨m2, l2, e2, b1, b2, H⟩ := clear_R ok a3 (by rw [a1]; exact hm) (by rw [a1]; exact hw) l1
    have en : ∀ (n : Nat) (x : ML), notedN c (n + 1) x = noted c (notedN c n x) := by
      intro n
      induction n with
      | zero => intro x; rfl
      | succ n ih => intro x; show notedN c (n + 1) (noted c x) = _; rw [ih]; rfl
    refine ⟨m2, l2, ?_⟩
    rcases H with ⟨S2, L2, ws2, r2, R2, _⟩ | ⟨F, _⟩
    · exact ⟨S2, L2, ws2, r2, by rw [en, e1, e2], by rw [b1, a1], by rw [b2, a2], R2⟩
    · have := not_over_made (c := c) (m := m2) (by rw [b1, a1]; exact hk)
      rw [F.ov] at this; cases this
theorem given_lt {c : Cfg} (ok : CfgOk c) {k : Nat} (hk : k < c.words.length) : given c k (wd c k).who < given c (k + 1) (wd c k).who := by
  rw [given_succ hk, if_pos rfl]
  have := ok.len _ (wd_mem hk)
  omega
/-- the first write of a turn, from its start -/
theorem first_write {c : Cfg} (ok : CfgOk c) {plan : Nat → Nat} {k : Nat} {m : Mo} {lg : List Ev} {o : OS} (hk : k < c.words.length) (hmade : m.made = k) (hp : plan k = 0) (h : Start c (wd c k).who m o.quick o.seg o.ack) :
    ∃ m', does c .write (notedN c (plan k) (m, lg)) = (m', lg ++ [.write]) ∧ m'.made = k + 1 ∧ m'.stalls = m.stalls ∧
      ∃ g0 c0 S L ws r, R c (wd c k).who g0 c0 m' (oBody c plan ((wd c k).who, k, k + 1) o).1 (oBody c plan ((wd c k).who, k, k + 1) o).2.1 (oBody c plan ((wd c k).who, k, k + 1) o).2.2 S L ws r ∧
        g0 < given c (k + 1) (wd c k).who ∧ o.quick (wd c k).who = max 0 ((c.rule (wd c k).who).quick - c0) := by
  obtain ⟨S, L, h, hq⟩ := h
  have hk' : m.made < c.words.length := by rw [hmade]; exact hk
  obtain ⟨S2, L2, ws2, r2, R2, e1, e2⟩ := write_R ok h hk' (by rw [hmade])
  refine ⟨write c m, by rw [hp]; rfl, by rw [e1, hmade], e2, L.got, S.came, S2, L2, ws2, r2, ?_, ?_, hq⟩
  · have e : oBody c plan ((wd c k).who, k, k + 1) o = oWrite (ru c (wd c k).who) (wd c k) (parts0 (o.quick (!(wd c k).who)), o.seg, o.ack) := by
      unfold oBody
      simp only [Nat.add_sub_cancel_left]
      show oWrite _ (wd c (k + 0)) (oClear _ (plan (k + 0)) _) = _
      rw [Nat.add_zero, hp]
      rfl
    rw [e]
    rw [hmade] at R2
    exact R2
  · have hr0 : rc0 L = runC c (wd c k).who (rc0 L) [] := rfl
    have hsum := core_sum h.core
    simp only [List.sum_nil, Int.add_zero] at hsum
    have := h.cons
    have := h.r0
    have hr : (0 : Int) = S.rest := h.prest
    have := given_lt ok hk
    rw [hmade] at *
    omega
theorem oBody_more {c : Cfg} {plan : Nat → Nat} {s : Bool} {a k : Nat} {o : OS} (h : a < k) : oBody c plan (s, a, k + 1) o = oWrite (ru c s) (wd c k) (oClear (ru c s) (plan k) (oBody c plan (s, a, k) o)) := by
  unfold oBody
  simp only
  obtain ⟨j, hj⟩ : ∃ j, k = a + j := ⟨k - a, by omega⟩
  subst hj
  rw [show a + j + 1 - a = j + 1 by omega, show a + j - a = j by omega]
  rfl
theorem notedN_succ (c : Cfg) : ∀ (n : Nat) (x : ML), notedN c (n + 1) x = noted c (notedN c n x)
  | 0, x => rfl
  | n + 1, x => by show notedN c (n + 1) (noted c x) = _; rw [notedN_succ c n]; rfl
theorem mid {c : Cfg} {plan : Nat → Nat} (ok : CfgOk c) (po : PlanOk c plan) : ∀ k, k < c.words.length → ∃ m lg sl fl f a, Mid c plan (k + 1) m lg sl fl f a
  | 0, hk => by
    obtain ⟨l0, r0⟩ := lawEnd_0 (c := c) (Or.inl hk)
    have hs : Start c (wd c 0).who mo0 (os0 c).quick (os0 c).seg (os0 c).ack := by
      refine ⟨side0, side0, ⟨⟨rfl, rfl, rfl, rfl⟩, ⟨rfl, fun n hn => (List.not_mem_nil hn).elim, rfl, Int.le_refl _, Int.le_refl _, fun a ha => (List.not_mem_nil ha).elim, Int.le_refl _, ?_, ?_, ?_, Int.le_refl _, fun e => e, ?_⟩, rfl, rfl, Int.le_refl _, ok.size, fun e => (Bool.noConfusion e), fun e => ?_, rfl, rfl, rfl, Int.le_refl _, Int.le_refl _, Or.inr rfl, Or.inl rfl, ?_, ?_, rfl, rfl, rfl⟩, ?_⟩
      · show false = !may c (wd c 0).who side0
        unfold may
        cases hh : (c.rule (wd c 0).who).hold <;> rfl
      · show false = !may c (wd c 0).who side0
        unfold may
        cases hh : (c.rule (wd c 0).who).hold <;> rfl
      · show (0 : Int) = if every c (wd c 0).who = 0 then 0 else 0
        split <;> rfl
      · show (c.rule (!(wd c 0).who)).quick = max 0 ((c.rule (!(wd c 0).who)).quick - 0)
        have := ok.qk (!(wd c 0).who)
        omega
      · have : (0 : Int) < 0 := e
        omega
      · show (0 : Int) + 0 = given c 0 (wd c 0).who
        unfold given; simp
      · show (0 : Int) = given c 0 (!(wd c 0).who)
        unfold given; simp
      · show (c.rule (wd c 0).who).quick = max 0 ((c.rule (wd c 0).who).quick - 0)
        have := ok.qk (wd c 0).who
        omega
    have fr : fresh c 0 = true := by unfold fresh; rfl
    obtain ⟨m', e1, e2, e3, rel⟩ := first_write (lg := []) ok hk rfl (po.fr 0 fr) hs
    refine ⟨m', [.write], [0], [], [], 0, ?_, ?_, e2, rfl, Nat.zero_lt_one, rel, rfl, rfl, by rw [e3]; rfl, rfl, rfl, fun x hx => (List.not_mem_nil hx).elim⟩
    · show (does c .write (notedN c (plan 0) (if fresh c 0 = true then (lawEnd c (mo0, []), [] ++ [(lawEnd c (mo0, [])).1.stalls]) else ((mo0, []), [])).1), (if fresh c 0 = true then (lawEnd c (mo0, []), [] ++ [(lawEnd c (mo0, [])).1.stalls]) else ((mo0, []), [])).2) = _
      rw [if_pos fr, l0]
      show (does c .write (notedN c (plan 0) (mo0, [])), [(0 : Int)]) = _
      rw [e1]; rfl
    · show does c .write (notedN c (plan 0) (if 0 < 0 ∧ _ then _ else (mo0, []))) = _
      rw [if_neg (fun q => absurd q.1 (by decide)), e1]; rfl
  | k + 1, hk => by
    obtain ⟨m, lg, sl, fl, f, a, M⟩ := mid ok po k (by omega)
    obtain ⟨pl, rd, made, split, ak, ⟨g0, c0, S, L, ws, r, rel, hg, hq⟩, sl_, fl_, st, idx_, sum_, f01⟩ := M
    rw [show k + 1 - 1 = k by omega] at *
    by_cases fr : fresh c (k + 1) = true
    · -- a new turn
      have hne : (wd c k).who ≠ (wd c (k + 1)).who := by
        unfold fresh at fr
        rw [show decide (k + 1 = 0) = false from rfl, Bool.false_or] at fr
        exact of_decide_eq_true fr
      have hs' : (wd c (k + 1)).who = !(wd c k).who := by
        cases h1 : (wd c k).who <;> cases h2 : (wd c (k + 1)).who <;> simp_all
      obtain ⟨m1, l1, q1, q2, q3, q4, q5, q6⟩ := turn_end ok rel (by rw [made]; omega) (by rw [made, Nat.add_sub_cancel]) (by rw [made]; omega) (by rw [made]; intro _; exact hs') hq (by rw [made]; exact hg) lg
      generalize hX : oBody c plan ((wd c k).who, a, k + 1) (outT c plan f f.length) = X at *
      generalize hT : afterTurn (ru c (wd c k).who) X.1 = T at *
      have hO : outT c plan (f ++ [((wd c k).who, a, k + 1)]) (f ++ [((wd c k).who, a, k + 1)]).length =
          ⟨fset (outT c plan f f.length).quick (!(wd c k).who) T.2.1, X.2.1 + T.2.2.1, X.2.2 + T.2.2.2, if T.1 > 0 then (outT c plan f f.length).stalled ++ [(f.length : Int)] else (outT c plan f f.length).stalled⟩ := by
        rw [outT_snoc]
        unfold oTurn
        simp only [hX, hT]
      have hs := q5 (by rw [made]; exact hk)
      rw [← hs'] at hs
      generalize hOO : outT c plan (f ++ [((wd c k).who, a, k + 1)]) (f ++ [((wd c k).who, a, k + 1)]).length = O at *
      have hs2 : Start c (wd c (k + 1)).who m1 O.quick O.seg O.ack := by
        rw [hO]
        simp only
        rw [← hs']
        exact hs
      obtain ⟨m', e1, e2, e3, rel'⟩ := first_write (lg := l1) ok hk (by rw [q3, made]) (po.fr _ fr) hs2
      have hflag := afterTurn_flag (ru c (wd c k).who) X.1
      rw [hT] at hflag
      refine ⟨m', l1 ++ [.write], sl ++ [m1.stalls], fl ++ [T.1], f ++ [((wd c k).who, a, k + 1)], k + 1, ?_, ?_, e2, ?_, Nat.lt_succ_self _, ?_, ?_, ?_, ?_, ?_, ?_, ?_⟩
      · show (does c .write (notedN c (plan (k + 1)) (if fresh c (k + 1) = true then (lawEnd c (played c plan (k + 1)).1, (played c plan (k + 1)).2 ++ [(lawEnd c (played c plan (k + 1)).1).1.stalls]) else played c plan (k + 1)).1), (if fresh c (k + 1) = true then (lawEnd c (played c plan (k + 1)).1, (played c plan (k + 1)).2 ++ [(lawEnd c (played c plan (k + 1)).1).1.stalls]) else played c plan (k + 1)).2) = _
        rw [if_pos fr, pl, q1]
        show (does c .write (notedN c (plan (k + 1)) (m1, l1)), sl ++ [m1.stalls]) = _
        rw [e1]
      · show does c .write (notedN c (plan (k + 1)) (if 0 < k + 1 ∧ (wd c (k + 1)).who ≠ (wd c (k + 1 - 1)).who then roadEnd c (roadN c plan (k + 1)) else roadN c plan (k + 1))) = _
        rw [Nat.add_sub_cancel, if_pos ⟨Nat.succ_pos _, fun e => hne e.symm⟩, rd, q2, e1]
      · show splitS (splitN c (k + 1)) (k + 1) (wd c (k + 1)).who = _
        rw [split, splitS_snoc, if_neg hne, Nat.add_sub_cancel]
      · rw [Nat.add_sub_cancel, hOO]; exact rel'
      · rw [pre_snoc, sl_, q4, st]
      · rw [List.length_append, List.length_append, fl_]; rfl
      · rw [e3, q4, st, List.sum_append]; simp
      · rw [hOO, hO, idx_snoc, fl_]
        simp only
        rw [idx_]
      · rw [hOO, hO, List.sum_append]
        simp only [List.sum_cons, List.sum_nil, Int.add_zero]
        rcases hflag with x | x
        · rw [x, if_neg (by decide), sum_]; omega
        · rw [x, if_pos (by decide), List.length_append, Int.natCast_add, sum_]; rfl
      · intro x hx
        rcases List.mem_append.mp hx with h | h
        · exact f01 x h
        · simp at h; subst h; exact hflag
    · -- the same turn
      have hne : (wd c k).who = (wd c (k + 1)).who := by
        unfold fresh at fr
        rw [show decide (k + 1 = 0) = false from rfl, Bool.false_or] at fr
        cases h1 : decide ((wd c k).who ≠ (wd c (k + 1)).who)
        · have := of_decide_eq_false h1
          exact Decidable.not_not.mp this
        · exact absurd h1 fr
      obtain ⟨m1, l1, S1, L1, ws1, r1, q1, q2, q3, q4⟩ := notedN_R ok (plan (k + 1)) (lg := lg) rel (by rw [made]; omega) (by rw [made, Nat.add_sub_cancel]) (by rw [made]; exact hk)
      obtain ⟨S2, L2, ws2, r2, R2, e1, e2⟩ := write_R ok q4 (by rw [q2, made]; exact hk) (by rw [q2, made, hne])
      refine ⟨write c m1, l1 ++ [.write], sl, fl, f, a, ?_, ?_, by rw [e1, q2, made], ?_, by omega, ⟨g0, c0, S2, L2, ws2, r2, ?_, ?_, ?_⟩, sl_, fl_, by rw [e2, q3, st], idx_, sum_, f01⟩
      · show (does c .write (notedN c (plan (k + 1)) (if fresh c (k + 1) = true then (lawEnd c (played c plan (k + 1)).1, (played c plan (k + 1)).2 ++ [(lawEnd c (played c plan (k + 1)).1).1.stalls]) else played c plan (k + 1)).1), (if fresh c (k + 1) = true then (lawEnd c (played c plan (k + 1)).1, (played c plan (k + 1)).2 ++ [(lawEnd c (played c plan (k + 1)).1).1.stalls]) else played c plan (k + 1)).2) = _
        rw [if_neg fr, pl]
        show (does c .write (notedN c (plan (k + 1)) (m, lg)), sl) = _
        rw [q1]; rfl
      · show does c .write (notedN c (plan (k + 1)) (if 0 < k + 1 ∧ (wd c (k + 1)).who ≠ (wd c (k + 1 - 1)).who then roadEnd c (roadN c plan (k + 1)) else roadN c plan (k + 1))) = _
        rw [Nat.add_sub_cancel, if_neg (fun q => q.2 hne.symm), rd, q1]; rfl
      · show splitS (splitN c (k + 1)) (k + 1) (wd c (k + 1)).who = _
        rw [split, splitS_snoc, if_pos hne, Nat.add_sub_cancel]
      · rw [Nat.add_sub_cancel, ← hne, oBody_more (by omega)]
        rw [q2, made] at R2
        exact R2
      · rw [Nat.add_sub_cancel, ← hne]
        have := given_succ hk (wd c k).who
        rw [← hne, if_pos rfl] at this
        have := ok.len _ (wd_mem hk)
        omega
      · rw [Nat.add_sub_cancel, ← hne]; exact hq
/-- THE PLAIN LAW -/
structure Agree (c : Cfg) (plan : Nat → Nat) (fl : List Int) : Prop where
  road : roadAll c plan = (playedEnd c plan).1
  sl : (playedEnd c plan).2 = pre fl
  sum : ((outAll c plan).stalled.length : Int) = fl.sum
  seg : (outAll c plan).seg = ((playedEnd c plan).1.1.side false).came + ((playedEnd c plan).1.1.side true).came
  ack : (outAll c plan).ack = (playedEnd c plan).1.1.bare
  idx : (outAll c plan).stalled = Lw.idx fl
  f01 : ∀ x ∈ fl, x = 0 ∨ x = 1
theorem agree {c : Cfg} {plan : Nat → Nat} (ok : CfgOk c) (po : PlanOk c plan) : ∃ fl, Agree c plan fl := by
  cases hn : c.words.length with
  | zero =>
    obtain ⟨l0, r0⟩ := lawEnd_0 (c := c) (Or.inr hn)
    have e1 : playedEnd c plan = ((mo0, []), [0]) := by
      unfold playedEnd
      rw [hn]
      show (lawEnd c (mo0, []), [] ++ [(lawEnd c (mo0, [])).1.stalls]) = _
      rw [l0]; rfl
    have e2 : outAll c plan = os0 c := by unfold outAll; rw [hn]; rfl
    have e3 : roadAll c plan = (mo0, []) := by unfold roadAll; rw [hn]; exact r0
    exact ⟨[], by rw [e3, e1], by rw [e1]; rfl, by rw [e2]; rfl, by rw [e2, e1]; rfl, by rw [e2, e1]; rfl, by rw [e2]; rfl, fun x hx => (List.not_mem_nil hx).elim⟩
  | succ k =>
    obtain ⟨m, lg, sl, fl, f, a, M⟩ := mid ok po k (by omega)
    obtain ⟨pl, rd, made, split, ak, ⟨g0, c0, S, L, ws, r, rel, hg, hq⟩, sl_, fl_, st, idx_, sum_, f01⟩ := M
    rw [show k + 1 - 1 = k by omega] at *
    obtain ⟨m1, l1, q1, q2, q3, q4, q5, q6⟩ := turn_end ok rel (by rw [made]; omega) (by rw [made, Nat.add_sub_cancel]) (by rw [made]; omega) (by rw [made]; intro x; omega) hq (by rw [made]; exact hg) lg
    generalize hX : oBody c plan ((wd c k).who, a, k + 1) (outT c plan f f.length) = X at *
    generalize hT : afterTurn (ru c (wd c k).who) X.1 = T at *
    have hO : outAll c plan = ⟨fset (outT c plan f f.length).quick (!(wd c k).who) T.2.1, X.2.1 + T.2.2.1, X.2.2 + T.2.2.2, if T.1 > 0 then (outT c plan f f.length).stalled ++ [(f.length : Int)] else (outT c plan f f.length).stalled⟩ := by
      unfold outAll
      rw [hn, split, outT_snoc]
      unfold oTurn
      simp only [hX, hT]
    have F := q6 (by rw [made, hn])
    have hflag := afterTurn_flag (ru c (wd c k).who) X.1
    rw [hT] at hflag
    have e1 : playedEnd c plan = ((m1, l1), sl ++ [m1.stalls]) := by
      unfold playedEnd
      rw [hn, pl]
      show (lawEnd c (m, lg), sl ++ [(lawEnd c (m, lg)).1.stalls]) = _
      rw [q1]
    have e3 : roadAll c plan = (m1, l1) := by unfold roadAll; rw [hn, rd, q2]
    refine ⟨fl ++ [T.1], by rw [e3, e1], ?_, ?_, ?_, ?_, ?_, ?_⟩
    · rw [e1, pre_snoc]; show sl ++ [m1.stalls] = _; rw [sl_, q4, st]
    · rw [hO, List.sum_append]
      simp only [List.sum_cons, List.sum_nil, Int.add_zero]
      rcases hflag with x | x
      · rw [x, if_neg (by decide), sum_]; omega
      · rw [x, if_pos (by decide), List.length_append, Int.natCast_add, sum_]; rfl
    · rw [hO, e1]; exact F.segs
    · rw [hO, e1]; exact F.acks
    · rw [hO, idx_snoc, fl_]
      simp only
      rw [idx_]
    · intro x hx
      rcases List.mem_append.mp hx with h | h
      · exact f01 x h
      · simp at h; subst h; exact hflag
end Lw
/-! LwI: bounds, runs, and which events are possible. -/
namespace Lw
theorem arrAck_made (c : Cfg) (b : Bool) (v : Int) (m : Mo) : (arrAck c b v m).made = m.made ∧ (arrAck c b v m).stalls = m.stalls := by
  unfold arrAck
  simp only
  split <;> exact ⟨rfl, rfl⟩
theorem arrGot_made (c : Cfg) (b : Bool) (n : Int) (m : Mo) : (arrGot c b n m).made = m.made ∧ (arrGot c b n m).stalls = m.stalls := by
  obtain ⟨S1, _, h | h⟩ := arrGot_eq c b n m <;> rw [h] <;> exact ⟨rfl, rfl⟩
theorem arrive_made (c : Cfg) (a : Bool) (m : Mo) : (arrive c a m).made = m.made ∧ (arrive c a m).stalls = m.stalls := by
  unfold arrive
  split
  · exact ⟨rfl, rfl⟩
  · rename_i x y r e
    have h1 := arrAck_made c (!a) y { m with way := fset m.way a r }
    simp only
    split
    · have h2 := arrGot_made c (!a) x (arrAck c (!a) y { m with way := fset m.way a r })
      exact ⟨h2.1.trans h1.1, h2.2.trans h1.2⟩
    · exact h1
theorem arrN_snoc (c : Cfg) (a : Bool) : ∀ (n : Nat) (x : ML), arrN c a (n + 1) x = arrOne c a (arrN c a n x)
  | 0, x => rfl
  | n + 1, x => arrN_snoc c a n (arrOne c a x)
theorem arrOne_over {c : Cfg} {a : Bool} {x : ML} (h : over c x.1 = true) : arrOne c a x = x := if_pos h
theorem arrOne_go {c : Cfg} {a : Bool} {x : ML} (h : over c x.1 = false) : arrOne c a x = does c (.arr a) x := if_neg (by rw [h]; decide)
theorem arrOne_made (c : Cfg) (a : Bool) (x : ML) : (arrOne c a x).1.made = x.1.made ∧ (arrOne c a x).1.stalls = x.1.stalls := by
  unfold arrOne
  split
  · exact ⟨rfl, rfl⟩
  · exact arrive_made c a x.1
theorem arrN_made (c : Cfg) (a : Bool) : ∀ (n : Nat) (x : ML), (arrN c a n x).1.made = x.1.made ∧ (arrN c a n x).1.stalls = x.1.stalls
  | 0, x => ⟨rfl, rfl⟩
  | n + 1, x => by
    have h1 := arrN_made c a n (arrOne c a x)
    have h2 := arrOne_made c a x
    exact ⟨h1.1.trans h2.1, h1.2.trans h2.2⟩
theorem arrN_len (c : Cfg) (a : Bool) : ∀ (n : Nat) (x : ML), over c (arrN c a n x).1 = false → ((arrN c a n x).1.way a).length = (x.1.way a).length - n
  | 0, x, _ => rfl
  | n + 1, x, h => by
    rw [arrN_snoc] at h ⊢
    cases ho : over c (arrN c a n x).1 with
    | true => rw [arrOne_over ho, ho] at h; cases h
    | false =>
      rw [arrOne_go ho]
      show ((arrive c a (arrN c a n x).1).way a).length = _
      rw [arrive_way, List.length_tail, arrN_len c a n x ho]
      omega
theorem noted_made2 (c : Cfg) (x : ML) : (noted c x).1.made = x.1.made ∧ (noted c x).1.stalls = x.1.stalls := by
  unfold noted
  split
  · exact ⟨rfl, rfl⟩
  · simp only
    have h1 := arrN_made c (wd c (x.1.made - 1)).who (x.1.way (wd c (x.1.made - 1)).who).length x
    have h2 := arrN_made c (!(wd c (x.1.made - 1)).who) ((arrN c (wd c (x.1.made - 1)).who (x.1.way (wd c (x.1.made - 1)).who).length x).1.way (!(wd c (x.1.made - 1)).who)).length (arrN c (wd c (x.1.made - 1)).who (x.1.way (wd c (x.1.made - 1)).who).length x)
    exact ⟨h2.1.trans h1.1, h2.2.trans h1.2⟩
theorem settle_made (c : Cfg) (x : ML) : (settle c x).1.made = x.1.made ∧ (settle c x).1.stalls = x.1.stalls := by
  have : ∀ (n : Nat) (x : ML), (settleF c n x).1.made = x.1.made ∧ (settleF c n x).1.stalls = x.1.stalls := by
    intro n
    induction n with
    | zero => intro x; exact ⟨rfl, rfl⟩
    | succ n ih =>
      intro x
      show (if _ then _ else _ : ML).1.made = _ ∧ (if _ then _ else _ : ML).1.stalls = _
      have h := noted_made2 c x
      split
      · have h2 := ih (noted c x)
        exact ⟨h2.1.trans h.1, h2.2.trans h.2⟩
      · exact h
  exact this _ x
/-! ### well-formed -/
structure Wf (c : Cfg) (m : Mo) : Prop where
  r0 : ∀ b, 0 ≤ (m.side b).rest
  r1 : ∀ b, (m.side b).rest < c.size
  w0 : ∀ b, ∀ x ∈ m.way b, 0 ≤ x.1
theorem fset_all {α : Type} {P : Bool → α → Prop} {f : Bool → α} {b : Bool} {x : α} (h : ∀ d, P d (f d)) (hx : P b x) : ∀ d, P d (fset f b x d) := by
  intro d
  by_cases e : d = b
  · subst e; rw [fset_same]; exact hx
  · rw [fset_ne _ _ e]; exact h d
theorem Wf.send {c : Cfg} {m : Mo} (h : Wf c m) {b : Bool} {n : Int} (h0 : 0 ≤ n) (h1 : n ≤ (m.side b).rest) : Wf c (send c b n m) := by
  refine ⟨?_, ?_, ?_⟩
  · exact fset_all (P := fun _ (s : Side) => 0 ≤ s.rest) h.r0 (by show 0 ≤ (m.side b).rest - n; omega)
  · exact fset_all (P := fun _ (s : Side) => s.rest < c.size) h.r1 (by have := h.r1 b; show (m.side b).rest - n < c.size; omega)
  · refine fset_all (P := fun _ (w : List (Int × Int)) => ∀ x ∈ w, 0 ≤ x.1) h.w0 ?_
    intro x hx
    rcases List.mem_append.mp hx with hx | hx
    · exact h.w0 b x hx
    · rw [List.mem_singleton] at hx; subst hx; exact h0
theorem Wf.setSide {c : Cfg} {m : Mo} (h : Wf c m) {b : Bool} {S : Side} (e : S.rest = (m.side b).rest) : Wf c (setSide m b S) :=
  ⟨fset_all (P := fun _ (s : Side) => 0 ≤ s.rest) h.r0 (by rw [e]; exact h.r0 b), fset_all (P := fun _ (s : Side) => s.rest < c.size) h.r1 (by rw [e]; exact h.r1 b), h.w0⟩
theorem Wf.arrAck {c : Cfg} {m : Mo} (h : Wf c m) (b : Bool) (v : Int) : Wf c (arrAck c b v m) := by
  unfold Lw.arrAck
  have h1 : Wf c (Lw.setSide m b { m.side b with told := max (m.side b).told v }) := h.setSide rfl
  generalize Lw.setSide m b { m.side b with told := max (m.side b).told v } = m1 at *
  simp only
  split
  · exact h1.send (h1.r0 b) (Int.le_refl _)
  · exact h1
theorem Wf.arrGot {c : Cfg} {m : Mo} (h : Wf c m) (b : Bool) (n : Int) : Wf c (arrGot c b n m) := by
  obtain ⟨S1, e, h2 | h2⟩ := arrGot_eq c b n m <;> rw [h2]
  · refine (h.setSide e).send (Int.le_refl _) ((h.setSide e).r0 b)
  · exact h.setSide e
theorem Wf.arrive {c : Cfg} {m : Mo} (h : Wf c m) (a : Bool) : Wf c (arrive c a m) := by
  unfold Lw.arrive
  split
  · exact h
  · rename_i x y r e
    have h1 : Wf c { m with way := fset m.way a r } := ⟨h.r0, h.r1, fset_all (P := fun _ (w : List (Int × Int)) => ∀ x ∈ w, 0 ≤ x.1) h.w0 (fun z hz => h.w0 a z (by rw [e]; exact List.mem_cons_of_mem _ hz))⟩
    have h2 := h1.arrAck (!a) y
    simp only
    split
    · exact h2.arrGot _ _
    · exact h2
theorem Wf.fire {c : Cfg} {m : Mo} (h : Wf c m) : Wf c (fire c m) := by
  unfold Lw.fire
  have h1 : Wf c { m with stalls := m.stalls + 1 } := ⟨h.r0, h.r1, h.w0⟩
  simp only
  split
  · exact h1.send (h.r0 _) (Int.le_refl _)
  · exact h1.send (Int.le_refl _) (h.r0 _)
theorem fire_made (c : Cfg) (m : Mo) : (fire c m).made = m.made := by
  unfold fire
  simp only
  split <;> rfl
theorem phi_fire (c : Cfg) (m : Mo) : phi (fire c m) ≤ phi m + 1 := by
  unfold fire
  have e : phi { m with stalls := m.stalls + 1 } = phi m := rfl
  simp only
  split
  · by_cases z : (m.side (wd c (m.made - 1)).who).rest = 0
    · rw [z, phi_send0]; exact Nat.le_of_eq (by rw [e])
    · have := phi_send_rest c (wd c (m.made - 1)).who { m with stalls := m.stalls + 1 } z
      exact Nat.le_succ_of_le (Nat.le_of_succ_le (Nat.le_of_eq this))
  · rw [phi_send0]; exact Nat.le_of_eq (by rw [e])
/-! ### a write -/
theorem sends_facts {c : Cfg} (hs : 0 < c.size) (b : Bool) : ∀ (n : Nat) (m : Mo), ((sends c b n m).side b).rest = (m.side b).rest - c.size * (n : Nat) ∧ (∀ d, d ≠ b → (sends c b n m).side d = m.side d ∧ (sends c b n m).way d = m.way d) ∧
    (sends c b n m).made = m.made ∧ (sends c b n m).stalls = m.stalls ∧ wgt ((sends c b n m).way b) = wgt (m.way b) + 2 * n ∧ ((∀ x ∈ m.way b, 0 ≤ x.1) → ∀ x ∈ (sends c b n m).way b, 0 ≤ x.1)
  | 0, m => ⟨by show _ = _ - c.size * 0; rw [Int.mul_zero, Int.sub_zero]; rfl, fun d _ => ⟨rfl, rfl⟩, rfl, rfl, rfl, fun h => h⟩
  | n + 1, m => by
    obtain ⟨h1, h2, h3, h4, h5, h6⟩ := sends_facts hs b n (send c b c.size m)
    have e : sends c b (n + 1) m = sends c b n (send c b c.size m) := rfl
    rw [e]
    refine ⟨?_, fun d hd => ?_, h3, h4, ?_, fun hw => h6 ?_⟩
    · rw [h1, send_side]
      show (m.side b).rest - c.size - c.size * (n : Nat) = _
      rw [Int.natCast_add, Int.mul_add]
      show _ = _ - (c.size * (n : Nat) + c.size * 1)
      omega
    · obtain ⟨q1, q2⟩ := h2 d hd
      rw [q1, q2]
      exact ⟨fset_ne _ _ hd, fset_ne _ _ hd⟩
    · rw [h5, send_way, wgt_snoc, if_neg (by show ¬ c.size = 0; omega)]
      omega
    · rw [send_way]
      intro x hx
      rcases List.mem_append.mp hx with hx | hx
      · exact hw x hx
      · rw [List.mem_singleton] at hx; subst hx; show 0 ≤ c.size; omega
theorem wTail_made (c : Cfg) (b : Bool) (h : Mode) (m : Mo) : (wTail c b h m).made = m.made ∧ (wTail c b h m).stalls = m.stalls := by
  unfold wTail
  split
  · exact ⟨rfl, rfl⟩
  · split <;> exact ⟨rfl, rfl⟩
theorem write_made (c : Cfg) (m : Mo) (hs : 0 < c.size) : (write c m).made = m.made + 1 ∧ (write c m).stalls = m.stalls := by
  unfold write
  simp only
  have h1 := wTail_made c (wd c m.made).who (wd c m.made).how (sends c (wd c m.made).who (nFull c (wd c m.made) m) (wHead c (wd c m.made) m))
  obtain ⟨_, _, h3, h4, _⟩ := sends_facts hs (wd c m.made).who (nFull c (wd c m.made) m) (wHead c (wd c m.made) m)
  exact ⟨h1.1.trans h3, h1.2.trans h4⟩
theorem nFull_le {c : Cfg} {m : Mo} {w : Word} (hs : 0 < c.size) (h0 : 0 ≤ (m.side w.who).rest) (h1 : (m.side w.who).rest < c.size) (hl : 0 < w.len) (hw : w.len ≤ 17 * c.size + 8) : nFull c w m ≤ 26 ∧ ((nFull c w m : Nat) : Int) = ((m.side w.who).rest + w.len) / c.size := by
  have hq0 : 0 ≤ ((m.side w.who).rest + w.len) / c.size := Int.ediv_nonneg (by omega) (by omega)
  have hn : ((nFull c w m : Nat) : Int) = ((m.side w.who).rest + w.len) / c.size := by unfold nFull; omega
  refine ⟨?_, hn⟩
  have hlt : ((m.side w.who).rest + w.len) / c.size < 27 := by
    apply Int.ediv_lt_of_lt_mul hs
    omega
  omega
theorem Wf.write {c : Cfg} {m : Mo} (h : Wf c m) (hs : 0 < c.size) (hl : 0 < (wd c m.made).len) (hw : (wd c m.made).len ≤ 17 * c.size + 8) : Wf c (write c m) ∧ phi (write c m) ≤ phi m + 62 := by
  obtain ⟨hn, hd⟩ := nFull_le (w := wd c m.made) hs (h.r0 _) (h.r1 _) hl hw
  have e : Lw.write c m = wTail c (wd c m.made).who (wd c m.made).how (sends c (wd c m.made).who (nFull c (wd c m.made) m) (wHead c (wd c m.made) m)) := rfl
  rw [e]
  generalize wd c m.made = w at *
  obtain ⟨f1, f2, f3, f4, f5, f6⟩ := sends_facts hs w.who (nFull c w m) (wHead c w m)
  have hr : ((wHead c w m).side w.who).rest = (m.side w.who).rest + w.len := by
    show (fset m.side w.who { m.side w.who with rest := (m.side w.who).rest + w.len, kept := false } w.who).rest = _
    rw [fset_same]
  rw [hr, hd] at f1
  have hdm := Int.mul_ediv_add_emod ((m.side w.who).rest + w.len) c.size
  have hm0 := Int.emod_nonneg ((m.side w.who).rest + w.len) (Int.ne_of_gt hs)
  have hm1 := Int.emod_lt_of_pos ((m.side w.who).rest + w.len) hs
  have hoth : ∀ d, d ≠ w.who → (wHead c w m).side d = m.side d := fun d hd => fset_ne _ _ hd
  have hwy : ∀ d, (wHead c w m).way d = m.way d := fun d => rfl
  have W2 : Wf c (sends c w.who (nFull c w m) (wHead c w m)) := by
    refine ⟨fun d => ?_, fun d => ?_, fun d => ?_⟩
    · by_cases ed : d = w.who
      · subst ed; omega
      · rw [(f2 d ed).1, hoth d ed]; exact h.r0 d
    · by_cases ed : d = w.who
      · subst ed; omega
      · rw [(f2 d ed).1, hoth d ed]; exact h.r1 d
    · by_cases ed : d = w.who
      · subst ed; exact f6 (h.w0 _)
      · rw [(f2 d ed).2, hwy]; exact h.w0 d
  have P2 : phi (sends c w.who (nFull c w m) (wHead c w m)) ≤ phi m + 55 := by
    rw [← phiB_eq _ w.who, ← phiB_eq m w.who]
    unfold phiB
    have q := f2 (!w.who) (not_ne _)
    rw [f5, q.1, q.2, hoth _ (not_ne _), hwy, hwy]
    have : rsw ((sends c w.who (nFull c w m) (wHead c w m)).side w.who) ≤ 3 := by unfold rsw; split <;> omega
    omega
  generalize sends c w.who (nFull c w m) (wHead c w m) = m2 at *
  unfold wTail
  split
  · exact ⟨W2.setSide rfl, by rw [phi_setSide m2 w.who { m2.side w.who with kept := true } rfl]; omega⟩
  · split
    · rename_i hz
      have := phi_send_rest c w.who m2 (by omega)
      exact ⟨W2.send (W2.r0 _) (Int.le_refl _), by omega⟩
    · exact ⟨W2, by omega⟩
/-! ### runs -/
structure CfgL (c : Cfg) : Prop extends CfgOk c where
  ln : ∀ w ∈ c.words, w.len ≤ 17 * c.size + 8
  nw : c.words.length ≤ 16
/-- an event may come -/
def Legit (c : Cfg) (m : Mo) : Ev → Prop
  | .write => m.made < c.words.length
  | .timer => 0 < m.made ∧ m.made ≤ c.words.length
  | .arr a => m.way a ≠ []
def stF (c : Cfg) (l : List Ev) : Mo := l.foldl (fun m e => step c e m) mo0
/-- what every state of a run satisfies -/
structure Sok (c : Cfg) (m : Mo) : Prop where
  wf : Wf c m
  ph : phi m ≤ 4000
  md : m.made ≤ c.words.length
structure Gd (c : Cfg) (B : Nat) (x : ML) : Prop where
  wf : Wf c x.1
  mu : phi x.1 + x.2.length ≤ B
  md : x.1.made ≤ c.words.length
  st : x.1 = stF c x.2
  pr : ∀ i e, x.2[i]? = some e → Legit c (stF c (x.2.take i)) e ∧ Sok c (stF c (x.2.take i))
theorem Gd.sok {c : Cfg} {B : Nat} {x : ML} (g : Gd c B x) (hB : B ≤ 4000) : Sok c x.1 := ⟨g.wf, by have := g.mu; omega, g.md⟩
theorem Gd.mono {c : Cfg} {B B' : Nat} {x : ML} (g : Gd c B x) (h : B ≤ B') : Gd c B' x := ⟨g.wf, Nat.le_trans g.mu h, g.md, g.st, g.pr⟩
theorem Gd.does {c : Cfg} {B B' : Nat} {x : ML} {e : Ev} (g : Gd c B x) (hB : B ≤ 4000) (hl : Legit c x.1 e) (w : Wf c (step c e x.1)) (mu : phi (step c e x.1) + (x.2.length + 1) ≤ B') (mk : (step c e x.1).made ≤ c.words.length) : Gd c B' (Lw.does c e x) := by
  refine ⟨w, ?_, mk, ?_, fun i e' he => ?_⟩
  · show phi (step c e x.1) + (x.2 ++ [e]).length ≤ B'
    rw [List.length_append]; exact mu
  · show step c e x.1 = stF c (x.2 ++ [e])
    unfold stF
    rw [List.foldl_append]
    show _ = step c e (stF c x.2)
    rw [← g.st]
  · change (x.2 ++ [e])[i]? = some e' at he
    show Legit c (stF c ((x.2 ++ [e]).take i)) e' ∧ Sok c (stF c ((x.2 ++ [e]).take i))
    by_cases hi : i < x.2.length
    · rw [List.getElem?_append_left hi] at he
      rw [List.take_append_of_le_length (Nat.le_of_lt hi)]
      exact g.pr i e' he
    · have hi2 : i = x.2.length := by
        have := (List.getElem?_eq_some_iff.mp he).1
        rw [List.length_append, List.length_singleton] at this; omega
      subst hi2
      rw [List.getElem?_append_right (Nat.le_refl _), Nat.sub_self] at he
      cases he
      rw [List.take_append_of_le_length (Nat.le_refl _), List.take_length, ← g.st]
      exact ⟨hl, g.sok hB⟩
theorem Gd.arrOne {c : Cfg} {B : Nat} {x : ML} {a : Bool} (g : Gd c B x) (hB : B ≤ 4000) (hw : over c x.1 = false → x.1.way a ≠ []) : Gd c B (arrOne c a x) := by
  cases ho : over c x.1 with
  | true => rw [arrOne_over ho]; exact g
  | false =>
    rw [arrOne_go ho]
    have h := hw ho
    have hp := phi_arrive c a x.1 h
    have := g.mu
    exact g.does hB h (g.wf.arrive a) (by show phi (arrive c a x.1) + _ ≤ B; omega) (by show (arrive c a x.1).made ≤ _; rw [(arrive_made c a x.1).1]; exact g.md)
theorem Gd.arrN {c : Cfg} {B : Nat} {x : ML} {a : Bool} (g : Gd c B x) (hB : B ≤ 4000) : ∀ n, n ≤ (x.1.way a).length → Gd c B (arrN c a n x)
  | 0, _ => g
  | n + 1, h => by
    rw [arrN_snoc]
    refine (Gd.arrN g hB n (by omega)).arrOne hB fun ho e => ?_
    have := arrN_len c a n x ho
    rw [e] at this
    simp at this
    omega
theorem Gd.noted {c : Cfg} {B : Nat} {x : ML} (g : Gd c B x) (hB : B ≤ 4000) : Gd c B (noted c x) := by
  unfold Lw.noted
  split
  · exact g
  · simp only
    exact (g.arrN hB _ (Nat.le_refl _)).arrN hB _ (Nat.le_refl _)
theorem Gd.notedN {c : Cfg} {B : Nat} (hB : B ≤ 4000) : ∀ (n : Nat) {x : ML}, Gd c B x → Gd c B (notedN c n x)
  | 0, _, g => g
  | n + 1, _, g => Gd.notedN hB n (g.noted hB)
theorem Gd.settle {c : Cfg} {B : Nat} {x : ML} (g : Gd c B x) (hB : B ≤ 4000) : Gd c B (settle c x) := by
  have : ∀ (n : Nat) (x : ML), Gd c B x → Gd c B (settleF c n x) := by
    intro n
    induction n with
    | zero => intro x g; exact g
    | succ n ih =>
      intro x g
      show Gd c B (if _ then _ else _ : ML)
      split
      · exact ih _ (g.noted hB)
      · exact g.noted hB
  exact this _ x g
theorem Gd.timer {c : Cfg} {B : Nat} {x : ML} (g : Gd c B x) (hB : B ≤ 4000) (h0 : 0 < x.1.made) : Gd c (B + 2) (Lw.does c .timer x) := by
  have := phi_fire c x.1
  have := g.mu
  exact g.does hB ⟨h0, g.md⟩ g.wf.fire (by show phi (fire c x.1) + _ ≤ _; omega) (by show (fire c x.1).made ≤ _; rw [fire_made]; exact g.md)
theorem Gd.write {c : Cfg} (ok : CfgL c) {B : Nat} {x : ML} (g : Gd c B x) (hB : B ≤ 4000) (h0 : x.1.made < c.words.length) : Gd c (B + 70) (Lw.does c .write x) := by
  have hm := wd_mem h0
  obtain ⟨w, p⟩ := g.wf.write ok.size (ok.len _ hm) (ok.ln _ hm)
  have := g.mu
  exact g.does hB h0 w (by show phi (Lw.write c x.1) + _ ≤ _; omega) (by show (Lw.write c x.1).made ≤ _; rw [(write_made c x.1 ok.size).1]; exact h0)
/-- a state that is due has a write behind it -/
def Md (c : Cfg) (x : ML) : Prop := x.1.made = 0 → due c x.1 = false
theorem noted_0 {c : Cfg} {x : ML} (h : x.1.made = 0) : noted c x = x := by unfold noted; rw [if_pos (Or.inl h)]
theorem due_made {c : Cfg} {x : ML} (h : Md c x) (hd : due c (settle c x).1 = true) : 0 < (settle c x).1.made := by
  rcases Nat.eq_zero_or_pos (settle c x).1.made with z | z
  · rw [(settle_made c x).1] at z
    rw [settle_still (noted_0 z), h z] at hd
    cases hd
  · exact z
theorem Md.settle {c : Cfg} {x : ML} (h : Md c x) : Md c (settle c x) := fun z => by
  rw [(settle_made c x).1] at z
  rw [settle_still (noted_0 z)]; exact h z
theorem Md.timer {c : Cfg} {x : ML} (h : 0 < x.1.made) : Md c (Lw.does c .timer x) := fun z => by
  have : (fire c x.1).made = 0 := z
  rw [fire_made] at this; omega
theorem Gd.lawEnd {c : Cfg} {B : Nat} {x : ML} (g : Gd c B x) (hB : B ≤ 3900) (h : Md c x) : Gd c (B + 4) (lawEnd c x) ∧ (lawEnd c x).1.made = x.1.made := by
  unfold Lw.lawEnd
  simp only
  have g1 := g.settle (by omega)
  have m1 := settle_made c x
  have D1 := due_made h
  have M1 := h.settle
  generalize Lw.settle c x = y at *
  have g2 : Gd c (B + 2) (if due c y.1 = true then Lw.does c .timer y else y) ∧ Md c (if due c y.1 = true then Lw.does c .timer y else y) ∧ (if due c y.1 = true then Lw.does c .timer y else y).1.made = y.1.made := by
    split
    · rename_i hd
      exact ⟨g1.timer (by omega) (D1 hd), Md.timer (D1 hd), fire_made c y.1⟩
    · exact ⟨g1.mono (by omega), M1, rfl⟩
  generalize (if due c y.1 = true then Lw.does c .timer y else y) = z at *
  obtain ⟨g2, M2, m2⟩ := g2
  have g3 := g2.settle (by omega)
  have m3 := settle_made c z
  have D3 := due_made M2
  generalize Lw.settle c z = u at *
  split
  · rename_i hd
    exact ⟨g3.timer (by omega) (D3 hd), (fire_made c u.1).trans (by omega)⟩
  · exact ⟨g3.mono (by omega), by omega⟩
theorem gd0 {c : Cfg} (ok : CfgL c) : Gd c 0 (mo0, []) := ⟨⟨fun b => Int.le_refl _, fun b => ok.size, fun b x hx => (List.not_mem_nil hx).elim⟩, by decide, Nat.zero_le _, rfl, fun i e he => by cases he⟩
theorem md0 {c : Cfg} : Md c (mo0, []) := fun _ => by
  have g0 : ∀ b, given c 0 b = 0 := fun b => by unfold given; simp
  have hh : ∀ b, heard c mo0 b = true := fun b => by
    unfold heard
    show decide ((0 : Int) = given c 0 (!b)) = true
    rw [g0]; rfl
  show due c mo0 = false
  unfold due
  rcases Nat.eq_zero_or_pos c.words.length with h | h
  · have : over c mo0 = true := by
      unfold over
      rw [hh, hh]
      show (decide (0 = c.words.length) && true && true) = true
      rw [decide_eq_true h.symm] <;> rfl
    rw [this]; rfl
  · have : canWrite c mo0 = true := by
      unfold canWrite
      rw [hh]
      show (decide (0 < c.words.length) && true) = true
      rw [decide_eq_true h] <;> rfl
    rw [this]; simp
theorem notedN_made (c : Cfg) : ∀ (n : Nat) (x : ML), (notedN c n x).1.made = x.1.made
  | 0, x => rfl
  | n + 1, x => (notedN_made c n (noted c x)).trans (noted_made2 c x).1
def pre1 (c : Cfg) (plan : Nat → Nat) (k : Nat) : ML × List Int := if fresh c k = true then (lawEnd c (played c plan k).1, (played c plan k).2 ++ [(lawEnd c (played c plan k).1).1.stalls]) else played c plan k
theorem played_succ (c : Cfg) (plan : Nat → Nat) (k : Nat) : played c plan (k + 1) = (does c .write (notedN c (plan k) (pre1 c plan k).1), (pre1 c plan k).2) := by
  unfold pre1; rfl
theorem pre1_gd {c : Cfg} {plan : Nat → Nat} {k : Nat} (hk : k ≤ 16) (g : Gd c (75 * k) (played c plan k).1) (hd : Md c (played c plan k).1) : Gd c (75 * k + 4) (pre1 c plan k).1 ∧ (pre1 c plan k).1.1.made = (played c plan k).1.1.made := by
  have hb : 75 * k ≤ 1200 := by omega
  unfold pre1
  generalize 75 * k = B at *
  have q := g.lawEnd (Nat.le_trans hb (by decide)) hd
  have q2 := g.mono (Nat.le_add_right B 4)
  generalize played c plan k = X at *
  generalize lawEnd c X.1 = Y at *
  split
  · exact q
  · exact ⟨q2, rfl⟩
theorem gd_step {c : Cfg} (ok : CfgL c) {B : Nat} {y : ML} (n : Nat) (hB : B ≤ 3000) (g : Gd c B y) (h : y.1.made < c.words.length) : Gd c (B + 70) (does c .write (notedN c n y)) ∧ (does c .write (notedN c n y)).1.made = y.1.made + 1 := by
  have hB2 : B ≤ 4000 := Nat.le_trans hB (by decide)
  have g2 := Gd.notedN (c := c) (B := B) hB2 n g
  have m2 := notedN_made c n y
  refine ⟨g2.write ok hB2 (by rw [m2]; exact h), ?_⟩
  show (Lw.write c (notedN c n y).1).made = _
  rw [(write_made c _ ok.size).1, m2]
theorem played_gd {c : Cfg} (ok : CfgL c) (plan : Nat → Nat) : ∀ k, k ≤ c.words.length → Gd c (75 * k) (played c plan k).1 ∧ (played c plan k).1.1.made = k ∧ Md c (played c plan k).1
  | 0, _ => ⟨gd0 ok, rfl, md0⟩
  | k + 1, h => by
    obtain ⟨g, hm, hd⟩ := played_gd ok plan k (Nat.le_of_succ_le h)
    have hk : k ≤ 16 := Nat.le_trans (Nat.le_of_succ_le h) ok.nw
    obtain ⟨h1, h2⟩ := pre1_gd hk g hd
    have hb : 75 * k + 4 ≤ 3000 := by omega
    obtain ⟨g3, m3⟩ := gd_step ok (plan k) hb h1 (by rw [h2, hm]; exact h)
    rw [played_succ]
    rw [h2, hm] at m3
    exact ⟨g3.mono (by omega), m3, fun z => absurd (m3.symm.trans z) (Nat.succ_ne_zero k)⟩
theorem playedEnd_gd {c : Cfg} (ok : CfgL c) (plan : Nat → Nat) : Gd c 1210 (playedEnd c plan).1 := by
  obtain ⟨g, hm, hd⟩ := played_gd ok plan c.words.length (Nat.le_refl _)
  have hk := ok.nw
  have e : (playedEnd c plan).1 = lawEnd c (played c plan c.words.length).1 := by unfold playedEnd; rfl
  rw [e]
  have q := (g.mono (show 75 * c.words.length ≤ 1200 by omega)).lawEnd (by decide) hd
  generalize lawEnd c (played c plan c.words.length).1 = Y at *
  exact q.1.mono (by decide)
end Lw
/-! LwJ: the road's bounds, and that its writes are possible. -/
namespace Lw
theorem R.hears {c : Cfg} {s : Bool} {g0 c0 : Int} {m : Mo} {p : Parts} {seg ack : Int} {S L : Side} {ws : List Int} {r : Rc} (h : R c s g0 c0 m p seg ack S L ws r) : heard c m s = true := by
  unfold heard
  rw [h.at_.sp, h.lgot, h.consl]
  exact decide_eq_true rfl
def road1 (c : Cfg) (plan : Nat → Nat) (k : Nat) : ML := if 0 < k ∧ (wd c k).who ≠ (wd c (k - 1)).who then roadEnd c (roadN c plan k) else roadN c plan k
theorem roadN_succ (c : Cfg) (plan : Nat → Nat) (k : Nat) : roadN c plan (k + 1) = does c .write (notedN c (plan k) (road1 c plan k)) := by
  unfold road1; rfl
theorem can_of {c : Cfg} {m : Mo} (h1 : m.made < c.words.length) (h2 : heard c m (wd c m.made).who = true) : canWrite c m = true := by
  unfold canWrite
  rw [h2, decide_eq_true h1]; rfl
/-- at each write of the road the write is possible -/
theorem road_can {c : Cfg} {plan : Nat → Nat} (ok : CfgOk c) (po : PlanOk c plan) : ∀ k, k < c.words.length → (notedN c (plan k) (road1 c plan k)).1.made = k ∧ canWrite c (notedN c (plan k) (road1 c plan k)).1 = true
  | 0, hk => by
    have fr : fresh c 0 = true := rfl
    have e : notedN c (plan 0) (road1 c plan 0) = (mo0, []) := by
      rw [po.fr 0 fr]
      show road1 c plan 0 = _
      unfold road1
      rw [if_neg (fun q => absurd q.1 (by decide))]
      rfl
    rw [e]
    refine ⟨rfl, can_of hk ?_⟩
    unfold heard given
    simp [mo0, side0]
  | k + 1, hk => by
    obtain ⟨m, lg, sl, fl, f, a, M⟩ := mid ok po k (by omega)
    obtain ⟨pl, rd, made, split, ak, ⟨g0, c0, S, L, ws, r, rel, hg, hq⟩, sl_, fl_, st, idx_, sum_, f01⟩ := M
    rw [show k + 1 - 1 = k by omega] at *
    by_cases fr : (wd c (k + 1)).who = (wd c k).who
    · have e : road1 c plan (k + 1) = (m, lg) := by
        unfold road1
        rw [if_neg (fun q => q.2 fr), rd]
      rw [e]
      obtain ⟨m1, l1, S1, L1, ws1, r1, q1, q2, q3, q4⟩ := notedN_R ok (plan (k + 1)) (lg := lg) rel (by rw [made]; omega) (by rw [made, Nat.add_sub_cancel]) (by rw [made]; exact hk)
      rw [q1]
      have hm1 : m1.made = k + 1 := by rw [q2, made]
      refine ⟨hm1, can_of (by rw [hm1]; exact hk) ?_⟩
      rw [hm1, fr]
      exact q4.hears
    · have hs' : (wd c (k + 1)).who = !(wd c k).who := by
        cases h1 : (wd c k).who <;> cases h2 : (wd c (k + 1)).who <;> simp_all
      obtain ⟨m1, l1, q1, q2, q3, q4, q5, q6⟩ := turn_end ok rel (by rw [made]; omega) (by rw [made, Nat.add_sub_cancel]) (by rw [made]; omega) (by rw [made]; intro _; exact hs') hq (by rw [made]; exact hg) lg
      have e : road1 c plan (k + 1) = (m1, l1) := by
        unfold road1
        rw [if_pos ⟨Nat.succ_pos _, fr⟩, rd, q2]
      have hfr : fresh c (k + 1) = true := by
        unfold fresh
        rw [Nat.add_sub_cancel, decide_eq_true (show (wd c k).who ≠ (wd c (k + 1)).who from fun z => fr z.symm), Bool.or_true]
      rw [e, po.fr _ hfr]
      show m1.made = k + 1 ∧ canWrite c m1 = true
      have hm1 : m1.made = k + 1 := by rw [q3, made]
      obtain ⟨S5, L5, R5, _⟩ := (q5 (by rw [made]; exact hk)).ex
      refine ⟨hm1, can_of (by rw [hm1]; exact hk) ?_⟩
      rw [hm1, hs']
      exact R5.hears
theorem Gd.roadEnd {c : Cfg} {B : Nat} {x : ML} (g : Gd c B x) (hB : B ≤ 3900) (h : Md c x) : Gd c (B + 2) (roadEnd c x) ∧ (roadEnd c x).1.made = x.1.made := by
  unfold Lw.roadEnd
  simp only
  have g1 := g.settle (by omega)
  have m1 := settle_made c x
  have D1 := due_made h
  generalize Lw.settle c x = y at *
  split
  · rename_i hd
    have g2 := (g1.timer (by omega) (D1 hd)).settle (by omega)
    exact ⟨g2, (settle_made c _).1.trans ((fire_made c y.1).trans m1.1)⟩
  · exact ⟨g1.mono (by omega), m1.1⟩
theorem road1_gd {c : Cfg} {plan : Nat → Nat} {k : Nat} (hk : k ≤ 16) (g : Gd c (75 * k) (roadN c plan k)) (hd : Md c (roadN c plan k)) : Gd c (75 * k + 4) (road1 c plan k) ∧ (road1 c plan k).1.made = (roadN c plan k).1.made := by
  have hb : 75 * k ≤ 1200 := by omega
  unfold road1
  generalize 75 * k = B at *
  have q := g.roadEnd (Nat.le_trans hb (by decide)) hd
  have q2 := g.mono (Nat.le_add_right B 4)
  generalize roadN c plan k = X at *
  generalize Lw.roadEnd c X = Y at *
  split
  · exact ⟨q.1.mono (by omega), q.2⟩
  · exact ⟨q2, rfl⟩
theorem roadN_gd {c : Cfg} (ok : CfgL c) (plan : Nat → Nat) : ∀ k, k ≤ c.words.length → Gd c (75 * k) (roadN c plan k) ∧ (roadN c plan k).1.made = k ∧ Md c (roadN c plan k)
  | 0, _ => ⟨gd0 ok, rfl, md0⟩
  | k + 1, h => by
    obtain ⟨g, hm, hd⟩ := roadN_gd ok plan k (Nat.le_of_succ_le h)
    have hk : k ≤ 16 := Nat.le_trans (Nat.le_of_succ_le h) ok.nw
    obtain ⟨h1, h2⟩ := road1_gd hk g hd
    have hb : 75 * k + 4 ≤ 3000 := by omega
    obtain ⟨g3, m3⟩ := gd_step ok (plan k) hb h1 (by rw [h2, hm]; exact h)
    rw [roadN_succ]
    rw [h2, hm] at m3
    exact ⟨g3.mono (by omega), m3, fun z => absurd (m3.symm.trans z) (Nat.succ_ne_zero k)⟩
/-! ### the replay: how many bare acknowledgments the ways get -/
def bares (w : List (Int × Int)) : Nat := (w.filter fun x => decide (x.1 = 0)).length
theorem bares_app (u w : List (Int × Int)) : bares (u ++ w) = bares u + bares w := by
  unfold bares
  rw [List.filter_append, List.length_append]
/-- m' has more on the ways, and as many more bare ones as are told -/
def Grow (m m' : Mo) : Prop := ∃ ad : Bool → List (Int × Int), (∀ b, m'.way b = m.way b ++ ad b) ∧ m'.bare = m.bare + bares (ad false) + bares (ad true)
theorem Grow.refl (m : Mo) : Grow m m := ⟨fun _ => [], fun b => (List.append_nil _).symm, rfl⟩
theorem Grow.trans {a b d : Mo} (h1 : Grow a b) (h2 : Grow b d) : Grow a d := by
  obtain ⟨x, x1, x2⟩ := h1
  obtain ⟨y, y1, y2⟩ := h2
  refine ⟨fun b => x b ++ y b, fun b => by rw [y1, x1, List.append_assoc], ?_⟩
  rw [y2, x2, bares_app, bares_app]
  omega
theorem Grow.side {m : Mo} {b : Bool} {S : Side} : Grow m (setSide m b S) := ⟨fun _ => [], fun b => (List.append_nil _).symm, rfl⟩
theorem Grow.send (c : Cfg) (m : Mo) (b : Bool) (n : Int) : Grow m (send c b n m) := by
  refine ⟨fun d => if d = b then [(n, (m.side b).got)] else [], fun d => ?_, ?_⟩
  · show _ = m.way d ++ if d = b then [(n, (m.side b).got)] else []
    by_cases e : d = b
    · subst e; rw [if_pos rfl, send_way]
    · rw [if_neg e, List.append_nil]; exact fset_ne _ _ e
  · show m.bare + (if n = 0 then 1 else 0) = _
    have hb : bares [(n, (m.side b).got)] = if n = 0 then 1 else 0 := by
      unfold bares
      rw [List.filter_cons]
      by_cases z : n = 0
      · rw [if_pos z, if_pos (decide_eq_true z)]; rfl
      · rw [if_neg z, if_neg (by simpa using z)]; rfl
    have h0 : bares [] = 0 := rfl
    cases b
    · show _ = m.bare + bares [(n, (m.side false).got)] + bares []
      rw [hb, h0]; rfl
    · show _ = m.bare + bares [] + bares [(n, (m.side true).got)]
      rw [hb, h0]; omega
theorem Grow.sends (c : Cfg) (b : Bool) : ∀ (n : Nat) (m : Mo), Grow m (sends c b n m)
  | 0, m => .refl m
  | n + 1, m => (Grow.send c m b c.size).trans (Grow.sends c b n _)
theorem Grow.arrAck (c : Cfg) (b : Bool) (v : Int) (m : Mo) : Grow m (arrAck c b v m) := by
  unfold Lw.arrAck
  simp only
  split
  · exact Grow.side.trans (Grow.send c _ b _)
  · exact Grow.side
theorem Grow.arrGot (c : Cfg) (b : Bool) (n : Int) (m : Mo) : Grow m (arrGot c b n m) := by
  obtain ⟨S1, _, h | h⟩ := arrGot_eq c b n m <;> rw [h]
  · exact Grow.side.trans (Grow.send c _ b _)
  · exact Grow.side
theorem Grow.write (c : Cfg) (m : Mo) : Grow m (write c m) := by
  unfold Lw.write
  simp only
  have h1 : Grow m (wHead c (wd c m.made) m) := ⟨fun _ => [], fun b => (List.append_nil _).symm, rfl⟩
  refine (h1.trans (Grow.sends c (wd c m.made).who (nFull c (wd c m.made) m) (wHead c (wd c m.made) m))).trans ?_
  unfold wTail
  split
  · exact Grow.side
  · split
    · exact Grow.send c _ _ _
    · exact .refl _
theorem Grow.fire (c : Cfg) (m : Mo) : Grow m (fire c m) := by
  unfold Lw.fire
  have h1 : Grow m { m with stalls := m.stalls + 1 } := ⟨fun _ => [], fun b => (List.append_nil _).symm, rfl⟩
  simp only
  split
  · exact h1.trans (Grow.send c _ _ _)
  · exact h1.trans (Grow.send c _ _ _)
/-- how many of the way are there behind the event -/
def left (e : Ev) (b : Bool) (m : Mo) : Nat := (m.way b).length - if e = .arr b then 1 else 0
theorem step_grow {c : Cfg} {m : Mo} {e : Ev} (h : Legit c m e) : ∃ ad : Bool → List (Int × Int), (∀ b, ((step c e m).way b).drop (left e b m) = ad b) ∧ (step c e m).bare = m.bare + bares (ad false) + bares (ad true) := by
  have key : ∀ m0 m' : Mo, Grow m0 m' → m0.bare = m.bare → (∀ b, (m0.way b).length = left e b m) → step c e m = m' → ∃ ad : Bool → List (Int × Int), (∀ b, ((step c e m).way b).drop (left e b m) = ad b) ∧ (step c e m).bare = m.bare + bares (ad false) + bares (ad true) := by
    intro m0 m' g hb hl he
    obtain ⟨ad, h1, h2⟩ := g
    refine ⟨ad, fun b => ?_, by rw [he, h2, hb]⟩
    rw [he, h1, ← hl b, List.drop_left]
  cases e with
  | write => exact key m _ (Grow.write c m) rfl (fun b => by unfold left; rw [if_neg (by intro z; cases z)]; rfl) rfl
  | timer => exact key m _ (Grow.fire c m) rfl (fun b => by unfold left; rw [if_neg (by intro z; cases z)]; rfl) rfl
  | arr a =>
    have hw : m.way a ≠ [] := h
    obtain ⟨x0, r, e⟩ : ∃ x0 r, m.way a = x0 :: r := by
      cases e : m.way a with
      | nil => exact absurd e hw
      | cons x l => exact ⟨x, l, rfl⟩
    obtain ⟨x, y⟩ := x0
    refine key { m with way := fset m.way a r } _ ?_ rfl (fun b => ?_) rfl
    · show Grow _ (arrive c a m)
      unfold arrive
      rw [e]
      simp only
      split
      · exact (Grow.arrAck c _ _ _).trans (Grow.arrGot c _ _ _)
      · exact Grow.arrAck c _ _ _
    · show (fset m.way a r b).length = _
      unfold left
      by_cases z : b = a
      · subst z; rw [fset_same, if_pos rfl, e]; rfl
      · rw [fset_ne _ _ z, if_neg (fun q => z (by injection q with q; exact q.symm))]; rfl
end Lw
/-! LwW: short words for the walks. -/
namespace Lw
open PySem PySem.Spec PyProof.Rows L2
/-! ### heaps -/
abbrev Ex (H H' : Hp) : Prop := Same H H'
theorem Ex.new {H : Hp} {p : Addr} {o : HO} (h : H p = none) : Ex H (upd H p o) := fun a u e => by
  rw [upd_ne (ne_of_none e h)]
  exact e
theorem xn {H : Hp} {p a : Addr} {o u : HO} (h : H p = none) (e : H a = some u) : upd H p o a = some u := Ex.new h a u e
theorem exapp {H H' : Hp} {a : Addr} {u : HO} (e : Ex H H') (h : H a = some u) : H' a = some u := e _ _ h
theorem exmut {H H' : Hp} {D : Addr} {o : HO} (e : Ex H H') (h : H D = none) : Ex H (upd H' D o) := fun a u ha => by
  rw [upd_ne (ne_of_none ha h)]
  exact e a u ha
theorem ex_sqT {K : PySem.W.Frag} {H H' : Hp} {a : Addr} {xs : List V} (e : Ex H H') (h : SqT K H a xs) : SqT K H' a xs := by
  rcases h with (h | ⟨o, h⟩) | h
  · exact .inl (.inl (e _ _ h))
  · exact .inl (.inr ⟨o, e _ _ h⟩)
  · exact .inr h
theorem ex_sqL {K : PySem.W.Frag} {H H' : Hp} {a : Addr} {xs : List V} (e : Ex H H') (h : SqL K H a xs) : SqL K H' a xs := e.seq h
/-- all but what stands at F stays -/
def Kp (F : List Addr) (H H' : Hp) : Prop := ∀ b o, H b = some o → b ∉ F → H' b = some o
theorem Kp.refl {F : List Addr} {H : Hp} : Kp F H H := fun _ _ e _ => e
theorem Kp.trans {F : List Addr} {H H1 H2 : Hp} (a : Kp F H H1) (b : Kp F H1 H2) : Kp F H H2 := fun c o e n => b c o (a c o e n) n
theorem Kp.of {F : List Addr} {H H' : Hp} (e : Ex H H') : Kp F H H' := fun b o h _ => e b o h
theorem Kp.mono {F G : List Addr} {H H' : Hp} (a : Kp F H H') (h : ∀ b ∈ F, b ∈ G) : Kp G H H' := fun c o e n => a c o e fun m => n (h c m)
theorem Kp.upd {F : List Addr} {H : Hp} {a : Addr} {o : HO} (h : a ∈ F) : Kp F H (upd H a o) := fun b u e n => by
  rw [upd_ne (fun q => n (by rw [q]; exact h))]
  exact e
theorem Kp.free {F : List Addr} {H H' : Hp} (k : Kp F H H') {p : Addr} (h : H' p = none) (n : p ∉ F) : H p = none := by
  cases q : H p with
  | none => rfl
  | some o => rw [k p o q n] at h; cases h
/-- what the base heap knows stays, where F is younger -/
theorem Kp.ex {F : List Addr} {H0 H H' : Hp} (k : Kp F H H') (e : Ex H0 H) (f : ∀ b ∈ F, H0 b = none) : Ex H0 H' := fun b o h => k b o (e b o h) fun m => by
  rw [f b m] at h
  cases h
theorem le_sz {n : Nat} (h : n ≤ 100000) : n ≤ sizeLine := Nat.le_trans h (by decide)
theorem lt_sz {n : Nat} (h : n < 100000) : n < sizeLine := Nat.lt_of_lt_of_le h (by decide)
theorem lt_r {n m : Nat} (h : Nat.blt n m = true := by rfl) : n < m := Nat.lt_of_lt_of_le (Nat.lt_succ_self n) (Nat.le_of_ble_eq_true h)
theorem le_r {n m : Nat} (h : Nat.ble n m = true := by rfl) : n ≤ m := Nat.le_of_ble_eq_true h
/-! ### dicts with text keys -/
theorem dgt {H : Hp} {d : Addr} {kvs : List (Key × V)} {x : Str} {v : V} (h : H d = some (.dK kvs)) (e : valV kvs (.inr x) = some v) : DGet H d (.str x) (some v) := by
  have := DGet.k (k := Sum.inr x) h
  rw [e] at this
  exact this
theorem dpt {H : Hp} {d : Addr} {kvs kvs' : List (Key × V)} {x : Str} {v : V} (h : H d = some (.dK kvs)) (hl : kvs.length < 1000) (e : putK kvs (.inr x) v = kvs') : DPut H d (.str x) v (upd H d (.dK kvs')) := by
  subst e
  exact DPut.k (k := Sum.inr x) h (Nat.lt_of_lt_of_le hl (by decide))
/-! ### lists told by a map -/
theorem map_get {α β : Type} {ss : List α} {f : α → β} {i : Nat} {x : β} (h : (ss.map f)[i]? = some x) : ∃ s, ss[i]? = some s ∧ x = f s := by
  rw [List.getElem?_map] at h
  cases e : ss[i]? with
  | none => rw [e] at h; cases h
  | some s => rw [e] at h; exact ⟨s, rfl, (Option.some.inj h).symm⟩
theorem take_map {α β : Type} {ss : List α} {i : Nat} {s : α} (h : ss[i]? = some s) (g : α → β) : (ss.map g).take (i + 1) = (ss.map g).take i ++ [g s] := by
  rw [List.take_add_one, List.getElem?_map, h]
  rfl
theorem take_lt {α : Type} {ss : List α} {i : Nat} (h : ss.length < 100000) : (ss.take i).length < sizeLine := lt_sz (Nat.lt_of_le_of_lt (List.length_take_le' _ _) h)
theorem take_all {α : Type} (ss : List α) : ss.take ss.length = ss := List.take_length
/-! ### rows: tuples at addresses -/
structure Rows (H : Hp) (ps : List Addr) (rs : List (List V)) : Prop where
  len : ps.length = rs.length
  at_ : ∀ (i : Nat) (p : Addr), ps[i]? = some p → ∃ r, rs[i]? = some r ∧ H p = some (.tup r)
theorem Rows.nil {H : Hp} : Rows H [] [] := ⟨rfl, fun i p h => by cases h⟩
theorem Rows.ex {H H' : Hp} {ps : List Addr} {rs : List (List V)} (h : Rows H ps rs) (e : Ex H H') : Rows H' ps rs := ⟨h.len, fun i p hp => let ⟨r, a, b⟩ := h.at_ i p hp; ⟨r, a, e _ _ b⟩⟩
theorem Rows.get {H : Hp} {ps : List Addr} {rs : List (List V)} (h : Rows H ps rs) {i : Nat} {r : List V} (e : rs[i]? = some r) : ∃ p, ps[i]? = some p ∧ H p = some (.tup r) := by
  obtain ⟨hi, _⟩ := List.getElem?_eq_some_iff.mp e
  have hp : ps[i]? = some (ps[i]'(by rw [h.len]; exact hi)) := List.getElem?_eq_getElem _
  obtain ⟨r', a, b⟩ := h.at_ i _ hp
  rw [e] at a
  cases a
  exact ⟨_, hp, b⟩
theorem Rows.snoc {H : Hp} {ps : List Addr} {rs : List (List V)} {p : Addr} {r : List V} (h : Rows H ps rs) (hp : H p = some (.tup r)) : Rows H (ps ++ [p]) (rs ++ [r]) := by
  refine ⟨by rw [List.length_append, List.length_append, h.len]; rfl, fun i q hq => ?_⟩
  by_cases hi : i < ps.length
  · rw [List.getElem?_append_left hi] at hq
    obtain ⟨r', a, b⟩ := h.at_ i q hq
    exact ⟨r', by rw [List.getElem?_append_left (by rw [← h.len]; exact hi)]; exact a, b⟩
  · rw [List.getElem?_append_right (by omega)] at hq
    have h0 : i - ps.length = 0 := by
      have := (List.getElem?_eq_some_iff.mp hq).1
      simp at this
      omega
    rw [h0] at hq
    cases hq
    refine ⟨r, ?_, hp⟩
    rw [List.getElem?_append_right (by rw [← h.len]; omega), ← h.len, h0]; rfl
theorem Rows.set {H : Hp} {ps : List Addr} {rs : List (List V)} {p : Addr} {r : List V} (h : Rows H ps rs) (hp : H p = some (.tup r)) (j : Nat) : Rows H (ps.set j p) (rs.set j r) := by
  refine ⟨by rw [List.length_set, List.length_set, h.len], fun i q hq => ?_⟩
  rw [List.getElem?_set] at hq ⊢
  by_cases hij : j = i
  · rw [if_pos hij] at hq ⊢
    by_cases hl : j < ps.length
    · rw [if_pos (by omega)] at hq
      cases hq
      exact ⟨r, by rw [if_pos (by rw [← h.len]; omega)], hp⟩
    · rw [if_neg (by omega)] at hq
      cases hq
  · rw [if_neg hij] at hq ⊢
    exact h.at_ i q hq
theorem Rows.tail {H : Hp} {p : Addr} {ps : List Addr} {r : List V} {rs : List (List V)} (h : Rows H (p :: ps) (r :: rs)) : H p = some (.tup r) ∧ Rows H ps rs := by
  refine ⟨?_, by have := h.len; simp at this; exact this, fun i q hq => ?_⟩
  · obtain ⟨r', a, b⟩ := h.at_ 0 p rfl
    cases a
    exact b
  · exact h.at_ (i + 1) q hq
/-- a list of tuples -/
def LstT (H : Hp) (a : Addr) (rs : List (List V)) : Prop := ∃ ps : List Addr, H a = some (.lst (ps.map V.ref)) ∧ Rows H ps rs
theorem LstT.ex {H H' : Hp} {a : Addr} {rs : List (List V)} (h : LstT H a rs) (e : Ex H H') : LstT H' a rs := let ⟨ps, x, y⟩ := h; ⟨ps, e _ _ x, y.ex e⟩
theorem yen {xs : List V} {i : Nat} {H H' : Hp} {v : V} (h : YPair (fun i => some (.int (i : Nat))) (fun i => xs[i]?) i H v H') : ∃ T y, v = .ref T ∧ H T = none ∧ H' = upd H T (.tup [.int (i : Nat), y]) ∧ xs[i]? = some y := by
  obtain ⟨T, x, y, a, b, c, d, e⟩ := h
  cases d
  exact ⟨T, y, a, b, c, e⟩
/-! ### names for what calls of built-ins ask -/
abbrev rListOf (K : PySem.W.Frag) : List V → Hp → VK → Prop := fun xs H Q => ∃ p ys, xs = [.ref p] ∧ (SqL K H p ys ∨ SqT K H p ys) ∧ ∀ l, H l = none → Q (.ref l) (upd H l (.lst ys))
abbrev rTupleOf (K : PySem.W.Frag) : List V → Hp → VK → Prop := fun xs H Q => ∃ p ys, xs = [.ref p] ∧ ((SqL K H p ys ∧ ∀ l, H l = none → Q (.ref l) (upd H l (.tup ys))) ∨ (SqT K H p ys ∧ Q (.ref p) H))
abbrev rStrI : List V → Hp → VK → Prop := fun xs H Q => ∃ i, xs = [.int i] ∧ i.natAbs.log2 < 1920 ∧ Q (.str (toString i)) H
abbrev rLenQ (K : PySem.W.Frag) : List V → Hp → VK → Prop := fun xs H Q => ∃ p ys, xs = [.ref p] ∧ (SqL K H p ys ∨ SqT K H p ys) ∧ Q (.int ys.length) H
abbrev rInt1 : List V → Hp → VK → Prop := fun xs H Q => (∃ i, xs = [.int i] ∧ Q (.int i) H) ∨ ∃ k, xs = [.bl k] ∧ Q (.int (if k then 1 else 0)) H
/-! ### an attribute as a target among others -/
def gFld (K : PySem.W.Frag) (ta : TE) (f : Str) : TG := fun v σ H Q => ta σ H fun x H1 => ∃ a C dx fs, x = .ref a ∧ H1 a = some (.ins C dx fs) ∧ Cls K C ∧ NoAttr K C f ∧ fs.length < 1000 ∧ Q σ (upd H1 a (.ins C dx (putF f v fs)))
/-! ### readings, one step each -/
theorem x_tup {K : PySem.W.Frag} {H : Hp} {a : Addr} {xs : List V} {i : Int} {v : V} {Q : VK} (h : H a = some (.tup xs)) (e : atI xs i = some v) (q : Q v H) : rIxT K (.ref a) (.int i) H Q := ⟨a, xs, i, v, rfl, rfl, SqT.of h, e, q⟩
theorem x_lst {K : PySem.W.Frag} {H : Hp} {a : Addr} {xs : List V} {i : Int} {v : V} {Q : VK} (h : H a = some (.lst xs)) (e : atI xs i = some v) (q : Q v H) : rIxL K (.ref a) (.int i) H Q := ⟨a, xs, i, v, rfl, rfl, SqL.of h, e, q⟩
theorem x_unp {K : PySem.W.Frag} {n : Nat} {t : TGs} {a : Addr} {xs : List V} {σ : L2.St} {H : Hp} {Q : L2.St → Hp → Prop} (h : H a = some (.tup xs)) (e : xs.length = n) (q : t xs σ H Q) : gTup K n t (.ref a) σ H Q := ⟨a, xs, rfl, SqT.of h, e, q⟩
theorem x_new {t : TA} {σ : L2.St} {H : Hp} {Q : VK} (q : t σ H fun xs H1 => xs.length ≤ sizeLine ∧ ∀ p, H1 p = none → Q (.ref p) (upd H1 p (.tup xs))) : tTup t σ H Q := q
theorem itb {b : Bool} {A B : Prop} (h1 : b = true → A) (h2 : b = false → B) : if b = true then A else B := by
  cases b
  · exact h2 rfl
  · exact h1 rfl
/-- a statement, then the rest, the slots told by an equation -/
def tSeqN (t u : TS) : TS := fun D σ H => t { D with nx := fun σ' H' => ∀ σ2, σ2 = σ' → u D σ2 H' } σ H
theorem pss_n {X : Cx} {st : Stmt} {rest : List Stmt} {t u : TS} (h1 : PS X st t) (h2 : PSs X rest u) : PSs X (st :: rest) (tSeqN t u) :=
  ⟨fun pins s σ H D I h => (Evl.pss_cut h1 h2).run pins s σ H D I ⟨_, h, fun _ _ m => m _ rfl⟩⟩
/-! ### ifs joined -/
theorem ifj {b : Bool} {P : L2.St → Hp → Prop} {s1 s2 : L2.St} {H : Hp} (h : P (if b then s1 else s2) H) : if b = true then P s1 H else P s2 H := by
  cases b <;> exact h
/-! ### the data -/
def Hold.str : Hold → Str
  | .off => "off"
  | .part => "partial"
  | .all => "all"
def Mode.str : Mode → Str
  | .plain => "plain"
  | .push => "push"
  | .more => "more"
def Ev.str : Ev → Str
  | .write => "write"
  | .timer => "timer"
  | .arr false => "arrive 0"
  | .arr true => "arrive 1"
def wI (b : Bool) : Int := if b then 1 else 0
theorem wI_not (b : Bool) : 1 - wI b = wI (!b) := by cases b <;> rfl
def Ru.vs (r : Ru) : List V := [.int r.size, .str r.hold.str, .int r.every]
def Parts.vs (p : Parts) : List V := [.int p.rest, .bl p.kept, .bl p.blocked, .bl p.stuck, .int p.pending, .int p.quick]
def Word.vs (w : Word) : List V := [.int (wI w.who), .int w.len, .str w.how.str]
theorem LstT.get {H : Hp} {a : Addr} {rs : List (List V)} (h : LstT H a rs) : ∃ ps : List Addr, H a = some (.lst (ps.map V.ref)) ∧ ps.length = rs.length ∧ ∀ (i : Nat) (r : List V), rs[i]? = some r → ∃ p : Addr, (ps.map V.ref)[i]? = some (V.ref p) ∧ H p = some (.tup r) :=
  let ⟨ps, x, y⟩ := h
  ⟨ps, x, y.len, fun i r e => let ⟨p, a, b⟩ := y.get e; ⟨p, by rw [List.getElem?_map, a]; rfl, b⟩⟩
theorem Rows.at' {H : Hp} {ps : List Addr} {rs : List (List V)} (h : Rows H ps rs) {i : Nat} {x : V} (e : (ps.map V.ref)[i]? = some x) : ∃ p r, x = .ref p ∧ rs[i]? = some r ∧ H p = some (.tup r) := by
  obtain ⟨p, hp, rfl⟩ := map_get e
  obtain ⟨r, a, b⟩ := h.at_ i p hp
  exact ⟨p, r, rfl, a, b⟩
def wsV (c : Cfg) : List (List V) := c.words.map Word.vs
def Tn.vs (t : Tn) : List V := [.int (wI t.1), .int (t.2.1 : Nat), .int (t.2.2 : Nat)]
theorem hold_all (h : Hold) : decide (V.str h.str = V.str "all") = decide (h = .all) := by
  cases h
  · have : ¬ (V.str "off" = V.str "all") := by intro e; injection e with e; revert e; decide +kernel
    simp [Hold.str, this]
  · have : ¬ (V.str "partial" = V.str "all") := by intro e; injection e with e; revert e; decide +kernel
    simp [Hold.str, this]
  · simp [Hold.str]
theorem hold_part (h : Hold) : decide (V.str h.str = V.str "partial") = decide (h = .part) := by
  cases h
  · have : ¬ (V.str "off" = V.str "partial") := by intro e; injection e with e; revert e; decide +kernel
    simp [Hold.str, this]
  · simp [Hold.str]
  · have : ¬ (V.str "all" = V.str "partial") := by intro e; injection e with e; revert e; decide +kernel
    simp [Hold.str, this]
theorem hold_off (h : Hold) : decide (V.str h.str = V.str "off") = decide (h = .off) := by
  cases h
  · simp [Hold.str]
  · have : ¬ (V.str "partial" = V.str "off") := by intro e; injection e with e; revert e; decide +kernel
    simp [Hold.str, this]
  · have : ¬ (V.str "all" = V.str "off") := by intro e; injection e with e; revert e; decide +kernel
    simp [Hold.str, this]
theorem mode_more (h : Mode) : decide (V.str h.str = V.str "more") = decide (h = .more) := by
  cases h
  · have : ¬ (V.str "plain" = V.str "more") := by intro e; injection e with e; revert e; decide +kernel
    simp [Mode.str, this]
  · have : ¬ (V.str "push" = V.str "more") := by intro e; injection e with e; revert e; decide +kernel
    simp [Mode.str, this]
  · simp [Mode.str]
theorem mode_push (h : Mode) : decide (V.str h.str = V.str "push") = decide (h = .push) := by
  cases h
  · have : ¬ (V.str "plain" = V.str "push") := by intro e; injection e with e; revert e; decide +kernel
    simp [Mode.str, this]
  · simp [Mode.str]
  · have : ¬ (V.str "more" = V.str "push") := by intro e; injection e with e; revert e; decide +kernel
    simp [Mode.str, this]
/-! ### settings -/
def polF (r : Rule) : List (Str × V) := [("hold", .str r.hold.str), ("every", .int r.every), ("quick", .int r.quick)]
theorem pf_hold (r : Rule) : (polF r).lookup ("hold" : Str) = some (.str r.hold.str) := by kernel_rfl
theorem pf_every (r : Rule) : (polF r).lookup ("every" : Str) = some (.int r.every) := by kernel_rfl
theorem pf_quick (r : Rule) : (polF r).lookup ("quick" : Str) = some (.int r.quick) := by kernel_rfl
def setF (n : Int) (pt : Addr) : List (Str × V) := [("size", .int n), ("policies", .ref pt)]
theorem stf_size (n : Int) (pt : Addr) : (setF n pt).lookup ("size" : Str) = some (.int n) := by kernel_rfl
theorem stf_policies (n : Int) (pt : Addr) : (setF n pt).lookup ("policies" : Str) = some (.ref pt) := by kernel_rfl
/-- a Setting at a: its policies' tuple at pt, the policies at ps -/
structure SetAt (K : PySem.W.Frag) (c : Cfg) (H : Hp) (a dx pt : Addr) (ps ds : Bool → Addr) : Prop where
  ob : H a = some (.ins (He.ga K "Setting") dx (setF c.size pt))
  tu : H pt = some (.tup [.ref (ps false), .ref (ps true)])
  pol : ∀ b, H (ps b) = some (.ins (He.ga K "Policy") (ds b) (polF (c.rule b)))
theorem SetAt.ex {K : PySem.W.Frag} {c : Cfg} {H H' : Hp} {a dx pt : Addr} {ps ds : Bool → Addr} (h : SetAt K c H a dx pt ps ds) (e : Ex H H') : SetAt K c H' a dx pt ps ds := ⟨e _ _ h.ob, e _ _ h.tu, fun b => e _ _ (h.pol b)⟩
theorem SetAt.at_ {K : PySem.W.Frag} {c : Cfg} {H : Hp} {a dx pt : Addr} {ps ds : Bool → Addr} (h : SetAt K c H a dx pt ps ds) (b : Bool) : atI [V.ref (ps false), V.ref (ps true)] (wI b) = some (.ref (ps b)) := by cases b <;> rfl
def IsSet (K : PySem.W.Frag) (c : Cfg) (H : Hp) (a : Addr) : Prop := ∃ dx pt ps ds, SetAt K c H a dx pt ps ds
theorem IsSet.ex {K : PySem.W.Frag} {c : Cfg} {H H' : Hp} {a : Addr} (h : IsSet K c H a) (e : Ex H H') : IsSet K c H' a := let ⟨dx, pt, ps, ds, q⟩ := h; ⟨dx, pt, ps, ds, q.ex e⟩
/-- a def that is known to keep a promise, called with all its arguments -/
structure Ok (P : Program) (w : World) (K : PySem.W.Frag) (mg : Str → Option Value) (base : Heap) (k : Nat) (f : Addr) (ps : List Str) (sp : Sp) : Prop where
  ex : ∃ fd, FnOk P w K mg base CX0 k f fd ps sp ∧ PySem.W.keepIn K (.ref f) = true ∧ Binds K fd ps []
section
variable {P : Program} {w : World} {K : PySem.W.Frag} {mg : Str → Option Value} {base : Heap}
/-- THE RULE for a def of no defaults -/
theorem mkOk {x qual : Str} {st : Stmt} {f : Addr} {fd : FuncData} {N ps : List Str} {k : Nat} {sp : Sp} (F : FunD K x qual (defArgs st) (defBody st) (defScope st) [] [] f fd) (S : FnScope N ps (defScope st))
    (hb : ∀ (kV doc pm : Value) (an : Option Addr) (cdv ct : Value) (us : List Value), us.length = ps.length → bindArgs (PySem.W.fnOf x qual (defArgs st) (defBody st) (defScope st) .none kV doc pm an cdv ct) ⟨us, []⟩ = pure (ps.zip us))
    (len : ∀ vs H Q E, sp vs H Q E → vs.length = ps.length)
    (hbody : ∀ (cdv : Value) (A : Around) (outer : List Env) (s : Shared) (H : Hp) (vs : List V) (Q : VK) (E : XK), Room k (A.deeper (envOfC qual (defScope st) s.heap.objs.size f cdv)) → sp vs H Q E →
      ∃ t, PSs (cxOf CX0 P w K mg base N qual (defScope st) f cdv A outer s H E).nox (defBody st) t ∧ ∀ σ, σ = start N vs → t { nx := fun _ H' => Q .non H', rt := Q } σ H) : Ok P w K mg base (k + 1) f ps sp :=
  ⟨fd, F.ok S len (fun cdv A outer s H vs Q E hr h => let ⟨t, a, b⟩ := hbody cdv A outer s H vs Q E hr h; ⟨t, a.nox, b _ rfl⟩), F.kp, F.bindsN hb⟩
theorem start_eq (N : List Str) (vs : List V) : start N vs = vs.map some ++ List.replicate (N.length - vs.length) none := rfl
end
end Lw
/-! LwX: deep comparisons, rows that are kept. -/
namespace Lw
open PySem PySem.Spec PyProof.Rows L2
def dV : V → PyData
  | .bl b => .bool b
  | .int i => .int i
  | .str x => .str x
  | _ => .none
def okV : V → Bool
  | .non => true
  | .bl _ => true
  | .int _ => true
  | .str x => PyData.strOk x
  | _ => false
theorem okV1 {K : PySem.W.Frag} {H : Hp} {v : V} (h : okV v = true) : Dp K H v (dV v) ∧ (dV v).canLay0 = true ∧ (dV v).depth = 0 := by
  cases v with
  | non => exact ⟨.non, rfl, rfl⟩
  | bl b => exact ⟨.bl b, rfl, rfl⟩
  | int i => exact ⟨.int i, rfl, rfl⟩
  | str x => exact ⟨.str x, h, rfl⟩
  | _ => cases h
theorem okVs {K : PySem.W.Frag} {H : Hp} : ∀ {xs : List V}, xs.all okV = true → DpAll K H xs (xs.map dV) ∧ PyData.canLayAll0 (xs.map dV) = true ∧ PyData.depthAll (xs.map dV) = 0
  | [], _ => ⟨.nil, rfl, rfl⟩
  | x :: xs, h => by
    rw [List.all_cons, Bool.and_eq_true] at h
    obtain ⟨a1, a2, a3⟩ := okV1 (K := K) (H := H) h.1
    obtain ⟨b1, b2, b3⟩ := okVs (K := K) (H := H) h.2
    refine ⟨.cons a1 b1, ?_, ?_⟩
    · rw [List.map_cons, PyData.canLayAll0, a2, b2]; rfl
    · rw [List.map_cons, PyData.depthAll, a3, b3]; rfl
def dR (r : List V) : PyData := .tuple (r.map dV)
theorem okRs {K : PySem.W.Frag} {H : Hp} : ∀ {ps : List Addr} {rs : List (List V)}, Rows H ps rs → (∀ r ∈ rs, r.all okV = true) → DpAll K H (ps.map V.ref) (rs.map dR) ∧ PyData.canLayAll0 (rs.map dR) = true ∧ PyData.depthAll (rs.map dR) ≤ 1
  | [], [], _, _ => ⟨.nil, rfl, Nat.zero_le _⟩
  | [], _ :: _, h, _ => by cases h.len
  | _ :: _, [], h, _ => by cases h.len
  | p :: ps, r :: rs, h, ok => by
    obtain ⟨hp, ht⟩ := h.tail
    obtain ⟨a1, a2, a3⟩ := okVs (K := K) (H := H) (ok r (List.mem_cons_self ..))
    obtain ⟨b1, b2, b3⟩ := okRs (K := K) ht fun x hx => ok x (List.mem_cons_of_mem _ hx)
    refine ⟨.cons (.tup (SqT.of hp) a1) b1, ?_, ?_⟩
    · rw [List.map_cons, PyData.canLayAll0, b2]
      show (PyData.canLayAll0 (r.map dV) && true) = true
      rw [a2]; rfl
    · rw [List.map_cons, PyData.depthAll]
      show max (PyData.depthAll (r.map dV) + 1) _ ≤ 1
      rw [a3]
      omega
theorem shL {ds : List PyData} (h : PyData.canLayAll0 ds = true) (d : PyData.depthAll ds ≤ 1) : SeqAt.shaped (.list ds) = true := by
  show (PyData.canLayAll0 ds && decide (PyData.depthAll ds + 1 ≤ 64)) = true
  rw [h, decide_eq_true (by omega)]; rfl
theorem shT {ds : List PyData} (h : PyData.canLayAll0 ds = true) (d : PyData.depthAll ds ≤ 1) : SeqAt.shaped (.tuple ds) = true := by
  show (PyData.canLayAll0 ds && decide (PyData.depthAll ds + 1 ≤ 64)) = true
  rw [h, decide_eq_true (by omega)]; rfl
theorem eqvAll_nil : ∀ (ds : List PyData), PyData.eqvAll ds [] = ds.isEmpty
  | [] => rfl
  | _ :: _ => rfl
theorem isE_map {α β : Type} (f : α → β) (xs : List α) : (xs.map f).isEmpty = xs.isEmpty := by cases xs <;> rfl
/-- rows == [] -/
theorem eqRows {K : PySem.W.Frag} {H : Hp} {a b : Addr} {rs : List (List V)} {Q : VK} (h : LstT H a rs) (ok : ∀ r ∈ rs, r.all okV = true) (hb : H b = some (.lst [])) (q : Q (.bl rs.isEmpty) H) : rEqD K (.ref a) (.ref b) H Q := by
  obtain ⟨ps, hl, hr⟩ := h
  obtain ⟨a1, a2, a3⟩ := okRs (K := K) hr ok
  refine ⟨_, _, .lst (SqL.of hl) a1, .lst (SqL.of hb) .nil, shL a2 a3, rfl, ?_⟩
  rw [show PyData.eqv (.list (rs.map dR)) (.list []) = PyData.eqvAll (rs.map dR) [] from rfl, eqvAll_nil, isE_map]; exact q
theorem neRows {K : PySem.W.Frag} {H : Hp} {a b : Addr} {rs : List (List V)} {Q : VK} (h : LstT H a rs) (ok : ∀ r ∈ rs, r.all okV = true) (hb : H b = some (.lst [])) (q : Q (.bl (!rs.isEmpty)) H) : rNeD K (.ref a) (.ref b) H Q := by
  obtain ⟨ps, hl, hr⟩ := h
  obtain ⟨a1, a2, a3⟩ := okRs (K := K) hr ok
  refine ⟨_, _, .lst (SqL.of hl) a1, .lst (SqL.of hb) .nil, shL a2 a3, rfl, ?_⟩
  rw [show PyData.eqv (.list (rs.map dR)) (.list []) = PyData.eqvAll (rs.map dR) [] from rfl, eqvAll_nil, isE_map]; exact q
/-- a tuple of tuples -/
def TupT (H : Hp) (a : Addr) (rs : List (List V)) : Prop := ∃ ps : List Addr, H a = some (.tup (ps.map V.ref)) ∧ Rows H ps rs
theorem TupT.ex {H H' : Hp} {a : Addr} {rs : List (List V)} (h : TupT H a rs) (e : Ex H H') : TupT H' a rs := let ⟨ps, x, y⟩ := h; ⟨ps, e _ _ x, y.ex e⟩
theorem neTups {K : PySem.W.Frag} {H : Hp} {a b : Addr} {rs : List (List V)} {Q : VK} (h : TupT H a rs) (ok : ∀ r ∈ rs, r.all okV = true) (hb : H b = some (.tup [])) (q : Q (.bl (!rs.isEmpty)) H) : rNeD K (.ref a) (.ref b) H Q := by
  obtain ⟨ps, hl, hr⟩ := h
  obtain ⟨a1, a2, a3⟩ := okRs (K := K) hr ok
  refine ⟨_, _, .tup (SqT.of hl) a1, .tup (SqT.of hb) .nil, shT a2 a3, rfl, ?_⟩
  rw [show PyData.eqv (.tuple (rs.map dR)) (.tuple []) = PyData.eqvAll (rs.map dR) [] from rfl, eqvAll_nil, isE_map]; exact q
theorem eqv_ints : ∀ (xs ys : List Int), PyData.eqvAll (xs.map PyData.int) (ys.map PyData.int) = decide (xs = ys)
  | [], [] => rfl
  | [], _ :: _ => rfl
  | _ :: _, [] => rfl
  | x :: xs, y :: ys => by
    rw [List.map_cons, List.map_cons, PyData.eqvAll, eqv_ints xs ys, PyData.eqv, Bool.eq_iff_iff]
    simp
theorem eqv_strs : ∀ (xs ys : List Str), PyData.eqvAll (xs.map PyData.str) (ys.map PyData.str) = decide (xs = ys)
  | [], [] => rfl
  | [], _ :: _ => rfl
  | _ :: _, [] => rfl
  | x :: xs, y :: ys => by
    rw [List.map_cons, List.map_cons, PyData.eqvAll, eqv_strs xs ys, PyData.eqv, Bool.eq_iff_iff]
    simp
theorem ok_ints (xs : List Int) : (xs.map V.int).all okV = true := by
  rw [List.all_map, List.all_eq_true]
  intro x _; rfl
theorem d_ints (xs : List Int) : (xs.map V.int).map dV = xs.map PyData.int := by rw [List.map_map]; rfl
theorem d_strs (xs : List Str) : (xs.map V.str).map dV = xs.map PyData.str := by rw [List.map_map]; rfl
theorem ok_strs {xs : List Str} (h : ∀ x ∈ xs, PyData.strOk x = true) : (xs.map V.str).all okV = true := by
  rw [List.all_map, List.all_eq_true]
  intro x hx; exact h x hx
theorem dpL {K : PySem.W.Frag} {H : Hp} {a : Addr} {xs : List V} (h : H a = some (.lst xs)) (ok : xs.all okV = true) : Dp K H (.ref a) (.list (xs.map dV)) ∧ SeqAt.shaped (.list (xs.map dV)) = true := by
  obtain ⟨a1, a2, a3⟩ := okVs (K := K) (H := H) ok
  exact ⟨.lst (SqL.of h) a1, shL a2 (by omega)⟩
theorem neInts {K : PySem.W.Frag} {H : Hp} {a b : Addr} {xs ys : List Int} {Q : VK} (h : H a = some (.lst (xs.map V.int))) (hb : H b = some (.lst (ys.map V.int))) (q : Q (.bl (!decide (xs = ys))) H) : rNeD K (.ref a) (.ref b) H Q := by
  obtain ⟨a1, a2⟩ := dpL (K := K) h (ok_ints _)
  obtain ⟨b1, b2⟩ := dpL (K := K) hb (ok_ints _)
  rw [d_ints] at a1 a2 b1 b2
  refine ⟨_, _, a1, b1, a2, b2, ?_⟩
  rw [show PyData.eqv (.list (xs.map PyData.int)) (.list (ys.map PyData.int)) = PyData.eqvAll (xs.map PyData.int) (ys.map PyData.int) from rfl, eqv_ints]; exact q
theorem neStrs {K : PySem.W.Frag} {H : Hp} {a b : Addr} {xs ys : List Str} {Q : VK} (h : H a = some (.lst (xs.map V.str))) (hb : H b = some (.lst (ys.map V.str))) (o1 : ∀ x ∈ xs, PyData.strOk x = true) (o2 : ∀ x ∈ ys, PyData.strOk x = true) (q : Q (.bl (!decide (xs = ys))) H) : rNeD K (.ref a) (.ref b) H Q := by
  obtain ⟨a1, a2⟩ := dpL (K := K) h (ok_strs o1)
  obtain ⟨b1, b2⟩ := dpL (K := K) hb (ok_strs o2)
  rw [d_strs] at a1 a2 b1 b2
  refine ⟨_, _, a1, b1, a2, b2, ?_⟩
  rw [show PyData.eqv (.list (xs.map PyData.str)) (.list (ys.map PyData.str)) = PyData.eqvAll (xs.map PyData.str) (ys.map PyData.str) from rfl, eqv_strs]; exact q
theorem eqStrs {K : PySem.W.Frag} {H : Hp} {a b : Addr} {xs ys : List Str} {Q : VK} (h : H a = some (.lst (xs.map V.str))) (hb : H b = some (.lst (ys.map V.str))) (o1 : ∀ x ∈ xs, PyData.strOk x = true) (o2 : ∀ x ∈ ys, PyData.strOk x = true) (q : Q (.bl (decide (xs = ys))) H) : rEqD K (.ref a) (.ref b) H Q := by
  obtain ⟨a1, a2⟩ := dpL (K := K) h (ok_strs o1)
  obtain ⟨b1, b2⟩ := dpL (K := K) hb (ok_strs o2)
  rw [d_strs] at a1 a2 b1 b2
  refine ⟨_, _, a1, b1, a2, b2, ?_⟩
  rw [show PyData.eqv (.list (xs.map PyData.str)) (.list (ys.map PyData.str)) = PyData.eqvAll (xs.map PyData.str) (ys.map PyData.str) from rfl, eqv_strs]; exact q
theorem ev_ok (e : Ev) : PyData.strOk e.str = true := by cases e with
  | write => decide +kernel
  | timer => decide +kernel
  | arr b => cases b <;> decide +kernel
theorem Rows.updl {H : Hp} {ps : List Addr} {rs : List (List V)} {D : Addr} {xs : List V} {o : HO} (h : Rows H ps rs) (hD : H D = some (.lst xs)) : Rows (upd H D o) ps rs :=
  ⟨h.len, fun i p hp => let ⟨r, a, b⟩ := h.at_ i p hp; ⟨r, a, by rw [upd_ne (fun e => by rw [e, hD] at b; cases b)]; exact b⟩⟩
theorem tyl {K : PySem.W.Frag} {H : Hp} {a : Addr} {xs : List V} (h : H a = some (.lst xs)) : tyV K "list" (.ref a) H := Or.inl ⟨rfl, _, SqL.of h⟩
theorem Rows.snoc_inv {H : Hp} {ps : List Addr} {rs : List (List V)} {r : List V} (h : Rows H ps (rs ++ [r])) : ∃ qs q, ps = qs ++ [q] ∧ H q = some (.tup r) ∧ Rows H qs rs := by
  rcases List.eq_nil_or_concat ps with e | ⟨qs, q, e⟩
  · subst e; have := h.len; simp at this
  · rw [List.concat_eq_append] at e
    subst e
    have hl : qs.length = rs.length := by have := h.len; simp at this; exact this
    refine ⟨qs, q, rfl, ?_, hl, fun i p hp => ?_⟩
    · obtain ⟨r', a, b⟩ := h.at_ qs.length q (by simp)
      rw [hl, List.getElem?_append_right (Nat.le_refl _), Nat.sub_self] at a
      cases a
      exact b
    · have hi : i < qs.length := (List.getElem?_eq_some_iff.mp hp).1
      obtain ⟨r', a, b⟩ := h.at_ i p (by rw [List.getElem?_append_left hi]; exact hp)
      rw [List.getElem?_append_left (by omega)] at a
      exact ⟨r', a, b⟩
theorem ixN_last (n : Nat) : ixN (n + 1) (-1) = some n := by
  unfold ixN
  split
  · rename_i h; omega
  · rename_i h
    simp
    omega
theorem atI_last (xs : List V) (x : V) : atI (xs ++ [x]) (-1) = some x := by
  unfold atI
  rw [List.length_append, List.length_singleton, ixN_last]
  show (xs ++ [x])[xs.length]? = _
  simp
theorem atI_nat {α : Type} (xs : List α) (i : Nat) : atI xs (i : Int) = xs[i]? := by
  unfold atI ixN
  rw [if_pos (Int.natCast_nonneg i)]
  by_cases h : i < xs.length
  · rw [if_pos (by omega)]; rfl
  · rw [if_neg (by omega), List.getElem?_eq_none (by omega)]; rfl
theorem ne_wI (a b : Bool) : (!decide (V.int (wI a) = V.int (wI b))) = !decide (a = b) := by cases a <;> cases b <;> decide +kernel
theorem eq_wI (a b : Bool) : decide (V.int (wI a) = V.int (wI b)) = decide (a = b) := by cases a <;> cases b <;> decide +kernel
theorem itf {b : Bool} {A B : Prop} (hb : b = false) (h : B) : if b = true then A else B := by
  subst hb; exact h
theorem itt {b : Bool} {A B : Prop} (hb : b = true) (h : A) : if b = true then A else B := by
  subst hb; exact h
section
variable {P : Program} {w : World} {K : PySem.W.Frag} {mg : Str → Option Value} {base : Heap}
/-- as mkOk, the binding told apart -/
theorem mkOkB {x qual : Str} {st : Stmt} {f : Addr} {fd : FuncData} {N ps : List Str} {k : Nat} {sp : Sp} {dvs : List V} {kws : List (Str × V)} (F : FunD K x qual (defArgs st) (defBody st) (defScope st) dvs kws f fd) (S : FnScope N ps (defScope st))
    (hb : Binds K fd ps [])
    (len : ∀ vs H Q E, sp vs H Q E → vs.length = ps.length)
    (hbody : ∀ (cdv : Value) (A : Around) (outer : List Env) (s : Shared) (H : Hp) (vs : List V) (Q : VK) (E : XK), Room k (A.deeper (envOfC qual (defScope st) s.heap.objs.size f cdv)) → sp vs H Q E →
      ∃ t, PSs (cxOf CX0 P w K mg base N qual (defScope st) f cdv A outer s H E).nox (defBody st) t ∧ ∀ σ, σ = start N vs → t { nx := fun _ H' => Q .non H', rt := Q } σ H) : Ok P w K mg base (k + 1) f ps sp :=
  ⟨fd, F.ok S len (fun cdv A outer s H vs Q E hr h => let ⟨t, a, b⟩ := hbody cdv A outer s H vs Q E hr h; ⟨t, a.nox, b _ rfl⟩), F.kp, hb⟩
end
/-- what a maker keeps -/
theorem mkEx {H H3 : Hp} {x dx : Addr} {o1 o2 : HO} (hx : H x = none) (hd : H dx = none) (hn : dx ≠ x) (k : Kp [x] (upd (upd H dx o1) x o2) H3) : Ex H H3 := fun b o h => by
  refine k b o ?_ ?_
  · rw [upd_ne (ne_of_none h hx), upd_ne (ne_of_none h hd)]; exact h
  · intro z; rw [List.mem_singleton] at z; subst z; rw [hx] at h; cases h
theorem updEx2 {H : Hp} {x dx : Addr} {o1 o2 : HO} (hx : H x = none) (hd : H dx = none) : Ex H (upd (upd H dx o1) x o2) := fun b o h => by
  rw [upd_ne (ne_of_none h hx), upd_ne (ne_of_none h hd)]; exact h
/-- what the walks ask of a config -/
structure Cok (c : Cfg) : Prop extends CfgL c where
  sz : c.size < 1073741824
  l18 : ∀ w ∈ c.words, w.len < 18 * c.size
theorem Cok.lens {c : Cfg} (ok : Cok c) : ∀ w ∈ c.words, 1 ≤ w.len ∧ w.len ≤ 10 ^ 18 := fun w hw => by
  have h1 := ok.len w hw
  have h2 := ok.ln w hw
  have h3 := ok.sz
  constructor
  · omega
  · have : (10 : Int) ^ 18 = 1000000000000000000 := rfl
    omega
theorem wd_get {c : Cfg} {k : Nat} (h : k < c.words.length) : c.words[k]? = some (wd c k) := by
  show _ = some (c.words.getD k _)
  rw [List.getD_eq_getElem?_getD, List.getElem?_eq_getElem h]
  rfl
theorem wsV_get {c : Cfg} {k : Nat} (h : k < c.words.length) : (wsV c)[k]? = some (wd c k).vs := by
  unfold wsV
  rw [List.getElem?_map, wd_get h]; rfl
theorem split_bound (c : Cfg) : ∀ k, ∀ t ∈ splitN c k, t.2.1 < t.2.2 ∧ t.2.2 ≤ k
  | 0, t, h => by cases h
  | k + 1, t, h => by
    have ih := split_bound c k
    have e : splitN c (k + 1) = splitS (splitN c k) k (wd c k).who := rfl
    rw [e] at h
    rcases List.eq_nil_or_concat (splitN c k) with z | ⟨f, t0, z⟩
    · rw [z] at h
      have h2 : t = ((wd c k).who, k, k + 1) := by rw [splitS_nil] at h; exact List.mem_singleton.mp h
      rw [h2]; exact ⟨by show k < k + 1; omega, Nat.le_refl _⟩
    · rw [List.concat_eq_append] at z
      rw [z] at h ih
      have h0 := ih t0 (by simp)
      rw [splitS_snoc] at h
      split at h
      · rw [List.mem_append] at h
        rcases h with h | h
        · have := ih t (List.mem_append_left _ h); omega
        · rw [List.mem_singleton] at h; subst h
          exact ⟨by show t0.2.1 < k + 1; omega, Nat.le_refl _⟩
      · rw [List.mem_append] at h
        rcases h with h | h
        · have := ih t h; omega
        · rw [List.mem_singleton] at h; subst h
          exact ⟨by show k < k + 1; omega, Nat.le_refl _⟩
theorem dec_int (a b : Int) : decide (V.int a = V.int b) = decide (a = b) := by
  by_cases h : a = b
  · rw [decide_eq_true h, decide_eq_true (by rw [h])]
  · rw [decide_eq_false h, decide_eq_false (fun z => h (by injection z))]
theorem ac1 {v : V} {σ : L2.St} {H : Hp} {R : List V → Hp → Prop} (h : R [v] H) : tCons (tC v) tNil σ H R := h
theorem if_dec_int (a b : Int) : (if decide (V.int a = V.int b) = true then (1 : Int) else 0) = if a = b then 1 else 0 := by
  rw [dec_int]
  by_cases h : a = b
  · rw [if_pos h, if_pos (decide_eq_true h)]
  · rw [if_neg h, if_neg (fun z => h (of_decide_eq_true z))]
theorem len_arrAck (c : Cfg) (b : Bool) (v : Int) (m : Mo) : ((arrAck c b v m).way b).length ≤ (m.way b).length + 1 := by
  unfold arrAck
  simp only
  split
  · rw [send_way, List.length_append, List.length_singleton]
    exact Nat.le_refl _
  · exact Nat.le_succ _
theorem cut_take (xs : List V) (k : Nat) (h : k ≤ xs.length) : cutV xs none (some (k : Int)) = xs.take k := by
  unfold cutV
  rw [HT.sIx_none, HT.sIx_nat, List.drop_zero, Nat.sub_zero, Nat.min_eq_left h]
theorem cut_drop (xs : List V) (k : Nat) : cutV xs (some (k : Int)) none = xs.drop k := by
  unfold cutV
  rw [HT.sIx_none, HT.sIx_nat]
  by_cases h : k ≤ xs.length
  · rw [Nat.min_eq_left h, List.take_of_length_le (by rw [List.length_drop]; exact Nat.le_refl _)]
  · rw [Nat.min_eq_right (by omega), List.drop_eq_nil_of_le (Nat.le_refl _), List.drop_eq_nil_of_le (by omega), List.take_nil]
theorem Rows.drop {H : Hp} {ps : List Addr} {rs : List (List V)} (h : Rows H ps rs) (k : Nat) : Rows H (ps.drop k) (rs.drop k) := by
  refine ⟨by rw [List.length_drop, List.length_drop, h.len], fun i p hp => ?_⟩
  rw [List.getElem?_drop] at hp ⊢
  exact h.at_ _ _ hp
theorem bares_take (w : List (Int × Int)) {i : Nat} {x : Int × Int} (h : w[i]? = some x) : bares (w.take (i + 1)) = bares (w.take i) + if x.1 = 0 then 1 else 0 := by
  rw [List.take_add_one, h, bares_app]
  congr 1
  show bares [x] = _
  unfold bares
  rw [List.filter_cons]
  by_cases z : x.1 = 0
  · rw [if_pos z, if_pos (decide_eq_true z)]; rfl
  · rw [if_neg z, if_neg (by rw [decide_eq_false z]; decide)]; rfl
theorem bares_le (w : List (Int × Int)) (i : Nat) : bares (w.take i) ≤ i := by
  unfold bares
  exact Nat.le_trans (List.length_filter_le _ _) (List.length_take_le _ _)
theorem dec_nat (a b : Nat) : decide (V.int (a : Int) = V.int (b : Int)) = decide (a = b) := by
  rw [dec_int, Bool.eq_iff_iff, decide_eq_true_iff, decide_eq_true_iff]
  omega
theorem exnone {H H' : Hp} {D : Addr} (e : Ex H H') (h : H' D = none) : H D = none := by
  cases q : H D with
  | none => rfl
  | some o => rw [e _ _ q] at h; cases h
theorem two_at {i : Nat} (h : i < 2) : ∃ b : Bool, [false, true][i]? = some b ∧ (0 + (i : Int)) = wI b := by
  match i, h with
  | 0, _ => exact ⟨false, rfl, rfl⟩
  | 1, _ => exact ⟨true, rfl, rfl⟩
theorem arr_str (b : Bool) : ("arrive " : Str) ++ (toString (wI b) : Str) = (Ev.arr b).str := by cases b <;> decide +kernel
theorem arr_len (b : Bool) : ("arrive " : Str).length + (toString (wI b) : Str).length ≤ sizeLine := le_sz (by cases b <;> decide +kernel)
theorem wI_log (b : Bool) : (wI b).natAbs.log2 < 1920 := by cases b <;> decide
theorem ac0 {v : V} {lg : Addr} {σ : L2.St} {H : Hp} {F : VK} (h : rAppend (.ref lg) [v] H F) : (fun (x : V) (H1 : Hp) => tNil σ H1 fun xs H2 => rAppend (.ref lg) (x :: xs) H2 F) v H := h
theorem ac2 {v : V} {lg : Addr} {σ : L2.St} {H : Hp} {F : VK} (h : rAppend (.ref lg) [v] H F) : tCons (tC v) tNil σ H (fun xs H2 => rAppend (.ref lg) xs H2 F) := h
end Lw
/-! LwY: a model in boxes: one object of its own, two sides, two ways. -/
namespace Lw
open PySem PySem.Spec PyProof.Rows L2
def prV (x : Int × Int) : List V := [.int x.1, .int x.2]
def wayV (w : List (Int × Int)) : List (List V) := w.map prV
/-- the addresses -/
structure Fr where
  M : Addr
  SL : Addr
  WL : Addr
  s : Bool → Addr
  w : Bool → Addr
  WD : Addr
  RL : Addr
def Fr.ft (f : Fr) : List Addr := [f.M, f.s false, f.s true, f.w false, f.w true]
structure Fr.Ap (f : Fr) : Prop where
  ss : f.s false ≠ f.s true
  ww : f.w false ≠ f.w true
  sw : ∀ a b, f.s a ≠ f.w b
  ms : ∀ a, f.M ≠ f.s a
  mw : ∀ a, f.M ≠ f.w a
  ls : ∀ a, f.SL ≠ f.s a
  lw : ∀ a, f.SL ≠ f.w a
  ks : ∀ a, f.WL ≠ f.s a
  kw : ∀ a, f.WL ≠ f.w a
  lm : f.SL ≠ f.M
  km : f.WL ≠ f.M
theorem Fr.Ap.s_ne {f : Fr} (h : f.Ap) {a b : Bool} (n : a ≠ b) : f.s a ≠ f.s b := by
  cases a <;> cases b
  · exact absurd rfl n
  · exact h.ss
  · exact h.ss.symm
  · exact absurd rfl n
theorem Fr.Ap.w_ne {f : Fr} (h : f.Ap) {a b : Bool} (n : a ≠ b) : f.w a ≠ f.w b := by
  cases a <;> cases b
  · exact absurd rfl n
  · exact h.ww
  · exact h.ww.symm
  · exact absurd rfl n
theorem Fr.inM (f : Fr) : f.M ∈ f.ft := by simp [Fr.ft]
theorem Fr.inS (f : Fr) (b : Bool) : f.s b ∈ f.ft := by cases b <;> simp [Fr.ft]
theorem Fr.inW (f : Fr) (b : Bool) : f.w b ∈ f.ft := by cases b <;> simp [Fr.ft]
abbrev Box := Bool → Side → HO
abbrev Mob := Nat → Int → HO
/-- the boxes hold: k made, n stalls, the sides, the ways -/
structure Bx (box : Box) (mob : Mob) (f : Fr) (H : Hp) (k : Nat) (n : Int) (sd : Bool → Side) (wy : Bool → List (Int × Int)) : Prop where
  ap : f.Ap
  mo : H f.M = some (mob k n)
  sl : H f.SL = some (.lst [.ref (f.s false), .ref (f.s true)])
  wl : H f.WL = some (.lst [.ref (f.w false), .ref (f.w true)])
  si : ∀ b, H (f.s b) = some (box b (sd b))
  wa : ∀ b, LstT H (f.w b) (wayV (wy b))
  nt : ∀ b s xs, box b s ≠ .tup xs
  mt : ∀ k n xs, mob k n ≠ .tup xs
variable {box : Box} {mob : Mob} {f : Fr} {H H' : Hp} {k : Nat} {n : Int} {sd : Bool → Side} {wy : Bool → List (Int × Int)}
theorem Bx.ex (h : Bx box mob f H k n sd wy) (e : Ex H H') : Bx box mob f H' k n sd wy :=
  ⟨h.ap, e _ _ h.mo, e _ _ h.sl, e _ _ h.wl, fun b => e _ _ (h.si b), fun b => (h.wa b).ex e, h.nt, h.mt⟩
/-- kept by what leaves the boxes' addresses alone -/
theorem Rows.upd' {H : Hp} {ps : List Addr} {rs : List (List V)} {D : Addr} {o o' : HO} (h : Rows H ps rs) (hD : H D = some o') (nt : ∀ xs, o' ≠ .tup xs) : Rows (upd H D o) ps rs :=
  ⟨h.len, fun i p hp => let ⟨r, a, b⟩ := h.at_ i p hp; ⟨r, a, by rw [upd_ne (fun e => by rw [e, hD] at b; exact nt _ (Option.some.inj b))]; exact b⟩⟩
theorem LstT.upd' {H : Hp} {a : Addr} {rs : List (List V)} {D : Addr} {o o' : HO} (h : LstT H a rs) (hD : H D = some o') (nt : ∀ xs, o' ≠ .tup xs) (ne : a ≠ D) : LstT (upd H D o) a rs :=
  let ⟨ps, x, y⟩ := h
  ⟨ps, by rw [upd_ne ne]; exact x, y.upd' hD nt⟩
theorem Bx.side (h : Bx box mob f H k n sd wy) (b : Bool) (s : Side) : Bx box mob f (upd H (f.s b) (box b s)) k n (fset sd b s) wy := by
  refine ⟨h.ap, ?_, ?_, ?_, fun d => ?_, fun d => ?_, h.nt, h.mt⟩
  · rw [upd_ne (h.ap.ms b)]; exact h.mo
  · rw [upd_ne (h.ap.ls b)]; exact h.sl
  · rw [upd_ne (h.ap.ks b)]; exact h.wl
  · by_cases e : d = b
    · subst e; rw [upd_same, fset_same]
    · rw [upd_ne (h.ap.s_ne e), fset_ne _ _ e]; exact h.si d
  · exact (h.wa d).upd' (h.si b) (h.nt b _) (h.ap.sw b d).symm
theorem fset_fset {α : Type} (g : Bool → α) (b : Bool) (x y : α) : fset (fset g b x) b y = fset g b y := by
  funext d
  by_cases e : d = b
  · subst e; rw [fset_same, fset_same]
  · rw [fset_ne _ _ e, fset_ne _ _ e, fset_ne _ _ e]
theorem fset_self {α : Type} (g : Bool → α) (b : Bool) : fset g b (g b) = g := by
  funext d
  by_cases e : d = b
  · subst e; rw [fset_same]
  · rw [fset_ne _ _ e]
theorem Bx.side2 {b : Bool} {s0 : Side} (h : Bx box mob f H k n (fset sd b s0) wy) (s : Side) : Bx box mob f (upd H (f.s b) (box b s)) k n (fset sd b s) wy := by
  have := h.side b s
  rwa [fset_fset] at this
theorem Bx.open_ (h : Bx box mob f H k n sd wy) (b : Bool) : Bx box mob f H k n (fset sd b (sd b)) wy := by rw [fset_self]; exact h
theorem Bx.si2 {b : Bool} {s0 : Side} (h : Bx box mob f H k n (fset sd b s0) wy) : H (f.s b) = some (box b s0) := by
  have := h.si b
  rwa [fset_same] at this
theorem Bx.obj (h : Bx box mob f H k n sd wy) (k' : Nat) (n' : Int) : Bx box mob f (upd H f.M (mob k' n')) k' n' sd wy := by
  refine ⟨h.ap, upd_same, ?_, ?_, fun d => ?_, fun d => ?_, h.nt, h.mt⟩
  · rw [upd_ne h.ap.lm]; exact h.sl
  · rw [upd_ne h.ap.km]; exact h.wl
  · rw [upd_ne (h.ap.ms d).symm]; exact h.si d
  · exact (h.wa d).upd' h.mo (h.mt _ _) (h.ap.mw d).symm
/-- any new list in a way's place -/
theorem Bx.way (h : Bx box mob f H k n sd wy) (b : Bool) {ps : List Addr} {w : List (Int × Int)} (hr : Rows H ps (wayV w)) : Bx box mob f (upd H (f.w b) (.lst (ps.map V.ref))) k n sd (fset wy b w) := by
  obtain ⟨qs, hq, _⟩ := h.wa b
  have nt : ∀ xs, HO.lst (qs.map V.ref) ≠ .tup xs := fun xs e => by cases e
  refine ⟨h.ap, ?_, ?_, ?_, fun d => ?_, fun d => ?_, h.nt, h.mt⟩
  · rw [upd_ne (h.ap.mw b)]; exact h.mo
  · rw [upd_ne (h.ap.lw b)]; exact h.sl
  · rw [upd_ne (h.ap.kw b)]; exact h.wl
  · rw [upd_ne (h.ap.sw d b)]; exact h.si d
  · by_cases e : d = b
    · subst e
      rw [fset_same]
      exact ⟨ps, upd_same, hr.upd' hq nt⟩
    · rw [fset_ne _ _ e]
      exact (h.wa d).upd' hq nt (h.ap.w_ne e)
theorem wayV_snoc (w : List (Int × Int)) (x : Int × Int) : wayV (w ++ [x]) = wayV w ++ [prV x] := by unfold wayV; rw [List.map_append]; rfl
theorem wayV_len (w : List (Int × Int)) : (wayV w).length = w.length := List.length_map _
/-- the boxes hold a model -/
abbrev MoAt (box : Box) (mob : Mob) (f : Fr) (H : Hp) (m : Mo) : Prop := Bx box mob f H m.made m.stalls m.side m.way
theorem Bx.wal (h : Bx box mob f H k n sd wy) (b : Bool) : ∃ ps : List Addr, H (f.w b) = some (.lst (ps.map V.ref)) ∧ Rows H ps (wayV (wy b)) ∧ ps.length = (wy b).length := by
  obtain ⟨ps, a, r⟩ := h.wa b
  exact ⟨ps, a, r, by rw [r.len, wayV_len]⟩
theorem Bx.s_at (f : Fr) (b : Bool) : atI [V.ref (f.s false), V.ref (f.s true)] (wI b) = some (.ref (f.s b)) := by cases b <;> rfl
theorem Bx.w_at (f : Fr) (b : Bool) : atI [V.ref (f.w false), V.ref (f.w true)] (wI b) = some (.ref (f.w b)) := by cases b <;> rfl
/-! ### the law's dicts -/
def sideK (s : Side) : List (Key × V) := [(.inr "rest", .int s.rest), (.inr "kept", .bl s.kept), (.inr "sent", .int s.sent), (.inr "told", .int s.told), (.inr "got", .int s.got), (.inr "fulls", .int s.fulls), (.inr "came", .int s.came), (.inr "mark", .int s.mark)]
def boxK : Box := fun _ s => .dK (sideK s)
def modK (WD : Addr) (size : Int) (RL SL WL : Addr) (k : Nat) (n : Int) : List (Key × V) := [(.inr "words", .ref WD), (.inr "size", .int size), (.inr "rules", .ref RL), (.inr "made", .int k), (.inr "stalls", .int n), (.inr "sides", .ref SL), (.inr "ways", .ref WL)]
section
variable (s : Side) (v : V) (WD RL SL WL : Addr) (size n n' : Int) (k k' : Nat) (x : Int) (z : Bool)
variable (a1 a3 a4 a5 a6 a7 a8 : Int) (a2 : Bool)
theorem sk_rest : valV (sideK ⟨a1, a2, a3, a4, a5, a6, a7, a8⟩) (.inr "rest") = some (.int a1) := by kernel_rfl
theorem sk_kept : valV (sideK ⟨a1, a2, a3, a4, a5, a6, a7, a8⟩) (.inr "kept") = some (.bl a2) := by kernel_rfl
theorem sk_sent : valV (sideK ⟨a1, a2, a3, a4, a5, a6, a7, a8⟩) (.inr "sent") = some (.int a3) := by kernel_rfl
theorem sk_told : valV (sideK ⟨a1, a2, a3, a4, a5, a6, a7, a8⟩) (.inr "told") = some (.int a4) := by kernel_rfl
theorem sk_got : valV (sideK ⟨a1, a2, a3, a4, a5, a6, a7, a8⟩) (.inr "got") = some (.int a5) := by kernel_rfl
theorem sk_fulls : valV (sideK ⟨a1, a2, a3, a4, a5, a6, a7, a8⟩) (.inr "fulls") = some (.int a6) := by kernel_rfl
theorem sk_came : valV (sideK ⟨a1, a2, a3, a4, a5, a6, a7, a8⟩) (.inr "came") = some (.int a7) := by kernel_rfl
theorem sk_mark : valV (sideK ⟨a1, a2, a3, a4, a5, a6, a7, a8⟩) (.inr "mark") = some (.int a8) := by kernel_rfl
theorem sp_rest : putK (sideK ⟨a1, a2, a3, a4, a5, a6, a7, a8⟩) (.inr "rest") (.int x) = sideK ⟨x, a2, a3, a4, a5, a6, a7, a8⟩ := by kernel_rfl
theorem sp_kept : putK (sideK ⟨a1, a2, a3, a4, a5, a6, a7, a8⟩) (.inr "kept") (.bl z) = sideK ⟨a1, z, a3, a4, a5, a6, a7, a8⟩ := by kernel_rfl
theorem sp_sent : putK (sideK ⟨a1, a2, a3, a4, a5, a6, a7, a8⟩) (.inr "sent") (.int x) = sideK ⟨a1, a2, x, a4, a5, a6, a7, a8⟩ := by kernel_rfl
theorem sp_told : putK (sideK ⟨a1, a2, a3, a4, a5, a6, a7, a8⟩) (.inr "told") (.int x) = sideK ⟨a1, a2, a3, x, a5, a6, a7, a8⟩ := by kernel_rfl
theorem sp_got : putK (sideK ⟨a1, a2, a3, a4, a5, a6, a7, a8⟩) (.inr "got") (.int x) = sideK ⟨a1, a2, a3, a4, x, a6, a7, a8⟩ := by kernel_rfl
theorem sp_fulls : putK (sideK ⟨a1, a2, a3, a4, a5, a6, a7, a8⟩) (.inr "fulls") (.int x) = sideK ⟨a1, a2, a3, a4, a5, x, a7, a8⟩ := by kernel_rfl
theorem sp_came : putK (sideK ⟨a1, a2, a3, a4, a5, a6, a7, a8⟩) (.inr "came") (.int x) = sideK ⟨a1, a2, a3, a4, a5, a6, x, a8⟩ := by kernel_rfl
theorem sp_mark : putK (sideK ⟨a1, a2, a3, a4, a5, a6, a7, a8⟩) (.inr "mark") (.int x) = sideK ⟨a1, a2, a3, a4, a5, a6, a7, x⟩ := by kernel_rfl
theorem mk_words : valV (modK WD size RL SL WL k n) (.inr "words") = some (.ref WD) := by kernel_rfl
theorem mk_size : valV (modK WD size RL SL WL k n) (.inr "size") = some (.int size) := by kernel_rfl
theorem mk_rules : valV (modK WD size RL SL WL k n) (.inr "rules") = some (.ref RL) := by kernel_rfl
theorem mk_made : valV (modK WD size RL SL WL k n) (.inr "made") = some (.int k) := by kernel_rfl
theorem mk_stalls : valV (modK WD size RL SL WL k n) (.inr "stalls") = some (.int n) := by kernel_rfl
theorem mk_sides : valV (modK WD size RL SL WL k n) (.inr "sides") = some (.ref SL) := by kernel_rfl
theorem mk_ways : valV (modK WD size RL SL WL k n) (.inr "ways") = some (.ref WL) := by kernel_rfl
theorem mp_made : putK (modK WD size RL SL WL k n) (.inr "made") (.int (k' : Nat)) = modK WD size RL SL WL k' n := by kernel_rfl
theorem mp_stalls : putK (modK WD size RL SL WL k n) (.inr "stalls") (.int n') = modK WD size RL SL WL k n' := by kernel_rfl
end
/-! general gets -/
theorem gk_rest (s : Side) : valV (sideK s) (.inr "rest") = some (.int s.rest) := by
  cases s; exact sk_rest _ _ _ _ _ _ _ _
theorem gk_kept (s : Side) : valV (sideK s) (.inr "kept") = some (.bl s.kept) := by
  cases s; exact sk_kept _ _ _ _ _ _ _ _
theorem gk_sent (s : Side) : valV (sideK s) (.inr "sent") = some (.int s.sent) := by
  cases s; exact sk_sent _ _ _ _ _ _ _ _
theorem gk_told (s : Side) : valV (sideK s) (.inr "told") = some (.int s.told) := by
  cases s; exact sk_told _ _ _ _ _ _ _ _
theorem gk_got (s : Side) : valV (sideK s) (.inr "got") = some (.int s.got) := by
  cases s; exact sk_got _ _ _ _ _ _ _ _
theorem gk_fulls (s : Side) : valV (sideK s) (.inr "fulls") = some (.int s.fulls) := by
  cases s; exact sk_fulls _ _ _ _ _ _ _ _
theorem gk_came (s : Side) : valV (sideK s) (.inr "came") = some (.int s.came) := by
  cases s; exact sk_came _ _ _ _ _ _ _ _
theorem gk_mark (s : Side) : valV (sideK s) (.inr "mark") = some (.int s.mark) := by
  cases s; exact sk_mark _ _ _ _ _ _ _ _
theorem gp_rest (s : Side) (x : Int) : putK (sideK s) (.inr "rest") (.int x) = sideK { s with rest := x } := by
  cases s; exact sp_rest _ _ _ _ _ _ _ _ _
theorem gp_kept (s : Side) (x : Bool) : putK (sideK s) (.inr "kept") (.bl x) = sideK { s with kept := x } := by
  cases s; exact sp_kept _ _ _ _ _ _ _ _ _
theorem gp_sent (s : Side) (x : Int) : putK (sideK s) (.inr "sent") (.int x) = sideK { s with sent := x } := by
  cases s; exact sp_sent _ _ _ _ _ _ _ _ _
theorem gp_told (s : Side) (x : Int) : putK (sideK s) (.inr "told") (.int x) = sideK { s with told := x } := by
  cases s; exact sp_told _ _ _ _ _ _ _ _ _
theorem gp_got (s : Side) (x : Int) : putK (sideK s) (.inr "got") (.int x) = sideK { s with got := x } := by
  cases s; exact sp_got _ _ _ _ _ _ _ _ _
theorem gp_fulls (s : Side) (x : Int) : putK (sideK s) (.inr "fulls") (.int x) = sideK { s with fulls := x } := by
  cases s; exact sp_fulls _ _ _ _ _ _ _ _ _
theorem gp_came (s : Side) (x : Int) : putK (sideK s) (.inr "came") (.int x) = sideK { s with came := x } := by
  cases s; exact sp_came _ _ _ _ _ _ _ _ _
theorem gp_mark (s : Side) (x : Int) : putK (sideK s) (.inr "mark") (.int x) = sideK { s with mark := x } := by
  cases s; exact sp_mark _ _ _ _ _ _ _ _ _
def ruleV (r : Rule) : List V := [.str r.hold.str, .int r.every, .int r.quick]
/-- the law's model -/
structure LawAt (c : Cfg) (f : Fr) (WD RL : Addr) (r : Bool → Addr) (H : Hp) (k : Nat) (n : Int) (sd : Bool → Side) (wy : Bool → List (Int × Int)) : Prop where
  bx : Bx boxK (fun k n => .dK (modK WD c.size RL f.SL f.WL k n)) f H k n sd wy
  wd : LstT H WD (wsV c)
  rl : H RL = some (.lst [.ref (r false), .ref (r true)])
  ru : ∀ b, H (r b) = some (.tup (ruleV (c.rule b)))
  out : WD ∉ f.ft ∧ RL ∉ f.ft ∧ WD = f.WD ∧ RL = f.RL
variable {c : Cfg} {WD RL : Addr} {r : Bool → Addr}
/-- what the law's model is at M -/
def LwM (c : Cfg) (f : Fr) (H : Hp) (m : Mo) : Prop := ∃ WD RL r, LawAt c f WD RL r H m.made m.stalls m.side m.way
theorem LawAt.step {a : Addr} {o o' : HO} {k' : Nat} {n' : Int} {sd' : Bool → Side} {wy' : Bool → List (Int × Int)} (h : LawAt c f WD RL r H k n sd wy) (ha : a ∈ f.ft) (hH : H a = some o') (nt : ∀ xs, o' ≠ .tup xs)
    (bx' : Bx boxK (fun k n => .dK (modK WD c.size RL f.SL f.WL k n)) f (upd H a o) k' n' sd' wy') : LawAt c f WD RL r (upd H a o) k' n' sd' wy' :=
  ⟨bx', h.wd.upd' hH nt (fun e => h.out.1 (e ▸ ha)), by rw [upd_ne (fun e => h.out.2.1 (by rw [e]; exact ha))]; exact h.rl,
    fun b => by rw [upd_ne (fun e => nt _ (Option.some.inj ((e ▸ hH).symm.trans (h.ru b))))]; exact h.ru b, h.out⟩
theorem LawAt.ex (h : LawAt c f WD RL r H k n sd wy) (e : Ex H H') : LawAt c f WD RL r H' k n sd wy := ⟨h.bx.ex e, h.wd.ex e, e _ _ h.rl, fun b => e _ _ (h.ru b), h.out⟩
theorem LawAt.side2 {b : Bool} {s0 : Side} (h : LawAt c f WD RL r H k n (fset sd b s0) wy) (s : Side) : LawAt c f WD RL r (upd H (f.s b) (.dK (sideK s))) k n (fset sd b s) wy :=
  h.step (f.inS b) h.bx.si2 (fun xs e => by cases e) (h.bx.side2 s)
theorem LawAt.open_ (h : LawAt c f WD RL r H k n sd wy) (b : Bool) : LawAt c f WD RL r H k n (fset sd b (sd b)) wy := by rw [fset_self]; exact h
theorem LawAt.obj (h : LawAt c f WD RL r H k n sd wy) (k' : Nat) (n' : Int) : LawAt c f WD RL r (upd H f.M (.dK (modK WD c.size RL f.SL f.WL k' n'))) k' n' sd wy :=
  h.step f.inM h.bx.mo (fun xs e => by cases e) (h.bx.obj k' n')
theorem LawAt.way (h : LawAt c f WD RL r H k n sd wy) (b : Bool) {ps : List Addr} {w : List (Int × Int)} (hr : Rows H ps (wayV w)) : LawAt c f WD RL r (upd H (f.w b) (.lst (ps.map V.ref))) k n sd (fset wy b w) := by
  obtain ⟨qs, hq, _⟩ := h.bx.wa b
  exact h.step (f.inW b) hq (fun xs e => by cases e) (h.bx.way b hr)
/-! ### one step on the law's model -/
section
variable (L : LawAt c f WD RL r H k n sd wy)
include L
theorem LawAt.getS {b : Bool} {s0 : Side} (e0 : sd b = s0) {x : Str} {v : V} {Q : Addr → V → Prop} (e : valV (sideK s0) (.inr x) = some v) (q : Q (f.s b) v) : ∃ a v', V.ref (f.s b) = .ref a ∧ DGet H a (.str x) (some v') ∧ Q a v' :=
  ⟨_, _, rfl, dgt (by rw [← e0] at e; exact L.bx.si b) (by rw [e0]; exact e), q⟩
theorem LawAt.getM {x : Str} {v : V} {Q : Addr → V → Prop} (e : valV (modK WD c.size RL f.SL f.WL k n) (.inr x) = some v) (q : Q f.M v) : ∃ a v', V.ref f.M = .ref a ∧ DGet H a (.str x) (some v') ∧ Q a v' :=
  ⟨_, _, rfl, dgt L.bx.mo e, q⟩
theorem LawAt.putS {b : Bool} {s0 s1 : Side} (e0 : sd b = s0) {x : Str} {v : V} {Q : Hp → Prop} (e : putK (sideK s0) (.inr x) v = sideK s1) (q : ∀ H', Kp f.ft H H' → LawAt c f WD RL r H' k n (fset sd b s1) wy → Q H') : ∃ H5, DPut H (f.s b) (.str x) v H5 ∧ Q H5 := by
  subst e0
  exact ⟨_, dpt (L.bx.si b) (lt_r (n := 8) (m := 1000)) e, q _ (Kp.upd (f.inS b)) ((L.step (f.inS b) (L.bx.si b) (fun xs e => by cases e) (L.bx.side b s1)))⟩
theorem LawAt.putS1 {b : Bool} {s0 s1 : Side} (e0 : sd b = s0) {x : Str} {v : V} {Q : Hp → Prop} (e : putK (sideK s0) (.inr x) v = sideK s1) (q : ∀ H', Kp f.ft H H' → LawAt c f WD RL r H' k n (fset sd b s1) wy → Q H') : ∃ a H5, V.ref (f.s b) = .ref a ∧ DPut H a (.str x) v H5 ∧ Q H5 :=
  let ⟨H5, p, q⟩ := L.putS e0 e q
  ⟨_, H5, rfl, p, q⟩
theorem LawAt.putM {x : Str} {v : V} {k' : Nat} {n' : Int} {Q : Hp → Prop} (e : putK (modK WD c.size RL f.SL f.WL k n) (.inr x) v = modK WD c.size RL f.SL f.WL k' n') (q : ∀ H', Kp f.ft H H' → LawAt c f WD RL r H' k' n' sd wy → Q H') : ∃ H5, DPut H f.M (.str x) v H5 ∧ Q H5 :=
  ⟨_, dpt L.bx.mo (lt_r (n := 7) (m := 1000)) e, q _ (Kp.upd f.inM) (L.obj k' n')⟩
theorem LawAt.popW {a : Bool} {p : Addr} {qs : List Addr} {xs : List V} {rest : List (Int × Int)} (hps : H (f.w a) = some (.lst ((p :: qs).map V.ref))) (hqr : Rows H qs (wayV rest)) (hp : H p = some (.tup xs)) {Q : VK}
    (q : ∀ H', Kp f.ft H H' → LawAt c f WD RL r H' k n sd (fset wy a rest) → H' p = some (.tup xs) → Q (.ref p) H') : rPopAt (.ref (f.w a)) [.int 0] H Q := by
  refine ⟨_, _, 0, 0, .ref p, rfl, rfl, hps, by decide, by decide, ?_, rfl, q _ (Kp.upd (f.inW a)) (L.way a hqr) ?_⟩
  · unfold seqIndex?
    simp
  · rw [upd_ne (fun e => by rw [e, hps] at hp; cases hp)]; exact hp
theorem LawAt.pushW {b : Bool} {p : Addr} {a g : Int} (hp : H p = some (.tup [.int a, .int g])) (hl : (wy b).length < 100000) {Q : VK} (q : ∀ H', Kp f.ft H H' → LawAt c f WD RL r H' k n sd (fset wy b (wy b ++ [(a, g)])) → Q .non H') : rAppend (.ref (f.w b)) [.ref p] H Q := by
  obtain ⟨ps, hw, rw_, le⟩ := L.bx.wal b
  have r2 : Rows H (ps ++ [p]) (wayV (wy b ++ [(a, g)])) := by rw [wayV_snoc]; exact rw_.snoc hp
  have L2 := L.way b r2
  rw [List.map_append] at L2
  exact ⟨_, _, _, rfl, rfl, hw, by rw [List.length_map, le]; exact lt_sz hl, q _ (Kp.upd (f.inW b)) L2⟩
end
theorem ok_way (w : List (Int × Int)) : ∀ r ∈ wayV w, r.all okV = true := by
  intro r hr
  obtain ⟨x, _, rfl⟩ := List.mem_map.mp hr
  rfl
theorem wayV_emp (w : List (Int × Int)) : (wayV w).isEmpty = w.isEmpty := isE_map _ _
theorem Bx.wa' {b : Bool} (h : Bx box mob f H k n sd wy) : LstT H (f.w b) (wayV (wy b)) := h.wa b
def Fr.all (f : Fr) : List Addr := f.ft ++ [f.SL, f.WL, f.WD, f.RL]
theorem Fr.all_ft {f : Fr} {a : Addr} (h : a ∉ f.all) : a ∉ f.ft := fun z => h (List.mem_append_left _ z)
theorem Rows.off {H : Hp} {ps : List Addr} {rs : List (List V)} {D : Addr} {o : HO} (h : Rows H ps rs) (hD : ∀ xs, H D ≠ some (.tup xs)) : Rows (upd H D o) ps rs :=
  ⟨h.len, fun i p hp => let ⟨r, a, b⟩ := h.at_ i p hp; ⟨r, a, by rw [upd_ne (fun e => by rw [e] at b; exact hD _ b)]; exact b⟩⟩
theorem LstT.off {H : Hp} {a : Addr} {rs : List (List V)} {D : Addr} {o : HO} (h : LstT H a rs) (hD : ∀ xs, H D ≠ some (.tup xs)) (ne : a ≠ D) : LstT (upd H D o) a rs :=
  let ⟨ps, x, y⟩ := h
  ⟨ps, by rw [upd_ne ne]; exact x, y.off hD⟩
theorem LwM.off {m : Mo} {D : Addr} {o : HO} (h : LwM c f H m) (hD : ∀ xs, H D ≠ some (.tup xs)) (nf : D ∉ f.all) : LwM c f (upd H D o) m := by
  obtain ⟨WD, RL, r, L⟩ := h
  have n1 : f.M ≠ D := fun e => nf (by rw [← e]; simp [Fr.all, Fr.ft])
  have n2 : ∀ b, f.s b ≠ D := fun b e => nf (by rw [← e]; cases b <;> simp [Fr.all, Fr.ft])
  have n3 : ∀ b, f.w b ≠ D := fun b e => nf (by rw [← e]; cases b <;> simp [Fr.all, Fr.ft])
  have n4 : f.SL ≠ D := fun e => nf (by rw [← e]; simp [Fr.all, Fr.ft])
  have n5 : f.WL ≠ D := fun e => nf (by rw [← e]; simp [Fr.all, Fr.ft])
  have n6 : WD ≠ D := fun e => nf (by rw [← e, L.out.2.2.1]; simp [Fr.all, Fr.ft])
  have n7 : RL ≠ D := fun e => nf (by rw [← e, L.out.2.2.2]; simp [Fr.all, Fr.ft])
  refine ⟨WD, RL, r, ⟨L.bx.ap, ?_, ?_, ?_, fun b => ?_, fun b => ?_, L.bx.nt, L.bx.mt⟩, L.wd.off hD n6, ?_, fun b => ?_, L.out⟩
  · rw [upd_ne n1]; exact L.bx.mo
  · rw [upd_ne n4]; exact L.bx.sl
  · rw [upd_ne n5]; exact L.bx.wl
  · rw [upd_ne (n2 b)]; exact L.bx.si b
  · exact (L.bx.wa b).off hD (n3 b)
  · rw [upd_ne n7]; exact L.rl
  · rw [upd_ne (fun e => hD _ (e ▸ L.ru b))]; exact L.ru b
theorem LwM.ex {m : Mo} (h : LwM c f H m) (e : Ex H H') : LwM c f H' m := let ⟨WD, RL, r, L⟩ := h; ⟨WD, RL, r, L.ex e⟩
def logV (l : List Ev) : List V := l.map fun e => V.str e.str
theorem logV_snoc (l : List Ev) (e : Ev) : logV (l ++ [e]) = logV l ++ [V.str e.str] := by unfold logV; rw [List.map_append]; rfl
/-- the model and its log -/
structure MLAt (c : Cfg) (f : Fr) (lg : Addr) (H : Hp) (x : ML) : Prop where
  m : LwM c f H x.1
  l : H lg = some (.lst (logV x.2))
  o : lg ∉ f.all
theorem MLAt.ex {lg : Addr} {x : ML} (h : MLAt c f lg H x) (e : Ex H H') : MLAt c f lg H' x := ⟨h.m.ex e, e _ _ h.l, h.o⟩
/-- behind a step of the model -/
theorem MLAt.step {lg : Addr} {x : ML} {m' : Mo} (h : MLAt c f lg H x) (kp : Kp f.ft H H') (hm : LwM c f H' m') : MLAt c f lg H' (m', x.2) := ⟨hm, kp _ _ h.l (Fr.all_ft h.o), h.o⟩
/-- behind an entry in the log -/
theorem MLAt.note {lg : Addr} {x : ML} (h : MLAt c f lg H x) (e : Ev) : MLAt c f lg (upd H lg (.lst (logV x.2 ++ [V.str e.str]))) (x.1, x.2 ++ [e]) :=
  ⟨h.m.off (fun xs z => by rw [h.l] at z; cases z) h.o, by rw [upd_same, logV_snoc], h.o⟩
theorem MLAt.app {lg : Addr} {x : ML} (h : MLAt c f lg H x) (hl : x.2.length < 90000) {e : Ev} {Q : VK} (q : ∀ H', Kp (lg :: f.ft) H H' → MLAt c f lg H' (x.1, x.2 ++ [e]) → Q .non H') : rAppend (.ref lg) [.str e.str] H Q :=
  ⟨_, _, _, rfl, rfl, h.l, by unfold logV; rw [List.length_map]; exact lt_sz (by omega), q _ (Kp.upd (List.mem_cons_self ..)) (h.note e)⟩
theorem Kp.lg {lg : Addr} (k : Kp f.ft H H') : Kp (lg :: f.ft) H H' := k.mono fun b h => List.mem_cons_of_mem _ h
theorem LwM.live {m : Mo} (h : LwM c f H m) {a : Addr} (ha : a ∈ f.all) : ∃ o, H a = some o := by
  obtain ⟨WD, RL, r, L⟩ := h
  obtain ⟨q1, h1, _⟩ := L.bx.wa false
  obtain ⟨q2, h2, _⟩ := L.bx.wa true
  obtain ⟨q3, h3, _⟩ := L.wd
  rw [L.out.2.2.1] at h3
  have h4 := L.rl
  rw [L.out.2.2.2] at h4
  simp only [Fr.all, Fr.ft, List.mem_append, List.mem_cons, List.not_mem_nil, or_false] at ha
  rcases ha with (ha | ha | ha | ha | ha) | ha | ha | ha | ha <;> subst ha
  · exact ⟨_, L.bx.mo⟩
  · exact ⟨_, L.bx.si false⟩
  · exact ⟨_, L.bx.si true⟩
  · exact ⟨_, h1⟩
  · exact ⟨_, h2⟩
  · exact ⟨_, L.bx.sl⟩
  · exact ⟨_, L.bx.wl⟩
  · exact ⟨_, h3⟩
  · exact ⟨_, h4⟩
/-- a new address is none of theirs -/
theorem MLAt.new {lg : Addr} {x : ML} (h : MLAt c f lg H x) {T : Addr} (hT : H T = none) : T ∉ lg :: f.ft := fun z => by
  rcases List.mem_cons.mp z with z | z
  · rw [z, h.l] at hT; cases hT
  · obtain ⟨o, ho⟩ := h.m.live (List.mem_append_left _ z)
    rw [ho] at hT; cases hT
theorem ev_inj {a b : Ev} (h : a.str = b.str) : a = b := by
  have key : ∀ (a b : Ev), decide (a.str = b.str) = decide (a = b) := by
    intro a b
    cases a with
    | write => cases b with
      | write => rfl
      | timer => decide +kernel
      | arr b => cases b <;> decide +kernel
    | timer => cases b with
      | write => decide +kernel
      | timer => rfl
      | arr b => cases b <;> decide +kernel
    | arr a => cases b with
      | write => cases a <;> decide +kernel
      | timer => cases a <;> decide +kernel
      | arr b => cases a <;> cases b <;> decide +kernel
  have := key a b
  rw [decide_eq_true h] at this
  exact of_decide_eq_true this.symm
theorem evs_inj : ∀ {a b : List Ev}, a.map Ev.str = b.map Ev.str → a = b
  | [], [], _ => rfl
  | [], _ :: _, h => by cases h
  | _ :: _, [], h => by cases h
  | x :: a, y :: b, h => by
    rw [List.map_cons, List.map_cons] at h
    injection h with h1 h2
    rw [ev_inj h1, evs_inj h2]
theorem logV_eq (l : List Ev) : logV l = (l.map Ev.str).map V.str := by unfold logV; rw [List.map_map]; rfl
theorem logs_ok (l : List Ev) : ∀ x ∈ l.map Ev.str, PyData.strOk x = true := by
  intro x hx
  obtain ⟨e, _, rfl⟩ := List.mem_map.mp hx
  exact ev_ok e
end Lw
/-! LwZ: the road's objects. -/
namespace Lw
open PySem PySem.Spec PyProof.Rows L2
/-! ### an attribute as a target among others -/
theorem pg_fld {X : Cx} {o : Expr} {to : TE} {f : Str} {pos : Pos} (ho : PE X o to)
    (ha : ∀ v, assign (.Attribute o f pos) X.env v = (do
      let ov ← holding [v] (eval o X.env)
      standAt pos.atName
      holding [v, ov] (setAttr ov f v)
      release [v, ov] []) := by intro _; rfl) : PG X (.Attribute o f pos) (gFld X.K to f) := by
  refine ⟨fun pins s σ H v u Q I r h => ?_⟩
  rw [ha]
  refine wpAny_bind (wpAny_holding (thn (ho.run pins s σ H _ I h) fun ov s1 ⟨x, H1, I1, r1, a, C, dx, fs, ex, ea, c, n, l, q⟩ => ?_))
  subst ex
  obtain rfl : ov = Value.ref a := r1
  refine wpAny_bind (wpAny_standAt (wpAny_bind (wpAny_holding (setattr_ok I1 ea c n l r fun s3 I3 => ?_))))
  exact wpAny_release ⟨σ, _, I3, q⟩
/-! ### sides -/
def sideF (s : Side) : List (Str × V) := [("waiting", .int s.rest), ("corked", .bl s.kept), ("out", .int s.sent), ("covered", .int s.told), ("heard", .int s.got), ("fulls", .int s.fulls), ("arrived", .int s.came), ("mark", .int s.mark)]
def Side.vs (s : Side) : List V := [.int s.rest, .bl s.kept, .int s.sent, .int s.told, .int s.got, .int s.fulls, .int s.came, .int s.mark]
section
variable (s : Side) (x : Int) (z : Bool)
theorem fk_waiting : (sideF s).lookup ("waiting" : Str) = some (.int s.rest) := by kernel_rfl
theorem fk_corked : (sideF s).lookup ("corked" : Str) = some (.bl s.kept) := by kernel_rfl
theorem fk_out : (sideF s).lookup ("out" : Str) = some (.int s.sent) := by kernel_rfl
theorem fk_covered : (sideF s).lookup ("covered" : Str) = some (.int s.told) := by kernel_rfl
theorem fk_heard : (sideF s).lookup ("heard" : Str) = some (.int s.got) := by kernel_rfl
theorem fk_fulls : (sideF s).lookup ("fulls" : Str) = some (.int s.fulls) := by kernel_rfl
theorem fk_arrived : (sideF s).lookup ("arrived" : Str) = some (.int s.came) := by kernel_rfl
theorem fk_mark : (sideF s).lookup ("mark" : Str) = some (.int s.mark) := by kernel_rfl
theorem fp_waiting : putF "waiting" (.int x) (sideF s) = sideF { s with rest := x } := by kernel_rfl
theorem fp_corked : putF "corked" (.bl z) (sideF s) = sideF { s with kept := z } := by kernel_rfl
theorem fp_out : putF "out" (.int x) (sideF s) = sideF { s with sent := x } := by kernel_rfl
theorem fp_covered : putF "covered" (.int x) (sideF s) = sideF { s with told := x } := by kernel_rfl
theorem fp_heard : putF "heard" (.int x) (sideF s) = sideF { s with got := x } := by kernel_rfl
theorem fp_fulls : putF "fulls" (.int x) (sideF s) = sideF { s with fulls := x } := by kernel_rfl
theorem fp_arrived : putF "arrived" (.int x) (sideF s) = sideF { s with came := x } := by kernel_rfl
theorem fp_mark : putF "mark" (.int x) (sideF s) = sideF { s with mark := x } := by kernel_rfl
end
section
variable (x : Int) (z : Bool) (a1 a3 a4 a5 a6 a7 a8 : Int) (a2 : Bool)
theorem fs_waiting : (sideF ⟨a1, a2, a3, a4, a5, a6, a7, a8⟩).lookup ("waiting" : Str) = some (.int a1) := by kernel_rfl
theorem fs_corked : (sideF ⟨a1, a2, a3, a4, a5, a6, a7, a8⟩).lookup ("corked" : Str) = some (.bl a2) := by kernel_rfl
theorem fs_out : (sideF ⟨a1, a2, a3, a4, a5, a6, a7, a8⟩).lookup ("out" : Str) = some (.int a3) := by kernel_rfl
theorem fs_covered : (sideF ⟨a1, a2, a3, a4, a5, a6, a7, a8⟩).lookup ("covered" : Str) = some (.int a4) := by kernel_rfl
theorem fs_heard : (sideF ⟨a1, a2, a3, a4, a5, a6, a7, a8⟩).lookup ("heard" : Str) = some (.int a5) := by kernel_rfl
theorem fs_fulls : (sideF ⟨a1, a2, a3, a4, a5, a6, a7, a8⟩).lookup ("fulls" : Str) = some (.int a6) := by kernel_rfl
theorem fs_arrived : (sideF ⟨a1, a2, a3, a4, a5, a6, a7, a8⟩).lookup ("arrived" : Str) = some (.int a7) := by kernel_rfl
theorem fs_mark : (sideF ⟨a1, a2, a3, a4, a5, a6, a7, a8⟩).lookup ("mark" : Str) = some (.int a8) := by kernel_rfl
theorem fq_waiting : putF "waiting" (.int x) (sideF ⟨a1, a2, a3, a4, a5, a6, a7, a8⟩) = sideF ⟨x, a2, a3, a4, a5, a6, a7, a8⟩ := by kernel_rfl
theorem fq_corked : putF "corked" (.bl z) (sideF ⟨a1, a2, a3, a4, a5, a6, a7, a8⟩) = sideF ⟨a1, z, a3, a4, a5, a6, a7, a8⟩ := by kernel_rfl
theorem fq_out : putF "out" (.int x) (sideF ⟨a1, a2, a3, a4, a5, a6, a7, a8⟩) = sideF ⟨a1, a2, x, a4, a5, a6, a7, a8⟩ := by kernel_rfl
theorem fq_covered : putF "covered" (.int x) (sideF ⟨a1, a2, a3, a4, a5, a6, a7, a8⟩) = sideF ⟨a1, a2, a3, x, a5, a6, a7, a8⟩ := by kernel_rfl
theorem fq_heard : putF "heard" (.int x) (sideF ⟨a1, a2, a3, a4, a5, a6, a7, a8⟩) = sideF ⟨a1, a2, a3, a4, x, a6, a7, a8⟩ := by kernel_rfl
theorem fq_fulls : putF "fulls" (.int x) (sideF ⟨a1, a2, a3, a4, a5, a6, a7, a8⟩) = sideF ⟨a1, a2, a3, a4, a5, x, a7, a8⟩ := by kernel_rfl
theorem fq_arrived : putF "arrived" (.int x) (sideF ⟨a1, a2, a3, a4, a5, a6, a7, a8⟩) = sideF ⟨a1, a2, a3, a4, a5, a6, x, a8⟩ := by kernel_rfl
theorem fq_mark : putF "mark" (.int x) (sideF ⟨a1, a2, a3, a4, a5, a6, a7, a8⟩) = sideF ⟨a1, a2, a3, a4, a5, a6, a7, x⟩ := by kernel_rfl
end
/-! ### drafts -/
def drF (st SL WL : Addr) (k : Nat) (n : Int) : List (Str × V) := [("setting", .ref st), ("made", .int k), ("stalls", .int n), ("sides", .ref SL), ("ways", .ref WL)]
section
variable (st SL WL : Addr) (k k' : Nat) (n n' : Int)
theorem dk_setting : (drF st SL WL k n).lookup ("setting" : Str) = some (.ref st) := by kernel_rfl
theorem dk_made : (drF st SL WL k n).lookup ("made" : Str) = some (.int k) := by kernel_rfl
theorem dk_stalls : (drF st SL WL k n).lookup ("stalls" : Str) = some (.int n) := by kernel_rfl
theorem dk_sides : (drF st SL WL k n).lookup ("sides" : Str) = some (.ref SL) := by kernel_rfl
theorem dk_ways : (drF st SL WL k n).lookup ("ways" : Str) = some (.ref WL) := by kernel_rfl
theorem dp_made : putF "made" (.int (k' : Nat)) (drF st SL WL k n) = drF st SL WL k' n := by kernel_rfl
theorem dp_stalls : putF "stalls" (.int n') (drF st SL WL k n) = drF st SL WL k n' := by kernel_rfl
end
theorem dn_send (st SL WL : Addr) (k : Nat) (n : Int) : (drF st SL WL k n).lookup ("send" : Str) = none := by kernel_rfl
theorem dn_write (st SL WL : Addr) (k : Nat) (n : Int) : (drF st SL WL k n).lookup ("write" : Str) = none := by kernel_rfl
theorem dn_arrive (st SL WL : Addr) (k : Nat) (n : Int) : (drF st SL WL k n).lookup ("arrive" : Str) = none := by kernel_rfl
theorem dn_fire (st SL WL : Addr) (k : Nat) (n : Int) : (drF st SL WL k n).lookup ("fire" : Str) = none := by kernel_rfl
theorem dn_packed (st SL WL : Addr) (k : Nat) (n : Int) : (drF st SL WL k n).lookup ("packed" : Str) = none := by kernel_rfl
theorem sn_permits (s : Side) : (sideF s).lookup ("permits" : Str) = none := by kernel_rfl
theorem sn_packed (s : Side) : (sideF s).lookup ("packed" : Str) = none := by kernel_rfl
def boxI (K : PySem.W.Frag) (dx : Bool → Addr) : Box := fun b s => .ins (He.ga K "Side") (dx b) (sideF s)
def mobI (K : PySem.W.Frag) (dm st SL WL : Addr) : Mob := fun k n => .ins (He.ga K "Draft") dm (drF st SL WL k n)
variable {K : PySem.W.Frag} {c : Cfg} {f : Fr} {H H' : Hp} {k : Nat} {n : Int} {sd : Bool → Side} {wy : Bool → List (Int × Int)}
/-- a draft: its boxes, and a setting that they leave alone -/
structure DrAt (K : PySem.W.Frag) (c : Cfg) (f : Fr) (st dm : Addr) (dx : Bool → Addr) (H : Hp) (k : Nat) (n : Int) (sd : Bool → Side) (wy : Bool → List (Int × Int)) : Prop where
  bx : Bx (boxI K dx) (mobI K dm st f.SL f.WL) f H k n sd wy
  se : ∃ d2 pt ps ds, SetAt K c H st d2 pt ps ds ∧ st ∉ f.ft ∧ pt ∉ f.ft ∧ ∀ b, ps b ∉ f.ft
def DrM (K : PySem.W.Frag) (c : Cfg) (f : Fr) (H : Hp) (m : Mo) : Prop := ∃ st dm dx, DrAt K c f st dm dx H m.made m.stalls m.side m.way
variable {st dm : Addr} {dx : Bool → Addr}
theorem SetAt.kp {a d2 pt : Addr} {ps ds : Bool → Addr} {F : List Addr} (h : SetAt K c H a d2 pt ps ds) (kp : Kp F H H') (h1 : a ∉ F) (h2 : pt ∉ F) (h3 : ∀ b, ps b ∉ F) : SetAt K c H' a d2 pt ps ds :=
  ⟨kp _ _ h.ob h1, kp _ _ h.tu h2, fun b => kp _ _ (h.pol b) (h3 b)⟩
theorem DrAt.kp {k' : Nat} {n' : Int} {sd' : Bool → Side} {wy' : Bool → List (Int × Int)} (h : DrAt K c f st dm dx H k n sd wy) (kp : Kp f.ft H H') (bx' : Bx (boxI K dx) (mobI K dm st f.SL f.WL) f H' k' n' sd' wy') : DrAt K c f st dm dx H' k' n' sd' wy' :=
  ⟨bx', let ⟨d2, pt, ps, ds, s, a, b, g⟩ := h.se; ⟨d2, pt, ps, ds, s.kp kp a b g, a, b, g⟩⟩
theorem DrAt.ex (h : DrAt K c f st dm dx H k n sd wy) (e : Ex H H') : DrAt K c f st dm dx H' k n sd wy := h.kp (Kp.of e) (h.bx.ex e)
theorem DrAt.open_ (h : DrAt K c f st dm dx H k n sd wy) (b : Bool) : DrAt K c f st dm dx H k n (fset sd b (sd b)) wy := by rw [fset_self]; exact h
section
variable (L : DrAt K c f st dm dx H k n sd wy)
include L
/-- a side's field read -/
theorem DrAt.getS (cl : Cls K (He.ga K "Side")) {b : Bool} {s0 : Side} (e0 : sd b = s0) {x : Str} (na : NoAttr K (He.ga K "Side") x) {v : V} {Q : V → Prop} (e : (sideF s0).lookup x = some v) (q : Q v) :
    ∃ a C d fs v', V.ref (f.s b) = .ref a ∧ H a = some (.ins C d fs) ∧ Cls K C ∧ NoAttr K C x ∧ fs.lookup x = some v' ∧ Q v' :=
  ⟨_, _, _, _, _, rfl, L.bx.si b, cl, na, by rw [e0]; exact e, q⟩
theorem DrAt.getM (cl : Cls K (He.ga K "Draft")) {x : Str} (na : NoAttr K (He.ga K "Draft") x) {v : V} {Q : V → Prop} (e : (drF st f.SL f.WL k n).lookup x = some v) (q : Q v) :
    ∃ a C d fs v', V.ref f.M = .ref a ∧ H a = some (.ins C d fs) ∧ Cls K C ∧ NoAttr K C x ∧ fs.lookup x = some v' ∧ Q v' :=
  ⟨_, _, _, _, _, rfl, L.bx.mo, cl, na, e, q⟩
/-- a side's field set -/
theorem DrAt.putS (cl : Cls K (He.ga K "Side")) {b : Bool} {s0 s1 : Side} (e0 : sd b = s0) {x : Str} (na : NoAttr K (He.ga K "Side") x) {v : V} {Q : Hp → Prop} (e : putF x v (sideF s0) = sideF s1) (q : ∀ H', Kp f.ft H H' → DrAt K c f st dm dx H' k n (fset sd b s1) wy → Q H') :
    ∃ a C d fs, V.ref (f.s b) = .ref a ∧ H a = some (.ins C d fs) ∧ Cls K C ∧ NoAttr K C x ∧ fs.length < 1000 ∧ Q (upd H a (.ins C d (putF x v fs))) := by
  subst e0
  refine ⟨_, _, _, _, rfl, L.bx.si b, cl, na, (lt_r (n := 8) (m := 1000)), ?_⟩
  rw [e]
  have kp : Kp f.ft H (upd H (f.s b) (boxI K dx b s1)) := Kp.upd (f.inS b)
  exact q _ kp (L.kp kp (L.bx.side b s1))
theorem DrAt.putM (cl : Cls K (He.ga K "Draft")) {x : Str} (na : NoAttr K (He.ga K "Draft") x) {v : V} {k' : Nat} {n' : Int} {Q : Hp → Prop} (e : putF x v (drF st f.SL f.WL k n) = drF st f.SL f.WL k' n') (q : ∀ H', Kp f.ft H H' → DrAt K c f st dm dx H' k' n' sd wy → Q H') :
    ∃ a C d fs, V.ref f.M = .ref a ∧ H a = some (.ins C d fs) ∧ Cls K C ∧ NoAttr K C x ∧ fs.length < 1000 ∧ Q (upd H a (.ins C d (putF x v fs))) := by
  refine ⟨_, _, _, _, rfl, L.bx.mo, cl, na, (lt_r (n := 5) (m := 1000)), ?_⟩
  rw [e]
  have kp : Kp f.ft H (upd H f.M (mobI K dm st f.SL f.WL k' n')) := Kp.upd f.inM
  exact q _ kp (L.kp kp (L.bx.obj k' n'))
/-- a side's field, augmented: read, then set -/
theorem DrAt.augS (cl : Cls K (He.ga K "Side")) {b : Bool} {s0 : Side} (e0 : sd b = s0) {x : Str} (na : NoAttr K (He.ga K "Side") x) {v : V} {Q : Addr → Addr → V → Prop} (e : (sideF s0).lookup x = some v) (q : Q (f.s b) (He.ga K "Side") v) :
    ∃ a C d fs v', V.ref (f.s b) = .ref a ∧ H a = some (.ins C d fs) ∧ Cls K C ∧ NoAttr K C x ∧ fs.lookup x = some v' ∧ Q a C v' :=
  ⟨_, _, _, _, _, rfl, L.bx.si b, cl, na, by rw [e0]; exact e, q⟩
theorem DrAt.aug2 {b : Bool} {s0 s1 : Side} (e0 : sd b = s0) {x : Str} {v : V} {Q : Hp → Prop} (e : putF x v (sideF s0) = sideF s1) (q : ∀ H', Kp f.ft H H' → DrAt K c f st dm dx H' k n (fset sd b s1) wy → Q H') :
    ∃ d' fs', H (f.s b) = some (.ins (He.ga K "Side") d' fs') ∧ fs'.length < 1000 ∧ Q (upd H (f.s b) (.ins (He.ga K "Side") d' (putF x v fs'))) := by
  subst e0
  refine ⟨_, _, L.bx.si b, (lt_r (n := 8) (m := 1000)), ?_⟩
  rw [e]
  have kp : Kp f.ft H (upd H (f.s b) (boxI K dx b s1)) := Kp.upd (f.inS b)
  exact q _ kp (L.kp kp (L.bx.side b s1))
theorem DrAt.augM (cl : Cls K (He.ga K "Draft")) {x : Str} (na : NoAttr K (He.ga K "Draft") x) {v : V} {Q : Addr → Addr → V → Prop} (e : (drF st f.SL f.WL k n).lookup x = some v) (q : Q f.M (He.ga K "Draft") v) :
    ∃ a C d fs v', V.ref f.M = .ref a ∧ H a = some (.ins C d fs) ∧ Cls K C ∧ NoAttr K C x ∧ fs.lookup x = some v' ∧ Q a C v' :=
  ⟨_, _, _, _, _, rfl, L.bx.mo, cl, na, e, q⟩
theorem DrAt.augM2 {x : Str} {v : V} {k' : Nat} {n' : Int} {Q : Hp → Prop} (e : putF x v (drF st f.SL f.WL k n) = drF st f.SL f.WL k' n') (q : ∀ H', Kp f.ft H H' → DrAt K c f st dm dx H' k' n' sd wy → Q H') :
    ∃ d' fs', H f.M = some (.ins (He.ga K "Draft") d' fs') ∧ fs'.length < 1000 ∧ Q (upd H f.M (.ins (He.ga K "Draft") d' (putF x v fs'))) := by
  refine ⟨_, _, L.bx.mo, (lt_r (n := 5) (m := 1000)), ?_⟩
  rw [e]
  have kp : Kp f.ft H (upd H f.M (mobI K dm st f.SL f.WL k' n')) := Kp.upd f.inM
  exact q _ kp (L.kp kp (L.bx.obj k' n'))
theorem DrAt.pushW {b : Bool} {p : Addr} {a g : Int} (hp : H p = some (.tup [.int a, .int g])) (hl : (wy b).length < 100000) {Q : VK} (q : ∀ H', Kp f.ft H H' → DrAt K c f st dm dx H' k n sd (fset wy b (wy b ++ [(a, g)])) → Q .non H') : rAppend (.ref (f.w b)) [.ref p] H Q := by
  obtain ⟨ps, hw, rw_, le⟩ := L.bx.wal b
  have r2 : Rows H (ps ++ [p]) (wayV (wy b ++ [(a, g)])) := by rw [wayV_snoc]; exact rw_.snoc hp
  have L2 := L.bx.way b r2
  rw [List.map_append] at L2
  have kp : Kp f.ft H (upd H (f.w b) (.lst (ps.map V.ref ++ [p].map V.ref))) := Kp.upd (f.inW b)
  exact ⟨_, _, _, rfl, rfl, hw, by rw [List.length_map, le]; exact lt_sz hl, q _ kp (L.kp kp L2)⟩
theorem DrAt.popW {a : Bool} {p : Addr} {qs : List Addr} {xs : List V} {rest : List (Int × Int)} (hps : H (f.w a) = some (.lst ((p :: qs).map V.ref))) (hqr : Rows H qs (wayV rest)) (hp : H p = some (.tup xs)) {Q : VK}
    (q : ∀ H', Kp f.ft H H' → DrAt K c f st dm dx H' k n sd (fset wy a rest) → H' p = some (.tup xs) → Q (.ref p) H') : rPopAt (.ref (f.w a)) [.int 0] H Q := by
  have kp : Kp f.ft H (upd H (f.w a) (.lst (qs.map V.ref))) := Kp.upd (f.inW a)
  refine ⟨_, _, 0, 0, .ref p, rfl, rfl, hps, by decide, by decide, ?_, rfl, q _ kp (L.kp kp (L.bx.way a hqr)) ?_⟩
  · unfold seqIndex?
    simp
  · rw [upd_ne (fun e => by rw [e, hps] at hp; cases hp)]; exact hp
end
/-! ### scenes -/
structure ScAt (H : Hp) (sc : Addr) (m : Mo) : Prop where
  ex : ∃ (S W : Addr) (s w : Bool → Addr), H sc = some (.tup [.int (m.made : Nat), .int m.stalls, .ref S, .ref W]) ∧ H S = some (.tup [.ref (s false), .ref (s true)]) ∧ (∀ b, H (s b) = some (.tup (m.side b).vs)) ∧ H W = some (.tup [.ref (w false), .ref (w true)]) ∧ ∀ b, TupT H (w b) (wayV (m.way b))
theorem ScAt.mono {sc : Addr} {m : Mo} (h : ScAt H sc m) (e : Ex H H') : ScAt H' sc m :=
  let ⟨S, W, s, w, a, b, d, g, i⟩ := h.ex
  ⟨S, W, s, w, e _ _ a, e _ _ b, fun x => e _ _ (d x), e _ _ g, fun x => (i x).ex e⟩
def mayH (h : Hold) (s : Side) : Bool := match h with
  | .part => decide (s.mark ≤ s.told)
  | .off => true
  | .all => decide (s.told = s.sent)
theorem may_H (c : Cfg) (b : Bool) (s : Side) : may c b s = mayH (c.rule b).hold s := by
  unfold may mayH
  cases (c.rule b).hold <;> rfl
end Lw
/-! LwV: bool(x) of an instance whose class has its own truth. -/
namespace Lw
open PySem PySem.Spec PyProof.Rows L2
theorem bool_isType : isType (.type "bool") = pure true := by
  first
    | rfl
    | kernel_rfl
    | (unfold isType; rw [isSubtype_type]; kernel_rfl)
section
variable {prog : Program} {w : World} {A : Around} {E : Value → Shared → Prop} {s : Shared} {K : PySem.W.Frag} {a C g : Addr} {oa : Obj} {od : Option Obj}
theorem truthOwn {Q : Bool → Shared → Prop} (hK : K.In s.heap) (J : PySem.W.InstAt s.heap a oa C od) (m : Meth K C "__bool__" g)
    (h : wpAny (model prog w) A (call (.ref g) [.ref a]) (fun r t => ∃ b, r = Value.bool b ∧ Q b t) E s) : wpAny (model prog w) A (truthy (.ref a)) Q E s := by
  unfold truthy
  refine wpAny_bind (PySem.W.special_fn hK J m.at_ (beq_iff_eq.mp m.fn) (wpAny_mono h (fun r t q => ?_) fun _ _ y => y))
  obtain ⟨b, rfl, hq⟩ := q
  exact wpAny_pure hq
theorem boolOwn {Q : Value → Shared → Prop} (hK : K.In s.heap) (J : PySem.W.InstAt s.heap a oa C od) (m : Meth K C "__bool__" g)
    (h : wpAny (model prog w) A.in1.in1 (call (.ref g) [.ref a]) (fun r t => ∃ b, r = Value.bool b ∧ Q r t) E s) : wpAny (model prog w) A (call (.type "bool") [.ref a]) Q E s := by
  refine callType_codes (T := "bool") (Bi := Builtin.«object.__init__») (Q₁ := fun r t => ∃ b, r = Value.bool b ∧ Q r t) PySem.F.called_bool (PySem.F.typeCall_bool_1 _) PySem.F.entry_object_init ?_ ?_
  · refine codeAny_of_tree ?_
    show wpAny _ A.in1.in1 (do
      checkBuiltinCall "bool.__new__" ⟨[.type "bool", .ref a], []⟩
      again (.builtin "bool.__new__" ⟨[.type "bool", .ref a], []⟩)) _ _ s
    refine wpAny_bind (wpAny_of_eq (PySem.F.newCall_bool_1 _) ?_)
    refine wpAny_pure ⟨plainId_quiet (by decide +kernel) _, codeAny_builtin PySem.F.entry_bool_new ?_⟩
    rw [Around.under_plainId (by decide +kernel) _]
    unfold Builtin.«bool.__new__»
    refine wpAny_bind (wpAny_of_eq (a := true) bool_isType ?_)
    refine (if_neg (c := (!true) = true) (by decide)) ▸ ?_
    refine wpAny_bind (wpAny_of_eq (a := true) PySem.F.conv_sub_bool ?_)
    refine (if_neg (c := (!true) = true) (by decide)) ▸ ?_
    refine wpAny_bind (wpAny_of_eq (a := [Value.ref a]) (by first | rfl | kernel_rfl) ?_)
    refine wpAny_bind (truthOwn hK J m (wpAny_mono h (fun r t q => ?_) fun _ _ y => y))
    obtain ⟨b, rfl, hq⟩ := q
    exact ⟨b, rfl, wpAny_pure ⟨b, rfl, hq⟩⟩
  · rintro obj t ⟨b, rfl, hq⟩
    exact ⟨PySem.typeIs_bool _ _, PySem.F.args_object_init_2 _ _, object_init_meets PySem.F.called_bool.init.lookup PySem.F.called_bool.made (by decide) prog w A.in1 _ t ⟨PySem.typeIs_bool _ _, rfl, hq⟩⟩
end
section
variable {X : Cx} {CX : CXT} {C g : Addr} {fd : FuncData} {ps : List Str} {n : Nat} {sp : Sp} {E : XK}
def rBoolOwn (C : Addr) (sp : Sp) (E : XK) : List V → Hp → VK → Prop := fun xs H Q => ∃ a dx fs, xs = [V.ref a] ∧ H a = some (.ins C dx fs) ∧ sp [.ref a] H (fun z H' => ∃ b, z = .bl b ∧ Q z H') E
theorem call_boolOwn (m : Meth X.K C "__bool__" g) (F : FnOk X.prog X.w X.K X.mg X.base CX n g fd ps sp) (hb : Binds X.K fd ps []) (hr : Room (n + 2) X.A) (hx : Passes CX X E) : CallR X (.type "bool") (rBoolOwn C sp E) := by
  intro pins s σ H xs us Q I r h
  obtain ⟨a, dx, fs, rfl, ha, q⟩ := h
  obtain rfl := Vals.ref1 r
  obtain ⟨mA, J, _⟩ := ins_get I.hok ha
  obtain ⟨od, J, _⟩ := J.look
  have room : Room n X.A.in1.in1 := (show Room (n + 1) X.A.in1 from Room.in1 hr).in1
  have hl := F.len _ _ _ _ q
  have rv : Vals [V.ref a] [Value.ref a] := .cons rfl .nil
  refine boolOwn I.kIn J m (wpAny_call (codeAny_mono (F.run X.A.in1.in1 X.stack s H ⟨[.ref a], []⟩ [.ref a] [.ref a] _ E room I.env0.in1.in1 (by
    have := hb s [.ref a] I.kIn (by simpa using hl)
    simpa using this) rv q) fun r t hq => ?_))
  cases r with
  | error e => exact hx pins σ H s e t I hq
  | ok fl =>
    cases fl with
    | ret v =>
      obtain ⟨z, H', I', rz, ⟨b, ez, qz⟩⟩ := I.after hq
      subst ez
      cases rz
      exact ⟨b, rfl, .bl b, H', I', rfl, qz⟩
    | next => exact False.elim hq
    | brk => exact False.elim hq
    | cont => exact False.elim hq
end
end Lw
namespace Lw
open PySem PySem.Spec PyProof.Rows L2
section
variable {P : Program} {w : World} {K : PySem.W.Frag} {mg : Str → Option Value} {base : Heap}
local macro_rules | `(tactic| walk_at "w") => `(tactic| repeat (first | refine ⟨_, rfl, ?_⟩ | refine ⟨_, _, rfl, rfl, ?_⟩ | refine ⟨_, _, _, _, rfl, rfl, SqT.of (by assumption), (by rfl), ?_⟩ | (refine fun σ2 (hσ : σ2 = _) => ?_; (try simp only [List.set_cons_succ, List.set_cons_zero] at hσ); subst hσ) | refine ⟨_, _, rfl, SqT.of (by assumption), (by rfl), ?_⟩ | refine ⟨rfl, ?_⟩ | refine ⟨_, _, rfl, ?_⟩))
local macro_rules | `(tactic| walk_at "s") => `(tactic| (intro σ hσ; simp only [start_eq, List.map_cons, List.map_nil, List.length_cons, List.length_nil, List.cons_append, List.nil_append, Nat.reduceAdd, Nat.reduceSub, List.replicate_succ, List.replicate_zero] at hσ; subst hσ))

/-! ### states -/
def spFirstParts : Sp := fun vs H Q _ => ∃ q : Int, vs = [.int q] ∧ ∀ p H', Ex H H' → H' p = some (.tup (parts0 q).vs) → Q (.ref p) H'
theorem ok_first_parts (u : U K mg) : Ok P w K mg base 1 (He.ga K "first_parts") ["quick"] spFirstParts := by
  obtain ⟨fd, F⟩ := u.d_first_parts
  refine mkOk F sc_first_parts (fun _ _ _ _ _ _ us hl => match us, hl with | [_], _ => rfl) (fun vs H Q E h => ?_) (fun cdv A outer s H vs Q E hr h => ?_)
  · obtain ⟨q, rfl, k⟩ := h
    rfl
  · obtain ⟨q, rfl, k⟩ := h
    have hu := hu_of hr
    refine ⟨_, (pss_one (ps_ret (pe_tup (pa_cons pe_int (pa_cons pe_bl (pa_cons pe_bl (pa_cons pe_bl (pa_cons pe_int (pa_cons (pv 0) pa_nil))))))))), ?_⟩
    walk_at "s"
    refine ⟨_, rfl, ?_⟩
    refine ⟨le_sz le_r, fun p hp => ?_⟩
    exact k p _ (Ex.new hp) upd_same

def qvs (q : Bool → Int) : List V := [.int (q false), .int (q true)]
def spWithQuick : Sp := fun vs H Q _ => ∃ (a : Addr) (q : Bool → Int) (b : Bool) (n : Int), vs = [.ref a, .int (wI b), .int n] ∧ H a = some (.tup (qvs q)) ∧
  ∀ p H', Ex H H' → H' p = some (.tup (qvs (fset q b n))) → Q (.ref p) H'
theorem ok_with_quick (u : U K mg) : Ok P w K mg base 1 (He.ga K "with_quick") ["quick", "endpoint", "many"] spWithQuick := by
  obtain ⟨fd, F⟩ := u.d_with_quick
  refine mkOk F sc_with_quick (fun _ _ _ _ _ _ us hl => match us, hl with | [_, _, _], _ => rfl) (fun vs H Q E h => ?_) (fun cdv A outer s H vs Q E hr h => ?_)
  · obtain ⟨a, q, b, n, rfl, ha, k⟩ := h
    rfl
  · obtain ⟨a, q, b, n, rfl, ha, k⟩ := h
    have hu := hu_of hr
    refine ⟨_, (pss_one (ps_ret (pe_ifExp (pt_cmpR op_eq (pv 1) pe_int (nomark _)) (pe_tup (pa_cons (pv 2) (pa_cons (pe_ix ix_tup (pv 0) pe_int (fun _ _ => rfl)) pa_nil))) (pe_tup (pa_cons (pe_ix ix_tup (pv 0) pe_int (fun _ _ => rfl)) (pa_cons (pv 2) pa_nil)))))), ?_⟩
    walk_at "s"
    unfold qvs at ha
    cases b with
    | false =>
      walk_at "w"
      refine ⟨le_sz le_r, fun p hp => ?_⟩
      exact k p _ (Ex.new hp) upd_same
    | true =>
      walk_at "w"
      refine ⟨le_sz le_r, fun p hp => ?_⟩
      exact k p _ (Ex.new hp) upd_same

def spWithPartial : Sp := fun vs H Q _ => ∃ (a b : Addr) (r : Ru) (p : Parts), vs = [.ref a, .ref b] ∧ H a = some (.tup r.vs) ∧ H b = some (.tup p.vs) ∧
  ∀ x y H', Ex H H' → H' x = some (.tup [.ref y, .int (withPartial r p).2]) → H' y = some (.tup (withPartial r p).1.vs) → Q (.ref x) H'
theorem ok_with_partial (u : U K mg) : Ok P w K mg base 1 (He.ga K "with_partial") ["rules", "parts"] spWithPartial := by
  obtain ⟨fd, F⟩ := u.d_with_partial
  refine mkOk F sc_with_partial (fun _ _ _ _ _ _ us hl => match us, hl with | [_, _], _ => rfl) (fun vs H Q E h => ?_) (fun cdv A outer s H vs Q E hr h => ?_)
  · obtain ⟨a, b, r, p, rfl, ha, hb, k⟩ := h
    rfl
  · obtain ⟨a, b, r, p, rfl, ha, hb, k⟩ := h
    have hu := hu_of hr
    refine ⟨_, (pss_n (ps_set (i := 2) sc_with_partial.nd rfl (Or.inl rfl) (pe_cmpR op_ne (pe_ix ix_tup (pv 0) pe_int (fun _ _ => rfl)) pe_str (nomark _)))
    (pss_n (ps_if (pt_cmpR op_gt (pe_ix ix_tup (pv 1) pe_int (fun _ _ => rfl)) pe_int (nomark _))
    (pss_one (ps_ret (pe_tup (pa_cons (pe_tup (pa_cons pe_int (pa_cons pe_bl (pa_cons (pv 2) (pa_cons pe_bl (pa_cons pe_int (pa_cons (pe_op op_sub (pe_ix ix_tup (pv 1) pe_int (fun _ _ => rfl)) pe_int) pa_nil))))))) (pa_cons pe_int pa_nil)))))
    pss_nil)
    (pss_one (ps_ret (pe_tup (pa_cons (pe_tup (pa_cons pe_int (pa_cons pe_bl (pa_cons (pv 2) (pa_cons (pv 2) (pa_cons (pe_ix ix_tup (pv 1) pe_int (fun _ _ => rfl)) (pa_cons pe_int pa_nil))))))) (pa_cons pe_int pa_nil))))))), ?_⟩
    walk_at "s"
    unfold Ru.vs at ha
    unfold Parts.vs at hb
    walk_at "w"
    rw [hold_off]
    refine itb (fun hq => ?_) (fun hq => ?_)
    · walk_at "w"
      refine ⟨le_sz le_r, fun y hy => ?_⟩
      refine ⟨le_sz le_r, fun x hx => ?_⟩
      have e : withPartial r p = (⟨0, false, decide (r.hold ≠ .off), false, 0, p.quick - 1⟩, 1) := by unfold withPartial; rw [if_pos (of_decide_eq_true hq)]
      refine k x y _ ((Ex.new hy).trans (Ex.new hx)) ?_ ?_
      · rw [e]; exact upd_same
      · rw [e, decide_not]; exact xn hx upd_same
    · walk_at "w"
      refine ⟨le_sz le_r, fun y hy => ?_⟩
      refine ⟨le_sz le_r, fun x hx => ?_⟩
      have e : withPartial r p = (⟨0, false, decide (r.hold ≠ .off), decide (r.hold ≠ .off), p.pending, 0⟩, 0) := by unfold withPartial; rw [if_neg (fun z => of_decide_eq_false hq z)]
      refine k x y _ ((Ex.new hy).trans (Ex.new hx)) ?_ ?_
      · rw [e]; exact upd_same
      · rw [e, decide_not]; exact xn hx upd_same

def spWithFull : Sp := fun vs H Q _ => ∃ (a b : Addr) (r : Ru) (p : Parts) (n : Int), vs = [.ref a, .ref b, .int n] ∧ H a = some (.tup r.vs) ∧ H b = some (.tup p.vs) ∧ 0 ≤ r.every ∧ r.every ≤ 9 ∧
  ∀ x y H', Ex H H' → H' x = some (.tup [.ref y, .int (withFull r p n).2]) → H' y = some (.tup (withFull r p n).1.vs) → Q (.ref x) H'
def wfS (a b : Addr) (r : Ru) (p : Parts) (n sn : Int) (bl st : Bool) (pd : Int) (tl : Option V) : L2.St := [some (.ref a), some (.ref b), some (.int n), some (.int r.size), some (.str r.hold.str), some (.int r.every), some (.int p.rest), some (.bl p.kept), some (.bl bl), some (.bl st), some (.int pd), some (.int p.quick), some (.int sn), some (.int (n - sn)), tl]
theorem ok_with_full (u : U K mg) : Ok P w K mg base 1 (He.ga K "with_full") ["rules", "parts", "many"] spWithFull := by
  obtain ⟨fd, F⟩ := u.d_with_full
  refine mkOk F sc_with_full (fun _ _ _ _ _ _ us hl => match us, hl with | [_, _, _], _ => rfl) (fun vs H Q E h => ?_) (fun cdv A outer s H vs Q E hr h => ?_)
  · obtain ⟨a, b, r, p, n, rfl, ha, hb, he0, he, k⟩ := h
    rfl
  · obtain ⟨a, b, r, p, n, rfl, ha, hb, he0, he, k⟩ := h
    have hu := hu_of hr
    refine ⟨_, (pss_n (ps_asg (pv 0) (pg_tup rfl (pgs_cons (pg_name (i := 3) sc_with_full.nd rfl (Or.inl rfl)) (pgs_cons (pg_name (i := 4) sc_with_full.nd rfl (Or.inl rfl)) (pgs_cons (pg_name (i := 5) sc_with_full.nd rfl (Or.inl rfl)) pgs_nil)))))
    (pss_n (ps_asg (pv 1) (pg_tup rfl (pgs_cons (pg_name (i := 6) sc_with_full.nd rfl (Or.inl rfl)) (pgs_cons (pg_name (i := 7) sc_with_full.nd rfl (Or.inl rfl)) (pgs_cons (pg_name (i := 8) sc_with_full.nd rfl (Or.inl rfl)) (pgs_cons (pg_name (i := 9) sc_with_full.nd rfl (Or.inl rfl)) (pgs_cons (pg_name (i := 10) sc_with_full.nd rfl (Or.inl rfl)) (pgs_cons (pg_name (i := 11) sc_with_full.nd rfl (Or.inl rfl)) pgs_nil))))))))
    (pss_n (ps_if (pt_cmpR op_eq (pv 2) pe_int (nomark _))
    (pss_one (ps_ret (pe_tup (pa_cons (pv 1) (pa_cons pe_int pa_nil)))))
    pss_nil)
    (pss_n (ps_set (i := 12) sc_with_full.nd rfl (Or.inl rfl) (pe_callB (call_min2 rfl) (by rfl) u.n_min boot_min (pa_cons (pv 11) (pa_cons (pv 2) pa_nil))))
    (pss_n (ps_set (i := 13) sc_with_full.nd rfl (Or.inl rfl) (pe_op op_sub (pv 2) (pv 12)))
    (Evl.pss_cut (ps_set (i := 10) sc_with_full.nd rfl (Or.inl rfl) (pe_ifExp (pt_cmpR op_gt (pv 12) pe_int (nomark _)) pe_int (pv 10)))
    (pss_n (ps_set (i := 14) sc_with_full.nd rfl (Or.inl rfl) (pv 12))
    (Evl.pss_cut (ps_if (pt_cmpR op_gt (pv 5) pe_int (nomark _))
    (pss_n (ps_aug (i := 14) sc_with_full.nd rfl (Or.inl rfl) (pe_op op_fdiv (pe_op op_add (pv 10) (pv 13)) (pv 5)) ip_add)
    (pss_one (ps_set (i := 10) sc_with_full.nd rfl (Or.inl rfl) (pe_op op_mod (pe_op op_add (pv 10) (pv 13)) (pv 5)))))
    pss_nil)
    (Evl.pss_cut (ps_if (pt_cmpR op_eq (pv 4) pe_str (nomark _))
    (pss_n (ps_set (i := 8) sc_with_full.nd rfl (Or.inl rfl) pe_bl)
    (pss_one (ps_set (i := 9) sc_with_full.nd rfl (Or.inl rfl) (pe_and (pe_cmpR op_gt (pv 13) pe_int (nomark _)) (pe_one (pe_or (pe_cmpR op_eq (pv 5) pe_int (nomark _)) (pe_one (pe_cmpR op_gt (pv 10) pe_int (nomark _)))))))))
    pss_nil)
    (Evl.pss_cut (ps_if (pt_cmpR op_eq (pv 4) pe_str (nomark _))
    (pss_one (ps_set (i := 9) sc_with_full.nd rfl (Or.inl rfl) (pe_and (pv 9) (pe_one (pe_cmpR op_eq (pv 14) pe_int (nomark _))))))
    pss_nil)
    (pss_one (ps_ret (pe_tup (pa_cons (pe_tup (pa_cons (pv 6) (pa_cons (pv 7) (pa_cons (pv 8) (pa_cons (pv 9) (pa_cons (pv 10) (pa_cons (pe_op op_sub (pv 11) (pv 12)) pa_nil))))))) (pa_cons (pv 14) pa_nil))))))))))))))), ?_⟩
    walk_at "s"
    unfold Ru.vs at ha
    unfold Parts.vs at hb
    walk_at "w"
    refine itb (fun hq => ?_) (fun hq => ?_)
    · walk_at "w"
      refine ⟨le_sz le_r, fun x hx => ?_⟩
      have e : withFull r p n = (p, 0) := by
        have : n = 0 := by have := of_decide_eq_true hq; injection this
        rw [this]; exact withFull_zero r p
      refine k x b _ (Ex.new hx) ?_ ?_
      · rw [e]; exact upd_same
      · rw [e]; exact xn hx hb
    · have hn : ¬ n = 0 := fun z => of_decide_eq_false hq (by rw [z])
      walk_at "w"
      have esn : (if n < p.quick then n else p.quick) = min p.quick n := by omega
      rw [esn]
      generalize hsn : min p.quick n = sn
      refine ⟨fun σ' H' => H' = H ∧ σ' = wfS a b r p n sn p.blocked p.stuck (if sn > 0 then 0 else p.pending) none, ?_, ?_⟩
      · walk_at "w"
        refine itb (fun hc => ?_) (fun hc => ?_)
        · refine ⟨rfl, ?_⟩
          rw [if_pos (of_decide_eq_true hc)] <;> all_goals rfl
        · refine ⟨_, rfl, ?_⟩
          refine ⟨rfl, ?_⟩
          rw [if_neg (fun z => of_decide_eq_false hc z)] <;> all_goals rfl
      rintro σ' H' ⟨rfl, rfl⟩
      generalize hpd : (if sn > 0 then 0 else p.pending) = pd
      walk_at "w"
      refine ⟨fun σ' H'' => H'' = H' ∧ σ' = wfS a b r p n sn p.blocked p.stuck (if r.every > 0 then (pd + (n - sn)) % r.every else pd) (some (.int (if r.every > 0 then sn + (pd + (n - sn)) / r.every else sn))), ?_, ?_⟩
      · walk_at "w"
        refine itb (fun hc => ?_) (fun hc => ?_)
        · have hc' : r.every > 0 := of_decide_eq_true hc
          walk_at "w"
          refine ⟨⟨hc', by omega⟩, ?_⟩
          walk_at "w"
          refine ⟨hc', ?_⟩
          refine ⟨rfl, ?_⟩
          rw [if_pos hc', if_pos hc'] <;> all_goals rfl
        · have hc' : ¬ r.every > 0 := fun z => of_decide_eq_false hc z
          refine ⟨rfl, ?_⟩
          rw [if_neg hc', if_neg hc'] <;> all_goals rfl
      rintro σ' H'' ⟨rfl, rfl⟩
      generalize hpd2 : (if r.every > 0 then (pd + (n - sn)) % r.every else pd) = pd2
      generalize htl : (if r.every > 0 then sn + (pd + (n - sn)) / r.every else sn) = tl
      refine ⟨fun σ' H' => H' = H'' ∧ σ' = wfS a b r p n sn (if r.hold = .all then true else p.blocked) (if r.hold = .all then decide (n - sn > 0) && (decide (r.every = 0) || decide (pd2 > 0)) else p.stuck) pd2 (some (.int tl)), ?_, ?_⟩
      · walk_at "w"
        rw [hold_all]
        refine itb (fun hc => ?_) (fun hc => ?_)
        · have hc' : r.hold = .all := of_decide_eq_true hc
          walk_at "w"
          rw [if_pos hc', if_pos hc']
          refine itb (fun h1 => ?_) (fun h1 => ?_)
          · walk_at "w"
            have e1 : decide (V.int r.every = V.int 0) = decide (r.every = 0) := by simp
            rw [e1]
            refine itb (fun h2 => ?_) (fun h2 => ?_)
            · refine ⟨rfl, ?_⟩
              rw [h1, h2] <;> all_goals rfl
            · walk_at "w"
              rw [h1, h2] <;> all_goals rfl
          · refine ⟨rfl, ?_⟩
            rw [h1] <;> all_goals rfl
        · have hc' : ¬ r.hold = .all := fun z => of_decide_eq_false hc z
          refine ⟨rfl, ?_⟩
          rw [if_neg hc', if_neg hc'] <;> all_goals rfl
      rintro σ' H' ⟨rfl, rfl⟩
      generalize hbl : (if r.hold = .all then true else p.blocked) = bl
      generalize hst : (if r.hold = .all then decide (n - sn > 0) && (decide (r.every = 0) || decide (pd2 > 0)) else p.stuck) = st
      refine ⟨fun σ' H'' => H'' = H' ∧ σ' = wfS a b r p n sn bl (if r.hold = .part then st && decide (tl = 0) else st) pd2 (some (.int tl)), ?_, ?_⟩
      · walk_at "w"
        rw [hold_part]
        refine itb (fun hc => ?_) (fun hc => ?_)
        · have hc' : r.hold = .part := of_decide_eq_true hc
          rw [if_pos hc']
          walk_at "w"
          refine itb (fun h1 => ?_) (fun h1 => ?_)
          · walk_at "w"
            have e1 : decide (V.int tl = V.int 0) = decide (tl = 0) := by simp
            rw [e1, h1] <;> all_goals rfl
          · refine ⟨rfl, ?_⟩
            rw [h1] <;> all_goals rfl
        · have hc' : ¬ r.hold = .part := fun z => of_decide_eq_false hc z
          refine ⟨rfl, ?_⟩
          rw [if_neg hc'] <;> all_goals rfl
      rintro σ' H'' ⟨rfl, rfl⟩
      walk_at "w"
      refine ⟨le_sz le_r, fun y hy => ?_⟩
      walk_at "w"
      refine ⟨le_sz le_r, fun x hx => ?_⟩
      have e : withFull r p n = (⟨p.rest, p.kept, bl, if r.hold = .part then st && decide (tl = 0) else st, pd2, p.quick - sn⟩, tl) := by
        unfold withFull
        rw [if_neg hn]
        simp only [hsn, hpd, hpd2, htl, hbl, hst]
      refine k x y _ ((Ex.new hy).trans (Ex.new hx)) ?_ ?_
      · rw [e]; exact upd_same
      · rw [e]; exact xn hx upd_same
end
end Lw
namespace Lw
open PySem PySem.Spec PyProof.Rows L2
section
variable {P : Program} {w : World} {K : PySem.W.Frag} {mg : Str → Option Value} {base : Heap}
local macro_rules | `(tactic| walk_at "h") => `(tactic| first | assumption | exact upd_same | (refine xn (by assumption) ?_; walk_at "h") | (refine exapp (by assumption) ?_; walk_at "h"))
local macro_rules | `(tactic| walk_at "e") => `(tactic| first | exact Same.refl _ | assumption | (refine Same.trans ?_ (Ex.new (by assumption)); walk_at "e") | (refine Same.trans ?_ (by assumption); walk_at "e"))
local macro_rules | `(tactic| walk_at "w") => `(tactic| repeat (first | refine ⟨_, rfl, ?_⟩ | refine ⟨_, _, rfl, rfl, ?_⟩ | refine ⟨_, _, _, _, rfl, rfl, SqT.of (by walk_at "h"), (by rfl), ?_⟩ | (refine fun σ2 (hσ : σ2 = _) => ?_; (try simp only [List.set_cons_succ, List.set_cons_zero] at hσ); subst hσ) | refine ⟨_, _, rfl, SqT.of (by walk_at "h"), (by rfl), ?_⟩ | refine ⟨rfl, ?_⟩ | refine ⟨_, _, rfl, ?_⟩))
local macro_rules | `(tactic| walk_at "s") => `(tactic| (intro σ hσ; simp only [start_eq, List.map_cons, List.map_nil, List.length_cons, List.length_nil, List.cons_append, List.nil_append, Nat.reduceAdd, Nat.reduceSub, List.replicate_succ, List.replicate_zero] at hσ; subst hσ))

def spAfterWrite : Sp := fun vs H Q _ => ∃ (a b : Addr) (r : Ru) (p : Parts) (len : Int) (how : Mode), vs = [.ref a, .ref b, .int len, .str how.str] ∧ H a = some (.tup r.vs) ∧ H b = some (.tup p.vs) ∧ 0 < r.size ∧ r.size < 1073741824 ∧ 0 ≤ r.every ∧ r.every ≤ 9 ∧
  ∀ x y H', Ex H H' → H' x = some (.tup [.ref y, .int (afterWrite r p len how).2.1, .int (afterWrite r p len how).2.2]) → H' y = some (.tup (afterWrite r p len how).1.vs) → Q (.ref x) H'
theorem parts_eta (p : Parts) : p.vs = [.int p.rest, .bl p.kept, .bl p.blocked, .bl p.stuck, .int p.pending, .int p.quick] := rfl
theorem ok_after_write (u : U K mg) : Ok P w K mg base 2 (He.ga K "after_write") ["rules", "parts", "length", "mode"] spAfterWrite := by
  obtain ⟨fd_with_full, G_with_full, kp_with_full, b_with_full⟩ := (ok_with_full (P := P) (w := w) (base := base) u).ex
  obtain ⟨fd_with_partial, G_with_partial, kp_with_partial, b_with_partial⟩ := (ok_with_partial (P := P) (w := w) (base := base) u).ex
  obtain ⟨fd, F⟩ := u.d_after_write
  refine mkOk F sc_after_write (fun _ _ _ _ _ _ us hl => match us, hl with | [_, _, _, _], _ => rfl) (fun vs H Q E h => ?_) (fun cdv A outer s H vs Q E hr h => ?_)
  · obtain ⟨a, b, r, p, len, how, rfl, ha, hb, h0, h1, he0, he, k⟩ := h
    rfl
  · obtain ⟨a, b, r, p, len, how, rfl, ha, hb, h0, h1, he0, he, k⟩ := h
    have hu := hu_of hr
    refine ⟨_, (pss_n (ps_asg (pe_callB call_divmod (by rfl) u.n_divmod boot_divmod (pa_cons (pe_op op_add (pe_ix ix_tup (pv 1) pe_int (fun _ _ => rfl)) (pv 2)) (pa_cons (pe_ix ix_tup (pv 0) pe_int (fun _ _ => rfl)) pa_nil))) (pg_tup rfl (pgs_cons (pg_name (i := 4) sc_after_write.nd rfl (Or.inl rfl)) (pgs_cons (pg_name (i := 5) sc_after_write.nd rfl (Or.inl rfl)) pgs_nil))))
    (pss_n (ps_asg (pe_call G_with_full (hr.mono (by decide)) (by rfl) u.g_with_full kp_with_full b_with_full .nil pass0 (pa_cons (pv 0) (pa_cons (pe_op op_catT (pe_tup (pa_cons (pv 5) (pa_cons pe_bl pa_nil))) (pe_slice sl_tup (pv 1) (po_some pe_int) po_none)) (pa_cons (pv 4) pa_nil)))) (pg_tup rfl (pgs_cons (pg_name (i := 1) sc_after_write.nd rfl (Or.inl rfl)) (pgs_cons (pg_name (i := 6) sc_after_write.nd rfl (Or.inl rfl)) pgs_nil))))
    (pss_n (ps_if (PW.pt (pw_and (pt_cmpR op_gt (pv 5) pe_int (nomark _)) (pw_and1 (pt_cmpR op_eq (pv 3) pe_str (nomark _)))))
    (pss_one (ps_ret (pe_tup (pa_cons (pe_op op_catT (pe_tup (pa_cons (pv 5) (pa_cons pe_bl pa_nil))) (pe_slice sl_tup (pv 1) (po_some pe_int) po_none)) (pa_cons (pv 4) (pa_cons (pv 6) pa_nil))))))
    pss_nil)
    (pss_n (ps_if (PW.pt (pw_and (pt_cmpR op_gt (pv 5) pe_int (nomark _)) (pw_and1 (PW.pt (pw_or (pt_cmpR op_eq (pv 3) pe_str (nomark _)) (pw_or1 (pt_not (pt_val (pe_ix ix_tup (pv 1) pe_int (fun _ _ => rfl))))))))))
    (pss_n (ps_asg (pe_call G_with_partial (hr.mono (by decide)) (by rfl) u.g_with_partial kp_with_partial b_with_partial .nil pass0 (pa_cons (pv 0) (pa_cons (pv 1) pa_nil))) (pg_tup rfl (pgs_cons (pg_name (i := 1) sc_after_write.nd rfl (Or.inl rfl)) (pgs_cons (pg_name (i := 7) sc_after_write.nd rfl (Or.inl rfl)) pgs_nil))))
    (pss_one (ps_ret (pe_tup (pa_cons (pv 1) (pa_cons (pe_op op_add (pv 4) pe_int) (pa_cons (pe_op op_add (pv 6) (pv 7)) pa_nil)))))))
    pss_nil)
    (pss_one (ps_ret (pe_tup (pa_cons (pv 1) (pa_cons (pv 4) (pa_cons (pv 6) pa_nil)))))))))), ?_⟩
    walk_at "s"
    unfold Ru.vs at ha
    walk_at "w"
    refine ⟨⟨h0, h1⟩, fun d hd => ?_⟩
    walk_at "w"
    generalize hmany : (p.rest + len) / r.size = many
    generalize hrest : (p.rest + len) % r.size = rest
    -- (rest, False) + parts[2:]
    refine ⟨le_sz le_r, fun t ht => ?_⟩
    refine ⟨_, rfl, ?_⟩
    refine ⟨_, rfl, _, _, rfl, SqT.of (by walk_at "h"), (fun z => by cases z.1), fun q hq => ?_⟩
    refine ⟨_, _, _, _, rfl, rfl, SqT.of (by walk_at "h"), SqT.of (by walk_at "h"), (fun z => by cases z), le_sz le_r, fun z => (by cases z), fun _ c hc => ?_⟩
    walk_at "w"
    refine ⟨a, c, r, { p with rest := rest, kept := false }, many, rfl, (by walk_at "h"), (by walk_at "h"), he0, he, fun x y H' e hx hy => ?_⟩
    have eqf : ∀ res, res = afterWrite r p len how → res = (if rest > 0 ∧ how = .more then ({ (withFull r { p with rest := rest, kept := false } many).1 with rest := rest, kept := true }, many, (withFull r { p with rest := rest, kept := false } many).2)
        else if rest > 0 ∧ (how = .push ∨ (withFull r { p with rest := rest, kept := false } many).1.blocked = false) then
          ((withPartial r (withFull r { p with rest := rest, kept := false } many).1).1, many + 1, (withFull r { p with rest := rest, kept := false } many).2 + (withPartial r (withFull r { p with rest := rest, kept := false } many).1).2)
        else ((withFull r { p with rest := rest, kept := false } many).1, many, (withFull r { p with rest := rest, kept := false } many).2)) := by
      intro res h
      rw [h]
      unfold afterWrite
      simp only [hmany, hrest]
    generalize withFull r { p with rest := rest, kept := false } many = W at *
    obtain ⟨p2, told⟩ := W
    simp only at eqf hx hy
    generalize afterWrite r p len how = res at *
    have eres := eqf res rfl
    walk_at "w"
    refine itb (fun hr1 => ?_) (fun hr1 => ?_)
    · have hr1' : rest > 0 := of_decide_eq_true hr1
      walk_at "w"
      rw [mode_more]
      refine itb (fun hm => ?_) (fun hm => ?_)
      · have hm' : how = .more := of_decide_eq_true hm
        rw [if_pos ⟨hr1', hm'⟩] at eres
        walk_at "w"
        refine ⟨le_sz le_r, fun t2 ht2 => ?_⟩
        refine ⟨_, rfl, ?_⟩
        refine ⟨_, rfl, _, _, rfl, SqT.of (by walk_at "h"), (fun z => by cases z.1), fun q2 hq2 => ?_⟩
        refine ⟨_, _, _, _, rfl, rfl, SqT.of (by walk_at "h"), SqT.of (by walk_at "h"), (fun z => by cases z), le_sz le_r, fun z => (by cases z), fun _ c2 hc2 => ?_⟩
        walk_at "w"
        refine ⟨le_sz le_r, fun x2 hx2 => ?_⟩
        refine k x2 c2 _ (by walk_at "e") ?_ ?_
        · rw [eres]; walk_at "h"
        · rw [eres]; walk_at "h"
      · have hm' : ¬ how = .more := of_decide_eq_false hm
        walk_at "w"
        refine itb (fun _ => ?_) (fun z => by rw [hr1] at z; cases z)
        walk_at "w"
        rw [mode_push]
        -- how == push, or not parts[2]
        have fin : (how = .push ∨ p2.blocked = false) → tSeqN (tAsg (tCall spWithPartial [] E0 (tCons (tVar 0) (tCons (tVar 1) tNil))) (gTup K 2 (gCons (gName 1) (gCons (gName 7) gNil)))) (tRet (tTup (tCons (tVar 1) (tCons (tOp (rI0 fun i j => V.int (i + j)) (tVar 4) (tC (V.int 1))) (tCons (tOp (rI0 fun i j => V.int (i + j)) (tVar 6) (tVar 7)) tNil)))))
            { nx := fun σ' H' => ∀ (σ2 : L2.St), σ2 = σ' → tRet (tTup (tCons (tVar 1) (tCons (tVar 4) (tCons (tVar 6) tNil)))) { nx := fun _ H' => Q V.non H', rt := Q } σ2 H', rt := Q } [some (V.ref a), some (V.ref y), some (V.int len), some (V.str how.str), some (V.int many), some (V.int rest), some (V.int told), none] H' := by
          intro hb2
          rw [if_neg (fun z => hm' z.2), if_pos ⟨hr1', hb2⟩] at eres
          walk_at "w"
          refine ⟨a, y, r, p2, rfl, (by walk_at "h"), (by walk_at "h"), fun x3 y3 H3 e3 hx3 hy3 => ?_⟩
          walk_at "w"
          refine ⟨le_sz le_r, fun x2 hx2 => ?_⟩
          refine k x2 y3 _ (by walk_at "e") ?_ ?_
          · rw [eres]; walk_at "h"
          · rw [eres]; walk_at "h"
        refine itb (fun hp => ?_) (fun hp => ?_)
        · exact fin (Or.inl (of_decide_eq_true hp))
        · walk_at "w"
          refine itb (fun hp2 => ?_) (fun hp2 => ?_)
          · refine fin (Or.inr ?_)
            cases e : p2.blocked
            · rfl
            · rw [e] at hp2; cases hp2
          · rw [if_neg (fun z => hm' z.2), if_neg] at eres
            · walk_at "w"
              refine ⟨le_sz le_r, fun x2 hx2 => ?_⟩
              refine k x2 y _ (by walk_at "e") ?_ ?_
              · rw [eres]; walk_at "h"
              · rw [eres]; walk_at "h"
            · rintro ⟨_, z | z⟩
              · exact of_decide_eq_false hp z
              · rw [z] at hp2; cases hp2
    · have hr1' : ¬ rest > 0 := of_decide_eq_false hr1
      rw [if_neg (fun z => hr1' z.1), if_neg (fun z => hr1' z.1)] at eres
      walk_at "w"
      refine itb (fun z => by rw [hr1] at z; cases z) (fun _ => ?_)
      walk_at "w"
      refine ⟨le_sz le_r, fun x2 hx2 => ?_⟩
      refine k x2 y _ (by walk_at "e") ?_ ?_
      · rw [eres]; walk_at "h"
      · rw [eres]; walk_at "h"
end
end Lw
namespace Lw
open PySem PySem.Spec PyProof.Rows L2
section
variable {P : Program} {w : World} {K : PySem.W.Frag} {mg : Str → Option Value} {base : Heap}
local macro_rules | `(tactic| walk_at "h") => `(tactic| first | assumption | exact upd_same | (refine xn (by assumption) ?_; walk_at "h") | (refine exapp (by assumption) ?_; walk_at "h"))
local macro_rules | `(tactic| walk_at "e") => `(tactic| first | exact Same.refl _ | assumption | (refine Same.trans ?_ (Ex.new (by assumption)); walk_at "e") | (refine Same.trans ?_ (by assumption); walk_at "e"))
local macro_rules | `(tactic| walk_at "w") => `(tactic| repeat (first | refine ⟨_, rfl, ?_⟩ | refine ⟨_, _, rfl, rfl, ?_⟩ | refine ⟨_, _, _, _, rfl, rfl, SqT.of (by walk_at "h"), (by rfl), ?_⟩ | (refine fun σ2 (hσ : σ2 = _) => ?_; (try simp only [List.set_cons_succ, List.set_cons_zero] at hσ); subst hσ) | refine ⟨_, _, rfl, SqT.of (by walk_at "h"), (by rfl), ?_⟩ | refine ⟨rfl, ?_⟩ | refine ⟨_, _, rfl, ?_⟩))
local macro_rules | `(tactic| walk_at "s") => `(tactic| (intro σ hσ; simp only [start_eq, List.map_cons, List.map_nil, List.length_cons, List.length_nil, List.cons_append, List.nil_append, Nat.reduceAdd, Nat.reduceSub, List.replicate_succ, List.replicate_zero] at hσ; subst hσ))

def spAfterClearing : Sp := fun vs H Q _ => ∃ (a b : Addr) (r : Ru) (p : Parts), vs = [.ref a, .ref b] ∧ H a = some (.tup r.vs) ∧ H b = some (.tup p.vs) ∧
  ∀ x y H', Ex H H' → H' x = some (.tup [.ref y, .int (afterClearing r p).2.1, .int (afterClearing r p).2.2]) → H' y = some (.tup (afterClearing r p).1.vs) → Q (.ref x) H'
theorem ok_after_clearing (u : U K mg) : Ok P w K mg base 2 (He.ga K "after_clearing") ["rules", "parts"] spAfterClearing := by
  obtain ⟨fd_with_partial, G_with_partial, kp_with_partial, b_with_partial⟩ := (ok_with_partial (P := P) (w := w) (base := base) u).ex
  obtain ⟨fd, F⟩ := u.d_after_clearing
  refine mkOk F sc_after_clearing (fun _ _ _ _ _ _ us hl => match us, hl with | [_, _], _ => rfl) (fun vs H Q E h => ?_) (fun cdv A outer s H vs Q E hr h => ?_)
  · obtain ⟨a, b, r, p, rfl, ha, hb, k⟩ := h
    rfl
  · obtain ⟨a, b, r, p, rfl, ha, hb, k⟩ := h
    have hu := hu_of hr
    refine ⟨_, (pss_n (ps_if (PW.pt (pw_or (pt_not (pt_val (pe_ix ix_tup (pv 1) pe_int (fun _ _ => rfl)))) (pw_or1 (pt_val (pe_ix ix_tup (pv 1) pe_int (fun _ _ => rfl))))))
    (pss_one (ps_ret (pe_tup (pa_cons (pv 1) (pa_cons pe_int (pa_cons pe_int pa_nil))))))
    pss_nil)
    (pss_n (ps_set (i := 1) sc_after_clearing.nd rfl (Or.inl rfl) (pe_op op_catT (pe_op op_catT (pe_slice sl_tup (pv 1) po_none (po_some pe_int)) (pe_tup (pa_cons pe_bl (pa_cons pe_bl pa_nil)))) (pe_slice sl_tup (pv 1) (po_some pe_int) po_none)))
    (pss_n (ps_if (PW.pt (pw_or (pt_cmpR op_eq (pe_ix ix_tup (pv 1) pe_int (fun _ _ => rfl)) pe_int (nomark _)) (pw_or1 (pt_val (pe_ix ix_tup (pv 1) pe_int (fun _ _ => rfl))))))
    (pss_one (ps_ret (pe_tup (pa_cons (pv 1) (pa_cons pe_int (pa_cons pe_int pa_nil))))))
    pss_nil)
    (pss_n (ps_asg (pe_call G_with_partial (hr.mono (by decide)) (by rfl) u.g_with_partial kp_with_partial b_with_partial .nil pass0 (pa_cons (pv 0) (pa_cons (pv 1) pa_nil))) (pg_tup rfl (pgs_cons (pg_name (i := 1) sc_after_clearing.nd rfl (Or.inl rfl)) (pgs_cons (pg_name (i := 2) sc_after_clearing.nd rfl (Or.inl rfl)) pgs_nil))))
    (pss_one (ps_ret (pe_tup (pa_cons (pv 1) (pa_cons pe_int (pa_cons (pv 2) pa_nil)))))))))), ?_⟩
    walk_at "s"
    have eqf : ∀ res, res = afterClearing r p → res = (if p.blocked = false ∨ p.stuck = true then (p, 0, 0) else if p.rest = 0 ∨ p.kept = true then ({ p with blocked := false, stuck := false }, 0, 0) else
      ((withPartial r { p with blocked := false, stuck := false }).1, 1, (withPartial r { p with blocked := false, stuck := false }).2)) := by
      intro res h
      rw [h]
      unfold afterClearing
      split
      · rfl
      · rfl
    generalize afterClearing r p = res at *
    have eres := eqf res rfl
    have same : (p.blocked = false ∨ p.stuck = true) → tRet (tTup (tCons (tVar 1) (tCons (tC (V.int 0)) (tCons (tC (V.int 0)) tNil)))) { nx := fun σ' H' => Q .non H', rt := Q } [some (V.ref a), some (V.ref b), none] H := by
      intro hc
      rw [if_pos hc] at eres
      walk_at "w"
      refine ⟨le_sz le_r, fun x hx => ?_⟩
      refine k x b _ (by walk_at "e") ?_ ?_
      · rw [eres]; walk_at "h"
      · rw [eres]; walk_at "h"
    walk_at "w"
    refine itb (fun h1 => ?_) (fun h1 => ?_)
    · exact same (Or.inl (by cases e : p.blocked; rfl; rw [e] at h1; cases h1))
    · walk_at "w"
      refine itb (fun h2 => ?_) (fun h2 => ?_)
      · exact same (Or.inr h2)
      · rw [if_neg (fun z => by rcases z with z | z; rw [z] at h1; cases h1; rw [h2] at z; cases z)] at eres
        walk_at "w"
        refine ⟨_, _, rfl, SqT.of (by walk_at "h"), (fun z => by cases z.2), fun q hq => ?_⟩
        walk_at "w"
        refine ⟨le_sz le_r, fun t ht => ?_⟩
        refine ⟨_, _, _, _, rfl, rfl, SqT.of (by walk_at "h"), SqT.of (by walk_at "h"), (fun z => by cases z), le_sz le_r, fun z => (by cases z), fun _ c hc => ?_⟩
        refine ⟨_, rfl, ?_⟩
        refine ⟨_, rfl, _, _, rfl, SqT.of (by walk_at "h"), (fun z => by cases z.1), fun q2 hq2 => ?_⟩
        refine ⟨_, _, _, _, rfl, rfl, SqT.of (by walk_at "h"), SqT.of (by walk_at "h"), (fun z => by cases z), le_sz le_r, fun z => (by cases z), fun _ c2 hc2 => ?_⟩
        have hP : upd (upd (upd (upd (upd H q (HO.tup (cutV p.vs none (some 2)))) t (HO.tup [V.bl false, V.bl false])) c (HO.tup (cutV p.vs none (some 2) ++ [V.bl false, V.bl false]))) q2 (HO.tup (cutV p.vs (some 4) none))) c2 (HO.tup (cutV p.vs none (some 2) ++ [V.bl false, V.bl false] ++ cutV p.vs (some 4) none)) c2 = some (.tup ({ p with blocked := false, stuck := false } : Parts).vs) := upd_same
        have hE : Ex H (upd (upd (upd (upd (upd H q (HO.tup (cutV p.vs none (some 2)))) t (HO.tup [V.bl false, V.bl false])) c (HO.tup (cutV p.vs none (some 2) ++ [V.bl false, V.bl false]))) q2 (HO.tup (cutV p.vs (some 4) none))) c2 (HO.tup (cutV p.vs none (some 2) ++ [V.bl false, V.bl false] ++ cutV p.vs (some 4) none))) := by walk_at "e"
        generalize upd (upd (upd (upd (upd H q (HO.tup (cutV p.vs none (some 2)))) t (HO.tup [V.bl false, V.bl false])) c (HO.tup (cutV p.vs none (some 2) ++ [V.bl false, V.bl false]))) q2 (HO.tup (cutV p.vs (some 4) none))) c2 (HO.tup (cutV p.vs none (some 2) ++ [V.bl false, V.bl false] ++ cutV p.vs (some 4) none)) = H1 at *
        have again : (p.rest = 0 ∨ p.kept = true) → tRet (tTup (tCons (tVar 1) (tCons (tC (V.int 0)) (tCons (tC (V.int 0)) tNil)))) { nx := fun σ' H' => Q .non H', rt := Q } [some (V.ref a), some (V.ref c2), none] H1 := by
          intro hc
          rw [if_pos hc] at eres
          walk_at "w"
          refine ⟨le_sz le_r, fun x hx => ?_⟩
          refine k x c2 _ (by walk_at "e") ?_ ?_
          · rw [eres]; walk_at "h"
          · rw [eres]; walk_at "h"
        walk_at "w"
        refine itb (fun h3 => ?_) (fun h3 => ?_)
        · refine again (Or.inl ?_)
          have := of_decide_eq_true h3
          injection this
        · walk_at "w"
          refine itb (fun h4 => ?_) (fun h4 => ?_)
          · exact again (Or.inr h4)
          · rw [if_neg (fun z => by rcases z with z | z; exact of_decide_eq_false h3 (by rw [z]); rw [h4] at z; cases z)] at eres
            walk_at "w"
            refine ⟨a, c2, r, _, rfl, (by walk_at "h"), hP, fun x3 y3 H3 e3 hx3 hy3 => ?_⟩
            walk_at "w"
            refine ⟨le_sz le_r, fun x hx => ?_⟩
            refine k x y3 _ (by walk_at "e") ?_ ?_
            · rw [eres]; walk_at "h"
            · rw [eres]; walk_at "h"

def spAfterTurn : Sp := fun vs H Q _ => ∃ (a b : Addr) (r : Ru) (p : Parts), vs = [.ref a, .ref b] ∧ H a = some (.tup r.vs) ∧ H b = some (.tup p.vs) ∧
  ∀ x H', Ex H H' → H' x = some (.tup [.int (afterTurn r p).1, .int (afterTurn r p).2.1, .int (afterTurn r p).2.2.1, .int (afterTurn r p).2.2.2]) → Q (.ref x) H'
/-- clearings counted -/
def cl2 (r : Ru) (p : Parts) : Nat → Parts × Int × Int
  | 0 => (p, 0, 0)
  | n + 1 => ((afterClearing r (cl2 r p n).1).1, (cl2 r p n).2.1 + (afterClearing r (cl2 r p n).1).2.1, (cl2 r p n).2.2 + (afterClearing r (cl2 r p n).1).2.2)
theorem ok_after_turn (u : U K mg) : Ok P w K mg base 3 (He.ga K "after_turn") ["rules", "parts"] spAfterTurn := by
  obtain ⟨fd_after_clearing, G_after_clearing, kp_after_clearing, b_after_clearing⟩ := (ok_after_clearing (P := P) (w := w) (base := base) u).ex
  obtain ⟨fd_with_partial, G_with_partial, kp_with_partial, b_with_partial⟩ := (ok_with_partial (P := P) (w := w) (base := base) u).ex
  obtain ⟨fd, F⟩ := u.d_after_turn
  refine mkOk F sc_after_turn (fun _ _ _ _ _ _ us hl => match us, hl with | [_, _], _ => rfl) (fun vs H Q E h => ?_) (fun cdv A outer s H vs Q E hr h => ?_)
  · obtain ⟨a, b, r, p, rfl, ha, hb, k⟩ := h
    rfl
  · obtain ⟨a, b, r, p, rfl, ha, hb, k⟩ := h
    have hu := hu_of hr
    refine ⟨_, (pss_n (ps_asg2 pe_int (pg_name (i := 2) sc_after_turn.nd rfl (Or.inl rfl)) (pg_name (i := 3) sc_after_turn.nd rfl (Or.inl rfl)))
    (pss_n (ps_for PassesOwn.never rfl (pi_range1 (by rfl) u.n_range (pa_cons pe_int pa_nil)) (pg_name (i := 4) sc_after_turn.nd rfl (Or.inl rfl))
    (pss_n (ps_asg (pe_call G_after_clearing (hr.mono (by decide)) (by rfl) u.g_after_clearing kp_after_clearing b_after_clearing .nil pass0 (pa_cons (pv 0) (pa_cons (pv 1) pa_nil))) (pg_tup rfl (pgs_cons (pg_name (i := 1) sc_after_turn.nd rfl (Or.inl rfl)) (pgs_cons (pg_name (i := 5) sc_after_turn.nd rfl (Or.inl rfl)) (pgs_cons (pg_name (i := 6) sc_after_turn.nd rfl (Or.inl rfl)) pgs_nil)))))
    (pss_n (ps_aug (i := 2) sc_after_turn.nd rfl (Or.inl rfl) (pv 5) ip_add)
    (pss_one (ps_aug (i := 3) sc_after_turn.nd rfl (Or.inl rfl) (pv 6) ip_add)))))
    (pss_n (ps_if (pt_cmpR op_eq (pe_ix ix_tup (pv 1) pe_int (fun _ _ => rfl)) pe_int (nomark _))
    (pss_one (ps_ret (pe_tup (pa_cons pe_int (pa_cons (pe_ix ix_tup (pv 1) pe_int (fun _ _ => rfl)) (pa_cons (pv 2) (pa_cons (pv 3) pa_nil)))))))
    pss_nil)
    (pss_n (ps_set (i := 7) sc_after_turn.nd rfl (Or.inl rfl) (pe_ifExp (pt_val (pe_ix ix_tup (pv 1) pe_int (fun _ _ => rfl))) pe_int pe_int))
    (pss_n (ps_asg (pe_call G_with_partial (hr.mono (by decide)) (by rfl) u.g_with_partial kp_with_partial b_with_partial .nil pass0 (pa_cons (pv 0) (pa_cons (pv 1) pa_nil))) (pg_tup rfl (pgs_cons (pg_name (i := 1) sc_after_turn.nd rfl (Or.inl rfl)) (pgs_cons (pg_name (i := 6) sc_after_turn.nd rfl (Or.inl rfl)) pgs_nil))))
    (pss_one (ps_ret (pe_tup (pa_cons pe_int (pa_cons (pe_ix ix_tup (pv 1) pe_int (fun _ _ => rfl)) (pa_cons (pe_op op_add (pv 2) pe_int) (pa_cons (pe_op op_add (pe_op op_add (pv 3) (pv 6)) (pv 7)) pa_nil)))))))))))), ?_⟩
    walk_at "s"
    walk_at "w"
    refine ⟨(by decide), (by decide), for_range (lo := 0) (n := 2) (fun i σ' H' => ∃ (c : Addr) (v1 v2 v3 : Option V), σ' = [some (.ref a), some (.ref c), some (.int (cl2 r p i).2.1), some (.int (cl2 r p i).2.2), v1, v2, v3, none] ∧ Ex H H' ∧ H' c = some (.tup (cl2 r p i).1.vs)) ?_ ?_ ?_⟩
    · exact ⟨b, none, none, none, rfl, Same.refl _, hb⟩
    · rintro i σ' H' hi ⟨c, v1, v2, v3, rfl, e1, hc⟩
      walk_at "w"
      refine ⟨a, c, r, _, rfl, (by walk_at "h"), hc, fun x y H2 e2 hx hy => ?_⟩
      walk_at "w"
      exact ⟨y, _, _, _, rfl, (by walk_at "e"), hy⟩
    · rintro σ' H' ⟨c, v1, v2, v3, rfl, e1, hc⟩
      have ecl : cl2 r p 2 = ((afterClearing r (afterClearing r p).1).1, (afterClearing r p).2.1 + (afterClearing r (afterClearing r p).1).2.1, (afterClearing r p).2.2 + (afterClearing r (afterClearing r p).1).2.2) := by
        show (_, 0 + _ + _, 0 + _ + _) = _
        rw [Int.zero_add, Int.zero_add]
        rfl
      have eat : afterTurn r p = if (cl2 r p 2).1.rest = 0 then (0, (cl2 r p 2).1.quick, (cl2 r p 2).2.1, (cl2 r p 2).2.2) else (1, (withPartial r (cl2 r p 2).1).1.quick, (cl2 r p 2).2.1 + 1, (cl2 r p 2).2.2 + (withPartial r (cl2 r p 2).1).2 + if (cl2 r p 2).1.kept = true then 0 else 1) := by
        rw [ecl]; rfl
      generalize cl2 r p 2 = C at *
      walk_at "w"
      refine itb (fun h1 => ?_) (fun h1 => ?_)
      · have h1' : C.1.rest = 0 := by have := of_decide_eq_true h1; injection this
        rw [if_pos h1'] at eat
        walk_at "w"
        refine ⟨le_sz le_r, fun x hx => ?_⟩
        refine k x _ (by walk_at "e") ?_
        rw [eat]; walk_at "h"
      · rw [if_neg (fun z => of_decide_eq_false h1 (by rw [z]))] at eat
        walk_at "w"
        have fin : ∀ tm : Int, tm = (if C.1.kept = true then 0 else 1) → tSeqN (tAsg (tCall spWithPartial [] E0 (tCons (tVar 0) (tCons (tVar 1) tNil))) (gTup K 2 (gCons (gName 1) (gCons (gName 6) gNil)))) (tRet (tTup (tCons (tC (V.int 1)) (tCons (tOp (rIxT K) (tVar 1) (tC (V.int 5))) (tCons (tOp (rI0 fun i j => V.int (i + j)) (tVar 2) (tC (V.int 1))) (tCons (tOp (rI0 fun i j => V.int (i + j)) (tOp (rI0 fun i j => V.int (i + j)) (tVar 3) (tVar 6)) (tVar 7)) tNil))))))
            { nx := fun _ H' => Q V.non H', rt := Q } [some (V.ref a), some (V.ref c), some (V.int C.2.1), some (V.int C.2.2), v1, v2, v3, some (.int tm)] H' := by
          intro tm htm
          walk_at "w"
          refine ⟨a, c, r, C.1, rfl, (by walk_at "h"), (by walk_at "h"), fun x3 y3 H3 e3 hx3 hy3 => ?_⟩
          walk_at "w"
          refine ⟨le_sz le_r, fun x hx => ?_⟩
          refine k x _ (by walk_at "e") ?_
          rw [eat, ← htm]; walk_at "h"
        refine itb (fun h2 => ?_) (fun h2 => ?_)
        · exact fun σ2 hσ => by subst hσ; exact fin 0 (by rw [if_pos h2])
        · exact fun σ2 hσ => by subst hσ; exact fin 1 (by rw [h2]; rfl)

/-- (size, hold, every) as they are for a speaker -/
def spRulesOf (K : PySem.W.Frag) : Sp := fun vs H Q _ => ∃ (a : Addr) (c : Cfg) (b : Bool), vs = [.ref a, .int (wI b)] ∧ IsSet K c H a ∧ ∀ x H', Ex H H' → H' x = some (.tup (ru c b).vs) → Q (.ref x) H'
theorem ok_rules_of (u : U K mg) : Ok P w K mg base 1 (He.ga K "rules_of") ["setting", "speaker"] (spRulesOf K) := by
  obtain ⟨fd, F⟩ := u.d_rules_of
  refine mkOk F sc_rules_of (fun _ _ _ _ _ _ us hl => match us, hl with | [_, _], _ => rfl) (fun vs H Q E h => ?_) (fun cdv A outer s H vs Q E hr h => ?_)
  · obtain ⟨a, c, b, rfl, hs, k⟩ := h
    rfl
  · obtain ⟨a, c, b, rfl, hs, k⟩ := h
    have hu := hu_of hr
    refine ⟨_, (pss_one (ps_ret (pe_tup (pa_cons (pe_fld (pv 0) rfl) (pa_cons (pe_fld (pe_ix ix_tup (pe_fld (pv 0) rfl) (pv 1) (fun _ _ => rfl)) rfl) (pa_cons (pe_fld (pe_ix ix_tup (pe_fld (pv 0) rfl) (pe_op op_sub pe_int (pv 1)) (fun _ _ => rfl)) rfl) pa_nil)))))), ?_⟩
    walk_at "s"
    obtain ⟨dx, pt, ps, ds, S⟩ := hs
    have n1 := wI_not b
    refine ⟨_, rfl, _, _, _, _, _, rfl, S.ob, u.c_Setting, u.a_Setting_size, stf_size _ _, ?_⟩
    refine ⟨_, rfl, _, _, _, _, _, rfl, S.ob, u.c_Setting, u.a_Setting_policies, stf_policies _ _, ?_⟩
    refine ⟨_, rfl, _, _, _, _, rfl, rfl, SqT.of S.tu, S.at_ b, ?_⟩
    refine ⟨_, _, _, _, _, rfl, S.pol b, u.c_Policy, u.a_Policy_hold, pf_hold _, ?_⟩
    refine ⟨_, rfl, _, _, _, _, _, rfl, S.ob, u.c_Setting, u.a_Setting_policies, stf_policies _ _, ?_⟩
    refine ⟨_, rfl, _, _, rfl, rfl, _, _, _, _, rfl, rfl, SqT.of S.tu, (by rw [n1]; exact S.at_ (!b)), ?_⟩
    refine ⟨_, _, _, _, _, rfl, S.pol (!b), u.c_Policy, u.a_Policy_every, pf_every _, ?_⟩
    refine ⟨le_sz le_r, fun x hx => ?_⟩
    exact k x _ (by walk_at "e") upd_same

def spFirstQuick (K : PySem.W.Frag) : Sp := fun vs H Q _ => ∃ (a : Addr) (c : Cfg), vs = [.ref a] ∧ IsSet K c H a ∧ ∀ x H', Ex H H' → H' x = some (.tup (qvs fun b => (c.rule b).quick)) → Q (.ref x) H'
theorem ok_first_quick (u : U K mg) : Ok P w K mg base 1 (He.ga K "first_quick") ["setting"] (spFirstQuick K) := by
  obtain ⟨fd, F⟩ := u.d_first_quick
  refine mkOk F sc_first_quick (fun _ _ _ _ _ _ us hl => match us, hl with | [_], _ => rfl) (fun vs H Q E h => ?_) (fun cdv A outer s H vs Q E hr h => ?_)
  · obtain ⟨a, c, rfl, hs, k⟩ := h
    rfl
  · obtain ⟨a, c, rfl, hs, k⟩ := h
    have hu := hu_of hr
    refine ⟨_, (pss_one (ps_ret (pe_callTy call_tuple_of (by rfl) u.n_tuple PyProof.Rows.boot_tuple (pa_cons (pe_lc (own := [("policy", 1)]) (g := (gName 1)) (tt := tYes) (te := (tFld K (tVar 1) "quick")) rfl sc_first_quick.nd (pi_tup (pe_fld (pv 0) rfl)) (blkOk_by (N := n_first_quick) (sc := defScope s_first_quick) (by decide +kernel)) (fun _ _ _ _ _ => (pg_name (i := 1) sc_first_quick.nd rfl (Or.inl rfl))) (fun _ _ _ _ _ => pts_nil) (fun _ _ _ _ _ => (pe_fld (pv 1) rfl))) pa_nil)))), ?_⟩
    walk_at "s"
    obtain ⟨dx, pt, ps, ds, S⟩ := hs
    refine ⟨_, rfl, _, _, _, _, _, rfl, S.ob, u.c_Setting, u.a_Setting_policies, stf_policies _ _, ?_⟩
    refine ⟨_, rfl, ⟨_, SqT.of S.tu⟩, fun D hD => lc_tup (K := K) (a := pt) (xs := [false, true].map fun b => V.ref (ps b)) (fun i H' => Ex H H' ∧ H' D = some (.lst (([false, true].map fun b => V.int (c.rule b).quick).take i))) ?_ ?_ ?_ ?_⟩
    · exact ⟨Ex.new hD, upd_same⟩
    · rintro i H' _ ⟨k1, _⟩
      exact SqT.of (k1 _ _ S.tu)
    · rintro i x H' hi ⟨k1, hl⟩
      obtain ⟨b, hb, rfl⟩ := map_get hi
      refine ⟨rfl, ?_⟩
      refine ⟨_, rfl, _, _, _, _, _, rfl, k1 _ _ (S.pol b), u.c_Policy, u.a_Policy_quick, pf_quick _, ?_⟩
      refine ⟨_, hl, take_lt lt_r, exmut k1 hD, ?_⟩
      rw [take_map hb fun b => V.int (c.rule b).quick]; exact upd_same
    · rintro H' ⟨k1, hl⟩
      refine ⟨_, _, rfl, Or.inl ⟨SqL.of hl, fun t ht => ?_⟩⟩
      exact k t _ (by walk_at "e") upd_same
end
end Lw
namespace Lw
open PySem PySem.Spec PyProof.Rows L2
section
variable {P : Program} {w : World} {K : PySem.W.Frag} {mg : Str → Option Value} {base : Heap}
local macro_rules | `(tactic| walk_at "h") => `(tactic| first | assumption | exact upd_same | (refine xn (by assumption) ?_; walk_at "h") | (refine exapp (by assumption) ?_; walk_at "h"))
local macro_rules | `(tactic| walk_at "e") => `(tactic| first | exact Same.refl _ | assumption | (refine Same.trans ?_ (Ex.new (by assumption)); walk_at "e") | (refine Same.trans ?_ (by assumption); walk_at "e"))
local macro_rules | `(tactic| walk_at "w") => `(tactic| repeat (first | refine ⟨_, rfl, ?_⟩ | refine ⟨_, _, rfl, rfl, ?_⟩ | refine ⟨_, _, _, _, rfl, rfl, SqT.of (by walk_at "h"), (by rfl), ?_⟩ | (refine fun σ2 (hσ : σ2 = _) => ?_; (try simp only [List.set_cons_succ, List.set_cons_zero] at hσ); subst hσ) | refine ⟨_, _, rfl, SqT.of (by walk_at "h"), (by rfl), ?_⟩ | refine ⟨rfl, ?_⟩ | refine ⟨_, _, rfl, ?_⟩))
local macro_rules | `(tactic| walk_at "s") => `(tactic| (intro σ hσ; simp only [start_eq, List.map_cons, List.map_nil, List.length_cons, List.length_nil, List.cons_append, List.nil_append, Nat.reduceAdd, Nat.reduceSub, List.replicate_succ, List.replicate_zero] at hσ; subst hσ))

def spIsInteger : Sp := fun vs H Q _ => ∃ i : Int, vs = [.int i] ∧ Q (.bl true) H
theorem ok_is_integer (u : U K mg) : Ok P w K mg base 1 (He.ga K "is_integer") ["value"] spIsInteger := by
  obtain ⟨fd, F⟩ := u.d_is_integer
  refine mkOk F sc_is_integer (fun _ _ _ _ _ _ us hl => match us, hl with | [_], _ => rfl) (fun vs H Q E h => ?_) (fun cdv A outer s H vs Q E hr h => ?_)
  · obtain ⟨i, rfl, k⟩ := h
    rfl
  · obtain ⟨i, rfl, k⟩ := h
    have hu := hu_of hr
    refine ⟨_, (pss_one (ps_ret (pe_and (pe_callB call_isi (by rfl) u.n_isinstance boot_isinstance (pa_cons (pv 0) (pa_cons (pe_bltn (by rfl) u.n_int PyProof.Rows.boot_int (show L2.RelV (.ty "int") _ from rfl)) pa_nil))) (pe_one (pe_not (pe_callB call_isi (by rfl) u.n_isinstance boot_isinstance (pa_cons (pv 0) (pa_cons (pe_bltn (by rfl) u.n_bool PyProof.Rows.boot_bool (show L2.RelV (.ty "bool") _ from rfl)) pa_nil)))))))), ?_⟩
    walk_at "s"
    refine ⟨_, rfl, _, _, _, _, true, rfl, .ty "int", .base (.int i), kit_ty (by decide +kernel), true, rfl, ?_⟩
    refine ⟨_, rfl, _, _, _, _, false, rfl, .ty "bool", .base (.int i), kit_ty (by decide +kernel), false, rfl, ?_⟩
    exact k

def spInRange : Sp := fun vs H Q _ => ∃ i l m : Int, vs = [.int i, .int l, .int m] ∧ Q (.bl (decide (l ≤ i) && decide (i ≤ m))) H
theorem ok_in_range (u : U K mg) : Ok P w K mg base 2 (He.ga K "in_range") ["value", "least", "most"] spInRange := by
  obtain ⟨fd_is_integer, G_is_integer, kp_is_integer, b_is_integer⟩ := (ok_is_integer (P := P) (w := w) (base := base) u).ex
  obtain ⟨fd, F⟩ := u.d_in_range
  refine mkOk F sc_in_range (fun _ _ _ _ _ _ us hl => match us, hl with | [_, _, _], _ => rfl) (fun vs H Q E h => ?_) (fun cdv A outer s H vs Q E hr h => ?_)
  · obtain ⟨i, l, m, rfl, k⟩ := h
    rfl
  · obtain ⟨i, l, m, rfl, k⟩ := h
    have hu := hu_of hr
    refine ⟨_, (pss_one (ps_ret (pe_and (pe_call G_is_integer (hr.mono (by decide)) (by rfl) u.g_is_integer kp_is_integer b_is_integer .nil pass0 (pa_cons (pv 0) pa_nil)) (pe_one (pe_chain op_le op_le (pv 1) (pv 0) (pv 2)))))), ?_⟩
    walk_at "s"
    refine ⟨_, rfl, i, rfl, true, rfl, ?_⟩
    walk_at "w"
    refine itb (fun hc => ?_) (fun hc => ?_)
    · walk_at "w"
      rw [hc] at k
      exact k
    · rw [hc] at k
      exact k

def spIsWrite : Sp := fun vs H Q _ => ∃ (a : Addr) (x : Word), vs = [.ref a] ∧ H a = some (.tup x.vs) ∧ 1 ≤ x.len ∧ x.len ≤ 10 ^ 18 ∧ ∀ H', Ex H H' → Q (.bl true) H'
theorem modes_in (m : Mode) : inV (.str m.str) [.str "plain", .str "push", .str "more"] = true := by
  cases m <;> decide +kernel
theorem ok_is_write (u : U K mg) : Ok P w K mg base 3 (He.ga K "is_write") ["value"] spIsWrite := by
  obtain ⟨fd_in_range, G_in_range, kp_in_range, b_in_range⟩ := (ok_in_range (P := P) (w := w) (base := base) u).ex
  obtain ⟨fd, F⟩ := u.d_is_write
  refine mkOk F sc_is_write (fun _ _ _ _ _ _ us hl => match us, hl with | [_], _ => rfl) (fun vs H Q E h => ?_) (fun cdv A outer s H vs Q E hr h => ?_)
  · obtain ⟨a, x, rfl, ha, h1, h2, k⟩ := h
    rfl
  · obtain ⟨a, x, rfl, ha, h1, h2, k⟩ := h
    have hu := hu_of hr
    refine ⟨_, (pss_n (ps_if (PW.pt (pw_or (pt_not (pt_val (pe_callB call_isi (by rfl) u.n_isinstance boot_isinstance (pa_cons (pv 0) (pa_cons (pe_bltn (by rfl) u.n_tuple PyProof.Rows.boot_tuple (show L2.RelV (.ty "tuple") _ from rfl)) pa_nil))))) (pw_or1 (pt_cmpR op_ne (pe_callB call_len_seq (by rfl) u.n_len PySem.boot_len (pa_cons (pv 0) pa_nil)) pe_int (nomark _)))))
    (pss_one (ps_ret pe_bl))
    pss_nil)
    (pss_n (ps_asg (pv 0) (pg_tup rfl (pgs_cons (pg_name (i := 1) sc_is_write.nd rfl (Or.inl rfl)) (pgs_cons (pg_name (i := 2) sc_is_write.nd rfl (Or.inl rfl)) (pgs_cons (pg_name (i := 3) sc_is_write.nd rfl (Or.inl rfl)) pgs_nil)))))
    (pss_n (ps_if (PW.pt (pw_or (pt_not (pt_val (pe_call G_in_range (hr.mono (by decide)) (by rfl) u.g_in_range kp_in_range b_in_range .nil pass0 (pa_cons (pv 1) (pa_cons pe_int (pa_cons pe_int pa_nil)))))) (pw_or1 (pt_not (pt_val (pe_call G_in_range (hr.mono (by decide)) (by rfl) u.g_in_range kp_in_range b_in_range .nil pass0 (pa_cons (pv 2) (pa_cons pe_int (pa_cons (pe_glob rfl u.k_MOST_LENGTH.choose_spec (show L2.RelV (.int 1000000000000000000) _ from ⟨_, rfl⟩)) pa_nil)))))))))
    (pss_one (ps_ret pe_bl))
    pss_nil)
    (pss_one (ps_ret (pe_and (pe_callB call_isi (by rfl) u.n_isinstance boot_isinstance (pa_cons (pv 3) (pa_cons (pe_bltn (by rfl) u.n_str PyProof.Rows.boot_str (show L2.RelV (.ty "str") _ from rfl)) pa_nil))) (pe_one (pe_cmpR op_in_seq (pv 3) (pe_glob rfl u.g_MODES (show L2.RelV (.ref _) _ from rfl)) (by with_unfolding_all rfl))))))))), ?_⟩
    walk_at "s"
    have hm : SqT K H (He.ga K "MODES") [.str "plain", .str "push", .str "more"] := He.tupB_ok (He.ba (He.ba u.b).1).1 H
    unfold Word.vs at ha
    refine ⟨_, rfl, _, _, _, _, true, rfl, .ty "tuple", .base (.tup ha), kit_ty (by decide +kernel), true, rfl, ?_⟩
    walk_at "w"
    refine ⟨_, _, rfl, Or.inr (SqT.of ha), ?_⟩
    walk_at "w"
    have e1 : (decide (0 ≤ wI x.who) && decide (wI x.who ≤ 1)) = true := by cases x.who <;> rfl
    have e2 : (decide (1 ≤ x.len) && decide (x.len ≤ 1000000000000000000)) = true := by
      rw [decide_eq_true h1, decide_eq_true (show x.len ≤ 1000000000000000000 from h2)]; rfl
    refine ⟨wI x.who, 0, 1, rfl, ?_⟩
    rw [e1]
    refine ⟨_, rfl, ?_⟩
    refine ⟨_, rfl, x.len, 1, 1000000000000000000, rfl, ?_⟩
    rw [e2]
    refine ⟨_, rfl, ?_⟩
    walk_at "w"
    refine ⟨_, _, _, _, true, rfl, .ty "str", .base (.str x.how.str), kit_ty (by decide +kernel), true, rfl, ?_⟩
    walk_at "w"
    refine ⟨_, _, rfl, Or.inr hm, rfl, rfl, ?_⟩
    rw [modes_in]
    exact k H (Same.refl _)

def spCheck : Sp := fun vs H Q _ => ∃ (a : Addr) (ws : List Word), vs = [.ref a] ∧ LstT H a (ws.map Word.vs) ∧ ws.length ≤ 200 ∧ (∀ w ∈ ws, 1 ≤ w.len ∧ w.len ≤ 10 ^ 18) ∧ ∀ v H', Ex H H' → Q v H'
theorem ok_check (u : U K mg) : Ok P w K mg base 4 (He.ga K "check") ["conversation"] spCheck := by
  obtain ⟨fd_is_write, G_is_write, kp_is_write, b_is_write⟩ := (ok_is_write (P := P) (w := w) (base := base) u).ex
  obtain ⟨fd, F⟩ := u.d_check
  refine mkOk F sc_check (fun _ _ _ _ _ _ us hl => match us, hl with | [_], _ => rfl) (fun vs H Q E h => ?_) (fun cdv A outer s H vs Q E hr h => ?_)
  · obtain ⟨a, ws, rfl, ha, h1, h2, k⟩ := h
    rfl
  · obtain ⟨a, ws, rfl, ha, h1, h2, k⟩ := h
    have hu := hu_of hr
    refine ⟨_, (pss_n (ps_if (PW.pt (pw_or (pt_not (pt_val (pe_callB call_isi (by rfl) u.n_isinstance boot_isinstance (pa_cons (pv 0) (pa_cons (pe_bltn (by rfl) u.n_list PyProof.Rows.boot_list (show L2.RelV (.ty "list") _ from rfl)) pa_nil))))) (pw_or1 (pt_cmpR op_gt (pe_callB call_len_seq (by rfl) u.n_len PySem.boot_len (pa_cons (pv 0) pa_nil)) (pe_glob rfl u.k_MOST_WRITES.choose_spec (show L2.RelV (.int 200) _ from ⟨_, rfl⟩)) (nomark _)))))
    (pss_one ps_never)
    pss_nil)
    (pss_one (ps_for PassesOwn.never rfl (pi_enum (by rfl) u.n_enumerate (pa_cons (pv 0) pa_nil)) (pg_tup rfl (pgs_cons (pg_name (i := 1) sc_check.nd rfl (Or.inl rfl)) (pgs_cons (pg_name (i := 2) sc_check.nd rfl (Or.inl rfl)) pgs_nil)))
    (pss_one (ps_if (pt_not (pt_val (pe_call G_is_write (hr.mono (by decide)) (by rfl) u.g_is_write kp_is_write b_is_write .nil pass0 (pa_cons (pv 2) pa_nil))))
    (pss_one ps_never)
    pss_nil))))), ?_⟩
    walk_at "s"
    obtain ⟨ps, hl, hr⟩ := ha
    have hn : (ps.map V.ref).length = ws.length := by rw [List.length_map, hr.len, List.length_map]
    refine ⟨_, rfl, _, _, _, _, true, rfl, .ty "list", .base (.lst hl), kit_ty (by decide +kernel), true, rfl, ?_⟩
    walk_at "w"
    refine ⟨_, _, rfl, Or.inl (SqL.of hl), ?_⟩
    walk_at "w"
    refine itb (fun z => ?_) (fun _ => ?_)
    · have := of_decide_eq_true z
      rw [hn] at this
      omega
    walk_at "w"
    refine ⟨_, _, rfl, SqL.of hl, for_it (walk_enum (xs := ps.map V.ref)) (fun i σ' H' => ∃ v1 v2, σ' = [some (.ref a), v1, v2] ∧ Ex H H') ⟨none, none, rfl, Same.refl _⟩ ?_ ?_ ?_⟩
    · rintro i σ' H' _ ⟨v1, v2, rfl, e1⟩
      exact SqL.of (e1 _ _ hl)
    · rintro i x σ' H' H2 hi ⟨v1, v2, rfl, e1⟩ hx
      obtain ⟨T, y, rfl, hT, rfl, hy⟩ := yen hx
      obtain ⟨p, r, rfl, hrr, hp⟩ := hr.at' hy
      obtain ⟨wd, hw, rfl⟩ := map_get hrr
      obtain ⟨w1, w2⟩ := h2 wd (List.mem_of_getElem? hw)
      walk_at "w"
      exact ⟨p, wd, rfl, (by walk_at "h"), w1, w2, fun H3 e3 => ⟨true, rfl, _, _, rfl, (by walk_at "e")⟩⟩
    · rintro σ' H' ⟨v1, v2, rfl, e1⟩
      exact k _ _ e1

theorem len_split (c : Cfg) : ∀ i, (splitN c i).length ≤ i
  | 0 => Nat.le_refl _
  | i + 1 => by
    have := len_split c i
    rw [splitN]
    unfold splitS
    split
    · rw [List.length_append]; simp; omega
    · split
      · rw [List.length_set]; omega
      · rw [List.length_append]; simp; omega
def spSplitTurns : Sp := fun vs H Q _ => ∃ (a : Addr) (c : Cfg), vs = [.ref a] ∧ LstT H a (wsV c) ∧ c.words.length ≤ 200 ∧ ∀ x H', Ex H H' → H x = none → LstT H' x ((splitN c c.words.length).map Tn.vs) → Q (.ref x) H'
theorem ok_split_turns (u : U K mg) : Ok P w K mg base 1 (He.ga K "split_turns") ["writes"] spSplitTurns := by
  obtain ⟨fd, F⟩ := u.d_split_turns
  refine mkOk F sc_split_turns (fun _ _ _ _ _ _ us hl => match us, hl with | [_], _ => rfl) (fun vs H Q E h => ?_) (fun cdv A outer s H vs Q E hr h => ?_)
  · obtain ⟨a, c, rfl, ha, h1, k⟩ := h
    rfl
  · obtain ⟨a, c, rfl, ha, h1, k⟩ := h
    have hu := hu_of hr
    refine ⟨_, (pss_n (ps_set (i := 1) sc_split_turns.nd rfl (Or.inl rfl) (pe_lst pa_nil))
    (pss_n (ps_for PassesOwn.never rfl (pi_enum (by rfl) u.n_enumerate (pa_cons (pv 0) pa_nil)) (pg_tup rfl (pgs_cons (pg_name (i := 2) sc_split_turns.nd rfl (Or.inl rfl)) (pgs_cons (pg_name (i := 3) sc_split_turns.nd rfl (Or.inl rfl)) pgs_nil)))
    (pss_one (ps_if (PW.pt (pw_or (pt_cmpR (op_eqD hr.units) (pv 1) (pe_lst pa_nil) (nomark _)) (pw_or1 (pt_cmpR op_ne (pe_ix ix_tup (pe_ix ix_list (pv 1) (pe_un un_neg pe_int) (fun _ _ => rfl)) pe_int (fun _ _ => rfl)) (pe_ix ix_tup (pv 3) pe_int (fun _ _ => rfl)) (nomark _)))))
    (pss_one (ps_expr (pe_bm PySem.F.plainAttrs_list PySem.F.slot_list_append PySem.F.type_list_append mt_append (pv 1) (pa_cons (pe_tup (pa_cons (pe_ix ix_tup (pv 3) pe_int (fun _ _ => rfl)) (pa_cons (pv 2) (pa_cons (pe_op op_add (pv 2) pe_int) pa_nil)))) pa_nil))))
    (pss_one (ps_asg (pe_tup (pa_cons (pe_ix ix_tup (pv 3) pe_int (fun _ _ => rfl)) (pa_cons (pe_ix ix_tup (pe_ix ix_list (pv 1) (pe_un un_neg pe_int) (fun _ _ => rfl)) pe_int (fun _ _ => rfl)) (pa_cons (pe_op op_add (pv 2) pe_int) pa_nil)))) (pg_sub (pv 1) (pe_un un_neg pe_int) set_list))))))
    (pss_one (ps_ret (pv 1))))), ?_⟩
    walk_at "s"
    obtain ⟨ps, hl, hr⟩ := ha
    have hn : (ps.map V.ref).length = c.words.length := by rw [List.length_map, hr.len]; exact List.length_map _
    walk_at "w"
    refine ⟨le_sz le_r, fun D hD => ?_⟩
    walk_at "w"
    refine ⟨_, _, rfl, SqL.of (by walk_at "h"), for_it (walk_enum (xs := ps.map V.ref)) (fun i σ' H' => ∃ v1 v2 ts, σ' = [some (.ref a), some (.ref D), v1, v2] ∧ Ex H H' ∧ H' D = some (.lst (ts.map V.ref)) ∧ Rows H' ts ((splitN c i).map Tn.vs)) ⟨none, none, [], rfl, (by walk_at "e"), upd_same, .nil⟩ ?_ ?_ ?_⟩
    · rintro i σ' H' _ ⟨v1, v2, ts, rfl, e1, _⟩
      exact SqL.of (e1 _ _ hl)
    · rintro i x σ' H' H2 hi ⟨v1, v2, ts, rfl, e1, hts, rts⟩ hx
      obtain ⟨T, y, rfl, hT, rfl, hy⟩ := yen hx
      obtain ⟨p, r, rfl, hrr, hp⟩ := hr.at' hy
      obtain ⟨wd, hw, rfl⟩ := map_get hrr
      walk_at "w"
      refine ⟨le_sz le_r, fun D2 hD2 => ?_⟩
      have okT : ∀ r ∈ (splitN c i).map Tn.vs, r.all okV = true := by
        intro r hr
        obtain ⟨t, _, rfl⟩ := List.mem_map.mp hr
        rfl
      have hL : LstT (upd (upd H' T (HO.tup [V.int ↑i, V.ref p])) D2 (HO.lst [])) D ((splitN c i).map Tn.vs) := ⟨ts, (by walk_at "h"), rts.ex (by walk_at "e")⟩
      refine eqRows hL okT upd_same ?_
      walk_at "w"
      have hts2 : (upd (upd H' T (HO.tup [V.int ↑i, V.ref p])) D2 (HO.lst [])) D = some (HO.lst (List.map V.ref ts)) := by walk_at "h"
      have hp2 : (upd (upd H' T (HO.tup [V.int ↑i, V.ref p])) D2 (HO.lst [])) p = some (HO.tup wd.vs) := by walk_at "h"
      have hi2 : i < 200 := by rw [hn] at hi; omega
      have hwd : Lw.wd c i = wd := by
        show c.words.getD i _ = wd
        rw [List.getD_eq_getElem?_getD, hw]; rfl
      refine itb (fun h1 => ?ca) (fun h1 => ?_)
      case ca =>
        have happ : splitN c (i + 1) = splitN c i ++ [(wd.who, i, i + 1)] := by
          have : splitN c i = [] := by cases e : splitN c i; rfl; rw [e] at h1; cases h1
          rw [splitN, this, hwd]; rfl
        walk_at "w"
        refine ⟨tyl hts2, ?_⟩
        walk_at "w"
        refine ⟨le_sz le_r, fun T2 hT2 => ?_⟩
        refine ⟨D, ts.map V.ref, _, rfl, rfl, (by walk_at "h"), (by rw [List.length_map, rts.len, List.length_map]; exact lt_sz (Nat.lt_of_le_of_lt (len_split c i) (by omega))), ?_⟩
        refine ⟨_, _, ts ++ [T2], rfl, exmut (by walk_at "e") hD, ?_, ?_⟩
        · rw [List.map_append]; exact upd_same
        · rw [happ, List.map_append]
          exact ((rts.ex (by walk_at "e")).snoc (r := Tn.vs (wd.who, i, i + 1)) upd_same).updl (by walk_at "h")
      
      obtain ⟨f, t, hft⟩ : ∃ f t, splitN c i = f ++ [t] := by
        rcases List.eq_nil_or_concat (splitN c i) with e | ⟨f, t, e⟩
        · rw [e] at h1; cases h1
        · exact ⟨f, t, by rw [e, List.concat_eq_append]⟩
      have rts1 := rts
      rw [hft, List.map_append] at rts1
      obtain ⟨ts0, tp, ets, htp, rts0⟩ := rts1.snoc_inv
      have hts3 : (upd (upd H' T (HO.tup [V.int ↑i, V.ref p])) D2 (HO.lst [])) D = some (HO.lst (List.map V.ref ts0 ++ [V.ref tp])) := by rw [hts2, ets, List.map_append]; rfl
      have htp2 : (upd (upd H' T (HO.tup [V.int ↑i, V.ref p])) D2 (HO.lst [])) tp = some (HO.tup t.vs) := by walk_at "h"
      walk_at "w"
      refine ⟨D, _, _, _, rfl, rfl, SqL.of hts3, atI_last _ _, ?_⟩
      walk_at "w"
      rw [ne_wI]
      refine itb (fun h2 => ?cb) (fun h2 => ?_)
      case cb =>
        have happ : splitN c (i + 1) = splitN c i ++ [(wd.who, i, i + 1)] := by
          rw [splitN, hwd, hft, splitS_snoc, if_neg (fun z => by rw [decide_eq_true z] at h2; cases h2)]
        walk_at "w"
        refine ⟨tyl hts2, ?_⟩
        walk_at "w"
        refine ⟨le_sz le_r, fun T2 hT2 => ?_⟩
        refine ⟨D, ts.map V.ref, _, rfl, rfl, (by walk_at "h"), (by rw [List.length_map, rts.len, List.length_map]; exact lt_sz (Nat.lt_of_le_of_lt (len_split c i) (by omega))), ?_⟩
        refine ⟨_, _, ts ++ [T2], rfl, exmut (by walk_at "e") hD, ?_, ?_⟩
        · rw [List.map_append]; exact upd_same
        · rw [happ, List.map_append]
          exact ((rts.ex (by walk_at "e")).snoc (r := Tn.vs (wd.who, i, i + 1)) upd_same).updl (by walk_at "h")
      
      have hset : splitN c (i + 1) = f ++ [(wd.who, t.2.1, i + 1)] := by
        rw [splitN, hwd, hft, splitS_snoc, if_pos (by
          by_cases z : t.1 = wd.who
          · exact z
          · rw [decide_eq_false z] at h2; cases h2)]
      walk_at "w"
      refine ⟨D, _, _, _, rfl, rfl, SqL.of hts3, atI_last _ _, ?_⟩
      walk_at "w"
      refine ⟨le_sz le_r, fun T2 hT2 => ?_⟩
      walk_at "w"
      have hts4 : upd (upd (upd H' T (HO.tup [V.int ↑i, V.ref p])) D2 (HO.lst [])) T2 (HO.tup [V.int (wI wd.who), V.int ↑t.snd.fst, V.int (↑i + 1)]) D = some (HO.lst (List.map V.ref ts0 ++ [V.ref tp])) := by walk_at "h"
      refine ⟨D, _, _, ts0.length, rfl, rfl, hts4, (by rw [List.length_append, List.length_map]; exact ixN_last _), ?_⟩
      refine ⟨_, _, ts0 ++ [T2], rfl, exmut (by walk_at "e") hD, ?_, ?_⟩
      · have : (List.map V.ref ts0 ++ [V.ref tp]).set ts0.length (V.ref T2) = List.map V.ref (ts0 ++ [T2]) := by
          rw [List.set_append_right _ _ (by rw [List.length_map]; exact Nat.le_refl _), List.length_map, Nat.sub_self, List.map_append]; rfl
        rw [upd_same, this]
      · rw [hset, List.map_append]
        exact ((rts0.ex (by walk_at "e")).snoc (r := Tn.vs (wd.who, t.2.1, i + 1)) upd_same).updl hts4
    · rintro σ' H' ⟨v1, v2, ts, rfl, e1, hts, rts⟩
      walk_at "w"
      refine k _ _ e1 hD ⟨ts, hts, ?_⟩
      rw [← hn]; exact rts
end
end Lw
namespace Lw
open PySem PySem.Spec PyProof.Rows L2
section
variable {P : Program} {w : World} {K : PySem.W.Frag} {mg : Str → Option Value} {base : Heap}
local macro_rules | `(tactic| walk_at "h") => `(tactic| first | assumption | exact upd_same | (refine xn (by assumption) ?_; walk_at "h") | (refine exapp (by assumption) ?_; walk_at "h"))
local macro_rules | `(tactic| walk_at "e") => `(tactic| first | exact Same.refl _ | assumption | (refine Same.trans ?_ (Ex.new (by assumption)); walk_at "e") | (refine Same.trans ?_ (by assumption); walk_at "e"))
local macro_rules | `(tactic| walk_at "w") => `(tactic| repeat (first | refine ⟨_, rfl, ?_⟩ | refine ⟨_, _, rfl, rfl, ?_⟩ | refine ⟨_, _, _, _, rfl, rfl, SqT.of (by walk_at "h"), (by rfl), ?_⟩ | (refine fun σ2 (hσ : σ2 = _) => ?_; (try simp only [List.set_cons_succ, List.set_cons_zero] at hσ); subst hσ) | refine ⟨_, _, rfl, SqT.of (by walk_at "h"), (by rfl), ?_⟩ | refine ⟨rfl, ?_⟩ | refine ⟨_, _, rfl, ?_⟩))
local macro_rules | `(tactic| walk_at "s") => `(tactic| (intro σ hσ; simp only [start_eq, List.map_cons, List.map_nil, List.length_cons, List.length_nil, List.cons_append, List.nil_append, Nat.reduceAdd, Nat.reduceSub, List.replicate_succ, List.replicate_zero] at hσ; subst hσ))

def limit (c : Cfg) (k : Nat) : Nat := if fresh c k = true then 0 else 2
def planL (c : Cfg) (plan : Nat → Nat) : List V := (List.range c.words.length).map fun k => V.int (plan k : Nat)
/-- what an order asks -/
def OrdV (H : Hp) (c : Cfg) (plan : Nat → Nat) (o : V) : Prop :=
  (o = .str "quick" ∧ ∀ k, k < c.words.length → plan k = limit c k) ∨ (o = .str "slow" ∧ ∀ k, k < c.words.length → plan k = 0) ∨
  ∃ b, o = .ref b ∧ H b = some (.lst (planL c plan)) ∧ ∀ k, k < c.words.length → plan k ≤ limit c k
theorem starts_form (c : Cfg) : ∀ k, 0 < k → ∃ f a, splitN c k = f ++ [((wd c (k - 1)).who, a, k)] ∧ ∀ i, (i ∈ (splitN c k).map (fun t => t.2.1) ↔ (i < k ∧ fresh c i = true))
  | 0, h => by omega
  | 1, _ => by
    refine ⟨[], 0, rfl, fun i => ?_⟩
    show i ∈ [0] ↔ _
    rw [List.mem_singleton]
    constructor
    · rintro rfl; exact ⟨by omega, rfl⟩
    · rintro ⟨h, _⟩; omega
  | k + 2, _ => by
    obtain ⟨f, a, e, h⟩ := starts_form c (k + 1) (by omega)
    rw [Nat.add_sub_cancel] at e
    have e2 : splitN c (k + 2) = splitS (splitN c (k + 1)) (k + 1) (wd c (k + 1)).who := rfl
    rw [e, splitS_snoc] at e2
    by_cases z : (wd c k).who = (wd c (k + 1)).who
    · rw [if_pos z] at e2
      refine ⟨f, a, e2, fun i => ?_⟩
      have h2 := h i
      rw [e] at h2
      rw [e2]
      rw [List.map_append] at h2 ⊢
      refine h2.trans ?_
      constructor
      · rintro ⟨x, y⟩; exact ⟨by omega, y⟩
      · rintro ⟨x, y⟩
        refine ⟨?_, y⟩
        by_cases q : i = k + 1
        · subst q
          unfold fresh at y
          rw [Nat.add_sub_cancel, z] at y
          simp at y
        · omega
    · rw [if_neg z] at e2
      refine ⟨_, k + 1, e2, fun i => ?_⟩
      have h2 := h i
      rw [e] at h2
      rw [e2, List.map_append, List.mem_append, h2]
      show _ ∨ i ∈ [k + 1] ↔ _
      rw [List.mem_singleton]
      constructor
      · rintro (⟨x, y⟩ | rfl)
        · exact ⟨by omega, y⟩
        · refine ⟨by omega, ?_⟩
          unfold fresh
          rw [Nat.add_sub_cancel, decide_eq_true z, Bool.or_true]
      · rintro ⟨x, y⟩
        by_cases q : i = k + 1
        · exact Or.inr q
        · exact Or.inl ⟨by omega, y⟩
theorem starts_in (c : Cfg) {k i : Nat} (hi : i < k) : inV (.int (i : Nat)) ((splitN c k).map fun t => V.int (t.2.1 : Nat)) = fresh c i := by
  obtain ⟨f, a, e, h⟩ := starts_form c k (by omega)
  have h2 := h i
  rw [Bool.eq_iff_iff]
  unfold inV
  rw [List.any_eq_true]
  constructor
  · rintro ⟨x, hx, he⟩
    obtain ⟨t, ht, rfl⟩ := List.mem_map.mp hx
    have : ((t.2.1 : Nat) : Int) = (i : Nat) := of_decide_eq_true (by simpa [eqV] using he)
    exact (h2.mp (List.mem_map.mpr ⟨t, ht, by omega⟩)).2
  · intro hf
    obtain ⟨t, ht, e⟩ := List.mem_map.mp (h2.mpr ⟨hi, hf⟩)
    refine ⟨_, List.mem_map.mpr ⟨t, ht, rfl⟩, ?_⟩
    rw [e]
    simp [eqV]
theorem flat_ints (f : Tn → Nat) (xs : List Tn) : (xs.map fun t => V.int (f t : Nat)).all flatV = true := by
  rw [List.all_map, List.all_eq_true]
  intro x _; rfl
theorem planL_eq {c : Cfg} {plan f : Nat → Nat} (h : ∀ k, k < c.words.length → plan k = f k) : planL c plan = (List.range c.words.length).map fun k => V.int (f k : Nat) := by
  unfold planL
  apply List.map_congr_left
  intro k hk
  rw [h k (List.mem_range.mp hk)]
theorem planL_len (c : Cfg) (plan : Nat → Nat) : (planL c plan).length = c.words.length := by unfold planL; rw [List.length_map, List.length_range]
theorem planL_at {c : Cfg} {plan : Nat → Nat} {i : Nat} {x : V} (h : (planL c plan)[i]? = some x) : i < c.words.length ∧ x = .int (plan i : Nat) := by
  have hi := (List.getElem?_eq_some_iff.mp h).1
  rw [planL_len] at hi
  unfold planL at h
  rw [List.getElem?_map, List.getElem?_range hi] at h
  exact ⟨hi, (Option.some.inj h).symm⟩
def spNormalOrder : Sp := fun vs H Q _ => ∃ (a : Addr) (o : V) (c : Cfg) (plan : Nat → Nat), vs = [.ref a, o] ∧ LstT H a (wsV c) ∧ c.words.length ≤ 200 ∧ (∀ w ∈ c.words, 1 ≤ w.len ∧ w.len ≤ 10 ^ 18) ∧ OrdV H c plan o ∧ ∀ x H', Ex H H' → H' x = some (.lst (planL c plan)) → Q (.ref x) H'
theorem ok_normal_order (u : U K mg) : Ok P w K mg base 5 (He.ga K "normal_order") ["conversation", "order"] spNormalOrder := by
  obtain ⟨fd_check, G_check, kp_check, b_check⟩ := (ok_check (P := P) (w := w) (base := base) u).ex
  obtain ⟨fd_split_turns, G_split_turns, kp_split_turns, b_split_turns⟩ := (ok_split_turns (P := P) (w := w) (base := base) u).ex
  obtain ⟨fd_in_range, G_in_range, kp_in_range, b_in_range⟩ := (ok_in_range (P := P) (w := w) (base := base) u).ex
  obtain ⟨fd, F⟩ := u.d_normal_order
  refine mkOk F sc_normal_order (fun _ _ _ _ _ _ us hl => match us, hl with | [_, _], _ => rfl) (fun vs H Q E h => ?_) (fun cdv A outer s H vs Q E hr h => ?_)
  · obtain ⟨a, o, c, plan, rfl, ha, h1, h2, ho, k⟩ := h
    rfl
  · obtain ⟨a, o, c, plan, rfl, ha, h1, h2, ho, k⟩ := h
    have hu := hu_of hr
    refine ⟨_, (pss_n (ps_expr (pe_call G_check (hr.mono (by decide)) (by rfl) u.g_check kp_check b_check .nil pass0 (pa_cons (pv 0) pa_nil)))
    (pss_n (ps_set (i := 2) sc_normal_order.nd rfl (Or.inr rfl) (pe_lc (own := [("endpoint", 3), ("start", 4), ("stop", 5)]) (g := (gTup K 3 (gCons (gName 3) (gCons (gName 4) (gCons (gName 5) gNil))))) (tt := tYes) (te := (tVar 4)) rfl sc_normal_order.nd (pi_list (pe_call G_split_turns (hr.mono (by decide)) (by rfl) u.g_split_turns kp_split_turns b_split_turns .nil pass0 (pa_cons (pv 0) pa_nil))) (blkOk_by (N := n_normal_order) (sc := defScope s_normal_order) (by decide +kernel)) (fun _ _ _ _ _ => (pg_tup rfl (pgs_cons (pg_name (i := 3) sc_normal_order.nd rfl (Or.inl rfl)) (pgs_cons (pg_name (i := 4) sc_normal_order.nd rfl (Or.inl rfl)) (pgs_cons (pg_name (i := 5) sc_normal_order.nd rfl (Or.inl rfl)) pgs_nil))))) (fun _ _ _ _ _ => pts_nil) (fun _ _ _ _ _ => (pv 4))))
    (pss_n (ps_setLc (i := 6) (own := [("index", 7)]) (g := (gName 7)) (tt := tYes) (te := (tIf (tTest (tOp (rIn K false) (tVar 7) (tVar 2))) (tC (.int 0)) (tC (.int 2)))) rfl sc_normal_order.nd rfl rfl (sw_true rfl rfl rfl (by decide +kernel)) (pi_range1 (by rfl) u.n_range (pa_cons (pe_callB call_len_seq (by rfl) u.n_len PySem.boot_len (pa_cons (pv 0) pa_nil)) pa_nil)) (blkOk_by (N := n_normal_order) (sc := defScope s_normal_order) (by decide +kernel)) (fun _ _ _ _ _ => (pg_name (i := 7) sc_normal_order.nd rfl (Or.inl rfl))) (fun _ _ _ _ _ => pts_nil) (fun _ _ _ _ _ => (pe_ifExp (pt_cmpR op_in_seq (pv 7) (pv 2) (by with_unfolding_all rfl)) pe_int pe_int)))
    (pss_n (ps_if (PW.pt (pw_and (pt_val (pe_callB call_isi (by rfl) u.n_isinstance boot_isinstance (pa_cons (pv 1) (pa_cons (pe_bltn (by rfl) u.n_str PyProof.Rows.boot_str (show L2.RelV (.ty "str") _ from rfl)) pa_nil)))) (pw_and1 (pt_cmpR op_in_seq (pv 1) (pe_tup (pa_cons pe_str (pa_cons pe_str pa_nil))) (by with_unfolding_all rfl)))))
    (pss_one (ps_ret (pe_ifExp (pt_cmpR op_eq (pv 1) pe_str (nomark _)) (pv 6) (pe_lc (own := [("write", 8)]) (g := (gName 8)) (tt := tYes) (te := (tC (.int 0))) rfl sc_normal_order.nd (pi_list (pv 0)) (blkOk_by (N := n_normal_order) (sc := defScope s_normal_order) (by decide +kernel)) (fun _ _ _ _ _ => (pg_name (i := 8) sc_normal_order.nd rfl (Or.inl rfl))) (fun _ _ _ _ _ => pts_nil) (fun _ _ _ _ _ => pe_int)))))
    pss_nil)
    (pss_n (ps_if (PW.pt (pw_or (pt_not (pt_val (pe_callB call_isi (by rfl) u.n_isinstance boot_isinstance (pa_cons (pv 1) (pa_cons (pe_bltn (by rfl) u.n_list PyProof.Rows.boot_list (show L2.RelV (.ty "list") _ from rfl)) pa_nil))))) (pw_or1 (pt_cmpR op_ne (pe_callB call_len_seq (by rfl) u.n_len PySem.boot_len (pa_cons (pv 1) pa_nil)) (pe_callB call_len_seq (by rfl) u.n_len PySem.boot_len (pa_cons (pv 0) pa_nil)) (nomark _)))))
    (pss_one ps_never)
    pss_nil)
    (pss_n (ps_for PassesOwn.never rfl (pi_enum (by rfl) u.n_enumerate (pa_cons (pv 1) pa_nil)) (pg_tup rfl (pgs_cons (pg_name (i := 7) sc_normal_order.nd rfl (Or.inl rfl)) (pgs_cons (pg_name (i := 9) sc_normal_order.nd rfl (Or.inl rfl)) pgs_nil)))
    (pss_one (ps_if (pt_not (pt_val (pe_call G_in_range (hr.mono (by decide)) (by rfl) u.g_in_range kp_in_range b_in_range .nil pass0 (pa_cons (pv 9) (pa_cons pe_int (pa_cons (pe_ix ix_list (pv 6) (pv 7) (fun _ _ => rfl)) pa_nil))))))
    (pss_one ps_never)
    pss_nil)))
    (pss_one (ps_ret (pe_callTy call_list_of (by rfl) u.n_list PyProof.Rows.boot_list (pa_cons (pv 1) pa_nil)))))))))), ?_⟩
    walk_at "s"
    have hLT := ha
    obtain ⟨ps, hl, hr⟩ := ha
    have hn : (ps.map V.ref).length = c.words.length := by rw [List.length_map, hr.len]; exact List.length_map _
    refine ⟨_, rfl, ?_⟩
    refine ⟨a, c.words, rfl, hLT, h1, h2, fun _ H1 e1 => ?_⟩
    walk_at "w"
    refine ⟨a, c, rfl, hLT.ex e1, h1, fun y H2 e2 _ hy => ?_⟩
    obtain ⟨ts, hts, rts⟩ := hy
    refine ⟨_, rfl, ⟨_, SqL.of hts⟩, fun D hD => lc_list (a := y) (xs := ts.map V.ref) (fun i H' => Ex H2 H' ∧ H' D = some (.lst (((splitN c c.words.length).map fun t => V.int (t.2.1 : Nat)).take i))) ?_ ?_ ?_ ?_⟩
    · exact ⟨Ex.new hD, upd_same⟩
    · rintro i H' _ ⟨k1, _⟩
      exact SqL.of (k1 _ _ hts)
    · rintro i x H' hi ⟨k1, hl1⟩
      obtain ⟨p, r, rfl, hrr, hp⟩ := rts.at' hi
      obtain ⟨t, ht, rfl⟩ := map_get hrr
      have hp2 := k1 _ _ hp
      refine ⟨p, _, rfl, SqT.of hp2, rfl, ?_⟩
      walk_at "w"
      refine ⟨_, hl1, take_lt ?_, exmut k1 hD, ?_⟩
      · have := len_split c c.words.length
        rw [List.length_map]; omega
      · rw [take_map ht fun t => V.int (t.2.1 : Nat)]; exact upd_same
    · rintro H' ⟨k1, hl1⟩
      have hD2 : H' D = some (.lst ((splitN c c.words.length).map fun t => V.int (t.2.1 : Nat))) := by rw [hl1, List.length_map, rts.len]; rw [List.length_map]; exact congrArg (fun z => some (HO.lst z)) (by rw [← List.length_map (as := splitN c c.words.length) (f := fun t => V.int (t.2.1 : Nat)), List.take_length])
      have e3 : Ex H H' := (e1.trans e2).trans k1
      clear hl1
      walk_at "w"
      refine ⟨_, _, rfl, Or.inl (SqL.of (e3 _ _ hl)), ?_⟩
      refine ⟨_, rfl, (by rw [hn]; omega), (by rw [hn]; omega), fun M hM => lc_range (fun i H4 => Ex H' H4 ∧ H4 M = some (.lst (((List.range c.words.length).map fun k => V.int (limit c k : Nat)).take i))) ?_ ?_ ?_⟩
      · exact ⟨Ex.new hM, upd_same⟩
      · rintro i H4 hi ⟨k4, hM4⟩
        have hi' : i < c.words.length := by rw [hn] at hi; exact hi
        refine ⟨rfl, ?_⟩
        walk_at "w"
        refine ⟨D, _, rfl, Or.inl (SqL.of (k4 _ _ hD2)), rfl, flat_ints (fun t => t.2.1) _, ?_⟩
        have hv : inV (.int (0 + (i : Int))) ((splitN c c.words.length).map fun t => V.int (t.2.1 : Nat)) = fresh c i := by rw [Int.zero_add]; exact starts_in c hi'
        have htk := take_map (show (List.range c.words.length)[i]? = some i by rw [List.getElem?_range hi']) fun k => V.int (limit c k : Nat)
        refine ⟨fresh c i, by show V.bl (inV _ _) = _; rw [hv], ?_⟩
        refine itb (fun hf => ?_) (fun hf => ?_)
        · have hlim : limit c i = 0 := by unfold limit; rw [if_pos hf]
          refine ⟨_, hM4, take_lt (by rw [List.length_map, List.length_range]; omega), exmut k4 hM, ?_⟩
          rw [htk, hlim]; exact upd_same
        · have hlim : limit c i = 2 := by unfold limit; rw [hf]; rfl
          refine ⟨_, hM4, take_lt (by rw [List.length_map, List.length_range]; omega), exmut k4 hM, ?_⟩
          rw [htk, hlim]; exact upd_same
      · rintro H4 ⟨k4, hM4⟩
        have hM5 : H4 M = some (.lst ((List.range c.words.length).map fun k => V.int (limit c k : Nat))) := by
          rw [hM4]
          have : (((ps.map V.ref).length : Int)).toNat = ((List.range c.words.length).map fun k => V.int (limit c k : Nat)).length := by rw [hn, List.length_map, List.length_range]; rfl
          rw [this, List.take_length]
        have e4 : Ex H H4 := e3.trans k4
        clear hM4
        walk_at "w"
        have hl4 := e4 _ _ hl
        rcases ho with ⟨rfl, hp⟩ | ⟨rfl, hp⟩ | ⟨b, rfl, hb, hp⟩
        · refine ⟨_, _, _, _, true, rfl, .ty "str", .base (.str _), kit_ty (by decide +kernel), true, rfl, ?_⟩
          walk_at "w"
          refine ⟨le_sz le_r, fun T5 hT5 => ?_⟩
          refine ⟨_, _, rfl, Or.inr (SqT.of upd_same), rfl, rfl, ?_⟩
          walk_at "w"
          refine k M _ (by walk_at "e") ?_
          rw [planL_eq hp]; walk_at "h"
        · refine ⟨_, _, _, _, true, rfl, .ty "str", .base (.str _), kit_ty (by decide +kernel), true, rfl, ?_⟩
          walk_at "w"
          refine ⟨le_sz le_r, fun T5 hT5 => ?_⟩
          refine ⟨_, _, rfl, Or.inr (SqT.of upd_same), rfl, rfl, ?_⟩
          walk_at "w"
          refine ⟨⟨_, SqL.of (by walk_at "h")⟩, fun D5 hD5 => lc_list (a := a) (xs := ps.map V.ref) (fun i H6 => Ex (upd H4 T5 (HO.tup [V.str (Str.ofString "slow"), V.str (Str.ofString "quick")])) H6 ∧ H6 D5 = some (.lst ((planL c plan).take i))) ?_ ?_ ?_ ?_⟩
          · exact ⟨Ex.new hD5, upd_same⟩
          · rintro i H6 _ ⟨k6, _⟩
            exact SqL.of (k6 _ _ (by walk_at "h"))
          · rintro i x H6 hi ⟨k6, hl6⟩
            have hi' : i < c.words.length := by rw [← hn]; exact (List.getElem?_eq_some_iff.mp hi).1
            have htk := take_map (show (List.range c.words.length)[i]? = some i by rw [List.getElem?_range hi']) fun k => V.int (plan k : Nat)
            rw [hp i hi'] at htk
            refine ⟨rfl, ?_⟩
            refine ⟨_, hl6, take_lt (by rw [planL_len]; omega), exmut k6 hD5, ?_⟩
            unfold planL
            rw [htk]; exact upd_same
          · rintro H6 ⟨k6, hl6⟩
            refine k D5 _ (by walk_at "e") ?_
            rw [hl6, hn, ← planL_len c plan, List.take_length]
        · refine ⟨_, _, _, _, false, rfl, .ty "str", .base (.lst (e4 _ _ hb)), kit_ty (by decide +kernel), false, rfl, ?_⟩
          walk_at "w"
          refine ⟨_, _, _, _, true, rfl, .ty "list", .base (.lst (e4 _ _ hb)), kit_ty (by decide +kernel), true, rfl, ?_⟩
          walk_at "w"
          have hb4 := e4 _ _ hb
          refine ⟨_, _, rfl, Or.inl (SqL.of hb4), ?_⟩
          refine ⟨_, rfl, ?_⟩
          refine ⟨_, _, rfl, Or.inl (SqL.of hl4), ?_⟩
          walk_at "w"
          refine itf (by rw [hn, planL_len, decide_eq_true rfl]; rfl) ?_
          walk_at "w"
          refine ⟨_, _, rfl, SqL.of hb4, for_it (walk_enum (xs := planL c plan)) (fun i σ' H6 => ∃ v1 v2, σ' = [some (V.ref a), some (V.ref b), some (V.ref D), none, none, none, some (V.ref M), v1, none, v2] ∧ Ex H4 H6) ⟨none, none, rfl, Same.refl _⟩ ?_ ?_ ?_⟩
          · rintro i σ' H6 _ ⟨v1, v2, rfl, e6⟩
            exact SqL.of (e6 _ _ hb4)
          · rintro i x σ' H6 H7 hi ⟨v1, v2, rfl, e6⟩ hx
            obtain ⟨T, y, rfl, hT, rfl, hy⟩ := yen hx
            obtain ⟨hi', rfl⟩ := planL_at hy
            have hM6 := e6 _ _ hM5
            have hMi : atI ((List.range c.words.length).map fun k => V.int (limit c k : Nat)) (i : Int) = some (.int (limit c i : Nat)) := by
              rw [atI_nat, List.getElem?_map, List.getElem?_range hi']; rfl
            have hpi := hp i hi'
            walk_at "w"
            refine x_lst (xn hT hM6) hMi ?_
            refine ⟨_, 0, _, rfl, ?_⟩
            rw [decide_eq_true (show (0 : Int) ≤ (plan i : Nat) by omega), decide_eq_true (show ((plan i : Nat) : Int) ≤ (limit c i : Nat) by omega)]
            exact ⟨true, rfl, _, _, rfl, (by walk_at "e")⟩
          · rintro σ' H6 ⟨v1, v2, rfl, e6⟩
            have hb6 := e6 _ _ hb4
            have e7 := e4.trans e6
            walk_at "w"
            refine ⟨_, _, rfl, Or.inl (SqL.of hb6), fun l hl => ?_⟩
            exact k l _ (by walk_at "e") upd_same
end
end Lw
namespace Lw
open PySem PySem.Spec PyProof.Rows L2
section
variable {P : Program} {w : World} {K : PySem.W.Frag} {mg : Str → Option Value} {base : Heap}
local macro_rules | `(tactic| walk_at "h") => `(tactic| first | assumption | exact upd_same | (refine xn (by assumption) ?_; walk_at "h") | (refine exapp (by assumption) ?_; walk_at "h"))
local macro_rules | `(tactic| walk_at "e") => `(tactic| first | exact Same.refl _ | assumption | (refine Same.trans ?_ (Ex.new (by assumption)); walk_at "e") | (refine Same.trans ?_ (by assumption); walk_at "e"))
local macro_rules | `(tactic| walk_at "w") => `(tactic| repeat (first | refine ⟨_, rfl, ?_⟩ | refine ⟨_, _, rfl, rfl, ?_⟩ | refine ⟨_, _, _, _, rfl, rfl, SqT.of (by walk_at "h"), (by rfl), ?_⟩ | (refine fun σ2 (hσ : σ2 = _) => ?_; (try simp only [List.set_cons_succ, List.set_cons_zero] at hσ); subst hσ) | refine ⟨_, _, rfl, SqT.of (by walk_at "h"), (by rfl), ?_⟩ | refine ⟨rfl, ?_⟩ | refine ⟨_, _, rfl, ?_⟩))
local macro_rules | `(tactic| walk_at "s") => `(tactic| (intro σ hσ; simp only [start_eq, List.map_cons, List.map_nil, List.length_cons, List.length_nil, List.cons_append, List.nil_append, Nat.reduceAdd, Nat.reduceSub, List.replicate_succ, List.replicate_zero] at hσ; subst hσ))

def outF (s g a : Int) (l : Addr) : List (Str × V) := [("stalls", .int s), ("segments", .int g), ("acknowledgments", .int a), ("stalled", .ref l)]
def spOutcomeInit (K : PySem.W.Frag) : Sp := fun vs H Q _ => ∃ (x C dx b : Addr) (s g a : Int) (xs : List V), vs = [.ref x, .int s, .int g, .int a, .ref b] ∧ H x = some (.ins (He.ga K "Outcome") dx []) ∧ H b = some (.lst xs) ∧
  ∀ l H', Kp [x] H H' → H' x = some (.ins (He.ga K "Outcome") dx (outF s g a l)) → H' l = some (.lst xs) → Q .non H'
theorem ok_Outcome__init (u : U K mg) : Ok P w K mg base 1 (He.ma K (He.ga K "Outcome") "__init__") ["self", "stalls", "segments", "acknowledgments", "stalled"] (spOutcomeInit K) := by
  obtain ⟨fd, F⟩ := u.d_Outcome__init
  refine mkOkB F sc_Outcome__init ?_ (fun vs H Q E h => ?_) (fun cdv A outer s H vs Q E hr h => ?_)
  · obtain ⟨ds, hv, hb⟩ := F.binds1 (ps := ["self", "stalls", "segments", "acknowledgments", "stalled"]) 5 4 (by intro z; cases z) rfl (fun T kV doc pm an cdv ct us its h1 h2 =>
      match us, its, h1, h2 with | [_, _, _, _, _], [_, _, _, _], _, _ => ⟨_, rfl, rfl⟩)
    cases hv
    exact hb
  · obtain ⟨x, C, dx, b, s1, g1, a1, xs, rfl, hx, hb, k⟩ := h
    rfl
  · obtain ⟨x, C, dx, b, s1, g1, a1, xs, rfl, hx, hb, k⟩ := h
    have hu := hu_of hr
    refine ⟨_, (pss_n (ps_fld (pv 0) (pv 1) rfl)
    (pss_n (ps_fld (pv 0) (pv 2) rfl)
    (pss_n (ps_fld (pv 0) (pv 3) rfl)
    (pss_one (ps_fld (pv 0) (pe_callTy call_list_of (by rfl) u.n_list PyProof.Rows.boot_list (pa_cons (pv 4) pa_nil)) rfl))))), ?_⟩
    walk_at "s"
    walk_at "w"
    refine ⟨_, _, _, _, rfl, hx, u.c_Outcome, u.a_Outcome_stalls, lt_r, ?_⟩
    walk_at "w"
    refine ⟨_, _, _, _, rfl, upd_same, u.c_Outcome, u.a_Outcome_segments, lt_r, ?_⟩
    walk_at "w"
    refine ⟨_, _, _, _, rfl, upd_same, u.c_Outcome, u.a_Outcome_acknowledgments, lt_r, ?_⟩
    walk_at "w"
    have hne : b ≠ x := fun z => by rw [z, hx] at hb; cases hb
    refine ⟨b, xs, rfl, Or.inl (SqL.of (by rw [upd_ne hne, upd_ne hne, upd_ne hne]; exact hb)), fun l hl => ?_⟩
    walk_at "w"
    have hnx : x ≠ l := fun z => by rw [z] at hl; rw [← z, upd_same] at hl; cases hl
    refine ⟨_, _, _, _, rfl, (by rw [upd_ne hnx]; exact upd_same), u.c_Outcome, u.a_Outcome_stalled, lt_r, ?_⟩
    refine k l _ ?_ ?_ ?_
    · exact Kp.trans (Kp.trans (Kp.trans (Kp.trans (Kp.upd (by simp)) (Kp.upd (by simp))) (Kp.upd (by simp))) (Kp.of (Ex.new hl))) (Kp.upd (by simp))
    · rw [upd_same]; kernel_rfl
    · rw [upd_ne (Ne.symm hnx)]; exact upd_same

structure OutAt (K : PySem.W.Frag) (H : Hp) (x : Addr) (s g a : Int) (st : List Int) : Prop where
  ob : ∃ dx l, H x = some (.ins (He.ga K "Outcome") dx (outF s g a l)) ∧ H l = some (.lst (st.map V.int))
theorem of_stalls (s g a : Int) (l : Addr) : (outF s g a l).lookup ("stalls" : Str) = some (.int s) := by kernel_rfl
theorem of_segments (s g a : Int) (l : Addr) : (outF s g a l).lookup ("segments" : Str) = some (.int g) := by kernel_rfl
theorem of_acknowledgments (s g a : Int) (l : Addr) : (outF s g a l).lookup ("acknowledgments" : Str) = some (.int a) := by kernel_rfl
theorem of_stalled (s g a : Int) (l : Addr) : (outF s g a l).lookup ("stalled" : Str) = some (.ref l) := by kernel_rfl
def spOutcomeBool (K : PySem.W.Frag) : Sp := fun vs H Q _ => ∃ (x : Addr) (s g a : Int) (st : List Int), vs = [.ref x] ∧ OutAt K H x s g a st ∧ Q (.bl (decide (0 < s))) H
theorem ok_Outcome__bool (u : U K mg) : Ok P w K mg base 1 (He.ma K (He.ga K "Outcome") "__bool__") ["self"] (spOutcomeBool K) := by
  obtain ⟨fd, F⟩ := u.d_Outcome__bool
  refine mkOk F sc_Outcome__bool (fun _ _ _ _ _ _ us hl => match us, hl with | [_], _ => rfl) (fun vs H Q E h => ?_) (fun cdv A outer s H vs Q E hr h => ?_)
  · obtain ⟨x, s1, g1, a1, st, rfl, ho, k⟩ := h
    rfl
  · obtain ⟨x, s1, g1, a1, st, rfl, ho, k⟩ := h
    have hu := hu_of hr
    refine ⟨_, (pss_one (ps_ret (pe_callTy call_bool1 (by rfl) u.n_bool PyProof.Rows.boot_bool (pa_cons (pe_cmpR op_gt (pe_fld (pv 0) rfl) pe_int (nomark _)) pa_nil)))), ?_⟩
    walk_at "s"
    obtain ⟨dx, l, h1, h2⟩ := ho.ob
    refine ⟨_, rfl, _, _, _, _, _, rfl, h1, u.c_Outcome, u.a_Outcome_stalls, of_stalls _ _ _ _, ?_⟩
    walk_at "w"
    exact Or.inr ⟨_, rfl, k⟩

theorem len_stalled (c : Cfg) (plan : Nat → Nat) (ts : List Tn) : ∀ i, (outT c plan ts i).stalled.length ≤ i
  | 0 => Nat.le_refl _
  | i + 1 => by
    have ih := len_stalled c plan ts i
    show (oTurn c plan i _ _).stalled.length ≤ _
    unfold oTurn
    show (if _ then _ else _ : List Int).length ≤ _
    split
    · rw [List.length_append]; simp; omega
    · omega
theorem qvs_at (q : Bool → Int) (b : Bool) : atI (qvs q) (wI b) = some (.int (q b)) := by cases b <;> rfl
theorem planL_get {c : Cfg} {plan : Nat → Nat} {i : Nat} (h : i < c.words.length) : (planL c plan)[i]? = some (.int (plan i : Nat)) := by
  unfold planL
  rw [List.getElem?_map, List.getElem?_range h]; rfl
def spOutcome (K : PySem.W.Frag) : Sp := fun vs H Q _ => ∃ (a p : Addr) (o : V) (c : Cfg) (plan : Nat → Nat), vs = [.ref a, .ref p, o] ∧ IsSet K c H a ∧ LstT H p (wsV c) ∧ Cok c ∧ PlanOk c plan ∧ OrdV H c plan o ∧
  ∀ x H', Ex H H' → OutAt K H' x ((outAll c plan).stalled.length : Nat) (outAll c plan).seg (outAll c plan).ack (outAll c plan).stalled → Q (.ref x) H'
theorem ok_outcome (u : U K mg) : Ok P w K mg base 6 (He.ga K "outcome") ["setting", "conversation", "order"] (spOutcome K) := by
  obtain ⟨fd_normal_order, G_normal_order, kp_normal_order, b_normal_order⟩ := (ok_normal_order (P := P) (w := w) (base := base) u).ex
  obtain ⟨fd_first_quick, G_first_quick, kp_first_quick, b_first_quick⟩ := (ok_first_quick (P := P) (w := w) (base := base) u).ex
  obtain ⟨fd_split_turns, G_split_turns, kp_split_turns, b_split_turns⟩ := (ok_split_turns (P := P) (w := w) (base := base) u).ex
  obtain ⟨fd_rules_of, G_rules_of, kp_rules_of, b_rules_of⟩ := (ok_rules_of (P := P) (w := w) (base := base) u).ex
  obtain ⟨fd_first_parts, G_first_parts, kp_first_parts, b_first_parts⟩ := (ok_first_parts (P := P) (w := w) (base := base) u).ex
  obtain ⟨fd_after_clearing, G_after_clearing, kp_after_clearing, b_after_clearing⟩ := (ok_after_clearing (P := P) (w := w) (base := base) u).ex
  obtain ⟨fd_after_write, G_after_write, kp_after_write, b_after_write⟩ := (ok_after_write (P := P) (w := w) (base := base) u).ex
  obtain ⟨fd_after_turn, G_after_turn, kp_after_turn, b_after_turn⟩ := (ok_after_turn (P := P) (w := w) (base := base) u).ex
  obtain ⟨fd_with_quick, G_with_quick, kp_with_quick, b_with_quick⟩ := (ok_with_quick (P := P) (w := w) (base := base) u).ex
  obtain ⟨fd_Outcome__init, G_Outcome__init, kp_Outcome__init, b_Outcome__init⟩ := (ok_Outcome__init (P := P) (w := w) (base := base) u).ex
  obtain ⟨fd, F⟩ := u.d_outcome
  refine mkOkB F sc_outcome ?_ (fun vs H Q E h => ?_) (fun cdv A outer s H vs Q E hr h => ?_)
  · obtain ⟨ds, hv, hb⟩ := F.binds1 (ps := ["setting", "conversation", "order"]) 3 1 (by intro z; cases z) rfl (fun T kV doc pm an cdv ct us its h1 h2 =>
      match us, its, h1, h2 with | [_, _, _], [_], _, _ => ⟨_, rfl, rfl⟩)
    cases hv
    exact hb
  · obtain ⟨a, p, o, c, plan, rfl, hs, hp, ok, po, ho, k⟩ := h
    rfl
  · obtain ⟨a, p, o, c, plan, rfl, hs, hp, ok, po, ho, k⟩ := h
    have hu := hu_of hr
    refine ⟨_, (pss_n (ps_set (i := 3) sc_outcome.nd rfl (Or.inl rfl) (pe_call G_normal_order (hr.mono (by decide)) (by rfl) u.g_normal_order kp_normal_order b_normal_order .nil pass0 (pa_cons (pv 1) (pa_cons (pv 2) pa_nil))))
    (pss_n (ps_set (i := 4) sc_outcome.nd rfl (Or.inl rfl) (pe_call G_first_quick (hr.mono (by decide)) (by rfl) u.g_first_quick kp_first_quick b_first_quick .nil pass0 (pa_cons (pv 0) pa_nil)))
    (pss_n (ps_asg2 pe_int (pg_name (i := 5) sc_outcome.nd rfl (Or.inl rfl)) (pg_name (i := 6) sc_outcome.nd rfl (Or.inl rfl)))
    (pss_n (ps_set (i := 7) sc_outcome.nd rfl (Or.inl rfl) (pe_lst pa_nil))
    (pss_n (ps_for PassesOwn.never rfl (pi_enum (by rfl) u.n_enumerate (pa_cons (pe_call G_split_turns (hr.mono (by decide)) (by rfl) u.g_split_turns kp_split_turns b_split_turns .nil pass0 (pa_cons (pv 1) pa_nil)) pa_nil)) (pg_tup rfl (pgs_cons (pg_name (i := 8) sc_outcome.nd rfl (Or.inl rfl)) (pgs_cons (pg_tup rfl (pgs_cons (pg_name (i := 9) sc_outcome.nd rfl (Or.inl rfl)) (pgs_cons (pg_name (i := 10) sc_outcome.nd rfl (Or.inl rfl)) (pgs_cons (pg_name (i := 11) sc_outcome.nd rfl (Or.inl rfl)) pgs_nil)))) pgs_nil)))
    (pss_n (ps_set (i := 12) sc_outcome.nd rfl (Or.inl rfl) (pe_call G_rules_of (hr.mono (by decide)) (by rfl) u.g_rules_of kp_rules_of b_rules_of .nil pass0 (pa_cons (pv 0) (pa_cons (pv 9) pa_nil))))
    (pss_n (ps_set (i := 13) sc_outcome.nd rfl (Or.inl rfl) (pe_call G_first_parts (hr.mono (by decide)) (by rfl) u.g_first_parts kp_first_parts b_first_parts .nil pass0 (pa_cons (pe_ix ix_tup (pv 4) (pe_op op_sub pe_int (pv 9)) (fun _ _ => rfl)) pa_nil)))
    (pss_n (ps_for PassesOwn.never rfl (pi_range2 (by rfl) u.n_range (pa_cons (pv 10) (pa_cons (pv 11) pa_nil))) (pg_name (i := 14) sc_outcome.nd rfl (Or.inl rfl))
    (pss_n (ps_for PassesOwn.never rfl (pi_range1 (by rfl) u.n_range (pa_cons (pe_ix ix_list (pv 3) (pv 14) (fun _ _ => rfl)) pa_nil)) (pg_name (i := 15) sc_outcome.nd rfl (Or.inl rfl))
    (pss_n (ps_asg (pe_call G_after_clearing (hr.mono (by decide)) (by rfl) u.g_after_clearing kp_after_clearing b_after_clearing .nil pass0 (pa_cons (pv 12) (pa_cons (pv 13) pa_nil))) (pg_tup rfl (pgs_cons (pg_name (i := 13) sc_outcome.nd rfl (Or.inl rfl)) (pgs_cons (pg_name (i := 16) sc_outcome.nd rfl (Or.inl rfl)) (pgs_cons (pg_name (i := 17) sc_outcome.nd rfl (Or.inl rfl)) pgs_nil)))))
    (pss_n (ps_aug (i := 5) sc_outcome.nd rfl (Or.inl rfl) (pv 16) ip_add)
    (pss_one (ps_aug (i := 6) sc_outcome.nd rfl (Or.inl rfl) (pv 17) ip_add)))))
    (pss_n (ps_asg (pe_call G_after_write (hr.mono (by decide)) (by rfl) u.g_after_write kp_after_write b_after_write .nil pass0 (pa_cons (pv 12) (pa_cons (pv 13) (pa_cons (pe_ix ix_tup (pe_ix ix_list (pv 1) (pv 14) (fun _ _ => rfl)) pe_int (fun _ _ => rfl)) (pa_cons (pe_ix ix_tup (pe_ix ix_list (pv 1) (pv 14) (fun _ _ => rfl)) pe_int (fun _ _ => rfl)) pa_nil))))) (pg_tup rfl (pgs_cons (pg_name (i := 13) sc_outcome.nd rfl (Or.inl rfl)) (pgs_cons (pg_name (i := 16) sc_outcome.nd rfl (Or.inl rfl)) (pgs_cons (pg_name (i := 17) sc_outcome.nd rfl (Or.inl rfl)) pgs_nil)))))
    (pss_n (ps_aug (i := 5) sc_outcome.nd rfl (Or.inl rfl) (pv 16) ip_add)
    (pss_one (ps_aug (i := 6) sc_outcome.nd rfl (Or.inl rfl) (pv 17) ip_add))))))
    (pss_n (ps_asg (pe_call G_after_turn (hr.mono (by decide)) (by rfl) u.g_after_turn kp_after_turn b_after_turn .nil pass0 (pa_cons (pv 12) (pa_cons (pv 13) pa_nil))) (pg_tup rfl (pgs_cons (pg_name (i := 18) sc_outcome.nd rfl (Or.inl rfl)) (pgs_cons (pg_name (i := 19) sc_outcome.nd rfl (Or.inl rfl)) (pgs_cons (pg_name (i := 16) sc_outcome.nd rfl (Or.inl rfl)) (pgs_cons (pg_name (i := 17) sc_outcome.nd rfl (Or.inl rfl)) pgs_nil))))))
    (pss_n (ps_aug (i := 5) sc_outcome.nd rfl (Or.inl rfl) (pv 16) ip_add)
    (pss_n (ps_aug (i := 6) sc_outcome.nd rfl (Or.inl rfl) (pv 17) ip_add)
    (pss_n (ps_set (i := 4) sc_outcome.nd rfl (Or.inl rfl) (pe_call G_with_quick (hr.mono (by decide)) (by rfl) u.g_with_quick kp_with_quick b_with_quick .nil pass0 (pa_cons (pv 4) (pa_cons (pe_op op_sub pe_int (pv 9)) (pa_cons (pv 19) pa_nil)))))
    (pss_one (ps_if (pt_cmpR op_gt (pv 18) pe_int (nomark _))
    (pss_one (ps_expr (pe_bm PySem.F.plainAttrs_list PySem.F.slot_list_append PySem.F.type_list_append mt_append (pv 7) (pa_cons (pv 8) pa_nil))))
    pss_nil))))))))))
    (pss_one (ps_ret (pe_make u.mk_Outcome G_Outcome__init (hr.mono (by decide)) (by rfl) u.g_Outcome b_Outcome__init .nil pass0 (pa_cons (pe_callB call_len_seq (by rfl) u.n_len PySem.boot_len (pa_cons (pv 7) pa_nil)) (pa_cons (pv 5) (pa_cons (pv 6) (pa_cons (pv 7) pa_nil)))))))))))), ?_⟩
    walk_at "s"
    obtain ⟨ps, hl, hr⟩ := id hp
    have hn : (ps.map V.ref).length = c.words.length := by rw [List.length_map, hr.len]; exact List.length_map _
    have hnw := ok.nw
    walk_at "w"
    refine ⟨p, o, c, plan, rfl, hp, by omega, ok.lens, ho, fun S H1 e1 hS => ?_⟩
    walk_at "w"
    refine ⟨a, c, rfl, hs.ex e1, fun q H2 e2 hq => ?_⟩
    walk_at "w"
    refine ⟨le_sz le_r, fun D hD => ?_⟩
    walk_at "w"
    refine ⟨p, c, rfl, hp.ex (by walk_at "e"), by omega, fun y H3 e3 hyn hy => ?_⟩
    obtain ⟨ts, hts, rts⟩ := hy
    have hD0 : H D = none := (Kp.of (F := []) ((e1.trans e2))).free hD (by simp)
    have hyD : y ≠ D := fun z => by rw [z, upd_same] at hyn; cases hyn
    have hD3 : H3 D = some (.lst []) := e3 _ _ upd_same
    have hl3 : H3 p = some (.lst (ps.map V.ref)) := by walk_at "h"
    have hS3 : H3 S = some (.lst (planL c plan)) := by walk_at "h"
    have hpD : p ∉ [D] := fun z => by rw [List.mem_singleton.mp z, hD0] at hl; cases hl
    have hSD : S ∉ [D] := fun z => by
      have := e2 _ _ hS
      rw [List.mem_singleton.mp z, hD] at this; cases this
    have exH : ∀ H', Kp [D] H3 H' → Ex H H' := fun H' kp => kp.ex (by walk_at "e") (fun b hb => by rw [List.mem_singleton.mp hb]; exact hD0)
    have q0 : H3 q = some (HO.tup (qvs fun b => (c.rule b).quick)) := by walk_at "h"
    clear e3 hD hyn hq hS
    refine ⟨_, _, rfl, SqL.of hts, for_it (walk_enum (xs := ts.map V.ref)) (fun i σ' H' => ∃ q v8 v9 v10 v11 v12 v13 v14 v15 v16 v17 v18 v19, σ' = [some (.ref a), some (.ref p), some o, some (.ref S), some (.ref q), some (.int (outT c plan (splitN c c.words.length) i).seg), some (.int (outT c plan (splitN c c.words.length) i).ack), some (.ref D), v8, v9, v10, v11, v12, v13, v14, v15, v16, v17, v18, v19] ∧
      Kp [D] H3 H' ∧ H' q = some (.tup (qvs (outT c plan (splitN c c.words.length) i).quick)) ∧ H' D = some (.lst ((outT c plan (splitN c c.words.length) i).stalled.map V.int))) ?_ ?_ ?_ ?_⟩
    · exact ⟨q, none, none, none, none, none, none, none, none, none, none, none, none, rfl, Kp.refl, q0, hD3⟩
    · rintro i σ' H' _ ⟨q, v8, v9, v10, v11, v12, v13, v14, v15, v16, v17, v18, v19, rfl, kp, _⟩
      exact SqL.of (kp _ _ hts (by simpa using hyD))
    · rintro i x σ' H' H2 hi ⟨q, v8, v9, v10, v11, v12, v13, v14, v15, v16, v17, v18, v19, rfl, kp, hq, hD'⟩ hx
      obtain ⟨T, y2, rfl, hT, rfl, hy2⟩ := yen hx
      obtain ⟨p2, r, rfl, hrr, hp2⟩ := rts.at' hy2
      obtain ⟨t, ht, rfl⟩ := map_get hrr
      have hp3 : H' p2 = some (.tup t.vs) := kp _ _ hp2 (fun z => by rw [List.mem_singleton.mp z, hD3] at hp2; cases hp2)
      have hlen : ts.length = (splitN c c.words.length).length := by rw [rts.len, List.length_map]
      obtain ⟨tb1, tb2⟩ := split_bound c _ t (List.mem_of_getElem? ht)
      have ho' : outT c plan (splitN c c.words.length) (i + 1) = oTurn c plan i t (outT c plan (splitN c c.words.length) i) := by
        show oTurn c plan i _ _ = _
        rw [List.getD_eq_getElem?_getD, ht]; rfl
      rw [ho']
      have hsl : (outT c plan (splitN c c.words.length) i).stalled.length ≤ 16 := by
        have h1 := len_stalled c plan (splitN c c.words.length) i
        have h2 := len_split c c.words.length
        have h3 := (List.getElem?_eq_some_iff.mp ht).1
        omega
      generalize outT c plan (splitN c c.words.length) i = O at *
      clear ho' hx hi hrr
      walk_at "w"
      refine ⟨a, c, t.1, rfl, hs.ex ((exH H' kp).trans (Ex.new hT)), fun R H4 e4 hR => ?_⟩
      walk_at "w"
      have hq4 : atI (qvs O.quick) (1 - wI t.1) = some (.int (O.quick (!t.1))) := by rw [wI_not]; exact qvs_at _ _
      refine ⟨q, _, _, _, rfl, rfl, SqT.of (by walk_at "h"), hq4, ?_⟩
      walk_at "w"
      refine fun PA H5 e5 hPA => ?_
      have e45 : Ex H' H5 := by walk_at "e"
      have hR5 : H5 R = some (.tup (ru c t.1).vs) := e5 _ _ hR
      have hl5 : H5 p = some (.lst (ps.map V.ref)) := e45 _ _ (kp _ _ hl3 hpD)
      have hS5 : H5 S = some (.lst (planL c plan)) := e45 _ _ (kp _ _ hS3 hSD)
      have hr5 : Rows H5 ps (wsV c) := hr.ex ((exH H' kp).trans e45)
      have hq5 := e45 _ _ hq
      have hD5 := e45 _ _ hD'
      have hy5 : Rows H5 ts ((splitN c c.words.length).map Tn.vs) := ⟨rts.len, fun i p hp => let ⟨r, a, b⟩ := rts.at_ i p hp; ⟨r, a, e45 _ _ (kp _ _ b (fun z => by rw [List.mem_singleton.mp z, hD3] at b; cases b))⟩⟩
      have kp5 : Kp [D] H3 H5 := kp.trans (Kp.of e45)
      clear e5 hR hp3 hT e4
      walk_at "w"
      refine ⟨by omega, ?_⟩
      refine for_range (n := ((t.2.2 : Int) - t.2.1).toNat) (fun j σ' H6 => ∃ PA v14 v15 v16 v17, σ' = [some (.ref a), some (.ref p), some o, some (.ref S), some (.ref q), some (.int (oIn c plan (ru c t.1) t.2.1 j (parts0 (O.quick (!t.1)), O.seg, O.ack)).2.1), some (.int (oIn c plan (ru c t.1) t.2.1 j (parts0 (O.quick (!t.1)), O.seg, O.ack)).2.2), some (.ref D), some (.int (i : Nat)), some (.int (wI t.1)), some (.int (t.2.1 : Nat)), some (.int (t.2.2 : Nat)), some (.ref R), some (.ref PA), v14, v15, v16, v17, v18, v19] ∧ Ex H5 H6 ∧ H6 PA = some (.tup (oIn c plan (ru c t.1) t.2.1 j (parts0 (O.quick (!t.1)), O.seg, O.ack)).1.vs)) ?_ ?_ ?_
      · exact ⟨PA, _, _, _, _, rfl, Same.refl _, hPA⟩
      · rintro j σ' H6 hj ⟨PA, v14, v15, v16, v17, rfl, e6, hPA⟩
        have hj' : t.2.1 + j < c.words.length := by omega
        have hat : atI (planL c plan) ((t.2.1 : Int) + (j : Nat)) = some (.int (plan (t.2.1 + j) : Nat)) := by
          rw [show ((t.2.1 : Int) + (j : Nat)) = ((t.2.1 + j : Nat) : Int) from rfl, atI_nat]; exact planL_get hj'
        have hp2' := po.le (t.2.1 + j)
        obtain ⟨pw, hpw, hpt⟩ := hr5.get (wsV_get hj')
        have hatw : atI (ps.map V.ref) ((t.2.1 : Int) + (j : Nat)) = some (.ref pw) := by
          rw [show ((t.2.1 : Int) + (j : Nat)) = ((t.2.1 + j : Nat) : Int) from rfl, atI_nat, List.getElem?_map, hpw]; rfl
        have hS1 : oIn c plan (ru c t.1) t.2.1 (j + 1) (parts0 (O.quick (!t.1)), O.seg, O.ack) = oWrite (ru c t.1) (wd c (t.2.1 + j)) (oClear (ru c t.1) (plan (t.2.1 + j)) (oIn c plan (ru c t.1) t.2.1 j (parts0 (O.quick (!t.1)), O.seg, O.ack))) := rfl
        rw [hS1]
        generalize oIn c plan (ru c t.1) t.2.1 j (parts0 (O.quick (!t.1)), O.seg, O.ack) = X at *
        walk_at "w"
        refine ⟨S, _, _, _, rfl, rfl, SqL.of (e6 _ _ hS5), hat, ?_⟩
        walk_at "w"
        refine ⟨by omega, by omega, ?_⟩
        refine for_range (n := plan (t.2.1 + j)) (fun m σ' H7 => ∃ PA v15 v16 v17, σ' = [some (.ref a), some (.ref p), some o, some (.ref S), some (.ref q), some (.int (oClear (ru c t.1) m X).2.1), some (.int (oClear (ru c t.1) m X).2.2), some (.ref D), some (.int (i : Nat)), some (.int (wI t.1)), some (.int (t.2.1 : Nat)), some (.int (t.2.2 : Nat)), some (.ref R), some (.ref PA), some (.int ((t.2.1 : Int) + (j : Nat))), v15, v16, v17, v18, v19] ∧ Ex H5 H7 ∧ H7 PA = some (.tup (oClear (ru c t.1) m X).1.vs)) ?_ ?_ ?_
        · exact ⟨PA, _, _, _, rfl, e6, hPA⟩
        · rintro m σ' H7 hm ⟨PA, v15, v16, v17, rfl, e7, hPA⟩
          rw [show oClear (ru c t.1) (m + 1) X = clear1 (ru c t.1) (oClear (ru c t.1) m X) from rfl]
          generalize oClear (ru c t.1) m X = Y at *
          walk_at "w"
          refine ⟨R, PA, ru c t.1, Y.1, rfl, (e7 _ _ hR5), hPA, fun x3 y3 H8 e8 hx3 hy3 => ?_⟩
          walk_at "w"
          exact ⟨y3, _, _, _, rfl, (by walk_at "e"), hy3⟩
        · rintro σ' H7 ⟨PA, v15, v16, v17, rfl, e7, hPA⟩
          generalize oClear (ru c t.1) (plan (t.2.1 + j)) X = Y at *
          walk_at "w"
          have hpw7 : H7 pw = some (.tup (wd c (t.2.1 + j)).vs) := e7 _ _ hpt
          have hl7 := e7 _ _ hl5
          refine ⟨p, _, _, _, rfl, rfl, SqL.of hl7, hatw, ?_⟩
          walk_at "w"
          refine ⟨p, _, _, _, rfl, rfl, SqL.of hl7, hatw, ?_⟩
          walk_at "w"
          refine ⟨R, PA, ru c t.1, Y.1, _, (wd c (t.2.1 + j)).how, rfl, (e7 _ _ hR5), hPA, ok.size, ok.sz, ok.ev0 _, ok.ev9 _, fun x3 y3 H8 e8 hx3 hy3 => ?_⟩
          walk_at "w"
          exact ⟨y3, _, _, _, _, rfl, (by walk_at "e"), hy3⟩
      · rintro σ' H6 ⟨PA, v14, v15, v16, v17, rfl, e6, hPA⟩
        have hN : ((t.2.2 : Int) - t.2.1).toNat = t.2.2 - t.2.1 := by omega
        rw [hN] at hPA ⊢
        have eT : oTurn c plan i t O = ⟨fset O.quick (!t.1) (afterTurn (ru c t.1) (oBody c plan t O).1).2.1, (oBody c plan t O).2.1 + (afterTurn (ru c t.1) (oBody c plan t O).1).2.2.1, (oBody c plan t O).2.2 + (afterTurn (ru c t.1) (oBody c plan t O).1).2.2.2, if (afterTurn (ru c t.1) (oBody c plan t O).1).1 > 0 then O.stalled ++ [(i : Int)] else O.stalled⟩ := rfl
        rw [eT]
        have eX : oIn c plan (ru c t.1) t.2.1 (t.2.2 - t.2.1) (parts0 (O.quick (!t.1)), O.seg, O.ack) = oBody c plan t O := rfl
        rw [eX] at hPA ⊢
        generalize oBody c plan t O = X at *
        walk_at "w"
        refine ⟨R, PA, ru c t.1, X.1, rfl, (e6 _ _ hR5), hPA, fun Y H7 e7 hY => ?_⟩
        generalize afterTurn (ru c t.1) X.1 = Z at *
        walk_at "w"
        have e57 : Ex H5 H7 := by walk_at "e"
        refine ⟨q, O.quick, !t.1, _, (by rw [← wI_not]; rfl), (e57 _ _ hq5), fun q2 H8 e8 hq2 => ?_⟩
        have e58 : Ex H5 H8 := by walk_at "e"
        have hD8 := e58 _ _ hD5
        walk_at "w"
        refine itb (fun hz => ?_) (fun hz => ?_)
        · walk_at "w"
          refine ⟨tyl hD8, ?_⟩
          walk_at "w"
          refine ⟨D, _, _, rfl, rfl, hD8, (by rw [List.length_map]; exact lt_sz (by omega)), ?_⟩
          have hqD : q2 ≠ D := fun z => by rw [z, hD8] at hq2; cases hq2
          refine ⟨q2, _, _, _, _, _, _, _, _, _, _, _, _, rfl, (kp5.trans (Kp.of e58)).trans (Kp.upd (by simp)), (by rw [upd_ne hqD]; exact hq2), ?_⟩
          rw [upd_same, if_pos (of_decide_eq_true hz), List.map_append]; rfl
        · refine ⟨q2, _, _, _, _, _, _, _, _, _, _, _, _, rfl, kp5.trans (Kp.of e58), hq2, ?_⟩
          rw [if_neg (of_decide_eq_false hz)]; exact hD8
    · rintro σ' H' ⟨q, v8, v9, v10, v11, v12, v13, v14, v15, v16, v17, v18, v19, rfl, kp, hq, hD'⟩
      have e7 := exH H' kp
      have hlen : (ts.map V.ref).length = (splitN c c.words.length).length := by rw [List.length_map, rts.len, List.length_map]
      rw [hlen] at hD' ⊢
      walk_at "w"
      refine ⟨_, _, rfl, Or.inl (SqL.of hD'), ?_⟩
      walk_at "w"
      intro x dx hx hdx hne
      refine ⟨x, x, dx, D, _, _, _, _, rfl, upd_same, (updEx2 hx hdx) _ _ hD', fun l H9 kp9 hx9 hl9 => ⟨rfl, ?_⟩⟩
      have e9 := mkEx hx hdx hne kp9
      exact k x H9 (e7.trans e9) ⟨⟨dx, l, by rw [List.length_map] at hx9; exact hx9, hl9⟩⟩
end
end Lw
namespace Lw
open PySem PySem.Spec PyProof.Rows L2
section
variable {P : Program} {w : World} {K : PySem.W.Frag} {mg : Str → Option Value} {base : Heap}
local macro_rules | `(tactic| walk_at "h") => `(tactic| first | assumption | exact upd_same | (refine xn (by assumption) ?_; walk_at "h") | (refine exapp (by assumption) ?_; walk_at "h"))
local macro_rules | `(tactic| walk_at "e") => `(tactic| first | exact Same.refl _ | assumption | (refine Same.trans ?_ (Ex.new (by assumption)); walk_at "e") | (refine Same.trans ?_ (by assumption); walk_at "e"))
local macro_rules | `(tactic| walk_at "w") => `(tactic| repeat (first | refine ⟨_, rfl, ?_⟩ | refine ⟨_, _, rfl, rfl, ?_⟩ | refine ⟨_, _, _, _, rfl, rfl, SqT.of (by walk_at "h"), (by rfl), ?_⟩ | (refine fun σ2 (hσ : σ2 = _) => ?_; (try simp only [List.set_cons_succ, List.set_cons_zero] at hσ); subst hσ) | refine ⟨_, _, rfl, SqT.of (by walk_at "h"), (by rfl), ?_⟩ | refine ⟨rfl, ?_⟩ | refine ⟨_, _, rfl, ?_⟩))
local macro_rules | `(tactic| walk_at "s") => `(tactic| (intro σ hσ; simp only [start_eq, List.map_cons, List.map_nil, List.length_cons, List.length_nil, List.cons_append, List.nil_append, Nat.reduceAdd, Nat.reduceSub, List.replicate_succ, List.replicate_zero] at hσ; subst hσ))

def spLawSend : Sp := fun vs H Q _ => ∃ (f : Fr) (c : Cfg) (m : Mo) (b : Bool) (n : Int), vs = [.ref f.M, .int (wI b), .int n] ∧ LwM c f H m ∧ (m.way b).length < 90000 ∧
  ∀ H', Kp f.ft H H' → LwM c f H' (send c b n m) → Q .non H'
theorem ok_law_send (u : U K mg) : Ok P w K mg base 1 (He.ga K "_law_send") ["_law_model_here", "_law_who", "_law_count"] spLawSend := by
  obtain ⟨fd, F⟩ := u.d_law_send
  refine mkOk F sc_law_send (fun _ _ _ _ _ _ us hl => match us, hl with | [_, _, _], _ => rfl) (fun vs H Q E h => ?_) (fun cdv A outer s H vs Q E hr h => ?_)
  · obtain ⟨f, c, m, b, n, rfl, hm, h1, k⟩ := h
    rfl
  · obtain ⟨f, c, m, b, n, rfl, hm, h1, k⟩ := h
    have hu := hu_of hr
    refine ⟨_, (pss_n (ps_par (i := 3) (j := 4) rfl sc_law_send.nd rfl rfl (by decide) rfl rfl (pa_cons (pe_ix ix_list (pe_dget hu (pv 0) pe_str (fun _ _ => rfl)) (pv 1) (fun _ _ => rfl)) (pa_cons (pe_ix ix_list (pe_dget hu (pv 0) pe_str (fun _ _ => rfl)) (pv 1) (fun _ _ => rfl)) pa_nil)) (by rfl))
    (pss_n (ps_daug hu (pv 3) pe_str (pv 2) in_sub (fun _ _ _ => rfl))
    (pss_n (ps_daug hu (pv 3) pe_str (pv 2) in_add (fun _ _ _ => rfl))
    (pss_n (ps_dput hu (pv 3) pe_str pe_int rfl)
    (Evl.pss_cut (ps_if (pt_chain op_lt op_lt pe_int (pv 2) (pe_dget hu (pv 0) pe_str (fun _ _ => rfl)))
    (pss_n (ps_dput hu (pv 3) pe_str (pe_dget hu (pv 3) pe_str (fun _ _ => rfl)) rfl)
    (pss_one (ps_dput hu (pv 3) pe_str pe_bl rfl)))
    pss_nil)
    (pss_one (ps_expr (pe_bm PySem.F.plainAttrs_list PySem.F.slot_list_append PySem.F.type_list_append mt_append (pv 4) (pa_cons (pe_tup (pa_cons (pv 2) (pa_cons (pe_dget hu (pv 3) pe_str (fun _ _ => rfl)) pa_nil))) pa_nil))))))))), ?_⟩
    walk_at "s"
    obtain ⟨WD, RL, r, L⟩ := hm
    generalize hs : m.side b = s0 at *
    obtain ⟨a1, a2, a3, a4, a5, a6, a7, a8⟩ := s0
    have L0 := L.open_ b
    rw [hs] at L0
    walk_at "w"
    refine L.getM (mk_sides _ _ _ _ _ _ _) ?_
    walk_at "w"
    
    refine x_lst L.bx.sl (Bx.s_at f b) ?_
    walk_at "w"
    refine L.getM (mk_ways _ _ _ _ _ _ _) ?_
    walk_at "w"
    
    refine x_lst L.bx.wl (Bx.w_at f b) ?_
    walk_at "w"
    refine L0.getS (fset_same _ _ _) (sk_rest _ _ _ _ _ _ _ _) ?_
    walk_at "w"
    refine L0.putS (fset_same _ _ _) (sp_rest _ _ _ _ _ _ _ _ _) fun H1 kp1 L1 => ?_
    rw [fset_fset] at L1
    walk_at "w"
    refine L1.getS (fset_same _ _ _) (sk_sent _ _ _ _ _ _ _ _) ?_
    walk_at "w"
    refine L1.putS (fset_same _ _ _) (sp_sent _ _ _ _ _ _ _ _ _) fun H2 kp2 L2 => ?_
    rw [fset_fset] at L2
    walk_at "w"
    refine L2.putS1 (fset_same _ _ _) (sp_fulls _ _ _ _ _ _ _ _ _) fun H3 kp3 L3 => ?_
    rw [fset_fset] at L3
    walk_at "w"
    
    refine ⟨fun σ' H' => σ' = [some (V.ref f.M), some (V.int (wI b)), some (V.int n), some (V.ref (f.s b)), some (V.ref (f.w b))] ∧ Kp f.ft H H' ∧ LawAt c f WD RL r H' m.made m.stalls (fset m.side b (sendS c.size n ⟨a1, a2, a3, a4, a5, a6, a7, a8⟩)) m.way, ?_, ?_⟩
    · walk_at "w"
      refine itb (fun z1 => ?_) (fun z1 => ?_)
      · walk_at "w"
        refine L3.getM (mk_size _ _ _ _ _ _ _) ?_
        walk_at "w"
        
        refine itb (fun z2 => ?_) (fun z2 => ?_)
        · walk_at "w"
          refine L3.getS (fset_same _ _ _) (sk_sent _ _ _ _ _ _ _ _) ?_
          walk_at "w"
          refine L3.putS1 (fset_same _ _ _) (sp_mark _ _ _ _ _ _ _ _ _) fun H4 kp4 L4 => ?_
          rw [fset_fset] at L4
          walk_at "w"
          refine L4.putS1 (fset_same _ _ _) (sp_kept _ _ _ _ _ _ _ _ _) fun H5 kp5 L5 => ?_
          rw [fset_fset] at L5
          walk_at "w"
          
          have es : sendS c.size n ⟨a1, a2, a3, a4, a5, a6, a7, a8⟩ = ⟨a1 - n, false, a3 + n, a4, a5, 0, a7, a3 + n⟩ := by
            unfold sendS; rw [if_pos ⟨of_decide_eq_true z1, of_decide_eq_true z2⟩, if_pos ⟨of_decide_eq_true z1, of_decide_eq_true z2⟩]
          refine ⟨(((kp1.trans kp2).trans kp3).trans kp4).trans kp5, ?_⟩
          rw [es]; exact L5
        · have es : sendS c.size n ⟨a1, a2, a3, a4, a5, a6, a7, a8⟩ = ⟨a1 - n, a2, a3 + n, a4, a5, 0, a7, a8⟩ := by
            unfold sendS; rw [if_neg (fun z => of_decide_eq_false z2 z.2), if_neg (fun z => of_decide_eq_false z2 z.2)]
          refine ⟨rfl, (kp1.trans kp2).trans kp3, ?_⟩
          rw [es]; exact L3
      · have es : sendS c.size n ⟨a1, a2, a3, a4, a5, a6, a7, a8⟩ = ⟨a1 - n, a2, a3 + n, a4, a5, 0, a7, a8⟩ := by
          unfold sendS; rw [if_neg (fun z => of_decide_eq_false z1 z.1), if_neg (fun z => of_decide_eq_false z1 z.1)]
        refine ⟨_, rfl, itf rfl ⟨rfl, (kp1.trans kp2).trans kp3, ?_⟩⟩
        rw [es]; exact L3
    · rintro _ H6 ⟨rfl, kp6, L6⟩
      have hg : (sendS c.size n ⟨a1, a2, a3, a4, a5, a6, a7, a8⟩).got = a5 := rfl
      generalize hs6 : sendS c.size n ⟨a1, a2, a3, a4, a5, a6, a7, a8⟩ = s6 at *
      obtain ⟨b1, b2, b3, b4, b5, b6, b7, b8⟩ := s6
      dsimp only at hg
      subst hg
      obtain ⟨qs, hq, _⟩ := L6.bx.wal b
      walk_at "w"
      refine ⟨tyl hq, ?_⟩
      walk_at "w"
      refine L6.getS (fset_same _ _ _) (sk_got _ _ _ _ _ _ _ _) ?_
      walk_at "w"
      
      refine ⟨le_sz le_r, fun T hT => ?_⟩
      refine (L6.ex (Ex.new hT)).pushW upd_same (by omega) fun H8 kp8 L8 => ?_
      refine k H8 ((kp6.trans (Kp.of (Ex.new hT))).trans kp8) ⟨WD, RL, r, ?_⟩
      show LawAt c f WD RL r H8 m.made m.stalls (fset m.side b (sendS c.size n (m.side b))) (fset m.way b (m.way b ++ [(n, (m.side b).got)]))
      rw [hs, hs6]
      exact L8

def spLawMaySend : Sp := fun vs H Q _ => ∃ (f : Fr) (c : Cfg) (m : Mo) (b : Bool), vs = [.ref f.M, .int (wI b)] ∧ LwM c f H m ∧ Q (.bl (may c b (m.side b))) H
theorem ok_law_may_send (u : U K mg) : Ok P w K mg base 1 (He.ga K "_law_may_send") ["_law_model_here", "_law_who"] spLawMaySend := by
  obtain ⟨fd, F⟩ := u.d_law_may_send
  refine mkOk F sc_law_may_send (fun _ _ _ _ _ _ us hl => match us, hl with | [_, _], _ => rfl) (fun vs H Q E h => ?_) (fun cdv A outer s H vs Q E hr h => ?_)
  · obtain ⟨f, c, m, b, rfl, hm, k⟩ := h
    rfl
  · obtain ⟨f, c, m, b, rfl, hm, k⟩ := h
    have hu := hu_of hr
    refine ⟨_, (pss_n (ps_par (i := 2) (j := 3) rfl sc_law_may_send.nd rfl rfl (by decide) rfl rfl (pa_cons (pe_ix ix_list (pe_dget hu (pv 0) pe_str (fun _ _ => rfl)) (pv 1) (fun _ _ => rfl)) (pa_cons (pe_ix ix_tup (pe_ix ix_list (pe_dget hu (pv 0) pe_str (fun _ _ => rfl)) (pv 1) (fun _ _ => rfl)) pe_int (fun _ _ => rfl)) pa_nil)) (by rfl))
    (pss_n (ps_if (pt_cmpR op_eq (pv 3) pe_str (nomark _))
    (pss_one (ps_ret (pe_cmpR op_ge (pe_dget hu (pv 2) pe_str (fun _ _ => rfl)) (pe_dget hu (pv 2) pe_str (fun _ _ => rfl)) (nomark _))))
    pss_nil)
    (pss_one (ps_ret (pe_or (pe_cmpR op_eq (pv 3) pe_str (nomark _)) (pe_one (pe_cmpR op_eq (pe_dget hu (pv 2) pe_str (fun _ _ => rfl)) (pe_dget hu (pv 2) pe_str (fun _ _ => rfl)) (nomark _)))))))), ?_⟩
    walk_at "s"
    obtain ⟨WD, RL, r, L⟩ := hm
    generalize hs : m.side b = s0 at *
    obtain ⟨a1, a2, a3, a4, a5, a6, a7, a8⟩ := s0
    walk_at "w"
    refine L.getM (mk_sides _ _ _ _ _ _ _) ?_
    walk_at "w"
    
    refine x_lst L.bx.sl (Bx.s_at f b) ?_
    walk_at "w"
    refine L.getM (mk_rules _ _ _ _ _ _ _) ?_
    walk_at "w"
    
    refine x_lst L.rl (show atI [V.ref (r false), V.ref (r true)] (wI b) = some (.ref (r b)) by cases b <;> rfl) ?_
    walk_at "w"
    refine ⟨_, _, _, _, rfl, rfl, SqT.of (L.ru b), rfl, ?_⟩
    walk_at "w"
    have hs1 := L.bx.si b
    unfold may at k
    generalize (c.rule b).hold = h at *
    rw [hold_part]
    cases h
    · refine itf rfl ?_
      walk_at "w"
      exact itt (by rw [hold_off]; rfl) k
    · refine itt rfl ?_
      walk_at "w"
      refine L.getS (hs) (sk_told _ _ _ _ _ _ _ _) ?_
      walk_at "w"
      refine L.getS (hs) (sk_mark _ _ _ _ _ _ _ _) ?_
      walk_at "w"
      
      exact k
    · refine itf rfl ?_
      walk_at "w"
      refine L.getS (hs) (sk_told _ _ _ _ _ _ _ _) ?_
      walk_at "w"
      refine L.getS (hs) (sk_sent _ _ _ _ _ _ _ _) ?_
      walk_at "w"
      
      show Q (.bl (decide (V.int a4 = V.int a3))) H
      rw [dec_int]
      exact k

theorem sends_way_len (c : Cfg) (b : Bool) : ∀ (n : Nat) (m : Mo), ((sends c b n m).way b).length = (m.way b).length + n
  | 0, m => rfl
  | n + 1, m => by
    show ((sends c b n (send c b c.size m)).way b).length = _
    rw [sends_way_len c b n, send_way, List.length_append, List.length_singleton]
    omega
def spLawWrite : Sp := fun vs H Q _ => ∃ (f : Fr) (c : Cfg) (m : Mo), vs = [.ref f.M] ∧ LwM c f H m ∧ m.made < c.words.length ∧ 0 < c.size ∧ 0 ≤ (m.side (wd c m.made).who).rest ∧ 0 < (wd c m.made).len ∧ (m.way (wd c m.made).who).length + nFull c (wd c m.made) m < 80000 ∧
  ∀ H', Kp f.ft H H' → LwM c f H' (write c m) → Q .non H'
theorem ok_law_write (u : U K mg) : Ok P w K mg base 2 (He.ga K "_law_write") ["_law_model_here"] spLawWrite := by
  obtain ⟨fd_law_send, G_law_send, kp_law_send, b_law_send⟩ := (ok_law_send (P := P) (w := w) (base := base) u).ex
  obtain ⟨fd_law_may_send, G_law_may_send, kp_law_may_send, b_law_may_send⟩ := (ok_law_may_send (P := P) (w := w) (base := base) u).ex
  obtain ⟨fd, F⟩ := u.d_law_write
  refine mkOk F sc_law_write (fun _ _ _ _ _ _ us hl => match us, hl with | [_], _ => rfl) (fun vs H Q E h => ?_) (fun cdv A outer s H vs Q E hr h => ?_)
  · obtain ⟨f, c, m, rfl, hm, h1, h2, h3, h4, h5, k⟩ := h
    rfl
  · obtain ⟨f, c, m, rfl, hm, h1, h2, h3, h4, h5, k⟩ := h
    have hu := hu_of hr
    refine ⟨_, (pss_n (ps_asg (pe_ix ix_list (pe_dget hu (pv 0) pe_str (fun _ _ => rfl)) (pe_dget hu (pv 0) pe_str (fun _ _ => rfl)) (fun _ _ => rfl)) (pg_tup rfl (pgs_cons (pg_name (i := 1) sc_law_write.nd rfl (Or.inl rfl)) (pgs_cons (pg_name (i := 2) sc_law_write.nd rfl (Or.inl rfl)) (pgs_cons (pg_name (i := 3) sc_law_write.nd rfl (Or.inl rfl)) pgs_nil)))))
    (pss_n (ps_set (i := 4) sc_law_write.nd rfl (Or.inl rfl) (pe_ix ix_list (pe_dget hu (pv 0) pe_str (fun _ _ => rfl)) (pv 1) (fun _ _ => rfl)))
    (pss_n (ps_daug hu (pv 0) pe_str pe_int in_add (fun _ _ _ => rfl))
    (pss_n (ps_daug hu (pv 4) pe_str (pv 2) in_add (fun _ _ _ => rfl))
    (pss_n (ps_dput hu (pv 4) pe_str pe_bl rfl)
    (Evl.pss_cut (ps_while PassesOwn.never (pt_cmpR op_ge (pe_dget hu (pv 4) pe_str (fun _ _ => rfl)) (pe_dget hu (pv 0) pe_str (fun _ _ => rfl)) (nomark _))
    (pss_one (ps_expr (pe_call G_law_send (hr.mono (by decide)) (by rfl) u.g__law_send kp_law_send b_law_send .nil pass0 (pa_cons (pv 0) (pa_cons (pv 1) (pa_cons (pe_dget hu (pv 0) pe_str (fun _ _ => rfl)) pa_nil)))))))
    (pss_one (ps_if (PW.pt (pw_and (pt_cmpR op_gt (pe_dget hu (pv 4) pe_str (fun _ _ => rfl)) pe_int (nomark _)) (pw_and1 (pt_cmpR op_eq (pv 3) pe_str (nomark _)))))
    (pss_one (ps_dput hu (pv 4) pe_str pe_bl rfl))
    (pss_one (ps_if (PW.pt (pw_and (pt_cmpR op_gt (pe_dget hu (pv 4) pe_str (fun _ _ => rfl)) pe_int (nomark _)) (pw_and1 (PW.pt (pw_or (pt_cmpR op_eq (pv 3) pe_str (nomark _)) (pw_or1 (pt_val (pe_call G_law_may_send (hr.mono (by decide)) (by rfl) u.g__law_may_send kp_law_may_send b_law_may_send .nil pass0 (pa_cons (pv 0) (pa_cons (pv 1) pa_nil))))))))))
    (pss_one (ps_expr (pe_call G_law_send (hr.mono (by decide)) (by rfl) u.g__law_send kp_law_send b_law_send .nil pass0 (pa_cons (pv 0) (pa_cons (pv 1) (pa_cons (pe_dget hu (pv 4) pe_str (fun _ _ => rfl)) pa_nil))))))
    pss_nil)))))))))), ?_⟩
    walk_at "s"
    obtain ⟨WD, RL, r, L⟩ := hm
    obtain ⟨qs, hqs, hqr⟩ := L.wd
    obtain ⟨pw, hpw, hpt⟩ := hqr.get (wsV_get h1)
    have hat : atI (qs.map V.ref) ((m.made : Nat) : Int) = some (.ref pw) := by rw [atI_nat, List.getElem?_map, hpw]; rfl
    have eW : write c m = wTail c (wd c m.made).who (wd c m.made).how (sends c (wd c m.made).who (nFull c (wd c m.made) m) (wHead c (wd c m.made) m)) := rfl
    generalize hw : wd c m.made = x at *
    generalize hs : m.side x.who = s0 at *
    obtain ⟨a1, a2, a3, a4, a5, a6, a7, a8⟩ := s0
    have L0 := L.open_ x.who
    rw [hs] at L0
    walk_at "w"
    refine L.getM (mk_words _ _ _ _ _ _ _) ?_
    walk_at "w"
    refine L.getM (mk_made _ _ _ _ _ _ _) ?_
    walk_at "w"
    
    refine x_lst hqs hat ?_
    walk_at "w"
    refine L.getM (mk_sides _ _ _ _ _ _ _) ?_
    walk_at "w"
    
    refine x_lst L.bx.sl (Bx.s_at f x.who) ?_
    walk_at "w"
    refine L.getM (mk_made _ _ _ _ _ _ _) ?_
    walk_at "w"
    
    refine L0.putM (mp_made WD RL f.SL f.WL c.size m.stalls m.made (m.made + 1)) fun H1 kp1 L1 => ?_
    walk_at "w"
    refine L1.getS (fset_same _ _ _) (sk_rest _ _ _ _ _ _ _ _) ?_
    walk_at "w"
    refine L1.putS (fset_same _ _ _) (sp_rest _ _ _ _ _ _ _ _ _) fun H2 kp2 L2 => ?_
    rw [fset_fset] at L2
    walk_at "w"
    refine L2.putS1 (fset_same _ _ _) (sp_kept _ _ _ _ _ _ _ _ _) fun H3 kp3 L3 => ?_
    rw [fset_fset] at L3
    walk_at "w"
    
    have kp3' := (kp1.trans kp2).trans kp3
    have M3 : LwM c f H3 (wHead c x m) := ⟨WD, RL, r, by
      show LawAt c f WD RL r H3 (m.made + 1) m.stalls (fset m.side x.who { m.side x.who with rest := (m.side x.who).rest + x.len, kept := false }) m.way
      rw [hs]; exact L3⟩
    have hr0 : ((wHead c x m).side x.who).rest = a1 + x.len := by
      show (fset m.side x.who { m.side x.who with rest := (m.side x.who).rest + x.len, kept := false } x.who).rest = _
      rw [fset_same, hs]
    have hn0 : nFull c x m = ((a1 + x.len) / c.size).toNat := by unfold nFull; rw [hs]
    dsimp only at h3
    have hdm := Int.mul_ediv_add_emod (a1 + x.len) c.size
    have hm0 := Int.emod_nonneg (a1 + x.len) (Int.ne_of_gt h2)
    have hm1 := Int.emod_lt_of_pos (a1 + x.len) h2
    have hq0 : 0 ≤ (a1 + x.len) / c.size := Int.ediv_nonneg (by omega) (by omega)
    have hn1 : ((nFull c x m : Nat) : Int) = (a1 + x.len) / c.size := by rw [hn0]; omega
    have hwy : ((wHead c x m).way x.who) = m.way x.who := rfl
    generalize wHead c x m = mh at *
    generalize nFull c x m = N at *
    refine ⟨fun σ' H' => σ' = [some (.ref f.M), some (.int (wI x.who)), some (.int x.len), some (.str x.how.str), some (.ref (f.s x.who))] ∧ Kp f.ft H H' ∧ LwM c f H' (sends c x.who N mh), ?_, ?_⟩
    · refine ⟨fun j σ' H' => σ' = [some (.ref f.M), some (.int (wI x.who)), some (.int x.len), some (.str x.how.str), some (.ref (f.s x.who))] ∧ Kp f.ft H H' ∧ ∃ m1, LwM c f H' m1 ∧ sends c x.who j m1 = sends c x.who N mh ∧ (m1.side x.who).rest = c.size * (j : Nat) + (a1 + x.len) % c.size ∧ (m1.way x.who).length + j < 80000, ⟨N, rfl, kp3', mh, M3, rfl, ?_, by rw [hwy]; exact h5⟩, ?_⟩
      · rw [hr0, hn1]; exact hdm.symm
      · rintro j σ' H' ⟨rfl, kp, m1, ⟨WD', RL', r', L'⟩, e1, e2, e3⟩
        walk_at "w"
        refine L'.getS rfl (gk_rest _) ?_
        walk_at "w"
        refine L'.getM (mk_size _ _ _ _ _ _ _) ?_
        walk_at "w"
    
        refine itb (fun z => ?_) (fun z => ?_)
        · have zz := of_decide_eq_true z
          obtain ⟨i, rfl⟩ : ∃ i, j = i + 1 := by
            cases j with
            | zero => exfalso; rw [e2] at zz; simp at zz; omega
            | succ i => exact ⟨i, rfl⟩
          refine ⟨_, fun σ' H' h => ⟨i, Nat.lt_succ_self i, h⟩, ?_⟩
          walk_at "w"
          refine L'.getM (mk_size _ _ _ _ _ _ _) ?_
          walk_at "w"
    
          refine ⟨f, c, m1, x.who, c.size, rfl, ⟨WD', RL', r', L'⟩, by omega, fun H2 kp2 L2 => ?_⟩
          refine ⟨rfl, kp.trans kp2, send c x.who c.size m1, L2, e1, ?_, ?_⟩
          · rw [send_side]
            show (m1.side x.who).rest - c.size = _
            rw [e2, Int.natCast_add, Int.mul_add]
            show c.size * (i : Nat) + c.size * 1 + _ - _ = _
            omega
          · rw [send_way, List.length_append, List.length_singleton]; omega
        · have zz := of_decide_eq_false z
          have j0 : j = 0 := by
            cases j with
            | zero => rfl
            | succ i =>
              exfalso; apply zz
              rw [e2, Int.natCast_add, Int.mul_add]
              have : 0 ≤ c.size * (i : Nat) := Int.mul_nonneg (by omega) (by omega)
              show c.size ≤ c.size * (i : Nat) + c.size * 1 + _
              omega
          subst j0
          refine ⟨rfl, kp, ?_⟩
          rw [← e1]; exact ⟨WD', RL', r', L'⟩
    · rintro _ H' ⟨rfl, kp, M⟩
      have hwl : ((sends c x.who N mh).way x.who).length < 90000 := by rw [sends_way_len, hwy]; omega
      generalize sends c x.who N mh = m2 at *
      obtain ⟨WD', RL', r', L'⟩ := id M
      have nosend : write c m = m2 → Q .non H' := fun e => k H' kp (by rw [e]; exact M)
      have hwt : write c m = if (m2.side x.who).rest > 0 ∧ x.how = .more then setSide m2 x.who { m2.side x.who with kept := true } else if (m2.side x.who).rest > 0 ∧ (x.how = .push ∨ may c x.who (m2.side x.who) = true) then send c x.who (m2.side x.who).rest m2 else m2 := eW
      clear eW hn0
      walk_at "w"
      refine L'.getS rfl (gk_rest _) ?_
      walk_at "w"
    
      refine itb (fun z1 => ?_) (fun z1 => ?_)
      · have z1' := of_decide_eq_true z1
        walk_at "w"
        rw [mode_more]
        refine itb (fun z2 => ?_) (fun z2 => ?_)
        · have z2' := of_decide_eq_true z2
          rw [if_pos ⟨z1', z2'⟩] at hwt
          walk_at "w"
          refine L'.putS1 rfl (gp_kept _ true) fun H9 kp9 L9 => ?_
          exact k H9 (kp.trans kp9) (by rw [hwt]; exact ⟨WD', RL', r', L9⟩)
        · have z2' := of_decide_eq_false z2
          rw [if_neg (fun z => z2' z.2)] at hwt
          walk_at "w"
          refine L'.getS rfl (gk_rest _) ?_
          walk_at "w"
    
          refine itt z1 ?_
          walk_at "w"
          rw [mode_push]
          refine itb (fun z3 => ?_) (fun z3 => ?_)
          · rw [if_pos ⟨z1', Or.inl (of_decide_eq_true z3)⟩] at hwt
            walk_at "w"
            refine L'.getS rfl (gk_rest _) ?_
            walk_at "w"
    
            refine ⟨f, c, m2, x.who, (m2.side x.who).rest, rfl, M, by omega, fun H9 kp9 L9 => ?_⟩
            exact k H9 (kp.trans kp9) (by rw [hwt]; exact L9)
          · walk_at "w"
            refine ⟨f, c, m2, x.who, rfl, M, ?_⟩
            refine ⟨_, rfl, itb (fun z4 => ?_) (fun z4 => ?_)⟩
            · rw [if_pos ⟨z1', Or.inr z4⟩] at hwt
              walk_at "w"
              refine L'.getS rfl (gk_rest _) ?_
              walk_at "w"
    
              refine ⟨f, c, m2, x.who, (m2.side x.who).rest, rfl, M, by omega, fun H9 kp9 L9 => ?_⟩
              exact k H9 (kp.trans kp9) (by rw [hwt]; exact L9)
            · rw [if_neg (fun z => by rcases z.2 with z | z; exact of_decide_eq_false z3 z; rw [z] at z4; cases z4)] at hwt
              exact nosend hwt
      · have z1' := of_decide_eq_false z1
        rw [if_neg (fun z => z1' z.1), if_neg (fun z => z1' z.1)] at hwt
        refine itf rfl ?_
        walk_at "w"
        refine L'.getS rfl (gk_rest _) ?_
        walk_at "w"
    
        refine itf z1 ?_
        exact itf rfl (nosend hwt)
end
end Lw
namespace Lw
open PySem PySem.Spec PyProof.Rows L2
section
variable {P : Program} {w : World} {K : PySem.W.Frag} {mg : Str → Option Value} {base : Heap}
local macro_rules | `(tactic| walk_at "h") => `(tactic| first | assumption | exact upd_same | (refine xn (by assumption) ?_; walk_at "h") | (refine exapp (by assumption) ?_; walk_at "h"))
local macro_rules | `(tactic| walk_at "e") => `(tactic| first | exact Same.refl _ | assumption | (refine Same.trans ?_ (Ex.new (by assumption)); walk_at "e") | (refine Same.trans ?_ (by assumption); walk_at "e"))
local macro_rules | `(tactic| walk_at "w") => `(tactic| repeat (first | refine ⟨_, rfl, ?_⟩ | refine ⟨_, _, rfl, rfl, ?_⟩ | refine ⟨_, _, _, _, rfl, rfl, SqT.of (by walk_at "h"), (by rfl), ?_⟩ | (refine fun σ2 (hσ : σ2 = _) => ?_; (try simp only [List.set_cons_succ, List.set_cons_zero] at hσ); subst hσ) | refine ⟨_, _, rfl, SqT.of (by walk_at "h"), (by rfl), ?_⟩ | refine ⟨rfl, ?_⟩ | refine ⟨_, _, rfl, ?_⟩))
local macro_rules | `(tactic| walk_at "s") => `(tactic| (intro σ hσ; simp only [start_eq, List.map_cons, List.map_nil, List.length_cons, List.length_nil, List.cons_append, List.nil_append, Nat.reduceAdd, Nat.reduceSub, List.replicate_succ, List.replicate_zero] at hσ; subst hσ))

def spLawFire : Sp := fun vs H Q _ => ∃ (f : Fr) (c : Cfg) (m : Mo), vs = [.ref f.M] ∧ LwM c f H m ∧ 0 < m.made ∧ m.made ≤ c.words.length ∧ (∀ b, (m.way b).length < 80000) ∧
  ∀ H', Kp f.ft H H' → LwM c f H' (fire c m) → Q .non H'
theorem ok_law_fire (u : U K mg) : Ok P w K mg base 2 (He.ga K "_law_fire") ["_law_model_here"] spLawFire := by
  obtain ⟨fd_law_send, G_law_send, kp_law_send, b_law_send⟩ := (ok_law_send (P := P) (w := w) (base := base) u).ex
  obtain ⟨fd, F⟩ := u.d_law_fire
  refine mkOk F sc_law_fire (fun _ _ _ _ _ _ us hl => match us, hl with | [_], _ => rfl) (fun vs H Q E h => ?_) (fun cdv A outer s H vs Q E hr h => ?_)
  · obtain ⟨f, c, m, rfl, hm, h1, h2, h3, k⟩ := h
    rfl
  · obtain ⟨f, c, m, rfl, hm, h1, h2, h3, k⟩ := h
    have hu := hu_of hr
    refine ⟨_, (pss_n (ps_set (i := 1) sc_law_fire.nd rfl (Or.inl rfl) (pe_ix ix_tup (pe_ix ix_list (pe_dget hu (pv 0) pe_str (fun _ _ => rfl)) (pe_op op_sub (pe_dget hu (pv 0) pe_str (fun _ _ => rfl)) pe_int) (fun _ _ => rfl)) pe_int (fun _ _ => rfl)))
    (pss_n (ps_set (i := 2) sc_law_fire.nd rfl (Or.inl rfl) (pe_ix ix_list (pe_dget hu (pv 0) pe_str (fun _ _ => rfl)) (pv 1) (fun _ _ => rfl)))
    (pss_n (ps_daug hu (pv 0) pe_str pe_int in_add (fun _ _ _ => rfl))
    (pss_one (ps_if (pt_val (pe_dget hu (pv 2) pe_str (fun _ _ => rfl)))
    (pss_one (ps_expr (pe_call G_law_send (hr.mono (by decide)) (by rfl) u.g__law_send kp_law_send b_law_send .nil pass0 (pa_cons (pv 0) (pa_cons (pv 1) (pa_cons (pe_dget hu (pv 2) pe_str (fun _ _ => rfl)) pa_nil))))))
    (pss_one (ps_expr (pe_call G_law_send (hr.mono (by decide)) (by rfl) u.g__law_send kp_law_send b_law_send .nil pass0 (pa_cons (pv 0) (pa_cons (pe_op op_sub pe_int (pv 1)) (pa_cons pe_int pa_nil))))))))))), ?_⟩
    walk_at "s"
    obtain ⟨WD, RL, r, L⟩ := hm
    obtain ⟨qs, hqs, hqr⟩ := L.wd
    obtain ⟨pw, hpw, hpt⟩ := hqr.get (wsV_get (show m.made - 1 < c.words.length by omega))
    have hat : atI (qs.map V.ref) ((m.made : Nat) - 1 : Int) = some (.ref pw) := by
      rw [show ((m.made : Nat) - 1 : Int) = ((m.made - 1 : Nat) : Int) by omega, atI_nat, List.getElem?_map, hpw]; rfl
    have eF : fire c m = if (m.side (wd c (m.made - 1)).who).kept = true then send c (wd c (m.made - 1)).who (m.side (wd c (m.made - 1)).who).rest { m with stalls := m.stalls + 1 } else send c (!(wd c (m.made - 1)).who) 0 { m with stalls := m.stalls + 1 } := rfl
    generalize wd c (m.made - 1) = x at *
    walk_at "w"
    refine L.getM (mk_words _ _ _ _ _ _ _) ?_
    walk_at "w"
    refine L.getM (mk_made _ _ _ _ _ _ _) ?_
    walk_at "w"
    
    refine x_lst hqs hat ?_
    walk_at "w"
    refine L.getM (mk_sides _ _ _ _ _ _ _) ?_
    walk_at "w"
    refine x_lst L.bx.sl (Bx.s_at f x.who) ?_
    walk_at "w"
    refine L.getM (mk_stalls _ _ _ _ _ _ _) ?_
    walk_at "w"
    
    refine L.putM (mp_stalls WD RL f.SL f.WL c.size m.stalls (m.stalls + 1) m.made) fun H1 kp1 L1 => ?_
    walk_at "w"
    refine L1.getS rfl (gk_kept _) ?_
    walk_at "w"
    
    refine itb (fun z => ?_) (fun z => ?_)
    · rw [if_pos z] at eF
      walk_at "w"
      refine L1.getS rfl (gk_rest _) ?_
      walk_at "w"
    
      refine ⟨f, c, { m with stalls := m.stalls + 1 }, x.who, _, rfl, ⟨WD, RL, r, L1⟩, ?_, fun H2 kp2 L2 => ?_⟩
      · have := h3 x.who
        show (m.way x.who).length < 90000
        omega
      · exact k H2 (kp1.trans kp2) (by rw [eF]; exact L2)
    · rw [z] at eF
      walk_at "w"
      refine ⟨f, c, { m with stalls := m.stalls + 1 }, !x.who, 0, (by rw [← wI_not]; rfl), ⟨WD, RL, r, L1⟩, ?_, fun H2 kp2 L2 => ?_⟩
      · have := h3 (!x.who)
        show (m.way (!x.who)).length < 90000
        omega
      · exact k H2 (kp1.trans kp2) (by rw [eF]; exact L2)

theorem max_if (a b : Int) : (if b > a then b else a) = max a b := by
  rw [Int.max_def]
  split <;> split <;> omega
def spLawArrive : Sp := fun vs H Q _ => ∃ (f : Fr) (c : Cfg) (m : Mo) (a : Bool), vs = [.ref f.M, .int (wI a)] ∧ LwM c f H m ∧ m.way a ≠ [] ∧ (∀ b, (m.way b).length < 80000) ∧
  ∀ H', Kp f.ft H H' → LwM c f H' (arrive c a m) → Q .non H'
theorem ok_law_arrive (u : U K mg) : Ok P w K mg base 2 (He.ga K "_law_arrive") ["_law_model_here", "_law_sender"] spLawArrive := by
  obtain ⟨fd_law_may_send, G_law_may_send, kp_law_may_send, b_law_may_send⟩ := (ok_law_may_send (P := P) (w := w) (base := base) u).ex
  obtain ⟨fd_law_send, G_law_send, kp_law_send, b_law_send⟩ := (ok_law_send (P := P) (w := w) (base := base) u).ex
  obtain ⟨fd, F⟩ := u.d_law_arrive
  refine mkOk F sc_law_arrive (fun _ _ _ _ _ _ us hl => match us, hl with | [_, _], _ => rfl) (fun vs H Q E h => ?_) (fun cdv A outer s H vs Q E hr h => ?_)
  · obtain ⟨f, c, m, a, rfl, hm, h1, h2, k⟩ := h
    rfl
  · obtain ⟨f, c, m, a, rfl, hm, h1, h2, k⟩ := h
    have hu := hu_of hr
    refine ⟨_, (pss_n (ps_par (i := 2) (j := 3) rfl sc_law_arrive.nd rfl rfl (by decide) rfl rfl (pa_cons (pe_op op_sub pe_int (pv 1)) (pa_cons (pe_ix ix_list (pe_dget hu (pv 0) pe_str (fun _ _ => rfl)) (pv 1) (fun _ _ => rfl)) pa_nil)) (by rfl))
    (pss_n (ps_asg (pe_bm PySem.F.plainAttrs_list PySem.F.slot_list_pop PySem.F.type_list_pop mt_popAt (pv 3) (pa_cons pe_int pa_nil)) (pg_tup rfl (pgs_cons (pg_name (i := 4) sc_law_arrive.nd rfl (Or.inl rfl)) (pgs_cons (pg_name (i := 5) sc_law_arrive.nd rfl (Or.inl rfl)) pgs_nil))))
    (pss_n (ps_set (i := 6) sc_law_arrive.nd rfl (Or.inl rfl) (pe_ix ix_list (pe_dget hu (pv 0) pe_str (fun _ _ => rfl)) (pv 2) (fun _ _ => rfl)))
    (pss_n (ps_dput hu (pv 6) pe_str (pe_callB (call_max2 rfl) (by rfl) u.n_max boot_max (pa_cons (pe_dget hu (pv 6) pe_str (fun _ _ => rfl)) (pa_cons (pv 5) pa_nil))) rfl)
    (Evl.pss_cut (ps_if (PW.pt (pw_and (pt_cmpR op_gt (pe_dget hu (pv 6) pe_str (fun _ _ => rfl)) pe_int (nomark _)) (pw_and (pt_not (pt_val (pe_dget hu (pv 6) pe_str (fun _ _ => rfl)))) (pw_and1 (pt_val (pe_call G_law_may_send (hr.mono (by decide)) (by rfl) u.g__law_may_send kp_law_may_send b_law_may_send .nil pass0 (pa_cons (pv 0) (pa_cons (pv 2) pa_nil))))))))
    (pss_one (ps_expr (pe_call G_law_send (hr.mono (by decide)) (by rfl) u.g__law_send kp_law_send b_law_send .nil pass0 (pa_cons (pv 0) (pa_cons (pv 2) (pa_cons (pe_dget hu (pv 6) pe_str (fun _ _ => rfl)) pa_nil))))))
    pss_nil)
    (pss_one (ps_if (pt_cmpR op_gt (pv 4) pe_int (nomark _))
    (pss_n (ps_asg (pe_ix ix_list (pe_dget hu (pv 0) pe_str (fun _ _ => rfl)) (pv 2) (fun _ _ => rfl)) (pg_tup rfl (pgs_cons (pg_name (i := 7) sc_law_arrive.nd rfl (Or.inl rfl)) (pgs_cons (pg_name (i := 8) sc_law_arrive.nd rfl (Or.inl rfl)) (pgs_cons (pg_name (i := 9) sc_law_arrive.nd rfl (Or.inl rfl)) pgs_nil)))))
    (pss_n (ps_daug hu (pv 6) pe_str (pv 4) in_add (fun _ _ _ => rfl))
    (pss_n (ps_daug hu (pv 6) pe_str pe_int in_add (fun _ _ _ => rfl))
    (pss_n (ps_daug hu (pv 6) pe_str (pe_callTy call_int1 (by rfl) u.n_int PyProof.Rows.boot_int (pa_cons (pe_cmpR op_eq (pv 4) (pe_dget hu (pv 0) pe_str (fun _ _ => rfl)) (nomark _)) pa_nil)) in_add (fun _ _ _ => rfl))
    (pss_one (ps_if (PW.pt (pw_or (pt_cmpR op_le (pe_dget hu (pv 6) pe_str (fun _ _ => rfl)) (pv 9) (nomark _)) (pw_or1 (PW.pt (pw_and (pt_cmpR op_eq (pv 4) (pe_dget hu (pv 0) pe_str (fun _ _ => rfl)) (nomark _)) (pw_and1 (pt_cmpR op_eq (pe_dget hu (pv 6) pe_str (fun _ _ => rfl)) (pv 8) (nomark _))))))))
    (pss_one (ps_expr (pe_call G_law_send (hr.mono (by decide)) (by rfl) u.g__law_send kp_law_send b_law_send .nil pass0 (pa_cons (pv 0) (pa_cons (pv 2) (pa_cons pe_int pa_nil))))))
    pss_nil))))))
    pss_nil))))))), ?_⟩
    walk_at "s"
    obtain ⟨WD, RL, r, L⟩ := hm
    obtain ⟨x0, rest, hw⟩ : ∃ x0 rest, m.way a = x0 :: rest := by
      cases e : m.way a with
      | nil => exact absurd e h1
      | cons x l => exact ⟨x, l, rfl⟩
    obtain ⟨n, v⟩ := x0
    obtain ⟨ps, hps, hpr, hpl⟩ := L.bx.wal a
    rw [hw] at hpr
    obtain ⟨p, qs, rfl⟩ : ∃ p qs, ps = p :: qs := by
      cases ps with
      | nil => cases hpr.len
      | cons p qs => exact ⟨p, qs, rfl⟩
    obtain ⟨hp, hqr⟩ := hpr.tail
    walk_at "w"
    refine L.getM (mk_ways _ _ _ _ _ _ _) ?_
    walk_at "w"
    refine x_lst L.bx.wl (Bx.w_at f a) ?_
    walk_at "w"
    
    refine ⟨tyl hps, ?_⟩
    rw [wI_not]
    refine ac1 ?_
    refine L.popW hps hqr hp fun H1 kp1 L1 hp1 => ?_
    walk_at "w"
    refine L1.getM (mk_sides _ _ _ _ _ _ _) ?_
    walk_at "w"
    refine x_lst L1.bx.sl (Bx.s_at f (!a)) ?_
    walk_at "w"
    refine L1.getS rfl (gk_told _) ?_
    walk_at "w"
    
    rw [max_if]
    refine L1.putS1 rfl (gp_told _ _) fun H2 kp2 L2 => ?_
    have eA : arrive c a m = if n > 0 then arrGot c (!a) n (arrAck c (!a) v { m with way := fset m.way a rest }) else arrAck c (!a) v { m with way := fset m.way a rest } := by
      unfold arrive; rw [hw]
    have eK : arrAck c (!a) v { m with way := fset m.way a rest } = if ((setSide { m with way := fset m.way a rest } (!a) { m.side (!a) with told := max (m.side (!a)).told v }).side (!a)).rest > 0 ∧ ((setSide { m with way := fset m.way a rest } (!a) { m.side (!a) with told := max (m.side (!a)).told v }).side (!a)).kept = false ∧ may c (!a) ((setSide { m with way := fset m.way a rest } (!a) { m.side (!a) with told := max (m.side (!a)).told v }).side (!a)) = true then send c (!a) ((setSide { m with way := fset m.way a rest } (!a) { m.side (!a) with told := max (m.side (!a)).told v }).side (!a)).rest (setSide { m with way := fset m.way a rest } (!a) { m.side (!a) with told := max (m.side (!a)).told v }) else setSide { m with way := fset m.way a rest } (!a) { m.side (!a) with told := max (m.side (!a)).told v } := rfl
    have M2 : LwM c f H2 (setSide { m with way := fset m.way a rest } (!a) { m.side (!a) with told := max (m.side (!a)).told v }) := ⟨WD, RL, r, L2⟩
    have hwl : (({ m with way := fset m.way a rest } : Mo).way (!a)).length < 80000 := by
      show (fset m.way a rest (!a)).length < 80000
      rw [fset_not]; exact h2 _
    have hwl1 : ((setSide { m with way := fset m.way a rest } (!a) { m.side (!a) with told := max (m.side (!a)).told v }).way (!a)).length < 80000 := hwl
    have hwl2 := len_arrAck c (!a) v { m with way := fset m.way a rest }
    have kp12 := kp1.trans kp2
    generalize setSide { m with way := fset m.way a rest } (!a) { m.side (!a) with told := max (m.side (!a)).told v } = m1 at *
    generalize arrAck c (!a) v { m with way := fset m.way a rest } = m3 at *
    clear L1 hp1 kp1 kp2 hps hpr hpl hqr hp
    walk_at "w"
    refine ⟨fun σ' H' => σ' = [some (.ref f.M), some (.int (wI a)), some (.int (wI !a)), some (.ref (f.w a)), some (.int n), some (.int v), some (.ref (f.s !a)), none, none, none] ∧ Kp f.ft H H' ∧ LwM c f H' m3, ?_, ?_⟩
    · obtain ⟨WD', RL', r', L'⟩ := id M2
      walk_at "w"
      refine L'.getS rfl (gk_rest _) ?_
      walk_at "w"
    
      refine itb (fun z1 => ?_) (fun z1 => ?_)
      · walk_at "w"
        refine L'.getS rfl (gk_kept _) ?_
        walk_at "w"
    
        refine itb (fun z2 => ?_) (fun z2 => ?_)
        · walk_at "w"
          refine ⟨f, c, m1, !a, rfl, M2, ?_⟩
          refine ⟨_, rfl, itb (fun z3 => ?_) (fun z3 => ?_)⟩
          · rw [if_pos ⟨of_decide_eq_true z1, (by cases e : (m1.side !a).kept with | false => rfl | true => rw [e] at z2; cases z2), z3⟩] at eK
            walk_at "w"
            refine L'.getS rfl (gk_rest _) ?_
            walk_at "w"
    
            refine ⟨f, c, m1, !a, _, rfl, M2, by omega, fun H9 kp9 L9 => ?_⟩
            exact ⟨rfl, kp12.trans kp9, by rw [eK]; exact L9⟩
          · rw [if_neg (fun z => by rw [z.2.2] at z3; cases z3)] at eK
            exact ⟨rfl, kp12, by rw [eK]; exact M2⟩
        · rw [if_neg (fun z => by rw [z.2.1] at z2; cases z2)] at eK
          exact itf rfl ⟨rfl, kp12, by rw [eK]; exact M2⟩
      · rw [if_neg (fun z => of_decide_eq_false z1 z.1)] at eK
        refine itf rfl ⟨rfl, kp12, ?_⟩
        rw [eK]; exact M2
    · rintro _ H' ⟨rfl, kp, M⟩
      obtain ⟨WD', RL', r', L'⟩ := id M
      walk_at "w"
      refine itb (fun z1 => ?_) (fun z1 => ?_)
      · rw [if_pos (of_decide_eq_true z1)] at eA
        walk_at "w"
        refine L'.getM (mk_rules _ _ _ _ _ _ _) ?_
        walk_at "w"
    
        refine x_lst L'.rl (show atI [V.ref (r' false), V.ref (r' true)] (wI !a) = some (.ref (r' !a)) by cases a <;> rfl) ?_
        have hru := L'.ru (!a)
        unfold ruleV at hru
        generalize hs : m3.side (!a) = s3 at *
        obtain ⟨a1, a2, a3, a4, a5, a6, a7, a8⟩ := s3
        have L0 := L'.open_ (!a)
        rw [hs] at L0
        have eG : arrGot c (!a) n m3 = if a7 + 1 ≤ (c.rule (!a)).quick ∨ (n = c.size ∧ (a6 + if n = c.size then 1 else 0) = (c.rule (!a)).every) then send c (!a) 0 (setSide m3 (!a) ⟨a1, a2, a3, a4, a5 + n, a6 + if n = c.size then 1 else 0, a7 + 1, a8⟩) else setSide m3 (!a) ⟨a1, a2, a3, a4, a5 + n, a6 + if n = c.size then 1 else 0, a7 + 1, a8⟩ := by
          unfold arrGot; rw [hs]
        rw [eG] at eA
        walk_at "w"
        refine L0.getS (fset_same _ _ _) (sk_got _ _ _ _ _ _ _ _) ?_
        walk_at "w"
        refine L0.putS (fset_same _ _ _) (sp_got _ _ _ _ _ _ _ _ _) fun H3 kp3 L3 => ?_
        rw [fset_fset] at L3
        walk_at "w"
        refine L3.getS (fset_same _ _ _) (sk_came _ _ _ _ _ _ _ _) ?_
        walk_at "w"
        refine L3.putS (fset_same _ _ _) (sp_came _ _ _ _ _ _ _ _ _) fun H4 kp4 L4 => ?_
        rw [fset_fset] at L4
        walk_at "w"
        refine L4.getS (fset_same _ _ _) (sk_fulls _ _ _ _ _ _ _ _) ?_
        walk_at "w"
        refine L4.getM (mk_size _ _ _ _ _ _ _) ?_
        walk_at "w"
    
        refine Or.inr ⟨_, rfl, ?_⟩
        rw [if_dec_int]
        walk_at "w"
        refine L4.putS (fset_same _ _ _) (sp_fulls _ _ _ _ _ _ _ _ _) fun H5 kp5 L5 => ?_
        rw [fset_fset] at L5
        walk_at "w"
    
        have M5 : LwM c f H5 (setSide m3 (!a) ⟨a1, a2, a3, a4, a5 + n, a6 + if n = c.size then 1 else 0, a7 + 1, a8⟩) := ⟨WD', RL', r', L5⟩
        have kp5' := ((kp.trans kp3).trans kp4).trans kp5
        have nosend : arrive c a m = setSide m3 (!a) ⟨a1, a2, a3, a4, a5 + n, a6 + if n = c.size then 1 else 0, a7 + 1, a8⟩ → Q .non H5 := fun e => k H5 kp5' (by rw [e]; exact M5)
        have hwl5 : ((setSide m3 (!a) ⟨a1, a2, a3, a4, a5 + n, a6 + if n = c.size then 1 else 0, a7 + 1, a8⟩).way (!a)).length < 90000 := by
          show (m3.way (!a)).length < 90000
          omega
        refine L5.getS (fset_same _ _ _) (sk_came _ _ _ _ _ _ _ _) ?_
        walk_at "w"
    
        refine itb (fun z2 => ?_) (fun z2 => ?_)
        · rw [if_pos (Or.inl (of_decide_eq_true z2))] at eA
          walk_at "w"
          refine ⟨f, c, _, !a, 0, rfl, M5, hwl5, fun H9 kp9 L9 => ?_⟩
          exact k H9 (kp5'.trans kp9) (by rw [eA]; exact L9)
        · walk_at "w"
          refine L5.getM (mk_size _ _ _ _ _ _ _) ?_
          walk_at "w"
    
          rw [dec_int]
          refine itb (fun z3 => ?_) (fun z3 => ?_)
          · walk_at "w"
            refine L5.getS (fset_same _ _ _) (sk_fulls _ _ _ _ _ _ _ _) ?_
            walk_at "w"
    
            rw [dec_int]
            refine itb (fun z4 => ?_) (fun z4 => ?_)
            · rw [if_pos (Or.inr ⟨of_decide_eq_true z3, of_decide_eq_true z4⟩)] at eA
              walk_at "w"
              refine ⟨f, c, _, !a, 0, rfl, M5, hwl5, fun H9 kp9 L9 => ?_⟩
              exact k H9 (kp5'.trans kp9) (by rw [eA]; exact L9)
            · rw [if_neg (fun z => by rcases z with z | z; exact of_decide_eq_false z2 z; exact of_decide_eq_false z4 z.2)] at eA
              exact nosend eA
          · rw [if_neg (fun z => by rcases z with z | z; exact of_decide_eq_false z2 z; exact of_decide_eq_false z3 z.1)] at eA
            exact itf rfl (nosend eA)
      · rw [if_neg (of_decide_eq_false z1)] at eA
        exact k H' kp (by rw [eA]; exact M)
end
end Lw
namespace Lw
open PySem PySem.Spec PyProof.Rows L2
section
variable {P : Program} {w : World} {K : PySem.W.Frag} {mg : Str → Option Value} {base : Heap}
local macro_rules | `(tactic| walk_at "h") => `(tactic| first | assumption | exact upd_same | (refine xn (by assumption) ?_; walk_at "h") | (refine exapp (by assumption) ?_; walk_at "h"))
local macro_rules | `(tactic| walk_at "e") => `(tactic| first | exact Same.refl _ | assumption | (refine Same.trans ?_ (Ex.new (by assumption)); walk_at "e") | (refine Same.trans ?_ (by assumption); walk_at "e"))
local macro_rules | `(tactic| walk_at "w") => `(tactic| repeat (first | refine ⟨_, rfl, ?_⟩ | refine ⟨_, _, rfl, rfl, ?_⟩ | refine ⟨_, _, _, _, rfl, rfl, SqT.of (by walk_at "h"), (by rfl), ?_⟩ | (refine fun σ2 (hσ : σ2 = _) => ?_; (try simp only [List.set_cons_succ, List.set_cons_zero] at hσ); subst hσ) | refine ⟨_, _, rfl, SqT.of (by walk_at "h"), (by rfl), ?_⟩ | refine ⟨rfl, ?_⟩ | refine ⟨_, _, rfl, ?_⟩))
local macro_rules | `(tactic| walk_at "s") => `(tactic| (intro σ hσ; simp only [start_eq, List.map_cons, List.map_nil, List.length_cons, List.length_nil, List.cons_append, List.nil_append, Nat.reduceAdd, Nat.reduceSub, List.replicate_succ, List.replicate_zero] at hσ; subst hσ))

/-- the lengths that heard adds up -/
def gl (c : Cfg) (b : Bool) (i : Nat) : List Int := (((c.words.take i).filter fun w => w.who == !b).map (·.len))
theorem gl_succ (c : Cfg) (b : Bool) (i : Nat) (h : i < c.words.length) : gl c b (i + 1) = if (wd c i).who == !b then gl c b i ++ [(wd c i).len] else gl c b i := by
  unfold gl
  rw [List.take_add_one, wd_get h, List.filter_append, List.map_append]
  cases e : (wd c i).who == !b
  · show _ ++ ((([wd c i].filter _)).map _) = _
    rw [List.filter_cons, e]; simp
  · show _ ++ ((([wd c i].filter _)).map _) = _
    rw [List.filter_cons, e]; simp
theorem gl_len (c : Cfg) (b : Bool) (i : Nat) : (gl c b i).length ≤ i := by
  unfold gl
  rw [List.length_map]
  exact Nat.le_trans (List.length_filter_le _ _) (List.length_take_le _ _)
def spLawHeard : Sp := fun vs H Q _ => ∃ (f : Fr) (c : Cfg) (m : Mo) (b : Bool), vs = [.ref f.M, .int (wI b)] ∧ LwM c f H m ∧ m.made ≤ c.words.length ∧ c.words.length ≤ 16 ∧ ∀ H', Ex H H' → Q (.bl (heard c m b)) H'
theorem ok_law_heard (u : U K mg) : Ok P w K mg base 1 (He.ga K "_law_heard") ["_law_model_here", "_law_who"] spLawHeard := by
  obtain ⟨fd, F⟩ := u.d_law_heard
  refine mkOk F sc_law_heard (fun _ _ _ _ _ _ us hl => match us, hl with | [_, _], _ => rfl) (fun vs H Q E h => ?_) (fun cdv A outer s H vs Q E hr h => ?_)
  · obtain ⟨f, c, m, b, rfl, hm, h1, h2, k⟩ := h
    rfl
  · obtain ⟨f, c, m, b, rfl, hm, h1, h2, k⟩ := h
    have hu := hu_of hr
    refine ⟨_, (pss_n (ps_set (i := 2) sc_law_heard.nd rfl (Or.inl rfl) (pe_callB (cr_sum rfl) (by rfl) u.n_sum boot_sum (pa_cons (pe_lc (own := [("_law_other", 3), ("_law_length", 4), ("_law_how", 5)]) (g := (gTup K 3 (gCons (gName 3) (gCons (gName 4) (gCons (gName 5) gNil))))) (tt := (tTest (tOp rNe (tVar 3) (tVar 1)))) (te := (tVar 4)) rfl sc_law_heard.nd (pi_list (pe_slice sl_list (pe_dget hu (pv 0) pe_str (fun _ _ => rfl)) po_none (po_some (pe_dget hu (pv 0) pe_str (fun _ _ => rfl))))) (blkOk_by (N := n_law_heard) (sc := defScope s_law_heard) (by decide +kernel)) (fun _ _ _ _ _ => (pg_tup rfl (pgs_cons (pg_name (i := 3) sc_law_heard.nd rfl (Or.inl rfl)) (pgs_cons (pg_name (i := 4) sc_law_heard.nd rfl (Or.inl rfl)) (pgs_cons (pg_name (i := 5) sc_law_heard.nd rfl (Or.inl rfl)) pgs_nil))))) (fun _ _ _ _ _ => (pts_one (pt_cmpR op_ne (pv 3) (pv 1) (nomark _)))) (fun _ _ _ _ _ => (pv 4))) pa_nil)))
    (pss_one (ps_ret (pe_cmpR op_eq (pe_dget hu (pe_ix ix_list (pe_dget hu (pv 0) pe_str (fun _ _ => rfl)) (pv 1) (fun _ _ => rfl)) pe_str (fun _ _ => rfl)) (pv 2) (nomark _))))), ?_⟩
    walk_at "s"
    obtain ⟨WD, RL, r, L⟩ := hm
    obtain ⟨qs, hqs, hqr⟩ := L.wd
    walk_at "w"
    refine L.getM (mk_words _ _ _ _ _ _ _) ?_
    walk_at "w"
    refine L.getM (mk_made _ _ _ _ _ _ _) ?_
    walk_at "w"
    
    have hqn : (qs.map V.ref).length = c.words.length := by rw [List.length_map, hqr.len]; exact List.length_map _
    refine ⟨_, _, rfl, SqL.of hqs, fun PL hP => ?_⟩
    rw [cut_take _ _ (by rw [hqn]; exact h1)]
    refine ⟨_, rfl, ⟨_, SqL.of upd_same⟩, fun D hD => lc_list (a := PL) (xs := (qs.map V.ref).take m.made) (fun i H' => Ex (upd H PL (.lst ((qs.map V.ref).take m.made))) H' ∧ H' D = some (.lst ((gl c b i).map V.int))) ?_ ?_ ?_ ?_⟩
    · exact ⟨Ex.new hD, upd_same⟩
    · rintro i H' _ ⟨k1, _⟩
      exact SqL.of (k1 _ _ upd_same)
    · rintro i x H' hi ⟨k1, hl⟩
      have him : i < m.made := by
        have := (List.getElem?_eq_some_iff.mp hi).1
        rw [List.length_take] at this; omega
      rw [List.getElem?_take_of_lt him] at hi
      obtain ⟨p, rr, rfl, hrr, hp⟩ := hqr.at' hi
      rw [wsV_get (show i < c.words.length by omega)] at hrr
      cases hrr
      have hp2 := k1 _ _ (xn hP hp)
      have hgs := gl_succ c b i (by omega)
      generalize wd c i = x at *
      refine ⟨p, _, rfl, SqT.of hp2, rfl, ?_⟩
      walk_at "w"
      rw [ne_wI, show (!decide (x.who = b)) = (x.who == !b) by cases x.who <;> cases b <;> rfl]
      refine itb (fun z => ?_) (fun z => ?_)
      · rw [z, if_pos rfl] at hgs
        refine ⟨_, rfl, _, hl, ?_, exmut k1 hD, ?_⟩
        · have := gl_len c b i
          rw [List.length_map]; exact lt_sz (by omega)
        · rw [hgs, List.map_append]; exact upd_same
      · rw [z] at hgs
        refine ⟨k1, ?_⟩
        rw [hgs]; exact hl
    · rintro H' ⟨k1, hl⟩
      rw [List.length_take, hqn, Nat.min_eq_left h1] at hl
      have e1 : Ex H H' := by walk_at "e"
      have L' := L.ex e1
      refine ⟨D, _, rfl, SqL.of hl, ?_⟩
      walk_at "w"
      refine L'.getM (mk_sides _ _ _ _ _ _ _) ?_
      walk_at "w"
      refine x_lst L'.bx.sl (Bx.s_at f b) ?_
      walk_at "w"
      refine L'.getS rfl (gk_got _) ?_
      walk_at "w"
    
      show Q (.bl (decide (V.int (m.side b).got = V.int (gl c b m.made).sum))) H'
      rw [dec_int]
      exact k H' e1

def spLawOver : Sp := fun vs H Q _ => ∃ (f : Fr) (c : Cfg) (m : Mo), vs = [.ref f.M] ∧ LwM c f H m ∧ m.made ≤ c.words.length ∧ c.words.length ≤ 16 ∧ ∀ H', Ex H H' → Q (.bl (over c m)) H'
theorem ok_law_over (u : U K mg) : Ok P w K mg base 2 (He.ga K "_law_over") ["_law_model_here"] spLawOver := by
  obtain ⟨fd_law_heard, G_law_heard, kp_law_heard, b_law_heard⟩ := (ok_law_heard (P := P) (w := w) (base := base) u).ex
  obtain ⟨fd, F⟩ := u.d_law_over
  refine mkOk F sc_law_over (fun _ _ _ _ _ _ us hl => match us, hl with | [_], _ => rfl) (fun vs H Q E h => ?_) (fun cdv A outer s H vs Q E hr h => ?_)
  · obtain ⟨f, c, m, rfl, hm, h1, h2, k⟩ := h
    rfl
  · obtain ⟨f, c, m, rfl, hm, h1, h2, k⟩ := h
    have hu := hu_of hr
    refine ⟨_, (pss_one (ps_ret (pe_and (pe_cmpR op_eq (pe_dget hu (pv 0) pe_str (fun _ _ => rfl)) (pe_callB call_len_seq (by rfl) u.n_len PySem.boot_len (pa_cons (pe_dget hu (pv 0) pe_str (fun _ _ => rfl)) pa_nil)) (nomark _)) (pe_and (pe_call G_law_heard (hr.mono (by decide)) (by rfl) u.g__law_heard kp_law_heard b_law_heard .nil pass0 (pa_cons (pv 0) (pa_cons pe_int pa_nil))) (pe_one (pe_call G_law_heard (hr.mono (by decide)) (by rfl) u.g__law_heard kp_law_heard b_law_heard .nil pass0 (pa_cons (pv 0) (pa_cons pe_int pa_nil)))))))), ?_⟩
    walk_at "s"
    obtain ⟨WD, RL, r, L⟩ := id hm
    obtain ⟨qs, hqs, hqr⟩ := L.wd
    have hqn : (qs.map V.ref).length = c.words.length := by rw [List.length_map, hqr.len]; exact List.length_map _
    unfold over at k
    walk_at "w"
    refine L.getM (mk_made _ _ _ _ _ _ _) ?_
    walk_at "w"
    refine L.getM (mk_words _ _ _ _ _ _ _) ?_
    walk_at "w"
    
    refine ⟨_, _, rfl, Or.inl (SqL.of hqs), ?_⟩
    rw [hqn]
    walk_at "w"
    rw [dec_nat]
    refine itb (fun z => ?_) (fun z => ?_)
    · rw [z, Bool.true_and] at k
      walk_at "w"
      refine ⟨f, c, m, false, rfl, hm, h1, h2, fun H3 e3 => ?_⟩
      refine ⟨_, rfl, itb (fun z2 => ?_) (fun z2 => ?_)⟩
      · rw [z2, Bool.true_and] at k
        walk_at "w"
        exact ⟨f, c, m, true, rfl, ⟨WD, RL, r, L.ex e3⟩, h1, h2, fun H4 e4 => k H4 (e3.trans e4)⟩
      · rw [z2] at k
        exact k H3 e3
    · rw [z] at k
      exact k H (Same.refl _)

/-- the events that are possible -/
def evs (c : Cfg) (m : Mo) : List Ev :=
  if over c m = true then [] else
    let fnd := (if canWrite c m = true then [Ev.write] else []) ++ ([false, true].filter fun b => !(m.way b).isEmpty).map Ev.arr
    if fnd = [] then [.timer] else fnd
theorem evs_due (c : Cfg) (m : Mo) : evs c m = [.timer] ↔ due c m = true := by
  unfold evs due
  cases over c m
  · rw [if_neg (by decide)]
    cases canWrite c m
    · cases e1 : m.way false <;> cases e2 : m.way true <;> simp [List.filter, e1, e2]
    · cases e1 : m.way false <;> cases e2 : m.way true <;> simp [List.filter, e1, e2]
  · simp
def spLawEvents : Sp := fun vs H Q _ => ∃ (f : Fr) (c : Cfg) (m : Mo), vs = [.ref f.M] ∧ LwM c f H m ∧ m.made ≤ c.words.length ∧ c.words.length ≤ 16 ∧ ∀ x H', Ex H H' → H' x = some (.lst ((evs c m).map fun e => V.str e.str)) → Q (.ref x) H'
theorem ok_law_events (u : U K mg) : Ok P w K mg base 3 (He.ga K "_law_events") ["_law_model_here"] spLawEvents := by
  obtain ⟨fd_law_over, G_law_over, kp_law_over, b_law_over⟩ := (ok_law_over (P := P) (w := w) (base := base) u).ex
  obtain ⟨fd_law_heard, G_law_heard, kp_law_heard, b_law_heard⟩ := (ok_law_heard (P := P) (w := w) (base := base) u).ex
  obtain ⟨fd, F⟩ := u.d_law_events
  refine mkOk F sc_law_events (fun _ _ _ _ _ _ us hl => match us, hl with | [_], _ => rfl) (fun vs H Q E h => ?_) (fun cdv A outer s H vs Q E hr h => ?_)
  · obtain ⟨f, c, m, rfl, hm, h1, h2, k⟩ := h
    rfl
  · obtain ⟨f, c, m, rfl, hm, h1, h2, k⟩ := h
    have hu := hu_of hr
    refine ⟨_, (pss_n (ps_if (pt_val (pe_call G_law_over (hr.mono (by decide)) (by rfl) u.g__law_over kp_law_over b_law_over .nil pass0 (pa_cons (pv 0) pa_nil)))
    (pss_one (ps_ret (pe_lst pa_nil)))
    pss_nil)
    (pss_n (ps_set (i := 1) sc_law_events.nd rfl (Or.inl rfl) (pe_lst pa_nil))
    (Evl.pss_cut (ps_if (PW.pt (pw_and (pt_cmpR op_lt (pe_dget hu (pv 0) pe_str (fun _ _ => rfl)) (pe_callB call_len_seq (by rfl) u.n_len PySem.boot_len (pa_cons (pe_dget hu (pv 0) pe_str (fun _ _ => rfl)) pa_nil)) (nomark _)) (pw_and1 (pt_val (pe_call G_law_heard (hr.mono (by decide)) (by rfl) u.g__law_heard kp_law_heard b_law_heard .nil pass0 (pa_cons (pv 0) (pa_cons (pe_ix ix_tup (pe_ix ix_list (pe_dget hu (pv 0) pe_str (fun _ _ => rfl)) (pe_dget hu (pv 0) pe_str (fun _ _ => rfl)) (fun _ _ => rfl)) pe_int (fun _ _ => rfl)) pa_nil)))))))
    (pss_one (ps_expr (pe_bm PySem.F.plainAttrs_list PySem.F.slot_list_append PySem.F.type_list_append mt_append (pv 1) (pa_cons pe_str pa_nil))))
    pss_nil)
    (pss_n (ps_expr (pe_bm PySem.F.plainAttrs_list PySem.F.slot_list_extend PySem.F.type_list_extend mt_extend (pv 1) (pa_cons (pe_lc (own := [("_law_who", 2)]) (g := (gName 2)) (tt := (tTest (tOp (rNeD K) (tOp (rIxL K) (tDGet (tVar 0) (tC (.str "ways"))) (tVar 2)) (tLst tNil)))) (te := (tOp (fun x y H Q => ∃ i j, x = .str i ∧ y = .str j ∧ i.length + j.length ≤ sizeLine ∧ Q (.str (i ++ j)) H) (tC (.str "arrive ")) (tCB rStrI (tCons (tVar 2) tNil)))) rfl sc_law_events.nd (pi_range1 (by rfl) u.n_range (pa_cons pe_int pa_nil)) (blkOk_by (N := n_law_events) (sc := defScope s_law_events) (by decide +kernel)) (fun _ _ _ _ _ => (pg_name (i := 2) sc_law_events.nd rfl (Or.inl rfl))) (fun _ _ _ _ _ => (pts_one (pt_cmpR (op_neD hr.units) (pe_ix ix_list (pe_dget hu (pv 0) pe_str (fun _ _ => rfl)) (pv 2) (fun _ _ => rfl)) (pe_lst pa_nil) (nomark _)))) (fun _ _ _ _ _ => (pe_op op_add_str pe_str (pe_callTy call_str_int (by rfl) u.n_str PyProof.Rows.boot_str (pa_cons (pv 2) pa_nil))))) pa_nil)))
    (pss_one (ps_ret (pe_ifExp (pt_cmpR (op_neD hr.units) (pv 1) (pe_lst pa_nil) (nomark _)) (pv 1) (pe_lst (pa_cons pe_str pa_nil))))))))), ?_⟩
    walk_at "s"
    obtain ⟨WD, RL, r, L⟩ := id hm
    obtain ⟨qs, hqs, hqr⟩ := L.wd
    have hqn : (qs.map V.ref).length = c.words.length := by rw [List.length_map, hqr.len]; exact List.length_map _
    walk_at "w"
    refine ⟨f, c, m, rfl, hm, h1, h2, fun H1 e1 => ?_⟩
    refine ⟨_, rfl, itb (fun z => ?_) (fun z => ?_)⟩
    · walk_at "w"
      refine ⟨le_sz le_r, fun D hD => ?_⟩
      refine k D _ (by walk_at "e") ?_
      unfold evs; rw [if_pos z]; exact upd_same
    · have hE : evs c m = if (if canWrite c m = true then [Ev.write] else []) ++ ([false, true].filter fun b => !(m.way b).isEmpty).map Ev.arr = [] then [.timer] else (if canWrite c m = true then [Ev.write] else []) ++ ([false, true].filter fun b => !(m.way b).isEmpty).map Ev.arr := by
        unfold evs; rw [if_neg (by rw [z]; decide)]
      clear z
      walk_at "w"
      refine ⟨le_sz le_r, fun D hD => ?_⟩
      have hD0 := exnone e1 hD
      walk_at "w"
      refine ⟨fun σ' H' => σ' = [some (.ref f.M), some (.ref D), none] ∧ Ex H H' ∧ H' D = some (.lst ((if canWrite c m = true then [Ev.write] else []).map fun e => V.str e.str)), ?_, ?_⟩
      · have L1 := L.ex (e1.trans (Ex.new (o := .lst []) hD))
        have hcw : canWrite c m = (decide (m.made < c.words.length) && heard c m (wd c m.made).who) := rfl
        have hqs1 : upd H1 D (.lst []) WD = some (.lst (qs.map V.ref)) := by walk_at "h"
        walk_at "w"
        refine L1.getM (mk_made _ _ _ _ _ _ _) ?_
        walk_at "w"
        refine L1.getM (mk_words _ _ _ _ _ _ _) ?_
        walk_at "w"
    
        refine ⟨_, _, rfl, Or.inl (SqL.of hqs1), ?_⟩
        rw [hqn]
        walk_at "w"
        refine itb (fun z => ?_) (fun z => ?_)
        · have z' : m.made < c.words.length := by have := of_decide_eq_true z; omega
          rw [decide_eq_true z', Bool.true_and] at hcw
          obtain ⟨pw, hpw, hpt⟩ := hqr.get (wsV_get z')
          have hat : atI (qs.map V.ref) ((m.made : Nat) : Int) = some (.ref pw) := by rw [atI_nat, List.getElem?_map, hpw]; rfl
          walk_at "w"
          refine L1.getM (mk_words _ _ _ _ _ _ _) ?_
          walk_at "w"
          refine L1.getM (mk_made _ _ _ _ _ _ _) ?_
          walk_at "w"
    
          refine x_lst hqs1 hat ?_
          walk_at "w"
          refine ⟨f, c, m, (wd c m.made).who, rfl, ⟨WD, RL, r, L1⟩, h1, h2, fun H3 e3 => ?_⟩
          refine ⟨_, rfl, itb (fun z2 => ?_) (fun z2 => ?_)⟩
          · rw [z2] at hcw
            rw [if_pos hcw]
            have hD3 := e3 _ _ (upd_same (H := H1) (a := D) (o := .lst []))
            walk_at "w"
            refine ⟨tyl hD3, ?_⟩
            refine ⟨D, _, _, rfl, rfl, hD3, lt_sz lt_r, rfl, exmut (by walk_at "e") hD0, upd_same⟩
          · rw [z2] at hcw
            rw [if_neg (by rw [hcw]; decide)]
            exact ⟨rfl, (by walk_at "e"), e3 _ _ upd_same⟩
        · have z' : ¬ m.made < c.words.length := by have := of_decide_eq_false z; omega
          rw [decide_eq_false z', Bool.false_and] at hcw
          rw [if_neg (by rw [hcw]; decide)]
          exact itf rfl ⟨rfl, (by walk_at "e"), upd_same⟩
      · rintro _ H2 ⟨rfl, e2, hD2⟩
        have L' := L.ex e2
        walk_at "w"
        refine ⟨tyl hD2, ?_⟩
        refine ⟨_, rfl, (by decide), (by decide), fun X2 hX => lc_range (n := 2) (fun i H' => Ex H2 H' ∧ H' X2 = some (.lst ((([false, true].take i).filter fun b => !(m.way b).isEmpty).map fun b => V.str (Ev.arr b).str))) ?_ ?_ ?_⟩
        · exact ⟨Ex.new hX, upd_same⟩
        · rintro i H' hi ⟨k1, hl⟩
          obtain ⟨b, hb, hw⟩ := two_at hi
          have L3 := L'.ex k1
          rw [hw]
          refine ⟨rfl, ?_⟩
          walk_at "w"
          refine L3.getM (mk_ways _ _ _ _ _ _ _) ?_
          walk_at "w"
    
          refine x_lst L3.bx.wl (Bx.w_at f b) ?_
          walk_at "w"
          refine ⟨le_sz le_r, fun E2 hE2 => ?_⟩
          refine neRows (L3.bx.ex (Ex.new hE2)).wa' (ok_way _) upd_same ?_
          have htk : List.take (i + 1) [false, true] = List.take i [false, true] ++ [b] := by rw [List.take_add_one, hb]; rfl
          have hl4 : (([false, true].take i).filter fun b => !(m.way b).isEmpty).length ≤ 2 := Nat.le_trans (List.length_filter_le _ _) (List.length_take_le' _ _)
          rw [wayV_emp, htk, List.filter_append]
          refine ⟨_, rfl, itb (fun z => ?_) (fun z => ?_)⟩
          · rw [show ([b].filter fun b => !(m.way b).isEmpty) = [b] by rw [List.filter_cons, if_pos z]; rfl, List.map_append]
            walk_at "w"
            refine ⟨wI_log b, _, _, rfl, rfl, arr_len b, ?_⟩
            rw [arr_str]
            refine ⟨_, xn hE2 hl, ?_, exmut (by walk_at "e") hX, upd_same⟩
            rw [List.length_map]; exact lt_sz (by omega)
          · rw [show ([b].filter fun b => !(m.way b).isEmpty) = [] by rw [List.filter_cons, if_neg (by rw [z]; decide)]; rfl, List.append_nil]
            exact ⟨by walk_at "e", xn hE2 hl⟩
        · rintro H' ⟨k1, hl⟩
          have hln : (List.map (fun e => V.str e.str) (if canWrite c m = true then [Ev.write] else [])).length ≤ 1 := by
            rw [List.length_map]; split <;> decide
          have hln2 : (List.map (fun b => V.str (Ev.arr b).str) (List.filter (fun b => !(m.way b).isEmpty) (List.take 2 [false, true]))).length ≤ 2 := by
            rw [List.length_map]; exact List.length_filter_le _ _
          refine ⟨D, X2, _, _, rfl, rfl, k1 _ _ hD2, hl, le_sz (by omega), ?_⟩
          have hF : List.map (fun e => V.str e.str) (if canWrite c m = true then [Ev.write] else []) ++ List.map (fun b => V.str (Ev.arr b).str) (List.filter (fun b => !(m.way b).isEmpty) (List.take 2 [false, true])) = (((if canWrite c m = true then [Ev.write] else []) ++ ([false, true].filter fun b => !(m.way b).isEmpty).map Ev.arr).map Ev.str).map V.str := by
            rw [List.map_map, List.map_append, List.map_map]; rfl
          rw [hF]
          generalize (if canWrite c m = true then [Ev.write] else []) ++ ([false, true].filter fun b => !(m.way b).isEmpty).map Ev.arr = F0 at *
          have e5 : Ex H (upd H' D (.lst ((F0.map Ev.str).map V.str))) := exmut (by walk_at "e") hD0
          have hD5 : upd H' D (.lst ((F0.map Ev.str).map V.str)) D = some (.lst ((F0.map Ev.str).map V.str)) := upd_same
          generalize upd H' D (.lst ((F0.map Ev.str).map V.str)) = H5 at *
          walk_at "w"
          refine ⟨le_sz le_r, fun E2 hE2 => ?_⟩
          refine neStrs (ys := []) (xn hE2 hD5) upd_same (fun x hx => by obtain ⟨e, _, rfl⟩ := List.mem_map.mp hx; exact ev_ok e) (fun x hx => (List.not_mem_nil hx).elim) ?_
          refine ⟨_, rfl, itb (fun z => ?_) (fun z => ?_)⟩
          · have hF0 : F0 ≠ [] := fun e => by rw [e] at z; cases z
            rw [if_neg hF0] at hE
            refine ⟨_, rfl, ?_⟩
            refine k D _ (by walk_at "e") ?_
            rw [hE, xn hE2 hD5, List.map_map]; rfl
          · have hF0 : F0 = [] := by cases F0 with
              | nil => rfl
              | cons a l => cases z
            rw [if_pos hF0] at hE
            walk_at "w"
            refine ⟨le_sz le_r, fun E3 hE3 => ?_⟩
            refine k E3 _ (by walk_at "e") ?_
            rw [hE]; exact upd_same
end
end Lw
namespace Lw
open PySem PySem.Spec PyProof.Rows L2
section
variable {P : Program} {w : World} {K : PySem.W.Frag} {mg : Str → Option Value} {base : Heap}
local macro_rules | `(tactic| walk_at "h") => `(tactic| first | assumption | exact upd_same | (refine xn (by assumption) ?_; walk_at "h") | (refine exapp (by assumption) ?_; walk_at "h"))
local macro_rules | `(tactic| walk_at "e") => `(tactic| first | exact Same.refl _ | assumption | (refine Same.trans ?_ (Ex.new (by assumption)); walk_at "e") | (refine Same.trans ?_ (by assumption); walk_at "e"))
local macro_rules | `(tactic| walk_at "w") => `(tactic| repeat (first | refine ⟨_, rfl, ?_⟩ | refine ⟨_, _, rfl, rfl, ?_⟩ | refine ⟨_, _, _, _, rfl, rfl, SqT.of (by walk_at "h"), (by rfl), ?_⟩ | (refine fun σ2 (hσ : σ2 = _) => ?_; (try simp only [List.set_cons_succ, List.set_cons_zero] at hσ); subst hσ) | refine ⟨_, _, rfl, SqT.of (by walk_at "h"), (by rfl), ?_⟩ | refine ⟨rfl, ?_⟩ | refine ⟨_, _, rfl, ?_⟩))
local macro_rules | `(tactic| walk_at "s") => `(tactic| (intro σ hσ; simp only [start_eq, List.map_cons, List.map_nil, List.length_cons, List.length_nil, List.cons_append, List.nil_append, Nat.reduceAdd, Nat.reduceSub, List.replicate_succ, List.replicate_zero] at hσ; subst hσ))

/-- what an event asks ahead -/
def Pre (c : Cfg) (m : Mo) : Ev → Prop
  | .write => m.made < c.words.length ∧ 0 < c.size ∧ 0 ≤ (m.side (wd c m.made).who).rest ∧ 0 < (wd c m.made).len ∧ (m.way (wd c m.made).who).length + nFull c (wd c m.made) m < 80000
  | .timer => 0 < m.made ∧ m.made ≤ c.words.length ∧ ∀ b, (m.way b).length < 80000
  | .arr a => m.way a ≠ [] ∧ ∀ b, (m.way b).length < 80000
theorem str_wt : decide (V.str "timer" = V.str "write") = false := by decide +kernel
theorem str_aw (a : Bool) : decide (V.str (Ev.arr a).str = V.str "write") = false := by cases a <;> decide +kernel
theorem str_at (a : Bool) : decide (V.str (Ev.arr a).str = V.str "timer") = false := by cases a <;> decide +kernel
theorem str_7 (a : Bool) : ∃ z, atI (Ev.arr a).str.cps.toList 7 = some z ∧ PySem.intText? ⟨#[z]⟩ = some (wI a) := by
  cases a
  · exact ⟨48, by decide +kernel, by decide +kernel⟩
  · exact ⟨49, by decide +kernel, by decide +kernel⟩
theorem ev_len (e : Ev) : e.str.length ≤ sizeLine := le_sz (by cases e with | write => decide +kernel | timer => decide +kernel | arr b => cases b <;> decide +kernel)
def spLawDo : Sp := fun vs H Q _ => ∃ (f : Fr) (c : Cfg) (m : Mo) (e : Ev), vs = [.ref f.M, .str e.str] ∧ LwM c f H m ∧ Pre c m e ∧ ∀ v H', Kp f.ft H H' → LwM c f H' (step c e m) → Q v H'
theorem ok_law_do (u : U K mg) : Ok P w K mg base 3 (He.ga K "_law_do") ["_law_model_here", "_law_event"] spLawDo := by
  obtain ⟨fd_law_write, G_law_write, kp_law_write, b_law_write⟩ := (ok_law_write (P := P) (w := w) (base := base) u).ex
  obtain ⟨fd_law_fire, G_law_fire, kp_law_fire, b_law_fire⟩ := (ok_law_fire (P := P) (w := w) (base := base) u).ex
  obtain ⟨fd_law_arrive, G_law_arrive, kp_law_arrive, b_law_arrive⟩ := (ok_law_arrive (P := P) (w := w) (base := base) u).ex
  obtain ⟨fd, F⟩ := u.d_law_do
  refine mkOk F sc_law_do (fun _ _ _ _ _ _ us hl => match us, hl with | [_, _], _ => rfl) (fun vs H Q E h => ?_) (fun cdv A outer s H vs Q E hr h => ?_)
  · obtain ⟨f, c, m, e, rfl, hm, hp, k⟩ := h
    rfl
  · obtain ⟨f, c, m, e, rfl, hm, hp, k⟩ := h
    have hu := hu_of hr
    refine ⟨_, (pss_one (ps_if (pt_cmpR op_eq (pv 1) pe_str (nomark _))
    (pss_one (ps_expr (pe_call G_law_write (hr.mono (by decide)) (by rfl) u.g__law_write kp_law_write b_law_write .nil pass0 (pa_cons (pv 0) pa_nil))))
    (pss_one (ps_if (pt_cmpR op_eq (pv 1) pe_str (nomark _))
    (pss_one (ps_expr (pe_call G_law_fire (hr.mono (by decide)) (by rfl) u.g__law_fire kp_law_fire b_law_fire .nil pass0 (pa_cons (pv 0) pa_nil))))
    (pss_one (ps_expr (pe_call G_law_arrive (hr.mono (by decide)) (by rfl) u.g__law_arrive kp_law_arrive b_law_arrive .nil pass0 (pa_cons (pv 0) (pa_cons (pe_callTy call_int_str (by rfl) u.n_int PyProof.Rows.boot_int (pa_cons (pe_ix ix_str (pv 1) pe_int (fun _ _ => rfl)) pa_nil)) pa_nil))))))))), ?_⟩
    walk_at "s"
    cases e with
    | write =>
      obtain ⟨h1, h2, h3, h4, h5⟩ := hp
      walk_at "w"
      exact ⟨f, c, m, rfl, hm, h1, h2, h3, h4, h5, fun H9 kp9 L9 => k _ H9 kp9 L9⟩
    | timer =>
      obtain ⟨h1, h2, h3⟩ := hp
      walk_at "w"
      exact ⟨f, c, m, rfl, hm, h1, h2, h3, fun H9 kp9 L9 => k _ H9 kp9 L9⟩
    | arr a =>
      obtain ⟨h1, h2⟩ := hp
      obtain ⟨z, z1, z2⟩ := str_7 a
      walk_at "w"
      refine itf (str_aw a) ?_
      walk_at "w"
      refine itf (str_at a) ?_
      walk_at "w"
      refine ⟨_, 7, z, rfl, rfl, ev_len _, z1, ?_⟩
      refine ⟨_, _, rfl, z2, (by show 1 ≤ 640; decide), ?_⟩
      exact ⟨f, c, m, a, rfl, hm, h1, h2, fun H9 kp9 L9 => k _ H9 kp9 L9⟩

def ntd (c : Cfg) (x : ML) : Nat → ML
  | 0 => x
  | 1 => arrN c (wd c (x.1.made - 1)).who (x.1.way (wd c (x.1.made - 1)).who).length x
  | _ => arrN c (!(wd c (x.1.made - 1)).who) ((arrN c (wd c (x.1.made - 1)).who (x.1.way (wd c (x.1.made - 1)).who).length x).1.way (!(wd c (x.1.made - 1)).who)).length (arrN c (wd c (x.1.made - 1)).who (x.1.way (wd c (x.1.made - 1)).who).length x)
theorem noted_ntd (c : Cfg) (x : ML) : noted c x = if x.1.made = 0 ∨ over c x.1 = true then x else ntd c x 2 := rfl
def ntb (c : Cfg) (x : ML) (i : Nat) : Bool := if i = 0 then (wd c (x.1.made - 1)).who else !(wd c (x.1.made - 1)).who
theorem ntd_succ (c : Cfg) (x : ML) {i : Nat} (h : i < 2) : ntd c x (i + 1) = arrN c (ntb c x i) ((ntd c x i).1.way (ntb c x i)).length (ntd c x i) := by
  match i, h with
  | 0, _ => rfl
  | 1, _ => rfl
theorem Gd.ntd {c : Cfg} {B : Nat} {x : ML} (g : Gd c B x) (hB : B ≤ 4000) : ∀ i, i ≤ 2 → Gd c B (ntd c x i)
  | 0, _ => g
  | 1, _ => g.arrN hB _ (Nat.le_refl _)
  | 2, _ => (g.arrN hB _ (Nat.le_refl _)).arrN hB _ (Nat.le_refl _)
theorem Gd.ways {c : Cfg} {B : Nat} {x : ML} (g : Gd c B x) (hB : B ≤ 4000) (b : Bool) : (x.1.way b).length < 80000 := by
  have := way_phi x.1 b
  have := g.mu
  omega
theorem ntx {c : Cfg} {x : ML} {i : Nat} {v : V} (h : [V.int (wI (wd c (x.1.made - 1)).who), V.int (1 - wI (wd c (x.1.made - 1)).who)][i]? = some v) : i < 2 ∧ v = .int (wI (ntb c x i)) := by
  have hi := (List.getElem?_eq_some_iff.mp h).1
  refine ⟨hi, ?_⟩
  match i, hi, h with
  | 0, _, h => cases h; rfl
  | 1, _, h => cases h; rw [wI_not]; rfl
def spLawNoted : Sp := fun vs H Q _ => ∃ (f : Fr) (c : Cfg) (lg : Addr) (x : ML) (B : Nat), vs = [.ref f.M, .ref lg] ∧ MLAt c f lg H x ∧ Gd c B x ∧ B ≤ 4000 ∧ c.words.length ≤ 16 ∧
  ∀ H', Kp (lg :: f.ft) H H' → MLAt c f lg H' (noted c x) → Q (.int (((noted c x).2.length : Nat) - (x.2.length : Nat))) H'
theorem ok_law_noted (u : U K mg) : Ok P w K mg base 3 (He.ga K "_law_noted") ["_law_model_here", "_law_log"] spLawNoted := by
  obtain ⟨fd_law_over, G_law_over, kp_law_over, b_law_over⟩ := (ok_law_over (P := P) (w := w) (base := base) u).ex
  obtain ⟨fd_law_arrive, G_law_arrive, kp_law_arrive, b_law_arrive⟩ := (ok_law_arrive (P := P) (w := w) (base := base) u).ex
  obtain ⟨fd, F⟩ := u.d_law_noted
  refine mkOk F sc_law_noted (fun _ _ _ _ _ _ us hl => match us, hl with | [_, _], _ => rfl) (fun vs H Q E h => ?_) (fun cdv A outer s H vs Q E hr h => ?_)
  · obtain ⟨f, c, lg, x, B, rfl, hm, g, hB, hw, k⟩ := h
    rfl
  · obtain ⟨f, c, lg, x, B, rfl, hm, g, hB, hw, k⟩ := h
    have hu := hu_of hr
    refine ⟨_, (pss_n (ps_if (PW.pt (pw_or (pt_cmpR op_eq (pe_dget hu (pv 0) pe_str (fun _ _ => rfl)) pe_int (nomark _)) (pw_or1 (pt_val (pe_call G_law_over (hr.mono (by decide)) (by rfl) u.g__law_over kp_law_over b_law_over .nil pass0 (pa_cons (pv 0) pa_nil))))))
    (pss_one (ps_ret pe_int))
    pss_nil)
    (pss_n (ps_par (i := 2) (j := 3) rfl sc_law_noted.nd rfl rfl (by decide) rfl rfl (pa_cons pe_int (pa_cons (pe_ix ix_tup (pe_ix ix_list (pe_dget hu (pv 0) pe_str (fun _ _ => rfl)) (pe_op op_sub (pe_dget hu (pv 0) pe_str (fun _ _ => rfl)) pe_int) (fun _ _ => rfl)) pe_int (fun _ _ => rfl)) pa_nil)) (by rfl))
    (pss_n (ps_for PassesOwn.never rfl (pi_tup (pe_tup (pa_cons (pv 3) (pa_cons (pe_op op_sub pe_int (pv 3)) pa_nil)))) (pg_name (i := 4) sc_law_noted.nd rfl (Or.inl rfl))
    (pss_one (ps_for PassesOwn.never rfl (pi_range1 (by rfl) u.n_range (pa_cons (pe_callB call_len_seq (by rfl) u.n_len PySem.boot_len (pa_cons (pe_ix ix_list (pe_dget hu (pv 0) pe_str (fun _ _ => rfl)) (pv 4) (fun _ _ => rfl)) pa_nil)) pa_nil)) (pg_name (i := 5) sc_law_noted.nd rfl (Or.inl rfl))
    (pss_one (ps_if (pt_not (pt_val (pe_call G_law_over (hr.mono (by decide)) (by rfl) u.g__law_over kp_law_over b_law_over .nil pass0 (pa_cons (pv 0) pa_nil))))
    (pss_n (ps_expr (pe_call G_law_arrive (hr.mono (by decide)) (by rfl) u.g__law_arrive kp_law_arrive b_law_arrive .nil pass0 (pa_cons (pv 0) (pa_cons (pv 4) pa_nil))))
    (pss_n (ps_expr (pe_bm PySem.F.plainAttrs_list PySem.F.slot_list_append PySem.F.type_list_append mt_append (pv 1) (pa_cons (pe_op op_add_str pe_str (pe_callTy call_str_int (by rfl) u.n_str PyProof.Rows.boot_str (pa_cons (pv 4) pa_nil))) pa_nil)))
    (pss_one (ps_aug (i := 2) sc_law_noted.nd rfl (Or.inl rfl) pe_int ip_add))))
    pss_nil)))))
    (pss_one (ps_ret (pv 2)))))), ?_⟩
    walk_at "s"
    obtain ⟨WD, RL, r, L⟩ := id hm.m
    obtain ⟨qs, hqs, hqr⟩ := L.wd
    have stay : (x.1.made = 0 ∨ over c x.1 = true) → ∀ H', Ex H H' → Q (.int 0) H' := fun z H' e => by
      have h := k H' (Kp.of e)
      rw [noted_ntd, if_pos z] at h
      have h2 := h (hm.ex e)
      rwa [Int.sub_self] at h2
    walk_at "w"
    refine L.getM (mk_made _ _ _ _ _ _ _) ?_
    walk_at "w"
    
    rw [show decide (V.int (x.1.made : Nat) = V.int 0) = decide (x.1.made = 0) from dec_nat _ 0]
    refine itb (fun z => ?_) (fun z => ?_)
    · walk_at "w"
      exact stay (Or.inl (of_decide_eq_true z)) H (Same.refl _)
    · have z1 := of_decide_eq_false z
      walk_at "w"
      refine ⟨f, c, x.1, rfl, hm.m, g.md, hw, fun H1 e1 => ?_⟩
      refine ⟨_, rfl, itb (fun z2 => ?_) (fun z2 => ?_)⟩
      · walk_at "w"
        exact stay (Or.inr z2) H1 e1
      · rw [noted_ntd, if_neg (fun q => by rcases q with q | q; exact z1 q; rw [q] at z2; cases z2)] at k
        obtain ⟨pw, hpw, hpt⟩ := hqr.get (wsV_get (show x.1.made - 1 < c.words.length by have := g.md; omega))
        have hat : atI (qs.map V.ref) ((x.1.made : Nat) - 1 : Int) = some (.ref pw) := by
          rw [show ((x.1.made : Nat) - 1 : Int) = ((x.1.made - 1 : Nat) : Int) by omega, atI_nat, List.getElem?_map, hpw]; rfl
        have L1 := L.ex e1
        have hqs1 := e1 _ _ hqs
        have hpt1 := e1 _ _ hpt
        walk_at "w"
        refine L1.getM (mk_words _ _ _ _ _ _ _) ?_
        walk_at "w"
        refine L1.getM (mk_made _ _ _ _ _ _ _) ?_
        walk_at "w"
    
        refine x_lst hqs1 hat ?_
        walk_at "w"
        refine ⟨le_sz le_r, fun T hT => ?_⟩
        have hTn := (hm.ex e1).new hT
        refine ⟨_, rfl, ⟨_, SqT.of upd_same⟩, for_tup (a := T) (xs := [V.int (wI (wd c (x.1.made - 1)).who), V.int (1 - wI (wd c (x.1.made - 1)).who)]) (fun i σ' H' => ∃ v4 v5, σ' = [some (.ref f.M), some (.ref lg), some (.int (((ntd c x i).2.length : Nat) - (x.2.length : Nat))), some (.int (wI (wd c (x.1.made - 1)).who)), v4, v5] ∧ Kp (lg :: f.ft) H H' ∧ H' T = some (.tup [V.int (wI (wd c (x.1.made - 1)).who), V.int (1 - wI (wd c (x.1.made - 1)).who)]) ∧ MLAt c f lg H' (ntd c x i)) ?_ ?_ ?_ ?_⟩
        · exact ⟨none, none, by rw [show ntd c x 0 = x from rfl, Int.sub_self], Kp.of (by walk_at "e"), upd_same, hm.ex (by walk_at "e")⟩
        · rintro i σ' H' _ ⟨v4, v5, rfl, kp, hT', M⟩
          exact SqT.of hT'
        · rintro i v σ' H' hi ⟨v4, v5, rfl, kp, hT', M⟩
          obtain ⟨hi2, rfl⟩ := ntx hi
          rw [ntd_succ c x hi2]
          have gi := g.ntd hB i (by omega)
          generalize ntb c x i = a at *
          generalize ntd c x i = y at *
          obtain ⟨WD', RL', r', L'⟩ := id M.m
          obtain ⟨ps, hps, hpr, hpl⟩ := L'.bx.wal a
          walk_at "w"
          refine L'.getM (mk_ways _ _ _ _ _ _ _) ?_
          walk_at "w"
    
          refine x_lst L'.bx.wl (Bx.w_at f a) ?_
          walk_at "w"
          refine ⟨_, _, rfl, Or.inl (SqL.of hps), ?_⟩
          rw [List.length_map, hpl]
          have hwl := gi.ways hB a
          walk_at "w"
          refine ⟨by omega, by omega, ?_⟩
          refine for_range (n := (y.1.way a).length) (fun j σ2 H2 => ∃ v5, σ2 = [some (.ref f.M), some (.ref lg), some (.int (((arrN c a j y).2.length : Nat) - (x.2.length : Nat))), some (.int (wI (wd c (x.1.made - 1)).who)), some (.int (wI a)), v5] ∧ Kp (lg :: f.ft) H H2 ∧ H2 T = some (.tup [V.int (wI (wd c (x.1.made - 1)).who), V.int (1 - wI (wd c (x.1.made - 1)).who)]) ∧ MLAt c f lg H2 (arrN c a j y)) ?_ ?_ ?_
          · exact ⟨_, rfl, kp, hT', M⟩
          · rintro j σ2 H2 hj ⟨v5, rfl, kp2, hT2, M2⟩
            rw [arrN_snoc]
            have gj := gi.arrN hB j (Nat.le_of_lt hj)
            have hlj := arrN_len c a j y
            generalize arrN c a j y = u2 at *
            walk_at "w"
            refine ⟨f, c, u2.1, rfl, M2.m, gj.md, hw, fun H3 e3 => ?_⟩
            refine ⟨_, rfl, ?_⟩
            cases ho : over c u2.1 with
            | true =>
              rw [arrOne_over ho]
              exact ⟨_, rfl, kp2.trans (Kp.of e3), e3 _ _ hT2, M2.ex e3⟩
            | false =>
              rw [arrOne_go ho]
              have hl2 := hlj ho
              refine itt rfl ?_
              walk_at "w"
              refine ⟨f, c, u2.1, a, rfl, M2.m.ex e3, fun e => by rw [e] at hl2; simp at hl2; omega, fun b => gj.ways hB b, fun H4 kp4 L4 => ?_⟩
              have M4 := (M2.ex e3).step kp4 L4
              walk_at "w"
              refine ⟨tyl M4.l, ?_⟩
              walk_at "w"
              refine ⟨wI_log a, _, _, rfl, rfl, arr_len a, ?_⟩
              rw [arr_str]
              have hmu := gj.mu
              refine ac0 ?_
              refine M4.app (by show u2.2.length < 90000; omega) fun H5 kp5 M5 => ?_
              walk_at "w"
              have hlen : (((does c (.arr a) u2).2.length : Nat) : Int) - (x.2.length : Nat) = (u2.2.length : Nat) - (x.2.length : Nat) + 1 := by
                show (((u2.2 ++ [Ev.arr a]).length : Nat) : Int) - _ = _
                rw [List.length_append, List.length_singleton]; omega
              rw [hlen]
              have hT4 := kp4 _ _ (e3 _ _ hT2) (fun z => hTn (List.mem_cons_of_mem _ z))
              exact ⟨_, rfl, ((kp2.trans (Kp.of e3)).trans kp4.lg).trans kp5, kp5 _ _ hT4 hTn, M5⟩
          · rintro σ2 H2 ⟨v5, rfl, kp2, hT2, M2⟩
            exact ⟨_, _, rfl, kp2, hT2, M2⟩
        · rintro σ' H' ⟨v4, v5, rfl, kp, hT', M⟩
          walk_at "w"
          exact k H' kp M

def spLawSettle : Sp := fun vs H Q _ => ∃ (f : Fr) (c : Cfg) (lg : Addr) (x : ML) (B : Nat), vs = [.ref f.M, .ref lg] ∧ MLAt c f lg H x ∧ Gd c B x ∧ B ≤ 3900 ∧ c.words.length ≤ 16 ∧ Md c x ∧
  ∀ v H', Kp (lg :: f.ft) H H' → MLAt c f lg H' (lawEnd c x) → Q v H'
def half (c : Cfg) (x : ML) : ML := if due c (settle c x).1 = true then does c .timer (settle c x) else settle c x
theorem lawEnd_half (c : Cfg) (x : ML) : lawEnd c x = half c (half c x) := rfl
theorem Gd.half {c : Cfg} {B : Nat} {x : ML} (g : Gd c B x) (hB : B ≤ 4000) (h : Md c x) : Gd c (B + 2) (half c x) ∧ Md c (half c x) := by
  unfold Lw.half
  have g1 := g.settle hB
  have D1 := due_made h
  have M1 := h.settle
  generalize Lw.settle c x = y at *
  split
  · rename_i hd
    exact ⟨g1.timer hB (D1 hd), Md.timer (D1 hd)⟩
  · exact ⟨g1.mono (by omega), M1⟩
def halfs (c : Cfg) (x : ML) : Nat → ML
  | 0 => x
  | n + 1 => half c (halfs c x n)
theorem ok_law_settle (u : U K mg) : Ok P w K mg base 4 (He.ga K "_law_settle") ["_law_model_here", "_law_log"] spLawSettle := by
  obtain ⟨fd_law_noted, G_law_noted, kp_law_noted, b_law_noted⟩ := (ok_law_noted (P := P) (w := w) (base := base) u).ex
  obtain ⟨fd_law_events, G_law_events, kp_law_events, b_law_events⟩ := (ok_law_events (P := P) (w := w) (base := base) u).ex
  obtain ⟨fd_law_fire, G_law_fire, kp_law_fire, b_law_fire⟩ := (ok_law_fire (P := P) (w := w) (base := base) u).ex
  obtain ⟨fd, F⟩ := u.d_law_settle
  refine mkOk F sc_law_settle (fun _ _ _ _ _ _ us hl => match us, hl with | [_, _], _ => rfl) (fun vs H Q E h => ?_) (fun cdv A outer s H vs Q E hr h => ?_)
  · obtain ⟨f, c, lg, x, B, rfl, hm, g, hB, hw, hd, k⟩ := h
    rfl
  · obtain ⟨f, c, lg, x, B, rfl, hm, g, hB, hw, hd, k⟩ := h
    have hu := hu_of hr
    refine ⟨_, (pss_one (ps_for PassesOwn.never rfl (pi_range1 (by rfl) u.n_range (pa_cons pe_int pa_nil)) (pg_name (i := 2) sc_law_settle.nd rfl (Or.inl rfl))
    (pss_n (ps_set (i := 3) sc_law_settle.nd rfl (Or.inl rfl) (pe_call G_law_noted (hr.mono (by decide)) (by rfl) u.g__law_noted kp_law_noted b_law_noted .nil pass0 (pa_cons (pv 0) (pa_cons (pv 1) pa_nil))))
    (pss_n (ps_while PassesOwn.never (pt_cmpR op_gt (pv 3) pe_int (nomark _))
    (pss_one (ps_set (i := 3) sc_law_settle.nd rfl (Or.inl rfl) (pe_call G_law_noted (hr.mono (by decide)) (by rfl) u.g__law_noted kp_law_noted b_law_noted .nil pass0 (pa_cons (pv 0) (pa_cons (pv 1) pa_nil))))))
    (pss_one (ps_if (pt_cmpR (op_eqD hr.units) (pe_call G_law_events (hr.mono (by decide)) (by rfl) u.g__law_events kp_law_events b_law_events .nil pass0 (pa_cons (pv 0) pa_nil)) (pe_lst (pa_cons pe_str pa_nil)) (nomark _))
    (pss_n (ps_expr (pe_call G_law_fire (hr.mono (by decide)) (by rfl) u.g__law_fire kp_law_fire b_law_fire .nil pass0 (pa_cons (pv 0) pa_nil)))
    (pss_one (ps_expr (pe_bm PySem.F.plainAttrs_list PySem.F.slot_list_append PySem.F.type_list_append mt_append (pv 1) (pa_cons pe_str pa_nil)))))
    pss_nil)))))), ?_⟩
    walk_at "s"
    walk_at "w"
    refine ⟨by decide, by decide, for_range (n := 2) (fun i σ' H' => ∃ v2 v3, σ' = [some (.ref f.M), some (.ref lg), v2, v3] ∧ Kp (lg :: f.ft) H H' ∧ MLAt c f lg H' (halfs c x i) ∧ Gd c (B + 2 * i) (halfs c x i) ∧ Md c (halfs c x i)) ?_ ?_ ?_⟩
    · exact ⟨none, none, rfl, Kp.refl, hm, g, hd⟩
    · rintro i σ' H' hi ⟨v2, v3, rfl, kp, M, gi, hdi⟩
      have hB2 : B + 2 * i ≤ 4000 := by omega
      have gh := gi.half hB2 hdi
      have eh : halfs c x (i + 1) = half c (halfs c x i) := rfl
      rw [eh, show B + 2 * (i + 1) = B + 2 * i + 2 by omega]
      generalize B + 2 * i = B1 at *
      have hse := due_made hdi
      have gs := gi.settle hB2
      have hhalf : half c (halfs c x i) = if due c (settle c (halfs c x i)).1 = true then does c .timer (settle c (halfs c x i)) else settle c (halfs c x i) := rfl
      generalize half c (halfs c x i) = hx at *
      walk_at "w"
      refine ⟨f, c, lg, halfs c x i, B1, rfl, M, gi, hB2, hw, fun H1 kp1 M1 => ?_⟩
      have gn := gi.noted hB2
      have kp01 := kp.trans kp1
      generalize halfs c x i = x0 at *
      walk_at "w"
      refine ⟨fun m σ' H2 => ∃ y, m = phi y.1 ∧ σ' = [some (.ref f.M), some (.ref lg), some (.int (0 + (i : Nat))), some (.int (((noted c y).2.length : Nat) - (y.2.length : Nat)))] ∧ Kp (lg :: f.ft) H H2 ∧ MLAt c f lg H2 (noted c y) ∧ Gd c B1 (noted c y) ∧ settle c y = settle c x0, ⟨_, x0, rfl, rfl, kp01, M1, gn, rfl⟩, ?_⟩
      rintro m σ' H2 ⟨y, rfl, rfl, kp2, M2, g2, es⟩
      have hse2 := settle_eq c y
      have hph := noted_phi c y
      walk_at "w"
      refine itb (fun z => ?_) (fun z => ?_)
      · have z' : y.2.length < (noted c y).2.length := by have := of_decide_eq_true z; omega
        rw [if_pos z'] at hse2
        refine ⟨_, fun σ' H' h => ⟨phi (noted c y).1, by omega, h⟩, ?_⟩
        walk_at "w"
        refine ⟨f, c, lg, noted c y, B1, rfl, M2, g2, hB2, hw, fun H3 kp3 M3 => ?_⟩
        walk_at "w"
        exact ⟨kp2.trans kp3, M3, g2.noted hB2, by rw [← hse2, es]⟩
      · have z' : ¬ y.2.length < (noted c y).2.length := by have := of_decide_eq_false z; omega
        rw [if_neg z'] at hse2
        have eS : settle c x0 = noted c y := by rw [← es, hse2]
        rw [eS] at hhalf hse gs
        generalize noted c y = S0 at *
        walk_at "w"
        refine ⟨f, c, S0.1, rfl, M2.m, gs.md, hw, fun E1 H3 e3 hE1 => ?_⟩
        walk_at "w"
        refine ⟨le_sz le_r, fun E2 hE2 => ?_⟩
        have hE1' : H3 E1 = some (.lst (((evs c S0.1).map Ev.str).map V.str)) := by rw [hE1]; exact congrArg (fun z => some (HO.lst z)) (logV_eq _)
        refine eqStrs (ys := [("timer" : Str)]) (xn hE2 hE1') upd_same (logs_ok _) (fun z hz => by rw [List.mem_singleton.mp hz]; exact ev_ok .timer) ?_
        have hdd : decide ((evs c S0.1).map Ev.str = [("timer" : Str)]) = due c S0.1 := by
          rw [Bool.eq_iff_iff, decide_eq_true_iff, ← evs_due]
          exact ⟨fun h => evs_inj (b := [.timer]) h, fun h => by rw [h]; rfl⟩
        rw [hdd]
        have M4 := M2.ex (show Ex H2 (upd H3 E2 (.lst [V.str "timer"])) by walk_at "e")
        have kp4 : Kp (lg :: f.ft) H (upd H3 E2 (.lst [V.str "timer"])) := kp2.trans (Kp.of (by walk_at "e"))
        refine ⟨_, rfl, itb (fun z2 => ?_) (fun z2 => ?_)⟩
        · rw [if_pos z2] at hhalf
          walk_at "w"
          refine ⟨f, c, S0.1, rfl, M4.m, hse z2, gs.md, fun b => gs.ways hB2 b, fun H5 kp5 L5 => ?_⟩
          have M5 := M4.step kp5 L5
          walk_at "w"
          refine ⟨tyl M5.l, ?_⟩
          refine ac2 ?_
          have hmu := gs.mu
          refine M5.app (e := .timer) (by show S0.2.length < 90000; omega) fun H6 kp6 M6 => ?_
          refine ⟨_, _, rfl, (kp4.trans kp5.lg).trans kp6, ?_, gh.1, gh.2⟩
          rw [hhalf]; exact M6
        · rw [z2] at hhalf
          refine ⟨_, _, rfl, kp4, ?_, gh.1, gh.2⟩
          rw [hhalf]; exact M4
    · rintro σ' H' ⟨v2, v3, rfl, kp, M, gi, hdi⟩
      exact k _ H' kp M
end
end Lw
namespace Lw
open PySem PySem.Spec PyProof.Rows L2
section
variable {P : Program} {w : World} {K : PySem.W.Frag} {mg : Str → Option Value} {base : Heap}
local macro_rules | `(tactic| walk_at "h") => `(tactic| first | assumption | exact upd_same | (refine xn (by assumption) ?_; walk_at "h") | (refine exapp (by assumption) ?_; walk_at "h"))
local macro_rules | `(tactic| walk_at "e") => `(tactic| first | exact Same.refl _ | assumption | (refine Same.trans ?_ (Ex.new (by assumption)); walk_at "e") | (refine Same.trans ?_ (by assumption); walk_at "e"))
local macro_rules | `(tactic| walk_at "w") => `(tactic| repeat (first | refine ⟨_, rfl, ?_⟩ | refine ⟨_, _, rfl, rfl, ?_⟩ | refine ⟨_, _, _, _, rfl, rfl, SqT.of (by walk_at "h"), (by rfl), ?_⟩ | (refine fun σ2 (hσ : σ2 = _) => ?_; (try simp only [List.set_cons_succ, List.set_cons_zero] at hσ); subst hσ) | refine ⟨_, _, rfl, SqT.of (by walk_at "h"), (by rfl), ?_⟩ | refine ⟨rfl, ?_⟩ | refine ⟨_, _, rfl, ?_⟩))
local macro_rules | `(tactic| walk_at "s") => `(tactic| (intro σ hσ; simp only [start_eq, List.map_cons, List.map_nil, List.length_cons, List.length_nil, List.cons_append, List.nil_append, Nat.reduceAdd, Nat.reduceSub, List.replicate_succ, List.replicate_zero] at hσ; subst hσ))

def spLawSide : Sp := fun vs H Q _ => vs = [] ∧ ∀ d H', Ex H H' → H d = none → H' d = some (.dK (sideK side0)) → Q (.ref d) H'
theorem ok_law_side (u : U K mg) : Ok P w K mg base 1 (He.ga K "_law_side") [] spLawSide := by
  obtain ⟨fd, F⟩ := u.d_law_side
  refine mkOk F sc_law_side (fun _ _ _ _ _ _ us hl => match us, hl with | [], _ => rfl) (fun vs H Q E h => ?_) (fun cdv A outer s H vs Q E hr h => ?_)
  · obtain ⟨rfl, k⟩ := h
    rfl
  · obtain ⟨rfl, k⟩ := h
    have hu := hu_of hr
    refine ⟨_, (pss_one (ps_ret (pe_disp (pps_cons pe_str pe_int (pps_cons pe_str pe_bl (pps_cons pe_str pe_int (pps_cons pe_str pe_int (pps_cons pe_str pe_int (pps_cons pe_str pe_int (pps_cons pe_str pe_int (pps_cons pe_str pe_int pps_nil)))))))) (by rfl) (by rfl) (fun z => by cases z) (by decide)))), ?_⟩
    walk_at "s"
    refine fun d hd => ⟨upd_same, sideK side0, rfl, (by decide), ?_⟩
    refine k d _ (updEx2 hd hd) hd ?_
    rw [upd_same]
    kernel_rfl

def spLawModel (K : PySem.W.Frag) : Sp := fun vs H Q _ => ∃ (a p : Addr) (c : Cfg), vs = [.ref a, .ref p] ∧ IsSet K c H a ∧ LstT H p (wsV c) ∧
  ∀ (f : Fr) H', Ex H H' → (∀ a ∈ f.ft ++ [f.SL, f.WL, f.RL], H a = none) → f.WD = p → LwM c f H' mo0 → Q (.ref f.M) H'
theorem ok_law_model (u : U K mg) : Ok P w K mg base 2 (He.ga K "_law_model") ["_law_setting", "_law_words"] (spLawModel K) := by
  obtain ⟨fd_law_side, G_law_side, kp_law_side, b_law_side⟩ := (ok_law_side (P := P) (w := w) (base := base) u).ex
  obtain ⟨fd, F⟩ := u.d_law_model
  refine mkOk F sc_law_model (fun _ _ _ _ _ _ us hl => match us, hl with | [_, _], _ => rfl) (fun vs H Q E h => ?_) (fun cdv A outer s H vs Q E hr h => ?_)
  · obtain ⟨a, p, c, rfl, hs, hp, k⟩ := h
    rfl
  · obtain ⟨a, p, c, rfl, hs, hp, k⟩ := h
    have hu := hu_of hr
    refine ⟨_, (pss_n (ps_setLc (i := 2) (own := [("_law_policy", 3)]) (g := (gName 3)) (tt := tYes) (te := (tTup (tCons (tFld K (tVar 3) "hold") (tCons (tFld K (tVar 3) "every") (tCons (tFld K (tVar 3) "quick") tNil))))) rfl sc_law_model.nd rfl rfl (sw_true rfl rfl rfl (by decide +kernel)) (pi_tup (pe_fld (pv 0) rfl)) (blkOk_by (N := n_law_model) (sc := defScope s_law_model) (by decide +kernel)) (fun _ _ _ _ _ => (pg_name (i := 3) sc_law_model.nd rfl (Or.inl rfl))) (fun _ _ _ _ _ => pts_nil) (fun _ _ _ _ _ => (pe_tup (pa_cons (pe_fld (pv 3) rfl) (pa_cons (pe_fld (pv 3) rfl) (pa_cons (pe_fld (pv 3) rfl) pa_nil))))))
    (pss_n (ps_set (i := 4) sc_law_model.nd rfl (Or.inl rfl) (pe_disp (pps_cons pe_str (pv 1) (pps_cons pe_str (pe_fld (pv 0) rfl) (pps_cons pe_str (pv 2) (pps_cons pe_str pe_int (pps_cons pe_str pe_int pps_nil))))) (by rfl) (by rfl) (fun z => by cases z) (by decide)))
    (pss_n (ps_dput hu (pv 4) pe_str (pe_lst (pa_cons (pe_call0 G_law_side (hr.mono (by decide)) (by rfl) u.g__law_side kp_law_side b_law_side .nil pass0) (pa_cons (pe_call0 G_law_side (hr.mono (by decide)) (by rfl) u.g__law_side kp_law_side b_law_side .nil pass0) pa_nil))) rfl)
    (pss_n (ps_dput hu (pv 4) pe_str (pe_lst (pa_cons (pe_lst pa_nil) (pa_cons (pe_lst pa_nil) pa_nil))) rfl)
    (pss_one (ps_ret (pv 4))))))), ?_⟩
    walk_at "s"
    obtain ⟨dx, pt, ps, ds, S⟩ := hs
    refine ⟨_, rfl, _, _, _, _, _, rfl, S.ob, u.c_Setting, u.a_Setting_policies, stf_policies _ _, ?_⟩
    refine ⟨_, rfl, ⟨_, SqT.of S.tu⟩, fun RL hRL => lc_tup (K := K) (a := pt) (xs := [false, true].map fun b => V.ref (ps b)) (fun i H' => Ex H H' ∧ ∃ qs : List Addr, H' RL = some (.lst (qs.map V.ref)) ∧ Rows H' qs (([false, true].map fun b => ruleV (c.rule b)).take i)) ?_ ?_ ?_ ?_⟩
    · exact ⟨Ex.new hRL, [], upd_same, .nil⟩
    · rintro i H' _ ⟨k1, _⟩
      exact SqT.of (k1 _ _ S.tu)
    · rintro i x H' hi ⟨k1, qs, hqs, hqr⟩
      obtain ⟨b, hb, rfl⟩ := map_get hi
      have hp1 := k1 _ _ (S.pol b)
      refine ⟨rfl, ?_⟩
      refine ⟨_, rfl, _, _, _, _, _, rfl, hp1, u.c_Policy, u.a_Policy_hold, pf_hold _, ?_⟩
      refine ⟨_, rfl, _, _, _, _, _, rfl, hp1, u.c_Policy, u.a_Policy_every, pf_every _, ?_⟩
      refine ⟨_, rfl, _, _, _, _, _, rfl, hp1, u.c_Policy, u.a_Policy_quick, pf_quick _, ?_⟩
      refine ⟨le_sz le_r, fun T hT => ?_⟩
      have hq2 : qs.length ≤ 2 := by rw [hqr.len]; exact List.length_take_le' _ _
      refine ⟨_, xn hT hqs, (by rw [List.length_map]; exact lt_sz (by omega)), exmut (by walk_at "e") hRL, qs ++ [T], ?_, ?_⟩
      · rw [List.map_append]; exact upd_same
      · rw [take_map hb fun b => ruleV (c.rule b)]
        exact ((hqr.ex (Ex.new hT)).snoc (r := ruleV (c.rule b)) upd_same).updl (xn hT hqs)
    · rintro H1 ⟨k1, qs, hqs, hqr⟩
      change Rows H1 qs [ruleV (c.rule false), ruleV (c.rule true)] at hqr
      obtain ⟨q0, q1, rfl⟩ : ∃ q0 q1, qs = [q0, q1] := by
        match qs, hqr.len with
        | [q0, q1], _ => exact ⟨q0, q1, rfl⟩
      obtain ⟨hq0, hqr1⟩ := hqr.tail
      obtain ⟨hq1, _⟩ := hqr1.tail
      have S1 := S.ex k1
      walk_at "w"
      refine fun MD hMD => ?_
      refine ⟨_, rfl, ?_⟩
      refine ⟨_, rfl, _, _, _, _, _, rfl, xn hMD S1.ob, u.c_Setting, u.a_Setting_size, stf_size _ _, ?_⟩
      refine ⟨_, rfl, ?_⟩
      refine ⟨upd_same, [(.inr "words", .ref p), (.inr "size", .int c.size), (.inr "rules", .ref RL), (.inr "made", .int 0), (.inr "stalls", .int 0)], rfl, (le_r (n := 5) (m := 15)), ?_⟩
      rw [show mergeK [] [((.inr "words" : Key), V.ref p), (.inr "size", .int c.size), (.inr "rules", .ref RL), (.inr "made", .int 0), (.inr "stalls", .int 0)] = [(.inr "words", .ref p), (.inr "size", .int c.size), (.inr "rules", .ref RL), (.inr "made", .int 0), (.inr "stalls", .int 0)] by kernel_rfl]
      have eM : Ex H1 (upd (upd H1 MD (.dK [])) MD (.dK [(.inr "words", .ref p), (.inr "size", .int c.size), (.inr "rules", .ref RL), (.inr "made", .int 0), (.inr "stalls", .int 0)])) := updEx2 hMD hMD
      have hM2 : (upd (upd H1 MD (.dK [])) MD (.dK [(.inr "words", .ref p), (.inr "size", .int c.size), (.inr "rules", .ref RL), (.inr "made", .int 0), (.inr "stalls", .int 0)])) MD = some (.dK [(.inr "words", .ref p), (.inr "size", .int c.size), (.inr "rules", .ref RL), (.inr "made", .int 0), (.inr "stalls", .int 0)]) := upd_same
      generalize (upd (upd H1 MD (.dK [])) MD (.dK [(.inr "words", .ref p), (.inr "size", .int c.size), (.inr "rules", .ref RL), (.inr "made", .int 0), (.inr "stalls", .int 0)])) = H2 at *
      walk_at "w"
      refine fun s0 H3 e3 hs0n hs0 => ?_
      walk_at "w"
      refine fun s1 H4 e4 hs1n hs1 => ?_
      walk_at "w"
      refine ⟨le_sz le_r, fun SL hSL => ?_⟩
      have eH2 : Ex H H2 := k1.trans eM
      have hp2 := hp.ex eH2
      have rl2 := eM _ _ hqs
      have e24 : Ex H2 H4 := e3.trans e4
      have m4 := e24 _ _ hM2
      have s04 := e4 _ _ hs0
      have rl4 := e24 _ _ rl2
      obtain ⟨pq, hpq, hpqr⟩ := hp2
      have p4 := e24 _ _ hpq
      have e5 : Ex H4 (upd H4 SL (.lst [.ref s0, .ref s1])) := Ex.new hSL
      have sl5 : upd H4 SL (.lst [.ref s0, .ref s1]) SL = some (.lst [.ref s0, .ref s1]) := upd_same
      have nMSL := ne_of_none m4 hSL
      have ns0SL := ne_of_none s04 hSL
      have ns1SL := ne_of_none hs1 hSL
      have nRLSL := ne_of_none rl4 hSL
      have npSL := ne_of_none p4 hSL
      have ns0s1 := ne_of_none hs0 hs1n
      have nMs0 := ne_of_none hM2 hs0n
      have nMs1 := ne_of_none (e3 _ _ hM2) hs1n
      have nRs0 := ne_of_none rl2 hs0n
      have nRs1 := ne_of_none (e3 _ _ rl2) hs1n
      have nps0 := ne_of_none hpq hs0n
      have nps1 := ne_of_none (e3 _ _ hpq) hs1n
      have npM := ne_of_none (show H1 p = some (.lst (pq.map V.ref)) by
        obtain ⟨pq2, h1, h2⟩ := hp.ex k1
        have := eM _ _ h1
        rw [hpq] at this
        rw [h1]; exact this.symm) hMD
      have nRM := ne_of_none hqs hMD
      have npR : p ≠ RL := fun z => by
        obtain ⟨pq2, h1, h2⟩ := hp
        rw [z, hRL] at h1; cases h1
      have m5 := e5 _ _ m4
      have s05 := e5 _ _ s04
      have s15 := e5 _ _ hs1
      have rl5 := e5 _ _ rl4
      have p5 := e5 _ _ p4
      have r05 := e5 _ _ (e24 _ _ (eM _ _ hq0))
      have r15 := e5 _ _ (e24 _ _ (eM _ _ hq1))
      have pr5 : Rows (upd H4 SL (.lst [.ref s0, .ref s1])) pq (wsV c) := hpqr.ex (e24.trans e5)
      have eH5 : Ex H (upd H4 SL (.lst [.ref s0, .ref s1])) := (eH2.trans e24).trans e5
      have nM : H MD = none := exnone k1 hMD
      have ns0 : H s0 = none := exnone eH2 hs0n
      have ns1 : H s1 = none := exnone (eH2.trans e3) hs1n
      have nSL : H SL = none := exnone (eH2.trans e24) hSL
      generalize upd H4 SL (.lst [.ref s0, .ref s1]) = H5 at *
      clear hSL hs1n hs0n e24 e3 e4 hpqr hpq rl2 m4 s04 rl4 p4 e5 hp
      walk_at "w"
      refine ⟨MD, _, rfl, dpt m5 (lt_r (n := 5) (m := 1000)) (show putK [((.inr "words" : Key), V.ref p), (.inr "size", .int c.size), (.inr "rules", .ref RL), (.inr "made", .int 0), (.inr "stalls", .int 0)] (.inr "sides") (.ref SL) = [(.inr "words", .ref p), (.inr "size", .int c.size), (.inr "rules", .ref RL), (.inr "made", .int 0), (.inr "stalls", .int 0), (.inr "sides", .ref SL)] by kernel_rfl), ?_⟩
      have m6 : (upd H5 MD (.dK [(.inr "words", .ref p), (.inr "size", .int c.size), (.inr "rules", .ref RL), (.inr "made", .int 0), (.inr "stalls", .int 0), (.inr "sides", .ref SL)])) MD = some (.dK [(.inr "words", .ref p), (.inr "size", .int c.size), (.inr "rules", .ref RL), (.inr "made", .int 0), (.inr "stalls", .int 0), (.inr "sides", .ref SL)]) := upd_same
      have e6 : Ex H (upd H5 MD (.dK [(.inr "words", .ref p), (.inr "size", .int c.size), (.inr "rules", .ref RL), (.inr "made", .int 0), (.inr "stalls", .int 0), (.inr "sides", .ref SL)])) := exmut eH5 nM
      have pr6 : Rows (upd H5 MD (.dK [(.inr "words", .ref p), (.inr "size", .int c.size), (.inr "rules", .ref RL), (.inr "made", .int 0), (.inr "stalls", .int 0), (.inr "sides", .ref SL)])) pq (wsV c) := pr5.upd' m5 (fun xs z => by cases z)
      have k6 : ∀ b o, H5 b = some o → b ≠ MD → (upd H5 MD (.dK [(.inr "words", .ref p), (.inr "size", .int c.size), (.inr "rules", .ref RL), (.inr "made", .int 0), (.inr "stalls", .int 0), (.inr "sides", .ref SL)])) b = some o := fun b o h n => by rw [upd_ne n]; exact h
      have sl6 := k6 _ _ sl5 nMSL.symm
      have s06 := k6 _ _ s05 nMs0.symm
      have s16 := k6 _ _ s15 nMs1.symm
      have rl6 := k6 _ _ rl5 nRM
      have p6 := k6 _ _ p5 npM
      have r06 := k6 _ _ r05 (fun z => by rw [z, m5] at r05; cases r05)
      have r16 := k6 _ _ r15 (fun z => by rw [z, m5] at r15; cases r15)
      generalize (upd H5 MD (.dK [(.inr "words", .ref p), (.inr "size", .int c.size), (.inr "rules", .ref RL), (.inr "made", .int 0), (.inr "stalls", .int 0), (.inr "sides", .ref SL)])) = H6 at *
      clear k6 m5 s05 s15 rl5 p5 r05 r15 pr5 eH5 sl5
      walk_at "w"
      refine ⟨le_sz le_r, fun w0 hw0 => ?_⟩
      walk_at "w"
      refine ⟨le_sz le_r, fun w1 hw1 => ?_⟩
      walk_at "w"
      refine ⟨le_sz le_r, fun WL hWL => ?_⟩
      walk_at "w"
      have e69 : Ex H6 (upd (upd (upd H6 w0 (.lst [])) w1 (.lst [])) WL (.lst [.ref w0, .ref w1])) := by walk_at "e"
      have w0a : (upd H6 w0 (.lst [])) w0 = some (.lst []) := upd_same
      have w0b : (upd (upd H6 w0 (.lst [])) w1 (.lst [])) w0 = some (.lst []) := xn hw1 w0a
      have w1b : (upd (upd H6 w0 (.lst [])) w1 (.lst [])) w1 = some (.lst []) := upd_same
      have w09 := xn (o := .lst [.ref w0, .ref w1]) hWL w0b
      have w19 := xn (o := .lst [.ref w0, .ref w1]) hWL w1b
      have wl9 : (upd (upd (upd H6 w0 (.lst [])) w1 (.lst [])) WL (.lst [.ref w0, .ref w1])) WL = some (.lst [.ref w0, .ref w1]) := upd_same
      have nw0 : ∀ b o, H6 b = some o → b ≠ w0 := fun b o h => ne_of_none h hw0
      have nw1 : ∀ b o, H6 b = some o → b ≠ w1 := fun b o h => ne_of_none (xn hw0 h) hw1
      have nWL : ∀ b o, H6 b = some o → b ≠ WL := fun b o h => ne_of_none (xn hw1 (xn hw0 h)) hWL
      have nw01 := ne_of_none w0a hw1
      have nw0L := ne_of_none w0b hWL
      have nw1L := ne_of_none w1b hWL
      have hw0H := exnone e6 hw0
      have hw1H := exnone (e6.trans (Ex.new hw0)) hw1
      have hWLH := exnone (e6.trans ((Ex.new hw0).trans (Ex.new hw1))) hWL
      have m9 := e69 _ _ m6
      have e9 := e6.trans e69
      have pr9 := pr6.ex e69
      have sl9 := e69 _ _ sl6
      have s09 := e69 _ _ s06
      have s19 := e69 _ _ s16
      have rl9 := e69 _ _ rl6
      have p9 := e69 _ _ p6
      have r09 := e69 _ _ r06
      have r19 := e69 _ _ r16
      generalize (upd (upd (upd H6 w0 (.lst [])) w1 (.lst [])) WL (.lst [.ref w0, .ref w1])) = H9 at *
      refine ⟨MD, _, rfl, dpt m9 (lt_r (n := 6) (m := 1000)) (show putK [((.inr "words" : Key), V.ref p), (.inr "size", .int c.size), (.inr "rules", .ref RL), (.inr "made", .int 0), (.inr "stalls", .int 0), (.inr "sides", .ref SL)] (.inr "ways") (.ref WL) = modK p c.size RL SL WL 0 0 by kernel_rfl), ?_⟩
      walk_at "w"
      refine k ⟨MD, SL, WL, fun b => cond b s1 s0, fun b => cond b w1 w0, p, RL⟩ _ (exmut e9 nM) ?_ rfl ⟨p, RL, fun b => cond b q1 q0, ?_⟩
      · intro x hx
        simp only [Fr.ft, List.cons_append, List.nil_append, List.mem_cons, List.not_mem_nil, or_false, cond_true, cond_false] at hx
        rcases hx with rfl | rfl | rfl | rfl | rfl | rfl | rfl | rfl <;> assumption
      · have k9 : ∀ b o, H9 b = some o → b ≠ MD → (upd H9 MD (.dK (modK p c.size RL SL WL 0 0))) b = some o := fun b o h n => by rw [upd_ne n]; exact h
        have dn : ∀ {b : Addr} {o : HO}, H9 b = some o → (∀ kvs, o ≠ .dK kvs) → b ≠ MD := fun h n z => by
          rw [z, m9] at h
          exact n _ (Option.some.inj h).symm
        have q09 := k9 _ _ r09 (dn r09 (fun _ z => by cases z))
        have q19 := k9 _ _ r19 (dn r19 (fun _ z => by cases z))
        have pa9 : Rows (upd H9 MD (.dK (modK p c.size RL SL WL 0 0))) pq (wsV c) := pr9.upd' m9 (fun xs z => by cases z)
        refine ⟨⟨⟨ns0s1, nw01, ?_, ?_, ?_, ?_, ?_, ?_, ?_, nMSL.symm, (dn wl9 (fun _ z => by cases z))⟩, upd_same, k9 _ _ sl9 nMSL.symm, k9 _ _ wl9 (dn wl9 (fun _ z => by cases z)), ?_, ?_, (fun b s xs z => by cases z), (fun k n xs z => by cases z)⟩, ⟨pq, k9 _ _ p9 npM, pa9⟩, k9 _ _ rl9 nRM, ?_, ?_, ?_, rfl, rfl⟩
        · intro x y
          cases x <;> cases y
          · exact nw0 _ _ s06
          · exact nw1 _ _ s06
          · exact nw0 _ _ s16
          · exact nw1 _ _ s16
        · intro x
          cases x
          · exact nMs0
          · exact nMs1
        · intro x
          cases x
          · exact nw0 _ _ m6
          · exact nw1 _ _ m6
        · intro x
          cases x
          · exact ns0SL.symm
          · exact ns1SL.symm
        · intro x
          cases x
          · exact nw0 _ _ sl6
          · exact nw1 _ _ sl6
        · intro x
          cases x
          · exact (nWL _ _ s06).symm
          · exact (nWL _ _ s16).symm
        · intro x
          cases x
          · exact nw0L.symm
          · exact nw1L.symm
        · intro x
          cases x
          · exact k9 _ _ s09 nMs0.symm
          · exact k9 _ _ s19 nMs1.symm
        · intro x
          cases x
          · exact ⟨[], k9 _ _ w09 (nw0 _ _ m6).symm, .nil⟩
          · exact ⟨[], k9 _ _ w19 (nw1 _ _ m6).symm, .nil⟩
        · intro x
          cases x
          · exact q09
          · exact q19
        · intro hx
          simp only [Fr.ft, List.mem_cons, List.not_mem_nil, or_false, cond_true, cond_false] at hx
          rcases hx with h | h | h | h | h
          · exact npM h
          · exact nps0 h
          · exact nps1 h
          · exact nw0 _ _ p6 h
          · exact nw1 _ _ p6 h
        · intro hx
          simp only [Fr.ft, List.mem_cons, List.not_mem_nil, or_false, cond_true, cond_false] at hx
          rcases hx with h | h | h | h | h
          · exact nRM h
          · exact nRs0 h
          · exact nRs1 h
          · exact nw0 _ _ rl6 h
          · exact nw1 _ _ rl6 h
end
end Lw
namespace Lw
open PySem PySem.Spec PyProof.Rows L2
section
variable {P : Program} {w : World} {K : PySem.W.Frag} {mg : Str → Option Value} {base : Heap}
local macro_rules | `(tactic| walk_at "h") => `(tactic| first | assumption | exact upd_same | (refine xn (by assumption) ?_; walk_at "h") | (refine exapp (by assumption) ?_; walk_at "h"))
local macro_rules | `(tactic| walk_at "e") => `(tactic| first | exact Same.refl _ | assumption | (refine Same.trans ?_ (Ex.new (by assumption)); walk_at "e") | (refine Same.trans ?_ (by assumption); walk_at "e"))
local macro_rules | `(tactic| walk_at "w") => `(tactic| repeat (first | refine ⟨_, rfl, ?_⟩ | refine ⟨_, _, rfl, rfl, ?_⟩ | refine ⟨_, _, _, _, rfl, rfl, SqT.of (by walk_at "h"), (by rfl), ?_⟩ | (refine fun σ2 (hσ : σ2 = _) => ?_; (try simp only [List.set_cons_succ, List.set_cons_zero] at hσ); subst hσ) | refine ⟨_, _, rfl, SqT.of (by walk_at "h"), (by rfl), ?_⟩ | refine ⟨rfl, ?_⟩ | refine ⟨_, _, rfl, ?_⟩))
local macro_rules | `(tactic| walk_at "s") => `(tactic| (intro σ hσ; simp only [start_eq, List.map_cons, List.map_nil, List.length_cons, List.length_nil, List.cons_append, List.nil_append, Nat.reduceAdd, Nat.reduceSub, List.replicate_succ, List.replicate_zero] at hσ; subst hσ))

theorem MLAt.off {c : Cfg} {f : Fr} {lg D : Addr} {H : Hp} {x : ML} {o : HO} (h : MLAt c f lg H x) (hD : ∀ xs, H D ≠ some (.tup xs)) (nf : D ∉ lg :: f.all) : MLAt c f lg (upd H D o) x :=
  ⟨h.m.off hD (fun z => nf (List.mem_cons_of_mem _ z)), by rw [upd_ne (fun e => nf (by rw [← e]; exact List.mem_cons_self ..))]; exact h.l, h.o⟩
theorem fr_not {f : Fr} {lg D : Addr} (nf : D ∉ lg :: f.all) : D ∉ lg :: f.ft := fun z => nf (by
  rcases List.mem_cons.mp z with z | z
  · rw [z]; exact List.mem_cons_self ..
  · exact List.mem_cons_of_mem _ (List.mem_append_left _ z))
/-- the differences of neighbours -/
def difs (sl : List Int) : List Int := (List.range (sl.length - 1)).map fun k => sl.getD (k + 1) 0 - sl.getD k 0
theorem difs_pre (fl : List Int) : difs (pre fl) = fl := by
  have hl : (pre fl).length = fl.length + 1 := by unfold pre; rw [List.length_map, List.length_range]
  have hg : ∀ k, k ≤ fl.length → (pre fl).getD k 0 = (fl.take k).sum := by
    intro k hk
    unfold pre
    rw [List.getD_eq_getElem?_getD, List.getElem?_map, List.getElem?_range (by omega)]; rfl
  unfold difs
  rw [hl, Nat.add_sub_cancel]
  apply List.ext_getElem?
  intro i
  by_cases hi : i < fl.length
  · rw [List.getElem?_map, List.getElem?_range hi, List.getElem?_eq_getElem hi]
    show some ((pre fl).getD (i + 1) 0 - (pre fl).getD i 0) = _
    rw [hg _ (by omega), hg _ (by omega), List.take_add_one, List.sum_append, List.getElem?_eq_getElem hi]
    simp
    omega
  · rw [List.getElem?_eq_none (by rw [List.length_map, List.length_range]; omega), List.getElem?_eq_none (by omega)]
theorem played_len (c : Cfg) (plan : Nat → Nat) : ∀ k, (played c plan k).2.length ≤ k
  | 0 => Nat.le_refl _
  | k + 1 => by
    have ih := played_len c plan k
    rw [played_succ]
    show (pre1 c plan k).2.length ≤ _
    unfold pre1
    split
    · show ((played c plan k).2 ++ [_]).length ≤ _
      rw [List.length_append, List.length_singleton]; omega
    · omega
def spLawPlayed (K : PySem.W.Frag) : Sp := fun vs H Q _ => ∃ (a p b : Addr) (c : Cfg) (plan : Nat → Nat), vs = [.ref a, .ref p, .ref b] ∧ IsSet K c H a ∧ LstT H p (wsV c) ∧ H b = some (.lst (planL c plan)) ∧ Cok c ∧ (∀ k, plan k ≤ 2) ∧
  ∀ t M lg st H', Ex H H' → H' t = some (.tup [.ref M, .ref lg, .ref st]) → H' lg = some (.lst (logV (playedEnd c plan).1.2)) → H' st = some (.lst ((difs (playedEnd c plan).2).map V.int)) → Q (.ref t) H'
theorem ok_law_played (u : U K mg) : Ok P w K mg base 5 (He.ga K "_law_played") ["_law_setting", "_law_words", "_law_plan"] (spLawPlayed K) := by
  obtain ⟨fd_law_model, G_law_model, kp_law_model, b_law_model⟩ := (ok_law_model (P := P) (w := w) (base := base) u).ex
  obtain ⟨fd_law_settle, G_law_settle, kp_law_settle, b_law_settle⟩ := (ok_law_settle (P := P) (w := w) (base := base) u).ex
  obtain ⟨fd_law_noted, G_law_noted, kp_law_noted, b_law_noted⟩ := (ok_law_noted (P := P) (w := w) (base := base) u).ex
  obtain ⟨fd_law_write, G_law_write, kp_law_write, b_law_write⟩ := (ok_law_write (P := P) (w := w) (base := base) u).ex
  obtain ⟨fd, F⟩ := u.d_law_played
  refine mkOk F sc_law_played (fun _ _ _ _ _ _ us hl => match us, hl with | [_, _, _], _ => rfl) (fun vs H Q E h => ?_) (fun cdv A outer s H vs Q E hr h => ?_)
  · obtain ⟨a, p, b, c, plan, rfl, hs, hp, hb, ok, po, k⟩ := h
    rfl
  · obtain ⟨a, p, b, c, plan, rfl, hs, hp, hb, ok, po, k⟩ := h
    have hu := hu_of hr
    refine ⟨_, (pss_n (ps_asg (pe_tup (pa_cons (pe_call G_law_model (hr.mono (by decide)) (by rfl) u.g__law_model kp_law_model b_law_model .nil pass0 (pa_cons (pv 0) (pa_cons (pv 1) pa_nil))) (pa_cons (pe_lst pa_nil) (pa_cons (pe_lst pa_nil) pa_nil)))) (pg_tup rfl (pgs_cons (pg_name (i := 3) sc_law_played.nd rfl (Or.inl rfl)) (pgs_cons (pg_name (i := 4) sc_law_played.nd rfl (Or.inl rfl)) (pgs_cons (pg_name (i := 5) sc_law_played.nd rfl (Or.inr rfl)) pgs_nil)))))
    (pss_n (ps_for PassesOwn.never rfl (pi_range1 (by rfl) u.n_range (pa_cons (pe_callB call_len_seq (by rfl) u.n_len PySem.boot_len (pa_cons (pv 1) pa_nil)) pa_nil)) (pg_name (i := 6) sc_law_played.nd rfl (Or.inl rfl))
    (Evl.pss_cut (ps_if (PW.pt (pw_or (pt_cmpR op_eq (pv 6) pe_int (nomark _)) (pw_or1 (pt_cmpR op_ne (pe_ix ix_tup (pe_ix ix_list (pv 1) (pe_op op_sub (pv 6) pe_int) (fun _ _ => rfl)) pe_int (fun _ _ => rfl)) (pe_ix ix_tup (pe_ix ix_list (pv 1) (pv 6) (fun _ _ => rfl)) pe_int (fun _ _ => rfl)) (nomark _)))))
    (pss_n (ps_expr (pe_call G_law_settle (hr.mono (by decide)) (by rfl) u.g__law_settle kp_law_settle b_law_settle .nil pass0 (pa_cons (pv 3) (pa_cons (pv 4) pa_nil))))
    (pss_one (ps_expr (pe_bm PySem.F.plainAttrs_list PySem.F.slot_list_append PySem.F.type_list_append mt_append (pv 5) (pa_cons (pe_dget hu (pv 3) pe_str (fun _ _ => rfl)) pa_nil)))))
    pss_nil)
    (pss_n (ps_for PassesOwn.never rfl (pi_range1 (by rfl) u.n_range (pa_cons (pe_ix ix_list (pv 2) (pv 6) (fun _ _ => rfl)) pa_nil)) (pg_name (i := 7) sc_law_played.nd rfl (Or.inl rfl))
    (pss_one (ps_expr (pe_call G_law_noted (hr.mono (by decide)) (by rfl) u.g__law_noted kp_law_noted b_law_noted .nil pass0 (pa_cons (pv 3) (pa_cons (pv 4) pa_nil))))))
    (pss_n (ps_expr (pe_call G_law_write (hr.mono (by decide)) (by rfl) u.g__law_write kp_law_write b_law_write .nil pass0 (pa_cons (pv 3) pa_nil)))
    (pss_one (ps_expr (pe_bm PySem.F.plainAttrs_list PySem.F.slot_list_append PySem.F.type_list_append mt_append (pv 4) (pa_cons pe_str pa_nil))))))))
    (pss_n (ps_expr (pe_call G_law_settle (hr.mono (by decide)) (by rfl) u.g__law_settle kp_law_settle b_law_settle .nil pass0 (pa_cons (pv 3) (pa_cons (pv 4) pa_nil))))
    (pss_n (ps_expr (pe_bm PySem.F.plainAttrs_list PySem.F.slot_list_append PySem.F.type_list_append mt_append (pv 5) (pa_cons (pe_dget hu (pv 3) pe_str (fun _ _ => rfl)) pa_nil)))
    (pss_one (ps_ret (pe_tup (pa_cons (pv 3) (pa_cons (pv 4) (pa_cons (pe_lc (own := [("_law_k", 6)]) (g := (gName 6)) (tt := tYes) (te := (tOp (rI0 fun i j => .int (i - j)) (tOp (rIxL K) (tVar 5) (tOp (rI0 fun i j => .int (i + j)) (tVar 6) (tC (.int 1)))) (tOp (rIxL K) (tVar 5) (tVar 6)))) rfl sc_law_played.nd (pi_range1 (by rfl) u.n_range (pa_cons (pe_op op_sub (pe_callB call_len_seq (by rfl) u.n_len PySem.boot_len (pa_cons (pv 5) pa_nil)) pe_int) pa_nil)) (blkOk_by (N := n_law_played) (sc := defScope s_law_played) (by decide +kernel)) (fun _ _ _ _ _ => (pg_name (i := 6) sc_law_played.nd rfl (Or.inl rfl))) (fun _ _ _ _ _ => pts_nil) (fun _ _ _ _ _ => (pe_op op_sub (pe_ix ix_list (pv 5) (pe_op op_add (pv 6) pe_int) (fun _ _ => rfl)) (pe_ix ix_list (pv 5) (pv 6) (fun _ _ => rfl))))) pa_nil)))))))))), ?_⟩
    walk_at "s"
    obtain ⟨ps, hps, hpr⟩ := id hp
    have hn : (ps.map V.ref).length = c.words.length := by rw [List.length_map, hpr.len]; exact List.length_map _
    have hnw := ok.nw
    walk_at "w"
    refine ⟨a, p, c, rfl, hs, hp, fun f H1 e1 hfr hWD hM => ?_⟩
    walk_at "w"
    refine ⟨le_sz le_r, fun lg hlg => ?_⟩
    walk_at "w"
    refine ⟨le_sz le_r, fun st hst => ?_⟩
    walk_at "w"
    refine ⟨le_sz le_r, fun T hT => ?_⟩
    walk_at "w"
    have E0 : Ex H1 (upd (upd (upd H1 lg (.lst [])) st (.lst [])) T (.tup [.ref f.M, .ref lg, .ref st])) := by walk_at "e"
    have lgA : lg ∉ f.all := fun z => by
      obtain ⟨o, ho⟩ := hM.live z
      rw [ho] at hlg; cases hlg
    have stA : st ∉ lg :: f.all := fun z => by
      rcases List.mem_cons.mp z with z | z
      · rw [z, upd_same] at hst; cases hst
      · obtain ⟨o, ho⟩ := hM.live z
        rw [xn hlg ho] at hst; cases hst
    have ML0 : MLAt c f lg (upd (upd (upd H1 lg (.lst [])) st (.lst [])) T (.tup [.ref f.M, .ref lg, .ref st])) (mo0, []) := ⟨hM.ex E0, by walk_at "h", lgA⟩
    have st0 : (upd (upd (upd H1 lg (.lst [])) st (.lst [])) T (.tup [.ref f.M, .ref lg, .ref st])) st = some (.lst []) := by walk_at "h"
    have frs : ∀ b' ∈ st :: lg :: f.ft, H b' = none := by
      intro b' hb'
      rcases List.mem_cons.mp hb' with z | hb'
      · rw [z]; exact exnone (e1.trans (Ex.new hlg)) hst
      · rcases List.mem_cons.mp hb' with z | hb'
        · rw [z]; exact exnone e1 hlg
        · exact hfr _ (List.mem_append_left _ hb')
    have E1 := e1.trans E0
    generalize (upd (upd (upd H1 lg (.lst [])) st (.lst [])) T (.tup [.ref f.M, .ref lg, .ref st])) = H0 at *
    clear hT hst hlg hM E0 e1
    have old : ∀ {H' : Hp}, Kp (st :: lg :: f.ft) H0 H' → Ex H H' := fun kp => kp.ex E1 frs
    refine ⟨_, _, rfl, Or.inl (SqL.of (E1 _ _ hps)), ?_⟩
    rw [hn]
    walk_at "w"
    refine ⟨by omega, by omega, for_range (n := c.words.length) (fun i σ' H' => ∃ v6 v7, σ' = [some (.ref a), some (.ref p), some (.ref b), some (.ref f.M), some (.ref lg), some (.ref st), v6, v7] ∧ Kp (st :: lg :: f.ft) H0 H' ∧ MLAt c f lg H' (played c plan i).1 ∧ H' st = some (.lst ((played c plan i).2.map V.int))) ?_ ?_ ?_⟩
    · exact ⟨none, none, rfl, Kp.refl, ML0, st0⟩
    · rintro i σ' H' hi ⟨v6, v7, rfl, kp, M, hst⟩
      obtain ⟨gi, mi, di⟩ := played_gd ok.toCfgL plan i (by omega)
      have pl := played_len c plan i
      have ep := pre1_gd (plan := plan) (k := i) (by omega) gi di
      have epl : (pre1 c plan i).2.length ≤ i + 1 := by
        have := played_len c plan (i + 1)
        rw [played_succ] at this; exact this
      have eS := played_succ c plan i
      have eP : pre1 c plan i = if fresh c i = true then (lawEnd c (played c plan i).1, (played c plan i).2 ++ [(lawEnd c (played c plan i).1).1.stalls]) else played c plan i := by unfold pre1; rfl
      rw [eS]
      generalize pre1 c plan i = P1 at *
      generalize played c plan i = X at *
      rw [Int.zero_add]
      walk_at "w"
      refine ⟨fun σ2 H2 => ∃ v7, σ2 = [some (.ref a), some (.ref p), some (.ref b), some (.ref f.M), some (.ref lg), some (.ref st), some (.int (i : Nat)), v7] ∧ Kp (st :: lg :: f.ft) H0 H2 ∧ MLAt c f lg H2 P1.1 ∧ H2 st = some (.lst (P1.2.map V.int)), ?_, ?_⟩
      · walk_at "w"
        rw [show decide (V.int (i : Nat) = V.int 0) = decide (i = 0) from dec_nat i 0]
        have hps' := old kp _ _ hps
        refine itb (fun z => ?_) (fun z => ?_)
        · have hf : fresh c i = true := by unfold fresh; rw [z]; rfl
          rw [if_pos hf] at eP
          walk_at "w"
          refine ⟨f, c, lg, X.1, 75 * i, rfl, M, gi, by omega, hnw, di, fun _ H2 kp2 M2 => ?_⟩
          walk_at "w"
          have hst2 := kp2 _ _ hst (fr_not stA)
          refine ⟨tyl hst2, ?_⟩
          obtain ⟨WD2, RL2, r2, Lb⟩ := id M2.m
          walk_at "w"
          refine Lb.getM (mk_stalls _ _ _ _ _ _ _) ?_
          walk_at "w"
          refine ⟨st, _, _, rfl, rfl, hst2, by rw [List.length_map]; exact lt_sz (by omega), ?_⟩
          refine ⟨_, rfl, (kp.trans (kp2.mono fun b h => List.mem_cons_of_mem _ h)).trans (Kp.upd (List.mem_cons_self ..)), ?_, ?_⟩
          · rw [eP]; exact M2.off (fun xs z => by rw [hst2] at z; cases z) stA
          · rw [eP, upd_same, List.map_append]; rfl
        · have z' := of_decide_eq_false z
          obtain ⟨p1, hp1, ht1⟩ := hpr.get (wsV_get (show i - 1 < c.words.length by omega))
          obtain ⟨p2, hp2, ht2⟩ := hpr.get (wsV_get hi)
          have hat1 : atI (ps.map V.ref) ((i : Nat) - 1 : Int) = some (.ref p1) := by
            rw [show ((i : Nat) - 1 : Int) = ((i - 1 : Nat) : Int) by omega, atI_nat, List.getElem?_map, hp1]; rfl
          have hat2 : atI (ps.map V.ref) ((i : Nat) : Int) = some (.ref p2) := by
            rw [atI_nat, List.getElem?_map, hp2]; rfl
          have ht1' := old kp _ _ ht1
          have ht2' := old kp _ _ ht2
          have hff : fresh c i = !decide ((wd c (i - 1)).who = (wd c i).who) := by
            unfold fresh
            rw [decide_eq_false z', Bool.false_or]
            cases (wd c (i - 1)).who <;> cases (wd c i).who <;> rfl
          walk_at "w"
          refine x_lst hps' hat1 ?_
          walk_at "w"
          refine x_lst hps' hat2 ?_
          walk_at "w"
          rw [ne_wI]
          refine itb (fun z2 => ?_) (fun z2 => ?_)
          · rw [hff, if_pos z2] at eP
            walk_at "w"
            refine ⟨f, c, lg, X.1, 75 * i, rfl, M, gi, by omega, hnw, di, fun _ H2 kp2 M2 => ?_⟩
            walk_at "w"
            have hst2 := kp2 _ _ hst (fr_not stA)
            refine ⟨tyl hst2, ?_⟩
            obtain ⟨WD2, RL2, r2, Lb⟩ := id M2.m
            walk_at "w"
            refine Lb.getM (mk_stalls _ _ _ _ _ _ _) ?_
            walk_at "w"
            refine ⟨st, _, _, rfl, rfl, hst2, by rw [List.length_map]; exact lt_sz (by omega), ?_⟩
            refine ⟨_, rfl, (kp.trans (kp2.mono fun b h => List.mem_cons_of_mem _ h)).trans (Kp.upd (List.mem_cons_self ..)), ?_, ?_⟩
            · rw [eP]; exact M2.off (fun xs z => by rw [hst2] at z; cases z) stA
            · rw [eP, upd_same, List.map_append]; rfl
          · rw [hff, z2] at eP
            exact ⟨_, rfl, kp, by rw [eP]; exact M, by rw [eP]; exact hst⟩
      · rintro σ2 H2 ⟨v7, rfl, kp2, M2, hst2⟩
        have hb2 := old kp2 _ _ hb
        have hpi : atI (planL c plan) ((i : Nat) : Int) = some (.int (plan i : Nat)) := by rw [atI_nat]; exact planL_get hi
        have hpo := po i
        walk_at "w"
        refine x_lst hb2 hpi ?_
        walk_at "w"
        refine ⟨by omega, by omega, ?_⟩
        refine for_range (n := plan i) (fun j σ3 H3 => ∃ v7, σ3 = [some (.ref a), some (.ref p), some (.ref b), some (.ref f.M), some (.ref lg), some (.ref st), some (.int (i : Nat)), v7] ∧ Kp (st :: lg :: f.ft) H0 H3 ∧ MLAt c f lg H3 (notedN c j P1.1) ∧ H3 st = some (.lst (P1.2.map V.int))) ?_ ?_ ?_
        · exact ⟨_, rfl, kp2, M2, hst2⟩
        · rintro j σ3 H3 hj ⟨v7, rfl, kp3, M3, hst3⟩
          walk_at "w"
          have gj := Gd.notedN (c := c) (B := 75 * i + 4) (by omega) j ep.1
          refine ⟨f, c, lg, notedN c j P1.1, _, rfl, M3, gj, by omega, hnw, fun H4 kp4 M4 => ?_⟩
          rw [← notedN_succ] at M4
          exact ⟨_, rfl, kp3.trans (kp4.mono fun b h => List.mem_cons_of_mem _ h), M4, kp4 _ _ hst3 (fr_not stA)⟩
        · rintro σ3 H3 ⟨v7, rfl, kp3, M3, hst3⟩
          have gj := Gd.notedN (c := c) (B := 75 * i + 4) (by omega) (plan i) ep.1
          have mj := notedN_made c (plan i) P1.1
          generalize notedN c (plan i) P1.1 = Y at *
          have hmi : Y.1.made = i := by rw [mj, ep.2, mi]
          have hmem := wd_mem (show Y.1.made < c.words.length by omega)
          have hnf := (nFull_le (w := wd c Y.1.made) ok.size (gj.wf.r0 _) (gj.wf.r1 _) (ok.len _ hmem) (ok.ln _ hmem)).1
          have hwy := way_phi Y.1 (wd c Y.1.made).who
          have hmu := gj.mu
          walk_at "w"
          refine ⟨f, c, Y.1, rfl, M3.m, by omega, ok.size, gj.wf.r0 _, ok.len _ hmem, by omega, fun H4 kp4 L4 => ?_⟩
          have M4 := M3.step kp4 L4
          walk_at "w"
          refine ⟨tyl M4.l, ?_⟩
          refine ac2 ?_
          refine M4.app (e := .write) (by show Y.2.length < 90000; omega) fun H5 kp5 M5 => ?_
          have hst4 := kp4 _ _ hst3 (fun z => fr_not stA (List.mem_cons_of_mem _ z))
          exact ⟨_, _, rfl, (kp3.trans (kp4.mono fun b h => List.mem_cons_of_mem _ (List.mem_cons_of_mem _ h))).trans (kp5.mono fun b h => List.mem_cons_of_mem _ h), M5, kp5 _ _ hst4 (fr_not stA)⟩
    · rintro σ' H' ⟨v6, v7, rfl, kp, M, hst⟩
      obtain ⟨gi, mi, di⟩ := played_gd ok.toCfgL plan c.words.length (Nat.le_refl _)
      have pl := played_len c plan c.words.length
      have eP : playedEnd c plan = (lawEnd c (played c plan c.words.length).1, (played c plan c.words.length).2 ++ [(lawEnd c (played c plan c.words.length).1).1.stalls]) := by unfold playedEnd; rfl
      generalize playedEnd c plan = P1 at *
      generalize played c plan c.words.length = X at *
      walk_at "w"
      refine ⟨f, c, lg, X.1, 75 * c.words.length, rfl, M, gi, by omega, hnw, di, fun _ H2 kp2 M2 => ?_⟩
      walk_at "w"
      have hst2 := kp2 _ _ hst (fr_not stA)
      refine ⟨tyl hst2, ?_⟩
      obtain ⟨WD2, RL2, r2, Lb⟩ := id M2.m
      walk_at "w"
      refine Lb.getM (mk_stalls _ _ _ _ _ _ _) ?_
      walk_at "w"
      refine ⟨st, _, _, rfl, rfl, hst2, by rw [List.length_map]; exact lt_sz (by omega), ?_⟩
      have kp3 : Kp (st :: lg :: f.ft) H0 (upd H2 st (.lst (X.2.map V.int ++ [.int (lawEnd c X.1).1.stalls]))) := (kp.trans (kp2.mono fun b h => List.mem_cons_of_mem _ h)).trans (Kp.upd (List.mem_cons_self ..))
      have M3 : MLAt c f lg (upd H2 st (.lst (X.2.map V.int ++ [.int (lawEnd c X.1).1.stalls]))) P1.1 := by rw [eP]; exact M2.off (fun xs z => by rw [hst2] at z; cases z) stA
      have hst3 : (upd H2 st (.lst (X.2.map V.int ++ [.int (lawEnd c X.1).1.stalls]))) st = some (.lst (P1.2.map V.int)) := by rw [eP, upd_same, List.map_append]; rfl
      have hsl : P1.2.length ≤ 17 := by rw [eP, List.length_append, List.length_singleton]; omega
      have e3 := old kp3
      generalize (upd H2 st (.lst (X.2.map V.int ++ [.int (lawEnd c X.1).1.stalls]))) = H3 at *
      clear eP M2 hst2 Lb kp kp2 hst gi di
      walk_at "w"
      refine ⟨_, _, rfl, Or.inl (SqL.of hst3), ?_⟩
      rw [List.length_map]
      walk_at "w"
      refine ⟨by omega, by omega, fun D hD => lc_range (n := ((P1.2.length : Int) - 1).toNat) (fun i H4 => Ex H3 H4 ∧ H4 D = some (.lst (((difs P1.2).map V.int).take i))) ?_ ?_ ?_⟩
      · exact ⟨Ex.new hD, upd_same⟩
      · rintro i H4 hi ⟨k4, hl4⟩
        have hst4 := k4 _ _ hst3
        have h1 : i + 1 < P1.2.length := by omega
        have ha1 : atI (P1.2.map V.int) (0 + (i : Int) + 1) = some (.int (P1.2.getD (i + 1) 0)) := by
          rw [show 0 + (i : Int) + 1 = ((i + 1 : Nat) : Int) by omega, atI_nat, List.getElem?_map, List.getElem?_eq_getElem h1, List.getD_eq_getElem?_getD, List.getElem?_eq_getElem h1]; rfl
        have ha2 : atI (P1.2.map V.int) (0 + (i : Int)) = some (.int (P1.2.getD i 0)) := by
          rw [show 0 + (i : Int) = ((i : Nat) : Int) by omega, atI_nat, List.getElem?_map, List.getElem?_eq_getElem (by omega), List.getD_eq_getElem?_getD, List.getElem?_eq_getElem (by omega)]; rfl
        have hdi : ((difs P1.2).map V.int).take (i + 1) = ((difs P1.2).map V.int).take i ++ [.int (P1.2.getD (i + 1) 0 - P1.2.getD i 0)] := by
          rw [List.take_add_one, List.getElem?_map]
          unfold difs
          rw [List.getElem?_map, List.getElem?_range (by omega)]; rfl
        refine ⟨rfl, ?_⟩
        walk_at "w"
        refine x_lst hst4 ha1 ?_
        walk_at "w"
        refine x_lst hst4 ha2 ?_
        walk_at "w"
        refine ⟨_, hl4, ?_, exmut k4 hD, ?_⟩
        · refine lt_sz (Nat.lt_of_le_of_lt (List.length_take_le _ _) (by omega))
        · rw [hdi]; exact upd_same
      · rintro H4 ⟨k4, hl4⟩
        have hdl : (((P1.2.length : Int) - 1).toNat) = ((difs P1.2).map V.int).length := by
          unfold difs
          rw [List.length_map, List.length_map, List.length_range]; omega
        rw [hdl, List.take_length] at hl4
        walk_at "w"
        refine ⟨le_sz le_r, fun t ht => ?_⟩
        exact k t f.M lg D _ ((e3.trans k4).trans (Ex.new ht)) upd_same (xn ht (k4 _ _ M3.l)) (xn ht hl4)
end
end Lw
namespace Lw
open PySem PySem.Spec PyProof.Rows L2
section
variable {P : Program} {w : World} {K : PySem.W.Frag} {mg : Str → Option Value} {base : Heap}
local macro_rules | `(tactic| walk_at "h") => `(tactic| first | assumption | exact upd_same | (refine xn (by assumption) ?_; walk_at "h") | (refine exapp (by assumption) ?_; walk_at "h"))
local macro_rules | `(tactic| walk_at "e") => `(tactic| first | exact Same.refl _ | assumption | (refine Same.trans ?_ (Ex.new (by assumption)); walk_at "e") | (refine Same.trans ?_ (by assumption); walk_at "e"))
local macro_rules | `(tactic| walk_at "w") => `(tactic| repeat (first | refine ⟨_, rfl, ?_⟩ | refine ⟨_, _, rfl, rfl, ?_⟩ | refine ⟨_, _, _, _, rfl, rfl, SqT.of (by walk_at "h"), (by rfl), ?_⟩ | (refine fun σ2 (hσ : σ2 = _) => ?_; (try simp only [List.set_cons_succ, List.set_cons_zero] at hσ); subst hσ) | refine ⟨_, _, rfl, SqT.of (by walk_at "h"), (by rfl), ?_⟩ | refine ⟨rfl, ?_⟩ | refine ⟨_, _, rfl, ?_⟩))
local macro_rules | `(tactic| walk_at "s") => `(tactic| (intro σ hσ; simp only [start_eq, List.map_cons, List.map_nil, List.length_cons, List.length_nil, List.cons_append, List.nil_append, Nat.reduceAdd, Nat.reduceSub, List.replicate_succ, List.replicate_zero] at hσ; subst hσ))

theorem stF_succ (c : Cfg) {l : List Ev} {i : Nat} {e : Ev} (h : l[i]? = some e) : stF c (l.take (i + 1)) = step c e (stF c (l.take i)) := by
  unfold stF
  rw [List.take_add_one, h, List.foldl_append]
  rfl
theorem pre_of {c : Cfg} (ok : Cok c) {m : Mo} {e : Ev} (hl : Legit c m e) (s : Sok c m) : Pre c m e := by
  have hw : ∀ b, (m.way b).length < 80000 := fun b => by
    have := way_phi m b
    have := s.ph
    omega
  cases e with
  | write =>
    have hmem := wd_mem (show m.made < c.words.length from hl)
    have hnf := (nFull_le (w := wd c m.made) ok.size (s.wf.r0 _) (s.wf.r1 _) (ok.len _ hmem) (ok.ln _ hmem)).1
    have h1 := way_phi m (wd c m.made).who
    have h2 := s.ph
    exact ⟨hl, ok.size, s.wf.r0 _, ok.len _ hmem, by omega⟩
  | timer => exact ⟨hl.1, hl.2, hw⟩
  | arr a => exact ⟨hl, hw⟩
theorem left_int {c : Cfg} {m : Mo} {e : Ev} (h : Legit c m e) (b : Bool) : ((m.way b).length : Int) - (if decide (V.str e.str = V.str (Ev.arr b).str) = true then 1 else 0) = ((left e b m : Nat) : Int) := by
  have hd : decide (V.str e.str = V.str (Ev.arr b).str) = decide (e = .arr b) := by
    rw [Bool.eq_iff_iff, decide_eq_true_iff, decide_eq_true_iff]
    exact ⟨fun z => ev_inj (by injection z), fun z => by rw [z]⟩
  rw [hd]
  unfold left
  by_cases z : e = .arr b
  · subst z
    rw [if_pos (decide_eq_true rfl), if_pos rfl]
    have : m.way b ≠ [] := h
    have : 0 < (m.way b).length := by cases q : m.way b with | nil => exact absurd q this | cons _ _ => simp
    omega
  · rw [if_neg (by rw [decide_eq_false z]; decide), if_neg z]
    omega
def spLawCounted (K : PySem.W.Frag) : Sp := fun vs H Q _ => ∃ (a p lg : Addr) (c : Cfg) (l : List Ev), vs = [.ref a, .ref p, .ref lg] ∧ IsSet K c H a ∧ LstT H p (wsV c) ∧ H lg = some (.lst (logV l)) ∧ Cok c ∧
  (∀ i e, l[i]? = some e → Legit c (stF c (l.take i)) e) ∧ (∀ i, i ≤ l.length → Sok c (stF c (l.take i))) ∧
  ∀ x H', Ex H H' → H' x = some (.lst [.int (((stF c l).side false).came + ((stF c l).side true).came), .int ((stF c l).bare : Nat)]) → Q (.ref x) H'
theorem ok_law_counted (u : U K mg) : Ok P w K mg base 4 (He.ga K "_law_counted") ["_law_setting", "_law_words", "_law_log"] (spLawCounted K) := by
  obtain ⟨fd_law_model, G_law_model, kp_law_model, b_law_model⟩ := (ok_law_model (P := P) (w := w) (base := base) u).ex
  obtain ⟨fd_law_do, G_law_do, kp_law_do, b_law_do⟩ := (ok_law_do (P := P) (w := w) (base := base) u).ex
  obtain ⟨fd, F⟩ := u.d_law_counted
  refine mkOk F sc_law_counted (fun _ _ _ _ _ _ us hl => match us, hl with | [_, _, _], _ => rfl) (fun vs H Q E h => ?_) (fun cdv A outer s H vs Q E hr h => ?_)
  · obtain ⟨a, p, lg, c, l, rfl, hs, hp, hl, ok, hrun, hsok, k⟩ := h
    rfl
  · obtain ⟨a, p, lg, c, l, rfl, hs, hp, hl, ok, hrun, hsok, k⟩ := h
    have hu := hu_of hr
    refine ⟨_, (pss_n (ps_par (i := 3) (j := 4) rfl sc_law_counted.nd rfl rfl (by decide) rfl rfl (pa_cons (pe_call G_law_model (hr.mono (by decide)) (by rfl) u.g__law_model kp_law_model b_law_model .nil pass0 (pa_cons (pv 0) (pa_cons (pv 1) pa_nil))) (pa_cons pe_int pa_nil)) (by rfl))
    (pss_n (ps_for PassesOwn.never rfl (pi_list (pv 2)) (pg_name (i := 5) sc_law_counted.nd rfl (Or.inr rfl))
    (pss_n (ps_setLc (i := 6) (own := [("_law_who", 7), ("_law_way", 8)]) (g := (gTup K 2 (gCons (gName 7) (gCons (gName 8) gNil)))) (tt := tYes) (te := (tOp (rI0 fun i j => .int (i - j)) (tCB (rLenQ K) (tCons (tVar 8) tNil)) (tCB rInt1 (tCons (tOp rEq (tVar 5) (tOp (fun x y H Q => ∃ i j, x = .str i ∧ y = .str j ∧ i.length + j.length ≤ sizeLine ∧ Q (.str (i ++ j)) H) (tC (.str "arrive ")) (tCB rStrI (tCons (tVar 7) tNil)))) tNil)))) rfl sc_law_counted.nd rfl rfl (sw_true rfl rfl rfl (by decide +kernel)) (pi_enum (by rfl) u.n_enumerate (pa_cons (pe_dget hu (pv 3) pe_str (fun _ _ => rfl)) pa_nil)) (blkOk_by (N := n_law_counted) (sc := defScope s_law_counted) (by decide +kernel)) (fun _ _ _ _ _ => (pg_tup rfl (pgs_cons (pg_name (i := 7) sc_law_counted.nd rfl (Or.inl rfl)) (pgs_cons (pg_name (i := 8) sc_law_counted.nd rfl (Or.inl rfl)) pgs_nil)))) (fun _ _ _ _ _ => pts_nil) (fun _ _ _ _ _ => (pe_op op_sub (pe_callB call_len_seq (by rfl) u.n_len PySem.boot_len (pa_cons (pv 8) pa_nil)) (pe_callTy call_int1 (by rfl) u.n_int PyProof.Rows.boot_int (pa_cons (pe_cmpR op_eq (pv 5) (pe_op op_add_str pe_str (pe_callTy call_str_int (by rfl) u.n_str PyProof.Rows.boot_str (pa_cons (pv 7) pa_nil))) (nomark _)) pa_nil)))))
    (pss_n (ps_expr (pe_call G_law_do (hr.mono (by decide)) (by rfl) u.g__law_do kp_law_do b_law_do .nil pass0 (pa_cons (pv 3) (pa_cons (pv 5) pa_nil))))
    (pss_one (ps_for PassesOwn.never rfl (pi_range1 (by rfl) u.n_range (pa_cons pe_int pa_nil)) (pg_name (i := 7) sc_law_counted.nd rfl (Or.inl rfl))
    (pss_one (ps_aug (i := 4) sc_law_counted.nd rfl (Or.inl rfl) (pe_callB call_len_seq (by rfl) u.n_len PySem.boot_len (pa_cons (pe_lc (own := [("_law_pair", 9)]) (g := (gName 9)) (tt := (tTest (tOp rEq (tOp (rIxT K) (tVar 9) (tC (.int 0))) (tC (.int 0))))) (te := (tVar 9)) rfl sc_law_counted.nd (pi_list (pe_slice sl_list (pe_ix ix_list (pe_dget hu (pv 3) pe_str (fun _ _ => rfl)) (pv 7) (fun _ _ => rfl)) (po_some (pe_ix ix_list (pv 6) (pv 7) (fun _ _ => rfl))) po_none)) (blkOk_by (N := n_law_counted) (sc := defScope s_law_counted) (by decide +kernel)) (fun _ _ _ _ _ => (pg_name (i := 9) sc_law_counted.nd rfl (Or.inl rfl))) (fun _ _ _ _ _ => (pts_one (pt_cmpR op_eq (pe_ix ix_tup (pv 9) pe_int (fun _ _ => rfl)) pe_int (nomark _)))) (fun _ _ _ _ _ => (pv 9))) pa_nil)) ip_add)))))))
    (pss_one (ps_ret (pe_lst (pa_cons (pe_op op_add (pe_dget hu (pe_ix ix_list (pe_dget hu (pv 3) pe_str (fun _ _ => rfl)) pe_int (fun _ _ => rfl)) pe_str (fun _ _ => rfl)) (pe_dget hu (pe_ix ix_list (pe_dget hu (pv 3) pe_str (fun _ _ => rfl)) pe_int (fun _ _ => rfl)) pe_str (fun _ _ => rfl))) (pa_cons (pv 4) pa_nil))))))), ?_⟩
    walk_at "s"
    walk_at "w"
    refine ⟨a, p, c, rfl, hs, hp, fun f H0 e0 hfr hWD hM => ?_⟩
    walk_at "w"
    have frs : ∀ b' ∈ f.ft, H b' = none := fun b' hb' => hfr _ (List.mem_append_left _ hb')
    have old : ∀ {H' : Hp}, Kp f.ft H0 H' → Ex H H' := fun kp => kp.ex e0 frs
    refine ⟨⟨_, SqL.of (e0 _ _ hl)⟩, for_list (a := lg) (xs := logV l) (fun i σ' H' => ∃ v5 v6 v7 v8, σ' = [some (.ref a), some (.ref p), some (.ref lg), some (.ref f.M), some (.int ((stF c (l.take i)).bare : Nat)), v5, v6, v7, v8, none] ∧ Kp f.ft H0 H' ∧ LwM c f H' (stF c (l.take i))) ?_ ?_ ?_ ?_⟩
    · exact ⟨none, none, none, none, rfl, Kp.refl, hM⟩
    · rintro i σ' H' _ ⟨v5, v6, v7, v8, rfl, kp, M⟩
      exact SqL.of (old kp _ _ hl)
    · rintro i x σ' H' hi ⟨v5, v6, v7, v8, rfl, kp, M⟩
      obtain ⟨e, he, rfl⟩ := map_get hi
      have lgt := hrun i e he
      have hil := (List.getElem?_eq_some_iff.mp he).1
      have sk := hsok i (by omega)
      have sk2 := hsok (i + 1) hil
      rw [stF_succ c he] at sk2
      obtain ⟨ad, g1, g2⟩ := step_grow lgt
      have hpre := pre_of ok lgt sk
      have li := left_int lgt
      rw [stF_succ c he]
      generalize stF c (l.take i) = m at *
      obtain ⟨WD, RL, r, L⟩ := id M
      walk_at "w"
      refine L.getM (mk_ways _ _ _ _ _ _ _) ?_
      walk_at "w"
    
      refine ⟨f.WL, _, rfl, SqL.of L.bx.wl, fun D hD => lc_it (walk_enum (xs := [.ref (f.w false), .ref (f.w true)])) (fun i H4 => Ex H' H4 ∧ H4 D = some (.lst (([false, true].map fun b => V.int (left e b m : Nat)).take i))) ?_ ?_ ?_ ?_⟩
      · exact ⟨Ex.new hD, upd_same⟩
      · rintro i H4 _ ⟨k4, _⟩
        exact SqL.of (k4 _ _ L.bx.wl)
      · rintro i x H4 H5 hi ⟨k4, hl4⟩ hx
        obtain ⟨T, y, rfl, hT, rfl, hy⟩ := yen hx
        obtain ⟨b, hb, hwi⟩ := two_at hi
        rw [Int.zero_add] at hwi
        obtain rfl : y = .ref (f.w b) := by
          match i, hi, hb, hy with
          | 0, _, hb, hy => cases hb; cases hy; rfl
          | 1, _, hb, hy => cases hb; cases hy; rfl
        obtain ⟨ps, hps, hpr, hpl⟩ := (L.ex (k4.trans (Ex.new hT))).bx.wal b
        have htk := take_map hb fun b => V.int (left e b m : Nat)
        rw [htk, ← li b]
        rw [hwi]
        walk_at "w"
        refine ⟨_, _, rfl, Or.inl (SqL.of hps), ?_⟩
        rw [List.length_map, hpl]
        walk_at "w"
        refine ⟨wI_log b, _, _, rfl, rfl, arr_len b, ?_⟩
        rw [arr_str]
        walk_at "w"
        apply Or.inr
        refine ⟨_, rfl, ?_⟩
        refine ⟨_, _, rfl, rfl, ?_⟩
        refine ⟨_, xn hT hl4, take_lt lt_r, exmut (by walk_at "e") hD, upd_same⟩
      · rintro H4 ⟨k4, hl4⟩
        change H4 D = some (.lst [.int (left e false m : Nat), .int (left e true m : Nat)]) at hl4
        have kp4 := kp.trans (Kp.of k4)
        have M4 := M.ex k4
        have hDn : D ∉ f.ft := fun z => by
          obtain ⟨o, ho⟩ := M.live (List.mem_append_left _ z)
          rw [ho] at hD; cases hD
        walk_at "w"
        refine ⟨f, c, m, e, rfl, M4, hpre, fun _ H6 kp6 M6 => ?_⟩
        have hl6 := kp6 _ _ hl4 hDn
        have kp46 := kp4.trans kp6
        generalize step c e m = m2 at *
        walk_at "w"
        refine ⟨by decide, by decide, for_range (n := 2) (fun j σ7 H7 => ∃ v7 v8, σ7 = [some (.ref a), some (.ref p), some (.ref lg), some (.ref f.M), some (.int (m.bare + bares (if 0 < j then ad false else []) + bares (if 1 < j then ad true else []) : Nat)), some (.str e.str), some (.ref D), v7, v8, none] ∧ Kp f.ft H0 H7 ∧ LwM c f H7 m2 ∧ H7 D = some (.lst [.int (left e false m : Nat), .int (left e true m : Nat)])) ?_ ?_ ?_⟩
        · exact ⟨_, _, rfl, kp46, M6, hl6⟩
        · rintro j σ7 H7 hj ⟨v7, v8, rfl, kp7, M7, hl7⟩
          obtain ⟨b, hb, hwj⟩ := two_at hj
          rw [hwj]
          obtain ⟨WD', RL', r', L'⟩ := id M7
          walk_at "w"
          refine L'.getM (mk_ways _ _ _ _ _ _ _) ?_
          walk_at "w"
    
          refine x_lst L'.bx.wl (Bx.w_at f b) ?_
          walk_at "w"
          refine ⟨D, _, _, _, rfl, rfl, SqL.of hl7, (show atI [V.int (left e false m : Nat), V.int (left e true m : Nat)] (wI b) = some (.int (left e b m : Nat)) by cases b <;> rfl), ?_⟩
          obtain ⟨ps, hps, hpr, hpl⟩ := L'.bx.wal b
          have hpd := hpr.drop (left e b m)
          rw [show (wayV (m2.way b)).drop (left e b m) = wayV (ad b) by rw [← g1 b]; unfold wayV; rw [List.map_drop]] at hpd
          walk_at "w"
          refine ⟨f.w b, _, rfl, SqL.of hps, fun P2 hP2 => ?_⟩
          rw [cut_drop, ← List.map_drop]
          generalize ps.drop (left e b m) = pd at *
          refine ⟨_, rfl, ⟨_, SqL.of upd_same⟩, fun X hX => lc_list (a := P2) (xs := pd.map V.ref) (fun i H' => Ex (upd H7 P2 (.lst (pd.map V.ref))) H' ∧ ∃ acc, H' X = some (.lst acc) ∧ acc.length = bares ((ad b).take i)) ?_ ?_ ?_ ?_⟩
          · exact ⟨Ex.new hX, [], upd_same, rfl⟩
          · rintro i H' _ ⟨k1, _⟩
            exact SqL.of (k1 _ _ upd_same)
          · rintro i x H' hi ⟨k1, acc, ha, hal⟩
            obtain ⟨p1, rr, rfl, hrr, hp1⟩ := hpd.at' hi
            obtain ⟨xx, hxx, rfl⟩ := map_get hrr
            have hp2 := k1 _ _ (xn hP2 hp1)
            have hbt := bares_take (ad b) hxx
            have hbl := bares_le (ad b) i
            have hil : i < 90000 := by
              have h1 := (List.getElem?_eq_some_iff.mp hxx).1
              rw [← g1 b, List.length_drop] at h1
              have h2 := way_phi m2 b
              have h3 := sk2.ph
              omega
            refine ⟨rfl, ?_⟩
            walk_at "w"
            rw [show decide (V.int xx.1 = V.int 0) = decide (xx.1 = 0) from dec_int _ _]
            refine itb (fun z => ?_) (fun z => ?_)
            · rw [if_pos (of_decide_eq_true z)] at hbt
              refine ⟨_, rfl, acc, ha, lt_sz (by omega), exmut k1 hX, _, upd_same, ?_⟩
              rw [List.length_append, List.length_singleton, hal, hbt]
            · rw [if_neg (of_decide_eq_false z)] at hbt
              exact ⟨k1, acc, ha, by rw [hal, hbt]; rfl⟩
          · rintro H' ⟨k1, acc, ha, hal⟩
            have hln : (pd.map V.ref).length = (ad b).length := by rw [List.length_map, hpd.len, wayV_len]
            rw [hln, List.take_length] at hal
            have e7 : Ex H7 H' := by walk_at "e"
            walk_at "w"
            refine ⟨_, _, rfl, Or.inl (SqL.of ha), ?_⟩
            walk_at "w"
            have hnew : ((m.bare + bares (if 0 < j then ad false else []) + bares (if 1 < j then ad true else []) : Nat) : Int) + (acc.length : Nat) = ((m.bare + bares (if 0 < j + 1 then ad false else []) + bares (if 1 < j + 1 then ad true else []) : Nat) : Int) := by
              rw [hal]
              match j, hj, hb with
              | 0, _, hb => cases hb; show ((m.bare + 0 + 0 : Nat) : Int) + (bares (ad false) : Nat) = ((m.bare + bares (ad false) + 0 : Nat) : Int); omega
              | 1, _, hb => cases hb; show ((m.bare + bares (ad false) + 0 : Nat) : Int) + (bares (ad true) : Nat) = ((m.bare + bares (ad false) + bares (ad true) : Nat) : Int); omega
            rw [← hnew]
            exact ⟨_, _, rfl, kp7.trans (Kp.of e7), M7.ex e7, e7 _ _ hl7⟩
        · rintro σ7 H7 ⟨v7, v8, rfl, kp7, M7, hl7⟩
          rw [show m2.bare = m.bare + bares (if 0 < 2 then ad false else []) + bares (if 1 < 2 then ad true else []) from by rw [g2]; rfl]
          exact ⟨_, _, _, _, rfl, kp7, M7⟩
    · rintro σ' H' ⟨v5, v6, v7, v8, rfl, kp, M⟩
      rw [show (logV l).length = l.length from List.length_map _, List.take_length] at M ⊢
      obtain ⟨WD, RL, r, L⟩ := id M
      walk_at "w"
      refine L.getM (mk_sides _ _ _ _ _ _ _) ?_
      walk_at "w"
    
      refine ⟨f.SL, _, _, _, rfl, rfl, SqL.of L.bx.sl, Bx.s_at f false, ?_⟩
      walk_at "w"
      refine L.getS rfl (gk_came _) ?_
      walk_at "w"
    
      refine L.getM (mk_sides _ _ _ _ _ _ _) ?_
      walk_at "w"
    
      refine ⟨f.SL, _, _, _, rfl, rfl, SqL.of L.bx.sl, Bx.s_at f true, ?_⟩
      walk_at "w"
      refine L.getS rfl (gk_came _) ?_
      walk_at "w"
    
      refine ⟨le_sz le_r, fun X hX => ?_⟩
      exact k X _ ((old kp).trans (Ex.new hX)) upd_same
end
end Lw
namespace Lw
open PySem PySem.Spec PyProof.Rows L2
section
variable {P : Program} {w : World} {K : PySem.W.Frag} {mg : Str → Option Value} {base : Heap}
local macro_rules | `(tactic| walk_at "h") => `(tactic| first | assumption | exact upd_same | (refine xn (by assumption) ?_; walk_at "h") | (refine exapp (by assumption) ?_; walk_at "h"))
local macro_rules | `(tactic| walk_at "e") => `(tactic| first | exact Same.refl _ | assumption | (refine Same.trans ?_ (Ex.new (by assumption)); walk_at "e") | (refine Same.trans ?_ (by assumption); walk_at "e"))
local macro_rules | `(tactic| walk_at "w") => `(tactic| repeat (first | refine ⟨_, rfl, ?_⟩ | refine ⟨_, _, rfl, rfl, ?_⟩ | refine ⟨_, _, _, _, rfl, rfl, SqT.of (by walk_at "h"), (by rfl), ?_⟩ | (refine fun σ2 (hσ : σ2 = _) => ?_; (try simp only [List.set_cons_succ, List.set_cons_zero] at hσ); subst hσ) | refine ⟨_, _, rfl, SqT.of (by walk_at "h"), (by rfl), ?_⟩ | refine ⟨rfl, ?_⟩ | refine ⟨_, _, rfl, ?_⟩))
local macro_rules | `(tactic| walk_at "s") => `(tactic| (intro σ hσ; simp only [start_eq, List.map_cons, List.map_nil, List.length_cons, List.length_nil, List.cons_append, List.nil_append, Nat.reduceAdd, Nat.reduceSub, List.replicate_succ, List.replicate_zero] at hσ; subst hσ))

def BagAt (H : Hp) (b : Addr) : Prop := ∃ x y : Int, H b = some (.lst [.int x, .int y]) ∧ 0 ≤ x ∧ 0 ≤ y
def spLawBag (K : PySem.W.Frag) : Sp := fun vs H Q _ => ∃ (sc : Addr) (ns : List Int) (i : Nat), vs = [.ref sc, .int (i : Nat)] ∧ SqL K H sc (ns.map V.int) ∧ ∀ b H', Ex H H' → H b = none → BagAt H' b → Q (.ref b) H'
theorem ok_law_bag (u : U K mg) : Ok P w K mg base 1 (He.ga K "_law_bag") ["_law_script", "_law_at"] (spLawBag K) := by
  obtain ⟨fd, F⟩ := u.d_law_bag
  refine mkOk F sc_law_bag (fun _ _ _ _ _ _ us hl => match us, hl with | [_, _], _ => rfl) (fun vs H Q E h => ?_) (fun cdv A outer s H vs Q E hr h => ?_)
  · obtain ⟨sc, ns, i, rfl, hs, k⟩ := h
    rfl
  · obtain ⟨sc, ns, i, rfl, hs, k⟩ := h
    have hu := hu_of hr
    refine ⟨_, (pss_n (ps_set (i := 2) sc_law_bag.nd rfl (Or.inl rfl) pe_int)
    (Evl.pss_cut (ps_if (pt_cmpR op_lt (pv 1) (pe_callB call_len_seq (by rfl) u.n_len PySem.boot_len (pa_cons (pv 0) pa_nil)) (nomark _))
    (pss_one (ps_set (i := 2) sc_law_bag.nd rfl (Or.inl rfl) (pe_callB call_abs (by rfl) u.n_abs boot_abs (pa_cons (pe_ix ix_list (pv 0) (pv 1) (fun _ _ => rfl)) pa_nil))))
    pss_nil)
    (pss_n (ps_if (pt_cmpR op_ge (pv 2) (pe_op op_pow pe_int pe_int) (nomark _))
    (pss_one (ps_ret (pe_lst (pa_cons (pv 2) (pa_cons pe_int pa_nil)))))
    pss_nil)
    (pss_one (ps_ret (pe_lst (pa_cons pe_int (pa_cons (pe_op op_add (pe_op op_mod (pe_callTy call_int1 (by rfl) u.n_int PyProof.Rows.boot_int (pa_cons (pe_op op_add (pe_op op_mul (pe_op op_add (pv 2) pe_int) pe_int) (pe_op op_mul (pe_op op_add (pv 1) pe_int) pe_int)) pa_nil)) pe_int) pe_int) pa_nil)))))))), ?_⟩
    walk_at "s"
    walk_at "w"
    refine ⟨fun σ' H' => ∃ v : Int, 0 ≤ v ∧ σ' = [some (.ref sc), some (.int (i : Nat)), some (.int v)] ∧ H' = H, ?_, ?_⟩
    · walk_at "w"
      refine ⟨_, _, rfl, Or.inl hs, ?_⟩
      rw [List.length_map]
      walk_at "w"
      refine itb (fun z => ?_) (fun z => ?_)
      · have hi : i < ns.length := by have := of_decide_eq_true z; omega
        walk_at "w"
        refine ⟨sc, _, _, _, rfl, rfl, hs, (show atI (ns.map V.int) ((i : Nat) : Int) = some (.int (ns[i])) by rw [atI_nat, List.getElem?_map, List.getElem?_eq_getElem hi]; rfl), ?_⟩
        walk_at "w"
        refine ⟨_, ?_, rfl, rfl⟩
        split <;> omega
      · exact ⟨0, Int.le_refl _, rfl, rfl⟩
    · rintro _ _ ⟨v, hv, rfl, rfl⟩
      walk_at "w"
      refine ⟨⟨by decide, by decide, by decide⟩, ?_⟩
      walk_at "w"
      refine itb (fun z => ?_) (fun z => ?_)
      · walk_at "w"
        refine ⟨le_sz le_r, fun X hX => ?_⟩
        exact k X _ (Ex.new hX) hX ⟨v, 1, upd_same, hv, by decide⟩
      · walk_at "w"
        refine ⟨Or.inr ⟨by decide, by decide⟩, ?_⟩
        walk_at "w"
        refine ⟨Or.inr ⟨by decide, by decide⟩, ?_⟩
        walk_at "w"
        apply Or.inl
        refine ⟨_, rfl, ?_⟩
        walk_at "w"
        refine ⟨by show (0 : Int) < 2147483629; decide, ?_⟩
        walk_at "w"
        refine ⟨le_sz le_r, fun X hX => ?_⟩
        refine k X _ (Ex.new hX) hX ⟨0, _, upd_same, by decide, ?_⟩
        have : ∀ q : Int, 0 ≤ q % 2147483629 + 1 := fun q => by have := Int.emod_nonneg q (show (2147483629 : Int) ≠ 0 by decide); omega
        exact this _

def spLawTake : Sp := fun vs H Q _ => ∃ (b : Addr) (n : Int), vs = [.ref b, .int n] ∧ BagAt H b ∧ 1 ≤ n ∧ n ≤ 20 ∧ ∀ (d : Int) H', 0 ≤ d → d < n → Kp [b] H H' → BagAt H' b → Q (.int d) H'
theorem ok_law_take (u : U K mg) : Ok P w K mg base 1 (He.ga K "_law_take") ["_law_bag_here", "_law_many"] spLawTake := by
  obtain ⟨fd, F⟩ := u.d_law_take
  refine mkOk F sc_law_take (fun _ _ _ _ _ _ us hl => match us, hl with | [_, _], _ => rfl) (fun vs H Q E h => ?_) (fun cdv A outer s H vs Q E hr h => ?_)
  · obtain ⟨b, n, rfl, hb, h1, h2, k⟩ := h
    rfl
  · obtain ⟨b, n, rfl, hb, h1, h2, k⟩ := h
    have hu := hu_of hr
    refine ⟨_, (pss_n (ps_if (pt_cmpR op_gt (pe_ix ix_list (pv 0) pe_int (fun _ _ => rfl)) pe_int (nomark _))
    (pss_n (ps_set (i := 2) sc_law_take.nd rfl (Or.inl rfl) (pe_op op_mod (pe_callTy call_int1 (by rfl) u.n_int PyProof.Rows.boot_int (pa_cons (pe_ix ix_list (pv 0) pe_int (fun _ _ => rfl)) pa_nil)) (pv 1)))
    (pss_n (ps_asg (pe_op op_fdiv (pe_ix ix_list (pv 0) pe_int (fun _ _ => rfl)) (pv 1)) (pg_sub (pv 0) pe_int set_list))
    (pss_one (ps_ret (pv 2)))))
    pss_nil)
    (pss_n (ps_asg (pe_op op_mod (pe_callTy call_int1 (by rfl) u.n_int PyProof.Rows.boot_int (pa_cons (pe_op op_add (pe_op op_mul (pe_ix ix_list (pv 0) pe_int (fun _ _ => rfl)) pe_int) pe_int) pa_nil)) pe_int) (pg_sub (pv 0) pe_int set_list))
    (pss_one (ps_ret (pe_op op_mod (pe_op op_mod (pe_callTy call_int1 (by rfl) u.n_int PyProof.Rows.boot_int (pa_cons (pe_op op_mul (pe_op op_fdiv (pe_ix ix_list (pv 0) pe_int (fun _ _ => rfl)) pe_int) pe_int) pa_nil)) pe_int) (pv 1)))))), ?_⟩
    walk_at "s"
    obtain ⟨x, y, hb, hx, hy⟩ := hb
    walk_at "w"
    refine ⟨b, _, _, _, rfl, rfl, SqL.of hb, rfl, ?_⟩
    walk_at "w"
    refine itb (fun z => ?_) (fun z => ?_)
    · walk_at "w"
      refine ⟨b, _, _, _, rfl, rfl, SqL.of hb, rfl, ?_⟩
      walk_at "w"
      apply Or.inl
      refine ⟨_, rfl, ?_⟩
      walk_at "w"
      refine ⟨by show (0 : Int) < n; omega, ?_⟩
      walk_at "w"
      refine ⟨b, _, _, _, rfl, rfl, SqL.of hb, rfl, ?_⟩
      walk_at "w"
      refine ⟨⟨by omega, by omega⟩, ?_⟩
      walk_at "w"
      refine ⟨b, _, _, 0, rfl, rfl, hb, rfl, ?_⟩
      walk_at "w"
      exact k _ _ (Int.emod_nonneg _ (by omega)) (Int.emod_lt_of_pos _ (by omega)) (Kp.upd (by simp)) ⟨x / n, y, upd_same, Int.ediv_nonneg hx (by omega), hy⟩
    · walk_at "w"
      refine ⟨b, _, _, _, rfl, rfl, SqL.of hb, rfl, ?_⟩
      walk_at "w"
      refine ⟨Or.inr ⟨by decide, by decide⟩, ?_⟩
      walk_at "w"
      apply Or.inl
      refine ⟨_, rfl, ?_⟩
      walk_at "w"
      refine ⟨by show (0 : Int) < 2147483647; decide, ?_⟩
      walk_at "w"
      refine ⟨b, _, _, 1, rfl, rfl, hb, rfl, ?_⟩
      have hy2 : 0 ≤ (y * 48271 + 11) % 2147483647 := Int.emod_nonneg _ (by decide)
      have hb2 : upd H b (.lst ([V.int x, V.int y].set 1 (V.int ((y * 48271 + 11) % 2147483647)))) b = some (.lst [V.int x, V.int ((y * 48271 + 11) % 2147483647)]) := upd_same
      have kp2 : Kp [b] H (upd H b (.lst ([V.int x, V.int y].set 1 (V.int ((y * 48271 + 11) % 2147483647))))) := Kp.upd (by simp)
      walk_at "w"
      refine ⟨b, _, _, _, rfl, rfl, SqL.of hb2, rfl, ?_⟩
      walk_at "w"
      refine ⟨⟨by decide, by decide⟩, ?_⟩
      walk_at "w"
      refine ⟨Or.inr ⟨by decide, by decide⟩, ?_⟩
      walk_at "w"
      apply Or.inl
      refine ⟨_, rfl, ?_⟩
      walk_at "w"
      refine ⟨by show (0 : Int) < 2147483629; decide, ?_⟩
      walk_at "w"
      refine ⟨by show (0 : Int) < n; omega, ?_⟩
      exact k _ _ (Int.emod_nonneg _ (by omega)) (Int.emod_lt_of_pos _ (by omega)) kp2 ⟨x, _, hb2, hx, hy2⟩
end
end Lw
namespace Lw
open PySem PySem.Spec PyProof.Rows L2
section
variable {P : Program} {w : World} {K : PySem.W.Frag} {mg : Str → Option Value} {base : Heap}
local macro_rules | `(tactic| walk_at "h") => `(tactic| first | assumption | exact upd_same | (refine xn (by assumption) ?_; walk_at "h") | (refine exapp (by assumption) ?_; walk_at "h"))
local macro_rules | `(tactic| walk_at "e") => `(tactic| first | exact Same.refl _ | assumption | (refine Same.trans ?_ (Ex.new (by assumption)); walk_at "e") | (refine Same.trans ?_ (by assumption); walk_at "e"))
local macro_rules | `(tactic| walk_at "w") => `(tactic| repeat (first | refine ⟨_, rfl, ?_⟩ | refine ⟨_, _, rfl, rfl, ?_⟩ | refine ⟨_, _, _, _, rfl, rfl, SqT.of (by walk_at "h"), (by rfl), ?_⟩ | (refine fun σ2 (hσ : σ2 = _) => ?_; (try simp only [List.set_cons_succ, List.set_cons_zero] at hσ); subst hσ) | refine ⟨_, _, rfl, SqT.of (by walk_at "h"), (by rfl), ?_⟩ | refine ⟨rfl, ?_⟩ | refine ⟨_, _, rfl, ?_⟩))
local macro_rules | `(tactic| walk_at "s") => `(tactic| (intro σ hσ; simp only [start_eq, List.map_cons, List.map_nil, List.length_cons, List.length_nil, List.cons_append, List.nil_append, Nat.reduceAdd, Nat.reduceSub, List.replicate_succ, List.replicate_zero] at hσ; subst hσ))

theorem kp_mut {F : List Addr} {H H' : Hp} {D : Addr} {o : HO} (k : Kp F H H') (h : H D = none) : Kp F H (upd H' D o) := fun b u e n => by
  rw [upd_ne (ne_of_none e h)]; exact k b u e n
theorem bag_ne {H : Hp} {b p : Addr} {ps : List Addr} (hb : BagAt H b) (hp : H p = some (.lst (ps.map V.ref))) : p ∉ [b] := fun z => by
  obtain ⟨x, y, h, _⟩ := hb
  rw [List.mem_singleton.mp z, h] at hp
  cases ps with
  | nil => cases hp
  | cons q r => injection hp with hp; injection hp with hp; injection hp with hp; cases hp
theorem bag_tup {H : Hp} {b p : Addr} {xs : List V} (hb : BagAt H b) (hp : H p = some (.tup xs)) : p ∉ [b] := fun z => by
  obtain ⟨x, y, h, _⟩ := hb
  rw [List.mem_singleton.mp z, h] at hp; cases hp
theorem LstT.bag {H H' : Hp} {b p : Addr} {rs : List (List V)} (h : LstT H p rs) (hb : BagAt H b) (k : Kp [b] H H') : LstT H' p rs := by
  obtain ⟨ps, x, y⟩ := h
  exact ⟨ps, k _ _ x (bag_ne hb x), y.len, fun i q hq => let ⟨r, a, z⟩ := y.at_ i q hq; ⟨r, a, k _ _ z (bag_tup hb z)⟩⟩
theorem limit_le (c : Cfg) (k : Nat) : limit c k ≤ 2 := by unfold limit; split <;> omega
theorem planOk_of {c : Cfg} {plan : Nat → Nat} (h : ∀ k, plan k ≤ limit c k) : PlanOk c plan :=
  ⟨fun k => Nat.le_trans (h k) (limit_le c k), fun k hf => by have := h k; unfold limit at this; rw [if_pos hf] at this; omega⟩
def spLawOrder : Sp := fun vs H Q _ => ∃ (b p : Addr) (c : Cfg), vs = [.ref b, .ref p] ∧ BagAt H b ∧ LstT H p (wsV c) ∧ c.words.length ≤ 16 ∧
  ∀ plan x H', (∀ k, plan k ≤ limit c k) → Kp [b] H H' → BagAt H' b → H x = none → H' x = some (.lst (planL c plan)) → Q (.ref x) H'
theorem ok_law_order (u : U K mg) : Ok P w K mg base 2 (He.ga K "_law_order") ["_law_bag_here", "_law_words"] spLawOrder := by
  obtain ⟨fd_law_take, G_law_take, kp_law_take, b_law_take⟩ := (ok_law_take (P := P) (w := w) (base := base) u).ex
  obtain ⟨fd, F⟩ := u.d_law_order
  refine mkOk F sc_law_order (fun _ _ _ _ _ _ us hl => match us, hl with | [_, _], _ => rfl) (fun vs H Q E h => ?_) (fun cdv A outer s H vs Q E hr h => ?_)
  · obtain ⟨b, p, c, rfl, hb, hp, hw, k⟩ := h
    rfl
  · obtain ⟨b, p, c, rfl, hb, hp, hw, k⟩ := h
    have hu := hu_of hr
    refine ⟨_, (pss_n (ps_set (i := 2) sc_law_order.nd rfl (Or.inl rfl) (pe_lst pa_nil))
    (pss_n (ps_for PassesOwn.never rfl (pi_range1 (by rfl) u.n_range (pa_cons (pe_callB call_len_seq (by rfl) u.n_len PySem.boot_len (pa_cons (pv 1) pa_nil)) pa_nil)) (pg_name (i := 3) sc_law_order.nd rfl (Or.inl rfl))
    (pss_one (ps_expr (pe_bm PySem.F.plainAttrs_list PySem.F.slot_list_append PySem.F.type_list_append mt_append (pv 2) (pa_cons (pe_ifExp (PW.pt (pw_or (pt_cmpR op_eq (pv 3) pe_int (nomark _)) (pw_or1 (pt_cmpR op_ne (pe_ix ix_tup (pe_ix ix_list (pv 1) (pe_op op_sub (pv 3) pe_int) (fun _ _ => rfl)) pe_int (fun _ _ => rfl)) (pe_ix ix_tup (pe_ix ix_list (pv 1) (pv 3) (fun _ _ => rfl)) pe_int (fun _ _ => rfl)) (nomark _))))) pe_int (pe_call G_law_take (hr.mono (by decide)) (by rfl) u.g__law_take kp_law_take b_law_take .nil pass0 (pa_cons (pv 0) (pa_cons pe_int pa_nil)))) pa_nil)))))
    (pss_one (ps_ret (pv 2))))), ?_⟩
    walk_at "s"
    obtain ⟨ps, hps, hpr⟩ := id hp
    have hn : (ps.map V.ref).length = c.words.length := by rw [List.length_map, hpr.len]; exact List.length_map _
    walk_at "w"
    refine ⟨le_sz le_r, fun D hD => ?_⟩
    walk_at "w"
    refine ⟨_, _, rfl, Or.inl (SqL.of (xn hD hps)), ?_⟩
    rw [hn]
    walk_at "w"
    obtain ⟨bx, by_, hbb, hbx, hby⟩ := id hb
    refine ⟨by omega, by omega, for_range (n := c.words.length) (fun i σ' H' => ∃ (v3 : Option V) (pl : List Nat), pl.length = i ∧ (∀ (k n : Nat), pl[k]? = some n → n ≤ limit c k) ∧ σ' = [some (.ref b), some (.ref p), some (.ref D), v3] ∧ Kp [b] H H' ∧ BagAt H' b ∧ H' D = some (.lst (pl.map fun n => V.int (n : Nat)))) ?_ ?_ ?_⟩
    · exact ⟨none, [], rfl, (fun k n h => by cases h), rfl, Kp.of (Ex.new hD), ⟨bx, by_, xn hD hbb, hbx, hby⟩, upd_same⟩
    · rintro i σ' H' hi ⟨v3, pl, hpl, hlim, rfl, kp, hb', hD'⟩
      rw [Int.zero_add]
      have put : ∀ (n : Nat) (H2 : Hp), n ≤ limit c i → Kp [b] H H2 → BagAt H2 b → H2 D = some (.lst (pl.map fun n => V.int (n : Nat))) → ∃ (v3 : Option V) (pl2 : List Nat), pl2.length = i + 1 ∧ (∀ (k n : Nat), pl2[k]? = some n → n ≤ limit c k) ∧ [some (V.ref b), some (V.ref p), some (V.ref D), some (V.int (i : Nat))] = [some (.ref b), some (.ref p), some (.ref D), v3] ∧ Kp [b] H (upd H2 D (.lst (pl.map (fun n => V.int (n : Nat)) ++ [.int (n : Nat)]))) ∧ BagAt (upd H2 D (.lst (pl.map (fun n => V.int (n : Nat)) ++ [.int (n : Nat)]))) b ∧ (upd H2 D (.lst (pl.map (fun n => V.int (n : Nat)) ++ [.int (n : Nat)]))) D = some (.lst (pl2.map fun n => V.int (n : Nat))) := by
        intro n H2 h1 h2 h3 h4
        obtain ⟨x2, y2, q1, q2, q3⟩ := h3
        refine ⟨_, pl ++ [n], by rw [List.length_append, hpl]; rfl, fun k m hm => ?_, rfl, kp_mut h2 hD, ⟨x2, y2, by rw [upd_ne (fun z => by rw [z, hD] at hbb; cases hbb)]; exact q1, q2, q3⟩, by rw [upd_same, List.map_append]; rfl⟩
        by_cases hk : k < pl.length
        · rw [List.getElem?_append_left hk] at hm; exact hlim k m hm
        · rw [List.getElem?_append_right (by omega)] at hm
          have hk2 : k = i := by
            have := (List.getElem?_eq_some_iff.mp hm).1
            simp at this; omega
          subst hk2
          rw [hpl, Nat.sub_self] at hm
          cases hm; exact h1
      have hps' := kp _ _ hps (bag_ne hb hps)
      walk_at "w"
      refine ⟨tyl hD', ?_⟩
      walk_at "w"
      have hDb : D ∉ [b] := fun z => by rw [List.mem_singleton.mp z] at hD; rw [hD] at hbb; cases hbb
      have hpl16 : pl.length < 100 := by omega
      rw [show decide (V.int (i : Nat) = V.int 0) = decide (i = 0) from dec_nat i 0]
      refine itb (fun z => ?_) (fun z => ?_)
      · walk_at "w"
        refine ⟨D, _, _, rfl, rfl, hD', by rw [List.length_map]; exact lt_sz (by omega), ?_⟩
        exact put 0 H' (Nat.zero_le _) kp hb' hD'
      · have z' := of_decide_eq_false z
        obtain ⟨p1, hp1, ht1⟩ := hpr.get (wsV_get (show i - 1 < c.words.length by omega))
        obtain ⟨p2, hp2, ht2⟩ := hpr.get (wsV_get hi)
        have hat1 : atI (ps.map V.ref) ((i : Nat) - 1 : Int) = some (.ref p1) := by
          rw [show ((i : Nat) - 1 : Int) = ((i - 1 : Nat) : Int) by omega, atI_nat, List.getElem?_map, hp1]; rfl
        have hat2 : atI (ps.map V.ref) ((i : Nat) : Int) = some (.ref p2) := by
          rw [atI_nat, List.getElem?_map, hp2]; rfl
        have ht1' := kp _ _ ht1 (bag_tup hb ht1)
        have ht2' := kp _ _ ht2 (bag_tup hb ht2)
        have hff : fresh c i = !decide ((wd c (i - 1)).who = (wd c i).who) := by
          unfold fresh
          rw [decide_eq_false z', Bool.false_or]
          cases (wd c (i - 1)).who <;> cases (wd c i).who <;> rfl
        walk_at "w"
        refine x_lst hps' hat1 ?_
        walk_at "w"
        refine x_lst hps' hat2 ?_
        walk_at "w"
        rw [ne_wI]
        refine itb (fun z2 => ?_) (fun z2 => ?_)
        · walk_at "w"
          refine ⟨D, _, _, rfl, rfl, hD', by rw [List.length_map]; exact lt_sz (by omega), ?_⟩
          exact put 0 H' (Nat.zero_le _) kp hb' hD'
        · walk_at "w"
          refine ⟨hb', by decide, by decide, fun d H2 hd0 hd3 kp2 hb2 => ?_⟩
          obtain ⟨n, rfl⟩ := Int.eq_ofNat_of_zero_le hd0
          have hD2 := kp2 _ _ hD' hDb
          refine ⟨D, _, _, rfl, rfl, hD2, by rw [List.length_map]; exact lt_sz (by omega), ?_⟩
          refine put n H2 ?_ (kp.trans kp2) hb2 hD2
          unfold limit
          rw [if_neg (by rw [hff, z2]; decide)]
          omega
    · rintro σ' H' ⟨v3, pl, hpl, hlim, rfl, kp, hb', hD'⟩
      walk_at "w"
      refine k (fun k => pl.getD k 0) D H' (fun k => ?_) kp hb' hD ?_
      · rw [List.getD_eq_getElem?_getD]
        cases q : pl[k]? with
        | none => exact Nat.zero_le _
        | some n => exact hlim k n q
      · rw [hD']
        unfold planL
        rw [← hpl]
        congr 2
        apply List.ext_getElem?
        intro i
        rw [List.getElem?_map, List.getElem?_map]
        by_cases h : i < pl.length
        · rw [List.getElem?_range h, List.getElem?_eq_getElem h]
          show _ = some (V.int ((pl.getD i 0 : Nat) : Int))
          rw [List.getD_eq_getElem?_getD, List.getElem?_eq_getElem h]; rfl
        · rw [List.getElem?_eq_none (by omega), List.getElem?_eq_none (by rw [List.length_range]; omega)]; rfl

def spLawFinished : Sp := fun vs H Q _ => ∃ (b p : Addr) (c : Cfg) (kd : Nat), vs = [.ref b, .ref p, .int (kd : Nat)] ∧ BagAt H b ∧ LstT H p (wsV c) ∧ c.words.length ≤ 16 ∧
  ∀ t o pa plan H', PlanOk c plan → OrdV H' c plan o → H' pa = some (.lst (planL c plan)) → Kp [b] H H' → BagAt H' b → H' t = some (.tup [o, .ref pa]) → Q (.ref t) H'
theorem ok_law_finished (u : U K mg) : Ok P w K mg base 3 (He.ga K "_law_finished") ["_law_bag_here", "_law_words", "_law_kind"] spLawFinished := by
  obtain ⟨fd_law_order, G_law_order, kp_law_order, b_law_order⟩ := (ok_law_order (P := P) (w := w) (base := base) u).ex
  obtain ⟨fd, F⟩ := u.d_law_finished
  refine mkOk F sc_law_finished (fun _ _ _ _ _ _ us hl => match us, hl with | [_, _, _], _ => rfl) (fun vs H Q E h => ?_) (fun cdv A outer s H vs Q E hr h => ?_)
  · obtain ⟨b, p, c, kd, rfl, hb, hp, hw, k⟩ := h
    rfl
  · obtain ⟨b, p, c, kd, rfl, hb, hp, hw, k⟩ := h
    have hu := hu_of hr
    refine ⟨_, (pss_n (ps_setLc (i := 3) (own := [("_law_k", 4)]) (g := (gName 4)) (tt := tYes) (te := (tIf (tOr (tTest (tOp rEq (tVar 4) (tC (.int 0)))) (tTest (tOp rNe (tOp (rIxT K) (tOp (rIxL K) (tVar 1) (tOp (rI0 fun i j => .int (i - j)) (tVar 4) (tC (.int 1)))) (tC (.int 0))) (tOp (rIxT K) (tOp (rIxL K) (tVar 1) (tVar 4)) (tC (.int 0)))))) (tC (.int 0)) (tC (.int 2)))) rfl sc_law_finished.nd rfl rfl (sw_true rfl rfl rfl (by decide +kernel)) (pi_range1 (by rfl) u.n_range (pa_cons (pe_callB call_len_seq (by rfl) u.n_len PySem.boot_len (pa_cons (pv 1) pa_nil)) pa_nil)) (blkOk_by (N := n_law_finished) (sc := defScope s_law_finished) (by decide +kernel)) (fun _ _ _ _ _ => (pg_name (i := 4) sc_law_finished.nd rfl (Or.inl rfl))) (fun _ _ _ _ _ => pts_nil) (fun _ _ _ _ _ => (pe_ifExp (PW.pt (pw_or (pt_cmpR op_eq (pv 4) pe_int (nomark _)) (pw_or1 (pt_cmpR op_ne (pe_ix ix_tup (pe_ix ix_list (pv 1) (pe_op op_sub (pv 4) pe_int) (fun _ _ => rfl)) pe_int (fun _ _ => rfl)) (pe_ix ix_tup (pe_ix ix_list (pv 1) (pv 4) (fun _ _ => rfl)) pe_int (fun _ _ => rfl)) (nomark _))))) pe_int pe_int)))
    (pss_n (ps_if (pt_cmpR op_eq (pv 2) pe_int (nomark _))
    (pss_one (ps_ret (pe_tup (pa_cons pe_str (pa_cons (pv 3) pa_nil)))))
    pss_nil)
    (pss_n (ps_if (pt_cmpR op_eq (pv 2) pe_int (nomark _))
    (pss_one (ps_ret (pe_tup (pa_cons pe_str (pa_cons (pe_lc (own := [("_law_write_here", 5)]) (g := (gName 5)) (tt := tYes) (te := (tC (.int 0))) rfl sc_law_finished.nd (pi_list (pv 1)) (blkOk_by (N := n_law_finished) (sc := defScope s_law_finished) (by decide +kernel)) (fun _ _ _ _ _ => (pg_name (i := 5) sc_law_finished.nd rfl (Or.inl rfl))) (fun _ _ _ _ _ => pts_nil) (fun _ _ _ _ _ => pe_int)) pa_nil)))))
    pss_nil)
    (pss_n (ps_set (i := 6) sc_law_finished.nd rfl (Or.inl rfl) (pe_call G_law_order (hr.mono (by decide)) (by rfl) u.g__law_order kp_law_order b_law_order .nil pass0 (pa_cons (pv 0) (pa_cons (pv 1) pa_nil))))
    (pss_one (ps_ret (pe_tup (pa_cons (pe_callTy call_list_of (by rfl) u.n_list PyProof.Rows.boot_list (pa_cons (pv 6) pa_nil)) (pa_cons (pv 6) pa_nil))))))))), ?_⟩
    walk_at "s"
    obtain ⟨ps, hps, hpr⟩ := id hp
    have hn : (ps.map V.ref).length = c.words.length := by rw [List.length_map, hpr.len]; exact List.length_map _
    walk_at "w"
    refine ⟨_, _, rfl, Or.inl (SqL.of hps), ?_⟩
    rw [hn]
    walk_at "w"
    refine ⟨by omega, by omega, fun D hD => lc_range (n := c.words.length) (fun i H' => Ex H H' ∧ H' D = some (.lst ((planL c (limit c)).take i))) ?_ ?_ ?_⟩
    · exact ⟨Ex.new hD, upd_same⟩
    · rintro i H' hi ⟨k1, hl⟩
      rw [Int.zero_add]
      have htk : (planL c (limit c)).take (i + 1) = (planL c (limit c)).take i ++ [V.int (limit c i : Nat)] := by
        rw [List.take_add_one, planL_get hi]; rfl
      have put : ∀ n : Nat, limit c i = n → ∃ acc, H' D = some (.lst acc) ∧ acc.length < sizeLine ∧ Ex H (upd H' D (.lst (acc ++ [V.int (n : Nat)]))) ∧ (upd H' D (.lst (acc ++ [V.int (n : Nat)]))) D = some (.lst ((planL c (limit c)).take (i + 1))) := by
        intro n hn2
        refine ⟨_, hl, take_lt (by rw [planL_len]; omega), exmut k1 hD, ?_⟩
        rw [htk, hn2]; exact upd_same
      refine ⟨rfl, ?_⟩
      walk_at "w"
      rw [show decide (V.int (i : Nat) = V.int 0) = decide (i = 0) from dec_nat i 0]
      have hps' := k1 _ _ hps
      refine itb (fun z => ?_) (fun z => ?_)
      · exact put 0 (by unfold limit fresh; rw [z]; rfl)
      · have z' := of_decide_eq_false z
        obtain ⟨p1, hp1, ht1⟩ := hpr.get (wsV_get (show i - 1 < c.words.length by omega))
        obtain ⟨p2, hp2, ht2⟩ := hpr.get (wsV_get hi)
        have hat1 : atI (ps.map V.ref) ((i : Nat) - 1 : Int) = some (.ref p1) := by
          rw [show ((i : Nat) - 1 : Int) = ((i - 1 : Nat) : Int) by omega, atI_nat, List.getElem?_map, hp1]; rfl
        have hat2 : atI (ps.map V.ref) ((i : Nat) : Int) = some (.ref p2) := by
          rw [atI_nat, List.getElem?_map, hp2]; rfl
        have ht1' := k1 _ _ ht1
        have ht2' := k1 _ _ ht2
        have hff : fresh c i = !decide ((wd c (i - 1)).who = (wd c i).who) := by
          unfold fresh
          rw [decide_eq_false z', Bool.false_or]
          cases (wd c (i - 1)).who <;> cases (wd c i).who <;> rfl
        walk_at "w"
        refine x_lst hps' hat1 ?_
        walk_at "w"
        refine x_lst hps' hat2 ?_
        walk_at "w"
        rw [ne_wI]
        refine itb (fun z2 => ?_) (fun z2 => ?_)
        · exact put 0 (by unfold limit; rw [if_pos (by rw [hff, z2])])
        · exact put 2 (by unfold limit; rw [if_neg (by rw [hff, z2]; decide)])
    · rintro H1 ⟨k1, hl⟩
      have hD1 : H1 D = some (.lst (planL c (limit c))) := by
        rw [hl]
        rw [← planL_len c (limit c), List.take_length]
      clear hl
      have hb1 : BagAt H1 b := by
        obtain ⟨x, y, q1, q2, q3⟩ := hb
        exact ⟨x, y, k1 _ _ q1, q2, q3⟩
      walk_at "w"
      rw [show decide (V.int (kd : Nat) = V.int 0) = decide (kd = 0) from dec_nat kd 0]
      refine itb (fun z => ?_) (fun z => ?_)
      · walk_at "w"
        refine ⟨le_sz le_r, fun t ht => ?_⟩
        refine k t _ D (limit c) _ (planOk_of fun _ => Nat.le_refl _) (Or.inl ⟨rfl, fun _ _ => rfl⟩) (xn ht hD1) (Kp.of (k1.trans (Ex.new ht))) ?_ upd_same
        obtain ⟨x, y, q1, q2, q3⟩ := hb1
        exact ⟨x, y, xn ht q1, q2, q3⟩
      · walk_at "w"
        rw [show decide (V.int (kd : Nat) = V.int 1) = decide (kd = 1) from dec_nat kd 1]
        refine itb (fun z2 => ?_) (fun z2 => ?_)
        · have hps1 := k1 _ _ hps
          walk_at "w"
          refine ⟨⟨_, SqL.of hps1⟩, fun X hX => lc_list (a := p) (xs := ps.map V.ref) (fun i H' => Ex H1 H' ∧ H' X = some (.lst ((planL c fun _ => 0).take i))) ?_ ?_ ?_ ?_⟩
          · exact ⟨Ex.new hX, upd_same⟩
          · rintro i H' _ ⟨k2, _⟩
            exact SqL.of (k2 _ _ hps1)
          · rintro i x H' hi ⟨k2, hl2⟩
            have hi' : i < c.words.length := by rw [← hn]; exact (List.getElem?_eq_some_iff.mp hi).1
            refine ⟨rfl, ?_⟩
            refine ⟨_, hl2, take_lt (by rw [planL_len]; omega), exmut k2 hX, ?_⟩
            rw [List.take_add_one, planL_get hi']; exact upd_same
          · rintro H2 ⟨k2, hl2⟩
            rw [hn, ← planL_len c fun _ => 0, List.take_length] at hl2
            walk_at "w"
            refine ⟨le_sz le_r, fun t ht => ?_⟩
            refine k t _ X (fun _ => 0) _ (planOk_of fun _ => Nat.zero_le _) (Or.inr (Or.inl ⟨rfl, fun _ _ => rfl⟩)) (xn ht hl2) (Kp.of ((k1.trans k2).trans (Ex.new ht))) ?_ upd_same
            obtain ⟨x, y, q1, q2, q3⟩ := hb1
            exact ⟨x, y, xn ht (k2 _ _ q1), q2, q3⟩
        · walk_at "w"
          refine ⟨b, p, c, rfl, hb1, hp.ex k1, hw, fun plan X H2 hpl kp2 hb2 hXn hX => ?_⟩
          walk_at "w"
          refine ⟨_, _, rfl, Or.inl (SqL.of hX), fun X2 hX2 => ?_⟩
          walk_at "w"
          refine ⟨le_sz le_r, fun t ht => ?_⟩
          refine k t _ X plan _ (planOk_of hpl) (Or.inr (Or.inr ⟨X2, rfl, xn ht upd_same, fun k _ => hpl k⟩)) (xn ht (xn hX2 hX)) (((Kp.of k1).trans kp2).trans (Kp.of ((Ex.new hX2).trans (Ex.new ht)))) ?_ upd_same
          obtain ⟨x, y, q1, q2, q3⟩ := hb2
          exact ⟨x, y, xn ht (xn hX2 q1), q2, q3⟩
end
end Lw
namespace Lw
open PySem PySem.Spec PyProof.Rows L2
section
variable {P : Program} {w : World} {K : PySem.W.Frag} {mg : Str → Option Value} {base : Heap}
local macro_rules | `(tactic| walk_at "h") => `(tactic| first | assumption | exact upd_same | (refine xn (by assumption) ?_; walk_at "h") | (refine exapp (by assumption) ?_; walk_at "h"))
local macro_rules | `(tactic| walk_at "e") => `(tactic| first | exact Same.refl _ | assumption | (refine Same.trans ?_ (Ex.new (by assumption)); walk_at "e") | (refine Same.trans ?_ (by assumption); walk_at "e"))
local macro_rules | `(tactic| walk_at "w") => `(tactic| repeat (first | refine ⟨_, rfl, ?_⟩ | refine ⟨_, _, rfl, rfl, ?_⟩ | refine ⟨_, _, _, _, rfl, rfl, SqT.of (by walk_at "h"), (by rfl), ?_⟩ | (refine fun σ2 (hσ : σ2 = _) => ?_; (try simp only [List.set_cons_succ, List.set_cons_zero] at hσ); subst hσ) | refine ⟨_, _, rfl, SqT.of (by walk_at "h"), (by rfl), ?_⟩ | refine ⟨rfl, ?_⟩ | refine ⟨_, _, rfl, ?_⟩))
local macro_rules | `(tactic| walk_at "s") => `(tactic| (intro σ hσ; simp only [start_eq, List.map_cons, List.map_nil, List.length_cons, List.length_nil, List.cons_append, List.nil_append, Nat.reduceAdd, Nat.reduceSub, List.replicate_succ, List.replicate_zero] at hσ; subst hσ))

theorem holds_ok (h : holdsB K = true) : ClX.CRead K (He.ga K "Policy") (.type "type") ∧ ClX.CVal K (He.ga K "Policy") (.type "type") "HOLDS" (.ref (holdsA K)) (.ref (holdsA K)) ∧ ∀ H, SqT K H (holdsA K) [.str "off", .str "partial", .str "all"] := by
  unfold holdsB at h
  obtain ⟨h1, h2⟩ := He.ba h
  obtain ⟨h2, h3⟩ := He.ba h2
  obtain ⟨h3, h4⟩ := He.ba h3
  refine ⟨⟨h2, He.eqO_ok h3⟩, ⟨?_, rfl⟩, tupAt_ok h4⟩
  cases e : PySem.W.findCls K (.ref (He.ga K "Policy")) (.type "type") "HOLDS" with
  | none => rw [e] at h1; cases h1
  | some z =>
    rw [e] at h1
    cases z with
    | val z =>
      cases z with
      | ref a =>
        have := of_decide_eq_true h1
        rw [this]
      | _ => cases h1
    | _ => cases h1
theorem u_holds (u : U K mg) : holdsB K = true := (He.ba (He.ba (He.ba u.b).2).2).1
theorem holds_in (h : Hold) : inV (.str h.str) [.str "off", .str "partial", .str "all"] = true := by cases h <;> decide +kernel
def spPolicy (K : PySem.W.Frag) : Sp := fun vs H Q _ => ∃ (x dx : Addr) (r : Rule), vs = [.ref x, .str r.hold.str, .int r.every, .int r.quick] ∧ H x = some (.ins (He.ga K "Policy") dx []) ∧ 0 ≤ r.every ∧ r.every ≤ 9 ∧ 0 ≤ r.quick ∧ r.quick ≤ 4 ∧
  ∀ H', Kp [x] H H' → H' x = some (.ins (He.ga K "Policy") dx (polF r)) → Q .non H'
theorem fn_Policy (u : U K mg) : ∃ fd, FnOk P w K mg base CX0 3 (He.ma K (He.ga K "Policy") "__init__") fd ["self", "hold", "every", "quick"] (spPolicy K) ∧ (∃ g : List Value → List Value → List Value, KBn K fd ["self", "hold", "every", "quick"] 2 ["every", "quick"] g (fun vs zs => vs ++ zs)) ∧ ∃ ds, Vals [.str "all", .int 2, .int 0] ds ∧ Binds K fd ["self", "hold", "every", "quick"] ds := by
  obtain ⟨fd_in_range, G_in_range, kp_in_range, b_in_range⟩ := (ok_in_range (P := P) (w := w) (base := base) u).ex
  obtain ⟨fd, F⟩ := u.d_Policy__init
  refine ⟨fd, F.ok sc_Policy__init (fun vs H Q E h => ?_) (fun cdv A outer s H vs Q E hr h => ?_), ?_, ?_⟩
  · obtain ⟨x, dx, r, rfl, _⟩ := h
    rfl
  · obtain ⟨x, dx, r, rfl, hx, h1, h2, h3, h4, k⟩ := h
    have hu := hu_of hr
    refine (fun (q : ∃ t, PSs (cxOf CX0 P w K mg base n_Policy__init "Policy.__init__" (defScope s_Policy__init) (He.ma K (He.ga K "Policy") "__init__") cdv A outer s H E).nox (defBody s_Policy__init) t ∧ ∀ σ, σ = start n_Policy__init [.ref x, .str r.hold.str, .int r.every, .int r.quick] → t { nx := fun _ H' => Q .non H', rt := Q } σ H) => let ⟨t, a, b⟩ := q; ⟨t, a.nox, b _ rfl⟩) ?_
    refine ⟨_, (pss_n (ps_if (PW.pt (pw_or (pt_not (pt_val (pe_callB call_isi (by rfl) u.n_isinstance boot_isinstance (pa_cons (pv 1) (pa_cons (pe_bltn (by rfl) u.n_str PyProof.Rows.boot_str (show L2.RelV (.ty "str") _ from rfl)) pa_nil))))) (pw_or1 (pt_cmpR op_notIn_seq (pv 1) (ClX.pe_cval (pe_glob rfl u.g_Policy (show L2.RelV (.ref _) _ from rfl))) (by with_unfolding_all rfl)))))
    (pss_one ps_never)
    pss_nil)
    (pss_n (ps_if (pt_not (pt_val (pe_call G_in_range (hr.mono (by decide)) (by rfl) u.g_in_range kp_in_range b_in_range .nil pass0 (pa_cons (pv 2) (pa_cons pe_int (pa_cons (pe_glob rfl u.k_MOST_EVERY.choose_spec (show L2.RelV (.int 9) _ from ⟨_, rfl⟩)) pa_nil))))))
    (pss_one ps_never)
    pss_nil)
    (pss_n (ps_if (pt_not (pt_val (pe_call G_in_range (hr.mono (by decide)) (by rfl) u.g_in_range kp_in_range b_in_range .nil pass0 (pa_cons (pv 3) (pa_cons pe_int (pa_cons (pe_glob rfl u.k_MOST_QUICK.choose_spec (show L2.RelV (.int 4) _ from ⟨_, rfl⟩)) pa_nil))))))
    (pss_one ps_never)
    pss_nil)
    (pss_n (ps_fld (pv 0) (pv 1) rfl)
    (pss_n (ps_fld (pv 0) (pv 2) rfl)
    (pss_one (ps_fld (pv 0) (pv 3) rfl))))))), ?_⟩
    walk_at "s"
    walk_at "w"
    obtain ⟨hh1, hh2, hh3⟩ := holds_ok (u_holds u)
    refine ⟨_, _, _, _, true, rfl, .ty "str", .base (.str _), kit_ty (by decide +kernel), true, rfl, ?_⟩
    walk_at "w"
    refine ⟨_, _, _, _, rfl, hh1, hh2, ?_⟩
    refine ⟨holdsA K, _, rfl, Or.inr (hh3 _), rfl, rfl, ?_⟩
    rw [holds_in]
    walk_at "w"
    refine ⟨r.every, 0, 9, rfl, ?_⟩
    rw [decide_eq_true h1, decide_eq_true h2]
    refine ⟨true, rfl, ?_⟩
    walk_at "w"
    refine ⟨r.quick, 0, 4, rfl, ?_⟩
    rw [decide_eq_true h3, decide_eq_true h4]
    refine ⟨true, rfl, ?_⟩
    walk_at "w"
    refine ⟨_, _, _, _, rfl, hx, u.c_Policy, u.a_Policy_hold, lt_r, ?_⟩
    walk_at "w"
    refine ⟨_, _, _, _, rfl, upd_same, u.c_Policy, u.a_Policy_every, lt_r, ?_⟩
    walk_at "w"
    refine ⟨_, _, _, _, rfl, upd_same, u.c_Policy, u.a_Policy_quick, lt_r, ?_⟩
    refine k _ (((Kp.upd (by simp)).trans (Kp.upd (by simp))).trans (Kp.upd (by simp))) ?_
    rw [upd_same]; kernel_rfl
  · obtain ⟨its, mv, kb⟩ := F.kbinds (ps := ["self", "hold", "every", "quick"]) 2 ["every", "quick"] [] (fun us its mv ws => us ++ ws) (by intro z; cases z) (by intro z; cases z) (fun q hq => by cases hq) (fun rv _ _ rz => rv.append rz) (fun T D doc pm an cdv ct us its mv ws h1 h2 h3 h4 =>
      match us, its, mv, ws, h1, h2, h3, h4 with | [_, _], [_], [], [_, _], _, _, _, _ => ⟨_, rfl, rfl⟩)
    exact ⟨_, kb⟩
  · exact F.binds (ps := ["self", "hold", "every", "quick"]) 1 0 (by intro z; cases z) rfl (fun T D doc pm an cdv ct us its ks h1 h2 h3 =>
      match us, its, ks, h1, h2, h3 with | [_], [_], [_, _], _, _, _ => ⟨_, rfl, ⟨_, _, _, _, _, _, rfl, rfl, ⟨_, _, _, _, _, _, rfl, rfl, rfl⟩⟩⟩) (by intro z; cases z)

theorem pol_ok (h : polB K = true) {H : Hp} {a dx : Addr} {fs : List (Str × V)} (e : H a = some (.ins (He.ga K "Policy") dx fs)) (cl : Cls K (He.ga K "Policy")) : TyX K H (.ref a) (.ref (He.ga K "Policy")) ∧ PySem.W.kitOne K (.ref (He.ga K "Policy")) (.ref (He.ga K "Policy")) = some true := by
  unfold polB at h
  obtain ⟨h1, h⟩ := He.ba h
  obtain ⟨h2, h⟩ := He.ba h
  obtain ⟨h3, h⟩ := He.ba h
  obtain ⟨h4, h5⟩ := He.ba h
  exact ⟨.base (.ins e cl (He.eqO_ok h1) (He.eqO_ok h2) (of_decide_eq_true h3) (of_decide_eq_true h4)), of_decide_eq_true h5⟩
theorem u_pol (u : U K mg) : polB K = true := (He.ba (He.ba (He.ba (He.ba (He.ba u.b).2).2).2).2).1
def spSetting0 (K : PySem.W.Frag) : Sp := fun vs H Q _ => ∃ (x dx pt : Addr) (n : Int) (ps ds : Bool → Addr) (rl : Bool → Rule), vs = [.ref x, .int n, .ref pt] ∧ H x = some (.ins (He.ga K "Setting") dx []) ∧ H pt = some (.tup [.ref (ps false), .ref (ps true)]) ∧
  (∀ b, H (ps b) = some (.ins (He.ga K "Policy") (ds b) (polF (rl b)))) ∧ 1 ≤ n ∧ n ≤ 10 ^ 18 ∧ ∀ q H', Kp [x] H H' → H' x = some (.ins (He.ga K "Setting") dx (setF n q)) → H' q = some (.tup [.ref (ps false), .ref (ps true)]) → Q .non H'
def spSetting (K : PySem.W.Frag) : Sp := fun vs H Q E => ∃ ws rest, vs = ws ++ rest ∧ ws.length = (["self", "size"] : List Str).length ∧ rest.length ≤ sizeLine ∧ ∀ p, H p = Option.none → spSetting0 K (ws ++ [V.ref p]) (upd H p (.tup rest)) Q E
theorem fn_Setting (u : U K mg) : FnR P w K mg base CX0 5 (He.ma K (He.ga K "Setting") "__init__") (spSetting K) := by
  obtain ⟨fd_in_range, G_in_range, kp_in_range, b_in_range⟩ := (ok_in_range (P := P) (w := w) (base := base) u).ex
  obtain ⟨fd_Policy__init, G_Policy__init, ⟨g_Policy, kb_Policy⟩, ds_Policy, dv_Policy, b_Policy__init⟩ := fn_Policy (P := P) (w := w) (base := base) u
  obtain ⟨fd, F⟩ := u.d_Setting__init
  obtain ⟨oc, od, dV, kV, doc, pm, an, cdv, ct, osl, rfl, lk, hcd, hD, hK⟩ := F.ex
  rcases hD with ⟨_, rfl⟩ | ⟨e, _⟩
  · refine StX.fn_star (ps := ["self", "size"]) (pv := "policies") (sp := spSetting0 K) lk hcd sc_Setting__init (fun _ _ _ _ _ _ _ _ _ _ _ z => z) (fun us rest h => ?_) (fun A outer s H vs Q E hr h => ?_)
    · match us, h with
      | [_, _], _ =>
        cases rest with
        | nil => rfl
        | cons r rs =>
          kernel_rfl
    · obtain ⟨x, dx, pt, n, ps, ds, rl, rfl, hx, hpt, hp, h1, h2, k⟩ := h
      have hu := hu_of hr
      refine (fun (q : ∃ t, PSs (cxOf CX0 P w K mg base n_Setting__init "Setting.__init__" (defScope s_Setting__init) (He.ma K (He.ga K "Setting") "__init__") cdv A outer s H E).nox (defBody s_Setting__init) t ∧ ∀ σ, σ = start n_Setting__init [.ref x, .int n, .ref pt] → t { nx := fun _ H' => Q .non H', rt := Q } σ H) => let ⟨t, a, b⟩ := q; ⟨t, a.nox, b _ rfl⟩) ?_
      refine ⟨_, (pss_n (ps_if (pt_not (pt_val (pe_call G_in_range (hr.mono (by decide)) (by rfl) u.g_in_range kp_in_range b_in_range .nil pass0 (pa_cons (pv 1) (pa_cons pe_int (pa_cons (pe_glob rfl u.k_MOST_SIZE.choose_spec (show L2.RelV (.int 1000000000000000000) _ from ⟨_, rfl⟩)) pa_nil))))))
    (pss_one ps_never)
    pss_nil)
    (pss_n (ps_if (PW.pt (pw_or (pt_cmpR op_gt (pe_callB call_len_seq (by rfl) u.n_len PySem.boot_len (pa_cons (pv 2) pa_nil)) pe_int (nomark _)) (pw_or1 (pt_not (pt_val (pe_callB (cr_all rfl) (by rfl) u.n_all boot_all (pa_cons (pe_lc (own := [("policy", 3)]) (g := (gName 3)) (tt := tYes) (te := (tCB (rIsi K) (tCons (tVar 3) (tCons (tC (.ref (He.ga K "Policy"))) tNil)))) rfl sc_Setting__init.nd (pi_tup (pv 2)) (blkOk_by (N := n_Setting__init) (sc := defScope s_Setting__init) (by decide +kernel)) (fun _ _ _ _ _ => (pg_name (i := 3) sc_Setting__init.nd rfl (Or.inl rfl))) (fun _ _ _ _ _ => pts_nil) (fun _ _ _ _ _ => (pe_callB call_isi (by rfl) u.n_isinstance boot_isinstance (pa_cons (pv 3) (pa_cons (pe_glob rfl u.g_Policy (show L2.RelV (.ref _) _ from rfl)) pa_nil))))) pa_nil)))))))
    (pss_one ps_never)
    pss_nil)
    (pss_n (ps_set (i := 4) sc_Setting__init.nd rfl (Or.inl rfl) (pe_lst (StX.pa_star (pv 2) (StX.pa_star (pv 2) (pa_cons (pe_make0 u.mk_Policy G_Policy__init (hr.mono (by decide)) (by rfl) u.g_Policy b_Policy__init dv_Policy pass0) (pa_cons (pe_make0 u.mk_Policy G_Policy__init (hr.mono (by decide)) (by rfl) u.g_Policy b_Policy__init dv_Policy pass0) pa_nil))))))
    (pss_n (ps_fld (pv 0) (pv 1) rfl)
    (pss_one (ps_fld (pv 0) (pe_tup (pa_cons (pe_ix ix_list (pv 4) pe_int (fun _ _ => rfl)) (pa_cons (pe_ix ix_list (pv 4) pe_int (fun _ _ => rfl)) pa_nil))) rfl)))))), ?_⟩
      walk_at "s"
      walk_at "w"
      refine ⟨n, 1, 1000000000000000000, rfl, ?_⟩
      rw [decide_eq_true h1, decide_eq_true (show n ≤ 1000000000000000000 from h2)]
      refine ⟨true, rfl, ?_⟩
      walk_at "w"
      refine ⟨_, _, rfl, Or.inr (SqT.of hpt), ?_⟩
      walk_at "w"
      refine ⟨⟨_, SqT.of hpt⟩, fun D hD => lc_tup (K := K) (a := pt) (xs := [false, true].map fun b => V.ref (ps b)) (fun i H' => Ex H H' ∧ H' D = some (.lst (([false, true].map fun _ => V.bl true).take i))) ?_ ?_ ?_ ?_⟩
      · exact ⟨Ex.new hD, upd_same⟩
      · rintro i H' _ ⟨k1, _⟩
        exact SqT.of (k1 _ _ hpt)
      · rintro i y H' hi ⟨k1, hl⟩
        obtain ⟨b, hb, rfl⟩ := map_get hi
        obtain ⟨t1, t2⟩ := pol_ok (u_pol u) (k1 _ _ (hp b)) u.c_Policy
        refine ⟨rfl, ?_⟩
        refine ⟨_, rfl, _, _, _, _, true, rfl, .own _, t1, t2, ?_⟩
        refine ⟨_, hl, take_lt lt_r, exmut k1 hD, ?_⟩
        rw [take_map hb fun _ => V.bl true]; exact upd_same
      · rintro H1 ⟨k1, hl⟩
        walk_at "w"
        refine ⟨D, [true, true], rfl, SqL.of hl, ?_⟩
        walk_at "w"
        refine ⟨pt, _, rfl, Or.inl (SqT.of (k1 _ _ hpt)), ?_⟩
        refine ⟨_, rfl, pt, _, rfl, Or.inl (SqT.of (k1 _ _ hpt)), ?_⟩
        intro y0 dy0 hy0 hdy0 hne0
        refine ⟨y0, dy0, ⟨.all, 2, 0⟩, rfl, upd_same, by decide, by decide, by decide, by decide, fun H2 kp2 hy0' => ⟨rfl, ?_⟩⟩
        have e2 := mkEx hy0 hdy0 hne0 kp2
        intro y1 dy1 hy1 hdy1 hne1
        refine ⟨y1, dy1, ⟨.all, 2, 0⟩, rfl, upd_same, by decide, by decide, by decide, by decide, fun H3 kp3 hy1' => ⟨rfl, ?_⟩⟩
        have e3 := mkEx hy1 hdy1 hne1 kp3
        have hx3 := e3 _ _ (e2 _ _ (k1 _ _ hx))
        have e13 := (k1.trans e2).trans e3
        refine ⟨le_sz le_r, fun Lb hL => ?_⟩
        walk_at "w"
        refine ⟨_, _, _, _, rfl, xn hL hx3, u.c_Setting, u.a_Setting_size, lt_r, ?_⟩
        have nLx : Lb ≠ x := (ne_of_none hx3 hL).symm
        have hL4 : upd (upd H3 Lb (.lst ([V.ref (ps false), V.ref (ps true)] ++ ([V.ref (ps false), V.ref (ps true)] ++ [V.ref y0, V.ref y1])))) x (.ins (He.ga K "Setting") dx (putF "size" (.int n) [])) Lb = some (.lst [V.ref (ps false), V.ref (ps true), V.ref (ps false), V.ref (ps true), V.ref y0, V.ref y1]) := by
          rw [upd_ne nLx]; exact upd_same
        walk_at "w"
        refine ⟨Lb, _, _, _, rfl, rfl, SqL.of hL4, rfl, ?_⟩
        walk_at "w"
        refine ⟨Lb, _, _, _, rfl, rfl, SqL.of hL4, rfl, ?_⟩
        refine ⟨le_sz le_r, fun q hq => ?_⟩
        walk_at "w"
        refine ⟨_, _, _, _, rfl, xn hq upd_same, u.c_Setting, u.a_Setting_policies, lt_r, ?_⟩
        have nqx : q ≠ x := fun z => by rw [z, upd_same] at hq; cases hq
        refine k q _ ((((Kp.of e13).trans (Kp.of (Ex.new hL))).trans (Kp.upd (by simp))).trans ((Kp.of (Ex.new hq)).trans (Kp.upd (by simp)))) ?_ ?_
        · rw [upd_same]; kernel_rfl
        · rw [upd_ne nqx]; exact upd_same
  · exact absurd rfl e
end
end Lw
namespace Lw
open PySem PySem.Spec PyProof.Rows L2
section
variable {P : Program} {w : World} {K : PySem.W.Frag} {mg : Str → Option Value} {base : Heap}
local macro_rules | `(tactic| walk_at "h") => `(tactic| first | assumption | exact upd_same | (refine xn (by assumption) ?_; walk_at "h") | (refine exapp (by assumption) ?_; walk_at "h"))
local macro_rules | `(tactic| walk_at "e") => `(tactic| first | exact Same.refl _ | assumption | (refine Same.trans ?_ (Ex.new (by assumption)); walk_at "e") | (refine Same.trans ?_ (by assumption); walk_at "e"))
local macro_rules | `(tactic| walk_at "w") => `(tactic| repeat (first | refine ⟨_, rfl, ?_⟩ | refine ⟨_, _, rfl, rfl, ?_⟩ | refine ⟨_, _, _, _, rfl, rfl, SqT.of (by walk_at "h"), (by rfl), ?_⟩ | (refine fun σ2 (hσ : σ2 = _) => ?_; (try simp only [List.set_cons_succ, List.set_cons_zero] at hσ); subst hσ) | refine ⟨_, _, rfl, SqT.of (by walk_at "h"), (by rfl), ?_⟩ | refine ⟨rfl, ?_⟩ | refine ⟨_, _, rfl, ?_⟩))
local macro_rules | `(tactic| walk_at "s") => `(tactic| (intro σ hσ; simp only [start_eq, List.map_cons, List.map_nil, List.length_cons, List.length_nil, List.cons_append, List.nil_append, Nat.reduceAdd, Nat.reduceSub, List.replicate_succ, List.replicate_zero] at hσ; subst hσ))

theorem pick6 {d : Int} (h0 : 0 ≤ d) (h6 : d < 6) : ∃ s : Int, atI [V.int 1, V.int 2, V.int 3, V.int 5, V.int 1000, V.int 1000000000] d = some (.int s) ∧ 1 ≤ s ∧ s ≤ 1000000000 := by
  obtain ⟨n, rfl⟩ := Int.eq_ofNat_of_zero_le h0
  match n, h6 with
  | 0, _ => exact ⟨_, rfl, by decide, by decide⟩
  | 1, _ => exact ⟨_, rfl, by decide, by decide⟩
  | 2, _ => exact ⟨_, rfl, by decide, by decide⟩
  | 3, _ => exact ⟨_, rfl, by decide, by decide⟩
  | 4, _ => exact ⟨_, rfl, by decide, by decide⟩
  | 5, _ => exact ⟨_, rfl, by decide, by decide⟩
  | n + 6, h => omega
theorem pick5 {d : Int} (h0 : 0 ≤ d) (h5 : d < 5) : ∃ s : Int, atI [V.int 2, V.int 1, V.int 2, V.int 1, V.int 0] d = some (.int s) ∧ ∃ h : Hold, atI [V.str "off", V.str "partial", V.str "all"] s = some (.str h.str) := by
  obtain ⟨n, rfl⟩ := Int.eq_ofNat_of_zero_le h0
  match n, h5 with
  | 0, _ => exact ⟨_, rfl, .all, rfl⟩
  | 1, _ => exact ⟨_, rfl, .part, rfl⟩
  | 2, _ => exact ⟨_, rfl, .all, rfl⟩
  | 3, _ => exact ⟨_, rfl, .part, rfl⟩
  | 4, _ => exact ⟨_, rfl, .off, rfl⟩
  | n + 5, h => omega
theorem pickq {d : Int} (h0 : 0 ≤ d) (h6 : d < 6) : ∃ s : Int, atI [V.int 0, V.int 0, V.int 1, V.int 2, V.int 3, V.int 4] d = some (.int s) ∧ 0 ≤ s ∧ s ≤ 4 := by
  obtain ⟨n, rfl⟩ := Int.eq_ofNat_of_zero_le h0
  match n, h6 with
  | 0, _ => exact ⟨_, rfl, by decide, by decide⟩
  | 1, _ => exact ⟨_, rfl, by decide, by decide⟩
  | 2, _ => exact ⟨_, rfl, by decide, by decide⟩
  | 3, _ => exact ⟨_, rfl, by decide, by decide⟩
  | 4, _ => exact ⟨_, rfl, by decide, by decide⟩
  | 5, _ => exact ⟨_, rfl, by decide, by decide⟩
  | n + 6, h => omega
theorem pickl {d : Int} (h0 : 0 ≤ d) (h6 : d < 6) : ∃ s : Int, atI [V.int 0, V.int 0, V.int 1, V.int 2, V.int 9, V.int 17] d = some (.int s) ∧ 0 ≤ s ∧ s ≤ 17 := by
  obtain ⟨n, rfl⟩ := Int.eq_ofNat_of_zero_le h0
  match n, h6 with
  | 0, _ => exact ⟨_, rfl, by decide, by decide⟩
  | 1, _ => exact ⟨_, rfl, by decide, by decide⟩
  | 2, _ => exact ⟨_, rfl, by decide, by decide⟩
  | 3, _ => exact ⟨_, rfl, by decide, by decide⟩
  | 4, _ => exact ⟨_, rfl, by decide, by decide⟩
  | 5, _ => exact ⟨_, rfl, by decide, by decide⟩
  | n + 6, h => omega
theorem pickm {d : Int} (h0 : 0 ≤ d) (h5 : d < 5) : ∃ m : Mode, atI [V.str "plain", V.str "plain", V.str "plain", V.str "push", V.str "more"] d = some (.str m.str) := by
  obtain ⟨n, rfl⟩ := Int.eq_ofNat_of_zero_le h0
  match n, h5 with
  | 0, _ => exact ⟨.plain, rfl⟩
  | 1, _ => exact ⟨.plain, rfl⟩
  | 2, _ => exact ⟨.plain, rfl⟩
  | 3, _ => exact ⟨.push, rfl⟩
  | 4, _ => exact ⟨.more, rfl⟩
  | n + 5, h => omega
theorem BagAt.ex {H H' : Hp} {b : Addr} (h : BagAt H b) (e : Ex H H') : BagAt H' b := let ⟨x, y, p, q, r⟩ := h; ⟨x, y, e _ _ p, q, r⟩
theorem BagAt.mut {H : Hp} {b D : Addr} {o : HO} (h : BagAt H b) (n : D ≠ b) : BagAt (upd H D o) b := let ⟨x, y, p, q, r⟩ := h; ⟨x, y, by rw [upd_ne n.symm]; exact p, q, r⟩
theorem Rows.bag {H H' : Hp} {b : Addr} {ps : List Addr} {rs : List (List V)} (h : Rows H ps rs) (hb : BagAt H b) (k : Kp [b] H H') : Rows H' ps rs :=
  ⟨h.len, fun i q hq => let ⟨r, a, z⟩ := h.at_ i q hq; ⟨r, a, k _ _ z (bag_tup hb z)⟩⟩
def RuleOk (r : Rule) : Prop := 0 ≤ r.every ∧ r.every ≤ 9 ∧ 0 ≤ r.quick ∧ r.quick ≤ 4
/-- policies at addresses -/
def PolsAt (K : PySem.W.Frag) (H : Hp) (ql : List (Addr × Addr × Rule)) : Prop := ∀ q ∈ ql, H q.1 = some (.ins (He.ga K "Policy") q.2.1 (polF q.2.2)) ∧ RuleOk q.2.2
theorem PolsAt.ex {H H' : Hp} {ql : List (Addr × Addr × Rule)} (h : PolsAt K H ql) (e : Ex H H') : PolsAt K H' ql := fun q hq => ⟨e _ _ (h q hq).1, (h q hq).2⟩
theorem PolsAt.kp {H H' : Hp} {b : Addr} {ql : List (Addr × Addr × Rule)} (h : PolsAt K H ql) (hb : BagAt H b) (e : Kp [b] H H') : PolsAt K H' ql := fun q hq => ⟨e _ _ (h q hq).1 (fun z => by
  obtain ⟨x, y, p, _⟩ := hb
  have := (h q hq).1
  rw [List.mem_singleton.mp z, p] at this; cases this), (h q hq).2⟩
theorem PolsAt.updl {H : Hp} {D : Addr} {xs : List V} {o : HO} {ql : List (Addr × Addr × Rule)} (h : PolsAt K H ql) (hD : H D = some (.lst xs)) : PolsAt K (upd H D o) ql := fun q hq => ⟨by
  rw [upd_ne (fun z => by have := (h q hq).1; rw [z, hD] at this; cases this)]; exact (h q hq).1, (h q hq).2⟩
theorem bag_new {H : Hp} {b D : Addr} (hb : BagAt H b) (hD : H D = none) : D ∉ [b] := fun z => by
  obtain ⟨x, y, p, _⟩ := hb
  rw [List.mem_singleton.mp z, p] at hD; cases hD
def spLawDrawn (K : PySem.W.Frag) : Sp := fun vs H Q _ => ∃ b : Addr, vs = [.ref b] ∧ BagAt H b ∧ ∀ t st wl c H', IsSet K c H' st → LstT H' wl (wsV c) → Cok c → Kp [b] H H' → BagAt H' b → H' t = some (.tup [.ref st, .ref wl]) → Q (.ref t) H'
theorem ok_law_drawn (u : U K mg) : Ok P w K mg base 7 (He.ga K "_law_drawn") ["_law_bag_here"] (spLawDrawn K) := by
  obtain ⟨fd_law_take, G_law_take, kp_law_take, b_law_take⟩ := (ok_law_take (P := P) (w := w) (base := base) u).ex
  obtain ⟨fd_Policy__init, G_Policy__init, ⟨g_Policy, kb_Policy⟩, ds_Policy, dv_Policy, b_Policy__init⟩ := fn_Policy (P := P) (w := w) (base := base) u
  have G_Setting__init := fn_Setting (P := P) (w := w) (base := base) u
  obtain ⟨fd, F⟩ := u.d_law_drawn
  refine mkOk F sc_law_drawn (fun _ _ _ _ _ _ us hl => match us, hl with | [_], _ => rfl) (fun vs H Q E h => ?_) (fun cdv A outer s H vs Q E hr h => ?_)
  · obtain ⟨b, rfl, hb, k⟩ := h
    rfl
  · obtain ⟨b, rfl, hb, k⟩ := h
    have hu := hu_of hr
    refine ⟨_, (pss_n (ps_set (i := 1) sc_law_drawn.nd rfl (Or.inl rfl) (pe_ix ix_tup (pe_tup (pa_cons pe_int (pa_cons pe_int (pa_cons pe_int (pa_cons pe_int (pa_cons pe_int (pa_cons (pe_op op_pow pe_int pe_int) pa_nil))))))) (pe_call G_law_take (hr.mono (by decide)) (by rfl) u.g__law_take kp_law_take b_law_take .nil pass0 (pa_cons (pv 0) (pa_cons pe_int pa_nil))) (fun _ _ => rfl)))
    (pss_n (ps_set (i := 2) sc_law_drawn.nd rfl (Or.inl rfl) (pe_lst pa_nil))
    (pss_n (ps_for PassesOwn.never rfl (pi_range1 (by rfl) u.n_range (pa_cons pe_int pa_nil)) (pg_name (i := 3) sc_law_drawn.nd rfl (Or.inl rfl))
    (pss_n (ps_set (i := 4) sc_law_drawn.nd rfl (Or.inl rfl) (pe_ix ix_tup (ClX.pe_cval (pe_glob rfl u.g_Policy (show L2.RelV (.ref _) _ from rfl))) (pe_ix ix_tup (pe_tup (pa_cons pe_int (pa_cons pe_int (pa_cons pe_int (pa_cons pe_int (pa_cons pe_int pa_nil)))))) (pe_call G_law_take (hr.mono (by decide)) (by rfl) u.g__law_take kp_law_take b_law_take .nil pass0 (pa_cons (pv 0) (pa_cons pe_int pa_nil))) (fun _ _ => rfl)) (fun _ _ => rfl)))
    (pss_one (ps_expr (pe_bm PySem.F.plainAttrs_list PySem.F.slot_list_append PySem.F.type_list_append mt_append (pv 2) (pa_cons (pe_makeK u.mk_Policy G_Policy__init (hr.mono (by decide)) (by rfl) u.g_Policy kb_Policy pass0 (pa_cons (pv 4) pa_nil) (pk_cons (pe_call G_law_take (hr.mono (by decide)) (by rfl) u.g__law_take kp_law_take b_law_take .nil pass0 (pa_cons (pv 0) (pa_cons pe_int pa_nil))) (pk_cons (pe_ix ix_tup (pe_tup (pa_cons pe_int (pa_cons pe_int (pa_cons pe_int (pa_cons pe_int (pa_cons pe_int (pa_cons pe_int pa_nil))))))) (pe_call G_law_take (hr.mono (by decide)) (by rfl) u.g__law_take kp_law_take b_law_take .nil pass0 (pa_cons (pv 0) (pa_cons pe_int pa_nil))) (fun _ _ => rfl)) pk_nil))) pa_nil))))))
    (pss_n (ps_par (i := 5) (j := 3) rfl sc_law_drawn.nd rfl rfl (by decide) rfl rfl (pa_cons (pe_lst pa_nil) (pa_cons (pe_call G_law_take (hr.mono (by decide)) (by rfl) u.g__law_take kp_law_take b_law_take .nil pass0 (pa_cons (pv 0) (pa_cons pe_int pa_nil))) pa_nil)) (by rfl))
    (pss_n (ps_for PassesOwn.never rfl (pi_range1 (by rfl) u.n_range (pa_cons (pe_call G_law_take (hr.mono (by decide)) (by rfl) u.g__law_take kp_law_take b_law_take .nil pass0 (pa_cons (pv 0) (pa_cons pe_int pa_nil))) pa_nil)) (pg_name (i := 6) sc_law_drawn.nd rfl (Or.inl rfl))
    (Evl.pss_cut (ps_if (pt_cmpR op_eq (pe_call G_law_take (hr.mono (by decide)) (by rfl) u.g__law_take kp_law_take b_law_take .nil pass0 (pa_cons (pv 0) (pa_cons pe_int pa_nil))) pe_int (nomark _))
    (pss_one (ps_set (i := 3) sc_law_drawn.nd rfl (Or.inl rfl) (pe_op op_sub pe_int (pv 3))))
    pss_nil)
    (pss_n (ps_set (i := 7) sc_law_drawn.nd rfl (Or.inl rfl) (pe_callB (call_max2 rfl) (by rfl) u.n_max boot_max (pa_cons pe_int (pa_cons (pe_op op_add (pe_op op_mul (pe_ix ix_tup (pe_tup (pa_cons pe_int (pa_cons pe_int (pa_cons pe_int (pa_cons pe_int (pa_cons pe_int (pa_cons pe_int pa_nil))))))) (pe_call G_law_take (hr.mono (by decide)) (by rfl) u.g__law_take kp_law_take b_law_take .nil pass0 (pa_cons (pv 0) (pa_cons pe_int pa_nil))) (fun _ _ => rfl)) (pv 1)) (pe_call G_law_take (hr.mono (by decide)) (by rfl) u.g__law_take kp_law_take b_law_take .nil pass0 (pa_cons (pv 0) (pa_cons (pe_callB (call_min2 rfl) (by rfl) u.n_min boot_min (pa_cons (pv 1) (pa_cons pe_int pa_nil))) pa_nil)))) pa_nil))))
    (pss_one (ps_expr (pe_bm PySem.F.plainAttrs_list PySem.F.slot_list_append PySem.F.type_list_append mt_append (pv 5) (pa_cons (pe_tup (pa_cons (pv 3) (pa_cons (pv 7) (pa_cons (pe_ix ix_tup (pe_tup (pa_cons pe_str (pa_cons pe_str (pa_cons pe_str (pa_cons pe_str (pa_cons pe_str pa_nil)))))) (pe_call G_law_take (hr.mono (by decide)) (by rfl) u.g__law_take kp_law_take b_law_take .nil pass0 (pa_cons (pv 0) (pa_cons pe_int pa_nil))) (fun _ _ => rfl)) pa_nil)))) pa_nil)))))))
    (pss_one (ps_ret (pe_tup (pa_cons (StX.pe_makeR u.mk_Setting G_Setting__init (hr.mono (by decide)) (by rfl) u.g_Setting pass0 (pa_cons (pv 1) (pa_cons (pe_ix ix_list (pv 2) pe_int (fun _ _ => rfl)) (pa_cons (pe_ix ix_list (pv 2) pe_int (fun _ _ => rfl)) pa_nil)))) (pa_cons (pv 5) pa_nil)))))))))), ?_⟩
    walk_at "s"
    obtain ⟨hh1, hh2, hh3⟩ := holds_ok (u_holds u)
    walk_at "w"
    refine ⟨⟨by decide, by decide, by decide⟩, ?_⟩
    refine ⟨le_sz le_r, fun T hT => ?_⟩
    walk_at "w"
    refine ⟨hb.ex (Ex.new hT), by decide, by decide, fun d H1 hd0 hd6 kp1 hb1 => ?_⟩
    obtain ⟨size, hsz, hs1, hs2⟩ := pick6 hd0 hd6
    have hT1 := kp1 _ _ upd_same (bag_new hb hT)
    have kp01 : Kp [b] H H1 := (Kp.of (Ex.new hT)).trans kp1
    refine ⟨T, _, _, _, rfl, rfl, SqT.of hT1, hsz, ?_⟩
    walk_at "w"
    refine ⟨le_sz le_r, fun D hD => ?_⟩
    have hDb := bag_new hb1 hD
    have hD0 : H D = none := kp01.free hD hDb
    walk_at "w"
    refine ⟨by decide, by decide, for_range (n := 2) (fun i σ' H' => ∃ v3 v4 ql, ql.length = i ∧ σ' = [some (.ref b), some (.int size), some (.ref D), v3, v4, none, none, none] ∧ Kp [b] H H' ∧ BagAt H' b ∧ H' D = some (.lst (ql.map fun q => V.ref q.1)) ∧ PolsAt K H' ql) ?_ ?_ ?_⟩
    · exact ⟨none, none, [], rfl, rfl, kp01.trans (Kp.of (Ex.new hD)), hb1.ex (Ex.new hD), upd_same, fun q hq => (List.not_mem_nil hq).elim⟩
    · rintro i σ' H' hi ⟨v3, v4, ql, hql, rfl, kp, hb', hD', hP⟩
      walk_at "w"
      refine ⟨_, _, _, _, rfl, hh1, hh2, ?_⟩
      refine ⟨le_sz le_r, fun T2 hT2 => ?_⟩
      walk_at "w"
      refine ⟨hb'.ex (Ex.new hT2), by decide, by decide, fun d5 H2 h50 h55 kp2 hb2 => ?_⟩
      obtain ⟨s5, hs5, hold, hho⟩ := pick5 h50 h55
      have hT22 := kp2 _ _ upd_same (bag_new hb' hT2)
      refine ⟨T2, _, _, _, rfl, rfl, SqT.of hT22, hs5, ?_⟩
      refine ⟨holdsA K, _, _, _, rfl, rfl, hh3 _, hho, ?_⟩
      have kp02 := (kp.trans (Kp.of (Ex.new hT2))).trans kp2
      have hD2 := kp2 _ _ (xn hT2 hD') hDb
      have hP2 := (hP.ex (Ex.new hT2)).kp (hb'.ex (Ex.new hT2)) kp2
      walk_at "w"
      refine ⟨tyl hD2, ?_⟩
      walk_at "w"
      refine ⟨hb2, by decide, by decide, fun d10 H3 h100 h1010 kp3 hb3 => ?_⟩
      walk_at "w"
      refine ⟨le_sz le_r, fun T4 hT4 => ?_⟩
      walk_at "w"
      refine ⟨hb3.ex (Ex.new hT4), by decide, by decide, fun d6 H4 h60 h66 kp4 hb4 => ?_⟩
      obtain ⟨qk, hqk, hqk0, hqk4⟩ := pickq h60 h66
      have hT44 := kp4 _ _ upd_same (bag_new hb3 hT4)
      refine ⟨T4, _, _, _, rfl, rfl, SqT.of hT44, hqk, ?_⟩
      have hD4 := kp4 _ _ (xn hT4 (kp3 _ _ hD2 hDb)) hDb
      have hP4 := ((hP2.kp hb2 kp3).ex (Ex.new hT4)).kp (hb3.ex (Ex.new hT4)) kp4
      have kp04 := ((kp02.trans kp3).trans (Kp.of (Ex.new hT4))).trans kp4
      refine ⟨rfl, rfl, ?_⟩
      intro x dx hx hdx hne
      refine ⟨x, dx, ⟨hold, d10, qk⟩, rfl, upd_same, h100, by show d10 ≤ 9; omega, hqk0, hqk4, fun H5 kp5 hx5 => ⟨rfl, ?_⟩⟩
      have e5 := mkEx hx hdx hne kp5
      have hD5 := e5 _ _ hD4
      refine ⟨D, _, _, rfl, rfl, hD5, by rw [List.length_map]; exact lt_sz (by omega), ?_⟩
      refine ⟨_, _, ql ++ [(x, dx, ⟨hold, d10, qk⟩)], by rw [List.length_append, hql]; rfl, rfl, kp_mut (kp04.trans (Kp.of e5)) hD0, (hb4.ex e5).mut (fun z => hDb (by rw [z]; simp)), by rw [upd_same, List.map_append]; rfl, ?_⟩
      refine PolsAt.updl (fun q hq => ?_) hD5
      rcases List.mem_append.mp hq with h | h
      · exact (hP4.ex e5) q h
      · rw [List.mem_singleton.mp h]; exact ⟨hx5, h100, by show d10 ≤ 9; omega, hqk0, hqk4⟩
    · rintro σ' H2 ⟨v3, v4, ql, hql, rfl, kp, hb2, hD2, hP⟩
      obtain ⟨q0, q1, rfl⟩ : ∃ q0 q1, ql = [q0, q1] := by
        match ql, hql with
        | [q0, q1], _ => exact ⟨q0, q1, rfl⟩
      walk_at "w"
      refine ⟨le_sz le_r, fun W hW => ?_⟩
      walk_at "w"
      have hWb := bag_new hb2 hW
      have hW0 : H W = none := kp.free hW hWb
      refine ⟨hb2.ex (Ex.new hW), by decide, by decide, fun d2 H3 h20 h22 kp3 hb3 => ?_⟩
      obtain ⟨s0, rfl⟩ : ∃ s : Bool, d2 = wI s := by
        obtain ⟨n, rfl⟩ := Int.eq_ofNat_of_zero_le h20
        match n, h22 with
        | 0, _ => exact ⟨false, rfl⟩
        | 1, _ => exact ⟨true, rfl⟩
        | n + 2, h => omega
      have hD3 := kp3 _ _ (xn hW hD2) hDb
      have hP3 := (hP.ex (Ex.new hW)).kp (hb2.ex (Ex.new hW)) kp3
      have hW3 := kp3 _ _ (upd_same (H := H2) (a := W) (o := .lst [])) hWb
      have kp03 := (kp.trans (Kp.of (Ex.new hW))).trans kp3
      walk_at "w"
      refine ⟨hb3, by decide, by decide, fun d17 H4 h170 h177 kp4 hb4 => ?_⟩
      walk_at "w"
      refine ⟨by omega, by omega, for_range (n := d17.toNat) (fun i σ' H' => ∃ (s : Bool) (v4 v6 v7 : Option V) (wl : List Word) (ws : List Addr), wl.length = i ∧ (∀ w ∈ wl, 0 < w.len ∧ w.len ≤ 17 * size + 8 ∧ w.len < 18 * size) ∧ σ' = [some (.ref b), some (.int size), some (.ref D), some (.int (wI s)), v4, some (.ref W), v6, v7] ∧ Kp [b] H H' ∧ BagAt H' b ∧ H' D = some (.lst (List.map (fun q => V.ref q.fst) [q0, q1])) ∧ PolsAt K H' [q0, q1] ∧ H' W = some (.lst (ws.map V.ref)) ∧ Rows H' ws (wl.map Word.vs)) ?_ ?_ ?_⟩
      · exact ⟨s0, _, _, _, [], [], rfl, fun w hw => (List.not_mem_nil hw).elim, rfl, kp03.trans kp4, hb4, kp4 _ _ hD3 hDb, hP3.kp hb3 kp4, kp4 _ _ hW3 hWb, .nil⟩
      · rintro i σ' H' hi ⟨s, v4, v6, v7, wl, ws, hwl, hwb, rfl, kp', hb', hD', hP', hW', hR'⟩
        walk_at "w"
        refine ⟨fun σ2 H5 => ∃ (s : Bool) (v6 : Option V), σ2 = [some (.ref b), some (.int size), some (.ref D), some (.int (wI s)), v4, some (.ref W), v6, v7] ∧ Kp [b] H' H5 ∧ BagAt H5 b, ?_, ?_⟩
        · walk_at "w"
          refine ⟨hb', by decide, by decide, fun d4 H5 h40 h44 kp5 hb5 => ?_⟩
          walk_at "w"
          refine itb (fun z => ?_) (fun z => ?_)
          · walk_at "w"
            exact ⟨(!s), _, (by rw [← wI_not]; rfl), kp5, hb5⟩
          · exact ⟨s, _, rfl, kp5, hb5⟩
        · rintro _ H5 ⟨s', v6', rfl, kp5, hb5⟩
          have hD5 := kp5 _ _ hD' hDb
          have hP5 := hP'.kp hb' kp5
          have hW5 := kp5 _ _ hW' hWb
          have hR5 : Rows H5 ws (wl.map Word.vs) := hR'.bag hb' kp5
          have kp05 := kp'.trans kp5
          walk_at "w"
          refine ⟨le_sz le_r, fun T6 hT6 => ?_⟩
          walk_at "w"
          refine ⟨hb5.ex (Ex.new hT6), by decide, by decide, fun d6 H6 h60 h66 kp6 hb6 => ?_⟩
          obtain ⟨l6, hl6, hl60, hl17⟩ := pickl h60 h66
          have hT66 := kp6 _ _ upd_same (bag_new hb5 hT6)
          refine ⟨T6, _, _, _, rfl, rfl, SqT.of hT66, hl6, ?_⟩
          walk_at "w"
          refine ⟨Or.inl ⟨by omega, by omega⟩, ?_⟩
          walk_at "w"
          have hmn : 1 ≤ (if (8 : Int) < size then 8 else size) ∧ (if (8 : Int) < size then 8 else size) ≤ 8 ∧ (if (8 : Int) < size then 8 else size) ≤ size := by split <;> omega
          have hls0 : 0 ≤ l6 * size := Int.mul_nonneg hl60 (by omega)
          have hls1 : l6 * size ≤ 17 * size := Int.mul_le_mul_of_nonneg_right hl17 (by omega)
          refine ⟨hb6, hmn.1, by omega, fun d8 H7 h80 h88 kp7 hb7 => ?_⟩
          have hL : 0 < (if l6 * size + d8 > 1 then l6 * size + d8 else 1) ∧ (if l6 * size + d8 > 1 then l6 * size + d8 else 1) ≤ 17 * size + 8 ∧ (if l6 * size + d8 > 1 then l6 * size + d8 else 1) < 18 * size := by split <;> omega
          have hD7 := kp7 _ _ (kp6 _ _ (xn hT6 hD5) hDb) hDb
          have hP7 := ((hP5.ex (Ex.new hT6)).kp (hb5.ex (Ex.new hT6)) kp6).kp hb6 kp7
          have hW7 := kp7 _ _ (kp6 _ _ (xn hT6 hW5) hWb) hWb
          have hR7 : Rows H7 ws (wl.map Word.vs) := ((hR5.ex (Ex.new hT6)).bag (hb5.ex (Ex.new hT6)) kp6).bag hb6 kp7
          have kp07 := ((kp05.trans (Kp.of (Ex.new hT6))).trans kp6).trans kp7
          walk_at "w"
          refine ⟨tyl hW7, ?_⟩
          walk_at "w"
          refine ⟨le_sz le_r, fun T8 hT8 => ?_⟩
          walk_at "w"
          refine ⟨hb7.ex (Ex.new hT8), by decide, by decide, fun d5 H8 h50 h55 kp8 hb8 => ?_⟩
          obtain ⟨md, hmd⟩ := pickm h50 h55
          have hT88 := kp8 _ _ upd_same (bag_new hb7 hT8)
          refine ⟨T8, _, _, _, rfl, rfl, SqT.of hT88, hmd, ?_⟩
          refine ⟨le_sz le_r, fun pw hpw => ?_⟩
          have hD8 := kp8 _ _ (xn hT8 hD7) hDb
          have hP8 := (hP7.ex (Ex.new hT8)).kp (hb7.ex (Ex.new hT8)) kp8
          have hW8 := kp8 _ _ (xn hT8 hW7) hWb
          have hR8 : Rows H8 ws (wl.map Word.vs) := (hR7.ex (Ex.new hT8)).bag (hb7.ex (Ex.new hT8)) kp8
          have kp08 := (kp07.trans (Kp.of (Ex.new hT8))).trans kp8
          have hwsl : ws.length = wl.length := by rw [hR8.len, List.length_map]
          refine ⟨W, ws.map V.ref, _, rfl, rfl, xn hpw hW8, by rw [List.length_map]; exact lt_sz (by omega), ?_⟩
          have nDW : D ≠ W := ne_of_none hD2 hW
          refine ⟨s', _, _, _, wl ++ [⟨s', if l6 * size + d8 > 1 then l6 * size + d8 else 1, md⟩], ws ++ [pw], by rw [List.length_append, hwl]; rfl, fun w hw => ?_, rfl, kp_mut (kp08.trans (Kp.of (Ex.new hpw))) hW0, (hb8.ex (Ex.new hpw)).mut (fun z => hWb (by rw [z]; simp)), by rw [upd_ne nDW]; exact xn hpw hD8, (hP8.ex (Ex.new hpw)).updl (xn hpw hW8), by rw [upd_same, List.map_append]; rfl, ?_⟩
          · rcases List.mem_append.mp hw with h | h
            · exact hwb w h
            · rw [List.mem_singleton.mp h]; exact hL
          · rw [List.map_append]
            exact ((hR8.ex (Ex.new hpw)).snoc (r := [.int (wI s'), .int (if l6 * size + d8 > 1 then l6 * size + d8 else 1), .str md.str]) upd_same).updl (xn hpw hW8)
      · rintro σ' H' ⟨s, v4, v6, v7, wl, ws, hwl, hwb, rfl, kp', hb', hD', hP', hW', hR'⟩
        walk_at "w"
        refine ⟨D, _, _, _, rfl, rfl, SqL.of hD', rfl, ?_⟩
        walk_at "w"
        refine ⟨D, _, _, _, rfl, rfl, SqL.of hD', rfl, ?_⟩
        walk_at "w"
        intro x dx hx hdx hne
        refine ⟨[V.ref x, V.int size], [V.ref q0.1, V.ref q1.1], rfl, rfl, le_sz le_r, fun pt hpt => ?_⟩
        have eS : Ex H' (upd (upd (upd H' dx (.own x)) x (.ins (He.ga K "Setting") dx [])) pt (.tup [V.ref q0.1, V.ref q1.1])) := (updEx2 hx hdx).trans (Ex.new hpt)
        have hp0 := hP' q0 (by simp)
        have hp1 := hP' q1 (by simp)
        refine ⟨x, dx, pt, size, fun b => cond b q1.1 q0.1, fun b => cond b q1.2.1 q0.2.1, fun b => cond b q1.2.2 q0.2.2, rfl, xn hpt upd_same, upd_same, (fun b => by cases b; exact eS _ _ hp0.1; exact eS _ _ hp1.1), hs1, (by have : (10 : Int) ^ 18 = 1000000000000000000 := rfl; omega), fun q H9 kp9 hx9 hq9 => ⟨rfl, ?_⟩⟩
        have e9 := mkEx hx hdx hne ((Kp.of (Ex.new hpt)).trans kp9)
        refine ⟨_, rfl, le_sz le_r, fun t ht => ?_⟩
        have e10 := e9.trans (Ex.new (o := .tup [V.ref x, V.ref W]) ht)
        refine k t x W ⟨size, fun b => cond b q1.2.2 q0.2.2, wl⟩ _ ⟨dx, q, (fun b => cond b q1.1 q0.1), (fun b => cond b q1.2.1 q0.2.1), xn ht hx9, xn ht hq9, fun b => ?_⟩ ⟨ws, e10 _ _ hW', hR'.ex e10⟩ ?_ (kp'.trans (Kp.of e10)) (hb'.ex e10) upd_same
        · cases b
          · exact e10 _ _ hp0.1
          · exact e10 _ _ hp1.1
        · refine ⟨⟨⟨by show (0 : Int) < size; omega, ?_, ?_, ?_, ?_, fun w hw => (hwb w hw).1⟩, fun w hw => (hwb w hw).2.1, by show wl.length ≤ 16; omega⟩, by show size < 1073741824; omega, fun w hw => (hwb w hw).2.2⟩
          · intro b; cases b; exact hp0.2.1; exact hp1.2.1
          · intro b; cases b; exact hp0.2.2.1; exact hp1.2.2.1
          · intro b; cases b; exact hp0.2.2.2.1; exact hp1.2.2.2.1
          · intro b; cases b; exact hp0.2.2.2.2; exact hp1.2.2.2.2
end
end Lw
namespace Lw
open PySem PySem.Spec PyProof.Rows L2
section
variable {P : Program} {w : World} {K : PySem.W.Frag} {mg : Str → Option Value} {base : Heap}
local macro_rules | `(tactic| walk_at "h") => `(tactic| first | assumption | exact upd_same | (refine xn (by assumption) ?_; walk_at "h") | (refine exapp (by assumption) ?_; walk_at "h"))
local macro_rules | `(tactic| walk_at "e") => `(tactic| first | exact Same.refl _ | assumption | (refine Same.trans ?_ (Ex.new (by assumption)); walk_at "e") | (refine Same.trans ?_ (by assumption); walk_at "e"))
local macro_rules | `(tactic| walk_at "w") => `(tactic| repeat (first | refine ⟨_, rfl, ?_⟩ | refine ⟨_, _, rfl, rfl, ?_⟩ | refine ⟨_, _, _, _, rfl, rfl, SqT.of (by walk_at "h"), (by rfl), ?_⟩ | (refine fun σ2 (hσ : σ2 = _) => ?_; (try simp only [List.set_cons_succ, List.set_cons_zero] at hσ); subst hσ) | refine ⟨_, _, rfl, SqT.of (by walk_at "h"), (by rfl), ?_⟩ | refine ⟨rfl, ?_⟩ | refine ⟨_, _, rfl, ?_⟩))
local macro_rules | `(tactic| walk_at "s") => `(tactic| (intro σ hσ; simp only [start_eq, List.map_cons, List.map_nil, List.length_cons, List.length_nil, List.cons_append, List.nil_append, Nat.reduceAdd, Nat.reduceSub, List.replicate_succ, List.replicate_zero] at hσ; subst hσ))

def spSideInit (K : PySem.W.Frag) : Sp := fun vs H Q _ => ∃ (x dx p : Addr) (s : Side), vs = [.ref x, .ref p] ∧ H x = some (.ins (He.ga K "Side") dx []) ∧ H p = some (.tup s.vs) ∧ ∀ H', Kp [x] H H' → H' x = some (.ins (He.ga K "Side") dx (sideF s)) → Q .non H'
theorem ok_Side__init (u : U K mg) : Ok P w K mg base 1 (He.ma K (He.ga K "Side") "__init__") ["self", "values"] (spSideInit K) := by
  obtain ⟨fd, F⟩ := u.d_Side__init
  refine mkOk F sc_Side__init (fun _ _ _ _ _ _ us hl => match us, hl with | [_, _], _ => rfl) (fun vs H Q E h => ?_) (fun cdv A outer s H vs Q E hr h => ?_)
  · obtain ⟨x, dx, p, s1, rfl, hx, hp, k⟩ := h
    rfl
  · obtain ⟨x, dx, p, s1, rfl, hx, hp, k⟩ := h
    have hu := hu_of hr
    refine ⟨_, (pss_one (ps_asg (pv 1) (pg_tup rfl (pgs_cons (pg_fld (pv 0)) (pgs_cons (pg_fld (pv 0)) (pgs_cons (pg_fld (pv 0)) (pgs_cons (pg_fld (pv 0)) (pgs_cons (pg_fld (pv 0)) (pgs_cons (pg_fld (pv 0)) (pgs_cons (pg_fld (pv 0)) (pgs_cons (pg_fld (pv 0)) pgs_nil))))))))))), ?_⟩
    walk_at "s"
    walk_at "w"
    refine ⟨_, _, _, _, rfl, hx, u.c_Side, u.a_Side_waiting, lt_r, ?_⟩
    walk_at "w"
    refine ⟨_, _, _, _, rfl, upd_same, u.c_Side, u.a_Side_corked, lt_r, ?_⟩
    walk_at "w"
    refine ⟨_, _, _, _, rfl, upd_same, u.c_Side, u.a_Side_out, lt_r, ?_⟩
    walk_at "w"
    refine ⟨_, _, _, _, rfl, upd_same, u.c_Side, u.a_Side_covered, lt_r, ?_⟩
    walk_at "w"
    refine ⟨_, _, _, _, rfl, upd_same, u.c_Side, u.a_Side_heard, lt_r, ?_⟩
    walk_at "w"
    refine ⟨_, _, _, _, rfl, upd_same, u.c_Side, u.a_Side_fulls, lt_r, ?_⟩
    walk_at "w"
    refine ⟨_, _, _, _, rfl, upd_same, u.c_Side, u.a_Side_arrived, lt_r, ?_⟩
    walk_at "w"
    refine ⟨_, _, _, _, rfl, upd_same, u.c_Side, u.a_Side_mark, lt_r, ?_⟩
    walk_at "w"
    refine k _ ?_ ?_
    · exact Kp.trans (Kp.trans (Kp.trans (Kp.trans (Kp.trans (Kp.trans (Kp.trans (Kp.upd (by simp)) (Kp.upd (by simp))) (Kp.upd (by simp))) (Kp.upd (by simp))) (Kp.upd (by simp))) (Kp.upd (by simp))) (Kp.upd (by simp))) (Kp.upd (by simp))
    · rw [upd_same]; kernel_rfl

def spPacked (K : PySem.W.Frag) : Sp := fun vs H Q _ => ∃ (a dx : Addr) (s : Side), vs = [.ref a] ∧ H a = some (.ins (He.ga K "Side") dx (sideF s)) ∧ ∀ t H', Ex H H' → H' t = some (.tup s.vs) → Q (.ref t) H'
theorem ok_Side_packed (u : U K mg) : Ok P w K mg base 1 (He.ma K (He.ga K "Side") "packed") ["self"] (spPacked K) := by
  obtain ⟨fd, F⟩ := u.d_Side_packed
  refine mkOk F sc_Side_packed (fun _ _ _ _ _ _ us hl => match us, hl with | [_], _ => rfl) (fun vs H Q E h => ?_) (fun cdv A outer s H vs Q E hr h => ?_)
  · obtain ⟨a, dx, s1, rfl, ha, k⟩ := h
    rfl
  · obtain ⟨a, dx, s1, rfl, ha, k⟩ := h
    have hu := hu_of hr
    refine ⟨_, (pss_one (ps_ret (pe_tup (pa_cons (pe_fld (pv 0) rfl) (pa_cons (pe_fld (pv 0) rfl) (pa_cons (pe_fld (pv 0) rfl) (pa_cons (pe_fld (pv 0) rfl) (pa_cons (pe_fld (pv 0) rfl) (pa_cons (pe_fld (pv 0) rfl) (pa_cons (pe_fld (pv 0) rfl) (pa_cons (pe_fld (pv 0) rfl) pa_nil))))))))))), ?_⟩
    walk_at "s"
    refine ⟨_, rfl, _, _, _, _, _, rfl, ha, u.c_Side, u.a_Side_waiting, fk_waiting _, ?_⟩
    refine ⟨_, rfl, _, _, _, _, _, rfl, ha, u.c_Side, u.a_Side_corked, fk_corked _, ?_⟩
    refine ⟨_, rfl, _, _, _, _, _, rfl, ha, u.c_Side, u.a_Side_out, fk_out _, ?_⟩
    refine ⟨_, rfl, _, _, _, _, _, rfl, ha, u.c_Side, u.a_Side_covered, fk_covered _, ?_⟩
    refine ⟨_, rfl, _, _, _, _, _, rfl, ha, u.c_Side, u.a_Side_heard, fk_heard _, ?_⟩
    refine ⟨_, rfl, _, _, _, _, _, rfl, ha, u.c_Side, u.a_Side_fulls, fk_fulls _, ?_⟩
    refine ⟨_, rfl, _, _, _, _, _, rfl, ha, u.c_Side, u.a_Side_arrived, fk_arrived _, ?_⟩
    refine ⟨_, rfl, _, _, _, _, _, rfl, ha, u.c_Side, u.a_Side_mark, fk_mark _, ?_⟩
    refine ⟨le_sz le_r, fun t ht => ?_⟩
    exact k t _ (Ex.new ht) upd_same

def spPermits (K : PySem.W.Frag) : Sp := fun vs H Q _ => ∃ (a dx : Addr) (s : Side) (h : Hold), vs = [.ref a, .str h.str] ∧ H a = some (.ins (He.ga K "Side") dx (sideF s)) ∧ Q (.bl (mayH h s)) H
theorem ok_Side_permits (u : U K mg) : Ok P w K mg base 1 (He.ma K (He.ga K "Side") "permits") ["self", "hold"] (spPermits K) := by
  obtain ⟨fd, F⟩ := u.d_Side_permits
  refine mkOk F sc_Side_permits (fun _ _ _ _ _ _ us hl => match us, hl with | [_, _], _ => rfl) (fun vs H Q E h => ?_) (fun cdv A outer s H vs Q E hr h => ?_)
  · obtain ⟨a, dx, s1, h, rfl, ha, k⟩ := h
    rfl
  · obtain ⟨a, dx, s1, h, rfl, ha, k⟩ := h
    have hu := hu_of hr
    refine ⟨_, (pss_n (ps_if (pt_cmpR op_eq (pv 1) pe_str (nomark _))
    (pss_one (ps_ret (pe_cmpR op_ge (pe_fld (pv 0) rfl) (pe_fld (pv 0) rfl) (nomark _))))
    pss_nil)
    (pss_one (ps_ret (pe_or (pe_cmpR op_eq (pv 1) pe_str (nomark _)) (pe_one (pe_cmpR op_eq (pe_fld (pv 0) rfl) (pe_fld (pv 0) rfl) (nomark _))))))), ?_⟩
    walk_at "s"
    walk_at "w"
    unfold mayH at k
    rw [hold_part]
    cases h
    · refine itf rfl ?_
      walk_at "w"
      exact itt (by rw [hold_off]; rfl) k
    · refine itt rfl ?_
      refine ⟨_, rfl, _, _, _, _, _, rfl, ha, u.c_Side, u.a_Side_covered, fk_covered _, ?_⟩
      refine ⟨_, rfl, _, _, _, _, _, rfl, ha, u.c_Side, u.a_Side_mark, fk_mark _, ?_⟩
      walk_at "w"
      exact k
    · refine itf rfl ?_
      walk_at "w"
      refine ⟨_, _, _, _, _, rfl, ha, u.c_Side, u.a_Side_covered, fk_covered _, ?_⟩
      refine ⟨_, rfl, _, _, _, _, _, rfl, ha, u.c_Side, u.a_Side_out, fk_out _, ?_⟩
      walk_at "w"
      show Q (.bl (decide (V.int s1.told = V.int s1.sent))) H
      rw [dec_int]
      exact k
end
end Lw
namespace Lw
open PySem PySem.Spec PyProof.Rows L2
section
variable {P : Program} {w : World} {K : PySem.W.Frag} {mg : Str → Option Value} {base : Heap}
local macro_rules | `(tactic| walk_at "h") => `(tactic| first | assumption | exact upd_same | (refine xn (by assumption) ?_; walk_at "h") | (refine exapp (by assumption) ?_; walk_at "h"))
local macro_rules | `(tactic| walk_at "e") => `(tactic| first | exact Same.refl _ | assumption | (refine Same.trans ?_ (Ex.new (by assumption)); walk_at "e") | (refine Same.trans ?_ (by assumption); walk_at "e"))
local macro_rules | `(tactic| walk_at "w") => `(tactic| repeat (first | refine ⟨_, rfl, ?_⟩ | refine ⟨_, _, rfl, rfl, ?_⟩ | refine ⟨_, _, _, _, rfl, rfl, SqT.of (by walk_at "h"), (by rfl), ?_⟩ | (refine fun σ2 (hσ : σ2 = _) => ?_; (try simp only [List.set_cons_succ, List.set_cons_zero] at hσ); subst hσ) | refine ⟨_, _, rfl, SqT.of (by walk_at "h"), (by rfl), ?_⟩ | refine ⟨rfl, ?_⟩ | refine ⟨_, _, rfl, ?_⟩))
local macro_rules | `(tactic| walk_at "s") => `(tactic| (intro σ hσ; simp only [start_eq, List.map_cons, List.map_nil, List.length_cons, List.length_nil, List.cons_append, List.nil_append, Nat.reduceAdd, Nat.reduceSub, List.replicate_succ, List.replicate_zero] at hσ; subst hσ))

def spDraftSend (K : PySem.W.Frag) : Sp := fun vs H Q _ => ∃ (f : Fr) (c : Cfg) (m : Mo) (b : Bool) (n : Int), vs = [.ref f.M, .int (wI b), .int n] ∧ DrM K c f H m ∧ (m.way b).length < 90000 ∧
  ∀ H', Kp f.ft H H' → DrM K c f H' (send c b n m) → Q .non H'
theorem ok_Draft_send (u : U K mg) : Ok P w K mg base 1 (He.ma K (He.ga K "Draft") "send") ["self", "endpoint", "count"] (spDraftSend K) := by
  obtain ⟨fd, F⟩ := u.d_Draft_send
  refine mkOk F sc_Draft_send (fun _ _ _ _ _ _ us hl => match us, hl with | [_, _, _], _ => rfl) (fun vs H Q E h => ?_) (fun cdv A outer s H vs Q E hr h => ?_)
  · obtain ⟨f, c, m, b, n, rfl, hm, h1, k⟩ := h
    rfl
  · obtain ⟨f, c, m, b, n, rfl, hm, h1, k⟩ := h
    have hu := hu_of hr
    refine ⟨_, (pss_n (ps_set (i := 3) sc_Draft_send.nd rfl (Or.inl rfl) (pe_ix ix_list (pe_fld (pv 0) rfl) (pv 1) (fun _ _ => rfl)))
    (pss_n (ps_fldaug (pv 3) (pv 2) in_sub)
    (pss_n (ps_fldaug (pv 3) (pv 2) in_add)
    (pss_n (ps_fld (pv 3) pe_int rfl)
    (Evl.pss_cut (ps_if (pt_chain op_lt op_lt pe_int (pv 2) (pe_fld (pe_fld (pv 0) rfl) rfl))
    (pss_n (ps_fld (pv 3) (pe_fld (pv 3) rfl) rfl)
    (pss_one (ps_fld (pv 3) pe_bl rfl)))
    pss_nil)
    (pss_one (ps_expr (pe_bm PySem.F.plainAttrs_list PySem.F.slot_list_append PySem.F.type_list_append mt_append (pe_ix ix_list (pe_fld (pv 0) rfl) (pv 1) (fun _ _ => rfl)) (pa_cons (pe_tup (pa_cons (pv 2) (pa_cons (pe_fld (pv 3) rfl) pa_nil))) pa_nil))))))))), ?_⟩
    walk_at "s"
    obtain ⟨st, dm, dx, L⟩ := hm
    generalize hs : m.side b = s0 at *
    obtain ⟨a1, a2, a3, a4, a5, a6, a7, a8⟩ := s0
    have L0 := L.open_ b
    rw [hs] at L0
    walk_at "w"
    refine L.getM u.c_Draft u.a_Draft_sides (dk_sides _ _ _ _ _) ?_
    walk_at "w"
    
    refine x_lst L.bx.sl (Bx.s_at f b) ?_
    walk_at "w"
    refine L0.augS u.c_Side (fset_same _ _ _) u.a_Side_waiting (fs_waiting _ _ _ _ _ _ _ _) ?_
    walk_at "w"
    refine L0.aug2 (fset_same _ _ _) (fq_waiting _ _ _ _ _ _ _ _ _) fun H1 kp1 L1 => ?_
    rw [fset_fset] at L1
    walk_at "w"
    refine L1.augS u.c_Side (fset_same _ _ _) u.a_Side_out (fs_out _ _ _ _ _ _ _ _) ?_
    walk_at "w"
    refine L1.aug2 (fset_same _ _ _) (fq_out _ _ _ _ _ _ _ _ _) fun H2 kp2 L2 => ?_
    rw [fset_fset] at L2
    walk_at "w"
    refine L2.putS u.c_Side (fset_same _ _ _) u.a_Side_fulls (fq_fulls _ _ _ _ _ _ _ _ _) fun H3 kp3 L3 => ?_
    rw [fset_fset] at L3
    walk_at "w"
    
    refine ⟨fun σ' H' => σ' = [some (V.ref f.M), some (V.int (wI b)), some (V.int n), some (V.ref (f.s b))] ∧ Kp f.ft H H' ∧ DrAt K c f st dm dx H' m.made m.stalls (fset m.side b (sendS c.size n ⟨a1, a2, a3, a4, a5, a6, a7, a8⟩)) m.way, ?_, ?_⟩
    · obtain ⟨d2, pt, ps, ds, S3, _⟩ := L3.se
      walk_at "w"
      refine itb (fun z1 => ?_) (fun z1 => ?_)
      · walk_at "w"
        refine L3.getM u.c_Draft u.a_Draft_setting (dk_setting _ _ _ _ _) ?_
        walk_at "w"
        refine ⟨_, _, _, _, _, rfl, S3.ob, u.c_Setting, u.a_Setting_size, stf_size _ _, ?_⟩
        walk_at "w"
    
        refine itb (fun z2 => ?_) (fun z2 => ?_)
        · walk_at "w"
          refine L3.getS u.c_Side (fset_same _ _ _) u.a_Side_out (fs_out _ _ _ _ _ _ _ _) ?_
          walk_at "w"
          refine L3.putS u.c_Side (fset_same _ _ _) u.a_Side_mark (fq_mark _ _ _ _ _ _ _ _ _) fun H4 kp4 L4 => ?_
          rw [fset_fset] at L4
          walk_at "w"
          refine L4.putS u.c_Side (fset_same _ _ _) u.a_Side_corked (fq_corked _ _ _ _ _ _ _ _ _) fun H5 kp5 L5 => ?_
          rw [fset_fset] at L5
          walk_at "w"
    
          have es : sendS c.size n ⟨a1, a2, a3, a4, a5, a6, a7, a8⟩ = ⟨a1 - n, false, a3 + n, a4, a5, 0, a7, a3 + n⟩ := by
            unfold sendS; rw [if_pos ⟨of_decide_eq_true z1, of_decide_eq_true z2⟩, if_pos ⟨of_decide_eq_true z1, of_decide_eq_true z2⟩]
          refine ⟨(((kp1.trans kp2).trans kp3).trans kp4).trans kp5, ?_⟩
          rw [es]; exact L5
        · have es : sendS c.size n ⟨a1, a2, a3, a4, a5, a6, a7, a8⟩ = ⟨a1 - n, a2, a3 + n, a4, a5, 0, a7, a8⟩ := by
            unfold sendS; rw [if_neg (fun z => of_decide_eq_false z2 z.2), if_neg (fun z => of_decide_eq_false z2 z.2)]
          refine ⟨rfl, (kp1.trans kp2).trans kp3, ?_⟩
          rw [es]; exact L3
      · have es : sendS c.size n ⟨a1, a2, a3, a4, a5, a6, a7, a8⟩ = ⟨a1 - n, a2, a3 + n, a4, a5, 0, a7, a8⟩ := by
          unfold sendS; rw [if_neg (fun z => of_decide_eq_false z1 z.1), if_neg (fun z => of_decide_eq_false z1 z.1)]
        refine ⟨_, rfl, itf rfl ⟨rfl, (kp1.trans kp2).trans kp3, ?_⟩⟩
        rw [es]; exact L3
    · rintro _ H6 ⟨rfl, kp6, L6⟩
      have hg : (sendS c.size n ⟨a1, a2, a3, a4, a5, a6, a7, a8⟩).got = a5 := rfl
      generalize hs6 : sendS c.size n ⟨a1, a2, a3, a4, a5, a6, a7, a8⟩ = s6 at *
      obtain ⟨b1, b2, b3, b4, b5, b6, b7, b8⟩ := s6
      dsimp only at hg
      subst hg
      obtain ⟨qs, hq, _⟩ := L6.bx.wal b
      walk_at "w"
      refine L6.getM u.c_Draft u.a_Draft_ways (dk_ways _ _ _ _ _) ?_
      walk_at "w"
    
      refine x_lst L6.bx.wl (Bx.w_at f b) ?_
      refine ⟨tyl hq, ?_⟩
      walk_at "w"
      refine L6.getS u.c_Side (fset_same _ _ _) u.a_Side_heard (fs_heard _ _ _ _ _ _ _ _) ?_
      walk_at "w"
    
      refine ⟨le_sz le_r, fun T hT => ?_⟩
      refine (L6.ex (Ex.new hT)).pushW upd_same (by omega) fun H8 kp8 L8 => ?_
      refine k H8 ((kp6.trans (Kp.of (Ex.new hT))).trans kp8) ⟨st, dm, dx, ?_⟩
      show DrAt K c f st dm dx H8 m.made m.stalls (fset m.side b (sendS c.size n (m.side b))) (fset m.way b (m.way b ++ [(n, (m.side b).got)]))
      rw [hs, hs6]
      exact L8

/-- a write, the count of writes left as it is -/
def dHead (w : Word) (m : Mo) : Mo := setSide m w.who { m.side w.who with rest := (m.side w.who).rest + w.len, kept := false }
def dwr (c : Cfg) (w : Word) (m : Mo) : Mo := wTail c w.who w.how (sends c w.who (nFull c w m) (dHead w m))
def mkd (k : Nat) (m : Mo) : Mo := { m with made := k }
theorem sends_mkd (c : Cfg) (b : Bool) (k : Nat) : ∀ (n : Nat) (m : Mo), sends c b n (mkd k m) = mkd k (sends c b n m)
  | 0, m => rfl
  | n + 1, m => sends_mkd c b k n (send c b c.size m)
theorem wTail_mkd (c : Cfg) (b : Bool) (h : Mode) (k : Nat) (m : Mo) : wTail c b h (mkd k m) = mkd k (wTail c b h m) := by
  show (if (m.side b).rest > 0 ∧ h = .more then setSide (mkd k m) b { m.side b with kept := true } else if (m.side b).rest > 0 ∧ (h = .push ∨ may c b (m.side b) = true) then send c b (m.side b).rest (mkd k m) else mkd k m) = mkd k (if (m.side b).rest > 0 ∧ h = .more then setSide m b { m.side b with kept := true } else if (m.side b).rest > 0 ∧ (h = .push ∨ may c b (m.side b) = true) then send c b (m.side b).rest m else m)
  split
  · rfl
  · split <;> rfl
theorem dwr_write (c : Cfg) (m : Mo) : mkd (m.made + 1) (dwr c (wd c m.made) m) = write c m := by
  unfold dwr
  rw [← wTail_mkd, ← sends_mkd]
  rfl
def spDraftWrite (K : PySem.W.Frag) : Sp := fun vs H Q _ => ∃ (f : Fr) (c : Cfg) (m : Mo) (x : Word), vs = [.ref f.M, .int (wI x.who), .int x.len, .str x.how.str] ∧ DrM K c f H m ∧ 0 < c.size ∧ 0 ≤ (m.side x.who).rest ∧ 0 < x.len ∧ (m.way x.who).length + nFull c x m < 80000 ∧
  ∀ H', Kp f.ft H H' → DrM K c f H' (dwr c x m) → Q .non H'
theorem ok_Draft_write (u : U K mg) : Ok P w K mg base 2 (He.ma K (He.ga K "Draft") "write") ["self", "endpoint", "length", "mode"] (spDraftWrite K) := by
  obtain ⟨fd_Draft_send, G_Draft_send, kp_Draft_send, b_Draft_send⟩ := (ok_Draft_send (P := P) (w := w) (base := base) u).ex
  obtain ⟨fd_Side_permits, G_Side_permits, kp_Side_permits, b_Side_permits⟩ := (ok_Side_permits (P := P) (w := w) (base := base) u).ex
  obtain ⟨fd, F⟩ := u.d_Draft_write
  refine mkOk F sc_Draft_write (fun _ _ _ _ _ _ us hl => match us, hl with | [_, _, _, _], _ => rfl) (fun vs H Q E h => ?_) (fun cdv A outer s H vs Q E hr h => ?_)
  · obtain ⟨f, c, m, x, rfl, hm, h2, h3, h4, h5, k⟩ := h
    rfl
  · obtain ⟨f, c, m, x, rfl, hm, h2, h3, h4, h5, k⟩ := h
    have hu := hu_of hr
    refine ⟨_, (pss_n (ps_set (i := 4) sc_Draft_write.nd rfl (Or.inl rfl) (pe_ix ix_list (pe_fld (pv 0) rfl) (pv 1) (fun _ _ => rfl)))
    (pss_n (ps_fldaug (pv 4) (pv 2) in_add)
    (pss_n (ps_fld (pv 4) pe_bl rfl)
    (Evl.pss_cut (ps_while PassesOwn.never (pt_cmpR op_ge (pe_fld (pv 4) rfl) (pe_fld (pe_fld (pv 0) rfl) rfl) (nomark _))
    (pss_one (ps_expr (pe_meth (pv 0) u.c_Draft u.m_Draft_send G_Draft_send (hr.mono (by decide)) b_Draft_send .nil pass0 (pa_cons (pv 1) (pa_cons (pe_fld (pe_fld (pv 0) rfl) rfl) pa_nil))))))
    (pss_n (ps_if (pt_cmpR op_eq (pe_fld (pv 4) rfl) pe_int (nomark _))
    (pss_one ps_retN)
    pss_nil)
    (pss_one (ps_if (pt_cmpR op_eq (pv 3) pe_str (nomark _))
    (pss_one (ps_fld (pv 4) pe_bl rfl))
    (pss_one (ps_if (PW.pt (pw_or (pt_cmpR op_eq (pv 3) pe_str (nomark _)) (pw_or1 (pt_val (pe_meth (pv 4) u.c_Side u.m_Side_permits G_Side_permits (hr.mono (by decide)) b_Side_permits .nil pass0 (pa_cons (pe_fld (pe_ix ix_tup (pe_fld (pe_fld (pv 0) rfl) rfl) (pv 1) (fun _ _ => rfl)) rfl) pa_nil))))))
    (pss_one (ps_expr (pe_meth (pv 0) u.c_Draft u.m_Draft_send G_Draft_send (hr.mono (by decide)) b_Draft_send .nil pass0 (pa_cons (pv 1) (pa_cons (pe_fld (pv 4) rfl) pa_nil)))))
    pss_nil))))))))), ?_⟩
    walk_at "s"
    obtain ⟨st, dm, dx, L⟩ := hm
    have eW : dwr c x m = wTail c x.who x.how (sends c x.who (nFull c x m) (dHead x m)) := rfl
    generalize hs : m.side x.who = s0 at *
    obtain ⟨a1, a2, a3, a4, a5, a6, a7, a8⟩ := s0
    have L0 := L.open_ x.who
    rw [hs] at L0
    walk_at "w"
    refine L.getM u.c_Draft u.a_Draft_sides (dk_sides _ _ _ _ _) ?_
    walk_at "w"
    
    refine x_lst L.bx.sl (Bx.s_at f x.who) ?_
    walk_at "w"
    refine L0.augS u.c_Side (fset_same _ _ _) u.a_Side_waiting (fs_waiting _ _ _ _ _ _ _ _) ?_
    walk_at "w"
    refine L0.aug2 (fset_same _ _ _) (fq_waiting _ _ _ _ _ _ _ _ _) fun H2 kp2 L2 => ?_
    rw [fset_fset] at L2
    walk_at "w"
    refine L2.putS u.c_Side (fset_same _ _ _) u.a_Side_corked (fq_corked _ _ _ _ _ _ _ _ _) fun H3 kp3 L3 => ?_
    rw [fset_fset] at L3
    walk_at "w"
    
    have kp3' := kp2.trans kp3
    have M3 : DrM K c f H3 (dHead x m) := ⟨st, dm, dx, by
      show DrAt K c f st dm dx H3 m.made m.stalls (fset m.side x.who { m.side x.who with rest := (m.side x.who).rest + x.len, kept := false }) m.way
      rw [hs]; exact L3⟩
    have hr0 : ((dHead x m).side x.who).rest = a1 + x.len := by
      show (fset m.side x.who { m.side x.who with rest := (m.side x.who).rest + x.len, kept := false } x.who).rest = _
      rw [fset_same, hs]
    have hn0 : nFull c x m = ((a1 + x.len) / c.size).toNat := by unfold nFull; rw [hs]
    dsimp only at h3
    have hdm := Int.mul_ediv_add_emod (a1 + x.len) c.size
    have hm0 := Int.emod_nonneg (a1 + x.len) (Int.ne_of_gt h2)
    have hm1 := Int.emod_lt_of_pos (a1 + x.len) h2
    have hq0 : 0 ≤ (a1 + x.len) / c.size := Int.ediv_nonneg (by omega) (by omega)
    have hn1 : ((nFull c x m : Nat) : Int) = (a1 + x.len) / c.size := by rw [hn0]; omega
    have hwy : ((dHead x m).way x.who) = m.way x.who := rfl
    generalize dHead x m = mh at *
    generalize nFull c x m = N at *
    clear L3 L2 L0
    refine ⟨fun σ' H' => σ' = [some (.ref f.M), some (.int (wI x.who)), some (.int x.len), some (.str x.how.str), some (.ref (f.s x.who))] ∧ Kp f.ft H H' ∧ DrM K c f H' (sends c x.who N mh) ∧ 0 ≤ ((sends c x.who N mh).side x.who).rest, ?_, ?_⟩
    · refine ⟨fun j σ' H' => σ' = [some (.ref f.M), some (.int (wI x.who)), some (.int x.len), some (.str x.how.str), some (.ref (f.s x.who))] ∧ Kp f.ft H H' ∧ ∃ m1, DrM K c f H' m1 ∧ sends c x.who j m1 = sends c x.who N mh ∧ (m1.side x.who).rest = c.size * (j : Nat) + (a1 + x.len) % c.size ∧ (m1.way x.who).length + j < 80000, ⟨N, rfl, kp3', mh, M3, rfl, ?_, by rw [hwy]; exact h5⟩, ?_⟩
      · rw [hr0, hn1]; exact hdm.symm
      · rintro j σ' H' ⟨rfl, kp, m1, ⟨st', dm', dx', L'⟩, e1, e2, e3⟩
        obtain ⟨d2, pt, ps, ds, S', _⟩ := L'.se
        walk_at "w"
        refine L'.getS u.c_Side rfl u.a_Side_waiting (fk_waiting _) ?_
        walk_at "w"
        refine L'.getM u.c_Draft u.a_Draft_setting (dk_setting _ _ _ _ _) ?_
        walk_at "w"
        refine ⟨_, _, _, _, _, rfl, S'.ob, u.c_Setting, u.a_Setting_size, stf_size _ _, ?_⟩
        walk_at "w"
    
        refine itb (fun z => ?_) (fun z => ?_)
        · have zz := of_decide_eq_true z
          obtain ⟨i, rfl⟩ : ∃ i, j = i + 1 := by
            cases j with
            | zero => exfalso; rw [e2] at zz; simp at zz; omega
            | succ i => exact ⟨i, rfl⟩
          refine ⟨_, fun σ' H' h => ⟨i, Nat.lt_succ_self i, h⟩, ?_⟩
          walk_at "w"
          refine ⟨_, _, _, rfl, L'.bx.mo, dn_send _ _ _ _ _, ?_⟩
          walk_at "w"
          refine L'.getM u.c_Draft u.a_Draft_setting (dk_setting _ _ _ _ _) ?_
          walk_at "w"
          refine ⟨_, _, _, _, _, rfl, S'.ob, u.c_Setting, u.a_Setting_size, stf_size _ _, ?_⟩
          walk_at "w"
    
          refine ⟨f, c, m1, x.who, c.size, rfl, ⟨st', dm', dx', L'⟩, by omega, fun H2 kp2 L2 => ?_⟩
          refine ⟨rfl, kp.trans kp2, send c x.who c.size m1, L2, e1, ?_, ?_⟩
          · rw [send_side]
            show (m1.side x.who).rest - c.size = _
            rw [e2, Int.natCast_add, Int.mul_add]
            show c.size * (i : Nat) + c.size * 1 + _ - _ = _
            omega
          · rw [send_way, List.length_append, List.length_singleton]; omega
        · have zz := of_decide_eq_false z
          have j0 : j = 0 := by
            cases j with
            | zero => rfl
            | succ i =>
              exfalso; apply zz
              rw [e2, Int.natCast_add, Int.mul_add]
              have : 0 ≤ c.size * (i : Nat) := Int.mul_nonneg (by omega) (by omega)
              show c.size ≤ c.size * (i : Nat) + c.size * 1 + _
              omega
          subst j0
          refine ⟨rfl, kp, ?_, ?_⟩
          · rw [← e1]; exact ⟨st', dm', dx', L'⟩
          · rw [← e1]; show 0 ≤ (m1.side x.who).rest; rw [e2]; simp; exact hm0
    · rintro _ H' ⟨rfl, kp, M, hrs⟩
      have hwl : ((sends c x.who N mh).way x.who).length < 90000 := by rw [sends_way_len, hwy]; omega
      generalize sends c x.who N mh = m2 at *
      obtain ⟨st', dm', dx', L'⟩ := id M
      obtain ⟨d2, pt, ps, ds, S', _⟩ := L'.se
      have nosend : dwr c x m = m2 → ∀ v, v = V.non → Q v H' := fun e v hv => by subst hv; exact k H' kp (by rw [e]; exact M)
      have hwt : dwr c x m = if (m2.side x.who).rest > 0 ∧ x.how = .more then setSide m2 x.who { m2.side x.who with kept := true } else if (m2.side x.who).rest > 0 ∧ (x.how = .push ∨ may c x.who (m2.side x.who) = true) then send c x.who (m2.side x.who).rest m2 else m2 := eW
      clear eW hn0
      walk_at "w"
      refine L'.getS u.c_Side rfl u.a_Side_waiting (fk_waiting _) ?_
      walk_at "w"
    
      rw [show decide (V.int (m2.side x.who).rest = V.int 0) = decide ((m2.side x.who).rest = 0) from dec_int _ _]
      refine itb (fun z1 => ?_) (fun z1 => ?_)
      · have z1' := of_decide_eq_true z1
        rw [if_neg (fun z => by omega), if_neg (fun z => by omega)] at hwt
        exact nosend hwt _ rfl
      · have z1' : (m2.side x.who).rest > 0 := by have := of_decide_eq_false z1; omega
        walk_at "w"
        rw [mode_more]
        refine itb (fun z2 => ?_) (fun z2 => ?_)
        · have z2' := of_decide_eq_true z2
          rw [if_pos ⟨z1', z2'⟩] at hwt
          walk_at "w"
          refine L'.putS u.c_Side rfl u.a_Side_corked (fp_corked _ true) fun H9 kp9 L9 => ?_
          exact k H9 (kp.trans kp9) (by rw [hwt]; exact ⟨st', dm', dx', L9⟩)
        · have z2' := of_decide_eq_false z2
          rw [if_neg (fun z => z2' z.2)] at hwt
          walk_at "w"
          rw [mode_push]
          refine itb (fun z3 => ?_) (fun z3 => ?_)
          · rw [if_pos ⟨z1', Or.inl (of_decide_eq_true z3)⟩] at hwt
            walk_at "w"
            refine ⟨_, _, _, rfl, L'.bx.mo, dn_send _ _ _ _ _, ?_⟩
            walk_at "w"
            refine L'.getS u.c_Side rfl u.a_Side_waiting (fk_waiting _) ?_
            walk_at "w"
            refine ⟨f, c, m2, x.who, (m2.side x.who).rest, rfl, M, by omega, fun H9 kp9 L9 => ?_⟩
            exact k H9 (kp.trans kp9) (by rw [hwt]; exact L9)
    
          · walk_at "w"
            refine ⟨_, _, _, rfl, L'.bx.si (x.who), sn_permits _, ?_⟩
            walk_at "w"
            refine L'.getM u.c_Draft u.a_Draft_setting (dk_setting _ _ _ _ _) ?_
            walk_at "w"
    
            refine ⟨_, _, _, _, _, rfl, S'.ob, u.c_Setting, u.a_Setting_policies, stf_policies _ _, ?_⟩
            refine ⟨_, rfl, _, _, _, _, rfl, rfl, SqT.of S'.tu, S'.at_ x.who, ?_⟩
            refine ⟨_, _, _, _, _, rfl, S'.pol x.who, u.c_Policy, u.a_Policy_hold, pf_hold _, ?_⟩
            refine ⟨f.s x.who, _, _, (c.rule x.who).hold, rfl, L'.bx.si _, ?_⟩
            rw [← may_H]
            refine ⟨_, rfl, itb (fun z4 => ?_) (fun z4 => ?_)⟩
            · rw [if_pos ⟨z1', Or.inr z4⟩] at hwt
              walk_at "w"
              refine ⟨_, _, _, rfl, L'.bx.mo, dn_send _ _ _ _ _, ?_⟩
              walk_at "w"
              refine L'.getS u.c_Side rfl u.a_Side_waiting (fk_waiting _) ?_
              walk_at "w"
              refine ⟨f, c, m2, x.who, (m2.side x.who).rest, rfl, M, by omega, fun H9 kp9 L9 => ?_⟩
              exact k H9 (kp.trans kp9) (by rw [hwt]; exact L9)
    
            · rw [if_neg (fun z => by rcases z.2 with z | z; exact of_decide_eq_false z3 z; rw [z] at z4; cases z4)] at hwt
              exact nosend hwt _ rfl
end
end Lw
namespace Lw
open PySem PySem.Spec PyProof.Rows L2
section
variable {P : Program} {w : World} {K : PySem.W.Frag} {mg : Str → Option Value} {base : Heap}
local macro_rules | `(tactic| walk_at "h") => `(tactic| first | assumption | exact upd_same | (refine xn (by assumption) ?_; walk_at "h") | (refine exapp (by assumption) ?_; walk_at "h"))
local macro_rules | `(tactic| walk_at "e") => `(tactic| first | exact Same.refl _ | assumption | (refine Same.trans ?_ (Ex.new (by assumption)); walk_at "e") | (refine Same.trans ?_ (by assumption); walk_at "e"))
local macro_rules | `(tactic| walk_at "w") => `(tactic| repeat (first | refine ⟨_, rfl, ?_⟩ | refine ⟨_, _, rfl, rfl, ?_⟩ | refine ⟨_, _, _, _, rfl, rfl, SqT.of (by walk_at "h"), (by rfl), ?_⟩ | (refine fun σ2 (hσ : σ2 = _) => ?_; (try simp only [List.set_cons_succ, List.set_cons_zero] at hσ); subst hσ) | refine ⟨_, _, rfl, SqT.of (by walk_at "h"), (by rfl), ?_⟩ | refine ⟨rfl, ?_⟩ | refine ⟨_, _, rfl, ?_⟩))
local macro_rules | `(tactic| walk_at "s") => `(tactic| (intro σ hσ; simp only [start_eq, List.map_cons, List.map_nil, List.length_cons, List.length_nil, List.cons_append, List.nil_append, Nat.reduceAdd, Nat.reduceSub, List.replicate_succ, List.replicate_zero] at hσ; subst hσ))

def spDraftFire (K : PySem.W.Frag) : Sp := fun vs H Q _ => ∃ (f : Fr) (c : Cfg) (m : Mo), vs = [.ref f.M, .int (wI (wd c (m.made - 1)).who)] ∧ DrM K c f H m ∧ (∀ b, (m.way b).length < 80000) ∧
  ∀ H', Kp f.ft H H' → DrM K c f H' (fire c m) → Q .non H'
theorem ok_Draft_fire (u : U K mg) : Ok P w K mg base 2 (He.ma K (He.ga K "Draft") "fire") ["self", "speaker"] (spDraftFire K) := by
  obtain ⟨fd_Draft_send, G_Draft_send, kp_Draft_send, b_Draft_send⟩ := (ok_Draft_send (P := P) (w := w) (base := base) u).ex
  obtain ⟨fd, F⟩ := u.d_Draft_fire
  refine mkOk F sc_Draft_fire (fun _ _ _ _ _ _ us hl => match us, hl with | [_, _], _ => rfl) (fun vs H Q E h => ?_) (fun cdv A outer s H vs Q E hr h => ?_)
  · obtain ⟨f, c, m, rfl, hm, h3, k⟩ := h
    rfl
  · obtain ⟨f, c, m, rfl, hm, h3, k⟩ := h
    have hu := hu_of hr
    refine ⟨_, (pss_n (ps_fldaug (pv 0) pe_int in_add)
    (pss_one (ps_if (pt_val (pe_fld (pe_ix ix_list (pe_fld (pv 0) rfl) (pv 1) (fun _ _ => rfl)) rfl))
    (pss_one (ps_expr (pe_meth (pv 0) u.c_Draft u.m_Draft_send G_Draft_send (hr.mono (by decide)) b_Draft_send .nil pass0 (pa_cons (pv 1) (pa_cons (pe_fld (pe_ix ix_list (pe_fld (pv 0) rfl) (pv 1) (fun _ _ => rfl)) rfl) pa_nil)))))
    (pss_one (ps_expr (pe_meth (pv 0) u.c_Draft u.m_Draft_send G_Draft_send (hr.mono (by decide)) b_Draft_send .nil pass0 (pa_cons (pe_op op_sub pe_int (pv 1)) (pa_cons pe_int pa_nil)))))))), ?_⟩
    walk_at "s"
    obtain ⟨st, dm, dx, L⟩ := hm
    have eF : fire c m = if (m.side (wd c (m.made - 1)).who).kept = true then send c (wd c (m.made - 1)).who (m.side (wd c (m.made - 1)).who).rest { m with stalls := m.stalls + 1 } else send c (!(wd c (m.made - 1)).who) 0 { m with stalls := m.stalls + 1 } := rfl
    generalize (wd c (m.made - 1)).who = b at *
    walk_at "w"
    refine L.augM u.c_Draft u.a_Draft_stalls (dk_stalls _ _ _ _ _) ?_
    walk_at "w"
    refine L.augM2 (dp_stalls st f.SL f.WL m.made m.stalls (m.stalls + 1)) fun H1 kp1 L1 => ?_
    walk_at "w"
    refine L1.getM u.c_Draft u.a_Draft_sides (dk_sides _ _ _ _ _) ?_
    walk_at "w"
    
    refine x_lst L1.bx.sl (Bx.s_at f b) ?_
    refine L1.getS u.c_Side rfl u.a_Side_corked (fk_corked _) ?_
    walk_at "w"
    
    refine itb (fun z => ?_) (fun z => ?_)
    · rw [if_pos z] at eF
      walk_at "w"
      refine ⟨_, _, _, rfl, L1.bx.mo, dn_send _ _ _ _ _, ?_⟩
      walk_at "w"
      refine L1.getM u.c_Draft u.a_Draft_sides (dk_sides _ _ _ _ _) ?_
      walk_at "w"
    
      refine x_lst L1.bx.sl (Bx.s_at f b) ?_
      refine L1.getS u.c_Side rfl u.a_Side_waiting (fk_waiting _) ?_
      walk_at "w"
    
      refine ⟨f, c, { m with stalls := m.stalls + 1 }, b, _, rfl, ⟨st, dm, dx, L1⟩, ?_, fun H2 kp2 L2 => ?_⟩
      · have := h3 b
        show (m.way b).length < 90000
        omega
      · exact k H2 (kp1.trans kp2) (by rw [eF]; exact L2)
    · rw [z] at eF
      walk_at "w"
      refine ⟨_, _, _, rfl, L1.bx.mo, dn_send _ _ _ _ _, ?_⟩
      walk_at "w"
    
      refine ⟨f, c, { m with stalls := m.stalls + 1 }, !b, 0, (by rw [← wI_not]; rfl), ⟨st, dm, dx, L1⟩, ?_, fun H2 kp2 L2 => ?_⟩
      · have := h3 (!b)
        show (m.way (!b)).length < 90000
        omega
      · exact k H2 (kp1.trans kp2) (by rw [eF]; exact L2)

def spDraftArrive (K : PySem.W.Frag) : Sp := fun vs H Q _ => ∃ (f : Fr) (c : Cfg) (m : Mo) (a : Bool), vs = [.ref f.M, .int (wI a)] ∧ DrM K c f H m ∧ m.way a ≠ [] ∧ (∀ x ∈ m.way a, 0 ≤ x.1) ∧ (∀ b, (m.way b).length < 80000) ∧
  ∀ v H', v = V.non → Kp f.ft H H' → DrM K c f H' (arrive c a m) → Q v H'
theorem ok_Draft_arrive (u : U K mg) : Ok P w K mg base 2 (He.ma K (He.ga K "Draft") "arrive") ["self", "sender"] (spDraftArrive K) := by
  obtain ⟨fd_Side_permits, G_Side_permits, kp_Side_permits, b_Side_permits⟩ := (ok_Side_permits (P := P) (w := w) (base := base) u).ex
  obtain ⟨fd_Draft_send, G_Draft_send, kp_Draft_send, b_Draft_send⟩ := (ok_Draft_send (P := P) (w := w) (base := base) u).ex
  obtain ⟨fd, F⟩ := u.d_Draft_arrive
  refine mkOk F sc_Draft_arrive (fun _ _ _ _ _ _ us hl => match us, hl with | [_, _], _ => rfl) (fun vs H Q E h => ?_) (fun cdv A outer s H vs Q E hr h => ?_)
  · obtain ⟨f, c, m, a, rfl, hm, h1, h0, h2, k⟩ := h
    rfl
  · obtain ⟨f, c, m, a, rfl, hm, h1, h0, h2, k⟩ := h
    have hu := hu_of hr
    refine ⟨_, (pss_n (ps_asg (pe_bm PySem.F.plainAttrs_list PySem.F.slot_list_pop PySem.F.type_list_pop mt_popAt (pe_ix ix_list (pe_fld (pv 0) rfl) (pv 1) (fun _ _ => rfl)) (pa_cons pe_int pa_nil)) (pg_tup rfl (pgs_cons (pg_name (i := 2) sc_Draft_arrive.nd rfl (Or.inl rfl)) (pgs_cons (pg_name (i := 3) sc_Draft_arrive.nd rfl (Or.inl rfl)) pgs_nil))))
    (pss_n (ps_set (i := 4) sc_Draft_arrive.nd rfl (Or.inl rfl) (pe_op op_sub pe_int (pv 1)))
    (pss_n (ps_par (i := 5) (j := 6) rfl sc_Draft_arrive.nd rfl rfl (by decide) rfl rfl (pa_cons (pe_ix ix_list (pe_fld (pv 0) rfl) (pv 4) (fun _ _ => rfl)) (pa_cons (pe_ix ix_tup (pe_fld (pe_fld (pv 0) rfl) rfl) (pv 4) (fun _ _ => rfl)) pa_nil)) (by rfl))
    (pss_n (ps_fld (pv 5) (pe_callB (call_max2 rfl) (by rfl) u.n_max boot_max (pa_cons (pe_fld (pv 5) rfl) (pa_cons (pv 3) pa_nil))) rfl)
    (Evl.pss_cut (ps_if (PW.pt (pw_and (pt_cmpR op_gt (pe_fld (pv 5) rfl) pe_int (nomark _)) (pw_and (pt_not (pt_val (pe_fld (pv 5) rfl))) (pw_and1 (pt_val (pe_meth (pv 5) u.c_Side u.m_Side_permits G_Side_permits (hr.mono (by decide)) b_Side_permits .nil pass0 (pa_cons (pe_fld (pv 6) rfl) pa_nil)))))))
    (pss_one (ps_expr (pe_meth (pv 0) u.c_Draft u.m_Draft_send G_Draft_send (hr.mono (by decide)) b_Draft_send .nil pass0 (pa_cons (pv 4) (pa_cons (pe_fld (pv 5) rfl) pa_nil)))))
    pss_nil)
    (pss_n (ps_if (pt_cmpR op_eq (pv 2) pe_int (nomark _))
    (pss_one ps_retN)
    pss_nil)
    (pss_n (ps_fldaug (pv 5) (pv 2) in_add)
    (pss_n (ps_fldaug (pv 5) pe_int in_add)
    (pss_n (ps_set (i := 7) sc_Draft_arrive.nd rfl (Or.inl rfl) (pe_cmpR op_eq (pv 2) (pe_fld (pe_fld (pv 0) rfl) rfl) (nomark _)))
    (pss_n (ps_fldaug (pv 5) (pe_callTy call_int1 (by rfl) u.n_int PyProof.Rows.boot_int (pa_cons (pv 7) pa_nil)) in_add)
    (pss_one (ps_if (PW.pt (pw_or (pt_cmpR op_le (pe_fld (pv 5) rfl) (pe_fld (pv 6) rfl) (nomark _)) (pw_or1 (PW.pt (pw_and (pt_val (pv 7)) (pw_and1 (pt_cmpR op_eq (pe_fld (pv 5) rfl) (pe_fld (pv 6) rfl) (nomark _))))))))
    (pss_one (ps_expr (pe_meth (pv 0) u.c_Draft u.m_Draft_send G_Draft_send (hr.mono (by decide)) b_Draft_send .nil pass0 (pa_cons (pv 4) (pa_cons pe_int pa_nil)))))
    pss_nil)))))))))))), ?_⟩
    walk_at "s"
    obtain ⟨st, dm, dx, L⟩ := hm
    obtain ⟨x0, rest, hw⟩ : ∃ x0 rest, m.way a = x0 :: rest := by
      cases e : m.way a with
      | nil => exact absurd e h1
      | cons x l => exact ⟨x, l, rfl⟩
    obtain ⟨n, v⟩ := x0
    have hn0 : 0 ≤ n := h0 (n, v) (by rw [hw]; simp)
    obtain ⟨ps, hps, hpr, hpl⟩ := L.bx.wal a
    rw [hw] at hpr
    obtain ⟨p, qs, rfl⟩ : ∃ p qs, ps = p :: qs := by
      cases ps with
      | nil => cases hpr.len
      | cons p qs => exact ⟨p, qs, rfl⟩
    obtain ⟨hp, hqr⟩ := hpr.tail
    walk_at "w"
    refine L.getM u.c_Draft u.a_Draft_ways (dk_ways _ _ _ _ _) ?_
    walk_at "w"
    
    refine x_lst L.bx.wl (Bx.w_at f a) ?_
    refine ⟨tyl hps, ?_⟩
    refine ac1 ?_
    refine L.popW hps hqr hp fun H1 kp1 L1 hp1 => ?_
    walk_at "w"
    rw [wI_not]
    obtain ⟨d2, pt, pol, pds, S, hst1, hst2, hst3⟩ := L.se
    have S1 := S.kp kp1 hst1 hst2 hst3
    have polAt : ∀ H', Kp f.ft H H' → H' (pol (!a)) = some (.ins (He.ga K "Policy") (pds (!a)) (polF (c.rule (!a)))) := fun H' kp => kp _ _ (S.pol _) (hst3 _)
    refine L1.getM u.c_Draft u.a_Draft_sides (dk_sides _ _ _ _ _) ?_
    walk_at "w"
    
    refine x_lst L1.bx.sl (Bx.s_at f (!a)) ?_
    walk_at "w"
    refine L1.getM u.c_Draft u.a_Draft_setting (dk_setting _ _ _ _ _) ?_
    walk_at "w"
    
    refine ⟨_, _, _, _, _, rfl, S1.ob, u.c_Setting, u.a_Setting_policies, stf_policies _ _, ?_⟩
    refine ⟨_, rfl, _, _, _, _, rfl, rfl, SqT.of S1.tu, S1.at_ (!a), ?_⟩
    walk_at "w"
    refine L1.getS u.c_Side rfl u.a_Side_covered (fk_covered _) ?_
    walk_at "w"
    
    rw [max_if]
    refine L1.putS u.c_Side rfl u.a_Side_covered (fp_covered _ _) fun H2 kp2 L2 => ?_
    have eA : arrive c a m = if n > 0 then arrGot c (!a) n (arrAck c (!a) v { m with way := fset m.way a rest }) else arrAck c (!a) v { m with way := fset m.way a rest } := by
      unfold arrive; rw [hw]
    have eK : arrAck c (!a) v { m with way := fset m.way a rest } = if ((setSide { m with way := fset m.way a rest } (!a) { m.side (!a) with told := max (m.side (!a)).told v }).side (!a)).rest > 0 ∧ ((setSide { m with way := fset m.way a rest } (!a) { m.side (!a) with told := max (m.side (!a)).told v }).side (!a)).kept = false ∧ may c (!a) ((setSide { m with way := fset m.way a rest } (!a) { m.side (!a) with told := max (m.side (!a)).told v }).side (!a)) = true then send c (!a) ((setSide { m with way := fset m.way a rest } (!a) { m.side (!a) with told := max (m.side (!a)).told v }).side (!a)).rest (setSide { m with way := fset m.way a rest } (!a) { m.side (!a) with told := max (m.side (!a)).told v }) else setSide { m with way := fset m.way a rest } (!a) { m.side (!a) with told := max (m.side (!a)).told v } := rfl
    have M2 : DrM K c f H2 (setSide { m with way := fset m.way a rest } (!a) { m.side (!a) with told := max (m.side (!a)).told v }) := ⟨st, dm, dx, L2⟩
    have hwl : (({ m with way := fset m.way a rest } : Mo).way (!a)).length < 80000 := by
      show (fset m.way a rest (!a)).length < 80000
      rw [fset_not]; exact h2 _
    have hwl1 : ((setSide { m with way := fset m.way a rest } (!a) { m.side (!a) with told := max (m.side (!a)).told v }).way (!a)).length < 80000 := hwl
    have hwl2 := len_arrAck c (!a) v { m with way := fset m.way a rest }
    have kp12 := kp1.trans kp2
    generalize setSide { m with way := fset m.way a rest } (!a) { m.side (!a) with told := max (m.side (!a)).told v } = m1 at *
    generalize arrAck c (!a) v { m with way := fset m.way a rest } = m3 at *
    clear L1 hp1 kp1 kp2 hps hpr hpl hqr hp L2 S1
    walk_at "w"
    refine ⟨fun σ' H' => σ' = [some (.ref f.M), some (.int (wI a)), some (.int n), some (.int v), some (.int (wI !a)), some (.ref (f.s !a)), some (.ref (pol !a)), none] ∧ Kp f.ft H H' ∧ DrM K c f H' m3, ?_, ?_⟩
    · obtain ⟨st', dm', dx', L'⟩ := id M2
      walk_at "w"
      refine L'.getS u.c_Side rfl u.a_Side_waiting (fk_waiting _) ?_
      walk_at "w"
    
      refine itb (fun z1 => ?_) (fun z1 => ?_)
      · walk_at "w"
        refine L'.getS u.c_Side rfl u.a_Side_corked (fk_corked _) ?_
        walk_at "w"
    
        refine itb (fun z2 => ?_) (fun z2 => ?_)
        · walk_at "w"
          refine ⟨_, _, _, rfl, L'.bx.si (!a), sn_permits _, ?_⟩
          walk_at "w"
    
          refine ⟨_, _, _, _, _, rfl, polAt _ kp12, u.c_Policy, u.a_Policy_hold, pf_hold _, ?_⟩
          refine ⟨f.s (!a), _, _, (c.rule (!a)).hold, rfl, L'.bx.si _, ?_⟩
          rw [← may_H]
          refine ⟨_, rfl, itb (fun z3 => ?_) (fun z3 => ?_)⟩
          · rw [if_pos ⟨of_decide_eq_true z1, (by cases e : (m1.side !a).kept with | false => rfl | true => rw [e] at z2; cases z2), z3⟩] at eK
            walk_at "w"
            refine ⟨_, _, _, rfl, L'.bx.mo, dn_send _ _ _ _ _, ?_⟩
            walk_at "w"
            refine L'.getS u.c_Side rfl u.a_Side_waiting (fk_waiting _) ?_
            walk_at "w"
    
            refine ⟨f, c, m1, !a, _, rfl, M2, by omega, fun H9 kp9 L9 => ?_⟩
            exact ⟨rfl, kp12.trans kp9, by rw [eK]; exact L9⟩
          · rw [if_neg (fun z => by rw [z.2.2] at z3; cases z3)] at eK
            exact ⟨rfl, kp12, by rw [eK]; exact M2⟩
        · rw [if_neg (fun z => by rw [z.2.1] at z2; cases z2)] at eK
          exact itf rfl ⟨rfl, kp12, by rw [eK]; exact M2⟩
      · rw [if_neg (fun z => of_decide_eq_false z1 z.1)] at eK
        refine itf rfl ⟨rfl, kp12, ?_⟩
        rw [eK]; exact M2
    · rintro _ H' ⟨rfl, kp, M⟩
      obtain ⟨st', dm', dx', L'⟩ := id M
      walk_at "w"
      rw [show decide (V.int n = V.int 0) = decide (n = 0) from dec_int _ _]
      refine itb (fun z1 => ?_) (fun z1 => ?_)
      · have z1' := of_decide_eq_true z1
        rw [if_neg (by omega)] at eA
        exact k _ H' rfl kp (by rw [eA]; exact M)
      · have z1' := of_decide_eq_false z1
        rw [if_pos (by omega)] at eA
        walk_at "w"
        generalize hs : m3.side (!a) = s3 at *
        obtain ⟨a1, a2, a3, a4, a5, a6, a7, a8⟩ := s3
        have L0 := L'.open_ (!a)
        rw [hs] at L0
        have eG : arrGot c (!a) n m3 = if a7 + 1 ≤ (c.rule (!a)).quick ∨ (n = c.size ∧ (a6 + if n = c.size then 1 else 0) = (c.rule (!a)).every) then send c (!a) 0 (setSide m3 (!a) ⟨a1, a2, a3, a4, a5 + n, a6 + if n = c.size then 1 else 0, a7 + 1, a8⟩) else setSide m3 (!a) ⟨a1, a2, a3, a4, a5 + n, a6 + if n = c.size then 1 else 0, a7 + 1, a8⟩ := by
          unfold arrGot; rw [hs]
        rw [eG] at eA
        refine L0.augS u.c_Side (fset_same _ _ _) u.a_Side_heard (fs_heard _ _ _ _ _ _ _ _) ?_
        walk_at "w"
        refine L0.aug2 (fset_same _ _ _) (fq_heard _ _ _ _ _ _ _ _ _) fun H3 kp3 L3 => ?_
        rw [fset_fset] at L3
        walk_at "w"
        refine L3.augS u.c_Side (fset_same _ _ _) u.a_Side_arrived (fs_arrived _ _ _ _ _ _ _ _) ?_
        walk_at "w"
        refine L3.aug2 (fset_same _ _ _) (fq_arrived _ _ _ _ _ _ _ _ _) fun H4 kp4 L4 => ?_
        rw [fset_fset] at L4
        walk_at "w"
    
        obtain ⟨d24, pt4, pol4, pds4, S4, _⟩ := L4.se
        refine L4.getM u.c_Draft u.a_Draft_setting (dk_setting _ _ _ _ _) ?_
        walk_at "w"
        refine ⟨_, _, _, _, _, rfl, S4.ob, u.c_Setting, u.a_Setting_size, stf_size _ _, ?_⟩
        walk_at "w"
    
        refine L4.augS u.c_Side (fset_same _ _ _) u.a_Side_fulls (fs_fulls _ _ _ _ _ _ _ _) ?_
        walk_at "w"
        apply Or.inr
        refine ⟨_, rfl, ?_⟩
        rw [if_dec_int]
        walk_at "w"
        refine L4.aug2 (fset_same _ _ _) (fq_fulls _ _ _ _ _ _ _ _ _) fun H5 kp5 L5 => ?_
        rw [fset_fset] at L5
        walk_at "w"
        have M5 : DrM K c f H5 (setSide m3 (!a) ⟨a1, a2, a3, a4, a5 + n, a6 + if n = c.size then 1 else 0, a7 + 1, a8⟩) := ⟨st', dm', dx', L5⟩
        have kp5' := ((kp.trans kp3).trans kp4).trans kp5
        have hpo := polAt _ kp5'
        have nosend : arrive c a m = setSide m3 (!a) ⟨a1, a2, a3, a4, a5 + n, a6 + if n = c.size then 1 else 0, a7 + 1, a8⟩ → Q .non H5 := fun e => k _ H5 rfl kp5' (by rw [e]; exact M5)
        have hwl5 : ((setSide m3 (!a) ⟨a1, a2, a3, a4, a5 + n, a6 + if n = c.size then 1 else 0, a7 + 1, a8⟩).way (!a)).length < 90000 := by
          show (m3.way (!a)).length < 90000
          omega
        refine L5.getS u.c_Side (fset_same _ _ _) u.a_Side_arrived (fs_arrived _ _ _ _ _ _ _ _) ?_
        walk_at "w"
    
        refine ⟨_, _, _, _, _, rfl, hpo, u.c_Policy, u.a_Policy_quick, pf_quick _, ?_⟩
        walk_at "w"
        refine itb (fun z2 => ?_) (fun z2 => ?_)
        · rw [if_pos (Or.inl (of_decide_eq_true z2))] at eA
          walk_at "w"
          refine ⟨_, _, _, rfl, L5.bx.mo, dn_send _ _ _ _ _, ?_⟩
          walk_at "w"
    
          refine ⟨f, c, _, !a, 0, rfl, M5, hwl5, fun H9 kp9 L9 => ?_⟩
          exact k _ H9 rfl (kp5'.trans kp9) (by rw [eA]; exact L9)
        · walk_at "w"
          rw [dec_int]
          refine itb (fun z3 => ?_) (fun z3 => ?_)
          · walk_at "w"
            refine L5.getS u.c_Side (fset_same _ _ _) u.a_Side_fulls (fs_fulls _ _ _ _ _ _ _ _) ?_
            walk_at "w"
    
            refine ⟨_, _, _, _, _, rfl, hpo, u.c_Policy, u.a_Policy_every, pf_every _, ?_⟩
            walk_at "w"
            rw [dec_int]
            refine itb (fun z4 => ?_) (fun z4 => ?_)
            · rw [if_pos (Or.inr ⟨of_decide_eq_true z3, of_decide_eq_true z4⟩)] at eA
              walk_at "w"
              refine ⟨_, _, _, rfl, L5.bx.mo, dn_send _ _ _ _ _, ?_⟩
              walk_at "w"
    
              refine ⟨f, c, _, !a, 0, rfl, M5, hwl5, fun H9 kp9 L9 => ?_⟩
              exact k _ H9 rfl (kp5'.trans kp9) (by rw [eA]; exact L9)
            · rw [if_neg (fun z => by rcases z with z | z; exact of_decide_eq_false z2 z; exact of_decide_eq_false z4 z.2)] at eA
              exact nosend eA
          · rw [if_neg (fun z => by rcases z with z | z; exact of_decide_eq_false z2 z; exact of_decide_eq_false z3 z.1)] at eA
            exact itf rfl (nosend eA)
end
end Lw
namespace Lw
open PySem PySem.Spec PyProof.Rows L2
section
variable {P : Program} {w : World} {K : PySem.W.Frag} {mg : Str → Option Value} {base : Heap}
local macro_rules | `(tactic| walk_at "h") => `(tactic| first | assumption | exact upd_same | (refine xn (by assumption) ?_; walk_at "h") | (refine exapp (by assumption) ?_; walk_at "h"))
local macro_rules | `(tactic| walk_at "e") => `(tactic| first | exact Same.refl _ | assumption | (refine Same.trans ?_ (Ex.new (by assumption)); walk_at "e") | (refine Same.trans ?_ (by assumption); walk_at "e"))
local macro_rules | `(tactic| walk_at "w") => `(tactic| repeat (first | refine ⟨_, rfl, ?_⟩ | refine ⟨_, _, rfl, rfl, ?_⟩ | refine ⟨_, _, _, _, rfl, rfl, SqT.of (by walk_at "h"), (by rfl), ?_⟩ | (refine fun σ2 (hσ : σ2 = _) => ?_; (try simp only [List.set_cons_succ, List.set_cons_zero] at hσ); subst hσ) | refine ⟨_, _, rfl, SqT.of (by walk_at "h"), (by rfl), ?_⟩ | refine ⟨rfl, ?_⟩ | refine ⟨_, _, rfl, ?_⟩))
local macro_rules | `(tactic| walk_at "s") => `(tactic| (intro σ hσ; simp only [start_eq, List.map_cons, List.map_nil, List.length_cons, List.length_nil, List.cons_append, List.nil_append, Nat.reduceAdd, Nat.reduceSub, List.replicate_succ, List.replicate_zero] at hσ; subst hσ))

theorem two_split {i : Nat} {b : Bool} (h : [false, true][i]? = some b) : (i = 0 ∧ b = false) ∨ (i = 1 ∧ b = true) := by
  match i, h with
  | 0, h => cases h; exact Or.inl ⟨rfl, rfl⟩
  | 1, h => cases h; exact Or.inr ⟨rfl, rfl⟩
/-- what a maker of two new objects has made behind i steps: they stand at g, in the list at D -/
structure Two (H0 H : Hp) (D : Addr) (P : Hp → Bool → Addr → Prop) (i : Nat) : Prop where
  e : Ex H0 H
  g : ∃ g : Bool → Addr, H D = some (.lst (([false, true].map fun b => V.ref (g b)).take i)) ∧ (0 < i → P H false (g false) ∧ H0 (g false) = none ∧ g false ≠ D) ∧ (1 < i → P H true (g true) ∧ H0 (g true) = none ∧ g true ≠ D ∧ g false ≠ g true)
theorem Two.zero {H0 : Hp} {D : Addr} {P : Hp → Bool → Addr → Prop} (h : H0 D = none) : Two H0 (upd H0 D (.lst [])) D P 0 := ⟨Ex.new h, fun _ => 0, upd_same, fun z => absurd z (by decide), fun z => absurd z (by decide)⟩
theorem Two.next {H0 H H4 : Hp} {D x : Addr} {P : Hp → Bool → Addr → Prop} {i : Nat} {b : Bool} (t : Two H0 H D P i) (hb : [false, true][i]? = some b) (hD : H0 D = none) (e4 : Ex H H4) (hx : H x = none) (hP : P H4 b x)
    (mono : ∀ (H H' : Hp) b a, Ex H H' → P H b a → P H' b a) (off : ∀ (H : Hp) b a o, a ≠ D → P H b a → (∃ ys, H D = some (.lst ys)) → P (upd H D o) b a) (live : ∀ (H : Hp) b a, P H b a → ∃ o, H a = some o) :
    ∃ acc, H4 D = some (.lst acc) ∧ acc.length < sizeLine ∧ Two H0 (upd H4 D (.lst (acc ++ [V.ref x]))) D P (i + 1) := by
  obtain ⟨e, g, hl, h0, h1⟩ := t
  have hD4 := e4 _ _ hl
  have hxD : x ≠ D := (ne_of_none hl hx).symm
  have hxn : H0 x = none := exnone e hx
  refine ⟨_, hD4, take_lt lt_r, ⟨exmut (e.trans e4) hD, fset g b x, ?_, ?_, ?_⟩⟩
  · rcases two_split hb with ⟨rfl, rfl⟩ | ⟨rfl, rfl⟩
    · rw [upd_same]; rfl
    · rw [upd_same]; rfl
  · intro _
    rcases two_split hb with ⟨rfl, rfl⟩ | ⟨rfl, rfl⟩
    · exact ⟨off _ _ _ _ hxD hP ⟨_, hD4⟩, hxn, hxD⟩
    · obtain ⟨a1, a2, a3⟩ := h0 (by decide)
      exact ⟨off _ _ _ _ a3 (mono _ _ _ _ e4 a1) ⟨_, hD4⟩, a2, a3⟩
  · intro hi
    rcases two_split hb with ⟨rfl, rfl⟩ | ⟨rfl, rfl⟩
    · exact absurd hi (by decide)
    · obtain ⟨a1, a2, a3⟩ := h0 (by decide)
      refine ⟨off _ _ _ _ hxD hP ⟨_, hD4⟩, hxn, hxD, ?_⟩
      intro z
      have z' : g false = x := z
      obtain ⟨o, ho⟩ := live _ _ _ a1
      rw [z', hx] at ho; cases ho
def spDraftInit (K : PySem.W.Frag) : Sp := fun vs H Q _ => ∃ (x dm st sc : Addr) (c : Cfg) (m : Mo), vs = [.ref x, .ref st, .ref sc] ∧ H x = some (.ins (He.ga K "Draft") dm []) ∧ IsSet K c H st ∧ ScAt H sc m ∧
  ∀ f H', f.M = x → Kp [x] H H' → (∀ a ∈ f.ft, a ≠ x → H a = none) → DrM K c f H' m → Q .non H'
theorem ok_Draft__init (u : U K mg) : Ok P w K mg base 3 (He.ma K (He.ga K "Draft") "__init__") ["self", "setting", "scene"] (spDraftInit K) := by
  obtain ⟨fd_Side__init, G_Side__init, kp_Side__init, b_Side__init⟩ := (ok_Side__init (P := P) (w := w) (base := base) u).ex
  obtain ⟨fd, F⟩ := u.d_Draft__init
  refine mkOk F sc_Draft__init (fun _ _ _ _ _ _ us hl => match us, hl with | [_, _, _], _ => rfl) (fun vs H Q E h => ?_) (fun cdv A outer s H vs Q E hr h => ?_)
  · obtain ⟨x, dm, st, sc, c, m, rfl, hx, hst, hsc, k⟩ := h
    rfl
  · obtain ⟨x, dm, st, sc, c, m, rfl, hx, hst, hsc, k⟩ := h
    have hu := hu_of hr
    refine ⟨_, (pss_n (ps_fld (pv 0) (pv 1) rfl)
    (pss_n (ps_asg (pe_tup (pa_cons (pe_ix ix_tup (pv 2) pe_int (fun _ _ => rfl)) (pa_cons (pe_ix ix_tup (pv 2) pe_int (fun _ _ => rfl)) pa_nil))) (pg_tup rfl (pgs_cons (pg_fld (pv 0)) (pgs_cons (pg_fld (pv 0)) pgs_nil))))
    (pss_n (ps_fld (pv 0) (pe_lc (own := [("values", 3)]) (g := (gName 3)) (tt := tYes) (te := (tMake (He.ga K "Side") (spSideInit K) [] E0 (tCons (tVar 3) tNil))) rfl sc_Draft__init.nd (pi_tup (pe_ix ix_tup (pv 2) pe_int (fun _ _ => rfl))) (blkOk_by (N := n_Draft__init) (sc := defScope s_Draft__init) (by decide +kernel)) (fun _ _ _ _ _ => (pg_name (i := 3) sc_Draft__init.nd rfl (Or.inl rfl))) (fun _ _ _ _ _ => pts_nil) (fun _ _ _ _ _ => (pe_make u.mk_Side G_Side__init (hr.mono (by decide)) (by rfl) u.g_Side b_Side__init .nil pass0 (pa_cons (pv 3) pa_nil)))) rfl)
    (pss_one (ps_fld (pv 0) (pe_lc (own := [("way", 4)]) (g := (gName 4)) (tt := tYes) (te := (tCB (rListOf K) (tCons (tVar 4) tNil))) rfl sc_Draft__init.nd (pi_tup (pe_ix ix_tup (pv 2) pe_int (fun _ _ => rfl))) (blkOk_by (N := n_Draft__init) (sc := defScope s_Draft__init) (by decide +kernel)) (fun _ _ _ _ _ => (pg_name (i := 4) sc_Draft__init.nd rfl (Or.inl rfl))) (fun _ _ _ _ _ => pts_nil) (fun _ _ _ _ _ => (pe_callTy call_list_of (by rfl) u.n_list PyProof.Rows.boot_list (pa_cons (pv 4) pa_nil)))) rfl))))), ?_⟩
    walk_at "s"
    obtain ⟨S, W, s2, w2, q1, q2, q3, q4, q5⟩ := hsc.ex
    obtain ⟨d2, pt, pol, pds, St⟩ := hst
    walk_at "w"
    refine ⟨_, _, _, _, rfl, hx, u.c_Draft, u.a_Draft_setting, lt_r, ?_⟩
    have old : ∀ {b : Addr} {o : HO}, H b = some o → o ≠ .ins (He.ga K "Draft") dm [] → b ≠ x := fun h n z => n (by rw [z, hx] at h; exact (Option.some.inj h).symm)
    have nS := old q2 (fun z => by cases z)
    have nW := old q4 (fun z => by cases z)
    have nsc := old q1 (fun z => by cases z)
    have ns2 : ∀ b, s2 b ≠ x := fun b => old (q3 b) (fun z => by cases z)
    have nst := old St.ob (fun z => by injection z with z1 z2 z3; cases z3)
    have npt := old St.tu (fun z => by cases z)
    have npl : ∀ b, pol b ≠ x := fun b => old (St.pol b) (fun z => by injection z with z1 z2 z3; cases z3)
    have kp1 : Kp [x] H (upd H x (.ins (He.ga K "Draft") dm (putF "setting" (.ref st) []))) := Kp.upd (by simp)
    have hx1 : (upd H x (.ins (He.ga K "Draft") dm (putF "setting" (.ref st) []))) x = some (.ins (He.ga K "Draft") dm (putF "setting" (.ref st) [])) := upd_same
    generalize (upd H x (.ins (He.ga K "Draft") dm (putF "setting" (.ref st) []))) = H1 at *
    have keep : ∀ {b : Addr} {o : HO} {H' : Hp}, Kp [x] H H' → H b = some o → b ≠ x → H' b = some o := fun kp h n => kp _ _ h (by simpa using n)
    have sc1 := keep kp1 q1 nsc
    walk_at "w"
    refine ⟨le_sz le_r, fun T hT => ?_⟩
    walk_at "w"
    refine ⟨_, _, _, _, rfl, xn hT hx1, u.c_Draft, u.a_Draft_made, lt_r, ?_⟩
    walk_at "w"
    refine ⟨_, _, _, _, rfl, upd_same, u.c_Draft, u.a_Draft_stalls, lt_r, ?_⟩
    have kp2 : Kp [x] H (upd (upd (upd H1 T (.tup [.int (m.made : Nat), .int m.stalls])) x (.ins (He.ga K "Draft") dm (putF "made" (.int (m.made : Nat)) (putF "setting" (.ref st) [])))) x (.ins (He.ga K "Draft") dm (putF "stalls" (.int m.stalls) (putF "made" (.int (m.made : Nat)) (putF "setting" (.ref st) []))))) := ((kp1.trans (Kp.of (Ex.new hT))).trans (Kp.upd (by simp))).trans (Kp.upd (by simp))
    have hx2 : (upd (upd (upd H1 T (.tup [.int (m.made : Nat), .int m.stalls])) x (.ins (He.ga K "Draft") dm (putF "made" (.int (m.made : Nat)) (putF "setting" (.ref st) [])))) x (.ins (He.ga K "Draft") dm (putF "stalls" (.int m.stalls) (putF "made" (.int (m.made : Nat)) (putF "setting" (.ref st) []))))) x = some (.ins (He.ga K "Draft") dm (putF "stalls" (.int m.stalls) (putF "made" (.int (m.made : Nat)) (putF "setting" (.ref st) [])))) := upd_same
    generalize (upd (upd (upd H1 T (.tup [.int (m.made : Nat), .int m.stalls])) x (.ins (He.ga K "Draft") dm (putF "made" (.int (m.made : Nat)) (putF "setting" (.ref st) [])))) x (.ins (He.ga K "Draft") dm (putF "stalls" (.int m.stalls) (putF "made" (.int (m.made : Nat)) (putF "setting" (.ref st) []))))) = H2 at *
    clear hT sc1 hx1 kp1
    walk_at "w"
    refine ⟨sc, _, _, _, rfl, rfl, SqT.of (keep kp2 q1 nsc), rfl, ?_⟩
    refine ⟨_, rfl, ⟨_, SqT.of (keep kp2 q2 nS)⟩, fun SL hSL => lc_tup (K := K) (a := S) (xs := [false, true].map fun b => V.ref (s2 b)) (fun i H' => Two H2 H' SL (fun H b a => ∃ d, H a = some (.ins (He.ga K "Side") d (sideF (m.side b)))) i) ?_ ?_ ?_ ?_⟩
    · exact Two.zero hSL
    · rintro i H' _ t
      exact SqT.of (t.e _ _ (keep kp2 q2 nS))
    · rintro i y H' hi t
      obtain ⟨b, hb, rfl⟩ := map_get hi
      refine ⟨rfl, ?_⟩
      refine ⟨_, rfl, ?_⟩
      intro x' dx' hx' hdx' hne
      refine ⟨x', dx', s2 b, m.side b, rfl, upd_same, (updEx2 hx' hdx') _ _ (t.e _ _ (keep kp2 (q3 b) (ns2 b))), fun H4 kp4 hx4 => ⟨rfl, ?_⟩⟩
      exact t.next hb hSL (mkEx hx' hdx' hne kp4) hx' ⟨dx', hx4⟩ (fun H H' b a e ⟨d, h⟩ => ⟨d, e _ _ h⟩) (fun H b a o n ⟨d, h⟩ _ => ⟨d, by rw [upd_ne n]; exact h⟩) (fun H b a ⟨d, h⟩ => ⟨_, h⟩)
    · rintro H3 ⟨e3, g, hSL3, hg0, hg1⟩
      obtain ⟨⟨d0, hs0⟩, ns0, n0⟩ := hg0 (lt_r (n := 0) (m := 2))
      obtain ⟨⟨d1, hs1⟩, ns1, n1, ns01⟩ := hg1 (lt_r (n := 1) (m := 2))
      change H3 SL = some (.lst [.ref (g false), .ref (g true)]) at hSL3
      have hx3 := e3 _ _ hx2
      have nSLx : SL ≠ x := (ne_of_none hx2 hSL).symm
      have ng0x : g false ≠ x := (ne_of_none hx2 ns0).symm
      have ng1x : g true ≠ x := (ne_of_none hx2 ns1).symm
      walk_at "w"
      refine ⟨_, _, _, _, rfl, hx3, u.c_Draft, u.a_Draft_sides, lt_r, ?_⟩
      have kp4 : Kp [x] H (upd H3 x (.ins (He.ga K "Draft") dm (putF "sides" (.ref SL) (putF "stalls" (.int m.stalls) (putF "made" (.int (m.made : Nat)) (putF "setting" (.ref st) [])))))) := (kp2.trans (Kp.of e3)).trans (Kp.upd (by simp))
      have hx4 : (upd H3 x (.ins (He.ga K "Draft") dm (putF "sides" (.ref SL) (putF "stalls" (.int m.stalls) (putF "made" (.int (m.made : Nat)) (putF "setting" (.ref st) [])))))) x = some (.ins (He.ga K "Draft") dm (putF "sides" (.ref SL) (putF "stalls" (.int m.stalls) (putF "made" (.int (m.made : Nat)) (putF "setting" (.ref st) []))))) := upd_same
      have hSL4 : (upd H3 x (.ins (He.ga K "Draft") dm (putF "sides" (.ref SL) (putF "stalls" (.int m.stalls) (putF "made" (.int (m.made : Nat)) (putF "setting" (.ref st) [])))))) SL = some (.lst [.ref (g false), .ref (g true)]) := by rw [upd_ne nSLx]; exact hSL3
      have hs04 : (upd H3 x (.ins (He.ga K "Draft") dm (putF "sides" (.ref SL) (putF "stalls" (.int m.stalls) (putF "made" (.int (m.made : Nat)) (putF "setting" (.ref st) [])))))) (g false) = some (.ins (He.ga K "Side") d0 (sideF (m.side false))) := by rw [upd_ne ng0x]; exact hs0
      have hs14 : (upd H3 x (.ins (He.ga K "Draft") dm (putF "sides" (.ref SL) (putF "stalls" (.int m.stalls) (putF "made" (.int (m.made : Nat)) (putF "setting" (.ref st) [])))))) (g true) = some (.ins (He.ga K "Side") d1 (sideF (m.side true))) := by rw [upd_ne ng1x]; exact hs1
      generalize (upd H3 x (.ins (He.ga K "Draft") dm (putF "sides" (.ref SL) (putF "stalls" (.int m.stalls) (putF "made" (.int (m.made : Nat)) (putF "setting" (.ref st) [])))))) = H4 at *
      have hg0n : H (g false) = none := kp2.free ns0 (by simpa using ng0x)
      have hg1n : H (g true) = none := kp2.free ns1 (by simpa using ng1x)
      clear hg0 hg1 hs0 hs1 hSL3 hx3
      walk_at "w"
      refine ⟨sc, _, _, _, rfl, rfl, SqT.of (keep kp4 q1 nsc), rfl, ?_⟩
      refine ⟨_, rfl, ⟨_, SqT.of (keep kp4 q4 nW)⟩, fun WL hWL => lc_tup (K := K) (a := W) (xs := [false, true].map fun b => V.ref (w2 b)) (fun i H' => Two H4 H' WL (fun H b a => LstT H a (wayV (m.way b))) i) ?_ ?_ ?_ ?_⟩
      · exact Two.zero hWL
      · rintro i H' _ t
        exact SqT.of (t.e _ _ (keep kp4 q4 nW))
      · rintro i y H' hi t
        obtain ⟨b, hb, rfl⟩ := map_get hi
        obtain ⟨pp, hpp, hrr⟩ := q5 b
        have npx : w2 b ≠ x := old hpp (fun z => by cases z)
        have hr4 : Rows H4 pp (wayV (m.way b)) := ⟨hrr.len, fun i q hq => let ⟨r, a, z⟩ := hrr.at_ i q hq; ⟨r, a, keep kp4 z (old z (fun z => by cases z))⟩⟩
        have ht := t.e _ _ (keep kp4 hpp npx)
        refine ⟨rfl, ?_⟩
        refine ⟨_, rfl, _, _, rfl, Or.inr (SqT.of ht), fun l hl => ?_⟩
        exact t.next hb hWL (Ex.new hl) hl ⟨pp, upd_same, (hr4.ex t.e).ex (Ex.new hl)⟩ (fun H H' b a e h => h.ex e) (fun H b a o n h ⟨ys, hy⟩ => h.off (fun xs z => by rw [hy] at z; cases z) n) (fun H b a ⟨ps, h, _⟩ => ⟨_, h⟩)
      · rintro H5 ⟨e5, w, hWL5, hw0, hw1⟩
        obtain ⟨hl0, nw0, m0⟩ := hw0 (lt_r (n := 0) (m := 2))
        obtain ⟨hl1, nw1, m1, nw01⟩ := hw1 (lt_r (n := 1) (m := 2))
        change H5 WL = some (.lst [.ref (w false), .ref (w true)]) at hWL5
        have hx5 := e5 _ _ hx4
        have nWLx : WL ≠ x := (ne_of_none hx4 hWL).symm
        have nw0x : w false ≠ x := (ne_of_none hx4 nw0).symm
        have nw1x : w true ≠ x := (ne_of_none hx4 nw1).symm
        have hw0n : H (w false) = none := kp4.free nw0 (by simpa using nw0x)
        have hw1n : H (w true) = none := kp4.free nw1 (by simpa using nw1x)
        walk_at "w"
        refine ⟨_, _, _, _, rfl, hx5, u.c_Draft, u.a_Draft_ways, lt_r, ?_⟩
        have kp6 : Kp [x] H (upd H5 x (.ins (He.ga K "Draft") dm (putF "ways" (.ref WL) (putF "sides" (.ref SL) (putF "stalls" (.int m.stalls) (putF "made" (.int (m.made : Nat)) (putF "setting" (.ref st) []))))))) := (kp4.trans (Kp.of e5)).trans (Kp.upd (by simp))
        have hx6 : (upd H5 x (.ins (He.ga K "Draft") dm (putF "ways" (.ref WL) (putF "sides" (.ref SL) (putF "stalls" (.int m.stalls) (putF "made" (.int (m.made : Nat)) (putF "setting" (.ref st) []))))))) x = some (.ins (He.ga K "Draft") dm (drF st SL WL m.made m.stalls)) := by rw [upd_same]; kernel_rfl
        have k6 : ∀ {b : Addr} {o : HO}, H5 b = some o → b ≠ x → (upd H5 x (.ins (He.ga K "Draft") dm (putF "ways" (.ref WL) (putF "sides" (.ref SL) (putF "stalls" (.int m.stalls) (putF "made" (.int (m.made : Nat)) (putF "setting" (.ref st) []))))))) b = some o := fun h n => by rw [upd_ne n]; exact h
        have l06 := hl0.upd' (o := .ins (He.ga K "Draft") dm (putF "ways" (.ref WL) (putF "sides" (.ref SL) (putF "stalls" (.int m.stalls) (putF "made" (.int (m.made : Nat)) (putF "setting" (.ref st) [])))))) hx5 (fun xs z => by cases z) nw0x
        have l16 := hl1.upd' (o := .ins (He.ga K "Draft") dm (putF "ways" (.ref WL) (putF "sides" (.ref SL) (putF "stalls" (.int m.stalls) (putF "made" (.int (m.made : Nat)) (putF "setting" (.ref st) [])))))) hx5 (fun xs z => by cases z) nw1x
        generalize (upd H5 x (.ins (He.ga K "Draft") dm (putF "ways" (.ref WL) (putF "sides" (.ref SL) (putF "stalls" (.int m.stalls) (putF "made" (.int (m.made : Nat)) (putF "setting" (.ref st) []))))))) = H6 at *
        have gl : ∀ b, ∃ o, H4 (g b) = some o := fun b => by cases b; exact ⟨_, hs04⟩; exact ⟨_, hs14⟩
        have wn : ∀ b, H4 (w b) = none := fun b => by cases b; exact nw0; exact nw1
        have gx : ∀ b, g b ≠ x := fun b => by cases b; exact ng0x; exact ng1x
        have wx : ∀ b, w b ≠ x := fun b => by cases b; exact nw0x; exact nw1x
        have gH : ∀ b, H (g b) = none := fun b => by cases b; exact hg0n; exact hg1n
        have wH : ∀ b, H (w b) = none := fun b => by cases b; exact hw0n; exact hw1n
        have nin : ∀ {b : Addr} {o : HO}, H b = some o → b ≠ x → b ∉ (⟨x, SL, WL, g, w, 0, 0⟩ : Fr).ft := fun {b o} h n z => by
          simp only [Fr.ft, List.mem_cons, List.not_mem_nil, or_false] at z
          rcases z with z | z | z | z | z
          · exact n z
          · rw [z, gH] at h; cases h
          · rw [z, gH] at h; cases h
          · rw [z, wH] at h; cases h
          · rw [z, wH] at h; cases h
        refine k ⟨x, SL, WL, g, w, 0, 0⟩ H6 rfl kp6 ?_ ⟨st, dm, fun b => cond b d1 d0, ⟨⟨⟨ns01, nw01, fun a b => ?_, fun a => (gx a).symm, fun a => (wx a).symm, fun a => ?_, fun a => ?_, fun a => ?_, fun a => ?_, nSLx, nWLx⟩, hx6, k6 (e5 _ _ hSL4) nSLx, k6 hWL5 nWLx, fun b => ?_, fun b => ?_, (fun b s xs z => by cases z), (fun k n xs z => by cases z)⟩, d2, pt, pol, pds, St.kp kp6 (by simpa using nst) (by simpa using npt) (fun b => by simpa using npl b), nin St.ob nst, nin St.tu npt, fun b => nin (St.pol b) (npl b)⟩⟩
        · intro b hb hbx
          simp only [Fr.ft, List.mem_cons, List.not_mem_nil, or_false] at hb
          rcases hb with z | z | z | z | z
          · exact absurd z hbx
          · rw [z]; exact gH _
          · rw [z]; exact gH _
          · rw [z]; exact wH _
          · rw [z]; exact wH _
        · obtain ⟨o, ho⟩ := gl a
          exact ne_of_none ho (wn b)
        · cases a; exact n0.symm; exact n1.symm
        · exact ne_of_none hSL4 (wn a)
        · obtain ⟨o, ho⟩ := gl a
          exact (ne_of_none ho hWL).symm
        · cases a; exact m0.symm; exact m1.symm
        · cases b; exact k6 (e5 _ _ hs04) ng0x; exact k6 (e5 _ _ hs14) ng1x
        · cases b; exact l06; exact l16
end
end Lw
namespace Lw
open PySem PySem.Spec PyProof.Rows L2
section
variable {P : Program} {w : World} {K : PySem.W.Frag} {mg : Str → Option Value} {base : Heap}
local macro_rules | `(tactic| walk_at "h") => `(tactic| first | assumption | exact upd_same | (refine xn (by assumption) ?_; walk_at "h") | (refine exapp (by assumption) ?_; walk_at "h"))
local macro_rules | `(tactic| walk_at "e") => `(tactic| first | exact Same.refl _ | assumption | (refine Same.trans ?_ (Ex.new (by assumption)); walk_at "e") | (refine Same.trans ?_ (by assumption); walk_at "e"))
local macro_rules | `(tactic| walk_at "w") => `(tactic| repeat (first | refine ⟨_, rfl, ?_⟩ | refine ⟨_, _, rfl, rfl, ?_⟩ | refine ⟨_, _, _, _, rfl, rfl, SqT.of (by walk_at "h"), (by rfl), ?_⟩ | (refine fun σ2 (hσ : σ2 = _) => ?_; (try simp only [List.set_cons_succ, List.set_cons_zero] at hσ); subst hσ) | refine ⟨_, _, rfl, SqT.of (by walk_at "h"), (by rfl), ?_⟩ | refine ⟨rfl, ?_⟩ | refine ⟨_, _, rfl, ?_⟩))
local macro_rules | `(tactic| walk_at "s") => `(tactic| (intro σ hσ; simp only [start_eq, List.map_cons, List.map_nil, List.length_cons, List.length_nil, List.cons_append, List.nil_append, Nat.reduceAdd, Nat.reduceSub, List.replicate_succ, List.replicate_zero] at hσ; subst hσ))

/-- two things found, told in the list at D -/
structure TwoR (H0 H : Hp) (D : Addr) (P : Hp → Bool → Addr → Prop) (i : Nat) : Prop where
  e : Ex H0 H
  g : ∃ g : Bool → Addr, H D = some (.lst (([false, true].map fun b => V.ref (g b)).take i)) ∧ (0 < i → P H false (g false)) ∧ (1 < i → P H true (g true))
theorem TwoR.zero {H0 : Hp} {D : Addr} {P : Hp → Bool → Addr → Prop} (h : H0 D = none) : TwoR H0 (upd H0 D (.lst [])) D P 0 := ⟨Ex.new h, fun _ => 0, upd_same, fun z => absurd z (by decide), fun z => absurd z (by decide)⟩
theorem TwoR.next {H0 H H4 : Hp} {D x : Addr} {P : Hp → Bool → Addr → Prop} {i : Nat} {b : Bool} (t : TwoR H0 H D P i) (hb : [false, true][i]? = some b) (hD : H0 D = none) (e4 : Ex H H4) (hP : P H4 b x)
    (mono : ∀ (H H' : Hp) b a, Ex H H' → P H b a → P H' b a) (off : ∀ (H : Hp) b a o, P H b a → (∃ ys, H D = some (.lst ys)) → P (upd H D o) b a) :
    ∃ acc, H4 D = some (.lst acc) ∧ acc.length < sizeLine ∧ TwoR H0 (upd H4 D (.lst (acc ++ [V.ref x]))) D P (i + 1) := by
  obtain ⟨e, g, hl, h0, h1⟩ := t
  have hD4 := e4 _ _ hl
  refine ⟨_, hD4, take_lt lt_r, ⟨exmut (e.trans e4) hD, fset g b x, ?_, ?_, ?_⟩⟩
  · rcases two_split hb with ⟨rfl, rfl⟩ | ⟨rfl, rfl⟩
    · rw [upd_same]; rfl
    · rw [upd_same]; rfl
  · intro _
    rcases two_split hb with ⟨rfl, rfl⟩ | ⟨rfl, rfl⟩
    · exact off _ _ _ _ hP ⟨_, hD4⟩
    · exact off _ _ _ _ (mono _ _ _ _ e4 (h0 (by decide))) ⟨_, hD4⟩
  · intro hi
    rcases two_split hb with ⟨rfl, rfl⟩ | ⟨rfl, rfl⟩
    · exact absurd hi (by decide)
    · exact off _ _ _ _ hP ⟨_, hD4⟩
def spDraftPacked (K : PySem.W.Frag) : Sp := fun vs H Q _ => ∃ (f : Fr) (c : Cfg) (m : Mo), vs = [.ref f.M] ∧ DrM K c f H m ∧ ∀ t H', Ex H H' → ScAt H' t m → Q (.ref t) H'
theorem ok_Draft_packed (u : U K mg) : Ok P w K mg base 2 (He.ma K (He.ga K "Draft") "packed") ["self"] (spDraftPacked K) := by
  obtain ⟨fd_Side_packed, G_Side_packed, kp_Side_packed, b_Side_packed⟩ := (ok_Side_packed (P := P) (w := w) (base := base) u).ex
  obtain ⟨fd, F⟩ := u.d_Draft_packed
  refine mkOk F sc_Draft_packed (fun _ _ _ _ _ _ us hl => match us, hl with | [_], _ => rfl) (fun vs H Q E h => ?_) (fun cdv A outer s H vs Q E hr h => ?_)
  · obtain ⟨f, c, m, rfl, hm, k⟩ := h
    rfl
  · obtain ⟨f, c, m, rfl, hm, k⟩ := h
    have hu := hu_of hr
    refine ⟨_, (pss_n (ps_set (i := 1) sc_Draft_packed.nd rfl (Or.inl rfl) (pe_callTy call_tuple_of (by rfl) u.n_tuple PyProof.Rows.boot_tuple (pa_cons (pe_lc (own := [("side", 2)]) (g := (gName 2)) (tt := tYes) (te := (tMeth (He.ga K "Side") "packed" (spPacked K) [] E0 (tVar 2) tNil)) rfl sc_Draft_packed.nd (pi_list (pe_fld (pv 0) rfl)) (blkOk_by (N := n_Draft_packed) (sc := defScope s_Draft_packed) (by decide +kernel)) (fun _ _ _ _ _ => (pg_name (i := 2) sc_Draft_packed.nd rfl (Or.inl rfl))) (fun _ _ _ _ _ => pts_nil) (fun _ _ _ _ _ => (pe_meth0 (pv 2) u.c_Side u.m_Side_packed G_Side_packed (hr.mono (by decide)) b_Side_packed .nil pass0))) pa_nil)))
    (pss_one (ps_ret (pe_tup (pa_cons (pe_fld (pv 0) rfl) (pa_cons (pe_fld (pv 0) rfl) (pa_cons (pv 1) (pa_cons (pe_callTy call_tuple_of (by rfl) u.n_tuple PyProof.Rows.boot_tuple (pa_cons (pe_lc (own := [("way", 3)]) (g := (gName 3)) (tt := tYes) (te := (tCB (rTupleOf K) (tCons (tVar 3) tNil))) rfl sc_Draft_packed.nd (pi_list (pe_fld (pv 0) rfl)) (blkOk_by (N := n_Draft_packed) (sc := defScope s_Draft_packed) (by decide +kernel)) (fun _ _ _ _ _ => (pg_name (i := 3) sc_Draft_packed.nd rfl (Or.inl rfl))) (fun _ _ _ _ _ => pts_nil) (fun _ _ _ _ _ => (pe_callTy call_tuple_of (by rfl) u.n_tuple PyProof.Rows.boot_tuple (pa_cons (pv 3) pa_nil)))) pa_nil)) pa_nil)))))))), ?_⟩
    walk_at "s"
    obtain ⟨st, dm, dx, L⟩ := hm
    walk_at "w"
    refine L.getM u.c_Draft u.a_Draft_sides (dk_sides _ _ _ _ _) ?_
    walk_at "w"
    
    refine ⟨⟨_, SqL.of L.bx.sl⟩, fun D hD => lc_list (a := f.SL) (xs := [false, true].map fun b => V.ref (f.s b)) (fun i H' => TwoR H H' D (fun H b a => H a = some (.tup (m.side b).vs)) i) ?_ ?_ ?_ ?_⟩
    · exact TwoR.zero hD
    · rintro i H' _ t
      exact SqL.of (t.e _ _ L.bx.sl)
    · rintro i y H' hi t
      obtain ⟨b, hb, rfl⟩ := map_get hi
      refine ⟨rfl, ?_⟩
      refine ⟨_, rfl, _, _, _, rfl, t.e _ _ (L.bx.si b), sn_packed _, ?_⟩
      refine ⟨f.s b, _, m.side b, rfl, t.e _ _ (L.bx.si b), fun q H4 e4 hq => ?_⟩
      exact t.next hb hD e4 hq (fun H H' b a e h => e _ _ h) (fun H b a o h ⟨ys, hy⟩ => by rw [upd_ne (fun z => by rw [z, hy] at h; cases h)]; exact h)
    · rintro H1 ⟨e1, g, hD1, hg0, hg1⟩
      have h0 := hg0 (lt_r (n := 0) (m := 2))
      have h1 := hg1 (lt_r (n := 1) (m := 2))
      change H1 D = some (.lst [.ref (g false), .ref (g true)]) at hD1
      walk_at "w"
      refine ⟨_, _, rfl, Or.inl ⟨SqL.of hD1, fun S hS => ?_⟩⟩
      have eS : Ex H (upd H1 S (.tup [.ref (g false), .ref (g true)])) := e1.trans (Ex.new hS)
      have L2 := L.ex eS
      have hS2 : (upd H1 S (.tup [.ref (g false), .ref (g true)])) S = some (.tup [.ref (g false), .ref (g true)]) := upd_same
      have g02 := xn (o := .tup [.ref (g false), .ref (g true)]) hS h0
      have g12 := xn (o := .tup [.ref (g false), .ref (g true)]) hS h1
      generalize (upd H1 S (.tup [.ref (g false), .ref (g true)])) = H2 at *
      walk_at "w"
      refine L2.getM u.c_Draft u.a_Draft_made (dk_made _ _ _ _ _) ?_
      walk_at "w"
      refine L2.getM u.c_Draft u.a_Draft_stalls (dk_stalls _ _ _ _ _) ?_
      walk_at "w"
      refine L2.getM u.c_Draft u.a_Draft_ways (dk_ways _ _ _ _ _) ?_
      walk_at "w"
    
      refine ⟨⟨_, SqL.of L2.bx.wl⟩, fun D3 hD3 => lc_list (a := f.WL) (xs := [false, true].map fun b => V.ref (f.w b)) (fun i H' => TwoR H2 H' D3 (fun H b a => TupT H a (wayV (m.way b))) i) ?_ ?_ ?_ ?_⟩
      · exact TwoR.zero hD3
      · rintro i H' _ t
        exact SqL.of (t.e _ _ L2.bx.wl)
      · rintro i y H' hi t
        obtain ⟨b, hb, rfl⟩ := map_get hi
        obtain ⟨ps, hps, hpr⟩ := (L2.ex t.e).bx.wa b
        refine ⟨rfl, ?_⟩
        refine ⟨_, rfl, _, _, rfl, Or.inl ⟨SqL.of hps, fun l hl => ?_⟩⟩
        exact t.next hb hD3 (Ex.new hl) ⟨ps, upd_same, hpr.ex (Ex.new hl)⟩ (fun H H' b a e h => h.ex e) (fun H b a o ⟨ps, h, hr⟩ ⟨ys, hy⟩ => ⟨ps, by rw [upd_ne (fun z => by rw [z, hy] at h; cases h)]; exact h, hr.off (fun xs z => by rw [hy] at z; cases z)⟩)
      · rintro H3 ⟨e3, w, hD33, hw0, hw1⟩
        have w0 := hw0 (lt_r (n := 0) (m := 2))
        have w1 := hw1 (lt_r (n := 1) (m := 2))
        change H3 D3 = some (.lst [.ref (w false), .ref (w true)]) at hD33
        walk_at "w"
        refine ⟨_, _, rfl, Or.inl ⟨SqL.of hD33, fun Wt hWt => ?_⟩⟩
        refine ⟨le_sz le_r, fun t ht => ?_⟩
        have e34 : Ex H3 (upd (upd H3 Wt (.tup [.ref (w false), .ref (w true)])) t (.tup [.int (m.made : Nat), .int m.stalls, .ref S, .ref Wt])) := by walk_at "e"
        refine k t _ ((eS.trans e3).trans e34) ⟨S, Wt, g, w, upd_same, e34 _ _ (e3 _ _ hS2), fun b => ?_, xn ht upd_same, fun b => ?_⟩
        · cases b
          · exact e34 _ _ (e3 _ _ g02)
          · exact e34 _ _ (e3 _ _ g12)
        · cases b
          · exact w0.ex e34
          · exact w1.ex e34
end
end Lw
namespace Lw
open PySem PySem.Spec PyProof.Rows L2
section
variable {P : Program} {w : World} {K : PySem.W.Frag} {mg : Str → Option Value} {base : Heap}
local macro_rules | `(tactic| walk_at "h") => `(tactic| first | assumption | exact upd_same | (refine xn (by assumption) ?_; walk_at "h") | (refine exapp (by assumption) ?_; walk_at "h"))
local macro_rules | `(tactic| walk_at "e") => `(tactic| first | exact Same.refl _ | assumption | (refine Same.trans ?_ (Ex.new (by assumption)); walk_at "e") | (refine Same.trans ?_ (by assumption); walk_at "e"))
local macro_rules | `(tactic| walk_at "w") => `(tactic| repeat (first | refine ⟨_, rfl, ?_⟩ | refine ⟨_, _, rfl, rfl, ?_⟩ | refine ⟨_, _, _, _, rfl, rfl, SqT.of (by walk_at "h"), (by rfl), ?_⟩ | (refine fun σ2 (hσ : σ2 = _) => ?_; (try simp only [List.set_cons_succ, List.set_cons_zero] at hσ); subst hσ) | refine ⟨_, _, rfl, SqT.of (by walk_at "h"), (by rfl), ?_⟩ | refine ⟨rfl, ?_⟩ | refine ⟨_, _, rfl, ?_⟩))
local macro_rules | `(tactic| walk_at "s") => `(tactic| (intro σ hσ; simp only [start_eq, List.map_cons, List.map_nil, List.length_cons, List.length_nil, List.cons_append, List.nil_append, Nat.reduceAdd, Nat.reduceSub, List.replicate_succ, List.replicate_zero] at hσ; subst hσ))

def givV (c : Cfg) : List (List V) := (List.range (c.words.length + 1)).map fun k => [V.int (given c k false), V.int (given c k true)]
theorem givV_get (c : Cfg) {k : Nat} (h : k ≤ c.words.length) : (givV c)[k]? = some [V.int (given c k false), V.int (given c k true)] := by
  unfold givV
  rw [List.getElem?_map, List.getElem?_range (by omega)]; rfl
def ruF (st W G : Addr) : List (Str × V) := [("setting", .ref st), ("writes", .ref W), ("given", .ref G)]
theorem rk_setting (st W G : Addr) : (ruF st W G).lookup ("setting" : Str) = some (.ref st) := by kernel_rfl
theorem rk_writes (st W G : Addr) : (ruF st W G).lookup ("writes" : Str) = some (.ref W) := by kernel_rfl
theorem rk_given (st W G : Addr) : (ruF st W G).lookup ("given" : Str) = some (.ref G) := by kernel_rfl
theorem rn_heard_all (st W G : Addr) : (ruF st W G).lookup ("heard_all" : Str) = none := by kernel_rfl
theorem rn_finished (st W G : Addr) : (ruF st W G).lookup ("finished" : Str) = none := by kernel_rfl
theorem rn_possible (st W G : Addr) : (ruF st W G).lookup ("possible" : Str) = none := by kernel_rfl
theorem rn_after (st W G : Addr) : (ruF st W G).lookup ("after" : Str) = none := by kernel_rfl
theorem rn_first (st W G : Addr) : (ruF st W G).lookup ("first" : Str) = none := by kernel_rfl
structure RuAt (K : PySem.W.Frag) (c : Cfg) (H : Hp) (r dr st W G : Addr) : Prop where
  ob : H r = some (.ins (He.ga K "Rules") dr (ruF st W G))
  se : IsSet K c H st
  wr : LstT H W (wsV c)
  gi : LstT H G (givV c)
theorem RuAt.ex {c : Cfg} {H H' : Hp} {r dr st W G : Addr} (h : RuAt K c H r dr st W G) (e : Ex H H') : RuAt K c H' r dr st W G := ⟨e _ _ h.ob, h.se.ex e, h.wr.ex e, h.gi.ex e⟩
def IsRu (K : PySem.W.Frag) (c : Cfg) (H : Hp) (r : Addr) : Prop := ∃ dr st W G, RuAt K c H r dr st W G
theorem IsRu.ex {c : Cfg} {H H' : Hp} {r : Addr} (h : IsRu K c H r) (e : Ex H H') : IsRu K c H' r := let ⟨dr, st, W, G, x⟩ := h; ⟨dr, st, W, G, x.ex e⟩
def spRulesFirst (K : PySem.W.Frag) : Sp := fun vs H Q _ => ∃ (r : Addr), vs = [.ref r] ∧ ∀ t H', Ex H H' → ScAt H' t mo0 → Q (.ref t) H'
theorem ok_Rules_first (u : U K mg) : Ok P w K mg base 1 (He.ma K (He.ga K "Rules") "first") ["self"] (spRulesFirst K) := by
  obtain ⟨fd, F⟩ := u.d_Rules_first
  refine mkOk F sc_Rules_first (fun _ _ _ _ _ _ us hl => match us, hl with | [_], _ => rfl) (fun vs H Q E h => ?_) (fun cdv A outer s H vs Q E hr h => ?_)
  · obtain ⟨r, rfl, k⟩ := h
    rfl
  · obtain ⟨r, rfl, k⟩ := h
    have hu := hu_of hr
    refine ⟨_, (pss_n (ps_set (i := 1) sc_Rules_first.nd rfl (Or.inl rfl) (pe_tup (pa_cons pe_int (pa_cons pe_bl (pa_cons pe_int (pa_cons pe_int (pa_cons pe_int (pa_cons pe_int (pa_cons pe_int (pa_cons pe_int pa_nil))))))))))
    (pss_one (ps_ret (pe_tup (pa_cons pe_int (pa_cons pe_int (pa_cons (pe_tup (pa_cons (pv 1) (pa_cons (pv 1) pa_nil))) (pa_cons (pe_tup (pa_cons (pe_tup pa_nil) (pa_cons (pe_tup pa_nil) pa_nil))) pa_nil)))))))), ?_⟩
    walk_at "s"
    walk_at "w"
    refine ⟨le_sz le_r, fun s hs => ?_⟩
    walk_at "w"
    refine ⟨le_sz le_r, fun S hS => ?_⟩
    walk_at "w"
    refine ⟨le_sz le_r, fun w0 hw0 => ?_⟩
    walk_at "w"
    refine ⟨le_sz le_r, fun w1 hw1 => ?_⟩
    refine ⟨le_sz le_r, fun W hW => ?_⟩
    refine ⟨le_sz le_r, fun t ht => ?_⟩
    refine k t _ (by walk_at "e") ⟨S, W, fun _ => s, fun b => cond b w1 w0, upd_same, ?_, fun _ => ?_, ?_, fun b => ?_⟩
    · walk_at "h"
    · walk_at "h"
    · walk_at "h"
    · cases b
      · exact ⟨[], xn ht (xn hW (xn hw1 upd_same)), .nil⟩
      · exact ⟨[], xn ht (xn hW upd_same), .nil⟩

def spHeardAll (K : PySem.W.Frag) : Sp := fun vs H Q _ => ∃ (r sc : Addr) (c : Cfg) (m : Mo) (b : Bool), vs = [.ref r, .ref sc, .int (wI b)] ∧ IsRu K c H r ∧ ScAt H sc m ∧ m.made ≤ c.words.length ∧ Q (.bl (heard c m b)) H
theorem ok_Rules_heard_all (u : U K mg) : Ok P w K mg base 1 (He.ma K (He.ga K "Rules") "heard_all") ["self", "scene", "endpoint"] (spHeardAll K) := by
  obtain ⟨fd, F⟩ := u.d_Rules_heard_all
  refine mkOk F sc_Rules_heard_all (fun _ _ _ _ _ _ us hl => match us, hl with | [_, _, _], _ => rfl) (fun vs H Q E h => ?_) (fun cdv A outer s H vs Q E hr h => ?_)
  · obtain ⟨r, sc, c, m, b, rfl, hr2, hsc, hm, k⟩ := h
    rfl
  · obtain ⟨r, sc, c, m, b, rfl, hr2, hsc, hm, k⟩ := h
    have hu := hu_of hr
    refine ⟨_, (pss_one (ps_ret (pe_cmpR op_eq (pe_ix ix_tup (pe_ix ix_tup (pe_ix ix_tup (pv 1) pe_int (fun _ _ => rfl)) (pv 2) (fun _ _ => rfl)) pe_int (fun _ _ => rfl)) (pe_ix ix_tup (pe_ix ix_list (pe_fld (pv 0) rfl) (pe_ix ix_tup (pv 1) pe_int (fun _ _ => rfl)) (fun _ _ => rfl)) (pe_op op_sub pe_int (pv 2)) (fun _ _ => rfl)) (nomark _)))), ?_⟩
    walk_at "s"
    obtain ⟨dr, st, W, G, R⟩ := hr2
    obtain ⟨S, Wt, s2, w2, q1, q2, q3, q4, q5⟩ := hsc.ex
    obtain ⟨gs, hgs, hgr⟩ := R.gi
    obtain ⟨pg, hpg, hpt⟩ := hgr.get (givV_get c hm)
    have hat : atI (gs.map V.ref) ((m.made : Nat) : Int) = some (.ref pg) := by rw [atI_nat, List.getElem?_map, hpg]; rfl
    have hb1 : atI [V.int (given c m.made false), V.int (given c m.made true)] (1 - wI b) = some (.int (given c m.made (!b))) := by rw [wI_not]; cases b <;> rfl
    have hs2 : atI [V.ref (s2 false), V.ref (s2 true)] (wI b) = some (.ref (s2 b)) := by cases b <;> rfl
    walk_at "w"
    refine ⟨S, _, _, _, rfl, rfl, SqT.of q2, hs2, ?_⟩
    walk_at "w"
    refine ⟨s2 b, _, _, _, rfl, rfl, SqT.of (q3 b), rfl, ?_⟩
    refine ⟨_, rfl, _, _, _, _, _, rfl, R.ob, u.c_Rules, u.a_Rules_given, rk_given _ _ _, ?_⟩
    walk_at "w"
    refine x_lst hgs hat ?_
    walk_at "w"
    refine ⟨pg, _, _, _, rfl, rfl, SqT.of hpt, hb1, ?_⟩
    walk_at "w"
    show Q (.bl (decide (V.int (m.side b).got = V.int (given c m.made (!b))))) H
    rw [dec_int]
    exact k

def spFinished (K : PySem.W.Frag) : Sp := fun vs H Q _ => ∃ (r sc : Addr) (c : Cfg) (m : Mo), vs = [.ref r, .ref sc] ∧ IsRu K c H r ∧ ScAt H sc m ∧ m.made ≤ c.words.length ∧ Q (.bl (over c m)) H
theorem ok_Rules_finished (u : U K mg) : Ok P w K mg base 2 (He.ma K (He.ga K "Rules") "finished") ["self", "scene"] (spFinished K) := by
  obtain ⟨fd_Rules_heard_all, G_Rules_heard_all, kp_Rules_heard_all, b_Rules_heard_all⟩ := (ok_Rules_heard_all (P := P) (w := w) (base := base) u).ex
  obtain ⟨fd, F⟩ := u.d_Rules_finished
  refine mkOk F sc_Rules_finished (fun _ _ _ _ _ _ us hl => match us, hl with | [_, _], _ => rfl) (fun vs H Q E h => ?_) (fun cdv A outer s H vs Q E hr h => ?_)
  · obtain ⟨r, sc, c, m, rfl, hr2, hsc, hm, k⟩ := h
    rfl
  · obtain ⟨r, sc, c, m, rfl, hr2, hsc, hm, k⟩ := h
    have hu := hu_of hr
    refine ⟨_, (pss_n (ps_set (i := 2) sc_Rules_finished.nd rfl (Or.inl rfl) (pe_cmpR op_eq (pe_ix ix_tup (pv 1) pe_int (fun _ _ => rfl)) (pe_callB call_len_seq (by rfl) u.n_len PySem.boot_len (pa_cons (pe_fld (pv 0) rfl) pa_nil)) (nomark _)))
    (pss_one (ps_ret (pe_and (pv 2) (pe_and (pe_meth (pv 0) u.c_Rules u.m_Rules_heard_all G_Rules_heard_all (hr.mono (by decide)) b_Rules_heard_all .nil pass0 (pa_cons (pv 1) (pa_cons pe_int pa_nil))) (pe_one (pe_meth (pv 0) u.c_Rules u.m_Rules_heard_all G_Rules_heard_all (hr.mono (by decide)) b_Rules_heard_all .nil pass0 (pa_cons (pv 1) (pa_cons pe_int pa_nil))))))))), ?_⟩
    walk_at "s"
    obtain ⟨dr, st, W, G, R⟩ := id hr2
    obtain ⟨S, Wt, s2, w2, q1, q2, q3, q4, q5⟩ := hsc.ex
    obtain ⟨ws, hws, hwr⟩ := R.wr
    have hn : (ws.map V.ref).length = c.words.length := by rw [List.length_map, hwr.len]; exact List.length_map _
    unfold over at k
    walk_at "w"
    refine ⟨_, _, _, _, _, rfl, R.ob, u.c_Rules, u.a_Rules_writes, rk_writes _ _ _, ?_⟩
    refine ⟨_, _, rfl, Or.inl (SqL.of hws), ?_⟩
    rw [hn]
    walk_at "w"
    rw [dec_nat]
    refine itb (fun z => ?_) (fun z => ?_)
    · rw [z, Bool.true_and] at k
      walk_at "w"
      refine ⟨_, _, _, rfl, R.ob, rn_heard_all _ _ _, ?_⟩
      walk_at "w"
      refine ⟨r, sc, c, m, false, rfl, hr2, hsc, hm, ?_⟩
      refine ⟨_, rfl, itb (fun z2 => ?_) (fun z2 => ?_)⟩
      · rw [z2, Bool.true_and] at k
        walk_at "w"
        refine ⟨_, _, _, rfl, R.ob, rn_heard_all _ _ _, ?_⟩
        walk_at "w"
        exact ⟨r, sc, c, m, true, rfl, hr2, hsc, hm, k⟩
      · rw [z2] at k
        exact k
    · rw [z] at k
      exact k
end
end Lw
namespace Lw
open PySem PySem.Spec PyProof.Rows L2
section
variable {P : Program} {w : World} {K : PySem.W.Frag} {mg : Str → Option Value} {base : Heap}
local macro_rules | `(tactic| walk_at "h") => `(tactic| first | assumption | exact upd_same | (refine xn (by assumption) ?_; walk_at "h") | (refine exapp (by assumption) ?_; walk_at "h"))
local macro_rules | `(tactic| walk_at "e") => `(tactic| first | exact Same.refl _ | assumption | (refine Same.trans ?_ (Ex.new (by assumption)); walk_at "e") | (refine Same.trans ?_ (by assumption); walk_at "e"))
local macro_rules | `(tactic| walk_at "w") => `(tactic| repeat (first | refine ⟨_, rfl, ?_⟩ | refine ⟨_, _, rfl, rfl, ?_⟩ | refine ⟨_, _, _, _, rfl, rfl, SqT.of (by walk_at "h"), (by rfl), ?_⟩ | (refine fun σ2 (hσ : σ2 = _) => ?_; (try simp only [List.set_cons_succ, List.set_cons_zero] at hσ); subst hσ) | refine ⟨_, _, rfl, SqT.of (by walk_at "h"), (by rfl), ?_⟩ | refine ⟨rfl, ?_⟩ | refine ⟨_, _, rfl, ?_⟩))
local macro_rules | `(tactic| walk_at "s") => `(tactic| (intro σ hσ; simp only [start_eq, List.map_cons, List.map_nil, List.length_cons, List.length_nil, List.cons_append, List.nil_append, Nat.reduceAdd, Nat.reduceSub, List.replicate_succ, List.replicate_zero] at hσ; subst hσ))

theorem walk_zipT {a b : Addr} {xs ys : List V} (hl : xs.length = ys.length) : Walk (RZ.ItzT K a b) xs.length (fun H => SqT K H a xs ∧ SqT K H b ys) (YPair (fun i => xs[i]?) (fun i => ys[i]?)) := by
  refine ⟨fun i H hi q => ?_, fun H q => ⟨xs, ys, q.1, q.2, Or.inl (Nat.le_refl _)⟩, fun i H v H' _ q y => ?_⟩
  · have h2 : i < ys.length := by omega
    exact ⟨xs, ys, xs[i], ys[i], q.1, q.2, List.getElem?_eq_getElem hi, List.getElem?_eq_getElem h2⟩
  · obtain ⟨T, x, y', h1, h2, h3, f1, f2⟩ := y
    exact ⟨T, x, y', h1, h2, h3, f1 xs q.1, f2 ys q.2⟩
def spRPossible (K : PySem.W.Frag) : Sp := fun vs H Q _ => ∃ (r sc : Addr) (c : Cfg) (m : Mo), vs = [.ref r, .ref sc] ∧ IsRu K c H r ∧ ScAt H sc m ∧ m.made ≤ c.words.length ∧ ∀ x H', Ex H H' → H' x = some (.lst (logV (evs c m))) → Q (.ref x) H'
theorem ok_Rules_possible (u : U K mg) : Ok P w K mg base 3 (He.ma K (He.ga K "Rules") "possible") ["self", "scene"] (spRPossible K) := by
  obtain ⟨fd_Rules_finished, G_Rules_finished, kp_Rules_finished, b_Rules_finished⟩ := (ok_Rules_finished (P := P) (w := w) (base := base) u).ex
  obtain ⟨fd_Rules_heard_all, G_Rules_heard_all, kp_Rules_heard_all, b_Rules_heard_all⟩ := (ok_Rules_heard_all (P := P) (w := w) (base := base) u).ex
  obtain ⟨fd, F⟩ := u.d_Rules_possible
  refine mkOk F sc_Rules_possible (fun _ _ _ _ _ _ us hl => match us, hl with | [_, _], _ => rfl) (fun vs H Q E h => ?_) (fun cdv A outer s H vs Q E hr h => ?_)
  · obtain ⟨r, sc, c, m, rfl, hr2, hsc, hm, k⟩ := h
    rfl
  · obtain ⟨r, sc, c, m, rfl, hr2, hsc, hm, k⟩ := h
    have hu := hu_of hr
    refine ⟨_, (pss_n (ps_if (pt_val (pe_meth (pv 0) u.c_Rules u.m_Rules_finished G_Rules_finished (hr.mono (by decide)) b_Rules_finished .nil pass0 (pa_cons (pv 1) pa_nil)))
    (pss_one (ps_ret (pe_lst pa_nil)))
    pss_nil)
    (pss_n (ps_setLc (i := 2) (own := [("name", 3), ("way", 4)]) (g := (gTup K 2 (gCons (gName 3) (gCons (gName 4) gNil)))) (tt := (tTest (tOp (rNeD K) (tVar 4) (tTup tNil)))) (te := (tVar 3)) rfl sc_Rules_possible.nd rfl rfl (sw_true rfl rfl rfl (by decide +kernel)) (RZ.pi_zipA (by rfl) u.n_zip (pa_cons (pe_glob rfl u.g_ARRIVALS (show L2.RelV (.ref _) _ from rfl)) (pa_cons (pe_ix ix_tup (pv 1) pe_int (fun _ _ => rfl)) pa_nil))) (blkOk_by (N := n_Rules_possible) (sc := defScope s_Rules_possible) (by decide +kernel)) (fun _ _ _ _ _ => (pg_tup rfl (pgs_cons (pg_name (i := 3) sc_Rules_possible.nd rfl (Or.inl rfl)) (pgs_cons (pg_name (i := 4) sc_Rules_possible.nd rfl (Or.inl rfl)) pgs_nil)))) (fun _ _ _ _ _ => (pts_one (pt_cmpR (op_neD hr.units) (pv 4) (pe_tup pa_nil) (nomark _)))) (fun _ _ _ _ _ => (pv 3)))
    (pss_n (ps_set (i := 5) sc_Rules_possible.nd rfl (Or.inl rfl) (pe_ix ix_tup (pv 1) pe_int (fun _ _ => rfl)))
    (Evl.pss_cut (ps_if (PW.pt (pw_and (pt_cmpR op_lt (pv 5) (pe_callB call_len_seq (by rfl) u.n_len PySem.boot_len (pa_cons (pe_fld (pv 0) rfl) pa_nil)) (nomark _)) (pw_and1 (pt_val (pe_meth (pv 0) u.c_Rules u.m_Rules_heard_all G_Rules_heard_all (hr.mono (by decide)) b_Rules_heard_all .nil pass0 (pa_cons (pv 1) (pa_cons (pe_ix ix_tup (pe_ix ix_list (pe_fld (pv 0) rfl) (pv 5) (fun _ _ => rfl)) pe_int (fun _ _ => rfl)) pa_nil)))))))
    (pss_one (ps_expr (pe_bm PySem.F.plainAttrs_list PySem.F.slot_list_insert PySem.F.type_list_insert mt_insert (pv 2) (pa_cons pe_int (pa_cons (pe_glob rfl u.k_WRITE.choose_spec (show L2.RelV (.str "write") _ from ⟨_, rfl⟩)) pa_nil)))))
    pss_nil)
    (pss_one (ps_ret (pe_orT (pv 2) (pe_one (pe_lst (pa_cons (pe_glob rfl u.k_TIMER.choose_spec (show L2.RelV (.str "timer") _ from ⟨_, rfl⟩)) pa_nil)))))))))), ?_⟩
    walk_at "s"
    obtain ⟨dr, st, W, G, R⟩ := id hr2
    obtain ⟨S, Wt, s2, w2, q1, q2, q3, q4, q5⟩ := hsc.ex
    obtain ⟨ws, hws, hwr⟩ := R.wr
    have hn : (ws.map V.ref).length = c.words.length := by rw [List.length_map, hwr.len]; exact List.length_map _
    have harr : ∀ H, SqT K H (He.ga K "ARRIVALS") [.str "arrive 0", .str "arrive 1"] := He.tupB_ok (He.ba (He.ba u.b).2).1
    walk_at "w"
    refine ⟨_, _, _, rfl, R.ob, rn_finished _ _ _, ?_⟩
    walk_at "w"
    refine ⟨r, sc, c, m, rfl, hr2, hsc, hm, ?_⟩
    refine ⟨_, rfl, itb (fun z => ?_) (fun z => ?_)⟩
    · walk_at "w"
      refine ⟨le_sz le_r, fun D hD => ?_⟩
      refine k D _ (by walk_at "e") ?_
      unfold evs; rw [if_pos z]; exact upd_same
    · have hE : evs c m = if (if canWrite c m = true then [Ev.write] else []) ++ ([false, true].filter fun b => !(m.way b).isEmpty).map Ev.arr = [] then [.timer] else (if canWrite c m = true then [Ev.write] else []) ++ ([false, true].filter fun b => !(m.way b).isEmpty).map Ev.arr := by
        unfold evs; rw [if_neg (by rw [z]; decide)]
      clear z
      walk_at "w"
      refine ⟨_, _, [.str "arrive 0", .str "arrive 1"], [.ref (w2 false), .ref (w2 true)], rfl, Or.inr ⟨harr _, SqT.of q4, fun D hD => lc_it (walk_zipT (xs := [.str "arrive 0", .str "arrive 1"]) (ys := [.ref (w2 false), .ref (w2 true)]) rfl) (fun i H' => Ex H H' ∧ H' D = some (.lst ((([false, true].take i).filter fun b => !(m.way b).isEmpty).map fun b => V.str (Ev.arr b).str))) ?_ ?_ ?_ ?_⟩⟩
      · exact ⟨Ex.new hD, upd_same⟩
      · rintro i H' _ ⟨k1, _⟩
        exact ⟨harr _, SqT.of (k1 _ _ q4)⟩
      · rintro i x H' H3 hi ⟨k1, hl⟩ ⟨T, y1, y2, rfl, hT, rfl, hy1, hy2⟩
        obtain ⟨b, hb, _⟩ := two_at hi
        obtain ⟨rfl, rfl⟩ : y1 = .str (Ev.arr b).str ∧ y2 = .ref (w2 b) := by
          rcases two_split hb with ⟨rfl, rfl⟩ | ⟨rfl, rfl⟩
          · cases hy1; cases hy2; exact ⟨rfl, rfl⟩
          · cases hy1; cases hy2; exact ⟨rfl, rfl⟩
        have htk : List.take (i + 1) [false, true] = List.take i [false, true] ++ [b] := by rw [List.take_add_one, hb]; rfl
        have hl4 : (([false, true].take i).filter fun b => !(m.way b).isEmpty).length ≤ 2 := Nat.le_trans (List.length_filter_le _ _) (List.length_take_le' _ _)
        rw [htk, List.filter_append]
        have hw := ((q5 b).ex k1).ex (Ex.new (o := .tup [.str (Ev.arr b).str, .ref (w2 b)]) hT)
        walk_at "w"
        refine ⟨le_sz le_r, fun E2 hE2 => ?_⟩
        refine neTups (hw.ex (Ex.new hE2)) (ok_way _) upd_same ?_
        rw [wayV_emp]
        refine ⟨_, rfl, itb (fun z => ?_) (fun z => ?_)⟩
        · rw [show ([b].filter fun b => !(m.way b).isEmpty) = [b] by rw [List.filter_cons, if_pos z]; rfl, List.map_append]
          refine ⟨_, rfl, _, xn hE2 (xn hT hl), ?_, exmut (by walk_at "e") hD, upd_same⟩
          rw [List.length_map]; exact lt_sz (by omega)
        · rw [show ([b].filter fun b => !(m.way b).isEmpty) = [] by rw [List.filter_cons, if_neg (by rw [z]; decide)]; rfl, List.append_nil]
          exact ⟨by walk_at "e", xn hE2 (xn hT hl)⟩
      · rintro H1 ⟨e1, hl⟩
        have sc1 := hsc.mono e1
        have R1 := R.ex e1
        have q11 := e1 _ _ q1
        walk_at "w"
        have hcw : canWrite c m = (decide (m.made < c.words.length) && heard c m (wd c m.made).who) := rfl
        have hl2 : H1 D = some (.lst (logV (([false, true].filter fun b => !(m.way b).isEmpty).map Ev.arr))) := by
          rw [hl]; unfold logV; rw [List.map_map]; rfl
        have hln2 : (logV (([false, true].filter fun b => !(m.way b).isEmpty).map Ev.arr)).length ≤ 2 := by
          unfold logV; rw [List.length_map, List.length_map]; exact List.length_filter_le _ _
        refine ⟨fun σ' H' => σ' = [some (.ref r), some (.ref sc), some (.ref D), none, none, some (.int (m.made : Nat))] ∧ Ex H H' ∧ H' D = some (.lst (logV ((if canWrite c m = true then [Ev.write] else []) ++ ([false, true].filter fun b => !(m.way b).isEmpty).map Ev.arr))), ?_, ?_⟩
        · walk_at "w"
          refine ⟨_, _, _, _, _, rfl, R1.ob, u.c_Rules, u.a_Rules_writes, rk_writes _ _ _, ?_⟩
          refine ⟨_, _, rfl, Or.inl (SqL.of (e1 _ _ hws)), ?_⟩
          rw [hn]
          walk_at "w"
          refine itb (fun z => ?_) (fun z => ?_)
          · have z' : m.made < c.words.length := by have := of_decide_eq_true z; omega
            rw [decide_eq_true z', Bool.true_and] at hcw
            obtain ⟨pw, hpw, hpt⟩ := hwr.get (wsV_get z')
            have hat : atI (ws.map V.ref) ((m.made : Nat) : Int) = some (.ref pw) := by rw [atI_nat, List.getElem?_map, hpw]; rfl
            walk_at "w"
            refine ⟨_, _, _, rfl, R1.ob, rn_heard_all _ _ _, ?_⟩
            walk_at "w"
            refine ⟨_, _, _, _, _, rfl, R1.ob, u.c_Rules, u.a_Rules_writes, rk_writes _ _ _, ?_⟩
            walk_at "w"
            refine x_lst (e1 _ _ hws) hat ?_
            have hpt1 := e1 _ _ hpt
            walk_at "w"
            refine ⟨r, sc, c, m, (wd c m.made).who, rfl, hr2.ex e1, sc1, hm, ?_⟩
            refine ⟨_, rfl, itb (fun z2 => ?_) (fun z2 => ?_)⟩
            · rw [z2] at hcw
              rw [if_pos hcw]
              walk_at "w"
              refine ⟨tyl hl2, ?_⟩
              walk_at "w"
              refine ⟨D, _, 0, .str "write", rfl, rfl, hl2, lt_sz (by omega), by decide, by decide, rfl, exmut e1 hD, ?_⟩
              rw [upd_same]; rfl
            · rw [z2] at hcw
              rw [if_neg (by rw [hcw]; decide)]
              exact ⟨rfl, e1, hl2⟩
          · have z' : ¬ m.made < c.words.length := by have := of_decide_eq_false z; omega
            rw [decide_eq_false z', Bool.false_and] at hcw
            rw [if_neg (by rw [hcw]; decide)]
            exact itf rfl ⟨rfl, e1, hl2⟩
        · rintro _ H2 ⟨rfl, e2, hD2⟩
          generalize (if canWrite c m = true then [Ev.write] else []) ++ ([false, true].filter fun b => !(m.way b).isEmpty).map Ev.arr = F0 at *
          walk_at "w"
          refine ⟨!(logV F0).isEmpty, Or.inl ⟨_, SqL.of hD2, rfl⟩, itb (fun z => ?_) (fun z => ?_)⟩
          · have hF0 : F0 ≠ [] := fun e => by rw [e] at z; cases z
            rw [if_neg hF0] at hE
            exact k D H2 e2 (by rw [hE]; exact hD2)
          · have hF0 : F0 = [] := by cases F0 with
              | nil => rfl
              | cons a l => cases z
            rw [if_pos hF0] at hE
            refine ⟨le_sz le_r, fun E3 hE3 => ?_⟩
            exact k E3 _ (e2.trans (Ex.new hE3)) (by rw [hE]; exact upd_same)
end
end Lw
namespace Lw
open PySem PySem.Spec PyProof.Rows L2
section
variable {P : Program} {w : World} {K : PySem.W.Frag} {mg : Str → Option Value} {base : Heap}
local macro_rules | `(tactic| walk_at "h") => `(tactic| first | assumption | exact upd_same | (refine xn (by assumption) ?_; walk_at "h") | (refine exapp (by assumption) ?_; walk_at "h"))
local macro_rules | `(tactic| walk_at "e") => `(tactic| first | exact Same.refl _ | assumption | (refine Same.trans ?_ (Ex.new (by assumption)); walk_at "e") | (refine Same.trans ?_ (by assumption); walk_at "e"))
local macro_rules | `(tactic| walk_at "w") => `(tactic| repeat (first | refine ⟨_, rfl, ?_⟩ | refine ⟨_, _, rfl, rfl, ?_⟩ | refine ⟨_, _, _, _, rfl, rfl, SqT.of (by walk_at "h"), (by rfl), ?_⟩ | (refine fun σ2 (hσ : σ2 = _) => ?_; (try simp only [List.set_cons_succ, List.set_cons_zero] at hσ); subst hσ) | refine ⟨_, _, rfl, SqT.of (by walk_at "h"), (by rfl), ?_⟩ | refine ⟨rfl, ?_⟩ | refine ⟨_, _, rfl, ?_⟩))
local macro_rules | `(tactic| walk_at "s") => `(tactic| (intro σ hσ; simp only [start_eq, List.map_cons, List.map_nil, List.length_cons, List.length_nil, List.cons_append, List.nil_append, Nat.reduceAdd, Nat.reduceSub, List.replicate_succ, List.replicate_zero] at hσ; subst hσ))

def PreR (c : Cfg) (m : Mo) (e : Ev) : Prop := Pre c m e ∧ ∀ b, ∀ x ∈ m.way b, 0 ≤ x.1
def spAfter (K : PySem.W.Frag) : Sp := fun vs H Q _ => ∃ (r sc : Addr) (c : Cfg) (m : Mo) (e : Ev), vs = [.ref r, .ref sc, .str e.str] ∧ IsRu K c H r ∧ ScAt H sc m ∧ PreR c m e ∧ ∀ t H', Ex H H' → ScAt H' t (step c e m) → Q (.ref t) H'
theorem DrM.new {c : Cfg} {H0 H : Hp} {f : Fr} (fr : ∀ a ∈ f.ft, a ≠ f.M → H0 a = none) (hM : H0 f.M = none) : ∀ a ∈ f.ft, H0 a = none := fun a ha => by
  by_cases z : a = f.M
  · rw [z]; exact hM
  · exact fr a ha z
theorem ok_Rules_after (u : U K mg) : Ok P w K mg base 5 (He.ma K (He.ga K "Rules") "after") ["self", "scene", "event"] (spAfter K) := by
  obtain ⟨fd_Draft__init, G_Draft__init, kp_Draft__init, b_Draft__init⟩ := (ok_Draft__init (P := P) (w := w) (base := base) u).ex
  obtain ⟨fd_Draft_write, G_Draft_write, kp_Draft_write, b_Draft_write⟩ := (ok_Draft_write (P := P) (w := w) (base := base) u).ex
  obtain ⟨fd_Draft_fire, G_Draft_fire, kp_Draft_fire, b_Draft_fire⟩ := (ok_Draft_fire (P := P) (w := w) (base := base) u).ex
  obtain ⟨fd_Draft_arrive, G_Draft_arrive, kp_Draft_arrive, b_Draft_arrive⟩ := (ok_Draft_arrive (P := P) (w := w) (base := base) u).ex
  obtain ⟨fd_Draft_packed, G_Draft_packed, kp_Draft_packed, b_Draft_packed⟩ := (ok_Draft_packed (P := P) (w := w) (base := base) u).ex
  obtain ⟨fd, F⟩ := u.d_Rules_after
  refine mkOk F sc_Rules_after (fun _ _ _ _ _ _ us hl => match us, hl with | [_, _, _], _ => rfl) (fun vs H Q E h => ?_) (fun cdv A outer s H vs Q E hr h => ?_)
  · obtain ⟨r, sc, c, m, e, rfl, hr2, hsc, hp, k⟩ := h
    rfl
  · obtain ⟨r, sc, c, m, e, rfl, hr2, hsc, hp, k⟩ := h
    have hu := hu_of hr
    refine ⟨_, (pss_n (ps_set (i := 3) sc_Rules_after.nd rfl (Or.inl rfl) (pe_make u.mk_Draft G_Draft__init (hr.mono (by decide)) (by rfl) u.g_Draft b_Draft__init .nil pass0 (pa_cons (pe_fld (pv 0) rfl) (pa_cons (pv 1) pa_nil))))
    (pss_n (ps_if (pt_cmpR op_eq (pv 2) (pe_glob rfl u.k_WRITE.choose_spec (show L2.RelV (.str "write") _ from ⟨_, rfl⟩)) (nomark _))
    (pss_n (ps_asg (pe_ix ix_list (pe_fld (pv 0) rfl) (pe_fld (pv 3) rfl) (fun _ _ => rfl)) (pg_tup rfl (pgs_cons (pg_name (i := 4) sc_Rules_after.nd rfl (Or.inl rfl)) (pgs_cons (pg_name (i := 5) sc_Rules_after.nd rfl (Or.inl rfl)) (pgs_cons (pg_name (i := 6) sc_Rules_after.nd rfl (Or.inl rfl)) pgs_nil)))))
    (pss_n (ps_expr (pe_meth (pv 3) u.c_Draft u.m_Draft_write G_Draft_write (hr.mono (by decide)) b_Draft_write .nil pass0 (pa_cons (pv 4) (pa_cons (pv 5) (pa_cons (pv 6) pa_nil)))))
    (pss_one (ps_fldaug (pv 3) pe_int in_add))))
    (pss_one (ps_if (pt_cmpR op_eq (pv 2) (pe_glob rfl u.k_TIMER.choose_spec (show L2.RelV (.str "timer") _ from ⟨_, rfl⟩)) (nomark _))
    (pss_one (ps_expr (pe_meth (pv 3) u.c_Draft u.m_Draft_fire G_Draft_fire (hr.mono (by decide)) b_Draft_fire .nil pass0 (pa_cons (pe_ix ix_tup (pe_ix ix_list (pe_fld (pv 0) rfl) (pe_op op_sub (pe_fld (pv 3) rfl) pe_int) (fun _ _ => rfl)) pe_int (fun _ _ => rfl)) pa_nil))))
    (pss_one (ps_expr (pe_meth (pv 3) u.c_Draft u.m_Draft_arrive G_Draft_arrive (hr.mono (by decide)) b_Draft_arrive .nil pass0 (pa_cons (pe_bm PySem.F.plainAttrs_tuple PySem.F.slot_tuple_index PySem.F.type_tuple_index mt_tup_index (pe_glob rfl u.g_ARRIVALS (show L2.RelV (.ref _) _ from rfl)) (pa_cons (pv 2) pa_nil)) pa_nil)))))))
    (pss_one (ps_ret (pe_meth0 (pv 3) u.c_Draft u.m_Draft_packed G_Draft_packed (hr.mono (by decide)) b_Draft_packed .nil pass0))))), ?_⟩
    walk_at "s"
    obtain ⟨hp, h0⟩ := hp
    obtain ⟨dr, st, W, G, R⟩ := id hr2
    obtain ⟨ws, hws, hwr⟩ := R.wr
    walk_at "w"
    refine ⟨_, _, _, _, _, rfl, R.ob, u.c_Rules, u.a_Rules_setting, rk_setting _ _ _, ?_⟩
    walk_at "w"
    intro x dm hx hdm hne
    refine ⟨x, dm, st, sc, c, m, rfl, upd_same, R.se.ex (updEx2 hx hdm), hsc.mono (updEx2 hx hdm), fun f H1 hfM kp1 hfr M1 => ⟨rfl, ?_⟩⟩
    subst hfM
    have e1 := mkEx hx hdm hne kp1
    have frs : ∀ a ∈ f.ft, H a = none := fun a ha => by
      by_cases z : a = f.M
      · rw [z]; exact hx
      · have h := hfr a ha z
        by_cases z2 : a = dm
        · rw [z2]; exact hdm
        · rw [upd_ne z, upd_ne z2] at h; exact h
    have old : ∀ {H' : Hp}, Kp f.ft H1 H' → Ex H H' := fun kp => kp.ex e1 frs
    clear hfr kp1
    have R1 := R.ex e1
    have hws1 := e1 _ _ hws
    have hwr1 := hwr.ex e1
    obtain ⟨st0, dm0, dx0, L⟩ := id M1
    cases e with
    | write =>
      obtain ⟨h1, h2, h3, h4, h5⟩ := hp
      obtain ⟨pw, hpw, hpt⟩ := hwr1.get (wsV_get h1)
      have hat : atI (ws.map V.ref) ((m.made : Nat) : Int) = some (.ref pw) := by rw [atI_nat, List.getElem?_map, hpw]; rfl
      have hmade : (dwr c (wd c m.made) m).made = m.made := by
        have h := congrArg Mo.stalls (dwr_write c m)
        unfold dwr
        rw [(wTail_made _ _ _ _).1, (sends_facts h2 _ _ _).2.2.1]; rfl
      have hdw := dwr_write c m
      generalize hw : wd c m.made = x at *
      walk_at "w"
      refine ⟨_, _, _, _, _, rfl, R1.ob, u.c_Rules, u.a_Rules_writes, rk_writes _ _ _, ?_⟩
      walk_at "w"
      refine L.getM u.c_Draft u.a_Draft_made (dk_made _ _ _ _ _) ?_
      walk_at "w"
    
      refine x_lst hws1 hat ?_
      walk_at "w"
      refine ⟨_, _, _, rfl, L.bx.mo, dn_write _ _ _ _ _, ?_⟩
      walk_at "w"
    
      refine ⟨f, c, m, x, rfl, M1, h2, (by rw [← hw]; rw [hw]; exact h3), h4, h5, fun H2 kp2 M2 => ?_⟩
      obtain ⟨st2, dm2, dx2, L2⟩ := M2
      rw [hmade] at L2
      walk_at "w"
      refine L2.augM u.c_Draft u.a_Draft_made (dk_made _ _ _ _ _) ?_
      walk_at "w"
      refine L2.augM2 (dp_made st2 f.SL f.WL m.made (m.made + 1) _) fun H3 kp3 L3 => ?_
      walk_at "w"
      refine ⟨_, _, _, rfl, L3.bx.mo, dn_packed _ _ _ _ _, ?_⟩
      refine ⟨f, c, mkd (m.made + 1) (dwr c x m), rfl, ⟨st2, dm2, dx2, L3⟩, fun t H4 e4 ht => ?_⟩
      exact k t H4 ((old (kp2.trans kp3)).trans e4) (by rw [hdw] at ht; exact ht)
    | timer =>
      obtain ⟨h1, h2, h3⟩ := hp
      obtain ⟨pw, hpw, hpt⟩ := hwr1.get (wsV_get (show m.made - 1 < c.words.length by omega))
      have hat : atI (ws.map V.ref) ((m.made : Nat) - 1 : Int) = some (.ref pw) := by
        rw [show ((m.made : Nat) - 1 : Int) = ((m.made - 1 : Nat) : Int) by omega, atI_nat, List.getElem?_map, hpw]; rfl
      walk_at "w"
      refine ⟨_, _, _, rfl, L.bx.mo, dn_fire _ _ _ _ _, ?_⟩
      walk_at "w"
    
      refine ⟨_, _, _, _, _, rfl, R1.ob, u.c_Rules, u.a_Rules_writes, rk_writes _ _ _, ?_⟩
      walk_at "w"
      refine L.getM u.c_Draft u.a_Draft_made (dk_made _ _ _ _ _) ?_
      walk_at "w"
    
      refine x_lst hws1 hat ?_
      walk_at "w"
      refine ⟨f, c, m, rfl, M1, h3, fun H2 kp2 M2 => ?_⟩
      obtain ⟨st2, dm2, dx2, L2⟩ := id M2
      walk_at "w"
      refine ⟨_, _, _, rfl, L2.bx.mo, dn_packed _ _ _ _ _, ?_⟩
      exact ⟨f, c, fire c m, rfl, M2, fun t H4 e4 ht => k t H4 ((old kp2).trans e4) ht⟩
    | arr a =>
      obtain ⟨h1, h2⟩ := hp
      have harr : SqT K H1 (He.ga K "ARRIVALS") [.str "arrive 0", .str "arrive 1"] := He.tupB_ok (He.ba (He.ba u.b).2).1 H1
      walk_at "w"
      refine itf (str_aw a) ?_
      walk_at "w"
      refine itf (str_at a) ?_
      walk_at "w"
      refine ⟨_, _, _, rfl, L.bx.mo, dn_arrive _ _ _ _ _, ?_⟩
      walk_at "w"
    
      have hty : tyV K "tuple" (.ref (He.ga K "ARRIVALS")) H1 := by
        have hd := (He.ba (He.ba u.b).1).2
        unfold noDict at hd
        cases q : K.lookup (He.ga K "ARRIVALS") with
        | none => rw [q] at hd; cases hd
        | some o =>
          rw [q] at hd
          obtain ⟨h1, h2⟩ := He.ba hd
          refine Or.inr (Or.inl ⟨rfl, o, q, of_decide_eq_true h1, ?_⟩)
          cases e : o.dict with
          | none => rfl
          | some d => rw [e] at h2; cases h2
      have hin : ∃ j : Nat, ([("arrive 0" : Str), "arrive 1"])[j]? = some (Ev.arr a).str ∧ (∀ m, m < j → ([("arrive 0" : Str), "arrive 1"])[m]? ≠ some (Ev.arr a).str) ∧ ((j : Nat) : Int) = wI a := by
        cases a
        · exact ⟨0, rfl, fun m hm => absurd hm (Nat.not_lt_zero _), rfl⟩
        · refine ⟨1, rfl, fun m hm => ?_, rfl⟩
          obtain rfl : m = 0 := by omega
          intro z
          have z2 : (Ev.arr false).str = (Ev.arr true).str := Option.some.inj z
          cases ev_inj z2
      obtain ⟨j, hj1, hj2, hj3⟩ := hin
      refine ⟨hty, ?_⟩
      walk_at "w"
      refine ⟨_, ["arrive 0", "arrive 1"], _, j, rfl, rfl, harr, hj1, hj2, ?_⟩
      rw [hj3]
      refine ⟨f, c, m, a, rfl, M1, h1, h0 a, h2, fun v H2 hv kp2 M2 => ?_⟩
      obtain ⟨st2, dm2, dx2, L2⟩ := id M2
      walk_at "w"
      refine ⟨_, _, _, rfl, L2.bx.mo, dn_packed _ _ _ _ _, ?_⟩
      exact ⟨f, c, arrive c a m, rfl, M2, fun t H4 e4 ht => k t H4 ((old kp2).trans e4) ht⟩
end
end Lw
namespace Lw
open PySem PySem.Spec PyProof.Rows L2
section
variable {P : Program} {w : World} {K : PySem.W.Frag} {mg : Str → Option Value} {base : Heap}
local macro_rules | `(tactic| walk_at "h") => `(tactic| first | assumption | exact upd_same | (refine xn (by assumption) ?_; walk_at "h") | (refine exapp (by assumption) ?_; walk_at "h"))
local macro_rules | `(tactic| walk_at "e") => `(tactic| first | exact Same.refl _ | assumption | (refine Same.trans ?_ (Ex.new (by assumption)); walk_at "e") | (refine Same.trans ?_ (by assumption); walk_at "e"))
local macro_rules | `(tactic| walk_at "w") => `(tactic| repeat (first | refine ⟨_, rfl, ?_⟩ | refine ⟨_, _, rfl, rfl, ?_⟩ | refine ⟨_, _, _, _, rfl, rfl, SqT.of (by walk_at "h"), (by rfl), ?_⟩ | (refine fun σ2 (hσ : σ2 = _) => ?_; (try simp only [List.set_cons_succ, List.set_cons_zero] at hσ); subst hσ) | refine ⟨_, _, rfl, SqT.of (by walk_at "h"), (by rfl), ?_⟩ | refine ⟨rfl, ?_⟩ | refine ⟨_, _, rfl, ?_⟩))
local macro_rules | `(tactic| walk_at "s") => `(tactic| (intro σ hσ; simp only [start_eq, List.map_cons, List.map_nil, List.length_cons, List.length_nil, List.cons_append, List.nil_append, Nat.reduceAdd, Nat.reduceSub, List.replicate_succ, List.replicate_zero] at hσ; subst hσ))

def roF (RU SC DL : Addr) : List (Str × V) := [("rules", .ref RU), ("scenes", .ref SC), ("deeds", .ref DL), ("floor", .int 0)]
theorem ok_rules (RU SC DL : Addr) : (roF RU SC DL).lookup ("rules" : Str) = some (.ref RU) := by kernel_rfl
theorem ok_scenes (RU SC DL : Addr) : (roF RU SC DL).lookup ("scenes" : Str) = some (.ref SC) := by kernel_rfl
theorem ok_deeds (RU SC DL : Addr) : (roF RU SC DL).lookup ("deeds" : Str) = some (.ref DL) := by kernel_rfl
/-- a road: its last scene and its deeds -/
structure RoAt (K : PySem.W.Frag) (c : Cfg) (H : Hp) (r dr RU SC DL : Addr) (x : ML) : Prop where
  ob : H r = some (.ins (He.ga K "Road") dr (roF RU SC DL))
  ru : ∃ d2 st W G, RuAt K c H RU d2 st W G ∧ W ≠ SC ∧ W ≠ DL ∧ G ≠ SC ∧ G ≠ DL
  ne : SC ≠ DL
  sc : ∃ (ps : List V) (s : Addr), H SC = some (.lst (ps ++ [.ref s])) ∧ ScAt H s x.1 ∧ ps.length = x.2.length
  de : H DL = some (.lst (logV x.2))
theorem RoAt.ex {c : Cfg} {H H' : Hp} {r dr RU SC DL : Addr} {x : ML} (h : RoAt K c H r dr RU SC DL x) (e : Ex H H') : RoAt K c H' r dr RU SC DL x :=
  ⟨e _ _ h.ob, let ⟨d2, st, W, G, R, q⟩ := h.ru; ⟨d2, st, W, G, R.ex e, q⟩, h.ne, let ⟨ps, s, a, b, d⟩ := h.sc; ⟨ps, s, e _ _ a, b.mono e, d⟩, e _ _ h.de⟩
theorem RoAt.is {c : Cfg} {H : Hp} {r dr RU SC DL : Addr} {x : ML} (h : RoAt K c H r dr RU SC DL x) : IsRu K c H RU := let ⟨d2, st, W, G, R, _⟩ := h.ru; ⟨d2, st, W, G, R⟩
theorem SetAt.updl {c : Cfg} {H : Hp} {a d2 pt D : Addr} {ps ds : Bool → Addr} {xs : List V} {o : HO} (h : SetAt K c H a d2 pt ps ds) (hD : H D = some (.lst xs)) : SetAt K c (upd H D o) a d2 pt ps ds :=
  ⟨by rw [upd_ne (fun z => by have := h.ob; rw [z, hD] at this; cases this)]; exact h.ob, by rw [upd_ne (fun z => by have := h.tu; rw [z, hD] at this; cases this)]; exact h.tu, fun b => by rw [upd_ne (fun z => by have := h.pol b; rw [z, hD] at this; cases this)]; exact h.pol b⟩
theorem RuAt.updl {c : Cfg} {H : Hp} {r dr st W G D : Addr} {xs : List V} {o : HO} (h : RuAt K c H r dr st W G) (hD : H D = some (.lst xs)) (h1 : W ≠ D) (h2 : G ≠ D) : RuAt K c (upd H D o) r dr st W G :=
  ⟨by rw [upd_ne (fun z => by have := h.ob; rw [z, hD] at this; cases this)]; exact h.ob, let ⟨d, p, ps, ds, S⟩ := h.se; ⟨d, p, ps, ds, S.updl hD⟩, h.wr.off (fun xs z => by rw [hD] at z; cases z) h1, h.gi.off (fun xs z => by rw [hD] at z; cases z) h2⟩
theorem TupT.updl {H : Hp} {a D : Addr} {rs : List (List V)} {xs : List V} {o : HO} (h : TupT H a rs) (hD : H D = some (.lst xs)) : TupT (upd H D o) a rs :=
  let ⟨ps, p, q⟩ := h
  ⟨ps, by rw [upd_ne (fun z => by rw [z, hD] at p; cases p)]; exact p, q.updl hD⟩
theorem ScAt.updl {H : Hp} {s D : Addr} {m : Mo} {xs : List V} {o : HO} (h : ScAt H s m) (hD : H D = some (.lst xs)) : ScAt (upd H D o) s m := by
  obtain ⟨S, W, s2, w2, q1, q2, q3, q4, q5⟩ := h.ex
  have k : ∀ {b : Addr} {ys : List V}, H b = some (.tup ys) → upd H D o b = some (.tup ys) := fun p => by rw [upd_ne (fun z => by rw [z, hD] at p; cases p)]; exact p
  exact ⟨S, W, s2, w2, k q1, k q2, fun b => k (q3 b), k q4, fun b => (q5 b).updl hD⟩
def spRoadLog (K : PySem.W.Frag) : Sp := fun vs H Q _ => ∃ (r dr RU SC DL : Addr) (c : Cfg) (x : ML), vs = [.ref r] ∧ RoAt K c H r dr RU SC DL x ∧ ∀ l H', Ex H H' → H' l = some (.lst (logV x.2)) → Q (.ref l) H'
theorem ok_Road_log (u : U K mg) : Ok P w K mg base 1 (He.ma K (He.ga K "Road") "log") ["self"] (spRoadLog K) := by
  obtain ⟨fd, F⟩ := u.d_Road_log
  refine mkOk F sc_Road_log (fun _ _ _ _ _ _ us hl => match us, hl with | [_], _ => rfl) (fun vs H Q E h => ?_) (fun cdv A outer s H vs Q E hr h => ?_)
  · obtain ⟨r, dr, RU, SC, DL, c, x, rfl, hr2, k⟩ := h
    rfl
  · obtain ⟨r, dr, RU, SC, DL, c, x, rfl, hr2, k⟩ := h
    have hu := hu_of hr
    refine ⟨_, (pss_one (ps_ret (pe_callTy call_list_of (by rfl) u.n_list PyProof.Rows.boot_list (pa_cons (pe_fld (pv 0) rfl) pa_nil)))), ?_⟩
    walk_at "s"
    refine ⟨_, rfl, _, _, _, _, _, rfl, hr2.ob, u.c_Road, u.a_Road_deeds, ok_deeds _ _ _, ?_⟩
    refine ⟨_, _, rfl, Or.inl (SqL.of hr2.de), fun l hl => ?_⟩
    exact k l _ (Ex.new hl) upd_same

def spWayFrom (K : PySem.W.Frag) : Sp := fun vs H Q _ => ∃ (r dr RU SC DL : Addr) (c : Cfg) (x : ML) (b : Bool), vs = [.ref r, .int (wI b)] ∧ RoAt K c H r dr RU SC DL x ∧ ∀ l H', Ex H H' → LstT H' l (wayV (x.1.way b)) → Q (.ref l) H'
theorem ok_Road_way_from (u : U K mg) : Ok P w K mg base 1 (He.ma K (He.ga K "Road") "way_from") ["self", "endpoint"] (spWayFrom K) := by
  obtain ⟨fd, F⟩ := u.d_Road_way_from
  refine mkOk F sc_Road_way_from (fun _ _ _ _ _ _ us hl => match us, hl with | [_, _], _ => rfl) (fun vs H Q E h => ?_) (fun cdv A outer s H vs Q E hr h => ?_)
  · obtain ⟨r, dr, RU, SC, DL, c, x, b, rfl, hr2, k⟩ := h
    rfl
  · obtain ⟨r, dr, RU, SC, DL, c, x, b, rfl, hr2, k⟩ := h
    have hu := hu_of hr
    refine ⟨_, (pss_one (ps_ret (pe_callTy call_list_of (by rfl) u.n_list PyProof.Rows.boot_list (pa_cons (pe_ix ix_tup (pe_ix ix_tup (pe_ix ix_list (pe_fld (pv 0) rfl) (pe_un un_neg pe_int) (fun _ _ => rfl)) pe_int (fun _ _ => rfl)) (pv 1) (fun _ _ => rfl)) pa_nil)))), ?_⟩
    walk_at "s"
    obtain ⟨ps, s, hsc, hs, _⟩ := hr2.sc
    obtain ⟨S, W, s2, w2, q1, q2, q3, q4, q5⟩ := hs.ex
    obtain ⟨pp, hpp, hrr⟩ := q5 b
    refine ⟨_, rfl, _, _, _, _, _, rfl, hr2.ob, u.c_Road, u.a_Road_scenes, ok_scenes _ _ _, ?_⟩
    walk_at "w"
    refine ⟨SC, _, _, _, rfl, rfl, SqL.of hsc, atI_last _ _, ?_⟩
    walk_at "w"
    refine ⟨W, _, _, _, rfl, rfl, SqT.of q4, (show atI [V.ref (w2 false), V.ref (w2 true)] (wI b) = some (.ref (w2 b)) by cases b <;> rfl), ?_⟩
    refine ⟨_, _, rfl, Or.inr (SqT.of hpp), fun l hl => ?_⟩
    exact k l _ (Ex.new hl) ⟨pp, upd_same, hrr.ex (Ex.new hl)⟩

def spIsOver (K : PySem.W.Frag) : Sp := fun vs H Q _ => ∃ (r dr RU SC DL : Addr) (c : Cfg) (x : ML), vs = [.ref r] ∧ RoAt K c H r dr RU SC DL x ∧ x.1.made ≤ c.words.length ∧ Q (.bl (over c x.1)) H
theorem ok_Road_is_over (u : U K mg) : Ok P w K mg base 3 (overG K) ["self"] (spIsOver K) := by
  obtain ⟨fd_Rules_finished, G_Rules_finished, kp_Rules_finished, b_Rules_finished⟩ := (ok_Rules_finished (P := P) (w := w) (base := base) u).ex
  obtain ⟨fd, F⟩ := u.d_Road_is_over
  refine mkOk F sc_Road_is_over (fun _ _ _ _ _ _ us hl => match us, hl with | [_], _ => rfl) (fun vs H Q E h => ?_) (fun cdv A outer s H vs Q E hr h => ?_)
  · obtain ⟨r, dr, RU, SC, DL, c, x, rfl, hr2, hm, k⟩ := h
    rfl
  · obtain ⟨r, dr, RU, SC, DL, c, x, rfl, hr2, hm, k⟩ := h
    have hu := hu_of hr
    refine ⟨_, (pss_one (ps_ret (pe_meth (pe_fld (pv 0) rfl) u.c_Rules u.m_Rules_finished G_Rules_finished (hr.mono (by decide)) b_Rules_finished .nil pass0 (pa_cons (pe_ix ix_list (pe_fld (pv 0) rfl) (pe_un un_neg pe_int) (fun _ _ => rfl)) pa_nil)))), ?_⟩
    walk_at "s"
    obtain ⟨ps, s, hsc, hs, _⟩ := hr2.sc
    obtain ⟨d2, st, W, G, R⟩ := hr2.is
    refine ⟨_, rfl, _, _, _, _, _, rfl, hr2.ob, u.c_Road, u.a_Road_rules, ok_rules _ _ _, ?_⟩
    refine ⟨_, _, _, rfl, R.ob, rn_finished _ _ _, ?_⟩
    refine ⟨_, rfl, _, _, _, _, _, rfl, hr2.ob, u.c_Road, u.a_Road_scenes, ok_scenes _ _ _, ?_⟩
    walk_at "w"
    refine ⟨SC, _, _, _, rfl, rfl, SqL.of hsc, atI_last _ _, ?_⟩
    exact ⟨RU, s, c, x.1, rfl, hr2.is, hs, hm, k⟩

def spRoPossible (K : PySem.W.Frag) : Sp := fun vs H Q _ => ∃ (r dr RU SC DL : Addr) (c : Cfg) (x : ML), vs = [.ref r] ∧ RoAt K c H r dr RU SC DL x ∧ x.1.made ≤ c.words.length ∧ ∀ l H', Ex H H' → H' l = some (.lst (logV (evs c x.1))) → Q (.ref l) H'
theorem ok_Road_possible (u : U K mg) : Ok P w K mg base 4 (He.ma K (He.ga K "Road") "possible") ["self"] (spRoPossible K) := by
  obtain ⟨fd_Rules_possible, G_Rules_possible, kp_Rules_possible, b_Rules_possible⟩ := (ok_Rules_possible (P := P) (w := w) (base := base) u).ex
  obtain ⟨fd, F⟩ := u.d_Road_possible
  refine mkOk F sc_Road_possible (fun _ _ _ _ _ _ us hl => match us, hl with | [_], _ => rfl) (fun vs H Q E h => ?_) (fun cdv A outer s H vs Q E hr h => ?_)
  · obtain ⟨r, dr, RU, SC, DL, c, x, rfl, hr2, hm, k⟩ := h
    rfl
  · obtain ⟨r, dr, RU, SC, DL, c, x, rfl, hr2, hm, k⟩ := h
    have hu := hu_of hr
    refine ⟨_, (pss_one (ps_ret (pe_meth (pe_fld (pv 0) rfl) u.c_Rules u.m_Rules_possible G_Rules_possible (hr.mono (by decide)) b_Rules_possible .nil pass0 (pa_cons (pe_ix ix_list (pe_fld (pv 0) rfl) (pe_un un_neg pe_int) (fun _ _ => rfl)) pa_nil)))), ?_⟩
    walk_at "s"
    obtain ⟨ps, s, hsc, hs, _⟩ := hr2.sc
    obtain ⟨d2, st, W, G, R⟩ := hr2.is
    refine ⟨_, rfl, _, _, _, _, _, rfl, hr2.ob, u.c_Road, u.a_Road_rules, ok_rules _ _ _, ?_⟩
    refine ⟨_, _, _, rfl, R.ob, rn_possible _ _ _, ?_⟩
    refine ⟨_, rfl, _, _, _, _, _, rfl, hr2.ob, u.c_Road, u.a_Road_scenes, ok_scenes _ _ _, ?_⟩
    walk_at "w"
    refine ⟨SC, _, _, _, rfl, rfl, SqL.of hsc, atI_last _ _, ?_⟩
    exact ⟨RU, s, c, x.1, rfl, hr2.is, hs, hm, k⟩
end
end Lw
namespace Lw
open PySem PySem.Spec PyProof.Rows L2
section
variable {P : Program} {w : World} {K : PySem.W.Frag} {mg : Str → Option Value} {base : Heap}
local macro_rules | `(tactic| walk_at "h") => `(tactic| first | assumption | exact upd_same | (refine xn (by assumption) ?_; walk_at "h") | (refine exapp (by assumption) ?_; walk_at "h"))
local macro_rules | `(tactic| walk_at "e") => `(tactic| first | exact Same.refl _ | assumption | (refine Same.trans ?_ (Ex.new (by assumption)); walk_at "e") | (refine Same.trans ?_ (by assumption); walk_at "e"))
local macro_rules | `(tactic| walk_at "w") => `(tactic| repeat (first | refine ⟨_, rfl, ?_⟩ | refine ⟨_, _, rfl, rfl, ?_⟩ | refine ⟨_, _, _, _, rfl, rfl, SqT.of (by walk_at "h"), (by rfl), ?_⟩ | (refine fun σ2 (hσ : σ2 = _) => ?_; (try simp only [List.set_cons_succ, List.set_cons_zero] at hσ); subst hσ) | refine ⟨_, _, rfl, SqT.of (by walk_at "h"), (by rfl), ?_⟩ | refine ⟨rfl, ?_⟩ | refine ⟨_, _, rfl, ?_⟩))
local macro_rules | `(tactic| walk_at "s") => `(tactic| (intro σ hσ; simp only [start_eq, List.map_cons, List.map_nil, List.length_cons, List.length_nil, List.cons_append, List.nil_append, Nat.reduceAdd, Nat.reduceSub, List.replicate_succ, List.replicate_zero] at hσ; subst hσ))

theorem on_possible (RU SC DL : Addr) : (roF RU SC DL).lookup ("possible" : Str) = none := by kernel_rfl
theorem in_log {l : List Ev} {e : Ev} (h : e ∈ l) : inV (.str e.str) (logV l) = true := by
  unfold inV
  rw [List.any_eq_true]
  exact ⟨.str e.str, List.mem_map.mpr ⟨e, h, rfl⟩, by simp [eqV]⟩
theorem flat_log (l : List Ev) : (logV l).all flatV = true := by
  unfold logV
  rw [List.all_map, List.all_eq_true]
  intro x _; rfl
def spRoadDo (K : PySem.W.Frag) : Sp := fun vs H Q _ => ∃ (r dr RU SC DL : Addr) (c : Cfg) (x : ML) (e : Ev), vs = [.ref r, .str e.str] ∧ RoAt K c H r dr RU SC DL x ∧ x.1.made ≤ c.words.length ∧ e ∈ evs c x.1 ∧ PreR c x.1 e ∧ x.2.length < 90000 ∧
  ∀ v H', Kp [SC, DL] H H' → RoAt K c H' r dr RU SC DL (does c e x) → Q v H'
theorem ok_Road_do (u : U K mg) : Ok P w K mg base 6 (He.ma K (He.ga K "Road") "do") ["self", "event"] (spRoadDo K) := by
  obtain ⟨fd_Road_possible, G_Road_possible, kp_Road_possible, b_Road_possible⟩ := (ok_Road_possible (P := P) (w := w) (base := base) u).ex
  obtain ⟨fd_Rules_after, G_Rules_after, kp_Rules_after, b_Rules_after⟩ := (ok_Rules_after (P := P) (w := w) (base := base) u).ex
  obtain ⟨fd, F⟩ := u.d_Road_do
  refine mkOk F sc_Road_do (fun _ _ _ _ _ _ us hl => match us, hl with | [_, _], _ => rfl) (fun vs H Q E h => ?_) (fun cdv A outer s H vs Q E hr h => ?_)
  · obtain ⟨r, dr, RU, SC, DL, c, x, e, rfl, hr2, hm, he, hp, hl, k⟩ := h
    rfl
  · obtain ⟨r, dr, RU, SC, DL, c, x, e, rfl, hr2, hm, he, hp, hl, k⟩ := h
    have hu := hu_of hr
    refine ⟨_, (pss_n (ps_if (PW.pt (pw_or (pt_not (pt_val (pe_callB call_isi (by rfl) u.n_isinstance boot_isinstance (pa_cons (pv 1) (pa_cons (pe_bltn (by rfl) u.n_str PyProof.Rows.boot_str (show L2.RelV (.ty "str") _ from rfl)) pa_nil))))) (pw_or1 (pt_cmpR op_notIn_seq (pv 1) (pe_meth0 (pv 0) u.c_Road u.m_Road_possible G_Road_possible (hr.mono (by decide)) b_Road_possible .nil pass0) (by with_unfolding_all rfl)))))
    (pss_one ps_never)
    pss_nil)
    (pss_n (ps_expr (pe_bm PySem.F.plainAttrs_list PySem.F.slot_list_append PySem.F.type_list_append mt_append (pe_fld (pv 0) rfl) (pa_cons (pe_meth (pe_fld (pv 0) rfl) u.c_Rules u.m_Rules_after G_Rules_after (hr.mono (by decide)) b_Rules_after .nil pass0 (pa_cons (pe_ix ix_list (pe_fld (pv 0) rfl) (pe_un un_neg pe_int) (fun _ _ => rfl)) (pa_cons (pv 1) pa_nil))) pa_nil)))
    (pss_one (ps_expr (pe_bm PySem.F.plainAttrs_list PySem.F.slot_list_append PySem.F.type_list_append mt_append (pe_fld (pv 0) rfl) (pa_cons (pv 1) pa_nil)))))), ?_⟩
    walk_at "s"
    walk_at "w"
    refine ⟨_, _, _, _, true, rfl, .ty "str", .base (.str _), kit_ty (by decide +kernel), true, rfl, ?_⟩
    walk_at "w"
    refine ⟨_, _, _, rfl, hr2.ob, on_possible _ _ _, ?_⟩
    refine ⟨r, dr, RU, SC, DL, c, x, rfl, hr2, hm, fun l H1 e1 hl1 => ?_⟩
    refine ⟨l, _, rfl, Or.inl (SqL.of hl1), rfl, flat_log _, ?_⟩
    rw [in_log he]
    have r1 := hr2.ex e1
    obtain ⟨ps, s0, hsc, hs, hps⟩ := r1.sc
    obtain ⟨d2, st, W, G, R, n1, n2, n3, n4⟩ := r1.ru
    walk_at "w"
    refine ⟨_, _, _, _, _, rfl, r1.ob, u.c_Road, u.a_Road_scenes, ok_scenes _ _ _, ?_⟩
    refine ⟨tyl hsc, ?_⟩
    walk_at "w"
    refine ⟨_, _, _, _, _, rfl, r1.ob, u.c_Road, u.a_Road_rules, ok_rules _ _ _, ?_⟩
    refine ⟨_, _, _, rfl, R.ob, rn_after _ _ _, ?_⟩
    walk_at "w"
    refine ⟨_, _, _, _, _, rfl, r1.ob, u.c_Road, u.a_Road_scenes, ok_scenes _ _ _, ?_⟩
    walk_at "w"
    refine ⟨SC, _, _, _, rfl, rfl, SqL.of hsc, atI_last _ _, ?_⟩
    walk_at "w"
    refine ⟨RU, s0, c, x.1, e, rfl, r1.is, hs, hp, fun t H2 e2 ht => ?_⟩
    have hsc2 := e2 _ _ hsc
    have r2 := r1.ex e2
    have R2 := R.ex e2
    refine ⟨SC, _, _, rfl, rfl, hsc2, by rw [List.length_append, List.length_singleton, hps]; exact lt_sz (by omega), ?_⟩
    have de3 : upd H2 SC (.lst (ps ++ [.ref s0] ++ [.ref t])) DL = some (.lst (logV x.2)) := by rw [upd_ne r2.ne.symm]; exact r2.de
    have ob3 : upd H2 SC (.lst (ps ++ [.ref s0] ++ [.ref t])) r = some (.ins (He.ga K "Road") dr (roF RU SC DL)) := by rw [upd_ne (fun z => by have := r2.ob; rw [z, hsc2] at this; cases this)]; exact r2.ob
    have sc3 := ht.updl (o := .lst (ps ++ [.ref s0] ++ [.ref t])) hsc2
    have R3 := R2.updl (o := .lst (ps ++ [.ref s0] ++ [.ref t])) hsc2 n1 n3
    walk_at "w"
    refine ⟨_, _, _, _, _, rfl, ob3, u.c_Road, u.a_Road_deeds, ok_deeds _ _ _, ?_⟩
    refine ⟨tyl de3, ?_⟩
    walk_at "w"
    refine ⟨DL, _, _, rfl, rfl, de3, by unfold logV; rw [List.length_map]; exact lt_sz (by omega), ?_⟩
    refine k _ _ ((Kp.of (e1.trans e2)).trans ((Kp.upd (by simp)).trans (Kp.upd (by simp)))) ⟨?_, ⟨d2, st, W, G, R3.updl de3 n2 n4, n1, n2, n3, n4⟩, r2.ne, ⟨ps ++ [.ref s0], t, by rw [upd_ne r2.ne]; exact upd_same, sc3.updl de3, ?_⟩, ?_⟩
    · rw [upd_ne (fun z => by rw [z, de3] at ob3; cases ob3)]; exact ob3
    · show (ps ++ [V.ref s0]).length = (x.2 ++ [e]).length
      rw [List.length_append, List.length_append, hps]; rfl
    · rw [upd_same]
      show _ = some (HO.lst (logV (x.2 ++ [e])))
      rw [logV_snoc]
end
end Lw
namespace Lw
open PySem PySem.Spec PyProof.Rows L2
section
variable {P : Program} {w : World} {K : PySem.W.Frag} {mg : Str → Option Value} {base : Heap}
local macro_rules | `(tactic| walk_at "h") => `(tactic| first | assumption | exact upd_same | (refine xn (by assumption) ?_; walk_at "h") | (refine exapp (by assumption) ?_; walk_at "h"))
local macro_rules | `(tactic| walk_at "e") => `(tactic| first | exact Same.refl _ | assumption | (refine Same.trans ?_ (Ex.new (by assumption)); walk_at "e") | (refine Same.trans ?_ (by assumption); walk_at "e"))
local macro_rules | `(tactic| walk_at "w") => `(tactic| repeat (first | refine ⟨_, rfl, ?_⟩ | refine ⟨_, _, rfl, rfl, ?_⟩ | refine ⟨_, _, _, _, rfl, rfl, SqT.of (by walk_at "h"), (by rfl), ?_⟩ | (refine fun σ2 (hσ : σ2 = _) => ?_; (try simp only [List.set_cons_succ, List.set_cons_zero] at hσ); subst hσ) | refine ⟨_, _, rfl, SqT.of (by walk_at "h"), (by rfl), ?_⟩ | refine ⟨rfl, ?_⟩ | refine ⟨_, _, rfl, ?_⟩))
local macro_rules | `(tactic| walk_at "s") => `(tactic| (intro σ hσ; simp only [start_eq, List.map_cons, List.map_nil, List.length_cons, List.length_nil, List.cons_append, List.nil_append, Nat.reduceAdd, Nat.reduceSub, List.replicate_succ, List.replicate_zero] at hσ; subst hσ))

theorem U.p_is_over (u : U K mg) : PropOf K (He.ga K "Road") "is_over" (overP K) (overG K) := by
  have h : overB K = true := (He.ba (He.ba (He.ba (He.ba u.b).2).2).2).1
  unfold overB at h
  obtain ⟨h1, h⟩ := He.ba h
  obtain ⟨h2, h⟩ := He.ba h
  obtain ⟨h3, h4⟩ := He.ba h
  refine ⟨He.eqO_ok h1, He.eqO_ok h2, of_decide_eq_true h3, ?_⟩
  cases q : PySem.W.recIn K (overP K) "property" with
  | none => rw [q] at h4; cases h4
  | some l =>
    rw [q] at h4
    cases l with
    | nil => cases h4
    | cons v r =>
      cases v with
      | ref g => exact ⟨r, by rw [of_decide_eq_true h4]⟩
      | _ => cases h4
end
end Lw
namespace Lw
open PySem PySem.Spec PyProof.Rows L2
section
variable {P : Program} {w : World} {K : PySem.W.Frag} {mg : Str → Option Value} {base : Heap}
local macro_rules | `(tactic| walk_at "h") => `(tactic| first | assumption | exact upd_same | (refine xn (by assumption) ?_; walk_at "h") | (refine exapp (by assumption) ?_; walk_at "h"))
local macro_rules | `(tactic| walk_at "e") => `(tactic| first | exact Same.refl _ | assumption | (refine Same.trans ?_ (Ex.new (by assumption)); walk_at "e") | (refine Same.trans ?_ (by assumption); walk_at "e"))
local macro_rules | `(tactic| walk_at "w") => `(tactic| repeat (first | refine ⟨_, rfl, ?_⟩ | refine ⟨_, _, rfl, rfl, ?_⟩ | refine ⟨_, _, _, _, rfl, rfl, SqT.of (by walk_at "h"), (by rfl), ?_⟩ | (refine fun σ2 (hσ : σ2 = _) => ?_; (try simp only [List.set_cons_succ, List.set_cons_zero] at hσ); subst hσ) | refine ⟨_, _, rfl, SqT.of (by walk_at "h"), (by rfl), ?_⟩ | refine ⟨rfl, ?_⟩ | refine ⟨_, _, rfl, ?_⟩))
local macro_rules | `(tactic| walk_at "s") => `(tactic| (intro σ hσ; simp only [start_eq, List.map_cons, List.map_nil, List.length_cons, List.length_nil, List.cons_append, List.nil_append, Nat.reduceAdd, Nat.reduceSub, List.replicate_succ, List.replicate_zero] at hσ; subst hσ))

theorem arr_evs {c : Cfg} {m : Mo} {a : Bool} (h : over c m = false) (hw : m.way a ≠ []) : Ev.arr a ∈ evs c m := by
  have ha : a ∈ [false, true].filter fun b => !(m.way b).isEmpty := by
    rw [List.mem_filter]
    refine ⟨by cases a <;> simp, ?_⟩
    cases e : m.way a with
    | nil => exact absurd e hw
    | cons x l => rfl
  unfold evs
  rw [if_neg (by rw [h]; decide)]
  have hm : Ev.arr a ∈ (if canWrite c m = true then [Ev.write] else []) ++ ([false, true].filter fun b => !(m.way b).isEmpty).map Ev.arr := List.mem_append_right _ (List.mem_map.mpr ⟨a, ha, rfl⟩)
  simp only
  rw [if_neg (fun z => by rw [z] at hm; cases hm)]
  exact hm
theorem write_evs {c : Cfg} {m : Mo} (h : over c m = false) (hw : canWrite c m = true) : Ev.write ∈ evs c m := by
  unfold evs
  rw [if_neg (by rw [h]; decide), if_pos hw]
  simp
theorem timer_evs {c : Cfg} {m : Mo} (h : due c m = true) : Ev.timer ∈ evs c m := by
  rw [(evs_due c m).mpr h]
  exact List.mem_singleton.mpr rfl
theorem preR_of {c : Cfg} (ok : Cok c) {m : Mo} {e : Ev} (hl : Legit c m e) (s : Sok c m) : PreR c m e := ⟨pre_of ok hl s, s.wf.w0⟩
end
end Lw
namespace Lw
open PySem PySem.Spec PyProof.Rows L2
section
variable {P : Program} {w : World} {K : PySem.W.Frag} {mg : Str → Option Value} {base : Heap}
local macro_rules | `(tactic| walk_at "h") => `(tactic| first | assumption | exact upd_same | (refine xn (by assumption) ?_; walk_at "h") | (refine exapp (by assumption) ?_; walk_at "h"))
local macro_rules | `(tactic| walk_at "e") => `(tactic| first | exact Same.refl _ | assumption | (refine Same.trans ?_ (Ex.new (by assumption)); walk_at "e") | (refine Same.trans ?_ (by assumption); walk_at "e"))
local macro_rules | `(tactic| walk_at "w") => `(tactic| repeat (first | refine ⟨_, rfl, ?_⟩ | refine ⟨_, _, rfl, rfl, ?_⟩ | refine ⟨_, _, _, _, rfl, rfl, SqT.of (by walk_at "h"), (by rfl), ?_⟩ | (refine fun σ2 (hσ : σ2 = _) => ?_; (try simp only [List.set_cons_succ, List.set_cons_zero] at hσ); subst hσ) | refine ⟨_, _, rfl, SqT.of (by walk_at "h"), (by rfl), ?_⟩ | refine ⟨rfl, ?_⟩ | refine ⟨_, _, rfl, ?_⟩))
local macro_rules | `(tactic| walk_at "s") => `(tactic| (intro σ hσ; simp only [start_eq, List.map_cons, List.map_nil, List.length_cons, List.length_nil, List.cons_append, List.nil_append, Nat.reduceAdd, Nat.reduceSub, List.replicate_succ, List.replicate_zero] at hσ; subst hσ))

theorem on_way_from (RU SC DL : Addr) : (roF RU SC DL).lookup ("way_from" : Str) = none := by kernel_rfl
theorem on_do (RU SC DL : Addr) : (roF RU SC DL).lookup ("do" : Str) = none := by kernel_rfl
theorem on_clearing (RU SC DL : Addr) : (roF RU SC DL).lookup ("clearing" : Str) = none := by kernel_rfl
theorem on_settle (RU SC DL : Addr) : (roF RU SC DL).lookup ("settle" : Str) = none := by kernel_rfl
theorem on_end_turn (RU SC DL : Addr) : (roF RU SC DL).lookup ("end_turn" : Str) = none := by kernel_rfl
theorem on_play (RU SC DL : Addr) : (roF RU SC DL).lookup ("play" : Str) = none := by kernel_rfl
theorem on_log (RU SC DL : Addr) : (roF RU SC DL).lookup ("log" : Str) = none := by kernel_rfl
def spClearing (K : PySem.W.Frag) : Sp := fun vs H Q _ => ∃ (r dr RU SC DL : Addr) (c : Cfg) (x : ML) (B : Nat), vs = [.ref r] ∧ RoAt K c H r dr RU SC DL x ∧ Cok c ∧ Gd c B x ∧ B ≤ 4000 ∧
  ∀ H', Kp [SC, DL] H H' → RoAt K c H' r dr RU SC DL (noted c x) → Q (.int (((noted c x).2.length : Nat) - (x.2.length : Nat))) H'
theorem ok_Road_clearing (u : U K mg) : Ok P w K mg base 7 (He.ma K (He.ga K "Road") "clearing") ["self"] (spClearing K) := by
  obtain ⟨fd_Road_way_from, G_Road_way_from, kp_Road_way_from, b_Road_way_from⟩ := (ok_Road_way_from (P := P) (w := w) (base := base) u).ex
  obtain ⟨fd_Road_is_over, G_Road_is_over, kp_Road_is_over, b_Road_is_over⟩ := (ok_Road_is_over (P := P) (w := w) (base := base) u).ex
  obtain ⟨fd_Road_do, G_Road_do, kp_Road_do, b_Road_do⟩ := (ok_Road_do (P := P) (w := w) (base := base) u).ex
  obtain ⟨fd, F⟩ := u.d_Road_clearing
  refine mkOk F sc_Road_clearing (fun _ _ _ _ _ _ us hl => match us, hl with | [_], _ => rfl) (fun vs H Q E h => ?_) (fun cdv A outer s H vs Q E hr h => ?_)
  · obtain ⟨r, dr, RU, SC, DL, c, x, B, rfl, hr2, ok, g, hB, k⟩ := h
    rfl
  · obtain ⟨r, dr, RU, SC, DL, c, x, B, rfl, hr2, ok, g, hB, k⟩ := h
    have hu := hu_of hr
    refine ⟨_, (pss_n (ps_par (i := 1) (j := 2) rfl sc_Road_clearing.nd rfl rfl (by decide) rfl rfl (pa_cons (pe_ix ix_tup (pe_ix ix_list (pe_fld (pv 0) rfl) (pe_un un_neg pe_int) (fun _ _ => rfl)) pe_int (fun _ _ => rfl)) (pa_cons (pe_callB call_len_seq (by rfl) u.n_len PySem.boot_len (pa_cons (pe_fld (pv 0) rfl) pa_nil)) pa_nil)) (by rfl))
    (pss_n (ps_if (pt_cmpR op_eq (pv 1) pe_int (nomark _))
    (pss_one (ps_ret pe_int))
    pss_nil)
    (pss_n (ps_set (i := 3) sc_Road_clearing.nd rfl (Or.inl rfl) (pe_ix ix_tup (pe_ix ix_list (pe_fld (pe_fld (pv 0) rfl) rfl) (pe_op op_sub (pv 1) pe_int) (fun _ _ => rfl)) pe_int (fun _ _ => rfl)))
    (pss_n (ps_for PassesOwn.never rfl (pi_tup (pe_tup (pa_cons (pv 3) (pa_cons (pe_op op_sub pe_int (pv 3)) pa_nil)))) (pg_name (i := 4) sc_Road_clearing.nd rfl (Or.inl rfl))
    (pss_one (ps_for PassesOwn.never rfl (pi_range1 (by rfl) u.n_range (pa_cons (pe_callB call_len_seq (by rfl) u.n_len PySem.boot_len (pa_cons (pe_meth (pv 0) u.c_Road u.m_Road_way_from G_Road_way_from (hr.mono (by decide)) b_Road_way_from .nil pass0 (pa_cons (pv 4) pa_nil)) pa_nil)) pa_nil)) (pg_name (i := 5) sc_Road_clearing.nd rfl (Or.inl rfl))
    (pss_one (ps_if (pt_not (pt_val (pe_prop (pv 0) u.c_Road u.p_is_over G_Road_is_over (hr.mono (by decide)) b_Road_is_over .nil pass0 rfl)))
    (pss_one (ps_expr (pe_meth (pv 0) u.c_Road u.m_Road_do G_Road_do (hr.mono (by decide)) b_Road_do .nil pass0 (pa_cons (pe_ix ix_tup (pe_glob rfl u.g_ARRIVALS (show L2.RelV (.ref _) _ from rfl)) (pv 4) (fun _ _ => rfl)) pa_nil))))
    pss_nil)))))
    (pss_one (ps_ret (pe_op op_sub (pe_callB call_len_seq (by rfl) u.n_len PySem.boot_len (pa_cons (pe_fld (pv 0) rfl) pa_nil)) (pv 2)))))))), ?_⟩
    walk_at "s"
    obtain ⟨ps, s0, hsc, hs, hps⟩ := hr2.sc
    obtain ⟨S, Wt, s2, w2, q1, q2, q3, q4, q5⟩ := hs.ex
    obtain ⟨d2, st, W, G, R, n1, n2, n3, n4⟩ := hr2.ru
    walk_at "w"
    refine ⟨_, _, _, _, _, rfl, hr2.ob, u.c_Road, u.a_Road_scenes, ok_scenes _ _ _, ?_⟩
    walk_at "w"
    refine ⟨SC, _, _, _, rfl, rfl, SqL.of hsc, atI_last _ _, ?_⟩
    walk_at "w"
    refine ⟨_, _, _, _, _, rfl, hr2.ob, u.c_Road, u.a_Road_deeds, ok_deeds _ _ _, ?_⟩
    refine ⟨_, _, rfl, Or.inl (SqL.of hr2.de), ?_⟩
    walk_at "w"
    have hll : (logV x.2).length = x.2.length := by unfold logV; rw [List.length_map]
    rw [hll]
    rw [show decide (V.int (x.1.made : Nat) = V.int 0) = decide (x.1.made = 0) from dec_nat _ 0]
    refine itb (fun z => ?_) (fun z => ?_)
    · walk_at "w"
      have h := k H Kp.refl
      rw [noted_0 (of_decide_eq_true z), Int.sub_self] at h
      exact h hr2
    · have z1 := of_decide_eq_false z
      obtain ⟨ws, hws, hwr⟩ := R.wr
      obtain ⟨pw, hpw, hpt⟩ := hwr.get (wsV_get (show x.1.made - 1 < c.words.length by have := g.md; omega))
      have hat : atI (ws.map V.ref) ((x.1.made : Nat) - 1 : Int) = some (.ref pw) := by
        rw [show ((x.1.made : Nat) - 1 : Int) = ((x.1.made - 1 : Nat) : Int) by omega, atI_nat, List.getElem?_map, hpw]; rfl
      walk_at "w"
      refine ⟨_, _, _, _, _, rfl, hr2.ob, u.c_Road, u.a_Road_rules, ok_rules _ _ _, ?_⟩
      refine ⟨_, _, _, _, _, rfl, R.ob, u.c_Rules, u.a_Rules_writes, rk_writes _ _ _, ?_⟩
      walk_at "w"
      refine x_lst hws hat ?_
      walk_at "w"
      refine ⟨le_sz le_r, fun T hT => ?_⟩
      have hnt : noted c x = ntd c x 2 := by
        rw [noted_ntd]
        split
        · rename_i hz
          rcases hz with hz | hz
          · exact absurd hz z1
          · show x = arrN c _ _ (arrN c _ _ x)
            rw [arrN_over hz, arrN_over hz]
        · rfl
      rw [hnt] at k
      refine ⟨_, rfl, ⟨_, SqT.of upd_same⟩, for_tup (a := T) (xs := [V.int (wI (wd c (x.1.made - 1)).who), V.int (1 - wI (wd c (x.1.made - 1)).who)]) (fun i σ' H' => ∃ v4 v5, σ' = [some (.ref r), some (.int (x.1.made : Nat)), some (.int (x.2.length : Nat)), some (.int (wI (wd c (x.1.made - 1)).who)), v4, v5] ∧ Kp [SC, DL] H H' ∧ H' T = some (.tup [V.int (wI (wd c (x.1.made - 1)).who), V.int (1 - wI (wd c (x.1.made - 1)).who)]) ∧ RoAt K c H' r dr RU SC DL (ntd c x i)) ?_ ?_ ?_ ?_⟩
      · exact ⟨none, none, rfl, Kp.of (Ex.new hT), upd_same, hr2.ex (Ex.new hT)⟩
      · rintro i σ' H' _ ⟨v4, v5, rfl, kp, hT', M⟩
        exact SqT.of hT'
      · rintro i v σ' H' hi ⟨v4, v5, rfl, kp, hT', M⟩
        obtain ⟨hi2, rfl⟩ := ntx hi
        rw [ntd_succ c x hi2]
        have gi := g.ntd hB i (by omega)
        generalize ntb c x i = a at *
        generalize ntd c x i = y at *
        walk_at "w"
        refine ⟨_, _, _, rfl, M.ob, on_way_from _ _ _, ?_⟩
        walk_at "w"
        refine ⟨r, dr, RU, SC, DL, c, y, a, rfl, M, fun l H1 e1 hl => ?_⟩
        obtain ⟨ls, hls, hlr⟩ := hl
        refine ⟨_, _, rfl, Or.inl (SqL.of hls), ?_⟩
        have hlw : (ls.map V.ref).length = (y.1.way a).length := by rw [List.length_map, hlr.len, wayV_len]
        rw [hlw]
        have hwl := gi.ways hB a
        have hTn : T ∉ [SC, DL] := fun z => by
          simp only [List.mem_cons, List.not_mem_nil, or_false] at z
          rcases z with z | z
          · rw [z, hsc] at hT; cases hT
          · rw [z, hr2.de] at hT; cases hT
        walk_at "w"
        refine ⟨by omega, by omega, ?_⟩
        refine for_range (n := (y.1.way a).length) (fun j σ2 H2 => ∃ v5, σ2 = [some (.ref r), some (.int (x.1.made : Nat)), some (.int (x.2.length : Nat)), some (.int (wI (wd c (x.1.made - 1)).who)), some (.int (wI a)), v5] ∧ Kp [SC, DL] H H2 ∧ H2 T = some (.tup [V.int (wI (wd c (x.1.made - 1)).who), V.int (1 - wI (wd c (x.1.made - 1)).who)]) ∧ RoAt K c H2 r dr RU SC DL (arrN c a j y)) ?_ ?_ ?_
        · exact ⟨_, rfl, kp.trans (Kp.of e1), e1 _ _ hT', M.ex e1⟩
        · rintro j σ2 H2 hj ⟨v5, rfl, kp2, hT2, M2⟩
          rw [arrN_snoc]
          have gj := gi.arrN hB j (Nat.le_of_lt hj)
          have hlj := arrN_len c a j y
          generalize arrN c a j y = u2 at *
          walk_at "w"
          refine ⟨_, _, _, rfl, M2.ob, ?_⟩
          refine ⟨r, dr, RU, SC, DL, c, u2, rfl, M2, gj.md, ?_⟩
          refine ⟨_, rfl, ?_⟩
          cases ho : over c u2.1 with
          | true =>
            rw [arrOne_over ho]
            exact ⟨_, rfl, kp2, hT2, M2⟩
          | false =>
            rw [arrOne_go ho]
            have hl2 := hlj ho
            have hne : u2.1.way a ≠ [] := fun e => by rw [e] at hl2; simp at hl2; omega
            refine itt rfl ?_
            walk_at "w"
            refine ⟨_, _, _, rfl, M2.ob, on_do _ _ _, ?_⟩
            have hmu := gj.mu
            have harr : SqT K H2 (He.ga K "ARRIVALS") [.str "arrive 0", .str "arrive 1"] := He.tupB_ok (He.ba (He.ba u.b).2).1 H2
            walk_at "w"
            refine ⟨He.ga K "ARRIVALS", _, _, _, rfl, rfl, harr, (show atI [V.str "arrive 0", V.str "arrive 1"] (wI a) = some (.str (Ev.arr a).str) by cases a <;> rfl), ?_⟩
            exact ⟨r, dr, RU, SC, DL, c, u2, .arr a, rfl, M2, gj.md, arr_evs ho hne, preR_of ok hne (gj.sok hB), by omega, fun v H3 kp3 M3 => ⟨_, rfl, kp2.trans kp3, kp3 _ _ hT2 hTn, M3⟩⟩
        · rintro σ2 H2 ⟨v5, rfl, kp2, hT2, M2⟩
          exact ⟨_, _, rfl, kp2, hT2, M2⟩
      · rintro σ' H' ⟨v4, v5, rfl, kp, hT', M⟩
        walk_at "w"
        refine ⟨_, _, _, _, _, rfl, M.ob, u.c_Road, u.a_Road_deeds, ok_deeds _ _ _, ?_⟩
        refine ⟨_, _, rfl, Or.inl (SqL.of M.de), ?_⟩
        walk_at "w"
        have hk := k H' kp M
        have hlv : (logV (ntd c x 2).2).length = (ntd c x 2).2.length := by unfold logV; rw [List.length_map]
        rw [← hlv] at hk
        exact hk
end
end Lw
namespace Lw
open PySem PySem.Spec PyProof.Rows L2
section
variable {P : Program} {w : World} {K : PySem.W.Frag} {mg : Str → Option Value} {base : Heap}
local macro_rules | `(tactic| walk_at "h") => `(tactic| first | assumption | exact upd_same | (refine xn (by assumption) ?_; walk_at "h") | (refine exapp (by assumption) ?_; walk_at "h"))
local macro_rules | `(tactic| walk_at "e") => `(tactic| first | exact Same.refl _ | assumption | (refine Same.trans ?_ (Ex.new (by assumption)); walk_at "e") | (refine Same.trans ?_ (by assumption); walk_at "e"))
local macro_rules | `(tactic| walk_at "w") => `(tactic| repeat (first | refine ⟨_, rfl, ?_⟩ | refine ⟨_, _, rfl, rfl, ?_⟩ | refine ⟨_, _, _, _, rfl, rfl, SqT.of (by walk_at "h"), (by rfl), ?_⟩ | (refine fun σ2 (hσ : σ2 = _) => ?_; (try simp only [List.set_cons_succ, List.set_cons_zero] at hσ); subst hσ) | refine ⟨_, _, rfl, SqT.of (by walk_at "h"), (by rfl), ?_⟩ | refine ⟨rfl, ?_⟩ | refine ⟨_, _, rfl, ?_⟩))
local macro_rules | `(tactic| walk_at "s") => `(tactic| (intro σ hσ; simp only [start_eq, List.map_cons, List.map_nil, List.length_cons, List.length_nil, List.cons_append, List.nil_append, Nat.reduceAdd, Nat.reduceSub, List.replicate_succ, List.replicate_zero] at hσ; subst hσ))

def spRoadSettle (K : PySem.W.Frag) : Sp := fun vs H Q _ => ∃ (r dr RU SC DL : Addr) (c : Cfg) (x : ML) (B : Nat), vs = [.ref r] ∧ RoAt K c H r dr RU SC DL x ∧ Cok c ∧ Gd c B x ∧ B ≤ 4000 ∧
  ∀ v H', Kp [SC, DL] H H' → RoAt K c H' r dr RU SC DL (settle c x) → Q v H'
theorem ok_Road_settle (u : U K mg) : Ok P w K mg base 8 (He.ma K (He.ga K "Road") "settle") ["self"] (spRoadSettle K) := by
  obtain ⟨fd_Road_clearing, G_Road_clearing, kp_Road_clearing, b_Road_clearing⟩ := (ok_Road_clearing (P := P) (w := w) (base := base) u).ex
  obtain ⟨fd, F⟩ := u.d_Road_settle
  refine mkOk F sc_Road_settle (fun _ _ _ _ _ _ us hl => match us, hl with | [_], _ => rfl) (fun vs H Q E h => ?_) (fun cdv A outer s H vs Q E hr h => ?_)
  · obtain ⟨r, dr, RU, SC, DL, c, x, B, rfl, hr2, ok, g, hB, k⟩ := h
    rfl
  · obtain ⟨r, dr, RU, SC, DL, c, x, B, rfl, hr2, ok, g, hB, k⟩ := h
    have hu := hu_of hr
    refine ⟨_, (pss_one (ps_while PassesOwn.never (pt_cmpR op_gt (pe_meth0 (pv 0) u.c_Road u.m_Road_clearing G_Road_clearing (hr.mono (by decide)) b_Road_clearing .nil pass0) pe_int (nomark _))
    (pss_one ps_pass))), ?_⟩
    walk_at "s"
    walk_at "w"
    refine ⟨fun m σ' H2 => ∃ y, m = phi y.1 ∧ σ' = [some (.ref r)] ∧ Kp [SC, DL] H H2 ∧ RoAt K c H2 r dr RU SC DL y ∧ Gd c B y ∧ settle c y = settle c x, ⟨_, x, rfl, rfl, Kp.refl, hr2, g, rfl⟩, ?_⟩
    rintro m σ' H2 ⟨y, rfl, rfl, kp2, M2, g2, es⟩
    have hse2 := settle_eq c y
    have hph := noted_phi c y
    walk_at "w"
    refine ⟨_, _, _, rfl, M2.ob, on_clearing _ _ _, ?_⟩
    refine ⟨r, dr, RU, SC, DL, c, y, B, rfl, M2, ok, g2, hB, fun H3 kp3 M3 => ?_⟩
    walk_at "w"
    refine itb (fun z => ?_) (fun z => ?_)
    · have z' : y.2.length < (noted c y).2.length := by have := of_decide_eq_true z; omega
      rw [if_pos z'] at hse2
      refine ⟨_, fun σ' H' h => ⟨phi (noted c y).1, by omega, h⟩, ?_⟩
      exact ⟨_, rfl, rfl, kp2.trans kp3, M3, g2.noted hB, by rw [← hse2, es]⟩
    · have z' : ¬ y.2.length < (noted c y).2.length := by have := of_decide_eq_false z; omega
      rw [if_neg z'] at hse2
      exact k _ H3 (kp2.trans kp3) (by rw [← es, hse2]; exact M3)

def spEndTurn (K : PySem.W.Frag) : Sp := fun vs H Q _ => ∃ (r dr RU SC DL : Addr) (c : Cfg) (x : ML) (B : Nat), vs = [.ref r] ∧ RoAt K c H r dr RU SC DL x ∧ Cok c ∧ Gd c B x ∧ B ≤ 3900 ∧ Md c x ∧
  ∀ v H', Kp [SC, DL] H H' → RoAt K c H' r dr RU SC DL (roadEnd c x) → Q v H'
theorem ok_Road_end_turn (u : U K mg) : Ok P w K mg base 9 (He.ma K (He.ga K "Road") "end_turn") ["self"] (spEndTurn K) := by
  obtain ⟨fd_Road_settle, G_Road_settle, kp_Road_settle, b_Road_settle⟩ := (ok_Road_settle (P := P) (w := w) (base := base) u).ex
  obtain ⟨fd_Road_possible, G_Road_possible, kp_Road_possible, b_Road_possible⟩ := (ok_Road_possible (P := P) (w := w) (base := base) u).ex
  obtain ⟨fd_Road_do, G_Road_do, kp_Road_do, b_Road_do⟩ := (ok_Road_do (P := P) (w := w) (base := base) u).ex
  obtain ⟨fd, F⟩ := u.d_Road_end_turn
  refine mkOk F sc_Road_end_turn (fun _ _ _ _ _ _ us hl => match us, hl with | [_], _ => rfl) (fun vs H Q E h => ?_) (fun cdv A outer s H vs Q E hr h => ?_)
  · obtain ⟨r, dr, RU, SC, DL, c, x, B, rfl, hr2, ok, g, hB, hd, k⟩ := h
    rfl
  · obtain ⟨r, dr, RU, SC, DL, c, x, B, rfl, hr2, ok, g, hB, hd, k⟩ := h
    have hu := hu_of hr
    refine ⟨_, (pss_n (ps_expr (pe_meth0 (pv 0) u.c_Road u.m_Road_settle G_Road_settle (hr.mono (by decide)) b_Road_settle .nil pass0))
    (pss_one (ps_if (pt_cmpR (op_eqD hr.units) (pe_meth0 (pv 0) u.c_Road u.m_Road_possible G_Road_possible (hr.mono (by decide)) b_Road_possible .nil pass0) (pe_lst (pa_cons (pe_glob rfl u.k_TIMER.choose_spec (show L2.RelV (.str "timer") _ from ⟨_, rfl⟩)) pa_nil)) (nomark _))
    (pss_n (ps_expr (pe_meth (pv 0) u.c_Road u.m_Road_do G_Road_do (hr.mono (by decide)) b_Road_do .nil pass0 (pa_cons (pe_glob rfl u.k_TIMER.choose_spec (show L2.RelV (.str "timer") _ from ⟨_, rfl⟩)) pa_nil)))
    (pss_one (ps_expr (pe_meth0 (pv 0) u.c_Road u.m_Road_settle G_Road_settle (hr.mono (by decide)) b_Road_settle .nil pass0))))
    pss_nil))), ?_⟩
    walk_at "s"
    walk_at "w"
    refine ⟨_, _, _, rfl, hr2.ob, on_settle _ _ _, ?_⟩
    refine ⟨r, dr, RU, SC, DL, c, x, B, rfl, hr2, ok, g, by omega, fun _ H1 kp1 M1 => ?_⟩
    have gs := g.settle (show B ≤ 4000 by omega)
    have hse := due_made hd
    have hre : roadEnd c x = if due c (settle c x).1 = true then settle c (does c .timer (settle c x)) else settle c x := rfl
    rw [hre] at k
    clear hre
    generalize settle c x = y at *
    walk_at "w"
    refine ⟨_, _, _, rfl, M1.ob, on_possible _ _ _, ?_⟩
    refine ⟨r, dr, RU, SC, DL, c, y, rfl, M1, gs.md, fun E1 H3 e3 hE1 => ?_⟩
    walk_at "w"
    refine ⟨le_sz le_r, fun E2 hE2 => ?_⟩
    have hE1' : H3 E1 = some (.lst (((evs c y.1).map Ev.str).map V.str)) := by rw [hE1]; exact congrArg (fun z => some (HO.lst z)) (logV_eq _)
    refine eqStrs (ys := [("timer" : Str)]) (xn hE2 hE1') upd_same (logs_ok _) (fun z hz => by rw [List.mem_singleton.mp hz]; exact ev_ok .timer) ?_
    have hdd : decide ((evs c y.1).map Ev.str = [("timer" : Str)]) = due c y.1 := by
      rw [Bool.eq_iff_iff, decide_eq_true_iff, ← evs_due]
      exact ⟨fun h => evs_inj (b := [.timer]) h, fun h => by rw [h]; rfl⟩
    rw [hdd]
    have M4 := M1.ex (show Ex H1 (upd H3 E2 (.lst [V.str "timer"])) by walk_at "e")
    have kp4 : Kp [SC, DL] H (upd H3 E2 (.lst [V.str "timer"])) := kp1.trans (Kp.of (by walk_at "e"))
    refine ⟨_, rfl, itb (fun z2 => ?_) (fun z2 => ?_)⟩
    · rw [if_pos z2] at k
      have hmu := gs.mu
      have hm0 := hse z2
      have hmd := gs.md
      walk_at "w"
      refine ⟨_, _, _, rfl, M4.ob, on_do _ _ _, ?_⟩
      walk_at "w"
      refine ⟨r, dr, RU, SC, DL, c, y, .timer, rfl, M4, gs.md, timer_evs z2, preR_of ok (c := c) (e := .timer) ⟨hm0, hmd⟩ (gs.sok (by omega)), by omega, fun _ H5 kp5 M5 => ?_⟩
      walk_at "w"
      refine ⟨_, _, _, rfl, M5.ob, on_settle _ _ _, ?_⟩
      refine ⟨r, dr, RU, SC, DL, c, _, B + 2, rfl, M5, ok, gs.timer (by omega) hm0, by omega, fun v H6 kp6 M6 => ?_⟩
      exact k _ H6 ((kp4.trans kp5).trans kp6) M6
    · rw [z2] at k
      exact k _ _ kp4 M4
end
end Lw
namespace Lw
open PySem PySem.Spec PyProof.Rows L2
section
variable {P : Program} {w : World} {K : PySem.W.Frag} {mg : Str → Option Value} {base : Heap}
local macro_rules | `(tactic| walk_at "h") => `(tactic| first | assumption | exact upd_same | (refine xn (by assumption) ?_; walk_at "h") | (refine exapp (by assumption) ?_; walk_at "h"))
local macro_rules | `(tactic| walk_at "e") => `(tactic| first | exact Same.refl _ | assumption | (refine Same.trans ?_ (Ex.new (by assumption)); walk_at "e") | (refine Same.trans ?_ (by assumption); walk_at "e"))
local macro_rules | `(tactic| walk_at "w") => `(tactic| repeat (first | refine ⟨_, rfl, ?_⟩ | refine ⟨_, _, rfl, rfl, ?_⟩ | refine ⟨_, _, _, _, rfl, rfl, SqT.of (by walk_at "h"), (by rfl), ?_⟩ | (refine fun σ2 (hσ : σ2 = _) => ?_; (try simp only [List.set_cons_succ, List.set_cons_zero] at hσ); subst hσ) | refine ⟨_, _, rfl, SqT.of (by walk_at "h"), (by rfl), ?_⟩ | refine ⟨rfl, ?_⟩ | refine ⟨_, _, rfl, ?_⟩))
local macro_rules | `(tactic| walk_at "s") => `(tactic| (intro σ hσ; simp only [start_eq, List.map_cons, List.map_nil, List.length_cons, List.length_nil, List.cons_append, List.nil_append, Nat.reduceAdd, Nat.reduceSub, List.replicate_succ, List.replicate_zero] at hσ; subst hσ))

def segL (c : Cfg) (i : Nat) : List Int := (c.words.take i).map fun x => x.len / c.size + 1
theorem segL_succ (c : Cfg) {i : Nat} (h : i < c.words.length) : segL c (i + 1) = segL c i ++ [(wd c i).len / c.size + 1] := by
  unfold segL
  rw [List.take_add_one, List.map_append, wd_get h]; rfl
theorem segL_len (c : Cfg) (i : Nat) : (segL c i).length ≤ i := by
  unfold segL
  rw [List.length_map, List.length_take]; omega
theorem segL_sum {c : Cfg} (ok : Cok c) : ∀ i, i ≤ c.words.length → (segL c i).sum ≤ 18 * (i : Nat)
  | 0, _ => Int.le_refl _
  | i + 1, h => by
    have ih := segL_sum ok i (by omega)
    have hs := ok.size
    have h1 : (wd c i).len / c.size < 18 := Int.ediv_lt_of_lt_mul hs (ok.l18 _ (wd_mem h))
    rw [segL_succ c h, List.sum_append]
    show (segL c i).sum + ((wd c i).len / c.size + 1 + 0) ≤ _
    omega
theorem eq_wI0 (a : Bool) : decide (V.int (wI a) = V.int 0) = decide (a = false) := by cases a <;> decide +kernel
def spRulesInit (K : PySem.W.Frag) : Sp := fun vs H Q _ => ∃ (x dx st p : Addr) (c : Cfg), vs = [.ref x, .ref st, .ref p, .int 300] ∧ H x = some (.ins (He.ga K "Rules") dx []) ∧ IsSet K c H st ∧ LstT H p (wsV c) ∧ Cok c ∧
  ∀ W G H', Kp [x] H H' → H W = none → H G = none → RuAt K c H' x dx st W G → Q .non H'
theorem ok_Rules__init (u : U K mg) : Ok P w K mg base 5 (He.ma K (He.ga K "Rules") "__init__") ["self", "setting", "conversation", "bound"] (spRulesInit K) := by
  obtain ⟨fd_check, G_check, kp_check, b_check⟩ := (ok_check (P := P) (w := w) (base := base) u).ex
  obtain ⟨fd, F⟩ := u.d_Rules__init
  refine mkOk F sc_Rules__init (fun _ _ _ _ _ _ us hl => match us, hl with | [_, _, _, _], _ => rfl) (fun vs H Q E h => ?_) (fun cdv A outer s H vs Q E hr h => ?_)
  · obtain ⟨x, dx, st, p, c, rfl, hx, hst, hp, ok, k⟩ := h
    rfl
  · obtain ⟨x, dx, st, p, c, rfl, hx, hst, hp, ok, k⟩ := h
    have hu := hu_of hr
    refine ⟨_, (pss_n (ps_expr (pe_call G_check (hr.mono (by decide)) (by rfl) u.g_check kp_check b_check .nil pass0 (pa_cons (pv 2) pa_nil)))
    (pss_n (ps_set (i := 4) sc_Rules__init.nd rfl (Or.inl rfl) (pe_callB (cr_sum rfl) (by rfl) u.n_sum boot_sum (pa_cons (pe_lc (own := [("endpoint", 5), ("length", 6), ("mode", 7)]) (g := (gTup K 3 (gCons (gName 5) (gCons (gName 6) (gCons (gName 7) gNil))))) (tt := tYes) (te := (tOp (rI0 fun i j => .int (i + j)) (tOp (rI CDiv fun i j => .int (i / j)) (tVar 6) (tFld K (tVar 1) "size")) (tC (.int 1)))) rfl sc_Rules__init.nd (pi_list (pv 2)) (blkOk_by (N := n_Rules__init) (sc := defScope s_Rules__init) (by decide +kernel)) (fun _ _ _ _ _ => (pg_tup rfl (pgs_cons (pg_name (i := 5) sc_Rules__init.nd rfl (Or.inl rfl)) (pgs_cons (pg_name (i := 6) sc_Rules__init.nd rfl (Or.inl rfl)) (pgs_cons (pg_name (i := 7) sc_Rules__init.nd rfl (Or.inl rfl)) pgs_nil))))) (fun _ _ _ _ _ => pts_nil) (fun _ _ _ _ _ => (pe_op op_add (pe_op op_fdiv (pv 6) (pe_fld (pv 1) rfl)) pe_int))) pa_nil)))
    (pss_n (ps_if (pt_cmpR op_gt (pv 4) (pv 3) (nomark _))
    (pss_one ps_never)
    pss_nil)
    (pss_n (ps_fld (pv 0) (pv 1) rfl)
    (pss_n (ps_fld (pv 0) (pe_callTy call_list_of (by rfl) u.n_list PyProof.Rows.boot_list (pa_cons (pv 2) pa_nil)) rfl)
    (pss_n (ps_fld (pv 0) (pe_lst (pa_cons (pe_tup (pa_cons pe_int (pa_cons pe_int pa_nil))) pa_nil)) rfl)
    (pss_one (ps_for PassesOwn.never rfl (pi_list (pv 2)) (pg_tup rfl (pgs_cons (pg_name (i := 5) sc_Rules__init.nd rfl (Or.inl rfl)) (pgs_cons (pg_name (i := 6) sc_Rules__init.nd rfl (Or.inl rfl)) (pgs_cons (pg_name (i := 7) sc_Rules__init.nd rfl (Or.inl rfl)) pgs_nil))))
    (pss_n (ps_asg (pe_ix ix_list (pe_fld (pv 0) rfl) (pe_un un_neg pe_int) (fun _ _ => rfl)) (pg_tup rfl (pgs_cons (pg_name (i := 8) sc_Rules__init.nd rfl (Or.inl rfl)) (pgs_cons (pg_name (i := 9) sc_Rules__init.nd rfl (Or.inl rfl)) pgs_nil))))
    (pss_one (ps_expr (pe_bm PySem.F.plainAttrs_list PySem.F.slot_list_append PySem.F.type_list_append mt_append (pe_fld (pv 0) rfl) (pa_cons (pe_ifExp (pt_cmpR op_eq (pv 5) pe_int (nomark _)) (pe_tup (pa_cons (pe_op op_add (pv 8) (pv 6)) (pa_cons (pv 9) pa_nil))) (pe_tup (pa_cons (pv 8) (pa_cons (pe_op op_add (pv 9) (pv 6)) pa_nil)))) pa_nil))))))))))))), ?_⟩
    walk_at "s"
    obtain ⟨ps, hps, hpr⟩ := id hp
    have hn : (ps.map V.ref).length = c.words.length := by rw [List.length_map, hpr.len]; exact List.length_map _
    have hnw := ok.nw
    walk_at "w"
    refine ⟨p, c.words, rfl, hp, by omega, ok.lens, fun _ H1 e1 => ?_⟩
    have hst1 := hst.ex e1
    obtain ⟨sdx, pt, pl, pds, St⟩ := id hst1
    have hsz := ok.size
    have hsz2 := ok.sz
    walk_at "w"
    refine ⟨⟨_, SqL.of (e1 _ _ hps)⟩, fun D hD => lc_list (a := p) (xs := ps.map V.ref) (fun i H' => Ex H1 H' ∧ H' D = some (.lst ((segL c i).map V.int))) ?_ ?_ ?_ ?_⟩
    · exact ⟨Ex.new hD, upd_same⟩
    · rintro i H' _ ⟨k1, _⟩
      exact SqL.of (k1 _ _ (e1 _ _ hps))
    · rintro i y H' hi ⟨k1, hl⟩
      have hi' : i < c.words.length := by rw [← hn]; exact (List.getElem?_eq_some_iff.mp hi).1
      obtain ⟨q, rr, rfl, hrr, hq⟩ := hpr.at' hi
      rw [wsV_get hi'] at hrr
      cases hrr
      have hq2 := k1 _ _ (e1 _ _ hq)
      have hsl := segL_len c i
      refine ⟨q, _, rfl, SqT.of hq2, rfl, ?_⟩
      walk_at "w"
      refine ⟨_, _, _, _, _, rfl, k1 _ _ St.ob, u.c_Setting, u.a_Setting_size, stf_size _ _, ?_⟩
      walk_at "w"
      refine ⟨⟨by omega, by omega⟩, ?_⟩
      walk_at "w"
      refine ⟨_, hl, by rw [List.length_map]; exact lt_sz (by omega), exmut k1 hD, ?_⟩
      rw [segL_succ c hi', List.map_append]; exact upd_same
    · rintro H' ⟨k1, hl⟩
      rw [hn] at hl
      have e2 := e1.trans k1
      have hsum := segL_sum ok c.words.length (Nat.le_refl _)
      walk_at "w"
      refine ⟨D, _, rfl, SqL.of hl, ?_⟩
      walk_at "w"
      refine itb (fun z => ?_) (fun _ => ?_)
      · have := of_decide_eq_true z
        omega
      walk_at "w"
      refine ⟨_, _, _, _, rfl, e2 _ _ hx, u.c_Rules, u.a_Rules_setting, lt_r, ?_⟩
      have hpx : p ≠ x := fun z => by rw [z, hx] at hps; cases hps
      have kp3 : Kp [x] H (upd H' x (.ins (He.ga K "Rules") dx (putF "setting" (.ref st) []))) := (Kp.of e2).trans (Kp.upd (by simp))
      have hx3 : (upd H' x (.ins (He.ga K "Rules") dx (putF "setting" (.ref st) []))) x = some (.ins (He.ga K "Rules") dx (putF "setting" (.ref st) [])) := upd_same
      generalize (upd H' x (.ins (He.ga K "Rules") dx (putF "setting" (.ref st) []))) = H3 at *
      have old : ∀ {b : Addr} {o : HO} {H9 : Hp}, Kp [x] H H9 → H b = some o → b ≠ x → H9 b = some o := fun kp h n => kp _ _ h (by simpa using n)
      have hps3 := old kp3 hps hpx
      clear hl hD k1 e2
      walk_at "w"
      refine ⟨p, _, rfl, Or.inl (SqL.of hps3), fun W hW => ?_⟩
      walk_at "w"
      refine ⟨_, _, _, _, rfl, xn hW hx3, u.c_Rules, u.a_Rules_writes, lt_r, ?_⟩
      have hWx : W ≠ x := (ne_of_none hx3 hW).symm
      have hW0 : H W = none := kp3.free hW (by simpa using hWx)
      have kp4 : Kp [x] H (upd (upd H3 W (.lst (ps.map V.ref))) x (.ins (He.ga K "Rules") dx (putF "writes" (.ref W) (putF "setting" (.ref st) [])))) := (kp3.trans (Kp.of (Ex.new hW))).trans (Kp.upd (by simp))
      have hx4 : (upd (upd H3 W (.lst (ps.map V.ref))) x (.ins (He.ga K "Rules") dx (putF "writes" (.ref W) (putF "setting" (.ref st) [])))) x = some (.ins (He.ga K "Rules") dx (putF "writes" (.ref W) (putF "setting" (.ref st) []))) := upd_same
      have hW4 : (upd (upd H3 W (.lst (ps.map V.ref))) x (.ins (He.ga K "Rules") dx (putF "writes" (.ref W) (putF "setting" (.ref st) [])))) W = some (.lst (ps.map V.ref)) := by rw [upd_ne hWx]; exact upd_same
      generalize (upd (upd H3 W (.lst (ps.map V.ref))) x (.ins (He.ga K "Rules") dx (putF "writes" (.ref W) (putF "setting" (.ref st) [])))) = H4 at *
      clear hx3 hps3 kp3 hW
      walk_at "w"
      refine ⟨le_sz le_r, fun T hT => ?_⟩
      refine ⟨le_sz le_r, fun G hG => ?_⟩
      walk_at "w"
      refine ⟨_, _, _, _, rfl, xn hG (xn hT hx4), u.c_Rules, u.a_Rules_given, lt_r, ?_⟩
      have hGx : G ≠ x := (ne_of_none (xn hT hx4) hG).symm
      have hTx : T ≠ x := (ne_of_none hx4 hT).symm
      have hWG : W ≠ G := ne_of_none (xn hT hW4) hG
      have hG0 : H G = none := (kp4.trans (Kp.of (Ex.new hT))).free hG (by simpa using hGx)
      have kp5 : Kp [x] H (upd (upd (upd H4 T (.tup [.int 0, .int 0])) G (.lst [.ref T])) x (.ins (He.ga K "Rules") dx (putF "given" (.ref G) (putF "writes" (.ref W) (putF "setting" (.ref st) []))))) := ((kp4.trans (Kp.of (Ex.new hT))).trans (Kp.of (Ex.new hG))).trans (Kp.upd (by simp))
      have hx5 : (upd (upd (upd H4 T (.tup [.int 0, .int 0])) G (.lst [.ref T])) x (.ins (He.ga K "Rules") dx (putF "given" (.ref G) (putF "writes" (.ref W) (putF "setting" (.ref st) []))))) x = some (.ins (He.ga K "Rules") dx (ruF st W G)) := by rw [upd_same]; kernel_rfl
      have hW5 : (upd (upd (upd H4 T (.tup [.int 0, .int 0])) G (.lst [.ref T])) x (.ins (He.ga K "Rules") dx (putF "given" (.ref G) (putF "writes" (.ref W) (putF "setting" (.ref st) []))))) W = some (.lst (ps.map V.ref)) := by rw [upd_ne hWx]; exact xn hG (xn hT hW4)
      have hG5 : (upd (upd (upd H4 T (.tup [.int 0, .int 0])) G (.lst [.ref T])) x (.ins (He.ga K "Rules") dx (putF "given" (.ref G) (putF "writes" (.ref W) (putF "setting" (.ref st) []))))) G = some (.lst [.ref T]) := by rw [upd_ne hGx]; exact upd_same
      have hT5 : (upd (upd (upd H4 T (.tup [.int 0, .int 0])) G (.lst [.ref T])) x (.ins (He.ga K "Rules") dx (putF "given" (.ref G) (putF "writes" (.ref W) (putF "setting" (.ref st) []))))) T = some (.tup [.int 0, .int 0]) := by rw [upd_ne hTx]; exact xn hG upd_same
      generalize (upd (upd (upd H4 T (.tup [.int 0, .int 0])) G (.lst [.ref T])) x (.ins (He.ga K "Rules") dx (putF "given" (.ref G) (putF "writes" (.ref W) (putF "setting" (.ref st) []))))) = H5 at *
      clear hx4 hW4 kp4 hT hG
      have hps5 := old kp5 hps hpx
      have hpG : p ≠ G := fun z => by rw [z, hG0] at hps; cases hps
      have hpr5 : Rows H5 ps (wsV c) := ⟨hpr.len, fun i q hq => let ⟨r, a, b⟩ := hpr.at_ i q hq; ⟨r, a, old kp5 b (fun z => by rw [z, hx] at b; cases b)⟩⟩
      have keepT : ∀ {H9 : Hp} {b : Addr} {xs : List V}, Kp [G] H5 H9 → H5 b = some (.tup xs) → H9 b = some (.tup xs) := fun kp h => kp _ _ h (fun z => by rw [List.mem_singleton.mp z, hG5] at h; cases h)
      have hlen : (givV c).length = c.words.length + 1 := by unfold givV; rw [List.length_map, List.length_range]
      walk_at "w"
      refine ⟨⟨_, SqL.of hps5⟩, for_list (a := p) (xs := ps.map V.ref) (fun i σ' H9 => ∃ v5 v6 v7 v8 v9 gs, σ' = [some (.ref x), some (.ref st), some (.ref p), some (.int 300), some (.int (segL c c.words.length).sum), v5, v6, v7, v8, v9] ∧ Kp [G] H5 H9 ∧ H9 G = some (.lst (gs.map V.ref)) ∧ Rows H9 gs ((givV c).take (i + 1))) ?_ ?_ ?_ ?_⟩
      · refine ⟨none, none, none, none, none, [T], rfl, Kp.refl, hG5, ?_⟩
        have h0 : (givV c).take (0 + 1) = [[V.int 0, V.int 0]] := by
          rw [List.take_add_one, givV_get c (Nat.zero_le _)]; rfl
        rw [h0]
        exact Rows.nil.snoc (rs := []) (ps := []) hT5
      · rintro i σ' H9 _ ⟨v5, v6, v7, v8, v9, gs, rfl, kp, hG9, hR⟩
        exact SqL.of (kp _ _ hps5 (by simpa using hpG))
      · rintro i y σ' H9 hi ⟨v5, v6, v7, v8, v9, gs, rfl, kp, hG9, hR⟩
        have hi' : i < c.words.length := by rw [← hn]; exact (List.getElem?_eq_some_iff.mp hi).1
        obtain ⟨q, rr, rfl, hrr, hq⟩ := hpr5.at' hi
        rw [wsV_get hi'] at hrr
        cases hrr
        have hq9 := keepT kp hq
        have hx9 := kp _ _ hx5 (by simpa using hGx.symm)
        rw [List.take_add_one, givV_get c (Nat.le_of_lt hi')] at hR
        obtain ⟨qs, g, rfl, hg, hR0⟩ := hR.snoc_inv
        have hgl : qs.length ≤ i := by rw [hR0.len, List.length_take]; omega
        generalize hwd : wd c i = e at *
        walk_at "w"
        refine ⟨_, _, _, _, _, rfl, hx9, u.c_Rules, u.a_Rules_given, rk_given _ _ _, ?_⟩
        walk_at "w"
        refine ⟨G, _, _, _, rfl, rfl, SqL.of hG9, (by rw [List.map_append]; exact atI_last _ _), ?_⟩
        walk_at "w"
        refine ⟨_, _, _, _, _, rfl, hx9, u.c_Rules, u.a_Rules_given, rk_given _ _ _, ?_⟩
        refine ⟨tyl hG9, ?_⟩
        walk_at "w"
        rw [eq_wI0]
        have s0 := given_succ hi' false
        have s1 := given_succ hi' true
        rw [hwd] at s0 s1
        have put : ∀ (N : Addr) (za zb : Int), H9 N = none → za = given c (i + 1) false → zb = given c (i + 1) true → ∃ v5 v6 v7 v8 v9 gs, [some (V.ref x), some (V.ref st), some (V.ref p), some (V.int 300), some (V.int (segL c c.words.length).sum), some (V.int (wI e.who)), some (V.int e.len), some (V.str e.how.str), some (V.int (given c i false)), some (V.int (given c i true))] = [some (.ref x), some (.ref st), some (.ref p), some (.int 300), some (.int (segL c c.words.length).sum), v5, v6, v7, v8, v9] ∧ Kp [G] H5 (upd (upd H9 N (.tup [.int za, .int zb])) G (.lst ((qs ++ [g]).map V.ref ++ [.ref N]))) ∧ (upd (upd H9 N (.tup [.int za, .int zb])) G (.lst ((qs ++ [g]).map V.ref ++ [.ref N]))) G = some (.lst (gs.map V.ref)) ∧ Rows (upd (upd H9 N (.tup [.int za, .int zb])) G (.lst ((qs ++ [g]).map V.ref ++ [.ref N]))) gs ((givV c).take (i + 1 + 1)) := by
          intro N za zb hN h1 h2
          refine ⟨_, _, _, _, _, qs ++ [g] ++ [N], rfl, (kp.trans (Kp.of (Ex.new hN))).trans (Kp.upd (by simp)), by rw [upd_same, List.map_append (l₁ := qs ++ [g])]; rfl, ?_⟩
          rw [List.take_add_one, List.take_add_one, givV_get c (Nat.le_of_lt hi'), givV_get c (show i + 1 ≤ c.words.length from hi')]
          subst h1 h2
          exact ((hR.ex (Ex.new hN)).snoc upd_same).updl (xn hN hG9)
        refine itb (fun z => ?_) (fun z => ?_)
        · have z1 : e.who = false := of_decide_eq_true z
          walk_at "w"
          refine ⟨le_sz le_r, fun N hN => ?_⟩
          refine ⟨G, _, _, rfl, rfl, xn hN hG9, by rw [List.length_map, List.length_append]; exact lt_sz (by show qs.length + 1 < 100000; omega), ?_⟩
          exact put N _ _ hN (by rw [s0, z1, if_pos rfl]) (by rw [s1, z1, if_neg (by decide)]; omega)
        · have z1 : e.who = true := by have := of_decide_eq_false z; cases h : e.who; exact absurd h this; rfl
          walk_at "w"
          refine ⟨le_sz le_r, fun N hN => ?_⟩
          refine ⟨G, _, _, rfl, rfl, xn hN hG9, by rw [List.length_map, List.length_append]; exact lt_sz (by show qs.length + 1 < 100000; omega), ?_⟩
          exact put N _ _ hN (by rw [s0, z1, if_neg (by decide)]; omega) (by rw [s1, z1, if_pos rfl])
      · rintro σ' H9 ⟨v5, v6, v7, v8, v9, gs, rfl, kp, hG9, hR⟩
        rw [hn, ← hlen, List.take_length] at hR
        have kpx : Kp [x] H H9 := fun b o h n => kp _ _ (kp5 _ _ h n) (fun z => by rw [List.mem_singleton.mp z, hG0] at h; cases h)
        refine k W G H9 kpx hW0 hG0 ⟨kp _ _ hx5 (by simpa using hGx.symm), ?_, ⟨ps, kp _ _ hW5 (by simpa using hWG), ⟨hpr5.len, fun i q hq => let ⟨r, a, b⟩ := hpr5.at_ i q hq; ⟨r, a, keepT kp b⟩⟩⟩, ⟨gs, hG9, hR⟩⟩
        obtain ⟨sd0, pt0, pl0, pd0, S0⟩ := hst
        refine ⟨sd0, pt0, pl0, pd0, S0.kp kpx ?_ ?_ ?_⟩
        · intro z; have h := S0.ob; rw [List.mem_singleton.mp z, hx] at h; have h := Option.some.inj h; injection h with _ _ h3; cases h3
        · intro z; have := S0.tu; rw [List.mem_singleton.mp z, hx] at this; cases this
        · intro b z; have h := S0.pol b; rw [List.mem_singleton.mp z, hx] at h; have h := Option.some.inj h; injection h with _ _ h3; cases h3
end
end Lw
namespace Lw
open PySem PySem.Spec PyProof.Rows L2
section
variable {P : Program} {w : World} {K : PySem.W.Frag} {mg : Str → Option Value} {base : Heap}
local macro_rules | `(tactic| walk_at "h") => `(tactic| first | assumption | exact upd_same | (refine xn (by assumption) ?_; walk_at "h") | (refine exapp (by assumption) ?_; walk_at "h"))
local macro_rules | `(tactic| walk_at "e") => `(tactic| first | exact Same.refl _ | assumption | (refine Same.trans ?_ (Ex.new (by assumption)); walk_at "e") | (refine Same.trans ?_ (by assumption); walk_at "e"))
local macro_rules | `(tactic| walk_at "w") => `(tactic| repeat (first | refine ⟨_, rfl, ?_⟩ | refine ⟨_, _, rfl, rfl, ?_⟩ | refine ⟨_, _, _, _, rfl, rfl, SqT.of (by walk_at "h"), (by rfl), ?_⟩ | (refine fun σ2 (hσ : σ2 = _) => ?_; (try simp only [List.set_cons_succ, List.set_cons_zero] at hσ); subst hσ) | refine ⟨_, _, rfl, SqT.of (by walk_at "h"), (by rfl), ?_⟩ | refine ⟨rfl, ?_⟩ | refine ⟨_, _, rfl, ?_⟩))
local macro_rules | `(tactic| walk_at "s") => `(tactic| (intro σ hσ; simp only [start_eq, List.map_cons, List.map_nil, List.length_cons, List.length_nil, List.cons_append, List.nil_append, Nat.reduceAdd, Nat.reduceSub, List.replicate_succ, List.replicate_zero] at hσ; subst hσ))

theorem RuAt.keep {c : Cfg} {H H' : Hp} {r dr st W G x C dx : Addr} {fs : List (Str × V)} (h : RuAt K c H r dr st W G) (hx : H x = some (.ins C dx fs)) (hr : r ≠ x) (kp : Kp [x] H H') (hi : IsSet K c H' st) : RuAt K c H' r dr st W G := by
  have k : ∀ {b : Addr} {u : HO}, H b = some u → b ≠ x → H' b = some u := fun e n => kp _ _ e (by simpa using n)
  have kl : ∀ {b : Addr} {u : List V}, H b = some (.lst u) → H' b = some (.lst u) := fun e => k e (fun z => by rw [z, hx] at e; cases e)
  have kt : ∀ {b : Addr} {u : List V}, H b = some (.tup u) → H' b = some (.tup u) := fun e => k e (fun z => by rw [z, hx] at e; cases e)
  obtain ⟨ws, hws, hwr⟩ := h.wr
  obtain ⟨gs, hgs, hgr⟩ := h.gi
  refine ⟨k h.ob hr, hi, ⟨ws, kl hws, hwr.len, fun i q hq => ?_⟩, ⟨gs, kl hgs, hgr.len, fun i q hq => ?_⟩⟩
  · obtain ⟨r, a, b⟩ := hwr.at_ i q hq
    exact ⟨r, a, kt b⟩
  · obtain ⟨r, a, b⟩ := hgr.at_ i q hq
    exact ⟨r, a, kt b⟩
theorem RuAt.live {c : Cfg} {H : Hp} {r dr st W G : Addr} (h : RuAt K c H r dr st W G) {D : Addr} (hD : H D = none) : W ≠ D ∧ G ≠ D := by
  obtain ⟨ws, hws, hwr⟩ := h.wr
  obtain ⟨gs, hgs, hgr⟩ := h.gi
  exact ⟨ne_of_none hws hD, ne_of_none hgs hD⟩
theorem ScAt.updi {H : Hp} {s D C dx : Addr} {fs : List (Str × V)} {m : Mo} {o : HO} (h : ScAt H s m) (hD : H D = some (.ins C dx fs)) : ScAt (upd H D o) s m := by
  obtain ⟨S, W, s2, w2, q1, q2, q3, q4, q5⟩ := h.ex
  have k : ∀ {b : Addr} {ys : List V}, H b = some (.tup ys) → upd H D o b = some (.tup ys) := fun p => by rw [upd_ne (fun z => by rw [z, hD] at p; cases p)]; exact p
  refine ⟨S, W, s2, w2, k q1, k q2, fun b => k (q3 b), k q4, fun b => ?_⟩
  obtain ⟨ps, p, q⟩ := q5 b
  exact ⟨ps, k p, q.upd' hD (fun xs z => by cases z)⟩
def spRoadInit (K : PySem.W.Frag) : Sp := fun vs H Q _ => ∃ (x dx st p : Addr) (c : Cfg), vs = [.ref x, .ref st, .ref p] ∧ H x = some (.ins (He.ga K "Road") dx []) ∧ IsSet K c H st ∧ LstT H p (wsV c) ∧ Cok c ∧
  ∀ RU SC DL H', Kp [x] H H' → H SC = none → H DL = none → RoAt K c H' x dx RU SC DL (mo0, []) → Q .non H'
theorem ok_Road__init (u : U K mg) : Ok P w K mg base 7 (He.ma K (He.ga K "Road") "__init__") ["self", "setting", "conversation"] (spRoadInit K) := by
  obtain ⟨fd_Rules__init, G_Rules__init, kp_Rules__init, b_Rules__init⟩ := (ok_Rules__init (P := P) (w := w) (base := base) u).ex
  obtain ⟨fd_Rules_first, G_Rules_first, kp_Rules_first, b_Rules_first⟩ := (ok_Rules_first (P := P) (w := w) (base := base) u).ex
  obtain ⟨fd, F⟩ := u.d_Road__init
  refine mkOk F sc_Road__init (fun _ _ _ _ _ _ us hl => match us, hl with | [_, _, _], _ => rfl) (fun vs H Q E h => ?_) (fun cdv A outer s H vs Q E hr h => ?_)
  · obtain ⟨x, dx, st, p, c, rfl, hx, hst, hp, ok, k⟩ := h
    rfl
  · obtain ⟨x, dx, st, p, c, rfl, hx, hst, hp, ok, k⟩ := h
    have hu := hu_of hr
    refine ⟨_, (pss_n (ps_fld (pv 0) (pe_make u.mk_Rules G_Rules__init (hr.mono (by decide)) (by rfl) u.g_Rules b_Rules__init .nil pass0 (pa_cons (pv 1) (pa_cons (pv 2) (pa_cons (pe_glob rfl u.k_MOST_SEGMENTS.choose_spec (show L2.RelV (.int 300) _ from ⟨_, rfl⟩)) pa_nil)))) rfl)
    (pss_n (ps_fld (pv 0) (pe_lst (pa_cons (pe_meth0 (pe_fld (pv 0) rfl) u.c_Rules u.m_Rules_first G_Rules_first (hr.mono (by decide)) b_Rules_first .nil pass0) pa_nil)) rfl)
    (pss_n (ps_fld (pv 0) (pe_lst pa_nil) rfl)
    (pss_one (ps_fld (pv 0) pe_int rfl))))), ?_⟩
    walk_at "s"
    walk_at "w"
    intro z dz hz hdz hne
    refine ⟨z, dz, st, p, c, rfl, upd_same, hst.ex (updEx2 hz hdz), hp.ex (updEx2 hz hdz), ok, fun W G H1 kp1 hW hG R => ⟨rfl, ?_⟩⟩
    have e1 := mkEx hz hdz hne kp1
    have hx1 := e1 _ _ hx
    have hzx : z ≠ x := (ne_of_none hx hz).symm
    have iset : ∀ H9, Kp [x] H H9 → IsSet K c H9 st := fun H9 kpx => by
      obtain ⟨sd0, pt0, pl0, pd0, S0⟩ := hst
      refine ⟨sd0, pt0, pl0, pd0, S0.kp kpx ?_ ?_ ?_⟩
      · intro z; have h := S0.ob; rw [List.mem_singleton.mp z, hx] at h; have h := Option.some.inj h; injection h with _ _ h3; cases h3
      · intro z; have := S0.tu; rw [List.mem_singleton.mp z, hx] at this; cases this
      · intro b z; have h := S0.pol b; rw [List.mem_singleton.mp z, hx] at h; have h := Option.some.inj h; injection h with _ _ h3; cases h3
    clear kp1 hW hG hdz hne
    walk_at "w"
    refine ⟨_, _, _, _, rfl, hx1, u.c_Road, u.a_Road_rules, lt_r, ?_⟩
    have kp2 : Kp [x] H1 (upd H1 x (.ins (He.ga K "Road") dx (putF "rules" (.ref z) []))) := Kp.upd (by simp)
    have hx2 : (upd H1 x (.ins (He.ga K "Road") dx (putF "rules" (.ref z) []))) x = some (.ins (He.ga K "Road") dx (putF "rules" (.ref z) [])) := upd_same
    generalize (upd H1 x (.ins (He.ga K "Road") dx (putF "rules" (.ref z) []))) = H2 at *
    have R2 := R.keep hx1 hzx kp2 (iset _ ((Kp.of e1).trans kp2))
    walk_at "w"
    refine ⟨_, _, _, _, _, rfl, hx2, u.c_Road, u.a_Road_rules, rfl, ?_⟩
    refine ⟨_, _, _, rfl, R2.ob, rn_first _ _ _, ?_⟩
    refine ⟨z, rfl, fun t H3 e3 ht => ?_⟩
    refine ⟨le_sz le_r, fun SC hSC => ?_⟩
    have hx3 : (upd H3 SC (.lst [.ref t])) x = some (.ins (He.ga K "Road") dx (putF "rules" (.ref z) [])) := xn hSC (e3 _ _ hx2)
    have nSCx : SC ≠ x := (ne_of_none (e3 _ _ hx2) hSC).symm
    have kp3 : Kp [x] H1 (upd H3 SC (.lst [.ref t])) := kp2.trans (Kp.of (e3.trans (Ex.new hSC)))
    have hSC0 : H SC = none := ((Kp.of e1).trans (kp2.trans (Kp.of e3))).free hSC (by simpa using nSCx)
    have nR := (R2.ex e3).live hSC
    walk_at "w"
    refine ⟨_, _, _, _, rfl, hx3, u.c_Road, u.a_Road_scenes, lt_r, ?_⟩
    have hSC3 : (upd H3 SC (.lst [.ref t])) SC = some (.lst [.ref t]) := upd_same
    have ht3 : ScAt (upd H3 SC (.lst [.ref t])) t mo0 := ht.mono (Ex.new hSC)
    generalize (upd H3 SC (.lst [.ref t])) = H4 at *
    clear e3 ht hSC
    have kp5 : Kp [x] H1 (upd H4 x (.ins (He.ga K "Road") dx (putF "scenes" (.ref SC) (putF "rules" (.ref z) [])))) := kp3.trans (Kp.upd (by simp))
    have hx5 : (upd H4 x (.ins (He.ga K "Road") dx (putF "scenes" (.ref SC) (putF "rules" (.ref z) [])))) x = some (.ins (He.ga K "Road") dx (putF "scenes" (.ref SC) (putF "rules" (.ref z) []))) := upd_same
    have hSC5 : (upd H4 x (.ins (He.ga K "Road") dx (putF "scenes" (.ref SC) (putF "rules" (.ref z) [])))) SC = some (.lst [.ref t]) := by rw [upd_ne nSCx]; exact hSC3
    have ht5 := ht3.updi (o := .ins (He.ga K "Road") dx (putF "scenes" (.ref SC) (putF "rules" (.ref z) []))) hx3
    generalize (upd H4 x (.ins (He.ga K "Road") dx (putF "scenes" (.ref SC) (putF "rules" (.ref z) [])))) = H5 at *
    clear ht3 hSC3 hx3 kp3
    walk_at "w"
    refine ⟨le_sz le_r, fun DL hDL => ?_⟩
    have nDLx : DL ≠ x := (ne_of_none hx5 hDL).symm
    have nDS : SC ≠ DL := ne_of_none hSC5 hDL
    have hDL0 : H DL = none := ((Kp.of e1).trans kp5).free hDL (by simpa using nDLx)
    have nR2 := (R.keep hx1 hzx kp5 (iset _ ((Kp.of e1).trans kp5))).live hDL
    walk_at "w"
    refine ⟨_, _, _, _, rfl, xn hDL hx5, u.c_Road, u.a_Road_deeds, lt_r, ?_⟩
    walk_at "w"
    refine ⟨_, _, _, _, rfl, upd_same, u.c_Road, u.a_Road_floor, lt_r, ?_⟩
    have kp7 : Kp [x] H1 (upd (upd (upd H5 DL (.lst [])) x (.ins (He.ga K "Road") dx (putF "deeds" (.ref DL) (putF "scenes" (.ref SC) (putF "rules" (.ref z) []))))) x (.ins (He.ga K "Road") dx (putF "floor" (.int 0) (putF "deeds" (.ref DL) (putF "scenes" (.ref SC) (putF "rules" (.ref z) [])))))) := ((kp5.trans (Kp.of (Ex.new hDL))).trans (Kp.upd (by simp))).trans (Kp.upd (by simp))
    have ht7 := ((ht5.mono (Ex.new (o := .lst []) hDL)).updi (o := .ins (He.ga K "Road") dx (putF "deeds" (.ref DL) (putF "scenes" (.ref SC) (putF "rules" (.ref z) [])))) (xn hDL hx5)).updi (o := .ins (He.ga K "Road") dx (putF "floor" (.int 0) (putF "deeds" (.ref DL) (putF "scenes" (.ref SC) (putF "rules" (.ref z) []))))) upd_same
    refine k z SC DL _ ((Kp.of e1).trans kp7) hSC0 hDL0 ⟨?_, ⟨dz, st, W, G, R.keep hx1 hzx kp7 (iset _ ((Kp.of e1).trans kp7)), nR.1, nR2.1, nR.2, nR2.2⟩, nDS, ⟨[], t, ?_, ht7, rfl⟩, ?_⟩
    · rw [upd_same]; kernel_rfl
    · rw [upd_ne nSCx, upd_ne nSCx]; exact xn hDL hSC5
    · rw [upd_ne nDLx, upd_ne nDLx]; exact upd_same
end
end Lw
namespace Lw
open PySem PySem.Spec PyProof.Rows L2
section
variable {P : Program} {w : World} {K : PySem.W.Frag} {mg : Str → Option Value} {base : Heap}
local macro_rules | `(tactic| walk_at "h") => `(tactic| first | assumption | exact upd_same | (refine xn (by assumption) ?_; walk_at "h") | (refine exapp (by assumption) ?_; walk_at "h"))
local macro_rules | `(tactic| walk_at "e") => `(tactic| first | exact Same.refl _ | assumption | (refine Same.trans ?_ (Ex.new (by assumption)); walk_at "e") | (refine Same.trans ?_ (by assumption); walk_at "e"))
local macro_rules | `(tactic| walk_at "w") => `(tactic| repeat (first | refine ⟨_, rfl, ?_⟩ | refine ⟨_, _, rfl, rfl, ?_⟩ | refine ⟨_, _, _, _, rfl, rfl, SqT.of (by walk_at "h"), (by rfl), ?_⟩ | (refine fun σ2 (hσ : σ2 = _) => ?_; (try simp only [List.set_cons_succ, List.set_cons_zero] at hσ); subst hσ) | refine ⟨_, _, rfl, SqT.of (by walk_at "h"), (by rfl), ?_⟩ | refine ⟨rfl, ?_⟩ | refine ⟨_, _, rfl, ?_⟩))
local macro_rules | `(tactic| walk_at "s") => `(tactic| (intro σ hσ; simp only [start_eq, List.map_cons, List.map_nil, List.length_cons, List.length_nil, List.cons_append, List.nil_append, Nat.reduceAdd, Nat.reduceSub, List.replicate_succ, List.replicate_zero] at hσ; subst hσ))

theorem OrdV.ex {H H' : Hp} {c : Cfg} {plan : Nat → Nat} {o : V} (h : OrdV H c plan o) (e : Ex H H') : OrdV H' c plan o := by
  rcases h with h | h | ⟨b, h1, h2, h3⟩
  · exact Or.inl h
  · exact Or.inr (Or.inl h)
  · exact Or.inr (Or.inr ⟨b, h1, e _ _ h2, h3⟩)
def spRoadPlay (K : PySem.W.Frag) : Sp := fun vs H Q _ => ∃ (r dr RU SC DL : Addr) (c : Cfg) (x : ML) (o : V) (plan : Nat → Nat), vs = [.ref r, o] ∧ RoAt K c H r dr RU SC DL x ∧ Cok c ∧ PlanOk c plan ∧ OrdV H c plan o ∧
  ∀ r2 dr2 RU2 SC2 DL2 H', Ex H H' → RoAt K c H' r2 dr2 RU2 SC2 DL2 (roadAll c plan) → Q (.ref r2) H'
theorem ok_Road_play (u : U K mg) : Ok P w K mg base 10 (He.ma K (He.ga K "Road") "play") ["self", "order"] (spRoadPlay K) := by
  obtain ⟨fd_Road__init, G_Road__init, kp_Road__init, b_Road__init⟩ := (ok_Road__init (P := P) (w := w) (base := base) u).ex
  obtain ⟨fd_normal_order, G_normal_order, kp_normal_order, b_normal_order⟩ := (ok_normal_order (P := P) (w := w) (base := base) u).ex
  obtain ⟨fd_Road_end_turn, G_Road_end_turn, kp_Road_end_turn, b_Road_end_turn⟩ := (ok_Road_end_turn (P := P) (w := w) (base := base) u).ex
  obtain ⟨fd_Road_clearing, G_Road_clearing, kp_Road_clearing, b_Road_clearing⟩ := (ok_Road_clearing (P := P) (w := w) (base := base) u).ex
  obtain ⟨fd_Road_do, G_Road_do, kp_Road_do, b_Road_do⟩ := (ok_Road_do (P := P) (w := w) (base := base) u).ex
  obtain ⟨fd, F⟩ := u.d_Road_play
  refine mkOkB F sc_Road_play ?_ (fun vs H Q E h => ?_) (fun cdv A outer s H vs Q E hr h => ?_)
  · obtain ⟨ds, hv, hb⟩ := F.binds1 (ps := ["self", "order"]) 2 1 (by intro z; cases z) rfl (fun T kV doc pm an cdv ct us its h1 h2 =>
        match us, its, h1, h2 with | [_, _], [_], _, _ => ⟨_, rfl, rfl⟩)
    cases hv
    exact hb
  · obtain ⟨r, dr, RU, SC, DL, c, x, o, plan, rfl, hr2, ok, po, ho, k⟩ := h
    rfl
  · obtain ⟨r, dr, RU, SC, DL, c, x, o, plan, rfl, hr2, ok, po, ho, k⟩ := h
    have hu := hu_of hr
    refine ⟨_, (pss_n (ps_set (i := 2) sc_Road_play.nd rfl (Or.inl rfl) (pe_make u.mk_Road G_Road__init (hr.mono (by decide)) (by rfl) u.g_Road b_Road__init .nil pass0 (pa_cons (pe_fld (pe_fld (pv 0) rfl) rfl) (pa_cons (pe_fld (pe_fld (pv 0) rfl) rfl) pa_nil))))
    (pss_n (ps_set (i := 3) sc_Road_play.nd rfl (Or.inl rfl) (pe_call G_normal_order (hr.mono (by decide)) (by rfl) u.g_normal_order kp_normal_order b_normal_order .nil pass0 (pa_cons (pe_fld (pe_fld (pv 0) rfl) rfl) (pa_cons (pv 1) pa_nil))))
    (pss_n (ps_for PassesOwn.never rfl (pi_enum (by rfl) u.n_enumerate (pa_cons (pe_fld (pe_fld (pv 0) rfl) rfl) pa_nil)) (pg_tup rfl (pgs_cons (pg_name (i := 4) sc_Road_play.nd rfl (Or.inl rfl)) (pgs_cons (pg_name (i := 5) sc_Road_play.nd rfl (Or.inl rfl)) pgs_nil)))
    (Evl.pss_cut (ps_if (PW.pt (pw_and (pt_cmpR op_gt (pv 4) pe_int (nomark _)) (pw_and1 (pt_cmpR op_ne (pe_ix ix_tup (pv 5) pe_int (fun _ _ => rfl)) (pe_ix ix_tup (pe_ix ix_list (pe_fld (pe_fld (pv 0) rfl) rfl) (pe_op op_sub (pv 4) pe_int) (fun _ _ => rfl)) pe_int (fun _ _ => rfl)) (nomark _)))))
    (pss_one (ps_expr (pe_meth0 (pv 2) u.c_Road u.m_Road_end_turn G_Road_end_turn (hr.mono (by decide)) b_Road_end_turn .nil pass0)))
    pss_nil)
    (pss_n (ps_for PassesOwn.never rfl (pi_range1 (by rfl) u.n_range (pa_cons (pe_ix ix_list (pv 3) (pv 4) (fun _ _ => rfl)) pa_nil)) (pg_name (i := 6) sc_Road_play.nd rfl (Or.inl rfl))
    (pss_one (ps_expr (pe_meth0 (pv 2) u.c_Road u.m_Road_clearing G_Road_clearing (hr.mono (by decide)) b_Road_clearing .nil pass0))))
    (pss_one (ps_expr (pe_meth (pv 2) u.c_Road u.m_Road_do G_Road_do (hr.mono (by decide)) b_Road_do .nil pass0 (pa_cons (pe_glob rfl u.k_WRITE.choose_spec (show L2.RelV (.str "write") _ from ⟨_, rfl⟩)) pa_nil)))))))
    (pss_n (ps_expr (pe_meth0 (pv 2) u.c_Road u.m_Road_end_turn G_Road_end_turn (hr.mono (by decide)) b_Road_end_turn .nil pass0))
    (pss_one (ps_ret (pv 2))))))), ?_⟩
    walk_at "s"
    obtain ⟨d2, st, W, G, R, n1, n2, n3, n4⟩ := hr2.ru
    obtain ⟨ws, hws, hwr⟩ := id R.wr
    have hn : (ws.map V.ref).length = c.words.length := by rw [List.length_map, hwr.len]; exact List.length_map _
    have hnw := ok.nw
    walk_at "w"
    refine ⟨_, _, _, _, _, rfl, hr2.ob, u.c_Road, u.a_Road_rules, ok_rules _ _ _, ?_⟩
    refine ⟨_, _, _, _, _, rfl, R.ob, u.c_Rules, u.a_Rules_setting, rk_setting _ _ _, ?_⟩
    walk_at "w"
    refine ⟨_, _, _, _, _, rfl, hr2.ob, u.c_Road, u.a_Road_rules, ok_rules _ _ _, ?_⟩
    refine ⟨_, _, _, _, _, rfl, R.ob, u.c_Rules, u.a_Rules_writes, rk_writes _ _ _, ?_⟩
    walk_at "w"
    intro z dz hz hdz hne
    refine ⟨z, dz, st, W, c, rfl, upd_same, R.se.ex (updEx2 hz hdz), R.wr.ex (updEx2 hz hdz), ok, fun RU2 SC2 DL2 H1 kp1 hSC hDL M1 => ⟨rfl, ?_⟩⟩
    have e1 := mkEx hz hdz hne kp1
    have hSC0 := exnone (updEx2 (o1 := .own z) (o2 := .ins (He.ga K "Road") dz []) hz hdz) hSC
    have hDL0 := exnone (updEx2 (o1 := .own z) (o2 := .ins (He.ga K "Road") dz []) hz hdz) hDL
    clear hSC hDL kp1
    have r1 := hr2.ex e1
    have R1 := R.ex e1
    walk_at "w"
    refine ⟨_, _, _, _, _, rfl, r1.ob, u.c_Road, u.a_Road_rules, ok_rules _ _ _, ?_⟩
    refine ⟨_, _, _, _, _, rfl, R1.ob, u.c_Rules, u.a_Rules_writes, rk_writes _ _ _, ?_⟩
    walk_at "w"
    refine ⟨W, o, c, plan, rfl, R1.wr, by omega, ok.lens, ho.ex e1, fun pl H2 e2 hpl => ?_⟩
    have r2 := r1.ex e2
    have R2 := R1.ex e2
    have M2 := M1.ex e2
    have hws2 := e2 _ _ (e1 _ _ hws)
    have hwr2 := (hwr.ex e1).ex e2
    have e12 := e1.trans e2
    have old : ∀ {H' : Hp}, Kp [SC2, DL2] H2 H' → Ex H H' := fun kp => kp.ex e12 (fun b hb => by
      simp only [List.mem_cons, List.not_mem_nil, or_false] at hb
      rcases hb with h | h
      · rw [h]; exact hSC0
      · rw [h]; exact hDL0)
    have hplS : ∀ {H' : Hp}, 0 < c.words.length → Kp [SC2, DL2] H2 H' → H' pl = some (.lst (planL c plan)) := fun hpos kp => kp _ _ hpl (fun h => by
      simp only [List.mem_cons, List.not_mem_nil, or_false] at h
      rcases h with h | h
      · obtain ⟨ps, s0, q1, _, _⟩ := M2.sc
        rw [← h, hpl] at q1
        injection q1 with q1
        injection q1 with q1
        have hm : V.ref s0 ∈ planL c plan := by rw [q1]; simp
        unfold planL at hm
        obtain ⟨_, _, q⟩ := List.mem_map.mp hm
        cases q
      · have q1 := M2.de
        rw [← h, hpl] at q1
        injection q1 with q1
        injection q1 with q1
        have := planL_len c plan
        rw [q1] at this
        exact absurd this (by show ¬ 0 = _; omega))
    walk_at "w"
    refine ⟨_, _, _, _, _, rfl, r2.ob, u.c_Road, u.a_Road_rules, ok_rules _ _ _, ?_⟩
    refine ⟨_, _, _, _, _, rfl, R2.ob, u.c_Rules, u.a_Rules_writes, rk_writes _ _ _, ?_⟩
    refine ⟨_, _, rfl, SqL.of hws2, for_it (walk_enum (xs := ws.map V.ref)) (fun i σ' H' => ∃ v4 v5 v6, σ' = [some (.ref r), some o, some (.ref z), some (.ref pl), v4, v5, v6] ∧ Kp [SC2, DL2] H2 H' ∧ RoAt K c H' z dz RU2 SC2 DL2 (roadN c plan i)) ?_ ?_ ?_ ?_⟩
    · exact ⟨none, none, none, rfl, Kp.refl, M2⟩
    · rintro i σ' H' _ ⟨v4, v5, v6, rfl, kp, M⟩
      exact SqL.of (old kp _ _ hws)
    · rintro i y σ' H' H3 hi ⟨v4, v5, v6, rfl, kp, M⟩ hx
      obtain ⟨T, y2, rfl, hT, rfl, hy2⟩ := yen hx
      have hi' : i < c.words.length := by rw [← hn]; exact (List.getElem?_eq_some_iff.mp hy2).1
      obtain ⟨q, rr, rfl, hrr, hq⟩ := hwr.at' hy2
      rw [wsV_get hi'] at hrr
      cases hrr
      have kpT := kp.trans (Kp.of (Ex.new (o := .tup [.int (i : Nat), .ref q]) hT))
      have MT := M.ex (Ex.new (o := .tup [.int (i : Nat), .ref q]) hT)
      have hT3 : (upd H' T (.tup [.int (i : Nat), .ref q])) T = some (.tup [.int (i : Nat), .ref q]) := upd_same
      generalize (upd H' T (.tup [.int (i : Nat), .ref q])) = H3 at *
      obtain ⟨gi, mi, di⟩ := roadN_gd ok.toCfgL plan i (by omega)
      have e1g := road1_gd (plan := plan) (k := i) (by omega) gi di
      have rc := road_can ok.toCfgOk po i hi'
      have eS := roadN_succ c plan i
      have eR : road1 c plan i = if 0 < i ∧ (wd c i).who ≠ (wd c (i - 1)).who then roadEnd c (roadN c plan i) else roadN c plan i := rfl
      rw [eS]
      generalize road1 c plan i = Y at *
      generalize roadN c plan i = X at *
      walk_at "w"
      refine ⟨fun σ2 H9 => ∃ v6, σ2 = [some (.ref r), some o, some (.ref z), some (.ref pl), some (.int (i : Nat)), some (.ref q), v6] ∧ Kp [SC2, DL2] H2 H9 ∧ RoAt K c H9 z dz RU2 SC2 DL2 Y, ?_, ?_⟩
      · have oT := old kpT
        have rT := hr2.ex oT
        have RT := R.ex oT
        have hqT := oT _ _ hq
        have hwsT := oT _ _ hws
        have hwrT := hwr.ex oT
        walk_at "w"
        refine itb (fun z1 => ?_) (fun z1 => ?_)
        · have z2 : 0 < i := by have := of_decide_eq_true z1; omega
          obtain ⟨p1, hp1, ht1⟩ := hwrT.get (wsV_get (show i - 1 < c.words.length by omega))
          have hat1 : atI (ws.map V.ref) ((i : Nat) - 1 : Int) = some (.ref p1) := by
            rw [show ((i : Nat) - 1 : Int) = ((i - 1 : Nat) : Int) by omega, atI_nat, List.getElem?_map, hp1]; rfl
          walk_at "w"
          refine ⟨_, _, _, _, _, rfl, rT.ob, u.c_Road, u.a_Road_rules, ok_rules _ _ _, ?_⟩
          refine ⟨_, _, _, _, _, rfl, RT.ob, u.c_Rules, u.a_Rules_writes, rk_writes _ _ _, ?_⟩
          walk_at "w"
          refine x_lst hwsT hat1 ?_
          walk_at "w"
          rw [ne_wI]
          refine itb (fun z3 => ?_) (fun z3 => ?_)
          · have z4 : (wd c i).who ≠ (wd c (i - 1)).who := fun h => by rw [decide_eq_true h] at z3; cases z3
            rw [if_pos ⟨z2, z4⟩] at eR
            walk_at "w"
            refine ⟨_, _, _, rfl, MT.ob, on_end_turn _ _ _, ?_⟩
            refine ⟨z, dz, RU2, SC2, DL2, c, X, _, rfl, MT, ok, gi, by omega, di, fun _ H4 kp4 M4 => ?_⟩
            exact ⟨_, rfl, kpT.trans kp4, by rw [eR]; exact M4⟩
          · have z4 : (wd c i).who = (wd c (i - 1)).who := by
              by_cases h : (wd c i).who = (wd c (i - 1)).who
              · exact h
              · rw [decide_eq_false h] at z3; cases z3
            rw [if_neg (fun h => h.2 z4)] at eR
            exact ⟨_, rfl, kpT, by rw [eR]; exact MT⟩
        · have z2 : ¬ (0 < i ∧ (wd c i).who ≠ (wd c (i - 1)).who) := by have := of_decide_eq_false z1; omega
          rw [if_neg z2] at eR
          refine ⟨_, rfl, kpT, ?_⟩
          rw [eR]; exact MT
      · rintro σ2 H4 ⟨v6, rfl, kp4, M4⟩
        have hpl4 := hplS (by omega) kp4
        have hpi : atI (planL c plan) ((i : Nat) : Int) = some (.int (plan i : Nat)) := by rw [atI_nat]; exact planL_get hi'
        have hpo := po.le i
        walk_at "w"
        refine x_lst hpl4 hpi ?_
        walk_at "w"
        refine ⟨by omega, by omega, ?_⟩
        refine for_range (n := plan i) (fun j σ3 H5 => ∃ v6, σ3 = [some (.ref r), some o, some (.ref z), some (.ref pl), some (.int (i : Nat)), some (.ref q), v6] ∧ Kp [SC2, DL2] H2 H5 ∧ RoAt K c H5 z dz RU2 SC2 DL2 (notedN c j Y)) ?_ ?_ ?_
        · exact ⟨_, rfl, kp4, M4⟩
        · rintro j σ3 H5 hj ⟨v6, rfl, kp5, M5⟩
          have gj := Gd.notedN (c := c) (B := 75 * i + 4) (by omega) j e1g.1
          walk_at "w"
          refine ⟨_, _, _, rfl, M5.ob, on_clearing _ _ _, ?_⟩
          refine ⟨z, dz, RU2, SC2, DL2, c, _, _, rfl, M5, ok, gj, by omega, fun H6 kp6 M6 => ?_⟩
          rw [← notedN_succ] at M6
          exact ⟨_, rfl, kp5.trans kp6, M6⟩
        · rintro σ3 H5 ⟨v6, rfl, kp5, M5⟩
          have gj := Gd.notedN (c := c) (B := 75 * i + 4) (by omega) (plan i) e1g.1
          generalize notedN c (plan i) Y = Z at *
          have hmu := gj.mu
          walk_at "w"
          refine ⟨_, _, _, rfl, M5.ob, on_do _ _ _, ?_⟩
          walk_at "w"
          refine ⟨z, dz, RU2, SC2, DL2, c, Z, .write, rfl, M5, gj.md, write_evs (not_over_made (by rw [rc.1]; exact hi')) rc.2, preR_of ok (e := .write) (show Z.1.made < c.words.length by rw [rc.1]; exact hi') (gj.sok (by omega)), by omega, fun _ H6 kp6 M6 => ?_⟩
          exact ⟨_, _, _, rfl, kp5.trans kp6, M6⟩
    · rintro σ' H' ⟨v4, v5, v6, rfl, kp, M⟩
      rw [hn] at M
      obtain ⟨gi, mi, di⟩ := roadN_gd ok.toCfgL plan c.words.length (Nat.le_refl _)
      walk_at "w"
      refine ⟨_, _, _, rfl, M.ob, on_end_turn _ _ _, ?_⟩
      refine ⟨z, dz, RU2, SC2, DL2, c, _, _, rfl, M, ok, gi, by omega, di, fun _ H4 kp4 M4 => ?_⟩
      walk_at "w"
      exact k z dz RU2 SC2 DL2 H4 (old (kp.trans kp4)) M4
end
end Lw
namespace Lw
open PySem PySem.Spec PyProof.Rows L2
section
variable {P : Program} {w : World} {K : PySem.W.Frag} {mg : Str → Option Value} {base : Heap}
local macro_rules | `(tactic| walk_at "h") => `(tactic| first | assumption | exact upd_same | (refine xn (by assumption) ?_; walk_at "h") | (refine exapp (by assumption) ?_; walk_at "h"))
local macro_rules | `(tactic| walk_at "e") => `(tactic| first | exact Same.refl _ | assumption | (refine Same.trans ?_ (Ex.new (by assumption)); walk_at "e") | (refine Same.trans ?_ (by assumption); walk_at "e"))
local macro_rules | `(tactic| walk_at "w") => `(tactic| repeat (first | refine ⟨_, rfl, ?_⟩ | refine ⟨_, _, rfl, rfl, ?_⟩ | refine ⟨_, _, _, _, rfl, rfl, SqT.of (by walk_at "h"), (by rfl), ?_⟩ | (refine fun σ2 (hσ : σ2 = _) => ?_; (try simp only [List.set_cons_succ, List.set_cons_zero] at hσ); subst hσ) | refine ⟨_, _, rfl, SqT.of (by walk_at "h"), (by rfl), ?_⟩ | refine ⟨rfl, ?_⟩ | refine ⟨_, _, rfl, ?_⟩))
local macro_rules | `(tactic| walk_at "s") => `(tactic| (intro σ hσ; simp only [start_eq, List.map_cons, List.map_nil, List.length_cons, List.length_nil, List.cons_append, List.nil_append, Nat.reduceAdd, Nat.reduceSub, List.replicate_succ, List.replicate_zero] at hσ; subst hσ))

theorem SetAt.bag {c : Cfg} {H : Hp} {a b d pt : Addr} {ps ds : Bool → Addr} (h : SetAt K c H a d pt ps ds) (hb : BagAt H b) : a ∉ [b] ∧ pt ∉ [b] ∧ ∀ x, ps x ∉ [b] := by
  obtain ⟨x, y, p, _⟩ := hb
  refine ⟨fun z => ?_, fun z => ?_, fun x z => ?_⟩
  · have := h.ob; rw [List.mem_singleton.mp z, p] at this; cases this
  · have := h.tu; rw [List.mem_singleton.mp z, p] at this; cases this
  · have := h.pol x; rw [List.mem_singleton.mp z, p] at this; cases this
theorem IsSet.bag {c : Cfg} {H H' : Hp} {a b : Addr} (h : IsSet K c H a) (hb : BagAt H b) (kp : Kp [b] H H') : IsSet K c H' a := by
  obtain ⟨d, pt, ps, ds, S⟩ := h
  obtain ⟨h1, h2, h3⟩ := S.bag hb
  exact ⟨d, pt, ps, ds, S.kp kp h1 h2 h3⟩
def idxL (fl : List Int) (i : Nat) : List Int := ((List.range i).filter fun k => decide (fl.getD k 0 > 0)).map fun (k : Nat) => (k : Int)
theorem idxL_all (fl : List Int) : idxL fl fl.length = idx fl := rfl
theorem idxL_succ (fl : List Int) (i : Nat) : idxL fl (i + 1) = if fl.getD i 0 > 0 then idxL fl i ++ [(i : Int)] else idxL fl i := by
  unfold idxL
  rw [List.range_succ, List.filter_append, List.map_append]
  by_cases h : fl.getD i 0 > 0
  · rw [if_pos h, List.filter_cons, if_pos (decide_eq_true h)]; rfl
  · rw [if_neg h, List.filter_cons, if_neg (by simpa using h)]; simp
theorem idxL_len (fl : List Int) (i : Nat) : (idxL fl i).length ≤ i := by
  unfold idxL
  rw [List.length_map]
  exact Nat.le_trans (List.length_filter_le _ _) (by rw [List.length_range]; exact Nat.le_refl _)
theorem fl_len {c : Cfg} {plan : Nat → Nat} {fl : List Int} (A : Agree c plan fl) : fl.length ≤ c.words.length := by
  have h := congrArg List.length A.sl
  have h2 := played_len c plan c.words.length
  unfold playedEnd pre at h
  rw [List.length_map, List.length_range] at h
  change ((played c plan c.words.length).2 ++ [_]).length = _ at h
  rw [List.length_append, List.length_singleton] at h
  omega
theorem kinds {i : Nat} {v : V} (h : [V.int 0, V.int 1, V.int 2][i]? = some v) : i < 3 ∧ v = .int (i : Nat) := by
  have hi := (List.getElem?_eq_some_iff.mp h).1
  refine ⟨hi, ?_⟩
  match i, hi, h with
  | 0, _, h => cases h; rfl
  | 1, _, h => cases h; rfl
  | 2, _, h => cases h; rfl
def spLawRight : Sp := fun vs H Q _ => ∃ b : Addr, vs = [.ref b] ∧ BagAt H b ∧ ∀ H', Kp [b] H H' → Q (.bl true) H'
theorem ok_law_right (u : U K mg) : Ok P w K mg base 11 (He.ga K "_law_right") ["_law_bag_here"] spLawRight := by
  obtain ⟨fd_law_drawn, G_law_drawn, kp_law_drawn, b_law_drawn⟩ := (ok_law_drawn (P := P) (w := w) (base := base) u).ex
  obtain ⟨fd_law_finished, G_law_finished, kp_law_finished, b_law_finished⟩ := (ok_law_finished (P := P) (w := w) (base := base) u).ex
  obtain ⟨fd_law_played, G_law_played, kp_law_played, b_law_played⟩ := (ok_law_played (P := P) (w := w) (base := base) u).ex
  obtain ⟨fd_outcome, G_outcome, kp_outcome, b_outcome⟩ := (ok_outcome (P := P) (w := w) (base := base) u).ex
  obtain ⟨fd_law_counted, G_law_counted, kp_law_counted, b_law_counted⟩ := (ok_law_counted (P := P) (w := w) (base := base) u).ex
  obtain ⟨fd_Road_log, G_Road_log, kp_Road_log, b_Road_log⟩ := (ok_Road_log (P := P) (w := w) (base := base) u).ex
  obtain ⟨fd_Road_play, G_Road_play, kp_Road_play, b_Road_play⟩ := (ok_Road_play (P := P) (w := w) (base := base) u).ex
  obtain ⟨fd_Road__init, G_Road__init, kp_Road__init, b_Road__init⟩ := (ok_Road__init (P := P) (w := w) (base := base) u).ex
  obtain ⟨fd_Outcome__bool, G_Outcome__bool, kp_Outcome__bool, b_Outcome__bool⟩ := (ok_Outcome__bool (P := P) (w := w) (base := base) u).ex
  obtain ⟨fd, F⟩ := u.d_law_right
  refine mkOk F sc_law_right (fun _ _ _ _ _ _ us hl => match us, hl with | [_], _ => rfl) (fun vs H Q E h => ?_) (fun cdv A outer s H vs Q E hr h => ?_)
  · obtain ⟨b, rfl, hb, k⟩ := h
    rfl
  · obtain ⟨b, rfl, hb, k⟩ := h
    have hu := hu_of hr
    refine ⟨_, (pss_n (ps_asg (pe_call G_law_drawn (hr.mono (by decide)) (by rfl) u.g__law_drawn kp_law_drawn b_law_drawn .nil pass0 (pa_cons (pv 0) pa_nil)) (pg_tup rfl (pgs_cons (pg_name (i := 1) sc_law_right.nd rfl (Or.inl rfl)) (pgs_cons (pg_name (i := 2) sc_law_right.nd rfl (Or.inl rfl)) pgs_nil))))
    (pss_n (ps_for PassesOwn.never rfl (pi_tup (pe_tup (pa_cons pe_int (pa_cons pe_int (pa_cons pe_int pa_nil))))) (pg_name (i := 3) sc_law_right.nd rfl (Or.inl rfl))
    (pss_n (ps_asg (pe_call G_law_finished (hr.mono (by decide)) (by rfl) u.g__law_finished kp_law_finished b_law_finished .nil pass0 (pa_cons (pv 0) (pa_cons (pv 2) (pa_cons (pv 3) pa_nil)))) (pg_tup rfl (pgs_cons (pg_name (i := 4) sc_law_right.nd rfl (Or.inl rfl)) (pgs_cons (pg_name (i := 5) sc_law_right.nd rfl (Or.inl rfl)) pgs_nil))))
    (pss_n (ps_asg (pe_call G_law_played (hr.mono (by decide)) (by rfl) u.g__law_played kp_law_played b_law_played .nil pass0 (pa_cons (pv 1) (pa_cons (pv 2) (pa_cons (pv 5) pa_nil)))) (pg_tup rfl (pgs_cons (pg_name (i := 6) sc_law_right.nd rfl (Or.inl rfl)) (pgs_cons (pg_name (i := 7) sc_law_right.nd rfl (Or.inl rfl)) (pgs_cons (pg_name (i := 8) sc_law_right.nd rfl (Or.inr rfl)) pgs_nil)))))
    (pss_n (ps_set (i := 9) sc_law_right.nd rfl (Or.inl rfl) (pe_call G_outcome (hr.mono (by decide)) (by rfl) u.g_outcome kp_outcome b_outcome .nil pass0 (pa_cons (pv 1) (pa_cons (pv 2) (pa_cons (pv 4) pa_nil)))))
    (pss_n (ps_set (i := 10) sc_law_right.nd rfl (Or.inl rfl) (pe_op op_cat (pe_lst (pa_cons (pe_callB (cr_sum rfl) (by rfl) u.n_sum boot_sum (pa_cons (pv 8) pa_nil)) pa_nil)) (pe_call G_law_counted (hr.mono (by decide)) (by rfl) u.g__law_counted kp_law_counted b_law_counted .nil pass0 (pa_cons (pv 1) (pa_cons (pv 2) (pa_cons (pv 7) pa_nil))))))
    (pss_n (ps_if (pt_cmpR (op_neD hr.units) (pe_lst (pa_cons (pe_fld (pv 9) rfl) (pa_cons (pe_fld (pv 9) rfl) (pa_cons (pe_fld (pv 9) rfl) pa_nil)))) (pv 10) (nomark _))
    (pss_one (ps_ret pe_bl))
    pss_nil)
    (pss_n (ps_if (PW.pt (pw_or (pt_cmpR (op_neD hr.units) (pe_fld (pv 9) rfl) (pe_lc (own := [("_law_k", 11)]) (g := (gName 11)) (tt := (tTest (tOp (rI0 fun i j => .bl (decide (j < i))) (tOp (rIxL K) (tVar 8) (tVar 11)) (tC (.int 0))))) (te := (tVar 11)) rfl sc_law_right.nd (pi_range1 (by rfl) u.n_range (pa_cons (pe_callB call_len_seq (by rfl) u.n_len PySem.boot_len (pa_cons (pv 8) pa_nil)) pa_nil)) (blkOk_by (N := n_law_right) (sc := defScope s_law_right) (by decide +kernel)) (fun _ _ _ _ _ => (pg_name (i := 11) sc_law_right.nd rfl (Or.inl rfl))) (fun _ _ _ _ _ => (pts_one (pt_cmpR op_gt (pe_ix ix_list (pv 8) (pv 11) (fun _ _ => rfl)) pe_int (nomark _)))) (fun _ _ _ _ _ => (pv 11))) (nomark _)) (pw_or1 (pt_cmpR op_ne (pe_callTy (call_boolOwn u.m_Outcome_bool G_Outcome__bool b_Outcome__bool (hr.mono (by decide)) pass0) (by rfl) u.n_bool PyProof.Rows.boot_bool (pa_cons (pv 9) pa_nil)) (pe_cmpR op_gt (pe_ix ix_list (pv 10) pe_int (fun _ _ => rfl)) pe_int (nomark _)) (nomark _)))))
    (pss_one (ps_ret pe_bl))
    pss_nil)
    (pss_one (ps_if (pt_cmpR (op_neD hr.units) (pe_meth0 (pe_meth (pe_make u.mk_Road G_Road__init (hr.mono (by decide)) (by rfl) u.g_Road b_Road__init .nil pass0 (pa_cons (pv 1) (pa_cons (pv 2) pa_nil))) u.c_Road u.m_Road_play G_Road_play (hr.mono (by decide)) b_Road_play .nil pass0 (pa_cons (pv 4) pa_nil)) u.c_Road u.m_Road_log G_Road_log (hr.mono (by decide)) b_Road_log .nil pass0) (pv 7) (nomark _))
    (pss_one (ps_ret pe_bl))
    pss_nil)))))))))
    (pss_one (ps_ret pe_bl)))), ?_⟩
    walk_at "s"
    walk_at "w"
    refine ⟨hb, fun t st wl c H1 hst hwl ok kp1 hb1 ht => ?_⟩
    walk_at "w"
    refine ⟨le_sz le_r, fun T hT => ?_⟩
    have hTb := bag_new hb1 hT
    have hnw := ok.nw
    have kpT := kp1.trans (Kp.of (Ex.new (o := .tup [.int 0, .int 1, .int 2]) hT))
    have hbT := hb1.ex (Ex.new (o := .tup [.int 0, .int 1, .int 2]) hT)
    have hstT := hst.ex (Ex.new (o := .tup [.int 0, .int 1, .int 2]) hT)
    have hwlT := hwl.ex (Ex.new (o := .tup [.int 0, .int 1, .int 2]) hT)
    have hTT : (upd H1 T (.tup [.int 0, .int 1, .int 2])) T = some (.tup [.int 0, .int 1, .int 2]) := upd_same
    generalize (upd H1 T (.tup [.int 0, .int 1, .int 2])) = H2 at *
    clear hT kp1 hb1 hst hwl ht
    refine ⟨_, rfl, ⟨_, SqT.of hTT⟩, for_tup (a := T) (xs := [V.int 0, V.int 1, V.int 2]) (fun i σ' H' => ∃ v3 v4 v5 v6 v7 v8 v9 v10 v11, σ' = [some (.ref b), some (.ref st), some (.ref wl), v3, v4, v5, v6, v7, v8, v9, v10, v11] ∧ Kp [b] H2 H' ∧ BagAt H' b) ?_ ?_ ?_ ?_⟩
    · exact ⟨none, none, none, none, none, none, none, none, none, rfl, Kp.refl, hbT⟩
    · rintro i σ' H' _ ⟨v3, v4, v5, v6, v7, v8, v9, v10, v11, rfl, kp, hb'⟩
      exact SqT.of (kp _ _ hTT hTb)
    · rintro i v σ' H' hi ⟨v3, v4, v5, v6, v7, v8, v9, v10, v11, rfl, kp, hb'⟩
      obtain ⟨hi3, rfl⟩ := kinds hi
      have hst' := hstT.bag hbT kp
      have hwl' := hwlT.bag hbT kp
      walk_at "w"
      refine ⟨b, wl, c, i, rfl, hb', hwl', hnw, fun t2 o pa plan H3 po ho hpa kp3 hb3 ht2 => ?_⟩
      have hst3 := hst'.bag hb' kp3
      have hwl3 := hwl'.bag hb' kp3
      walk_at "w"
      refine ⟨st, wl, pa, c, plan, rfl, hst3, hwl3, hpa, ok, po.le, fun t3 M lg sl H4 e4 ht3 hlg hsl => ?_⟩
      walk_at "w"
      refine ⟨st, wl, o, c, plan, rfl, hst3.ex e4, hwl3.ex e4, ok, po, ho.ex e4, fun x H5 e5 hx => ?_⟩
      obtain ⟨fl, A⟩ := agree ok.toCfgOk po
      have G := playedEnd_gd ok.toCfgL plan
      rw [A.sl, difs_pre] at hsl
      walk_at "w"
      have hsl5 := e5 _ _ hsl
      have hlg5 := e5 _ _ hlg
      have e35 := e4.trans e5
      refine ⟨sl, _, rfl, SqL.of hsl5, ?_⟩
      walk_at "w"
      refine ⟨le_sz le_r, fun D1 hD1 => ?_⟩
      walk_at "w"
      have e36 : Ex H3 (upd H5 D1 (.lst [.int fl.sum])) := e35.trans (Ex.new hD1)
      have hrun : ∀ i e, (playedEnd c plan).1.2[i]? = some e → Legit c (stF c ((playedEnd c plan).1.2.take i)) e := fun i e he => (G.pr i e he).1
      have hsok : ∀ i, i ≤ (playedEnd c plan).1.2.length → Sok c (stF c ((playedEnd c plan).1.2.take i)) := fun i hi => by
        by_cases h : i < (playedEnd c plan).1.2.length
        · exact (G.pr i _ (List.getElem?_eq_getElem h)).2
        · rw [List.take_of_length_le (by omega), ← G.st]
          exact G.sok (by omega)
      refine ⟨st, wl, lg, c, (playedEnd c plan).1.2, rfl, hst3.ex e36, hwl3.ex e36, xn hD1 hlg5, ok, hrun, hsok, fun X H6 e6 hX => ?_⟩
      rw [← G.st, ← A.seg, ← A.ack] at hX
      have hsum := A.sum
      have hidx := A.idx
      obtain ⟨odx, ol, ho1, ho2⟩ := hx.ob
      rw [hidx] at ho2
      rw [hsum] at ho1
      generalize (outAll c plan).seg = sg at *
      generalize (outAll c plan).ack = ak at *
      refine ⟨D1, X, _, _, rfl, rfl, e6 _ _ upd_same, hX, le_sz le_r, fun D hD => ?_⟩
      have e57 : Ex H5 (upd H6 D (.lst ([.int fl.sum] ++ [.int sg, .int ak]))) := ((Ex.new hD1).trans e6).trans (Ex.new hD)
      have hD7 : (upd H6 D (.lst ([.int fl.sum] ++ [.int sg, .int ak]))) D = some (.lst (([fl.sum, sg, ak] : List Int).map V.int)) := upd_same
      generalize (upd H6 D (.lst ([.int fl.sum] ++ [.int sg, .int ak]))) = H7 at *
      have ob7 := e57 _ _ ho1
      have hsl7 := e57 _ _ hsl5
      have hlg7 := e57 _ _ hlg5
      have hol7 := e57 _ _ ho2
      have e37 := e35.trans e57
      walk_at "w"
      refine ⟨_, _, _, _, _, rfl, ob7, u.c_Outcome, u.a_Outcome_stalls, of_stalls _ _ _ _, ?_⟩
      walk_at "w"
      refine ⟨_, _, _, _, _, rfl, ob7, u.c_Outcome, u.a_Outcome_segments, of_segments _ _ _ _, ?_⟩
      walk_at "w"
      refine ⟨_, _, _, _, _, rfl, ob7, u.c_Outcome, u.a_Outcome_acknowledgments, of_acknowledgments _ _ _ _, ?_⟩
      walk_at "w"
      refine ⟨le_sz le_r, fun L hL => ?_⟩
      walk_at "w"
      refine neInts (xs := [fl.sum, sg, ak]) (ys := [fl.sum, sg, ak]) upd_same (xn hL hD7) ?_
      rw [decide_eq_true rfl]
      refine ⟨_, rfl, itf rfl ?_⟩
      walk_at "w"
      have e58 := e37.trans (Ex.new (o := .lst [.int fl.sum, .int sg, .int ak]) hL)
      have ob8 := xn (o := .lst [.int fl.sum, .int sg, .int ak]) hL ob7
      have hsl8 := xn (o := .lst [.int fl.sum, .int sg, .int ak]) hL hsl7
      have hlg8 := xn (o := .lst [.int fl.sum, .int sg, .int ak]) hL hlg7
      have hol8 := xn (o := .lst [.int fl.sum, .int sg, .int ak]) hL hol7
      have hD8 := xn (o := .lst [.int fl.sum, .int sg, .int ak]) hL hD7
      refine ⟨_, _, _, _, _, rfl, ob8, u.c_Outcome, u.a_Outcome_stalled, of_stalled _ _ _ _, ?_⟩
      generalize (upd H7 L (.lst [.int fl.sum, .int sg, .int ak])) = H8 at *
      have hfl := fl_len A
      walk_at "w"
      clear hD7 ob7 hsl7 hlg7 hol7 hL
      refine ⟨_, _, rfl, Or.inl (SqL.of hsl8), ?_⟩
      rw [List.length_map]
      refine ⟨_, rfl, by omega, by omega, fun E2 hE2 => lc_range (n := fl.length) (fun j H9 => Ex H8 H9 ∧ H9 E2 = some (.lst ((idxL fl j).map V.int))) ?_ ?_ ?_⟩
      · exact ⟨Ex.new hE2, upd_same⟩
      · rintro j H9 hj ⟨k9, hl9⟩
        rw [Int.zero_add]
        have hsl9 := k9 _ _ hsl8
        have hg : atI (fl.map V.int) ((j : Nat) : Int) = some (.int (fl.getD j 0)) := by
          rw [atI_nat, List.getElem?_map, List.getD_eq_getElem?_getD, List.getElem?_eq_getElem hj]; rfl
        have hil := idxL_len fl j
        have his := idxL_succ fl j
        refine ⟨rfl, ?_⟩
        walk_at "w"
        refine x_lst hsl9 hg ?_
        walk_at "w"
        refine itb (fun z => ?_) (fun z => ?_)
        · rw [if_pos (of_decide_eq_true z)] at his
          walk_at "w"
          refine ⟨_, hl9, by rw [List.length_map]; exact lt_sz (by omega), exmut k9 hE2, ?_⟩
          rw [his, List.map_append]; exact upd_same
        · rw [if_neg (of_decide_eq_false z)] at his
          refine ⟨k9, ?_⟩
          rw [his]; exact hl9
      · rintro H9 ⟨k9, hl9⟩
        rw [idxL_all] at hl9
        have e39 := e58.trans k9
        refine neInts (k9 _ _ hol8) hl9 ?_
        rw [decide_eq_true rfl]
        refine ⟨_, rfl, itf rfl ?_⟩
        have ob9 := k9 _ _ ob8
        have hD9 := k9 _ _ hD8
        have hlg9 := k9 _ _ hlg8
        have hol9 := k9 _ _ hol8
        walk_at "w"
        refine ⟨x, odx, _, rfl, ob9, x, _, _, _, idx fl, rfl, ⟨odx, ol, ob9, hol9⟩, _, rfl, ?_⟩
        walk_at "w"
        refine ⟨D, _, _, _, rfl, rfl, SqL.of hD9, rfl, ?_⟩
        walk_at "w"
        rw [decide_eq_true rfl]
        refine itf rfl ?_
        walk_at "w"
        intro z dz hz hdz hne
        refine ⟨z, dz, st, wl, c, rfl, upd_same, (hst3.ex e39).ex (updEx2 hz hdz), (hwl3.ex e39).ex (updEx2 hz hdz), ok, fun RU SC DL HA kpA hSC hDL MA => ⟨rfl, ?_⟩⟩
        have eA := mkEx hz hdz hne kpA
        refine ⟨_, _, _, rfl, MA.ob, on_play _ _ _, ?_⟩
        walk_at "w"
        refine ⟨z, dz, RU, SC, DL, c, _, o, plan, rfl, MA, ok, po, (ho.ex e39).ex eA, fun r2 dr2 RU2 SC2 DL2 HB eB MB => ?_⟩
        refine ⟨_, _, _, rfl, MB.ob, on_log _ _ _, ?_⟩
        refine ⟨r2, dr2, RU2, SC2, DL2, c, _, rfl, MB, fun l HC eC hl => ?_⟩
        have eF := (eA.trans eB).trans eC
        have hlgF := eF _ _ hlg9
        rw [A.road, logV_eq] at hl
        rw [logV_eq] at hlgF
        walk_at "w"
        refine neStrs hl hlgF (logs_ok _) (logs_ok _) ?_
        rw [decide_eq_true rfl]
        refine ⟨_, rfl, itf rfl ?_⟩
        exact ⟨_, _, _, _, _, _, _, _, _, rfl, (kp.trans kp3).trans (Kp.of (e39.trans eF)), hb3.ex (e39.trans eF)⟩
    · rintro σ' H' ⟨v3, v4, v5, v6, v7, v8, v9, v10, v11, rfl, kp, hb'⟩
      walk_at "w"
      exact k H' (kpT.trans kp)
end
end Lw
namespace Lw
open PySem PySem.Spec PyProof.Rows L2
section
variable {P : Program} {w : World} {K : PySem.W.Frag} {mg : Str → Option Value} {base : Heap}
local macro_rules | `(tactic| walk_at "h") => `(tactic| first | assumption | exact upd_same | (refine xn (by assumption) ?_; walk_at "h") | (refine exapp (by assumption) ?_; walk_at "h"))
local macro_rules | `(tactic| walk_at "e") => `(tactic| first | exact Same.refl _ | assumption | (refine Same.trans ?_ (Ex.new (by assumption)); walk_at "e") | (refine Same.trans ?_ (by assumption); walk_at "e"))
local macro_rules | `(tactic| walk_at "w") => `(tactic| repeat (first | refine ⟨_, rfl, ?_⟩ | refine ⟨_, _, rfl, rfl, ?_⟩ | refine ⟨_, _, _, _, rfl, rfl, SqT.of (by walk_at "h"), (by rfl), ?_⟩ | (refine fun σ2 (hσ : σ2 = _) => ?_; (try simp only [List.set_cons_succ, List.set_cons_zero] at hσ); subst hσ) | refine ⟨_, _, rfl, SqT.of (by walk_at "h"), (by rfl), ?_⟩ | refine ⟨rfl, ?_⟩ | refine ⟨_, _, rfl, ?_⟩))
local macro_rules | `(tactic| walk_at "s") => `(tactic| (intro σ hσ; simp only [start_eq, List.map_cons, List.map_nil, List.length_cons, List.length_nil, List.cons_append, List.nil_append, Nat.reduceAdd, Nat.reduceSub, List.replicate_succ, List.replicate_zero] at hσ; subst hσ))

def spLaw (K : PySem.W.Frag) : Sp := fun vs H Q _ => ∃ (a : Addr) (ns : List Int), vs = [.ref a] ∧ SqL K H a (ns.map V.int) ∧ ns.length ≤ 63 ∧ ∀ H', Q (.bl true) H'
theorem lawMany (n : Nat) : ∃ m : Nat, m ≤ 3 ∧ (if (if (n : Int) < 3 then (n : Int) else 3) > 2 then (if (n : Int) < 3 then (n : Int) else 3) else 2) = (m : Int) := by
  by_cases h : (n : Int) < 3
  · rw [if_pos h]
    by_cases h2 : (n : Int) > 2
    · exact ⟨n, by omega, by rw [if_pos h2]⟩
    · exact ⟨2, by omega, by rw [if_neg h2]; rfl⟩
  · exact ⟨3, by omega, by rw [if_neg h]; rfl⟩
theorem fn_law {K : PySem.W.Frag} {mg : Str → Option Value} (u : U K mg) : ∃ fd, (∀ (s : Shared) (v : Value), BindsTo s fd ⟨[v], []⟩ [("_law_script", v)]) ∧ ∀ (P : Program) (w : World) (base : Heap), FnOk P w K mg base CX0 12 (He.ga K "law") fd ["_law_script"] (spLaw K) := by
  obtain ⟨fd, F⟩ := u.d_law
  have hb0 := FunD.bindsA (ps := ["_law_script"]) F fun _ _ _ _ _ _ us hl => match us, hl with | [_], _ => rfl
  refine ⟨fd, fun s v => hb0 s [v] rfl, fun P w base => ?_⟩
  obtain ⟨fd_law_right, G_law_right, kp_law_right, b_law_right⟩ := (ok_law_right (P := P) (w := w) (base := base) u).ex
  obtain ⟨fd_law_bag, G_law_bag, kp_law_bag, b_law_bag⟩ := (ok_law_bag (P := P) (w := w) (base := base) u).ex
  refine F.ok sc_law (fun vs H Q E h => ?_) (fun cdv A outer s H vs Q E hr h => ?_)
  · obtain ⟨a, ns, rfl, hs, hl, k⟩ := h
    rfl
  · obtain ⟨a, ns, rfl, hs, hl, k⟩ := h
    have hu := hu_of hr
    refine (fun (q : ∃ t, PSs (cxOf CX0 P w K mg base n_law "law" (defScope s_law) (He.ga K "law") cdv A outer s H E).nox (defBody s_law) t ∧ ∀ σ, σ = start n_law [.ref a] → t { nx := fun _ H' => Q .non H', rt := Q } σ H) => let ⟨t, a, b⟩ := q; ⟨t, a.nox, b _ rfl⟩) ?_
    refine ⟨_, (pss_n (ps_for PassesOwn.never rfl (pi_range1 (by rfl) u.n_range (pa_cons (pe_callB (call_max2 rfl) (by rfl) u.n_max boot_max (pa_cons pe_int (pa_cons (pe_callB (call_min2 rfl) (by rfl) u.n_min boot_min (pa_cons pe_int (pa_cons (pe_callB call_len_seq (by rfl) u.n_len PySem.boot_len (pa_cons (pv 0) pa_nil)) pa_nil))) pa_nil))) pa_nil)) (pg_name (i := 1) sc_law.nd rfl (Or.inl rfl))
    (pss_one (ps_if (pt_not (pt_val (pe_call G_law_right (hr.mono (by decide)) (by rfl) u.g__law_right kp_law_right b_law_right .nil pass0 (pa_cons (pe_call G_law_bag (hr.mono (by decide)) (by rfl) u.g__law_bag kp_law_bag b_law_bag .nil pass0 (pa_cons (pv 0) (pa_cons (pv 1) pa_nil))) pa_nil))))
    (pss_one (ps_ret pe_bl))
    pss_nil)))
    (pss_one (ps_ret pe_bl))), ?_⟩
    walk_at "s"
    have hlen : (ns.map V.int).length = ns.length := List.length_map _
    obtain ⟨m, hm3, hm⟩ := lawMany ns.length
    walk_at "w"
    refine ⟨_, _, rfl, Or.inl hs, ?_⟩
    walk_at "w"
    rw [hlen, hm]
    refine ⟨by omega, by omega, for_range (n := m) (fun i σ' H' => ∃ v1, σ' = [some (.ref a), v1] ∧ Ex H H') ?_ ?_ ?_⟩
    · exact ⟨none, rfl, Same.refl _⟩
    · rintro i σ' H' hi ⟨v1, rfl, e⟩
      rw [Int.zero_add]
      walk_at "w"
      refine ⟨a, ns, i, rfl, ex_sqL e hs, fun b H1 e1 hbn hb => ?_⟩
      walk_at "w"
      refine ⟨hb, fun H2 kp2 => ⟨true, rfl, itf rfl ?_⟩⟩
      have e3 : Ex H H1 := e.trans e1
      exact ⟨_, rfl, kp2.ex e3 (fun d hd => by
        rw [List.mem_singleton.mp hd]
        cases q : H b with
        | none => rfl
        | some z => rw [e _ _ q] at hbn; cases hbn)⟩
    · rintro σ' H' ⟨v1, rfl, e⟩
      walk_at "w"
      exact k H'
end
end Lw
open PySem PySem.W PySem.Calls PyProof.Rows
theorem PySem.Challenge.cw_latewords_k31_whole_states_and_roads_holds : PySem.Challenge.rw_latewords_k31_whole_states_and_roads.Holds := by
  w_on; o_law
  refine HandSHeadRun.head_any (r := LwHead.RR) (q := view LwHead.RR.prog [68]) (H := Lw.hookY) (ob := LwHead.ob) (M := 30000) (loose := LwHead.names) (d := HandSHeadRun.topDef LwHead.RR.prog 68) (kwd := []) LwHead.ob_eq
    (by kernel_rfl) (fun s => by kernel_rfl) LwHead.hrun (by kernel_rfl) (by kernel_rfl) (by kernel_rfl) (by rfl) (by first | assumption | decide +kernel) (by decide +kernel) ⟨rfl, rfl, rfl, rfl, rfl, by decide +kernel⟩ ?hw ?hc
  case hw => w_witness2
  case hc =>
    refine L2.walk_ofE (l := PySem.Challenge.rw_latewords_k31_whole_states_and_roads) (n := 63) (k := 12) (x := "_law_script") (CX := L2.CX0) rfl (by decide) (by kernel_rfl) ⟨rfl, by decide, by decide⟩ ?F (fun _ _ _ _ z => z)
    intro w mg fa h Y G hmg0
    obtain ⟨K, KX, c⟩ := Y
    have u : Lw.U K mg := ⟨⟨h, KX, G⟩, c.1, c.2.1, c.2.2⟩
    have e : (HandSHeadRun.topDef LwHead.RR.prog 68).name = ("law" : PySem.Str) := by kernel_rfl
    rw [e] at hmg0
    have e2 := hmg0.symm.trans u.g_law
    injection e2 with e2
    injection e2 with e2
    subst e2
    obtain ⟨fd, hb, hF⟩ := Lw.fn_law u
    exact ⟨K, fd, Lw.spLaw K, KX, hb, fun H a ns hl _ hS => ⟨a, ns, rfl, hS, hl, fun _ => rfl⟩, fun base _ _ => hF _ _ _⟩
