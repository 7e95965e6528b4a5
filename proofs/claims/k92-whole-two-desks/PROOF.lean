import PyProof.Rows.All
import Wide.All
import OpenK.AllK
import Wide.FinOn
import KE.KStateDown
import HandS.ForMost
import HandS.Defaults
import HandS.Deep
import HandS.IsInst
import HandS.Flow
import HandS.TryOnly
import HandS.Zip
import HandS.TupAny
import HandS.Conv
import HandS.Walk
import HandS.Head0
import HandS.Head1
import HandS.Head2
import HandS.HeadEnd
import HandS.HeadHook1
import HandS.HeadHook2
import PyProof.DictUpdate
import HandS.Text
import KE.GoesEnum
import KE.GoesMore
import HandS.Zip0
import HandS.DictTup
import KE.KDictList
import PyProof.DictValues
import PyProof.DictWalks
import KE.KDictZip
import KE.KTurns
import HandS.ListItems
import HandS.HeadHook3
import HandS.HeadHook4
import PySem.Challenge.RW_joinedasks_k92_whole_two_desks
set_option Elab.async false
set_option linter.all false
set_option maxRecDepth 100000
set_option maxHeartbeats 0
/-! Two desks say what the law's own nets say. The text by places and the head's run stand first, then the layer over trees of data, the walks, the law. By an AI agent; no person has read it. -/
namespace J
open PySem PySem.Spec PyProof.Rows L2
def top (i : Nat) : Stmt := PySem.Challenge.pw_joinedasks_k92_whole_two_desks.main.body.getD i (.Pass ⟨0, 0, 0, 0⟩)
def d_is_whole : He.DefD := ⟨("is_whole", none), "is_whole", "is_whole", defArgs (top 14), defBody (top 14), defScope (top 14), [], []⟩
def d_is_within : He.DefD := ⟨("is_within", none), "is_within", "is_within", defArgs (top 15), defBody (top 15), defScope (top 15), [], []⟩
def d_is_row : He.DefD := ⟨("is_row", none), "is_row", "is_row", defArgs (top 16), defBody (top 16), defScope (top 16), [], []⟩
def d_is_row_of : He.DefD := ⟨("is_row_of", none), "is_row_of", "is_row_of", defArgs (top 17), defBody (top 17), defScope (top 17), [], []⟩
def d_want_within : He.DefD := ⟨("want_within", none), "want_within", "want_within", defArgs (top 18), defBody (top 18), defScope (top 18), [], []⟩
def d_want_net : He.DefD := ⟨("want_net", none), "want_net", "want_net", defArgs (top 19), defBody (top 19), defScope (top 19), [.int 4], []⟩
def d_is_end : He.DefD := ⟨("is_end", none), "is_end", "is_end", defArgs (top 22), defBody (top 22), defScope (top 22), [], []⟩
def d_is_deed : He.DefD := ⟨("is_deed", none), "is_deed", "is_deed", defArgs (top 23), defBody (top 23), defScope (top 23), [], []⟩
def d_want_deed : He.DefD := ⟨("want_deed", none), "want_deed", "want_deed", defArgs (top 24), defBody (top 24), defScope (top 24), [], []⟩
def d_put_through : He.DefD := ⟨("put_through", none), "put_through", "put_through", defArgs (top 25), defBody (top 25), defScope (top 25), [], []⟩
def d_whole_deed : He.DefD := ⟨("whole_deed", none), "whole_deed", "whole_deed", defArgs (top 26), defBody (top 26), defScope (top 26), [], []⟩
def d_one_behind : He.DefD := ⟨("one_behind", none), "one_behind", "one_behind", defArgs (top 27), defBody (top 27), defScope (top 27), [], []⟩
def d_is_board : He.DefD := ⟨("is_board", none), "is_board", "is_board", defArgs (top 31), defBody (top 31), defScope (top 31), [], []⟩
def d_want_board : He.DefD := ⟨("want_board", none), "want_board", "want_board", defArgs (top 32), defBody (top 32), defScope (top 32), [], []⟩
def d_is_ask : He.DefD := ⟨("is_ask", none), "is_ask", "is_ask", defArgs (top 33), defBody (top 33), defScope (top 33), [], []⟩
def d_are_asks : He.DefD := ⟨("are_asks", none), "are_asks", "are_asks", defArgs (top 34), defBody (top 34), defScope (top 34), [], []⟩
def d_want_asks : He.DefD := ⟨("want_asks", none), "want_asks", "want_asks", defArgs (top 35), defBody (top 35), defScope (top 35), [], []⟩
def d_figure_of : He.DefD := ⟨("figure_of", none), "figure_of", "figure_of", defArgs (top 40), defBody (top 40), defScope (top 40), [], []⟩
def d_line_of_beats : He.DefD := ⟨("line_of_beats", none), "line_of", "line_of", defArgs (top 41), defBody (top 41), defScope (top 41), [], []⟩
def d_side_of_box_beats : He.DefD := ⟨("side_of_box_beats", none), "side_of_box", "side_of_box", defArgs (top 43), defBody (top 43), defScope (top 43), [], []⟩
def d_is_place : He.DefD := ⟨("is_place", none), "is_place", "is_place", defArgs (top 45), defBody (top 45), defScope (top 45), [], []⟩
def d_is_figures : He.DefD := ⟨("is_figures", none), "is_figures", "is_figures", defArgs (top 50), defBody (top 50), defScope (top 50), [], []⟩
def d_is_number_text : He.DefD := ⟨("is_number_text", none), "is_number_text", "is_number_text", defArgs (top 51), defBody (top 51), defScope (top 51), [], []⟩
def d_deed_text : He.DefD := ⟨("deed_text", none), "deed_text", "deed_text", defArgs (top 52), defBody (top 52), defScope (top 52), [], []⟩
def d_deed_of : He.DefD := ⟨("deed_of", none), "deed_of", "deed_of", defArgs (top 53), defBody (top 53), defScope (top 53), [], []⟩
def d_told_by : He.DefD := ⟨("told_by", none), "told_by", "told_by", defArgs (top 54), defBody (top 54), defScope (top 54), [], []⟩
def d_read_deed : He.DefD := ⟨("read_deed", none), "read_deed", "read_deed", defArgs (top 55), defBody (top 55), defScope (top 55), [], []⟩
def d_line_on_way : He.DefD := ⟨("line_on_way", none), "line_on_way", "line_on_way", defArgs (top 57), defBody (top 57), defScope (top 57), [], []⟩
def d_figure_in : He.DefD := ⟨("figure_in", none), "figure_in", "figure_in", defArgs (top 58), defBody (top 58), defScope (top 58), [], []⟩
def d_number_without : He.DefD := ⟨("number_without", none), "number_without", "number_without", defArgs (top 59), defBody (top 59), defScope (top 59), [], []⟩
def d_is_setting_row : He.DefD := ⟨("is_setting_row", none), "is_setting_row", "is_setting_row", defArgs (top 61), defBody (top 61), defScope (top 61), [], []⟩
def d_is_settings : He.DefD := ⟨("is_settings", none), "is_settings", "is_settings", defArgs (top 62), defBody (top 62), defScope (top 62), [], []⟩
def d_want_settings : He.DefD := ⟨("want_settings", none), "want_settings", "want_settings", defArgs (top 63), defBody (top 63), defScope (top 63), [], []⟩
def d_plain_rows : He.DefD := ⟨("plain_rows", none), "plain_rows", "plain_rows", defArgs (top 64), defBody (top 64), defScope (top 64), [], []⟩
def d_as_settings : He.DefD := ⟨("as_settings", none), "as_settings", "as_settings", defArgs (top 65), defBody (top 65), defScope (top 65), [], []⟩
def d_straight : He.DefD := ⟨("straight", none), "straight", "straight", defArgs (top 66), defBody (top 66), defScope (top 66), [], []⟩
def d_want_round : He.DefD := ⟨("want_round", none), "want_round", "want_round", defArgs (top 69), defBody (top 69), defScope (top 69), [], []⟩
def d_side_of_box_rounds : He.DefD := ⟨("side_of_box_rounds", none), "side_of_box", "side_of_box", defArgs (top 70), defBody (top 70), defScope (top 70), [], []⟩
def d_line_of_rounds : He.DefD := ⟨("line_of_rounds", none), "line_of", "line_of", defArgs (top 72), defBody (top 72), defScope (top 72), [], []⟩
def d_comes_first : He.DefD := ⟨("comes_first", none), "comes_first", "comes_first", defArgs (top 74), defBody (top 74), defScope (top 74), [], []⟩
def d_in_turn : He.DefD := ⟨("in_turn", none), "in_turn", "in_turn", defArgs (top 75), defBody (top 75), defScope (top 75), [], []⟩
def d_joined : He.DefD := ⟨("joined", none), "joined", "joined", defArgs (top 76), defBody (top 76), defScope (top 76), [], []⟩
def d_behind_stage : He.DefD := ⟨("behind_stage", none), "behind_stage", "behind_stage", defArgs (top 77), defBody (top 77), defScope (top 77), [], []⟩
def d_put_in : He.DefD := ⟨("put_in", none), "put_in", "put_in", defArgs (top 78), defBody (top 78), defScope (top 78), [], []⟩
def d_gone : He.DefD := ⟨("gone", none), "gone", "gone", defArgs (top 79), defBody (top 79), defScope (top 79), [], []⟩
def d_shared_back : He.DefD := ⟨("shared_back", none), "shared_back", "shared_back", defArgs (top 80), defBody (top 80), defScope (top 80), [], []⟩
def d_one_round : He.DefD := ⟨("one_round", none), "one_round", "one_round", defArgs (top 81), defBody (top 81), defScope (top 81), [], []⟩
def d_want_row : He.DefD := ⟨("want_row", none), "want_row", "want_row", defArgs (top 85), defBody (top 85), defScope (top 85), [], []⟩
def d_spoken : He.DefD := ⟨("spoken", none), "spoken", "spoken", defArgs (top 86), defBody (top 86), defScope (top 86), [], []⟩
def d_number_in : He.DefD := ⟨("number_in", none), "number_in", "number_in", defArgs (top 87), defBody (top 87), defScope (top 87), [], []⟩
def d_numbers_in : He.DefD := ⟨("numbers_in", none), "numbers_in", "numbers_in", defArgs (top 88), defBody (top 88), defScope (top 88), [], []⟩
def d_value_in : He.DefD := ⟨("value_in", none), "value_in", "value_in", defArgs (top 89), defBody (top 89), defScope (top 89), [], []⟩
def d_deeds_in : He.DefD := ⟨("deeds_in", none), "deeds_in", "deeds_in", defArgs (top 90), defBody (top 90), defScope (top 90), [], []⟩
def d_asks_in : He.DefD := ⟨("asks_in", none), "asks_in", "asks_in", defArgs (top 91), defBody (top 91), defScope (top 91), [], []⟩
def d_numbers_shown : He.DefD := ⟨("numbers_shown", none), "numbers_shown", "numbers_shown", defArgs (top 92), defBody (top 92), defScope (top 92), [], []⟩
def d_answers_shown : He.DefD := ⟨("answers_shown", none), "answers_shown", "answers_shown", defArgs (top 93), defBody (top 93), defScope (top 93), [], []⟩
def d_waiting_shown : He.DefD := ⟨("waiting_shown", none), "waiting_shown", "waiting_shown", defArgs (top 94), defBody (top 94), defScope (top 94), [], []⟩
def d_net_told : He.DefD := ⟨("net_told", none), "net_told", "net_told", defArgs (top 97), defBody (top 97), defScope (top 97), [], []⟩
def d_lost_told : He.DefD := ⟨("lost_told", none), "lost_told", "lost_told", defArgs (top 98), defBody (top 98), defScope (top 98), [], []⟩
def d_law_pot : He.DefD := ⟨("_law_pot", none), "_law_pot", "_law_pot", defArgs (top 101), defBody (top 101), defScope (top 101), [], []⟩
def d_law_draw : He.DefD := ⟨("_law_draw", none), "_law_draw", "_law_draw", defArgs (top 102), defBody (top 102), defScope (top 102), [], []⟩
def d_law_number : He.DefD := ⟨("_law_number", none), "_law_number", "_law_number", defArgs (top 103), defBody (top 103), defScope (top 103), [], []⟩
def d_law_deed : He.DefD := ⟨("_law_deed", none), "_law_deed", "_law_deed", defArgs (top 104), defBody (top 104), defScope (top 104), [], []⟩
def d_law_deed_text : He.DefD := ⟨("_law_deed_text", none), "_law_deed_text", "_law_deed_text", defArgs (top 105), defBody (top 105), defScope (top 105), [], []⟩
def d_law_behind : He.DefD := ⟨("_law_behind", none), "_law_behind", "_law_behind", defArgs (top 106), defBody (top 106), defScope (top 106), [], []⟩
def d_law_done : He.DefD := ⟨("_law_done", none), "_law_done", "_law_done", defArgs (top 107), defBody (top 107), defScope (top 107), [], []⟩
def d_law_numbers_text : He.DefD := ⟨("_law_numbers_text", none), "_law_numbers_text", "_law_numbers_text", defArgs (top 108), defBody (top 108), defScope (top 108), [], []⟩
def d_law_or_none : He.DefD := ⟨("_law_or_none", none), "_law_or_none", "_law_or_none", defArgs (top 109), defBody (top 109), defScope (top 109), [], []⟩
def d_law_answers_text : He.DefD := ⟨("_law_answers_text", none), "_law_answers_text", "_law_answers_text", defArgs (top 110), defBody (top 110), defScope (top 110), [], []⟩
def d_law_new_net : He.DefD := ⟨("_law_new_net", none), "_law_new_net", "_law_new_net", defArgs (top 111), defBody (top 111), defScope (top 111), [], []⟩
def d_law_put : He.DefD := ⟨("_law_put", none), "_law_put", "_law_put", defArgs (top 112), defBody (top 112), defScope (top 112), [], []⟩
def d_law_lost : He.DefD := ⟨("_law_lost", none), "_law_lost", "_law_lost", defArgs (top 113), defBody (top 113), defScope (top 113), [], []⟩
def d_law_run : He.DefD := ⟨("_law_run", none), "_law_run", "_law_run", defArgs (top 114), defBody (top 114), defScope (top 114), [], []⟩
def d_law_waiting_text : He.DefD := ⟨("_law_waiting_text", none), "_law_waiting_text", "_law_waiting_text", defArgs (top 115), defBody (top 115), defScope (top 115), [], []⟩
def d_law_look : He.DefD := ⟨("_law_look", none), "_law_look", "_law_look", defArgs (top 116), defBody (top 116), defScope (top 116), [], []⟩
def d_law_then : He.DefD := ⟨("_law_then", none), "_law_then", "_law_then", defArgs (top 117), defBody (top 117), defScope (top 117), [], []⟩
def d_law_round : He.DefD := ⟨("_law_round", none), "_law_round", "_law_round", defArgs (top 118), defBody (top 118), defScope (top 118), [], []⟩
def d_law_row : He.DefD := ⟨("_law_row", none), "_law_row", "_law_row", defArgs (top 119), defBody (top 119), defScope (top 119), [], []⟩
def d_law_at_end : He.DefD := ⟨("_law_at_end", none), "_law_at_end", "_law_at_end", defArgs (top 120), defBody (top 120), defScope (top 120), [], []⟩
def d_law_right : He.DefD := ⟨("_law_right", none), "_law_right", "_law_right", defArgs (top 121), defBody (top 121), defScope (top 121), [], []⟩
def d_law : He.DefD := ⟨("law", none), "law", "law", defArgs (top 122), defBody (top 122), defScope (top 122), [], []⟩
def d_Net_init : He.DefD := ⟨("Net", some "__init__"), "__init__", "Net.__init__", defArgs (inClass (top 46) 0), defBody (inClass (top 46) 0), defScope (inClass (top 46) 0), [], []⟩
def d_Net_want_hand : He.DefD := ⟨("Net", some "want_hand"), "want_hand", "Net.want_hand", defArgs (inClass (top 46) 1), defBody (inClass (top 46) 1), defScope (inClass (top 46) 1), [], []⟩
def d_Net_put : He.DefD := ⟨("Net", some "put"), "put", "Net.put", defArgs (inClass (top 46) 2), defBody (inClass (top 46) 2), defScope (inClass (top 46) 2), [], []⟩
def d_Net_want_lost : He.DefD := ⟨("Net", some "want_lost"), "want_lost", "Net.want_lost", defArgs (inClass (top 46) 3), defBody (inClass (top 46) 3), defScope (inClass (top 46) 3), [], []⟩
def d_Net_is_forgotten : He.DefD := ⟨("Net", some "is_forgotten"), "is_forgotten", "Net.is_forgotten", defArgs (inClass (top 46) 4), defBody (inClass (top 46) 4), defScope (inClass (top 46) 4), [], []⟩
def d_Net_beat : He.DefD := ⟨("Net", some "beat"), "beat", "Net.beat", defArgs (inClass (top 46) 5), defBody (inClass (top 46) 5), defScope (inClass (top 46) 5), [.non], []⟩
def d_Net_go_on : He.DefD := ⟨("Net", some "go_on"), "go_on", "Net.go_on", defArgs (inClass (top 46) 6), defBody (inClass (top 46) 6), defScope (inClass (top 46) 6), [], []⟩
def d_Net_take : He.DefD := ⟨("Net", some "take"), "take", "Net.take", defArgs (inClass (top 46) 7), defBody (inClass (top 46) 7), defScope (inClass (top 46) 7), [], []⟩
def d_Net_end : He.DefD := ⟨("Net", some "end"), "end", "Net.end", defArgs (inClass (top 46) 8), defBody (inClass (top 46) 8), defScope (inClass (top 46) 8), [], []⟩
def d_Net_hand_on : He.DefD := ⟨("Net", some "hand_on"), "hand_on", "Net.hand_on", defArgs (inClass (top 46) 9), defBody (inClass (top 46) 9), defScope (inClass (top 46) 9), [], []⟩
def d_Net_does_go : He.DefD := ⟨("Net", some "does_go"), "does_go", "Net.does_go", defArgs (inClass (top 46) 10), defBody (inClass (top 46) 10), defScope (inClass (top 46) 10), [], []⟩
def d_Net_beats : He.DefD := ⟨("Net", some "beats"), "beats", "Net.beats", defArgs (inClass (top 46) 11), defBody (inClass (top 46) 11), defScope (inClass (top 46) 11), [], []⟩
def d_Net_board : He.DefD := ⟨("Net", some "board"), "board", "Net.board", defArgs (inClass (top 46) 12), defBody (inClass (top 46) 12), defScope (inClass (top 46) 12), [], []⟩
def d_Net_log : He.DefD := ⟨("Net", some "log"), "log", "Net.log", defArgs (inClass (top 46) 13), defBody (inClass (top 46) 13), defScope (inClass (top 46) 13), [], []⟩
def d_Net_is_answered : He.DefD := ⟨("Net", some "is_answered"), "is_answered", "Net.is_answered", defArgs (inClass (top 46) 14), defBody (inClass (top 46) 14), defScope (inClass (top 46) 14), [], []⟩
def d_Net_todo : He.DefD := ⟨("Net", some "todo"), "todo", "Net.todo", defArgs (inClass (top 46) 15), defBody (inClass (top 46) 15), defScope (inClass (top 46) 15), [], []⟩
def d_Net_answer : He.DefD := ⟨("Net", some "answer"), "answer", "Net.answer", defArgs (inClass (top 46) 16), defBody (inClass (top 46) 16), defScope (inClass (top 46) 16), [], []⟩
def d_Net_waiting : He.DefD := ⟨("Net", some "waiting"), "waiting", "Net.waiting", defArgs (inClass (top 46) 17), defBody (inClass (top 46) 17), defScope (inClass (top 46) 17), [], []⟩
def d_Net_joinings : He.DefD := ⟨("Net", some "joinings"), "joinings", "Net.joinings", defArgs (inClass (top 46) 18), defBody (inClass (top 46) 18), defScope (inClass (top 46) 18), [], []⟩
def d_Carried_init : He.DefD := ⟨("Carried", some "__init__"), "__init__", "Carried.__init__", defArgs (inClass (top 68) 0), defBody (inClass (top 68) 0), defScope (inClass (top 68) 0), [], []⟩
def d_Desk_init : He.DefD := ⟨("Desk", some "__init__"), "__init__", "Desk.__init__", defArgs (inClass (top 99) 0), defBody (inClass (top 99) 0), defScope (inClass (top 99) 0), [], []⟩
def d_Desk_say : He.DefD := ⟨("Desk", some "say"), "say", "Desk.say", defArgs (inClass (top 99) 1), defBody (inClass (top 99) 1), defScope (inClass (top 99) 1), [], []⟩
def d_Desk_moved : He.DefD := ⟨("Desk", some "moved"), "moved", "Desk.moved", defArgs (inClass (top 99) 2), defBody (inClass (top 99) 2), defScope (inClass (top 99) 2), [], []⟩
def d_Desk_run_on : He.DefD := ⟨("Desk", some "run_on"), "run_on", "Desk.run_on", defArgs (inClass (top 99) 3), defBody (inClass (top 99) 3), defScope (inClass (top 99) 3), [], []⟩
def d_Desk_shown : He.DefD := ⟨("Desk", some "shown"), "shown", "Desk.shown", defArgs (inClass (top 99) 4), defBody (inClass (top 99) 4), defScope (inClass (top 99) 4), [], []⟩
def d_Desk_looked : He.DefD := ⟨("Desk", some "looked"), "looked", "Desk.looked", defArgs (inClass (top 99) 5), defBody (inClass (top 99) 5), defScope (inClass (top 99) 5), [], []⟩
def d_Desk_reckoned : He.DefD := ⟨("Desk", some "reckoned"), "reckoned", "Desk.reckoned", defArgs (inClass (top 99) 6), defBody (inClass (top 99) 6), defScope (inClass (top 99) 6), [], []⟩
def fn0 : List He.DefD := [d_is_whole, d_is_within, d_is_row, d_is_row_of, d_want_within, d_want_net, d_is_end, d_is_deed, d_want_deed, d_put_through, d_whole_deed, d_one_behind, d_is_board, d_want_board, d_is_ask, d_are_asks, d_want_asks, d_figure_of, d_line_of_beats, d_side_of_box_beats, d_is_place, d_is_figures, d_is_number_text, d_deed_text, d_deed_of, d_told_by, d_read_deed, d_line_on_way, d_figure_in, d_number_without]
def fn1 : List He.DefD := [d_is_setting_row, d_is_settings, d_want_settings, d_plain_rows, d_as_settings, d_straight, d_want_round, d_side_of_box_rounds, d_line_of_rounds, d_comes_first, d_in_turn, d_joined, d_behind_stage, d_put_in, d_gone, d_shared_back, d_one_round, d_want_row, d_spoken, d_number_in, d_numbers_in, d_value_in, d_deeds_in, d_asks_in, d_numbers_shown, d_answers_shown, d_waiting_shown, d_net_told, d_lost_told, d_law_pot]
def fn2 : List He.DefD := [d_law_draw, d_law_number, d_law_deed, d_law_deed_text, d_law_behind, d_law_done, d_law_numbers_text, d_law_or_none, d_law_answers_text, d_law_new_net, d_law_put, d_law_lost, d_law_run, d_law_waiting_text, d_law_look, d_law_then, d_law_round, d_law_row, d_law_at_end, d_law_right, d_law, d_Net_init, d_Net_want_hand, d_Net_put, d_Net_want_lost, d_Net_is_forgotten, d_Net_beat, d_Net_go_on, d_Net_take, d_Net_end]
def fn3 : List He.DefD := [d_Net_hand_on, d_Net_does_go, d_Net_beats, d_Net_board, d_Net_log, d_Net_is_answered, d_Net_todo, d_Net_answer, d_Net_waiting, d_Net_joinings, d_Carried_init, d_Desk_init, d_Desk_say, d_Desk_moved, d_Desk_run_on, d_Desk_shown, d_Desk_looked, d_Desk_reckoned]
def fn : List He.DefD := fn0 ++ fn1 ++ fn2 ++ fn3
def fa0 : List He.Fa := [.glo "is_whole", .glo "is_within", .glo "is_row", .glo "is_row_of", .glo "want_within", .glo "want_net", .glo "is_end", .glo "is_deed", .glo "want_deed", .glo "put_through", .glo "whole_deed", .glo "one_behind", .glo "is_board", .glo "want_board", .glo "is_ask", .glo "are_asks", .glo "want_asks", .glo "figure_of", .glo "line_of_beats", .glo "side_of_box_beats", .glo "is_place", .glo "is_figures", .glo "is_number_text", .glo "deed_text", .glo "deed_of", .glo "told_by", .glo "read_deed", .glo "line_on_way", .glo "figure_in", .glo "number_without"]
def fa1 : List He.Fa := [.glo "is_setting_row", .glo "is_settings", .glo "want_settings", .glo "plain_rows", .glo "as_settings", .glo "straight", .glo "want_round", .glo "side_of_box_rounds", .glo "line_of_rounds", .glo "comes_first", .glo "in_turn", .glo "joined", .glo "behind_stage", .glo "put_in", .glo "gone", .glo "shared_back", .glo "one_round", .glo "want_row", .glo "spoken", .glo "number_in", .glo "numbers_in", .glo "value_in", .glo "deeds_in", .glo "asks_in", .glo "numbers_shown", .glo "answers_shown", .glo "waiting_shown", .glo "net_told", .glo "lost_told", .glo "_law_pot"]
def fa2 : List He.Fa := [.glo "_law_draw", .glo "_law_number", .glo "_law_deed", .glo "_law_deed_text", .glo "_law_behind", .glo "_law_done", .glo "_law_numbers_text", .glo "_law_or_none", .glo "_law_answers_text", .glo "_law_new_net", .glo "_law_put", .glo "_law_lost", .glo "_law_run", .glo "_law_waiting_text", .glo "_law_look", .glo "_law_then", .glo "_law_round", .glo "_law_row", .glo "_law_at_end", .glo "_law_right", .glo "law", .glo "Net", .cls "Net", .mkr "Net", .meth "Net" "want_hand", .meth "Net" "put", .meth "Net" "want_lost", .meth "Net" "is_forgotten", .meth "Net" "beat", .meth "Net" "go_on"]
def fa3 : List He.Fa := [.meth "Net" "take", .meth "Net" "end", .meth "Net" "hand_on", .meth "Net" "does_go", .meth "Net" "beats", .meth "Net" "board", .meth "Net" "log", .meth "Net" "is_answered", .meth "Net" "todo", .meth "Net" "answer", .meth "Net" "waiting", .meth "Net" "joinings", .noat "Net" "amounts", .noat "Net" "answers", .noat "Net" "asked", .noat "Net" "depth", .noat "Net" "ends", .noat "Net" "kept", .noat "Net" "now", .noat "Net" "order", .noat "Net" "pairs", .noat "Net" "room", .noat "Net" "rows", .glo "Carried", .cls "Carried", .mkr "Carried", .noat "Carried" "box", .noat "Carried" "deed", .noat "Carried" "hand", .noat "Carried" "parts"]
def fa4 : List He.Fa := [.glo "Desk", .cls "Desk", .mkr "Desk", .meth "Desk" "say", .meth "Desk" "moved", .meth "Desk" "run_on", .meth "Desk" "shown", .meth "Desk" "looked", .meth "Desk" "reckoned", .noat "Desk" "running", .glo "LOOK", .glo "PARTS", .int "MOST_BOXES" 16, .int "HANDS" 16, .int "MOST_ROOM" 6, .int "MOST_KEPT" 6, .int "MOST_ASKS" 40, .int "MOST_BEATS" 300, .str "FIGURES" "0123456789", .str "PARTING" "; ", .str "NOTHING" "none", .free "isinstance", .free "int", .free "bool", .free "tuple", .free "len", .free "all", .free "list", .free "range", .free "max"]
def fa5 : List He.Fa := [.free "min", .free "str", .free "zip", .free "enumerate", .free "set"]
def fa : List He.Fa := fa0 ++ fa1 ++ fa2 ++ fa3 ++ fa4 ++ fa5
def lo0 : List PySem.Str := [Str.ofString "AskError", Str.ofString "NoNet", Str.ofString "NoNumber", Str.ofString "NoDeed", Str.ofString "NoBoard", Str.ofString "NoAsk", Str.ofString "NoHand", Str.ofString "NoSide", Str.ofString "NoSettings", Str.ofString "TooMany", Str.ofString "NoText", Str.ofString "NoRow", Str.ofString "is_whole", Str.ofString "is_within", Str.ofString "is_row", Str.ofString "is_row_of", Str.ofString "want_within", Str.ofString "want_net", Str.ofString "LOOK", Str.ofString "is_end", Str.ofString "is_deed", Str.ofString "want_deed", Str.ofString "put_through", Str.ofString "whole_deed", Str.ofString "one_behind", Str.ofString "MOST_BOXES", Str.ofString "HANDS", Str.ofString "is_board", Str.ofString "want_board", Str.ofString "is_ask", Str.ofString "are_asks", Str.ofString "want_asks", Str.ofString "MOST_ROOM", Str.ofString "MOST_KEPT", Str.ofString "MOST_ASKS"]
def lo1 : List PySem.Str := [Str.ofString "figure_of", Str.ofString "line_of", Str.ofString "line_of_beats", Str.ofString "side_of_box", Str.ofString "side_of_box_beats", Str.ofString "is_place", Str.ofString "Net", Str.ofString "FIGURES", Str.ofString "PARTS", Str.ofString "is_figures", Str.ofString "is_number_text", Str.ofString "deed_text", Str.ofString "deed_of", Str.ofString "told_by", Str.ofString "read_deed", Str.ofString "line_on_way", Str.ofString "figure_in", Str.ofString "number_without", Str.ofString "is_setting_row", Str.ofString "is_settings", Str.ofString "want_settings", Str.ofString "plain_rows", Str.ofString "as_settings", Str.ofString "straight", Str.ofString "Carried", Str.ofString "want_round", Str.ofString "side_of_box_rounds", Str.ofString "line_of_rounds", Str.ofString "comes_first", Str.ofString "in_turn", Str.ofString "joined", Str.ofString "behind_stage", Str.ofString "put_in", Str.ofString "gone", Str.ofString "shared_back"]
def lo2 : List PySem.Str := [Str.ofString "one_round", Str.ofString "PARTING", Str.ofString "NOTHING", Str.ofString "want_row", Str.ofString "spoken", Str.ofString "number_in", Str.ofString "numbers_in", Str.ofString "value_in", Str.ofString "deeds_in", Str.ofString "asks_in", Str.ofString "numbers_shown", Str.ofString "answers_shown", Str.ofString "waiting_shown", Str.ofString "MOST_BEATS", Str.ofString "net_told", Str.ofString "lost_told", Str.ofString "Desk", Str.ofString "_law_pot", Str.ofString "_law_draw", Str.ofString "_law_number", Str.ofString "_law_deed", Str.ofString "_law_deed_text", Str.ofString "_law_behind", Str.ofString "_law_done", Str.ofString "_law_numbers_text", Str.ofString "_law_or_none", Str.ofString "_law_answers_text", Str.ofString "_law_new_net", Str.ofString "_law_put", Str.ofString "_law_lost", Str.ofString "_law_run", Str.ofString "_law_waiting_text", Str.ofString "_law_look", Str.ofString "_law_then", Str.ofString "_law_round"]
def lo3 : List PySem.Str := [Str.ofString "_law_row", Str.ofString "_law_at_end", Str.ofString "_law_right"]
def loose : List PySem.Str := lo0 ++ lo1 ++ lo2 ++ lo3
def exB (K : PySem.W.Frag) : Bool := He.tupB K "LOOK" [.int 0, .non, .non] && He.lstB K "PARTS" [.str "add", .str "low", .str "high"]
def lawI : Nat := 122
end J
namespace JH
open J PySem PySem.Spec PyProof.Rows L2
/-! ### a hook of one's own: the written part is what the module's names reach, without looking for what comes twice -/
def kids (o : Obj) : List Addr := match o.data with
  | .func fd => He.refV fd.code ++ He.refV fd.defaults
  | .cls cd => [cd.ns]
  | _ => []
def vals (o : Obj) : List Addr := match o.data with
  | .dict es _ => es.toList.flatMap fun e => He.refV e.val
  | _ => []
def kidsAt (g : Addr → Option Obj) (a : Addr) : List Addr := match g a with
  | some o => kids o
  | none => []
def valsAt (g : Addr → Option Obj) (a : Addr) : List Addr := match g a with
  | some o => vals o
  | none => []
def asM (g : Addr → Option Obj) : List Addr :=
  [mainGlobals] ++ valsAt g mainGlobals ++ (valsAt g mainGlobals).flatMap (kidsAt g) ++ ((valsAt g mainGlobals).flatMap (kidsAt g)).flatMap (valsAt g)
    ++ (((valsAt g mainGlobals).flatMap (kidsAt g)).flatMap (valsAt g)).flatMap (kidsAt g)
abbrev AlM : Type := He.AlD × Bool
def obsM (fa : List He.Fa) (fn : List He.DefD) (ex : PySem.W.Frag → Bool) (g : Addr → Option Obj) : AlM := (He.obsD fa fn (He.frG g (asM g)), ex (He.frG g (asM g)))
def hookM (fa : List He.Fa) (fn : List He.DefD) (ex : PySem.W.Frag → Bool) : PySem.W.Hook where
  α := AlM
  obs := fun s => obsM fa fn ex s.heap.get?
  val := fun _ => (He.valD fn, true)
  says := fun _ h => ∃ K : PySem.W.Frag, K.In h ∧ He.SaysD fa fn K ∧ ex K = true
  of := fun _ _ e => ⟨_, He.frG_in, congrArg (fun z : AlM => z.1) e, congrArg (fun z : AlM => z.2) e⟩
  keeps := fun _ _ _ ⟨K, hK, c⟩ k => ⟨K, PySem.W.Frag.In.keeps hK k, c⟩
theorem obsM_eq {fa : List He.Fa} {fn : List He.DefD} {ex : PySem.W.Frag → Bool} {g : Addr → Option Obj} {s : Shared} (h : ∀ a, g a = s.heap.get? a) : obsM fa fn ex g = (hookM fa fn ex).obs s := by
  have e : g = s.heap.get? := funext h
  rw [e] <;> rfl
abbrev R : PySem.W.OpenRow := PySem.W.OpenLaw.row PySem.Challenge.rw_joinedasks_k92_whole_two_desks
abbrev hk : PySem.W.Hook := hookM fa fn exB
def ob (s : PySem.W.SharedT) : AlM := obsM fa fn exB (HandSHeadRun.getT s)
theorem ob_eq (s : PySem.W.SharedT) : ob s = hk.obs s.abs := obsM_eq (HandSHeadRun.getT_eq s)
theorem run (w : World) : HandSHeadRun.RunEq R (PySem.W.view R.prog [lawI]) hk ob 20000 loose w := by
  intro os
  kernel_rfl
end JH
namespace J
open PySem PySem.Spec PyProof.Rows L2

/-- what a value is: a tree; ref: an object that may change, told elsewhere; ktp: a tuple that is tracked itself; obj: an instance that stays as it is -/
inductive D where
  | non | bl (b : Bool) | int (i : Int) | str (x : Str) | ref (a : Addr) | ty (n : String)
  | tup (xs : List D) | ktp (xs : List D) | lst (xs : List D) | obj (C : Addr) (ns : List Str) (xs : List D)
  | fls (xs : List D)

mutual
def Is (K : PySem.W.Frag) (I : Hp) : D → V → Prop
  | .non, v => v = .non
  | .bl b, v => v = .bl b
  | .int i, v => v = .int i
  | .str x, v => v = .str x
  | .ref a, v => v = .ref a
  | .ty n, v => v = .ty n
  | .tup ds, v => ∃ a xs, v = .ref a ∧ SqT K I a xs ∧ Iss K I ds xs
  | .ktp ds, v => ∃ a xs, v = .ref a ∧ I a = some (.tup xs) ∧ Iss K I ds xs
  | .lst ds, v => ∃ a xs, v = .ref a ∧ I a = some (.lst xs) ∧ Iss K I ds xs
  | .obj C ns ds, v => ∃ a dx xs, v = .ref a ∧ I a = some (.ins C dx (ns.zip xs)) ∧ Iss K I ds xs
  | .fls ds, v => ∃ a xs, v = .ref a ∧ SqL K I a xs ∧ Iss K I ds xs
def Iss (K : PySem.W.Frag) (I : Hp) : List D → List V → Prop
  | [], xs => xs = []
  | d :: ds, xs => ∃ v vs, xs = v :: vs ∧ Is K I d v ∧ Iss K I ds vs
end

theorem same_rd {H H' : Hp} {a : Addr} {u : HO} (e : Same H H') (h : Rd H a u) : Rd H' a u := by
  rcases h with h | ⟨o, h⟩
  · exact Or.inl (e a _ h)
  · exact Or.inr ⟨o, e a _ h⟩
theorem same_fl {K : PySem.W.Frag} {H H' : Hp} {a : Addr} {xs : List V} (e : Same H H') (h : SqL K H a xs) : SqL K H' a xs := by
  rcases h with h | h
  · exact Or.inl (same_rd e h)
  · exact Or.inr h
theorem same_t {K : PySem.W.Frag} {H H' : Hp} {a : Addr} {xs : List V} (e : Same H H') (h : SqT K H a xs) : SqT K H' a xs := by
  rcases h with h | h
  · exact Or.inl (same_rd e h)
  · exact Or.inr h

section
variable {K : PySem.W.Frag} {I I' : Hp}
mutual
theorem Is.mono (e : Same I I') : ∀ (d : D) {v : V}, Is K I d v → Is K I' d v
  | .non, _, h => by unfold Is at *; exact h
  | .bl _, _, h => by unfold Is at *; exact h
  | .int _, _, h => by unfold Is at *; exact h
  | .str _, _, h => by unfold Is at *; exact h
  | .ref _, _, h => by unfold Is at *; exact h
  | .ty _, _, h => by unfold Is at *; exact h
  | .tup ds, _, h => by
    unfold Is at *
    obtain ⟨a, xs, rfl, h1, h2⟩ := h
    exact ⟨a, xs, rfl, same_t e h1, Iss.mono e ds h2⟩
  | .ktp ds, _, h => by
    unfold Is at *
    obtain ⟨a, xs, rfl, h1, h2⟩ := h
    exact ⟨a, xs, rfl, e _ _ h1, Iss.mono e ds h2⟩
  | .lst ds, _, h => by
    unfold Is at *
    obtain ⟨a, xs, rfl, h1, h2⟩ := h
    exact ⟨a, xs, rfl, e _ _ h1, Iss.mono e ds h2⟩
  | .obj C ns ds, _, h => by
    unfold Is at *
    obtain ⟨a, dx, xs, rfl, h1, h2⟩ := h
    exact ⟨a, dx, xs, rfl, e _ _ h1, Iss.mono e ds h2⟩
  | .fls ds, _, h => by
    unfold Is at *
    obtain ⟨a, xs, rfl, h1, h2⟩ := h
    exact ⟨a, xs, rfl, same_fl e h1, Iss.mono e ds h2⟩
theorem Iss.mono (e : Same I I') : ∀ (ds : List D) {vs : List V}, Iss K I ds vs → Iss K I' ds vs
  | [], _, h => by unfold Iss at *; exact h
  | d :: ds, _, h => by
    unfold Iss at *
    obtain ⟨v, vs, rfl, h1, h2⟩ := h
    exact ⟨v, vs, rfl, Is.mono e d h1, Iss.mono e ds h2⟩
end
theorem Iss.nil : Iss K I [] [] := by unfold Iss; rfl
theorem Iss.cons {d : D} {ds : List D} {v : V} {vs : List V} (h : Is K I d v) (t : Iss K I ds vs) : Iss K I (d :: ds) (v :: vs) := by
  unfold Iss
  exact ⟨v, vs, rfl, h, t⟩
theorem Iss.nil_eq {vs : List V} (h : Iss K I [] vs) : vs = [] := by unfold Iss at h; exact h
theorem Iss.uncons {d : D} {ds : List D} {vs : List V} (h : Iss K I (d :: ds) vs) : ∃ v r, vs = v :: r ∧ Is K I d v ∧ Iss K I ds r := by unfold Iss at h; exact h
theorem Iss.len : ∀ {ds : List D} {vs : List V}, Iss K I ds vs → ds.length = vs.length
  | [], _, h => by rw [h.nil_eq]; rfl
  | d :: ds, _, h => by
    obtain ⟨v, r, rfl, _, t⟩ := h.uncons
    rw [List.length_cons, List.length_cons, Iss.len t]
theorem Iss.get : ∀ {ds : List D} {vs : List V} {i : Nat} {d : D}, Iss K I ds vs → ds[i]? = some d → ∃ v, vs[i]? = some v ∧ Is K I d v
  | [], _, _, _, _, e => by simp at e
  | d :: ds, _, 0, _, h, e => by
    obtain ⟨v, r, rfl, h1, _⟩ := h.uncons
    simp at e
    subst e
    exact ⟨v, rfl, h1⟩
  | d :: ds, _, i + 1, _, h, e => by
    obtain ⟨v, r, rfl, _, t⟩ := h.uncons
    obtain ⟨w, h1, h2⟩ := Iss.get (i := i) t (by simpa using e)
    exact ⟨w, by simpa using h1, h2⟩
theorem Iss.getV : ∀ {ds : List D} {vs : List V} {i : Nat} {v : V}, Iss K I ds vs → vs[i]? = some v → ∃ d, ds[i]? = some d ∧ Is K I d v
  | [], _, _, _, h, e => by rw [h.nil_eq] at e; simp at e
  | d :: ds, _, 0, _, h, e => by
    obtain ⟨v, r, rfl, h1, _⟩ := h.uncons
    simp at e
    subst e
    exact ⟨d, rfl, h1⟩
  | d :: ds, _, i + 1, _, h, e => by
    obtain ⟨v, r, rfl, _, t⟩ := h.uncons
    obtain ⟨w, h1, h2⟩ := Iss.getV (i := i) t (by simpa using e)
    exact ⟨w, by simpa using h1, h2⟩
theorem Iss.append : ∀ {ds es : List D} {vs ws : List V}, Iss K I ds vs → Iss K I es ws → Iss K I (ds ++ es) (vs ++ ws)
  | [], _, _, _, h, t => by rw [h.nil_eq]; exact t
  | d :: ds, _, _, _, h, t => by
    obtain ⟨v, r, rfl, h1, h2⟩ := h.uncons
    exact Iss.cons h1 (Iss.append h2 t)
theorem Iss.set : ∀ {ds : List D} {vs : List V} {d : D} {v : V} (i : Nat), Iss K I ds vs → Is K I d v → Iss K I (ds.set i d) (vs.set i v)
  | [], _, _, _, _, h, _ => by rw [h.nil_eq]; exact Iss.nil
  | d :: ds, _, _, _, 0, h, k => by
    obtain ⟨v, r, rfl, _, h2⟩ := h.uncons
    exact Iss.cons k h2
  | d :: ds, _, _, _, i + 1, h, k => by
    obtain ⟨v, r, rfl, h1, h2⟩ := h.uncons
    exact Iss.cons h1 (Iss.set i h2 k)
theorem Iss.take : ∀ {ds : List D} {vs : List V} (n : Nat), Iss K I ds vs → Iss K I (ds.take n) (vs.take n)
  | _, _, 0, _ => Iss.nil
  | [], _, _ + 1, h => by rw [h.nil_eq]; exact Iss.nil
  | d :: ds, _, n + 1, h => by
    obtain ⟨v, r, rfl, h1, h2⟩ := h.uncons
    exact Iss.cons h1 (Iss.take n h2)
theorem Iss.drop : ∀ {ds : List D} {vs : List V} (n : Nat), Iss K I ds vs → Iss K I (ds.drop n) (vs.drop n)
  | _, _, 0, h => h
  | [], _, _ + 1, h => by rw [h.nil_eq]; exact Iss.nil
  | d :: ds, _, n + 1, h => by
    obtain ⟨v, r, rfl, h1, h2⟩ := h.uncons
    exact Iss.drop n h2
theorem Iss.eraseIdx : ∀ {ds : List D} {vs : List V} (n : Nat), Iss K I ds vs → Iss K I (ds.eraseIdx n) (vs.eraseIdx n)
  | [], _, _, h => by rw [h.nil_eq]; exact Iss.nil
  | d :: ds, _, 0, h => by
    obtain ⟨v, r, rfl, h1, h2⟩ := h.uncons
    exact h2
  | d :: ds, _, n + 1, h => by
    obtain ⟨v, r, rfl, h1, h2⟩ := h.uncons
    exact Iss.cons h1 (Iss.eraseIdx n h2)
theorem Iss.dropLast : ∀ {ds : List D} {vs : List V}, Iss K I ds vs → Iss K I ds.dropLast vs.dropLast
  | [], _, h => by rw [h.nil_eq]; exact Iss.nil
  | [d], _, h => by
    obtain ⟨v, r, rfl, h1, h2⟩ := h.uncons
    rw [h2.nil_eq]
    exact Iss.nil
  | d :: e :: ds, _, h => by
    obtain ⟨v, r, rfl, h1, h2⟩ := h.uncons
    obtain ⟨v2, r2, rfl, h3, h4⟩ := h2.uncons
    exact Iss.cons h1 (Iss.dropLast h2)
theorem Iss.ints : ∀ {ns : List Int} {vs : List V}, Iss K I (ns.map D.int) vs → vs = ns.map V.int
  | [], _, h => h.nil_eq
  | n :: ns, _, h => by
    obtain ⟨v, r, rfl, h1, h2⟩ := h.uncons
    unfold Is at h1
    rw [h1, Iss.ints h2]
    rfl
theorem Iss.strs : ∀ {ns : List Str} {vs : List V}, Iss K I (ns.map D.str) vs → vs = ns.map V.str
  | [], _, h => h.nil_eq
  | n :: ns, _, h => by
    obtain ⟨v, r, rfl, h1, h2⟩ := h.uncons
    unfold Is at h1
    rw [h1, Iss.strs h2]
    rfl
theorem Iss.bls : ∀ {ns : List Bool} {vs : List V}, Iss K I (ns.map D.bl) vs → vs = ns.map V.bl
  | [], _, h => h.nil_eq
  | n :: ns, _, h => by
    obtain ⟨v, r, rfl, h1, h2⟩ := h.uncons
    unfold Is at h1
    rw [h1, Iss.bls h2]
    rfl
theorem Iss.of_strs : ∀ {ns : List Str}, Iss K I (ns.map D.str) (ns.map V.str)
  | [] => Iss.nil
  | n :: ns => Iss.cons (by unfold Is; rfl) Iss.of_strs
theorem Iss.of_ints : ∀ {ns : List Int}, Iss K I (ns.map D.int) (ns.map V.int)
  | [] => Iss.nil
  | n :: ns => Iss.cons (by unfold Is; rfl) Iss.of_ints
theorem Is.non : Is K I .non .non := by unfold Is; rfl
theorem Is.bl {b : Bool} : Is K I (.bl b) (.bl b) := by unfold Is; rfl
theorem Is.int {i : Int} : Is K I (.int i) (.int i) := by unfold Is; rfl
theorem Is.str {x : Str} : Is K I (.str x) (.str x) := by unfold Is; rfl
theorem Is.ref {a : Addr} : Is K I (.ref a) (.ref a) := by unfold Is; rfl
theorem Is.ty {n : String} : Is K I (.ty n) (.ty n) := by unfold Is; rfl
theorem Is.tup {a : Addr} {xs : List V} {ds : List D} (h : I a = some (.tup xs)) (t : Iss K I ds xs) : Is K I (.tup ds) (.ref a) := by
  unfold Is
  exact ⟨a, xs, rfl, SqT.of h, t⟩
theorem Is.ktp {a : Addr} {xs : List V} {ds : List D} (h : I a = some (.tup xs)) (t : Iss K I ds xs) : Is K I (.ktp ds) (.ref a) := by
  unfold Is
  exact ⟨a, xs, rfl, h, t⟩
theorem Is.lst {a : Addr} {xs : List V} {ds : List D} (h : I a = some (.lst xs)) (t : Iss K I ds xs) : Is K I (.lst ds) (.ref a) := by
  unfold Is
  exact ⟨a, xs, rfl, h, t⟩
theorem Is.non_eq {v : V} (h : Is K I .non v) : v = .non := by unfold Is at h; exact h
theorem Is.bl_eq {b : Bool} {v : V} (h : Is K I (.bl b) v) : v = .bl b := by unfold Is at h; exact h
theorem Is.int_eq {i : Int} {v : V} (h : Is K I (.int i) v) : v = .int i := by unfold Is at h; exact h
theorem Is.str_eq {x : Str} {v : V} (h : Is K I (.str x) v) : v = .str x := by unfold Is at h; exact h
theorem Is.ref_eq {a : Addr} {v : V} (h : Is K I (.ref a) v) : v = .ref a := by unfold Is at h; exact h
theorem Is.ty_eq {n : String} {v : V} (h : Is K I (.ty n) v) : v = .ty n := by unfold Is at h; exact h
theorem Is.tup_eq {ds : List D} {v : V} (h : Is K I (.tup ds) v) : ∃ a xs, v = .ref a ∧ SqT K I a xs ∧ Iss K I ds xs := by unfold Is at h; exact h
theorem Is.ktp_eq {ds : List D} {v : V} (h : Is K I (.ktp ds) v) : ∃ a xs, v = .ref a ∧ I a = some (.tup xs) ∧ Iss K I ds xs := by unfold Is at h; exact h
theorem Is.fls_eq {ds : List D} {v : V} (h : Is K I (.fls ds) v) : ∃ a xs, v = .ref a ∧ SqL K I a xs ∧ Iss K I ds xs := by unfold Is at h; exact h
theorem Is.lst_eq {ds : List D} {v : V} (h : Is K I (.lst ds) v) : ∃ a xs, v = .ref a ∧ I a = some (.lst xs) ∧ Iss K I ds xs := by unfold Is at h; exact h
theorem Is.obj_eq {C : Addr} {ns : List Str} {ds : List D} {v : V} (h : Is K I (.obj C ns ds) v) : ∃ a dx xs, v = .ref a ∧ I a = some (.ins C dx (ns.zip xs)) ∧ Iss K I ds xs := by unfold Is at h; exact h
end

/-! ### what may change -/
inductive MO where
  | lst (ds : List D) | ins (C : Addr) (fs : List (Str × D)) | dK (kvs : List (Key × D)) | dT (kvs : List (List Key × D))
abbrev Gp := Addr → Option MO
def gup (G : Gp) (a : Addr) (o : MO) : Gp := fun b => if b = a then some o else G b
theorem gup_same {G : Gp} {a : Addr} {o : MO} : gup G a o a = some o := by unfold gup; rw [if_pos rfl]
theorem gup_ne {G : Gp} {a b : Addr} {o : MO} (h : b ≠ a) : gup G a o b = G b := by unfold gup; rw [if_neg h]
theorem gup_gup {G : Gp} {a : Addr} {o u : MO} : gup (gup G a o) a u = gup G a u := by
  funext b; unfold gup; split <;> rfl
abbrev IsF {κ : Type} (K : PySem.W.Frag) (I : Hp) : List (κ × D) → List (κ × V) → Prop := Paired fun p q => p.1 = q.1 ∧ Is K I p.2 q.2
def MoOk (K : PySem.W.Frag) (I : Hp) : MO → HO → Prop
  | .lst ds, o => ∃ vs, o = .lst vs ∧ Iss K I ds vs
  | .ins C fs, o => ∃ dx vs, o = .ins C dx vs ∧ IsF K I fs vs
  | .dK kvs, o => ∃ vs, o = .dK vs ∧ IsF K I kvs vs
  | .dT kvs, o => ∃ vs, o = .dT vs ∧ IsF K I kvs vs
theorem IsF.mono {κ : Type} {K : PySem.W.Frag} {I I' : Hp} (e : Same I I') {fs : List (κ × D)} {vs : List (κ × V)} (h : IsF K I fs vs) : IsF K I' fs vs :=
  Paired.mapP h fun _ _ z => ⟨z.1, Is.mono e _ z.2⟩
theorem MoOk.mono {K : PySem.W.Frag} {I I' : Hp} (e : Same I I') {m : MO} {o : HO} (h : MoOk K I m o) : MoOk K I' m o := by
  cases m with
  | lst ds => obtain ⟨vs, h1, h2⟩ := h; exact ⟨vs, h1, Iss.mono e ds h2⟩
  | ins C fs => obtain ⟨dx, vs, h1, h2⟩ := h; exact ⟨dx, vs, h1, IsF.mono e h2⟩
  | dK kvs => obtain ⟨vs, h1, h2⟩ := h; exact ⟨vs, h1, IsF.mono e h2⟩
  | dT kvs => obtain ⟨vs, h1, h2⟩ := h; exact ⟨vs, h1, IsF.mono e h2⟩
/-- the heap H holds the part I that stays and the part G that may change -/
structure HG (K : PySem.W.Frag) (I H : Hp) (G : Gp) : Prop where
  sub : Same I H
  mu : ∀ a m, G a = some m → I a = none ∧ ∃ o, H a = some o ∧ MoOk K I m o
/-- a step: what is neither I's nor G's stays -/
structure Stp (I H : Hp) (G : Gp) (I' H' : Hp) (G' : Gp) : Prop where
  ex : Same I I'
  keep : ∀ a o, H a = some o → G a = none → H' a = some o
  own : ∀ a, G' a ≠ none → G a ≠ none ∨ H a = none
  imf : ∀ a, I' a ≠ none → I a ≠ none ∨ H a = none
  alive : ∀ a, H a ≠ none → H' a ≠ none
theorem Stp.refl {I H : Hp} {G : Gp} : Stp I H G I H G := ⟨Same.refl _, fun _ _ h _ => h, fun _ h => .inl h, fun _ h => .inl h, fun _ h => h⟩
theorem Stp.trans {I H I1 H1 I2 H2 : Hp} {G G1 G2 : Gp} (a : Stp I H G I1 H1 G1) (b : Stp I1 H1 G1 I2 H2 G2) : Stp I H G I2 H2 G2 where
  ex := a.ex.trans b.ex
  keep := fun c o h g => b.keep c o (a.keep c o h g) (by
    cases e : G1 c with
    | none => rfl
    | some m =>
      rcases a.own c (by rw [e]; exact fun z => nomatch z) with q | q
      · exact absurd g q
      · rw [q] at h; cases h)
  own := fun c h => by
    rcases b.own c h with q | q
    · exact a.own c q
    · exact .inr (Classical.byContradiction fun z => a.alive c z q)
  imf := fun c h => by
    rcases b.imf c h with q | q
    · exact a.imf c q
    · exact .inr (Classical.byContradiction fun z => a.alive c z q)
  alive := fun c h => b.alive c (a.alive c h)
theorem ne_none {α : Type} {o : Option α} {x : α} (h : o = some x) : o ≠ none := by rw [h]; exact fun z => nomatch z
section
variable {K : PySem.W.Frag} {I H : Hp} {G : Gp}
theorem HG.fresh (h : HG K I H G) {p : Addr} (hp : H p = none) : I p = none ∧ G p = none := by
  constructor
  · cases e : I p with
    | none => rfl
    | some o => rw [h.sub _ _ e] at hp; cases hp
  · cases e : G p with
    | none => rfl
    | some m =>
      obtain ⟨_, o, q, _⟩ := h.mu _ _ e
      rw [q] at hp; cases hp
theorem same_new {H : Hp} {p : Addr} {o : HO} (h : H p = none) : Same H (upd H p o) := fun a u e => by
  rw [upd_ne (ne_of_none e h)]
  exact e
/-- a new object that stays -/
theorem HG.newI (h : HG K I H G) {p : Addr} (hp : H p = none) (o : HO) : HG K (upd I p o) (upd H p o) G ∧ Stp I H G (upd I p o) (upd H p o) G := by
  obtain ⟨ip, gp⟩ := h.fresh hp
  refine ⟨⟨fun a u e => ?_, fun a m e => ?_⟩, ⟨same_new ip, fun a u e _ => by rw [upd_ne (ne_of_none e hp)]; exact e, fun a e => .inl e, fun a e => ?_, fun a e => ?_⟩⟩
  · by_cases q : a = p
    · subst q; rw [upd_same] at *; exact e
    · rw [upd_ne q] at *; exact h.sub _ _ e
  · have q : a ≠ p := fun z => by rw [z, gp] at e; cases e
    obtain ⟨h1, u, h2, h3⟩ := h.mu _ _ e
    exact ⟨by rw [upd_ne q]; exact h1, u, by rw [upd_ne q]; exact h2, h3.mono (same_new ip)⟩
  · by_cases q : a = p
    · rw [q]; exact .inr hp
    · rw [upd_ne q] at e; exact .inl e
  · by_cases q : a = p
    · rw [q, upd_same]; exact fun z => nomatch z
    · rw [upd_ne q]; exact e
/-- a new object that may change -/
theorem HG.newM (h : HG K I H G) {p : Addr} (hp : H p = none) {o : HO} {m : MO} (hm : MoOk K I m o) : HG K I (upd H p o) (gup G p m) ∧ Stp I H G I (upd H p o) (gup G p m) := by
  obtain ⟨ip, gp⟩ := h.fresh hp
  refine ⟨⟨h.sub.trans (same_new hp), fun a m' e => ?_⟩, ⟨Same.refl _, fun a u e _ => by rw [upd_ne (ne_of_none e hp)]; exact e, fun a e => ?_, fun a e => .inl e, fun a e => ?_⟩⟩
  · by_cases q : a = p
    · subst q
      rw [gup_same] at e
      cases e
      exact ⟨ip, o, upd_same, hm⟩
    · rw [gup_ne q] at e
      obtain ⟨h1, u, h2, h3⟩ := h.mu _ _ e
      exact ⟨h1, u, by rw [upd_ne q]; exact h2, h3⟩
  · by_cases q : a = p
    · rw [q]; exact .inr hp
    · rw [gup_ne q] at e; exact .inl e
  · by_cases q : a = p
    · rw [q, upd_same]; exact fun z => nomatch z
    · rw [upd_ne q]; exact e
/-- an object is changed -/
theorem HG.write (h : HG K I H G) {p : Addr} {m0 : MO} (hp : G p = some m0) {o : HO} {m : MO} (hm : MoOk K I m o) : HG K I (upd H p o) (gup G p m) ∧ Stp I H G I (upd H p o) (gup G p m) := by
  obtain ⟨ip, _, hh, _⟩ := h.mu _ _ hp
  refine ⟨⟨fun a u e => ?_, fun a m' e => ?_⟩, ⟨Same.refl _, fun a u e g => ?_, fun a e => ?_, fun a e => .inl e, fun a e => ?_⟩⟩
  · rw [upd_ne (ne_of_none e ip)]; exact h.sub _ _ e
  · by_cases q : a = p
    · subst q
      rw [gup_same] at e
      cases e
      exact ⟨ip, o, upd_same, hm⟩
    · rw [gup_ne q] at e
      obtain ⟨h1, u, h2, h3⟩ := h.mu _ _ e
      exact ⟨h1, u, by rw [upd_ne q]; exact h2, h3⟩
  · have q : a ≠ p := fun z => by rw [z, hp] at g; cases g
    rw [upd_ne q]; exact e
  · by_cases q : a = p
    · rw [q]; exact .inl (ne_none hp)
    · rw [gup_ne q] at e; exact .inl e
  · by_cases q : a = p
    · rw [q, upd_same]; exact fun z => nomatch z
    · rw [upd_ne q]; exact e
/-- G may be forgotten in part -/
theorem HG.less {G' : Gp} (h : HG K I H G) (k : ∀ a m, G' a = some m → G a = some m) : HG K I H G' := ⟨h.sub, fun a m e => h.mu a m (k a m e)⟩
end

/-! ### the slots -/
def Rep (K : PySem.W.Frag) (I : Hp) (Γ : List (Option D)) (σ : L2.St) : Prop := Γ.length = σ.length ∧ ∀ (i : Nat) (d : D), Γ[i]? = some (some d) → ∃ v : V, σ[i]? = some (some v) ∧ Is K I d v
section
variable {K : PySem.W.Frag} {I I' : Hp} {Γ : List (Option D)} {σ : L2.St}
theorem Rep.mono (e : Same I I') (h : Rep K I Γ σ) : Rep K I' Γ σ := ⟨h.1, fun i d q => let ⟨v, h1, h2⟩ := h.2 i d q; ⟨v, h1, Is.mono e d h2⟩⟩
theorem Rep.set {i : Nat} {d : D} {v : V} (h : Rep K I Γ σ) (k : Is K I d v) : Rep K I (Γ.set i (some d)) (σ.set i (some v)) := by
  refine ⟨by rw [List.length_set, List.length_set, h.1], fun j e q => ?_⟩
  by_cases hj : i = j
  · subst hj
    by_cases hl : i < Γ.length
    · rw [List.getElem?_set_self hl] at q
      cases q
      exact ⟨v, by rw [List.getElem?_set_self (by rw [← h.1]; exact hl)], k⟩
    · rw [List.getElem?_eq_none (by rw [List.length_set]; omega)] at q
      cases q
  · rw [List.getElem?_set_ne hj] at q
    obtain ⟨w, h1, h2⟩ := h.2 j e q
    exact ⟨w, by rw [List.getElem?_set_ne hj]; exact h1, h2⟩
theorem Rep.forget {i : Nat} {x : Option V} (h : Rep K I Γ σ) : Rep K I (Γ.set i none) (σ.set i x) := by
  refine ⟨by rw [List.length_set, List.length_set, h.1], fun j e q => ?_⟩
  by_cases hj : i = j
  · subst hj
    by_cases hl : i < Γ.length
    · rw [List.getElem?_set_self hl] at q
      cases q
    · rw [List.getElem?_eq_none (by rw [List.length_set]; omega)] at q
      cases q
  · rw [List.getElem?_set_ne hj] at q
    obtain ⟨w, h1, h2⟩ := h.2 j e q
    exact ⟨w, by rw [List.getElem?_set_ne hj]; exact h1, h2⟩
def wipeD (Γ : List (Option D)) : List Nat → List (Option D)
  | [] => Γ
  | v :: vs => (wipeD Γ vs).set v none
theorem Rep.wipe (h : Rep K I Γ σ) : ∀ vs : List Nat, Rep K I (wipeD Γ vs) (L2.wipe σ vs)
  | [] => h
  | v :: vs => (Rep.wipe h vs).forget
theorem Rep.start {ds : List D} {vs : List V} (h : Iss K I ds vs) (n : Nat) : Rep K I (ds.map some ++ List.replicate n none) (vs.map some ++ List.replicate n none) := by
  refine ⟨by simp [h.len], fun i d q => ?_⟩
  by_cases hi : i < ds.length
  · rw [List.getElem?_append_left (by simpa using hi), List.getElem?_map] at q
    cases e : ds[i]? with
    | none => rw [e] at q; cases q
    | some d' =>
      rw [e] at q
      cases q
      obtain ⟨v, h1, h2⟩ := h.get e
      exact ⟨v, by rw [List.getElem?_append_left (by rw [List.length_map, ← h.len]; exact hi), List.getElem?_map, h1]; rfl, h2⟩
  · rw [List.getElem?_append_right (by simpa using hi)] at q
    rw [List.getElem?_replicate] at q
    split at q <;> cases q
end
def startD (N : List Str) (ds : List D) : List (Option D) := ds.map some ++ List.replicate (N.length - ds.length) none
end J
namespace J
open PySem PySem.Spec PyProof.Rows L2

abbrev SG := List (Option D)
/-! ### readings by what holds -/
section
variable (X : Cx)
def sE (e : Expr) : TE := fun σ H Q => ∀ (pins : List (Addr × Obj)) (s : Shared), Inv X pins σ H s → wpAny (model X.prog X.w) X.A (eval e X.env) (EP X pins σ Q) X.xe s
def sT (e : Expr) : TT := fun σ H Q => ∀ (pins : List (Addr × Obj)) (s : Shared), Inv X pins σ H s → wpAny (model X.prog X.w) X.A (isTrue e X.env (eval e X.env)) (TP X pins σ Q) X.xe s
def sW (e : Expr) : TT := fun σ H Q => ∀ (whole : Sem Value) (pins : List (Addr × Obj)) (s : Shared), Inv X pins σ H s → wpAny (model X.prog X.w) X.A (isTrue e X.env whole) (TP X pins σ Q) X.xe s
def sA (es : List Expr) : TA := fun σ H Q => ∀ (pos : Pos) (pins : List (Addr × Obj)) (s : Shared), Inv X pins σ H s → wpAny (model X.prog X.w) X.A (spliced (backTo pos (starEach es X.env))) (AP X pins σ Q) X.xe s
def sS (st : Stmt) : TS := fun D σ H => ∀ (pins : List (Addr × Obj)) (s : Shared), Inv X pins σ H s → wpAny (model X.prog X.w) X.A (exec st X.env) (SP X pins D) X.xe s
def sB (st : List Stmt) : TS := fun D σ H => ∀ (pins : List (Addr × Obj)) (s : Shared), Inv X pins σ H s → wpAny (model X.prog X.w) X.A (execs st X.env) (SP X pins D) X.xe s
def sG (tg : Expr) : TG := fun v σ H Q => ∀ (pins : List (Addr × Obj)) (s : Shared) (u : Value), Inv X pins σ H s → RelV v u → wpAny (model X.prog X.w) X.A (assign tg X.env u) (fun _ s' => ∃ σ' H', Inv X pins σ' H' s' ∧ Q σ' H') X.xe s
def sO (f : Value → Value → Sem Value) : R2 := fun x y H Q => ∀ (pins : List (Addr × Obj)) (s : Shared) (σ : L2.St) (v u : Value), Inv X pins σ H s → RelV x v → RelV y u → wpAny (model X.prog X.w) X.A (f v u) (EP X pins σ Q) X.xe s
def sI : R2 := fun x y H Q => ∀ (value slice : Expr) (pins : List (Addr × Obj)) (s : Shared) (σ : L2.St) (v u : Value), Inv X pins σ H s → RelV x v → RelV y u → subscripted slice false v u = operate [v, u] (getItem v u) → wpAny (model X.prog X.w) X.A (subscriptTail value slice v u) (EP X pins σ Q) X.xe s
def sC (f : Value) : List V → Hp → VK → Prop := fun xs H Q => ∀ (pins : List (Addr × Obj)) (s : Shared) (σ : L2.St) (us : List Value), Inv X pins σ H s → Vals xs us → wpAny (model X.prog X.w) X.A (call f us) (EP X pins σ Q) X.xe s
def sM (id : String) : V → List V → Hp → VK → Prop := fun x xs H Q => ∀ (pins : List (Addr × Obj)) (s : Shared) (σ : L2.St) (v : Value) (us : List Value), Inv X pins σ H s → RelV x v → Vals xs us → wpAny (model X.prog X.w) X.A (call (.builtin id) (v :: us)) (EP X pins σ Q) X.xe s
end
section
variable {X : Cx} {e : Expr} {es : List Expr} {st : Stmt} {sts : List Stmt} {σ : L2.St} {H : Hp}
theorem pe_s : PE X e (sE X e) := ⟨fun pins s _ _ _ I h => h pins s I⟩
theorem pt_s : PT X e (sT X e) := ⟨fun pins s _ _ _ I h => h pins s I⟩
theorem pw_s : PW X e (sW X e) := ⟨fun wh pins s _ _ _ I h => h wh pins s I⟩
theorem pa_s : PA X es (sA X es) := ⟨fun pos pins s _ _ _ I h => h pos pins s I⟩
theorem ps_s : PS X st (sS X st) := ⟨fun pins s _ _ _ I h => h pins s I⟩
theorem pb_s : PSs X sts (sB X sts) := ⟨fun pins s _ _ _ I h => h pins s I⟩
theorem pg_s : PG X e (sG X e) := ⟨fun pins s _ _ _ u _ I r h => h pins s u I r⟩
theorem po_s {f : Value → Value → Sem Value} : OpR X f (sO X f) := fun pins s σ _ _ _ v u _ I r q h => h pins s σ v u I r q
theorem pi_s : IxR X (sI X) := fun va sl pins s σ _ _ _ v u _ I r q h hs => h va sl pins s σ v u I r q hs
theorem pc_s {f : Value} : CallR X f (sC X f) := fun pins s σ _ _ us _ I r h => h pins s σ us I r
theorem pm_s {id : String} : MtR X id (sM X id) := fun pins s σ _ _ _ v us _ I r q h => h pins s σ v us I r q
theorem toE {te : TE} {Q : VK} (p : PE X e te) (h : te σ H Q) : sE X e σ H Q := fun pins s I => p.run pins s σ H Q I h
theorem toT {tt : TT} {Q : Bool → Hp → Prop} (p : PT X e tt) (h : tt σ H Q) : sT X e σ H Q := fun pins s I => p.run pins s σ H Q I h
theorem toW {tt : TT} {Q : Bool → Hp → Prop} (p : PW X e tt) (h : tt σ H Q) : sW X e σ H Q := fun wh pins s I => p.run wh pins s σ H Q I h
theorem toA {ta : TA} {Q : List V → Hp → Prop} (p : PA X es ta) (h : ta σ H Q) : sA X es σ H Q := fun pos pins s I => p.run pos pins s σ H Q I h
theorem toS {ts : TS} {D : Ends} (p : PS X st ts) (h : ts D σ H) : sS X st D σ H := fun pins s I => p.run pins s σ H D I h
theorem toB {ts : TS} {D : Ends} (p : PSs X sts ts) (h : ts D σ H) : sB X sts D σ H := fun pins s I => p.run pins s σ H D I h
theorem toG {g : TG} {v : V} {Q : L2.St → Hp → Prop} (p : PG X e g) (h : g v σ H Q) : sG X e v σ H Q := fun pins s u I r => p.run pins s σ H v u Q I r h
theorem toO {f : Value → Value → Sem Value} {r : R2} {x y : V} {Q : VK} (p : OpR X f r) (h : r x y H Q) : sO X f x y H Q := fun pins s σ v u I rx ry => p pins s σ H x y v u Q I rx ry h
theorem toI {r : R2} {x y : V} {Q : VK} (p : IxR X r) (h : r x y H Q) : sI X x y H Q := fun va sl pins s σ v u I rx ry hs => p va sl pins s σ H x y v u Q I rx ry h hs
theorem toC {f : Value} {r : List V → Hp → VK → Prop} {xs : List V} {Q : VK} (p : CallR X f r) (h : r xs H Q) : sC X f xs H Q := fun pins s σ us I rx => p pins s σ H xs us Q I rx h
theorem toM {id : String} {r : V → List V → Hp → VK → Prop} {x : V} {xs : List V} {Q : VK} (p : MtR X id r) (h : r x xs H Q) : sM X id x xs H Q := fun pins s σ v us I rx rs => p pins s σ H x xs v us Q I rx rs h
theorem sE.imp {Q Q' : VK} (h : sE X e σ H Q) (k : ∀ v H', Q v H' → Q' v H') : sE X e σ H Q' := fun pins s I => thn (h pins s I) fun u s' ⟨v, H', I', r, q⟩ => ⟨v, H', I', r, k v H' q⟩
theorem sT.imp {Q Q' : Bool → Hp → Prop} (h : sT X e σ H Q) (k : ∀ v H', Q v H' → Q' v H') : sT X e σ H Q' := fun pins s I => thn (h pins s I) fun u s' ⟨H', I', q⟩ => ⟨H', I', k u H' q⟩
theorem sW.imp {Q Q' : Bool → Hp → Prop} (h : sW X e σ H Q) (k : ∀ v H', Q v H' → Q' v H') : sW X e σ H Q' := fun wh pins s I => thn (h wh pins s I) fun u s' ⟨H', I', q⟩ => ⟨H', I', k u H' q⟩
theorem sA.imp {Q Q' : List V → Hp → Prop} (h : sA X es σ H Q) (k : ∀ v H', Q v H' → Q' v H') : sA X es σ H Q' := fun pos pins s I => thn (h pos pins s I) fun u s' ⟨v, H', I', r, q⟩ => ⟨v, H', I', r, k v H' q⟩
theorem sO.imp {f : Value → Value → Sem Value} {x y : V} {Q Q' : VK} (h : sO X f x y H Q) (k : ∀ v H', Q v H' → Q' v H') : sO X f x y H Q' := fun pins s σ v u I r q => thn (h pins s σ v u I r q) fun u s' ⟨v, H', I', r, q⟩ => ⟨v, H', I', r, k v H' q⟩
theorem sI.imp {x y : V} {Q Q' : VK} (h : sI X x y H Q) (k : ∀ v H', Q v H' → Q' v H') : sI X x y H Q' := fun va sl pins s σ v u I r q hs => thn (h va sl pins s σ v u I r q hs) fun u s' ⟨v, H', I', r, q⟩ => ⟨v, H', I', r, k v H' q⟩
theorem sC.imp {f : Value} {xs : List V} {Q Q' : VK} (h : sC X f xs H Q) (k : ∀ v H', Q v H' → Q' v H') : sC X f xs H Q' := fun pins s σ us I r => thn (h pins s σ us I r) fun u s' ⟨v, H', I', r, q⟩ => ⟨v, H', I', r, k v H' q⟩
theorem sM.imp {id : String} {x : V} {xs : List V} {Q Q' : VK} (h : sM X id x xs H Q) (k : ∀ v H', Q v H' → Q' v H') : sM X id x xs H Q' := fun pins s σ v us I r q => thn (h pins s σ v us I r q) fun u s' ⟨v, H', I', r, q⟩ => ⟨v, H', I', r, k v H' q⟩
theorem SP.imp {pins : List (Addr × Obj)} {D D' : Ends} (h1 : ∀ σ H, D.nx σ H → D'.nx σ H) (h2 : ∀ v H, D.rt v H → D'.rt v H) (h3 : ∀ σ H, D.bk σ H → D'.bk σ H) (h4 : ∀ σ H, D.ct σ H → D'.ct σ H) {f : Flow} {s : Shared} (h : SP X pins D f s) : SP X pins D' f s := by
  cases f with
  | next => obtain ⟨σ', H', I, q⟩ := h; exact ⟨σ', H', I, h1 _ _ q⟩
  | brk => obtain ⟨σ', H', I, q⟩ := h; exact ⟨σ', H', I, h3 _ _ q⟩
  | cont => obtain ⟨σ', H', I, q⟩ := h; exact ⟨σ', H', I, h4 _ _ q⟩
  | ret u => obtain ⟨v, σ', H', I, r, q⟩ := h; exact ⟨v, σ', H', I, r, h2 _ _ q⟩
theorem sS.imp {D D' : Ends} (h : sS X st D σ H) (h1 : ∀ σ H, D.nx σ H → D'.nx σ H) (h2 : ∀ v H, D.rt v H → D'.rt v H) (h3 : ∀ σ H, D.bk σ H → D'.bk σ H) (h4 : ∀ σ H, D.ct σ H → D'.ct σ H) : sS X st D' σ H := fun pins s I => thn (h pins s I) fun _ _ q => SP.imp h1 h2 h3 h4 q
theorem sB.imp {D D' : Ends} (h : sB X sts D σ H) (h1 : ∀ σ H, D.nx σ H → D'.nx σ H) (h2 : ∀ v H, D.rt v H → D'.rt v H) (h3 : ∀ σ H, D.bk σ H → D'.bk σ H) (h4 : ∀ σ H, D.ct σ H → D'.ct σ H) : sB X sts D' σ H := fun pins s I => thn (h pins s I) fun _ _ q => SP.imp h1 h2 h3 h4 q
end

/-! ### what is wanted behind, over trees -/
def Po (K : PySem.W.Frag) (I H : Hp) (G : Gp) (R : D → Gp → Prop) : VK := fun v H' => ∃ I' G' d, HG K I' H' G' ∧ Stp I H G I' H' G' ∧ Is K I' d v ∧ R d G'
def PoA (K : PySem.W.Frag) (I H : Hp) (G : Gp) (R : List D → Gp → Prop) : List V → Hp → Prop := fun vs H' => ∃ I' G' ds, HG K I' H' G' ∧ Stp I H G I' H' G' ∧ Iss K I' ds vs ∧ R ds G'
def PoT (K : PySem.W.Frag) (I H : Hp) (G : Gp) (R : Bool → Gp → Prop) : Bool → Hp → Prop := fun b H' => ∃ I' G', HG K I' H' G' ∧ Stp I H G I' H' G' ∧ R b G'
def PoS (K : PySem.W.Frag) (I H : Hp) (G : Gp) (n : SG → Gp → Prop) : L2.St → Hp → Prop := fun σ' H' => ∃ I' Γ' G', Rep K I' Γ' σ' ∧ HG K I' H' G' ∧ Stp I H G I' H' G' ∧ n Γ' G'
structure KD where
  nx : SG → Gp → Prop
  rt : D → Gp → Prop
  bk : SG → Gp → Prop := fun _ _ => False
  ct : SG → Gp → Prop := fun _ _ => False
def Dk (K : PySem.W.Frag) (I H : Hp) (G : Gp) (k : KD) : Ends := ⟨PoS K I H G k.nx, Po K I H G k.rt, PoS K I H G k.bk, PoS K I H G k.ct⟩
section
variable {K : PySem.W.Frag} {I H I1 H1 : Hp} {G G1 : Gp}
theorem Po.step {R : D → Gp → Prop} (a : Stp I H G I1 H1 G1) {v : V} {H' : Hp} (h : Po K I1 H1 G1 R v H') : Po K I H G R v H' := by
  obtain ⟨I', G', d, h1, h2, h3, h4⟩ := h
  exact ⟨I', G', d, h1, a.trans h2, h3, h4⟩
theorem PoA.step {R : List D → Gp → Prop} (a : Stp I H G I1 H1 G1) {v : List V} {H' : Hp} (h : PoA K I1 H1 G1 R v H') : PoA K I H G R v H' := by
  obtain ⟨I', G', d, h1, h2, h3, h4⟩ := h
  exact ⟨I', G', d, h1, a.trans h2, h3, h4⟩
theorem PoT.step {R : Bool → Gp → Prop} (a : Stp I H G I1 H1 G1) {v : Bool} {H' : Hp} (h : PoT K I1 H1 G1 R v H') : PoT K I H G R v H' := by
  obtain ⟨I', G', h1, h2, h4⟩ := h
  exact ⟨I', G', h1, a.trans h2, h4⟩
theorem PoS.step {R : SG → Gp → Prop} (a : Stp I H G I1 H1 G1) {v : L2.St} {H' : Hp} (h : PoS K I1 H1 G1 R v H') : PoS K I H G R v H' := by
  obtain ⟨I', G', d, h1, h2, h3, h4⟩ := h
  exact ⟨I', G', d, h1, h2, a.trans h3, h4⟩
theorem PoS.imp {R R' : SG → Gp → Prop} (k : ∀ Γ G, R Γ G → R' Γ G) {v : L2.St} {H' : Hp} (h : PoS K I H G R v H') : PoS K I H G R' v H' := by
  obtain ⟨I', G', d, h1, h2, h3, h4⟩ := h
  exact ⟨I', G', d, h1, h2, h3, k _ _ h4⟩
theorem Po.here {R : D → Gp → Prop} {d : D} {v : V} (h : HG K I H G) (k : Is K I d v) (r : R d G) : Po K I H G R v H := ⟨I, G, d, h, Stp.refl, k, r⟩
end
section
variable (X : Cx)
def EE (e : Expr) (Γ : SG) (G : Gp) (R : D → Gp → Prop) : Prop := ∀ (σ : L2.St) (I H : Hp), Rep X.K I Γ σ → HG X.K I H G → sE X e σ H (Po X.K I H G R)
def TT (e : Expr) (Γ : SG) (G : Gp) (R : Bool → Gp → Prop) : Prop := ∀ (σ : L2.St) (I H : Hp), Rep X.K I Γ σ → HG X.K I H G → sT X e σ H (PoT X.K I H G R)
def WW (e : Expr) (Γ : SG) (G : Gp) (R : Bool → Gp → Prop) : Prop := ∀ (σ : L2.St) (I H : Hp), Rep X.K I Γ σ → HG X.K I H G → sW X e σ H (PoT X.K I H G R)
def AA (es : List Expr) (Γ : SG) (G : Gp) (R : List D → Gp → Prop) : Prop := ∀ (σ : L2.St) (I H : Hp), Rep X.K I Γ σ → HG X.K I H G → sA X es σ H (PoA X.K I H G R)
def SS (st : Stmt) (Γ : SG) (G : Gp) (k : KD) : Prop := ∀ (σ : L2.St) (I H : Hp), Rep X.K I Γ σ → HG X.K I H G → sS X st (Dk X.K I H G k) σ H
def SB (st : List Stmt) (Γ : SG) (G : Gp) (k : KD) : Prop := ∀ (σ : L2.St) (I H : Hp), Rep X.K I Γ σ → HG X.K I H G → sB X st (Dk X.K I H G k) σ H
def GG (tg : Expr) (d : D) (Γ : SG) (G : Gp) (n : SG → Gp → Prop) : Prop := ∀ (σ : L2.St) (I H : Hp) (v : V), Rep X.K I Γ σ → HG X.K I H G → Is X.K I d v → sG X tg v σ H (PoS X.K I H G n)
def OO (f : Value → Value → Sem Value) (d e : D) (G : Gp) (R : D → Gp → Prop) : Prop := ∀ (I H : Hp) (x y : V), HG X.K I H G → Is X.K I d x → Is X.K I e y → sO X f x y H (Po X.K I H G R)
def II (d e : D) (G : Gp) (R : D → Gp → Prop) : Prop := ∀ (I H : Hp) (x y : V), HG X.K I H G → Is X.K I d x → Is X.K I e y → sI X x y H (Po X.K I H G R)
def CC (f : Value) (ds : List D) (G : Gp) (R : D → Gp → Prop) : Prop := ∀ (I H : Hp) (xs : List V), HG X.K I H G → Iss X.K I ds xs → sC X f xs H (Po X.K I H G R)
def MM (id : String) (d : D) (ds : List D) (G : Gp) (R : D → Gp → Prop) : Prop := ∀ (I H : Hp) (x : V) (xs : List V), HG X.K I H G → Is X.K I d x → Iss X.K I ds xs → sM X id x xs H (Po X.K I H G R)
end

section
variable {X : Cx} {Γ : SG} {G : Gp} {R : D → Gp → Prop} {a b c e : Expr} {es : List Expr} {pos p : Pos}
theorem EE.imp {R' : D → Gp → Prop} (h : EE X e Γ G R) (k : ∀ d G', R d G' → R' d G') : EE X e Γ G R' := fun σ I H rp hg => (h σ I H rp hg).imp fun v H' ⟨I', G', d, h1, h2, h3, h4⟩ => ⟨I', G', d, h1, h2, h3, k _ _ h4⟩
/-! ### names, constants -/
theorem e_var (i : Nat) {x : Str} {d : D} (h : Γ[i]? = some (some d)) (r : R d G) (hN : X.N[i]? = some x := by rfl) (hv : Vis X.env.scope x := by first | exact Or.inl rfl | exact Or.inr (Or.inl rfl) | exact Or.inr (Or.inr rfl))
    (hd : (x == ("__debug__" : Str)) = false := by decide) (hcd : (x == ("__classdict__" : Str)) = false := by decide) : EE X (.Name x pos) Γ G R := fun σ I H rp hg =>
  let ⟨v, h1, h2⟩ := rp.2 i d h
  toE (pe_var hN hv hd hcd) ⟨v, h1, Po.here hg h2 r⟩
theorem e_int {i : Int} {j} (r : R (.int i) G) : EE X (.Constant (.int i) j pos) Γ G R := fun σ I H rp hg => toE pe_int (Po.here hg Is.int r)
theorem e_bl {i : Bool} {j} (r : R (.bl i) G) : EE X (.Constant (.bool i) j pos) Γ G R := fun σ I H rp hg => toE pe_bl (Po.here hg Is.bl r)
theorem e_non {j} (r : R .non G) : EE X (.Constant .none j pos) Γ G R := fun σ I H rp hg => toE pe_non (Po.here hg Is.non r)
theorem e_str {i : Str} {j} (r : R (.str i) G) : EE X (.Constant (.str i) j pos) Γ G R := fun σ I H rp hg => toE pe_str (Po.here hg Is.str r)
theorem e_glob {x : Str} {v : V} {u : Value} {d : D} (hm : X.mg x = some u) (rv : RelV v u) (hd : ∀ I, Is X.K I d v) (r : R d G) (hg : Gl X x := by rfl) (hdb : (x == ("__debug__" : Str)) = false := by decide) : EE X (.Name x pos) Γ G R := fun σ I H rp hG =>
  toE (pe_glob hg hm rv hdb) (Po.here hG (hd I) r)
theorem e_ty {x : Str} {T : String} (hm : X.mg x = none) (hv : bootBuiltins x = some (.type T)) (r : R (.ty T) G) (hg : Gl X x := by rfl) (hn : x ≠ "__name__" := by decide) (hdb : (x == ("__debug__" : Str)) = false := by decide) : EE X (.Name x pos) Γ G R := fun σ I H rp hG =>
  toE (pe_bltn (v := .ty T) hg hm hv rfl hn hdb) (Po.here hG Is.ty r)
/-! ### operators -/
theorem e_bin {op : Operator} (h : EE X a Γ G fun d G1 => EE X b Γ G1 fun d' G2 => OO X (binaryOp op) d d' G2 R) : EE X (.BinOp a op b pos) Γ G R := fun σ I H rp hg =>
  toE (pe_op po_s pe_s pe_s) ((h σ I H rp hg).imp fun x H1 ⟨I1, G1, d, g1, s1, i1, r1⟩ => (r1 σ I1 H1 (rp.mono s1.ex) g1).imp fun y H2 ⟨I2, G2, d2, g2, s2, i2, r2⟩ =>
    (r2 I2 H2 x y g2 (i1.mono s2.ex) i2).imp fun z H3 q => Po.step (s1.trans s2) q)
theorem e_cmp {op : CmpOp} (h : EE X a Γ G fun d G1 => EE X b Γ G1 fun d' G2 => OO X (compareOp op) d d' G2 R) (hm : behindInMarks op b = false := by first | exact nomark _ | rfl) : EE X (.Compare a [op] [b] pos) Γ G R := fun σ I H rp hg =>
  toE (pe_cmpR po_s pe_s pe_s hm) ((h σ I H rp hg).imp fun x H1 ⟨I1, G1, d, g1, s1, i1, r1⟩ => (r1 σ I1 H1 (rp.mono s1.ex) g1).imp fun y H2 ⟨I2, G2, d2, g2, s2, i2, r2⟩ =>
    (r2 I2 H2 x y g2 (i1.mono s2.ex) i2).imp fun z H3 q => Po.step (s1.trans s2) q)
theorem t_cmp {op : CmpOp} {R : Bool → Gp → Prop} (h : EE X a Γ G fun d G1 => EE X b Γ G1 fun d' G2 => OO X (compareOp op) d d' G2 fun z G3 => ∃ k, z = .bl k ∧ R k G3) (hm : behindInMarks op b = false := by first | exact nomark _ | rfl) : TT X (.Compare a [op] [b] pos) Γ G R := fun σ I H rp hg =>
  toT (pt_cmpR po_s pe_s pe_s hm) ((h σ I H rp hg).imp fun x H1 ⟨I1, G1, d, g1, s1, i1, r1⟩ => (r1 σ I1 H1 (rp.mono s1.ex) g1).imp fun y H2 ⟨I2, G2, d2, g2, s2, i2, r2⟩ =>
    (r2 I2 H2 x y g2 (i1.mono s2.ex) i2).imp fun z H3 ⟨I3, G3, d3, g3, s3, i3, k, e3, r3⟩ => ⟨k, by subst e3; exact i3.bl_eq, I3, G3, g3, (s1.trans s2).trans s3, r3⟩)
theorem e_chain {op op' : CmpOp} (h : EE X a Γ G fun d G1 => EE X b Γ G1 fun d' G2 => OO X (compareOp op) d d' G2 fun z G3 => ∃ k, z = .bl k ∧ if k = true then EE X c Γ G3 fun d'' G4 => OO X (compareOp op') d' d'' G4 R else R (.bl false) G3)
    (hm : lastMarks [op, op'] [b, c] = false := by with_unfolding_all rfl) : EE X (.Compare a [op, op'] [b, c] pos) Γ G R := fun σ I H rp hg =>
  toE (pe_chain po_s po_s pe_s pe_s pe_s hm) ((h σ I H rp hg).imp fun x H1 ⟨I1, G1, d, g1, s1, i1, r1⟩ => (r1 σ I1 H1 (rp.mono s1.ex) g1).imp fun y H2 ⟨I2, G2, d2, g2, s2, i2, r2⟩ =>
    (r2 I2 H2 x y g2 (i1.mono s2.ex) i2).imp fun z H3 ⟨I3, G3, d3, g3, s3, i3, k, e3, r3⟩ => ⟨k, by subst e3; exact i3.bl_eq, by
      cases k with
      | true =>
        rw [if_pos rfl] at r3 ⊢
        exact (r3 σ I3 H3 (rp.mono ((s1.trans s2).trans s3).ex) g3).imp fun w H4 ⟨I4, G4, d4, g4, s4, i4, r4⟩ => (r4 I4 H4 y w g4 (i2.mono (s3.trans s4).ex) i4).imp fun _ _ q => Po.step (((s1.trans s2).trans s3).trans s4) q
      | false =>
        rw [if_neg Bool.false_ne_true] at r3 ⊢
        exact ⟨I3, G3, .bl false, g3, (s1.trans s2).trans s3, Is.bl, r3⟩⟩)
theorem t_chain {op op' : CmpOp} {R : Bool → Gp → Prop} (h : EE X a Γ G fun d G1 => EE X b Γ G1 fun d' G2 => OO X (compareOp op) d d' G2 fun z G3 => ∃ k, z = .bl k ∧ if k = true then EE X c Γ G3 fun d'' G4 => OO X (compareOp op') d' d'' G4 fun z G5 => ∃ k, z = .bl k ∧ R k G5 else R false G3)
    (hm : lastMarks [op, op'] [b, c] = false := by with_unfolding_all rfl) : TT X (.Compare a [op, op'] [b, c] pos) Γ G R := fun σ I H rp hg =>
  toT (pt_chain po_s po_s pe_s pe_s pe_s hm) ((h σ I H rp hg).imp fun x H1 ⟨I1, G1, d, g1, s1, i1, r1⟩ => (r1 σ I1 H1 (rp.mono s1.ex) g1).imp fun y H2 ⟨I2, G2, d2, g2, s2, i2, r2⟩ =>
    (r2 I2 H2 x y g2 (i1.mono s2.ex) i2).imp fun z H3 ⟨I3, G3, d3, g3, s3, i3, k, e3, r3⟩ => ⟨k, by subst e3; exact i3.bl_eq, by
      cases k with
      | true =>
        rw [if_pos rfl] at r3 ⊢
        exact (r3 σ I3 H3 (rp.mono ((s1.trans s2).trans s3).ex) g3).imp fun w H4 ⟨I4, G4, d4, g4, s4, i4, r4⟩ => (r4 I4 H4 y w g4 (i2.mono (s3.trans s4).ex) i4).imp fun z2 H5 ⟨I5, G5, d5, g5, s5, i5, k5, e5, r5⟩ =>
          ⟨k5, by subst e5; exact i5.bl_eq, I5, G5, g5, (((s1.trans s2).trans s3).trans s4).trans s5, r5⟩
      | false =>
        rw [if_neg Bool.false_ne_true] at r3 ⊢
        exact ⟨false, rfl, I3, G3, g3, (s1.trans s2).trans s3, r3⟩⟩)
/-! ### truth -/
theorem t_val {R : Bool → Gp → Prop} (h : EE X e Γ G fun d G1 => ∃ k, d = .bl k ∧ R k G1) (he : ∀ whole, isTrue e X.env whole = (do let v ← whole; standAt e.pos; holding [v] (truthy v)) := by intro _; rfl) : TT X e Γ G R := fun σ I H rp hg =>
  toT (pt_val pe_s he) ((h σ I H rp hg).imp fun x H1 ⟨I1, G1, d, g1, s1, i1, k, e1, r1⟩ => ⟨k, by subst e1; exact i1.bl_eq, I1, G1, g1, s1, r1⟩)
theorem t_not {R : Bool → Gp → Prop} (h : TT X e Γ G fun k G1 => R (!k) G1) : TT X (.UnaryOp .Not e pos) Γ G R := fun σ I H rp hg => toT (pt_not pt_s) ((h σ I H rp hg).imp fun k H1 ⟨I1, G1, g1, s1, r1⟩ => ⟨I1, G1, g1, s1, r1⟩)
theorem t_w {R : Bool → Gp → Prop} (h : WW X e Γ G R) : TT X e Γ G R := fun σ I H rp hg => toT (PW.pt pw_s) (h σ I H rp hg)
theorem w_and1 {R : Bool → Gp → Prop} (h : TT X a Γ G R) : WW X (.BoolOp .And [a] pos) Γ G R := fun σ I H rp hg => toW (pw_and1 pt_s) (h σ I H rp hg)
theorem w_or1 {R : Bool → Gp → Prop} (h : TT X a Γ G R) : WW X (.BoolOp .Or [a] pos) Γ G R := fun σ I H rp hg => toW (pw_or1 pt_s) (h σ I H rp hg)
theorem w_and {R : Bool → Gp → Prop} {rest : List Expr} (h : TT X a Γ G fun k G1 => if k = true then WW X (.BoolOp .And (b :: rest) pos) Γ G1 R else R false G1) : WW X (.BoolOp .And (a :: b :: rest) pos) Γ G R := fun σ I H rp hg =>
  toW (pw_and pt_s pw_s) ((h σ I H rp hg).imp fun k H1 ⟨I1, G1, g1, s1, r1⟩ => by
    cases k with
    | true =>
      rw [if_pos rfl] at r1 ⊢
      exact (r1 σ I1 H1 (rp.mono s1.ex) g1).imp fun _ _ q => PoT.step s1 q
    | false =>
      rw [if_neg Bool.false_ne_true] at r1 ⊢
      exact ⟨I1, G1, g1, s1, r1⟩)
theorem w_or {R : Bool → Gp → Prop} {rest : List Expr} (h : TT X a Γ G fun k G1 => if k = true then R true G1 else WW X (.BoolOp .Or (b :: rest) pos) Γ G1 R) : WW X (.BoolOp .Or (a :: b :: rest) pos) Γ G R := fun σ I H rp hg =>
  toW (pw_or pt_s pw_s) ((h σ I H rp hg).imp fun k H1 ⟨I1, G1, g1, s1, r1⟩ => by
    cases k with
    | false =>
      rw [if_neg Bool.false_ne_true] at r1 ⊢
      exact (r1 σ I1 H1 (rp.mono s1.ex) g1).imp fun _ _ q => PoT.step s1 q
    | true =>
      rw [if_pos rfl] at r1 ⊢
      exact ⟨I1, G1, g1, s1, r1⟩)
theorem e_one {op} (h : EE X a Γ G R) : EE X (.BoolOp op [a] pos) Γ G R := fun σ I H rp hg => toE (pe_one pe_s) (h σ I H rp hg)
theorem e_and {rest : List Expr} (h : EE X a Γ G fun d G1 => ∃ k, d = .bl k ∧ if k = true then EE X (.BoolOp .And (b :: rest) pos) Γ G1 R else R (.bl false) G1) : EE X (.BoolOp .And (a :: b :: rest) pos) Γ G R := fun σ I H rp hg =>
  toE (pe_and pe_s pe_s) ((h σ I H rp hg).imp fun x H1 ⟨I1, G1, d, g1, s1, i1, k, e1, r1⟩ => ⟨k, by subst e1; exact i1.bl_eq, by
    cases k with
    | true =>
      rw [if_pos rfl] at r1 ⊢
      exact (r1 σ I1 H1 (rp.mono s1.ex) g1).imp fun _ _ q => Po.step s1 q
    | false =>
      rw [if_neg Bool.false_ne_true] at r1 ⊢
      exact ⟨I1, G1, .bl false, g1, s1, Is.bl, r1⟩⟩)
theorem e_or {rest : List Expr} (h : EE X a Γ G fun d G1 => ∃ k, d = .bl k ∧ if k = true then R (.bl true) G1 else EE X (.BoolOp .Or (b :: rest) pos) Γ G1 R) : EE X (.BoolOp .Or (a :: b :: rest) pos) Γ G R := fun σ I H rp hg =>
  toE (pe_or pe_s pe_s) ((h σ I H rp hg).imp fun x H1 ⟨I1, G1, d, g1, s1, i1, k, e1, r1⟩ => ⟨k, by subst e1; exact i1.bl_eq, by
    cases k with
    | false =>
      rw [if_neg Bool.false_ne_true] at r1 ⊢
      exact (r1 σ I1 H1 (rp.mono s1.ex) g1).imp fun _ _ q => Po.step s1 q
    | true =>
      rw [if_pos rfl] at r1 ⊢
      exact ⟨I1, G1, .bl true, g1, s1, Is.bl, r1⟩⟩)
theorem e_not (h : EE X a Γ G fun d G1 => ∃ k, d = .bl k ∧ R (.bl (!k)) G1) : EE X (.UnaryOp .Not a pos) Γ G R := fun σ I H rp hg =>
  toE (pe_not pe_s) ((h σ I H rp hg).imp fun x H1 ⟨I1, G1, d, g1, s1, i1, k, e1, r1⟩ => ⟨k, by subst e1; exact i1.bl_eq, I1, G1, _, g1, s1, Is.bl, r1⟩)
theorem e_ifexp (h : TT X c Γ G fun k G1 => if k = true then EE X a Γ G1 R else EE X b Γ G1 R) : EE X (.IfExp c a b pos) Γ G R := fun σ I H rp hg =>
  toE (pe_ifExp pt_s pe_s pe_s) ((h σ I H rp hg).imp fun k H1 ⟨I1, G1, g1, s1, r1⟩ => by
    cases k with
    | true =>
      rw [if_pos rfl] at r1 ⊢
      exact (r1 σ I1 H1 (rp.mono s1.ex) g1).imp fun _ _ q => Po.step s1 q
    | false =>
      rw [if_neg Bool.false_ne_true] at r1 ⊢
      exact (r1 σ I1 H1 (rp.mono s1.ex) g1).imp fun _ _ q => Po.step s1 q)
/-! ### argument lists, displays -/
theorem a_nil {R : List D → Gp → Prop} (r : R [] G) : AA X [] Γ G R := fun σ I H rp hg => toA pa_nil ⟨I, G, [], hg, Stp.refl, Iss.nil, r⟩
theorem a_cons {R : List D → Gp → Prop} (h : EE X e Γ G fun d G1 => AA X es Γ G1 fun ds G2 => R (d :: ds) G2) (hs : starEach (e :: es) X.env = (false, eval e X.env) :: starEach es X.env := by rfl) : AA X (e :: es) Γ G R := fun σ I H rp hg =>
  toA (pa_cons pe_s pa_s hs) ((h σ I H rp hg).imp fun x H1 ⟨I1, G1, d, g1, s1, i1, r1⟩ => (r1 σ I1 H1 (rp.mono s1.ex) g1).imp fun xs H2 ⟨I2, G2, ds, g2, s2, i2, r2⟩ => ⟨I2, G2, d :: ds, g2, s1.trans s2, Iss.cons (i1.mono s2.ex) i2, r2⟩)
theorem e_tup {x1} (h : AA X es Γ G fun ds G1 => ds.length ≤ 1000 ∧ R (.tup ds) G1) : EE X (.Tuple es x1 pos) Γ G R := fun σ I H rp hg =>
  toE (pe_tup pa_s) ((h σ I H rp hg).imp fun xs H1 ⟨I1, G1, ds, g1, s1, i1, hl, r1⟩ => ⟨by rw [← i1.len]; exact Nat.le_trans hl (by decide), fun p hp =>
    let z := g1.newI hp (.tup xs)
    ⟨_, G1, .tup ds, z.1, s1.trans z.2, Is.tup upd_same (Iss.mono z.2.ex _ i1), r1⟩⟩)
/-- .. a tuple that is a key -/
theorem e_ktp {x1} (h : AA X es Γ G fun ds G1 => ds.length ≤ 1000 ∧ R (.ktp ds) G1) : EE X (.Tuple es x1 pos) Γ G R := fun σ I H rp hg =>
  toE (pe_tup pa_s) ((h σ I H rp hg).imp fun xs H1 ⟨I1, G1, ds, g1, s1, i1, hl, r1⟩ => ⟨by rw [← i1.len]; exact Nat.le_trans hl (by decide), fun p hp =>
    let z := g1.newI hp (.tup xs)
    ⟨_, G1, .ktp ds, z.1, s1.trans z.2, Is.ktp upd_same (Iss.mono z.2.ex _ i1), r1⟩⟩)
/-- a list that stays as it is -/
theorem e_lst (h : AA X es Γ G fun ds G1 => ds.length ≤ 1000 ∧ R (.lst ds) G1) : EE X (.List es pos) Γ G R := fun σ I H rp hg =>
  toE (pe_lst pa_s) ((h σ I H rp hg).imp fun xs H1 ⟨I1, G1, ds, g1, s1, i1, hl, r1⟩ => ⟨by rw [← i1.len]; exact Nat.le_trans hl (by decide), fun p hp =>
    let z := g1.newI hp (.lst xs)
    ⟨_, G1, .lst ds, z.1, s1.trans z.2, Is.lst upd_same (Iss.mono z.2.ex _ i1), r1⟩⟩)
/-- a list that may change -/
theorem e_lstM (h : AA X es Γ G fun ds G1 => ds.length ≤ 1000 ∧ ∀ p, G1 p = none → R (.ref p) (gup G1 p (.lst ds))) : EE X (.List es pos) Γ G R := fun σ I H rp hg =>
  toE (pe_lst pa_s) ((h σ I H rp hg).imp fun xs H1 ⟨I1, G1, ds, g1, s1, i1, hl, r1⟩ => ⟨by rw [← i1.len]; exact Nat.le_trans hl (by decide), fun p hp =>
    let z := g1.newM (m := .lst ds) hp (o := .lst xs) ⟨xs, rfl, i1⟩
    ⟨I1, _, .ref p, z.1, s1.trans z.2, Is.ref, r1 p (g1.fresh hp).2⟩⟩)
/-! ### subscripts -/
theorem e_ix (h : EE X a Γ G fun d G1 => EE X b Γ G1 fun d' G2 => II X d d' G2 R) (hs : PlainIx b := by intro _ _; rfl) : EE X (.Subscript a b pos) Γ G R := fun σ I H rp hg =>
  toE (pe_ix pi_s pe_s pe_s hs) ((h σ I H rp hg).imp fun x H1 ⟨I1, G1, d, g1, s1, i1, r1⟩ => (r1 σ I1 H1 (rp.mono s1.ex) g1).imp fun y H2 ⟨I2, G2, d2, g2, s2, i2, r2⟩ =>
    (r2 I2 H2 x y g2 (i1.mono s2.ex) i2).imp fun z H3 q => Po.step (s1.trans s2) q)
end
end J
namespace J
open PySem PySem.Spec PyProof.Rows L2

/-! ### what a def promises, over trees -/
abbrev AS := List D → Gp → (D → Gp → Prop) → Prop
def spOf (K : PySem.W.Frag) (S : AS) : Sp := fun vs H Q _ => ∃ I G ds R, HG K I H G ∧ Iss K I ds vs ∧ S ds G R ∧ ∀ v H', Po K I H G R v H' → Q v H'
/-- the def at f keeps S -/
structure Cal (P : Program) (w : World) (K : PySem.W.Frag) (mg : Str → Option Value) (base : Heap) (k : Nat) (f : Addr) (ps : List Str) (dvs : List D) (S : AS) : Prop where
  ex : ∃ fd vs us, FnOk P w K mg base CX0 k f fd ps (spOf K S) ∧ Binds K fd ps us ∧ Vals vs us ∧ ∀ I, Iss K I dvs vs
  kp : PySem.W.keepIn K (.ref f) = true
theorem spOf.at {K : PySem.W.Frag} {S : AS} {I H I1 H1 : Hp} {G G1 : Gp} {ds : List D} {vs : List V} {R : D → Gp → Prop} {E : XK} (s1 : Stp I H G I1 H1 G1) (g1 : HG K I1 H1 G1) (i1 : Iss K I1 ds vs) (r : S ds G1 R) :
    spOf K S vs H1 (Po K I H G R) E := ⟨I1, G1, ds, R, g1, i1, r, fun _ _ q => Po.step s1 q⟩
section
variable {X : Cx} {Γ : SG} {G : Gp} {R : D → Gp → Prop} {e o : Expr} {es : List Expr} {pos p apos : Pos} {k : Nat} {f C : Addr} {ps : List Str} {dvs : List D} {S : AS} {x m : Str}
theorem e_call (c : Cal X.prog X.w X.K X.mg X.base k f ps dvs S) (hm : X.mg x = some (.ref f)) (hr : Room k X.A) (h : AA X (e :: es) Γ G fun ds G1 => S (ds ++ dvs) G1 R) (hg : Gl X x := by rfl) (hdb : (x == ("__debug__" : Str)) = false := by decide)
    (he : starEach (e :: es) X.env = (false, eval e X.env) :: starEach es X.env := by rfl) (hpl : (backTo pos (starEach es X.env)).any (·.1) = false := by rfl) : EE X (.Call (.Name x p) (e :: es) [] pos) Γ G R := fun σ I H rp hG => by
  obtain ⟨fd, vs, us, F, b, hv, hd⟩ := c.ex
  exact toE (pe_call (E := E0) F hr hg hm c.kp b hv pass0 pa_s hdb he hpl) ((h σ I H rp hG).imp fun ws H1 ⟨I1, G1, ds, g1, s1, i1, r1⟩ => spOf.at s1 g1 (i1.append (hd I1)) r1)
theorem IsF.look {K : PySem.W.Frag} {I : Hp} {f : Str} : ∀ {fs : List (Str × D)} {vs : List (Str × V)} {d : D}, IsF K I fs vs → fs.lookup f = some d → ∃ v, vs.lookup f = some v ∧ Is K I d v
  | [], _, _, _, h => by cases h
  | (g, d0) :: r, _, d, .cons (b := (g', v0)) z t, h => by
    obtain ⟨z1, z2⟩ := z
    have z1 : g = g' := z1
    subst z1
    rw [List.lookup_cons] at h ⊢
    cases q : f == g with
    | true => rw [q] at h; cases h; exact ⟨v0, rfl, z2⟩
    | false => rw [q] at h; exact IsF.look t h
theorem IsF.look_none {K : PySem.W.Frag} {I : Hp} {f : Str} : ∀ {fs : List (Str × D)} {vs : List (Str × V)}, IsF K I fs vs → fs.lookup f = none → vs.lookup f = none
  | [], _, .nil, _ => rfl
  | (g, d0) :: r, _, .cons (b := (g', v0)) z t, h => by
    obtain ⟨z1, z2⟩ := z
    have z1 : g = g' := z1
    subst z1
    rw [List.lookup_cons] at h ⊢
    cases q : f == g with
    | true => rw [q] at h; cases h
    | false => rw [q] at h; exact IsF.look_none t h
theorem IsF.len {κ : Type} {K : PySem.W.Frag} {I : Hp} {fs : List (κ × D)} {vs : List (κ × V)} (h : IsF K I fs vs) : fs.length = vs.length := Paired.length h
def putD {κ : Type} [DecidableEq κ] (f : κ) (v : D) : List (κ × D) → List (κ × D)
  | [] => [(f, v)]
  | (g, x) :: r => if g = f then (g, v) :: r else (g, x) :: putD f v r
theorem IsF.put {K : PySem.W.Frag} {I : Hp} {f : Str} {d : D} {v : V} (k : Is K I d v) : ∀ {fs : List (Str × D)} {vs : List (Str × V)}, IsF K I fs vs → IsF K I (putD f d fs) (putF f v vs)
  | [], _, .nil => .cons ⟨rfl, k⟩ .nil
  | (g, d0) :: r, _, .cons (b := (g', v0)) z t => by
    obtain ⟨z1, z2⟩ := z
    have z1 : g = g' := z1
    subst z1
    show Paired _ (if g = f then (g, d) :: r else (g, d0) :: putD f d r) (if g = f then (g, v) :: _ else (g, v0) :: putF f v _)
    by_cases q : g = f
    · rw [if_pos q, if_pos q]; exact .cons ⟨rfl, k⟩ t
    · rw [if_neg q, if_neg q]; exact .cons ⟨rfl, z2⟩ (IsF.put k t)
/-- o.m(e, ..) -/
theorem e_meth {pl : Sem Bool} (c : Cls X.K C) (hm : Meth X.K C m f) (cl : Cal X.prog X.w X.K X.mg X.base k f ps dvs S) (hr : Room k X.A)
    (h : EE X o Γ G fun d G1 => ∃ a fs, d = .ref a ∧ G1 a = some (.ins C fs) ∧ fs.lookup m = none ∧ AA X (e :: es) Γ G1 fun ds G2 => S (d :: (ds ++ dvs)) G2 R)
    (hst : starEach (e :: es) X.env = (false, eval e X.env) :: starEach es X.env := by rfl) (hpl : (backTo pos (starEach es X.env)).any (·.1) = false := by rfl)
    (ht : eval (.Call (.Attribute o m apos) (e :: es) [] pos) X.env = (do
      let ov ← eval o X.env
      standAt apos.atName
      let (f, first) ← holding [ov] (getMethod ov m pl)
      callWith pos f first (backTo pos (starEach (e :: es) X.env)) (backToKw pos (keywordEach [] X.env))) := by rfl) : EE X (.Call (.Attribute o m apos) (e :: es) [] pos) Γ G R := fun σ I H rp hG => by
  obtain ⟨fd, vs, us, F, b, hv, hd⟩ := cl.ex
  refine toE (pe_meth (E := E0) pe_s c hm F hr b hv pass0 pa_s hst hpl ht) ((h σ I H rp hG).imp fun x H1 ⟨I1, G1, d, g1, s1, i1, a, fs, ed, ea, l, r1⟩ => ?_)
  subst ed
  obtain ⟨_, u, hu, dx, ws, rfl, hf⟩ := g1.mu _ _ ea
  refine ⟨a, dx, ws, i1.ref_eq, hu, hf.look_none l, (r1 σ I1 H1 (rp.mono s1.ex) g1).imp fun ys H2 ⟨I2, G2, ds, g2, s2, i2, r2⟩ => ?_⟩
  exact spOf.at (s1.trans s2) g2 (Iss.cons (i1.mono s2.ex) (i2.append (hd I2))) r2
theorem e_meth0 {pl : Sem Bool} (c : Cls X.K C) (hm : Meth X.K C m f) (cl : Cal X.prog X.w X.K X.mg X.base k f ps dvs S) (hr : Room k X.A)
    (h : EE X o Γ G fun d G1 => ∃ a fs, d = .ref a ∧ G1 a = some (.ins C fs) ∧ fs.lookup m = none ∧ S (d :: dvs) G1 R)
    (ht : eval (.Call (.Attribute o m apos) [] [] pos) X.env = (do
      let ov ← eval o X.env
      standAt apos.atName
      let (f, first) ← holding [ov] (getMethod ov m pl)
      callWith pos f first (backTo pos (starEach [] X.env)) (backToKw pos (keywordEach [] X.env))) := by rfl) : EE X (.Call (.Attribute o m apos) [] [] pos) Γ G R := fun σ I H rp hG => by
  obtain ⟨fd, vs, us, F, b, hv, hd⟩ := cl.ex
  refine toE (pe_meth0 (E := E0) pe_s c hm F hr b hv pass0 ht) ((h σ I H rp hG).imp fun x H1 ⟨I1, G1, d, g1, s1, i1, a, fs, ed, ea, l, r1⟩ => ?_)
  subst ed
  obtain ⟨_, u, hu, dx, ws, rfl, hf⟩ := g1.mu _ _ ea
  refine ⟨a, dx, ws, i1.ref_eq, hu, hf.look_none l, ?_⟩
  exact spOf.at (E := E0) s1 g1 (Iss.cons i1 (hd I1)) r1
/-! ### fields -/
/-- the field f of d -/
inductive Fl (K : PySem.W.Frag) (f : Str) (G : Gp) (R : D → Gp → Prop) : D → Prop
  | ins {a C : Addr} {fs : List (Str × D)} {x : D} (h : G a = some (.ins C fs)) (c : Cls K C) (n : NoAttr K C f) (l : fs.lookup f = some x) (r : R x G) : Fl K f G R (.ref a)
  | obj {C : Addr} {ns : List Str} {xs : List D} {x : D} (c : Cls K C) (n : NoAttr K C f) (l : (ns.zip xs).lookup f = some x) (r : R x G) : Fl K f G R (.obj C ns xs)
theorem zip_look {K : PySem.W.Frag} {I : Hp} {f : Str} : ∀ {ns : List Str} {ds : List D} {vs : List V} {d : D}, Iss K I ds vs → (ns.zip ds).lookup f = some d → ∃ v, (ns.zip vs).lookup f = some v ∧ Is K I d v
  | [], _, _, _, _, h => by cases h
  | _ :: _, [], _, _, _, h => by cases h
  | n :: ns, d0 :: ds, _, d, i, h => by
    obtain ⟨v0, r, rfl, h1, h2⟩ := i.uncons
    rw [List.zip_cons_cons, List.lookup_cons] at h ⊢
    cases q : f == n with
    | true => rw [q] at h; cases h; exact ⟨v0, rfl, h1⟩
    | false => rw [q] at h; exact zip_look h2 h
theorem e_fld {f : Str} (h : EE X o Γ G fun d G1 => Fl X.K f G1 R d) (hb : attributeBase o f X.env (eval o X.env) = eval o X.env := by rfl) : EE X (.Attribute o f pos) Γ G R := fun σ I H rp hG =>
  toE (pe_fld pe_s hb) ((h σ I H rp hG).imp fun x H1 ⟨I1, G1, d, g1, s1, i1, fl⟩ => by
    cases fl with
    | @ins a C fs y h c n l r =>
      obtain ⟨_, u, hu, dx, ws, rfl, hf⟩ := g1.mu _ _ h
      obtain ⟨v, h1, h2⟩ := hf.look l
      exact ⟨a, C, dx, ws, v, i1.ref_eq, hu, c, n, h1, I1, G1, y, g1, s1, h2, r⟩
    | @obj C ns xs y c n l r =>
      obtain ⟨a, dx, ws, rfl, hu, hi⟩ := i1.obj_eq
      obtain ⟨v, h1, h2⟩ := zip_look hi l
      exact ⟨a, C, dx, _, v, rfl, g1.sub _ _ hu, c, n, h1, I1, G1, y, g1, s1, h2, r⟩)
/-! ### new instances -/
theorem HG.newF {K : PySem.W.Frag} {I H : Hp} {G : Gp} (h : HG K I H G) {p : Addr} (hp : H p = none) (o : HO) : HG K I (upd H p o) G ∧ Stp I H G I (upd H p o) G := by
  obtain ⟨ip, gp⟩ := h.fresh hp
  refine ⟨⟨h.sub.trans (same_new hp), fun a m e => ?_⟩, ⟨Same.refl _, fun a u e _ => by rw [upd_ne (ne_of_none e hp)]; exact e, fun a e => .inl e, fun a e => .inl e, fun a e => ?_⟩⟩
  · obtain ⟨h1, u, h2, h3⟩ := h.mu _ _ e
    exact ⟨h1, u, by rw [upd_ne (ne_of_none h2 hp)]; exact h2, h3⟩
  · by_cases q : a = p
    · rw [q, upd_same]; exact fun z => nomatch z
    · rw [upd_ne q]; exact e
/-- an object that was made on the way and may change no more -/
theorem Po.freeze {K : PySem.W.Frag} {I H I2 H2 : Hp} {G G2 : Gp} {x : Addr} {m : MO} (g2 : HG K I2 H2 G2) (s2 : Stp I H G I2 H2 G2) (gx : G x = none) (hx : G2 x = some m) {G3 : Gp} (h3 : ∀ a m, G3 a = some m → a ≠ x ∧ G2 a = some m) :
    ∃ o, H2 x = some o ∧ MoOk K I2 m o ∧ Same I2 (upd I2 x o) ∧ HG K (upd I2 x o) H2 G3 ∧ Stp I H G (upd I2 x o) H2 G3 := by
  obtain ⟨ix, o, ho, mo⟩ := g2.mu _ _ hx
  have hn : H x = none := by
    rcases s2.own x (ne_none hx) with q | q
    · exact absurd gx q
    · exact q
  refine ⟨o, ho, mo, same_new ix, ⟨fun a u e => ?_, fun a m' e => ?_⟩, ⟨s2.ex.trans (same_new ix), s2.keep, fun a e => ?_, fun a e => ?_, s2.alive⟩⟩
  · by_cases q : a = x
    · subst q; rw [upd_same] at e; cases e; exact ho
    · rw [upd_ne q] at e; exact g2.sub _ _ e
  · obtain ⟨q, e2⟩ := h3 a m' e
    obtain ⟨h1, u, h2, h4⟩ := g2.mu _ _ e2
    exact ⟨by rw [upd_ne q]; exact h1, u, h2, h4.mono (same_new ix)⟩
  · cases e1 : G3 a with
    | none => exact absurd e1 e
    | some m' => exact s2.own a (ne_none (h3 a m' e1).2)
  · by_cases q : a = x
    · rw [q]; exact .inr hn
    · rw [upd_ne q] at e; exact s2.imf a e
/-- C(e, ..), an object that may change -/
theorem e_make (M : Mk X.K C f) (cl : Cal X.prog X.w X.K X.mg X.base k f ps [] S) (hr : Room (k + 1) X.A) (hm : X.mg x = some (.ref C))
    (h : AA X (e :: es) Γ G fun ds G1 => ∀ a, G1 a = none → S (.ref a :: ds) (gup G1 a (.ins C [])) fun d G2 => d = .non ∧ R (.ref a) G2) (hg : Gl X x := by rfl) (hdb : (x == ("__debug__" : Str)) = false := by decide)
    (he : starEach (e :: es) X.env = (false, eval e X.env) :: starEach es X.env := by rfl) (hpl : (backTo pos (starEach es X.env)).any (·.1) = false := by rfl) : EE X (.Call (.Name x p) (e :: es) [] pos) Γ G R := fun σ I H rp hG => by
  obtain ⟨fd, vs, us, F, b, hv, hd⟩ := cl.ex
  refine toE (pe_make (E := E0) M F hr hg hm b hv pass0 pa_s hdb he hpl) ((h σ I H rp hG).imp fun ws H1 ⟨I1, G1, ds, g1, s1, i1, r1⟩ => fun a dx na nd ne => ?_)
  have z1 := g1.newF nd (.own a)
  have na' : (upd H1 dx (.own a)) a = none := by rw [upd_ne (Ne.symm ne)]; exact na
  have z2 := z1.1.newM (m := .ins C []) na' (o := .ins C dx []) ⟨dx, [], rfl, .nil⟩
  have ev : vs = [] := (hd I1).nil_eq
  subst ev
  refine ⟨I1, _, .ref a :: ds, _, z2.1, Iss.cons Is.ref (by rw [List.append_nil]; exact i1), r1 a (g1.fresh na).2, fun v H' ⟨I2, G2, d, g2, s2, i2, ed, r2⟩ => ?_⟩
  subst ed
  exact ⟨i2.non_eq, I2, G2, .ref a, g2, ((s1.trans z1.2).trans z2.2).trans s2, Is.ref, r2⟩
theorem e_make0 (M : Mk X.K C f) (cl : Cal X.prog X.w X.K X.mg X.base k f ps [] S) (hr : Room (k + 1) X.A) (hm : X.mg x = some (.ref C))
    (h : ∀ a, G a = none → S [.ref a] (gup G a (.ins C [])) fun d G2 => d = .non ∧ R (.ref a) G2) (hg : Gl X x := by rfl) (hdb : (x == ("__debug__" : Str)) = false := by decide) : EE X (.Call (.Name x p) [] [] pos) Γ G R := fun σ I H rp hG => by
  obtain ⟨fd, vs, us, F, b, hv, hd⟩ := cl.ex
  have ev : vs = [] := (hd I).nil_eq
  subst ev
  refine toE (pe_make0 (E := E0) M F hr hg hm b hv pass0 hdb) (show ∀ a dx, H a = none → H dx = none → dx ≠ a → _ from fun a dx na nd ne => ?_)
  have z1 := hG.newF nd (.own a)
  have na' : (upd H dx (.own a)) a = none := by rw [upd_ne (Ne.symm ne)]; exact na
  have z2 := z1.1.newM (m := .ins C []) na' (o := .ins C dx []) ⟨dx, [], rfl, .nil⟩
  refine ⟨I, _, [.ref a], _, z2.1, Iss.cons Is.ref Iss.nil, h a (hG.fresh na).2, fun v H' ⟨I2, G2, d, g2, s2, i2, ed, r2⟩ => ?_⟩
  subst ed
  exact ⟨i2.non_eq, I2, G2, .ref a, g2, (z1.2.trans z2.2).trans s2, Is.ref, r2⟩
/-- C(e, ..), an object that stays as its __init__ leaves it -/
theorem e_makeI (M : Mk X.K C f) (cl : Cal X.prog X.w X.K X.mg X.base k f ps [] S) (hr : Room (k + 1) X.A) (hm : X.mg x = some (.ref C))
    (h : AA X (e :: es) Γ G fun ds G1 => ∀ a, G1 a = none → S (.ref a :: ds) (gup G1 a (.ins C [])) fun d G2 => d = .non ∧ ∃ ns xs, G2 a = some (.ins C (ns.zip xs)) ∧ ns.length = xs.length ∧ (∀ b m, G1 b = some m → G2 b = some m) ∧ R (.obj C ns xs) G1) (hg : Gl X x := by rfl) (hdb : (x == ("__debug__" : Str)) = false := by decide)
    (he : starEach (e :: es) X.env = (false, eval e X.env) :: starEach es X.env := by rfl) (hpl : (backTo pos (starEach es X.env)).any (·.1) = false := by rfl) : EE X (.Call (.Name x p) (e :: es) [] pos) Γ G R := fun σ I H rp hG => by
  obtain ⟨fd, vs, us, F, b, hv, hd⟩ := cl.ex
  refine toE (pe_make (E := E0) M F hr hg hm b hv pass0 pa_s hdb he hpl) ((h σ I H rp hG).imp fun ws H1 ⟨I1, G1, ds, g1, s1, i1, r1⟩ => fun a dx na nd ne => ?_)
  have z1 := g1.newF nd (.own a)
  have na' : (upd H1 dx (.own a)) a = none := by rw [upd_ne (Ne.symm ne)]; exact na
  have z2 := z1.1.newM (m := .ins C []) na' (o := .ins C dx []) ⟨dx, [], rfl, .nil⟩
  have ev : vs = [] := (hd I1).nil_eq
  subst ev
  have ga : G1 a = none := (g1.fresh na).2
  refine ⟨I1, _, .ref a :: ds, _, z2.1, Iss.cons Is.ref (by rw [List.append_nil]; exact i1), r1 a ga, fun v H' ⟨I2, G2, d, g2, s2, i2, ed, ns, xs, hx, hl, hk, r2⟩ => ?_⟩
  subst ed
  refine ⟨i2.non_eq, ?_⟩
  obtain ⟨o, ho, mo, sm, g3, s3⟩ := Po.freeze (G3 := G1) g2 ((z1.2.trans z2.2).trans s2) ga hx fun b m e => ⟨fun q => (by rw [q, ga] at e; cases e), hk b m e⟩
  obtain ⟨dy, ws', rfl, hf⟩ := mo
  refine ⟨_, G1, _, g3, s1.trans s3, ?_, r2⟩
  have split : ∀ {ns : List Str} {xs : List D} {qs : List (Str × V)}, IsF X.K I2 (ns.zip xs) qs → ns.length = xs.length → ∃ ys, qs = ns.zip ys ∧ Iss X.K I2 xs ys := by
    intro ns
    induction ns with
    | nil =>
      intro xs qs h hl
      cases xs with
      | nil => cases h; exact ⟨[], rfl, Iss.nil⟩
      | cons _ _ => simp at hl
    | cons n ns ih =>
      intro xs qs h hl
      cases xs with
      | nil => simp at hl
      | cons y ys =>
        rw [List.zip_cons_cons] at h
        cases h with
        | cons z t =>
          rename_i q qs
          obtain ⟨ws2, rfl, h2⟩ := ih t (by simpa using hl)
          obtain ⟨q1, q2⟩ := q
          obtain ⟨z1, z3⟩ := z
          have z1 : n = q1 := z1
          subst z1
          exact ⟨q2 :: ws2, rfl, Iss.cons z3 h2⟩
  obtain ⟨ys, rfl, hi⟩ := split hf hl
  unfold Is
  exact ⟨a, dy, ys, rfl, upd_same, Iss.mono sm _ hi⟩
end

/-! ### targets -/
def setD (Γ : SG) : List (Nat × D) → SG
  | [] => Γ
  | (i, d) :: r => setD (Γ.set i (some d)) r
def setV (σ : L2.St) : List (Nat × V) → L2.St
  | [] => σ
  | (i, v) :: r => setV (σ.set i (some v)) r
theorem Rep.setD {K : PySem.W.Frag} {I : Hp} : ∀ {us : List (Nat × D)} {ws : List (Nat × V)} {Γ : SG} {σ : L2.St}, IsF K I us ws → Rep K I Γ σ → Rep K I (J.setD Γ us) (setV σ ws)
  | [], _, _, _, .nil, h => h
  | (i, d) :: r, _, Γ, σ, .cons (b := (j, v)) z t, h => by
    obtain ⟨z1, z2⟩ := z
    have z1 : i = j := z1
    subst z1
    show Rep K I (J.setD (Γ.set i (some d)) r) (setV (σ.set i (some v)) _)
    exact Rep.setD t (h.set z2)
theorem wipe_set {σ : L2.St} {i : Nat} {v : Option V} : ∀ {vs : List Nat}, i ∈ vs → L2.wipe (σ.set i v) vs = L2.wipe σ vs
  | j :: vs, h => by
    unfold L2.wipe
    by_cases q : i ∈ vs
    · rw [wipe_set q]
    · have e : i = j := by
        rcases List.mem_cons.mp h with e | e
        · exact e
        · exact absurd e q
      subst e
      have out : ∀ {vs : List Nat} {τ : L2.St}, i ∉ vs → L2.wipe (τ.set i v) vs = (L2.wipe τ vs).set i v := by
        intro vs
        induction vs with
        | nil => intro τ _; rfl
        | cons c cs ih =>
          intro τ hn
          have h1 : i ≠ c := fun e => hn (by rw [e]; exact List.mem_cons_self)
          unfold L2.wipe
          rw [ih fun m => hn (List.mem_cons_of_mem _ m), List.set_comm _ _ h1]
      rw [out q, List.set_set]
theorem wipe_setV {vs : List Nat} : ∀ {ws : List (Nat × V)} {σ : L2.St}, (∀ w ∈ ws, w.1 ∈ vs) → L2.wipe (setV σ ws) vs = L2.wipe σ vs
  | [], _, _ => rfl
  | (i, v) :: r, σ, h => by
    unfold setV
    rw [wipe_setV fun w hw => h w (List.mem_cons_of_mem _ hw), wipe_set (h (i, v) List.mem_cons_self)]
/-- a target taken d: these slots are stored -/
def TgS (K : PySem.W.Frag) (G : Gp) (g : TG) (d : D) (us : List (Nat × D)) : Prop := ∀ (I H : Hp) (σ : L2.St) (v : V) (Q : L2.St → Hp → Prop), HG K I H G → Is K I d v → (∀ ws, IsF K I us ws → Q (setV σ ws) H) → g v σ H Q
def TgSs (K : PySem.W.Frag) (G : Gp) (g : TGs) (ds : List D) (us : List (Nat × D)) : Prop := ∀ (I H : Hp) (σ : L2.St) (vs : List V) (Q : L2.St → Hp → Prop), HG K I H G → Iss K I ds vs → (∀ ws, IsF K I us ws → Q (setV σ ws) H) → g vs σ H Q
section
variable {K : PySem.W.Frag} {G : Gp} {g : TG} {t : TGs} {d : D} {ds : List D} {us us' : List (Nat × D)}
theorem tg_name {i : Nat} : TgS K G (gName i) d [(i, d)] := fun I H σ v Q hg hi h => h [(i, v)] (.cons ⟨rfl, hi⟩ .nil)
theorem tgs_nil : TgSs K G gNil [] [] := fun I H σ vs Q hg hi h => ⟨hi.nil_eq, h [] .nil⟩
theorem setV_append {σ : L2.St} : ∀ {a b : List (Nat × V)}, setV σ (a ++ b) = setV (setV σ a) b
  | [], _ => rfl
  | (i, v) :: r, b => by
    show setV (σ.set i (some v)) (r ++ b) = setV (setV (σ.set i (some v)) r) b
    rw [setV_append]
theorem IsF.app {κ : Type} {I : Hp} : ∀ {a b : List (κ × D)} {c e : List (κ × V)}, IsF K I a c → IsF K I b e → IsF K I (a ++ b) (c ++ e)
  | _, _, _, _, .nil, h => h
  | _, _, _, _, .cons z t, h => .cons z (IsF.app t h)
theorem tgs_cons (h1 : TgS K G g d us) (h2 : TgSs K G t ds us') : TgSs K G (gCons g t) (d :: ds) (us ++ us') := fun I H σ vs Q hg hi h => by
  obtain ⟨v, r, rfl, i1, i2⟩ := hi.uncons
  refine ⟨v, r, rfl, h1 I H σ v _ hg i1 fun ws hw => h2 I H _ r _ hg i2 fun ws' hw' => ?_⟩
  rw [← setV_append]
  exact h _ (IsF.app hw hw')
theorem tg_tup {n : Nat} (h : TgSs K G t ds us) (hn : ds.length = n := by rfl) : TgS K G (gTup K n t) (.tup ds) us := fun I H σ v Q hg hi k => by
  obtain ⟨a, xs, rfl, hs, hx⟩ := hi.tup_eq
  exact ⟨a, xs, rfl, same_t hg.sub hs, by rw [← hx.len]; exact hn, h I H σ xs Q hg hx k⟩
theorem tg_lst {n : Nat} (h : TgSs K G t ds us) (hn : ds.length = n := by rfl) : TgS K G (gLst K n t) (.lst ds) us := fun I H σ v Q hg hi k => by
  obtain ⟨a, xs, rfl, hs, hx⟩ := hi.lst_eq
  exact ⟨a, xs, rfl, SqL.of (hg.sub _ _ hs), by rw [← hx.len]; exact hn, h I H σ xs Q hg hx k⟩
theorem tg_lstM {n : Nat} {p : Addr} (hp : G p = some (.lst ds)) (h : TgSs K G t ds us) (hn : ds.length = n := by rfl) : TgS K G (gLst K n t) (.ref p) us := fun I H σ v Q hg hi k => by
  obtain ⟨_, o, ho, xs, rfl, hx⟩ := hg.mu _ _ hp
  exact ⟨p, xs, hi.ref_eq, SqL.of ho, by rw [← hx.len]; exact hn, h I H σ xs Q hg hx k⟩
end

/-! ### statements -/
section
variable {X : Cx} {Γ : SG} {G : Gp} {k : KD} {e o c : Expr} {st : Stmt} {rest a b : List Stmt} {pos pos' : Pos}
theorem SS.imp {k' : KD} (h : SS X st Γ G k) (h1 : ∀ Γ G, k.nx Γ G → k'.nx Γ G) (h2 : ∀ v G, k.rt v G → k'.rt v G) (h3 : ∀ Γ G, k.bk Γ G → k'.bk Γ G) (h4 : ∀ Γ G, k.ct Γ G → k'.ct Γ G) : SS X st Γ G k' := fun σ I H rp hg =>
  (h σ I H rp hg).imp (fun _ _ q => PoS.imp h1 q) (fun _ _ ⟨I', G', d, q1, q2, q3, q4⟩ => ⟨I', G', d, q1, q2, q3, h2 _ _ q4⟩) (fun _ _ q => PoS.imp h3 q) fun _ _ q => PoS.imp h4 q
theorem SB.imp {k' : KD} (h : SB X rest Γ G k) (h1 : ∀ Γ G, k.nx Γ G → k'.nx Γ G) (h2 : ∀ v G, k.rt v G → k'.rt v G) (h3 : ∀ Γ G, k.bk Γ G → k'.bk Γ G) (h4 : ∀ Γ G, k.ct Γ G → k'.ct Γ G) : SB X rest Γ G k' := fun σ I H rp hg =>
  (h σ I H rp hg).imp (fun _ _ q => PoS.imp h1 q) (fun _ _ ⟨I', G', d, q1, q2, q3, q4⟩ => ⟨I', G', d, q1, q2, q3, h2 _ _ q4⟩) (fun _ _ q => PoS.imp h3 q) fun _ _ q => PoS.imp h4 q
theorem b_nil (h : k.nx Γ G) : SB X [] Γ G k := fun σ I H rp hg => toB pss_nil ⟨I, Γ, G, rp, hg, Stp.refl, h⟩
theorem SB.after {I H I1 H1 : Hp} {G1 : Gp} {Γ1 : SG} {σ1 : L2.St} (s1 : Stp I H G I1 H1 G1) (h : sB X rest (Dk X.K I1 H1 G1 k) σ1 H1) : sB X rest (Dk X.K I H G k) σ1 H1 :=
  h.imp (fun _ _ q => PoS.step s1 q) (fun _ _ q => Po.step s1 q) (fun _ _ q => PoS.step s1 q) fun _ _ q => PoS.step s1 q
theorem b_cons (h : SS X st Γ G { k with nx := fun Γ1 G1 => SB X rest Γ1 G1 k }) : SB X (st :: rest) Γ G k := fun σ I H rp hg => by
  refine toB (pss_cons ps_s pb_s) (show sS X st _ σ H from (h σ I H rp hg).imp (fun σ' H' q => ?_) (fun _ _ q => q) (fun _ _ q => q) (fun _ _ q => q))
  obtain ⟨I1, Γ1, G1, rp1, g1, s1, q⟩ := q
  exact SB.after (Γ1 := Γ1) s1 (q σ' I1 H' rp1 g1)
theorem s_pass (h : k.nx Γ G) : SS X (.Pass pos) Γ G k := fun σ I H rp hg => toS ps_pass ⟨I, Γ, G, rp, hg, Stp.refl, h⟩
theorem s_ret (h : EE X e Γ G k.rt) : SS X (.Return (some e) pos) Γ G k := fun σ I H rp hg => toS (ps_ret pe_s) (h σ I H rp hg)
theorem s_expr (h : EE X e Γ G fun _ G1 => k.nx Γ G1) (hs : swapsWith e none pos.line X.env = pure false := by rfl) : SS X (.Expr e pos) Γ G k := fun σ I H rp hg =>
  toS (ps_expr pe_s hs) ((h σ I H rp hg).imp fun v H1 ⟨I1, G1, d, g1, s1, i1, r1⟩ => ⟨I1, Γ, G1, rp.mono s1.ex, g1, s1, r1⟩)
theorem s_set (i : Nat) {x : Str} (hN : X.N.Nodup) (h : EE X e Γ G fun d G1 => k.nx (Γ.set i (some d)) G1) (hi : X.N[i]? = some x := by rfl) (hx : Loc X.env.scope x := by first | exact Or.inl rfl | exact Or.inr rfl) (hs : swapsWith e (some (.Name x pos')) pos.line X.env = pure false := by rfl)
    (hf : X.fn x = true ∨ X.env.scope.names.lookup x = some .local := by first | exact .inr rfl | exact .inl rfl) : SS X (.Assign [.Name x pos'] e pos) Γ G k := fun σ I H rp hg =>
  toS (ps_set (i := i) hN hi hx pe_s hs hf) ((h σ I H rp hg).imp fun v H1 ⟨I1, G1, d, g1, s1, i1, r1⟩ => ⟨I1, _, G1, (rp.mono s1.ex).set i1, g1, s1, r1⟩)
/-- target = e, a tuple of targets -/
theorem s_asg {tg : Expr} {g : TG} (hg : PG X tg g) (h : EE X e Γ G fun d G1 => ∃ us, TgS X.K G1 g d us ∧ k.nx (setD Γ us) G1) (hs : swapsWithSole [tg] e pos.line X.env = pure false := by rfl) (hw : swappedStores [tg] e X.env = pure none := by rfl)
    (h1 : (assignEach [tg] X.env).map (·.2) = [assign tg X.env] := by rfl) : SS X (.Assign [tg] e pos) Γ G k := fun σ I H rp hG =>
  toS (ps_asg pe_s hg hs hw h1) ((h σ I H rp hG).imp fun v H1 ⟨I1, G1, d, g1, s1, i1, us, t, r1⟩ => t I1 H1 σ v _ g1 i1 fun ws hw => ⟨I1, _, G1, Rep.setD hw (rp.mono s1.ex), g1, s1, r1⟩)
/-- a, b = x, y -/
theorem s_par (i j : Nat) {x y : Str} {ea eb : Expr} {px py pt : Pos} {kt k2 pt2} (hN : X.N.Nodup) (h : AA X [ea, eb] Γ G fun ds G1 => ∃ d d', ds = [d, d'] ∧ k.nx ((Γ.set i (some d)).set j (some d')) G1) (hc : X.calm = true := by rfl) (hi : X.N[i]? = some x := by rfl) (hj : X.N[j]? = some y := by rfl) (hij : i ≠ j := by decide)
    (hx : X.env.scope.names.lookup x = some .local := by rfl) (hy : X.env.scope.names.lookup y = some .local := by rfl)
    (hw : swappedStores [.Tuple [.Name x px, .Name y py] kt pt] (.Tuple [ea, eb] k2 pt2) X.env = pure (some [x, y]) := by rfl)
    (hs : swapsWithSole [.Tuple [.Name x px, .Name y py] kt pt] (.Tuple [ea, eb] k2 pt2) pos.line X.env = pure false := by rfl) : SS X (.Assign [.Tuple [.Name x px, .Name y py] kt pt] (.Tuple [ea, eb] k2 pt2) pos) Γ G k := fun σ I H rp hG =>
  toS (ps_par (i := i) (j := j) hc hN hi hj hij hx hy pa_s hw hs) ((h σ I H rp hG).imp fun vs H1 ⟨I1, G1, ds, g1, s1, i1, d, d', ed, r1⟩ => by
    subst ed
    obtain ⟨v, r, rfl, h1, h2⟩ := i1.uncons
    obtain ⟨v', r', rfl, h3, h4⟩ := h2.uncons
    rw [h4.nil_eq]
    exact ⟨v, v', rfl, I1, _, G1, ((rp.mono s1.ex).set h1).set h3, g1, s1, r1⟩)
/-- o.f = e -/
theorem s_fld {f : Str} (h : EE X e Γ G fun y G1 => EE X o Γ G1 fun d G2 => ∃ p C fs, d = .ref p ∧ G2 p = some (.ins C fs) ∧ Cls X.K C ∧ NoAttr X.K C f ∧ fs.length < 1000 ∧ k.nx Γ (gup G2 p (.ins C (putD f y fs))))
    (hs : swapsWith e (some (.Attribute o f pos')) pos.line X.env = pure false := by rfl) : SS X (.Assign [.Attribute o f pos'] e pos) Γ G k := fun σ I H rp hG =>
  toS (ps_fld pe_s pe_s hs) ((h σ I H rp hG).imp fun y H1 ⟨I1, G1, d1, g1, s1, i1, r1⟩ => (r1 σ I1 H1 (rp.mono s1.ex) g1).imp fun x H2 ⟨I2, G2, d2, g2, s2, i2, p, C, fs, ed, hp, c, n, hl, r2⟩ => by
    subst ed
    obtain ⟨_, u, hu, dx, ws, rfl, hf⟩ := g2.mu _ _ hp
    have z := g2.write (m := .ins C (putD f d1 fs)) hp (o := .ins C dx (putF f y ws)) ⟨dx, _, rfl, IsF.put (i1.mono s2.ex) hf⟩
    exact ⟨p, C, dx, ws, i2.ref_eq, hu, c, n, by rw [← hf.len]; exact hl, I2, Γ, _, (rp.mono s1.ex).mono s2.ex, z.1, (s1.trans s2).trans z.2, r2⟩)
/-- o[i] = e, a list -/
theorem s_sub {i : Expr} (h : EE X e Γ G fun y G1 => EE X o Γ G1 fun d G2 => EE X i Γ G2 fun j G3 => ∃ p ds, ∃ n : Nat, d = .ref p ∧ j = .int n ∧ G3 p = some (.lst ds) ∧ n < ds.length ∧ k.nx Γ (gup G3 p (.lst (ds.set n y))))
    (ha : ∀ v, assign (.Subscript o i pos') X.env v = (do
      let ov ← holding [v] (eval o X.env)
      let iv ← holding [v, ov] (eval i X.env)
      standAt pos'
      holding [v, ov, iv] (setItem ov iv v)
      release [v, ov, iv] []) := by intro _; rfl) (hs : swapsWithSole [.Subscript o i pos'] e pos.line X.env = pure false := by rfl) (hw : swappedStores [.Subscript o i pos'] e X.env = pure none := by rfl)
    (h1 : (assignEach [.Subscript o i pos'] X.env).map (·.2) = [assign (.Subscript o i pos') X.env] := by rfl) : SS X (.Assign [.Subscript o i pos'] e pos) Γ G k := fun σ I H rp hG =>
  toS (ps_asg pe_s (pg_sub pe_s pe_s set_list ha) hs hw h1) ((h σ I H rp hG).imp fun y H1 ⟨I1, G1, d1, g1, s1, i1, r1⟩ => (r1 σ I1 H1 (rp.mono s1.ex) g1).imp fun x H2 ⟨I2, G2, d2, g2, s2, i2, r2⟩ =>
    (r2 σ I2 H2 ((rp.mono s1.ex).mono s2.ex) g2).imp fun z H3 ⟨I3, G3, d3, g3, s3, i3, p, ds, n, e2, e3, hp, hl, r3⟩ => by
      subst e2 e3
      obtain ⟨_, u, hu, ws, rfl, hf⟩ := g3.mu _ _ hp
      have w := g3.write (m := .lst (ds.set n d1)) hp (o := .lst (ws.set n y)) ⟨_, rfl, hf.set n (i1.mono (s2.trans s3).ex)⟩
      have hx : x = .ref p := i2.ref_eq
      refine ⟨p, ws, (n : Int), n, hx, i3.int_eq, hu, ?_, I3, Γ, _, ((rp.mono s1.ex).mono s2.ex).mono s3.ex, w.1, ((s1.trans s2).trans s3).trans w.2, r3⟩
      have hl2 : n < ws.length := by rw [← hf.len]; exact hl
      unfold ixN
      rw [if_pos (by omega), if_pos (by omega)]
      simp)
theorem s_if (h : TT X c Γ G fun t G1 => if t = true then SB X a Γ G1 k else SB X b Γ G1 k) : SS X (.If c a b pos) Γ G k := fun σ I H rp hg =>
  toS (ps_if pt_s pb_s pb_s) ((h σ I H rp hg).imp fun t H1 ⟨I1, G1, g1, s1, r1⟩ => by
    cases t with
    | true =>
      rw [if_pos rfl] at r1 ⊢
      exact SB.after (Γ1 := Γ) s1 (r1 σ I1 H1 (rp.mono s1.ex) g1)
    | false =>
      rw [if_neg Bool.false_ne_true] at r1 ⊢
      exact SB.after (Γ1 := Γ) s1 (r1 σ I1 H1 (rp.mono s1.ex) g1))
theorem iteTT {A B : Prop} (h : A) : if true = true then A else B := by rw [if_pos rfl]; exact h
theorem iteFF {A B : Prop} (h : B) : if false = true then A else B := by rw [if_neg Bool.false_ne_true]; exact h
theorem ite_t {b : Bool} {A B : Prop} (e : b = true) (h : A) : if b = true then A else B := by rw [if_pos e]; exact h
theorem ite_f {b : Bool} {A B : Prop} (e : b = false) (h : B) : if b = true then A else B := by rw [e, if_neg Bool.false_ne_true]; exact h
theorem ite_b {b : Bool} {A B : Prop} (h1 : b = true → A) (h2 : b = false → B) : if b = true then A else B := by
  cases b with
  | true => rw [if_pos rfl]; exact h1 rfl
  | false => rw [if_neg Bool.false_ne_true]; exact h2 rfl
end

/-! ### a def of the text -/
section
variable {P : Program} {w : World} {K : PySem.W.Frag} {mg : Str → Option Value} {base : Heap}
def Sub (G' G : Gp) : Prop := ∀ a m, G' a = some m → G a = some m
theorem Sub.refl (G : Gp) : Sub G G := fun _ _ h => h
theorem Po.sub {I H : Hp} {G : Gp} {R : D → Gp → Prop} {v : V} {H' : Hp} (h : Po K I H G (fun d G1 => ∃ G2, Sub G2 G1 ∧ R d G2) v H') : Po K I H G R v H' := by
  obtain ⟨I', G1, d, g1, s1, i1, G2, sb, r⟩ := h
  refine ⟨I', G2, d, g1.less sb, ⟨s1.ex, s1.keep, fun a e => ?_, s1.imf, s1.alive⟩, i1, r⟩
  cases q : G2 a with
  | none => exact absurd q e
  | some m => exact s1.own a (ne_none (sb a m q))
/-- behind the body what it made may be forgotten -/
theorem ok_def {nm qual : Str} {st : Stmt} {f : Addr} {fd : FuncData} {N ps : List Str} {k : Nat} {S : AS} {dvs : List V} (F : FunD K nm qual (defArgs st) (defBody st) (defScope st) dvs [] f fd) (Sc : FnScope N ps (defScope st)) (hl : ∀ ds G R, S ds G R → ds.length = ps.length)
    (hb : ∀ (cdv : Value) (A : Around) (outer : List Env) (s : Shared) (H : Hp) (E : XK), Room k (A.deeper (envOfC qual (defScope st) s.heap.objs.size f cdv)) → ∀ ds G R, S ds G R →
      SB (cxOf CX0 P w K mg base N qual (defScope st) f cdv A outer s H E).nox (defBody st) (startD N ds) G ⟨fun _ G' => R .non G', fun d G1 => ∃ G2, Sub G2 G1 ∧ R d G2, fun _ _ => False, fun _ _ => False⟩) : FnOk P w K mg base CX0 (k + 1) f fd ps (spOf K S) := by
  refine F.ok Sc (fun vs H Q E h => ?_) fun cdv A outer s H vs Q E hr h => ?_
  · obtain ⟨I, G, ds, R, hg, hi, hs, _⟩ := h
    rw [← hi.len]
    exact hl ds G R hs
  · obtain ⟨I, G, ds, R, hg, hi, hs, hq⟩ := h
    refine ⟨_, PSs.nox pb_s, ?_⟩
    have z := hb cdv A outer s H E hr ds G R hs (L2.start N vs) I H (by
      unfold L2.start startD
      rw [← hi.len]
      exact Rep.start hi _) hg
    refine z.imp (fun σ' H' q => ?_) (fun v H' q => hq v H' (Po.sub q)) (fun _ _ q => ?_) (fun _ _ q => ?_)
    · obtain ⟨I', Γ', G', _, g', s', r⟩ := q
      exact hq _ _ ⟨I', G', .non, g', s', Is.non, r⟩
    · obtain ⟨_, _, _, _, _, _, z⟩ := q
      exact z.elim
    · obtain ⟨_, _, _, _, _, _, z⟩ := q
      exact z.elim
end
end J
namespace J
open PySem PySem.Spec PyProof.Rows L2

def sN (X : Cx) (tg iter : Expr) : TI := fun σ H R => ∀ (pins : List (Addr × Obj)) (s : Shared), Inv X pins σ H s → wpAny (model X.prog X.w) X.A (eval iter X.env) (fun v s1 => wpAny (model X.prog X.w) X.A (pyIter v) (PIE X pins σ tg R) X.xe s1) X.xe s
theorem pn_s {X : Cx} {tg iter : Expr} : PI X tg iter (sN X tg iter) := ⟨fun pins s _ _ _ I h => h pins s I⟩
theorem toN {X : Cx} {tg iter : Expr} {wi : TI} {σ : L2.St} {H : Hp} {R : It → Hp → Prop} (p : PI X tg iter wi) (h : wi σ H R) : sN X tg iter σ H R := fun pins s I => p.run pins s σ H R I h
theorem sN.imp {X : Cx} {tg iter : Expr} {σ : L2.St} {H : Hp} {R R' : It → Hp → Prop} (h : sN X tg iter σ H R) (k : ∀ J H', R J H' → R' J H') : sN X tg iter σ H R' := fun pins s I =>
  thn (h pins s I) fun _ _ q => thn q fun _ _ ⟨it, fp, tn, J, H', e, I', t, t0, f, r⟩ => ⟨it, fp, tn, J, H', e, I', t, t0, f, k J H' r⟩
/-- n turns, the i-th gives item i, as long as ok holds -/
structure WalkD (K : PySem.W.Frag) (I0 : Hp) (J : It) (n : Nat) (item : Nat → D) (ok : Gp → Prop) : Prop where
  goes : ∀ i I H G, i < n → HG K I H G → Same I0 I → ok G → J.go i H
  stops : ∀ I H G, HG K I H G → Same I0 I → ok G → J.stop n H
  yields : ∀ i I H G x H', i < n → HG K I H G → Same I0 I → ok G → J.yld i H x H' → ∃ I', HG K I' H' G ∧ Stp I H G I' H' G ∧ Is K I' (item i) x
/-- what is walked, over trees -/
def NN (X : Cx) (tg iter : Expr) (Γ : SG) (G : Gp) (R : Nat → (Nat → D) → (Gp → Prop) → Gp → Prop) : Prop := ∀ (σ : L2.St) (I H : Hp), Rep X.K I Γ σ → HG X.K I H G →
  sN X tg iter σ H fun J H' => ∃ I' G' n item ok, HG X.K I' H' G' ∧ Stp I H G I' H' G' ∧ WalkD X.K I' J n item ok ∧ R n item ok G'
section
variable {X : Cx} {Γ : SG} {G : Gp} {k : KD} {tg iter : Expr} {body : List Stmt} {pos p : Pos}
/-- for tg in iter: the invariant by the turn -/
theorem s_for {g : TG} (hg : PG X tg g) (hp : PassesOwn (model X.prog X.w) X.A X.env X.xe)
    (h : NN X tg iter Γ G fun n item ok G1 => ∃ Iv : Nat → SG → Gp → Prop, Iv 0 Γ G1 ∧ (∀ i Γ' G', i ≤ n → Iv i Γ' G' → ok G') ∧
      (∀ i Γ' G', i < n → Iv i Γ' G' → ∃ us, TgS X.K G' g (item i) us ∧ SB X body (setD Γ' us) G' ⟨Iv (i + 1), k.rt, k.nx, Iv (i + 1)⟩) ∧ ∀ Γ' G', Iv n Γ' G' → k.nx Γ' G')
    (hc : X.calm = true := by rfl) (hs : ∀ x, foldedSetIterable iter X.env x = pure x := by intro _; rfl) : SS X (.For tg iter body [] pos) Γ G k := fun σ I H rp hG =>
  toS (ps_for hp hc pn_s hg pb_s hs) ((h σ I H rp hG).imp fun J H1 ⟨I1, G1, n, item, ok, g1, s1, W, Iv, i0, iok, it, iend⟩ => by
    refine ⟨fun i m σ' H' => m = n - i ∧ i ≤ n ∧ ∃ I' Γ' G', Rep X.K I' Γ' σ' ∧ HG X.K I' H' G' ∧ Stp I1 H1 G1 I' H' G' ∧ Iv i Γ' G', ⟨n, by simp, Nat.zero_le _, I1, Γ, G1, rp.mono s1.ex, g1, Stp.refl, i0⟩, ?_⟩
    rintro i m σ' H' ⟨rfl, hi, I', Γ', G', rp', g', s', iv⟩
    by_cases hlt : i < n
    · refine .inr ⟨W.goes i I' H' G' hlt g' s'.ex (iok _ _ _ hi iv), fun σ2 H2 => ∃ I2 Γ2 G2, Rep X.K I2 Γ2 σ2 ∧ HG X.K I2 H2 G2 ∧ Stp I1 H1 G1 I2 H2 G2 ∧ Iv (i + 1) Γ2 G2, fun σ2 H2 z => ⟨n - (i + 1), by omega, rfl, hlt, z⟩, fun x H2 y => ?_⟩
      obtain ⟨I2, g2, s2, hx⟩ := W.yields i I' H' G' x H2 hlt g' s'.ex (iok _ _ _ hi iv) y
      obtain ⟨us, t, hb⟩ := it i Γ' G' hlt iv
      refine t I2 H2 σ' x _ g2 hx fun ws hw => ?_
      have s12 : Stp I1 H1 G1 I2 H2 G' := s'.trans s2
      refine (hb _ I2 H2 (Rep.setD hw (rp'.mono s2.ex)) g2).imp (fun _ _ q => ?_) (fun _ _ q => Po.step (s1.trans s12) q) (fun _ _ q => PoS.step (s1.trans s12) q) (fun _ _ q => ?_)
      · obtain ⟨I3, Γ3, G3, r3, g3, s3, q3⟩ := q
        exact ⟨I3, Γ3, G3, r3, g3, s12.trans s3, q3⟩
      · obtain ⟨I3, Γ3, G3, r3, g3, s3, q3⟩ := q
        exact ⟨I3, Γ3, G3, r3, g3, s12.trans s3, q3⟩
    · have e : i = n := by omega
      subst e
      exact .inl ⟨W.stops I' H' G' g' s'.ex (iok _ _ _ hi iv), I', Γ', G', rp', g', s1.trans s', iend _ _ iv⟩)
/-- while c: the invariant with a measure -/
theorem s_while {c : Expr} (hp : PassesOwn (model X.prog X.w) X.A X.env X.xe) (Iv : Nat → SG → Gp → Prop) (m0 : Nat) (h0 : Iv m0 Γ G)
    (ht : ∀ m Γ' G', Iv m Γ' G' → TT X c Γ' G' fun t G2 => if t = true then SB X body Γ' G2 ⟨fun Γ3 G3 => ∃ m', m' < m ∧ Iv m' Γ3 G3, k.rt, k.nx, fun Γ3 G3 => ∃ m', m' < m ∧ Iv m' Γ3 G3⟩ else k.nx Γ' G2) : SS X (.While c body [] pos) Γ G k := fun σ I H rp hG => by
  refine toS (ps_while hp pt_s pb_s) ⟨fun m σ' H' => ∃ I' Γ' G', Rep X.K I' Γ' σ' ∧ HG X.K I' H' G' ∧ Stp I H G I' H' G' ∧ Iv m Γ' G', ⟨m0, I, Γ, G, rp, hG, Stp.refl, h0⟩, ?_⟩
  rintro m σ' H' ⟨I', Γ', G', rp', g', s', iv⟩
  refine (ht m Γ' G' iv σ' I' H' rp' g').imp fun t H2 ⟨I2, G2, g2, s2, r2⟩ => ?_
  cases t with
  | true =>
    rw [if_pos rfl] at r2 ⊢
    refine ⟨fun σ3 H3 => ∃ m', m' < m ∧ ∃ I3 Γ3 G3, Rep X.K I3 Γ3 σ3 ∧ HG X.K I3 H3 G3 ∧ Stp I H G I3 H3 G3 ∧ Iv m' Γ3 G3, fun _ _ z => z, ?_⟩
    refine (r2 σ' I2 H2 (rp'.mono s2.ex) g2).imp (fun _ _ q => ?_) (fun _ _ q => Po.step (s'.trans s2) q) (fun _ _ q => PoS.step (s'.trans s2) q) (fun _ _ q => ?_)
    · obtain ⟨I3, Γ3, G3, r3, g3, s3, m', hm, q3⟩ := q
      exact ⟨m', hm, I3, Γ3, G3, r3, g3, (s'.trans s2).trans s3, q3⟩
    · obtain ⟨I3, Γ3, G3, r3, g3, s3, m', hm, q3⟩ := q
      exact ⟨m', hm, I3, Γ3, G3, r3, g3, (s'.trans s2).trans s3, q3⟩
  | false =>
    rw [if_neg Bool.false_ne_true] at r2 ⊢
    exact ⟨I2, Γ', G2, rp'.mono s2.ex, g2, s'.trans s2, r2⟩

/-! ### comprehensions -/
/-- a clause's tests -/
def sQ (X : Cx) (ifs : List Expr) : L2.TT := fun σ H Q => ∀ (pins : List (Addr × Obj)) (s : Shared), Inv X pins σ H s →
    wpAny (model X.prog X.w) X.A (forIn ifs true fun c r => if r = true then do let ok ← isTrue c X.env (eval c X.env); pure (ForInStep.yield ok) else pure (ForInStep.yield r)) (TP X pins σ Q) X.xe s
def QQ (X : Cx) (ifs : List Expr) (Γ : SG) (G : Gp) (R : Bool → Gp → Prop) : Prop := ∀ (σ : L2.St) (I H : Hp), Rep X.K I Γ σ → HG X.K I H G → sQ X ifs σ H (PoT X.K I H G R)
theorem q_nil {R : Bool → Gp → Prop} (r : R true G) : QQ X [] Γ G R := fun σ I H rp hg pins s I' => pts_nil.run pins s σ H _ I' ⟨I, G, hg, Stp.refl, r⟩
theorem q_one {c : Expr} {R : Bool → Gp → Prop} (h : TT X c Γ G R) : QQ X [c] Γ G R := fun σ I H rp hg pins s I' => (pts_one pt_s).run pins s σ H _ I' (h σ I H rp hg)
theorem Iss.one {K : PySem.W.Frag} {I : Hp} {d : D} {v : V} (h : Is K I d v) : Iss K I [d] [v] := Iss.cons h Iss.nil
theorem wipe_get {σ : L2.St} {j : Nat} : ∀ {vs : List Nat}, (L2.wipe σ vs)[j]? = if j ∈ vs then σ[j]?.map (fun _ => none) else σ[j]?
  | [] => by simp [L2.wipe]
  | v :: vs => by
    unfold L2.wipe
    by_cases q : v = j
    · subst q
      rw [if_pos List.mem_cons_self]
      by_cases hl : v < σ.length
      · rw [List.getElem?_set_self (by rw [wipe_length]; exact hl), List.getElem?_eq_getElem hl]; rfl
      · rw [List.getElem?_eq_none (by rw [List.length_set, wipe_length]; omega), List.getElem?_eq_none (by omega)]; rfl
    · rw [List.getElem?_set_ne q, wipe_get]
      by_cases m : j ∈ vs
      · rw [if_pos m, if_pos (List.mem_cons_of_mem _ m)]
      · rw [if_neg m, if_neg fun z => (List.mem_cons.mp z).elim (fun e => q e.symm) m]
theorem wipe_wipe {σ : L2.St} {vs : List Nat} : L2.wipe (L2.wipe σ vs) vs = L2.wipe σ vs := by
  apply List.ext_getElem?
  intro j
  rw [wipe_get, wipe_get]
  by_cases m : j ∈ vs
  · rw [if_pos m, if_pos m]
    cases σ[j]? <;> rfl
  · rw [if_neg m, if_neg m]
/-- a thing that is neither I's nor G's is changed, that was made on the way -/
theorem Stp.mutF {I H I' H' : Hp} {G G' : Gp} {p : Addr} {o : HO} (s : Stp I H G I' H' G') (hp : H p = none) : Stp I H G I' (upd H' p o) G' :=
  ⟨s.ex, fun a u e g => by rw [upd_ne (ne_of_none e hp)]; exact s.keep a u e g, s.own, s.imf, fun a e => by
    by_cases q : a = p
    · rw [q, upd_same]; exact fun z => nomatch z
    · rw [upd_ne q]; exact s.alive a e⟩
theorem HG.mutF {K : PySem.W.Frag} {I H : Hp} {G : Gp} {p : Addr} {o : HO} (h : HG K I H G) (ip : I p = none) (gp : G p = none) : HG K I (upd H p o) G :=
  ⟨fun a u e => by rw [upd_ne (ne_of_none e ip)]; exact h.sub a u e, fun a m e => by
    obtain ⟨h1, u, h2, h3⟩ := h.mu a m e
    exact ⟨h1, u, by rw [upd_ne fun q => by rw [q, gp] at e; cases e]; exact h2, h3⟩⟩
abbrev tQs (X : Cx) (scope : Scope) (ifs : List Expr) : L2.TT := fun σ H Q => ∀ (s : Shared) (H0 : Hp) (C : Addr) (cl : List (Str × Addr)) (fp : List Addr), sQ (X.blk s H0 scope (compEnvC scope cl C X.env) fp) ifs σ H Q
abbrev tEs (X : Cx) (scope : Scope) (elt : Expr) : TE := fun σ H Q => ∀ (s : Shared) (H0 : Hp) (C : Addr) (cl : List (Str × Addr)) (fp : List Addr), sE (X.blk s H0 scope (compEnvC scope cl C X.env) fp) elt σ H Q
/-- the turns of a comprehension -/
def LcD (X : Cx) (elt : Expr) (ifs : List Expr) (scope : Scope) (vs : List Nat) (g : TG) (Γ : SG) (n : Nat) (item : Nat → D) (ok : Gp → Prop) (G1 : Gp) (Z : List D → Gp → Prop) : Prop :=
  ∃ Iv : Nat → List D → Gp → Prop, Iv 0 [] G1 ∧ (∀ i acc G', i ≤ n → Iv i acc G' → ok G') ∧ n ≤ 100000 ∧
      (∀ i acc G', i < n → Iv i acc G' → ∃ us : List (Nat × D), (∀ u ∈ us, u.1 ∈ vs) ∧ TgS X.K G' g (item i) us ∧ ∀ (s : Shared) (H0 : Hp) (C : Addr) (cl : List (Str × Addr)) (fp : List Addr),
        QQ (X.blk s H0 scope (compEnvC scope cl C X.env) fp) ifs (setD (wipeD Γ vs) us) G' fun b G2 => if b = true then ∀ (s : Shared) (H0 : Hp) (C : Addr) (cl : List (Str × Addr)) (fp : List Addr),
          EE (X.blk s H0 scope (compEnvC scope cl C X.env) fp) elt (setD (wipeD Γ vs) us) G2 (fun d G3 => Iv (i + 1) (acc ++ [d]) G3) else Iv (i + 1) acc G2) ∧
      ∀ acc G', Iv n acc G' → Z acc G'
theorem lc_read {elt : Expr} {ifs : List Expr} {scope : Scope} {vs : List Nat} {g : TG} {σ : L2.St} {I H : Hp} {Q : VK} (rp : Rep X.K I Γ σ)
    (hwi : sN X tg iter σ H fun J H' => ∃ I1 G1 n item ok, HG X.K I1 H' G1 ∧ Stp I H G I1 H' G1 ∧ WalkD X.K I1 J n item ok ∧ LcD X elt ifs scope vs g Γ n item ok G1 fun acc G' =>
      ∀ I2 H2 Dl ws, HG X.K I2 H2 G' → Stp I H G I2 H2 G' → I2 Dl = none → G' Dl = none → H Dl = none → H2 Dl = some (.lst ws) → Iss X.K I2 acc ws → Q (.ref Dl) H2) :
    tLc (sN X tg iter) g (tQs X scope ifs) (tEs X scope elt) vs σ H Q := by
  refine hwi.imp fun J H1 ⟨I1, G1, n, item, ok, g1, s1, W, Iv, i0, iok, hn, it, iend⟩ => fun Dl hD => ?_
  have hDl : H Dl = none := Classical.byContradiction fun z => s1.alive Dl z hD
  obtain ⟨iD, gD⟩ := g1.fresh hD
  refine ⟨fun i m H' => m = n - i ∧ i ≤ n ∧ ∃ I' G' acc ws, HG X.K I' H' G' ∧ Stp I1 H1 G1 I' H' G' ∧ I' Dl = none ∧ G' Dl = none ∧ H' Dl = some (.lst ws) ∧ Iss X.K I' acc ws ∧ ws.length ≤ i ∧ Iv i acc G',
    ⟨n, by simp, Nat.zero_le _, I1, G1, [], [], (g1.newF hD _).1, (g1.newF hD _).2, iD, gD, upd_same, Iss.nil, Nat.le_refl _, i0⟩, ?_⟩
  rintro i m H' ⟨rfl, hi, I', G', acc, ws, g', s', iD', gD', hD', ia, hl, iv⟩
  by_cases hlt : i < n
  · refine .inr ⟨W.goes i I' H' G' hlt g' s'.ex (iok _ _ _ hi iv), fun H2 => ∃ I2 G2 acc ws, HG X.K I2 H2 G2 ∧ Stp I1 H1 G1 I2 H2 G2 ∧ I2 Dl = none ∧ G2 Dl = none ∧ H2 Dl = some (.lst ws) ∧ Iss X.K I2 acc ws ∧ ws.length ≤ i + 1 ∧ Iv (i + 1) acc G2,
      fun H2 z => ⟨n - (i + 1), by omega, rfl, hlt, z⟩, fun x H2 y => ?_⟩
    obtain ⟨I2, g2, s2, hx⟩ := W.yields i I' H' G' x H2 hlt g' s'.ex (iok _ _ _ hi iv) y
    obtain ⟨us, hus, t, hb⟩ := it i acc G' hlt iv
    refine t I2 H2 _ x _ g2 hx fun wv hw => ⟨?_, ?_⟩
    · have hwv : ∀ w ∈ wv, w.1 ∈ vs := by
        have : ∀ {us : List (Nat × D)} {wv : List (Nat × V)}, IsF X.K I2 us wv → (∀ u ∈ us, u.1 ∈ vs) → ∀ w ∈ wv, w.1 ∈ vs := by
          intro us
          induction us with
          | nil => intro wv h _ w hw; cases h; simp at hw
          | cons u us ih =>
            intro wv h hu w hw
            cases h with
            | cons z t =>
              rcases List.mem_cons.mp hw with e | e
              · rw [e, ← z.1]; exact hu u List.mem_cons_self
              · exact ih t (fun u hm => hu u (List.mem_cons_of_mem _ hm)) w e
        exact this hw hus
      rw [wipe_setV hwv, wipe_wipe]
    · have rp2 : Rep X.K I2 (setD (wipeD Γ vs) us) (setV (L2.wipe σ vs) wv) := Rep.setD hw ((rp.wipe vs).mono ((s1.ex.trans s'.ex).trans s2.ex))
      have step : ∀ {I3 H3 G3}, Stp I' H' G' I3 H3 G3 → I3 Dl = none ∧ G3 Dl = none ∧ H3 Dl = some (.lst ws) := fun {I3 H3 G3} s3 => by
        refine ⟨?_, ?_, s3.keep _ _ hD' gD'⟩
        · cases e : I3 Dl with
          | none => rfl
          | some o =>
            rcases s3.imf Dl (ne_none e) with q | q
            · exact absurd iD' q
            · rw [q] at hD'; cases hD'
        · cases e : G3 Dl with
          | none => rfl
          | some o =>
            rcases s3.own Dl (ne_none e) with q | q
            · exact absurd gD' q
            · rw [q] at hD'; cases hD'
      -- the tests: one context tells the answer, all are served
      intro s H0 C cl fp
      refine fun pins s0 Iv0 => thn (hb s H0 C cl fp _ I2 H2 rp2 g2 pins s0 Iv0) fun b s3 ⟨H3, Iv3, I3, G3, g3, s3', r3⟩ => ⟨H3, Iv3, ?_⟩
      cases b with
      | false =>
        rw [if_neg Bool.false_ne_true] at r3 ⊢
        have s23 : Stp I' H' G' I3 H3 G3 := s2.trans s3'
        obtain ⟨q1, q2, q3⟩ := step s23
        exact ⟨I3, G3, acc, ws, g3, s'.trans s23, q1, q2, q3, Iss.mono s23.ex _ ia, by omega, r3⟩
      | true =>
        rw [if_pos rfl] at r3 ⊢
        have s23 : Stp I' H' G' I3 H3 G3 := s2.trans s3'
        intro s H0 C cl fp
        refine (r3 s H0 C cl fp _ I3 H3 (rp2.mono s3'.ex) g3).imp fun yv H4 ⟨I4, G4, d, g4, s4, i4, r4⟩ => ?_
        have s24 : Stp I' H' G' I4 H4 G4 := s23.trans s4
        obtain ⟨q1, q2, q3⟩ := step s24
        refine ⟨ws, q3, ?_, I4, G4, acc ++ [d], ws ++ [yv], g4.mutF q1 q2, (s'.trans s24).mutF hD, q1, q2, upd_same, (Iss.mono s24.ex _ ia).append (Iss.one i4), by rw [List.length_append]; simp only [List.length_singleton]; omega, r4⟩
        exact Nat.lt_of_lt_of_le (show ws.length < 100001 by omega) (by decide)
  · have e : i = n := by omega
    subst e
    exact .inl ⟨W.stops I' H' G' g' s'.ex (iok _ _ _ hi iv), iend acc G' iv I' H' Dl ws g' (s1.trans s') iD' gD' hDl hD' ia⟩
theorem pts_all {scope : Scope} {ifs : List Expr} : ∀ (s : Shared) (H : Hp) (C : Addr) (cl : List (Str × Addr)) (fp : List Addr), PTs (X.blk s H scope (compEnvC scope cl C X.env) fp) ifs (tQs X scope ifs) :=
  fun s H C cl fp => ⟨fun pins s0 σ H' Q I h => h s H C cl fp pins s0 I⟩
theorem pe_all {scope : Scope} {elt : Expr} : ∀ (s : Shared) (H : Hp) (C : Addr) (cl : List (Str × Addr)) (fp : List Addr), PE (X.blk s H scope (compEnvC scope cl C X.env) fp) elt (tEs X scope elt) :=
  fun s H C cl fp => ⟨fun pins s0 σ H' Q I h => h s H C cl fp pins s0 I⟩
/-- behind a comprehension its list stays as it is -/
theorem lc_done {I H I2 H2 : Hp} {G G' : Gp} {Dl : Addr} {ws : List V} {acc : List D} (g2 : HG X.K I2 H2 G') (s2 : Stp I H G I2 H2 G') (iD : I2 Dl = none) (gD : G' Dl = none) (hD : H Dl = none) (h2 : H2 Dl = some (.lst ws)) (ia : Iss X.K I2 acc ws) :
    ∃ I3, HG X.K I3 H2 G' ∧ Stp I H G I3 H2 G' ∧ Is X.K I3 (.lst acc) (.ref Dl) := by
  refine ⟨upd I2 Dl (.lst ws), ⟨fun a u e => ?_, fun a m e => ?_⟩, ⟨s2.ex.trans (same_new iD), s2.keep, s2.own, fun a e => ?_, s2.alive⟩, Is.lst upd_same (Iss.mono (same_new iD) _ ia)⟩
  · by_cases q : a = Dl
    · subst q; rw [upd_same] at e; cases e; exact h2
    · rw [upd_ne q] at e; exact g2.sub _ _ e
  · obtain ⟨h1, u, h3, h4⟩ := g2.mu a m e
    exact ⟨by rw [upd_ne fun q => by rw [q, gD] at e; cases e]; exact h1, u, h3, h4.mono (same_new iD)⟩
  · by_cases q : a = Dl
    · rw [q]; exact .inr hD
    · rw [upd_ne q] at e; exact s2.imf a e
/-- .. or may change -/
theorem lc_doneM {I H I2 H2 : Hp} {G G' : Gp} {Dl : Addr} {ws : List V} {acc : List D} (g2 : HG X.K I2 H2 G') (s2 : Stp I H G I2 H2 G') (iD : I2 Dl = none) (gD : G' Dl = none) (hD : H Dl = none) (h2 : H2 Dl = some (.lst ws)) (ia : Iss X.K I2 acc ws) :
    HG X.K I2 H2 (gup G' Dl (.lst acc)) ∧ Stp I H G I2 H2 (gup G' Dl (.lst acc)) := by
  refine ⟨⟨g2.sub, fun a m e => ?_⟩, ⟨s2.ex, s2.keep, fun a e => ?_, s2.imf, s2.alive⟩⟩
  · by_cases q : a = Dl
    · subst q; rw [gup_same] at e; cases e; exact ⟨iD, _, h2, ws, rfl, ia⟩
    · rw [gup_ne q] at e; exact g2.mu a m e
  · by_cases q : a = Dl
    · rw [q]; exact .inr hD
    · rw [gup_ne q] at e; exact s2.own a e
section
variable {elt : Expr} {ifs : List Expr} {scope : Scope} {own : List (Str × Nat)} {g : TG} {R : D → Gp → Prop}
theorem e_lc (own : List (Str × Nat)) (hN : X.N.Nodup) (ok : BlkOk X.N X.env.scope scope own) (hg : ∀ (s : Shared) (H : Hp) (C : Addr) (cl : List (Str × Addr)) (fp : List Addr), PG (X.blk s H scope (compEnvC scope cl C X.env) fp) tg g)
    (h : NN X tg iter Γ G fun n item ok G1 => LcD X elt ifs scope (own.map (·.2)) g Γ n item ok G1 fun acc G' => R (.lst acc) G') (hc : X.calm = true := by rfl) (hs : ∀ x, foldedSetIterable iter X.env x = pure x := by intro _; rfl) : EE X (.ListComp elt [⟨tg, iter, ifs, 0⟩] scope pos) Γ G R := fun σ I H rp hG =>
  toE (pe_lc hc hN pn_s ok hg pts_all pe_all hs) (lc_read rp ((h σ I H rp hG).imp fun J H1 ⟨I1, G1, n, item, okk, g1, s1, W, Iv, i0, iok, hn, it, iend⟩ =>
    ⟨I1, G1, n, item, okk, g1, s1, W, Iv, i0, iok, hn, it, fun acc G' iv I2 H2 Dl ws g2 s2 iD gD hD h2 ia => let ⟨I3, g3, s3, i3⟩ := lc_done g2 s2 iD gD hD h2 ia; ⟨I3, G', _, g3, s3, i3, iend acc G' iv⟩⟩))
theorem e_lcM (own : List (Str × Nat)) (hN : X.N.Nodup) (ok : BlkOk X.N X.env.scope scope own) (hg : ∀ (s : Shared) (H : Hp) (C : Addr) (cl : List (Str × Addr)) (fp : List Addr), PG (X.blk s H scope (compEnvC scope cl C X.env) fp) tg g)
    (h : NN X tg iter Γ G fun n item ok G1 => LcD X elt ifs scope (own.map (·.2)) g Γ n item ok G1 fun acc G' => ∀ p, G' p = none → R (.ref p) (gup G' p (.lst acc))) (hc : X.calm = true := by rfl) (hs : ∀ x, foldedSetIterable iter X.env x = pure x := by intro _; rfl) : EE X (.ListComp elt [⟨tg, iter, ifs, 0⟩] scope pos) Γ G R := fun σ I H rp hG =>
  toE (pe_lc hc hN pn_s ok hg pts_all pe_all hs) (lc_read rp ((h σ I H rp hG).imp fun J H1 ⟨I1, G1, n, item, okk, g1, s1, W, Iv, i0, iok, hn, it, iend⟩ =>
    ⟨I1, G1, n, item, okk, g1, s1, W, Iv, i0, iok, hn, it, fun acc G' iv I2 H2 Dl ws g2 s2 iD gD hD h2 ia => let z := lc_doneM g2 s2 iD gD hD h2 ia; ⟨I2, _, .ref Dl, z.1, z.2, Is.ref, iend acc G' iv Dl gD⟩⟩))
theorem s_setLc (i : Nat) (own : List (Str × Nat)) {y : Str} {py spos : Pos} (hN : X.N.Nodup) (ok : BlkOk X.N X.env.scope scope own) (hg : ∀ (s : Shared) (H : Hp) (C : Addr) (cl : List (Str × Addr)) (fp : List Addr), PG (X.blk s H scope (compEnvC scope cl C X.env) fp) tg g)
    (hsw : swapsWith (.ListComp elt [⟨tg, iter, ifs, 0⟩] scope pos) (some (.Name y py)) spos.line X.env = pure true)
    (h : NN X tg iter Γ G fun n item ok G1 => LcD X elt ifs scope (own.map (·.2)) g Γ n item ok G1 fun acc G' => k.nx (Γ.set i (some (.lst acc))) G') (hy : X.N[i]? = some y := by rfl) (hyl : X.env.scope.names.lookup y = some .local := by rfl)
    (hc : X.calm = true := by rfl) (hs : ∀ x, foldedSetIterable iter X.env x = pure x := by intro _; rfl) : SS X (.Assign [.Name y py] (.ListComp elt [⟨tg, iter, ifs, 0⟩] scope pos) spos) Γ G k := fun σ I H rp hG =>
  toS (ps_setLc (i := i) hc hN hy hyl hsw pn_s ok hg pts_all pe_all hs) (lc_read rp ((h σ I H rp hG).imp fun J H1 ⟨I1, G1, n, item, okk, g1, s1, W, Iv, i0, iok, hn, it, iend⟩ =>
    ⟨I1, G1, n, item, okk, g1, s1, W, Iv, i0, iok, hn, it, fun acc G' iv I2 H2 Dl ws g2 s2 iD gD hD h2 ia => let ⟨I3, g3, s3, i3⟩ := lc_done g2 s2 iD gD hD h2 ia; ⟨I3, _, G', (rp.mono s3.ex).set i3, g3, s3, iend acc G' iv⟩⟩))
theorem s_setLcM (i : Nat) (own : List (Str × Nat)) {y : Str} {py spos : Pos} (hN : X.N.Nodup) (ok : BlkOk X.N X.env.scope scope own) (hg : ∀ (s : Shared) (H : Hp) (C : Addr) (cl : List (Str × Addr)) (fp : List Addr), PG (X.blk s H scope (compEnvC scope cl C X.env) fp) tg g)
    (hsw : swapsWith (.ListComp elt [⟨tg, iter, ifs, 0⟩] scope pos) (some (.Name y py)) spos.line X.env = pure true)
    (h : NN X tg iter Γ G fun n item ok G1 => LcD X elt ifs scope (own.map (·.2)) g Γ n item ok G1 fun acc G' => ∀ p, G' p = none → k.nx (Γ.set i (some (.ref p))) (gup G' p (.lst acc))) (hy : X.N[i]? = some y := by rfl) (hyl : X.env.scope.names.lookup y = some .local := by rfl)
    (hc : X.calm = true := by rfl) (hs : ∀ x, foldedSetIterable iter X.env x = pure x := by intro _; rfl) : SS X (.Assign [.Name y py] (.ListComp elt [⟨tg, iter, ifs, 0⟩] scope pos) spos) Γ G k := fun σ I H rp hG =>
  toS (ps_setLc (i := i) hc hN hy hyl hsw pn_s ok hg pts_all pe_all hs) (lc_read rp ((h σ I H rp hG).imp fun J H1 ⟨I1, G1, n, item, okk, g1, s1, W, Iv, i0, iok, hn, it, iend⟩ =>
    ⟨I1, G1, n, item, okk, g1, s1, W, Iv, i0, iok, hn, it, fun acc G' iv I2 H2 Dl ws g2 s2 iD gD hD h2 ia => let z := lc_doneM g2 s2 iD gD hD h2 ia; ⟨I2, _, _, (rp.mono s2.ex).set Is.ref, z.1, z.2, iend acc G' iv Dl gD⟩⟩))
end
end
/-! ### what is walked: lists, tuples, ranges, pairs -/
/-- d is a list of these: one that stays, or one that may change, as it is now -/
inductive Lv (G : Gp) : D → List D → Prop
  | lst {ds : List D} : Lv G (.lst ds) ds
  | ref {p : Addr} {ds : List D} (h : G p = some (.lst ds)) : Lv G (.ref p) ds
theorem Lv.at {K : PySem.W.Frag} {I H : Hp} {G : Gp} {d : D} {ds : List D} {v : V} (l : Lv G d ds) (g : HG K I H G) (i : Is K I d v) : ∃ a xs, v = .ref a ∧ H a = some (.lst xs) ∧ Iss K I ds xs := by
  cases l with
  | lst =>
    obtain ⟨a, xs, e, h1, h2⟩ := i.lst_eq
    exact ⟨a, xs, e, g.sub _ _ h1, h2⟩
  | ref h =>
    obtain ⟨_, o, h1, xs, rfl, h2⟩ := g.mu _ _ h
    exact ⟨_, xs, i.ref_eq, h1, h2⟩
/-- d is a tuple of these -/
inductive Tv : D → List D → Prop
  | tup {ds : List D} : Tv (.tup ds) ds
  | ktp {ds : List D} : Tv (.ktp ds) ds
theorem Tv.at {K : PySem.W.Frag} {I H : Hp} {G : Gp} {d : D} {ds : List D} {v : V} (l : Tv d ds) (g : HG K I H G) (i : Is K I d v) : ∃ a xs, v = .ref a ∧ SqT K H a xs ∧ Iss K I ds xs := by
  cases l with
  | tup =>
    obtain ⟨a, xs, e, h1, h2⟩ := i.tup_eq
    exact ⟨a, xs, e, same_t g.sub h1, h2⟩
  | ktp =>
    obtain ⟨a, xs, e, h1, h2⟩ := i.ktp_eq
    exact ⟨a, xs, e, SqT.of (g.sub _ _ h1), h2⟩
def at0 (ds : List D) (i : Nat) : D := ds.getD i .non
theorem at0_some {ds : List D} {i : Nat} {d : D} (h : ds[i]? = some d) : at0 ds i = d := by unfold at0; rw [List.getD_eq_getElem?_getD, h]; rfl
section
variable {K : PySem.W.Frag} {I0 : Hp}
theorem walkD_list {a : Addr} {ds : List D} {ok : Gp → Prop} (h : ∀ I H G, HG K I H G → Same I0 I → ok G → ∃ xs, H a = some (.lst xs) ∧ Iss K I ds xs) : WalkD K I0 (Itl K a) ds.length (at0 ds) ok where
  goes := fun i I H G hi g e o => by
    obtain ⟨xs, h1, h2⟩ := h I H G g e o
    exact ⟨xs, xs[i]'(by rw [← h2.len]; exact hi), SqL.of h1, by simp [show i < xs.length by rw [← h2.len]; exact hi]⟩
  stops := fun I H G g e o => by
    obtain ⟨xs, h1, h2⟩ := h I H G g e o
    exact ⟨xs, SqL.of h1, by rw [h2.len]; exact Nat.le_refl _⟩
  yields := fun i I H G x H' hi g e o y => by
    obtain ⟨xs, h1, h2⟩ := h I H G g e o
    obtain ⟨rfl, y⟩ := y
    obtain ⟨d, e1, e2⟩ := h2.getV (y xs (SqL.of h1))
    exact ⟨I, g, Stp.refl, by rw [at0_some e1]; exact e2⟩
theorem walkD_tup {a : Addr} {ds : List D} (h : ∀ I H G, HG K I H G → Same I0 I → ∃ xs, SqT K H a xs ∧ Iss K I ds xs) : WalkD K I0 (Itt K a) ds.length (at0 ds) (fun _ => True) where
  goes := fun i I H G hi g e o => by
    obtain ⟨xs, h1, h2⟩ := h I H G g e
    exact ⟨xs, xs[i]'(by rw [← h2.len]; exact hi), h1, by simp [show i < xs.length by rw [← h2.len]; exact hi]⟩
  stops := fun I H G g e o => by
    obtain ⟨xs, h1, h2⟩ := h I H G g e
    exact ⟨xs, h1, by rw [h2.len]; exact Nat.le_refl _⟩
  yields := fun i I H G x H' hi g e o y => by
    obtain ⟨xs, h1, h2⟩ := h I H G g e
    obtain ⟨rfl, y⟩ := y
    obtain ⟨d, e1, e2⟩ := h2.getV (y xs h1)
    exact ⟨I, g, Stp.refl, by rw [at0_some e1]; exact e2⟩
theorem walkD_range {lo : Int} {n : Nat} : WalkD K I0 (Itr lo n) n (fun i => .int (lo + (i : Nat))) (fun _ => True) where
  goes := fun i I H G hi g e o => hi
  stops := fun I H G g e o => Nat.le_refl _
  yields := fun i I H G x H' hi g e o y => by
    obtain ⟨rfl, rfl⟩ := y
    exact ⟨I, g, Stp.refl, Is.int⟩
theorem walkD_rangeC {lo c : Int} {n : Nat} : WalkD K I0 (Itc lo c n) n (fun i => .int (lo + (i : Nat) * c)) (fun _ => True) where
  goes := fun i I H G hi g e o => hi
  stops := fun I H G g e o => Nat.le_refl _
  yields := fun i I H G x H' hi g e o y => by
    obtain ⟨rfl, rfl⟩ := y
    exact ⟨I, g, Stp.refl, Is.int⟩
theorem walkD_str {z : Str} : WalkD K I0 (Its z) z.cps.size (fun i => .str ⟨#[z.cps.getD i 0]⟩) (fun _ => True) where
  goes := fun i I H G hi g e o => hi
  stops := fun I H G g e o => Nat.le_refl _
  yields := fun i I H G x H' hi g e o y => by
    obtain ⟨rfl, c, hc, rfl⟩ := y
    refine ⟨I, g, Stp.refl, ?_⟩
    rw [show z.cps.getD i 0 = c by rw [Array.getD_eq_getD_getElem?, hc]; rfl]
    exact Is.str
theorem pair_new {I H : Hp} {G : Gp} {T : Addr} {x y : V} {d e : D} (g : HG K I H G) (hT : H T = none) (i1 : Is K I d x) (i2 : Is K I e y) : ∃ I', HG K I' (upd H T (.tup [x, y])) G ∧ Stp I H G I' (upd H T (.tup [x, y])) G ∧ Is K I' (.tup [d, e]) (.ref T) :=
  let z := g.newI hT (.tup [x, y])
  ⟨_, z.1, z.2, Is.tup upd_same (Iss.cons (Is.mono z.2.ex _ i1) (Iss.cons (Is.mono z.2.ex _ i2) Iss.nil))⟩
theorem walkD_enum {a : Addr} {ds : List D} {ok : Gp → Prop} (h : ∀ I H G, HG K I H G → Same I0 I → ok G → ∃ xs, H a = some (.lst xs) ∧ Iss K I ds xs) : WalkD K I0 (Ite K a) ds.length (fun i => .tup [.int (i : Nat), at0 ds i]) ok where
  goes := fun i I H G hi g e o => by
    obtain ⟨xs, h1, h2⟩ := h I H G g e o
    exact ⟨xs, xs[i]'(by rw [← h2.len]; exact hi), SqL.of h1, by simp [show i < xs.length by rw [← h2.len]; exact hi]⟩
  stops := fun I H G g e o => by
    obtain ⟨xs, h1, h2⟩ := h I H G g e o
    exact ⟨xs, SqL.of h1, by rw [h2.len]; exact Nat.le_refl _⟩
  yields := fun i I H G x H' hi g e o y => by
    obtain ⟨xs, h1, h2⟩ := h I H G g e o
    obtain ⟨T, x, rfl, hT, rfl, y⟩ := y
    obtain ⟨d, e1, e2⟩ := h2.getV (y xs (SqL.of h1))
    rw [at0_some e1]
    exact pair_new g hT Is.int e2
theorem walkD_zip {a b : Addr} {ds es : List D} {ok : Gp → Prop} (h : ∀ I H G, HG K I H G → Same I0 I → ok G → (∃ xs, H a = some (.lst xs) ∧ Iss K I ds xs) ∧ ∃ ys, H b = some (.lst ys) ∧ Iss K I es ys) : WalkD K I0 (Itz K a b) (min ds.length es.length) (fun i => .tup [at0 ds i, at0 es i]) ok where
  goes := fun i I H G hi g e o => by
    obtain ⟨⟨xs, h1, h2⟩, ys, h3, h4⟩ := h I H G g e o
    have l1 : i < xs.length := by rw [← h2.len]; omega
    have l2 : i < ys.length := by rw [← h4.len]; omega
    exact ⟨xs, ys, xs[i], ys[i], SqL.of h1, SqL.of h3, by simp [l1], by simp [l2]⟩
  stops := fun I H G g e o => by
    obtain ⟨⟨xs, h1, h2⟩, ys, h3, h4⟩ := h I H G g e o
    exact ⟨xs, ys, SqL.of h1, SqL.of h3, by rw [← h2.len, ← h4.len]; omega⟩
  yields := fun i I H G x H' hi g e o y => by
    obtain ⟨⟨xs, h1, h2⟩, ys, h3, h4⟩ := h I H G g e o
    obtain ⟨T, x, z, rfl, hT, rfl, y1, y2⟩ := y
    obtain ⟨d, e1, e2⟩ := h2.getV (y1 xs (SqL.of h1))
    obtain ⟨d', e3, e4⟩ := h4.getV (y2 ys (SqL.of h3))
    rw [at0_some e1, at0_some e3]
    exact pair_new g hT e2 e4
end
section
variable {X : Cx} {Γ : SG} {G : Gp} {tg e a b c : Expr} {pos p : Pos} {R : Nat → (Nat → D) → (Gp → Prop) → Gp → Prop}
/-- how long a list stands: one that stays always, one that may change while it is so -/
def Lok (d : D) (ds : List D) : Gp → Prop := match d with
  | .ref p => fun G => G p = some (.lst ds)
  | _ => fun _ => True
theorem lok_now {d : D} {ds : List D} (l : Lv G d ds) : Lok d ds G := by
  cases l with
  | lst => trivial
  | ref h => exact h
theorem Lv.stand {K : PySem.W.Frag} {I0 H0 : Hp} {d : D} {ds : List D} {a : Addr} {xs : List V} (l : Lv G d ds) (g : HG K I0 H0 G) (i : Is K I0 d (.ref a)) (I H : Hp) (G' : Gp) (g' : HG K I H G') (e : Same I0 I) (o : Lok d ds G') : ∃ xs, H a = some (.lst xs) ∧ Iss K I ds xs := by
  cases l with
  | lst =>
    obtain ⟨b, ys, h0, h1, h2⟩ := i.lst_eq
    cases h0
    exact ⟨ys, g'.sub _ _ (e _ _ h1), Iss.mono e _ h2⟩
  | @ref q _ h =>
    have hq : (.ref a : V) = .ref q := i.ref_eq
    cases hq
    obtain ⟨_, o, h1, xs, rfl, h2⟩ := g'.mu _ _ (show G' a = some (.lst ds) from o)
    exact ⟨xs, h1, h2⟩
theorem n_list (h : EE X e Γ G fun d G1 => ∃ ds, Lv G1 d ds ∧ R ds.length (at0 ds) (Lok d ds) G1) : NN X tg e Γ G R := fun σ I H rp hg =>
  toN (pi_list pe_s) ((h σ I H rp hg).imp fun x H1 ⟨I1, G1, d, g1, s1, i1, ds, l, r⟩ => by
    obtain ⟨a, xs, rfl, h1, h2⟩ := l.at g1 i1
    exact ⟨a, rfl, ⟨xs, SqL.of h1⟩, I1, G1, _, _, _, g1, s1, walkD_list fun I2 H2 G2 g2 e2 o2 => l.stand (xs := xs) g1 i1 I2 H2 G2 g2 e2 o2, r⟩)
theorem n_tup (h : EE X e Γ G fun d G1 => ∃ ds, Tv d ds ∧ R ds.length (at0 ds) (fun _ => True) G1) : NN X tg e Γ G R := fun σ I H rp hg =>
  toN (pi_tup pe_s) ((h σ I H rp hg).imp fun x H1 ⟨I1, G1, d, g1, s1, i1, ds, l, r⟩ => by
    obtain ⟨a, xs, rfl, h1, h2⟩ := l.at g1 i1
    refine ⟨a, rfl, ⟨xs, h1⟩, I1, G1, _, _, _, g1, s1, walkD_tup fun I2 H2 G2 g2 e2 => ?_, r⟩
    obtain ⟨b, ys, e3, h3, h4⟩ := l.at g2 (Is.mono e2 _ i1)
    cases e3
    exact ⟨ys, h3, h4⟩)
theorem n_str (h : EE X e Γ G fun d G1 => ∃ z, d = .str z ∧ R z.cps.size (fun i => .str ⟨#[z.cps.getD i 0]⟩) (fun _ => True) G1) : NN X tg e Γ G R := fun σ I H rp hg =>
  toN (pi_str pe_s) ((h σ I H rp hg).imp fun x H1 ⟨I1, G1, d, g1, s1, i1, z, ed, r⟩ => by
    subst ed
    exact ⟨z, i1.str_eq, I1, G1, _, _, _, g1, s1, walkD_str, r⟩)
theorem n_range1 (hm : X.mg "range" = none) (h : EE X a Γ G fun d G1 => ∃ j, d = .int j ∧ -(2 ^ 62) ≤ j ∧ j < 2 ^ 62 ∧ R j.toNat (fun i => .int (i : Nat)) (fun _ => True) G1) (hg : Gl X "range" := by rfl) (hs : starEach [a] X.env = [(false, eval a X.env)] := by rfl) :
    NN X tg (.Call (.Name "range" p) [a] [] pos) Γ G R := fun σ I H rp hG =>
  toN (pi_range1 hg hm pa_s hs) ((a_cons (X := X) (R := fun ds G1 => ∃ j, ds = [.int j] ∧ -(2 ^ 62) ≤ j ∧ j < 2 ^ 62 ∧ R j.toNat (fun i => .int (i : Nat)) (fun _ => True) G1) (h.imp fun d G1 ⟨j, ed, q⟩ => a_nil ⟨j, by rw [ed], q⟩) hs σ I H rp hG).imp fun vs H1 ⟨I1, G1, ds, g1, s1, i1, j, ed, h1, h2, r⟩ => by
    subst ed
    obtain ⟨v, r', rfl, q1, q2⟩ := i1.uncons
    rw [q2.nil_eq, q1.int_eq]
    refine ⟨j, rfl, h1, h2, I1, G1, _, _, _, g1, s1, ?_, r⟩
    have w := walkD_range (K := X.K) (I0 := I1) (lo := 0) (n := j.toNat)
    have e : (fun i : Nat => D.int (0 + (i : Int))) = fun i : Nat => D.int (i : Int) := by funext i; rw [Int.zero_add]
    rw [e] at w
    exact w)
theorem n_range2 (hm : X.mg "range" = none) (h : AA X [a, b] Γ G fun ds G1 => ∃ i j, ds = [.int i, .int j] ∧ (-(2 ^ 62) ≤ i ∧ i < 2 ^ 62 ∧ -(2 ^ 62) ≤ j ∧ j < 2 ^ 62) ∧ R (j - i).toNat (fun n => .int (i + (n : Nat))) (fun _ => True) G1) (hg : Gl X "range" := by rfl)
    (hs : starEach [a, b] X.env = [(false, eval a X.env), (false, eval b X.env)] := by rfl) (hs2 : starEach [b] X.env = [(false, eval b X.env)] := by rfl) : NN X tg (.Call (.Name "range" p) [a, b] [] pos) Γ G R := fun σ I H rp hG =>
  toN (pi_range2 hg hm pa_s hs hs2) ((h σ I H rp hG).imp fun vs H1 ⟨I1, G1, ds, g1, s1, i1, i, j, ed, h1, r⟩ => by
    subst ed
    obtain ⟨v, r', rfl, q1, q2⟩ := i1.uncons
    obtain ⟨v2, r2, rfl, q3, q4⟩ := q2.uncons
    rw [q4.nil_eq, q1.int_eq, q3.int_eq]
    exact ⟨i, j, rfl, h1, I1, G1, _, _, _, g1, s1, walkD_range, r⟩)
theorem n_range3 (hm : X.mg "range" = none) (h : AA X [a, b, c] Γ G fun ds G1 => ∃ i j l, ∃ n : Nat, ds = [.int i, .int j, .int l] ∧ RgC i j l n ∧ R n (fun m => .int (i + (m : Nat) * l)) (fun _ => True) G1) (hg : Gl X "range" := by rfl)
    (hs : starEach [a, b, c] X.env = (false, eval a X.env) :: starEach [b, c] X.env := by rfl) (hpl : (backTo pos (starEach [b, c] X.env)).any (·.1) = false := by rfl) : NN X tg (.Call (.Name "range" p) [a, b, c] [] pos) Γ G R := fun σ I H rp hG =>
  toN (pi_range3 hg hm pa_s hs hpl) ((h σ I H rp hG).imp fun vs H1 ⟨I1, G1, ds, g1, s1, i1, i, j, l, n, ed, h1, r⟩ => by
    subst ed
    obtain ⟨v, r', rfl, q1, q2⟩ := i1.uncons
    obtain ⟨v2, r2, rfl, q3, q4⟩ := q2.uncons
    obtain ⟨v3, r3, rfl, q5, q6⟩ := q4.uncons
    rw [q6.nil_eq, q1.int_eq, q3.int_eq, q5.int_eq]
    exact ⟨i, j, l, n, rfl, h1, I1, G1, _, _, _, g1, s1, walkD_rangeC, r⟩)
theorem n_enum {elts : List Expr} {kk : Nat} {tpos : Pos} (hm : X.mg "enumerate" = none) (h : EE X a Γ G fun d G1 => ∃ ds, Lv G1 d ds ∧ R ds.length (fun i => .tup [.int (i : Nat), at0 ds i]) (Lok d ds) G1) (hg : Gl X "enumerate" := by rfl) (hs : starEach [a] X.env = [(false, eval a X.env)] := by rfl) :
    NN X (.Tuple elts kk tpos) (.Call (.Name "enumerate" p) [a] [] pos) Γ G R := fun σ I H rp hG =>
  toN (pi_enum hg hm pa_s hs) ((a_cons (X := X) (R := fun ds G1 => ∃ d es, ds = [d] ∧ Lv G1 d es ∧ R es.length (fun i => .tup [.int (i : Nat), at0 es i]) (Lok d es) G1) (h.imp fun d G1 ⟨es, l, q⟩ => a_nil ⟨d, es, rfl, l, q⟩) hs σ I H rp hG).imp fun vs H1 ⟨I1, G1, ds, g1, s1, i1, d, es, ed, l, r⟩ => by
    subst ed
    obtain ⟨v, r', rfl, q1, q2⟩ := i1.uncons
    obtain ⟨a, xs, rfl, h1, h2⟩ := l.at g1 q1
    rw [q2.nil_eq]
    exact ⟨a, xs, rfl, SqL.of h1, I1, G1, _, _, _, g1, s1, walkD_enum fun I2 H2 G2 g2 e2 o2 => l.stand (xs := xs) g1 q1 I2 H2 G2 g2 e2 o2, r⟩)
theorem n_zip {elts : List Expr} {kk : Nat} {tpos : Pos} (hm : X.mg "zip" = none) (h : AA X [a, b] Γ G fun zs G1 => ∃ d e ds es, zs = [d, e] ∧ Lv G1 d ds ∧ Lv G1 e es ∧ R (min ds.length es.length) (fun i => .tup [at0 ds i, at0 es i]) (fun G => Lok d ds G ∧ Lok e es G) G1) (hg : Gl X "zip" := by rfl)
    (hs : starEach [a, b] X.env = (false, eval a X.env) :: starEach [b] X.env := by rfl) (hpl : (backTo pos (starEach [b] X.env)).any (·.1) = false := by rfl) : NN X (.Tuple elts kk tpos) (.Call (.Name "zip" p) [a, b] [] pos) Γ G R := fun σ I H rp hG =>
  toN (pi_zip hg hm pa_s hs hpl) ((h σ I H rp hG).imp fun vs H1 ⟨I1, G1, zs, g1, s1, i1, d, e, ds, es, ed, l1, l2, r⟩ => by
    subst ed
    obtain ⟨v, r', rfl, q1, q2⟩ := i1.uncons
    obtain ⟨v2, r2, rfl, q3, q4⟩ := q2.uncons
    obtain ⟨a, xs, rfl, h1, h2⟩ := l1.at g1 q1
    obtain ⟨b, ys, rfl, h3, h4⟩ := l2.at g1 q3
    rw [q4.nil_eq]
    exact ⟨a, b, xs, ys, rfl, SqL.of h1, SqL.of h3, I1, G1, _, _, _, g1, s1, walkD_zip fun I2 H2 G2 g2 e2 o2 => ⟨l1.stand (xs := xs) g1 q1 I2 H2 G2 g2 e2 o2.1, l2.stand (xs := ys) g1 q3 I2 H2 G2 g2 e2 o2.2⟩, r⟩)
end
end J
namespace J
open PySem PySem.Spec PyProof.Rows L2

section
variable {X : Cx} {Γ : SG} {G : Gp} {R : D → Gp → Prop} {d e : D} {ds es : List D} {i j : Int}
/-! ### ints -/
theorem oo_I0 {f : Value → Value → Sem Value} {g : Int → Int → V} {z : D} (p : OpR X f (rI0 g)) (hz : ∀ I, Is X.K I z (g i j)) (r : R z G) : OO X f (.int i) (.int j) G R := fun I H x y hg hx hy => toO p ⟨i, j, hx.int_eq, hy.int_eq, Po.here hg (hz I) r⟩
theorem oo_I {f : Value → Value → Sem Value} {C : Int → Int → Prop} {g : Int → Int → V} {z : D} (p : OpR X f (rI C g)) (hc : C i j) (hz : ∀ I, Is X.K I z (g i j)) (r : R z G) : OO X f (.int i) (.int j) G R := fun I H x y hg hx hy => toO p ⟨i, j, hx.int_eq, hy.int_eq, hc, Po.here hg (hz I) r⟩
theorem o_add (r : R (.int (i + j)) G) : OO X (binaryOp .Add) (.int i) (.int j) G R := oo_I0 op_add (fun _ => Is.int) r
theorem o_sub (r : R (.int (i - j)) G) : OO X (binaryOp .Sub) (.int i) (.int j) G R := oo_I0 op_sub (fun _ => Is.int) r
theorem o_mul (hc : CMul i j) (r : R (.int (i * j)) G) : OO X (binaryOp .Mult) (.int i) (.int j) G R := oo_I op_mul hc (fun _ => Is.int) r
theorem o_mod (hc : j ≠ 0) (r : R (.int (i.fmod j)) G) : OO X (binaryOp .Mod) (.int i) (.int j) G R := oo_I op_modN hc (fun _ => Is.int) r
theorem o_fdiv (hc : CDivN i j) (r : R (.int (i.fdiv j)) G) : OO X (binaryOp .FloorDiv) (.int i) (.int j) G R := oo_I op_fdivN hc (fun _ => Is.int) r
theorem o_pow (hc : CPow i j) (r : R (.int (i ^ j.toNat)) G) : OO X (binaryOp .Pow) (.int i) (.int j) G R := oo_I op_pow hc (fun _ => Is.int) r
theorem o_shl (hc : CPow i j) (r : R (.int (i * 2 ^ j.toNat)) G) : OO X (binaryOp .LShift) (.int i) (.int j) G R := oo_I op_shl hc (fun _ => Is.int) r
theorem o_shr (hc : 0 ≤ j) (r : R (.int (i / 2 ^ j.toNat)) G) : OO X (binaryOp .RShift) (.int i) (.int j) G R := oo_I op_shr hc (fun _ => Is.int) r
theorem o_and (r : R (.int (Builtin.bitAnd i j)) G) : OO X (binaryOp .BitAnd) (.int i) (.int j) G R := oo_I0 op_and (fun _ => Is.int) r
theorem o_or (r : R (.int (Builtin.bitOr i j)) G) : OO X (binaryOp .BitOr) (.int i) (.int j) G R := oo_I0 op_or (fun _ => Is.int) r
theorem o_lt (r : R (.bl (decide (i < j))) G) : OO X (compareOp .Lt) (.int i) (.int j) G R := oo_I0 op_lt (fun _ => Is.bl) r
theorem o_le (r : R (.bl (decide (i ≤ j))) G) : OO X (compareOp .LtE) (.int i) (.int j) G R := oo_I0 op_le (fun _ => Is.bl) r
theorem o_gt (r : R (.bl (decide (j < i))) G) : OO X (compareOp .Gt) (.int i) (.int j) G R := oo_I0 op_gt (fun _ => Is.bl) r
theorem o_ge (r : R (.bl (decide (j ≤ i))) G) : OO X (compareOp .GtE) (.int i) (.int j) G R := oo_I0 op_ge (fun _ => Is.bl) r
/-! ### texts, tuples, lists -/
theorem o_addS {a b : Str} (hl : a.length + b.length ≤ sizeLine) (r : R (.str (a ++ b)) G) : OO X (binaryOp .Add) (.str a) (.str b) G R := fun I H x y hg hx hy => toO op_add_str ⟨a, b, hx.str_eq, hy.str_eq, hl, Po.here hg Is.str r⟩
theorem o_catT (h0 : ds ≠ []) (hl : ds.length + es.length ≤ 100000) (r : R (.tup (ds ++ es)) G) : OO X (binaryOp .Add) (.tup ds) (.tup es) G R := fun I H x y hg hx hy => by
  obtain ⟨a, xs, rfl, h1, h2⟩ := hx.tup_eq
  obtain ⟨b, ys, rfl, h3, h4⟩ := hy.tup_eq
  have n0 : xs ≠ [] := fun q => by
    rw [q] at h2
    exact h0 (List.length_eq_zero_iff.mp h2.len)
  refine toO op_catA ⟨a, b, xs, ys, rfl, rfl, same_t hg.sub h1, same_t hg.sub h3, ?_, fun q => absurd q n0, fun _ q => ?_, fun _ _ p hp => ?_⟩
  · rw [← h2.len, ← h4.len]; exact Nat.le_trans hl (by decide)
  · subst q
    have e : es = [] := List.length_eq_zero_iff.mp h4.len
    subst e
    rw [List.append_nil] at r
    exact Po.here hg hx r
  · have z := hg.newI hp (.tup (xs ++ ys))
    exact ⟨_, G, _, z.1, z.2, Is.tup upd_same (Iss.mono z.2.ex _ (h2.append h4)), r⟩
theorem o_cat {d e : D} (l1 : Lv G d ds) (l2 : Lv G e es) (hl : ds.length + es.length ≤ 100000) (r : R (.lst (ds ++ es)) G) : OO X (binaryOp .Add) d e G R := fun I H x y hg hx hy => by
  obtain ⟨a, xs, rfl, h1, h2⟩ := l1.at hg hx
  obtain ⟨b, ys, rfl, h3, h4⟩ := l2.at hg hy
  refine toO op_cat ⟨a, b, xs, ys, rfl, rfl, h1, h3, by rw [← h2.len, ← h4.len]; exact Nat.le_trans hl (by decide), fun p hp => ?_⟩
  have z := hg.newI hp (.lst (xs ++ ys))
  exact ⟨_, G, _, z.1, z.2, Is.lst upd_same (Iss.mono z.2.ex _ (h2.append h4)), r⟩
theorem Iss.rep {K : PySem.W.Frag} {I : Hp} {x : D} {v : V} (h : Is K I x v) : ∀ n : Nat, Iss K I (List.replicate n x) (List.replicate n v)
  | 0 => Iss.nil
  | n + 1 => Iss.cons h (Iss.rep h n)
/-- [x] * n -/
theorem o_rep1 {x : D} {n : Int} (hn : 0 ≤ n ∧ n ≤ 100000) (r : R (.lst (List.replicate n.toNat x)) G) : OO X (binaryOp .Mult) (.lst [x]) (.int n) G R := fun I H v y hg hx hy => by
  obtain ⟨a, xs, rfl, h1, h2⟩ := hx.lst_eq
  obtain ⟨v0, r0, rfl, h3, h4⟩ := h2.uncons
  rw [h4.nil_eq] at h1
  refine toO op_rep ⟨a, n, [v0], rfl, hy.int_eq, hg.sub _ _ h1, by omega, by omega, ?_, ?_⟩
  · rw [List.length_singleton, Nat.one_mul]; exact Nat.le_trans (show n.toNat ≤ 100000 by omega) (by decide)
  · intro p hp
    have z := hg.newI hp (.lst (List.replicate n.toNat [v0]).flatten)
    refine ⟨_, G, _, z.1, z.2, Is.lst upd_same (Iss.mono z.2.ex _ ?_), r⟩
    rw [show (List.replicate n.toNat [v0]).flatten = List.replicate n.toNat v0 by
      generalize n.toNat = m
      induction m with
      | zero => rfl
      | succ m ih => rw [List.replicate_succ, List.flatten_cons, ih, List.replicate_succ]; rfl]
    exact Iss.rep h3 _
/-! ### ==, is, in -/
/-- a scalar's value -/
def fv : D → Option V
  | .non => some .non
  | .bl b => some (.bl b)
  | .int i => some (.int i)
  | .str x => some (.str x)
  | _ => none
theorem fv_eq {K : PySem.W.Frag} {I : Hp} {d : D} {x v : V} (h : fv d = some x) (i : Is K I d v) : v = x := by
  cases d with
  | non => cases h; exact i.non_eq
  | bl b => cases h; exact i.bl_eq
  | int b => cases h; exact i.int_eq
  | str b => cases h; exact i.str_eq
  | _ => cases h
theorem o_eq {x y : V} (r : R (.bl (decide (x = y))) G) (h1 : fv d = some x := by rfl) (h2 : fv e = some y := by rfl) (hs : scal x y = true := by rfl) : OO X (compareOp .Eq) d e G R := fun I H v w hg hx hy => by
  rw [fv_eq h1 hx, fv_eq h2 hy]
  exact toO op_eq ⟨hs, Po.here hg Is.bl r⟩
theorem o_ne {x y : V} (r : R (.bl (!decide (x = y))) G) (h1 : fv d = some x := by rfl) (h2 : fv e = some y := by rfl) (hs : scal x y = true := by rfl) : OO X (compareOp .NotEq) d e G R := fun I H v w hg hx hy => by
  rw [fv_eq h1 hx, fv_eq h2 hy]
  exact toO op_ne ⟨hs, Po.here hg Is.bl r⟩
theorem dV_int {a b : Int} : decide (V.int a = V.int b) = decide (a = b) := by by_cases h : a = b <;> simp [h]
theorem dV_str {a b : Str} : decide (V.str a = V.str b) = decide (a = b) := by by_cases h : a = b <;> simp [h]
theorem o_eqI (r : R (.bl (decide (i = j))) G) : OO X (compareOp .Eq) (.int i) (.int j) G R := o_eq (by rw [dV_int]; exact r)
theorem o_neI (r : R (.bl (!decide (i = j))) G) : OO X (compareOp .NotEq) (.int i) (.int j) G R := o_ne (by rw [dV_int]; exact r)
theorem o_eqS {a b : Str} (r : R (.bl (decide (a = b))) G) : OO X (compareOp .Eq) (.str a) (.str b) G R := o_eq (by rw [dV_str]; exact r)
theorem o_neS {a b : Str} (r : R (.bl (!decide (a = b))) G) : OO X (compareOp .NotEq) (.str a) (.str b) G R := o_ne (by rw [dV_str]; exact r)
def isNon : D → Bool
  | .non => true
  | _ => false
theorem isNon_V {K : PySem.W.Frag} {I : Hp} {d : D} {v : V} (h : Is K I d v) : decide (v = V.non) = isNon d := by
  cases d with
  | non => rw [h.non_eq]; rfl
  | bl b => rw [h.bl_eq]; rfl
  | int b => rw [h.int_eq]; rfl
  | str b => rw [h.str_eq]; rfl
  | ref b => rw [h.ref_eq]; rfl
  | ty b => rw [h.ty_eq]; rfl
  | tup b => obtain ⟨_, _, rfl, _⟩ := h.tup_eq; rfl
  | ktp b => obtain ⟨_, _, rfl, _⟩ := h.ktp_eq; rfl
  | lst b => obtain ⟨_, _, rfl, _⟩ := h.lst_eq; rfl
  | obj _ _ b => obtain ⟨_, _, _, rfl, _⟩ := h.obj_eq; rfl
  | fls b => obtain ⟨_, _, rfl, _⟩ := h.fls_eq; rfl
theorem o_is (r : R (.bl (isNon d)) G) : OO X (compareOp .Is) d .non G R := fun I H v w hg hx hy => toO op_isN ⟨hy.non_eq, Po.here hg (by rw [isNon_V hx]; exact Is.bl) r⟩
theorem o_isnot (r : R (.bl (!isNon d)) G) : OO X (compareOp .IsNot) d .non G R := fun I H v w hg hx hy => toO op_notN ⟨hy.non_eq, Po.here hg (by rw [isNon_V hx]; exact Is.bl) r⟩
/-! data at any depth -/
mutual
def py : D → Option PyData
  | .non => some .none
  | .bl b => some (.bool b)
  | .int i => some (.int i)
  | .str x => some (.str x)
  | .tup ds => (pys ds).map PyData.tuple
  | .ktp ds => (pys ds).map PyData.tuple
  | .lst ds => (pys ds).map PyData.list
  | _ => none
def pys : List D → Option (List PyData)
  | [] => some []
  | d :: ds => match py d, pys ds with
    | some x, some xs => some (x :: xs)
    | _, _ => none
end
theorem same_l {K : PySem.W.Frag} {H H' : Hp} {a : Addr} {xs : List V} (e : Same H H') (h : H a = some (.lst xs)) : SqL K H' a xs := SqL.of (e _ _ h)
mutual
theorem Dp.of {K : PySem.W.Frag} {I H : Hp} (s : Same I H) : ∀ (d : D) {x : PyData} {v : V}, py d = some x → Is K I d v → Dp K H v x
  | .non, _, _, h, i => by unfold py at h; cases h; rw [i.non_eq]; exact .non
  | .bl _, _, _, h, i => by unfold py at h; cases h; rw [i.bl_eq]; exact .bl _
  | .int _, _, _, h, i => by unfold py at h; cases h; rw [i.int_eq]; exact .int _
  | .str _, _, _, h, i => by unfold py at h; cases h; rw [i.str_eq]; exact .str _
  | .tup ds, _, _, h, i => by
    unfold py at h
    cases e : pys ds with
    | none => rw [e] at h; cases h
    | some xs =>
      rw [e] at h; cases h
      obtain ⟨a, ys, rfl, h1, h2⟩ := i.tup_eq
      exact .tup (same_t s h1) (Dps.of s ds e h2)
  | .ktp ds, _, _, h, i => by
    unfold py at h
    cases e : pys ds with
    | none => rw [e] at h; cases h
    | some xs =>
      rw [e] at h; cases h
      obtain ⟨a, ys, rfl, h1, h2⟩ := i.ktp_eq
      exact .tup (SqT.of (s _ _ h1)) (Dps.of s ds e h2)
  | .lst ds, _, _, h, i => by
    unfold py at h
    cases e : pys ds with
    | none => rw [e] at h; cases h
    | some xs =>
      rw [e] at h; cases h
      obtain ⟨a, ys, rfl, h1, h2⟩ := i.lst_eq
      exact .lst (same_l s h1) (Dps.of s ds e h2)
  | .ref _, _, _, h, _ => by unfold py at h; cases h
  | .ty _, _, _, h, _ => by unfold py at h; cases h
  | .obj _ _ _, _, _, h, _ => by unfold py at h; cases h
  | .fls _, _, _, h, _ => by unfold py at h; cases h
theorem Dps.of {K : PySem.W.Frag} {I H : Hp} (s : Same I H) : ∀ (ds : List D) {xs : List PyData} {vs : List V}, pys ds = some xs → Iss K I ds vs → DpAll K H vs xs
  | [], _, _, h, i => by unfold pys at h; cases h; rw [i.nil_eq]; exact .nil
  | d :: ds, _, _, h, i => by
    unfold pys at h
    cases e1 : py d with
    | none => rw [e1] at h; cases h
    | some x =>
      cases e2 : pys ds with
      | none => rw [e1, e2] at h; cases h
      | some xs =>
        rw [e1, e2] at h; cases h
        obtain ⟨v, r, rfl, h1, h2⟩ := i.uncons
        exact .cons (Dp.of s d e1 h1) (Dps.of s ds e2 h2)
end
theorem o_eqD {x y : PyData} (hu : X.A.units + 64 < cLine) (h1 : py d = some x) (h2 : py e = some y) (s1 : SeqAt.shaped x = true) (s2 : SeqAt.shaped y = true) (r : R (.bl (PyData.eqv x y)) G) : OO X (compareOp .Eq) d e G R := fun I H v w hg hx hy =>
  toO (op_eqD hu) ⟨x, y, Dp.of hg.sub d h1 hx, Dp.of hg.sub e h2 hy, s1, s2, Po.here hg Is.bl r⟩
theorem o_neD {x y : PyData} (hu : X.A.units + 64 < cLine) (h1 : py d = some x) (h2 : py e = some y) (s1 : SeqAt.shaped x = true) (s2 : SeqAt.shaped y = true) (r : R (.bl (!PyData.eqv x y)) G) : OO X (compareOp .NotEq) d e G R := fun I H v w hg hx hy =>
  toO (op_neD hu) ⟨x, y, Dp.of hg.sub d h1 hx, Dp.of hg.sub e h2 hy, s1, s2, Po.here hg Is.bl r⟩
/-- x in a tuple, x not in a tuple: data at any depth -/
def rInT (K : PySem.W.Frag) (neg : Bool) : R2 := fun x y H Q => ∃ d ds, Dp K H x d ∧ Dp K H y (.tuple ds) ∧ SeqAt.shaped d = true ∧ SeqAt.shaped (.tuple ds) = true ∧ Q (.bl (if neg then !ds.any fun z => PyData.eqv z d else ds.any fun z => PyData.eqv z d)) H
theorem canLayT {ds : List PyData} (h : SeqAt.shaped (.tuple ds) = true) : PyData.canLayAll0 ds = true := SeqAt.canLay_of_shaped h
theorem room_in_T {A : Around} {d : PyData} {ds : List PyData} (h : SeqAt.shaped d = true) (hu : A.units + 65 < cLine) : A.units + 1 + min (PyData.depthAll ds) d.depth < cLine := room_in_shaped h hu
theorem op_inT (hu : X.A.units + 65 < cLine) : OpR X (compareOp .In) (rInT X.K false) := by
  intro pins s σ H x y v u Q I rx ry h
  obtain ⟨d, ds, hd, he, sd, se, q⟩ := h
  obtain ⟨as, r1⟩ := Dp.reads I d x v hd rx
  obtain ⟨bs, r2⟩ := Dp.reads I (.tuple ds) y u he ry
  exact SeqAt.in_tuple_reads r2 r1 (canLayT se) (SeqAt.canLay_of_shaped sd) (room_in_T sd hu) ⟨.bl _, H, I, rfl, q⟩
theorem op_notInT (hu : X.A.units + 65 < cLine) : OpR X (compareOp .NotIn) (rInT X.K true) := by
  intro pins s σ H x y v u Q I rx ry h
  obtain ⟨d, ds, hd, he, sd, se, q⟩ := h
  obtain ⟨as, r1⟩ := Dp.reads I d x v hd rx
  obtain ⟨bs, r2⟩ := Dp.reads I (.tuple ds) y u he ry
  exact SeqAt.notIn_tuple_reads r2 r1 (canLayT se) (SeqAt.canLay_of_shaped sd) (room_in_T sd hu) ⟨.bl _, H, I, rfl, q⟩
theorem o_notInT {x : PyData} {xs : List PyData} (hu : X.A.units + 65 < cLine) (h1 : py d = some x) (h2 : py e = some (.tuple xs)) (s1 : SeqAt.shaped x = true) (s2 : SeqAt.shaped (.tuple xs) = true) (r : R (.bl (!xs.any fun z => PyData.eqv z x)) G) : OO X (compareOp .NotIn) d e G R := fun I H v w hg hx hy =>
  toO (op_notInT hu) ⟨x, xs, Dp.of hg.sub d h1 hx, Dp.of hg.sub e h2 hy, s1, s2, Po.here hg Is.bl r⟩
/-- x not in a list that stays or may change: data -/
theorem o_notInL {x : PyData} {xs : List PyData} (l : Lv G e es) (hu : X.A.units + 65 < cLine) (h1 : py d = some x) (h2 : pys es = some xs) (s1 : SeqAt.shaped x = true) (s2 : SeqAt.shaped (.list xs) = true) (r : R (.bl (!xs.any fun z => PyData.eqv z x)) G) : OO X (compareOp .NotIn) d e G R := fun I H v w hg hx hy => by
  obtain ⟨a, ys, rfl, h3, h4⟩ := l.at hg hy
  exact toO (op_notInD hu) ⟨x, xs, Dp.of hg.sub d h1 hx, .lst (SqL.of h3) (Dps.of hg.sub es h2 h4), s1, s2, Po.here hg Is.bl r⟩
/-- flat things in a tuple, a list -/
def fvs : List D → Option (List V)
  | [] => some []
  | d :: ds => match fv d, fvs ds with
    | some x, some xs => some (x :: xs)
    | _, _ => none
theorem fvs_eq {K : PySem.W.Frag} {I : Hp} : ∀ {ds : List D} {xs vs : List V}, fvs ds = some xs → Iss K I ds vs → vs = xs
  | [], _, _, h, i => by unfold fvs at h; cases h; exact i.nil_eq
  | d :: ds, _, _, h, i => by
    unfold fvs at h
    cases e1 : fv d with
    | none => rw [e1] at h; cases h
    | some x =>
      cases e2 : fvs ds with
      | none => rw [e1, e2] at h; cases h
      | some xs =>
        rw [e1, e2] at h; cases h
        obtain ⟨v, r, rfl, h1, h2⟩ := i.uncons
        rw [fv_eq e1 h1, fvs_eq e2 h2]
theorem fv_flat {d : D} {x : V} (h : fv d = some x) : flatV x = true := by
  cases d with
  | non => cases h; rfl
  | bl b => cases h; rfl
  | int b => cases h; rfl
  | str b => cases h; rfl
  | _ => cases h
theorem fvs_flat : ∀ {ds : List D} {xs : List V}, fvs ds = some xs → xs.all flatV = true
  | [], _, h => by unfold fvs at h; cases h; rfl
  | d :: ds, _, h => by
    unfold fvs at h
    cases e1 : fv d with
    | none => rw [e1] at h; cases h
    | some x =>
      cases e2 : fvs ds with
      | none => rw [e1, e2] at h; cases h
      | some xs =>
        rw [e1, e2] at h; cases h
        rw [List.all_cons, fv_flat e1, fvs_flat e2] <;> rfl
theorem o_inF {x : V} {xs : List V} (r : R (.bl (inV x xs)) G) (h1 : fv d = some x := by rfl) (h2 : fvs es = some xs := by rfl) : OO X (compareOp .In) d (.tup es) G R := fun I H v w hg hx hy => by
  obtain ⟨a, ys, rfl, h3, h4⟩ := hy.tup_eq
  rw [fv_eq h1 hx]
  have e := fvs_eq h2 h4
  subst e
  exact toO op_in_seq ⟨a, ys, rfl, .inr (same_t hg.sub h3), fv_flat h1, fvs_flat h2, Po.here hg (by show Is X.K I (.bl _) (.bl (if false = true then _ else _)); rw [if_neg Bool.false_ne_true]; exact Is.bl) r⟩
theorem o_inFL {x : V} {xs : List V} {e : D} (l : Lv G e es) (r : R (.bl (inV x xs)) G) (h1 : fv d = some x) (h2 : fvs es = some xs) : OO X (compareOp .In) d e G R := fun I H v w hg hx hy => by
  obtain ⟨a, ys, rfl, h3, h4⟩ := l.at hg hy
  rw [fv_eq h1 hx]
  have e := fvs_eq h2 h4
  subst e
  exact toO op_in_seq ⟨a, ys, rfl, .inl (SqL.of h3), fv_flat h1, fvs_flat h2, Po.here hg (by show Is X.K I (.bl _) (.bl (if false = true then _ else _)); rw [if_neg Bool.false_ne_true]; exact Is.bl) r⟩
theorem o_notInFL {x : V} {xs : List V} {e : D} (l : Lv G e es) (r : R (.bl (!inV x xs)) G) (h1 : fv d = some x) (h2 : fvs es = some xs) : OO X (compareOp .NotIn) d e G R := fun I H v w hg hx hy => by
  obtain ⟨a, ys, rfl, h3, h4⟩ := l.at hg hy
  rw [fv_eq h1 hx]
  have e := fvs_eq h2 h4
  subst e
  exact toO op_notIn_seq ⟨a, ys, rfl, .inl (SqL.of h3), fv_flat h1, fvs_flat h2, Po.here hg (by show Is X.K I (.bl _) (.bl (if true = true then _ else _)); rw [if_pos rfl]; exact Is.bl) r⟩
theorem o_inSign {c : Nat} {z : Str} (r : R (.bl (decide (c ∈ z.cps.toList))) G) : OO X (compareOp .In) (.str ⟨#[c]⟩) (.str z) G R := fun I H v w hg hx hy => toO op_in_sign ⟨c, z, hx.str_eq, hy.str_eq, Po.here hg Is.bl r⟩
/-! ### subscripts -/
theorem i_lst {n : Nat} {x : D} (l : Lv G d ds) (h : ds[n]? = some x) (r : R x G) : II X d (.int n) G R := fun I H v w hg hx hy => by
  obtain ⟨a, xs, rfl, h1, h2⟩ := l.at hg hx
  obtain ⟨y, h3, h4⟩ := h2.get h
  exact toI ix_list ⟨a, xs, n, y, rfl, hy.int_eq, SqL.of h1, atI_nat h3, Po.here hg h4 r⟩
theorem i_last {x : D} (l : Lv G d ds) (h : ds.getLast? = some x) (r : R x G) : II X d (.int (-1)) G R := fun I H v w hg hx hy => by
  obtain ⟨a, xs, rfl, h1, h2⟩ := l.at hg hx
  have hl : ds ≠ [] := fun q => by rw [q] at h; cases h
  have h0 : 0 < ds.length := List.length_pos_iff.mpr hl
  have h' : ds[ds.length - 1]? = some x := by rw [← List.getLast?_eq_getElem?]; exact h
  obtain ⟨y, h3, h4⟩ := h2.get h'
  refine toI ix_list ⟨a, xs, -1, y, rfl, hy.int_eq, SqL.of h1, ?_, Po.here hg h4 r⟩
  unfold atI ixN
  rw [if_neg (by omega), if_pos (by rw [← h2.len]; omega)]
  show xs[((-1 : Int) + xs.length).toNat]? = some y
  rw [← h2.len, show ((-1 : Int) + ds.length).toNat = ds.length - 1 by omega]
  exact h3
theorem i_tup {n : Nat} {x : D} (l : Tv d ds) (h : ds[n]? = some x) (r : R x G) : II X d (.int n) G R := fun I H v w hg hx hy => by
  obtain ⟨a, xs, rfl, h1, h2⟩ := l.at hg hx
  obtain ⟨y, h3, h4⟩ := h2.get h
  exact toI ix_tup ⟨a, xs, n, y, rfl, hy.int_eq, h1, atI_nat h3, Po.here hg h4 r⟩
theorem i_str {n : Nat} {z : Str} {c : Nat} (hl : z.length ≤ sizeLine) (h : z.cps.toList[n]? = some c) (r : R (.str ⟨#[c]⟩) G) : II X (.str z) (.int n) G R := fun I H v w hg hx hy =>
  toI ix_str ⟨z, n, c, hx.str_eq, hy.int_eq, hl, atI_nat h, Po.here hg Is.str r⟩
end
/-! ### built-ins by name -/
section
variable {X : Cx} {Γ : SG} {G : Gp} {R : D → Gp → Prop} {a e o : Expr} {es : List Expr} {pos p apos : Pos} {x : Str} {id T : String}
theorem e_callB (hm : X.mg x = none) (hv : bootBuiltins x = some (.builtin id)) (h : AA X (e :: es) Γ G fun ds G1 => CC X (.builtin id) ds G1 R) (hg : Gl X x := by rfl) (hn : x ≠ "__name__" := by decide) (hdb : (x == ("__debug__" : Str)) = false := by decide)
    (he : starEach (e :: es) X.env = (false, eval e X.env) :: starEach es X.env := by rfl) (hpl : (backTo pos (starEach es X.env)).any (·.1) = false := by rfl) : EE X (.Call (.Name x p) (e :: es) [] pos) Γ G R := fun σ I H rp hG =>
  toE (pe_callB pc_s hg hm hv pa_s hn hdb he hpl) ((h σ I H rp hG).imp fun vs H1 ⟨I1, G1, ds, g1, s1, i1, r1⟩ => (r1 I1 H1 vs g1 i1).imp fun _ _ q => Po.step s1 q)
theorem e_callTy (hm : X.mg x = none) (hv : bootBuiltins x = some (.type T)) (h : AA X (e :: es) Γ G fun ds G1 => CC X (.type T) ds G1 R) (hg : Gl X x := by rfl) (hn : x ≠ "__name__" := by decide) (hdb : (x == ("__debug__" : Str)) = false := by decide)
    (he : starEach (e :: es) X.env = (false, eval e X.env) :: starEach es X.env := by rfl) (hpl : (backTo pos (starEach es X.env)).any (·.1) = false := by rfl) : EE X (.Call (.Name x p) (e :: es) [] pos) Γ G R := fun σ I H rp hG =>
  toE (pe_callTy pc_s hg hm hv pa_s hn hdb he hpl) ((h σ I H rp hG).imp fun vs H1 ⟨I1, G1, ds, g1, s1, i1, r1⟩ => (r1 I1 H1 vs g1 i1).imp fun _ _ q => Po.step s1 q)
variable {d d' : D} {ds : List D}
theorem c_lenL (l : Lv G d ds) (r : R (.int (ds.length : Nat)) G) : CC X (.builtin "len") [d] G R := fun I H vs hg hi => by
  obtain ⟨v, q, rfl, h1, h2⟩ := hi.uncons
  obtain ⟨a, xs, rfl, h3, h4⟩ := l.at hg h1
  rw [h2.nil_eq]
  exact toC call_len ⟨_, (xs.length : Nat), rfl, .inl ⟨xs, SqL.of h3, rfl⟩, Po.here hg (by rw [← h4.len]; exact Is.int) r⟩
theorem c_lenT (l : Tv d ds) (r : R (.int (ds.length : Nat)) G) : CC X (.builtin "len") [d] G R := fun I H vs hg hi => by
  obtain ⟨v, q, rfl, h1, h2⟩ := hi.uncons
  obtain ⟨a, xs, rfl, h3, h4⟩ := l.at hg h1
  rw [h2.nil_eq]
  exact toC call_len ⟨_, (xs.length : Nat), rfl, .inr ⟨xs, h3, rfl⟩, Po.here hg (by rw [← h4.len]; exact Is.int) r⟩
theorem c_tupL (l : Lv G d ds) (r : R (.tup ds) G) : CC X (.type "tuple") [d] G R := fun I H vs hg hi => by
  obtain ⟨v, q, rfl, h1, h2⟩ := hi.uncons
  obtain ⟨a, xs, rfl, h3, h4⟩ := l.at hg h1
  rw [h2.nil_eq]
  refine toC call_tuple_of ⟨a, xs, rfl, .inl ⟨SqL.of h3, fun p hp => ?_⟩⟩
  have z := hg.newI hp (.tup xs)
  exact ⟨_, G, _, z.1, z.2, Is.tup upd_same (Iss.mono z.2.ex _ h4), r⟩
theorem c_lstT (l : Tv d ds) (r : R (.lst ds) G) : CC X (.type "list") [d] G R := fun I H vs hg hi => by
  obtain ⟨v, q, rfl, h1, h2⟩ := hi.uncons
  obtain ⟨a, xs, rfl, h3, h4⟩ := l.at hg h1
  rw [h2.nil_eq]
  refine toC call_list_of ⟨a, xs, rfl, .inr h3, fun p hp => ?_⟩
  have z := hg.newI hp (.lst xs)
  exact ⟨_, G, _, z.1, z.2, Is.lst upd_same (Iss.mono z.2.ex _ h4), r⟩
theorem c_lstTM (l : Tv d ds) (r : ∀ p, G p = none → R (.ref p) (gup G p (.lst ds))) : CC X (.type "list") [d] G R := fun I H vs hg hi => by
  obtain ⟨v, q, rfl, h1, h2⟩ := hi.uncons
  obtain ⟨a, xs, rfl, h3, h4⟩ := l.at hg h1
  rw [h2.nil_eq]
  refine toC call_list_of ⟨a, xs, rfl, .inr h3, fun p hp => ?_⟩
  have z := hg.newM (m := .lst ds) hp (o := .lst xs) ⟨xs, rfl, h4⟩
  exact ⟨I, _, _, z.1, z.2, Is.ref, r p (hg.fresh hp).2⟩
theorem c_all {bs : List Bool} (l : Lv G d (bs.map D.bl)) (r : R (.bl (bs.all (fun b => b))) G) (hc : X.calm = true := by rfl) : CC X (.builtin "all") [d] G R := fun I H vs hg hi => by
  obtain ⟨v, q, rfl, h1, h2⟩ := hi.uncons
  obtain ⟨a, xs, rfl, h3, h4⟩ := l.at hg h1
  rw [h2.nil_eq]
  have e := h4.bls
  subst e
  exact toC (cr_all hc) ⟨a, bs, rfl, SqL.of h3, Po.here hg Is.bl r⟩
variable {i j : Int}
theorem Iss.two {K : PySem.W.Frag} {I : Hp} {d e : D} {vs : List V} (h : Iss K I [d, e] vs) : ∃ v w, vs = [v, w] ∧ Is K I d v ∧ Is K I e w := by
  obtain ⟨v, q, rfl, h1, h2⟩ := h.uncons
  obtain ⟨w, q2, rfl, h3, h4⟩ := h2.uncons
  rw [h4.nil_eq]
  exact ⟨v, w, rfl, h1, h3⟩
theorem Iss.sole {K : PySem.W.Frag} {I : Hp} {d : D} {vs : List V} (h : Iss K I [d] vs) : ∃ v, vs = [v] ∧ Is K I d v := by
  obtain ⟨v, q, rfl, h1, h2⟩ := h.uncons
  rw [h2.nil_eq]
  exact ⟨v, rfl, h1⟩
theorem c_max (r : R (.int (if j > i then j else i)) G) (hc : X.calm = true := by rfl) : CC X (.builtin "max") [.int i, .int j] G R := fun I H vs hg hi => by
  obtain ⟨v, w, rfl, h1, h2⟩ := hi.two
  rw [h1.int_eq, h2.int_eq]
  exact toC (call_max2 hc) ⟨i, j, rfl, Po.here hg Is.int r⟩
theorem c_min (r : R (.int (if j < i then j else i)) G) (hc : X.calm = true := by rfl) : CC X (.builtin "min") [.int i, .int j] G R := fun I H vs hg hi => by
  obtain ⟨v, w, rfl, h1, h2⟩ := hi.two
  rw [h1.int_eq, h2.int_eq]
  exact toC (call_min2 hc) ⟨i, j, rfl, Po.here hg Is.int r⟩
theorem c_intB {b : Bool} (r : R (.int (if b then 1 else 0)) G) : CC X (.type "int") [.bl b] G R := fun I H vs hg hi => by
  obtain ⟨v, rfl, h1⟩ := hi.sole
  rw [h1.bl_eq]
  exact toC call_int1 (.inr ⟨b, rfl, Po.here hg Is.int r⟩)
theorem c_intS {z : Str} {n : Int} (h : PySem.intText? z = some n) (hl : z.length ≤ 640) (r : R (.int n) G) : CC X (.type "int") [.str z] G R := fun I H vs hg hi => by
  obtain ⟨v, rfl, h1⟩ := hi.sole
  rw [h1.str_eq]
  exact toC call_int_str ⟨z, n, rfl, h, hl, Po.here hg Is.int r⟩
theorem c_strI (h : i.natAbs.log2 < 1920) (r : R (.str (toString i)) G) : CC X (.type "str") [.int i] G R := fun I H vs hg hi => by
  obtain ⟨v, rfl, h1⟩ := hi.sole
  rw [h1.int_eq]
  exact toC call_str_int ⟨i, rfl, h, Po.here hg Is.str r⟩
/-- the type's name of d -/
def tyN : D → Option String
  | .non => some "NoneType"
  | .bl _ => some "bool"
  | .int _ => some "int"
  | .str _ => some "str"
  | .tup _ => some "tuple"
  | .ktp _ => some "tuple"
  | .lst _ => some "list"
  | _ => none
theorem tyN_of {K : PySem.W.Frag} {I H : Hp} {t : String} {v : V} (hs : Same I H) (h : tyN d = some t) (i : Is K I d v) : TyX K H v (.type t) := by
  cases d with
  | non => cases h; rw [i.non_eq]; exact .base .non
  | bl b => cases h; rw [i.bl_eq]; exact .base (.bl _)
  | int b => cases h; rw [i.int_eq]; exact .base (.int _)
  | str b => cases h; rw [i.str_eq]; exact .base (.str _)
  | tup b =>
    cases h
    obtain ⟨a, xs, rfl, h1, _⟩ := i.tup_eq
    rcases same_t hs h1 with (h | ⟨o, h⟩) | ⟨o, its, n, h, hc, _⟩
    · exact .base (.tup h)
    · exact .fTuple h
    · exact .kTuple h hc
  | ktp b =>
    cases h
    obtain ⟨a, xs, rfl, h1, _⟩ := i.ktp_eq
    exact .base (.tup (hs _ _ h1))
  | lst b =>
    cases h
    obtain ⟨a, xs, rfl, h1, _⟩ := i.lst_eq
    exact .base (.lst (hs _ _ h1))
  | _ => cases h
theorem c_isi {t : String} {b : Bool} (h1 : tyN d = some t) (h2 : kitB t T = some b) (r : R (.bl b) G) : CC X (.builtin "isinstance") [d, .ty T] G R := fun I H vs hg hi => by
  obtain ⟨v, w, rfl, h3, h4⟩ := hi.two
  rw [h4.ty_eq]
  exact toC call_isi ⟨v, .ty T, .type t, .type T, b, rfl, .ty T, tyN_of hg.sub h1 h3, kit_ty h2, Po.here hg Is.bl r⟩
/-! ### methods -/
/-- the receiver is of that built-in type -/
def Ty (T : String) (G : Gp) (d : D) : Prop := (T = "str" ∧ ∃ z, d = .str z) ∨ (T = "list" ∧ ∃ ds, Lv G d ds) ∨ (T = "dict" ∧ ∃ p, d = .ref p ∧ ((∃ k, G p = some (.dK k)) ∨ ∃ k, G p = some (.dT k)))
theorem Ty.v {K : PySem.W.Frag} {I H : Hp} {v : V} (t : Ty T G d) (hg : HG K I H G) (i : Is K I d v) : tyV K T v H := by
  rcases t with ⟨rfl, z, rfl⟩ | ⟨rfl, ds, l⟩ | ⟨rfl, p, rfl, t⟩
  · rw [i.str_eq]; rfl
  · obtain ⟨a, xs, rfl, h1, _⟩ := l.at hg i
    exact .inl ⟨rfl, xs, SqL.of h1⟩
  · rw [i.ref_eq]
    rcases t with ⟨k, h⟩ | ⟨k, h⟩
    · obtain ⟨_, o, h1, vs, rfl, _⟩ := hg.mu _ _ h
      exact .inr (.inr (.inl ⟨rfl, .inl ⟨vs, h1⟩⟩))
    · obtain ⟨_, o, h1, vs, rfl, _⟩ := hg.mu _ _ h
      exact .inr (.inr (.inl ⟨rfl, .inr ⟨vs, h1⟩⟩))
theorem e_bm {name : Str} {cpos : Pos} (pa : PlainAttrs T) (slot : Slot T name id) (hty : typeOf (.builtin id) = pure (.type "method_descriptor")) (h : EE X o Γ G fun d G1 => Ty T G1 d ∧ AA X (e :: es) Γ G1 fun ds G2 => MM X id d ds G2 R)
    (hbase : attributeBase o name X.env (eval o X.env) = eval o X.env := by rfl)
    (hfew : ((backTo cpos (starEach (e :: es) X.env)).all (fun x => !x.1) && (backToKw cpos (keywordEach [] X.env)).all (fun x => x.1.isSome)
      && decide ((e :: es).length + ([] : List Keyword).length + (if ([] : List Keyword).isEmpty then 0 else 1) < 30)) = true := by rfl)
    (hline : (apos.endLine == cpos.line) = true := by rfl) (hs : starEach (e :: es) X.env = (false, eval e X.env) :: starEach es X.env := by rfl) (hplain : (backTo cpos (starEach es X.env)).any (·.1) = false := by rfl) :
    EE X (.Call (.Attribute o name apos) (e :: es) [] cpos) Γ G R := fun σ I H rp hG =>
  toE (pe_bm pa slot hty pm_s pe_s pa_s hbase hfew hline hs hplain) ((h σ I H rp hG).imp fun v H1 ⟨I1, G1, d, g1, s1, i1, t, r1⟩ => ⟨t.v g1 i1, (r1 σ I1 H1 (rp.mono s1.ex) g1).imp fun vs H2 ⟨I2, G2, ds, g2, s2, i2, r2⟩ =>
    (r2 I2 H2 v vs g2 (Is.mono s2.ex _ i1) i2).imp fun _ _ q => Po.step (s1.trans s2) q⟩)
theorem e_bm0 {name : Str} {cpos : Pos} (pa : PlainAttrs T) (slot : Slot T name id) (hty : typeOf (.builtin id) = pure (.type "method_descriptor")) (h : EE X o Γ G fun d G1 => Ty T G1 d ∧ MM X id d [] G1 R)
    (hbase : attributeBase o name X.env (eval o X.env) = eval o X.env := by rfl) (hline : (apos.endLine == cpos.line) = true := by rfl) : EE X (.Call (.Attribute o name apos) [] [] cpos) Γ G R := fun σ I H rp hG =>
  toE (pe_bm0 pa slot hty pm_s pe_s hbase hline) ((h σ I H rp hG).imp fun v H1 ⟨I1, G1, d, g1, s1, i1, t, r1⟩ => ⟨t.v g1 i1, (r1 I1 H1 v [] g1 i1 Iss.nil).imp fun _ _ q => Po.step s1 q⟩)
theorem toMM {id : String} {r : V → List V → Hp → VK → Prop} {x : V} {xs : List V} {H : Hp} {Q : VK} (p : MtM X id r) (h : r x xs H Q) : sM X id x xs H Q := fun pins s σ v us I rx rs => p pins s σ H x xs v us Q I rx rs h
variable {q : Addr}
theorem m_append (hp : G q = some (.lst ds)) (hl : ds.length < 100000) (r : R .non (gup G q (.lst (ds ++ [d])))) : MM X "list.append" (.ref q) [d] G R := fun I H v vs hg hx hi => by
  obtain ⟨y, rfl, h1⟩ := hi.sole
  obtain ⟨_, o, h2, xs, rfl, h3⟩ := hg.mu _ _ hp
  have z := hg.write (m := .lst (ds ++ [d])) hp (o := .lst (xs ++ [y])) ⟨_, rfl, h3.append (Iss.one h1)⟩
  exact toMM mt_append ⟨q, xs, y, hx.ref_eq, rfl, h2, Nat.lt_of_lt_of_le (by rw [← h3.len]; exact hl) (by decide), I, _, .non, z.1, z.2, Is.non, r⟩
theorem m_extend {es : List D} (hp : G q = some (.lst ds)) (l : Lv G d es) (hl : ds.length + es.length ≤ 100000) (r : R .non (gup G q (.lst (ds ++ es)))) : MM X "list.extend" (.ref q) [d] G R := fun I H v vs hg hx hi => by
  obtain ⟨y, rfl, h1⟩ := hi.sole
  obtain ⟨_, o, h2, xs, rfl, h3⟩ := hg.mu _ _ hp
  obtain ⟨a, ys, rfl, h4, h5⟩ := l.at hg h1
  have z := hg.write (m := .lst (ds ++ es)) hp (o := .lst (xs ++ ys)) ⟨_, rfl, h3.append h5⟩
  exact toMM mt_extend ⟨q, a, xs, ys, hx.ref_eq, rfl, h2, h4, Nat.le_trans (by rw [← h3.len, ← h5.len]; exact hl) (show 100000 ≤ sizeLine by decide), I, _, .non, z.1, z.2, Is.non, r⟩
theorem m_clear (hp : G q = some (.lst ds)) (r : R .non (gup G q (.lst []))) : MM X "list.clear" (.ref q) [] G R := fun I H v vs hg hx hi => by
  obtain ⟨_, o, h2, xs, rfl, h3⟩ := hg.mu _ _ hp
  rw [hi.nil_eq]
  have z := hg.write (m := .lst []) hp (o := .lst []) ⟨_, rfl, Iss.nil⟩
  exact toMM mt_clear ⟨q, xs, hx.ref_eq, rfl, h2, I, _, .non, z.1, z.2, Is.non, r⟩
theorem m_pop (hp : G q = some (.lst ds)) (hy : ds.getLast? = some d) (r : R d (gup G q (.lst ds.dropLast))) : MM X "list.pop" (.ref q) [] G R := fun I H v vs hg hx hi => by
  obtain ⟨_, o, h2, xs, rfl, h3⟩ := hg.mu _ _ hp
  rw [hi.nil_eq]
  have h' : ds[ds.length - 1]? = some d := by rw [← List.getLast?_eq_getElem?]; exact hy
  obtain ⟨y, h4, h5⟩ := h3.get h'
  have z := hg.write (m := .lst ds.dropLast) hp (o := .lst xs.dropLast) ⟨_, rfl, h3.dropLast⟩
  exact toMM mt_pop ⟨q, xs, y, hx.ref_eq, rfl, h2, by rw [← h3.len]; exact h4, I, _, d, z.1, z.2, h5, r⟩
theorem m_pop0 (hp : G q = some (.lst (d :: ds))) (r : R d (gup G q (.lst ds))) : MM X "list.pop" (.ref q) [.int 0] G R := fun I H v vs hg hx hi => by
  obtain ⟨_, o, h2, xs, rfl, h3⟩ := hg.mu _ _ hp
  obtain ⟨y, rfl, h1⟩ := hi.sole
  obtain ⟨v0, r0, rfl, h4, h5⟩ := h3.uncons
  rw [h1.int_eq]
  have z := hg.write (m := .lst ds) hp (o := .lst r0) ⟨_, rfl, h5⟩
  refine toMM mt_popAt ⟨q, v0 :: r0, 0, 0, v0, hx.ref_eq, rfl, h2, by omega, by omega, ?_, rfl, I, _, d, z.1, z.2, h4, r⟩
  simp [seqIndex?]
/-- s.split(t) -/
theorem e_split {cpos : Pos} (h : EE X o Γ G fun d G1 => ∃ z, d = .str z ∧ EE X e Γ G1 fun d' G2 => ∃ t, d' = .str t ∧ (t.length == 0) = false ∧ z.length + 2 ≤ sizeLine ∧ R (.lst ((Txt.split z t).map D.str)) G2)
    (hs : starEach [e] X.env = [(false, eval e X.env)] := by rfl) (hbase : attributeBase o "split" X.env (eval o X.env) = eval o X.env := by rfl) (hline : (apos.endLine == cpos.line) = true := by rfl) : EE X (.Call (.Attribute o "split" apos) [e] [] cpos) Γ G R := fun σ I H rp hG =>
  toE (pe_split pe_s pe_s hs hbase hline) ((h σ I H rp hG).imp fun v H1 ⟨I1, G1, d, g1, s1, i1, z, ed, r1⟩ => by
    subst ed
    refine ⟨⟨z, i1.str_eq⟩, (r1 σ I1 H1 (rp.mono s1.ex) g1).imp fun y H2 ⟨I2, G2, d2, g2, s2, i2, t, e2, h1, h2, r2⟩ => ?_⟩
    subst e2
    rw [i1.str_eq]
    refine ⟨z, t, rfl, by rw [i2.str_eq], h1, h2, fun p hp => ?_⟩
    have w := g2.newI hp (.lst ((Txt.split z t).map V.str))
    exact ⟨_, G2, _, w.1, (s1.trans s2).trans w.2, Is.lst upd_same Iss.of_strs, r2⟩)
/-- s.join(xs) -/
theorem e_join {cpos : Pos} (h : EE X o Γ G fun d G1 => ∃ z, d = .str z ∧ EE X e Γ G1 fun d' G2 => ∃ ys : List Str, Lv G2 d' (ys.map D.str) ∧ (ys.map (·.length)).sum + ys.length * z.length ≤ 16777216 ∧ R (.str (Txt.join z ys)) G2)
    (hs : starEach [e] X.env = [(false, eval e X.env)] := by rfl) (hbase : attributeBase o "join" X.env (eval o X.env) = eval o X.env := by rfl) (hline : (apos.endLine == cpos.line) = true := by rfl) : EE X (.Call (.Attribute o "join" apos) [e] [] cpos) Γ G R := fun σ I H rp hG =>
  toE (pe_join pe_s pe_s hs hbase hline) ((h σ I H rp hG).imp fun v H1 ⟨I1, G1, d, g1, s1, i1, z, ed, r1⟩ => by
    subst ed
    refine ⟨⟨z, i1.str_eq⟩, (r1 σ I1 H1 (rp.mono s1.ex) g1).imp fun y H2 ⟨I2, G2, d2, g2, s2, i2, ys, l, h2, r2⟩ => ?_⟩
    obtain ⟨a, xs, rfl, h3, h4⟩ := l.at g2 i2
    have ex := h4.strs
    subst ex
    rw [i1.str_eq]
    exact ⟨z, a, ys, rfl, rfl, .inl (SqL.of h3), h2, I2, G2, _, g2, s1.trans s2, Is.str, r2⟩)
/-! ### slices with a written place -/
def cutD (ds : List D) (lo hi : Option Int) : List D := (ds.drop (HT.sIx ds.length 0 lo)).take (HT.sIx ds.length ds.length hi - HT.sIx ds.length 0 lo)
theorem Iss.cut {K : PySem.W.Frag} {I : Hp} {ds : List D} {vs : List V} (h : Iss K I ds vs) (lo hi : Option Int) : Iss K I (cutD ds lo hi) (cutV vs lo hi) := by
  unfold cutD cutV
  rw [← h.len]
  exact (h.drop _).take _
/-- a[lo:], a[:hi] -/
inductive Part : Option Expr → Option Int → Prop
  | none : Part none none
  | int {i : Int} {j} {ps : Pos} : Part (some (.Constant (.int i) j ps)) (some i)
def tPt (o : Option Int) : TO := fun _ H Q => Q o H
theorem po_part {lo : Option Expr} {l : Option Int} (p : Part lo l) : PO X lo (tPt l) := by
  cases p with
  | none => exact ⟨fun pins s σ H Q I h => po_none.run pins s σ H Q I h⟩
  | int => exact ⟨fun pins s σ H Q I h => (po_some pe_int).run pins s σ H Q I ⟨_, rfl, h⟩⟩
theorem e_slL {lo hi : Option Expr} {l u : Option Int} {p2 : Pos} (pl : Part lo l) (pu : Part hi u) (h : EE X a Γ G fun d G1 => ∃ ds, Lv G1 d ds ∧ R (.lst (cutD ds l u)) G1) : EE X (.Subscript a (.Slice lo hi none p2) pos) Γ G R := fun σ I H rp hG =>
  toE (pe_slice sl_list pe_s (po_part pl) (po_part pu)) ((h σ I H rp hG).imp fun v H1 ⟨I1, G1, d, g1, s1, i1, ds, lv, r1⟩ => by
    obtain ⟨b, xs, rfl, h3, h4⟩ := lv.at g1 i1
    refine ⟨b, xs, rfl, SqL.of h3, fun p hp => ?_⟩
    have w := g1.newI hp (.lst (cutV xs l u))
    exact ⟨_, G1, _, w.1, s1.trans w.2, Is.lst upd_same (Iss.mono w.2.ex _ (h4.cut l u)), r1⟩)
theorem e_slS {lo hi : Option Expr} {l u : Option Int} {p2 : Pos} (pl : Part lo l) (pu : Part hi u) (h : EE X a Γ G fun d G1 => ∃ z, d = .str z ∧ z.length ≤ sizeLine ∧ R (.str (cutS z l u)) G1) : EE X (.Subscript a (.Slice lo hi none p2) pos) Γ G R := fun σ I H rp hG =>
  toE (pe_slice sl_str pe_s (po_part pl) (po_part pu)) ((h σ I H rp hG).imp fun v H1 ⟨I1, G1, d, g1, s1, i1, z, ed, hl, r1⟩ => by
    subst ed
    exact ⟨z, i1.str_eq, hl, I1, G1, _, g1, s1, Is.str, r1⟩)
theorem e_slT {lo hi : Option Expr} {l u : Option Int} {p2 : Pos} (pl : Part lo l) (pu : Part hi u) (h : EE X a Γ G fun d G1 => ∃ ds, Tv d ds ∧ ¬ (HT.sIx ds.length 0 l = 0 ∧ HT.sIx ds.length ds.length u = ds.length) ∧ R (.tup (cutD ds l u)) G1) : EE X (.Subscript a (.Slice lo hi none p2) pos) Γ G R := fun σ I H rp hG =>
  toE (pe_slice sl_tup pe_s (po_part pl) (po_part pu)) ((h σ I H rp hG).imp fun v H1 ⟨I1, G1, d, g1, s1, i1, ds, lv, hw, r1⟩ => by
    obtain ⟨b, xs, rfl, h3, h4⟩ := lv.at g1 i1
    refine ⟨b, xs, rfl, h3, by rw [← h4.len]; exact hw, fun p hp => ?_⟩
    have w := g1.newI hp (.tup (cutV xs l u))
    exact ⟨_, G1, _, w.1, s1.trans w.2, Is.tup upd_same (Iss.mono w.2.ex _ (h4.cut l u)), r1⟩)
end
/-! ### dicts -/
section
variable {X : Cx} {Γ : SG} {G : Gp} {R : D → Gp → Prop} {k : KD} {a b e o : Expr} {pos pos' p apos : Pos} {q : Addr}
def valD {κ : Type} [DecidableEq κ] (kvs : List (κ × D)) (k : κ) : Option D := (kvs.find? fun kv => decide (kv.1 = k)).map (·.2)
def putKD {κ : Type} [DecidableEq κ] (kvs : List (κ × D)) (k : κ) (v : D) : List (κ × D) := if (kvs.any fun kv => decide (kv.1 = k)) = true then kvs.map (fun kv => if kv.1 = k then (kv.1, v) else kv) else kvs ++ [(k, v)]
theorem IsF.val {κ : Type} [DecidableEq κ] {K : PySem.W.Frag} {I : Hp} {k : κ} : ∀ {fs : List (κ × D)} {vs : List (κ × V)}, IsF K I fs vs → (valD fs k = none ∧ valV vs k = none) ∨ ∃ d v, valD fs k = some d ∧ valV vs k = some v ∧ Is K I d v
  | [], _, .nil => .inl ⟨rfl, rfl⟩
  | (g, d0) :: r, _, .cons (b := (g', v0)) z t => by
    obtain ⟨z1, z2⟩ := z
    have z1 : g = g' := z1
    subst z1
    by_cases q : g = k
    · exact .inr ⟨d0, v0, by simp [valD, List.find?_cons, q], by simp [valV, List.find?_cons, q], z2⟩
    · have e1 : valD ((g, d0) :: r) k = valD r k := by simp [valD, List.find?_cons, q]
      rw [e1, valV_neg (p := (g, v0)) q]
      exact IsF.val t
theorem IsF.any {κ : Type} [DecidableEq κ] {K : PySem.W.Frag} {I : Hp} {k : κ} : ∀ {fs : List (κ × D)} {vs : List (κ × V)}, IsF K I fs vs → (fs.any fun kv => decide (kv.1 = k)) = vs.any fun kv => decide (kv.1 = k)
  | [], _, .nil => rfl
  | (g, d0) :: r, _, .cons (b := (g', v0)) z t => by
    obtain ⟨z1, z2⟩ := z
    have z1 : g = g' := z1
    subst z1
    rw [List.any_cons, List.any_cons, IsF.any t]
theorem IsF.putK {κ : Type} [DecidableEq κ] {K : PySem.W.Frag} {I : Hp} {k : κ} {d : D} {v : V} (h : Is K I d v) {fs : List (κ × D)} {vs : List (κ × V)} (f : IsF K I fs vs) : IsF K I (putKD fs k d) (putK vs k v) := by
  unfold putKD L2.putK
  rw [f.any]
  by_cases q : (vs.any fun kv => decide (kv.1 = k)) = true
  · rw [if_pos q, if_pos q]
    clear q
    induction f with
    | nil => exact .nil
    | cons z t ih =>
      rename_i a b _ _
      obtain ⟨g, d0⟩ := a
      obtain ⟨g', v0⟩ := b
      obtain ⟨z1, z2⟩ := z
      have z1 : g = g' := z1
      subst z1
      refine .cons ?_ ih
      by_cases e : g = k
      · show (if g = k then (g, d) else (g, d0)).1 = (if g = k then (g, v) else (g, v0)).1 ∧ Is K I (if g = k then (g, d) else (g, d0)).2 (if g = k then (g, v) else (g, v0)).2
        rw [if_pos e, if_pos e]; exact ⟨rfl, h⟩
      · show (if g = k then (g, d) else (g, d0)).1 = (if g = k then (g, v) else (g, v0)).1 ∧ Is K I (if g = k then (g, d) else (g, d0)).2 (if g = k then (g, v) else (g, v0)).2
        rw [if_neg e, if_neg e]; exact ⟨rfl, z2⟩
  · rw [if_neg q, if_neg q]
    exact IsF.app f (.cons ⟨rfl, h⟩ .nil)
/-- a key's tree -/
def kD : Key → D
  | .inl i => .int i
  | .inr x => .str x
theorem kD_eq {K : PySem.W.Frag} {I : Hp} {k : Key} {v : V} (h : Is K I (kD k) v) : v = kV k := by
  cases k with
  | inl i => exact h.int_eq
  | inr x => exact h.str_eq
theorem kDs_eq {K : PySem.W.Frag} {I : Hp} : ∀ {ks : List Key} {vs : List V}, Iss K I (ks.map kD) vs → vs = ks.map kV
  | [], _, h => h.nil_eq
  | k :: ks, _, h => by
    obtain ⟨v, r, rfl, h1, h2⟩ := h.uncons
    rw [kD_eq h1, kDs_eq h2]
    rfl
/-- what the dict at q holds at the key y -/
inductive DG (G : Gp) (q : Addr) : D → Option D → Prop
  | k {kvs : List (Key × D)} {k : Key} (h : G q = some (.dK kvs)) : DG G q (kD k) (valD kvs k)
  | t {kvs : List (List Key × D)} {k : List Key} (h : G q = some (.dT kvs)) : DG G q (.ktp (k.map kD)) (valD kvs k)
theorem DG.get {K : PySem.W.Frag} {I H : Hp} {y : D} {o : Option D} {v : V} (g : DG G q y o) (hg : HG K I H G) (i : Is K I y v) : ∃ o', DGet H q v o' ∧ o.isSome = o'.isSome ∧ ∀ d, o = some d → ∃ w, o' = some w ∧ Is K I d w := by
  cases g with
  | @k kvs k h =>
    obtain ⟨_, u, h1, vs, rfl, f⟩ := hg.mu _ _ h
    refine ⟨valV vs k, by rw [kD_eq i]; exact DGet.k h1, ?_⟩
    rcases f.val (k := k) with ⟨e1, e2⟩ | ⟨d, w, e1, e2, e3⟩
    · rw [e1, e2]; exact ⟨rfl, fun d z => nomatch z⟩
    · rw [e1, e2]; exact ⟨rfl, fun d' z => by cases z; exact ⟨w, rfl, e3⟩⟩
  | @t kvs k h =>
    obtain ⟨_, u, h1, vs, rfl, f⟩ := hg.mu _ _ h
    obtain ⟨a, xs, rfl, h2, h3⟩ := i.ktp_eq
    have e := kDs_eq h3
    subst e
    refine ⟨valV vs k, DGet.t h1 (hg.sub _ _ h2), ?_⟩
    rcases f.val (k := k) with ⟨e1, e2⟩ | ⟨d, w, e1, e2, e3⟩
    · rw [e1, e2]; exact ⟨rfl, fun d z => nomatch z⟩
    · rw [e1, e2]; exact ⟨rfl, fun d' z => by cases z; exact ⟨w, rfl, e3⟩⟩
theorem e_dget (hu : X.A.units + 1 < cLine) (h : EE X a Γ G fun d G1 => ∃ q, d = .ref q ∧ EE X b Γ G1 fun y G2 => ∃ x, DG G2 q y (some x) ∧ R x G2) (hs : NoSl b := by intro _ _; rfl) : EE X (.Subscript a b pos) Γ G R := fun σ I H rp hG =>
  toE (pe_dget hu pe_s pe_s hs) ((h σ I H rp hG).imp fun v H1 ⟨I1, G1, d, g1, s1, i1, q, ed, r1⟩ => (r1 σ I1 H1 (rp.mono s1.ex) g1).imp fun y H2 ⟨I2, G2, d2, g2, s2, i2, x, dg, r2⟩ => by
    subst ed
    obtain ⟨o', h1, _, h2⟩ := dg.get g2 i2
    obtain ⟨w, rfl, h3⟩ := h2 x rfl
    exact ⟨q, w, i1.ref_eq, h1, I2, G2, x, g2, s1.trans s2, h3, r2⟩)
theorem e_din (hu : X.A.units + 1 < cLine) (h : EE X a Γ G fun y G1 => EE X b Γ G1 fun d G2 => ∃ q o, d = .ref q ∧ DG G2 q y o ∧ R (.bl o.isSome) G2) (h1 : behindInMarks .In b = false := by rfl) : EE X (.Compare a [.In] [b] pos) Γ G R := fun σ I H rp hG =>
  toE (pe_cmp (pc_din hu pe_s pe_s) h1) ((h σ I H rp hG).imp fun v H1 ⟨I1, G1, d, g1, s1, i1, r1⟩ => (r1 σ I1 H1 (rp.mono s1.ex) g1).imp fun y H2 ⟨I2, G2, d2, g2, s2, i2, q, o, ed, dg, r2⟩ => by
    subst ed
    obtain ⟨o', h1, h2, _⟩ := dg.get g2 (Is.mono s2.ex _ i1)
    exact ⟨q, o', i2.ref_eq, h1, I2, G2, _, g2, s1.trans s2, by rw [← h2]; exact Is.bl, r2⟩)
theorem t_din {R : Bool → Gp → Prop} (hu : X.A.units + 1 < cLine) (h : EE X a Γ G fun y G1 => EE X b Γ G1 fun d G2 => ∃ q o, d = .ref q ∧ DG G2 q y o ∧ R o.isSome G2) (h1 : behindInMarks .In b = false := by rfl) : TT X (.Compare a [.In] [b] pos) Γ G R := fun σ I H rp hG =>
  toT (pt_cmp (pc_din hu pe_s pe_s) h1) ((h σ I H rp hG).imp fun v H1 ⟨I1, G1, d, g1, s1, i1, r1⟩ => (r1 σ I1 H1 (rp.mono s1.ex) g1).imp fun y H2 ⟨I2, G2, d2, g2, s2, i2, q, o, ed, dg, r2⟩ => by
    subst ed
    obtain ⟨o', h1, h2, _⟩ := dg.get g2 (Is.mono s2.ex _ i1)
    exact ⟨q, o', i2.ref_eq, h1, _, rfl, I2, G2, g2, s1.trans s2, by rw [← h2]; exact r2⟩)
/-- d.get(k), d.get(k, x): M1, M2 by the kit's own lines -/
theorem e_dget1 (hu : X.A.units + 1 < cLine) {cpos : Pos} (m : M1 X o "get" apos e cpos) (h : EE X o Γ G fun d G1 => ∃ q kvs, d = .ref q ∧ G1 q = some (.dK kvs) ∧ EE X e Γ G1 fun y G2 => ∃ v, DG G2 q y v ∧ R (v.getD .non) G2) : EE X (.Call (.Attribute o "get" apos) [e] [] cpos) Γ G R := fun σ I H rp hG =>
  toE (pe_dget1 hu pe_s pe_s m) ((h σ I H rp hG).imp fun v H1 ⟨I1, G1, d, g1, s1, i1, q, kvs, ed, hq, r1⟩ => by
    subst ed
    obtain ⟨_, u, h1, vs, rfl, f⟩ := g1.mu _ _ hq
    refine ⟨q, i1.ref_eq, .inl ⟨vs, .inl h1⟩, (r1 σ I1 H1 (rp.mono s1.ex) g1).imp fun y H2 ⟨I2, G2, d2, g2, s2, i2, o, dg, r2⟩ => ?_⟩
    obtain ⟨o', h1, h2, h3⟩ := dg.get g2 i2
    refine ⟨o', h1, I2, G2, _, g2, s1.trans s2, ?_, r2⟩
    cases o with
    | none =>
      cases o' with
      | none => exact Is.non
      | some _ => cases h2
    | some x =>
      obtain ⟨w, rfl, h4⟩ := h3 x rfl
      exact h4)
theorem e_dget2 (hu : X.A.units + 1 < cLine) {cpos : Pos} {f : Expr} (m : M2 X o "get" apos e f cpos) (h : EE X o Γ G fun d G1 => ∃ q kvs, d = .ref q ∧ G1 q = some (.dK kvs) ∧ EE X e Γ G1 fun y G2 => EE X f Γ G2 fun z G3 => ∃ v, DG G3 q y v ∧ R (v.getD z) G3) : EE X (.Call (.Attribute o "get" apos) [e, f] [] cpos) Γ G R := fun σ I H rp hG =>
  toE (pe_dget2 hu pe_s pe_s pe_s m) ((h σ I H rp hG).imp fun v H1 ⟨I1, G1, d, g1, s1, i1, q, kvs, ed, hq, r1⟩ => by
    subst ed
    obtain ⟨_, u, h1, vs, rfl, ff⟩ := g1.mu _ _ hq
    refine ⟨q, i1.ref_eq, .inl ⟨vs, .inl h1⟩, (r1 σ I1 H1 (rp.mono s1.ex) g1).imp fun y H2 ⟨I2, G2, d2, g2, s2, i2, r2⟩ => (r2 σ I2 H2 ((rp.mono s1.ex).mono s2.ex) g2).imp fun z H3 ⟨I3, G3, d3, g3, s3, i3, o, dg, r3⟩ => ?_⟩
    obtain ⟨o', h1, h2, h3⟩ := dg.get g3 (Is.mono s3.ex _ i2)
    refine ⟨o', h1, I3, G3, _, g3, (s1.trans s2).trans s3, ?_, r3⟩
    cases o with
    | none =>
      cases o' with
      | none => exact i3
      | some _ => cases h2
    | some x =>
      obtain ⟨w, rfl, h4⟩ := h3 x rfl
      exact h4)
/-- the dict at q behind a store -/
inductive DP (G : Gp) (q : Addr) (v : D) : D → Gp → Prop
  | k {kvs : List (Key × D)} {k : Key} (h : G q = some (.dK kvs)) (hl : kvs.length < 100000) : DP G q v (kD k) (gup G q (.dK (putKD kvs k v)))
  | t {kvs : List (List Key × D)} {k : List Key} (h : G q = some (.dT kvs)) (hl : kvs.length < 100000) : DP G q v (.ktp (k.map kD)) (gup G q (.dT (putKD kvs k v)))
theorem s_dput (hu : X.A.units + 1 < cLine) (h : EE X e Γ G fun v G1 => EE X a Γ G1 fun d G2 => EE X b Γ G2 fun y G3 => ∃ q G4, d = .ref q ∧ DP G3 q v y G4 ∧ k.nx Γ G4)
    (hs : swapsWith e (some (.Subscript a b pos')) pos.line X.env = pure false := by rfl) : SS X (.Assign [.Subscript a b pos'] e pos) Γ G k := fun σ I H rp hG =>
  toS (ps_dput hu pe_s pe_s pe_s hs) ((h σ I H rp hG).imp fun v H1 ⟨I1, G1, d1, g1, s1, i1, r1⟩ => (r1 σ I1 H1 (rp.mono s1.ex) g1).imp fun x H2 ⟨I2, G2, d2, g2, s2, i2, r2⟩ =>
    (r2 σ I2 H2 ((rp.mono s1.ex).mono s2.ex) g2).imp fun y H3 ⟨I3, G3, d3, g3, s3, i3, q, G4, ed, dp, r3⟩ => by
      subst ed
      have iv := Is.mono (s2.trans s3).ex _ i1
      have hx : x = .ref q := i2.ref_eq
      have rp3 := ((rp.mono s1.ex).mono s2.ex).mono s3.ex
      cases dp with
      | @k kvs k h hl =>
        obtain ⟨_, u, h1, vs, rfl, f⟩ := g3.mu _ _ h
        have w := g3.write (m := .dK (putKD kvs k d1)) h (o := .dK (putK vs k v)) ⟨_, rfl, IsF.putK iv f⟩
        refine ⟨q, _, hx, by rw [kD_eq i3]; exact DPut.k h1 (Nat.lt_of_lt_of_le (by rw [← f.len]; exact hl) (show 100000 ≤ sizeLine by decide)), I3, Γ, _, rp3.mono (Same.refl _), w.1, ((s1.trans s2).trans s3).trans w.2, r3⟩
      | @t kvs k h hl =>
        obtain ⟨_, u, h1, vs, rfl, f⟩ := g3.mu _ _ h
        obtain ⟨p, ys, rfl, h2, h3⟩ := i3.ktp_eq
        have ee := kDs_eq h3
        subst ee
        have w := g3.write (m := .dT (putKD kvs k d1)) h (o := .dT (putK vs k v)) ⟨_, rfl, IsF.putK iv f⟩
        refine ⟨q, _, hx, DPut.t h1 (g3.sub _ _ h2) (Nat.lt_of_lt_of_le (by rw [← f.len]; exact hl) (show 100000 ≤ sizeLine by decide)), I3, Γ, _, rp3.mono (Same.refl _), w.1, ((s1.trans s2).trans s3).trans w.2, r3⟩)
theorem e_dnewK (h : ∀ q, G q = none → R (.ref q) (gup G q (.dK []))) : EE X (.Dict [] [] pos) Γ G R := fun σ I H rp hG => toE pe_dnewK (show ∀ q, H q = none → _ from fun q hq =>
  let z := hG.newM (m := .dK []) hq (o := .dK []) ⟨[], rfl, .nil⟩
  ⟨I, _, _, z.1, z.2, Is.ref, h q (hG.fresh hq).2⟩)
theorem e_dnewT (h : ∀ q, G q = none → R (.ref q) (gup G q (.dT []))) : EE X (.Dict [] [] pos) Γ G R := fun σ I H rp hG => toE pe_dnewT (show ∀ q, H q = none → _ from fun q hq =>
  let z := hG.newM (m := .dT []) hq (o := .dT []) ⟨[], rfl, .nil⟩
  ⟨I, _, _, z.1, z.2, Is.ref, h q (hG.fresh hq).2⟩)
end
end J
namespace J
open PySem PySem.Spec PyProof.Rows L2
section
variable {X : Cx} {Γ : SG} {G : Gp} {R : D → Gp → Prop} {elt c : Expr} {scope : Scope} {vs : List Nat} {g : TG} {n : Nat} {item : Nat → D} {ok : Gp → Prop} {Z : List D → Gp → Prop} {pos : Pos}
/-- a comprehension that changes nothing: what it gives, turn by turn -/
theorem lc_map (f : Nat → D) (us : Nat → List (Nat × D)) (hok : ok G) (hn : n ≤ 100000) (hu : ∀ i, ∀ u ∈ us i, u.1 ∈ vs) (ht : ∀ i, i < n → TgS X.K G g (item i) (us i))
    (he : ∀ i, i < n → ∀ (s : Shared) (H0 : Hp) (C : Addr) (cl : List (Str × Addr)) (fp : List Addr), EE (X.blk s H0 scope (compEnvC scope cl C X.env) fp) elt (setD (wipeD Γ vs) (us i)) G fun d G1 => d = f i ∧ G1 = G)
    (hz : Z ((List.range n).map f) G) : LcD X elt [] scope vs g Γ n item ok G Z := by
  refine ⟨fun i acc G1 => G1 = G ∧ acc = (List.range i).map f, ⟨rfl, rfl⟩, fun i acc G1 _ h => by rw [h.1]; exact hok, hn, fun i acc G1 hi h => ?_, fun acc G1 h => by rw [h.1, h.2]; exact hz⟩
  obtain ⟨rfl, rfl⟩ := h
  refine ⟨us i, hu i, ht i hi, fun s H0 C cl fp => q_nil (iteTT fun s H0 C cl fp => (he i hi s H0 C cl fp).imp fun d G2 q => ⟨q.2, ?_⟩)⟩
  rw [q.1, List.range_succ, List.map_append]
  rfl
/-- .. with a test -/
theorem lc_filter (b : Nat → Bool) (f : Nat → D) (us : Nat → List (Nat × D)) (hok : ok G) (hn : n ≤ 100000) (hu : ∀ i, ∀ u ∈ us i, u.1 ∈ vs) (ht : ∀ i, i < n → TgS X.K G g (item i) (us i))
    (hb : ∀ i, i < n → ∀ (s : Shared) (H0 : Hp) (C : Addr) (cl : List (Str × Addr)) (fp : List Addr), TT (X.blk s H0 scope (compEnvC scope cl C X.env) fp) c (setD (wipeD Γ vs) (us i)) G fun d G1 => d = b i ∧ G1 = G)
    (he : ∀ i, i < n → b i = true → ∀ (s : Shared) (H0 : Hp) (C : Addr) (cl : List (Str × Addr)) (fp : List Addr), EE (X.blk s H0 scope (compEnvC scope cl C X.env) fp) elt (setD (wipeD Γ vs) (us i)) G fun d G1 => d = f i ∧ G1 = G)
    (hz : Z (((List.range n).filter b).map f) G) : LcD X elt [c] scope vs g Γ n item ok G Z := by
  refine ⟨fun i acc G1 => G1 = G ∧ acc = ((List.range i).filter b).map f, ⟨rfl, rfl⟩, fun i acc G1 _ h => by rw [h.1]; exact hok, hn, fun i acc G1 hi h => ?_, fun acc G1 h => by rw [h.1, h.2]; exact hz⟩
  obtain ⟨rfl, rfl⟩ := h
  refine ⟨us i, hu i, ht i hi, fun s H0 C cl fp => q_one ?_⟩
  intro σ I H rp hg
  refine (hb i hi s H0 C cl fp σ I H rp hg).imp fun k H1 ⟨I1, G2, g1, s1, hk, hG⟩ => ⟨I1, G2, g1, s1, ?_⟩
  subst hG
  subst hk
  have e : (List.range (i + 1)).filter b = (List.range i).filter b ++ if b i = true then [i] else [] := by
    rw [List.range_succ, List.filter_append]
    congr 1
    by_cases q : b i = true
    · rw [if_pos q, List.filter_cons, if_pos q]; rfl
    · rw [if_neg q, List.filter_cons, if_neg q]; rfl
  refine ite_b (fun q => fun s H0 C cl fp => (he i hi q s H0 C cl fp).imp fun d G3 z => ⟨z.2, ?_⟩) (fun q => ⟨rfl, ?_⟩)
  · rw [z.1, e, if_pos q, List.map_append]; rfl
  · rw [e, if_neg (by rw [q]; exact Bool.false_ne_true), List.append_nil]
theorem map_range_eq {α β : Type} (xs : List α) (f : Nat → β) (h : α → β) (e : ∀ i x, xs[i]? = some x → f i = h x) : (List.range xs.length).map f = xs.map h := by
  apply List.ext_getElem?
  intro i
  rw [List.getElem?_map, List.getElem?_map]
  by_cases q : i < xs.length
  · rw [List.getElem?_range q, List.getElem?_eq_getElem q]
    simp only [Option.map_some]
    rw [e i xs[i] (List.getElem?_eq_getElem q)]
  · rw [List.getElem?_eq_none (by simpa using q), List.getElem?_eq_none (by omega)]
    rfl
theorem range_at0 {α : Type} (h : D → α) (ds : List D) : (List.range ds.length).map (fun i => h (at0 ds i)) = ds.map h := map_range_eq ds _ h fun i x e => by show h (at0 ds i) = h x; rw [at0_some e]
/-- a code that is never come to -/
theorem s_never {st : Stmt} {k : KD} (h : False) : SS X st Γ G k := h.elim
theorem b_one {st : Stmt} {k : KD} (h : SS X st Γ G k) : SB X [st] Γ G k := b_cons (h.imp (fun _ _ q => b_nil q) (fun _ _ q => q) (fun _ _ q => q) fun _ _ q => q)
theorem e_gI {x : Str} {i : Int} (h : ∃ t, X.mg x = some (.int i t)) (r : R (.int i) G) (hg : Gl X x := by rfl) (hdb : (x == ("__debug__" : Str)) = false := by decide) : EE X (.Name x pos) Γ G R := by
  obtain ⟨t, h⟩ := h
  exact e_glob (v := .int i) h ⟨t, rfl⟩ (fun _ => Is.int) r hg hdb
theorem e_gS {x z : Str} (h : ∃ t, X.mg x = some (.str z t)) (r : R (.str z) G) (hg : Gl X x := by rfl) (hdb : (x == ("__debug__" : Str)) = false := by decide) : EE X (.Name x pos) Γ G R := by
  obtain ⟨t, h⟩ := h
  exact e_glob (v := .str z) h ⟨t, rfl⟩ (fun _ => Is.str) r hg hdb
theorem e_gD {x : Str} {d : D} (h : ∃ a, X.mg x = some (.ref a) ∧ ∀ I, Is X.K I d (.ref a)) (r : R d G) (hg : Gl X x := by rfl) (hdb : (x == ("__debug__" : Str)) = false := by decide) : EE X (.Name x pos) Γ G R := by
  obtain ⟨a, h, hd⟩ := h
  exact e_glob (v := .ref a) h rfl hd r hg hdb
end
end J
namespace J
open PySem PySem.Spec PyProof.Rows L2
section
variable {X : Cx}
theorem call_str_non : CallR X (.type "str") (fun xs H Q => xs = [.non] ∧ Q (.str "None") H) := by
  intro pins s σ H xs us Q I r h
  obtain ⟨rfl, q⟩ := h
  cases r with
  | cons r rr =>
    cases rr
    cases r
    exact PySem.P.str_of_none ⟨.str _, H, I.tok _, ⟨_, rfl⟩, q⟩
/-- two lists, the second one empty -/
def rNil : R2 := fun x y H Q => ∃ a b xs, x = .ref a ∧ y = .ref b ∧ H a = some (.lst xs) ∧ H b = some (.lst []) ∧ Q (.bl xs.isEmpty) H
def rNilN : R2 := fun x y H Q => ∃ a b xs, x = .ref a ∧ y = .ref b ∧ H a = some (.lst xs) ∧ H b = some (.lst []) ∧ Q (.bl (!xs.isEmpty)) H
theorem op_eqNil (hu : X.A.units + 64 < cLine) : OpR X (compareOp .Eq) rNil := by
  intro pins s σ H x y v u Q I rx ry h
  obtain ⟨a, b, xs, rfl, rfl, h1, h2, q⟩ := h
  cases xs with
  | nil => exact op_eqD hu pins s σ H _ _ v u Q I rx ry ⟨.list [], .list [], .lst (SqL.of h1) .nil, .lst (SqL.of h2) .nil, rfl, rfl, q⟩
  | cons x0 r =>
    cases rx
    cases ry
    obtain ⟨its, rv, p1, _⟩ := I.list (SqL.of h1)
    obtain ⟨its2, rv2, p2, _⟩ := I.list (SqL.of h2)
    cases rv2
    refine SeqAt.eq_list_lengthsAt p1.isList p2.isList ?_ (by omega) ⟨.bl _, H, I, rfl, q⟩
    cases rv with
    | cons _ _ => simp
theorem op_neNil (hu : X.A.units + 64 < cLine) : OpR X (compareOp .NotEq) rNilN := by
  intro pins s σ H x y v u Q I rx ry h
  obtain ⟨a, b, xs, rfl, rfl, h1, h2, q⟩ := h
  cases xs with
  | nil => exact op_neD hu pins s σ H _ _ v u Q I rx ry ⟨.list [], .list [], .lst (SqL.of h1) .nil, .lst (SqL.of h2) .nil, rfl, rfl, q⟩
  | cons x0 r =>
    cases rx
    cases ry
    obtain ⟨its, rv, p1, _⟩ := I.list (SqL.of h1)
    obtain ⟨its2, rv2, p2, _⟩ := I.list (SqL.of h2)
    cases rv2
    refine SeqAt.RcNeAt.lists_lengths p1.isList p2.isList ?_ (by omega) _ _ _ _ ⟨.bl _, H, I, rfl, q⟩
    cases rv with
    | cons _ _ => simp
end
section
variable {X : Cx} {Γ : SG} {G : Gp} {R : D → Gp → Prop} {d e : D} {ds es : List D} {i j : Int} {a b c : Expr} {rest : List Expr} {pos : Pos}
theorem c_strN (r : R (.str "None") G) : CC X (.type "str") [.non] G R := fun I H vs hg hi => by
  obtain ⟨v, rfl, h1⟩ := hi.sole
  rw [h1.non_eq]
  exact toC call_str_non ⟨rfl, Po.here hg Is.str r⟩
theorem Iss.isE {K : PySem.W.Frag} {I : Hp} {ds : List D} {vs : List V} (h : Iss K I ds vs) : vs.isEmpty = ds.isEmpty := by
  have := h.len
  cases ds <;> cases vs <;> first | rfl | simp at this
theorem o_eqNil (hu : X.A.units + 64 < cLine) (l : Lv G d ds) (r : R (.bl ds.isEmpty) G) : OO X (compareOp .Eq) d (.lst []) G R := fun I H x y hg hx hy => by
  obtain ⟨a, xs, rfl, h1, h2⟩ := l.at hg hx
  obtain ⟨b, ys, rfl, h3, h4⟩ := (Lv.lst (ds := [])).at hg hy
  rw [h4.nil_eq] at h3
  exact toO (op_eqNil hu) ⟨a, b, xs, rfl, rfl, h1, h3, Po.here hg (by rw [h2.isE]; exact Is.bl) r⟩
theorem o_neNil (hu : X.A.units + 64 < cLine) (l : Lv G d ds) (r : R (.bl (!ds.isEmpty)) G) : OO X (compareOp .NotEq) d (.lst []) G R := fun I H x y hg hx hy => by
  obtain ⟨a, xs, rfl, h1, h2⟩ := l.at hg hx
  obtain ⟨b, ys, rfl, h3, h4⟩ := (Lv.lst (ds := [])).at hg hy
  rw [h4.nil_eq] at h3
  exact toO (op_neNil hu) ⟨a, b, xs, rfl, rfl, h1, h3, Po.here hg (by rw [h2.isE]; exact Is.bl) r⟩
/-- len(set(e)), all unlike -/
theorem e_lenSet {p p2 q : Pos} (hm : X.mg "len" = none) (hm2 : X.mg "set" = none) (h : EE X a Γ G fun d G1 => ∃ ns : List Int, Lv G1 d (ns.map D.int) ∧ ns.Nodup ∧ ns.length ≤ 4000 ∧ R (.int (ns.length : Nat)) G1) (hg : Gl X "len" := by rfl) (hg2 : Gl X "set" := by rfl) (hc : X.calm = true := by rfl)
    (na : starEach [a] X.env = (false, eval a X.env) :: starEach [] X.env := by rfl) : EE X (.Call (.Name "len" p) [.Call (.Name "set" p2) [a] [] q] [] pos) Γ G R := fun σ I H rp hG =>
  toE (RZ.pe_lenSetI hg hm hg2 hm2 pe_s hc na) ((h σ I H rp hG).imp fun v H1 ⟨I1, G1, d, g1, s1, i1, ns, l, nd, hl, r⟩ => by
    obtain ⟨b, xs, rfl, h1, h2⟩ := l.at g1 i1
    have e := h2.ints
    subst e
    exact ⟨b, ns, rfl, SqL.of h1, nd, hl, I1, G1, _, g1, s1, Is.int, r⟩)
/-- x or y, x a text -/
theorem e_orS (h : EE X a Γ G fun d G1 => ∃ z : Str, d = .str z ∧ z.length ≤ sizeLine ∧ if (z.length == 0) = false then R d G1 else EE X (.BoolOp .Or (b :: rest) pos) Γ G1 R) : EE X (.BoolOp .Or (a :: b :: rest) pos) Γ G R := fun σ I H rp hG =>
  toE (pe_orT pe_s pe_s) ((h σ I H rp hG).imp fun v H1 ⟨I1, G1, d, g1, s1, i1, z, ed, hz, r⟩ => by
    subst ed
    rw [i1.str_eq]
    have lz : (z.length == 0) = false → ((z.length : Int) != 0) = true := fun q => by simp at q ⊢; omega
    have lz0 : ¬ (z.length == 0) = false → ((z.length : Int) != 0) = false := fun q => by simp at q ⊢; omega
    by_cases q : (z.length == 0) = false
    · rw [if_pos q] at r
      exact ⟨true, ⟨hz, by rw [lz q]⟩, by rw [if_pos rfl]; exact ⟨I1, G1, _, g1, s1, Is.str, r⟩⟩
    · rw [if_neg q] at r
      refine ⟨false, ⟨hz, by rw [lz0 q]⟩, ?_⟩
      rw [if_neg Bool.false_ne_true]
      exact (r σ I1 H1 (rp.mono s1.ex) g1).imp fun _ _ q => Po.step s1 q)
theorem e_neg (h : EE X a Γ G fun d G1 => ∃ i : Int, d = .int i ∧ R (.int (-i)) G1) : EE X (.UnaryOp .USub a pos) Γ G R := fun σ I H rp hG =>
  toE (pe_un un_neg pe_s) ((h σ I H rp hG).imp fun v H1 ⟨I1, G1, d, g1, s1, i1, i, ed, r⟩ => by
    subst ed
    exact ⟨i, i1.int_eq, I1, G1, _, g1, s1, Is.int, r⟩)
theorem sg_ne {Γ : SG} {i j : Nat} {v x : Option D} (h : Γ[i]? = some x) (ne : j ≠ i) : (Γ.set j v)[i]? = some x := by rw [List.getElem?_set_ne ne]; exact h
theorem pg2 {x y : Str} {i j k : Nat} {px py pos : Pos} (hN : X.N.Nodup) (hi : X.N[i]? = some x) (hj : X.N[j]? = some y) (hx : Loc X.env.scope x) (hy : Loc X.env.scope y) (fx : X.fn x = true ∨ X.env.scope.names.lookup x = some .local) (fy : X.fn y = true ∨ X.env.scope.names.lookup y = some .local) (hc : X.calm = true) {K : PySem.W.Frag} (hK : X.K = K) :
    PG X (.Tuple [.Name x px, .Name y py] k pos) (gTup K 2 (gCons (gName i) (gCons (gName j) gNil))) := hK ▸ pg_tup hc (pgs_cons (pg_name hN hi hx fx) (pgs_cons (pg_name hN hj hy fy) pgs_nil))
theorem pg3 {x y z : Str} {i j l k : Nat} {px py pz pos : Pos} (hN : X.N.Nodup) (hi : X.N[i]? = some x) (hj : X.N[j]? = some y) (hl : X.N[l]? = some z) (hx : Loc X.env.scope x) (hy : Loc X.env.scope y) (hz : Loc X.env.scope z) (fx : X.fn x = true ∨ X.env.scope.names.lookup x = some .local) (fy : X.fn y = true ∨ X.env.scope.names.lookup y = some .local) (fz : X.fn z = true ∨ X.env.scope.names.lookup z = some .local) (hc : X.calm = true) {K : PySem.W.Frag} (hK : X.K = K) :
    PG X (.Tuple [.Name x px, .Name y py, .Name z pz] k pos) (gTup K 3 (gCons (gName i) (gCons (gName j) (gCons (gName l) gNil)))) := hK ▸ pg_tup hc (pgs_cons (pg_name hN hi hx fx) (pgs_cons (pg_name hN hj hy fy) (pgs_cons (pg_name hN hl hz fz) pgs_nil)))
theorem setD_len : ∀ {us : List (Nat × D)} {Γ : SG}, (setD Γ us).length = Γ.length
  | [], _ => rfl
  | (i, d) :: r, Γ => by
    show (setD (Γ.set i (some d)) r).length = _
    rw [setD_len, List.length_set]
theorem sg_eq {Γ : SG} {i : Nat} {v : Option D} (h : i < Γ.length) : (Γ.set i v)[i]? = some v := List.getElem?_set_self h
theorem eqv2 {a b c d : Int} : PyData.eqv (.tuple [.int a, .int b]) (.tuple [.int c, .int d]) = decide (a = c ∧ b = d) := by
  show ((a == c) && ((b == d) && true)) = _
  by_cases h1 : a = c <;> by_cases h2 : b = d <;> simp [h1, h2]
/-- a list that stands in the module for ever -/
def Ls (K : PySem.W.Frag) (a : Addr) (vs : List V) : Prop := ∀ H, SqL K H a vs
end
end J
namespace J
open PySem
structure Deed where
  add : Int
  low : Option Int
  high : Option Int
  deriving DecidableEq
def dO : Option Int → D
  | none => .non
  | some i => .int i
def dDeed (x : Deed) : D := .tup [.int x.add, dO x.low, dO x.high]
def look : Deed := ⟨0, none, none⟩
def Deed.ok (x : Deed) : Prop := match x.low, x.high with
  | some l, some h => l < h ∨ (l = h ∧ x.add = 0)
  | _, _ => True
/-- max(low, found), min(high, found) as they are told -/
def mx (i j : Int) : Int := if j > i then j else i
def mn (i j : Int) : Int := if j < i then j else i
def topO (h : Option Int) (f : Int) : Int := match h with
  | none => f
  | some h => mn h f
def botO (l : Option Int) (f : Int) : Int := match l with
  | none => f
  | some l => mx l f
def put (x : Deed) (v : Int) : Int := topO x.high (botO x.low (v + x.add))
def whole (a : Int) (l h : Option Int) : Deed := match l with
  | none => ⟨a, l, h⟩
  | some l' => if h = some l' then ⟨0, l, h⟩ else ⟨a, l, h⟩
def thr (other : Deed) (own : Option Int) (e : Option Int) : Option Int := match e with
  | none => own
  | some v => some (put other v)
/-- one deed, then the other -/
def behind (a b : Deed) : Deed := whole (a.add + b.add) (thr b b.low a.low) (thr b b.high a.high)
theorem mn_le {h f : Int} : mn h f ≤ h := by unfold mn; split <;> omega
theorem mn_ge {l h f : Int} (h1 : l ≤ h) (h2 : l ≤ f) : l ≤ mn h f := by unfold mn; split <;> omega
theorem mx_ge {l f : Int} : l ≤ mx l f := by unfold mx; split <;> omega
theorem mx_le {l h f : Int} (h1 : l ≤ h) (h2 : f ≤ h) : mx l f ≤ h := by unfold mx; split <;> omega
theorem mn_mono {h f g : Int} (e : f ≤ g) : mn h f ≤ mn h g := by unfold mn; split <;> split <;> omega
theorem mx_mono {h f g : Int} (e : f ≤ g) : mx h f ≤ mx h g := by unfold mx; split <;> split <;> omega
theorem put_mono {x : Deed} {v w : Int} (h : v ≤ w) : put x v ≤ put x w := by
  obtain ⟨a, l, hh⟩ := x
  unfold put
  cases l <;> cases hh <;> simp only [topO, botO] <;> first | omega | exact mn_mono (by omega) | exact mx_mono (by omega) | exact mn_mono (mx_mono (by omega))
/-- a deed's ends are no less than told -/
def Deed.le (x : Deed) : Prop := match x.low, x.high with
  | some l, some h => l ≤ h
  | _, _ => True
theorem Deed.ok.le {x : Deed} (h : x.ok) : x.le := by
  obtain ⟨a, l, hh⟩ := x
  cases l <;> cases hh <;> simp only [Deed.ok, Deed.le] at * <;> omega
theorem put_low {x : Deed} (h : x.le) {l : Int} (e : x.low = some l) (v : Int) : l ≤ put x v := by
  obtain ⟨a, l', hh⟩ := x
  cases e
  unfold put
  cases hh with
  | none => exact mx_ge
  | some t => exact mn_ge h mx_ge
theorem put_high {x : Deed} {l : Int} (e : x.high = some l) (v : Int) : put x v ≤ l := by
  obtain ⟨a, l', hh⟩ := x
  cases e
  exact mn_le
theorem whole_ok {a : Int} {l h : Option Int} (k : ∀ x y, l = some x → h = some y → x ≤ y) : (whole a l h).ok := by
  cases l with
  | none => simp [whole, Deed.ok]
  | some x =>
    cases h with
    | none => simp [whole, Deed.ok]
    | some y =>
      have := k x y rfl rfl
      show (if some y = some x then (⟨0, some x, some y⟩ : Deed) else ⟨a, some x, some y⟩).ok
      by_cases e : some y = some x
      · rw [if_pos e]
        cases e
        simp [Deed.ok]
      · rw [if_neg e]
        have : y ≠ x := fun q => e (by rw [q])
        simp only [Deed.ok]
        omega
theorem behind_ok {a b : Deed} (ha : a.ok) (hb : b.ok) : (behind a b).ok := by
  refine whole_ok fun x y h1 h2 => ?_
  obtain ⟨aa, al, ah⟩ := a
  cases al with
  | none =>
    cases ah with
    | none =>
      have h1 : b.low = some x := h1
      have h2 : b.high = some y := h2
      have := hb.le
      unfold Deed.le at this
      rw [h1, h2] at this
      exact this
    | some u =>
      have h1 : b.low = some x := h1
      cases h2
      exact put_low hb.le h1 _
  | some u =>
    cases ah with
    | none =>
      cases h1
      have h2 : b.high = some y := h2
      exact put_high h2 _
    | some t =>
      cases h1
      cases h2
      exact put_mono (by have := ha.le; simpa [Deed.le] using this)
/-- how far a deed reaches -/
def Deed.bd (n : Int) (x : Deed) : Prop := -n ≤ x.add ∧ x.add ≤ n ∧ (∀ l, x.low = some l → -n ≤ l ∧ l ≤ n) ∧ ∀ h, x.high = some h → -n ≤ h ∧ h ≤ n
theorem put_bd {n m : Int} {x : Deed} (h : x.bd n) {v : Int} (hv : -m ≤ v ∧ v ≤ m) (hm : 0 ≤ m) : -(n + m) ≤ put x v ∧ put x v ≤ n + m := by
  obtain ⟨h1, h2, h3, h4⟩ := h
  obtain ⟨a, l, t⟩ := x
  simp only at *
  unfold put
  cases l with
  | none =>
    cases t with
    | none => simp only [topO, botO]; omega
    | some t =>
      have := h4 t rfl
      have e := mn_le (h := t) (f := v + a)
      have e2 := mn_ge (l := -(n + m)) (h := t) (f := v + a) (by omega) (by omega)
      simp only [topO, botO]
      omega
  | some l =>
    have := h3 l rfl
    cases t with
    | none =>
      have e := mx_ge (l := l) (f := v + a)
      have e2 := mx_le (l := l) (h := n + m) (f := v + a) (by omega) (by omega)
      simp only [topO, botO]; omega
    | some t =>
      have := h4 t rfl
      have e := mx_ge (l := l) (f := v + a)
      have e3 := mn_le (h := t) (f := mx l (v + a))
      have e2 := mn_ge (l := -(n + m)) (h := t) (f := mx l (v + a)) (by omega) (by omega)
      simp only [topO, botO]
      omega
theorem Deed.bd.mono {n m : Int} {x : Deed} (h : x.bd n) (e : n ≤ m) : x.bd m := ⟨by have := h.1; omega, by have := h.2.1; omega, fun l q => by have := h.2.2.1 l q; omega, fun l q => by have := h.2.2.2 l q; omega⟩
theorem whole_bd {n : Int} {a : Int} {l h : Option Int} (hn : 0 ≤ n) (ha : -n ≤ a ∧ a ≤ n) (hl : ∀ x, l = some x → -n ≤ x ∧ x ≤ n) (hh : ∀ x, h = some x → -n ≤ x ∧ x ≤ n) : (whole a l h).bd n := by
  unfold whole
  cases l with
  | none => exact ⟨ha.1, ha.2, hl, hh⟩
  | some x =>
    simp only
    split
    · exact ⟨by simp only; omega, by simp only; omega, hl, hh⟩
    · exact ⟨ha.1, ha.2, hl, hh⟩
theorem behind_bd {n m : Int} {a b : Deed} (ha : a.bd n) (hb : b.bd m) (hn : 0 ≤ n) (hm : 0 ≤ m) : (behind a b).bd (n + m) := by
  refine whole_bd (by omega) (by have := ha.1; have := ha.2.1; have := hb.1; have := hb.2.1; omega) (fun x q => ?_) (fun x q => ?_)
  · cases e : a.low with
    | none =>
      rw [e] at q
      have := hb.2.2.1 x q
      omega
    | some u =>
      rw [e] at q
      cases q
      have := put_bd hb (ha.2.2.1 u e) hn
      omega
  · cases e : a.high with
    | none =>
      rw [e] at q
      have := hb.2.2.2 x q
      omega
    | some u =>
      rw [e] at q
      cases q
      have := put_bd hb (ha.2.2.2 u e) hn
      omega
end J
namespace J
open PySem PySem.Spec PyProof.Rows L2
/-- the function object of the def d stands at f -/
abbrev FD (K : PySem.W.Frag) (d : He.DefD) (f : Addr) (fd : FuncData) : Prop := FunD K d.name d.qual d.params d.body d.scope (d.dvs K) (d.kws K) f fd
/-- the def d is what the module calls x -/
def Dat (K : PySem.W.Frag) (mg : Str → Option Value) (d : He.DefD) (x : Str) : Prop := ∃ f fd, FD K d f fd ∧ mg x = some (.ref f)
/-- .. what the class at C calls m -/
def DatM (K : PySem.W.Frag) (C : Addr) (d : He.DefD) (m : Str) : Prop := ∃ f fd, FD K d f fd ∧ Meth K C m f
/-- what the module calls x keeps S -/
def Fn (P : Program) (w : World) (K : PySem.W.Frag) (mg : Str → Option Value) (base : Heap) (k : Nat) (x : Str) (ps : List Str) (dvs : List D) (S : AS) : Prop := ∃ f, Cal P w K mg base k f ps dvs S ∧ mg x = some (.ref f)
def Mn (P : Program) (w : World) (K : PySem.W.Frag) (mg : Str → Option Value) (base : Heap) (k : Nat) (C : Addr) (m : Str) (ps : List Str) (dvs : List D) (S : AS) : Prop := ∃ f, Cal P w K mg base k f ps dvs S ∧ Meth K C m f
section
variable {P : Program} {w : World} {K : PySem.W.Frag} {mg : Str → Option Value} {base : Heap}
theorem cal_of {nm qual : Str} {st : Stmt} {f : Addr} {fd : FuncData} {N ps : List Str} {k : Nat} {S : AS} (F : FunD K nm qual (defArgs st) (defBody st) (defScope st) [] [] f fd) (Sc : FnScope N ps (defScope st)) (hl : ∀ ds G R, S ds G R → ds.length = ps.length)
    (hbd : ∀ (kV doc pm : Value) (an : Option Addr) (cdv ct : Value) (us : List Value), us.length = ps.length → bindArgs (PySem.W.fnOf nm qual (defArgs st) (defBody st) (defScope st) .none kV doc pm an cdv ct) ⟨us, []⟩ = pure (ps.zip us))
    (hb : ∀ (cdv : Value) (A : Around) (outer : List Env) (s : Shared) (H : Hp) (E : XK), Room k (A.deeper (envOfC qual (defScope st) s.heap.objs.size f cdv)) → ∀ ds G R, S ds G R →
      SB (cxOf CX0 P w K mg base N qual (defScope st) f cdv A outer s H E).nox (defBody st) (startD N ds) G ⟨fun _ G' => R .non G', fun d G1 => ∃ G2, Sub G2 G1 ∧ R d G2, fun _ _ => False, fun _ _ => False⟩) : Cal P w K mg base (k + 1) f ps [] S :=
  ⟨⟨fd, [], [], ok_def F Sc hl hb, F.bindsN hbd, .nil, fun _ => Iss.nil⟩, F.kp⟩
end
end J
namespace J
open PySem PySem.Spec PyProof.Rows L2
/-- what the module has not bound itself: built-ins; its constants -/
structure Blt (K : PySem.W.Frag) (mg : Str → Option Value) : Prop where
  isi : mg "isinstance" = none
  int : mg "int" = none
  bool : mg "bool" = none
  tup : mg "tuple" = none
  len : mg "len" = none
  all : mg "all" = none
  lst : mg "list" = none
  rng : mg "range" = none
  max : mg "max" = none
  min : mg "min" = none
  str : mg "str" = none
  zip : mg "zip" = none
  enum : mg "enumerate" = none
  set : mg "set" = none
  boxes : ∃ t, mg "MOST_BOXES" = some (.int 16 t)
  hands : ∃ t, mg "HANDS" = some (.int 16 t)
  room : ∃ t, mg "MOST_ROOM" = some (.int 6 t)
  kept : ∃ t, mg "MOST_KEPT" = some (.int 6 t)
  asks : ∃ t, mg "MOST_ASKS" = some (.int 40 t)
  beats : ∃ t, mg "MOST_BEATS" = some (.int 300 t)
  figs : ∃ t, mg "FIGURES" = some (.str "0123456789" t)
  parting : ∃ t, mg "PARTING" = some (.str "; " t)
  nothing : ∃ t, mg "NOTHING" = some (.str "none" t)
  look : ∃ a, mg "LOOK" = some (.ref a) ∧ ∀ I, Is K I (dDeed look) (.ref a)
  parts : ∃ a, mg "PARTS" = some (.ref a) ∧ ∀ H, SqL K H a [.str "add", .str "low", .str "high"]
theorem bt_isi : bootBuiltins "isinstance" = some (.builtin "isinstance") := by decide +kernel
theorem bt_int : bootBuiltins "int" = some (.type "int") := by decide +kernel
theorem bt_bool : bootBuiltins "bool" = some (.type "bool") := by decide +kernel
theorem bt_tup : bootBuiltins "tuple" = some (.type "tuple") := by decide +kernel
theorem bt_len : bootBuiltins "len" = some (.builtin "len") := by decide +kernel
theorem bt_all : bootBuiltins "all" = some (.builtin "all") := by decide +kernel
theorem bt_lst : bootBuiltins "list" = some (.type "list") := by decide +kernel
theorem bt_max : bootBuiltins "max" = some (.builtin "max") := by decide +kernel
theorem bt_min : bootBuiltins "min" = some (.builtin "min") := by decide +kernel
theorem bt_str : bootBuiltins "str" = some (.type "str") := by decide +kernel
theorem k_ii : kitB "int" "int" = some true := by decide +kernel
theorem k_ib : kitB "int" "bool" = some false := by decide +kernel
theorem k_tt : kitB "tuple" "tuple" = some true := by decide +kernel
theorem k_ss : kitB "str" "str" = some true := by decide +kernel
theorem le1000 {n m : Nat} (h : n ≤ m) (e : m ≤ 1000) : n ≤ 1000 := Nat.le_trans h e
section
variable {P : Program} {w : World} {K : PySem.W.Frag} {mg : Str → Option Value} {base : Heap}
abbrev sc7 (N ps : List Str) (st : Stmt) : Prop := FnScope N ps (defScope st)
def S_is_whole : AS := fun ds G R => ∃ i : Int, ds = [.int i] ∧ R (.bl true) G
theorem sc_is_whole : FnScope ["thing"] ["thing"] (defScope (top 14)) := ⟨rfl, rfl, rfl, by decide +kernel, rfl, by decide +kernel, by decide +kernel⟩
theorem f_is_whole (T : Blt K mg) (dt : Dat K mg d_is_whole "is_whole") : Fn P w K mg base 1 "is_whole" ["thing"] [] S_is_whole := by
  obtain ⟨f, fd, F, hm⟩ := dt
  refine ⟨f, cal_of F sc_is_whole (fun ds G R h => ?_) (fun _ _ _ _ _ _ us hl => match us, hl with | [_], _ => rfl) (fun cdv A outer s H E hr ds G R h => ?_), hm⟩
  · obtain ⟨i, rfl, _⟩ := h
    rfl
  · obtain ⟨i, rfl, k⟩ := h
    refine b_cons (s_ret (e_and (e_callB T.isi bt_isi (a_cons (e_var 0 rfl (a_cons (e_ty T.int bt_int (a_nil (c_isi rfl k_ii ⟨true, rfl, iteTT ?_⟩)))))))))
    refine e_one (e_not (e_callB T.isi bt_isi (a_cons (e_var 0 rfl (a_cons (e_ty T.bool bt_bool (a_nil (c_isi rfl k_ib ⟨false, rfl, ?_⟩))))))))
    exact ⟨G, Sub.refl G, k⟩
def S_is_within : AS := fun ds G R => ∃ i a b : Int, ds = [.int i, .int a, .int b] ∧ R (.bl (decide (a ≤ i) && decide (i ≤ b))) G
theorem sc_is_within : FnScope ["thing", "least", "most"] ["thing", "least", "most"] (defScope (top 15)) := ⟨rfl, rfl, rfl, by decide +kernel, rfl, by decide +kernel, by decide +kernel⟩
theorem f_is_within (dt : Dat K mg d_is_within "is_within") (c1 : Fn P w K mg base 1 "is_whole" ["thing"] [] S_is_whole) : Fn P w K mg base 2 "is_within" ["thing", "least", "most"] [] S_is_within := by
  obtain ⟨f, fd, F, hm⟩ := dt
  refine ⟨f, cal_of F sc_is_within (fun ds G R h => ?_) (fun _ _ _ _ _ _ us hl => match us, hl with | [_, _, _], _ => rfl) (fun cdv A outer s H E hr ds G R h => ?_), hm⟩
  · obtain ⟨i, a, b, rfl, _⟩ := h
    rfl
  · obtain ⟨i, a, b, rfl, k⟩ := h
    obtain ⟨f1, q1, m1⟩ := c1
    refine b_cons (s_ret (e_and (e_call q1 m1 (hr.mono (by decide)) (a_cons (e_var 0 rfl (a_nil ⟨i, rfl, true, rfl, iteTT ?_⟩))))))
    refine e_one (e_chain (e_var 1 rfl (e_var 0 rfl (o_le ⟨_, rfl, ?_⟩))))
    refine ite_b (fun e => ?_) (fun e => ?_)
    · refine e_var 2 rfl (o_le ?_)
      rw [e, Bool.true_and] at k
      exact ⟨G, Sub.refl G, k⟩
    · rw [e, Bool.false_and] at k
      exact ⟨G, Sub.refl G, k⟩
theorem within_t {a i b : Int} (h : a ≤ i ∧ i ≤ b) : (decide (a ≤ i) && decide (i ≤ b)) = true := by simp [h]
def S_is_row : AS := fun ds G R => ∃ xs, ds = [.tup xs] ∧ R (.bl true) G
theorem sc_is_row : FnScope ["thing"] ["thing"] (defScope (top 16)) := ⟨rfl, rfl, rfl, by decide +kernel, rfl, by decide +kernel, by decide +kernel⟩
theorem f_is_row (T : Blt K mg) (dt : Dat K mg d_is_row "is_row") : Fn P w K mg base 1 "is_row" ["thing"] [] S_is_row := by
  obtain ⟨f, fd, F, hm⟩ := dt
  refine ⟨f, cal_of F sc_is_row (fun ds G R h => ?_) (fun _ _ _ _ _ _ us hl => match us, hl with | [_], _ => rfl) (fun cdv A outer s H E hr ds G R h => ?_), hm⟩
  · obtain ⟨i, rfl, _⟩ := h
    rfl
  · obtain ⟨i, rfl, k⟩ := h
    refine b_cons (s_ret (e_callB T.isi bt_isi (a_cons (e_var 0 rfl (a_cons (e_ty T.tup bt_tup (a_nil (c_isi rfl k_tt ?_))))))))
    exact ⟨G, Sub.refl G, k⟩
def S_is_row_of : AS := fun ds G R => ∃ xs, ∃ n : Int, ds = [.tup xs, .int n] ∧ R (.bl (decide ((xs.length : Int) = n))) G
theorem sc_is_row_of : FnScope ["thing", "many"] ["thing", "many"] (defScope (top 17)) := ⟨rfl, rfl, rfl, by decide +kernel, rfl, by decide +kernel, by decide +kernel⟩
theorem f_is_row_of (T : Blt K mg) (dt : Dat K mg d_is_row_of "is_row_of") : Fn P w K mg base 1 "is_row_of" ["thing", "many"] [] S_is_row_of := by
  obtain ⟨f, fd, F, hm⟩ := dt
  refine ⟨f, cal_of F sc_is_row_of (fun ds G R h => ?_) (fun _ _ _ _ _ _ us hl => match us, hl with | [_, _], _ => rfl) (fun cdv A outer s H E hr ds G R h => ?_), hm⟩
  · obtain ⟨i, n, rfl, _⟩ := h
    rfl
  · obtain ⟨i, n, rfl, k⟩ := h
    refine b_cons (s_ret (e_and (e_callB T.isi bt_isi (a_cons (e_var 0 rfl (a_cons (e_ty T.tup bt_tup (a_nil (c_isi rfl k_tt ⟨true, rfl, iteTT ?_⟩)))))))))
    refine e_one (e_cmp (e_callB T.len bt_len (a_cons (e_var 0 rfl (a_nil (c_lenT .tup ?_))))))
    refine e_var 1 rfl (o_eqI ?_)
    exact ⟨G, Sub.refl G, k⟩
def S_want_within : AS := fun ds G R => ∃ i a b : Int, ds = [.int i, .int a, .int b] ∧ a ≤ i ∧ i ≤ b ∧ R .non G
theorem sc_want_within : FnScope ["thing", "least", "most"] ["thing", "least", "most"] (defScope (top 18)) := ⟨rfl, rfl, rfl, by decide +kernel, rfl, by decide +kernel, by decide +kernel⟩
theorem f_want_within (dt : Dat K mg d_want_within "want_within") (c1 : Fn P w K mg base 2 "is_within" ["thing", "least", "most"] [] S_is_within) : Fn P w K mg base 3 "want_within" ["thing", "least", "most"] [] S_want_within := by
  obtain ⟨f, fd, F, hm⟩ := dt
  refine ⟨f, cal_of F sc_want_within (fun ds G R h => ?_) (fun _ _ _ _ _ _ us hl => match us, hl with | [_, _, _], _ => rfl) (fun cdv A outer s H E hr ds G R h => ?_), hm⟩
  · obtain ⟨i, a, b, rfl, _⟩ := h
    rfl
  · obtain ⟨i, a, b, rfl, h1, h2, k⟩ := h
    obtain ⟨f1, q1, m1⟩ := c1
    refine b_cons (s_if (t_not (t_val (e_call q1 m1 (hr.mono (by decide)) (a_cons (e_var 0 rfl (a_cons (e_var 1 rfl (a_cons (e_var 2 rfl (a_nil ⟨i, a, b, rfl, _, rfl, ?_⟩)))))))))))
    rw [within_t ⟨h1, h2⟩]
    exact iteFF (b_nil (b_nil k))
def S_want_net : AS := fun ds G R => ∃ k : Int, ds = [.int k, .int 4] ∧ 0 ≤ k ∧ k ≤ 4 ∧ R .non G
theorem sc_want_net : FnScope ["k", "deepest"] ["k", "deepest"] (defScope (top 19)) := ⟨rfl, rfl, rfl, by decide +kernel, rfl, by decide +kernel, by decide +kernel⟩
theorem f_want_net (dt : Dat K mg d_want_net "want_net") (c1 : Fn P w K mg base 2 "is_within" ["thing", "least", "most"] [] S_is_within) : Fn P w K mg base 3 "want_net" ["k", "deepest"] [.int 4] S_want_net := by
  obtain ⟨f, fd, F, hm⟩ := dt
  obtain ⟨ds0, hv, hb⟩ := FunD.binds1 (ps := ["k", "deepest"]) F 1 0 (by exact List.cons_ne_nil _ _) rfl (fun _ _ _ _ _ _ _ us its h1 h2 => match us, its, h1, h2 with | [_], [_], _, _ => ⟨_, rfl, rfl⟩)
  refine ⟨f, ⟨⟨fd, [.int 4], ds0, ok_def F sc_want_net (fun ds G R h => ?_) (fun cdv A outer s H E hr ds G R h => ?_), hb, hv, fun _ => Iss.one Is.int⟩, F.kp⟩, hm⟩
  · obtain ⟨i, rfl, _⟩ := h
    rfl
  · obtain ⟨i, rfl, h1, h2, k⟩ := h
    obtain ⟨f1, q1, m1⟩ := c1
    refine b_cons (s_if (t_not (t_val (e_call q1 m1 (hr.mono (by decide)) (a_cons (e_var 0 rfl (a_cons (e_int (a_cons (e_var 1 rfl (a_nil ⟨i, 0, 4, rfl, _, rfl, ?_⟩)))))))))))
    rw [within_t ⟨h1, h2⟩]
    exact iteFF (b_nil (b_nil k))
def S_is_end : AS := fun ds G R => ∃ o, ds = [dO o] ∧ R (.bl true) G
theorem sc_is_end : FnScope ["thing"] ["thing"] (defScope (top 22)) := ⟨rfl, rfl, rfl, by decide +kernel, rfl, by decide +kernel, by decide +kernel⟩
theorem f_is_end (dt : Dat K mg d_is_end "is_end") (c1 : Fn P w K mg base 1 "is_whole" ["thing"] [] S_is_whole) : Fn P w K mg base 2 "is_end" ["thing"] [] S_is_end := by
  obtain ⟨f, fd, F, hm⟩ := dt
  refine ⟨f, cal_of F sc_is_end (fun ds G R h => ?_) (fun _ _ _ _ _ _ us hl => match us, hl with | [_], _ => rfl) (fun cdv A outer s H E hr ds G R h => ?_), hm⟩
  · obtain ⟨i, rfl, _⟩ := h
    rfl
  · obtain ⟨o, rfl, k⟩ := h
    obtain ⟨f1, q1, m1⟩ := c1
    refine b_cons (s_ret (e_or (e_cmp (e_var 0 rfl (e_non (o_is ⟨_, rfl, ?_⟩))))))
    cases o with
    | none => exact iteTT ⟨G, Sub.refl G, k⟩
    | some i => exact iteFF (e_one (e_call q1 m1 (hr.mono (by decide)) (a_cons (e_var 0 rfl (a_nil ⟨i, rfl, G, Sub.refl G, k⟩)))))
def S_is_deed : AS := fun ds G R => ∃ x : Deed, ds = [dDeed x] ∧ x.ok ∧ R (.bl true) G
theorem sc_is_deed : FnScope ["thing", "add", "low", "high"] ["thing"] (defScope (top 23)) := ⟨rfl, rfl, rfl, by decide +kernel, rfl, by decide +kernel, by decide +kernel⟩
theorem f_is_deed (dt : Dat K mg d_is_deed "is_deed") (c1 : Fn P w K mg base 1 "is_row_of" ["thing", "many"] [] S_is_row_of) (c2 : Fn P w K mg base 1 "is_whole" ["thing"] [] S_is_whole) (c3 : Fn P w K mg base 2 "is_end" ["thing"] [] S_is_end) : Fn P w K mg base 3 "is_deed" ["thing"] [] S_is_deed := by
  obtain ⟨f, fd, F, hm⟩ := dt
  refine ⟨f, cal_of F sc_is_deed (fun ds G R h => ?_) (fun _ _ _ _ _ _ us hl => match us, hl with | [_], _ => rfl) (fun cdv A outer s H E hr ds G R h => ?_), hm⟩
  · obtain ⟨i, rfl, _⟩ := h
    rfl
  · obtain ⟨x, rfl, ok, k⟩ := h
    obtain ⟨f1, q1, m1⟩ := c1
    obtain ⟨f2, q2, m2⟩ := c2
    obtain ⟨f3, q3, m3⟩ := c3
    refine b_cons (s_if (t_w (w_or (t_not (t_val (e_call q1 m1 (hr.mono (by decide)) (a_cons (e_var 0 rfl (a_cons (e_int (a_nil ⟨_, 3, rfl, _, rfl, iteFF ?_⟩)))))))))))
    refine w_or (t_not (t_val (e_call q2 m2 (hr.mono (by decide)) (a_cons (e_ix (e_var 0 rfl (e_int (i_tup (n := 0) .tup rfl (a_nil ⟨_, rfl, _, rfl, iteFF ?_⟩)))))))))
    refine w_or (t_not (t_val (e_call q3 m3 (hr.mono (by decide)) (a_cons (e_ix (e_var 0 rfl (e_int (i_tup (n := 1) .tup rfl (a_nil ⟨_, rfl, _, rfl, iteFF ?_⟩)))))))))
    refine w_or1 (t_not (t_val (e_call q3 m3 (hr.mono (by decide)) (a_cons (e_ix (e_var 0 rfl (e_int (i_tup (n := 2) .tup rfl (a_nil ⟨_, rfl, _, rfl, iteFF (b_nil ?_)⟩)))))))))
    refine b_cons (s_asg (pg_tup rfl (pgs_cons (pg_name (i := 1) sc_is_deed.nd rfl (Or.inl rfl)) (pgs_cons (pg_name (i := 2) sc_is_deed.nd rfl (Or.inl rfl)) (pgs_cons (pg_name (i := 3) sc_is_deed.nd rfl (Or.inl rfl)) pgs_nil)))) (e_var 0 rfl ⟨_, (tg_tup (tgs_cons tg_name (tgs_cons tg_name (tgs_cons tg_name tgs_nil)))), ?_⟩))
    obtain ⟨a, l, hh⟩ := x
    refine b_cons (s_if (t_w (w_or (t_cmp (e_var 2 rfl (e_non (o_is ⟨_, rfl, ?_⟩)))))))
    cases l with
    | none => exact iteTT (iteTT (b_one (s_ret (e_bl ⟨G, Sub.refl G, k⟩))))
    | some l =>
      refine iteFF (w_or1 (t_cmp (e_var 3 rfl (e_non (o_is ⟨_, rfl, ?_⟩)))))
      cases hh with
      | none => exact iteTT (b_one (s_ret (e_bl ⟨G, Sub.refl G, k⟩)))
      | some t =>
        refine iteFF (b_nil (b_one (s_ret (e_or (e_cmp (e_var 2 rfl (e_var 3 rfl (o_lt ⟨_, rfl, ?_⟩))))))))
        have ok : l < t ∨ (l = t ∧ a = 0) := ok
        refine ite_b (fun e => ⟨G, Sub.refl G, k⟩) (fun e => ?_)
        have e' : ¬ l < t := of_decide_eq_false e
        obtain ⟨h1, h2⟩ := ok.resolve_left e'
        refine e_one (e_and (e_cmp (e_var 2 rfl (e_var 3 rfl (o_eqI ⟨_, rfl, ite_t (decide_eq_true h1) ?_⟩)))))
        refine e_one (e_cmp (e_var 1 rfl (e_int (o_eqI ?_))))
        rw [decide_eq_true h2]
        exact ⟨G, Sub.refl G, k⟩
def S_want_deed : AS := fun ds G R => ∃ x : Deed, ds = [dDeed x] ∧ x.ok ∧ R .non G
theorem sc_want_deed : FnScope ["thing"] ["thing"] (defScope (top 24)) := ⟨rfl, rfl, rfl, by decide +kernel, rfl, by decide +kernel, by decide +kernel⟩
theorem f_want_deed (dt : Dat K mg d_want_deed "want_deed") (c1 : Fn P w K mg base 3 "is_deed" ["thing"] [] S_is_deed) : Fn P w K mg base 4 "want_deed" ["thing"] [] S_want_deed := by
  obtain ⟨f, fd, F, hm⟩ := dt
  refine ⟨f, cal_of F sc_want_deed (fun ds G R h => ?_) (fun _ _ _ _ _ _ us hl => match us, hl with | [_], _ => rfl) (fun cdv A outer s H E hr ds G R h => ?_), hm⟩
  · obtain ⟨i, rfl, _⟩ := h
    rfl
  · obtain ⟨x, rfl, ok, k⟩ := h
    obtain ⟨f1, q1, m1⟩ := c1
    exact b_cons (s_if (t_not (t_val (e_call q1 m1 (hr.mono (by decide)) (a_cons (e_var 0 rfl (a_nil ⟨x, rfl, ok, _, rfl, iteFF (b_nil (b_nil k))⟩)))))))
def S_put_through : AS := fun ds G R => ∃ x : Deed, ∃ v : Int, ds = [dDeed x, .int v] ∧ R (.int (put x v)) G
theorem sc_put_through : FnScope ["deed", "value", "found", "add", "low", "high"] ["deed", "value"] (defScope (top 25)) := ⟨rfl, rfl, rfl, by decide +kernel, rfl, by decide +kernel, by decide +kernel⟩
theorem f_put_through (T : Blt K mg) (dt : Dat K mg d_put_through "put_through") : Fn P w K mg base 1 "put_through" ["deed", "value"] [] S_put_through := by
  obtain ⟨f, fd, F, hm⟩ := dt
  refine ⟨f, cal_of F sc_put_through (fun ds G R h => ?_) (fun _ _ _ _ _ _ us hl => match us, hl with | [_, _], _ => rfl) (fun cdv A outer s H E hr ds G R h => ?_), hm⟩
  · obtain ⟨x, v, rfl, _⟩ := h
    rfl
  · obtain ⟨x, v, rfl, k⟩ := h
    refine b_cons (s_asg (pg_tup rfl (pgs_cons (pg_name (i := 3) sc_put_through.nd rfl (Or.inl rfl)) (pgs_cons (pg_name (i := 4) sc_put_through.nd rfl (Or.inl rfl)) (pgs_cons (pg_name (i := 5) sc_put_through.nd rfl (Or.inl rfl)) pgs_nil)))) (e_var 0 rfl ⟨_, (tg_tup (tgs_cons tg_name (tgs_cons tg_name (tgs_cons tg_name tgs_nil)))), ?_⟩))
    refine b_cons (s_set 2 sc_put_through.nd (e_bin (e_var 1 rfl (e_var 3 rfl (o_add ?_)))))
    obtain ⟨a, l, hh⟩ := x
    have fin : ∀ (Γ : SG) (z : Int), Γ[2]? = some (some (.int z)) → Γ[5]? = some (some (dO hh)) → topO hh z = put ⟨a, l, hh⟩ v →
        SB (cxOf CX0 P w K mg base ["deed", "value", "found", "add", "low", "high"] "put_through" (defScope (top 25)) f cdv A outer s H E).nox
          ((defBody (top 25)).drop 3) Γ G ⟨fun _ G' => R .non G', fun d G1 => ∃ G2, Sub G2 G1 ∧ R d G2, fun _ _ => False, fun _ _ => False⟩ := fun Γ z h2 h5 e => by
      refine b_one (s_ret (e_ifexp (t_cmp (e_var 5 h5 (e_non (o_is ⟨_, rfl, ?_⟩))))))
      cases hh with
      | none => exact iteTT (e_var 2 h2 ⟨G, Sub.refl G, by rw [← e] at k; exact k⟩)
      | some t => exact iteFF (e_callB T.min bt_min (a_cons (e_var 5 h5 (a_cons (e_var 2 h2 (a_nil (c_min ⟨G, Sub.refl G, by rw [← e] at k; exact k⟩)))))))
    refine b_cons (s_if (t_cmp (e_var 4 rfl (e_non (o_isnot ⟨_, rfl, ?_⟩)))))
    cases l with
    | none => exact iteFF (b_nil (fin _ _ rfl rfl rfl))
    | some l => exact iteTT (b_one (s_set 2 sc_put_through.nd (e_callB T.max bt_max (a_cons (e_var 4 rfl (a_cons (e_var 2 rfl (a_nil (c_max (fin _ _ rfl rfl rfl))))))))))
def S_whole_deed : AS := fun ds G R => ∃ a l h, ds = [.int a, dO l, dO h] ∧ R (dDeed (whole a l h)) G
theorem sc_whole_deed : FnScope ["add", "low", "high"] ["add", "low", "high"] (defScope (top 26)) := ⟨rfl, rfl, rfl, by decide +kernel, rfl, by decide +kernel, by decide +kernel⟩
theorem f_whole_deed (dt : Dat K mg d_whole_deed "whole_deed") : Fn P w K mg base 1 "whole_deed" ["add", "low", "high"] [] S_whole_deed := by
  obtain ⟨f, fd, F, hm⟩ := dt
  refine ⟨f, cal_of F sc_whole_deed (fun ds G R h => ?_) (fun _ _ _ _ _ _ us hl => match us, hl with | [_, _, _], _ => rfl) (fun cdv A outer s H E hr ds G R h => ?_), hm⟩
  · obtain ⟨a, l, t, rfl, _⟩ := h
    rfl
  · obtain ⟨a, l, t, rfl, k⟩ := h
    refine b_cons (s_if (t_w (w_and (t_cmp (e_var 1 rfl (e_non (o_isnot ⟨_, rfl, ?_⟩)))))))
    cases l with
    | none => exact iteFF (iteFF (b_nil (b_one (s_ret (e_tup (a_cons (e_var 0 rfl (a_cons (e_var 1 rfl (a_cons (e_var 2 rfl (a_nil ⟨by show 3 ≤ 1000; decide, G, Sub.refl G, k⟩))))))))))))
    | some l =>
      cases t with
      | none =>
        refine iteTT (w_and1 (t_cmp (e_var 1 rfl (e_var 2 rfl (o_eq (x := .int l) (y := .non) ⟨_, rfl, iteFF (b_nil ?_)⟩)))))
        exact b_one (s_ret (e_tup (a_cons (e_var 0 rfl (a_cons (e_var 1 rfl (a_cons (e_var 2 rfl (a_nil ⟨by show 3 ≤ 1000; decide, G, Sub.refl G, k⟩)))))))))
      | some t =>
        refine iteTT (w_and1 (t_cmp (e_var 1 rfl (e_var 2 rfl (o_eqI ⟨_, rfl, ite_b (fun e => ?_) (fun e => ?_)⟩)))))
        · have e : l = t := of_decide_eq_true e
          refine b_one (s_ret (e_tup (a_cons (e_int (a_cons (e_var 1 rfl (a_cons (e_var 2 rfl (a_nil ⟨by show 3 ≤ 1000; decide, G, Sub.refl G, ?_⟩)))))))))
          rw [show whole a (some l) (some t) = ⟨0, some l, some t⟩ from if_pos (by rw [e])] at k
          exact k
        · have e : ¬ l = t := of_decide_eq_false e
          refine b_nil (b_one (s_ret (e_tup (a_cons (e_var 0 rfl (a_cons (e_var 1 rfl (a_cons (e_var 2 rfl (a_nil ⟨by show 3 ≤ 1000; decide, G, Sub.refl G, ?_⟩))))))))))
          rw [show whole a (some l) (some t) = ⟨a, some l, some t⟩ from if_neg (fun q => e (Option.some.inj q).symm)] at k
          exact k
end
end J
namespace J
open PySem PySem.Spec PyProof.Rows L2
theorem tv0 {α : Type} {x y : α} {l : List α} : (x :: l)[0]? = some x := rfl
structure Ask where
  hand : Nat
  box : Nat
  deed : Deed
def dAsk (a : Ask) : D := .tup [.int (a.hand : Nat), .int (a.box : Nat), dDeed a.deed]
def Ask.ok (n : Nat) (a : Ask) : Prop := a.hand < 16 ∧ a.box < n ∧ a.deed.ok
def dInts (xs : List Int) : D := .tup (xs.map D.int)
/-- a list or a tuple of these -/
def Sq (G : Gp) (d : D) (ds : List D) : Prop := Lv G d ds ∨ Tv d ds
section
variable {P : Program} {w : World} {K : PySem.W.Frag} {mg : Str → Option Value} {base : Heap}
theorem c_len {X : Cx} {G : Gp} {R : D → Gp → Prop} {d : D} {ds : List D} (l : Sq G d ds) (r : R (.int (ds.length : Nat)) G) : CC X (.builtin "len") [d] G R := by
  rcases l with l | l
  · exact c_lenL l r
  · exact c_lenT l r
theorem c_allT {X : Cx} {G : Gp} {R : D → Gp → Prop} {n : Nat} (r : R (.bl true) G) (hc : X.calm = true := by rfl) : CC X (.builtin "all") [.lst ((List.range n).map fun _ => .bl true)] G R := by
  have e : (List.range n).map (fun _ => D.bl true) = ((List.range n).map fun _ => true).map D.bl := by rw [List.map_map]; rfl
  rw [e]
  refine c_all .lst ?_ hc
  have : (((List.range n).map fun _ => true).all fun b => b) = true := by simp
  rw [this]
  exact r
theorem at0_map {α : Type} {f : α → D} {xs : List α} {i : Nat} (h : i < xs.length) : at0 (xs.map f) i = f xs[i] := at0_some (by rw [List.getElem?_map, List.getElem?_eq_getElem h]; rfl)
def fig (k line stage : Nat) : Nat := line / 2 ^ (k - stage) % 2
def lineOf (k stage number figure : Nat) : Nat := (number - number % 2 ^ (k - stage)) * 2 + figure * 2 ^ (k - stage) + number % 2 ^ (k - stage)
theorem fig_eq {k line stage : Nat} (h1 : k ≤ 4) (h2 : stage ≤ k) (h3 : line < 16) : Builtin.bitAnd ((line : Int) / 2 ^ ((k : Int) - stage).toNat) 1 = (fig k line stage : Nat) := by
  have h : ∀ k : Fin 5, ∀ stage : Fin 5, ∀ line : Fin 16, stage ≤ k → Builtin.bitAnd ((line.val : Int) / 2 ^ ((k.val : Int) - stage.val).toNat) 1 = (fig k.val line.val stage.val : Nat) := by decide +kernel
  exact h ⟨k, by omega⟩ ⟨stage, by omega⟩ ⟨line, h3⟩ h2
theorem side_eq {k box : Nat} (h1 : k ≤ 4) (h3 : box < 16) : Builtin.bitAnd (box : Int) (1 * 2 ^ ((k : Int)).toNat - 1) = (box % 2 ^ k : Nat) := by
  have h : ∀ k : Fin 5, ∀ box : Fin 16, Builtin.bitAnd (box.val : Int) (1 * 2 ^ ((k.val : Int)).toNat - 1) = (box.val % 2 ^ k.val : Nat) := by decide +kernel
  exact h ⟨k, by omega⟩ ⟨box, h3⟩
theorem below_eq {k stage number : Nat} (h1 : k ≤ 4) (h2 : stage ≤ k) (h3 : number < 8) : Builtin.bitAnd (number : Int) (1 * 2 ^ ((k : Int) - stage).toNat - 1) = (number % 2 ^ (k - stage) : Nat) := by
  have h : ∀ k : Fin 5, ∀ stage : Fin 5, ∀ number : Fin 8, stage ≤ k → Builtin.bitAnd (number.val : Int) (1 * 2 ^ ((k.val : Int) - stage.val).toNat - 1) = (number.val % 2 ^ (k.val - stage.val) : Nat) := by decide +kernel
  exact h ⟨k, by omega⟩ ⟨stage, by omega⟩ ⟨number, h3⟩ h2
theorem cpow_nat {i : Int} {j : Int} (h : 0 ≤ j) (h1 : j ≤ 4) (hi : 0 ≤ i) (h2 : i ≤ 1000) : CPow i j := ⟨h, by omega, by omega⟩
theorem p2_le {k : Nat} (h : k ≤ 4) : (2 : Nat) ^ k ≤ 16 := Nat.pow_le_pow_right (by omega) h
/-- a switch or a side of a net -/
def placeOk (k s n : Nat) : Prop := s ≤ k ∧ n < if s = 0 then 2 ^ k else 2 ^ (k - 1)
def dPl (p : Nat × Nat) : D := .tup [.int (p.1 : Nat), .int (p.2 : Nat)]
def S_one_behind : AS := fun ds G R => ∃ a b : Deed, ds = [dDeed a, dDeed b] ∧ R (dDeed (behind a b)) G
theorem sc_one_behind : FnScope ["one", "other", "low", "high"] ["one", "other"] (defScope (top 27)) := ⟨rfl, rfl, rfl, by decide +kernel, rfl, by decide +kernel, by decide +kernel⟩
theorem f_one_behind (T : Blt K mg) (dt : Dat K mg d_one_behind "one_behind") (c1 : Fn P w K mg base 1 "put_through" ["deed", "value"] [] S_put_through) (c2 : Fn P w K mg base 1 "whole_deed" ["add", "low", "high"] [] S_whole_deed) : Fn P w K mg base 2 "one_behind" ["one", "other"] [] S_one_behind := by
  obtain ⟨f, fd, F, hm⟩ := dt
  refine ⟨f, cal_of F sc_one_behind (fun ds G R h => ?_) (fun _ _ _ _ _ _ us hl => match us, hl with | [_, _], _ => rfl) (fun cdv A outer s H E hr ds G R h => ?_), hm⟩
  · obtain ⟨a, b, rfl, _⟩ := h
    rfl
  · obtain ⟨a, b, rfl, k⟩ := h
    obtain ⟨f1, q1, m1⟩ := c1
    obtain ⟨f2, q2, m2⟩ := c2
    refine b_cons <| s_par 2 3 sc_one_behind.nd <| a_cons <| e_ix <| e_var 1 rfl <| e_int <| i_tup (n := 1) .tup rfl ?_
    refine a_cons <| e_ix <| e_var 1 rfl <| e_int <| i_tup (n := 2) .tup rfl <| a_nil ⟨_, _, rfl, ?_⟩
    obtain ⟨aa, al, ah⟩ := a
    obtain ⟨ba, bl, bh⟩ := b
    have fin : ∀ (Γ : SG) (l h : Option Int), Γ[0]? = some (some (dDeed ⟨aa, al, ah⟩)) → Γ[1]? = some (some (dDeed ⟨ba, bl, bh⟩)) → Γ[2]? = some (some (dO l)) → Γ[3]? = some (some (dO h)) → whole (aa + ba) l h = behind ⟨aa, al, ah⟩ ⟨ba, bl, bh⟩ →
        SB (cxOf CX0 P w K mg base ["one", "other", "low", "high"] "one_behind" (defScope (top 27)) f cdv A outer s H E).nox
          ((defBody (top 27)).drop 3) Γ G ⟨fun _ G' => R .non G', fun d G1 => ∃ G2, Sub G2 G1 ∧ R d G2, fun _ _ => False, fun _ _ => False⟩ := fun Γ l h g0 g1 g2 g3 e => by
      refine b_one <| s_ret <| e_call q2 m2 (hr.mono (by decide)) <| a_cons <| e_bin <| e_ix <| e_var 0 g0 <| e_int <| i_tup (n := 0) .tup rfl <| e_ix <| e_var 1 g1 <| e_int <| i_tup (n := 0) .tup rfl <| o_add ?_
      refine a_cons <| e_var 2 g2 <| a_cons <| e_var 3 g3 <| a_nil ⟨_, l, h, rfl, ?_⟩
      rw [e]
      exact ⟨_, Sub.refl _, k⟩
    have fin2 : ∀ (Γ : SG) (l : Option Int), Γ[0]? = some (some (dDeed ⟨aa, al, ah⟩)) → Γ[1]? = some (some (dDeed ⟨ba, bl, bh⟩)) → Γ[2]? = some (some (dO l)) → Γ[3]? = some (some (dO bh)) → Γ.length = 4 → l = thr ⟨ba, bl, bh⟩ bl al →
        SB (cxOf CX0 P w K mg base ["one", "other", "low", "high"] "one_behind" (defScope (top 27)) f cdv A outer s H E).nox
          ((defBody (top 27)).drop 2) Γ G ⟨fun _ G' => R .non G', fun d G1 => ∃ G2, Sub G2 G1 ∧ R d G2, fun _ _ => False, fun _ _ => False⟩ := fun Γ l g0 g1 g2 g3 hl e => by
      refine b_cons <| s_if <| t_cmp <| e_ix <| e_var 0 g0 <| e_int <| i_tup (n := 2) .tup rfl <| e_non <| o_isnot ⟨_, rfl, ?_⟩
      cases ah with
      | none => exact iteFF (b_nil (fin Γ l bh g0 g1 g2 g3 (by rw [e]; rfl)))
      | some t =>
        refine iteTT (b_one <| s_set 3 sc_one_behind.nd <| e_call q1 m1 (hr.mono (by decide)) <| a_cons <| e_var 1 g1 <| a_cons <| e_ix <| e_var 0 g0 <| e_int <| i_tup (n := 2) .tup rfl <| a_nil ⟨⟨ba, bl, bh⟩, t, rfl, ?_⟩)
        refine fin _ l (some (put ⟨ba, bl, bh⟩ t)) ?_ ?_ ?_ ?_ (by rw [e]; rfl)
        · rw [List.getElem?_set_ne (by decide)]; exact g0
        · rw [List.getElem?_set_ne (by decide)]; exact g1
        · rw [List.getElem?_set_ne (by decide)]; exact g2
        · rw [List.getElem?_set_self (by rw [hl]; decide)]; rfl
    refine b_cons <| s_if <| t_cmp <| e_ix <| e_var 0 rfl <| e_int <| i_tup (n := 1) .tup rfl <| e_non <| o_isnot ⟨_, rfl, ?_⟩
    cases al with
    | none => exact iteFF (b_nil (fin2 _ bl rfl rfl rfl rfl rfl rfl))
    | some t => exact iteTT (b_one <| s_set 2 sc_one_behind.nd <| e_call q1 m1 (hr.mono (by decide)) <| a_cons <| e_var 1 rfl <| a_cons <| e_ix <| e_var 0 rfl <| e_int <| i_tup (n := 1) .tup rfl <| a_nil ⟨⟨ba, bl, bh⟩, t, rfl, fin2 _ (some (put ⟨ba, bl, bh⟩ t)) rfl rfl rfl rfl rfl rfl⟩)
def S_is_board : AS := fun ds G R => ∃ vs : List Int, ds = [dInts vs] ∧ 1 ≤ vs.length ∧ vs.length ≤ 16 ∧ R (.bl true) G
theorem sc_is_board : FnScope ["thing", "value"] ["thing"] (defScope (top 31)) := ⟨rfl, rfl, rfl, by decide +kernel, rfl, by decide +kernel, by decide +kernel⟩
theorem f_is_board (T : Blt K mg) (dt : Dat K mg d_is_board "is_board") (c1 : Fn P w K mg base 1 "is_whole" ["thing"] [] S_is_whole) : Fn P w K mg base 2 "is_board" ["thing"] [] S_is_board := by
  obtain ⟨f, fd, F, hm⟩ := dt
  refine ⟨f, cal_of F sc_is_board (fun ds G R h => ?_) (fun _ _ _ _ _ _ us hl => match us, hl with | [_], _ => rfl) (fun cdv A outer s H E hr ds G R h => ?_), hm⟩
  · obtain ⟨vs, rfl, h1, h2, _⟩ := h
    rfl
  · obtain ⟨vs, rfl, h1, h2, k⟩ := h
    obtain ⟨f1, q1, m1⟩ := c1
    refine b_cons <| s_ret <| e_and <| e_callB T.isi bt_isi <| a_cons <| e_var 0 rfl <| a_cons <| e_ty T.tup bt_tup <| a_nil <| c_isi rfl k_tt ⟨true, rfl, iteTT ?_⟩
    refine e_and <| e_chain <| e_int <| e_callB T.len bt_len <| a_cons <| e_var 0 rfl <| a_nil <| c_lenT .tup <| o_le ⟨_, rfl, ite_t (by simp; omega) ?_⟩
    refine e_gI T.boxes <| o_le ⟨_, rfl, ite_t (by simp; omega) ?_⟩
    refine e_one <| e_callB T.all bt_all <| a_cons <| e_lc [("value", 1)] sc_is_board.nd (blkOk_by rfl) (fun _ _ _ _ _ => (pg_name (i := 1) sc_is_board.nd rfl (Or.inl rfl))) <| n_tup <| e_var 0 rfl ⟨_, .tup, ?_⟩
    refine lc_map (fun _ => .bl true) (fun i => [(1, at0 (vs.map D.int) i)]) trivial (by simp; omega) (by simp) (fun i _ => tg_name) (fun i hi s H0 C cl fp => ?_) ?_
    · rw [List.length_map] at hi
      rw [at0_map hi]
      exact e_call q1 m1 (hr.mono (by decide)) <| a_cons <| e_var 1 rfl <| a_nil ⟨_, rfl, rfl, rfl⟩
    · exact a_nil <| c_allT ⟨_, Sub.refl _, k⟩
def S_want_board : AS := fun ds G R => ∃ vs : List Int, ds = [dInts vs] ∧ 1 ≤ vs.length ∧ vs.length ≤ 16 ∧ R .non G
theorem sc_want_board : FnScope ["board"] ["board"] (defScope (top 32)) := ⟨rfl, rfl, rfl, by decide +kernel, rfl, by decide +kernel, by decide +kernel⟩
theorem f_want_board (T : Blt K mg) (dt : Dat K mg d_want_board "want_board") (c1 : Fn P w K mg base 2 "is_board" ["thing"] [] S_is_board) : Fn P w K mg base 3 "want_board" ["board"] [] S_want_board := by
  obtain ⟨f, fd, F, hm⟩ := dt
  refine ⟨f, cal_of F sc_want_board (fun ds G R h => ?_) (fun _ _ _ _ _ _ us hl => match us, hl with | [_], _ => rfl) (fun cdv A outer s H E hr ds G R h => ?_), hm⟩
  · obtain ⟨vs, rfl, h1, h2, _⟩ := h
    rfl
  · obtain ⟨vs, rfl, h1, h2, k⟩ := h
    obtain ⟨f1, q1, m1⟩ := c1
    exact b_one <| s_if <| t_not <| t_val <| e_call q1 m1 (hr.mono (by decide)) <| a_cons <| e_var 0 rfl <| a_nil ⟨vs, rfl, h1, h2, _, rfl, iteFF (b_nil k)⟩
def S_is_ask : AS := fun ds G R => ∃ b a xs, ds = [b, dAsk a] ∧ Sq G b xs ∧ a.ok xs.length ∧ R (.bl true) G
theorem sc_is_ask : FnScope ["board", "thing"] ["board", "thing"] (defScope (top 33)) := ⟨rfl, rfl, rfl, by decide +kernel, rfl, by decide +kernel, by decide +kernel⟩
theorem f_is_ask (T : Blt K mg) (dt : Dat K mg d_is_ask "is_ask") (c1 : Fn P w K mg base 1 "is_whole" ["thing"] [] S_is_whole) (c2 : Fn P w K mg base 3 "is_deed" ["thing"] [] S_is_deed) : Fn P w K mg base 4 "is_ask" ["board", "thing"] [] S_is_ask := by
  obtain ⟨f, fd, F, hm⟩ := dt
  refine ⟨f, cal_of F sc_is_ask (fun ds G R h => ?_) (fun _ _ _ _ _ _ us hl => match us, hl with | [_, _], _ => rfl) (fun cdv A outer s H E hr ds G R h => ?_), hm⟩
  · obtain ⟨b, a, xs, rfl, hb, ⟨h1, h2, h3⟩, _⟩ := h
    rfl
  · obtain ⟨b, a, xs, rfl, hb, ⟨h1, h2, h3⟩, k⟩ := h
    obtain ⟨f1, q1, m1⟩ := c1
    obtain ⟨f2, q2, m2⟩ := c2
    refine b_cons <| s_if <| t_w <| w_or <| t_not <| t_val <| e_callB T.isi bt_isi <| a_cons <| e_var 1 rfl <| a_cons <| e_ty T.tup bt_tup <| a_nil <| c_isi rfl k_tt ⟨_, rfl, iteFF ?_⟩
    refine w_or <| t_cmp <| e_callB T.len bt_len <| a_cons <| e_var 1 rfl <| a_nil <| c_lenT .tup <| e_int <| o_neI ⟨_, rfl, iteFF ?_⟩
    refine w_or <| t_not <| t_val <| e_call q1 m1 (hr.mono (by decide)) <| a_cons <| e_ix <| e_var 1 rfl <| e_int <| i_tup (n := 0) .tup rfl <| a_nil ⟨_, rfl, _, rfl, iteFF ?_⟩
    refine w_or1 <| t_not <| t_val <| e_call q1 m1 (hr.mono (by decide)) <| a_cons <| e_ix <| e_var 1 rfl <| e_int <| i_tup (n := 1) .tup rfl <| a_nil ⟨_, rfl, _, rfl, iteFF <| b_nil ?_⟩
    refine b_one <| s_ret <| e_and <| e_chain <| e_int <| e_ix <| e_var 1 rfl <| e_int <| i_tup (n := 0) .tup rfl <| o_le ⟨_, rfl, ite_t (by simp) ?_⟩
    refine e_gI T.hands <| o_lt ⟨_, rfl, ite_t (by simp; omega) ?_⟩
    refine e_and <| e_chain <| e_int <| e_ix <| e_var 1 rfl <| e_int <| i_tup (n := 1) .tup rfl <| o_le ⟨_, rfl, ite_t (by simp) ?_⟩
    refine e_callB T.len bt_len <| a_cons <| e_var 0 rfl <| a_nil <| c_len hb <| o_lt ⟨_, rfl, ite_t (by simp; omega) ?_⟩
    exact e_one <| e_call q2 m2 (hr.mono (by decide)) <| a_cons <| e_ix <| e_var 1 rfl <| e_int <| i_tup (n := 2) .tup rfl <| a_nil ⟨_, rfl, h3, ⟨_, Sub.refl _, k⟩⟩
def S_are_asks : AS := fun ds G R => ∃ (vs : List Int) (as : List Ask), ds = [dInts vs, .tup (as.map dAsk)] ∧ 1 ≤ vs.length ∧ vs.length ≤ 16 ∧ as.length ≤ 1000 ∧ (∀ a ∈ as, a.ok vs.length) ∧ R (.bl true) G
theorem sc_are_asks : FnScope ["board", "thing", "one"] ["board", "thing"] (defScope (top 34)) := ⟨rfl, rfl, rfl, by decide +kernel, rfl, by decide +kernel, by decide +kernel⟩
theorem f_are_asks (T : Blt K mg) (dt : Dat K mg d_are_asks "are_asks") (c1 : Fn P w K mg base 3 "want_board" ["board"] [] S_want_board) (c2 : Fn P w K mg base 4 "is_ask" ["board", "thing"] [] S_is_ask) : Fn P w K mg base 5 "are_asks" ["board", "thing"] [] S_are_asks := by
  obtain ⟨f, fd, F, hm⟩ := dt
  refine ⟨f, cal_of F sc_are_asks (fun ds G R h => ?_) (fun _ _ _ _ _ _ us hl => match us, hl with | [_, _], _ => rfl) (fun cdv A outer s H E hr ds G R h => ?_), hm⟩
  · obtain ⟨vs, as, rfl, h1, h2, h3, h4, _⟩ := h
    rfl
  · obtain ⟨vs, as, rfl, h1, h2, h3, h4, k⟩ := h
    obtain ⟨f1, q1, m1⟩ := c1
    obtain ⟨f2, q2, m2⟩ := c2
    refine b_cons <| s_expr <| e_call q1 m1 (hr.mono (by decide)) <| a_cons <| e_var 0 rfl <| a_nil ⟨vs, rfl, h1, h2, ?_⟩
    refine b_one <| s_ret <| e_and <| e_callB T.isi bt_isi <| a_cons <| e_var 1 rfl <| a_cons <| e_ty T.tup bt_tup <| a_nil <| c_isi rfl k_tt ⟨true, rfl, iteTT ?_⟩
    refine e_one <| e_callB T.all bt_all <| a_cons <| e_lc [("one", 2)] sc_are_asks.nd (blkOk_by rfl) (fun _ _ _ _ _ => (pg_name (i := 2) sc_are_asks.nd rfl (Or.inl rfl))) <| n_tup <| e_var 1 rfl ⟨_, .tup, ?_⟩
    refine lc_map (fun _ => .bl true) (fun i => [(2, at0 (as.map dAsk) i)]) trivial (by simp; omega) (by simp) (fun i _ => tg_name) (fun i hi s H0 C cl fp => ?_) ?_
    · rw [List.length_map] at hi
      rw [at0_map hi]
      exact e_call q2 m2 (hr.mono (by decide)) <| a_cons <| e_var 0 rfl <| a_cons <| e_var 2 rfl <| a_nil ⟨_, _, vs.map D.int, rfl, .inr .tup, by rw [List.length_map]; exact h4 _ (List.getElem_mem hi), rfl, rfl⟩
    · exact a_nil <| c_allT ⟨_, Sub.refl _, k⟩
def S_want_asks : AS := fun ds G R => ∃ (vs : List Int) (as : List Ask), ds = [dInts vs, .tup (as.map dAsk)] ∧ 1 ≤ vs.length ∧ vs.length ≤ 16 ∧ as.length ≤ 1000 ∧ (∀ a ∈ as, a.ok vs.length) ∧ R .non G
theorem sc_want_asks : FnScope ["board", "asks"] ["board", "asks"] (defScope (top 35)) := ⟨rfl, rfl, rfl, by decide +kernel, rfl, by decide +kernel, by decide +kernel⟩
theorem f_want_asks (T : Blt K mg) (dt : Dat K mg d_want_asks "want_asks") (c1 : Fn P w K mg base 5 "are_asks" ["board", "thing"] [] S_are_asks) : Fn P w K mg base 6 "want_asks" ["board", "asks"] [] S_want_asks := by
  obtain ⟨f, fd, F, hm⟩ := dt
  refine ⟨f, cal_of F sc_want_asks (fun ds G R h => ?_) (fun _ _ _ _ _ _ us hl => match us, hl with | [_, _], _ => rfl) (fun cdv A outer s H E hr ds G R h => ?_), hm⟩
  · obtain ⟨vs, as, rfl, h1, h2, h3, h4, _⟩ := h
    rfl
  · obtain ⟨vs, as, rfl, h1, h2, h3, h4, k⟩ := h
    obtain ⟨f1, q1, m1⟩ := c1
    exact b_one <| s_if <| t_not <| t_val <| e_call q1 m1 (hr.mono (by decide)) <| a_cons <| e_var 0 rfl <| a_cons <| e_var 1 rfl <| a_nil ⟨vs, as, rfl, h1, h2, h3, h4, _, rfl, iteFF (b_nil k)⟩
def S_figure_of : AS := fun ds G R => ∃ a b c : Nat, ds = [.int a, .int b, .int c] ∧ a ≤ 4 ∧ c ≤ a ∧ b < 16 ∧ R (.int (fig a b c : Nat)) G
theorem sc_figure_of : FnScope ["k", "line", "stage"] ["k", "line", "stage"] (defScope (top 40)) := ⟨rfl, rfl, rfl, by decide +kernel, rfl, by decide +kernel, by decide +kernel⟩
theorem f_figure_of (T : Blt K mg) (dt : Dat K mg d_figure_of "figure_of") : Fn P w K mg base 1 "figure_of" ["k", "line", "stage"] [] S_figure_of := by
  obtain ⟨f, fd, F, hm⟩ := dt
  refine ⟨f, cal_of F sc_figure_of (fun ds G R h => ?_) (fun _ _ _ _ _ _ us hl => match us, hl with | [_, _, _], _ => rfl) (fun cdv A outer s H E hr ds G R h => ?_), hm⟩
  · obtain ⟨a, b, c, rfl, h1, h2, h3, _⟩ := h
    rfl
  · obtain ⟨a, b, c, rfl, h1, h2, h3, k⟩ := h
    refine b_one <| s_ret <| e_bin <| e_bin <| e_var 1 rfl <| e_bin <| e_var 0 rfl <| e_var 2 rfl <| o_sub <| o_shr (by omega) <| e_int <| o_and ?_
    rw [fig_eq h1 h2 h3]
    exact ⟨_, Sub.refl _, k⟩
def S_line_of_beats : AS := fun ds G R => ∃ a b c d : Nat, ds = [.int a, .int b, .int c, .int d] ∧ a ≤ 4 ∧ b ≤ a ∧ c < 8 ∧ d < 2 ∧ R (.int (lineOf a b c d : Nat)) G
theorem sc_line_of_beats : FnScope ["k", "stage", "number", "figure", "below"] ["k", "stage", "number", "figure"] (defScope (top 41)) := ⟨rfl, rfl, rfl, by decide +kernel, rfl, by decide +kernel, by decide +kernel⟩
theorem f_line_of_beats (T : Blt K mg) (dt : Dat K mg d_line_of_beats "line_of_beats") : Fn P w K mg base 1 "line_of_beats" ["k", "stage", "number", "figure"] [] S_line_of_beats := by
  obtain ⟨f, fd, F, hm⟩ := dt
  refine ⟨f, cal_of F sc_line_of_beats (fun ds G R h => ?_) (fun _ _ _ _ _ _ us hl => match us, hl with | [_, _, _, _], _ => rfl) (fun cdv A outer s H E hr ds G R h => ?_), hm⟩
  · obtain ⟨a, b, c, d, rfl, h1, h2, h3, h4, _⟩ := h
    rfl
  · obtain ⟨a, b, c, d, rfl, h1, h2, h3, h4, k⟩ := h
    refine b_cons <| s_set 4 sc_line_of_beats.nd <| e_bin <| e_var 2 rfl <| e_bin <| e_bin <| e_int <| e_bin <| e_var 0 rfl <| e_var 1 rfl <| o_sub <| o_shl (cpow_nat (by omega) (by omega) (by omega) (by omega)) <| e_int <| o_sub <| o_and ?_
    rw [below_eq h1 h2 h3]
    refine b_one <| s_ret <| e_bin <| e_bin <| e_bin <| e_bin <| e_var 2 rfl <| e_var 4 rfl <| o_sub <| e_int <| o_mul (.inr (by decide)) ?_
    refine e_bin <| e_var 3 rfl <| e_bin <| e_var 0 rfl <| e_var 1 rfl <| o_sub <| o_shl (cpow_nat (by omega) (by omega) (by omega) (by omega)) <| o_add <| e_var 4 rfl <| o_add ?_
    have e : ((c : Int) - (c % 2 ^ (a - b) : Nat)) * 2 + (d : Int) * 2 ^ ((a : Int) - b).toNat + (c % 2 ^ (a - b) : Nat) = (lineOf a b c d : Nat) := by
      unfold lineOf
      have : c % 2 ^ (a - b) ≤ c := Nat.mod_le _ _
      have e2 : ((a : Int) - b).toNat = a - b := by omega
      rw [e2]
      push_cast
      rw [Int.ofNat_sub this]
      push_cast
      rfl
    rw [e]
    exact ⟨_, Sub.refl _, k⟩
def S_side_of_box_beats : AS := fun ds G R => ∃ a b : Nat, ds = [.int a, .int b] ∧ a ≤ 4 ∧ b < 16 ∧ R (.int (b % 2 ^ a : Nat)) G
theorem sc_side_of_box_beats : FnScope ["k", "box"] ["k", "box"] (defScope (top 43)) := ⟨rfl, rfl, rfl, by decide +kernel, rfl, by decide +kernel, by decide +kernel⟩
theorem f_side_of_box_beats (T : Blt K mg) (dt : Dat K mg d_side_of_box_beats "side_of_box_beats") : Fn P w K mg base 1 "side_of_box_beats" ["k", "box"] [] S_side_of_box_beats := by
  obtain ⟨f, fd, F, hm⟩ := dt
  refine ⟨f, cal_of F sc_side_of_box_beats (fun ds G R h => ?_) (fun _ _ _ _ _ _ us hl => match us, hl with | [_, _], _ => rfl) (fun cdv A outer s H E hr ds G R h => ?_), hm⟩
  · obtain ⟨a, b, rfl, h1, h2, _⟩ := h
    rfl
  · obtain ⟨a, b, rfl, h1, h2, k⟩ := h
    refine b_one <| s_ret <| e_bin <| e_var 1 rfl <| e_bin <| e_bin <| e_int <| e_var 0 rfl <| o_shl (cpow_nat (by omega) (by omega) (by omega) (by omega)) <| e_int <| o_sub <| o_and ?_
    rw [side_eq h1 h2]
    exact ⟨_, Sub.refl _, k⟩
def S_is_place : AS := fun ds G R => ∃ (a : Nat) (p : Nat × Nat), ds = [.int a, dPl p] ∧ a ≤ 4 ∧ placeOk a p.1 p.2 ∧ R (.bl true) G
theorem sc_is_place : FnScope ["k", "thing", "many"] ["k", "thing"] (defScope (top 45)) := ⟨rfl, rfl, rfl, by decide +kernel, rfl, by decide +kernel, by decide +kernel⟩
theorem f_is_place (T : Blt K mg) (dt : Dat K mg d_is_place "is_place") (c1 : Fn P w K mg base 1 "is_row_of" ["thing", "many"] [] S_is_row_of) (c2 : Fn P w K mg base 2 "is_within" ["thing", "least", "most"] [] S_is_within) : Fn P w K mg base 3 "is_place" ["k", "thing"] [] S_is_place := by
  obtain ⟨f, fd, F, hm⟩ := dt
  refine ⟨f, cal_of F sc_is_place (fun ds G R h => ?_) (fun _ _ _ _ _ _ us hl => match us, hl with | [_, _], _ => rfl) (fun cdv A outer s H E hr ds G R h => ?_), hm⟩
  · obtain ⟨a, p, rfl, h1, ⟨h2, h3⟩, _⟩ := h
    rfl
  · obtain ⟨a, p, rfl, h1, ⟨h2, h3⟩, k⟩ := h
    obtain ⟨f1, q1, m1⟩ := c1
    obtain ⟨f2, q2, m2⟩ := c2
    refine b_cons <| s_if <| t_w <| w_or <| t_not <| t_val <| e_call q1 m1 (hr.mono (by decide)) <| a_cons <| e_var 1 rfl <| a_cons <| e_int <| a_nil ⟨_, 2, rfl, _, rfl, iteFF ?_⟩
    refine w_or1 <| t_not <| t_val <| e_call q2 m2 (hr.mono (by decide)) <| a_cons <| e_ix <| e_var 1 rfl <| e_int <| i_tup (n := 0) .tup rfl <| a_cons <| e_int <| a_cons <| e_var 0 rfl <| a_nil ⟨_, _, _, rfl, _, rfl, ?_⟩
    rw [within_t ⟨by omega, by omega⟩]
    refine iteFF <| b_nil ?_
    refine b_cons <| s_set 2 sc_is_place.nd <| e_bin <| e_int <| e_var 0 rfl <| o_shl (cpow_nat (by omega) (by omega) (by omega) (by omega)) ?_
    refine b_cons <| s_if <| t_cmp <| e_ix <| e_var 1 rfl <| e_int <| i_tup (n := 0) .tup rfl <| e_int <| o_gt ⟨_, rfl, ite_b (fun e => ?_) (fun e => ?_)⟩
    · have e : p.1 ≠ 0 := by simp at e; omega
      rw [if_neg e] at h3
      refine b_one <| s_set 2 sc_is_place.nd <| e_bin <| e_var 2 rfl <| e_int <| o_fdiv ⟨by decide, by decide⟩ ?_
      refine b_one <| s_ret <| e_call q2 m2 (hr.mono (by decide)) <| a_cons <| e_ix <| e_var 1 rfl <| e_int <| i_tup (n := 1) .tup rfl <| a_cons <| e_int <| a_cons <| e_bin <| e_var 2 rfl <| e_int <| o_sub <| a_nil ⟨_, _, _, rfl, ?_⟩
      have e3 : (1 * (2 : Int) ^ ((a : Int)).toNat).fdiv 2 = (2 ^ (a - 1) : Nat) := by
        have h : ∀ a : Fin 5, a.val ≠ 0 → (1 * (2 : Int) ^ ((a.val : Int)).toNat).fdiv 2 = (2 ^ (a.val - 1) : Nat) := by decide +kernel
        exact h ⟨a, by omega⟩ (by show a ≠ 0; omega)
      rw [e3, within_t ⟨by omega, by omega⟩]
      exact ⟨_, Sub.refl _, k⟩
    · have e : p.1 = 0 := by simp at e; omega
      rw [if_pos e] at h3
      refine b_nil ?_
      refine b_one <| s_ret <| e_call q2 m2 (hr.mono (by decide)) <| a_cons <| e_ix <| e_var 1 rfl <| e_int <| i_tup (n := 1) .tup rfl <| a_cons <| e_int <| a_cons <| e_bin <| e_var 2 rfl <| e_int <| o_sub <| a_nil ⟨_, _, _, rfl, ?_⟩
      have e3 : (1 * (2 : Int) ^ ((a : Int)).toNat) = (2 ^ a : Nat) := by
        rw [Int.one_mul, Int.toNat_natCast]; push_cast; rfl
      rw [e3, within_t ⟨by omega, by omega⟩]
      exact ⟨_, Sub.refl _, k⟩
end
end J
namespace J
open PySem PySem.Spec PyProof.Rows L2
structure Item where
  box : Nat
  deed : Deed
  nums : List Nat
structure Rec where
  box : Nat
  deed : Deed
  res : Option (Int × Nat)
structure NetS where
  k : Nat
  room : Nat
  kept : Nat
  vals : List Int
  rows : Nat → Nat → List Item
  asks : List Rec
  order : List Nat
  pairs : List (Nat × Nat × Nat)
  now : Nat
def nats (xs : List Nat) : D := .tup (xs.map fun n => D.int (n : Nat))
def dItem (i : Item) : D := .tup [.int (i.box : Nat), dDeed i.deed, nats i.nums]
def dON : Option Nat → D
  | none => .non
  | some i => .int (i : Nat)
def dPair (p : Nat × Nat × Nat) : D := .tup [.int (p.1 : Nat), .int (p.2.1 : Nat), .int (p.2.2 : Nat)]
inductive Slot where
  | self | am | rows | lv (l : Nat) | ln (l j : Nat) | asked | answers | ends | order | pairs
  deriving DecidableEq
def Slot.ok (k : Nat) : Slot → Prop
  | .lv l => l ≤ k
  | .ln l j => l ≤ k ∧ j < 2 ^ k
  | _ => True
def netFs (N : NetS) (A : Slot → Addr) (pa : Addr) (now : Nat) : List (Str × D) :=
  [("depth", .int (N.k : Nat)), ("amounts", .ref (A .am)), ("room", .int (N.room : Nat)), ("kept", .int (N.kept : Nat)), ("rows", .ref (A .rows)), ("asked", .ref (A .asked)), ("answers", .ref (A .answers)),
    ("ends", .ref (A .ends)), ("order", .ref (A .order)), ("pairs", .ref pa), ("now", .int (now : Nat))]
/-- what stands at a net's addresses -/
def holds (C : Addr) (N : NetS) (A : Slot → Addr) : Slot → MO
  | .self => .ins C (netFs N A (A .pairs) N.now)
  | .am => .lst (N.vals.map D.int)
  | .rows => .lst ((List.range (N.k + 1)).map fun l => .ref (A (.lv l)))
  | .lv l => .lst ((List.range (2 ^ N.k)).map fun j => .ref (A (.ln l j)))
  | .ln l j => .lst ((N.rows l j).map dItem)
  | .asked => .lst (N.asks.map fun r => .tup [.int (r.box : Nat), dDeed r.deed])
  | .answers => .lst (N.asks.map fun r => dO (r.res.map (·.1)))
  | .ends => .lst (N.asks.map fun r => dON (r.res.map (·.2)))
  | .order => .lst (N.order.map fun n => D.int (n : Nat))
  | .pairs => .lst (N.pairs.map dPair)
structure NetAt (C : Addr) (G : Gp) (A : Slot → Addr) (N : NetS) : Prop where
  inj : ∀ s t : Slot, s.ok N.k → t.ok N.k → A s = A t → s = t
  here : ∀ s : Slot, s.ok N.k → G (A s) = some (holds C N A s)
theorem NetAt.upd {C : Addr} {G : Gp} {A : Slot → Addr} {N N' : NetS} (h : NetAt C G A N) (s : Slot) (hs : s.ok N.k) (hk : N'.k = N.k) {m : MO} (hm : holds C N' A s = m) (ho : ∀ t : Slot, t.ok N.k → t ≠ s → holds C N' A t = holds C N A t) :
    NetAt C (gup G (A s) m) A N' := by
  refine ⟨fun a b h1 h2 e => h.inj a b (hk ▸ h1) (hk ▸ h2) e, fun t ht => ?_⟩
  rw [hk] at ht
  by_cases e : t = s
  · subst e; rw [gup_same, hm]
  · rw [gup_ne fun q => e (h.inj t s ht hs q), h.here t ht, ho t ht e]
/-- what a step leaves of all that is not a net's -/
structure Own (k : Nat) (G : Gp) (A : Slot → Addr) (G' : Gp) (A' : Slot → Addr) : Prop where
  self : A' .self = A .self
  frame : ∀ a, G a ≠ none → (∀ s : Slot, s.ok k → a ≠ A s) → G' a = G a
  new : ∀ s : Slot, s.ok k → (∃ t : Slot, t.ok k ∧ A' s = A t) ∨ G (A' s) = none
theorem Own.refl {k : Nat} {G : Gp} {A : Slot → Addr} : Own k G A G A := ⟨rfl, fun _ _ _ => rfl, fun s h => .inl ⟨s, h, rfl⟩⟩
theorem Own.trans {k : Nat} {G G1 G2 : Gp} {A A1 A2 : Slot → Addr} (a : Own k G A G1 A1) (b : Own k G1 A1 G2 A2) : Own k G A G2 A2 where
  self := b.self.trans a.self
  frame := fun x hx hn => by
    have e := a.frame x hx hn
    rw [b.frame x (by rw [e]; exact hx) fun s hs q => ?_, e]
    rcases a.new s hs with ⟨t, ht, z⟩ | z
    · exact hn t ht (q.trans z)
    · rw [← q] at z; exact hx z
  new := fun s hs => by
    rcases b.new s hs with ⟨t, ht, z⟩ | z
    · rcases a.new t ht with ⟨t', ht', z'⟩ | z'
      · exact .inl ⟨t', ht', z.trans z'⟩
      · exact .inr (by rw [z]; exact z')
    · by_cases q : G (A2 s) = none
      · exact .inr q
      · refine .inl (Classical.byContradiction fun w => ?_)
        have e := a.frame (A2 s) q fun t ht e => w ⟨t, ht, e⟩
        rw [z] at e
        exact q e.symm
theorem Own.gup {k : Nat} {G : Gp} {A : Slot → Addr} {s : Slot} {m : MO} (hs : s.ok k) : Own k G A (gup G (A s) m) A := ⟨rfl, fun a _ hn => gup_ne (hn s hs), fun s h => .inl ⟨s, h, rfl⟩⟩

/-! ### what the methods do -/
def upR (rows : Nat → Nat → List Item) (l j : Nat) (x : List Item) : Nat → Nat → List Item := fun l' j' => if l' = l ∧ j' = j then x else rows l' j'
theorem upR_same {rows : Nat → Nat → List Item} {l j : Nat} {x : List Item} : upR rows l j x l j = x := by unfold upR; rw [if_pos ⟨rfl, rfl⟩]
theorem upR_ne {rows : Nat → Nat → List Item} {l j l' j' : Nat} {x : List Item} (h : ¬ (l' = l ∧ j' = j)) : upR rows l j x l' j' = rows l' j' := by unfold upR; rw [if_neg h]
def NetS.endN (N : NetS) (n : Nat) : NetS := match N.asks[n]? with
  | none => N
  | some r =>
    let v := N.vals.getD r.box 0
    { N with asks := N.asks.set n { r with res := some (v, N.now) }, vals := N.vals.set r.box (J.put r.deed v), order := N.order ++ [n] }
def NetS.take (N : NetS) (side : Nat) : NetS := match N.rows N.k side with
  | [] => N
  | it :: r => it.nums.foldl NetS.endN { N with rows := upR N.rows N.k side r }
def alikeL (there : List Item) (box : Nat) : List Nat := (List.range there.length).filter fun i => decide ((there[i]?).map Item.box = some box)
def NetS.joinings (N : NetS) (stage number : Nat) : Nat := (N.pairs.filter fun p => decide (p.1 = stage ∧ p.2.1 = number)).length
def outLine (N : NetS) (stage number box : Nat) : Nat := lineOf N.k stage number (fig N.k (box % 2 ^ N.k) stage)
def NetS.joinAt (N : NetS) (stage number line a : Nat) (o it : Item) : NetS :=
  { N with rows := upR N.rows stage line ((N.rows stage line).set a ⟨it.box, behind o.deed it.deed, o.nums ++ it.nums⟩), pairs := N.pairs ++ [(stage, number, it.nums.headD 0)] }
def NetS.addAt (N : NetS) (stage line : Nat) (it : Item) : NetS := { N with rows := upR N.rows stage line (N.rows stage line ++ [it]) }
def NetS.room? (N : NetS) (stage line : Nat) (it : Item) : Option NetS := if (N.rows stage line).length < N.room then some (N.addAt stage line it) else none
def NetS.doesGo (N : NetS) (stage number : Nat) (it : Item) : Option NetS :=
  let line := outLine N stage number it.box
  match (alikeL (N.rows stage line) it.box).getLast? with
  | none => N.room? stage line it
  | some a => if N.joinings stage number < N.kept then (match (N.rows stage line)[a]? with
      | some o => some (N.joinAt stage number line a o it)
      | none => none) else N.room? stage line it
def NetS.handFig (N : NetS) (stage number figure : Nat) : NetS :=
  let line := lineOf N.k stage number figure
  match N.rows (stage - 1) line with
  | [] => N
  | it :: r => match N.doesGo stage number it with
    | none => N
    | some N' => { N' with rows := upR N'.rows (stage - 1) line r }
def NetS.handOn (N : NetS) (stage number : Nat) : NetS := (N.handFig stage number (N.now % 2)).handFig stage number (1 - N.now % 2)
def NetS.forgot (N : NetS) (p : Nat × Nat × Nat) : Bool := match (N.asks[p.2.2]?).bind (·.res) with
  | none => false
  | some (_, e) => decide ((N.k : Int) - p.1 < (N.now : Int) - e)
def NetS.tick (N : NetS) : NetS :=
  let N1 := { N with now := N.now + 1 }
  { N1 with pairs := N.pairs.filter fun p => !N1.forgot p }
def NetS.takes (N : NetS) (lost : List (Nat × Nat)) (n : Nat) : NetS := (List.range n).foldl (fun N side => if (0, side) ∈ lost then N else N.take side) N
def NetS.stageOn (N : NetS) (lost : List (Nat × Nat)) (stage n : Nat) : NetS := (List.range n).foldl (fun N number => if (stage, number) ∈ lost then N else N.handOn stage number) N
def NetS.stages (N : NetS) (lost : List (Nat × Nat)) (n : Nat) : NetS := (List.range n).foldl (fun M i => M.stageOn lost (N.k - i) (2 ^ (N.k - 1))) N
def NetS.goOn (N : NetS) (lost : List (Nat × Nat)) : NetS := (N.tick.takes lost (2 ^ N.k)).stages lost N.k
def NetS.ripe (N : NetS) (n : Nat) : Bool := match (N.asks[n]?).bind (·.res) with
  | none => false
  | some (_, e) => decide (e + N.k = N.now)
def NetS.ansAt (N : NetS) (n : Nat) : Option Int := ((N.asks[n]?).bind (·.res)).map (·.1)
/-- what a beat answers -/
def NetS.tells (N : NetS) : List (Nat × Option Int) := ((List.range N.asks.length).filter N.ripe).map fun n => (n, N.ansAt n)
def dTell (p : Nat × Option Int) : D := .tup [.int (p.1 : Nat), dO p.2]
def NetS.done (N : NetS) (r : Rec) : Bool := match r.res with
  | none => false
  | some (_, e) => decide (e + N.k ≤ N.now)
def NetS.doneAt (N : NetS) (n : Nat) : Bool := match N.asks[n]? with
  | none => false
  | some r => N.done r
def NetS.todo (N : NetS) : Nat := ((List.range N.asks.length).filter fun n => !N.doneAt n).length
def NetS.answer (N : NetS) (n : Nat) : Option Int := if N.doneAt n = true then N.ansAt n else none
def NetS.put (N : NetS) (a : Ask) : NetS := { N with asks := N.asks ++ [⟨a.box, a.deed, none⟩], rows := upR N.rows 0 a.hand (N.rows 0 a.hand ++ [⟨a.box, a.deed, [N.asks.length]⟩]) }
def NetS.fresh (k room kept : Nat) (vals : List Int) : NetS := ⟨k, room, kept, vals, fun _ _ => [], [], [], [], 0⟩

/-! ### what holds of a net that was told rows -/
def sumR (f : Nat → Nat) (n : Nat) : Nat := ((List.range n).map f).sum
theorem sumR_succ {f : Nat → Nat} {n : Nat} : sumR f (n + 1) = sumR f n + f n := by unfold sumR; rw [List.range_succ, List.map_append, List.sum_append]; simp
theorem sumR_congr {f g : Nat → Nat} : ∀ {n : Nat}, (∀ i, i < n → f i = g i) → sumR f n = sumR g n
  | 0, _ => rfl
  | n + 1, h => by rw [sumR_succ, sumR_succ, sumR_congr fun i hi => h i (by omega), h n (by omega)]
theorem sumR_upd {f g : Nat → Nat} {i : Nat} : ∀ {n : Nat}, i < n → (∀ j, j < n → j ≠ i → g j = f j) → sumR g n + f i = sumR f n + g i
  | 0, h, _ => by omega
  | n + 1, h, e => by
    rw [sumR_succ, sumR_succ]
    by_cases q : i = n
    · subst q
      rw [sumR_congr fun j hj => e j (by omega) (by omega)]
      omega
    · have := sumR_upd (f := f) (g := g) (i := i) (n := n) (by omega) fun j hj hn => e j (by omega) hn
      rw [e n (by omega) (Ne.symm q)]
      omega
theorem sumR_ge {f : Nat → Nat} {i : Nat} : ∀ {n : Nat}, i < n → f i ≤ sumR f n
  | n + 1, h => by
    rw [sumR_succ]
    by_cases q : i = n
    · subst q; omega
    · have := sumR_ge (f := f) (i := i) (n := n) (by omega)
      omega
def tot (f : List Item → Nat) (rows : Nat → Nat → List Item) (k : Nat) : Nat := sumR (fun l => sumR (fun j => f (rows l j)) (2 ^ k)) (k + 1)
theorem tot_upR {f : List Item → Nat} {rows : Nat → Nat → List Item} {k l j : Nat} {x : List Item} (hl : l ≤ k) (hj : j < 2 ^ k) : tot f (upR rows l j x) k + f (rows l j) = tot f rows k + f x := by
  have h1 := sumR_upd (f := fun j => f (rows l j)) (g := fun j' => f (upR rows l j x l j')) (i := j) (n := 2 ^ k) hj fun j' _ hn => by show f (upR rows l j x l j') = f (rows l j'); rw [upR_ne fun z => hn z.2]
  have h2 := sumR_upd (f := fun l => sumR (fun j => f (rows l j)) (2 ^ k)) (g := fun l' => sumR (fun j' => f (upR rows l j x l' j')) (2 ^ k)) (i := l) (n := k + 1) (by omega) fun l' _ hn =>
    sumR_congr fun j' _ => by rw [upR_ne fun z => hn z.1]
  simp only [upR_same] at h1
  unfold tot
  omega
theorem tot_ge {f : List Item → Nat} {rows : Nat → Nat → List Item} {k l j : Nat} (hl : l ≤ k) (hj : j < 2 ^ k) : f (rows l j) ≤ tot f rows k :=
  Nat.le_trans (sumR_ge (f := fun j => f (rows l j)) hj) (sumR_ge (f := fun l => sumR (fun j => f (rows l j)) (2 ^ k)) (n := k + 1) (by omega))
def wt (r : List Item) : Nat := (r.map fun i => i.nums.length).sum
abbrev MM0 : Int := 1000000000000000000000000000000
def Item.ok (nv na : Nat) (i : Item) : Prop := i.box < nv ∧ i.deed.ok ∧ i.deed.bd (MM0 * i.nums.length) ∧ i.nums ≠ [] ∧ ∀ n ∈ i.nums, n < na
def Rec.ok (nv : Nat) (r : Rec) : Prop := r.box < nv ∧ r.deed.ok ∧ r.deed.bd MM0 ∧ ∀ v e, r.res = some (v, e) → -(MM0 * 41) ≤ v ∧ v ≤ MM0 * 41
/-- s: so many numbers more may still be ended -/
structure GoodS (s : Nat) (N : NetS) : Prop where
  k4 : N.k ≤ 4
  room : N.room ≤ 6
  kept : N.kept ≤ 6
  v1 : 1 ≤ N.vals.length
  v16 : N.vals.length ≤ 16
  many : N.asks.length ≤ 40
  asks : ∀ r ∈ N.asks, r.ok N.vals.length
  item : ∀ l j, l ≤ N.k → j < 2 ^ N.k → ∀ i ∈ N.rows l j, i.ok N.vals.length N.asks.length
  nums : N.order.length + tot wt N.rows N.k + s ≤ N.asks.length
  cnt : N.pairs.length + tot List.length N.rows N.k ≤ N.asks.length
  vb : ∀ v ∈ N.vals, -(MM0 * (N.order.length + 1 : Nat)) ≤ v ∧ v ≤ MM0 * (N.order.length + 1 : Nat)
  prs : ∀ p ∈ N.pairs, p.2.2 < N.asks.length
abbrev Good := GoodS 0
theorem GoodS.rowLen {s : Nat} {N : NetS} (g : GoodS s N) {l j : Nat} (hl : l ≤ N.k) (hj : j < 2 ^ N.k) : (N.rows l j).length ≤ 40 := by
  have := tot_ge (f := List.length) (rows := N.rows) hl hj
  have := g.cnt
  have := g.many
  omega
theorem wt_cons {i : Item} {r : List Item} : wt (i :: r) = i.nums.length + wt r := by simp [wt]
theorem wt_append {a b : List Item} : wt (a ++ b) = wt a + wt b := by simp [wt]
theorem wt_mem {i : Item} : ∀ {r : List Item}, i ∈ r → i.nums.length ≤ wt r
  | x :: r, h => by
    rw [wt_cons]
    rcases List.mem_cons.mp h with e | e
    · subst e; omega
    · have := wt_mem e; omega
theorem wt_set {i o : Item} : ∀ {r : List Item} {a : Nat}, r[a]? = some o → wt (r.set a i) + o.nums.length = wt r + i.nums.length
  | x :: r, 0, h => by
    cases h
    rw [List.set_cons_zero, wt_cons, wt_cons]; omega
  | x :: r, a + 1, h => by
    have := wt_set (i := i) (r := r) (a := a) (by simpa using h)
    rw [List.set_cons_succ, wt_cons, wt_cons]; omega
/-! ### what is done keeps it -/
theorem endN_some {N : NetS} {n : Nat} {r : Rec} (h : N.asks[n]? = some r) : N.endN n = { N with asks := N.asks.set n { r with res := some (N.vals.getD r.box 0, N.now) }, vals := N.vals.set r.box (J.put r.deed (N.vals.getD r.box 0)), order := N.order ++ [n] } := by
  unfold NetS.endN; rw [h]
theorem endN_good {s : Nat} {N : NetS} {n : Nat} (g : GoodS (s + 1) N) (h : n < N.asks.length) : GoodS s (N.endN n) := by
  have hr : N.asks[n]? = some N.asks[n] := List.getElem?_eq_getElem h
  obtain ⟨r1, r2, r3, r4⟩ := g.asks _ (List.getElem_mem h)
  rw [endN_some hr]
  generalize N.asks[n] = r at *
  have hb : N.vals[r.box]? = some (N.vals.getD r.box 0) := by rw [List.getD_eq_getElem?_getD, List.getElem?_eq_getElem r1]; rfl
  have hv := g.vb _ (List.mem_of_getElem? hb)
  have hn := g.nums
  have hm := g.many
  generalize N.vals.getD r.box 0 = v at *
  refine ⟨g.k4, g.room, g.kept, by simpa using g.v1, by simpa using g.v16, by simpa using g.many, fun q hq => ?_, ?_, ?_, by simpa using g.cnt, fun x hx => ?_, by simpa using g.prs⟩
  · rw [List.length_set]
    rcases List.mem_or_eq_of_mem_set hq with z | z
    · exact g.asks q z
    · subst z
      refine ⟨r1, r2, r3, fun v' e' z => ?_⟩
      cases z
      push_cast at hv
      simp only [MM0] at *
      omega
  · intro l j hl hj i hi
    have := g.item l j hl hj i hi
    simpa [Item.ok] using this
  · show (N.order ++ [n]).length + tot wt N.rows N.k + s ≤ _
    rw [List.length_append, List.length_set, List.length_singleton]; omega
  · show -(MM0 * ((N.order ++ [n]).length + 1 : Nat)) ≤ x ∧ x ≤ MM0 * ((N.order ++ [n]).length + 1 : Nat)
    rw [List.length_append, List.length_singleton]
    rcases List.mem_or_eq_of_mem_set hx with z | z
    · have := g.vb x z
      push_cast at this ⊢
      simp only [MM0] at *
      omega
    · subst z
      have := put_bd r3 (v := v) (m := MM0 * (N.order.length + 1 : Nat)) hv (by simp only [MM0]; omega)
      push_cast at this ⊢
      simp only [MM0] at *
      omega
theorem ends_good : ∀ {ns : List Nat} {s : Nat} {N : NetS}, GoodS (ns.length + s) N → (∀ n ∈ ns, n < N.asks.length) → GoodS s (ns.foldl NetS.endN N)
  | [], s, N, g, _ => by rw [List.length_nil, Nat.zero_add] at g; exact g
  | n :: ns, s, N, g, h => by
    have hn := h n List.mem_cons_self
    have e : (N.endN n).asks.length = N.asks.length := by rw [endN_some (List.getElem?_eq_getElem hn)]; simp
    exact ends_good (ns := ns) (s := s) (endN_good (s := ns.length + s) (by rw [List.length_cons] at g; rw [show ns.length + s + 1 = ns.length + 1 + s by omega]; exact g) hn) fun x hx => by rw [e]; exact h x (List.mem_cons_of_mem _ hx)
theorem upR_mem {rows : Nat → Nat → List Item} {l j : Nat} {x : List Item} {P : Item → Prop} {k : Nat} (h : ∀ l j, l ≤ k → j < 2 ^ k → ∀ i ∈ rows l j, P i) (hx : ∀ i ∈ x, P i) : ∀ l' j', l' ≤ k → j' < 2 ^ k → ∀ i ∈ upR rows l j x l' j', P i := by
  intro l' j' h1 h2 i hi
  unfold upR at hi
  split at hi
  · exact hx i hi
  · exact h l' j' h1 h2 i hi
/-- the first item of a row is taken away -/
theorem drop_good {N : NetS} {l j : Nat} {it : Item} {r : List Item} (g : Good N) (hl : l ≤ N.k) (hj : j < 2 ^ N.k) (e : N.rows l j = it :: r) : GoodS it.nums.length { N with rows := upR N.rows l j r } := by
  have h1 := tot_upR (f := wt) (rows := N.rows) (x := r) hl hj
  have h2 := tot_upR (f := List.length) (rows := N.rows) (x := r) hl hj
  rw [e] at h1 h2
  rw [wt_cons] at h1
  rw [List.length_cons] at h2
  refine ⟨g.k4, g.room, g.kept, g.v1, g.v16, g.many, g.asks, upR_mem g.item fun i hi => g.item l j hl hj i (by rw [e]; exact List.mem_cons_of_mem _ hi), ?_, ?_, g.vb, g.prs⟩
  · have := g.nums
    show N.order.length + tot wt (upR N.rows l j r) N.k + _ ≤ N.asks.length
    omega
  · have := g.cnt
    show N.pairs.length + tot List.length (upR N.rows l j r) N.k ≤ N.asks.length
    omega
theorem take_good {N : NetS} {side : Nat} (g : Good N) (h : side < 2 ^ N.k) : Good (N.take side) := by
  unfold NetS.take
  cases e : N.rows N.k side with
  | nil => exact g
  | cons it r =>
    have d := drop_good g (Nat.le_refl _) h e
    refine ends_good (s := 0) d ?_
    exact (g.item N.k side (Nat.le_refl _) h it (by rw [e]; exact List.mem_cons_self)).2.2.2.2
theorem ends_k : ∀ {ns : List Nat} {N : NetS}, (ns.foldl NetS.endN N).k = N.k
  | [], _ => rfl
  | n :: ns, N => by
    rw [List.foldl_cons, ends_k]
    unfold NetS.endN
    split <;> rfl
theorem take_k {N : NetS} {side : Nat} : (N.take side).k = N.k := by
  unfold NetS.take
  split
  · rfl
  · rw [ends_k]
theorem lineOf_lt {k stage number figure : Nat} (h1 : k ≤ 4) (h2 : stage ≤ k) (h0 : 1 ≤ stage) (h3 : number < 2 ^ (k - 1)) (h4 : figure < 2) : lineOf k stage number figure < 2 ^ k := by
  have h : ∀ k : Fin 5, ∀ stage : Fin 5, ∀ number : Fin 8, ∀ figure : Fin 2, stage ≤ k → 1 ≤ stage.val → number.val < 2 ^ (k.val - 1) → lineOf k.val stage.val number.val figure.val < 2 ^ k.val := by decide +kernel
  have p : (2 : Nat) ^ (k - 1) ≤ 2 ^ 3 := Nat.pow_le_pow_right (by omega) (by omega)
  exact h ⟨k, by omega⟩ ⟨stage, by omega⟩ ⟨number, by omega⟩ ⟨figure, h4⟩ h2 h0 h3
theorem fig_lt {k line stage : Nat} : fig k line stage < 2 := Nat.mod_lt _ (by omega)
theorem outLine_lt {N : NetS} {stage number box : Nat} (h1 : N.k ≤ 4) (h2 : stage ≤ N.k) (h0 : 1 ≤ stage) (h3 : number < 2 ^ (N.k - 1)) : outLine N stage number box < 2 ^ N.k := lineOf_lt h1 h2 h0 h3 fig_lt
/-- the ways in which an item goes on -/
inductive Goes (N : NetS) (stage number : Nat) (it : Item) : NetS → Prop
  | join {a : Nat} {o : Item} (h : (N.rows stage (outLine N stage number it.box))[a]? = some o) : Goes N stage number it (N.joinAt stage number (outLine N stage number it.box) a o it)
  | add : Goes N stage number it (N.addAt stage (outLine N stage number it.box) it)
theorem doesGo_goes {N N' : NetS} {stage number : Nat} {it : Item} (h : N.doesGo stage number it = some N') : Goes N stage number it N' := by
  have room : ∀ {M : NetS}, N.room? stage (outLine N stage number it.box) it = some M → Goes N stage number it M := fun {M} z => by
    unfold NetS.room? at z
    split at z
    · cases z; exact .add
    · cases z
  unfold NetS.doesGo at h
  simp only at h
  split at h
  · exact room h
  · split at h
    · split at h
      · cases h; exact .join (by assumption)
      · cases h
    · exact room h
theorem goes_good {N N' : NetS} {stage number line : Nat} {it : Item} {r : List Item} (g : Good N) (h1 : 1 ≤ stage) (h2 : stage ≤ N.k) (h3 : number < 2 ^ (N.k - 1)) (hl : line < 2 ^ N.k) (e : N.rows (stage - 1) line = it :: r) (h : Goes N stage number it N') :
    Good { N' with rows := upR N'.rows (stage - 1) line r } ∧ N'.k = N.k ∧ N'.now = N.now := by
  have hit := g.item (stage - 1) line (by omega) hl it (by rw [e]; exact List.mem_cons_self)
  have ho := outLine_lt (box := it.box) g.k4 h2 h1 h3
  have hr : ∀ i ∈ r, i.ok N.vals.length N.asks.length := fun i hi => g.item (stage - 1) line (by omega) hl i (by rw [e]; exact List.mem_cons_of_mem _ hi)
  have hn := g.nums
  have hc := g.cnt
  cases h with
  | @join a o ha =>
    have hoo := g.item stage _ h2 ho o (List.mem_of_getElem? ha)
    refine ⟨⟨g.k4, g.room, g.kept, g.v1, g.v16, g.many, g.asks, upR_mem (upR_mem g.item fun i hi => ?_) hr, ?_, ?_, g.vb, fun p hp => ?_⟩, rfl, rfl⟩
    · rcases List.mem_or_eq_of_mem_set hi with z | z
      · exact g.item stage _ h2 ho i z
      · subst z
        refine ⟨hit.1, behind_ok hoo.2.1 hit.2.1, ?_, ?_, fun n hn => ?_⟩
        · have := behind_bd hoo.2.2.1 hit.2.2.1 (by simp only [MM0]; omega) (by simp only [MM0]; omega)
          show (behind o.deed it.deed).bd (MM0 * (o.nums ++ it.nums).length)
          rw [List.length_append]
          push_cast
          rw [Int.mul_add]
          exact this
        · intro z
          exact hoo.2.2.2.1 (List.append_eq_nil_iff.mp z).1
        · rcases List.mem_append.mp hn with z | z
          · exact hoo.2.2.2.2 n z
          · exact hit.2.2.2.2 n z
    · have t1 := tot_upR (f := wt) (rows := N.rows) (x := (N.rows stage (outLine N stage number it.box)).set a ⟨it.box, behind o.deed it.deed, o.nums ++ it.nums⟩) h2 ho
      have t2 := tot_upR (f := wt) (k := N.k) (l := stage - 1) (j := line) (rows := upR N.rows stage (outLine N stage number it.box) ((N.rows stage (outLine N stage number it.box)).set a ⟨it.box, behind o.deed it.deed, o.nums ++ it.nums⟩)) (x := r) (by omega) hl
      rw [upR_ne (by omega), e, wt_cons] at t2
      have t3 := wt_set (i := ⟨it.box, behind o.deed it.deed, o.nums ++ it.nums⟩) ha
      simp only [List.length_append] at t3
      show N.order.length + tot wt (upR (upR N.rows stage _ _) (stage - 1) line r) N.k + 0 ≤ N.asks.length
      omega
    · have t1 := tot_upR (f := List.length) (rows := N.rows) (x := (N.rows stage (outLine N stage number it.box)).set a ⟨it.box, behind o.deed it.deed, o.nums ++ it.nums⟩) h2 ho
      have t2 := tot_upR (f := List.length) (k := N.k) (l := stage - 1) (j := line) (rows := upR N.rows stage (outLine N stage number it.box) ((N.rows stage (outLine N stage number it.box)).set a ⟨it.box, behind o.deed it.deed, o.nums ++ it.nums⟩)) (x := r) (by omega) hl
      rw [upR_ne (by omega), e, List.length_cons] at t2
      rw [List.length_set] at t1
      show (N.pairs ++ [_]).length + tot List.length (upR (upR N.rows stage _ _) (stage - 1) line r) N.k ≤ N.asks.length
      rw [List.length_append, List.length_singleton]
      omega
    · rcases List.mem_append.mp hp with z | z
      · exact g.prs p z
      · rw [List.mem_singleton.mp z]
        show it.nums.headD 0 < N.asks.length
        cases q : it.nums with
        | nil => exact absurd q hit.2.2.2.1
        | cons x xs => exact hit.2.2.2.2 x (by rw [q]; exact List.mem_cons_self)
  | add =>
    refine ⟨⟨g.k4, g.room, g.kept, g.v1, g.v16, g.many, g.asks, upR_mem (upR_mem g.item fun i hi => ?_) hr, ?_, ?_, g.vb, g.prs⟩, rfl, rfl⟩
    · rcases List.mem_append.mp hi with z | z
      · exact g.item stage _ h2 ho i z
      · rw [List.mem_singleton.mp z]; exact hit
    · have t1 := tot_upR (f := wt) (rows := N.rows) (x := N.rows stage (outLine N stage number it.box) ++ [it]) h2 ho
      have t2 := tot_upR (f := wt) (k := N.k) (l := stage - 1) (j := line) (rows := upR N.rows stage (outLine N stage number it.box) (N.rows stage (outLine N stage number it.box) ++ [it])) (x := r) (by omega) hl
      rw [upR_ne (by omega), e, wt_cons] at t2
      rw [wt_append, wt_cons] at t1
      have z0 : wt [] = 0 := rfl
      show N.order.length + tot wt (upR (upR N.rows stage _ _) (stage - 1) line r) N.k + 0 ≤ N.asks.length
      omega
    · have t1 := tot_upR (f := List.length) (rows := N.rows) (x := N.rows stage (outLine N stage number it.box) ++ [it]) h2 ho
      have t2 := tot_upR (f := List.length) (k := N.k) (l := stage - 1) (j := line) (rows := upR N.rows stage (outLine N stage number it.box) (N.rows stage (outLine N stage number it.box) ++ [it])) (x := r) (by omega) hl
      rw [upR_ne (by omega), e, List.length_cons] at t2
      rw [List.length_append, List.length_singleton] at t1
      show N.pairs.length + tot List.length (upR (upR N.rows stage _ _) (stage - 1) line r) N.k ≤ N.asks.length
      omega
theorem handFig_good {N : NetS} {stage number figure : Nat} (g : Good N) (h1 : 1 ≤ stage) (h2 : stage ≤ N.k) (h3 : number < 2 ^ (N.k - 1)) (h4 : figure < 2) : Good (N.handFig stage number figure) ∧ (N.handFig stage number figure).k = N.k ∧ (N.handFig stage number figure).now = N.now := by
  have hl := lineOf_lt g.k4 h2 h1 h3 h4
  unfold NetS.handFig
  simp only
  split
  · exact ⟨g, rfl, rfl⟩
  · split
    · exact ⟨g, rfl, rfl⟩
    · rename_i it r e _ N' e'
      exact goes_good g h1 h2 h3 hl e (doesGo_goes e')
theorem handOn_good {N : NetS} {stage number : Nat} (g : Good N) (h1 : 1 ≤ stage) (h2 : stage ≤ N.k) (h3 : number < 2 ^ (N.k - 1)) : Good (N.handOn stage number) ∧ (N.handOn stage number).k = N.k := by
  have a := handFig_good (figure := N.now % 2) g h1 h2 h3 (Nat.mod_lt _ (by omega))
  have b := handFig_good (N := N.handFig stage number (N.now % 2)) (stage := stage) (number := number) (figure := 1 - N.now % 2) a.1 h1 (by rw [a.2.1]; exact h2) (by rw [a.2.1]; exact h3) (by omega)
  exact ⟨b.1, b.2.1.trans a.2.1⟩
theorem tick_good {N : NetS} (g : Good N) : Good N.tick ∧ N.tick.k = N.k := by
  refine ⟨⟨g.k4, g.room, g.kept, g.v1, g.v16, g.many, g.asks, g.item, g.nums, ?_, g.vb, fun p hp => g.prs p (List.mem_filter.mp hp).1⟩, rfl⟩
  have := g.cnt
  have h : (N.pairs.filter fun p => !NetS.forgot { N with now := N.now + 1 } p).length ≤ N.pairs.length := List.length_filter_le _ _
  show (N.pairs.filter fun p => !NetS.forgot { N with now := N.now + 1 } p).length + tot List.length N.rows N.k ≤ N.asks.length
  omega
theorem put_good {N : NetS} {a : Ask} (g : Good N) (h : N.asks.length < 40) (ha : a.ok N.vals.length) (hb : a.deed.bd MM0) (hh : a.hand < 2 ^ N.k) : Good (N.put a) := by
  have l : (N.put a).asks.length = N.asks.length + 1 := by show (N.asks ++ [_]).length = _; simp
  have hn := g.nums
  have hc := g.cnt
  refine ⟨g.k4, g.room, g.kept, g.v1, g.v16, by rw [l]; omega, fun r hr => ?_, upR_mem (fun l' j h1 h2 i hi => ?_) (fun i hi => ?_), ?_, ?_, g.vb, fun p hp => by rw [l]; have := g.prs p hp; omega⟩
  · rcases List.mem_append.mp hr with z | z
    · exact g.asks r z
    · rw [List.mem_singleton.mp z]
      exact ⟨ha.2.1, ha.2.2, hb, fun v e z => by cases z⟩
  · have := g.item l' j h1 h2 i hi
    exact ⟨this.1, this.2.1, this.2.2.1, this.2.2.2.1, fun n hn => by rw [l]; have := this.2.2.2.2 n hn; omega⟩
  · rcases List.mem_append.mp hi with z | z
    · have := g.item 0 a.hand (by omega) hh i z
      exact ⟨this.1, this.2.1, this.2.2.1, this.2.2.2.1, fun n hn => by rw [l]; have := this.2.2.2.2 n hn; omega⟩
    · rw [List.mem_singleton.mp z]
      refine ⟨ha.2.1, ha.2.2, ?_, by simp, fun n hn => ?_⟩
      · exact hb.mono (by simp)
      · rw [List.mem_singleton.mp hn, l]; omega
  · have t := tot_upR (f := wt) (rows := N.rows) (x := N.rows 0 a.hand ++ [⟨a.box, a.deed, [N.asks.length]⟩]) (k := N.k) (l := 0) (by omega) hh
    rw [wt_append, wt_cons] at t
    have z0 : wt [] = 0 := rfl
    have z1 : (⟨a.box, a.deed, [N.asks.length]⟩ : Item).nums.length = 1 := rfl
    rw [z1] at t
    rw [l]
    show N.order.length + tot wt (upR N.rows 0 a.hand _) N.k + 0 ≤ _
    omega
  · have t := tot_upR (f := List.length) (rows := N.rows) (x := N.rows 0 a.hand ++ [⟨a.box, a.deed, [N.asks.length]⟩]) (k := N.k) (l := 0) (by omega) hh
    rw [List.length_append, List.length_singleton] at t
    rw [l]
    show N.pairs.length + tot List.length (upR N.rows 0 a.hand _) N.k ≤ _
    omega
theorem tot_nil {f : List Item → Nat} {k : Nat} (h : f [] = 0) : tot f (fun _ _ => []) k = 0 := by
  have z : ∀ n, sumR (fun _ => 0) n = 0 := fun n => by
    induction n with
    | zero => rfl
    | succ n ih => rw [sumR_succ, ih]
  unfold tot
  simp only [h]
  rw [sumR_congr (g := fun _ => 0) fun i _ => z _, z]
theorem fresh_good {k room kept : Nat} {vals : List Int} (h1 : k ≤ 4) (h2 : room ≤ 6) (h3 : kept ≤ 6) (h4 : 1 ≤ vals.length) (h5 : vals.length ≤ 16) (h6 : ∀ v ∈ vals, -MM0 ≤ v ∧ v ≤ MM0) : Good (NetS.fresh k room kept vals) := by
  refine ⟨h1, h2, h3, h4, h5, by show 0 ≤ 40; omega, fun r hr => (by cases hr), fun l j _ _ i hi => (by cases hi), ?_, ?_, ?_, fun p hp => (by cases hp)⟩
  · show 0 + tot wt (fun _ _ => []) k + 0 ≤ 0
    rw [tot_nil rfl]
    exact Nat.le_refl _
  · show 0 + tot List.length (fun _ _ => []) k ≤ 0
    rw [tot_nil rfl]
    exact Nat.le_refl _
  · intro v hv
    have := h6 v hv
    show -(MM0 * ((0 : Nat) + 1 : Nat)) ≤ v ∧ v ≤ MM0 * ((0 : Nat) + 1 : Nat)
    simpa using this
end J
namespace J
open PySem PySem.Spec PyProof.Rows L2
theorem ok_self {k : Nat} : Slot.ok k .self := trivial
theorem ok_am {k : Nat} : Slot.ok k .am := trivial
theorem ok_rows {k : Nat} : Slot.ok k .rows := trivial
theorem ok_asked {k : Nat} : Slot.ok k .asked := trivial
theorem ok_answers {k : Nat} : Slot.ok k .answers := trivial
theorem ok_ends {k : Nat} : Slot.ok k .ends := trivial
theorem ok_order {k : Nat} : Slot.ok k .order := trivial
theorem ok_pairs {k : Nat} : Slot.ok k .pairs := trivial
def netF : List Str := ["depth", "amounts", "room", "kept", "rows", "asked", "answers", "ends", "order", "pairs", "now"]
structure NetC (K : PySem.W.Frag) (C : Addr) : Prop where
  cls : Cls K C
  na : ∀ f ∈ netF, NoAttr K C f
section
variable {K : PySem.W.Frag} {C : Addr} {G : Gp} {A : Slot → Addr} {N : NetS} {R : D → Gp → Prop}
theorem fl_net {f : Str} {x : D} (NC : NetC K C) (NA : NetAt C G A N) (hf : f ∈ netF) (l : (netFs N A (A .pairs) N.now).lookup f = some x) (r : R x G) : Fl K f G R (.ref (A .self)) := .ins (NA.here .self trivial) NC.cls (NC.na f hf) l r
theorem fl_depth (NC : NetC K C) (NA : NetAt C G A N) (r : R (.int (N.k : Nat)) G) : Fl K "depth" G R (.ref (A .self)) := fl_net NC NA (by decide) rfl r
theorem fl_amounts (NC : NetC K C) (NA : NetAt C G A N) (r : R (.ref (A .am)) G) : Fl K "amounts" G R (.ref (A .self)) := fl_net NC NA (by decide) rfl r
theorem fl_room (NC : NetC K C) (NA : NetAt C G A N) (r : R (.int (N.room : Nat)) G) : Fl K "room" G R (.ref (A .self)) := fl_net NC NA (by decide) rfl r
theorem fl_kept (NC : NetC K C) (NA : NetAt C G A N) (r : R (.int (N.kept : Nat)) G) : Fl K "kept" G R (.ref (A .self)) := fl_net NC NA (by decide) rfl r
theorem fl_rows (NC : NetC K C) (NA : NetAt C G A N) (r : R (.ref (A .rows)) G) : Fl K "rows" G R (.ref (A .self)) := fl_net NC NA (by decide) rfl r
theorem fl_asked (NC : NetC K C) (NA : NetAt C G A N) (r : R (.ref (A .asked)) G) : Fl K "asked" G R (.ref (A .self)) := fl_net NC NA (by decide) rfl r
theorem fl_answers (NC : NetC K C) (NA : NetAt C G A N) (r : R (.ref (A .answers)) G) : Fl K "answers" G R (.ref (A .self)) := fl_net NC NA (by decide) rfl r
theorem fl_ends (NC : NetC K C) (NA : NetAt C G A N) (r : R (.ref (A .ends)) G) : Fl K "ends" G R (.ref (A .self)) := fl_net NC NA (by decide) rfl r
theorem fl_order (NC : NetC K C) (NA : NetAt C G A N) (r : R (.ref (A .order)) G) : Fl K "order" G R (.ref (A .self)) := fl_net NC NA (by decide) rfl r
theorem fl_pairs (NC : NetC K C) (NA : NetAt C G A N) (r : R (.ref (A .pairs)) G) : Fl K "pairs" G R (.ref (A .self)) := fl_net NC NA (by decide) rfl r
theorem fl_now (NC : NetC K C) (NA : NetAt C G A N) (r : R (.int (N.now : Nat)) G) : Fl K "now" G R (.ref (A .self)) := fl_net NC NA (by decide) rfl r
theorem i_rows {X : Cx} {l : Nat} (NA : NetAt C G A N) (h : l ≤ N.k) (r : R (.ref (A (.lv l))) G) : II X (.ref (A .rows)) (.int (l : Nat)) G R :=
  i_lst (.ref (NA.here .rows trivial)) (by rw [List.getElem?_map, List.getElem?_range (by omega)]; rfl) r
theorem i_lv {X : Cx} {l j : Nat} (NA : NetAt C G A N) (h : l ≤ N.k) (hj : j < 2 ^ N.k) (r : R (.ref (A (.ln l j))) G) : II X (.ref (A (.lv l))) (.int (j : Nat)) G R :=
  i_lst (.ref (NA.here (.lv l) h)) (by rw [List.getElem?_map, List.getElem?_range hj]; rfl) r
theorem NetAt.row (NA : NetAt C G A N) {l j : Nat} (h : l ≤ N.k) (hj : j < 2 ^ N.k) : G (A (.ln l j)) = some (.lst ((N.rows l j).map dItem)) := NA.here (.ln l j) ⟨h, hj⟩
/-- a row of the net is changed -/
theorem NetAt.upRow (NA : NetAt C G A N) {l j : Nat} (h : l ≤ N.k) (hj : j < 2 ^ N.k) (x : List Item) : NetAt C (gup G (A (.ln l j)) (.lst (x.map dItem))) A { N with rows := upR N.rows l j x } := by
  refine NA.upd (N' := { N with rows := upR N.rows l j x }) (.ln l j) ⟨h, hj⟩ rfl (by show MO.lst ((upR N.rows l j x l j).map dItem) = _; rw [upR_same]) fun t ht hn => ?_
  cases t with
  | ln l' j' =>
    show MO.lst ((upR N.rows l j x l' j').map dItem) = _
    rw [upR_ne fun z => hn (by rw [z.1, z.2])]
    rfl
  | _ => rfl
theorem i_at {X : Cx} {α : Type} {f : α → D} {xs : List α} {p : Addr} {n : Nat} (hp : G p = some (.lst (xs.map f))) {x : α} (h : xs[n]? = some x) (r : R (f x) G) : II X (.ref p) (.int (n : Nat)) G R :=
  i_lst (.ref hp) (by rw [List.getElem?_map, h]; rfl) r
theorem NetAt.gat (NA : NetAt C G A N) {G1 : Gp} {s t : Slot} {m : MO} (h1 : s.ok N.k) (h2 : t.ok N.k) : gup G1 (A s) m (A t) = if t = s then some m else G1 (A t) := by
  by_cases e : t = s
  · subst e; rw [if_pos rfl, gup_same]
  · rw [if_neg e, gup_ne fun q => e (NA.inj t s h2 h1 q)]
theorem set_map_same {α β : Type} {f : α → β} {xs : List α} {n : Nat} {x y : α} (h : xs[n]? = some x) (e : f y = f x) : (xs.set n y).map f = xs.map f := by
  rw [List.map_set, e]
  apply List.ext_getElem?
  intro i
  rw [List.getElem?_set]
  obtain ⟨hl, hx⟩ := List.getElem?_eq_some_iff.mp h
  split
  · rename_i e3
    subst e3
    rw [List.getElem?_map, h]
    simp [hl]
  · rfl
/-- what stands at another list -/
theorem NetAt.chg (NA : NetAt C G A N) {s : Slot} (hs : s.ok N.k) {N' : NetS} {m : MO} (hk : N'.k = N.k) (hm : holds C N' A s = m) (ho : ∀ t : Slot, t.ok N.k → t ≠ s → holds C N' A t = holds C N A t) : NetAt C (gup G (A s) m) A N' ∧ Own N.k G A (gup G (A s) m) A := ⟨NA.upd s hs hk hm ho, Own.gup hs⟩
end
section
variable {P : Program} {w : World} {K : PySem.W.Frag} {mg : Str → Option Value} {base : Heap} {CNet : Addr}
def S_Net_want_hand (CNet : Addr) : AS := fun ds G R => ∃ A N, ∃ h : Nat, ds = [.ref (A .self), .int h] ∧ NetAt CNet G A N ∧ N.k ≤ 4 ∧ h < 2 ^ N.k ∧ R .non G
theorem sc_Net_want_hand : FnScope ["self", "hand"] ["self", "hand"] (defScope (inClass (top 46) 1)) := ⟨rfl, rfl, rfl, by decide +kernel, rfl, by decide +kernel, by decide +kernel⟩
theorem f_Net_want_hand (T : Blt K mg) (NC : NetC K CNet) (dt : DatM K CNet d_Net_want_hand "want_hand") : Mn P w K mg base 1 CNet "want_hand" ["self", "hand"] [] (S_Net_want_hand CNet) := by
  obtain ⟨f, fd, F, hm⟩ := dt
  refine ⟨f, cal_of F sc_Net_want_hand (fun ds G R h => ?_) (fun _ _ _ _ _ _ us hl => match us, hl with | [_, _], _ => rfl) (fun cdv A outer s H E hr ds G R h => ?_), hm⟩
  · obtain ⟨A', N, h, rfl, NA, h1, h2, _⟩ := h
    rfl
  · obtain ⟨A', N, h, rfl, NA, h1, h2, k⟩ := h
    have e : (1 : Int) * 2 ^ ((N.k : Nat) : Int).toNat = (2 ^ N.k : Nat) := by rw [Int.one_mul, Int.toNat_natCast]; push_cast; rfl
    refine b_one <| s_if <| t_cmp <| e_var 1 rfl <| e_bin <| e_int <| e_fld <| e_var 0 rfl <| fl_depth NC NA <| o_shl (cpow_nat (by omega) (by omega) (by omega) (by omega)) <| o_ge ⟨_, rfl, ite_f ?_ (b_nil k)⟩
    rw [e]
    simp only [decide_eq_false_iff_not]
    omega
def S_Net_is_forgotten (CNet : Addr) : AS := fun ds G R => ∃ A N p, ds = [.ref (A .self), dPair p] ∧ NetAt CNet G A N ∧ p.2.2 < N.asks.length ∧ R (.bl (N.forgot p)) G
theorem sc_Net_is_forgotten : FnScope ["self", "pair", "end", "stage", "number", "ask"] ["self", "pair"] (defScope (inClass (top 46) 4)) := ⟨rfl, rfl, rfl, by decide +kernel, rfl, by decide +kernel, by decide +kernel⟩
theorem f_Net_is_forgotten (T : Blt K mg) (NC : NetC K CNet) (dt : DatM K CNet d_Net_is_forgotten "is_forgotten") : Mn P w K mg base 1 CNet "is_forgotten" ["self", "pair"] [] (S_Net_is_forgotten CNet) := by
  obtain ⟨f, fd, F, hm⟩ := dt
  refine ⟨f, cal_of F sc_Net_is_forgotten (fun ds G R h => ?_) (fun _ _ _ _ _ _ us hl => match us, hl with | [_, _], _ => rfl) (fun cdv A outer s H E hr ds G R h => ?_), hm⟩
  · obtain ⟨A', N, p, rfl, NA, h1, _⟩ := h
    rfl
  · obtain ⟨A', N, p, rfl, NA, h1, k⟩ := h
    refine b_cons <| s_asg (pg_tup rfl (pgs_cons (pg_name (i := 3) sc_Net_is_forgotten.nd rfl (Or.inl rfl)) (pgs_cons (pg_name (i := 4) sc_Net_is_forgotten.nd rfl (Or.inl rfl)) (pgs_cons (pg_name (i := 5) sc_Net_is_forgotten.nd rfl (Or.inl rfl)) pgs_nil)))) <| e_var 1 rfl ⟨_, tg_tup (tgs_cons tg_name (tgs_cons tg_name (tgs_cons tg_name tgs_nil))), ?_⟩
    have hq : N.asks[p.2.2]? = some N.asks[p.2.2] := List.getElem?_eq_getElem h1
    refine b_cons <| s_set 2 sc_Net_is_forgotten.nd <| e_ix <| e_fld <| e_var 0 rfl <| fl_ends NC NA <| e_var 5 rfl <| i_at (NA.here .ends trivial) hq ?_
    have e : N.forgot p = match N.asks[p.2.2].res with
      | none => false
      | some (_, e) => decide ((N.k : Int) - p.1 < (N.now : Int) - e) := by unfold NetS.forgot; rw [hq]; rfl
    rw [e] at k
    refine b_one <| s_ret <| e_and <| e_cmp <| e_var 2 rfl <| e_non <| o_isnot ⟨_, rfl, ?_⟩
    cases q : N.asks[p.2.2].res with
    | none =>
      rw [q] at k
      exact iteFF ⟨_, Sub.refl _, k⟩
    | some z =>
      rw [q] at k
      refine iteTT ?_
      have g2 : ∀ {Γ : SG} {v : Int}, Γ[2]? = some (some (dON (Option.map (fun x => x.2) (some z)))) → Γ[2]? = some (some (.int (z.2 : Nat))) := fun h => h
      exact e_one <| e_cmp <| e_bin <| e_fld <| e_var 0 rfl <| fl_now NC NA <| e_var 2 rfl <| o_sub <| e_bin <| e_fld <| e_var 0 rfl <| fl_depth NC NA <| e_var 3 rfl <| o_sub <| o_gt ⟨_, Sub.refl _, k⟩
def S_Net_end (CNet : Addr) : AS := fun ds G R => ∃ A N, ∃ n : Nat, ds = [.ref (A .self), .int n] ∧ NetAt CNet G A N ∧ n < N.asks.length ∧ N.asks.length ≤ 40 ∧ N.order.length ≤ 40 ∧ (∀ r ∈ N.asks, r.box < N.vals.length) ∧ ∀ G', NetAt CNet G' A (N.endN n) → Own N.k G A G' A → R .non G'
theorem sc_Net_end : FnScope ["self", "number", "values", "box", "deed"] ["self", "number"] (defScope (inClass (top 46) 8)) := ⟨rfl, rfl, rfl, by decide +kernel, rfl, by decide +kernel, by decide +kernel⟩
theorem f_Net_end (T : Blt K mg) (NC : NetC K CNet) (dt : DatM K CNet d_Net_end "end") (c1 : Fn P w K mg base 1 "put_through" ["deed", "value"] [] S_put_through) : Mn P w K mg base 2 CNet "end" ["self", "number"] [] (S_Net_end CNet) := by
  obtain ⟨f, fd, F, hm⟩ := dt
  refine ⟨f, cal_of F sc_Net_end (fun ds G R h => ?_) (fun _ _ _ _ _ _ us hl => match us, hl with | [_, _], _ => rfl) (fun cdv A outer s H E hr ds G R h => ?_), hm⟩
  · obtain ⟨A', N, n, rfl, NA, h1, h2, h3, h4, _⟩ := h
    rfl
  · obtain ⟨A', N, n, rfl, NA, h1, h2, h3, h4, k⟩ := h
    obtain ⟨f1, q1, m1⟩ := c1
    have hq : N.asks[n]? = some N.asks[n] := List.getElem?_eq_getElem h1
    have hb := h4 _ (List.getElem_mem h1)
    rw [endN_some hq] at k
    generalize N.asks[n] = r at *
    have hv : N.vals[r.box]? = some (N.vals.getD r.box 0) := by rw [List.getD_eq_getElem?_getD, List.getElem?_eq_getElem hb]; rfl
    generalize N.vals.getD r.box 0 = v at *
    have kb : ∀ {f : Rec → D} {y : Rec}, f y = f r → (N.asks.set n y).map f = N.asks.map f := fun {f y} e2 => set_map_same hq e2
    have ga : ∀ {G1 : Gp} {s t : Slot} {m : MO}, s.ok N.k → t.ok N.k → gup G1 (A' s) m (A' t) = if t = s then some m else G1 (A' t) := fun h1 h2 => NA.gat h1 h2
    refine b_cons <| s_asg (pg_tup rfl (pgs_cons (pg_name (i := 3) sc_Net_end.nd rfl (Or.inl rfl)) (pgs_cons (pg_name (i := 4) sc_Net_end.nd rfl (Or.inl rfl)) pgs_nil))) <| e_ix <| e_fld <| e_var 0 rfl <| fl_asked NC NA <| e_var 1 rfl <| i_at (NA.here .asked trivial) hq ⟨_, tg_tup (tgs_cons tg_name (tgs_cons tg_name tgs_nil)), ?_⟩
    refine b_cons <| s_set 2 sc_Net_end.nd <| e_fld <| e_var 0 rfl <| fl_amounts NC NA ?_
    refine b_cons <| s_sub <| e_ix <| e_var 2 rfl <| e_var 3 rfl <| i_at (NA.here .am trivial) hv <| e_fld <| e_var 0 rfl <| fl_answers NC NA <| e_var 1 rfl ⟨_, _, n, rfl, rfl, NA.here .answers trivial, by rw [List.length_map]; exact h1, ?_⟩
    refine b_cons <| s_sub <| e_call q1 m1 (hr.mono (by decide)) <| a_cons <| e_var 4 rfl <| a_cons <| e_ix <| e_var 2 rfl <| e_var 3 rfl <| i_at (xs := N.vals) (f := D.int) (by simp only [ga, ok_self, ok_am, ok_rows, ok_asked, ok_answers, ok_ends, ok_order, ok_pairs, reduceCtorEq, if_false]; exact NA.here .am trivial) hv <| a_nil ⟨r.deed, v, rfl, ?_⟩
    refine e_var 2 rfl <| e_var 3 rfl ⟨_, _, r.box, rfl, rfl, (by simp only [ga, ok_self, ok_am, ok_rows, ok_asked, ok_answers, ok_ends, ok_order, ok_pairs, reduceCtorEq, if_false]; exact NA.here .am trivial), by rw [List.length_map]; exact hb, ?_⟩
    refine b_cons <| s_sub <| e_fld <| e_var 0 rfl <| .ins (by simp only [ga, ok_self, ok_am, ok_rows, ok_asked, ok_answers, ok_ends, ok_order, ok_pairs, reduceCtorEq, if_false]; exact NA.here .self trivial) NC.cls (NC.na "now" (by decide)) rfl ?_
    refine e_fld <| e_var 0 rfl <| .ins (by simp only [ga, ok_self, ok_am, ok_rows, ok_asked, ok_answers, ok_ends, ok_order, ok_pairs, reduceCtorEq, if_false]; exact NA.here .self trivial) NC.cls (NC.na "ends" (by decide)) rfl ?_
    refine e_var 1 rfl ⟨_, _, n, rfl, rfl, (by simp only [ga, ok_self, ok_am, ok_rows, ok_asked, ok_answers, ok_ends, ok_order, ok_pairs, reduceCtorEq, if_false]; exact NA.here .ends trivial), by rw [List.length_map]; exact h1, ?_⟩
    refine b_one <| s_expr <| e_bm PySem.F.plainAttrs_list PySem.F.slot_list_append PySem.F.type_list_append <| e_fld <| e_var 0 rfl <| .ins (by simp only [ga, ok_self, ok_am, ok_rows, ok_asked, ok_answers, ok_ends, ok_order, ok_pairs, reduceCtorEq, if_false]; exact NA.here .self trivial) NC.cls (NC.na "order" (by decide)) rfl ⟨?_, ?_⟩
    · exact .inr (.inl ⟨rfl, _, .ref (by simp only [ga, ok_self, ok_am, ok_rows, ok_asked, ok_answers, ok_ends, ok_order, ok_pairs, reduceCtorEq, if_false]; exact NA.here .order trivial)⟩)
    refine a_cons <| e_var 1 rfl <| a_nil <| m_append (by simp only [ga, ok_self, ok_am, ok_rows, ok_asked, ok_answers, ok_ends, ok_order, ok_pairs, reduceCtorEq, if_false]; exact NA.here .order trivial) (by rw [List.length_map]; omega) ?_
    refine k _ ⟨NA.inj, fun t ht => ?_⟩ (((Own.gup (s := .answers) trivial).trans (Own.gup (s := .am) trivial)).trans ((Own.gup (s := .ends) trivial).trans (Own.gup (s := .order) trivial)))
    have ht : t.ok N.k := ht
    rw [ga (s := .order) trivial ht, ga (s := .ends) trivial ht, ga (s := .am) trivial ht, ga (s := .answers) trivial ht]
    cases t with
    | answers => simp [holds]; rfl
    | am => simp [holds]
    | ends => simp [holds, dON]
    | order => simp [holds]
    | asked =>
      simp only [reduceCtorEq, if_false]
      rw [NA.here .asked trivial]
      show some (MO.lst _) = some (MO.lst ((N.asks.set n _).map _))
      exact congrArg (fun l => some (MO.lst l)) (kb (y := { r with res := some (v, N.now) }) rfl).symm
    | self => simp only [reduceCtorEq, if_false]; exact NA.here .self trivial
    | rows => simp only [reduceCtorEq, if_false]; exact NA.here .rows trivial
    | pairs => simp only [reduceCtorEq, if_false]; exact NA.here .pairs trivial
    | lv l => simp only [reduceCtorEq, if_false]; exact NA.here (.lv l) ht
    | ln l j => simp only [reduceCtorEq, if_false]; exact NA.here (.ln l j) ht
end
end J
namespace J
open PySem PySem.Spec PyProof.Rows L2
theorem dec_int {a b : Nat} : decide ((a : Int) = (b : Int)) = decide (a = b) := decide_eq_decide.mpr (by omega)
theorem dec_intlt {a b : Nat} : decide ((a : Int) < (b : Int)) = decide (a < b) := decide_eq_decide.mpr (by omega)
theorem p2i (k : Nat) : (1 : Int) * 2 ^ ((k : Nat) : Int).toNat = (2 ^ k : Nat) := by rw [Int.one_mul, Int.toNat_natCast]; push_cast; rfl
theorem p2_lt8 {k n : Nat} (h : k ≤ 4) (hn : n < 2 ^ (k - 1)) : n < 8 := Nat.lt_of_lt_of_le hn (show 2 ^ (k - 1) ≤ 2 ^ 3 from Nat.pow_le_pow_right (by omega) (by omega))
theorem p2_lt16 {k n : Nat} (h : k ≤ 4) (hn : n < 2 ^ k) : n < 16 := Nat.lt_of_lt_of_le hn (p2_le h)
theorem box16 {s : Nat} {N : NetS} {b : Nat} (g : GoodS s N) (h : b < N.vals.length) : b < 16 := by have := g.v16; omega
theorem ends_len : ∀ {ns : List Nat} {N : NetS}, (∀ n ∈ ns, n < N.asks.length) → (ns.foldl NetS.endN N).asks.length = N.asks.length
  | [], _, _ => rfl
  | n :: ns, N, h => by
    have e : (N.endN n).asks.length = N.asks.length := by rw [endN_some (List.getElem?_eq_getElem (h n List.mem_cons_self))]; simp
    rw [List.foldl_cons, ends_len (N := N.endN n) (fun x hx => by rw [e]; exact h x (List.mem_cons_of_mem _ hx)), e]
theorem filter_take {α : Type} (xs : List α) (p : α → Bool) (q : Nat → Bool) (h : ∀ i x, xs[i]? = some x → q i = p x) : ∀ n, n ≤ xs.length → ((List.range n).filter q).length = ((xs.take n).filter p).length
  | 0, _ => by simp
  | n + 1, hn => by
    have hx : xs[n]? = some xs[n] := List.getElem?_eq_getElem (by omega)
    rw [List.range_succ, List.filter_append, List.length_append, filter_take xs p q h n (by omega), List.take_succ, hx, List.filter_append, List.length_append]
    congr 1
    show ([n].filter q).length = ([xs[n]].filter p).length
    have e := h n _ hx
    by_cases z : p xs[n] = true
    · rw [List.filter_cons, List.filter_cons, e, if_pos z, if_pos z]; rfl
    · rw [List.filter_cons, List.filter_cons, e, if_neg z, if_neg z]; rfl
theorem filter_len {α : Type} (xs : List α) (p : α → Bool) (q : Nat → Bool) (h : ∀ i x, xs[i]? = some x → q i = p x) : ((List.range xs.length).filter q).length = (xs.filter p).length := by
  rw [filter_take xs p q h xs.length (Nat.le_refl _), List.take_length]
theorem no3 {x y z : D} : ¬ (HT.sIx [x, y, z].length 0 none = 0 ∧ HT.sIx [x, y, z].length [x, y, z].length (some 2) = [x, y, z].length) := by
  show ¬ (HT.sIx 3 0 none = 0 ∧ HT.sIx 3 3 (some 2) = 3)
  decide
section
variable {P : Program} {w : World} {K : PySem.W.Frag} {mg : Str → Option Value} {base : Heap} {CNet : Addr}
def S_Net_take (CNet : Addr) : AS := fun ds G R => ∃ A N, ∃ n : Nat, ds = [.ref (A .self), .int n] ∧ NetAt CNet G A N ∧ Good N ∧ n < 2 ^ N.k ∧ ∀ G', NetAt CNet G' A (N.take n) → Own N.k G A G' A → R .non G'
theorem sc_Net_take : FnScope ["self", "side", "row", "number", "box", "deed", "numbers"] ["self", "side"] (defScope (inClass (top 46) 7)) := ⟨rfl, rfl, rfl, by decide +kernel, rfl, by decide +kernel, by decide +kernel⟩
theorem f_Net_take (T : Blt K mg) (NC : NetC K CNet) (dt : DatM K CNet d_Net_take "take") (c1 : Mn P w K mg base 2 CNet "end" ["self", "number"] [] (S_Net_end CNet)) : Mn P w K mg base 3 CNet "take" ["self", "side"] [] (S_Net_take CNet) := by
  obtain ⟨f, fd, F, hm⟩ := dt
  refine ⟨f, cal_of F sc_Net_take (fun ds G R h => ?_) (fun _ _ _ _ _ _ us hl => match us, hl with | [_, _], _ => rfl) (fun cdv A outer s H E hr ds G R h => ?_), hm⟩
  · obtain ⟨A', N, n, rfl, NA, g, h1, _⟩ := h
    rfl
  · obtain ⟨A', N, n, rfl, NA, g, h1, k⟩ := h
    obtain ⟨f1, q1, m1⟩ := c1
    refine b_cons <| s_set 2 sc_Net_take.nd <| e_ix <| e_ix <| e_fld <| e_var 0 rfl <| fl_rows NC NA <| e_fld <| e_var 0 rfl <| fl_depth NC NA <| i_rows NA (Nat.le_refl _) <| e_var 1 rfl <| i_lv NA (Nat.le_refl _) h1 ?_
    have hrow := NA.row (Nat.le_refl _) h1
    refine b_one <| s_if <| t_cmp <| e_var 2 rfl <| e_lst <| a_nil ⟨Nat.le_of_ble_eq_true rfl, o_neNil hr.units (.ref hrow) ⟨_, rfl, ?_⟩⟩
    have kt : N.take n = match N.rows N.k n with
      | [] => N
      | it :: r => it.nums.foldl NetS.endN { N with rows := upR N.rows N.k n r } := rfl
    rw [kt] at k
    cases e : N.rows N.k n with
    | nil =>
      rw [e] at k
      exact iteFF (b_nil (k _ NA Own.refl))
    | cons it r =>
      rw [e] at k hrow
      refine iteTT <| b_cons <| s_asg (pg_tup rfl (pgs_cons (pg_name (i := 4) sc_Net_take.nd rfl (Or.inl rfl)) (pgs_cons (pg_name (i := 5) sc_Net_take.nd rfl (Or.inl rfl)) (pgs_cons (pg_name (i := 6) sc_Net_take.nd rfl (Or.inl rfl)) pgs_nil)))) <| e_bm PySem.F.plainAttrs_list PySem.F.slot_list_pop PySem.F.type_list_pop <| e_var 2 rfl ⟨.inr (.inl ⟨rfl, _, .ref hrow⟩), a_cons <| e_int <| a_nil <| m_pop0 hrow ⟨_, tg_tup (tgs_cons tg_name (tgs_cons tg_name (tgs_cons tg_name tgs_nil))), ?_⟩⟩
      have d := drop_good g (Nat.le_refl _) h1 e
      have hi := g.item N.k n (Nat.le_refl _) h1 it (by rw [e]; exact List.mem_cons_self)
      have NA1 : NetAt CNet (gup G (A' (.ln N.k n)) (.lst (r.map dItem))) A' { N with rows := upR N.rows N.k n r } := NA.upRow (Nat.le_refl _) h1 r
      refine b_one <| s_for (pg_name (i := 3) sc_Net_take.nd rfl (Or.inl rfl)) PassesOwn.never <| n_tup <| e_var 6 rfl ⟨_, .tup, fun i Γ G' => Γ.length = 7 ∧ Γ[0]? = some (some (.ref (A' .self))) ∧ NetAt CNet G' A' ((it.nums.take i).foldl NetS.endN { N with rows := upR N.rows N.k n r }) ∧ Own N.k G A' G' A' ∧ GoodS (it.nums.length - i) ((it.nums.take i).foldl NetS.endN { N with rows := upR N.rows N.k n r }), ⟨rfl, rfl, NA1, Own.gup (s := .ln N.k n) ⟨Nat.le_refl _, h1⟩, d⟩, fun _ _ _ _ _ => trivial, ?_, ?_⟩
      · rintro i Γ' G' hlt ⟨l, g0, na, ow, gd⟩
        rw [List.length_map] at hlt
        refine ⟨_, tg_name, ?_⟩
        rw [at0_map hlt]
        have ek : ((it.nums.take i).foldl NetS.endN { N with rows := upR N.rows N.k n r }).k = N.k := ends_k
        have el : ((it.nums.take i).foldl NetS.endN { N with rows := upR N.rows N.k n r }).asks.length = N.asks.length := ends_len (fun x hx => hi.2.2.2.2 x (List.mem_of_mem_take hx))
        have hx : it.nums[i] < N.asks.length := hi.2.2.2.2 _ (List.getElem_mem hlt)
        have gd' : GoodS ((it.nums.length - (i + 1)) + 1) ((it.nums.take i).foldl NetS.endN { N with rows := upR N.rows N.k n r }) := by rw [show it.nums.length - (i + 1) + 1 = it.nums.length - i by omega]; exact gd
        have fin : (it.nums.take (i + 1)).foldl NetS.endN { N with rows := upR N.rows N.k n r } = ((it.nums.take i).foldl NetS.endN { N with rows := upR N.rows N.k n r }).endN it.nums[i] := by
          rw [List.take_succ, List.getElem?_eq_getElem hlt, List.foldl_append]; rfl
        refine b_one <| s_expr <| e_meth NC.cls m1 q1 (hr.mono (by decide)) <| e_var 0 (sg_ne g0 (by decide)) ⟨_, _, rfl, na.here .self trivial, rfl, a_cons <| e_var 3 (sg_eq (by rw [l]; decide)) <| a_nil ⟨A', _, it.nums[i], rfl, na, by rw [el]; exact hx, gd.many, by have := gd.nums; have := gd.many; omega, fun q hq => (gd.asks q hq).1, fun G2 na2 ow2 => ?_⟩⟩
        exact ⟨by rw [setD_len]; exact l, sg_ne g0 (by decide), by rw [fin]; exact na2, ow.trans (ek ▸ ow2), by rw [fin]; exact endN_good gd' (by rw [el]; exact hx)⟩
      · rintro Γ' G' ⟨l, g0, na, ow, gd⟩
        rw [List.length_map, List.take_length] at na
        exact k _ na ow
def S_Net_joinings (CNet : Addr) : AS := fun ds G R => ∃ A N, ∃ a b : Nat, ds = [.ref (A .self), .int a, .int b] ∧ NetAt CNet G A N ∧ N.k ≤ 4 ∧ 1 ≤ a ∧ a ≤ N.k ∧ b < 2 ^ (N.k - 1) ∧ N.pairs.length ≤ 1000 ∧ R (.int (N.joinings a b : Nat)) G
theorem sc_Net_joinings : FnScope ["self", "stage", "number", "pair"] ["self", "stage", "number"] (defScope (inClass (top 46) 18)) := ⟨rfl, rfl, rfl, by decide +kernel, rfl, by decide +kernel, by decide +kernel⟩
theorem f_Net_joinings (T : Blt K mg) (NC : NetC K CNet) (dt : DatM K CNet d_Net_joinings "joinings") (c1 : Fn P w K mg base 2 "is_within" ["thing", "least", "most"] [] S_is_within) (c2 : Fn P w K mg base 3 "is_place" ["k", "thing"] [] S_is_place) : Mn P w K mg base 4 CNet "joinings" ["self", "stage", "number"] [] (S_Net_joinings CNet) := by
  obtain ⟨f, fd, F, hm⟩ := dt
  refine ⟨f, cal_of F sc_Net_joinings (fun ds G R h => ?_) (fun _ _ _ _ _ _ us hl => match us, hl with | [_, _, _], _ => rfl) (fun cdv A outer s H E hr ds G R h => ?_), hm⟩
  · obtain ⟨A', N, a, b, rfl, NA, h4, h1, h2, h3, hp, _⟩ := h
    rfl
  · obtain ⟨A', N, a, b, rfl, NA, h4, h1, h2, h3, hp, k⟩ := h
    obtain ⟨f1, q1, m1⟩ := c1
    obtain ⟨f2, q2, m2⟩ := c2
    refine b_cons <| s_if <| t_w <| w_or <| t_not <| t_val <| e_call q1 m1 (hr.mono (by decide)) <| a_cons <| e_var 1 rfl <| a_cons <| e_int <| a_cons <| e_fld <| e_var 0 rfl <| fl_depth NC NA <| a_nil ⟨_, _, _, rfl, _, rfl, ?_⟩
    rw [within_t ⟨by omega, by omega⟩]
    refine iteFF <| w_or1 <| t_not <| t_val <| e_call q2 m2 (hr.mono (by decide)) <| a_cons <| e_fld <| e_var 0 rfl <| fl_depth NC NA <| a_cons <| e_tup <| a_cons <| e_var 1 rfl <| a_cons <| e_var 2 rfl <| a_nil ⟨Nat.le_of_ble_eq_true rfl, a_nil ⟨N.k, (a, b), rfl, h4, ⟨h2, by rw [if_neg (by show ¬ a = 0; omega)]; exact h3⟩, _, rfl, iteFF <| b_nil ?_⟩⟩
    refine b_one <| s_ret <| e_callB T.len bt_len <| a_cons <| e_lc [("pair", 3)] sc_Net_joinings.nd (blkOk_by rfl) (fun _ _ _ _ _ => (pg_name (i := 3) sc_Net_joinings.nd rfl (Or.inl rfl))) <| n_list <| e_fld <| e_var 0 rfl <| fl_pairs NC NA ⟨_, .ref (NA.here .pairs trivial), ?_⟩
    refine lc_filter (fun i => decide ((N.pairs[i]?).map (fun p => (p.1, p.2.1)) = some (a, b))) (fun i => at0 (N.pairs.map dPair) i) (fun i => [(3, at0 (N.pairs.map dPair) i)]) (NA.here .pairs trivial) (by simp; omega) (by simp) (fun i _ => tg_name) (fun i hi s H0 C cl fp => ?_) (fun i hi _ s H0 C cl fp => e_var 3 rfl ⟨rfl, rfl⟩) ?_
    · rw [List.length_map] at hi
      rw [at0_map hi]
      refine t_cmp <| e_slT .none .int <| e_var 3 rfl ⟨_, .tup, no3, e_tup <| a_cons <| e_var 1 rfl <| a_cons <| e_var 2 rfl <| a_nil ⟨Nat.le_of_ble_eq_true rfl, o_eqD (x := .tuple [.int (N.pairs[i].1 : Nat), .int (N.pairs[i].2.1 : Nat)]) (y := .tuple [.int (a : Nat), .int (b : Nat)]) hr.units rfl rfl rfl rfl ⟨_, rfl, ?_, rfl⟩⟩⟩
      rw [eqv2, List.getElem?_eq_getElem hi]
      refine decide_eq_decide.mpr ?_
      rw [Option.map_some, Option.some.injEq, Prod.mk.injEq]
      omega
    · refine a_nil <| c_lenL .lst ?_
      have e : (((List.range (N.pairs.map dPair).length).filter fun i => decide ((N.pairs[i]?).map (fun p => (p.1, p.2.1)) = some (a, b))).map fun i => at0 (N.pairs.map dPair) i).length = N.joinings a b := by
        rw [List.length_map, List.length_map]
        exact filter_len N.pairs (fun p => decide (p.1 = a ∧ p.2.1 = b)) _ fun i x hx => decide_eq_decide.mpr (by rw [hx, Option.map_some, Option.some.injEq, Prod.mk.injEq])
      rw [e]
      exact ⟨_, Sub.refl _, k⟩
def S_Net_put (CNet : Addr) : AS := fun ds G R => ∃ A N a, ds = [.ref (A .self), dAsk a] ∧ NetAt CNet G A N ∧ Good N ∧ N.asks.length < 40 ∧ a.ok N.vals.length ∧ a.hand < 2 ^ N.k ∧ ∀ G', NetAt CNet G' A (N.put a) → Own N.k G A G' A → R (.int (N.asks.length : Nat)) G'
theorem sc_Net_put : FnScope ["self", "ask", "number", "hand", "box", "deed"] ["self", "ask"] (defScope (inClass (top 46) 2)) := ⟨rfl, rfl, rfl, by decide +kernel, rfl, by decide +kernel, by decide +kernel⟩
theorem f_Net_put (T : Blt K mg) (NC : NetC K CNet) (dt : DatM K CNet d_Net_put "put") (c1 : Fn P w K mg base 4 "is_ask" ["board", "thing"] [] S_is_ask) (c2 : Mn P w K mg base 1 CNet "want_hand" ["self", "hand"] [] (S_Net_want_hand CNet)) : Mn P w K mg base 5 CNet "put" ["self", "ask"] [] (S_Net_put CNet) := by
  obtain ⟨f, fd, F, hm⟩ := dt
  refine ⟨f, cal_of F sc_Net_put (fun ds G R h => ?_) (fun _ _ _ _ _ _ us hl => match us, hl with | [_, _], _ => rfl) (fun cdv A outer s H E hr ds G R h => ?_), hm⟩
  · obtain ⟨A', N, a, rfl, NA, g, h1, h2, h3, _⟩ := h
    rfl
  · obtain ⟨A', N, a, rfl, NA, g, h1, h2, h3, k⟩ := h
    obtain ⟨f1, q1, m1⟩ := c1
    obtain ⟨f2, q2, m2⟩ := c2
    have ga : ∀ {G1 : Gp} {s t : Slot} {m : MO}, s.ok N.k → t.ok N.k → gup G1 (A' s) m (A' t) = if t = s then some m else G1 (A' t) := fun h1 h2 => NA.gat h1 h2
    refine b_cons <| s_if <| t_not <| t_val <| e_call q1 m1 (hr.mono (by decide)) <| a_cons <| e_fld <| e_var 0 rfl <| fl_amounts NC NA <| a_cons <| e_var 1 rfl <| a_nil ⟨_, a, N.vals.map D.int, rfl, .inl (.ref (NA.here .am trivial)), by rw [List.length_map]; exact h2, _, rfl, iteFF <| b_nil ?_⟩
    refine b_cons <| s_asg (pg_tup rfl (pgs_cons (pg_name (i := 3) sc_Net_put.nd rfl (Or.inl rfl)) (pgs_cons (pg_name (i := 4) sc_Net_put.nd rfl (Or.inl rfl)) (pgs_cons (pg_name (i := 5) sc_Net_put.nd rfl (Or.inl rfl)) pgs_nil)))) <| e_var 1 rfl ⟨_, tg_tup (tgs_cons tg_name (tgs_cons tg_name (tgs_cons tg_name tgs_nil))), ?_⟩
    refine b_cons <| s_expr <| e_meth NC.cls m2 q2 (hr.mono (by decide)) <| e_var 0 rfl ⟨_, _, rfl, NA.here .self trivial, rfl, a_cons <| e_var 3 rfl <| a_nil ⟨A', N, a.hand, rfl, NA, g.k4, h3, ?_⟩⟩
    refine b_cons <| s_set 2 sc_Net_put.nd <| e_callB T.len bt_len <| a_cons <| e_fld <| e_var 0 rfl <| fl_asked NC NA <| a_nil <| c_lenL (.ref (NA.here .asked trivial)) ?_
    rw [List.length_map]
    refine b_cons <| s_if <| t_cmp <| e_var 2 rfl <| e_gI T.asks <| o_eqI ⟨_, rfl, ite_f (by simp; omega) <| b_nil ?_⟩
    refine b_cons <| s_expr <| e_bm PySem.F.plainAttrs_list PySem.F.slot_list_append PySem.F.type_list_append <| e_fld <| e_var 0 rfl <| fl_asked NC NA ⟨.inr (.inl ⟨rfl, _, .ref (NA.here .asked trivial)⟩), a_cons <| e_tup <| a_cons <| e_var 4 rfl <| a_cons <| e_var 5 rfl <| a_nil ⟨Nat.le_of_ble_eq_true rfl, a_nil <| m_append (NA.here .asked trivial) (by rw [List.length_map]; omega) ?_⟩⟩
    refine b_cons <| s_expr <| e_bm PySem.F.plainAttrs_list PySem.F.slot_list_append PySem.F.type_list_append <| e_fld <| e_var 0 rfl <| .ins (by simp only [ga, ok_self, ok_am, ok_rows, ok_asked, ok_answers, ok_ends, ok_order, ok_pairs, reduceCtorEq, if_false]; exact NA.here .self trivial) NC.cls (NC.na "answers" (by decide)) rfl ⟨.inr (.inl ⟨rfl, _, .ref (by simp only [ga, ok_self, ok_am, ok_rows, ok_asked, ok_answers, ok_ends, ok_order, ok_pairs, reduceCtorEq, if_false]; exact NA.here .answers trivial)⟩), a_cons <| e_non <| a_nil <| m_append (by simp only [ga, ok_self, ok_am, ok_rows, ok_asked, ok_answers, ok_ends, ok_order, ok_pairs, reduceCtorEq, if_false]; exact NA.here .answers trivial) (by rw [List.length_map]; omega) ?_⟩
    refine b_cons <| s_expr <| e_bm PySem.F.plainAttrs_list PySem.F.slot_list_append PySem.F.type_list_append <| e_fld <| e_var 0 rfl <| .ins (by simp only [ga, ok_self, ok_am, ok_rows, ok_asked, ok_answers, ok_ends, ok_order, ok_pairs, reduceCtorEq, if_false]; exact NA.here .self trivial) NC.cls (NC.na "ends" (by decide)) rfl ⟨.inr (.inl ⟨rfl, _, .ref (by simp only [ga, ok_self, ok_am, ok_rows, ok_asked, ok_answers, ok_ends, ok_order, ok_pairs, reduceCtorEq, if_false]; exact NA.here .ends trivial)⟩), a_cons <| e_non <| a_nil <| m_append (by simp only [ga, ok_self, ok_am, ok_rows, ok_asked, ok_answers, ok_ends, ok_order, ok_pairs, reduceCtorEq, if_false]; exact NA.here .ends trivial) (by rw [List.length_map]; omega) ?_⟩
    refine b_cons <| s_expr <| e_bm PySem.F.plainAttrs_list PySem.F.slot_list_append PySem.F.type_list_append <| e_ix <| e_ix <| e_fld <| e_var 0 rfl <| .ins (by simp only [ga, ok_self, ok_am, ok_rows, ok_asked, ok_answers, ok_ends, ok_order, ok_pairs, reduceCtorEq, if_false]; exact NA.here .self trivial) NC.cls (NC.na "rows" (by decide)) rfl <| e_int <| i_lst (n := 0) (.ref (by simp only [ga, ok_self, ok_am, ok_rows, ok_asked, ok_answers, ok_ends, ok_order, ok_pairs, reduceCtorEq, if_false]; exact NA.here .rows trivial)) (x := .ref (A' (.lv 0))) (by rw [List.getElem?_map, List.getElem?_range (by omega)]; rfl) <| e_var 3 rfl <| i_lst (.ref (by rw [ga (s := .ends) (t := .lv 0) trivial (Nat.zero_le _), ga (s := .answers) (t := .lv 0) trivial (Nat.zero_le _), ga (s := .asked) (t := .lv 0) trivial (Nat.zero_le _)]; simp only [reduceCtorEq, if_false]; exact NA.here (.lv 0) (Nat.zero_le _))) (x := .ref (A' (.ln 0 a.hand))) (by rw [List.getElem?_map, List.getElem?_range h3]; rfl) ?_
    have hln : Slot.ok N.k (.ln 0 a.hand) := ⟨Nat.zero_le _, h3⟩
    have row : ∀ {m1 m2 m3 : MO}, gup (gup (gup G (A' .asked) m1) (A' .answers) m2) (A' .ends) m3 (A' (.ln 0 a.hand)) = some (.lst ((N.rows 0 a.hand).map dItem)) := fun {m1 m2 m3} => by
      rw [ga (s := .ends) trivial hln, ga (s := .answers) trivial hln, ga (s := .asked) trivial hln]; simp only [reduceCtorEq, if_false]; exact NA.here _ hln
    refine ⟨.inr (.inl ⟨rfl, _, .ref row⟩), a_cons <| e_tup <| a_cons <| e_var 4 rfl <| a_cons <| e_var 5 rfl <| a_cons <| e_tup <| a_cons <| e_var 2 rfl <| a_nil ⟨Nat.le_of_ble_eq_true rfl, a_nil ⟨Nat.le_of_ble_eq_true rfl, a_nil <| m_append row (by rw [List.length_map]; have := g.rowLen (Nat.zero_le _) h3; omega) ?_⟩⟩⟩
    refine b_one <| s_ret <| e_var 2 rfl ⟨_, Sub.refl _, k _ ⟨NA.inj, fun t ht => ?_⟩ (((Own.gup (s := .asked) trivial).trans (Own.gup (s := .answers) trivial)).trans ((Own.gup (s := .ends) trivial).trans (Own.gup hln)))⟩
    have ht : t.ok N.k := ht
    rw [ga hln ht, ga (s := .ends) trivial ht, ga (s := .answers) trivial ht, ga (s := .asked) trivial ht]
    cases t with
    | answers => simp only [reduceCtorEq, if_false, if_true]; simp [holds, NetS.put, dO]
    | ends => simp only [reduceCtorEq, if_false, if_true]; simp [holds, NetS.put, dON]
    | asked => simp only [reduceCtorEq, if_false, if_true]; simp [holds, NetS.put]
    | ln l j =>
      by_cases e : Slot.ln l j = Slot.ln 0 a.hand
      · rw [if_pos e]
        injection e with e1 e2
        subst e1 e2
        simp [holds, NetS.put, upR, dItem, nats]
      · rw [if_neg e]
        simp only [reduceCtorEq, if_false]
        rw [NA.here (.ln l j) ht]
        show some (MO.lst ((N.rows l j).map dItem)) = some (MO.lst ((upR N.rows 0 a.hand _ l j).map dItem))
        rw [upR_ne fun z => e (by rw [z.1, z.2])]
    | self => simp only [reduceCtorEq, if_false]; exact NA.here .self trivial
    | am => simp only [reduceCtorEq, if_false]; exact NA.here .am trivial
    | order => simp only [reduceCtorEq, if_false]; exact NA.here .order trivial
    | rows => simp only [reduceCtorEq, if_false]; exact NA.here .rows trivial
    | pairs => simp only [reduceCtorEq, if_false]; exact NA.here .pairs trivial
    | lv l => simp only [reduceCtorEq, if_false]; exact NA.here (.lv l) ht
def S_Net_want_lost (CNet : Addr) : AS := fun ds G R => ∃ A N, ∃ lost : List (Nat × Nat), ds = [.ref (A .self), .tup (lost.map dPl)] ∧ NetAt CNet G A N ∧ N.k ≤ 4 ∧ lost.length ≤ 1000 ∧ (∀ p ∈ lost, placeOk N.k p.1 p.2) ∧ R .non G
theorem sc_Net_want_lost : FnScope ["self", "lost", "one"] ["self", "lost"] (defScope (inClass (top 46) 3)) := ⟨rfl, rfl, rfl, by decide +kernel, rfl, by decide +kernel, by decide +kernel⟩
theorem f_Net_want_lost (T : Blt K mg) (NC : NetC K CNet) (dt : DatM K CNet d_Net_want_lost "want_lost") (c1 : Fn P w K mg base 1 "is_row" ["thing"] [] S_is_row) (c2 : Fn P w K mg base 3 "is_place" ["k", "thing"] [] S_is_place) : Mn P w K mg base 4 CNet "want_lost" ["self", "lost"] [] (S_Net_want_lost CNet) := by
  obtain ⟨f, fd, F, hm⟩ := dt
  refine ⟨f, cal_of F sc_Net_want_lost (fun ds G R h => ?_) (fun _ _ _ _ _ _ us hl => match us, hl with | [_, _], _ => rfl) (fun cdv A outer s H E hr ds G R h => ?_), hm⟩
  · obtain ⟨A', N, lost, rfl, NA, h1, h2, h3, _⟩ := h
    rfl
  · obtain ⟨A', N, lost, rfl, NA, h1, h2, h3, k⟩ := h
    obtain ⟨f1, q1, m1⟩ := c1
    obtain ⟨f2, q2, m2⟩ := c2
    refine b_one <| s_if <| t_w <| w_or <| t_not <| t_val <| e_call q1 m1 (hr.mono (by decide)) <| a_cons <| e_var 1 rfl <| a_nil ⟨_, rfl, _, rfl, iteFF ?_⟩
    refine w_or1 <| t_not <| t_val <| e_callB T.all bt_all <| a_cons <| e_lc [("one", 2)] sc_Net_want_lost.nd (blkOk_by rfl) (fun _ _ _ _ _ => (pg_name (i := 2) sc_Net_want_lost.nd rfl (Or.inl rfl))) <| n_tup <| e_var 1 rfl ⟨_, .tup, ?_⟩
    refine lc_map (fun _ => .bl true) (fun i => [(2, at0 (lost.map dPl) i)]) trivial (by simp; omega) (by simp) (fun i _ => tg_name) (fun i hi s H0 C cl fp => ?_) ?_
    · rw [List.length_map] at hi
      rw [at0_map hi]
      exact e_call q2 m2 (hr.mono (by decide)) <| a_cons <| e_fld <| e_var 0 rfl <| fl_depth NC NA <| a_cons <| e_var 2 rfl <| a_nil ⟨_, lost[i], rfl, h1, h3 _ (List.getElem_mem hi), rfl, rfl⟩
    · exact a_nil <| c_allT ⟨_, rfl, iteFF <| b_nil k⟩
def S_Net_board (CNet : Addr) : AS := fun ds G R => ∃ A N, ds = [.ref (A .self)] ∧ NetAt CNet G A N ∧ R (dInts N.vals) G
theorem sc_Net_board : FnScope ["self"] ["self"] (defScope (inClass (top 46) 12)) := ⟨rfl, rfl, rfl, by decide +kernel, rfl, by decide +kernel, by decide +kernel⟩
theorem f_Net_board (T : Blt K mg) (NC : NetC K CNet) (dt : DatM K CNet d_Net_board "board") : Mn P w K mg base 1 CNet "board" ["self"] [] (S_Net_board CNet) := by
  obtain ⟨f, fd, F, hm⟩ := dt
  refine ⟨f, cal_of F sc_Net_board (fun ds G R h => ?_) (fun _ _ _ _ _ _ us hl => match us, hl with | [_], _ => rfl) (fun cdv A outer s H E hr ds G R h => ?_), hm⟩
  · obtain ⟨A', N, rfl, NA, _⟩ := h
    rfl
  · obtain ⟨A', N, rfl, NA, k⟩ := h
    exact b_one <| s_ret <| e_callTy T.tup bt_tup <| a_cons <| e_fld <| e_var 0 rfl <| fl_amounts NC NA <| a_nil <| c_tupL (.ref (NA.here .am trivial)) ⟨_, Sub.refl _, k⟩
def S_Net_log (CNet : Addr) : AS := fun ds G R => ∃ A N, ds = [.ref (A .self)] ∧ NetAt CNet G A N ∧ R (nats N.order) G
theorem sc_Net_log : FnScope ["self"] ["self"] (defScope (inClass (top 46) 13)) := ⟨rfl, rfl, rfl, by decide +kernel, rfl, by decide +kernel, by decide +kernel⟩
theorem f_Net_log (T : Blt K mg) (NC : NetC K CNet) (dt : DatM K CNet d_Net_log "log") : Mn P w K mg base 1 CNet "log" ["self"] [] (S_Net_log CNet) := by
  obtain ⟨f, fd, F, hm⟩ := dt
  refine ⟨f, cal_of F sc_Net_log (fun ds G R h => ?_) (fun _ _ _ _ _ _ us hl => match us, hl with | [_], _ => rfl) (fun cdv A outer s H E hr ds G R h => ?_), hm⟩
  · obtain ⟨A', N, rfl, NA, _⟩ := h
    rfl
  · obtain ⟨A', N, rfl, NA, k⟩ := h
    exact b_one <| s_ret <| e_callTy T.tup bt_tup <| a_cons <| e_fld <| e_var 0 rfl <| fl_order NC NA <| a_nil <| c_tupL (.ref (NA.here .order trivial)) ⟨_, Sub.refl _, k⟩
def S_Net_is_answered (CNet : Addr) : AS := fun ds G R => ∃ A N, ∃ n : Nat, ds = [.ref (A .self), .int n] ∧ NetAt CNet G A N ∧ n < N.asks.length ∧ R (.bl (N.doneAt n)) G
theorem sc_Net_is_answered : FnScope ["self", "number", "end"] ["self", "number"] (defScope (inClass (top 46) 14)) := ⟨rfl, rfl, rfl, by decide +kernel, rfl, by decide +kernel, by decide +kernel⟩
theorem f_Net_is_answered (T : Blt K mg) (NC : NetC K CNet) (dt : DatM K CNet d_Net_is_answered "is_answered") : Mn P w K mg base 1 CNet "is_answered" ["self", "number"] [] (S_Net_is_answered CNet) := by
  obtain ⟨f, fd, F, hm⟩ := dt
  refine ⟨f, cal_of F sc_Net_is_answered (fun ds G R h => ?_) (fun _ _ _ _ _ _ us hl => match us, hl with | [_, _], _ => rfl) (fun cdv A outer s H E hr ds G R h => ?_), hm⟩
  · obtain ⟨A', N, n, rfl, NA, h1, _⟩ := h
    rfl
  · obtain ⟨A', N, n, rfl, NA, h1, k⟩ := h
    have hq : N.asks[n]? = some N.asks[n] := List.getElem?_eq_getElem h1
    have e : N.doneAt n = match N.asks[n].res with
      | none => false
      | some (_, e) => decide (e + N.k ≤ N.now) := by unfold NetS.doneAt; rw [hq]; rfl
    rw [e] at k
    refine b_cons <| s_set 2 sc_Net_is_answered.nd <| e_ix <| e_fld <| e_var 0 rfl <| fl_ends NC NA <| e_var 1 rfl <| i_at (NA.here .ends trivial) hq ?_
    refine b_one <| s_ret <| e_and <| e_cmp <| e_var 2 rfl <| e_non <| o_isnot ⟨_, rfl, ?_⟩
    cases q : N.asks[n].res with
    | none =>
      rw [q] at k
      exact iteFF ⟨_, Sub.refl _, k⟩
    | some z =>
      rw [q] at k
      refine iteTT <| e_one <| e_cmp <| e_bin <| e_var 2 rfl <| e_fld <| e_var 0 rfl <| fl_depth NC NA <| o_add <| e_fld <| e_var 0 rfl <| fl_now NC NA <| o_le ⟨_, Sub.refl _, ?_⟩
      have e : decide (((z.2 : Nat) : Int) + (N.k : Nat) ≤ (N.now : Nat)) = decide (z.2 + N.k ≤ N.now) := by by_cases h : z.2 + N.k ≤ N.now <;> simp [h] <;> omega
      rw [e]
      exact k
def S_Net_todo (CNet : Addr) : AS := fun ds G R => ∃ A N, ds = [.ref (A .self)] ∧ NetAt CNet G A N ∧ N.asks.length ≤ 40 ∧ R (.int (N.todo : Nat)) G
theorem sc_Net_todo : FnScope ["self", "number"] ["self"] (defScope (inClass (top 46) 15)) := ⟨rfl, rfl, rfl, by decide +kernel, rfl, by decide +kernel, by decide +kernel⟩
theorem f_Net_todo (T : Blt K mg) (NC : NetC K CNet) (dt : DatM K CNet d_Net_todo "todo") (c1 : Mn P w K mg base 1 CNet "is_answered" ["self", "number"] [] (S_Net_is_answered CNet)) : Mn P w K mg base 2 CNet "todo" ["self"] [] (S_Net_todo CNet) := by
  obtain ⟨f, fd, F, hm⟩ := dt
  refine ⟨f, cal_of F sc_Net_todo (fun ds G R h => ?_) (fun _ _ _ _ _ _ us hl => match us, hl with | [_], _ => rfl) (fun cdv A outer s H E hr ds G R h => ?_), hm⟩
  · obtain ⟨A', N, rfl, NA, h1, _⟩ := h
    rfl
  · obtain ⟨A', N, rfl, NA, h1, k⟩ := h
    obtain ⟨f1, q1, m1⟩ := c1
    refine b_one <| s_ret <| e_callB T.len bt_len <| a_cons <| e_lc [("number", 1)] sc_Net_todo.nd (blkOk_by rfl) (fun _ _ _ _ _ => (pg_name (i := 1) sc_Net_todo.nd rfl (Or.inl rfl))) <| n_range1 T.rng <| e_callB T.len bt_len <| a_cons <| e_fld <| e_var 0 rfl <| fl_ends NC NA <| a_nil <| c_lenL (.ref (NA.here .ends trivial)) ⟨_, rfl, by omega, by rw [List.length_map]; omega, ?_⟩
    rw [List.length_map, Int.toNat_natCast]
    refine lc_filter (fun i => !N.doneAt i) (fun i => .int (i : Nat)) (fun i => [(1, .int (i : Nat))]) trivial (by omega) (by simp) (fun i _ => tg_name) (fun i hi s H0 C cl fp => ?_) (fun i hi _ s H0 C cl fp => e_var 1 rfl ⟨rfl, rfl⟩) ?_
    · exact t_not <| t_val <| e_meth NC.cls m1 q1 (hr.mono (by decide)) <| e_var 0 rfl ⟨_, _, rfl, NA.here .self trivial, rfl, a_cons <| e_var 1 rfl <| a_nil ⟨A', N, i, rfl, NA, hi, _, rfl, rfl, rfl⟩⟩
    · refine a_nil <| c_lenL .lst ?_
      rw [List.length_map]
      exact ⟨_, Sub.refl _, k⟩
def S_Net_answer (CNet : Addr) : AS := fun ds G R => ∃ A N, ∃ n : Nat, ds = [.ref (A .self), .int n] ∧ NetAt CNet G A N ∧ n < N.asks.length ∧ R (dO (N.answer n)) G
theorem sc_Net_answer : FnScope ["self", "number"] ["self", "number"] (defScope (inClass (top 46) 16)) := ⟨rfl, rfl, rfl, by decide +kernel, rfl, by decide +kernel, by decide +kernel⟩
theorem f_Net_answer (T : Blt K mg) (NC : NetC K CNet) (dt : DatM K CNet d_Net_answer "answer") (c1 : Fn P w K mg base 2 "is_within" ["thing", "least", "most"] [] S_is_within) (c2 : Mn P w K mg base 1 CNet "is_answered" ["self", "number"] [] (S_Net_is_answered CNet)) : Mn P w K mg base 3 CNet "answer" ["self", "number"] [] (S_Net_answer CNet) := by
  obtain ⟨f, fd, F, hm⟩ := dt
  refine ⟨f, cal_of F sc_Net_answer (fun ds G R h => ?_) (fun _ _ _ _ _ _ us hl => match us, hl with | [_, _], _ => rfl) (fun cdv A outer s H E hr ds G R h => ?_), hm⟩
  · obtain ⟨A', N, n, rfl, NA, h1, _⟩ := h
    rfl
  · obtain ⟨A', N, n, rfl, NA, h1, k⟩ := h
    obtain ⟨f1, q1, m1⟩ := c1
    obtain ⟨f2, q2, m2⟩ := c2
    have hq : N.asks[n]? = some N.asks[n] := List.getElem?_eq_getElem h1
    refine b_cons <| s_if <| t_not <| t_val <| e_call q1 m1 (hr.mono (by decide)) <| a_cons <| e_var 1 rfl <| a_cons <| e_int <| a_cons <| e_bin <| e_callB T.len bt_len <| a_cons <| e_fld <| e_var 0 rfl <| fl_asked NC NA <| a_nil <| c_lenL (.ref (NA.here .asked trivial)) <| e_int <| o_sub <| a_nil ⟨_, _, _, rfl, _, rfl, ?_⟩
    rw [List.length_map, within_t ⟨by omega, by omega⟩]
    refine iteFF <| b_nil ?_
    refine b_one <| s_ret <| e_ifexp <| t_val <| e_meth NC.cls m2 q2 (hr.mono (by decide)) <| e_var 0 rfl ⟨_, _, rfl, NA.here .self trivial, rfl, a_cons <| e_var 1 rfl <| a_nil ⟨A', N, n, rfl, NA, h1, _, rfl, ?_⟩⟩
    unfold NetS.answer at k
    refine ite_b (fun e => ?_) (fun e => ?_)
    · rw [if_pos e] at k
      refine e_ix <| e_fld <| e_var 0 rfl <| fl_answers NC NA <| e_var 1 rfl <| i_at (NA.here .answers trivial) hq ⟨_, Sub.refl _, ?_⟩
      have e2 : N.ansAt n = N.asks[n].res.map (·.1) := by unfold NetS.ansAt; rw [hq]; rfl
      rw [e2] at k
      exact k
    · rw [if_neg (by rw [e]; decide)] at k
      exact e_non ⟨_, Sub.refl _, k⟩
def S_Net_waiting (CNet : Addr) : AS := fun ds G R => ∃ A N, ∃ l j : Nat, ds = [.ref (A .self), .int l, .int j] ∧ NetAt CNet G A N ∧ N.k ≤ 4 ∧ l ≤ N.k ∧ j < 2 ^ N.k ∧ R (.tup ((N.rows l j).map dItem)) G
theorem sc_Net_waiting : FnScope ["self", "level", "line", "k"] ["self", "level", "line"] (defScope (inClass (top 46) 17)) := ⟨rfl, rfl, rfl, by decide +kernel, rfl, by decide +kernel, by decide +kernel⟩
theorem f_Net_waiting (T : Blt K mg) (NC : NetC K CNet) (dt : DatM K CNet d_Net_waiting "waiting") (c1 : Fn P w K mg base 2 "is_within" ["thing", "least", "most"] [] S_is_within) : Mn P w K mg base 3 CNet "waiting" ["self", "level", "line"] [] (S_Net_waiting CNet) := by
  obtain ⟨f, fd, F, hm⟩ := dt
  refine ⟨f, cal_of F sc_Net_waiting (fun ds G R h => ?_) (fun _ _ _ _ _ _ us hl => match us, hl with | [_, _, _], _ => rfl) (fun cdv A outer s H E hr ds G R h => ?_), hm⟩
  · obtain ⟨A', N, l, j, rfl, NA, h4, h1, h2, _⟩ := h
    rfl
  · obtain ⟨A', N, l, j, rfl, NA, h4, h1, h2, k⟩ := h
    obtain ⟨f1, q1, m1⟩ := c1
    refine b_cons <| s_set 3 sc_Net_waiting.nd <| e_fld <| e_var 0 rfl <| fl_depth NC NA ?_
    refine b_cons <| s_if <| t_w <| w_or <| t_not <| t_val <| e_call q1 m1 (hr.mono (by decide)) <| a_cons <| e_var 1 rfl <| a_cons <| e_int <| a_cons <| e_var 3 rfl <| a_nil ⟨_, _, _, rfl, _, rfl, ?_⟩
    rw [within_t ⟨by omega, by omega⟩]
    refine iteFF <| w_or1 <| t_not <| t_val <| e_call q1 m1 (hr.mono (by decide)) <| a_cons <| e_var 2 rfl <| a_cons <| e_int <| a_cons <| e_bin <| e_bin <| e_int <| e_var 3 rfl <| o_shl (cpow_nat (by omega) (by omega) (by omega) (by omega)) <| e_int <| o_sub <| a_nil ⟨_, _, _, rfl, _, rfl, ?_⟩
    rw [p2i, within_t ⟨by omega, by omega⟩]
    refine iteFF <| b_nil ?_
    exact b_one <| s_ret <| e_callTy T.tup bt_tup <| a_cons <| e_ix <| e_ix <| e_fld <| e_var 0 rfl <| fl_rows NC NA <| e_var 1 rfl <| i_rows NA h1 <| e_var 2 rfl <| i_lv NA h1 h2 <| a_nil <| c_tupL (.ref (NA.row h1 h2)) ⟨_, Sub.refl _, k⟩
end
end J
namespace J
open PySem PySem.Spec PyProof.Rows L2
theorem wt_le {s : Nat} {N : NetS} (g : GoodS s N) {l j : Nat} (hl : l ≤ N.k) (hj : j < 2 ^ N.k) {i : Item} (hi : i ∈ N.rows l j) : i.nums.length ≤ 40 := by
  have h1 := wt_mem hi
  have h2 := tot_ge (f := wt) (rows := N.rows) hl hj
  have := g.nums
  have := g.many
  omega
theorem nats_app {a b : List Nat} : (a ++ b).map (fun n => D.int (n : Nat)) = a.map (fun n => D.int (n : Nat)) ++ b.map (fun n => D.int (n : Nat)) := List.map_append
theorem alike_mem {there : List Item} {box a : Nat} (h : a ∈ alikeL there box) : ∃ o, there[a]? = some o ∧ o.box = box := by
  unfold alikeL at h
  obtain ⟨h1, h2⟩ := List.mem_filter.mp h
  have hl : a < there.length := by simpa using h1
  rw [List.getElem?_eq_getElem hl] at h2
  have h3 := of_decide_eq_true h2
  rw [Option.map_some, Option.some.injEq] at h3
  exact ⟨_, List.getElem?_eq_getElem hl, h3⟩
section
variable {P : Program} {w : World} {K : PySem.W.Frag} {mg : Str → Option Value} {base : Heap} {CNet : Addr}
def S_Net_does_go (CNet : Addr) : AS := fun ds G R => ∃ A N, ∃ (a b : Nat) (it : Item), ds = [.ref (A .self), .int a, .int b, dItem it] ∧ NetAt CNet G A N ∧ Good N ∧ 1 ≤ a ∧ a ≤ N.k ∧ b < 2 ^ (N.k - 1) ∧ it.box < 16 ∧ it.nums ≠ [] ∧ it.nums.length ≤ 40 ∧ (N.doesGo a b it = none → R (.bl false) G) ∧ ∀ N' G', N.doesGo a b it = some N' → NetAt CNet G' A N' → Own N.k G A G' A → R (.bl true) G'
theorem sc_Net_does_go : FnScope ["self", "stage", "number", "one", "k", "there", "alike", "box", "deed", "numbers", "other", "place"] ["self", "stage", "number", "one"] (defScope (inClass (top 46) 10)) := ⟨rfl, rfl, rfl, by decide +kernel, rfl, by decide +kernel, by decide +kernel⟩
theorem f_Net_does_go (T : Blt K mg) (NC : NetC K CNet) (dt : DatM K CNet d_Net_does_go "does_go") (c1 : Fn P w K mg base 1 "line_of_beats" ["k", "stage", "number", "figure"] [] S_line_of_beats) (c2 : Fn P w K mg base 1 "figure_of" ["k", "line", "stage"] [] S_figure_of) (c3 : Fn P w K mg base 1 "side_of_box_beats" ["k", "box"] [] S_side_of_box_beats) (c4 : Mn P w K mg base 4 CNet "joinings" ["self", "stage", "number"] [] (S_Net_joinings CNet)) (c5 : Fn P w K mg base 2 "one_behind" ["one", "other"] [] S_one_behind) : Mn P w K mg base 5 CNet "does_go" ["self", "stage", "number", "one"] [] (S_Net_does_go CNet) := by
  obtain ⟨f, fd, F, hm⟩ := dt
  refine ⟨f, cal_of F sc_Net_does_go (fun ds G R h => ?_) (fun _ _ _ _ _ _ us hl => match us, hl with | [_, _, _, _], _ => rfl) (fun cdv A outer s H E hr ds G R h => ?_), hm⟩
  · obtain ⟨A', N, a, b, it, rfl, NA, g, h1, h2, h3, h5, h6, h7, kf, _⟩ := h
    rfl
  · obtain ⟨A', N, a, b, it, rfl, NA, g, h1, h2, h3, h5, h6, h7, kf, k⟩ := h
    obtain ⟨f1, q1, m1⟩ := c1
    obtain ⟨f2, q2, m2⟩ := c2
    obtain ⟨f3, q3, m3⟩ := c3
    obtain ⟨f4, q4, m4⟩ := c4
    obtain ⟨f5, q5, m5⟩ := c5
    have h4 := g.k4
    have ho : outLine N a b it.box < 2 ^ N.k := outLine_lt h4 h2 h1 h3
    refine b_cons <| s_asg (pg_tup rfl (pgs_cons (pg_name (i := 7) sc_Net_does_go.nd rfl (by first | exact Or.inl rfl | exact Or.inr rfl)) (pgs_cons (pg_name (i := 8) sc_Net_does_go.nd rfl (by first | exact Or.inl rfl | exact Or.inr rfl)) (pgs_cons (pg_name (i := 9) sc_Net_does_go.nd rfl (by first | exact Or.inl rfl | exact Or.inr rfl)) pgs_nil)))) <| e_var 3 rfl ⟨_, tg_tup (tgs_cons tg_name (tgs_cons tg_name (tgs_cons tg_name tgs_nil))), ?_⟩
    refine b_cons <| s_set 4 sc_Net_does_go.nd <| e_fld <| e_var 0 rfl <| fl_depth NC NA ?_
    refine b_cons <| s_set 5 sc_Net_does_go.nd <| e_ix <| e_ix <| e_fld <| e_var 0 rfl <| fl_rows NC NA <| e_var 1 rfl <| i_rows NA h2 <| e_call q1 m1 (hr.mono (by decide)) <| a_cons <| e_var 4 rfl <| a_cons <| e_var 1 rfl <| a_cons <| e_var 2 rfl <| a_cons <| e_call q2 m2 (hr.mono (by decide)) <| a_cons <| e_var 4 rfl <| a_cons <| e_call q3 m3 (hr.mono (by decide)) <| a_cons <| e_var 4 rfl <| a_cons <| e_var 7 rfl <| a_nil ⟨N.k, it.box, rfl, h4, h5, ?_⟩
    refine a_cons <| e_var 1 rfl <| a_nil ⟨N.k, it.box % 2 ^ N.k, a, rfl, h4, h2, p2_lt16 h4 (Nat.mod_lt _ (Nat.two_pow_pos _)), a_nil ⟨N.k, a, b, _, rfl, h4, h2, p2_lt8 h4 h3, fig_lt, ?_⟩⟩
    refine i_lv NA h2 ho ?_
    have hrow := NA.row h2 ho
    have hlen := g.rowLen h2 ho
    refine b_cons <| s_setLc 6 [("place", 11), ("other", 10)] sc_Net_does_go.nd (blkOk_by rfl) (by intro _ _ _ _ _; refine pg2 (i := 11) (j := 10) (K := K) ?_ ?_ ?_ ?_ ?_ ?_ ?_ ?_ ?_ <;> first | exact sc_Net_does_go.nd | rfl | exact Or.inl rfl | exact Or.inr rfl) (sw_true rfl rfl rfl (by decide +kernel)) <| n_enum T.enum <| e_var 5 rfl ⟨_, .ref hrow, ?_⟩
    refine lc_filter (fun i => decide (((N.rows a (outLine N a b it.box))[i]?).map Item.box = some it.box)) (fun i => .int (i : Nat)) (fun i => [(11, .int (i : Nat)), (10, at0 ((N.rows a (outLine N a b it.box)).map dItem) i)]) hrow (by rw [List.length_map]; omega) (by intro i u hu; simp at hu; rcases hu with e | e <;> subst e <;> simp) (fun i _ => tg_tup (tgs_cons tg_name (tgs_cons tg_name tgs_nil))) (fun i hi s H0 C cl fp => ?_) (fun i hi _ s H0 C cl fp => e_var 11 rfl ⟨rfl, rfl⟩) ?_
    · rw [List.length_map] at hi
      rw [at0_map hi]
      refine t_cmp <| e_ix <| e_var 10 rfl <| e_int <| i_tup (n := 0) .tup rfl <| e_var 7 rfl <| o_eqI ⟨_, rfl, ?_, rfl⟩
      refine decide_eq_decide.mpr ?_
      rw [List.getElem?_eq_getElem hi, Option.map_some, Option.some.injEq]
      omega
    rw [List.length_map]
    generalize hL : (List.range (N.rows a (outLine N a b it.box)).length).filter (fun i => decide (((N.rows a (outLine N a b it.box))[i]?).map Item.box = some it.box)) = L
    have hL' : alikeL (N.rows a (outLine N a b it.box)) it.box = L := hL
    have kt : N.doesGo a b it = match L.getLast? with
        | none => N.room? a (outLine N a b it.box) it
        | some z => if N.joinings a b < N.kept then (match (N.rows a (outLine N a b it.box))[z]? with
            | some o => some (N.joinAt a b (outLine N a b it.box) z o it)
            | none => none) else N.room? a (outLine N a b it.box) it := by rw [← hL']; rfl
    rw [kt] at kf k
    have last : ∀ Γ : SG, Γ[0]? = some (some (.ref (A' .self))) → Γ[3]? = some (some (dItem it)) → Γ[5]? = some (some (.ref (A' (.ln a (outLine N a b it.box))))) → (N.room? a (outLine N a b it.box) it = none → R (.bl false) G) → (∀ N' G', N.room? a (outLine N a b it.box) it = some N' → NetAt CNet G' A' N' → Own N.k G A' G' A' → R (.bl true) G') →
        SB (cxOf CX0 P w K mg base ["self", "stage", "number", "one", "k", "there", "alike", "box", "deed", "numbers", "other", "place"] "Net.does_go" (defScope (inClass (top 46) 10)) f cdv A outer s H E).nox
          ((defBody (inClass (top 46) 10)).drop 5) Γ G ⟨fun _ G' => R .non G', fun d G1 => ∃ G2, Sub G2 G1 ∧ R d G2, fun _ _ => False, fun _ _ => False⟩ := fun Γ g0 g3 g5 rf rt => by
      refine b_cons <| s_if <| t_cmp <| e_callB T.len bt_len <| a_cons <| e_var 5 g5 <| a_nil <| c_lenL (.ref hrow) <| e_fld <| e_var 0 g0 <| fl_room NC NA <| o_lt ⟨_, rfl, ?_⟩
      rw [List.length_map, dec_intlt]
      unfold NetS.room? at rf rt
      refine ite_b (fun e => ?_) (fun e => ?_)
      · have e : (N.rows a (outLine N a b it.box)).length < N.room := of_decide_eq_true e
        rw [if_pos e] at rt
        refine b_cons <| s_expr <| e_bm PySem.F.plainAttrs_list PySem.F.slot_list_append PySem.F.type_list_append <| e_var 5 g5 ⟨.inr (.inl ⟨rfl, _, .ref hrow⟩), a_cons <| e_var 3 g3 <| a_nil <| m_append hrow (by rw [List.length_map]; omega) ?_⟩
        have na := NA.upRow h2 ho (N.rows a (outLine N a b it.box) ++ [it])
        rw [List.map_append] at na
        exact b_one <| s_ret <| e_bl ⟨_, Sub.refl _, rt _ _ rfl na (Own.gup (s := .ln a (outLine N a b it.box)) ⟨h2, ho⟩)⟩
      · have e : ¬ (N.rows a (outLine N a b it.box)).length < N.room := of_decide_eq_false e
        rw [if_neg e] at rf
        exact b_nil <| b_one <| s_ret <| e_bl ⟨_, Sub.refl _, rf rfl⟩
    refine b_cons <| s_if <| t_w <| w_and <| t_cmp <| e_var 6 rfl <| e_lst <| a_nil ⟨Nat.le_of_ble_eq_true rfl, o_neNil hr.units .lst ⟨_, rfl, ?_⟩⟩
    cases q : L.getLast? with
    | none =>
      have e : L = [] := List.getLast?_eq_none_iff.mp q
      rw [q] at k kf
      subst e
      exact iteFF <| iteFF <| b_nil <| last _ rfl rfl rfl kf k
    | some z =>
      rw [q] at k kf
      dsimp only at k kf
      have ne : L ≠ [] := fun e => by rw [e] at q; cases q
      have e0 : (!(L.map (fun i => D.int (i : Nat))).isEmpty) = true := by cases L with
        | nil => exact absurd rfl ne
        | cons _ _ => rfl
      rw [e0]
      have hj : N.pairs.length ≤ 1000 := by have := g.cnt; have := g.many; omega
      refine iteTT <| w_and1 <| t_cmp <| e_meth NC.cls m4 q4 (hr.mono (by decide)) <| e_var 0 rfl ⟨_, _, rfl, NA.here .self trivial, rfl, a_cons <| e_var 1 rfl <| a_cons <| e_var 2 rfl <| a_nil ⟨A', N, a, b, rfl, NA, h4, h1, h2, h3, hj, e_fld <| e_var 0 rfl <| fl_kept NC NA <| o_lt ⟨_, rfl, ?_⟩⟩⟩
      rw [dec_intlt]
      refine ite_b (fun e => ?_) (fun e => ?_)
      · have e : N.joinings a b < N.kept := of_decide_eq_true e
        rw [if_pos e] at k
        obtain ⟨o, ho1, ho2⟩ := alike_mem (there := N.rows a (outLine N a b it.box)) (box := it.box) (a := z) (by rw [hL']; exact List.mem_of_getLast? q)
        rw [ho1] at k
        dsimp only at k
        have hz : z < (N.rows a (outLine N a b it.box)).length := (List.getElem?_eq_some_iff.mp ho1).1
        have om : o ∈ N.rows a (outLine N a b it.box) := List.mem_of_getElem? ho1
        have ql : (L.map (fun i => D.int (i : Nat))).getLast? = some (.int (z : Nat)) := by rw [List.getLast?_map, q]; rfl
        refine b_cons <| s_set 10 sc_Net_does_go.nd <| e_ix <| e_var 5 rfl <| e_ix <| e_var 6 rfl <| e_neg <| e_int ⟨_, rfl, i_last .lst ql <| i_at hrow ho1 ?_⟩
        refine b_cons <| s_sub <| e_tup <| a_cons <| e_var 7 rfl <| a_cons <| e_call q5 m5 (hr.mono (by decide)) <| a_cons <| e_ix <| e_var 10 rfl <| e_int <| i_tup (n := 1) .tup rfl <| a_cons <| e_var 8 rfl <| a_nil ⟨o.deed, it.deed, rfl, ?_⟩
        refine a_cons <| e_bin <| e_ix <| e_var 10 rfl <| e_int <| i_tup (n := 2) .tup rfl <| e_var 9 rfl <| o_catT (by have := (g.item a _ h2 ho o om).2.2.2.1; cases hn : o.nums with
          | nil => exact absurd hn this
          | cons _ _ => exact List.cons_ne_nil _ _) (by rw [List.length_map, List.length_map]; have := wt_le g h2 ho om; omega) <| a_nil ⟨Nat.le_of_ble_eq_true rfl, ?_⟩
        refine e_var 5 rfl <| e_ix <| e_var 6 rfl <| e_neg <| e_int ⟨_, rfl, i_last .lst ql ⟨_, _, z, rfl, rfl, hrow, by rw [List.length_map]; exact hz, ?_⟩⟩
        rw [← nats_app]
        have na := NA.upRow h2 ho ((N.rows a (outLine N a b it.box)).set z ⟨it.box, behind o.deed it.deed, o.nums ++ it.nums⟩)
        rw [List.map_set] at na
        obtain ⟨n0, ns, en⟩ : ∃ n0 ns, it.nums = n0 :: ns := by cases hn : it.nums with
          | nil => exact absurd hn h6
          | cons x xs => exact ⟨x, xs, rfl⟩
        refine b_cons <| s_expr <| e_bm PySem.F.plainAttrs_list PySem.F.slot_list_append PySem.F.type_list_append <| e_fld <| e_var 0 rfl <| fl_pairs NC na ⟨.inr (.inl ⟨rfl, _, .ref (na.here .pairs trivial)⟩), a_cons <| e_tup <| a_cons <| e_var 1 rfl <| a_cons <| e_var 2 rfl <| a_cons <| e_ix <| e_var 9 rfl <| e_int <| i_tup (n := 0) .tup (x := .int (n0 : Nat)) (by rw [en]; rfl) <| a_nil ⟨Nat.le_of_ble_eq_true rfl, a_nil <| m_append (na.here .pairs trivial) (by rw [List.length_map]; show N.pairs.length < _; omega) ?_⟩⟩
        refine b_one <| s_ret <| e_bl ⟨_, Sub.refl _, k _ _ rfl (na.upd (N' := N.joinAt a b (outLine N a b it.box) z o it) .pairs trivial rfl (by show MO.lst ((N.pairs ++ [(a, b, it.nums.headD 0)]).map dPair) = _; rw [List.map_append, en]; rfl) fun t _ h => ?_) ((Own.gup (s := .ln a (outLine N a b it.box)) ⟨h2, ho⟩).trans (Own.gup (s := .pairs) trivial))⟩
        cases t with
        | pairs => exact absurd rfl h
        | _ => rfl
      · have e : ¬ N.joinings a b < N.kept := of_decide_eq_false e
        rw [if_neg e] at k kf
        exact b_nil <| last _ rfl rfl rfl kf k
def S_Net_hand_on (CNet : Addr) : AS := fun ds G R => ∃ A N, ∃ a b : Nat, ds = [.ref (A .self), .int a, .int b] ∧ NetAt CNet G A N ∧ Good N ∧ 1 ≤ a ∧ a ≤ N.k ∧ b < 2 ^ (N.k - 1) ∧ ∀ G', NetAt CNet G' A (N.handOn a b) → Own N.k G A G' A → R .non G'
theorem sc_Net_hand_on : FnScope ["self", "stage", "number", "first", "figure", "row"] ["self", "stage", "number"] (defScope (inClass (top 46) 9)) := ⟨rfl, rfl, rfl, by decide +kernel, rfl, by decide +kernel, by decide +kernel⟩
theorem f_Net_hand_on (T : Blt K mg) (NC : NetC K CNet) (dt : DatM K CNet d_Net_hand_on "hand_on") (c1 : Fn P w K mg base 1 "line_of_beats" ["k", "stage", "number", "figure"] [] S_line_of_beats) (c2 : Mn P w K mg base 5 CNet "does_go" ["self", "stage", "number", "one"] [] (S_Net_does_go CNet)) : Mn P w K mg base 6 CNet "hand_on" ["self", "stage", "number"] [] (S_Net_hand_on CNet) := by
  obtain ⟨f, fd, F, hm⟩ := dt
  refine ⟨f, cal_of F sc_Net_hand_on (fun ds G R h => ?_) (fun _ _ _ _ _ _ us hl => match us, hl with | [_, _, _], _ => rfl) (fun cdv A outer s H E hr ds G R h => ?_), hm⟩
  · obtain ⟨A', N, a, b, rfl, NA, g, h1, h2, h3, _⟩ := h
    rfl
  · obtain ⟨A', N, a, b, rfl, NA, g, h1, h2, h3, k⟩ := h
    obtain ⟨f1, q1, m1⟩ := c1
    obtain ⟨f2, q2, m2⟩ := c2
    have hm2 : N.now % 2 < 2 := Nat.mod_lt _ (by omega)
    have em : ((N.now : Nat) : Int).fmod 2 = (N.now % 2 : Nat) := by rw [Int.fmod_eq_emod_of_nonneg _ (by omega)]; rfl
    have es : (1 : Int) - ((N.now % 2 : Nat) : Int) = ((1 - N.now % 2 : Nat) : Int) := by omega
    refine b_cons <| s_set 3 sc_Net_hand_on.nd <| e_bin <| e_fld <| e_var 0 rfl <| fl_now NC NA <| e_int <| o_mod (by decide) ?_
    rw [em]
    refine b_one <| s_for (pg_name (i := 4) sc_Net_hand_on.nd rfl (by first | exact Or.inl rfl | exact Or.inr rfl)) PassesOwn.never <| n_tup <| e_tup <| a_cons <| e_var 3 rfl <| a_cons <| e_bin <| e_int <| e_var 3 rfl <| o_sub <| a_nil ⟨Nat.le_of_ble_eq_true rfl, _, .tup, ?_⟩
    rw [es]
    refine ⟨fun i Γ G' => Γ.length = 6 ∧ Γ[0]? = some (some (.ref (A' .self))) ∧ Γ[1]? = some (some (.int (a : Nat))) ∧ Γ[2]? = some (some (.int (b : Nat))) ∧ ∃ M, M.k = N.k ∧ Good M ∧ NetAt CNet G' A' M ∧ Own N.k G A' G' A' ∧ M = match i with
        | 0 => N
        | 1 => N.handFig a b (N.now % 2)
        | _ => N.handOn a b, ⟨rfl, rfl, rfl, rfl, N, rfl, g, NA, Own.refl, rfl⟩, fun _ _ _ _ _ => trivial, ?_, ?_⟩
    · rintro i Γ' G' hlt ⟨l, g0, g1, g2, M, mk, gm, na, ow, me⟩
      have hi : i = 0 ∨ i = 1 := by have : i < 2 := hlt; omega
      obtain ⟨fg, hf, hit, hne⟩ : ∃ fg : Nat, fg < 2 ∧ at0 [D.int (N.now % 2 : Nat), D.int (1 - N.now % 2 : Nat)] i = .int (fg : Nat) ∧ M.handFig a b fg = match i + 1 with
        | 0 => N
        | 1 => N.handFig a b (N.now % 2)
        | _ => N.handOn a b := by
        rcases hi with e | e
        · subst e; exact ⟨N.now % 2, hm2, rfl, by rw [me] <;> rfl⟩
        · subst e; exact ⟨1 - N.now % 2, by omega, rfl, by rw [me] <;> rfl⟩
      refine ⟨_, tg_name, ?_⟩
      rw [hit]
      have ha : a - 1 ≤ M.k := by omega
      have hline : lineOf M.k a b fg < 2 ^ M.k := lineOf_lt gm.k4 (by omega) h1 (by rw [mk]; exact h3) hf
      have hrow := na.row ha hline
      have g0' := sg_ne (j := 4) (v := some (.int (fg : Nat))) g0 (by decide)
      have g1' := sg_ne (j := 4) (v := some (.int (fg : Nat))) g1 (by decide)
      have g2' := sg_ne (j := 4) (v := some (.int (fg : Nat))) g2 (by decide)
      have l' : (Γ'.set 4 (some (.int (fg : Nat)))).length = 6 := by rw [List.length_set]; exact l
      have ea : ((a : Nat) : Int) - 1 = ((a - 1 : Nat) : Int) := by omega
      show SB _ _ (Γ'.set 4 (some (.int (fg : Nat)))) _ _
      refine b_cons <| s_set 5 sc_Net_hand_on.nd <| e_ix <| e_ix <| e_fld <| e_var 0 g0' <| fl_rows NC na <| e_bin <| e_var 1 g1' <| e_int <| o_sub ?_
      rw [ea]
      refine i_rows na ha <| e_call q1 m1 (hr.mono (by decide)) <| a_cons <| e_fld <| e_var 0 g0' <| fl_depth NC na <| a_cons <| e_var 1 g1' <| a_cons <| e_var 2 g2' <| a_cons <| e_var 4 (sg_eq (by rw [l]; decide)) <| a_nil ⟨M.k, a, b, fg, rfl, gm.k4, by omega, p2_lt8 gm.k4 (by rw [mk]; exact h3), hf, i_lv na ha hline ?_⟩
      have done : ∀ (Γ : SG) (G2 : Gp) (M' : NetS), M' = M.handFig a b fg → Γ.length = 6 → Γ[0]? = some (some (.ref (A' .self))) → Γ[1]? = some (some (.int (a : Nat))) → Γ[2]? = some (some (.int (b : Nat))) → NetAt CNet G2 A' M' → Own M.k G' A' G2 A' →
          (fun i (Γ : SG) (G' : Gp) => Γ.length = 6 ∧ Γ[0]? = some (some (.ref (A' .self))) ∧ Γ[1]? = some (some (.int (a : Nat))) ∧ Γ[2]? = some (some (.int (b : Nat))) ∧ ∃ M, M.k = N.k ∧ Good M ∧ NetAt CNet G' A' M ∧ Own N.k G A' G' A' ∧ M = match i with
        | 0 => N
        | 1 => N.handFig a b (N.now % 2)
        | _ => N.handOn a b) (i + 1) Γ G2 := fun Γ G2 M' e1 e2 e3 e4 e5 e6 e7 => by
        have q := handFig_good (figure := fg) gm h1 (by omega) (by rw [mk]; exact h3) hf
        subst e1
        exact ⟨e2, e3, e4, e5, _, q.2.1.trans mk, q.1, e6, ow.trans (mk ▸ e7), hne⟩
      have kt : M.handFig a b fg = match M.rows (a - 1) (lineOf M.k a b fg) with
        | [] => M
        | it :: r => match M.doesGo a b it with
          | none => M
          | some N' => { N' with rows := upR N'.rows (a - 1) (lineOf M.k a b fg) r } := rfl
      refine b_one <| s_if <| t_w <| w_and <| t_cmp <| e_var 5 (sg_eq (by rw [l']; decide)) <| e_lst <| a_nil ⟨Nat.le_of_ble_eq_true rfl, o_neNil hr.units (.ref hrow) ⟨_, rfl, ?_⟩⟩
      cases er : M.rows (a - 1) (lineOf M.k a b fg) with
      | nil =>
        rw [er] at kt
        exact iteFF <| iteFF <| b_nil <| done _ _ M kt.symm (by rw [List.length_set]; exact l') (sg_ne g0' (by decide)) (sg_ne g1' (by decide)) (sg_ne g2' (by decide)) na Own.refl
      | cons it r =>
        rw [er] at kt hrow
        replace kt : M.handFig a b fg = (match M.doesGo a b it with
          | none => M
          | some N' => { N' with rows := upR N'.rows (a - 1) (lineOf M.k a b fg) r }) := kt
        have im : it ∈ M.rows (a - 1) (lineOf M.k a b fg) := by rw [er]; exact List.mem_cons_self
        have hit := gm.item _ _ ha hline it im
        refine iteTT <| w_and1 <| t_val <| e_meth NC.cls m2 q2 (hr.mono (by decide)) <| e_var 0 (sg_ne g0' (by decide)) ⟨_, _, rfl, na.here .self trivial, rfl, a_cons <| e_var 1 (sg_ne g1' (by decide)) <| a_cons <| e_var 2 (sg_ne g2' (by decide)) <| a_cons <| e_ix <| e_var 5 (sg_eq (by rw [l']; decide)) <| e_int <| i_lst (n := 0) (.ref hrow) rfl <| a_nil ⟨A', M, a, b, it, rfl, na, gm, h1, by omega, by rw [mk]; exact h3, box16 gm hit.1, hit.2.2.2.1, wt_le gm ha hline im, fun e => ?_, fun N' G2 e na2 ow2 => ?_⟩⟩
        · rw [e] at kt
          exact ⟨_, rfl, iteFF <| b_nil <| done _ _ M kt.symm (by rw [List.length_set]; exact l') (sg_ne g0' (by decide)) (sg_ne g1' (by decide)) (sg_ne g2' (by decide)) na Own.refl⟩
        · rw [e] at kt
          have nk : N'.k = M.k := (goes_good gm h1 (by omega) (by rw [mk]; exact h3) hline er (doesGo_goes e)).2.1
          have er2 : N'.rows (a - 1) (lineOf M.k a b fg) = it :: r := by
            rw [← er]
            cases doesGo_goes e with
            | join h => exact upR_ne (by omega)
            | add => exact upR_ne (by omega)
          have hrow2 := na2.row (l := a - 1) (j := lineOf M.k a b fg) (by rw [nk]; exact ha) (by rw [nk]; exact hline)
          rw [er2] at hrow2
          refine ⟨_, rfl, iteTT <| b_one <| s_expr <| e_bm PySem.F.plainAttrs_list PySem.F.slot_list_pop PySem.F.type_list_pop <| e_var 5 (sg_eq (by rw [l']; decide)) ⟨.inr (.inl ⟨rfl, _, .ref hrow2⟩), a_cons <| e_int <| a_nil <| m_pop0 hrow2 ?_⟩⟩
          exact done _ _ _ kt.symm (by rw [List.length_set]; exact l') (sg_ne g0' (by decide)) (sg_ne g1' (by decide)) (sg_ne g2' (by decide)) (na2.upRow (by rw [nk]; exact ha) (by rw [nk]; exact hline) r) (ow2.trans (Own.gup (s := .ln (a - 1) (lineOf M.k a b fg)) ⟨ha, hline⟩))
    · rintro Γ' G' ⟨l, g0, g1, g2, M, mk, gm, na, ow, me⟩
      subst me
      exact k _ na ow
end
end J
namespace J
open PySem PySem.Spec PyProof.Rows L2
theorem filter_at0_take {α : Type} (xs : List α) (f : α → D) (p : α → Bool) (q : Nat → Bool) (h : ∀ i x, xs[i]? = some x → q i = p x) : ∀ n, n ≤ xs.length → ((List.range n).filter q).map (fun i => at0 (xs.map f) i) = ((xs.take n).filter p).map f
  | 0, _ => by simp
  | n + 1, hn => by
    have hx : xs[n]? = some xs[n] := List.getElem?_eq_getElem (by omega)
    rw [List.range_succ, List.filter_append, List.map_append, filter_at0_take xs f p q h n (by omega), List.take_succ, hx, List.filter_append, List.map_append]
    congr 1
    show ([n].filter q).map _ = ([xs[n]].filter p).map f
    have e := h n _ hx
    by_cases z : p xs[n] = true
    · rw [List.filter_cons, List.filter_cons, e, if_pos z, if_pos z]
      show [at0 (xs.map f) n] = [f xs[n]]
      rw [at0_map]
    · rw [List.filter_cons, List.filter_cons, e, if_neg z, if_neg z]; rfl
theorem filter_at0 {α : Type} {xs : List α} {f : α → D} {p : α → Bool} {q : Nat → Bool} (h : ∀ i x, xs[i]? = some x → q i = p x) : ((List.range xs.length).filter q).map (fun i => at0 (xs.map f) i) = (xs.filter p).map f := by
  rw [filter_at0_take xs f p q h xs.length (Nat.le_refl _), List.take_length]
theorem pys_map {α : Type} {f : α → D} {g : α → PyData} (h : ∀ x, py (f x) = some (g x)) : ∀ xs : List α, pys (xs.map f) = some (xs.map g)
  | [] => rfl
  | x :: xs => by
    show (match py (f x), pys (xs.map f) with | some a, some b => some (a :: b) | _, _ => none) = _
    rw [h, pys_map h xs]
    rfl
def pPl (p : Nat × Nat) : PyData := .tuple [.int (p.1 : Nat), .int (p.2 : Nat)]
theorem py_pl (p : Nat × Nat) : py (dPl p) = some (pPl p) := rfl
theorem py_pls (l : List (Nat × Nat)) : py (.tup (l.map dPl)) = some (.tuple (l.map pPl)) := by
  show (pys (l.map dPl)).map PyData.tuple = _
  rw [pys_map py_pl]; rfl
theorem pls_can : ∀ l : List (Nat × Nat), PyData.canLayAll0 (l.map pPl) = true
  | [] => rfl
  | p :: l => by
    show (PyData.canLay0 (pPl p) && PyData.canLayAll0 (l.map pPl)) = true
    rw [pls_can l]; rfl
theorem pls_dep : ∀ l : List (Nat × Nat), PyData.depthAll (l.map pPl) ≤ 2
  | [] => by decide
  | p :: l => by
    show max (PyData.depth (pPl p)) (PyData.depthAll (l.map pPl)) ≤ 2
    have := pls_dep l
    have e : PyData.depth (pPl p) ≤ 2 := by show PyData.depth (.tuple [.int _, .int _]) ≤ 2; simp [PyData.depth, PyData.depthAll]
    omega
theorem pls_shaped (l : List (Nat × Nat)) : SeqAt.shaped (.tuple (l.map pPl)) = true := by
  unfold SeqAt.shaped
  rw [Bool.and_eq_true]
  refine ⟨pls_can l, decide_eq_true ?_⟩
  have := pls_dep l
  show PyData.depthAll (l.map pPl) + 1 ≤ 64
  omega
theorem pl_mem {p : Nat × Nat} : ∀ {l : List (Nat × Nat)}, ((l.map pPl).any fun z => PyData.eqv z (pPl p)) = decide (p ∈ l)
  | [] => rfl
  | x :: l => by
    rw [List.map_cons, List.any_cons, pl_mem (l := l)]
    unfold pPl
    rw [eqv2]
    by_cases h : p = x
    · subst h; simp
    · have h2 : ¬ (((x.1 : Nat) : Int) = (p.1 : Nat) ∧ ((x.2 : Nat) : Int) = (p.2 : Nat)) := fun z => h (Prod.ext (by omega) (by omega))
      rw [decide_eq_false h2, Bool.false_or]
      exact decide_eq_decide.mpr ⟨fun z => List.mem_cons_of_mem _ z, fun z => (List.mem_cons.mp z).resolve_left h⟩
theorem takes_succ {M : NetS} {lost : List (Nat × Nat)} {i : Nat} : M.takes lost (i + 1) = if (0, i) ∈ lost then M.takes lost i else (M.takes lost i).take i := by
  unfold NetS.takes; rw [List.range_succ, List.foldl_append]; rfl
theorem stageOn_succ {M : NetS} {lost : List (Nat × Nat)} {st i : Nat} : M.stageOn lost st (i + 1) = if (st, i) ∈ lost then M.stageOn lost st i else (M.stageOn lost st i).handOn st i := by
  unfold NetS.stageOn; rw [List.range_succ, List.foldl_append]; rfl
theorem stages_succ {M : NetS} {lost : List (Nat × Nat)} {i : Nat} : M.stages lost (i + 1) = (M.stages lost i).stageOn lost (M.k - i) (2 ^ (M.k - 1)) := by
  unfold NetS.stages; rw [List.range_succ, List.foldl_append]; rfl
/-- the list of joinings is made anew -/
theorem NetAt.newPairs {C : Addr} {G : Gp} {A : Slot → Addr} {N : NetS} (NA : NetAt C G A N) {p : Addr} (hp : G p = none) (ps : List (Nat × Nat × Nat)) :
    NetAt C (gup (gup G p (.lst (ps.map dPair))) (A .self) (.ins C (putD "pairs" (.ref p) (netFs N A (A .pairs) N.now)))) (fun s => if s = .pairs then p else A s) { N with pairs := ps } ∧ Own N.k G A (gup (gup G p (.lst (ps.map dPair))) (A .self) (.ins C (putD "pairs" (.ref p) (netFs N A (A .pairs) N.now)))) (fun s => if s = .pairs then p else A s) := by
  have np : ∀ s : Slot, s.ok N.k → A s ≠ p := fun s hs e => by have := NA.here s hs; rw [e, hp] at this; cases this
  have off : ∀ {m1 m2 : MO} {s : Slot}, s.ok N.k → s ≠ .self → gup (gup G p m1) (A .self) m2 (A s) = G (A s) := fun hs hn => by
    rw [gup_ne fun q => hn (NA.inj _ _ hs trivial q), gup_ne (np _ hs)]
  refine ⟨⟨fun s t hs ht e => ?_, fun s hs => ?_⟩, ⟨rfl, fun a ha hn => ?_, fun s hs => ?_⟩⟩
  · by_cases h1 : s = .pairs <;> by_cases h2 : t = .pairs
    · rw [h1, h2]
    · simp only [if_pos h1, if_neg h2] at e; exact absurd e.symm (np t ht)
    · simp only [if_neg h1, if_pos h2] at e; exact absurd e (np s hs)
    · simp only [if_neg h1, if_neg h2] at e; exact NA.inj s t hs ht e
  · cases s with
    | pairs => show gup _ (A .self) _ p = _; rw [gup_ne (np .self trivial).symm, gup_same]; rfl
    | self => show gup _ (A .self) _ (A .self) = _; rw [gup_same]; rfl
    | am => show gup _ (A .self) _ (A .am) = _; rw [off (s := .am) trivial (by decide)]; exact NA.here .am trivial
    | rows => show gup _ (A .self) _ (A .rows) = _; rw [off (s := .rows) trivial (by decide)]; exact NA.here .rows trivial
    | asked => show gup _ (A .self) _ (A .asked) = _; rw [off (s := .asked) trivial (by decide)]; exact NA.here .asked trivial
    | answers => show gup _ (A .self) _ (A .answers) = _; rw [off (s := .answers) trivial (by decide)]; exact NA.here .answers trivial
    | ends => show gup _ (A .self) _ (A .ends) = _; rw [off (s := .ends) trivial (by decide)]; exact NA.here .ends trivial
    | order => show gup _ (A .self) _ (A .order) = _; rw [off (s := .order) trivial (by decide)]; exact NA.here .order trivial
    | lv l => show gup _ (A .self) _ (A (.lv l)) = _; rw [off hs (fun z => nomatch z)]; exact NA.here (.lv l) hs
    | ln l j => show gup _ (A .self) _ (A (.ln l j)) = _; rw [off hs (fun z => nomatch z)]; exact NA.here (.ln l j) hs
  · rw [gup_ne (hn .self trivial), gup_ne fun q => ha (by rw [q]; exact hp)]
  · by_cases h1 : s = .pairs
    · simp only [if_pos h1]; exact .inr hp
    · simp only [if_neg h1]; exact .inl ⟨s, hs, rfl⟩
theorem p2_rng {k : Nat} (h : k ≤ 4) : -(2 ^ 62) ≤ ((2 ^ k : Nat) : Int) ∧ ((2 ^ k : Nat) : Int) < 2 ^ 62 := by
  have := p2_le h
  generalize 2 ^ k = n at *
  omega
theorem u65 {k : Nat} {A : Around} (r : Room k A) : A.units + 65 < cLine := by have := r.un; omega
theorem u1 {k : Nat} {A : Around} (r : Room k A) : A.units + 1 < cLine := by have := r.un; omega
theorem rg_down {k : Nat} (h : k ≤ 4) : RgC (k : Nat) 0 (-1) k := by
  have q : ∀ k : Fin 5, RgC (k.val : Nat) 0 (-1) k.val := by unfold RgC; decide +kernel
  exact q ⟨k, by omega⟩
section
variable {P : Program} {w : World} {K : PySem.W.Frag} {mg : Str → Option Value} {base : Heap} {CNet : Addr}
def S_Net_go_on (CNet : Addr) : AS := fun ds G R => ∃ A N, ∃ lost : List (Nat × Nat), ds = [.ref (A .self), .tup (lost.map dPl)] ∧ NetAt CNet G A N ∧ Good N ∧ ∀ A2 G', NetAt CNet G' A2 (N.goOn lost) → Good (N.goOn lost) → (N.goOn lost).k = N.k → Own N.k G A G' A2 → R .non G'
theorem sc_Net_go_on : FnScope ["self", "lost", "k", "side", "stage", "number", "pair"] ["self", "lost"] (defScope (inClass (top 46) 6)) := ⟨rfl, rfl, rfl, by decide +kernel, rfl, by decide +kernel, by decide +kernel⟩
theorem f_Net_go_on (T : Blt K mg) (NC : NetC K CNet) (dt : DatM K CNet d_Net_go_on "go_on") (c1 : Mn P w K mg base 1 CNet "is_forgotten" ["self", "pair"] [] (S_Net_is_forgotten CNet)) (c2 : Mn P w K mg base 3 CNet "take" ["self", "side"] [] (S_Net_take CNet)) (c3 : Mn P w K mg base 6 CNet "hand_on" ["self", "stage", "number"] [] (S_Net_hand_on CNet)) : Mn P w K mg base 7 CNet "go_on" ["self", "lost"] [] (S_Net_go_on CNet) := by
  obtain ⟨f, fd, F, hm⟩ := dt
  refine ⟨f, cal_of F sc_Net_go_on (fun ds G R h => ?_) (fun _ _ _ _ _ _ us hl => match us, hl with | [_, _], _ => rfl) (fun cdv A outer s H E hr ds G R h => ?_), hm⟩
  · obtain ⟨A', N, lost, rfl, NA, g, _⟩ := h
    rfl
  · obtain ⟨A', N, lost, rfl, NA, g, k⟩ := h
    obtain ⟨f1, q1, m1⟩ := c1
    obtain ⟨f2, q2, m2⟩ := c2
    obtain ⟨f3, q3, m3⟩ := c3
    have h4 := g.k4
    refine b_cons <| s_set 2 sc_Net_go_on.nd <| e_fld <| e_var 0 rfl <| fl_depth NC NA ?_
    refine b_cons <| s_fld <| e_bin <| e_fld <| e_var 0 rfl <| fl_now NC NA <| e_int <| o_add <| e_var 0 rfl ⟨_, CNet, _, rfl, NA.here .self trivial, NC.cls, NC.na "now" (by decide), Nat.lt_of_sub_ne_zero (by intro z; cases z), ?_⟩
    have en : ((N.now : Nat) : Int) + 1 = ((N.now + 1 : Nat) : Int) := by omega
    rw [en]
    have NA1 : NetAt CNet (gup G (A' .self) (.ins CNet (putD "now" (.int ((N.now + 1 : Nat) : Int)) (netFs N A' (A' .pairs) N.now)))) A' { N with now := N.now + 1 } := NA.upd (N' := { N with now := N.now + 1 }) .self trivial rfl rfl fun t _ h => by
      cases t with
      | self => exact absurd rfl h
      | _ => rfl
    refine b_cons <| s_fld <| e_lcM [("pair", 6)] sc_Net_go_on.nd (blkOk_by rfl) (fun _ _ _ _ _ => (pg_name (i := 6) sc_Net_go_on.nd rfl (Or.inl rfl))) <| n_list <| e_fld <| e_var 0 rfl <| fl_pairs NC NA1 ⟨_, .ref (NA1.here .pairs trivial), ?_⟩
    refine lc_filter (fun i => !((N.pairs[i]?).map (NetS.forgot { N with now := N.now + 1 })).getD false) (fun i => at0 (N.pairs.map dPair) i) (fun i => [(6, at0 (N.pairs.map dPair) i)]) (NA1.here .pairs trivial) (by rw [List.length_map]; show N.pairs.length ≤ _; have := g.cnt; have := g.many; omega) (by simp) (fun i _ => tg_name) (fun i hi s H0 C cl fp => ?_) (fun i hi _ s H0 C cl fp => e_var 6 rfl ⟨rfl, rfl⟩) ?_
    · rw [List.length_map] at hi
      have hi : i < N.pairs.length := hi
      rw [at0_map hi]
      refine t_not <| t_val <| e_meth NC.cls m1 q1 (hr.mono (by decide)) <| e_var 0 rfl ⟨_, _, rfl, NA1.here .self trivial, rfl, a_cons <| e_var 6 rfl <| a_nil ⟨A', _, N.pairs[i], rfl, NA1, g.prs _ (List.getElem_mem hi), _, rfl, ?_⟩⟩
      rw [List.getElem?_eq_getElem hi]
      exact ⟨rfl, rfl⟩
    intro p hp
    have ep : (((List.range (N.pairs.map dPair).length).filter (fun i => !((N.pairs[i]?).map (NetS.forgot { N with now := N.now + 1 })).getD false)).map fun i => at0 (N.pairs.map dPair) i) = (N.tick.pairs).map dPair := by
      rw [List.length_map]
      exact filter_at0 (p := fun p => !NetS.forgot { N with now := N.now + 1 } p) fun i x hx => by rw [hx]; rfl
    rw [ep]
    have NP := NA1.newPairs hp N.tick.pairs
    have fl : ∀ {m : MO}, gup (gup G (A' .self) (.ins CNet (putD "now" (.int ((N.now + 1 : Nat) : Int)) (netFs N A' (A' .pairs) N.now)))) p m (A' .self) = some (.ins CNet (netFs { N with now := N.now + 1 } A' (A' .pairs) (N.now + 1))) := fun {m} => by
      rw [gup_ne fun q => by rw [← q] at hp; have := NA1.here .self trivial; rw [hp] at this; cases this]
      exact NA1.here .self trivial
    refine e_var 0 rfl ⟨_, CNet, _, rfl, fl, NC.cls, NC.na "pairs" (by decide), Nat.lt_of_sub_ne_zero (by intro z; cases z), ?_⟩
    generalize hA : (fun s => if s = .pairs then p else A' s : Slot → Addr) = A1 at NP
    generalize hG : gup (gup (gup G (A' .self) (.ins CNet (putD "now" (.int ((N.now + 1 : Nat) : Int)) (netFs N A' (A' .pairs) N.now)))) p (.lst (N.tick.pairs.map dPair))) (A' .self) (.ins CNet (putD "pairs" (.ref p) (netFs { N with now := N.now + 1 } A' (A' .pairs) (N.now + 1)))) = G2 at NP
    show SB _ _ _ G2 _
    obtain ⟨NA2, OW2⟩ := NP
    have sA : A1 .self = A' .self := by rw [← hA]; rfl
    have NA2 : NetAt CNet G2 A1 N.tick := NA2
    have OW2 : Own N.k G A' G2 A1 := (Own.gup (s := .self) trivial).trans OW2
    have gt := tick_good g
    refine b_cons <| s_for (pg_name (i := 3) sc_Net_go_on.nd rfl (by first | exact Or.inl rfl | exact Or.inr rfl)) PassesOwn.never <| n_range1 T.rng <| e_bin <| e_int <| e_var 2 rfl <| o_shl (cpow_nat (by omega) (by omega) (by omega) (by omega)) ⟨_, rfl, by rw [p2i]; exact (p2_rng h4).1, by rw [p2i]; exact (p2_rng h4).2, ?_⟩
    rw [p2i, Int.toNat_natCast]
    refine ⟨fun i Γ G' => Γ.length = 7 ∧ Γ[0]? = some (some (.ref (A1 .self))) ∧ Γ[1]? = some (some (.tup (lost.map dPl))) ∧ Γ[2]? = some (some (.int (N.k : Nat))) ∧ NetAt CNet G' A1 (N.tick.takes lost i) ∧ Good (N.tick.takes lost i) ∧ (N.tick.takes lost i).k = N.k ∧ Own N.k G A' G' A1, ⟨rfl, by rw [sA]; rfl, rfl, rfl, NA2, gt.1, rfl, OW2⟩, fun _ _ _ _ _ => trivial, ?_, ?_⟩
    · rintro i Γ' G' hlt ⟨l, g0, g1, g2, na, gd, kk, ow⟩
      refine ⟨_, tg_name, ?_⟩
      have g0' := sg_ne (j := 3) (v := some (.int (i : Nat))) g0 (by decide)
      have g1' := sg_ne (j := 3) (v := some (.int (i : Nat))) g1 (by decide)
      have g2' := sg_ne (j := 3) (v := some (.int (i : Nat))) g2 (by decide)
      have l' : (Γ'.set 3 (some (.int (i : Nat)))).length = 7 := by rw [List.length_set]; exact l
      show SB _ _ (Γ'.set 3 (some (.int (i : Nat)))) _ _
      refine b_one <| s_if <| t_cmp <| e_tup <| a_cons <| e_int <| a_cons <| e_var 3 (sg_eq (by rw [l]; decide)) <| a_nil ⟨Nat.le_of_ble_eq_true rfl, e_var 1 g1' <| o_notInT (x := pPl (0, i)) (xs := lost.map pPl) (u65 hr) rfl (py_pls lost) rfl (pls_shaped lost) ⟨_, rfl, ?_⟩⟩
      rw [pl_mem]
      by_cases hm : (0, i) ∈ lost
      · rw [decide_eq_true hm]
        refine iteFF <| b_nil ?_
        have e : N.tick.takes lost (i + 1) = N.tick.takes lost i := by rw [takes_succ, if_pos hm]
        exact ⟨l', g0', g1', g2', by rw [e]; exact na, by rw [e]; exact gd, by rw [e]; exact kk, ow⟩
      · rw [decide_eq_false hm]
        have e : N.tick.takes lost (i + 1) = (N.tick.takes lost i).take i := by rw [takes_succ, if_neg hm]
        have hi : i < 2 ^ (N.tick.takes lost i).k := by rw [kk]; exact hlt
        exact iteTT <| b_one <| s_expr <| e_meth NC.cls m2 q2 (hr.mono (by decide)) <| e_var 0 g0' ⟨_, _, rfl, na.here .self trivial, rfl, a_cons <| e_var 3 (sg_eq (by rw [l]; decide)) <| a_nil ⟨A1, _, i, rfl, na, gd, hi, fun G3 na3 ow3 => ⟨l', g0', g1', g2', by rw [e]; exact na3, by rw [e]; exact take_good gd hi, by rw [e, take_k]; exact kk, ow.trans (kk ▸ ow3)⟩⟩⟩
    rintro Γ' G' ⟨l, g0, g1, g2, na, gd, kk, ow⟩
    have ku : N.goOn lost = (N.tick.takes lost (2 ^ N.k)).stages lost N.k := rfl
    rw [ku] at k
    generalize hM : N.tick.takes lost (2 ^ N.k) = M at na gd kk k
    refine b_one <| s_for (pg_name (i := 4) sc_Net_go_on.nd rfl (by first | exact Or.inl rfl | exact Or.inr rfl)) PassesOwn.never <| n_range3 T.rng <| a_cons <| e_var 2 g2 <| a_cons <| e_int <| a_cons <| e_neg <| e_int ⟨_, rfl, a_nil ⟨_, _, _, N.k, rfl, rg_down h4, ?_⟩⟩
    refine ⟨fun i Γ G' => Γ.length = 7 ∧ Γ[0]? = some (some (.ref (A1 .self))) ∧ Γ[1]? = some (some (.tup (lost.map dPl))) ∧ Γ[2]? = some (some (.int (N.k : Nat))) ∧ NetAt CNet G' A1 (M.stages lost i) ∧ Good (M.stages lost i) ∧ (M.stages lost i).k = N.k ∧ Own N.k G A' G' A1, ⟨l, g0, g1, g2, na, gd, kk, ow⟩, fun _ _ _ _ _ => trivial, ?_, ?_⟩
    · rintro i Γ1 G1 hlt ⟨l, g0, g1, g2, na, gd, kk1, ow⟩
      refine ⟨_, tg_name, ?_⟩
      have eit : ((N.k : Nat) : Int) + ((i : Nat) : Int) * (-1) = ((N.k - i : Nat) : Int) := by omega
      show SB _ _ (Γ1.set 4 (some (.int (((N.k : Nat) : Int) + ((i : Nat) : Int) * (-1))))) _ _
      rw [eit]
      have g0' := sg_ne (j := 4) (v := some (.int (N.k - i : Nat))) g0 (by decide)
      have g1' := sg_ne (j := 4) (v := some (.int (N.k - i : Nat))) g1 (by decide)
      have g2' := sg_ne (j := 4) (v := some (.int (N.k - i : Nat))) g2 (by decide)
      have l' : (Γ1.set 4 (some (.int (N.k - i : Nat)))).length = 7 := by rw [List.length_set]; exact l
      show SB _ _ (Γ1.set 4 (some (.int (N.k - i : Nat)))) _ _
      have ek1 : ((N.k : Nat) : Int) - 1 = ((N.k - 1 : Nat) : Int) := by omega
      refine b_one <| s_for (pg_name (i := 5) sc_Net_go_on.nd rfl (by first | exact Or.inl rfl | exact Or.inr rfl)) PassesOwn.never <| n_range1 T.rng <| e_bin <| e_int <| e_bin <| e_var 2 g2' <| e_int <| o_sub ?_
      rw [ek1]
      refine o_shl (cpow_nat (by omega) (by omega) (by omega) (by omega)) ⟨_, rfl, by rw [p2i]; exact (p2_rng (by omega)).1, by rw [p2i]; exact (p2_rng (by omega)).2, ?_⟩
      rw [p2i, Int.toNat_natCast]
      refine ⟨fun j Γ G' => Γ.length = 7 ∧ Γ[0]? = some (some (.ref (A1 .self))) ∧ Γ[1]? = some (some (.tup (lost.map dPl))) ∧ Γ[2]? = some (some (.int (N.k : Nat))) ∧ Γ[4]? = some (some (.int (N.k - i : Nat))) ∧ NetAt CNet G' A1 ((M.stages lost i).stageOn lost (N.k - i) j) ∧ Good ((M.stages lost i).stageOn lost (N.k - i) j) ∧ ((M.stages lost i).stageOn lost (N.k - i) j).k = N.k ∧ Own N.k G A' G' A1, ⟨l', g0', g1', g2', sg_eq (by rw [l]; decide), na, gd, kk1, ow⟩, fun _ _ _ _ _ => trivial, ?_, ?_⟩
      · rintro j Γ2 G2 hj ⟨l, g0, g1, g2, g4, na, gd, kk2, ow⟩
        refine ⟨_, tg_name, ?_⟩
        have g0' := sg_ne (j := 5) (v := some (.int (j : Nat))) g0 (by decide)
        have g1' := sg_ne (j := 5) (v := some (.int (j : Nat))) g1 (by decide)
        have g2' := sg_ne (j := 5) (v := some (.int (j : Nat))) g2 (by decide)
        have g4' := sg_ne (j := 5) (v := some (.int (j : Nat))) g4 (by decide)
        have l' : (Γ2.set 5 (some (.int (j : Nat)))).length = 7 := by rw [List.length_set]; exact l
        show SB _ _ (Γ2.set 5 (some (.int (j : Nat)))) _ _
        refine b_one <| s_if <| t_cmp <| e_tup <| a_cons <| e_var 4 g4' <| a_cons <| e_var 5 (sg_eq (by rw [l]; decide)) <| a_nil ⟨Nat.le_of_ble_eq_true rfl, e_var 1 g1' <| o_notInT (x := pPl (N.k - i, j)) (xs := lost.map pPl) (u65 hr) rfl (py_pls lost) rfl (pls_shaped lost) ⟨_, rfl, ?_⟩⟩
        rw [pl_mem]
        by_cases hm : (N.k - i, j) ∈ lost
        · rw [decide_eq_true hm]
          refine iteFF <| b_nil ?_
          have e : (M.stages lost i).stageOn lost (N.k - i) (j + 1) = (M.stages lost i).stageOn lost (N.k - i) j := by rw [stageOn_succ, if_pos hm]
          exact ⟨l', g0', g1', g2', g4', by rw [e]; exact na, by rw [e]; exact gd, by rw [e]; exact kk2, ow⟩
        · rw [decide_eq_false hm]
          have e : (M.stages lost i).stageOn lost (N.k - i) (j + 1) = ((M.stages lost i).stageOn lost (N.k - i) j).handOn (N.k - i) j := by rw [stageOn_succ, if_neg hm]
          have hb : j < 2 ^ (((M.stages lost i).stageOn lost (N.k - i) j).k - 1) := by rw [kk2]; exact hj
          have hg := handOn_good (stage := N.k - i) (number := j) gd (by omega) (by rw [kk2]; omega) hb
          exact iteTT <| b_one <| s_expr <| e_meth NC.cls m3 q3 (hr.mono (by decide)) <| e_var 0 g0' ⟨_, _, rfl, na.here .self trivial, rfl, a_cons <| e_var 4 g4' <| a_cons <| e_var 5 (sg_eq (by rw [l]; decide)) <| a_nil ⟨A1, _, N.k - i, j, rfl, na, gd, by omega, by rw [kk2]; omega, hb, fun G3 na3 ow3 => ⟨l', g0', g1', g2', g4', by rw [e]; exact na3, by rw [e]; exact hg.1, by rw [e]; exact hg.2.trans kk2, ow.trans (kk2 ▸ ow3)⟩⟩⟩
      · rintro Γ2 G2 ⟨l, g0, g1, g2, g4, na, gd, kk2, ow⟩
        have e : M.stages lost (i + 1) = (M.stages lost i).stageOn lost (N.k - i) (2 ^ (N.k - 1)) := by rw [stages_succ, kk]
        exact ⟨l, g0, g1, g2, by rw [e]; exact na, by rw [e]; exact gd, by rw [e]; exact kk2, ow⟩
    · rintro Γ1 G1 ⟨l, g0, g1, g2, na, gd, kk1, ow⟩
      exact k _ _ na gd kk1 ow
end
end J
namespace J
open PySem PySem.Spec PyProof.Rows L2
/-- what the class at C is made by -/
def DatK (K : PySem.W.Frag) (C : Addr) (d : He.DefD) : Prop := ∃ f fd, FD K d f fd ∧ Mk K C f
def Kn (P : Program) (w : World) (K : PySem.W.Frag) (mg : Str → Option Value) (base : Heap) (k : Nat) (C : Addr) (ps : List Str) (dvs : List D) (S : AS) : Prop := ∃ f, Cal P w K mg base k f ps dvs S ∧ Mk K C f
def updS {α : Type} (f : Slot → α) (s : Slot) (x : α) : Slot → α := fun t => if t = s then x else f t
theorem updS_same {α : Type} {f : Slot → α} {s : Slot} {x : α} : updS f s x s = x := if_pos rfl
theorem updS_ne {α : Type} {f : Slot → α} {s t : Slot} {x : α} (h : t ≠ s) : updS f s x t = f t := if_neg h
structure Lay (G0 G : Gp) (A : Slot → Addr) (ok : Slot → Prop) (H : Slot → MO) : Prop where
  inj : ∀ s t, ok s → ok t → A s = A t → s = t
  here : ∀ s, ok s → G (A s) = some (H s)
  old : ∀ s, ok s → G0 (A s) = none
  rest : ∀ a, (∀ s, ok s → a ≠ A s) → G a = G0 a
theorem Lay.new {G0 G : Gp} {A : Slot → Addr} {ok ok' : Slot → Prop} {H : Slot → MO} (L : Lay G0 G A ok H) {p : Addr} (hp : G p = none) {s : Slot} (hs : ¬ ok s) (m : MO) (ho : ∀ t, ok' t ↔ (ok t ∨ t = s)) : Lay G0 (gup G p m) (updS A s p) ok' (updS H s m) := by
  have np : ∀ t, ok t → A t ≠ p := fun t ht e => by have := L.here t ht; rw [e, hp] at this; cases this
  have ne : ∀ t, ok t → t ≠ s := fun t ht e => hs (e ▸ ht)
  have p0 : G0 p = none := by rw [← L.rest p fun t ht e => np t ht e.symm]; exact hp
  refine ⟨fun t u ht hu e => ?_, fun t ht => ?_, fun t ht => ?_, fun a ha => ?_⟩
  · rcases (ho t).mp ht with h1 | h1 <;> rcases (ho u).mp hu with h2 | h2
    · rw [updS_ne (ne t h1), updS_ne (ne u h2)] at e; exact L.inj t u h1 h2 e
    · subst h2; rw [updS_ne (ne t h1), updS_same] at e; exact absurd e (np t h1)
    · subst h1; rw [updS_same, updS_ne (ne u h2)] at e; exact absurd e.symm (np u h2)
    · rw [h1, h2]
  · rcases (ho t).mp ht with h1 | h1
    · rw [updS_ne (ne t h1), updS_ne (ne t h1), gup_ne (np t h1)]; exact L.here t h1
    · subst h1; rw [updS_same, updS_same, gup_same]
  · rcases (ho t).mp ht with h1 | h1
    · rw [updS_ne (ne t h1)]; exact L.old t h1
    · subst h1; rw [updS_same]; exact p0
  · have h1 := ha s ((ho s).mpr (.inr rfl))
    rw [updS_same] at h1
    rw [gup_ne h1]
    exact L.rest a fun t ht e => ha t ((ho t).mpr (.inl ht)) (by rw [updS_ne (ne t ht)]; exact e)
theorem Lay.set {G0 G : Gp} {A : Slot → Addr} {ok : Slot → Prop} {H : Slot → MO} (L : Lay G0 G A ok H) {s : Slot} (hs : ok s) (m : MO) : Lay G0 (gup G (A s) m) A ok (updS H s m) := by
  refine ⟨L.inj, fun t ht => ?_, L.old, fun a ha => ?_⟩
  · by_cases e : t = s
    · subst e; rw [gup_same, updS_same]
    · rw [gup_ne fun q => e (L.inj t s ht hs q), updS_ne e]; exact L.here t ht
  · rw [gup_ne (ha s hs)]; exact L.rest a ha
/-- while the rows are made -/
def okQ (k i j : Nat) : Slot → Prop
  | .self => True
  | .am => True
  | .lv l => l < i
  | .ln l j' => (l < i ∧ j' < 2 ^ k) ∨ (l = i ∧ j' < j)
  | _ => False
structure Mid (k i j : Nat) (a pa : Addr) (ms ma : MO) (A : Slot → Addr) (H : Slot → MO) : Prop where
  as : A .self = a
  am : A .am = pa
  hs : H .self = ms
  hm : H .am = ma
  hl : ∀ l, l < i → H (.lv l) = .lst ((List.range (2 ^ k)).map fun j => .ref (A (.ln l j)))
  hn : ∀ l j', okQ k i j (.ln l j') → H (.ln l j') = .lst []
theorem mid_ln {k i j : Nat} {a pa p : Addr} {ms ma : MO} {A : Slot → Addr} {H : Slot → MO} (m : Mid k i j a pa ms ma A H) : Mid k i (j + 1) a pa ms ma (updS A (.ln i j) p) (updS H (.ln i j) (.lst [])) where
  as := m.as
  am := m.am
  hs := m.hs
  hm := m.hm
  hl := fun l hl => by
    rw [updS_ne (s := .ln i j) (t := .lv l) (fun z => nomatch z), m.hl l hl]
    refine congrArg MO.lst (List.map_congr_left fun x _ => ?_)
    rw [updS_ne fun z => by injection z with z1 z2; omega]
  hn := fun l j' h => by
    by_cases e : Slot.ln l j' = Slot.ln i j
    · rw [e, updS_same]
    · rw [updS_ne e]
      refine m.hn l j' ?_
      rcases h with h | ⟨h1, h2⟩
      · exact .inl h
      · exact .inr ⟨h1, by have : j' ≠ j := fun z => e (by rw [h1, z]); omega⟩
theorem okQ_ln {k i j : Nat} (t : Slot) : okQ k i (j + 1) t ↔ (okQ k i j t ∨ t = .ln i j) := by
  cases t with
  | ln l j' =>
    show ((l < i ∧ j' < 2 ^ k) ∨ (l = i ∧ j' < j + 1)) ↔ (((l < i ∧ j' < 2 ^ k) ∨ (l = i ∧ j' < j)) ∨ Slot.ln l j' = Slot.ln i j)
    rw [Slot.ln.injEq]
    omega
  | self => simp [okQ]
  | am => simp [okQ]
  | lv l => simp [okQ]
  | rows => simp [okQ]
  | asked => simp [okQ]
  | answers => simp [okQ]
  | ends => simp [okQ]
  | order => simp [okQ]
  | pairs => simp [okQ]
theorem okQ_lv {k i : Nat} (t : Slot) : okQ k (i + 1) 0 t ↔ (okQ k i (2 ^ k) t ∨ t = .lv i) := by
  cases t with
  | ln l j' =>
    show ((l < i + 1 ∧ j' < 2 ^ k) ∨ (l = i + 1 ∧ j' < 0)) ↔ (((l < i ∧ j' < 2 ^ k) ∨ (l = i ∧ j' < 2 ^ k)) ∨ Slot.ln l j' = Slot.lv i)
    simp only [reduceCtorEq, or_false]
    omega
  | lv l =>
    show l < i + 1 ↔ (l < i ∨ Slot.lv l = Slot.lv i)
    rw [Slot.lv.injEq]
    omega
  | self => simp [okQ]
  | am => simp [okQ]
  | rows => simp [okQ]
  | asked => simp [okQ]
  | answers => simp [okQ]
  | ends => simp [okQ]
  | order => simp [okQ]
  | pairs => simp [okQ]
theorem mid_lv {k i : Nat} {a pa p : Addr} {ms ma : MO} {A : Slot → Addr} {H : Slot → MO} (m : Mid k i (2 ^ k) a pa ms ma A H) : Mid k (i + 1) 0 a pa ms ma (updS A (.lv i) p) (updS H (.lv i) (.lst ((List.range (2 ^ k)).map fun j => .ref (A (.ln i j))))) where
  as := m.as
  am := m.am
  hs := m.hs
  hm := m.hm
  hl := fun l hl => by
    by_cases e : l = i
    · subst e; rw [updS_same]; rfl
    · rw [updS_ne (fun z => e (by injection z)), m.hl l (by omega)]; rfl
  hn := fun l j' h => by
    rw [updS_ne (s := .lv i) (t := .ln l j') (fun z => nomatch z)]
    refine m.hn l j' ?_
    rcases h with h | ⟨h1, h2⟩
    · by_cases e : l = i
      · exact .inr ⟨e, h.2⟩
      · exact .inl ⟨by omega, h.2⟩
    · omega
section
variable {P : Program} {w : World} {K : PySem.W.Frag} {mg : Str → Option Value} {base : Heap} {CNet : Addr}
def S_Net_init (CNet : Addr) : AS := fun ds G R => ∃ (a : Addr) (kk room kept : Nat) (vals : List Int), ds = [.ref a, .int kk, dInts vals, .int room, .int kept] ∧ G a = some (.ins CNet []) ∧ kk ≤ 4 ∧ 1 ≤ room ∧ room ≤ 6 ∧ kept ≤ 6 ∧ 1 ≤ vals.length ∧ vals.length ≤ 16 ∧ ∀ A G', A .self = a → NetAt CNet G' A (NetS.fresh kk room kept vals) → (∀ s : Slot, s.ok kk → s ≠ .self → G (A s) = none) → (∀ b, G b ≠ none → b ≠ a → G' b = G b) → R .non G'
theorem sc_Net_init : FnScope ["self", "k", "board", "room", "kept", "level", "line"] ["self", "k", "board", "room", "kept"] (defScope (inClass (top 46) 0)) := ⟨rfl, rfl, rfl, by decide +kernel, rfl, by decide +kernel, by decide +kernel⟩
theorem f_Net_init (T : Blt K mg) (NC : NetC K CNet) (dt : DatK K CNet d_Net_init) (c1 : Fn P w K mg base 3 "want_net" ["k", "deepest"] [.int 4] S_want_net) (c2 : Fn P w K mg base 3 "want_within" ["thing", "least", "most"] [] S_want_within) (c3 : Fn P w K mg base 3 "want_board" ["board"] [] S_want_board) : Kn P w K mg base 4 CNet ["self", "k", "board", "room", "kept"] [] (S_Net_init CNet) := by
  obtain ⟨f, fd, F, hm⟩ := dt
  refine ⟨f, cal_of F sc_Net_init (fun ds G R h => ?_) (fun _ _ _ _ _ _ us hl => match us, hl with | [_, _, _, _, _], _ => rfl) (fun cdv A outer s H E hr ds G R h => ?_), hm⟩
  · obtain ⟨a, kk, room, kept, vals, rfl, ha, h1, h2, h3, h4, h5, h6, _⟩ := h
    rfl
  · obtain ⟨a, kk, room, kept, vals, rfl, ha, h1, h2, h3, h4, h5, h6, k⟩ := h
    obtain ⟨f1, q1, m1⟩ := c1
    obtain ⟨f2, q2, m2⟩ := c2
    obtain ⟨f3, q3, m3⟩ := c3
    refine b_cons <| s_expr <| e_call q1 m1 (hr.mono (by decide)) <| a_cons <| e_var 1 rfl <| a_nil ⟨_, rfl, by omega, by omega, ?_⟩
    refine b_cons <| s_expr <| e_call q2 m2 (hr.mono (by decide)) <| a_cons <| e_var 3 rfl <| a_cons <| e_int <| a_cons <| e_gI T.room <| a_nil ⟨_, _, _, rfl, by omega, by omega, ?_⟩
    refine b_cons <| s_expr <| e_call q2 m2 (hr.mono (by decide)) <| a_cons <| e_var 4 rfl <| a_cons <| e_int <| a_cons <| e_gI T.kept <| a_nil ⟨_, _, _, rfl, by omega, by omega, ?_⟩
    refine b_cons <| s_expr <| e_call q3 m3 (hr.mono (by decide)) <| a_cons <| e_var 2 rfl <| a_nil ⟨vals, rfl, h5, h6, ?_⟩
    let G0 : Gp := fun b => if b = a then none else G b
    have L0 : Lay G0 G (fun _ => a) (fun s => s = .self) (fun _ => .ins CNet []) := ⟨fun s t e1 e2 _ => by rw [e1, e2], fun s _ => ha, fun s _ => if_pos rfl, fun b hb => (if_neg (hb .self rfl)).symm⟩
    refine b_cons <| s_fld <| e_var 1 rfl <| e_var 0 rfl ⟨_, CNet, _, rfl, L0.here .self rfl, NC.cls, NC.na "depth" (by decide), Nat.le_of_ble_eq_true rfl, ?_⟩
    have L1 := L0.set (s := .self) rfl (.ins CNet (putD "depth" (.int (kk : Nat)) []))
    refine b_cons <| s_fld <| e_callTy T.lst bt_lst <| a_cons <| e_var 2 rfl <| a_nil <| c_lstTM .tup fun pa hpa => ?_
    have L2 := L1.new (ok' := okQ kk 0 0) hpa (s := .am) (fun z => nomatch z) (.lst (vals.map D.int)) (fun t => by cases t <;> simp [okQ])
    refine e_var 0 rfl ⟨_, CNet, _, rfl, L2.here .self trivial, NC.cls, NC.na "amounts" (by decide), Nat.le_of_ble_eq_true rfl, ?_⟩
    have L3 := L2.set (s := .self) trivial (.ins CNet (putD "amounts" (.ref pa) (putD "depth" (.int (kk : Nat)) [])))
    refine b_cons <| s_fld <| e_var 3 rfl <| e_var 0 rfl ⟨_, CNet, _, rfl, L3.here .self trivial, NC.cls, NC.na "room" (by decide), Nat.le_of_ble_eq_true rfl, ?_⟩
    have L4 := L3.set (s := .self) trivial (.ins CNet (putD "room" (.int (room : Nat)) (putD "amounts" (.ref pa) (putD "depth" (.int (kk : Nat)) []))))
    refine b_cons <| s_fld <| e_var 4 rfl <| e_var 0 rfl ⟨_, CNet, _, rfl, L4.here .self trivial, NC.cls, NC.na "kept" (by decide), Nat.le_of_ble_eq_true rfl, ?_⟩
    have L5 := L4.set (s := .self) trivial (.ins CNet (putD "kept" (.int (kept : Nat)) (putD "room" (.int (room : Nat)) (putD "amounts" (.ref pa) (putD "depth" (.int (kk : Nat)) [])))))
    have L5 : ∃ A H, Lay G0 _ A (okQ kk 0 0) H ∧ Mid kk 0 0 a pa (.ins CNet (putD "kept" (.int (kept : Nat)) (putD "room" (.int (room : Nat)) (putD "amounts" (.ref pa) (putD "depth" (.int (kk : Nat)) []))))) (.lst (vals.map D.int)) A H := ⟨_, _, L5, ⟨rfl, rfl, rfl, rfl, fun l hl => absurd hl (Nat.not_lt_zero _), fun l j' h => by rcases h with h | h <;> omega⟩⟩
    refine b_cons <| s_fld <| e_lcM [("level", 5)] sc_Net_init.nd (blkOk_by rfl) (fun _ _ _ _ _ => (pg_name (i := 5) sc_Net_init.nd rfl (Or.inl rfl))) <| n_range1 T.rng <| e_bin <| e_var 1 rfl <| e_int <| o_add ⟨_, rfl, by omega, by omega, ?_⟩
    have e1 : (((kk : Nat) : Int) + 1).toNat = kk + 1 := by omega
    rw [e1]
    refine ⟨fun i acc G' => ∃ A H, Lay G0 G' A (okQ kk i 0) H ∧ Mid kk i 0 a pa (.ins CNet (putD "kept" (.int (kept : Nat)) (putD "room" (.int (room : Nat)) (putD "amounts" (.ref pa) (putD "depth" (.int (kk : Nat)) []))))) (.lst (vals.map D.int)) A H ∧ acc = (List.range i).map fun l => .ref (A (.lv l)), ?_, fun _ _ _ _ _ => trivial, by omega, ?_, ?_⟩
    · obtain ⟨A, H, l, m⟩ := L5
      exact ⟨A, H, l, m, rfl⟩
    · rintro i acc G' hi ⟨A, H, L, M, ea⟩
      refine ⟨_, by simp, tg_name, fun s H0 C cl fp => q_nil (iteTT fun s H0 C cl fp => ?_)⟩
      refine e_lcM [("line", 6)] sc_Net_init.nd (blkOk_by rfl) (fun _ _ _ _ _ => (pg_name (i := 6) sc_Net_init.nd rfl (Or.inl rfl))) <| n_range1 T.rng <| e_bin <| e_int <| e_var 1 rfl <| o_shl (cpow_nat (by omega) (by omega) (by omega) (by omega)) ⟨_, rfl, by rw [p2i]; exact (p2_rng h1).1, by rw [p2i]; exact (p2_rng h1).2, ?_⟩
      rw [p2i, Int.toNat_natCast]
      refine ⟨fun j ac G2 => ∃ A2 H2, Lay G0 G2 A2 (okQ kk i j) H2 ∧ Mid kk i j a pa (.ins CNet (putD "kept" (.int (kept : Nat)) (putD "room" (.int (room : Nat)) (putD "amounts" (.ref pa) (putD "depth" (.int (kk : Nat)) []))))) (.lst (vals.map D.int)) A2 H2 ∧ (∀ l, l < i → A2 (.lv l) = A (.lv l)) ∧ ac = (List.range j).map fun j => .ref (A2 (.ln i j)), ⟨A, H, L, M, fun _ _ => rfl, rfl⟩, fun _ _ _ _ _ => trivial, by have := p2_le h1; omega, ?_, ?_⟩
      · rintro j ac G2 hj ⟨A2, H2, L2, M2, pv, eac⟩
        refine ⟨_, by simp, tg_name, fun s H0 C cl fp => q_nil (iteTT fun s H0 C cl fp => ?_)⟩
        refine e_lstM <| a_nil ⟨Nat.zero_le _, fun p hp => ⟨_, _, L2.new hp (s := .ln i j) (fun z => by rcases z with z | z <;> omega) (.lst []) okQ_ln, mid_ln M2, fun l hl => pv l hl, ?_⟩⟩
        rw [List.range_succ, List.map_append, eac]
        congr 1
        · refine List.map_congr_left fun x hx => ?_
          rw [updS_ne fun z => by injection z with z1 z2; have := List.mem_range.mp hx; omega]
        · show [D.ref p] = [D.ref (updS A2 (.ln i j) p (.ln i j))]
          rw [updS_same]
      · rintro ac G2 ⟨A2, H2, L2, M2, pv, eac⟩ p hp
        subst eac
        refine ⟨_, _, L2.new hp (s := .lv i) (Nat.lt_irrefl _) _ okQ_lv, mid_lv M2, ?_⟩
        rw [List.range_succ, List.map_append, ea]
        congr 1
        · refine List.map_congr_left fun x hx => ?_
          have := List.mem_range.mp hx
          rw [updS_ne fun z => by injection z with z1; omega, pv x this]
        · show [D.ref p] = [D.ref (updS A2 (.lv i) p (.lv i))]
          rw [updS_same]
    rintro acc G' ⟨A, H, L, M, ea⟩ p1 hp1
    subst ea
    have L6 := L.new (ok' := fun t => okQ kk (kk + 1) 0 t ∨ t = .rows) hp1 (s := .rows) (fun z => z) (.lst ((List.range (kk + 1)).map fun l => .ref (A (.lv l)))) (fun t => Iff.rfl)
    generalize hF : (putD "kept" (.int (kept : Nat)) (putD "room" (.int (room : Nat)) (putD "amounts" (.ref pa) (putD "depth" (.int (kk : Nat)) []))) : List (Str × D)) = F at M
    have hs6 : updS A .rows p1 .self = a := M.as
    have hh6 : ∀ {m : MO}, updS H .rows m .self = .ins CNet F := fun {m} => M.hs
    have here6 := L6.here .self (.inl trivial)
    rw [hs6, hh6] at here6
    refine e_var 0 rfl ⟨_, CNet, F, rfl, here6, NC.cls, NC.na "rows" (by decide), by rw [← hF]; exact Nat.le_of_ble_eq_true rfl, ?_⟩
    have L7 := L6.set (s := .self) (.inl trivial) (.ins CNet (putD "rows" (.ref p1) F))
    rw [hs6] at L7
    refine b_cons <| s_fld <| e_lstM <| a_nil ⟨Nat.zero_le _, fun p2 hp2 => ?_⟩
    have L8 := L7.new (ok' := fun t => (okQ kk (kk + 1) 0 t ∨ t = .rows) ∨ t = .asked) hp2 (s := .asked) (fun z => by rcases z with z | z; exact z; cases z) (.lst []) (fun t => Iff.rfl)
    have here8 := L8.here .self (.inl (.inl trivial))
    rw [show updS (updS A .rows p1) .asked p2 .self = a from M.as] at here8
    refine e_var 0 rfl ⟨_, CNet, _, rfl, here8, NC.cls, NC.na "asked" (by decide), by rw [← hF]; exact Nat.le_of_ble_eq_true rfl, ?_⟩
    have L9 := L8.set (s := .self) (.inl (.inl trivial)) (.ins CNet (putD "asked" (.ref p2) (putD "rows" (.ref p1) F)))
    rw [show updS (updS A .rows p1) .asked p2 .self = a from M.as] at L9
    refine b_cons <| s_fld <| e_lstM <| a_nil ⟨Nat.zero_le _, fun p3 hp3 => ?_⟩
    have L10 := L9.new (ok' := fun t => ((okQ kk (kk + 1) 0 t ∨ t = .rows) ∨ t = .asked) ∨ t = .answers) hp3 (s := .answers) (fun z => by rcases z with (z | z) | z; exact z; cases z; cases z) (.lst []) (fun t => Iff.rfl)
    have here10 := L10.here .self (.inl (.inl (.inl trivial)))
    rw [show updS (updS (updS A .rows p1) .asked p2) .answers p3 .self = a from M.as] at here10
    refine e_var 0 rfl ⟨_, CNet, _, rfl, here10, NC.cls, NC.na "answers" (by decide), by rw [← hF]; exact Nat.le_of_ble_eq_true rfl, ?_⟩
    have L11 := L10.set (s := .self) (.inl (.inl (.inl trivial))) (.ins CNet (putD "answers" (.ref p3) (putD "asked" (.ref p2) (putD "rows" (.ref p1) F))))
    rw [show updS (updS (updS A .rows p1) .asked p2) .answers p3 .self = a from M.as] at L11
    refine b_cons <| s_fld <| e_lstM <| a_nil ⟨Nat.zero_le _, fun p4 hp4 => ?_⟩
    have L12 := L11.new (ok' := fun t => (((okQ kk (kk + 1) 0 t ∨ t = .rows) ∨ t = .asked) ∨ t = .answers) ∨ t = .ends) hp4 (s := .ends) (fun z => by rcases z with ((z | z) | z) | z; exact z; cases z; cases z; cases z) (.lst []) (fun t => Iff.rfl)
    have here12 := L12.here .self (.inl (.inl (.inl (.inl trivial))))
    rw [show updS (updS (updS (updS A .rows p1) .asked p2) .answers p3) .ends p4 .self = a from M.as] at here12
    refine e_var 0 rfl ⟨_, CNet, _, rfl, here12, NC.cls, NC.na "ends" (by decide), by rw [← hF]; exact Nat.le_of_ble_eq_true rfl, ?_⟩
    have L13 := L12.set (s := .self) (.inl (.inl (.inl (.inl trivial)))) (.ins CNet (putD "ends" (.ref p4) (putD "answers" (.ref p3) (putD "asked" (.ref p2) (putD "rows" (.ref p1) F)))))
    rw [show updS (updS (updS (updS A .rows p1) .asked p2) .answers p3) .ends p4 .self = a from M.as] at L13
    refine b_cons <| s_fld <| e_lstM <| a_nil ⟨Nat.zero_le _, fun p5 hp5 => ?_⟩
    have L14 := L13.new (ok' := fun t => ((((okQ kk (kk + 1) 0 t ∨ t = .rows) ∨ t = .asked) ∨ t = .answers) ∨ t = .ends) ∨ t = .order) hp5 (s := .order) (fun z => by rcases z with (((z | z) | z) | z) | z; exact z; cases z; cases z; cases z; cases z) (.lst []) (fun t => Iff.rfl)
    have here14 := L14.here .self (.inl (.inl (.inl (.inl (.inl trivial)))))
    rw [show updS (updS (updS (updS (updS A .rows p1) .asked p2) .answers p3) .ends p4) .order p5 .self = a from M.as] at here14
    refine e_var 0 rfl ⟨_, CNet, _, rfl, here14, NC.cls, NC.na "order" (by decide), by rw [← hF]; exact Nat.le_of_ble_eq_true rfl, ?_⟩
    have L15 := L14.set (s := .self) (.inl (.inl (.inl (.inl (.inl trivial))))) (.ins CNet (putD "order" (.ref p5) (putD "ends" (.ref p4) (putD "answers" (.ref p3) (putD "asked" (.ref p2) (putD "rows" (.ref p1) F))))))
    rw [show updS (updS (updS (updS (updS A .rows p1) .asked p2) .answers p3) .ends p4) .order p5 .self = a from M.as] at L15
    refine b_cons <| s_fld <| e_lstM <| a_nil ⟨Nat.zero_le _, fun p6 hp6 => ?_⟩
    have L16 := L15.new (ok' := Slot.ok kk) hp6 (s := .pairs) (fun z => by rcases z with ((((z | z) | z) | z) | z) | z; exact z; cases z; cases z; cases z; cases z; cases z) (.lst []) (fun t => by cases t <;> simp [okQ, Slot.ok] <;> omega)
    have here16 := L16.here .self trivial
    rw [show updS (updS (updS (updS (updS (updS A .rows p1) .asked p2) .answers p3) .ends p4) .order p5) .pairs p6 .self = a from M.as] at here16
    refine e_var 0 rfl ⟨_, CNet, _, rfl, here16, NC.cls, NC.na "pairs" (by decide), by rw [← hF]; exact Nat.le_of_ble_eq_true rfl, ?_⟩
    have L17 := L16.set (s := .self) trivial (.ins CNet (putD "pairs" (.ref p6) (putD "order" (.ref p5) (putD "ends" (.ref p4) (putD "answers" (.ref p3) (putD "asked" (.ref p2) (putD "rows" (.ref p1) F)))))))
    rw [show updS (updS (updS (updS (updS (updS A .rows p1) .asked p2) .answers p3) .ends p4) .order p5) .pairs p6 .self = a from M.as] at L17
    have here17 := L17.here .self trivial
    rw [show updS (updS (updS (updS (updS (updS A .rows p1) .asked p2) .answers p3) .ends p4) .order p5) .pairs p6 .self = a from M.as] at here17
    refine b_one <| s_fld <| e_int <| e_var 0 rfl ⟨_, CNet, _, rfl, here17, NC.cls, NC.na "now" (by decide), by rw [← hF]; exact Nat.le_of_ble_eq_true rfl, ?_⟩
    have L18 := L17.set (s := .self) trivial (.ins CNet (putD "now" (.int 0) (putD "pairs" (.ref p6) (putD "order" (.ref p5) (putD "ends" (.ref p4) (putD "answers" (.ref p3) (putD "asked" (.ref p2) (putD "rows" (.ref p1) F))))))))
    rw [show updS (updS (updS (updS (updS (updS A .rows p1) .asked p2) .answers p3) .ends p4) .order p5) .pairs p6 .self = a from M.as] at L18
    subst hF
    refine k (updS (updS (updS (updS (updS (updS A .rows p1) .asked p2) .answers p3) .ends p4) .order p5) .pairs p6) _ M.as ⟨L18.inj, fun t ht => ?_⟩ (fun t ht hn => ?_) (fun b hb hn => ?_)
    · rw [L18.here t ht]
      cases t with
      | self => show some (MO.ins CNet _) = some (MO.ins CNet _); rw [show pa = updS (updS (updS (updS (updS (updS A .rows p1) .asked p2) .answers p3) .ends p4) .order p5) .pairs p6 .am from M.am.symm]; rfl
      | am => exact congrArg some M.hm
      | lv l => exact congrArg some (M.hl l (Nat.lt_succ_of_le ht))
      | ln l j => exact congrArg some (M.hn l j (.inl ⟨Nat.lt_succ_of_le ht.1, ht.2⟩))
      | _ => rfl
    · have h0 := L18.old t ht
      by_cases e : updS (updS (updS (updS (updS (updS A .rows p1) .asked p2) .answers p3) .ends p4) .order p5) .pairs p6 t = a
      · exact absurd (L18.inj t .self ht trivial (e.trans M.as.symm)) hn
      · have z : G0 (updS (updS (updS (updS (updS (updS A .rows p1) .asked p2) .answers p3) .ends p4) .order p5) .pairs p6 t) = G (updS (updS (updS (updS (updS (updS A .rows p1) .asked p2) .answers p3) .ends p4) .order p5) .pairs p6 t) := if_neg e
        rw [← z]; exact h0
    · have z : G0 b = G b := if_neg hn
      rw [L18.rest b fun s hs e => ?_, z]
      have := L18.old s hs
      rw [← e, z] at this
      exact hb this
def S_Net_beat (CNet : Addr) : AS := fun ds G R => ∃ A N lo, ∃ lost : List (Nat × Nat), ds = [.ref (A .self), lo] ∧ (lo = .non ∧ lost = [] ∨ lo = .tup (lost.map dPl) ∧ ∀ p ∈ lost, placeOk N.k p.1 p.2) ∧ lost.length ≤ 1000 ∧ NetAt CNet G A N ∧ Good N ∧ ∀ A2 G', NetAt CNet G' A2 (N.goOn lost) → Good (N.goOn lost) → (N.goOn lost).k = N.k → Own N.k G A G' A2 → R (.tup ((N.goOn lost).tells.map dTell)) G'
theorem sc_Net_beat : FnScope ["self", "lost", "ends", "some", "number", "end"] ["self", "lost"] (defScope (inClass (top 46) 5)) := ⟨rfl, rfl, rfl, by decide +kernel, rfl, by decide +kernel, by decide +kernel⟩
theorem f_Net_beat (T : Blt K mg) (NC : NetC K CNet) (dt : DatM K CNet d_Net_beat "beat") (c1 : Mn P w K mg base 4 CNet "want_lost" ["self", "lost"] [] (S_Net_want_lost CNet)) (c2 : Mn P w K mg base 7 CNet "go_on" ["self", "lost"] [] (S_Net_go_on CNet)) :
    Mn P w K mg base 8 CNet "beat" ["self", "lost"] [] (S_Net_beat CNet) ∧ Mn P w K mg base 8 CNet "beat" ["self", "lost"] [.non] (S_Net_beat CNet) := by
  obtain ⟨f, fd, F, hm⟩ := dt
  obtain ⟨f1, q1, m1⟩ := c1
  obtain ⟨f2, q2, m2⟩ := c2
  have ok : FnOk P w K mg base CX0 8 f fd ["self", "lost"] (spOf K (S_Net_beat CNet)) := by
    refine ok_def F sc_Net_beat (fun ds G R h => ?_) (fun cdv A outer s H E hr ds G R h => ?_)
    · obtain ⟨A, N, lo, lost, rfl, _⟩ := h
      rfl
    · obtain ⟨A', N, lo, lost, rfl, hlo, hll, NA, g, k⟩ := h
      have go : ∀ d : D, d = .tup (lost.map dPl) → S_Net_go_on CNet [.ref (A' .self), d] G fun _ G1 => SB (cxOf CX0 P w K mg base ["self", "lost", "ends", "some", "number", "end"] "Net.beat" (defScope (inClass (top 46) 5)) f cdv A outer s H E).nox
          ((defBody (inClass (top 46) 5)).drop 2) (startD ["self", "lost", "ends", "some", "number", "end"] [.ref (A' .self), lo]) G1 ⟨fun _ G' => R .non G', fun d G1 => ∃ G2, Sub G2 G1 ∧ R d G2, fun _ _ => False, fun _ _ => False⟩ := fun d ed => by
        subst ed
        refine ⟨A', N, lost, rfl, NA, g, fun A2 G' na gd kk ow => ?_⟩
        have k := k A2 G' na gd kk ow
        have sA : A2 .self = A' .self := ow.self
        generalize N.goOn lost = M at na gd kk k
        refine b_cons <| s_set 2 sc_Net_beat.nd <| e_fld <| e_var 0 (show _ = some (some (D.ref (A2 .self))) from by rw [sA]; rfl) <| fl_ends NC na ?_
        have hmany := gd.many
        refine b_cons <| s_setLc 3 [("number", 4), ("end", 5)] sc_Net_beat.nd (blkOk_by rfl) (by intro _ _ _ _ _; refine pg2 (i := 4) (j := 5) (K := K) ?_ ?_ ?_ ?_ ?_ ?_ ?_ ?_ ?_ <;> first | exact sc_Net_beat.nd | rfl | exact Or.inl rfl | exact Or.inr rfl) (sw_true rfl rfl rfl (by decide +kernel)) <| n_enum T.enum <| e_var 2 rfl ⟨_, .ref (na.here .ends trivial), ?_⟩
        refine lc_filter M.ripe (fun i => .int (i : Nat)) (fun i => [(4, .int (i : Nat)), (5, at0 (M.asks.map fun r => dON (r.res.map (·.2))) i)]) (na.here .ends trivial) (by rw [List.length_map]; omega) (by intro i u hu; simp at hu; rcases hu with e | e <;> subst e <;> simp) (fun i _ => tg_tup (tgs_cons tg_name (tgs_cons tg_name tgs_nil))) (fun i hi s H0 C cl fp => ?_) (fun i hi _ s H0 C cl fp => e_var 4 rfl ⟨rfl, rfl⟩) ?_
        · rw [List.length_map] at hi
          rw [at0_map hi]
          have er : M.ripe i = match M.asks[i].res with
            | none => false
            | some (_, e) => decide (e + M.k = M.now) := by unfold NetS.ripe; rw [List.getElem?_eq_getElem hi]; rfl
          refine t_w <| w_and <| t_cmp <| e_var 5 rfl <| e_non <| o_isnot ⟨_, rfl, ?_⟩
          cases q : M.asks[i].res with
          | none =>
            rw [q] at er
            exact iteFF ⟨er.symm, rfl⟩
          | some z =>
            rw [q] at er
            refine iteTT <| w_and1 <| t_cmp <| e_bin <| e_var 5 rfl <| e_fld <| e_var 0 (show _ = some (some (D.ref (A2 .self))) from by rw [sA]; rfl) <| fl_depth NC na <| o_add <| e_fld <| e_var 0 (show _ = some (some (D.ref (A2 .self))) from by rw [sA]; rfl) <| fl_now NC na <| o_eqI ⟨_, rfl, ?_, rfl⟩
            rw [er]
            exact decide_eq_decide.mpr (by dsimp only; omega)
        rw [List.length_map]
        generalize hL : (List.range M.asks.length).filter M.ripe = L
        have hm : ∀ x ∈ L, x < M.asks.length := fun x hx => by rw [← hL] at hx; exact List.mem_range.mp (List.mem_filter.mp hx).1
        have hl : L.length ≤ 40 := by rw [← hL]; have := List.length_filter_le M.ripe (List.range M.asks.length); rw [List.length_range] at this; omega
        have kt : M.tells = L.map fun n => (n, M.ansAt n) := by rw [← hL]; rfl
        refine b_one <| s_ret <| e_callTy T.tup bt_tup <| a_cons <| e_lc [("number", 4)] sc_Net_beat.nd (blkOk_by rfl) (fun _ _ _ _ _ => (pg_name (i := 4) sc_Net_beat.nd rfl (by first | exact Or.inl rfl | exact Or.inr rfl))) <| n_list <| e_var 3 rfl ⟨_, .lst, ?_⟩
        rw [List.length_map]
        refine lc_map (fun i => dTell (L.getD i 0, M.ansAt (L.getD i 0))) (fun i => [(4, at0 (L.map fun i => D.int (i : Nat)) i)]) trivial (by omega) (by simp) (fun i _ => tg_name) (fun i hi s H0 C cl fp => ?_) ?_
        · rw [at0_map hi]
          have e0 : L.getD i 0 = L[i] := by rw [List.getD_eq_getElem?_getD, List.getElem?_eq_getElem hi]; rfl
          rw [e0]
          have hx := hm _ (List.getElem_mem hi)
          refine e_tup <| a_cons <| e_var 4 rfl <| a_cons <| e_ix <| e_fld <| e_var 0 (show _ = some (some (D.ref (A2 .self))) from by rw [sA]; rfl) <| fl_answers NC na <| e_var 4 rfl <| i_at (na.here .answers trivial) (List.getElem?_eq_getElem hx) <| a_nil ⟨Nat.le_of_ble_eq_true rfl, ?_, rfl⟩
          show D.tup [_, _] = D.tup [_, dO (M.ansAt L[i])]
          have e1 : M.ansAt L[i] = (M.asks[L[i]]).res.map (·.1) := by unfold NetS.ansAt; rw [List.getElem?_eq_getElem hx]; rfl
          rw [e1]
        · rw [map_range_eq L _ (fun n => dTell (n, M.ansAt n)) fun i x e => by rw [List.getD_eq_getElem?_getD, e]; rfl]
          refine a_nil <| c_tupL .lst ⟨_, Sub.refl _, ?_⟩
          rw [kt, List.map_map] at k
          exact k
      refine b_cons <| s_if <| t_cmp <| e_var 1 rfl <| e_non <| o_isnot ⟨_, rfl, ?_⟩
      rcases hlo with ⟨rfl, rfl⟩ | ⟨rfl, hpl⟩
      · refine iteFF <| b_nil ?_
        exact b_cons <| s_expr <| e_meth NC.cls m2 q2 (hr.mono (by decide)) <| e_var 0 rfl ⟨_, _, rfl, NA.here .self trivial, rfl, a_cons <| e_ifexp <| t_cmp <| e_var 1 rfl <| e_non <| o_is ⟨_, rfl, iteTT <| e_tup <| a_nil ⟨Nat.zero_le _, a_nil (go _ rfl)⟩⟩⟩
      · refine iteTT <| b_one <| s_expr <| e_meth NC.cls m1 q1 (hr.mono (by decide)) <| e_var 0 rfl ⟨_, _, rfl, NA.here .self trivial, rfl, a_cons <| e_var 1 rfl <| a_nil ⟨A', N, lost, rfl, NA, g.k4, hll, hpl, ?_⟩⟩
        exact b_cons <| s_expr <| e_meth NC.cls m2 q2 (hr.mono (by decide)) <| e_var 0 rfl ⟨_, _, rfl, NA.here .self trivial, rfl, a_cons <| e_ifexp <| t_cmp <| e_var 1 rfl <| e_non <| o_is ⟨_, rfl, iteFF <| e_var 1 rfl <| a_nil (go _ rfl)⟩⟩
  obtain ⟨d0, hv0, hb0⟩ := FunD.binds1 (ps := ["self", "lost"]) F 2 1 (by exact List.cons_ne_nil _ _) rfl (fun _ _ _ _ _ _ _ us its h1 h2 => match us, its, h1, h2 with | [_, _], [_], _, _ => ⟨_, rfl, rfl⟩)
  obtain ⟨d1, hv1, hb1⟩ := FunD.binds1 (ps := ["self", "lost"]) F 1 0 (by exact List.cons_ne_nil _ _) rfl (fun _ _ _ _ _ _ _ us its h1 h2 => match us, its, h1, h2 with | [_], [_], _, _ => ⟨_, rfl, rfl⟩)
  exact ⟨⟨f, ⟨⟨fd, [], d0, ok, hb0, hv0, fun _ => Iss.nil⟩, F.kp⟩, hm⟩, ⟨f, ⟨⟨fd, [.non], d1, ok, hb1, hv1, fun _ => Iss.one Is.non⟩, F.kp⟩, hm⟩⟩
end
end J
namespace J
open PySem PySem.Spec PyProof.Rows L2
def every2 {α : Type} : List α → List α
  | [] => []
  | [x] => [x]
  | x :: _ :: r => x :: every2 r
theorem every2_len {α : Type} : ∀ xs : List α, (every2 xs).length ≤ xs.length
  | [] => Nat.le_refl _
  | [x] => Nat.le_refl _
  | x :: y :: r => by
    show (every2 r).length + 1 ≤ r.length + 1 + 1
    have := every2_len r
    omega
theorem pick2 {α : Type} (xs : List α) : ∀ (m a : Nat), a + m = xs.length → ((List.range ((m + 1) / 2)).map (fun k => a + 2 * k)).filterMap (fun i => xs[i]?) = every2 (xs.drop a)
  | 0, a, h => by
    have e : xs.drop a = [] := List.drop_eq_nil_iff.mpr (by omega)
    rw [e]
    rfl
  | 1, a, h => by
    have e : xs.drop a = [xs[a]'(by omega)] := by
      rw [List.drop_eq_getElem_cons (by omega)]
      congr 1
      exact List.drop_eq_nil_iff.mpr (by omega)
    rw [e]
    show (match xs[a + 2 * 0]? with | none => [] | some b => [b]) = _
    rw [show a + 2 * 0 = a by omega, List.getElem?_eq_getElem (by omega)]
    rfl
  | m + 2, a, h => by
    have e : xs.drop a = xs[a]'(by omega) :: xs[a + 1]'(by omega) :: xs.drop (a + 2) := by
      rw [List.drop_eq_getElem_cons (by omega), List.drop_eq_getElem_cons (by omega)]
    have e2 : (m + 2 + 1) / 2 = (m + 1) / 2 + 1 := by omega
    rw [e, e2, List.range_succ_eq_map, List.map_cons, List.map_map, List.filterMap_cons]
    rw [show a + 2 * 0 = a by omega, List.getElem?_eq_getElem (show a < xs.length by omega)]
    show _ :: _ = _ :: every2 (xs.drop (a + 2))
    congr 1
    rw [← pick2 xs m (a + 2) (by omega)]
    congr 1
    apply List.map_congr_left
    intro k _
    show a + 2 * (k + 1) = a + 2 + 2 * k
    omega
theorem slicePick2 (its : List Value) (lo : Nat) : slicePick its.toArray (some (lo : Int)) none (some 2) = (every2 (its.drop lo)).toArray := by
  unfold slicePick
  congr 1
  have hb : sliceBounds (some (lo : Int)) none (some 2) its.toArray.size = (((min lo its.length : Nat) : Int), ((its.length : Nat) : Int), 2) := by
    unfold sliceBounds
    simp only [Option.getD_some, List.size_toArray, show (2 : Int) > 0 from by decide, if_true]
    refine Prod.ext ?_ rfl
    show max 0 (min (if (lo : Int) < 0 then (lo : Int) + its.length else (lo : Int)) (its.length : Int)) = ((min lo its.length : Nat) : Int)
    rw [if_neg (by omega)]
    omega
  rw [hb]
  show (sliceRange ((min lo its.length : Nat) : Int) ((its.length : Nat) : Int) 2).filterMap (fun i => its.toArray[i]?) = _
  have hr : sliceRange ((min lo its.length : Nat) : Int) ((its.length : Nat) : Int) 2 = (List.range ((its.length - min lo its.length + 1) / 2)).map (fun k => min lo its.length + 2 * k) := by
    unfold sliceRange
    rw [if_pos (by decide)]
    have ec : (if ((min lo its.length : Nat) : Int) < ((its.length : Nat) : Int) then ((its.length : Nat) - ((min lo its.length : Nat) : Int) + 2 - 1) / 2 else 0).toNat = (its.length - min lo its.length + 1) / 2 := by
      split <;> omega
    dsimp only
    rw [ec]
    apply List.map_congr_left
    intro k _
    omega
  rw [hr]
  have hd : its.drop lo = its.drop (min lo its.length) := by
    by_cases h : lo ≤ its.length
    · rw [Nat.min_eq_left h]
    · rw [List.drop_eq_nil_iff.mpr (by omega), List.drop_eq_nil_iff.mpr (by omega)]
  rw [hd, ← pick2 its (its.length - min lo its.length) (min lo its.length) (by omega)]
  congr 1
  funext i
  simp
theorem Vals.every2 : ∀ {xs : List V} {its : List Value}, Vals xs its → Vals (J.every2 xs) (J.every2 its)
  | _, _, .nil => .nil
  | _, _, .cons r .nil => .cons r .nil
  | _, _, .cons r (.cons _ t) => .cons r (Vals.every2 t)
theorem Vals.dropN : ∀ {xs : List V} {its : List Value} (n : Nat), Vals xs its → Vals (xs.drop n) (its.drop n) := fun n h => h.drop n
theorem Iss.every2 {K : PySem.W.Frag} {I : Hp} : ∀ {ds : List D} {vs : List V}, Iss K I ds vs → Iss K I (J.every2 ds) (J.every2 vs)
  | [], _, h => by rw [h.nil_eq]; exact Iss.nil
  | [d], _, h => by
    obtain ⟨v, r, rfl, h1, h2⟩ := h.uncons
    rw [h2.nil_eq]
    exact Iss.one h1
  | d :: e :: ds, _, h => by
    obtain ⟨v, r, rfl, h1, h2⟩ := h.uncons
    obtain ⟨v2, r2, rfl, h3, h4⟩ := h2.uncons
    exact Iss.cons h1 (Iss.every2 h4)
def tStep2 (K : PySem.W.Frag) (lo : Nat) (te : TE) : TE := fun σ H Q => te σ H fun x H1 => ∃ a xs, x = .ref a ∧ SqL K H1 a xs ∧ ∀ p, H1 p = none → Q (.ref p) (upd H1 p (.lst (every2 (xs.drop lo))))
section
variable {X : Cx}
theorem pe_step2 {e : Expr} {te : TE} {lo k k2 : Nat} {i : Int} (hlo : i = (lo : Int)) {p1 p2 p3 pos : Pos} (he : PE X e te) : PE X (.Subscript e (.Slice (some (.Constant (.int i) k p1)) none (some (.Constant (.int 2) k2 p2)) p3) pos) (tStep2 X.K lo te) := by
  subst hlo
  refine ⟨fun pins s σ H Q I h => ?_⟩
  refine Subscript_ (thn (he.run pins s σ H _ I h) fun v s1 ⟨x, H1, I1, r1, q1⟩ => ?_)
  obtain ⟨a, xs, ex, hx, q⟩ := q1
  subst ex
  cases r1
  have hst : PO X (some (.Constant (.int 2) k2 p2)) (tPart (tC (.int 2))) := po_some pe_int
  have hsl : PO X (some (.Constant (.int (lo : Int)) k p1)) (tPart (tC (.int (lo : Int)))) := po_some pe_int
  refine wpAny_Slice (thn (hsl.run pins s1 σ H1 (fun o H2 => o = some (lo : Int) ∧ H2 = H1) I1 ⟨_, rfl, rfl, rfl⟩) fun vl s2 ⟨l, H2, I2, pl, el, e2⟩ => ?_)
  subst el e2
  refine thn (po_none.run pins s2 σ H2 (fun o H3 => o = none ∧ H3 = H2) I2 ⟨rfl, rfl⟩) fun vu s3 ⟨u, H3, I3, pu, eu, e3⟩ => ?_
  subst eu e3
  refine thn (hst.run pins s3 σ H3 (fun o H4 => o = some 2 ∧ H4 = H3) I3 ⟨_, rfl, rfl, rfl⟩) fun vs s4 ⟨o, H4, I4, ps, eo, e4⟩ => ?_
  subst eo e4
  have I5 : Inv X pins σ H4 { s4 with heap := s4.heap.push { cls := .type "slice", data := .fields #[vl, vu, vs] } } := I4.kept (t' := s4.toks) fun b ob q => Heap.get?_push_of_some _ q
  obtain ⟨its, r, ht, hz⟩ := I5.list hx
  have hlen := r.length
  show wpAny (model X.prog X.w) X.A (subscriptTail e (.Slice (some (.Constant (.int (lo : Int)) k p1)) none (some (.Constant (.int 2) k2 p2)) p3) (.ref a) (.ref s4.heap.objs.size)) (EP X pins σ Q) X.xe { s4 with heap := s4.heap.push { cls := .type "slice", data := .fields #[vl, vu, vs] } }
  refine tail_any (ops := [.ref a, .ref s4.heap.objs.size]) ht.isList.typeIs (PySem.slot_list_getitem.lookup) ?_ (by with_unfolding_all rfl)
  refine wpAny_getItem_list_slice ht.isList (Heap.IsSliceOf.new _ vl vu vs) pl pu ps (by decide) ?_ (by rw [List.size_toArray]; omega)
  rw [slicePick2]
  refine ⟨.ref _, _, I5.laid (t' := s4.toks) (o := .lst (every2 (xs.drop lo))) (fun b ob q => Heap.get?_push_of_some _ q) (Nat.le_refl _) ?_, rfl, q _ (I5.hok.fresh (Nat.le_refl _))⟩
  exact ⟨by have := every2_len (xs.drop lo); rw [List.length_drop] at this; omega, _, 0, Vals.every2 (r.drop lo), Heap.get?_push_size _ rfl⟩
/-- d.update(e), int and str keys -/
def rUpd : V → List V → Hp → VK → Prop := fun x xs H Q => ∃ a b kvs more, x = .ref a ∧ xs = [.ref b] ∧ a ≠ b ∧ H a = some (.dK kvs) ∧ H b = some (.dK more) ∧ kvs.length + more.length ≤ sizeLine ∧ Q .non (upd H a (.dK (mergeK kvs more)))
theorem mt_update : MtR X "dict.update" rUpd := by
  intro pins s σ H x xs v us Q I rx rs h
  obtain ⟨a, b, kvs, more, rfl, rfl, hab, h1, h2, hz, q⟩ := h
  cases rx
  cases rs with
  | cons r rr =>
    cases rr
    cases r
    obtain ⟨z, hd, vs, rel, dd⟩ := dk_of I.hok h1
    obtain ⟨z2, hd2, ws, rel2, dd2⟩ := dk_of I.hok h2
    refine call_meetsIn PySem.F.slot_dict_update dd.typeIs PySem.F.entry_dict_update (PySem.F.args_dict_update_2 _ _) (meets_dict_update (mixKind X.prog X.w) a b hab hd2) ⟨vs, ws, dd, dd2, by rw [← rel.length, ← rel2.length]; exact hz, fun h' dd' dd2' hs => ?_⟩
    have he : ∃ q, h'.get? a = some q := let ⟨q, _, _, hq, _⟩ := dd'; ⟨q, hq⟩
    have hm : (mergeK kvs more).length ≤ sizeLine := Nat.le_trans (length_mergeK more kvs) hz
    exact ⟨.non, _, d_write (t' := s.toks) I (by rw [h1]; exact True.intro) hs he (dk_new hm hd (KV.merge rel2 rel) dd'), rfl, q⟩
end
section
variable {X : Cx} {Γ : SG} {G : Gp} {R : D → Gp → Prop} {d e : D} {ds es : List D} {a : Expr} {pos : Pos}
theorem e_step2 {lo k k2 : Nat} {i : Int} (hlo : i = (lo : Int)) {p1 p2 p3 : Pos} (h : EE X a Γ G fun d G1 => ∃ ds, Lv G1 d ds ∧ R (.lst (every2 (ds.drop lo))) G1) : EE X (.Subscript a (.Slice (some (.Constant (.int i) k p1)) none (some (.Constant (.int 2) k2 p2)) p3) pos) Γ G R := fun σ I H rp hG =>
  toE (pe_step2 hlo pe_s) ((h σ I H rp hG).imp fun v H1 ⟨I1, G1, d, g1, s1, i1, ds, l, r⟩ => by
    obtain ⟨b, xs, rfl, h1, h2⟩ := l.at g1 i1
    refine ⟨b, xs, rfl, SqL.of h1, fun p hp => ?_⟩
    have z := g1.newI hp (.lst (every2 (xs.drop lo)))
    exact ⟨_, G1, _, z.1, s1.trans z.2, Is.lst upd_same (Iss.mono z.2.ex _ (Iss.every2 (h2.drop lo))), r⟩)
def mergeKD (kvs more : List (Key × D)) : List (Key × D) := more.foldl (fun acc kv => putKD acc kv.1 kv.2) kvs
theorem IsF.merge {K : PySem.W.Frag} {I : Hp} : ∀ {more : List (Key × D)} {rs : List (Key × V)} {kvs : List (Key × D)} {vs : List (Key × V)}, IsF K I more rs → IsF K I kvs vs → IsF K I (mergeKD kvs more) (mergeK vs rs)
  | _, _, _, _, .nil, h => h
  | (k, d) :: _, _, kvs, vs, .cons (b := (k', v)) z t, h => by
    obtain ⟨z1, z2⟩ := z
    have z1 : k = k' := z1
    subst z1
    show IsF K I (mergeKD (putKD kvs k d) _) (mergeK (L2.putK vs k v) _)
    exact IsF.merge t (IsF.putK z2 h)
theorem m_update {q r : Addr} {kvs more : List (Key × D)} (hq : G q = some (.dK kvs)) (hr : G r = some (.dK more)) (ne : q ≠ r) (hl : kvs.length + more.length ≤ 100000) (k : R .non (gup G q (.dK (mergeKD kvs more)))) : MM X "dict.update" (.ref q) [.ref r] G R := fun I H v vs hg hx hi => by
  obtain ⟨y, rfl, h1⟩ := hi.sole
  obtain ⟨_, o, h2, xs, rfl, h3⟩ := hg.mu _ _ hq
  obtain ⟨_, o2, h4, ys, rfl, h5⟩ := hg.mu _ _ hr
  have z := hg.write (m := .dK (mergeKD kvs more)) hq (o := .dK (mergeK xs ys)) ⟨_, rfl, IsF.merge h5 h3⟩
  rw [h1.ref_eq]
  exact toM mt_update ⟨q, r, xs, ys, hx.ref_eq, rfl, ne, h2, h4, Nat.le_trans (by rw [← h3.len, ← h5.len]; exact hl) (show 100000 ≤ sizeLine by decide), I, _, .non, z.1, z.2, Is.non, k⟩
/-! lists that stand in the module for ever -/
theorem i_ls {p : Addr} {xs : List Str} {n : Nat} {x : Str} (h : ∀ H, SqL X.K H p (xs.map V.str)) (hx : xs[n]? = some x) (r : R (.str x) G) : II X (.ref p) (.int n) G R := fun I H v w hg hx' hy =>
  toI ix_list ⟨p, _, n, .str x, hx'.ref_eq, hy.int_eq, h H, atI_nat (by rw [List.getElem?_map, hx]; rfl), Po.here hg Is.str r⟩
theorem o_notInLs {p : Addr} {xs : List V} {x : V} (h : ∀ H, SqL X.K H p xs) (hf : xs.all flatV = true) (r : R (.bl (!inV x xs)) G) (h1 : fv d = some x) : OO X (compareOp .NotIn) d (.ref p) G R := fun I H v w hg hx hy => by
  rw [fv_eq h1 hx]
  exact toO op_notIn_seq ⟨p, xs, hy.ref_eq, .inl (h H), fv_flat h1, hf, Po.here hg (by show Is X.K I (.bl _) (.bl (if true = true then _ else _)); rw [if_pos rfl]; exact Is.bl) r⟩
theorem e_gR {x : Str} {p : Addr} (h : X.mg x = some (.ref p)) (r : R (.ref p) G) (hg : Gl X x := by rfl) (hdb : (x == ("__debug__" : Str)) = false := by decide) : EE X (.Name x pos) Γ G R :=
  e_glob (v := .ref p) h rfl (fun _ => Is.ref) r hg hdb
end
end J
namespace J
open PySem PySem.Spec PyProof.Rows TL
def num (i : Int) : Str := Str.ofString (toString i)
def sp : Str := " "
def smc : Str := "; "
theorem tl_sp : tl sp = [32] := by decide +kernel
theorem tl_smc : tl smc = [59, 32] := by decide +kernel
/-- signs that stand in a word, in a text -/
def WordS (w : Str) : Prop := tl w ≠ [] ∧ ∀ c ∈ tl w, c = 45 ∨ (48 ≤ c ∧ c ≤ 57) ∨ (97 ≤ c ∧ c ≤ 122)
theorem num_neg {i : Int} (h : i < 0) : tl (num i) = 45 :: numL i.natAbs := by
  unfold num
  rw [PyProof.Rows.toString_neg h, tl_ofString, String.toList_append, List.map_append]
  have e : (0 - i) = ((i.natAbs : Nat) : Int) := by omega
  have t := tl_num i.natAbs
  rw [tl_ofString] at t
  rw [e, t]
  rfl
theorem num_nat (n : Nat) : tl (num (n : Int)) = numL n := tl_num n
theorem num_cases (i : Int) : (0 ≤ i ∧ tl (num i) = numL i.natAbs) ∨ (i < 0 ∧ tl (num i) = 45 :: numL i.natAbs) := by
  by_cases h : 0 ≤ i
  · left
    refine ⟨h, ?_⟩
    have e : i = ((i.natAbs : Nat) : Int) := by omega
    rw [e, num_nat]
    rfl
  · right
    exact ⟨by omega, num_neg (by omega)⟩
theorem num_word (i : Int) : WordS (num i) := by
  have d := numL_digits i.natAbs
  rcases num_cases i with ⟨_, e⟩ | ⟨_, e⟩
  · exact ⟨by rw [e]; exact numL_ne _, fun c hc => by rw [e] at hc; exact .inr (.inl (d c hc))⟩
  · refine ⟨by rw [e]; exact List.cons_ne_nil _ _, fun c hc => ?_⟩
    rw [e] at hc
    rcases List.mem_cons.mp hc with z | z
    · exact .inl z
    · exact .inr (.inl (d c z))
theorem numL_len600 {n : Nat} (h : n < 10 ^ 600) : (numL n).length ≤ 600 := numL_len (by decide) h
theorem num_len {i : Int} (h : i.natAbs < 10 ^ 600) : (num i).length ≤ 601 := by
  have z := numL_len600 h
  rw [len_tl]
  rcases num_cases i with ⟨_, e⟩ | ⟨_, e⟩ <;> rw [e]
  · omega
  · rw [List.length_cons]; omega
/-- int(str(i)) -/
theorem int_of_num {i : Int} (h : i.natAbs < 10 ^ 600) : PySem.intText? (num i) = some i := by
  have z := numL_len600 h
  rcases num_cases i with ⟨h0, e⟩ | ⟨h0, e⟩
  · have e1 : i = ((i.natAbs : Nat) : Int) := by omega
    rw [e1]
    exact int_num (by show (numL (Int.natAbs ((i.natAbs : Nat) : Int))).length ≤ 4300; rw [Int.natAbs_natCast]; omega)
  · have t := PySem.intText_neg (x := num i) (cs := numL i.natAbs) e (numL_digits _) (numL_ne _) (by rw [len_tl, e, List.length_cons]; omega)
    rw [t, numL_val]
    congr 1
    omega
/-! ### rows of words -/
def jn (ws : List Str) : Str := Str.join sp ws
theorem jn_nil : jn [] = Str.empty := rfl
theorem jn_one (w : Str) : jn [w] = w := rfl
theorem jn_cons (w x : Str) (r : List Str) : jn (w :: x :: r) = w ++ sp ++ jn (x :: r) := rfl
theorem join_jn (ws : List Str) : Txt.join sp ws = jn ws := join_eq sp ws
theorem wordS_free {w : Str} (h : WordS w) : 32 ∉ tl w ∧ 59 ∉ tl w := ⟨fun z => by have := h.2 _ z; omega, fun z => by have := h.2 _ z; omega⟩
theorem sapp_assoc (a b c : Str) : a ++ b ++ c = a ++ (b ++ c) := ext_tl (by rw [tl_append, tl_append, tl_append, tl_append, List.append_assoc])
theorem jn_app {a b : List Str} (ha : a ≠ []) (hb : b ≠ []) : jn (a ++ b) = jn a ++ sp ++ jn b := by
  induction a with
  | nil => exact absurd rfl ha
  | cons x r ih =>
    cases r with
    | nil =>
      cases b with
      | nil => exact absurd rfl hb
      | cons y s => rfl
    | cons y s =>
      show jn (x :: y :: (s ++ b)) = jn (x :: y :: s) ++ sp ++ jn b
      rw [jn_cons, jn_cons]
      have := ih (List.cons_ne_nil _ _)
      rw [List.cons_append] at this
      rw [this]
      simp only [sapp_assoc]
/-- rows of rows of words -/
theorem jn_flat : ∀ {xs : List (List Str)}, (∀ x ∈ xs, x ≠ []) → jn (xs.map jn) = jn xs.flatten
  | [], _ => rfl
  | [x], _ => by show jn x = jn (x ++ [].flatten); rw [List.flatten_nil, List.append_nil]
  | x :: y :: r, h => by
    have hy : (y :: r).flatten ≠ [] := by
      rw [List.flatten_cons]
      intro z
      exact h y (by simp) (List.append_eq_nil_iff.mp z).1
    rw [List.flatten_cons, jn_app (h x (by simp)) hy, ← jn_flat (xs := y :: r) fun z hz => h z (List.mem_cons_of_mem _ hz)]
    rfl
theorem split_jn {ws : List Str} (h0 : ws ≠ []) (h : ∀ w ∈ ws, 32 ∉ tl w) : Txt.split (jn ws) sp = ws := by
  rw [← join_jn]
  exact split_join (S := []) tl_sp (by decide +kernel) h0 h
/-- the last word of a text, a sign behind it -/
def semi : List Str → List Str
  | [] => []
  | [w] => [w ++ ";"]
  | w :: r => w :: semi r
theorem semi_ne {ws : List Str} (h : ws ≠ []) : semi ws ≠ [] := by
  cases ws with
  | nil => exact absurd rfl h
  | cons w r => cases r <;> exact List.cons_ne_nil _ _
theorem tl_sem : tl ";" = [59] := by decide +kernel
theorem semi_jn : ∀ {ws : List Str}, ws ≠ [] → jn (semi ws) = jn ws ++ ";"
  | [], h => absurd rfl h
  | [w], _ => rfl
  | w :: x :: r, _ => by
    have e := semi_jn (ws := x :: r) (List.cons_ne_nil _ _)
    obtain ⟨y, s, es⟩ : ∃ y s, semi (x :: r) = y :: s := by
      cases q : semi (x :: r) with
      | nil => exact absurd q (semi_ne (List.cons_ne_nil _ _))
      | cons y s => exact ⟨y, s, rfl⟩
    show jn (w :: semi (x :: r)) = _
    rw [es, jn_cons, jn_cons, ← es, e]
    simp only [sapp_assoc]
theorem semi_words : ∀ {ws : List Str}, (∀ w ∈ ws, WordS w) → ∀ w ∈ semi ws, tl w ≠ [] ∧ 32 ∉ tl w
  | [], _, w, h => by cases h
  | [x], hx, w, h => by
    rw [List.mem_singleton.mp h]
    have := hx x List.mem_cons_self
    refine ⟨?_, ?_⟩
    · rw [tl_append, tl_sem]; intro z; exact this.1 (List.append_eq_nil_iff.mp z).1
    · rw [tl_append, tl_sem]; intro z
      rcases List.mem_append.mp z with z | z
      · exact (wordS_free this).1 z
      · simp at z
  | x :: y :: r, hx, w, h => by
    rcases List.mem_cons.mp h with e | e
    · rw [e]; have := hx x List.mem_cons_self; exact ⟨this.1, (wordS_free this).1⟩
    · exact semi_words (ws := y :: r) (fun z hz => hx z (List.mem_cons_of_mem _ hz)) w e
/-- the words of texts that are parted by a sign and a blank -/
def allW : List (List Str) → List Str
  | [] => []
  | [x] => x
  | x :: r => semi x ++ allW r
theorem allW_ne : ∀ {xs : List (List Str)}, xs ≠ [] → (∀ x ∈ xs, x ≠ []) → allW xs ≠ []
  | [], h, _ => absurd rfl h
  | [x], _, h => h x List.mem_cons_self
  | x :: y :: r, _, h => fun z => semi_ne (h x List.mem_cons_self) (List.append_eq_nil_iff.mp z).1
theorem allW_jn : ∀ {xs : List (List Str)}, xs ≠ [] → (∀ x ∈ xs, x ≠ []) → Str.join smc (xs.map jn) = jn (allW xs)
  | [], h, _ => absurd rfl h
  | [x], _, _ => rfl
  | x :: y :: r, _, h => by
    have e := allW_jn (xs := y :: r) (List.cons_ne_nil _ _) fun z hz => h z (List.mem_cons_of_mem _ hz)
    show jn x ++ smc ++ Str.join smc ((y :: r).map jn) = jn (semi x ++ allW (y :: r))
    rw [jn_app (semi_ne (h x List.mem_cons_self)) (allW_ne (List.cons_ne_nil _ _) fun z hz => h z (List.mem_cons_of_mem _ hz)), semi_jn (h x List.mem_cons_self), e]
    have : smc = ";" ++ sp := by decide +kernel
    rw [this]
    simp only [sapp_assoc]
theorem allW_words : ∀ {xs : List (List Str)}, (∀ x ∈ xs, ∀ w ∈ x, WordS w) → ∀ w ∈ allW xs, tl w ≠ [] ∧ 32 ∉ tl w
  | [], _, w, h => by cases h
  | [x], hx, w, h => by have := hx x List.mem_cons_self w h; exact ⟨this.1, (wordS_free this).1⟩
  | x :: y :: r, hx, w, h => by
    rcases List.mem_append.mp h with e | e
    · exact semi_words (hx x List.mem_cons_self) w e
    · exact allW_words (xs := y :: r) (fun z hz => hx z (List.mem_cons_of_mem _ hz)) w e
theorem jn_free {ws : List Str} (h : ∀ w ∈ ws, 59 ∉ tl w) : 59 ∉ tl (jn ws) := by
  induction ws with
  | nil => intro z; cases z
  | cons w r ih =>
    cases r with
    | nil => exact h w List.mem_cons_self
    | cons x s =>
      rw [jn_cons, tl_append, tl_append, tl_sp]
      intro z
      rcases List.mem_append.mp z with z | z
      · rcases List.mem_append.mp z with z | z
        · exact h w List.mem_cons_self z
        · simp at z
      · exact ih (fun y hy => h y (List.mem_cons_of_mem _ hy)) z
theorem split_smc {xs : List (List Str)} (h0 : xs ≠ []) (h : ∀ x ∈ xs, ∀ w ∈ x, WordS w) : Txt.split (Str.join smc (xs.map jn)) smc = xs.map jn := by
  rw [← join_eq]
  refine split_join (s := 59) (S := [32]) tl_smc (by decide +kernel) (fun z => h0 (List.map_eq_nil_iff.mp z)) fun p hp => ?_
  obtain ⟨x, hx, rfl⟩ := List.mem_map.mp hp
  exact jn_free fun w hw => (wordS_free (h x hx w hw)).2
/-! ### deeds -/
def prt (p : Str) : Option Int → List (List Str)
  | none => []
  | some i => [[p, num i]]
def parts (x : Deed) : List (List Str) := prt "add" (if x.add ≠ 0 then some x.add else none) ++ (prt "low" x.low ++ prt "high" x.high)
def deedW (x : Deed) : List Str := if x = look then ["look"] else match x.low with
  | some l => if x.high = some l then ["set", num l] else (parts x).flatten
  | none => (parts x).flatten
def deedT (x : Deed) : Str := jn (deedW x)
theorem w_look : WordS "look" := by unfold WordS; decide +kernel
theorem w_set : WordS "set" := by unfold WordS; decide +kernel
theorem w_add : WordS "add" := by unfold WordS; decide +kernel
theorem w_low : WordS "low" := by unfold WordS; decide +kernel
theorem w_high : WordS "high" := by unfold WordS; decide +kernel
theorem prt_words {p : Str} (hp : WordS p) (o : Option Int) : ∀ x ∈ prt p o, ∀ w ∈ x, WordS w := by
  intro x hx w hw
  cases o with
  | none => cases hx
  | some i =>
    rw [List.mem_singleton.mp hx] at hw
    rcases List.mem_cons.mp hw with e | e
    · rw [e]; exact hp
    · rw [List.mem_singleton.mp e]; exact num_word i
theorem parts_words (x : Deed) : ∀ p ∈ parts x, ∀ w ∈ p, WordS w := by
  intro p hp w hw
  rcases List.mem_append.mp hp with z | z
  · exact prt_words w_add _ p z w hw
  · rcases List.mem_append.mp z with z | z
    · exact prt_words w_low _ p z w hw
    · exact prt_words w_high _ p z w hw
theorem flat_words {x : Deed} : ∀ w ∈ (parts x).flatten, WordS w := fun w hw => by
  obtain ⟨p, hp, hw⟩ := List.mem_flatten.mp hw
  exact parts_words x p hp w hw
theorem deedW_words (x : Deed) : ∀ w ∈ deedW x, WordS w := by
  intro w hw
  unfold deedW at hw
  split at hw
  · rw [List.mem_singleton.mp hw]; exact w_look
  · split at hw
    · split at hw
      · rcases List.mem_cons.mp hw with e | e
        · rw [e]; exact w_set
        · rw [List.mem_singleton.mp e]; exact num_word _
      · exact flat_words w hw
    · exact flat_words w hw
theorem parts_ne {x : Deed} (h : x ≠ look) : parts x ≠ [] := by
  obtain ⟨a, l, t⟩ := x
  intro e
  have e := List.append_eq_nil_iff.mp e
  have e2 := List.append_eq_nil_iff.mp e.2
  cases l with
  | some l => exact absurd e2.1 (List.cons_ne_nil _ _)
  | none =>
    cases t with
    | some t => exact absurd e2.2 (List.cons_ne_nil _ _)
    | none =>
      by_cases z : a = 0
      · subst z; exact h rfl
      · have e1 := e.1
        rw [if_pos z] at e1
        exact absurd e1 (List.cons_ne_nil _ _)
theorem prt_ne {p : Str} {o : Option Int} : ∀ x ∈ prt p o, x ≠ [] := by
  intro x hx
  cases o with
  | none => cases hx
  | some i => rw [List.mem_singleton.mp hx]; exact List.cons_ne_nil _ _
theorem parts_mem_ne {x : Deed} : ∀ p ∈ parts x, p ≠ [] := by
  intro p hp
  rcases List.mem_append.mp hp with z | z
  · exact prt_ne p z
  · rcases List.mem_append.mp z with z | z
    · exact prt_ne p z
    · exact prt_ne p z
theorem flat_ne {x : Deed} (h : x ≠ look) : (parts x).flatten ≠ [] := by
  have h1 := parts_ne h
  cases q : parts x with
  | nil => exact absurd q h1
  | cons p r =>
    rw [List.flatten_cons]
    intro z
    exact parts_mem_ne (x := x) p (by rw [q]; exact List.mem_cons_self) (List.append_eq_nil_iff.mp z).1
theorem deedW_ne (x : Deed) : deedW x ≠ [] := by
  unfold deedW
  split
  · exact List.cons_ne_nil _ _
  · split
    · split
      · exact List.cons_ne_nil _ _
      · exact flat_ne (by assumption)
    · exact flat_ne (by assumption)
theorem split_deed (x : Deed) : Txt.split (deedT x) sp = deedW x := split_jn (deedW_ne x) fun w hw => (wordS_free (deedW_words x w hw)).1
theorem deedT_look : deedT look = "look" := by unfold deedT deedW; rw [if_pos rfl]; rfl
theorem deedT_set {x : Deed} {l : Int} (h : x ≠ look) (h1 : x.low = some l) (h2 : x.high = some l) : deedW x = [("set" : Str), num l] := by
  unfold deedW
  rw [if_neg h, h1]
  show (if x.high = some l then _ else _) = _
  rw [if_pos h2]
theorem deedT_parts {x : Deed} (h : x ≠ look) (h1 : ∀ l, x.low = some l → x.high ≠ some l) : deedW x = (parts x).flatten := by
  unfold deedW
  rw [if_neg h]
  split
  · rename_i l e
    rw [if_neg (h1 l e)]
  · rfl
end J
namespace J
open PySem PySem.Spec PyProof.Rows L2 TL
abbrev BB : Int := 10000000000000000000000000000000000000000
def okB (i : Int) : Prop := -BB ≤ i ∧ i ≤ BB
theorem log_ok {i : Int} (h : okB i) : i.natAbs.log2 < 1920 := by
  by_cases z : i.natAbs = 0
  · rw [z]; decide
  · refine (Nat.log2_lt z).mpr (Nat.lt_of_lt_of_le (m := 2 ^ 140) ?_ (Nat.pow_le_pow_right (by decide) (by decide)))
    obtain ⟨h1, h2⟩ := h
    simp only [BB] at h1 h2
    omega
theorem abs_ok {i : Int} (h : okB i) : i.natAbs < 10 ^ 600 := by
  refine Nat.lt_of_lt_of_le (m := 10 ^ 41) ?_ (Nat.pow_le_pow_right (by decide) (by decide))
  obtain ⟨h1, h2⟩ := h
  simp only [BB] at h1 h2
  omega
theorem num_len' {i : Int} (h : okB i) : (num i).length ≤ 601 := num_len (abs_ok h)
theorem numL_head {n : Nat} (h : n ≠ 0) : ∃ c r, numL n = c :: r ∧ c ≠ 48 := by
  induction n using Nat.strongRecOn with
  | _ n ih =>
    by_cases q : n < 10
    · exact ⟨48 + n, [], numL_lt q, by omega⟩
    · obtain ⟨c, r, e, hc⟩ := ih (n / 10) (by omega) (by omega)
      exact ⟨c, r ++ [48 + n % 10], by rw [numL_step (by omega), e]; rfl, hc⟩
theorem tl_figs : tl "0123456789" = [48, 49, 50, 51, 52, 53, 54, 55, 56, 57] := by decide +kernel
theorem fig_mem {c : Nat} (h : 48 ≤ c ∧ c ≤ 57) : c ∈ tl "0123456789" := by
  rw [tl_figs]
  simp only [List.mem_cons, List.not_mem_nil, or_false]
  omega
theorem sz16 {n : Nat} (h : n ≤ 100000) : n ≤ sizeLine := Nat.le_trans h (by decide)
theorem tl_cut1 {z : Str} : tl (cutS z none (some 1)) = (tl z).take 1 := by
  show ((tl z).drop 0).take (HT.sIx z.length z.length (some ((1 : Nat) : Int)) - 0) = _
  rw [HT.sIx_nat, List.drop_zero, len_tl, Nat.sub_zero]
  by_cases h : 1 ≤ (tl z).length
  · rw [Nat.min_eq_left h]
  · have e : tl z = [] := List.length_eq_zero_iff.mp (by omega)
    rw [e]; rfl
theorem tl_cutd {z : Str} : tl (cutS z (some 1) none) = (tl z).drop 1 := by
  show ((tl z).drop (HT.sIx z.length 0 (some ((1 : Nat) : Int)))).take (z.length - HT.sIx z.length 0 (some ((1 : Nat) : Int))) = _
  rw [HT.sIx_nat, len_tl]
  by_cases h : 1 ≤ (tl z).length
  · rw [Nat.min_eq_left h, List.take_of_length_le (by rw [List.length_drop]; omega)]
  · have e : tl z = [] := List.length_eq_zero_iff.mp (by omega)
    rw [e]; rfl
def pO : Option Int → PyData
  | none => .none
  | some i => .int i
def pDeed (x : Deed) : PyData := .tuple [.int x.add, pO x.low, pO x.high]
theorem py_deed (x : Deed) : py (dDeed x) = some (pDeed x) := by
  obtain ⟨a, l, h⟩ := x
  cases l <;> cases h <;> rfl
theorem eqv_o {a b : Option Int} : PyData.eqv (pO a) (pO b) = decide (a = b) := by
  cases a with
  | none => cases b <;> rfl
  | some i =>
    cases b with
    | none => rfl
    | some j =>
      show (i == j) = _
      by_cases e : i = j <;> simp [e]
theorem eqv_deed {x y : Deed} : PyData.eqv (pDeed x) (pDeed y) = decide (x = y) := by
  show ((x.add == y.add) && (PyData.eqv (pO x.low) (pO y.low) && (PyData.eqv (pO x.high) (pO y.high) && true))) = _
  rw [eqv_o, eqv_o]
  obtain ⟨a, l, h⟩ := x
  obtain ⟨b, m, t⟩ := y
  by_cases e1 : a = b <;> by_cases e2 : l = m <;> by_cases e3 : h = t <;> simp [e1, e2, e3]
theorem shaped_deed {x : Deed} : SeqAt.shaped (pDeed x) = true := by
  obtain ⟨a, l, h⟩ := x
  cases l <;> cases h <;> rfl
/-- a deed whose numbers are not too long -/
def Deed.fit (x : Deed) : Prop := okB x.add ∧ (∀ l, x.low = some l → okB l) ∧ ∀ h, x.high = some h → okB h
theorem txt2 (p : Str) (i : Int) : p ++ " " ++ num i = jn [p, num i] := rfl
theorem add_sp : ("add " : Str) = "add" ++ " " := by decide +kernel
theorem low_sp : ("low " : Str) = "low" ++ " " := by decide +kernel
theorem high_sp : ("high " : Str) = "high" ++ " " := by decide +kernel
theorem set_sp : ("set " : Str) = "set" ++ " " := by decide +kernel
theorem len_pw {p : Str} {i : Int} (hp : p.length ≤ 100) (h : okB i) : p.length + (num i).length ≤ sizeLine := sz16 (by have := num_len' h; omega)
theorem deedT_jn {x : Deed} (h : x ≠ look) (h1 : ∀ l, x.low = some l → x.high ≠ some l) : Txt.join sp ((J.parts x).map jn) = deedT x := by
  rw [join_jn, jn_flat fun p hp => parts_mem_ne p hp]
  unfold deedT
  rw [deedT_parts h h1]
theorem deedT_setT {x : Deed} {l : Int} (h : x ≠ look) (h1 : x.low = some l) (h2 : x.high = some l) : deedT x = "set " ++ num l := by
  unfold deedT
  rw [deedT_set h h1 h2, set_sp]
  rfl
theorem jn_len1 {p : Str} {i : Int} (hp : p.length ≤ 100) (h : okB i) : (jn [p, num i]).length ≤ 702 := by
  show (p ++ sp ++ num i).length ≤ 702
  rw [Str.length_append, Str.length_append]
  have := num_len' h
  have e : sp.length = 1 := rfl
  omega
theorem parts_len {x : Deed} (h : x.fit) : ∀ p ∈ J.parts x, (jn p).length ≤ 702 := by
  have one : ∀ {q : Str} {o : Option Int}, q.length ≤ 100 → (∀ i, o = some i → okB i) → ∀ p ∈ prt q o, (jn p).length ≤ 702 := fun {q o} hq ho p hp => by
    cases o with
    | none => cases hp
    | some i => rw [List.mem_singleton.mp hp]; exact jn_len1 hq (ho i rfl)
  intro p hp
  rcases List.mem_append.mp hp with z | z
  · refine one (by decide) (fun i e => ?_) p z
    split at e
    · cases e; exact h.1
    · cases e
  · rcases List.mem_append.mp z with z | z
    · exact one (by decide) h.2.1 p z
    · exact one (by decide) h.2.2 p z
theorem sum_le {xs : List Nat} {m : Nat} (h : ∀ x ∈ xs, x ≤ m) : xs.sum ≤ xs.length * m := by
  induction xs with
  | nil => simp
  | cons x r ih =>
    have h1 := h x List.mem_cons_self
    have h2 := ih fun y hy => h y (List.mem_cons_of_mem _ hy)
    rw [List.sum_cons, List.length_cons, Nat.add_mul]
    omega
theorem join_size {ys : List Str} {z : Str} {m n : Nat} (h : ∀ y ∈ ys, y.length ≤ m) (hn : ys.length ≤ n) (hz : z.length ≤ 2) (hm : n * (m + 2) ≤ 16777216) : (ys.map (·.length)).sum + ys.length * z.length ≤ 16777216 := by
  have h1 : (ys.map (·.length)).sum ≤ ys.length * m := by
    have := sum_le (xs := ys.map (·.length)) (m := m) fun x hx => by
      obtain ⟨y, hy, rfl⟩ := List.mem_map.mp hx
      exact h y hy
    rwa [List.length_map] at this
  have h2 : ys.length * z.length ≤ ys.length * 2 := Nat.mul_le_mul_left _ hz
  have h3 : ys.length * m + ys.length * 2 = ys.length * (m + 2) := (Nat.mul_add _ _ _).symm
  have h4 : ys.length * (m + 2) ≤ n * (m + 2) := Nat.mul_le_mul_right _ hn
  omega
theorem parts_cnt {x : Deed} : (J.parts x).length ≤ 3 := by
  have one : ∀ {q : Str} {o : Option Int}, (prt q o).length ≤ 1 := fun {q o} => by cases o <;> simp [prt]
  unfold J.parts
  rw [List.length_append, List.length_append]
  have a := one (q := "add") (o := if x.add ≠ 0 then some x.add else none)
  have b := one (q := "low") (o := x.low)
  have c := one (q := "high") (o := x.high)
  omega
section
variable {P : Program} {w : World} {K : PySem.W.Frag} {mg : Str → Option Value} {base : Heap}
def S_is_figures : AS := fun ds G R => ∃ z : Str, ∃ n : Nat, ds = [.str z] ∧ tl z = numL n ∧ n < 10 ^ 600 ∧ R (.bl true) G
theorem sc_is_figures : FnScope ["word", "sign"] ["word"] (defScope (top 50)) := ⟨rfl, rfl, rfl, by decide +kernel, rfl, by decide +kernel, by decide +kernel⟩
theorem f_is_figures (T : Blt K mg) (dt : Dat K mg d_is_figures "is_figures") : Fn P w K mg base 1 "is_figures" ["word"] [] S_is_figures := by
  obtain ⟨f, fd, F, hm⟩ := dt
  refine ⟨f, cal_of F sc_is_figures (fun ds G R h => ?_) (fun _ _ _ _ _ _ us hl => match us, hl with | [_], _ => rfl) (fun cdv A outer s H E hr ds G R h => ?_), hm⟩
  · obtain ⟨z, n, rfl, hz, hn, _⟩ := h
    rfl
  · obtain ⟨z, n, rfl, hz, hn, k⟩ := h
    have hl : z.length ≤ 600 := by rw [len_tl, hz]; exact numL_len600 hn
    have dg := numL_digits n
    refine b_cons <| s_if <| t_w <| w_or <| t_cmp <| e_var 0 rfl <| e_str <| o_eqS ⟨_, rfl, ite_f (decide_eq_false fun e => numL_ne n (by rw [← hz, e]; rfl)) ?_⟩
    refine w_or1 <| t_not <| t_val <| e_callB T.all bt_all <| a_cons <| e_lc [("sign", 1)] sc_is_figures.nd (blkOk_by rfl) (fun _ _ _ _ _ => (pg_name (i := 1) sc_is_figures.nd rfl (Or.inl rfl))) <| n_str <| e_var 0 rfl ⟨_, rfl, ?_⟩
    refine lc_map (fun _ => .bl true) (fun i => [(1, .str ⟨#[z.cps.getD i 0]⟩)]) trivial (by have : z.cps.size = z.length := rfl; omega) (by simp) (fun i _ => tg_name) (fun i hi s H0 C cl fp => ?_) ?_
    · have hc : z.cps.getD i 0 ∈ tl z := by
        have e : (tl z)[i]? = some (z.cps.getD i 0) := by
          rw [Array.getElem?_toList, Array.getD_eq_getD_getElem?, Array.getElem?_eq_getElem hi]; rfl
        exact List.mem_of_getElem? e
      have hd := dg _ (by rw [← hz]; exact hc)
      refine e_cmp <| e_var 1 rfl <| e_gS T.figs <| o_inSign ⟨?_, rfl⟩
      rw [decide_eq_true (fig_mem hd)]
    refine a_nil <| c_allT ⟨_, rfl, iteFF <| b_nil ?_⟩
    refine b_one <| s_ret <| e_or <| e_cmp <| e_var 0 rfl <| e_str <| o_eqS ⟨_, rfl, ite_b (fun e => ⟨_, Sub.refl _, k⟩) (fun e => ?_)⟩
    have n0 : n ≠ 0 := fun q => by
      subst q
      refine of_decide_eq_false e (ext_tl ?_)
      rw [hz]
      decide +kernel
    obtain ⟨c, r, ec, hc⟩ := numL_head n0
    refine e_one <| e_cmp <| e_ix <| e_var 0 rfl <| e_int <| i_str (n := 0) (c := c) (sz16 (by omega)) (by show (tl z)[0]? = some c; rw [hz, ec]; rfl) <| e_str <| o_neS ?_
    rw [decide_eq_false (fun q => hc (by have := congrArg tl q; rw [show tl (⟨#[c]⟩ : Str) = [c] from rfl] at this; rw [show tl ("0" : Str) = [48] by decide +kernel] at this; exact (List.cons.inj this).1))]
    exact ⟨_, Sub.refl _, k⟩
def S_is_number_text : AS := fun ds G R => ∃ i : Int, ds = [.str (num i)] ∧ okB i ∧ R (.bl true) G
theorem sc_is_number_text : FnScope ["word"] ["word"] (defScope (top 51)) := ⟨rfl, rfl, rfl, by decide +kernel, rfl, by decide +kernel, by decide +kernel⟩
theorem f_is_number_text (T : Blt K mg) (dt : Dat K mg d_is_number_text "is_number_text") (c1 : Fn P w K mg base 1 "is_figures" ["word"] [] S_is_figures) : Fn P w K mg base 2 "is_number_text" ["word"] [] S_is_number_text := by
  obtain ⟨f, fd, F, hm⟩ := dt
  refine ⟨f, cal_of F sc_is_number_text (fun ds G R h => ?_) (fun _ _ _ _ _ _ us hl => match us, hl with | [_], _ => rfl) (fun cdv A outer s H E hr ds G R h => ?_), hm⟩
  · obtain ⟨i, rfl, hi, _⟩ := h
    rfl
  · obtain ⟨i, rfl, hi, k⟩ := h
    obtain ⟨f1, q1, m1⟩ := c1
    have hl := num_len' hi
    have ha := abs_ok hi
    refine b_cons <| s_if <| t_cmp <| e_slS .none .int <| e_var 0 rfl ⟨_, rfl, sz16 (by omega), e_str <| o_eqS ⟨_, rfl, ?_⟩⟩
    rcases num_cases i with ⟨h0, e⟩ | ⟨h0, e⟩
    · refine ite_f (decide_eq_false fun q => ?_) <| b_nil <| b_one <| s_ret <| e_call q1 m1 (hr.mono (by decide)) <| a_cons <| e_var 0 rfl <| a_nil ⟨_, i.natAbs, rfl, e, ha, ⟨_, Sub.refl _, k⟩⟩
      have q := congrArg tl q
      rw [tl_cut1, e, show tl ("-" : Str) = [45] by decide +kernel] at q
      have dg := numL_digits i.natAbs
      cases z : numL i.natAbs with
      | nil => exact numL_ne _ z
      | cons c r =>
        rw [z] at q dg
        have := dg c List.mem_cons_self
        have := (List.cons.inj q).1
        omega
    · refine ite_t (decide_eq_true (ext_tl (by rw [tl_cut1, e, show tl ("-" : Str) = [45] by decide +kernel]; rfl))) <| b_one <| s_ret <| e_and <| e_call q1 m1 (hr.mono (by decide)) <| a_cons <| e_slS .int .none <| e_var 0 rfl ⟨_, rfl, sz16 (by omega), a_nil ⟨_, i.natAbs, rfl, by rw [tl_cutd, e]; rfl, ha, _, rfl, iteTT ?_⟩⟩
      refine e_one <| e_cmp <| e_var 0 rfl <| e_str <| o_neS ?_
      have ne : ¬ num i = "-0" := fun q => by
        have q := congrArg tl q
        rw [e, show tl ("-0" : Str) = [45, 48] by decide +kernel] at q
        have q := (List.cons.inj q).2
        obtain ⟨c, r, ec, hc⟩ := numL_head (n := i.natAbs) (by omega)
        rw [ec] at q
        exact hc (List.cons.inj q).1
      rw [decide_eq_false ne]
      exact ⟨_, Sub.refl _, k⟩
def S_deed_text : AS := fun ds G R => ∃ x : Deed, ds = [dDeed x] ∧ x.ok ∧ x.fit ∧ R (.str (deedT x)) G
theorem sc_deed_text : FnScope ["deed", "some", "add", "low", "high", "part", "number"] ["deed"] (defScope (top 52)) := ⟨rfl, rfl, rfl, by decide +kernel, rfl, by decide +kernel, by decide +kernel⟩
theorem f_deed_text (T : Blt K mg) (dt : Dat K mg d_deed_text "deed_text") (c1 : Fn P w K mg base 4 "want_deed" ["thing"] [] S_want_deed) : Fn P w K mg base 5 "deed_text" ["deed"] [] S_deed_text := by
  obtain ⟨f, fd, F, hm⟩ := dt
  refine ⟨f, cal_of F sc_deed_text (fun ds G R h => ?_) (fun _ _ _ _ _ _ us hl => match us, hl with | [_], _ => rfl) (fun cdv A outer s H E hr ds G R h => ?_), hm⟩
  · obtain ⟨x, rfl, ok, ft, _⟩ := h
    rfl
  · obtain ⟨x, rfl, ok, ft, k⟩ := h
    obtain ⟨f1, q1, m1⟩ := c1
    refine b_cons <| s_expr <| e_call q1 m1 (hr.mono (by decide)) <| a_cons <| e_var 0 rfl <| a_nil ⟨x, rfl, ok, ?_⟩
    refine b_cons <| s_if <| t_cmp <| e_var 0 rfl <| e_gD T.look <| o_eqD hr.units (py_deed x) (py_deed look) shaped_deed shaped_deed ⟨_, rfl, ?_⟩
    rw [eqv_deed]
    refine ite_b (fun e => ?_) (fun e => b_nil ?_)
    · have e : x = look := of_decide_eq_true e
      rw [e, deedT_look] at k
      exact b_one <| s_ret <| e_str ⟨_, Sub.refl _, k⟩
    have e : x ≠ look := of_decide_eq_false e
    refine b_cons <| s_asg (pg_tup rfl (pgs_cons (pg_name (i := 2) sc_deed_text.nd rfl (by first | exact Or.inl rfl | exact Or.inr rfl)) (pgs_cons (pg_name (i := 3) sc_deed_text.nd rfl (by first | exact Or.inl rfl | exact Or.inr rfl)) (pgs_cons (pg_name (i := 4) sc_deed_text.nd rfl (by first | exact Or.inl rfl | exact Or.inr rfl)) pgs_nil)))) <| e_var 0 rfl ⟨_, tg_tup (tgs_cons tg_name (tgs_cons tg_name (tgs_cons tg_name tgs_nil))), ?_⟩
    obtain ⟨pa, mp, hp⟩ := T.parts
    have tail : (∀ l, x.low = some l → x.high ≠ some l) → SB (cxOf CX0 P w K mg base ["deed", "some", "add", "low", "high", "part", "number"] "deed_text" (defScope (top 52)) f cdv A outer s H E).nox
        ((defBody (top 52)).drop 4) (setD (startD ["deed", "some", "add", "low", "high", "part", "number"] [dDeed x]) ([(2, .int x.add)] ++ ([(3, dO x.low)] ++ ([(4, dO x.high)] ++ [])))) G ⟨fun _ G' => R .non G', fun d G1 => ∃ G2, Sub G2 G1 ∧ R d G2, fun _ _ => False, fun _ _ => False⟩ := fun hne => by
      refine b_cons <| s_set 1 sc_deed_text.nd <| e_lst <| a_cons <| e_tup <| a_cons <| e_ix <| e_gR mp <| e_int <| i_ls (n := 0) (x := "add") (xs := ["add", "low", "high"]) hp rfl <| a_cons <| EE.imp (R := fun d G1 => d = dO (if x.add ≠ 0 then some x.add else none) ∧ G1 = G) (e_ifexp <| t_cmp <| e_var 2 rfl <| e_int <| o_neI ⟨_, rfl, ?_⟩) (fun d G1 hd => ?_)
      · by_cases z : x.add = 0
        · rw [decide_eq_true z]
          exact iteFF <| e_non ⟨by rw [if_neg fun h => h z]; rfl, rfl⟩
        · rw [decide_eq_false z]
          exact iteTT <| e_var 2 rfl ⟨by rw [if_pos z]; rfl, rfl⟩
      obtain ⟨rfl, rfl⟩ := hd
      have fit1 : ∀ i, (if x.add ≠ 0 then some x.add else none) = some i → okB i := fun i e => by
        split at e
        · cases e; exact ft.1
        · cases e
      have kp : J.parts x = prt "add" (if x.add ≠ 0 then some x.add else none) ++ (prt "low" x.low ++ prt "high" x.high) := rfl
      generalize (if x.add ≠ 0 then some x.add else none) = o1 at fit1 kp
      refine a_nil ⟨Nat.le_of_ble_eq_true rfl, a_cons <| e_tup <| a_cons <| e_ix <| e_gR mp <| e_int <| i_ls (n := 1) (x := "low") (xs := ["add", "low", "high"]) hp rfl <| a_cons <| e_var 3 rfl <| a_nil ⟨Nat.le_of_ble_eq_true rfl, a_cons <| e_tup <| a_cons <| e_ix <| e_gR mp <| e_int <| i_ls (n := 2) (x := "high") (xs := ["add", "low", "high"]) hp rfl <| a_cons <| e_var 4 rfl <| a_nil ⟨Nat.le_of_ble_eq_true rfl, a_nil ⟨Nat.le_of_ble_eq_true rfl, ?_⟩⟩⟩⟩
      let pp : Nat → Str := fun i => match i with
        | 0 => "add"
        | 1 => "low"
        | _ => "high"
      let oo : Nat → Option Int := fun i => match i with
        | 0 => o1
        | 1 => x.low
        | _ => x.high
      have ofit : ∀ i v, oo i = some v → okB v := fun i v e => match i, e with
        | 0, e => fit1 v e
        | 1, e => ft.2.1 v e
        | _ + 2, e => ft.2.2 v e
      have plen : ∀ i, (pp i).length ≤ 4 := fun i => match i with
        | 0 => by decide +kernel
        | 1 => by decide +kernel
        | _ + 2 => (show ("high" : Str).length ≤ 4 from by decide +kernel)
      have items : ∀ i, i < 3 → at0 [D.tup [.str "add", dO o1], .tup [.str "low", dO x.low], .tup [.str "high", dO x.high]] i = .tup [.str (pp i), dO (oo i)] := fun i hi => match i, hi with
        | 0, _ => rfl
        | 1, _ => rfl
        | 2, _ => rfl
      refine b_one <| s_ret <| e_join <| e_str ⟨_, rfl, e_lc [("part", 5), ("number", 6)] sc_deed_text.nd (blkOk_by rfl) (by intro _ _ _ _ _; refine pg2 (i := 5) (j := 6) (K := K) ?_ ?_ ?_ ?_ ?_ ?_ ?_ ?_ ?_ <;> first | exact sc_deed_text.nd | rfl | exact Or.inl rfl | exact Or.inr rfl) <| n_list <| e_var 1 rfl ⟨_, .lst, ?_⟩⟩
      refine lc_filter (fun i => !isNon (dO (oo i))) (fun i => .str (pp i ++ " " ++ num ((oo i).getD 0))) (fun i => [(5, .str (pp i)), (6, dO (oo i))]) trivial (Nat.le_of_ble_eq_true rfl) (by intro i u hu; simp at hu; rcases hu with e | e <;> subst e <;> simp) (fun i hi => by rw [items i hi]; exact tg_tup (tgs_cons tg_name (tgs_cons tg_name tgs_nil))) (fun i hi s H0 C cl fp => t_cmp <| e_var 6 rfl <| e_non <| o_isnot ⟨_, rfl, rfl, rfl⟩) (fun i hi hb s H0 C cl fp => ?_) ?_
      · have pl := plen i
        cases q : oo i with
        | none => rw [q] at hb; cases hb
        | some v =>
          have hv := ofit i v q
          have := num_len' hv
          have e1 : (" " : Str).length = 1 := rfl
          exact e_bin <| e_bin <| e_var 5 rfl <| e_str <| o_addS (sz16 (by omega)) <| e_callTy T.str bt_str <| a_cons <| e_var 6 rfl <| a_nil <| c_strI (log_ok hv) <| o_addS (by rw [Str.length_append]; exact sz16 (by show _ + _ + (num v).length ≤ _; omega)) ⟨rfl, rfl⟩
      · have e2 : ((List.range ([D.tup [.str "add", dO o1], .tup [.str "low", dO x.low], .tup [.str "high", dO x.high]] : List D).length).filter (fun i => !isNon (dO (oo i)))).map (fun i => D.str (pp i ++ " " ++ num ((oo i).getD 0))) = ((J.parts x).map jn).map D.str := by
          rw [kp]
          have e3 : ∀ (o1 o2 o3 : Option Int) (oo : Nat → Option Int), oo 0 = o1 → oo 1 = o2 → oo 2 = o3 → ((List.range 3).filter (fun i => !isNon (dO (oo i)))).map (fun i => D.str (pp i ++ " " ++ num ((oo i).getD 0))) = ((prt "add" o1 ++ (prt "low" o2 ++ prt "high" o3)).map jn).map D.str := fun o1 o2 o3 oo h0 h1 h2 => by
            have r3 : List.range 3 = [0, 1, 2] := rfl
            rw [r3, List.filter_cons, List.filter_cons, List.filter_cons, h0, h1, h2]
            cases o1 <;> cases o2 <;> cases o3 <;> simp [isNon, dO, prt, h0, h1, h2] <;> repeat' (first | rfl | apply And.intro)
          exact e3 _ _ _ oo rfl rfl rfl
        rw [e2]
        refine ⟨_, .lst, join_size (m := 702) (n := 3) (fun y hy => ?_) (by rw [List.length_map]; exact parts_cnt) (by decide) (by decide), ?_⟩
        · obtain ⟨q, hq, rfl⟩ := List.mem_map.mp hy
          exact parts_len ft q hq
        · rw [show Txt.join " " ((J.parts x).map jn) = deedT x from deedT_jn e hne]
          exact ⟨_, Sub.refl _, k⟩
    refine b_cons <| s_if <| t_w <| w_and <| t_cmp <| e_var 3 rfl <| e_non <| o_isnot ⟨_, rfl, ?_⟩
    cases ql : x.low with
    | none =>
      rw [ql] at tail
      exact iteFF <| iteFF <| b_nil <| tail fun l h => (by cases h)
    | some l =>
      rw [ql] at tail
      cases qh : x.high with
      | none =>
        rw [qh] at tail
        exact iteTT <| w_and1 <| t_cmp <| e_var 3 rfl <| e_var 4 rfl <| o_eq (x := .int l) (y := .non) ⟨_, rfl, iteFF <| b_nil <| tail fun _ _ z => nomatch z⟩
      | some t =>
        rw [qh] at tail
        refine iteTT <| w_and1 <| t_cmp <| e_var 3 rfl <| e_var 4 rfl <| o_eqI ⟨_, rfl, ite_b (fun e2 => ?_) (fun e2 => ?_)⟩
        · have e2 : l = t := of_decide_eq_true e2
          subst e2
          rw [deedT_setT e ql qh] at k
          have hv := ft.2.1 l ql
          exact b_one <| s_ret <| e_bin <| e_str <| e_callTy T.str bt_str <| a_cons <| e_var 3 rfl <| a_nil <| c_strI (log_ok hv) <| o_addS (len_pw (by decide +kernel) hv) ⟨_, Sub.refl _, k⟩
        · have e2 : ¬ l = t := of_decide_eq_false e2
          exact b_nil <| tail fun l' h1 h2 => e2 (by cases h1; cases h2; rfl)
end
end J
namespace J
open PySem PySem.Spec PyProof.Rows L2 TL
def pl (p : Str) : Option Int → List (Str × Int)
  | none => []
  | some i => [(p, i)]
def partL (x : Deed) : List (Str × Int) := pl "add" (if x.add ≠ 0 then some x.add else none) ++ (pl "low" x.low ++ pl "high" x.high)
theorem prt_pl (p : Str) (o : Option Int) : prt p o = (pl p o).map fun q => [q.1, num q.2] := by cases o <;> rfl
theorem parts_L (x : Deed) : J.parts x = (partL x).map fun q => [q.1, num q.2] := by
  unfold J.parts partL
  rw [List.map_append, List.map_append, prt_pl, prt_pl, prt_pl]
theorem ev0 : ∀ L : List (Str × Int), every2 ((L.map fun q => [q.1, num q.2]).flatten) = L.map (·.1)
  | [] => rfl
  | q :: r => by
    show q.1 :: every2 ((r.map fun q => [q.1, num q.2]).flatten) = q.1 :: r.map (·.1)
    rw [ev0 r]
theorem ev1 : ∀ (L : List (Str × Int)) (b : Str), every2 (b :: (L.map fun q => [q.1, num q.2]).flatten) = b :: L.map fun q => num q.2
  | [], _ => rfl
  | q :: r, b => by
    show b :: every2 (num q.2 :: (r.map fun q => [q.1, num q.2]).flatten) = b :: num q.2 :: r.map fun q => num q.2
    rw [ev1 r]
theorem ev1' (L : List (Str × Int)) : every2 (((L.map fun q => [q.1, num q.2]).flatten).drop 1) = L.map fun q => num q.2 := by
  cases L with
  | nil => rfl
  | cons q r => exact ev1 r (num q.2)
theorem every2_map {α β : Type} (f : α → β) : ∀ xs : List α, every2 (xs.map f) = (every2 xs).map f
  | [] => rfl
  | [x] => rfl
  | x :: y :: r => by
    show f x :: every2 (r.map f) = f x :: (every2 r).map f
    rw [every2_map f r]
theorem partL_nodup (x : Deed) : ((partL x).map (·.1)).Nodup := by
  unfold partL
  generalize (if x.add ≠ 0 then some x.add else none) = o1
  generalize x.low = o2
  generalize x.high = o3
  cases o1 <;> cases o2 <;> cases o3 <;> simp only [pl, List.map_cons, List.map_nil, List.nil_append, List.append_nil, List.cons_append] <;> decide +kernel
theorem partL_names (x : Deed) : ∀ q ∈ partL x, q.1 = "add" ∨ q.1 = "low" ∨ q.1 = "high" := by
  intro q hq
  unfold partL at hq
  generalize (if x.add ≠ 0 then some x.add else none) = o1 at hq
  generalize x.low = o2 at hq
  generalize x.high = o3 at hq
  rcases List.mem_append.mp hq with z | z
  · cases o1 with
    | none => cases z
    | some i => rw [List.mem_singleton.mp z]; exact .inl rfl
  · rcases List.mem_append.mp z with z | z
    · cases o2 with
      | none => cases z
      | some i => rw [List.mem_singleton.mp z]; exact .inr (.inl rfl)
    · cases o3 with
      | none => cases z
      | some i => rw [List.mem_singleton.mp z]; exact .inr (.inr rfl)
theorem partL_fit {x : Deed} (h : x.fit) : ∀ q ∈ partL x, okB q.2 := by
  have one : ∀ {p : Str} {o : Option Int}, (∀ i, o = some i → okB i) → ∀ q ∈ pl p o, okB q.2 := fun {p o} ho q hq => by
    cases o with
    | none => cases hq
    | some i => rw [List.mem_singleton.mp hq]; exact ho i rfl
  intro q hq
  rcases List.mem_append.mp hq with z | z
  · refine one (fun i e => ?_) q z
    split at e
    · cases e; exact h.1
    · cases e
  · rcases List.mem_append.mp z with z | z
    · exact one h.2.1 q z
    · exact one h.2.2 q z
theorem partL_len (x : Deed) : (partL x).length ≤ 3 := by
  have := parts_cnt (x := x)
  rw [parts_L, List.length_map] at this
  exact this
def kvL (L : List (Str × Int)) : List (Key × D) := L.map fun q => (.inr q.1, .int q.2)
theorem valD_kvL {L : List (Str × Int)} {p : Str} (h : p ∉ L.map (·.1)) : valD (kvL L) (.inr p) = none := by
  unfold valD kvL
  rw [List.find?_eq_none.mpr]
  · rfl
  · intro kv hkv
    obtain ⟨q, hq, rfl⟩ := List.mem_map.mp hkv
    simp only [decide_eq_true_eq]
    intro e
    exact h (by injection e with e; rw [← e]; exact List.mem_map_of_mem hq)
theorem putKD_kvL {L : List (Str × Int)} {p : Str} {v : Int} (h : p ∉ L.map (·.1)) : putKD (kvL L) (.inr p) (.int v) = kvL (L ++ [(p, v)]) := by
  unfold putKD
  rw [if_neg]
  · unfold kvL; rw [List.map_append]; rfl
  · intro z
    obtain ⟨kv, hkv, e⟩ := List.any_eq_true.mp z
    obtain ⟨q, hq, rfl⟩ := List.mem_map.mp hkv
    have e := of_decide_eq_true e
    exact h (by injection e with e; rw [← e]; exact List.mem_map_of_mem hq)
theorem val_add (x : Deed) : (valD (kvL (partL x)) (.inr "add")).getD (.int 0) = .int x.add := by
  unfold partL
  by_cases z : x.add = 0
  · rw [if_neg (fun h => h z)]
    have : valD (kvL (pl "add" none ++ (pl "low" x.low ++ pl "high" x.high))) (.inr "add") = none := by
      generalize x.low = o2
      generalize x.high = o3
      refine valD_kvL ?_
      cases o2 <;> cases o3 <;> simp only [pl, List.map_cons, List.map_nil, List.nil_append, List.append_nil, List.cons_append] <;> decide +kernel
    rw [this, z]
    rfl
  · rw [if_pos z]
    rfl
theorem val_low (x : Deed) : (valD (kvL (partL x)) (.inr "low")).getD .non = dO x.low := by
  unfold partL
  generalize (if x.add ≠ 0 then some x.add else none) = o1
  generalize x.low = o2
  generalize x.high = o3
  cases o1 <;> cases o2 <;> cases o3 <;> rfl
theorem val_high (x : Deed) : (valD (kvL (partL x)) (.inr "high")).getD .non = dO x.high := by
  unfold partL
  generalize (if x.add ≠ 0 then some x.add else none) = o1
  generalize x.low = o2
  generalize x.high = o3
  cases o1 <;> cases o2 <;> cases o3 <;> rfl
theorem flat_len2 : ∀ L : List (Str × Int), ((L.map fun q => [q.1, num q.2]).flatten).length = 2 * L.length
  | [] => rfl
  | q :: r => by
    show ((r.map fun q => [q.1, num q.2]).flatten).length + 1 + 1 = 2 * (r.length + 1)
    rw [flat_len2 r]
    omega
theorem deed_cases {x : Deed} (h : x ≠ look) : (∃ l, x.low = some l ∧ x.high = some l ∧ deedW x = [("set" : Str), num l]) ∨ ((∀ l, x.low = some l → x.high ≠ some l) ∧ deedW x = ((partL x).map fun q => [q.1, num q.2]).flatten) := by
  by_cases hs : ∃ l, x.low = some l ∧ x.high = some l
  · obtain ⟨l, h1, h2⟩ := hs
    exact .inl ⟨l, h1, h2, deedT_set h h1 h2⟩
  · have hne : ∀ l, x.low = some l → x.high ≠ some l := fun l h1 h2 => hs ⟨l, h1, h2⟩
    exact .inr ⟨hne, by rw [deedT_parts h hne, parts_L]⟩
theorem deedT_nlook {x : Deed} (h : x ≠ look) : deedT x ≠ "look" := fun e => by
  have q : deedW x = deedW look := by rw [← split_deed x, ← split_deed look, e, deedT_look]
  have q1 : (deedW look).length = 1 := by unfold deedW; rw [if_pos rfl]; rfl
  rcases deed_cases h with ⟨l, _, _, e2⟩ | ⟨_, e2⟩
  · rw [← q, e2] at q1; cases q1
  · rw [← q, e2, flat_len2] at q1; omega
theorem deedT_len {x : Deed} (h : x.fit) : (deedT x).length ≤ 3000 := by
  by_cases hx : x = look
  · subst hx; rw [deedT_look]; decide +kernel
  · rcases deed_cases hx with ⟨l, h1, h2, _⟩ | ⟨hne, _⟩
    · rw [deedT_setT hx h1 h2, Str.length_append]
      have := num_len' (h.2.1 l h1)
      have e : ("set " : Str).length = 4 := by decide +kernel
      omega
    · rw [← deedT_jn hx hne, join_eq]
      have z := StrLaws.join_length_le sp ((J.parts x).map jn)
      have z1 : (((J.parts x).map jn).map (·.length)).sum ≤ ((J.parts x).map jn).length * 702 := by
        have := sum_le (xs := ((J.parts x).map jn).map (·.length)) (m := 702) fun y hy => by
          obtain ⟨t, ht, rfl⟩ := List.mem_map.mp hy
          obtain ⟨p, hp, rfl⟩ := List.mem_map.mp ht
          exact parts_len h p hp
        rwa [List.length_map] at this
      have z2 := parts_cnt (x := x)
      rw [List.length_map] at z z1
      have z3 : sp.length = 1 := rfl
      rw [z3] at z
      omega
theorem partL_ne {x : Deed} (h : x ≠ look) : ∃ q r, partL x = q :: r := by
  have := parts_ne h
  rw [parts_L] at this
  cases e : partL x with
  | nil => rw [e] at this; exact absurd rfl this
  | cons q r => exact ⟨q, r, rfl⟩
theorem in_parts {p : Str} (h : p = "add" ∨ p = "low" ∨ p = "high") : inV (.str p) [.str "add", .str "low", .str "high"] = true := by
  rcases h with e | e | e <;> subst e <;> decide +kernel
section
variable {P : Program} {w : World} {K : PySem.W.Frag} {mg : Str → Option Value} {base : Heap}
def S_deed_of : AS := fun ds G R => ∃ x : Deed, ds = [.lst ((deedW x).map D.str)] ∧ x ≠ look ∧ (∀ l, x.low = some l → x.high ≠ some l) ∧ x.fit ∧ R (dDeed x) G
theorem sc_deed_of : FnScope ["words", "numbers", "part", "word"] ["words"] (defScope (top 53)) := ⟨rfl, rfl, rfl, by decide +kernel, rfl, by decide +kernel, by decide +kernel⟩
theorem f_deed_of (T : Blt K mg) (dt : Dat K mg d_deed_of "deed_of") (c1 : Fn P w K mg base 2 "is_number_text" ["word"] [] S_is_number_text) : Fn P w K mg base 3 "deed_of" ["words"] [] S_deed_of := by
  obtain ⟨f, fd, F, hm⟩ := dt
  refine ⟨f, cal_of F sc_deed_of (fun ds G R h => ?_) (fun _ _ _ _ _ _ us hl => match us, hl with | [_], _ => rfl) (fun cdv A outer s H E hr ds G R h => ?_), hm⟩
  · obtain ⟨x, rfl, hx, hne, ft, _⟩ := h
    rfl
  · obtain ⟨x, rfl, hx, hne, ft, k⟩ := h
    obtain ⟨f1, q1, m1⟩ := c1
    have ew : (deedW x) = ((partL x).map fun q => [q.1, num q.2]).flatten := by rw [deedT_parts hx hne, parts_L]
    rw [ew]
    have e0 : every2 ((((partL x).map fun q => [q.1, num q.2]).flatten.map D.str).drop 0) = ((partL x).map (·.1)).map D.str := by rw [List.drop_zero, every2_map, ev0]
    have e1 : every2 ((((partL x).map fun q => [q.1, num q.2]).flatten.map D.str).drop 1) = ((partL x).map fun q => num q.2).map D.str := by rw [← List.map_drop, every2_map, ev1']
    obtain ⟨pa, mp, hp⟩ := T.parts
    have nd := partL_nodup x
    have nm := partL_names x
    have fL := partL_fit ft
    have lL := partL_len x
    have va := val_add x
    have vl := val_low x
    have vh := val_high x
    refine b_cons <| s_set 1 sc_deed_of.nd <| e_dnewK fun q hq => ?_
    generalize hL : partL x = L at *
    refine b_cons <| s_for (pg_tup rfl (pgs_cons (pg_name (i := 2) sc_deed_of.nd rfl (by first | exact Or.inl rfl | exact Or.inr rfl)) (pgs_cons (pg_name (i := 3) sc_deed_of.nd rfl (by first | exact Or.inl rfl | exact Or.inr rfl)) pgs_nil))) PassesOwn.never <| n_zip T.zip <| a_cons <| e_step2 (lo := 0) rfl <| e_var 0 rfl ⟨_, .lst, a_cons <| e_step2 (lo := 1) rfl <| e_var 0 rfl ⟨_, .lst, a_nil ⟨_, _, _, _, rfl, .lst, .lst, ?_⟩⟩⟩
    rw [e0, e1]
    refine ⟨fun i Γ G' => Γ.length = 4 ∧ Γ[1]? = some (some (.ref q)) ∧ G' q = some (.dK (kvL (L.take i))) ∧ Sub G G', ⟨rfl, rfl, gup_same, fun a m h => by rw [gup_ne (fun z => by rw [z, hq] at h; cases h)]; exact h⟩, fun _ _ _ _ _ => ⟨trivial, trivial⟩, ?_, ?_⟩
    · rintro i Γ' G' hi ⟨l, g1, hG, sb⟩
      simp only [List.length_map, Nat.min_self] at hi
      have lm : ((L.map (·.1)).map D.str)[i]? = some (.str L[i].1) := by rw [List.getElem?_map, List.getElem?_map, List.getElem?_eq_getElem hi]; rfl
      have lm2 : ((L.map fun q => num q.2).map D.str)[i]? = some (.str (num L[i].2)) := by rw [List.getElem?_map, List.getElem?_map, List.getElem?_eq_getElem hi]; rfl
      refine ⟨[(2, .str L[i].1), (3, .str (num L[i].2))], ?_, ?_⟩
      · show TgS K G' _ (.tup [at0 ((L.map (·.1)).map D.str) i, at0 ((L.map fun q => num q.2).map D.str) i]) _
        rw [at0_some lm, at0_some lm2]
        exact tg_tup (tgs_cons tg_name (tgs_cons tg_name tgs_nil))
      show SB _ _ ((Γ'.set 2 (some (.str L[i].1))).set 3 (some (.str (num L[i].2)))) _ _
      have l2 : (Γ'.set 2 (some (.str L[i].1))).length = 4 := by rw [List.length_set]; exact l
      have v1 := sg_ne (j := 3) (v := some (.str (num L[i].2))) (sg_ne (j := 2) (v := some (.str L[i].1)) g1 (by decide)) (by decide)
      have v2 := sg_ne (j := 3) (v := some (.str (num L[i].2))) (sg_eq (Γ := Γ') (i := 2) (v := some (.str L[i].1)) (by rw [l]; decide)) (by decide)
      have v3 := sg_eq (Γ := Γ'.set 2 (some (.str L[i].1))) (i := 3) (v := some (.str (num L[i].2))) (by rw [l2]; decide)
      have hm := List.getElem_mem hi
      have hb := fL _ hm
      have nin : L[i].1 ∉ (L.take i).map (·.1) := fun z => by
        obtain ⟨y, hy, ey⟩ := List.mem_map.mp z
        obtain ⟨j, hj, ej⟩ := List.mem_take_iff_getElem.mp hy
        have hj2 : j < i := by omega
        have := List.pairwise_iff_getElem.mp nd j i (by rw [List.length_map]; omega) (by rw [List.length_map]; exact hi) hj2
        rw [List.getElem_map, List.getElem_map, ej] at this
        exact this ey
      refine b_cons <| s_if <| t_w <| w_or <| t_cmp <| e_var 2 v2 <| e_gR mp <| o_notInLs hp rfl ⟨_, rfl, ?_⟩ rfl
      rw [in_parts (nm _ hm)]
      refine iteFF <| w_or <| t_din (u1 hr) <| e_var 2 v2 <| e_var 1 v1 ⟨q, _, rfl, DG.k (k := .inr L[i].1) hG, ?_⟩
      rw [valD_kvL nin]
      refine iteFF <| w_or1 <| t_not <| t_val <| e_call q1 m1 (hr.mono (by decide)) <| a_cons <| e_var 3 v3 <| a_nil ⟨L[i].2, rfl, hb, _, rfl, iteFF <| b_nil ?_⟩
      refine b_one <| s_dput (u1 hr) <| e_callTy T.int bt_int <| a_cons <| e_var 3 v3 <| a_nil <| c_intS (int_of_num (abs_ok hb)) (by have := num_len' hb; omega) <| e_var 1 v1 <| e_var 2 v2 ⟨q, _, rfl, DP.k (k := .inr L[i].1) hG (by unfold kvL; rw [List.length_map, List.length_take]; omega), ?_⟩
      rw [putKD_kvL nin]
      refine ⟨by rw [List.length_set]; exact l2, v1, ?_, fun a m h => ?_⟩
      · rw [gup_same, List.take_succ, List.getElem?_eq_getElem hi]; rfl
      · rw [gup_ne (fun z => by rw [z, hq] at h; cases h)]; exact sb a m h
    rintro Γ' G' ⟨l, g1, hG, sb⟩
    simp only [List.length_map, Nat.min_self, List.take_length] at hG
    refine b_one <| s_ret <| e_tup <| a_cons <| e_dget2 (u1 hr) ⟨rfl, rfl, rfl, rfl⟩ <| e_var 1 g1 ⟨q, _, rfl, hG, e_str <| e_int ⟨_, DG.k (k := .inr "add") hG, ?_⟩⟩
    rw [va]
    refine a_cons <| e_dget1 (u1 hr) ⟨rfl, rfl, rfl, rfl⟩ <| e_var 1 g1 ⟨q, _, rfl, hG, e_str ⟨_, DG.k (k := .inr "low") hG, ?_⟩⟩
    rw [vl]
    refine a_cons <| e_dget1 (u1 hr) ⟨rfl, rfl, rfl, rfl⟩ <| e_var 1 g1 ⟨q, _, rfl, hG, e_str ⟨_, DG.k (k := .inr "high") hG, ?_⟩⟩
    rw [vh]
    exact a_nil ⟨Nat.le_of_ble_eq_true rfl, G, sb, k⟩
def S_told_by : AS := fun ds G R => ∃ x : Deed, ds = [.str (deedT x)] ∧ x.ok ∧ x.fit ∧ R (dDeed x) G
theorem sc_told_by : FnScope ["text", "words"] ["text"] (defScope (top 54)) := ⟨rfl, rfl, rfl, by decide +kernel, rfl, by decide +kernel, by decide +kernel⟩
theorem f_told_by (T : Blt K mg) (dt : Dat K mg d_told_by "told_by") (c1 : Fn P w K mg base 2 "is_number_text" ["word"] [] S_is_number_text) (c2 : Fn P w K mg base 3 "deed_of" ["words"] [] S_deed_of) : Fn P w K mg base 4 "told_by" ["text"] [] S_told_by := by
  obtain ⟨f, fd, F, hm⟩ := dt
  refine ⟨f, cal_of F sc_told_by (fun ds G R h => ?_) (fun _ _ _ _ _ _ us hl => match us, hl with | [_], _ => rfl) (fun cdv A outer s H E hr ds G R h => ?_), hm⟩
  · obtain ⟨x, rfl, ok, ft, _⟩ := h
    rfl
  · obtain ⟨x, rfl, ok, ft, k⟩ := h
    obtain ⟨f1, q1, m1⟩ := c1
    obtain ⟨f2, q2, m2⟩ := c2
    refine b_cons <| s_if <| t_cmp <| e_var 0 rfl <| e_str <| o_eqS ⟨_, rfl, ite_b (fun e => ?_) (fun e => b_nil ?_)⟩
    · by_cases hx : x = look
      · subst hx
        exact b_one <| s_ret <| e_gD T.look ⟨_, Sub.refl _, k⟩
      · exact absurd (of_decide_eq_true e) (deedT_nlook hx)
    have hx : x ≠ look := fun q => by subst q; rw [deedT_look] at e; exact absurd e (by decide)
    refine b_cons <| s_set 1 sc_told_by.nd <| e_split <| e_var 0 rfl ⟨_, rfl, e_str ⟨_, rfl, rfl, by have := deedT_len ft; exact Nat.le_trans (Nat.add_le_add_right this 2) (by decide), ?_⟩⟩
    rw [show Txt.split (deedT x) " " = deedW x from split_deed x]
    by_cases hs : ∃ l, x.low = some l ∧ x.high = some l
    · obtain ⟨l, h1, h2⟩ := hs
      rw [deedT_set hx h1 h2]
      have hv := ft.2.1 l h1
      refine b_cons <| s_if <| t_w <| w_and <| t_cmp <| e_ix <| e_var 1 rfl <| e_int <| i_lst (n := 0) .lst rfl <| e_str <| o_eqS ⟨_, rfl, iteTT ?_⟩
      refine w_and <| t_cmp <| e_callB T.len bt_len <| a_cons <| e_var 1 rfl <| a_nil <| c_lenL .lst <| e_int <| o_eqI ⟨_, rfl, iteTT ?_⟩
      refine w_and1 <| t_val <| e_call q1 m1 (hr.mono (by decide)) <| a_cons <| e_ix <| e_var 1 rfl <| e_int <| i_lst (n := 1) .lst rfl <| a_nil ⟨l, rfl, hv, _, rfl, iteTT ?_⟩
      refine b_one <| s_ret <| e_tup <| a_cons <| e_int <| a_cons <| e_callTy T.int bt_int <| a_cons <| e_ix <| e_var 1 rfl <| e_int <| i_lst (n := 1) .lst rfl <| a_nil <| c_intS (int_of_num (abs_ok hv)) (by have := num_len' hv; omega) <| a_cons <| e_callTy T.int bt_int <| a_cons <| e_ix <| e_var 1 rfl <| e_int <| i_lst (n := 1) .lst rfl <| a_nil <| c_intS (int_of_num (abs_ok hv)) (by have := num_len' hv; omega) <| a_nil ⟨Nat.le_of_ble_eq_true rfl, G, Sub.refl G, ?_⟩
      obtain ⟨a, lo, hi⟩ := x
      cases h1
      cases h2
      have a0 : a = 0 := by
        rcases ok with z | z
        · exact absurd z (Int.lt_irrefl _)
        · exact z.2
      subst a0
      exact k
    · have hne : ∀ l, x.low = some l → x.high ≠ some l := fun l h1 h2 => hs ⟨l, h1, h2⟩
      obtain ⟨q, r, eq⟩ := partL_ne hx
      have ew : deedW x = ((partL x).map fun q => [q.1, num q.2]).flatten := by rw [deedT_parts hx hne, parts_L]
      have e0 : (deedW x).map D.str = .str q.1 :: .str (num q.2) :: ((r.map fun q => [q.1, num q.2]).flatten).map D.str := by rw [ew, eq]; rfl
      have hq := partL_names x q (by rw [eq]; exact List.mem_cons_self)
      have ns : q.1 ≠ "set" := by rcases hq with e | e | e <;> rw [e] <;> decide
      have hl : ((deedW x).map D.str).length = 2 * (partL x).length := by rw [List.length_map, ew, flat_len2]
      refine b_cons <| s_if <| t_w <| w_and <| t_cmp <| e_ix <| e_var 1 rfl <| e_int <| i_lst (n := 0) .lst (by rw [e0]; rfl) <| e_str <| o_eqS ⟨_, rfl, ite_f (decide_eq_false ns) <| iteFF <| b_nil ?_⟩
      refine b_one <| s_ret <| e_ifexp <| t_cmp <| e_bin <| e_callB T.len bt_len <| a_cons <| e_var 1 rfl <| a_nil <| c_lenL .lst <| e_int <| o_mod (by decide) <| e_int <| o_eqI ⟨_, rfl, ?_⟩
      rw [hl]
      have em : decide (((2 * (partL x).length : Nat) : Int).fmod 2 = 0) = true := by
        refine decide_eq_true ?_
        rw [Int.fmod_eq_emod_of_nonneg _ (by omega)]
        omega
      refine ite_t em <| e_call q2 m2 (hr.mono (by decide)) <| a_cons <| e_var 1 rfl <| a_nil ⟨x, rfl, hx, hne, ft, ⟨_, Sub.refl _, k⟩⟩
def S_read_deed : AS := fun ds G R => ∃ x : Deed, ds = [.str (deedT x)] ∧ x.ok ∧ x.fit ∧ R (dDeed x) G
theorem sc_read_deed : FnScope ["text", "found"] ["text"] (defScope (top 55)) := ⟨rfl, rfl, rfl, by decide +kernel, rfl, by decide +kernel, by decide +kernel⟩
theorem f_read_deed (T : Blt K mg) (dt : Dat K mg d_read_deed "read_deed") (c1 : Fn P w K mg base 4 "told_by" ["text"] [] S_told_by) (c2 : Fn P w K mg base 3 "is_deed" ["thing"] [] S_is_deed) (c3 : Fn P w K mg base 5 "deed_text" ["deed"] [] S_deed_text) : Fn P w K mg base 6 "read_deed" ["text"] [] S_read_deed := by
  obtain ⟨f, fd, F, hm⟩ := dt
  refine ⟨f, cal_of F sc_read_deed (fun ds G R h => ?_) (fun _ _ _ _ _ _ us hl => match us, hl with | [_], _ => rfl) (fun cdv A outer s H E hr ds G R h => ?_), hm⟩
  · obtain ⟨x, rfl, ok, ft, _⟩ := h
    rfl
  · obtain ⟨x, rfl, ok, ft, k⟩ := h
    obtain ⟨f1, q1, m1⟩ := c1
    obtain ⟨f2, q2, m2⟩ := c2
    obtain ⟨f3, q3, m3⟩ := c3
    refine b_cons <| s_set 1 sc_read_deed.nd <| e_ifexp <| t_val <| e_callB T.isi bt_isi <| a_cons <| e_var 0 rfl <| a_cons <| e_ty T.str bt_str <| a_nil <| c_isi rfl k_ss ⟨true, rfl, iteTT <| e_call q1 m1 (hr.mono (by decide)) <| a_cons <| e_var 0 rfl <| a_nil ⟨x, rfl, ok, ft, ?_⟩⟩
    refine b_cons <| s_if <| t_w <| w_or <| t_cmp <| e_var 1 rfl <| e_non <| o_is ⟨_, rfl, iteFF <| w_or <| t_not <| t_val <| e_call q2 m2 (hr.mono (by decide)) <| a_cons <| e_var 1 rfl <| a_nil ⟨x, rfl, ok, _, rfl, iteFF ?_⟩⟩
    refine w_or1 <| t_cmp <| e_call q3 m3 (hr.mono (by decide)) <| a_cons <| e_var 1 rfl <| a_nil ⟨x, rfl, ok, ft, e_var 0 rfl <| o_neS ⟨_, rfl, ?_⟩⟩
    rw [decide_eq_true rfl]
    exact iteFF <| b_nil <| b_one <| s_ret <| e_var 1 rfl ⟨_, Sub.refl _, k⟩
def S_law_deed_text : AS := fun ds G R => ∃ x : Deed, ds = [dDeed x] ∧ x.ok ∧ x.fit ∧ R (.str (deedT x)) G
theorem sc_law_deed_text : FnScope ["_law_deed_here", "_law_texts", "_law_add", "_law_low", "_law_high"] ["_law_deed_here"] (defScope (top 105)) := ⟨rfl, rfl, rfl, by decide +kernel, rfl, by decide +kernel, by decide +kernel⟩
theorem f_law_deed_text (T : Blt K mg) (dt : Dat K mg d_law_deed_text "_law_deed_text") : Fn P w K mg base 1 "_law_deed_text" ["_law_deed_here"] [] S_law_deed_text := by
  obtain ⟨f, fd, F, hm⟩ := dt
  refine ⟨f, cal_of F sc_law_deed_text (fun ds G R h => ?_) (fun _ _ _ _ _ _ us hl => match us, hl with | [_], _ => rfl) (fun cdv A outer s H E hr ds G R h => ?_), hm⟩
  · obtain ⟨x, rfl, ok, ft, _⟩ := h
    rfl
  · obtain ⟨x, rfl, ok, ft, k⟩ := h
    refine b_cons <| s_asg (pg_tup rfl (pgs_cons (pg_name (i := 2) sc_law_deed_text.nd rfl (by first | exact Or.inl rfl | exact Or.inr rfl)) (pgs_cons (pg_name (i := 3) sc_law_deed_text.nd rfl (by first | exact Or.inl rfl | exact Or.inr rfl)) (pgs_cons (pg_name (i := 4) sc_law_deed_text.nd rfl (by first | exact Or.inl rfl | exact Or.inr rfl)) pgs_nil)))) <| e_var 0 rfl ⟨_, tg_tup (tgs_cons tg_name (tgs_cons tg_name (tgs_cons tg_name tgs_nil))), ?_⟩
    refine b_cons <| s_if <| t_cmp <| e_var 0 rfl <| e_tup <| a_cons <| e_int <| a_cons <| e_non <| a_cons <| e_non <| a_nil ⟨Nat.le_of_ble_eq_true rfl, o_eqD hr.units (py_deed x) (py_deed look) shaped_deed shaped_deed ⟨_, rfl, ?_⟩⟩
    rw [eqv_deed]
    refine ite_b (fun e => ?_) (fun e => b_nil ?_)
    · have e : x = look := of_decide_eq_true e
      rw [e, deedT_look] at k
      exact b_one <| s_ret <| e_str ⟨_, Sub.refl _, k⟩
    have e : x ≠ look := of_decide_eq_false e
    have tail : (∀ l, x.low = some l → x.high ≠ some l) → SB (cxOf CX0 P w K mg base ["_law_deed_here", "_law_texts", "_law_add", "_law_low", "_law_high"] "_law_deed_text" (defScope (top 105)) f cdv A outer s H E).nox
        ((defBody (top 105)).drop 3) (setD (startD ["_law_deed_here", "_law_texts", "_law_add", "_law_low", "_law_high"] [dDeed x]) ([(2, .int x.add)] ++ ([(3, dO x.low)] ++ ([(4, dO x.high)] ++ [])))) G ⟨fun _ G' => R .non G', fun d G1 => ∃ G2, Sub G2 G1 ∧ R d G2, fun _ _ => False, fun _ _ => False⟩ := fun hne => by
      refine b_cons <| s_set 1 sc_law_deed_text.nd <| e_lstM <| a_nil ⟨Nat.zero_le _, fun q hq => ?_⟩
      have fin : ∀ (Γ : SG) (G' : Gp) (ys : List Str), Γ[1]? = some (some (.ref q)) → G' q = some (.lst (ys.map D.str)) → Sub G G' → ys = (J.parts x).map jn → SB (cxOf CX0 P w K mg base ["_law_deed_here", "_law_texts", "_law_add", "_law_low", "_law_high"] "_law_deed_text" (defScope (top 105)) f cdv A outer s H E).nox
          ((defBody (top 105)).drop 7) Γ G' ⟨fun _ G' => R .non G', fun d G1 => ∃ G2, Sub G2 G1 ∧ R d G2, fun _ _ => False, fun _ _ => False⟩ := fun Γ G' ys g1 hG sb ey => by
        subst ey
        refine b_one <| s_ret <| e_join <| e_str ⟨_, rfl, e_var 1 g1 ⟨_, .ref hG, join_size (m := 702) (n := 3) (fun y hy => ?_) (by rw [List.length_map]; exact parts_cnt) (by decide) (by decide), ?_⟩⟩
        · obtain ⟨p, hp, rfl⟩ := List.mem_map.mp hy
          exact parts_len ft p hp
        · rw [show Txt.join " " ((J.parts x).map jn) = deedT x from deedT_jn e hne]
          exact ⟨G, sb, k⟩
      have app : ∀ {G' : Gp} {ys : List Str} {y : Str}, Sub G G' → Sub G (gup G' q (.lst ((ys.map D.str) ++ [.str y]))) := fun sb a m h => by rw [gup_ne (fun z => by rw [z, hq] at h; cases h)]; exact sb a m h
      have kp : J.parts x = prt "add" (if x.add ≠ 0 then some x.add else none) ++ (prt "low" x.low ++ prt "high" x.high) := rfl
      have s3 : ∀ (Γ : SG) (G' : Gp) (ys : List Str), Γ.length = 5 → Γ[1]? = some (some (.ref q)) → Γ[4]? = some (some (dO x.high)) → G' q = some (.lst (ys.map D.str)) → Sub G G' → ys.length ≤ 2 → ys ++ (prt "high" x.high).map jn = (J.parts x).map jn → SB (cxOf CX0 P w K mg base ["_law_deed_here", "_law_texts", "_law_add", "_law_low", "_law_high"] "_law_deed_text" (defScope (top 105)) f cdv A outer s H E).nox
          ((defBody (top 105)).drop 6) Γ G' ⟨fun _ G' => R .non G', fun d G1 => ∃ G2, Sub G2 G1 ∧ R d G2, fun _ _ => False, fun _ _ => False⟩ := fun Γ G' ys hl g1 g4 hG sb yl ey => by
        refine b_cons <| s_if <| t_cmp <| e_var 4 g4 <| e_non <| o_isnot ⟨_, rfl, ?_⟩
        cases qh : x.high with
        | none =>
          rw [qh] at ey
          exact iteFF <| b_nil <| fin Γ G' ys g1 hG sb (by rw [← ey]; exact (List.append_nil _).symm)
        | some t =>
          rw [qh] at ey g4
          have hv := ft.2.2 t qh
          refine iteTT <| b_one <| s_expr <| e_bm PySem.F.plainAttrs_list PySem.F.slot_list_append PySem.F.type_list_append <| e_var 1 g1 ⟨.inr (.inl ⟨rfl, _, .ref hG⟩), a_cons <| e_bin <| e_str <| e_callTy T.str bt_str <| a_cons <| e_var 4 g4 <| a_nil <| c_strI (log_ok hv) <| o_addS (len_pw (by decide +kernel) hv) <| a_nil <| m_append hG (by rw [List.length_map]; omega) ?_⟩
          refine fin Γ _ (ys ++ ["high " ++ num t]) g1 (by rw [gup_same, List.map_append]; rfl) (app sb) ?_
          rw [← ey, high_sp]
          rfl
      have s2 : ∀ (Γ : SG) (G' : Gp) (ys : List Str), Γ.length = 5 → Γ[1]? = some (some (.ref q)) → Γ[3]? = some (some (dO x.low)) → Γ[4]? = some (some (dO x.high)) → G' q = some (.lst (ys.map D.str)) → Sub G G' → ys.length ≤ 1 → ys ++ (prt "low" x.low ++ prt "high" x.high).map jn = (J.parts x).map jn → SB (cxOf CX0 P w K mg base ["_law_deed_here", "_law_texts", "_law_add", "_law_low", "_law_high"] "_law_deed_text" (defScope (top 105)) f cdv A outer s H E).nox
          ((defBody (top 105)).drop 5) Γ G' ⟨fun _ G' => R .non G', fun d G1 => ∃ G2, Sub G2 G1 ∧ R d G2, fun _ _ => False, fun _ _ => False⟩ := fun Γ G' ys hl g1 g3 g4 hG sb yl ey => by
        refine b_cons <| s_if <| t_cmp <| e_var 3 g3 <| e_non <| o_isnot ⟨_, rfl, ?_⟩
        cases ql : x.low with
        | none =>
          rw [ql] at ey
          exact iteFF <| b_nil <| s3 Γ G' ys hl g1 g4 hG sb (by omega) ey
        | some t =>
          rw [ql] at ey g3
          have hv := ft.2.1 t ql
          refine iteTT <| b_one <| s_expr <| e_bm PySem.F.plainAttrs_list PySem.F.slot_list_append PySem.F.type_list_append <| e_var 1 g1 ⟨.inr (.inl ⟨rfl, _, .ref hG⟩), a_cons <| e_bin <| e_str <| e_callTy T.str bt_str <| a_cons <| e_var 3 g3 <| a_nil <| c_strI (log_ok hv) <| o_addS (len_pw (by decide +kernel) hv) <| a_nil <| m_append hG (by rw [List.length_map]; omega) ?_⟩
          refine s3 Γ _ (ys ++ ["low " ++ num t]) hl g1 g4 (by rw [gup_same, List.map_append]; rfl) (app sb) (by rw [List.length_append]; simp; omega) ?_
          rw [← ey, low_sp, List.append_assoc]
          rfl
      refine b_cons <| s_if <| t_cmp <| e_var 2 rfl <| e_int <| o_neI ⟨_, rfl, ?_⟩
      by_cases z : x.add = 0
      · rw [decide_eq_true z]
        refine iteFF <| b_nil <| s2 _ _ [] rfl rfl rfl rfl gup_same (fun a m h => by rw [gup_ne (fun z => by rw [z, hq] at h; cases h)]; exact h) (Nat.zero_le _) ?_
        rw [kp, if_neg fun h => h z]
        rfl
      · rw [decide_eq_false z]
        have sb0 : Sub G (gup G q (.lst [])) := fun a m h => by rw [gup_ne (fun z => by rw [z, hq] at h; cases h)]; exact h
        refine iteTT <| b_one <| s_expr <| e_bm PySem.F.plainAttrs_list PySem.F.slot_list_append PySem.F.type_list_append <| e_var 1 rfl ⟨.inr (.inl ⟨rfl, _, .ref gup_same⟩), a_cons <| e_bin <| e_str <| e_callTy T.str bt_str <| a_cons <| e_var 2 rfl <| a_nil <| c_strI (log_ok ft.1) <| o_addS (len_pw (by decide +kernel) ft.1) <| a_nil <| m_append gup_same (by decide) ?_⟩
        refine s2 _ _ ["add " ++ num x.add] rfl rfl rfl rfl gup_same (app (ys := []) sb0) (Nat.le_refl _) ?_
        rw [kp, if_pos z, add_sp]
        rfl
    refine b_cons <| s_if <| t_w <| w_and <| t_cmp <| e_var 3 rfl <| e_non <| o_isnot ⟨_, rfl, ?_⟩
    cases ql : x.low with
    | none =>
      rw [ql] at tail
      exact iteFF <| iteFF <| b_nil <| tail fun l h => (by cases h)
    | some l =>
      rw [ql] at tail
      cases qh : x.high with
      | none =>
        rw [qh] at tail
        exact iteTT <| w_and1 <| t_cmp <| e_var 3 rfl <| e_var 4 rfl <| o_eq (x := .int l) (y := .non) ⟨_, rfl, iteFF <| b_nil <| tail fun _ _ z => nomatch z⟩
      | some t =>
        rw [qh] at tail
        refine iteTT <| w_and1 <| t_cmp <| e_var 3 rfl <| e_var 4 rfl <| o_eqI ⟨_, rfl, ite_b (fun e2 => ?_) (fun e2 => ?_)⟩
        · have e2 : l = t := of_decide_eq_true e2
          subst e2
          rw [deedT_setT e ql qh] at k
          have hv := ft.2.1 l ql
          exact b_one <| s_ret <| e_bin <| e_str <| e_callTy T.str bt_str <| a_cons <| e_var 3 rfl <| a_nil <| c_strI (log_ok hv) <| o_addS (len_pw (by decide +kernel) hv) ⟨_, Sub.refl _, k⟩
        · have e2 : ¬ l = t := of_decide_eq_false e2
          exact b_nil <| tail fun l' h1 h2 => e2 (by cases h1; cases h2; rfl)
end
end J
namespace J
open PySem PySem.Spec PyProof.Rows L2 TL
theorem num_len42 {i : Int} (h : okB i) : (num i).length ≤ 42 := by
  have z : (numL i.natAbs).length ≤ 41 := numL_len (by decide) (by
    obtain ⟨h1, h2⟩ := h
    simp only [BB] at h1 h2
    omega)
  rw [len_tl]
  rcases num_cases i with ⟨_, e⟩ | ⟨_, e⟩ <;> rw [e]
  · omega
  · rw [List.length_cons]; omega
theorem okB_nat {n : Nat} (h : n ≤ 100000) : okB (n : Int) := by simp only [okB, BB]; omega
def numsT (is : List Int) : Str := jn (is.map num)
def shownT (is : List Int) : Str := if is = [] then "none" else numsT is
def ans1 (p : Nat × Int) : Str := num (p.1 : Nat) ++ " " ++ num p.2
def orT (ys : List Str) : Str := if ys = [] then "none" else Str.join smc ys
def ansT (ps : List (Nat × Int)) : Str := orT (ps.map ans1)
def wait1 (i : Item) : Str := num (i.box : Nat) ++ " " ++ deedT i.deed
def waitT (is : List Item) : Str := orT (is.map wait1)
def dAns (p : Nat × Int) : D := .tup [.int (p.1 : Nat), .int p.2]
theorem eqV_str {a b : Str} : eqV (.str a) (.str b) = decide (a = b) := by
  show (a == b) = _
  by_cases h : a = b <;> simp [h]
theorem fvs_strs : ∀ ws : List Str, fvs (ws.map D.str) = some (ws.map V.str)
  | [] => rfl
  | x :: r => by
    show (match fv (.str x), fvs (r.map D.str) with | some a, some b => some (a :: b) | _, _ => none) = _
    rw [fvs_strs r]
    rfl
theorem inV_strs {x : Str} : ∀ ws : List Str, inV (.str x) (ws.map V.str) = decide (x ∈ ws)
  | [] => rfl
  | y :: r => by
    show (eqV (.str y) (.str x) || inV (.str x) (r.map V.str)) = _
    rw [eqV_str, inV_strs r]
    by_cases h : y = x
    · subst h; simp
    · rw [decide_eq_false h, Bool.false_or]
      exact decide_eq_decide.mpr ⟨fun z => List.mem_cons_of_mem _ z, fun z => (List.mem_cons.mp z).resolve_left fun q => h q.symm⟩
theorem ans1_len {p : Nat × Int} (h : p.1 ≤ 100000 ∧ okB p.2) : (ans1 p).length ≤ 85 := by
  show (num (p.1 : Nat) ++ " " ++ num p.2).length ≤ 85
  rw [Str.length_append, Str.length_append]
  have a := num_len42 (okB_nat h.1)
  have b := num_len42 h.2
  have e : (" " : Str).length = 1 := rfl
  omega
theorem map_ne {α β : Type} {f : α → β} {xs : List α} : (xs.map f).isEmpty = xs.isEmpty := by cases xs <;> rfl
section
variable {P : Program} {w : World} {K : PySem.W.Frag} {mg : Str → Option Value} {base : Heap}
def S_law_done : AS := fun ds G R => ∃ x : Deed, ∃ v : Int, ds = [dDeed x, .int v] ∧ R (.int (J.put x v)) G
theorem sc_law_done : FnScope ["_law_deed_here", "_law_value", "_law_add", "_law_low", "_law_high"] ["_law_deed_here", "_law_value"] (defScope (top 107)) := ⟨rfl, rfl, rfl, by decide +kernel, rfl, by decide +kernel, by decide +kernel⟩
theorem f_law_done (T : Blt K mg) (dt : Dat K mg d_law_done "_law_done") : Fn P w K mg base 1 "_law_done" ["_law_deed_here", "_law_value"] [] S_law_done := by
  obtain ⟨f, fd, F, hm⟩ := dt
  refine ⟨f, cal_of F sc_law_done (fun ds G R h => ?_) (fun _ _ _ _ _ _ us hl => match us, hl with | [_, _], _ => rfl) (fun cdv A outer s H E hr ds G R h => ?_), hm⟩
  · obtain ⟨x, v, rfl, _⟩ := h
    rfl
  · obtain ⟨x, v, rfl, k⟩ := h
    refine b_cons <| s_asg (pg_tup rfl (pgs_cons (pg_name (i := 2) sc_law_done.nd rfl (by first | exact Or.inl rfl | exact Or.inr rfl)) (pgs_cons (pg_name (i := 3) sc_law_done.nd rfl (by first | exact Or.inl rfl | exact Or.inr rfl)) (pgs_cons (pg_name (i := 4) sc_law_done.nd rfl (by first | exact Or.inl rfl | exact Or.inr rfl)) pgs_nil)))) <| e_var 0 rfl ⟨_, tg_tup (tgs_cons tg_name (tgs_cons tg_name (tgs_cons tg_name tgs_nil))), ?_⟩
    refine b_cons <| s_set 1 sc_law_done.nd <| e_bin <| e_var 1 rfl <| e_var 2 rfl <| o_add ?_
    obtain ⟨a, l, hh⟩ := x
    have fin : ∀ (Γ : SG) (z : Int), Γ.length = 5 → Γ[1]? = some (some (.int z)) → Γ[4]? = some (some (dO hh)) → topO hh z = J.put ⟨a, l, hh⟩ v →
        SB (cxOf CX0 P w K mg base ["_law_deed_here", "_law_value", "_law_add", "_law_low", "_law_high"] "_law_done" (defScope (top 107)) f cdv A outer s H E).nox
          ((defBody (top 107)).drop 3) Γ G ⟨fun _ G' => R .non G', fun d G1 => ∃ G2, Sub G2 G1 ∧ R d G2, fun _ _ => False, fun _ _ => False⟩ := fun Γ z hl h1 h4 e => by
      refine b_cons <| s_if <| t_w <| w_and <| t_cmp <| e_var 4 h4 <| e_non <| o_isnot ⟨_, rfl, ?_⟩
      rw [← e] at k
      cases hh with
      | none => exact iteFF <| iteFF <| b_nil <| b_one <| s_ret <| e_var 1 h1 ⟨_, Sub.refl _, k⟩
      | some t =>
        refine iteTT <| w_and1 <| t_cmp <| e_var 1 h1 <| e_var 4 h4 <| o_gt ⟨_, rfl, ite_b (fun e => ?_) (fun e => ?_)⟩
        · have e : t < z := of_decide_eq_true e
          have k : R (.int (if t < z then t else z)) G := by
            have q : topO (some t) z = if t < z then t else z := by show mn t z = _; unfold mn; (repeat' split) <;> omega
            rw [← q]; exact k
          rw [if_pos e] at k
          exact b_one <| s_set 1 sc_law_done.nd <| e_var 4 h4 <| b_one <| s_ret <| e_var 1 (sg_eq (by rw [hl]; decide)) ⟨_, Sub.refl _, k⟩
        · have e : ¬ t < z := of_decide_eq_false e
          have k : R (.int (if t < z then t else z)) G := by
            have q : topO (some t) z = if t < z then t else z := by show mn t z = _; unfold mn; (repeat' split) <;> omega
            rw [← q]; exact k
          rw [if_neg e] at k
          exact b_nil <| b_one <| s_ret <| e_var 1 h1 ⟨_, Sub.refl _, k⟩
    refine b_cons <| s_if <| t_w <| w_and <| t_cmp <| e_var 3 rfl <| e_non <| o_isnot ⟨_, rfl, ?_⟩
    cases l with
    | none => exact iteFF <| iteFF <| b_nil <| fin _ _ rfl rfl rfl rfl
    | some l =>
      refine iteTT <| w_and1 <| t_cmp <| e_var 1 rfl <| e_var 3 rfl <| o_lt ⟨_, rfl, ite_b (fun e => ?_) (fun e => ?_)⟩
      · have e : v + a < l := of_decide_eq_true e
        refine b_one <| s_set 1 sc_law_done.nd <| e_var 3 rfl <| fin _ _ rfl rfl rfl ?_
        show topO hh l = topO hh (mx l (v + a))
        rw [show mx l (v + a) = l by unfold mx; split <;> omega]
      · have e : ¬ v + a < l := of_decide_eq_false e
        refine b_nil <| fin _ _ rfl rfl rfl ?_
        show topO hh (v + a) = topO hh (mx l (v + a))
        rw [show mx l (v + a) = v + a by unfold mx; split <;> omega]
def S_law_behind : AS := fun ds G R => ∃ a b : Deed, ds = [dDeed a, dDeed b] ∧ R (dDeed (behind a b)) G
theorem sc_law_behind : FnScope ["_law_one", "_law_other", "_law_low", "_law_high"] ["_law_one", "_law_other"] (defScope (top 106)) := ⟨rfl, rfl, rfl, by decide +kernel, rfl, by decide +kernel, by decide +kernel⟩
theorem f_law_behind (T : Blt K mg) (dt : Dat K mg d_law_behind "_law_behind") (c1 : Fn P w K mg base 1 "_law_done" ["_law_deed_here", "_law_value"] [] S_law_done) : Fn P w K mg base 2 "_law_behind" ["_law_one", "_law_other"] [] S_law_behind := by
  obtain ⟨f, fd, F, hm⟩ := dt
  refine ⟨f, cal_of F sc_law_behind (fun ds G R h => ?_) (fun _ _ _ _ _ _ us hl => match us, hl with | [_, _], _ => rfl) (fun cdv A outer s H E hr ds G R h => ?_), hm⟩
  · obtain ⟨a, b, rfl, _⟩ := h
    rfl
  · obtain ⟨a, b, rfl, k⟩ := h
    obtain ⟨f1, q1, m1⟩ := c1
    refine b_cons <| s_set 2 sc_law_behind.nd <| e_ix <| e_var 1 rfl <| e_int <| i_tup (n := 1) .tup rfl ?_
    refine b_cons <| s_set 3 sc_law_behind.nd <| e_ix <| e_var 1 rfl <| e_int <| i_tup (n := 2) .tup rfl ?_
    obtain ⟨aa, al, ah⟩ := a
    obtain ⟨ba, bl, bh⟩ := b
    have fin : ∀ (Γ : SG) (l h : Option Int), Γ[0]? = some (some (dDeed ⟨aa, al, ah⟩)) → Γ[1]? = some (some (dDeed ⟨ba, bl, bh⟩)) → Γ[2]? = some (some (dO l)) → Γ[3]? = some (some (dO h)) → whole (aa + ba) l h = behind ⟨aa, al, ah⟩ ⟨ba, bl, bh⟩ →
        SB (cxOf CX0 P w K mg base ["_law_one", "_law_other", "_law_low", "_law_high"] "_law_behind" (defScope (top 106)) f cdv A outer s H E).nox
          ((defBody (top 106)).drop 4) Γ G ⟨fun _ G' => R .non G', fun d G1 => ∃ G2, Sub G2 G1 ∧ R d G2, fun _ _ => False, fun _ _ => False⟩ := fun Γ l h g0 g1 g2 g3 e => by
      rw [← e] at k
      refine b_cons <| s_if <| t_w <| w_and <| t_cmp <| e_var 2 g2 <| e_non <| o_isnot ⟨_, rfl, ?_⟩
      have last : R (dDeed ⟨aa + ba, l, h⟩) G → SB (cxOf CX0 P w K mg base ["_law_one", "_law_other", "_law_low", "_law_high"] "_law_behind" (defScope (top 106)) f cdv A outer s H E).nox
          ((defBody (top 106)).drop 5) Γ G ⟨fun _ G' => R .non G', fun d G1 => ∃ G2, Sub G2 G1 ∧ R d G2, fun _ _ => False, fun _ _ => False⟩ := fun k =>
        b_one <| s_ret <| e_tup <| a_cons <| e_bin <| e_ix <| e_var 0 g0 <| e_int <| i_tup (n := 0) .tup rfl <| e_ix <| e_var 1 g1 <| e_int <| i_tup (n := 0) .tup rfl <| o_add <| a_cons <| e_var 2 g2 <| a_cons <| e_var 3 g3 <| a_nil ⟨Nat.le_of_ble_eq_true rfl, G, Sub.refl G, k⟩
      cases l with
      | none => exact iteFF <| iteFF <| b_nil <| last k
      | some l =>
        cases h with
        | none => exact iteTT <| w_and1 <| t_cmp <| e_var 2 g2 <| e_var 3 g3 <| o_eq (x := .int l) (y := .non) ⟨_, rfl, iteFF <| b_nil <| last k⟩
        | some t =>
          refine iteTT <| w_and1 <| t_cmp <| e_var 2 g2 <| e_var 3 g3 <| o_eqI ⟨_, rfl, ite_b (fun e => ?_) (fun e => ?_)⟩
          · have e : l = t := of_decide_eq_true e
            rw [show whole (aa + ba) (some l) (some t) = ⟨0, some l, some t⟩ from if_pos (by rw [e])] at k
            exact b_one <| s_ret <| e_tup <| a_cons <| e_int <| a_cons <| e_var 2 g2 <| a_cons <| e_var 2 g2 <| a_nil ⟨Nat.le_of_ble_eq_true rfl, G, Sub.refl G, by subst e; exact k⟩
          · have e : ¬ l = t := of_decide_eq_false e
            rw [show whole (aa + ba) (some l) (some t) = ⟨aa + ba, some l, some t⟩ from if_neg (fun q => e (Option.some.inj q).symm)] at k
            exact b_nil <| last k
    have fin2 : ∀ (Γ : SG) (l : Option Int), Γ[0]? = some (some (dDeed ⟨aa, al, ah⟩)) → Γ[1]? = some (some (dDeed ⟨ba, bl, bh⟩)) → Γ[2]? = some (some (dO l)) → Γ[3]? = some (some (dO bh)) → Γ.length = 4 → l = thr ⟨ba, bl, bh⟩ bl al →
        SB (cxOf CX0 P w K mg base ["_law_one", "_law_other", "_law_low", "_law_high"] "_law_behind" (defScope (top 106)) f cdv A outer s H E).nox
          ((defBody (top 106)).drop 3) Γ G ⟨fun _ G' => R .non G', fun d G1 => ∃ G2, Sub G2 G1 ∧ R d G2, fun _ _ => False, fun _ _ => False⟩ := fun Γ l g0 g1 g2 g3 hl e => by
      refine b_cons <| s_if <| t_cmp <| e_ix <| e_var 0 g0 <| e_int <| i_tup (n := 2) .tup rfl <| e_non <| o_isnot ⟨_, rfl, ?_⟩
      cases ah with
      | none => exact iteFF (b_nil (fin Γ l bh g0 g1 g2 g3 (by rw [e]; rfl)))
      | some t =>
        refine iteTT (b_one <| s_set 3 sc_law_behind.nd <| e_call q1 m1 (hr.mono (by decide)) <| a_cons <| e_var 1 g1 <| a_cons <| e_ix <| e_var 0 g0 <| e_int <| i_tup (n := 2) .tup rfl <| a_nil ⟨⟨ba, bl, bh⟩, t, rfl, ?_⟩)
        exact fin _ l (some (J.put ⟨ba, bl, bh⟩ t)) (sg_ne g0 (by decide)) (sg_ne g1 (by decide)) (sg_ne g2 (by decide)) (sg_eq (by rw [hl]; decide)) (by rw [e]; rfl)
    refine b_cons <| s_if <| t_cmp <| e_ix <| e_var 0 rfl <| e_int <| i_tup (n := 1) .tup rfl <| e_non <| o_isnot ⟨_, rfl, ?_⟩
    cases al with
    | none => exact iteFF (b_nil (fin2 _ bl rfl rfl rfl rfl rfl rfl))
    | some t => exact iteTT (b_one <| s_set 2 sc_law_behind.nd <| e_call q1 m1 (hr.mono (by decide)) <| a_cons <| e_var 1 rfl <| a_cons <| e_ix <| e_var 0 rfl <| e_int <| i_tup (n := 1) .tup rfl <| a_nil ⟨⟨ba, bl, bh⟩, t, rfl, fin2 _ (some (J.put ⟨ba, bl, bh⟩ t)) rfl rfl rfl rfl rfl rfl⟩)
def S_want_row : AS := fun ds G R => ds = [.bl true] ∧ R .non G
theorem sc_want_row : FnScope ["truth"] ["truth"] (defScope (top 85)) := ⟨rfl, rfl, rfl, by decide +kernel, rfl, by decide +kernel, by decide +kernel⟩
theorem f_want_row (T : Blt K mg) (dt : Dat K mg d_want_row "want_row") : Fn P w K mg base 1 "want_row" ["truth"] [] S_want_row := by
  obtain ⟨f, fd, F, hm⟩ := dt
  refine ⟨f, cal_of F sc_want_row (fun ds G R h => ?_) (fun _ _ _ _ _ _ us hl => match us, hl with | [_], _ => rfl) (fun cdv A outer s H E hr ds G R h => ?_), hm⟩
  · obtain ⟨rfl, _⟩ := h
    rfl
  · obtain ⟨rfl, k⟩ := h
    exact b_one <| s_if <| t_not <| t_val <| e_var 0 rfl ⟨true, rfl, iteFF <| b_nil k⟩
def S_spoken : AS := fun ds G R => ∃ (z : Str) (ws : List Str), ds = [.str z] ∧ Txt.split z sp = ws ∧ (∀ w ∈ ws, tl w ≠ []) ∧ z.length ≤ 16000000 ∧ R (.lst (ws.map D.str)) G
theorem sc_spoken : FnScope ["row", "found"] ["row"] (defScope (top 86)) := ⟨rfl, rfl, rfl, by decide +kernel, rfl, by decide +kernel, by decide +kernel⟩
theorem f_spoken (T : Blt K mg) (dt : Dat K mg d_spoken "spoken") (c1 : Fn P w K mg base 1 "want_row" ["truth"] [] S_want_row) : Fn P w K mg base 2 "spoken" ["row"] [] S_spoken := by
  obtain ⟨f, fd, F, hm⟩ := dt
  refine ⟨f, cal_of F sc_spoken (fun ds G R h => ?_) (fun _ _ _ _ _ _ us hl => match us, hl with | [_], _ => rfl) (fun cdv A outer s H E hr ds G R h => ?_), hm⟩
  · obtain ⟨z, ws, rfl, hz, hw, hl, _⟩ := h
    rfl
  · obtain ⟨z, ws, rfl, hz, hw, hl, k⟩ := h
    obtain ⟨f1, q1, m1⟩ := c1
    refine b_cons <| s_expr <| e_call q1 m1 (hr.mono (by decide)) <| a_cons <| e_callB T.isi bt_isi <| a_cons <| e_var 0 rfl <| a_cons <| e_ty T.str bt_str <| a_nil <| c_isi rfl k_ss <| a_nil ⟨rfl, ?_⟩
    refine b_cons <| s_set 1 sc_spoken.nd <| e_split <| e_var 0 rfl ⟨_, rfl, e_str ⟨_, rfl, rfl, Nat.le_trans (Nat.add_le_add_right hl 2) (by decide), ?_⟩⟩
    rw [show Txt.split z " " = ws from hz]
    refine b_cons <| s_expr <| e_call q1 m1 (hr.mono (by decide)) <| a_cons <| e_cmp <| e_str <| e_var 1 rfl <| o_notInFL .lst ?_ rfl (fvs_strs ws)
    rw [inV_strs, decide_eq_false fun h => hw _ h rfl]
    exact a_nil ⟨rfl, b_one <| s_ret <| e_var 1 rfl ⟨_, Sub.refl _, k⟩⟩
def S_number_in : AS := fun ds G R => ∃ n : Nat, ds = [.str (num n)] ∧ n ≤ 100000 ∧ R (.int (n : Nat)) G
theorem sc_number_in : FnScope ["word"] ["word"] (defScope (top 87)) := ⟨rfl, rfl, rfl, by decide +kernel, rfl, by decide +kernel, by decide +kernel⟩
theorem f_number_in (T : Blt K mg) (dt : Dat K mg d_number_in "number_in") (c1 : Fn P w K mg base 1 "want_row" ["truth"] [] S_want_row) (c2 : Fn P w K mg base 1 "is_figures" ["word"] [] S_is_figures) : Fn P w K mg base 2 "number_in" ["word"] [] S_number_in := by
  obtain ⟨f, fd, F, hm⟩ := dt
  refine ⟨f, cal_of F sc_number_in (fun ds G R h => ?_) (fun _ _ _ _ _ _ us hl => match us, hl with | [_], _ => rfl) (fun cdv A outer s H E hr ds G R h => ?_), hm⟩
  · obtain ⟨n, rfl, hn, _⟩ := h
    rfl
  · obtain ⟨n, rfl, hn, k⟩ := h
    obtain ⟨f1, q1, m1⟩ := c1
    obtain ⟨f2, q2, m2⟩ := c2
    have hb := okB_nat hn
    refine b_cons <| s_expr <| e_call q1 m1 (hr.mono (by decide)) <| a_cons <| e_call q2 m2 (hr.mono (by decide)) <| a_cons <| e_var 0 rfl <| a_nil ⟨_, n, rfl, num_nat n, by have := abs_ok hb; rwa [Int.natAbs_natCast] at this, a_nil ⟨rfl, ?_⟩⟩
    exact b_one <| s_ret <| e_callTy T.int bt_int <| a_cons <| e_var 0 rfl <| a_nil <| c_intS (int_of_num (abs_ok hb)) (by have := num_len' hb; omega) ⟨_, Sub.refl _, k⟩
def S_numbers_in : AS := fun ds G R => ∃ (d : D) (ns : List Nat), ds = [d] ∧ Lv G d (ns.map fun n => .str (num (n : Nat))) ∧ (∀ n ∈ ns, n ≤ 100000) ∧ ns.length ≤ 1000 ∧ R (.lst (ns.map fun n => .int (n : Nat))) G
theorem sc_numbers_in : FnScope ["some", "word"] ["some"] (defScope (top 88)) := ⟨rfl, rfl, rfl, by decide +kernel, rfl, by decide +kernel, by decide +kernel⟩
theorem f_numbers_in (T : Blt K mg) (dt : Dat K mg d_numbers_in "numbers_in") (c1 : Fn P w K mg base 2 "number_in" ["word"] [] S_number_in) : Fn P w K mg base 3 "numbers_in" ["some"] [] S_numbers_in := by
  obtain ⟨f, fd, F, hm⟩ := dt
  refine ⟨f, cal_of F sc_numbers_in (fun ds G R h => ?_) (fun _ _ _ _ _ _ us hl => match us, hl with | [_], _ => rfl) (fun cdv A outer s H E hr ds G R h => ?_), hm⟩
  · obtain ⟨d, ns, rfl, hL, hn, hl, _⟩ := h
    rfl
  · obtain ⟨d, ns, rfl, hL, hn, hl, k⟩ := h
    obtain ⟨f1, q1, m1⟩ := c1
    refine b_one <| s_ret <| e_lc [("word", 1)] sc_numbers_in.nd (blkOk_by rfl) (fun _ _ _ _ _ => (pg_name (i := 1) sc_numbers_in.nd rfl (Or.inl rfl))) <| n_list <| e_var 0 rfl ⟨_, hL, ?_⟩
    refine lc_map (fun i => .int ((ns.getD i 0 : Nat) : Int)) (fun i => [(1, at0 (ns.map fun n => .str (num (n : Nat))) i)]) (lok_now hL) (by rw [List.length_map]; omega) (by simp) (fun i _ => tg_name) (fun i hi s H0 C cl fp => ?_) ?_
    · rw [List.length_map] at hi
      rw [at0_map hi]
      have e0 : ns.getD i 0 = ns[i] := by rw [List.getD_eq_getElem?_getD, List.getElem?_eq_getElem hi]; rfl
      rw [e0]
      exact e_call q1 m1 (hr.mono (by decide)) <| a_cons <| e_var 1 rfl <| a_nil ⟨ns[i], rfl, hn _ (List.getElem_mem hi), rfl, rfl⟩
    · rw [List.length_map, map_range_eq ns _ (fun n => D.int (n : Nat)) fun i x e => by rw [List.getD_eq_getElem?_getD, e]; rfl]
      exact ⟨_, Sub.refl _, k⟩
def S_value_in : AS := fun ds G R => ∃ i : Int, ds = [.str (num i)] ∧ okB i ∧ R (.int i) G
theorem sc_value_in : FnScope ["word"] ["word"] (defScope (top 89)) := ⟨rfl, rfl, rfl, by decide +kernel, rfl, by decide +kernel, by decide +kernel⟩
theorem f_value_in (T : Blt K mg) (dt : Dat K mg d_value_in "value_in") (c1 : Fn P w K mg base 1 "want_row" ["truth"] [] S_want_row) (c2 : Fn P w K mg base 2 "is_number_text" ["word"] [] S_is_number_text) : Fn P w K mg base 3 "value_in" ["word"] [] S_value_in := by
  obtain ⟨f, fd, F, hm⟩ := dt
  refine ⟨f, cal_of F sc_value_in (fun ds G R h => ?_) (fun _ _ _ _ _ _ us hl => match us, hl with | [_], _ => rfl) (fun cdv A outer s H E hr ds G R h => ?_), hm⟩
  · obtain ⟨i, rfl, hb, _⟩ := h
    rfl
  · obtain ⟨i, rfl, hb, k⟩ := h
    obtain ⟨f1, q1, m1⟩ := c1
    obtain ⟨f2, q2, m2⟩ := c2
    refine b_cons <| s_expr <| e_call q1 m1 (hr.mono (by decide)) <| a_cons <| e_call q2 m2 (hr.mono (by decide)) <| a_cons <| e_var 0 rfl <| a_nil ⟨i, rfl, hb, a_nil ⟨rfl, ?_⟩⟩
    exact b_one <| s_ret <| e_callTy T.int bt_int <| a_cons <| e_var 0 rfl <| a_nil <| c_intS (int_of_num (abs_ok hb)) (by have := num_len' hb; omega) ⟨_, Sub.refl _, k⟩
def S_law_numbers_text : AS := fun ds G R => ∃ is : List Int, ds = [.tup (is.map D.int)] ∧ (∀ i ∈ is, okB i) ∧ is.length ≤ 1000 ∧ R (.str (numsT is)) G
theorem sc_law_numbers_text : FnScope ["_law_numbers", "_law_number_here"] ["_law_numbers"] (defScope (top 108)) := ⟨rfl, rfl, rfl, by decide +kernel, rfl, by decide +kernel, by decide +kernel⟩
theorem f_law_numbers_text (T : Blt K mg) (dt : Dat K mg d_law_numbers_text "_law_numbers_text") : Fn P w K mg base 1 "_law_numbers_text" ["_law_numbers"] [] S_law_numbers_text := by
  obtain ⟨f, fd, F, hm⟩ := dt
  refine ⟨f, cal_of F sc_law_numbers_text (fun ds G R h => ?_) (fun _ _ _ _ _ _ us hl => match us, hl with | [_], _ => rfl) (fun cdv A outer s H E hr ds G R h => ?_), hm⟩
  · obtain ⟨is, rfl, hb, hl, _⟩ := h
    rfl
  · obtain ⟨is, rfl, hb, hl, k⟩ := h
    refine b_one <| s_ret <| e_join <| e_str ⟨_, rfl, e_lc [("_law_number_here", 1)] sc_law_numbers_text.nd (blkOk_by rfl) (fun _ _ _ _ _ => (pg_name (i := 1) sc_law_numbers_text.nd rfl (Or.inl rfl))) <| n_tup <| e_var 0 rfl ⟨_, .tup, ?_⟩⟩
    refine lc_map (fun i => .str (num (is.getD i 0))) (fun i => [(1, at0 (is.map D.int) i)]) trivial (by rw [List.length_map]; omega) (by simp) (fun i _ => tg_name) (fun i hi s H0 C cl fp => ?_) ?_
    · rw [List.length_map] at hi
      rw [at0_map hi]
      have e0 : is.getD i 0 = is[i] := by rw [List.getD_eq_getElem?_getD, List.getElem?_eq_getElem hi]; rfl
      rw [e0]
      exact e_callTy T.str bt_str <| a_cons <| e_var 1 rfl <| a_nil <| c_strI (log_ok (hb _ (List.getElem_mem hi))) ⟨rfl, rfl⟩
    · rw [List.length_map, map_range_eq is _ (fun n => D.str (num n)) fun i x e => by rw [List.getD_eq_getElem?_getD, e]; rfl]
      rw [show is.map (fun n => D.str (num n)) = (is.map num).map D.str by rw [List.map_map]; rfl]
      refine ⟨_, .lst, join_size (m := 42) (n := 1000) (fun y hy => ?_) (by rw [List.length_map]; exact hl) (by decide) (by decide), ?_⟩
      · obtain ⟨i, hi, rfl⟩ := List.mem_map.mp hy
        exact num_len42 (hb i hi)
      · rw [show Txt.join " " (is.map num) = numsT is from join_jn _]
        exact ⟨_, Sub.refl _, k⟩
def S_numbers_shown : AS := fun ds G R => ∃ is : List Int, ds = [.tup (is.map D.int)] ∧ (∀ i ∈ is, okB i) ∧ is.length ≤ 1000 ∧ R (.str (shownT is)) G
theorem sc_numbers_shown : FnScope ["some", "number"] ["some"] (defScope (top 92)) := ⟨rfl, rfl, rfl, by decide +kernel, rfl, by decide +kernel, by decide +kernel⟩
theorem f_numbers_shown (T : Blt K mg) (dt : Dat K mg d_numbers_shown "numbers_shown") : Fn P w K mg base 1 "numbers_shown" ["some"] [] S_numbers_shown := by
  obtain ⟨f, fd, F, hm⟩ := dt
  refine ⟨f, cal_of F sc_numbers_shown (fun ds G R h => ?_) (fun _ _ _ _ _ _ us hl => match us, hl with | [_], _ => rfl) (fun cdv A outer s H E hr ds G R h => ?_), hm⟩
  · obtain ⟨is, rfl, hb, hl, _⟩ := h
    rfl
  · obtain ⟨is, rfl, hb, hl, k⟩ := h
    refine b_one <| s_ret <| e_ifexp <| t_cmp <| e_callB T.len bt_len <| a_cons <| e_var 0 rfl <| a_nil <| c_lenT .tup <| e_int <| o_gt ⟨_, rfl, ?_⟩
    unfold shownT at k
    by_cases h0 : is = []
    · subst h0
      exact iteFF <| e_gS T.nothing ⟨_, Sub.refl _, k⟩
    rw [if_neg h0] at k
    refine ite_t (decide_eq_true (by rw [List.length_map]; have := List.length_pos_iff.mpr h0; omega)) ?_
    refine e_join <| e_str ⟨_, rfl, e_lc [("number", 1)] sc_numbers_shown.nd (blkOk_by rfl) (fun _ _ _ _ _ => (pg_name (i := 1) sc_numbers_shown.nd rfl (Or.inl rfl))) <| n_tup <| e_var 0 rfl ⟨_, .tup, ?_⟩⟩
    refine lc_map (fun i => .str (num (is.getD i 0))) (fun i => [(1, at0 (is.map D.int) i)]) trivial (by rw [List.length_map]; omega) (by simp) (fun i _ => tg_name) (fun i hi s H0 C cl fp => ?_) ?_
    · rw [List.length_map] at hi
      rw [at0_map hi]
      have e0 : is.getD i 0 = is[i] := by rw [List.getD_eq_getElem?_getD, List.getElem?_eq_getElem hi]; rfl
      rw [e0]
      exact e_callTy T.str bt_str <| a_cons <| e_var 1 rfl <| a_nil <| c_strI (log_ok (hb _ (List.getElem_mem hi))) ⟨rfl, rfl⟩
    · rw [List.length_map, map_range_eq is _ (fun n => D.str (num n)) fun i x e => by rw [List.getD_eq_getElem?_getD, e]; rfl]
      rw [show is.map (fun n => D.str (num n)) = (is.map num).map D.str by rw [List.map_map]; rfl]
      refine ⟨_, .lst, join_size (m := 42) (n := 1000) (fun y hy => ?_) (by rw [List.length_map]; exact hl) (by decide) (by decide), ?_⟩
      · obtain ⟨i, hi, rfl⟩ := List.mem_map.mp hy
        exact num_len42 (hb i hi)
      · rw [show Txt.join " " (is.map num) = numsT is from join_jn _]
        exact ⟨_, Sub.refl _, k⟩
def S_law_or_none : AS := fun ds G R => ∃ ys : List Str, ds = [.lst (ys.map D.str)] ∧ (ys.map (·.length)).sum + ys.length * 2 ≤ 16777216 ∧ R (.str (orT ys)) G
theorem sc_law_or_none : FnScope ["_law_texts"] ["_law_texts"] (defScope (top 109)) := ⟨rfl, rfl, rfl, by decide +kernel, rfl, by decide +kernel, by decide +kernel⟩
theorem f_law_or_none (T : Blt K mg) (dt : Dat K mg d_law_or_none "_law_or_none") : Fn P w K mg base 1 "_law_or_none" ["_law_texts"] [] S_law_or_none := by
  obtain ⟨f, fd, F, hm⟩ := dt
  refine ⟨f, cal_of F sc_law_or_none (fun ds G R h => ?_) (fun _ _ _ _ _ _ us hl => match us, hl with | [_], _ => rfl) (fun cdv A outer s H E hr ds G R h => ?_), hm⟩
  · obtain ⟨ys, rfl, hs, _⟩ := h
    rfl
  · obtain ⟨ys, rfl, hs, k⟩ := h
    unfold orT at k
    refine b_cons <| s_if <| t_cmp <| e_var 0 rfl <| e_lst <| a_nil ⟨Nat.le_of_ble_eq_true rfl, o_eqNil hr.units .lst ⟨_, rfl, ?_⟩⟩
    rw [map_ne]
    by_cases h0 : ys = []
    · subst h0
      exact iteTT <| b_one <| s_ret <| e_str ⟨_, Sub.refl _, k⟩
    rw [if_neg h0] at k
    refine ite_f (by cases ys with
      | nil => exact absurd rfl h0
      | cons _ _ => rfl) <| b_nil <| b_one <| s_ret <| e_join <| e_str ⟨_, rfl, e_var 0 rfl ⟨ys, .lst, hs, ?_⟩⟩
    rw [show Txt.join "; " ys = Str.join smc ys from join_eq _ _]
    exact ⟨_, Sub.refl _, k⟩
end
end J
namespace J
open PySem PySem.Spec PyProof.Rows L2 TL
theorem n_sqv {X : Cx} {Γ : SG} {G : Gp} {tg : Expr} {pos : Pos} {R : Nat → (Nat → D) → (Gp → Prop) → Gp → Prop} {d : D} {ds : List D} (i : Nat) {x : Str} (hi : Γ[i]? = some (some d)) (hs : Sq G d ds) (r : ∀ ok : Gp → Prop, ok G → R ds.length (at0 ds) ok G) (hN : X.N[i]? = some x := by rfl)
    (hv : Vis X.env.scope x := by first | exact Or.inl rfl | exact Or.inr (Or.inl rfl) | exact Or.inr (Or.inr rfl)) (hd : (x == ("__debug__" : Str)) = false := by decide) (hcd : (x == ("__classdict__" : Str)) = false := by decide) : NN X tg (.Name x pos) Γ G R := by
  rcases hs with h | h
  · exact n_list (e_var i hi ⟨ds, h, r _ (lok_now h)⟩ hN hv hd hcd)
  · exact n_tup (e_var i hi ⟨ds, h, r _ trivial⟩ hN hv hd hcd)
theorem deedW_cnt (x : Deed) : (deedW x).length ≤ 6 := by
  by_cases h : x = look
  · subst h; unfold deedW; rw [if_pos rfl]; decide
  · rcases deed_cases h with ⟨l, _, _, e⟩ | ⟨_, e⟩
    · rw [e]; exact Nat.le_of_ble_eq_true rfl
    · rw [e, flat_len2]; have := partL_len x; omega
theorem deedW_len {x : Deed} (h : x.fit) : ∀ w ∈ deedW x, w.length ≤ 601 := by
  intro w hw
  by_cases hx : x = look
  · subst hx; unfold deedW at hw; rw [if_pos rfl] at hw; rw [List.mem_singleton.mp hw]; decide +kernel
  · rcases deed_cases hx with ⟨l, h1, _, e⟩ | ⟨_, e⟩
    · rw [e] at hw
      rcases List.mem_cons.mp hw with z | z
      · rw [z]; decide +kernel
      · rw [List.mem_singleton.mp z]; exact num_len' (h.2.1 l h1)
    · rw [e] at hw
      obtain ⟨p, hp, hw⟩ := List.mem_flatten.mp hw
      obtain ⟨q, hq, rfl⟩ := List.mem_map.mp hp
      rcases List.mem_cons.mp hw with z | z
      · rw [z]; rcases partL_names x q hq with e | e | e <;> rw [e] <;> decide +kernel
      · rw [List.mem_singleton.mp z]; exact num_len' (partL_fit h q hq)
theorem semi_cnt : ∀ ws : List Str, (semi ws).length = ws.length
  | [] => rfl
  | [w] => rfl
  | w :: x :: r => by
    show (semi (x :: r)).length + 1 = _
    rw [semi_cnt (x :: r)]
    rfl
theorem semi_len {m : Nat} : ∀ {ws : List Str}, (∀ w ∈ ws, w.length ≤ m) → ∀ w ∈ semi ws, w.length ≤ m + 1
  | [], _, w, h => by cases h
  | [x], hx, w, h => by
    rw [List.mem_singleton.mp h, Str.length_append]
    have := hx x List.mem_cons_self
    have e : (";" : Str).length = 1 := rfl
    omega
  | x :: y :: r, hx, w, h => by
    rcases List.mem_cons.mp h with e | e
    · rw [e]; have := hx x List.mem_cons_self; omega
    · exact semi_len (ws := y :: r) (fun z hz => hx z (List.mem_cons_of_mem _ hz)) w e
theorem allW_cnt {m : Nat} : ∀ {xs : List (List Str)}, (∀ x ∈ xs, x.length ≤ m) → (allW xs).length ≤ xs.length * m
  | [], _ => Nat.zero_le _
  | [x], h => by have := h x List.mem_cons_self; show x.length ≤ 1 * m; omega
  | x :: y :: r, h => by
    show (semi x ++ allW (y :: r)).length ≤ _
    rw [List.length_append, semi_cnt]
    have h1 := h x List.mem_cons_self
    have h2 := allW_cnt (xs := y :: r) fun z hz => h z (List.mem_cons_of_mem _ hz)
    rw [show (x :: y :: r).length = (y :: r).length + 1 from rfl, Nat.add_mul]
    omega
theorem allW_len {m : Nat} : ∀ {xs : List (List Str)}, (∀ x ∈ xs, ∀ w ∈ x, w.length ≤ m) → ∀ w ∈ allW xs, w.length ≤ m + 1
  | [], _, w, h => by cases h
  | [x], hx, w, h => by have := hx x List.mem_cons_self w h; omega
  | x :: y :: r, hx, w, h => by
    rcases List.mem_append.mp h with e | e
    · exact semi_len (hx x List.mem_cons_self) w e
    · exact allW_len (xs := y :: r) (fun z hz => hx z (List.mem_cons_of_mem _ hz)) w e
theorem jn_len {ws : List Str} {m n : Nat} (h : ∀ y ∈ ws, y.length ≤ m) (hn : ws.length ≤ n) : (jn ws).length ≤ n * (m + 1) := by
  have z := StrLaws.join_length_le sp ws
  have z1 := sum_le (xs := ws.map (·.length)) (m := m) fun x hx => by
    obtain ⟨y, hy, rfl⟩ := List.mem_map.mp hx
    exact h y hy
  rw [List.length_map] at z1
  have e : sp.length = 1 := rfl
  rw [e, Nat.mul_one] at z
  have z2 : ws.length * m + ws.length = ws.length * (m + 1) := by rw [Nat.mul_add, Nat.mul_one]
  have z3 : ws.length * (m + 1) ≤ n * (m + 1) := Nat.mul_le_mul_right _ hn
  show (Str.join sp ws).length ≤ _
  omega
def askW (a : Ask) : List Str := num (a.hand : Nat) :: num (a.box : Nat) :: deedW a.deed
def askT (a : Ask) : Str := jn (askW a)
theorem askW_words (a : Ask) : ∀ w ∈ askW a, WordS w := by
  intro w hw
  rcases List.mem_cons.mp hw with e | hw
  · rw [e]; exact num_word _
  · rcases List.mem_cons.mp hw with e | hw
    · rw [e]; exact num_word _
    · exact deedW_words _ w hw
theorem askT_eq (a : Ask) : askT a = num (a.hand : Nat) ++ " " ++ num (a.box : Nat) ++ " " ++ deedT a.deed := by
  show jn (num (a.hand : Nat) :: num (a.box : Nat) :: deedW a.deed) = _
  obtain ⟨y, s, e⟩ : ∃ y s, deedW a.deed = y :: s := by
    cases q : deedW a.deed with
    | nil => exact absurd q (deedW_ne _)
    | cons y s => exact ⟨y, s, rfl⟩
  unfold deedT
  rw [e, jn_cons, jn_cons]
  simp only [sapp_assoc]
  rfl
theorem split_ask (a : Ask) : Txt.split (askT a) sp = askW a := split_jn (List.cons_ne_nil _ _) fun w hw => (wordS_free (askW_words a w hw)).1
theorem askW_len {a : Ask} (h : a.deed.fit) (h1 : a.hand ≤ 100000) (h2 : a.box ≤ 100000) : ∀ w ∈ askW a, w.length ≤ 601 := by
  intro w hw
  rcases List.mem_cons.mp hw with e | hw
  · rw [e]; exact num_len' (okB_nat h1)
  · rcases List.mem_cons.mp hw with e | hw
    · rw [e]; exact num_len' (okB_nat h2)
    · exact deedW_len h w hw
theorem askW_cnt (a : Ask) : (askW a).length ≤ 8 := by
  show (deedW a.deed).length + 1 + 1 ≤ 8
  have := deedW_cnt a.deed
  omega
theorem cut_to2 {x y : D} {r : List D} : cutD (x :: y :: r) none (some 2) = [x, y] := by
  show ((x :: y :: r).drop 0).take (HT.sIx (r.length + 1 + 1) (r.length + 1 + 1) (some ((2 : Nat) : Int)) - 0) = _
  rw [HT.sIx_nat, Nat.min_eq_left (by omega)]
  rfl
theorem cut_from2 {x y : D} {r : List D} : cutD (x :: y :: r) (some 2) none = r := by
  show ((x :: y :: r).drop (HT.sIx (r.length + 1 + 1) 0 (some ((2 : Nat) : Int)))).take ((r.length + 1 + 1) - HT.sIx (r.length + 1 + 1) 0 (some ((2 : Nat) : Int))) = _
  rw [HT.sIx_nat, Nat.min_eq_left (by omega)]
  show r.take (r.length + 1 + 1 - 2) = r
  rw [List.take_of_length_le (by omega)]
theorem wait1_len {i : Item} (h : i.box ≤ 100000) (hf : i.deed.fit) : (wait1 i).length ≤ 3050 := by
  show (num (i.box : Nat) ++ " " ++ deedT i.deed).length ≤ 3050
  rw [Str.length_append, Str.length_append]
  have a := num_len42 (okB_nat h)
  have b := deedT_len hf
  have e : (" " : Str).length = 1 := rfl
  omega
theorem getD_at {α : Type} {xs : List α} {i : Nat} (d : α) (h : i < xs.length) : xs.getD i d = xs[i] := by rw [List.getD_eq_getElem?_getD, List.getElem?_eq_getElem h]; rfl
section
variable {P : Program} {w : World} {K : PySem.W.Frag} {mg : Str → Option Value} {base : Heap}
def S_law_answers_text : AS := fun ds G R => ∃ (d : D) (ps : List (Nat × Int)), ds = [d] ∧ Sq G d (ps.map dAns) ∧ (∀ p ∈ ps, p.1 ≤ 100000 ∧ okB p.2) ∧ ps.length ≤ 20000 ∧ R (.str (ansT ps)) G
theorem sc_law_answers_text : FnScope ["_law_answers", "_law_number_here", "_law_value"] ["_law_answers"] (defScope (top 110)) := ⟨rfl, rfl, rfl, by decide +kernel, rfl, by decide +kernel, by decide +kernel⟩
theorem f_law_answers_text (T : Blt K mg) (dt : Dat K mg d_law_answers_text "_law_answers_text") (c1 : Fn P w K mg base 1 "_law_or_none" ["_law_texts"] [] S_law_or_none) : Fn P w K mg base 2 "_law_answers_text" ["_law_answers"] [] S_law_answers_text := by
  obtain ⟨f, fd, F, hm⟩ := dt
  refine ⟨f, cal_of F sc_law_answers_text (fun ds G R h => ?_) (fun _ _ _ _ _ _ us hl => match us, hl with | [_], _ => rfl) (fun cdv A outer s H E hr ds G R h => ?_), hm⟩
  · obtain ⟨d, ps, rfl, hs, hb, hl, _⟩ := h
    rfl
  · obtain ⟨d, ps, rfl, hs, hb, hl, k⟩ := h
    obtain ⟨f1, q1, m1⟩ := c1
    refine b_one <| s_ret <| e_call q1 m1 (hr.mono (by decide)) <| a_cons <| e_lc [("_law_number_here", 1), ("_law_value", 2)] sc_law_answers_text.nd (blkOk_by rfl) (by intro _ _ _ _ _; refine pg2 (i := 1) (j := 2) (K := K) ?_ ?_ ?_ ?_ ?_ ?_ ?_ ?_ ?_ <;> first | exact sc_law_answers_text.nd | rfl | exact Or.inl rfl | exact Or.inr rfl) <| n_sqv 0 rfl hs fun ok ho => ?_
    refine lc_map (fun i => .str (ans1 (ps.getD i (0, 0)))) (fun i => [(1, .int ((ps.getD i (0, 0)).1 : Nat)), (2, .int (ps.getD i (0, 0)).2)]) ho (by rw [List.length_map]; omega) (by intro i u hu; simp at hu; rcases hu with e | e <;> subst e <;> simp) (fun i hi => ?_) (fun i hi s H0 C cl fp => ?_) ?_
    · rw [List.length_map] at hi
      rw [at0_map hi, getD_at _ hi]
      exact tg_tup (tgs_cons tg_name (tgs_cons tg_name tgs_nil))
    · rw [List.length_map] at hi
      rw [getD_at _ hi]
      have h := hb _ (List.getElem_mem hi)
      have a := num_len42 (okB_nat h.1)
      have b := num_len42 h.2
      have e : (" " : Str).length = 1 := rfl
      exact e_bin <| e_bin <| e_callTy T.str bt_str <| a_cons <| e_var 1 rfl <| a_nil <| c_strI (log_ok (okB_nat h.1)) <| e_str <| o_addS (sz16 (by show (num _).length + _ ≤ _; omega)) <| e_callTy T.str bt_str <| a_cons <| e_var 2 rfl <| a_nil <| c_strI (log_ok h.2) <| o_addS (by rw [Str.length_append]; exact sz16 (by show (num _).length + _ + (num _).length ≤ _; omega)) ⟨rfl, rfl⟩
    · rw [List.length_map, map_range_eq ps _ (fun p => D.str (ans1 p)) fun i x e => by rw [List.getD_eq_getElem?_getD, e]; rfl]
      rw [show ps.map (fun p => D.str (ans1 p)) = (ps.map ans1).map D.str by rw [List.map_map]; rfl]
      refine a_nil ⟨_, rfl, ?_, ⟨_, Sub.refl _, k⟩⟩
      have z := join_size (ys := ps.map ans1) (z := smc) (m := 85) (n := 20000) (fun y hy => by obtain ⟨p, hp, rfl⟩ := List.mem_map.mp hy; exact ans1_len (hb p hp)) (by rw [List.length_map]; exact hl) (by decide) (by decide)
      exact z
def S_law_waiting_text : AS := fun ds G R => ∃ is : List Item, ds = [.tup (is.map dItem)] ∧ (∀ i ∈ is, i.box ≤ 100000 ∧ i.deed.ok ∧ i.deed.fit) ∧ is.length ≤ 1000 ∧ R (.str (waitT is)) G
theorem sc_law_waiting_text : FnScope ["_law_rows", "_law_box", "_law_deed_here", "_law_numbers"] ["_law_rows"] (defScope (top 115)) := ⟨rfl, rfl, rfl, by decide +kernel, rfl, by decide +kernel, by decide +kernel⟩
theorem f_law_waiting_text (T : Blt K mg) (dt : Dat K mg d_law_waiting_text "_law_waiting_text") (c1 : Fn P w K mg base 1 "_law_or_none" ["_law_texts"] [] S_law_or_none) (c2 : Fn P w K mg base 1 "_law_deed_text" ["_law_deed_here"] [] S_law_deed_text) : Fn P w K mg base 2 "_law_waiting_text" ["_law_rows"] [] S_law_waiting_text := by
  obtain ⟨f, fd, F, hm⟩ := dt
  refine ⟨f, cal_of F sc_law_waiting_text (fun ds G R h => ?_) (fun _ _ _ _ _ _ us hl => match us, hl with | [_], _ => rfl) (fun cdv A outer s H E hr ds G R h => ?_), hm⟩
  · obtain ⟨is, rfl, hb, hl, _⟩ := h
    rfl
  · obtain ⟨is, rfl, hb, hl, k⟩ := h
    obtain ⟨f1, q1, m1⟩ := c1
    obtain ⟨f2, q2, m2⟩ := c2
    refine b_one <| s_ret <| e_call q1 m1 (hr.mono (by decide)) <| a_cons <| e_lc [("_law_box", 1), ("_law_deed_here", 2), ("_law_numbers", 3)] sc_law_waiting_text.nd (blkOk_by rfl) (by intro _ _ _ _ _; refine pg3 (i := 1) (j := 2) (l := 3) (K := K) ?_ ?_ ?_ ?_ ?_ ?_ ?_ ?_ ?_ ?_ ?_ ?_ <;> first | exact sc_law_waiting_text.nd | rfl | exact Or.inl rfl | exact Or.inr rfl) <| n_tup <| e_var 0 rfl ⟨_, .tup, ?_⟩
    refine lc_map (fun i => .str (wait1 (is.getD i ⟨0, look, []⟩))) (fun i => [(1, .int ((is.getD i ⟨0, look, []⟩).box : Nat)), (2, dDeed (is.getD i ⟨0, look, []⟩).deed), (3, nats (is.getD i ⟨0, look, []⟩).nums)]) trivial (by rw [List.length_map]; omega) (by intro i u hu; simp at hu; rcases hu with e | e | e <;> subst e <;> simp) (fun i hi => ?_) (fun i hi s H0 C cl fp => ?_) ?_
    · rw [List.length_map] at hi
      rw [at0_map hi, getD_at _ hi]
      exact tg_tup (tgs_cons tg_name (tgs_cons tg_name (tgs_cons tg_name tgs_nil)))
    · rw [List.length_map] at hi
      rw [getD_at _ hi]
      have h := hb _ (List.getElem_mem hi)
      have a := num_len42 (okB_nat h.1)
      have b := deedT_len h.2.2
      have e : (" " : Str).length = 1 := rfl
      exact e_bin <| e_bin <| e_callTy T.str bt_str <| a_cons <| e_var 1 rfl <| a_nil <| c_strI (log_ok (okB_nat h.1)) <| e_str <| o_addS (sz16 (by show (num _).length + _ ≤ _; omega)) <| e_call q2 m2 (hr.mono (by decide)) <| a_cons <| e_var 2 rfl <| a_nil ⟨_, rfl, h.2.1, h.2.2, o_addS (by rw [Str.length_append]; exact sz16 (by show (num _).length + _ + _ ≤ _; omega)) ⟨rfl, rfl⟩⟩
    · rw [List.length_map, map_range_eq is _ (fun p => D.str (wait1 p)) fun i x e => by rw [List.getD_eq_getElem?_getD, e]; rfl]
      rw [show is.map (fun p => D.str (wait1 p)) = (is.map wait1).map D.str by rw [List.map_map]; rfl]
      refine a_nil ⟨_, rfl, ?_, ⟨_, Sub.refl _, k⟩⟩
      have z := join_size (ys := is.map wait1) (z := smc) (m := 3050) (n := 1000) (fun y hy => by obtain ⟨p, hp, rfl⟩ := List.mem_map.mp hy; exact wait1_len (hb p hp).1 (hb p hp).2.2) (by rw [List.length_map]; exact hl) (by decide) (by decide)
      exact z
def S_answers_shown : AS := fun ds G R => ∃ (d : D) (ps : List (Nat × Int)), ds = [d] ∧ Sq G d (ps.map dAns) ∧ (∀ p ∈ ps, p.1 ≤ 100000 ∧ okB p.2) ∧ ps.length ≤ 20000 ∧ R (.str (ansT ps)) G
theorem sc_answers_shown : FnScope ["some", "texts", "number", "value"] ["some"] (defScope (top 93)) := ⟨rfl, rfl, rfl, by decide +kernel, rfl, by decide +kernel, by decide +kernel⟩
theorem f_answers_shown (T : Blt K mg) (dt : Dat K mg d_answers_shown "answers_shown") : Fn P w K mg base 1 "answers_shown" ["some"] [] S_answers_shown := by
  obtain ⟨f, fd, F, hm⟩ := dt
  refine ⟨f, cal_of F sc_answers_shown (fun ds G R h => ?_) (fun _ _ _ _ _ _ us hl => match us, hl with | [_], _ => rfl) (fun cdv A outer s H E hr ds G R h => ?_), hm⟩
  · obtain ⟨d, ps, rfl, hs, hb, hl, _⟩ := h
    rfl
  · obtain ⟨d, ps, rfl, hs, hb, hl, k⟩ := h
    refine b_cons <| s_setLc 1 [("number", 2), ("value", 3)] sc_answers_shown.nd (blkOk_by rfl) (by intro _ _ _ _ _; refine pg2 (i := 2) (j := 3) (K := K) ?_ ?_ ?_ ?_ ?_ ?_ ?_ ?_ ?_ <;> first | exact sc_answers_shown.nd | rfl | exact Or.inl rfl | exact Or.inr rfl) (sw_true rfl rfl rfl (by decide +kernel)) <| n_sqv 0 rfl hs fun ok ho => ?_
    refine lc_map (fun i => .str (ans1 (ps.getD i (0, 0)))) (fun i => [(2, .int ((ps.getD i (0, 0)).1 : Nat)), (3, .int (ps.getD i (0, 0)).2)]) ho (by rw [List.length_map]; omega) (by intro i u hu; simp at hu; rcases hu with e | e <;> subst e <;> simp) (fun i hi => ?_) (fun i hi s H0 C cl fp => ?_) ?_
    · rw [List.length_map] at hi
      rw [at0_map hi, getD_at _ hi]
      exact tg_tup (tgs_cons tg_name (tgs_cons tg_name tgs_nil))
    · rw [List.length_map] at hi
      rw [getD_at _ hi]
      have h := hb _ (List.getElem_mem hi)
      have a := num_len42 (okB_nat h.1)
      have b := num_len42 h.2
      have e : (" " : Str).length = 1 := rfl
      exact e_bin <| e_bin <| e_callTy T.str bt_str <| a_cons <| e_var 2 rfl <| a_nil <| c_strI (log_ok (okB_nat h.1)) <| e_str <| o_addS (sz16 (by show (num _).length + _ ≤ _; omega)) <| e_callTy T.str bt_str <| a_cons <| e_var 3 rfl <| a_nil <| c_strI (log_ok h.2) <| o_addS (by rw [Str.length_append]; exact sz16 (by show (num _).length + _ + (num _).length ≤ _; omega)) ⟨rfl, rfl⟩
    · rw [List.length_map, map_range_eq ps _ (fun p => D.str (ans1 p)) fun i x e => by rw [List.getD_eq_getElem?_getD, e]; rfl]
      rw [show ps.map (fun p => D.str (ans1 p)) = (ps.map ans1).map D.str by rw [List.map_map]; rfl]
      have z := join_size (ys := ps.map ans1) (z := smc) (m := 85) (n := 20000) (fun y hy => by obtain ⟨p, hp, rfl⟩ := List.mem_map.mp hy; exact ans1_len (hb p hp)) (by rw [List.length_map]; exact hl) (by decide) (by decide)
      unfold ansT orT at k
      refine b_one <| s_ret <| e_ifexp <| t_cmp <| e_var 1 rfl <| e_lst <| a_nil ⟨Nat.le_of_ble_eq_true rfl, o_neNil hr.units .lst ⟨_, rfl, ?_⟩⟩
      rw [map_ne]
      by_cases h0 : ps.map ans1 = []
      · rw [if_pos h0] at k
        rw [h0]
        exact iteFF <| e_gS T.nothing ⟨_, Sub.refl _, k⟩
      · rw [if_neg h0] at k
        refine ite_t (by cases q : ps.map ans1 with
          | nil => exact absurd q h0
          | cons _ _ => rfl) <| e_join <| e_gS T.parting ⟨_, rfl, e_var 1 rfl ⟨_, .lst, z, ?_⟩⟩
        rw [show Txt.join "; " (ps.map ans1) = Str.join smc (ps.map ans1) from join_eq _ _]
        exact ⟨_, Sub.refl _, k⟩
def S_waiting_shown : AS := fun ds G R => ∃ is : List Item, ds = [.tup (is.map dItem)] ∧ (∀ i ∈ is, i.box ≤ 100000 ∧ i.deed.ok ∧ i.deed.fit) ∧ is.length ≤ 1000 ∧ R (.str (waitT is)) G
theorem sc_waiting_shown : FnScope ["some", "texts", "box", "deed", "numbers"] ["some"] (defScope (top 94)) := ⟨rfl, rfl, rfl, by decide +kernel, rfl, by decide +kernel, by decide +kernel⟩
theorem f_waiting_shown (T : Blt K mg) (dt : Dat K mg d_waiting_shown "waiting_shown") (c1 : Fn P w K mg base 5 "deed_text" ["deed"] [] S_deed_text) : Fn P w K mg base 6 "waiting_shown" ["some"] [] S_waiting_shown := by
  obtain ⟨f, fd, F, hm⟩ := dt
  refine ⟨f, cal_of F sc_waiting_shown (fun ds G R h => ?_) (fun _ _ _ _ _ _ us hl => match us, hl with | [_], _ => rfl) (fun cdv A outer s H E hr ds G R h => ?_), hm⟩
  · obtain ⟨is, rfl, hb, hl, _⟩ := h
    rfl
  · obtain ⟨is, rfl, hb, hl, k⟩ := h
    obtain ⟨f1, q1, m1⟩ := c1
    refine b_cons <| s_setLc 1 [("box", 2), ("deed", 3), ("numbers", 4)] sc_waiting_shown.nd (blkOk_by rfl) (by intro _ _ _ _ _; refine pg3 (i := 2) (j := 3) (l := 4) (K := K) ?_ ?_ ?_ ?_ ?_ ?_ ?_ ?_ ?_ ?_ ?_ ?_ <;> first | exact sc_waiting_shown.nd | rfl | exact Or.inl rfl | exact Or.inr rfl) (sw_true rfl rfl rfl (by decide +kernel)) <| n_tup <| e_var 0 rfl ⟨_, .tup, ?_⟩
    refine lc_map (fun i => .str (wait1 (is.getD i ⟨0, look, []⟩))) (fun i => [(2, .int ((is.getD i ⟨0, look, []⟩).box : Nat)), (3, dDeed (is.getD i ⟨0, look, []⟩).deed), (4, nats (is.getD i ⟨0, look, []⟩).nums)]) trivial (by rw [List.length_map]; omega) (by intro i u hu; simp at hu; rcases hu with e | e | e <;> subst e <;> simp) (fun i hi => ?_) (fun i hi s H0 C cl fp => ?_) ?_
    · rw [List.length_map] at hi
      rw [at0_map hi, getD_at _ hi]
      exact tg_tup (tgs_cons tg_name (tgs_cons tg_name (tgs_cons tg_name tgs_nil)))
    · rw [List.length_map] at hi
      rw [getD_at _ hi]
      have h := hb _ (List.getElem_mem hi)
      have a := num_len42 (okB_nat h.1)
      have b := deedT_len h.2.2
      have e : (" " : Str).length = 1 := rfl
      exact e_bin <| e_bin <| e_callTy T.str bt_str <| a_cons <| e_var 2 rfl <| a_nil <| c_strI (log_ok (okB_nat h.1)) <| e_str <| o_addS (sz16 (by show (num _).length + _ ≤ _; omega)) <| e_call q1 m1 (hr.mono (by decide)) <| a_cons <| e_var 3 rfl <| a_nil ⟨_, rfl, h.2.1, h.2.2, o_addS (by rw [Str.length_append]; exact sz16 (by show (num _).length + _ + _ ≤ _; omega)) ⟨rfl, rfl⟩⟩
    · rw [List.length_map, map_range_eq is _ (fun p => D.str (wait1 p)) fun i x e => by rw [List.getD_eq_getElem?_getD, e]; rfl]
      rw [show is.map (fun p => D.str (wait1 p)) = (is.map wait1).map D.str by rw [List.map_map]; rfl]
      have z := join_size (ys := is.map wait1) (z := smc) (m := 3050) (n := 1000) (fun y hy => by obtain ⟨p, hp, rfl⟩ := List.mem_map.mp hy; exact wait1_len (hb p hp).1 (hb p hp).2.2) (by rw [List.length_map]; exact hl) (by decide) (by decide)
      unfold waitT orT at k
      refine b_one <| s_ret <| e_ifexp <| t_cmp <| e_var 1 rfl <| e_lst <| a_nil ⟨Nat.le_of_ble_eq_true rfl, o_neNil hr.units .lst ⟨_, rfl, ?_⟩⟩
      rw [map_ne]
      by_cases h0 : is.map wait1 = []
      · rw [if_pos h0] at k
        rw [h0]
        exact iteFF <| e_gS T.nothing ⟨_, Sub.refl _, k⟩
      · rw [if_neg h0] at k
        refine ite_t (by cases q : is.map wait1 with
          | nil => exact absurd q h0
          | cons _ _ => rfl) <| e_join <| e_gS T.parting ⟨_, rfl, e_var 1 rfl ⟨_, .lst, z, ?_⟩⟩
        rw [show Txt.join "; " (is.map wait1) = Str.join smc (is.map wait1) from join_eq _ _]
        exact ⟨_, Sub.refl _, k⟩
def S_deeds_in : AS := fun ds G R => ∃ xs : List Deed, ds = [.lst ((allW (xs.map deedW)).map D.str)] ∧ xs ≠ [] ∧ xs.length ≤ 10 ∧ (∀ x ∈ xs, x.ok ∧ x.fit) ∧ R (.lst (xs.map dDeed)) G
theorem sc_deeds_in : FnScope ["some", "text"] ["some"] (defScope (top 90)) := ⟨rfl, rfl, rfl, by decide +kernel, rfl, by decide +kernel, by decide +kernel⟩
theorem f_deeds_in (T : Blt K mg) (dt : Dat K mg d_deeds_in "deeds_in") (c1 : Fn P w K mg base 6 "read_deed" ["text"] [] S_read_deed) : Fn P w K mg base 7 "deeds_in" ["some"] [] S_deeds_in := by
  obtain ⟨f, fd, F, hm⟩ := dt
  refine ⟨f, cal_of F sc_deeds_in (fun ds G R h => ?_) (fun _ _ _ _ _ _ us hl => match us, hl with | [_], _ => rfl) (fun cdv A outer s H E hr ds G R h => ?_), hm⟩
  · obtain ⟨xs, rfl, h0, hl, hx, _⟩ := h
    rfl
  · obtain ⟨xs, rfl, h0, hl, hx, k⟩ := h
    obtain ⟨f1, q1, m1⟩ := c1
    have hc : (allW (xs.map deedW)).length ≤ 60 := by
      have := allW_cnt (m := 6) (xs := xs.map deedW) fun x hx => by obtain ⟨y, _, rfl⟩ := List.mem_map.mp hx; exact deedW_cnt y
      rw [List.length_map] at this
      omega
    have hw : ∀ w ∈ allW (xs.map deedW), w.length ≤ 602 := allW_len (m := 601) fun x hx' w hw => by obtain ⟨y, hy, rfl⟩ := List.mem_map.mp hx'; exact deedW_len (hx y hy).2 w hw
    have ej : Txt.join " " (allW (xs.map deedW)) = Str.join smc ((xs.map deedW).map jn) := by
      rw [show Txt.join " " (allW (xs.map deedW)) = jn (allW (xs.map deedW)) from join_jn _]
      exact (allW_jn (fun z => h0 (List.map_eq_nil_iff.mp z)) fun x hx' => by obtain ⟨y, _, rfl⟩ := List.mem_map.mp hx'; exact deedW_ne y).symm
    have es : Txt.split (Str.join smc ((xs.map deedW).map jn)) smc = (xs.map deedW).map jn := split_smc (fun z => h0 (List.map_eq_nil_iff.mp z)) fun x hx' w hw => by obtain ⟨y, _, rfl⟩ := List.mem_map.mp hx'; exact deedW_words y w hw
    refine b_one <| s_ret <| e_lc [("text", 1)] sc_deeds_in.nd (blkOk_by rfl) (fun _ _ _ _ _ => (pg_name (i := 1) sc_deeds_in.nd rfl (Or.inl rfl))) <| n_list <| e_split <| e_join <| e_str ⟨_, rfl, e_var 0 rfl ⟨_, .lst, join_size (m := 602) (n := 60) hw hc (by decide) (by decide), ⟨_, rfl, e_gS T.parting ⟨_, rfl, rfl, ?_, _, .lst, ?_⟩⟩⟩⟩
    · rw [show Txt.join " " (allW (xs.map deedW)) = jn (allW (xs.map deedW)) from join_jn _]
      exact Nat.le_trans (Nat.add_le_add_right (jn_len hw hc) 2) (by decide)
    rw [ej, show Txt.split (Str.join smc ((xs.map deedW).map jn)) "; " = (xs.map deedW).map jn from es]
    rw [show ((xs.map deedW).map jn).map D.str = xs.map fun x => D.str (deedT x) by rw [List.map_map, List.map_map]; rfl]
    refine lc_map (fun i => dDeed (xs.getD i look)) (fun i => [(1, .str (deedT (xs.getD i look)))]) trivial (by rw [List.length_map]; omega) (by simp) (fun i hi => ?_) (fun i hi s H0 C cl fp => ?_) ?_
    · rw [List.length_map] at hi
      rw [at0_map hi, getD_at _ hi]
      exact tg_name
    · rw [List.length_map] at hi
      rw [getD_at _ hi]
      have h := hx _ (List.getElem_mem hi)
      exact e_call q1 m1 (hr.mono (by decide)) <| a_cons <| e_var 1 rfl <| a_nil ⟨_, rfl, h.1, h.2, rfl, rfl⟩
    · rw [List.length_map, map_range_eq xs _ dDeed fun i x e => by rw [List.getD_eq_getElem?_getD, e]; rfl]
      exact ⟨_, Sub.refl _, k⟩
end
end J
namespace J
open PySem PySem.Spec PyProof.Rows L2 TL
def wayL (k hand goal level : Nat) : Nat := goal / 2 ^ (k - level) * 2 ^ (k - level) + hand % 2 ^ (k - level)
def noW (k line stage : Nat) : Nat := line / 2 ^ (k - stage + 1) * 2 ^ (k - stage) + line % 2 ^ (k - stage)
theorem way_eq {l hand goal : Nat} (h1 : l ≤ 4) (h2 : hand < 16) (h3 : goal < 16) : Builtin.bitOr ((goal : Int) / 2 ^ ((l : Nat) : Int).toNat * 2 ^ ((l : Nat) : Int).toNat) (Builtin.bitAnd (hand : Int) (1 * 2 ^ ((l : Nat) : Int).toNat - 1)) = (goal / 2 ^ l * 2 ^ l + hand % 2 ^ l : Nat) := by
  have h : ∀ l : Fin 5, ∀ hand goal : Fin 16, Builtin.bitOr ((goal.val : Int) / 2 ^ ((l.val : Nat) : Int).toNat * 2 ^ ((l.val : Nat) : Int).toNat) (Builtin.bitAnd (hand.val : Int) (1 * 2 ^ ((l.val : Nat) : Int).toNat - 1)) = (goal.val / 2 ^ l.val * 2 ^ l.val + hand.val % 2 ^ l.val : Nat) := by decide +kernel
  exact h ⟨l, by omega⟩ ⟨hand, h2⟩ ⟨goal, h3⟩
theorem noW_eq {l line : Nat} (h1 : l ≤ 3) (h2 : line < 16) : Builtin.bitOr ((line : Int) / 2 ^ (((l : Nat) : Int) + 1).toNat * 2 ^ ((l : Nat) : Int).toNat) (Builtin.bitAnd (line : Int) (1 * 2 ^ ((l : Nat) : Int).toNat - 1)) = (line / 2 ^ (l + 1) * 2 ^ l + line % 2 ^ l : Nat) := by
  have h : ∀ l : Fin 4, ∀ line : Fin 16, Builtin.bitOr ((line.val : Int) / 2 ^ (((l.val : Nat) : Int) + 1).toNat * 2 ^ ((l.val : Nat) : Int).toNat) (Builtin.bitAnd (line.val : Int) (1 * 2 ^ ((l.val : Nat) : Int).toNat - 1)) = (line.val / 2 ^ (l.val + 1) * 2 ^ l.val + line.val % 2 ^ l.val : Nat) := by decide +kernel
  exact h ⟨l, by omega⟩ ⟨line, h2⟩
theorem wayL_lt {k hand goal level : Nat} (h1 : k ≤ 4) (h2 : level ≤ k) (h3 : hand < 2 ^ k) (h4 : goal < 2 ^ k) : wayL k hand goal level < 2 ^ k := by
  have h : ∀ k : Fin 5, ∀ level : Fin 5, ∀ hand goal : Fin 16, level ≤ k → hand.val < 2 ^ k.val → goal.val < 2 ^ k.val → wayL k.val hand.val goal.val level.val < 2 ^ k.val := by decide +kernel
  have := p2_le h1
  exact h ⟨k, by omega⟩ ⟨level, by omega⟩ ⟨hand, by omega⟩ ⟨goal, by omega⟩ h2 h3 h4
theorem noW_lt {k line stage : Nat} (h1 : k ≤ 4) (h2 : stage ≤ k) (h0 : 1 ≤ stage) (h3 : line < 2 ^ k) : noW k line stage < 2 ^ (k - 1) := by
  have h : ∀ k : Fin 5, ∀ stage : Fin 5, ∀ line : Fin 16, stage ≤ k → 1 ≤ stage.val → line.val < 2 ^ k.val → noW k.val line.val stage.val < 2 ^ (k.val - 1) := by decide +kernel
  have := p2_le h1
  exact h ⟨k, by omega⟩ ⟨stage, by omega⟩ ⟨line, by omega⟩ h2 h0 h3
def zrow (k : Nat) : List D := List.replicate (2 ^ (k - 1)) (.int 0)
def dSet (k : Nat) : D := .tup (List.replicate k (.tup (zrow k)))
theorem rep_range {α : Type} {x : α} : ∀ n : Nat, (List.range n).map (fun _ => x) = List.replicate n x := fun n => by
  apply List.ext_getElem?
  intro i
  rw [List.getElem?_map, List.getElem?_replicate]
  by_cases h : i < n
  · rw [List.getElem?_range h, if_pos h]; rfl
  · rw [List.getElem?_eq_none (by rw [List.length_range]; omega), if_neg h]; rfl
theorem at0_rep {x : D} {n i : Nat} (h : i < n) : at0 (List.replicate n x) i = x := at0_some (by rw [List.getElem?_replicate, if_pos h])
section
variable {P : Program} {w : World} {K : PySem.W.Frag} {mg : Str → Option Value} {base : Heap}
def S_asks_in : AS := fun ds G R => ∃ as : List Ask, ds = [.lst ((allW (as.map askW)).map D.str)] ∧ as ≠ [] ∧ as.length ≤ 10 ∧ (∀ a ∈ as, a.hand ≤ 100000 ∧ a.box ≤ 100000 ∧ a.deed.ok ∧ a.deed.fit) ∧ R (.tup (as.map dAsk)) G
theorem sc_asks_in : FnScope ["some", "parts", "places", "found", "part", "text", "hand", "box"] ["some"] (defScope (top 91)) := ⟨rfl, rfl, rfl, by decide +kernel, rfl, by decide +kernel, by decide +kernel⟩
theorem f_asks_in (T : Blt K mg) (dt : Dat K mg d_asks_in "asks_in") (c1 : Fn P w K mg base 1 "want_row" ["truth"] [] S_want_row) (c2 : Fn P w K mg base 3 "numbers_in" ["some"] [] S_numbers_in) (c3 : Fn P w K mg base 6 "read_deed" ["text"] [] S_read_deed) : Fn P w K mg base 7 "asks_in" ["some"] [] S_asks_in := by
  obtain ⟨f, fd, F, hm⟩ := dt
  refine ⟨f, cal_of F sc_asks_in (fun ds G R h => ?_) (fun _ _ _ _ _ _ us hl => match us, hl with | [_], _ => rfl) (fun cdv A outer s H E hr ds G R h => ?_), hm⟩
  · obtain ⟨as, rfl, h0, hl, hx, _⟩ := h
    rfl
  · obtain ⟨as, rfl, h0, hl, hx, k⟩ := h
    obtain ⟨f1, q1, m1⟩ := c1
    obtain ⟨f2, q2, m2⟩ := c2
    obtain ⟨f3, q3, m3⟩ := c3
    have hc : (allW (as.map askW)).length ≤ 80 := by
      have := allW_cnt (m := 8) (xs := as.map askW) fun x hx => by obtain ⟨y, _, rfl⟩ := List.mem_map.mp hx; exact askW_cnt y
      rw [List.length_map] at this
      omega
    have hw : ∀ w ∈ allW (as.map askW), w.length ≤ 602 := allW_len (m := 601) fun x hx' w hw => by obtain ⟨y, hy, rfl⟩ := List.mem_map.mp hx'; exact askW_len (hx y hy).2.2.2 (hx y hy).1 (hx y hy).2.1 w hw
    have ej : Txt.join " " (allW (as.map askW)) = Str.join smc ((as.map askW).map jn) := by
      rw [show Txt.join " " (allW (as.map askW)) = jn (allW (as.map askW)) from join_jn _]
      exact (allW_jn (fun z => h0 (List.map_eq_nil_iff.mp z)) fun x hx' => by obtain ⟨y, _, rfl⟩ := List.mem_map.mp hx'; exact List.cons_ne_nil _ _).symm
    have es : Txt.split (Str.join smc ((as.map askW).map jn)) smc = (as.map askW).map jn := split_smc (fun z => h0 (List.map_eq_nil_iff.mp z)) fun x hx' w hw => by obtain ⟨y, _, rfl⟩ := List.mem_map.mp hx'; exact askW_words y w hw
    let a0 : Ask := ⟨0, 0, look⟩
    refine b_cons <| s_setLc 1 [("text", 5)] sc_asks_in.nd (blkOk_by rfl) (fun _ _ _ _ _ => (pg_name (i := 5) sc_asks_in.nd rfl (Or.inl rfl))) (sw_true rfl rfl rfl (by decide +kernel)) <| n_list <| e_split <| e_join <| e_str ⟨_, rfl, e_var 0 rfl ⟨_, .lst, join_size (m := 602) (n := 80) hw hc (by decide) (by decide), ⟨_, rfl, e_gS T.parting ⟨_, rfl, rfl, ?_, _, .lst, ?_⟩⟩⟩⟩
    · rw [show Txt.join " " (allW (as.map askW)) = jn (allW (as.map askW)) from join_jn _]
      exact Nat.le_trans (Nat.add_le_add_right (jn_len hw hc) 2) (by decide)
    rw [ej, show Txt.split (Str.join smc ((as.map askW).map jn)) "; " = (as.map askW).map jn from es]
    rw [show ((as.map askW).map jn).map D.str = as.map fun x => D.str (askT x) by rw [List.map_map, List.map_map]; rfl]
    refine lc_map (fun i => .lst ((askW (as.getD i a0)).map D.str)) (fun i => [(5, .str (askT (as.getD i a0)))]) trivial (by rw [List.length_map]; omega) (by simp) (fun i hi => ?_) (fun i hi s H0 C cl fp => ?_) ?_
    · rw [List.length_map] at hi
      rw [at0_map hi, getD_at _ hi]
      exact tg_name
    · rw [List.length_map] at hi
      rw [getD_at _ hi]
      have h := hx _ (List.getElem_mem hi)
      refine e_split <| e_var 5 rfl ⟨_, rfl, e_str ⟨_, rfl, rfl, ?_, ?_, rfl⟩⟩
      · exact Nat.le_trans (Nat.add_le_add_right (jn_len (askW_len h.2.2.2 h.1 h.2.1) (askW_cnt _)) 2) (by decide)
      · rw [show Txt.split (askT as[i]) " " = askW as[i] from split_ask _]
    rw [List.length_map, map_range_eq as _ (fun a => D.lst ((askW a).map D.str)) fun i x e => by rw [List.getD_eq_getElem?_getD, e]; rfl]
    have pat : ∀ i (hi : i < as.length), at0 (as.map fun a => D.lst ((askW a).map D.str)) i = .lst ((askW as[i]).map D.str) := fun i hi => at0_map hi
    refine b_cons <| s_expr <| e_call q1 m1 (hr.mono (by decide)) <| a_cons <| e_callB T.all bt_all <| a_cons <| e_lc [("part", 4)] sc_asks_in.nd (blkOk_by rfl) (fun _ _ _ _ _ => (pg_name (i := 4) sc_asks_in.nd rfl (Or.inl rfl))) <| n_list <| e_var 1 rfl ⟨_, .lst, ?_⟩
    refine lc_map (fun _ => .bl true) (fun i => [(4, at0 (as.map fun a => D.lst ((askW a).map D.str)) i)]) trivial (by rw [List.length_map]; omega) (by simp) (fun i hi => tg_name) (fun i hi s H0 C cl fp => ?_) ?_
    · rw [List.length_map] at hi
      rw [pat i hi]
      refine e_cmp <| e_callB T.len bt_len <| a_cons <| e_var 4 rfl <| a_nil <| c_lenL .lst <| e_int <| o_gt ⟨?_, rfl⟩
      rw [List.length_map]
      have : 3 ≤ (askW as[i]).length := by
        show 3 ≤ (deedW _).length + 1 + 1
        have := List.length_pos_iff.mpr (deedW_ne as[i].deed)
        omega
      rw [decide_eq_true (by omega)]
    refine a_nil <| c_allT <| a_nil ⟨rfl, ?_⟩
    refine b_cons <| s_setLc 2 [("part", 4)] sc_asks_in.nd (blkOk_by rfl) (fun _ _ _ _ _ => (pg_name (i := 4) sc_asks_in.nd rfl (Or.inl rfl))) (sw_true rfl rfl rfl (by decide +kernel)) <| n_list <| e_var 1 rfl ⟨_, .lst, ?_⟩
    refine lc_map (fun i => .lst [.int ((as.getD i a0).hand : Nat), .int ((as.getD i a0).box : Nat)]) (fun i => [(4, at0 (as.map fun a => D.lst ((askW a).map D.str)) i)]) trivial (by rw [List.length_map]; omega) (by simp) (fun i hi => tg_name) (fun i hi s H0 C cl fp => ?_) ?_
    · rw [List.length_map] at hi
      rw [pat i hi, getD_at _ hi]
      have h := hx _ (List.getElem_mem hi)
      refine e_call q2 m2 (hr.mono (by decide)) <| a_cons <| e_slL .none .int <| e_var 4 rfl ⟨_, .lst, ?_⟩
      rw [show (askW as[i]).map D.str = .str (num (as[i].hand : Nat)) :: .str (num (as[i].box : Nat)) :: (deedW as[i].deed).map D.str from rfl, cut_to2]
      have hn2 : ∀ n ∈ [as[i].hand, as[i].box], n ≤ 100000 := fun n hn => by
        rcases List.mem_cons.mp hn with e | e
        · rw [e]; exact h.1
        · rw [List.mem_singleton.mp e]; exact h.2.1
      exact a_nil ⟨_, [as[i].hand, as[i].box], rfl, .lst, hn2, Nat.le_of_ble_eq_true rfl, rfl, rfl⟩
    rw [List.length_map, map_range_eq as _ (fun a => D.lst [.int (a.hand : Nat), .int (a.box : Nat)]) fun i x e => by rw [List.getD_eq_getElem?_getD, e]; rfl]
    have plt : ∀ i (hi : i < as.length), at0 (as.map fun a => D.lst [.int (a.hand : Nat), .int (a.box : Nat)]) i = .lst [.int (as[i].hand : Nat), .int (as[i].box : Nat)] := fun i hi => at0_map hi
    refine b_cons <| s_set 3 sc_asks_in.nd <| e_lstM <| a_nil ⟨Nat.zero_le _, fun q hq => ?_⟩
    refine b_cons <| s_for (pg_tup rfl (pgs_cons (pg_lst rfl (pgs_cons (pg_name (i := 6) sc_asks_in.nd rfl (by first | exact Or.inl rfl | exact Or.inr rfl)) (pgs_cons (pg_name (i := 7) sc_asks_in.nd rfl (by first | exact Or.inl rfl | exact Or.inr rfl)) pgs_nil))) (pgs_cons (pg_name (i := 4) sc_asks_in.nd rfl (by first | exact Or.inl rfl | exact Or.inr rfl)) pgs_nil))) PassesOwn.never <| n_zip T.zip <| a_cons <| e_var 2 rfl <| a_cons <| e_var 1 rfl <| a_nil ⟨_, _, _, _, rfl, .lst, .lst, ?_⟩
    simp only [List.length_map, Nat.min_self]
    refine ⟨fun i Γ G' => Γ.length = 8 ∧ Γ[3]? = some (some (.ref q)) ∧ G' q = some (.lst ((as.take i).map dAsk)) ∧ Sub G G', ⟨rfl, rfl, gup_same, fun a m h => by rw [gup_ne (fun z => by rw [z, hq] at h; cases h)]; exact h⟩, fun _ _ _ _ _ => ⟨trivial, trivial⟩, ?_, ?_⟩
    · rintro i Γ' G' hi ⟨l, g3, hG, sb⟩
      have h := hx _ (List.getElem_mem hi)
      rw [plt i hi, pat i hi]
      refine ⟨_, tg_tup (tgs_cons (tg_lst (tgs_cons tg_name (tgs_cons tg_name tgs_nil))) (tgs_cons tg_name tgs_nil)), ?_⟩
      show SB _ _ (((Γ'.set 6 (some (.int (as[i].hand : Nat)))).set 7 (some (.int (as[i].box : Nat)))).set 4 (some (.lst ((askW as[i]).map D.str)))) _ _
      generalize e1 : Γ'.set 6 (some (.int (as[i].hand : Nat))) = Γ1
      have l1 : Γ1.length = 8 := by rw [← e1, List.length_set]; exact l
      have a6 : Γ1[6]? = some (some (.int (as[i].hand : Nat))) := by rw [← e1]; exact sg_eq (by rw [l]; decide)
      have a3 : Γ1[3]? = some (some (.ref q)) := by rw [← e1]; exact sg_ne g3 (by decide)
      generalize e2 : Γ1.set 7 (some (.int (as[i].box : Nat))) = Γ2
      have l2 : Γ2.length = 8 := by rw [← e2, List.length_set]; exact l1
      have b7 : Γ2[7]? = some (some (.int (as[i].box : Nat))) := by rw [← e2]; exact sg_eq (by rw [l1]; decide)
      have b6 : Γ2[6]? = some (some (.int (as[i].hand : Nat))) := by rw [← e2]; exact sg_ne a6 (by decide)
      have b3 : Γ2[3]? = some (some (.ref q)) := by rw [← e2]; exact sg_ne a3 (by decide)
      refine b_one <| s_expr <| e_bm PySem.F.plainAttrs_list PySem.F.slot_list_append PySem.F.type_list_append <| e_var 3 (sg_ne b3 (by decide)) ⟨.inr (.inl ⟨rfl, _, .ref hG⟩), a_cons <| e_tup <| a_cons <| e_var 6 (sg_ne b6 (by decide)) <| a_cons <| e_var 7 (sg_ne b7 (by decide)) <| a_cons <| e_call q3 m3 (hr.mono (by decide)) <| a_cons <| e_join <| e_str ⟨_, rfl, e_slL .int .none <| e_var 4 (sg_eq (by rw [l2]; decide)) ⟨_, .lst, ?_⟩⟩⟩
      rw [show (askW as[i]).map D.str = .str (num (as[i].hand : Nat)) :: .str (num (as[i].box : Nat)) :: (deedW as[i].deed).map D.str from rfl, cut_from2]
      refine ⟨_, .lst, join_size (m := 601) (n := 6) (deedW_len h.2.2.2) (deedW_cnt _) (by decide) (by decide), a_nil ⟨as[i].deed, by rw [show Txt.join " " (deedW as[i].deed) = deedT as[i].deed from join_jn _]; rfl, h.2.2.1, h.2.2.2, a_nil ⟨Nat.le_of_ble_eq_true rfl, a_nil <| m_append hG (by rw [List.length_map, List.length_take]; omega) ?_⟩⟩⟩
      refine ⟨by rw [List.length_set]; exact l2, sg_ne b3 (by decide), ?_, fun a m h => ?_⟩
      · rw [gup_same, List.take_succ, List.getElem?_eq_getElem hi, List.map_append]; rfl
      · rw [gup_ne (fun z => by rw [z, hq] at h; cases h)]; exact sb a m h
    rintro Γ' G' ⟨l, g3, hG, sb⟩
    rw [List.take_length] at hG
    exact b_one <| s_ret <| e_callTy T.tup bt_tup <| a_cons <| e_var 3 g3 <| a_nil <| c_tupL (.ref hG) ⟨G, sb, k⟩
def S_line_on_way : AS := fun ds G R => ∃ a b c d : Nat, ds = [.int a, .int b, .int c, .int d] ∧ a ≤ 4 ∧ d ≤ a ∧ b < 16 ∧ c < 16 ∧ R (.int (wayL a b c d : Nat)) G
theorem sc_line_on_way : FnScope ["k", "hand", "goal", "level", "left"] ["k", "hand", "goal", "level"] (defScope (top 57)) := ⟨rfl, rfl, rfl, by decide +kernel, rfl, by decide +kernel, by decide +kernel⟩
theorem f_line_on_way (T : Blt K mg) (dt : Dat K mg d_line_on_way "line_on_way") : Fn P w K mg base 1 "line_on_way" ["k", "hand", "goal", "level"] [] S_line_on_way := by
  obtain ⟨f, fd, F, hm⟩ := dt
  refine ⟨f, cal_of F sc_line_on_way (fun ds G R h => ?_) (fun _ _ _ _ _ _ us hl => match us, hl with | [_, _, _, _], _ => rfl) (fun cdv A outer s H E hr ds G R h => ?_), hm⟩
  · obtain ⟨a, b, c, d, rfl, h1, h2, h3, h4, _⟩ := h
    rfl
  · obtain ⟨a, b, c, d, rfl, h1, h2, h3, h4, k⟩ := h
    have e : ((a : Nat) : Int) - (d : Nat) = ((a - d : Nat) : Int) := by omega
    refine b_cons <| s_set 4 sc_line_on_way.nd <| e_bin <| e_var 0 rfl <| e_var 3 rfl <| o_sub ?_
    rw [e]
    refine b_one <| s_ret <| e_bin <| e_bin <| e_bin <| e_var 2 rfl <| e_var 4 rfl <| o_shr (by omega) <| e_var 4 rfl <| o_shl ⟨by omega, by omega, ?_⟩ <| e_bin <| e_var 1 rfl <| e_bin <| e_bin <| e_int <| e_var 4 rfl <| o_shl (cpow_nat (by omega) (by omega) (by omega) (by omega)) <| e_int <| o_sub <| o_and <| o_or ?_
    · have : ((c : Int) / 2 ^ ((a - d : Nat) : Int).toNat).natAbs ≤ c := by
        rw [Int.toNat_natCast, show ((c : Int) / 2 ^ (a - d)) = ((c / 2 ^ (a - d) : Nat) : Int) by push_cast; rfl, Int.natAbs_natCast]
        exact Nat.div_le_self _ _
      omega
    rw [way_eq (by omega) h3 h4]
    exact ⟨_, Sub.refl _, k⟩
def S_figure_in : AS := fun ds G R => ∃ a b c : Nat, ds = [.int a, .int b, .int c] ∧ a ≤ 4 ∧ c ≤ a ∧ b < 16 ∧ R (.int (fig a b c : Nat)) G
theorem sc_figure_in : FnScope ["k", "line", "stage"] ["k", "line", "stage"] (defScope (top 58)) := ⟨rfl, rfl, rfl, by decide +kernel, rfl, by decide +kernel, by decide +kernel⟩
theorem f_figure_in (T : Blt K mg) (dt : Dat K mg d_figure_in "figure_in") : Fn P w K mg base 1 "figure_in" ["k", "line", "stage"] [] S_figure_in := by
  obtain ⟨f, fd, F, hm⟩ := dt
  refine ⟨f, cal_of F sc_figure_in (fun ds G R h => ?_) (fun _ _ _ _ _ _ us hl => match us, hl with | [_, _, _], _ => rfl) (fun cdv A outer s H E hr ds G R h => ?_), hm⟩
  · obtain ⟨a, b, c, rfl, h1, h2, h3, _⟩ := h
    rfl
  · obtain ⟨a, b, c, rfl, h1, h2, h3, k⟩ := h
    refine b_one <| s_ret <| e_bin <| e_bin <| e_var 1 rfl <| e_bin <| e_var 0 rfl <| e_var 2 rfl <| o_sub <| o_shr (by omega) <| e_int <| o_and ?_
    rw [fig_eq h1 h2 h3]
    exact ⟨_, Sub.refl _, k⟩
def S_number_without : AS := fun ds G R => ∃ a b c : Nat, ds = [.int a, .int b, .int c] ∧ a ≤ 4 ∧ c ≤ a ∧ 1 ≤ c ∧ b < 16 ∧ R (.int (noW a b c : Nat)) G
theorem sc_number_without : FnScope ["k", "line", "stage", "left"] ["k", "line", "stage"] (defScope (top 59)) := ⟨rfl, rfl, rfl, by decide +kernel, rfl, by decide +kernel, by decide +kernel⟩
theorem f_number_without (T : Blt K mg) (dt : Dat K mg d_number_without "number_without") : Fn P w K mg base 1 "number_without" ["k", "line", "stage"] [] S_number_without := by
  obtain ⟨f, fd, F, hm⟩ := dt
  refine ⟨f, cal_of F sc_number_without (fun ds G R h => ?_) (fun _ _ _ _ _ _ us hl => match us, hl with | [_, _, _], _ => rfl) (fun cdv A outer s H E hr ds G R h => ?_), hm⟩
  · obtain ⟨a, b, c, rfl, h1, h2, h0, h3, _⟩ := h
    rfl
  · obtain ⟨a, b, c, rfl, h1, h2, h0, h3, k⟩ := h
    have e : ((a : Nat) : Int) - (c : Nat) = ((a - c : Nat) : Int) := by omega
    refine b_cons <| s_set 3 sc_number_without.nd <| e_bin <| e_var 0 rfl <| e_var 2 rfl <| o_sub ?_
    rw [e]
    refine b_one <| s_ret <| e_bin <| e_bin <| e_bin <| e_var 1 rfl <| e_bin <| e_var 3 rfl <| e_int <| o_add <| o_shr (by omega) <| e_var 3 rfl <| o_shl ⟨by omega, by omega, ?_⟩ <| e_bin <| e_var 1 rfl <| e_bin <| e_bin <| e_int <| e_var 3 rfl <| o_shl (cpow_nat (by omega) (by omega) (by omega) (by omega)) <| e_int <| o_sub <| o_and <| o_or ?_
    · have : ((b : Int) / 2 ^ (((a - c : Nat) : Int) + 1).toNat).natAbs ≤ b := by
        rw [show (((a - c : Nat) : Int) + 1).toNat = a - c + 1 by omega, show ((b : Int) / 2 ^ (a - c + 1)) = ((b / 2 ^ (a - c + 1) : Nat) : Int) by push_cast; rfl, Int.natAbs_natCast]
        exact Nat.div_le_self _ _
      omega
    rw [noW_eq (by omega) h3]
    exact ⟨_, Sub.refl _, k⟩
def S_is_setting_row : AS := fun ds G R => ∃ kk : Nat, ds = [.int kk, .tup (zrow kk)] ∧ kk ≤ 4 ∧ 1 ≤ kk ∧ R (.bl true) G
theorem sc_is_setting_row : FnScope ["k", "thing", "number"] ["k", "thing"] (defScope (top 61)) := ⟨rfl, rfl, rfl, by decide +kernel, rfl, by decide +kernel, by decide +kernel⟩
theorem f_is_setting_row (T : Blt K mg) (dt : Dat K mg d_is_setting_row "is_setting_row") (c1 : Fn P w K mg base 1 "is_whole" ["thing"] [] S_is_whole) : Fn P w K mg base 2 "is_setting_row" ["k", "thing"] [] S_is_setting_row := by
  obtain ⟨f, fd, F, hm⟩ := dt
  refine ⟨f, cal_of F sc_is_setting_row (fun ds G R h => ?_) (fun _ _ _ _ _ _ us hl => match us, hl with | [_, _], _ => rfl) (fun cdv A outer s H E hr ds G R h => ?_), hm⟩
  · obtain ⟨kk, rfl, h1, h2, _⟩ := h
    rfl
  · obtain ⟨kk, rfl, h1, h2, k⟩ := h
    obtain ⟨f1, q1, m1⟩ := c1
    have hz : (zrow kk).length = 2 ^ (kk - 1) := List.length_replicate ..
    have e1 : ((kk : Nat) : Int) - 1 = ((kk - 1 : Nat) : Int) := by omega
    refine b_cons <| s_if <| t_w <| w_or <| t_not <| t_val <| e_callB T.isi bt_isi <| a_cons <| e_var 1 rfl <| a_cons <| e_ty T.tup bt_tup <| a_nil <| c_isi rfl k_tt ⟨_, rfl, iteFF ?_⟩
    refine w_or1 <| t_cmp <| e_callB T.len bt_len <| a_cons <| e_var 1 rfl <| a_nil <| c_lenT .tup <| e_bin <| e_int <| e_bin <| e_var 0 rfl <| e_int <| o_sub ?_
    rw [e1]
    refine o_shl (cpow_nat (by omega) (by omega) (by omega) (by omega)) <| o_neI ⟨_, rfl, ?_⟩
    rw [p2i, hz, decide_eq_true rfl]
    refine iteFF <| b_nil <| b_one <| s_ret <| e_callB T.all bt_all <| a_cons <| e_lc [("number", 2)] sc_is_setting_row.nd (blkOk_by rfl) (fun _ _ _ _ _ => (pg_name (i := 2) sc_is_setting_row.nd rfl (Or.inl rfl))) <| n_tup <| e_var 1 rfl ⟨_, .tup, ?_⟩
    refine lc_map (fun _ => .bl true) (fun i => [(2, at0 (zrow kk) i)]) trivial (by rw [hz]; have := p2_le (k := kk - 1) (by omega); omega) (by simp) (fun i hi => tg_name) (fun i hi s H0 C cl fp => ?_) (a_nil <| c_allT ⟨_, Sub.refl _, k⟩)
    rw [hz] at hi
    rw [show at0 (zrow kk) i = .int 0 from at0_rep hi]
    refine e_and <| e_call q1 m1 (hr.mono (by decide)) <| a_cons <| e_var 2 rfl <| a_nil ⟨0, rfl, _, rfl, iteTT ?_⟩
    exact e_one <| e_chain <| e_int <| e_var 2 rfl <| o_le ⟨_, rfl, ite_t (by decide) <| e_int <| o_le ⟨by rw [show decide ((0 : Int) ≤ 1) = true from rfl], rfl⟩⟩
def S_is_settings : AS := fun ds G R => ∃ kk : Nat, ds = [.int kk, dSet kk] ∧ kk ≤ 4 ∧ R (.bl true) G
theorem sc_is_settings : FnScope ["k", "thing", "row"] ["k", "thing"] (defScope (top 62)) := ⟨rfl, rfl, rfl, by decide +kernel, rfl, by decide +kernel, by decide +kernel⟩
theorem f_is_settings (T : Blt K mg) (dt : Dat K mg d_is_settings "is_settings") (c1 : Fn P w K mg base 3 "want_net" ["k", "deepest"] [.int 4] S_want_net) (c2 : Fn P w K mg base 2 "is_setting_row" ["k", "thing"] [] S_is_setting_row) : Fn P w K mg base 4 "is_settings" ["k", "thing"] [] S_is_settings := by
  obtain ⟨f, fd, F, hm⟩ := dt
  refine ⟨f, cal_of F sc_is_settings (fun ds G R h => ?_) (fun _ _ _ _ _ _ us hl => match us, hl with | [_, _], _ => rfl) (fun cdv A outer s H E hr ds G R h => ?_), hm⟩
  · obtain ⟨kk, rfl, h1, _⟩ := h
    rfl
  · obtain ⟨kk, rfl, h1, k⟩ := h
    obtain ⟨f1, q1, m1⟩ := c1
    obtain ⟨f2, q2, m2⟩ := c2
    refine b_cons <| s_expr <| e_call q1 m1 (hr.mono (by decide)) <| a_cons <| e_var 0 rfl <| a_nil ⟨_, rfl, by omega, by omega, ?_⟩
    refine b_one <| s_ret <| e_and <| e_callB T.isi bt_isi <| a_cons <| e_var 1 rfl <| a_cons <| e_ty T.tup bt_tup <| a_nil <| c_isi rfl k_tt ⟨_, rfl, iteTT ?_⟩
    refine e_and <| e_cmp <| e_callB T.len bt_len <| a_cons <| e_var 1 rfl <| a_nil <| c_lenT .tup <| e_var 0 rfl <| o_eqI ⟨_, rfl, ite_t (decide_eq_true (by rw [List.length_replicate])) ?_⟩
    refine e_one <| e_callB T.all bt_all <| a_cons <| e_lc [("row", 2)] sc_is_settings.nd (blkOk_by rfl) (fun _ _ _ _ _ => (pg_name (i := 2) sc_is_settings.nd rfl (Or.inl rfl))) <| n_tup <| e_var 1 rfl ⟨_, .tup, ?_⟩
    refine lc_map (fun _ => .bl true) (fun i => [(2, at0 (List.replicate kk (.tup (zrow kk))) i)]) trivial (by rw [List.length_replicate]; omega) (by simp) (fun i hi => tg_name) (fun i hi s H0 C cl fp => ?_) (a_nil <| c_allT ⟨_, Sub.refl _, k⟩)
    rw [List.length_replicate] at hi
    rw [at0_rep hi]
    exact e_call q2 m2 (hr.mono (by decide)) <| a_cons <| e_var 0 rfl <| a_cons <| e_var 2 rfl <| a_nil ⟨kk, rfl, h1, by omega, rfl, rfl⟩
def S_want_settings : AS := fun ds G R => ∃ kk : Nat, ds = [.int kk, dSet kk] ∧ kk ≤ 4 ∧ R .non G
theorem sc_want_settings : FnScope ["k", "thing"] ["k", "thing"] (defScope (top 63)) := ⟨rfl, rfl, rfl, by decide +kernel, rfl, by decide +kernel, by decide +kernel⟩
theorem f_want_settings (T : Blt K mg) (dt : Dat K mg d_want_settings "want_settings") (c1 : Fn P w K mg base 4 "is_settings" ["k", "thing"] [] S_is_settings) : Fn P w K mg base 5 "want_settings" ["k", "thing"] [] S_want_settings := by
  obtain ⟨f, fd, F, hm⟩ := dt
  refine ⟨f, cal_of F sc_want_settings (fun ds G R h => ?_) (fun _ _ _ _ _ _ us hl => match us, hl with | [_, _], _ => rfl) (fun cdv A outer s H E hr ds G R h => ?_), hm⟩
  · obtain ⟨kk, rfl, h1, _⟩ := h
    rfl
  · obtain ⟨kk, rfl, h1, k⟩ := h
    obtain ⟨f1, q1, m1⟩ := c1
    exact b_one <| s_if <| t_not <| t_val <| e_call q1 m1 (hr.mono (by decide)) <| a_cons <| e_var 0 rfl <| a_cons <| e_var 1 rfl <| a_nil ⟨kk, rfl, h1, _, rfl, iteFF <| b_nil k⟩
def S_plain_rows : AS := fun ds G R => ∃ kk : Nat, ds = [.int kk] ∧ kk ≤ 4 ∧ R (.lst (List.replicate kk (.lst (zrow kk)))) G
theorem sc_plain_rows : FnScope ["k", "stage"] ["k"] (defScope (top 64)) := ⟨rfl, rfl, rfl, by decide +kernel, rfl, by decide +kernel, by decide +kernel⟩
theorem f_plain_rows (T : Blt K mg) (dt : Dat K mg d_plain_rows "plain_rows") : Fn P w K mg base 1 "plain_rows" ["k"] [] S_plain_rows := by
  obtain ⟨f, fd, F, hm⟩ := dt
  refine ⟨f, cal_of F sc_plain_rows (fun ds G R h => ?_) (fun _ _ _ _ _ _ us hl => match us, hl with | [_], _ => rfl) (fun cdv A outer s H E hr ds G R h => ?_), hm⟩
  · obtain ⟨kk, rfl, h1, _⟩ := h
    rfl
  · obtain ⟨kk, rfl, h1, k⟩ := h
    refine b_one <| s_ret <| e_lc [("stage", 1)] sc_plain_rows.nd (blkOk_by rfl) (fun _ _ _ _ _ => (pg_name (i := 1) sc_plain_rows.nd rfl (Or.inl rfl))) <| n_range1 T.rng <| e_var 0 rfl ⟨_, rfl, by omega, by omega, ?_⟩
    rw [Int.toNat_natCast]
    refine lc_map (fun _ => .lst (zrow kk)) (fun i => [(1, .int (i : Nat))]) trivial (by omega) (by simp) (fun i hi => tg_name) (fun i hi s H0 C cl fp => ?_) ?_
    · have e1 : ((kk : Nat) : Int) - 1 = ((kk - 1 : Nat) : Int) := by omega
      refine e_bin <| e_lst <| a_cons <| e_int <| a_nil ⟨Nat.le_of_ble_eq_true rfl, e_bin <| e_int <| e_bin <| e_var 0 rfl <| e_int <| o_sub ?_⟩
      rw [e1]
      refine o_shl (cpow_nat (by omega) (by omega) (by omega) (by omega)) ?_
      rw [p2i]
      refine o_rep1 ⟨Int.natCast_nonneg _, by have := p2_le (k := kk - 1) (by omega); generalize 2 ^ (kk - 1) = n at *; omega⟩ ⟨?_, rfl⟩
      rw [Int.toNat_natCast]
      rfl
    · rw [rep_range]
      exact ⟨_, Sub.refl _, k⟩
def S_as_settings : AS := fun ds G R => ∃ kk : Nat, ds = [.lst (List.replicate kk (.lst (zrow kk)))] ∧ kk ≤ 4 ∧ R (dSet kk) G
theorem sc_as_settings : FnScope ["rows", "row"] ["rows"] (defScope (top 65)) := ⟨rfl, rfl, rfl, by decide +kernel, rfl, by decide +kernel, by decide +kernel⟩
theorem f_as_settings (T : Blt K mg) (dt : Dat K mg d_as_settings "as_settings") : Fn P w K mg base 1 "as_settings" ["rows"] [] S_as_settings := by
  obtain ⟨f, fd, F, hm⟩ := dt
  refine ⟨f, cal_of F sc_as_settings (fun ds G R h => ?_) (fun _ _ _ _ _ _ us hl => match us, hl with | [_], _ => rfl) (fun cdv A outer s H E hr ds G R h => ?_), hm⟩
  · obtain ⟨kk, rfl, h1, _⟩ := h
    rfl
  · obtain ⟨kk, rfl, h1, k⟩ := h
    refine b_one <| s_ret <| e_callTy T.tup bt_tup <| a_cons <| e_lc [("row", 1)] sc_as_settings.nd (blkOk_by rfl) (fun _ _ _ _ _ => (pg_name (i := 1) sc_as_settings.nd rfl (Or.inl rfl))) <| n_list <| e_var 0 rfl ⟨_, .lst, ?_⟩
    refine lc_map (fun _ => .tup (zrow kk)) (fun i => [(1, at0 (List.replicate kk (.lst (zrow kk))) i)]) trivial (by rw [List.length_replicate]; omega) (by simp) (fun i hi => tg_name) (fun i hi s H0 C cl fp => ?_) ?_
    · rw [List.length_replicate] at hi
      rw [at0_rep hi]
      exact e_callTy T.tup bt_tup <| a_cons <| e_var 1 rfl <| a_nil <| c_tupL .lst ⟨rfl, rfl⟩
    · rw [List.length_replicate, rep_range]
      exact a_nil <| c_tupL .lst ⟨_, Sub.refl _, k⟩
def S_straight : AS := fun ds G R => ∃ kk : Nat, ds = [.int kk] ∧ kk ≤ 4 ∧ R (dSet kk) G
theorem sc_straight : FnScope ["k"] ["k"] (defScope (top 66)) := ⟨rfl, rfl, rfl, by decide +kernel, rfl, by decide +kernel, by decide +kernel⟩
theorem f_straight (T : Blt K mg) (dt : Dat K mg d_straight "straight") (c1 : Fn P w K mg base 3 "want_net" ["k", "deepest"] [.int 4] S_want_net) (c2 : Fn P w K mg base 1 "as_settings" ["rows"] [] S_as_settings) (c3 : Fn P w K mg base 1 "plain_rows" ["k"] [] S_plain_rows) : Fn P w K mg base 4 "straight" ["k"] [] S_straight := by
  obtain ⟨f, fd, F, hm⟩ := dt
  refine ⟨f, cal_of F sc_straight (fun ds G R h => ?_) (fun _ _ _ _ _ _ us hl => match us, hl with | [_], _ => rfl) (fun cdv A outer s H E hr ds G R h => ?_), hm⟩
  · obtain ⟨kk, rfl, h1, _⟩ := h
    rfl
  · obtain ⟨kk, rfl, h1, k⟩ := h
    obtain ⟨f1, q1, m1⟩ := c1
    obtain ⟨f2, q2, m2⟩ := c2
    obtain ⟨f3, q3, m3⟩ := c3
    refine b_cons <| s_expr <| e_call q1 m1 (hr.mono (by decide)) <| a_cons <| e_var 0 rfl <| a_nil ⟨_, rfl, by omega, by omega, ?_⟩
    exact b_one <| s_ret <| e_call q2 m2 (hr.mono (by decide)) <| a_cons <| e_call q3 m3 (hr.mono (by decide)) <| a_cons <| e_var 0 rfl <| a_nil ⟨kk, rfl, h1, a_nil ⟨kk, rfl, h1, ⟨_, Sub.refl _, k⟩⟩⟩
end
end J
namespace J
open PySem PySem.Spec PyProof.Rows L2
theorem meets_enum1 {v : Value} {o : Obj} {H : Heap → Prop} (B : Begins v o H) :
    Meets (Builtin.«enumerate.__new__» ⟨[.type "enumerate", v], []⟩) (fun _ R s => H s.heap ∧
      R (.ok (.ret (.ref (s.heap.push o).objs.size))) { s with heap := (s.heap.push o).push { cls := .type "enumerate", data := .fields #[.none, .bool false, .ref s.heap.objs.size, rawInt 0, .none, .none] } }) :=
  .of_wp fun prog w A R s h => by
    obtain ⟨hp, g, d, tk, os⟩ := s; obtain ⟨h1, h⟩ := h
    have hsub := sub_enumerate
    have q1 : ∀ {A' : Around} {E : Value → Shared → Prop} {Q : Value → Shared → Prop}, Q (.ref hp.objs.size) ⟨hp.push o, g, d, tk, os⟩ → wpAny (model prog w) A' (pyIter v) Q E ⟨hp, g, d, tk, os⟩ :=
      fun q => B.iter prog w _ _ ⟨hp, g, d, tk, os⟩ _ h1 q
    wp_walk using q1
    refine wpAny_stack_any fun st => wpAny_pure ?_
    split
    · rename_i c _ _ _ _ _
      cases (c == Value.type "enumerate")
      · wp_walk using q1
        exact ⟨_, rfl, h⟩
      · wp_walk using q1
        exact ⟨_, rfl, h⟩
    · wp_walk using q1
      exact ⟨_, rfl, h⟩
theorem enum1 {prog : Program} {w : World} {A : Around} {E : Value → Shared → Prop} {s : Shared} {v : Value} {o : Obj} {H : Heap → Prop} {Q : Value → Shared → Prop} (B : Begins v o H) (h1 : H s.heap)
    (h : ∀ h', IsEnum h' (s.heap.objs.size + 1) s.heap.objs.size 0 .none → h'.get? s.heap.objs.size = some o → h'.objs.size = s.heap.objs.size + 2 →
      (∀ b o, s.heap.get? b = some o → h'.get? b = some o) → Q (.ref (s.heap.objs.size + 1)) { s with heap := h' }) :
    wpAny (model prog w) A (call (.type "enumerate") [v]) Q E s := by
  refine callType_new F.called_enumerate (by decide) (F.typeCall_enumerate_1 _) (F.newCall_enumerate_1 _) (fun obj => F.args_object_init_2 obj _) F.entry_enumerate_new
    (meets_enum1 B) ⟨h1, ?_⟩
  have hz : (s.heap.push o).objs.size = s.heap.objs.size + 1 := Heap.size_push ..
  show _ ∧ _
  rw [hz]
  have he : IsEnum ((s.heap.push o).push { cls := .type "enumerate", data := .fields #[.none, .bool false, .ref s.heap.objs.size, rawInt 0, .none, .none] }) (s.heap.objs.size + 1) s.heap.objs.size 0 .none := by
    have := Heap.get?_push_size (s.heap.push o) (o := { cls := .type "enumerate", data := .fields #[.none, .bool false, .ref s.heap.objs.size, rawInt 0, .none, .none] }) rfl
    rw [hz] at this; exact this
  refine ⟨⟨_, he, rfl⟩, h _ he (Heap.get?_push_of_some _ (Heap.get?_push_size _ B.free)) (by rw [Heap.size_push, hz]) fun b o x => Heap.get?_push_of_some _ (Heap.get?_push_of_some _ x)⟩
/-- the tuple at a, each item in a new pair -/
def IteT (K : PySem.W.Frag) (a : Addr) : It :=
  ⟨fun i H => ∃ (xs : List V) (x : V), SqT K H a xs ∧ xs[i]? = some x, fun i H v H' => ∃ T x, v = .ref T ∧ H T = none ∧ H' = upd H T (.tup [.int (i : Nat), x]) ∧ ∀ xs, SqT K H a xs → xs[i]? = some x, fun i H => ∃ xs : List V, SqT K H a xs ∧ xs.length = i⟩
theorem turn_enumT {P : Program} {w : World} {K : PySem.W.Frag} {elts : List Expr} {kk : Nat} {tpos : Pos} (a e it : Addr) (hta : a ≠ it) (hea : a ≠ e) :
    Turn P w K (.Tuple elts kk tpos) (IteT K a) [e, it] e (fun i h => (∃ old, IsEnum h e it ((i : Nat) : Int) old) ∧ h.IsTupleIter it a i ∧ e ≠ it) where
  mem := by simp
  obj := fun i h st b hb => by
    obtain ⟨⟨old, he⟩, ⟨o, ho, hc, hd⟩, _⟩ := st
    have e' : b = e ∨ b = it := by simpa using hb
    rcases e' with z | z
    · rw [z]; exact ⟨_, he, fun v q => nomatch q⟩
    · rw [z]; exact ⟨o, ho, fun v q => by rw [hd] at q; cases q⟩
  keep := fun i h h' st k => let ⟨⟨old, he⟩, hi, hne⟩ := st; ⟨⟨old, k e (by simp) _ he⟩, hi.at fun o q => k it (by simp) o q, hne⟩
  item := by
    intro X hP hw hK hc i pins s σ H E I hf st hg
    subst hP hw hK
    obtain ⟨⟨old, he⟩, hit, hne⟩ := st
    obtain ⟨xs, x, hq, hx⟩ := hg
    obtain ⟨its, rv, p, hz⟩ := I.tuple hq
    obtain ⟨u, hu, ru⟩ := rv.get hx
    have hel : e < s.heap.objs.size := Heap.lt_size he
    have hil : it < s.heap.objs.size := by obtain ⟨_, q, _⟩ := hit; exact Heap.lt_size q
    have hlt : i < its.toArray.size := by
      rw [List.size_toArray]
      rcases Nat.lt_or_ge i its.length with h | h
      · exact h
      · rw [List.getElem?_eq_none h] at hu; cases hu
    refine wpAny_pyNext_enum_itemD (Draws.tuple (A := X.A.in1) (show X.A.in1.handled = none from I.ok.hd hc) it a hta its.toArray) he ⟨hit, p⟩ hlt hne (by simp [hne, Ne.symm hea]) fun y h' tk hP ho hit' hT hsz hk => ?_
    have ey : y = u := by
      have : its.toArray[i]? = some u := by simpa using hu
      rw [this] at hP
      exact (Option.some.inj hP).symm
    subst ey
    refine ⟨_, rfl, wpAny_letOwnedTupleGo_enum (s := { s with heap := h', toks := tk + 1 }) ho fun h'' he' sb => ?_⟩
    have hT2 : h''.get? s.heap.objs.size = some { cls := .type "tuple", data := .seq #[.int i tk, y] } := (sb.2 _ (Nat.ne_of_gt hel)).trans hT
    have new : ObjOk X.prog X.w (upd H s.heap.objs.size (.tup [.int (i : Nat), x])) h'' s.heap.objs.size (.tup [.int (i : Nat), x]) :=
      ⟨by show 2 ≤ sizeLine; decide, [.int i tk, y], .cons ⟨_, rfl⟩ (.cons ru .nil), ⟨_, hT2, rfl, _, rfl⟩⟩
    have I1 : Inv X pins σ (upd H s.heap.objs.size (.tup [.int (i : Nat), x])) { s with heap := h'', toks := tk + 1 } :=
      I.turnedNew (ch := [e, it]) (fun b ob hb q => (sb.2 b (fun z => hb (by simp [z]))).trans (hk b ob (fun z => hb (by simp [z])) (fun z => hb (by simp [z])) q)) hf (Nat.le_refl _) new
    refine ⟨.ref s.heap.objs.size, _, I1, rfl, ⟨_, x, rfl, I.hok.fresh (Nat.le_refl _), rfl, fun ys hy => by rw [I.tuple_inj hy hq]; exact hx⟩, ⟨⟨y, ?_⟩, hit'.1.at fun o q => (sb.2 it (Ne.symm hne)).trans q, hne⟩, fun b hb => ?_⟩
    · have e1 : ((i + 1 : Nat) : Int) = (i : Int) + 1 := by omega
      rw [e1]; exact he'
    · have hb' : b < s.heap.objs.size := by
        have e' : b = e ∨ b = it := by simpa using hb
        rcases e' with z | z
        · rw [z]; exact hel
        · rw [z]; exact hil
      rw [upd_ne (Nat.ne_of_lt hb')]
      exact (hf b hb).1
  done := by
    intro X hP hw hK hc i pins s σ H E I hf st hg
    subst hP hw hK
    obtain ⟨⟨old, he⟩, hit, hne⟩ := st
    obtain ⟨xs, hq, hx⟩ := hg
    obtain ⟨its, rv, p, hz⟩ := I.tuple hq
    obtain ⟨f0, f1, f2, f3, f4, f5⟩ := hf it (by simp)
    have hl := rv.length
    have ei : i = its.toArray.size := by rw [List.size_toArray]; omega
    subst ei
    exact wpAny_pyNext_enum_endD (Draws.tuple (A := X.A.in1) (show X.A.in1.handled = none from I.ok.hd hc) it a hta its.toArray) he ⟨hit, p⟩ fun h' eb => ⟨rfl, I.turned (t' := s.toks) (fun b o hb q => eb b o hb q) f0 f1 f3 f4 f5⟩
  self := fun A i s Q E st h => let ⟨⟨_, he⟩, _⟩ := st; wpAny_pyIter_enum he h
def iEnumT (K : PySem.W.Frag) (ta : TA) : TI := fun σ H R => ta σ H fun vs H1 => ∃ a xs, vs = [.ref a] ∧ SqT K H1 a xs ∧ R (IteT K a) H1
theorem pi_enumT {X : Cx} {e : Expr} {ta : TA} {p pos tpos : Pos} {elts : List Expr} {kk : Nat} (hg : Gl X "enumerate") (hm : X.mg "enumerate" = none) (ha : PA X [e] ta) (hs : starEach [e] X.env = [(false, eval e X.env)] := by rfl) :
    PI X (.Tuple elts kk tpos) (.Call (.Name "enumerate" p) [e] [] pos) (iEnumT X.K ta) := by
  refine ⟨fun pins s σ H R I h => ?_⟩
  refine Call_ (ld_blt I hg hm boot_enumerate (PyProof.Rows.callWith_type1 (thn (ha.run pos pins s σ H _ I h) fun us s1 ⟨vs, H1, I1, r1, q1⟩ => ?_) hs rfl))
  obtain ⟨a, xs, ex, hq, q⟩ := q1
  subst ex
  cases r1 with
  | cons r rr =>
    cases rr
    cases r
    obtain ⟨its, rv, p', hz⟩ := I1.tuple hq
    have hal : a < s1.heap.objs.size := let ⟨_, ho, _⟩ := p'; Heap.lt_size ho
    refine enum1 (begins_tuple a its.toArray) p' fun h' he hit hsz hk => wpAny_pyIter_enum he ?_
    have I2 : Inv X pins σ H1 { s1 with heap := h' } := I1.kept (t' := s1.toks) hk
    refine ⟨s1.heap.objs.size + 1, [s1.heap.objs.size + 1, s1.heap.objs.size], _, _, H1, rfl, I2, turn_enumT a (s1.heap.objs.size + 1) s1.heap.objs.size (Nat.ne_of_lt hal) (Nat.ne_of_lt (Nat.lt_succ_of_lt hal)), ⟨⟨.none, he⟩, ⟨_, hit, rfl, rfl⟩, Nat.succ_ne_self _⟩, fun b hb => ?_, q⟩
    have e' : b = s1.heap.objs.size + 1 ∨ b = s1.heap.objs.size := by simpa using hb
    have hle : s1.heap.objs.size ≤ b := by
      rcases e' with z | z
      · rw [z]; exact Nat.le_add_right _ _
      · rw [z]; exact Nat.le_refl _
    exact I1.fpOk hle (I1.hok.fresh hle)
section
variable {K : PySem.W.Frag} {I0 : Hp}
theorem walkD_enumT {a : Addr} {ds : List D} (h : ∀ I H G, HG K I H G → Same I0 I → ∃ xs, SqT K H a xs ∧ Iss K I ds xs) : WalkD K I0 (IteT K a) ds.length (fun i => .tup [.int (i : Nat), at0 ds i]) (fun _ => True) where
  goes := fun i I H G hi g e o => by
    obtain ⟨xs, h1, h2⟩ := h I H G g e
    exact ⟨xs, xs[i]'(by rw [← h2.len]; exact hi), h1, by simp [show i < xs.length by rw [← h2.len]; exact hi]⟩
  stops := fun I H G g e o => by
    obtain ⟨xs, h1, h2⟩ := h I H G g e
    exact ⟨xs, h1, h2.len.symm⟩
  yields := fun i I H G x H' hi g e o y => by
    obtain ⟨xs, h1, h2⟩ := h I H G g e
    obtain ⟨T, x, rfl, hT, rfl, y⟩ := y
    obtain ⟨d, e1, e2⟩ := h2.getV (y xs h1)
    rw [at0_some e1]
    exact pair_new g hT Is.int e2
end
section
variable {X : Cx} {Γ : SG} {G : Gp} {tg e a b c : Expr} {pos p : Pos} {R : Nat → (Nat → D) → (Gp → Prop) → Gp → Prop}
theorem n_enumT {elts : List Expr} {kk : Nat} {tpos : Pos} (hm : X.mg "enumerate" = none) (h : EE X a Γ G fun d G1 => ∃ ds, Tv d ds ∧ R ds.length (fun i => .tup [.int (i : Nat), at0 ds i]) (fun _ => True) G1) (hg : Gl X "enumerate" := by rfl) (hs : starEach [a] X.env = [(false, eval a X.env)] := by rfl) :
    NN X (.Tuple elts kk tpos) (.Call (.Name "enumerate" p) [a] [] pos) Γ G R := fun σ I H rp hG =>
  toN (pi_enumT hg hm pa_s hs) ((a_cons (X := X) (R := fun ds G1 => ∃ d es, ds = [d] ∧ Tv d es ∧ R es.length (fun i => .tup [.int (i : Nat), at0 es i]) (fun _ => True) G1) (h.imp fun d G1 ⟨es, l, q⟩ => a_nil ⟨d, es, rfl, l, q⟩) hs σ I H rp hG).imp fun vs H1 ⟨I1, G1, ds, g1, s1, i1, d, es, ed, l, r⟩ => by
    subst ed
    obtain ⟨v, r', rfl, q1, q2⟩ := i1.uncons
    obtain ⟨a, xs, rfl, h1, h2⟩ := l.at g1 q1
    rw [q2.nil_eq]
    refine ⟨a, xs, rfl, h1, I1, G1, _, _, _, g1, s1, walkD_enumT fun I2 H2 G2 g2 e2 => ?_, r⟩
    obtain ⟨b, ys, e3, h3, h4⟩ := l.at g2 (Is.mono e2 _ q1)
    cases e3
    exact ⟨ys, h3, h4⟩)
end
end J
namespace J
open PySem PySem.Spec PyProof.Rows L2 PySem.W
section
variable {prog : Program} {w : World} {A : Around} {E : Value → Shared → Prop} {s : Shared}
theorem rv_meets {d : Addr} {es : Array DictEntry} {ep : Nat} (hd : (d == sysModules) = false) :
    MeetsIn prog w (Builtin.«dict.values» ⟨[.ref d], []⟩) (fun _ R s => DT.Raw s.heap d es ep ∧
      R (.ok (.ret (.ref s.heap.objs.size))) { s with heap := s.heap.push { cls := .type "dict_values", data := .fields #[.ref d] } }) :=
  .of_wp fun A R s ⟨hm, h⟩ => by
    unfold Builtin.«dict.values»
    refine wpAny_bind ?_
    unfold Builtin.Dict.noArgs
    refine wpAny_bind (wpAny_notOrdered_dict hm.typeIs ?_)
    show wpAny _ _ (pure d) _ _ s
    refine wpAny_pure ?_
    show wpAny _ _ (Builtin.Dict.showsAll d >>= _) _ _ s
    unfold Builtin.Dict.showsAll
    rw [if_neg (by rw [hd]; exact Bool.false_ne_true)]
    refine wpAny_bind (wpAny_pure ?_)
    exact wpAny_bind (wpAny_newObj_type (wpAny_pure ⟨_, rfl, h⟩))
theorem rv_iter {v d : Addr} {es : Array DictEntry} {ep : Nat} {Q : Value → Shared → Prop} (hv : s.heap.IsValuesView v d) (hm : DT.Raw s.heap d es ep)
    (hQ : Q (.ref s.heap.objs.size) { s with heap := s.heap.push { cls := .type "dict_valueiterator", data := .fields #[.ref d, .int 0 0, .int es.size 0, .int ep 0] } }) :
    wpAny (model prog w) A (pyIter (.ref v)) Q E s := by
  obtain ⟨ov, hov, hcv, hdv⟩ := id hv
  obtain ⟨o, ho, hc, hdat⟩ := id hm
  refine wpAny_pyIter_slot hv.typeIs PySem.F.slot_dict_values_iter (wpAny_call_entry PySem.F.slot_dict_values_iter hv.typeIs PySem.F.entry_dict_values_iter ?_ (PySem.F.args_dict_values_iter_1 _))
  unfold Builtin.«dict_values.__iter__»
  refine wpAny_bind (wpAny_pure ?_)
  refine wpAny_bind ?_
  unfold Builtin.Dict_items.dictOf
  refine wpAny_bind (wpAny_field hov hdv (x := .ref d) rfl (wpAny_pure ?_))
  refine wpAny_bind ?_
  unfold Builtin.Dict_items.newIterator
  refine wpAny_bind (wpAny_dictEntries ho hdat ?_)
  refine wpAny_bind (wpAny_dictEpoch ho hdat ?_)
  have hown : Builtin.Dict_items.ownsTuple "dict_valueiterator" = false := by decide
  simp only [hown, Bool.false_eq_true, if_false]
  refine wpAny_newObj_type (wpAny_pure ⟨_, rfl, "dict_valueiterator", _, ⟨_, Heap.get?_push_size _ rfl, rfl⟩, PySem.F.slot_dict_valueiterator_next.lookup, ?_⟩)
  simpa [rawInt] using hQ
theorem rv_item {it d : Addr} {i ep : Nat} {es : Array DictEntry} {Q : Option Value → Shared → Prop} (hit : s.heap.IsValIter it d i es.size ep)
    (hm : DT.Raw s.heap d es ep) (hlt' : i < es.size)
    (hQ : ∀ h', h'.IsValIter it d (i + 1) es.size ep → Heap.SameBut it s.heap h' → Q (some es[i].val) { s with heap := h' }) :
    wpAny (model prog w) A (pyNext (.ref it)) Q E s := by
  obtain ⟨o, ho, hc, hd⟩ := id hit
  obtain ⟨od, hod, hcd, hdd⟩ := id hm
  unfold pyNext
  refine wpAny_bind (wpAny_attempt (wpAny_callSpecial?_slot (name := Str.ofString "__next__") hit.typeIs PySem.F.slot_dict_valueiterator_next
    (wpAny_call_entry PySem.F.slot_dict_valueiterator_next hit.typeIs PySem.F.entry_dict_valueiterator_next ?_ (PySem.F.args_dict_valueiterator_next_1 _))))
  refine wpAny_bind (wpAny_pure ?_)
  refine wpAny_bind ?_
  refine wpAny_bind ?_
  first | refine wpAny_bind (wpAny_typeNameOfWhole_valiter hit.typeIs (wpAny_pure ?_)) | refine wpAny_bind (wpAny_typeNameOf_valiter hit.typeIs (wpAny_pure ?_))
  refine wpAny_bind (wpAny_fieldsOf ho hd ?_)
  have hown : Builtin.Dict_items.ownsTuple "dict_valueiterator" = false := by decide
  simp only [hown, Bool.false_eq_true, if_false]
  show wpAny _ _ (if (Value.ref d == Value.none) = true then _ else _) _ _ s
  rw [if_neg (show ¬ ((Value.ref d == Value.none) = true) from Bool.false_ne_true)]
  refine wpAny_bind (wpAny_pure ?_)
  refine wpAny_bind (wpAny_dictEntries hod hdd ?_)
  rw [if_neg (by simp)]
  refine wpAny_bind (wpAny_pure ?_)
  refine wpAny_bind (wpAny_dictEpoch hod hdd ?_)
  rw [if_neg (by simp)]
  refine wpAny_pure ?_
  simp only [show ¬ ((i : Int) < 0) from by omega, if_false, Int.toNat_natCast, Array.getElem?_eq_getElem hlt']
  refine wpAny_bind ?_
  first | refine wpAny_bind (wpAny_typeNameOfWhole_valiter hit.typeIs (wpAny_pure ?_)) | refine wpAny_bind (wpAny_typeNameOf_valiter hit.typeIs (wpAny_pure ?_))
  refine wpAny_bind (wpAny_isOneOf_valiter hit.typeIs ?_)
  show wpAny _ _ (setField (.ref it) 1 (rawInt ((i : Int) + 1)) >>= _) _ _ s
  refine wpAny_bind (wpAny_setField ho hd (by simp) ?_)
  have hit' : (s.heap.update it (Obj.mapFields (·.setIfInBounds 1 (rawInt ((i : Int) + 1))))).IsValIter it d (i + 1) es.size ep :=
    ⟨_, Heap.get?_update_self _ ho (Obj.isFreed_of_fields (Obj.data_mapFields hd _)), (Obj.cls_mapFields ..).trans hc, by rw [Obj.data_mapFields hd]; simp [rawInt]⟩
  refine wpAny_bind (wpAny_holding ?_)
  refine wpAny_bind (wpAny_isOneOf_valiter (s := { s with heap := s.heap.update it (Obj.mapFields (·.setIfInBounds 1 (rawInt ((i : Int) + 1)))) }) hit'.typeIs ?_)
  refine wpAny_bind (wpAny_isOneOf_valiter (s := { s with heap := s.heap.update it (Obj.mapFields (·.setIfInBounds 1 (rawInt ((i : Int) + 1)))) }) hit'.typeIs ?_)
  show wpAny _ _ (pure es[i].val) _ _ _
  exact wpAny_pure (wpAny_pure ⟨_, rfl, wpAny_pure (hQ _ hit' (Heap.SameBut.update ..))⟩)
theorem rv_end {it d : Addr} {ep : Nat} {es : Array DictEntry} {Q : Option Value → Shared → Prop} (hh : A.handled = none) (hit : s.heap.IsValIter it d es.size es.size ep)
    (hm : DT.Raw s.heap d es ep)
    (hQ : ∀ h', Heap.ExtBut it s.heap h' → Q none { s with heap := h' }) : wpAny (model prog w) A (pyNext (.ref it)) Q E s := by
  obtain ⟨o, ho, hc, hd⟩ := id hit
  obtain ⟨od, hod, hcd, hdd⟩ := id hm
  unfold pyNext
  refine wpAny_bind (wpAny_attempt (wpAny_callSpecial?_slot (name := Str.ofString "__next__") hit.typeIs PySem.F.slot_dict_valueiterator_next
    (wpAny_call_entry PySem.F.slot_dict_valueiterator_next hit.typeIs PySem.F.entry_dict_valueiterator_next ?_ (PySem.F.args_dict_valueiterator_next_1 _))))
  refine wpAny_bind (wpAny_pure ?_)
  refine wpAny_bind ?_
  refine wpAny_bind ?_
  first | refine wpAny_bind (wpAny_typeNameOfWhole_valiter hit.typeIs (wpAny_pure ?_)) | refine wpAny_bind (wpAny_typeNameOf_valiter hit.typeIs (wpAny_pure ?_))
  refine wpAny_bind (wpAny_fieldsOf ho hd ?_)
  have hown : Builtin.Dict_items.ownsTuple "dict_valueiterator" = false := by decide
  simp only [hown, Bool.false_eq_true, if_false]
  show wpAny _ _ (if (Value.ref d == Value.none) = true then _ else _) _ _ s
  rw [if_neg (show ¬ ((Value.ref d == Value.none) = true) from Bool.false_ne_true)]
  refine wpAny_bind (wpAny_pure ?_)
  refine wpAny_bind (wpAny_dictEntries hod hdd ?_)
  rw [if_neg (by simp)]
  refine wpAny_bind (wpAny_pure ?_)
  refine wpAny_bind (wpAny_dictEpoch hod hdd ?_)
  rw [if_neg (by simp)]
  refine wpAny_pure ?_
  simp only [show ¬ ((es.size : Int) < 0) from by omega, if_false, Int.toNat_natCast, Array.getElem?_eq_none (Nat.le_refl es.size)]
  refine wpAny_bind ?_
  first | refine wpAny_bind (wpAny_typeNameOfWhole_valiter hit.typeIs (wpAny_pure ?_)) | refine wpAny_bind (wpAny_typeNameOf_valiter hit.typeIs (wpAny_pure ?_))
  show wpAny _ _ (setField (.ref it) 0 .none >>= _) _ _ s
  refine wpAny_bind (wpAny_setField ho hd (by simp) ?_)
  show wpAny _ _ (newExc (.type "StopIteration") [] >>= _) _ _ _
  refine wpAny_bind ?_
  simp only [newExc, newTuple]
  refine wpAny_bind (wpAny_newObj_type ?_ (by size_fits))
  refine wpAny_bind (m := firstArgMember _ _) (wpAny_of_eq (a := Value.none) (by first | rfl | (simp only [firstArgMember]; rfl)) ?_)
  refine wpAny_newObj_type ?_ (by size_fits)
  simp only [raiseNew]
  refine wpAny_bind (wpAny_handled ?_)
  rw [show A.in1.handled = none from hh]
  refine wpAny_bind (wpAny_pure (wpAny_throw ?_))
  refine wpAny_bind (wpAny_isInstance (T := "StopIteration") (b := true) ⟨_, Heap.get?_push_size _ rfl, rfl⟩ isSubtype_stop ?_)
  exact wpAny_pure (hQ _ (((Heap.SameBut.update ..).extBut.push _).push _))
theorem rv_walks (hh : A.handled = none) (it d : Addr) (hne : d ≠ it) (es : Array DictEntry) (ep : Nat) :
    Walks prog w A it [it, d] [it] es.size (fun i v => ∃ e, es[i]? = some e ∧ e.val = v) (fun i h => h.IsValIter it d i es.size ep ∧ DT.Raw h d es ep) where
  sub := fun b hb => by simp at hb; simp [hb]
  frame := fun i h h' st k => ⟨let ⟨o, ho, r⟩ := st.1; ⟨o, k it (by simp) o ho, r⟩, st.2.at' fun o e => k d (by simp) o e⟩
  item := fun i s Q E hi st hQ => rv_item st.1 st.2 hi fun h' hit' hs' => hQ _ h' s.toks ⟨_, Array.getElem?_eq_getElem hi, rfl⟩ ⟨hit', st.2.at' fun o e => hs'.extBut d o hne e⟩ fun b o hb e => hs'.extBut b o (fun z => hb (by simp [z])) e
  done := fun s Q E st hQ => rv_end hh st.1 st.2 fun h' he' => hQ h' s.toks fun b o hb e => he' b o (fun z => hb (by simp [z])) e
  self := fun _ _ _ _ st hQ => wpAny_pyIter_valiter st.1 hQ
theorem rv_src {r d : Addr} {es : Array DictEntry} {ep : Nat} : KdlSrc prog w "dict_values" r d es.size (fun i v => ∃ e, es[i]? = some e ∧ e.val = v) (fun h => h.IsValuesView r d ∧ DT.Raw h d es ep) where
  type := fun _ hm => hm.1.typeIs
  there := fun _ hm => ⟨let ⟨_, ho, _⟩ := hm.1; Heap.lt_size ho, hm.2.lt⟩
  keep := fun _ _ hm hk => ⟨let ⟨o, ho, x⟩ := hm.1; ⟨o, hk r (.inl rfl) o ho, x⟩, hm.2.at' fun o e => hk d (.inr rfl) o e⟩
  notList := by decide
  notTuple := by decide
  hint := fun _ _ _ _ hm hq => kdl_hint_values hm.1.typeIs hq
  iter := fun _ _ hh hm => ⟨_, _, (fun _ _ hq => rv_iter hm.1 hm.2 hq), rv_walks hh _ d (Nat.ne_of_lt hm.2.lt) es ep, ⟨⟨_, Heap.get?_push_size _ rfl, rfl, rfl⟩, hm.2.push _⟩⟩
end
/-- list(d.values()), keys that are tuples -/
def tListVals (te : TE) : TE := fun σ H Q => te σ H fun x H1 => ∃ (d : Addr) (kvs : List (List Key × V)), x = .ref d ∧ H1 d = some (.dT kvs) ∧ ∀ p, H1 p = none → Q (.ref p) (upd H1 p (.lst (kvs.map (·.2))))
section
variable {X : Cx} {e : Expr} {te : TE} {p apos cpos pos : Pos}
theorem vals_es {H : Hp} : ∀ {kvs : List (List Key × V)} {xs : List (List Key × Addr × Value)} {vs : List Value}, Paired (fun (p : List Key × V) (q : List Key × Addr × Value) => p.1 = q.1 ∧ H q.2.1 = some (.tup (p.1.map kV)) ∧ RelV p.2 q.2.2) kvs xs → vs = xs.map (fun q => q.2.2) → Vals (kvs.map (·.2)) vs
  | _, _, _, .nil, e => by subst e; exact .nil
  | _, _, _, .cons h t, e => by
    subst e
    exact .cons h.2.2 (vals_es t rfl)
theorem pe_listVals (hc : X.calm = true) (he : PE X e te) (hg : Gl X "list") (hm : X.mg "list" = none) (hv : bootBuiltins "list" = some (.type "list")) (hbase : attributeBase e "values" X.env (eval e X.env) = eval e X.env := by rfl) (hline : (apos.endLine == cpos.line) = true := by rfl)
    (hs : starEach [.Call (.Attribute e "values" apos) [] [] cpos] X.env = (false, eval (.Call (.Attribute e "values" apos) [] [] cpos) X.env) :: starEach [] X.env := by rfl) :
    PE X (.Call (.Name "list" p) [.Call (.Attribute e "values" apos) [] [] cpos] [] pos) (tListVals te) := by
  refine ⟨fun pins s σ H Q I hq => ?_⟩
  refine wpAny_Call_Name_kw (ld_blt I hg hm hv ?_)
  refine PyProof.Rows.callWith_type1 ?_ hs rfl
  rw [hs]
  show wpAny _ _ (spliced ((false, eval (.Call (.Attribute e "values" apos) [] [] cpos) X.env) :: backTo pos (starEach [] X.env))) _ _ s
  refine Calls.spliced_cons ?_
  refine wpAny_Call_method (T := "dict") (id := "dict.values") hbase rfl hline F.plainAttrs_dict F.slot_dict_values F.type_dict_values (thn (he.run pins s σ H _ I hq) fun u s1 ⟨x, H1, I1, rx, d, kvs, ex, hd, q⟩ => ?_)
  subst ex
  obtain rfl : u = Value.ref d := rx
  obtain ⟨hz, hs0, xs, rel, o, es, ep, ho, hex, hdat, hes, _⟩ := (show ObjOk X.prog X.w H1 s1.heap d (.dT kvs) from I1.hok d _ hd)
  have raw : DT.Raw s1.heap d es ep := ⟨o, ho, hex, hdat⟩
  have lk : kvs.length = xs.length := Paired.length rel
  have le : es.size = xs.length := by rw [← Array.length_toList, hes, List.length_map]
  have I2 : Inv X pins σ H1 { s1 with heap := s1.heap.push { cls := .type "dict_values", data := .fields #[.ref d] } } := I1.kept (t' := s1.toks) fun b ob q => Heap.get?_push_of_some _ q
  refine ⟨raw.typeIs, fun b hb => ?_, ?_⟩
  · cases hb
    exact ⟨o, ho, hex.2.1⟩
  show wpAny _ _ (callWith cpos (.builtin "dict.values") [.ref d] [] []) _ X.xe s1
  refine method_meetsIn F.slot_dict_values F.entry_dict_values rfl (PySem.evalArgs_none ⟨rfl, raw.typeIs, F.args_dict_values_1 _, _, rv_meets (es := es) (ep := ep) hs0, raw, ?_⟩)
  refine Calls.spliced_nil ?_
  refine kdl_call (rv_src (d := d) (es := es) (ep := ep)) (I1.ok.hd hc) ⟨⟨_, Heap.get?_push_size _ rfl, rfl, rfl⟩, raw.push _⟩ (by omega) fun h' tk acc c hk hS hacc => ?_
  refine ⟨.ref _, upd H1 _ (.lst (kvs.map (·.2))), I2.laid (t' := tk) hk (Nat.le_refl _) ⟨by rw [List.length_map]; exact hz, acc.toList, c, ?_, by rw [Array.toArray_toList]; exact hS⟩, rfl, q _ (I2.hok.fresh (Nat.le_refl _))⟩
  refine vals_es rel ?_
  apply List.ext_getElem?
  intro j
  by_cases hj : j < es.size
  · have hja : j < acc.size := by rw [hacc.1]; exact hj
    obtain ⟨e1, h1, h2⟩ := hacc.2 j acc[j] (Array.getElem?_eq_getElem hja)
    rw [Array.getElem?_toList, Array.getElem?_eq_getElem hja, List.getElem?_map]
    have h3 : es.toList[j]? = some e1 := by rw [Array.getElem?_toList]; exact h1
    rw [hes, List.getElem?_map] at h3
    cases hx : xs[j]? with
    | none => rw [hx] at h3; cases h3
    | some y =>
      rw [hx] at h3
      have h4 : entryOfKey (tupleKind (mixKind X.prog X.w)) y = e1 := Option.some.inj h3
      rw [← h2, ← h4]
      rfl
  · rw [List.getElem?_eq_none (by rw [Array.length_toList, hacc.1]; omega), List.getElem?_eq_none (by rw [List.length_map]; omega)]
end
section
variable {X : Cx} {Γ : SG} {G : Gp} {R : D → Gp → Prop} {e : Expr} {p apos cpos pos : Pos}
theorem IsF.snd {κ : Type} {K : PySem.W.Frag} {I : Hp} : ∀ {fs : List (κ × D)} {vs : List (κ × V)}, IsF K I fs vs → Iss K I (fs.map (·.2)) (vs.map (·.2))
  | _, _, .nil => Iss.nil
  | _, _, .cons h t => Iss.cons h.2 (IsF.snd t)
theorem e_listVals (hm : X.mg "list" = none) (h : EE X e Γ G fun d G1 => ∃ q kvs, d = .ref q ∧ G1 q = some (.dT kvs) ∧ R (.lst (kvs.map (·.2))) G1) (hc : X.calm = true := by rfl) (hg : Gl X "list" := by rfl) (hbase : attributeBase e "values" X.env (eval e X.env) = eval e X.env := by rfl) (hline : (apos.endLine == cpos.line) = true := by rfl)
    (hs : starEach [.Call (.Attribute e "values" apos) [] [] cpos] X.env = (false, eval (.Call (.Attribute e "values" apos) [] [] cpos) X.env) :: starEach [] X.env := by rfl) : EE X (.Call (.Name "list" p) [.Call (.Attribute e "values" apos) [] [] cpos] [] pos) Γ G R := fun σ I H rp hG =>
  toE (pe_listVals hc pe_s hg hm (by decide +kernel) hbase hline hs) ((h σ I H rp hG).imp fun v H1 ⟨I1, G1, d, g1, s1, i1, q, kvs, ed, hq, r⟩ => by
    subst ed
    obtain ⟨_, u, h1, vs, rfl, f⟩ := g1.mu _ _ hq
    refine ⟨q, vs, i1.ref_eq, h1, fun p hp => ?_⟩
    have z := g1.newI hp (.lst (vs.map (·.2)))
    exact ⟨_, G1, _, z.1, s1.trans z.2, Is.lst upd_same (Iss.mono z.2.ex _ (IsF.snd f)), r⟩)
end
end J
namespace J
open PySem PySem.Spec PyProof.Rows L2 PySem.W
theorem zip_no_len : typeLookup (.type "zip") "__len__" = pure none := am_miss_of_fast (by decide +kernel)
theorem zip_no_hint : typeLookup (.type "zip") "__length_hint__" = pure none := am_miss_of_fast (by decide +kernel)
/-- the zip before its i-th pair -/
def ZSt (h : Heap) (z TI TO i1 i2 l1 l2 S : Addr) (xs ys : Array Value) (i : Nat) : Prop :=
  ((IsZip h z TI TO .none ∧ ∃ a b, IsPair h TO a b) ∨ ∃ T f oT, IsZipHeld h z TI TO T f ∧ h.get? T = some oT ∧ T ≠ z ∧ T ≠ TO ∧ T ≠ i1 ∧ T ≠ i2 ∧ T ≠ S) ∧
    IsPair h TI (.ref i1) (.ref i2) ∧ h.IsListIter i1 l1 i ∧ h.IsListIter i2 l2 i ∧ h.IsList l1 xs ∧ h.IsList l2 ys
structure ZApart (z TI TO i1 i2 l1 l2 S : Addr) : Prop where
  D : ZipApart z TI TO i1 i2 l1 l2
  z : z < S
  TI : TI < S
  TO : TO < S
  i1 : i1 < S
  i2 : i2 < S
  l1 : l1 < S
  l2 : l2 < S
section
variable {prog : Program} {w : World} {A : Around} {E : Value → Shared → Prop} {s : Shared} {z TI TO i1 i2 l1 l2 S : Addr} {xs ys : Array Value}
theorem ZSt.keep {h h' : Heap} {i : Nat} (st : ZSt h z TI TO i1 i2 l1 l2 S xs ys i) (Z : ZApart z TI TO i1 i2 l1 l2 S) (k : ∀ b o, b ≠ S → h.get? b = some o → h'.get? b = some o) : ZSt h' z TI TO i1 i2 l1 l2 S xs ys i := by
  obtain ⟨hz, hTI, h1, h2, hl1, hl2⟩ := st
  refine ⟨?_, k _ _ (Nat.ne_of_lt Z.TI) hTI, h1.at fun o e => k _ o (Nat.ne_of_lt Z.i1) e, h2.at fun o e => k _ o (Nat.ne_of_lt Z.i2) e, hl1.at fun o e => k _ o (Nat.ne_of_lt Z.l1) e, hl2.at fun o e => k _ o (Nat.ne_of_lt Z.l2) e⟩
  rcases hz with ⟨a, x, y, b⟩ | ⟨T, f, oT, a, b, c1, c2, c3, c4, c5⟩
  · exact .inl ⟨k _ _ (Nat.ne_of_lt Z.z) a, x, y, k _ _ (Nat.ne_of_lt Z.TO) b⟩
  · exact .inr ⟨T, f, oT, k _ _ (Nat.ne_of_lt Z.z) a, k _ _ c5 b, c1, c2, c3, c4, c5⟩
theorem nxtZ {i : Nat} {x y : Value} {Q : Option Value → Shared → Prop} (Z : ZApart z TI TO i1 i2 l1 l2 S) (hS : S < s.heap.objs.size) (st : ZSt s.heap z TI TO i1 i2 l1 l2 S xs ys i) (hx : xs[i]? = some x) (hy : ys[i]? = some y)
    (hQ : ∀ h', ZSt h' z TI TO i1 i2 l1 l2 S xs ys (i + 1) → IsPair h' s.heap.objs.size x y → h'.objs.size = s.heap.objs.size + 1 → (∀ c o, c ≠ z → c ≠ TO → c ≠ i1 → c ≠ i2 → s.heap.get? c = some o → h'.get? c = some o) → Q (some (.ref s.heap.objs.size)) { s with heap := h' }) :
    wpAny (model prog w) A (pyNext (.ref z)) Q E s := by
  obtain ⟨hz, hTI, h1, h2, hl1, hl2⟩ := st
  have D := Z.D
  have lt : ∀ {c : Addr}, c < S → s.heap.objs.size ≠ c := fun e => Nat.ne_of_gt (Nat.lt_trans e hS)
  rcases hz with ⟨a, x0, y0, b⟩ | ⟨T, f, oT, a, b, c1, c2, c3, c4, c5⟩
  · refine wpAny_pyNext_zip_item D a hTI b h1 h2 hl1 hl2 hx hy fun h' a1 a2 a3 a4 a5 a6 hk => hQ h' ⟨.inr ⟨s.heap.objs.size, false, _, a1, a5, lt Z.z, lt Z.TO, lt Z.i1, lt Z.i2, Nat.ne_of_gt hS⟩, ?_, a3, a4, ?_, ?_⟩ a5 a6 hk
    · exact hk _ _ D.TIz D.TITO D.TIi1 D.TIi2 hTI
    · exact hl1.at fun o e => hk _ o D.l1z D.l1TO D.l1i1 D.l1i2 e
    · exact hl2.at fun o e => hk _ o D.l2z D.l2TO D.l2i1 D.l2i2 e
  · refine wpAny_pyNext_zip_item_held D a b hTI h1 h2 hl1 hl2 hx hy fun h' a1 a3 a4 a5 a6 hk => hQ h' ⟨.inr ⟨T, true, oT, a1, hk T oT c1 c3 c4 b, c1, c2, c3, c4, c5⟩, ?_, a3, a4, ?_, ?_⟩ a5 a6 fun c o d1 _ d3 d4 e => hk c o d1 d3 d4 e
    · exact hk _ _ D.TIz D.TIi1 D.TIi2 hTI
    · exact hl1.at fun o e => hk _ o D.l1z D.l1i1 D.l1i2 e
    · exact hl2.at fun o e => hk _ o D.l2z D.l2i1 D.l2i2 e
theorem finZ {i : Nat} {Q : Option Value → Shared → Prop} (hh : A.handled = none) (Z : ZApart z TI TO i1 i2 l1 l2 S) (st : ZSt s.heap z TI TO i1 i2 l1 l2 S xs ys i) (hend : xs[i]? = none ∨ ys[i]? = none)
    (hQ : ∀ h', (∀ c o, c ≠ z → c ≠ TO → c ≠ i1 → c ≠ i2 → s.heap.get? c = some o → h'.get? c = some o) → Q none { s with heap := h' }) : wpAny (model prog w) A (pyNext (.ref z)) Q E s := by
  obtain ⟨hz, hTI, h1, h2, hl1, hl2⟩ := st
  rcases hz with ⟨a, x0, y0, b⟩ | ⟨T, f, oT, a, b, _⟩
  · exact wpAny_pyNext_zip_end hh Z.D a hTI b h1 h2 hl1 hl2 hend hQ
  · exact wpAny_pyNext_zip_end_held hh Z.D a b hTI h1 h2 hl1 hl2 hend fun h' k => hQ h' fun c o d1 _ d3 d4 e => k c o d1 d3 d4 e
structure MadeZ (xs ys : Array Value) (lo : Addr) (h : Heap) (as : List Addr) : Prop where
  rise : as.Pairwise (· < ·)
  above : ∀ a ∈ as, lo < a
  pairs : ∀ (j : Nat) (a : Addr), as[j]? = some a → ∃ x y, xs[j]? = some x ∧ ys[j]? = some y ∧ IsPair h a x y
theorem MadeZ.there {lo : Addr} {h : Heap} {as : List Addr} (g : MadeZ xs ys lo h as) {a : Addr} (ha : a ∈ as) : a < h.objs.size := by
  obtain ⟨j, hj⟩ := List.mem_iff_getElem?.mp ha
  obtain ⟨_, _, _, _, e⟩ := g.pairs j a hj
  exact Heap.lt_size e
theorem MadeZ.keep {lo : Addr} {h h' : Heap} {as : List Addr} (g : MadeZ xs ys lo h as) (k : ∀ b o, lo < b → h.get? b = some o → h'.get? b = some o) : MadeZ xs ys lo h' as :=
  ⟨g.rise, g.above, fun j a hj => let ⟨x, y, e1, e2, e3⟩ := g.pairs j a hj; ⟨x, y, e1, e2, k _ _ (g.above a (List.mem_of_getElem? hj)) e3⟩⟩
theorem loopZ {R : Result → Shared → Prop} (hh : A.handled = none) (Z : ZApart z TI TO i1 i2 l1 l2 S) (hn : min xs.size ys.size ≤ sizeLine) (res : Value) {h₁ : Heap}
    (hR : ∀ h' tk acc c as, (∀ b o, b ≠ S → b ≠ z → b ≠ TO → b ≠ i1 → b ≠ i2 → h₁.get? b = some o → h'.get? b = some o) → h'.get? S = some { cls := .type "list", dict := none, data := .seq acc c, slots := #[] } → as.length = min xs.size ys.size → MadeZ xs ys S h' as →
      acc.toList = as.map Value.ref → R (.ok (.ret res)) { s with heap := h', toks := tk }) :
    ∀ (k i : Nat) (h : Heap) (tk c : Nat) (acc : Array Value) (as : List Addr), min xs.size ys.size - i = k → i ≤ min xs.size ys.size → ZSt h z TI TO i1 i2 l1 l2 S xs ys i → (∀ b o, b ≠ S → b ≠ z → b ≠ TO → b ≠ i1 → b ≠ i2 → h₁.get? b = some o → h.get? b = some o) →
      h.get? S = some { cls := .type "list", dict := none, data := .seq acc c, slots := #[] } → acc.toList = as.map Value.ref → as.length = i → MadeZ xs ys S h as →
      codeAny (model prog w) A (.builtin "list.extend.loop" ⟨[.ref S, .ref z, res], []⟩) R { s with heap := h, toks := tk } := by
  have nS : ∀ {b : Addr}, S < b → b ≠ z ∧ b ≠ TO ∧ b ≠ i1 ∧ b ≠ i2 := fun {b} hb =>
    ⟨Nat.ne_of_gt (Nat.lt_trans Z.z hb), Nat.ne_of_gt (Nat.lt_trans Z.TO hb), Nat.ne_of_gt (Nat.lt_trans Z.i1 hb), Nat.ne_of_gt (Nat.lt_trans Z.i2 hb)⟩
  have Sz : S ≠ z ∧ S ≠ TO ∧ S ≠ i1 ∧ S ≠ i2 := ⟨Nat.ne_of_gt Z.z, Nat.ne_of_gt Z.TO, Nat.ne_of_gt Z.i1, Nat.ne_of_gt Z.i2⟩
  intro k
  induction k with
  | zero =>
    intro i h tk c acc as hk hi hst hkeep hS hacc hal hG
    refine codeAny_builtin PySem.F.entry_extend_loop ?_
    rw [Around.under_plainId PySem.F.plain_extend_loop _]
    show wpAny _ A.in1 (pyNext (.ref z) >>= _) _ _ _
    have hend : xs[i]? = none ∨ ys[i]? = none := by
      have : i = min xs.size ys.size := by omega
      rcases Nat.le_total xs.size ys.size with q | q
      · left; exact Array.getElem?_eq_none (by omega)
      · right; exact Array.getElem?_eq_none (by omega)
    refine wpAny_bind (finZ (s := { s with heap := h, toks := tk }) (A := A.in1) hh Z hst hend fun h' he => ?_)
    refine wpAny_pure (hR h' tk acc c as (fun b o g1 g2 g3 g4 g5 e => he b o g2 g3 g4 g5 (hkeep b o g1 g2 g3 g4 g5 e)) (he S _ Sz.1 Sz.2.1 Sz.2.2.1 Sz.2.2.2 hS) (by omega) (hG.keep fun b o hb e => ?_) hacc)
    have := nS hb
    exact he b o this.1 this.2.1 this.2.2.1 this.2.2.2 e
  | succ k ih =>
    intro i h tk c acc as hk hi hst hkeep hS hacc hal hG
    have hix : i < xs.size := by have := Nat.min_le_left xs.size ys.size; omega
    have hiy : i < ys.size := by have := Nat.min_le_right xs.size ys.size; omega
    have hsz : acc.size = i := by rw [← Array.length_toList, hacc, List.length_map, hal]
    have hSl : S < h.objs.size := Heap.lt_size hS
    refine codeAny_builtin PySem.F.entry_extend_loop ?_
    rw [Around.under_plainId PySem.F.plain_extend_loop _]
    show wpAny _ A.in1 (pyNext (.ref z) >>= _) _ _ _
    refine wpAny_bind (nxtZ (s := { s with heap := h, toks := tk }) Z hSl hst (Array.getElem?_eq_getElem hix) (Array.getElem?_eq_getElem hiy) fun h' hst' ht hz hkp => ?_)
    dsimp only at ht hz hkp ⊢
    have hS' := hkp S _ Sz.1 Sz.2.1 Sz.2.2.1 Sz.2.2.2 hS
    have up : ∀ b o, b ≠ S → h'.get? b = some o → (h'.update S (Obj.mapSeq (·.push (Value.ref h.objs.size)))).get? b = some o := fun b o hb e => (Heap.get?_update_other _ _ (Ne.symm hb)).trans e
    show wpAny _ A.in1 (updateSeq S (·.push (Value.ref h.objs.size)) >>= _) _ _ _
    refine wpAny_bind ?_
    refine wpAny_updateSeq hS' rfl (wpAny_pure ⟨plainId_quiet PySem.F.plain_extend_loop _, ih (i + 1) _ tk _ (acc.push (Value.ref h.objs.size)) (as ++ [h.objs.size]) (by omega) (by omega) (hst'.keep Z up)
      (fun b o g1 g2 g3 g4 g5 e => up b o g1 (hkp b o g2 g3 g4 g5 (hkeep b o g1 g2 g3 g4 g5 e))) (Heap.get?_update_self _ hS' rfl) (by rw [Array.toList_push, hacc, List.map_append]; rfl) (by rw [List.length_append, hal]; rfl) ⟨?_, ?_, ?_⟩⟩) (by rw [hsz]; omega) (by show (acc.push (Value.ref h.objs.size)).size ≤ sizeLine + 1; rw [Array.size_push, hsz]; omega)
    · refine List.pairwise_append.mpr ⟨hG.rise, List.pairwise_singleton _ _, fun a ha b hb => ?_⟩
      rw [List.mem_singleton.mp hb]
      exact hG.there ha
    · intro a ha
      rcases List.mem_append.mp ha with ha | ha
      · exact hG.above a ha
      · rw [List.mem_singleton.mp ha]; exact hSl
    · intro j b hj
      rcases Nat.lt_trichotomy j as.length with h1 | h1 | h1
      · rw [List.getElem?_append_left h1] at hj
        obtain ⟨x, y, e1, e2, e3⟩ := hG.pairs j b hj
        have hb := hG.above b (List.mem_of_getElem? hj)
        have nb := nS hb
        exact ⟨x, y, e1, e2, up b _ (Nat.ne_of_gt hb) (hkp b _ nb.1 nb.2.1 nb.2.2.1 nb.2.2.2 e3)⟩
      · subst h1
        have hb : h.objs.size = b := by simpa using hj
        subst hb
        exact ⟨xs[as.length]'(by omega), ys[as.length]'(by omega), Array.getElem?_eq_getElem _, Array.getElem?_eq_getElem _, up _ _ (Nat.ne_of_gt hSl) (by subst hal; exact ht)⟩
      · have hnone : (as ++ [h.objs.size])[j]? = none := List.getElem?_eq_none (by rw [List.length_append, List.length_singleton]; omega)
        rw [hnone] at hj; cases hj
/-- list(zip), the list new -/
theorem callZ {Q : Value → Shared → Prop} (hh : A.handled = none) (D : ZipApart z TI TO i1 i2 l1 l2) (hz : IsZip s.heap z TI TO .none) (hTI : IsPair s.heap TI (.ref i1) (.ref i2)) (hTO : IsPair s.heap TO .none .none)
    (h1 : s.heap.IsListIter i1 l1 0) (h2 : s.heap.IsListIter i2 l2 0) (hl1 : s.heap.IsList l1 xs) (hl2 : s.heap.IsList l2 ys) (hn : min xs.size ys.size ≤ sizeLine)
    (hQ : ∀ h' tk acc c as, (∀ b o, b ≠ z → b ≠ TO → b ≠ i1 → b ≠ i2 → s.heap.get? b = some o → h'.get? b = some o) → h'.get? s.heap.objs.size = some { cls := .type "list", dict := none, data := .seq acc c, slots := #[] } → as.length = min xs.size ys.size → MadeZ xs ys s.heap.objs.size h' as → acc.toList = as.map Value.ref → Q (.ref s.heap.objs.size) { s with heap := h', toks := tk }) :
    wpAny (model prog w) A (call (.type "list") [.ref z]) Q E s := by
  refine callType_codes (Q₁ := fun obj s₁ => obj = .ref s.heap.objs.size ∧ s₁ = { s with heap := s.heap.push { cls := .type "list", data := .seq #[] } }) PySem.F.called_list (PySem.F.typeCall_list_1 _) PySem.F.entry_list_init
    (code_list_new _ ⟨rfl, rfl⟩) fun obj s₁ h₁ => ?_
  obtain ⟨rfl, rfl⟩ := h₁
  have hS : (s.heap.push { cls := .type "list", data := .seq #[] }).get? s.heap.objs.size = some { cls := .type "list", data := .seq #[] } := Heap.get?_push_size _ rfl
  have lt : ∀ {c : Addr} {o : Obj}, s.heap.get? c = some o → c < s.heap.objs.size := fun e => Heap.lt_size e
  have Z : ZApart z TI TO i1 i2 l1 l2 s.heap.objs.size := ⟨D, lt hz, lt hTI, lt hTO, let ⟨_, e, _⟩ := h1; lt e, let ⟨_, e, _⟩ := h2; lt e, let ⟨_, e, _⟩ := hl1; lt e, let ⟨_, e, _⟩ := hl2; lt e⟩
  have st0 : ZSt s.heap z TI TO i1 i2 l1 l2 s.heap.objs.size xs ys 0 := ⟨.inl ⟨hz, _, _, hTO⟩, hTI, h1, h2, hl1, hl2⟩
  refine ⟨⟨_, hS, rfl⟩, PySem.F.args_list_init_2 _ _, ?_⟩
  show wpAny _ A.in1.in1 (do let old ← Builtin.List.listItems (.ref s.heap.objs.size); Builtin.List.listUpdate (.ref s.heap.objs.size) (fun _ => #[]); letGo old.toList.reverse; Builtin.List.listExtendWith (.ref s.heap.objs.size) (.ref z) .none) _ _ _
  refine wpAny_bind ?_
  unfold Builtin.List.listItems
  refine wpAny_bind (wpAny_seqItems hS rfl (wpAny_pure ?_))
  show wpAny _ A.in1.in1 (updateSeq s.heap.objs.size (fun _ => #[]) >>= fun _ => letGo (#[] : Array Value).toList.reverse >>= fun _ => Builtin.List.listExtendWith (.ref s.heap.objs.size) (.ref z) .none) _ _ _
  refine wpAny_bind (wpAny_updateSeq hS rfl ?_)
  have hS₂ := Heap.get?_update_self (Obj.mapSeq (fun _ => (#[] : Array Value))) hS rfl
  have oth : ∀ b o, s.heap.get? b = some o → ((s.heap.push { cls := .type "list", data := .seq #[] }).update s.heap.objs.size (Obj.mapSeq (fun _ => (#[] : Array Value)))).get? b = some o :=
    fun b o e => (Heap.get?_update_other _ _ (Nat.ne_of_gt (Heap.lt_size e))).trans (Heap.get?_push_of_some _ e)
  refine wpAny_bind (wpAny_letGo ?_)
  unfold Builtin.List.listExtendWith
  have hT : ∀ {s' : Shared}, IsZip s'.heap z TI TO .none → s'.TypeIs (.ref z) "zip" := fun e => ⟨_, e, rfl⟩
  refine wpAny_bind (wpAny_typeOf (T := "zip") (hT (oth _ _ hz)) ?_)
  have e1 : Builtin.List.listSameRef (.ref s.heap.objs.size) (.ref z) = false := by simp [Builtin.List.listSameRef, Nat.ne_of_gt (lt hz)]
  have e2 : (Value.type "zip" == Value.type "list") = false := by decide
  have e3 : (Value.type "zip" == Value.type "tuple") = false := by decide
  simp only [e1, e2, e3, Bool.or_false, Bool.false_eq_true, if_false]
  refine wpAny_bind (wpAny_pyIter_zip (oth _ _ hz) ?_)
  refine wpAny_bind (wpAny_holding ?_)
  unfold Builtin.List.listLengthHint
  refine wpAny_bind (wpAny_specialOf (hT (oth _ _ hz)) zip_no_len ?_)
  show wpAny _ A.in1.in1 (specialOf (Value.ref z) (Str.ofString "__length_hint__") >>= _) _ _ _
  refine wpAny_bind (wpAny_specialOf (hT (oth _ _ hz)) zip_no_hint ?_)
  refine wpAny_pure ?_
  show wpAny _ A.in1.in1 (rule "list.extend.makes-room" >>= fun _ => Builtin.List.listTouch (.ref s.heap.objs.size) >>= fun _ =>
    again (.builtin "list.extend.loop" ⟨[.ref s.heap.objs.size, .ref z, .none], []⟩)) _ _ _
  refine wpAny_bind (wpAny_rule ?_)
  refine wpAny_bind ?_
  show wpAny _ A.in1.in1 (updateSeq s.heap.objs.size (·.push .none) >>= fun _ => updateSeq s.heap.objs.size (·.pop)) _ _ _
  refine wpAny_bind (wpAny_updateSeq hS₂ rfl ?_)
  have hS₃ := Heap.get?_update_self (Obj.mapSeq (·.push Value.none)) hS₂ rfl
  refine wpAny_updateSeq (hz := by seq_fits) hS₃ rfl ?_
  have hS₄ := Heap.get?_update_self (Obj.mapSeq (·.pop)) hS₃ rfl
  refine wpAny_pure ⟨plainId_quiet PySem.F.plain_extend_loop _, ?_⟩
  have oth2 : ∀ b o, b ≠ s.heap.objs.size → s.heap.get? b = some o → ((((s.heap.push { cls := .type "list", data := .seq #[] }).update s.heap.objs.size (Obj.mapSeq (fun _ => (#[] : Array Value)))).update s.heap.objs.size (Obj.mapSeq (·.push Value.none))).update s.heap.objs.size (Obj.mapSeq (·.pop))).get? b = some o :=
    fun b o hb e => (Heap.get?_update_other _ _ (Ne.symm hb)).trans ((Heap.get?_update_other _ _ (Ne.symm hb)).trans (oth b o e))
  refine loopZ (A := A.in1) (s := s) (h₁ := s.heap) (show A.in1.handled = none from hh) Z hn .none (fun h' tk acc c as k1 k2 k3 k4 k5 => ?_) _ 0 _ s.toks _ #[] [] (Nat.sub_zero _) (Nat.zero_le _) (st0.keep Z oth2) (fun b o g1 _ _ _ _ e => oth2 b o g1 e) hS₄ rfl rfl ⟨List.Pairwise.nil, (fun _ ha => nomatch ha), (fun j a hj => by simp at hj)⟩
  exact ⟨rfl, hQ h' tk acc c as (fun b o g2 g3 g4 g5 e => k1 b o (Nat.ne_of_lt (Heap.lt_size e)) g2 g3 g4 g5 e) k2 k3 k4 k5⟩
end
/-- the tuples tracked at their addresses -/
def putP : Hp → List Addr → List (V × V) → Hp
  | H, a :: as, p :: r => putP (upd H a (.tup [p.1, p.2])) as r
  | H, _, _ => H
theorem putP_off {b : Addr} : ∀ (as : List Addr) (r : List (V × V)) (H : Hp), b ∉ as → putP H as r b = H b
  | [], _, _, _ => rfl
  | _ :: _, [], _, _ => rfl
  | a :: as, p :: r, H, h => by
    show putP (upd H a (.tup [p.1, p.2])) as r b = H b
    rw [putP_off as r _ (fun z => h (List.mem_cons_of_mem _ z)), upd_ne (fun z => h (by rw [z]; exact List.mem_cons_self))]
theorem putP_at : ∀ (as : List Addr) (r : List (V × V)) (H : Hp), as.length = r.length → as.Nodup → Paired (fun (t : Addr) (p : V × V) => putP H as r t = some (.tup [p.1, p.2])) as r
  | [], [], _, _, _ => .nil
  | [], _ :: _, _, h, _ => by cases h
  | _ :: _, [], _, h, _ => by cases h
  | a :: as, p :: r, H, h, hn => by
    have hn' := List.nodup_cons.mp hn
    have ih := putP_at as r (upd H a (.tup [p.1, p.2])) (Nat.succ.inj h) hn'.2
    refine .cons ?_ ih
    show putP (upd H a (.tup [p.1, p.2])) as r a = some (.tup [p.1, p.2])
    rw [putP_off as r _ hn'.1, upd_same]
def tListZip (K : PySem.W.Frag) (ta : TA) : TE := fun σ H Q => ta σ H fun vs H1 => ∃ a b xs ys, vs = [.ref a, .ref b] ∧ SqL K H1 a xs ∧ SqL K H1 b ys ∧
  ∀ (H' : Hp) (p : Addr) (ts : List Addr), (∀ b o, H1 b = some o → H' b = some o) → H1 p = none → (∀ t ∈ ts, H1 t = none) → H' p = some (.lst (ts.map V.ref)) → Paired (fun (t : Addr) (q : V × V) => H' t = some (.tup [q.1, q.2])) ts (xs.zip ys) → Q (.ref p) H'
section
variable {X : Cx} {e e2 : Expr} {ta : TA} {p p2 q pos : Pos}
theorem pe_listZip (hc : X.calm = true) (hg : Gl X "list") (hm : X.mg "list" = none) (hg2 : Gl X "zip") (hm2 : X.mg "zip" = none) (ha : PA X [e, e2] ta)
    (hs : starEach [e, e2] X.env = (false, eval e X.env) :: starEach [e2] X.env := by rfl) (hpl : (backTo q (starEach [e2] X.env)).any (·.1) = false := by rfl)
    (hs2 : starEach [.Call (.Name "zip" p2) [e, e2] [] q] X.env = (false, eval (.Call (.Name "zip" p2) [e, e2] [] q) X.env) :: starEach [] X.env := by rfl) :
    PE X (.Call (.Name "list" p) [.Call (.Name "zip" p2) [e, e2] [] q] [] pos) (tListZip X.K ta) := by
  refine ⟨fun pins s σ H Q I h => ?_⟩
  have hv : bootBuiltins "list" = some (.type "list") := by decide +kernel
  refine wpAny_Call_Name_kw (ld_blt I hg hm hv ?_)
  refine PyProof.Rows.callWith_type1 ?_ hs2 rfl
  rw [hs2]
  show wpAny _ _ (spliced ((false, eval (.Call (.Name "zip" p2) [e, e2] [] q) X.env) :: backTo pos (starEach [] X.env))) _ _ s
  refine Calls.spliced_cons ?_
  refine Call_ (ld_blt I hg2 hm2 PyProof.Rows.boot_zip (PyProof.Rows.callWith_type1 (thn (ha.run q pins s σ H _ I h) fun us s1 ⟨vs, H1, I1, r1, q1⟩ => ?_) hs hpl))
  obtain ⟨a, b, xs, ys, ex, hqx, hqy, k⟩ := q1
  subst ex
  cases r1 with
  | cons r rr =>
    cases rr with
    | cons r' rr =>
      cases rr
      cases r
      cases r'
      obtain ⟨its, rv, p1, z1⟩ := I1.list hqx
      obtain ⟨its2, rv2, p3, z2⟩ := I1.list hqy
      have la : a < s1.heap.objs.size := p1.lt
      have lb : b < s1.heap.objs.size := p3.lt
      refine call_zip_2 p1.isList p3.isList fun h' hz hTI hTO h1 h2 hsz hk => ?_
      refine Calls.spliced_nil ?_
      have n1 := rv.length
      have n2 := rv2.length
      refine callZ (s := { s1 with heap := h' }) (I1.ok.hd hc) (PySem.W.ktu_apart s1.heap.objs.size a b la lb) hz hTI hTO h1 h2 (p1.isList.at fun o e => hk a o e) (p3.isList.at fun o e => hk b o e) (by rw [List.size_toArray, List.size_toArray]; omega) fun h2 tk acc c as k1 kS kl kG kacc => ?_
      dsimp only at k1 kS kl kG kacc ⊢
      rw [List.size_toArray, List.size_toArray] at kl
      have hge : ∀ {c : Addr}, c < s1.heap.objs.size → c ≠ s1.heap.objs.size + 4 ∧ c ≠ s1.heap.objs.size + 3 ∧ c ≠ s1.heap.objs.size ∧ c ≠ s1.heap.objs.size + 1 := fun {c} h =>
        ⟨Nat.ne_of_lt (Nat.lt_add_right _ h), Nat.ne_of_lt (Nat.lt_add_right _ h), Nat.ne_of_lt h, Nat.ne_of_lt (Nat.lt_add_right _ h)⟩
      have keep : ∀ b o, s1.heap.get? b = some o → h2.get? b = some o := fun b o e => by
        have g := hge (Heap.lt_size e)
        exact k1 b o g.1 g.2.1 g.2.2.1 g.2.2.2 (hk b o e)
      have hle : s1.heap.objs.size ≤ h'.objs.size := by rw [hsz]; exact Nat.le_add_right _ _
      have nd : as.Nodup := List.Pairwise.imp (fun {a b} (h : a < b) => Nat.ne_of_lt h) kG.rise
      have abv : ∀ t ∈ as, h'.objs.size < t := kG.above
      have nSn : h'.objs.size ∉ as := fun z => Nat.lt_irrefl _ (abv _ z)
      have new : ∀ t ∈ as, H1 t = none := fun t ht => I1.hok.fresh (Nat.le_trans hle (Nat.le_of_lt (abv t ht)))
      have newS : H1 h'.objs.size = none := I1.hok.fresh hle
      have lz : as.length = (xs.zip ys).length := by rw [List.length_zip, kl]; omega
      have atP := putP_at as (xs.zip ys) (upd H1 h'.objs.size (.lst (as.map V.ref))) lz nd
      have off : ∀ b, b ∉ as → b ≠ h'.objs.size → putP (upd H1 h'.objs.size (.lst (as.map V.ref))) as (xs.zip ys) b = H1 b := fun b g1 g2 => by rw [putP_off as _ _ g1, upd_ne g2]
      have low : ∀ b o, s1.heap.get? b = some o → b ∉ as ∧ b ≠ h'.objs.size := fun b o e =>
        have hb := Nat.lt_of_lt_of_le (Heap.lt_size e) hle
        ⟨fun z => absurd hb (Nat.not_lt.mpr (Nat.le_of_lt (abv b z))), Nat.ne_of_lt hb⟩
      have kp : ∀ b u, H1 b = some u → (putP (upd H1 h'.objs.size (.lst (as.map V.ref))) as (xs.zip ys)) b = some u := fun b u e => by
        rw [off b (fun z => by rw [new b z] at e; cases e) (fun z => by rw [z, newS] at e; cases e)]
        exact e
      have eS : putP (upd H1 h'.objs.size (.lst (as.map V.ref))) as (xs.zip ys) h'.objs.size = some (.lst (as.map V.ref)) := by rw [putP_off as _ _ nSn, upd_same]
      refine ⟨.ref h'.objs.size, putP (upd H1 h'.objs.size (.lst (as.map V.ref))) as (xs.zip ys), ?_, rfl, k _ _ as kp newS new eS atP⟩
      refine I1.call' (ch := []) rfl ⟨fun b o q _ _ _ => keep b o q, fun b o q _ _ _ => ⟨o.slots, keep b o q⟩, fun b o q n _ => ?_, fun b o q _ => ⟨o, keep b o q⟩, fun b xs q => kp b _ q, fun b o u q => kp b _ q, fun b ps q => ⟨#[], by rw [kp b _ q]; simp⟩⟩ (fun b u q => ?_) I1.bare fun b z => by simp at z
      · obtain ⟨g1, g2⟩ := low b o q
        rw [off b g1 g2]
        exact n
      · by_cases hb : b ∈ as
        · obtain ⟨j, pk, e1, e2, e3⟩ := LiI.paired_ix atP hb
          rw [e3] at q
          cases q
          obtain ⟨x, y, f1, f2, f3⟩ := kG.pairs j b e1
          obtain ⟨u1, g1, g2⟩ := LiI.paired_get (rv) (i := j) (x := pk.1) (by have := List.getElem?_zip_eq_some.mp e2; exact this.1)
          obtain ⟨u2, g3, g4⟩ := LiI.paired_get (rv2) (i := j) (x := pk.2) (by have := List.getElem?_zip_eq_some.mp e2; exact this.2)
          have h1 : its.toArray[j]? = some u1 := by simpa using g1
          have h2 : its2.toArray[j]? = some u2 := by simpa using g3
          rw [h1] at f1
          rw [h2] at f2
          cases f1
          cases f2
          exact ⟨by show 2 ≤ sizeLine; decide, [x, y], .cons g2 (.cons g4 .nil), ⟨_, f3, rfl, _, rfl⟩⟩
        · by_cases hb2 : b = h'.objs.size
          · rw [hb2] at q ⊢
            rw [eS] at q
            cases q
            refine ⟨by rw [List.length_map]; omega, acc.toList, c, by rw [kacc]; exact LiI.vals_refs as, ?_⟩
            rw [Array.toArray_toList]
            exact kS
          · rw [off b hb hb2] at q
            exact (I1.hok b u q).stay (fun d v _ y => keep d v y) (fun d y => kp d _ y) fun d xs y => kp d _ y
end
/-- new objects that stay, many at once -/
theorem HG.many {K : PySem.W.Frag} {I H H' : Hp} {G : Gp} (h : HG K I H G) (k : ∀ b o, H b = some o → H' b = some o) : ∃ I', HG K I' H' G ∧ Stp I H G I' H' G ∧ ∀ b, H b = none → I' b = H' b := by
  have same : Same I (fun b => match H b with | none => H' b | some _ => I b) := fun b o e => by
    have := h.sub b o e
    simp only [this]
    exact e
  refine ⟨fun b => match H b with | none => H' b | some _ => I b, ⟨fun b o e => ?_, fun a m e => ?_⟩, ⟨same, fun b o e _ => k b o e, fun b e => .inl e, fun b e => ?_, fun b e => ?_⟩, fun b e => by simp only [e]⟩
  · cases q : H b with
    | none => simp only [q] at e; exact e
    | some u => simp only [q] at e; exact k b o (h.sub b o e)
  · obtain ⟨h1, o, h2, h3⟩ := h.mu a m e
    exact ⟨by simp only [h2]; exact h1, o, k a o h2, h3.mono same⟩
  · cases q : H b with
    | none => exact .inr rfl
    | some u => simp only [q] at e; exact .inl e
  · cases q : H b with
    | none => exact absurd q e
    | some u => rw [k b u q]; exact fun z => nomatch z
def zipD : List D → List D → List D
  | d :: ds, e :: es => .tup [d, e] :: zipD ds es
  | _, _ => []
theorem zip_iss {K : PySem.W.Frag} {I : Hp} {H' : Hp} (hI : ∀ t o, H' t = some o → (∃ x y, o = .tup [x, y]) → True) : ∀ {ds es : List D} {xs ys : List V} {ts : List Addr}, Iss K I ds xs → Iss K I es ys → Paired (fun (t : Addr) (q : V × V) => I t = some (.tup [q.1, q.2])) ts (xs.zip ys) → Iss K I (zipD ds es) (ts.map V.ref)
  | [], _, _, _, _, h, _, p => by
    rw [h.nil_eq] at p
    cases p
    exact Iss.nil
  | d :: ds, [], _, _, _, h, g, p => by
    rw [g.nil_eq, List.zip_nil_right] at p
    cases p
    exact Iss.nil
  | d :: ds, e :: es, _, _, _, h, g, p => by
    obtain ⟨v, r, rfl, h1, h2⟩ := h.uncons
    obtain ⟨u, q, rfl, g1, g2⟩ := g.uncons
    rw [List.zip_cons_cons] at p
    cases p with
    | cons a t => exact Iss.cons (Is.tup a (Iss.cons h1 (Iss.cons g1 Iss.nil))) (zip_iss hI h2 g2 t)
section
variable {X : Cx} {Γ : SG} {G : Gp} {R : D → Gp → Prop} {a b : Expr} {p p2 q pos : Pos}
theorem e_listZip (hm : X.mg "list" = none) (hm2 : X.mg "zip" = none) (h : AA X [a, b] Γ G fun zs G1 => ∃ d e ds es, zs = [d, e] ∧ Lv G1 d ds ∧ Lv G1 e es ∧ R (.lst (zipD ds es)) G1) (hc : X.calm = true := by rfl) (hg : Gl X "list" := by rfl) (hg2 : Gl X "zip" := by rfl)
    (hs : starEach [a, b] X.env = (false, eval a X.env) :: starEach [b] X.env := by rfl) (hpl : (backTo q (starEach [b] X.env)).any (·.1) = false := by rfl)
    (hs2 : starEach [.Call (.Name "zip" p2) [a, b] [] q] X.env = (false, eval (.Call (.Name "zip" p2) [a, b] [] q) X.env) :: starEach [] X.env := by rfl) : EE X (.Call (.Name "list" p) [.Call (.Name "zip" p2) [a, b] [] q] [] pos) Γ G R := fun σ I H rp hG =>
  toE (pe_listZip hc hg hm hg2 hm2 pa_s hs hpl hs2) ((h σ I H rp hG).imp fun vs H1 ⟨I1, G1, zs, g1, s1, i1, d, e, ds, es, ed, l1, l2, r⟩ => by
    subst ed
    obtain ⟨v, u, rfl, q1, q3⟩ := i1.two
    obtain ⟨a, xs, rfl, h1, h2⟩ := l1.at g1 q1
    obtain ⟨b, ys, rfl, h3, h4⟩ := l2.at g1 q3
    refine ⟨a, b, xs, ys, rfl, SqL.of h1, SqL.of h3, fun H' p ts k hp ht hl pr => ?_⟩
    obtain ⟨I2, g2, s2, f⟩ := g1.many k
    refine ⟨I2, G1, _, g2, s1.trans s2, ?_, r⟩
    have ip : I2 p = some (.lst (ts.map V.ref)) := by rw [f p hp]; exact hl
    refine Is.lst ip (zip_iss (H' := H') (fun _ _ _ _ => trivial) (Iss.mono s2.ex _ h2) (Iss.mono s2.ex _ h4) ?_)
    have go : ∀ {ts : List Addr} {zs : List (V × V)}, Paired (fun (t : Addr) (q : V × V) => H' t = some (.tup [q.1, q.2])) ts zs → (∀ t ∈ ts, H1 t = none) → Paired (fun (t : Addr) (q : V × V) => I2 t = some (.tup [q.1, q.2])) ts zs := by
      intro ts zs pr
      induction pr with
      | nil => intro _; exact .nil
      | cons h _ ih => intro hn; exact .cons (by rw [f _ (hn _ List.mem_cons_self)]; exact h) (ih fun t ht => hn t (List.mem_cons_of_mem _ ht))
    exact go pr ht)
end
end J
namespace J
open PySem PySem.Spec PyProof.Rows L2 TL
inductive Car where
  | leaf (hand box : Nat) (deed : Deed) (n : Nat)
  | node (hand box : Nat) (deed : Deed) (one other : Car)
def Car.hand : Car → Nat
  | .leaf h _ _ _ => h
  | .node h _ _ _ _ => h
def Car.box : Car → Nat
  | .leaf _ b _ _ => b
  | .node _ b _ _ _ => b
def Car.deed : Car → Deed
  | .leaf _ _ d _ => d
  | .node _ _ d _ _ => d
def carF : List Str := ["hand", "box", "deed", "parts"]
def dCar (C : Addr) : Car → D
  | .leaf h b d n => .obj C carF [.int (h : Nat), .int (b : Nat), dDeed d, .tup [.int (n : Nat)]]
  | .node h b d x y => .obj C carF [.int (h : Nat), .int (b : Nat), dDeed d, .tup [dCar C x, dCar C y]]
structure CarC (K : PySem.W.Frag) (C : Addr) : Prop where
  cls : Cls K C
  na : ∀ f ∈ carF, NoAttr K C f
section
variable {K : PySem.W.Frag} {C : Addr} {G : Gp} {R : D → Gp → Prop} {c : Car}
theorem fl_hand (CC : CarC K C) (r : R (.int (c.hand : Nat)) G) : Fl K "hand" G R (dCar C c) := by
  cases c with
  | leaf => exact .obj CC.cls (CC.na _ (by decide)) rfl r
  | node => exact .obj CC.cls (CC.na _ (by decide)) rfl r
theorem fl_box (CC : CarC K C) (r : R (.int (c.box : Nat)) G) : Fl K "box" G R (dCar C c) := by
  cases c with
  | leaf => exact .obj CC.cls (CC.na _ (by decide)) rfl r
  | node => exact .obj CC.cls (CC.na _ (by decide)) rfl r
theorem fl_deed (CC : CarC K C) (r : R (dDeed c.deed) G) : Fl K "deed" G R (dCar C c) := by
  cases c with
  | leaf => exact .obj CC.cls (CC.na _ (by decide)) rfl r
  | node => exact .obj CC.cls (CC.na _ (by decide)) rfl r
def dParts (C : Addr) : Car → D
  | .leaf _ _ _ n => .tup [.int (n : Nat)]
  | .node _ _ _ x y => .tup [dCar C x, dCar C y]
theorem fl_parts (CC : CarC K C) (r : R (dParts C c) G) : Fl K "parts" G R (dCar C c) := by
  cases c with
  | leaf => exact .obj CC.cls (CC.na _ (by decide)) rfl r
  | node => exact .obj CC.cls (CC.na _ (by decide)) rfl r
end
/-- a hand and a box that the net has -/
def Car.at (k : Nat) (c : Car) : Prop := c.hand < 2 ^ k ∧ c.box < 16
def firstC (k stage : Nat) (c : Car) : Bool := decide (fig k c.hand stage = 0)
def turnC (k stage : Nat) (row : List Car) : List Car := row.filter (firstC k stage) ++ row.filter fun c => !firstC k stage c
theorem mod_nat {a b : Nat} (h : 0 < b) : ((a : Nat) : Int).fmod (b : Nat) = (a % b : Nat) := by rw [Int.fmod_eq_emod_of_nonneg _ (by omega)]; rfl
theorem take_filter {α : Type} {xs : List α} {p : α → Bool} {i : Nat} (h : i < xs.length) : (xs.take (i + 1)).filter p = (xs.take i).filter p ++ if p xs[i] = true then [xs[i]] else [] := by
  rw [List.take_succ, List.getElem?_eq_getElem h, List.filter_append]
  congr 1
  show [xs[i]].filter p = _
  by_cases q : p xs[i] = true
  · rw [List.filter_cons, if_pos q, if_pos q]; rfl
  · rw [List.filter_cons, if_neg q, if_neg q]; rfl
section
variable {P : Program} {w : World} {K : PySem.W.Frag} {mg : Str → Option Value} {base : Heap} {CCarried : Addr}
def S_side_of_box_rounds : AS := fun ds G R => ∃ a b : Nat, ds = [.int a, .int b] ∧ a ≤ 4 ∧ b < 16 ∧ R (.int (b % 2 ^ a : Nat)) G
theorem sc_side_of_box_rounds : FnScope ["k", "box"] ["k", "box"] (defScope (top 70)) := ⟨rfl, rfl, rfl, by decide +kernel, rfl, by decide +kernel, by decide +kernel⟩
theorem f_side_of_box_rounds (T : Blt K mg) (dt : Dat K mg d_side_of_box_rounds "side_of_box_rounds") : Fn P w K mg base 1 "side_of_box_rounds" ["k", "box"] [] S_side_of_box_rounds := by
  obtain ⟨f, fd, F, hm⟩ := dt
  refine ⟨f, cal_of F sc_side_of_box_rounds (fun ds G R h => ?_) (fun _ _ _ _ _ _ us hl => match us, hl with | [_, _], _ => rfl) (fun cdv A outer s H E hr ds G R h => ?_), hm⟩
  · obtain ⟨a, b, rfl, h1, h2, _⟩ := h
    rfl
  · obtain ⟨a, b, rfl, h1, h2, k⟩ := h
    refine b_one <| s_ret <| e_bin <| e_var 1 rfl <| e_bin <| e_int <| e_var 0 rfl <| o_shl (cpow_nat (by omega) (by omega) (by omega) (by omega)) ?_
    rw [p2i]
    refine o_mod (by have := Nat.two_pow_pos a; omega) ?_
    rw [mod_nat (Nat.two_pow_pos a)]
    exact ⟨_, Sub.refl _, k⟩
def S_line_of_rounds (CCarried : Addr) : AS := fun ds G R => ∃ (a : Nat) (c : Car) (l : Nat), ds = [.int a, dCar CCarried c, .int l] ∧ a ≤ 4 ∧ l ≤ a ∧ c.at a ∧ R (.int (wayL a c.hand (c.box % 2 ^ a) l : Nat)) G
theorem sc_line_of_rounds : FnScope ["k", "one", "level"] ["k", "one", "level"] (defScope (top 72)) := ⟨rfl, rfl, rfl, by decide +kernel, rfl, by decide +kernel, by decide +kernel⟩
theorem f_line_of_rounds (T : Blt K mg) (CC : CarC K CCarried) (dt : Dat K mg d_line_of_rounds "line_of_rounds") (c1 : Fn P w K mg base 1 "line_on_way" ["k", "hand", "goal", "level"] [] S_line_on_way) (c2 : Fn P w K mg base 1 "side_of_box_rounds" ["k", "box"] [] S_side_of_box_rounds) : Fn P w K mg base 2 "line_of_rounds" ["k", "one", "level"] [] (S_line_of_rounds CCarried) := by
  obtain ⟨f, fd, F, hm⟩ := dt
  refine ⟨f, cal_of F sc_line_of_rounds (fun ds G R h => ?_) (fun _ _ _ _ _ _ us hl => match us, hl with | [_, _, _], _ => rfl) (fun cdv A outer s H E hr ds G R h => ?_), hm⟩
  · obtain ⟨a, c, l, rfl, h1, h2, h3, _⟩ := h
    rfl
  · obtain ⟨a, c, l, rfl, h1, h2, h3, k⟩ := h
    obtain ⟨f1, q1, m1⟩ := c1
    obtain ⟨f2, q2, m2⟩ := c2
    refine b_one <| s_ret <| e_call q1 m1 (hr.mono (by decide)) <| a_cons <| e_var 0 rfl <| a_cons <| e_fld <| e_var 1 rfl <| fl_hand CC <| a_cons <| e_call q2 m2 (hr.mono (by decide)) <| a_cons <| e_var 0 rfl <| a_cons <| e_fld <| e_var 1 rfl <| fl_box CC <| a_nil ⟨a, c.box, rfl, h1, h3.2, ?_⟩
    exact a_cons <| e_var 2 rfl <| a_nil ⟨a, c.hand, c.box % 2 ^ a, l, rfl, h1, h2, p2_lt16 h1 h3.1, p2_lt16 h1 (Nat.mod_lt _ (Nat.two_pow_pos _)), ⟨_, Sub.refl _, k⟩⟩
def S_comes_first : AS := fun ds G R => ∃ a b c d : Nat, ds = [.int a, .int b, .int c, .int d, dSet a] ∧ a ≤ 4 ∧ 1 ≤ b ∧ b ≤ a ∧ c < 2 ^ a ∧ d < 2 ^ a ∧ R (.bl (decide (fig a c b = 0))) G
theorem sc_comes_first : FnScope ["k", "stage", "hand", "goal", "firsts", "number"] ["k", "stage", "hand", "goal", "firsts"] (defScope (top 74)) := ⟨rfl, rfl, rfl, by decide +kernel, rfl, by decide +kernel, by decide +kernel⟩
theorem f_comes_first (T : Blt K mg) (dt : Dat K mg d_comes_first "comes_first") (c1 : Fn P w K mg base 1 "number_without" ["k", "line", "stage"] [] S_number_without) (c2 : Fn P w K mg base 1 "line_on_way" ["k", "hand", "goal", "level"] [] S_line_on_way) (c3 : Fn P w K mg base 1 "figure_in" ["k", "line", "stage"] [] S_figure_in) : Fn P w K mg base 2 "comes_first" ["k", "stage", "hand", "goal", "firsts"] [] S_comes_first := by
  obtain ⟨f, fd, F, hm⟩ := dt
  refine ⟨f, cal_of F sc_comes_first (fun ds G R h => ?_) (fun _ _ _ _ _ _ us hl => match us, hl with | [_, _, _, _, _], _ => rfl) (fun cdv A outer s H E hr ds G R h => ?_), hm⟩
  · obtain ⟨a, b, c, d, rfl, h1, h2, h3, h4, h5, _⟩ := h
    rfl
  · obtain ⟨a, b, c, d, rfl, h1, h2, h3, h4, h5, k⟩ := h
    obtain ⟨f1, q1, m1⟩ := c1
    obtain ⟨f2, q2, m2⟩ := c2
    obtain ⟨f3, q3, m3⟩ := c3
    have hw := wayL_lt h1 h3 h4 h5
    have hn := noW_lt h1 h3 h2 hw
    refine b_cons <| s_set 5 sc_comes_first.nd <| e_call q1 m1 (hr.mono (by decide)) <| a_cons <| e_var 0 rfl <| a_cons <| e_call q2 m2 (hr.mono (by decide)) <| a_cons <| e_var 0 rfl <| a_cons <| e_var 2 rfl <| a_cons <| e_var 3 rfl <| a_cons <| e_var 1 rfl <| a_nil ⟨a, c, d, b, rfl, h1, h3, p2_lt16 h1 h4, p2_lt16 h1 h5, ?_⟩
    refine a_cons <| e_var 1 rfl <| a_nil ⟨a, _, b, rfl, h1, h3, h2, p2_lt16 h1 hw, ?_⟩
    refine b_one <| s_ret <| e_cmp <| e_call q3 m3 (hr.mono (by decide)) <| a_cons <| e_var 0 rfl <| a_cons <| e_var 2 rfl <| a_cons <| e_var 1 rfl <| a_nil ⟨a, c, b, rfl, h1, h3, p2_lt16 h1 h4, e_ix <| e_ix <| e_var 4 rfl <| e_bin <| e_var 1 rfl <| e_int <| o_sub ?_⟩
    rw [show ((b : Nat) : Int) - 1 = ((b - 1 : Nat) : Int) by omega]
    refine i_tup .tup (x := .tup (zrow a)) (by rw [List.getElem?_replicate, if_pos (by omega)]) <| e_var 5 rfl <| i_tup .tup (x := .int 0) (by show (List.replicate (2 ^ (a - 1)) (D.int 0))[noW a (wayL a c d b) b]? = _; rw [List.getElem?_replicate, if_pos hn]) <| o_eqI ?_
    have e : decide (((fig a c b : Nat) : Int) = 0) = decide (fig a c b = 0) := decide_eq_decide.mpr (by omega)
    rw [e]
    exact ⟨_, Sub.refl _, k⟩
def S_in_turn (CCarried : Addr) : AS := fun ds G R => ∃ (a b : Nat) (row : List Car), ds = [.int a, .int b, .lst (row.map (dCar CCarried)), dSet a] ∧ a ≤ 4 ∧ 1 ≤ b ∧ b ≤ a ∧ row.length ≤ 1000 ∧ (∀ c ∈ row, c.at a) ∧ R (.lst ((turnC a b row).map (dCar CCarried))) G
theorem sc_in_turn : FnScope ["k", "stage", "row", "firsts", "ahead", "later", "one"] ["k", "stage", "row", "firsts"] (defScope (top 75)) := ⟨rfl, rfl, rfl, by decide +kernel, rfl, by decide +kernel, by decide +kernel⟩
theorem f_in_turn (T : Blt K mg) (CC : CarC K CCarried) (dt : Dat K mg d_in_turn "in_turn") (c1 : Fn P w K mg base 2 "comes_first" ["k", "stage", "hand", "goal", "firsts"] [] S_comes_first) (c2 : Fn P w K mg base 1 "side_of_box_rounds" ["k", "box"] [] S_side_of_box_rounds) : Fn P w K mg base 3 "in_turn" ["k", "stage", "row", "firsts"] [] (S_in_turn CCarried) := by
  obtain ⟨f, fd, F, hm⟩ := dt
  refine ⟨f, cal_of F sc_in_turn (fun ds G R h => ?_) (fun _ _ _ _ _ _ us hl => match us, hl with | [_, _, _, _], _ => rfl) (fun cdv A outer s H E hr ds G R h => ?_), hm⟩
  · obtain ⟨a, b, row, rfl, h1, h2, h3, hl, hc, _⟩ := h
    rfl
  · obtain ⟨a, b, row, rfl, h1, h2, h3, hl, hc, k⟩ := h
    obtain ⟨f1, q1, m1⟩ := c1
    obtain ⟨f2, q2, m2⟩ := c2
    refine b_cons <| s_set 4 sc_in_turn.nd <| e_lstM <| a_nil ⟨Nat.zero_le _, fun p hp => ?_⟩
    refine b_cons <| s_set 5 sc_in_turn.nd <| e_lstM <| a_nil ⟨Nat.zero_le _, fun q hq => ?_⟩
    have npq : p ≠ q := fun e => by rw [← e, gup_same] at hq; cases hq
    have q0 : G q = none := by rwa [gup_ne (Ne.symm npq)] at hq
    refine b_cons <| s_for (pg_name (i := 6) sc_in_turn.nd rfl (by first | exact Or.inl rfl | exact Or.inr rfl)) PassesOwn.never <| n_list <| e_var 2 rfl ⟨_, .lst, fun i Γ G' => Γ.length = 7 ∧ Γ[0]? = some (some (.int (a : Nat))) ∧ Γ[1]? = some (some (.int (b : Nat))) ∧ Γ[3]? = some (some (dSet a)) ∧ Γ[4]? = some (some (.ref p)) ∧ Γ[5]? = some (some (.ref q)) ∧ G' p = some (.lst (((row.take i).filter (firstC a b)).map (dCar CCarried))) ∧ G' q = some (.lst (((row.take i).filter fun c => !firstC a b c).map (dCar CCarried))) ∧ Sub G G', ⟨rfl, rfl, rfl, rfl, rfl, rfl, ?_, gup_same, ?_⟩, fun _ _ _ _ _ => trivial, ?_, ?_⟩
    · rw [gup_ne npq, gup_same]; rfl
    · intro x m h
      rw [gup_ne (fun z => by rw [z, q0] at h; cases h), gup_ne (fun z => by rw [z, hp] at h; cases h)]
      exact h
    · rintro i Γ' G' hi ⟨l, g0, g1, g3, g4, g5, Gp, Gq, sb⟩
      rw [List.length_map] at hi
      refine ⟨_, tg_name, ?_⟩
      rw [at0_map hi]
      show SB _ _ (Γ'.set 6 (some (dCar CCarried row[i]))) _ _
      have v0 := sg_ne (j := 6) (v := some (dCar CCarried row[i])) g0 (by decide)
      have v1 := sg_ne (j := 6) (v := some (dCar CCarried row[i])) g1 (by decide)
      have v3 := sg_ne (j := 6) (v := some (dCar CCarried row[i])) g3 (by decide)
      have v4 := sg_ne (j := 6) (v := some (dCar CCarried row[i])) g4 (by decide)
      have v5 := sg_ne (j := 6) (v := some (dCar CCarried row[i])) g5 (by decide)
      have v6 := sg_eq (Γ := Γ') (i := 6) (v := some (dCar CCarried row[i])) (by rw [l]; decide)
      have l' : (Γ'.set 6 (some (dCar CCarried row[i]))).length = 7 := by rw [List.length_set]; exact l
      have ha := hc _ (List.getElem_mem hi)
      refine b_one <| s_if <| t_val <| e_call q1 m1 (hr.mono (by decide)) <| a_cons <| e_var 0 v0 <| a_cons <| e_var 1 v1 <| a_cons <| e_fld <| e_var 6 v6 <| fl_hand CC <| a_cons <| e_call q2 m2 (hr.mono (by decide)) <| a_cons <| e_var 0 v0 <| a_cons <| e_fld <| e_var 6 v6 <| fl_box CC <| a_nil ⟨a, row[i].box, rfl, h1, ha.2, ?_⟩
      refine a_cons <| e_var 3 v3 <| a_nil ⟨a, b, row[i].hand, row[i].box % 2 ^ a, rfl, h1, h2, h3, ha.1, Nat.mod_lt _ (Nat.two_pow_pos _), _, rfl, ?_⟩
      have lf : ∀ f : Car → Bool, ((row.take i).filter f).length ≤ 1000 := fun f => by have := List.length_filter_le f (row.take i); rw [List.length_take] at this; omega
      refine ite_b (fun e => ?_) (fun e => ?_)
      · have e1 : firstC a b row[i] = true := e
        refine b_one <| s_expr <| e_bm PySem.F.plainAttrs_list PySem.F.slot_list_append PySem.F.type_list_append <| e_var 4 v4 ⟨.inr (.inl ⟨rfl, _, .ref Gp⟩), a_cons <| e_var 6 v6 <| a_nil <| m_append Gp (by rw [List.length_map]; have := lf (firstC a b); omega) ?_⟩
        refine ⟨l', v0, v1, v3, v4, v5, ?_, ?_, fun x m h => ?_⟩
        · rw [gup_same, take_filter hi, if_pos e1, List.map_append]; rfl
        · rw [gup_ne (Ne.symm npq), Gq, take_filter hi, if_neg (by rw [e1]; decide), List.append_nil]
        · rw [gup_ne (fun z => by rw [z, hp] at h; cases h)]; exact sb x m h
      · have e1 : firstC a b row[i] = false := e
        refine b_one <| s_expr <| e_bm PySem.F.plainAttrs_list PySem.F.slot_list_append PySem.F.type_list_append <| e_var 5 v5 ⟨.inr (.inl ⟨rfl, _, .ref Gq⟩), a_cons <| e_var 6 v6 <| a_nil <| m_append Gq (by rw [List.length_map]; have := lf (fun c => !firstC a b c); omega) ?_⟩
        refine ⟨l', v0, v1, v3, v4, v5, ?_, ?_, fun x m h => ?_⟩
        · rw [gup_ne npq, Gp, take_filter hi, if_neg (by rw [e1]; decide), List.append_nil]
        · rw [gup_same, take_filter hi, if_pos (by rw [e1]; rfl), List.map_append]; rfl
        · rw [gup_ne (fun z => by rw [z, q0] at h; cases h)]; exact sb x m h
    rintro Γ' G' ⟨l, g0, g1, g3, g4, g5, Gp, Gq, sb⟩
    rw [List.length_map, List.take_length] at Gp Gq
    have lf : ∀ f : Car → Bool, (row.filter f).length ≤ 1000 := fun f => by have := List.length_filter_le f row; omega
    refine b_one <| s_ret <| e_bin <| e_var 4 g4 <| e_var 5 g5 <| o_cat (.ref Gp) (.ref Gq) (by rw [List.length_map, List.length_map]; have := lf (firstC a b); have := lf (fun c => !firstC a b c); omega) ⟨G, sb, ?_⟩
    rw [← List.map_append]
    exact k
def S_Carried_init (CCarried : Addr) : AS := fun ds G R => ∃ a d1 d2 d3 d4, ds = [.ref a, d1, d2, d3, d4] ∧ G a = some (.ins CCarried []) ∧ R .non (gup G a (.ins CCarried (carF.zip [d1, d2, d3, d4])))
theorem sc_Carried_init : FnScope ["self", "hand", "box", "deed", "parts"] ["self", "hand", "box", "deed", "parts"] (defScope (inClass (top 68) 0)) := ⟨rfl, rfl, rfl, by decide +kernel, rfl, by decide +kernel, by decide +kernel⟩
theorem f_Carried_init (T : Blt K mg) (CC : CarC K CCarried) (dt : DatK K CCarried d_Carried_init) : Kn P w K mg base 1 CCarried ["self", "hand", "box", "deed", "parts"] [] (S_Carried_init CCarried) := by
  obtain ⟨f, fd, F, hm⟩ := dt
  refine ⟨f, cal_of F sc_Carried_init (fun ds G R h => ?_) (fun _ _ _ _ _ _ us hl => match us, hl with | [_, _, _, _, _], _ => rfl) (fun cdv A outer s H E hr ds G R h => ?_), hm⟩
  · obtain ⟨a, d1, d2, d3, d4, rfl, ha, _⟩ := h
    rfl
  · obtain ⟨a, d1, d2, d3, d4, rfl, ha, k⟩ := h
    refine b_cons <| s_fld <| e_var 1 rfl <| e_var 0 rfl ⟨_, CCarried, _, rfl, ha, CC.cls, CC.na _ (by decide), Nat.le_of_ble_eq_true rfl, ?_⟩
    refine b_cons <| s_fld <| e_var 2 rfl <| e_var 0 rfl ⟨_, CCarried, _, rfl, gup_same, CC.cls, CC.na _ (by decide), Nat.le_of_ble_eq_true rfl, ?_⟩
    refine b_cons <| s_fld <| e_var 3 rfl <| e_var 0 rfl ⟨_, CCarried, _, rfl, gup_same, CC.cls, CC.na _ (by decide), Nat.le_of_ble_eq_true rfl, ?_⟩
    refine b_one <| s_fld <| e_var 4 rfl <| e_var 0 rfl ⟨_, CCarried, _, rfl, gup_same, CC.cls, CC.na _ (by decide), Nat.le_of_ble_eq_true rfl, ?_⟩
    rw [gup_gup, gup_gup, gup_gup]
    exact k
end
end J
namespace J
open PySem PySem.Spec PyProof.Rows L2 TL
def ask0 : Ask := ⟨0, 0, look⟩
def putC (as : List Ask) : List Car := (List.range as.length).map fun i => .leaf (as.getD i ask0).hand (as.getD i ask0).box (as.getD i ask0).deed i
def joinC (x y : Car) : Car := .node x.hand x.box (behind x.deed y.deed) x y
def kc (k stage : Nat) (c : Car) : List Key := [.inl (wayL k c.hand (c.box % 2 ^ k) stage : Nat), .inl (c.box : Nat)]
def valA (L : List (List Key × Car)) (k : List Key) : Option Car := (L.find? fun kv => decide (kv.1 = k)).map (·.2)
def putA (L : List (List Key × Car)) (k : List Key) (v : Car) : List (List Key × Car) := if (L.any fun kv => decide (kv.1 = k)) = true then L.map (fun kv => if kv.1 = k then (kv.1, v) else kv) else L ++ [(k, v)]
def stepC (k stage : Nat) (L : List (List Key × Car)) (c : Car) : List (List Key × Car) := match valA L (kc k stage c) with
  | none => putA L (kc k stage c) c
  | some o => putA L (kc k stage c) (joinC o c)
def behindC (k stage : Nat) (row : List Car) : List Car := ((turnC k stage row).foldl (stepC k stage) []).map (·.2)
def goneC (k : Nat) (as : List Ask) (n : Nat) : List Car := (List.range n).foldl (fun row i => behindC k (i + 1) row) (putC as)
def dL (C : Addr) (L : List (List Key × Car)) : List (List Key × D) := L.map fun p => (p.1, dCar C p.2)
theorem valD_dL {C : Addr} {k : List Key} : ∀ L : List (List Key × Car), valD (dL C L) k = (valA L k).map (dCar C)
  | [] => rfl
  | p :: r => by
    have ih := valD_dL (C := C) (k := k) r
    unfold valD valA dL at *
    rw [List.map_cons, List.find?_cons, List.find?_cons]
    by_cases q : p.1 = k
    · simp [q]
    · simp only [q, decide_false]
      exact ih
theorem putD_dL {C : Addr} {k : List Key} {v : Car} (L : List (List Key × Car)) : putKD (dL C L) k (dCar C v) = dL C (putA L k v) := by
  have e : ((dL C L).any fun kv => decide (kv.1 = k)) = L.any fun kv => decide (kv.1 = k) := by unfold dL; rw [List.any_map]; rfl
  unfold putKD putA
  rw [e]
  by_cases q : (L.any fun kv => decide (kv.1 = k)) = true
  · rw [if_pos q, if_pos q]
    unfold dL
    rw [List.map_map, List.map_map]
    apply List.map_congr_left
    intro p _
    show (if p.1 = k then (p.1, dCar C v) else (p.1, dCar C p.2)) = _
    by_cases h : p.1 = k <;> simp [h]
  · rw [if_neg q, if_neg q]
    unfold dL
    rw [List.map_append]
    rfl
theorem valA_mem {L : List (List Key × Car)} {k : List Key} {o : Car} (h : valA L k = some o) : o ∈ L.map (·.2) := by
  unfold valA at h
  cases q : L.find? fun kv => decide (kv.1 = k) with
  | none => rw [q] at h; cases h
  | some p => rw [q] at h; cases h; exact List.mem_map_of_mem (List.mem_of_find?_eq_some q)
theorem putA_mem {L : List (List Key × Car)} {k : List Key} {v x : Car} (h : x ∈ (putA L k v).map (·.2)) : x ∈ L.map (·.2) ∨ x = v := by
  obtain ⟨p, hp, rfl⟩ := List.mem_map.mp h
  unfold putA at hp
  split at hp
  · obtain ⟨q, hq, e⟩ := List.mem_map.mp hp
    by_cases z : q.1 = k
    · rw [if_pos z] at e; subst e; exact .inr rfl
    · rw [if_neg z] at e; subst e; exact .inl (List.mem_map_of_mem hq)
  · rcases List.mem_append.mp hp with z | z
    · exact .inl (List.mem_map_of_mem z)
    · rw [List.mem_singleton.mp z]; exact .inr rfl
theorem putA_len {L : List (List Key × Car)} {k : List Key} {v : Car} : (putA L k v).length ≤ L.length + 1 := by
  unfold putA
  split
  · rw [List.length_map]; omega
  · rw [List.length_append]; exact Nat.le_refl _
theorem stepC_len {k stage : Nat} {L : List (List Key × Car)} {c : Car} : (stepC k stage L c).length ≤ L.length + 1 := by
  unfold stepC
  split <;> exact putA_len
theorem stepC_at {k stage m : Nat} {L : List (List Key × Car)} {c : Car} (hL : ∀ x ∈ L.map (·.2), x.at m) (hc : c.at m) : ∀ x ∈ (stepC k stage L c).map (·.2), x.at m := by
  intro x hx
  unfold stepC at hx
  split at hx
  · rcases putA_mem hx with z | z
    · exact hL x z
    · rw [z]; exact hc
  · rename_i o e
    rcases putA_mem hx with z | z
    · exact hL x z
    · rw [z]; exact hL o (valA_mem e)
theorem turnC_mem {k stage : Nat} {row : List Car} {c : Car} : c ∈ turnC k stage row ↔ c ∈ row := by
  unfold turnC
  rw [List.mem_append, List.mem_filter, List.mem_filter]
  cases firstC k stage c <;> simp
theorem turnC_len {k stage : Nat} {row : List Car} : (turnC k stage row).length = row.length := by
  unfold turnC
  rw [List.length_append]
  induction row with
  | nil => rfl
  | cons c r ih =>
    rw [List.filter_cons, List.filter_cons]
    by_cases q : firstC k stage c = true
    · rw [if_pos q, if_neg (by rw [q]; decide), List.length_cons, List.length_cons]; omega
    · rw [if_neg q, if_pos (by simp [q]), List.length_cons, List.length_cons]; omega
theorem fold_at {k stage m : Nat} : ∀ {cs : List Car} {L : List (List Key × Car)}, (∀ x ∈ L.map (·.2), x.at m) → (∀ c ∈ cs, c.at m) → ∀ x ∈ (cs.foldl (stepC k stage) L).map (·.2), x.at m
  | [], _, hL, _ => hL
  | c :: cs, _, hL, hc => fold_at (cs := cs) (stepC_at hL (hc c List.mem_cons_self)) fun x hx => hc x (List.mem_cons_of_mem _ hx)
theorem fold_len {k stage : Nat} : ∀ {cs : List Car} {L : List (List Key × Car)}, (cs.foldl (stepC k stage) L).length ≤ L.length + cs.length
  | [], L => Nat.le_refl _
  | c :: cs, L => by
    have := fold_len (k := k) (stage := stage) (cs := cs) (L := stepC k stage L c)
    have := stepC_len (k := k) (stage := stage) (L := L) (c := c)
    rw [List.foldl_cons, List.length_cons]
    omega
theorem behindC_at {k stage m : Nat} {row : List Car} (h : ∀ c ∈ row, c.at m) : ∀ c ∈ behindC k stage row, c.at m := fold_at (by intro x hx; cases hx) fun c hc => h c (turnC_mem.mp hc)
theorem behindC_len {k stage : Nat} {row : List Car} : (behindC k stage row).length ≤ row.length := by
  unfold behindC
  rw [List.length_map]
  have := fold_len (k := k) (stage := stage) (cs := turnC k stage row) (L := [])
  rw [turnC_len] at this
  simpa using this
theorem putC_at {as : List Ask} {k : Nat} (h : ∀ a ∈ as, a.hand < 2 ^ k ∧ a.box < 16) : ∀ c ∈ putC as, c.at k := by
  intro c hc
  obtain ⟨i, hi, rfl⟩ := List.mem_map.mp hc
  have hi := List.mem_range.mp hi
  rw [getD_at _ hi]
  exact h _ (List.getElem_mem hi)
theorem goneC_at {as : List Ask} {k : Nat} (h : ∀ a ∈ as, a.hand < 2 ^ k ∧ a.box < 16) : ∀ n, ∀ c ∈ goneC k as n, c.at k
  | 0 => putC_at h
  | n + 1 => by
    unfold goneC
    rw [List.range_succ, List.foldl_append]
    exact behindC_at (goneC_at h n)
theorem goneC_len {as : List Ask} {k : Nat} : ∀ n, (goneC k as n).length ≤ as.length
  | 0 => by show (putC as).length ≤ _; unfold putC; rw [List.length_map, List.length_range]; exact Nat.le_refl _
  | n + 1 => by
    have := goneC_len (as := as) (k := k) n
    have e : goneC k as (n + 1) = behindC k (n + 1) (goneC k as n) := by unfold goneC; rw [List.range_succ, List.foldl_append]; rfl
    rw [e]
    exact Nat.le_trans behindC_len this
theorem goneC_succ {k : Nat} {as : List Ask} {n : Nat} : goneC k as (n + 1) = behindC k (n + 1) (goneC k as n) := by unfold goneC; rw [List.range_succ, List.foldl_append]; rfl
theorem pg13 {X : Cx} {x y z v : Str} {i j l m k k2 : Nat} {px py pz pv pos pos2 : Pos} (hN : X.N.Nodup) (hi : X.N[i]? = some x) (hj : X.N[j]? = some y) (hl : X.N[l]? = some z) (hm : X.N[m]? = some v) (hx : Loc X.env.scope x) (hy : Loc X.env.scope y) (hz : Loc X.env.scope z) (hv : Loc X.env.scope v) (fx : X.fn x = true ∨ X.env.scope.names.lookup x = some .local) (fy : X.fn y = true ∨ X.env.scope.names.lookup y = some .local) (fz : X.fn z = true ∨ X.env.scope.names.lookup z = some .local) (fv : X.fn v = true ∨ X.env.scope.names.lookup v = some .local) (hc : X.calm = true) {K : PySem.W.Frag} (hK : X.K = K) :
    PG X (.Tuple [.Name x px, .Tuple [.Name y py, .Name z pz, .Name v pv] k2 pos2] k pos) (gTup K 2 (gCons (gName i) (gCons (gTup K 3 (gCons (gName j) (gCons (gName l) (gCons (gName m) gNil)))) gNil))) := hK ▸ pg_tup hc (pgs_cons (pg_name hN hi hx fx) (pgs_cons (pg_tup hc (pgs_cons (pg_name hN hj hy fy) (pgs_cons (pg_name hN hl hz fz) (pgs_cons (pg_name hN hm hv fv) pgs_nil)))) pgs_nil))
section
variable {P : Program} {w : World} {K : PySem.W.Frag} {mg : Str → Option Value} {base : Heap} {CCarried : Addr}
def S_want_round : AS := fun ds G R => ∃ (a : Nat) (vs : List Int) (as : List Ask), ds = [.int a, dInts vs, .tup (as.map dAsk)] ∧ a ≤ 4 ∧ 1 ≤ vs.length ∧ vs.length ≤ 16 ∧ as.length ≤ 10 ∧ (∀ x ∈ as, x.ok vs.length ∧ x.hand < 2 ^ a) ∧ (as.map Ask.hand).Nodup ∧ R .non G
theorem sc_want_round : FnScope ["k", "board", "asks", "hands", "hand", "box", "deed"] ["k", "board", "asks"] (defScope (top 69)) := ⟨rfl, rfl, rfl, by decide +kernel, rfl, by decide +kernel, by decide +kernel⟩
theorem f_want_round (T : Blt K mg) (dt : Dat K mg d_want_round "want_round") (c1 : Fn P w K mg base 3 "want_net" ["k", "deepest"] [.int 4] S_want_net) (c2 : Fn P w K mg base 6 "want_asks" ["board", "asks"] [] S_want_asks) : Fn P w K mg base 7 "want_round" ["k", "board", "asks"] [] S_want_round := by
  obtain ⟨f, fd, F, hm⟩ := dt
  refine ⟨f, cal_of F sc_want_round (fun ds G R h => ?_) (fun _ _ _ _ _ _ us hl => match us, hl with | [_, _, _], _ => rfl) (fun cdv A outer s H E hr ds G R h => ?_), hm⟩
  · obtain ⟨a, vs, as, rfl, h1, h2, h3, h4, h5, h6, _⟩ := h
    rfl
  · obtain ⟨a, vs, as, rfl, h1, h2, h3, h4, h5, h6, k⟩ := h
    obtain ⟨f1, q1, m1⟩ := c1
    obtain ⟨f2, q2, m2⟩ := c2
    refine b_cons <| s_expr <| e_call q1 m1 (hr.mono (by decide)) <| a_cons <| e_var 0 rfl <| a_nil ⟨_, rfl, by omega, by omega, ?_⟩
    refine b_cons <| s_expr <| e_call q2 m2 (hr.mono (by decide)) <| a_cons <| e_var 1 rfl <| a_cons <| e_var 2 rfl <| a_nil ⟨vs, as, rfl, h2, h3, by omega, fun x hx => (h5 x hx).1, ?_⟩
    refine b_cons <| s_setLc 3 [("hand", 4), ("box", 5), ("deed", 6)] sc_want_round.nd (blkOk_by rfl) (by intro _ _ _ _ _; refine pg3 (i := 4) (j := 5) (l := 6) (K := K) ?_ ?_ ?_ ?_ ?_ ?_ ?_ ?_ ?_ ?_ ?_ ?_ <;> first | exact sc_want_round.nd | rfl | exact Or.inl rfl | exact Or.inr rfl) (sw_true rfl rfl rfl (by decide +kernel)) <| n_tup <| e_var 2 rfl ⟨_, .tup, ?_⟩
    refine lc_map (fun i => .int ((as.getD i ask0).hand : Nat)) (fun i => [(4, .int ((as.getD i ask0).hand : Nat)), (5, .int ((as.getD i ask0).box : Nat)), (6, dDeed (as.getD i ask0).deed)]) trivial (by rw [List.length_map]; omega) (by intro i u hu; simp at hu; rcases hu with e | e | e <;> subst e <;> simp) (fun i hi => ?_) (fun i hi s H0 C cl fp => e_var 4 rfl ⟨rfl, rfl⟩) ?_
    · rw [List.length_map] at hi
      rw [at0_map hi, getD_at _ hi]
      exact tg_tup (tgs_cons tg_name (tgs_cons tg_name (tgs_cons tg_name tgs_nil)))
    rw [List.length_map, map_range_eq as _ (fun a => D.int (a.hand : Nat)) fun i x e => by rw [List.getD_eq_getElem?_getD, e]; rfl]
    have ei : as.map (fun a => D.int (a.hand : Nat)) = (as.map fun a => ((a.hand : Nat) : Int)).map D.int := by rw [List.map_map]; rfl
    have nd : (as.map fun a => ((a.hand : Nat) : Int)).Nodup := by
      have e : (as.map fun a => ((a.hand : Nat) : Int)) = (as.map Ask.hand).map (fun n : Nat => (n : Int)) := by rw [List.map_map]; rfl
      rw [e]
      exact (List.pairwise_map.mpr (List.Pairwise.imp (fun {a b} (h : a ≠ b) => fun z => h (by omega)) h6))
    refine b_one <| s_if <| t_w <| w_or <| t_cmp <| e_lenSet T.len T.set <| e_var 3 rfl ⟨as.map fun a => ((a.hand : Nat) : Int), by rw [← ei]; exact .lst, nd, by rw [List.length_map]; omega, e_callB T.len bt_len <| a_cons <| e_var 3 rfl <| a_nil <| c_lenL .lst <| o_lt ⟨_, rfl, ?_⟩⟩
    rw [List.length_map, List.length_map, decide_eq_false (by omega)]
    refine iteFF <| w_or1 <| t_not <| t_val <| e_callB T.all bt_all <| a_cons <| e_lc [("hand", 4)] sc_want_round.nd (blkOk_by rfl) (fun _ _ _ _ _ => (pg_name (i := 4) sc_want_round.nd rfl (Or.inl rfl))) <| n_list <| e_var 3 rfl ⟨_, .lst, ?_⟩
    refine lc_map (fun _ => .bl true) (fun i => [(4, at0 (as.map fun a => D.int (a.hand : Nat)) i)]) trivial (by rw [List.length_map]; omega) (by simp) (fun i _ => tg_name) (fun i hi s H0 C cl fp => ?_) (a_nil <| c_allT ⟨_, rfl, iteFF <| b_nil k⟩)
    rw [List.length_map] at hi
    rw [at0_map hi]
    have hb := (h5 _ (List.getElem_mem hi)).2
    refine e_cmp <| e_var 4 rfl <| e_bin <| e_int <| e_var 0 rfl <| o_shl (cpow_nat (by omega) (by omega) (by omega) (by omega)) ?_
    rw [p2i]
    refine o_lt ⟨?_, rfl⟩
    rw [dec_intlt, decide_eq_true hb]
def S_joined (CCarried : Addr) : AS := fun ds G R => ∃ x y : Car, ds = [dCar CCarried x, dCar CCarried y] ∧ R (dCar CCarried (joinC x y)) G
theorem sc_joined : FnScope ["one", "other"] ["one", "other"] (defScope (top 76)) := ⟨rfl, rfl, rfl, by decide +kernel, rfl, by decide +kernel, by decide +kernel⟩
theorem f_joined (T : Blt K mg) (CC : CarC K CCarried) (MC : mg "Carried" = some (.ref CCarried)) (dt : Dat K mg d_joined "joined") (c1 : Kn P w K mg base 1 CCarried ["self", "hand", "box", "deed", "parts"] [] (S_Carried_init CCarried)) (c2 : Fn P w K mg base 2 "one_behind" ["one", "other"] [] S_one_behind) : Fn P w K mg base 3 "joined" ["one", "other"] [] (S_joined CCarried) := by
  obtain ⟨f, fd, F, hm⟩ := dt
  refine ⟨f, cal_of F sc_joined (fun ds G R h => ?_) (fun _ _ _ _ _ _ us hl => match us, hl with | [_, _], _ => rfl) (fun cdv A outer s H E hr ds G R h => ?_), hm⟩
  · obtain ⟨x, y, rfl, _⟩ := h
    rfl
  · obtain ⟨x, y, rfl, k⟩ := h
    obtain ⟨f1, q1, m1⟩ := c1
    obtain ⟨f2, q2, m2⟩ := c2
    refine b_one <| s_ret <| e_makeI m1 q1 (hr.mono (by decide)) MC <| a_cons <| e_fld <| e_var 0 rfl <| fl_hand CC <| a_cons <| e_fld <| e_var 0 rfl <| fl_box CC <| a_cons <| e_call q2 m2 (hr.mono (by decide)) <| a_cons <| e_fld <| e_var 0 rfl <| fl_deed CC <| a_cons <| e_fld <| e_var 1 rfl <| fl_deed CC <| a_nil ⟨x.deed, y.deed, rfl, ?_⟩
    refine a_cons <| e_tup <| a_cons <| e_var 0 rfl <| a_cons <| e_var 1 rfl <| a_nil ⟨Nat.le_of_ble_eq_true rfl, a_nil fun a ha => ⟨a, _, _, _, _, rfl, gup_same, rfl, carF, _, gup_same, rfl, fun b m h => ?_, ⟨_, Sub.refl _, k⟩⟩⟩
    rw [gup_gup, gup_ne (fun z => by rw [z, ha] at h; cases h)]
    exact h
def S_put_in (CCarried : Addr) : AS := fun ds G R => ∃ as : List Ask, ds = [.tup (as.map dAsk)] ∧ as.length ≤ 10 ∧ R (.lst ((putC as).map (dCar CCarried))) G
theorem sc_put_in : FnScope ["asks", "number", "hand", "box", "deed"] ["asks"] (defScope (top 78)) := ⟨rfl, rfl, rfl, by decide +kernel, rfl, by decide +kernel, by decide +kernel⟩
theorem f_put_in (T : Blt K mg) (MC : mg "Carried" = some (.ref CCarried)) (dt : Dat K mg d_put_in "put_in") (c1 : Kn P w K mg base 1 CCarried ["self", "hand", "box", "deed", "parts"] [] (S_Carried_init CCarried)) : Fn P w K mg base 3 "put_in" ["asks"] [] (S_put_in CCarried) := by
  obtain ⟨f, fd, F, hm⟩ := dt
  refine ⟨f, cal_of F sc_put_in (fun ds G R h => ?_) (fun _ _ _ _ _ _ us hl => match us, hl with | [_], _ => rfl) (fun cdv A outer s H E hr ds G R h => ?_), hm⟩
  · obtain ⟨as, rfl, h1, _⟩ := h
    rfl
  · obtain ⟨as, rfl, h1, k⟩ := h
    obtain ⟨f1, q1, m1⟩ := c1
    refine b_one <| s_ret <| e_lc [("number", 1), ("hand", 2), ("box", 3), ("deed", 4)] sc_put_in.nd (blkOk_by rfl) (by intro _ _ _ _ _; refine pg13 (i := 1) (j := 2) (l := 3) (m := 4) (K := K) ?_ ?_ ?_ ?_ ?_ ?_ ?_ ?_ ?_ ?_ ?_ ?_ ?_ ?_ ?_ <;> first | exact sc_put_in.nd | rfl | exact Or.inl rfl | exact Or.inr rfl) <| n_enumT T.enum <| e_var 0 rfl ⟨_, .tup, ?_⟩
    refine lc_map (fun i => dCar CCarried (.leaf (as.getD i ask0).hand (as.getD i ask0).box (as.getD i ask0).deed i)) (fun i => [(1, .int (i : Nat)), (2, .int ((as.getD i ask0).hand : Nat)), (3, .int ((as.getD i ask0).box : Nat)), (4, dDeed (as.getD i ask0).deed)]) trivial (by rw [List.length_map]; omega) (by intro i u hu; simp at hu; rcases hu with e | e | e | e <;> subst e <;> simp) (fun i hi => ?_) (fun i hi s H0 C cl fp => ?_) ?_
    · rw [List.length_map] at hi
      rw [at0_map hi, getD_at _ hi]
      exact tg_tup (tgs_cons tg_name (tgs_cons (tg_tup (tgs_cons tg_name (tgs_cons tg_name (tgs_cons tg_name tgs_nil)))) tgs_nil))
    · rw [List.length_map] at hi
      refine e_makeI m1 q1 (hr.mono (by decide)) MC <| a_cons <| e_var 2 rfl <| a_cons <| e_var 3 rfl <| a_cons <| e_var 4 rfl <| a_cons <| e_tup <| a_cons <| e_var 1 rfl <| a_nil ⟨Nat.le_of_ble_eq_true rfl, a_nil fun a ha => ⟨a, _, _, _, _, rfl, gup_same, rfl, carF, _, gup_same, rfl, fun b m h => ?_, rfl, rfl⟩⟩
      rw [gup_gup, gup_ne (fun z => by rw [z, ha] at h; cases h)]
      exact h
    · rw [List.length_map]
      unfold putC at k
      rw [List.map_map] at k
      exact ⟨_, Sub.refl _, k⟩
end
end J
namespace J
open PySem PySem.Spec PyProof.Rows L2 TL
section
variable {P : Program} {w : World} {K : PySem.W.Frag} {mg : Str → Option Value} {base : Heap} {CCarried : Addr}
def S_behind_stage (CCarried : Addr) : AS := fun ds G R => ∃ (a b : Nat) (row : List Car), ds = [.int a, .int b, .lst (row.map (dCar CCarried)), dSet a] ∧ a ≤ 4 ∧ 1 ≤ b ∧ b ≤ a ∧ row.length ≤ 10 ∧ (∀ c ∈ row, c.at a) ∧ ∀ G' p ks, Sub G G' → G p = none → G' p = some (.lst ks) → ks.length ≤ 10 → R (.tup [.lst ((behindC a b row).map (dCar CCarried)), .ref p]) G'
theorem sc_behind_stage : FnScope ["k", "stage", "row", "firsts", "found", "kept", "one", "goal"] ["k", "stage", "row", "firsts"] (defScope (top 77)) := ⟨rfl, rfl, rfl, by decide +kernel, rfl, by decide +kernel, by decide +kernel⟩
theorem f_behind_stage (T : Blt K mg) (CC : CarC K CCarried) (dt : Dat K mg d_behind_stage "behind_stage") (c1 : Fn P w K mg base 3 "in_turn" ["k", "stage", "row", "firsts"] [] (S_in_turn CCarried)) (c2 : Fn P w K mg base 2 "line_of_rounds" ["k", "one", "level"] [] (S_line_of_rounds CCarried)) (c3 : Fn P w K mg base 1 "number_without" ["k", "line", "stage"] [] S_number_without) (c4 : Fn P w K mg base 3 "joined" ["one", "other"] [] (S_joined CCarried)) : Fn P w K mg base 4 "behind_stage" ["k", "stage", "row", "firsts"] [] (S_behind_stage CCarried) := by
  obtain ⟨f, fd, F, hm⟩ := dt
  refine ⟨f, cal_of F sc_behind_stage (fun ds G R h => ?_) (fun _ _ _ _ _ _ us hl => match us, hl with | [_, _, _, _], _ => rfl) (fun cdv A outer s H E hr ds G R h => ?_), hm⟩
  · obtain ⟨a, b, row, rfl, h1, h2, h3, hl, hc, _⟩ := h
    rfl
  · obtain ⟨a, b, row, rfl, h1, h2, h3, hl, hc, k⟩ := h
    obtain ⟨f1, q1, m1⟩ := c1
    obtain ⟨f2, q2, m2⟩ := c2
    obtain ⟨f3, q3, m3⟩ := c3
    obtain ⟨f4, q4, m4⟩ := c4
    refine b_cons <| s_set 4 sc_behind_stage.nd <| e_dnewT fun q hq => ?_
    refine b_cons <| s_set 5 sc_behind_stage.nd <| e_lstM <| a_nil ⟨Nat.zero_le _, fun p hp => ?_⟩
    have npq : p ≠ q := fun e => by rw [e, gup_same] at hp; cases hp
    have p0 : G p = none := by rwa [gup_ne npq] at hp
    have ht : (turnC a b row).length ≤ 10 := by rw [turnC_len]; exact hl
    have hta : ∀ c ∈ turnC a b row, c.at a := fun c z => hc c (turnC_mem.mp z)
    refine b_cons <| s_for (pg_name (i := 6) sc_behind_stage.nd rfl (by first | exact Or.inl rfl | exact Or.inr rfl)) PassesOwn.never <| n_list <| e_call q1 m1 (hr.mono (by decide)) <| a_cons <| e_var 0 rfl <| a_cons <| e_var 1 rfl <| a_cons <| e_var 2 rfl <| a_cons <| e_var 3 rfl <| a_nil ⟨a, b, row, rfl, h1, h2, h3, by omega, hc, ?_⟩
    generalize hT : turnC a b row = tr at ht hta
    refine ⟨_, .lst, fun i Γ G' => Γ.length = 8 ∧ Γ[0]? = some (some (.int (a : Nat))) ∧ Γ[1]? = some (some (.int (b : Nat))) ∧ Γ[4]? = some (some (.ref q)) ∧ Γ[5]? = some (some (.ref p)) ∧ G' q = some (.dT (dL CCarried ((tr.take i).foldl (stepC a b) []))) ∧ (∃ ks, G' p = some (.lst ks) ∧ ks.length ≤ i) ∧ Sub G G', ⟨rfl, rfl, rfl, rfl, rfl, by rw [gup_ne (Ne.symm npq), gup_same]; rfl, ⟨[], gup_same, Nat.zero_le _⟩, fun x m h => ?_⟩, fun _ _ _ _ _ => trivial, ?_, ?_⟩
    · rw [gup_ne (fun z => by rw [z, p0] at h; cases h), gup_ne (fun z => by rw [z, hq] at h; cases h)]
      exact h
    · rintro i Γ' G' hi ⟨l, g0, g1, g4, g5, Gq, ⟨ks, hPp, hk⟩, sb⟩
      rw [List.length_map] at hi
      refine ⟨_, tg_name, ?_⟩
      rw [at0_map hi]
      show SB _ _ (Γ'.set 6 (some (dCar CCarried tr[i]))) _ _
      have ha := hta _ (List.getElem_mem hi)
      have fs : (tr.take (i + 1)).foldl (stepC a b) [] = stepC a b ((tr.take i).foldl (stepC a b) []) tr[i] := by
        rw [List.take_succ, List.getElem?_eq_getElem hi, List.foldl_append]; rfl
      have fl := fold_len (k := a) (stage := b) (cs := tr.take i) (L := [])
      rw [List.length_take] at fl
      generalize tr[i] = c at ha fs
      generalize (tr.take i).foldl (stepC a b) [] = L at Gq fs fl
      have v0 := sg_ne (j := 6) (v := some (dCar CCarried c)) g0 (by decide)
      have v1 := sg_ne (j := 6) (v := some (dCar CCarried c)) g1 (by decide)
      have v4 := sg_ne (j := 6) (v := some (dCar CCarried c)) g4 (by decide)
      have v5 := sg_ne (j := 6) (v := some (dCar CCarried c)) g5 (by decide)
      have v6 := sg_eq (Γ := Γ') (i := 6) (v := some (dCar CCarried c)) (by rw [l]; decide)
      have l' : (Γ'.set 6 (some (dCar CCarried c))).length = 8 := by rw [List.length_set]; exact l
      generalize Γ'.set 6 (some (dCar CCarried c)) = Γ1 at v0 v1 v4 v5 v6 l'
      refine b_cons <| s_set 7 sc_behind_stage.nd <| e_ktp <| a_cons <| e_call q2 m2 (hr.mono (by decide)) <| a_cons <| e_var 0 v0 <| a_cons <| e_var 6 v6 <| a_cons <| e_var 1 v1 <| a_nil ⟨a, c, b, rfl, h1, h3, ha, a_cons <| e_fld <| e_var 6 v6 <| fl_box CC <| a_nil ⟨Nat.le_of_ble_eq_true rfl, ?_⟩⟩
      show SB _ _ (Γ1.set 7 (some (.ktp ((kc a b c).map kD)))) _ _
      have y0 := sg_ne (j := 7) (v := some (.ktp ((kc a b c).map kD))) v0 (by decide)
      have y1 := sg_ne (j := 7) (v := some (.ktp ((kc a b c).map kD))) v1 (by decide)
      have y4 := sg_ne (j := 7) (v := some (.ktp ((kc a b c).map kD))) v4 (by decide)
      have y5 := sg_ne (j := 7) (v := some (.ktp ((kc a b c).map kD))) v5 (by decide)
      have y6 := sg_ne (j := 7) (v := some (.ktp ((kc a b c).map kD))) v6 (by decide)
      have y7 := sg_eq (Γ := Γ1) (i := 7) (v := some (.ktp ((kc a b c).map kD))) (by rw [l']; decide)
      have ul : (Γ1.set 7 (some (.ktp ((kc a b c).map kD)))).length = 8 := by rw [List.length_set]; exact l'
      generalize Γ1.set 7 (some (.ktp ((kc a b c).map kD))) = Γ2 at y0 y1 y4 y5 y6 y7 ul
      have hlen : (dL CCarried L).length < 100000 := by unfold dL; rw [List.length_map]; have e : ([] : List (List Key × Car)).length = 0 := rfl; omega
      refine b_one <| s_if <| t_din (u1 hr) <| e_var 7 y7 <| e_var 4 y4 ⟨q, _, rfl, DG.t (k := kc a b c) Gq, ?_⟩
      rw [valD_dL]
      cases hv : valA L (kc a b c) with
      | none =>
        have es : stepC a b L c = putA L (kc a b c) c := by unfold stepC; rw [hv]
        refine iteFF <| b_one <| s_dput (u1 hr) <| e_var 6 y6 <| e_var 4 y4 <| e_var 7 y7 ⟨q, _, rfl, DP.t (k := kc a b c) Gq hlen, ?_⟩
        rw [putD_dL]
        refine ⟨ul, y0, y1, y4, y5, ?_, ⟨ks, by rw [gup_ne npq]; exact hPp, by omega⟩, fun x m h => ?_⟩
        · rw [gup_same, fs, es]
        · rw [gup_ne (fun z => by rw [z, hq] at h; cases h)]; exact sb x m h
      | some o =>
        have es : stepC a b L c = putA L (kc a b c) (joinC o c) := by unfold stepC; rw [hv]
        have hd : ∀ {G2 : Gp}, G2 q = some (.dT (dL CCarried L)) → DG G2 q (.ktp ((kc a b c).map kD)) (some (dCar CCarried o)) := fun {G2} h => by
          have := DG.t (k := kc a b c) h
          rw [valD_dL, hv] at this
          exact this
        have hw := wayL_lt (hand := c.hand) (goal := c.box % 2 ^ a) h1 h3 ha.1 (Nat.mod_lt _ (Nat.two_pow_pos _))
        refine iteTT <| b_cons <| s_expr <| e_bm PySem.F.plainAttrs_list PySem.F.slot_list_append PySem.F.type_list_append <| e_var 5 y5 ⟨.inr (.inl ⟨rfl, _, .ref hPp⟩), a_cons <| e_tup <| a_cons <| e_var 1 y1 <| a_cons <| e_call q3 m3 (hr.mono (by decide)) <| a_cons <| e_var 0 y0 <| a_cons <| e_ix <| e_var 7 y7 <| e_int <| i_tup (n := 0) .ktp rfl <| a_cons <| e_var 1 y1 <| a_nil ⟨a, _, b, rfl, h1, h3, h2, p2_lt16 h1 hw, ?_⟩⟩
        refine a_cons <| e_fld <| e_var 6 y6 <| fl_box CC <| a_cons <| e_fld <| e_dget (u1 hr) <| e_var 4 y4 ⟨q, rfl, e_var 7 y7 ⟨_, hd Gq, fl_deed CC <| a_nil ⟨Nat.le_of_ble_eq_true rfl, a_nil <| m_append hPp (by omega) ?_⟩⟩⟩
        refine b_one <| s_dput (u1 hr) <| e_call q4 m4 (hr.mono (by decide)) <| a_cons <| e_dget (u1 hr) <| e_var 4 y4 ⟨q, rfl, e_var 7 y7 ⟨_, hd (by rw [gup_ne (Ne.symm npq)]; exact Gq), a_cons <| e_var 6 y6 <| a_nil ⟨o, c, rfl, e_var 4 y4 <| e_var 7 y7 ⟨q, _, rfl, DP.t (k := kc a b c) (by rw [gup_ne (Ne.symm npq)]; exact Gq) hlen, ?_⟩⟩⟩⟩
        rw [putD_dL]
        refine ⟨ul, y0, y1, y4, y5, ?_, ⟨_, by rw [gup_ne npq, gup_same], by rw [List.length_append]; exact Nat.succ_le_succ hk⟩, fun x m h => ?_⟩
        · rw [gup_same, fs, es]
        · rw [gup_ne (fun z => by rw [z, hq] at h; cases h), gup_ne (fun z => by rw [z, p0] at h; cases h)]; exact sb x m h
    rintro Γ' G' ⟨l, g0, g1, g4, g5, Gq, ⟨ks, hPp, hk⟩, sb⟩
    rw [List.length_map] at Gq hk
    rw [List.take_length] at Gq
    refine b_one <| s_ret <| e_tup <| a_cons <| e_listVals T.lst <| e_var 4 g4 ⟨q, _, rfl, Gq, a_cons <| e_var 5 g5 <| a_nil ⟨Nat.le_of_ble_eq_true rfl, G', Sub.refl _, ?_⟩⟩
    have e : (dL CCarried (tr.foldl (stepC a b) [])).map (·.2) = (behindC a b row).map (dCar CCarried) := by
      unfold dL behindC
      rw [hT, List.map_map, List.map_map]
      rfl
    rw [e]
    exact k G' p ks sb p0 hPp (by omega)
def S_gone (CCarried : Addr) : AS := fun ds G R => ∃ (a : Nat) (as : List Ask), ds = [.int a, .tup (as.map dAsk), dSet a] ∧ a ≤ 4 ∧ as.length ≤ 10 ∧ (∀ x ∈ as, x.hand < 2 ^ a ∧ x.box < 16) ∧ ∀ G' p q lv, Sub G G' → G' p = some (.lst lv) → lv.getLast? = some (.lst ((goneC a as a).map (dCar CCarried))) → R (.tup [.ref p, .ref q]) G'
theorem sc_gone : FnScope ["k", "asks", "firsts", "levels", "memory", "stage", "row", "kept"] ["k", "asks", "firsts"] (defScope (top 79)) := ⟨rfl, rfl, rfl, by decide +kernel, rfl, by decide +kernel, by decide +kernel⟩
theorem f_gone (T : Blt K mg) (CC : CarC K CCarried) (dt : Dat K mg d_gone "gone") (c1 : Fn P w K mg base 3 "put_in" ["asks"] [] (S_put_in CCarried)) (c2 : Fn P w K mg base 4 "behind_stage" ["k", "stage", "row", "firsts"] [] (S_behind_stage CCarried)) : Fn P w K mg base 5 "gone" ["k", "asks", "firsts"] [] (S_gone CCarried) := by
  obtain ⟨f, fd, F, hm⟩ := dt
  refine ⟨f, cal_of F sc_gone (fun ds G R h => ?_) (fun _ _ _ _ _ _ us hl => match us, hl with | [_, _, _], _ => rfl) (fun cdv A outer s H E hr ds G R h => ?_), hm⟩
  · obtain ⟨a, as, rfl, h1, hl, hc, _⟩ := h
    rfl
  · obtain ⟨a, as, rfl, h1, hl, hc, k⟩ := h
    obtain ⟨f1, q1, m1⟩ := c1
    obtain ⟨f2, q2, m2⟩ := c2
    refine b_cons <| s_set 3 sc_gone.nd <| e_lstM <| a_cons <| e_call q1 m1 (hr.mono (by decide)) <| a_cons <| e_var 1 rfl <| a_nil ⟨as, rfl, hl, a_nil ⟨Nat.le_of_ble_eq_true rfl, fun p hp => ?_⟩⟩
    refine b_cons <| s_set 4 sc_gone.nd <| e_lstM <| a_nil ⟨Nat.zero_le _, fun q hq => ?_⟩
    have npq : p ≠ q := fun e => by rw [← e, gup_same] at hq; cases hq
    have q0 : G q = none := by rwa [gup_ne (Ne.symm npq)] at hq
    refine b_cons <| s_for (pg_name (i := 5) sc_gone.nd rfl (by first | exact Or.inl rfl | exact Or.inr rfl)) PassesOwn.never <| n_range2 T.rng <| a_cons <| e_int <| a_cons <| e_bin <| e_var 0 rfl <| e_int <| o_add <| a_nil ⟨_, _, rfl, ⟨by decide, by decide, by omega, by omega⟩, ?_⟩
    have en : (((a : Nat) : Int) + 1 - 1).toNat = a := by omega
    rw [en]
    refine ⟨fun i Γ G' => Γ.length = 8 ∧ Γ[0]? = some (some (.int (a : Nat))) ∧ Γ[2]? = some (some (dSet a)) ∧ Γ[3]? = some (some (.ref p)) ∧ Γ[4]? = some (some (.ref q)) ∧ (∃ lv, G' p = some (.lst lv) ∧ lv.length ≤ i + 1 ∧ lv.getLast? = some (.lst ((goneC a as i).map (dCar CCarried)))) ∧ (∃ ms, G' q = some (.lst ms) ∧ ms.length ≤ i * 10) ∧ Sub G G', ⟨rfl, rfl, rfl, rfl, rfl, ⟨_, by rw [gup_ne npq, gup_same], Nat.le_refl _, rfl⟩, ⟨[], gup_same, Nat.zero_le _⟩, fun x m h => ?_⟩, fun _ _ _ _ _ => trivial, ?_, ?_⟩
    · rw [gup_ne (fun z => by rw [z, q0] at h; cases h), gup_ne (fun z => by rw [z, hp] at h; cases h)]
      exact h
    · rintro i Γ' G' hi ⟨l, g0, g2, g3, g4, ⟨lv, hPp, hlv, hla⟩, ⟨ms, Gq, hms⟩, sb⟩
      refine ⟨_, tg_name, ?_⟩
      show SB _ _ (Γ'.set 5 (some (.int ((1 : Int) + ((i : Nat) : Int))))) _ _
      rw [show (1 : Int) + ((i : Nat) : Int) = ((i + 1 : Nat) : Int) by omega]
      show SB _ _ (Γ'.set 5 (some (.int (i + 1 : Nat)))) _ _
      have v0 := sg_ne (j := 5) (v := some (.int (i + 1 : Nat))) g0 (by decide)
      have v2 := sg_ne (j := 5) (v := some (.int (i + 1 : Nat))) g2 (by decide)
      have v3 := sg_ne (j := 5) (v := some (.int (i + 1 : Nat))) g3 (by decide)
      have v4 := sg_ne (j := 5) (v := some (.int (i + 1 : Nat))) g4 (by decide)
      have v5 := sg_eq (Γ := Γ') (i := 5) (v := some (.int (i + 1 : Nat))) (by rw [l]; decide)
      have l' : (Γ'.set 5 (some (.int (i + 1 : Nat)))).length = 8 := by rw [List.length_set]; exact l
      generalize Γ'.set 5 (some (.int (i + 1 : Nat))) = Γ1 at v0 v2 v3 v4 v5 l'
      have gl := goneC_len (as := as) (k := a) i
      have ga := goneC_at hc i
      refine b_cons <| s_asg (pg_tup rfl (pgs_cons (pg_name (i := 6) sc_gone.nd rfl (by first | exact Or.inl rfl | exact Or.inr rfl)) (pgs_cons (pg_name (i := 7) sc_gone.nd rfl (by first | exact Or.inl rfl | exact Or.inr rfl)) pgs_nil))) <| e_call q2 m2 (hr.mono (by decide)) <| a_cons <| e_var 0 v0 <| a_cons <| e_var 5 v5 <| a_cons <| e_ix <| e_var 3 v3 <| e_neg <| e_int ⟨_, rfl, i_last (.ref hPp) hla <| a_cons <| e_var 2 v2 <| a_nil ⟨a, i + 1, goneC a as i, rfl, h1, by omega, by omega, by omega, ga, fun G2 kp ks sb2 kp0 Gk hks => ⟨_, tg_tup (tgs_cons tg_name (tgs_cons tg_name tgs_nil)), ?_⟩⟩⟩
      show SB _ _ ((Γ1.set 6 (some (.lst ((behindC a (i + 1) (goneC a as i)).map (dCar CCarried))))).set 7 (some (.ref kp))) _ _
      rw [← goneC_succ]
      have Gp2 := sb2 _ _ hPp
      have Gq2 := sb2 _ _ Gq
      have nkp : kp ≠ p := fun e => by rw [e, hPp] at kp0; cases kp0
      have nkq : kp ≠ q := fun e => by rw [e, Gq] at kp0; cases kp0
      generalize hr6 : D.lst ((goneC a as (i + 1)).map (dCar CCarried)) = r6
      have w3 := sg_ne (j := 7) (v := some (.ref kp)) (sg_ne (j := 6) (v := some r6) v3 (by decide)) (by decide)
      have w4 := sg_ne (j := 7) (v := some (.ref kp)) (sg_ne (j := 6) (v := some r6) v4 (by decide)) (by decide)
      have w0 := sg_ne (j := 7) (v := some (.ref kp)) (sg_ne (j := 6) (v := some r6) v0 (by decide)) (by decide)
      have w2 := sg_ne (j := 7) (v := some (.ref kp)) (sg_ne (j := 6) (v := some r6) v2 (by decide)) (by decide)
      have w6 := sg_ne (j := 7) (v := some (.ref kp)) (sg_eq (Γ := Γ1) (i := 6) (v := some r6) (by rw [l']; decide)) (by decide)
      have w7 := sg_eq (Γ := Γ1.set 6 (some r6)) (i := 7) (v := some (.ref kp)) (by rw [List.length_set, l']; decide)
      have wl : ((Γ1.set 6 (some r6)).set 7 (some (.ref kp))).length = 8 := by rw [List.length_set, List.length_set]; exact l'
      generalize (Γ1.set 6 (some r6)).set 7 (some (.ref kp)) = Γ2 at w0 w2 w3 w4 w6 w7 wl
      refine b_cons <| s_expr <| e_bm PySem.F.plainAttrs_list PySem.F.slot_list_append PySem.F.type_list_append <| e_var 3 w3 ⟨.inr (.inl ⟨rfl, _, .ref Gp2⟩), a_cons <| e_var 6 w6 <| a_nil <| m_append Gp2 (by omega) ?_⟩
      have Gq3 : gup G2 p (.lst (lv ++ [r6])) q = some (.lst ms) := by rw [gup_ne (Ne.symm npq)]; exact Gq2
      have Gk3 : gup G2 p (.lst (lv ++ [r6])) kp = some (.lst ks) := by rw [gup_ne nkp]; exact Gk
      refine b_one <| s_expr <| e_bm PySem.F.plainAttrs_list PySem.F.slot_list_extend PySem.F.type_list_extend <| e_var 4 w4 ⟨.inr (.inl ⟨rfl, _, .ref Gq3⟩), a_cons <| e_var 7 w7 <| a_nil <| m_extend Gq3 (.ref Gk3) (by omega) ?_⟩
      refine ⟨wl, w0, w2, w3, w4, ⟨_, by rw [gup_ne npq, gup_same], by rw [List.length_append]; exact Nat.succ_le_succ hlv, ?_⟩, ⟨_, gup_same, by rw [List.length_append]; omega⟩, fun x m h => ?_⟩
      · rw [List.getLast?_append, ← hr6]; rfl
      · rw [gup_ne (fun z => by rw [z, q0] at h; cases h), gup_ne (fun z => by rw [z, hp] at h; cases h)]; exact sb2 x m (sb x m h)
    rintro Γ' G' ⟨l, g0, g2, g3, g4, ⟨lv, hPp, hlv, hla⟩, ⟨ms, Gq, hms⟩, sb⟩
    exact b_one <| s_ret <| e_tup <| a_cons <| e_var 3 g3 <| a_cons <| e_var 4 g4 <| a_nil ⟨Nat.le_of_ble_eq_true rfl, G', Sub.refl _, k G' p q lv sb hPp hla⟩
end
end J
namespace J
open PySem PySem.Spec PyProof.Rows L2 TL
def Car.cnt : Car → Nat
  | .leaf _ _ _ _ => 1
  | .node _ _ _ x y => x.cnt + y.cnt
def Car.lv : Car → List Nat
  | .leaf _ _ _ n => [n]
  | .node _ _ _ x y => y.lv ++ x.lv
def Car.wf : Car → Prop
  | .leaf _ _ d _ => d.bd MM0
  | .node _ _ d x y => d = behind x.deed y.deed ∧ x.wf ∧ y.wf
def share : Car → Int → List (Nat × Int)
  | .leaf _ _ _ n, v => [(n, v)]
  | .node _ _ _ x y, v => share y (put x.deed v) ++ share x v
def putN (L : List (Key × D)) (p : Nat × Int) : List (Key × D) := putKD L (.inl (p.1 : Nat)) (.int p.2)
def shareK (c : Car) (v : Int) : List (Key × D) := (share c v).foldl putN []
theorem share_len : ∀ (c : Car) (v : Int), (share c v).length = c.cnt
  | .leaf _ _ _ _, _ => rfl
  | .node _ _ _ x y, v => by
    show (share y _ ++ share x v).length = x.cnt + y.cnt
    rw [List.length_append, share_len y, share_len x, Nat.add_comm]
theorem share_fst : ∀ (c : Car) (v : Int), (share c v).map (·.1) = c.lv
  | .leaf _ _ _ _, _ => rfl
  | .node _ _ _ x y, v => by
    show (share y _ ++ share x v).map _ = y.lv ++ x.lv
    rw [List.map_append, share_fst y, share_fst x]
theorem Car.cnt_pos : ∀ c : Car, 1 ≤ c.cnt
  | .leaf _ _ _ _ => Nat.le_refl _
  | .node _ _ _ x y => by
    have := x.cnt_pos
    show 1 ≤ x.cnt + y.cnt
    omega
theorem wf_bd : ∀ {c : Car}, c.wf → c.deed.bd (MM0 * (c.cnt : Nat))
  | .leaf _ _ d _, h => by
    show d.bd (MM0 * ((1 : Nat) : Int))
    rw [show MM0 * ((1 : Nat) : Int) = MM0 from rfl]; exact h
  | .node _ _ d x y, ⟨e, h1, h2⟩ => by
    have := behind_bd (wf_bd h1) (wf_bd h2) (by simp only [MM0]; omega) (by simp only [MM0]; omega)
    show d.bd (MM0 * ((x.cnt + y.cnt : Nat) : Int))
    rw [e, show MM0 * ((x.cnt + y.cnt : Nat) : Int) = MM0 * (x.cnt : Nat) + MM0 * (y.cnt : Nat) by simp only [MM0]; omega]
    exact this
theorem share_bd : ∀ {c : Car} {v m : Int}, c.wf → 0 ≤ m → -m ≤ v ∧ v ≤ m → ∀ p ∈ share c v, -(m + MM0 * (c.cnt : Nat)) ≤ p.2 ∧ p.2 ≤ m + MM0 * (c.cnt : Nat)
  | .leaf _ _ _ n, v, m, _, hm, hv, p, hp => by
    rw [List.mem_singleton.mp hp]
    show -(m + MM0 * ((1 : Nat) : Int)) ≤ v ∧ v ≤ m + MM0 * ((1 : Nat) : Int)
    simp only [MM0]; omega
  | .node _ _ _ x y, v, m, ⟨_, h1, h2⟩, hm, hv, p, hp => by
    show -(m + MM0 * ((x.cnt + y.cnt : Nat) : Int)) ≤ p.2 ∧ p.2 ≤ m + MM0 * ((x.cnt + y.cnt : Nat) : Int)
    rcases List.mem_append.mp hp with z | z
    · have hb := put_bd (wf_bd h1) hv hm
      have := share_bd (m := MM0 * (x.cnt : Nat) + m) h2 (by simp only [MM0]; omega) hb p z
      simp only [MM0] at *; omega
    · have := share_bd h1 hm hv p z
      simp only [MM0] at *; omega
/-! the dict of answers -/
def okL (L : List (Key × D)) : Prop := ∀ kv ∈ L, ∃ v : Int, kv.2 = .int v ∧ okB v
def hasN (L : List (Key × D)) (n : Nat) : Prop := ∃ kv ∈ L, kv.1 = .inl (n : Nat)
section
variable {κ : Type} [DecidableEq κ]
theorem putKD_mem {L : List (κ × D)} {k : κ} {v : D} {x : κ × D} (h : x ∈ putKD L k v) : x ∈ L ∨ x.2 = v := by
  unfold putKD at h
  split at h
  · obtain ⟨q, hq, e⟩ := List.mem_map.mp h
    by_cases z : q.1 = k
    · rw [if_pos z] at e; subst e; exact .inr rfl
    · rw [if_neg z] at e; subst e; exact .inl hq
  · rcases List.mem_append.mp h with z | z
    · exact .inl z
    · rw [List.mem_singleton.mp z]; exact .inr rfl
theorem putKD_key {L : List (κ × D)} {k : κ} {v : D} {n : κ} (h : (∃ kv ∈ L, kv.1 = n) ∨ n = k) : ∃ kv ∈ putKD L k v, kv.1 = n := by
  unfold putKD
  split
  · rename_i q
    have h' : ∃ kv ∈ L, kv.1 = n := by
      rcases h with h | h
      · exact h
      · obtain ⟨x, hx, e⟩ := List.any_eq_true.mp q
        exact ⟨x, hx, by rw [h]; exact of_decide_eq_true e⟩
    obtain ⟨x, hx, e⟩ := h'
    refine ⟨_, List.mem_map_of_mem hx, ?_⟩
    by_cases z : x.1 = k
    · rw [if_pos z]; exact e
    · rw [if_neg z]; exact e
  · rcases h with ⟨x, hx, e⟩ | h
    · exact ⟨x, List.mem_append_left _ hx, e⟩
    · exact ⟨(k, v), List.mem_append_right _ (List.mem_singleton.mpr rfl), h.symm⟩
theorem putKD_len {L : List (κ × D)} {k : κ} {v : D} : (putKD L k v).length ≤ L.length + 1 := by
  unfold putKD
  split
  · rw [List.length_map]; omega
  · rw [List.length_append]; exact Nat.le_refl _
end
theorem putsN_ok : ∀ {ps : List (Nat × Int)} {L : List (Key × D)}, okL L → (∀ p ∈ ps, okB p.2) → okL (ps.foldl putN L)
  | [], _, h, _ => h
  | p :: ps, _, h, hp => putsN_ok (ps := ps) (fun kv hk => (putKD_mem hk).elim (h kv) fun e => ⟨p.2, e, hp p List.mem_cons_self⟩) fun q hq => hp q (List.mem_cons_of_mem _ hq)
theorem putsN_has : ∀ {ps : List (Nat × Int)} {L : List (Key × D)} {n : Nat}, hasN L n ∨ n ∈ ps.map (·.1) → hasN (ps.foldl putN L) n
  | [], _, _, h => h.elim id fun z => nomatch z
  | p :: ps, L, n, h => by
    refine putsN_has (ps := ps) (L := putN L p) ?_
    rcases h with h | h
    · exact .inl (putKD_key (.inl h))
    · rcases List.mem_cons.mp h with z | z
      · exact .inl (putKD_key (.inr (by rw [z])))
      · exact .inr z
theorem putsN_len : ∀ {ps : List (Nat × Int)} {L : List (Key × D)}, (ps.foldl putN L).length ≤ L.length + ps.length
  | [], _ => Nat.le_refl _
  | p :: ps, L => by
    have := putsN_len (ps := ps) (L := putN L p)
    have : (putN L p).length ≤ L.length + 1 := putKD_len
    rw [List.foldl_cons, List.length_cons]; omega
theorem shareK_len {c : Car} {v : Int} : (shareK c v).length ≤ c.cnt := by
  have := putsN_len (ps := share c v) (L := [])
  rw [share_len, List.length_nil, Nat.zero_add] at this
  exact this
theorem merge_ok : ∀ {more : List (Key × D)} {L : List (Key × D)}, okL L → okL more → okL (mergeKD L more)
  | [], _, h, _ => h
  | p :: ps, _, h, hp => merge_ok (more := ps) (fun kv hk => (putKD_mem hk).elim (h kv) fun e => by rw [e]; exact hp p List.mem_cons_self) fun q hq => hp q (List.mem_cons_of_mem _ hq)
theorem merge_has : ∀ {more : List (Key × D)} {L : List (Key × D)} {n : Nat}, hasN L n ∨ hasN more n → hasN (mergeKD L more) n
  | [], _, _, h => h.elim id fun ⟨_, z, _⟩ => nomatch z
  | p :: ps, L, n, h => by
    refine merge_has (more := ps) (L := putKD L p.1 p.2) ?_
    rcases h with h | ⟨x, h, e⟩
    · exact .inl (putKD_key (.inl h))
    · rcases List.mem_cons.mp h with z | z
      · exact .inl (putKD_key (.inr (by rw [← z, e])))
      · exact .inr ⟨x, z, e⟩
theorem merge_len : ∀ {more : List (Key × D)} {L : List (Key × D)}, (mergeKD L more).length ≤ L.length + more.length
  | [], _ => Nat.le_refl _
  | p :: ps, L => by
    have := merge_len (more := ps) (L := putKD L p.1 p.2)
    have : (putKD L p.1 p.2).length ≤ L.length + 1 := putKD_len
    show (mergeKD (putKD L p.1 p.2) ps).length ≤ _
    rw [List.length_cons]; omega
def ansL (vs : List Int) (row : List Car) : List (Key × D) := row.foldl (fun L c => mergeKD L (shareK c (vs.getD c.box 0))) []
def ansI (L : List (Key × D)) (n : Nat) : Int := match valD L (.inl (n : Nat)) with
  | some (.int v) => v
  | _ => 0
theorem val_ans {L : List (Key × D)} {n : Nat} (h : okL L) (hn : hasN L n) : valD L (.inl (n : Nat)) = some (.int (ansI L n)) ∧ okB (ansI L n) := by
  unfold ansI
  cases e : valD L (.inl (n : Nat)) with
  | none =>
    unfold valD at e
    cases q : L.find? fun kv => decide (kv.1 = (.inl (n : Nat) : Key)) with
    | none =>
      obtain ⟨x, hx, ex⟩ := hn
      exact absurd (decide_eq_true ex) (List.find?_eq_none.mp q x hx)
    | some p => rw [q] at e; cases e
  | some d =>
    unfold valD at e
    cases q : L.find? fun kv => decide (kv.1 = (.inl (n : Nat) : Key)) with
    | none => rw [q] at e; cases e
    | some p =>
      rw [q] at e
      obtain ⟨v, e2, ok⟩ := h p (List.mem_of_find?_eq_some q)
      cases e
      show some p.2 = some (.int (match some p.2 with | some (.int v) => v | _ => 0)) ∧ okB (match some p.2 with | some (.int v) => v | _ => 0)
      rw [e2]
      exact ⟨rfl, ok⟩
/-! through the stages -/
theorem step_all {k stage : Nat} {Q : Car → Prop} (hj : ∀ x y, Q x → Q y → Q (joinC x y)) {L : List (List Key × Car)} {c : Car} (hL : ∀ x ∈ L.map (·.2), Q x) (hc : Q c) : ∀ x ∈ (stepC k stage L c).map (·.2), Q x := by
  intro x hx
  unfold stepC at hx
  split at hx
  · rcases putA_mem hx with z | z
    · exact hL x z
    · rw [z]; exact hc
  · rename_i o e
    rcases putA_mem hx with z | z
    · exact hL x z
    · rw [z]; exact hj _ _ (hL o (valA_mem e)) hc
theorem fold_all {k stage : Nat} {Q : Car → Prop} (hj : ∀ x y, Q x → Q y → Q (joinC x y)) : ∀ {cs : List Car} {L : List (List Key × Car)}, (∀ x ∈ L.map (·.2), Q x) → (∀ c ∈ cs, Q c) → ∀ x ∈ (cs.foldl (stepC k stage) L).map (·.2), Q x
  | [], _, hL, _ => hL
  | c :: cs, _, hL, hc => fold_all hj (cs := cs) (step_all hj hL (hc c List.mem_cons_self)) fun x hx => hc x (List.mem_cons_of_mem _ hx)
theorem gone_all {Q : Car → Prop} (hj : ∀ x y, Q x → Q y → Q (joinC x y)) {as : List Ask} {k : Nat} (h : ∀ i, i < as.length → Q (.leaf (as.getD i ask0).hand (as.getD i ask0).box (as.getD i ask0).deed i)) : ∀ n, ∀ c ∈ goneC k as n, Q c
  | 0 => fun c hc => by
    obtain ⟨i, hi, rfl⟩ := List.mem_map.mp hc
    exact h i (List.mem_range.mp hi)
  | n + 1 => by
    rw [goneC_succ]
    exact fold_all hj (by intro x hx; cases hx) fun c hc => gone_all hj h n c (turnC_mem.mp hc)
theorem step_cnt {k stage B M : Nat} {L : List (List Key × Car)} {c : Car} (hL : ∀ x ∈ L.map (·.2), x.cnt ≤ B) (hc : c.cnt ≤ M) : ∀ x ∈ (stepC k stage L c).map (·.2), x.cnt ≤ B + M := by
  intro x hx
  unfold stepC at hx
  split at hx
  · rcases putA_mem hx with z | z
    · have := hL x z; omega
    · rw [z]; omega
  · rename_i o e
    rcases putA_mem hx with z | z
    · have := hL x z; omega
    · have := hL o (valA_mem e)
      rw [z]
      show o.cnt + c.cnt ≤ _
      omega
theorem fold_cnt {k stage M : Nat} : ∀ {cs : List Car} {L : List (List Key × Car)} {B : Nat}, (∀ x ∈ L.map (·.2), x.cnt ≤ B) → (∀ c ∈ cs, c.cnt ≤ M) → ∀ x ∈ (cs.foldl (stepC k stage) L).map (·.2), x.cnt ≤ B + cs.length * M
  | [], _, _, hL, _, x, hx => by have := hL x hx; omega
  | c :: cs, _, B, hL, hc, x, hx => by
    have := fold_cnt (cs := cs) (B := B + M) (step_cnt hL (hc c List.mem_cons_self)) (fun x hx => hc x (List.mem_cons_of_mem _ hx)) x hx
    have e : (cs.length + 1) * M = cs.length * M + M := Nat.succ_mul _ _
    rw [List.length_cons, e]; omega
theorem gone_cnt {as : List Ask} {k : Nat} (h : as.length ≤ 10) : ∀ n, ∀ c ∈ goneC k as n, c.cnt ≤ 10 ^ n
  | 0 => fun c hc => by
    obtain ⟨i, hi, rfl⟩ := List.mem_map.mp hc
    exact Nat.le_refl _
  | n + 1 => fun c hc => by
    rw [goneC_succ] at hc
    have := fold_cnt (k := k) (stage := n + 1) (M := 10 ^ n) (cs := turnC k (n + 1) (goneC k as n)) (L := []) (B := 0) (by intro x hx; cases hx) (fun c hc => gone_cnt h n c (turnC_mem.mp hc)) c hc
    rw [turnC_len] at this
    have hl := goneC_len (as := as) (k := k) n
    have e := Nat.mul_le_mul_right (10 ^ n) (Nat.le_trans hl h)
    rw [Nat.pow_succ]; omega
/-- keys stand once -/
theorem putA_keys {L : List (List Key × Car)} {k : List Key} {v : Car} (h : (L.map (·.1)).Nodup) : ((putA L k v).map (·.1)).Nodup := by
  unfold putA
  split
  · rw [List.map_map]
    have e : L.map ((fun x : List Key × Car => x.1) ∘ fun kv => if kv.1 = k then (kv.1, v) else kv) = L.map (·.1) := List.map_congr_left fun p _ => by
      show (if p.1 = k then (p.1, v) else p).1 = p.1
      split <;> rfl
    rw [e]; exact h
  · rename_i q
    rw [List.map_append]
    refine List.nodup_append.mpr ⟨h, (List.nodup_cons.mpr ⟨List.not_mem_nil, List.nodup_nil⟩), fun a ha b hb e => q ?_⟩
    obtain ⟨p, hp, rfl⟩ := List.mem_map.mp ha
    refine List.any_eq_true.mpr ⟨p, hp, decide_eq_true ?_⟩
    rw [e]; exact List.mem_singleton.mp hb
theorem step_keys {k stage : Nat} {L : List (List Key × Car)} {c : Car} (h : (L.map (·.1)).Nodup) : ((stepC k stage L c).map (·.1)).Nodup := by
  unfold stepC
  split <;> exact putA_keys h
theorem putA_new {L : List (List Key × Car)} {k : List Key} {v : Car} : v ∈ (putA L k v).map (·.2) := by
  unfold putA
  split
  · rename_i q
    obtain ⟨p, hp, e⟩ := List.any_eq_true.mp q
    refine List.mem_map.mpr ⟨_, List.mem_map_of_mem hp, ?_⟩
    rw [if_pos (of_decide_eq_true e)]
  · exact List.mem_map.mpr ⟨(k, v), List.mem_append_right _ (List.mem_singleton.mpr rfl), rfl⟩
theorem valA_at {L : List (List Key × Car)} (h : (L.map (·.1)).Nodup) {p : List Key × Car} (hp : p ∈ L) : valA L p.1 = some p.2 := by
  induction L with
  | nil => cases hp
  | cons a r ih =>
    unfold valA
    rw [List.find?_cons]
    by_cases q : a.1 = p.1
    · rcases List.mem_cons.mp hp with z | z
      · rw [z]; simp
      · exact absurd (List.mem_map.mpr ⟨p, z, q.symm⟩) (List.nodup_cons.mp h).1
    · rw [decide_eq_false q]
      rcases List.mem_cons.mp hp with z | z
      · exact absurd (by rw [z]) q
      · exact ih (List.nodup_cons.mp h).2 z
theorem putA_old {L : List (List Key × Car)} {k : List Key} {v : Car} {p : List Key × Car} (hp : p ∈ L) (hk : p.1 ≠ k) : p.2 ∈ (putA L k v).map (·.2) := by
  unfold putA
  split
  · refine List.mem_map.mpr ⟨_, List.mem_map_of_mem hp, ?_⟩
    rw [if_neg hk]
  · exact List.mem_map.mpr ⟨p, List.mem_append_left _ hp, rfl⟩
def hasL (cs : List Car) (n : Nat) : Prop := ∃ c ∈ cs, n ∈ c.lv
theorem step_has {k stage n : Nat} {L : List (List Key × Car)} {c : Car} (hk : (L.map (·.1)).Nodup) (h : hasL (L.map (·.2)) n ∨ n ∈ c.lv) : hasL ((stepC k stage L c).map (·.2)) n := by
  unfold stepC
  cases hv : valA L (kc k stage c) with
  | none =>
    rcases h with ⟨x, hx, hn⟩ | h
    · obtain ⟨p, hp, rfl⟩ := List.mem_map.mp hx
      refine ⟨p.2, putA_old hp (fun e => ?_), hn⟩
      rw [← e, valA_at hk hp] at hv; cases hv
    · exact ⟨c, putA_new, h⟩
  | some o =>
    rcases h with ⟨x, hx, hn⟩ | h
    · obtain ⟨p, hp, rfl⟩ := List.mem_map.mp hx
      by_cases e : p.1 = kc k stage c
      · rw [← e, valA_at hk hp] at hv
        cases hv
        exact ⟨joinC p.2 c, putA_new, List.mem_append_right _ hn⟩
      · exact ⟨p.2, putA_old hp e, hn⟩
    · exact ⟨joinC o c, putA_new, List.mem_append_left _ h⟩
theorem fold_has {k stage n : Nat} : ∀ {cs : List Car} {L : List (List Key × Car)}, (L.map (·.1)).Nodup → hasL (L.map (·.2)) n ∨ hasL cs n → hasL ((cs.foldl (stepC k stage) L).map (·.2)) n
  | [], _, _, h => h.elim id fun ⟨_, z, _⟩ => nomatch z
  | c :: cs, L, hk, h => by
    refine fold_has (cs := cs) (L := stepC k stage L c) (step_keys hk) ?_
    rcases h with h | ⟨x, hx, hn⟩
    · exact .inl (step_has hk (.inl h))
    · rcases List.mem_cons.mp hx with z | z
      · exact .inl (step_has hk (.inr (by rw [← z]; exact hn)))
      · exact .inr ⟨x, z, hn⟩
theorem gone_has {as : List Ask} {k i : Nat} (hi : i < as.length) : ∀ n, hasL (goneC k as n) i
  | 0 => ⟨_, List.mem_map_of_mem (List.mem_range.mpr hi), List.mem_singleton.mpr rfl⟩
  | n + 1 => by
    rw [goneC_succ]
    obtain ⟨c, hc, h⟩ := gone_has (k := k) hi n
    exact fold_has List.nodup_nil (.inr ⟨c, turnC_mem.mpr hc, h⟩)
/-! all together -/
theorem shareK_ok {c : Car} {v : Int} (h : c.wf) (hc : c.cnt ≤ 10000) (hv : -(MM0 * 41) ≤ v ∧ v ≤ MM0 * 41) : okL (shareK c v) :=
  putsN_ok (fun _ z => nomatch z) fun p hp => by
    have := share_bd h (by simp only [MM0]; omega) hv p hp
    unfold okB
    simp only [MM0, BB] at *
    omega
theorem shareK_has {c : Car} {v : Int} {n : Nat} (h : n ∈ c.lv) : hasN (shareK c v) n := putsN_has (.inr (by rw [share_fst]; exact h))
theorem foldA_ok {vs : List Int} (hv : ∀ v ∈ vs, -(MM0 * 41) ≤ v ∧ v ≤ MM0 * 41) : ∀ {row : List Car} {L : List (Key × D)}, okL L → (∀ c ∈ row, c.wf ∧ c.cnt ≤ 10000) → okL (row.foldl (fun L c => mergeKD L (shareK c (vs.getD c.box 0))) L)
  | [], _, h, _ => h
  | c :: row, _, h, hr => foldA_ok hv (row := row) (merge_ok h (shareK_ok (hr c List.mem_cons_self).1 (hr c List.mem_cons_self).2 (by
      rw [List.getD_eq_getElem?_getD]
      cases e : vs[c.box]? with
      | none => show -(MM0 * 41) ≤ (0 : Int) ∧ (0 : Int) ≤ MM0 * 41; simp only [MM0]; omega
      | some v => exact hv v (List.mem_of_getElem? e)))) fun x hx => hr x (List.mem_cons_of_mem _ hx)
theorem foldA_has {vs : List Int} {n : Nat} : ∀ {row : List Car} {L : List (Key × D)}, hasN L n ∨ hasL row n → hasN (row.foldl (fun L c => mergeKD L (shareK c (vs.getD c.box 0))) L) n
  | [], _, h => h.elim id fun ⟨_, z, _⟩ => nomatch z
  | c :: row, L, h => by
    refine foldA_has (row := row) (L := mergeKD L (shareK c (vs.getD c.box 0))) ?_
    rcases h with h | ⟨x, hx, hn⟩
    · exact .inl (merge_has (.inl h))
    · rcases List.mem_cons.mp hx with z | z
      · exact .inl (merge_has (.inr (shareK_has (by rw [← z]; exact hn))))
      · exact .inr ⟨x, z, hn⟩
theorem foldA_len {vs : List Int} : ∀ {row : List Car} {L : List (Key × D)}, (∀ c ∈ row, c.cnt ≤ 10000) → (row.foldl (fun L c => mergeKD L (shareK c (vs.getD c.box 0))) L).length ≤ L.length + row.length * 10000
  | [], _, _ => by simp
  | c :: row, L, h => by
    have := foldA_len (vs := vs) (row := row) (L := mergeKD L (shareK c (vs.getD c.box 0))) fun x hx => h x (List.mem_cons_of_mem _ hx)
    have := merge_len (L := L) (more := shareK c (vs.getD c.box 0))
    have := shareK_len (c := c) (v := vs.getD c.box 0)
    have := h c List.mem_cons_self
    rw [List.foldl_cons, List.length_cons]; omega
def roundA (vs : List Int) (k : Nat) (as : List Ask) : List Int := (List.range as.length).map (ansI (ansL vs (goneC k as k)))
theorem gone_good {vs : List Int} {as : List Ask} {k : Nat} (hk : k ≤ 4) (hl : as.length ≤ 10) (ha : ∀ a ∈ as, a.box < vs.length ∧ a.deed.bd MM0) : ∀ c ∈ goneC k as k, c.wf ∧ c.cnt ≤ 10000 ∧ c.box < vs.length := fun c hc => by
  refine ⟨gone_all (Q := Car.wf) (fun x y h1 h2 => ⟨rfl, h1, h2⟩) (fun i hi => ?_) k c hc, ?_, gone_all (Q := fun c => c.box < vs.length) (fun x y h1 _ => h1) (fun i hi => ?_) k c hc⟩
  · rw [getD_at _ hi]; exact (ha _ (List.getElem_mem hi)).2
  · exact Nat.le_trans (gone_cnt hl k c hc) (Nat.le_trans (Nat.pow_le_pow_right (by decide) hk) (by decide))
  · rw [getD_at _ hi]; exact (ha _ (List.getElem_mem hi)).1
theorem round_val {vs : List Int} {as : List Ask} {k i : Nat} (hk : k ≤ 4) (hl : as.length ≤ 10) (hv : ∀ v ∈ vs, -(MM0 * 41) ≤ v ∧ v ≤ MM0 * 41) (ha : ∀ a ∈ as, a.box < vs.length ∧ a.deed.bd MM0) (hi : i < as.length) :
    valD (ansL vs (goneC k as k)) (.inl (i : Nat)) = some (.int (ansI (ansL vs (goneC k as k)) i)) ∧ okB (ansI (ansL vs (goneC k as k)) i) :=
  val_ans (foldA_ok hv (fun _ z => nomatch z) fun c hc => let h := gone_good hk hl ha c hc; ⟨h.1, h.2.1⟩) (foldA_has (.inr (gone_has hi k)))
theorem roundA_ok {vs : List Int} {as : List Ask} {k : Nat} (hk : k ≤ 4) (hl : as.length ≤ 10) (hv : ∀ v ∈ vs, -(MM0 * 41) ≤ v ∧ v ≤ MM0 * 41) (ha : ∀ a ∈ as, a.box < vs.length ∧ a.deed.bd MM0) : ∀ v ∈ roundA vs k as, okB v := fun v h => by
  obtain ⟨i, hi, rfl⟩ := List.mem_map.mp h
  exact (round_val hk hl hv ha (List.mem_range.mp hi)).2
end J
namespace J
open PySem PySem.Spec PyProof.Rows L2 TL
def Car.siz : Car → Nat
  | .leaf _ _ _ _ => 1
  | .node _ _ _ x y => x.siz + y.siz + 1
def dW (C : Addr) (p : Car × Int) : D := .tup [dCar C p.1, .int p.2]
def allW2 (L : List (Car × Int)) : List (Nat × Int) := L.flatMap fun p => share p.1 p.2
def sizW (L : List (Car × Int)) : Nat := (L.map fun p => p.1.siz).sum
theorem allW2_len : ∀ L : List (Car × Int), L.length ≤ (allW2 L).length
  | [] => Nat.zero_le _
  | t :: L => by
    have e : (allW2 (t :: L)).length = (share t.1 t.2).length + (allW2 L).length := List.length_append
    have ih := allW2_len L
    have := t.1.cnt_pos
    rw [e, share_len, List.length_cons]
    omega
section
variable {P : Program} {w : World} {K : PySem.W.Frag} {mg : Str → Option Value} {base : Heap} {CCarried : Addr}
def S_shared_back (CCarried : Addr) : AS := fun ds G R => ∃ (c : Car) (v : Int), ds = [dCar CCarried c, .int v] ∧ c.cnt ≤ 10000 ∧ ∀ G' p, Sub G G' → G p = none → G' p = some (.dK (shareK c v)) → R (.ref p) G'
theorem sc_shared_back : FnScope ["one", "value", "answers", "waiting", "here", "worth", "first", "other"] ["one", "value"] (defScope (top 80)) := ⟨rfl, rfl, rfl, by decide +kernel, rfl, by decide +kernel, by decide +kernel⟩
theorem f_shared_back (T : Blt K mg) (CC : CarC K CCarried) (dt : Dat K mg d_shared_back "shared_back") (c1 : Fn P w K mg base 1 "put_through" ["deed", "value"] [] S_put_through) : Fn P w K mg base 2 "shared_back" ["one", "value"] [] (S_shared_back CCarried) := by
  obtain ⟨f, fd, F, hm⟩ := dt
  refine ⟨f, cal_of F sc_shared_back (fun ds G R h => ?_) (fun _ _ _ _ _ _ us hl => match us, hl with | [_, _], _ => rfl) (fun cdv A outer s H E hr ds G R h => ?_), hm⟩
  · obtain ⟨c, v, rfl, hc, _⟩ := h
    rfl
  · obtain ⟨c, v, rfl, hc, k⟩ := h
    obtain ⟨f1, q1, m1⟩ := c1
    refine b_cons <| s_set 2 sc_shared_back.nd <| e_dnewK fun p hp => ?_
    refine b_cons <| s_set 3 sc_shared_back.nd <| e_lstM <| a_cons <| e_tup <| a_cons <| e_var 0 rfl <| a_cons <| e_var 1 rfl <| a_nil ⟨Nat.le_of_ble_eq_true rfl, a_nil ⟨Nat.le_of_ble_eq_true rfl, fun q hq => ?_⟩⟩
    have npq : q ≠ p := fun e => by rw [e, gup_same] at hq; cases hq
    have q0 : G q = none := by rwa [gup_ne npq] at hq
    refine b_cons <| s_while PassesOwn.never (fun m Γ G' => ∃ (L : List (Car × Int)) (kvs : List (Key × D)) (r4 r5 r6 r7 : Option D), Γ = [some (dCar CCarried c), some (.int v), some (.ref p), some (.ref q), r4, r5, r6, r7] ∧ G' q = some (.lst (L.reverse.map (dW CCarried))) ∧ G' p = some (.dK kvs) ∧ (allW2 L).foldl putN kvs = shareK c v ∧ kvs.length + (allW2 L).length ≤ 10000 ∧ m = sizW L ∧ Sub G G') (sizW [(c, v)]) ⟨[(c, v)], [], none, none, none, none, rfl, gup_same, by rw [gup_ne (Ne.symm npq), gup_same], ?_, ?_, rfl, fun x m h => ?_⟩ ?_
    · show ((share c v ++ []).foldl putN []) = _
      rw [List.append_nil]; rfl
    · show 0 + (share c v ++ []).length ≤ 10000
      rw [List.append_nil, share_len]; omega
    · rw [gup_ne (fun z => by rw [z, q0] at h; cases h), gup_ne (fun z => by rw [z, hp] at h; cases h)]; exact h
    rintro m Γ' G' ⟨L, kvs, r4, r5, r6, r7, rfl, hL, hK, hF, hB, rfl, sb⟩
    refine t_cmp <| e_var 3 rfl <| e_lst <| a_nil ⟨Nat.le_of_ble_eq_true rfl, o_neNil hr.units (.ref hL) ⟨_, rfl, ?_⟩⟩
    cases L with
    | nil =>
      refine iteFF ?_
      have hF : kvs = shareK c v := hF
      exact b_one <| s_ret <| e_var 2 rfl ⟨_, Sub.refl _, k G' p sb hp (by rw [hK, hF])⟩
    | cons t L =>
      obtain ⟨c1, v1⟩ := t
      have eL : ((c1, v1) :: L).reverse.map (dW CCarried) = L.reverse.map (dW CCarried) ++ [dW CCarried (c1, v1)] := by rw [List.reverse_cons, List.map_append]; rfl
      rw [eL] at hL ⊢
      have ne : (!(L.reverse.map (dW CCarried) ++ [dW CCarried (c1, v1)]).isEmpty) = true := by cases L.reverse.map (dW CCarried) <;> rfl
      rw [ne]
      refine iteTT ?_
      refine b_cons <| s_asg (pg_tup rfl (pgs_cons (pg_name (i := 4) sc_shared_back.nd rfl (by first | exact Or.inl rfl | exact Or.inr rfl)) (pgs_cons (pg_name (i := 5) sc_shared_back.nd rfl (by first | exact Or.inl rfl | exact Or.inr rfl)) pgs_nil))) <| e_bm0 PySem.F.plainAttrs_list PySem.F.slot_list_pop PySem.F.type_list_pop <| e_var 3 rfl ⟨.inr (.inl ⟨rfl, _, .ref hL⟩), m_pop hL (List.getLast?_concat ..) ⟨_, tg_tup (tgs_cons tg_name (tgs_cons tg_name tgs_nil)), ?_⟩⟩
      rw [List.dropLast_concat]
      have hK2 : gup G' q (.lst (L.reverse.map (dW CCarried))) p = some (.dK kvs) := by rw [gup_ne (Ne.symm npq)]; exact hK
      have hb : (allW2 ((c1, v1) :: L)).length = (share c1 v1).length + (allW2 L).length := List.length_append
      rw [hb, share_len] at hB
      have hf : (allW2 ((c1, v1) :: L)).foldl putN kvs = (allW2 L).foldl putN ((share c1 v1).foldl putN kvs) := List.foldl_append
      rw [hf] at hF
      show SB _ _ [some (dCar CCarried c), some (.int v), some (.ref p), some (.ref q), some (dCar CCarried c1), some (.int v1), r6, r7] _ _
      cases c1 with
      | leaf hd bx dd n =>
        refine b_one <| s_if <| t_cmp <| e_callB T.len bt_len <| a_cons <| e_fld <| e_var 4 rfl <| fl_parts CC <| a_nil <| c_lenT .tup <| e_int <| o_eqI ⟨_, rfl, iteTT ?_⟩
        refine b_one <| s_dput (u1 hr) <| e_var 5 rfl <| e_var 2 rfl <| e_ix <| e_fld <| e_var 4 rfl <| fl_parts CC <| e_int <| i_tup (n := 0) .tup rfl ⟨p, _, rfl, DP.k (k := .inl (n : Nat)) hK2 (by omega), ?_⟩
        refine ⟨sizW L, ?_, L, _, _, _, _, _, rfl, ?_, gup_same, hF, ?_, rfl, fun x m h => ?_⟩
        · show _ < 1 + sizW L
          omega
        · rw [gup_ne npq, gup_same]
        · have : (putKD kvs (.inl (n : Nat)) (.int v1)).length ≤ kvs.length + 1 := putKD_len
          have e1 : (Car.leaf hd bx dd n).cnt = 1 := rfl
          omega
        · rw [gup_ne (fun z => by rw [z, hp] at h; cases h), gup_ne (fun z => by rw [z, q0] at h; cases h)]; exact sb x m h
      | node hd bx dd x y =>
        have e1 : (Car.node hd bx dd x y).cnt = x.cnt + y.cnt := rfl
        have := x.cnt_pos
        have := y.cnt_pos
        have hlen := allW2_len L
        refine b_one <| s_if <| t_cmp <| e_callB T.len bt_len <| a_cons <| e_fld <| e_var 4 rfl <| fl_parts CC <| a_nil <| c_lenT .tup <| e_int <| o_eqI ⟨_, rfl, iteFF ?_⟩
        refine b_cons <| s_asg (pg_tup rfl (pgs_cons (pg_name (i := 6) sc_shared_back.nd rfl (by first | exact Or.inl rfl | exact Or.inr rfl)) (pgs_cons (pg_name (i := 7) sc_shared_back.nd rfl (by first | exact Or.inl rfl | exact Or.inr rfl)) pgs_nil))) <| e_fld <| e_var 4 rfl <| fl_parts CC ⟨_, tg_tup (tgs_cons tg_name (tgs_cons tg_name tgs_nil)), ?_⟩
        refine b_cons <| s_expr <| e_bm PySem.F.plainAttrs_list PySem.F.slot_list_append PySem.F.type_list_append <| e_var 3 rfl ⟨.inr (.inl ⟨rfl, _, .ref gup_same⟩), a_cons <| e_tup <| a_cons <| e_var 6 rfl <| a_cons <| e_var 5 rfl <| a_nil ⟨Nat.le_of_ble_eq_true rfl, a_nil <| m_append gup_same (by rw [List.length_map, List.length_reverse]; omega) ?_⟩⟩
        refine b_one <| s_expr <| e_bm PySem.F.plainAttrs_list PySem.F.slot_list_append PySem.F.type_list_append <| e_var 3 rfl ⟨.inr (.inl ⟨rfl, _, .ref gup_same⟩), a_cons <| e_tup <| a_cons <| e_var 7 rfl <| a_cons <| e_call q1 m1 (hr.mono (by decide)) <| a_cons <| e_fld <| e_var 6 rfl <| fl_deed CC <| a_cons <| e_var 5 rfl <| a_nil ⟨_, _, rfl, a_nil ⟨Nat.le_of_ble_eq_true rfl, a_nil <| m_append gup_same (by rw [List.length_append, List.length_map, List.length_reverse]; show _ + 1 < 100000; omega) ?_⟩⟩⟩
        rw [gup_gup, gup_gup]
        refine ⟨sizW ((y, put x.deed v1) :: (x, v1) :: L), ?_, (y, put x.deed v1) :: (x, v1) :: L, kvs, _, _, _, _, rfl, ?_, ?_, ?_, ?_, rfl, fun x m h => ?_⟩
        · show y.siz + (x.siz + sizW L) < x.siz + y.siz + 1 + sizW L
          omega
        · rw [gup_same, List.reverse_cons, List.reverse_cons, List.map_append, List.map_append]; rfl
        · rw [gup_ne (Ne.symm npq)]; exact hK
        · show (share y (put x.deed v1) ++ (share x v1 ++ allW2 L)).foldl putN kvs = _
          rw [← List.append_assoc, List.foldl_append]; exact hF
        · show kvs.length + (share y (put x.deed v1) ++ (share x v1 ++ allW2 L)).length ≤ 10000
          rw [List.length_append, List.length_append, share_len, share_len]; omega
        · rw [gup_ne (fun z => by rw [z, q0] at h; cases h)]; exact sb x m h
def S_one_round : AS := fun ds G R => ∃ (a : Nat) (vs : List Int) (as : List Ask), ds = [.int a, dInts vs, .tup (as.map dAsk), dSet a] ∧ a ≤ 4 ∧ 1 ≤ vs.length ∧ vs.length ≤ 16 ∧ as.length ≤ 10 ∧ (∀ x ∈ as, x.ok vs.length ∧ x.hand < 2 ^ a ∧ x.deed.bd MM0) ∧ (as.map Ask.hand).Nodup ∧ (∀ v ∈ vs, -(MM0 * 41) ≤ v ∧ v ≤ MM0 * 41) ∧ ∀ G' d2, Sub G G' → R (.tup [dInts (roundA vs a as), d2]) G'
theorem sc_one_round : FnScope ["k", "board", "asks", "firsts", "later", "answers", "one", "levels", "memory", "number"] ["k", "board", "asks", "firsts"] (defScope (top 81)) := ⟨rfl, rfl, rfl, by decide +kernel, rfl, by decide +kernel, by decide +kernel⟩
theorem f_one_round (T : Blt K mg) (CC : CarC K CCarried) (dt : Dat K mg d_one_round "one_round") (c1 : Fn P w K mg base 7 "want_round" ["k", "board", "asks"] [] S_want_round) (c2 : Fn P w K mg base 5 "want_settings" ["k", "thing"] [] S_want_settings) (c3 : Fn P w K mg base 5 "gone" ["k", "asks", "firsts"] [] (S_gone CCarried)) (c4 : Fn P w K mg base 2 "shared_back" ["one", "value"] [] (S_shared_back CCarried)) (c5 : Fn P w K mg base 1 "put_through" ["deed", "value"] [] S_put_through) : Fn P w K mg base 8 "one_round" ["k", "board", "asks", "firsts"] [] S_one_round := by
  obtain ⟨f, fd, F, hm⟩ := dt
  refine ⟨f, cal_of F sc_one_round (fun ds G R h => ?_) (fun _ _ _ _ _ _ us hl => match us, hl with | [_, _, _, _], _ => rfl) (fun cdv A outer s H E hr ds G R h => ?_), hm⟩
  · obtain ⟨a, vs, as, rfl, h1, h2, h3, h4, h5, h6, h7, _⟩ := h
    rfl
  · obtain ⟨a, vs, as, rfl, h1, h2, h3, h4, h5, h6, h7, k⟩ := h
    obtain ⟨f1, q1, m1⟩ := c1
    obtain ⟨f2, q2, m2⟩ := c2
    obtain ⟨f3, q3, m3⟩ := c3
    obtain ⟨f4, q4, m4⟩ := c4
    obtain ⟨f5, q5, m5⟩ := c5
    have hg := gone_good (vs := vs) (as := as) h1 h4 fun x hx => ⟨(h5 x hx).1.2.1, (h5 x hx).2.2⟩
    have hr2 := fun {i} (hi : i < as.length) => round_val (vs := vs) (as := as) h1 h4 h7 (fun x hx => ⟨(h5 x hx).1.2.1, (h5 x hx).2.2⟩) hi
    refine b_cons <| s_expr <| e_call q1 m1 (hr.mono (by decide)) <| a_cons <| e_var 0 rfl <| a_cons <| e_var 1 rfl <| a_cons <| e_var 2 rfl <| a_nil ⟨a, vs, as, rfl, h1, h2, h3, h4, fun x hx => ⟨(h5 x hx).1, (h5 x hx).2.1⟩, h6, ?_⟩
    refine b_cons <| s_expr <| e_call q2 m2 (hr.mono (by decide)) <| a_cons <| e_var 0 rfl <| a_cons <| e_var 3 rfl <| a_nil ⟨a, rfl, h1, ?_⟩
    refine b_cons <| s_asg (pg_tup rfl (pgs_cons (pg_name (i := 7) sc_one_round.nd rfl (by first | exact Or.inl rfl | exact Or.inr rfl)) (pgs_cons (pg_name (i := 8) sc_one_round.nd rfl (by first | exact Or.inl rfl | exact Or.inr rfl)) pgs_nil))) <| e_call q3 m3 (hr.mono (by decide)) <| a_cons <| e_var 0 rfl <| a_cons <| e_var 2 rfl <| a_cons <| e_var 3 rfl <| a_nil ⟨a, as, rfl, h1, h4, fun x hx => ⟨(h5 x hx).2.1, Nat.lt_of_lt_of_le (h5 x hx).1.2.1 h3⟩, fun G1 p1 p2 lv sb1 hp1 hla => ⟨_, tg_tup (tgs_cons tg_name (tgs_cons tg_name tgs_nil)), ?_⟩⟩
    refine b_cons <| s_set 4 sc_one_round.nd <| e_callTy T.lst bt_lst <| a_cons <| e_var 1 rfl <| a_nil <| c_lstTM .tup fun p hp => ?_
    refine b_cons <| s_set 5 sc_one_round.nd <| e_dnewK fun q hq => ?_
    have np1 : p ≠ p1 := fun e => by rw [e, hp1] at hp; cases hp
    have npq : q ≠ p := fun e => by rw [e, gup_same] at hq; cases hq
    have q0 : G1 q = none := by rwa [gup_ne npq] at hq
    have nq1 : q ≠ p1 := fun e => by rw [e, hp1] at q0; cases q0
    have hlen := goneC_len (as := as) (k := a) a
    refine b_cons <| s_for (pg_name (i := 6) sc_one_round.nd rfl (by first | exact Or.inl rfl | exact Or.inr rfl)) PassesOwn.never <| n_list <| e_ix <| e_var 7 rfl <| e_neg <| e_int ⟨_, rfl, i_last (.ref (by rw [gup_ne (Ne.symm nq1), gup_ne (Ne.symm np1)]; exact hp1)) hla ?_⟩
    generalize hrow : goneC a as a = row at hg hr2 hlen
    refine ⟨_, .lst, fun i Γ G' => Γ.length = 10 ∧ Γ[1]? = some (some (dInts vs)) ∧ Γ[2]? = some (some (.tup (as.map dAsk))) ∧ Γ[4]? = some (some (.ref p)) ∧ Γ[5]? = some (some (.ref q)) ∧ (∃ ls, G' p = some (.lst ls) ∧ ls.length = vs.length) ∧ G' q = some (.dK (ansL vs (row.take i))) ∧ Sub G1 G', ⟨rfl, rfl, rfl, rfl, rfl, ⟨_, by rw [gup_ne (Ne.symm npq), gup_same], List.length_map ..⟩, gup_same, fun x m h => ?_⟩, fun _ _ _ _ _ => trivial, ?_, ?_⟩
    · rw [gup_ne (fun z => by rw [z, q0] at h; cases h), gup_ne (fun z => by rw [z, hp] at h; cases h)]
      exact h
    · rintro i Γ' G' hi ⟨l, g1, g2, g4, g5, ⟨ls, hGp, hll⟩, hGq, sb⟩
      rw [List.length_map] at hi
      refine ⟨_, tg_name, ?_⟩
      rw [at0_map hi]
      show SB _ _ (Γ'.set 6 (some (dCar CCarried row[i]))) _ _
      obtain ⟨c1, c2, c3⟩ := hg _ (List.getElem_mem hi)
      have fs : ansL vs (row.take (i + 1)) = mergeKD (ansL vs (row.take i)) (shareK row[i] (vs.getD row[i].box 0)) := by
        unfold ansL
        rw [List.take_succ, List.getElem?_eq_getElem hi, List.foldl_append]; rfl
      have fl : (ansL vs (row.take i)).length ≤ 0 + (row.take i).length * 10000 := foldA_len fun x hx => (hg x (List.mem_of_mem_take hx)).2.1
      rw [List.length_take] at fl
      generalize row[i] = c at c1 c2 c3 fs
      generalize ansL vs (row.take i) = L at hGq fs fl
      have sl := shareK_len (c := c) (v := vs.getD c.box 0)
      have hb : (vs.map D.int)[c.box]? = some (.int (vs.getD c.box 0)) := by rw [List.getElem?_map, List.getD_eq_getElem?_getD, List.getElem?_eq_getElem c3]; rfl
      have v1 := sg_ne (j := 6) (v := some (dCar CCarried c)) g1 (by decide)
      have v2 := sg_ne (j := 6) (v := some (dCar CCarried c)) g2 (by decide)
      have v4 := sg_ne (j := 6) (v := some (dCar CCarried c)) g4 (by decide)
      have v5 := sg_ne (j := 6) (v := some (dCar CCarried c)) g5 (by decide)
      have v6 := sg_eq (Γ := Γ') (i := 6) (v := some (dCar CCarried c)) (by rw [l]; decide)
      have l' : (Γ'.set 6 (some (dCar CCarried c))).length = 10 := by rw [List.length_set]; exact l
      generalize Γ'.set 6 (some (dCar CCarried c)) = Γ1 at v1 v2 v4 v5 v6 l'
      refine b_cons <| s_expr <| e_bm PySem.F.plainAttrs_dict PySem.F.slot_dict_update PySem.F.type_dict_update <| e_var 5 v5 ⟨.inr (.inr ⟨rfl, q, rfl, .inl ⟨_, hGq⟩⟩), a_cons <| e_call q4 m4 (hr.mono (by decide)) <| a_cons <| e_var 6 v6 <| a_cons <| e_ix <| e_var 1 v1 <| e_fld <| e_var 6 v6 <| fl_box CC <| i_tup .tup hb <| a_nil ⟨c, _, rfl, c2, fun G2 r sb2 hr0 hGr => a_nil <| m_update (sb2 _ _ hGq) hGr (fun e => by rw [e, hr0] at hGq; cases hGq) (by omega) ?_⟩⟩
      have hGp2 : gup G2 q (.dK (mergeKD L (shareK c (vs.getD c.box 0)))) p = some (.lst ls) := by rw [gup_ne (Ne.symm npq)]; exact sb2 _ _ hGp
      refine b_one <| s_sub <| e_call q5 m5 (hr.mono (by decide)) <| a_cons <| e_fld <| e_var 6 v6 <| fl_deed CC <| a_cons <| e_ix <| e_var 1 v1 <| e_fld <| e_var 6 v6 <| fl_box CC <| i_tup .tup hb <| a_nil ⟨_, _, rfl, e_var 4 v4 <| e_fld <| e_var 6 v6 <| fl_box CC ⟨p, ls, c.box, rfl, rfl, hGp2, by omega, ?_⟩⟩
      refine ⟨l', v1, v2, v4, v5, ⟨_, gup_same, by rw [List.length_set]; exact hll⟩, ?_, fun x m h => ?_⟩
      · rw [gup_ne npq, gup_same, fs]
      · rw [gup_ne (fun z => by rw [z, hp] at h; cases h), gup_ne (fun z => by rw [z, q0] at h; cases h)]; exact sb2 x m (sb x m h)
    rintro Γ' G' ⟨l, g1, g2, g4, g5, ⟨ls, hGp, hll⟩, hGq, sb⟩
    rw [List.length_map, List.take_length] at hGq
    refine b_one <| s_ret <| e_tup <| a_cons <| e_callTy T.tup bt_tup <| a_cons <| e_lc [("number", 9)] sc_one_round.nd (blkOk_by rfl) (fun _ _ _ _ _ => (pg_name (i := 9) sc_one_round.nd rfl (Or.inl rfl))) <| n_range1 T.rng <| e_callB T.len bt_len <| a_cons <| e_var 2 g2 <| a_nil <| c_lenT .tup ⟨_, rfl, by omega, by rw [List.length_map]; omega, ?_⟩
    rw [List.length_map, show ((as.length : Nat) : Int).toNat = as.length from rfl]
    refine lc_map (fun i => .int (ansI (ansL vs row) i)) (fun i => [(9, .int (i : Nat))]) trivial (by omega) (by simp) (fun i hi => tg_name) (fun i hi s H0 C cl fp => ?_) ?_
    · have gq : ∀ i : Nat, ((Γ'.set 9 none).set 9 (some (.int (i : Nat))))[5]? = some (some (.ref q)) := fun i => sg_ne (sg_ne g5 (by decide)) (by decide)
      have gi : ∀ i : Nat, ((Γ'.set 9 none).set 9 (some (.int (i : Nat))))[9]? = some (some (.int (i : Nat))) := fun i => sg_eq (by rw [List.length_set, l]; decide)
      have dg := DG.k (k := .inl (i : Nat)) hGq
      rw [(hr2 hi).1] at dg
      exact e_dget (u1 hr) <| e_var 5 (gq i) ⟨q, rfl, e_var 9 (gi i) ⟨_, dg, rfl, rfl⟩⟩
    refine a_nil <| c_tupL .lst <| a_cons <| e_callTy T.tup bt_tup <| a_cons <| e_var 4 ?_ <| a_nil <| c_tupL (.ref hGp) <| a_nil ⟨Nat.le_of_ble_eq_true rfl, ⟨_, Sub.refl _, ?_⟩⟩
    · exact g4
    have e : roundA vs a as = (List.range as.length).map (ansI (ansL vs row)) := by unfold roundA; rw [hrow]
    have := k G' (.tup ls) (fun x m h => sb x m (sb1 x m h))
    rw [e] at this
    unfold dInts at this
    rw [List.map_map] at this
    exact this
end
end J
namespace J
open PySem PySem.Spec PyProof.Rows L2 TL
def ftN (k : Nat) (A : Slot → Addr) (b : Addr) : Prop := ∃ s : Slot, s.ok k ∧ A s = b
structure Frm (G : Gp) (F : Addr → Prop) (G' : Gp) (F' : Addr → Prop) : Prop where
  keep : ∀ b, G b ≠ none → ¬ F b → G' b = G b
  foot : ∀ b, F' b → F b ∨ G b = none
theorem Frm.refl {G : Gp} {F : Addr → Prop} : Frm G F G F := ⟨fun _ _ _ => rfl, fun _ h => .inl h⟩
theorem Frm.trans {G G1 G2 : Gp} {F F1 F2 : Addr → Prop} (a : Frm G F G1 F1) (b : Frm G1 F1 G2 F2) : Frm G F G2 F2 := by
  refine ⟨fun x h n => ?_, fun x h => ?_⟩
  · have e := a.keep x h n
    rw [← e]
    exact b.keep x (by rw [e]; exact h) fun z => (a.foot x z).elim n h
  · rcases b.foot x h with z | z
    · exact a.foot x z
    · by_cases f : F x
      · exact .inl f
      · refine .inr (Classical.byContradiction fun n => ?_)
        rw [a.keep x n f] at z
        exact n z
theorem Frm.or {G G' : Gp} {F F' E : Addr → Prop} (a : Frm G F G' F') : Frm G (fun b => F b ∨ E b) G' (fun b => F' b ∨ E b) :=
  ⟨fun b h n => a.keep b h fun z => n (.inl z), fun b h => h.elim (fun z => (a.foot b z).elim (fun y => .inl (.inl y)) .inr) fun z => .inl (.inr z)⟩
theorem Frm.sub {G G' : Gp} {F : Addr → Prop} (s : ∀ x m, G x = some m → G' x = some m) : Frm G F G' F := by
  refine ⟨fun b h _ => ?_, fun _ h => .inl h⟩
  cases e : G b with
  | none => exact absurd e h
  | some m => exact s b m e
theorem Frm.gup {G : Gp} {F : Addr → Prop} {p : Addr} {m : MO} (h : F p) : Frm G F (gup G p m) F := ⟨fun b _ n => gup_ne fun e => n (e ▸ h), fun _ h => .inl h⟩
theorem Own.frm {k : Nat} {G G' : Gp} {A A2 : Slot → Addr} (o : Own k G A G' A2) : Frm G (ftN k A) G' (ftN k A2) :=
  ⟨fun b h n => o.frame b h fun s hs e => n ⟨s, hs, e.symm⟩, fun b ⟨s, hs, e⟩ => by
    rcases o.new s hs with ⟨t, ht, z⟩ | z
    · exact .inl ⟨t, ht, by rw [← z]; exact e⟩
    · exact .inr (by rw [← e]; exact z)⟩
/-- a footprint that another one leaves alone -/
theorem Frm.apart {G G' : Gp} {F F' E : Addr → Prop} (a : Frm G F G' F') (hE : ∀ b, E b → G b ≠ none) (d : ∀ b, F b → ¬ E b) : (∀ b, E b → G' b = G b) ∧ ∀ b, F' b → ¬ E b :=
  ⟨fun b h => a.keep b (hE b h) fun z => d b z h, fun b h e => (a.foot b h).elim (fun z => d b z e) (hE b e)⟩
structure DeskAt (CD CN : Addr) (G : Gp) (p : Addr) (A : Slot → Addr) (N : NetS) : Prop where
  obj : G p = some (.ins CD [("running", .ref (A .self))])
  net : NetAt CN G A N
  out : ¬ ftN N.k A p
def deskF (p : Addr) (k : Nat) (A : Slot → Addr) (b : Addr) : Prop := ftN k A b ∨ b = p
structure OwnAt (CN : Addr) (G : Gp) (o : Addr) (A : Slot → Addr) (N : NetS) : Prop where
  obj : G o = some (.lst [.ref (A .self), .int (N.k : Nat), .int (N.vals.length : Nat), .int (N.asks.length : Nat)])
  net : NetAt CN G A N
  out : ¬ ftN N.k A o
theorem NetAt.live {C : Addr} {G : Gp} {A : Slot → Addr} {N : NetS} (h : NetAt C G A N) {b : Addr} (f : ftN N.k A b) : G b ≠ none := by
  obtain ⟨s, hs, rfl⟩ := f
  rw [h.here s hs]; exact fun z => nomatch z
theorem NetAt.move {C : Addr} {G G' : Gp} {A : Slot → Addr} {N : NetS} (h : NetAt C G A N) (k : ∀ b, ftN N.k A b → G' b = G b) : NetAt C G' A N :=
  ⟨h.inj, fun s hs => by rw [k _ ⟨s, hs, rfl⟩]; exact h.here s hs⟩
/-! the rows -/
inductive Rw where
  | net (k room kept : Nat) (vals : List Int)
  | put (a : Ask)
  | beat (lost : List (Nat × Nat))
  | run (many : Nat)
  | board | log | todo
  | answer (n : Nat)
  | wait (l j : Nat)
  | thn (xs : List Deed)
  | round (as : List Ask)
def wrd (n : Nat) : Str := num (n : Nat)
def Rw.fst : Rw → Str
  | .net _ _ _ _ => "net" | .put _ => "put" | .beat _ => "beat" | .run _ => "run" | .board => "board" | .log => "log" | .todo => "todo" | .answer _ => "answer" | .wait _ _ => "wait" | .thn _ => "then" | .round _ => "round"
def Rw.rest : Rw → List Str
  | .net k r e vs => wrd k :: wrd r :: wrd e :: vs.map num
  | .put a => askW a
  | .beat l => (l.map fun p => [wrd p.1, wrd p.2]).flatten
  | .run m => [wrd m]
  | .board => [] | .log => [] | .todo => []
  | .answer n => [wrd n]
  | .wait l j => [wrd l, wrd j]
  | .thn xs => allW (xs.map deedW)
  | .round as => allW (as.map askW)
def Rw.text (r : Rw) : Str := jn (r.fst :: r.rest)
def NetS.tellsI (N : NetS) : List (Nat × Int) := ((List.range N.asks.length).filter N.ripe).map fun n => (n, (N.ansAt n).getD 0)
def NetS.runs : Nat → NetS → NetS
  | 0, N => N
  | n + 1, N => (NetS.runs n N).goOn []
def NetS.told (N : NetS) (n : Nat) : List (Nat × Int) := (List.range n).flatMap fun i => (NetS.runs (i + 1) N).tellsI
def foldD (xs : List Deed) : Deed := xs.foldl behind look
def Rw.next (N : NetS) : Rw → NetS
  | .net k r e vs => NetS.fresh k r e vs
  | .put a => N.put a
  | .beat l => N.goOn l
  | .run m => NetS.runs m N
  | _ => N
def oNum : Option Int → Str
  | none => "none"
  | some v => num v
def Rw.due (N : NetS) : Rw → Str
  | .net _ _ _ _ => "ok"
  | .put _ => wrd N.asks.length
  | .beat l => ansT (N.goOn l).tellsI
  | .run m => ansT (N.told m)
  | .board => shownT N.vals
  | .log => shownT (N.order.map fun n => ((n : Nat) : Int))
  | .todo => wrd N.todo
  | .answer n => oNum (N.answer n)
  | .wait l j => waitT (N.rows l j)
  | .thn xs => deedT (foldD xs)
  | .round as => shownT (roundA N.vals N.k as)
def Rw.ok (N : NetS) : Rw → Prop
  | .net k r e vs => k ≤ 4 ∧ 1 ≤ r ∧ r ≤ 6 ∧ e ≤ 6 ∧ 1 ≤ vs.length ∧ vs.length ≤ 16 ∧ ∀ v ∈ vs, -MM0 ≤ v ∧ v ≤ MM0
  | .put a => N.asks.length < 40 ∧ a.ok N.vals.length ∧ a.deed.bd MM0 ∧ a.hand < 2 ^ N.k
  | .beat l => l.length ≤ 10 ∧ ∀ p ∈ l, placeOk N.k p.1 p.2
  | .run m => 1 ≤ m ∧ m ≤ 300
  | .board => True | .log => True | .todo => True
  | .answer n => n < N.asks.length
  | .wait l j => l ≤ N.k ∧ j < 2 ^ N.k
  | .thn xs => xs ≠ [] ∧ xs.length ≤ 4 ∧ ∀ x ∈ xs, x.ok ∧ x.bd MM0
  | .round as => as ≠ [] ∧ as.length ≤ 5 ∧ (∀ a ∈ as, a.ok N.vals.length ∧ a.hand < 2 ^ N.k ∧ a.deed.bd MM0) ∧ (as.map Ask.hand).Nodup
end J
namespace J
open PySem PySem.Spec PyProof.Rows L2 TL
theorem ripe_ans {N : NetS} {n : Nat} (h : N.ripe n = true) : ∃ v, N.ansAt n = some v ∧ ∃ r ∈ N.asks, ∃ e, r.res = some (v, e) := by
  unfold NetS.ripe at h
  unfold NetS.ansAt
  cases e : N.asks[n]? with
  | none => rw [e] at h; cases h
  | some r =>
    rw [e] at h
    have h : (match r.res with | none => false | some (_, e) => decide (e + N.k = N.now)) = true := h
    cases er : r.res with
    | none => rw [er] at h; cases h
    | some p => exact ⟨p.1, by show (r.res).map _ = _; rw [er]; rfl, r, List.mem_of_getElem? e, p.2, er⟩
theorem tells_eq (N : NetS) : N.tells.map dTell = N.tellsI.map dAns := by
  unfold NetS.tells NetS.tellsI
  rw [List.map_map, List.map_map]
  refine List.map_congr_left fun n hn => ?_
  obtain ⟨v, hv, _⟩ := ripe_ans (List.mem_filter.mp hn).2
  show D.tup [.int (n : Nat), dO (N.ansAt n)] = D.tup [.int (n : Nat), .int ((N.ansAt n).getD 0)]
  rw [hv]; rfl
theorem tellsI_len {N : NetS} (g : Good N) : N.tellsI.length ≤ 40 := by
  unfold NetS.tellsI
  rw [List.length_map]
  have := List.length_filter_le N.ripe (List.range N.asks.length)
  rw [List.length_range] at this
  have := g.many
  omega
theorem tellsI_ok {N : NetS} (g : Good N) : ∀ p ∈ N.tellsI, p.1 ≤ 100000 ∧ okB p.2 := by
  intro p hp
  obtain ⟨n, hn, rfl⟩ := List.mem_map.mp hp
  obtain ⟨h1, h2⟩ := List.mem_filter.mp hn
  have h1 := List.mem_range.mp h1
  have := g.many
  obtain ⟨v, hv, r, hr, e, er⟩ := ripe_ans h2
  have := (g.asks r hr).2.2.2 v e er
  refine ⟨by show n ≤ 100000; omega, ?_⟩
  show okB ((N.ansAt n).getD 0)
  rw [hv]
  show okB v
  unfold okB
  simp only [MM0, BB] at *
  omega
end J
namespace J
open PySem PySem.Spec PyProof.Rows L2 TL
def NetS.szs (N : NetS) : Nat × Nat × Nat := (N.k, N.vals.length, N.asks.length)
theorem endN_szs {N : NetS} {n : Nat} : (N.endN n).szs = N.szs := by
  unfold NetS.endN NetS.szs
  split
  · rfl
  · simp only [List.length_set]
theorem ends_szs : ∀ {ns : List Nat} {N : NetS}, (ns.foldl NetS.endN N).szs = N.szs
  | [], _ => rfl
  | n :: ns, N => (ends_szs (ns := ns) (N := N.endN n)).trans endN_szs
theorem take_szs {N : NetS} {side : Nat} : (N.take side).szs = N.szs := by
  unfold NetS.take
  split
  · rfl
  · exact ends_szs
theorem room_szs {N N' : NetS} {s l : Nat} {it : Item} (h : N.room? s l it = some N') : N'.szs = N.szs := by
  unfold NetS.room? at h
  split at h
  · cases h; rfl
  · cases h
theorem does_szs {N N' : NetS} {s n : Nat} {it : Item} (h : N.doesGo s n it = some N') : N'.szs = N.szs := by
  unfold NetS.doesGo at h
  simp only at h
  split at h
  · exact room_szs h
  · split at h
    · split at h
      · cases h; rfl
      · cases h
    · exact room_szs h
theorem handFig_szs {N : NetS} {s n f : Nat} : (N.handFig s n f).szs = N.szs := by
  unfold NetS.handFig
  simp only
  split
  · rfl
  · split
    · rfl
    · rename_i h
      have e := does_szs h
      exact e
theorem handOn_szs {N : NetS} {s n : Nat} : (N.handOn s n).szs = N.szs := by
  unfold NetS.handOn
  rw [handFig_szs, handFig_szs]
theorem fold_szs {α : Type} {f : NetS → α → NetS} (hf : ∀ N a, (f N a).szs = N.szs) : ∀ {xs : List α} {N : NetS}, (xs.foldl f N).szs = N.szs
  | [], _ => rfl
  | x :: xs, N => (fold_szs hf (xs := xs) (N := f N x)).trans (hf N x)
theorem goOn_szs {N : NetS} {lost : List (Nat × Nat)} : (N.goOn lost).szs = N.szs := by
  unfold NetS.goOn NetS.stages
  rw [fold_szs fun M i => ?_]
  · unfold NetS.takes
    rw [fold_szs fun M i => ?_]
    · rfl
    · show (if _ then M else M.take i).szs = _
      split
      · rfl
      · exact take_szs
  · unfold NetS.stageOn
    refine fold_szs fun M i => ?_
    show (if _ then M else M.handOn _ i).szs = _
    split
    · rfl
    · exact handOn_szs
theorem runs_szs {N : NetS} : ∀ n, (NetS.runs n N).szs = N.szs
  | 0 => rfl
  | n + 1 => goOn_szs.trans (runs_szs n)
end J
namespace J
open PySem PySem.Spec PyProof.Rows L2 TL
def OrdOk (N : NetS) : Prop := ∀ n ∈ N.order, n < N.asks.length
theorem endN_ord {N : NetS} {n : Nat} (h : OrdOk N) : OrdOk (N.endN n) := by
  unfold NetS.endN
  split
  · exact h
  · rename_i r e
    intro m hm
    have lt : n < N.asks.length := (List.getElem?_eq_some_iff.mp e).1
    show m < (N.asks.set n _).length
    rw [List.length_set]
    rcases List.mem_append.mp hm with z | z
    · exact h m z
    · rw [List.mem_singleton.mp z]; exact lt
theorem fold_ord {α : Type} {f : NetS → α → NetS} (hf : ∀ N a, OrdOk N → OrdOk (f N a)) : ∀ {xs : List α} {N : NetS}, OrdOk N → OrdOk (xs.foldl f N)
  | [], _, h => h
  | x :: xs, N, h => fold_ord hf (xs := xs) (N := f N x) (hf N x h)
theorem take_ord {N : NetS} {side : Nat} (h : OrdOk N) : OrdOk (N.take side) := by
  unfold NetS.take
  split
  · exact h
  · exact fold_ord (fun _ _ => endN_ord) h
theorem room_ord {N N' : NetS} {s l : Nat} {it : Item} (o : OrdOk N) (h : N.room? s l it = some N') : OrdOk N' := by
  unfold NetS.room? at h
  split at h
  · cases h; exact o
  · cases h
theorem does_ord {N N' : NetS} {s n : Nat} {it : Item} (o : OrdOk N) (h : N.doesGo s n it = some N') : OrdOk N' := by
  unfold NetS.doesGo at h
  simp only at h
  split at h
  · exact room_ord o h
  · split at h
    · split at h
      · cases h; exact o
      · cases h
    · exact room_ord o h
theorem handFig_ord {N : NetS} {s n f : Nat} (o : OrdOk N) : OrdOk (N.handFig s n f) := by
  unfold NetS.handFig
  simp only
  split
  · exact o
  · split
    · exact o
    · rename_i h
      have e := does_ord o h
      exact e
theorem goOn_ord {N : NetS} {lost : List (Nat × Nat)} (o : OrdOk N) : OrdOk (N.goOn lost) := by
  unfold NetS.goOn NetS.stages
  refine fold_ord (fun M i h => ?_) ?_
  · unfold NetS.stageOn
    refine fold_ord (fun M i h => ?_) h
    show OrdOk (if _ then M else M.handOn _ i)
    split
    · exact h
    · exact handFig_ord (handFig_ord h)
  · unfold NetS.takes
    refine fold_ord (fun M i h => ?_) o
    show OrdOk (if _ then M else M.take i)
    split
    · exact h
    · exact take_ord h
theorem put_ord {N : NetS} {a : Ask} (o : OrdOk N) : OrdOk (N.put a) := fun n hn => by
  have := o n hn
  show n < (N.asks ++ [_]).length
  rw [List.length_append]; exact Nat.lt_succ_of_lt this
/-- all that a net told rows keeps -/
structure Fine (N : NetS) : Prop where
  good : Good N
  ord : OrdOk N
end J
namespace J
open PySem PySem.Spec PyProof.Rows L2 TL
theorem cut_to3 {x y z : D} {r : List D} : cutD (x :: y :: z :: r) none (some 3) = [x, y, z] := by
  show ((x :: y :: z :: r).drop 0).take (HT.sIx (r.length + 1 + 1 + 1) (r.length + 1 + 1 + 1) (some ((3 : Nat) : Int)) - 0) = _
  rw [HT.sIx_nat, Nat.min_eq_left (by omega)]
  rfl
theorem cut_from3 {x y z : D} {r : List D} : cutD (x :: y :: z :: r) (some 3) none = r := by
  show ((x :: y :: z :: r).drop (HT.sIx (r.length + 1 + 1 + 1) 0 (some ((3 : Nat) : Int)))).take ((r.length + 1 + 1 + 1) - HT.sIx (r.length + 1 + 1 + 1) 0 (some ((3 : Nat) : Int))) = _
  rw [HT.sIx_nat, Nat.min_eq_left (by omega)]
  show r.take (r.length + 1 + 1 + 1 - 3) = r
  exact List.take_of_length_le (by omega)
theorem flat2 {f : Nat × Nat → D × D} : ∀ l : List (Nat × Nat), every2 ((l.map fun p => [(f p).1, (f p).2]).flatten) = (l.map fun p => (f p).1) ∧ every2 (((l.map fun p => [(f p).1, (f p).2]).flatten).drop 1) = l.map fun p => (f p).2
  | [] => ⟨rfl, rfl⟩
  | [p] => ⟨rfl, rfl⟩
  | p :: q :: l => by
    obtain ⟨h1, h2⟩ := flat2 (f := f) (q :: l)
    refine ⟨?_, ?_⟩
    · show (f p).1 :: every2 ((((q :: l).map fun p => [(f p).1, (f p).2]).flatten)) = _
      rw [h1]; rfl
    · show (f p).2 :: every2 ((((q :: l).map fun p => [(f p).1, (f p).2]).flatten).drop 1) = _
      rw [h2]; rfl
theorem zipD_map {f g : Nat × Nat → D} : ∀ l : List (Nat × Nat), zipD (l.map f) (l.map g) = l.map fun p => .tup [f p, g p]
  | [] => rfl
  | p :: l => by
    show D.tup [f p, g p] :: zipD (l.map f) (l.map g) = _
    rw [zipD_map l]; rfl
section
variable {P : Program} {w : World} {K : PySem.W.Frag} {mg : Str → Option Value} {base : Heap} {CNet CDesk CCarried : Addr}
def S_net_told (CNet : Addr) : AS := fun ds G R => ∃ (a r e : Nat) (vs : List Int), ds = [.lst ((Rw.net a r e vs).rest.map D.str)] ∧ a ≤ 4 ∧ 1 ≤ r ∧ r ≤ 6 ∧ e ≤ 6 ∧ 1 ≤ vs.length ∧ vs.length ≤ 16 ∧ (∀ v ∈ vs, okB v) ∧ ∀ A G', NetAt CNet G' A (NetS.fresh a r e vs) → (∀ s : Slot, s.ok a → G (A s) = none) → (∀ b, G b ≠ none → G' b = G b) → R (.ref (A .self)) G'
theorem sc_net_told : FnScope ["rest", "values", "k", "room", "kept", "word"] ["rest"] (defScope (top 97)) := ⟨rfl, rfl, rfl, by decide +kernel, rfl, by decide +kernel, by decide +kernel⟩
theorem f_net_told (T : Blt K mg) (MN : mg "Net" = some (.ref CNet)) (dt : Dat K mg d_net_told "net_told") (c1 : Fn P w K mg base 1 "want_row" ["truth"] [] S_want_row) (c2 : Fn P w K mg base 3 "numbers_in" ["some"] [] S_numbers_in) (c3 : Fn P w K mg base 3 "value_in" ["word"] [] S_value_in) (c4 : Kn P w K mg base 4 CNet ["self", "k", "board", "room", "kept"] [] (S_Net_init CNet)) : Fn P w K mg base 6 "net_told" ["rest"] [] (S_net_told CNet) := by
  obtain ⟨f, fd, F, hm⟩ := dt
  refine ⟨f, cal_of F sc_net_told (fun ds G R h => ?_) (fun _ _ _ _ _ _ us hl => match us, hl with | [_], _ => rfl) (fun cdv A outer s H E hr ds G R h => ?_), hm⟩
  · obtain ⟨a, r, e, vs, rfl, h1, h2, h3, h4, h5, h6, h7, _⟩ := h
    rfl
  · obtain ⟨a, r, e, vs, rfl, h1, h2, h3, h4, h5, h6, h7, k⟩ := h
    obtain ⟨f1, q1, m1⟩ := c1
    obtain ⟨f2, q2, m2⟩ := c2
    obtain ⟨f3, q3, m3⟩ := c3
    obtain ⟨f4, q4, m4⟩ := c4
    have el : ((Rw.net a r e vs).rest.map D.str) = .str (num (a : Nat)) :: .str (num (r : Nat)) :: .str (num (e : Nat)) :: (vs.map fun v => D.str (num v)) := by
      show D.str _ :: D.str _ :: D.str _ :: ((vs.map num).map D.str) = _
      rw [List.map_map]; rfl
    rw [el]
    refine b_cons <| s_expr <| e_call q1 m1 (hr.mono (by decide)) <| a_cons <| e_cmp <| e_callB T.len bt_len <| a_cons <| e_var 0 rfl <| a_nil <| c_lenL .lst <| e_int <| o_gt <| a_nil ⟨?_, ?_⟩
    · have : decide ((3 : Int) < ((D.str (num (a : Nat)) :: D.str (num (r : Nat)) :: D.str (num (e : Nat)) :: (vs.map fun v => D.str (num v))).length : Nat)) = true := decide_eq_true (by rw [List.length_cons, List.length_cons, List.length_cons, List.length_map]; omega)
      rw [this]; rfl
    refine b_cons <| s_asg (pg_lst rfl (pgs_cons (pg_name (i := 2) sc_net_told.nd rfl (by first | exact Or.inl rfl | exact Or.inr rfl)) (pgs_cons (pg_name (i := 3) sc_net_told.nd rfl (by first | exact Or.inl rfl | exact Or.inr rfl)) (pgs_cons (pg_name (i := 4) sc_net_told.nd rfl (by first | exact Or.inl rfl | exact Or.inr rfl)) pgs_nil)))) <| e_call q2 m2 (hr.mono (by decide)) <| a_cons <| e_slL .none .int <| e_var 0 rfl ⟨_, .lst, ?_⟩
    rw [cut_to3]
    refine a_nil ⟨_, [a, r, e], rfl, .lst, ?_, by show 3 ≤ 1000; decide, ⟨_, tg_lst (tgs_cons tg_name (tgs_cons tg_name (tgs_cons tg_name tgs_nil))), ?_⟩⟩
    · intro n hn
      simp only [List.mem_cons, List.not_mem_nil, or_false] at hn
      omega
    show SB _ _ [_, none, some (.int (a : Nat)), some (.int (r : Nat)), some (.int (e : Nat)), none] _ _
    refine b_cons <| s_set 1 sc_net_told.nd <| e_callTy T.tup bt_tup <| a_cons <| e_lc [("word", 5)] sc_net_told.nd (blkOk_by rfl) (fun _ _ _ _ _ => (pg_name (i := 5) sc_net_told.nd rfl (Or.inl rfl))) <| n_list <| e_slL .int .none <| e_var 0 rfl ⟨_, .lst, ?_⟩
    rw [cut_from3]
    refine ⟨_, .lst, ?_⟩
    refine lc_map (fun i => .int (vs.getD i 0)) (fun i => [(5, .str (num (vs.getD i 0)))]) trivial (by rw [List.length_map]; omega) (by simp) (fun i hi => ?_) (fun i hi s H0 C cl fp => ?_) ?_
    · rw [List.length_map] at hi
      rw [at0_map hi, show vs.getD i 0 = vs[i] by rw [List.getD_eq_getElem?_getD, List.getElem?_eq_getElem hi]; rfl]
      exact tg_name
    · rw [List.length_map] at hi
      have hv : okB (vs.getD i 0) := by rw [List.getD_eq_getElem?_getD, List.getElem?_eq_getElem hi]; exact h7 _ (List.getElem_mem hi)
      exact e_call q3 m3 (hr.mono (by decide)) <| a_cons <| e_var 5 rfl <| a_nil ⟨_, rfl, hv, rfl, rfl⟩
    rw [List.length_map, map_range_eq vs _ (fun v => D.int v) fun i x e => by rw [List.getD_eq_getElem?_getD, e]; rfl]
    refine a_nil <| c_tupL .lst ?_
    refine b_one <| s_ret <| e_make m4 q4 (hr.mono (by decide)) MN <| a_cons <| e_var 2 rfl <| a_cons <| e_var 1 rfl <| a_cons <| e_var 3 rfl <| a_cons <| e_var 4 rfl <| a_nil fun p hp => ⟨p, a, r, e, vs, rfl, gup_same, h1, h2, h3, h4, h5, h6, fun A G' es NA nw fr => ⟨rfl, _, Sub.refl _, ?_⟩⟩
    rw [← es]
    refine k A G' NA (fun s hs => ?_) fun b hb => ?_
    · by_cases z : s = .self
      · rw [z, es]; exact hp
      · have := nw s hs z
        unfold gup at this
        by_cases y : A s = p
        · rw [if_pos y] at this; cases this
        · rw [if_neg y] at this; exact this
    · have y : b ≠ p := fun z => hb (z ▸ hp)
      have := fr b (by rw [gup_ne y]; exact hb) y
      rw [this, gup_ne y]
def S_lost_told : AS := fun ds G R => ∃ l : List (Nat × Nat), ds = [.lst ((Rw.beat l).rest.map D.str)] ∧ l.length ≤ 100 ∧ (∀ p ∈ l, p.1 ≤ 100000 ∧ p.2 ≤ 100000) ∧ R (.tup (l.map dPl)) G
theorem sc_lost_told : FnScope ["rest", "numbers"] ["rest"] (defScope (top 98)) := ⟨rfl, rfl, rfl, by decide +kernel, rfl, by decide +kernel, by decide +kernel⟩
theorem f_lost_told (T : Blt K mg) (dt : Dat K mg d_lost_told "lost_told") (c1 : Fn P w K mg base 1 "want_row" ["truth"] [] S_want_row) (c2 : Fn P w K mg base 3 "numbers_in" ["some"] [] S_numbers_in) : Fn P w K mg base 4 "lost_told" ["rest"] [] S_lost_told := by
  obtain ⟨f, fd, F, hm⟩ := dt
  refine ⟨f, cal_of F sc_lost_told (fun ds G R h => ?_) (fun _ _ _ _ _ _ us hl => match us, hl with | [_], _ => rfl) (fun cdv A outer s H E hr ds G R h => ?_), hm⟩
  · obtain ⟨l, rfl, hl, hb, _⟩ := h
    rfl
  · obtain ⟨l, rfl, hl, hb, k⟩ := h
    obtain ⟨f1, q1, m1⟩ := c1
    obtain ⟨f2, q2, m2⟩ := c2
    have e : ((Rw.beat l).rest.map D.str) = (l.map fun p => [p.1, p.2]).flatten.map fun n => D.str (num (n : Nat)) := by
      show ((l.map fun p => [wrd p.1, wrd p.2]).flatten.map D.str) = _
      rw [List.map_flatten, List.map_flatten, List.map_map, List.map_map]; rfl
    have ln : ((l.map fun p => [p.1, p.2]).flatten).length = 2 * l.length := by
      clear e hl hb k
      induction l with
      | nil => rfl
      | cons p l ih => rw [List.map_cons, List.flatten_cons, List.length_append, ih, List.length_cons, List.length_cons, List.length_cons]; show 0 + 1 + 1 + _ = _; omega
    have eb : ((l.map fun p => [p.1, p.2]).flatten.map fun n => D.int (n : Nat)) = (l.map fun p => [D.int (p.1 : Nat), D.int (p.2 : Nat)]).flatten := by
      rw [List.map_flatten, List.map_map]; rfl
    rw [e]
    refine b_cons <| s_expr <| e_call q1 m1 (hr.mono (by decide)) <| a_cons <| e_cmp <| e_bin <| e_callB T.len bt_len <| a_cons <| e_var 0 rfl <| a_nil <| c_lenL .lst <| e_int <| o_mod (by decide) <| e_int <| o_eqI <| a_nil ⟨?_, ?_⟩
    · have : decide (((((l.map fun p => [p.1, p.2]).flatten.map fun n => D.str (num (n : Nat))).length : Nat) : Int).fmod 2 = 0) = true := decide_eq_true (by rw [List.length_map, ln, Int.fmod_eq_emod_of_nonneg _ (by decide)]; omega)
      rw [this]; rfl
    refine b_cons <| s_set 1 sc_lost_told.nd <| e_call q2 m2 (hr.mono (by decide)) <| a_cons <| e_var 0 rfl <| a_nil ⟨_, (l.map fun p => [p.1, p.2]).flatten, rfl, .lst, ?_, by rw [ln]; omega, ?_⟩
    · intro n hn
      obtain ⟨ys, hy, hn⟩ := List.mem_flatten.mp hn
      obtain ⟨p, hp, rfl⟩ := List.mem_map.mp hy
      have := hb p hp
      simp only [List.mem_cons, List.not_mem_nil, or_false] at hn
      rcases hn with rfl | rfl <;> omega
    rw [eb]
    obtain ⟨f1, f2⟩ := flat2 (f := fun p => (D.int (p.1 : Nat), D.int (p.2 : Nat))) l
    refine b_one <| s_ret <| e_callTy T.tup bt_tup <| a_cons <| e_listZip T.lst T.zip <| a_cons <| e_step2 (lo := 0) rfl <| e_var 1 rfl ⟨_, .lst, a_cons <| e_step2 (lo := 1) rfl <| e_var 1 rfl ⟨_, .lst, a_nil ⟨_, _, _, _, rfl, .lst, .lst, a_nil <| c_tupL .lst ⟨_, Sub.refl _, ?_⟩⟩⟩⟩
    rw [List.drop_zero, f1, f2, zipD_map]
    exact k
end
end J
namespace J
open PySem PySem.Spec PyProof.Rows L2 TL
structure DesC (K : PySem.W.Frag) (C : Addr) : Prop where
  cls : Cls K C
  na : NoAttr K C "running"
section
variable {P : Program} {w : World} {K : PySem.W.Frag} {mg : Str → Option Value} {base : Heap} {CNet CDesk CCarried : Addr}
def S_Desk_init (CNet : Addr) (CDesk : Addr) : AS := fun ds G R => ∃ p, ds = [.ref p] ∧ G p = some (.ins CDesk []) ∧ ∀ A G', DeskAt CDesk CNet G' p A (NetS.fresh 0 1 0 [0]) → (∀ b, deskF p 0 A b → b = p ∨ G b = none) → (∀ b, G b ≠ none → b ≠ p → G' b = G b) → R .non G'
theorem sc_Desk_init : FnScope ["self"] ["self"] (defScope (inClass (top 99) 0)) := ⟨rfl, rfl, rfl, by decide +kernel, rfl, by decide +kernel, by decide +kernel⟩
theorem f_Desk_init (T : Blt K mg) (DC : DesC K CDesk) (MN : mg "Net" = some (.ref CNet)) (dt : DatK K CDesk d_Desk_init) (c1 : Kn P w K mg base 4 CNet ["self", "k", "board", "room", "kept"] [] (S_Net_init CNet)) : Kn P w K mg base 6 CDesk ["self"] [] (S_Desk_init CNet CDesk) := by
  obtain ⟨f, fd, F, hm⟩ := dt
  refine ⟨f, cal_of F sc_Desk_init (fun ds G R h => ?_) (fun _ _ _ _ _ _ us hl => match us, hl with | [_], _ => rfl) (fun cdv A outer s H E hr ds G R h => ?_), hm⟩
  · obtain ⟨p, rfl, hp, _⟩ := h
    rfl
  · obtain ⟨p, rfl, hp, k⟩ := h
    obtain ⟨f1, q1, m1⟩ := c1
    refine b_one <| s_fld <| e_make m1 q1 (hr.mono (by decide)) MN <| a_cons <| e_int <| a_cons <| e_tup <| a_cons <| e_int <| a_nil ⟨Nat.le_of_ble_eq_true rfl, a_cons <| e_int <| a_cons <| e_int <| a_nil fun a ha => ⟨a, 0, 1, 0, [0], rfl, gup_same, by decide, by decide, by decide, by decide, by decide, by decide, fun A G' es NA nw fr => ⟨rfl, e_var 0 rfl ⟨p, CDesk, [], rfl, ?_, DC.cls, DC.na, Nat.le_of_ble_eq_true rfl, ?_⟩⟩⟩⟩
    · have pa : p ≠ a := fun z => by rw [z, ha] at hp; cases hp
      have := fr p (by rw [gup_ne pa, hp]; exact fun z => nomatch z) pa
      rw [this, gup_ne pa, hp]
    · have pa : p ≠ a := fun z => by rw [z, ha] at hp; cases hp
      have fre : ∀ s : Slot, s.ok 0 → G (A s) = none := fun s hs => by
        by_cases z : s = .self
        · rw [z, es]; exact ha
        · have := nw s hs z
          unfold gup at this
          by_cases y : A s = a
          · rw [if_pos y] at this; cases this
          · rw [if_neg y] at this; exact this
      have out : ¬ ftN 0 A p := fun ⟨s, hs, e⟩ => by
        have := fre s hs
        rw [e, hp] at this
        cases this
      refine k A _ ⟨by rw [gup_same, es]; rfl, NA.move fun b hb => gup_ne fun z => out (z ▸ hb), out⟩ (fun b hb => ?_) fun b hb hn => ?_
      · rcases hb with ⟨s, hs, e⟩ | e
        · exact .inr (by rw [← e]; exact fre s hs)
        · exact .inl e
      · have ba : b ≠ a := fun z => hb (z ▸ ha)
        rw [gup_ne hn, fr b (by rw [gup_ne ba]; exact hb) ba, gup_ne ba]
def S_Desk_shown (CNet : Addr) (CDesk : Addr) : AS := fun ds G R => ∃ p A N r, ds = [.ref p, .str (Rw.fst r)] ∧ (r = .board ∨ r = .log ∨ r = .todo) ∧ DeskAt CDesk CNet G p A N ∧ Fine N ∧ R (.str (Rw.due N r)) G
theorem sc_Desk_shown : FnScope ["self", "first"] ["self", "first"] (defScope (inClass (top 99) 4)) := ⟨rfl, rfl, rfl, by decide +kernel, rfl, by decide +kernel, by decide +kernel⟩
theorem f_Desk_shown (T : Blt K mg) (NC : NetC K CNet) (DC : DesC K CDesk) (dt : DatM K CDesk d_Desk_shown "shown") (c1 : Fn P w K mg base 1 "numbers_shown" ["some"] [] S_numbers_shown) (c2 : Mn P w K mg base 1 CNet "board" ["self"] [] (S_Net_board CNet)) (c3 : Mn P w K mg base 1 CNet "log" ["self"] [] (S_Net_log CNet)) (c4 : Mn P w K mg base 2 CNet "todo" ["self"] [] (S_Net_todo CNet)) : Mn P w K mg base 3 CDesk "shown" ["self", "first"] [] (S_Desk_shown CNet CDesk) := by
  obtain ⟨f, fd, F, hm⟩ := dt
  refine ⟨f, cal_of F sc_Desk_shown (fun ds G R h => ?_) (fun _ _ _ _ _ _ us hl => match us, hl with | [_, _], _ => rfl) (fun cdv A outer s H E hr ds G R h => ?_), hm⟩
  · obtain ⟨p, A, N, r, rfl, hr0, DA, g, _⟩ := h
    rfl
  · obtain ⟨p, A, N, r, rfl, hr0, DA, g, k⟩ := h
    obtain ⟨f1, q1, m1⟩ := c1
    obtain ⟨f2, q2, m2⟩ := c2
    obtain ⟨f3, q3, m3⟩ := c3
    obtain ⟨f4, q4, m4⟩ := c4
    have hm := g.good.many
    have nod : N.order.length ≤ 40 := by have := g.good.nums; omega
    refine b_cons <| s_if <| t_cmp <| e_var 1 rfl <| e_str <| o_eqS ⟨_, rfl, ?_⟩
    rcases hr0 with rfl | rfl | rfl
    · refine ite_t (by decide +kernel) ?_
      refine b_one <| s_ret <| e_call q1 m1 (hr.mono (by decide)) <| a_cons <| e_meth0 NC.cls m2 q2 (hr.mono (by decide)) <| e_fld <| e_var 0 rfl <| .ins DA.obj DC.cls DC.na rfl ⟨_, _, rfl, DA.net.here .self trivial, rfl, A, N, rfl, DA.net, a_nil ⟨N.vals, rfl, ?_, by have := g.good.v16; omega, ⟨_, Sub.refl _, k⟩⟩⟩
      intro v hv
      have := g.good.vb v hv
      unfold okB
      simp only [MM0, BB] at *
      omega
    · refine ite_f (by decide +kernel) <| b_nil ?_
      refine b_cons <| s_if <| t_cmp <| e_var 1 rfl <| e_str <| o_eqS ⟨_, rfl, ?_⟩
      refine ite_t (by decide +kernel) ?_
      refine b_one <| s_ret <| e_call q1 m1 (hr.mono (by decide)) <| a_cons <| e_meth0 NC.cls m3 q3 (hr.mono (by decide)) <| e_fld <| e_var 0 rfl <| .ins DA.obj DC.cls DC.na rfl ⟨_, _, rfl, DA.net.here .self trivial, rfl, A, N, rfl, DA.net, a_nil ⟨N.order.map fun n => ((n : Nat) : Int), ?_, ?_, by rw [List.length_map]; omega, ⟨_, Sub.refl _, k⟩⟩⟩
      · unfold nats; rw [List.map_map]; rfl
      · intro v hv
        obtain ⟨n, hn, rfl⟩ := List.mem_map.mp hv
        have := g.ord n hn
        exact okB_nat (by omega)
    · refine ite_f (by decide +kernel) <| b_nil ?_
      refine b_cons <| s_if <| t_cmp <| e_var 1 rfl <| e_str <| o_eqS ⟨_, rfl, ?_⟩
      refine ite_f (by decide +kernel) <| b_nil ?_
      refine b_one <| s_ret <| e_callTy T.str bt_str <| a_cons <| e_meth0 NC.cls m4 q4 (hr.mono (by decide)) <| e_fld <| e_var 0 rfl <| .ins DA.obj DC.cls DC.na rfl ⟨_, _, rfl, DA.net.here .self trivial, rfl, A, N, rfl, DA.net, hm, a_nil <| c_strI (log_ok (okB_nat ?_)) ⟨_, Sub.refl _, k⟩⟩
      have : N.todo ≤ N.asks.length := by unfold NetS.todo; have := List.length_filter_le (fun n => !N.doneAt n) (List.range N.asks.length); rw [List.length_range] at this; exact this
      omega
end
end J
namespace J
open PySem PySem.Spec PyProof.Rows L2
section
variable {X : Cx} {G : Gp} {R : D → Gp → Prop} {d e : D} {ds es : List D}
theorem o_addL (l : Lv G d ds) (l2 : Lv G e es) (hl : ds.length + es.length ≤ 100000) (r : R (.lst (ds ++ es)) G) : OO X (binaryOp .Add) d e G R := fun I H x y hg hx hy => by
  obtain ⟨a, xs, rfl, h3, h4⟩ := l.at hg hx
  obtain ⟨b, ys, rfl, h5, h6⟩ := l2.at hg hy
  refine toO op_cat ⟨_, _, _, _, rfl, rfl, h3, h5, Nat.le_trans (by rw [← h4.len, ← h6.len]; exact hl) (show 100000 ≤ sizeLine by decide), fun p hp => ?_⟩
  have z := hg.newI hp (.lst (xs ++ ys))
  exact ⟨_, G, _, z.1, z.2, Is.lst upd_same (Iss.mono z.2.ex _ (h4.append h6)), r⟩
theorem o_addT (l : Tv d ds) (l2 : Tv e es) (h0 : ds ≠ []) (h1 : es ≠ []) (hl : ds.length + es.length ≤ 100000) (r : R (.tup (ds ++ es)) G) : OO X (binaryOp .Add) d e G R := fun I H x y hg hx hy => by
  obtain ⟨a, xs, rfl, h3, h4⟩ := l.at hg hx
  obtain ⟨b, ys, rfl, h5, h6⟩ := l2.at hg hy
  have n0 : xs ≠ [] := fun z => by rw [z] at h4; have := h4.len; exact h0 (List.length_eq_zero_iff.mp this)
  have n1 : ys ≠ [] := fun z => by rw [z] at h6; have := h6.len; exact h1 (List.length_eq_zero_iff.mp this)
  refine toO op_catT ⟨_, _, _, _, rfl, rfl, h3, h5, n0, Nat.le_trans (by rw [← h4.len, ← h6.len]; exact hl) (show 100000 ≤ sizeLine by decide), fun z => absurd z n1, fun _ p hp => ?_⟩
  have z := hg.newI hp (.tup (xs ++ ys))
  exact ⟨_, G, _, z.1, z.2, Is.tup upd_same (Iss.mono z.2.ex _ (h4.append h6)), r⟩
/-- the list the law is told: it is only read -/
theorem c_lenF (r : R (.int (ds.length : Nat)) G) : CC X (.builtin "len") [.fls ds] G R := fun I H vs hg hi => by
  obtain ⟨v, q, rfl, h1, h2⟩ := hi.uncons
  obtain ⟨a, xs, rfl, h3, h4⟩ := h1.fls_eq
  rw [h2.nil_eq]
  exact toC call_len ⟨_, (xs.length : Nat), rfl, .inl ⟨xs, same_fl hg.sub h3, rfl⟩, Po.here hg (by rw [← h4.len]; exact Is.int) r⟩
theorem i_fls {n : Nat} {x : D} (h : ds[n]? = some x) (r : R x G) : II X (.fls ds) (.int n) G R := fun I H v w hg hx hy => by
  obtain ⟨a, xs, rfl, h1, h2⟩ := hx.fls_eq
  obtain ⟨y, h3, h4⟩ := h2.get h
  exact toI ix_list ⟨a, xs, n, y, rfl, hy.int_eq, same_fl hg.sub h1, atI_nat h3, Po.here hg h4 r⟩
end
end J
namespace J
open PySem PySem.Spec PyProof.Rows L2 TL
theorem bd_fit {n : Int} {x : Deed} (h : x.bd n) (e : n ≤ BB) : x.fit := by
  obtain ⟨h1, h2, h3, h4⟩ := h
  refine ⟨⟨by omega, by omega⟩, fun l hl => ?_, fun l hl => ?_⟩
  · have := h3 l hl
    exact ⟨by omega, by omega⟩
  · have := h4 l hl
    exact ⟨by omega, by omega⟩
theorem rows_ok {N : NetS} (g : Good N) {l j : Nat} (hl : l ≤ N.k) (hj : j < 2 ^ N.k) : ∀ i ∈ N.rows l j, i.box ≤ 100000 ∧ i.deed.ok ∧ i.deed.fit := fun i hi => by
  obtain ⟨h1, h2, h3, h4, h5⟩ := g.item l j hl hj i hi
  have hv := g.v16
  have hn : i.nums.length ≤ 40 := by
    have a := tot_ge (f := wt) (rows := N.rows) hl hj
    have b := g.nums
    have c := g.many
    have d : i.nums.length ≤ wt (N.rows l j) := wt_mem hi
    omega
  refine ⟨by omega, h2, bd_fit h3 ?_⟩
  simp only [MM0, BB]; omega
theorem ansAt_ok {N : NetS} (g : Good N) {n : Nat} {v : Int} (h : N.answer n = some v) : okB v := by
  unfold NetS.answer at h
  split at h
  · unfold NetS.ansAt at h
    cases e : N.asks[n]? with
    | none => rw [e] at h; cases h
    | some r =>
      rw [e] at h
      have h : (r.res).map (·.1) = some v := h
      cases er : r.res with
      | none => rw [er] at h; cases h
      | some p =>
        rw [er] at h; cases h
        have := (g.asks r (List.mem_of_getElem? e)).2.2.2 p.1 p.2 er
        unfold okB
        simp only [MM0, BB] at *
        omega
  · cases h
section
variable {P : Program} {w : World} {K : PySem.W.Frag} {mg : Str → Option Value} {base : Heap} {CNet CDesk CCarried : Addr}
def S_Desk_looked (CNet : Addr) (CDesk : Addr) : AS := fun ds G R => ∃ p A N r, ds = [.ref p, .str (Rw.fst r), .lst ((Rw.rest r).map D.str)] ∧ ((∃ n, r = .answer n) ∨ ∃ l j, r = .wait l j) ∧ Rw.ok N r ∧ DeskAt CDesk CNet G p A N ∧ Fine N ∧ R (.str (Rw.due N r)) G
theorem sc_Desk_looked : FnScope ["self", "first", "rest", "numbers", "found"] ["self", "first", "rest"] (defScope (inClass (top 99) 5)) := ⟨rfl, rfl, rfl, by decide +kernel, rfl, by decide +kernel, by decide +kernel⟩
theorem f_Desk_looked (T : Blt K mg) (NC : NetC K CNet) (DC : DesC K CDesk) (dt : DatM K CDesk d_Desk_looked "looked") (c1 : Fn P w K mg base 1 "want_row" ["truth"] [] S_want_row) (c2 : Fn P w K mg base 3 "numbers_in" ["some"] [] S_numbers_in) (c3 : Fn P w K mg base 6 "waiting_shown" ["some"] [] S_waiting_shown) (c4 : Mn P w K mg base 3 CNet "waiting" ["self", "level", "line"] [] (S_Net_waiting CNet)) (c5 : Mn P w K mg base 3 CNet "answer" ["self", "number"] [] (S_Net_answer CNet)) : Mn P w K mg base 7 CDesk "looked" ["self", "first", "rest"] [] (S_Desk_looked CNet CDesk) := by
  obtain ⟨f, fd, F, hm⟩ := dt
  refine ⟨f, cal_of F sc_Desk_looked (fun ds G R h => ?_) (fun _ _ _ _ _ _ us hl => match us, hl with | [_, _, _], _ => rfl) (fun cdv A outer s H E hr ds G R h => ?_), hm⟩
  · obtain ⟨p, A, N, r, rfl, hr0, ho, DA, g, _⟩ := h
    rfl
  · obtain ⟨p, A, N, r, rfl, hr0, ho, DA, g, k⟩ := h
    obtain ⟨f1, q1, m1⟩ := c1
    obtain ⟨f2, q2, m2⟩ := c2
    obtain ⟨f3, q3, m3⟩ := c3
    obtain ⟨f4, q4, m4⟩ := c4
    obtain ⟨f5, q5, m5⟩ := c5
    have hm := g.good.many
    have hk4 := g.good.k4
    refine b_cons <| s_expr <| e_call q1 m1 (hr.mono (by decide)) <| a_cons <| e_cmp <| e_callB T.len bt_len <| a_cons <| e_var 2 rfl <| a_nil <| c_lenL .lst <| e_bin <| e_int <| e_callTy T.int bt_int <| a_cons <| e_cmp <| e_var 1 rfl <| e_str <| o_eqS <| a_nil <| c_intB <| o_add <| o_eqI <| a_nil ?_
    rcases hr0 with ⟨n, rfl⟩ | ⟨l, j, rfl⟩
    · refine ⟨rfl, ?_⟩
      have ho : n < N.asks.length := ho
      refine b_cons <| s_set 3 sc_Desk_looked.nd <| e_call q2 m2 (hr.mono (by decide)) <| a_cons <| e_var 2 rfl <| a_nil ⟨_, [n], rfl, .lst, ?_, by show 1 ≤ 1000; decide, ?_⟩
      · intro x hx; rw [List.mem_singleton.mp hx]; omega
      refine b_cons <| s_if <| t_cmp <| e_var 1 rfl <| e_str <| o_eqS ⟨_, rfl, ?_⟩
      refine ite_f (by show decide (("answer" : Str) = "wait") = false; decide +kernel) <| b_nil ?_
      refine b_cons <| s_set 4 sc_Desk_looked.nd <| e_meth NC.cls m5 q5 (hr.mono (by decide)) <| e_fld <| e_var 0 rfl <| .ins DA.obj DC.cls DC.na rfl ⟨_, _, rfl, DA.net.here .self trivial, rfl, a_cons <| e_ix <| e_var 3 rfl <| e_int <| i_lst (n := 0) .lst rfl <| a_nil ⟨A, N, n, rfl, DA.net, ho, ?_⟩⟩
      have due : Rw.due N (.answer n) = oNum (N.answer n) := rfl
      rw [due] at k
      cases e : N.answer n with
      | none =>
        rw [e] at k
        exact b_one <| s_ret <| e_ifexp <| t_cmp <| e_var 4 rfl <| e_non <| o_is ⟨_, rfl, iteTT <| e_gS T.nothing ⟨_, Sub.refl _, k⟩⟩
      | some v =>
        rw [e] at k
        exact b_one <| s_ret <| e_ifexp <| t_cmp <| e_var 4 rfl <| e_non <| o_is ⟨_, rfl, iteFF <| e_callTy T.str bt_str <| a_cons <| e_var 4 rfl <| a_nil <| c_strI (log_ok (ansAt_ok g.good e)) ⟨_, Sub.refl _, k⟩⟩
    · refine ⟨rfl, ?_⟩
      obtain ⟨h1, h2⟩ : l ≤ N.k ∧ j < 2 ^ N.k := ho
      have h2' := p2_lt16 hk4 h2
      refine b_cons <| s_set 3 sc_Desk_looked.nd <| e_call q2 m2 (hr.mono (by decide)) <| a_cons <| e_var 2 rfl <| a_nil ⟨_, [l, j], rfl, .lst, ?_, by show 2 ≤ 1000; decide, ?_⟩
      · intro x hx
        simp only [List.mem_cons, List.not_mem_nil, or_false] at hx
        omega
      refine b_cons <| s_if <| t_cmp <| e_var 1 rfl <| e_str <| o_eqS ⟨_, rfl, ?_⟩
      refine ite_t (by show decide (("wait" : Str) = "wait") = true; decide +kernel) ?_
      refine b_one <| s_ret <| e_call q3 m3 (hr.mono (by decide)) <| a_cons <| e_meth NC.cls m4 q4 (hr.mono (by decide)) <| e_fld <| e_var 0 rfl <| .ins DA.obj DC.cls DC.na rfl ⟨_, _, rfl, DA.net.here .self trivial, rfl, a_cons <| e_ix <| e_var 3 rfl <| e_int <| i_lst (n := 0) .lst rfl <| a_cons <| e_ix <| e_var 3 rfl <| e_int <| i_lst (n := 1) .lst rfl <| a_nil ⟨A, N, l, j, rfl, DA.net, hk4, h1, h2, a_nil ⟨N.rows l j, rfl, rows_ok g.good h1 h2, by have := g.good.rowLen h1 h2; omega, ⟨_, Sub.refl _, k⟩⟩⟩⟩
end
end J
namespace J
open PySem PySem.Spec PyProof.Rows L2 TL
theorem mm_bb {n : Nat} (h : n ≤ 1000) : MM0 * n ≤ BB := by simp only [MM0, BB]; omega
theorem foldl_deed : ∀ (xs : List Deed) (a : Deed) (n : Nat), a.ok → a.bd (MM0 * n) → (∀ x ∈ xs, x.ok ∧ x.bd MM0) → (xs.foldl behind a).ok ∧ (xs.foldl behind a).bd (MM0 * (n + xs.length : Nat))
  | [], a, n, h1, h2, _ => ⟨h1, h2⟩
  | x :: xs, a, n, h1, h2, h => by
    have hx := h x (List.mem_cons_self ..)
    have r := foldl_deed xs (behind a x) (n + 1) (behind_ok h1 hx.1) ((behind_bd h2 hx.2 (by simp only [MM0]; omega) (by decide)).mono (by simp only [MM0]; omega)) fun y hy => h y (List.mem_cons_of_mem _ hy)
    refine ⟨r.1, r.2.mono ?_⟩
    rw [List.length_cons, show n + 1 + xs.length = n + (xs.length + 1) by omega]
    exact Int.le_refl _
theorem look_ok : look.ok := by unfold Deed.ok look; trivial
theorem look_bd : look.bd (MM0 * (0 : Nat)) := by
  refine ⟨by decide, by decide, fun l h => ?_, fun l h => ?_⟩ <;> cases h
theorem foldD_fit {xs : List Deed} (hl : xs.length ≤ 4) (h : ∀ x ∈ xs, x.ok ∧ x.bd MM0) : (foldD xs).ok ∧ (foldD xs).fit := by
  have r := foldl_deed xs look 0 look_ok look_bd h
  exact ⟨r.1, bd_fit r.2 (mm_bb (by omega))⟩
theorem foldD_succ {xs : List Deed} {i : Nat} (h : i < xs.length) : (xs.take (i + 1)).foldl behind look = behind ((xs.take i).foldl behind look) xs[i] := by
  rw [List.take_succ, List.getElem?_eq_getElem h, List.foldl_append]; rfl
theorem bd1_fit {x : Deed} (h : x.bd MM0) : x.fit := bd_fit h (by simp only [MM0, BB]; omega)
theorem vals_bd {N : NetS} (g : Good N) : ∀ v ∈ N.vals, -(MM0 * 41) ≤ v ∧ v ≤ MM0 * 41 := fun v hv => by
  have := g.vb v hv
  have := g.nums
  have := g.many
  simp only [MM0] at *
  omega
/-! runs -/
theorem runs_k {N : NetS} (n : Nat) : (NetS.runs n N).k = N.k := congrArg Prod.fst (runs_szs (N := N) n)
theorem told_succ {N : NetS} {n : Nat} : N.told (n + 1) = N.told n ++ (NetS.runs (n + 1) N).tellsI := by
  unfold NetS.told; rw [List.range_succ, List.flatMap_append]; simp
theorem Frm.off {G G' : Gp} {F F' : Addr → Prop} (f : Frm G F G' F') {q : Addr} (hq : G q = none) {m : MO} : Frm G F (J.gup G' q m) F' :=
  ⟨fun b h n => by rw [gup_ne fun e => h (by rw [e]; exact hq)]; exact f.keep b h n, f.foot⟩
theorem DeskAt.step {CD CN : Addr} {G G' : Gp} {p : Addr} {A A2 : Slot → Addr} {N N' : NetS} (D : DeskAt CD CN G p A N) (na : NetAt CN G' A2 N') (kk : N'.k = N.k) (ow : Own N.k G A G' A2) : DeskAt CD CN G' p A2 N' ∧ Frm G (deskF p N.k A) G' (deskF p N'.k A2) := by
  have hp : G' p = G p := ow.frame p (by rw [D.obj]; exact fun z => nomatch z) fun s hs e => D.out ⟨s, hs, e.symm⟩
  refine ⟨⟨by rw [hp, D.obj, ow.self], na, fun ⟨s, hs, e⟩ => ?_⟩, by rw [kk]; exact ow.frm.or⟩
  rcases ow.new s (kk ▸ hs) with ⟨t, ht, z⟩ | z
  · exact D.out ⟨t, ht, z ▸ e⟩
  · rw [e, D.obj] at z; cases z
theorem DeskAt.live {CD CN : Addr} {G : Gp} {p : Addr} {A : Slot → Addr} {N : NetS} (D : DeskAt CD CN G p A N) {b : Addr} (h : deskF p N.k A b) : G b ≠ none := by
  rcases h with h | rfl
  · exact D.net.live h
  · rw [D.obj]; exact fun z => nomatch z
theorem DeskAt.move {CD CN : Addr} {G G' : Gp} {p : Addr} {A : Slot → Addr} {N : NetS} (D : DeskAt CD CN G p A N) (k : ∀ b, deskF p N.k A b → G' b = G b) : DeskAt CD CN G' p A N :=
  ⟨by rw [k p (.inr rfl)]; exact D.obj, D.net.move fun b h => k b (.inl h), D.out⟩
section
variable {P : Program} {w : World} {K : PySem.W.Frag} {mg : Str → Option Value} {base : Heap} {CNet CDesk CCarried : Addr}
def S_Desk_reckoned (CNet : Addr) (CDesk : Addr) : AS := fun ds G R => ∃ p A N r, ds = [.ref p, .str (Rw.fst r), .lst ((Rw.rest r).map D.str)] ∧ ((∃ xs, r = .thn xs) ∨ ∃ as, r = .round as) ∧ Rw.ok N r ∧ DeskAt CDesk CNet G p A N ∧ Fine N ∧ ∀ G', Sub G G' → R (.str (Rw.due N r)) G'
theorem sc_Desk_reckoned : FnScope ["self", "first", "rest", "k", "found", "deed", "answers", "later"] ["self", "first", "rest"] (defScope (inClass (top 99) 6)) := ⟨rfl, rfl, rfl, by decide +kernel, rfl, by decide +kernel, by decide +kernel⟩
theorem f_Desk_reckoned (T : Blt K mg) (NC : NetC K CNet) (DC : DesC K CDesk) (dt : DatM K CDesk d_Desk_reckoned "reckoned") (c1 : Fn P w K mg base 7 "deeds_in" ["some"] [] S_deeds_in) (c2 : Fn P w K mg base 2 "one_behind" ["one", "other"] [] S_one_behind) (c3 : Fn P w K mg base 5 "deed_text" ["deed"] [] S_deed_text) (c4 : Fn P w K mg base 8 "one_round" ["k", "board", "asks", "firsts"] [] S_one_round) (c5 : Mn P w K mg base 1 CNet "board" ["self"] [] (S_Net_board CNet)) (c6 : Fn P w K mg base 7 "asks_in" ["some"] [] S_asks_in) (c7 : Fn P w K mg base 4 "straight" ["k"] [] S_straight) (c8 : Fn P w K mg base 1 "numbers_shown" ["some"] [] S_numbers_shown) : Mn P w K mg base 9 CDesk "reckoned" ["self", "first", "rest"] [] (S_Desk_reckoned CNet CDesk) := by
  obtain ⟨f, fd, F, hm⟩ := dt
  refine ⟨f, cal_of F sc_Desk_reckoned (fun ds G R h => ?_) (fun _ _ _ _ _ _ us hl => match us, hl with | [_, _, _], _ => rfl) (fun cdv A outer s H E hr ds G R h => ?_), hm⟩
  · obtain ⟨p, A, N, r, rfl, hr0, ho, DA, g, _⟩ := h
    rfl
  · obtain ⟨p, A, N, r, rfl, hr0, ho, DA, g, k⟩ := h
    obtain ⟨f1, q1, m1⟩ := c1
    obtain ⟨f2, q2, m2⟩ := c2
    obtain ⟨f3, q3, m3⟩ := c3
    obtain ⟨f4, q4, m4⟩ := c4
    obtain ⟨f5, q5, m5⟩ := c5
    obtain ⟨f6, q6, m6⟩ := c6
    obtain ⟨f7, q7, m7⟩ := c7
    obtain ⟨f8, q8, m8⟩ := c8
    have hk4 := g.good.k4
    rcases hr0 with ⟨xs, rfl⟩ | ⟨as, rfl⟩
    · obtain ⟨h0, hl, hx⟩ : xs ≠ [] ∧ xs.length ≤ 4 ∧ ∀ x ∈ xs, x.ok ∧ x.bd MM0 := ho
      refine b_cons <| s_if <| t_cmp <| e_var 1 rfl <| e_str <| o_eqS ⟨_, rfl, ?_⟩
      refine ite_t (by show decide (("then" : Str) = "then") = true; decide +kernel) ?_
      refine b_cons <| s_set 4 sc_Desk_reckoned.nd <| e_gD T.look ?_
      refine b_cons <| s_for (pg_name (i := 5) sc_Desk_reckoned.nd rfl (by first | exact Or.inl rfl | exact Or.inr rfl)) PassesOwn.never <| n_list <| e_call q1 m1 (hr.mono (by decide)) <| a_cons <| e_var 2 rfl <| a_nil ⟨xs, rfl, h0, by omega, fun x h => ⟨(hx x h).1, bd1_fit (hx x h).2⟩, ⟨_, .lst, ?_⟩⟩
      refine ⟨fun i Γ G' => Γ.length = 8 ∧ Γ[4]? = some (some (dDeed ((xs.take i).foldl behind look))) ∧ G' = G, ⟨rfl, rfl, rfl⟩, fun _ _ _ _ _ => trivial, ?_, ?_⟩
      · rintro i Γ' G' hi ⟨l, g4, rfl⟩
        rw [List.length_map] at hi
        refine ⟨_, tg_name, ?_⟩
        rw [at0_map hi]
        show SB _ _ (Γ'.set 5 (some (dDeed xs[i]))) _ _
        refine b_one <| s_set 4 sc_Desk_reckoned.nd <| e_call q2 m2 (hr.mono (by decide)) <| a_cons <| e_var 4 (sg_ne g4 (by decide)) <| a_cons <| e_var 5 (sg_eq (by rw [l]; decide)) <| a_nil ⟨_, _, rfl, ?_⟩
        refine ⟨by rw [List.length_set, List.length_set]; exact l, ?_, rfl⟩
        rw [foldD_succ hi]
        exact sg_eq (by rw [List.length_set, l]; decide)
      · rintro Γ' G' ⟨l, g4, rfl⟩
        rw [List.length_map, List.take_length] at g4
        have f := foldD_fit hl hx
        exact b_one <| s_ret <| e_call q3 m3 (hr.mono (by decide)) <| a_cons <| e_var 4 g4 <| a_nil ⟨foldD xs, rfl, f.1, f.2, ⟨_, Sub.refl _, k _ (Sub.refl _)⟩⟩
    · obtain ⟨h0, hl, hx, hn⟩ : as ≠ [] ∧ as.length ≤ 5 ∧ (∀ a ∈ as, a.ok N.vals.length ∧ a.hand < 2 ^ N.k ∧ a.deed.bd MM0) ∧ (as.map Ask.hand).Nodup := ho
      have hv := vals_bd g.good
      have h16 := g.good.v16
      have p16 : ∀ a ∈ as, a.hand ≤ 100000 ∧ a.box ≤ 100000 ∧ a.deed.ok ∧ a.deed.fit := fun a ha => by
        obtain ⟨z1, z2, z3⟩ := hx a ha
        have := p2_lt16 hk4 z2
        have := z1.2.1
        exact ⟨by omega, by omega, z1.2.2, bd1_fit z3⟩
      refine b_cons <| s_if <| t_cmp <| e_var 1 rfl <| e_str <| o_eqS ⟨_, rfl, ?_⟩
      refine ite_f (by show decide (("round" : Str) = "then") = false; decide +kernel) <| b_nil ?_
      refine b_cons <| s_set 3 sc_Desk_reckoned.nd <| e_fld <| e_fld <| e_var 0 rfl <| .ins DA.obj DC.cls DC.na rfl <| fl_depth NC DA.net ?_
      refine b_cons <| s_asg (pg_tup rfl (pgs_cons (pg_name (i := 6) sc_Desk_reckoned.nd rfl (by first | exact Or.inl rfl | exact Or.inr rfl)) (pgs_cons (pg_name (i := 7) sc_Desk_reckoned.nd rfl (by first | exact Or.inl rfl | exact Or.inr rfl)) pgs_nil))) <| e_call q4 m4 (hr.mono (by decide)) <| a_cons <| e_var 3 rfl <| a_cons <| e_meth0 NC.cls m5 q5 (hr.mono (by decide)) <| e_fld <| e_var 0 rfl <| .ins DA.obj DC.cls DC.na rfl ⟨_, _, rfl, DA.net.here .self trivial, rfl, A, N, rfl, DA.net, a_cons <| e_call q6 m6 (hr.mono (by decide)) <| a_cons <| e_var 2 rfl <| a_nil ⟨as, rfl, h0, by omega, p16, a_cons <| e_call q7 m7 (hr.mono (by decide)) <| a_cons <| e_var 3 rfl <| a_nil ⟨N.k, rfl, hk4, a_nil ⟨N.k, N.vals, as, rfl, hk4, g.good.v1, h16, by omega, fun a ha => ⟨(hx a ha).1, (hx a ha).2.1, (hx a ha).2.2⟩, hn, hv, fun G' d2 sb => ⟨_, tg_tup (tgs_cons tg_name (tgs_cons tg_name tgs_nil)), ?_⟩⟩⟩⟩⟩
      have hlen : (roundA N.vals N.k as).length = as.length := by unfold roundA; rw [List.length_map, List.length_range]
      exact b_one <| s_ret <| e_call q8 m8 (hr.mono (by decide)) <| a_cons <| e_var 6 rfl <| a_nil ⟨roundA N.vals N.k as, rfl, roundA_ok hk4 (by omega) hv fun a ha => ⟨(hx a ha).1.2.1, (hx a ha).2.2⟩, by omega, ⟨_, Sub.refl _, k _ sb⟩⟩
def S_Desk_run_on (CNet : Addr) (CDesk : Addr) : AS := fun ds G R => ∃ p A N, ∃ m : Nat, ds = [.ref p, .int (m : Nat)] ∧ DeskAt CDesk CNet G p A N ∧ Fine N ∧ 1 ≤ m ∧ m ≤ 300 ∧ ∀ A2 G', DeskAt CDesk CNet G' p A2 (NetS.runs m N) → Fine (NetS.runs m N) → Frm G (deskF p N.k A) G' (deskF p (NetS.runs m N).k A2) → R (.str (ansT (N.told m))) G'
theorem sc_Desk_run_on : FnScope ["self", "many", "found", "turn"] ["self", "many"] (defScope (inClass (top 99) 3)) := ⟨rfl, rfl, rfl, by decide +kernel, rfl, by decide +kernel, by decide +kernel⟩
theorem f_Desk_run_on (T : Blt K mg) (NC : NetC K CNet) (DC : DesC K CDesk) (dt : DatM K CDesk d_Desk_run_on "run_on") (c1 : Fn P w K mg base 1 "want_row" ["truth"] [] S_want_row) (c2 : Mn P w K mg base 8 CNet "beat" ["self", "lost"] [.non] (S_Net_beat CNet)) (c3 : Fn P w K mg base 1 "answers_shown" ["some"] [] S_answers_shown) : Mn P w K mg base 9 CDesk "run_on" ["self", "many"] [] (S_Desk_run_on CNet CDesk) := by
  obtain ⟨f, fd, F, hm⟩ := dt
  refine ⟨f, cal_of F sc_Desk_run_on (fun ds G R h => ?_) (fun _ _ _ _ _ _ us hl => match us, hl with | [_, _], _ => rfl) (fun cdv A outer s H E hr ds G R h => ?_), hm⟩
  · obtain ⟨p, A, N, m, rfl, DA, g, h1, h2, _⟩ := h
    rfl
  · obtain ⟨p, A, N, m, rfl, DA, g, h1, h2, k⟩ := h
    obtain ⟨f1, q1, m1⟩ := c1
    obtain ⟨f2, q2, m2⟩ := c2
    obtain ⟨f3, q3, m3⟩ := c3
    refine b_cons <| s_expr <| e_call q1 m1 (hr.mono (by decide)) <| a_cons <| e_chain <| e_int <| e_var 1 rfl <| o_le ⟨_, rfl, ?_⟩
    refine ite_t (decide_eq_true (by omega)) <| e_gI T.beats <| o_le <| a_nil ⟨?_, ?_⟩
    · rw [decide_eq_true (by omega)]; rfl
    refine b_cons <| s_set 2 sc_Desk_run_on.nd <| e_lstM <| a_nil ⟨Nat.zero_le _, fun q hq => ?_⟩
    refine b_cons <| s_for (pg_name (i := 3) sc_Desk_run_on.nd rfl (by first | exact Or.inl rfl | exact Or.inr rfl)) PassesOwn.never <| n_range1 T.rng <| e_var 1 rfl ⟨_, rfl, by omega, by omega, ?_⟩
    rw [Int.toNat_natCast]
    refine ⟨fun i Γ G' => Γ.length = 4 ∧ Γ[0]? = some (some (.ref p)) ∧ Γ[2]? = some (some (.ref q)) ∧ ∃ A', DeskAt CDesk CNet G' p A' (NetS.runs i N) ∧ Fine (NetS.runs i N) ∧ Frm G (deskF p N.k A) G' (deskF p (NetS.runs i N).k A') ∧ G' q = some (.lst ((N.told i).map dAns)) ∧ ¬ deskF p (NetS.runs i N).k A' q ∧ (N.told i).length ≤ 40 * i ∧ ∀ z ∈ N.told i, z.1 ≤ 100000 ∧ okB z.2, ⟨rfl, rfl, rfl, A, DA.move fun b hb => gup_ne fun e => DA.live hb (e ▸ hq), g, Frm.refl.off hq, gup_same, fun hb => DA.live hb hq, Nat.zero_le _, fun z hz => by cases hz⟩, fun _ _ _ _ _ => trivial, ?_, ?_⟩
    · rintro i Γ' G' hi ⟨l, g0, g2, A', D, f, fr, hG, nq, tl40, tlok⟩
      refine ⟨_, tg_name, ?_⟩
      show SB _ _ (Γ'.set 3 (some (.int (i : Nat)))) _ _
      have g0' := sg_ne (j := 3) (v := some (.int (i : Nat))) g0 (by decide)
      have g2' := sg_ne (j := 3) (v := some (.int (i : Nat))) g2 (by decide)
      have l' : (Γ'.set 3 (some (.int (i : Nat)))).length = 4 := by rw [List.length_set]; exact l
      refine b_one <| s_expr <| e_bm PySem.F.plainAttrs_list PySem.F.slot_list_extend PySem.F.type_list_extend <| e_var 2 g2' ⟨.inr (.inl ⟨rfl, _, .ref hG⟩), a_cons <| e_callTy T.lst bt_lst <| a_cons <| e_meth0 NC.cls m2 q2 (hr.mono (by decide)) <| e_fld <| e_var 0 g0' <| .ins D.obj DC.cls DC.na rfl ⟨_, _, rfl, D.net.here .self trivial, rfl, A', NetS.runs i N, .non, [], rfl, .inl ⟨rfl, rfl⟩, Nat.zero_le _, D.net, f.good, fun A2 G2 na gd kk ow => a_nil <| c_lstT .tup <| a_nil ?_⟩⟩
      have e1 : (NetS.runs i N).goOn [] = NetS.runs (i + 1) N := rfl
      have od : OrdOk (NetS.runs (i + 1) N) := goOn_ord f.ord
      rw [e1] at na gd kk ⊢
      obtain ⟨D2, fr2⟩ := D.step na kk ow
      have ql : G' q ≠ none := by rw [hG]; exact fun z => nomatch z
      have hG2 : G2 q = some (.lst ((N.told i).map dAns)) := by rw [fr2.keep q ql nq]; exact hG
      have nq2 : ¬ deskF p (NetS.runs (i + 1) N).k A2 q := fun z => (fr2.foot q z).elim nq ql
      have t40 := tellsI_len gd
      refine m_extend hG2 .lst (by rw [tells_eq, List.length_map, List.length_map]; omega) ⟨l', g0', g2', A2, D2.move fun b hb => gup_ne fun e => nq2 (e ▸ hb), ⟨gd, od⟩, (fr.trans fr2).off hq, ?_, nq2, ?_, ?_⟩
      · rw [gup_same, told_succ, List.map_append, tells_eq]
      · rw [told_succ, List.length_append]; omega
      · intro z hz
        rw [told_succ] at hz
        rcases List.mem_append.mp hz with y | y
        · exact tlok z y
        · exact tellsI_ok gd z y
    · rintro Γ' G' ⟨l, g0, g2, A', D, f, fr, hG, nq, tl40, tlok⟩
      exact b_one <| s_ret <| e_call q3 m3 (hr.mono (by decide)) <| a_cons <| e_var 2 g2 <| a_nil ⟨_, N.told m, rfl, .inl (.ref hG), tlok, by omega, ⟨_, Sub.refl _, k A' G' D f fr⟩⟩
end
end J
namespace J
open PySem PySem.Spec PyProof.Rows L2 TL
def Rw.mvs (r : Rw) : Prop := (∃ k e f vs, r = .net k e f vs) ∨ (∃ a, r = .put a) ∨ (∃ l, r = .beat l) ∨ ∃ m, r = .run m
theorem place_le {k s n : Nat} (hk : k ≤ 4) (h : placeOk k s n) : s ≤ 100000 ∧ n ≤ 100000 := by
  obtain ⟨h1, h2⟩ := h
  have a := p2_le hk
  have b := p2_le (k := k - 1) (by omega)
  refine ⟨by omega, ?_⟩
  split at h2 <;> omega
section
variable {P : Program} {w : World} {K : PySem.W.Frag} {mg : Str → Option Value} {base : Heap} {CNet CDesk CCarried : Addr}
def S_Desk_moved (CNet : Addr) (CDesk : Addr) : AS := fun ds G R => ∃ p A N r, ds = [.ref p, .str (Rw.fst r), .lst ((Rw.rest r).map D.str)] ∧ Rw.mvs r ∧ Rw.ok N r ∧ DeskAt CDesk CNet G p A N ∧ Fine N ∧ ∀ A2 G', DeskAt CDesk CNet G' p A2 (Rw.next N r) → Fine (Rw.next N r) → Frm G (deskF p N.k A) G' (deskF p (Rw.next N r).k A2) → R (.str (Rw.due N r)) G'
theorem sc_Desk_moved : FnScope ["self", "first", "rest", "hand", "box"] ["self", "first", "rest"] (defScope (inClass (top 99) 2)) := ⟨rfl, rfl, rfl, by decide +kernel, rfl, by decide +kernel, by decide +kernel⟩
theorem f_Desk_moved (T : Blt K mg) (NC : NetC K CNet) (DC : DesC K CDesk) (cb : Mn P w K mg base 8 CNet "beat" ["self", "lost"] [] (S_Net_beat CNet)) (dt : DatM K CDesk d_Desk_moved "moved") (c1 : Fn P w K mg base 6 "net_told" ["rest"] [] (S_net_told CNet)) (c2 : Fn P w K mg base 1 "want_row" ["truth"] [] S_want_row) (c3 : Fn P w K mg base 3 "numbers_in" ["some"] [] S_numbers_in) (c4 : Mn P w K mg base 5 CNet "put" ["self", "ask"] [] (S_Net_put CNet)) (c5 : Fn P w K mg base 6 "read_deed" ["text"] [] S_read_deed) (c6 : Fn P w K mg base 1 "answers_shown" ["some"] [] S_answers_shown) (c7 : Fn P w K mg base 4 "lost_told" ["rest"] [] S_lost_told) (c8 : Mn P w K mg base 9 CDesk "run_on" ["self", "many"] [] (S_Desk_run_on CNet CDesk)) (c9 : Fn P w K mg base 2 "number_in" ["word"] [] S_number_in) : Mn P w K mg base 10 CDesk "moved" ["self", "first", "rest"] [] (S_Desk_moved CNet CDesk) := by
  obtain ⟨f, fd, F, hm⟩ := dt
  refine ⟨f, cal_of F sc_Desk_moved (fun ds G R h => ?_) (fun _ _ _ _ _ _ us hl => match us, hl with | [_, _, _], _ => rfl) (fun cdv A outer s H E hr ds G R h => ?_), hm⟩
  · obtain ⟨p, A, N, r, rfl, hr0, ho, DA, g, _⟩ := h
    rfl
  · obtain ⟨p, A, N, r, rfl, hr0, ho, DA, g, k⟩ := h
    obtain ⟨f1, q1, m1⟩ := c1
    obtain ⟨f2, q2, m2⟩ := c2
    obtain ⟨f3, q3, m3⟩ := c3
    obtain ⟨f4, q4, m4⟩ := c4
    obtain ⟨f5, q5, m5⟩ := c5
    obtain ⟨f6, q6, m6⟩ := c6
    obtain ⟨f7, q7, m7⟩ := c7
    obtain ⟨f8, q8, m8⟩ := c8
    obtain ⟨f9, q9, m9⟩ := c9
    obtain ⟨fb, qb, mb⟩ := cb
    have hk4 := g.good.k4
    have hpl : G p ≠ none := by rw [DA.obj]; exact fun z => nomatch z
    rcases hr0 with ⟨k0, e, f, vs, rfl⟩ | ⟨a, rfl⟩ | ⟨l, rfl⟩ | ⟨m, rfl⟩
    · obtain ⟨h1, h2, h3, h4, h5, h6, h7⟩ : k0 ≤ 4 ∧ 1 ≤ e ∧ e ≤ 6 ∧ f ≤ 6 ∧ 1 ≤ vs.length ∧ vs.length ≤ 16 ∧ ∀ v ∈ vs, -MM0 ≤ v ∧ v ≤ MM0 := ho
      refine b_cons <| s_if <| t_cmp <| e_var 1 rfl <| e_str <| o_eqS ⟨_, rfl, ?_⟩
      refine ite_t (by show decide (("net" : Str) = "net") = true; decide +kernel) ?_
      have hv : ∀ v ∈ vs, okB v := fun v hv => by have := h7 v hv; simp only [okB, MM0, BB] at *; omega
      refine b_cons <| s_fld <| e_call q1 m1 (hr.mono (by decide)) <| a_cons <| e_var 2 rfl <| a_nil ⟨k0, e, f, vs, rfl, h1, h2, h3, h4, h5, h6, hv, fun A2 G' NA fr kp => e_var 0 rfl ⟨p, CDesk, _, rfl, (kp p hpl).trans DA.obj, DC.cls, DC.na, Nat.le_of_ble_eq_true rfl, ?_⟩⟩
      have out : ¬ ftN k0 A2 p := fun ⟨s, hs, es⟩ => hpl (es ▸ fr s hs)
      refine b_one <| s_ret <| e_str ⟨_, Sub.refl _, k A2 _ ⟨gup_same, NA.move fun b hb => gup_ne fun z => out (z ▸ hb), out⟩ ⟨fresh_good h1 h3 h4 h5 h6 h7, fun n hn => nomatch hn⟩ ⟨fun b hb hn => ?_, fun b hb => ?_⟩⟩
      · rw [gup_ne fun z => hn (.inr z)]; exact kp b hb
      · rcases hb with ⟨s, hs, es⟩ | rfl
        · exact .inr (es ▸ fr s hs)
        · exact .inl (.inr rfl)
    · obtain ⟨h1, h2, h3, h4⟩ : N.asks.length < 40 ∧ a.ok N.vals.length ∧ a.deed.bd MM0 ∧ a.hand < 2 ^ N.k := ho
      have := p2_lt16 hk4 h4
      have := h2.2.1
      have := g.good.v16
      have ft := bd1_fit h3
      refine b_cons <| s_if <| t_cmp <| e_var 1 rfl <| e_str <| o_eqS ⟨_, rfl, ?_⟩
      refine ite_f (by show decide (("put" : Str) = "net") = false; decide +kernel) <| b_nil ?_
      refine b_cons <| s_if <| t_cmp <| e_var 1 rfl <| e_str <| o_eqS ⟨_, rfl, ?_⟩
      refine ite_t (by show decide (("put" : Str) = "put") = true; decide +kernel) ?_
      have el : ((Rw.put a).rest.map D.str) = .str (num (a.hand : Nat)) :: .str (num (a.box : Nat)) :: (deedW a.deed).map D.str := rfl
      rw [el]
      have hln := List.length_pos_iff.mpr (deedW_ne a.deed)
      refine b_cons <| s_expr <| e_call q2 m2 (hr.mono (by decide)) <| a_cons <| e_cmp <| e_callB T.len bt_len <| a_cons <| e_var 2 rfl <| a_nil <| c_lenL .lst <| e_int <| o_gt <| a_nil ⟨?_, ?_⟩
      · rw [List.length_cons, List.length_cons, List.length_map, decide_eq_true (by omega)]; rfl
      refine b_cons <| s_asg (pg_lst rfl (pgs_cons (pg_name (i := 3) sc_Desk_moved.nd rfl (by first | exact Or.inl rfl | exact Or.inr rfl)) (pgs_cons (pg_name (i := 4) sc_Desk_moved.nd rfl (by first | exact Or.inl rfl | exact Or.inr rfl)) pgs_nil))) <| e_call q3 m3 (hr.mono (by decide)) <| a_cons <| e_slL .none .int <| e_var 2 rfl ⟨_, .lst, ?_⟩
      rw [cut_to2]
      have hn2 : ∀ n ∈ [a.hand, a.box], n ≤ 100000 := fun n hn => by
        rcases List.mem_cons.mp hn with e | e
        · omega
        · rw [List.mem_singleton.mp e]; omega
      refine a_nil ⟨_, [a.hand, a.box], rfl, .lst, hn2, Nat.le_of_ble_eq_true rfl, ⟨_, tg_lst (tgs_cons tg_name (tgs_cons tg_name tgs_nil)), ?_⟩⟩
      show SB _ _ [_, _, _, some (.int (a.hand : Nat)), some (.int (a.box : Nat))] _ _
      refine b_one <| s_ret <| e_callTy T.str bt_str <| a_cons <| e_meth NC.cls m4 q4 (hr.mono (by decide)) <| e_fld <| e_var 0 rfl <| .ins DA.obj DC.cls DC.na rfl ⟨_, _, rfl, DA.net.here .self trivial, rfl, a_cons <| e_tup <| a_cons <| e_var 3 rfl <| a_cons <| e_var 4 rfl <| a_cons <| e_call q5 m5 (hr.mono (by decide)) <| a_cons <| e_join <| e_str ⟨_, rfl, e_slL .int .none <| e_var 2 rfl ⟨_, .lst, ?_⟩⟩⟩
      rw [cut_from2]
      refine ⟨_, .lst, join_size (m := 601) (n := 6) (deedW_len ft) (deedW_cnt _) (by decide) (by decide), a_nil ⟨a.deed, by rw [show Txt.join " " (deedW a.deed) = deedT a.deed from join_jn _]; rfl, h2.2.2, ft, a_nil ⟨Nat.le_of_ble_eq_true rfl, a_nil ⟨A, N, a, rfl, DA.net, g.good, h1, h2, h4, fun G' na ow => a_nil <| c_strI (log_ok (okB_nat (by omega))) ⟨_, Sub.refl _, ?_⟩⟩⟩⟩⟩
      obtain ⟨D2, fr2⟩ := DA.step (N' := N.put a) na rfl ow
      exact k A G' D2 ⟨put_good g.good h1 h2 h3 h4, put_ord g.ord⟩ fr2
    · obtain ⟨hl, hp⟩ : l.length ≤ 10 ∧ ∀ p ∈ l, placeOk N.k p.1 p.2 := ho
      refine b_cons <| s_if <| t_cmp <| e_var 1 rfl <| e_str <| o_eqS ⟨_, rfl, ?_⟩
      refine ite_f (by show decide (("beat" : Str) = "net") = false; decide +kernel) <| b_nil ?_
      refine b_cons <| s_if <| t_cmp <| e_var 1 rfl <| e_str <| o_eqS ⟨_, rfl, ?_⟩
      refine ite_f (by show decide (("beat" : Str) = "put") = false; decide +kernel) <| b_nil ?_
      refine b_cons <| s_if <| t_cmp <| e_var 1 rfl <| e_str <| o_eqS ⟨_, rfl, ?_⟩
      refine ite_t (by show decide (("beat" : Str) = "beat") = true; decide +kernel) ?_
      refine b_one <| s_ret <| e_call q6 m6 (hr.mono (by decide)) <| a_cons <| e_meth NC.cls mb qb (hr.mono (by decide)) <| e_fld <| e_var 0 rfl <| .ins DA.obj DC.cls DC.na rfl ⟨_, _, rfl, DA.net.here .self trivial, rfl, a_cons <| e_call q7 m7 (hr.mono (by decide)) <| a_cons <| e_var 2 rfl <| a_nil ⟨l, rfl, by omega, fun q hq => place_le hk4 (hp q hq), a_nil ⟨A, N, _, l, rfl, .inr ⟨rfl, hp⟩, by omega, DA.net, g.good, fun A2 G2 na gd kk ow => ?_⟩⟩⟩
      obtain ⟨D2, fr2⟩ := DA.step na kk ow
      have t40 := tellsI_len gd
      exact a_nil ⟨_, (N.goOn l).tellsI, rfl, by rw [tells_eq]; exact .inr .tup, tellsI_ok gd, by omega, ⟨_, Sub.refl _, k A2 G2 D2 ⟨gd, goOn_ord g.ord⟩ fr2⟩⟩
    · obtain ⟨h1, h2⟩ : 1 ≤ m ∧ m ≤ 300 := ho
      refine b_cons <| s_if <| t_cmp <| e_var 1 rfl <| e_str <| o_eqS ⟨_, rfl, ?_⟩
      refine ite_f (by show decide (("run" : Str) = "net") = false; decide +kernel) <| b_nil ?_
      refine b_cons <| s_if <| t_cmp <| e_var 1 rfl <| e_str <| o_eqS ⟨_, rfl, ?_⟩
      refine ite_f (by show decide (("run" : Str) = "put") = false; decide +kernel) <| b_nil ?_
      refine b_cons <| s_if <| t_cmp <| e_var 1 rfl <| e_str <| o_eqS ⟨_, rfl, ?_⟩
      refine ite_f (by show decide (("run" : Str) = "beat") = false; decide +kernel) <| b_nil ?_
      refine b_cons <| s_expr <| e_call q2 m2 (hr.mono (by decide)) <| a_cons <| e_cmp <| e_callB T.len bt_len <| a_cons <| e_var 2 rfl <| a_nil <| c_lenL .lst <| e_int <| o_eqI <| a_nil ⟨rfl, ?_⟩
      exact b_one <| s_ret <| e_meth DC.cls m8 q8 (hr.mono (by decide)) <| e_var 0 rfl ⟨_, _, rfl, DA.obj, rfl, a_cons <| e_call q9 m9 (hr.mono (by decide)) <| a_cons <| e_ix <| e_var 2 rfl <| e_int <| i_lst (n := 0) .lst rfl <| a_nil ⟨m, rfl, by omega, a_nil ⟨p, A, N, m, rfl, DA, g, h1, h2, fun A2 G' D2 f2 fr2 => ⟨_, Sub.refl _, k A2 G' D2 f2 fr2⟩⟩⟩⟩
end
end J
namespace J
open PySem PySem.Spec PyProof.Rows L2 TL
theorem cut_from1 {x : D} {r : List D} : cutD (x :: r) (some 1) none = r := by
  show ((x :: r).drop (HT.sIx (r.length + 1) 0 (some ((1 : Nat) : Int)))).take ((r.length + 1) - HT.sIx (r.length + 1) 0 (some ((1 : Nat) : Int))) = _
  rw [HT.sIx_nat, Nat.min_eq_left (by omega)]
  show r.take (r.length + 1 - 1) = r
  exact List.take_of_length_le (by omega)
def wOk (x : Str) : Prop := (tl x ≠ [] ∧ 32 ∉ tl x) ∧ x.length ≤ 602
theorem wOk_num {i : Int} (h : okB i) : wOk (num i) := ⟨⟨(num_word i).1, (wordS_free (num_word i)).1⟩, by have := num_len' h; omega⟩
theorem wOk_wrd {n : Nat} (h : n ≤ 100000) : wOk (wrd n) := wOk_num (okB_nat h)
theorem rw_words {N : NetS} (g : Fine N) {r : Rw} (h : r.ok N) : (∀ x ∈ r.rest, wOk x) ∧ r.rest.length ≤ 100 := by
  have hk4 := g.good.k4
  have h40 := g.good.many
  have h16 := g.good.v16
  cases r with
  | net k e f vs =>
    obtain ⟨h1, h2, h3, h4, h5, h6, h7⟩ : k ≤ 4 ∧ 1 ≤ e ∧ e ≤ 6 ∧ f ≤ 6 ∧ 1 ≤ vs.length ∧ vs.length ≤ 16 ∧ ∀ v ∈ vs, -MM0 ≤ v ∧ v ≤ MM0 := h
    refine ⟨fun x hx => ?_, by show (vs.map num).length + 1 + 1 + 1 ≤ 100; rw [List.length_map]; omega⟩
    have hx : x ∈ wrd k :: wrd e :: wrd f :: vs.map num := hx
    rcases List.mem_cons.mp hx with rfl | hx
    · exact wOk_wrd (by omega)
    rcases List.mem_cons.mp hx with rfl | hx
    · exact wOk_wrd (by omega)
    rcases List.mem_cons.mp hx with rfl | hx
    · exact wOk_wrd (by omega)
    obtain ⟨v, hv, rfl⟩ := List.mem_map.mp hx
    exact wOk_num (by have := h7 v hv; simp only [okB, MM0, BB] at *; omega)
  | put a =>
    obtain ⟨h1, h2, h3, h4⟩ : N.asks.length < 40 ∧ a.ok N.vals.length ∧ a.deed.bd MM0 ∧ a.hand < 2 ^ N.k := h
    have := p2_lt16 hk4 h4
    have := h2.2.1
    have c := askW_cnt a
    refine ⟨fun x hx => ?_, by show (askW a).length ≤ 100; omega⟩
    have q := askW_words a x hx
    exact ⟨⟨q.1, (wordS_free q).1⟩, Nat.le_trans (askW_len (bd1_fit h3) (by omega) (by omega) x hx) (by decide)⟩
  | beat l =>
    obtain ⟨hl, hp⟩ : l.length ≤ 10 ∧ ∀ p ∈ l, placeOk N.k p.1 p.2 := h
    refine ⟨fun x hx => ?_, ?_⟩
    · obtain ⟨y, hy, hx⟩ := List.mem_flatten.mp hx
      obtain ⟨p, hp', rfl⟩ := List.mem_map.mp hy
      have := place_le hk4 (hp p hp')
      simp only [List.mem_cons, List.not_mem_nil, or_false] at hx
      rcases hx with rfl | rfl
      · exact wOk_wrd this.1
      · exact wOk_wrd this.2
    · show ((l.map fun p => [wrd p.1, wrd p.2]).flatten).length ≤ 100
      have : ((l.map fun p => [wrd p.1, wrd p.2]).flatten).length = 2 * l.length := by
        clear hl hp
        induction l with
        | nil => rfl
        | cons p l ih => rw [List.map_cons, List.flatten_cons, List.length_append, ih, List.length_cons, List.length_cons, List.length_cons]; show 0 + 1 + 1 + _ = _; omega
      omega
  | run m =>
    obtain ⟨h1, h2⟩ : 1 ≤ m ∧ m ≤ 300 := h
    refine ⟨fun x hx => ?_, by show 1 ≤ 100; omega⟩
    have hx : x ∈ [wrd m] := hx
    rw [List.mem_singleton.mp hx]; exact wOk_wrd (by omega)
  | board => exact ⟨fun x hx => (by cases hx), Nat.zero_le _⟩
  | log => exact ⟨fun x hx => (by cases hx), Nat.zero_le _⟩
  | todo => exact ⟨fun x hx => (by cases hx), Nat.zero_le _⟩
  | answer n =>
    have h : n < N.asks.length := h
    refine ⟨fun x hx => ?_, by show 1 ≤ 100; omega⟩
    have hx : x ∈ [wrd n] := hx
    rw [List.mem_singleton.mp hx]; exact wOk_wrd (by omega)
  | wait l j =>
    obtain ⟨h1, h2⟩ : l ≤ N.k ∧ j < 2 ^ N.k := h
    have := p2_lt16 hk4 h2
    refine ⟨fun x hx => ?_, by show 2 ≤ 100; omega⟩
    have hx : x ∈ [wrd l, wrd j] := hx
    rcases List.mem_cons.mp hx with rfl | hx
    · exact wOk_wrd (by omega)
    · rw [List.mem_singleton.mp hx]; exact wOk_wrd (by omega)
  | thn xs =>
    obtain ⟨h0, hl, hx⟩ : xs ≠ [] ∧ xs.length ≤ 4 ∧ ∀ x ∈ xs, x.ok ∧ x.bd MM0 := h
    have hc := allW_cnt (m := 6) (xs := xs.map deedW) fun x hx => by obtain ⟨y, _, rfl⟩ := List.mem_map.mp hx; exact deedW_cnt y
    rw [List.length_map] at hc
    have hw : ∀ w ∈ allW (xs.map deedW), w.length ≤ 602 := allW_len (m := 601) fun x hx' w hw => by obtain ⟨y, hy, rfl⟩ := List.mem_map.mp hx'; exact deedW_len (bd1_fit (hx y hy).2) w hw
    exact ⟨fun x hx => ⟨allW_words (fun x hx w hw => by obtain ⟨y, _, rfl⟩ := List.mem_map.mp hx; exact deedW_words y w hw) x hx, hw x hx⟩, by show (allW (xs.map deedW)).length ≤ 100; omega⟩
  | round as =>
    obtain ⟨h0, hl, hx, hn⟩ : as ≠ [] ∧ as.length ≤ 5 ∧ (∀ a ∈ as, a.ok N.vals.length ∧ a.hand < 2 ^ N.k ∧ a.deed.bd MM0) ∧ (as.map Ask.hand).Nodup := h
    have hc := allW_cnt (m := 8) (xs := as.map askW) fun x hx => by obtain ⟨y, _, rfl⟩ := List.mem_map.mp hx; exact askW_cnt y
    rw [List.length_map] at hc
    have hw : ∀ w ∈ allW (as.map askW), w.length ≤ 602 := allW_len (m := 601) fun x hx' w hw => by
      obtain ⟨y, hy, rfl⟩ := List.mem_map.mp hx'
      obtain ⟨z1, z2, z3⟩ := hx y hy
      have := p2_lt16 hk4 z2
      have := z1.2.1
      exact askW_len (bd1_fit z3) (by omega) (by omega) w hw
    exact ⟨fun x hx => ⟨allW_words (fun x hx w hw => by obtain ⟨y, _, rfl⟩ := List.mem_map.mp hx; exact askW_words y w hw) x hx, hw x hx⟩, by show (allW (as.map askW)).length ≤ 100; omega⟩
theorem fst_ok (r : Rw) : wOk r.fst := by
  have q : ∀ s : Str, WordS s → s.length ≤ 602 → wOk s := fun s h hl => ⟨⟨h.1, (wordS_free h).1⟩, hl⟩
  cases r <;> exact q _ (by simp only [Rw.fst]; unfold WordS; decide +kernel) (by simp only [Rw.fst]; decide +kernel)
theorem all_words {N : NetS} (g : Fine N) {r : Rw} (h : r.ok N) : ∀ x ∈ r.fst :: r.rest, wOk x := fun x hx => by
  rcases List.mem_cons.mp hx with rfl | hx
  · exact fst_ok r
  · exact (rw_words g h).1 x hx
theorem text_len {N : NetS} (g : Fine N) {r : Rw} (h : r.ok N) : r.text.length ≤ 16000000 :=
  Nat.le_trans (jn_len (m := 602) (n := 101) (fun y hy => (all_words g h y hy).2) (by rw [List.length_cons]; have := (rw_words g h).2; omega)) (by decide)
theorem text_split {N : NetS} (g : Fine N) {r : Rw} (h : r.ok N) : Txt.split r.text sp = r.fst :: r.rest := split_jn (List.cons_ne_nil _ _) fun x hx => (all_words g h x hx).1.2
theorem Rw.grp (r : Rw) : r.mvs ∨ (r = .board ∨ r = .log ∨ r = .todo) ∨ ((∃ n, r = .answer n) ∨ ∃ l j, r = .wait l j) ∨ ((∃ xs, r = .thn xs) ∨ ∃ as, r = .round as) := by
  unfold Rw.mvs; cases r <;> simp
theorem sub_at {G G' : Gp} (sb : Sub G G') {b : Addr} (h : G b ≠ none) : G' b = G b := by
  cases eb : G b with
  | none => exact absurd eb h
  | some m => exact sb b m eb
section
variable {P : Program} {w : World} {K : PySem.W.Frag} {mg : Str → Option Value} {base : Heap} {CNet CDesk CCarried : Addr}
def S_Desk_say (CNet : Addr) (CDesk : Addr) : AS := fun ds G R => ∃ p A N r, ds = [.ref p, .str (Rw.text r)] ∧ Rw.ok N r ∧ DeskAt CDesk CNet G p A N ∧ Fine N ∧ ∀ A2 G', DeskAt CDesk CNet G' p A2 (Rw.next N r) → Fine (Rw.next N r) → Frm G (deskF p N.k A) G' (deskF p (Rw.next N r).k A2) → R (.str (Rw.due N r)) G'
theorem sc_Desk_say : FnScope ["self", "row", "found", "first", "rest"] ["self", "row"] (defScope (inClass (top 99) 1)) := ⟨rfl, rfl, rfl, by decide +kernel, rfl, by decide +kernel, by decide +kernel⟩
theorem f_Desk_say (T : Blt K mg) (NC : NetC K CNet) (DC : DesC K CDesk) (dt : DatM K CDesk d_Desk_say "say") (c1 : Fn P w K mg base 2 "spoken" ["row"] [] S_spoken) (c2 : Mn P w K mg base 10 CDesk "moved" ["self", "first", "rest"] [] (S_Desk_moved CNet CDesk)) (c3 : Fn P w K mg base 1 "want_row" ["truth"] [] S_want_row) (c4 : Mn P w K mg base 3 CDesk "shown" ["self", "first"] [] (S_Desk_shown CNet CDesk)) (c5 : Mn P w K mg base 7 CDesk "looked" ["self", "first", "rest"] [] (S_Desk_looked CNet CDesk)) (c6 : Mn P w K mg base 9 CDesk "reckoned" ["self", "first", "rest"] [] (S_Desk_reckoned CNet CDesk)) : Mn P w K mg base 11 CDesk "say" ["self", "row"] [] (S_Desk_say CNet CDesk) := by
  obtain ⟨f, fd, F, hm⟩ := dt
  refine ⟨f, cal_of F sc_Desk_say (fun ds G R h => ?_) (fun _ _ _ _ _ _ us hl => match us, hl with | [_, _], _ => rfl) (fun cdv A outer s H E hr ds G R h => ?_), hm⟩
  · obtain ⟨p, A, N, r, rfl, ho, DA, g, _⟩ := h
    rfl
  · obtain ⟨p, A, N, r, rfl, ho, DA, g, k⟩ := h
    obtain ⟨f1, q1, m1⟩ := c1
    obtain ⟨f2, q2, m2⟩ := c2
    obtain ⟨f3, q3, m3⟩ := c3
    obtain ⟨f4, q4, m4⟩ := c4
    obtain ⟨f5, q5, m5⟩ := c5
    obtain ⟨f6, q6, m6⟩ := c6
    refine b_cons <| s_set 2 sc_Desk_say.nd <| e_call q1 m1 (hr.mono (by decide)) <| a_cons <| e_var 1 rfl <| a_nil ⟨_, r.fst :: r.rest, rfl, text_split g ho, fun x hx => (all_words g ho x hx).1.1, text_len g ho, ?_⟩
    refine b_cons <| s_par 3 4 sc_Desk_say.nd <| a_cons <| e_ix <| e_var 2 rfl <| e_int <| i_lst (n := 0) .lst rfl <| a_cons <| e_slL .int .none <| e_var 2 rfl ⟨_, .lst, ?_⟩
    rw [show (r.fst :: r.rest).map D.str = .str r.fst :: r.rest.map D.str from rfl, cut_from1]
    refine a_nil ⟨_, _, rfl, ?_⟩
    refine b_cons <| s_if <| t_cmp <| e_var 3 rfl <| e_tup <| a_cons <| e_str <| a_cons <| e_str <| a_cons <| e_str <| a_cons <| e_str <| a_nil ⟨Nat.le_of_ble_eq_true rfl, o_inF ⟨_, rfl, ?_⟩⟩
    rcases r.grp with hm | hs | hl | hk
    · have e : inV (V.str r.fst) [.str "net", .str "put", .str "beat", .str "run"] = true := by
        rcases hm with ⟨_, _, _, _, rfl⟩ | ⟨_, rfl⟩ | ⟨_, rfl⟩ | ⟨_, rfl⟩ <;> (simp only [Rw.fst]; decide +kernel)
      refine ite_t e ?_
      exact b_one <| s_ret <| e_meth DC.cls m2 q2 (hr.mono (by decide)) <| e_var 0 rfl ⟨_, _, rfl, DA.obj, rfl, a_cons <| e_var 3 rfl <| a_cons <| e_var 4 rfl <| a_nil ⟨p, A, N, r, rfl, hm, ho, DA, g, fun A2 G' D2 f2 fr2 => ⟨_, Sub.refl _, k A2 G' D2 f2 fr2⟩⟩⟩
    · have e : inV (V.str r.fst) [.str "net", .str "put", .str "beat", .str "run"] = false := by
        rcases hs with rfl | rfl | rfl <;> (simp only [Rw.fst]; decide +kernel)
      have e2 : inV (V.str r.fst) [.str "board", .str "log", .str "todo"] = true := by
        rcases hs with rfl | rfl | rfl <;> (simp only [Rw.fst]; decide +kernel)
      have er : r.rest = [] := by rcases hs with rfl | rfl | rfl <;> rfl
      have nx : r.next N = N := by rcases hs with rfl | rfl | rfl <;> rfl
      rw [nx] at k
      refine ite_f e <| b_nil ?_
      refine b_cons <| s_if <| t_cmp <| e_var 3 rfl <| e_tup <| a_cons <| e_str <| a_cons <| e_str <| a_cons <| e_str <| a_nil ⟨Nat.le_of_ble_eq_true rfl, o_inF ⟨_, rfl, ?_⟩⟩
      refine ite_t e2 ?_
      refine b_cons <| s_expr <| e_call q3 m3 (hr.mono (by decide)) <| a_cons <| e_cmp <| e_var 4 rfl <| e_lst <| a_nil ⟨Nat.le_of_ble_eq_true rfl, o_eqNil hr.units .lst <| a_nil ⟨by rw [er]; rfl, ?_⟩⟩
      exact b_one <| s_ret <| e_meth DC.cls m4 q4 (hr.mono (by decide)) <| e_var 0 rfl ⟨_, _, rfl, DA.obj, rfl, a_cons <| e_var 3 rfl <| a_nil ⟨p, A, N, r, rfl, hs, DA, g, ⟨_, Sub.refl _, k A _ DA g Frm.refl⟩⟩⟩
    · have e : inV (V.str r.fst) [.str "net", .str "put", .str "beat", .str "run"] = false := by
        rcases hl with ⟨_, rfl⟩ | ⟨_, _, rfl⟩ <;> (simp only [Rw.fst]; decide +kernel)
      have e2 : inV (V.str r.fst) [.str "board", .str "log", .str "todo"] = false := by
        rcases hl with ⟨_, rfl⟩ | ⟨_, _, rfl⟩ <;> (simp only [Rw.fst]; decide +kernel)
      have e3 : inV (V.str r.fst) [.str "answer", .str "wait"] = true := by
        rcases hl with ⟨_, rfl⟩ | ⟨_, _, rfl⟩ <;> (simp only [Rw.fst]; decide +kernel)
      have nx : r.next N = N := by rcases hl with ⟨_, rfl⟩ | ⟨_, _, rfl⟩ <;> rfl
      rw [nx] at k
      refine ite_f e <| b_nil ?_
      refine b_cons <| s_if <| t_cmp <| e_var 3 rfl <| e_tup <| a_cons <| e_str <| a_cons <| e_str <| a_cons <| e_str <| a_nil ⟨Nat.le_of_ble_eq_true rfl, o_inF ⟨_, rfl, ?_⟩⟩
      refine ite_f e2 <| b_nil ?_
      refine b_cons <| s_if <| t_cmp <| e_var 3 rfl <| e_tup <| a_cons <| e_str <| a_cons <| e_str <| a_nil ⟨Nat.le_of_ble_eq_true rfl, o_inF ⟨_, rfl, ?_⟩⟩
      refine ite_t e3 ?_
      exact b_one <| s_ret <| e_meth DC.cls m5 q5 (hr.mono (by decide)) <| e_var 0 rfl ⟨_, _, rfl, DA.obj, rfl, a_cons <| e_var 3 rfl <| a_cons <| e_var 4 rfl <| a_nil ⟨p, A, N, r, rfl, hl, ho, DA, g, ⟨_, Sub.refl _, k A _ DA g Frm.refl⟩⟩⟩
    · have e : inV (V.str r.fst) [.str "net", .str "put", .str "beat", .str "run"] = false := by
        rcases hk with ⟨_, rfl⟩ | ⟨_, rfl⟩ <;> (simp only [Rw.fst]; decide +kernel)
      have e2 : inV (V.str r.fst) [.str "board", .str "log", .str "todo"] = false := by
        rcases hk with ⟨_, rfl⟩ | ⟨_, rfl⟩ <;> (simp only [Rw.fst]; decide +kernel)
      have e3 : inV (V.str r.fst) [.str "answer", .str "wait"] = false := by
        rcases hk with ⟨_, rfl⟩ | ⟨_, rfl⟩ <;> (simp only [Rw.fst]; decide +kernel)
      have e4 : inV (V.str r.fst) [.str "then", .str "round"] = true := by
        rcases hk with ⟨_, rfl⟩ | ⟨_, rfl⟩ <;> (simp only [Rw.fst]; decide +kernel)
      have nx : r.next N = N := by rcases hk with ⟨_, rfl⟩ | ⟨_, rfl⟩ <;> rfl
      have hne : r.rest ≠ [] := by
        rcases hk with ⟨xs, rfl⟩ | ⟨as, rfl⟩
        · exact allW_ne (fun z => ho.1 (List.map_eq_nil_iff.mp z)) fun x hx => by obtain ⟨y, _, rfl⟩ := List.mem_map.mp hx; exact deedW_ne y
        · exact allW_ne (fun z => ho.1 (List.map_eq_nil_iff.mp z)) fun x hx => by obtain ⟨y, _, rfl⟩ := List.mem_map.mp hx; exact List.cons_ne_nil _ _
      have ene : (r.rest.map D.str).isEmpty = false := by
        cases er : r.rest with
        | nil => exact absurd er hne
        | cons _ _ => rfl
      rw [nx] at k
      refine ite_f e <| b_nil ?_
      refine b_cons <| s_if <| t_cmp <| e_var 3 rfl <| e_tup <| a_cons <| e_str <| a_cons <| e_str <| a_cons <| e_str <| a_nil ⟨Nat.le_of_ble_eq_true rfl, o_inF ⟨_, rfl, ?_⟩⟩
      refine ite_f e2 <| b_nil ?_
      refine b_cons <| s_if <| t_cmp <| e_var 3 rfl <| e_tup <| a_cons <| e_str <| a_cons <| e_str <| a_nil ⟨Nat.le_of_ble_eq_true rfl, o_inF ⟨_, rfl, ?_⟩⟩
      refine ite_f e3 <| b_nil ?_
      refine b_cons <| s_expr <| e_call q3 m3 (hr.mono (by decide)) <| a_cons <| e_and <| e_cmp <| e_var 3 rfl <| e_tup <| a_cons <| e_str <| a_cons <| e_str <| a_nil ⟨Nat.le_of_ble_eq_true rfl, o_inF ⟨_, rfl, ?_⟩⟩
      rw [show inV (V.str r.fst) [.str "then", .str "round"] = true from e4]
      refine iteTT <| e_one <| e_cmp <| e_var 4 rfl <| e_lst <| a_nil ⟨Nat.le_of_ble_eq_true rfl, o_neNil hr.units .lst <| a_nil ⟨by rw [ene]; rfl, ?_⟩⟩
      exact b_one <| s_ret <| e_meth DC.cls m6 q6 (hr.mono (by decide)) <| e_var 0 rfl ⟨_, _, rfl, DA.obj, rfl, a_cons <| e_var 3 rfl <| a_cons <| e_var 4 rfl <| a_nil ⟨p, A, N, r, rfl, hk, ho, DA, g, fun G' sb => ⟨_, Sub.refl _, k A G' (DA.move fun b hb => sub_at sb (DA.live hb)) g (Frm.sub sb)⟩⟩⟩
end
end J
namespace J
open PySem PySem.Spec PyProof.Rows L2 TL
def pot (x y : Int) : MO := .lst [.int x, .int y]
def yOk (y : Int) : Prop := 0 ≤ y ∧ y < 2147483648
def Pot (G : Gp) (q : Addr) : Prop := ∃ x y, G q = some (pot x y) ∧ yOk y
def prm : List Int := [2147483629, 2147483587, 2147483579, 2147483563, 2147483549, 2147483543, 2147483497, 2147483489]
theorem prm_ok {k : Nat} (h : k < 8) : prm[k]? = some (prm.getD k 1) ∧ 1 ≤ prm.getD k 1 ∧ prm.getD k 1 < 2147483648 := by
  have q : ∀ j : Fin 8, prm[j.val]? = some (prm.getD j.val 1) ∧ 1 ≤ prm.getD j.val 1 ∧ prm.getD j.val 1 < 2147483648 := by decide +kernel
  exact q ⟨k, h⟩
theorem fm {i j : Int} (h : 0 < j) : 0 ≤ i.fmod j ∧ i.fmod j < j := ⟨Int.fmod_nonneg_of_pos _ h, Int.fmod_lt_of_pos _ h⟩
section
variable {P : Program} {w : World} {K : PySem.W.Frag} {mg : Str → Option Value} {base : Heap} {CNet CDesk CCarried : Addr}
def S_law_pot : AS := fun ds G R => ∃ (ns : List Int) (k : Nat), ds = [.fls (ns.map D.int), .int (k : Nat)] ∧ ns.length ≤ 1000 ∧ k ≤ 7 ∧ ∀ q x y, G q = none → yOk y → R (.ref q) (gup G q (pot x y))
theorem sc_law_pot : FnScope ["_law_script", "_law_k", "_law_primes", "_law_cell"] ["_law_script", "_law_k"] (defScope (top 101)) := ⟨rfl, rfl, rfl, by decide +kernel, rfl, by decide +kernel, by decide +kernel⟩
theorem f_law_pot (T : Blt K mg) (dt : Dat K mg d_law_pot "_law_pot") : Fn P w K mg base 1 "_law_pot" ["_law_script", "_law_k"] [] S_law_pot := by
  obtain ⟨f, fd, F, hm⟩ := dt
  refine ⟨f, cal_of F sc_law_pot (fun ds G R h => ?_) (fun _ _ _ _ _ _ us hl => match us, hl with | [_, _], _ => rfl) (fun cdv Ar outer s H E hr ds G R h => ?_), hm⟩
  · obtain ⟨ns, k0, rfl, h1, h2, _⟩ := h
    rfl
  · obtain ⟨ns, k0, rfl, h1, h2, k⟩ := h
    have hp := prm_ok (k := k0) (by omega)
    have main : ∀ c : Int, SB (cxOf CX0 P w K mg base ["_law_script", "_law_k", "_law_primes", "_law_cell"] d_law_pot.qual (defScope (top 101)) f cdv Ar outer s H E).nox ((defBody (top 101)).drop 3) [some (.fls (ns.map D.int)), some (.int (k0 : Nat)), some (.lst (prm.map D.int)), some (.int c)] G ⟨fun _ G' => R .non G', fun d G1 => ∃ G2, Sub G2 G1 ∧ R d G2, fun _ _ => False, fun _ _ => False⟩ := fun c => by
      refine b_one <| s_ret <| e_lstM <| a_cons <| e_callB T.max bt_max <| a_cons <| e_int <| a_cons <| e_bin <| e_var 3 rfl <| e_bin <| e_int <| e_int <| o_pow ⟨by decide, by decide, by decide⟩ <| o_sub <| a_nil <| c_max <| a_cons <| e_bin <| e_bin <| e_bin <| e_bin <| e_bin <| e_var 3 rfl <| e_ix <| e_var 2 rfl <| e_bin <| e_var 1 rfl <| e_int <| o_mod (by decide) ?_
      have e8 : ((k0 : Nat) : Int).fmod 8 = (k0 : Nat) := by rw [Int.fmod_eq_emod_of_nonneg _ (by decide)]; omega
      rw [e8]
      have hx : (prm.map D.int)[k0]? = some (.int (prm.getD k0 1)) := by rw [List.getElem?_map, hp.1]; rfl
      have ne : prm.getD k0 1 ≠ 0 := by omega
      generalize prm.getD k0 1 = pr at hp hx ne
      have f1 := fm (i := c) (j := pr) (by omega)
      refine i_lst (x := .int pr) .lst hx <| o_mod ne <| e_bin <| e_int <| e_var 1 rfl <| o_mul (.inl (by decide)) <| o_add <| e_int <| o_add <| e_int <| o_pow ⟨by decide, by decide, by omega⟩ <| e_ix <| e_var 2 rfl <| e_bin <| e_var 1 rfl <| e_int <| o_mod (by decide) ?_
      rw [e8]
      refine i_lst (x := .int pr) .lst hx <| o_mod ne <| a_nil ⟨Nat.le_of_ble_eq_true rfl, fun q hq => ⟨_, Sub.refl _, ?_⟩⟩
      have f2 := fm (i := (c.fmod pr + 7919 * (k0 : Nat) + 5) ^ Int.toNat 3) (j := pr) (by omega)
      exact k q _ _ hq ⟨f2.1, by omega⟩
    refine b_cons <| s_set 2 sc_law_pot.nd <| e_lst <| a_cons <| e_int <| a_cons <| e_int <| a_cons <| e_int <| a_cons <| e_int <| a_cons <| e_int <| a_cons <| e_int <| a_cons <| e_int <| a_cons <| e_int <| a_nil ⟨Nat.le_of_ble_eq_true rfl, ?_⟩
    refine b_cons <| s_set 3 sc_law_pot.nd <| e_int ?_
    refine b_cons <| s_if <| t_cmp <| e_var 1 rfl <| e_callB T.len bt_len <| a_cons <| e_var 0 rfl <| a_nil <| c_lenF <| o_lt ⟨_, rfl, ?_⟩
    rw [List.length_map]
    by_cases h : k0 < ns.length
    · refine ite_t (decide_eq_true (by omega)) <| b_one <| s_set 3 sc_law_pot.nd <| e_ix <| e_var 0 rfl <| e_var 1 rfl <| i_fls (x := .int ns[k0]) (by rw [List.getElem?_map, List.getElem?_eq_getElem h]; rfl) ?_
      exact main _
    · refine ite_f (decide_eq_false (by omega)) <| b_nil ?_
      exact main 0
def S_law_draw : AS := fun ds G R => ∃ q x y, ∃ n : Nat, ds = [.ref q, .int (n : Nat)] ∧ 0 < n ∧ n ≤ 1000000 ∧ G q = some (pot x y) ∧ yOk y ∧ ∀ (r : Nat) x' y', r < n → yOk y' → R (.int (r : Nat)) (gup G q (pot x' y'))
theorem sc_law_draw : FnScope ["_law_pot_here", "_law_many", "_law_digit"] ["_law_pot_here", "_law_many"] (defScope (top 102)) := ⟨rfl, rfl, rfl, by decide +kernel, rfl, by decide +kernel, by decide +kernel⟩
theorem f_law_draw (T : Blt K mg) (dt : Dat K mg d_law_draw "_law_draw") : Fn P w K mg base 1 "_law_draw" ["_law_pot_here", "_law_many"] [] S_law_draw := by
  obtain ⟨f, fd, F, hm⟩ := dt
  refine ⟨f, cal_of F sc_law_draw (fun ds G R h => ?_) (fun _ _ _ _ _ _ us hl => match us, hl with | [_, _], _ => rfl) (fun cdv Ar outer s H E hr ds G R h => ?_), hm⟩
  · obtain ⟨q, x, y, n, rfl, h1, h2, hq, hy, _⟩ := h
    rfl
  · obtain ⟨q, x, y, n, rfl, h1, h2, hq, hy, k⟩ := h
    have nz : ((n : Nat) : Int) ≠ 0 := by omega
    refine b_cons <| s_if <| t_cmp <| e_ix <| e_var 0 rfl <| e_int <| i_lst (n := 0) (.ref hq) rfl <| e_int <| o_gt ⟨_, rfl, ?_⟩
    by_cases hx : 0 < x
    · refine ite_t (decide_eq_true hx) ?_
      have f := fm (i := x) (j := (n : Nat)) (by omega)
      refine b_cons <| s_set 2 sc_law_draw.nd <| e_bin <| e_ix <| e_var 0 rfl <| e_int <| i_lst (n := 0) (.ref hq) rfl <| e_var 1 rfl <| o_mod nz ?_
      refine b_cons <| s_sub <| e_bin <| e_ix <| e_var 0 rfl <| e_int <| i_lst (n := 0) (.ref hq) rfl <| e_var 1 rfl <| o_fdiv ⟨nz, by omega⟩ <| e_var 0 rfl <| e_int ⟨q, _, 0, rfl, rfl, hq, by show 0 < 2; decide, ?_⟩
      refine b_one <| s_ret <| e_var 2 rfl ⟨_, Sub.refl _, ?_⟩
      obtain ⟨r, hr⟩ : ∃ r : Nat, x.fmod (n : Nat) = (r : Nat) := ⟨(x.fmod (n : Nat)).toNat, by omega⟩
      rw [hr]
      exact k r (x.fdiv (n : Nat)) y (by omega) hy
    · refine ite_f (decide_eq_false hx) <| b_nil ?_
      obtain ⟨y1, y2⟩ := hy
      refine b_cons <| s_sub <| e_bin <| e_bin <| e_bin <| e_ix <| e_var 0 rfl <| e_int <| i_lst (n := 1) (.ref hq) rfl <| e_int <| o_mul (.inr (by decide)) <| e_int <| o_add <| e_int <| o_mod (by decide) <| e_var 0 rfl <| e_int ⟨q, _, 1, rfl, rfl, hq, by show 1 < 2; decide, ?_⟩
      have f := fm (i := y * 39373 + 7919) (j := 2147483629) (by decide)
      generalize (y * 39373 + 7919).fmod 2147483629 = z at f
      refine b_one <| s_ret <| e_bin <| e_bin <| e_bin <| e_bin <| e_ix <| e_var 0 rfl <| e_int <| i_lst (n := 1) (.ref gup_same) rfl <| e_ix <| e_var 0 rfl <| e_int <| i_lst (n := 1) (.ref gup_same) rfl <| o_mul (.inl (by omega)) <| e_int <| o_mod (by decide) <| e_int <| o_fdiv ⟨by decide, by decide⟩ <| e_var 1 rfl <| o_mod nz ⟨_, Sub.refl _, ?_⟩
      have g := fm (i := ((z * z).fmod 2147483563).fdiv 11) (j := (n : Nat)) (by omega)
      obtain ⟨r, hr⟩ : ∃ r : Nat, (((z * z).fmod 2147483563).fdiv 11).fmod (n : Nat) = (r : Nat) := ⟨((((z * z).fmod 2147483563).fdiv 11).fmod (n : Nat)).toNat, by omega⟩
      rw [hr]
      exact k r x z (by omega) ⟨f.1, by omega⟩
def far4 : Nat → Nat
  | 0 => 3
  | 1 => 19
  | 2 => 19
  | _ => 199
def low4 : Nat → Nat
  | 0 => 1
  | 1 => 9
  | 2 => 9
  | _ => 99
theorem far4_ok (n : Nat) : 0 < far4 n ∧ far4 n ≤ 199 ∧ low4 n ≤ 99 := by
  unfold far4 low4; split <;> omega
theorem far4_at {c : Nat} (h : c < 4) : [D.int 3, D.int 19, D.int 19, D.int 199][c]? = some (.int (far4 c : Nat)) ∧ [D.int 1, D.int 9, D.int 9, D.int 99][c]? = some (.int (low4 c : Nat)) := by
  rcases (by omega : c = 0 ∨ c = 1 ∨ c = 2 ∨ c = 3) with rfl | rfl | rfl | rfl <;> exact ⟨rfl, rfl⟩
def S_law_number : AS := fun ds G R => ∃ q x y, ds = [.ref q] ∧ G q = some (pot x y) ∧ yOk y ∧ ∀ (v : Int) x' y', -MM0 ≤ v → v ≤ MM0 → yOk y' → R (.int v) (gup G q (pot x' y'))
theorem sc_law_number : FnScope ["_law_pot_here", "_law_choice", "_law_far", "_law_k"] ["_law_pot_here"] (defScope (top 103)) := ⟨rfl, rfl, rfl, by decide +kernel, rfl, by decide +kernel, by decide +kernel⟩
theorem f_law_number (T : Blt K mg) (dt : Dat K mg d_law_number "_law_number") (c1 : Fn P w K mg base 1 "_law_draw" ["_law_pot_here", "_law_many"] [] S_law_draw) : Fn P w K mg base 2 "_law_number" ["_law_pot_here"] [] S_law_number := by
  obtain ⟨f, fd, F, hm⟩ := dt
  refine ⟨f, cal_of F sc_law_number (fun ds G R h => ?_) (fun _ _ _ _ _ _ us hl => match us, hl with | [_], _ => rfl) (fun cdv Ar outer s H E hr ds G R h => ?_), hm⟩
  · obtain ⟨q, x, y, rfl, hq, hy, _⟩ := h
    rfl
  · obtain ⟨q, x, y, rfl, hq, hy, k⟩ := h
    obtain ⟨f1, q1, m1⟩ := c1
    refine b_cons <| s_set 1 sc_law_number.nd <| e_call q1 m1 (hr.mono (by decide)) <| a_cons <| e_var 0 rfl <| a_cons <| e_int <| a_nil ⟨q, x, y, 5, rfl, by decide, by decide, hq, hy, fun r x1 y1 hr1 hy1 => ?_⟩
    refine b_cons <| s_if <| t_cmp <| e_var 1 rfl <| e_int <| o_eqI ⟨_, rfl, ?_⟩
    by_cases h0 : r = 0
    · subst h0
      refine ite_t (by decide) ?_
      refine b_cons <| s_set 2 sc_law_number.nd <| e_int ?_
      refine b_cons <| s_for (pg_name (i := 3) sc_law_number.nd rfl (by first | exact Or.inl rfl | exact Or.inr rfl)) PassesOwn.never <| n_range1 T.rng <| e_int ⟨_, rfl, by decide, by decide, ?_⟩
      refine ⟨fun i Γ G' => Γ.length = 4 ∧ Γ[0]? = some (some (.ref q)) ∧ ∃ (v : Int) (x2 y2 : Int), Γ[2]? = some (some (.int v)) ∧ 0 ≤ v ∧ v < (10 : Int) ^ (6 * i) ∧ yOk y2 ∧ G' = gup G q (pot x2 y2), ⟨rfl, rfl, 0, x1, y1, rfl, by decide, by decide, hy1, rfl⟩, fun _ _ _ _ _ => trivial, ?_, ?_⟩
      · rintro i Γ' G' hi ⟨l, g0, v, x2, y2, g2, v0, v1, hy2, rfl⟩
        refine ⟨_, tg_name, ?_⟩
        show SB _ _ (Γ'.set 3 (some (.int (i : Nat)))) _ _
        have g0' := sg_ne (j := 3) (v := some (.int (i : Nat))) g0 (by decide)
        have g2' := sg_ne (j := 3) (v := some (.int (i : Nat))) g2 (by decide)
        have l' : (Γ'.set 3 (some (.int (i : Nat)))).length = 4 := by rw [List.length_set]; exact l
        generalize Γ'.set 3 (some (.int (i : Nat))) = Γ1 at g0' g2' l'
        have e6 : (10 : Int) ^ Int.toNat 6 = 1000000 := by decide
        refine b_one <| s_set 2 sc_law_number.nd <| e_bin <| e_bin <| e_var 2 g2' <| e_bin <| e_int <| e_int <| o_pow ⟨by decide, by decide, by decide⟩ ?_
        rw [e6]
        refine o_mul (.inr (by decide)) <| e_call q1 m1 (hr.mono (by decide)) <| a_cons <| e_var 0 g0' <| a_cons <| e_bin <| e_int <| e_int <| o_pow ⟨by decide, by decide, by decide⟩ ?_
        rw [e6]
        refine a_nil ⟨q, x2, y2, 1000000, rfl, by decide, by decide, gup_same, hy2, fun r2 x3 y3 hr3 hy3 => o_add ⟨by rw [List.length_set]; exact l', sg_ne g0' (by decide), v * 1000000 + (r2 : Nat), x3, y3, sg_eq (by rw [l']; decide), by omega, ?_, hy3, gup_gup⟩⟩
        rw [show 6 * (i + 1) = 6 * i + 6 by omega, Int.pow_add, show (10 : Int) ^ 6 = 1000000 from by decide]
        omega
      · rintro Γ' G' ⟨l, g0, v, x2, y2, g2, v0, v1, hy2, rfl⟩
        have v1 : v < 1000000000000000000000000000000 := v1
        refine b_one <| s_ret <| e_bin <| e_var 2 g2 <| e_bin <| e_int <| e_bin <| e_int <| e_call q1 m1 (hr.mono (by decide)) <| a_cons <| e_var 0 g0 <| a_cons <| e_int <| a_nil ⟨q, x2, y2, 2, rfl, by decide, by decide, gup_same, hy2, fun r2 x3 y3 hr3 hy3 => ?_⟩
        rw [gup_gup]
        refine o_mul (.inl (by decide)) <| o_sub <| o_mul (.inr (by omega)) ⟨_, Sub.refl _, ?_⟩
        rcases (by omega : r2 = 0 ∨ r2 = 1) with rfl | rfl
        · rw [show v * (1 - 2 * ((0 : Nat) : Int)) = v by omega]
          exact k v x3 y3 (by simp only [MM0]; omega) (by simp only [MM0]; omega) hy3
        · rw [show v * (1 - 2 * ((1 : Nat) : Int)) = -v by omega]
          exact k (-v) x3 y3 (by simp only [MM0]; omega) (by simp only [MM0]; omega) hy3
    · refine ite_f (decide_eq_false (by omega)) <| b_nil ?_
      have e1 : ((r : Nat) : Int) - 1 = ((r - 1 : Nat) : Int) := by omega
      have h4 := far4_at (c := r - 1) (by omega)
      have h5 := far4_ok (r - 1)
      refine b_one <| s_ret <| e_bin <| e_call q1 m1 (hr.mono (by decide)) <| a_cons <| e_var 0 rfl <| a_cons <| e_ix <| e_lst <| a_cons <| e_int <| a_cons <| e_int <| a_cons <| e_int <| a_cons <| e_int <| a_nil ⟨Nat.le_of_ble_eq_true rfl, e_bin <| e_var 1 rfl <| e_int <| o_sub ?_⟩
      rw [e1]
      refine i_lst (x := .int (far4 (r - 1) : Nat)) .lst h4.1 <| a_nil ⟨q, x1, y1, far4 (r - 1), rfl, h5.1, by omega, gup_same, hy1, fun r2 x3 y3 hr3 hy3 => ?_⟩
      rw [gup_gup]
      refine e_ix <| e_lst <| a_cons <| e_int <| a_cons <| e_int <| a_cons <| e_int <| a_cons <| e_int <| a_nil ⟨Nat.le_of_ble_eq_true rfl, e_bin <| e_var 1 rfl <| e_int <| o_sub ?_⟩
      rw [e1]
      refine i_lst (x := .int (low4 (r - 1) : Nat)) .lst h4.2 <| o_sub ⟨_, Sub.refl _, k _ x3 y3 ?_ ?_ hy3⟩ <;> simp only [MM0] <;> omega
def S_law_deed : AS := fun ds G R => ∃ q x y, ds = [.ref q] ∧ G q = some (pot x y) ∧ yOk y ∧ ∀ (z : Deed) x' y', z.ok → z.bd MM0 → yOk y' → R (dDeed z) (gup G q (pot x' y'))
theorem sc_law_deed : FnScope ["_law_pot_here", "_law_choice", "_law_add", "_law_one", "_law_other"] ["_law_pot_here"] (defScope (top 104)) := ⟨rfl, rfl, rfl, by decide +kernel, rfl, by decide +kernel, by decide +kernel⟩
theorem f_law_deed (T : Blt K mg) (dt : Dat K mg d_law_deed "_law_deed") (c1 : Fn P w K mg base 1 "_law_draw" ["_law_pot_here", "_law_many"] [] S_law_draw) (c2 : Fn P w K mg base 2 "_law_number" ["_law_pot_here"] [] S_law_number) : Fn P w K mg base 3 "_law_deed" ["_law_pot_here"] [] S_law_deed := by
  obtain ⟨f, fd, F, hm⟩ := dt
  refine ⟨f, cal_of F sc_law_deed (fun ds G R h => ?_) (fun _ _ _ _ _ _ us hl => match us, hl with | [_], _ => rfl) (fun cdv Ar outer s H E hr ds G R h => ?_), hm⟩
  · obtain ⟨q, x, y, rfl, hq, hy, _⟩ := h
    rfl
  · obtain ⟨q, x, y, rfl, hq, hy, k⟩ := h
    obtain ⟨f1, q1, m1⟩ := c1
    obtain ⟨f2, q2, m2⟩ := c2
    refine b_cons <| s_set 1 sc_law_deed.nd <| e_call q1 m1 (hr.mono (by decide)) <| a_cons <| e_var 0 rfl <| a_cons <| e_int <| a_nil ⟨q, x, y, 6, rfl, by decide, by decide, hq, hy, fun r x1 y1 hr1 hy1 => ?_⟩
    refine b_cons <| s_set 2 sc_law_deed.nd <| e_call q2 m2 (hr.mono (by decide)) <| a_cons <| e_var 0 rfl <| a_nil ⟨q, _, _, rfl, gup_same, hy1, fun v1 x2 y2 a1 a2 hy2 => ?_⟩
    rw [gup_gup]
    refine b_cons <| s_set 3 sc_law_deed.nd <| e_call q2 m2 (hr.mono (by decide)) <| a_cons <| e_var 0 rfl <| a_nil ⟨q, _, _, rfl, gup_same, hy2, fun v2 x3 y3 b1 b2 hy3 => ?_⟩
    rw [gup_gup]
    refine b_cons <| s_set 4 sc_law_deed.nd <| e_call q2 m2 (hr.mono (by decide)) <| a_cons <| e_var 0 rfl <| a_nil ⟨q, _, _, rfl, gup_same, hy3, fun v3 x4 y4 c1 c2 hy4 => ?_⟩
    rw [gup_gup]
    refine b_cons <| s_if <| t_cmp <| e_var 1 rfl <| e_int <| o_lt ⟨_, rfl, ?_⟩
    by_cases h0 : r < 2
    · refine ite_t (decide_eq_true (by omega)) ?_
      refine b_one <| s_ret <| e_tup <| a_cons <| e_bin <| e_var 2 rfl <| e_var 1 rfl <| o_mul (.inr (by omega)) <| a_cons <| e_non <| a_cons <| e_non <| a_nil ⟨Nat.le_of_ble_eq_true rfl, ⟨_, Sub.refl _, k ⟨v1 * (r : Nat), none, none⟩ x4 y4 (by unfold Deed.ok; trivial) ⟨?_, ?_, (fun _ h => nomatch h), (fun _ h => nomatch h)⟩ hy4⟩⟩
      · rcases (by omega : r = 0 ∨ r = 1) with rfl | rfl
        · show _ ≤ v1 * ((0 : Nat) : Int); simp only [MM0] at *; omega
        · show _ ≤ v1 * ((1 : Nat) : Int); simp only [MM0] at *; omega
      · rcases (by omega : r = 0 ∨ r = 1) with rfl | rfl
        · show v1 * ((0 : Nat) : Int) ≤ _; simp only [MM0] at *; omega
        · show v1 * ((1 : Nat) : Int) ≤ _; simp only [MM0] at *; omega
    refine ite_f (decide_eq_false (by omega)) <| b_nil ?_
    have sv : ∀ {v : Int}, -MM0 ≤ v → v ≤ MM0 → ∀ l, some v = some l → -MM0 ≤ l ∧ l ≤ MM0 := fun a b l e => by cases e; exact ⟨a, b⟩
    refine b_cons <| s_if <| t_w <| w_or <| t_cmp <| e_var 1 rfl <| e_int <| o_eqI ⟨_, rfl, ?_⟩
    by_cases h2 : r = 2
    · subst h2
      refine ite_t (by decide) <| ite_t rfl ?_
      exact b_one <| s_ret <| e_tup <| a_cons <| e_int <| a_cons <| e_var 3 rfl <| a_cons <| e_var 3 rfl <| a_nil ⟨Nat.le_of_ble_eq_true rfl, ⟨_, Sub.refl _, k ⟨0, some v2, some v2⟩ x4 y4 (.inr ⟨rfl, rfl⟩) ⟨by show -MM0 ≤ 0; decide, by show 0 ≤ MM0; decide, sv b1 b2, sv b1 b2⟩ hy4⟩⟩
    refine ite_f (decide_eq_false (by omega)) <| w_or1 <| t_cmp <| e_var 3 rfl <| e_var 4 rfl <| o_eqI ⟨_, rfl, ?_⟩
    by_cases h3 : v2 = v3
    · refine ite_t (decide_eq_true h3) ?_
      exact b_one <| s_ret <| e_tup <| a_cons <| e_int <| a_cons <| e_var 3 rfl <| a_cons <| e_var 3 rfl <| a_nil ⟨Nat.le_of_ble_eq_true rfl, ⟨_, Sub.refl _, k ⟨0, some v2, some v2⟩ x4 y4 (.inr ⟨rfl, rfl⟩) ⟨by show -MM0 ≤ 0; decide, by show 0 ≤ MM0; decide, sv b1 b2, sv b1 b2⟩ hy4⟩⟩
    refine ite_f (decide_eq_false h3) <| b_nil ?_
    refine b_cons <| s_if <| t_cmp <| e_var 1 rfl <| e_int <| o_eqI ⟨_, rfl, ?_⟩
    by_cases h4 : r = 3
    · subst h4
      exact ite_t (by decide) <| b_one <| s_ret <| e_tup <| a_cons <| e_var 2 rfl <| a_cons <| e_var 3 rfl <| a_cons <| e_non <| a_nil ⟨Nat.le_of_ble_eq_true rfl, ⟨_, Sub.refl _, k ⟨v1, some v2, none⟩ x4 y4 trivial ⟨a1, a2, sv b1 b2, (fun _ h => nomatch h)⟩ hy4⟩⟩
    refine ite_f (decide_eq_false (by omega)) <| b_nil ?_
    refine b_cons <| s_if <| t_cmp <| e_var 1 rfl <| e_int <| o_eqI ⟨_, rfl, ?_⟩
    by_cases h5 : r = 4
    · subst h5
      exact ite_t (by decide) <| b_one <| s_ret <| e_tup <| a_cons <| e_var 2 rfl <| a_cons <| e_non <| a_cons <| e_var 3 rfl <| a_nil ⟨Nat.le_of_ble_eq_true rfl, ⟨_, Sub.refl _, k ⟨v1, none, some v2⟩ x4 y4 trivial ⟨a1, a2, (fun _ h => nomatch h), sv b1 b2⟩ hy4⟩⟩
    refine ite_f (decide_eq_false (by omega)) <| b_nil ?_
    refine b_one <| s_ret <| e_tup <| a_cons <| e_var 2 rfl <| a_cons <| e_callB T.min bt_min <| a_cons <| e_var 3 rfl <| a_cons <| e_var 4 rfl <| a_nil <| c_min <| a_cons <| e_callB T.max bt_max <| a_cons <| e_var 3 rfl <| a_cons <| e_var 4 rfl <| a_nil <| c_max <| a_nil ⟨Nat.le_of_ble_eq_true rfl, ⟨_, Sub.refl _, k ⟨v1, some (if v3 < v2 then v3 else v2), some (if v3 > v2 then v3 else v2)⟩ x4 y4 (.inl ?_) ⟨a1, a2, sv ?_ ?_, sv ?_ ?_⟩ hy4⟩⟩ <;> (split <;> (try split) <;> omega)
end
end J
namespace J
open PySem PySem.Spec PyProof.Rows L2 TL
def ownF (q o : Addr) (k : Nat) (A : Slot → Addr) (b : Addr) : Prop := ftN k A b ∨ b = o ∨ b = q
def RowS (CNet : Addr) : AS := fun ds G R => ∃ q o A N, ds = [.ref q, .ref o] ∧ Pot G q ∧ OwnAt CNet G o A N ∧ Fine N ∧ q ≠ o ∧ ¬ ftN N.k A q ∧
  ∀ r A2 G', Rw.ok N r → Pot G' q → OwnAt CNet G' o A2 (Rw.next N r) → Fine (Rw.next N r) → ¬ ftN (Rw.next N r).k A2 q → Frm G (ownF q o N.k A) G' (ownF q o (Rw.next N r).k A2) → R (.tup [.str (Rw.text r), .str (Rw.due N r)]) G'
theorem own_step {CN : Addr} {G G' : Gp} {q o : Addr} {A A2 : Slot → Addr} {N N' : NetS} (ho : G o = some (.lst [.ref (A .self), .int (N'.k : Nat), .int (N'.vals.length : Nat), .int (N'.asks.length : Nat)])) (oo : ¬ ftN N.k A o) (hq : G q ≠ none) (oq : ¬ ftN N.k A q)
    (na : NetAt CN G' A2 N') (kk : N'.k = N.k) (ow : Own N.k G A G' A2) : OwnAt CN G' o A2 N' ∧ ¬ ftN N'.k A2 q ∧ G' q = G q ∧ Frm G (ownF q o N.k A) G' (ownF q o N'.k A2) := by
  have live : G o ≠ none := by rw [ho]; exact fun z => nomatch z
  have st : ∀ b, G b ≠ none → ¬ ftN N.k A b → G' b = G b ∧ ¬ ftN N'.k A2 b := fun b hb hn => ⟨ow.frame b hb fun s hs e => hn ⟨s, hs, e.symm⟩, fun ⟨s, hs, e⟩ => by
    rcases ow.new s (kk ▸ hs) with ⟨t, ht, z⟩ | z
    · exact hn ⟨t, ht, z ▸ e⟩
    · rw [e] at z; exact hb z⟩
  refine ⟨⟨by rw [(st o live oo).1, ho, ow.self], na, (st o live oo).2⟩, (st q hq oq).2, (st q hq oq).1, by rw [kk]; exact ow.frm.or⟩
theorem OwnAt.move {CN : Addr} {G G' : Gp} {o : Addr} {A : Slot → Addr} {N : NetS} (O : OwnAt CN G o A N) (k : ∀ b, ftN N.k A b ∨ b = o → G' b = G b) : OwnAt CN G' o A N :=
  ⟨by rw [k o (.inr rfl)]; exact O.obj, O.net.move fun b h => k b (.inl h), O.out⟩
theorem OwnAt.live {CN : Addr} {G : Gp} {o : Addr} {A : Slot → Addr} {N : NetS} (O : OwnAt CN G o A N) {b : Addr} (h : ftN N.k A b ∨ b = o) : G b ≠ none := by
  rcases h with h | rfl
  · exact O.net.live h
  · rw [O.obj]; exact fun z => nomatch z
/-- only the pot, and what is fresh, is touched -/
theorem frm_pot {G G' : Gp} {q o : Addr} {k : Nat} {A : Slot → Addr} (h : ∀ b, G b ≠ none → b ≠ q → G' b = G b) : Frm G (ownF q o k A) G' (ownF q o k A) :=
  ⟨fun b hb hn => h b hb fun z => hn (.inr (.inr z)), fun _ z => .inl z⟩
theorem own_pot {CN : Addr} {G G' : Gp} {q o : Addr} {A : Slot → Addr} {N : NetS} (O : OwnAt CN G o A N) (n : q ≠ o) (f : ¬ ftN N.k A q) (h : ∀ b, G b ≠ none → b ≠ q → G' b = G b) : OwnAt CN G' o A N :=
  O.move fun b hb => h b (O.live hb) fun z => by subst z; rcases hb with hb | hb; exact f hb; exact n hb
theorem put_text (a : Ask) : "put " ++ num (a.hand : Nat) ++ " " ++ num (a.box : Nat) ++ " " ++ deedT a.deed = (Rw.put a).text := by
  show _ = jn ("put" :: num (a.hand : Nat) :: num (a.box : Nat) :: deedW a.deed)
  cases e : deedW a.deed with
  | nil => exact absurd e (deedW_ne _)
  | cons y s =>
    unfold deedT
    rw [e, jn_cons, jn_cons, jn_cons, show ("put " : Str) = "put" ++ sp from by decide +kernel]
    simp only [sapp_assoc]
    rfl
theorem net_text (k r e : Nat) (vs : List Int) : "net " ++ numsT ([(k : Int), (r : Int), (e : Int)] ++ vs) = (Rw.net k r e vs).text := by
  show _ = jn ("net" :: num (k : Nat) :: num (r : Nat) :: num (e : Nat) :: vs.map num)
  rw [jn_cons, show ("net " : Str) = "net" ++ sp from by decide +kernel]
  rfl
theorem run_text (m : Nat) : "run " ++ num (m : Nat) = (Rw.run m).text := by
  show _ = jn ["run", num (m : Nat)]
  rw [jn_cons, show ("run " : Str) = "run" ++ sp from by decide +kernel]
  rfl
theorem lost_text (l : List (Nat × Nat)) : Txt.join " " ("beat" :: l.map fun p => num (p.1 : Nat) ++ " " ++ num (p.2 : Nat)) = (Rw.beat l).text := by
  show Txt.join sp _ = jn ("beat" :: (l.map fun p => [wrd p.1, wrd p.2]).flatten)
  rw [join_jn]
  have := jn_flat (xs := ["beat"] :: l.map fun p => [wrd p.1, wrd p.2]) (by
    intro x hx
    rcases List.mem_cons.mp hx with rfl | hx
    · exact List.cons_ne_nil _ _
    · obtain ⟨p, _, rfl⟩ := List.mem_map.mp hx; exact List.cons_ne_nil _ _)
  rw [List.map_cons, List.map_map] at this
  exact this
def far3 : Nat → Nat
  | 0 => 3
  | 1 => 3
  | _ => 16
theorem far3_at {c : Nat} (h : c < 3) : [D.int 3, D.int 3, D.int 16][c]? = some (.int (far3 c : Nat)) ∧ 0 < far3 c ∧ far3 c ≤ 16 := by
  rcases (by omega : c = 0 ∨ c = 1 ∨ c = 2) with rfl | rfl | rfl <;> exact ⟨rfl, by decide, by decide⟩
def NetR (CNet : Addr) : AS := fun ds G R => ∃ q o os, ds = [.ref q, .ref o] ∧ Pot G q ∧ G o = some (.lst os) ∧ q ≠ o ∧
  ∀ kk r e vs A2 G', (kk ≤ 4 ∧ 1 ≤ r ∧ r ≤ 6 ∧ e ≤ 6 ∧ 1 ≤ vs.length ∧ vs.length ≤ 16 ∧ ∀ v ∈ vs, -MM0 ≤ v ∧ v ≤ MM0) → Pot G' q → OwnAt CNet G' o A2 (NetS.fresh kk r e vs) → (∀ b, ftN kk A2 b → G b = none) → (∀ b, G b ≠ none → b ≠ q → b ≠ o → G' b = G b) → R (.tup [.str (Rw.net kk r e vs).text, .str "ok"]) G'
theorem la {a b : Str} {m n : Nat} (ha : a.length ≤ m) (hb : b.length ≤ n) : (a ++ b).length ≤ m + n := by rw [Str.length_append]; omega
theorem ok2 {a b : Str} {m n : Nat} (ha : a.length ≤ m) (hb : b.length ≤ n) (h : m + n ≤ 100000 := by decide) : a.length + b.length ≤ sizeLine := sz16 (by omega)
section
variable {P : Program} {w : World} {K : PySem.W.Frag} {mg : Str → Option Value} {base : Heap} {CNet CDesk CCarried : Addr}
def S_law_new_net (CNet : Addr) : AS := fun ds G R => NetR CNet ds G R
theorem sc_law_new_net : FnScope ["_law_pot_here", "_law_own", "_law_k", "_law_room", "_law_kept", "_law_values", "_law_box"] ["_law_pot_here", "_law_own"] (defScope (top 111)) := ⟨rfl, rfl, rfl, by decide +kernel, rfl, by decide +kernel, by decide +kernel⟩
theorem f_law_new_net (T : Blt K mg) (MN : mg "Net" = some (.ref CNet)) (dt : Dat K mg d_law_new_net "_law_new_net") (c1 : Fn P w K mg base 1 "_law_draw" ["_law_pot_here", "_law_many"] [] S_law_draw) (c2 : Fn P w K mg base 2 "_law_number" ["_law_pot_here"] [] S_law_number) (c3 : Kn P w K mg base 4 CNet ["self", "k", "board", "room", "kept"] [] (S_Net_init CNet)) (c4 : Fn P w K mg base 1 "_law_numbers_text" ["_law_numbers"] [] S_law_numbers_text) : Fn P w K mg base 6 "_law_new_net" ["_law_pot_here", "_law_own"] [] (S_law_new_net CNet) := by
  obtain ⟨f, fd, F, hm⟩ := dt
  refine ⟨f, cal_of F sc_law_new_net (fun ds G R h => ?_) (fun _ _ _ _ _ _ us hl => match us, hl with | [_, _], _ => rfl) (fun cdv Ar outer s H E hr ds G R h => ?_), hm⟩
  · obtain ⟨q, o, os, rfl, ⟨x, y, hq, hy⟩, ho, nqo, _⟩ := h
    rfl
  · obtain ⟨q, o, os, rfl, ⟨x, y, hq, hy⟩, ho, nqo, k⟩ := h
    obtain ⟨f1, q1, m1⟩ := c1
    obtain ⟨f2, q2, m2⟩ := c2
    obtain ⟨f3, q3, m3⟩ := c3
    obtain ⟨f4, q4, m4⟩ := c4
    refine b_cons <| s_set 2 sc_law_new_net.nd <| e_call q1 m1 (hr.mono (by decide)) <| a_cons <| e_var 0 rfl <| a_cons <| e_int <| a_nil ⟨q, x, y, 5, rfl, by decide, by decide, hq, hy, fun kk x1 y1 hk hy1 => ?_⟩
    refine b_cons <| s_set 3 sc_law_new_net.nd <| e_bin <| e_int <| e_call q1 m1 (hr.mono (by decide)) <| a_cons <| e_var 0 rfl <| a_cons <| e_int <| a_nil ⟨q, x1, y1, 6, rfl, by decide, by decide, gup_same, hy1, fun r0 x2 y2 hr2 hy2 => ?_⟩
    rw [gup_gup]
    refine o_add ?_
    rw [show (1 : Int) + (r0 : Nat) = ((r0 + 1 : Nat) : Int) by omega]
    refine b_cons <| s_set 4 sc_law_new_net.nd <| e_call q1 m1 (hr.mono (by decide)) <| a_cons <| e_var 0 rfl <| a_cons <| e_int <| a_nil ⟨q, x2, y2, 7, rfl, by decide, by decide, gup_same, hy2, fun e x3 y3 he hy3 => ?_⟩
    rw [gup_gup]
    refine b_cons <| s_set 5 sc_law_new_net.nd <| e_callTy T.tup bt_tup <| a_cons <| e_lc [("_law_box", 6)] sc_law_new_net.nd (blkOk_by rfl) (fun _ _ _ _ _ => (pg_name (i := 6) sc_law_new_net.nd rfl (Or.inl rfl))) <| n_range1 T.rng <| e_bin <| e_int <| e_call q1 m1 (hr.mono (by decide)) <| a_cons <| e_var 0 rfl <| a_cons <| e_ix <| e_lst <| a_cons <| e_int <| a_cons <| e_int <| a_cons <| e_int <| a_nil ⟨Nat.le_of_ble_eq_true rfl, e_call q1 m1 (hr.mono (by decide)) <| a_cons <| e_var 0 rfl <| a_cons <| e_int <| a_nil ⟨q, x3, y3, 3, rfl, by decide, by decide, gup_same, hy3, fun c x4 y4 hc hy4 => ?_⟩⟩
    rw [gup_gup]
    have h3 := far3_at hc
    refine i_lst (x := .int (far3 c : Nat)) .lst h3.1 <| a_nil ⟨q, x4, y4, far3 c, rfl, h3.2.1, by omega, gup_same, hy4, fun m x5 y5 hm hy5 => o_add ⟨_, rfl, by omega, by omega, ?_⟩⟩
    rw [gup_gup, show (1 + ((m : Nat) : Int)).toNat = m + 1 by omega]
    refine ⟨fun i acc G' => ∃ (vs : List Int) (x6 y6 : Int), acc = vs.map D.int ∧ vs.length = i ∧ (∀ v ∈ vs, -MM0 ≤ v ∧ v ≤ MM0) ∧ yOk y6 ∧ G' = gup G q (pot x6 y6), ⟨[], x5, y5, rfl, rfl, (fun _ h => nomatch h), hy5, rfl⟩, fun _ _ _ _ _ => trivial, by omega, ?_, ?_⟩
    · rintro i acc G' hi ⟨vs, x6, y6, rfl, hl, hb, hy6, rfl⟩
      refine ⟨_, by simp, tg_name, fun s H0 C cl fp => q_nil (iteTT fun s H0 C cl fp => ?_)⟩
      exact e_call q2 m2 (hr.mono (by decide)) <| a_cons <| e_var 0 rfl <| a_nil ⟨q, x6, y6, rfl, gup_same, hy6, fun v x7 y7 v1 v2 hy7 => ⟨vs ++ [v], x7, y7, by rw [List.map_append]; rfl, by rw [List.length_append, hl]; rfl, fun u hu => by
        rcases List.mem_append.mp hu with z | z
        · exact hb u z
        · rw [List.mem_singleton.mp z]; exact ⟨v1, v2⟩, hy7, gup_gup⟩⟩
    rintro acc G' ⟨vs, x6, y6, rfl, hl, hb, hy6, rfl⟩
    refine a_nil <| c_tupL .lst ?_
    have ho1 : gup G q (pot x6 y6) o = some (.lst os) := by rw [gup_ne (Ne.symm nqo)]; exact ho
    refine b_cons <| s_expr <| e_bm0 PySem.F.plainAttrs_list PySem.F.slot_list_clear PySem.F.type_list_clear <| e_var 1 rfl ⟨.inr (.inl ⟨rfl, _, .ref ho1⟩), m_clear ho1 ?_⟩
    refine b_cons <| s_expr <| e_bm PySem.F.plainAttrs_list PySem.F.slot_list_extend PySem.F.type_list_extend <| e_var 1 rfl ⟨.inr (.inl ⟨rfl, _, .ref gup_same⟩), a_cons <| e_lst <| a_cons <| e_make m3 q3 (hr.mono (by decide)) MN <| a_cons <| e_var 2 rfl <| a_cons <| e_var 5 rfl <| a_cons <| e_var 3 rfl <| a_cons <| e_var 4 rfl <| a_nil fun a ha => ⟨a, kk, r0 + 1, e, vs, rfl, gup_same, by omega, by omega, by omega, by omega, by omega, by omega, fun A G' es NA nw fr => ⟨rfl, a_cons <| e_var 2 rfl <| a_cons <| e_callB T.len bt_len <| a_cons <| e_var 5 rfl <| a_nil <| c_lenT .tup <| a_cons <| e_int <| a_nil ⟨Nat.le_of_ble_eq_true rfl, ?_⟩⟩⟩⟩
    have ao : o ≠ a := fun z => by rw [← z, gup_same] at ha; cases ha
    have aq : q ≠ a := fun z => by rw [← z, gup_ne nqo, gup_same] at ha; cases ha
    have hao : G' o = some (.lst []) := by
      rw [fr o (by rw [gup_ne ao, gup_same]; exact fun z => nomatch z) ao, gup_ne ao, gup_same]
    have haq : G' q = some (pot x6 y6) := by
      rw [fr q (by rw [gup_ne aq, gup_ne nqo, gup_same]; exact fun z => nomatch z) aq, gup_ne aq, gup_ne nqo, gup_same]
    have fre : ∀ s : Slot, s.ok kk → gup (gup G q (pot x6 y6)) o (.lst []) (A s) = none := fun s hs => by
      by_cases z : s = .self
      · rw [z, es]; exact ha
      · have := nw s hs z
        by_cases y : A s = a
        · rw [y] at this; rw [gup_same] at this; cases this
        · rw [gup_ne y] at this; exact this
    have nso : ∀ s : Slot, s.ok kk → A s ≠ o := fun s hs z => by have := fre s hs; rw [z, gup_same] at this; cases this
    have nsq : ∀ s : Slot, s.ok kk → A s ≠ q := fun s hs z => by have := fre s hs; rw [z, gup_ne nqo, gup_same] at this; cases this
    rw [List.length_map]
    refine a_nil <| m_extend hao .lst (by show 0 + 4 ≤ 100000; decide) ?_
    rw [List.nil_append]
    refine b_one <| s_ret <| e_tup <| a_cons <| e_bin <| e_str <| e_call q4 m4 (hr.mono (by decide)) <| a_cons <| e_bin <| e_tup <| a_cons <| e_var 2 rfl <| a_cons <| e_var 3 rfl <| a_cons <| e_var 4 rfl <| a_nil ⟨Nat.le_of_ble_eq_true rfl, e_var 5 rfl <| o_addT .tup .tup (List.cons_ne_nil _ _) (fun z => by have := congrArg List.length z; rw [List.length_map, hl] at this; cases this) (by rw [List.length_map]; show 3 + _ ≤ _; omega) ?_⟩
    have nb : ∀ i ∈ [(kk : Int), ((r0 + 1 : Nat) : Int), (e : Int)] ++ vs, okB i := fun i hi => by
      rcases List.mem_append.mp hi with z | z
      · simp only [List.mem_cons, List.not_mem_nil, or_false] at z
        rcases z with rfl | rfl | rfl <;> exact okB_nat (by omega)
      · have := hb i z; simp only [okB, MM0, BB] at *; omega
    have nl : (numsT ([(kk : Int), ((r0 + 1 : Nat) : Int), (e : Int)] ++ vs)).length ≤ 20 * (601 + 1) := jn_len (m := 601) (n := 20) (fun y hy => by obtain ⟨i, hi, rfl⟩ := List.mem_map.mp hy; exact num_len' (nb i hi)) (by rw [List.length_map, List.length_append]; show 3 + _ ≤ _; omega)
    refine a_nil ⟨[(kk : Int), ((r0 + 1 : Nat) : Int), (e : Int)] ++ vs, by rw [List.map_append]; rfl, nb, by rw [List.length_append]; show 3 + _ ≤ _; omega, o_addS (ok2 (m := 4) (by decide) nl) <| a_cons <| e_str <| a_nil ⟨Nat.le_of_ble_eq_true rfl, ⟨_, Sub.refl _, ?_⟩⟩⟩
    rw [net_text]
    refine k kk (r0 + 1) e vs A _ ⟨by omega, by omega, by omega, by omega, by omega, by omega, hb⟩ ⟨x6, y6, by rw [gup_ne nqo]; exact haq, hy6⟩ ⟨by rw [gup_same, es]; rfl, NA.move fun b hb => gup_ne fun z => ?_, fun ⟨s, hs, z⟩ => nso s hs z⟩ (fun b hb => ?_) fun b hb n1 n2 => ?_
    · obtain ⟨s, hs, z2⟩ := hb; exact nso s hs (z2.trans z)
    · obtain ⟨s, hs, rfl⟩ := hb
      have := fre s hs
      rwa [gup_ne (nso s hs), gup_ne (nsq s hs)] at this
    · have ba : b ≠ a := fun z => by rw [← z, gup_ne n2, gup_ne n1] at ha; exact hb ha
      rw [gup_ne n2, fr b (by rw [gup_ne ba, gup_ne n2, gup_ne n1]; exact hb) ba, gup_ne ba, gup_ne n2, gup_ne n1]
def S_law_put (CNet : Addr) : AS := fun ds G R => RowS CNet ds G R
theorem sc_law_put : FnScope ["_law_pot_here", "_law_own", "_law_ask", "_law_row_here", "_law_net", "_law_k", "_law_boxes", "_law_asked"] ["_law_pot_here", "_law_own"] (defScope (top 112)) := ⟨rfl, rfl, rfl, by decide +kernel, rfl, by decide +kernel, by decide +kernel⟩
theorem f_law_put (T : Blt K mg) (NC : NetC K CNet) (dt : Dat K mg d_law_put "_law_put") (c1 : Mn P w K mg base 2 CNet "todo" ["self"] [] (S_Net_todo CNet)) (c2 : Fn P w K mg base 1 "_law_draw" ["_law_pot_here", "_law_many"] [] S_law_draw) (c3 : Fn P w K mg base 3 "_law_deed" ["_law_pot_here"] [] S_law_deed) (c4 : Fn P w K mg base 1 "_law_deed_text" ["_law_deed_here"] [] S_law_deed_text) (c5 : Mn P w K mg base 5 CNet "put" ["self", "ask"] [] (S_Net_put CNet)) : Fn P w K mg base 6 "_law_put" ["_law_pot_here", "_law_own"] [] (S_law_put CNet) := by
  obtain ⟨f, fd, F, hm⟩ := dt
  refine ⟨f, cal_of F sc_law_put (fun ds G R h => ?_) (fun _ _ _ _ _ _ us hl => match us, hl with | [_, _], _ => rfl) (fun cdv Ar outer s H E hr ds G R h => ?_), hm⟩
  · obtain ⟨q, o, A, N, rfl, ⟨x, y, hq, hy⟩, O, g, nqo, fq, _⟩ := h
    rfl
  · obtain ⟨q, o, A, N, rfl, ⟨x, y, hq, hy⟩, O, g, nqo, fq, k⟩ := h
    obtain ⟨f1, q1, m1⟩ := c1
    obtain ⟨f2, q2, m2⟩ := c2
    obtain ⟨f3, q3, m3⟩ := c3
    obtain ⟨f4, q4, m4⟩ := c4
    obtain ⟨f5, q5, m5⟩ := c5
    have hm := g.good.many
    have hk4 := g.good.k4
    have h16 := g.good.v16
    have h1v := g.good.v1
    have td : N.todo ≤ N.asks.length := by unfold NetS.todo; have := List.length_filter_le (fun n => !N.doneAt n) (List.range N.asks.length); rw [List.length_range] at this; exact this
    refine b_cons <| s_asg (pg_lst rfl (pgs_cons (pg_name (i := 4) sc_law_put.nd rfl (by first | exact Or.inl rfl | exact Or.inr rfl)) (pgs_cons (pg_name (i := 5) sc_law_put.nd rfl (by first | exact Or.inl rfl | exact Or.inr rfl)) (pgs_cons (pg_name (i := 6) sc_law_put.nd rfl (by first | exact Or.inl rfl | exact Or.inr rfl)) (pgs_cons (pg_name (i := 7) sc_law_put.nd rfl (by first | exact Or.inl rfl | exact Or.inr rfl)) pgs_nil))))) <| e_var 1 rfl ⟨_, tg_lstM O.obj (tgs_cons tg_name (tgs_cons tg_name (tgs_cons tg_name (tgs_cons tg_name tgs_nil)))), ?_⟩
    show SB _ _ [some (.ref q), some (.ref o), none, none, some (.ref (A .self)), some (.int (N.k : Nat)), some (.int (N.vals.length : Nat)), some (.int (N.asks.length : Nat))] _ _
    refine b_cons <| s_if <| t_cmp <| e_var 7 rfl <| e_int <| o_eqI ⟨_, rfl, ?_⟩
    by_cases h40 : N.asks.length = 40
    · refine ite_t (decide_eq_true (by omega)) ?_
      exact b_one <| s_ret <| e_tup <| a_cons <| e_str <| a_cons <| e_callTy T.str bt_str <| a_cons <| e_meth0 NC.cls m1 q1 (hr.mono (by decide)) <| e_var 4 rfl ⟨_, _, rfl, O.net.here .self trivial, rfl, A, N, rfl, O.net, hm, a_nil <| c_strI (log_ok (okB_nat (by omega))) <| a_nil ⟨Nat.le_of_ble_eq_true rfl, ⟨_, Sub.refl _, k .todo A _ trivial ⟨x, y, hq, hy⟩ O g fq Frm.refl⟩⟩⟩
    refine ite_f (decide_eq_false (by omega)) <| b_nil ?_
    refine b_cons <| s_set 2 sc_law_put.nd <| e_tup <| a_cons <| e_call q2 m2 (hr.mono (by decide)) <| a_cons <| e_var 0 rfl <| a_cons <| e_bin <| e_int <| e_var 5 rfl <| o_shl (cpow_nat (by omega) (by omega) (by omega) (by omega)) ?_
    rw [p2i]
    have hp2 := p2_le hk4
    refine a_nil ⟨q, x, y, 2 ^ N.k, rfl, Nat.two_pow_pos _, by omega, hq, hy, fun h x1 y1 hh hy1 => ?_⟩
    refine a_cons <| e_call q2 m2 (hr.mono (by decide)) <| a_cons <| e_var 0 rfl <| a_cons <| e_var 6 rfl <| a_nil ⟨q, x1, y1, N.vals.length, rfl, by omega, by omega, gup_same, hy1, fun b x2 y2 hb hy2 => ?_⟩
    rw [gup_gup]
    refine a_cons <| e_call q3 m3 (hr.mono (by decide)) <| a_cons <| e_var 0 rfl <| a_nil ⟨q, x2, y2, rfl, gup_same, hy2, fun z x3 y3 zo zb hy3 => ?_⟩
    rw [gup_gup]
    refine a_nil ⟨Nat.le_of_ble_eq_true rfl, ?_⟩
    have O1 := own_pot (G' := gup G q (pot x3 y3)) O nqo fq fun b _ hb => gup_ne hb
    have zf := bd1_fit zb
    refine b_cons <| s_sub <| e_bin <| e_var 7 rfl <| e_int <| o_add <| e_var 1 rfl <| e_int ⟨o, _, 3, rfl, rfl, O1.obj, by show 3 < 4; decide, ?_⟩
    have hh16 := p2_lt16 hk4 hh
    have n1 := num_len' (okB_nat (n := h) (by omega))
    have n2 := num_len' (okB_nat (n := b) (by omega))
    have n3 := deedT_len zf
    have l1 : ("put " : Str).length ≤ 4 := by decide
    have l2 : (" " : Str).length ≤ 1 := by decide
    refine b_cons <| s_set 3 sc_law_put.nd <| e_bin <| e_bin <| e_bin <| e_bin <| e_bin <| e_str <| e_callTy T.str bt_str <| a_cons <| e_ix <| e_var 2 rfl <| e_int <| i_tup (n := 0) .tup rfl <| a_nil <| c_strI (log_ok (okB_nat (by omega))) <| o_addS (ok2 l1 n1) <| e_str <| o_addS (ok2 (la l1 n1) l2) <| e_callTy T.str bt_str <| a_cons <| e_ix <| e_var 2 rfl <| e_int <| i_tup (n := 1) .tup rfl <| a_nil <| c_strI (log_ok (okB_nat (by omega))) <| o_addS (ok2 (la (la l1 n1) l2) n2) <| e_str <| o_addS (ok2 (la (la (la l1 n1) l2) n2) l2) <| e_call q4 m4 (hr.mono (by decide)) <| a_cons <| e_ix <| e_var 2 rfl <| e_int <| i_tup (n := 2) .tup rfl <| a_nil ⟨z, rfl, zo, zf, o_addS (ok2 (la (la (la (la l1 n1) l2) n2) l2) n3) ?_⟩
    rw [show ("put " ++ toString ((h : Nat) : Int) ++ " " ++ toString ((b : Nat) : Int) ++ " " ++ deedT z : Str) = (Rw.put ⟨h, b, z⟩).text from put_text ⟨h, b, z⟩]
    have aok : (⟨h, b, z⟩ : Ask).ok N.vals.length := ⟨by show h < 16; omega, hb, zo⟩
    have qo2 : gup (gup G q (pot x3 y3)) o (.lst ([.ref (A .self), .int (N.k : Nat), .int (N.vals.length : Nat), .int (N.asks.length : Nat)].set 3 (.int ((N.asks.length : Nat) + 1)))) q = some (pot x3 y3) := by rw [gup_ne nqo, gup_same]
    have NA2 : NetAt CNet (gup (gup G q (pot x3 y3)) o (.lst ([.ref (A .self), .int (N.k : Nat), .int (N.vals.length : Nat), .int (N.asks.length : Nat)].set 3 (.int ((N.asks.length : Nat) + 1))))) A N := O1.net.move fun b hb => gup_ne fun z => O.out (z ▸ hb)
    refine b_one <| s_ret <| e_tup <| a_cons <| e_var 3 rfl <| a_cons <| e_callTy T.str bt_str <| a_cons <| e_meth NC.cls m5 q5 (hr.mono (by decide)) <| e_var 4 rfl ⟨_, _, rfl, NA2.here .self trivial, rfl, a_cons <| e_var 2 rfl <| a_nil ⟨A, N, ⟨h, b, z⟩, rfl, NA2, g.good, by omega, aok, hh, fun G' na ow => a_nil <| c_strI (log_ok (okB_nat (by omega))) <| a_nil ⟨Nat.le_of_ble_eq_true rfl, ⟨_, Sub.refl _, ?_⟩⟩⟩⟩
    have el : (N.put ⟨h, b, z⟩).asks.length = N.asks.length + 1 := by show (N.asks ++ [_]).length = _; rw [List.length_append]; rfl
    obtain ⟨O3, fq3, eq3, fr3⟩ := own_step (N' := N.put ⟨h, b, z⟩) (q := q) (o := o) (by rw [gup_same, el]; rfl) O.out (by rw [qo2]; exact fun z => nomatch z) fq na rfl ow
    exact k (.put ⟨h, b, z⟩) A G' ⟨by omega, aok, zb, hh⟩ ⟨x3, y3, by rw [eq3, qo2], hy3⟩ O3 ⟨put_good g.good (by omega) aok zb hh, put_ord g.ord⟩ fq3 (((Frm.gup (.inr (.inr rfl))).trans (Frm.gup (.inr (.inl rfl)))).trans fr3)
end
end J
namespace J
open PySem PySem.Spec PyProof.Rows L2 TL
theorem pls_shapedL (l : List (Nat × Nat)) : SeqAt.shaped (.list (l.map pPl)) = true := by
  unfold SeqAt.shaped
  rw [Bool.and_eq_true]
  refine ⟨pls_can l, decide_eq_true ?_⟩
  have := pls_dep l
  show PyData.depthAll (l.map pPl) + 1 ≤ 64
  omega
theorem ne_live {G : Gp} {b p : Addr} (hb : G b ≠ none) (hp : G p = none) : b ≠ p := fun z => hb (by rw [z]; exact hp)
def pl1 (p : Nat × Nat) : Str := num (p.1 : Nat) ++ " " ++ num (p.2 : Nat)
theorem mny_ok {k st : Nat} (hk : k ≤ 4) (h : st ≤ k) : ∃ m : Nat, [D.int (2 ^ k : Nat), D.int (((2 ^ k : Nat) : Int).fdiv 2)][if st = 0 then 0 else 1]? = some (.int (m : Nat)) ∧ 0 < m ∧ m ≤ 16 ∧ ∀ n, n < m → placeOk k st n := by
  by_cases z : st = 0
  · subst z
    refine ⟨2 ^ k, rfl, Nat.two_pow_pos _, p2_le hk, fun n hn => ⟨h, ?_⟩⟩
    rw [if_pos rfl]; exact hn
  · refine ⟨2 ^ (k - 1), ?_, Nat.two_pow_pos _, p2_le (by omega), fun n hn => ⟨h, ?_⟩⟩
    · rw [if_neg z]
      have e : ((2 ^ k : Nat) : Int).fdiv 2 = ((2 ^ (k - 1) : Nat) : Int) := by
        rw [Int.fdiv_eq_ediv_of_nonneg _ (by decide), show k = (k - 1) + 1 by omega, Nat.pow_succ]
        simp only [Nat.add_sub_cancel]
        omega
      rw [e]; rfl
    · rw [if_neg z]; exact hn
section
variable {P : Program} {w : World} {K : PySem.W.Frag} {mg : Str → Option Value} {base : Heap} {CNet CDesk CCarried : Addr}
def S_law_lost (CNet : Addr) : AS := fun ds G R => RowS CNet ds G R
theorem sc_law_lost : FnScope ["_law_pot_here", "_law_own", "_law_found", "_law_turn", "_law_said", "_law_stage", "_law_many", "_law_one", "_law_number_here"] ["_law_pot_here", "_law_own"] (defScope (top 113)) := ⟨rfl, rfl, rfl, by decide +kernel, rfl, by decide +kernel, by decide +kernel⟩
theorem f_law_lost (T : Blt K mg) (NC : NetC K CNet) (cb : Mn P w K mg base 8 CNet "beat" ["self", "lost"] [] (S_Net_beat CNet)) (dt : Dat K mg d_law_lost "_law_lost") (c1 : Fn P w K mg base 1 "_law_draw" ["_law_pot_here", "_law_many"] [] S_law_draw) (c2 : Fn P w K mg base 2 "_law_answers_text" ["_law_answers"] [] S_law_answers_text) : Fn P w K mg base 9 "_law_lost" ["_law_pot_here", "_law_own"] [] (S_law_lost CNet) := by
  obtain ⟨f, fd, F, hm⟩ := dt
  refine ⟨f, cal_of F sc_law_lost (fun ds G R h => ?_) (fun _ _ _ _ _ _ us hl => match us, hl with | [_, _], _ => rfl) (fun cdv Ar outer s H E hr ds G R h => ?_), hm⟩
  · obtain ⟨q, o, A, N, rfl, ⟨x, y, hq, hy⟩, O, g, nqo, fq, _⟩ := h
    rfl
  · obtain ⟨q, o, A, N, rfl, ⟨x, y, hq, hy⟩, O, g, nqo, fq, k⟩ := h
    obtain ⟨f1, q1, m1⟩ := c1
    obtain ⟨f2, q2, m2⟩ := c2
    obtain ⟨fb, qb, mb⟩ := cb
    have hk4 := g.good.k4
    refine b_cons <| s_set 2 sc_law_lost.nd <| e_lstM <| a_nil ⟨Nat.zero_le _, fun p hp => ?_⟩
    have npq : p ≠ q := fun z => by rw [z, hq] at hp; cases hp
    have npo : p ≠ o := fun z => by rw [z, O.obj] at hp; cases hp
    refine b_cons <| s_for (pg_name (i := 3) sc_law_lost.nd rfl (by first | exact Or.inl rfl | exact Or.inr rfl)) PassesOwn.never <| n_range1 T.rng <| e_bin <| e_int <| e_call q1 m1 (hr.mono (by decide)) <| a_cons <| e_var 0 rfl <| a_cons <| e_int <| a_nil ⟨q, x, y, 4, rfl, by decide, by decide, by rw [gup_ne (Ne.symm npq)]; exact hq, hy, fun m x1 y1 hm hy1 => o_add ⟨_, rfl, by omega, by omega, ?_⟩⟩
    rw [show (1 + ((m : Nat) : Int)).toNat = m + 1 by omega]
    refine ⟨fun i Γ G' => ∃ (r3 r5 r6 r7 : Option D) (l : List (Nat × Nat)) (x2 y2 : Int), Γ = [some (.ref q), some (.ref o), some (.ref p), r3, none, r5, r6, r7, none] ∧ l.length ≤ i ∧ (∀ z ∈ l, placeOk N.k z.1 z.2) ∧ yOk y2 ∧ G' q = some (pot x2 y2) ∧ G' p = some (.lst (l.map dPl)) ∧ ∀ b, G b ≠ none → b ≠ q → G' b = G b, ⟨none, none, none, none, [], x1, y1, rfl, Nat.zero_le _, (fun _ h => nomatch h), hy1, gup_same, by rw [gup_ne npq, gup_same]; rfl, fun b hb hn => by rw [gup_ne hn, gup_ne (ne_live hb hp)]⟩, fun _ _ _ _ _ => trivial, ?_, ?_⟩
    · rintro i Γ' G' hi ⟨r3, r5, r6, r7, l, x2, y2, rfl, hl, hpl, hy2, hq2, hp2, fr⟩
      refine ⟨_, tg_name, ?_⟩
      show SB _ _ [some (.ref q), some (.ref o), some (.ref p), some (.int (i : Nat)), none, r5, r6, r7, none] _ _
      have hGo : G' o = some (.lst [.ref (A .self), .int (N.k : Nat), .int (N.vals.length : Nat), .int (N.asks.length : Nat)]) := by rw [fr o (O.live (.inr rfl)) (Ne.symm nqo)]; exact O.obj
      refine b_cons <| s_set 5 sc_law_lost.nd <| e_call q1 m1 (hr.mono (by decide)) <| a_cons <| e_var 0 rfl <| a_cons <| e_bin <| e_ix <| e_var 1 rfl <| e_int <| i_lst (n := 1) (.ref hGo) rfl <| e_int <| o_add <| a_nil ⟨q, x2, y2, N.k + 1, rfl, by omega, by omega, hq2, hy2, fun st x3 y3 hst hy3 => ?_⟩
      have hGo2 : gup G' q (pot x3 y3) o = some (.lst [.ref (A .self), .int (N.k : Nat), .int (N.vals.length : Nat), .int (N.asks.length : Nat)]) := by rw [gup_ne (Ne.symm nqo)]; exact hGo
      obtain ⟨mn0, mn1, mn2, mn3, mn4⟩ := mny_ok (k := N.k) (st := st) hk4 (by omega)
      refine b_cons <| s_set 6 sc_law_lost.nd <| e_ix <| e_lst <| a_cons <| e_bin <| e_int <| e_ix <| e_var 1 rfl <| e_int <| i_lst (n := 1) (.ref hGo2) rfl <| o_shl (cpow_nat (by omega) (by omega) (by omega) (by omega)) ?_
      rw [p2i]
      refine a_cons <| e_bin <| e_bin <| e_int <| e_ix <| e_var 1 rfl <| e_int <| i_lst (n := 1) (.ref hGo2) rfl <| o_shl (cpow_nat (by omega) (by omega) (by omega) (by omega)) ?_
      rw [p2i]
      refine e_int <| o_fdiv ⟨by decide, by decide⟩ <| a_nil ⟨Nat.le_of_ble_eq_true rfl, e_callTy T.int bt_int <| a_cons <| e_cmp <| e_var 5 rfl <| e_int <| o_gt <| a_nil <| c_intB ?_⟩
      rw [show (if decide ((0 : Int) < ((st : Nat) : Int)) then (1 : Int) else 0) = (((if st = 0 then 0 else 1) : Nat) : Int) by
        by_cases z : st = 0
        · subst z; rfl
        · rw [if_neg z, decide_eq_true (by omega)]; rfl]
      refine i_lst (x := .int (mn0 : Nat)) .lst mn1 ?_
      refine b_cons <| s_set 7 sc_law_lost.nd <| e_tup <| a_cons <| e_var 5 rfl <| a_cons <| e_call q1 m1 (hr.mono (by decide)) <| a_cons <| e_var 0 rfl <| a_cons <| e_var 6 rfl <| a_nil ⟨q, x3, y3, mn0, rfl, mn2, by omega, gup_same, hy3, fun n x4 y4 hn hy4 => ?_⟩
      rw [gup_gup]
      refine a_nil ⟨Nat.le_of_ble_eq_true rfl, ?_⟩
      have hp4 : gup G' q (pot x4 y4) p = some (.lst (l.map dPl)) := by rw [gup_ne npq]; exact hp2
      have fr4 : ∀ b, G b ≠ none → b ≠ q → gup G' q (pot x4 y4) b = G b := fun b hb h => by rw [gup_ne h]; exact fr b hb h
      refine b_one <| s_if <| t_cmp <| e_var 7 rfl <| e_var 2 rfl <| o_notInL (x := pPl (st, n)) (xs := l.map pPl) (.ref hp4) (u65 hr) rfl (pys_map py_pl l) rfl (pls_shapedL l) ⟨_, rfl, ?_⟩
      rw [pl_mem]
      by_cases hmem : (st, n) ∈ l
      · rw [decide_eq_true hmem]
        exact iteFF <| b_nil ⟨_, _, _, _, l, x4, y4, rfl, by omega, hpl, hy4, gup_same, hp4, fr4⟩
      · rw [decide_eq_false hmem]
        refine iteTT <| b_one <| s_expr <| e_bm PySem.F.plainAttrs_list PySem.F.slot_list_append PySem.F.type_list_append <| e_var 2 rfl ⟨.inr (.inl ⟨rfl, _, .ref hp4⟩), a_cons <| e_var 7 rfl <| a_nil <| m_append hp4 (by rw [List.length_map]; omega) ⟨_, _, _, _, l ++ [(st, n)], x4, y4, rfl, by rw [List.length_append]; show l.length + 1 ≤ i + 1; omega, fun z hz => ?_, hy4, by rw [gup_ne (Ne.symm npq), gup_same], by rw [gup_same, List.map_append]; rfl, fun b hb h => by rw [gup_ne (ne_live hb hp)]; exact fr4 b hb h⟩⟩
        rcases List.mem_append.mp hz with z1 | z1
        · exact hpl z z1
        · rw [List.mem_singleton.mp z1]; exact mn4 n hn
    rintro Γ' G' ⟨r3, r5, r6, r7, l, x2, y2, rfl, hl, hpl, hy2, hq2, hp2, fr⟩
    have O2 := own_pot O nqo fq fr
    have hb : ∀ z ∈ l, z.1 ≤ 100000 ∧ z.2 ≤ 100000 := fun z hz => place_le hk4 (hpl z hz)
    have e1 : (" " : Str).length = 1 := rfl
    refine b_cons <| s_set 4 sc_law_lost.nd <| e_bin <| e_lst <| a_cons <| e_str <| a_nil ⟨Nat.le_of_ble_eq_true rfl, e_lc [("_law_stage", 5), ("_law_number_here", 8)] sc_law_lost.nd (blkOk_by rfl) (by intro _ _ _ _ _; refine pg2 (i := 5) (j := 8) (K := K) ?_ ?_ ?_ ?_ ?_ ?_ ?_ ?_ ?_ <;> first | exact sc_law_lost.nd | rfl | exact Or.inl rfl | exact Or.inr rfl) <| n_list <| e_var 2 rfl ⟨_, .ref hp2, ?_⟩⟩
    refine lc_map (fun i => .str (pl1 (l.getD i (0, 0)))) (fun i => [(5, .int ((l.getD i (0, 0)).1 : Nat)), (8, .int ((l.getD i (0, 0)).2 : Nat))]) hp2 (by rw [List.length_map]; omega) (by intro i u hu; simp at hu; rcases hu with e | e <;> subst e <;> simp) (fun i hi => ?_) (fun i hi s H0 C cl fp => ?_) ?_
    · rw [List.length_map] at hi
      rw [at0_map hi, getD_at _ hi]
      exact tg_tup (tgs_cons tg_name (tgs_cons tg_name tgs_nil))
    · rw [List.length_map] at hi
      rw [getD_at _ hi]
      have h := hb _ (List.getElem_mem hi)
      have a := num_len42 (okB_nat h.1)
      have b := num_len42 (okB_nat h.2)
      exact e_bin <| e_bin <| e_callTy T.str bt_str <| a_cons <| e_var 5 rfl <| a_nil <| c_strI (log_ok (okB_nat h.1)) <| e_str <| o_addS (sz16 (by show (num _).length + _ ≤ _; omega)) <| e_callTy T.str bt_str <| a_cons <| e_var 8 rfl <| a_nil <| c_strI (log_ok (okB_nat h.2)) <| o_addS (by rw [Str.length_append]; exact sz16 (by show (num _).length + _ + (num _).length ≤ _; omega)) ⟨rfl, rfl⟩
    rw [List.length_map, map_range_eq l _ (fun p => D.str (pl1 p)) fun i x e => by rw [List.getD_eq_getElem?_getD, e]; rfl]
    refine o_addL .lst .lst (by rw [List.length_map]; show 1 + _ ≤ _; omega) ?_
    have ey : [D.str "beat"] ++ l.map (fun p => D.str (pl1 p)) = (("beat" : Str) :: l.map pl1).map D.str := by rw [List.map_cons, List.map_map]; rfl
    rw [ey]
    have hz := join_size (ys := "beat" :: l.map pl1) (z := sp) (m := 100) (n := 20) (fun y hy => by
      rcases List.mem_cons.mp hy with rfl | hy
      · decide
      · obtain ⟨p, hp, rfl⟩ := List.mem_map.mp hy
        have h := hb p hp
        have a := num_len42 (okB_nat h.1)
        have b := num_len42 (okB_nat h.2)
        unfold pl1
        rw [Str.length_append, Str.length_append]
        omega) (by rw [List.length_cons, List.length_map]; omega) (by decide) (by decide)
    refine b_one <| s_ret <| e_tup <| a_cons <| e_join <| e_str ⟨_, rfl, e_var 4 rfl ⟨_, .lst, hz, ?_⟩⟩
    rw [show Txt.join " " ("beat" :: l.map pl1) = (Rw.beat l).text from lost_text l]
    refine a_cons <| e_call q2 m2 (hr.mono (by decide)) <| a_cons <| e_meth NC.cls mb qb (hr.mono (by decide)) <| e_ix <| e_var 1 rfl <| e_int <| i_lst (n := 0) (.ref O2.obj) rfl ⟨_, _, rfl, O2.net.here .self trivial, rfl, a_cons <| e_callTy T.tup bt_tup <| a_cons <| e_var 2 rfl <| a_nil <| c_tupL (.ref hp2) <| a_nil ⟨A, N, _, l, rfl, .inr ⟨rfl, hpl⟩, by omega, O2.net, g.good, fun A2 G2 na gd kk ow => ?_⟩⟩
    have t40 := tellsI_len gd
    have sz := goOn_szs (N := N) (lost := l)
    obtain ⟨O3, fq3, eq3, fr3⟩ := own_step (N' := N.goOn l) (q := q) (o := o) (by rw [O2.obj, kk, show (N.goOn l).vals.length = N.vals.length from congrArg (fun z => z.2.1) sz, show (N.goOn l).asks.length = N.asks.length from congrArg (fun z => z.2.2) sz]) O.out (by rw [hq2]; exact fun z => nomatch z) fq na kk ow
    exact a_nil ⟨_, (N.goOn l).tellsI, rfl, by rw [tells_eq]; exact .inr .tup, tellsI_ok gd, by omega, a_nil ⟨Nat.le_of_ble_eq_true rfl, ⟨_, Sub.refl _, k (.beat l) A2 G2 ⟨by omega, hpl⟩ ⟨x2, y2, by rw [eq3, hq2], hy2⟩ O3 ⟨gd, goOn_ord g.ord⟩ fq3 ((frm_pot fr).trans fr3)⟩⟩⟩
def S_law_run (CNet : Addr) : AS := fun ds G R => RowS CNet ds G R
theorem sc_law_run : FnScope ["_law_pot_here", "_law_own", "_law_many", "_law_found", "_law_turn"] ["_law_pot_here", "_law_own"] (defScope (top 114)) := ⟨rfl, rfl, rfl, by decide +kernel, rfl, by decide +kernel, by decide +kernel⟩
theorem f_law_run (T : Blt K mg) (NC : NetC K CNet) (dt : Dat K mg d_law_run "_law_run") (c1 : Fn P w K mg base 1 "_law_draw" ["_law_pot_here", "_law_many"] [] S_law_draw) (c2 : Mn P w K mg base 8 CNet "beat" ["self", "lost"] [.non] (S_Net_beat CNet)) (c3 : Fn P w K mg base 2 "_law_answers_text" ["_law_answers"] [] S_law_answers_text) : Fn P w K mg base 9 "_law_run" ["_law_pot_here", "_law_own"] [] (S_law_run CNet) := by
  obtain ⟨f, fd, F, hm⟩ := dt
  refine ⟨f, cal_of F sc_law_run (fun ds G R h => ?_) (fun _ _ _ _ _ _ us hl => match us, hl with | [_, _], _ => rfl) (fun cdv Ar outer s H E hr ds G R h => ?_), hm⟩
  · obtain ⟨q, o, A, N, rfl, ⟨x, y, hq, hy⟩, O, g, nqo, fq, _⟩ := h
    rfl
  · obtain ⟨q, o, A, N, rfl, ⟨x, y, hq, hy⟩, O, g, nqo, fq, k⟩ := h
    obtain ⟨f1, q1, m1⟩ := c1
    obtain ⟨f2, q2, m2⟩ := c2
    obtain ⟨f3, q3, m3⟩ := c3
    have main : ∀ (m : Nat) (x1 y1 : Int), 1 ≤ m → m ≤ 300 → yOk y1 → SB (cxOf CX0 P w K mg base ["_law_pot_here", "_law_own", "_law_many", "_law_found", "_law_turn"] d_law_run.qual (defScope (top 114)) f cdv Ar outer s H E).nox ((defBody (top 114)).drop 2) [some (.ref q), some (.ref o), some (.int (m : Nat)), none, none] (gup G q (pot x1 y1)) ⟨fun _ G' => R .non G', fun d G1 => ∃ G2, Sub G2 G1 ∧ R d G2, fun _ _ => False, fun _ _ => False⟩ := fun m x1 y1 h1 h2 hy1 => by
      have O1 := own_pot (G' := gup G q (pot x1 y1)) O nqo fq fun b _ hb => gup_ne hb
      have hq1 : gup G q (pot x1 y1) q = some (pot x1 y1) := gup_same
      have fr1 : Frm G (ownF q o N.k A) (gup G q (pot x1 y1)) (ownF q o N.k A) := Frm.gup (.inr (.inr rfl))
      generalize gup G q (pot x1 y1) = G1 at O1 hq1 fr1
      refine b_cons <| s_set 3 sc_law_run.nd <| e_lstM <| a_nil ⟨Nat.zero_le _, fun p hp => ?_⟩
      have npq : p ≠ q := fun z => by rw [z, hq1] at hp; cases hp
      refine b_cons <| s_for (pg_name (i := 4) sc_law_run.nd rfl (by first | exact Or.inl rfl | exact Or.inr rfl)) PassesOwn.never <| n_range1 T.rng <| e_var 2 rfl ⟨_, rfl, by omega, by omega, ?_⟩
      rw [Int.toNat_natCast]
      refine ⟨fun i Γ G' => ∃ (r4 : Option D) (A' : Slot → Addr), Γ = [some (.ref q), some (.ref o), some (.int (m : Nat)), some (.ref p), r4] ∧ OwnAt CNet G' o A' (NetS.runs i N) ∧ Fine (NetS.runs i N) ∧ ¬ ftN (NetS.runs i N).k A' q ∧ G' q = some (pot x1 y1) ∧ Frm G1 (ownF q o N.k A) G' (ownF q o (NetS.runs i N).k A') ∧ G' p = some (.lst ((N.told i).map dAns)) ∧ ¬ ownF q o (NetS.runs i N).k A' p ∧ (N.told i).length ≤ 40 * i ∧ ∀ z ∈ N.told i, z.1 ≤ 100000 ∧ okB z.2, ⟨none, A, rfl, O1.move fun b hb => gup_ne fun e => O1.live hb (e ▸ hp), g, fq, by rw [gup_ne (Ne.symm npq)]; exact hq1, Frm.refl.off hp, gup_same, ?_, Nat.zero_le _, fun z hz => by cases hz⟩, fun _ _ _ _ _ => trivial, ?_, ?_⟩
      · rintro (h | rfl | h)
        · exact O1.live (.inl h) hp
        · exact O1.live (.inr rfl) hp
        · exact npq h
      · rintro i Γ' G' hi ⟨r4, A', rfl, O', f, fq', hq', fr, hG, nown, tl40, tlok⟩
        refine ⟨_, tg_name, ?_⟩
        show SB _ _ [some (.ref q), some (.ref o), some (.int (m : Nat)), some (.ref p), some (.int (i : Nat))] _ _
        refine b_one <| s_expr <| e_bm PySem.F.plainAttrs_list PySem.F.slot_list_extend PySem.F.type_list_extend <| e_var 3 rfl ⟨.inr (.inl ⟨rfl, _, .ref hG⟩), a_cons <| e_callTy T.lst bt_lst <| a_cons <| e_meth0 NC.cls m2 q2 (hr.mono (by decide)) <| e_ix <| e_var 1 rfl <| e_int <| i_lst (n := 0) (.ref O'.obj) rfl ⟨_, _, rfl, O'.net.here .self trivial, rfl, A', NetS.runs i N, .non, [], rfl, .inl ⟨rfl, rfl⟩, Nat.zero_le _, O'.net, f.good, fun A2 G2 na gd kk ow => a_nil <| c_lstT .tup <| a_nil ?_⟩⟩
        have e1 : (NetS.runs i N).goOn [] = NetS.runs (i + 1) N := rfl
        have od : OrdOk (NetS.runs (i + 1) N) := goOn_ord f.ord
        have sz := goOn_szs (N := NetS.runs i N) (lost := [])
        rw [e1] at na gd kk sz ⊢
        have ev : (NetS.runs (i + 1) N).vals.length = (NetS.runs i N).vals.length := congrArg (fun z => z.2.1) sz
        have ea : (NetS.runs (i + 1) N).asks.length = (NetS.runs i N).asks.length := congrArg (fun z => z.2.2) sz
        obtain ⟨O3, fq3, eq3, fr3⟩ := own_step (N' := NetS.runs (i + 1) N) (q := q) (o := o) (by rw [O'.obj, kk, ev, ea]) O'.out (by rw [hq']; exact fun z => nomatch z) fq' na kk ow
        have ql : G' p ≠ none := by rw [hG]; exact fun z => nomatch z
        have hG2 : G2 p = some (.lst ((N.told i).map dAns)) := by rw [fr3.keep p ql nown]; exact hG
        have nq2 : ¬ ownF q o (NetS.runs (i + 1) N).k A2 p := fun z => (fr3.foot p z).elim nown ql
        have t40 := tellsI_len gd
        refine m_extend hG2 .lst (by rw [tells_eq, List.length_map, List.length_map]; omega) ⟨_, A2, rfl, O3.move fun b hb => gup_ne fun e => nq2 (e ▸ (hb.elim .inl fun z => .inr (.inl z))), ⟨gd, od⟩, fq3, by rw [gup_ne (Ne.symm npq), eq3, hq'], (fr.trans fr3).off hp, ?_, nq2, ?_, ?_⟩
        · rw [gup_same, told_succ, List.map_append, tells_eq]
        · rw [told_succ, List.length_append]; omega
        · intro z hz
          rw [told_succ] at hz
          rcases List.mem_append.mp hz with y | y
          · exact tlok z y
          · exact tellsI_ok gd z y
      · rintro Γ' G' ⟨r4, A', rfl, O', f, fq', hq', fr, hG, nown, tl40, tlok⟩
        refine b_one <| s_ret <| e_tup <| a_cons <| e_bin <| e_str <| e_callTy T.str bt_str <| a_cons <| e_var 2 rfl <| a_nil <| c_strI (log_ok (okB_nat (by omega))) <| o_addS (ok2 (m := 4) (by decide) (num_len' (okB_nat (n := m) (by omega)))) ?_
        rw [show ("run " ++ toString ((m : Nat) : Int) : Str) = (Rw.run m).text from run_text m]
        exact a_cons <| e_call q3 m3 (hr.mono (by decide)) <| a_cons <| e_var 3 rfl <| a_nil ⟨_, N.told m, rfl, .inl (.ref hG), tlok, by omega, a_nil ⟨Nat.le_of_ble_eq_true rfl, ⟨_, Sub.refl _, k (.run m) A' G' ⟨h1, h2⟩ ⟨x1, y1, hq', hy1⟩ O' f fq' (fr1.trans fr)⟩⟩⟩
    refine b_cons <| s_set 2 sc_law_run.nd <| e_bin <| e_int <| e_call q1 m1 (hr.mono (by decide)) <| a_cons <| e_var 0 rfl <| a_cons <| e_int <| a_nil ⟨q, x, y, 12, rfl, by decide, by decide, hq, hy, fun m x1 y1 hm hy1 => o_add ?_⟩
    rw [show (1 : Int) + (m : Nat) = ((m + 1 : Nat) : Int) by omega]
    refine b_cons <| s_if <| t_cmp <| e_call q1 m1 (hr.mono (by decide)) <| a_cons <| e_var 0 rfl <| a_cons <| e_int <| a_nil ⟨q, x1, y1, 16, rfl, by decide, by decide, gup_same, hy1, fun c x2 y2 hc hy2 => ?_⟩
    rw [gup_gup]
    refine e_int <| o_eqI ⟨_, rfl, ?_⟩
    by_cases h15 : c = 15
    · subst h15
      refine ite_t (by decide) <| b_one <| s_set 2 sc_law_run.nd <| e_int ?_
      exact main 300 x2 y2 (by decide) (by decide) hy2
    · refine ite_f (decide_eq_false (by omega)) <| b_nil ?_
      exact main (m + 1) x2 y2 (by omega) (by omega) hy2
end
end J
namespace J
open PySem PySem.Spec PyProof.Rows L2 TL
theorem answer_text (n : Nat) : "answer " ++ num (n : Nat) = (Rw.answer n).text := by
  show _ = jn ["answer", num (n : Nat)]
  rw [jn_cons, show ("answer " : Str) = "answer" ++ sp from by decide +kernel]
  rfl
theorem wait_text (l j : Nat) : "wait " ++ num (l : Nat) ++ " " ++ num (j : Nat) = (Rw.wait l j).text := by
  show _ = jn ["wait", num (l : Nat), num (j : Nat)]
  rw [jn_cons, jn_cons, show ("wait " : Str) = "wait" ++ sp from by decide +kernel]
  simp only [sapp_assoc]
  rfl
theorem vals_okB {N : NetS} (g : Good N) : ∀ v ∈ N.vals, okB v := fun v hv => by
  have := vals_bd g v hv
  simp only [okB, MM0, BB] at *; omega
theorem log_okB {N : NetS} (f : Fine N) : (∀ v ∈ N.order.map fun n => ((n : Nat) : Int), okB v) ∧ (N.order.map fun n => ((n : Nat) : Int)).length ≤ 40 := by
  have hm := f.good.many
  have nod : N.order.length ≤ 40 := by have := f.good.nums; omega
  refine ⟨fun v hv => ?_, by rw [List.length_map]; exact nod⟩
  obtain ⟨n, hn, rfl⟩ := List.mem_map.mp hv
  have := f.ord n hn
  exact okB_nat (by omega)
theorem nats_ints (ns : List Nat) : nats ns = .tup ((ns.map fun n => ((n : Nat) : Int)).map D.int) := by unfold nats; rw [List.map_map]; rfl
theorem shown_ne {is : List Int} (h : is ≠ []) : shownT is = numsT is := if_neg h
theorem numsT_len {is : List Int} (h : ∀ i ∈ is, okB i) (hl : is.length ≤ 40) : (numsT is).length ≤ 40 * (601 + 1) := jn_len (m := 601) (n := 40) (fun y hy => by obtain ⟨i, hi, rfl⟩ := List.mem_map.mp hy; exact num_len' (h i hi)) (by rw [List.length_map]; exact hl)
theorem num_pos (i : Int) : 0 < (num i).length := by
  rw [len_tl]; exact List.length_pos_iff.mpr (num_word i).1
theorem numsT_pos {is : List Int} (h : is ≠ []) : 0 < (numsT is).length := by
  unfold numsT
  cases is with
  | nil => exact absurd rfl h
  | cons i r =>
    cases r with
    | nil => exact num_pos i
    | cons j s =>
      rw [List.map_cons, List.map_cons, jn_cons, Str.length_append, Str.length_append]
      have := num_pos i
      omega
theorem todo_le (N : NetS) : N.todo ≤ N.asks.length := by unfold NetS.todo; have := List.length_filter_le (fun n => !N.doneAt n) (List.range N.asks.length); rw [List.length_range] at this; exact this
section
variable {P : Program} {w : World} {K : PySem.W.Frag} {mg : Str → Option Value} {base : Heap} {CNet CDesk CCarried : Addr}
def S_law_look (CNet : Addr) : AS := fun ds G R => RowS CNet ds G R
theorem sc_law_look : FnScope ["_law_pot_here", "_law_own", "_law_choice", "_law_number_here", "_law_net", "_law_k", "_law_boxes", "_law_asked", "_law_level", "_law_line", "_law_found"] ["_law_pot_here", "_law_own"] (defScope (top 116)) := ⟨rfl, rfl, rfl, by decide +kernel, rfl, by decide +kernel, by decide +kernel⟩
theorem f_law_look (T : Blt K mg) (NC : NetC K CNet) (dt : Dat K mg d_law_look "_law_look") (c1 : Fn P w K mg base 1 "_law_draw" ["_law_pot_here", "_law_many"] [] S_law_draw) (c2 : Fn P w K mg base 1 "_law_numbers_text" ["_law_numbers"] [] S_law_numbers_text) (c3 : Mn P w K mg base 1 CNet "board" ["self"] [] (S_Net_board CNet)) (c4 : Mn P w K mg base 1 CNet "log" ["self"] [] (S_Net_log CNet)) (c5 : Mn P w K mg base 2 CNet "todo" ["self"] [] (S_Net_todo CNet)) (c6 : Mn P w K mg base 3 CNet "answer" ["self", "number"] [] (S_Net_answer CNet)) (c7 : Fn P w K mg base 2 "_law_waiting_text" ["_law_rows"] [] S_law_waiting_text) (c8 : Mn P w K mg base 3 CNet "waiting" ["self", "level", "line"] [] (S_Net_waiting CNet)) : Fn P w K mg base 4 "_law_look" ["_law_pot_here", "_law_own"] [] (S_law_look CNet) := by
  obtain ⟨f, fd, F, hm⟩ := dt
  refine ⟨f, cal_of F sc_law_look (fun ds G R h => ?_) (fun _ _ _ _ _ _ us hl => match us, hl with | [_, _], _ => rfl) (fun cdv Ar outer s H E hr ds G R h => ?_), hm⟩
  · obtain ⟨q, o, A, N, rfl, ⟨x, y, hq, hy⟩, O, g, nqo, fq, _⟩ := h
    rfl
  · obtain ⟨q, o, A, N, rfl, ⟨x, y, hq, hy⟩, O, g, nqo, fq, k⟩ := h
    obtain ⟨f1, q1, m1⟩ := c1
    obtain ⟨f2, q2, m2⟩ := c2
    obtain ⟨f3, q3, m3⟩ := c3
    obtain ⟨f4, q4, m4⟩ := c4
    obtain ⟨f5, q5, m5⟩ := c5
    obtain ⟨f6, q6, m6⟩ := c6
    obtain ⟨f7, q7, m7⟩ := c7
    obtain ⟨f8, q8, m8⟩ := c8
    have hm := g.good.many
    have hk4 := g.good.k4
    have hp2 := p2_le hk4
    have h16 := g.good.v16
    have td := todo_le N
    have lo := log_okB g
    refine b_cons <| s_asg (pg_lst rfl (pgs_cons (pg_name (i := 4) sc_law_look.nd rfl (by first | exact Or.inl rfl | exact Or.inr rfl)) (pgs_cons (pg_name (i := 5) sc_law_look.nd rfl (by first | exact Or.inl rfl | exact Or.inr rfl)) (pgs_cons (pg_name (i := 6) sc_law_look.nd rfl (by first | exact Or.inl rfl | exact Or.inr rfl)) (pgs_cons (pg_name (i := 7) sc_law_look.nd rfl (by first | exact Or.inl rfl | exact Or.inr rfl)) pgs_nil))))) <| e_var 1 rfl ⟨_, tg_lstM O.obj (tgs_cons tg_name (tgs_cons tg_name (tgs_cons tg_name (tgs_cons tg_name tgs_nil)))), ?_⟩
    show SB _ _ [some (.ref q), some (.ref o), none, none, some (.ref (A .self)), some (.int (N.k : Nat)), some (.int (N.vals.length : Nat)), some (.int (N.asks.length : Nat)), none, none, none] _ _
    refine b_cons <| s_set 2 sc_law_look.nd <| e_call q1 m1 (hr.mono (by decide)) <| a_cons <| e_var 0 rfl <| a_cons <| e_int <| a_nil ⟨q, x, y, 5, rfl, by decide, by decide, hq, hy, fun c x1 y1 hc hy1 => ?_⟩
    refine b_cons <| s_set 3 sc_law_look.nd <| e_call q1 m1 (hr.mono (by decide)) <| a_cons <| e_var 0 rfl <| a_cons <| e_callB T.max bt_max <| a_cons <| e_int <| a_cons <| e_var 7 rfl <| a_nil <| c_max ?_
    rw [show (if ((N.asks.length : Nat) : Int) > 1 then ((N.asks.length : Nat) : Int) else 1) = ((max 1 N.asks.length : Nat) : Int) by split <;> omega]
    refine a_nil ⟨q, x1, y1, max 1 N.asks.length, rfl, by omega, by omega, gup_same, hy1, fun n x2 y2 hn hy2 => ?_⟩
    rw [gup_gup]
    refine b_cons <| s_par 8 9 sc_law_look.nd <| a_cons <| e_call q1 m1 (hr.mono (by decide)) <| a_cons <| e_var 0 rfl <| a_cons <| e_bin <| e_var 5 rfl <| e_int <| o_add <| a_nil ⟨q, x2, y2, N.k + 1, rfl, by omega, by omega, gup_same, hy2, fun l x3 y3 hl hy3 => ?_⟩
    rw [gup_gup]
    refine a_cons <| e_call q1 m1 (hr.mono (by decide)) <| a_cons <| e_var 0 rfl <| a_cons <| e_bin <| e_int <| e_var 5 rfl <| o_shl (cpow_nat (by omega) (by omega) (by omega) (by omega)) ?_
    rw [p2i]
    refine a_nil ⟨q, x3, y3, 2 ^ N.k, rfl, Nat.two_pow_pos _, by omega, gup_same, hy3, fun j x4 y4 hj hy4 => ?_⟩
    rw [gup_gup]
    refine a_nil ⟨_, _, rfl, ?_⟩
    have O1 := own_pot (G' := gup G q (pot x4 y4)) O nqo fq fun b _ hb => gup_ne hb
    have fr1 : Frm G (ownF q o N.k A) (gup G q (pot x4 y4)) (ownF q o N.k A) := Frm.gup (.inr (.inr rfl))
    have P1 : Pot (gup G q (pot x4 y4)) q := ⟨x4, y4, gup_same, hy4⟩
    have kb := k .board A _ trivial P1 O1 g fq fr1
    have kl := k .log A _ trivial P1 O1 g fq fr1
    have kt := k .todo A _ trivial P1 O1 g fq fr1
    have ka := fun hn => k (.answer n) A _ hn P1 O1 g fq fr1
    have kw := k (.wait l j) A _ ⟨by omega, hj⟩ P1 O1 g fq fr1
    have hns := O1.net
    clear k fr1 P1
    generalize gup G q (pot x4 y4) = G1 at O1 kb kl kt ka kw hns
    have v1 := g.good.v1
    have vne : N.vals ≠ [] := fun z => by rw [z] at v1; cases v1
    rw [show (Rw.due N .board) = numsT N.vals from shown_ne vne] at kb
    refine b_cons <| s_if <| t_w <| w_or <| t_cmp <| e_var 2 rfl <| e_int <| o_eqI ⟨_, rfl, ?_⟩
    by_cases c0 : c = 0
    · subst c0
      refine ite_t (by decide) <| ite_t rfl ?_
      exact b_one <| s_ret <| e_tup <| a_cons <| e_str <| a_cons <| e_call q2 m2 (hr.mono (by decide)) <| a_cons <| e_meth0 NC.cls m3 q3 (hr.mono (by decide)) <| e_var 4 rfl ⟨_, _, rfl, hns.here .self trivial, rfl, A, N, rfl, hns, a_nil ⟨N.vals, rfl, vals_okB g.good, by omega, a_nil ⟨Nat.le_of_ble_eq_true rfl, ⟨_, Sub.refl _, kb⟩⟩⟩⟩
    refine ite_f (decide_eq_false (by omega)) <| w_or1 <| t_w <| w_and <| t_cmp <| e_var 2 rfl <| e_int <| o_eqI ⟨_, rfl, ?_⟩
    by_cases c3 : c = 3 ∧ N.asks.length = 0
    · obtain ⟨rfl, z⟩ := c3
      refine ite_t (by decide) <| w_and1 <| t_cmp <| e_var 7 rfl <| e_int <| o_eqI ⟨_, rfl, ?_⟩
      refine ite_t (decide_eq_true (by omega)) ?_
      exact b_one <| s_ret <| e_tup <| a_cons <| e_str <| a_cons <| e_call q2 m2 (hr.mono (by decide)) <| a_cons <| e_meth0 NC.cls m3 q3 (hr.mono (by decide)) <| e_var 4 rfl ⟨_, _, rfl, hns.here .self trivial, rfl, A, N, rfl, hns, a_nil ⟨N.vals, rfl, vals_okB g.good, by omega, a_nil ⟨Nat.le_of_ble_eq_true rfl, ⟨_, Sub.refl _, kb⟩⟩⟩⟩
    have rest : SB (cxOf CX0 P w K mg base ["_law_pot_here", "_law_own", "_law_choice", "_law_number_here", "_law_net", "_law_k", "_law_boxes", "_law_asked", "_law_level", "_law_line", "_law_found"] d_law_look.qual (defScope (top 116)) f cdv Ar outer s H E).nox ((defBody (top 116)).drop 5) [some (.ref q), some (.ref o), some (.int (c : Nat)), some (.int (n : Nat)), some (.ref (A .self)), some (.int (N.k : Nat)), some (.int (N.vals.length : Nat)), some (.int (N.asks.length : Nat)), some (.int (l : Nat)), some (.int (j : Nat)), none] G1 ⟨fun _ G' => R .non G', fun d G1 => ∃ G2, Sub G2 G1 ∧ R d G2, fun _ _ => False, fun _ _ => False⟩ := by
      refine b_cons <| s_if <| t_cmp <| e_var 2 rfl <| e_int <| o_eqI ⟨_, rfl, ?_⟩
      by_cases c1 : c = 1
      · subst c1
        refine ite_t (by decide) ?_
        refine b_one <| s_ret <| e_tup <| a_cons <| e_str <| a_cons <| e_orS <| e_call q2 m2 (hr.mono (by decide)) <| a_cons <| e_meth0 NC.cls m4 q4 (hr.mono (by decide)) <| e_var 4 rfl ⟨_, _, rfl, hns.here .self trivial, rfl, A, N, rfl, hns, a_nil ⟨N.order.map fun n => ((n : Nat) : Int), by rw [nats_ints]; rfl, lo.1, by omega, ⟨_, rfl, sz16 (Nat.le_trans (numsT_len lo.1 lo.2) (by decide)), ?_⟩⟩⟩
        by_cases e0 : (N.order.map fun n => ((n : Nat) : Int)) = []
        · have kl : R (.tup [.str "log", .str "none"]) G1 := by
            have := kl
            unfold Rw.due shownT at this
            rw [if_pos e0] at this
            exact this
          rw [e0, if_neg (show ¬ ((numsT []).length == 0) = false by decide +kernel)]
          refine e_one <| e_str <| a_nil ⟨Nat.le_of_ble_eq_true rfl, ⟨_, Sub.refl _, kl⟩⟩
        · have kl : R (.tup [.str "log", .str (numsT (N.order.map fun n => ((n : Nat) : Int)))]) G1 := by
            have := kl
            unfold Rw.due at this
            rw [shown_ne e0] at this
            exact this
          have pos := numsT_pos e0
          rw [if_pos (by rw [beq_eq_false_iff_ne]; omega)]
          exact a_nil ⟨Nat.le_of_ble_eq_true rfl, ⟨_, Sub.refl _, kl⟩⟩
      refine ite_f (decide_eq_false (by omega)) <| b_nil ?_
      refine b_cons <| s_if <| t_cmp <| e_var 2 rfl <| e_int <| o_eqI ⟨_, rfl, ?_⟩
      by_cases c2 : c = 2
      · subst c2
        refine ite_t (by decide) ?_
        exact b_one <| s_ret <| e_tup <| a_cons <| e_str <| a_cons <| e_callTy T.str bt_str <| a_cons <| e_meth0 NC.cls m5 q5 (hr.mono (by decide)) <| e_var 4 rfl ⟨_, _, rfl, hns.here .self trivial, rfl, A, N, rfl, hns, hm, a_nil <| c_strI (log_ok (okB_nat (by omega))) <| a_nil ⟨Nat.le_of_ble_eq_true rfl, ⟨_, Sub.refl _, kt⟩⟩⟩
      refine ite_f (decide_eq_false (by omega)) <| b_nil ?_
      refine b_cons <| s_if <| t_cmp <| e_var 2 rfl <| e_int <| o_eqI ⟨_, rfl, ?_⟩
      have ln := num_len' (okB_nat (n := n) (by omega))
      by_cases c4 : c = 3
      · subst c4
        have ha : N.asks.length ≠ 0 := fun z => c3 ⟨rfl, z⟩
        have hn : n < N.asks.length := by omega
        have ka := ka hn
        refine ite_t (by decide) ?_
        refine b_cons <| s_set 10 sc_law_look.nd <| e_meth NC.cls m6 q6 (hr.mono (by decide)) <| e_var 4 rfl ⟨_, _, rfl, hns.here .self trivial, rfl, a_cons <| e_var 3 rfl <| a_nil ⟨A, N, n, rfl, hns, hn, ?_⟩⟩
        refine b_one <| s_ret <| e_tup <| a_cons <| e_bin <| e_str <| e_callTy T.str bt_str <| a_cons <| e_var 3 rfl <| a_nil <| c_strI (log_ok (okB_nat (by omega))) <| o_addS (ok2 (m := 7) (by decide) ln) ?_
        rw [show ("answer " ++ toString ((n : Nat) : Int) : Str) = (Rw.answer n).text from answer_text n]
        rw [show (Rw.due N (.answer n)) = oNum (N.answer n) from rfl] at ka
        refine a_cons <| e_ix <| e_lst <| a_cons <| e_str <| a_cons <| e_callTy T.str bt_str <| a_cons <| e_var 10 rfl ?_
        cases e : N.answer n with
        | none =>
          rw [e] at ka
          exact a_nil <| c_strN <| a_nil ⟨Nat.le_of_ble_eq_true rfl, e_callTy T.int bt_int <| a_cons <| e_cmp <| e_var 10 rfl <| e_non <| o_isnot <| a_nil <| c_intB <| i_lst (n := 0) .lst rfl <| a_nil ⟨Nat.le_of_ble_eq_true rfl, ⟨_, Sub.refl _, ka⟩⟩⟩
        | some v =>
          rw [e] at ka
          exact a_nil <| c_strI (log_ok (ansAt_ok g.good e)) <| a_nil ⟨Nat.le_of_ble_eq_true rfl, e_callTy T.int bt_int <| a_cons <| e_cmp <| e_var 10 rfl <| e_non <| o_isnot <| a_nil <| c_intB <| i_lst (n := 1) .lst rfl <| a_nil ⟨Nat.le_of_ble_eq_true rfl, ⟨_, Sub.refl _, ka⟩⟩⟩
      refine ite_f (decide_eq_false (by omega)) <| b_nil ?_
      have l1 := num_len' (okB_nat (n := l) (by omega))
      have l2 := num_len' (okB_nat (n := j) (by omega))
      have l3 : ("wait " : Str).length ≤ 5 := by decide
      have l4 : (" " : Str).length ≤ 1 := by decide
      refine b_one <| s_ret <| e_tup <| a_cons <| e_bin <| e_bin <| e_bin <| e_str <| e_callTy T.str bt_str <| a_cons <| e_var 8 rfl <| a_nil <| c_strI (log_ok (okB_nat (by omega))) <| o_addS (ok2 l3 l1) <| e_str <| o_addS (ok2 (la l3 l1) l4) <| e_callTy T.str bt_str <| a_cons <| e_var 9 rfl <| a_nil <| c_strI (log_ok (okB_nat (by omega))) <| o_addS (ok2 (la (la l3 l1) l4) l2) ?_
      rw [show ("wait " ++ toString ((l : Nat) : Int) ++ " " ++ toString ((j : Nat) : Int) : Str) = (Rw.wait l j).text from wait_text l j]
      have hl2 : l ≤ N.k := by omega
      exact a_cons <| e_call q7 m7 (hr.mono (by decide)) <| a_cons <| e_meth NC.cls m8 q8 (hr.mono (by decide)) <| e_var 4 rfl ⟨_, _, rfl, hns.here .self trivial, rfl, a_cons <| e_var 8 rfl <| a_cons <| e_var 9 rfl <| a_nil ⟨A, N, l, j, rfl, hns, hk4, hl2, hj, a_nil ⟨N.rows l j, rfl, rows_ok g.good hl2 hj, by have := g.good.rowLen hl2 hj; omega, a_nil ⟨Nat.le_of_ble_eq_true rfl, ⟨_, Sub.refl _, kw⟩⟩⟩⟩⟩
    by_cases c4 : c = 3
    · have ha : N.asks.length ≠ 0 := fun z => c3 ⟨c4, z⟩
      refine ite_t (decide_eq_true (by omega)) <| w_and1 <| t_cmp <| e_var 7 rfl <| e_int <| o_eqI ⟨_, rfl, ?_⟩
      exact ite_f (decide_eq_false (by omega)) <| b_nil rest
    · exact ite_f (decide_eq_false (by omega)) <| ite_f rfl <| b_nil rest
end
end J
namespace J
open PySem PySem.Spec PyProof.Rows L2 TL
theorem fvs_nats : ∀ ws : List Nat, fvs (ws.map fun n => D.int (n : Nat)) = some (ws.map fun n => V.int (n : Nat))
  | [] => rfl
  | x :: r => by
    show (match fv (.int (x : Nat)), fvs (r.map fun n => D.int (n : Nat)) with | some a, some b => some (a :: b) | _, _ => none) = _
    rw [fvs_nats r]
    rfl
theorem eqV_nat {a b : Nat} : eqV (.int (a : Nat)) (.int (b : Nat)) = decide (a = b) := by
  show (((a : Nat) : Int) == ((b : Nat) : Int)) = _
  by_cases h : a = b
  · subst h; simp
  · rw [decide_eq_false h, beq_eq_false_iff_ne]; omega
theorem inV_nats {x : Nat} : ∀ ws : List Nat, inV (.int (x : Nat)) (ws.map fun n => V.int (n : Nat)) = decide (x ∈ ws)
  | [] => rfl
  | y :: r => by
    show (eqV (.int (y : Nat)) (.int (x : Nat)) || inV (.int (x : Nat)) (r.map fun n => V.int (n : Nat))) = _
    rw [eqV_nat, inV_nats r]
    by_cases h : y = x
    · subst h; simp
    · rw [decide_eq_false h, Bool.false_or]
      exact decide_eq_decide.mpr ⟨fun z => List.mem_cons_of_mem _ z, fun z => (List.mem_cons.mp z).resolve_left fun q => h q.symm⟩
theorem parted_text {p : Str} {xs : List (List Str)} {q : Str} (hq : q = p ++ sp) (h0 : xs ≠ []) (h : ∀ x ∈ xs, x ≠ []) : q ++ Txt.join "; " (xs.map jn) = jn (p :: allW xs) := by
  have e := allW_jn h0 h
  rw [show Txt.join "; " (xs.map jn) = Str.join smc (xs.map jn) from join_eq smc _, e, hq]
  exact (jn_app (a := [p]) (b := allW xs) (List.cons_ne_nil _ _) (allW_ne h0 h)).symm
theorem thn_text {xs : List Deed} (h0 : xs ≠ []) : "then " ++ Txt.join "; " (xs.map deedT) = (Rw.thn xs).text := by
  have := parted_text (p := "then") (q := "then ") (xs := xs.map deedW) (by decide +kernel) (fun z => h0 (List.map_eq_nil_iff.mp z)) fun x hx => by obtain ⟨y, _, rfl⟩ := List.mem_map.mp hx; exact deedW_ne y
  rw [List.map_map] at this
  exact this
theorem round_text {as : List Ask} (h0 : as ≠ []) : "round " ++ Txt.join "; " (as.map askT) = (Rw.round as).text := by
  have := parted_text (p := "round") (q := "round ") (xs := as.map askW) (by decide +kernel) (fun z => h0 (List.map_eq_nil_iff.mp z)) fun x hx => by obtain ⟨y, _, rfl⟩ := List.mem_map.mp hx; exact List.cons_ne_nil _ _
  rw [List.map_map] at this
  exact this
def ask1 (a : Ask) : Str := num (a.hand : Nat) ++ " " ++ num (a.box : Nat) ++ " " ++ deedT a.deed
theorem ask1_eq (a : Ask) : ask1 a = askT a := by
  have h := put_text a
  unfold ask1 askT askW
  cases e : deedW a.deed with
  | nil => exact absurd e (deedW_ne _)
  | cons y s =>
    unfold deedT
    rw [e, jn_cons, jn_cons]
    simp only [sapp_assoc]
    rfl
theorem ask1_len {a : Ask} (h1 : a.hand ≤ 100000) (h2 : a.box ≤ 100000) (h3 : a.deed.fit) : (ask1 a).length ≤ 3100 := by
  have x := num_len42 (okB_nat h1)
  have y := num_len42 (okB_nat h2)
  have z := deedT_len h3
  have e : (" " : Str).length = 1 := rfl
  unfold ask1
  rw [Str.length_append, Str.length_append, Str.length_append, Str.length_append]
  omega
def ThnR : AS := fun ds G R => ∃ q x y, ds = [.ref q] ∧ G q = some (pot x y) ∧ yOk y ∧ ∀ xs x' y', (xs ≠ [] ∧ xs.length ≤ 4 ∧ ∀ z ∈ xs, Deed.ok z ∧ Deed.bd MM0 z) → yOk y' → R (.tup [.str (Rw.thn xs).text, .str (deedT (foldD xs))]) (gup G q (pot x' y'))
section
variable {P : Program} {w : World} {K : PySem.W.Frag} {mg : Str → Option Value} {base : Heap} {CNet CDesk CCarried : Addr}
def S_law_then : AS := fun ds G R => ThnR ds G R
theorem sc_law_then : FnScope ["_law_pot_here", "_law_some", "_law_found", "_law_deed_here", "_law_k"] ["_law_pot_here"] (defScope (top 117)) := ⟨rfl, rfl, rfl, by decide +kernel, rfl, by decide +kernel, by decide +kernel⟩
theorem f_law_then (T : Blt K mg) (dt : Dat K mg d_law_then "_law_then") (c1 : Fn P w K mg base 1 "_law_draw" ["_law_pot_here", "_law_many"] [] S_law_draw) (c2 : Fn P w K mg base 3 "_law_deed" ["_law_pot_here"] [] S_law_deed) (c3 : Fn P w K mg base 2 "_law_behind" ["_law_one", "_law_other"] [] S_law_behind) (c4 : Fn P w K mg base 1 "_law_deed_text" ["_law_deed_here"] [] S_law_deed_text) : Fn P w K mg base 4 "_law_then" ["_law_pot_here"] [] S_law_then := by
  obtain ⟨f, fd, F, hm⟩ := dt
  refine ⟨f, cal_of F sc_law_then (fun ds G R h => ?_) (fun _ _ _ _ _ _ us hl => match us, hl with | [_], _ => rfl) (fun cdv Ar outer s H E hr ds G R h => ?_), hm⟩
  · obtain ⟨q, x, y, rfl, hq, hy, _⟩ := h
    rfl
  · obtain ⟨q, x, y, rfl, hq, hy, k⟩ := h
    obtain ⟨f1, q1, m1⟩ := c1
    obtain ⟨f2, q2, m2⟩ := c2
    obtain ⟨f3, q3, m3⟩ := c3
    obtain ⟨f4, q4, m4⟩ := c4
    refine b_cons <| s_setLc 1 [("_law_k", 4)] sc_law_then.nd (blkOk_by rfl) (fun _ _ _ _ _ => (pg_name (i := 4) sc_law_then.nd rfl (Or.inl rfl))) (sw_true rfl rfl rfl (by decide +kernel)) <| n_range1 T.rng <| e_bin <| e_int <| e_call q1 m1 (hr.mono (by decide)) <| a_cons <| e_var 0 rfl <| a_cons <| e_int <| a_nil ⟨q, x, y, 4, rfl, by decide, by decide, hq, hy, fun m x1 y1 hm hy1 => o_add ⟨_, rfl, by omega, by omega, ?_⟩⟩
    rw [show (1 + ((m : Nat) : Int)).toNat = m + 1 by omega]
    refine ⟨fun i acc G' => ∃ (xs : List Deed) (x6 y6 : Int), acc = xs.map dDeed ∧ xs.length = i ∧ (∀ v ∈ xs, v.ok ∧ v.bd MM0) ∧ yOk y6 ∧ G' = gup G q (pot x6 y6), ⟨[], x1, y1, rfl, rfl, (fun _ h => nomatch h), hy1, rfl⟩, fun _ _ _ _ _ => trivial, by omega, ?_, ?_⟩
    · rintro i acc G' hi ⟨vs, x6, y6, rfl, hl, hb, hy6, rfl⟩
      refine ⟨_, by simp, tg_name, fun s H0 C cl fp => q_nil (iteTT fun s H0 C cl fp => ?_)⟩
      exact e_call q2 m2 (hr.mono (by decide)) <| a_cons <| e_var 0 rfl <| a_nil ⟨q, x6, y6, rfl, gup_same, hy6, fun v x7 y7 v1 v2 hy7 => ⟨vs ++ [v], x7, y7, by rw [List.map_append]; rfl, by rw [List.length_append, hl]; rfl, fun u hu => by
        rcases List.mem_append.mp hu with z | z
        · exact hb u z
        · rw [List.mem_singleton.mp z]; exact ⟨v1, v2⟩, hy7, gup_gup⟩⟩
    rintro acc G' ⟨xs, x6, y6, rfl, hl, hb, hy6, rfl⟩
    have h0 : xs ≠ [] := fun z => by rw [z] at hl; cases hl
    have hl4 : xs.length ≤ 4 := by omega
    have k := k xs x6 y6 ⟨h0, hl4, hb⟩ hy6
    generalize gup G q (pot x6 y6) = G1 at k
    refine b_cons <| s_set 2 sc_law_then.nd <| e_tup <| a_cons <| e_int <| a_cons <| e_non <| a_cons <| e_non <| a_nil ⟨Nat.le_of_ble_eq_true rfl, ?_⟩
    refine b_cons <| s_for (pg_name (i := 3) sc_law_then.nd rfl (by first | exact Or.inl rfl | exact Or.inr rfl)) PassesOwn.never <| n_list <| e_var 1 rfl ⟨_, .lst, ?_⟩
    refine ⟨fun i Γ G' => ∃ (r3 r4 : Option D), Γ = [some (.ref q), some (.lst (xs.map dDeed)), some (dDeed ((xs.take i).foldl behind look)), r3, r4] ∧ G' = G1, ⟨_, _, rfl, rfl⟩, fun _ _ _ _ _ => trivial, ?_, ?_⟩
    · rintro i Γ' G' hi ⟨r3, r4, rfl, rfl⟩
      rw [List.length_map] at hi
      refine ⟨_, tg_name, ?_⟩
      rw [at0_map hi]
      refine b_one <| s_set 2 sc_law_then.nd <| e_call q3 m3 (hr.mono (by decide)) <| a_cons <| e_var 2 rfl <| a_cons <| e_var 3 rfl <| a_nil ⟨_, _, rfl, ?_⟩
      rw [← foldD_succ hi]
      exact ⟨_, _, rfl, rfl⟩
    rintro Γ' G' ⟨r3, r4, rfl, rfl⟩
    rw [List.length_map, List.take_length]
    have f := foldD_fit hl4 hb
    refine b_one <| s_ret <| e_tup <| a_cons <| e_bin <| e_str <| e_join <| e_str ⟨_, rfl, e_lc [("_law_deed_here", 3)] sc_law_then.nd (blkOk_by rfl) (fun _ _ _ _ _ => (pg_name (i := 3) sc_law_then.nd rfl (Or.inl rfl))) <| n_list <| e_var 1 rfl ⟨_, .lst, ?_⟩⟩
    refine lc_map (fun i => .str (deedT (xs.getD i look))) (fun i => [(3, dDeed (xs.getD i look))]) trivial (by rw [List.length_map]; omega) (by simp) (fun i hi => ?_) (fun i hi s H0 C cl fp => ?_) ?_
    · rw [List.length_map] at hi
      rw [at0_map hi, getD_at _ hi]
      exact tg_name
    · rw [List.length_map] at hi
      rw [getD_at _ hi]
      have h := hb _ (List.getElem_mem hi)
      exact e_call q4 m4 (hr.mono (by decide)) <| a_cons <| e_var 3 rfl <| a_nil ⟨_, rfl, h.1, bd1_fit h.2, rfl, rfl⟩
    rw [List.length_map, map_range_eq xs _ (fun z => D.str (deedT z)) fun i x e => by rw [List.getD_eq_getElem?_getD, e]; rfl]
    rw [show xs.map (fun z => D.str (deedT z)) = (xs.map deedT).map D.str by rw [List.map_map]; rfl]
    have hd : ∀ y ∈ xs.map deedT, y.length ≤ 3000 := fun y hy => by obtain ⟨p, hp, rfl⟩ := List.mem_map.mp hy; exact deedT_len (bd1_fit (hb p hp).2)
    refine ⟨_, .lst, join_size (m := 3000) (n := 4) hd (by rw [List.length_map]; exact hl4) (by decide) (by decide), o_addS ?_ ?_⟩
    · have e := thn_text h0
      have := congrArg Str.length e
      rw [Str.length_append] at this
      rw [this]
      have hc := allW_cnt (m := 6) (xs := xs.map deedW) fun x hx => by obtain ⟨y, _, rfl⟩ := List.mem_map.mp hx; exact deedW_cnt y
      rw [List.length_map] at hc
      have hw : ∀ w ∈ allW (xs.map deedW), w.length ≤ 602 := allW_len (m := 601) fun x hx' w hw => by obtain ⟨y, hy, rfl⟩ := List.mem_map.mp hx'; exact deedW_len (bd1_fit (hb y hy).2) w hw
      exact Nat.le_trans (jn_len (m := 602) (n := 40) (ws := "then" :: allW (xs.map deedW)) (fun y hy => by
        rcases List.mem_cons.mp hy with rfl | hy
        · decide
        · exact hw y hy) (by rw [List.length_cons]; omega)) (by decide)
    rw [thn_text h0]
    exact a_cons <| e_call q4 m4 (hr.mono (by decide)) <| a_cons <| e_var 2 rfl <| a_nil ⟨foldD xs, rfl, f.1, f.2, a_nil ⟨Nat.le_of_ble_eq_true rfl, ⟨_, Sub.refl _, k⟩⟩⟩
def S_law_round (CNet : Addr) : AS := fun ds G R => RowS CNet ds G R
theorem sc_law_round : FnScope ["_law_pot_here", "_law_own", "_law_some", "_law_turn", "_law_texts", "_law_answers", "_law_net", "_law_k", "_law_boxes", "_law_asked", "_law_ask", "_law_hand", "_law_box", "_law_deed_here", "_law_one"] ["_law_pot_here", "_law_own"] (defScope (top 118)) := ⟨rfl, rfl, rfl, by decide +kernel, rfl, by decide +kernel, by decide +kernel⟩
theorem f_law_round (T : Blt K mg) (NC : NetC K CNet) (dt : Dat K mg d_law_round "_law_round") (c1 : Fn P w K mg base 1 "_law_draw" ["_law_pot_here", "_law_many"] [] S_law_draw) (c2 : Fn P w K mg base 3 "_law_deed" ["_law_pot_here"] [] S_law_deed) (c3 : Fn P w K mg base 1 "_law_deed_text" ["_law_deed_here"] [] S_law_deed_text) (c4 : Fn P w K mg base 8 "one_round" ["k", "board", "asks", "firsts"] [] S_one_round) (c5 : Mn P w K mg base 1 CNet "board" ["self"] [] (S_Net_board CNet)) (c6 : Fn P w K mg base 4 "straight" ["k"] [] S_straight) (c7 : Fn P w K mg base 1 "_law_numbers_text" ["_law_numbers"] [] S_law_numbers_text) : Fn P w K mg base 9 "_law_round" ["_law_pot_here", "_law_own"] [] (S_law_round CNet) := by
  obtain ⟨f, fd, F, hm⟩ := dt
  refine ⟨f, cal_of F sc_law_round (fun ds G R h => ?_) (fun _ _ _ _ _ _ us hl => match us, hl with | [_, _], _ => rfl) (fun cdv Ar outer s H E hr ds G R h => ?_), hm⟩
  · obtain ⟨q, o, A, N, rfl, ⟨x, y, hq, hy⟩, O, g, nqo, fq, _⟩ := h
    rfl
  · obtain ⟨q, o, A, N, rfl, ⟨x, y, hq, hy⟩, O, g, nqo, fq, k⟩ := h
    obtain ⟨f1, q1, m1⟩ := c1
    obtain ⟨f2, q2, m2⟩ := c2
    obtain ⟨f3, q3, m3⟩ := c3
    obtain ⟨f4, q4, m4⟩ := c4
    obtain ⟨f5, q5, m5⟩ := c5
    obtain ⟨f6, q6, m6⟩ := c6
    obtain ⟨f7, q7, m7⟩ := c7
    have hk4 := g.good.k4
    have hp2 := p2_le hk4
    have h16 := g.good.v16
    have h1v := g.good.v1
    have hv := vals_bd g.good
    refine b_cons <| s_asg (pg_lst rfl (pgs_cons (pg_name (i := 6) sc_law_round.nd rfl (by first | exact Or.inl rfl | exact Or.inr rfl)) (pgs_cons (pg_name (i := 7) sc_law_round.nd rfl (by first | exact Or.inl rfl | exact Or.inr rfl)) (pgs_cons (pg_name (i := 8) sc_law_round.nd rfl (by first | exact Or.inl rfl | exact Or.inr rfl)) (pgs_cons (pg_name (i := 9) sc_law_round.nd rfl (by first | exact Or.inl rfl | exact Or.inr rfl)) pgs_nil))))) <| e_var 1 rfl ⟨_, tg_lstM O.obj (tgs_cons tg_name (tgs_cons tg_name (tgs_cons tg_name (tgs_cons tg_name tgs_nil)))), ?_⟩
    refine b_cons <| s_set 2 sc_law_round.nd <| e_lstM <| a_nil ⟨Nat.zero_le _, fun p hp => ?_⟩
    have npq : p ≠ q := fun z => by rw [z, hq] at hp; cases hp
    refine b_cons <| s_for (pg_name (i := 3) sc_law_round.nd rfl (by first | exact Or.inl rfl | exact Or.inr rfl)) PassesOwn.never <| n_range1 T.rng <| e_bin <| e_int <| e_call q1 m1 (hr.mono (by decide)) <| a_cons <| e_var 0 rfl <| a_cons <| e_int <| a_nil ⟨q, x, y, 5, rfl, by decide, by decide, by rw [gup_ne (Ne.symm npq)]; exact hq, hy, fun m x1 y1 hm hy1 => o_add ⟨_, rfl, by omega, by omega, ?_⟩⟩
    rw [show (1 + ((m : Nat) : Int)).toNat = m + 1 by omega]
    refine ⟨fun i Γ G' => ∃ (r3 r10 r14 : Option D) (as : List Ask) (x2 y2 : Int), Γ = [some (.ref q), some (.ref o), some (.ref p), r3, none, none, some (.ref (A .self)), some (.int (N.k : Nat)), some (.int (N.vals.length : Nat)), some (.int (N.asks.length : Nat)), r10, none, none, none, r14] ∧ as.length ≤ i ∧ (0 < i → as ≠ []) ∧ (∀ z ∈ as, z.ok N.vals.length ∧ z.hand < 2 ^ N.k ∧ z.deed.bd MM0) ∧ (as.map Ask.hand).Nodup ∧ yOk y2 ∧ G' q = some (pot x2 y2) ∧ G' p = some (.lst (as.map dAsk)) ∧ ∀ b, G b ≠ none → b ≠ q → G' b = G b, ⟨none, none, none, [], x1, y1, rfl, Nat.zero_le _, (fun h => absurd h (Nat.lt_irrefl _)), (fun _ h => nomatch h), List.nodup_nil, hy1, gup_same, by rw [gup_ne npq, gup_same]; rfl, fun b hb hn => by rw [gup_ne hn, gup_ne (ne_live hb hp)]⟩, fun _ _ _ _ _ => trivial, ?_, ?_⟩
    · rintro i Γ' G' hi ⟨r3, r10, r14, as, x2, y2, rfl, hl, hz, hpl, hnd, hy2, hq2, hp2', fr⟩
      refine ⟨_, tg_name, ?_⟩
      show SB _ _ [some (.ref q), some (.ref o), some (.ref p), some (.int (i : Nat)), none, none, some (.ref (A .self)), some (.int (N.k : Nat)), some (.int (N.vals.length : Nat)), some (.int (N.asks.length : Nat)), r10, none, none, none, r14] _ _
      refine b_cons <| s_set 10 sc_law_round.nd <| e_tup <| a_cons <| e_call q1 m1 (hr.mono (by decide)) <| a_cons <| e_var 0 rfl <| a_cons <| e_bin <| e_int <| e_var 7 rfl <| o_shl (cpow_nat (by omega) (by omega) (by omega) (by omega)) ?_
      rw [p2i]
      refine a_nil ⟨q, x2, y2, 2 ^ N.k, rfl, Nat.two_pow_pos _, by omega, hq2, hy2, fun h x3 y3 hh hy3 => ?_⟩
      refine a_cons <| e_call q1 m1 (hr.mono (by decide)) <| a_cons <| e_var 0 rfl <| a_cons <| e_var 8 rfl <| a_nil ⟨q, x3, y3, N.vals.length, rfl, by omega, by omega, gup_same, hy3, fun b x4 y4 hb hy4 => ?_⟩
      rw [gup_gup]
      refine a_cons <| e_call q2 m2 (hr.mono (by decide)) <| a_cons <| e_var 0 rfl <| a_nil ⟨q, x4, y4, rfl, gup_same, hy4, fun z x5 y5 zo zb hy5 => ?_⟩
      rw [gup_gup]
      refine a_nil ⟨Nat.le_of_ble_eq_true rfl, ?_⟩
      have hh16 := p2_lt16 hk4 hh
      have hp5 : gup G' q (pot x5 y5) p = some (.lst (as.map dAsk)) := by rw [gup_ne npq]; exact hp2'
      have fr5 : ∀ b, G b ≠ none → b ≠ q → gup G' q (pot x5 y5) b = G b := fun b hb h => by rw [gup_ne h]; exact fr b hb h
      let a0 : Ask := ⟨0, 0, look⟩
      refine b_one <| s_if <| t_cmp <| e_ix <| e_var 10 rfl <| e_int <| i_tup (n := 0) .tup rfl <| e_lc [("_law_one", 14)] sc_law_round.nd (blkOk_by rfl) (fun _ _ _ _ _ => (pg_name (i := 14) sc_law_round.nd rfl (Or.inl rfl))) <| n_list <| e_var 2 rfl ⟨_, .ref hp5, ?_⟩
      refine lc_map (fun i => .int ((as.getD i a0).hand : Nat)) (fun i => [(14, dAsk (as.getD i a0))]) hp5 (by rw [List.length_map]; omega) (by simp) (fun i hi => ?_) (fun i hi s H0 C cl fp => ?_) ?_
      · rw [List.length_map] at hi
        rw [at0_map hi, getD_at _ hi]
        exact tg_name
      · rw [List.length_map] at hi
        rw [getD_at _ hi]
        exact e_ix <| e_var 14 rfl <| e_int <| i_tup (n := 0) .tup rfl ⟨rfl, rfl⟩
      rw [List.length_map, map_range_eq as _ (fun z => D.int (z.hand : Nat)) fun i x e => by rw [List.getD_eq_getElem?_getD, e]; rfl]
      rw [show as.map (fun z => D.int (z.hand : Nat)) = (as.map Ask.hand).map fun n => D.int (n : Nat) by rw [List.map_map]; rfl]
      refine o_notInFL (x := .int (h : Nat)) .lst ⟨_, rfl, ?_⟩ rfl (fvs_nats _)
      rw [inV_nats]
      by_cases hmem : h ∈ as.map Ask.hand
      · rw [decide_eq_true hmem]
        exact iteFF <| b_nil ⟨_, _, _, as, x5, y5, rfl, by omega, (fun _ z => by rw [z] at hmem; cases hmem), hpl, hnd, hy5, gup_same, hp5, fr5⟩
      · rw [decide_eq_false hmem]
        have aok : (⟨h, b, z⟩ : Ask).ok N.vals.length := ⟨by show h < 16; omega, hb, zo⟩
        refine iteTT <| b_one <| s_expr <| e_bm PySem.F.plainAttrs_list PySem.F.slot_list_append PySem.F.type_list_append <| e_var 2 rfl ⟨.inr (.inl ⟨rfl, _, .ref hp5⟩), a_cons <| e_var 10 rfl <| a_nil <| m_append hp5 (by rw [List.length_map]; omega) ⟨_, _, _, as ++ [⟨h, b, z⟩], x5, y5, rfl, by rw [List.length_append]; show as.length + 1 ≤ i + 1; omega, (fun _ => by simp), fun u hu => ?_, ?_, hy5, by rw [gup_ne (Ne.symm npq), gup_same], by rw [gup_same, List.map_append]; rfl, fun b hb h => by rw [gup_ne (ne_live hb hp)]; exact fr5 b hb h⟩⟩
        · rcases List.mem_append.mp hu with z1 | z1
          · exact hpl u z1
          · rw [List.mem_singleton.mp z1]; exact ⟨aok, hh, zb⟩
        · rw [List.map_append, List.nodup_append]
          refine ⟨hnd, by simp, fun u hu v hv e => ?_⟩
          have hv : v = h := List.mem_singleton.mp hv
          rw [← hv, ← e] at hmem
          exact hmem hu
    rintro Γ' G' ⟨r3, r10, r14, as, x2, y2, rfl, hl, hz, hpl, hnd, hy2, hq2, hpp, fr⟩
    have O2 := own_pot O nqo fq fr
    have h0 : as ≠ [] := hz (by omega)
    have hl5 : as.length ≤ 5 := by omega
    have fr2 : Frm G (ownF q o N.k A) G' (ownF q o N.k A) := frm_pot fr
    have p16 : ∀ a ∈ as, a.hand ≤ 100000 ∧ a.box ≤ 100000 ∧ a.deed.ok ∧ a.deed.fit := fun a ha => by
      obtain ⟨z1, z2, z3⟩ := hpl a ha
      have := p2_lt16 hk4 z2
      have := z1.2.1
      exact ⟨by omega, by omega, z1.2.2, bd1_fit z3⟩
    let a0 : Ask := ⟨0, 0, look⟩
    have e1 : (" " : Str).length = 1 := rfl
    refine b_cons <| s_setLc 4 [("_law_hand", 11), ("_law_box", 12), ("_law_deed_here", 13)] sc_law_round.nd (blkOk_by rfl) (by intro _ _ _ _ _; refine pg3 (i := 11) (j := 12) (l := 13) (K := K) ?_ ?_ ?_ ?_ ?_ ?_ ?_ ?_ ?_ ?_ ?_ ?_ <;> first | exact sc_law_round.nd | rfl | exact Or.inl rfl | exact Or.inr rfl) (sw_true rfl rfl rfl (by decide +kernel)) <| n_list <| e_var 2 rfl ⟨_, .ref hpp, ?_⟩
    refine lc_map (fun i => .str (ask1 (as.getD i a0))) (fun i => [(11, .int ((as.getD i a0).hand : Nat)), (12, .int ((as.getD i a0).box : Nat)), (13, dDeed (as.getD i a0).deed)]) hpp (by rw [List.length_map]; omega) (by intro i u hu; simp at hu; rcases hu with e | e | e <;> subst e <;> simp) (fun i hi => ?_) (fun i hi s H0 C cl fp => ?_) ?_
    · rw [List.length_map] at hi
      rw [at0_map hi, getD_at _ hi]
      exact tg_tup (tgs_cons tg_name (tgs_cons tg_name (tgs_cons tg_name tgs_nil)))
    · rw [List.length_map] at hi
      rw [getD_at _ hi]
      have h := p16 _ (List.getElem_mem hi)
      have n1 := num_len' (okB_nat h.1)
      have n2 := num_len' (okB_nat h.2.1)
      have n3 := deedT_len h.2.2.2
      have l2 : (" " : Str).length ≤ 1 := by decide
      exact e_bin <| e_bin <| e_bin <| e_bin <| e_callTy T.str bt_str <| a_cons <| e_var 11 rfl <| a_nil <| c_strI (log_ok (okB_nat h.1)) <| e_str <| o_addS (ok2 n1 l2) <| e_callTy T.str bt_str <| a_cons <| e_var 12 rfl <| a_nil <| c_strI (log_ok (okB_nat h.2.1)) <| o_addS (ok2 (la n1 l2) n2) <| e_str <| o_addS (ok2 (la (la n1 l2) n2) l2) <| e_call q3 m3 (hr.mono (by decide)) <| a_cons <| e_var 13 rfl <| a_nil ⟨_, rfl, h.2.2.1, h.2.2.2, o_addS (ok2 (la (la (la n1 l2) n2) l2) n3) ⟨rfl, rfl⟩⟩
    rw [List.length_map, map_range_eq as _ (fun z => D.str (ask1 z)) fun i x e => by rw [List.getD_eq_getElem?_getD, e]; rfl]
    rw [show as.map (fun z => D.str (ask1 z)) = (as.map askT).map D.str by rw [List.map_map]; exact List.map_congr_left fun a _ => congrArg D.str (ask1_eq a)]
    have hA : ∀ y ∈ as.map askT, y.length ≤ 3100 := fun y hy => by obtain ⟨a, ha, rfl⟩ := List.mem_map.mp hy; rw [← ask1_eq]; exact ask1_len (p16 a ha).1 (p16 a ha).2.1 (p16 a ha).2.2.2
    have hlen : (roundA N.vals N.k as).length = as.length := by unfold roundA; rw [List.length_map, List.length_range]
    have hra := roundA_ok hk4 (by omega) hv fun a ha => ⟨(hpl a ha).1.2.1, (hpl a ha).2.2⟩
    show SB _ _ [some (.ref q), some (.ref o), some (.ref p), r3, some (.lst ((as.map askT).map D.str)), none, some (.ref (A .self)), some (.int (N.k : Nat)), some (.int (N.vals.length : Nat)), some (.int (N.asks.length : Nat)), r10, none, none, none, r14] _ _
    refine b_cons <| s_set 5 sc_law_round.nd <| e_ix <| e_call q4 m4 (hr.mono (by decide)) <| a_cons <| e_var 7 rfl <| a_cons <| e_meth0 NC.cls m5 q5 (hr.mono (by decide)) <| e_var 6 rfl ⟨_, _, rfl, O2.net.here .self trivial, rfl, A, N, rfl, O2.net, a_cons <| e_callTy T.tup bt_tup <| a_cons <| e_var 2 rfl <| a_nil <| c_tupL (.ref hpp) <| a_cons <| e_call q6 m6 (hr.mono (by decide)) <| a_cons <| e_var 7 rfl <| a_nil ⟨N.k, rfl, hk4, a_nil ⟨N.k, N.vals, as, rfl, hk4, h1v, h16, by omega, fun a ha => ⟨(hpl a ha).1, (hpl a ha).2.1, (hpl a ha).2.2⟩, hnd, hv, fun G2 d2 sb => e_int <| i_tup (n := 0) .tup rfl ?_⟩⟩⟩
    have k := k (.round as) A G2 ⟨h0, hl5, hpl, hnd⟩ ⟨x2, y2, sb _ _ hq2, hy2⟩ (O2.move fun b hb => sub_at sb (O2.live hb)) g fq (fr2.trans (Frm.sub sb))
    refine b_one <| s_ret <| e_tup <| a_cons <| e_bin <| e_str <| e_join <| e_str ⟨_, rfl, e_var 4 rfl ⟨_, .lst, join_size (m := 3100) (n := 5) hA (by rw [List.length_map]; exact hl5) (by decide) (by decide), o_addS ?_ ?_⟩⟩
    · have e := round_text h0
      have := congrArg Str.length e
      rw [Str.length_append] at this
      rw [this]
      have hc := allW_cnt (m := 8) (xs := as.map askW) fun x hx => by obtain ⟨y, _, rfl⟩ := List.mem_map.mp hx; exact askW_cnt y
      rw [List.length_map] at hc
      have hw : ∀ w ∈ allW (as.map askW), w.length ≤ 602 := allW_len (m := 601) fun x hx' w hw => by obtain ⟨y, hy, rfl⟩ := List.mem_map.mp hx'; exact askW_len (p16 y hy).2.2.2 (p16 y hy).1 (p16 y hy).2.1 w hw
      exact Nat.le_trans (jn_len (m := 602) (n := 60) (ws := "round" :: allW (as.map askW)) (fun y hy => by
        rcases List.mem_cons.mp hy with rfl | hy
        · decide
        · exact hw y hy) (by rw [List.length_cons]; omega)) (by decide)
    rw [round_text h0]
    rw [show Rw.due N (.round as) = numsT (roundA N.vals N.k as) from shown_ne fun z => by rw [z] at hlen; exact h0 (List.length_eq_zero_iff.mp hlen.symm)] at k
    exact a_cons <| e_call q7 m7 (hr.mono (by decide)) <| a_cons <| e_var 5 rfl <| a_nil ⟨roundA N.vals N.k as, rfl, hra, by omega, a_nil ⟨Nat.le_of_ble_eq_true rfl, ⟨_, Sub.refl _, k⟩⟩⟩
end
end J
namespace J
open PySem PySem.Spec PyProof.Rows L2 TL
def dRow (N : NetS) (r : Rw) : D := .tup [.str r.text, .str (r.due N)]
def Still (N : NetS) (r : Rw) : Prop := r.ok N ∧ r.next N = N
section
variable {P : Program} {w : World} {K : PySem.W.Frag} {mg : Str → Option Value} {base : Heap} {CNet CDesk CCarried : Addr}
def S_law_row (CNet : Addr) : AS := fun ds G R => RowS CNet ds G R
theorem sc_law_row : FnScope ["_law_pot_here", "_law_own", "_law_choice"] ["_law_pot_here", "_law_own"] (defScope (top 119)) := ⟨rfl, rfl, rfl, by decide +kernel, rfl, by decide +kernel, by decide +kernel⟩
theorem f_law_row (T : Blt K mg) (NC : NetC K CNet) (dt : Dat K mg d_law_row "_law_row") (c1 : Fn P w K mg base 1 "_law_draw" ["_law_pot_here", "_law_many"] [] S_law_draw) (c2 : Fn P w K mg base 6 "_law_new_net" ["_law_pot_here", "_law_own"] [] (S_law_new_net CNet)) (c3 : Fn P w K mg base 6 "_law_put" ["_law_pot_here", "_law_own"] [] (S_law_put CNet)) (c4 : Fn P w K mg base 2 "_law_answers_text" ["_law_answers"] [] S_law_answers_text) (c5 : Mn P w K mg base 8 CNet "beat" ["self", "lost"] [.non] (S_Net_beat CNet)) (c6 : Fn P w K mg base 9 "_law_lost" ["_law_pot_here", "_law_own"] [] (S_law_lost CNet)) (c7 : Fn P w K mg base 9 "_law_run" ["_law_pot_here", "_law_own"] [] (S_law_run CNet)) (c8 : Fn P w K mg base 4 "_law_look" ["_law_pot_here", "_law_own"] [] (S_law_look CNet)) (c9 : Fn P w K mg base 4 "_law_then" ["_law_pot_here"] [] S_law_then) (c10 : Fn P w K mg base 9 "_law_round" ["_law_pot_here", "_law_own"] [] (S_law_round CNet)) : Fn P w K mg base 10 "_law_row" ["_law_pot_here", "_law_own"] [] (S_law_row CNet) := by
  obtain ⟨f, fd, F, hm⟩ := dt
  refine ⟨f, cal_of F sc_law_row (fun ds G R h => ?_) (fun _ _ _ _ _ _ us hl => match us, hl with | [_, _], _ => rfl) (fun cdv Ar outer s H E hr ds G R h => ?_), hm⟩
  · obtain ⟨q, o, A, N, rfl, ⟨x, y, hq, hy⟩, O, g, nqo, fq, _⟩ := h
    rfl
  · obtain ⟨q, o, A, N, rfl, ⟨x, y, hq, hy⟩, O, g, nqo, fq, k⟩ := h
    obtain ⟨f1, q1, m1⟩ := c1
    obtain ⟨f2, q2, m2⟩ := c2
    obtain ⟨f3, q3, m3⟩ := c3
    obtain ⟨f4, q4, m4⟩ := c4
    obtain ⟨f5, q5, m5⟩ := c5
    obtain ⟨f6, q6, m6⟩ := c6
    obtain ⟨f7, q7, m7⟩ := c7
    obtain ⟨f8, q8, m8⟩ := c8
    obtain ⟨f9, q9, m9⟩ := c9
    obtain ⟨f10, q10, m10⟩ := c10
    refine b_cons <| s_set 2 sc_law_row.nd <| e_call q1 m1 (hr.mono (by decide)) <| a_cons <| e_var 0 rfl <| a_cons <| e_int <| a_nil ⟨q, x, y, 16, rfl, by decide, by decide, hq, hy, fun c x1 y1 hc hy1 => ?_⟩
    have O1 := own_pot (G' := gup G q (pot x1 y1)) O nqo fq fun b _ hb => gup_ne hb
    have fr1 : Frm G (ownF q o N.k A) (gup G q (pot x1 y1)) (ownF q o N.k A) := Frm.gup (.inr (.inr rfl))
    have hq1 : gup G q (pot x1 y1) q = some (pot x1 y1) := gup_same
    generalize gup G q (pot x1 y1) = G1 at O1 fr1 hq1
    have hql : G1 q ≠ none := by rw [hq1]; exact fun z => nomatch z
    have kk : ∀ r A2 G', Rw.ok N r → Pot G' q → OwnAt CNet G' o A2 (Rw.next N r) → Fine (Rw.next N r) → ¬ ftN (Rw.next N r).k A2 q → Frm G1 (ownF q o N.k A) G' (ownF q o (Rw.next N r).k A2) → ∃ G2, Sub G2 G' ∧ R (.tup [.str (Rw.text r), .str (Rw.due N r)]) G2 := fun r A2 G' h1 h2 h3 h4 h5 h6 => ⟨_, Sub.refl _, k r A2 G' h1 h2 h3 h4 h5 (fr1.trans h6)⟩
    refine b_cons <| s_if <| t_cmp <| e_var 2 rfl <| e_int <| o_eqI ⟨_, rfl, ?_⟩
    by_cases c0 : c = 0
    · refine ite_t (decide_eq_true (by omega)) ?_
      exact b_one <| s_ret <| e_call q2 m2 (hr.mono (by decide)) <| a_cons <| e_var 0 rfl <| a_cons <| e_var 1 rfl <| a_nil ⟨q, o, _, rfl, ⟨x1, y1, hq1, hy1⟩, O1.obj, nqo, fun k0 r e vs A2 G' ok po oa fre kp => kk (.net k0 r e vs) A2 G' ok po oa ⟨fresh_good ok.1 ok.2.2.1 ok.2.2.2.1 ok.2.2.2.2.1 ok.2.2.2.2.2.1 ok.2.2.2.2.2.2, fun n hn => nomatch hn⟩ (fun z => hql (fre q z)) ⟨fun b hb hn => kp b hb (fun z => hn (.inr (.inr z))) fun z => hn (.inr (.inl z)), fun b hb => by
        rcases hb with hb | hb | hb
        · exact .inr (fre b hb)
        · exact .inl (.inr (.inl hb))
        · exact .inl (.inr (.inr hb))⟩⟩
    refine ite_f (decide_eq_false (by omega)) <| b_nil ?_
    refine b_cons <| s_if <| t_cmp <| e_var 2 rfl <| e_int <| o_lt ⟨_, rfl, ?_⟩
    by_cases c1 : c < 7
    · refine ite_t (decide_eq_true (by omega)) ?_
      exact b_one <| s_ret <| e_call q3 m3 (hr.mono (by decide)) <| a_cons <| e_var 0 rfl <| a_cons <| e_var 1 rfl <| a_nil ⟨q, o, A, N, rfl, ⟨x1, y1, hq1, hy1⟩, O1, g, nqo, fq, kk⟩
    refine ite_f (decide_eq_false (by omega)) <| b_nil ?_
    refine b_cons <| s_if <| t_cmp <| e_var 2 rfl <| e_int <| o_lt ⟨_, rfl, ?_⟩
    by_cases c2 : c < 9
    · refine ite_t (decide_eq_true (by omega)) ?_
      refine b_one <| s_ret <| e_tup <| a_cons <| e_str <| a_cons <| e_call q4 m4 (hr.mono (by decide)) <| a_cons <| e_meth0 NC.cls m5 q5 (hr.mono (by decide)) <| e_ix <| e_var 1 rfl <| e_int <| i_lst (n := 0) (.ref O1.obj) rfl ⟨_, _, rfl, O1.net.here .self trivial, rfl, A, N, .non, [], rfl, .inl ⟨rfl, rfl⟩, Nat.zero_le _, O1.net, g.good, fun A2 G2 na gd kk2 ow => ?_⟩
      have t40 := tellsI_len gd
      have sz := goOn_szs (N := N) (lost := [])
      obtain ⟨O3, fq3, eq3, fr3⟩ := own_step (N' := N.goOn []) (q := q) (o := o) (by rw [O1.obj, kk2, show (N.goOn []).vals.length = N.vals.length from congrArg (fun z => z.2.1) sz, show (N.goOn []).asks.length = N.asks.length from congrArg (fun z => z.2.2) sz]) O1.out hql fq na kk2 ow
      exact a_nil ⟨_, (N.goOn []).tellsI, rfl, by rw [tells_eq]; exact .inr .tup, tellsI_ok gd, by omega, a_nil ⟨Nat.le_of_ble_eq_true rfl, kk (.beat []) A2 G2 ⟨Nat.zero_le _, (fun _ h => nomatch h)⟩ ⟨x1, y1, by rw [eq3, hq1], hy1⟩ O3 ⟨gd, goOn_ord g.ord⟩ fq3 fr3⟩⟩
    refine ite_f (decide_eq_false (by omega)) <| b_nil ?_
    refine b_cons <| s_if <| t_cmp <| e_var 2 rfl <| e_int <| o_eqI ⟨_, rfl, ?_⟩
    by_cases c3 : c = 9
    · refine ite_t (decide_eq_true (by omega)) ?_
      exact b_one <| s_ret <| e_call q6 m6 (hr.mono (by decide)) <| a_cons <| e_var 0 rfl <| a_cons <| e_var 1 rfl <| a_nil ⟨q, o, A, N, rfl, ⟨x1, y1, hq1, hy1⟩, O1, g, nqo, fq, kk⟩
    refine ite_f (decide_eq_false (by omega)) <| b_nil ?_
    refine b_cons <| s_if <| t_cmp <| e_var 2 rfl <| e_int <| o_eqI ⟨_, rfl, ?_⟩
    by_cases c4 : c = 10
    · refine ite_t (decide_eq_true (by omega)) ?_
      exact b_one <| s_ret <| e_call q7 m7 (hr.mono (by decide)) <| a_cons <| e_var 0 rfl <| a_cons <| e_var 1 rfl <| a_nil ⟨q, o, A, N, rfl, ⟨x1, y1, hq1, hy1⟩, O1, g, nqo, fq, kk⟩
    refine ite_f (decide_eq_false (by omega)) <| b_nil ?_
    refine b_cons <| s_if <| t_cmp <| e_var 2 rfl <| e_int <| o_lt ⟨_, rfl, ?_⟩
    by_cases c5 : c < 14
    · refine ite_t (decide_eq_true (by omega)) ?_
      exact b_one <| s_ret <| e_call q8 m8 (hr.mono (by decide)) <| a_cons <| e_var 0 rfl <| a_cons <| e_var 1 rfl <| a_nil ⟨q, o, A, N, rfl, ⟨x1, y1, hq1, hy1⟩, O1, g, nqo, fq, kk⟩
    refine ite_f (decide_eq_false (by omega)) <| b_nil ?_
    refine b_cons <| s_if <| t_cmp <| e_var 2 rfl <| e_int <| o_eqI ⟨_, rfl, ?_⟩
    by_cases c6 : c = 14
    · refine ite_t (decide_eq_true (by omega)) ?_
      exact b_one <| s_ret <| e_call q9 m9 (hr.mono (by decide)) <| a_cons <| e_var 0 rfl <| a_nil ⟨q, x1, y1, rfl, hq1, hy1, fun xs x2 y2 ok hy2 => kk (.thn xs) A _ ok ⟨x2, y2, gup_same, hy2⟩ (own_pot O1 nqo fq fun b _ hb => gup_ne hb) g fq (Frm.gup (.inr (.inr rfl)))⟩
    refine ite_f (decide_eq_false (by omega)) <| b_nil ?_
    exact b_one <| s_ret <| e_call q10 m10 (hr.mono (by decide)) <| a_cons <| e_var 0 rfl <| a_cons <| e_var 1 rfl <| a_nil ⟨q, o, A, N, rfl, ⟨x1, y1, hq1, hy1⟩, O1, g, nqo, fq, kk⟩
def S_law_at_end (CNet : Addr) (CDesk : Addr) : AS := fun ds G R => ∃ p o A B N, ds = [.ref p, .ref o] ∧ DeskAt CDesk CNet G p A N ∧ OwnAt CNet G o B N ∧ Fine N ∧ ∀ A2 G', DeskAt CDesk CNet G' p A2 N → Frm G (deskF p N.k A) G' (deskF p N.k A2) → R (.bl true) G'
theorem sc_law_at_end : FnScope ["_law_desk", "_law_own", "_law_some", "_law_level", "_law_net", "_law_k", "_law_boxes", "_law_asked", "_law_line", "_law_row_here", "_law_due"] ["_law_desk", "_law_own"] (defScope (top 120)) := ⟨rfl, rfl, rfl, by decide +kernel, rfl, by decide +kernel, by decide +kernel⟩
theorem f_law_at_end (T : Blt K mg) (NC : NetC K CNet) (DC : DesC K CDesk) (dt : Dat K mg d_law_at_end "_law_at_end") (c1 : Fn P w K mg base 1 "_law_numbers_text" ["_law_numbers"] [] S_law_numbers_text) (c2 : Mn P w K mg base 1 CNet "board" ["self"] [] (S_Net_board CNet)) (c3 : Mn P w K mg base 1 CNet "log" ["self"] [] (S_Net_log CNet)) (c4 : Mn P w K mg base 2 CNet "todo" ["self"] [] (S_Net_todo CNet)) (c5 : Fn P w K mg base 2 "_law_waiting_text" ["_law_rows"] [] S_law_waiting_text) (c6 : Mn P w K mg base 3 CNet "waiting" ["self", "level", "line"] [] (S_Net_waiting CNet)) (c7 : Mn P w K mg base 11 CDesk "say" ["self", "row"] [] (S_Desk_say CNet CDesk)) : Fn P w K mg base 12 "_law_at_end" ["_law_desk", "_law_own"] [] (S_law_at_end CNet CDesk) := by
  obtain ⟨f, fd, F, hm⟩ := dt
  refine ⟨f, cal_of F sc_law_at_end (fun ds G R h => ?_) (fun _ _ _ _ _ _ us hl => match us, hl with | [_, _], _ => rfl) (fun cdv Ar outer s H E hr ds G R h => ?_), hm⟩
  · obtain ⟨p, o, A, B, N, rfl, DA, O, g, _⟩ := h
    rfl
  · obtain ⟨p, o, A, B, N, rfl, DA, O, g, k⟩ := h
    obtain ⟨f1, q1, m1⟩ := c1
    obtain ⟨f2, q2, m2⟩ := c2
    obtain ⟨f3, q3, m3⟩ := c3
    obtain ⟨f4, q4, m4⟩ := c4
    obtain ⟨f5, q5, m5⟩ := c5
    obtain ⟨f6, q6, m6⟩ := c6
    obtain ⟨f7, q7, m7⟩ := c7
    have hm := g.good.many
    have hk4 := g.good.k4
    have hp2 := p2_le hk4
    have h16 := g.good.v16
    have v1 := g.good.v1
    have td := todo_le N
    have lo := log_okB g
    have vne : N.vals ≠ [] := fun z => by rw [z] at v1; cases v1
    have hns := O.net
    refine b_cons <| s_asg (pg_lst rfl (pgs_cons (pg_name (i := 4) sc_law_at_end.nd rfl (by first | exact Or.inl rfl | exact Or.inr rfl)) (pgs_cons (pg_name (i := 5) sc_law_at_end.nd rfl (by first | exact Or.inl rfl | exact Or.inr rfl)) (pgs_cons (pg_name (i := 6) sc_law_at_end.nd rfl (by first | exact Or.inl rfl | exact Or.inr rfl)) (pgs_cons (pg_name (i := 7) sc_law_at_end.nd rfl (by first | exact Or.inl rfl | exact Or.inr rfl)) pgs_nil))))) <| e_var 1 rfl ⟨_, tg_lstM O.obj (tgs_cons tg_name (tgs_cons tg_name (tgs_cons tg_name (tgs_cons tg_name tgs_nil)))), ?_⟩
    show SB _ _ [some (.ref p), some (.ref o), none, none, some (.ref (B .self)), some (.int (N.k : Nat)), some (.int (N.vals.length : Nat)), some (.int (N.asks.length : Nat)), none, none, none] _ _
    refine b_cons <| s_set 2 sc_law_at_end.nd <| e_lstM <| a_cons <| e_tup <| a_cons <| e_str <| a_cons <| e_call q1 m1 (hr.mono (by decide)) <| a_cons <| e_meth0 NC.cls m2 q2 (hr.mono (by decide)) <| e_var 4 rfl ⟨_, _, rfl, hns.here .self trivial, rfl, B, N, rfl, hns, a_nil ⟨N.vals, rfl, vals_okB g.good, by omega, a_nil ⟨Nat.le_of_ble_eq_true rfl, ?_⟩⟩⟩
    refine a_cons <| e_tup <| a_cons <| e_str <| a_cons <| e_orS <| e_call q1 m1 (hr.mono (by decide)) <| a_cons <| e_meth0 NC.cls m3 q3 (hr.mono (by decide)) <| e_var 4 rfl ⟨_, _, rfl, hns.here .self trivial, rfl, B, N, rfl, hns, a_nil ⟨N.order.map fun n => ((n : Nat) : Int), by rw [nats_ints]; rfl, lo.1, by omega, ⟨_, rfl, sz16 (Nat.le_trans (numsT_len lo.1 lo.2) (by decide)), ?_⟩⟩⟩
    have dl : ∀ {RR : D → Gp → Prop}, RR (.str (Rw.due N .log)) G → if ((numsT (N.order.map fun n => ((n : Nat) : Int))).length == 0) = false then RR (.str (numsT (N.order.map fun n => ((n : Nat) : Int)))) G else RR (.str "none") G := fun {RR} h => by
      unfold Rw.due at h
      by_cases e0 : (N.order.map fun n => ((n : Nat) : Int)) = []
      · unfold shownT at h
        rw [if_pos e0] at h
        rw [e0, if_neg (show ¬ ((numsT []).length == 0) = false by decide +kernel)]
        exact h
      · rw [shown_ne e0] at h
        have pos := numsT_pos e0
        rw [if_pos (by rw [beq_eq_false_iff_ne]; omega)]
        exact h
    have dl2 : ∀ {EEE : Prop} {RR : D → Gp → Prop}, (RR (.str "none") G → EEE) → RR (.str (Rw.due N .log)) G → if ((numsT (N.order.map fun n => ((n : Nat) : Int))).length == 0) = false then RR (.str (numsT (N.order.map fun n => ((n : Nat) : Int)))) G else EEE := fun {EEE RR} i h => by
      have := dl h
      split
      · rename_i c; rwa [if_pos c] at this
      · rename_i c; rw [if_neg c] at this; exact i this
    refine dl2 (fun h => e_one <| e_str h) ?_
    refine a_nil ⟨Nat.le_of_ble_eq_true rfl, a_nil ⟨Nat.le_of_ble_eq_true rfl, fun p2 hp2' => ?_⟩⟩
    have e2 : ([.tup [.str "board", .str (numsT N.vals)], .tup [.str "log", .str (Rw.due N .log)]] : List D) = [Rw.board, Rw.log].map (dRow N) := by
      show _ = [D.tup [.str (Rw.text .board), .str (shownT N.vals)], D.tup [.str (Rw.text .log), .str (Rw.due N .log)]]
      rw [shown_ne vne]; rfl
    show SB _ _ [some (.ref p), some (.ref o), some (.ref p2), none, some (.ref (B .self)), some (.int (N.k : Nat)), some (.int (N.vals.length : Nat)), some (.int (N.asks.length : Nat)), none, none, none] (gup G p2 (.lst [.tup [.str "board", .str (numsT N.vals)], .tup [.str "log", .str (Rw.due N .log)]])) _
    rw [e2]
    have h1 : gup G p2 (.lst ([Rw.board, Rw.log].map (dRow N))) p2 = some (.lst ([Rw.board, Rw.log].map (dRow N))) := gup_same
    have fr1 : ∀ b, G b ≠ none → gup G p2 (.lst ([Rw.board, Rw.log].map (dRow N))) b = G b := fun b hb => gup_ne (ne_live hb hp2')
    generalize gup G p2 (.lst ([Rw.board, Rw.log].map (dRow N))) = G1 at h1 fr1
    have ns1 : NetAt CNet G1 B N := hns.move fun b hb => fr1 b (hns.live hb)
    refine b_cons <| s_expr <| e_bm PySem.F.plainAttrs_list PySem.F.slot_list_append PySem.F.type_list_append <| e_var 2 rfl ⟨.inr (.inl ⟨rfl, _, .ref h1⟩), a_cons <| e_tup <| a_cons <| e_str <| a_cons <| e_callTy T.str bt_str <| a_cons <| e_meth0 NC.cls m4 q4 (hr.mono (by decide)) <| e_var 4 rfl ⟨_, _, rfl, ns1.here .self trivial, rfl, B, N, rfl, ns1, hm, a_nil <| c_strI (log_ok (okB_nat (by omega))) <| a_nil ⟨Nat.le_of_ble_eq_true rfl, a_nil <| m_append h1 (by show 2 < 100000; decide) ?_⟩⟩⟩
    have h2 : gup G1 p2 (.lst ([Rw.board, Rw.log, Rw.todo].map (dRow N))) p2 = some (.lst ([Rw.board, Rw.log, Rw.todo].map (dRow N))) := gup_same
    have fr2 : ∀ b, G b ≠ none → gup G1 p2 (.lst ([Rw.board, Rw.log, Rw.todo].map (dRow N))) b = G b := fun b hb => by rw [gup_ne (ne_live hb hp2')]; exact fr1 b hb
    show SB _ _ [some (.ref p), some (.ref o), some (.ref p2), none, some (.ref (B .self)), some (.int (N.k : Nat)), some (.int (N.vals.length : Nat)), some (.int (N.asks.length : Nat)), none, none, none] (gup G1 p2 (.lst ([Rw.board, Rw.log, Rw.todo].map (dRow N)))) _
    generalize gup G1 p2 (.lst ([Rw.board, Rw.log, Rw.todo].map (dRow N))) = G2 at h2 fr2
    have st3 : ∀ r ∈ [Rw.board, Rw.log, Rw.todo], Still N r := fun r hr => by
      simp only [List.mem_cons, List.not_mem_nil, or_false] at hr
      rcases hr with rfl | rfl | rfl <;> exact ⟨trivial, rfl⟩
    refine b_cons <| s_for (pg_name (i := 3) sc_law_at_end.nd rfl (by first | exact Or.inl rfl | exact Or.inr rfl)) PassesOwn.never <| n_range1 T.rng <| e_bin <| e_var 5 rfl <| e_int <| o_add ⟨_, rfl, by omega, by omega, ?_⟩
    rw [show (((N.k : Nat) : Int) + 1).toNat = N.k + 1 by omega]
    refine ⟨fun i Γ G' => ∃ (r3 r8 r9 : Option D) (rs : List Rw), Γ = [some (.ref p), some (.ref o), some (.ref p2), r3, some (.ref (B .self)), some (.int (N.k : Nat)), some (.int (N.vals.length : Nat)), some (.int (N.asks.length : Nat)), r8, r9, none] ∧ rs.length ≤ 3 + 16 * i ∧ (∀ r ∈ rs, Still N r) ∧ G' p2 = some (.lst (rs.map (dRow N))) ∧ ∀ b, G b ≠ none → G' b = G b, ⟨none, none, none, _, rfl, by show 3 ≤ _; omega, st3, h2, fr2⟩, fun _ _ _ _ _ => trivial, ?_, ?_⟩
    · rintro i Γ' G' hi ⟨r3, r8, r9, rs, rfl, hl, hs, hG, fr⟩
      refine ⟨_, tg_name, ?_⟩
      show SB _ _ [some (.ref p), some (.ref o), some (.ref p2), some (.int (i : Nat)), some (.ref (B .self)), some (.int (N.k : Nat)), some (.int (N.vals.length : Nat)), some (.int (N.asks.length : Nat)), r8, r9, none] _ _
      refine b_one <| s_for (pg_name (i := 8) sc_law_at_end.nd rfl (by first | exact Or.inl rfl | exact Or.inr rfl)) PassesOwn.never <| n_range1 T.rng <| e_bin <| e_int <| e_var 5 rfl <| o_shl (cpow_nat (by omega) (by omega) (by omega) (by omega)) ⟨_, rfl, by rw [p2i]; exact (p2_rng hk4).1, by rw [p2i]; exact (p2_rng hk4).2, ?_⟩
      rw [p2i, Int.toNat_natCast]
      refine ⟨fun j Γ G' => ∃ (r8 r9 : Option D) (rs : List Rw), Γ = [some (.ref p), some (.ref o), some (.ref p2), some (.int (i : Nat)), some (.ref (B .self)), some (.int (N.k : Nat)), some (.int (N.vals.length : Nat)), some (.int (N.asks.length : Nat)), r8, r9, none] ∧ rs.length ≤ 3 + 16 * i + j ∧ (∀ r ∈ rs, Still N r) ∧ G' p2 = some (.lst (rs.map (dRow N))) ∧ ∀ b, G b ≠ none → G' b = G b, ⟨_, _, rs, rfl, by omega, hs, hG, fr⟩, fun _ _ _ _ _ => trivial, ?_, ?_⟩
      · rintro j Γ' G' hj ⟨r8, r9, rs, rfl, hl, hs, hG, fr⟩
        refine ⟨_, tg_name, ?_⟩
        show SB _ _ [some (.ref p), some (.ref o), some (.ref p2), some (.int (i : Nat)), some (.ref (B .self)), some (.int (N.k : Nat)), some (.int (N.vals.length : Nat)), some (.int (N.asks.length : Nat)), some (.int (j : Nat)), r9, none] _ _
        have hl2 : i ≤ N.k := by omega
        have ns2 : NetAt CNet G' B N := hns.move fun b hb => fr b (hns.live hb)
        have l1 := num_len' (okB_nat (n := i) (by omega))
        have l2 := num_len' (okB_nat (n := j) (by omega))
        have l3 : ("wait " : Str).length ≤ 5 := by decide
        have l4 : (" " : Str).length ≤ 1 := by decide
        refine b_cons <| s_set 9 sc_law_at_end.nd <| e_bin <| e_bin <| e_bin <| e_str <| e_callTy T.str bt_str <| a_cons <| e_var 3 rfl <| a_nil <| c_strI (log_ok (okB_nat (by omega))) <| o_addS (ok2 l3 l1) <| e_str <| o_addS (ok2 (la l3 l1) l4) <| e_callTy T.str bt_str <| a_cons <| e_var 8 rfl <| a_nil <| c_strI (log_ok (okB_nat (by omega))) <| o_addS (ok2 (la (la l3 l1) l4) l2) ?_
        rw [show ("wait " ++ toString ((i : Nat) : Int) ++ " " ++ toString ((j : Nat) : Int) : Str) = (Rw.wait i j).text from wait_text i j]
        refine b_one <| s_expr <| e_bm PySem.F.plainAttrs_list PySem.F.slot_list_append PySem.F.type_list_append <| e_var 2 rfl ⟨.inr (.inl ⟨rfl, _, .ref hG⟩), a_cons <| e_tup <| a_cons <| e_var 9 rfl <| a_cons <| e_call q5 m5 (hr.mono (by decide)) <| a_cons <| e_meth NC.cls m6 q6 (hr.mono (by decide)) <| e_var 4 rfl ⟨_, _, rfl, ns2.here .self trivial, rfl, a_cons <| e_var 3 rfl <| a_cons <| e_var 8 rfl <| a_nil ⟨B, N, i, j, rfl, ns2, hk4, hl2, hj, a_nil ⟨N.rows i j, rfl, rows_ok g.good hl2 hj, by have := g.good.rowLen hl2 hj; omega, a_nil ⟨Nat.le_of_ble_eq_true rfl, a_nil <| m_append hG (by rw [List.length_map]; omega) ⟨_, _, rs ++ [.wait i j], rfl, by rw [List.length_append]; show rs.length + 1 ≤ _; omega, fun r hr => ?_, by rw [gup_same, List.map_append]; rfl, fun b hb => by rw [gup_ne (ne_live hb hp2')]; exact fr b hb⟩⟩⟩⟩⟩⟩
        rcases List.mem_append.mp hr with z | z
        · exact hs r z
        · rw [List.mem_singleton.mp z]; exact ⟨⟨hl2, hj⟩, rfl⟩
      · rintro Γ' G' ⟨r8, r9, rs, rfl, hl, hs, hG, fr⟩
        exact ⟨_, _, _, rs, rfl, by omega, hs, hG, fr⟩
    rintro Γ' G' ⟨r3, r8, r9, rs, rfl, hl, hs, hG, fr⟩
    have DG : DeskAt CDesk CNet G' p A N := DA.move fun b hb => fr b (DA.live hb)
    have frG : Frm G (deskF p N.k A) G' (deskF p N.k A) := ⟨fun b hb _ => fr b hb, fun _ h => .inl h⟩
    have np2 : ¬ deskF p N.k A p2 := fun z => DA.live z hp2'
    have pl2 : G' p2 ≠ none := by rw [hG]; exact fun z => nomatch z
    refine b_one <| s_ret <| e_callB T.all bt_all <| a_cons <| e_lc [("_law_row_here", 9), ("_law_due", 10)] sc_law_at_end.nd (blkOk_by rfl) (by intro _ _ _ _ _; refine pg2 (i := 9) (j := 10) (K := K) ?_ ?_ ?_ ?_ ?_ ?_ ?_ ?_ ?_ <;> first | exact sc_law_at_end.nd | rfl | exact Or.inl rfl | exact Or.inr rfl) <| n_list <| e_var 2 rfl ⟨_, .ref hG, ?_⟩
    refine ⟨fun i acc G3 => ∃ A2, acc = (List.range i).map (fun _ => .bl true) ∧ DeskAt CDesk CNet G3 p A2 N ∧ Frm G' (deskF p N.k A) G3 (deskF p N.k A2) ∧ G3 p2 = some (.lst (rs.map (dRow N))) ∧ ¬ deskF p N.k A2 p2, ⟨A, rfl, DG, Frm.refl, hG, np2⟩, fun i acc G3 _ ⟨A2, _, _, _, h, _⟩ => h, by rw [List.length_map]; omega, ?_, ?_⟩
    · rintro i acc G3 hi ⟨A2, rfl, D3, f3, h3, n3⟩
      rw [List.length_map] at hi
      obtain ⟨ok, nx⟩ := hs _ (List.getElem_mem hi)
      have pl3 : G3 p2 ≠ none := by rw [h3]; exact fun z => nomatch z
      refine ⟨[(9, .str rs[i].text), (10, .str (rs[i].due N))], ?_, ?_, fun s H0 C cl fp => q_nil (iteTT fun s H0 C cl fp => ?_)⟩
      · intro u hu; simp at hu; rcases hu with e | e <;> subst e <;> simp
      · rw [at0_map hi]
        exact tg_tup (tgs_cons tg_name (tgs_cons tg_name tgs_nil))
      generalize rs[i] = r at ok nx
      refine e_cmp <| e_meth DC.cls m7 q7 (hr.mono (by decide)) <| e_var 0 rfl ⟨_, _, rfl, D3.obj, rfl, a_cons <| e_var 9 rfl <| a_nil ⟨p, A2, N, r, rfl, ok, D3, g, fun A4 G4 D4 _ f4 => ?_⟩⟩
      rw [nx] at D4 f4
      refine e_var 10 rfl <| o_eqS ⟨A4, ?_, D4, f3.trans f4, by rw [f4.keep p2 pl3 n3]; exact h3, fun z => (f4.foot p2 z).elim n3 pl3⟩
      rw [List.range_succ, List.map_append, decide_eq_true rfl]; rfl
    rintro acc G3 ⟨A2, rfl, D3, f3, h3, n3⟩
    exact a_nil <| c_allT ⟨_, Sub.refl _, k A2 G3 D3 (frG.trans f3)⟩
end
end J
namespace J
open PySem PySem.Spec PyProof.Rows L2 TL
def up {α : Type} (f : Nat → α) (i : Nat) (x : α) : Nat → α := fun j => if j = i then x else f j
theorem up_same {α : Type} {f : Nat → α} {i : Nat} {x : α} : up f i x i = x := if_pos rfl
theorem up_ne {α : Type} {f : Nat → α} {i j : Nat} {x : α} (h : j ≠ i) : up f i x j = f j := if_neg h
def two {α : Type} (x y : α) : Nat → α := fun i => if i = 0 then x else y
def ownE (o : Addr) (k : Nat) (A : Slot → Addr) (b : Addr) : Prop := ftN k A b ∨ b = o
structure Two (CD CN : Addr) (G : Gp) (q : Addr) (p o : Nat → Addr) (A B : Nat → Slot → Addr) (M N : Nat → NetS) : Prop where
  pot : Pot G q
  desk : ∀ i, i < 2 → DeskAt CD CN G (p i) (A i) (M i)
  own : ∀ i, i < 2 → OwnAt CN G (o i) (B i) (N i)
  fm : ∀ i, i < 2 → Fine (M i)
  fn : ∀ i, i < 2 → Fine (N i)
  dq : ∀ i, i < 2 → ¬ deskF (p i) (M i).k (A i) q
  oq : ∀ i, i < 2 → ¬ ownE (o i) (N i).k (B i) q
  dd : ∀ i j, i < 2 → j < 2 → i ≠ j → ∀ b, deskF (p i) (M i).k (A i) b → ¬ deskF (p j) (M j).k (A j) b
  oo : ∀ i j, i < 2 → j < 2 → i ≠ j → ∀ b, ownE (o i) (N i).k (B i) b → ¬ ownE (o j) (N j).k (B j) b
  dO : ∀ i j, i < 2 → j < 2 → ∀ b, deskF (p i) (M i).k (A i) b → ¬ ownE (o j) (N j).k (B j) b
theorem Pot.live {G : Gp} {q : Addr} (h : Pot G q) : G q ≠ none := by
  obtain ⟨x, y, h, _⟩ := h
  rw [h]; exact fun z => nomatch z
theorem Pot.move {G G' : Gp} {q : Addr} (h : Pot G q) (e : G' q = G q) : Pot G' q := by
  obtain ⟨x, y, h, hy⟩ := h
  exact ⟨x, y, e.trans h, hy⟩
section
variable {CD CN : Addr} {G G' : Gp} {q : Addr} {p o : Nat → Addr} {A B : Nat → Slot → Addr} {M N : Nat → NetS} {i : Nat}
theorem Two.say (T : Two CD CN G q p o A B M N) (hi : i < 2) {A2 : Slot → Addr} {M' : NetS} (D : DeskAt CD CN G' (p i) A2 M') (F : Fine M') (f : Frm G (deskF (p i) (M i).k (A i)) G' (deskF (p i) M'.k A2)) : Two CD CN G' q p o (up A i A2) B (up M i M') N := by
  have aq := f.apart (E := fun b => b = q) (fun b e => by rw [e]; exact T.pot.live) (fun b h e => T.dq i hi (e ▸ h))
  have ad := fun j hj (n : i ≠ j) => f.apart (E := deskF (p j) (M j).k (A j)) (fun b h => (T.desk j hj).live h) (T.dd i j hi hj n)
  have ao := fun j hj => f.apart (E := ownE (o j) (N j).k (B j)) (fun b h => (T.own j hj).live h) (T.dO i j hi hj)
  refine ⟨T.pot.move (aq.1 q rfl), fun j hj => ?_, fun j hj => (T.own j hj).move fun b hb => (ao j hj).1 b hb, fun j hj => ?_, T.fn, fun j hj => ?_, T.oq, fun j l hj hl n => ?_, T.oo, fun j l hj hl => ?_⟩
  · by_cases e : j = i
    · subst e; rw [up_same, up_same]; exact D
    · rw [up_ne e, up_ne e]; exact (T.desk j hj).move fun b hb => (ad j hj (Ne.symm e)).1 b hb
  · by_cases e : j = i
    · subst e; rw [up_same]; exact F
    · rw [up_ne e]; exact T.fm j hj
  · by_cases e : j = i
    · subst e; rw [up_same, up_same]; exact fun h => aq.2 q h rfl
    · rw [up_ne e, up_ne e]; exact T.dq j hj
  · by_cases e : j = i
    · subst e; rw [up_same, up_same, up_ne (Ne.symm n), up_ne (Ne.symm n)]; exact (ad l hl n).2
    · rw [up_ne e, up_ne e]
      by_cases e2 : l = i
      · subst e2; rw [up_same, up_same]; exact fun b hb h => (ad j hj (Ne.symm e)).2 b h hb
      · rw [up_ne e2, up_ne e2]; exact T.dd j l hj hl n
  · by_cases e : j = i
    · subst e; rw [up_same, up_same]; exact (ao l hl).2
    · rw [up_ne e, up_ne e]; exact T.dO j l hj hl
theorem Two.row (T : Two CD CN G q p o A B M N) (hi : i < 2) {B2 : Slot → Addr} {N' : NetS} (hP : Pot G' q) (O : OwnAt CN G' (o i) B2 N') (F : Fine N') (nq : ¬ ftN N'.k B2 q) (f : Frm G (ownF q (o i) (N i).k (B i)) G' (ownF q (o i) N'.k B2)) : Two CD CN G' q p o A (up B i B2) M (up N i N') := by
  have qo : q ≠ o i := fun e => T.oq i hi (.inr e)
  have ad := fun j hj => f.apart (E := deskF (p j) (M j).k (A j)) (fun b h => (T.desk j hj).live h) (fun b h e => by
    rcases h with h | h | h
    · exact T.dO j i hj hi b e (.inl h)
    · exact T.dO j i hj hi b e (.inr h)
    · exact T.dq j hj (h ▸ e))
  have ao := fun j hj (n : i ≠ j) => f.apart (E := ownE (o j) (N j).k (B j)) (fun b h => (T.own j hj).live h) (fun b h e => by
    rcases h with h | h | h
    · exact T.oo i j hi hj n b (.inl h) e
    · exact T.oo i j hi hj n b (.inr h) e
    · exact T.oq j hj (h ▸ e))
  have inc : ∀ b, ownE (o i) N'.k B2 b → ownF q (o i) N'.k B2 b := fun b h => h.elim .inl fun e => .inr (.inl e)
  refine ⟨hP, fun j hj => (T.desk j hj).move fun b hb => (ad j hj).1 b hb, fun j hj => ?_, T.fm, fun j hj => ?_, T.dq, fun j hj => ?_, T.dd, fun j l hj hl n => ?_, fun j l hj hl => ?_⟩
  · by_cases e : j = i
    · subst e; rw [up_same, up_same]; exact O
    · rw [up_ne e, up_ne e]; exact (T.own j hj).move fun b hb => (ao j hj (Ne.symm e)).1 b hb
  · by_cases e : j = i
    · subst e; rw [up_same]; exact F
    · rw [up_ne e]; exact T.fn j hj
  · by_cases e : j = i
    · subst e; rw [up_same, up_same]; exact fun h => h.elim nq qo
    · rw [up_ne e, up_ne e]; exact T.oq j hj
  · by_cases e : j = i
    · subst e; rw [up_same, up_same, up_ne (Ne.symm n), up_ne (Ne.symm n)]; exact fun b hb => (ao l hl n).2 b (inc b hb)
    · rw [up_ne e, up_ne e]
      by_cases e2 : l = i
      · subst e2; rw [up_same, up_same]; exact fun b hb h => (ao j hj (Ne.symm e)).2 b (inc b h) hb
      · rw [up_ne e2, up_ne e2]; exact T.oo j l hj hl n
  · by_cases e : l = i
    · subst e; rw [up_same, up_same]; exact fun b hb h => (ad j hj).2 b (inc b h) hb
    · rw [up_ne e, up_ne e]; exact T.dO j l hj hl
theorem Two.drawn (T : Two CD CN G q p o A B M N) {x y : Int} (hy : yOk y) : Two CD CN (gup G q (J.pot x y)) q p o A B M N :=
  ⟨⟨x, y, gup_same, hy⟩, fun j hj => (T.desk j hj).move fun b hb => gup_ne fun e => T.dq j hj (e ▸ hb), fun j hj => (T.own j hj).move fun b hb => gup_ne fun e => T.oq j hj (e ▸ hb), T.fm, T.fn, T.dq, T.oq, T.dd, T.oo, T.dO⟩
end
def Grow (G G' : Gp) : Prop := ∀ b, G b ≠ none → G' b = G b
theorem Grow.trans {G G1 G2 : Gp} (a : Grow G G1) (b : Grow G1 G2) : Grow G G2 := fun x h => by
  have e := a x h
  rw [← e]; exact b x (by rw [e]; exact h)
theorem Grow.live {G G1 : Gp} (a : Grow G G1) {x : Addr} (h : G x ≠ none) : G1 x ≠ none := by rw [a x h]; exact h
theorem Grow.gup {G G1 : Gp} (a : Grow G G1) {x : Addr} {m : MO} (h : G1 x = none) : Grow G (J.gup G1 x m) := fun b hb => by
  rw [gup_ne (ne_live (a.live hb) h)]; exact a b hb
abbrev F0 : NetS := NetS.fresh 0 1 0 [0]
theorem F0_fine : Fine F0 := ⟨fresh_good (by decide) (by decide) (by decide) (by decide) (by decide) (fun v hv => by rw [List.mem_singleton.mp hv]; decide), fun n hn => nomatch hn⟩
theorem desk_born {CD CN : Addr} {G G1 : Gp} {p : Addr} {A : Slot → Addr} {m : MO} (hp : G p = none) (n : ∀ b, deskF p 0 A b → b = p ∨ gup G p m b = none) (k : ∀ b, gup G p m b ≠ none → b ≠ p → G1 b = gup G p m b) : (∀ b, deskF p 0 A b → G b = none) ∧ Grow G G1 := by
  refine ⟨fun b hb => ?_, fun b hb => ?_⟩
  · by_cases e : b = p
    · rw [e]; exact hp
    · have := (n b hb).resolve_left e
      rwa [gup_ne e] at this
  · have ne := ne_live hb hp
    rw [k b (by rw [gup_ne ne]; exact hb) ne, gup_ne ne]
theorem own_born {CN : Addr} {G G1 : Gp} {a o : Addr} {A : Slot → Addr} {m : MO} (ha : G a = none) (es : A .self = a) (NA : NetAt CN G1 A F0) (nw : ∀ s : Slot, s.ok 0 → s ≠ .self → gup G a m (A s) = none) (fr : ∀ b, gup G a m b ≠ none → b ≠ a → G1 b = gup G a m b) (ho : G1 o = none) :
    OwnAt CN (gup G1 o (.lst [.ref a, .int 0, .int 1, .int 0])) o A F0 ∧ (∀ b, ownE o 0 A b → G b = none) ∧ Grow G (gup G1 o (.lst [.ref a, .int 0, .int 1, .int 0])) := by
  have gr : Grow G G1 := fun b hb => by
    have ne := ne_live hb ha
    rw [fr b (by rw [gup_ne ne]; exact hb) ne, gup_ne ne]
  have go : G o = none := by
    cases e : G o with
    | none => rfl
    | some x => exact absurd ho (gr.live (by rw [e]; exact fun z => nomatch z))
  have fre : ∀ s : Slot, s.ok 0 → G (A s) = none := fun s hs => by
    by_cases z : s = .self
    · rw [z, es]; exact ha
    · have := nw s hs z
      by_cases y : A s = a
      · rw [y]; exact ha
      · rwa [gup_ne y] at this
  have out : ¬ ftN 0 A o := fun h => NA.live h ho
  refine ⟨⟨by rw [gup_same, es]; rfl, NA.move fun b hb => gup_ne fun e => out (e ▸ hb), out⟩, fun b hb => ?_, gr.gup ho⟩
  rcases hb with ⟨s, hs, rfl⟩ | rfl
  · exact fre s hs
  · exact go
theorem two_start {CD CN : Addr} {G0 G1 G2 G3 G4 : Gp} {q p0 p1 o0 o1 : Addr} {A0 A1 B0 B1 : Slot → Addr} (hq : Pot G0 q) (g01 : Grow G0 G1) (D0 : DeskAt CD CN G1 p0 A0 F0) (b0 : ∀ b, deskF p0 0 A0 b → G0 b = none) (g12 : Grow G1 G2) (D1 : DeskAt CD CN G2 p1 A1 F0) (b1 : ∀ b, deskF p1 0 A1 b → G1 b = none)
    (g23 : Grow G2 G3) (O0 : OwnAt CN G3 o0 B0 F0) (c0 : ∀ b, ownE o0 0 B0 b → G2 b = none) (g34 : Grow G3 G4) (O1 : OwnAt CN G4 o1 B1 F0) (c1 : ∀ b, ownE o1 0 B1 b → G3 b = none) : Two CD CN G4 q (two p0 p1) (two o0 o1) (two A0 A1) (two B0 B1) (fun _ => F0) (fun _ => F0) := by
  have g24 := g23.trans g34
  have g14 := g12.trans g24
  have g04 := g01.trans g14
  have l0 : ∀ b, deskF p0 0 A0 b → G1 b ≠ none := fun b h => D0.live h
  have l1 : ∀ b, deskF p1 0 A1 b → G2 b ≠ none := fun b h => D1.live h
  have l2 : ∀ b, ownE o0 0 B0 b → G3 b ≠ none := fun b h => O0.live h
  have q1 := g01.live hq.live
  have q2 := g12.live q1
  have q3 := g23.live q2
  have cs : ∀ {i : Nat}, i < 2 → i = 0 ∨ i = 1 := fun h => by omega
  refine ⟨hq.move (g04 q hq.live), fun i hi => ?_, fun i hi => ?_, fun _ _ => F0_fine, fun _ _ => F0_fine, fun i hi => ?_, fun i hi => ?_, fun i j hi hj n b h1 h2 => ?_, fun i j hi hj n b h1 h2 => ?_, fun i j hi hj b h1 h2 => ?_⟩
  · rcases cs hi with rfl | rfl
    · exact D0.move fun b hb => g14 b (l0 b hb)
    · exact D1.move fun b hb => g24 b (l1 b hb)
  · rcases cs hi with rfl | rfl
    · exact O0.move fun b hb => g34 b (l2 b hb)
    · exact O1
  · rcases cs hi with rfl | rfl
    · exact fun h => hq.live (b0 q h)
    · exact fun h => q1 (b1 q h)
  · rcases cs hi with rfl | rfl
    · exact fun h => q2 (c0 q h)
    · exact fun h => q3 (c1 q h)
  · rcases cs hi with rfl | rfl <;> rcases cs hj with rfl | rfl
    · exact n rfl
    · exact l0 b h1 (b1 b h2)
    · exact l0 b h2 (b1 b h1)
    · exact n rfl
  · rcases cs hi with rfl | rfl <;> rcases cs hj with rfl | rfl
    · exact n rfl
    · exact l2 b h1 (c1 b h2)
    · exact l2 b h2 (c1 b h1)
    · exact n rfl
  · rcases cs hi with rfl | rfl <;> rcases cs hj with rfl | rfl
    · exact g12.live (l0 b h1) (c0 b h2)
    · exact g23.live (g12.live (l0 b h1)) (c1 b h2)
    · exact l1 b h1 (c0 b h2)
    · exact g23.live (l1 b h1) (c1 b h2)
section
variable {P : Program} {w : World} {K : PySem.W.Frag} {mg : Str → Option Value} {base : Heap} {CNet CDesk CCarried : Addr}
def S_law_right : AS := fun ds G R => ∃ q, ds = [.ref q] ∧ Pot G q ∧ ∀ G', R (.bl true) G'
theorem sc_law_right : FnScope ["_law_pot_here", "_law_desks", "_law_own", "_law_turn", "_law_k", "_law_told", "_law_row_here", "_law_due"] ["_law_pot_here"] (defScope (top 121)) := ⟨rfl, rfl, rfl, by decide +kernel, rfl, by decide +kernel, by decide +kernel⟩
theorem f_law_right (T : Blt K mg) (NC : NetC K CNet) (DC : DesC K CDesk) (MN : mg "Net" = some (.ref CNet)) (MD : mg "Desk" = some (.ref CDesk)) (dt : Dat K mg d_law_right "_law_right") (c1 : Kn P w K mg base 6 CDesk ["self"] [] (S_Desk_init CNet CDesk)) (c2 : Kn P w K mg base 4 CNet ["self", "k", "board", "room", "kept"] [] (S_Net_init CNet)) (c3 : Fn P w K mg base 1 "_law_draw" ["_law_pot_here", "_law_many"] [] S_law_draw) (c4 : Fn P w K mg base 6 "_law_new_net" ["_law_pot_here", "_law_own"] [] (S_law_new_net CNet)) (c5 : Mn P w K mg base 11 CDesk "say" ["self", "row"] [] (S_Desk_say CNet CDesk)) (c6 : Fn P w K mg base 10 "_law_row" ["_law_pot_here", "_law_own"] [] (S_law_row CNet)) (c7 : Fn P w K mg base 12 "_law_at_end" ["_law_desk", "_law_own"] [] (S_law_at_end CNet CDesk)) : Fn P w K mg base 13 "_law_right" ["_law_pot_here"] [] S_law_right := by
  obtain ⟨f, fd, F, hm⟩ := dt
  refine ⟨f, cal_of F sc_law_right (fun ds G R h => ?_) (fun _ _ _ _ _ _ us hl => match us, hl with | [_], _ => rfl) (fun cdv Ar outer s H E hr ds G R h => ?_), hm⟩
  · obtain ⟨q, rfl, hq, _⟩ := h
    rfl
  · obtain ⟨q, rfl, hq, k⟩ := h
    obtain ⟨f1, q1, m1⟩ := c1
    obtain ⟨f2, q2, m2⟩ := c2
    obtain ⟨f3, q3, m3⟩ := c3
    obtain ⟨f4, q4, m4⟩ := c4
    obtain ⟨f5, q5, m5⟩ := c5
    obtain ⟨f6, q6, m6⟩ := c6
    obtain ⟨f7, q7, m7⟩ := c7
    have main : ∀ (p o : Nat → Addr) (A B : Nat → Slot → Addr) (N : Nat → NetS) (G' : Gp) (r3 r4 r5 r6 r7 : Option D), Two CDesk CNet G' q p o A B N N → SB (cxOf CX0 P w K mg base ["_law_pot_here", "_law_desks", "_law_own", "_law_turn", "_law_k", "_law_told", "_law_row_here", "_law_due"] d_law_right.qual (defScope (top 121)) f cdv Ar outer s H E).nox ((defBody (top 121)).drop 3) [some (.ref q), some (.lst [.ref (p 0), .ref (p 1)]), some (.lst [.ref (o 0), .ref (o 1)]), r3, r4, r5, r6, r7] G' ⟨fun _ G' => R .non G', fun d G1 => ∃ G2, Sub G2 G1 ∧ R d G2, fun _ _ => False, fun _ _ => False⟩ := fun p o A B N G' r3 r4 r5 r6 r7 Tw => by
      have hpi : ∀ {i : Nat}, i < 2 → [D.ref (p 0), D.ref (p 1)][i]? = some (.ref (p i)) := fun {i} h => by
        rcases (by omega : i = 0 ∨ i = 1) with rfl | rfl <;> rfl
      have hoi : ∀ {i : Nat}, i < 2 → [D.ref (o 0), D.ref (o 1)][i]? = some (.ref (o i)) := fun {i} h => by
        rcases (by omega : i = 0 ∨ i = 1) with rfl | rfl <;> rfl
      obtain ⟨x, y, hq, hy⟩ := Tw.pot
      refine b_cons <| s_for (pg_name (i := 3) sc_law_right.nd rfl (by first | exact Or.inl rfl | exact Or.inr rfl)) PassesOwn.never <| n_range1 T.rng <| e_call q3 m3 (hr.mono (by decide)) <| a_cons <| e_var 0 rfl <| a_cons <| e_int <| a_nil ⟨q, x, y, 25, rfl, by decide, by decide, hq, hy, fun m x1 y1 hm hy1 => ⟨_, rfl, by omega, by omega, ?_⟩⟩
      rw [Int.toNat_natCast]
      refine ⟨fun i Γ G' => ∃ (r3 r4 r5 r6 r7 : Option D) (A B : Nat → Slot → Addr) (N : Nat → NetS), Γ = [some (.ref q), some (.lst [.ref (p 0), .ref (p 1)]), some (.lst [.ref (o 0), .ref (o 1)]), r3, r4, r5, r6, r7] ∧ Two CDesk CNet G' q p o A B N N, ⟨_, _, _, _, _, A, B, N, rfl, Tw.drawn hy1⟩, fun _ _ _ _ _ => trivial, ?_, ?_⟩
      · rintro t Γ' G1 ht ⟨r3, r4, r5, r6, r7, A, B, N, rfl, Ta⟩
        refine ⟨_, tg_name, ?_⟩
        show SB _ _ [some (.ref q), some (.lst [.ref (p 0), .ref (p 1)]), some (.lst [.ref (o 0), .ref (o 1)]), some (.int (t : Nat)), r4, r5, r6, r7] _ _
        obtain ⟨x, y, hq, hy⟩ := Ta.pot
        refine b_cons <| s_set 4 sc_law_right.nd <| e_call q3 m3 (hr.mono (by decide)) <| a_cons <| e_var 0 rfl <| a_cons <| e_int <| a_nil ⟨q, x, y, 2, rfl, by decide, by decide, hq, hy, fun i x1 y1 hi hy1 => ?_⟩
        have Tb := Ta.drawn (x := x1) hy1
        generalize gup G1 q (pot x1 y1) = G2 at Tb
        have oq := Tb.oq i hi
        refine b_cons <| s_asg (pg_tup rfl (pgs_cons (pg_name (i := 6) sc_law_right.nd rfl (by first | exact Or.inl rfl | exact Or.inr rfl)) (pgs_cons (pg_name (i := 7) sc_law_right.nd rfl (by first | exact Or.inl rfl | exact Or.inr rfl)) pgs_nil))) <| e_call q6 m6 (hr.mono (by decide)) <| a_cons <| e_var 0 rfl <| a_cons <| e_ix <| e_var 2 rfl <| e_var 4 rfl <| i_lst (x := .ref (o i)) .lst (hoi hi) <| a_nil ⟨q, o i, B i, N i, rfl, Tb.pot, Tb.own i hi, Tb.fn i hi, fun e => oq (.inr e), fun e => oq (.inl e), fun r B2 G3 ok po oa ff nq fr => ⟨_, tg_tup (tgs_cons tg_name (tgs_cons tg_name tgs_nil)), ?_⟩⟩
        have T1 := Tb.row hi po oa ff nq fr
        refine b_cons <| s_set 5 sc_law_right.nd <| e_meth DC.cls m5 q5 (hr.mono (by decide)) <| e_ix <| e_var 1 rfl <| e_var 4 rfl <| i_lst (x := .ref (p i)) .lst (hpi hi) ⟨_, _, rfl, (T1.desk i hi).obj, rfl, a_cons <| e_var 6 rfl <| a_nil ⟨p i, A i, N i, r, rfl, ok, T1.desk i hi, T1.fm i hi, fun A3 G4 D4 f4 fr4 => ?_⟩⟩
        have T2 := T1.say hi D4 f4 fr4
        refine b_one <| s_if <| t_w <| w_or <| t_not <| t_val <| e_callB T.isi bt_isi <| a_cons <| e_var 5 rfl <| a_cons <| e_ty T.str bt_str <| a_nil <| c_isi rfl k_ss ⟨_, rfl, ?_⟩
        refine iteFF <| w_or1 <| t_cmp <| e_var 5 rfl <| e_var 7 rfl <| o_neS ⟨_, rfl, ?_⟩
        rw [decide_eq_true rfl]
        exact iteFF <| b_nil ⟨_, _, _, _, _, _, _, _, rfl, T2⟩
      · rintro Γ' G1 ⟨r3, r4, r5, r6, r7, A, B, N, rfl, Te⟩
        refine b_one <| s_ret <| e_and <| e_call q7 m7 (hr.mono (by decide)) <| a_cons <| e_ix <| e_var 1 rfl <| e_int <| i_lst (n := 0) (x := .ref (p 0)) .lst rfl <| a_cons <| e_ix <| e_var 2 rfl <| e_int <| i_lst (n := 0) (x := .ref (o 0)) .lst rfl <| a_nil ⟨p 0, o 0, A 0, B 0, N 0, rfl, Te.desk 0 (by decide), Te.own 0 (by decide), Te.fn 0 (by decide), fun A2 G2 D2 f2 => ⟨true, rfl, iteTT ?_⟩⟩
        have T2 := Te.say (i := 0) (by decide) D2 (Te.fn 0 (by decide)) f2
        have d1 : DeskAt CDesk CNet G2 (p 1) (A 1) (N 1) := T2.desk 1 (by decide)
        exact e_one <| e_call q7 m7 (hr.mono (by decide)) <| a_cons <| e_ix <| e_var 1 rfl <| e_int <| i_lst (n := 1) (x := .ref (p 1)) .lst rfl <| a_cons <| e_ix <| e_var 2 rfl <| e_int <| i_lst (n := 1) (x := .ref (o 1)) .lst rfl <| a_nil ⟨p 1, o 1, A 1, B 1, N 1, rfl, d1, T2.own 1 (by decide), Te.fn 1 (by decide), fun A3 G3 _ _ => ⟨_, Sub.refl _, k G3⟩⟩
    refine b_cons <| s_set 1 sc_law_right.nd <| e_lst <| a_cons <| e_make0 m1 q1 (hr.mono (by decide)) MD fun p0 hp0 => ⟨p0, rfl, gup_same, fun A0 G1 D0 n0 k0 => ⟨rfl, a_cons <| e_make0 m1 q1 (hr.mono (by decide)) MD fun p1 hp1 => ⟨p1, rfl, gup_same, fun A1 G2 D1 n1 k1 => ⟨rfl, a_nil ⟨Nat.le_of_ble_eq_true rfl, ?_⟩⟩⟩⟩⟩
    have s0 := desk_born (CD := CDesk) (CN := CNet) hp0 n0 k0
    have s1 := desk_born (CD := CDesk) (CN := CNet) hp1 n1 k1
    refine b_cons <| s_set 2 sc_law_right.nd <| e_lst <| a_cons <| e_lstM <| a_cons <| e_make m2 q2 (hr.mono (by decide)) MN <| a_cons <| e_int <| a_cons <| e_tup <| a_cons <| e_int <| a_nil ⟨Nat.le_of_ble_eq_true rfl, a_cons <| e_int <| a_cons <| e_int <| a_nil fun a0 ha0 => ⟨a0, 0, 1, 0, [0], rfl, gup_same, by decide, by decide, by decide, by decide, by decide, by decide, fun B0 G3 es0 NA0 nw0 fr0 => ⟨rfl, a_cons <| e_int <| a_cons <| e_int <| a_cons <| e_int <| a_nil ⟨Nat.le_of_ble_eq_true rfl, fun o0 ho0 => ?_⟩⟩⟩⟩
    have t0 := own_born (CN := CNet) ha0 es0 NA0 nw0 fr0 ho0
    show AA _ _ _ (gup G3 o0 (.lst [.ref a0, .int 0, .int 1, .int 0])) _
    generalize gup G3 o0 (.lst [.ref a0, .int 0, .int 1, .int 0]) = G4 at t0
    refine a_cons <| e_lstM <| a_cons <| e_make m2 q2 (hr.mono (by decide)) MN <| a_cons <| e_int <| a_cons <| e_tup <| a_cons <| e_int <| a_nil ⟨Nat.le_of_ble_eq_true rfl, a_cons <| e_int <| a_cons <| e_int <| a_nil fun a1 ha1 => ⟨a1, 0, 1, 0, [0], rfl, gup_same, by decide, by decide, by decide, by decide, by decide, by decide, fun B1 G5 es1 NA1 nw1 fr1 => ⟨rfl, a_cons <| e_int <| a_cons <| e_int <| a_cons <| e_int <| a_nil ⟨Nat.le_of_ble_eq_true rfl, fun o1 ho1 => a_nil ⟨Nat.le_of_ble_eq_true rfl, ?_⟩⟩⟩⟩⟩
    have t1 := own_born (CN := CNet) ha1 es1 NA1 nw1 fr1 ho1
    show SB _ _ _ (gup G5 o1 (.lst [.ref a1, .int 0, .int 1, .int 0])) _
    generalize gup G5 o1 (.lst [.ref a1, .int 0, .int 1, .int 0]) = G6 at t1
    have TT0 := two_start hq s0.2 D0 s0.1 s1.2 D1 s1.1 t0.2.2 t0.1 t0.2.1 t1.2.2 t1.1 t1.2.1
    show SB _ _ [some (.ref q), some (.lst [.ref (two p0 p1 0), .ref (two p0 p1 1)]), some (.lst [.ref (two o0 o1 0), .ref (two o0 o1 1)]), none, none, none, none, none] _ _
    generalize two p0 p1 = p at TT0
    generalize two o0 o1 = o at TT0
    have hpi : ∀ {i : Nat}, i < 2 → [D.ref (p 0), D.ref (p 1)][i]? = some (.ref (p i)) := fun {i} h => by
      rcases (by omega : i = 0 ∨ i = 1) with rfl | rfl <;> rfl
    have hoi : ∀ {i : Nat}, i < 2 → [D.ref (o 0), D.ref (o 1)][i]? = some (.ref (o i)) := fun {i} h => by
      rcases (by omega : i = 0 ∨ i = 1) with rfl | rfl <;> rfl
    obtain ⟨x, y, hq6, hy6⟩ := TT0.pot
    refine b_cons <| s_if <| t_cmp <| e_call q3 m3 (hr.mono (by decide)) <| a_cons <| e_var 0 rfl <| a_cons <| e_int <| a_nil ⟨q, x, y, 4, rfl, by decide, by decide, hq6, hy6, fun c x1 y1 hc hy1 => ?_⟩
    have TT0 := TT0.drawn (x := x1) hy1
    generalize gup G6 q (pot x1 y1) = G7 at TT0
    refine e_int <| o_gt ⟨_, rfl, ?_⟩
    by_cases h0 : 0 < c
    · refine ite_t (decide_eq_true (by omega)) ?_
      refine b_one <| s_for (pg_name (i := 4) sc_law_right.nd rfl (by first | exact Or.inl rfl | exact Or.inr rfl)) PassesOwn.never <| n_range1 T.rng <| e_int ⟨_, rfl, by decide, by decide, ?_⟩
      refine ⟨fun i Γ G' => ∃ (r4 r6 r7 : Option D) (A B : Nat → Slot → Addr) (N : Nat → NetS), Γ = [some (.ref q), some (.lst [.ref (p 0), .ref (p 1)]), some (.lst [.ref (o 0), .ref (o 1)]), none, r4, none, r6, r7] ∧ Two CDesk CNet G' q p o A B N N, ⟨_, _, _, _, _, _, rfl, TT0⟩, fun _ _ _ _ _ => trivial, ?_, ?_⟩
      · rintro i Γ' G1 hi ⟨r4, r6, r7, A, B, N, rfl, T1⟩
        have hi : i < 2 := hi
        refine ⟨_, tg_name, ?_⟩
        show SB _ _ [some (.ref q), some (.lst [.ref (p 0), .ref (p 1)]), some (.lst [.ref (o 0), .ref (o 1)]), none, some (.int (i : Nat)), none, r6, r7] _ _
        have oq := T1.oq i hi
        have ql := T1.pot.live
        refine b_cons <| s_asg (pg_tup rfl (pgs_cons (pg_name (i := 6) sc_law_right.nd rfl (by first | exact Or.inl rfl | exact Or.inr rfl)) (pgs_cons (pg_name (i := 7) sc_law_right.nd rfl (by first | exact Or.inl rfl | exact Or.inr rfl)) pgs_nil))) <| e_call q4 m4 (hr.mono (by decide)) <| a_cons <| e_var 0 rfl <| a_cons <| e_ix <| e_var 2 rfl <| e_var 4 rfl <| i_lst (x := .ref (o i)) .lst (hoi hi) <| a_nil ⟨q, o i, _, rfl, T1.pot, (T1.own i hi).obj, fun e => oq (.inr e), fun k0 r e vs B2 G3 ok po oa fre kp => ⟨_, tg_tup (tgs_cons tg_name (tgs_cons tg_name tgs_nil)), ?_⟩⟩
        have ff : Fine (NetS.fresh k0 r e vs) := ⟨fresh_good ok.1 ok.2.2.1 ok.2.2.2.1 ok.2.2.2.2.1 ok.2.2.2.2.2.1 ok.2.2.2.2.2.2, fun n hn => nomatch hn⟩
        have T2 := T1.row hi po oa ff (fun z => ql (fre q z)) ⟨fun b hb hn => kp b hb (fun z => hn (.inr (.inr z))) fun z => hn (.inr (.inl z)), fun b hb => by
          rcases hb with hb | hb | hb
          · exact .inr (fre b hb)
          · exact .inl (.inr (.inl hb))
          · exact .inl (.inr (.inr hb))⟩
        refine b_one <| s_if <| t_cmp <| e_meth DC.cls m5 q5 (hr.mono (by decide)) <| e_ix <| e_var 1 rfl <| e_var 4 rfl <| i_lst (x := .ref (p i)) .lst (hpi hi) ⟨_, _, rfl, (T2.desk i hi).obj, rfl, a_cons <| e_var 6 rfl <| a_nil ⟨p i, A i, N i, .net k0 r e vs, rfl, ok, T2.desk i hi, T2.fm i hi, fun A3 G4 D4 f4 fr4 => e_var 7 rfl <| o_neS ⟨_, rfl, ?_⟩⟩⟩
        have T3 := T2.say hi D4 f4 fr4
        rw [show (!decide (Rw.due (N i) (.net k0 r e vs) = "ok")) = false from by show (!decide (("ok" : Str) = "ok")) = false; decide +kernel]
        exact iteFF <| b_nil ⟨_, _, _, _, _, _, rfl, T3⟩
      · rintro Γ' G1 ⟨r4, r6, r7, A, B, N, rfl, T1⟩
        exact main p o A B N G1 _ _ _ _ _ T1
    · refine ite_f (decide_eq_false (by omega)) <| b_nil ?_
      exact main p o _ _ _ G7 _ _ _ _ _ TT0
def S_law : AS := fun ds G R => ∃ ns : List Int, ds = [.fls (ns.map D.int)] ∧ ns.length ≤ 63 ∧ ∀ G', R (.bl true) G'
theorem sc_law : FnScope ["_law_script", "_law_k"] ["_law_script"] (defScope (top 122)) := ⟨rfl, rfl, rfl, by decide +kernel, rfl, by decide +kernel, by decide +kernel⟩
theorem f_law (T : Blt K mg) (dt : Dat K mg d_law "law") (c1 : Fn P w K mg base 13 "_law_right" ["_law_pot_here"] [] S_law_right) (c2 : Fn P w K mg base 1 "_law_pot" ["_law_script", "_law_k"] [] S_law_pot) : Fn P w K mg base 14 "law" ["_law_script"] [] S_law := by
  obtain ⟨f, fd, F, hm⟩ := dt
  refine ⟨f, cal_of F sc_law (fun ds G R h => ?_) (fun _ _ _ _ _ _ us hl => match us, hl with | [_], _ => rfl) (fun cdv Ar outer s H E hr ds G R h => ?_), hm⟩
  · obtain ⟨ns, rfl, hl, _⟩ := h
    rfl
  · obtain ⟨ns, rfl, hl, k⟩ := h
    obtain ⟨f1, q1, m1⟩ := c1
    obtain ⟨f2, q2, m2⟩ := c2
    refine b_one <| s_ret <| e_callB T.all bt_all <| a_cons <| e_lc [("_law_k", 1)] sc_law.nd (blkOk_by rfl) (fun _ _ _ _ _ => (pg_name (i := 1) sc_law.nd rfl (Or.inl rfl))) <| n_range1 T.rng <| e_callB T.max bt_max <| a_cons <| e_int <| a_cons <| e_callB T.min bt_min <| a_cons <| e_callB T.len bt_len <| a_cons <| e_var 0 rfl <| a_nil <| c_lenF <| a_cons <| e_int <| a_nil <| c_min <| a_nil <| c_max ?_
    rw [List.length_map]
    obtain ⟨m, hm, hm4⟩ : ∃ m : Nat, (if (if (4 : Int) < ((ns.length : Nat) : Int) then (4 : Int) else ((ns.length : Nat) : Int)) > 1 then (if (4 : Int) < ((ns.length : Nat) : Int) then (4 : Int) else ((ns.length : Nat) : Int)) else 1) = (m : Nat) ∧ m ≤ 4 := by
      by_cases h : (4 : Int) < ((ns.length : Nat) : Int)
      · rw [if_pos h]; exact ⟨4, rfl, by decide⟩
      · rw [if_neg h]
        by_cases h1 : ((ns.length : Nat) : Int) > 1
        · rw [if_pos h1]; exact ⟨ns.length, rfl, by omega⟩
        · rw [if_neg h1]; exact ⟨1, rfl, by decide⟩
    rw [hm]
    refine ⟨_, rfl, by omega, by omega, ?_⟩
    rw [Int.toNat_natCast]
    refine ⟨fun i acc G' => acc = (List.range i).map (fun _ => .bl true), rfl, fun _ _ _ _ _ => trivial, by omega, ?_, ?_⟩
    · rintro i acc G' hi rfl
      refine ⟨_, by simp, tg_name, fun s H0 C cl fp => q_nil (iteTT fun s H0 C cl fp => ?_)⟩
      refine e_call q1 m1 (hr.mono (by decide)) <| a_cons <| e_call q2 m2 (hr.mono (by decide)) <| a_cons <| e_var 0 rfl <| a_cons <| e_var 1 rfl <| a_nil ⟨ns, i, rfl, by omega, by omega, fun q x y hq hy => a_nil ⟨q, rfl, ⟨x, y, gup_same, hy⟩, fun G2 => ?_⟩⟩
      show _ = (List.range (i + 1)).map _
      rw [List.range_succ, List.map_append]; rfl
    rintro acc G' rfl
    exact a_nil <| c_allT ⟨_, Sub.refl _, k G'⟩
end
end J
namespace J
open PySem PySem.Spec PyProof.Rows L2 TL
section
variable {P : Program} {w : World} {K : PySem.W.Frag} {mg : Str → Option Value} {base : Heap} {h : Heap}
theorem dat_of (X : K.In h) (G : h.Ns mainGlobals mg) (c : He.SaysD fa fn K) (i j : Nat) {d : He.DefD} {x : Str} (h1 : fn[i]? = some d) (h2 : fa[j]? = some (.glo x)) (e : He.fAd K d.at_ = He.ga K x) : Dat K mg d x := by
  obtain ⟨fd, F⟩ := c.def_ i h1
  exact ⟨_, fd, F, by rw [e]; exact He.glo_ok X G (c.fact j h2)⟩
theorem datM_of (c : He.SaysD fa fn K) (i j : Nat) {d : He.DefD} {x m : Str} (h1 : fn[i]? = some d) (h2 : fa[j]? = some (.meth x m)) (e : He.fAd K d.at_ = He.ma K (He.ga K x) m) : DatM K (He.ga K x) d m := by
  obtain ⟨fd, F⟩ := c.def_ i h1
  exact ⟨_, fd, F, by rw [e]; exact He.meth_ok (c.fact j h2)⟩
theorem datK_of (c : He.SaysD fa fn K) (i j : Nat) {d : He.DefD} {x : Str} (h1 : fn[i]? = some d) (h2 : fa[j]? = some (.mkr x)) (e : He.fAd K d.at_ = He.ma K (He.ga K x) "__init__") : DatK K (He.ga K x) d := by
  obtain ⟨fd, F⟩ := c.def_ i h1
  exact ⟨_, fd, F, by rw [e]; exact He.mkr_ok (c.fact j h2)⟩
theorem blt_of (X : K.In h) (G : h.Ns mainGlobals mg) (c : He.SaysD fa fn K) (ex : exB K = true) : Blt K mg := by
  obtain ⟨e1, e2⟩ := He.ba ex
  exact ⟨He.free_ok X G (c.fact 141 (f := .free "isinstance") rfl),
    He.free_ok X G (c.fact 142 (f := .free "int") rfl),
    He.free_ok X G (c.fact 143 (f := .free "bool") rfl),
    He.free_ok X G (c.fact 144 (f := .free "tuple") rfl),
    He.free_ok X G (c.fact 145 (f := .free "len") rfl),
    He.free_ok X G (c.fact 146 (f := .free "all") rfl),
    He.free_ok X G (c.fact 147 (f := .free "list") rfl),
    He.free_ok X G (c.fact 148 (f := .free "range") rfl),
    He.free_ok X G (c.fact 149 (f := .free "max") rfl),
    He.free_ok X G (c.fact 150 (f := .free "min") rfl),
    He.free_ok X G (c.fact 151 (f := .free "str") rfl),
    He.free_ok X G (c.fact 152 (f := .free "zip") rfl),
    He.free_ok X G (c.fact 153 (f := .free "enumerate") rfl),
    He.free_ok X G (c.fact 154 (f := .free "set") rfl),
    He.int_ok X G (c.fact 132 (f := .int "MOST_BOXES" 16) rfl),
    He.int_ok X G (c.fact 133 (f := .int "HANDS" 16) rfl),
    He.int_ok X G (c.fact 134 (f := .int "MOST_ROOM" 6) rfl),
    He.int_ok X G (c.fact 135 (f := .int "MOST_KEPT" 6) rfl),
    He.int_ok X G (c.fact 136 (f := .int "MOST_ASKS" 40) rfl),
    He.int_ok X G (c.fact 137 (f := .int "MOST_BEATS" 300) rfl),
    He.str_ok X G (c.fact 138 (f := .str "FIGURES" "0123456789") rfl),
    He.str_ok X G (c.fact 139 (f := .str "PARTING" "; ") rfl),
    He.str_ok X G (c.fact 140 (f := .str "NOTHING" "none") rfl),
    ⟨_, He.glo_ok X G (c.fact 130 (f := .glo "LOOK") rfl), fun I => by
    show Is K I (.tup [.int 0, .non, .non]) _
    unfold Is
    exact ⟨_, _, rfl, He.tupB_ok e1 I, Iss.cons Is.int (Iss.cons Is.non (Iss.cons Is.non Iss.nil))⟩⟩,
    ⟨_, He.glo_ok X G (c.fact 131 (f := .glo "PARTS") rfl), fun H => He.lstB_ok e2 H⟩⟩
theorem netC_of (c : He.SaysD fa fn K) : NetC K (He.ga K "Net") := by
  refine ⟨He.cls_ok (c.fact 82 (f := .cls "Net") rfl), fun f hf => ?_⟩
  simp only [netF, List.mem_cons, List.not_mem_nil, or_false] at hf
  rcases hf with rfl | rfl | rfl | rfl | rfl | rfl | rfl | rfl | rfl | rfl | rfl
  · exact He.noat_ok (c.fact 105 (f := .noat "Net" "depth") rfl)
  · exact He.noat_ok (c.fact 102 (f := .noat "Net" "amounts") rfl)
  · exact He.noat_ok (c.fact 111 (f := .noat "Net" "room") rfl)
  · exact He.noat_ok (c.fact 107 (f := .noat "Net" "kept") rfl)
  · exact He.noat_ok (c.fact 112 (f := .noat "Net" "rows") rfl)
  · exact He.noat_ok (c.fact 104 (f := .noat "Net" "asked") rfl)
  · exact He.noat_ok (c.fact 103 (f := .noat "Net" "answers") rfl)
  · exact He.noat_ok (c.fact 106 (f := .noat "Net" "ends") rfl)
  · exact He.noat_ok (c.fact 109 (f := .noat "Net" "order") rfl)
  · exact He.noat_ok (c.fact 110 (f := .noat "Net" "pairs") rfl)
  · exact He.noat_ok (c.fact 108 (f := .noat "Net" "now") rfl)
theorem carC_of (c : He.SaysD fa fn K) : CarC K (He.ga K "Carried") := by
  refine ⟨He.cls_ok (c.fact 114 (f := .cls "Carried") rfl), fun f hf => ?_⟩
  simp only [carF, List.mem_cons, List.not_mem_nil, or_false] at hf
  rcases hf with rfl | rfl | rfl | rfl
  · exact He.noat_ok (c.fact 118 (f := .noat "Carried" "hand") rfl)
  · exact He.noat_ok (c.fact 116 (f := .noat "Carried" "box") rfl)
  · exact He.noat_ok (c.fact 117 (f := .noat "Carried" "deed") rfl)
  · exact He.noat_ok (c.fact 119 (f := .noat "Carried" "parts") rfl)
theorem desC_of (c : He.SaysD fa fn K) : DesC K (He.ga K "Desk") := ⟨He.cls_ok (c.fact 121 (f := .cls "Desk") rfl), He.noat_ok (c.fact 129 (f := .noat "Desk" "running") rfl)⟩
theorem ok_law (T : Blt K mg) {f : Addr} {fd : FuncData} (F : FD K d_law f fd) (c1 : Fn P w K mg base 13 "_law_right" ["_law_pot_here"] [] S_law_right) (c2 : Fn P w K mg base 1 "_law_pot" ["_law_script", "_law_k"] [] S_law_pot) : FnOk P w K mg base CX0 14 f fd ["_law_script"] (spOf K S_law) := by
  refine ok_def F sc_law (fun ds G R h => ?_) (fun cdv Ar outer s H E hr ds G R h => ?_)
  · obtain ⟨ns, rfl, hl, _⟩ := h
    rfl
  · obtain ⟨ns, rfl, hl, k⟩ := h
    obtain ⟨f1, q1, m1⟩ := c1
    obtain ⟨f2, q2, m2⟩ := c2
    refine b_one <| s_ret <| e_callB T.all bt_all <| a_cons <| e_lc [("_law_k", 1)] sc_law.nd (blkOk_by rfl) (fun _ _ _ _ _ => (pg_name (i := 1) sc_law.nd rfl (Or.inl rfl))) <| n_range1 T.rng <| e_callB T.max bt_max <| a_cons <| e_int <| a_cons <| e_callB T.min bt_min <| a_cons <| e_callB T.len bt_len <| a_cons <| e_var 0 rfl <| a_nil <| c_lenF <| a_cons <| e_int <| a_nil <| c_min <| a_nil <| c_max ?_
    rw [List.length_map]
    obtain ⟨m, hm, hm4⟩ : ∃ m : Nat, (if (if (4 : Int) < ((ns.length : Nat) : Int) then (4 : Int) else ((ns.length : Nat) : Int)) > 1 then (if (4 : Int) < ((ns.length : Nat) : Int) then (4 : Int) else ((ns.length : Nat) : Int)) else 1) = (m : Nat) ∧ m ≤ 4 := by
      by_cases h : (4 : Int) < ((ns.length : Nat) : Int)
      · rw [if_pos h]; exact ⟨4, rfl, by decide⟩
      · rw [if_neg h]
        by_cases h1 : ((ns.length : Nat) : Int) > 1
        · rw [if_pos h1]; exact ⟨ns.length, rfl, by omega⟩
        · rw [if_neg h1]; exact ⟨1, rfl, by decide⟩
    rw [hm]
    refine ⟨_, rfl, by omega, by omega, ?_⟩
    rw [Int.toNat_natCast]
    refine ⟨fun i acc G' => acc = (List.range i).map (fun _ => .bl true), rfl, fun _ _ _ _ _ => trivial, by omega, ?_, ?_⟩
    · rintro i acc G' hi rfl
      refine ⟨_, by simp, tg_name, fun s H0 C cl fp => q_nil (iteTT fun s H0 C cl fp => ?_)⟩
      refine e_call q1 m1 (hr.mono (by decide)) <| a_cons <| e_call q2 m2 (hr.mono (by decide)) <| a_cons <| e_var 0 rfl <| a_cons <| e_var 1 rfl <| a_nil ⟨ns, i, rfl, by omega, by omega, fun q x y hq hy => a_nil ⟨q, rfl, ⟨x, y, gup_same, hy⟩, fun G2 => ?_⟩⟩
      show _ = (List.range (i + 1)).map _
      rw [List.range_succ, List.map_append]; rfl
    rintro acc G' rfl
    exact a_nil <| c_allT ⟨_, Sub.refl _, k G'⟩
theorem law_all (X : K.In h) (G : h.Ns mainGlobals mg) (c : He.SaysD fa fn K) (ex : exB K = true) {fd : FuncData} (F : FD K d_law (He.fAd K d_law.at_) fd) : FnOk P w K mg base CX0 14 (He.fAd K d_law.at_) fd ["_law_script"] (spOf K S_law) := by
  have T := blt_of X G c ex
  have NC := netC_of c
  have CC := carC_of c
  have DC := desC_of c
  have MN := He.glo_ok X G (c.fact 81 (f := .glo "Net") rfl)
  have MC := He.glo_ok X G (c.fact 113 (f := .glo "Carried") rfl)
  have MD := He.glo_ok X G (c.fact 120 (f := .glo "Desk") rfl)
  have x_is_whole := f_is_whole (P := P) (w := w) (base := base) T (dat_of X G c 0 0 rfl rfl rfl)
  have x_is_within := f_is_within (P := P) (w := w) (base := base) (dat_of X G c 1 1 rfl rfl rfl) x_is_whole
  have x_is_row := f_is_row (P := P) (w := w) (base := base) T (dat_of X G c 2 2 rfl rfl rfl)
  have x_is_row_of := f_is_row_of (P := P) (w := w) (base := base) T (dat_of X G c 3 3 rfl rfl rfl)
  have x_want_within := f_want_within (P := P) (w := w) (base := base) (dat_of X G c 4 4 rfl rfl rfl) x_is_within
  have x_want_net := f_want_net (P := P) (w := w) (base := base) (dat_of X G c 5 5 rfl rfl rfl) x_is_within
  have x_is_end := f_is_end (P := P) (w := w) (base := base) (dat_of X G c 6 6 rfl rfl rfl) x_is_whole
  have x_is_deed := f_is_deed (P := P) (w := w) (base := base) (dat_of X G c 7 7 rfl rfl rfl) x_is_row_of x_is_whole x_is_end
  have x_want_deed := f_want_deed (P := P) (w := w) (base := base) (dat_of X G c 8 8 rfl rfl rfl) x_is_deed
  have x_put_through := f_put_through (P := P) (w := w) (base := base) T (dat_of X G c 9 9 rfl rfl rfl)
  have x_whole_deed := f_whole_deed (P := P) (w := w) (base := base) (dat_of X G c 10 10 rfl rfl rfl)
  have x_one_behind := f_one_behind (P := P) (w := w) (base := base) T (dat_of X G c 11 11 rfl rfl rfl) x_put_through x_whole_deed
  have x_is_board := f_is_board (P := P) (w := w) (base := base) T (dat_of X G c 12 12 rfl rfl rfl) x_is_whole
  have x_want_board := f_want_board (P := P) (w := w) (base := base) T (dat_of X G c 13 13 rfl rfl rfl) x_is_board
  have x_is_ask := f_is_ask (P := P) (w := w) (base := base) T (dat_of X G c 14 14 rfl rfl rfl) x_is_whole x_is_deed
  have x_are_asks := f_are_asks (P := P) (w := w) (base := base) T (dat_of X G c 15 15 rfl rfl rfl) x_want_board x_is_ask
  have x_want_asks := f_want_asks (P := P) (w := w) (base := base) T (dat_of X G c 16 16 rfl rfl rfl) x_are_asks
  have x_figure_of := f_figure_of (P := P) (w := w) (base := base) T (dat_of X G c 17 17 rfl rfl rfl)
  have x_line_of_beats := f_line_of_beats (P := P) (w := w) (base := base) T (dat_of X G c 18 18 rfl rfl rfl)
  have x_side_of_box_beats := f_side_of_box_beats (P := P) (w := w) (base := base) T (dat_of X G c 19 19 rfl rfl rfl)
  have x_is_place := f_is_place (P := P) (w := w) (base := base) T (dat_of X G c 20 20 rfl rfl rfl) x_is_row_of x_is_within
  have x_Net_want_hand := f_Net_want_hand (P := P) (w := w) (base := base) T NC (datM_of c 82 84 rfl rfl rfl)
  have x_Net_is_forgotten := f_Net_is_forgotten (P := P) (w := w) (base := base) T NC (datM_of c 85 87 rfl rfl rfl)
  have x_Net_end := f_Net_end (P := P) (w := w) (base := base) T NC (datM_of c 89 91 rfl rfl rfl) x_put_through
  have x_Net_take := f_Net_take (P := P) (w := w) (base := base) T NC (datM_of c 88 90 rfl rfl rfl) x_Net_end
  have x_Net_joinings := f_Net_joinings (P := P) (w := w) (base := base) T NC (datM_of c 99 101 rfl rfl rfl) x_is_within x_is_place
  have x_Net_put := f_Net_put (P := P) (w := w) (base := base) T NC (datM_of c 83 85 rfl rfl rfl) x_is_ask x_Net_want_hand
  have x_Net_want_lost := f_Net_want_lost (P := P) (w := w) (base := base) T NC (datM_of c 84 86 rfl rfl rfl) x_is_row x_is_place
  have x_Net_board := f_Net_board (P := P) (w := w) (base := base) T NC (datM_of c 93 95 rfl rfl rfl)
  have x_Net_log := f_Net_log (P := P) (w := w) (base := base) T NC (datM_of c 94 96 rfl rfl rfl)
  have x_Net_is_answered := f_Net_is_answered (P := P) (w := w) (base := base) T NC (datM_of c 95 97 rfl rfl rfl)
  have x_Net_todo := f_Net_todo (P := P) (w := w) (base := base) T NC (datM_of c 96 98 rfl rfl rfl) x_Net_is_answered
  have x_Net_answer := f_Net_answer (P := P) (w := w) (base := base) T NC (datM_of c 97 99 rfl rfl rfl) x_is_within x_Net_is_answered
  have x_Net_waiting := f_Net_waiting (P := P) (w := w) (base := base) T NC (datM_of c 98 100 rfl rfl rfl) x_is_within
  have x_Net_does_go := f_Net_does_go (P := P) (w := w) (base := base) T NC (datM_of c 91 93 rfl rfl rfl) x_line_of_beats x_figure_of x_side_of_box_beats x_Net_joinings x_one_behind
  have x_Net_hand_on := f_Net_hand_on (P := P) (w := w) (base := base) T NC (datM_of c 90 92 rfl rfl rfl) x_line_of_beats x_Net_does_go
  have x_Net_go_on := f_Net_go_on (P := P) (w := w) (base := base) T NC (datM_of c 87 89 rfl rfl rfl) x_Net_is_forgotten x_Net_take x_Net_hand_on
  have x_Net_init := f_Net_init (P := P) (w := w) (base := base) T NC (datK_of c 81 83 rfl rfl rfl) x_want_net x_want_within x_want_board
  have x_Net_beat := f_Net_beat (P := P) (w := w) (base := base) T NC (datM_of c 86 88 rfl rfl rfl) x_Net_want_lost x_Net_go_on
  have x_is_figures := f_is_figures (P := P) (w := w) (base := base) T (dat_of X G c 21 21 rfl rfl rfl)
  have x_is_number_text := f_is_number_text (P := P) (w := w) (base := base) T (dat_of X G c 22 22 rfl rfl rfl) x_is_figures
  have x_deed_text := f_deed_text (P := P) (w := w) (base := base) T (dat_of X G c 23 23 rfl rfl rfl) x_want_deed
  have x_deed_of := f_deed_of (P := P) (w := w) (base := base) T (dat_of X G c 24 24 rfl rfl rfl) x_is_number_text
  have x_told_by := f_told_by (P := P) (w := w) (base := base) T (dat_of X G c 25 25 rfl rfl rfl) x_is_number_text x_deed_of
  have x_read_deed := f_read_deed (P := P) (w := w) (base := base) T (dat_of X G c 26 26 rfl rfl rfl) x_told_by x_is_deed x_deed_text
  have x_law_deed_text := f_law_deed_text (P := P) (w := w) (base := base) T (dat_of X G c 63 63 rfl rfl rfl)
  have x_law_done := f_law_done (P := P) (w := w) (base := base) T (dat_of X G c 65 65 rfl rfl rfl)
  have x_law_behind := f_law_behind (P := P) (w := w) (base := base) T (dat_of X G c 64 64 rfl rfl rfl) x_law_done
  have x_want_row := f_want_row (P := P) (w := w) (base := base) T (dat_of X G c 47 47 rfl rfl rfl)
  have x_spoken := f_spoken (P := P) (w := w) (base := base) T (dat_of X G c 48 48 rfl rfl rfl) x_want_row
  have x_number_in := f_number_in (P := P) (w := w) (base := base) T (dat_of X G c 49 49 rfl rfl rfl) x_want_row x_is_figures
  have x_numbers_in := f_numbers_in (P := P) (w := w) (base := base) T (dat_of X G c 50 50 rfl rfl rfl) x_number_in
  have x_value_in := f_value_in (P := P) (w := w) (base := base) T (dat_of X G c 51 51 rfl rfl rfl) x_want_row x_is_number_text
  have x_law_numbers_text := f_law_numbers_text (P := P) (w := w) (base := base) T (dat_of X G c 66 66 rfl rfl rfl)
  have x_numbers_shown := f_numbers_shown (P := P) (w := w) (base := base) T (dat_of X G c 54 54 rfl rfl rfl)
  have x_law_or_none := f_law_or_none (P := P) (w := w) (base := base) T (dat_of X G c 67 67 rfl rfl rfl)
  have x_law_answers_text := f_law_answers_text (P := P) (w := w) (base := base) T (dat_of X G c 68 68 rfl rfl rfl) x_law_or_none
  have x_law_waiting_text := f_law_waiting_text (P := P) (w := w) (base := base) T (dat_of X G c 73 73 rfl rfl rfl) x_law_or_none x_law_deed_text
  have x_answers_shown := f_answers_shown (P := P) (w := w) (base := base) T (dat_of X G c 55 55 rfl rfl rfl)
  have x_waiting_shown := f_waiting_shown (P := P) (w := w) (base := base) T (dat_of X G c 56 56 rfl rfl rfl) x_deed_text
  have x_deeds_in := f_deeds_in (P := P) (w := w) (base := base) T (dat_of X G c 52 52 rfl rfl rfl) x_read_deed
  have x_asks_in := f_asks_in (P := P) (w := w) (base := base) T (dat_of X G c 53 53 rfl rfl rfl) x_want_row x_numbers_in x_read_deed
  have x_line_on_way := f_line_on_way (P := P) (w := w) (base := base) T (dat_of X G c 27 27 rfl rfl rfl)
  have x_figure_in := f_figure_in (P := P) (w := w) (base := base) T (dat_of X G c 28 28 rfl rfl rfl)
  have x_number_without := f_number_without (P := P) (w := w) (base := base) T (dat_of X G c 29 29 rfl rfl rfl)
  have x_is_setting_row := f_is_setting_row (P := P) (w := w) (base := base) T (dat_of X G c 30 30 rfl rfl rfl) x_is_whole
  have x_is_settings := f_is_settings (P := P) (w := w) (base := base) T (dat_of X G c 31 31 rfl rfl rfl) x_want_net x_is_setting_row
  have x_want_settings := f_want_settings (P := P) (w := w) (base := base) T (dat_of X G c 32 32 rfl rfl rfl) x_is_settings
  have x_plain_rows := f_plain_rows (P := P) (w := w) (base := base) T (dat_of X G c 33 33 rfl rfl rfl)
  have x_as_settings := f_as_settings (P := P) (w := w) (base := base) T (dat_of X G c 34 34 rfl rfl rfl)
  have x_straight := f_straight (P := P) (w := w) (base := base) T (dat_of X G c 35 35 rfl rfl rfl) x_want_net x_as_settings x_plain_rows
  have x_side_of_box_rounds := f_side_of_box_rounds (P := P) (w := w) (base := base) T (dat_of X G c 37 37 rfl rfl rfl)
  have x_line_of_rounds := f_line_of_rounds (P := P) (w := w) (base := base) T CC (dat_of X G c 38 38 rfl rfl rfl) x_line_on_way x_side_of_box_rounds
  have x_comes_first := f_comes_first (P := P) (w := w) (base := base) T (dat_of X G c 39 39 rfl rfl rfl) x_number_without x_line_on_way x_figure_in
  have x_in_turn := f_in_turn (P := P) (w := w) (base := base) T CC (dat_of X G c 40 40 rfl rfl rfl) x_comes_first x_side_of_box_rounds
  have x_Carried_init := f_Carried_init (P := P) (w := w) (base := base) T CC (datK_of c 100 115 rfl rfl rfl)
  have x_want_round := f_want_round (P := P) (w := w) (base := base) T (dat_of X G c 36 36 rfl rfl rfl) x_want_net x_want_asks
  have x_joined := f_joined (P := P) (w := w) (base := base) T CC MC (dat_of X G c 41 41 rfl rfl rfl) x_Carried_init x_one_behind
  have x_put_in := f_put_in (P := P) (w := w) (base := base) T MC (dat_of X G c 43 43 rfl rfl rfl) x_Carried_init
  have x_behind_stage := f_behind_stage (P := P) (w := w) (base := base) T CC (dat_of X G c 42 42 rfl rfl rfl) x_in_turn x_line_of_rounds x_number_without x_joined
  have x_gone := f_gone (P := P) (w := w) (base := base) T CC (dat_of X G c 44 44 rfl rfl rfl) x_put_in x_behind_stage
  have x_shared_back := f_shared_back (P := P) (w := w) (base := base) T CC (dat_of X G c 45 45 rfl rfl rfl) x_put_through
  have x_one_round := f_one_round (P := P) (w := w) (base := base) T CC (dat_of X G c 46 46 rfl rfl rfl) x_want_round x_want_settings x_gone x_shared_back x_put_through
  have x_net_told := f_net_told (P := P) (w := w) (base := base) T MN (dat_of X G c 57 57 rfl rfl rfl) x_want_row x_numbers_in x_value_in x_Net_init
  have x_lost_told := f_lost_told (P := P) (w := w) (base := base) T (dat_of X G c 58 58 rfl rfl rfl) x_want_row x_numbers_in
  have x_Desk_init := f_Desk_init (P := P) (w := w) (base := base) T DC MN (datK_of c 101 122 rfl rfl rfl) x_Net_init
  have x_Desk_shown := f_Desk_shown (P := P) (w := w) (base := base) T NC DC (datM_of c 105 126 rfl rfl rfl) x_numbers_shown x_Net_board x_Net_log x_Net_todo
  have x_Desk_looked := f_Desk_looked (P := P) (w := w) (base := base) T NC DC (datM_of c 106 127 rfl rfl rfl) x_want_row x_numbers_in x_waiting_shown x_Net_waiting x_Net_answer
  have x_Desk_reckoned := f_Desk_reckoned (P := P) (w := w) (base := base) T NC DC (datM_of c 107 128 rfl rfl rfl) x_deeds_in x_one_behind x_deed_text x_one_round x_Net_board x_asks_in x_straight x_numbers_shown
  have x_Desk_run_on := f_Desk_run_on (P := P) (w := w) (base := base) T NC DC (datM_of c 104 125 rfl rfl rfl) x_want_row x_Net_beat.2 x_answers_shown
  have x_Desk_moved := f_Desk_moved (P := P) (w := w) (base := base) T NC DC x_Net_beat.1 (datM_of c 103 124 rfl rfl rfl) x_net_told x_want_row x_numbers_in x_Net_put x_read_deed x_answers_shown x_lost_told x_Desk_run_on x_number_in
  have x_Desk_say := f_Desk_say (P := P) (w := w) (base := base) T NC DC (datM_of c 102 123 rfl rfl rfl) x_spoken x_Desk_moved x_want_row x_Desk_shown x_Desk_looked x_Desk_reckoned
  have x_law_pot := f_law_pot (P := P) (w := w) (base := base) T (dat_of X G c 59 59 rfl rfl rfl)
  have x_law_draw := f_law_draw (P := P) (w := w) (base := base) T (dat_of X G c 60 60 rfl rfl rfl)
  have x_law_number := f_law_number (P := P) (w := w) (base := base) T (dat_of X G c 61 61 rfl rfl rfl) x_law_draw
  have x_law_deed := f_law_deed (P := P) (w := w) (base := base) T (dat_of X G c 62 62 rfl rfl rfl) x_law_draw x_law_number
  have x_law_new_net := f_law_new_net (P := P) (w := w) (base := base) T MN (dat_of X G c 69 69 rfl rfl rfl) x_law_draw x_law_number x_Net_init x_law_numbers_text
  have x_law_put := f_law_put (P := P) (w := w) (base := base) T NC (dat_of X G c 70 70 rfl rfl rfl) x_Net_todo x_law_draw x_law_deed x_law_deed_text x_Net_put
  have x_law_lost := f_law_lost (P := P) (w := w) (base := base) T NC x_Net_beat.1 (dat_of X G c 71 71 rfl rfl rfl) x_law_draw x_law_answers_text
  have x_law_run := f_law_run (P := P) (w := w) (base := base) T NC (dat_of X G c 72 72 rfl rfl rfl) x_law_draw x_Net_beat.2 x_law_answers_text
  have x_law_look := f_law_look (P := P) (w := w) (base := base) T NC (dat_of X G c 74 74 rfl rfl rfl) x_law_draw x_law_numbers_text x_Net_board x_Net_log x_Net_todo x_Net_answer x_law_waiting_text x_Net_waiting
  have x_law_then := f_law_then (P := P) (w := w) (base := base) T (dat_of X G c 75 75 rfl rfl rfl) x_law_draw x_law_deed x_law_behind x_law_deed_text
  have x_law_round := f_law_round (P := P) (w := w) (base := base) T NC (dat_of X G c 76 76 rfl rfl rfl) x_law_draw x_law_deed x_law_deed_text x_one_round x_Net_board x_straight x_law_numbers_text
  have x_law_row := f_law_row (P := P) (w := w) (base := base) T NC (dat_of X G c 77 77 rfl rfl rfl) x_law_draw x_law_new_net x_law_put x_law_answers_text x_Net_beat.2 x_law_lost x_law_run x_law_look x_law_then x_law_round
  have x_law_at_end := f_law_at_end (P := P) (w := w) (base := base) T NC DC (dat_of X G c 78 78 rfl rfl rfl) x_law_numbers_text x_Net_board x_Net_log x_Net_todo x_law_waiting_text x_Net_waiting x_Desk_say
  have x_law_right := f_law_right (P := P) (w := w) (base := base) T NC DC MN MD (dat_of X G c 79 79 rfl rfl rfl) x_Desk_init x_Net_init x_law_draw x_law_new_net x_Desk_say x_law_row x_law_at_end
  exact ok_law T F x_law_right x_law_pot
theorem iss_ints {I : Hp} : ∀ ns : List Int, Iss K I (ns.map D.int) (ns.map V.int)
  | [] => Iss.nil
  | _ :: r => Iss.cons Is.int (iss_ints r)
theorem law_says {H : Hp} {a : Addr} {ns : List Int} {E : XK} (hl : ns.length ≤ 63) (hS : SqL K H a (ns.map V.int)) : spOf K S_law [.ref a] H (fun v _ => v = .bl true) E := by
  refine ⟨H, fun _ => none, [.fls (ns.map D.int)], fun d _ => d = .bl true, ⟨Same.refl _, (fun _ _ z => nomatch z)⟩, ?_, ⟨ns, rfl, hl, fun _ => rfl⟩, fun v H' ⟨I', G', d, _, _, i, e⟩ => ?_⟩
  · refine Iss.cons ?_ Iss.nil
    unfold Is
    exact ⟨a, _, rfl, hS, iss_ints ns⟩
  · rw [e] at i
    exact i.bl_eq
end
end J
open PySem PySem.W PySem.Calls PyProof.Rows
theorem PySem.Challenge.cw_joinedasks_k92_whole_two_desks_holds : PySem.Challenge.rw_joinedasks_k92_whole_two_desks.Holds := by
  w_on; o_law
  refine HandSHeadRun.head_any (r := OpenLaw.row PySem.Challenge.rw_joinedasks_k92_whole_two_desks) (q := view (OpenLaw.row PySem.Challenge.rw_joinedasks_k92_whole_two_desks).prog [122]) (H := JH.hk) (ob := JH.ob) (M := 20000) (loose := J.loose) (d := HandSHeadRun.topDef (OpenLaw.row PySem.Challenge.rw_joinedasks_k92_whole_two_desks).prog 122) (kwd := []) JH.ob_eq
    (by kernel_rfl) (fun s => by kernel_rfl) JH.run (by kernel_rfl) (by kernel_rfl) (by kernel_rfl) (by rfl) (by first | assumption | decide +kernel) (by decide +kernel) ⟨rfl, rfl, rfl, rfl, rfl, by decide +kernel⟩ ?hw ?hc
  case hw => w_witness2
  case hc =>
    refine L2.walk_ofE (l := PySem.Challenge.rw_joinedasks_k92_whole_two_desks) (n := 63) (k := 14) (x := "_law_script") (CX := L2.CX0) rfl (by decide) (by kernel_rfl) ⟨rfl, by decide, by decide⟩ ?F (fun _ _ _ _ z => z)
    intro w mg fa h Y G hmg0
    obtain ⟨K, KX, c, ex⟩ := Y
    have hmg : mg ("law" : PySem.Str) = some (.ref fa) := by
      have e : (HandSHeadRun.topDef (OpenLaw.row PySem.Challenge.rw_joinedasks_k92_whole_two_desks).prog 122).name = ("law" : PySem.Str) := by kernel_rfl
      rw [← e]
      exact hmg0
    obtain ⟨fd, F⟩ := c.def_ 80 (d := J.d_law) rfl
    have e := hmg.symm.trans (He.glo_ok KX G (c.fact 80 (f := .glo "law") rfl))
    cases e
    have hb := L2.FunD.bindsA (ps := ["_law_script"]) F fun _ _ _ _ _ _ us hl => match us, hl with | [_], _ => rfl
    exact ⟨K, fd, J.spOf K J.S_law, KX, fun s v => hb s [v] rfl, fun H a ns hl _ hS => J.law_says hl hS, fun base _ _ => J.law_all KX G c ex F⟩
