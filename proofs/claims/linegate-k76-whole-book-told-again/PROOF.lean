import PyProof.Rows.All
import Wide.All
import OpenK.AllK
import Wide.FinOn
import KE.KStateDown
import Lean
import HandS.ForMost
import HandS.ForExc
import HandS.Flow
import HandS.Defaults
import HandS.Evl
import HandS.More
import HandS.RaiseMore
import HandS.Deep
import HandS.SortInts
import HandS.SetFor
import HandS.Head0
import HandS.Head1
import HandS.Head2
import HandS.HeadEnd
import HandS.HeadHook1
import HandS.HeadHook2
import HandS.HeadHook3
import HandS.HeadHook4
import HandS.HeadWalk
import PySem.Challenge.RW_linegate_k76_whole_book_told_again
import HandS.Walk
set_option Elab.async false
set_option linter.all false
set_option maxRecDepth 100000
set_option maxHeartbeats 4000000
namespace LG
open PySem PySem.Spec PyProof.Rows L2
/-! ### the text by places -/
def top (i : Nat) : Stmt := PySem.Challenge.pw_linegate_k76_whole_book_told_again.main.body.getD i (.Pass ⟨0, 0, 0, 0⟩)
abbrev s_sheet_of_values : Stmt := top 13
abbrev s_unfit : Stmt := top 14
abbrev s_edited : Stmt := top 15
abbrev s_are_rising : Stmt := top 21
abbrev s_are_edits : Stmt := top 22
abbrev s_Changes_init : Stmt := inClass (top 23) 0
abbrev s_Changes_added : Stmt := inClass (top 23) 1
abbrev s_Changes_many : Stmt := inClass (top 23) 2
abbrev s_Changes_asked_for : Stmt := inClass (top 23) 3
abbrev s_Changes_rank_of : Stmt := inClass (top 23) 4
abbrev s_Changes_leans_of : Stmt := inClass (top 23) 5
abbrev s_Changes_edits_of : Stmt := inClass (top 23) 6
abbrev s_sheet_of : Stmt := top 24
abbrev s_free : Stmt := top 26
abbrev s_layable : Stmt := top 27
abbrev s_next_laid : Stmt := top 28
abbrev s_filled : Stmt := top 29
abbrev s_greatest_gap : Stmt := top 31
abbrev s_wanted_places : Stmt := top 32
abbrev s_Tally_init : Stmt := inClass (top 35) 0
abbrev s_Tally_tell : Stmt := inClass (top 35) 1
abbrev s_Tally_counted : Stmt := inClass (top 35) 2
abbrev s_Tally_word : Stmt := inClass (top 35) 3
abbrev s_Gate_init : Stmt := inClass (top 37) 0
abbrev s_Gate_look_at : Stmt := inClass (top 37) 1
abbrev s_Gate_told_of : Stmt := inClass (top 37) 2
abbrev s_Gate_bad : Stmt := inClass (top 37) 3
abbrev s_Gate_wait_again : Stmt := inClass (top 37) 4
abbrev s_Gate_put_out : Stmt := inClass (top 37) 5
abbrev s_Gate_out_by_leaning : Stmt := inClass (top 37) 6
abbrev s_Gate_out_by_look : Stmt := inClass (top 37) 7
abbrev s_Gate_out_unfit : Stmt := inClass (top 37) 8
abbrev s_Gate_turned : Stmt := inClass (top 37) 9
abbrev s_Gate_settle : Stmt := inClass (top 37) 10
abbrev s_Gate_ask : Stmt := inClass (top 37) 11
abbrev s_Gate_withdraw : Stmt := inClass (top 37) 12
abbrev s_Gate_end_look : Stmt := inClass (top 37) 13
abbrev s_Gate_answer : Stmt := inClass (top 37) 14
abbrev s_Gate_stop : Stmt := inClass (top 37) 15
abbrev s_Gate_go : Stmt := inClass (top 37) 16
abbrev s_Gate_line : Stmt := inClass (top 37) 17
abbrev s_Gate_laid : Stmt := inClass (top 37) 18
abbrev s_Gate_waiting : Stmt := inClass (top 37) 19
abbrev s_Gate_outs : Stmt := inClass (top 37) 20
abbrev s_Gate_wanted : Stmt := inClass (top 37) 21
abbrev s_Gate_stopped : Stmt := inClass (top 37) 22
abbrev s_Gate_sheet : Stmt := inClass (top 37) 23
abbrev s_Gate_changes : Stmt := inClass (top 37) 27
abbrev s_copied : Stmt := top 39
abbrev s_done : Stmt := top 40
abbrev s_Book_init : Stmt := inClass (top 41) 0
abbrev s_Book_do : Stmt := inClass (top 41) 1
abbrev s_Book_rows : Stmt := inClass (top 41) 2
abbrev s_Book_many : Stmt := inClass (top 41) 3
abbrev s_Book_gate_of : Stmt := inClass (top 41) 4
abbrev s_Book_take_back : Stmt := inClass (top 41) 5
abbrev s_turn_of : Stmt := top 43
abbrev s_why_waiting : Stmt := top 44
abbrev s_why : Stmt := top 45
abbrev s_is_number : Stmt := top 49
abbrev s_numbers_of : Stmt := top 50
abbrev s_ask_row : Stmt := top 51
abbrev s_read_row : Stmt := top 52
abbrev s_words_of : Stmt := top 53
abbrev s_shown_ask : Stmt := top 54
abbrev s_shown_row : Stmt := top 55
abbrev s_some_or_none : Stmt := top 57
abbrev s_shown_looks : Stmt := top 58
abbrev s_shown_sheet : Stmt := top 59
abbrev s_shown_ground : Stmt := top 60
abbrev s_shown_reason : Stmt := top 61
abbrev s_Desk_init : Stmt := inClass (top 62) 0
abbrev s_Desk_taken_back : Stmt := inClass (top 62) 1
abbrev s_Desk_asked_of : Stmt := inClass (top 62) 2
abbrev s_Desk_deed_of : Stmt := inClass (top 62) 3
abbrev s_Desk_say : Stmt := inClass (top 62) 4
abbrev s_l_cell_at : Stmt := top 64
abbrev s_l_mixed : Stmt := top 65
abbrev s_l_turns_of : Stmt := top 66
abbrev s_l_three : Stmt := top 67
abbrev s_l_new : Stmt := top 68
abbrev s_l_put : Stmt := top 69
abbrev s_l_line : Stmt := top 70
abbrev s_l_said : Stmt := top 71
abbrev s_l_why : Stmt := top 72
abbrev s_l_shot : Stmt := top 73
abbrev s_l_told : Stmt := top 74
abbrev s_law : Stmt := top 75
/-! ### the defs as data -/
def d_sheet_of_values : He.DefD := ⟨("sheet_of_values", none), "sheet_of_values", "sheet_of_values", defArgs s_sheet_of_values, defBody s_sheet_of_values, defScope s_sheet_of_values, [], []⟩
def d_unfit : He.DefD := ⟨("unfit", none), "unfit", "unfit", defArgs s_unfit, defBody s_unfit, defScope s_unfit, [], []⟩
def d_edited : He.DefD := ⟨("edited", none), "edited", "edited", defArgs s_edited, defBody s_edited, defScope s_edited, [], []⟩
def d_are_rising : He.DefD := ⟨("are_rising", none), "are_rising", "are_rising", defArgs s_are_rising, defBody s_are_rising, defScope s_are_rising, [], []⟩
def d_are_edits : He.DefD := ⟨("are_edits", none), "are_edits", "are_edits", defArgs s_are_edits, defBody s_are_edits, defScope s_are_edits, [], []⟩
def d_Changes_init : He.DefD := ⟨("Changes", some "__init__"), "__init__", "Changes.__init__", defArgs s_Changes_init, defBody s_Changes_init, defScope s_Changes_init, [], []⟩
def d_Changes_added : He.DefD := ⟨("Changes", some "added"), "added", "Changes.added", defArgs s_Changes_added, defBody s_Changes_added, defScope s_Changes_added, [], []⟩
def d_Changes_many : He.DefD := ⟨("Changes", some "many"), "many", "Changes.many", defArgs s_Changes_many, defBody s_Changes_many, defScope s_Changes_many, [], []⟩
def d_Changes_asked_for : He.DefD := ⟨("Changes", some "asked_for"), "asked_for", "Changes.asked_for", defArgs s_Changes_asked_for, defBody s_Changes_asked_for, defScope s_Changes_asked_for, [], []⟩
def d_Changes_rank_of : He.DefD := ⟨("Changes", some "rank_of"), "rank_of", "Changes.rank_of", defArgs s_Changes_rank_of, defBody s_Changes_rank_of, defScope s_Changes_rank_of, [], []⟩
def d_Changes_leans_of : He.DefD := ⟨("Changes", some "leans_of"), "leans_of", "Changes.leans_of", defArgs s_Changes_leans_of, defBody s_Changes_leans_of, defScope s_Changes_leans_of, [], []⟩
def d_Changes_edits_of : He.DefD := ⟨("Changes", some "edits_of"), "edits_of", "Changes.edits_of", defArgs s_Changes_edits_of, defBody s_Changes_edits_of, defScope s_Changes_edits_of, [], []⟩
def d_sheet_of : He.DefD := ⟨("sheet_of", none), "sheet_of", "sheet_of", defArgs s_sheet_of, defBody s_sheet_of, defScope s_sheet_of, [], []⟩
def d_free : He.DefD := ⟨("free", none), "free", "free", defArgs s_free, defBody s_free, defScope s_free, [], []⟩
def d_layable : He.DefD := ⟨("layable", none), "layable", "layable", defArgs s_layable, defBody s_layable, defScope s_layable, [], []⟩
def d_next_laid : He.DefD := ⟨("next_laid", none), "next_laid", "next_laid", defArgs s_next_laid, defBody s_next_laid, defScope s_next_laid, [], []⟩
def d_filled : He.DefD := ⟨("filled", none), "filled", "filled", defArgs s_filled, defBody s_filled, defScope s_filled, [], []⟩
def d_greatest_gap : He.DefD := ⟨("greatest_gap", none), "greatest_gap", "greatest_gap", defArgs s_greatest_gap, defBody s_greatest_gap, defScope s_greatest_gap, [], []⟩
def d_wanted_places : He.DefD := ⟨("wanted_places", none), "wanted_places", "wanted_places", defArgs s_wanted_places, defBody s_wanted_places, defScope s_wanted_places, [], []⟩
def d_Tally_init : He.DefD := ⟨("Tally", some "__init__"), "__init__", "Tally.__init__", defArgs s_Tally_init, defBody s_Tally_init, defScope s_Tally_init, [], []⟩
def d_Tally_tell : He.DefD := ⟨("Tally", some "tell"), "tell", "Tally.tell", defArgs s_Tally_tell, defBody s_Tally_tell, defScope s_Tally_tell, [], []⟩
def d_Tally_counted : He.DefD := ⟨("Tally", some "counted"), "counted", "Tally.counted", defArgs s_Tally_counted, defBody s_Tally_counted, defScope s_Tally_counted, [], []⟩
def d_Tally_word : He.DefD := ⟨("Tally", some "word"), "word", "Tally.word", defArgs s_Tally_word, defBody s_Tally_word, defScope s_Tally_word, [], []⟩
def d_Gate_init : He.DefD := ⟨("Gate", some "__init__"), "__init__", "Gate.__init__", defArgs s_Gate_init, defBody s_Gate_init, defScope s_Gate_init, [], []⟩
def d_Gate_look_at : He.DefD := ⟨("Gate", some "look_at"), "look_at", "Gate.look_at", defArgs s_Gate_look_at, defBody s_Gate_look_at, defScope s_Gate_look_at, [], []⟩
def d_Gate_told_of : He.DefD := ⟨("Gate", some "told_of"), "told_of", "Gate.told_of", defArgs s_Gate_told_of, defBody s_Gate_told_of, defScope s_Gate_told_of, [], []⟩
def d_Gate_bad : He.DefD := ⟨("Gate", some "bad"), "bad", "Gate.bad", defArgs s_Gate_bad, defBody s_Gate_bad, defScope s_Gate_bad, [], []⟩
def d_Gate_wait_again : He.DefD := ⟨("Gate", some "wait_again"), "wait_again", "Gate.wait_again", defArgs s_Gate_wait_again, defBody s_Gate_wait_again, defScope s_Gate_wait_again, [], []⟩
def d_Gate_put_out : He.DefD := ⟨("Gate", some "put_out"), "put_out", "Gate.put_out", defArgs s_Gate_put_out, defBody s_Gate_put_out, defScope s_Gate_put_out, [], []⟩
def d_Gate_out_by_leaning : He.DefD := ⟨("Gate", some "out_by_leaning"), "out_by_leaning", "Gate.out_by_leaning", defArgs s_Gate_out_by_leaning, defBody s_Gate_out_by_leaning, defScope s_Gate_out_by_leaning, [], []⟩
def d_Gate_out_by_look : He.DefD := ⟨("Gate", some "out_by_look"), "out_by_look", "Gate.out_by_look", defArgs s_Gate_out_by_look, defBody s_Gate_out_by_look, defScope s_Gate_out_by_look, [], []⟩
def d_Gate_out_unfit : He.DefD := ⟨("Gate", some "out_unfit"), "out_unfit", "Gate.out_unfit", defArgs s_Gate_out_unfit, defBody s_Gate_out_unfit, defScope s_Gate_out_unfit, [], []⟩
def d_Gate_turned : He.DefD := ⟨("Gate", some "turned"), "turned", "Gate.turned", defArgs s_Gate_turned, defBody s_Gate_turned, defScope s_Gate_turned, [], []⟩
def d_Gate_settle : He.DefD := ⟨("Gate", some "settle"), "settle", "Gate.settle", defArgs s_Gate_settle, defBody s_Gate_settle, defScope s_Gate_settle, [], []⟩
def d_Gate_ask : He.DefD := ⟨("Gate", some "ask"), "ask", "Gate.ask", defArgs s_Gate_ask, defBody s_Gate_ask, defScope s_Gate_ask, [], []⟩
def d_Gate_withdraw : He.DefD := ⟨("Gate", some "withdraw"), "withdraw", "Gate.withdraw", defArgs s_Gate_withdraw, defBody s_Gate_withdraw, defScope s_Gate_withdraw, [], []⟩
def d_Gate_end_look : He.DefD := ⟨("Gate", some "end_look"), "end_look", "Gate.end_look", defArgs s_Gate_end_look, defBody s_Gate_end_look, defScope s_Gate_end_look, [], []⟩
def d_Gate_answer : He.DefD := ⟨("Gate", some "answer"), "answer", "Gate.answer", defArgs s_Gate_answer, defBody s_Gate_answer, defScope s_Gate_answer, [], []⟩
def d_Gate_stop : He.DefD := ⟨("Gate", some "stop"), "stop", "Gate.stop", defArgs s_Gate_stop, defBody s_Gate_stop, defScope s_Gate_stop, [], []⟩
def d_Gate_go : He.DefD := ⟨("Gate", some "go"), "go", "Gate.go", defArgs s_Gate_go, defBody s_Gate_go, defScope s_Gate_go, [], []⟩
def d_Gate_line : He.DefD := ⟨("Gate", some "line"), "line", "Gate.line", defArgs s_Gate_line, defBody s_Gate_line, defScope s_Gate_line, [], []⟩
def d_Gate_laid : He.DefD := ⟨("Gate", some "laid"), "laid", "Gate.laid", defArgs s_Gate_laid, defBody s_Gate_laid, defScope s_Gate_laid, [], []⟩
def d_Gate_waiting : He.DefD := ⟨("Gate", some "waiting"), "waiting", "Gate.waiting", defArgs s_Gate_waiting, defBody s_Gate_waiting, defScope s_Gate_waiting, [], []⟩
def d_Gate_outs : He.DefD := ⟨("Gate", some "outs"), "outs", "Gate.outs", defArgs s_Gate_outs, defBody s_Gate_outs, defScope s_Gate_outs, [], []⟩
def d_Gate_wanted : He.DefD := ⟨("Gate", some "wanted"), "wanted", "Gate.wanted", defArgs s_Gate_wanted, defBody s_Gate_wanted, defScope s_Gate_wanted, [], []⟩
def d_Gate_stopped : He.DefD := ⟨("Gate", some "stopped"), "stopped", "Gate.stopped", defArgs s_Gate_stopped, defBody s_Gate_stopped, defScope s_Gate_stopped, [], []⟩
def d_Gate_sheet : He.DefD := ⟨("Gate", some "sheet"), "sheet", "Gate.sheet", defArgs s_Gate_sheet, defBody s_Gate_sheet, defScope s_Gate_sheet, [], []⟩
def d_Gate_changes : He.DefD := ⟨("Gate", some "changes"), "changes", "Gate.changes", defArgs s_Gate_changes, defBody s_Gate_changes, defScope s_Gate_changes, [], []⟩
def d_copied : He.DefD := ⟨("copied", none), "copied", "copied", defArgs s_copied, defBody s_copied, defScope s_copied, [], []⟩
def d_done : He.DefD := ⟨("done", none), "done", "done", defArgs s_done, defBody s_done, defScope s_done, [], []⟩
def d_Book_init : He.DefD := ⟨("Book", some "__init__"), "__init__", "Book.__init__", defArgs s_Book_init, defBody s_Book_init, defScope s_Book_init, [], []⟩
def d_Book_do : He.DefD := ⟨("Book", some "do"), "do", "Book.do", defArgs s_Book_do, defBody s_Book_do, defScope s_Book_do, [], []⟩
def d_Book_rows : He.DefD := ⟨("Book", some "rows"), "rows", "Book.rows", defArgs s_Book_rows, defBody s_Book_rows, defScope s_Book_rows, [], []⟩
def d_Book_many : He.DefD := ⟨("Book", some "many"), "many", "Book.many", defArgs s_Book_many, defBody s_Book_many, defScope s_Book_many, [], []⟩
def d_Book_gate_of : He.DefD := ⟨("Book", some "gate_of"), "gate_of", "Book.gate_of", defArgs s_Book_gate_of, defBody s_Book_gate_of, defScope s_Book_gate_of, [], []⟩
def d_Book_take_back : He.DefD := ⟨("Book", some "take_back"), "take_back", "Book.take_back", defArgs s_Book_take_back, defBody s_Book_take_back, defScope s_Book_take_back, [], []⟩
def d_turn_of : He.DefD := ⟨("turn_of", none), "turn_of", "turn_of", defArgs s_turn_of, defBody s_turn_of, defScope s_turn_of, [], []⟩
def d_why_waiting : He.DefD := ⟨("why_waiting", none), "why_waiting", "why_waiting", defArgs s_why_waiting, defBody s_why_waiting, defScope s_why_waiting, [], []⟩
def d_why : He.DefD := ⟨("why", none), "why", "why", defArgs s_why, defBody s_why, defScope s_why, [], []⟩
def d_is_number : He.DefD := ⟨("is_number", none), "is_number", "is_number", defArgs s_is_number, defBody s_is_number, defScope s_is_number, [], []⟩
def d_numbers_of : He.DefD := ⟨("numbers_of", none), "numbers_of", "numbers_of", defArgs s_numbers_of, defBody s_numbers_of, defScope s_numbers_of, [], []⟩
def d_ask_row : He.DefD := ⟨("ask_row", none), "ask_row", "ask_row", defArgs s_ask_row, defBody s_ask_row, defScope s_ask_row, [], []⟩
def d_read_row : He.DefD := ⟨("read_row", none), "read_row", "read_row", defArgs s_read_row, defBody s_read_row, defScope s_read_row, [], []⟩
def d_words_of : He.DefD := ⟨("words_of", none), "words_of", "words_of", defArgs s_words_of, defBody s_words_of, defScope s_words_of, [], []⟩
def d_shown_ask : He.DefD := ⟨("shown_ask", none), "shown_ask", "shown_ask", defArgs s_shown_ask, defBody s_shown_ask, defScope s_shown_ask, [], []⟩
def d_shown_row : He.DefD := ⟨("shown_row", none), "shown_row", "shown_row", defArgs s_shown_row, defBody s_shown_row, defScope s_shown_row, [], []⟩
def d_some_or_none : He.DefD := ⟨("some_or_none", none), "some_or_none", "some_or_none", defArgs s_some_or_none, defBody s_some_or_none, defScope s_some_or_none, [], []⟩
def d_shown_looks : He.DefD := ⟨("shown_looks", none), "shown_looks", "shown_looks", defArgs s_shown_looks, defBody s_shown_looks, defScope s_shown_looks, [], []⟩
def d_shown_sheet : He.DefD := ⟨("shown_sheet", none), "shown_sheet", "shown_sheet", defArgs s_shown_sheet, defBody s_shown_sheet, defScope s_shown_sheet, [], []⟩
def d_shown_ground : He.DefD := ⟨("shown_ground", none), "shown_ground", "shown_ground", defArgs s_shown_ground, defBody s_shown_ground, defScope s_shown_ground, [], []⟩
def d_shown_reason : He.DefD := ⟨("shown_reason", none), "shown_reason", "shown_reason", defArgs s_shown_reason, defBody s_shown_reason, defScope s_shown_reason, [], []⟩
def d_Desk_init : He.DefD := ⟨("Desk", some "__init__"), "__init__", "Desk.__init__", defArgs s_Desk_init, defBody s_Desk_init, defScope s_Desk_init, [], []⟩
def d_Desk_taken_back : He.DefD := ⟨("Desk", some "taken_back"), "taken_back", "Desk.taken_back", defArgs s_Desk_taken_back, defBody s_Desk_taken_back, defScope s_Desk_taken_back, [], []⟩
def d_Desk_asked_of : He.DefD := ⟨("Desk", some "asked_of"), "asked_of", "Desk.asked_of", defArgs s_Desk_asked_of, defBody s_Desk_asked_of, defScope s_Desk_asked_of, [], []⟩
def d_Desk_deed_of : He.DefD := ⟨("Desk", some "deed_of"), "deed_of", "Desk.deed_of", defArgs s_Desk_deed_of, defBody s_Desk_deed_of, defScope s_Desk_deed_of, [], []⟩
def d_Desk_say : He.DefD := ⟨("Desk", some "say"), "say", "Desk.say", defArgs s_Desk_say, defBody s_Desk_say, defScope s_Desk_say, [], []⟩
def d_l_cell_at : He.DefD := ⟨("_law_cell_at", none), "_law_cell_at", "_law_cell_at", defArgs s_l_cell_at, defBody s_l_cell_at, defScope s_l_cell_at, [], []⟩
def d_l_mixed : He.DefD := ⟨("_law_mixed", none), "_law_mixed", "_law_mixed", defArgs s_l_mixed, defBody s_l_mixed, defScope s_l_mixed, [], []⟩
def d_l_turns_of : He.DefD := ⟨("_law_turns_of", none), "_law_turns_of", "_law_turns_of", defArgs s_l_turns_of, defBody s_l_turns_of, defScope s_l_turns_of, [], []⟩
def d_l_three : He.DefD := ⟨("_law_three", none), "_law_three", "_law_three", defArgs s_l_three, defBody s_l_three, defScope s_l_three, [], []⟩
def d_l_new : He.DefD := ⟨("_law_new", none), "_law_new", "_law_new", defArgs s_l_new, defBody s_l_new, defScope s_l_new, [], []⟩
def d_l_put : He.DefD := ⟨("_law_put", none), "_law_put", "_law_put", defArgs s_l_put, defBody s_l_put, defScope s_l_put, [], []⟩
def d_l_line : He.DefD := ⟨("_law_line", none), "_law_line", "_law_line", defArgs s_l_line, defBody s_l_line, defScope s_l_line, [], []⟩
def d_l_said : He.DefD := ⟨("_law_said", none), "_law_said", "_law_said", defArgs s_l_said, defBody s_l_said, defScope s_l_said, [], []⟩
def d_l_why : He.DefD := ⟨("_law_why", none), "_law_why", "_law_why", defArgs s_l_why, defBody s_l_why, defScope s_l_why, [], []⟩
def d_l_shot : He.DefD := ⟨("_law_shot", none), "_law_shot", "_law_shot", defArgs s_l_shot, defBody s_l_shot, defScope s_l_shot, [], []⟩
def d_l_told : He.DefD := ⟨("_law_told", none), "_law_told", "_law_told", defArgs s_l_told, defBody s_l_told, defScope s_l_told, [], []⟩
def d_law : He.DefD := ⟨("law", none), "law", "law", defArgs s_law, defBody s_law, defScope s_law, [], []⟩
def fn : List He.DefD := [d_sheet_of_values, d_unfit, d_edited, d_are_rising, d_are_edits, d_Changes_init, d_Changes_added, d_Changes_many, d_Changes_asked_for, d_Changes_rank_of, d_Changes_leans_of, d_Changes_edits_of, d_sheet_of, d_free, d_layable, d_next_laid, d_filled, d_greatest_gap, d_wanted_places, d_Tally_init, d_Tally_tell, d_Tally_counted, d_Tally_word, d_Gate_init, d_Gate_look_at, d_Gate_told_of, d_Gate_bad, d_Gate_wait_again, d_Gate_put_out, d_Gate_out_by_leaning, d_Gate_out_by_look, d_Gate_out_unfit, d_Gate_turned, d_Gate_settle, d_Gate_ask, d_Gate_withdraw, d_Gate_end_look, d_Gate_answer, d_Gate_stop, d_Gate_go, d_Gate_line, d_Gate_laid, d_Gate_waiting, d_Gate_outs, d_Gate_wanted, d_Gate_stopped, d_Gate_sheet, d_Gate_changes, d_copied, d_done, d_Book_init, d_Book_do, d_Book_rows, d_Book_many, d_Book_gate_of, d_Book_take_back, d_turn_of, d_why_waiting, d_why, d_is_number, d_numbers_of, d_ask_row, d_read_row, d_words_of, d_shown_ask, d_shown_row, d_some_or_none, d_shown_looks, d_shown_sheet, d_shown_ground, d_shown_reason, d_Desk_init, d_Desk_taken_back, d_Desk_asked_of, d_Desk_deed_of, d_Desk_say, d_l_cell_at, d_l_mixed, d_l_turns_of, d_l_three, d_l_new, d_l_put, d_l_line, d_l_said, d_l_why, d_l_shot, d_l_told, d_law]
def fa : List He.Fa := [.glo "sheet_of_values",
  .glo "unfit",
  .glo "edited",
  .glo "are_rising",
  .glo "are_edits",
  .glo "sheet_of",
  .glo "free",
  .glo "layable",
  .glo "next_laid",
  .glo "filled",
  .glo "greatest_gap",
  .glo "wanted_places",
  .glo "copied",
  .glo "done",
  .glo "turn_of",
  .glo "why_waiting",
  .glo "why",
  .glo "is_number",
  .glo "numbers_of",
  .glo "ask_row",
  .glo "read_row",
  .glo "words_of",
  .glo "shown_ask",
  .glo "shown_row",
  .glo "some_or_none",
  .glo "shown_looks",
  .glo "shown_sheet",
  .glo "shown_ground",
  .glo "shown_reason",
  .glo "_law_cell_at",
  .glo "_law_mixed",
  .glo "_law_turns_of",
  .glo "_law_three",
  .glo "_law_new",
  .glo "_law_put",
  .glo "_law_line",
  .glo "_law_said",
  .glo "_law_why",
  .glo "_law_shot",
  .glo "_law_told",
  .glo "law",
  .glo "Changes",
  .glo "Tally",
  .glo "Gate",
  .glo "Book",
  .glo "Desk",
  .free "len",
  .free "dict",
  .free "sorted",
  .free "list",
  .free "tuple",
  .free "all",
  .free "min",
  .free "max",
  .free "range",
  .free "sum",
  .free "str",
  .free "int",
  .int "MANY" 60,
  .int "EDITS" 20,
  .int "SLOTS" 1000,
  .int "GREATEST" 1000000000,
  .int "MOST" 12,
  .str "FIGURES" "0123456789",
  .cls "Changes",
  .mkr "Changes",
  .noat "Changes" "ranks",
  .noat "Changes" "leaned",
  .noat "Changes" "edits",
  .cls "Tally",
  .mkr "Tally",
  .noat "Tally" "need",
  .noat "Tally" "tries",
  .noat "Tally" "met",
  .noat "Tally" "last",
  .cls "Gate",
  .mkr "Gate",
  .noat "Gate" "house",
  .noat "Gate" "store",
  .noat "Gate" "top",
  .noat "Gate" "upon",
  .noat "Gate" "queue",
  .noat "Gate" "gone",
  .noat "Gate" "asked",
  .noat "Gate" "halted",
  .noat "Gate" "grown",
  .noat "Gate" "ended",
  .noat "Gate" "known",
  .noat "Gate" "tolls",
  .cls "Book",
  .mkr "Book",
  .noat "Book" "four",
  .noat "Book" "own",
  .noat "Book" "written",
  .cls "Desk",
  .mkr "Desk",
  .noat "Desk" "book",
  .noat "Desk" "gate",
  .meth "Changes" "added",
  .meth "Changes" "many",
  .meth "Changes" "asked_for",
  .meth "Changes" "rank_of",
  .meth "Changes" "leans_of",
  .meth "Changes" "edits_of",
  .meth "Tally" "tell",
  .meth "Tally" "counted",
  .meth "Tally" "word",
  .meth "Gate" "look_at",
  .meth "Gate" "told_of",
  .meth "Gate" "bad",
  .meth "Gate" "wait_again",
  .meth "Gate" "put_out",
  .meth "Gate" "out_by_leaning",
  .meth "Gate" "out_by_look",
  .meth "Gate" "out_unfit",
  .meth "Gate" "turned",
  .meth "Gate" "settle",
  .meth "Gate" "ask",
  .meth "Gate" "withdraw",
  .meth "Gate" "end_look",
  .meth "Gate" "answer",
  .meth "Gate" "stop",
  .meth "Gate" "go",
  .meth "Gate" "line",
  .meth "Gate" "laid",
  .meth "Gate" "waiting",
  .meth "Gate" "outs",
  .meth "Gate" "wanted",
  .meth "Gate" "stopped",
  .meth "Gate" "sheet",
  .meth "Gate" "changes",
  .meth "Book" "do",
  .meth "Book" "rows",
  .meth "Book" "many",
  .meth "Book" "gate_of",
  .meth "Book" "take_back",
  .meth "Desk" "taken_back",
  .meth "Desk" "asked_of",
  .meth "Desk" "deed_of",
  .meth "Desk" "say",
  .glo "NoChange",
  .exc "NoChange",
  .exm "NoChange" "LinegateError" true,
  .glo "TooMany",
  .exc "TooMany",
  .exm "TooMany" "LinegateError" true,
  .glo "NoRule",
  .exc "NoRule",
  .exm "NoRule" "LinegateError" true,
  .glo "NoAnswer",
  .exc "NoAnswer",
  .exm "NoAnswer" "LinegateError" true,
  .glo "NoLook",
  .exc "NoLook",
  .exm "NoLook" "LinegateError" true,
  .glo "TooLate",
  .exc "TooLate",
  .exm "TooLate" "LinegateError" true,
  .glo "NoRow",
  .exc "NoRow",
  .exm "NoRow" "LinegateError" true,
  .glo "NoText",
  .exc "NoText",
  .exm "NoText" "LinegateError" true,
  .exm "NoChange" "NoChange" true,
  .glo "LinegateError",
  .keep "LinegateError",
  .glo "WORDS"]
/-- the words of an answer, a tuple of the top -/
def exB (K : PySem.W.Frag) : Bool := He.tupB K "WORDS" [.str "yes", .str "no", .str "unsure"]
end LG

set_option Elab.async false
set_option linter.all false
set_option maxRecDepth 100000
set_option maxHeartbeats 0
namespace LG
open PySem PySem.W PySem.Calls PyProof.Rows
abbrev R : OpenRow := OpenLaw.row PySem.Challenge.rw_linegate_k76_whole_book_told_again
abbrev hk : Hook := He.hookX 4 fa fn [] [] exB
def ob (s : SharedT) : He.AlX := He.obsX 4 fa fn [] [] exB (HandSHeadRun.getT s)
theorem ob_eq (s : SharedT) : ob s = hk.obs s.abs := He.obsX_eq (HandSHeadRun.getT_eq s)
def nm0 : List PySem.Str := ["_wall", "__name__", "LinegateError", "NoFit", "NoChange", "TooMany", "NoRule", "NoAnswer", "NoLook", "TooLate", "NoRow", "NoText", "sheet_of_values", "unfit", "edited", "MANY", "EDITS", "SLOTS", "GREATEST", "are_rising", "are_edits", "Changes", "sheet_of", "free", "layable", "next_laid", "filled", "greatest_gap", "wanted_places", "WORDS"]
def nm1 : List PySem.Str := ["Tally", "Gate", "copied", "done", "Book", "turn_of", "why_waiting", "why", "FIGURES", "MOST", "is_number", "numbers_of", "ask_row", "read_row", "words_of", "shown_ask", "shown_row", "some_or_none", "shown_looks", "shown_sheet", "shown_ground", "shown_reason", "Desk", "_law_cell_at", "_law_mixed", "_law_turns_of", "_law_three", "_law_new", "_law_put", "_law_line"]
def nm2 : List PySem.Str := ["_law_said", "_law_why", "_law_shot", "_law_told"]
def names : List PySem.Str := nm0 ++ nm1 ++ nm2
open HandSHeadRun
/-- the top's end; the looks at it are checked in three parts, so that no one of them holds all the memory -/
noncomputable def En (w : World) (os : OsState) : Option SharedT := endF (stepQ (denQ tabQ) R.prog w) 10000 R.prog w os
noncomputable def Kn (s : SharedT) : PySem.W.Frag := He.frT (getT s) (He.asD (getT s) 4)
noncomputable def lookA (w : World) (s : SharedT) : Bool := looksF R.prog (boot_heap w.params) s.abs
noncomputable def lookB (s : SharedT) := seenQ (view R.prog [75]) names (importedModules R.prog.main.body) (fun s => xlAt (view R.prog [75]) [] s && recOk R.toRowW.records s) s.abs
noncomputable def lookX (s : SharedT) : Bool := exB (Kn s) && He.tabsB (getT s) [] (Kn s)
theorem run1 (w : World) (os : OsState) : (En w os).map (fun s => (lookA w s, lookB s, lookX s)) = some (true, openGood (view R.prog [75]) names, true) := by
  kernel_rfl
theorem run2 (w : World) (os : OsState) : (En w os).map (fun s => (fa.all (fun f => f.ok (Kn s)), fn.map fun d => He.fnW (Kn s) d.at_)) = some (true, fn.map He.DefD.val) := by
  kernel_rfl
theorem run3 (w : World) (os : OsState) : (En w os).map (fun s => fn.all fun d => d.ok (Kn s)) = some true := by
  kernel_rfl
theorem joinO {S B E L : Type} {x : Option S} {p t v r : S → Bool} {q : S → B} {u : S → E} {l : L} {b : B} {e : E} (h1 : x.map (fun s => (p s, q s, r s)) = some (true, b, true)) (h2 : x.map (fun s => (t s, u s)) = some (true, e)) (h3 : x.map v = some true) : x.map (fun s => (p s, q s, (((t s && v s, u s), l), r s))) = some (true, b, (((true, e), l), true)) := by
  cases x with
  | none => cases h1
  | some s =>
    injection h1 with h1
    injection h2 with h2
    injection h3 with h3
    injection h1 with ha hr
    injection hr with hb hc
    injection h2 with hd he
    show some (p s, q s, (((t s && v s, u s), l), r s)) = _
    rw [ha, hb, hc, hd, he, h3]
    rfl
theorem run (w : World) : RunEq R (view R.prog [75]) hk ob 10000 names w := fun os => joinO (run1 w os) (run2 w os) (run3 w os)
end LG

/-! The mirror: what each def computes, in plain Lean. -/
set_option linter.all false
namespace LG
abbrev Edit := Int × Int × Int
structure Chg where
  rank : Int
  leans : List Int
  edits : List Edit
instance : Inhabited Chg := ⟨⟨0, [], []⟩⟩
/-! ### tables -/
section
variable {κ α : Type} [DecidableEq κ]
def look (kvs : List (κ × α)) (k : κ) : Option α := (kvs.find? fun kv => decide (kv.1 = k)).map (·.2)
def put (kvs : List (κ × α)) (k : κ) (v : α) : List (κ × α) :=
  if (kvs.any fun kv => decide (kv.1 = k)) = true then kvs.map (fun kv => if kv.1 = k then (kv.1, v) else kv) else kvs ++ [(k, v)]
end
def merge (ps : List (Int × Int)) : List (Int × Int) := ps.foldl (fun acc p => put acc p.1 p.2) []
def isort (l : List Int) : List Int := l.mergeSort fun a b => decide (a ≤ b)
/-! ### sheets -/
def unfitM (s : List (Int × Int)) (es : List Edit) : Option Int := (es.find? fun e => !decide ((look (merge s) e.1).getD 0 = e.2.1)).map (·.1)
def applyE (d : List (Int × Int)) (es : List Edit) : List (Int × Int) := es.foldl (fun d e => put d e.1 e.2.2) d
def sov (d : List (Int × Int)) : List (Int × Int) := ((isort (d.map (·.1))).filter fun k => decide (0 < (look d k).getD 0)).map fun k => (k, (look d k).getD 0)
def editedM (s : List (Int × Int)) (es : List Edit) : List (Int × Int) := sov (applyE (merge s) es)
/-! ### changes -/
def risingM : List Int → Int → Int → Bool
  | [], _, _ => true
  | n :: ns, last, most => if n ≤ last ∨ most < n then false else risingM ns n most
def areRising (ns : List Int) (least most : Int) : Bool := risingM ns (least - 1) most
def editOk (e : Edit) : Bool := !(decide (e.2.1 = e.2.2) || decide ((if e.2.2 < e.2.1 then e.2.2 else e.2.1) < 0) || decide (1000000000 < (if e.2.2 > e.2.1 then e.2.2 else e.2.1)))
def areEdits (es : List Edit) : Bool := !(decide (20 < (es.length : Int)) || !areRising (es.map (·.1)) 0 (1000 - 1)) && es.all editOk
def validC (n : Nat) (c : Chg) : Bool := !(decide (c.rank < 0) || decide (9 < c.rank) || !areRising c.leans 1 n || !areEdits c.edits)
def getC (chs : List Chg) (n : Int) : Chg := chs.getD (n - 1).toNat default
def sheetM (chs : List Chg) (row : List Int) : List (Int × Int) := row.foldl (fun s n => editedM s (getC chs n).edits) []
/-! ### laying -/
def freeM (chs : List Chg) (line laid waiting : List Int) : List Int := waiting.filter fun n => (getC chs n).leans.all fun m => decide (m ∈ line ++ laid)
def layableM (chs : List Chg) (line laid waiting : List Int) : List Int :=
  (freeM chs line laid waiting).filter fun n => (unfitM (sheetM chs (line ++ laid)) (getC chs n).edits).isNone
def bestStep (chs : List Chg) (b : Option Int) (n : Int) : Option Int := match b with
  | none => some n
  | some m => if (getC chs m).rank < (getC chs n).rank then some n else some m
def nextM (chs : List Chg) (line laid waiting : List Int) : Option Int := (layableM chs line laid waiting).foldl (bestStep chs) none
def fillM (chs : List Chg) (line : List Int) (width : Int) : Nat → List Int → List Int → List Int
  | 0, found, _ => found
  | k + 1, found, left => if (found.length : Int) < width then (match nextM chs line found left with
    | none => found
    | some n => fillM chs line width k (found ++ [n]) (left.erase n)) else found
def filledM (chs : List Chg) (line laid waiting : List Int) (width : Int) : List Int := fillM chs line width waiting.length laid waiting
/-! ### places -/
def gapStep (st : (Int × Int × Int) × Int) (high : Int) : (Int × Int × Int) × Int := (if st.1.1 < high - st.2 - 1 then (high - st.2 - 1, st.2, high) else st.1, high)
def gapM (places : List Int) (e : Int) : Int × Int × Int := ((places ++ [e]).foldl gapStep ((0, 0, 0), 0)).1
def wantM (size : Int) (bad : Option Int) (e : Int) (hands : Int) : Nat → List Int → List Int
  | 0, places => places
  | k + 1, places => if (places.length : Int) < hands then
      (if (gapM places e).1 = 0 then places else
        wantM size bad e hands k (isort (places ++ [if bad = none ∧ size ∉ places then size else ((gapM places e).2.1 + (gapM places e).2.2) / 2])))
    else places
def wantedM (size : Int) (bad : Option Int) (kept : List Int) (hands : Int) : List Int :=
  wantM size bad (bad.getD (size + 1)) hands hands.toNat (kept.filter fun p => decide (p < bad.getD (size + 1)))
/-! ### tallies -/
inductive Ans where
  | yes | no | unsure
  deriving DecidableEq
structure Tal where
  need : Int
  tries : Int
  yes : Int
  no : Int
  unsure : Int
  last : Option Ans
def Tal.new (need tries : Int) : Tal := ⟨need, tries, 0, 0, 0, none⟩
def Tal.bump (t : Tal) : Ans → Tal
  | .yes => { t with yes := t.yes + 1 }
  | .no => { t with no := t.no + 1 }
  | .unsure => { t with unsure := t.unsure + 1 }
def Tal.cnt (t : Tal) : Ans → Int
  | .yes => t.yes
  | .no => t.no
  | .unsure => t.unsure
def Tal.tell (t : Tal) (a : Ans) : Tal :=
  if a ≠ .unsure ∧ (t.bump a).cnt a = t.need then { t.bump a with last := some a }
  else if (t.bump a).yes + (t.bump a).no + (t.bump a).unsure = t.tries then { t.bump a with last := some .unsure } else t.bump a
/-! ### the gate -/
inductive Ground where
  | withdrawn
  | leans (n : Int)
  | look (good look : List Int) (w : Option Ans)
  | unfit (slot : Option Int)
structure GS where
  width : Int
  hands : Int
  need : Int
  tries : Int
  chs : List Chg
  top : List Int
  upon : List Int
  queue : List Int
  gone : List (Int × Ground)
  asked : List (List Int)
  halted : Bool
  known : List (List Int × Tal)
  cnt : Nat
def GS.new (width hands need tries : Int) : GS := ⟨width, hands, need, tries, [], [], [], [], [], [], false, [], 0⟩
namespace GS
variable (g : GS)
def lookAt (k : Nat) : List Int := g.top ++ g.upon.take k
/-- the laid ones up to a place (as Python slices) -/
def cutTo (l : List Int) (p : Int) : List Int := if 0 ≤ p then l.take p.toNat else l.take (l.length - p.natAbs)
def lookI (p : Int) : List Int := g.top ++ cutTo g.upon p
def told (l : List Int) : Option Ans := ((LG.look g.known l).map (·.last)).getD none
def badAt (k : Nat) : Bool := decide (g.told (g.lookAt k) = some .no) || decide (g.told (g.lookAt k) = some .unsure)
def bad : Option Nat := (List.range' 1 g.upon.length).find? g.badAt
def waitAgain (k : Nat) : GS := { g with queue := isort (g.queue ++ g.upon.drop k), upon := g.upon.take k }
def putOut (n : Int) (r : Ground) : GS := { g with queue := g.queue.erase n, gone := put g.gone n r }
def isGone (n : Int) : Bool := (LG.look g.gone n).isSome
/-- what it leans on that is out -/
def outLeans (n : Int) : List Int := (getC g.chs n).leans.filter g.isGone
def leastOf : List Int → Int
  | [] => 0
  | a :: r => r.foldl (fun m x => if x < m then x else m) a
def leanStep (n : Int) : GS := if g.outLeans n = [] then g else g.putOut n (.leans (leastOf (g.outLeans n)))
def byLeaning : GS := g.queue.foldl leanStep g
def byLook : GS := match g.upon with
  | [] => g
  | n :: _ => (g.waitAgain 0).putOut n (.look g.top (g.lookAt 1) (g.told (g.lookAt 1)))
def sheet : List (Int × Int) := sheetM g.chs g.top
def byUnfit : GS := (freeM g.chs g.top [] g.queue).foldl (fun h n => h.putOut n (.unfit (unfitM g.sheet (getC g.chs n).edits))) g
def refill : GS := if g.bad = none then { g with upon := filledM g.chs g.top g.upon g.queue g.width, queue := g.queue.filter fun n => !decide (n ∈ filledM g.chs g.top g.upon g.queue g.width) } else g
def turn2 : Bool × GS := if g.bad = some 1 then (true, g.byLook) else if g.upon.length = 0 ∧ 0 < g.queue.length then (true, g.byUnfit) else (false, g)
def turned : Bool × GS := if g.byLeaning.halted then (false, g.byLeaning) else g.byLeaning.refill.turn2
def spin : Nat → GS → GS
  | 0, g => g
  | k + 1, g => if g.turned.1 then spin k g.turned.2 else g.turned.2
def keptOf : List Int := ((List.range' 1 g.upon.length).filter fun k => decide (g.lookAt k ∈ g.asked) && decide (g.told (g.lookAt k) = none)).map Int.ofNat
def ask2 : GS := { g with asked := (wantedM g.upon.length (g.bad.map Int.ofNat) g.keptOf g.hands).map g.lookI }
def settle : GS := (spin (g.queue.length + g.upon.length + 1) g).ask2
end GS
/-! ### deeds -/
inductive Row where
  | ask (rank : Int) (leans : List Int) (edits : List Edit)
  | withdraw (n : Int)
  | answer (look : List Int) (a : Ans)
  | stop
  | go
inductive Told where
  | num (n : Int)
  | word (w : Option Ans)
  | non
inductive Err where
  | noChange | tooMany | tooLate | noLook | noAnswer
namespace GS
variable (g : GS)
def doAsk (c : Chg) : Except Err (GS × Told) :=
  if validC g.chs.length c = false then .error .noChange
  else if 60 ≤ g.chs.length then .error .tooMany
  else .ok (GS.settle { g with chs := g.chs ++ [c], queue := g.queue ++ [(g.chs.length : Int) + 1] }, .num ((g.chs.length : Int) + 1))
def doWithdraw (n : Int) : Except Err (GS × Told) :=
  if n < 1 ∨ (g.chs.length : Int) < n then .error .noChange
  else if n ∈ g.top ∨ g.isGone n = true then .error .tooLate
  else .ok (((if n ∈ g.upon then g.waitAgain (g.upon.idxOf n) else g).putOut n .withdrawn).settle, .non)
def endLook (l : List Int) (a : Ans) : GS := if a = .yes then { g with upon := g.upon.drop (l.length - g.top.length), top := l } else g
def tally (l : List Int) : Tal := (LG.look g.known l).getD (Tal.new g.need g.tries)
def answered (l : List Int) (a : Ans) : GS := { g with known := put g.known l ((g.tally l).tell a), cnt := g.cnt + 1 }
def ended (l : List Int) : Option Ans → GS
  | some a => g.endLook l a
  | none => g
def doAnswer (l : List Int) (a : Ans) : Except Err (GS × Told) :=
  if l ∉ g.asked then .error .noLook
  else if (g.tally l).last ≠ none then .error .noAnswer
  else .ok (((g.answered l a).ended l ((g.tally l).tell a).last).settle, .word ((g.tally l).tell a).last)
def doStop : GS := { g.waitAgain 0 with halted := true }.settle
def doGo : GS := { g with halted := false }.settle
def step : Row → Except Err (GS × Told)
  | .ask r ls es => g.doAsk ⟨r, ls, es⟩
  | .withdraw n => g.doWithdraw n
  | .answer l a => g.doAnswer l a
  | .stop => .ok (g.doStop, .non)
  | .go => .ok (g.doGo, .non)
end GS
/-- the deeds done again -/
def replay (g : GS) : List Row → Option GS
  | [] => some g
  | r :: rs => match g.step r with
    | .ok (g', _) => replay g' rs
    | .error _ => none
/-! ### reasons -/
inductive Reason where
  | inn (p : Int)
  | out (r : Ground)
  | laid (p : Int)
  | stopped
  | leans (ns : List Int)
  | halving (p : Int)
  | unfit (slot : Int)
  | turn (n : Int)
namespace GS
variable (g : GS)
def lacking (n : Int) : List Int := (getC g.chs n).leans.filter fun m => decide (m ∉ g.top) && decide (m ∉ g.upon)
def aheadOf (n : Int) : Int := (layableM g.chs g.top g.upon g.queue).foldl (fun k m => if (getC g.chs n).rank < (getC g.chs m).rank ∨ ((getC g.chs m).rank = (getC g.chs n).rank ∧ m < n) then k + 1 else k) 0
def whyWaiting (n : Int) : Reason :=
  if g.halted then .stopped
  else if g.lacking n ≠ [] then .leans (g.lacking n)
  else match g.bad with
    | some k => .halving k
    | none => match unfitM (sheetM g.chs (g.top ++ g.upon)) (getC g.chs n).edits with
      | some s => .unfit s
      | none => .turn (g.aheadOf n)
def why (n : Int) : Option Reason :=
  if n < 1 ∨ (g.chs.length : Int) < n then none
  else if n ∈ g.top then some (.inn (g.top.idxOf n))
  else match LG.look g.gone n with
    | some r => some (.out r)
    | none => if n ∈ g.upon then some (.laid (g.upon.idxOf n)) else some (g.whyWaiting n)
end GS
end LG

set_option linter.all false
/-! Plain laws of the mirror: laying. -/
namespace LG
def okN (chs : List Chg) (n : Int) : Prop := 1 ≤ n ∧ n ≤ (chs.length : Int)
def wtE (chs : List Chg) (row : List Int) : Nat := (row.map fun n => (getC chs n).edits.length).sum
def standsM (chs : List Chg) (row : List Int) : Prop := ∀ done n todo, row = done ++ n :: todo → unfitM (sheetM chs done) (getC chs n).edits = none
theorem wtE_app (chs : List Chg) (a b : List Int) : wtE chs (a ++ b) = wtE chs a + wtE chs b := by
  unfold wtE; rw [List.map_append, List.sum_append]
theorem wtE_perm {chs : List Chg} {a b : List Int} (h : a.Perm b) : wtE chs a = wtE chs b := by
  unfold wtE; exact (h.map _).sum_nat
theorem sheetM_snoc (chs : List Chg) (row : List Int) (n : Int) : sheetM chs (row ++ [n]) = editedM (sheetM chs row) (getC chs n).edits := by
  unfold sheetM; rw [List.foldl_append]; rfl
theorem stands_nil (chs : List Chg) : standsM chs [] := fun done n todo h => by
  have := congrArg List.length h
  simp at this
theorem stands_pre {chs : List Chg} {a b : List Int} (h : standsM chs (a ++ b)) : standsM chs a := fun done n todo e => h done n (todo ++ b) (by rw [e]; simp)
theorem stands_snoc {chs : List Chg} {a : List Int} {n : Int} (h : standsM chs a) (hn : unfitM (sheetM chs a) (getC chs n).edits = none) : standsM chs (a ++ [n]) := by
  intro done m todo e
  rcases List.eq_nil_or_concat todo with rfl | ⟨t, z, rfl⟩
  · have e2 := List.append_inj' (show a ++ [n] = done ++ [m] from e) rfl
    obtain ⟨e3, e4⟩ := e2
    cases e4
    rw [← e3]; exact hn
  · have e2 : a ++ [n] = (done ++ m :: t) ++ [z] := by rw [e]; simp
    have e3 := List.append_inj' e2 rfl
    exact h done m t e3.1
/-- .. a sheet is no longer than the edits -/
theorem free_sub {chs : List Chg} {line laid waiting : List Int} {n : Int} (h : n ∈ freeM chs line laid waiting) : n ∈ waiting := (List.mem_filter.mp h).1
theorem layable_sub {chs : List Chg} {line laid waiting : List Int} {n : Int} (h : n ∈ layableM chs line laid waiting) : n ∈ waiting ∧ unfitM (sheetM chs (line ++ laid)) (getC chs n).edits = none := by
  have h1 := List.mem_filter.mp h
  exact ⟨free_sub h1.1, Option.isNone_iff_eq_none.mp h1.2⟩
theorem best_mem (chs : List Chg) : ∀ (l : List Int) (b : Option Int) (n : Int), l.foldl (bestStep chs) b = some n → n ∈ l ∨ b = some n
  | [], b, n, h => .inr h
  | a :: r, b, n, h => by
    rw [List.foldl_cons] at h
    rcases best_mem chs r _ n h with h | h
    · exact .inl (List.mem_cons_of_mem _ h)
    · unfold bestStep at h
      cases b with
      | none =>
        cases h
        exact .inl List.mem_cons_self
      | some m =>
        simp only at h
        split at h
        · cases h; exact .inl List.mem_cons_self
        · exact .inr h
theorem next_mem {chs : List Chg} {line laid waiting : List Int} {n : Int} (h : nextM chs line laid waiting = some n) : n ∈ layableM chs line laid waiting := by
  rcases best_mem chs _ _ _ h with h | h
  · exact h
  · cases h
theorem next_nil (chs : List Chg) (line laid : List Int) : nextM chs line laid [] = none := rfl
/-- what laying asks -/
structure LayOk (chs : List Chg) (line laid waiting : List Int) : Prop where
  vl : ∀ n ∈ line ++ laid, okN chs n
  vw : ∀ n ∈ waiting, okN chs n
  st : standsM chs (line ++ laid)
  wt : wtE chs (line ++ laid ++ waiting) < 64
  ln : (line ++ laid ++ waiting).length < 100000
theorem LayOk.next {chs : List Chg} {line laid waiting : List Int} {n : Int} (h : LayOk chs line laid waiting) (hn : nextM chs line laid waiting = some n) : LayOk chs line (laid ++ [n]) (waiting.erase n) := by
  obtain ⟨h1, h2⟩ := layable_sub (next_mem hn)
  have pm : (line ++ (laid ++ [n]) ++ waiting.erase n).Perm (line ++ laid ++ waiting) := by
    have e : line ++ (laid ++ [n]) ++ waiting.erase n = (line ++ laid) ++ (n :: waiting.erase n) := by simp
    rw [e]
    exact List.Perm.append_left _ (List.perm_cons_erase h1).symm
  refine ⟨fun m hm => ?_, fun m hm => h.vw m (List.mem_of_mem_erase hm), ?_, by rw [wtE_perm pm]; exact h.wt, by rw [pm.length_eq]; exact h.ln⟩
  · rw [← List.append_assoc] at hm
    rcases List.mem_append.mp hm with hm | hm
    · exact h.vl m hm
    · rw [List.mem_singleton.mp hm]; exact h.vw n h1
  · rw [← List.append_assoc]
    exact stands_snoc h.st h2
theorem fill_step {chs : List Chg} {line : List Int} {width : Int} {found left : List Int} {n : Int} (hw : (found.length : Int) < width) (hn : nextM chs line found left = some n) :
    fillM chs line width left.length found left = fillM chs line width (left.erase n).length (found ++ [n]) (left.erase n) := by
  have h1 := (layable_sub (next_mem hn)).1
  have e : left.length = (left.erase n).length + 1 := by
    rw [List.length_erase_of_mem h1]
    have := List.length_pos_of_mem h1
    omega
  rw [e]
  rw [fillM, if_pos hw, hn]
theorem fill_end {chs : List Chg} {line : List Int} {width : Int} {found left : List Int} (h : (if (found.length : Int) < width then nextM chs line found left else none) = none) :
    fillM chs line width left.length found left = found := by
  cases hl : left.length with
  | zero => rfl
  | succ k =>
    rw [fillM]
    by_cases hw : (found.length : Int) < width
    · rw [if_pos hw] at h
      rw [if_pos hw, h]
    · rw [if_neg hw]
end LG

set_option Elab.async false
set_option linter.all false
set_option maxRecDepth 100000
set_option maxHeartbeats 4000000
namespace LG
open PySem PySem.Spec PyProof.Rows L2
/-- what the top has left: the facts, and where the module's names stand -/
structure Tx (K : PySem.W.Frag) (mg : Str → Option Value) : Prop where
  says : He.SaysD fa fn K
  ex : exB K = true
  hd : ∃ h : Heap, K.In h ∧ h.Ns mainGlobals mg
section
variable {K : PySem.W.Frag} {mg : Str → Option Value}
theorem Tx.glo (T : Tx K mg) {x : Str} (i : Nat) (h : fa[i]? = some (.glo x)) : mg x = some (.ref (He.ga K x)) := by
  obtain ⟨h0, X, G⟩ := T.hd
  exact He.glo_ok X G (T.says.fact i h)
theorem Tx.free (T : Tx K mg) {x : Str} (i : Nat) (h : fa[i]? = some (.free x)) : mg x = none := by
  obtain ⟨h0, X, G⟩ := T.hd
  exact He.free_ok X G (T.says.fact i h)
theorem Tx.int (T : Tx K mg) {x : Str} {n : Int} (i : Nat) (h : fa[i]? = some (.int x n)) : ∃ u, mg x = some u ∧ RelV (.int n) u := by
  obtain ⟨h0, X, G⟩ := T.hd
  obtain ⟨t, e⟩ := He.int_ok X G (T.says.fact i h)
  exact ⟨_, e, ⟨t, rfl⟩⟩
theorem Tx.str (T : Tx K mg) {x z : Str} (i : Nat) (h : fa[i]? = some (.str x z)) : ∃ u, mg x = some u ∧ RelV (.str z) u := by
  obtain ⟨h0, X, G⟩ := T.hd
  obtain ⟨t, e⟩ := He.str_ok X G (T.says.fact i h)
  exact ⟨_, e, ⟨t, rfl⟩⟩
theorem Tx.words (T : Tx K mg) (H : Hp) : SqT K H (He.ga K "WORDS") [.str "yes", .str "no", .str "unsure"] := He.tupB_ok (vs := [.str "yes", .str "no", .str "unsure"]) T.ex H
/-- a def of the text, keeping its promise -/
structure Ok (P : Program) (w : World) (K : PySem.W.Frag) (mg : Str → Option Value) (base : Heap) (k : Nat) (p : Str × Option Str) (ps : List Str) (sp : Sp) : Prop where
  ex : ∃ fd, FnOk P w K mg base (L2.CX P w) k (He.fAd K p) fd ps sp ∧ Binds K fd ps []
  kp : PySem.W.keepIn K (.ref (He.fAd K p)) = true
theorem Ok.mono {P : Program} {w : World} {base : Heap} {j k : Nat} {p : Str × Option Str} {ps : List Str} {sp : Sp} (F : Ok P w K mg base j p ps sp) (h : j ≤ k) : Ok P w K mg base k p ps sp :=
  ⟨let ⟨fd, h1, h2⟩ := F.ex; ⟨fd, h1.mono h, h2⟩, F.kp⟩
/-- THE RULE for a def: its datum, its scope, its body -/
theorem Tx.ok (T : Tx K mg) {P : Program} {w : World} {base : Heap} (i : Nat) {d : He.DefD} (hd : fn[i]? = some d) {N ps : List Str} {k : Nat} {sp : Sp} (hdf : d.dfl = []) (hkw : d.kwd = []) (S : FnScope N ps d.scope) (len : ∀ vs H Q E, sp vs H Q E → vs.length = ps.length)
    (hb : ∀ (kV doc pm : Value) (an : Option Addr) (cdv ct : Value) (us : List Value), us.length = ps.length → bindArgs (PySem.W.fnOf d.name d.qual d.params d.body d.scope .none kV doc pm an cdv ct) ⟨us, []⟩ = pure (ps.zip us))
    (hbody : ∀ (cdv : Value) (A : Around) (outer : List Env) (s : Shared) (H : Hp) (vs : List V) (Q : VK) (E : XK), Room k (A.deeper (envOfC d.qual d.scope s.heap.objs.size (He.fAd K d.at_) cdv)) → sp vs H Q E →
      ∃ t, PSs (cxOf (L2.CX P w) P w K mg base N d.qual d.scope (He.fAd K d.at_) cdv A outer s H E) d.body t ∧ t { nx := fun _ H' => Q .non H', rt := Q } (start N vs) H) : Ok P w K mg base (k + 1) d.at_ ps sp := by
  obtain ⟨fd, F⟩ := T.says.def_ i hd
  have e1 : d.dvs K = [] := by unfold He.DefD.dvs; rw [hdf]; rfl
  have e2 : d.kws K = [] := by unfold He.DefD.kws; rw [hkw]; rfl
  rw [e1, e2] at F
  exact ⟨⟨fd, F.ok S len hbody, F.bindsN hb⟩, F.kp⟩
section
variable {X : Cx} {x m C : Str} {p pos apos : Pos} {e o : Expr} {es : List Expr} {k j : Nat} {ps : List Str} {sp : Sp} {E : XK} {ta : TE} {t : TA} {P : Program} {w : World} {base : Heap}
/-- f(e, ..) -/
theorem pe_f (F : Ok P w K mg base k (x, none) ps sp) (hr : Room j X.A) (hm : mg x = some (.ref (He.ga K x))) (hx : Passes (L2.CX X.prog X.w) X E) (ha : PA X (e :: es) t) (hkj : k ≤ j := by decide) (hg : Gl X x := by rfl)
    (hdb : (x == ("__debug__" : Str)) = false := by decide) (he : starEach (e :: es) X.env = (false, eval e X.env) :: starEach es X.env := by rfl) (hpl : (backTo pos (starEach es X.env)).any (·.1) = false := by rfl)
    (hP : X.prog = P := by rfl) (hw : X.w = w := by rfl) (hK : X.K = K := by rfl) (hmg : X.mg = mg := by rfl) (hb : X.base = base := by rfl) : PE X (.Call (.Name x p) (e :: es) [] pos) (tCall sp [] E t) := by
  subst hP hw hK hmg hb
  obtain ⟨fd, F1, b⟩ := F.ex
  exact pe_call F1 (hr.mono hkj) hg hm F.kp b .nil hx ha hdb he hpl
/-- o.m(e, ..) -/
theorem pe_m {pl : Sem Bool} (ho : PE X o ta) (F : Ok P w K mg base k (C, some m) ps sp) (c : Cls K (He.ga K C)) (hm : Meth K (He.ga K C) m (He.ma K (He.ga K C) m)) (hr : Room j X.A) (hx : Passes (L2.CX X.prog X.w) X E) (ha : PA X (e :: es) t) (hkj : k ≤ j := by decide)
    (hst : starEach (e :: es) X.env = (false, eval e X.env) :: starEach es X.env := by rfl) (hpl : (backTo pos (starEach es X.env)).any (·.1) = false := by rfl)
    (ht : eval (.Call (.Attribute o m apos) (e :: es) [] pos) X.env = (do
      let ov ← eval o X.env
      standAt apos.atName
      let (f, first) ← holding [ov] (getMethod ov m pl)
      callWith pos f first (backTo pos (starEach (e :: es) X.env)) (backToKw pos (keywordEach [] X.env))) := by rfl)
    (hP : X.prog = P := by rfl) (hw : X.w = w := by rfl) (hK : X.K = K := by rfl) (hmg : X.mg = mg := by rfl) (hb : X.base = base := by rfl) : PE X (.Call (.Attribute o m apos) (e :: es) [] pos) (tMeth (He.ga K C) m sp [] E ta t) := by
  subst hP hw hK hmg hb
  obtain ⟨fd, F1, b⟩ := F.ex
  exact pe_meth ho c hm F1 (hr.mono hkj) b .nil hx ha hst hpl ht
/-- o.m() -/
theorem pe_m0 {pl : Sem Bool} (ho : PE X o ta) (F : Ok P w K mg base k (C, some m) ps sp) (c : Cls K (He.ga K C)) (hm : Meth K (He.ga K C) m (He.ma K (He.ga K C) m)) (hr : Room j X.A) (hx : Passes (L2.CX X.prog X.w) X E) (hkj : k ≤ j := by decide)
    (ht : eval (.Call (.Attribute o m apos) [] [] pos) X.env = (do
      let ov ← eval o X.env
      standAt apos.atName
      let (f, first) ← holding [ov] (getMethod ov m pl)
      callWith pos f first (backTo pos (starEach [] X.env)) (backToKw pos (keywordEach [] X.env))) := by rfl)
    (hP : X.prog = P := by rfl) (hw : X.w = w := by rfl) (hK : X.K = K := by rfl) (hmg : X.mg = mg := by rfl) (hb : X.base = base := by rfl) : PE X (.Call (.Attribute o m apos) [] [] pos) (tMeth (He.ga K C) m sp [] E ta tNil) := by
  subst hP hw hK hmg hb
  obtain ⟨fd, F1, b⟩ := F.ex
  exact pe_meth0 ho c hm F1 (hr.mono hkj) b .nil hx ht
/-- C(e, ..), C() -/
theorem pe_n (F : Ok P w K mg base k (x, some "__init__") ps sp) (M : Mk K (He.ga K x) (He.ma K (He.ga K x) "__init__")) (hr : Room j X.A) (hm : mg x = some (.ref (He.ga K x))) (hx : Passes (L2.CX X.prog X.w) X E) (ha : PA X (e :: es) t) (hkj : k + 1 ≤ j := by decide) (hg : Gl X x := by rfl)
    (hdb : (x == ("__debug__" : Str)) = false := by decide) (he : starEach (e :: es) X.env = (false, eval e X.env) :: starEach es X.env := by rfl) (hpl : (backTo pos (starEach es X.env)).any (·.1) = false := by rfl)
    (hP : X.prog = P := by rfl) (hw : X.w = w := by rfl) (hK : X.K = K := by rfl) (hmg : X.mg = mg := by rfl) (hb : X.base = base := by rfl) : PE X (.Call (.Name x p) (e :: es) [] pos) (tMake (He.ga K x) sp [] E t) := by
  subst hP hw hK hmg hb
  obtain ⟨fd, F1, b⟩ := F.ex
  exact pe_make M F1 (hr.mono hkj) hg hm b .nil hx ha hdb he hpl
theorem pe_n0 (F : Ok P w K mg base k (x, some "__init__") ps sp) (M : Mk K (He.ga K x) (He.ma K (He.ga K x) "__init__")) (hr : Room j X.A) (hm : mg x = some (.ref (He.ga K x))) (hx : Passes (L2.CX X.prog X.w) X E) (hkj : k + 1 ≤ j := by decide) (hg : Gl X x := by rfl)
    (hdb : (x == ("__debug__" : Str)) = false := by decide)
    (hP : X.prog = P := by rfl) (hw : X.w = w := by rfl) (hK : X.K = K := by rfl) (hmg : X.mg = mg := by rfl) (hb : X.base = base := by rfl) : PE X (.Call (.Name x p) [] [] pos) (tMake (He.ga K x) sp [] E tNil) := by
  subst hP hw hK hmg hb
  obtain ⟨fd, F1, b⟩ := F.ex
  exact pe_make0 M F1 (hr.mono hkj) hg hm b .nil hx hdb
end
theorem Tx.g_sheet_of_values (T : Tx K mg) : mg "sheet_of_values" = some (.ref (He.ga K "sheet_of_values")) := T.glo 0 rfl
theorem Tx.g_unfit (T : Tx K mg) : mg "unfit" = some (.ref (He.ga K "unfit")) := T.glo 1 rfl
theorem Tx.g_edited (T : Tx K mg) : mg "edited" = some (.ref (He.ga K "edited")) := T.glo 2 rfl
theorem Tx.g_are_rising (T : Tx K mg) : mg "are_rising" = some (.ref (He.ga K "are_rising")) := T.glo 3 rfl
theorem Tx.g_are_edits (T : Tx K mg) : mg "are_edits" = some (.ref (He.ga K "are_edits")) := T.glo 4 rfl
theorem Tx.g_sheet_of (T : Tx K mg) : mg "sheet_of" = some (.ref (He.ga K "sheet_of")) := T.glo 5 rfl
theorem Tx.g_free (T : Tx K mg) : mg "free" = some (.ref (He.ga K "free")) := T.glo 6 rfl
theorem Tx.g_layable (T : Tx K mg) : mg "layable" = some (.ref (He.ga K "layable")) := T.glo 7 rfl
theorem Tx.g_next_laid (T : Tx K mg) : mg "next_laid" = some (.ref (He.ga K "next_laid")) := T.glo 8 rfl
theorem Tx.g_filled (T : Tx K mg) : mg "filled" = some (.ref (He.ga K "filled")) := T.glo 9 rfl
theorem Tx.g_greatest_gap (T : Tx K mg) : mg "greatest_gap" = some (.ref (He.ga K "greatest_gap")) := T.glo 10 rfl
theorem Tx.g_wanted_places (T : Tx K mg) : mg "wanted_places" = some (.ref (He.ga K "wanted_places")) := T.glo 11 rfl
theorem Tx.g_copied (T : Tx K mg) : mg "copied" = some (.ref (He.ga K "copied")) := T.glo 12 rfl
theorem Tx.g_done (T : Tx K mg) : mg "done" = some (.ref (He.ga K "done")) := T.glo 13 rfl
theorem Tx.g_turn_of (T : Tx K mg) : mg "turn_of" = some (.ref (He.ga K "turn_of")) := T.glo 14 rfl
theorem Tx.g_why_waiting (T : Tx K mg) : mg "why_waiting" = some (.ref (He.ga K "why_waiting")) := T.glo 15 rfl
theorem Tx.g_why (T : Tx K mg) : mg "why" = some (.ref (He.ga K "why")) := T.glo 16 rfl
theorem Tx.g_is_number (T : Tx K mg) : mg "is_number" = some (.ref (He.ga K "is_number")) := T.glo 17 rfl
theorem Tx.g_numbers_of (T : Tx K mg) : mg "numbers_of" = some (.ref (He.ga K "numbers_of")) := T.glo 18 rfl
theorem Tx.g_ask_row (T : Tx K mg) : mg "ask_row" = some (.ref (He.ga K "ask_row")) := T.glo 19 rfl
theorem Tx.g_read_row (T : Tx K mg) : mg "read_row" = some (.ref (He.ga K "read_row")) := T.glo 20 rfl
theorem Tx.g_words_of (T : Tx K mg) : mg "words_of" = some (.ref (He.ga K "words_of")) := T.glo 21 rfl
theorem Tx.g_shown_ask (T : Tx K mg) : mg "shown_ask" = some (.ref (He.ga K "shown_ask")) := T.glo 22 rfl
theorem Tx.g_shown_row (T : Tx K mg) : mg "shown_row" = some (.ref (He.ga K "shown_row")) := T.glo 23 rfl
theorem Tx.g_some_or_none (T : Tx K mg) : mg "some_or_none" = some (.ref (He.ga K "some_or_none")) := T.glo 24 rfl
theorem Tx.g_shown_looks (T : Tx K mg) : mg "shown_looks" = some (.ref (He.ga K "shown_looks")) := T.glo 25 rfl
theorem Tx.g_shown_sheet (T : Tx K mg) : mg "shown_sheet" = some (.ref (He.ga K "shown_sheet")) := T.glo 26 rfl
theorem Tx.g_shown_ground (T : Tx K mg) : mg "shown_ground" = some (.ref (He.ga K "shown_ground")) := T.glo 27 rfl
theorem Tx.g_shown_reason (T : Tx K mg) : mg "shown_reason" = some (.ref (He.ga K "shown_reason")) := T.glo 28 rfl
theorem Tx.g_l_cell_at (T : Tx K mg) : mg "_law_cell_at" = some (.ref (He.ga K "_law_cell_at")) := T.glo 29 rfl
theorem Tx.g_l_mixed (T : Tx K mg) : mg "_law_mixed" = some (.ref (He.ga K "_law_mixed")) := T.glo 30 rfl
theorem Tx.g_l_turns_of (T : Tx K mg) : mg "_law_turns_of" = some (.ref (He.ga K "_law_turns_of")) := T.glo 31 rfl
theorem Tx.g_l_three (T : Tx K mg) : mg "_law_three" = some (.ref (He.ga K "_law_three")) := T.glo 32 rfl
theorem Tx.g_l_new (T : Tx K mg) : mg "_law_new" = some (.ref (He.ga K "_law_new")) := T.glo 33 rfl
theorem Tx.g_l_put (T : Tx K mg) : mg "_law_put" = some (.ref (He.ga K "_law_put")) := T.glo 34 rfl
theorem Tx.g_l_line (T : Tx K mg) : mg "_law_line" = some (.ref (He.ga K "_law_line")) := T.glo 35 rfl
theorem Tx.g_l_said (T : Tx K mg) : mg "_law_said" = some (.ref (He.ga K "_law_said")) := T.glo 36 rfl
theorem Tx.g_l_why (T : Tx K mg) : mg "_law_why" = some (.ref (He.ga K "_law_why")) := T.glo 37 rfl
theorem Tx.g_l_shot (T : Tx K mg) : mg "_law_shot" = some (.ref (He.ga K "_law_shot")) := T.glo 38 rfl
theorem Tx.g_l_told (T : Tx K mg) : mg "_law_told" = some (.ref (He.ga K "_law_told")) := T.glo 39 rfl
theorem Tx.g_law (T : Tx K mg) : mg "law" = some (.ref (He.ga K "law")) := T.glo 40 rfl
theorem Tx.g_Changes (T : Tx K mg) : mg "Changes" = some (.ref (He.ga K "Changes")) := T.glo 41 rfl
theorem Tx.g_Tally (T : Tx K mg) : mg "Tally" = some (.ref (He.ga K "Tally")) := T.glo 42 rfl
theorem Tx.g_Gate (T : Tx K mg) : mg "Gate" = some (.ref (He.ga K "Gate")) := T.glo 43 rfl
theorem Tx.g_Book (T : Tx K mg) : mg "Book" = some (.ref (He.ga K "Book")) := T.glo 44 rfl
theorem Tx.g_Desk (T : Tx K mg) : mg "Desk" = some (.ref (He.ga K "Desk")) := T.glo 45 rfl
theorem Tx.b_len (T : Tx K mg) : mg "len" = none := T.free 46 rfl
theorem Tx.b_dict (T : Tx K mg) : mg "dict" = none := T.free 47 rfl
theorem Tx.b_sorted (T : Tx K mg) : mg "sorted" = none := T.free 48 rfl
theorem Tx.b_list (T : Tx K mg) : mg "list" = none := T.free 49 rfl
theorem Tx.b_tuple (T : Tx K mg) : mg "tuple" = none := T.free 50 rfl
theorem Tx.b_all (T : Tx K mg) : mg "all" = none := T.free 51 rfl
theorem Tx.b_min (T : Tx K mg) : mg "min" = none := T.free 52 rfl
theorem Tx.b_max (T : Tx K mg) : mg "max" = none := T.free 53 rfl
theorem Tx.b_range (T : Tx K mg) : mg "range" = none := T.free 54 rfl
theorem Tx.b_sum (T : Tx K mg) : mg "sum" = none := T.free 55 rfl
theorem Tx.b_str (T : Tx K mg) : mg "str" = none := T.free 56 rfl
theorem Tx.b_int (T : Tx K mg) : mg "int" = none := T.free 57 rfl
theorem Tx.i_MANY (T : Tx K mg) : ∃ u, mg "MANY" = some u ∧ RelV (.int 60) u := T.int 58 rfl
theorem Tx.i_EDITS (T : Tx K mg) : ∃ u, mg "EDITS" = some u ∧ RelV (.int 20) u := T.int 59 rfl
theorem Tx.i_SLOTS (T : Tx K mg) : ∃ u, mg "SLOTS" = some u ∧ RelV (.int 1000) u := T.int 60 rfl
theorem Tx.i_GREATEST (T : Tx K mg) : ∃ u, mg "GREATEST" = some u ∧ RelV (.int 1000000000) u := T.int 61 rfl
theorem Tx.i_MOST (T : Tx K mg) : ∃ u, mg "MOST" = some u ∧ RelV (.int 12) u := T.int 62 rfl
theorem Tx.s_FIGURES (T : Tx K mg) : ∃ u, mg "FIGURES" = some u ∧ RelV (.str "0123456789") u := T.str 63 rfl
theorem Tx.c_Changes (T : Tx K mg) : Cls K (He.ga K "Changes") := He.cls_ok (T.says.fact 64 rfl)
theorem Tx.k_Changes (T : Tx K mg) : Mk K (He.ga K "Changes") (He.ma K (He.ga K "Changes") "__init__") := He.mkr_ok (T.says.fact 65 rfl)
theorem Tx.n_Changes_ranks (T : Tx K mg) : NoAttr K (He.ga K "Changes") "ranks" := He.noat_ok (T.says.fact 66 rfl)
theorem Tx.n_Changes_leaned (T : Tx K mg) : NoAttr K (He.ga K "Changes") "leaned" := He.noat_ok (T.says.fact 67 rfl)
theorem Tx.n_Changes_edits (T : Tx K mg) : NoAttr K (He.ga K "Changes") "edits" := He.noat_ok (T.says.fact 68 rfl)
theorem Tx.c_Tally (T : Tx K mg) : Cls K (He.ga K "Tally") := He.cls_ok (T.says.fact 69 rfl)
theorem Tx.k_Tally (T : Tx K mg) : Mk K (He.ga K "Tally") (He.ma K (He.ga K "Tally") "__init__") := He.mkr_ok (T.says.fact 70 rfl)
theorem Tx.n_Tally_need (T : Tx K mg) : NoAttr K (He.ga K "Tally") "need" := He.noat_ok (T.says.fact 71 rfl)
theorem Tx.n_Tally_tries (T : Tx K mg) : NoAttr K (He.ga K "Tally") "tries" := He.noat_ok (T.says.fact 72 rfl)
theorem Tx.n_Tally_met (T : Tx K mg) : NoAttr K (He.ga K "Tally") "met" := He.noat_ok (T.says.fact 73 rfl)
theorem Tx.n_Tally_last (T : Tx K mg) : NoAttr K (He.ga K "Tally") "last" := He.noat_ok (T.says.fact 74 rfl)
theorem Tx.c_Gate (T : Tx K mg) : Cls K (He.ga K "Gate") := He.cls_ok (T.says.fact 75 rfl)
theorem Tx.k_Gate (T : Tx K mg) : Mk K (He.ga K "Gate") (He.ma K (He.ga K "Gate") "__init__") := He.mkr_ok (T.says.fact 76 rfl)
theorem Tx.n_Gate_house (T : Tx K mg) : NoAttr K (He.ga K "Gate") "house" := He.noat_ok (T.says.fact 77 rfl)
theorem Tx.n_Gate_store (T : Tx K mg) : NoAttr K (He.ga K "Gate") "store" := He.noat_ok (T.says.fact 78 rfl)
theorem Tx.n_Gate_top (T : Tx K mg) : NoAttr K (He.ga K "Gate") "top" := He.noat_ok (T.says.fact 79 rfl)
theorem Tx.n_Gate_upon (T : Tx K mg) : NoAttr K (He.ga K "Gate") "upon" := He.noat_ok (T.says.fact 80 rfl)
theorem Tx.n_Gate_queue (T : Tx K mg) : NoAttr K (He.ga K "Gate") "queue" := He.noat_ok (T.says.fact 81 rfl)
theorem Tx.n_Gate_gone (T : Tx K mg) : NoAttr K (He.ga K "Gate") "gone" := He.noat_ok (T.says.fact 82 rfl)
theorem Tx.n_Gate_asked (T : Tx K mg) : NoAttr K (He.ga K "Gate") "asked" := He.noat_ok (T.says.fact 83 rfl)
theorem Tx.n_Gate_halted (T : Tx K mg) : NoAttr K (He.ga K "Gate") "halted" := He.noat_ok (T.says.fact 84 rfl)
theorem Tx.n_Gate_grown (T : Tx K mg) : NoAttr K (He.ga K "Gate") "grown" := He.noat_ok (T.says.fact 85 rfl)
theorem Tx.n_Gate_ended (T : Tx K mg) : NoAttr K (He.ga K "Gate") "ended" := He.noat_ok (T.says.fact 86 rfl)
theorem Tx.n_Gate_known (T : Tx K mg) : NoAttr K (He.ga K "Gate") "known" := He.noat_ok (T.says.fact 87 rfl)
theorem Tx.n_Gate_tolls (T : Tx K mg) : NoAttr K (He.ga K "Gate") "tolls" := He.noat_ok (T.says.fact 88 rfl)
theorem Tx.c_Book (T : Tx K mg) : Cls K (He.ga K "Book") := He.cls_ok (T.says.fact 89 rfl)
theorem Tx.k_Book (T : Tx K mg) : Mk K (He.ga K "Book") (He.ma K (He.ga K "Book") "__init__") := He.mkr_ok (T.says.fact 90 rfl)
theorem Tx.n_Book_four (T : Tx K mg) : NoAttr K (He.ga K "Book") "four" := He.noat_ok (T.says.fact 91 rfl)
theorem Tx.n_Book_own (T : Tx K mg) : NoAttr K (He.ga K "Book") "own" := He.noat_ok (T.says.fact 92 rfl)
theorem Tx.n_Book_written (T : Tx K mg) : NoAttr K (He.ga K "Book") "written" := He.noat_ok (T.says.fact 93 rfl)
theorem Tx.c_Desk (T : Tx K mg) : Cls K (He.ga K "Desk") := He.cls_ok (T.says.fact 94 rfl)
theorem Tx.k_Desk (T : Tx K mg) : Mk K (He.ga K "Desk") (He.ma K (He.ga K "Desk") "__init__") := He.mkr_ok (T.says.fact 95 rfl)
theorem Tx.n_Desk_book (T : Tx K mg) : NoAttr K (He.ga K "Desk") "book" := He.noat_ok (T.says.fact 96 rfl)
theorem Tx.n_Desk_gate (T : Tx K mg) : NoAttr K (He.ga K "Desk") "gate" := He.noat_ok (T.says.fact 97 rfl)
theorem Tx.m_Changes_added (T : Tx K mg) : Meth K (He.ga K "Changes") "added" (He.ma K (He.ga K "Changes") "added") := He.meth_ok (T.says.fact 98 rfl)
theorem Tx.m_Changes_many (T : Tx K mg) : Meth K (He.ga K "Changes") "many" (He.ma K (He.ga K "Changes") "many") := He.meth_ok (T.says.fact 99 rfl)
theorem Tx.m_Changes_asked_for (T : Tx K mg) : Meth K (He.ga K "Changes") "asked_for" (He.ma K (He.ga K "Changes") "asked_for") := He.meth_ok (T.says.fact 100 rfl)
theorem Tx.m_Changes_rank_of (T : Tx K mg) : Meth K (He.ga K "Changes") "rank_of" (He.ma K (He.ga K "Changes") "rank_of") := He.meth_ok (T.says.fact 101 rfl)
theorem Tx.m_Changes_leans_of (T : Tx K mg) : Meth K (He.ga K "Changes") "leans_of" (He.ma K (He.ga K "Changes") "leans_of") := He.meth_ok (T.says.fact 102 rfl)
theorem Tx.m_Changes_edits_of (T : Tx K mg) : Meth K (He.ga K "Changes") "edits_of" (He.ma K (He.ga K "Changes") "edits_of") := He.meth_ok (T.says.fact 103 rfl)
theorem Tx.m_Tally_tell (T : Tx K mg) : Meth K (He.ga K "Tally") "tell" (He.ma K (He.ga K "Tally") "tell") := He.meth_ok (T.says.fact 104 rfl)
theorem Tx.m_Tally_counted (T : Tx K mg) : Meth K (He.ga K "Tally") "counted" (He.ma K (He.ga K "Tally") "counted") := He.meth_ok (T.says.fact 105 rfl)
theorem Tx.m_Tally_word (T : Tx K mg) : Meth K (He.ga K "Tally") "word" (He.ma K (He.ga K "Tally") "word") := He.meth_ok (T.says.fact 106 rfl)
theorem Tx.m_Gate_look_at (T : Tx K mg) : Meth K (He.ga K "Gate") "look_at" (He.ma K (He.ga K "Gate") "look_at") := He.meth_ok (T.says.fact 107 rfl)
theorem Tx.m_Gate_told_of (T : Tx K mg) : Meth K (He.ga K "Gate") "told_of" (He.ma K (He.ga K "Gate") "told_of") := He.meth_ok (T.says.fact 108 rfl)
theorem Tx.m_Gate_bad (T : Tx K mg) : Meth K (He.ga K "Gate") "bad" (He.ma K (He.ga K "Gate") "bad") := He.meth_ok (T.says.fact 109 rfl)
theorem Tx.m_Gate_wait_again (T : Tx K mg) : Meth K (He.ga K "Gate") "wait_again" (He.ma K (He.ga K "Gate") "wait_again") := He.meth_ok (T.says.fact 110 rfl)
theorem Tx.m_Gate_put_out (T : Tx K mg) : Meth K (He.ga K "Gate") "put_out" (He.ma K (He.ga K "Gate") "put_out") := He.meth_ok (T.says.fact 111 rfl)
theorem Tx.m_Gate_out_by_leaning (T : Tx K mg) : Meth K (He.ga K "Gate") "out_by_leaning" (He.ma K (He.ga K "Gate") "out_by_leaning") := He.meth_ok (T.says.fact 112 rfl)
theorem Tx.m_Gate_out_by_look (T : Tx K mg) : Meth K (He.ga K "Gate") "out_by_look" (He.ma K (He.ga K "Gate") "out_by_look") := He.meth_ok (T.says.fact 113 rfl)
theorem Tx.m_Gate_out_unfit (T : Tx K mg) : Meth K (He.ga K "Gate") "out_unfit" (He.ma K (He.ga K "Gate") "out_unfit") := He.meth_ok (T.says.fact 114 rfl)
theorem Tx.m_Gate_turned (T : Tx K mg) : Meth K (He.ga K "Gate") "turned" (He.ma K (He.ga K "Gate") "turned") := He.meth_ok (T.says.fact 115 rfl)
theorem Tx.m_Gate_settle (T : Tx K mg) : Meth K (He.ga K "Gate") "settle" (He.ma K (He.ga K "Gate") "settle") := He.meth_ok (T.says.fact 116 rfl)
theorem Tx.m_Gate_ask (T : Tx K mg) : Meth K (He.ga K "Gate") "ask" (He.ma K (He.ga K "Gate") "ask") := He.meth_ok (T.says.fact 117 rfl)
theorem Tx.m_Gate_withdraw (T : Tx K mg) : Meth K (He.ga K "Gate") "withdraw" (He.ma K (He.ga K "Gate") "withdraw") := He.meth_ok (T.says.fact 118 rfl)
theorem Tx.m_Gate_end_look (T : Tx K mg) : Meth K (He.ga K "Gate") "end_look" (He.ma K (He.ga K "Gate") "end_look") := He.meth_ok (T.says.fact 119 rfl)
theorem Tx.m_Gate_answer (T : Tx K mg) : Meth K (He.ga K "Gate") "answer" (He.ma K (He.ga K "Gate") "answer") := He.meth_ok (T.says.fact 120 rfl)
theorem Tx.m_Gate_stop (T : Tx K mg) : Meth K (He.ga K "Gate") "stop" (He.ma K (He.ga K "Gate") "stop") := He.meth_ok (T.says.fact 121 rfl)
theorem Tx.m_Gate_go (T : Tx K mg) : Meth K (He.ga K "Gate") "go" (He.ma K (He.ga K "Gate") "go") := He.meth_ok (T.says.fact 122 rfl)
theorem Tx.m_Gate_line (T : Tx K mg) : Meth K (He.ga K "Gate") "line" (He.ma K (He.ga K "Gate") "line") := He.meth_ok (T.says.fact 123 rfl)
theorem Tx.m_Gate_laid (T : Tx K mg) : Meth K (He.ga K "Gate") "laid" (He.ma K (He.ga K "Gate") "laid") := He.meth_ok (T.says.fact 124 rfl)
theorem Tx.m_Gate_waiting (T : Tx K mg) : Meth K (He.ga K "Gate") "waiting" (He.ma K (He.ga K "Gate") "waiting") := He.meth_ok (T.says.fact 125 rfl)
theorem Tx.m_Gate_outs (T : Tx K mg) : Meth K (He.ga K "Gate") "outs" (He.ma K (He.ga K "Gate") "outs") := He.meth_ok (T.says.fact 126 rfl)
theorem Tx.m_Gate_wanted (T : Tx K mg) : Meth K (He.ga K "Gate") "wanted" (He.ma K (He.ga K "Gate") "wanted") := He.meth_ok (T.says.fact 127 rfl)
theorem Tx.m_Gate_stopped (T : Tx K mg) : Meth K (He.ga K "Gate") "stopped" (He.ma K (He.ga K "Gate") "stopped") := He.meth_ok (T.says.fact 128 rfl)
theorem Tx.m_Gate_sheet (T : Tx K mg) : Meth K (He.ga K "Gate") "sheet" (He.ma K (He.ga K "Gate") "sheet") := He.meth_ok (T.says.fact 129 rfl)
theorem Tx.m_Gate_changes (T : Tx K mg) : Meth K (He.ga K "Gate") "changes" (He.ma K (He.ga K "Gate") "changes") := He.meth_ok (T.says.fact 130 rfl)
theorem Tx.m_Book_do (T : Tx K mg) : Meth K (He.ga K "Book") "do" (He.ma K (He.ga K "Book") "do") := He.meth_ok (T.says.fact 131 rfl)
theorem Tx.m_Book_rows (T : Tx K mg) : Meth K (He.ga K "Book") "rows" (He.ma K (He.ga K "Book") "rows") := He.meth_ok (T.says.fact 132 rfl)
theorem Tx.m_Book_many (T : Tx K mg) : Meth K (He.ga K "Book") "many" (He.ma K (He.ga K "Book") "many") := He.meth_ok (T.says.fact 133 rfl)
theorem Tx.m_Book_gate_of (T : Tx K mg) : Meth K (He.ga K "Book") "gate_of" (He.ma K (He.ga K "Book") "gate_of") := He.meth_ok (T.says.fact 134 rfl)
theorem Tx.m_Book_take_back (T : Tx K mg) : Meth K (He.ga K "Book") "take_back" (He.ma K (He.ga K "Book") "take_back") := He.meth_ok (T.says.fact 135 rfl)
theorem Tx.m_Desk_taken_back (T : Tx K mg) : Meth K (He.ga K "Desk") "taken_back" (He.ma K (He.ga K "Desk") "taken_back") := He.meth_ok (T.says.fact 136 rfl)
theorem Tx.m_Desk_asked_of (T : Tx K mg) : Meth K (He.ga K "Desk") "asked_of" (He.ma K (He.ga K "Desk") "asked_of") := He.meth_ok (T.says.fact 137 rfl)
theorem Tx.m_Desk_deed_of (T : Tx K mg) : Meth K (He.ga K "Desk") "deed_of" (He.ma K (He.ga K "Desk") "deed_of") := He.meth_ok (T.says.fact 138 rfl)
theorem Tx.m_Desk_say (T : Tx K mg) : Meth K (He.ga K "Desk") "say" (He.ma K (He.ga K "Desk") "say") := He.meth_ok (T.says.fact 139 rfl)
theorem Tx.g_NoChange (T : Tx K mg) : mg "NoChange" = some (.ref (He.ga K "NoChange")) := T.glo 140 rfl
theorem Tx.x_NoChange (T : Tx K mg) : PySem.W.excIn K (He.ga K "NoChange") He.veBase "ValueError.__new__" = true ∧ PySem.W.keepIn K (.ref (He.ga K "NoChange")) = true ∧ PySem.W.subIn K (.ref (He.ga K "NoChange")) (.type "BaseException") = some true ∧ PySem.W.typeIn K (.ref (He.ga K "NoChange")) = some (.type "type") := He.exc_ok (T.says.fact 141 rfl)
theorem Tx.e_NoChange_LinegateError (T : Tx K mg) : PySem.W.exmOne K (.ref (He.ga K "NoChange")) (.ref (He.ga K "LinegateError")) = some true := He.exm_ok (T.says.fact 142 rfl)
theorem Tx.g_TooMany (T : Tx K mg) : mg "TooMany" = some (.ref (He.ga K "TooMany")) := T.glo 143 rfl
theorem Tx.x_TooMany (T : Tx K mg) : PySem.W.excIn K (He.ga K "TooMany") He.veBase "ValueError.__new__" = true ∧ PySem.W.keepIn K (.ref (He.ga K "TooMany")) = true ∧ PySem.W.subIn K (.ref (He.ga K "TooMany")) (.type "BaseException") = some true ∧ PySem.W.typeIn K (.ref (He.ga K "TooMany")) = some (.type "type") := He.exc_ok (T.says.fact 144 rfl)
theorem Tx.e_TooMany_LinegateError (T : Tx K mg) : PySem.W.exmOne K (.ref (He.ga K "TooMany")) (.ref (He.ga K "LinegateError")) = some true := He.exm_ok (T.says.fact 145 rfl)
theorem Tx.g_NoRule (T : Tx K mg) : mg "NoRule" = some (.ref (He.ga K "NoRule")) := T.glo 146 rfl
theorem Tx.x_NoRule (T : Tx K mg) : PySem.W.excIn K (He.ga K "NoRule") He.veBase "ValueError.__new__" = true ∧ PySem.W.keepIn K (.ref (He.ga K "NoRule")) = true ∧ PySem.W.subIn K (.ref (He.ga K "NoRule")) (.type "BaseException") = some true ∧ PySem.W.typeIn K (.ref (He.ga K "NoRule")) = some (.type "type") := He.exc_ok (T.says.fact 147 rfl)
theorem Tx.e_NoRule_LinegateError (T : Tx K mg) : PySem.W.exmOne K (.ref (He.ga K "NoRule")) (.ref (He.ga K "LinegateError")) = some true := He.exm_ok (T.says.fact 148 rfl)
theorem Tx.g_NoAnswer (T : Tx K mg) : mg "NoAnswer" = some (.ref (He.ga K "NoAnswer")) := T.glo 149 rfl
theorem Tx.x_NoAnswer (T : Tx K mg) : PySem.W.excIn K (He.ga K "NoAnswer") He.veBase "ValueError.__new__" = true ∧ PySem.W.keepIn K (.ref (He.ga K "NoAnswer")) = true ∧ PySem.W.subIn K (.ref (He.ga K "NoAnswer")) (.type "BaseException") = some true ∧ PySem.W.typeIn K (.ref (He.ga K "NoAnswer")) = some (.type "type") := He.exc_ok (T.says.fact 150 rfl)
theorem Tx.e_NoAnswer_LinegateError (T : Tx K mg) : PySem.W.exmOne K (.ref (He.ga K "NoAnswer")) (.ref (He.ga K "LinegateError")) = some true := He.exm_ok (T.says.fact 151 rfl)
theorem Tx.g_NoLook (T : Tx K mg) : mg "NoLook" = some (.ref (He.ga K "NoLook")) := T.glo 152 rfl
theorem Tx.x_NoLook (T : Tx K mg) : PySem.W.excIn K (He.ga K "NoLook") He.veBase "ValueError.__new__" = true ∧ PySem.W.keepIn K (.ref (He.ga K "NoLook")) = true ∧ PySem.W.subIn K (.ref (He.ga K "NoLook")) (.type "BaseException") = some true ∧ PySem.W.typeIn K (.ref (He.ga K "NoLook")) = some (.type "type") := He.exc_ok (T.says.fact 153 rfl)
theorem Tx.e_NoLook_LinegateError (T : Tx K mg) : PySem.W.exmOne K (.ref (He.ga K "NoLook")) (.ref (He.ga K "LinegateError")) = some true := He.exm_ok (T.says.fact 154 rfl)
theorem Tx.g_TooLate (T : Tx K mg) : mg "TooLate" = some (.ref (He.ga K "TooLate")) := T.glo 155 rfl
theorem Tx.x_TooLate (T : Tx K mg) : PySem.W.excIn K (He.ga K "TooLate") He.veBase "ValueError.__new__" = true ∧ PySem.W.keepIn K (.ref (He.ga K "TooLate")) = true ∧ PySem.W.subIn K (.ref (He.ga K "TooLate")) (.type "BaseException") = some true ∧ PySem.W.typeIn K (.ref (He.ga K "TooLate")) = some (.type "type") := He.exc_ok (T.says.fact 156 rfl)
theorem Tx.e_TooLate_LinegateError (T : Tx K mg) : PySem.W.exmOne K (.ref (He.ga K "TooLate")) (.ref (He.ga K "LinegateError")) = some true := He.exm_ok (T.says.fact 157 rfl)
theorem Tx.g_NoRow (T : Tx K mg) : mg "NoRow" = some (.ref (He.ga K "NoRow")) := T.glo 158 rfl
theorem Tx.x_NoRow (T : Tx K mg) : PySem.W.excIn K (He.ga K "NoRow") He.veBase "ValueError.__new__" = true ∧ PySem.W.keepIn K (.ref (He.ga K "NoRow")) = true ∧ PySem.W.subIn K (.ref (He.ga K "NoRow")) (.type "BaseException") = some true ∧ PySem.W.typeIn K (.ref (He.ga K "NoRow")) = some (.type "type") := He.exc_ok (T.says.fact 159 rfl)
theorem Tx.e_NoRow_LinegateError (T : Tx K mg) : PySem.W.exmOne K (.ref (He.ga K "NoRow")) (.ref (He.ga K "LinegateError")) = some true := He.exm_ok (T.says.fact 160 rfl)
theorem Tx.g_NoText (T : Tx K mg) : mg "NoText" = some (.ref (He.ga K "NoText")) := T.glo 161 rfl
theorem Tx.x_NoText (T : Tx K mg) : PySem.W.excIn K (He.ga K "NoText") He.veBase "ValueError.__new__" = true ∧ PySem.W.keepIn K (.ref (He.ga K "NoText")) = true ∧ PySem.W.subIn K (.ref (He.ga K "NoText")) (.type "BaseException") = some true ∧ PySem.W.typeIn K (.ref (He.ga K "NoText")) = some (.type "type") := He.exc_ok (T.says.fact 162 rfl)
theorem Tx.e_NoText_LinegateError (T : Tx K mg) : PySem.W.exmOne K (.ref (He.ga K "NoText")) (.ref (He.ga K "LinegateError")) = some true := He.exm_ok (T.says.fact 163 rfl)
theorem Tx.e_NoChange_NoChange (T : Tx K mg) : PySem.W.exmOne K (.ref (He.ga K "NoChange")) (.ref (He.ga K "NoChange")) = some true := He.exm_ok (T.says.fact 164 rfl)
theorem Tx.g_LinegateError (T : Tx K mg) : mg "LinegateError" = some (.ref (He.ga K "LinegateError")) := T.glo 165 rfl
theorem Tx.keep_LinegateError (T : Tx K mg) : PySem.W.keepIn K (.ref (He.ga K "LinegateError")) = true := He.keep_ok (T.says.fact 166 rfl)
theorem Tx.g_WORDS (T : Tx K mg) : mg "WORDS" = some (.ref (He.ga K "WORDS")) := T.glo 167 rfl
end
end LG

set_option Elab.async false
set_option linter.all false
set_option maxRecDepth 100000
set_option maxHeartbeats 4000000
/-! The base of the walks: data, frames, loops over data, raising. -/
namespace LG
open PySem PySem.Spec L2 Evl
open PyProof.Rows hiding St
/-! ### data under a heap that grows -/
mutual
theorem dp_ex {K : PySem.W.Frag} {H H' : Hp} (e : Ex H H') : ∀ {d : PyData} {v : V}, Dp K H v d → Dp K H' v d
  | .none, _, h => by cases h; exact .non
  | .bool _, _, h => by cases h; exact .bl _
  | .int _, _, h => by cases h; exact .int _
  | .str _, _, h => by cases h; exact .str _
  | .list _, _, h => by
    cases h with
    | lst a b => exact .lst (ex_l e a) (dpa_ex e b)
  | .tuple _, _, h => by
    cases h with
    | tup a b => exact .tup (ex_t e a) (dpa_ex e b)
  | .dict _, _, h => by cases h
theorem dpa_ex {K : PySem.W.Frag} {H H' : Hp} (e : Ex H H') : ∀ {ds : List PyData} {vs : List V}, DpAll K H vs ds → DpAll K H' vs ds
  | [], _, h => by cases h; exact .nil
  | _ :: _, _, h => by
    cases h with
    | cons a b => exact .cons (dp_ex e a) (dpa_ex e b)
end
/-- what never changes stays: tuples, and what is frozen -/
structure Keep (H H' : Hp) : Prop where
  tup : ∀ b xs, H b = some (.tup xs) → H' b = some (.tup xs)
  frz : ∀ b o u, H b = some (.frz o u) → H' b = some (.frz o u)
theorem Keep.refl (H : Hp) : Keep H H := ⟨fun _ _ h => h, fun _ _ _ h => h⟩
theorem Keep.trans {H H1 H2 : Hp} (a : Keep H H1) (b : Keep H1 H2) : Keep H H2 := ⟨fun x u h => b.tup x u (a.tup x u h), fun x o u h => b.frz x o u (a.frz x o u h)⟩
theorem Keep.of_ex {H H' : Hp} (e : Ex H H') : Keep H H' := ⟨fun b xs h => e b _ h, fun b o u h => e b _ h⟩
theorem Keep.t {K : PySem.W.Frag} {H H' : Hp} {a : Addr} {xs : List V} (k : Keep H H') (h : SqT K H a xs) : SqT K H' a xs := by
  rcases h with (h | ⟨o, h⟩) | h
  · exact .inl (.inl (k.tup _ _ h))
  · exact .inl (.inr ⟨o, k.frz _ _ _ h⟩)
  · exact .inr h
/-- data without lists -/
def noList : PyData → Bool
  | .list _ => false
  | .tuple ds => all ds
  | .dict _ => false
  | _ => true
where all : List PyData → Bool
  | [] => true
  | d :: ds => noList d && all ds
mutual
theorem dp_keep {K : PySem.W.Frag} {H H' : Hp} (e : Keep H H') : ∀ {d : PyData} {v : V}, noList d = true → Dp K H v d → Dp K H' v d
  | .none, _, _, h => by cases h; exact .non
  | .bool _, _, _, h => by cases h; exact .bl _
  | .int _, _, _, h => by cases h; exact .int _
  | .str _, _, _, h => by cases h; exact .str _
  | .list _, _, n, h => by simp [noList] at n
  | .tuple _, _, n, h => by
    cases h with
    | tup a b => exact .tup (e.t a) (dpa_keep e (by simpa [noList] using n) b)
  | .dict _, _, _, h => by cases h
theorem dpa_keep {K : PySem.W.Frag} {H H' : Hp} (e : Keep H H') : ∀ {ds : List PyData} {vs : List V}, noList.all ds = true → DpAll K H vs ds → DpAll K H' vs ds
  | [], _, _, h => by cases h; exact .nil
  | _ :: _, _, n, h => by
    cases h with
    | cons a b =>
      have n2 := Bool.and_eq_true_iff.mp (show (noList _ && noList.all _) = true from n)
      exact .cons (dp_keep e n2.1 a) (dpa_keep e n2.2 b)
end
section
variable {K : PySem.W.Frag} {H H' : Hp}
theorem _root_.L2.DpAll.len : ∀ {ds : List PyData} {vs : List V}, DpAll K H vs ds → vs.length = ds.length
  | [], _, h => by cases h; rfl
  | _ :: _, _, h => by
    cases h with
    | cons a b => exact congrArg Nat.succ (L2.DpAll.len b)
theorem _root_.L2.DpAll.get : ∀ {ds : List PyData} {vs : List V} {i : Nat} {v : V} {d : PyData}, DpAll K H vs ds → vs[i]? = some v → ds[i]? = some d → Dp K H v d
  | [], _, i, _, _, h, h1, _ => by cases h; simp at h1
  | _ :: _, _, 0, _, _, h, h1, h2 => by
    cases h with
    | cons a b =>
      simp at h1 h2
      subst h1 h2
      exact a
  | _ :: _, _, i + 1, _, _, h, h1, h2 => by
    cases h with
    | cons a b => exact L2.DpAll.get (i := i) b (by simpa using h1) (by simpa using h2)
theorem _root_.L2.DpAll.snoc : ∀ {ds : List PyData} {vs : List V} {v : V} {d : PyData}, DpAll K H vs ds → Dp K H v d → DpAll K H (vs ++ [v]) (ds ++ [d])
  | [], _, _, _, h, h1 => by cases h; exact .cons h1 .nil
  | _ :: _, _, _, _, h, h1 => by
    cases h with
    | cons a b => exact .cons a (L2.DpAll.snoc b h1)
theorem _root_.L2.DpAll.take : ∀ {ds : List PyData} {vs : List V} (n : Nat), DpAll K H vs ds → DpAll K H (vs.take n) (ds.take n)
  | _, _, 0, _ => .nil
  | [], _, _ + 1, h => by cases h; exact .nil
  | _ :: _, _, n + 1, h => by
    cases h with
    | cons a b => exact .cons a (L2.DpAll.take n b)
theorem _root_.L2.DpAll.app : ∀ {ds es : List PyData} {vs us : List V}, DpAll K H vs ds → DpAll K H us es → DpAll K H (vs ++ us) (ds ++ es)
  | [], _, _, _, h, h1 => by cases h; exact h1
  | _ :: _, _, _, _, h, h1 => by
    cases h with
    | cons a b => exact .cons a (L2.DpAll.app b h1)
theorem dp_int {v : V} {i : Int} (h : Dp K H v (.int i)) : v = .int i := by cases h; rfl
theorem dp_str {v : V} {z : Str} (h : Dp K H v (.str z)) : v = .str z := by cases h; rfl
theorem dp_non {v : V} (h : Dp K H v .none) : v = .non := by cases h; rfl
theorem dpa_ints : ∀ {ns : List Int} {vs : List V}, DpAll K H vs (ns.map PyData.int) → vs = ns.map V.int
  | [], _, h => by cases h; rfl
  | n :: ns, _, h => by
    cases h with
    | cons a b => rw [dp_int a, dpa_ints b]; rfl
theorem dpa_of_ints : ∀ (ns : List Int), DpAll K H (ns.map V.int) (ns.map PyData.int)
  | [] => .nil
  | _ :: ns => .cons (.int _) (dpa_of_ints ns)
theorem dpa_bls : ∀ {ns : List Bool} {vs : List V}, DpAll K H vs (ns.map PyData.bool) → vs = ns.map V.bl
  | [], _, h => by cases h; rfl
  | n :: ns, _, h => by
    cases h with
    | cons a b =>
      cases a
      rw [dpa_bls b]; rfl
theorem dpa_strs : ∀ {ns : List Str} {vs : List V}, DpAll K H vs (ns.map PyData.str) → vs = ns.map V.str
  | [], _, h => by cases h; rfl
  | n :: ns, _, h => by
    cases h with
    | cons a b => rw [dp_str a, dpa_strs b]; rfl
theorem dpa_of_strs : ∀ (ns : List Str), DpAll K H (ns.map V.str) (ns.map PyData.str)
  | [] => .nil
  | _ :: ns => .cons (.str _) (dpa_of_strs ns)
theorem dp_lst {v : V} {ds : List PyData} (h : Dp K H v (.list ds)) : ∃ a xs, v = .ref a ∧ SqL K H a xs ∧ DpAll K H xs ds := by
  cases h with
  | lst a b => exact ⟨_, _, rfl, a, b⟩
theorem dp_tup {v : V} {ds : List PyData} (h : Dp K H v (.tuple ds)) : ∃ a xs, v = .ref a ∧ SqT K H a xs ∧ DpAll K H xs ds := by
  cases h with
  | tup a b => exact ⟨_, _, rfl, a, b⟩
theorem dp_tup1 {v : V} {d1 : PyData} (h : Dp K H v (.tuple [d1])) : ∃ a x, v = .ref a ∧ SqT K H a [x] ∧ Dp K H x d1 := by
  obtain ⟨a, xs, e, s, q⟩ := dp_tup h
  cases q with
  | cons q1 q => cases q; exact ⟨a, _, e, s, q1⟩
theorem dp_tup2 {v : V} {d1 d2 : PyData} (h : Dp K H v (.tuple [d1, d2])) : ∃ a x y, v = .ref a ∧ SqT K H a [x, y] ∧ Dp K H x d1 ∧ Dp K H y d2 := by
  obtain ⟨a, xs, e, s, q⟩ := dp_tup h
  cases q with
  | cons q1 q =>
    cases q with
    | cons q2 q => cases q; exact ⟨a, _, _, e, s, q1, q2⟩
theorem dp_tup3 {v : V} {d1 d2 d3 : PyData} (h : Dp K H v (.tuple [d1, d2, d3])) : ∃ a x y z, v = .ref a ∧ SqT K H a [x, y, z] ∧ Dp K H x d1 ∧ Dp K H y d2 ∧ Dp K H z d3 := by
  obtain ⟨a, xs, e, s, q⟩ := dp_tup h
  cases q with
  | cons q1 q =>
    cases q with
    | cons q2 q =>
      cases q with
      | cons q3 q => cases q; exact ⟨a, _, _, _, e, s, q1, q2, q3⟩
theorem dp_tup4 {v : V} {d1 d2 d3 d4 : PyData} (h : Dp K H v (.tuple [d1, d2, d3, d4])) : ∃ a x y z u, v = .ref a ∧ SqT K H a [x, y, z, u] ∧ Dp K H x d1 ∧ Dp K H y d2 ∧ Dp K H z d3 ∧ Dp K H u d4 := by
  obtain ⟨a, xs, e, s, q⟩ := dp_tup h
  cases q with
  | cons q1 q =>
    cases q with
    | cons q2 q =>
      cases q with
      | cons q3 q =>
        cases q with
        | cons q4 q => cases q; exact ⟨a, _, _, _, _, e, s, q1, q2, q3, q4⟩
end
/-! ### data of our kinds -/
def dInts (ns : List Int) : PyData := .tuple (ns.map PyData.int)
def dEdit (e : Edit) : PyData := .tuple [.int e.1, .int e.2.1, .int e.2.2]
def dPair (p : Int × Int) : PyData := .tuple [.int p.1, .int p.2]
def dEdits (es : List Edit) : PyData := .tuple (es.map dEdit)
/-! ### a list or a tuple -/
def SqS (K : PySem.W.Frag) (H : Hp) (a : Addr) (xs : List V) : Prop := SqL K H a xs ∨ SqT K H a xs
section
variable {K : PySem.W.Frag} {H H' : Hp} {a : Addr} {xs : List V}
theorem ex_s (e : Ex H H') (h : SqS K H a xs) : SqS K H' a xs := h.imp (ex_l e) (ex_t e)
/-- data that is a list or a tuple of ds -/
def DpS (K : PySem.W.Frag) (H : Hp) (v : V) (ds : List PyData) : Prop := Dp K H v (.list ds) ∨ Dp K H v (.tuple ds)
theorem dps_ex {v : V} {ds : List PyData} (e : Ex H H') (h : DpS K H v ds) : DpS K H' v ds := h.imp (dp_ex e) (dp_ex e)
theorem dp_seq {v : V} {ds : List PyData} (h : DpS K H v ds) : ∃ a xs, v = .ref a ∧ SqS K H a xs ∧ DpAll K H xs ds := by
  rcases h with h | h
  · obtain ⟨a, xs, e, s, q⟩ := dp_lst h
    exact ⟨a, xs, e, .inl s, q⟩
  · obtain ⟨a, xs, e, s, q⟩ := dp_tup h
    exact ⟨a, xs, e, .inr s, q⟩
end
def iSeq (K : PySem.W.Frag) (tl : TE) : TI := fun σ H R => tl σ H fun x H1 => ∃ a, x = .ref a ∧ (((∃ xs, SqL K H1 a xs) ∧ R (Itl K a) H1) ∨ ((∃ xs, SqT K H1 a xs) ∧ R (Itt K a) H1))
theorem pi_seq {X : Cx} {tg l : Expr} {tl : TE} (hl : PE X l tl) : PI X tg l (iSeq X.K tl) := by
  refine ⟨fun pins s σ H R I h => ?_⟩
  refine thn (hl.run pins s σ H _ I h) fun v s1 ⟨x, H1, I1, r1, q1⟩ => ?_
  obtain ⟨a, e, q⟩ := q1
  subst e
  cases r1
  rcases q with ⟨⟨xs, hq⟩, q⟩ | ⟨⟨xs, hq⟩, q⟩
  · obtain ⟨its, rv, p, hz⟩ := I1.list hq
    refine wpAny_pyIter_list p.isList ?_
    refine ⟨s1.heap.objs.size, [s1.heap.objs.size], _, _, H1, rfl, I1.kept (t' := s1.toks) fun b o e => Heap.get?_push_of_some _ e, turn_list a _, ⟨_, Heap.get?_push_size _ rfl, rfl, rfl⟩, fun b hb => ?_, q⟩
    have e : b = s1.heap.objs.size := by simpa using hb
    subst e
    exact I1.fpOk (Nat.le_refl _) (I1.hok.fresh (Nat.le_refl _))
  · obtain ⟨its, rv, p, hz⟩ := I1.tuple hq
    refine wpAny_pyIter_tuple (show s1.heap.IsTuple a its.toArray from p) ?_
    refine ⟨s1.heap.objs.size, [s1.heap.objs.size], _, _, H1, rfl, I1.kept (t' := s1.toks) fun b o e => Heap.get?_push_of_some _ e, turn_tuple a _, ⟨_, Heap.get?_push_size _ rfl, rfl, rfl⟩, fun b hb => ?_, q⟩
    have e : b = s1.heap.objs.size := by simpa using hb
    subst e
    exact I1.fpOk (Nat.le_refl _) (I1.hok.fresh (Nat.le_refl _))
/-- a sequence stays what it is -/
def Stays (K : PySem.W.Frag) (H H' : Hp) (a : Addr) (xs : List V) : Prop := (SqL K H a xs → SqL K H' a xs) ∧ (SqT K H a xs → SqT K H' a xs)
theorem stays_ex {K : PySem.W.Frag} {H H' : Hp} {a : Addr} {xs : List V} (e : Ex H H') : Stays K H H' a xs := ⟨ex_l e, ex_t e⟩
/-- an object that is no sequence changes -/
theorem stays_at {K : PySem.W.Frag} {H : Hp} {d a : Addr} {o o' : HO} {xs : List V} (h : ∀ u, o = u → (∀ ys, u ≠ .lst ys) ∧ (∀ ys, u ≠ .tup ys) ∧ ∀ p q, u ≠ .frz p q) : Stays K (upd H d o) (upd H d o') a xs := by
  obtain ⟨h1, h2, h3⟩ := h o rfl
  refine ⟨fun q => ?_, fun q => ?_⟩
  · rcases q with (q | ⟨z, q⟩) | q
    · by_cases e : a = d
      · subst e; rw [upd_same] at q; exact absurd (Option.some.inj q) (h1 _)
      · rw [upd_ne e] at q; exact .inl (.inl (by rw [upd_ne e]; exact q))
    · by_cases e : a = d
      · subst e; rw [upd_same] at q; exact absurd (Option.some.inj q) (h3 _ _)
      · rw [upd_ne e] at q; exact .inl (.inr ⟨z, by rw [upd_ne e]; exact q⟩)
    · exact .inr q
  · rcases q with (q | ⟨z, q⟩) | q
    · by_cases e : a = d
      · subst e; rw [upd_same] at q; exact absurd (Option.some.inj q) (h2 _)
      · rw [upd_ne e] at q; exact .inl (.inl (by rw [upd_ne e]; exact q))
    · by_cases e : a = d
      · subst e; rw [upd_same] at q; exact absurd (Option.some.inj q) (h3 _ _)
      · rw [upd_ne e] at q; exact .inl (.inr ⟨z, by rw [upd_ne e]; exact q⟩)
    · exact .inr q
theorem noseq_dK (m : List (Key × V)) : ∀ u, HO.dK m = u → (∀ ys, u ≠ .lst ys) ∧ (∀ ys, u ≠ .tup ys) ∧ ∀ p q, u ≠ .frz p q := by
  rintro u rfl
  exact ⟨fun _ z => (nomatch z), fun _ z => (nomatch z), fun _ _ z => (nomatch z)⟩
/-! ### loops by the part done and the part to do -/
section
variable {K : PySem.W.Frag} {a : Addr} {xs : List V} {α : Type} {ds : List α} {g : TG} {tb : TS} {D : Ends} {σ : St} {H : Hp} {tl : TE}
theorem split_at {ds : List α} {i : Nat} (h : i < ds.length) : ds.take i ++ ds[i] :: ds.drop (i + 1) = ds := by
  rw [← List.drop_eq_getElem_cons h, List.take_append_drop]
/-- over a list or a tuple that stays as it is: behind the evaluation of what is walked -/
theorem for_s (xs : List V) (ds : List α) (hl : xs.length = ds.length) (Pv : List α → List α → St → Hp → Prop) {HB : Hp} (hq0 : SqS K HB a xs) (h0 : Pv [] ds σ H) (hq : ∀ done todo σ' H', done ++ todo = ds → Pv done todo σ' H' → Stays K HB H' a xs)
    (hs : ∀ done d todo v σ H, done ++ d :: todo = ds → xs[done.length]? = some v → ds[done.length]? = some d → Pv done (d :: todo) σ H → g v σ H fun σ2 H2 => tb { D with nx := Pv (done ++ [d]) todo, ct := Pv (done ++ [d]) todo, bk := D.nx } σ2 H2)
    (hd : ∀ σ H, Pv ds [] σ H → D.nx σ H) : ∃ a', V.ref a = V.ref a' ∧ (((∃ xs, SqL K H a' xs) ∧ ∃ W : Nat → Nat → St → Hp → Prop, (∃ m, W 0 m σ H) ∧ ∀ i m σ H, W i m σ H →
      ((Itl K a').stop i H ∧ D.nx σ H) ∨ ((Itl K a').go i H ∧ ∃ N : St → Hp → Prop, (∀ σ' H', N σ' H' → ∃ m', m' < m ∧ W (i + 1) m' σ' H') ∧ ∀ x H', (Itl K a').yld i H x H' → g x σ H' fun σ2 H2 => tb { D with nx := N, ct := N, bk := D.nx } σ2 H2)) ∨
     ((∃ xs, SqT K H a' xs) ∧ ∃ W : Nat → Nat → St → Hp → Prop, (∃ m, W 0 m σ H) ∧ ∀ i m σ H, W i m σ H →
      ((Itt K a').stop i H ∧ D.nx σ H) ∨ ((Itt K a').go i H ∧ ∃ N : St → Hp → Prop, (∀ σ' H', N σ' H' → ∃ m', m' < m ∧ W (i + 1) m' σ' H') ∧ ∀ x H', (Itt K a').yld i H x H' → g x σ H' fun σ2 H2 => tb { D with nx := N, ct := N, bk := D.nx } σ2 H2))) := by
  have step : ∀ i x σ H, xs[i]? = some x → Pv (ds.take i) (ds.drop i) σ H → g x σ H fun σ2 H2 => tb { D with nx := Pv (ds.take (i + 1)) (ds.drop (i + 1)), ct := Pv (ds.take (i + 1)) (ds.drop (i + 1)), bk := D.nx } σ2 H2 := by
    intro i x σ H hx p
    obtain ⟨hi, _⟩ := List.getElem?_eq_some_iff.mp hx
    have hi2 : i < ds.length := by omega
    have len : (ds.take i).length = i := by rw [List.length_take]; omega
    have e := hs (ds.take i) ds[i] (ds.drop (i + 1)) x σ H (split_at hi2) (by rw [len]; exact hx) (by rw [len]; exact List.getElem?_eq_getElem hi2) (by rw [← List.drop_eq_getElem_cons hi2]; exact p)
    rw [List.take_append_getElem hi2] at e
    exact e
  have fin : ∀ i σ H, Pv (ds.take i) (ds.drop i) σ H → i = xs.length → D.nx σ H := by
    intro i σ H p e
    rw [e, hl, List.take_length, List.drop_length] at p
    exact hd σ H p
  have hst := hq [] ds σ H rfl h0
  refine ⟨a, rfl, ?_⟩
  rcases id hq0 with q | q
  · refine .inl ⟨⟨xs, hst.1 q⟩, ?_⟩
    refine for_list (xs := xs) (fun i σ H => Pv (ds.take i) (ds.drop i) σ H) (by simpa using h0) (fun i σ' H' _ p => (hq _ _ σ' H' (List.take_append_drop _ _) p).1 q) (fun i x σ H hx p => step i x σ H hx p) (fun σ H p => fin _ σ H p rfl)
  · refine .inr ⟨⟨xs, hst.2 q⟩, ?_⟩
    refine for_tup (xs := xs) (fun i σ H => Pv (ds.take i) (ds.drop i) σ H) (by simpa using h0) (fun i σ' H' _ p => (hq _ _ σ' H' (List.take_append_drop _ _) p).2 q) (fun i x σ H hx p => step i x σ H hx p) (fun σ H p => fin _ σ H p rfl)
/-- a comprehension over a list or a tuple that stays as it is -/
theorem lc_s {tt : TT} {te : TE} {vs : List Nat} {Q : Addr → Hp → Prop} (xs : List V) (ds : List α) (hl : xs.length = ds.length) (Pv : Addr → List α → List α → Hp → Prop) (hq0 : SqS K H a xs) (h0 : ∀ L, H L = none → Pv L [] ds (upd H L (.lst []))) (hq : ∀ L done todo H', H L = none → done ++ todo = ds → Pv L done todo H' → Stays K H H' a xs)
    (hs : ∀ L done d todo v H', H L = none → done ++ d :: todo = ds → xs[done.length]? = some v → ds[done.length]? = some d → Pv L done (d :: todo) H' → g v (wipe σ vs) H' fun σ2 H2 => wipe σ2 vs = wipe σ vs ∧ tt σ2 H2 fun b H3 =>
      if b = true then te σ2 H3 fun y H4 => ∃ acc, H4 L = some (.lst acc) ∧ acc.length < sizeLine ∧ Pv L (done ++ [d]) todo (upd H4 L (.lst (acc ++ [y]))) else Pv L (done ++ [d]) todo H3)
    (hd : ∀ L H', H L = none → Pv L ds [] H' → Q L H') : ∃ a', V.ref a = V.ref a' ∧ (((∃ xs, SqL K H a' xs) ∧ ∀ D, H D = none → ∃ W : Nat → Nat → Hp → Prop, (∃ m, W 0 m (upd H D (.lst []))) ∧ ∀ i m H, W i m H →
  ((Itl K a').stop i H ∧ Q D H) ∨ ((Itl K a').go i H ∧ ∃ Nx : Hp → Prop, (∀ H', Nx H' → ∃ m', m' < m ∧ W (i + 1) m' H') ∧ ∀ x H', (Itl K a').yld i H x H' → g x (wipe σ vs) H' fun σ2 H2 => wipe σ2 vs = wipe σ vs ∧ tt σ2 H2 fun b H3 =>
    if b = true then te σ2 H3 fun y H4 => ∃ acc, H4 D = some (.lst acc) ∧ acc.length < sizeLine ∧ Nx (upd H4 D (.lst (acc ++ [y]))) else Nx H3)) ∨
   ((∃ xs, SqT K H a' xs) ∧ ∀ D, H D = none → ∃ W : Nat → Nat → Hp → Prop, (∃ m, W 0 m (upd H D (.lst []))) ∧ ∀ i m H, W i m H →
  ((Itt K a').stop i H ∧ Q D H) ∨ ((Itt K a').go i H ∧ ∃ Nx : Hp → Prop, (∀ H', Nx H' → ∃ m', m' < m ∧ W (i + 1) m' H') ∧ ∀ x H', (Itt K a').yld i H x H' → g x (wipe σ vs) H' fun σ2 H2 => wipe σ2 vs = wipe σ vs ∧ tt σ2 H2 fun b H3 =>
    if b = true then te σ2 H3 fun y H4 => ∃ acc, H4 D = some (.lst acc) ∧ acc.length < sizeLine ∧ Nx (upd H4 D (.lst (acc ++ [y]))) else Nx H3))) := by
  refine ⟨a, rfl, ?_⟩
  have step : ∀ L i x H', H L = none → xs[i]? = some x → Pv L (ds.take i) (ds.drop i) H' → g x (wipe σ vs) H' fun σ2 H2 => wipe σ2 vs = wipe σ vs ∧ tt σ2 H2 fun b H3 =>
      if b = true then te σ2 H3 fun y H4 => ∃ acc, H4 L = some (.lst acc) ∧ acc.length < sizeLine ∧ Pv L (ds.take (i + 1)) (ds.drop (i + 1)) (upd H4 L (.lst (acc ++ [y]))) else Pv L (ds.take (i + 1)) (ds.drop (i + 1)) H3 := by
    intro L i x H' hL hx p
    obtain ⟨hi, _⟩ := List.getElem?_eq_some_iff.mp hx
    have hi2 : i < ds.length := by omega
    have len : (ds.take i).length = i := by rw [List.length_take]; omega
    have e := hs L (ds.take i) ds[i] (ds.drop (i + 1)) x H' hL (split_at hi2) (by rw [len]; exact hx) (by rw [len]; exact List.getElem?_eq_getElem hi2) (by rw [← List.drop_eq_getElem_cons hi2]; exact p)
    rw [List.take_append_getElem hi2] at e
    exact e
  have fin : ∀ L i H', H L = none → Pv L (ds.take i) (ds.drop i) H' → i = xs.length → Q L H' := by
    intro L i H' hL p e
    rw [e, hl, List.take_length, List.drop_length] at p
    exact hd L H' hL p
  rcases id hq0 with q | q
  · refine .inl ⟨⟨xs, q⟩, fun L hL => ?_⟩
    exact lc_list (xs := xs) (fun i H' => Pv L (ds.take i) (ds.drop i) H') (by simpa using h0 L hL) (fun i H' _ p => (hq L _ _ H' hL (List.take_append_drop _ _) p).1 q) (fun i x H' hx p => step L i x H' hL hx p) (fun H' p => fin L _ H' hL p rfl)
  · refine .inr ⟨⟨xs, q⟩, fun L hL => ?_⟩
    exact lc_tup (xs := xs) (fun i H' => Pv L (ds.take i) (ds.drop i) H') (by simpa using h0 L hL) (fun i H' _ p => (hq L _ _ H' hL (List.take_append_drop _ _) p).2 q) (fun i x H' hx p => step L i x H' hL hx p) (fun H' p => fin L _ H' hL p rfl)
theorem keep_lst {H : Hp} {L : Addr} {ys : List V} {o : HO} (h : H L = some (.lst ys)) : Keep H (upd H L o) :=
  ⟨fun b xs e => by rw [upd_ne fun z => by rw [z, h] at e; cases e]; exact e, fun b o' u e => by rw [upd_ne fun z => by rw [z, h] at e; cases e]; exact e⟩
theorem all_noList : ∀ {ds : List PyData}, (∀ d ∈ ds, noList d = true) → noList.all ds = true
  | [], _ => rfl
  | d :: ds, h => by
    show (noList d && noList.all ds) = true
    rw [h d List.mem_cons_self, all_noList fun e he => h e (List.mem_cons_of_mem _ he)]
    rfl
/-- .. that makes data: f what a turn gives, none where the test is not met -/
theorem lc_d {tt : TT} {te : TE} {vs : List Nat} {Q : Addr → Hp → Prop} (xs : List V) (ds : List α) (f : α → Option PyData) (hl : xs.length = ds.length) (hz : ds.length < 1000000) (hq0 : SqS K H a xs) (hn : ∀ d e, f d = some e → noList e = true)
    (hs : ∀ d v H' (Yes : V → Hp → Prop) (No : Hp → Prop), Ex H H' → d ∈ ds → (∀ i : Nat, xs[i]? = some v → ds[i]? = some d → (∀ y H4 e, Ex H' H4 → f d = some e → Dp K H4 y e → Yes y H4) → (∀ H3, Ex H' H3 → f d = none → No H3) →
      g v (wipe σ vs) H' fun σ2 H2 => wipe σ2 vs = wipe σ vs ∧ tt σ2 H2 fun b H3 => if b = true then te σ2 H3 Yes else No H3))
    (hd : ∀ L ys H', H L = none → Ex H H' → H' L = some (.lst ys) → DpAll K H' ys (ds.filterMap f) → Q L H') : ∃ a', V.ref a = V.ref a' ∧ (((∃ xs, SqL K H a' xs) ∧ ∀ D, H D = none → ∃ W : Nat → Nat → Hp → Prop, (∃ m, W 0 m (upd H D (.lst []))) ∧ ∀ i m H, W i m H →
  ((Itl K a').stop i H ∧ Q D H) ∨ ((Itl K a').go i H ∧ ∃ Nx : Hp → Prop, (∀ H', Nx H' → ∃ m', m' < m ∧ W (i + 1) m' H') ∧ ∀ x H', (Itl K a').yld i H x H' → g x (wipe σ vs) H' fun σ2 H2 => wipe σ2 vs = wipe σ vs ∧ tt σ2 H2 fun b H3 =>
    if b = true then te σ2 H3 fun y H4 => ∃ acc, H4 D = some (.lst acc) ∧ acc.length < sizeLine ∧ Nx (upd H4 D (.lst (acc ++ [y]))) else Nx H3)) ∨
   ((∃ xs, SqT K H a' xs) ∧ ∀ D, H D = none → ∃ W : Nat → Nat → Hp → Prop, (∃ m, W 0 m (upd H D (.lst []))) ∧ ∀ i m H, W i m H →
  ((Itt K a').stop i H ∧ Q D H) ∨ ((Itt K a').go i H ∧ ∃ Nx : Hp → Prop, (∀ H', Nx H' → ∃ m', m' < m ∧ W (i + 1) m' H') ∧ ∀ x H', (Itt K a').yld i H x H' → g x (wipe σ vs) H' fun σ2 H2 => wipe σ2 vs = wipe σ vs ∧ tt σ2 H2 fun b H3 =>
    if b = true then te σ2 H3 fun y H4 => ∃ acc, H4 D = some (.lst acc) ∧ acc.length < sizeLine ∧ Nx (upd H4 D (.lst (acc ++ [y]))) else Nx H3))) := by
  refine lc_s xs ds hl (fun L done todo H' => Ex H H' ∧ ∃ ys, H' L = some (.lst ys) ∧ ys.length ≤ done.length ∧ DpAll K H' ys (done.filterMap f)) hq0 (fun L hL => ⟨Ex.new hL, [], upd_same, Nat.le_refl _, .nil⟩)
    (fun L done todo H' _ _ ⟨e, _⟩ => stays_ex e) ?_ (fun L H' hL ⟨e, ys, h1, _, h2⟩ => hd L ys H' hL e h1 h2)
  rintro L done d todo v H' hL he hv hdd ⟨e, ys, hy, hlen, hp⟩
  have hdl : done.length < ds.length := (List.getElem?_eq_some_iff.mp hdd).1
  have hal : noList.all (done.filterMap f) = true := all_noList fun z hz => by
    obtain ⟨q, _, hq⟩ := List.mem_filterMap.mp hz
    exact hn q z hq
  refine hs d v H' _ _ e (by rw [← he]; simp) done.length hv hdd (fun y H4 z e4 hz2 hz3 => ?_) (fun H3 e3 hf => ?_)
  · refine ⟨ys, e4 L _ hy, by rw [sizeLine_eq]; omega, Ex.mut (e.trans e4) hL, ys ++ [y], upd_same, by rw [List.length_append, List.length_append]; simp; exact hlen, ?_⟩
    have kp : Keep H4 (upd H4 L (.lst (ys ++ [y]))) := keep_lst (e4 L _ hy)
    rw [List.filterMap_append, List.filterMap_cons, hz2]
    exact (dpa_keep kp hal (dpa_ex e4 hp)).snoc (dp_keep kp (hn d z hz2) hz3)
  · refine ⟨e.trans e3, ys, e3 L _ hy, by rw [List.length_append]; omega, ?_⟩
    rw [List.filterMap_append, List.filterMap_cons, hf]
    simpa using dpa_ex e3 hp
/-- .. without a test -/
theorem lc_y {te : TE} {vs : List Nat} {Q : Addr → Hp → Prop} (xs : List V) (ds : List α) (f : α → PyData) (hl : xs.length = ds.length) (hz : ds.length < 1000000) (hq0 : SqS K H a xs) (hn : ∀ d, noList (f d) = true)
    (hs : ∀ d v H' (Yes : V → Hp → Prop), Ex H H' → d ∈ ds → (∀ i : Nat, xs[i]? = some v → ds[i]? = some d → (∀ y H4, Ex H' H4 → Dp K H4 y (f d) → Yes y H4) →
      g v (wipe σ vs) H' fun σ2 H2 => wipe σ2 vs = wipe σ vs ∧ te σ2 H2 Yes))
    (hd : ∀ L ys H', H L = none → Ex H H' → H' L = some (.lst ys) → DpAll K H' ys (ds.map f) → Q L H') : ∃ a', V.ref a = V.ref a' ∧ (((∃ xs, SqL K H a' xs) ∧ ∀ D, H D = none → ∃ W : Nat → Nat → Hp → Prop, (∃ m, W 0 m (upd H D (.lst []))) ∧ ∀ i m H, W i m H →
  ((Itl K a').stop i H ∧ Q D H) ∨ ((Itl K a').go i H ∧ ∃ Nx : Hp → Prop, (∀ H', Nx H' → ∃ m', m' < m ∧ W (i + 1) m' H') ∧ ∀ x H', (Itl K a').yld i H x H' → g x (wipe σ vs) H' fun σ2 H2 => wipe σ2 vs = wipe σ vs ∧ tYes σ2 H2 fun b H3 =>
    if b = true then te σ2 H3 fun y H4 => ∃ acc, H4 D = some (.lst acc) ∧ acc.length < sizeLine ∧ Nx (upd H4 D (.lst (acc ++ [y]))) else Nx H3)) ∨
   ((∃ xs, SqT K H a' xs) ∧ ∀ D, H D = none → ∃ W : Nat → Nat → Hp → Prop, (∃ m, W 0 m (upd H D (.lst []))) ∧ ∀ i m H, W i m H →
  ((Itt K a').stop i H ∧ Q D H) ∨ ((Itt K a').go i H ∧ ∃ Nx : Hp → Prop, (∀ H', Nx H' → ∃ m', m' < m ∧ W (i + 1) m' H') ∧ ∀ x H', (Itt K a').yld i H x H' → g x (wipe σ vs) H' fun σ2 H2 => wipe σ2 vs = wipe σ vs ∧ tYes σ2 H2 fun b H3 =>
    if b = true then te σ2 H3 fun y H4 => ∃ acc, H4 D = some (.lst acc) ∧ acc.length < sizeLine ∧ Nx (upd H4 D (.lst (acc ++ [y]))) else Nx H3))) := by
  refine lc_d (tt := tYes) xs ds (fun d => some (f d)) hl hz hq0 (fun d e h => by cases h; exact hn d) ?_ (fun L ys H' nL e hL hp => hd L ys H' nL e hL (by rwa [List.filterMap_eq_map'] at hp))
  intro d v H' Yes No e hm i hv hdd yes no
  have q := hs d v H' Yes e hm i hv hdd (fun y H4 e4 h => yes y H4 _ e4 rfl h)
  exact q
end
end LG

set_option Elab.async false
set_option linter.all false
set_option maxRecDepth 100000
set_option maxHeartbeats 4000000
/-! Further rules: sum of a tuple, an item of a list changed by an operator, raising by name, str of a number or a text. -/
namespace LG
open PySem PySem.Spec L2 Evl
open PyProof.Rows hiding St
theorem _root_.L2.Room.big {k : Nat} {A : Around} (r : Room k A) : A.units + 65 < cLine := by have := r.un; omega
section
variable {X : Cx}
/-- sum(t) of a tuple of ints -/
def rSumT (K : PySem.W.Frag) : List V → Hp → VK → Prop := fun vs H Q => ∃ (a : Addr) (ns : List Int), vs = [V.ref a] ∧ SqT K H a (ns.map V.int) ∧ Q (.int ns.sum) H
theorem sumTo (ns : List Int) : ∀ j, preSum (fun i => ns.getD i 0) j = (ns.take j).sum
  | 0 => by simp [preSum]
  | j + 1 => by
    rw [preSum, sumTo ns j]
    by_cases h : j < ns.length
    · rw [List.take_succ_eq_append_getElem h, List.sum_append]
      simp [List.getD, List.getElem?_eq_getElem h]
    · have h1 : ns.length ≤ j := Nat.le_of_not_lt h
      rw [List.take_of_length_le h1, List.take_of_length_le (Nat.le_succ_of_le h1)]
      simp [List.getD, List.getElem?_eq_none h1]
theorem cr_sumT (hc : X.calm = true) : CallR X (.builtin "sum") (rSumT X.K) := by
  intro pins s σ H vs us Q I r h
  obtain ⟨a, ns, rfl, hs, q⟩ := h
  obtain ⟨its, rv, ht, _⟩ := I.tuple hs
  rw [Vals.ref1 r]
  have ht' : s.heap.IsTuple a its.toArray := ht
  refine PySem.call_sum_walkG (wpAny_pyIter_tuple ht' ?_)
  have hne : a ≠ s.heap.objs.size := Nat.ne_of_lt ht.lt
  refine ⟨_, _, _, _, _, _, fun i => ns.getD i 0, rfl, Walks.tuple (A := X.A.in1) (I.ok.hd hc) s.heap.objs.size a hne its.toArray, ⟨?_, ?_⟩, ?_, ?_, ?_⟩
  · exact ⟨_, Heap.get?_push_size _ rfl, rfl, rfl⟩
  · obtain ⟨o, e, c⟩ := ht'
    exact ⟨o, Heap.get?_push_of_some _ e, c⟩
  · intro b hb
    simp only [List.mem_cons, List.not_mem_nil, or_false] at hb
    show b < (s.heap.push _).objs.size
    rw [Heap.size_push]
    rcases hb with rfl | rfl
    · exact Nat.lt_succ_self _
    · exact Nat.lt_succ_of_lt ht.lt
  · intro i v hv
    have hv' : its[i]? = some v := by simpa using hv
    have hl := rv.length
    obtain ⟨hi, _⟩ := List.getElem?_eq_some_iff.mp hv'
    rw [List.length_map] at hl
    have hi2 : i < ns.length := by omega
    obtain ⟨u, hu, ru⟩ := rv.get (i := i) (x := .int ns[i]) (by simp [hi2])
    rw [hv'] at hu
    cases hu
    obtain ⟨t, e⟩ := ru
    refine ⟨t, ?_⟩
    rw [e]
    simp [List.getD, List.getElem?_eq_getElem hi2]
  · intro h' tk t' hk
    have hl := rv.length
    rw [List.length_map] at hl
    rw [sumTo, show its.toArray.size = ns.length by simp [hl], List.take_length]
    refine ⟨.int _, H, I.kept (t' := tk) fun b o e => ?_, ⟨_, rfl⟩, q⟩
    refine hk b o ?_ (Heap.get?_push_of_some _ e)
    simp only [List.mem_singleton]
    exact Nat.ne_of_lt (Heap.lt_size e)
/-- xs[i], by values -/
theorem get_list : PGet X (rIxL X.K) := by
  intro pins s σ H x y v u Q I rx ry h
  obtain ⟨p, xs, i, z, rfl, rfl, hq, he, q⟩ := h
  cases rx
  obtain ⟨t, rfl⟩ := ry
  obtain ⟨its, r, pl, hz⟩ := I.list hq
  obtain ⟨j, h1, h2, h3, h4, h5⟩ := atI_get he
  obtain ⟨w, ew, rw'⟩ := r.get h2
  have hl := r.length
  have hn := line63
  have fin : EP X pins σ Q w s := ⟨z, H, I, rw', q⟩
  by_cases h0 : 0 ≤ i
  · have hj : i.toNat = j := by
      rw [seqIndex_of h0 h5] at h1
      exact Option.some.inj h1
    exact wpAny_getItem_list pl.isList h0 (by omega) (by rw [hj]; simpa using ew) fin
  · have hj : (i + (its.toArray.size : Int)).toNat = j := by
      rw [seqIndex_neg (by omega) h4] at h1
      rw [List.size_toArray, ← hl]
      exact Option.some.inj h1
    exact wpAny_getItem_list_neg pl.isList (by omega) (by rw [List.size_toArray] <;> omega) (by omega) (by rw [hj]; simpa using ew) fin
/-- str(x) of a number or a text -/
theorem call_str_is : CallR X (.type "str") (fun xs H Q => (∃ i, xs = [V.int i] ∧ i.natAbs.log2 < 1920 ∧ Q (.str (toString i)) H) ∨ ∃ a, xs = [V.str a] ∧ Q (.str a) H) := CallR.or call_str_int SkE.call_str_str
/-- raise C('..') by the class's name -/
theorem ps_rz {W : WX} {x m : Str} {j : Nat} {p p2 pos pos' : Pos} (f : PySem.W.excIn X.K (He.ga X.K x) He.veBase "ValueError.__new__" = true ∧ PySem.W.keepIn X.K (.ref (He.ga X.K x)) = true ∧ PySem.W.subIn X.K (.ref (He.ga X.K x)) (.type "BaseException") = some true ∧ PySem.W.typeIn X.K (.ref (He.ga X.K x)) = some (.type "type"))
    (gC : X.mg x = some (.ref (He.ga X.K x))) (tk : Takes X W) (hc : X.calm = true := by rfl) (hg : Gl X x := by rfl) (hdb : (x == ("__debug__" : Str)) = false := by decide) :
    PS X (.Raise (some (.Call (.Name x p) [.Constant (.str m) j p2] [] pos)) none pos') (fun _ σ H => W (.ref (He.ga X.K x)) none σ H) :=
  ps_raise hc tk (pmk_own PySem.F.excBase_ValueError f.1 gC f.2.1 (raises_own f.2.2.1 f.2.2.2) hg hdb)
end
/-! ### the layer's rules with K as a letter (for comprehensions' blocks) -/
section
variable {X : Cx} (K : PySem.W.Frag)
theorem kfld {e : Expr} {f : Str} {pos : Pos} {ta : TE} (he : PE X e ta) (hb : attributeBase e f X.env (eval e X.env) = eval e X.env := by rfl) (hK : X.K = K := by rfl) : PE X (.Attribute e f pos) (tFld K ta f) := by
  subst hK; exact pe_fld he hb
theorem ksfld {o value : Expr} {f : Str} {pos pos' : Pos} {ta tv : TE} (ha : PE X o ta) (hv : PE X value tv) (hs : swapsWith value (some (.Attribute o f pos')) pos.line X.env = pure false := by rfl) (hK : X.K = K := by rfl) : PS X (.Assign [.Attribute o f pos'] value pos) (sFld K ta tv f) := by
  subst hK; exact ps_fld ha hv hs
theorem kixl (hK : X.K = K := by rfl) : IxR X (rIxL K) := by subst hK; exact ix_list
theorem kixt (hK : X.K = K := by rfl) : IxR X (rIxT K) := by subst hK; exact ix_tup
theorem ksll (hK : X.K = K := by rfl) : SlR X (rSlL K) := by subst hK; exact sl_list
theorem kin (hK : X.K = K := by rfl) : OpR X (compareOp .In) (rIn K false) := by subst hK; exact op_in_seq
theorem knin (hK : X.K = K := by rfl) : OpR X (compareOp .NotIn) (rIn K true) := by subst hK; exact op_notIn_seq
theorem keq {k : Nat} (hr : Room k X.A) (hK : X.K = K := by rfl) : OpR X (compareOp .Eq) (rEqD K) := by subst hK; exact op_eqD hr.units
theorem kne {k : Nat} (hr : Room k X.A) (hK : X.K = K := by rfl) : OpR X (compareOp .NotEq) (rNeD K) := by subst hK; exact op_neD hr.units
theorem kind {k : Nat} (hr : Room k X.A) (hK : X.K = K := by rfl) : OpR X (compareOp .In) (rInD K) := by subst hK; exact op_inD hr.big
theorem knind {k : Nat} (hr : Room k X.A) (hK : X.K = K := by rfl) : OpR X (compareOp .NotIn) (rNotInD K) := by subst hK; exact op_notInD hr.big
theorem klen (hK : X.K = K := by rfl) : CallR X (.builtin "len") (rLenS K) := by subst hK; exact call_len_seq
@[irreducible] def rLstS (K : PySem.W.Frag) : List V → Hp → VK → Prop := fun xs H Q => ∃ p ys, xs = [.ref p] ∧ (SqL K H p ys ∨ SqT K H p ys) ∧ ∀ l, H l = none → Q (.ref l) (upd H l (.lst ys))
theorem klist (hK : X.K = K := by rfl) : CallR X (.type "list") (rLstS K) := by subst hK; unfold rLstS; exact call_list_of
@[irreducible] def rTupS (K : PySem.W.Frag) : List V → Hp → VK → Prop := fun xs H Q => ∃ p ys, xs = [.ref p] ∧ ((SqL K H p ys ∧ ∀ l, H l = none → Q (.ref l) (upd H l (.tup ys))) ∨ (SqT K H p ys ∧ Q (.ref p) H))
theorem ktuple (hK : X.K = K := by rfl) : CallR X (.type "tuple") (rTupS K) := by subst hK; unfold rTupS; exact call_tuple_of
def rDictP (K : PySem.W.Frag) : List V → Hp → VK → Prop := fun xs H Q => ∃ (a : Addr) (ps : List Addr) (kvs : List (Key × V)), xs = [.ref a] ∧ SqL K H a (ps.map V.ref) ∧ Paired (fun p kv => SqT K H p [kV kv.1, kv.2]) ps kvs ∧ ∀ p, H p = none → Q (.ref p) (upd H p (.dK (mergeK [] kvs)))
theorem kdictP (hc : X.calm = true := by rfl) (hK : X.K = K := by rfl) : CallR X (.type "dict") (rDictP K) := by subst hK; exact call_dictP hc
theorem ksorted (hK : X.K = K := by rfl) : CallR X (.builtin "sorted") (rSortedI K) := by subst hK; exact cr_sortedI
theorem kall (hc : X.calm = true := by rfl) (hK : X.K = K := by rfl) : CallR X (.builtin "all") (rAll K) := by subst hK; exact cr_all hc
theorem kmin (hc : X.calm = true := by rfl) (hK : X.K = K := by rfl) : CallR X (.builtin "min") (rMin K) := by subst hK; exact cr_min hc
theorem ksumT (hc : X.calm = true := by rfl) (hK : X.K = K := by rfl) : CallR X (.builtin "sum") (rSumT K) := by subst hK; exact cr_sumT hc
theorem kseq {tg l : Expr} {tl : TE} (hl : PE X l tl) (hK : X.K = K := by rfl) : PI X tg l (iSeq K tl) := by subst hK; exact pi_seq hl
theorem ktup (n : Nat) {es : List Expr} {k : Nat} {pos : Pos} {t : TGs} (h : PGs X es t) (hc : X.calm = true := by rfl) (hn : (assignEach es X.env).length = n := by rfl) (hst : (assignEach es X.env).findIdx? (·.1) = none := by rfl) (hK : X.K = K := by rfl) : PG X (.Tuple es k pos) (gTup K n t) := by
  subst hK; exact pg_tup hc h hn hst
theorem kget (hK : X.K = K := by rfl) : PGet X (rIxL K) := by subst hK; exact get_list
theorem kjoin {o e : Expr} {to te : TE} {apos pos : Pos} (ho : PE X o to) (he : PE X e te) (hs : starEach [e] X.env = [(false, eval e X.env)] := by rfl) (hbase : attributeBase o "join" X.env (eval o X.env) = eval o X.env := by rfl) (hline : (apos.endLine == pos.line) = true := by rfl) (hK : X.K = K := by rfl) :
    PE X (.Call (.Attribute o "join" apos) [e] [] pos) (tM1 (fun x xs H Q => ∃ a p, ∃ ys : List Str, x = .str a ∧ xs = [.ref p] ∧ (SqL K H p (ys.map V.str) ∨ SqT K H p (ys.map V.str)) ∧
      (ys.map (·.length)).sum + ys.length * a.length ≤ 16777216 ∧ Q (.str (Txt.join a ys)) H) to te) := by
  subst hK; exact pe_join ho he hs hbase hline
theorem kbm {o e : Expr} {es : List Expr} {to : TE} {t : TA} {name : Str} {apos cpos : Pos} {T id : String} {r : V → List V → Hp → VK → Prop} (pa : PlainAttrs T) (slot : Slot T name id) (hty : typeOf (.builtin id) = pure (.type "method_descriptor")) (hm : MtR X id r) (ho : PE X o to) (ha : PA X (e :: es) t)
    (hbase : attributeBase o name X.env (eval o X.env) = eval o X.env := by rfl)
    (hfew : ((backTo cpos (starEach (e :: es) X.env)).all (fun x => !x.1) && (backToKw cpos (keywordEach [] X.env)).all (fun x => x.1.isSome)
      && decide ((e :: es).length + ([] : List Keyword).length + (if ([] : List Keyword).isEmpty then 0 else 1) < 30)) = true := by rfl)
    (hline : (apos.endLine == cpos.line) = true := by rfl) (hs : starEach (e :: es) X.env = (false, eval e X.env) :: starEach es X.env := by rfl) (hplain : (backTo cpos (starEach es X.env)).any (·.1) = false := by rfl) (hK : X.K = K := by rfl) :
    PE X (.Call (.Attribute o name apos) (e :: es) [] cpos) (tBM K T r to t) := by
  subst hK; exact pe_bm pa slot hty hm ho ha hbase hfew hline hs hplain
theorem kindex (hK : X.K = K := by rfl) : MtR X "list.index" (rIndex K) := by subst hK; exact mt_index
end
/-! ### readings of tuple(..), list(..) over data -/
theorem rd_tuple {K : PySem.W.Frag} {H : Hp} {x : V} {ds : List PyData} {Q : VK} (h : DpS K H x ds) (k : ∀ v H', Ex H H' → Dp K H' v (.tuple ds) → Q v H') : rTupS K [x] H Q := by
  obtain ⟨a, xs, rfl, s, d⟩ := dp_seq h
  unfold rTupS
  refine ⟨a, xs, rfl, ?_⟩
  rcases s with s | s
  · exact .inl ⟨s, fun l nl => k _ _ (Ex.new nl) (.tup (st_of upd_same) (dpa_ex (Ex.new nl) d))⟩
  · exact .inr ⟨s, k _ _ (Ex.refl _) (.tup s d)⟩
/-- a new list -/
theorem rd_list {K : PySem.W.Frag} {H : Hp} {x : V} {ds : List PyData} {Q : VK} (h : DpS K H x ds) (k : ∀ p ys H', H p = none → Ex H H' → H' p = some (.lst ys) → DpAll K H' ys ds → Q (.ref p) H') : rLstS K [x] H Q := by
  obtain ⟨a, xs, rfl, s, d⟩ := dp_seq h
  unfold rLstS
  exact ⟨a, xs, rfl, s, fun l nl => k _ _ _ nl (Ex.new nl) upd_same (dpa_ex (Ex.new nl) d)⟩
theorem rd_len {K : PySem.W.Frag} {H : Hp} {x : V} {ds : List PyData} {Q : VK} (h : DpS K H x ds) (k : Q (.int ds.length) H) : rLenS K [x] H Q := by
  obtain ⟨a, xs, rfl, s, d⟩ := dp_seq h
  refine ⟨a, xs, rfl, s, ?_⟩
  rw [d.len]
  exact k
theorem rd_listI {K : PySem.W.Frag} {H : Hp} {a : Addr} {xs : List V} {Q : VK} (h : SqS K H a xs) (k : ∀ p H', H p = none → Ex H H' → H' p = some (.lst xs) → Q (.ref p) H') : rLstS K [.ref a] H Q := by
  unfold rLstS
  exact ⟨a, xs, rfl, h, fun l nl => k _ _ nl (Ex.new nl) upd_same⟩
theorem rd_tupleI {K : PySem.W.Frag} {H : Hp} {a : Addr} {xs : List V} {Q : VK} (h : SqS K H a xs) (k : ∀ p H', Ex H H' → SqT K H' p xs → Q (.ref p) H') : rTupS K [.ref a] H Q := by
  unfold rTupS
  refine ⟨a, xs, rfl, ?_⟩
  rcases h with s | s
  · exact .inl ⟨s, fun l nl => k _ _ (Ex.new nl) (st_of upd_same)⟩
  · exact .inr ⟨s, k _ _ (Ex.refl _) s⟩
/-- a new tuple of a list -/
theorem rd_tupleN {K : PySem.W.Frag} {H : Hp} {a : Addr} {xs : List V} {Q : VK} (h : SqL K H a xs) (k : ∀ p H', H p = none → Ex H H' → H' p = some (.tup xs) → Q (.ref p) H') : rTupS K [.ref a] H Q := by
  unfold rTupS
  exact ⟨a, xs, rfl, .inl ⟨h, fun l nl => k _ _ nl (Ex.new nl) upd_same⟩⟩
end LG

set_option Elab.async false
set_option linter.all false
set_option maxRecDepth 100000
set_option maxHeartbeats 4000000
/-! The mirror's tables and the layer's. -/
namespace LG
open PySem PySem.Spec L2 Evl
open PyProof.Rows hiding St
section
variable {κ κ' α : Type} [DecidableEq κ] [DecidableEq κ']
theorem look_nil (k : κ) : look ([] : List (κ × α)) k = none := rfl
theorem look_cons (p : κ × α) (r : List (κ × α)) (k : κ) : look (p :: r) k = if p.1 = k then some p.2 else look r k := by
  unfold look
  rw [List.find?_cons]
  by_cases h : p.1 = k
  · simp [h]
  · simp [h]
theorem valV_conv (f : κ → κ') (hf : ∀ a b, f a = f b → a = b) (g : α → V) (k : κ) : ∀ kvs : List (κ × α), valV (kvs.map fun p => (f p.1, g p.2)) (f k) = (look kvs k).map g
  | [] => rfl
  | p :: r => by
    rw [look_cons, List.map_cons]
    by_cases h : p.1 = k
    · rw [if_pos h, valV_pos (p := (f p.1, g p.2)) (by rw [h])]
      rfl
    · rw [if_neg h, valV_neg (p := (f p.1, g p.2)) (fun e => h (hf _ _ e)), valV_conv f hf g k r]
theorem any_conv (f : κ → κ') (hf : ∀ a b, f a = f b → a = b) (g : α → V) (k : κ) (kvs : List (κ × α)) : ((kvs.map fun p => (f p.1, g p.2)).any fun kv => decide (kv.1 = f k)) = kvs.any fun kv => decide (kv.1 = k) := by
  rw [List.any_map]
  congr 1
  funext p
  show decide (f p.1 = f k) = decide (p.1 = k)
  by_cases h : p.1 = k
  · rw [h, decide_eq_true rfl, decide_eq_true rfl]
  · rw [decide_eq_false h, decide_eq_false fun e => h (hf _ _ e)]
theorem putK_conv (f : κ → κ') (hf : ∀ a b, f a = f b → a = b) (g : α → V) (k : κ) (v : α) (kvs : List (κ × α)) : putK (kvs.map fun p => (f p.1, g p.2)) (f k) (g v) = (put kvs k v).map fun p => (f p.1, g p.2) := by
  unfold putK put
  rw [any_conv f hf g]
  by_cases h : (kvs.any fun kv => decide (kv.1 = k)) = true
  · rw [if_pos h, if_pos h, List.map_map, List.map_map]
    refine List.map_congr_left fun p _ => ?_
    show (if f p.1 = f k then (f p.1, g v) else (f p.1, g p.2)) = (f (if p.1 = k then (p.1, v) else p).1, g (if p.1 = k then (p.1, v) else p).2)
    by_cases e : p.1 = k
    · rw [if_pos e, if_pos (by rw [e])]
    · rw [if_neg e, if_neg fun z => e (hf _ _ z)]
  · rw [if_neg h, if_neg h, List.map_append]
    rfl
theorem put_length (kvs : List (κ × α)) (k : κ) (v : α) : (put kvs k v).length ≤ kvs.length + 1 := by
  unfold put
  split
  · rw [List.length_map]; omega
  · rw [List.length_append]; simp
theorem look_put (kvs : List (κ × α)) (k j : κ) (v : α) : look (put kvs k v) j = if j = k then some v else look kvs j := by
  have any : ∀ kvs : List (κ × α), (kvs.any fun kv => decide (kv.1 = k)) = (look kvs k).isSome := by
    intro kvs
    induction kvs with
    | nil => rfl
    | cons p r ih =>
      rw [List.any_cons, look_cons, ih]
      by_cases h : p.1 = k
      · simp [h]
      · simp [h]
  unfold put
  by_cases h : (kvs.any fun kv => decide (kv.1 = k)) = true
  · rw [if_pos h]
    have h2 := any kvs ▸ h
    clear any
    induction kvs with
    | nil => simp at h
    | cons p r ih =>
      rw [List.map_cons, look_cons, look_cons]
      by_cases e : p.1 = k
      · simp only [if_pos e]
        by_cases ej : p.1 = j
        · rw [if_pos ej, if_pos (ej.symm.trans e)]
        · rw [if_neg ej, if_neg ej]
          by_cases hr : (r.any fun kv => decide (kv.1 = k)) = true
          · have q := ih hr (by
              have : (look r k).isSome = true := by
                have any2 : (r.any fun kv => decide (kv.1 = k)) = (look r k).isSome := by
                  clear ih h h2
                  induction r with
                  | nil => rfl
                  | cons p r ih =>
                    rw [List.any_cons, look_cons]
                    by_cases h : p.1 = k
                    · simp [h]
                    · simp only [h, decide_false, Bool.false_or, if_false]
                      exact ih (by simpa [h] using hr)
                rw [← any2]; exact hr
              exact this)
            exact q
          · have e2 : r.map (fun kv => if kv.1 = k then (kv.1, v) else kv) = r := by
              rw [List.map_congr_left (g := id), List.map_id]
              intro q hq
              have : ¬ q.1 = k := fun z => hr (List.any_eq_true.mpr ⟨q, hq, decide_eq_true z⟩)
              rw [if_neg this]; rfl
            rw [e2, if_neg fun z => ej (e.trans z.symm)]
      · simp only [if_neg e]
        have hr : (r.any fun kv => decide (kv.1 = k)) = true := by simpa [List.any_cons, e] using h
        have q := ih hr (by simpa [look_cons, e] using h2)
        by_cases ej : p.1 = j
        · rw [if_pos ej, if_pos ej, if_neg fun z => e (ej.trans z)]
        · rw [if_neg ej, if_neg ej, q]
  · rw [if_neg h]
    have h2 : (look kvs k).isSome = false := by rw [← any kvs]; exact eq_false_of_ne_true h
    have h3 : look kvs k = none := by simpa using h2
    clear any h h2
    induction kvs with
    | nil =>
      rw [List.nil_append, look_cons, look_nil]
      by_cases e : k = j
      · rw [if_pos e, if_pos e.symm]
      · rw [if_neg e, if_neg fun z => e z.symm]
    | cons p r ih =>
      rw [List.cons_append, look_cons, look_cons]
      rw [look_cons] at h3
      by_cases ep : p.1 = k
      · rw [if_pos ep] at h3; cases h3
      · rw [if_neg ep] at h3
        by_cases ej : p.1 = j
        · rw [if_pos ej, if_pos ej, if_neg fun z => ep (ej.trans z)]
        · rw [if_neg ej, if_neg ej, ih h3]
end
/-- a dict of ints under ints -/
def dk (m : List (Int × Int)) : List (Key × V) := m.map fun p => (Sum.inl p.1, V.int p.2)
theorem inl_inj : ∀ a b : Int, (Sum.inl a : Key) = Sum.inl b → a = b := fun _ _ h => Sum.inl.inj h
theorem dk_look (m : List (Int × Int)) (k : Int) : valV (dk m) (Sum.inl k) = (look m k).map V.int := valV_conv (κ' := Key) Sum.inl inl_inj V.int k m
theorem dk_put (m : List (Int × Int)) (k v : Int) : putK (dk m) (Sum.inl k) (.int v) = dk (put m k v) := putK_conv (κ' := Key) Sum.inl inl_inj V.int k v m
theorem dk_len (m : List (Int × Int)) : (dk m).length = m.length := by unfold dk; rw [List.length_map]
theorem merge_eq (ps acc : List (Int × Int)) : mergeK (dk acc) (dk ps) = dk (ps.foldl (fun acc p => put acc p.1 p.2) acc) := by
  induction ps generalizing acc with
  | nil => rfl
  | cons p r ih =>
    show mergeK (putK (dk acc) (Sum.inl p.1) (.int p.2)) (dk r) = _
    rw [dk_put, ih]
    rfl
theorem dk_merge (ps : List (Int × Int)) : mergeK [] (dk ps) = dk (merge ps) := merge_eq ps []
theorem merge_len (ps acc : List (Int × Int)) : (ps.foldl (fun acc p => put acc p.1 p.2) acc).length ≤ acc.length + ps.length := by
  induction ps generalizing acc with
  | nil => simp
  | cons p r ih =>
    have h1 := ih (put acc p.1 p.2)
    have h2 := put_length acc p.1 p.2
    rw [List.foldl_cons, List.length_cons]
    omega
theorem merge_length (ps : List (Int × Int)) : (merge ps).length ≤ ps.length := by
  have h := merge_len ps []
  simpa [merge] using h
theorem applyE_len (es : List Edit) (d : List (Int × Int)) : (applyE d es).length ≤ d.length + es.length := by
  induction es generalizing d with
  | nil => simp [applyE]
  | cons p r ih =>
    have h1 := ih (put d p.1 p.2.2)
    have h2 := put_length d p.1 p.2.2
    show (applyE (put d p.1 p.2.2) r).length ≤ _
    rw [List.length_cons]
    omega
theorem isort_length (l : List Int) : (isort l).length = l.length := by unfold isort; exact List.length_mergeSort l
theorem sov_length (d : List (Int × Int)) : (sov d).length ≤ d.length := by
  unfold sov
  rw [List.length_map]
  refine Nat.le_trans (List.length_filter_le _ _) ?_
  rw [isort_length, List.length_map]
  exact Nat.le_refl _
theorem edited_length (s : List (Int × Int)) (es : List Edit) : (editedM s es).length ≤ s.length + es.length := by
  have h1 := sov_length (applyE (merge s) es)
  have h2 := applyE_len es (merge s)
  have h3 := merge_length s
  unfold editedM
  omega
/-- the one sorted list -/
theorem isort_perm (l : List Int) : (isort l).Perm l := List.mergeSort_perm l _
theorem isort_sorted (l : List Int) : (isort l).Pairwise (· ≤ ·) := by
  have h := List.pairwise_mergeSort (le := fun a b : Int => decide (a ≤ b)) (fun a b c h1 h2 => decide_eq_true (Int.le_trans (of_decide_eq_true h1) (of_decide_eq_true h2))) (fun a b => by
    rcases Int.le_total a b with h | h
    · simp [h]
    · simp [h]) l
  exact h.imp fun h => of_decide_eq_true h
theorem sorted_one {l l' : List Int} (p : l.Perm l') (h : l.Pairwise (· ≤ ·)) (h' : l'.Pairwise (· ≤ ·)) : l = l' :=
  p.eq_of_pairwise (fun a b _ _ h1 h2 => Int.le_antisymm h1 h2) h h'
theorem isort_one {l l' : List Int} (p : l'.Perm l) (h : l'.Pairwise (· ≤ ·)) : l' = isort l := sorted_one (p.trans (isort_perm l).symm) h (isort_sorted l)
section
variable {K : PySem.W.Frag} {H : Hp}
theorem dpa_pairs : ∀ {s : List (Int × Int)} {vs : List V}, DpAll K H vs (s.map dPair) → ∃ ps : List Addr, vs = ps.map V.ref ∧ Paired (fun (p : Addr) (kv : Key × V) => SqT K H p [kV kv.1, kv.2]) ps (dk s)
  | [], _, h => by cases h; exact ⟨[], rfl, .nil⟩
  | p :: s, _, h => by
    cases h with
    | cons a b =>
      obtain ⟨ps, e, q⟩ := dpa_pairs b
      obtain ⟨x, u, v, rfl, t, h1, h2⟩ := dp_tup2 a
      rw [dp_int h1, dp_int h2] at t
      exact ⟨x :: ps, by rw [e]; rfl, .cons t q⟩
end
theorem dget_dk {H : Hp} {d : Addr} {m : List (Int × Int)} {k : Int} (h : H d = some (.dK (dk m))) : DGet H d (.int k) ((look m k).map V.int) := by
  rw [← dk_look]
  exact DGet.k (k := Sum.inl k) h
theorem getD_int (o : Option Int) (i : Int) : (o.map V.int).getD (V.int i) = V.int (o.getD i) := by cases o <;> rfl
theorem unfit_cons (s : List (Int × Int)) (e : Edit) (es : List Edit) : unfitM s (e :: es) = if (look (merge s) e.1).getD 0 = e.2.1 then unfitM s es else some e.1 := by
  unfold unfitM
  rw [List.find?_cons]
  by_cases h : (look (merge s) e.1).getD 0 = e.2.1
  · rw [decide_eq_true h, if_pos h]
    rfl
  · rw [decide_eq_false h, if_neg h]
    rfl
theorem ndec_int {a b : Int} (h : (!decide (V.int a = V.int b)) = true) : ¬ a = b := fun e => by rw [e] at h; simp at h
theorem ndec_int' {a b : Int} (h : ¬ (!decide (V.int a = V.int b)) = true) : a = b := by
  by_cases e : a = b
  · exact e
  · exfalso
    refine h ?_
    rw [decide_eq_false fun z => e (V.int.inj z)]
    rfl
def vOpt : Option Int → V
  | none => .non
  | some i => .int i
theorem sheetM_len (chs : List Chg) (row : List Int) : (sheetM chs row).length ≤ wtE chs row := by
  have h : ∀ (row : List Int) (s : List (Int × Int)), (row.foldl (fun s n => editedM s (getC chs n).edits) s).length ≤ s.length + wtE chs row := by
    intro row
    induction row with
    | nil => intro s; simp [wtE]
    | cons n r ih =>
      intro s
      have h1 := ih (editedM s (getC chs n).edits)
      have h2 := edited_length s (getC chs n).edits
      have e : wtE chs (n :: r) = (getC chs n).edits.length + wtE chs r := by simp [wtE]
      rw [List.foldl_cons]
      omega
  have := h row []
  simpa [sheetM] using this
theorem flat_ints (ns : List Int) : (ns.map V.int).all flatV = true := by
  rw [List.all_eq_true]
  intro x hx
  obtain ⟨n, _, rfl⟩ := List.mem_map.mp hx
  rfl
theorem inV_ints (n : Int) (ns : List Int) : inV (.int n) (ns.map V.int) = decide (n ∈ ns) := by
  unfold inV
  rw [List.any_map]
  rw [Bool.eq_iff_iff, List.any_eq_true, decide_eq_true_iff]
  constructor
  · rintro ⟨m, hm, h⟩
    have e : m = n := by
      have h' : (eqV (.int m) (.int n)) = true := h
      simpa [eqV] using h'
    rw [← e]; exact hm
  · intro h
    exact ⟨n, h, by show eqV (.int n) (.int n) = true; simp [eqV]⟩
theorem idx_first (k : Int) : ∀ ns : List Int, k ∈ ns → ns[ns.idxOf k]? = some k ∧ (∀ m : Nat, m < ns.idxOf k → ns[m]? ≠ some k) ∧ ns.eraseIdx (ns.idxOf k) = ns.erase k
  | [], h => by cases h
  | a :: r, h => by
    by_cases e : a = k
    · subst e
      rw [List.idxOf_cons_self]
      refine ⟨rfl, fun m hm => absurd hm (Nat.not_lt_zero _), ?_⟩
      simp
    · have hr : k ∈ r := by
        rcases List.mem_cons.mp h with h | h
        · exact absurd h.symm e
        · exact h
      obtain ⟨h1, h2, h3⟩ := idx_first k r hr
      have ei : (a :: r).idxOf k = r.idxOf k + 1 := by
        rw [List.idxOf_cons, show (a == k) = false from beq_eq_false_iff_ne.mpr e]; rfl
      rw [ei]
      refine ⟨by simpa using h1, fun m hm => ?_, ?_⟩
      · cases m with
        | zero => intro z; simp at z; exact e z
        | succ m => simpa using h2 m (by omega)
      · rw [List.eraseIdx_cons_succ, h3, List.erase_cons_tail]
        simpa using e
@[irreducible] def rRem : V → List V → Hp → VK → Prop := rRemI
theorem kremove {X : Cx} : MtR X "list.remove" rRem := by unfold rRem; exact mt_remove
/-- xs.remove(k), there -/
theorem rd_remove {H : Hp} {l : Addr} {ns : List Int} {k : Int} {Q : VK} (h : H l = some (.lst (ns.map V.int))) (hk : k ∈ ns) (q : Q .non (upd H l (.lst ((ns.erase k).map V.int)))) : rRem (.ref l) [.int k] H Q := by
  obtain ⟨h1, h2, h3⟩ := idx_first k ns hk
  unfold rRem
  exact ⟨l, ns, k, ns.idxOf k, rfl, rfl, h, h1, h2, by rw [h3]; exact q⟩
theorem fm_if {α β : Type} (p : α → Bool) (g : α → β) : ∀ l : List α, l.filterMap (fun n => if p n = true then some (g n) else none) = (l.filter p).map g
  | [] => rfl
  | a :: r => by
    rw [List.filterMap_cons, List.filter_cons]
    by_cases h : p a = true
    · simp only [if_pos h, List.map_cons, fm_if p g r]
    · simp only [if_neg h, fm_if p g r]
@[irreducible] def rSrt (K : PySem.W.Frag) : List V → Hp → VK → Prop := rSortedI K
theorem ksort {X : Cx} (K : PySem.W.Frag) (hK : X.K = K := by rfl) : CallR X (.builtin "sorted") (rSrt K) := by unfold rSrt; exact ksorted K hK
/-- sorted(xs), ints -/
theorem rd_sorted {K : PySem.W.Frag} {H : Hp} {a : Addr} {ns : List Int} {Q : VK} (h : SqL K H a (ns.map V.int)) (k : ∀ p H', H p = none → Ex H H' → H' p = some (.lst ((isort ns).map V.int)) → Q (.ref p) H') : rSrt K [.ref a] H Q := by
  unfold rSrt
  refine ⟨a, ns, rfl, h, fun ns' p hp hs np => ?_⟩
  rw [isort_one hp hs]
  exact k _ _ np (Ex.new np) upd_same
/-- if a and b, if a or b: both answers known at once -/
theorem if_and {t u : TT} {X Y : L2.TS} {D : Ends} {σ : L2.St} {H : Hp} (p q : Bool) (h1 : ∀ Q : Bool → Hp → Prop, Q p H → t σ H Q) (h2 : p = true → ∀ Q : Bool → Hp → Prop, Q q H → u σ H Q) (k : if (p && q) = true then X D σ H else Y D σ H) : tIfS (tAnd t u) X Y D σ H := by
  refine h1 _ ?_
  cases p with
  | true => exact iteT (h2 rfl _ k)
  | false => exact iteF k
theorem if_or {t u : TT} {X Y : L2.TS} {D : Ends} {σ : L2.St} {H : Hp} (p q : Bool) (h1 : ∀ Q : Bool → Hp → Prop, Q p H → t σ H Q) (h2 : p = false → ∀ Q : Bool → Hp → Prop, Q q H → u σ H Q) (k : if (p || q) = true then X D σ H else Y D σ H) : tIfS (tOr t u) X Y D σ H := by
  refine h1 _ ?_
  cases p with
  | true => exact iteT k
  | false => exact iteF (h2 rfl _ k)
end LG

set_option Elab.async false
set_option linter.all false
set_option maxRecDepth 100000
set_option maxHeartbeats 4000000
namespace LG
open PySem PySem.Spec L2 Evl
open PyProof.Rows hiding St
variable {P : Program} {w : World} {K : PySem.W.Frag} {mg : Str → Option Value} {base : Heap}

def sp_unfit (K : PySem.W.Frag) : Sp := fun vs H Q _ => ∃ x y s es, vs = [x, y] ∧ Dp K H x (.list (s.map dPair)) ∧ Dp K H y (.list (es.map dEdit)) ∧ ∀ H', Ex H H' → Q (vOpt (unfitM s es)) H'
abbrev N_unfit : List Str := ["sheet", "edits", "values", "slot", "old", "new"]
theorem sc_unfit : FnScope N_unfit ["sheet", "edits"] (defScope s_unfit) := ⟨rfl, rfl, rfl, by decide +kernel, rfl, by decide +kernel, by decide +kernel⟩
-- slots: 0:sheet 1:edits 2:values 3:slot 4:old 5:new
theorem ok_unfit (T : Tx K mg) : Ok P w K mg base 1 ("unfit", none) ["sheet", "edits"] (sp_unfit K) := by
  refine T.ok 1 rfl (N := N_unfit) rfl rfl sc_unfit (fun vs H Q E h => ?_) (fun _ _ _ _ _ _ us hl => match us, hl with | [_, _], _ => rfl) (fun cdv A outer s H vs Q E hr h => ?_)
  · obtain ⟨_, _, _, _, rfl, _⟩ := h
    rfl
  have hu := hu_of hr
  obtain ⟨x, y, s, es, rfl, hx, hy, k⟩ := h
  obtain ⟨a, xs, rfl, sa, da⟩ := dp_lst hx
  obtain ⟨b, ys, rfl, sb, db⟩ := dp_lst hy
  obtain ⟨ps, rfl, pr⟩ := dpa_pairs da
  refine ⟨_, (pss_cons (ps_set (i := 2) sc_unfit.nd rfl (by first | exact Or.inl rfl | exact Or.inr rfl) (pe_callTy (kdictP K) (by rfl) T.b_dict (by decide +kernel) (pa_cons (pv 0) pa_nil)))
 (pss_cons (ps_for (passes_of rfl) rfl (kseq K (pv 1)) (ktup K 3 (pgs_cons (pg_name (i := 3) sc_unfit.nd rfl (by first | exact Or.inl rfl | exact Or.inr rfl)) (pgs_cons (pg_name (i := 4) sc_unfit.nd rfl (by first | exact Or.inl rfl | exact Or.inr rfl)) (pgs_cons (pg_name (i := 5) sc_unfit.nd rfl (by first | exact Or.inl rfl | exact Or.inr rfl)) pgs_nil))))
  (pss_one (ps_if (pt_cmpR op_ne (pe_dget2 hu (pv 2) (pv 3) pe_int ⟨rfl, rfl, rfl, rfl⟩) (pv 4) (nomark _)) (pss_one (ps_ret (pv 3))) pss_nil)))
 (pss_one (ps_ret pe_non)))), ?_⟩
  refine ⟨_, rfl, a, ps, _, rfl, sa, pr, fun d hd => ?_⟩
  rw [dk_merge]
  have e1 : Ex H (upd H d (.dK (dk (merge s)))) := Ex.new hd
  refine ⟨_, rfl, for_s ys es (by rw [db.len, List.length_map]) (fun done todo σ' H' => ∃ v3 v4 v5, σ' = [some (.ref a), some (.ref b), some (.ref d), v3, v4, v5] ∧ H' = upd H d (.dK (dk (merge s))) ∧ unfitM s es = unfitM s todo)
    (HB := H) (.inl sb) ⟨none, none, none, rfl, rfl, rfl⟩ ?_ ?_ ?_⟩
  · rintro done todo σ' H' hd ⟨_, _, _, _, rfl, _⟩
    exact stays_ex e1
  · rintro done ⟨sl, old, new⟩ todo v σ' H' he hv hdd ⟨v3, v4, v5, rfl, rfl, hf⟩
    have q := dp_ex e1 (db.get hv (by rw [List.getElem?_map, hdd]; rfl))
    obtain ⟨t, u1, u2, u3, rfl, ht, h1, h2, h3⟩ := dp_tup3 q
    rw [dp_int h1, dp_int h2, dp_int h3] at ht
    refine ⟨t, _, rfl, ht, rfl, _, _, rfl, _, _, rfl, _, _, rfl, rfl, ?_⟩
    refine ⟨_, rfl, d, rfl, .inl ⟨_, .inl upd_same⟩, _, rfl, _, dget_dk upd_same, ?_⟩
    rw [getD_int]
    refine ⟨_, rfl, rfl, _, rfl, ?_⟩
    rw [unfit_cons] at hf
    refine ite2 (fun c => ?_) (fun c => ?_)
    · rw [if_neg (ndec_int c)] at hf
      rw [hf] at k
      exact ⟨_, rfl, k _ e1⟩
    · rw [if_pos (ndec_int' c)] at hf
      exact ⟨_, _, _, rfl, rfl, hf⟩
  · rintro σ' H' ⟨v3, v4, v5, rfl, rfl, hf⟩
    rw [show unfitM s [] = none from rfl] at hf
    rw [hf] at k
    exact k _ e1
def sp_sheet_of_values (K : PySem.W.Frag) : Sp := fun vs H Q _ => ∃ d m, vs = [.ref d] ∧ H d = some (.dK (dk m)) ∧ m.length < 64 ∧ ∀ p xs H', H p = none → Ex H H' → H' p = some (.lst xs) → DpAll K H' xs ((sov m).map dPair) → Q (.ref p) H'
abbrev N_sheet_of_values : List Str := ["values", "slot"]
theorem sc_sheet_of_values : FnScope N_sheet_of_values ["values"] (defScope s_sheet_of_values) := ⟨rfl, rfl, rfl, by decide +kernel, rfl, by decide +kernel, by decide +kernel⟩
-- slots: 0:values 1:slot
theorem ok_sheet_of_values (T : Tx K mg) : Ok P w K mg base 1 ("sheet_of_values", none) ["values"] (sp_sheet_of_values K) := by
  refine T.ok 0 rfl (N := N_sheet_of_values) rfl rfl sc_sheet_of_values (fun vs H Q E h => ?_) (fun _ _ _ _ _ _ us hl => match us, hl with | [_], _ => rfl) (fun cdv A outer s H vs Q E hr h => ?_)
  · obtain ⟨_, _, rfl, _⟩ := h
    rfl
  have hu := hu_of hr
  obtain ⟨d, m, rfl, hd, hm, k⟩ := h
  refine ⟨_, (pss_one (ps_ret (pe_lc (own := [("slot", 1)]) (by rfl) sc_sheet_of_values.nd (kseq K (pe_callB (call_sortedDI rfl) (by rfl) T.b_sorted (by decide +kernel) (pa_cons (pv 0) pa_nil))) (blkOk_by (N := N_sheet_of_values) (sc := defScope s_sheet_of_values) (by decide +kernel)) (fun _ _ _ _ _ => (pg_name (i := 1) sc_sheet_of_values.nd rfl (by first | exact Or.inl rfl | exact Or.inr rfl))) (fun _ _ _ _ _ => (pts_one (pt_cmpR op_gt (pe_dget hu (pv 0) (pv 1) (fun _ _ => rfl)) pe_int (nomark _)))) (fun _ _ _ _ _ => (pe_tup (pa_cons (pv 1) (pa_cons (pe_dget hu (pv 0) (pv 1) (fun _ _ => rfl)) pa_nil))))))), ?_⟩
  refine ⟨_, rfl, d, dk m, m.map (·.1), rfl, .inl hd, by unfold dk; rw [List.map_map, List.map_map]; rfl, by rw [List.length_map]; exact hm, fun ys p hp hs np => ?_⟩
  rw [isort_one hp hs]
  have e1 : Ex H (upd H p (.lst ((isort (m.map (·.1))).map V.int))) := Ex.new np
  have hlen : (isort (m.map (·.1))).length = m.length := by rw [isort_length, List.length_map]
  refine lc_d (K := K) ((isort (m.map (·.1))).map V.int) (isort (m.map (·.1))) (fun k => if 0 < (look m k).getD 0 then some (dPair (k, (look m k).getD 0)) else none) (by rw [List.length_map]) (by omega) (.inl (sq_of upd_same)) ?_ ?_ ?_
  · intro q e he
    split at he
    · cases he; rfl
    · cases he
  · intro n v H' Yes No e hn i hv hi yes no
    have hd' : H' d = some (.dK (dk m)) := e d _ (e1 d _ hd)
    rw [List.getElem?_map, hi] at hv
    cases hv
    have hin : n ∈ m.map (·.1) := (isort_perm _).mem_iff.mp hn
    have hsome : ∃ z, look m n = some z := by
      obtain ⟨q, hq, hqn⟩ := List.mem_map.mp hin
      unfold look
      cases hf : m.find? (fun kv => decide (kv.1 = n)) with
      | none => exact absurd (decide_eq_true hqn) (by simpa using List.find?_eq_none.mp hf q hq)
      | some z => exact ⟨_, rfl⟩
    obtain ⟨z, hz⟩ := hsome
    have hg : DGet H' d (.int n) (some (V.int z)) := by
      have := dget_dk (k := n) hd'
      rw [hz] at this
      exact this
    rw [hz] at yes no
    refine ⟨rfl, _, rfl, _, rfl, d, _, rfl, hg, _, _, rfl, rfl, _, rfl, ?_⟩
    refine ite2 (fun c => ?_) (fun c => ?_)
    · have c' := of_decide_eq_true c
      refine ⟨_, rfl, _, rfl, _, rfl, d, _, rfl, hg, by show 2 ≤ sizeLine; decide, fun t nt => ?_⟩
      exact yes _ _ _ (Ex.new nt) (if_pos c') (.tup (st_of upd_same) (.cons (.int _) (.cons (.int _) .nil)))
    · exact no _ (Ex.refl _) (if_neg fun z => c (decide_eq_true z))
  · intro L ys H' nL e hL hp
    refine k _ _ _ (fresh_back e1 nL) (e1.trans e) hL ?_
    have e2 : (isort (m.map (·.1))).filterMap (fun k => if 0 < (look m k).getD 0 then some (dPair (k, (look m k).getD 0)) else none) = (sov m).map dPair := by
      unfold sov
      rw [List.map_map]
      generalize isort (m.map (·.1)) = l
      induction l with
      | nil => rfl
      | cons a r ih =>
        rw [List.filterMap_cons, List.filter_cons]
        by_cases h : 0 < (look m a).getD 0
        · simp only [if_pos h, decide_eq_true h, if_true, List.map_cons, ih]
          rfl
        · simp only [if_neg h, decide_eq_false h, ih]
          rfl
    rw [← e2]
    exact hp
def sp_edited (K : PySem.W.Frag) : Sp := fun vs H Q _ => ∃ x y s es, vs = [x, y] ∧ Dp K H x (.list (s.map dPair)) ∧ Dp K H y (.list (es.map dEdit)) ∧ unfitM s es = none ∧ s.length + es.length < 64 ∧ ∀ p xs H', H p = none → Ex H H' → H' p = some (.lst xs) → DpAll K H' xs ((editedM s es).map dPair) → Q (.ref p) H'
abbrev N_edited : List Str := ["sheet", "edits", "wrong", "values", "slot", "old", "new"]
theorem sc_edited : FnScope N_edited ["sheet", "edits"] (defScope s_edited) := ⟨rfl, rfl, rfl, by decide +kernel, rfl, by decide +kernel, by decide +kernel⟩
-- slots: 0:sheet 1:edits 2:wrong 3:values 4:slot 5:old 6:new
theorem ok_edited (T : Tx K mg) : Ok P w K mg base 2 ("edited", none) ["sheet", "edits"] (sp_edited K) := by
  refine T.ok 2 rfl (N := N_edited) rfl rfl sc_edited (fun vs H Q E h => ?_) (fun _ _ _ _ _ _ us hl => match us, hl with | [_, _], _ => rfl) (fun cdv A outer s H vs Q E hr h => ?_)
  · obtain ⟨_, _, _, _, rfl, _⟩ := h
    rfl
  have hu := hu_of hr
  obtain ⟨x, y, s, es, rfl, hx, hy, hf, hz, k⟩ := h
  refine ⟨_, (pss_cons (ps_set (i := 2) sc_edited.nd rfl (by first | exact Or.inl rfl | exact Or.inr rfl) (pe_f (ok_unfit T) hr T.g_unfit passL (pa_cons (pv 0) (pa_cons (pv 1) pa_nil))))
 (pss_cons (ps_if (pt_cmpR op_notN (pv 2) pe_non (nomark _)) (pss_one ps_never) pss_nil)
 (pss_cons (ps_set (i := 3) sc_edited.nd rfl (by first | exact Or.inl rfl | exact Or.inr rfl) (pe_callTy (kdictP K) (by rfl) T.b_dict (by decide +kernel) (pa_cons (pv 0) pa_nil)))
 (pss_cons (ps_for (passes_of rfl) rfl (kseq K (pv 1)) (ktup K 3 (pgs_cons (pg_name (i := 4) sc_edited.nd rfl (by first | exact Or.inl rfl | exact Or.inr rfl)) (pgs_cons (pg_name (i := 5) sc_edited.nd rfl (by first | exact Or.inl rfl | exact Or.inr rfl)) (pgs_cons (pg_name (i := 6) sc_edited.nd rfl (by first | exact Or.inl rfl | exact Or.inr rfl)) pgs_nil))))
  (pss_one (ps_dput hu (pv 3) (pv 4) (pv 6) rfl)))
 (pss_one (ps_ret (pe_f (ok_sheet_of_values T) hr T.g_sheet_of_values passL (pa_cons (pv 3) pa_nil)))))))), ?_⟩
  refine ⟨_, rfl, _, rfl, x, y, s, es, rfl, hx, hy, fun H1 e1 => ?_⟩
  rw [hf]
  refine ⟨_, rfl, rfl, _, rfl, iteF ?_⟩
  obtain ⟨a, xs, rfl, sa, da⟩ := dp_lst hx
  obtain ⟨b, ys, rfl, sb, db⟩ := dp_lst hy
  obtain ⟨ps, rfl, pr⟩ := dpa_pairs (dpa_ex e1 da)
  refine ⟨_, rfl, a, ps, _, rfl, ex_l e1 sa, pr, fun d hd => ?_⟩
  rw [dk_merge]
  have nd : H d = none := fresh_back e1 hd
  have e2 : Ex H (upd H1 d (.dK (dk (merge s)))) := e1.trans (Ex.new hd)
  refine ⟨_, rfl, for_s ys es (by rw [db.len, List.length_map]) (fun done todo σ' H' => ∃ v4 v5 v6, σ' = [some (.ref a), some (.ref b), some .non, some (.ref d), v4, v5, v6] ∧ H' = upd H1 d (.dK (dk (applyE (merge s) done))))
    (HB := H) (.inl sb) ⟨none, none, none, rfl, rfl⟩ ?_ ?_ ?_⟩
  · rintro done todo σ' H' _ ⟨_, _, _, _, rfl⟩
    exact stays_ex (Ex.mut e1 nd)
  · rintro done ⟨sl, old, new⟩ todo v σ' H' he hv hdd ⟨v4, v5, v6, rfl, rfl⟩
    have e3 : Ex H (upd H1 d (.dK (dk (applyE (merge s) done)))) := Ex.mut e1 nd
    have q := dp_ex e3 (db.get hv (by rw [List.getElem?_map, hdd]; rfl))
    obtain ⟨t, u1, u2, u3, rfl, ht, h1, h2, h3⟩ := dp_tup3 q
    rw [dp_int h1, dp_int h2, dp_int h3] at ht
    refine ⟨t, _, rfl, ht, rfl, _, _, rfl, _, _, rfl, _, _, rfl, rfl, ?_⟩
    have hl := applyE_len done (merge s)
    have hl2 := merge_length s
    have hl3 : done.length < es.length := (List.getElem?_eq_some_iff.mp hdd).1
    refine ⟨_, rfl, _, rfl, _, rfl, d, _, rfl, DPut.k (k := Sum.inl sl) upd_same (by rw [dk_len, sizeLine_eq]; omega), _, _, _, rfl, ?_⟩
    rw [upd_upd, dk_put]
    congr 2
    show dk (put (applyE (merge s) done) sl new) = dk (applyE (merge s) (done ++ [(sl, old, new)]))
    unfold applyE
    rw [List.foldl_append]
    rfl
  · rintro σ' H' ⟨v4, v5, v6, rfl, rfl⟩
    have hl := applyE_len es (merge s)
    have hl2 := merge_length s
    refine ⟨_, rfl, d, _, rfl, upd_same, by omega, fun p xs H' np e3 hp hv => k p xs H' (fresh_back (Ex.mut e1 nd) np) ((Ex.mut e1 nd).trans e3) hp hv⟩
end LG

set_option Elab.async false
set_option linter.all false
set_option maxRecDepth 100000
set_option maxHeartbeats 4000000
namespace LG
open PySem PySem.Spec L2 Evl
open PyProof.Rows hiding St
variable {P : Program} {w : World} {K : PySem.W.Frag} {mg : Str → Option Value} {base : Heap}

theorem at_ix {xs : List V} {z : Int} {j : Nat} {v : V} (e : z = (j : Int)) (h : xs[j]? = some v) : atI xs z = some v := by
  rw [e]
  exact atI_nat h
theorem dt {p : Prop} [Decidable p] (h : decide p = true) : p := of_decide_eq_true h
theorem df {p : Prop} [Decidable p] (h : ¬ decide p = true) : ¬ p := fun z => h (decide_eq_true z)
def sp_are_rising (K : PySem.W.Frag) : Sp := fun vs H Q _ => ∃ x ns lo hi, vs = [x, .int lo, .int hi] ∧ DpS K H x (ns.map PyData.int) ∧ Q (.bl (areRising ns lo hi)) H
abbrev N_are_rising : List Str := ["numbers", "least", "most", "last", "number"]
theorem sc_are_rising : FnScope N_are_rising ["numbers", "least", "most"] (defScope s_are_rising) := ⟨rfl, rfl, rfl, by decide +kernel, rfl, by decide +kernel, by decide +kernel⟩
-- slots: 0:numbers 1:least 2:most 3:last 4:number
theorem ok_are_rising (T : Tx K mg) : Ok P w K mg base 1 ("are_rising", none) ["numbers", "least", "most"] (sp_are_rising K) := by
  refine T.ok 3 rfl (N := N_are_rising) rfl rfl sc_are_rising (fun vs H Q E h => ?_) (fun _ _ _ _ _ _ us hl => match us, hl with | [_, _, _], _ => rfl) (fun cdv A outer s H vs Q E hr h => ?_)
  · obtain ⟨_, _, _, _, rfl, _⟩ := h
    rfl
  have hu := hu_of hr
  obtain ⟨x, ns, lo, hi, rfl, hx, k⟩ := h
  obtain ⟨a, xs, rfl, sa, da⟩ := dp_seq hx
  have ex := dpa_ints da
  refine ⟨_, (pss_cons (ps_set (i := 3) sc_are_rising.nd rfl (by first | exact Or.inl rfl | exact Or.inr rfl) (pe_op op_sub (pv 1) pe_int))
 (pss_cons (ps_for (passes_of rfl) rfl (kseq K (pv 0)) (pg_name (i := 4) sc_are_rising.nd rfl (by first | exact Or.inl rfl | exact Or.inr rfl))
  (pss_cons (ps_if (PW.pt (pw_or (pt_cmpR op_le (pv 4) (pv 3) (nomark _)) (pw_or1 (pt_cmpR op_gt (pv 4) (pv 2) (nomark _))))) (pss_one (ps_ret pe_bl)) pss_nil)
 (pss_one (ps_set (i := 3) sc_are_rising.nd rfl (by first | exact Or.inl rfl | exact Or.inr rfl) (pv 4)))))
 (pss_one (ps_ret pe_bl)))), ?_⟩
  refine ⟨_, rfl, _, _, rfl, rfl, ?_⟩
  refine ⟨_, rfl, for_s xs ns (by rw [ex, List.length_map]) (fun done todo σ' H' => ∃ last v4, σ' = [some (.ref a), some (.int lo), some (.int hi), some (.int last), v4] ∧ H' = H ∧ areRising ns lo hi = risingM todo last hi) sa ⟨_, _, rfl, rfl, rfl⟩ ?_ ?_ ?_⟩
  · rintro done todo σ' H' hd ⟨_, _, _, rfl, _⟩
    exact stays_ex (Ex.refl _)
  · rintro done n todo v σ' H' he hv hdd ⟨last, v4, rfl, rfl, hf⟩
    rw [ex, List.getElem?_map, hdd] at hv
    cases hv
    refine ⟨_, rfl, _, rfl, _, _, rfl, rfl, _, rfl, ?_⟩
    unfold risingM at hf
    refine ite2 (fun c => ?_) (fun c => ?_)
    · rw [if_pos (Or.inl (dt c))] at hf
      rw [hf] at k
      exact iteT k
    · refine ⟨_, rfl, _, rfl, _, _, rfl, rfl, _, rfl, ?_⟩
      refine ite2 (fun c2 => ?_) (fun c2 => ?_)
      · rw [if_pos (Or.inr (dt c2))] at hf
        rw [hf] at k
        exact k
      · rw [if_neg (fun z => z.elim (df c) (df c2))] at hf
        exact ⟨_, rfl, _, _, rfl, rfl, hf⟩
  · rintro σ' H' ⟨last, v4, rfl, rfl, hf⟩
    rw [show risingM [] last hi = true from rfl] at hf
    rw [hf] at k
    exact k
def sp_are_edits (K : PySem.W.Frag) : Sp := fun vs H Q _ => ∃ x es, vs = [x] ∧ DpS K H x (es.map dEdit) ∧ es.length < 1000000 ∧ ∀ H', Ex H H' → Q (.bl (areEdits es)) H'
abbrev N_are_edits : List Str := ["edits", "slot", "old", "new", "edit"]
theorem sc_are_edits : FnScope N_are_edits ["edits"] (defScope s_are_edits) := ⟨rfl, rfl, rfl, by decide +kernel, rfl, by decide +kernel, by decide +kernel⟩
-- slots: 0:edits 1:slot 2:old 3:new 4:edit
theorem ok_are_edits (T : Tx K mg) : Ok P w K mg base 2 ("are_edits", none) ["edits"] (sp_are_edits K) := by
  refine T.ok 4 rfl (N := N_are_edits) rfl rfl sc_are_edits (fun vs H Q E h => ?_) (fun _ _ _ _ _ _ us hl => match us, hl with | [_], _ => rfl) (fun cdv A outer s H vs Q E hr h => ?_)
  · obtain ⟨_, _, rfl, _⟩ := h
    rfl
  obtain ⟨uEDITS, gEDITS, rEDITS⟩ := T.i_EDITS
  obtain ⟨uSLOTS, gSLOTS, rSLOTS⟩ := T.i_SLOTS
  obtain ⟨uGREATEST, gGREATEST, rGREATEST⟩ := T.i_GREATEST
  have hu := hu_of hr
  obtain ⟨x, es, rfl, hx, hz, k⟩ := h
  obtain ⟨a, xs, rfl, sa, da⟩ := dp_seq hx
  have hl : xs.length = es.length := by rw [da.len, List.length_map]
  refine ⟨_, (pss_cons (ps_if (PW.pt (pw_or (pt_cmpR op_gt (pe_callB (klen K) (by rfl) T.b_len (by decide +kernel) (pa_cons (pv 0) pa_nil)) (pe_glob rfl gEDITS rEDITS) (nomark _)) (pw_or1 (pt_not (pt_val (pe_f (ok_are_rising T) hr T.g_are_rising passL (pa_cons (pe_lc (own := [("edit", 4)]) (tt := tYes) (by rfl) sc_are_edits.nd (kseq K (pv 0)) (blkOk_by (N := N_are_edits) (sc := defScope s_are_edits) (by decide +kernel)) (fun _ _ _ _ _ => (pg_name (i := 4) sc_are_edits.nd rfl (by first | exact Or.inl rfl | exact Or.inr rfl))) (fun _ _ _ _ _ => pts_nil) (fun _ _ _ _ _ => (pe_ix (kixt K) (pv 4) pe_int (fun _ _ => rfl)))) (pa_cons pe_int (pa_cons (pe_op op_sub (pe_glob rfl gSLOTS rSLOTS) pe_int) pa_nil))))))))) (pss_one (ps_ret pe_bl)) pss_nil)
 (pss_cons (ps_for (passes_of rfl) rfl (kseq K (pv 0)) (ktup K 3 (pgs_cons (pg_name (i := 1) sc_are_edits.nd rfl (by first | exact Or.inl rfl | exact Or.inr rfl)) (pgs_cons (pg_name (i := 2) sc_are_edits.nd rfl (by first | exact Or.inl rfl | exact Or.inr rfl)) (pgs_cons (pg_name (i := 3) sc_are_edits.nd rfl (by first | exact Or.inl rfl | exact Or.inr rfl)) pgs_nil))))
  (pss_one (ps_if (PW.pt (pw_or (pt_cmpR op_eq (pv 2) (pv 3) (nomark _)) (pw_or (pt_cmpR op_lt (pe_callB (call_min2 rfl) (by rfl) T.b_min (by decide +kernel) (pa_cons (pv 2) (pa_cons (pv 3) pa_nil))) pe_int (nomark _)) (pw_or1 (pt_cmpR op_gt (pe_callB (call_max2 rfl) (by rfl) T.b_max (by decide +kernel) (pa_cons (pv 2) (pa_cons (pv 3) pa_nil))) (pe_glob rfl gGREATEST rGREATEST) (nomark _)))))) (pss_one (ps_ret pe_bl)) pss_nil)))
 (pss_one (ps_ret pe_bl)))), ?_⟩
  refine ⟨_, rfl, a, xs, rfl, sa, _, _, rfl, rfl, _, rfl, ?_⟩
  refine ite2 (fun c => ?_) (fun c => ?_)
  · refine iteT ?_
    have e : areEdits es = false := by
      unfold areEdits
      rw [hl] at c
      rw [c]
      rfl
    rw [e] at k
    exact k _ (Ex.refl _)
  · have hlen : ¬ (20 : Int) < (es.length : Int) := by rw [← hl]; exact df c
    refine ⟨_, rfl, lc_y (K := K) xs es (fun e => .int e.1) hl hz sa (fun d => rfl) ?_ ?_⟩
    · rintro ⟨sl, old, new⟩ v H' Yes e hd i hv hi yes
      have q := dp_ex e (da.get hv (by rw [List.getElem?_map, hi]; rfl))
      obtain ⟨t, u1, u2, u3, rfl, ht, h1, h2, h3⟩ := dp_tup3 q
      rw [dp_int h1, dp_int h2, dp_int h3] at ht
      refine ⟨rfl, _, rfl, t, _, _, _, rfl, rfl, ht, at_ix (j := 0) rfl rfl, ?_⟩
      exact yes _ _ (Ex.refl _) (.int _)
    · intro L ys H' nL e hL hp
      have ey : es.map (fun e => PyData.int e.1) = (es.map (·.1)).map PyData.int := by
        rw [List.map_map]
        rfl
      rw [ey] at hp
      refine ⟨_, _, rfl, rfl, .ref L, es.map (·.1), _, _, rfl, .inl (.lst (sq_of hL) hp), _, rfl, ?_⟩
      have e1 : ∀ b, areRising (es.map (·.1)) 0 (1000 - 1) = b → areEdits es = (b && es.all editOk) := fun b h => by
        unfold areEdits
        rw [h, decide_eq_false hlen]
        cases b <;> rfl
      cases hb : areRising (es.map (·.1)) 0 (1000 - 1) with
      | false =>
        refine iteT ?_
        rw [e1 _ hb] at k
        exact k _ e
      | true =>
        refine iteF ?_
        rw [e1 _ hb] at k
        refine ⟨_, rfl, for_s xs es hl (fun done todo σ' H2 => ∃ v1 v2 v3 v4, σ' = [some (.ref a), v1, v2, v3, v4] ∧ H2 = H' ∧ es.all editOk = todo.all editOk) (HB := H) sa ⟨_, _, _, _, rfl, rfl, rfl⟩ ?_ ?_ ?_⟩
        · rintro done todo σ' H2 hd ⟨_, _, _, _, _, rfl, _⟩
          exact stays_ex e
        · rintro done ⟨sl, old, new⟩ todo v σ' H2 he hv hdd ⟨v1, v2, v3, v4, rfl, rfl, hf⟩
          have q := dp_ex e (da.get hv (by rw [List.getElem?_map, hdd]; rfl))
          obtain ⟨t, u1, u2, u3, rfl, ht, h1, h2, h3⟩ := dp_tup3 q
          rw [dp_int h1, dp_int h2, dp_int h3] at ht
          refine ⟨t, _, rfl, ht, rfl, _, _, rfl, _, _, rfl, _, _, rfl, rfl, ?_⟩
          have bad : editOk (sl, old, new) = false → (true && es.all editOk) = false := fun z => by
            rw [hf, List.all_cons, z]
            rfl
          refine ⟨_, rfl, _, rfl, rfl, _, rfl, ?_⟩
          refine ite2 (fun c => ?_) (fun c => ?_)
          · have z : editOk (sl, old, new) = false := by
              unfold editOk
              rw [decide_eq_true (show (sl, old, new).2.1 = (sl, old, new).2.2 from V.int.inj (dt c))]
              rfl
            rw [bad z] at k
            exact iteT (k _ e)
          · have ne : ¬ old = new := fun z => df c (by rw [z])
            refine ⟨_, rfl, _, rfl, _, _, rfl, _, _, rfl, rfl, _, rfl, ?_⟩
            refine ite2 (fun c2 => ?_) (fun c2 => ?_)
            · have z : editOk (sl, old, new) = false := by
                unfold editOk
                rw [show decide ((if (sl, old, new).2.2 < (sl, old, new).2.1 then (sl, old, new).2.2 else (sl, old, new).2.1) < 0) = true from c2]
                simp
              rw [bad z] at k
              exact iteT (k _ e)
            · refine ⟨_, rfl, _, rfl, _, _, rfl, _, _, rfl, rfl, _, rfl, ?_⟩
              refine ite2 (fun c3 => ?_) (fun c3 => ?_)
              · have z : editOk (sl, old, new) = false := by
                  unfold editOk
                  rw [show decide (1000000000 < (if (sl, old, new).2.2 > (sl, old, new).2.1 then (sl, old, new).2.2 else (sl, old, new).2.1)) = true from c3]
                  simp
                rw [bad z] at k
                exact k _ e
              · refine ⟨_, _, _, _, rfl, rfl, ?_⟩
                rw [hf, List.all_cons]
                have z : editOk (sl, old, new) = true := by
                  unfold editOk
                  rw [show decide ((sl, old, new).2.1 = (sl, old, new).2.2) = false from decide_eq_false ne, show decide ((if (sl, old, new).2.2 < (sl, old, new).2.1 then (sl, old, new).2.2 else (sl, old, new).2.1) < 0) = false from eq_false_of_ne_true c2,
                    show decide (1000000000 < (if (sl, old, new).2.2 > (sl, old, new).2.1 then (sl, old, new).2.2 else (sl, old, new).2.1)) = false from eq_false_of_ne_true c3]
                  rfl
                rw [z]
                rfl
        · rintro σ' H2 ⟨v1, v2, v3, v4, rfl, rfl, hf⟩
          rw [hf] at k
          exact k _ e
end LG

set_option Elab.async false
set_option linter.all false
set_option maxRecDepth 100000
set_option maxHeartbeats 4000000
namespace LG
open PySem PySem.Spec L2 Evl
open PyProof.Rows hiding St
variable {P : Program} {w : World} {K : PySem.W.Frag} {mg : Str → Option Value} {base : Heap}

/-! ### the changes' object -/
def chF (rk ln ed : Addr) : List (Str × V) := [("ranks", .ref rk), ("leaned", .ref ln), ("edits", .ref ed)]
structure ChA where
  dx : Addr
  rk : Addr
  ln : Addr
  ed : Addr
  lv : List V
  ev : List V
structure ChAt (K : PySem.W.Frag) (H : Hp) (c : Addr) (a : ChA) (chs : List Chg) : Prop where
  ob : H c = some (.ins (He.ga K "Changes") a.dx (chF a.rk a.ln a.ed))
  rk : H a.rk = some (.lst (chs.map fun c => V.int c.rank))
  ln : H a.ln = some (.lst a.lv)
  ed : H a.ed = some (.lst a.ev)
  lv : DpAll K H a.lv (chs.map fun c => dInts c.leans)
  ev : DpAll K H a.ev (chs.map fun c => dEdits c.edits)
  nd : [c, a.rk, a.ln, a.ed].Nodup
  sz : ∀ g ∈ chs, g.leans.length < 1000 ∧ g.edits.length < 1000
theorem nl_ints (ns : List Int) : noList (dInts ns) = true := by
  show noList.all _ = true
  refine all_noList fun d h => ?_
  obtain ⟨n, _, rfl⟩ := List.mem_map.mp h
  rfl
theorem nl_edits (es : List Edit) : noList (dEdits es) = true := by
  show noList.all _ = true
  refine all_noList fun d h => ?_
  obtain ⟨n, _, rfl⟩ := List.mem_map.mp h
  rfl
theorem nl_map {α : Type} {f : α → PyData} (h : ∀ x, noList (f x) = true) (l : List α) : noList.all (l.map f) = true := all_noList fun d hd => by
  obtain ⟨n, _, rfl⟩ := List.mem_map.mp hd
  exact h n
section
variable {H H' : Hp} {c : Addr} {a : ChA} {chs : List Chg}
theorem ChAt.stay (h : ChAt K H c a chs) (k : Keep H H') (hc : H' c = H c) (h1 : H' a.rk = H a.rk) (h2 : H' a.ln = H a.ln) (h3 : H' a.ed = H a.ed) : ChAt K H' c a chs :=
  ⟨hc.trans h.ob, h1.trans h.rk, h2.trans h.ln, h3.trans h.ed, dpa_keep k (nl_map (fun _ => nl_ints _) _) h.lv, dpa_keep k (nl_map (fun _ => nl_edits _) _) h.ev, h.nd, h.sz⟩
theorem ChAt.ex (h : ChAt K H c a chs) (e : Ex H H') : ChAt K H' c a chs := h.stay (Keep.of_ex e) ((e _ _ h.ob).trans h.ob.symm) ((e _ _ h.rk).trans h.rk.symm) ((e _ _ h.ln).trans h.ln.symm) ((e _ _ h.ed).trans h.ed.symm)
/-- all but the three lists stays -/
def Out (a : ChA) (H H' : Hp) : Prop := ∀ b o, H b = some o → b ≠ a.rk → b ≠ a.ln → b ≠ a.ed → H' b = some o
theorem ChAt.keep (h : ChAt K H c a chs) (o : Out a H H') : Keep H H' := by
  have ne : ∀ {b u}, H b = some u → (∀ xs, u ≠ .lst xs) → b ≠ a.rk ∧ b ≠ a.ln ∧ b ≠ a.ed := fun {b u} e n =>
    ⟨ne_of e h.rk (n _), ne_of e h.ln (n _), ne_of e h.ed (n _)⟩
  refine ⟨fun b xs e => ?_, fun b q u e => ?_⟩
  · obtain ⟨n1, n2, n3⟩ := ne e fun _ z => by cases z
    exact o b _ e n1 n2 n3
  · obtain ⟨n1, n2, n3⟩ := ne e fun _ z => by cases z
    exact o b _ e n1 n2 n3
theorem ChAt.size (h : ChAt K H c a chs) {n : Int} (hn : okN chs n) : (getC chs n).leans.length < 1000 ∧ (getC chs n).edits.length < 1000 := by
  have hj : (n - 1).toNat < chs.length := by have := hn.1; have := hn.2; omega
  refine h.sz _ ?_
  unfold getC
  rw [List.getD_eq_getElem?_getD, List.getElem?_eq_getElem hj]
  exact List.getElem_mem hj
theorem ChAt.rank (h : ChAt K H c a chs) {n : Int} (h1 : 1 ≤ n) (h2 : n ≤ chs.length) : ∃ j : Nat, n - 1 = (j : Int) ∧ j < chs.length ∧ chs[j]? = some (getC chs n) := by
  have hj : (n - 1).toNat < chs.length := by omega
  refine ⟨(n - 1).toNat, by omega, hj, ?_⟩
  unfold getC
  rw [List.getD_eq_getElem?_getD, List.getElem?_eq_getElem hj]
  rfl
end
theorem small100 {n : Nat} (h : n ≤ 100000) : n ≤ sizeLine := Nat.le_trans h (by decide)
def sp_Changes_init (K : PySem.W.Frag) : Sp := fun vs H Q _ => ∃ c dx, vs = [.ref c] ∧ H c = some (.ins (He.ga K "Changes") dx []) ∧ ∀ H' a, a.dx = dx → ChAt K H' c a [] → (∀ b o, H b = some o → b ≠ c → H' b = some o) → H a.rk = none → H a.ln = none → H a.ed = none → Q .non H'
abbrev N_Changes_init : List Str := ["self"]
theorem sc_Changes_init : FnScope N_Changes_init ["self"] (defScope s_Changes_init) := ⟨rfl, rfl, rfl, by decide +kernel, rfl, by decide +kernel, by decide +kernel⟩
-- slots: 0:self
theorem ok_Changes_init (T : Tx K mg) : Ok P w K mg base 1 ("Changes", some "__init__") ["self"] (sp_Changes_init K) := by
  refine T.ok 5 rfl (N := N_Changes_init) rfl rfl sc_Changes_init (fun vs H Q E h => ?_) (fun _ _ _ _ _ _ us hl => match us, hl with | [_], _ => rfl) (fun cdv A outer s H vs Q E hr h => ?_)
  · obtain ⟨_, _, rfl, _⟩ := h
    rfl
  have hu := hu_of hr
  obtain ⟨c, dx, rfl, hc, k⟩ := h
  refine ⟨_, (pss_cons (ksfld K (pv 0) (pe_lst pa_nil))
 (pss_cons (ksfld K (pv 0) (pe_lst pa_nil))
 (pss_one (ksfld K (pv 0) (pe_lst pa_nil))))), ?_⟩
  refine ⟨Nat.zero_le _, fun l1 n1 => ?_⟩
  have c1 : c ≠ l1 := ne_of_none hc n1
  refine ⟨_, rfl, c, _, dx, [], rfl, (by rw [upd_ne c1]; exact hc), T.c_Changes, T.n_Changes_ranks, by decide, ?_⟩
  refine ⟨Nat.zero_le _, fun l2 n2 => ?_⟩
  have c2 : c ≠ l2 := ne_of_none upd_same n2
  have l12 : l1 ≠ l2 := ne_of_none (by rw [upd_ne c1.symm]; exact upd_same) n2
  refine ⟨_, rfl, c, _, dx, _, rfl, (by rw [upd_ne c2]; exact upd_same), T.c_Changes, T.n_Changes_leaned, (by show 1 < 1000; decide), ?_⟩
  refine ⟨Nat.zero_le _, fun l3 n3 => ?_⟩
  have c3 : c ≠ l3 := ne_of_none upd_same n3
  have l23 : l2 ≠ l3 := ne_of_none (by rw [upd_ne c2.symm]; exact upd_same) n3
  have l13 : l1 ≠ l3 := ne_of_none (by rw [upd_ne c1.symm, upd_ne l12, upd_ne c1.symm]; exact upd_same) n3
  refine ⟨_, rfl, c, _, dx, _, rfl, (by rw [upd_ne c3]; exact upd_same), T.c_Changes, T.n_Changes_edits, (by show 2 < 1000; decide), ?_⟩
  have f2 : H l2 = none := by
    rw [upd_ne c2.symm, upd_ne l12.symm] at n2
    exact n2
  have f3 : H l3 = none := by
    rw [upd_ne c3.symm, upd_ne l23.symm, upd_ne c3.symm, upd_ne l13.symm] at n3
    exact n3
  refine k _ ⟨dx, l1, l2, l3, [], []⟩ rfl ⟨upd_same, ?_, ?_, ?_, .nil, .nil, ?_, (fun _ z => by cases z)⟩ (fun b o e hb => ?_) n1 f2 f3
  · rw [upd_ne c1.symm, upd_ne l13, upd_ne c1.symm, upd_ne l12, upd_ne c1.symm]; exact upd_same
  · rw [upd_ne c2.symm, upd_ne l23, upd_ne c2.symm]; exact upd_same
  · rw [upd_ne c3.symm]; exact upd_same
  · simp [c1, c2, c3, l12, l13, l23]
  · rw [upd_ne hb, upd_ne (ne_of_none e f3), upd_ne hb, upd_ne (ne_of_none e f2), upd_ne hb, upd_ne (ne_of_none e n1)]; exact e
def sp_Changes_many (K : PySem.W.Frag) : Sp := fun vs H Q _ => ∃ c a chs, vs = [.ref c] ∧ ChAt K H c a chs ∧ Q (.int chs.length) H
abbrev N_Changes_many : List Str := ["self"]
theorem sc_Changes_many : FnScope N_Changes_many ["self"] (defScope s_Changes_many) := ⟨rfl, rfl, rfl, by decide +kernel, rfl, by decide +kernel, by decide +kernel⟩
-- slots: 0:self
theorem ok_Changes_many (T : Tx K mg) : Ok P w K mg base 1 ("Changes", some "many") ["self"] (sp_Changes_many K) := by
  refine T.ok 7 rfl (N := N_Changes_many) rfl rfl sc_Changes_many (fun vs H Q E h => ?_) (fun _ _ _ _ _ _ us hl => match us, hl with | [_], _ => rfl) (fun cdv A outer s H vs Q E hr h => ?_)
  · obtain ⟨_, _, _, rfl, _⟩ := h
    rfl
  have hu := hu_of hr
  obtain ⟨c, a, chs, rfl, hc, k⟩ := h
  refine ⟨_, (pss_one (ps_ret (pe_callB (klen K) (by rfl) T.b_len (by decide +kernel) (pa_cons (kfld K (pv 0)) pa_nil)))), ?_⟩
  refine ⟨_, rfl, c, _, _, _, _, rfl, hc.ob, T.c_Changes, T.n_Changes_ranks, rfl, a.rk, _, rfl, .inl (sq_of hc.rk), ?_⟩
  rw [List.length_map]
  exact k
def sp_Changes_asked_for (K : PySem.W.Frag) : Sp := fun vs H Q E => ∃ c a chs n, vs = [.ref c, .int n] ∧ ChAt K H c a chs ∧ (1 ≤ n → n ≤ chs.length → Q (.int (n - 1)) H) ∧ (n < 1 ∨ chs.length < n → E (.ref (He.ga K "NoChange")) none H)
abbrev N_Changes_asked_for : List Str := ["self", "number"]
theorem sc_Changes_asked_for : FnScope N_Changes_asked_for ["self", "number"] (defScope s_Changes_asked_for) := ⟨rfl, rfl, rfl, by decide +kernel, rfl, by decide +kernel, by decide +kernel⟩
-- slots: 0:self 1:number
theorem ok_Changes_asked_for (T : Tx K mg) : Ok P w K mg base 1 ("Changes", some "asked_for") ["self", "number"] (sp_Changes_asked_for K) := by
  refine T.ok 8 rfl (N := N_Changes_asked_for) rfl rfl sc_Changes_asked_for (fun vs H Q E h => ?_) (fun _ _ _ _ _ _ us hl => match us, hl with | [_, _], _ => rfl) (fun cdv A outer s H vs Q E hr h => ?_)
  · obtain ⟨_, _, _, _, rfl, _⟩ := h
    rfl
  have hu := hu_of hr
  obtain ⟨c, a, chs, n, rfl, hc, k1, k2⟩ := h
  refine ⟨_, (pss_cons (ps_if (PW.pt (pw_or (pt_cmpR op_lt (pv 1) pe_int (nomark _)) (pw_or1 (pt_cmpR op_gt (pv 1) (pe_callB (klen K) (by rfl) T.b_len (by decide +kernel) (pa_cons (kfld K (pv 0)) pa_nil)) (nomark _))))) (pss_one (ps_rz T.x_NoChange T.g_NoChange (takes_of rfl rfl rfl rfl))) pss_nil)
 (pss_one (ps_ret (pe_op op_sub (pv 1) pe_int)))), ?_⟩
  refine ⟨_, rfl, _, _, rfl, rfl, _, rfl, ?_⟩
  refine ite2 (fun z => ?_) (fun z => ?_)
  · exact iteT (k2 (.inl (dt z)))
  · refine ⟨_, rfl, _, rfl, c, _, _, _, _, rfl, hc.ob, T.c_Changes, T.n_Changes_ranks, rfl, a.rk, _, rfl, .inl (sq_of hc.rk), _, _, rfl, rfl, _, rfl, ?_⟩
    rw [List.length_map]
    refine ite2 (fun z2 => ?_) (fun z2 => ?_)
    · exact k2 (.inr (dt z2))
    · have h1 := df z
      have h2 := df z2
      exact ⟨_, rfl, _, _, rfl, rfl, k1 (by omega) (by omega)⟩
def sp_Changes_rank_of (K : PySem.W.Frag) : Sp := fun vs H Q _ => ∃ c a chs n, vs = [.ref c, .int n] ∧ ChAt K H c a chs ∧ 1 ≤ n ∧ n ≤ chs.length ∧ Q (.int (getC chs n).rank) H
abbrev N_Changes_rank_of : List Str := ["self", "number"]
theorem sc_Changes_rank_of : FnScope N_Changes_rank_of ["self", "number"] (defScope s_Changes_rank_of) := ⟨rfl, rfl, rfl, by decide +kernel, rfl, by decide +kernel, by decide +kernel⟩
-- slots: 0:self 1:number
theorem ok_Changes_rank_of (T : Tx K mg) : Ok P w K mg base 2 ("Changes", some "rank_of") ["self", "number"] (sp_Changes_rank_of K) := by
  refine T.ok 9 rfl (N := N_Changes_rank_of) rfl rfl sc_Changes_rank_of (fun vs H Q E h => ?_) (fun _ _ _ _ _ _ us hl => match us, hl with | [_, _], _ => rfl) (fun cdv A outer s H vs Q E hr h => ?_)
  · obtain ⟨_, _, _, _, rfl, _⟩ := h
    rfl
  have hu := hu_of hr
  obtain ⟨c, a, chs, n, rfl, hc, h1, h2, k⟩ := h
  obtain ⟨j, ej, _, hj⟩ := hc.rank h1 h2
  refine ⟨_, (pss_one (ps_ret (pe_ix (kixl K) (kfld K (pv 0)) (pe_m (pv 0) (ok_Changes_asked_for T) T.c_Changes T.m_Changes_asked_for hr passL (pa_cons (pv 1) pa_nil)) (fun _ _ => rfl)))), ?_⟩
  refine ⟨_, rfl, c, _, _, _, _, rfl, hc.ob, T.c_Changes, T.n_Changes_ranks, rfl, _, rfl, c, _, _, rfl, hc.ob, rfl, _, rfl, c, a, chs, n, rfl, hc, fun _ _ => ?_, fun z => ?_⟩
  · exact ⟨a.rk, _, _, _, rfl, rfl, sq_of hc.rk, at_ix ej (by rw [List.getElem?_map, hj]; rfl), k⟩
  · omega
def sp_Changes_leans_of (K : PySem.W.Frag) : Sp := fun vs H Q _ => ∃ c a chs n, vs = [.ref c, .int n] ∧ ChAt K H c a chs ∧ 1 ≤ n ∧ n ≤ chs.length ∧ ∀ p H', H p = none → Ex H H' → H' p = some (.lst ((getC chs n).leans.map V.int)) → Q (.ref p) H'
abbrev N_Changes_leans_of : List Str := ["self", "number"]
theorem sc_Changes_leans_of : FnScope N_Changes_leans_of ["self", "number"] (defScope s_Changes_leans_of) := ⟨rfl, rfl, rfl, by decide +kernel, rfl, by decide +kernel, by decide +kernel⟩
-- slots: 0:self 1:number
theorem ok_Changes_leans_of (T : Tx K mg) : Ok P w K mg base 2 ("Changes", some "leans_of") ["self", "number"] (sp_Changes_leans_of K) := by
  refine T.ok 10 rfl (N := N_Changes_leans_of) rfl rfl sc_Changes_leans_of (fun vs H Q E h => ?_) (fun _ _ _ _ _ _ us hl => match us, hl with | [_, _], _ => rfl) (fun cdv A outer s H vs Q E hr h => ?_)
  · obtain ⟨_, _, _, _, rfl, _⟩ := h
    rfl
  have hu := hu_of hr
  obtain ⟨c, a, chs, n, rfl, hc, h1, h2, k⟩ := h
  obtain ⟨j, ej, hlt, hj⟩ := hc.rank h1 h2
  refine ⟨_, (pss_one (ps_ret (pe_callTy (klist K) (by rfl) T.b_list (by decide +kernel) (pa_cons (pe_ix (kixl K) (kfld K (pv 0)) (pe_m (pv 0) (ok_Changes_asked_for T) T.c_Changes T.m_Changes_asked_for hr passL (pa_cons (pv 1) pa_nil)) (fun _ _ => rfl)) pa_nil)))), ?_⟩
  have hl : j < a.lv.length := by rw [hc.lv.len, List.length_map]; exact hlt
  have q := hc.lv.get (List.getElem?_eq_getElem hl) (by rw [List.getElem?_map, hj]; rfl)
  obtain ⟨t, xs, et, st, dx⟩ := dp_tup q
  have ex := dpa_ints dx
  subst ex
  refine ⟨_, rfl, c, _, _, _, _, rfl, hc.ob, T.c_Changes, T.n_Changes_leaned, rfl, _, rfl, c, _, _, rfl, hc.ob, rfl, _, rfl, c, a, chs, n, rfl, hc, fun _ _ => ?_, fun z => ?_⟩
  · refine ⟨a.ln, _, _, _, rfl, rfl, sq_of hc.ln, at_ix ej (by rw [List.getElem?_eq_getElem hl, et]), rd_listI (.inr st) fun p H' np e hp => k p H' np e hp⟩
  · omega
def sp_Changes_edits_of (K : PySem.W.Frag) : Sp := fun vs H Q _ => ∃ c a chs n, vs = [.ref c, .int n] ∧ ChAt K H c a chs ∧ 1 ≤ n ∧ n ≤ chs.length ∧ ∀ p xs H', H p = none → Ex H H' → H' p = some (.lst xs) → DpAll K H' xs ((getC chs n).edits.map dEdit) → Q (.ref p) H'
abbrev N_Changes_edits_of : List Str := ["self", "number"]
theorem sc_Changes_edits_of : FnScope N_Changes_edits_of ["self", "number"] (defScope s_Changes_edits_of) := ⟨rfl, rfl, rfl, by decide +kernel, rfl, by decide +kernel, by decide +kernel⟩
-- slots: 0:self 1:number
theorem ok_Changes_edits_of (T : Tx K mg) : Ok P w K mg base 2 ("Changes", some "edits_of") ["self", "number"] (sp_Changes_edits_of K) := by
  refine T.ok 11 rfl (N := N_Changes_edits_of) rfl rfl sc_Changes_edits_of (fun vs H Q E h => ?_) (fun _ _ _ _ _ _ us hl => match us, hl with | [_, _], _ => rfl) (fun cdv A outer s H vs Q E hr h => ?_)
  · obtain ⟨_, _, _, _, rfl, _⟩ := h
    rfl
  have hu := hu_of hr
  obtain ⟨c, a, chs, n, rfl, hc, h1, h2, k⟩ := h
  obtain ⟨j, ej, hlt, hj⟩ := hc.rank h1 h2
  refine ⟨_, (pss_one (ps_ret (pe_callTy (klist K) (by rfl) T.b_list (by decide +kernel) (pa_cons (pe_ix (kixl K) (kfld K (pv 0)) (pe_m (pv 0) (ok_Changes_asked_for T) T.c_Changes T.m_Changes_asked_for hr passL (pa_cons (pv 1) pa_nil)) (fun _ _ => rfl)) pa_nil)))), ?_⟩
  have hl : j < a.ev.length := by rw [hc.ev.len, List.length_map]; exact hlt
  have q := hc.ev.get (List.getElem?_eq_getElem hl) (by rw [List.getElem?_map, hj]; rfl)
  obtain ⟨t, xs, et, st, dx⟩ := dp_tup q
  refine ⟨_, rfl, c, _, _, _, _, rfl, hc.ob, T.c_Changes, T.n_Changes_edits, rfl, _, rfl, c, _, _, rfl, hc.ob, rfl, _, rfl, c, a, chs, n, rfl, hc, fun _ _ => ?_, fun z => ?_⟩
  · refine ⟨a.ed, _, _, _, rfl, rfl, sq_of hc.ed, at_ix ej (List.getElem?_eq_getElem hl), (rd_list (.inr q) fun p ys H' np e hp hd => k _ _ _ np e hp hd)⟩
  · omega
end LG

set_option Elab.async false
set_option linter.all false
set_option maxRecDepth 100000
set_option maxHeartbeats 4000000
namespace LG
open PySem PySem.Spec L2 Evl
open PyProof.Rows hiding St
variable {P : Program} {w : World} {K : PySem.W.Frag} {mg : Str → Option Value} {base : Heap}

/-- the same data, whatever has become of the changes' three lists -/
def sp_Changes_added (K : PySem.W.Frag) : Sp := fun vs H Q E => ∃ c a chs x y, ∃ g : Chg, vs = [.ref c, .int g.rank, x, y] ∧ ChAt K H c a chs ∧ g.edits.length < 1000 ∧ g.leans.length < 1000 ∧ chs.length < 1000000 ∧
  (∀ H', Out a H H' → DpS K H' x (g.leans.map PyData.int)) ∧ (∀ H', Out a H H' → DpS K H' y (g.edits.map dEdit)) ∧
  (validC chs.length g = false → ∀ H', Ex H H' → E (.ref (He.ga K "NoChange")) none H') ∧
  (validC chs.length g = true → 60 ≤ chs.length → ∀ H', Ex H H' → E (.ref (He.ga K "TooMany")) none H') ∧
  (validC chs.length g = true → chs.length < 60 → ∀ H' lv ev, ChAt K H' c { a with lv := lv, ev := ev } (chs ++ [g]) → Out a H H' → Q (.int ((chs.length : Int) + 1)) H')
theorem Out.ex {a : ChA} {H H1 H2 : Hp} (o : Out a H H1) (e : Ex H1 H2) : Out a H H2 := fun b u h n1 n2 n3 => e b u (o b u h n1 n2 n3)
theorem Out.rk {a : ChA} {H H1 : Hp} {o : HO} (h : Out a H H1) : Out a H (upd H1 a.rk o) := fun b u e n1 n2 n3 => by rw [upd_ne n1]; exact h b u e n1 n2 n3
theorem Out.ln {a : ChA} {H H1 : Hp} {o : HO} (h : Out a H H1) : Out a H (upd H1 a.ln o) := fun b u e n1 n2 n3 => by rw [upd_ne n2]; exact h b u e n1 n2 n3
theorem Out.ed {a : ChA} {H H1 : Hp} {o : HO} (h : Out a H H1) : Out a H (upd H1 a.ed o) := fun b u e n1 n2 n3 => by rw [upd_ne n3]; exact h b u e n1 n2 n3
theorem Out.of_ex {a : ChA} {H H1 : Hp} (e : Ex H H1) : Out a H H1 := fun b u h _ _ _ => e b u h
abbrev N_Changes_added : List Str := ["self", "rank", "leans", "edits", "slot", "old", "new"]
theorem sc_Changes_added : FnScope N_Changes_added ["self", "rank", "leans", "edits"] (defScope s_Changes_added) := ⟨rfl, rfl, rfl, by decide +kernel, rfl, by decide +kernel, by decide +kernel⟩
-- slots: 0:self 1:rank 2:leans 3:edits 4:slot 5:old 6:new
theorem ok_Changes_added (T : Tx K mg) : Ok P w K mg base 3 ("Changes", some "added") ["self", "rank", "leans", "edits"] (sp_Changes_added K) := by
  refine T.ok 6 rfl (N := N_Changes_added) rfl rfl sc_Changes_added (fun vs H Q E h => ?_) (fun _ _ _ _ _ _ us hl => match us, hl with | [_, _, _, _], _ => rfl) (fun cdv A outer s H vs Q E hr h => ?_)
  · obtain ⟨_, _, _, _, _, _, rfl, _⟩ := h
    rfl
  obtain ⟨uMANY, gMANY, rMANY⟩ := T.i_MANY
  have hu := hu_of hr
  obtain ⟨c, a, chs, x, y, g, rfl, hc, hz, hz2, hcz, hx, hy, k1, k2, k3⟩ := h
  have hcl : (chs.map fun c => V.int c.rank).length = chs.length := List.length_map _
  refine ⟨_, (pss_cons (ps_if (PW.pt (pw_or (pt_cmpR op_lt (pv 1) pe_int (nomark _)) (pw_or (pt_cmpR op_gt (pv 1) pe_int (nomark _)) (pw_or (pt_not (pt_val (pe_f (ok_are_rising T) hr T.g_are_rising passL (pa_cons (pv 2) (pa_cons pe_int (pa_cons (pe_callB (klen K) (by rfl) T.b_len (by decide +kernel) (pa_cons (kfld K (pv 0)) pa_nil)) pa_nil)))))) (pw_or1 (pt_not (pt_val (pe_f (ok_are_edits T) hr T.g_are_edits passL (pa_cons (pv 3) pa_nil))))))))) (pss_one (ps_rz T.x_NoChange T.g_NoChange (takes_of rfl rfl rfl rfl))) pss_nil)
 (pss_cons (ps_if (pt_cmpR op_ge (pe_callB (klen K) (by rfl) T.b_len (by decide +kernel) (pa_cons (kfld K (pv 0)) pa_nil)) (pe_glob rfl gMANY rMANY) (nomark _)) (pss_one (ps_rz T.x_TooMany T.g_TooMany (takes_of rfl rfl rfl rfl))) pss_nil)
 (pss_cons (ps_expr (kbm K PySem.F.plainAttrs_list PySem.F.slot_list_append PySem.F.type_list_append mt_append (kfld K (pv 0)) (pa_cons (pv 1) pa_nil)))
 (pss_cons (ps_expr (kbm K PySem.F.plainAttrs_list PySem.F.slot_list_append PySem.F.type_list_append mt_append (kfld K (pv 0)) (pa_cons (pe_callTy (ktuple K) (by rfl) T.b_tuple (by decide +kernel) (pa_cons (pv 2) pa_nil)) pa_nil)))
 (pss_cons (ps_expr (kbm K PySem.F.plainAttrs_list PySem.F.slot_list_append PySem.F.type_list_append mt_append (kfld K (pv 0)) (pa_cons (pe_callTy (ktuple K) (by rfl) T.b_tuple (by decide +kernel) (pa_cons (pe_lc (own := [("slot", 4), ("old", 5), ("new", 6)]) (tt := tYes) (by rfl) sc_Changes_added.nd (kseq K (pv 3)) (blkOk_by (N := N_Changes_added) (sc := defScope s_Changes_added) (by decide +kernel)) (fun _ _ _ _ _ => (ktup K 3 (pgs_cons (pg_name (i := 4) sc_Changes_added.nd rfl (by first | exact Or.inl rfl | exact Or.inr rfl)) (pgs_cons (pg_name (i := 5) sc_Changes_added.nd rfl (by first | exact Or.inl rfl | exact Or.inr rfl)) (pgs_cons (pg_name (i := 6) sc_Changes_added.nd rfl (by first | exact Or.inl rfl | exact Or.inr rfl)) pgs_nil))))) (fun _ _ _ _ _ => pts_nil) (fun _ _ _ _ _ => (pe_tup (pa_cons (pv 4) (pa_cons (pv 5) (pa_cons (pv 6) pa_nil)))))) pa_nil)) pa_nil)))
 (pss_one (ps_ret (pe_callB (klen K) (by rfl) T.b_len (by decide +kernel) (pa_cons (kfld K (pv 0)) pa_nil))))))))), ?_⟩
  have hlen : ∀ {H1 : Hp}, Ex H H1 → ∀ {Q' : VK}, Q' (.int ((chs.length : Nat) : Int)) H1 → tCB (rLenS K) (tCons (tFld K (tVar 0) "ranks") tNil) (L2.start N_Changes_added [.ref c, .int g.rank, x, y]) H1 Q' := fun {H1} e {Q'} q => by
    refine ⟨_, rfl, c, _, _, _, _, rfl, (hc.ex e).ob, T.c_Changes, T.n_Changes_ranks, rfl, a.rk, _, rfl, .inl (sq_of (hc.ex e).rk), ?_⟩
    rw [hcl]
    exact q
  have bad : (∀ H', Ex H H' → validC chs.length g = false → E (.ref (He.ga K "NoChange")) none H') := fun H' e z => k1 z H' e
  refine ⟨_, rfl, _, _, rfl, rfl, _, rfl, ?_⟩
  refine ite2 (fun z => ?_) (fun z => ?_)
  · refine iteT (bad _ (Ex.refl _) ?_)
    unfold validC
    rw [z]
    rfl
  refine ⟨_, rfl, _, _, rfl, rfl, _, rfl, ?_⟩
  refine ite2 (fun z1 => ?_) (fun z1 => ?_)
  · refine iteT (bad _ (Ex.refl _) ?_)
    unfold validC
    rw [z1]
    simp
  refine ⟨_, rfl, hlen (Ex.refl _) ?_⟩
  refine ⟨x, g.leans, _, _, rfl, hx H (Out.of_ex (Ex.refl _)), _, rfl, ?_⟩
  cases z2 : areRising g.leans 1 (chs.length : Int) with
  | false =>
    refine iteT (bad _ (Ex.refl _) ?_)
    unfold validC
    rw [z2]
    simp
  | true =>
    refine iteF ⟨_, rfl, y, g.edits, rfl, hy H (Out.of_ex (Ex.refl _)), (by omega), fun H1 e1 => ⟨_, rfl, ?_⟩⟩
    cases z3 : areEdits g.edits with
    | false =>
      refine bad _ e1 ?_
      unfold validC
      rw [z3]
      simp
    | true =>
      have val : validC chs.length g = true := by
        unfold validC
        rw [z2, z3, eq_false_of_ne_true z, eq_false_of_ne_true z1]
        rfl
      refine hlen e1 ⟨_, _, rfl, rfl, _, rfl, ?_⟩
      refine ite2 (fun z4 => ?_) (fun z4 => ?_)
      · exact k2 val (by have := dt z4; omega) _ e1
      have hlt : chs.length < 60 := by have := df z4; omega
      have c1 := hc.ex e1
      obtain ⟨⟨n1, n2, n3⟩, ⟨n4, n5⟩, n6⟩ : (c ≠ a.rk ∧ c ≠ a.ln ∧ c ≠ a.ed) ∧ (a.rk ≠ a.ln ∧ a.rk ≠ a.ed) ∧ a.ln ≠ a.ed := by
        have := hc.nd
        simp only [List.nodup_cons, List.mem_cons, List.not_mem_nil, or_false, not_or, not_false_eq_true, and_true, List.nodup_nil] at this
        exact ⟨⟨this.1.1, this.1.2.1, this.1.2.2⟩, ⟨this.2.1.1, this.2.1.2⟩, this.2.2⟩
      -- ranks.append
      refine ⟨_, rfl, c, _, _, _, _, rfl, c1.ob, T.c_Changes, T.n_Changes_ranks, rfl, .inl ⟨rfl, _, sq_of c1.rk⟩, _, rfl, a.rk, _, _, rfl, rfl, c1.rk, by rw [hcl, sizeLine_eq]; omega, ?_⟩
      have o2 : Out a H (upd H1 a.rk (.lst (chs.map (fun c => V.int c.rank) ++ [.int g.rank]))) := (Out.of_ex e1).rk
      -- leaned.append(tuple(leans))
      have ob2 := o2 c _ hc.ob n1 n2 n3
      have ln2 : upd H1 a.rk (.lst (chs.map (fun c => V.int c.rank) ++ [.int g.rank])) a.ln = some (.lst a.lv) := by rw [upd_ne n4.symm]; exact c1.ln
      have ed2 : upd H1 a.rk (.lst (chs.map (fun c => V.int c.rank) ++ [.int g.rank])) a.ed = some (.lst a.ev) := by rw [upd_ne n5.symm]; exact c1.ed
      have rk2 : upd H1 a.rk (.lst (chs.map (fun c => V.int c.rank) ++ [.int g.rank])) a.rk = some (.lst (chs.map (fun c => V.int c.rank) ++ [.int g.rank])) := upd_same
      generalize upd H1 a.rk (.lst (chs.map (fun c => V.int c.rank) ++ [.int g.rank])) = H2 at o2 ob2 ln2 ed2 rk2 ⊢
      refine ⟨_, rfl, c, _, _, _, _, rfl, ob2, T.c_Changes, T.n_Changes_leaned, rfl, .inl ⟨rfl, _, sq_of ln2⟩, ?_⟩
      have l1 := hc.lv.len
      have l2 := hc.ev.len
      rw [List.length_map] at l1 l2
      refine ⟨_, rfl, rd_tuple (hx _ o2) fun v H3 e3 hv => ?_⟩
      refine ⟨a.ln, _, _, rfl, rfl, e3 _ _ ln2, by rw [sizeLine_eq]; omega, ?_⟩
      have o4 : Out a H (upd H3 a.ln (.lst (a.lv ++ [v]))) := (o2.ex e3).ln
      have kp34 : Keep H3 (upd H3 a.ln (.lst (a.lv ++ [v]))) := keep_lst (e3 _ _ ln2)
      have ob4 := o4 c _ hc.ob n1 n2 n3
      have ed4 : upd H3 a.ln (.lst (a.lv ++ [v])) a.ed = some (.lst a.ev) := by rw [upd_ne n6.symm]; exact e3 _ _ ed2
      have rk4 : upd H3 a.ln (.lst (a.lv ++ [v])) a.rk = some (.lst (chs.map (fun c => V.int c.rank) ++ [.int g.rank])) := by rw [upd_ne n4]; exact e3 _ _ rk2
      have ln4 : upd H3 a.ln (.lst (a.lv ++ [v])) a.ln = some (.lst (a.lv ++ [v])) := upd_same
      have hv4 := dp_keep kp34 (nl_ints _) hv
      generalize upd H3 a.ln (.lst (a.lv ++ [v])) = H4 at o4 kp34 ob4 ed4 rk4 ln4 hv4 ⊢
      -- edits.append(tuple([..]))
      refine ⟨_, rfl, c, _, _, _, _, rfl, ob4, T.c_Changes, T.n_Changes_edits, rfl, .inl ⟨rfl, _, sq_of ed4⟩, ?_⟩
      obtain ⟨ay, ys, rfl, sy, dy⟩ := dp_seq (hy _ o4)
      have hyl : ys.length = g.edits.length := by rw [dy.len, List.length_map]
      refine ⟨_, rfl, lc_y (K := K) ys g.edits dEdit hyl (by omega) sy (fun d => rfl) ?_ ?_⟩
      · rintro ⟨sl, old, new⟩ u H' Yes e hd i hu hi yes
        have q := dp_ex e (dy.get hu (by rw [List.getElem?_map, hi]; rfl))
        obtain ⟨t, u1, u2, u3, rfl, ht, h1, h2, h3⟩ := dp_tup3 q
        rw [dp_int h1, dp_int h2, dp_int h3] at ht
        refine ⟨t, _, rfl, ht, rfl, _, _, rfl, _, _, rfl, _, _, rfl, rfl, rfl, ?_⟩
        refine ⟨_, rfl, _, rfl, _, rfl, by show 3 ≤ sizeLine; decide, fun p np => ?_⟩
        exact yes _ _ (Ex.new np) (.tup (st_of upd_same) (.cons (.int _) (.cons (.int _) (.cons (.int _) .nil))))
      intro L zs H5 nL e5 hL hp
      refine rd_tuple (.inl (.lst (sq_of hL) hp)) fun v2 H6 e6 hv2 => ?_
      have e56 := e5.trans e6
      refine ⟨a.ed, _, _, rfl, rfl, e56 _ _ ed4, by rw [sizeLine_eq]; omega, ?_⟩
      have o7 : Out a H (upd H6 a.ed (.lst (a.ev ++ [v2]))) := (o4.ex e56).ed
      have kp67 : Keep H6 (upd H6 a.ed (.lst (a.ev ++ [v2]))) := keep_lst (e56 _ _ ed4)
      have rk7 : upd H6 a.ed (.lst (a.ev ++ [v2])) a.rk = some (.lst (chs.map (fun c => V.int c.rank) ++ [.int g.rank])) := by rw [upd_ne n5]; exact e56 _ _ rk4
      have ln7 : upd H6 a.ed (.lst (a.ev ++ [v2])) a.ln = some (.lst (a.lv ++ [v])) := by rw [upd_ne n6]; exact e56 _ _ ln4
      have fin : ChAt K (upd H6 a.ed (.lst (a.ev ++ [v2]))) c { a with lv := a.lv ++ [v], ev := a.ev ++ [v2] } (chs ++ [g]) := by
        refine ⟨o7 c _ hc.ob n1 n2 n3, ?_, ln7, upd_same, ?_, ?_, hc.nd, fun q hq => (List.mem_append.mp hq).elim (hc.sz q) fun z => by rw [List.mem_singleton.mp z]; exact ⟨hz2, hz⟩⟩
        · rw [List.map_append]; exact rk7
        · rw [List.map_append]
          exact (dpa_keep (hc.keep o7) (nl_map (fun _ => nl_ints _) _) hc.lv).snoc (dp_keep kp67 (nl_ints _) (dp_ex e56 hv4))
        · rw [List.map_append]
          exact (dpa_keep (hc.keep o7) (nl_map (fun _ => nl_edits _) _) hc.ev).snoc (dp_keep kp67 (nl_edits _) hv2)
      refine ⟨_, rfl, c, _, _, _, _, rfl, fin.ob, T.c_Changes, T.n_Changes_ranks, rfl, a.rk, _, rfl, .inl (sq_of fin.rk), ?_⟩
      rw [List.length_map, List.length_append]
      exact k3 val hlt _ _ _ fin o7
end LG

set_option Elab.async false
set_option linter.all false
set_option maxRecDepth 100000
set_option maxHeartbeats 4000000
namespace LG
open PySem PySem.Spec L2 Evl
open PyProof.Rows hiding St
variable {P : Program} {w : World} {K : PySem.W.Frag} {mg : Str → Option Value} {base : Heap}

def sp_sheet_of (K : PySem.W.Frag) : Sp := fun vs H Q _ => ∃ c a chs x row, vs = [.ref c, x] ∧ ChAt K H c a chs ∧ DpS K H x (row.map PyData.int) ∧ (∀ n ∈ row, okN chs n) ∧ standsM chs row ∧ wtE chs row < 64 ∧
  ∀ p xs H', H p = none → Ex H H' → H' p = some (.lst xs) → DpAll K H' xs ((sheetM chs row).map dPair) → Q (.ref p) H'
abbrev N_sheet_of : List Str := ["changes", "row", "sheet", "number"]
theorem sc_sheet_of : FnScope N_sheet_of ["changes", "row"] (defScope s_sheet_of) := ⟨rfl, rfl, rfl, by decide +kernel, rfl, by decide +kernel, by decide +kernel⟩
-- slots: 0:changes 1:row 2:sheet 3:number
theorem ok_sheet_of (T : Tx K mg) : Ok P w K mg base 3 ("sheet_of", none) ["changes", "row"] (sp_sheet_of K) := by
  refine T.ok 12 rfl (N := N_sheet_of) rfl rfl sc_sheet_of (fun vs H Q E h => ?_) (fun _ _ _ _ _ _ us hl => match us, hl with | [_, _], _ => rfl) (fun cdv A outer s H vs Q E hr h => ?_)
  · obtain ⟨_, _, _, _, _, rfl, _⟩ := h
    rfl
  have hu := hu_of hr
  obtain ⟨c, a, chs, x, row, rfl, hc, hx, hv, hs, hw, k⟩ := h
  obtain ⟨b, xs, rfl, sb, db⟩ := dp_seq hx
  have ex := dpa_ints db
  refine ⟨_, (pss_cons (ps_set (i := 2) sc_sheet_of.nd rfl (by first | exact Or.inl rfl | exact Or.inr rfl) (pe_lst pa_nil))
 (pss_cons (ps_for (passes_of rfl) rfl (kseq K (pv 1)) (pg_name (i := 3) sc_sheet_of.nd rfl (by first | exact Or.inl rfl | exact Or.inr rfl))
  (pss_one (ps_set (i := 2) sc_sheet_of.nd rfl (by first | exact Or.inl rfl | exact Or.inr rfl) (pe_f (ok_edited T) hr T.g_edited passL (pa_cons (pv 2) (pa_cons (pe_m (pv 0) (ok_Changes_edits_of T) T.c_Changes T.m_Changes_edits_of hr passL (pa_cons (pv 3) pa_nil)) pa_nil))))))
 (pss_one (ps_ret (pv 2))))), ?_⟩
  refine ⟨Nat.zero_le _, fun l nl => ?_⟩
  have e0 : Ex H (upd H l (.lst [])) := Ex.new nl
  refine ⟨_, rfl, for_s xs row (by rw [ex, List.length_map]) (fun done todo σ' H' => ∃ p ys v3, σ' = [some (.ref c), some (.ref b), some (.ref p), v3] ∧ Ex H H' ∧ H p = none ∧ H' p = some (.lst ys) ∧ DpAll K H' ys ((sheetM chs done).map dPair))
    (HB := H) sb ⟨_, _, _, rfl, e0, nl, upd_same, .nil⟩ ?_ ?_ ?_⟩
  · rintro done todo σ' H' hd ⟨_, _, _, _, e, _⟩
    exact stays_ex e
  · rintro done n todo v σ' H' he hvv hdd ⟨sh, ys, v3, rfl, e, nsh, hsh, dsh⟩
    rw [ex, List.getElem?_map, hdd] at hvv
    cases hvv
    have hn := hv n (List.mem_of_getElem? hdd)
    have hf := hs done n todo he.symm
    have hwt : wtE chs (done ++ [n]) < 64 := by
      have e1 : wtE chs row = wtE chs (done ++ [n]) + wtE chs todo := by rw [← wtE_app, ← he]; simp
      omega
    have e2 : wtE chs (done ++ [n]) = wtE chs done + (getC chs n).edits.length := by rw [wtE_app]; simp [wtE]
    have hl := sheetM_len chs done
    refine ⟨_, rfl, _, rfl, c, _, _, rfl, (hc.ex e).ob, rfl, _, rfl, c, a, chs, n, rfl, hc.ex e, hn.1, hn.2, fun y yys H2 ny e2' hy1 hy2 => ?_⟩
    have hy : Dp K H2 (.ref y) (.list ((getC chs n).edits.map dEdit)) := .lst (sq_of hy1) hy2
    refine ⟨_, _, _, _, rfl, dp_ex e2' (.lst (sq_of hsh) dsh), hy, hf, by omega, fun p zs H3 np e3 hp3 hv3 => ?_⟩
    refine ⟨_, _, _, rfl, (e.trans e2').trans e3, fresh_back (e.trans e2') np, hp3, ?_⟩
    rw [sheetM_snoc]
    exact hv3
  · rintro σ' H' ⟨sh, ys, v3, rfl, e, nsh, hsh, dsh⟩
    exact ⟨_, rfl, k _ _ _ nsh e hsh dsh⟩
end LG

set_option Elab.async false
set_option linter.all false
set_option maxRecDepth 100000
set_option maxHeartbeats 4000000
namespace LG
open PySem PySem.Spec L2 Evl
open PyProof.Rows hiding St
variable {P : Program} {w : World} {K : PySem.W.Frag} {mg : Str → Option Value} {base : Heap}

theorem dkb_look (m : List (Int × Bool)) (k : Int) : valV (m.map fun p => ((Sum.inl p.1 : Key), V.bl p.2)) (Sum.inl k) = (look m k).map V.bl := valV_conv (κ' := Key) Sum.inl inl_inj V.bl k m
theorem dkb_put (m : List (Int × Bool)) (k : Int) (v : Bool) : putK (m.map fun p => ((Sum.inl p.1 : Key), V.bl p.2)) (Sum.inl k) (.bl v) = (put m k v).map fun p => ((Sum.inl p.1 : Key), V.bl p.2) := putK_conv (κ' := Key) Sum.inl inl_inj V.bl k v m
def sp_free (K : PySem.W.Frag) : Sp := fun vs H Q _ => ∃ c a chs x y z line laid waiting, vs = [.ref c, x, y, z] ∧ ChAt K H c a chs ∧ DpS K H x (line.map PyData.int) ∧ DpS K H y (laid.map PyData.int) ∧ DpS K H z (waiting.map PyData.int) ∧
  (∀ n ∈ waiting, okN chs n) ∧ (line ++ laid).length < 1000000 ∧ waiting.length < 1000000 ∧ ∀ p H', H p = none → Ex H H' → H' p = some (.lst ((freeM chs line laid waiting).map V.int)) → Q (.ref p) H'
abbrev N_free : List Str := ["changes", "line", "laid", "waiting", "there", "number", "one"]
theorem sc_free : FnScope N_free ["changes", "line", "laid", "waiting"] (defScope s_free) := ⟨rfl, rfl, rfl, by decide +kernel, rfl, by decide +kernel, by decide +kernel⟩
-- slots: 0:changes 1:line 2:laid 3:waiting 4:there 5:number 6:one
theorem ok_free (T : Tx K mg) : Ok P w K mg base 3 ("free", none) ["changes", "line", "laid", "waiting"] (sp_free K) := by
  refine T.ok 13 rfl (N := N_free) rfl rfl sc_free (fun vs H Q E h => ?_) (fun _ _ _ _ _ _ us hl => match us, hl with | [_, _, _, _], _ => rfl) (fun cdv A outer s H vs Q E hr h => ?_)
  · obtain ⟨_, _, _, _, _, _, _, _, _, rfl, _⟩ := h
    rfl
  have hu := hu_of hr
  obtain ⟨c, a, chs, x, y, z, line, laid, waiting, rfl, hc, hx, hy, hz, hw, hl1, hl2, k⟩ := h
  refine ⟨_, (pss_cons (ps_set (i := 4) sc_free.nd rfl (by first | exact Or.inl rfl | exact Or.inr rfl) pe_dnewK)
 (pss_cons (ps_for (passes_of rfl) rfl (kseq K (pe_op op_cat (pe_callTy (klist K) (by rfl) T.b_list (by decide +kernel) (pa_cons (pv 1) pa_nil)) (pe_callTy (klist K) (by rfl) T.b_list (by decide +kernel) (pa_cons (pv 2) pa_nil)))) (pg_name (i := 5) sc_free.nd rfl (by first | exact Or.inl rfl | exact Or.inr rfl))
  (pss_one (ps_dput hu (pv 4) (pv 5) pe_bl rfl)))
 (pss_one (ps_ret (pe_lc (own := [("number", 5)]) (by rfl) sc_free.nd (kseq K (pv 3)) (blkOk_by (N := N_free) (sc := defScope s_free) (by decide +kernel)) (fun _ _ _ _ _ => (pg_name (i := 5) sc_free.nd rfl (by first | exact Or.inl rfl | exact Or.inr rfl))) (fun _ _ _ _ _ => (pts_one (pt_val (pe_callB (kall K) (by rfl) T.b_all (by decide +kernel) (pa_cons (pe_lc (own := [("one", 6)]) (tt := tYes) (by rfl) sc_free.nd (kseq K (pe_m (pv 0) (ok_Changes_leans_of T) T.c_Changes T.m_Changes_leans_of hr passL (pa_cons (pv 5) pa_nil))) (blkOk_by (N := N_free) (sc := relS _ (defScope s_free)) (by decide +kernel)) (fun _ _ _ _ _ => (pg_name (i := 6) sc_free.nd rfl (by first | exact Or.inl rfl | exact Or.inr rfl))) (fun _ _ _ _ _ => pts_nil) (fun _ _ _ _ _ => (pe_cmp (pc_din hu (pv 6) (pv 4))))) pa_nil))))) (fun _ _ _ _ _ => (pv 5))))))), ?_⟩
  intro d nd
  have e0 : Ex H (upd H d (.dK [])) := Ex.new nd
  refine ⟨_, rfl, rd_list (dps_ex e0 hx) fun p1 ys1 H1 n1 e1 h1 d1 => ?_⟩
  have q1 := dpa_ints d1
  subst q1
  have e01 := e0.trans e1
  refine ⟨_, rfl, rd_list (dps_ex e01 hy) fun p2 ys2 H2 n2 e2 h2 d2 => ?_⟩
  have q2 := dpa_ints d2
  subst q2
  have e02 := e01.trans e2
  refine ⟨p1, p2, _, _, rfl, rfl, e2 _ _ h1, h2, by rw [List.length_map, List.length_map, ← List.length_append, sizeLine_eq]; omega, fun p np => ?_⟩
  rw [← List.map_append]
  have e3 : Ex H (upd H2 p (.lst ((line ++ laid).map V.int))) := e02.trans (Ex.new np)
  have hd3 : (upd H2 p (.lst ((line ++ laid).map V.int))) d = some (.dK []) := Ex.new np d _ (e2 _ _ (e1 _ _ upd_same))
  have hp3 : (upd H2 p (.lst ((line ++ laid).map V.int))) p = some (.lst ((line ++ laid).map V.int)) := upd_same
  have npd : p ≠ d := ne_of hp3 hd3 (by intro z; cases z)
  have npH : H p = none := fresh_back e02 np
  generalize upd H2 p (.lst ((line ++ laid).map V.int)) = H3 at e3 hd3 hp3 ⊢
  refine for_s ((line ++ laid).map V.int) (line ++ laid) (by rw [List.length_map]) (fun done todo σ' H' => ∃ (m : List (Int × Bool)) (v5 v6 : Option V), σ' = [some (.ref c), some x, some y, some z, some (.ref d), v5, v6] ∧ H' = upd H3 d (.dK (m.map fun p => (Sum.inl p.1, V.bl p.2))) ∧ m.length ≤ done.length ∧ ∀ j, (look m j).isSome = decide (j ∈ done))
    (HB := H3) (.inl (sq_of hp3)) ⟨[], none, none, rfl, ?_, Nat.le_refl _, fun j => rfl⟩ ?_ ?_ ?_
  · funext b
    by_cases hb : b = d
    · rw [hb, upd_same, hd3]; rfl
    · rw [upd_ne hb]
  · rintro done todo σ' H' _ ⟨m, _, _, _, rfl, _⟩
    refine ⟨fun _ => sq_of (by rw [upd_ne npd]; exact hp3), fun q => ?_⟩
    rcases q with (q | ⟨o, q⟩) | q
    · rw [hp3] at q; cases q
    · rw [hp3] at q; cases q
    · exact .inr q
  · rintro done n todo v σ' H' he hv hdd ⟨m, v5, v6, rfl, rfl, hm1, hm2⟩
    rw [List.getElem?_map, hdd] at hv
    cases hv
    have hdl : done.length < (line ++ laid).length := (List.getElem?_eq_some_iff.mp hdd).1
    refine ⟨_, rfl, _, rfl, d, _, rfl, DPut.k (k := Sum.inl n) upd_same (by rw [List.length_map, sizeLine_eq]; omega), put m n true, _, _, rfl, ?_, ?_, ?_⟩
    · rw [upd_upd, dkb_put]
    · have := put_length m n true
      rw [List.length_append]
      simp
      omega
    · intro j
      rw [look_put]
      by_cases hj : j = n
      · subst hj
        simp
      · rw [if_neg hj, hm2]
        simp [hj]
  · rintro σ' H' ⟨m, v5, v6, rfl, rfl, hm1, hm2⟩
    have e4 : Ex H (upd H3 d (.dK (m.map fun p => (Sum.inl p.1, V.bl p.2)))) := Ex.mut e3 nd
    have hd4 : upd H3 d (.dK (m.map fun p => (Sum.inl p.1, V.bl p.2))) d = some (.dK (m.map fun p => (Sum.inl p.1, V.bl p.2))) := upd_same
    generalize upd H3 d (.dK (m.map fun p => (Sum.inl p.1, V.bl p.2))) = H4 at e4 hd4 ⊢
    obtain ⟨wz, zs, rfl, sz, dz⟩ := dp_seq (dps_ex e4 hz)
    have q3 := dpa_ints dz
    subst q3
    refine ⟨_, rfl, lc_d (K := K) (waiting.map V.int) waiting (fun n => if ((getC chs n).leans.all fun m => decide (m ∈ line ++ laid)) = true then some (.int n) else none) (by rw [List.length_map]) hl2 sz ?_ ?_ ?_⟩
    · intro n e he
      split at he
      · cases he; rfl
      · cases he
    · intro n v H5 Yes No e5 hn i hv hi yes no
      rw [List.getElem?_map, hi] at hv
      cases hv
      have hn2 := hw n hn
      have e45 := e4.trans e5
      refine ⟨rfl, _, rfl, c, _, _, rfl, (hc.ex e45).ob, rfl, _, rfl, c, a, chs, n, rfl, hc.ex e45, hn2.1, hn2.2, fun q H6 nq e6 hq => ?_⟩
      refine lc_y (K := K) ((getC chs n).leans.map V.int) (getC chs n).leans (fun m => .bool (decide (m ∈ line ++ laid))) (by rw [List.length_map]) (by have := (hc.size hn2).1; omega) (.inl (sq_of hq)) (fun _ => rfl) ?_ ?_
      · intro j v H7 Yes2 e7 hj i2 hv2 hi2 yes2
        rw [List.getElem?_map, hi2] at hv2
        cases hv2
        refine ⟨rfl, _, rfl, _, rfl, d, _, rfl, DGet.k (k := Sum.inl j) (e7 _ _ (e6 _ _ (e5 _ _ hd4))), ?_⟩
        rw [dkb_look, Option.isSome_map, hm2]
        exact yes2 _ _ (Ex.refl _) (.bl _)
      · intro L ys H7 nL e7 hL hp
        have q4 : (getC chs n).leans.map (fun m => PyData.bool (decide (m ∈ line ++ laid))) = ((getC chs n).leans.map fun m => decide (m ∈ line ++ laid)).map PyData.bool := by rw [List.map_map]; rfl
        rw [q4] at hp
        have q5 := dpa_bls hp
        subst q5
        refine ⟨L, _, rfl, sq_of hL, _, rfl, ?_⟩
        rw [List.all_map]
        show if ((getC chs n).leans.all fun m => decide (m ∈ line ++ laid)) = true then _ else _
        refine ite2 (fun h => ?_) (fun h => ?_)
        · exact ⟨_, rfl, yes _ _ _ (e6.trans e7) (if_pos h) (.int _)⟩
        · exact no _ (e6.trans e7) (if_neg h)
    · intro L ys H5 nL e5 hL hp
      have q4 : waiting.filterMap (fun n => if ((getC chs n).leans.all fun m => decide (m ∈ line ++ laid)) = true then some (PyData.int n) else none) = (freeM chs line laid waiting).map PyData.int := by
        exact (fm_if (fun n => (getC chs n).leans.all fun m => decide (m ∈ line ++ laid)) PyData.int waiting)
      rw [q4] at hp
      rw [dpa_ints hp] at hL
      exact k L H5 (fresh_back e4 nL) (e4.trans e5) hL
end LG

set_option Elab.async false
set_option linter.all false
set_option maxRecDepth 100000
set_option maxHeartbeats 4000000
namespace LG
open PySem PySem.Spec L2 Evl
open PyProof.Rows hiding St
variable {P : Program} {w : World} {K : PySem.W.Frag} {mg : Str → Option Value} {base : Heap}

def sp_layable (K : PySem.W.Frag) : Sp := fun vs H Q _ => ∃ c a chs x y z line laid waiting, vs = [.ref c, x, y, z] ∧ ChAt K H c a chs ∧ DpS K H x (line.map PyData.int) ∧ DpS K H y (laid.map PyData.int) ∧ DpS K H z (waiting.map PyData.int) ∧
  LayOk chs line laid waiting ∧ ∀ p H', H p = none → Ex H H' → H' p = some (.lst ((layableM chs line laid waiting).map V.int)) → Q (.ref p) H'
abbrev N_layable : List Str := ["changes", "line", "laid", "waiting", "sheet", "some", "number"]
theorem sc_layable : FnScope N_layable ["changes", "line", "laid", "waiting"] (defScope s_layable) := ⟨rfl, rfl, rfl, by decide +kernel, rfl, by decide +kernel, by decide +kernel⟩
-- slots: 0:changes 1:line 2:laid 3:waiting 4:sheet 5:some 6:number
theorem ok_layable (T : Tx K mg) : Ok P w K mg base 4 ("layable", none) ["changes", "line", "laid", "waiting"] (sp_layable K) := by
  refine T.ok 14 rfl (N := N_layable) rfl rfl sc_layable (fun vs H Q E h => ?_) (fun _ _ _ _ _ _ us hl => match us, hl with | [_, _, _, _], _ => rfl) (fun cdv A outer s H vs Q E hr h => ?_)
  · obtain ⟨_, _, _, _, _, _, _, _, _, rfl, _⟩ := h
    rfl
  have hu := hu_of hr
  obtain ⟨c, a, chs, x, y, z, line, laid, waiting, rfl, hc, hx, hy, hz, lo, k⟩ := h
  refine ⟨_, (pss_cons (ps_set (i := 4) sc_layable.nd rfl (by first | exact Or.inl rfl | exact Or.inr rfl) (pe_f (ok_sheet_of T) hr T.g_sheet_of passL (pa_cons (pv 0) (pa_cons (pe_op op_cat (pe_callTy (klist K) (by rfl) T.b_list (by decide +kernel) (pa_cons (pv 1) pa_nil)) (pe_callTy (klist K) (by rfl) T.b_list (by decide +kernel) (pa_cons (pv 2) pa_nil))) pa_nil))))
 (pss_cons (ps_set (i := 5) sc_layable.nd rfl (by first | exact Or.inl rfl | exact Or.inr rfl) (pe_f (ok_free T) hr T.g_free passL (pa_cons (pv 0) (pa_cons (pv 1) (pa_cons (pv 2) (pa_cons (pv 3) pa_nil))))))
 (pss_one (ps_ret (pe_lc (own := [("number", 6)]) (by rfl) sc_layable.nd (kseq K (pv 5)) (blkOk_by (N := N_layable) (sc := defScope s_layable) (by decide +kernel)) (fun _ _ _ _ _ => (pg_name (i := 6) sc_layable.nd rfl (by first | exact Or.inl rfl | exact Or.inr rfl))) (fun _ _ _ _ _ => (pts_one (pt_cmpR op_isN (pe_f (ok_unfit T) hr T.g_unfit passL (pa_cons (pv 4) (pa_cons (pe_m (pv 0) (ok_Changes_edits_of T) T.c_Changes T.m_Changes_edits_of hr passL (pa_cons (pv 6) pa_nil)) pa_nil))) pe_non (nomark _)))) (fun _ _ _ _ _ => (pv 6))))))), ?_⟩
  have hlen := lo.ln
  rw [List.length_append] at hlen
  refine ⟨_, rfl, _, rfl, rd_list hx fun p1 ys1 H1 n1 e1 h1 d1 => ?_⟩
  have q1 := dpa_ints d1
  subst q1
  refine ⟨_, rfl, rd_list (dps_ex e1 hy) fun p2 ys2 H2 n2 e2 h2 d2 => ?_⟩
  have q2 := dpa_ints d2
  subst q2
  have e02 := e1.trans e2
  refine ⟨p1, p2, _, _, rfl, rfl, e2 _ _ h1, h2, by rw [List.length_map, List.length_map, ← List.length_append, sizeLine_eq]; omega, fun p np => ?_⟩
  rw [← List.map_append]
  have e3 : Ex H (upd H2 p (.lst ((line ++ laid).map V.int))) := e02.trans (Ex.new np)
  have wt := lo.wt
  rw [wtE_app] at wt
  refine ⟨c, a, chs, .ref p, line ++ laid, rfl, hc.ex e3, .inl (.lst (sq_of upd_same) (dpa_of_ints _)), lo.vl, lo.st, by omega, fun sh shs H4 nsh e4 hsh1 hsh2 => ?_⟩
  have hsh : Dp K H4 (.ref sh) (.list ((sheetM chs (line ++ laid)).map dPair)) := .lst (sq_of hsh1) hsh2
  have e04 := e3.trans e4
  refine ⟨_, rfl, _, rfl, _, rfl, _, rfl, c, a, chs, x, y, z, line, laid, waiting, rfl, hc.ex e04, dps_ex e04 hx, dps_ex e04 hy, dps_ex e04 hz, lo.vw, by omega, by omega, fun f H5 nf e5 hf => ?_⟩
  have e05 := e04.trans e5
  have hsub : ∀ n ∈ freeM chs line laid waiting, okN chs n := fun n hn => lo.vw n (free_sub hn)
  have hfl : (freeM chs line laid waiting).length ≤ waiting.length := List.length_filter_le _ _
  refine ⟨_, rfl, lc_d (K := K) ((freeM chs line laid waiting).map V.int) (freeM chs line laid waiting) (fun n => if (unfitM (sheetM chs (line ++ laid)) (getC chs n).edits).isNone = true then some (.int n) else none) (by rw [List.length_map]) (by omega) (.inl (sq_of hf)) ?_ ?_ ?_⟩
  · intro n e he
    split at he
    · cases he; rfl
    · cases he
  · intro n v H6 Yes No e6 hn i hv hi yes no
    rw [List.getElem?_map, hi] at hv
    cases hv
    have hn2 := hsub n hn
    have e06 := e05.trans e6
    refine ⟨rfl, _, rfl, _, rfl, c, _, _, rfl, (hc.ex e06).ob, rfl, _, rfl, c, a, chs, n, rfl, hc.ex e06, hn2.1, hn2.2, fun ed eds H7 ned e7 hed1 hed2 => ?_⟩
    have hed : Dp K H7 (.ref ed) (.list ((getC chs n).edits.map dEdit)) := .lst (sq_of hed1) hed2
    refine ⟨_, _, _, _, rfl, dp_ex ((e5.trans e6).trans e7) hsh, hed, fun H8 e8 => ?_⟩
    refine ⟨rfl, _, rfl, ?_⟩
    have e78 := e7.trans e8
    cases hu2 : unfitM (sheetM chs (line ++ laid)) (getC chs n).edits with
    | none => exact iteT ⟨_, rfl, yes _ _ _ e78 (by rw [hu2]; rfl) (.int _)⟩
    | some sl => exact iteF (no _ e78 (by rw [hu2]; rfl))
  · intro L ys H6 nL e6 hL hp
    have q4 : (freeM chs line laid waiting).filterMap (fun n => if (unfitM (sheetM chs (line ++ laid)) (getC chs n).edits).isNone = true then some (PyData.int n) else none) = (layableM chs line laid waiting).map PyData.int :=
      fm_if (fun n => (unfitM (sheetM chs (line ++ laid)) (getC chs n).edits).isNone) PyData.int _
    rw [q4] at hp
    rw [dpa_ints hp] at hL
    exact k L H6 (fresh_back e05 nL) (e05.trans e6) hL
def sp_next_laid (K : PySem.W.Frag) : Sp := fun vs H Q _ => ∃ c a chs x y z line laid waiting, vs = [.ref c, x, y, z] ∧ ChAt K H c a chs ∧ DpS K H x (line.map PyData.int) ∧ DpS K H y (laid.map PyData.int) ∧ DpS K H z (waiting.map PyData.int) ∧
  LayOk chs line laid waiting ∧ ∀ H', Ex H H' → Q (vOpt (nextM chs line laid waiting)) H'
abbrev N_next_laid : List Str := ["changes", "line", "laid", "waiting", "best", "number"]
theorem sc_next_laid : FnScope N_next_laid ["changes", "line", "laid", "waiting"] (defScope s_next_laid) := ⟨rfl, rfl, rfl, by decide +kernel, rfl, by decide +kernel, by decide +kernel⟩
-- slots: 0:changes 1:line 2:laid 3:waiting 4:best 5:number
theorem ok_next_laid (T : Tx K mg) : Ok P w K mg base 5 ("next_laid", none) ["changes", "line", "laid", "waiting"] (sp_next_laid K) := by
  refine T.ok 15 rfl (N := N_next_laid) rfl rfl sc_next_laid (fun vs H Q E h => ?_) (fun _ _ _ _ _ _ us hl => match us, hl with | [_, _, _, _], _ => rfl) (fun cdv A outer s H vs Q E hr h => ?_)
  · obtain ⟨_, _, _, _, _, _, _, _, _, rfl, _⟩ := h
    rfl
  have hu := hu_of hr
  obtain ⟨c, a, chs, x, y, z, line, laid, waiting, rfl, hc, hx, hy, hz, lo, k⟩ := h
  refine ⟨_, (pss_cons (ps_set (i := 4) sc_next_laid.nd rfl (by first | exact Or.inl rfl | exact Or.inr rfl) pe_non)
 (pss_cons (ps_for (passes_of rfl) rfl (kseq K (pe_f (ok_layable T) hr T.g_layable passL (pa_cons (pv 0) (pa_cons (pv 1) (pa_cons (pv 2) (pa_cons (pv 3) pa_nil)))))) (pg_name (i := 5) sc_next_laid.nd rfl (by first | exact Or.inl rfl | exact Or.inr rfl))
  (pss_one (ps_if (PW.pt (pw_or (pt_cmpR op_isN (pv 4) pe_non (nomark _)) (pw_or1 (pt_cmpR op_gt (pe_m (pv 0) (ok_Changes_rank_of T) T.c_Changes T.m_Changes_rank_of hr passL (pa_cons (pv 5) pa_nil)) (pe_m (pv 0) (ok_Changes_rank_of T) T.c_Changes T.m_Changes_rank_of hr passL (pa_cons (pv 4) pa_nil)) (nomark _))))) (pss_one (ps_set (i := 4) sc_next_laid.nd rfl (by first | exact Or.inl rfl | exact Or.inr rfl) (pv 5))) pss_nil)))
 (pss_one (ps_ret (pv 4))))), ?_⟩
  refine ⟨_, rfl, _, rfl, _, rfl, _, rfl, c, a, chs, x, y, z, line, laid, waiting, rfl, hc, hx, hy, hz, lo, fun p H1 np e1 hp => ?_⟩
  refine for_s ((layableM chs line laid waiting).map V.int) (layableM chs line laid waiting) (by rw [List.length_map]) (fun done todo σ' H' => ∃ b v5, σ' = [some (.ref c), some x, some y, some z, some (vOpt b), v5] ∧ H' = H1 ∧ (∀ m, b = some m → okN chs m) ∧ nextM chs line laid waiting = todo.foldl (bestStep chs) b)
    (HB := H1) (.inl (sq_of hp)) ⟨none, none, rfl, rfl, fun m h => by (cases h), rfl⟩ ?_ ?_ ?_
  · rintro done todo σ' H' _ ⟨_, _, _, rfl, _⟩
    exact stays_ex (Ex.refl _)
  · rintro done n todo v σ' H' he hv hdd ⟨b, v5, rfl, rfl, hb, hf⟩
    rw [List.getElem?_map, hdd] at hv
    cases hv
    have hn : okN chs n := lo.vw n (layable_sub (List.mem_of_getElem? hdd)).1
    rw [List.foldl_cons] at hf
    have hc1 := hc.ex e1
    cases b with
    | none =>
      refine ⟨_, rfl, rfl, _, rfl, iteT (iteT ⟨_, rfl, some n, _, rfl, rfl, fun m h => by cases h; exact hn, hf⟩)⟩
    | some m =>
      have hm := hb m rfl
      refine ⟨_, rfl, rfl, _, rfl, iteF ?_⟩
      refine ⟨_, rfl, c, _, _, rfl, hc1.ob, rfl, _, rfl, c, a, chs, n, rfl, hc1, hn.1, hn.2, ?_⟩
      refine ⟨_, rfl, c, _, _, rfl, hc1.ob, rfl, _, rfl, c, a, chs, m, rfl, hc1, hm.1, hm.2, ?_⟩
      refine ⟨_, _, rfl, rfl, _, rfl, ?_⟩
      unfold bestStep at hf
      refine ite2 (fun h => ?_) (fun h => ?_)
      · simp only [if_pos (dt h)] at hf
        exact ⟨_, rfl, some n, _, rfl, rfl, fun m h => by cases h; exact hn, hf⟩
      · simp only [if_neg (df h)] at hf
        exact ⟨some m, _, rfl, rfl, hb, hf⟩
  · rintro σ' H' ⟨b, v5, rfl, rfl, hb, hf⟩
    rw [show ([] : List Int).foldl (bestStep chs) b = b from rfl] at hf
    rw [hf] at k
    exact ⟨_, rfl, k _ e1⟩
def sp_filled (K : PySem.W.Frag) : Sp := fun vs H Q _ => ∃ c a chs x y z line laid waiting width, vs = [.ref c, x, y, z, .int width] ∧ ChAt K H c a chs ∧ DpS K H x (line.map PyData.int) ∧ DpS K H y (laid.map PyData.int) ∧ DpS K H z (waiting.map PyData.int) ∧
  LayOk chs line laid waiting ∧ ∀ p H', H p = none → Ex H H' → H' p = some (.lst ((filledM chs line laid waiting width).map V.int)) → Q (.ref p) H'
abbrev N_filled : List Str := ["changes", "line", "laid", "waiting", "width", "found", "left", "number"]
theorem sc_filled : FnScope N_filled ["changes", "line", "laid", "waiting", "width"] (defScope s_filled) := ⟨rfl, rfl, rfl, by decide +kernel, rfl, by decide +kernel, by decide +kernel⟩
-- slots: 0:changes 1:line 2:laid 3:waiting 4:width 5:found 6:left 7:number
theorem ok_filled (T : Tx K mg) : Ok P w K mg base 6 ("filled", none) ["changes", "line", "laid", "waiting", "width"] (sp_filled K) := by
  refine T.ok 16 rfl (N := N_filled) rfl rfl sc_filled (fun vs H Q E h => ?_) (fun _ _ _ _ _ _ us hl => match us, hl with | [_, _, _, _, _], _ => rfl) (fun cdv A outer s H vs Q E hr h => ?_)
  · obtain ⟨_, _, _, _, _, _, _, _, _, _, rfl, _⟩ := h
    rfl
  have hu := hu_of hr
  obtain ⟨c, a, chs, x, y, z, line, laid, waiting, width, rfl, hc, hx, hy, hz, lo, k⟩ := h
  refine ⟨_, (pss_cons (ps_set (i := 5) sc_filled.nd rfl (by first | exact Or.inl rfl | exact Or.inr rfl) (pe_callTy (klist K) (by rfl) T.b_list (by decide +kernel) (pa_cons (pv 2) pa_nil)))
 (pss_cons (ps_set (i := 6) sc_filled.nd rfl (by first | exact Or.inl rfl | exact Or.inr rfl) (pe_callTy (klist K) (by rfl) T.b_list (by decide +kernel) (pa_cons (pv 3) pa_nil)))
 (pss_cons (ps_set (i := 7) sc_filled.nd rfl (by first | exact Or.inl rfl | exact Or.inr rfl) pe_non)
 (pss_cut (ps_if (pt_cmpR op_lt (pe_callB (klen K) (by rfl) T.b_len (by decide +kernel) (pa_cons (pv 5) pa_nil)) (pv 4) (nomark _)) (pss_one (ps_set (i := 7) sc_filled.nd rfl (by first | exact Or.inl rfl | exact Or.inr rfl) (pe_f (ok_next_laid T) hr T.g_next_laid passL (pa_cons (pv 0) (pa_cons (pv 1) (pa_cons (pv 5) (pa_cons (pv 6) pa_nil))))))) pss_nil)
 (pss_cons (ps_while (passes_of rfl) (pt_cmpR op_notN (pv 7) pe_non (nomark _))
  (pss_cons (ps_expr (kbm K PySem.F.plainAttrs_list PySem.F.slot_list_append PySem.F.type_list_append mt_append (pv 5) (pa_cons (pv 7) pa_nil)))
 (pss_cons (ps_expr (kbm K PySem.F.plainAttrs_list PySem.F.slot_list_remove PySem.F.type_list_remove kremove (pv 6) (pa_cons (pv 7) pa_nil)))
 (pss_cons (ps_set (i := 7) sc_filled.nd rfl (by first | exact Or.inl rfl | exact Or.inr rfl) pe_non)
 (pss_one (ps_if (pt_cmpR op_lt (pe_callB (klen K) (by rfl) T.b_len (by decide +kernel) (pa_cons (pv 5) pa_nil)) (pv 4) (nomark _)) (pss_one (ps_set (i := 7) sc_filled.nd rfl (by first | exact Or.inl rfl | exact Or.inr rfl) (pe_f (ok_next_laid T) hr T.g_next_laid passL (pa_cons (pv 0) (pa_cons (pv 1) (pa_cons (pv 5) (pa_cons (pv 6) pa_nil))))))) pss_nil))))))
 (pss_one (ps_ret (pv 5)))))))), ?_⟩
  refine ⟨_, rfl, rd_list hy fun f ys1 H1 nf e1 h1 d1 => ?_⟩
  have q1 := dpa_ints d1
  subst q1
  refine ⟨_, rfl, rd_list (dps_ex e1 hz) fun l ys2 H2 nl e2 h2 d2 => ?_⟩
  have q2 := dpa_ints d2
  subst q2
  have e02 := e1.trans e2
  have nlH : H l = none := fresh_back e1 nl
  have nfl : f ≠ l := ne_of_none h1 nl
  -- the state ahead of a test of the while
  refine ⟨fun σ' H' => ∃ num, σ' = [some (.ref c), some x, some y, some z, some (.int width), some (.ref f), some (.ref l), some (vOpt num)] ∧ Ex H H' ∧ H' f = some (.lst (laid.map V.int)) ∧ H' l = some (.lst (waiting.map V.int)) ∧ num = if (laid.length : Int) < width then nextM chs line laid waiting else none, ?_, ?_⟩
  · refine ⟨_, rfl, f, _, rfl, .inl (sq_of (e2 _ _ h1)), _, rfl, _, _, rfl, rfl, _, rfl, ?_⟩
    rw [List.length_map]
    refine ite2 (fun h => ?_) (fun h => ?_)
    · refine ⟨_, rfl, _, rfl, _, rfl, _, rfl, c, a, chs, x, .ref f, .ref l, line, laid, waiting, rfl, hc.ex e02, dps_ex e02 hx, .inl (.lst (sq_of (e2 _ _ h1)) (dpa_of_ints _)), .inl (.lst (sq_of h2) (dpa_of_ints _)), lo, fun H3 e3 => ?_⟩
      exact ⟨_, rfl, e02.trans e3, e3 _ _ (e2 _ _ h1), e3 _ _ h2, by rw [if_pos (dt h)]⟩
    · exact ⟨none, rfl, e02, e2 _ _ h1, h2, by rw [if_neg (df h)]⟩
  rintro σ' H3 ⟨num, rfl, e3, hf3, hl3, hnum⟩
  refine ⟨fun m σ' H' => ∃ fnd lft, m = lft.length ∧ σ' = [some (.ref c), some x, some y, some z, some (.int width), some (.ref f), some (.ref l), some (vOpt (if (fnd.length : Int) < width then nextM chs line fnd lft else none))] ∧ Ex H H' ∧ H' f = some (.lst (fnd.map V.int)) ∧ H' l = some (.lst (lft.map V.int)) ∧ LayOk chs line fnd lft ∧ filledM chs line laid waiting width = fillM chs line width lft.length fnd lft,
    ⟨_, laid, waiting, rfl, by rw [hnum], e3, hf3, hl3, lo, rfl⟩, ?_⟩
  rintro m σ' H4 ⟨fnd, lft, rfl, rfl, e4, hf4, hl4, lo4, hfill⟩
  cases hn : (if (fnd.length : Int) < width then nextM chs line fnd lft else none) with
  | none =>
    refine ⟨_, rfl, rfl, _, rfl, iteF ?_⟩
    rw [fill_end hn] at hfill
    refine ⟨_, rfl, k f H4 nf e4 ?_⟩
    rw [hfill]
    exact hf4
  | some n =>
    have hw : (fnd.length : Int) < width := by
      by_cases h : (fnd.length : Int) < width
      · exact h
      · rw [if_neg h] at hn; cases hn
    rw [if_pos hw] at hn
    have lo5 := lo4.next hn
    have hmem := (layable_sub (next_mem hn)).1
    rw [fill_step hw hn] at hfill
    have hlen := lo4.ln
    rw [List.length_append, List.length_append] at hlen
    refine ⟨_, rfl, rfl, _, rfl, iteT ?_⟩
    refine ⟨fun σ' H' => ∃ fnd' lft', lft'.length < lft.length ∧ σ' = [some (.ref c), some x, some y, some z, some (.int width), some (.ref f), some (.ref l), some (vOpt (if (fnd'.length : Int) < width then nextM chs line fnd' lft' else none))] ∧ Ex H H' ∧ H' f = some (.lst (fnd'.map V.int)) ∧ H' l = some (.lst (lft'.map V.int)) ∧ LayOk chs line fnd' lft' ∧ filledM chs line laid waiting width = fillM chs line width lft'.length fnd' lft',
      fun σ' H' ⟨fnd', lft', h1, h2⟩ => ⟨_, h1, fnd', lft', rfl, h2⟩, ?_⟩
    -- found.append(number)
    refine ⟨_, rfl, .inl ⟨rfl, _, sq_of hf4⟩, _, rfl, f, _, _, rfl, rfl, hf4, by rw [List.length_map, sizeLine_eq]; omega, ?_⟩
    have e5 : Ex H (upd H4 f (.lst (fnd.map V.int ++ [vOpt (some n)]))) := Ex.mut e4 nf
    have hl5 : upd H4 f (.lst (fnd.map V.int ++ [vOpt (some n)])) l = some (.lst (lft.map V.int)) := by rw [upd_ne nfl.symm]; exact hl4
    have hf5 : upd H4 f (.lst (fnd.map V.int ++ [vOpt (some n)])) f = some (.lst ((fnd ++ [n]).map V.int)) := by rw [upd_same, List.map_append]; rfl
    generalize upd H4 f (.lst (fnd.map V.int ++ [vOpt (some n)])) = H5 at e5 hl5 hf5 ⊢
    -- left.remove(number)
    refine ⟨_, rfl, .inl ⟨rfl, _, sq_of hl5⟩, _, rfl, rd_remove hl5 hmem ?_⟩
    have e6 : Ex H (upd H5 l (.lst ((lft.erase n).map V.int))) := Ex.mut e5 nlH
    have hl6 : upd H5 l (.lst ((lft.erase n).map V.int)) l = some (.lst ((lft.erase n).map V.int)) := upd_same
    have hf6 : upd H5 l (.lst ((lft.erase n).map V.int)) f = some (.lst ((fnd ++ [n]).map V.int)) := by rw [upd_ne nfl]; exact hf5
    generalize upd H5 l (.lst ((lft.erase n).map V.int)) = H6 at e6 hl6 hf6 ⊢
    have hlt : (lft.erase n).length < lft.length := by
      rw [List.length_erase_of_mem hmem]
      have := List.length_pos_of_mem hmem
      omega
    refine ⟨_, rfl, f, _, rfl, .inl (sq_of hf6), _, rfl, _, _, rfl, rfl, _, rfl, ?_⟩
    rw [List.length_map]
    refine ite2 (fun h => ?_) (fun h => ?_)
    · refine ⟨_, rfl, _, rfl, _, rfl, _, rfl, c, a, chs, x, .ref f, .ref l, line, fnd ++ [n], lft.erase n, rfl, hc.ex e6, dps_ex e6 hx, .inl (.lst (sq_of hf6) (dpa_of_ints _)), .inl (.lst (sq_of hl6) (dpa_of_ints _)), lo5, fun H7 e7 => ?_⟩
      exact ⟨_, _, hlt, by rw [if_pos (dt h)]; rfl, e6.trans e7, e7 _ _ hf6, e7 _ _ hl6, lo5, hfill⟩
    · exact ⟨_, _, hlt, by rw [if_neg (df h)]; rfl, e6, hf6, hl6, lo5, hfill⟩
end LG

set_option Elab.async false
set_option linter.all false
set_option maxRecDepth 100000
set_option maxHeartbeats 4000000
namespace LG
open PySem PySem.Spec L2 Evl
open PyProof.Rows hiding St
variable {P : Program} {w : World} {K : PySem.W.Frag} {mg : Str → Option Value} {base : Heap}

def sp_greatest_gap (K : PySem.W.Frag) : Sp := fun vs H Q _ => ∃ a ns e, vs = [.ref a, .int e] ∧ H a = some (.lst (ns.map V.int)) ∧ ns.length < 1000000 ∧
  ∀ p H', Ex H H' → H' p = some (.tup [.int (gapM ns e).1, .int (gapM ns e).2.1, .int (gapM ns e).2.2]) → Q (.ref p) H'
abbrev N_greatest_gap : List Str := ["places", "end", "best", "low", "high"]
theorem sc_greatest_gap : FnScope N_greatest_gap ["places", "end"] (defScope s_greatest_gap) := ⟨rfl, rfl, rfl, by decide +kernel, rfl, by decide +kernel, by decide +kernel⟩
-- slots: 0:places 1:end 2:best 3:low 4:high
theorem ok_greatest_gap (T : Tx K mg) : Ok P w K mg base 1 ("greatest_gap", none) ["places", "end"] (sp_greatest_gap K) := by
  refine T.ok 17 rfl (N := N_greatest_gap) rfl rfl sc_greatest_gap (fun vs H Q E h => ?_) (fun _ _ _ _ _ _ us hl => match us, hl with | [_, _], _ => rfl) (fun cdv A outer s H vs Q E hr h => ?_)
  · obtain ⟨_, _, _, rfl, _⟩ := h
    rfl
  have hu := hu_of hr
  obtain ⟨a, ns, e, rfl, ha, hz, k⟩ := h
  refine ⟨_, (pss_cons (ps_set (i := 2) sc_greatest_gap.nd rfl (by first | exact Or.inl rfl | exact Or.inr rfl) (pe_tup (pa_cons pe_int (pa_cons pe_int (pa_cons pe_int pa_nil)))))
 (pss_cons (ps_set (i := 3) sc_greatest_gap.nd rfl (by first | exact Or.inl rfl | exact Or.inr rfl) pe_int)
 (pss_cons (ps_for (passes_of rfl) rfl (kseq K (pe_op op_cat (pv 0) (pe_lst (pa_cons (pv 1) pa_nil)))) (pg_name (i := 4) sc_greatest_gap.nd rfl (by first | exact Or.inl rfl | exact Or.inr rfl))
  (pss_cons (ps_if (pt_cmpR op_gt (pe_op op_sub (pe_op op_sub (pv 4) (pv 3)) pe_int) (pe_ix (kixt K) (pv 2) pe_int (fun _ _ => rfl)) (nomark _)) (pss_one (ps_set (i := 2) sc_greatest_gap.nd rfl (by first | exact Or.inl rfl | exact Or.inr rfl) (pe_tup (pa_cons (pe_op op_sub (pe_op op_sub (pv 4) (pv 3)) pe_int) (pa_cons (pv 3) (pa_cons (pv 4) pa_nil)))))) pss_nil)
 (pss_one (ps_set (i := 3) sc_greatest_gap.nd rfl (by first | exact Or.inl rfl | exact Or.inr rfl) (pv 4)))))
 (pss_one (ps_ret (pv 2)))))), ?_⟩
  refine ⟨by show 3 ≤ sizeLine; decide, fun b0 nb0 => ?_⟩
  have e0 : Ex H (upd H b0 (.tup [.int 0, .int 0, .int 0])) := Ex.new nb0
  have hb0 : upd H b0 (.tup [.int 0, .int 0, .int 0]) b0 = some (.tup [.int 0, .int 0, .int 0]) := upd_same
  generalize upd H b0 (.tup [.int 0, .int 0, .int 0]) = H0 at e0 hb0 ⊢
  refine ⟨_, rfl, _, rfl, (by show 1 ≤ sizeLine; decide), fun l nl => ⟨a, l, _, _, rfl, rfl, Ex.new nl _ _ (e0 _ _ ha), upd_same, by rw [List.length_map, sizeLine_eq]; simp; omega, fun p np => ?_⟩⟩
  have e1 : Ex H0 (upd (upd H0 l (.lst [.int e])) p (.lst (ns.map V.int ++ [.int e]))) := (Ex.new nl).trans (Ex.new np)
  have hp : upd (upd H0 l (.lst [.int e])) p (.lst (ns.map V.int ++ [.int e])) p = some (.lst ((ns ++ [e]).map V.int)) := by rw [upd_same, List.map_append]; rfl
  generalize upd (upd H0 l (.lst [.int e])) p (.lst (ns.map V.int ++ [.int e])) = H1 at e1 hp ⊢
  have e01 := e0.trans e1
  refine for_s ((ns ++ [e]).map V.int) (ns ++ [e]) (by rw [List.length_map]) (fun done todo σ' H' => ∃ (st : (Int × Int × Int) × Int) (b : Addr) (v4 : Option V), σ' = [some (.ref a), some (.int e), some (.ref b), some (.int st.2), v4] ∧ Ex H1 H' ∧ H' b = some (.tup [.int st.1.1, .int st.1.2.1, .int st.1.2.2]) ∧ gapM ns e = (todo.foldl gapStep st).1)
    (HB := H1) (.inl (sq_of hp)) ⟨((0, 0, 0), 0), b0, none, rfl, Ex.refl _, e1 _ _ hb0, rfl⟩ ?_ ?_ ?_
  · rintro done todo σ' H' _ ⟨_, _, _, _, e2, _⟩
    exact stays_ex e2
  · rintro done n todo v σ' H' he hv hdd ⟨st, b, v4, rfl, e2, hb, hf⟩
    rw [List.getElem?_map, hdd] at hv
    cases hv
    refine ⟨_, rfl, _, rfl, _, _, rfl, rfl, _, _, rfl, rfl, _, rfl, b, _, _, _, rfl, rfl, st_of hb, at_ix (j := 0) rfl rfl, _, _, rfl, rfl, _, rfl, ?_⟩
    rw [List.foldl_cons] at hf
    refine ite2 (fun c => ?_) (fun c => ?_)
    · refine ⟨_, rfl, _, rfl, _, _, rfl, rfl, _, _, rfl, rfl, _, rfl, _, rfl, by show 3 ≤ sizeLine; decide, fun t nt => ?_⟩
      refine ⟨_, rfl, (((n - st.2 - 1, st.2, n), n)), t, _, rfl, e2.trans (Ex.new nt), upd_same, ?_⟩
      unfold gapStep at hf
      rw [if_pos (dt c)] at hf
      exact hf
    · refine ⟨_, rfl, (st.1, n), b, _, rfl, e2, hb, ?_⟩
      unfold gapStep at hf
      rw [if_neg (df c)] at hf
      exact hf
  · rintro σ' H' ⟨st, b, v4, rfl, e2, hb, hf⟩
    refine ⟨_, rfl, k b H' (e01.trans e2) ?_⟩
    rw [hf]
    exact hb
def sp_wanted_places (K : PySem.W.Frag) : Sp := fun vs H Q _ => ∃ size bad x kept hands, vs = [.int size, vOpt bad, x, .int hands] ∧ DpS K H x (kept.map PyData.int) ∧ kept.length < 100000 ∧ hands < 1000 ∧
  ∀ p H', H p = none → Ex H H' → H' p = some (.lst ((wantedM size bad kept hands).map V.int)) → Q (.ref p) H'
abbrev N_wanted_places : List Str := ["size", "bad", "kept", "hands", "end", "places", "place", "gap", "low", "high"]
theorem sc_wanted_places : FnScope N_wanted_places ["size", "bad", "kept", "hands"] (defScope s_wanted_places) := ⟨rfl, rfl, rfl, by decide +kernel, rfl, by decide +kernel, by decide +kernel⟩
-- slots: 0:size 1:bad 2:kept 3:hands 4:end 5:places 6:place 7:gap 8:low 9:high
theorem ok_wanted_places (T : Tx K mg) : Ok P w K mg base 2 ("wanted_places", none) ["size", "bad", "kept", "hands"] (sp_wanted_places K) := by
  refine T.ok 18 rfl (N := N_wanted_places) rfl rfl sc_wanted_places (fun vs H Q E h => ?_) (fun _ _ _ _ _ _ us hl => match us, hl with | [_, _, _, _], _ => rfl) (fun cdv A outer s H vs Q E hr h => ?_)
  · obtain ⟨_, _, _, _, _, rfl, _⟩ := h
    rfl
  have hu := hu_of hr
  obtain ⟨size, bad, x, kept, hands, rfl, hx, hz, hh, k⟩ := h
  refine ⟨_, (pss_cons (ps_set (i := 4) sc_wanted_places.nd rfl (by first | exact Or.inl rfl | exact Or.inr rfl) (pv 1))
 (pss_cut (ps_if (pt_cmpR op_isN (pv 1) pe_non (nomark _)) (pss_one (ps_set (i := 4) sc_wanted_places.nd rfl (by first | exact Or.inl rfl | exact Or.inr rfl) (pe_op op_add (pv 0) pe_int))) pss_nil)
 (pss_cons (ps_setLc (i := 5) (own := [("place", 6)]) rfl sc_wanted_places.nd rfl rfl (sw_true rfl rfl rfl (by decide +kernel)) (kseq K (pv 2)) (blkOk_by (N := N_wanted_places) (sc := defScope s_wanted_places) (by decide +kernel)) (fun _ _ _ _ _ => (pg_name (i := 6) sc_wanted_places.nd rfl (by first | exact Or.inl rfl | exact Or.inr rfl))) (fun _ _ _ _ _ => (pts_one (pt_cmpR op_lt (pv 6) (pv 4) (nomark _)))) (fun _ _ _ _ _ => (pv 6)))
 (pss_cons (ps_while (passes_of rfl) (pt_cmpR op_lt (pe_callB (klen K) (by rfl) T.b_len (by decide +kernel) (pa_cons (pv 5) pa_nil)) (pv 3) (nomark _))
  (pss_cons (ps_asg (pe_f (ok_greatest_gap T) hr T.g_greatest_gap passL (pa_cons (pv 5) (pa_cons (pv 4) pa_nil))) (ktup K 3 (pgs_cons (pg_name (i := 7) sc_wanted_places.nd rfl (by first | exact Or.inl rfl | exact Or.inr rfl)) (pgs_cons (pg_name (i := 8) sc_wanted_places.nd rfl (by first | exact Or.inl rfl | exact Or.inr rfl)) (pgs_cons (pg_name (i := 9) sc_wanted_places.nd rfl (by first | exact Or.inl rfl | exact Or.inr rfl)) pgs_nil)))))
 (pss_cons (ps_if (pt_cmpR op_eq (pv 7) pe_int (nomark _)) (pss_one (ps_ret (pv 5))) pss_nil)
 (pss_cons (ps_set (i := 6) sc_wanted_places.nd rfl (by first | exact Or.inl rfl | exact Or.inr rfl) (pe_op op_fdiv (pe_op op_add (pv 8) (pv 9)) pe_int))
 (pss_cut (ps_if (PW.pt (pw_and (pt_cmpR op_isN (pv 1) pe_non (nomark _)) (pw_and1 (pt_cmpR (knin K) (pv 0) (pv 5) (by rfl))))) (pss_one (ps_set (i := 6) sc_wanted_places.nd rfl (by first | exact Or.inl rfl | exact Or.inr rfl) (pv 0))) pss_nil)
 (pss_one (ps_set (i := 5) sc_wanted_places.nd rfl (by first | exact Or.inl rfl | exact Or.inr rfl) (pe_callB (ksort K) (by rfl) T.b_sorted (by decide +kernel) (pa_cons (pe_op op_cat (pv 5) (pe_lst (pa_cons (pv 6) pa_nil))) pa_nil)))))))))
 (pss_one (ps_ret (pv 5))))))), ?_⟩
  refine ⟨_, rfl, fun σ' H' => σ' = [some (.int size), some (vOpt bad), some x, some (.int hands), some (.int (bad.getD (size + 1))), none, none, none, none, none] ∧ H = H', ?_, ?_⟩
  · refine ⟨_, rfl, rfl, _, rfl, ?_⟩
    cases bad with
    | none => exact iteT ⟨_, rfl, _, _, rfl, rfl, rfl, rfl⟩
    | some b => exact iteF ⟨rfl, rfl⟩
  rintro σ' H' ⟨rfl, rfl⟩
  obtain ⟨a, xs, rfl, sx, dx⟩ := dp_seq hx
  have q := dpa_ints dx
  subst q
  refine ⟨_, rfl, lc_d (K := K) (kept.map V.int) kept (fun p => if decide (p < bad.getD (size + 1)) = true then some (.int p) else none) (by rw [List.length_map]) (by omega) sx ?_ ?_ ?_⟩
  · intro n e he
    split at he
    · cases he; rfl
    · cases he
  · intro n v H1 Yes No e1 hn i hv hi yes no
    rw [List.getElem?_map, hi] at hv
    cases hv
    refine ⟨rfl, _, rfl, _, rfl, _, _, rfl, rfl, _, rfl, ?_⟩
    refine ite2 (fun c => ?_) (fun c => ?_)
    · exact ⟨_, rfl, yes _ _ _ (Ex.refl _) (if_pos c) (.int _)⟩
    · exact no _ (Ex.refl _) (if_neg c)
  · intro L ys H1 nL e1 hL hp
    rw [fm_if (fun p => decide (p < bad.getD (size + 1))) PyData.int kept] at hp
    rw [dpa_ints hp] at hL
    refine ⟨fun m σ' H' => ∃ places p v6 v7 v8 v9, σ' = [some (.int size), some (vOpt bad), some (.ref a), some (.int hands), some (.int (bad.getD (size + 1))), some (.ref p), v6, v7, v8, v9] ∧ Ex H H' ∧ H p = none ∧ H' p = some (.lst (places.map V.int)) ∧ hands ≤ (places.length : Int) + m ∧ places.length < 1000000 ∧ wantedM size bad kept hands = wantM size bad (bad.getD (size + 1)) hands m places,
      ⟨hands.toNat, _, L, _, _, _, _, rfl, e1, nL, hL, by omega, ?_, rfl⟩, ?_⟩
    · have := List.length_filter_le (fun p => decide (p < bad.getD (size + 1))) kept
      omega
    rintro m σ' H2 ⟨places, p, v6, v7, v8, v9, rfl, e2, np, hpl, hm, hz2, hw⟩
    refine ⟨_, rfl, p, _, rfl, .inl (sq_of hpl), _, rfl, _, _, rfl, rfl, _, rfl, ?_⟩
    rw [List.length_map]
    refine ite2 (fun c => ?_) (fun c => ?_)
    · have hlt := dt c
      cases m with
      | zero => omega
      | succ m =>
        rw [wantM, if_pos hlt] at hw
        refine ⟨fun σ' H' => ∃ places p v6 v7 v8 v9, σ' = [some (.int size), some (vOpt bad), some (.ref a), some (.int hands), some (.int (bad.getD (size + 1))), some (.ref p), v6, v7, v8, v9] ∧ Ex H H' ∧ H p = none ∧ H' p = some (.lst (places.map V.int)) ∧ hands ≤ (places.length : Int) + m ∧ places.length < 1000000 ∧ wantedM size bad kept hands = wantM size bad (bad.getD (size + 1)) hands m places,
          fun σ' H' h => ⟨m, Nat.lt_succ_self _, h⟩, ?_⟩
        refine ⟨_, rfl, _, rfl, p, places, _, rfl, hpl, hz2, fun t H3 e3 ht => ?_⟩
        refine ⟨t, _, rfl, st_of ht, rfl, _, _, rfl, _, _, rfl, _, _, rfl, rfl, ?_⟩
        have e23 := e2.trans e3
        have hpl3 := e3 _ _ hpl
        refine ⟨_, rfl, rfl, _, rfl, ?_⟩
        refine ite2 (fun c2 => ?_) (fun c2 => ?_)
        · rw [if_pos (V.int.inj (dt c2))] at hw
          rw [hw] at k
          exact ⟨_, rfl, k p H3 np e23 hpl3⟩
        · rw [if_neg fun z => df c2 (by rw [z])] at hw
          refine ⟨_, rfl, _, rfl, _, _, rfl, rfl, _, _, rfl, rfl, ⟨by decide, by decide⟩, ?_⟩
          refine ⟨fun σ' H' => ∃ pl v7 v8 v9, σ' = [some (.int size), some (vOpt bad), some (.ref a), some (.int hands), some (.int (bad.getD (size + 1))), some (.ref p), some (.int pl), v7, v8, v9] ∧ pl = (if bad = none ∧ size ∉ places then size else ((gapM places (bad.getD (size + 1))).2.1 + (gapM places (bad.getD (size + 1))).2.2) / 2) ∧ H3 = H', ?_, ?_⟩
          · refine ⟨_, rfl, rfl, _, rfl, ?_⟩
            cases bad with
            | some b =>
              refine iteF (iteF ?_)
              exact ⟨_, _, _, _, rfl, by rw [if_neg (fun z => by cases z.1)], rfl⟩
            | none =>
              refine iteT ⟨_, rfl, _, rfl, p, _, rfl, .inl (sq_of hpl3), rfl, flat_ints _, _, rfl, ?_⟩
              rw [inV_ints]
              show if (!decide (size ∈ places)) = true then _ else _
              by_cases hmem : size ∈ places
              · rw [decide_eq_true hmem]
                exact iteF ⟨_, _, _, _, rfl, by rw [if_neg (fun z => z.2 hmem)], rfl⟩
              · rw [decide_eq_false hmem]
                exact iteT ⟨_, rfl, _, _, _, _, rfl, by rw [if_pos ⟨rfl, hmem⟩], rfl⟩
          rintro σ' H4 ⟨pl, v7, v8, v9, rfl, hpl2, rfl⟩
          rw [← hpl2] at hw
          refine ⟨_, rfl, _, rfl, (by show 1 ≤ sizeLine; decide), fun l nl => ⟨p, l, _, _, rfl, rfl, Ex.new nl _ _ hpl3, upd_same, by rw [List.length_map, sizeLine_eq]; simp; omega, fun r nr => ?_⟩⟩
          have e4 : Ex H3 (upd (upd H3 l (.lst [.int pl])) r (.lst (places.map V.int ++ [.int pl]))) := (Ex.new nl).trans (Ex.new nr)
          have hr : upd (upd H3 l (.lst [.int pl])) r (.lst (places.map V.int ++ [.int pl])) r = some (.lst ((places ++ [pl]).map V.int)) := by rw [upd_same, List.map_append]; rfl
          generalize upd (upd H3 l (.lst [.int pl])) r (.lst (places.map V.int ++ [.int pl])) = H4 at e4 hr ⊢
          refine rd_sorted (sq_of hr) fun s H5 ns e5 hs => ?_
          have e05 := (e23.trans e4).trans e5
          refine ⟨_, s, _, _, _, _, rfl, e05, fresh_back (e23.trans e4) ns, hs, ?_, ?_, hw⟩
          · rw [isort_length, List.length_append]; simp; omega
          · rw [isort_length, List.length_append]; simp; omega
    · have hge := df c
      have hwz : wantM size bad (bad.getD (size + 1)) hands m places = places := by
        cases m with
        | zero => rfl
        | succ m => rw [wantM, if_neg hge]
      rw [hwz] at hw
      refine ⟨_, rfl, k p H2 np e2 ?_⟩
      rw [hw]
      exact hpl
end LG

set_option Elab.async false
set_option linter.all false
set_option maxRecDepth 100000
set_option maxHeartbeats 4000000
namespace LG
open PySem PySem.Spec L2 Evl
open PyProof.Rows hiding St
variable {P : Program} {w : World} {K : PySem.W.Frag} {mg : Str → Option Value} {base : Heap}

/-! ### tallies -/
def aS : Ans → Str
  | .yes => "yes"
  | .no => "no"
  | .unsure => "unsure"
def wS : Option Ans → Str
  | none => "more"
  | some a => aS a
def tF (need tries : Int) (m : Addr) (last : Str) : List (Str × V) := [("need", .int need), ("tries", .int tries), ("met", .ref m), ("last", .str last)]
def metK (y n u : Int) : List (Key × V) := [(Sum.inr "yes", .int y), (Sum.inr "no", .int n), (Sum.inr "unsure", .int u)]
structure TlAt (K : PySem.W.Frag) (H : Hp) (t tdx m : Addr) (ts : Tal) : Prop where
  ob : H t = some (.ins (He.ga K "Tally") tdx (tF ts.need ts.tries m (wS ts.last)))
  mt : H m = some (.dK (metK ts.yes ts.no ts.unsure))
theorem met_look (ts : Tal) (a : Ans) : valV (metK ts.yes ts.no ts.unsure) (Sum.inr (aS a) : Key) = some (.int (ts.cnt a)) := by cases a <;> rfl
theorem met_put (ts : Tal) (a : Ans) : putK (metK ts.yes ts.no ts.unsure) (Sum.inr (aS a) : Key) (.int (ts.cnt a + 1)) = metK (ts.bump a).yes (ts.bump a).no (ts.bump a).unsure := by cases a <;> rfl
theorem bump_last (ts : Tal) (a : Ans) : (ts.bump a).last = ts.last := by cases a <;> rfl
theorem bump_need (ts : Tal) (a : Ans) : (ts.bump a).need = ts.need := by cases a <;> rfl
theorem bump_tries (ts : Tal) (a : Ans) : (ts.bump a).tries = ts.tries := by cases a <;> rfl
theorem bump_cnt (ts : Tal) (a : Ans) : (ts.bump a).cnt a = ts.cnt a + 1 := by cases a <;> rfl
theorem aS_in (a : Ans) : inV (.str (aS a)) [.str "yes", .str "no", .str "unsure"] = true := by cases a <;> decide +kernel
theorem aS_unsure (a : Ans) : decide (V.str (aS a) = V.str "unsure") = decide (a = .unsure) := by cases a <;> decide +kernel
theorem wS_more (l : Option Ans) : decide (V.str (wS l) = V.str "more") = decide (l = none) := by
  cases l with
  | none => decide +kernel
  | some a => cases a <;> decide +kernel
section
variable {H H' : Hp} {t tdx m : Addr} {ts : Tal}
theorem TlAt.stay (h : TlAt K H t tdx m ts) (h1 : H' t = H t) (h2 : H' m = H m) : TlAt K H' t tdx m ts := ⟨h1.trans h.ob, h2.trans h.mt⟩
theorem TlAt.ex (h : TlAt K H t tdx m ts) (e : Ex H H') : TlAt K H' t tdx m ts := ⟨e _ _ h.ob, e _ _ h.mt⟩
end
def sp_Tally_init (K : PySem.W.Frag) : Sp := fun vs H Q _ => ∃ t tdx need tries, vs = [.ref t, .int need, .int tries] ∧ H t = some (.ins (He.ga K "Tally") tdx []) ∧ 1 ≤ need ∧ need ≤ tries ∧ tries ≤ 20 ∧
  ∀ H' m, H m = none → TlAt K H' t tdx m (Tal.new need tries) → (∀ b o, H b = some o → b ≠ t → H' b = some o) → Q .non H'
abbrev N_Tally_init : List Str := ["self", "need", "tries"]
theorem sc_Tally_init : FnScope N_Tally_init ["self", "need", "tries"] (defScope s_Tally_init) := ⟨rfl, rfl, rfl, by decide +kernel, rfl, by decide +kernel, by decide +kernel⟩
-- slots: 0:self 1:need 2:tries
theorem ok_Tally_init (T : Tx K mg) : Ok P w K mg base 1 ("Tally", some "__init__") ["self", "need", "tries"] (sp_Tally_init K) := by
  refine T.ok 19 rfl (N := N_Tally_init) rfl rfl sc_Tally_init (fun vs H Q E h => ?_) (fun _ _ _ _ _ _ us hl => match us, hl with | [_, _, _], _ => rfl) (fun cdv A outer s H vs Q E hr h => ?_)
  · obtain ⟨_, _, _, _, rfl, _⟩ := h
    rfl
  have hu := hu_of hr
  obtain ⟨t, tdx, need, tries, rfl, ht, h1, h2, h3, k⟩ := h
  refine ⟨_, (pss_cons (ps_if (PW.pt (pw_or (pt_cmpR op_lt (pv 1) pe_int (nomark _)) (pw_or (pt_cmpR op_lt (pv 2) (pv 1) (nomark _)) (pw_or1 (pt_cmpR op_gt (pv 2) pe_int (nomark _)))))) (pss_one (ps_rz T.x_NoRule T.g_NoRule (takes_of rfl rfl rfl rfl))) pss_nil)
 (pss_cons (ksfld K (pv 0) (pv 1))
 (pss_cons (ksfld K (pv 0) (pv 2))
 (pss_cons (ksfld K (pv 0) (pe_disp (pps_cons pe_str pe_int (pps_cons pe_str pe_int (pps_cons pe_str pe_int pps_nil))) (by rfl) (by rfl) (fun z => by cases z) (by decide)))
 (pss_one (ksfld K (pv 0) pe_str)))))), ?_⟩
  refine ⟨_, rfl, _, _, rfl, rfl, _, rfl, ?_⟩
  refine ite2 (fun c => absurd (dt c) (by omega)) (fun _ => ?_)
  refine ⟨_, rfl, _, rfl, _, _, rfl, rfl, _, rfl, ?_⟩
  refine ite2 (fun c => absurd (dt c) (by omega)) (fun _ => ?_)
  refine ⟨_, rfl, _, _, rfl, rfl, _, rfl, ?_⟩
  refine ite2 (fun c => absurd (dt c) (by omega)) (fun _ => ?_)
  refine ⟨_, rfl, _, rfl, t, _, tdx, [], rfl, ht, T.c_Tally, T.n_Tally_need, by decide, ?_⟩
  refine ⟨_, rfl, _, rfl, t, _, tdx, _, rfl, upd_same, T.c_Tally, T.n_Tally_tries, (by show 1 < 1000; decide), ?_⟩
  rw [upd_upd]
  intro m nm
  have ntm : t ≠ m := ne_of_none upd_same nm
  have nmH : H m = none := by rw [upd_ne ntm.symm] at nm; exact nm
  refine ⟨upd_same, [(Sum.inr "yes", .int 0), (Sum.inr "no", .int 0), (Sum.inr "unsure", .int 0)], rfl, by decide, ?_⟩
  rw [upd_upd]
  refine ⟨_, rfl, t, _, tdx, _, rfl, (by rw [upd_ne ntm]; exact upd_same), T.c_Tally, T.n_Tally_met, (by show 2 < 1000; decide), ?_⟩
  refine ⟨_, rfl, t, _, tdx, _, rfl, upd_same, T.c_Tally, T.n_Tally_last, (by show 3 < 1000; decide), ?_⟩
  rw [upd_upd]
  refine k _ m nmH ⟨upd_same, ?_⟩ (fun b o e hb => ?_)
  · rw [upd_ne ntm.symm]; exact upd_same
  · rw [upd_ne hb, upd_ne (ne_of_none e nmH), upd_ne hb]; exact e
def sp_Tally_counted (K : PySem.W.Frag) : Sp := fun vs H Q _ => ∃ t tdx m ts, vs = [.ref t] ∧ TlAt K H t tdx m ts ∧ ∀ p H', Ex H H' → H' p = some (.tup [.int ts.yes, .int ts.no, .int ts.unsure]) → Q (.ref p) H'
abbrev N_Tally_counted : List Str := ["self"]
theorem sc_Tally_counted : FnScope N_Tally_counted ["self"] (defScope s_Tally_counted) := ⟨rfl, rfl, rfl, by decide +kernel, rfl, by decide +kernel, by decide +kernel⟩
-- slots: 0:self
theorem ok_Tally_counted (T : Tx K mg) : Ok P w K mg base 1 ("Tally", some "counted") ["self"] (sp_Tally_counted K) := by
  refine T.ok 21 rfl (N := N_Tally_counted) rfl rfl sc_Tally_counted (fun vs H Q E h => ?_) (fun _ _ _ _ _ _ us hl => match us, hl with | [_], _ => rfl) (fun cdv A outer s H vs Q E hr h => ?_)
  · obtain ⟨_, _, _, _, rfl, _⟩ := h
    rfl
  have hu := hu_of hr
  obtain ⟨t, tdx, m, ts, rfl, ht, k⟩ := h
  refine ⟨_, (pss_one (ps_ret (pe_tup (pa_cons (pe_dget hu (kfld K (pv 0)) pe_str (fun _ _ => rfl)) (pa_cons (pe_dget hu (kfld K (pv 0)) pe_str (fun _ _ => rfl)) (pa_cons (pe_dget hu (kfld K (pv 0)) pe_str (fun _ _ => rfl)) pa_nil)))))), ?_⟩
  refine ⟨_, rfl, t, _, tdx, _, _, rfl, ht.ob, T.c_Tally, T.n_Tally_met, rfl, m, _, rfl, (met_look ts .yes) ▸ DGet.k (k := Sum.inr "yes") ht.mt, ?_⟩
  refine ⟨_, rfl, t, _, tdx, _, _, rfl, ht.ob, T.c_Tally, T.n_Tally_met, rfl, m, _, rfl, (met_look ts .no) ▸ DGet.k (k := Sum.inr "no") ht.mt, ?_⟩
  refine ⟨_, rfl, t, _, tdx, _, _, rfl, ht.ob, T.c_Tally, T.n_Tally_met, rfl, m, _, rfl, (met_look ts .unsure) ▸ DGet.k (k := Sum.inr "unsure") ht.mt, ?_⟩
  exact ⟨by show 3 ≤ sizeLine; decide, fun p np => k p _ (Ex.new np) upd_same⟩
def sp_Tally_word (K : PySem.W.Frag) : Sp := fun vs H Q _ => ∃ t tdx m ts, vs = [.ref t] ∧ TlAt K H t tdx m ts ∧ Q (.str (wS ts.last)) H
abbrev N_Tally_word : List Str := ["self"]
theorem sc_Tally_word : FnScope N_Tally_word ["self"] (defScope s_Tally_word) := ⟨rfl, rfl, rfl, by decide +kernel, rfl, by decide +kernel, by decide +kernel⟩
-- slots: 0:self
theorem ok_Tally_word (T : Tx K mg) : Ok P w K mg base 1 ("Tally", some "word") ["self"] (sp_Tally_word K) := by
  refine T.ok 22 rfl (N := N_Tally_word) rfl rfl sc_Tally_word (fun vs H Q E h => ?_) (fun _ _ _ _ _ _ us hl => match us, hl with | [_], _ => rfl) (fun cdv A outer s H vs Q E hr h => ?_)
  · obtain ⟨_, _, _, _, rfl, _⟩ := h
    rfl
  have hu := hu_of hr
  obtain ⟨t, tdx, m, ts, rfl, ht, k⟩ := h
  refine ⟨_, (pss_one (ps_ret (kfld K (pv 0)))), ?_⟩
  exact ⟨_, rfl, t, _, tdx, _, _, rfl, ht.ob, T.c_Tally, T.n_Tally_last, rfl, k⟩
def sp_Tally_tell (K : PySem.W.Frag) : Sp := fun vs H Q E => ∃ t tdx m ts a, vs = [.ref t, .str (aS a)] ∧ TlAt K H t tdx m ts ∧ (ts.last ≠ none → E (.ref (He.ga K "NoAnswer")) none H) ∧
  (ts.last = none → ∀ H', TlAt K H' t tdx m (ts.tell a) → (∀ b o, H b = some o → b ≠ t → b ≠ m → H' b = some o) → Q (.str (wS (ts.tell a).last)) H')
abbrev N_Tally_tell : List Str := ["self", "word"]
theorem sc_Tally_tell : FnScope N_Tally_tell ["self", "word"] (defScope s_Tally_tell) := ⟨rfl, rfl, rfl, by decide +kernel, rfl, by decide +kernel, by decide +kernel⟩
-- slots: 0:self 1:word
theorem ok_Tally_tell (T : Tx K mg) : Ok P w K mg base 2 ("Tally", some "tell") ["self", "word"] (sp_Tally_tell K) := by
  refine T.ok 20 rfl (N := N_Tally_tell) rfl rfl sc_Tally_tell (fun vs H Q E h => ?_) (fun _ _ _ _ _ _ us hl => match us, hl with | [_, _], _ => rfl) (fun cdv A outer s H vs Q E hr h => ?_)
  · obtain ⟨_, _, _, _, _, rfl, _⟩ := h
    rfl
  have hu := hu_of hr
  obtain ⟨t, tdx, m, ts, a, rfl, ht, k1, k2⟩ := h
  refine ⟨_, (pss_cons (ps_if (PW.pt (pw_or (pt_cmpR op_ne (kfld K (pv 0)) pe_str (nomark _)) (pw_or1 (pt_cmpR (knin K) (pv 1) (pe_glob (v := .ref (He.ga K "WORDS")) rfl T.g_WORDS rfl) (by rfl))))) (pss_one (ps_rz T.x_NoAnswer T.g_NoAnswer (takes_of rfl rfl rfl rfl))) pss_nil)
 (pss_cons (ps_dput hu (kfld K (pv 0)) (pv 1) (pe_op op_add (pe_dget hu (kfld K (pv 0)) (pv 1) (fun _ _ => rfl)) pe_int) rfl)
 (pss_cut (ps_if (PW.pt (pw_and (pt_cmpR op_ne (pv 1) pe_str (nomark _)) (pw_and1 (pt_cmpR op_eq (pe_dget hu (kfld K (pv 0)) (pv 1) (fun _ _ => rfl)) (kfld K (pv 0)) (nomark _))))) (pss_one (ksfld K (pv 0) (pv 1))) (pss_one (ps_if (pt_cmpR op_eq (pe_callB (ksumT K) (by rfl) T.b_sum (by decide +kernel) (pa_cons (pe_m0 (pv 0) (ok_Tally_counted T) T.c_Tally T.m_Tally_counted hr passL) pa_nil)) (kfld K (pv 0)) (nomark _)) (pss_one (ksfld K (pv 0) pe_str)) pss_nil)))
 (pss_one (ps_ret (kfld K (pv 0))))))), ?_⟩
  refine ⟨_, rfl, t, _, tdx, _, _, rfl, ht.ob, T.c_Tally, T.n_Tally_last, rfl, rfl, _, rfl, ?_⟩
  rw [wS_more]
  by_cases hl : ¬ ts.last = none
  · rw [decide_eq_false hl]
    exact iteT (iteT (k1 hl))
  have hl : ts.last = none := Classical.not_not.mp hl
  rw [decide_eq_true hl]
  refine iteF ⟨_, rfl, _, _, rfl, .inr (T.words _), rfl, rfl, _, rfl, ?_⟩
  rw [if_pos rfl, aS_in]
  refine iteF ?_
  have ntm : t ≠ m := ne_of ht.ob ht.mt (by intro z; cases z)
  -- self.met[word] = self.met[word] + 1
  refine ⟨_, rfl, t, _, tdx, _, _, rfl, ht.ob, T.c_Tally, T.n_Tally_met, rfl, _, rfl, m, _, rfl, (met_look ts a) ▸ DGet.k (k := Sum.inr (aS a)) ht.mt, _, _, rfl, rfl, ?_⟩
  refine ⟨_, rfl, t, _, tdx, _, _, rfl, ht.ob, T.c_Tally, T.n_Tally_met, rfl, _, rfl, m, _, rfl, DPut.k (k := Sum.inr (aS a)) ht.mt (by show 3 < sizeLine; decide), ?_⟩
  rw [met_put]
  have h1 : TlAt K (upd H m (.dK (metK (ts.bump a).yes (ts.bump a).no (ts.bump a).unsure))) t tdx m (ts.bump a) := ⟨by rw [upd_ne ntm, bump_need, bump_tries, bump_last]; exact ht.ob, upd_same⟩
  have f1 : ∀ b o, H b = some o → b ≠ t → b ≠ m → upd H m (.dK (metK (ts.bump a).yes (ts.bump a).no (ts.bump a).unsure)) b = some o := fun b o e _ n => by rw [upd_ne n]; exact e
  generalize upd H m (.dK (metK (ts.bump a).yes (ts.bump a).no (ts.bump a).unsure)) = H1 at h1 f1 ⊢
  have setl : ∀ (s : Option Ans) (H2 : Hp), Ex H1 H2 → TlAt K (upd H2 t (.ins (He.ga K "Tally") tdx (putF "last" (.str (wS s)) (tF (ts.bump a).need (ts.bump a).tries m (wS (ts.bump a).last))))) t tdx m { ts.bump a with last := s } := fun s H2 e2 =>
    ⟨upd_same, by rw [upd_ne ntm.symm]; exact e2 _ _ h1.mt⟩
  refine ⟨fun σ' H' => σ' = [some (.ref t), some (.str (aS a))] ∧ TlAt K H' t tdx m (ts.tell a) ∧ (∀ b o, H b = some o → b ≠ t → b ≠ m → H' b = some o), ?_, ?_⟩
  · refine if_and (decide (a ≠ .unsure)) (decide ((ts.bump a).cnt a = ts.need)) (fun Q' q => ⟨_, rfl, rfl, _, rfl, ?_⟩) (fun _ Q' q => ?_) ?_
    · rw [aS_unsure, ← decide_not]
      exact q
    · refine ⟨_, rfl, t, _, tdx, _, _, rfl, h1.ob, T.c_Tally, T.n_Tally_met, rfl, _, rfl, m, _, rfl, (met_look (ts.bump a) a) ▸ DGet.k (k := Sum.inr (aS a)) h1.mt, ?_⟩
      refine ⟨_, rfl, t, _, tdx, _, _, rfl, h1.ob, T.c_Tally, T.n_Tally_need, rfl, rfl, _, rfl, ?_⟩
      rw [bump_need]
      have e : decide (V.int ((ts.bump a).cnt a) = V.int ts.need) = decide ((ts.bump a).cnt a = ts.need) := by
        by_cases z : (ts.bump a).cnt a = ts.need
        · rw [z, decide_eq_true rfl, decide_eq_true rfl]
        · rw [decide_eq_false z, decide_eq_false fun y => z (V.int.inj y)]
      rw [e]
      exact q
    have fr : ∀ (s : Option Ans) (H2 : Hp), Ex H1 H2 → ∀ b o, H b = some o → b ≠ t → b ≠ m → upd H2 t (.ins (He.ga K "Tally") tdx (putF "last" (.str (wS s)) (tF (ts.bump a).need (ts.bump a).tries m (wS (ts.bump a).last)))) b = some o := fun s H2 e2 b o e n1 n2 => by
      rw [upd_ne n1]; exact e2 _ _ (f1 b o e n1 n2)
    rw [← Bool.decide_and]
    refine ite2 (fun c => ?_) (fun c => ?_)
    · have e : ts.tell a = { ts.bump a with last := some a } := by
        unfold Tal.tell
        rw [if_pos (dt c)]
      refine ⟨_, rfl, _, rfl, t, _, tdx, _, rfl, h1.ob, T.c_Tally, T.n_Tally_last, (by show 4 < 1000; decide), rfl, ?_, fr (some a) H1 (Ex.refl _)⟩
      rw [e]
      exact setl (some a) H1 (Ex.refl _)
    · refine ⟨_, rfl, t, tdx, _, rfl, h1.ob, rfl, t, tdx, m, _, rfl, h1, fun p H2 e2 hp => ?_⟩
      refine ⟨p, [(ts.bump a).yes, (ts.bump a).no, (ts.bump a).unsure], rfl, st_of hp, ?_⟩
      refine ⟨_, rfl, t, _, tdx, _, _, rfl, (h1.ex e2).ob, T.c_Tally, T.n_Tally_tries, rfl, rfl, _, rfl, ?_⟩
      have es : [(ts.bump a).yes, (ts.bump a).no, (ts.bump a).unsure].sum = (ts.bump a).yes + (ts.bump a).no + (ts.bump a).unsure := by
        simp only [List.sum_cons, List.sum_nil]
        omega
      rw [es, bump_tries]
      refine ite2 (fun c2 => ?_) (fun c2 => ?_)
      · have e : ts.tell a = { ts.bump a with last := some .unsure } := by
          unfold Tal.tell
          rw [if_neg (df c), if_pos (V.int.inj (dt c2))]
        refine ⟨_, rfl, t, _, tdx, _, rfl, (h1.ex e2).ob, T.c_Tally, T.n_Tally_last, (by show 4 < 1000; decide), rfl, ?_, fr (some .unsure) H2 e2⟩
        rw [e]
        exact setl (some .unsure) H2 e2
      · have e : ts.tell a = ts.bump a := by
          unfold Tal.tell
          rw [if_neg (df c), if_neg fun z => df c2 (by rw [z])]
        rw [e]
        exact ⟨rfl, h1.ex e2, fun b o eb n1 n2 => e2 _ _ (f1 b o eb n1 n2)⟩
  · rintro σ' H' ⟨rfl, h2, f2⟩
    exact ⟨_, rfl, t, _, tdx, _, _, rfl, h2.ob, T.c_Tally, T.n_Tally_last, rfl, k2 hl H' h2 f2⟩
end LG

set_option Elab.async false
set_option linter.all false
set_option maxRecDepth 100000
set_option maxHeartbeats 4000000
/-! Cells that one holds, and what a deed on them leaves as it is. -/
namespace LG
open PySem PySem.Spec L2 Evl
open PyProof.Rows hiding St
abbrev Cell := Addr × HO
structure Holds (H : Hp) (cs : List Cell) : Prop where
  get : ∀ c ∈ cs, H c.1 = some c.2
  nd : (cs.map (·.1)).Nodup
/-- from F to F': only what is in F has changed, F' holds but F and what is new -/
structure Fr (F F' : List Addr) (H H' : Hp) : Prop where
  out : ∀ b o, H b = some o → b ∉ F → H' b = some o
  new : ∀ b, b ∈ F' → b ∈ F ∨ H b = none
  old : ∀ b, H' b = none → H b = none
  keep : Keep H H'
theorem Fr.refl (F : List Addr) (H : Hp) : Fr F F H H := ⟨fun _ _ h _ => h, fun _ h => .inl h, fun _ h => h, Keep.refl H⟩
theorem Fr.trans {F F1 F2 : List Addr} {H H1 H2 : Hp} (a : Fr F F1 H H1) (b : Fr F1 F2 H1 H2) : Fr F F2 H H2 where
  out := fun x o h n => b.out x o (a.out x o h n) fun m => by
    rcases a.new x m with z | z
    · exact n z
    · rw [h] at z; cases z
  new := fun x m => by
    rcases b.new x m with z | z
    · exact a.new x z
    · exact .inr (a.old x z)
  old := fun x h => a.old x (b.old x h)
  keep := a.keep.trans b.keep
theorem Fr.of_ex {F : List Addr} {H H' : Hp} (e : Ex H H') : Fr F F H H' := ⟨fun b o h _ => e b o h, fun _ h => .inl h, fun b h => fresh_back e h, Keep.of_ex e⟩
/-- objects that are changed -/
def isMut : HO → Bool
  | .tup _ => false
  | .frz _ _ => false
  | _ => true
theorem keep_mut {H : Hp} {x : Addr} {o u : HO} (h : H x = some u) (hm : isMut u = true) : Keep H (upd H x o) :=
  ⟨fun b xs e => by rw [upd_ne fun z => by rw [z, h] at e; cases e; cases hm]; exact e, fun b p q e => by rw [upd_ne fun z => by rw [z, h] at e; cases e; cases hm]; exact e⟩
theorem Fr.upd {F : List Addr} {H : Hp} {x : Addr} {o u : HO} (hx : x ∈ F) (h : H x = some u) (hm : isMut u = true) : Fr F F H (upd H x o) where
  out := fun b p e n => by rw [upd_ne fun z => n (by rw [z]; exact hx)]; exact e
  new := fun _ h => .inl h
  old := fun b e => by
    by_cases z : b = x
    · rw [z, upd_same] at e; cases e
    · rw [upd_ne z] at e; exact e
  keep := keep_mut h hm
section
variable {H H1 : Hp} {cs : List Cell} {i j : Nat} {x q : Addr} {o u u' : HO}
theorem Holds.at (h : Holds H cs) (i : Nat) {x : Addr} {o : HO} (e : cs[i]? = some (x, o)) : H x = some o := h.get (x, o) (List.mem_of_getElem? e)
theorem Holds.ex (h : Holds H cs) (e : Ex H H1) : Holds H1 cs := ⟨fun c hc => e _ _ (h.get c hc), h.nd⟩
theorem Holds.mem (h : Holds H cs) {x : Addr} (hx : x ∈ cs.map (·.1)) : H x ≠ none := by
  obtain ⟨c, hc, rfl⟩ := List.mem_map.mp hx
  rw [h.get c hc]
  intro z; cases z
theorem nd_ixs {l : List Addr} (n : l.Nodup) {i j : Nat} {x y : Addr} (h1 : l[i]? = some x) (h2 : l[j]? = some y) (h : i ≠ j) : x ≠ y := fun e => by
  subst e
  obtain ⟨a1, b1⟩ := List.getElem?_eq_some_iff.mp h1
  obtain ⟨a2, b2⟩ := List.getElem?_eq_some_iff.mp h2
  exact h ((List.getElem_inj n).mp (b1.trans b2.symm))
theorem Holds.ne (h : Holds H cs) (i j : Nat) {x y : Addr} {o u : HO} (h1 : cs[i]? = some (x, o)) (h2 : cs[j]? = some (y, u)) (hij : i ≠ j := by decide) : x ≠ y :=
  nd_ixs h.nd (i := i) (j := j) (by rw [List.getElem?_map, h1]; rfl) (by rw [List.getElem?_map, h2]; rfl) hij
theorem set_fst {cs : List Cell} {i : Nat} {x : Addr} {o u : HO} (h : cs[i]? = some (x, o)) : (cs.set i (x, u)).map (·.1) = cs.map (·.1) := by
  rw [List.map_set]
  refine List.ext_getElem? fun k => ?_
  rw [List.getElem?_set]
  by_cases e : i = k
  · subst e
    rw [if_pos rfl, List.getElem?_map, h]
    have := (List.getElem?_eq_some_iff.mp h).1
    simp [this]
  · rw [if_neg e]
/-- the i-th cell is changed in its place -/
theorem Holds.upd (h : Holds H cs) (i : Nat) {x : Addr} {o u : HO} (e : cs[i]? = some (x, o)) : Holds (upd H x u) (cs.set i (x, u)) := by
  refine ⟨fun c hc => ?_, by rw [set_fst e]; exact h.nd⟩
  obtain ⟨k, hk⟩ := List.mem_iff_getElem?.mp hc
  rw [List.getElem?_set] at hk
  by_cases ek : i = k
  · subst ek
    rw [if_pos rfl] at hk
    split at hk
    · cases hk; exact upd_same
    · cases hk
  · rw [if_neg ek] at hk
    have ne : c.1 ≠ x := h.ne k i (x := c.1) (o := c.2) hk e (fun z => ek z.symm)
    rw [upd_ne ne]
    exact h.get c (List.mem_of_getElem? hk)
theorem nd_set : ∀ {l : List Addr} {i : Nat} {q : Addr}, l.Nodup → q ∉ l → (l.set i q).Nodup
  | [], _, _, h, _ => h
  | a :: r, 0, q, h, n => List.nodup_cons.mpr ⟨fun m => n (List.mem_cons_of_mem _ m), (List.nodup_cons.mp h).2⟩
  | a :: r, i + 1, q, h, n => by
    obtain ⟨h1, h2⟩ := List.nodup_cons.mp h
    refine List.nodup_cons.mpr ⟨fun m => ?_, nd_set h2 fun m => n (List.mem_cons_of_mem _ m)⟩
    rcases List.mem_or_eq_of_mem_set m with z | z
    · exact h1 z
    · exact n (by rw [z]; exact List.mem_cons_self)
/-- the i-th cell is another, new one -/
theorem Holds.swap (h : Holds H cs) (e : Ex H H1) (nq : H q = none) (hq : H1 q = some o) (i : Nat) : Holds H1 (cs.set i (q, o)) := by
  have nin : q ∉ cs.map (·.1) := fun m => h.mem m nq
  refine ⟨fun c hc => ?_, ?_⟩
  · rcases List.mem_or_eq_of_mem_set hc with z | z
    · exact e _ _ (h.get c z)
    · rw [z]; exact hq
  · rw [List.map_set]
    exact nd_set h.nd nin
theorem Fr.swap {F : List Addr} (e : Ex H H1) (nq : H q = none) (i : Nat) : Fr F (F.set i q) H H1 where
  out := fun b o h _ => e b o h
  new := fun b h => by
    rcases List.mem_or_eq_of_mem_set h with z | z
    · exact .inl z
    · exact .inr (by rw [z]; exact nq)
  old := fun b h => fresh_back e h
  keep := Keep.of_ex e
/-- other cells, held too -/
theorem Holds.app {cs ds : List Cell} (h : Holds H cs) (h2 : Holds H ds) (ap : ∀ b, b ∈ cs.map (·.1) → b ∈ ds.map (·.1) → False) : Holds H (cs ++ ds) :=
  ⟨fun c hc => (List.mem_append.mp hc).elim (h.get c) (h2.get c), by
    rw [List.map_append]
    exact List.nodup_append.mpr ⟨h.nd, h2.nd, fun a ha b hb e => ap a ha (by rw [e]; exact hb)⟩⟩
theorem Holds.fr {F F' : List Addr} (h : Holds H cs) (f : Fr F F' H H1) (ap : ∀ b, b ∈ F → b ∈ cs.map (·.1) → False) : Holds H1 cs :=
  ⟨fun c hc => f.out _ _ (h.get c hc) fun m => ap c.1 m (List.mem_map.mpr ⟨c, hc, rfl⟩), h.nd⟩
/-- apart stays apart -/
theorem Fr.apart {F F' G : List Addr} (f : Fr F F' H H1) (hG : ∀ b ∈ G, H b ≠ none) (ap : ∀ b, b ∈ F → b ∈ G → False) : ∀ b, b ∈ F' → b ∈ G → False := fun b h1 h2 => by
  rcases f.new b h1 with z | z
  · exact ap b z h2
  · exact hG b h2 z
end
end LG

set_option Elab.async false
set_option linter.all false
set_option maxRecDepth 100000
set_option maxHeartbeats 4000000
/-! The gate's objects. -/
namespace LG
open PySem PySem.Spec L2 Evl
open PyProof.Rows hiding St
variable {K : PySem.W.Frag} {H H' H1 : Hp}
def dOpt : Option Int → PyData
  | none => .none
  | some i => .int i
def dGround : Ground → PyData
  | .withdrawn => .tuple [.str "withdrawn"]
  | .leans n => .tuple [.str "leans", .int n]
  | .look good l w => .tuple [.str "look", dInts good, dInts l, .str (wS w)]
  | .unfit s => .tuple [.str "unfit", dOpt s]
theorem nl_ground (r : Ground) : noList (dGround r) = true := by
  cases r with
  | withdrawn => rfl
  | leans n => rfl
  | look good l w =>
    show (noList (.str "look") && (noList (dInts good) && (noList (dInts l) && (true && true)))) = true
    rw [nl_ints, nl_ints]
    rfl
  | unfit s => cases s <;> rfl
theorem dp_opt {o : Option Int} : Dp K H (vOpt o) (dOpt o) := by
  cases o with
  | none => exact .non
  | some i => exact .int i
/-! ### tables side by side -/
section
variable {κ α β : Type} [DecidableEq κ] {R R' : β → α → Prop}
abbrev PK (R : β → α → Prop) : List (κ × β) → List (κ × α) → Prop := Paired fun q p => q.1 = p.1 ∧ R q.2 p.2
theorem pk_look {k : κ} : ∀ {tb : List (κ × β)} {kn : List (κ × α)}, PK R tb kn → (look tb k = none ∧ look kn k = none) ∨ ∃ b a, look tb k = some b ∧ look kn k = some a ∧ R b a
  | _, _, .nil => .inl ⟨rfl, rfl⟩
  | q :: tb, p :: kn, .cons h t => by
    rw [look_cons, look_cons]
    by_cases e : q.1 = k
    · rw [if_pos e, if_pos (h.1.symm.trans e)]
      exact .inr ⟨_, _, rfl, rfl, h.2⟩
    · rw [if_neg e, if_neg fun z => e (h.1.trans z)]
      exact pk_look t
theorem pk_keys : ∀ {tb : List (κ × β)} {kn : List (κ × α)}, PK R tb kn → tb.map (·.1) = kn.map (·.1)
  | _, _, .nil => rfl
  | _ :: _, _ :: _, .cons h t => by rw [List.map_cons, List.map_cons, h.1, pk_keys t]
theorem pk_len {tb : List (κ × β)} {kn : List (κ × α)} (h : PK R tb kn) : tb.length = kn.length := by
  have := congrArg List.length (pk_keys h)
  simpa using this
theorem pk_mono (f : ∀ b a, R b a → R' b a) : ∀ {tb : List (κ × β)} {kn : List (κ × α)}, PK R tb kn → PK R' tb kn
  | _, _, .nil => .nil
  | _ :: _, _ :: _, .cons h t => .cons ⟨h.1, f _ _ h.2⟩ (pk_mono f t)
theorem pk_snoc {k : κ} {b : β} {a : α} (hr : R b a) : ∀ {tb : List (κ × β)} {kn : List (κ × α)}, PK R tb kn → PK R (tb ++ [(k, b)]) (kn ++ [(k, a)])
  | _, _, .nil => .cons ⟨rfl, hr⟩ .nil
  | _ :: _, _ :: _, .cons h t => .cons h (pk_snoc hr t)
theorem pk_any {k : κ} : ∀ {tb : List (κ × β)} {kn : List (κ × α)}, PK R tb kn → (tb.any fun kv => decide (kv.1 = k)) = kn.any fun kv => decide (kv.1 = k)
  | _, _, .nil => rfl
  | _ :: _, _ :: _, .cons h t => by rw [List.any_cons, List.any_cons, h.1, pk_any t]
theorem pk_put {k : κ} {b : β} {a : α} (hr : R b a) {tb : List (κ × β)} {kn : List (κ × α)} (h : PK R tb kn) : PK R (put tb k b) (put kn k a) := by
  unfold put
  rw [pk_any h]
  by_cases c : (kn.any fun kv => decide (kv.1 = k)) = true
  · rw [if_pos c, if_pos c]
    clear c
    induction h with
    | nil => exact .nil
    | cons h1 t ih =>
      rename_i q p tb kn
      rw [List.map_cons, List.map_cons]
      refine .cons ?_ ih
      by_cases e : q.1 = k
      · rw [if_pos e, if_pos (h1.1.symm.trans e)]
        exact ⟨h1.1.symm ▸ rfl, hr⟩
      · rw [if_neg e, if_neg fun z => e (h1.1.trans z)]
        exact h1
  · rw [if_neg c, if_neg c]
    exact pk_snoc hr h
theorem any_of_look {tb : List (κ × β)} {k : κ} (h : look tb k = none) : (tb.any fun kv => decide (kv.1 = k)) = false := by
  induction tb with
  | nil => rfl
  | cons q r ih =>
    rw [look_cons] at h
    by_cases e : q.1 = k
    · rw [if_pos e] at h; cases h
    · rw [if_neg e] at h
      rw [List.any_cons, ih h, decide_eq_false e]
      rfl
theorem put_new {tb : List (κ × β)} {k : κ} {b : β} (h : look tb k = none) : put tb k b = tb ++ [(k, b)] := by
  unfold put
  rw [any_of_look h, if_neg (by simp)]
theorem put_keys {tb : List (κ × β)} {k : κ} {b b' : β} (h : look tb k = some b') : (put tb k b).map (·.1) = tb.map (·.1) ∧ put tb k b = tb.map fun kv => if kv.1 = k then (kv.1, b) else kv := by
  have : (tb.any fun kv => decide (kv.1 = k)) = true := by
    induction tb with
    | nil => cases h
    | cons q r ih =>
      rw [look_cons] at h
      rw [List.any_cons]
      by_cases e : q.1 = k
      · rw [decide_eq_true e]; rfl
      · rw [if_neg e] at h
        rw [ih h, Bool.or_true]
  unfold put
  rw [if_pos this]
  refine ⟨?_, rfl⟩
  rw [List.map_map]
  refine List.map_congr_left fun q _ => ?_
  show (if q.1 = k then (q.1, b) else q).1 = q.1
  split <;> rfl
theorem look_mem {tb : List (κ × β)} {k : κ} {b : β} (h : look tb k = some b) : (k, b) ∈ tb := by
  induction tb with
  | nil => cases h
  | cons q r ih =>
    rw [look_cons] at h
    by_cases e : q.1 = k
    · rw [if_pos e] at h
      cases h
      rw [← e]
      exact List.mem_cons_self
    · rw [if_neg e] at h
      exact List.mem_cons_of_mem _ (ih h)
theorem look_of_mem {tb : List (κ × β)} {k : κ} {b : β} (n : (tb.map (·.1)).Nodup) (h : (k, b) ∈ tb) : look tb k = some b := by
  induction tb with
  | nil => cases h
  | cons q r ih =>
    rw [look_cons]
    rw [List.map_cons] at n
    obtain ⟨n1, n2⟩ := List.nodup_cons.mp n
    rcases List.mem_cons.mp h with e | e
    · subst e
      rw [if_pos rfl]
    · rw [if_neg ?_]
      · exact ih n2 e
      · intro z
        exact n1 (List.mem_map.mpr ⟨(k, b), e, z.symm⟩)
/-- put what stands there already -/
theorem put_same {tb : List (κ × β)} {k : κ} {b : β} (n : (tb.map (·.1)).Nodup) (h : look tb k = some b) : put tb k b = tb := by
  rw [(put_keys (b := b) h).2]
  rw [List.map_congr_left (g := id), List.map_id]
  intro q hq
  by_cases e : q.1 = k
  · have h2 : look tb q.1 = some q.2 := look_of_mem n hq
    rw [e, h] at h2
    rw [if_pos e]
    cases h2
    rfl
  · rw [if_neg e]; rfl
end
/-! ### the gate -/
abbrev TA3 := Addr × Addr × Addr
structure GA where
  p : Addr
  dx : Addr
  house : Addr
  st : Addr
  ca : ChA
  top : Addr
  upon : Addr
  queue : Addr
  gone : Addr
  asked : Addr
  grown : Addr
  ended : Addr
  known : Addr
  tolls : Addr
  gv : List (Int × V)
  av : List V
  gr : List V
  en : List V
  tl : List Int
  tb : List (List Int × TA3)
def gF (a : GA) (h : Bool) : List (Str × V) := [("house", .ref a.house), ("store", .ref a.st), ("top", .ref a.top), ("upon", .ref a.upon), ("queue", .ref a.queue), ("gone", .ref a.gone), ("asked", .ref a.asked), ("halted", .bl h), ("grown", .ref a.grown),
  ("ended", .ref a.ended), ("known", .ref a.known), ("tolls", .ref a.tolls)]
/-- the dicts' contents -/
def goneK (gv : List (Int × V)) : List (Key × V) := gv.map fun p => (Sum.inl p.1, p.2)
def lk (l : List Int) : List Key := l.map Sum.inl
def knownK (tb : List (List Int × TA3)) : List (List Key × V) := tb.map fun q => (lk q.1, V.ref q.2.1)
theorem lk_inj : ∀ a b : List Int, lk a = lk b → a = b := fun a b h => (List.map_inj_right fun x y z => Sum.inl.inj z).mp h
theorem lk_kV (l : List Int) : (lk l).map kV = l.map V.int := by unfold lk; rw [List.map_map]; rfl
def cells (K : PySem.W.Frag) (a : GA) (g : GS) : List Cell := [
  (a.p, .ins (He.ga K "Gate") a.dx (gF a g.halted)),
  (a.st, .ins (He.ga K "Changes") a.ca.dx (chF a.ca.rk a.ca.ln a.ca.ed)),
  (a.ca.rk, .lst (g.chs.map fun c => V.int c.rank)),
  (a.ca.ln, .lst a.ca.lv),
  (a.ca.ed, .lst a.ca.ev),
  (a.top, .lst (g.top.map V.int)),
  (a.upon, .lst (g.upon.map V.int)),
  (a.queue, .lst (g.queue.map V.int)),
  (a.gone, .dK (goneK a.gv)),
  (a.asked, .lst a.av),
  (a.grown, .lst a.gr),
  (a.ended, .lst a.en),
  (a.known, .dT (knownK a.tb)),
  (a.tolls, .lst (a.tl.map V.int))]
def tbA (tb : List (List Int × TA3)) : List Addr := tb.flatMap fun q => [q.2.1, q.2.2.2]
def foot (a : GA) : List Addr := [a.p, a.st, a.ca.rk, a.ca.ln, a.ca.ed, a.top, a.upon, a.queue, a.gone, a.asked, a.grown, a.ended, a.known, a.tolls] ++ tbA a.tb
/-- what stands in the tuples, and the sizes -/
structure GR (K : PySem.W.Frag) (H : Hp) (a : GA) (g : GS) : Prop where
  house : H a.house = some (.tup [.int g.width, .int g.hands, .int g.need, .int g.tries])
  lv : DpAll K H a.ca.lv (g.chs.map fun c => dInts c.leans)
  ev : DpAll K H a.ca.ev (g.chs.map fun c => dEdits c.edits)
  sz : ∀ c ∈ g.chs, c.leans.length < 1000 ∧ c.edits.length < 1000
  gone : PK (fun v r => Dp K H v (dGround r)) a.gv g.gone
  asked : DpAll K H a.av (g.asked.map dInts)
  gr : a.gr.length ≤ g.cnt
  en : a.en.length ≤ g.cnt
  tl : a.tl.length = 5
/-- the tallies -/
structure KnAt (K : PySem.W.Frag) (H : Hp) (tb : List (List Int × TA3)) (kn : List (List Int × Tal)) : Prop where
  at_ : PK (fun q t => TlAt K H q.1 q.2.1 q.2.2 t) tb kn
  keys : (kn.map (·.1)).Nodup
  nd : (tbA tb).Nodup
structure GtAt (K : PySem.W.Frag) (H : Hp) (a : GA) (g : GS) : Prop where
  cs : Holds H (cells K a g)
  r : GR K H a g
  kn : KnAt K H a.tb g.known
  ap : ∀ b, b ∈ (cells K a g).map (·.1) → b ∈ tbA a.tb → False
theorem GR.keep {a : GA} {g : GS} (h : GR K H a g) (k : Keep H H') : GR K H' a g :=
  ⟨k.tup _ _ h.house, dpa_keep k (nl_map (fun _ => nl_ints _) _) h.lv, dpa_keep k (nl_map (fun _ => nl_edits _) _) h.ev, h.sz, pk_mono (fun _ _ q => dp_keep k (nl_ground _) q) h.gone, dpa_keep k (nl_map nl_ints _) h.asked, h.gr, h.en, h.tl⟩
theorem tbA_mem {tb : List (List Int × TA3)} {q : List Int × TA3} (h : q ∈ tb) : q.2.1 ∈ tbA tb ∧ q.2.2.2 ∈ tbA tb :=
  ⟨List.mem_flatMap.mpr ⟨q, h, by simp⟩, List.mem_flatMap.mpr ⟨q, h, by simp⟩⟩
theorem pk_imp {κ α β : Type} {R R' : β → α → Prop} : ∀ {tb : List (κ × β)} {kn : List (κ × α)}, (∀ q p, q ∈ tb → R q.2 p → R' q.2 p) → PK R tb kn → PK R' tb kn
  | _, _, _, .nil => .nil
  | q :: _, p :: _, f, .cons h t => .cons ⟨h.1, f q p.2 List.mem_cons_self h.2⟩ (pk_imp (fun q p hq => f q p (List.mem_cons_of_mem _ hq)) t)
theorem KnAt.stay {tb : List (List Int × TA3)} {kn : List (List Int × Tal)} (h : KnAt K H tb kn) (k : ∀ b ∈ tbA tb, H' b = H b) : KnAt K H' tb kn :=
  ⟨pk_imp (fun q p hq t => t.stay (k _ (tbA_mem hq).1) (k _ (tbA_mem hq).2)) h.at_, h.keys, h.nd⟩
theorem KnAt.ex {tb : List (List Int × TA3)} {kn : List (List Int × Tal)} (h : KnAt K H tb kn) (e : Ex H H') : KnAt K H' tb kn :=
  ⟨pk_mono (fun _ _ t => t.ex e) h.at_, h.keys, h.nd⟩
section
variable {a : GA} {g : GS}
theorem GtAt.ex (h : GtAt K H a g) (e : Ex H H') : GtAt K H' a g := ⟨h.cs.ex e, h.r.keep (Keep.of_ex e), h.kn.ex e, h.ap⟩
theorem foot_eq (a : GA) (g : GS) : foot a = (cells K a g).map (·.1) ++ tbA a.tb := rfl
theorem tb_there {tb : List (List Int × TA3)} {kn : List (List Int × Tal)} (h : PK (fun q t => TlAt K H q.1 q.2.1 q.2.2 t) tb kn) : ∀ b ∈ tbA tb, H b ≠ none := by
  induction h with
  | nil => intro b hb; cases hb
  | cons h1 t ih =>
    rename_i q p tb kn
    intro b hb
    have hb' : b = q.2.1 ∨ b = q.2.2.2 ∨ b ∈ tbA tb := by
      have : b ∈ [q.2.1, q.2.2.2] ++ tbA tb := hb
      simpa [or_assoc] using this
    rcases hb' with e | e | e
    · rw [e, h1.2.ob]; intro z; cases z
    · rw [e, h1.2.mt]; intro z; cases z
    · exact ih b e
theorem GtAt.there (h : GtAt K H a g) : ∀ b ∈ foot a, H b ≠ none := fun b hb => by
  rw [foot_eq (K := K) a g] at hb
  rcases List.mem_append.mp hb with m | m
  · exact h.cs.mem m
  · exact tb_there h.kn.at_ b m
/-- a gate that nothing touches -/
theorem GtAt.fr {F F' : List Addr} (h : GtAt K H a g) (f : Fr F F' H H') (ap : ∀ b, b ∈ F → b ∈ foot a → False) : GtAt K H' a g := by
  refine ⟨h.cs.fr f fun b h1 h2 => ap b h1 ?_, h.r.keep f.keep, h.kn.stay fun b hb => ?_, h.ap⟩
  · rw [foot_eq (K := K) a g]
    exact List.mem_append_left _ h2
  · have hn := tb_there h.kn.at_ b hb
    cases e : H b with
    | none => exact absurd e hn
    | some o =>
      refine f.out b o e fun m => ap b m ?_
      rw [foot_eq (K := K) a g]
      exact List.mem_append_right _ hb
theorem GtAt.chs (h : GtAt K H a g) : ChAt K H a.st a.ca g.chs :=
  ⟨h.cs.at 1 rfl, h.cs.at 2 rfl, h.cs.at 3 rfl, h.cs.at 4 rfl, h.r.lv, h.r.ev, by
    have n := h.cs.nd
    have : [a.st, a.ca.rk, a.ca.ln, a.ca.ed].Sublist ((cells K a g).map (·.1)) := by
      show [a.st, a.ca.rk, a.ca.ln, a.ca.ed].Sublist (a.p :: ([a.st, a.ca.rk, a.ca.ln, a.ca.ed] ++ _))
      exact (List.sublist_append_left _ _).cons _
    exact n.sublist this, h.r.sz⟩
end
end LG

set_option Elab.async false
set_option linter.all false
set_option maxRecDepth 100000
set_option maxHeartbeats 4000000
/-! Plain laws of the mirror: the gate stays sound. -/
namespace LG
def allN (n : Nat) : List Int := (List.range n).map fun (i : Nat) => (i : Int) + 1
theorem allN_len (n : Nat) : (allN n).length = n := by unfold allN; rw [List.length_map, List.length_range]
theorem allN_mem {n : Nat} {m : Int} : m ∈ allN n ↔ 1 ≤ m ∧ m ≤ (n : Int) := by
  unfold allN
  rw [List.mem_map]
  constructor
  · rintro ⟨i, hi, rfl⟩
    have := List.mem_range.mp hi
    omega
  · rintro ⟨h1, h2⟩
    exact ⟨(m - 1).toNat, List.mem_range.mpr (by omega), by omega⟩
theorem allN_nd (n : Nat) : (allN n).Nodup := by
  unfold allN
  refine List.Pairwise.map (R := fun a b => a ≠ b) _ (fun a b h e => h (by omega)) List.nodup_range
theorem allN_succ (n : Nat) : allN (n + 1) = allN n ++ [(n : Int) + 1] := by
  unfold allN
  rw [List.range_succ, List.map_append]
  rfl
def GS.keys (g : GS) : List Int := g.gone.map (·.1)
def GS.all (g : GS) : List Int := g.top ++ g.upon ++ g.queue ++ g.keys
structure WF (N : Nat) (g : GS) : Prop where
  pm : g.all.Perm (allN g.chs.length)
  few : g.chs.length ≤ N
  hN : N ≤ 20
  sm : ∀ c ∈ g.chs, c.leans.length ≤ 3 ∧ c.edits.length ≤ 3
  vc : ∀ (i : Nat) c, g.chs[i]? = some c → validC i c = true
  st : standsM g.chs (g.top ++ g.upon)
  so : g.queue.Pairwise (· < ·)
  wd : 1 ≤ g.width
  hn : g.hands < 1000
  n1 : 1 ≤ g.need
  n2 : g.need ≤ g.tries
  n3 : g.tries ≤ 20
  kl : g.known.length ≤ g.cnt
  ct : g.cnt ≤ N
theorem getC_sm {chs : List Chg} (sm : ∀ c ∈ chs, c.leans.length ≤ 3 ∧ c.edits.length ≤ 3) (n : Int) : (getC chs n).leans.length ≤ 3 ∧ (getC chs n).edits.length ≤ 3 := by
  unfold getC
  rw [List.getD_eq_getElem?_getD]
  cases h : chs[(n - 1).toNat]? with
  | none => exact ⟨Nat.zero_le _, Nat.zero_le _⟩
  | some c => exact sm c (List.mem_of_getElem? h)
theorem wtE_sm {chs : List Chg} (sm : ∀ c ∈ chs, c.leans.length ≤ 3 ∧ c.edits.length ≤ 3) : ∀ row : List Int, wtE chs row ≤ 3 * row.length
  | [] => Nat.le_refl _
  | n :: r => by
    have h1 := (getC_sm sm n).2
    have h2 := wtE_sm sm r
    have e : wtE chs (n :: r) = (getC chs n).edits.length + wtE chs r := by simp [wtE]
    rw [e, List.length_cons]
    omega
/-! ### what rising says -/
theorem rising_all : ∀ {ns : List Int} {last most : Int}, risingM ns last most = true → (∀ n ∈ ns, last < n ∧ n ≤ most) ∧ ns.Pairwise (· < ·)
  | [], _, _, _ => ⟨fun _ h => (by cases h), .nil⟩
  | n :: ns, last, most, h => by
    rw [risingM] at h
    split at h
    · cases h
    · rename_i c
      obtain ⟨a, b⟩ := rising_all h
      refine ⟨fun m hm => ?_, List.pairwise_cons.mpr ⟨fun m hm => (a m hm).1, b⟩⟩
      rcases List.mem_cons.mp hm with e | e
      · subst e; omega
      · have := a m e; omega
theorem valid_leans {i : Nat} {c : Chg} (h : validC i c = true) : ∀ m ∈ c.leans, 1 ≤ m ∧ m ≤ (i : Int) := by
  intro m hm
  have hr : areRising c.leans 1 i = true := by
    unfold validC at h
    cases hh : areRising c.leans 1 i with
    | true => rfl
    | false => rw [hh] at h; simp at h
  have := (rising_all hr).1 m hm
  omega
section
variable {N : Nat} {g : GS}
theorem WF.leans (W : WF N g) {n m : Int} (hm : m ∈ (getC g.chs n).leans) (h1 : 1 ≤ n) : 1 ≤ m ∧ m < n ∧ m ≤ (g.chs.length : Int) := by
  unfold getC at hm
  rw [List.getD_eq_getElem?_getD] at hm
  cases h : g.chs[(n - 1).toNat]? with
  | none => rw [h] at hm; cases hm
  | some c =>
    rw [h] at hm
    have := valid_leans (W.vc _ c h) m hm
    have := (List.getElem?_eq_some_iff.mp h).1
    omega
theorem WF.len (W : WF N g) : g.top.length + g.upon.length + g.queue.length + g.gone.length = g.chs.length := by
  have h := W.pm.length_eq
  rw [allN_len] at h
  simpa [GS.all, GS.keys, Nat.add_assoc] using h
theorem WF.nd (W : WF N g) : g.all.Nodup := (W.pm.nodup_iff).mpr (allN_nd _)
theorem WF.okA (W : WF N g) {n : Int} (h : n ∈ g.all) : okN g.chs n := allN_mem.mp (W.pm.mem_iff.mp h)
theorem WF.inA (W : WF N g) {n : Int} (h : okN g.chs n) : n ∈ g.all := W.pm.mem_iff.mpr (allN_mem.mpr h)
theorem mem_all {n : Int} : n ∈ g.all ↔ n ∈ g.top ∨ n ∈ g.upon ∨ n ∈ g.queue ∨ n ∈ g.keys := by
  unfold GS.all; simp [or_assoc]
theorem WF.okT (W : WF N g) {n : Int} (h : n ∈ g.top) : okN g.chs n := W.okA (mem_all.mpr (.inl h))
theorem WF.okU (W : WF N g) {n : Int} (h : n ∈ g.upon) : okN g.chs n := W.okA (mem_all.mpr (.inr (.inl h)))
theorem WF.okQ (W : WF N g) {n : Int} (h : n ∈ g.queue) : okN g.chs n := W.okA (mem_all.mpr (.inr (.inr (.inl h))))
theorem WF.lay (W : WF N g) : LayOk g.chs g.top g.upon g.queue := by
  have l := W.len
  have f := W.few
  have hN := W.hN
  have e : (g.top ++ g.upon ++ g.queue).length ≤ 20 := by simp only [List.length_append]; omega
  refine ⟨fun n h => (List.mem_append.mp h).elim W.okT W.okU, fun n h => W.okQ h, W.st, ?_, by omega⟩
  have := wtE_sm W.sm (g.top ++ g.upon ++ g.queue)
  omega
theorem isGone_iff {n : Int} : g.isGone n = true ↔ n ∈ g.keys := by
  unfold GS.isGone GS.keys
  constructor
  · intro h
    cases e : LG.look g.gone n with
    | none => rw [e] at h; cases h
    | some r => exact List.mem_map.mpr ⟨_, look_mem e, rfl⟩
  · intro h
    obtain ⟨p, hp, rfl⟩ := List.mem_map.mp h
    cases e : LG.look g.gone p.1 with
    | some r => rfl
    | none =>
      have := any_of_look e
      rw [List.any_eq_false] at this
      exact absurd (decide_eq_true rfl) (this p hp)
theorem not_gone {n : Int} (h : n ∉ g.keys) : LG.look g.gone n = none := by
  cases e : LG.look g.gone n with
  | none => rfl
  | some r => exact absurd (isGone_iff.mp (by unfold GS.isGone; rw [e]; rfl)) h
theorem WF.q_keys (W : WF N g) {n : Int} (h : n ∈ g.queue) : n ∉ g.keys := by
  have := W.nd
  unfold GS.all at this
  intro z
  exact (List.nodup_append.mp this).2.2 n (List.mem_append_right _ h) n z rfl
/-! ### waiting again, put out -/
theorem lt_of_le_nd {l : List Int} (h : l.Pairwise (· ≤ ·)) (n : l.Nodup) : l.Pairwise (· < ·) := by
  have := List.pairwise_and_iff.mpr ⟨h, n⟩
  exact this.imp fun ⟨a, b⟩ => by omega
theorem again_perm (g : GS) (k : Nat) : (g.waitAgain k).all.Perm g.all := by
  unfold GS.all GS.keys GS.waitAgain
  refine List.Perm.append_right _ ?_
  show (g.top ++ g.upon.take k ++ isort (g.queue ++ g.upon.drop k)).Perm (g.top ++ g.upon ++ g.queue)
  rw [List.append_assoc, List.append_assoc]
  refine List.Perm.append_left _ ?_
  have h1 : (g.upon.take k ++ isort (g.queue ++ g.upon.drop k)).Perm (g.upon.take k ++ (g.upon.drop k ++ g.queue)) := List.Perm.append_left _ ((isort_perm _).trans List.perm_append_comm)
  rw [← List.append_assoc, List.take_append_drop] at h1
  exact h1
theorem WF.again (W : WF N g) (k : Nat) : WF N (g.waitAgain k) := by
  have pm := (again_perm g k).trans W.pm
  refine ⟨pm, W.few, W.hN, W.sm, W.vc, ?_, ?_, W.wd, W.hn, W.n1, W.n2, W.n3, W.kl, W.ct⟩
  · show standsM g.chs (g.top ++ g.upon.take k)
    refine stands_pre (b := g.upon.drop k) ?_
    rw [List.append_assoc, List.take_append_drop]
    exact W.st
  · have nd : (g.waitAgain k).all.Nodup := (pm.nodup_iff).mpr (allN_nd _)
    unfold GS.all at nd
    have nd2 := (List.nodup_append.mp (List.nodup_append.mp nd).1).2.1
    exact lt_of_le_nd (isort_sorted _) nd2
theorem WF.out (W : WF N g) {n : Int} (h : n ∈ g.queue) (r : Ground) : WF N (g.putOut n r) ∧ (g.putOut n r).keys = g.keys ++ [n] := by
  have e : put g.gone n r = g.gone ++ [(n, r)] := put_new (not_gone (W.q_keys h))
  have ek : (g.putOut n r).keys = g.keys ++ [n] := by
    show (put g.gone n r).map (·.1) = g.gone.map (·.1) ++ [n]
    rw [e, List.map_append]; rfl
  refine ⟨⟨?_, W.few, W.hN, W.sm, W.vc, W.st, ?_, W.wd, W.hn, W.n1, W.n2, W.n3, W.kl, W.ct⟩, ek⟩
  · refine List.Perm.trans ?_ W.pm
    unfold GS.all
    rw [ek]
    show (g.top ++ g.upon ++ g.queue.erase n ++ (g.keys ++ [n])).Perm (g.top ++ g.upon ++ g.queue ++ g.keys)
    rw [List.append_assoc, List.append_assoc (g.top ++ g.upon)]
    refine List.Perm.append_left _ ?_
    rw [← List.append_assoc]
    have h1 : (g.queue.erase n ++ g.keys ++ [n]).Perm (n :: (g.queue.erase n ++ g.keys)) := List.perm_append_comm
    refine h1.trans ?_
    rw [← List.cons_append]
    exact List.Perm.append_right _ (List.perm_cons_erase h).symm
  · exact W.so.sublist List.erase_sublist
def GS.mu (g : GS) : Nat := g.queue.length + g.upon.length
theorem out_mu {n : Int} (h : n ∈ g.queue) (r : Ground) : (g.putOut n r).mu + 1 = g.mu := by
  show (g.queue.erase n).length + g.upon.length + 1 = g.queue.length + g.upon.length
  rw [List.length_erase_of_mem h]
  have := List.length_pos_of_mem h
  omega
theorem again_mu (g : GS) (k : Nat) : (g.waitAgain k).mu = g.mu := by
  show (isort (g.queue ++ g.upon.drop k)).length + (g.upon.take k).length = _
  rw [isort_length, List.length_append, List.length_drop, List.length_take]
  unfold GS.mu
  omega
end
/-! ### out by leaning -/
theorem sorted_head {a : Int} {l : List Int} (h : (a :: l).Pairwise (· < ·)) : ∀ m ∈ l, a < m := (List.pairwise_cons.mp h).1
section
variable {N : Nat}
/-- one step: sound, and what is behind stays clear -/
theorem WF.lean (W : WF N g) {n : Int} (h : n ∈ g.queue) : WF N (g.leanStep n) ∧ (∀ m, m ≠ n → (m ∈ (g.leanStep n).queue ↔ m ∈ g.queue)) ∧ (∀ m, m < n → m ∈ (g.leanStep n).queue → g.outLeans m = [] → (g.leanStep n).outLeans m = []) ∧ (n ∈ (g.leanStep n).queue → (g.leanStep n).outLeans n = []) ∧ (g.leanStep n).mu ≤ g.mu ∧ (g.leanStep n).chs = g.chs := by
  unfold GS.leanStep
  by_cases c : g.outLeans n = []
  · rw [if_pos c]
    exact ⟨W, fun _ _ => .rfl, fun _ _ _ h => h, fun _ => c, Nat.le_refl _, rfl⟩
  · rw [if_neg c]
    obtain ⟨W1, ek⟩ := W.out h (.leans (GS.leastOf (g.outLeans n)))
    refine ⟨W1, fun m hm => ?_, fun m hlt hm hc => ?_, fun hm => ?_, by have := out_mu h (.leans (GS.leastOf (g.outLeans n))); omega, rfl⟩
    · show m ∈ g.queue.erase n ↔ _
      exact List.mem_erase_of_ne hm
    · generalize GS.leastOf (g.outLeans n) = least at *
      unfold GS.outLeans at hc ⊢
      rw [List.filter_eq_nil_iff] at hc ⊢
      intro x hx hg
      have := isGone_iff.mp hg
      rw [ek] at this
      rcases List.mem_append.mp this with z | z
      · exact hc x hx (isGone_iff.mpr z)
      · rw [List.mem_singleton.mp z] at hx
        have := (W1.leans hx (W1.okQ hm).1).2.1
        omega
    · have nd := W.so.imp (fun {a b} (h : a < b) => (show a ≠ b by omega))
      have : n ∈ g.queue.erase n := hm
      exact absurd this (List.Nodup.not_mem_erase nd)
theorem WF.leanL : ∀ (todo : List Int) (g : GS), WF N g → todo.Pairwise (· < ·) → (∀ n ∈ todo, n ∈ g.queue) → (∀ m ∈ g.queue, m ∉ todo → g.outLeans m = [] ∧ ∀ n ∈ todo, m < n) →
    WF N (todo.foldl GS.leanStep g) ∧ (∀ m ∈ (todo.foldl GS.leanStep g).queue, (todo.foldl GS.leanStep g).outLeans m = []) ∧ (todo.foldl GS.leanStep g).mu ≤ g.mu ∧ (todo.foldl GS.leanStep g).chs = g.chs
  | [], g, W, _, _, h => ⟨W, fun m hm => (h m hm (by simp)).1, Nat.le_refl _, rfl⟩
  | n :: r, g, W, hs, hq, h => by
    rw [List.foldl_cons]
    obtain ⟨W1, q1, q2, q3, q4, q5⟩ := W.lean (hq n List.mem_cons_self)
    have hh := sorted_head hs
    obtain ⟨a, b, c, d⟩ := WF.leanL r (g.leanStep n) W1 (List.pairwise_cons.mp hs).2 (fun m hm => (q1 m fun e => by have := hh m hm; omega).mpr (hq m (List.mem_cons_of_mem _ hm))) (fun m hm hn => by
      by_cases e : m = n
      · subst e; exact ⟨q3 hm, hh⟩
      · have h1 := h m ((q1 m e).mp hm) (by simp [e, hn])
        have h2 := h1.2 n List.mem_cons_self
        exact ⟨q2 m h2 hm h1.1, fun z hz => by have := hh z hz; omega⟩)
    exact ⟨a, b, by omega, d.trans q5⟩
theorem WF.byLeaning {g : GS} (W : WF N g) : WF N g.byLeaning ∧ (∀ m ∈ g.byLeaning.queue, g.byLeaning.outLeans m = []) ∧ g.byLeaning.mu ≤ g.mu ∧ g.byLeaning.chs = g.chs := by
  unfold GS.byLeaning
  exact WF.leanL g.queue g W W.so (fun _ h => h) (fun m hm hn => absurd hm hn)
/-! ### filled -/
/-- what filling leaves -/
theorem fill_spec {chs : List Chg} {line : List Int} {width : Int} : ∀ (k : Nat) (found left : List Int), LayOk chs line found left → left.Nodup → ∃ more, fillM chs line width k found left = found ++ more ∧ (∀ n ∈ more, n ∈ left) ∧ more.Nodup ∧ standsM chs (line ++ (found ++ more))
  | 0, found, left, L, _ => ⟨[], by simp [fillM], fun _ h => (by cases h), .nil, by rw [List.append_nil]; exact L.st⟩
  | k + 1, found, left, L, nd => by
    rw [fillM]
    by_cases c : (found.length : Int) < width
    · rw [if_pos c]
      cases hn : nextM chs line found left with
      | none => exact ⟨[], by simp, fun _ h => (by cases h), .nil, by rw [List.append_nil]; exact L.st⟩
      | some n =>
        have hm := (layable_sub (next_mem hn)).1
        obtain ⟨more, e, h1, h2, h3⟩ := fill_spec (width := width) k (found ++ [n]) (left.erase n) (L.next hn) (nd.sublist List.erase_sublist)
        refine ⟨n :: more, by show fillM chs line width k (found ++ [n]) (left.erase n) = _; rw [e]; simp, fun m hm2 => ?_, List.nodup_cons.mpr ⟨fun z => List.Nodup.not_mem_erase nd (h1 n z), h2⟩, by simpa using h3⟩
        rcases List.mem_cons.mp hm2 with z | z
        · rw [z]; exact hm
        · exact List.mem_of_mem_erase (h1 m z)
    · rw [if_neg c]
      exact ⟨[], by simp, fun _ h => (by cases h), .nil, by rw [List.append_nil]; exact L.st⟩
theorem perm_more {left more : List Int} (nd : left.Nodup) (nm : more.Nodup) (h : ∀ n ∈ more, n ∈ left) : (more ++ left.filter fun n => !decide (n ∈ more)).Perm left := by
  have h1 : (left.filter (fun n => decide (n ∈ more)) ++ left.filter fun n => !decide (n ∈ more)).Perm left := List.filter_append_perm _ _
  have h2 : more.Perm (left.filter fun n => decide (n ∈ more)) := by
    refine (List.perm_ext_iff_of_nodup nm (nd.sublist List.filter_sublist)).mpr fun a => ?_
    rw [List.mem_filter, decide_eq_true_iff]
    exact ⟨fun z => ⟨h a z, z⟩, fun z => z.2⟩
  exact (List.Perm.append_right _ h2).trans h1
theorem WF.refill {g : GS} (W : WF N g) : WF N g.refill ∧ g.refill.mu = g.mu ∧ g.refill.chs = g.chs := by
  unfold GS.refill
  by_cases c : g.bad = none
  · rw [if_pos c]
    have qn : g.queue.Nodup := W.so.imp (fun {a b} (h : a < b) => (show a ≠ b by omega))
    obtain ⟨more, e, h1, h2, h3⟩ := fill_spec (width := g.width) g.queue.length g.upon g.queue W.lay qn
    have e' : filledM g.chs g.top g.upon g.queue g.width = g.upon ++ more := e
    rw [e']
    have un : ∀ n ∈ g.queue, n ∉ g.upon := by
      intro n hn hu
      have := W.nd
      unfold GS.all at this
      exact (List.nodup_append.mp (List.nodup_append.mp this).1).2.2 n (List.mem_append_right _ hu) n hn rfl
    have ef : (g.queue.filter fun n => !decide (n ∈ g.upon ++ more)) = g.queue.filter fun n => !decide (n ∈ more) := by
      refine List.filter_congr fun n hn => ?_
      congr 1
      rw [decide_eq_decide, List.mem_append]
      exact ⟨fun z => z.elim (fun z => absurd z (un n hn)) id, .inr⟩
    rw [ef]
    have pm := perm_more qn h2 h1
    refine ⟨⟨?_, W.few, W.hN, W.sm, W.vc, h3, W.so.sublist List.filter_sublist, W.wd, W.hn, W.n1, W.n2, W.n3, W.kl, W.ct⟩, ?_, rfl⟩
    · refine List.Perm.trans ?_ W.pm
      refine List.Perm.append_right _ ?_
      show (g.top ++ (g.upon ++ more) ++ g.queue.filter fun n => !decide (n ∈ more)).Perm (g.top ++ g.upon ++ g.queue)
      have : g.top ++ (g.upon ++ more) ++ (g.queue.filter fun n => !decide (n ∈ more)) = g.top ++ g.upon ++ (more ++ g.queue.filter fun n => !decide (n ∈ more)) := by simp
      rw [this]
      exact List.Perm.append_left _ pm
    · have := pm.length_eq
      show (g.queue.filter fun n => !decide (n ∈ more)).length + (g.upon ++ more).length = g.queue.length + g.upon.length
      rw [List.length_append] at this ⊢
      omega
  · rw [if_neg c]
    exact ⟨W, rfl, rfl⟩
/-! ### out by a look, out as unfit -/
theorem WF.byLook {g : GS} (W : WF N g) (h : g.upon ≠ []) : WF N g.byLook ∧ g.byLook.mu < g.mu ∧ g.byLook.chs = g.chs := by
  unfold GS.byLook
  cases hu : g.upon with
  | nil => exact absurd hu h
  | cons n r =>
    have W1 := W.again 0
    have hq : n ∈ (g.waitAgain 0).queue := by
      show n ∈ isort (g.queue ++ g.upon.drop 0)
      refine (isort_perm _).mem_iff.mpr (List.mem_append_right _ ?_)
      rw [List.drop_zero, hu]
      exact List.mem_cons_self
    have := out_mu hq (.look g.top (g.lookAt 1) (g.told (g.lookAt 1)))
    rw [again_mu] at this
    exact ⟨(W1.out hq _).1, by show ((g.waitAgain 0).putOut n _).mu < g.mu; omega, rfl⟩
theorem WF.outL (f : Int → Ground) : ∀ (l : List Int) (g : GS), WF N g → l.Nodup → (∀ n ∈ l, n ∈ g.queue) → WF N (l.foldl (fun h n => h.putOut n (f n)) g) ∧ (l.foldl (fun h n => h.putOut n (f n)) g).mu + l.length = g.mu ∧ (l.foldl (fun h n => h.putOut n (f n)) g).chs = g.chs
  | [], g, W, _, _ => ⟨W, rfl, rfl⟩
  | n :: r, g, W, nd, hq => by
    obtain ⟨n1, n2⟩ := List.nodup_cons.mp nd
    have hn := hq n List.mem_cons_self
    obtain ⟨a, b, c⟩ := WF.outL f r (g.putOut n (f n)) (W.out hn _).1 n2 (fun m hm => by
      show m ∈ g.queue.erase n
      exact (List.mem_erase_of_ne fun (e : m = n) => n1 (by rw [← e]; exact hm)).mpr (hq m (List.mem_cons_of_mem _ hm)))
    have := out_mu hn (f n)
    rw [List.foldl_cons, List.length_cons]
    exact ⟨a, by omega, c⟩
theorem WF.byUnfit {g : GS} (W : WF N g) : WF N g.byUnfit ∧ g.byUnfit.mu + (freeM g.chs g.top [] g.queue).length = g.mu ∧ g.byUnfit.chs = g.chs := by
  have qn : g.queue.Nodup := W.so.imp (fun {a b} (h : a < b) => (show a ≠ b by omega))
  exact WF.outL (fun n => .unfit (unfitM g.sheet (getC g.chs n).edits)) (freeM g.chs g.top [] g.queue) g W (qn.sublist List.filter_sublist) (fun n h => free_sub h)
/-- the first that waits is free -/
theorem WF.free1 {g : GS} (W : WF N g) (hu : g.upon = []) (hq : g.queue ≠ []) (cl : ∀ m ∈ g.queue, g.outLeans m = []) : 1 ≤ (freeM g.chs g.top [] g.queue).length := by
  cases h : g.queue with
  | nil => exact absurd h hq
  | cons n r =>
    have so := W.so
    rw [h] at so
    have hn : n ∈ g.queue := by rw [h]; exact List.mem_cons_self
    have : n ∈ freeM g.chs g.top [] (n :: r) := by
      refine List.mem_filter.mpr ⟨List.mem_cons_self, List.all_eq_true.mpr fun m hm => ?_⟩
      rw [List.append_nil, decide_eq_true_iff]
      have hl := W.leans hm (W.okQ hn).1
      rcases mem_all.mp (W.inA ⟨hl.1, hl.2.2⟩) with z | z | z | z
      · exact z
      · rw [hu] at z; cases z
      · rw [h] at z
        rcases List.mem_cons.mp z with e | e
        · omega
        · have := sorted_head so m e; omega
      · have c := cl n hn
        unfold GS.outLeans at c
        rw [List.filter_eq_nil_iff] at c
        exact absurd (isGone_iff.mpr z) (c m hm)
    exact List.length_pos_of_mem this
theorem bad_some {g : GS} {k : Nat} (h : g.bad = some k) : 1 ≤ k ∧ k ≤ g.upon.length := by
  have := List.mem_of_find?_eq_some h
  rw [List.mem_range'_1] at this
  omega
theorem out_leans_eq {g h : GS} (e1 : h.chs = g.chs) (e2 : h.gone = g.gone) (n : Int) : h.outLeans n = g.outLeans n := by
  unfold GS.outLeans GS.isGone
  rw [e1, e2]
theorem refill_gone (g : GS) : g.refill.gone = g.gone := by unfold GS.refill; split <;> rfl
theorem refill_q (g : GS) : ∀ m ∈ g.refill.queue, m ∈ g.queue := by
  unfold GS.refill
  split
  · intro m hm; exact (List.mem_filter.mp hm).1
  · exact fun _ h => h
theorem WF.turned {g : GS} (W : WF N g) : WF N g.turned.2 ∧ (g.turned.1 = true → g.turned.2.mu < g.mu) ∧ g.turned.2.chs = g.chs := by
  obtain ⟨W1, cl, m1, c1⟩ := W.byLeaning
  unfold GS.turned
  by_cases hh : g.byLeaning.halted = true
  · rw [if_pos hh]; exact ⟨W1, fun z => (by cases z), c1⟩
  rw [if_neg hh]
  obtain ⟨W2, m2, c2⟩ := W1.refill
  have cl2 : ∀ m ∈ g.byLeaning.refill.queue, g.byLeaning.refill.outLeans m = [] := fun m hm => by
    rw [out_leans_eq c2 (refill_gone _)]
    exact cl m (refill_q _ m hm)
  generalize g.byLeaning.refill = h at *
  unfold GS.turn2
  by_cases b1 : h.bad = some 1
  · rw [if_pos b1]
    have hu : h.upon ≠ [] := fun e => by have := (bad_some b1).2; rw [e] at this; simp at this
    obtain ⟨W3, m3, c3⟩ := W2.byLook hu
    exact ⟨W3, fun _ => by show h.byLook.mu < g.mu; omega, c3.trans (c2.trans c1)⟩
  rw [if_neg b1]
  by_cases b2 : h.upon.length = 0 ∧ 0 < h.queue.length
  · rw [if_pos b2]
    obtain ⟨W3, m3, c3⟩ := W2.byUnfit
    have := W2.free1 (List.length_eq_zero_iff.mp b2.1) (fun e => by have := b2.2; rw [e] at this; simp at this) cl2
    exact ⟨W3, fun _ => by show h.byUnfit.mu < g.mu; omega, c3.trans (c2.trans c1)⟩
  · rw [if_neg b2]
    exact ⟨W2, fun z => (by cases z), c2.trans c1⟩
theorem WF.spin : ∀ (k : Nat) (g : GS), WF N g → WF N (GS.spin k g) ∧ (GS.spin k g).chs = g.chs
  | 0, g, W => ⟨W, rfl⟩
  | k + 1, g, W => by
    obtain ⟨W1, _, c1⟩ := W.turned
    rw [GS.spin]
    split
    · obtain ⟨a, b⟩ := WF.spin k _ W1
      exact ⟨a, b.trans c1⟩
    · exact ⟨W1, c1⟩
/-! ### places -/
theorem gap_step {e : Int} : ∀ (l : List Int) (st : (Int × Int × Int) × Int), (∀ p ∈ l, 1 ≤ p ∧ p ≤ e) → (0 ≤ st.2 ∧ st.2 ≤ e) → (st.1.1 ≤ 0 ∨ (st.1.1 = st.1.2.2 - st.1.2.1 - 1 ∧ 0 ≤ st.1.2.1 ∧ st.1.2.2 ≤ e)) →
    ((l.foldl gapStep st).1.1 ≤ 0 ∨ ((l.foldl gapStep st).1.1 = (l.foldl gapStep st).1.2.2 - (l.foldl gapStep st).1.2.1 - 1 ∧ 0 ≤ (l.foldl gapStep st).1.2.1 ∧ (l.foldl gapStep st).1.2.2 ≤ e))
  | [], st, _, _, h => h
  | p :: r, st, hp, h2, h => by
    rw [List.foldl_cons]
    have hp0 := hp p List.mem_cons_self
    refine gap_step r _ (fun q hq => hp q (List.mem_cons_of_mem _ hq)) ?_ ?_
    · unfold gapStep; exact ⟨by show (0 : Int) ≤ p; omega, hp0.2⟩
    · unfold gapStep
      by_cases c : st.1.1 < p - st.2 - 1
      · rw [if_pos c]
        exact .inr ⟨rfl, h2.1, hp0.2⟩
      · rw [if_neg c]
        exact h
theorem gap_nonneg : ∀ (l : List Int) (st : (Int × Int × Int) × Int), 0 ≤ st.1.1 → 0 ≤ (l.foldl gapStep st).1.1
  | [], _, h => h
  | p :: r, st, h => by
    rw [List.foldl_cons]
    refine gap_nonneg r _ ?_
    unfold gapStep
    by_cases c : st.1.1 < p - st.2 - 1
    · rw [if_pos c]; show 0 ≤ p - st.2 - 1; omega
    · rw [if_neg c]; exact h
theorem gap_in {places : List Int} {e : Int} (h : ∀ p ∈ places, 1 ≤ p ∧ p < e) (he : 1 ≤ e) (hg : (gapM places e).1 ≠ 0) : 1 ≤ ((gapM places e).2.1 + (gapM places e).2.2) / 2 ∧ ((gapM places e).2.1 + (gapM places e).2.2) / 2 < e ∧ 2 ≤ e := by
  have h1 := gap_step (e := e) (places ++ [e]) ((0, 0, 0), 0) (fun p hp => by
    rcases List.mem_append.mp hp with z | z
    · have := h p z; omega
    · rw [List.mem_singleton.mp z]; omega) ⟨by show (0 : Int) ≤ 0; omega, by show (0 : Int) ≤ e; omega⟩ (.inl (by show (0 : Int) ≤ 0; omega))
  have h2 := gap_nonneg (places ++ [e]) ((0, 0, 0), 0) (by show (0 : Int) ≤ 0; omega)
  unfold gapM at hg ⊢
  generalize (List.foldl gapStep ((0, 0, 0), 0) (places ++ [e])).1 = z at *
  rcases h1 with h1 | ⟨h1, h3, h4⟩
  · omega
  · omega
theorem want_in {size : Int} {bad : Option Int} {hands : Int} (hb : ∀ k, bad = some k → 1 ≤ k ∧ k ≤ size) (h0 : 0 ≤ size) : ∀ (k : Nat) (places : List Int), (∀ p ∈ places, 1 ≤ p ∧ p < bad.getD (size + 1)) → ∀ p ∈ wantM size bad (bad.getD (size + 1)) hands k places, 1 ≤ p ∧ p ≤ size
  | 0, places, h => fun p hp => by
    have := h p hp
    cases bad with
    | none => simp at this; omega
    | some b => have := hb b rfl; simp at *; omega
  | k + 1, places, h => fun p hp => by
    have fin : p ∈ places → 1 ≤ p ∧ p ≤ size := fun hp => by
      have := h p hp
      cases bad with
      | none => simp at this; omega
      | some b => have := hb b rfl; simp at *; omega
    rw [wantM] at hp
    by_cases c : (places.length : Int) < hands
    · rw [if_pos c] at hp
      by_cases c2 : (gapM places (bad.getD (size + 1))).1 = 0
      · rw [if_pos c2] at hp; exact fin hp
      · rw [if_neg c2] at hp
        refine want_in hb h0 k _ (fun q hq => ?_) p hp
        have he : 1 ≤ bad.getD (size + 1) := by
          cases bad with
          | none => simp; omega
          | some b => exact (hb b rfl).1
        have hg := gap_in h he c2
        rcases List.mem_append.mp ((isort_perm _).mem_iff.mp hq) with z | z
        · exact h q z
        · rw [List.mem_singleton.mp z]
          by_cases c3 : bad = none ∧ size ∉ places
          · rw [if_pos c3]
            rw [c3.1] at hg ⊢
            simp at hg ⊢
            omega
          · rw [if_neg c3]
            exact ⟨hg.1, hg.2.1⟩
    · rw [if_neg c] at hp; exact fin hp
theorem want_len {size : Int} {bad : Option Int} {e hands : Int} : ∀ (k : Nat) (places : List Int), (wantM size bad e hands k places).length ≤ places.length + k
  | 0, places => by rw [wantM]; omega
  | k + 1, places => by
    rw [wantM]
    split
    · split
      · omega
      · have := want_len (size := size) (bad := bad) (e := e) (hands := hands) k (isort (places ++ [if bad = none ∧ size ∉ places then size else ((gapM places e).2.1 + (gapM places e).2.2) / 2]))
        rw [isort_length, List.length_append] at this
        simp at this
        omega
    · omega
/-! ### settled -/
def AskOk (g : GS) : Prop := (∀ l ∈ g.asked, ∃ k : Nat, 1 ≤ k ∧ k ≤ g.upon.length ∧ l = g.lookAt k) ∧ g.asked.length ≤ 2000
theorem lookI_nat (g : GS) (k : Nat) : g.lookI (k : Int) = g.lookAt k := by
  unfold GS.lookI GS.lookAt GS.cutTo
  rw [if_pos (by omega), Int.toNat_natCast]
theorem kept_in (g : GS) : ∀ p ∈ g.keptOf, 1 ≤ p ∧ p ≤ (g.upon.length : Int) := by
  intro p hp
  unfold GS.keptOf at hp
  obtain ⟨k, hk, rfl⟩ := List.mem_map.mp hp
  have := (List.mem_filter.mp hk).1
  rw [List.mem_range'_1] at this
  show 1 ≤ (k : Int) ∧ (k : Int) ≤ _
  omega
theorem kept_len (g : GS) : g.keptOf.length ≤ g.upon.length := by
  unfold GS.keptOf
  rw [List.length_map]
  refine Nat.le_trans (List.length_filter_le _ _) ?_
  rw [List.length_range']
  exact Nat.le_refl _
theorem places_in (g : GS) : ∀ p ∈ wantedM g.upon.length (g.bad.map Int.ofNat) g.keptOf g.hands, 1 ≤ p ∧ p ≤ (g.upon.length : Int) := by
  unfold wantedM
  refine want_in (fun k hk => ?_) (by omega) _ _ (fun p hp => ?_)
  · cases h : g.bad with
    | none => rw [h] at hk; cases hk
    | some b =>
      rw [h] at hk
      cases hk
      have := bad_some h
      show 1 ≤ (b : Int) ∧ (b : Int) ≤ _
      omega
  · have h1 := List.mem_filter.mp hp
    exact ⟨(kept_in g p h1.1).1, of_decide_eq_true h1.2⟩
theorem ask2_ok {N : Nat} {g : GS} (W : WF N g) : WF N g.ask2 ∧ AskOk g.ask2 := by
  refine ⟨⟨W.pm, W.few, W.hN, W.sm, W.vc, W.st, W.so, W.wd, W.hn, W.n1, W.n2, W.n3, W.kl, W.ct⟩, fun l hl => ?_, ?_⟩
  · obtain ⟨p, hp, rfl⟩ := List.mem_map.mp hl
    have := places_in g p hp
    refine ⟨p.toNat, by omega, by show p.toNat ≤ g.upon.length; omega, ?_⟩
    have e : p = ((p.toNat : Nat) : Int) := by omega
    show g.lookI p = g.lookAt p.toNat
    rw [← lookI_nat, ← e]
  · show (List.map _ _).length ≤ _
    rw [List.length_map]
    unfold wantedM
    have h1 := want_len (size := g.upon.length) (bad := g.bad.map Int.ofNat) (e := (g.bad.map Int.ofNat).getD ((g.upon.length : Int) + 1)) (hands := g.hands) g.hands.toNat (g.keptOf.filter fun p => decide (p < (g.bad.map Int.ofNat).getD ((g.upon.length : Int) + 1)))
    have h2 := List.length_filter_le (fun p => decide (p < (g.bad.map Int.ofNat).getD ((g.upon.length : Int) + 1))) g.keptOf
    have h3 := kept_len g
    have h4 := W.len
    have h5 := W.few
    have h6 := W.hN
    have h7 := W.hn
    omega
theorem WF.settle {N : Nat} {g : GS} (W : WF N g) : WF N g.settle ∧ AskOk g.settle ∧ g.settle.chs = g.chs := by
  obtain ⟨W1, c⟩ := WF.spin (g.queue.length + g.upon.length + 1) g W
  exact ⟨(ask2_ok W1).1, (ask2_ok W1).2, c⟩
/-! ### the deeds -/
theorem getC_snoc {chs : List Chg} {c : Chg} {n : Int} (h : okN chs n) : getC (chs ++ [c]) n = getC chs n := by
  have hj : (n - 1).toNat < chs.length := by have := h.1; have := h.2; omega
  unfold getC
  rw [List.getD_eq_getElem?_getD, List.getD_eq_getElem?_getD, List.getElem?_append_left hj]
theorem sheet_snoc {chs : List Chg} {c : Chg} {row : List Int} (h : ∀ n ∈ row, okN chs n) : sheetM (chs ++ [c]) row = sheetM chs row := by
  unfold sheetM
  have : ∀ (row : List Int) (s : List (Int × Int)), (∀ n ∈ row, okN chs n) → row.foldl (fun s n => editedM s (getC (chs ++ [c]) n).edits) s = row.foldl (fun s n => editedM s (getC chs n).edits) s := by
    intro row
    induction row with
    | nil => intro s _; rfl
    | cons n r ih =>
      intro s h
      rw [List.foldl_cons, List.foldl_cons, getC_snoc (h n List.mem_cons_self)]
      exact ih _ fun m hm => h m (List.mem_cons_of_mem _ hm)
  exact this row [] h
theorem stands_more {chs : List Chg} {c : Chg} {row : List Int} (h : ∀ n ∈ row, okN chs n) (s : standsM chs row) : standsM (chs ++ [c]) row := by
  intro done n todo e
  rw [getC_snoc (h n (by rw [e]; simp)), sheet_snoc fun m hm => h m (by rw [e]; simp [hm])]
  exact s done n todo e
theorem WF.mono {N M : Nat} {g : GS} (W : WF N g) (h : N ≤ M) (h2 : M ≤ 20) : WF M g :=
  ⟨W.pm, Nat.le_trans W.few h, h2, W.sm, W.vc, W.st, W.so, W.wd, W.hn, W.n1, W.n2, W.n3, W.kl, Nat.le_trans W.ct h⟩
theorem WF.added {N : Nat} {g : GS} (W : WF N g) (h : N + 1 ≤ 20) {c : Chg} (hc : validC g.chs.length c = true) (hs : c.leans.length ≤ 3 ∧ c.edits.length ≤ 3) : WF (N + 1) { g with chs := g.chs ++ [c], queue := g.queue ++ [(g.chs.length : Int) + 1] } := by
  refine ⟨?_, by have := W.few; show (g.chs ++ [c]).length ≤ _; rw [List.length_append]; simp; omega, h, fun d hd => ?_, fun i d hd => ?_, ?_, ?_, W.wd, W.hn, W.n1, W.n2, W.n3, W.kl, Nat.le_trans W.ct (Nat.le_succ _)⟩
  · show (g.top ++ g.upon ++ (g.queue ++ [(g.chs.length : Int) + 1]) ++ g.keys).Perm (allN (g.chs ++ [c]).length)
    rw [List.length_append]
    show List.Perm _ (allN (g.chs.length + 1))
    rw [allN_succ]
    refine List.Perm.trans ?_ (List.Perm.append_right _ W.pm)
    unfold GS.all
    have e1 : g.top ++ g.upon ++ (g.queue ++ [(g.chs.length : Int) + 1]) ++ g.keys = (g.top ++ g.upon ++ g.queue) ++ ([(g.chs.length : Int) + 1] ++ g.keys) := by simp
    have e2 : g.top ++ g.upon ++ g.queue ++ g.keys ++ [(g.chs.length : Int) + 1] = (g.top ++ g.upon ++ g.queue) ++ (g.keys ++ [(g.chs.length : Int) + 1]) := by simp
    rw [e1, e2]
    exact List.Perm.append_left _ List.perm_append_comm
  · rcases List.mem_append.mp hd with z | z
    · exact W.sm d z
    · rw [List.mem_singleton.mp z]; exact hs
  · by_cases hi : i < g.chs.length
    · rw [List.getElem?_append_left hi] at hd
      exact W.vc i d hd
    · have e := (List.getElem?_eq_some_iff.mp hd).1
      rw [List.length_append] at e
      simp at e
      have ei : i = g.chs.length := by omega
      rw [ei] at hd ⊢
      simp at hd
      rw [← hd]; exact hc
  · exact stands_more W.lay.vl W.st
  · refine List.pairwise_append.mpr ⟨W.so, List.pairwise_singleton _ _, fun a ha b hb => ?_⟩
    rw [List.mem_singleton.mp hb]
    have := (W.okQ ha).2
    omega
theorem WF.endLook {N : Nat} {g : GS} (W : WF N g) {l : List Int} {k : Nat} (hl : l = g.lookAt k) (h2 : k ≤ g.upon.length) (a : Ans) : WF N (g.endLook l a) := by
  unfold GS.endLook
  split
  · have e : l.length - g.top.length = k := by
      rw [hl]; unfold GS.lookAt
      rw [List.length_append, List.length_take]
      omega
    have e2 : l ++ g.upon.drop k = g.top ++ g.upon := by
      rw [hl]; unfold GS.lookAt
      rw [List.append_assoc, List.take_append_drop]
    rw [e]
    refine ⟨?_, W.few, W.hN, W.sm, W.vc, ?_, W.so, W.wd, W.hn, W.n1, W.n2, W.n3, W.kl, W.ct⟩
    · show (l ++ g.upon.drop k ++ g.queue ++ g.keys).Perm _
      rw [e2]
      exact W.pm
    · show standsM g.chs (l ++ g.upon.drop k)
      rw [e2]
      exact W.st
  · exact W
theorem WF.answered {N : Nat} {g : GS} (W : WF N g) (h : N + 1 ≤ 20) (l : List Int) (a : Ans) : WF (N + 1) (g.answered l a) := by
  refine ⟨W.pm, Nat.le_trans W.few (Nat.le_succ _), h, W.sm, W.vc, W.st, W.so, W.wd, W.hn, W.n1, W.n2, W.n3, ?_, Nat.succ_le_succ W.ct⟩
  show (put g.known l _).length ≤ g.cnt + 1
  exact Nat.le_trans (put_length _ _ _) (Nat.succ_le_succ W.kl)
def smallR : Row → Prop
  | .ask _ ls es => ls.length ≤ 3 ∧ es.length ≤ 3
  | _ => True
/-- where the number to be withdrawn waits -/
theorem WF.wq {N : Nat} {g : GS} (W : WF N g) {n : Int} (h : okN g.chs n) (h1 : n ∉ g.top) (h2 : n ∉ g.keys) : (n ∈ g.upon ∧ n ∈ (g.waitAgain (g.upon.idxOf n)).queue) ∨ (n ∉ g.upon ∧ n ∈ g.queue) := by
  by_cases hu : n ∈ g.upon
  · refine .inl ⟨hu, ?_⟩
    show n ∈ isort (g.queue ++ g.upon.drop _)
    refine (isort_perm _).mem_iff.mpr (List.mem_append_right _ ?_)
    have hi := (idx_first n g.upon hu).1
    have hlt := (List.getElem?_eq_some_iff.mp hi).1
    rw [List.drop_eq_getElem_cons hlt]
    have := (List.getElem?_eq_some_iff.mp hi).2
    rw [this]
    exact List.mem_cons_self
  · refine .inr ⟨hu, ?_⟩
    rcases mem_all.mp (W.inA h) with z | z | z | z
    · exact absurd z h1
    · exact absurd z hu
    · exact z
    · exact absurd z h2
theorem WF.step {N : Nat} {g g' : GS} {r : Row} {t : Told} (W : WF N g) (A : AskOk g) (h : N + 1 ≤ 20) (hr : smallR r) (hs : g.step r = .ok (g', t)) : WF (N + 1) g' ∧ AskOk g' := by
  have fin : ∀ {h0 : GS}, WF (N + 1) h0 → WF (N + 1) h0.settle ∧ AskOk h0.settle := fun w => ⟨w.settle.1, w.settle.2.1⟩
  have W1 := W.mono (Nat.le_succ N) h
  cases r with
  | ask rank ls es =>
    show WF (N + 1) g' ∧ AskOk g'
    replace hs : g.doAsk ⟨rank, ls, es⟩ = .ok (g', t) := hs
    unfold GS.doAsk at hs
    split at hs
    · cases hs
    · rename_i c
      split at hs
      · cases hs
      · cases hs
        exact fin (W.added h (by cases hv : validC g.chs.length ⟨rank, ls, es⟩ with | true => rfl | false => exact absurd hv c) hr)
  | withdraw n =>
    replace hs : g.doWithdraw n = .ok (g', t) := hs
    unfold GS.doWithdraw at hs
    split at hs
    · cases hs
    · rename_i c
      split at hs
      · cases hs
      · rename_i c2
        cases hs
        have h1 : okN g.chs n := ⟨by omega, by omega⟩
        have h2 : n ∉ g.top := fun z => c2 (.inl z)
        have h3 : n ∉ g.keys := fun z => c2 (.inr (isGone_iff.mpr z))
        rcases W1.wq h1 h2 h3 with ⟨hu, hq⟩ | ⟨hu, hq⟩
        · rw [if_pos hu]
          exact fin ((W1.again _).out hq _).1
        · rw [if_neg hu]
          exact fin (W1.out hq _).1
  | answer l a =>
    replace hs : g.doAnswer l a = .ok (g', t) := hs
    unfold GS.doAnswer at hs
    split at hs
    · cases hs
    · rename_i c
      split at hs
      · cases hs
      · cases hs
        obtain ⟨k, k1, k2, k3⟩ := A.1 l (Classical.not_not.mp c)
        have Wa := W.answered h l a
        refine fin ?_
        cases e : ((g.tally l).tell a).last with
        | none => exact Wa
        | some b => exact Wa.endLook (k := k) k3 k2 b
  | stop =>
    cases hs
    refine fin ?_
    have W2 := W1.again 0
    exact ⟨W2.pm, W2.few, W2.hN, W2.sm, W2.vc, W2.st, W2.so, W2.wd, W2.hn, W2.n1, W2.n2, W2.n3, W2.kl, W2.ct⟩
  | go =>
    cases hs
    exact fin ⟨W1.pm, W1.few, W1.hN, W1.sm, W1.vc, W1.st, W1.so, W1.wd, W1.hn, W1.n1, W1.n2, W1.n3, W1.kl, W1.ct⟩
theorem WF.new {width hands need tries : Int} (h1 : 1 ≤ width) (h2 : hands < 1000) (h3 : 1 ≤ need) (h4 : need ≤ tries) (h5 : tries ≤ 20) : WF 0 (GS.new width hands need tries) ∧ AskOk (GS.new width hands need tries) := by
  refine ⟨⟨?_, Nat.le_refl _, by decide, fun c hc => (by cases hc), fun i c hc => ?_, stands_nil _, .nil, h1, h2, h3, h4, h5, Nat.le_refl _, Nat.le_refl _⟩, fun l hl => (by cases hl), Nat.zero_le _⟩
  · exact .nil
  · have : ([] : List Chg)[i]? = some c := hc
    simp at this
/-- the rows done again -/
theorem WF.replay : ∀ (rs : List Row) (N : Nat) (g g' : GS), WF N g → AskOk g → N + rs.length ≤ 20 → (∀ r ∈ rs, smallR r) → replay g rs = some g' → WF (N + rs.length) g' ∧ AskOk g'
  | [], N, g, g', W, A, _, _, h => by cases h; exact ⟨W, A⟩
  | r :: rs, N, g, g', W, A, hN, hs, h => by
    rw [LG.replay] at h
    rw [List.length_cons] at hN
    cases e : g.step r with
    | error x => rw [e] at h; cases h
    | ok z =>
      obtain ⟨g1, t⟩ := z
      rw [e] at h
      obtain ⟨W1, A1⟩ := W.step A (by omega) (hs r List.mem_cons_self) e
      have := WF.replay rs (N + 1) g1 g' W1 A1 (by omega) (fun r hr => hs r (List.mem_cons_of_mem _ hr)) h
      rw [List.length_cons, show N + (rs.length + 1) = N + 1 + rs.length by omega]
      exact this
end
end LG

set_option Elab.async false
set_option linter.all false
set_option maxRecDepth 100000
set_option maxHeartbeats 4000000
namespace LG
open PySem PySem.Spec L2 Evl
open PyProof.Rows hiding St
variable {P : Program} {w : World} {K : PySem.W.Frag} {mg : Str → Option Value} {base : Heap}

/-! The gate's cells read and changed. -/
section
variable {H H' H1 H2 : Hp} {a a' : GA} {g g' : GS}
theorem GtAt.ob (h : GtAt K H a g) : H a.p = some (.ins (He.ga K "Gate") a.dx (gF a g.halted)) := h.cs.at 0 rfl
theorem GtAt.cob (h : GtAt K H a g) : H a.st = some (.ins (He.ga K "Changes") a.ca.dx (chF a.ca.rk a.ca.ln a.ca.ed)) := h.cs.at 1 rfl
/-- fields' values: the same but for -/
theorem GtAt.top (h : GtAt K H a g) : H a.top = some (.lst (g.top.map V.int)) := h.cs.at 5 rfl
theorem GtAt.upon (h : GtAt K H a g) : H a.upon = some (.lst (g.upon.map V.int)) := h.cs.at 6 rfl
theorem GtAt.queue (h : GtAt K H a g) : H a.queue = some (.lst (g.queue.map V.int)) := h.cs.at 7 rfl
theorem GtAt.gone (h : GtAt K H a g) : H a.gone = some (.dK (goneK a.gv)) := h.cs.at 8 rfl
theorem GtAt.asked (h : GtAt K H a g) : H a.asked = some (.lst a.av) := h.cs.at 9 rfl
theorem GtAt.grown (h : GtAt K H a g) : H a.grown = some (.lst a.gr) := h.cs.at 10 rfl
theorem GtAt.ended (h : GtAt K H a g) : H a.ended = some (.lst a.en) := h.cs.at 11 rfl
theorem GtAt.known (h : GtAt K H a g) : H a.known = some (.dT (knownK a.tb)) := h.cs.at 12 rfl
theorem GtAt.tolls (h : GtAt K H a g) : H a.tolls = some (.lst (a.tl.map V.int)) := h.cs.at 13 rfl
theorem GtAt.dpTop (h : GtAt K H a g) : DpS K H (.ref a.top) (g.top.map PyData.int) := .inl (.lst (sq_of h.top) (dpa_of_ints _))
theorem GtAt.dpUpon (h : GtAt K H a g) : DpS K H (.ref a.upon) (g.upon.map PyData.int) := .inl (.lst (sq_of h.upon) (dpa_of_ints _))
theorem GtAt.dpQueue (h : GtAt K H a g) : DpS K H (.ref a.queue) (g.queue.map PyData.int) := .inl (.lst (sq_of h.queue) (dpa_of_ints _))
theorem GtAt.dpAsked (h : GtAt K H a g) : Dp K H (.ref a.asked) (.list (g.asked.map dInts)) := .lst (sq_of h.asked) h.r.asked
theorem set_nin {F : List Addr} {j : Nat} {q : Addr} {b : Addr} (h : b ∈ F.set j q) : b ∈ F ∨ b = q := List.mem_or_eq_of_mem_set h
theorem GtAt.nin {b : Addr} (h : GtAt K H a g) (n : H b = none) : b ∉ foot a := fun m => h.there b m n
/-- a field bound to a list that is no cell of the gate's -/
theorem GtAt.reb0 {H0 : Hp} {F0 : List Addr} {o u : HO} {q : Addr} (f0 : Fr F0 (foot a) H0 H) (h : GtAt K H a g) (e : Ex H H1) (n0 : H0 q = none) (nin : q ∉ foot a) (hq : H1 q = some u) (j : Nat) (hj : ((cells K a g).set j (q, u))[0]? = some (a.p, .ins (He.ga K "Gate") a.dx (gF a g.halted)))
    (hc : ((cells K a g).set j (q, u)).set 0 (a.p, o) = cells K a' g') (ht : a'.tb = a.tb) (hk : g'.known = g.known) (r : Keep H (upd H1 a.p o) → GR K (upd H1 a.p o) a g → GR K (upd H1 a.p o) a' g') :
    GtAt K (upd H1 a.p o) a' g' ∧ Fr F0 (foot a') H0 (upd H1 a.p o) := by
  have nin' : q ∉ (cells K a g).map (·.1) ∧ q ∉ tbA a.tb := by
    rw [foot_eq (K := K) a g, List.mem_append, not_or] at nin
    exact nin
  have s1 : Holds H1 ((cells K a g).set j (q, u)) := by
    refine ⟨fun c hc => ?_, ?_⟩
    · rcases List.mem_or_eq_of_mem_set hc with z | z
      · exact e _ _ (h.cs.get c z)
      · rw [z]; exact hq
    · rw [List.map_set]
      exact nd_set h.cs.nd nin'.1
  have s2 := s1.upd 0 (u := o) hj
  rw [hc] at s2
  have hp : H1 a.p = some (.ins (He.ga K "Gate") a.dx (gF a g.halted)) := e _ _ (h.cs.at 0 rfl)
  have kp : Keep H (upd H1 a.p o) := (Keep.of_ex e).trans (keep_mut hp rfl)
  have ek : (cells K a' g').map (·.1) = ((cells K a g).map (·.1)).set j q := by
    rw [← hc, set_fst hj, List.map_set]
  have pn : ∀ b ∈ tbA a.tb, b ≠ a.p := fun b hb z => h.ap a.p (List.mem_cons_self) (z ▸ hb)
  have pf : a.p ∈ foot a := List.mem_cons_self
  refine ⟨⟨s2, r kp (h.r.keep kp), ?_, fun b h1 h2 => ?_⟩, ?_⟩
  · rw [ht, hk]
    refine (h.kn.ex e).stay fun b hb => upd_ne (pn b hb)
  · rw [ek] at h1
    rw [ht] at h2
    rcases set_nin h1 with z | z
    · exact h.ap b z h2
    · exact nin'.2 (by rw [← z]; exact h2)
  · have ef : foot a' = ((cells K a g).map (·.1)).set j q ++ tbA a.tb := by rw [foot_eq (K := K) a' g', ek, ht]
    refine ⟨fun b p eb nb => ?_, fun b hb => ?_, fun b hb => f0.old b ?_, f0.keep.trans kp⟩
    · have nb1 : b ∉ foot a := fun m => (f0.new b m).elim nb fun z => by rw [eb] at z; cases z
      rw [upd_ne fun z => nb1 (by rw [z]; exact pf)]
      exact e _ _ (f0.out b p eb nb)
    · rw [ef] at hb
      rcases List.mem_append.mp hb with z | z
      · rcases set_nin z with y | y
        · exact f0.new b (by rw [foot_eq (K := K) a g]; exact List.mem_append_left _ y)
        · exact .inr (by rw [y]; exact n0)
      · exact f0.new b (by rw [foot_eq (K := K) a g]; exact List.mem_append_right _ z)
    · by_cases z : b = a.p
      · rw [z, upd_same] at hb; cases hb
      · rw [upd_ne z] at hb; exact fresh_back e hb
/-- a field bound to a new list -/
theorem GtAt.reb {o u : HO} {q : Addr} (h : GtAt K H a g) (e : Ex H H1) (nq : H q = none) (hq : H1 q = some u) (j : Nat) (hj : ((cells K a g).set j (q, u))[0]? = some (a.p, .ins (He.ga K "Gate") a.dx (gF a g.halted)))
    (hc : ((cells K a g).set j (q, u)).set 0 (a.p, o) = cells K a' g') (ht : a'.tb = a.tb) (hk : g'.known = g.known) (r : Keep H (upd H1 a.p o) → GR K (upd H1 a.p o) a g → GR K (upd H1 a.p o) a' g') :
    GtAt K (upd H1 a.p o) a' g' ∧ Fr (foot a) (foot a') H (upd H1 a.p o) := h.reb0 (Fr.refl _ _) e nq (h.nin nq) hq j hj hc ht hk r
/-- a cell changed in its place -/
theorem GtAt.put {o u : HO} {x : Addr} (h : GtAt K H a g) (i : Nat) (hi : (cells K a g)[i]? = some (x, o)) (hm : isMut o = true) (hc : (cells K a g).set i (x, u) = cells K a' g') (ht : a'.tb = a.tb) (hk : g'.known = g.known) (r : Keep H (upd H x u) → GR K (upd H x u) a g → GR K (upd H x u) a' g') :
    GtAt K (upd H x u) a' g' ∧ Fr (foot a) (foot a') H (upd H x u) := by
  have s2 := h.cs.upd i (u := u) hi
  rw [hc] at s2
  have hx := h.cs.at i hi
  have kp : Keep H (upd H x u) := keep_mut hx hm
  have ek : (cells K a' g').map (·.1) = (cells K a g).map (·.1) := by rw [← hc, set_fst hi]
  have xin : x ∈ (cells K a g).map (·.1) := List.mem_map.mpr ⟨_, List.mem_of_getElem? hi, rfl⟩
  have ef : foot a' = foot a := by rw [foot_eq (K := K) a' g', foot_eq (K := K) a g, ek, ht]
  refine ⟨⟨s2, r kp (h.r.keep kp), ?_, fun b h1 h2 => ?_⟩, ?_⟩
  · rw [ht, hk]
    exact h.kn.stay fun b hb => upd_ne fun z => h.ap x xin (z ▸ hb)
  · rw [ek] at h1
    rw [ht] at h2
    exact h.ap b h1 h2
  · rw [ef]
    exact Fr.upd (by rw [foot_eq (K := K) a g]; exact List.mem_append_left _ xin) hx hm
end
/-! ### readings -/
theorem cutV_none {α : Type} (f : α → V) (l : List α) (p : Int) : cutV (l.map f) none (some p) = (if 0 ≤ p then l.take p.toNat else l.take (l.length - p.natAbs)).map f := by
  unfold cutV
  rw [HT.sIx_none, List.drop_zero, Nat.sub_zero, List.length_map]
  by_cases h : 0 ≤ p
  · rw [if_pos h, List.map_take]
    show List.take (if p < 0 then _ else min p.toNat l.length) _ = _
    rw [if_neg (by omega)]
    by_cases c : p.toNat ≤ l.length
    · rw [Nat.min_eq_left c]
    · rw [Nat.min_eq_right (by omega), List.take_of_length_le (by rw [List.length_map]; omega), List.take_of_length_le (by rw [List.length_map]; omega)]
  · rw [if_neg h, List.map_take]
    show List.take (if p < 0 then (p + (l.length : Int)).toNat else _) _ = _
    rw [if_pos (by omega)]
    congr 1
    omega
theorem cutI (l : List Int) (p : Int) : cutV (l.map V.int) none (some p) = (GS.cutTo l p).map V.int := by
  rw [cutV_none]; rfl
theorem cutV_from (xs : List V) (k : Nat) : cutV xs (some (k : Int)) none = xs.drop k := by
  unfold cutV
  rw [HT.sIx_none, HT.sIx_nat]
  by_cases c : k ≤ xs.length
  · rw [Nat.min_eq_left c, List.take_of_length_le (by rw [List.length_drop]; omega)]
  · rw [Nat.min_eq_right (by omega), List.drop_of_length_le (Nat.le_refl _), List.drop_of_length_le (by omega)]
    exact List.take_nil
theorem lay_ints : ∀ ns : List Int, PyData.canLayAll0 (ns.map PyData.int) = true
  | [] => by simp [PyData.canLayAll0]
  | _ :: r => by simp [PyData.canLayAll0, PyData.canLay0, lay_ints r]
theorem depth_ints : ∀ ns : List Int, PyData.depthAll (ns.map PyData.int) = 0
  | [] => by simp [PyData.depthAll]
  | _ :: r => by simp [PyData.depthAll, PyData.depth, depth_ints r]
theorem lay_dInts (l : List Int) : (dInts l).canLay0 = true := by simp only [dInts, PyData.canLay0]; exact lay_ints l
theorem depth_dInts (l : List Int) : (dInts l).depth ≤ 1 := by simp only [dInts, PyData.depth, depth_ints]; omega
theorem shaped_of {d : PyData} (h1 : d.canLay0 = true) (h2 : d.depth ≤ 64) : SeqAt.shaped d = true := by
  show (d.canLay0 && decide (d.depth ≤ 64)) = true
  rw [h1, decide_eq_true h2]; rfl
theorem shaped_dInts (l : List Int) : SeqAt.shaped (dInts l) = true := shaped_of (lay_dInts l) (by have := depth_dInts l; omega)
theorem layAll_map {α : Type} {f : α → PyData} (h : ∀ x, (f x).canLay0 = true) : ∀ l : List α, PyData.canLayAll0 (l.map f) = true
  | [] => by simp [PyData.canLayAll0]
  | x :: r => by simp [PyData.canLayAll0, h x, layAll_map h r]
theorem depthAll_map {α : Type} {f : α → PyData} {n : Nat} (h : ∀ x, (f x).depth ≤ n) : ∀ l : List α, PyData.depthAll (l.map f) ≤ n
  | [] => by simp [PyData.depthAll]
  | x :: r => by
    have h1 := h x
    have h2 := depthAll_map h r
    simp only [List.map_cons, PyData.depthAll]
    omega
theorem shaped_list {α : Type} {f : α → PyData} (h : ∀ x, (f x).canLay0 = true) {n : Nat} (hd : ∀ x, (f x).depth ≤ n) (hn : n < 60) (l : List α) : SeqAt.shaped (.list (l.map f)) = true := by
  refine shaped_of (by simp only [PyData.canLay0]; exact layAll_map h l) ?_
  have := depthAll_map hd l
  simp only [PyData.depth]
  omega
theorem shaped_looks (ls : List (List Int)) : SeqAt.shaped (.list (ls.map dInts)) = true := shaped_list lay_dInts depth_dInts (by decide) ls
theorem eqv_intsL : ∀ a b : List Int, PyData.eqvAll (a.map PyData.int) (b.map PyData.int) = decide (a = b)
  | [], [] => by simp [PyData.eqvAll]
  | [], _ :: _ => by simp [PyData.eqvAll]
  | _ :: _, [] => by simp [PyData.eqvAll]
  | x :: r, y :: t => by
    simp only [List.map_cons, PyData.eqvAll, PyData.eqv, eqv_intsL r t]
    by_cases h : x = y
    · by_cases h2 : r = t
      · simp [h, h2]
      · simp [h, h2]
    · simp [h]
theorem eqv_dInts (a b : List Int) : PyData.eqv (dInts a) (dInts b) = decide (a = b) := by
  simp only [dInts, PyData.eqv]; exact eqv_intsL a b
theorem any_looks (l : List Int) (ls : List (List Int)) : ((ls.map dInts).any fun z => PyData.eqv z (dInts l)) = decide (l ∈ ls) := by
  rw [List.any_map]
  rw [Bool.eq_iff_iff, List.any_eq_true, decide_eq_true_iff]
  constructor
  · rintro ⟨m, hm, h⟩
    have e : PyData.eqv (dInts m) (dInts l) = true := h
    rw [eqv_dInts] at e
    rw [← of_decide_eq_true e]; exact hm
  · intro h
    exact ⟨l, h, by show PyData.eqv (dInts l) (dInts l) = true; rw [eqv_dInts]; exact decide_eq_true rfl⟩
/-- look in self.asked -/
theorem rd_inAsked {H : Hp} {a : GA} {g : GS} {x : V} {l : List Int} {Q : VK} (h : GtAt K H a g) (hx : Dp K H x (dInts l)) (q : Q (.bl (decide (l ∈ g.asked))) H) : rInD K x (.ref a.asked) H Q :=
  ⟨dInts l, g.asked.map dInts, hx, h.dpAsked, shaped_dInts l, shaped_looks _, by rw [any_looks]; exact q⟩
theorem rd_ninAsked {H : Hp} {a : GA} {g : GS} {x : V} {l : List Int} {Q : VK} (h : GtAt K H a g) (hx : Dp K H x (dInts l)) (q : Q (.bl (!decide (l ∈ g.asked))) H) : rNotInD K x (.ref a.asked) H Q :=
  ⟨dInts l, g.asked.map dInts, hx, h.dpAsked, shaped_dInts l, shaped_looks _, by rw [any_looks]; exact q⟩
theorem dp_look {H : Hp} {b : Addr} {l : List Int} (h : H b = some (.tup (l.map V.int))) : Dp K H (.ref b) (dInts l) := .tup (st_of h) (dpa_of_ints l)
/-- the dicts -/
theorem known_val (tb : List (List Int × TA3)) (l : List Int) : valV (knownK tb) (lk l) = (look tb l).map fun q => V.ref q.1 := valV_conv (κ' := List Key) lk lk_inj (fun q : TA3 => V.ref q.1) l tb
theorem gone_val (gv : List (Int × V)) (n : Int) : valV (goneK gv) (Sum.inl n) = look gv n := by
  have := valV_conv (κ' := Key) Sum.inl inl_inj (fun v : V => v) n gv
  rw [show goneK gv = gv.map fun p => ((Sum.inl p.1 : Key), p.2) from rfl, this, Option.map_id']
theorem gone_put (gv : List (Int × V)) (n : Int) (v : V) : putK (goneK gv) (Sum.inl n) v = goneK (put gv n v) := putK_conv (κ' := Key) Sum.inl inl_inj (fun v : V => v) n v gv
theorem known_put (tb : List (List Int × TA3)) (l : List Int) (q : TA3) : putK (knownK tb) (lk l) (.ref q.1) = knownK (put tb l q) := putK_conv (κ' := List Key) lk lk_inj (fun q : TA3 => V.ref q.1) l q tb
section
variable {H : Hp} {a : GA} {g : GS}
theorem GtAt.dgKnown {b : Addr} {l : List Int} (h : GtAt K H a g) (hb : H b = some (.tup (l.map V.int))) : DGet H a.known (.ref b) ((look a.tb l).map fun q => V.ref q.1) := by
  rw [← known_val]
  exact DGet.t h.known (by rw [lk_kV]; exact hb)
theorem GtAt.dgGone (h : GtAt K H a g) (n : Int) : DGet H a.gone (.int n) (look a.gv n) := by
  rw [← gone_val]
  exact DGet.k (k := Sum.inl n) h.gone
theorem GtAt.goneB (h : GtAt K H a g) (n : Int) : (look a.gv n).isSome = g.isGone n := by
  unfold GS.isGone
  rcases pk_look (k := n) h.r.gone with ⟨e1, e2⟩ | ⟨b, r, e1, e2, _⟩
  · rw [e1, e2]; rfl
  · rw [e1, e2]; rfl
end
end LG

set_option Elab.async false
set_option linter.all false
set_option maxRecDepth 100000
set_option maxHeartbeats 4000000
namespace LG
open PySem PySem.Spec L2 Evl
open PyProof.Rows hiding St
variable {P : Program} {w : World} {K : PySem.W.Frag} {mg : Str → Option Value} {base : Heap}

/-- how large a gate is -/
structure Sm (g : GS) : Prop where
  len : g.top.length + g.upon.length + g.queue.length + g.gone.length ≤ 20
theorem WF.sm' {N : Nat} {g : GS} (W : WF N g) : Sm g := ⟨by have := W.len; have := W.few; have := W.hN; omega⟩
def sp_Gate_look_at (K : PySem.W.Frag) : Sp := fun vs H Q _ => ∃ a g p, vs = [.ref a.p, .int p] ∧ GtAt K H a g ∧ Sm g ∧ ∀ q H', H q = none → Ex H H' → H' q = some (.tup ((g.lookI p).map V.int)) → Q (.ref q) H'
theorem cutTo_len (l : List Int) (p : Int) : (GS.cutTo l p).length ≤ l.length := by
  unfold GS.cutTo
  split
  · rw [List.length_take]; omega
  · rw [List.length_take]; omega
abbrev N_Gate_look_at : List Str := ["self", "place"]
theorem sc_Gate_look_at : FnScope N_Gate_look_at ["self", "place"] (defScope s_Gate_look_at) := ⟨rfl, rfl, rfl, by decide +kernel, rfl, by decide +kernel, by decide +kernel⟩
-- slots: 0:self 1:place
theorem ok_Gate_look_at (T : Tx K mg) : Ok P w K mg base 1 ("Gate", some "look_at") ["self", "place"] (sp_Gate_look_at K) := by
  refine T.ok 24 rfl (N := N_Gate_look_at) rfl rfl sc_Gate_look_at (fun vs H Q E h => ?_) (fun _ _ _ _ _ _ us hl => match us, hl with | [_, _], _ => rfl) (fun cdv A outer s H vs Q E hr h => ?_)
  · obtain ⟨_, _, _, rfl, _⟩ := h
    rfl
  have hu := hu_of hr
  obtain ⟨a, g, p, rfl, h, sm, k⟩ := h
  refine ⟨_, (pss_one (ps_ret (pe_callTy (ktuple K) (by rfl) T.b_tuple (by decide +kernel) (pa_cons (pe_op op_cat (kfld K (pv 0)) (pe_slice (ksll K) (kfld K (pv 0)) po_none (po_some (pv 1)))) pa_nil)))), ?_⟩
  have l := sm.len
  refine ⟨_, rfl, _, _, _, _, _, rfl, (h).ob, T.c_Gate, T.n_Gate_top, rfl, ?_⟩
  refine ⟨_, rfl, _, _, _, _, _, rfl, (h).ob, T.c_Gate, T.n_Gate_upon, rfl, _, rfl, p, rfl, a.upon, _, rfl, sq_of h.upon, fun q nq => ?_⟩
  rw [cutI]
  have e1 : Ex H (upd H q (.lst ((GS.cutTo g.upon p).map V.int))) := Ex.new nq
  have hl := cutTo_len g.upon p
  refine ⟨a.top, q, _, _, rfl, rfl, e1 _ _ h.top, upd_same, by rw [List.length_map, List.length_map, sizeLine_eq]; omega, fun r nr => ?_⟩
  rw [← List.map_append]
  have e2 := e1.trans (Ex.new (H := upd H q (.lst ((GS.cutTo g.upon p).map V.int))) (o := .lst ((g.top ++ GS.cutTo g.upon p).map V.int)) nr)
  refine rd_tupleN (sq_of upd_same) fun t H3 nt e3 ht => k t H3 (fresh_back e2 nt) (e2.trans e3) ht
def sp_Gate_told_of (K : PySem.W.Frag) : Sp := fun vs H Q _ => ∃ a g b l, vs = [.ref a.p, .ref b] ∧ GtAt K H a g ∧ H b = some (.tup (l.map V.int)) ∧ Q (.str (wS (g.told l))) H
abbrev N_Gate_told_of : List Str := ["self", "look"]
theorem sc_Gate_told_of : FnScope N_Gate_told_of ["self", "look"] (defScope s_Gate_told_of) := ⟨rfl, rfl, rfl, by decide +kernel, rfl, by decide +kernel, by decide +kernel⟩
-- slots: 0:self 1:look
theorem ok_Gate_told_of (T : Tx K mg) : Ok P w K mg base 2 ("Gate", some "told_of") ["self", "look"] (sp_Gate_told_of K) := by
  refine T.ok 25 rfl (N := N_Gate_told_of) rfl rfl sc_Gate_told_of (fun vs H Q E h => ?_) (fun _ _ _ _ _ _ us hl => match us, hl with | [_, _], _ => rfl) (fun cdv A outer s H vs Q E hr h => ?_)
  · obtain ⟨_, _, _, _, rfl, _⟩ := h
    rfl
  have hu := hu_of hr
  obtain ⟨a, g, b, l, rfl, h, hb, k⟩ := h
  refine ⟨_, (pss_cons (ps_if (pt_cmp (pc_din hu (pv 1) (kfld K (pv 0)))) (pss_one (ps_ret (pe_m0 (pe_dget hu (kfld K (pv 0)) (pv 1) (fun _ _ => rfl)) (ok_Tally_word T) T.c_Tally T.m_Tally_word hr passL))) pss_nil)
 (pss_one (ps_ret pe_str))), ?_⟩
  refine ⟨_, rfl, _, rfl, _, _, _, _, _, rfl, (h).ob, T.c_Gate, T.n_Gate_known, rfl, a.known, _, rfl, h.dgKnown hb, ?_⟩
  unfold GS.told at k
  rcases pk_look (k := l) h.kn.at_ with ⟨e1, e2⟩ | ⟨q, t, e1, e2, tl⟩
  · rw [e1]
    rw [e2] at k
    exact ⟨_, rfl, iteF k⟩
  · rw [e1]
    rw [e2] at k
    refine ⟨_, rfl, iteT ?_⟩
    refine (⟨_, rfl, _, _, _, _, _, rfl, (h).ob, T.c_Gate, T.n_Gate_known, rfl, _, rfl, a.known, _, rfl, (by have := h.dgKnown hb; rw [e1] at this; exact this), ?_⟩)
    exact ⟨q.1, q.2.1, _, rfl, tl.ob, rfl, q.1, q.2.1, q.2.2, t, rfl, tl, k⟩
theorem in_bad (o : Option Ans) : inV (.str (wS o)) [.str "no", .str "unsure"] = (decide (o = some .no) || decide (o = some .unsure)) := by
  cases o with
  | none => decide +kernel
  | some a => cases a <;> decide +kernel
theorem bad_none {g : GS} (h : ∀ k, 1 ≤ k → k ≤ g.upon.length → g.badAt k = false) : g.bad = none := by
  unfold GS.bad
  rw [List.find?_eq_none]
  intro k hk
  rw [List.mem_range'_1] at hk
  rw [h k hk.1 (by omega)]
  decide
theorem bad_hit {g : GS} {k : Nat} (h1 : 1 ≤ k) (h2 : k ≤ g.upon.length) (h : g.badAt k = true) (hb : ∀ j, 1 ≤ j → j < k → g.badAt j = false) : g.bad = some k := by
  unfold GS.bad
  rw [List.find?_eq_some_iff_append]
  refine ⟨h, List.range' 1 (k - 1), List.range' (k + 1) (g.upon.length - k), ?_, fun j hj => ?_⟩
  · have e1 : k :: List.range' (k + 1) (g.upon.length - k) = List.range' k (g.upon.length - k + 1) := by rw [List.range'_succ]
    have e2 : k = 1 + (k - 1) := by omega
    rw [e1]
    conv => rhs; rhs; rw [e2]
    rw [List.range'_append_1]
    congr 1
    omega
  · rw [List.mem_range'_1] at hj
    rw [hb j hj.1 (by omega)]
    rfl
def sp_Gate_bad (K : PySem.W.Frag) : Sp := fun vs H Q _ => ∃ a g, vs = [.ref a.p] ∧ GtAt K H a g ∧ Sm g ∧ ∀ H', Ex H H' → Q (vOpt (g.bad.map Int.ofNat)) H'
abbrev N_Gate_bad : List Str := ["self", "place"]
theorem sc_Gate_bad : FnScope N_Gate_bad ["self"] (defScope s_Gate_bad) := ⟨rfl, rfl, rfl, by decide +kernel, rfl, by decide +kernel, by decide +kernel⟩
-- slots: 0:self 1:place
theorem ok_Gate_bad (T : Tx K mg) : Ok P w K mg base 3 ("Gate", some "bad") ["self"] (sp_Gate_bad K) := by
  refine T.ok 26 rfl (N := N_Gate_bad) rfl rfl sc_Gate_bad (fun vs H Q E h => ?_) (fun _ _ _ _ _ _ us hl => match us, hl with | [_], _ => rfl) (fun cdv A outer s H vs Q E hr h => ?_)
  · obtain ⟨_, _, rfl, _⟩ := h
    rfl
  have hu := hu_of hr
  obtain ⟨a, g, rfl, h, sm, k⟩ := h
  refine ⟨_, (pss_cons (ps_for (passes_of rfl) rfl (pi_range2 (by rfl) T.b_range (pa_cons pe_int (pa_cons (pe_op op_add (pe_callB (klen K) (by rfl) T.b_len (by decide +kernel) (pa_cons (kfld K (pv 0)) pa_nil)) pe_int) pa_nil))) (pg_name (i := 1) sc_Gate_bad.nd rfl (by first | exact Or.inl rfl | exact Or.inr rfl))
  (pss_one (ps_if (pt_cmpR (kin K) (pe_m (pv 0) (ok_Gate_told_of T) T.c_Gate T.m_Gate_told_of hr passL (pa_cons (pe_m (pv 0) (ok_Gate_look_at T) T.c_Gate T.m_Gate_look_at hr passL (pa_cons (pv 1) pa_nil)) pa_nil)) (pe_tup (pa_cons pe_str (pa_cons pe_str pa_nil))) (by rfl)) (pss_one (ps_ret (pv 1))) pss_nil)))
 (pss_one (ps_ret pe_non))), ?_⟩
  have l := sm.len
  refine ⟨_, rfl, _, _, _, _, _, rfl, (h).ob, T.c_Gate, T.n_Gate_upon, rfl, a.upon, _, rfl, .inl (sq_of h.upon), _, _, rfl, rfl, ?_⟩
  rw [List.length_map]
  refine ⟨1, (g.upon.length : Int) + 1, rfl, by omega, ?_⟩
  have el : ((g.upon.length : Int) + 1 - 1).toNat = g.upon.length := by omega
  rw [el]
  refine for_range (fun i σ' H' => (∃ v1, σ' = [some (.ref a.p), v1]) ∧ Ex H H' ∧ ∀ k, 1 ≤ k → k ≤ i → g.badAt k = false) ⟨⟨_, rfl⟩, Ex.refl _, fun k h1 h2 => by omega⟩ ?_ ?_
  · rintro i σ' H' hi ⟨⟨v1, rfl⟩, e, hb⟩
    have h1 := h.ex e
    have ei : (1 : Int) + (i : Int) = ((i + 1 : Nat) : Int) := by omega
    rw [ei]
    refine ⟨_, rfl, _, _, _, rfl, (h1).ob, rfl, _, rfl, _, _, _, rfl, (h1).ob, rfl, _, rfl, a, g, _, rfl, h1, sm, fun q H2 nq e2 hq => ?_⟩
    rw [lookI_nat] at hq
    refine ⟨a, g, q, _, rfl, h1.ex e2, hq, ?_⟩
    refine ⟨by show 2 ≤ sizeLine; decide, fun p np => ?_⟩
    refine ⟨p, _, rfl, .inr (st_of upd_same), rfl, rfl, _, rfl, ?_⟩
    rw [if_neg (by decide), in_bad]
    have e3 : Ex H (upd H2 p (.tup [.str "no", .str "unsure"])) := (e.trans e2).trans (Ex.new np)
    refine ite2 (fun c => ?_) (fun c => ?_)
    · refine ⟨_, rfl, ?_⟩
      have := k _ e3
      rw [bad_hit (k := i + 1) (by omega) (by omega) c (fun j h1 h2 => hb j h1 (by omega))] at this
      exact this
    · refine ⟨⟨_, rfl⟩, e3, fun k h1 h2 => ?_⟩
      by_cases z : k ≤ i
      · exact hb k h1 z
      · have : k = i + 1 := by omega
        rw [this]
        exact eq_false_of_ne_true c
  · rintro σ' H' ⟨⟨v1, rfl⟩, e, hb⟩
    have := k _ e
    rw [bad_none hb] at this
    exact this
def sp_Gate_wait_again (K : PySem.W.Frag) : Sp := fun vs H Q _ => ∃ a g, ∃ k : Nat, vs = [.ref a.p, .int k] ∧ GtAt K H a g ∧ Sm g ∧ ∀ a' H', a'.p = a.p → GtAt K H' a' (g.waitAgain k) → Fr (foot a) (foot a') H H' → Q .non H'
abbrev N_Gate_wait_again : List Str := ["self", "at"]
theorem sc_Gate_wait_again : FnScope N_Gate_wait_again ["self", "at"] (defScope s_Gate_wait_again) := ⟨rfl, rfl, rfl, by decide +kernel, rfl, by decide +kernel, by decide +kernel⟩
-- slots: 0:self 1:at
theorem ok_Gate_wait_again (T : Tx K mg) : Ok P w K mg base 1 ("Gate", some "wait_again") ["self", "at"] (sp_Gate_wait_again K) := by
  refine T.ok 27 rfl (N := N_Gate_wait_again) rfl rfl sc_Gate_wait_again (fun vs H Q E h => ?_) (fun _ _ _ _ _ _ us hl => match us, hl with | [_, _], _ => rfl) (fun cdv A outer s H vs Q E hr h => ?_)
  · obtain ⟨_, _, _, rfl, _⟩ := h
    rfl
  have hu := hu_of hr
  obtain ⟨a, g, p, rfl, h, sm, k⟩ := h
  refine ⟨_, (pss_cons (ksfld K (pv 0) (pe_callB (ksort K) (by rfl) T.b_sorted (by decide +kernel) (pa_cons (pe_op op_cat (kfld K (pv 0)) (pe_slice (ksll K) (kfld K (pv 0)) (po_some (pv 1)) po_none)) pa_nil)))
 (pss_one (ksfld K (pv 0) (pe_slice (ksll K) (kfld K (pv 0)) po_none (po_some (pv 1)))))), ?_⟩
  have l := sm.len
  refine ⟨_, rfl, _, _, _, _, _, rfl, (h).ob, T.c_Gate, T.n_Gate_queue, rfl, _, rfl, _, _, _, _, _, rfl, (h).ob, T.c_Gate, T.n_Gate_upon, rfl, _, rfl, p, rfl, a.upon, _, rfl, sq_of h.upon, fun q nq => ?_⟩
  rw [cutV_from, ← List.map_drop]
  have e1 : Ex H (upd H q (.lst ((g.upon.drop p).map V.int))) := Ex.new nq
  refine ⟨a.queue, q, _, _, rfl, rfl, e1 _ _ h.queue, upd_same, by rw [List.length_map, List.length_map, List.length_drop, sizeLine_eq]; omega, fun r nr => ?_⟩
  rw [← List.map_append]
  have e2 := e1.trans (Ex.new (H := upd H q (.lst ((g.upon.drop p).map V.int))) (o := .lst ((g.queue ++ g.upon.drop p).map V.int)) nr)
  refine rd_sorted (sq_of upd_same) fun t H3 nt e3 ht => ?_
  have e03 := e2.trans e3
  have nt0 := fresh_back e2 nt
  refine ⟨_, rfl, _, _, _, _, rfl, ((h.ex e03)).ob, T.c_Gate, T.n_Gate_queue, (by show 12 < 1000; decide), ?_⟩
  obtain ⟨h4, f4⟩ := h.reb (o := .ins (He.ga K "Gate") a.dx (putF "queue" (.ref t) (gF a g.halted))) (a' := { a with queue := t }) (g' := { g with queue := isort (g.queue ++ g.upon.drop p) }) e03 nt0 ht 7 rfl rfl rfl rfl (fun H2 r => ⟨r.house, r.lv, r.ev, r.sz, r.gone, r.asked, r.gr, r.en, r.tl⟩)
  generalize upd H3 a.p (.ins (He.ga K "Gate") a.dx (putF "queue" (.ref t) (gF a g.halted))) = H4 at h4 f4 ⊢
  refine ⟨_, rfl, _, _, _, _, _, rfl, (h4).ob, T.c_Gate, T.n_Gate_upon, rfl, _, rfl, p, rfl, a.upon, _, rfl, sq_of h4.upon, fun q nq => ?_⟩
  have ec : cutV (g.upon.map V.int) none (some (p : Int)) = (g.upon.take p).map V.int := by
    rw [cutI]; unfold GS.cutTo; rw [if_pos (by omega), Int.toNat_natCast]
  show tVar 0 _ _ _
  rw [show cutV (({ g with queue := isort (g.queue ++ g.upon.drop p) } : GS).upon.map V.int) none (some (p : Int)) = (g.upon.take p).map V.int from ec]
  have h5 := h4.ex (Ex.new (o := .lst ((g.upon.take p).map V.int)) nq)
  refine ⟨_, rfl, _, _, _, _, rfl, (h5).ob, T.c_Gate, T.n_Gate_upon, (by show 12 < 1000; decide), ?_⟩
  obtain ⟨h6, f6⟩ := h4.reb (o := .ins (He.ga K "Gate") a.dx (putF "upon" (.ref q) (gF { a with queue := t } g.halted))) (a' := { a with queue := t, upon := q }) (g' := g.waitAgain p) (Ex.new nq) nq (u := .lst ((g.upon.take p).map V.int)) upd_same 6 rfl rfl rfl rfl (fun H2 r => ⟨r.house, r.lv, r.ev, r.sz, r.gone, r.asked, r.gr, r.en, r.tl⟩)
  exact k { a with queue := t, upon := q } _ rfl h6 (f4.trans f6)
def sp_Gate_put_out (K : PySem.W.Frag) : Sp := fun vs H Q _ => ∃ a g n v r, vs = [.ref a.p, .int n, v] ∧ GtAt K H a g ∧ Sm g ∧ n ∈ g.queue ∧ Dp K H v (dGround r) ∧ ∀ a' H', a'.p = a.p → GtAt K H' a' (g.putOut n r) → Fr (foot a) (foot a') H H' → Q .non H'
abbrev N_Gate_put_out : List Str := ["self", "number", "ground"]
theorem sc_Gate_put_out : FnScope N_Gate_put_out ["self", "number", "ground"] (defScope s_Gate_put_out) := ⟨rfl, rfl, rfl, by decide +kernel, rfl, by decide +kernel, by decide +kernel⟩
-- slots: 0:self 1:number 2:ground
theorem ok_Gate_put_out (T : Tx K mg) : Ok P w K mg base 1 ("Gate", some "put_out") ["self", "number", "ground"] (sp_Gate_put_out K) := by
  refine T.ok 28 rfl (N := N_Gate_put_out) rfl rfl sc_Gate_put_out (fun vs H Q E h => ?_) (fun _ _ _ _ _ _ us hl => match us, hl with | [_, _, _], _ => rfl) (fun cdv A outer s H vs Q E hr h => ?_)
  · obtain ⟨_, _, _, _, _, rfl, _⟩ := h
    rfl
  have hu := hu_of hr
  obtain ⟨a, g, n, v, r, rfl, h, sm, hq, hv, k⟩ := h
  refine ⟨_, (pss_cons (ps_expr (kbm K PySem.F.plainAttrs_list PySem.F.slot_list_remove PySem.F.type_list_remove kremove (kfld K (pv 0)) (pa_cons (pv 1) pa_nil)))
 (pss_one (ps_dput hu (kfld K (pv 0)) (pv 1) (pv 2) rfl))), ?_⟩
  have l := sm.len
  refine ⟨_, rfl, _, _, _, _, _, rfl, (h).ob, T.c_Gate, T.n_Gate_queue, rfl, .inl ⟨rfl, _, sq_of h.queue⟩, _, rfl, rd_remove h.queue hq ?_⟩
  obtain ⟨h2, f2⟩ := h.put (u := .lst ((g.queue.erase n).map V.int)) (a' := a) (g' := { g with queue := g.queue.erase n }) 7 rfl rfl rfl rfl rfl (fun H2 r => ⟨r.house, r.lv, r.ev, r.sz, r.gone, r.asked, r.gr, r.en, r.tl⟩)
  generalize upd H a.queue (.lst ((g.queue.erase n).map V.int)) = H2 at h2 f2 ⊢
  have gl : a.gv.length = g.gone.length := pk_len h.r.gone
  refine ⟨v, rfl, _, rfl, _, _, _, _, _, rfl, (h2).ob, T.c_Gate, T.n_Gate_gone, rfl, _, rfl, a.gone, _, rfl, DPut.k (k := Sum.inl n) h2.gone (by rw [show (goneK a.gv).length = a.gv.length from List.length_map _, sizeLine_eq]; omega), ?_⟩
  rw [gone_put]
  have hv2 := dp_keep f2.keep (nl_ground r) hv
  obtain ⟨h3, f3⟩ := h2.put (u := .dK (goneK (put a.gv n v))) (a' := { a with gv := put a.gv n v }) (g' := g.putOut n r) 8 rfl rfl rfl rfl rfl (fun kp q => ⟨q.house, q.lv, q.ev, q.sz, pk_put (R := fun v r => Dp K _ v (dGround r)) (dp_keep kp (nl_ground r) hv2) q.gone, q.asked, q.gr, q.en, q.tl⟩)
  exact k { a with gv := put a.gv n v } _ rfl h3 (f2.trans f3)
end LG

set_option Elab.async false
set_option linter.all false
set_option maxRecDepth 100000
set_option maxHeartbeats 4000000
namespace LG
open PySem PySem.Spec L2 Evl
open PyProof.Rows hiding St
variable {P : Program} {w : World} {K : PySem.W.Frag} {mg : Str → Option Value} {base : Heap}

theorem stays_eq {K : PySem.W.Frag} {H H' : Hp} {b : Addr} {xs : List V} (e : H' b = H b) : Stays K H H' b xs := by
  refine ⟨fun q => ?_, fun q => ?_⟩
  · unfold SqL Rd at q ⊢
    rw [e]; exact q
  · unfold SqT Rd at q ⊢
    rw [e]; exact q
theorem Fr.stays {F F' : List Addr} {H H' : Hp} {b : Addr} {o : HO} {xs : List V} (f : Fr F F' H H') (h : H b = some o) (n : b ∉ F) : Stays K H H' b xs := stays_eq ((f.out b o h n).trans h.symm)
theorem least_spec : ∀ (l : List Int) (m : Int), let r := l.foldl (fun m x => if x < m then x else m) m; (r = m ∨ r ∈ l) ∧ r ≤ m ∧ ∀ y ∈ l, r ≤ y
  | [], m => ⟨.inl rfl, Int.le_refl _, fun y h => (by cases h)⟩
  | x :: l, m => by
    have h := least_spec l (if x < m then x else m)
    simp only [List.foldl_cons]
    obtain ⟨h1, h2, h3⟩ := h
    refine ⟨?_, ?_, fun y hy => ?_⟩
    · rcases h1 with e | e
      · rw [e]
        split
        · exact .inr List.mem_cons_self
        · exact .inl rfl
      · exact .inr (List.mem_cons_of_mem _ e)
    · refine Int.le_trans h2 ?_
      split <;> omega
    · rcases List.mem_cons.mp hy with e | e
      · subst e
        refine Int.le_trans h2 ?_
        split <;> omega
      · exact h3 y e
theorem least_one {l : List Int} {m : Int} (h1 : m ∈ l) (h2 : ∀ y ∈ l, m ≤ y) : m = GS.leastOf l := by
  cases l with
  | nil => cases h1
  | cons a r =>
    obtain ⟨q1, q2, q3⟩ := least_spec r a
    have e : GS.leastOf (a :: r) = r.foldl (fun m x => if x < m then x else m) a := rfl
    rw [e]
    generalize r.foldl (fun m x => if x < m then x else m) a = z at *
    have a1 : z ≤ m := by
      rcases List.mem_cons.mp h1 with e | e
      · rw [e]; exact q2
      · exact q3 m e
    have a2 : m ≤ z := by
      rcases q1 with e | e
      · rw [e]; exact h2 a List.mem_cons_self
      · exact h2 z (List.mem_cons_of_mem _ e)
    omega
def sp_Gate_out_by_leaning (K : PySem.W.Frag) : Sp := fun vs H Q _ => ∃ a g N, vs = [.ref a.p] ∧ GtAt K H a g ∧ WF N g ∧ ∀ a' H', a'.p = a.p → GtAt K H' a' g.byLeaning → Fr (foot a) (foot a') H H' → Q .non H'
abbrev N_Gate_out_by_leaning : List Str := ["self", "number", "some", "one"]
theorem sc_Gate_out_by_leaning : FnScope N_Gate_out_by_leaning ["self"] (defScope s_Gate_out_by_leaning) := ⟨rfl, rfl, rfl, by decide +kernel, rfl, by decide +kernel, by decide +kernel⟩
-- slots: 0:self 1:number 2:some 3:one
theorem ok_Gate_out_by_leaning (T : Tx K mg) : Ok P w K mg base 3 ("Gate", some "out_by_leaning") ["self"] (sp_Gate_out_by_leaning K) := by
  refine T.ok 29 rfl (N := N_Gate_out_by_leaning) rfl rfl sc_Gate_out_by_leaning (fun vs H Q E h => ?_) (fun _ _ _ _ _ _ us hl => match us, hl with | [_], _ => rfl) (fun cdv A outer s H vs Q E hr h => ?_)
  · obtain ⟨_, _, _, rfl, _⟩ := h
    rfl
  have hu := hu_of hr
  obtain ⟨a, g, N, rfl, h, W, k⟩ := h
  refine ⟨_, (pss_one (ps_for (passes_of rfl) rfl (kseq K (pe_callTy (klist K) (by rfl) T.b_list (by decide +kernel) (pa_cons (kfld K (pv 0)) pa_nil))) (pg_name (i := 1) sc_Gate_out_by_leaning.nd rfl (by first | exact Or.inl rfl | exact Or.inr rfl))
  (pss_cons (ps_setLc (i := 2) (own := [("one", 3)]) rfl sc_Gate_out_by_leaning.nd rfl rfl (sw_true rfl rfl rfl (by decide +kernel)) (kseq K (pe_m (kfld K (pv 0)) (ok_Changes_leans_of T) T.c_Changes T.m_Changes_leans_of hr passL (pa_cons (pv 1) pa_nil))) (blkOk_by (N := N_Gate_out_by_leaning) (sc := defScope s_Gate_out_by_leaning) (by decide +kernel)) (fun _ _ _ _ _ => (pg_name (i := 3) sc_Gate_out_by_leaning.nd rfl (by first | exact Or.inl rfl | exact Or.inr rfl))) (fun _ _ _ _ _ => (pts_one (pt_cmp (pc_din hu (pv 3) (kfld K (pv 0)))))) (fun _ _ _ _ _ => (pv 3)))
 (pss_one (ps_if (pt_cmpR op_gt (pe_callB (klen K) (by rfl) T.b_len (by decide +kernel) (pa_cons (pv 2) pa_nil)) pe_int (nomark _)) (pss_one (ps_expr (pe_m (pv 0) (ok_Gate_put_out T) T.c_Gate T.m_Gate_put_out hr passL (pa_cons (pv 1) (pa_cons (pe_tup (pa_cons pe_str (pa_cons (pe_callB (kmin K) (by rfl) T.b_min (by decide +kernel) (pa_cons (pv 2) pa_nil)) pa_nil))) pa_nil))))) pss_nil))))), ?_⟩
  refine ⟨_, rfl, _, _, _, _, _, rfl, (h).ob, T.c_Gate, T.n_Gate_queue, rfl, rd_listI (.inl (sq_of h.queue)) fun L H1 nL e1 hL => ?_⟩
  have h1 := h.ex e1
  have nin := h.nin nL
  refine for_s (g.queue.map V.int) g.queue (by rw [List.length_map]) (fun done todo σ' H' => ∃ a1 g1, (∃ v1 v2 v3, σ' = [some (.ref a.p), v1, v2, v3]) ∧ a1.p = a.p ∧ GtAt K H' a1 g1 ∧ WF N g1 ∧ Fr (foot a) (foot a1) H1 H' ∧ todo.foldl GS.leanStep g1 = g.byLeaning ∧ (∀ n ∈ todo, n ∈ g1.queue) ∧ todo.Nodup)
    (HB := H1) (.inl (sq_of hL)) ⟨a, g, ⟨_, _, _, rfl⟩, rfl, h1, W, Fr.refl _ _, rfl, fun _ h => h, W.so.imp (fun {a b} (h : a < b) => (show a ≠ b by omega))⟩ ?_ ?_ ?_
  · rintro done todo σ' H' _ ⟨a1, g1, _, _, _, _, f, _⟩
    exact f.stays hL nin
  · rintro done n todo v σ' H2 he hv hdd ⟨a1, g1, ⟨v1, v2, v3, rfl⟩, ep, h2, W2, f2, hf, hq, nd⟩
    rw [List.getElem?_map, hdd] at hv
    cases hv
    have hn := hq n List.mem_cons_self
    rw [List.foldl_cons] at hf
    rw [← ep]
    have on := W2.okQ hn
    have sm := W2.sm'
    refine ⟨_, rfl, _, _, _, _, _, rfl, (h2).ob, T.c_Gate, T.n_Gate_store, rfl, _, _, _, rfl, (h2).cob, rfl, _, rfl, a1.st, a1.ca, g1.chs, n, rfl, h2.chs, on.1, on.2, fun p H3 np e3 hp => ?_⟩
    have h3 := h2.ex e3
    have hz := (getC_sm W2.sm n).1
    refine lc_d (K := K) ((getC g1.chs n).leans.map V.int) (getC g1.chs n).leans (fun m => if g1.isGone m = true then some (.int m) else none) (by rw [List.length_map]) (by omega) (.inl (sq_of hp)) ?_ ?_ ?_
    · intro n e he
      split at he
      · cases he; rfl
      · cases he
    · intro m v H4 Yes No e4 hm i hv hi yes no
      rw [List.getElem?_map, hi] at hv
      cases hv
      have h4 := h3.ex e4
      refine ⟨rfl, _, rfl, _, rfl, _, _, _, _, _, rfl, (h4).ob, T.c_Gate, T.n_Gate_gone, rfl, a1.gone, _, rfl, h4.dgGone m, ?_⟩
      rw [h4.goneB]
      refine ⟨_, rfl, ?_⟩
      cases hg : g1.isGone m with
      | true => exact iteT ⟨_, rfl, yes _ _ _ (Ex.refl _) (by rw [hg]; rfl) (.int _)⟩
      | false => exact iteF (no _ (Ex.refl _) (by rw [hg]; rfl))
    · intro M ys H4 nM e4 hM hp4
      have q4 : (getC g1.chs n).leans.filterMap (fun m => if g1.isGone m = true then some (PyData.int m) else none) = (g1.outLeans n).map PyData.int := fm_if g1.isGone PyData.int _
      rw [q4] at hp4
      rw [dpa_ints hp4] at hM
      have e24 := e3.trans e4
      have h4 := h2.ex e24
      obtain ⟨W5, c1, c2, c3, c4, c5⟩ := W2.lean hn
      have fin : ∀ a5 H5, a5.p = a1.p → GtAt K H5 a5 (g1.leanStep n) → Fr (foot a1) (foot a5) H2 H5 → ∀ σ5 : L2.St, (∃ v1 v2 v3, σ5 = [some (.ref a1.p), v1, v2, v3]) → ∃ a1_1 g2, (∃ v1 v2 v3, σ5 = [some (.ref a1.p), v1, v2, v3]) ∧ a1_1.p = a1.p ∧ GtAt K H5 a1_1 g2 ∧ WF N g2 ∧ Fr (foot a) (foot a1_1) H1 H5 ∧ todo.foldl GS.leanStep g2 = g.byLeaning ∧ (∀ n ∈ todo, n ∈ g2.queue) ∧ todo.Nodup := fun a5 H5 ep5 h5 f5 σ5 hσ =>
        ⟨a5, g1.leanStep n, hσ, ep5, h5, W5, f2.trans f5, hf, fun m hm => (c1 m fun e => (List.nodup_cons.mp nd).1 (by rw [← e]; exact hm)).mpr (hq m (List.mem_cons_of_mem _ hm)), (List.nodup_cons.mp nd).2⟩
      refine ⟨_, rfl, M, _, rfl, .inl (sq_of hM), _, _, rfl, rfl, _, rfl, ?_⟩
      rw [List.length_map]
      refine ite2 (fun c => ?_) (fun c => ?_)
      · have c6 := dt c
        have hne : g1.outLeans n ≠ [] := fun e => by rw [e] at c6; simp at c6
        have el : g1.leanStep n = g1.putOut n (.leans (GS.leastOf (g1.outLeans n))) := by unfold GS.leanStep; rw [if_neg hne]
        refine ⟨_, rfl, _, _, _, rfl, (h4).ob, rfl, _, rfl, _, rfl, M, g1.outLeans n, rfl, sq_of hM, by omega, fun m m1 m2 => ?_⟩
        rw [least_one m1 m2]
        refine ⟨by show 2 ≤ sizeLine; decide, fun t nt => ?_⟩
        have e5 : Ex H2 (upd H4 t (.tup [.str "leans", .int (GS.leastOf (g1.outLeans n))])) := e24.trans (Ex.new nt)
        refine ⟨a1, g1, n, _, .leans (GS.leastOf (g1.outLeans n)), rfl, h2.ex e5, sm, hn, .tup (st_of upd_same) (.cons (.str _) (.cons (.int _) .nil)), fun a6 H6 ep6 h6 f6 => ?_⟩
        exact fin a6 H6 ep6 (by rw [el]; exact h6) ((Fr.of_ex e5).trans f6) _ ⟨_, _, _, rfl⟩
      · have c6 := df c
        have hne : g1.outLeans n = [] := List.length_eq_zero_iff.mp (by omega)
        have el : g1.leanStep n = g1 := by unfold GS.leanStep; rw [if_pos hne]
        exact fin a1 H4 rfl (by rw [el]; exact h4) (Fr.of_ex e24) _ ⟨_, _, _, rfl⟩
  · rintro σ' H' ⟨a1, g1, ⟨v1, v2, v3, rfl⟩, ep, h2, W2, f2, hf, hq, nd⟩
    exact k a1 H' ep (by rw [← hf]; exact h2) ((Fr.of_ex e1).trans f2)
end LG

set_option Elab.async false
set_option linter.all false
set_option maxRecDepth 100000
set_option maxHeartbeats 4000000
namespace LG
open PySem PySem.Spec L2 Evl
open PyProof.Rows hiding St
variable {P : Program} {w : World} {K : PySem.W.Frag} {mg : Str → Option Value} {base : Heap}

theorem tl_ix {tl : List Int} {j : Nat} (l : tl.length = 5) (hj : j < 5) : ixN (tl.map V.int).length (j : Int) = some j := ixN_nat (by rw [List.length_map]; omega)
theorem tl_at {tl : List Int} {j : Nat} (l : tl.length = 5) (hj : j < 5) : atI (tl.map V.int) (j : Int) = some (.int (tl.getD j 0)) := by
  unfold atI
  rw [tl_ix l hj]
  have h : j < tl.length := by omega
  show (tl.map V.int)[j]? = _
  rw [List.getElem?_map, List.getElem?_eq_getElem h, List.getD_eq_getElem?_getD, List.getElem?_eq_getElem h]
  rfl
theorem atI_zero {α : Type} (x : α) (r : List α) : atI (x :: r) 0 = some x := by
  unfold atI
  rw [show (0 : Int) = ((0 : Nat) : Int) from rfl, ixN_nat (by simp)]
  rfl
/-- tolls[j] += 1 -/
theorem GtAt.toll {H : Hp} {a : GA} {g : GS} (h : GtAt K H a g) (j : Nat) (x : Int) : GtAt K (upd H a.tolls (.lst ((a.tl.map V.int).set j (.int x)))) { a with tl := a.tl.set j x } g ∧ Fr (foot a) (foot a) H (upd H a.tolls (.lst ((a.tl.map V.int).set j (.int x)))) := by
  have e : (a.tl.map V.int).set j (.int x) = (a.tl.set j x).map V.int := (List.map_set).symm
  rw [e]
  exact h.put (u := .lst ((a.tl.set j x).map V.int)) (a' := { a with tl := a.tl.set j x }) (g' := g) 13 rfl rfl rfl rfl rfl (fun kp q => ⟨q.house, q.lv, q.ev, q.sz, q.gone, q.asked, q.gr, q.en, by show (a.tl.set j x).length = 5; rw [List.length_set]; exact q.tl⟩)
def sp_Gate_sheet (K : PySem.W.Frag) : Sp := fun vs H Q _ => ∃ a g N, vs = [.ref a.p] ∧ GtAt K H a g ∧ WF N g ∧ ∀ p xs H', H p = none → Ex H H' → H' p = some (.lst xs) → DpAll K H' xs (g.sheet.map dPair) → Q (.ref p) H'
abbrev N_Gate_sheet : List Str := ["self"]
theorem sc_Gate_sheet : FnScope N_Gate_sheet ["self"] (defScope s_Gate_sheet) := ⟨rfl, rfl, rfl, by decide +kernel, rfl, by decide +kernel, by decide +kernel⟩
-- slots: 0:self
theorem ok_Gate_sheet (T : Tx K mg) : Ok P w K mg base 4 ("Gate", some "sheet") ["self"] (sp_Gate_sheet K) := by
  refine T.ok 46 rfl (N := N_Gate_sheet) rfl rfl sc_Gate_sheet (fun vs H Q E h => ?_) (fun _ _ _ _ _ _ us hl => match us, hl with | [_], _ => rfl) (fun cdv A outer s H vs Q E hr h => ?_)
  · obtain ⟨_, _, _, rfl, _⟩ := h
    rfl
  have hu := hu_of hr
  obtain ⟨a, g, N, rfl, h, W, k⟩ := h
  refine ⟨_, (pss_one (ps_ret (pe_f (ok_sheet_of T) hr T.g_sheet_of passL (pa_cons (kfld K (pv 0)) (pa_cons (kfld K (pv 0)) pa_nil))))), ?_⟩
  have lo := W.lay
  have wt := lo.wt
  rw [wtE_app, wtE_app] at wt
  exact ⟨_, rfl, _, _, _, _, _, rfl, (h).ob, T.c_Gate, T.n_Gate_store, rfl, _, rfl, _, _, _, _, _, rfl, (h).ob, T.c_Gate, T.n_Gate_top, rfl, a.st, a.ca, g.chs, .ref a.top, g.top, rfl, h.chs, h.dpTop, fun n hn => W.okT hn, stands_pre W.st, by omega, k⟩
def sp_Gate_out_by_look (K : PySem.W.Frag) : Sp := fun vs H Q _ => ∃ a g N, vs = [.ref a.p] ∧ GtAt K H a g ∧ WF N g ∧ g.upon ≠ [] ∧ ∀ a' H', a'.p = a.p → GtAt K H' a' g.byLook → Fr (foot a) (foot a') H H' → Q .non H'
abbrev N_Gate_out_by_look : List Str := ["self", "number", "look"]
theorem sc_Gate_out_by_look : FnScope N_Gate_out_by_look ["self"] (defScope s_Gate_out_by_look) := ⟨rfl, rfl, rfl, by decide +kernel, rfl, by decide +kernel, by decide +kernel⟩
-- slots: 0:self 1:number 2:look
theorem ok_Gate_out_by_look (T : Tx K mg) : Ok P w K mg base 3 ("Gate", some "out_by_look") ["self"] (sp_Gate_out_by_look K) := by
  refine T.ok 30 rfl (N := N_Gate_out_by_look) rfl rfl sc_Gate_out_by_look (fun vs H Q E h => ?_) (fun _ _ _ _ _ _ us hl => match us, hl with | [_], _ => rfl) (fun cdv A outer s H vs Q E hr h => ?_)
  · obtain ⟨_, _, _, rfl, _⟩ := h
    rfl
  have hu := hu_of hr
  obtain ⟨a, g, N, rfl, h, W, hu, k⟩ := h
  obtain ⟨n, r, eu⟩ : ∃ n r, g.upon = n :: r := by
    cases e : g.upon with
    | nil => exact absurd e hu
    | cons n r => exact ⟨n, r, rfl⟩
  refine ⟨_, (pss_cons (ps_set (i := 1) sc_Gate_out_by_look.nd rfl (by first | exact Or.inl rfl | exact Or.inr rfl) (pe_ix (kixl K) (kfld K (pv 0)) pe_int (fun _ _ => rfl)))
 (pss_cons (ps_set (i := 2) sc_Gate_out_by_look.nd rfl (by first | exact Or.inl rfl | exact Or.inr rfl) (pe_m (pv 0) (ok_Gate_look_at T) T.c_Gate T.m_Gate_look_at hr passL (pa_cons pe_int pa_nil)))
 (pss_cons (ps_expr (pe_m (pv 0) (ok_Gate_wait_again T) T.c_Gate T.m_Gate_wait_again hr passL (pa_cons pe_int pa_nil)))
 (pss_cons (ps_expr (pe_m (pv 0) (ok_Gate_put_out T) T.c_Gate T.m_Gate_put_out hr passL (pa_cons (pv 1) (pa_cons (pe_tup (pa_cons pe_str (pa_cons (pe_callTy (ktuple K) (by rfl) T.b_tuple (by decide +kernel) (pa_cons (kfld K (pv 0)) pa_nil)) (pa_cons (pv 2) (pa_cons (pe_m (pv 0) (ok_Gate_told_of T) T.c_Gate T.m_Gate_told_of hr passL (pa_cons (pv 2) pa_nil)) pa_nil))))) pa_nil))))
 (pss_one (ps_augS (kfld K (pv 0)) pe_int (kget K) pe_int ip_add set_list)))))), ?_⟩
  have sm := W.sm'
  have hup := h.upon
  rw [eu] at hup
  refine ⟨_, rfl, _, _, _, _, _, rfl, (h).ob, T.c_Gate, T.n_Gate_upon, rfl, a.upon, _, 0, .int n, rfl, rfl, sq_of hup, atI_zero _ _, ?_⟩
  refine ⟨_, rfl, _, _, _, rfl, (h).ob, rfl, a, g, 1, rfl, h, sm, fun lk H1 nlk e1 hlk => ?_⟩
  have el : g.lookI 1 = g.lookAt 1 := lookI_nat g 1
  rw [el] at hlk
  have h1 := h.ex e1
  refine ⟨_, rfl, _, _, _, rfl, (h1).ob, rfl, a, g, 0, rfl, h1, sm, fun a2 H2 ep2 h2 f2 => ?_⟩
  have hlk2 := f2.keep.tup _ _ hlk
  have hq : n ∈ (g.waitAgain 0).queue := by
    show n ∈ isort (g.queue ++ g.upon.drop 0)
    refine (isort_perm _).mem_iff.mpr (List.mem_append_right _ ?_)
    rw [List.drop_zero, eu]
    exact List.mem_cons_self
  have eb : g.byLook = (g.waitAgain 0).putOut n (.look g.top (g.lookAt 1) (g.told (g.lookAt 1))) := by unfold GS.byLook; rw [eu]
  rw [← ep2]
  refine ⟨_, rfl, _, _, _, rfl, (h2).ob, rfl, _, rfl, _, rfl, _, _, _, _, _, rfl, (h2).ob, T.c_Gate, T.n_Gate_top, rfl, rd_tuple h2.dpTop fun v H3 e3 hv => ?_⟩
  have h3 := h2.ex e3
  have hlk3 := e3 _ _ hlk2
  refine ⟨_, rfl, _, rfl, _, _, _, rfl, (h3).ob, rfl, _, rfl, a2, _, lk, g.lookAt 1, rfl, h3, hlk3, ?_⟩
  refine ⟨by show 4 ≤ sizeLine; decide, fun t nt => ?_⟩
  have e4 : Ex H2 (upd H3 t (.tup [.str "look", v, .ref lk, .str (wS ((g.waitAgain 0).told (g.lookAt 1)))])) := e3.trans (Ex.new nt)
  refine ⟨a2, _, n, _, .look g.top (g.lookAt 1) (g.told (g.lookAt 1)), rfl, h2.ex e4, (W.again 0).sm', hq, .tup (st_of upd_same) (.cons (.str _) (.cons (dp_ex (Ex.new nt) hv) (.cons (dp_look (Ex.new nt _ _ hlk3)) (.cons (.str _) .nil)))), fun a5 H5 ep5 h5 f5 => ?_⟩
  rw [← ep5]
  refine ⟨_, rfl, _, _, _, _, _, rfl, (h5).ob, T.c_Gate, T.n_Gate_tolls, rfl, _, _, 3, _, rfl, rfl, sq_of h5.tolls, tl_at (j := 3) h5.r.tl (by decide), _, _, rfl, rfl, a5.tolls, _, 3, 3, rfl, rfl, h5.tolls, tl_ix (j := 3) h5.r.tl (by decide), ?_⟩
  obtain ⟨h6, f6⟩ := h5.toll 3 (a5.tl.getD 3 0 + 1)
  exact k { a5 with tl := a5.tl.set 3 (a5.tl.getD 3 0 + 1) } _ (ep5.trans ep2) (by rw [eb]; exact h6) ((Fr.of_ex e1).trans (f2.trans ((Fr.of_ex e4).trans (f5.trans f6))))
def sp_Gate_out_unfit (K : PySem.W.Frag) : Sp := fun vs H Q _ => ∃ a g N, vs = [.ref a.p] ∧ GtAt K H a g ∧ WF N g ∧ ∀ a' H', a'.p = a.p → GtAt K H' a' g.byUnfit → Fr (foot a) (foot a') H H' → Q .non H'
abbrev N_Gate_out_unfit : List Str := ["self", "sheet", "number"]
theorem sc_Gate_out_unfit : FnScope N_Gate_out_unfit ["self"] (defScope s_Gate_out_unfit) := ⟨rfl, rfl, rfl, by decide +kernel, rfl, by decide +kernel, by decide +kernel⟩
-- slots: 0:self 1:sheet 2:number
theorem ok_Gate_out_unfit (T : Tx K mg) : Ok P w K mg base 5 ("Gate", some "out_unfit") ["self"] (sp_Gate_out_unfit K) := by
  refine T.ok 31 rfl (N := N_Gate_out_unfit) rfl rfl sc_Gate_out_unfit (fun vs H Q E h => ?_) (fun _ _ _ _ _ _ us hl => match us, hl with | [_], _ => rfl) (fun cdv A outer s H vs Q E hr h => ?_)
  · obtain ⟨_, _, _, rfl, _⟩ := h
    rfl
  have hu := hu_of hr
  obtain ⟨a, g, N, rfl, h, W, k⟩ := h
  refine ⟨_, (pss_cons (ps_set (i := 1) sc_Gate_out_unfit.nd rfl (by first | exact Or.inl rfl | exact Or.inr rfl) (pe_m0 (pv 0) (ok_Gate_sheet T) T.c_Gate T.m_Gate_sheet hr passL))
 (pss_one (ps_for (passes_of rfl) rfl (kseq K (pe_f (ok_free T) hr T.g_free passL (pa_cons (kfld K (pv 0)) (pa_cons (kfld K (pv 0)) (pa_cons (pe_lst pa_nil) (pa_cons (kfld K (pv 0)) pa_nil)))))) (pg_name (i := 2) sc_Gate_out_unfit.nd rfl (by first | exact Or.inl rfl | exact Or.inr rfl))
  (pss_one (ps_expr (pe_m (pv 0) (ok_Gate_put_out T) T.c_Gate T.m_Gate_put_out hr passL (pa_cons (pv 2) (pa_cons (pe_tup (pa_cons pe_str (pa_cons (pe_f (ok_unfit T) hr T.g_unfit passL (pa_cons (pv 1) (pa_cons (pe_m (kfld K (pv 0)) (ok_Changes_edits_of T) T.c_Changes T.m_Changes_edits_of hr passL (pa_cons (pv 2) pa_nil)) pa_nil))) pa_nil))) pa_nil)))))))), ?_⟩
  have sm := W.sm'
  have lo := W.lay
  refine ⟨_, rfl, _, _, _, rfl, (h).ob, rfl, a, g, N, rfl, h, W, fun sh shs H1 nsh e1 hsh hshd => ?_⟩
  have nsf := h.nin nsh
  have h1 := h.ex e1
  refine ⟨_, rfl, _, _, _, _, _, rfl, (h1).ob, T.c_Gate, T.n_Gate_store, rfl, _, rfl, _, _, _, _, _, rfl, (h1).ob, T.c_Gate, T.n_Gate_top, rfl, Nat.zero_le _, fun z nz => ?_⟩
  have ez := Ex.new (o := .lst []) nz
  have hz := h1.ex ez
  have l := sm.len
  refine ⟨_, rfl, _, _, _, _, _, rfl, (hz).ob, T.c_Gate, T.n_Gate_queue, rfl, a.st, a.ca, g.chs, .ref a.top, .ref z, .ref a.queue, g.top, [], g.queue, rfl, hz.chs, hz.dpTop, .inl (.lst (sq_of upd_same) .nil), hz.dpQueue, lo.vw, by rw [List.append_nil]; omega, by omega, fun L H3 nL e3 hL => ?_⟩
  have e13 := e1.trans (ez.trans e3)
  have h3 := h.ex e13
  have nin : L ∉ foot a := hz.nin nL
  have hsh3 := (ez.trans e3) _ _ hsh
  have hshd3 := dpa_ex (ez.trans e3) hshd
  refine for_s ((freeM g.chs g.top [] g.queue).map V.int) (freeM g.chs g.top [] g.queue) (by rw [List.length_map]) (fun done todo σ' H' => ∃ a1 g1, (∃ v1, σ' = [some (.ref a.p), some (.ref sh), v1]) ∧ a1.p = a.p ∧ GtAt K H' a1 g1 ∧ WF N g1 ∧ g1.chs = g.chs ∧ Fr (foot a) (foot a1) H3 H' ∧ todo.foldl (fun h n => h.putOut n (.unfit (unfitM g.sheet (getC g.chs n).edits))) g1 = g.byUnfit ∧ (∀ n ∈ todo, n ∈ g1.queue) ∧ todo.Nodup)
    (HB := H3) (.inl (sq_of hL)) ⟨a, g, ⟨_, rfl⟩, rfl, h3, W, rfl, Fr.refl _ _, rfl, fun n hn => free_sub hn, ?_⟩ ?_ ?_ ?_
  · exact List.Pairwise.sublist List.filter_sublist (W.so.imp (fun {a b} (h : a < b) => (show a ≠ b by omega)))
  · rintro done todo σ' H' _ ⟨a1, g1, _, _, _, _, _, f, _⟩
    exact f.stays hL nin
  · rintro done n todo v σ' H4 he hv hdd ⟨a1, g1, ⟨v1, rfl⟩, ep, h4, W4, ec, f4, hf, hq, nd⟩
    rw [List.getElem?_map, hdd] at hv
    cases hv
    have hn := hq n List.mem_cons_self
    rw [List.foldl_cons] at hf
    rw [← ep]
    have on := W4.okQ hn
    have hsh4 := f4.out _ _ hsh3 nsf
    have hshd4 := dpa_keep f4.keep (nl_map (f := dPair) (fun _ => rfl) _) hshd3
    refine ⟨_, rfl, _, _, _, rfl, (h4).ob, rfl, _, rfl, _, rfl, _, rfl, _, _, _, _, _, rfl, (h4).ob, T.c_Gate, T.n_Gate_store, rfl, _, _, _, rfl, (h4).cob, rfl, _, rfl, a1.st, a1.ca, g1.chs, n, rfl, h4.chs, on.1, on.2, fun ed eds H5 ned e5 hed1 hed2 => ?_⟩
    have hed : Dp K H5 (.ref ed) (.list ((getC g1.chs n).edits.map dEdit)) := .lst (sq_of hed1) hed2
    refine ⟨_, _, _, _, rfl, dp_ex e5 (.lst (sq_of hsh4) hshd4), hed, fun H6 e6 => ?_⟩
    refine ⟨by show 2 ≤ sizeLine; decide, fun t nt => ?_⟩
    rw [ec]
    have e7 := (e5.trans e6).trans (Ex.new (o := .tup [.str "unfit", vOpt (unfitM g.sheet (getC g.chs n).edits)]) nt)
    refine ⟨a1, g1, n, _, .unfit (unfitM g.sheet (getC g.chs n).edits), rfl, h4.ex e7, W4.sm', hn, .tup (st_of upd_same) (.cons (.str _) (.cons dp_opt .nil)), fun a8 H8 ep8 h8 f8 => ?_⟩
    obtain ⟨n1, n2⟩ := List.nodup_cons.mp nd
    exact ⟨a8, _, ⟨_, rfl⟩, ep8, h8, (W4.out hn _).1, ec, f4.trans ((Fr.of_ex e7).trans f8), hf, fun m hm => (List.mem_erase_of_ne fun (e : m = n) => n1 (by rw [← e]; exact hm)).mpr (hq m (List.mem_cons_of_mem _ hm)), n2⟩
  · rintro σ' H' ⟨a1, g1, ⟨v1, rfl⟩, ep, h2, W2, ec, f2, hf, hq, nd⟩
    exact k a1 H' ep (by rw [← hf]; exact h2) ((Fr.of_ex e13).trans f2)
end LG

set_option Elab.async false
set_option linter.all false
set_option maxRecDepth 100000
set_option maxHeartbeats 4000000
namespace LG
open PySem PySem.Spec L2 Evl
open PyProof.Rows hiding St
variable {P : Program} {w : World} {K : PySem.W.Frag} {mg : Str → Option Value} {base : Heap}

theorem not_decide {p : Prop} [Decidable p] : (!decide p) = decide (¬ p) := by
  by_cases h : p
  · rw [decide_eq_true h, decide_eq_false (fun z => z h)]; rfl
  · rw [decide_eq_false h, decide_eq_true h]; rfl
theorem vOpt_none (o : Option Nat) : decide (vOpt (o.map Int.ofNat) = V.non) = decide (o = none) := by
  cases o with
  | none => decide
  | some k => rw [decide_eq_false (fun z => (by cases z)), decide_eq_false (fun z => (by cases z))]
theorem vOpt_one (o : Option Nat) : decide (vOpt (o.map Int.ofNat) = V.int 1) = decide (o = some 1) := by
  cases o with
  | none => rw [decide_eq_false (fun z => (by cases z)), decide_eq_false (fun z => (by cases z))]
  | some k =>
    by_cases h : k = 1
    · subst h; rfl
    · rw [decide_eq_false (fun z => h (by have := V.int.inj (show V.int (Int.ofNat k) = V.int 1 from z); exact Int.ofNat.inj this)), decide_eq_false (fun z => h (Option.some.inj z))]
def sp_Gate_turned (K : PySem.W.Frag) : Sp := fun vs H Q _ => ∃ a g N, vs = [.ref a.p] ∧ GtAt K H a g ∧ WF N g ∧ ∀ a' H', a'.p = a.p → GtAt K H' a' g.turned.2 → Fr (foot a) (foot a') H H' → Q (.bl g.turned.1) H'
abbrev N_Gate_turned : List Str := ["self", "found", "number"]
theorem sc_Gate_turned : FnScope N_Gate_turned ["self"] (defScope s_Gate_turned) := ⟨rfl, rfl, rfl, by decide +kernel, rfl, by decide +kernel, by decide +kernel⟩
-- slots: 0:self 1:found 2:number
theorem ok_Gate_turned (T : Tx K mg) : Ok P w K mg base 7 ("Gate", some "turned") ["self"] (sp_Gate_turned K) := by
  refine T.ok 32 rfl (N := N_Gate_turned) rfl rfl sc_Gate_turned (fun vs H Q E h => ?_) (fun _ _ _ _ _ _ us hl => match us, hl with | [_], _ => rfl) (fun cdv A outer s H vs Q E hr h => ?_)
  · obtain ⟨_, _, _, rfl, _⟩ := h
    rfl
  have hu := hu_of hr
  obtain ⟨a, g, N, rfl, h, W, k⟩ := h
  refine ⟨_, (pss_cons (ps_expr (pe_m0 (pv 0) (ok_Gate_out_by_leaning T) T.c_Gate T.m_Gate_out_by_leaning hr passL))
 (pss_cons (ps_if (pt_val (kfld K (pv 0))) (pss_one (ps_ret pe_bl)) pss_nil)
 (pss_cut (ps_if (pt_cmpR op_isN (pe_m0 (pv 0) (ok_Gate_bad T) T.c_Gate T.m_Gate_bad hr passL) pe_non (nomark _)) (pss_cons (ps_set (i := 1) sc_Gate_turned.nd rfl (by first | exact Or.inl rfl | exact Or.inr rfl) (pe_f (ok_filled T) hr T.g_filled passL (pa_cons (kfld K (pv 0)) (pa_cons (kfld K (pv 0)) (pa_cons (kfld K (pv 0)) (pa_cons (kfld K (pv 0)) (pa_cons (pe_ix (kixt K) (kfld K (pv 0)) pe_int (fun _ _ => rfl)) pa_nil)))))))
 (pss_cons (ksfld K (pv 0) (pe_lc (own := [("number", 2)]) (by rfl) sc_Gate_turned.nd (kseq K (kfld K (pv 0))) (blkOk_by (N := N_Gate_turned) (sc := defScope s_Gate_turned) (by decide +kernel)) (fun _ _ _ _ _ => (pg_name (i := 2) sc_Gate_turned.nd rfl (by first | exact Or.inl rfl | exact Or.inr rfl))) (fun _ _ _ _ _ => (pts_one (pt_cmpR (knin K) (pv 2) (pv 1) (by rfl)))) (fun _ _ _ _ _ => (pv 2))))
 (pss_one (ksfld K (pv 0) (pv 1))))) pss_nil)
 (pss_cons (ps_if (pt_cmpR op_eq (pe_m0 (pv 0) (ok_Gate_bad T) T.c_Gate T.m_Gate_bad hr passL) pe_int (nomark _)) (pss_cons (ps_expr (pe_m0 (pv 0) (ok_Gate_out_by_look T) T.c_Gate T.m_Gate_out_by_look hr passL))
 (pss_one (ps_ret pe_bl))) pss_nil)
 (pss_cons (ps_if (PW.pt (pw_and (pt_cmpR op_eq (pe_callB (klen K) (by rfl) T.b_len (by decide +kernel) (pa_cons (kfld K (pv 0)) pa_nil)) pe_int (nomark _)) (pw_and1 (pt_cmpR op_gt (pe_callB (klen K) (by rfl) T.b_len (by decide +kernel) (pa_cons (kfld K (pv 0)) pa_nil)) pe_int (nomark _))))) (pss_cons (ps_expr (pe_m0 (pv 0) (ok_Gate_out_unfit T) T.c_Gate T.m_Gate_out_unfit hr passL))
 (pss_one (ps_ret pe_bl))) pss_nil)
 (pss_one (ps_ret pe_bl))))))), ?_⟩
  refine ⟨_, rfl, _, _, _, rfl, (h).ob, rfl, a, g, N, rfl, h, W, fun a1 H1 ep1 h1 f1 => ?_⟩
  obtain ⟨W1, cl, m1, c1⟩ := W.byLeaning
  rw [← ep1]
  unfold GS.turned at k
  generalize g.byLeaning = g1 at *
  refine ⟨_, rfl, _, _, _, _, _, rfl, (h1).ob, T.c_Gate, T.n_Gate_halted, rfl, _, rfl, ?_⟩
  cases hh : g1.halted with
  | true =>
    rw [if_pos hh] at k
    exact iteT (k a1 H1 ep1 h1 f1)
  | false =>
  rw [hh, if_neg (by decide)] at k
  refine iteF ?_
  obtain ⟨W2, m2, c2⟩ := W1.refill
  have sm1 := W1.sm'
  refine ⟨fun σ' H' => ∃ a2, (∃ v1 v2, σ' = [some (.ref a1.p), v1, v2]) ∧ a2.p = a1.p ∧ GtAt K H' a2 g1.refill ∧ Fr (foot a) (foot a2) H H', ?_, ?_⟩
  · refine ⟨_, rfl, _, _, _, rfl, (h1).ob, rfl, a1, g1, rfl, h1, sm1, fun H2 e2 => ?_⟩
    have h2 := h1.ex e2
    unfold GS.refill
    cases hb : g1.bad with
    | some b =>
      rw [if_neg (by intro z; cases z)]
      exact ⟨rfl, _, rfl, iteF ⟨a1, ⟨_, _, rfl⟩, rfl, h2, f1.trans (Fr.of_ex e2)⟩⟩
    | none =>
      rw [if_pos rfl]
      refine ⟨rfl, _, rfl, iteT ?_⟩
      refine ⟨_, rfl, _, _, _, _, _, rfl, (h2).ob, T.c_Gate, T.n_Gate_store, rfl, _, rfl, _, _, _, _, _, rfl, (h2).ob, T.c_Gate, T.n_Gate_top, rfl, _, rfl, _, _, _, _, _, rfl, (h2).ob, T.c_Gate, T.n_Gate_upon, rfl, _, rfl, _, _, _, _, _, rfl, (h2).ob, T.c_Gate, T.n_Gate_queue, rfl, _, rfl, _, _, _, _, _, rfl, (h2).ob, T.c_Gate, T.n_Gate_house, rfl, a1.house, _, 0, .int g1.width, rfl, rfl, .inl (.inl h2.r.house), atI_zero _ _, ?_⟩
      refine ⟨a1.st, a1.ca, g1.chs, .ref a1.top, .ref a1.upon, .ref a1.queue, g1.top, g1.upon, g1.queue, g1.width, rfl, h2.chs, h2.dpTop, h2.dpUpon, h2.dpQueue, W1.lay, fun p H3 np e3 hp => ?_⟩
      have h3 := h2.ex e3
      have l1 := sm1.len
      refine ⟨_, rfl, _, _, _, _, _, rfl, (h3).ob, T.c_Gate, T.n_Gate_queue, rfl, ?_⟩
      refine lc_d (K := K) (g1.queue.map V.int) g1.queue (fun n => if (!decide (n ∈ filledM g1.chs g1.top g1.upon g1.queue g1.width)) = true then some (.int n) else none) (by rw [List.length_map]) (by omega) (.inl (sq_of h3.queue)) ?_ ?_ ?_
      · intro n e he
        split at he
        · cases he; rfl
        · cases he
      · intro n v H4 Yes No e4 hn i hv hi yes no
        rw [List.getElem?_map, hi] at hv
        cases hv
        refine ⟨rfl, _, rfl, _, rfl, p, _, rfl, .inl (sq_of (e4 _ _ hp)), rfl, flat_ints _, _, rfl, ?_⟩
        rw [if_pos rfl, inV_ints]
        cases hd : (!decide (n ∈ filledM g1.chs g1.top g1.upon g1.queue g1.width)) with
        | true => exact iteT ⟨_, rfl, yes _ _ _ (Ex.refl _) (by rw [hd]; rfl) (.int _)⟩
        | false => exact iteF (no _ (Ex.refl _) (by rw [hd]; rfl))
      · intro M ys H4 nM e4 hM hp4
        rw [fm_if (fun n => !decide (n ∈ filledM g1.chs g1.top g1.upon g1.queue g1.width)) PyData.int] at hp4
        rw [dpa_ints hp4] at hM
        have e24 := e3.trans e4
        have h4 := h2.ex e24
        have nM2 := fresh_back e3 nM
        refine ⟨_, rfl, _, _, _, _, rfl, (h4).ob, T.c_Gate, T.n_Gate_queue, (by show 12 < 1000; decide), ?_⟩
        obtain ⟨h5, f5⟩ := h2.reb (o := .ins (He.ga K "Gate") a1.dx (putF "queue" (.ref M) (gF a1 g1.halted))) (a' := { a1 with queue := M }) (g' := { g1 with queue := g1.queue.filter fun n => !decide (n ∈ filledM g1.chs g1.top g1.upon g1.queue g1.width) }) e24 nM2 hM 7 rfl rfl rfl rfl (fun _ r => ⟨r.house, r.lv, r.ev, r.sz, r.gone, r.asked, r.gr, r.en, r.tl⟩)
        have npM : p ≠ M := fun z => by rw [z] at hp; rw [hp] at nM; cases nM
        have np1 : p ≠ a1.p := fun z => h2.there a1.p List.mem_cons_self (by rw [← z]; exact np)
        have hp5 : upd H4 a1.p (.ins (He.ga K "Gate") a1.dx (putF "queue" (.ref M) (gF a1 g1.halted))) p = some (.lst ((filledM g1.chs g1.top g1.upon g1.queue g1.width).map V.int)) := by rw [upd_ne np1]; exact e4 _ _ hp
        have npf : p ∉ foot ({ a1 with queue := M } : GA) := fun m => by
          have h0 := h2.nin np
          have m' : p ∈ (foot a1).set 7 M := m
          rcases set_nin m' with z | z
          · exact h0 z
          · exact npM z
        generalize upd H4 a1.p (.ins (He.ga K "Gate") a1.dx (putF "queue" (.ref M) (gF a1 g1.halted))) = H5 at h5 f5 hp5 ⊢
        refine ⟨_, rfl, _, rfl, _, _, _, _, rfl, (h5).ob, T.c_Gate, T.n_Gate_upon, (by show 12 < 1000; decide), ?_⟩
        obtain ⟨h6, f6⟩ := h5.reb0 (o := .ins (He.ga K "Gate") a1.dx (putF "upon" (.ref p) (gF { a1 with queue := M } g1.halted))) (a' := { a1 with queue := M, upon := p }) (g' := { g1 with upon := filledM g1.chs g1.top g1.upon g1.queue g1.width, queue := g1.queue.filter fun n => !decide (n ∈ filledM g1.chs g1.top g1.upon g1.queue g1.width) }) f5 (Ex.refl _) np npf hp5 6 rfl rfl rfl rfl (fun _ r => ⟨r.house, r.lv, r.ev, r.sz, r.gone, r.asked, r.gr, r.en, r.tl⟩)
        exact ⟨{ a1 with queue := M, upon := p }, ⟨_, _, rfl⟩, rfl, h6, f1.trans ((Fr.of_ex e2).trans f6)⟩
  · rintro σ' H2 ⟨a2, ⟨v1, v2, rfl⟩, ep2, h2, f2⟩
    rw [← ep2]
    have ep := ep2.trans ep1
    generalize g1.refill = g2 at *
    have sm2 := W2.sm'
    have l2 := sm2.len
    refine ⟨_, rfl, _, _, _, rfl, (h2).ob, rfl, a2, g2, rfl, h2, sm2, fun H3 e3 => ?_⟩
    have h3 := h2.ex e3
    have f3 := f2.trans (Fr.of_ex e3)
    unfold GS.turn2 at k
    refine ⟨by cases g2.bad <;> rfl, _, rfl, ?_⟩
    rw [vOpt_one]
    by_cases hb : g2.bad = some 1
    · rw [decide_eq_true hb]
      rw [if_pos hb] at k
      have hu : g2.upon ≠ [] := fun e => by have := (bad_some hb).2; rw [e] at this; simp at this
      refine iteT ⟨_, rfl, _, _, _, rfl, (h3).ob, rfl, a2, g2, N, rfl, h3, W2, hu, fun a4 H4 ep4 h4 f4 => ?_⟩
      exact k a4 H4 (ep4.trans ep) h4 (f3.trans f4)
    · rw [decide_eq_false hb]
      rw [if_neg hb] at k
      refine iteF ?_
      dsimp only [tNext, tSeq]
      refine if_and (decide (g2.upon.length = 0)) (decide (0 < g2.queue.length)) (fun Q' q => ⟨_, rfl, _, _, _, _, _, rfl, (h3).ob, T.c_Gate, T.n_Gate_upon, rfl, a2.upon, _, rfl, .inl (sq_of h3.upon), rfl, _, rfl, ?_⟩) (fun _ Q' q => ⟨_, rfl, _, _, _, _, _, rfl, (h3).ob, T.c_Gate, T.n_Gate_queue, rfl, a2.queue, _, rfl, .inl (sq_of h3.queue), _, _, rfl, rfl, _, rfl, ?_⟩) ?_
      · rw [List.length_map]
        have e : decide (V.int ((g2.upon.length : Nat) : Int) = V.int 0) = decide (g2.upon.length = 0) := by
          by_cases z : g2.upon.length = 0
          · rw [z]; rfl
          · rw [decide_eq_false z, decide_eq_false fun y => z (by have := V.int.inj y; omega)]
        rw [e]
        exact q
      · rw [List.length_map]
        have e : decide ((0 : Int) < ((g2.queue.length : Nat) : Int)) = decide (0 < g2.queue.length) := by
          rw [decide_eq_decide]; omega
        rw [e]
        exact q
      rw [← Bool.decide_and]
      refine ite2 (fun c => ?_) (fun c => ?_)
      · rw [if_pos (dt c)] at k
        refine ⟨_, rfl, _, _, _, rfl, (h3).ob, rfl, a2, g2, N, rfl, h3, W2, fun a4 H4 ep4 h4 f4 => ?_⟩
        exact k a4 H4 (ep4.trans ep) h4 (f3.trans f4)
      · rw [if_neg (df c)] at k
        exact k a2 H3 ep h3 f3
end LG

set_option Elab.async false
set_option linter.all false
set_option maxRecDepth 100000
set_option maxHeartbeats 4000000
namespace LG
open PySem PySem.Spec L2 Evl
open PyProof.Rows hiding St
variable {P : Program} {w : World} {K : PySem.W.Frag} {mg : Str → Option Value} {base : Heap}

theorem if_andE {t u : TT} {X Y : L2.TS} {D : Ends} {σ : L2.St} {H : Hp} (p q : Bool) (h1 : ∀ Q : Bool → Hp → Prop, (∀ H', Ex H H' → Q p H') → t σ H Q) (h2 : p = true → ∀ H1, Ex H H1 → ∀ Q : Bool → Hp → Prop, (∀ H', Ex H1 H' → Q q H') → u σ H1 Q)
    (k : ∀ H', Ex H H' → if (p && q) = true then X D σ H' else Y D σ H') : tIfS (tAnd t u) X Y D σ H := by
  refine h1 _ fun H1 e1 => ?_
  cases p with
  | true => exact iteT (h2 rfl H1 e1 _ fun H2 e2 => k H2 (e1.trans e2))
  | false => exact iteF (k H1 e1)
def keptTo (g : GS) (i : Nat) : List Int := ((List.range' 1 i).filter fun k => decide (g.lookAt k ∈ g.asked) && decide (g.told (g.lookAt k) = none)).map Int.ofNat
theorem keptTo_succ (g : GS) (i : Nat) : keptTo g (i + 1) = if (decide (g.lookAt (i + 1) ∈ g.asked) && decide (g.told (g.lookAt (i + 1)) = none)) = true then keptTo g i ++ [((i + 1 : Nat) : Int)] else keptTo g i := by
  unfold keptTo
  rw [List.range'_1_concat, List.filter_append, List.map_append, Nat.add_comm 1 i, List.filter_cons, List.filter_nil]
  split
  · rfl
  · rw [List.map_nil, List.append_nil]
theorem keptTo_len (g : GS) (i : Nat) : (keptTo g i).length ≤ i := by
  unfold keptTo
  rw [List.length_map]
  refine Nat.le_trans (List.length_filter_le _ _) ?_
  rw [List.length_range']
  exact Nat.le_refl _
def sp_Gate_settle (K : PySem.W.Frag) : Sp := fun vs H Q _ => ∃ a g N, vs = [.ref a.p] ∧ GtAt K H a g ∧ WF N g ∧ ∀ a' H', a'.p = a.p → GtAt K H' a' g.settle → Fr (foot a) (foot a') H H' → Q .non H'
abbrev N_Gate_settle : List Str := ["self", "again", "size", "kept", "place", "places"]
theorem sc_Gate_settle : FnScope N_Gate_settle ["self"] (defScope s_Gate_settle) := ⟨rfl, rfl, rfl, by decide +kernel, rfl, by decide +kernel, by decide +kernel⟩
-- slots: 0:self 1:again 2:size 3:kept 4:place 5:places
theorem ok_Gate_settle (T : Tx K mg) : Ok P w K mg base 8 ("Gate", some "settle") ["self"] (sp_Gate_settle K) := by
  refine T.ok 33 rfl (N := N_Gate_settle) rfl rfl sc_Gate_settle (fun vs H Q E h => ?_) (fun _ _ _ _ _ _ us hl => match us, hl with | [_], _ => rfl) (fun cdv A outer s H vs Q E hr h => ?_)
  · obtain ⟨_, _, _, rfl, _⟩ := h
    rfl
  have hu := hu_of hr
  obtain ⟨a, g, N, rfl, h, W, k⟩ := h
  refine ⟨_, (pss_cons (ps_set (i := 1) sc_Gate_settle.nd rfl (by first | exact Or.inl rfl | exact Or.inr rfl) pe_bl)
 (pss_cons (ps_while (passes_of rfl) (pt_val (pv 1))
  (pss_one (ps_set (i := 1) sc_Gate_settle.nd rfl (by first | exact Or.inl rfl | exact Or.inr rfl) (pe_m0 (pv 0) (ok_Gate_turned T) T.c_Gate T.m_Gate_turned hr passL))))
 (pss_cons (ps_set (i := 2) sc_Gate_settle.nd rfl (by first | exact Or.inl rfl | exact Or.inr rfl) (pe_callB (klen K) (by rfl) T.b_len (by decide +kernel) (pa_cons (kfld K (pv 0)) pa_nil)))
 (pss_cons (ps_set (i := 3) sc_Gate_settle.nd rfl (by first | exact Or.inl rfl | exact Or.inr rfl) (pe_lst pa_nil))
 (pss_cons (ps_for (passes_of rfl) rfl (pi_range2 (by rfl) T.b_range (pa_cons pe_int (pa_cons (pe_op op_add (pv 2) pe_int) pa_nil))) (pg_name (i := 4) sc_Gate_settle.nd rfl (by first | exact Or.inl rfl | exact Or.inr rfl))
  (pss_one (ps_if (PW.pt (pw_and (pt_cmpR (kind K hr) (pe_m (pv 0) (ok_Gate_look_at T) T.c_Gate T.m_Gate_look_at hr passL (pa_cons (pv 4) pa_nil)) (kfld K (pv 0)) (by rfl)) (pw_and1 (pt_cmpR op_eq (pe_m (pv 0) (ok_Gate_told_of T) T.c_Gate T.m_Gate_told_of hr passL (pa_cons (pe_m (pv 0) (ok_Gate_look_at T) T.c_Gate T.m_Gate_look_at hr passL (pa_cons (pv 4) pa_nil)) pa_nil)) pe_str (nomark _))))) (pss_one (ps_expr (kbm K PySem.F.plainAttrs_list PySem.F.slot_list_append PySem.F.type_list_append mt_append (pv 3) (pa_cons (pv 4) pa_nil)))) pss_nil)))
 (pss_cons (ps_set (i := 5) sc_Gate_settle.nd rfl (by first | exact Or.inl rfl | exact Or.inr rfl) (pe_f (ok_wanted_places T) hr T.g_wanted_places passL (pa_cons (pv 2) (pa_cons (pe_m0 (pv 0) (ok_Gate_bad T) T.c_Gate T.m_Gate_bad hr passL) (pa_cons (pv 3) (pa_cons (pe_ix (kixt K) (kfld K (pv 0)) pe_int (fun _ _ => rfl)) pa_nil))))))
 (pss_one (ksfld K (pv 0) (pe_lc (own := [("place", 4)]) (tt := tYes) (by rfl) sc_Gate_settle.nd (kseq K (pv 5)) (blkOk_by (N := N_Gate_settle) (sc := defScope s_Gate_settle) (by decide +kernel)) (fun _ _ _ _ _ => (pg_name (i := 4) sc_Gate_settle.nd rfl (by first | exact Or.inl rfl | exact Or.inr rfl))) (fun _ _ _ _ _ => pts_nil) (fun _ _ _ _ _ => (pe_m (pv 0) (ok_Gate_look_at T) T.c_Gate T.m_Gate_look_at hr passL (pa_cons (pv 4) pa_nil)))))))))))), ?_⟩
  unfold GS.settle at k
  refine ⟨fun m σ' H' => ∃ a1 g1, ∃ b : Bool, σ' = [some (.ref a.p), some (.bl b), none, none, none, none] ∧ a1.p = a.p ∧ GtAt K H' a1 g1 ∧ WF N g1 ∧ Fr (foot a) (foot a1) H H' ∧ (b = true → g1.mu < m ∧ GS.spin m g1 = GS.spin (g.queue.length + g.upon.length + 1) g) ∧ (b = false → g1 = GS.spin (g.queue.length + g.upon.length + 1) g),
    ⟨g.queue.length + g.upon.length + 1, a, g, true, rfl, rfl, h, W, Fr.refl _ _, fun _ => ⟨Nat.lt_succ_self _, rfl⟩, fun z => by cases z⟩, ?_⟩
  rintro m σ' H1 ⟨a1, g1, b, rfl, ep1, h1, W1, f1, hb1, hb2⟩
  rw [← ep1]
  refine ⟨_, rfl, _, rfl, ?_⟩
  cases b with
  | true =>
    obtain ⟨lt, sp⟩ := hb1 rfl
    obtain ⟨W2, m2, _⟩ := W1.turned
    obtain ⟨m', rfl⟩ : ∃ m', m = m' + 1 := ⟨m - 1, by omega⟩
    rw [GS.spin] at sp
    refine iteT ⟨fun σ' H' => ∃ a2, a2.p = a1.p ∧ σ' = [some (.ref a1.p), some (.bl g1.turned.1), none, none, none, none] ∧ GtAt K H' a2 g1.turned.2 ∧ Fr (foot a) (foot a2) H H', ?_, ?_⟩
    · rintro σ' H' ⟨a2, ep2, rfl, h2, f2⟩
      refine ⟨m', Nat.lt_succ_self _, a2, g1.turned.2, g1.turned.1, rfl, ep2, h2, W2, f2, fun z => ?_, fun z => ?_⟩
      · rw [if_pos z] at sp
        exact ⟨by have := m2 z; omega, sp⟩
      · rw [if_neg (by rw [z]; decide)] at sp
        exact sp
    · exact ⟨_, rfl, _, _, _, rfl, (h1).ob, rfl, a1, g1, N, rfl, h1, W1, fun a2 H2 ep2 h2 f2 => ⟨a2, ep2, rfl, h2, f1.trans f2⟩⟩
  | false =>
  have hs := hb2 rfl
  refine iteF ?_
  rw [← hs] at k
  clear hs hb1 hb2
  have sm := W1.sm'
  have l := sm.len
  refine ⟨_, rfl, _, _, _, _, _, rfl, (h1).ob, T.c_Gate, T.n_Gate_upon, rfl, a1.upon, _, rfl, .inl (sq_of h1.upon), ?_⟩
  rw [List.length_map]
  refine ⟨Nat.zero_le _, fun kp nkp => ?_⟩
  refine ⟨_, rfl, _, _, rfl, rfl, 1, (g1.upon.length : Int) + 1, rfl, by omega, ?_⟩
  have el : ((g1.upon.length : Int) + 1 - 1).toNat = g1.upon.length := by omega
  rw [el]
  refine for_range (fun i σ' H' => (∃ v4, σ' = [some (.ref a1.p), some (.bl false), some (.int g1.upon.length), some (.ref kp), v4, none]) ∧ Ex H1 H' ∧ H' kp = some (.lst ((keptTo g1 i).map V.int))) ⟨⟨_, rfl⟩, Ex.new nkp, upd_same⟩ ?_ ?_
  · rintro i σ' H2 hi ⟨⟨v4, rfl⟩, e2, hk2⟩
    have ei : (1 : Int) + (i : Int) = ((i + 1 : Nat) : Int) := by omega
    rw [ei]
    have h2 := h1.ex e2
    refine if_andE (decide (g1.lookAt (i + 1) ∈ g1.asked)) (decide (g1.told (g1.lookAt (i + 1)) = none)) (fun Q' q => ?_) (fun _ H3 e3 Q' q => ?_) (fun H3 e3 => ?_)
    · refine ⟨_, rfl, _, _, _, rfl, (h2).ob, rfl, _, rfl, a1, g1, _, rfl, h2, sm, fun t H4 nt e4 ht => ?_⟩
      rw [lookI_nat] at ht
      have h4 := h2.ex e4
      refine ⟨_, rfl, _, _, _, _, _, rfl, (h4).ob, T.c_Gate, T.n_Gate_asked, rfl, rd_inAsked h4 (dp_look ht) ⟨_, rfl, q _ e4⟩⟩
    · have h3 := h2.ex e3
      refine ⟨_, rfl, _, _, _, rfl, (h3).ob, rfl, _, rfl, _, _, _, rfl, (h3).ob, rfl, _, rfl, a1, g1, _, rfl, h3, sm, fun t H4 nt e4 ht => ?_⟩
      rw [lookI_nat] at ht
      refine ⟨a1, g1, t, _, rfl, h3.ex e4, ht, rfl, _, rfl, ?_⟩
      rw [wS_more]
      exact q _ e4
    · have hk3 := e3 _ _ hk2
      have hl := keptTo_len g1 i
      rw [keptTo_succ]
      refine ite2 (fun c => ?_) (fun c => ?_)
      · rw [if_pos c]
        refine ⟨_, rfl, .inl ⟨rfl, _, sq_of hk3⟩, _, rfl, kp, _, _, rfl, rfl, hk3, by rw [List.length_map, sizeLine_eq]; omega, ?_⟩
        refine ⟨⟨_, rfl⟩, Ex.mut (e2.trans e3) nkp, ?_⟩
        rw [upd_same, List.map_append]
        rfl
      · rw [if_neg c]
        exact ⟨⟨_, rfl⟩, e2.trans e3, hk3⟩
  · rintro σ' H2 ⟨⟨v4, rfl⟩, e2, hk2⟩
    have h2 := h1.ex e2
    have ek : keptTo g1 g1.upon.length = g1.keptOf := rfl
    rw [ek] at hk2
    have hkl := kept_len g1
    refine ⟨_, rfl, _, rfl, _, _, _, rfl, (h2).ob, rfl, a1, g1, rfl, h2, sm, fun H3 e3 => ?_⟩
    have h3 := h2.ex e3
    refine ⟨_, rfl, _, rfl, _, _, _, _, _, rfl, (h3).ob, T.c_Gate, T.n_Gate_house, rfl, a1.house, _, 1, .int g1.hands, rfl, rfl, .inl (.inl h3.r.house), rfl, ?_⟩
    refine ⟨(g1.upon.length : Int), g1.bad.map Int.ofNat, .ref kp, g1.keptOf, g1.hands, rfl, .inl (.lst (sq_of (e3 _ _ hk2)) (dpa_of_ints _)), by omega, W1.hn, fun pl H4 npl e4 hpl => ?_⟩
    have e14 := e2.trans (e3.trans e4)
    have pin := places_in g1
    have plen : (wantedM g1.upon.length (g1.bad.map Int.ofNat) g1.keptOf g1.hands).length ≤ 2000 := by
      have := (ask2_ok W1).2.2
      have e : g1.ask2.asked.length = (wantedM g1.upon.length (g1.bad.map Int.ofNat) g1.keptOf g1.hands).length := List.length_map _
      omega
    generalize hw : wantedM g1.upon.length (g1.bad.map Int.ofNat) g1.keptOf g1.hands = ps at *
    refine ⟨_, rfl, lc_y (K := K) (ps.map V.int) ps (fun p => dInts (g1.lookI p)) (by rw [List.length_map]) (by omega) (.inl (sq_of hpl)) (fun d => nl_ints _) ?_ ?_⟩
    · intro p v H5 Yes e5 hp i hv hi yes
      rw [List.getElem?_map, hi] at hv
      cases hv
      have h5 := h1.ex (e14.trans e5)
      refine ⟨rfl, _, rfl, _, _, _, rfl, (h5).ob, rfl, _, rfl, a1, g1, p, rfl, h5, sm, fun t H6 nt e6 ht => ?_⟩
      exact yes _ _ e6 (dp_look ht)
    · intro M ys H5 nM e5 hM hp
      have e15 := e14.trans e5
      have h5 := h1.ex e15
      refine ⟨_, rfl, _, _, _, _, rfl, (h5).ob, T.c_Gate, T.n_Gate_asked, (by show 12 < 1000; decide), ?_⟩
      have nM1 := fresh_back e14 nM
      have hA : DpAll K (upd H5 a1.p (.ins (He.ga K "Gate") a1.dx (putF "asked" (.ref M) (gF a1 g1.halted)))) ys (g1.ask2.asked.map dInts) := by
        show DpAll K _ ys (((wantedM g1.upon.length (g1.bad.map Int.ofNat) g1.keptOf g1.hands).map g1.lookI).map dInts)
        rw [hw, List.map_map]
        exact dpa_keep (keep_mut h5.ob rfl) (nl_map (fun _ => nl_ints _) _) hp
      obtain ⟨h6, f6⟩ := h1.reb (o := .ins (He.ga K "Gate") a1.dx (putF "asked" (.ref M) (gF a1 g1.halted))) (a' := { a1 with asked := M, av := ys }) (g' := g1.ask2) e15 nM1 hM 9 rfl rfl rfl rfl (fun kp r => ⟨r.house, r.lv, r.ev, r.sz, r.gone, hA, r.gr, r.en, r.tl⟩)
      exact k { a1 with asked := M, av := ys } _ ep1 h6 (f1.trans f6)
end LG

set_option Elab.async false
set_option linter.all false
set_option maxRecDepth 100000
set_option maxHeartbeats 4000000
namespace LG
open PySem PySem.Spec L2 Evl
open PyProof.Rows hiding St
variable {P : Program} {w : World} {K : PySem.W.Frag} {mg : Str → Option Value} {base : Heap}

/-- another change in the store -/
theorem GtAt.more {H H' : Hp} {a : GA} {g : GS} {chs : List Chg} {lv ev : List V} (h : GtAt K H a g) (c : ChAt K H' a.st { a.ca with lv := lv, ev := ev } chs) (o : Out a.ca H H') : GtAt K H' { a with ca := { a.ca with lv := lv, ev := ev } } { g with chs := chs } ∧ Fr (foot a) (foot a) H H' := by
  have kp := h.chs.keep o
  have ne : ∀ (i : Nat) {x : Addr} {u : HO}, (cells K a g)[i]? = some (x, u) → i ≠ 2 → i ≠ 3 → i ≠ 4 → H' x = some u := fun i x u e n2 n3 n4 =>
    o x u (h.cs.at i e) (h.cs.ne i 2 e rfl n2) (h.cs.ne i 3 e rfl n3) (h.cs.ne i 4 e rfl n4)
  have tn : ∀ b ∈ tbA a.tb, H' b = H b := fun b hb => by
    have hn := tb_there h.kn.at_ b hb
    cases e : H b with
    | none => exact absurd e hn
    | some u =>
      refine o b u e (fun z => ?_) (fun z => ?_) (fun z => ?_)
      · exact h.ap a.ca.rk (List.mem_map.mpr ⟨_, List.mem_of_getElem? (i := 2) rfl, rfl⟩) (z ▸ hb)
      · exact h.ap a.ca.ln (List.mem_map.mpr ⟨_, List.mem_of_getElem? (i := 3) rfl, rfl⟩) (z ▸ hb)
      · exact h.ap a.ca.ed (List.mem_map.mpr ⟨_, List.mem_of_getElem? (i := 4) rfl, rfl⟩) (z ▸ hb)
  have r := h.r
  refine ⟨⟨⟨fun x hx => ?_, h.cs.nd⟩, ⟨kp.tup _ _ r.house, c.lv, c.ev, c.sz, pk_mono (fun _ _ q => dp_keep kp (nl_ground _) q) r.gone, dpa_keep kp (nl_map nl_ints _) r.asked, r.gr, r.en, r.tl⟩, h.kn.stay tn, h.ap⟩, ⟨fun b u e n => ?_, fun b hb => .inl hb, fun b hb => ?_, kp⟩⟩
  · unfold cells at hx
    simp only [List.mem_cons, List.not_mem_nil, or_false] at hx
    rcases hx with rfl | rfl | rfl | rfl | rfl | rfl | rfl | rfl | rfl | rfl | rfl | rfl | rfl | rfl
    · exact ne 0 rfl (by decide) (by decide) (by decide)
    · exact c.ob
    · exact c.rk
    · exact c.ln
    · exact c.ed
    · exact ne 5 rfl (by decide) (by decide) (by decide)
    · exact ne 6 rfl (by decide) (by decide) (by decide)
    · exact ne 7 rfl (by decide) (by decide) (by decide)
    · exact ne 8 rfl (by decide) (by decide) (by decide)
    · exact ne 9 rfl (by decide) (by decide) (by decide)
    · exact ne 10 rfl (by decide) (by decide) (by decide)
    · exact ne 11 rfl (by decide) (by decide) (by decide)
    · exact ne 12 rfl (by decide) (by decide) (by decide)
    · exact ne 13 rfl (by decide) (by decide) (by decide)
  · have hm : ∀ x ∈ [a.ca.rk, a.ca.ln, a.ca.ed], b ≠ x := fun x hx z => n (by
      rw [z]
      have : x ∈ [a.p, a.st] ++ [a.ca.rk, a.ca.ln, a.ca.ed] ++ ([a.top, a.upon, a.queue, a.gone, a.asked, a.grown, a.ended, a.known, a.tolls] ++ tbA a.tb) := List.mem_append_left _ (List.mem_append_right _ hx)
      exact this)
    exact o b u e (hm _ (by simp)) (hm _ (by simp)) (hm _ (by simp))
  · cases e : H b with
    | none => rfl
    | some u =>
      exfalso
      by_cases z1 : b = a.ca.rk
      · rw [z1, c.rk] at hb; cases hb
      by_cases z2 : b = a.ca.ln
      · rw [z2, c.ln] at hb; cases hb
      by_cases z3 : b = a.ca.ed
      · rw [z3, c.ed] at hb; cases hb
      rw [o b u e z1 z2 z3] at hb
      cases hb
def sp_Gate_ask (K : PySem.W.Frag) : Sp := fun vs H Q E => ∃ a g N x y, ∃ c : Chg, vs = [.ref a.p, .int c.rank, x, y] ∧ GtAt K H a g ∧ WF N g ∧ N + 1 ≤ 20 ∧ c.leans.length ≤ 3 ∧ c.edits.length ≤ 3 ∧ Dp K H x (dInts c.leans) ∧ Dp K H y (dEdits c.edits) ∧
  (validC g.chs.length c = false → ∀ H', Ex H H' → E (.ref (He.ga K "NoChange")) none H') ∧
  (validC g.chs.length c = true → ∀ a' H', a'.p = a.p → GtAt K H' a' (GS.settle { g with chs := g.chs ++ [c], queue := g.queue ++ [(g.chs.length : Int) + 1] }) → Fr (foot a) (foot a') H H' → Q (.int ((g.chs.length : Int) + 1)) H')
abbrev N_Gate_ask : List Str := ["self", "rank", "leans", "edits", "number"]
theorem sc_Gate_ask : FnScope N_Gate_ask ["self", "rank", "leans", "edits"] (defScope s_Gate_ask) := ⟨rfl, rfl, rfl, by decide +kernel, rfl, by decide +kernel, by decide +kernel⟩
-- slots: 0:self 1:rank 2:leans 3:edits 4:number
theorem ok_Gate_ask (T : Tx K mg) : Ok P w K mg base 9 ("Gate", some "ask") ["self", "rank", "leans", "edits"] (sp_Gate_ask K) := by
  refine T.ok 34 rfl (N := N_Gate_ask) rfl rfl sc_Gate_ask (fun vs H Q E h => ?_) (fun _ _ _ _ _ _ us hl => match us, hl with | [_, _, _, _], _ => rfl) (fun cdv A outer s H vs Q E hr h => ?_)
  · obtain ⟨_, _, _, _, _, _, rfl, _⟩ := h
    rfl
  have hu := hu_of hr
  obtain ⟨a, g, N, x, y, c, rfl, h, W, hN, s1, s2, hx, hy, k1, k2⟩ := h
  refine ⟨_, (pss_cons (ps_set (i := 4) sc_Gate_ask.nd rfl (by first | exact Or.inl rfl | exact Or.inr rfl) (pe_m (kfld K (pv 0)) (ok_Changes_added T) T.c_Changes T.m_Changes_added hr (passes_call (takes_of rfl rfl rfl rfl) (fun _ _ _ _ h => h)) (pa_cons (pv 1) (pa_cons (pv 2) (pa_cons (pv 3) pa_nil)))))
 (pss_cons (ps_expr (kbm K PySem.F.plainAttrs_list PySem.F.slot_list_append PySem.F.type_list_append mt_append (kfld K (pv 0)) (pa_cons (pv 4) pa_nil)))
 (pss_cons (ps_expr (pe_m0 (pv 0) (ok_Gate_settle T) T.c_Gate T.m_Gate_settle hr passL))
 (pss_one (ps_ret (pv 4)))))), ?_⟩
  have few := W.few
  refine ⟨_, rfl, _, _, _, _, _, rfl, (h).ob, T.c_Gate, T.n_Gate_store, rfl, _, _, _, rfl, (h).cob, rfl, _, rfl, _, rfl, _, rfl, a.st, a.ca, g.chs, x, y, c, rfl, h.chs, by omega, by omega, by omega, fun H' o => .inr (dp_keep (h.chs.keep o) (nl_ints _) hx), fun H' o => .inr (dp_keep (h.chs.keep o) (nl_edits _) hy), k1, fun _ z => by omega, fun hv hlt H1 lv ev c1 o1 => ?_⟩
  replace k2 := k2 hv
  obtain ⟨h1, f1⟩ := h.more c1 o1
  have sm := W.sm'
  have l := sm.len
  refine ⟨_, rfl, _, _, _, _, _, rfl, (h1).ob, T.c_Gate, T.n_Gate_queue, rfl, .inl ⟨rfl, _, sq_of h1.queue⟩, _, rfl, a.queue, _, _, rfl, rfl, h1.queue, by rw [List.length_map, sizeLine_eq]; show g.queue.length < _; omega, ?_⟩
  obtain ⟨h2, f2⟩ := h1.put (u := .lst ((g.queue ++ [(g.chs.length : Int) + 1]).map V.int)) (a' := { a with ca := { a.ca with lv := lv, ev := ev } }) (g' := { g with chs := g.chs ++ [c], queue := g.queue ++ [(g.chs.length : Int) + 1] }) 7 rfl rfl rfl rfl rfl (fun kp r => ⟨r.house, r.lv, r.ev, r.sz, r.gone, r.asked, r.gr, r.en, r.tl⟩)
  have el : (g.queue ++ [(g.chs.length : Int) + 1]).map V.int = g.queue.map V.int ++ [.int ((g.chs.length : Int) + 1)] := by rw [List.map_append]; rfl
  rw [el] at h2 f2
  have W2 := W.added hN hv ⟨s1, s2⟩
  refine ⟨_, rfl, _, _, _, rfl, (h2).ob, rfl, { a with ca := { a.ca with lv := lv, ev := ev } }, _, N + 1, rfl, h2, W2, fun a3 H3 ep3 h3 f3 => ?_⟩
  exact ⟨_, rfl, k2 a3 H3 ep3 h3 (f1.trans (f2.trans f3))⟩
end LG

set_option Elab.async false
set_option linter.all false
set_option maxRecDepth 100000
set_option maxHeartbeats 4000000
namespace LG
open PySem PySem.Spec L2 Evl
open PyProof.Rows hiding St
variable {P : Program} {w : World} {K : PySem.W.Frag} {mg : Str → Option Value} {base : Heap}

theorem eqV_int (a b : Int) : eqV (.int a) (.int b) = decide (a = b) := by
  show (a == b) = _
  rfl
/-- xs.index(n), there -/
theorem idx_rd {ns : List Int} {n : Int} (hn : n ∈ ns) : (ns.map V.int)[ns.idxOf n]? = some (.int n) ∧ eqV (.int n) (.int n) = true ∧ ∀ (m : Nat) (z' : V), m < ns.idxOf n → (ns.map V.int)[m]? = some z' → eqV z' (.int n) = false := by
  obtain ⟨h1, h2, _⟩ := idx_first n ns hn
  refine ⟨by rw [List.getElem?_map, h1]; rfl, by rw [eqV_int]; exact decide_eq_true rfl, fun m z' hm hz => ?_⟩
  rw [List.getElem?_map] at hz
  obtain ⟨y, hy, rfl⟩ := Option.map_eq_some_iff.mp hz
  rw [eqV_int]
  exact decide_eq_false fun e => h2 m hm (by rw [hy, e])
def sp_Gate_withdraw (K : PySem.W.Frag) : Sp := fun vs H Q E => ∃ a g N n, vs = [.ref a.p, .int n] ∧ GtAt K H a g ∧ WF N g ∧
  ((n < 1 ∨ (g.chs.length : Int) < n) → ∀ H', Ex H H' → E (.ref (He.ga K "NoChange")) none H') ∧
  (¬ (n < 1 ∨ (g.chs.length : Int) < n) → (n ∈ g.top ∨ g.isGone n = true) → ∀ H', Ex H H' → E (.ref (He.ga K "TooLate")) none H') ∧
  (¬ (n < 1 ∨ (g.chs.length : Int) < n) → ¬ (n ∈ g.top ∨ g.isGone n = true) → ∀ a' H', a'.p = a.p → GtAt K H' a' (((if n ∈ g.upon then g.waitAgain (g.upon.idxOf n) else g).putOut n .withdrawn).settle) → Fr (foot a) (foot a') H H' → Q .non H')
abbrev N_Gate_withdraw : List Str := ["self", "number"]
theorem sc_Gate_withdraw : FnScope N_Gate_withdraw ["self", "number"] (defScope s_Gate_withdraw) := ⟨rfl, rfl, rfl, by decide +kernel, rfl, by decide +kernel, by decide +kernel⟩
-- slots: 0:self 1:number
theorem ok_Gate_withdraw (T : Tx K mg) : Ok P w K mg base 9 ("Gate", some "withdraw") ["self", "number"] (sp_Gate_withdraw K) := by
  refine T.ok 35 rfl (N := N_Gate_withdraw) rfl rfl sc_Gate_withdraw (fun vs H Q E h => ?_) (fun _ _ _ _ _ _ us hl => match us, hl with | [_, _], _ => rfl) (fun cdv A outer s H vs Q E hr h => ?_)
  · obtain ⟨_, _, _, _, rfl, _⟩ := h
    rfl
  have hu := hu_of hr
  obtain ⟨a, g, N, n, rfl, h, W, k1, k2, k3⟩ := h
  refine ⟨_, (pss_cons (ps_if (PW.pt (pw_or (pt_cmpR op_lt (pv 1) pe_int (nomark _)) (pw_or1 (pt_cmpR op_gt (pv 1) (pe_m0 (kfld K (pv 0)) (ok_Changes_many T) T.c_Changes T.m_Changes_many hr passL) (nomark _))))) (pss_one (ps_rz T.x_NoChange T.g_NoChange (takes_of rfl rfl rfl rfl))) pss_nil)
 (pss_cons (ps_if (PW.pt (pw_or (pt_cmpR (kin K) (pv 1) (kfld K (pv 0)) (by rfl)) (pw_or1 (pt_cmp (pc_din hu (pv 1) (kfld K (pv 0))))))) (pss_one (ps_rz T.x_TooLate T.g_TooLate (takes_of rfl rfl rfl rfl))) pss_nil)
 (pss_cut (ps_if (pt_cmpR (kin K) (pv 1) (kfld K (pv 0)) (by rfl)) (pss_one (ps_expr (pe_m (pv 0) (ok_Gate_wait_again T) T.c_Gate T.m_Gate_wait_again hr passL (pa_cons (kbm K PySem.F.plainAttrs_list PySem.F.slot_list_index PySem.F.type_list_index (kindex K) (kfld K (pv 0)) (pa_cons (pv 1) pa_nil)) pa_nil)))) pss_nil)
 (pss_cons (ps_expr (pe_m (pv 0) (ok_Gate_put_out T) T.c_Gate T.m_Gate_put_out hr passL (pa_cons (pv 1) (pa_cons (pe_tup (pa_cons pe_str pa_nil)) pa_nil))))
 (pss_cons (ps_augS (kfld K (pv 0)) pe_int (kget K) pe_int ip_add set_list)
 (pss_one (ps_expr (pe_m0 (pv 0) (ok_Gate_settle T) T.c_Gate T.m_Gate_settle hr passL)))))))), ?_⟩
  have sm := W.sm'
  have l := sm.len
  refine if_or (decide (n < 1)) (decide ((g.chs.length : Int) < n)) (fun Q' q => ⟨_, rfl, _, _, rfl, rfl, _, rfl, q⟩) (fun _ Q' q => ⟨_, rfl, _, rfl, _, _, _, _, _, rfl, (h).ob, T.c_Gate, T.n_Gate_store, rfl, _, _, _, rfl, (h).cob, rfl, a.st, a.ca, g.chs, rfl, h.chs, _, _, rfl, rfl, _, rfl, q⟩) ?_
  rw [← Bool.decide_or]
  refine ite2 (fun c => k1 (dt c) H (Ex.refl _)) (fun c => ?_)
  have c1 := df c
  replace k2 := k2 c1
  replace k3 := k3 c1
  dsimp only [tNext, tSeq]
  refine if_or (decide (n ∈ g.top)) (g.isGone n) (fun Q' q => ⟨_, rfl, _, rfl, _, _, _, _, _, rfl, (h).ob, T.c_Gate, T.n_Gate_top, rfl, a.top, _, rfl, .inl (sq_of h.top), rfl, flat_ints _, _, rfl, ?_⟩) (fun _ Q' q => ⟨_, rfl, _, rfl, _, _, _, _, _, rfl, (h).ob, T.c_Gate, T.n_Gate_gone, rfl, a.gone, _, rfl, h.dgGone n, ?_⟩) ?_
  · rw [if_neg (by decide), inV_ints]; exact q
  · rw [h.goneB]; exact ⟨_, rfl, q⟩
  have e : (decide (n ∈ g.top) || g.isGone n) = decide (n ∈ g.top ∨ g.isGone n = true) := by
    rw [Bool.decide_or, Bool.decide_eq_true]
  rw [e]
  refine ite2 (fun c => k2 (dt c) H (Ex.refl _)) (fun c => ?_)
  have c2 := df c
  replace k3 := k3 c2
  have on : okN g.chs n := ⟨by omega, by omega⟩
  have wq := W.wq on (fun z => c2 (.inl z)) (fun z => c2 (.inr (isGone_iff.mpr z)))
  obtain ⟨g1, eg1⟩ : ∃ g1, g1 = if n ∈ g.upon then g.waitAgain (g.upon.idxOf n) else g := ⟨_, rfl⟩
  rw [← eg1] at k3
  have W1 : WF N g1 := by
    rw [eg1]
    split
    · exact W.again _
    · exact W
  have hq : n ∈ g1.queue := by
    rw [eg1]
    rcases wq with ⟨z1, z2⟩ | ⟨z1, z2⟩
    · rw [if_pos z1]; exact z2
    · rw [if_neg z1]; exact z2
  refine ⟨fun σ' H' => ∃ a1, a1.p = a.p ∧ σ' = [some (.ref a.p), some (.int n)] ∧ GtAt K H' a1 g1 ∧ Fr (foot a) (foot a1) H H', ?_, ?_⟩
  · refine ⟨_, rfl, _, rfl, _, _, _, _, _, rfl, (h).ob, T.c_Gate, T.n_Gate_upon, rfl, a.upon, _, rfl, .inl (sq_of h.upon), rfl, flat_ints _, _, rfl, ?_⟩
    rw [if_neg (by decide), inV_ints]
    refine ite2 (fun c => ?_) (fun c => ?_)
    · have c3 := dt c
      rw [if_pos c3] at eg1
      refine ⟨_, rfl, _, _, _, rfl, (h).ob, rfl, _, rfl, _, _, _, _, _, rfl, (h).ob, T.c_Gate, T.n_Gate_upon, rfl, .inl ⟨rfl, _, sq_of h.upon⟩, _, rfl, a.upon, _, _, g.upon.idxOf n, .int n, rfl, rfl, sq_of h.upon, rfl, flat_ints _, (idx_rd c3).1, (idx_rd c3).2.1, (idx_rd c3).2.2, ?_⟩
      refine ⟨a, g, g.upon.idxOf n, rfl, h, sm, fun a1 H1 ep1 h1 f1 => ⟨a1, ep1, rfl, by rw [eg1]; exact h1, f1⟩⟩
    · rw [if_neg (df c)] at eg1
      exact ⟨a, rfl, rfl, by rw [eg1]; exact h, Fr.refl _ _⟩
  · rintro σ' H1 ⟨a1, ep1, rfl, h1, f1⟩
    rw [← ep1]
    refine ⟨_, rfl, _, _, _, rfl, (h1).ob, rfl, _, rfl, by show 1 ≤ sizeLine; decide, fun t nt => ?_⟩
    have e2 := Ex.new (o := .tup [.str "withdrawn"]) nt
    refine ⟨a1, g1, n, _, .withdrawn, rfl, h1.ex e2, W1.sm', hq, .tup (st_of upd_same) (.cons (.str _) .nil), fun a3 H3 ep3 h3 f3 => ?_⟩
    rw [← ep3]
    refine ⟨_, rfl, _, _, _, _, _, rfl, (h3).ob, T.c_Gate, T.n_Gate_tolls, rfl, _, _, 4, _, rfl, rfl, sq_of h3.tolls, tl_at (j := 4) h3.r.tl (by decide), _, _, rfl, rfl, a3.tolls, _, 4, 4, rfl, rfl, h3.tolls, tl_ix (j := 4) h3.r.tl (by decide), ?_⟩
    obtain ⟨h4, f4⟩ := h3.toll 4 (a3.tl.getD 4 0 + 1)
    refine ⟨_, rfl, _, _, _, rfl, (h4).ob, rfl, { a3 with tl := a3.tl.set 4 (a3.tl.getD 4 0 + 1) }, _, N, rfl, h4, (W1.out hq _).1, fun a5 H5 ep5 h5 f5 => ?_⟩
    exact k3 a5 H5 (ep5.trans (ep3.trans ep1)) h5 (f1.trans ((Fr.of_ex e2).trans (f3.trans (f4.trans f5))))
/-- halted or not -/
theorem GtAt.halt {H : Hp} {a : GA} {g : GS} (h : GtAt K H a g) (b : Bool) : GtAt K (upd H a.p (.ins (He.ga K "Gate") a.dx (putF "halted" (.bl b) (gF a g.halted)))) a { g with halted := b } ∧ Fr (foot a) (foot a) H (upd H a.p (.ins (He.ga K "Gate") a.dx (putF "halted" (.bl b) (gF a g.halted)))) :=
  h.put (a' := a) (g' := { g with halted := b }) 0 rfl rfl rfl rfl rfl (fun kp r => ⟨r.house, r.lv, r.ev, r.sz, r.gone, r.asked, r.gr, r.en, r.tl⟩)
theorem WF.halt {N : Nat} {g : GS} (W : WF N g) (b : Bool) : WF N { g with halted := b } := ⟨W.pm, W.few, W.hN, W.sm, W.vc, W.st, W.so, W.wd, W.hn, W.n1, W.n2, W.n3, W.kl, W.ct⟩
def sp_Gate_stop (K : PySem.W.Frag) : Sp := fun vs H Q _ => ∃ a g N, vs = [.ref a.p] ∧ GtAt K H a g ∧ WF N g ∧ ∀ a' H', a'.p = a.p → GtAt K H' a' g.doStop → Fr (foot a) (foot a') H H' → Q .non H'
abbrev N_Gate_stop : List Str := ["self"]
theorem sc_Gate_stop : FnScope N_Gate_stop ["self"] (defScope s_Gate_stop) := ⟨rfl, rfl, rfl, by decide +kernel, rfl, by decide +kernel, by decide +kernel⟩
-- slots: 0:self
theorem ok_Gate_stop (T : Tx K mg) : Ok P w K mg base 9 ("Gate", some "stop") ["self"] (sp_Gate_stop K) := by
  refine T.ok 38 rfl (N := N_Gate_stop) rfl rfl sc_Gate_stop (fun vs H Q E h => ?_) (fun _ _ _ _ _ _ us hl => match us, hl with | [_], _ => rfl) (fun cdv A outer s H vs Q E hr h => ?_)
  · obtain ⟨_, _, _, rfl, _⟩ := h
    rfl
  have hu := hu_of hr
  obtain ⟨a, g, N, rfl, h, W, k⟩ := h
  refine ⟨_, (pss_cons (ps_expr (pe_m (pv 0) (ok_Gate_wait_again T) T.c_Gate T.m_Gate_wait_again hr passL (pa_cons pe_int pa_nil)))
 (pss_cons (ksfld K (pv 0) pe_bl)
 (pss_cons (ps_augS (kfld K (pv 0)) pe_int (kget K) pe_int ip_add set_list)
 (pss_one (ps_expr (pe_m0 (pv 0) (ok_Gate_settle T) T.c_Gate T.m_Gate_settle hr passL)))))), ?_⟩
  refine ⟨_, rfl, _, _, _, rfl, (h).ob, rfl, a, g, 0, rfl, h, W.sm', fun a1 H1 ep1 h1 f1 => ?_⟩
  rw [← ep1]
  refine ⟨_, rfl, _, _, _, _, rfl, (h1).ob, T.c_Gate, T.n_Gate_halted, (by show 12 < 1000; decide), ?_⟩
  obtain ⟨h2, f2⟩ := h1.halt true
  generalize upd H1 a1.p (.ins (He.ga K "Gate") a1.dx (putF "halted" (.bl true) (gF a1 (g.waitAgain 0).halted))) = H2 at h2 f2 ⊢
  refine ⟨_, rfl, _, _, _, _, _, rfl, (h2).ob, T.c_Gate, T.n_Gate_tolls, rfl, _, _, 4, _, rfl, rfl, sq_of h2.tolls, tl_at (j := 4) h2.r.tl (by decide), _, _, rfl, rfl, a1.tolls, _, 4, 4, rfl, rfl, h2.tolls, tl_ix (j := 4) h2.r.tl (by decide), ?_⟩
  obtain ⟨h4, f4⟩ := h2.toll 4 (a1.tl.getD 4 0 + 1)
  refine ⟨_, rfl, _, _, _, rfl, (h4).ob, rfl, { a1 with tl := a1.tl.set 4 (a1.tl.getD 4 0 + 1) }, _, N, rfl, h4, (W.again 0).halt true, fun a5 H5 ep5 h5 f5 => ?_⟩
  exact k a5 H5 (ep5.trans ep1) h5 (f1.trans (f2.trans (f4.trans f5)))
def sp_Gate_go (K : PySem.W.Frag) : Sp := fun vs H Q _ => ∃ a g N, vs = [.ref a.p] ∧ GtAt K H a g ∧ WF N g ∧ ∀ a' H', a'.p = a.p → GtAt K H' a' g.doGo → Fr (foot a) (foot a') H H' → Q .non H'
abbrev N_Gate_go : List Str := ["self"]
theorem sc_Gate_go : FnScope N_Gate_go ["self"] (defScope s_Gate_go) := ⟨rfl, rfl, rfl, by decide +kernel, rfl, by decide +kernel, by decide +kernel⟩
-- slots: 0:self
theorem ok_Gate_go (T : Tx K mg) : Ok P w K mg base 9 ("Gate", some "go") ["self"] (sp_Gate_go K) := by
  refine T.ok 39 rfl (N := N_Gate_go) rfl rfl sc_Gate_go (fun vs H Q E h => ?_) (fun _ _ _ _ _ _ us hl => match us, hl with | [_], _ => rfl) (fun cdv A outer s H vs Q E hr h => ?_)
  · obtain ⟨_, _, _, rfl, _⟩ := h
    rfl
  have hu := hu_of hr
  obtain ⟨a, g, N, rfl, h, W, k⟩ := h
  refine ⟨_, (pss_cons (ksfld K (pv 0) pe_bl)
 (pss_one (ps_expr (pe_m0 (pv 0) (ok_Gate_settle T) T.c_Gate T.m_Gate_settle hr passL)))), ?_⟩
  refine ⟨_, rfl, _, _, _, _, rfl, (h).ob, T.c_Gate, T.n_Gate_halted, (by show 12 < 1000; decide), ?_⟩
  obtain ⟨h2, f2⟩ := h.halt false
  refine ⟨_, rfl, _, _, _, rfl, (h2).ob, rfl, a, _, N, rfl, h2, W.halt false, fun a5 H5 ep5 h5 f5 => ?_⟩
  exact k a5 H5 ep5 h5 (f2.trans f5)
end LG

set_option Elab.async false
set_option linter.all false
set_option maxRecDepth 100000
set_option maxHeartbeats 4000000
namespace LG
open PySem PySem.Spec L2 Evl
open PyProof.Rows hiding St
variable {P : Program} {w : World} {K : PySem.W.Frag} {mg : Str → Option Value} {base : Heap}

theorem tb_apart : ∀ {tb : List (List Int × TA3)}, (tbA tb).Nodup → ∀ q ∈ tb, ∀ q' ∈ tb, q.1 ≠ q'.1 → ∀ b, b ∈ [q.2.1, q.2.2.2] → b ∈ [q'.2.1, q'.2.2.2] → False
  | [], _, q, hq, _, _, _, _, _, _ => by cases hq
  | z :: r, n, q, hq, q', hq', ne, b, h1, h2 => by
    have n' : ([z.2.1, z.2.2.2] ++ tbA r).Nodup := n
    obtain ⟨_, n2, n3⟩ := List.nodup_append.mp n'
    have mem : ∀ x ∈ r, ∀ b ∈ [x.2.1, x.2.2.2], b ∈ tbA r := fun x hx b hb => List.mem_flatMap.mpr ⟨x, hx, hb⟩
    rcases List.mem_cons.mp hq with e | m
    · rcases List.mem_cons.mp hq' with e' | m'
      · exact ne (by rw [e, e'])
      · rw [e] at h1; exact n3 b h1 b (mem q' m' b h2) rfl
    · rcases List.mem_cons.mp hq' with e' | m'
      · rw [e'] at h2; exact n3 b h2 b (mem q m b h1) rfl
      · exact tb_apart n2 q m q' m' ne b h1 h2
section
variable {H H' H3 : Hp} {a : GA} {g : GS} {tb : List (List Int × TA3)} {kn : List (List Int × Tal)} {l : List Int} {q : TA3} {ts ts' : Tal}
theorem KnAt.tbk (h : KnAt K H tb kn) : (tb.map (·.1)).Nodup := by rw [pk_keys h.at_]; exact h.keys
theorem KnAt.old (h : KnAt K H tb kn) (hq : look tb l = some q) (hl : look kn l = some ts) (t : TlAt K H' q.1 q.2.1 q.2.2 ts') (fr : ∀ b o, H b = some o → b ≠ q.1 → b ≠ q.2.2 → H' b = some o) : KnAt K H' tb (put kn l ts') := by
  refine ⟨?_, by rw [(put_keys hl).1]; exact h.keys, h.nd⟩
  rw [(put_keys (b := ts') hl).2]
  have qm := look_mem hq
  have gen : ∀ {tb' : List (List Int × TA3)} {kn' : List (List Int × Tal)}, PK (fun q t => TlAt K H q.1 q.2.1 q.2.2 t) tb' kn' → (∀ x ∈ tb', x ∈ tb) → PK (fun q t => TlAt K H' q.1 q.2.1 q.2.2 t) tb' (kn'.map fun kv => if kv.1 = l then (kv.1, ts') else kv) := by
    intro tb' kn' p
    induction p with
    | nil => intro _; exact .nil
    | cons h1 t1 ih =>
      rename_i x p tb' kn'
      intro sub
      rw [List.map_cons]
      refine .cons ?_ (ih fun y hy => sub y (List.mem_cons_of_mem _ hy))
      have xm := sub x List.mem_cons_self
      by_cases e : p.1 = l
      · rw [if_pos e]
        have xl : x.1 = l := h1.1.trans e
        have := look_of_mem h.tbk (show (x.1, x.2) ∈ tb from xm)
        rw [xl, hq] at this
        refine ⟨h1.1, ?_⟩
        rw [← Option.some.inj this]
        exact t
      · rw [if_neg e]
        have xl : x.1 ≠ l := fun z => e (h1.1.symm.trans z)
        have ap := tb_apart h.nd x xm (l, q) qm xl
        have o := h1.2
        refine ⟨h1.1, fr _ _ o.ob (fun z => ap x.2.1 (by simp) (by rw [z]; simp)) (fun z => ap x.2.1 (by simp) (by rw [z]; simp)), fr _ _ o.mt (fun z => ap x.2.2.2 (by simp) (by rw [z]; simp)) (fun z => ap x.2.2.2 (by simp) (by rw [z]; simp))⟩
  exact gen h.at_ fun _ h => h
theorem nin_look {κ β : Type} [DecidableEq κ] {tb : List (κ × β)} {k : κ} (h : look tb k = none) : k ∉ tb.map (·.1) := fun m => by
  obtain ⟨p, hp, e⟩ := List.mem_map.mp m
  have := any_of_look h
  rw [List.any_eq_false] at this
  exact this p hp (decide_eq_true e)
theorem KnAt.fresh (h : KnAt K H tb kn) (hl : look kn l = none) (t : TlAt K H' q.1 q.2.1 q.2.2 ts') (fr : ∀ b o, H b = some o → b ≠ q.1 → b ≠ q.2.2 → H' b = some o) (n1 : H q.1 = none) (n2 : H q.2.2 = none) : KnAt K H' (tb ++ [(l, q)]) (kn ++ [(l, ts')]) := by
  have ne : q.1 ≠ q.2.2 := ne_of t.ob t.mt (by intro z; cases z)
  have fr' : ∀ b o, H b = some o → H' b = some o := fun b o e => fr b o e (fun z => by rw [z, n1] at e; cases e) (fun z => by rw [z, n2] at e; cases e)
  refine ⟨pk_snoc (R := fun (q : TA3) (t : Tal) => TlAt K H' q.1 q.2.1 q.2.2 t) t (pk_mono (R := fun (q : TA3) (t : Tal) => TlAt K H q.1 q.2.1 q.2.2 t) (fun q t o => ⟨fr' _ _ o.ob, fr' _ _ o.mt⟩) h.at_), ?_, ?_⟩
  · rw [List.map_append]
    refine List.nodup_append.mpr ⟨h.keys, by simp, fun a ha b hb e => ?_⟩
    have : b = l := by simpa using hb
    rw [e, this] at ha
    exact nin_look hl ha
  · have e : tbA (tb ++ [(l, q)]) = tbA tb ++ [q.1, q.2.2] := by unfold tbA; rw [List.flatMap_append]; rfl
    rw [e]
    refine List.nodup_append.mpr ⟨h.nd, by simp [ne], fun a ha b hb e => ?_⟩
    have th := tb_there h.at_ a ha
    have : b = q.1 ∨ b = q.2.2 := by simpa using hb
    rcases this with z | z
    · exact th (by rw [e, z]; exact n1)
    · exact th (by rw [e, z]; exact n2)
/-- a tally has been told, and stands in the table -/
theorem gt_tallied {n : Nat} (h : GtAt K H a g) (kn : KnAt K H3 (put a.tb l q) (put g.known l ts')) (fr : ∀ b o, H b = some o → b ≠ q.1 → b ≠ q.2.2 → H3 b = some o) (old : ∀ b, H3 b = none → H b = none)
    (hq : (q.1 ∈ tbA a.tb ∧ q.2.2 ∈ tbA a.tb) ∨ (H q.1 = none ∧ H q.2.2 = none)) (sub : ∀ b ∈ tbA (put a.tb l q), b ∈ tbA a.tb ∨ b = q.1 ∨ b = q.2.2) (kp : Keep H H3) (hn : g.cnt ≤ n) :
    Holds H3 (cells K a g) ∧ GtAt K (upd H3 a.known (.dT (knownK (put a.tb l q)))) { a with tb := put a.tb l q } { g with known := put g.known l ts', cnt := n } ∧ Fr (foot a) (foot { a with tb := put a.tb l q }) H (upd H3 a.known (.dT (knownK (put a.tb l q)))) := by
  have cn : ∀ c ∈ cells K a g, c.1 ≠ q.1 ∧ c.1 ≠ q.2.2 := fun c hc => by
    have cm : c.1 ∈ (cells K a g).map (·.1) := List.mem_map.mpr ⟨c, hc, rfl⟩
    rcases hq with ⟨z1, z2⟩ | ⟨z1, z2⟩
    · exact ⟨fun e => h.ap _ cm (by rw [e]; exact z1), fun e => h.ap _ cm (by rw [e]; exact z2)⟩
    · exact ⟨fun e => (by have := h.cs.get c hc; rw [e, z1] at this; cases this), fun e => (by have := h.cs.get c hc; rw [e, z2] at this; cases this)⟩
  have cs3 : Holds H3 (cells K a g) := ⟨fun c hc => fr _ _ (h.cs.get c hc) (cn c hc).1 (cn c hc).2, h.cs.nd⟩
  have km : a.known ∈ (cells K a g).map (·.1) := List.mem_map.mpr ⟨_, List.mem_of_getElem? (i := 12) rfl, rfl⟩
  have s2 := cs3.upd 12 (u := .dT (knownK (put a.tb l q))) rfl
  have ap' : ∀ b, b ∈ (cells K a g).map (·.1) → b ∈ tbA (put a.tb l q) → False := fun b h1 h2 => by
    obtain ⟨c, hc, e⟩ := List.mem_map.mp h1
    rcases sub b h2 with z | z | z
    · exact h.ap b h1 z
    · exact (cn c hc).1 (e.trans z)
    · exact (cn c hc).2 (e.trans z)
  have kp4 : Keep H (upd H3 a.known (.dT (knownK (put a.tb l q)))) := kp.trans (keep_mut (cs3.at 12 rfl) rfl)
  have r := h.r.keep kp4
  refine ⟨cs3, ⟨s2, ⟨r.house, r.lv, r.ev, r.sz, r.gone, r.asked, Nat.le_trans r.gr hn, Nat.le_trans r.en hn, r.tl⟩, kn.stay fun b hb => upd_ne fun z => ap' a.known km (z ▸ hb), ap'⟩, ⟨fun b o e nb => ?_, fun b hb => ?_, fun b hb => ?_, kp4⟩⟩
  · have ef := foot_eq (K := K) a g
    rw [ef, List.mem_append, not_or] at nb
    rw [upd_ne fun z => nb.1 (by rw [z]; exact km)]
    refine fr b o e (fun z => ?_) (fun z => ?_)
    · rcases hq with ⟨z1, _⟩ | ⟨z1, _⟩
      · exact nb.2 (by rw [z]; exact z1)
      · rw [z, z1] at e; cases e
    · rcases hq with ⟨_, z1⟩ | ⟨_, z1⟩
      · exact nb.2 (by rw [z]; exact z1)
      · rw [z, z1] at e; cases e
  · have ef := foot_eq (K := K) a g
    have hb' : b ∈ (cells K a g).map (·.1) ++ tbA (put a.tb l q) := hb
    rcases List.mem_append.mp hb' with z | z
    · exact .inl (by rw [ef]; exact List.mem_append_left _ z)
    · rcases sub b z with y | y | y
      · exact .inl (by rw [ef]; exact List.mem_append_right _ y)
      · rcases hq with ⟨z1, _⟩ | ⟨z1, _⟩
        · exact .inl (by rw [ef, y]; exact List.mem_append_right _ z1)
        · exact .inr (by rw [y]; exact z1)
      · rcases hq with ⟨_, z1⟩ | ⟨_, z1⟩
        · exact .inl (by rw [ef, y]; exact List.mem_append_right _ z1)
        · exact .inr (by rw [y]; exact z1)
  · by_cases z : b = a.known
    · rw [z, upd_same] at hb; cases hb
    · rw [upd_ne z] at hb; exact old b hb
end
def sp_Gate_end_look (K : PySem.W.Frag) : Sp := fun vs H Q _ => ∃ a g N b l ans, ∃ k : Nat, vs = [.ref a.p, .ref b, .str (aS ans)] ∧ GtAt K H a g ∧ WF N g ∧ H b = some (.tup (l.map V.int)) ∧ l = g.lookAt k ∧ k ≤ g.upon.length ∧ a.gr.length + 1 ≤ g.cnt ∧ a.en.length + 1 ≤ g.cnt ∧
  ∀ a' H', a'.p = a.p → GtAt K H' a' (g.endLook l ans) → Fr (foot a) (foot a') H H' → Q .non H'
abbrev N_Gate_end_look : List Str := ["self", "look", "word"]
theorem sc_Gate_end_look : FnScope N_Gate_end_look ["self", "look", "word"] (defScope s_Gate_end_look) := ⟨rfl, rfl, rfl, by decide +kernel, rfl, by decide +kernel, by decide +kernel⟩
-- slots: 0:self 1:look 2:word
theorem ok_Gate_end_look (T : Tx K mg) : Ok P w K mg base 1 ("Gate", some "end_look") ["self", "look", "word"] (sp_Gate_end_look K) := by
  refine T.ok 36 rfl (N := N_Gate_end_look) rfl rfl sc_Gate_end_look (fun vs H Q E h => ?_) (fun _ _ _ _ _ _ us hl => match us, hl with | [_, _, _], _ => rfl) (fun cdv A outer s H vs Q E hr h => ?_)
  · obtain ⟨_, _, _, _, _, _, _, rfl, _⟩ := h
    rfl
  have hu := hu_of hr
  obtain ⟨a, g, N, b, l, ans, j, rfl, h, W, hb, hl, hj, bg, be, k⟩ := h
  refine ⟨_, (pss_cons (ps_expr (kbm K PySem.F.plainAttrs_list PySem.F.slot_list_append PySem.F.type_list_append mt_append (kfld K (pv 0)) (pa_cons (pe_tup (pa_cons (pv 1) (pa_cons (pv 2) pa_nil))) pa_nil)))
 (pss_one (ps_if (pt_cmpR op_eq (pv 2) pe_str (nomark _)) (pss_cons (ps_augS (kfld K (pv 0)) pe_int (kget K) pe_int ip_add set_list)
 (pss_cons (ksfld K (pv 0) (pe_slice (ksll K) (kfld K (pv 0)) (po_some (pe_op op_sub (pe_callB (klen K) (by rfl) T.b_len (by decide +kernel) (pa_cons (pv 1) pa_nil)) (pe_callB (klen K) (by rfl) T.b_len (by decide +kernel) (pa_cons (kfld K (pv 0)) pa_nil)))) po_none))
 (pss_cons (ksfld K (pv 0) (pe_callTy (klist K) (by rfl) T.b_list (by decide +kernel) (pa_cons (pv 1) pa_nil)))
 (pss_one (ps_expr (kbm K PySem.F.plainAttrs_list PySem.F.slot_list_append PySem.F.type_list_append mt_append (kfld K (pv 0)) (pa_cons (pv 1) pa_nil))))))) (pss_one (ps_augS (kfld K (pv 0)) pe_int (kget K) pe_int ip_add set_list))))), ?_⟩
  have sm := W.sm'
  have ln := sm.len
  have ct := W.ct
  have hN := W.hN
  refine ⟨_, rfl, _, _, _, _, _, rfl, (h).ob, T.c_Gate, T.n_Gate_ended, rfl, .inl ⟨rfl, _, sq_of h.ended⟩, _, rfl, _, rfl, by show 2 ≤ sizeLine; decide, fun t nt => ?_⟩
  have e1 := Ex.new (o := .tup [V.ref b, V.str (aS ans)]) nt
  have h1 := h.ex e1
  have hb1 := e1 _ _ hb
  generalize upd H t (.tup [V.ref b, V.str (aS ans)]) = H1 at e1 h1 hb1 ⊢
  refine ⟨a.ended, _, _, rfl, rfl, h1.ended, by rw [sizeLine_eq]; omega, ?_⟩
  obtain ⟨h2, f2⟩ := h1.put (u := .lst (a.en ++ [V.ref t])) (a' := { a with en := a.en ++ [V.ref t] }) (g' := g) 11 rfl rfl rfl rfl rfl (fun kp r => ⟨r.house, r.lv, r.ev, r.sz, r.gone, r.asked, r.gr, by show (a.en ++ [V.ref t]).length ≤ _; rw [List.length_append]; exact be, r.tl⟩)
  have hb2 := f2.keep.tup _ _ hb1
  generalize upd H1 a.ended (.lst (a.en ++ [V.ref t])) = H2 at h2 f2 hb2 ⊢
  obtain ⟨a2, ea2⟩ : ∃ a2 : GA, a2 = { a with en := a.en ++ [V.ref t] } := ⟨_, rfl⟩
  rw [← ea2] at h2 f2
  have ep2 : a2.p = a.p := by rw [ea2]
  have bg2 : a2.gr.length + 1 ≤ g.cnt := by rw [ea2]; exact bg
  rw [← ep2]
  refine ⟨_, rfl, rfl, _, rfl, ?_⟩
  unfold GS.endLook at k
  have ec : decide (V.str (aS ans) = V.str "yes") = decide (ans = .yes) := by cases ans <;> decide +kernel
  rw [ec]
  refine ite2 (fun c => ?_) (fun c => ?_)
  · rw [if_pos (dt c)] at k
    refine ⟨_, rfl, _, _, _, _, _, rfl, (h2).ob, T.c_Gate, T.n_Gate_tolls, rfl, _, _, 0, _, rfl, rfl, sq_of h2.tolls, tl_at (j := 0) h2.r.tl (by decide), _, _, rfl, rfl, a2.tolls, _, 0, 0, rfl, rfl, h2.tolls, tl_ix (j := 0) h2.r.tl (by decide), ?_⟩
    obtain ⟨h3, f3⟩ := h2.toll 0 (a2.tl.getD 0 0 + 1)
    have hb3 := f3.keep.tup _ _ hb2
    generalize upd H2 a2.tolls (.lst ((a2.tl.map V.int).set 0 (.int (a2.tl.getD 0 0 + 1)))) = H3 at h3 f3 hb3 ⊢
    obtain ⟨a3, ea3⟩ : ∃ a3 : GA, a3 = { a2 with tl := a2.tl.set 0 (a2.tl.getD 0 0 + 1) } := ⟨_, rfl⟩
    rw [← ea3] at h3
    have f3' : Fr (foot a2) (foot a3) H2 H3 := by rw [ea3]; exact f3
    have ep3 : a3.p = a2.p := by rw [ea3]
    have bg3 : a3.gr.length + 1 ≤ g.cnt := by rw [ea3]; exact bg2
    rw [← ep3]
    have ek : (l.length : Int) - (g.top.length : Int) = ((l.length - g.top.length : Nat) : Int) := by
      have : g.top.length ≤ l.length := by rw [hl]; unfold GS.lookAt; rw [List.length_append]; omega
      omega
    refine ⟨_, rfl, _, _, _, _, _, rfl, (h3).ob, T.c_Gate, T.n_Gate_upon, rfl, _, rfl, b, _, rfl, .inr (st_of hb3), _, rfl, _, _, _, _, _, rfl, (h3).ob, T.c_Gate, T.n_Gate_top, rfl, a3.top, _, rfl, .inl (sq_of h3.top), _, _, rfl, rfl, ?_⟩
    rw [List.length_map, List.length_map]
    refine ⟨((l.length - g.top.length : Nat) : Int), by rw [← ek], a3.upon, _, rfl, sq_of h3.upon, fun q nq => ?_⟩
    rw [cutV_from, ← List.map_drop]
    have e4 := Ex.new (o := .lst ((g.upon.drop (l.length - g.top.length)).map V.int)) nq
    have h4 := h3.ex e4
    refine ⟨_, rfl, _, _, _, _, rfl, (h4).ob, T.c_Gate, T.n_Gate_upon, (by show 12 < 1000; decide), ?_⟩
    obtain ⟨h5, f5⟩ := h3.reb (o := .ins (He.ga K "Gate") a3.dx (putF "upon" (.ref q) (gF a3 g.halted))) (a' := { a3 with upon := q }) (g' := { g with upon := g.upon.drop (l.length - g.top.length) }) e4 nq upd_same 6 rfl rfl rfl rfl (fun _ r => ⟨r.house, r.lv, r.ev, r.sz, r.gone, r.asked, r.gr, r.en, r.tl⟩)
    have hb5 := f5.keep.tup _ _ hb3
    generalize upd (upd H3 q (.lst ((g.upon.drop (l.length - g.top.length)).map V.int))) a3.p (.ins (He.ga K "Gate") a3.dx (putF "upon" (.ref q) (gF a3 g.halted))) = H5 at h5 f5 hb5 ⊢
    refine ⟨_, rfl, rd_listI (.inr (st_of hb5)) fun tp H6 ntp e6 htp => ?_⟩
    have h6 := h5.ex e6
    refine ⟨_, rfl, _, _, _, _, rfl, (h6).ob, T.c_Gate, T.n_Gate_top, (by show 12 < 1000; decide), ?_⟩
    obtain ⟨h7, f7⟩ := h5.reb (o := .ins (He.ga K "Gate") a3.dx (putF "top" (.ref tp) (gF { a3 with upon := q } g.halted))) (a' := { a3 with upon := q, top := tp }) (g' := { g with upon := g.upon.drop (l.length - g.top.length), top := l }) e6 ntp htp 5 rfl rfl rfl rfl (fun _ r => ⟨r.house, r.lv, r.ev, r.sz, r.gone, r.asked, r.gr, r.en, r.tl⟩)
    refine ⟨_, rfl, _, _, _, _, _, rfl, (h7).ob, T.c_Gate, T.n_Gate_grown, rfl, .inl ⟨rfl, _, sq_of h7.grown⟩, _, rfl, a3.grown, _, _, rfl, rfl, h7.grown, by rw [sizeLine_eq]; show a3.gr.length < _; omega, ?_⟩
    obtain ⟨h8, f8⟩ := h7.put (u := .lst (a3.gr ++ [V.ref b])) (a' := { a3 with upon := q, top := tp, gr := a3.gr ++ [V.ref b] }) (g' := { g with upon := g.upon.drop (l.length - g.top.length), top := l }) 10 rfl rfl rfl rfl rfl (fun kp r => ⟨r.house, r.lv, r.ev, r.sz, r.gone, r.asked, by show (a3.gr ++ [V.ref b]).length ≤ g.cnt; rw [List.length_append]; exact bg3, r.en, r.tl⟩)
    exact k { a3 with upon := q, top := tp, gr := a3.gr ++ [V.ref b] } _ (ep3.trans ep2) h8 ((Fr.of_ex e1).trans (f2.trans (f3'.trans (f5.trans (f7.trans f8)))))
  · rw [if_neg (df c)] at k
    refine ⟨_, rfl, _, _, _, _, _, rfl, (h2).ob, T.c_Gate, T.n_Gate_tolls, rfl, _, _, 1, _, rfl, rfl, sq_of h2.tolls, tl_at (j := 1) h2.r.tl (by decide), _, _, rfl, rfl, a2.tolls, _, 1, 1, rfl, rfl, h2.tolls, tl_ix (j := 1) h2.r.tl (by decide), ?_⟩
    obtain ⟨h3, f3⟩ := h2.toll 1 (a2.tl.getD 1 0 + 1)
    exact k { a2 with tl := a2.tl.set 1 (a2.tl.getD 1 0 + 1) } _ ep2 h3 ((Fr.of_ex e1).trans (f2.trans f3))
end LG

set_option Elab.async false
set_option linter.all false
set_option maxRecDepth 100000
set_option maxHeartbeats 4000000
namespace LG
open PySem PySem.Spec L2 Evl
open PyProof.Rows hiding St
variable {P : Program} {w : World} {K : PySem.W.Frag} {mg : Str → Option Value} {base : Heap}

theorem tbA_put {tb : List (List Int × TA3)} {l : List Int} {q : TA3} (h : look tb l = none) : tbA (put tb l q) = tbA tb ++ [q.1, q.2.2] := by
  rw [put_new h]; unfold tbA; rw [List.flatMap_append]; rfl
def sp_Gate_answer (K : PySem.W.Frag) : Sp := fun vs H Q E => ∃ a g N b l ans, vs = [.ref a.p, .ref b, .str (aS ans)] ∧ GtAt K H a g ∧ WF N g ∧ AskOk g ∧ N + 1 ≤ 20 ∧ H b = some (.tup (l.map V.int)) ∧
  (l ∉ g.asked → ∀ H', Ex H H' → E (.ref (He.ga K "NoLook")) none H') ∧
  (l ∈ g.asked → (g.tally l).last ≠ none → ∀ H', Ex H H' → E (.ref (He.ga K "NoAnswer")) none H') ∧
  (l ∈ g.asked → (g.tally l).last = none → ∀ a' H', a'.p = a.p → GtAt K H' a' (((g.answered l ans).ended l ((g.tally l).tell ans).last).settle) → Fr (foot a) (foot a') H H' → Q (.str (wS ((g.tally l).tell ans).last)) H')
abbrev N_Gate_answer : List Str := ["self", "look", "word", "tally", "told"]
theorem sc_Gate_answer : FnScope N_Gate_answer ["self", "look", "word"] (defScope s_Gate_answer) := ⟨rfl, rfl, rfl, by decide +kernel, rfl, by decide +kernel, by decide +kernel⟩
-- slots: 0:self 1:look 2:word 3:tally 4:told
theorem ok_Gate_answer (T : Tx K mg) : Ok P w K mg base 9 ("Gate", some "answer") ["self", "look", "word"] (sp_Gate_answer K) := by
  refine T.ok 37 rfl (N := N_Gate_answer) rfl rfl sc_Gate_answer (fun vs H Q E h => ?_) (fun _ _ _ _ _ _ us hl => match us, hl with | [_, _, _], _ => rfl) (fun cdv A outer s H vs Q E hr h => ?_)
  · obtain ⟨_, _, _, _, _, _, rfl, _⟩ := h
    rfl
  have hu := hu_of hr
  obtain ⟨a, g, N, b, l, ans, rfl, h, W, A, hN, hb, k1, k2, k3⟩ := h
  refine ⟨_, (pss_cons (ps_if (pt_cmpR (knind K hr) (pv 1) (kfld K (pv 0)) (by rfl)) (pss_one (ps_rz T.x_NoLook T.g_NoLook (takes_of rfl rfl rfl rfl))) pss_nil)
 (pss_cons (ps_set (i := 3) sc_Gate_answer.nd rfl (by first | exact Or.inl rfl | exact Or.inr rfl) (pe_n (ok_Tally_init T) T.k_Tally hr T.g_Tally passL (pa_cons (pe_ix (kixt K) (kfld K (pv 0)) pe_int (fun _ _ => rfl)) (pa_cons (pe_ix (kixt K) (kfld K (pv 0)) pe_int (fun _ _ => rfl)) pa_nil))))
 (pss_cut (ps_if (pt_cmp (pc_din hu (pv 1) (kfld K (pv 0)))) (pss_one (ps_set (i := 3) sc_Gate_answer.nd rfl (by first | exact Or.inl rfl | exact Or.inr rfl) (pe_dget hu (kfld K (pv 0)) (pv 1) (fun _ _ => rfl)))) pss_nil)
 (pss_cons (ps_set (i := 4) sc_Gate_answer.nd rfl (by first | exact Or.inl rfl | exact Or.inr rfl) (pe_m (pv 3) (ok_Tally_tell T) T.c_Tally T.m_Tally_tell hr (passes_call (takes_of rfl rfl rfl rfl) (fun _ _ _ _ h => h)) (pa_cons (pv 2) pa_nil)))
 (pss_cons (ps_dput hu (kfld K (pv 0)) (pv 1) (pv 3) rfl)
 (pss_cons (ps_augS (kfld K (pv 0)) pe_int (kget K) pe_int ip_add set_list)
 (pss_cut (ps_if (pt_cmpR op_ne (pv 4) pe_str (nomark _)) (pss_one (ps_expr (pe_m (pv 0) (ok_Gate_end_look T) T.c_Gate T.m_Gate_end_look hr passL (pa_cons (pv 1) (pa_cons (pv 4) pa_nil))))) pss_nil)
 (pss_cons (ps_expr (pe_m0 (pv 0) (ok_Gate_settle T) T.c_Gate T.m_Gate_settle hr passL))
 (pss_one (ps_ret (pv 4))))))))))), ?_⟩
  have sm := W.sm'
  refine ⟨_, rfl, _, rfl, _, _, _, _, _, rfl, (h).ob, T.c_Gate, T.n_Gate_asked, rfl, rd_ninAsked h (dp_look hb) ⟨_, rfl, ?_⟩⟩
  by_cases ha : ¬ l ∈ g.asked
  · rw [decide_eq_false ha]
    exact iteT (k1 ha H (Ex.refl _))
  have ha : l ∈ g.asked := Classical.not_not.mp ha
  rw [decide_eq_true ha]
  refine iteF ?_
  replace k2 := k2 ha
  replace k3 := k3 ha
  refine ⟨_, rfl, _, _, _, _, _, rfl, (h).ob, T.c_Gate, T.n_Gate_house, rfl, a.house, _, 2, .int g.need, rfl, rfl, .inl (.inl h.r.house), rfl, _, rfl, _, _, _, _, _, rfl, (h).ob, T.c_Gate, T.n_Gate_house, rfl, a.house, _, 3, .int g.tries, rfl, rfl, .inl (.inl h.r.house), rfl, fun t tdx nt ntd ned => ?_⟩
  refine ⟨t, tdx, g.need, g.tries, rfl, upd_same, W.n1, W.n2, W.n3, fun H1 m nm ht fr1 => ⟨rfl, ?_⟩⟩
  have ntd' : tdx ≠ t := ned
  have nmt : m ≠ t := fun z => by rw [z, upd_same] at nm; cases nm
  have nm0 : H m = none := by
    rw [upd_ne nmt] at nm
    by_cases z : m = tdx
    · rw [z, upd_same] at nm; cases nm
    · rw [upd_ne z] at nm; exact nm
  have e1 : Ex H H1 := fun x o e => by
    have n1 : x ≠ t := fun z => by rw [z, nt] at e; cases e
    have n2 : x ≠ tdx := fun z => by rw [z, ntd] at e; cases e
    exact fr1 x o (by rw [upd_ne n1, upd_ne n2]; exact e) n1
  have h1 := h.ex e1
  have hb1 := e1 _ _ hb
  -- the tally
  refine ⟨fun σ' H' => H1 = H' ∧ ∃ q : TA3, σ' = [some (.ref a.p), some (.ref b), some (.str (aS ans)), some (.ref q.1), none] ∧ TlAt K H1 q.1 q.2.1 q.2.2 (g.tally l) ∧ ((look a.tb l = some q ∧ look g.known l = some (g.tally l)) ∨ (look a.tb l = none ∧ look g.known l = none ∧ H q.1 = none ∧ H q.2.2 = none)), ?_, ?_⟩
  · refine ⟨_, rfl, _, rfl, _, _, _, _, _, rfl, (h1).ob, T.c_Gate, T.n_Gate_known, rfl, a.known, _, rfl, h1.dgKnown hb1, ?_⟩
    unfold GS.tally
    rcases pk_look (k := l) h1.kn.at_ with ⟨z1, z2⟩ | ⟨q, ts, z1, z2, tl⟩
    · rw [z1, z2]
      exact ⟨_, rfl, iteF ⟨rfl, (t, tdx, m), rfl, ht, .inr ⟨rfl, rfl, nt, nm0⟩⟩⟩
    · rw [z1, z2]
      refine ⟨_, rfl, iteT ?_⟩
      exact ⟨_, rfl, _, _, _, _, _, rfl, (h1).ob, T.c_Gate, T.n_Gate_known, rfl, _, rfl, a.known, _, rfl, (by have := h1.dgKnown hb1; rw [z1] at this; exact this), rfl, q, rfl, tl, .inl ⟨rfl, rfl⟩⟩
  rintro σ' H' ⟨rfl, q, rfl, hq, hc⟩
  generalize hts : g.tally l = ts at *
  refine ⟨_, rfl, q.1, q.2.1, _, rfl, hq.ob, rfl, _, rfl, q.1, q.2.1, q.2.2, ts, ans, rfl, hq, fun z => k2 z H1 e1, fun z H2 ht2 fr2 => ?_⟩
  replace k3 := k3 z
  have fr02 : ∀ x o, H x = some o → x ≠ q.1 → x ≠ q.2.2 → H2 x = some o := fun x o e n1 n2 => fr2 x o (e1 x o e) n1 n2
  have old2 : ∀ x, H2 x = none → H x = none := fun x e => by
    cases e0 : H x with
    | none => rfl
    | some o =>
      exfalso
      by_cases z1 : x = q.1
      · rw [z1, ht2.ob] at e; cases e
      by_cases z2 : x = q.2.2
      · rw [z2, ht2.mt] at e; cases e
      rw [fr02 x o e0 z1 z2] at e; cases e
  have kn2 : KnAt K H2 (put a.tb l q) (put g.known l (ts.tell ans)) ∧ ((q.1 ∈ tbA a.tb ∧ q.2.2 ∈ tbA a.tb) ∨ (H q.1 = none ∧ H q.2.2 = none)) ∧ (∀ x ∈ tbA (put a.tb l q), x ∈ tbA a.tb ∨ x = q.1 ∨ x = q.2.2) := by
    rcases hc with ⟨c1, c2⟩ | ⟨c1, c2, c3, c4⟩
    · rw [put_same h.kn.tbk c1]
      exact ⟨h1.kn.old c1 c2 ht2 fr2, .inl (tbA_mem (look_mem c1)), fun x hx => .inl hx⟩
    · refine ⟨?_, .inr ⟨c3, c4⟩, fun x hx => ?_⟩
      · rw [put_new c1, put_new c2]
        exact h.kn.fresh c2 ht2 fr02 c3 c4
      · rw [tbA_put c1] at hx
        rcases List.mem_append.mp hx with z | z
        · exact .inl z
        · have : x = q.1 ∨ x = q.2.2 := by simpa using z
          exact .inr this
  obtain ⟨kn2, hq2, sub2⟩ := kn2
  have kp2 : Keep H H2 := by
    have ne : ∀ x u, H x = some u → (∀ C d f, u ≠ .ins C d f) → (∀ z, u ≠ .dK z) → x ≠ q.1 ∧ x ≠ q.2.2 := fun x u e i1 i2 => by
      have e' := e1 x u e
      refine ⟨fun z => ?_, fun z => ?_⟩
      · rw [z, hq.ob] at e'; exact i1 _ _ _ (Option.some.inj e').symm
      · rw [z, hq.mt] at e'; exact i2 _ (Option.some.inj e').symm
    refine ⟨fun x xs e => ?_, fun x o u e => ?_⟩
    · obtain ⟨n1, n2⟩ := ne x _ e (fun _ _ _ z => (nomatch z)) (fun _ z => (nomatch z))
      exact fr02 x _ e n1 n2
    · obtain ⟨n1, n2⟩ := ne x _ e (fun _ _ _ z => (nomatch z)) (fun _ z => (nomatch z))
      exact fr02 x _ e n1 n2
  obtain ⟨cs2, h3, f3⟩ := gt_tallied (n := g.cnt + 1) h kn2 fr02 old2 hq2 sub2 kp2 (Nat.le_succ _)
  have tbl : a.tb.length = g.known.length := pk_len h.kn.at_
  have kl := W.kl
  have ct := W.ct
  have hb2 := kp2.tup _ _ hb
  have hb2' : H2 b = some (.tup ((lk l).map kV)) := by rw [lk_kV]; exact hb2
  refine ⟨_, rfl, _, rfl, _, _, _, _, _, rfl, cs2.at 0 rfl, T.c_Gate, T.n_Gate_known, rfl, _, rfl, a.known, _, rfl, DPut.t (cs2.at 12 rfl) hb2' (by rw [show (knownK a.tb).length = a.tb.length from List.length_map _, sizeLine_eq]; omega), ?_⟩
  rw [known_put]
  have eg : ({ g with known := put g.known l (ts.tell ans), cnt := g.cnt + 1 } : GS) = g.answered l ans := by unfold GS.answered; rw [hts]
  rw [eg] at h3
  have W3 := W.answered hN l ans
  have bb : a.gr.length + 1 ≤ (g.answered l ans).cnt ∧ a.en.length + 1 ≤ (g.answered l ans).cnt := ⟨Nat.succ_le_succ h.r.gr, Nat.succ_le_succ h.r.en⟩
  have hb3 := f3.keep.tup _ _ hb
  generalize upd H2 a.known (.dT (knownK (put a.tb l q))) = H3 at h3 f3 hb3 ⊢
  obtain ⟨a3, ea3⟩ : ∃ a3 : GA, a3 = { a with tb := put a.tb l q } := ⟨_, rfl⟩
  rw [← ea3] at h3 f3
  have ep3 : a3.p = a.p := by rw [ea3]
  have bb3 : a3.gr.length + 1 ≤ (g.answered l ans).cnt ∧ a3.en.length + 1 ≤ (g.answered l ans).cnt := by rw [ea3]; exact bb
  rw [← ep3]
  refine ⟨_, rfl, _, _, _, _, _, rfl, (h3).ob, T.c_Gate, T.n_Gate_tolls, rfl, _, _, 2, _, rfl, rfl, sq_of h3.tolls, tl_at (j := 2) h3.r.tl (by decide), _, _, rfl, rfl, a3.tolls, _, 2, 2, rfl, rfl, h3.tolls, tl_ix (j := 2) h3.r.tl (by decide), ?_⟩
  obtain ⟨h4, f4⟩ := h3.toll 2 (a3.tl.getD 2 0 + 1)
  have hb4 := f4.keep.tup _ _ hb3
  generalize upd H3 a3.tolls (.lst ((a3.tl.map V.int).set 2 (.int (a3.tl.getD 2 0 + 1)))) = H4 at h4 f4 hb4 ⊢
  have f4' : Fr (foot a) (foot { a3 with tl := a3.tl.set 2 (a3.tl.getD 2 0 + 1) }) H H4 := f3.trans f4
  obtain ⟨a4, ea4⟩ : ∃ a4 : GA, a4 = { a3 with tl := a3.tl.set 2 (a3.tl.getD 2 0 + 1) } := ⟨_, rfl⟩
  rw [← ea4] at h4 f4'
  have ep4 : a4.p = a3.p := by rw [ea4]
  have bb4 : a4.gr.length + 1 ≤ (g.answered l ans).cnt ∧ a4.en.length + 1 ≤ (g.answered l ans).cnt := by rw [ea4]; exact bb3
  rw [← ep4]
  obtain ⟨kk, kk1, kk2, kk3⟩ := A.1 l ha
  have W5 : WF (N + 1) ((g.answered l ans).ended l (ts.tell ans).last) := by
    cases (ts.tell ans).last with
    | none => exact W3
    | some z => exact W3.endLook (k := kk) kk3 kk2 z
  refine ⟨fun σ' H' => ∃ a5, a5.p = a4.p ∧ σ' = [some (.ref a4.p), some (.ref b), some (.str (aS ans)), some (.ref q.1), some (.str (wS (ts.tell ans).last))] ∧ GtAt K H' a5 ((g.answered l ans).ended l (ts.tell ans).last) ∧ Fr (foot a) (foot a5) H H', ?_, ?_⟩
  · refine ⟨_, rfl, rfl, _, rfl, ?_⟩
    rw [wS_more]
    cases el : (ts.tell ans).last with
    | none => exact iteF ⟨a4, rfl, rfl, h4, f4'⟩
    | some z =>
      refine iteT ?_
      refine ⟨_, rfl, _, _, _, rfl, (h4).ob, rfl, _, rfl, _, rfl, a4, _, N + 1, b, l, z, kk, rfl, h4, W3, hb4, kk3, kk2, bb4.1, bb4.2, fun a5 H5 ep5 h5 f5 => ?_⟩
      exact ⟨a5, ep5, rfl, h5, f4'.trans f5⟩
  · rintro σ' H5 ⟨a5, ep5, rfl, h5, f5⟩
    rw [← ep5]
    refine ⟨_, rfl, _, _, _, rfl, (h5).ob, rfl, a5, _, N + 1, rfl, h5, W5, fun a6 H6 ep6 h6 f6 => ?_⟩
    exact ⟨_, rfl, k3 a6 H6 (ep6.trans (ep5.trans (ep4.trans ep3))) h6 (f5.trans f6)⟩
end LG

set_option Elab.async false
set_option linter.all false
set_option maxRecDepth 100000
set_option maxHeartbeats 4000000
namespace LG
open PySem PySem.Spec L2 Evl
open PyProof.Rows hiding St
variable {P : Program} {w : World} {K : PySem.W.Frag} {mg : Str → Option Value} {base : Heap}

def sp_Gate_line (K : PySem.W.Frag) : Sp := fun vs H Q _ => ∃ a g, vs = [.ref a.p] ∧ GtAt K H a g ∧ ∀ p H', H p = none → Ex H H' → H' p = some (.lst (g.top.map V.int)) → Q (.ref p) H'
abbrev N_Gate_line : List Str := ["self"]
theorem sc_Gate_line : FnScope N_Gate_line ["self"] (defScope s_Gate_line) := ⟨rfl, rfl, rfl, by decide +kernel, rfl, by decide +kernel, by decide +kernel⟩
-- slots: 0:self
theorem ok_Gate_line (T : Tx K mg) : Ok P w K mg base 1 ("Gate", some "line") ["self"] (sp_Gate_line K) := by
  refine T.ok 40 rfl (N := N_Gate_line) rfl rfl sc_Gate_line (fun vs H Q E h => ?_) (fun _ _ _ _ _ _ us hl => match us, hl with | [_], _ => rfl) (fun cdv A outer s H vs Q E hr h => ?_)
  · obtain ⟨_, _, rfl, _⟩ := h
    rfl
  have hu := hu_of hr
  obtain ⟨a, g, rfl, h, k⟩ := h
  refine ⟨_, (pss_one (ps_ret (pe_callTy (klist K) (by rfl) T.b_list (by decide +kernel) (pa_cons (kfld K (pv 0)) pa_nil)))), ?_⟩
  exact ⟨_, rfl, _, _, _, _, _, rfl, (h).ob, T.c_Gate, T.n_Gate_top, rfl, rd_listI (.inl (sq_of h.top)) k⟩
def sp_Gate_laid (K : PySem.W.Frag) : Sp := fun vs H Q _ => ∃ a g, vs = [.ref a.p] ∧ GtAt K H a g ∧ ∀ p H', H p = none → Ex H H' → H' p = some (.lst (g.upon.map V.int)) → Q (.ref p) H'
abbrev N_Gate_laid : List Str := ["self"]
theorem sc_Gate_laid : FnScope N_Gate_laid ["self"] (defScope s_Gate_laid) := ⟨rfl, rfl, rfl, by decide +kernel, rfl, by decide +kernel, by decide +kernel⟩
-- slots: 0:self
theorem ok_Gate_laid (T : Tx K mg) : Ok P w K mg base 1 ("Gate", some "laid") ["self"] (sp_Gate_laid K) := by
  refine T.ok 41 rfl (N := N_Gate_laid) rfl rfl sc_Gate_laid (fun vs H Q E h => ?_) (fun _ _ _ _ _ _ us hl => match us, hl with | [_], _ => rfl) (fun cdv A outer s H vs Q E hr h => ?_)
  · obtain ⟨_, _, rfl, _⟩ := h
    rfl
  have hu := hu_of hr
  obtain ⟨a, g, rfl, h, k⟩ := h
  refine ⟨_, (pss_one (ps_ret (pe_callTy (klist K) (by rfl) T.b_list (by decide +kernel) (pa_cons (kfld K (pv 0)) pa_nil)))), ?_⟩
  exact ⟨_, rfl, _, _, _, _, _, rfl, (h).ob, T.c_Gate, T.n_Gate_upon, rfl, rd_listI (.inl (sq_of h.upon)) k⟩
def sp_Gate_waiting (K : PySem.W.Frag) : Sp := fun vs H Q _ => ∃ a g, vs = [.ref a.p] ∧ GtAt K H a g ∧ ∀ p H', H p = none → Ex H H' → H' p = some (.lst (g.queue.map V.int)) → Q (.ref p) H'
abbrev N_Gate_waiting : List Str := ["self"]
theorem sc_Gate_waiting : FnScope N_Gate_waiting ["self"] (defScope s_Gate_waiting) := ⟨rfl, rfl, rfl, by decide +kernel, rfl, by decide +kernel, by decide +kernel⟩
-- slots: 0:self
theorem ok_Gate_waiting (T : Tx K mg) : Ok P w K mg base 1 ("Gate", some "waiting") ["self"] (sp_Gate_waiting K) := by
  refine T.ok 42 rfl (N := N_Gate_waiting) rfl rfl sc_Gate_waiting (fun vs H Q E h => ?_) (fun _ _ _ _ _ _ us hl => match us, hl with | [_], _ => rfl) (fun cdv A outer s H vs Q E hr h => ?_)
  · obtain ⟨_, _, rfl, _⟩ := h
    rfl
  have hu := hu_of hr
  obtain ⟨a, g, rfl, h, k⟩ := h
  refine ⟨_, (pss_one (ps_ret (pe_callTy (klist K) (by rfl) T.b_list (by decide +kernel) (pa_cons (kfld K (pv 0)) pa_nil)))), ?_⟩
  exact ⟨_, rfl, _, _, _, _, _, rfl, (h).ob, T.c_Gate, T.n_Gate_queue, rfl, rd_listI (.inl (sq_of h.queue)) k⟩
def sp_Gate_wanted (K : PySem.W.Frag) : Sp := fun vs H Q _ => ∃ a g, vs = [.ref a.p] ∧ GtAt K H a g ∧ ∀ p ys H', H p = none → Ex H H' → H' p = some (.lst ys) → DpAll K H' ys (g.asked.map dInts) → Q (.ref p) H'
abbrev N_Gate_wanted : List Str := ["self"]
theorem sc_Gate_wanted : FnScope N_Gate_wanted ["self"] (defScope s_Gate_wanted) := ⟨rfl, rfl, rfl, by decide +kernel, rfl, by decide +kernel, by decide +kernel⟩
-- slots: 0:self
theorem ok_Gate_wanted (T : Tx K mg) : Ok P w K mg base 1 ("Gate", some "wanted") ["self"] (sp_Gate_wanted K) := by
  refine T.ok 44 rfl (N := N_Gate_wanted) rfl rfl sc_Gate_wanted (fun vs H Q E h => ?_) (fun _ _ _ _ _ _ us hl => match us, hl with | [_], _ => rfl) (fun cdv A outer s H vs Q E hr h => ?_)
  · obtain ⟨_, _, rfl, _⟩ := h
    rfl
  have hu := hu_of hr
  obtain ⟨a, g, rfl, h, k⟩ := h
  refine ⟨_, (pss_one (ps_ret (pe_callTy (klist K) (by rfl) T.b_list (by decide +kernel) (pa_cons (kfld K (pv 0)) pa_nil)))), ?_⟩
  exact ⟨_, rfl, _, _, _, _, _, rfl, (h).ob, T.c_Gate, T.n_Gate_asked, rfl, rd_list (.inl h.dpAsked) k⟩
def sp_Gate_stopped (K : PySem.W.Frag) : Sp := fun vs H Q _ => ∃ a g, vs = [.ref a.p] ∧ GtAt K H a g ∧ Q (.bl g.halted) H
abbrev N_Gate_stopped : List Str := ["self"]
theorem sc_Gate_stopped : FnScope N_Gate_stopped ["self"] (defScope s_Gate_stopped) := ⟨rfl, rfl, rfl, by decide +kernel, rfl, by decide +kernel, by decide +kernel⟩
-- slots: 0:self
theorem ok_Gate_stopped (T : Tx K mg) : Ok P w K mg base 1 ("Gate", some "stopped") ["self"] (sp_Gate_stopped K) := by
  refine T.ok 45 rfl (N := N_Gate_stopped) rfl rfl sc_Gate_stopped (fun vs H Q E h => ?_) (fun _ _ _ _ _ _ us hl => match us, hl with | [_], _ => rfl) (fun cdv A outer s H vs Q E hr h => ?_)
  · obtain ⟨_, _, rfl, _⟩ := h
    rfl
  have hu := hu_of hr
  obtain ⟨a, g, rfl, h, k⟩ := h
  refine ⟨_, (pss_one (ps_ret (kfld K (pv 0)))), ?_⟩
  exact ⟨_, rfl, _, _, _, _, _, rfl, (h).ob, T.c_Gate, T.n_Gate_halted, rfl, k⟩
/-- one that is out, and why -/
def dOut (g : GS) (n : Int) : PyData := .tuple [.int n, dGround ((look g.gone n).getD .withdrawn)]
theorem nl_out (g : GS) (n : Int) : noList (dOut g n) = true := by
  show (true && (noList (dGround _) && true)) = true
  rw [nl_ground]; rfl
def sp_Gate_outs (K : PySem.W.Frag) : Sp := fun vs H Q _ => ∃ a g, vs = [.ref a.p] ∧ GtAt K H a g ∧ Sm g ∧ ∀ p ys H', H p = none → Ex H H' → H' p = some (.lst ys) → DpAll K H' ys ((isort g.keys).map (dOut g)) → Q (.ref p) H'
abbrev N_Gate_outs : List Str := ["self", "number"]
theorem sc_Gate_outs : FnScope N_Gate_outs ["self"] (defScope s_Gate_outs) := ⟨rfl, rfl, rfl, by decide +kernel, rfl, by decide +kernel, by decide +kernel⟩
-- slots: 0:self 1:number
theorem ok_Gate_outs (T : Tx K mg) : Ok P w K mg base 1 ("Gate", some "outs") ["self"] (sp_Gate_outs K) := by
  refine T.ok 43 rfl (N := N_Gate_outs) rfl rfl sc_Gate_outs (fun vs H Q E h => ?_) (fun _ _ _ _ _ _ us hl => match us, hl with | [_], _ => rfl) (fun cdv A outer s H vs Q E hr h => ?_)
  · obtain ⟨_, _, rfl, _⟩ := h
    rfl
  have hu := hu_of hr
  obtain ⟨a, g, rfl, h, sm, k⟩ := h
  refine ⟨_, (pss_one (ps_ret (pe_lc (own := [("number", 1)]) (tt := tYes) (by rfl) sc_Gate_outs.nd (kseq K (pe_callB (call_sortedDI rfl) (by rfl) T.b_sorted (by decide +kernel) (pa_cons (kfld K (pv 0)) pa_nil))) (blkOk_by (N := N_Gate_outs) (sc := defScope s_Gate_outs) (by decide +kernel)) (fun _ _ _ _ _ => (pg_name (i := 1) sc_Gate_outs.nd rfl (by first | exact Or.inl rfl | exact Or.inr rfl))) (fun _ _ _ _ _ => pts_nil) (fun _ _ _ _ _ => (pe_tup (pa_cons (pv 1) (pa_cons (pe_dget hu (kfld K (pv 0)) (pv 1) (fun _ _ => rfl)) pa_nil))))))), ?_⟩
  have l := sm.len
  have kk : a.gv.map (·.1) = g.keys := pk_keys h.r.gone
  have kl : g.keys.length = g.gone.length := List.length_map _
  refine ⟨_, rfl, _, _, _, _, _, rfl, (h).ob, T.c_Gate, T.n_Gate_gone, rfl, a.gone, goneK a.gv, g.keys, rfl, .inl h.gone, by rw [← kk]; unfold goneK; rw [List.map_map, List.map_map]; rfl, by omega, fun ys p hp hs np => ?_⟩
  rw [isort_one hp hs]
  have e1 : Ex H (upd H p (.lst ((isort g.keys).map V.int))) := Ex.new np
  refine lc_y (K := K) ((isort g.keys).map V.int) (isort g.keys) (dOut g) (by rw [List.length_map]) (by rw [isort_length]; omega) (.inl (sq_of upd_same)) (nl_out g) ?_ ?_
  · intro n v H2 Yes e2 hn i hv hi yes
    rw [List.getElem?_map, hi] at hv
    cases hv
    have h2 := h.ex (e1.trans e2)
    have hk : n ∈ g.keys := (isort_perm _).mem_iff.mp hn
    rcases pk_look (k := n) h2.r.gone with ⟨z1, z2⟩ | ⟨v, r, z1, z2, z3⟩
    · exfalso
      have := isGone_iff.mpr hk
      unfold GS.isGone at this
      rw [z2] at this
      cases this
    · refine ⟨rfl, _, rfl, _, rfl, _, _, _, _, _, rfl, (h2).ob, T.c_Gate, T.n_Gate_gone, rfl, _, rfl, a.gone, v, rfl, (by have := h2.dgGone n; rw [z1] at this; exact this), by show 2 ≤ sizeLine; decide, fun t nt => ?_⟩
      refine yes _ _ (Ex.new nt) (.tup (st_of upd_same) (.cons (.int _) (.cons ?_ .nil)))
      rw [z2]
      exact dp_ex (Ex.new nt) z3
  · intro L ys H2 nL e2 hL hp
    exact k L ys H2 (fresh_back e1 nL) (e1.trans e2) hL hp
def sp_Gate_changes (K : PySem.W.Frag) : Sp := fun vs H Q _ => ∃ a g N, vs = [.ref a.p] ∧ GtAt K H a g ∧ WF N g ∧ ∀ c ca H', Ex H H' → ChAt K H' c ca g.chs → Q (.ref c) H'
abbrev N_Gate_changes : List Str := ["self", "found", "number"]
theorem sc_Gate_changes : FnScope N_Gate_changes ["self"] (defScope s_Gate_changes) := ⟨rfl, rfl, rfl, by decide +kernel, rfl, by decide +kernel, by decide +kernel⟩
-- slots: 0:self 1:found 2:number
theorem ok_Gate_changes (T : Tx K mg) : Ok P w K mg base 4 ("Gate", some "changes") ["self"] (sp_Gate_changes K) := by
  refine T.ok 47 rfl (N := N_Gate_changes) rfl rfl sc_Gate_changes (fun vs H Q E h => ?_) (fun _ _ _ _ _ _ us hl => match us, hl with | [_], _ => rfl) (fun cdv A outer s H vs Q E hr h => ?_)
  · obtain ⟨_, _, _, rfl, _⟩ := h
    rfl
  have hu := hu_of hr
  obtain ⟨a, g, N, rfl, h, W, k⟩ := h
  refine ⟨_, (pss_cons (ps_set (i := 1) sc_Gate_changes.nd rfl (by first | exact Or.inl rfl | exact Or.inr rfl) (pe_n0 (ok_Changes_init T) T.k_Changes hr T.g_Changes passL))
 (pss_cons (ps_for (passes_of rfl) rfl (pi_range2 (by rfl) T.b_range (pa_cons pe_int (pa_cons (pe_op op_add (pe_m0 (kfld K (pv 0)) (ok_Changes_many T) T.c_Changes T.m_Changes_many hr passL) pe_int) pa_nil))) (pg_name (i := 2) sc_Gate_changes.nd rfl (by first | exact Or.inl rfl | exact Or.inr rfl))
  (pss_one (ps_expr (pe_m (pv 1) (ok_Changes_added T) T.c_Changes T.m_Changes_added hr passL (pa_cons (pe_m (kfld K (pv 0)) (ok_Changes_rank_of T) T.c_Changes T.m_Changes_rank_of hr passL (pa_cons (pv 2) pa_nil)) (pa_cons (pe_m (kfld K (pv 0)) (ok_Changes_leans_of T) T.c_Changes T.m_Changes_leans_of hr passL (pa_cons (pv 2) pa_nil)) (pa_cons (pe_m (kfld K (pv 0)) (ok_Changes_edits_of T) T.c_Changes T.m_Changes_edits_of hr passL (pa_cons (pv 2) pa_nil)) pa_nil)))))))
 (pss_one (ps_ret (pv 1))))), ?_⟩
  have few := W.few
  have hN := W.hN
  intro c dx nc nd ndc
  refine ⟨c, dx, rfl, upd_same, fun H1 ca edx hc fr n1 n2 n3 => ⟨rfl, ?_⟩⟩
  have up : ∀ {x : Addr}, upd (upd H dx (.own c)) c (.ins (He.ga K "Changes") dx []) x = none → H x = none := fun {x} n => by
    by_cases z1 : x = c
    · rw [z1, upd_same] at n; cases n
    rw [upd_ne z1] at n
    by_cases z2 : x = dx
    · rw [z2, upd_same] at n; cases n
    rwa [upd_ne z2] at n
  replace n1 := up n1
  replace n2 := up n2
  replace n3 := up n3
  have e1 : Ex H H1 := fun x o e => by
    have z1 : x ≠ c := fun z => by rw [z, nc] at e; cases e
    have z2 : x ≠ dx := fun z => by rw [z, nd] at e; cases e
    exact fr x o (by rw [upd_ne z1, upd_ne z2]; exact e) z1
  have h1 := h.ex e1
  refine ⟨_, rfl, _, _, _, _, _, rfl, (h1).ob, T.c_Gate, T.n_Gate_store, rfl, _, _, _, rfl, (h1).cob, rfl, a.st, a.ca, g.chs, rfl, h1.chs, _, _, rfl, rfl, 1, (g.chs.length : Int) + 1, rfl, by omega, ?_⟩
  have el : ((g.chs.length : Int) + 1 - 1).toNat = g.chs.length := by omega
  rw [el]
  refine for_range (fun i σ' H' => ∃ ca' v2, σ' = [some (.ref a.p), some (.ref c), v2] ∧ Ex H H' ∧ ChAt K H' c ca' (g.chs.take i) ∧ H ca'.rk = none ∧ H ca'.ln = none ∧ H ca'.ed = none) ⟨ca, none, rfl, e1, hc, n1, n2, n3⟩ ?_ ?_
  · rintro i σ' H2 hi ⟨ca', v2, rfl, e2, hc2, m1, m2, m3⟩
    have h2 := h.ex e2
    have on : okN g.chs (1 + (i : Int)) := ⟨by omega, by omega⟩
    have ec : getC g.chs (1 + (i : Int)) = g.chs[i] := by
      unfold getC
      rw [show ((1 : Int) + (i : Int) - 1).toNat = i by omega, List.getD_eq_getElem?_getD, List.getElem?_eq_getElem hi]
      rfl
    have hz := getC_sm W.sm (1 + (i : Int))
    rw [ec] at hz
    have tl : (g.chs.take i).length = i := by rw [List.length_take]; omega
    have hv : validC (g.chs.take i).length g.chs[i] = true := by rw [tl]; exact W.vc i _ (List.getElem?_eq_getElem hi)
    refine ⟨_, rfl, c, _, _, rfl, hc2.ob, rfl, ?_⟩
    refine ⟨_, rfl, _, _, _, _, _, rfl, (h2).ob, T.c_Gate, T.n_Gate_store, rfl, _, _, _, rfl, (h2).cob, rfl, _, rfl, a.st, a.ca, g.chs, _, rfl, h2.chs, on.1, on.2, ?_⟩
    refine ⟨_, rfl, _, _, _, _, _, rfl, (h2).ob, T.c_Gate, T.n_Gate_store, rfl, _, _, _, rfl, (h2).cob, rfl, _, rfl, a.st, a.ca, g.chs, _, rfl, h2.chs, on.1, on.2, fun p H3 np e3 hp => ?_⟩
    have h3 := h2.ex e3
    refine ⟨_, rfl, _, _, _, _, _, rfl, (h3).ob, T.c_Gate, T.n_Gate_store, rfl, _, _, _, rfl, (h3).cob, rfl, _, rfl, a.st, a.ca, g.chs, _, rfl, h3.chs, on.1, on.2, fun q qs H4 nq e4 hq hqs => ?_⟩
    rw [ec] at hp hqs ⊢
    have c4 := (hc2.ex e3).ex e4
    have pn : p ≠ ca'.rk ∧ p ≠ ca'.ln ∧ p ≠ ca'.ed := ⟨fun z => (by rw [z, hc2.rk] at np; cases np), fun z => (by rw [z, hc2.ln] at np; cases np), fun z => (by rw [z, hc2.ed] at np; cases np)⟩
    have c3 := hc2.ex e3
    have qn : q ≠ ca'.rk ∧ q ≠ ca'.ln ∧ q ≠ ca'.ed := ⟨fun z => (by rw [z, c3.rk] at nq; cases nq), fun z => (by rw [z, c3.ln] at nq; cases nq), fun z => (by rw [z, c3.ed] at nq; cases nq)⟩
    refine ⟨c, ca', g.chs.take i, .ref p, .ref q, g.chs[i], rfl, c4, by omega, by omega, by rw [tl]; omega, fun H5 o => .inl (.lst (sq_of (o _ _ (e4 _ _ hp) pn.1 pn.2.1 pn.2.2)) (dpa_of_ints _)), fun H5 o => .inl (.lst (sq_of (o _ _ hq qn.1 qn.2.1 qn.2.2)) (dpa_keep (c4.keep o) (nl_map (fun _ => rfl) _) hqs)), fun z => absurd z (by rw [hv]; decide), fun _ z => absurd z (by rw [tl]; omega), fun _ _ H5 lv ev c5 o5 => ?_⟩
    refine ⟨{ ca' with lv := lv, ev := ev }, _, rfl, fun x o e => ?_, ?_, m1, m2, m3⟩
    · exact o5 x o (e4 _ _ (e3 _ _ (e2 _ _ e))) (fun z => by rw [z, m1] at e; cases e) (fun z => by rw [z, m2] at e; cases e) (fun z => by rw [z, m3] at e; cases e)
    · rw [List.take_succ_eq_append_getElem hi]
      exact c5
  · rintro σ' H2 ⟨ca', v2, rfl, e2, hc2, m1, m2, m3⟩
    rw [List.take_length] at hc2
    exact ⟨_, rfl, k c ca' H2 e2 hc2⟩
end LG

set_option Elab.async false
set_option linter.all false
set_option maxRecDepth 100000
set_option maxHeartbeats 4000000
namespace LG
open PySem PySem.Spec L2 Evl
open PyProof.Rows hiding St
variable {P : Program} {w : World} {K : PySem.W.Frag} {mg : Str → Option Value} {base : Heap}

theorem Holds.sub {H : Hp} {cs ds : List Cell} (h : Holds H cs) (s : ds.Sublist cs) : Holds H ds := ⟨fun c hc => h.get c (s.subset hc), h.nd.sublist (s.map _)⟩
/-- an object being built -/
structure Bld (C : Addr) (H0 H : Hp) (p dx : Addr) (fs : List (Str × V)) (cs : List Cell) : Prop where
  hd : Holds H ((p, .ins C dx fs) :: cs)
  fr : ∀ b u, H0 b = some u → b ≠ p → H b = some u
  nw : ∀ c ∈ cs, H0 c.1 = none
section
variable {C p dx : Addr} {H0 H H1 : Hp} {fs fs' : List (Str × V)} {cs : List Cell} {q : Addr} {o : HO}
theorem Bld.ob (B : Bld C H0 H p dx fs cs) : H p = some (.ins C dx fs) := B.hd.at 0 rfl
theorem Bld.back (B : Bld C H0 H p dx fs cs) {x : Addr} (n : H x = none) : H0 x = none := by
  cases e : H0 x with
  | none => rfl
  | some u =>
    exfalso
    by_cases z : x = p
    · rw [z, B.ob] at n; cases n
    · rw [B.fr x u e z] at n; cases n
theorem Bld.new (B : Bld C H0 H p dx fs cs) (nq : H q = none) : upd H q o p = some (.ins C dx fs) := by
  rw [upd_ne fun z => by rw [← z, B.ob] at nq; cases nq]; exact B.ob
theorem Bld.flag (B : Bld C H0 H p dx fs cs) (fs' : List (Str × V)) : Bld C H0 (upd H p (.ins C dx fs')) p dx fs' cs :=
  ⟨B.hd.upd 0 rfl, fun b u e n => by rw [upd_ne n]; exact B.fr b u e n, B.nw⟩
theorem Bld.add (B : Bld C H0 H p dx fs cs) (e : Ex H H1) (ds : List Cell) (hd : Holds H1 ds) (hn : ∀ c ∈ ds, H c.1 = none) (fs' : List (Str × V)) : Bld C H0 (upd H1 p (.ins C dx fs')) p dx fs' (cs ++ ds) := by
  have h1 : Holds H1 (((p, HO.ins C dx fs) :: cs) ++ ds) := (B.hd.ex e).app hd fun b m1 m2 => by
    obtain ⟨c, hc, rfl⟩ := List.mem_map.mp m2
    exact B.hd.mem m1 (hn c hc)
  refine ⟨h1.upd 0 rfl, fun b u eb n => by rw [upd_ne n]; exact e _ _ (B.fr b u eb n), fun c hc => ?_⟩
  rcases List.mem_append.mp hc with z | z
  · exact B.nw c z
  · exact B.back (hn c z)
theorem Bld.step (B : Bld C H0 H p dx fs cs) (nq : H q = none) (fs' : List (Str × V)) : Bld C H0 (upd (upd H q o) p (.ins C dx fs')) p dx fs' (cs ++ [(q, o)]) :=
  B.add (Ex.new nq) [(q, o)] ⟨fun c hc => by rw [List.mem_singleton.mp hc]; exact upd_same, by simp⟩ (fun c hc => by rw [List.mem_singleton.mp hc]; exact nq) fs'
end
theorem holds_ch {H : Hp} {c : Addr} {ca : ChA} (h : ChAt K H c ca []) : Holds H [(c, .ins (He.ga K "Changes") ca.dx (chF ca.rk ca.ln ca.ed)), (ca.rk, .lst []), (ca.ln, .lst []), (ca.ed, .lst [])] ∧ ca.lv = [] ∧ ca.ev = [] := by
  have e1 : ca.lv = [] := List.length_eq_zero_iff.mp h.lv.len
  have e2 : ca.ev = [] := List.length_eq_zero_iff.mp h.ev.len
  refine ⟨⟨fun x hx => ?_, h.nd⟩, e1, e2⟩
  simp only [List.mem_cons, List.not_mem_nil, or_false] at hx
  rcases hx with rfl | rfl | rfl | rfl
  · exact h.ob
  · exact h.rk
  · have := h.ln; rw [e1] at this; exact this
  · have := h.ed; rw [e2] at this; exact this
/-- the house's numbers -/
structure HouseOk (width hands need tries : Int) : Prop where
  w1 : 1 ≤ width
  w2 : width ≤ 16
  h1 : 1 ≤ hands
  h2 : hands ≤ 8
  n1 : 1 ≤ need
  n2 : need ≤ tries
  n3 : tries ≤ 20
def sp_Gate_init (K : PySem.W.Frag) : Sp := fun vs H Q _ => ∃ p dx width hands need tries, vs = [.ref p, .int width, .int hands, .int need, .int tries] ∧ H p = some (.ins (He.ga K "Gate") dx []) ∧ HouseOk width hands need tries ∧
  ∀ a H', a.p = p → GtAt K H' a (GS.new width hands need tries) → (∀ b o, H b = some o → b ≠ p → H' b = some o) → (∀ b ∈ foot a, b = p ∨ H b = none) → Q .non H'
abbrev N_Gate_init : List Str := ["self", "width", "hands", "need", "tries"]
theorem sc_Gate_init : FnScope N_Gate_init ["self", "width", "hands", "need", "tries"] (defScope s_Gate_init) := ⟨rfl, rfl, rfl, by decide +kernel, rfl, by decide +kernel, by decide +kernel⟩
-- slots: 0:self 1:width 2:hands 3:need 4:tries
theorem ok_Gate_init (T : Tx K mg) : Ok P w K mg base 3 ("Gate", some "__init__") ["self", "width", "hands", "need", "tries"] (sp_Gate_init K) := by
  refine T.ok 23 rfl (N := N_Gate_init) rfl rfl sc_Gate_init (fun vs H Q E h => ?_) (fun _ _ _ _ _ _ us hl => match us, hl with | [_, _, _, _, _], _ => rfl) (fun cdv A outer s H vs Q E hr h => ?_)
  · obtain ⟨_, _, _, _, _, _, rfl, _⟩ := h
    rfl
  have hu := hu_of hr
  obtain ⟨p, dx, width, hands, need, tries, rfl, hp, hk, k⟩ := h
  refine ⟨_, (pss_cons (ps_if (PW.pt (pw_or (pt_not (pt_chain op_le op_le pe_int (pv 1) pe_int)) (pw_or1 (pt_not (pt_chain op_le op_le pe_int (pv 2) pe_int))))) (pss_one (ps_rz T.x_NoRule T.g_NoRule (takes_of rfl rfl rfl rfl))) pss_nil)
 (pss_cons (ps_expr (pe_n (ok_Tally_init T) T.k_Tally hr T.g_Tally passL (pa_cons (pv 3) (pa_cons (pv 4) pa_nil))))
 (pss_cons (ksfld K (pv 0) (pe_tup (pa_cons (pv 1) (pa_cons (pv 2) (pa_cons (pv 3) (pa_cons (pv 4) pa_nil))))))
 (pss_cons (ksfld K (pv 0) (pe_n0 (ok_Changes_init T) T.k_Changes hr T.g_Changes passL))
 (pss_cons (ksfld K (pv 0) (pe_lst pa_nil))
 (pss_cons (ksfld K (pv 0) (pe_lst pa_nil))
 (pss_cons (ksfld K (pv 0) (pe_lst pa_nil))
 (pss_cons (ksfld K (pv 0) pe_dnewK)
 (pss_cons (ksfld K (pv 0) (pe_lst pa_nil))
 (pss_cons (ksfld K (pv 0) pe_bl)
 (pss_cons (ksfld K (pv 0) (pe_lst pa_nil))
 (pss_cons (ksfld K (pv 0) (pe_lst pa_nil))
 (pss_cons (ksfld K (pv 0) pe_dnewT)
 (pss_one (ksfld K (pv 0) (pe_lst (pa_cons pe_int (pa_cons pe_int (pa_cons pe_int (pa_cons pe_int (pa_cons pe_int pa_nil))))))))))))))))))))), ?_⟩
  obtain ⟨w1, w2, h1, h2, n1, n2, n3⟩ := hk
  have rdc : ∀ {i : Nat} {σ : L2.St} {x a b : Int} {Q' : Bool → Hp → Prop}, σ[i]? = some (some (.int x)) → a ≤ x → x ≤ b → Q' false H → tNot (tTest (tChain (rI0 fun i j => V.bl (decide (i ≤ j))) (rI0 fun i j => V.bl (decide (i ≤ j))) (tC (V.int a)) (tVar i) (tC (V.int b)))) σ H Q' := fun {i σ x a b Q'} hx l1 l2 q => by
    refine ⟨_, hx, _, _, rfl, rfl, _, rfl, ?_⟩
    rw [decide_eq_true l1, if_pos rfl]
    refine ⟨_, _, rfl, rfl, _, rfl, ?_⟩
    rw [decide_eq_true l2]
    exact q
  refine if_or false false (fun Q' q => rdc rfl w1 w2 q) (fun _ Q' q => rdc rfl h1 h2 q) (iteF ?_)
  -- the tally
  refine ⟨_, rfl, _, rfl, fun t tdx nt ntd ned => ?_⟩
  refine ⟨t, tdx, need, tries, rfl, upd_same, n1, n2, n3, fun H1 m nm ht fr1 => ⟨rfl, ?_⟩⟩
  have e1 : Ex H H1 := fun x o e => by
    have z1 : x ≠ t := fun z => by rw [z, nt] at e; cases e
    have z2 : x ≠ tdx := fun z => by rw [z, ntd] at e; cases e
    exact fr1 x o (by rw [upd_ne z1, upd_ne z2]; exact e) z1
  have B0 : Bld (He.ga K "Gate") H H1 p dx [] [] := ⟨⟨fun c hc => by rw [List.mem_singleton.mp hc]; exact e1 _ _ hp, by simp⟩, fun b u e _ => e1 b u e, fun c hc => by cases hc⟩
  clear ht fr1 e1
  -- house
  refine ⟨_, rfl, _, rfl, _, rfl, _, rfl, by show 4 ≤ sizeLine; decide, fun ho nho => ?_⟩
  refine ⟨_, rfl, p, _, dx, _, rfl, B0.new nho, T.c_Gate, T.n_Gate_house, by decide, ?_⟩
  have B1 := B0.step (o := .tup [.int width, .int hands, .int need, .int tries]) nho (putF "house" (.ref ho) [])
  clear B0
  generalize upd (upd H1 ho (.tup [.int width, .int hands, .int need, .int tries])) p (.ins (He.ga K "Gate") dx (putF "house" (.ref ho) [])) = H2 at B1 ⊢
  replace B1 : Bld (He.ga K "Gate") H H2 p dx [("house", .ref ho)] _ := B1
  -- store
  intro c cdx nc ncd ncne
  refine ⟨c, cdx, rfl, upd_same, fun H3 ca edx hc fr3 m1 m2 m3 => ⟨rfl, ?_⟩⟩
  have up : ∀ {x : Addr}, upd (upd H2 cdx (.own c)) c (.ins (He.ga K "Changes") cdx []) x = none → H2 x = none := fun {x} n => by
    by_cases z1 : x = c
    · rw [z1, upd_same] at n; cases n
    rw [upd_ne z1] at n
    by_cases z2 : x = cdx
    · rw [z2, upd_same] at n; cases n
    rwa [upd_ne z2] at n
  have e3 : Ex H2 H3 := fun x o e => by
    have z1 : x ≠ c := fun z => by rw [z, nc] at e; cases e
    have z2 : x ≠ cdx := fun z => by rw [z, ncd] at e; cases e
    exact fr3 x o (by rw [upd_ne z1, upd_ne z2]; exact e) z1
  obtain ⟨hch, elv, eev⟩ := holds_ch hc
  refine ⟨_, rfl, p, _, dx, _, rfl, e3 _ _ B1.ob, T.c_Gate, T.n_Gate_store, by show 1 < 1000; decide, ?_⟩
  have B2 := B1.add e3 _ hch (fun x hx => by
    simp only [List.mem_cons, List.not_mem_nil, or_false] at hx
    rcases hx with rfl | rfl | rfl | rfl
    · exact nc
    · exact up m1
    · exact up m2
    · exact up m3) (putF "store" (.ref c) [("house", .ref ho)])
  clear B1 hch hc fr3 e3
  generalize upd H3 p (.ins (He.ga K "Gate") dx (putF "store" (.ref c) [("house", .ref ho)])) = G2 at B2 ⊢
  replace B2 : Bld (He.ga K "Gate") H G2 p dx [("house", .ref ho), ("store", .ref c)] _ := B2
  refine ⟨Nat.zero_le _, fun a_top n_top => ?_⟩
  refine ⟨_, rfl, p, _, dx, _, rfl, B2.new n_top, T.c_Gate, T.n_Gate_top, by show 2 < 1000; decide, ?_⟩
  have B3 := B2.step (o := .lst []) n_top (putF "top" (.ref a_top) [("house", .ref ho), ("store", .ref c)])
  clear B2
  generalize upd (upd G2 a_top (.lst [])) p (.ins (He.ga K "Gate") dx (putF "top" (.ref a_top) [("house", .ref ho), ("store", .ref c)])) = G3 at B3 ⊢
  replace B3 : Bld (He.ga K "Gate") H G3 p dx [("house", .ref ho), ("store", .ref c), ("top", .ref a_top)] _ := B3
  refine ⟨Nat.zero_le _, fun a_upon n_upon => ?_⟩
  refine ⟨_, rfl, p, _, dx, _, rfl, B3.new n_upon, T.c_Gate, T.n_Gate_upon, by show 3 < 1000; decide, ?_⟩
  have B4 := B3.step (o := .lst []) n_upon (putF "upon" (.ref a_upon) [("house", .ref ho), ("store", .ref c), ("top", .ref a_top)])
  clear B3
  generalize upd (upd G3 a_upon (.lst [])) p (.ins (He.ga K "Gate") dx (putF "upon" (.ref a_upon) [("house", .ref ho), ("store", .ref c), ("top", .ref a_top)])) = G4 at B4 ⊢
  replace B4 : Bld (He.ga K "Gate") H G4 p dx [("house", .ref ho), ("store", .ref c), ("top", .ref a_top), ("upon", .ref a_upon)] _ := B4
  refine ⟨Nat.zero_le _, fun a_queue n_queue => ?_⟩
  refine ⟨_, rfl, p, _, dx, _, rfl, B4.new n_queue, T.c_Gate, T.n_Gate_queue, by show 4 < 1000; decide, ?_⟩
  have B5 := B4.step (o := .lst []) n_queue (putF "queue" (.ref a_queue) [("house", .ref ho), ("store", .ref c), ("top", .ref a_top), ("upon", .ref a_upon)])
  clear B4
  generalize upd (upd G4 a_queue (.lst [])) p (.ins (He.ga K "Gate") dx (putF "queue" (.ref a_queue) [("house", .ref ho), ("store", .ref c), ("top", .ref a_top), ("upon", .ref a_upon)])) = G5 at B5 ⊢
  replace B5 : Bld (He.ga K "Gate") H G5 p dx [("house", .ref ho), ("store", .ref c), ("top", .ref a_top), ("upon", .ref a_upon), ("queue", .ref a_queue)] _ := B5
  intro a_gone n_gone
  refine ⟨_, rfl, p, _, dx, _, rfl, B5.new n_gone, T.c_Gate, T.n_Gate_gone, by show 5 < 1000; decide, ?_⟩
  have B6 := B5.step (o := .dK []) n_gone (putF "gone" (.ref a_gone) [("house", .ref ho), ("store", .ref c), ("top", .ref a_top), ("upon", .ref a_upon), ("queue", .ref a_queue)])
  clear B5
  generalize upd (upd G5 a_gone (.dK [])) p (.ins (He.ga K "Gate") dx (putF "gone" (.ref a_gone) [("house", .ref ho), ("store", .ref c), ("top", .ref a_top), ("upon", .ref a_upon), ("queue", .ref a_queue)])) = G6 at B6 ⊢
  replace B6 : Bld (He.ga K "Gate") H G6 p dx [("house", .ref ho), ("store", .ref c), ("top", .ref a_top), ("upon", .ref a_upon), ("queue", .ref a_queue), ("gone", .ref a_gone)] _ := B6
  refine ⟨Nat.zero_le _, fun a_asked n_asked => ?_⟩
  refine ⟨_, rfl, p, _, dx, _, rfl, B6.new n_asked, T.c_Gate, T.n_Gate_asked, by show 6 < 1000; decide, ?_⟩
  have B7 := B6.step (o := .lst []) n_asked (putF "asked" (.ref a_asked) [("house", .ref ho), ("store", .ref c), ("top", .ref a_top), ("upon", .ref a_upon), ("queue", .ref a_queue), ("gone", .ref a_gone)])
  clear B6
  generalize upd (upd G6 a_asked (.lst [])) p (.ins (He.ga K "Gate") dx (putF "asked" (.ref a_asked) [("house", .ref ho), ("store", .ref c), ("top", .ref a_top), ("upon", .ref a_upon), ("queue", .ref a_queue), ("gone", .ref a_gone)])) = G7 at B7 ⊢
  replace B7 : Bld (He.ga K "Gate") H G7 p dx [("house", .ref ho), ("store", .ref c), ("top", .ref a_top), ("upon", .ref a_upon), ("queue", .ref a_queue), ("gone", .ref a_gone), ("asked", .ref a_asked)] _ := B7
  refine ⟨_, rfl, p, _, dx, _, rfl, B7.ob, T.c_Gate, T.n_Gate_halted, by show 7 < 1000; decide, ?_⟩
  have B8 := B7.flag (putF "halted" (.bl false) [("house", .ref ho), ("store", .ref c), ("top", .ref a_top), ("upon", .ref a_upon), ("queue", .ref a_queue), ("gone", .ref a_gone), ("asked", .ref a_asked)])
  clear B7
  generalize upd G7 p (.ins (He.ga K "Gate") dx (putF "halted" (.bl false) [("house", .ref ho), ("store", .ref c), ("top", .ref a_top), ("upon", .ref a_upon), ("queue", .ref a_queue), ("gone", .ref a_gone), ("asked", .ref a_asked)])) = G8 at B8 ⊢
  replace B8 : Bld (He.ga K "Gate") H G8 p dx [("house", .ref ho), ("store", .ref c), ("top", .ref a_top), ("upon", .ref a_upon), ("queue", .ref a_queue), ("gone", .ref a_gone), ("asked", .ref a_asked), ("halted", .bl false)] _ := B8
  refine ⟨Nat.zero_le _, fun a_grown n_grown => ?_⟩
  refine ⟨_, rfl, p, _, dx, _, rfl, B8.new n_grown, T.c_Gate, T.n_Gate_grown, by show 8 < 1000; decide, ?_⟩
  have B9 := B8.step (o := .lst []) n_grown (putF "grown" (.ref a_grown) [("house", .ref ho), ("store", .ref c), ("top", .ref a_top), ("upon", .ref a_upon), ("queue", .ref a_queue), ("gone", .ref a_gone), ("asked", .ref a_asked), ("halted", .bl false)])
  clear B8
  generalize upd (upd G8 a_grown (.lst [])) p (.ins (He.ga K "Gate") dx (putF "grown" (.ref a_grown) [("house", .ref ho), ("store", .ref c), ("top", .ref a_top), ("upon", .ref a_upon), ("queue", .ref a_queue), ("gone", .ref a_gone), ("asked", .ref a_asked), ("halted", .bl false)])) = G9 at B9 ⊢
  replace B9 : Bld (He.ga K "Gate") H G9 p dx [("house", .ref ho), ("store", .ref c), ("top", .ref a_top), ("upon", .ref a_upon), ("queue", .ref a_queue), ("gone", .ref a_gone), ("asked", .ref a_asked), ("halted", .bl false), ("grown", .ref a_grown)] _ := B9
  refine ⟨Nat.zero_le _, fun a_ended n_ended => ?_⟩
  refine ⟨_, rfl, p, _, dx, _, rfl, B9.new n_ended, T.c_Gate, T.n_Gate_ended, by show 9 < 1000; decide, ?_⟩
  have B10 := B9.step (o := .lst []) n_ended (putF "ended" (.ref a_ended) [("house", .ref ho), ("store", .ref c), ("top", .ref a_top), ("upon", .ref a_upon), ("queue", .ref a_queue), ("gone", .ref a_gone), ("asked", .ref a_asked), ("halted", .bl false), ("grown", .ref a_grown)])
  clear B9
  generalize upd (upd G9 a_ended (.lst [])) p (.ins (He.ga K "Gate") dx (putF "ended" (.ref a_ended) [("house", .ref ho), ("store", .ref c), ("top", .ref a_top), ("upon", .ref a_upon), ("queue", .ref a_queue), ("gone", .ref a_gone), ("asked", .ref a_asked), ("halted", .bl false), ("grown", .ref a_grown)])) = G10 at B10 ⊢
  replace B10 : Bld (He.ga K "Gate") H G10 p dx [("house", .ref ho), ("store", .ref c), ("top", .ref a_top), ("upon", .ref a_upon), ("queue", .ref a_queue), ("gone", .ref a_gone), ("asked", .ref a_asked), ("halted", .bl false), ("grown", .ref a_grown), ("ended", .ref a_ended)] _ := B10
  intro a_known n_known
  refine ⟨_, rfl, p, _, dx, _, rfl, B10.new n_known, T.c_Gate, T.n_Gate_known, by show 10 < 1000; decide, ?_⟩
  have B11 := B10.step (o := .dT []) n_known (putF "known" (.ref a_known) [("house", .ref ho), ("store", .ref c), ("top", .ref a_top), ("upon", .ref a_upon), ("queue", .ref a_queue), ("gone", .ref a_gone), ("asked", .ref a_asked), ("halted", .bl false), ("grown", .ref a_grown), ("ended", .ref a_ended)])
  clear B10
  generalize upd (upd G10 a_known (.dT [])) p (.ins (He.ga K "Gate") dx (putF "known" (.ref a_known) [("house", .ref ho), ("store", .ref c), ("top", .ref a_top), ("upon", .ref a_upon), ("queue", .ref a_queue), ("gone", .ref a_gone), ("asked", .ref a_asked), ("halted", .bl false), ("grown", .ref a_grown), ("ended", .ref a_ended)])) = G11 at B11 ⊢
  replace B11 : Bld (He.ga K "Gate") H G11 p dx [("house", .ref ho), ("store", .ref c), ("top", .ref a_top), ("upon", .ref a_upon), ("queue", .ref a_queue), ("gone", .ref a_gone), ("asked", .ref a_asked), ("halted", .bl false), ("grown", .ref a_grown), ("ended", .ref a_ended), ("known", .ref a_known)] _ := B11
  refine ⟨by show 5 ≤ sizeLine; decide, fun a_tolls n_tolls => ?_⟩
  refine ⟨_, rfl, p, _, dx, _, rfl, B11.new n_tolls, T.c_Gate, T.n_Gate_tolls, by show 11 < 1000; decide, ?_⟩
  have B12 := B11.step (o := .lst [.int 0, .int 0, .int 0, .int 0, .int 0]) n_tolls (putF "tolls" (.ref a_tolls) [("house", .ref ho), ("store", .ref c), ("top", .ref a_top), ("upon", .ref a_upon), ("queue", .ref a_queue), ("gone", .ref a_gone), ("asked", .ref a_asked), ("halted", .bl false), ("grown", .ref a_grown), ("ended", .ref a_ended), ("known", .ref a_known)])
  clear B11
  generalize upd (upd G11 a_tolls (.lst [.int 0, .int 0, .int 0, .int 0, .int 0])) p (.ins (He.ga K "Gate") dx (putF "tolls" (.ref a_tolls) [("house", .ref ho), ("store", .ref c), ("top", .ref a_top), ("upon", .ref a_upon), ("queue", .ref a_queue), ("gone", .ref a_gone), ("asked", .ref a_asked), ("halted", .bl false), ("grown", .ref a_grown), ("ended", .ref a_ended), ("known", .ref a_known)])) = G12 at B12 ⊢
  replace B12 : Bld (He.ga K "Gate") H G12 p dx [("house", .ref ho), ("store", .ref c), ("top", .ref a_top), ("upon", .ref a_upon), ("queue", .ref a_queue), ("gone", .ref a_gone), ("asked", .ref a_asked), ("halted", .bl false), ("grown", .ref a_grown), ("ended", .ref a_ended), ("known", .ref a_known), ("tolls", .ref a_tolls)] _ := B12
  obtain ⟨a, ea⟩ : ∃ a : GA, a = { p := p, dx := dx, house := ho, st := c, ca := ca, top := a_top, upon := a_upon, queue := a_queue, gone := a_gone, asked := a_asked, grown := a_grown, ended := a_ended, known := a_known, tolls := a_tolls, gv := [], av := [], gr := [], en := [], tl := [0, 0, 0, 0, 0], tb := [] } := ⟨_, rfl⟩
  have hsub : (cells K a (GS.new width hands need tries)).Sublist ((p, .ins (He.ga K "Gate") dx [("house", .ref ho), ("store", .ref c), ("top", .ref a_top), ("upon", .ref a_upon), ("queue", .ref a_queue), ("gone", .ref a_gone), ("asked", .ref a_asked), ("halted", .bl false), ("grown", .ref a_grown), ("ended", .ref a_ended), ("known", .ref a_known), ("tolls", .ref a_tolls)]) :: ([] ++ [(ho, HO.tup [V.int width, V.int hands, V.int need, V.int tries])] ++ [(c, HO.ins (He.ga K "Changes") ca.dx (chF ca.rk ca.ln ca.ed)), (ca.rk, HO.lst []), (ca.ln, HO.lst []), (ca.ed, HO.lst [])] ++ [(a_top, HO.lst [])] ++ [(a_upon, HO.lst [])] ++ [(a_queue, HO.lst [])] ++ [(a_gone, HO.dK [])] ++ [(a_asked, HO.lst [])] ++ [(a_grown, HO.lst [])] ++ [(a_ended, HO.lst [])] ++ [(a_known, HO.dT [])] ++ [(a_tolls, HO.lst [V.int 0, V.int 0, V.int 0, V.int 0, V.int 0])])) := by
    rw [ea]
    show List.Sublist ((p, _) :: (c, _) :: (ca.rk, _) :: (ca.ln, HO.lst ca.lv) :: (ca.ed, HO.lst ca.ev) :: _) _
    rw [elv, eev]
    exact (List.Sublist.cons _ (List.Sublist.refl _)).cons₂ _
  have fin : GtAt K G12 a (GS.new width hands need tries) := by
    refine ⟨B12.hd.sub hsub, ?_, ?_, ?_⟩
    · rw [ea]
      exact ⟨B12.hd.at 1 rfl, by show DpAll K _ ca.lv []; rw [elv]; exact .nil, by show DpAll K _ ca.ev []; rw [eev]; exact .nil, fun _ h => (by cases h), .nil, .nil, Nat.zero_le _, Nat.zero_le _, rfl⟩
    · rw [ea]
      exact ⟨.nil, .nil, .nil⟩
    · intro b h1 h2
      rw [ea] at h2
      cases h2
  refine k a _ (by rw [ea]) fin B12.fr fun b hb => ?_
  have ft : tbA a.tb = [] := by rw [ea]; rfl
  rw [foot_eq (K := K) a (GS.new width hands need tries), ft, List.append_nil] at hb
  have hb2 := (hsub.map Prod.fst).subset hb
  rcases List.mem_cons.mp hb2 with z | z
  · exact .inl z
  · obtain ⟨cc, hc1, hc2⟩ := List.mem_map.mp z
    exact .inr (by rw [← hc2]; exact B12.nw cc hc1)
end LG

set_option Elab.async false
set_option linter.all false
set_option maxRecDepth 100000
set_option maxHeartbeats 4000000
namespace LG
open PySem PySem.Spec L2 Evl
open PyProof.Rows hiding St
variable {P : Program} {w : World} {K : PySem.W.Frag} {mg : Str → Option Value} {base : Heap}

/-! ### rows -/
def dRow : Row → PyData
  | .ask r ls es => .tuple [.str "ask", .int r, dInts ls, dEdits es]
  | .withdraw n => .tuple [.str "withdraw", .int n]
  | .answer l a => .tuple [.str "answer", dInts l, .str (aS a)]
  | .stop => .tuple [.str "stop"]
  | .go => .tuple [.str "go"]
theorem nl_row (r : Row) : noList (dRow r) = true := by
  cases r with
  | ask r ls es =>
    show (true && (true && (noList (dInts ls) && (noList (dEdits es) && true)))) = true
    rw [nl_ints, nl_edits]; rfl
  | withdraw n => rfl
  | answer l a =>
    show (true && (noList (dInts l) && (true && true))) = true
    rw [nl_ints]; rfl
  | stop => rfl
  | go => rfl
structure RowAt (K : PySem.W.Frag) (H : Hp) (v : V) (r : Row) : Prop where
  dp : Dp K H v (dRow r)
  an : ∀ l a, r = .answer l a → ∃ p b, v = .ref p ∧ H p = some (.tup [.str "answer", .ref b, .str (aS a)]) ∧ H b = some (.tup (l.map V.int))
theorem RowAt.keep {H H' : Hp} {v : V} {r : Row} (h : RowAt K H v r) (k : Keep H H') : RowAt K H' v r :=
  ⟨dp_keep k (nl_row r) h.dp, fun l a e => let ⟨p, b, e1, e2, e3⟩ := h.an l a e; ⟨p, b, e1, k.tup _ _ e2, k.tup _ _ e3⟩⟩
theorem RowAt.of {H : Hp} {v : V} {r : Row} (h : Dp K H v (dRow r)) (n : ∀ l a, r ≠ .answer l a) : RowAt K H v r := ⟨h, fun l a e => absurd e (n l a)⟩
theorem RowAt.ans {H : Hp} {p b : Addr} {l : List Int} {a : Ans} (h : H p = some (.tup [.str "answer", .ref b, .str (aS a)])) (hb : H b = some (.tup (l.map V.int))) : RowAt K H (.ref p) (.answer l a) :=
  ⟨.tup (st_of h) (.cons (.str _) (.cons (dp_look hb) (.cons (.str _) .nil))), fun l' a' e => by cases e; exact ⟨p, b, rfl, h, hb⟩⟩
theorem dsn {a b : Str} (h : a ≠ b) : decide (V.str a = V.str b) = false := decide_eq_false fun z => h (V.str.inj z)
theorem dss {a : Str} : decide (V.str a = V.str a) = true := decide_eq_true rfl
theorem atI_1 {α : Type} (x y : α) (r : List α) : atI (x :: y :: r) 1 = some y := by
  unfold atI
  rw [show (1 : Int) = ((1 : Nat) : Int) from rfl, ixN_nat (by simp)]
  rfl
theorem atI_2 {α : Type} (x y z : α) (r : List α) : atI (x :: y :: z :: r) 2 = some z := by
  unfold atI
  rw [show (2 : Int) = ((2 : Nat) : Int) from rfl, ixN_nat (by simp)]
  rfl
theorem atI_3 {α : Type} (x y z u : α) (r : List α) : atI (x :: y :: z :: u :: r) 3 = some u := by
  unfold atI
  rw [show (3 : Int) = ((3 : Nat) : Int) from rfl, ixN_nat (by simp)]
  rfl
/-- tuple(t) of a tuple -/
theorem rd_tupleS {K : PySem.W.Frag} {H : Hp} {a : Addr} {xs : List V} {Q : VK} (h : SqT K H a xs) (q : Q (.ref a) H) : rTupS K [.ref a] H Q := by
  unfold rTupS
  exact ⟨a, xs, rfl, .inr ⟨h, q⟩⟩
def sp_copied (K : PySem.W.Frag) : Sp := fun vs H Q _ => ∃ v r, vs = [v] ∧ RowAt K H v r ∧ smallR r ∧ ∀ v' H', Ex H H' → RowAt K H' v' r → Q v' H'
abbrev N_copied : List Str := ["row", "slot", "old", "new"]
theorem sc_copied : FnScope N_copied ["row"] (defScope s_copied) := ⟨rfl, rfl, rfl, by decide +kernel, rfl, by decide +kernel, by decide +kernel⟩
-- slots: 0:row 1:slot 2:old 3:new
theorem ok_copied (T : Tx K mg) : Ok P w K mg base 1 ("copied", none) ["row"] (sp_copied K) := by
  refine T.ok 48 rfl (N := N_copied) rfl rfl sc_copied (fun vs H Q E h => ?_) (fun _ _ _ _ _ _ us hl => match us, hl with | [_], _ => rfl) (fun cdv A outer s H vs Q E hr h => ?_)
  · obtain ⟨_, _, rfl, _⟩ := h
    rfl
  have hu := hu_of hr
  obtain ⟨v, r, rfl, h, sm, k⟩ := h
  refine ⟨_, (pss_cons (ps_if (pt_cmpR op_eq (pe_ix (kixt K) (pv 0) pe_int (fun _ _ => rfl)) pe_str (nomark _)) (pss_one (ps_ret (pe_tup (pa_cons pe_str (pa_cons (pe_ix (kixt K) (pv 0) pe_int (fun _ _ => rfl)) (pa_cons (pe_callTy (ktuple K) (by rfl) T.b_tuple (by decide +kernel) (pa_cons (pe_ix (kixt K) (pv 0) pe_int (fun _ _ => rfl)) pa_nil)) (pa_cons (pe_callTy (ktuple K) (by rfl) T.b_tuple (by decide +kernel) (pa_cons (pe_lc (own := [("slot", 1), ("old", 2), ("new", 3)]) (tt := tYes) (by rfl) sc_copied.nd (kseq K (pe_ix (kixt K) (pv 0) pe_int (fun _ _ => rfl))) (blkOk_by (N := N_copied) (sc := defScope s_copied) (by decide +kernel)) (fun _ _ _ _ _ => (ktup K 3 (pgs_cons (pg_name (i := 1) sc_copied.nd rfl (by first | exact Or.inl rfl | exact Or.inr rfl)) (pgs_cons (pg_name (i := 2) sc_copied.nd rfl (by first | exact Or.inl rfl | exact Or.inr rfl)) (pgs_cons (pg_name (i := 3) sc_copied.nd rfl (by first | exact Or.inl rfl | exact Or.inr rfl)) pgs_nil))))) (fun _ _ _ _ _ => pts_nil) (fun _ _ _ _ _ => (pe_tup (pa_cons (pv 1) (pa_cons (pv 2) (pa_cons (pv 3) pa_nil)))))) pa_nil)) pa_nil))))))) pss_nil)
 (pss_cons (ps_if (pt_cmpR op_eq (pe_ix (kixt K) (pv 0) pe_int (fun _ _ => rfl)) pe_str (nomark _)) (pss_one (ps_ret (pe_tup (pa_cons pe_str (pa_cons (pe_callTy (ktuple K) (by rfl) T.b_tuple (by decide +kernel) (pa_cons (pe_ix (kixt K) (pv 0) pe_int (fun _ _ => rfl)) pa_nil)) (pa_cons (pe_ix (kixt K) (pv 0) pe_int (fun _ _ => rfl)) pa_nil)))))) pss_nil)
 (pss_one (ps_ret (pe_callTy (ktuple K) (by rfl) T.b_tuple (by decide +kernel) (pa_cons (pv 0) pa_nil)))))), ?_⟩
  have hd := h.dp
  cases r with
  | ask rk ls es =>
    obtain ⟨p, x0, x1, x2, x3, rfl, st, d0, d1, d2, d3⟩ := dp_tup4 hd
    rw [dp_str d0, dp_int d1] at st
    refine ⟨_, rfl, p, _, 0, _, rfl, rfl, st, atI_zero _ _, rfl, _, rfl, ?_⟩
    rw [dss]
    refine iteT ⟨_, rfl, p, _, 1, _, rfl, rfl, st, atI_1 _ _ _, _, rfl, p, _, 2, _, rfl, rfl, st, atI_2 _ _ _ _, ?_⟩
    refine rd_tuple (.inr d2) fun u H1 e1 hu => ?_
    obtain ⟨ae, ys, rfl, sy, dy⟩ := dp_tup d3
    have hyl : ys.length = es.length := by rw [dy.len, List.length_map]
    have sz : es.length ≤ 3 := sm.2
    refine ⟨_, rfl, p, _, 3, _, rfl, rfl, ex_t e1 st, atI_3 _ _ _ _ _, lc_y (K := K) ys es dEdit hyl (by omega) (.inr (ex_t e1 sy)) (fun d => rfl) ?_ ?_⟩
    · rintro ⟨sl, old, new⟩ u' H' Yes e hd i hu' hi yes
      have q := dp_ex (e1.trans e) (dy.get hu' (by rw [List.getElem?_map, hi]; rfl))
      obtain ⟨t, u1, u2, u3, rfl, ht, h1, h2, h3⟩ := dp_tup3 q
      rw [dp_int h1, dp_int h2, dp_int h3] at ht
      refine ⟨t, _, rfl, ht, rfl, _, _, rfl, _, _, rfl, _, _, rfl, rfl, rfl, ?_⟩
      refine ⟨_, rfl, _, rfl, _, rfl, by show 3 ≤ sizeLine; decide, fun p np => ?_⟩
      exact yes _ _ (Ex.new np) (.tup (st_of upd_same) (.cons (.int _) (.cons (.int _) (.cons (.int _) .nil))))
    intro L zs H5 nL e5 hL hp
    refine rd_tuple (.inl (.lst (sq_of hL) hp)) fun w2 H6 e6 hw2 => ?_
    refine ⟨by show 4 ≤ sizeLine; decide, fun t nt => ?_⟩
    refine k _ _ (e1.trans (e5.trans (e6.trans (Ex.new nt)))) (.of (.tup (st_of upd_same) (.cons (.str _) (.cons (.int _) (.cons (dp_ex ((e5.trans e6).trans (Ex.new nt)) hu) (.cons (dp_ex (Ex.new nt) hw2) .nil))))) fun _ _ z => (nomatch z))
  | answer l a =>
    obtain ⟨p, b, rfl, hp, hb⟩ := h.an l a rfl
    refine ⟨_, rfl, p, _, 0, _, rfl, rfl, st_of hp, atI_zero _ _, rfl, _, rfl, ?_⟩
    rw [dsn (by decide +kernel)]
    refine iteF ⟨_, rfl, p, _, 0, _, rfl, rfl, st_of hp, atI_zero _ _, rfl, _, rfl, ?_⟩
    rw [dss]
    refine iteT ⟨_, rfl, p, _, 1, _, rfl, rfl, st_of hp, atI_1 _ _ _, rd_tupleS (st_of hb) ⟨_, rfl, p, _, 2, _, rfl, rfl, st_of hp, atI_2 _ _ _ _, by show 3 ≤ sizeLine; decide, fun t nt => ?_⟩⟩
    exact k _ _ (Ex.new nt) (.ans upd_same (Ex.new nt _ _ hb))
  | withdraw n =>
    obtain ⟨p, x0, x1, rfl, st, d0, d1⟩ := dp_tup2 hd
    rw [dp_str d0] at st
    refine ⟨_, rfl, p, _, 0, _, rfl, rfl, st, atI_zero _ _, rfl, _, rfl, ?_⟩
    rw [dsn (by decide +kernel)]
    refine iteF ⟨_, rfl, p, _, 0, _, rfl, rfl, st, atI_zero _ _, rfl, _, rfl, ?_⟩
    rw [dsn (by decide +kernel)]
    exact iteF ⟨_, rfl, rd_tupleS st (k _ _ (Ex.refl _) h)⟩
  | stop =>
    obtain ⟨p, x0, rfl, st, d0⟩ := dp_tup1 hd
    rw [dp_str d0] at st
    refine ⟨_, rfl, p, _, 0, _, rfl, rfl, st, atI_zero _ _, rfl, _, rfl, ?_⟩
    rw [dsn (by decide +kernel)]
    refine iteF ⟨_, rfl, p, _, 0, _, rfl, rfl, st, atI_zero _ _, rfl, _, rfl, ?_⟩
    rw [dsn (by decide +kernel)]
    exact iteF ⟨_, rfl, rd_tupleS st (k _ _ (Ex.refl _) h)⟩
  | go =>
    obtain ⟨p, x0, rfl, st, d0⟩ := dp_tup1 hd
    rw [dp_str d0] at st
    refine ⟨_, rfl, p, _, 0, _, rfl, rfl, st, atI_zero _ _, rfl, _, rfl, ?_⟩
    rw [dsn (by decide +kernel)]
    refine iteF ⟨_, rfl, p, _, 0, _, rfl, rfl, st, atI_zero _ _, rfl, _, rfl, ?_⟩
    rw [dsn (by decide +kernel)]
    exact iteF ⟨_, rfl, rd_tupleS st (k _ _ (Ex.refl _) h)⟩
def errC (K : PySem.W.Frag) : Err → Value
  | .noChange => .ref (He.ga K "NoChange")
  | .tooMany => .ref (He.ga K "TooMany")
  | .tooLate => .ref (He.ga K "TooLate")
  | .noLook => .ref (He.ga K "NoLook")
  | .noAnswer => .ref (He.ga K "NoAnswer")
def tV : Told → V
  | .num n => .int n
  | .word w => .str (wS w)
  | .non => .non
def sp_done (K : PySem.W.Frag) : Sp := fun vs H Q E => ∃ a g N v r, vs = [.ref a.p, v] ∧ GtAt K H a g ∧ WF N g ∧ AskOk g ∧ N + 1 ≤ 20 ∧ smallR r ∧ RowAt K H v r ∧
  (∀ e, g.step r = .error e → ∀ H', Ex H H' → E (errC K e) none H') ∧
  (∀ g' t, g.step r = .ok (g', t) → ∀ a' H', a'.p = a.p → GtAt K H' a' g' → Fr (foot a) (foot a') H H' → Q (tV t) H')
abbrev N_done : List Str := ["gate", "row"]
theorem sc_done : FnScope N_done ["gate", "row"] (defScope s_done) := ⟨rfl, rfl, rfl, by decide +kernel, rfl, by decide +kernel, by decide +kernel⟩
-- slots: 0:gate 1:row
theorem ok_done (T : Tx K mg) : Ok P w K mg base 10 ("done", none) ["gate", "row"] (sp_done K) := by
  refine T.ok 49 rfl (N := N_done) rfl rfl sc_done (fun vs H Q E h => ?_) (fun _ _ _ _ _ _ us hl => match us, hl with | [_, _], _ => rfl) (fun cdv A outer s H vs Q E hr h => ?_)
  · obtain ⟨_, _, _, _, _, rfl, _⟩ := h
    rfl
  have hu := hu_of hr
  obtain ⟨a, g, N, v, r, rfl, h, W, A, hN, sm, hr0, kE, kQ⟩ := h
  refine ⟨_, (pss_cons (ps_if (pt_cmpR op_eq (pe_ix (kixt K) (pv 1) pe_int (fun _ _ => rfl)) pe_str (nomark _)) (pss_one (ps_ret (pe_m (pv 0) (ok_Gate_ask T) T.c_Gate T.m_Gate_ask hr (passes_call (takes_of rfl rfl rfl rfl) (fun _ _ _ _ h => h)) (pa_cons (pe_ix (kixt K) (pv 1) pe_int (fun _ _ => rfl)) (pa_cons (pe_ix (kixt K) (pv 1) pe_int (fun _ _ => rfl)) (pa_cons (pe_ix (kixt K) (pv 1) pe_int (fun _ _ => rfl)) pa_nil)))))) pss_nil)
 (pss_cons (ps_if (pt_cmpR op_eq (pe_ix (kixt K) (pv 1) pe_int (fun _ _ => rfl)) pe_str (nomark _)) (pss_one (ps_ret (pe_m (pv 0) (ok_Gate_withdraw T) T.c_Gate T.m_Gate_withdraw hr (passes_call (takes_of rfl rfl rfl rfl) (fun _ _ _ _ h => h)) (pa_cons (pe_ix (kixt K) (pv 1) pe_int (fun _ _ => rfl)) pa_nil)))) pss_nil)
 (pss_cons (ps_if (pt_cmpR op_eq (pe_ix (kixt K) (pv 1) pe_int (fun _ _ => rfl)) pe_str (nomark _)) (pss_one (ps_ret (pe_m (pv 0) (ok_Gate_answer T) T.c_Gate T.m_Gate_answer hr (passes_call (takes_of rfl rfl rfl rfl) (fun _ _ _ _ h => h)) (pa_cons (pe_callTy (ktuple K) (by rfl) T.b_tuple (by decide +kernel) (pa_cons (pe_ix (kixt K) (pv 1) pe_int (fun _ _ => rfl)) pa_nil)) (pa_cons (pe_ix (kixt K) (pv 1) pe_int (fun _ _ => rfl)) pa_nil))))) pss_nil)
 (pss_cons (ps_if (pt_cmpR op_eq (pe_ix (kixt K) (pv 1) pe_int (fun _ _ => rfl)) pe_str (nomark _)) (pss_one (ps_ret (pe_m0 (pv 0) (ok_Gate_stop T) T.c_Gate T.m_Gate_stop hr passL))) pss_nil)
 (pss_one (ps_ret (pe_m0 (pv 0) (ok_Gate_go T) T.c_Gate T.m_Gate_go hr passL))))))), ?_⟩
  have hd := hr0.dp
  have few := W.few
  cases r with
  | ask rk ls es =>
    obtain ⟨p, x0, x1, x2, x3, rfl, st, d0, d1, d2, d3⟩ := dp_tup4 hd
    rw [dp_str d0, dp_int d1] at st
    refine ⟨_, rfl, p, _, 0, _, rfl, rfl, st, atI_zero _ _, rfl, _, rfl, ?_⟩
    rw [dss]
    refine iteT ⟨_, rfl, _, _, _, rfl, (h).ob, rfl, _, rfl, p, _, 1, _, rfl, rfl, st, atI_1 _ _ _, _, rfl, p, _, 2, _, rfl, rfl, st, atI_2 _ _ _ _, _, rfl, p, _, 3, _, rfl, rfl, st, atI_3 _ _ _ _ _, ?_⟩
    refine ⟨a, g, N, x2, x3, ⟨rk, ls, es⟩, rfl, h, W, hN, sm.1, sm.2, d2, d3, fun hv => kE .noChange ?_, fun hv => kQ _ (.num _) ?_⟩
    · show g.doAsk ⟨rk, ls, es⟩ = _
      unfold GS.doAsk
      rw [if_pos hv]
    · show g.doAsk ⟨rk, ls, es⟩ = _
      unfold GS.doAsk
      rw [if_neg (show ¬ validC g.chs.length ⟨rk, ls, es⟩ = false by rw [hv]; decide), if_neg (show ¬ 60 ≤ g.chs.length by omega)]
  | withdraw n =>
    obtain ⟨p, x0, x1, rfl, st, d0, d1⟩ := dp_tup2 hd
    rw [dp_str d0, dp_int d1] at st
    refine ⟨_, rfl, p, _, 0, _, rfl, rfl, st, atI_zero _ _, rfl, _, rfl, ?_⟩
    rw [dsn (by decide +kernel)]
    refine iteF ⟨_, rfl, p, _, 0, _, rfl, rfl, st, atI_zero _ _, rfl, _, rfl, ?_⟩
    rw [dss]
    refine iteT ⟨_, rfl, _, _, _, rfl, (h).ob, rfl, _, rfl, p, _, 1, _, rfl, rfl, st, atI_1 _ _ _, ?_⟩
    refine ⟨a, g, N, n, rfl, h, W, fun c => kE .noChange ?_, fun c c2 => kE .tooLate ?_, fun c c2 => kQ _ .non ?_⟩
    · show g.doWithdraw n = _
      unfold GS.doWithdraw
      rw [if_pos c]
    · show g.doWithdraw n = _
      unfold GS.doWithdraw
      rw [if_neg c, if_pos c2]
    · show g.doWithdraw n = _
      unfold GS.doWithdraw
      rw [if_neg c, if_neg c2]
  | answer l an =>
    obtain ⟨p, b, rfl, hp, hb⟩ := hr0.an l an rfl
    refine ⟨_, rfl, p, _, 0, _, rfl, rfl, st_of hp, atI_zero _ _, rfl, _, rfl, ?_⟩
    rw [dsn (by decide +kernel)]
    refine iteF ⟨_, rfl, p, _, 0, _, rfl, rfl, st_of hp, atI_zero _ _, rfl, _, rfl, ?_⟩
    rw [dsn (by decide +kernel)]
    refine iteF ⟨_, rfl, p, _, 0, _, rfl, rfl, st_of hp, atI_zero _ _, rfl, _, rfl, ?_⟩
    rw [dss]
    refine iteT ⟨_, rfl, _, _, _, rfl, (h).ob, rfl, _, rfl, p, _, 1, _, rfl, rfl, st_of hp, atI_1 _ _ _, rd_tupleS (st_of hb) ⟨_, rfl, p, _, 2, _, rfl, rfl, st_of hp, atI_2 _ _ _ _, ?_⟩⟩
    refine ⟨a, g, N, b, l, an, rfl, h, W, A, hN, hb, fun c => kE .noLook ?_, fun c c2 => kE .noAnswer ?_, fun c c2 => kQ _ (.word _) ?_⟩
    · show g.doAnswer l an = _
      unfold GS.doAnswer
      rw [if_pos c]
    · show g.doAnswer l an = _
      unfold GS.doAnswer
      rw [if_neg (fun z => z c), if_pos c2]
    · show g.doAnswer l an = _
      unfold GS.doAnswer
      rw [if_neg (fun z => z c), if_neg (fun z => z c2)]
  | stop =>
    obtain ⟨p, x0, rfl, st, d0⟩ := dp_tup1 hd
    rw [dp_str d0] at st
    refine ⟨_, rfl, p, _, 0, _, rfl, rfl, st, atI_zero _ _, rfl, _, rfl, ?_⟩
    rw [dsn (by decide +kernel)]
    refine iteF ⟨_, rfl, p, _, 0, _, rfl, rfl, st, atI_zero _ _, rfl, _, rfl, ?_⟩
    rw [dsn (by decide +kernel)]
    refine iteF ⟨_, rfl, p, _, 0, _, rfl, rfl, st, atI_zero _ _, rfl, _, rfl, ?_⟩
    rw [dsn (by decide +kernel)]
    refine iteF ⟨_, rfl, p, _, 0, _, rfl, rfl, st, atI_zero _ _, rfl, _, rfl, ?_⟩
    rw [dss]
    exact iteT ⟨_, rfl, _, _, _, rfl, (h).ob, rfl, a, g, N, rfl, h, W, kQ _ .non rfl⟩
  | go =>
    obtain ⟨p, x0, rfl, st, d0⟩ := dp_tup1 hd
    rw [dp_str d0] at st
    refine ⟨_, rfl, p, _, 0, _, rfl, rfl, st, atI_zero _ _, rfl, _, rfl, ?_⟩
    rw [dsn (by decide +kernel)]
    refine iteF ⟨_, rfl, p, _, 0, _, rfl, rfl, st, atI_zero _ _, rfl, _, rfl, ?_⟩
    rw [dsn (by decide +kernel)]
    refine iteF ⟨_, rfl, p, _, 0, _, rfl, rfl, st, atI_zero _ _, rfl, _, rfl, ?_⟩
    rw [dsn (by decide +kernel)]
    refine iteF ⟨_, rfl, p, _, 0, _, rfl, rfl, st, atI_zero _ _, rfl, _, rfl, ?_⟩
    rw [dsn (by decide +kernel)]
    exact iteF ⟨_, rfl, _, _, _, rfl, (h).ob, rfl, a, g, N, rfl, h, W, kQ _ .non rfl⟩
end LG

set_option Elab.async false
set_option linter.all false
set_option maxRecDepth 100000
set_option maxHeartbeats 4000000
namespace LG
open PySem PySem.Spec L2 Evl
open PyProof.Rows hiding St
variable {P : Program} {w : World} {K : PySem.W.Frag} {mg : Str → Option Value} {base : Heap}

/-! ### the book -/
structure Hs where
  w : Int
  h : Int
  n : Int
  t : Int
def Hs.new (hs : Hs) : GS := GS.new hs.w hs.h hs.n hs.t
def Hs.Ok (hs : Hs) : Prop := HouseOk hs.w hs.h hs.n hs.t
theorem Hs.wf {hs : Hs} (h : hs.Ok) : WF 0 hs.new ∧ AskOk hs.new := WF.new h.w1 (by have := h.h2; omega) h.n1 h.n2 h.n3
structure BA where
  p : Addr
  dx : Addr
  f : Addr
  w : Addr
  own : GA
  rv : List V
def bkF (B : BA) : List (Str × V) := [("four", .ref B.f), ("own", .ref B.own.p), ("written", .ref B.w)]
abbrev Rows (K : PySem.W.Frag) (H : Hp) : List V → List Row → Prop := Paired (fun v r => RowAt K H v r)
theorem Rows.keep {H H' : Hp} (k : Keep H H') : ∀ {vs : List V} {rs : List Row}, Rows K H vs rs → Rows K H' vs rs
  | _, _, .nil => .nil
  | _, _, .cons h t => .cons (h.keep k) (Rows.keep k t)
theorem Rows.len {H : Hp} : ∀ {vs : List V} {rs : List Row}, Rows K H vs rs → vs.length = rs.length
  | _, _, .nil => rfl
  | _, _, .cons _ t => congrArg Nat.succ (Rows.len t)
theorem Rows.snoc {H : Hp} {v : V} {r : Row} (hr : RowAt K H v r) : ∀ {vs : List V} {rs : List Row}, Rows K H vs rs → Rows K H (vs ++ [v]) (rs ++ [r])
  | _, _, .nil => .cons hr .nil
  | _, _, .cons h t => .cons h (Rows.snoc hr t)
theorem Rows.take {H : Hp} : ∀ {vs : List V} {rs : List Row} (n : Nat), Rows K H vs rs → Rows K H (vs.take n) (rs.take n)
  | _, _, 0, _ => .nil
  | _, _, _ + 1, .nil => .nil
  | _, _, n + 1, .cons h t => .cons h (Rows.take n t)
theorem Rows.get {H : Hp} : ∀ {vs : List V} {rs : List Row} {i : Nat} {v : V} {r : Row}, Rows K H vs rs → vs[i]? = some v → rs[i]? = some r → RowAt K H v r
  | _, _, i, _, _, .nil, h1, _ => by simp at h1
  | _, _, 0, _, _, .cons h t, h1, h2 => by
    simp at h1 h2
    rw [← h1, ← h2]; exact h
  | _, _, i + 1, _, _, .cons h t, h1, h2 => Rows.get (i := i) t (by simpa using h1) (by simpa using h2)
theorem Rows.dp {H : Hp} : ∀ {vs : List V} {rs : List Row}, Rows K H vs rs → DpAll K H vs (rs.map dRow)
  | _, _, .nil => .nil
  | _, _, .cons h t => .cons h.dp (Rows.dp t)
structure BkAt (K : PySem.W.Frag) (H : Hp) (B : BA) (hs : Hs) (rs : List Row) (g : GS) : Prop where
  cs : Holds H [(B.p, .ins (He.ga K "Book") B.dx (bkF B)), (B.w, .lst B.rv)]
  f : H B.f = some (.tup [.int hs.w, .int hs.h, .int hs.n, .int hs.t])
  rows : Rows K H B.rv rs
  gt : GtAt K H B.own g
  ap : ∀ b, b ∈ [B.p, B.w] → b ∈ foot B.own → False
def footB (B : BA) : List Addr := [B.p, B.w] ++ foot B.own
section
variable {H H' : Hp} {B : BA} {hs : Hs} {rs : List Row} {g : GS}
theorem BkAt.ob (h : BkAt K H B hs rs g) : H B.p = some (.ins (He.ga K "Book") B.dx (bkF B)) := h.cs.at 0 rfl
theorem BkAt.wr (h : BkAt K H B hs rs g) : H B.w = some (.lst B.rv) := h.cs.at 1 rfl
theorem BkAt.ex (h : BkAt K H B hs rs g) (e : Ex H H') : BkAt K H' B hs rs g := ⟨h.cs.ex e, e _ _ h.f, h.rows.keep (Keep.of_ex e), h.gt.ex e, h.ap⟩
theorem BkAt.there (h : BkAt K H B hs rs g) : ∀ b ∈ footB B, H b ≠ none := fun b hb => by
  rcases List.mem_append.mp hb with m | m
  · exact h.cs.mem m
  · exact h.gt.there b m
theorem BkAt.fr {F F' : List Addr} (h : BkAt K H B hs rs g) (f : Fr F F' H H') (ap : ∀ b, b ∈ F → b ∈ footB B → False) : BkAt K H' B hs rs g :=
  ⟨h.cs.fr f fun b h1 h2 => ap b h1 (List.mem_append_left _ h2), f.keep.tup _ _ h.f, h.rows.keep f.keep, h.gt.fr f fun b h1 h2 => ap b h1 (List.mem_append_right _ h2), h.ap⟩
end
def sp_Book_rows (K : PySem.W.Frag) : Sp := fun vs H Q _ => ∃ B hs rs g, vs = [.ref B.p] ∧ BkAt K H B hs rs g ∧ ∀ p H', H p = none → Ex H H' → H' p = some (.lst B.rv) → Rows K H' B.rv rs → Q (.ref p) H'
abbrev N_Book_rows : List Str := ["self"]
theorem sc_Book_rows : FnScope N_Book_rows ["self"] (defScope s_Book_rows) := ⟨rfl, rfl, rfl, by decide +kernel, rfl, by decide +kernel, by decide +kernel⟩
-- slots: 0:self
theorem ok_Book_rows (T : Tx K mg) : Ok P w K mg base 1 ("Book", some "rows") ["self"] (sp_Book_rows K) := by
  refine T.ok 52 rfl (N := N_Book_rows) rfl rfl sc_Book_rows (fun vs H Q E h => ?_) (fun _ _ _ _ _ _ us hl => match us, hl with | [_], _ => rfl) (fun cdv A outer s H vs Q E hr h => ?_)
  · obtain ⟨_, _, _, _, rfl, _⟩ := h
    rfl
  have hu := hu_of hr
  obtain ⟨B, hs, rs, g, rfl, h, k⟩ := h
  refine ⟨_, (pss_one (ps_ret (pe_callTy (klist K) (by rfl) T.b_list (by decide +kernel) (pa_cons (kfld K (pv 0)) pa_nil)))), ?_⟩
  exact ⟨_, rfl, _, _, _, _, _, rfl, h.ob, T.c_Book, T.n_Book_written, rfl, rd_listI (.inl (sq_of h.wr)) fun p H' np e hp => k p H' np e hp (h.rows.keep (Keep.of_ex e))⟩
def sp_Book_many (K : PySem.W.Frag) : Sp := fun vs H Q _ => ∃ B hs rs g, vs = [.ref B.p] ∧ BkAt K H B hs rs g ∧ Q (.int rs.length) H
abbrev N_Book_many : List Str := ["self"]
theorem sc_Book_many : FnScope N_Book_many ["self"] (defScope s_Book_many) := ⟨rfl, rfl, rfl, by decide +kernel, rfl, by decide +kernel, by decide +kernel⟩
-- slots: 0:self
theorem ok_Book_many (T : Tx K mg) : Ok P w K mg base 1 ("Book", some "many") ["self"] (sp_Book_many K) := by
  refine T.ok 53 rfl (N := N_Book_many) rfl rfl sc_Book_many (fun vs H Q E h => ?_) (fun _ _ _ _ _ _ us hl => match us, hl with | [_], _ => rfl) (fun cdv A outer s H vs Q E hr h => ?_)
  · obtain ⟨_, _, _, _, rfl, _⟩ := h
    rfl
  have hu := hu_of hr
  obtain ⟨B, hs, rs, g, rfl, h, k⟩ := h
  refine ⟨_, (pss_one (ps_ret (pe_callB (klen K) (by rfl) T.b_len (by decide +kernel) (pa_cons (kfld K (pv 0)) pa_nil)))), ?_⟩
  refine ⟨_, rfl, _, _, _, _, _, rfl, h.ob, T.c_Book, T.n_Book_written, rfl, B.w, _, rfl, .inl (sq_of h.wr), ?_⟩
  rw [h.rows.len]
  exact k
def sp_Book_do (K : PySem.W.Frag) : Sp := fun vs H Q E => ∃ B hs rs g N v r, vs = [.ref B.p, v] ∧ BkAt K H B hs rs g ∧ WF N g ∧ AskOk g ∧ N + 1 ≤ 20 ∧ smallR r ∧ rs.length < 1000 ∧ RowAt K H v r ∧
  (∀ e, g.step r = .error e → ∀ H', Ex H H' → E (errC K e) none H') ∧
  (∀ g' t, g.step r = .ok (g', t) → ∀ B' H', B'.p = B.p → BkAt K H' B' hs (rs ++ [r]) g' → Fr (footB B) (footB B') H H' → Q (tV t) H')
abbrev N_Book_do : List Str := ["self", "row", "kept", "told"]
theorem sc_Book_do : FnScope N_Book_do ["self", "row"] (defScope s_Book_do) := ⟨rfl, rfl, rfl, by decide +kernel, rfl, by decide +kernel, by decide +kernel⟩
-- slots: 0:self 1:row 2:kept 3:told
theorem ok_Book_do (T : Tx K mg) : Ok P w K mg base 11 ("Book", some "do") ["self", "row"] (sp_Book_do K) := by
  refine T.ok 51 rfl (N := N_Book_do) rfl rfl sc_Book_do (fun vs H Q E h => ?_) (fun _ _ _ _ _ _ us hl => match us, hl with | [_, _], _ => rfl) (fun cdv A outer s H vs Q E hr h => ?_)
  · obtain ⟨_, _, _, _, _, _, _, rfl, _⟩ := h
    rfl
  have hu := hu_of hr
  obtain ⟨B, hs, rs, g, N, v, r, rfl, h, W, A, hN, sm, hl, hr0, kE, kQ⟩ := h
  refine ⟨_, (pss_cons (ps_set (i := 2) sc_Book_do.nd rfl (by first | exact Or.inl rfl | exact Or.inr rfl) (pe_f (ok_copied T) hr T.g_copied passL (pa_cons (pv 1) pa_nil)))
 (pss_cons (ps_set (i := 3) sc_Book_do.nd rfl (by first | exact Or.inl rfl | exact Or.inr rfl) (pe_f (ok_done T) hr T.g_done (passes_call (takes_of rfl rfl rfl rfl) (fun _ _ _ _ h => h)) (pa_cons (kfld K (pv 0)) (pa_cons (pv 2) pa_nil))))
 (pss_cons (ps_expr (kbm K PySem.F.plainAttrs_list PySem.F.slot_list_append PySem.F.type_list_append mt_append (kfld K (pv 0)) (pa_cons (pv 2) pa_nil)))
 (pss_one (ps_ret (pv 3)))))), ?_⟩
  refine ⟨_, rfl, v, r, rfl, hr0, sm, fun kv H1 e1 hkv => ?_⟩
  have h1 := h.ex e1
  refine ⟨_, rfl, _, _, _, _, _, rfl, h1.ob, T.c_Book, T.n_Book_own, rfl, _, rfl, B.own, g, N, kv, r, rfl, h1.gt, W, A, hN, sm, hkv, fun e he H2 e2 => kE e he H2 (e1.trans e2), fun g' t hs' a' H2 ep h2 f2 => ?_⟩
  replace kQ := kQ g' t hs'
  have np : B.p ∉ foot B.own := fun m => h.ap B.p (by simp) m
  have nw : B.w ∉ foot B.own := fun m => h.ap B.w (by simp) m
  have ob2 := f2.out _ _ h1.ob np
  have wr2 := f2.out _ _ h1.wr nw
  have hkv2 := hkv.keep f2.keep
  refine ⟨_, rfl, _, _, _, _, _, rfl, ob2, T.c_Book, T.n_Book_written, rfl, .inl ⟨rfl, _, sq_of wr2⟩, _, rfl, B.w, _, _, rfl, rfl, wr2, by rw [h.rows.len, sizeLine_eq]; omega, ?_⟩
  have kp3 : Keep H2 (upd H2 B.w (.lst (B.rv ++ [kv]))) := keep_mut wr2 rfl
  have npw : B.p ≠ B.w := h.cs.ne 0 1 rfl rfl
  have ap2 : ∀ b, b ∈ [B.p, B.w] → b ∈ foot a' → False := f2.apart (G := [B.p, B.w]) (fun b hb => h1.cs.mem hb) (fun b m1 m2 => h.ap b m2 m1) |> fun z b m1 m2 => z b m2 m1
  have fu : Fr [B.w] [B.w] H2 (upd H2 B.w (.lst (B.rv ++ [kv]))) := Fr.upd (by simp) wr2 rfl
  refine ⟨_, rfl, kQ { B with own := a', rv := B.rv ++ [kv] } _ rfl ⟨⟨fun c hc => ?_, h.cs.nd⟩, kp3.tup _ _ (f2.keep.tup _ _ h1.f), (((h1.rows.keep f2.keep).snoc hkv2).keep kp3), h2.fr fu fun b m1 m2 => ?_, ap2⟩ ?_⟩
  · simp only [List.mem_cons, List.not_mem_nil, or_false] at hc
    rcases hc with rfl | rfl
    · show upd H2 B.w _ B.p = some (.ins _ _ (bkF { B with own := a', rv := _ }))
      rw [upd_ne npw, ob2]
      unfold bkF
      rw [ep]
    · exact upd_same
  · rw [List.mem_singleton.mp m1] at m2
    exact ap2 B.w (by simp) m2
  · refine ⟨fun b o e n => ?_, fun b hb => ?_, fun b e => ?_, (Keep.of_ex e1).trans (f2.keep.trans kp3)⟩
    · have n' : b ∉ foot B.own ∧ b ≠ B.w := ⟨fun m => n (List.mem_append_right _ m), fun z => n (by rw [z]; exact List.mem_append_left _ (by simp))⟩
      rw [upd_ne n'.2]
      exact f2.out _ _ (e1 _ _ e) n'.1
    · have hb' : b ∈ [B.p, B.w] ++ foot a' := hb
      rcases List.mem_append.mp hb' with z | z
      · exact .inl (List.mem_append_left _ z)
      · rcases f2.new b z with y | y
        · exact .inl (List.mem_append_right _ y)
        · exact .inr (fresh_back e1 y)
    · exact fresh_back e1 (f2.old b (fu.old b e))
end LG

set_option Elab.async false
set_option linter.all false
set_option maxRecDepth 100000
set_option maxHeartbeats 4000000
namespace LG
open PySem PySem.Spec L2 Evl
open PyProof.Rows hiding St
variable {P : Program} {w : World} {K : PySem.W.Frag} {mg : Str → Option Value} {base : Heap}

def sp_Book_init (K : PySem.W.Frag) : Sp := fun vs H Q _ => ∃ p dx, ∃ hs : Hs, vs = [.ref p, .int hs.w, .int hs.h, .int hs.n, .int hs.t] ∧ H p = some (.ins (He.ga K "Book") dx []) ∧ hs.Ok ∧
  ∀ B H', B.p = p → BkAt K H' B hs [] hs.new → (∀ b o, H b = some o → b ≠ p → H' b = some o) → (∀ b ∈ footB B, b = p ∨ H b = none) → Q .non H'
abbrev N_Book_init : List Str := ["self", "width", "hands", "need", "tries"]
theorem sc_Book_init : FnScope N_Book_init ["self", "width", "hands", "need", "tries"] (defScope s_Book_init) := ⟨rfl, rfl, rfl, by decide +kernel, rfl, by decide +kernel, by decide +kernel⟩
-- slots: 0:self 1:width 2:hands 3:need 4:tries
theorem ok_Book_init (T : Tx K mg) : Ok P w K mg base 5 ("Book", some "__init__") ["self", "width", "hands", "need", "tries"] (sp_Book_init K) := by
  refine T.ok 50 rfl (N := N_Book_init) rfl rfl sc_Book_init (fun vs H Q E h => ?_) (fun _ _ _ _ _ _ us hl => match us, hl with | [_, _, _, _, _], _ => rfl) (fun cdv A outer s H vs Q E hr h => ?_)
  · obtain ⟨_, _, _, rfl, _⟩ := h
    rfl
  have hu := hu_of hr
  obtain ⟨p, dx, hs, rfl, hp, hk, k⟩ := h
  refine ⟨_, (pss_cons (ksfld K (pv 0) (pe_tup (pa_cons (pv 1) (pa_cons (pv 2) (pa_cons (pv 3) (pa_cons (pv 4) pa_nil))))))
 (pss_cons (ksfld K (pv 0) (pe_n (ok_Gate_init T) T.k_Gate hr T.g_Gate passL (pa_cons (pv 1) (pa_cons (pv 2) (pa_cons (pv 3) (pa_cons (pv 4) pa_nil))))))
 (pss_one (ksfld K (pv 0) (pe_lst pa_nil))))), ?_⟩
  have B0 : Bld (He.ga K "Book") H H p dx [] [] := ⟨⟨fun c hc => by rw [List.mem_singleton.mp hc]; exact hp, by simp⟩, fun b u e _ => e, fun c hc => by cases hc⟩
  refine ⟨_, rfl, _, rfl, _, rfl, _, rfl, by show 4 ≤ sizeLine; decide, fun ho nho => ?_⟩
  refine ⟨_, rfl, p, _, dx, _, rfl, B0.new nho, T.c_Book, T.n_Book_four, by decide, ?_⟩
  have B1 := B0.step (o := .tup [.int hs.w, .int hs.h, .int hs.n, .int hs.t]) nho (putF "four" (.ref ho) [])
  clear B0
  generalize upd (upd H ho (.tup [.int hs.w, .int hs.h, .int hs.n, .int hs.t])) p (.ins (He.ga K "Book") dx (putF "four" (.ref ho) [])) = H2 at B1 ⊢
  replace B1 : Bld (He.ga K "Book") H H2 p dx [("four", .ref ho)] _ := B1
  -- own
  refine ⟨_, rfl, _, rfl, _, rfl, _, rfl, fun c cdx nc ncd ncne => ?_⟩
  refine ⟨c, cdx, hs.w, hs.h, hs.n, hs.t, rfl, upd_same, hk, fun a H3 ea ha fr3 fa => ⟨rfl, ?_⟩⟩
  have up : ∀ {x : Addr}, upd (upd H2 cdx (.own c)) c (.ins (He.ga K "Gate") cdx []) x = none → H2 x = none := fun {x} n => by
    by_cases z1 : x = c
    · rw [z1, upd_same] at n; cases n
    rw [upd_ne z1] at n
    by_cases z2 : x = cdx
    · rw [z2, upd_same] at n; cases n
    rwa [upd_ne z2] at n
  have e3 : Ex H2 H3 := fun x o e => by
    have z1 : x ≠ c := fun z => by rw [z, nc] at e; cases e
    have z2 : x ≠ cdx := fun z => by rw [z, ncd] at e; cases e
    exact fr3 x o (by rw [upd_ne z1, upd_ne z2]; exact e) z1
  have fa2 : ∀ b ∈ foot a, H2 b = none := fun b hb => by
    rcases fa b hb with z | z
    · rw [z]; exact nc
    · exact up z
  have pn : p ∉ foot a := fun m => by have := fa2 p m; rw [B1.ob] at this; cases this
  refine ⟨_, rfl, p, _, dx, _, rfl, e3 _ _ B1.ob, T.c_Book, T.n_Book_own, by show 1 < 1000; decide, ?_⟩
  have B2 := B1.add e3 [] ⟨fun _ h => (by cases h), .nil⟩ (fun x hx => by cases hx) (putF "own" (.ref c) [("four", .ref ho)])
  have g2 : GtAt K (upd H3 p (.ins (He.ga K "Book") dx (putF "own" (.ref c) [("four", .ref ho)]))) a hs.new := ha.fr (Fr.upd (F := [p]) (by simp) (e3 _ _ B1.ob) rfl) fun b m1 m2 => pn (by rw [List.mem_singleton.mp m1] at m2; exact m2)
  have nf : ∀ b ∈ foot a, H b = none := fun b hb => B1.back (fa2 b hb)
  have hon : ho ∉ foot a := fun m => by have := fa2 ho m; rw [B1.hd.at 1 rfl] at this; cases this
  clear B1 fr3
  generalize upd H3 p (.ins (He.ga K "Book") dx (putF "own" (.ref c) [("four", .ref ho)])) = H4 at B2 g2 ⊢
  replace B2 : Bld (He.ga K "Book") H H4 p dx [("four", .ref ho), ("own", .ref c)] _ := B2
  refine ⟨Nat.zero_le _, fun wr nwr => ?_⟩
  refine ⟨_, rfl, p, _, dx, _, rfl, B2.new nwr, T.c_Book, T.n_Book_written, by show 2 < 1000; decide, ?_⟩
  have B3 := B2.step (o := .lst []) nwr (putF "written" (.ref wr) [("four", .ref ho), ("own", .ref c)])
  have obw := B2.new (o := .lst []) nwr
  have g3 : GtAt K (upd (upd H4 wr (.lst [])) p (.ins (He.ga K "Book") dx (putF "written" (.ref wr) [("four", .ref ho), ("own", .ref c)]))) a hs.new := (g2.ex (Ex.new nwr)).fr (Fr.upd (F := [p]) (by simp) obw rfl) fun b m1 m2 => pn (by rw [List.mem_singleton.mp m1] at m2; exact m2)
  have nwf := g2.nin nwr
  clear B2 obw
  generalize upd (upd H4 wr (.lst [])) p (.ins (He.ga K "Book") dx (putF "written" (.ref wr) [("four", .ref ho), ("own", .ref c)])) = H5 at B3 g3 ⊢
  replace B3 : Bld (He.ga K "Book") H H5 p dx [("four", .ref ho), ("own", .ref c), ("written", .ref wr)] [(ho, .tup [.int hs.w, .int hs.h, .int hs.n, .int hs.t]), (wr, .lst [])] := B3
  have e : bkF ⟨p, dx, ho, wr, a, []⟩ = ([("four", V.ref ho), ("own", V.ref c), ("written", V.ref wr)] : List (Str × V)) := by unfold bkF; rw [ea]
  refine k ⟨p, dx, ho, wr, a, []⟩ H5 rfl ⟨?_, B3.hd.at 1 rfl, .nil, g3, fun b m1 m2 => ?_⟩ B3.fr fun b hb => ?_
  · rw [e]
    exact B3.hd.sub ((List.Sublist.cons _ (List.Sublist.refl _)).cons₂ _)
  · have m1' : b = p ∨ b = wr := by simpa using m1
    rcases m1' with z | z
    · exact pn (by rw [← z]; exact m2)
    · exact nwf (by rw [← z]; exact m2)
  · have hb' : b ∈ [p, wr] ++ foot a := hb
    rcases List.mem_append.mp hb' with m | m
    · have m1' : b = p ∨ b = wr := by simpa using m
      rcases m1' with z | z
      · exact .inl z
      · exact .inr (by rw [z]; exact B3.nw (wr, .lst []) (by simp))
    · exact .inr (nf b m)
def sp_Book_gate_of (K : PySem.W.Frag) : Sp := fun vs H Q _ => ∃ B hs rs g g', ∃ m : Nat, vs = [.ref B.p, .int m] ∧ BkAt K H B hs rs g ∧ hs.Ok ∧ m ≤ rs.length ∧ rs.length ≤ 20 ∧ (∀ r ∈ rs, smallR r) ∧ replay hs.new (rs.take m) = some g' ∧
  ∀ a H', Ex H H' → (∀ b ∈ foot a, H b = none) → GtAt K H' a g' → Q (.ref a.p) H'
abbrev N_Book_gate_of : List Str := ["self", "many", "gate", "row"]
theorem sc_Book_gate_of : FnScope N_Book_gate_of ["self", "many"] (defScope s_Book_gate_of) := ⟨rfl, rfl, rfl, by decide +kernel, rfl, by decide +kernel, by decide +kernel⟩
-- slots: 0:self 1:many 2:gate 3:row
theorem ok_Book_gate_of (T : Tx K mg) : Ok P w K mg base 11 ("Book", some "gate_of") ["self", "many"] (sp_Book_gate_of K) := by
  refine T.ok 54 rfl (N := N_Book_gate_of) rfl rfl sc_Book_gate_of (fun vs H Q E h => ?_) (fun _ _ _ _ _ _ us hl => match us, hl with | [_, _], _ => rfl) (fun cdv A outer s H vs Q E hr h => ?_)
  · obtain ⟨_, _, _, _, _, _, rfl, _⟩ := h
    rfl
  have hu := hu_of hr
  obtain ⟨B, hs, rs, g, g', m, rfl, h, ho, hm, hl, sm, hrep, k⟩ := h
  refine ⟨_, (pss_cons (ps_if (PW.pt (pw_or (pt_cmpR op_lt (pv 1) pe_int (nomark _)) (pw_or1 (pt_cmpR op_gt (pv 1) (pe_callB (klen K) (by rfl) T.b_len (by decide +kernel) (pa_cons (kfld K (pv 0)) pa_nil)) (nomark _))))) (pss_one (ps_rz T.x_NoRow T.g_NoRow (takes_of rfl rfl rfl rfl))) pss_nil)
 (pss_cons (ps_set (i := 2) sc_Book_gate_of.nd rfl (by first | exact Or.inl rfl | exact Or.inr rfl) (pe_n (ok_Gate_init T) T.k_Gate hr T.g_Gate passL (pa_cons (pe_ix (kixt K) (kfld K (pv 0)) pe_int (fun _ _ => rfl)) (pa_cons (pe_ix (kixt K) (kfld K (pv 0)) pe_int (fun _ _ => rfl)) (pa_cons (pe_ix (kixt K) (kfld K (pv 0)) pe_int (fun _ _ => rfl)) (pa_cons (pe_ix (kixt K) (kfld K (pv 0)) pe_int (fun _ _ => rfl)) pa_nil))))))
 (pss_cons (ps_for (passes_of rfl) rfl (kseq K (pe_slice (ksll K) (kfld K (pv 0)) po_none (po_some (pv 1)))) (pg_name (i := 3) sc_Book_gate_of.nd rfl (by first | exact Or.inl rfl | exact Or.inr rfl))
  (pss_one (ps_expr (pe_f (ok_done T) hr T.g_done passL (pa_cons (pv 2) (pa_cons (pv 3) pa_nil))))))
 (pss_one (ps_ret (pv 2)))))), ?_⟩
  have rl := h.rows.len
  refine if_or false false (fun Q' q => ⟨_, rfl, _, _, rfl, rfl, _, rfl, ?_⟩) (fun _ Q' q => ⟨_, rfl, _, rfl, _, _, _, _, _, rfl, h.ob, T.c_Book, T.n_Book_written, rfl, B.w, _, rfl, .inl (sq_of h.wr), _, _, rfl, rfl, _, rfl, ?_⟩) (iteF ?_)
  · rw [decide_eq_false (by omega)]; exact q
  · rw [decide_eq_false (by rw [rl]; omega)]; exact q
  have fo : ∀ {Q' : VK} {i : Int} {v : V}, atI [V.int hs.w, V.int hs.h, V.int hs.n, V.int hs.t] i = some v → Q' v H → True := fun _ _ => trivial
  refine ⟨_, rfl, _, _, _, _, _, rfl, h.ob, T.c_Book, T.n_Book_four, rfl, B.f, _, 0, _, rfl, rfl, st_of h.f, atI_zero _ _, _, rfl, _, _, _, _, _, rfl, h.ob, T.c_Book, T.n_Book_four, rfl, B.f, _, 1, _, rfl, rfl, st_of h.f, atI_1 _ _ _, _, rfl, _, _, _, _, _, rfl, h.ob, T.c_Book, T.n_Book_four, rfl, B.f, _, 2, _, rfl, rfl, st_of h.f, atI_2 _ _ _ _, _, rfl, _, _, _, _, _, rfl, h.ob, T.c_Book, T.n_Book_four, rfl, B.f, _, 3, _, rfl, rfl, st_of h.f, atI_3 _ _ _ _ _, fun c cdx nc ncd ncne => ?_⟩
  refine ⟨c, cdx, hs.w, hs.h, hs.n, hs.t, rfl, upd_same, ho, fun a H3 ea ha fr3 fa => ⟨rfl, ?_⟩⟩
  have up : ∀ {x : Addr}, upd (upd H cdx (.own c)) c (.ins (He.ga K "Gate") cdx []) x = none → H x = none := fun {x} n => by
    by_cases z1 : x = c
    · rw [z1, upd_same] at n; cases n
    rw [upd_ne z1] at n
    by_cases z2 : x = cdx
    · rw [z2, upd_same] at n; cases n
    rwa [upd_ne z2] at n
  have e3 : Ex H H3 := fun x o e => by
    have z1 : x ≠ c := fun z => by rw [z, nc] at e; cases e
    have z2 : x ≠ cdx := fun z => by rw [z, ncd] at e; cases e
    exact fr3 x o (by rw [upd_ne z1, upd_ne z2]; exact e) z1
  have fa2 : ∀ b ∈ foot a, H b = none := fun b hb => by
    rcases fa b hb with z | z
    · rw [z]; exact nc
    · exact up z
  rw [← ea]
  have h3 := h.ex e3
  refine ⟨_, rfl, _, _, _, _, _, rfl, h3.ob, T.c_Book, T.n_Book_written, rfl, _, rfl, m, rfl, B.w, _, rfl, sq_of h3.wr, fun L nL => ?_⟩
  have ecut : cutV B.rv none (some (m : Int)) = B.rv.take m := by
    have := cutV_none (fun v : V => v) B.rv (m : Int)
    rw [List.map_id'] at this
    rw [this, if_pos (by omega), Int.toNat_natCast, List.map_id']
  rw [ecut]
  have eL := Ex.new (o := .lst (B.rv.take m)) nL
  have eHL := e3.trans eL
  have nLH := fresh_back e3 nL
  have hL : upd H3 L (.lst (B.rv.take m)) L = some (.lst (B.rv.take m)) := upd_same
  have rows0 : Rows K (upd H3 L (.lst (B.rv.take m))) (B.rv.take m) (rs.take m) := (h.rows.keep (Keep.of_ex eHL)).take m
  have h4 := ha.ex eL
  generalize upd H3 L (.lst (B.rv.take m)) = H4 at eL eHL hL rows0 h4 ⊢
  have tlen : (rs.take m).length = m := by rw [List.length_take]; omega
  refine for_s (B.rv.take m) (rs.take m) rows0.len (fun done todo σ' H' => ∃ a1 g1, (∃ v3, σ' = [some (.ref B.p), some (.int m), some (.ref a.p), v3]) ∧ a1.p = a.p ∧ GtAt K H' a1 g1 ∧ WF done.length g1 ∧ AskOk g1 ∧ Fr (foot a) (foot a1) H4 H' ∧ replay g1 todo = some g')
    (HB := H4) (.inl (sq_of hL)) ⟨a, hs.new, ⟨_, rfl⟩, rfl, h4, (Hs.wf ho).1, (Hs.wf ho).2, Fr.refl _ _, hrep⟩ ?_ ?_ ?_
  · rintro done todo σ' H' _ ⟨a1, g1, _, _, _, _, _, f, _⟩
    exact f.stays hL (ha.nin nL)
  · rintro done r todo v σ' H5 he hv hdd ⟨a1, g1, ⟨v3, rfl⟩, ep, h5, W5, A5, f5, hrp⟩
    have hrow := (rows0.get hv hdd).keep f5.keep
    have hmem : r ∈ rs := List.mem_of_mem_take (List.mem_of_getElem? hdd)
    have hlen : done.length + 1 ≤ 20 := by
      have := (List.getElem?_eq_some_iff.mp hdd).1
      omega
    rw [← ep]
    rw [replay] at hrp
    refine ⟨_, rfl, _, rfl, a1, g1, done.length, v, r, rfl, h5, W5, A5, hlen, sm r hmem, hrow, fun e he2 => (by rw [he2] at hrp; cases hrp), fun g2 t hst a2 H6 ep2 h6 f6 => ?_⟩
    rw [hst] at hrp
    obtain ⟨W6, A6⟩ := W5.step A5 hlen (sm r hmem) hst
    exact ⟨a2, g2, ⟨_, rfl⟩, ep2, h6, by rw [List.length_append]; exact W6, A6, f5.trans f6, hrp⟩
  · rintro σ' H5 ⟨a1, g1, ⟨v3, rfl⟩, ep, h5, W5, A5, f5, hrp⟩
    rw [replay] at hrp
    cases hrp
    refine ⟨_, rfl, ?_⟩
    rw [← ep]
    refine k a1 H5 (fun b o e => f5.out b o (eHL _ _ e) fun m => ?_) (fun b hb => ?_) h5
    · rw [fa2 b m] at e; cases e
    · rcases f5.new b hb with z | z
      · exact fa2 b z
      · exact fresh_back eHL z
theorem lay_edit (e : Edit) : (dEdit e).canLay0 = true := by simp [dEdit, PyData.canLay0, PyData.canLayAll0]
theorem depth_edit (e : Edit) : (dEdit e).depth ≤ 1 := by simp [dEdit, PyData.depth, PyData.depthAll]
theorem lay_edits (es : List Edit) : (dEdits es).canLay0 = true := by simp only [dEdits, PyData.canLay0]; exact layAll_map lay_edit es
theorem depth_edits (es : List Edit) : (dEdits es).depth ≤ 2 := by
  have := depthAll_map depth_edit es
  simp only [dEdits, PyData.depth]; omega
theorem lay_row (r : Row) : (dRow r).canLay0 = true := by
  cases r with
  | ask r ls es =>
    have h1 := lay_dInts ls
    have h2 := lay_edits es
    show (PyData.strOk "ask" && (true && ((dInts ls).canLay0 && ((dEdits es).canLay0 && true)))) = true
    rw [h1, h2]; decide +kernel
  | withdraw n => show (PyData.strOk "withdraw" && (true && true)) = true; decide +kernel
  | answer l a =>
    have h1 := lay_dInts l
    show (PyData.strOk "answer" && ((dInts l).canLay0 && (PyData.strOk (aS a) && true))) = true
    rw [h1]
    cases a <;> decide +kernel
  | stop => show (PyData.strOk "stop" && true) = true; decide +kernel
  | go => show (PyData.strOk "go" && true) = true; decide +kernel
theorem depth_row (r : Row) : (dRow r).depth ≤ 3 := by
  cases r with
  | ask r ls es =>
    have h1 := depth_dInts ls
    have h2 := depth_edits es
    simp only [dRow, PyData.depth, PyData.depthAll]; omega
  | withdraw n => simp [dRow, PyData.depth, PyData.depthAll]
  | answer l a =>
    have h1 := depth_dInts l
    simp only [dRow, PyData.depth, PyData.depthAll]; omega
  | stop => simp [dRow, PyData.depth, PyData.depthAll]
  | go => simp [dRow, PyData.depth, PyData.depthAll]
theorem shaped_rows (rs : List Row) : SeqAt.shaped (.list (rs.map dRow)) = true := shaped_list lay_row depth_row (by decide) rs
theorem Rows.drop1 {H : Hp} : ∀ {vs : List V} {rs : List Row} {r : Row}, Rows K H vs (rs ++ [r]) → ∃ us v, vs = us ++ [v] ∧ Rows K H us rs
  | [], [], _, h => by cases h
  | [], _ :: _, _, h => by cases h
  | v :: vs, [], r, h => by
    cases h with
    | cons h t => cases t; exact ⟨[], v, rfl, .nil⟩
  | v :: vs, x :: rs, r, h => by
    cases h with
    | cons h t =>
      obtain ⟨us, u, e, q⟩ := Rows.drop1 t
      exact ⟨v :: us, u, by rw [e]; rfl, .cons h q⟩
def sp_Book_take_back (K : PySem.W.Frag) : Sp := fun vs H Q E => ∃ B hs rs g, vs = [.ref B.p] ∧ BkAt K H B hs rs g ∧ hs.Ok ∧ rs.length ≤ 20 ∧ (∀ r ∈ rs, smallR r) ∧
  (rs = [] → ∀ H', Ex H H' → E (.ref (He.ga K "NoRow")) none H') ∧
  (∀ rs' r, rs = rs' ++ [r] → ∃ g', replay hs.new rs' = some g' ∧ ∀ B' H', B'.p = B.p → BkAt K H' B' hs rs' g' → Fr (footB B) (footB B') H H' → Q .non H')
abbrev N_Book_take_back : List Str := ["self"]
theorem sc_Book_take_back : FnScope N_Book_take_back ["self"] (defScope s_Book_take_back) := ⟨rfl, rfl, rfl, by decide +kernel, rfl, by decide +kernel, by decide +kernel⟩
-- slots: 0:self
theorem ok_Book_take_back (T : Tx K mg) : Ok P w K mg base 12 ("Book", some "take_back") ["self"] (sp_Book_take_back K) := by
  refine T.ok 55 rfl (N := N_Book_take_back) rfl rfl sc_Book_take_back (fun vs H Q E h => ?_) (fun _ _ _ _ _ _ us hl => match us, hl with | [_], _ => rfl) (fun cdv A outer s H vs Q E hr h => ?_)
  · obtain ⟨_, _, _, _, rfl, _⟩ := h
    rfl
  have hu := hu_of hr
  obtain ⟨B, hs, rs, g, rfl, h, ho, hl, sm, kE, kQ⟩ := h
  refine ⟨_, (pss_cons (ps_if (pt_cmpR (keq K hr) (kfld K (pv 0)) (pe_lst pa_nil) (nomark _)) (pss_one (ps_rz T.x_NoRow T.g_NoRow (takes_of rfl rfl rfl rfl))) pss_nil)
 (pss_cons (ps_expr (pe_bm0 PySem.F.plainAttrs_list PySem.F.slot_list_pop PySem.F.type_list_pop mt_pop (kfld K (pv 0))))
 (pss_one (ksfld K (pv 0) (pe_m (pv 0) (ok_Book_gate_of T) T.c_Book T.m_Book_gate_of hr passL (pa_cons (pe_callB (klen K) (by rfl) T.b_len (by decide +kernel) (pa_cons (kfld K (pv 0)) pa_nil)) pa_nil)))))), ?_⟩
  refine ⟨_, rfl, _, _, _, _, _, rfl, h.ob, T.c_Book, T.n_Book_written, rfl, Nat.zero_le _, fun z nz => ?_⟩
  have ez := Ex.new (o := .lst []) nz
  have hz := h.ex ez
  refine ⟨.list (rs.map dRow), .list [], .lst (sq_of hz.wr) hz.rows.dp, .lst (sq_of upd_same) .nil, shaped_rows rs, by decide +kernel, _, rfl, ?_⟩
  rcases List.eq_nil_or_concat rs with rfl | ⟨rs', r, rfl⟩
  · exact iteT (kE rfl _ ez)
  · rw [List.concat_eq_append] at *
    have ee : PyData.eqv (.list ((rs' ++ [r]).map dRow)) (.list []) = false := by
      rw [List.map_append]
      cases rs' <;> rfl
    rw [ee]
    refine iteF ?_
    obtain ⟨g', hrep, kQ⟩ := kQ rs' r rfl
    clear nz
    generalize upd H z (.lst []) = H1 at ez hz ⊢
    obtain ⟨us, v, erv, hus⟩ := Rows.drop1 hz.rows
    have rl := hus.len
    refine ⟨_, rfl, _, _, _, _, _, rfl, hz.ob, T.c_Book, T.n_Book_written, rfl, .inl ⟨rfl, _, sq_of hz.wr⟩, B.w, B.rv, v, rfl, rfl, hz.wr, by rw [erv]; simp, ?_⟩
    have npw : B.p ≠ B.w := h.cs.ne 0 1 rfl rfl
    have fu : Fr [B.w] [B.w] H1 (upd H1 B.w (.lst B.rv.dropLast)) := Fr.upd (by simp) hz.wr rfl
    have h2 : BkAt K (upd H1 B.w (.lst B.rv.dropLast)) { B with rv := us } hs rs' g := by
      have ed : B.rv.dropLast = us := by rw [erv]; simp
      refine ⟨⟨fun c hc => ?_, h.cs.nd⟩, fu.keep.tup _ _ hz.f, hus.keep fu.keep, hz.gt.fr fu fun b m1 m2 => ?_, h.ap⟩
      · simp only [List.mem_cons, List.not_mem_nil, or_false] at hc
        rcases hc with rfl | rfl
        · show upd H1 B.w _ B.p = some (.ins _ _ (bkF B))
          rw [upd_ne npw, hz.ob]
        · show upd H1 B.w _ B.w = some (.lst us)
          rw [upd_same, ed]
      · rw [List.mem_singleton.mp m1] at m2
        exact h.ap B.w (by simp) m2
    generalize upd H1 B.w (.lst B.rv.dropLast) = H2 at fu h2 ⊢
    have rl2 : (rs' ++ [r]).length = rs'.length + 1 := by simp
    refine ⟨_, rfl, _, _, _, rfl, h2.ob, rfl, _, rfl, _, _, _, _, _, rfl, h2.ob, T.c_Book, T.n_Book_written, rfl, B.w, us, rfl, .inl (sq_of h2.wr), { B with rv := us }, hs, rs', g, g', rs'.length, by rw [rl]; rfl, h2, ho, Nat.le_refl _, by omega, fun q hq => sm q (List.mem_append_left _ hq), by rw [List.take_length]; exact hrep, fun a H3 e3 fa ha => ?_⟩
    have h3 := h2.ex e3
    refine ⟨_, rfl, _, _, _, _, rfl, h3.ob, T.c_Book, T.n_Book_own, (by show 3 < 1000; decide), ?_⟩
    have fu2 : Fr [B.p] [B.p] H3 (upd H3 B.p (.ins (He.ga K "Book") B.dx (putF "own" (.ref a.p) (bkF { B with rv := us })))) := Fr.upd (by simp) h3.ob rfl
    have pn : B.p ∉ foot a := fun m => by have := fa B.p m; rw [show H2 B.p = _ from h2.ob] at this; cases this
    have wn : B.w ∉ foot a := fun m => by have := fa B.w m; rw [show H2 B.w = _ from h2.wr] at this; cases this
    refine kQ { B with rv := us, own := a } _ rfl ⟨⟨fun c hc => ?_, h.cs.nd⟩, fu2.keep.tup _ _ h3.f, h3.rows.keep fu2.keep, ha.fr fu2 fun b m1 m2 => ?_, fun b m1 m2 => ?_⟩ ?_
    · simp only [List.mem_cons, List.not_mem_nil, or_false] at hc
      rcases hc with rfl | rfl
      · exact upd_same
      · show upd H3 B.p _ B.w = some (.lst us)
        rw [upd_ne npw.symm]
        exact h3.wr
    · rw [List.mem_singleton.mp m1] at m2
      exact pn m2
    · have m1' : b = B.p ∨ b = B.w := by simpa using m1
      rcases m1' with z | z
      · exact pn (by rw [← z]; exact m2)
      · exact wn (by rw [← z]; exact m2)
    · refine ⟨fun b o e n => ?_, fun b hb => ?_, fun b e => fresh_back ez (fu.old b (fresh_back e3 (fu2.old b e))), (Keep.of_ex ez).trans (fu.keep.trans ((Keep.of_ex e3).trans fu2.keep))⟩
      · have n1 : b ≠ B.p := fun z => n (by rw [z]; exact List.mem_append_left _ (by simp))
        have n2 : b ≠ B.w := fun z => n (by rw [z]; exact List.mem_append_left _ (by simp))
        rw [upd_ne n1]
        exact e3 _ _ (fu.out b o (ez _ _ e) (by simpa using n2))
      · have hb' : b ∈ [B.p, B.w] ++ foot a := hb
        rcases List.mem_append.mp hb' with z | z
        · exact .inl (List.mem_append_left _ z)
        · exact .inr (fresh_back ez (fu.old b (fa b z)))
end LG

set_option Elab.async false
set_option linter.all false
set_option maxRecDepth 100000
set_option maxHeartbeats 4000000
namespace LG
open PySem PySem.Spec L2 Evl
open PyProof.Rows hiding St
variable {P : Program} {w : World} {K : PySem.W.Frag} {mg : Str → Option Value} {base : Heap}

/-! ### reasons -/
def dReason : Reason → PyData
  | .inn p => .tuple [.str "in", .int p]
  | .out r => .tuple [.str "out", dGround r]
  | .laid p => .tuple [.str "laid", .int p]
  | .stopped => .tuple [.str "stopped"]
  | .leans ns => .tuple [.str "leans", .list (ns.map PyData.int)]
  | .halving p => .tuple [.str "halving", .int p]
  | .unfit s => .tuple [.str "unfit", .int s]
  | .turn n => .tuple [.str "turn", .int n]
def aheadM (chs : List Chg) (line laid waiting : List Int) (n : Int) : Int := (layableM chs line laid waiting).foldl (fun k m => if (getC chs n).rank < (getC chs m).rank ∨ ((getC chs m).rank = (getC chs n).rank ∧ m < n) then k + 1 else k) 0
theorem dec_int {a b : Int} : decide (V.int a = V.int b) = decide (a = b) := by
  by_cases h : a = b
  · rw [h, decide_eq_true rfl, decide_eq_true rfl]
  · rw [decide_eq_false h, decide_eq_false fun z => h (V.int.inj z)]
def sp_turn_of (K : PySem.W.Frag) : Sp := fun vs H Q _ => ∃ c a chs x y z line laid waiting n, vs = [.ref c, x, y, z, .int n] ∧ ChAt K H c a chs ∧ DpS K H x (line.map PyData.int) ∧ DpS K H y (laid.map PyData.int) ∧ DpS K H z (waiting.map PyData.int) ∧
  LayOk chs line laid waiting ∧ okN chs n ∧ ∀ H', Ex H H' → Q (.int (aheadM chs line laid waiting n)) H'
abbrev N_turn_of : List Str := ["changes", "line", "laid", "waiting", "number", "ahead", "rank", "other"]
theorem sc_turn_of : FnScope N_turn_of ["changes", "line", "laid", "waiting", "number"] (defScope s_turn_of) := ⟨rfl, rfl, rfl, by decide +kernel, rfl, by decide +kernel, by decide +kernel⟩
-- slots: 0:changes 1:line 2:laid 3:waiting 4:number 5:ahead 6:rank 7:other
theorem ok_turn_of (T : Tx K mg) : Ok P w K mg base 5 ("turn_of", none) ["changes", "line", "laid", "waiting", "number"] (sp_turn_of K) := by
  refine T.ok 56 rfl (N := N_turn_of) rfl rfl sc_turn_of (fun vs H Q E h => ?_) (fun _ _ _ _ _ _ us hl => match us, hl with | [_, _, _, _, _], _ => rfl) (fun cdv A outer s H vs Q E hr h => ?_)
  · obtain ⟨_, _, _, _, _, _, _, _, _, _, rfl, _⟩ := h
    rfl
  have hu := hu_of hr
  obtain ⟨c, a, chs, x, y, z, line, laid, waiting, n, rfl, hc, hx, hy, hz, lo, on, k⟩ := h
  refine ⟨_, (pss_cons (ps_set (i := 5) sc_turn_of.nd rfl (by first | exact Or.inl rfl | exact Or.inr rfl) pe_int)
 (pss_cons (ps_set (i := 6) sc_turn_of.nd rfl (by first | exact Or.inl rfl | exact Or.inr rfl) (pe_m (pv 0) (ok_Changes_rank_of T) T.c_Changes T.m_Changes_rank_of hr passL (pa_cons (pv 4) pa_nil)))
 (pss_cons (ps_for (passes_of rfl) rfl (kseq K (pe_f (ok_layable T) hr T.g_layable passL (pa_cons (pv 0) (pa_cons (pv 1) (pa_cons (pv 2) (pa_cons (pv 3) pa_nil)))))) (pg_name (i := 7) sc_turn_of.nd rfl (by first | exact Or.inl rfl | exact Or.inr rfl))
  (pss_one (ps_if (PW.pt (pw_or (pt_cmpR op_gt (pe_m (pv 0) (ok_Changes_rank_of T) T.c_Changes T.m_Changes_rank_of hr passL (pa_cons (pv 7) pa_nil)) (pv 6) (nomark _)) (pw_or1 (PW.pt (pw_and (pt_cmpR op_eq (pe_m (pv 0) (ok_Changes_rank_of T) T.c_Changes T.m_Changes_rank_of hr passL (pa_cons (pv 7) pa_nil)) (pv 6) (nomark _)) (pw_and1 (pt_cmpR op_lt (pv 7) (pv 4) (nomark _)))))))) (pss_one (ps_set (i := 5) sc_turn_of.nd rfl (by first | exact Or.inl rfl | exact Or.inr rfl) (pe_op op_add (pv 5) pe_int))) pss_nil)))
 (pss_one (ps_ret (pv 5)))))), ?_⟩
  refine ⟨_, rfl, c, _, _, rfl, hc.ob, rfl, _, rfl, c, a, chs, n, rfl, hc, on.1, on.2, ?_⟩
  refine ⟨_, rfl, _, rfl, _, rfl, _, rfl, c, a, chs, x, y, z, line, laid, waiting, rfl, hc, hx, hy, hz, lo, fun p H1 np e1 hp => ?_⟩
  have hc1 := hc.ex e1
  refine for_s ((layableM chs line laid waiting).map V.int) (layableM chs line laid waiting) (by rw [List.length_map]) (fun done todo σ' H' => ∃ b v7, σ' = [some (.ref c), some x, some y, some z, some (.int n), some (.int b), some (.int (getC chs n).rank), v7] ∧ H' = H1 ∧ aheadM chs line laid waiting n = todo.foldl (fun k m => if (getC chs n).rank < (getC chs m).rank ∨ ((getC chs m).rank = (getC chs n).rank ∧ m < n) then k + 1 else k) b)
    (HB := H1) (.inl (sq_of hp)) ⟨0, none, rfl, rfl, rfl⟩ ?_ ?_ ?_
  · rintro done todo σ' H' _ ⟨_, _, _, rfl, _⟩
    exact stays_ex (Ex.refl _)
  · rintro done m todo v σ' H' he hv hdd ⟨b, v7, rfl, rfl, hf⟩
    rw [List.getElem?_map, hdd] at hv
    cases hv
    have om : okN chs m := lo.vw m (layable_sub (List.mem_of_getElem? hdd)).1
    rw [List.foldl_cons] at hf
    refine if_or (decide ((getC chs n).rank < (getC chs m).rank)) (decide ((getC chs m).rank = (getC chs n).rank ∧ m < n)) (fun Q' q => ?_) (fun _ Q' q => ?_) ?_
    · exact ⟨_, rfl, c, _, _, rfl, hc1.ob, rfl, _, rfl, c, a, chs, m, rfl, hc1, om.1, om.2, _, rfl, _, _, rfl, rfl, _, rfl, q⟩
    · refine ⟨_, rfl, c, _, _, rfl, hc1.ob, rfl, _, rfl, c, a, chs, m, rfl, hc1, om.1, om.2, _, rfl, rfl, _, rfl, ?_⟩
      rw [dec_int]
      by_cases z : (getC chs m).rank = (getC chs n).rank
      · rw [decide_eq_true z]
        refine iteT ⟨_, rfl, _, rfl, _, _, rfl, rfl, _, rfl, ?_⟩
        have : decide ((getC chs m).rank = (getC chs n).rank ∧ m < n) = decide (m < n) := by rw [decide_eq_decide]; exact ⟨fun h => h.2, fun h => ⟨z, h⟩⟩
        rw [← this]; exact q
      · rw [decide_eq_false z]
        rw [decide_eq_false (fun h => z h.1)] at q
        exact iteF q
    · rw [← Bool.decide_or]
      refine ite2 (fun c => ?_) (fun c => ?_)
      · rw [if_pos (dt c)] at hf
        exact ⟨_, rfl, _, _, rfl, rfl, b + 1, _, rfl, rfl, hf⟩
      · rw [if_neg (df c)] at hf
        exact ⟨b, _, rfl, rfl, hf⟩
  · rintro σ' H' ⟨b, v7, rfl, rfl, hf⟩
    rw [List.foldl_nil] at hf
    rw [hf] at k
    exact ⟨_, rfl, k _ e1⟩
def sp_why_waiting (K : PySem.W.Frag) : Sp := fun vs H Q _ => ∃ a g N c ca n, vs = [.ref a.p, .ref c, .int n] ∧ GtAt K H a g ∧ WF N g ∧ ChAt K H c ca g.chs ∧ okN g.chs n ∧ ∀ v H', Ex H H' → Dp K H' v (dReason (g.whyWaiting n)) → Q v H'
abbrev N_why_waiting : List Str := ["gate", "changes", "number", "line", "laid", "lacking", "slot", "one"]
theorem sc_why_waiting : FnScope N_why_waiting ["gate", "changes", "number"] (defScope s_why_waiting) := ⟨rfl, rfl, rfl, by decide +kernel, rfl, by decide +kernel, by decide +kernel⟩
-- slots: 0:gate 1:changes 2:number 3:line 4:laid 5:lacking 6:slot 7:one
theorem ok_why_waiting (T : Tx K mg) : Ok P w K mg base 6 ("why_waiting", none) ["gate", "changes", "number"] (sp_why_waiting K) := by
  refine T.ok 57 rfl (N := N_why_waiting) rfl rfl sc_why_waiting (fun vs H Q E h => ?_) (fun _ _ _ _ _ _ us hl => match us, hl with | [_, _, _], _ => rfl) (fun cdv A outer s H vs Q E hr h => ?_)
  · obtain ⟨_, _, _, _, _, _, rfl, _⟩ := h
    rfl
  have hu := hu_of hr
  obtain ⟨a, g, N, c, ca, n, rfl, h, W, hc, on, k⟩ := h
  refine ⟨_, (pss_cons (ps_set (i := 3) sc_why_waiting.nd rfl (by first | exact Or.inl rfl | exact Or.inr rfl) (pe_m0 (pv 0) (ok_Gate_line T) T.c_Gate T.m_Gate_line hr passL))
 (pss_cons (ps_set (i := 4) sc_why_waiting.nd rfl (by first | exact Or.inl rfl | exact Or.inr rfl) (pe_m0 (pv 0) (ok_Gate_laid T) T.c_Gate T.m_Gate_laid hr passL))
 (pss_cons (ps_if (pt_val (pe_m0 (pv 0) (ok_Gate_stopped T) T.c_Gate T.m_Gate_stopped hr passL)) (pss_one (ps_ret (pe_tup (pa_cons pe_str pa_nil)))) pss_nil)
 (pss_cons (ps_setLc (i := 5) (own := [("one", 7)]) rfl sc_why_waiting.nd rfl rfl (sw_true rfl rfl rfl (by decide +kernel)) (kseq K (pe_m (pv 1) (ok_Changes_leans_of T) T.c_Changes T.m_Changes_leans_of hr passL (pa_cons (pv 2) pa_nil))) (blkOk_by (N := N_why_waiting) (sc := defScope s_why_waiting) (by decide +kernel)) (fun _ _ _ _ _ => (pg_name (i := 7) sc_why_waiting.nd rfl (by first | exact Or.inl rfl | exact Or.inr rfl))) (fun _ _ _ _ _ => (pts_one (PW.pt (pw_and (pt_cmpR (knin K) (pv 7) (pv 3) (by rfl)) (pw_and1 (pt_cmpR (knin K) (pv 7) (pv 4) (by rfl))))))) (fun _ _ _ _ _ => (pv 7)))
 (pss_cons (ps_if (pt_cmpR (kne K hr) (pv 5) (pe_lst pa_nil) (nomark _)) (pss_one (ps_ret (pe_tup (pa_cons pe_str (pa_cons (pv 5) pa_nil))))) pss_nil)
 (pss_cons (ps_if (pt_cmpR op_notN (pe_m0 (pv 0) (ok_Gate_bad T) T.c_Gate T.m_Gate_bad hr passL) pe_non (nomark _)) (pss_one (ps_ret (pe_tup (pa_cons pe_str (pa_cons (pe_m0 (pv 0) (ok_Gate_bad T) T.c_Gate T.m_Gate_bad hr passL) pa_nil))))) pss_nil)
 (pss_cons (ps_set (i := 6) sc_why_waiting.nd rfl (by first | exact Or.inl rfl | exact Or.inr rfl) (pe_f (ok_unfit T) hr T.g_unfit passL (pa_cons (pe_f (ok_sheet_of T) hr T.g_sheet_of passL (pa_cons (pv 1) (pa_cons (pe_op op_cat (pv 3) (pv 4)) pa_nil))) (pa_cons (pe_m (pv 1) (ok_Changes_edits_of T) T.c_Changes T.m_Changes_edits_of hr passL (pa_cons (pv 2) pa_nil)) pa_nil))))
 (pss_cons (ps_if (pt_cmpR op_notN (pv 6) pe_non (nomark _)) (pss_one (ps_ret (pe_tup (pa_cons pe_str (pa_cons (pv 6) pa_nil))))) pss_nil)
 (pss_one (ps_ret (pe_tup (pa_cons pe_str (pa_cons (pe_f (ok_turn_of T) hr T.g_turn_of passL (pa_cons (pv 1) (pa_cons (pv 3) (pa_cons (pv 4) (pa_cons (pe_m0 (pv 0) (ok_Gate_waiting T) T.c_Gate T.m_Gate_waiting hr passL) (pa_cons (pv 2) pa_nil)))))) pa_nil))))))))))))), ?_⟩
  have sm := W.sm'
  have ln := sm.len
  have lo := W.lay
  have wt := lo.wt
  rw [wtE_app] at wt
  refine ⟨_, rfl, _, _, _, rfl, (h).ob, rfl, a, g, rfl, h, fun p1 H1 n1 e1 h1 => ?_⟩
  have g1 := h.ex e1
  refine ⟨_, rfl, _, _, _, rfl, (g1).ob, rfl, a, g, rfl, g1, fun p2 H2 n2 e2 h2 => ?_⟩
  have e02 := e1.trans e2
  have g2 := h.ex e02
  have h1 := e2 _ _ h1
  refine ⟨_, rfl, _, _, _, rfl, (g2).ob, rfl, a, g, rfl, g2, _, rfl, ?_⟩
  unfold GS.whyWaiting at k
  cases hh : g.halted with
  | true =>
    rw [if_pos hh] at k
    exact iteT ⟨by show 1 ≤ sizeLine; decide, fun t nt => k _ _ (e02.trans (Ex.new nt)) (.tup (st_of upd_same) (.cons (.str _) .nil))⟩
  | false =>
  rw [hh, if_neg (by decide)] at k
  refine iteF ?_
  have hc2 := hc.ex e02
  refine ⟨_, rfl, c, _, _, rfl, hc2.ob, rfl, _, rfl, c, ca, g.chs, n, rfl, hc2, on.1, on.2, fun p3 H3 n3 e3 h3 => ?_⟩
  have hz := (getC_sm W.sm n).1
  refine lc_d (K := K) ((getC g.chs n).leans.map V.int) (getC g.chs n).leans (fun m => if (decide (m ∉ g.top) && decide (m ∉ g.upon)) = true then some (.int m) else none) (by rw [List.length_map]) (by omega) (.inl (sq_of h3)) ?_ ?_ ?_
  · intro n e he
    split at he
    · cases he; rfl
    · cases he
  · intro m v H4 Yes No e4 hm i hv hi yes no
    rw [List.getElem?_map, hi] at hv
    cases hv
    have e24 := e3.trans e4
    refine ⟨rfl, _, rfl, _, rfl, p1, _, rfl, .inl (sq_of (e24 _ _ h1)), rfl, flat_ints _, _, rfl, ?_⟩
    rw [if_pos rfl, inV_ints, not_decide]
    by_cases z1 : m ∉ g.top
    · rw [decide_eq_true z1]
      refine iteT ⟨_, rfl, _, rfl, p2, _, rfl, .inl (sq_of (e24 _ _ h2)), rfl, flat_ints _, _, rfl, ?_⟩
      rw [if_pos rfl, inV_ints, not_decide]
      rw [decide_eq_true z1, Bool.true_and] at yes no
      by_cases z2 : m ∉ g.upon
      · rw [decide_eq_true z2] at yes ⊢
        exact iteT ⟨_, rfl, yes _ _ _ (Ex.refl _) rfl (.int _)⟩
      · rw [decide_eq_false z2] at no ⊢
        exact iteF (no _ (Ex.refl _) rfl)
    · rw [decide_eq_false z1]
      rw [decide_eq_false z1, Bool.false_and] at no
      exact iteF (iteF (no _ (Ex.refl _) rfl))
  intro M ys H4 nM e4 hM hp4
  have q4 : (getC g.chs n).leans.filterMap (fun m => if (decide (m ∉ g.top) && decide (m ∉ g.upon)) = true then some (PyData.int m) else none) = (g.lacking n).map PyData.int := fm_if (fun m => decide (m ∉ g.top) && decide (m ∉ g.upon)) PyData.int _
  rw [q4] at hp4
  rw [dpa_ints hp4] at hM
  have e24 := e3.trans e4
  have e04 := e02.trans e24
  refine ⟨_, rfl, Nat.zero_le _, fun z nz => ?_⟩
  have ez := Ex.new (o := .lst []) nz
  have hM5 := ez _ _ hM
  refine ⟨.list ((g.lacking n).map PyData.int), .list [], .lst (sq_of hM5) (dpa_of_ints _), .lst (sq_of upd_same) .nil, PySem.W.ke_shaped_ints _, by decide +kernel, _, rfl, ?_⟩
  have e05 := e04.trans ez
  have e25 := e24.trans ez
  clear nz
  generalize upd H4 z (.lst []) = H5 at ez hM5 e05 e25 ⊢
  have ee : PyData.eqv (.list ((g.lacking n).map PyData.int)) (.list []) = decide (g.lacking n = []) := by
    cases g.lacking n <;> rfl
  rw [ee, not_decide]
  refine ite2 (fun c1 => ?_) (fun c1 => ?_)
  · rw [if_pos (dt c1)] at k
    exact ⟨_, rfl, by show 2 ≤ sizeLine; decide, fun t nt => k _ _ (e05.trans (Ex.new nt)) (.tup (st_of upd_same) (.cons (.str _) (.cons (.lst (sq_of (Ex.new nt _ _ hM5)) (dpa_of_ints _)) .nil)))⟩
  rw [if_neg (df c1)] at k
  have g5 := h.ex e05
  refine ⟨_, rfl, _, _, _, rfl, (g5).ob, rfl, a, g, rfl, g5, sm, fun H6 e6 => ⟨rfl, _, rfl, ?_⟩⟩
  have e06 := e05.trans e6
  have g6 := h.ex e06
  rw [vOpt_none, not_decide]
  cases hb : g.bad with
  | some b =>
    rw [hb] at k
    rw [decide_eq_true (fun z => by cases z)]
    refine iteT ⟨_, rfl, _, _, _, rfl, (g6).ob, rfl, a, g, rfl, g6, sm, fun H7 e7 => ⟨by show 2 ≤ sizeLine; decide, fun t nt => ?_⟩⟩
    rw [hb]
    exact k _ _ (e06.trans (e7.trans (Ex.new nt))) (.tup (st_of upd_same) (.cons (.str _) (.cons (.int _) .nil)))
  | none =>
  rw [hb] at k
  rw [decide_eq_false (fun z => z rfl)]
  refine iteF ?_
  have e26 := e25.trans e6
  have hc6 := hc.ex e06
  refine ⟨_, rfl, _, rfl, _, rfl, p1, p2, _, _, rfl, rfl, e26 _ _ h1, e26 _ _ h2, by rw [List.length_map, List.length_map, sizeLine_eq]; omega, fun q nq => ?_⟩
  rw [← List.map_append]
  have eq := Ex.new (o := .lst ((g.top ++ g.upon).map V.int)) nq
  have e0q := e06.trans eq
  refine ⟨c, ca, g.chs, .ref q, g.top ++ g.upon, rfl, hc.ex e0q, .inl (.lst (sq_of upd_same) (dpa_of_ints _)), lo.vl, lo.st, by omega, fun sh shs H7 nsh e7 hsh1 hsh2 => ?_⟩
  have e07 := e0q.trans e7
  have hc7 := hc.ex e07
  refine ⟨_, rfl, c, _, _, rfl, hc7.ob, rfl, _, rfl, c, ca, g.chs, n, rfl, hc7, on.1, on.2, fun ed eds H8 ned e8 hed1 hed2 => ?_⟩
  refine ⟨_, _, _, _, rfl, dp_ex e8 (.lst (sq_of hsh1) hsh2), .lst (sq_of hed1) hed2, fun H9 e9 => ?_⟩
  have e09 := e07.trans (e8.trans e9)
  refine ⟨_, rfl, rfl, _, rfl, ?_⟩
  cases hu2 : unfitM (sheetM g.chs (g.top ++ g.upon)) (getC g.chs n).edits with
  | some s =>
    rw [hu2] at k
    exact iteT ⟨_, rfl, by show 2 ≤ sizeLine; decide, fun t nt => k _ _ (e09.trans (Ex.new nt)) (.tup (st_of upd_same) (.cons (.str _) (.cons (.int _) .nil)))⟩
  | none =>
  rw [hu2] at k
  refine iteF ?_
  have g9 := h.ex e09
  have e29 := e26.trans (eq.trans (e7.trans (e8.trans e9)))
  refine ⟨_, rfl, _, rfl, _, rfl, _, rfl, _, _, _, rfl, (g9).ob, rfl, a, g, rfl, g9, fun w1 H10 nw e10 hw => ?_⟩
  have e010 := e09.trans e10
  have e210 := e29.trans e10
  refine ⟨_, rfl, c, ca, g.chs, _, _, _, g.top, g.upon, g.queue, n, rfl, hc.ex e010, .inl (.lst (sq_of (e210 _ _ h1)) (dpa_of_ints _)), .inl (.lst (sq_of (e210 _ _ h2)) (dpa_of_ints _)), .inl (.lst (sq_of hw) (dpa_of_ints _)), lo, on, fun H11 e11 => ⟨by show 2 ≤ sizeLine; decide, fun t nt => ?_⟩⟩
  exact k _ _ (e010.trans (e11.trans (Ex.new nt))) (.tup (st_of upd_same) (.cons (.str _) (.cons (.int _) .nil)))
end LG

set_option Elab.async false
set_option linter.all false
set_option maxRecDepth 100000
set_option maxHeartbeats 4000000
namespace LG
open PySem PySem.Spec L2 Evl
open PyProof.Rows hiding St
variable {P : Program} {w : World} {K : PySem.W.Frag} {mg : Str → Option Value} {base : Heap}

def sp_why (K : PySem.W.Frag) : Sp := fun vs H Q E => ∃ a g N n, vs = [.ref a.p, .int n] ∧ GtAt K H a g ∧ WF N g ∧ (g.why n = none → ∀ H', Ex H H' → E (.ref (He.ga K "NoChange")) none H') ∧ (∀ r, g.why n = some r → ∀ v H', Ex H H' → Dp K H' v (dReason r) → Q v H')
abbrev N_why : List Str := ["gate", "number", "changes", "one", "ground"]
theorem sc_why : FnScope N_why ["gate", "number"] (defScope s_why) := ⟨rfl, rfl, rfl, by decide +kernel, rfl, by decide +kernel, by decide +kernel⟩
-- slots: 0:gate 1:number 2:changes 3:one 4:ground
theorem ok_why (T : Tx K mg) : Ok P w K mg base 7 ("why", none) ["gate", "number"] (sp_why K) := by
  refine T.ok 58 rfl (N := N_why) rfl rfl sc_why (fun vs H Q E h => ?_) (fun _ _ _ _ _ _ us hl => match us, hl with | [_, _], _ => rfl) (fun cdv A outer s H vs Q E hr h => ?_)
  · obtain ⟨_, _, _, _, rfl, _⟩ := h
    rfl
  have hu := hu_of hr
  obtain ⟨a, g, N, n, rfl, h, W, kE, kQ⟩ := h
  refine ⟨_, (pss_cons (ps_set (i := 2) sc_why.nd rfl (by first | exact Or.inl rfl | exact Or.inr rfl) (pe_m0 (pv 0) (ok_Gate_changes T) T.c_Gate T.m_Gate_changes hr passL))
 (pss_cons (ps_if (PW.pt (pw_or (pt_cmpR op_lt (pv 1) pe_int (nomark _)) (pw_or1 (pt_cmpR op_gt (pv 1) (pe_m0 (pv 2) (ok_Changes_many T) T.c_Changes T.m_Changes_many hr passL) (nomark _))))) (pss_one (ps_rz T.x_NoChange T.g_NoChange (takes_of rfl rfl rfl rfl))) pss_nil)
 (pss_cons (ps_if (pt_cmpR (kin K) (pv 1) (pe_m0 (pv 0) (ok_Gate_line T) T.c_Gate T.m_Gate_line hr passL) (by rfl)) (pss_one (ps_ret (pe_tup (pa_cons pe_str (pa_cons (kbm K PySem.F.plainAttrs_list PySem.F.slot_list_index PySem.F.type_list_index (kindex K) (pe_m0 (pv 0) (ok_Gate_line T) T.c_Gate T.m_Gate_line hr passL) (pa_cons (pv 1) pa_nil)) pa_nil))))) pss_nil)
 (pss_cons (ps_for (passes_of rfl) rfl (kseq K (pe_m0 (pv 0) (ok_Gate_outs T) T.c_Gate T.m_Gate_outs hr passL)) (ktup K 2 (pgs_cons (pg_name (i := 3) sc_why.nd rfl (by first | exact Or.inl rfl | exact Or.inr rfl)) (pgs_cons (pg_name (i := 4) sc_why.nd rfl (by first | exact Or.inl rfl | exact Or.inr rfl)) pgs_nil)))
  (pss_one (ps_if (pt_cmpR op_eq (pv 3) (pv 1) (nomark _)) (pss_one (ps_ret (pe_tup (pa_cons pe_str (pa_cons (pv 4) pa_nil))))) pss_nil)))
 (pss_cons (ps_if (pt_cmpR (kin K) (pv 1) (pe_m0 (pv 0) (ok_Gate_laid T) T.c_Gate T.m_Gate_laid hr passL) (by rfl)) (pss_one (ps_ret (pe_tup (pa_cons pe_str (pa_cons (kbm K PySem.F.plainAttrs_list PySem.F.slot_list_index PySem.F.type_list_index (kindex K) (pe_m0 (pv 0) (ok_Gate_laid T) T.c_Gate T.m_Gate_laid hr passL) (pa_cons (pv 1) pa_nil)) pa_nil))))) pss_nil)
 (pss_one (ps_ret (pe_f (ok_why_waiting T) hr T.g_why_waiting passL (pa_cons (pv 0) (pa_cons (pv 2) (pa_cons (pv 1) pa_nil))))))))))), ?_⟩
  have sm := W.sm'
  have ln := sm.len
  refine ⟨_, rfl, _, _, _, rfl, (h).ob, rfl, a, g, N, rfl, h, W, fun c ca H1 e1 hc => ?_⟩
  have g1 := h.ex e1
  unfold GS.why at kE kQ
  dsimp only [gName, tSeq]
  refine if_or (decide (n < 1)) (decide ((g.chs.length : Int) < n)) (fun Q' q => ⟨_, rfl, _, _, rfl, rfl, _, rfl, q⟩) (fun _ Q' q => ⟨_, rfl, _, rfl, c, _, _, rfl, hc.ob, rfl, c, ca, g.chs, rfl, hc, _, _, rfl, rfl, _, rfl, q⟩) ?_
  rw [← Bool.decide_or]
  refine ite2 (fun z => ?_) (fun z => ?_)
  · rw [if_pos (dt z)] at kE
    exact kE rfl H1 e1
  have z1 := df z
  have on : okN g.chs n := ⟨by omega, by omega⟩
  rw [if_neg z1] at kE kQ
  clear kE
  refine ⟨_, rfl, _, rfl, _, _, _, rfl, (g1).ob, rfl, a, g, rfl, g1, fun p2 H2 np2 e2 h2 => ?_⟩
  refine ⟨p2, _, rfl, .inl (sq_of h2), rfl, flat_ints _, _, rfl, ?_⟩
  rw [if_neg (by decide), inV_ints]
  have e02 := e1.trans e2
  have g2 := h.ex e02
  refine ite2 (fun z => ?_) (fun z => ?_)
  · have zt := dt z
    rw [if_pos zt] at kQ
    refine ⟨_, rfl, _, _, _, rfl, (g2).ob, rfl, a, g, rfl, g2, fun p3 H3 np3 e3 h3 => ?_⟩
    refine ⟨.inl ⟨rfl, _, sq_of h3⟩, _, rfl, p3, _, _, g.top.idxOf n, .int n, rfl, rfl, sq_of h3, rfl, flat_ints _, (idx_rd zt).1, (idx_rd zt).2.1, (idx_rd zt).2.2, ?_⟩
    exact ⟨by show 2 ≤ sizeLine; decide, fun t nt => kQ _ rfl _ _ (e02.trans (e3.trans (Ex.new nt))) (.tup (st_of upd_same) (.cons (.str _) (.cons (.int _) .nil)))⟩
  rw [if_neg (df z)] at kQ
  refine ⟨_, rfl, _, _, _, rfl, (g2).ob, rfl, a, g, rfl, g2, sm, fun p3 ys H3 np3 e3 h3 d3 => ?_⟩
  have e03 := e02.trans e3
  have g3 := h.ex e03
  have hc3 := (hc.ex e2).ex e3
  refine for_s ys (isort g.keys) (by rw [d3.len, List.length_map]) (fun done todo σ' H' => (∃ v3 v4, σ' = [some (.ref a.p), some (.int n), some (.ref c), v3, v4]) ∧ H3 = H' ∧ n ∉ done) (HB := H3) (.inl (sq_of h3)) ⟨⟨_, _, rfl⟩, rfl, by simp⟩ ?_ ?_ ?_
  · rintro done todo σ' H' _ ⟨_, rfl, _⟩
    exact stays_ex (Ex.refl _)
  · rintro done m todo v σ' H' he hv hdd ⟨⟨v3, v4, rfl⟩, rfl, hnd⟩
    have q := d3.get hv (by rw [List.getElem?_map, hdd]; rfl)
    obtain ⟨t, u1, u2, rfl, ht, w1, w2⟩ := dp_tup2 q
    rw [dp_int w1] at ht
    refine ⟨t, _, rfl, ht, rfl, _, _, rfl, _, _, rfl, rfl, ?_⟩
    refine ⟨_, rfl, _, rfl, rfl, _, rfl, ?_⟩
    rw [dec_int]
    refine ite2 (fun z => ?_) (fun z => ?_)
    · have e := dt z
      subst e
      have hk : m ∈ g.keys := (isort_perm _).mem_iff.mp (List.mem_of_getElem? hdd)
      have hg := isGone_iff.mpr hk
      unfold GS.isGone at hg
      cases hlk : LG.look g.gone m with
      | none => rw [hlk] at hg; cases hg
      | some r =>
        rw [hlk] at kQ w2
        exact ⟨_, rfl, by show 2 ≤ sizeLine; decide, fun t nt => kQ _ rfl _ _ (e03.trans (Ex.new nt)) (.tup (st_of upd_same) (.cons (.str _) (.cons (dp_ex (Ex.new nt) w2) .nil)))⟩
    · refine ⟨⟨_, _, rfl⟩, rfl, fun hm => ?_⟩
      rcases List.mem_append.mp hm with y | y
      · exact hnd y
      · exact df z (List.mem_singleton.mp y).symm
  · rintro σ' H' ⟨⟨v3, v4, rfl⟩, rfl, hnd⟩
    have hk : n ∉ g.keys := fun hk => hnd ((isort_perm _).mem_iff.mpr hk)
    rw [not_gone hk] at kQ
    refine ⟨_, rfl, _, rfl, _, _, _, rfl, (g3).ob, rfl, a, g, rfl, g3, fun p4 H4 np4 e4 h4 => ?_⟩
    refine ⟨p4, _, rfl, .inl (sq_of h4), rfl, flat_ints _, _, rfl, ?_⟩
    rw [if_neg (by decide), inV_ints]
    have e04 := e03.trans e4
    have g4 := h.ex e04
    refine ite2 (fun z => ?_) (fun z => ?_)
    · have zt := dt z
      simp only [if_pos zt] at kQ
      refine ⟨_, rfl, _, _, _, rfl, (g4).ob, rfl, a, g, rfl, g4, fun p5 H5 np5 e5 h5 => ?_⟩
      refine ⟨.inl ⟨rfl, _, sq_of h5⟩, _, rfl, p5, _, _, g.upon.idxOf n, .int n, rfl, rfl, sq_of h5, rfl, flat_ints _, (idx_rd zt).1, (idx_rd zt).2.1, (idx_rd zt).2.2, ?_⟩
      exact ⟨by show 2 ≤ sizeLine; decide, fun t nt => kQ _ rfl _ _ (e04.trans (e5.trans (Ex.new nt))) (.tup (st_of upd_same) (.cons (.str _) (.cons (.int _) .nil)))⟩
    · simp only [if_neg (df z)] at kQ
      exact ⟨_, rfl, _, rfl, _, rfl, a, g, N, c, ca, n, rfl, g4, W, hc3.ex e4, on, fun v H5 e5 hv => kQ _ rfl v H5 (e04.trans e5) hv⟩
end LG

set_option Elab.async false
set_option linter.all false
set_option maxRecDepth 100000
set_option maxHeartbeats 4000000
/-! Plain laws of texts: numbers and words. -/
namespace LG
open PySem PySem.Spec L2 Evl TL
open PyProof.Rows hiding St
abbrev numS (i : Int) : Str := toString i
def good (i : Int) : Prop := 0 ≤ i ∧ i < 1000000000000
theorem tl_numS {i : Int} (h : 0 ≤ i) : tl (numS i) = numL i.toNat := by
  have e : i = ((i.toNat : Nat) : Int) := by omega
  have := tl_num i.toNat
  rw [← e] at this
  exact this
theorem numL_dig {n c : Nat} (h : c ∈ numL n) : 48 ≤ c ∧ c ≤ 57 := by
  have := numL_digits n c h
  omega
theorem numL_len12 {i : Int} (h : good i) : (numL i.toNat).length ≤ 12 := by
  refine numL_len (by decide) ?_
  have := h.2
  have e : (10 : Nat) ^ 12 = 1000000000000 := by decide
  rw [e]
  have := h.1
  omega
theorem numS_len {i : Int} (h : good i) : (numS i).length ≤ 12 ∧ 1 ≤ (numS i).length := by
  have e : (numS i).length = (numL i.toNat).length := by rw [len_tl, tl_numS h.1]
  rw [e]
  refine ⟨numL_len12 h, ?_⟩
  have := List.length_pos_iff.mpr (numL_ne i.toNat)
  omega
theorem numS_int {i : Int} (h : good i) : intText? (numS i) = some i := by
  have hl := numL_len12 h
  have := int_num (n := i.toNat) (by omega)
  have e : i = ((i.toNat : Nat) : Int) := by have := h.1; omega
  rw [← e] at this
  exact this
theorem numS_free {i : Int} {s : Nat} (h : 0 ≤ i) (hs : s < 48 ∨ 57 < s) : s ∉ tl (numS i) := by
  rw [tl_numS h]; exact numL_free hs
theorem good_log {i : Int} (h : good i) : i.natAbs.log2 < 1920 := by
  have e : (2 : Nat) ^ 40 = 1099511627776 := by decide
  have h0 : i.natAbs < 2 ^ 40 := by
    have h1 := h.1
    have h2 := h.2
    rw [e]
    omega
  by_cases z : i.natAbs = 0
  · rw [z]; decide
  · have := (Nat.log2_lt z).mpr h0
    omega
theorem numL_head : ∀ n : Nat, ∃ c r, numL n = c :: r ∧ (c = 48 → n = 0) := by
  intro n
  induction n using Nat.strongRecOn with
  | _ n ih =>
    by_cases h : n < 10
    · exact ⟨48 + n, [], numL_lt h, fun e => by omega⟩
    · obtain ⟨c, r, e, hc⟩ := ih (n / 10) (by omega)
      refine ⟨c, r ++ [48 + n % 10], ?_, fun z => ?_⟩
      · rw [numL_step (by omega), e]; rfl
      · have := hc z; omega
theorem numS_inj {i j : Int} (hi : 0 ≤ i) (hj : 0 ≤ j) (h : numS i = numS j) : i = j := by
  have e : numL i.toNat = numL j.toNat := by rw [← tl_numS hi, ← tl_numS hj, h]
  have := numL_inj e
  omega
theorem numS_zero : numS 0 = ("0" : Str) := by decide +kernel
/-- texts of laid signs -/
theorem strOk_tl {z : Str} (h : ∀ c ∈ tl z, c < 1114112) : PyData.strOk z = true := by
  show z.cps.all (· < 0x110000) = true
  rw [← Array.all_toList, List.all_eq_true]
  intro c hc
  exact decide_eq_true (h c hc)
theorem numS_ok {i : Int} (h : 0 ≤ i) : PyData.strOk (numS i) = true := strOk_tl fun c hc => by
  rw [tl_numS h] at hc
  have := numL_dig hc
  omega
/-- lists of texts as data -/
theorem eqv_strsL : ∀ a b : List Str, PyData.eqvAll (a.map PyData.str) (b.map PyData.str) = decide (a = b)
  | [], [] => by simp [PyData.eqvAll]
  | [], _ :: _ => by simp [PyData.eqvAll]
  | _ :: _, [] => by simp [PyData.eqvAll]
  | x :: r, y :: t => by
    simp only [List.map_cons, PyData.eqvAll, PyData.eqv, eqv_strsL r t]
    by_cases h : x = y
    · by_cases h2 : r = t
      · simp [h, h2]
      · simp [h, h2]
    · simp [h]
theorem eqv_strs (a b : List Str) : PyData.eqv (.list (a.map PyData.str)) (.list (b.map PyData.str)) = decide (a = b) := by
  simp only [PyData.eqv]; exact eqv_strsL a b
theorem lay_strs : ∀ {a : List Str}, (∀ z ∈ a, PyData.strOk z = true) → PyData.canLayAll0 (a.map PyData.str) = true
  | [], _ => by simp [PyData.canLayAll0]
  | x :: r, h => by
    have h1 := h x List.mem_cons_self
    have h2 := lay_strs fun z hz => h z (List.mem_cons_of_mem x hz)
    simp [PyData.canLayAll0, PyData.canLay0, h1, h2]
theorem depth_strs : ∀ a : List Str, PyData.depthAll (a.map PyData.str) = 0
  | [] => by simp [PyData.depthAll]
  | _ :: r => by simp [PyData.depthAll, PyData.depth, depth_strs r]
theorem shaped_strs {a : List Str} (h : ∀ z ∈ a, PyData.strOk z = true) : SeqAt.shaped (.list (a.map PyData.str)) = true := by
  refine shaped_of (by simp only [PyData.canLay0]; exact lay_strs h) ?_
  simp only [PyData.depth, depth_strs]
  omega
/-- joined texts -/
theorem tl_joinT (y : Str) (ps : List Str) : tl (Txt.join y ps) = joinL (tl y) (ps.map tl) := by rw [join_eq, tl_join]
theorem joinL_app (S : List Nat) : ∀ {a b : List (List Nat)}, a ≠ [] → b ≠ [] → joinL S (a ++ b) = joinL S a ++ (S ++ joinL S b)
  | [], _, h, _ => absurd rfl h
  | [p], b, _, hb => by
    cases b with
    | nil => exact absurd rfl hb
    | cons q r => rfl
  | p :: q :: r, b, _, hb => by
    show p ++ (S ++ joinL S ((q :: r) ++ b)) = (p ++ (S ++ joinL S (q :: r))) ++ (S ++ joinL S b)
    rw [joinL_app S (by simp) hb]
    simp
theorem join_app {y : Str} {a b : List Str} (ha : a ≠ []) (hb : b ≠ []) : Txt.join y (a ++ b) = Txt.join y a ++ y ++ Txt.join y b := by
  refine ext_tl ?_
  rw [tl_append, tl_append, tl_joinT, tl_joinT, tl_joinT, List.map_append, joinL_app _ (by simpa using ha) (by simpa using hb), List.append_assoc]
theorem join_one (y x : Str) : Txt.join y [x] = x := by
  refine ext_tl ?_
  rw [tl_joinT]; rfl
theorem join_flat {y : Str} : ∀ {qs : List (List Str)}, (∀ q ∈ qs, q ≠ []) → Txt.join y (qs.map (Txt.join y)) = Txt.join y qs.flatten
  | [], _ => rfl
  | [q], h => by
    show Txt.join y [Txt.join y q] = Txt.join y (q ++ [])
    rw [join_one, List.append_nil]
  | q :: p :: r, h => by
    have hp := h p (by simp)
    have ih := join_flat (y := y) (qs := p :: r) (fun z hz => h z (List.mem_cons_of_mem _ hz))
    show Txt.join y ([Txt.join y q] ++ (p :: r).map (Txt.join y)) = Txt.join y (q ++ (p :: r).flatten)
    rw [join_app (by simp) (by simp), join_one, ih, join_app (h q (by simp)) (by
      show p ++ r.flatten ≠ []
      simp [hp])]
theorem joinL_mem {S : List Nat} {c : Nat} : ∀ {ps : List (List Nat)}, c ∈ joinL S ps → c ∈ S ∨ ∃ p ∈ ps, c ∈ p
  | [], h => by cases h
  | [p], h => .inr ⟨p, by simp, h⟩
  | p :: q :: r, h => by
    have h' : c ∈ p ++ (S ++ joinL S (q :: r)) := h
    rcases List.mem_append.mp h' with z | z
    · exact .inr ⟨p, by simp, z⟩
    rcases List.mem_append.mp z with z | z
    · exact .inl z
    rcases joinL_mem z with z | ⟨x, hx, z⟩
    · exact .inl z
    · exact .inr ⟨x, List.mem_cons_of_mem _ hx, z⟩
theorem join_mem {y : Str} {ps : List Str} {c : Nat} (h : c ∈ tl (Txt.join y ps)) : c ∈ tl y ∨ ∃ p ∈ ps, c ∈ tl p := by
  rw [tl_joinT] at h
  rcases joinL_mem h with z | ⟨p, hp, z⟩
  · exact .inl z
  · obtain ⟨q, hq, rfl⟩ := List.mem_map.mp hp
    exact .inr ⟨q, hq, z⟩
theorem joinL_len {S : List Nat} : ∀ ps : List (List Nat), (joinL S ps).length ≤ (ps.map List.length).sum + ps.length * S.length
  | [] => Nat.zero_le _
  | [p] => by simp [joinL]
  | p :: q :: r => by
    have := joinL_len (S := S) (q :: r)
    show (p ++ (S ++ joinL S (q :: r))).length ≤ _
    rw [List.length_append, List.length_append]
    simp only [List.map_cons, List.sum_cons, List.length_cons] at this ⊢
    have e : (r.length + 1 + 1) * S.length = (r.length + 1) * S.length + S.length := Nat.succ_mul _ _
    omega
theorem join_len (y : Str) (ps : List Str) : (Txt.join y ps).length ≤ (ps.map (·.length)).sum + ps.length * y.length := by
  have := joinL_len (S := tl y) (ps.map tl)
  rw [len_tl, tl_joinT, len_tl y]
  rw [List.length_map, List.map_map] at this
  have e : ps.map (·.length) = ps.map (List.length ∘ tl) := List.map_congr_left fun z _ => len_tl z
  rw [e]
  exact this
theorem sum_le {ps : List Str} {m : Nat} (h : ∀ p ∈ ps, p.length ≤ m) : (ps.map (·.length)).sum ≤ ps.length * m := by
  induction ps with
  | nil => simp
  | cons p r ih =>
    have h1 := h p List.mem_cons_self
    have h2 := ih fun q hq => h q (List.mem_cons_of_mem _ hq)
    simp only [List.map_cons, List.sum_cons, List.length_cons]
    have e : (r.length + 1) * m = r.length * m + m := Nat.succ_mul _ _
    omega
theorem eq_str {a b : Str} : decide (V.str a = V.str b) = decide (a = b) := by
  by_cases h : a = b
  · rw [h, decide_eq_true rfl, decide_eq_true rfl]
  · rw [decide_eq_false h, decide_eq_false fun z => h (V.str.inj z)]
end LG

set_option Elab.async false
set_option linter.all false
set_option maxRecDepth 100000
set_option maxHeartbeats 4000000
namespace LG
open PySem PySem.Spec L2 Evl
open PyProof.Rows hiding St
variable {P : Program} {w : World} {K : PySem.W.Frag} {mg : Str → Option Value} {base : Heap}

open TL
/-- a comprehension over a walk whose turns leave the heap as it is -/
theorem lc_wd {K : PySem.W.Frag} {J : It} {n : Nat} {Y : Nat → Hp → V → Hp → Prop} (w : Walk J n (fun _ => True) Y) {R : Nat → V → Prop} (hY : ∀ i H x H', Y i H x H' → H' = H ∧ R i x) {g : TG} {te : TE} {vs : List Nat} {σ : L2.St} {H : Hp} {Q : Addr → Hp → Prop} (f : Nat → PyData) (hz : n < 1000000) (hn : ∀ i, noList (f i) = true)
    (hs : ∀ i x H' (Yes : V → Hp → Prop), Ex H H' → i < n → R i x → (∀ y H4, Ex H' H4 → Dp K H4 y (f i) → Yes y H4) → g x (wipe σ vs) H' fun σ2 H2 => wipe σ2 vs = wipe σ vs ∧ te σ2 H2 Yes)
    (hd : ∀ L ys H', H L = none → Ex H H' → H' L = some (.lst ys) → DpAll K H' ys ((List.range n).map f) → Q L H') :
    ∀ D, H D = none → ∃ W : Nat → Nat → Hp → Prop, (∃ m, W 0 m (upd H D (.lst []))) ∧ ∀ i m H, W i m H →
      (J.stop i H ∧ Q D H) ∨ (J.go i H ∧ ∃ Nx : Hp → Prop, (∀ H', Nx H' → ∃ m', m' < m ∧ W (i + 1) m' H') ∧ ∀ x H', J.yld i H x H' → g x (wipe σ vs) H' fun σ2 H2 => wipe σ2 vs = wipe σ vs ∧ tYes σ2 H2 fun b H3 =>
        if b = true then te σ2 H3 fun y H4 => ∃ acc, H4 D = some (.lst acc) ∧ acc.length < sizeLine ∧ Nx (upd H4 D (.lst (acc ++ [y]))) else Nx H3) := by
  intro D nD
  refine lc_it w (fun i H' => Ex H H' ∧ ∃ ys, H' D = some (.lst ys) ∧ ys.length = i ∧ DpAll K H' ys ((List.range i).map f)) ⟨Ex.new nD, [], upd_same, rfl, .nil⟩ (fun _ _ _ _ => trivial) ?_ (fun H' ⟨e, ys, h1, _, h2⟩ => hd D ys H' nD e h1 h2)
  rintro i x H1 H2 hi ⟨e, ys, hy, hl, hp⟩ hyx
  obtain ⟨rfl, hr⟩ := hY i H1 x H2 hyx
  have hal : noList.all ((List.range i).map f) = true := all_noList fun z hz => by
    obtain ⟨q, _, rfl⟩ := List.mem_map.mp hz
    exact hn q
  refine hs i x H2 _ e hi hr (fun y H4 e4 hz3 => ?_)
  refine ⟨ys, e4 D _ hy, by rw [sizeLine_eq]; omega, Ex.mut (e.trans e4) nD, ys ++ [y], upd_same, by rw [List.length_append, hl]; rfl, ?_⟩
  have kp : Keep H4 (upd H4 D (.lst (ys ++ [y]))) := keep_lst (e4 D _ hy)
  rw [List.range_succ, List.map_append]
  exact (dpa_keep kp hal (dpa_ex e4 hp)).snoc (dp_keep kp (hn i) hz3)
def sp_is_number (K : PySem.W.Frag) : Sp := fun vs H Q _ => ∃ n, vs = [.str (numS n)] ∧ good n ∧ ∀ H', Ex H H' → Q (.bl true) H'
abbrev N_is_number : List Str := ["word", "sign"]
theorem sc_is_number : FnScope N_is_number ["word"] (defScope s_is_number) := ⟨rfl, rfl, rfl, by decide +kernel, rfl, by decide +kernel, by decide +kernel⟩
-- slots: 0:word 1:sign
theorem ok_is_number (T : Tx K mg) : Ok P w K mg base 1 ("is_number", none) ["word"] (sp_is_number K) := by
  refine T.ok 59 rfl (N := N_is_number) rfl rfl sc_is_number (fun vs H Q E h => ?_) (fun _ _ _ _ _ _ us hl => match us, hl with | [_], _ => rfl) (fun cdv A outer s H vs Q E hr h => ?_)
  · obtain ⟨_, rfl, _⟩ := h
    rfl
  obtain ⟨uMOST, gMOST, rMOST⟩ := T.i_MOST
  obtain ⟨uFIGURES, gFIGURES, rFIGURES⟩ := T.s_FIGURES
  have hu := hu_of hr
  obtain ⟨n, rfl, hg, k⟩ := h
  refine ⟨_, (pss_cons (ps_if (PW.pt (pw_or (pt_cmpR op_lt (pe_callB call_len_str (by rfl) T.b_len (by decide +kernel) (pa_cons (pv 0) pa_nil)) pe_int (nomark _)) (pw_or (pt_cmpR op_gt (pe_callB call_len_str (by rfl) T.b_len (by decide +kernel) (pa_cons (pv 0) pa_nil)) (pe_glob rfl gMOST rMOST) (nomark _)) (pw_or1 (pt_not (pt_val (pe_callB (kall K) (by rfl) T.b_all (by decide +kernel) (pa_cons (pe_lc (own := [("sign", 1)]) (tt := tYes) (by rfl) sc_is_number.nd (pi_str (pv 0)) (blkOk_by (N := N_is_number) (sc := defScope s_is_number) (by decide +kernel)) (fun _ _ _ _ _ => (pg_name (i := 1) sc_is_number.nd rfl (by first | exact Or.inl rfl | exact Or.inr rfl))) (fun _ _ _ _ _ => pts_nil) (fun _ _ _ _ _ => (pe_cmpR op_in_sign (pv 1) (pe_glob rfl gFIGURES rFIGURES) (by rfl)))) pa_nil)))))))) (pss_one (ps_ret pe_bl)) pss_nil)
 (pss_one (ps_ret (pe_or (pe_cmpR op_ne (pe_ix ix_str (pv 0) pe_int (fun _ _ => rfl)) pe_str (nomark _)) (pe_one (pe_cmpR op_eq (pv 0) pe_str (nomark _))))))), ?_⟩
  obtain ⟨l1, l2⟩ := numS_len hg
  refine ⟨_, rfl, _, rfl, by rw [sizeLine_eq]; omega, _, _, rfl, rfl, _, rfl, ?_⟩
  rw [decide_eq_false (by omega)]
  refine iteF ⟨_, rfl, _, rfl, by rw [sizeLine_eq]; omega, _, _, rfl, rfl, _, rfl, ?_⟩
  rw [decide_eq_false (by omega)]
  refine iteF ⟨_, rfl, _, rfl, lc_wd (K := K) (walk_str (z := numS n)) (R := fun i x => ∃ c, (numS n).cps[i]? = some c ∧ x = .str ⟨#[c]⟩) (fun i H x H' y => y) (fun _ => .bool true) (by rw [show (numS n).cps.size = (numS n).length from rfl]; omega) (fun _ => rfl) ?_ ?_⟩
  · rintro i x H1 Yes e1 hi ⟨c, hc, rfl⟩ yes
    refine ⟨rfl, _, rfl, c, _, rfl, rfl, ?_⟩
    have hm : c ∈ tl (numS n) := by
      rw [← Array.getElem?_toList] at hc
      exact List.mem_of_getElem? hc
    have hf : c ∈ ("0123456789" : Str).cps.toList := by
      rw [tl_numS hg.1] at hm
      have := numL_dig hm
      have e : ("0123456789" : Str).cps.toList = [48, 49, 50, 51, 52, 53, 54, 55, 56, 57] := by decide +kernel
      rw [e]
      simp only [List.mem_cons, List.not_mem_nil, or_false]
      omega
    rw [decide_eq_true hf]
    exact yes _ _ (Ex.refl _) (.bl _)
  · intro L ys H1 nL e1 hL hp
    have e : (List.range (numS n).cps.size).map (fun _ => PyData.bool true) = (List.replicate (numS n).cps.size true).map PyData.bool := by
      rw [List.map_replicate, List.map_const', List.length_range]
    rw [e] at hp
    rw [dpa_bls hp] at hL
    refine ⟨L, _, rfl, sq_of hL, ?_⟩
    have ea : (List.replicate (numS n).cps.size true).all id = true := by rw [List.all_eq_true]; intro x hx; exact List.eq_of_mem_replicate hx
    rw [ea]
    refine ⟨_, rfl, iteF ?_⟩
    obtain ⟨c, r, ec, hc⟩ := numL_head n.toNat
    have et : (numS n).cps.toList = c :: r := by rw [← ec]; exact tl_numS hg.1
    refine ⟨_, rfl, _, 0, c, rfl, rfl, by rw [sizeLine_eq]; omega, by rw [et]; exact atI_zero _ _, rfl, ?_⟩
    by_cases z : c = 48
    · have en : n = 0 := by have := hc z; have := hg.1; omega
      have e1' : (!decide (V.str ⟨#[c]⟩ = V.str "0")) = false := by rw [z]; decide +kernel
      rw [e1']
      refine ⟨_, rfl, iteF ⟨_, rfl, rfl, ?_⟩⟩
      rw [en, numS_zero, dss]
      exact k _ e1
    · have e1' : (!decide (V.str ⟨#[c]⟩ = V.str "0")) = true := by
        rw [decide_eq_false (fun y => z (by
          have y2 := V.str.inj y
          have y3 := congrArg (fun s : Str => s.cps.toList) y2
          have e4 : ("0" : Str).cps.toList = [48] := by decide +kernel
          rw [e4] at y3
          exact (List.cons.inj y3).1))]
        rfl
      rw [e1']
      exact ⟨_, rfl, iteT (k _ e1)⟩
def sp_numbers_of (K : PySem.W.Frag) : Sp := fun vs H Q _ => ∃ a ns, vs = [.ref a] ∧ SqL K H a ((ns.map numS).map V.str) ∧ ns ≠ [] ∧ (∀ n ∈ ns, good n) ∧ ns.length < 100000 ∧ ∀ p H', H p = none → Ex H H' → H' p = some (.lst (ns.map V.int)) → Q (.ref p) H'
abbrev N_numbers_of : List Str := ["words", "word"]
theorem sc_numbers_of : FnScope N_numbers_of ["words"] (defScope s_numbers_of) := ⟨rfl, rfl, rfl, by decide +kernel, rfl, by decide +kernel, by decide +kernel⟩
-- slots: 0:words 1:word
theorem ok_numbers_of (T : Tx K mg) : Ok P w K mg base 2 ("numbers_of", none) ["words"] (sp_numbers_of K) := by
  refine T.ok 60 rfl (N := N_numbers_of) rfl rfl sc_numbers_of (fun vs H Q E h => ?_) (fun _ _ _ _ _ _ us hl => match us, hl with | [_], _ => rfl) (fun cdv A outer s H vs Q E hr h => ?_)
  · obtain ⟨_, _, rfl, _⟩ := h
    rfl
  have hu := hu_of hr
  obtain ⟨a, ns, rfl, ha, hne, hg, hl, k⟩ := h
  refine ⟨_, (pss_cons (ps_if (PW.pt (pw_or (pt_cmpR (keq K hr) (pv 0) (pe_lst pa_nil) (nomark _)) (pw_or1 (pt_not (pt_val (pe_callB (kall K) (by rfl) T.b_all (by decide +kernel) (pa_cons (pe_lc (own := [("word", 1)]) (tt := tYes) (by rfl) sc_numbers_of.nd (kseq K (pv 0)) (blkOk_by (N := N_numbers_of) (sc := defScope s_numbers_of) (by decide +kernel)) (fun _ _ _ _ _ => (pg_name (i := 1) sc_numbers_of.nd rfl (by first | exact Or.inl rfl | exact Or.inr rfl))) (fun _ _ _ _ _ => pts_nil) (fun _ _ _ _ _ => (pe_f (ok_is_number T) hr T.g_is_number passL (pa_cons (pv 1) pa_nil)))) pa_nil))))))) (pss_one (ps_rz T.x_NoText T.g_NoText (takes_of rfl rfl rfl rfl))) pss_nil)
 (pss_one (ps_ret (pe_lc (own := [("word", 1)]) (tt := tYes) (by rfl) sc_numbers_of.nd (kseq K (pv 0)) (blkOk_by (N := N_numbers_of) (sc := defScope s_numbers_of) (by decide +kernel)) (fun _ _ _ _ _ => (pg_name (i := 1) sc_numbers_of.nd rfl (by first | exact Or.inl rfl | exact Or.inr rfl))) (fun _ _ _ _ _ => pts_nil) (fun _ _ _ _ _ => (pe_callTy call_int_str (by rfl) T.b_int (by decide +kernel) (pa_cons (pv 1) pa_nil))))))), ?_⟩
  refine ⟨_, rfl, Nat.zero_le _, fun z nz => ?_⟩
  have ez := Ex.new (o := .lst []) nz
  have ok : ∀ z ∈ ns.map numS, PyData.strOk z = true := fun z hz => by
    obtain ⟨n, hn, rfl⟩ := List.mem_map.mp hz
    exact numS_ok (hg n hn).1
  refine ⟨.list ((ns.map numS).map PyData.str), .list [], .lst (ex_l ez ha) (dpa_of_strs _), .lst (sq_of upd_same) .nil, shaped_strs ok, by decide +kernel, _, rfl, ?_⟩
  have ee : PyData.eqv (.list ((ns.map numS).map PyData.str)) (.list []) = false := by
    cases ns with
    | nil => exact absurd rfl hne
    | cons n r => rfl
  rw [ee]
  clear nz
  generalize upd H z (.lst []) = H1 at ez ⊢
  have hlen : ((ns.map numS).map V.str).length = ns.length := by rw [List.length_map, List.length_map]
  refine iteF ⟨_, rfl, lc_y (K := K) ((ns.map numS).map V.str) ns (fun _ => .bool true) hlen (by omega) (.inl (ex_l ez ha)) (fun _ => rfl) ?_ ?_⟩
  · intro n v H2 Yes e2 hn i hv hi yes
    rw [List.map_map, List.getElem?_map, hi] at hv
    cases hv
    refine ⟨rfl, _, rfl, n, rfl, hg n hn, fun H3 e3 => ?_⟩
    exact yes _ _ e3 (.bl _)
  intro L ys H2 nL e2 hL hp
  have e : ns.map (fun _ => PyData.bool true) = (List.replicate ns.length true).map PyData.bool := by
    rw [List.map_replicate, List.map_const']
  rw [e] at hp
  rw [dpa_bls hp] at hL
  refine ⟨L, _, rfl, sq_of hL, ?_⟩
  have ea : (List.replicate ns.length true).all id = true := by rw [List.all_eq_true]; intro x hx; exact List.eq_of_mem_replicate hx
  rw [ea]
  have e12 := ez.trans e2
  refine ⟨_, rfl, iteF ⟨_, rfl, lc_y (K := K) ((ns.map numS).map V.str) ns PyData.int hlen (by omega) (.inl (ex_l e12 ha)) (fun _ => rfl) ?_ ?_⟩⟩
  · intro n v H3 Yes e3 hn i hv hi yes
    rw [List.map_map, List.getElem?_map, hi] at hv
    cases hv
    have := (numS_len (hg n hn)).1
    exact ⟨rfl, _, rfl, _, n, rfl, numS_int (hg n hn), by omega, yes _ _ (Ex.refl _) (.int _)⟩
  intro M zs H3 nM e3 hM hp3
  rw [dpa_ints hp3] at hM
  exact k M H3 (fresh_back e12 nM) (e12.trans e3) hM
/-- numbers as words -/
def wordsM (ns : List Int) : Str := Txt.join " " (ns.map numS)
theorem words_le {ns : List Int} (hg : ∀ n ∈ ns, good n) (hl : ns.length ≤ 1000) : ((ns.map numS).map (·.length)).sum + (ns.map numS).length * (" " : Str).length ≤ 16777216 ∧ (wordsM ns).length ≤ 13 * ns.length := by
  have h1 := sum_le (ps := ns.map numS) (m := 12) fun z hz => by
    obtain ⟨n, hn, rfl⟩ := List.mem_map.mp hz
    exact (numS_len (hg n hn)).1
  have h2 := join_len " " (ns.map numS)
  have e : (" " : Str).length = 1 := by decide +kernel
  rw [e] at h2 ⊢
  rw [List.length_map] at *
  unfold wordsM
  omega
def sp_words_of (K : PySem.W.Frag) : Sp := fun vs H Q _ => ∃ x ns, vs = [x] ∧ DpS K H x (ns.map PyData.int) ∧ (∀ n ∈ ns, good n) ∧ ns.length ≤ 1000 ∧ ∀ H', Ex H H' → Q (.str (wordsM ns)) H'
abbrev N_words_of : List Str := ["numbers", "number"]
theorem sc_words_of : FnScope N_words_of ["numbers"] (defScope s_words_of) := ⟨rfl, rfl, rfl, by decide +kernel, rfl, by decide +kernel, by decide +kernel⟩
-- slots: 0:numbers 1:number
theorem ok_words_of (T : Tx K mg) : Ok P w K mg base 1 ("words_of", none) ["numbers"] (sp_words_of K) := by
  refine T.ok 63 rfl (N := N_words_of) rfl rfl sc_words_of (fun vs H Q E h => ?_) (fun _ _ _ _ _ _ us hl => match us, hl with | [_], _ => rfl) (fun cdv A outer s H vs Q E hr h => ?_)
  · obtain ⟨_, _, rfl, _⟩ := h
    rfl
  have hu := hu_of hr
  obtain ⟨x, ns, rfl, hx, hg, hl, k⟩ := h
  refine ⟨_, (pss_one (ps_ret (kjoin K pe_str (pe_lc (own := [("number", 1)]) (tt := tYes) (by rfl) sc_words_of.nd (kseq K (pv 0)) (blkOk_by (N := N_words_of) (sc := defScope s_words_of) (by decide +kernel)) (fun _ _ _ _ _ => (pg_name (i := 1) sc_words_of.nd rfl (by first | exact Or.inl rfl | exact Or.inr rfl))) (fun _ _ _ _ _ => pts_nil) (fun _ _ _ _ _ => (pe_callTy call_str_int (by rfl) T.b_str (by decide +kernel) (pa_cons (pv 1) pa_nil))))))), ?_⟩
  obtain ⟨a, xs, rfl, sx, dx⟩ := dp_seq hx
  have ex := dpa_ints dx
  subst ex
  refine ⟨⟨_, rfl⟩, _, rfl, lc_y (K := K) (ns.map V.int) ns (fun n => .str (numS n)) (by rw [List.length_map]) (by omega) sx (fun _ => rfl) ?_ ?_⟩
  · intro n v H2 Yes e2 hn i hv hi yes
    rw [List.getElem?_map, hi] at hv
    cases hv
    exact ⟨rfl, _, rfl, n, rfl, good_log (hg n hn), yes _ _ (Ex.refl _) (.str _)⟩
  intro L ys H2 nL e2 hL hp
  have e : ns.map (fun n => PyData.str (numS n)) = (ns.map numS).map PyData.str := by rw [List.map_map]; rfl
  rw [e] at hp
  rw [dpa_strs hp] at hL
  exact ⟨" ", L, ns.map numS, rfl, rfl, .inl (sq_of hL), (words_le hg hl).1, k _ e2⟩
end LG

set_option Elab.async false
set_option linter.all false
set_option maxRecDepth 100000
set_option maxHeartbeats 4000000
namespace LG
open PySem PySem.Spec L2 Evl
open PyProof.Rows hiding St
variable {P : Program} {w : World} {K : PySem.W.Frag} {mg : Str → Option Value} {base : Heap}

open TL
/-! ### rows as words -/
def flatE (es : List Edit) : List Int := es.flatMap fun e => [e.1, e.2.1, e.2.2]
def onT (ls : List Int) : List Str := if ls = [] then [] else "on" :: ls.map numS
def putT (es : List Edit) : List Str := if es = [] then [] else "put" :: (flatE es).map numS
def toks : Row → List Str
  | .ask r ls es => "ask" :: numS r :: (onT ls ++ putT es)
  | .withdraw n => ["withdraw", numS n]
  | .answer l a => aS a :: l.map numS
  | .stop => ["stop"]
  | .go => ["go"]
def goodE (e : Edit) : Prop := good e.1 ∧ good e.2.1 ∧ good e.2.2
def goodR : Row → Prop
  | .ask r ls es => good r ∧ (∀ n ∈ ls, good n) ∧ (∀ e ∈ es, goodE e)
  | .withdraw n => good n
  | .answer l _ => l ≠ [] ∧ (∀ n ∈ l, good n) ∧ l.length ≤ 100
  | _ => True
def shownM (r : Row) : Str := Txt.join " " (toks r)
theorem numS_ne {n : Int} (h : 0 ≤ n) {z : Str} (c : Nat) (hc : c ∈ tl z) (hb : c < 48 ∨ 57 < c) : numS n ≠ z := fun e => numS_free h hb (by rw [e]; exact hc)
theorem flatE_good {es : List Edit} (h : ∀ e ∈ es, goodE e) : ∀ n ∈ flatE es, good n := fun n hn => by
  obtain ⟨e, he, hm⟩ := List.mem_flatMap.mp hn
  obtain ⟨g1, g2, g3⟩ := h e he
  have : n = e.1 ∨ n = e.2.1 ∨ n = e.2.2 := by simpa using hm
  rcases this with z | z | z
  · rw [z]; exact g1
  · rw [z]; exact g2
  · rw [z]; exact g3
theorem flatE_len : ∀ es : List Edit, (flatE es).length = 3 * es.length
  | [] => rfl
  | e :: r => by
    have := flatE_len r
    show ([e.1, e.2.1, e.2.2] ++ flatE r).length = _
    rw [List.length_append, this, List.length_cons]
    simp
    omega
theorem flatE_at : ∀ {es : List Edit} {i : Nat} {e : Edit}, es[i]? = some e → (flatE es)[3 * i]? = some e.1 ∧ (flatE es)[3 * i + 1]? = some e.2.1 ∧ (flatE es)[3 * i + 2]? = some e.2.2
  | [], i, e, h => by simp at h
  | x :: r, 0, e, h => by
    simp at h
    subst h
    exact ⟨rfl, rfl, rfl⟩
  | x :: r, i + 1, e, h => by
    obtain ⟨h1, h2, h3⟩ := flatE_at (es := r) (i := i) (by simpa using h)
    have ef : flatE (x :: r) = [x.1, x.2.1, x.2.2] ++ flatE r := rfl
    have g : ∀ j, ([x.1, x.2.1, x.2.2] ++ flatE r)[3 + j]? = (flatE r)[j]? := fun j => by
      rw [List.getElem?_append_right (by simp)]
      simp
    rw [ef, show 3 * (i + 1) = 3 + 3 * i by omega, show 3 + 3 * i + 1 = 3 + (3 * i + 1) by omega, show 3 + 3 * i + 2 = 3 + (3 * i + 2) by omega, g, g, g]
    exact ⟨h1, h2, h3⟩
/-! ### lists of texts -/
theorem flat_strs (ns : List Str) : (ns.map V.str).all flatV = true := by
  rw [List.all_eq_true]
  intro x hx
  obtain ⟨n, _, rfl⟩ := List.mem_map.mp hx
  rfl
theorem eqV_str (a b : Str) : eqV (.str a) (.str b) = decide (a = b) := by
  show (a == b) = _
  rfl
theorem inV_strs (n : Str) (ns : List Str) : inV (.str n) (ns.map V.str) = decide (n ∈ ns) := by
  unfold inV
  rw [List.any_map]
  rw [Bool.eq_iff_iff, List.any_eq_true, decide_eq_true_iff]
  constructor
  · rintro ⟨m, hm, h⟩
    have h' : (eqV (.str m) (.str n)) = true := h
    rw [eqV_str] at h'
    rw [← of_decide_eq_true h']; exact hm
  · intro h
    exact ⟨n, h, by show eqV (.str n) (.str n) = true; rw [eqV_str]; exact decide_eq_true rfl⟩
theorem idx_app (z : Str) (post : List Str) : ∀ pre : List Str, z ∉ pre → (((pre ++ z :: post).map V.str)[pre.length]? = some (.str z)) ∧ ∀ (m : Nat) (z' : V), m < pre.length → ((pre ++ z :: post).map V.str)[m]? = some z' → eqV z' (.str z) = false
  | pre, h => by
    refine ⟨by rw [List.getElem?_map, List.getElem?_append_right (Nat.le_refl _)]; simp, fun m z' hm hz => ?_⟩
    rw [List.getElem?_map, List.getElem?_append_left hm] at hz
    obtain ⟨y, hy, rfl⟩ := Option.map_eq_some_iff.mp hz
    rw [eqV_str]
    exact decide_eq_false fun e => h (by rw [← e]; exact List.mem_of_getElem? hy)
theorem cutS_take (l : List Str) (k : Nat) : cutV (l.map V.str) none (some (k : Int)) = (l.take k).map V.str := by
  rw [cutV_none, if_pos (by omega), Int.toNat_natCast]
theorem cutS_drop (l : List Str) (k : Nat) : cutV (l.map V.str) (some (k : Int)) none = (l.drop k).map V.str := by
  rw [cutV_from, List.map_drop]
theorem cutS_mid (l : List Str) {a b : Nat} (h : a ≤ l.length) (hb : b ≤ l.length) : cutV (l.map V.str) (some (a : Int)) (some (b : Int)) = ((l.drop a).take (b - a)).map V.str := by
  unfold cutV
  rw [HT.sIx_nat, HT.sIx_nat, List.length_map, Nat.min_eq_left h, Nat.min_eq_left hb, List.map_take, List.map_drop]
theorem eqStrs {K : PySem.W.Frag} {H : Hp} {p q : Addr} {a b : List Str} (h1 : SqL K H p (a.map V.str)) (h2 : SqL K H q (b.map V.str)) (ok1 : ∀ z ∈ a, PyData.strOk z = true) (ok2 : ∀ z ∈ b, PyData.strOk z = true) :
    ∃ d e, Dp K H (.ref p) d ∧ Dp K H (.ref q) e ∧ SeqAt.shaped d = true ∧ SeqAt.shaped e = true ∧ PyData.eqv d e = decide (a = b) :=
  ⟨.list (a.map PyData.str), .list (b.map PyData.str), .lst h1 (dpa_of_strs _), .lst h2 (dpa_of_strs _), shaped_strs ok1, shaped_strs ok2, eqv_strs a b⟩
theorem ok_num {ns : List Int} (h : ∀ n ∈ ns, good n) : ∀ z ∈ ns.map numS, PyData.strOk z = true := fun z hz => by
  obtain ⟨n, hn, rfl⟩ := List.mem_map.mp hz
  exact numS_ok (h n hn).1
theorem ok_on {ls : List Int} (h : ∀ n ∈ ls, good n) : ∀ z ∈ onT ls, PyData.strOk z = true := fun z hz => by
  unfold onT at hz
  split at hz
  · cases hz
  · rcases List.mem_cons.mp hz with e | e
    · rw [e]; decide +kernel
    · exact ok_num h z e
theorem ok_put {es : List Edit} (h : ∀ e ∈ es, goodE e) : ∀ z ∈ putT es, PyData.strOk z = true := fun z hz => by
  unfold putT at hz
  split at hz
  · cases hz
  · rcases List.mem_cons.mp hz with e | e
    · rw [e]; decide +kernel
    · exact ok_num (flatE_good h) z e
theorem put_nin {ls : List Int} (h : ∀ n ∈ ls, good n) : ("put" : Str) ∉ (("on" : Str) :: ls.map numS) := fun m => by
  rcases List.mem_cons.mp m with e | e
  · exact absurd e (by decide +kernel)
  · obtain ⟨n, hn, e⟩ := List.mem_map.mp e
    exact numS_ne (h n hn).1 (z := "put") 112 (by decide +kernel) (by omega) e
def sp_ask_row (K : PySem.W.Frag) : Sp := fun vs H Q _ => ∃ a r ls es, vs = [.ref a] ∧ SqL K H a ((numS r :: (onT ls ++ putT es)).map V.str) ∧ goodR (.ask r ls es) ∧ smallR (.ask r ls es) ∧ ∀ v H', Ex H H' → Dp K H' v (dRow (.ask r ls es)) → Q v H'
abbrev N_ask_row : List Str := ["words", "rank", "rest", "leans", "edits", "cut", "some", "k"]
theorem sc_ask_row : FnScope N_ask_row ["words"] (defScope s_ask_row) := ⟨rfl, rfl, rfl, by decide +kernel, rfl, by decide +kernel, by decide +kernel⟩
-- slots: 0:words 1:rank 2:rest 3:leans 4:edits 5:cut 6:some 7:k
theorem ok_ask_row (T : Tx K mg) : Ok P w K mg base 3 ("ask_row", none) ["words"] (sp_ask_row K) := by
  refine T.ok 61 rfl (N := N_ask_row) rfl rfl sc_ask_row (fun vs H Q E h => ?_) (fun _ _ _ _ _ _ us hl => match us, hl with | [_], _ => rfl) (fun cdv A outer s H vs Q E hr h => ?_)
  · obtain ⟨_, _, _, _, rfl, _⟩ := h
    rfl
  have hu := hu_of hr
  obtain ⟨a, r, ls, es, rfl, ha, hg, hs, k⟩ := h
  obtain ⟨g1, g2, g3⟩ := hg
  obtain ⟨s1, s2⟩ := hs
  refine ⟨_, (pss_cons (ps_set (i := 1) sc_ask_row.nd rfl (by first | exact Or.inl rfl | exact Or.inr rfl) (pe_ix (kixl K) (pe_f (ok_numbers_of T) hr T.g_numbers_of passL (pa_cons (pe_slice (ksll K) (pv 0) po_none (po_some pe_int)) pa_nil)) pe_int (fun _ _ => rfl)))
 (pss_cons (ps_set (i := 2) sc_ask_row.nd rfl (by first | exact Or.inl rfl | exact Or.inr rfl) (pe_slice (ksll K) (pv 0) (po_some pe_int) po_none))
 (pss_cons (ps_set (i := 3) sc_ask_row.nd rfl (by first | exact Or.inl rfl | exact Or.inr rfl) (pe_lst pa_nil))
 (pss_cons (ps_set (i := 4) sc_ask_row.nd rfl (by first | exact Or.inl rfl | exact Or.inr rfl) (pe_lst pa_nil))
 (pss_cut (ps_if (pt_cmpR (keq K hr) (pe_slice (ksll K) (pv 2) po_none (po_some pe_int)) (pe_lst (pa_cons pe_str pa_nil)) (nomark _)) (pss_cons (ps_set (i := 5) sc_ask_row.nd rfl (by first | exact Or.inl rfl | exact Or.inr rfl) (pe_callB (klen K) (by rfl) T.b_len (by decide +kernel) (pa_cons (pv 2) pa_nil)))
 (pss_cut (ps_if (pt_cmpR (kin K) pe_str (pv 2) (by rfl)) (pss_one (ps_set (i := 5) sc_ask_row.nd rfl (by first | exact Or.inl rfl | exact Or.inr rfl) (kbm K PySem.F.plainAttrs_list PySem.F.slot_list_index PySem.F.type_list_index (kindex K) (pv 2) (pa_cons pe_str pa_nil)))) pss_nil)
 (pss_cons (ps_set (i := 3) sc_ask_row.nd rfl (by first | exact Or.inl rfl | exact Or.inr rfl) (pe_f (ok_numbers_of T) hr T.g_numbers_of passL (pa_cons (pe_slice (ksll K) (pv 2) (po_some pe_int) (po_some (pv 5))) pa_nil)))
 (pss_one (ps_set (i := 2) sc_ask_row.nd rfl (by first | exact Or.inl rfl | exact Or.inr rfl) (pe_slice (ksll K) (pv 2) (po_some (pv 5)) po_none)))))) pss_nil)
 (pss_cut (ps_if (pt_cmpR (kne K hr) (pv 2) (pe_lst pa_nil) (nomark _)) (pss_cons (ps_set (i := 6) sc_ask_row.nd rfl (by first | exact Or.inl rfl | exact Or.inr rfl) (pe_f (ok_numbers_of T) hr T.g_numbers_of passL (pa_cons (pe_slice (ksll K) (pv 2) (po_some pe_int) po_none) pa_nil)))
 (pss_cons (ps_if (PW.pt (pw_or (pt_cmpR op_ne (pe_ix (kixl K) (pv 2) pe_int (fun _ _ => rfl)) pe_str (nomark _)) (pw_or1 (pt_cmpR op_ne (pe_op op_mod (pe_callB (klen K) (by rfl) T.b_len (by decide +kernel) (pa_cons (pv 6) pa_nil)) pe_int) pe_int (nomark _))))) (pss_one (ps_rz T.x_NoText T.g_NoText (takes_of rfl rfl rfl rfl))) pss_nil)
 (pss_one (ps_setLc (i := 4) (own := [("k", 7)]) (tt := tYes) rfl sc_ask_row.nd rfl rfl (sw_true rfl rfl rfl (by decide +kernel)) (pi_range3 (by rfl) T.b_range (pa_cons pe_int (pa_cons (pe_callB (klen K) (by rfl) T.b_len (by decide +kernel) (pa_cons (pv 6) pa_nil)) (pa_cons pe_int pa_nil)))) (blkOk_by (N := N_ask_row) (sc := defScope s_ask_row) (by decide +kernel)) (fun _ _ _ _ _ => (pg_name (i := 7) sc_ask_row.nd rfl (by first | exact Or.inl rfl | exact Or.inr rfl))) (fun _ _ _ _ _ => pts_nil) (fun _ _ _ _ _ => (pe_tup (pa_cons (pe_ix (kixl K) (pv 6) (pv 7) (fun _ _ => rfl)) (pa_cons (pe_ix (kixl K) (pv 6) (pe_op op_add (pv 7) pe_int) (fun _ _ => rfl)) (pa_cons (pe_ix (kixl K) (pv 6) (pe_op op_add (pv 7) pe_int) (fun _ _ => rfl)) pa_nil))))))))) pss_nil)
 (pss_one (ps_ret (pe_tup (pa_cons pe_str (pa_cons (pv 1) (pa_cons (pe_callTy (ktuple K) (by rfl) T.b_tuple (by decide +kernel) (pa_cons (pv 3) pa_nil)) (pa_cons (pe_callTy (ktuple K) (by rfl) T.b_tuple (by decide +kernel) (pa_cons (pv 4) pa_nil)) pa_nil))))))))))))), ?_⟩
  refine ⟨_, rfl, 1, rfl, a, _, rfl, ha, fun p1 n1 => ?_⟩
  rw [show (1 : Int) = ((1 : Nat) : Int) from rfl, cutS_take]
  have e1 : Ex H (upd H p1 (.lst (([r].map numS).map V.str))) := Ex.new n1
  refine ⟨p1, [r], rfl, sq_of upd_same, by simp, fun n hn => by rw [List.mem_singleton.mp hn]; exact g1, by show 1 < 100000; decide, fun q1 H1 nq1 e1' hq1 => ?_⟩
  have e01 := e1.trans e1'
  refine ⟨q1, _, 0, .int r, rfl, rfl, sq_of hq1, atI_zero _ _, ?_⟩
  refine ⟨_, rfl, 1, rfl, a, _, rfl, ex_l e01 ha, fun rs nrs => ?_⟩
  rw [show (1 : Int) = ((1 : Nat) : Int) from rfl, cutS_drop]
  have e2 := Ex.new (o := .lst ((onT ls ++ putT es).map V.str)) nrs
  have hrs : upd H1 rs (.lst (((numS r :: (onT ls ++ putT es)).drop 1).map V.str)) rs = some (.lst ((onT ls ++ putT es).map V.str)) := upd_same
  have e02 : Ex H (upd H1 rs (.lst (((numS r :: (onT ls ++ putT es)).drop 1).map V.str))) := e01.trans e2
  clear e2
  generalize upd H1 rs (.lst (((numS r :: (onT ls ++ putT es)).drop 1).map V.str)) = H2 at hrs e02 ⊢
  refine ⟨Nat.zero_le _, fun lp nlp => ⟨Nat.zero_le _, fun ep nep => ?_⟩⟩
  have e3 := Ex.new (o := .lst []) nlp
  have e4 := Ex.new (o := .lst []) nep
  have hlp := e4 _ _ (show upd H2 lp (.lst []) lp = some (.lst []) from upd_same)
  have hep : upd (upd H2 lp (.lst [])) ep (.lst []) ep = some (.lst []) := upd_same
  have e24 := e3.trans e4
  have hrs4 := e24 _ _ hrs
  have e04 := e02.trans e24
  clear e3 e4 nep nlp
  generalize upd (upd H2 lp (.lst [])) ep (.lst []) = H4 at hlp hep e24 hrs4 e04 ⊢
  refine ⟨fun σ' H' => ∃ rs' lp' v5 v6 v7, σ' = [some (.ref a), some (.int r), some (.ref rs'), some (.ref lp'), some (.ref ep), v5, v6, v7] ∧ Ex H H' ∧ H' rs' = some (.lst ((putT es).map V.str)) ∧ H' lp' = some (.lst (ls.map V.int)) ∧ H' ep = some (.lst []), ?_, ?_⟩
  · refine ⟨_, rfl, 1, rfl, rs, _, rfl, sq_of hrs4, fun t1 nt1 => ?_⟩
    rw [show (1 : Int) = ((1 : Nat) : Int) from rfl, cutS_take]
    have e5 := Ex.new (o := .lst (((onT ls ++ putT es).take 1).map V.str)) nt1
    refine ⟨by show 1 ≤ sizeLine; decide, fun t2 nt2 => ?_⟩
    have e6 := Ex.new (o := .lst [.str "on"]) nt2
    have ht1 := e6 _ _ (show upd H4 t1 (.lst (((onT ls ++ putT es).take 1).map V.str)) t1 = some (.lst (((onT ls ++ putT es).take 1).map V.str)) from upd_same)
    have okr : ∀ z ∈ onT ls ++ putT es, PyData.strOk z = true := fun z hz => (List.mem_append.mp hz).elim (ok_on g2 z) (ok_put g3 z)
    obtain ⟨d, e, hd, he, sd, se, ee⟩ := eqStrs (K := K) (a := (onT ls ++ putT es).take 1) (b := ["on"]) (sq_of ht1) (sq_of (show upd _ t2 (.lst [.str "on"]) t2 = some (.lst (([("on" : Str)] : List Str).map V.str)) from upd_same)) (fun z hz => okr z (List.mem_of_mem_take hz)) (fun z hz => by rw [List.mem_singleton.mp hz]; decide +kernel)
    refine ⟨d, e, hd, he, sd, se, _, rfl, ?_⟩
    rw [ee]
    have e46 := e5.trans e6
    clear ht1 hd he e5 e6 nt1 nt2
    generalize upd (upd H4 t1 (.lst (((onT ls ++ putT es).take 1).map V.str))) t2 (.lst [.str "on"]) = H6 at e46 ⊢
    have e06 := e04.trans e46
    have hrs6 := e46 _ _ hrs4
    have hep6 := e46 _ _ hep
    by_cases hls : ls = []
    · have et : decide ((onT ls ++ putT es).take 1 = ([("on" : Str)] : List Str)) = false := by
        refine decide_eq_false fun z => ?_
        unfold onT putT at z
        rw [if_pos hls] at z
        by_cases hes : es = []
        · rw [if_pos hes] at z; cases z
        · rw [if_neg hes] at z
          have := (List.cons.inj (show [("put" : Str)] = [("on" : Str)] from z)).1
          exact absurd this (by decide +kernel)
      rw [et]
      refine iteF ⟨rs, lp, _, _, _, rfl, e06, ?_, ?_, hep6⟩
      · rw [hrs6]; unfold onT; rw [if_pos hls]; rfl
      · rw [hls]; exact e46 _ _ hlp
    · have eon : onT ls = ("on" : Str) :: ls.map numS := by unfold onT; rw [if_neg hls]
      have et : decide ((onT ls ++ putT es).take 1 = ([("on" : Str)] : List Str)) = true := by rw [eon]; exact decide_eq_true rfl
      rw [et]
      have lon : (onT ls).length = ls.length + 1 := by rw [eon, List.length_cons, List.length_map]
      refine iteT ⟨_, rfl, rs, _, rfl, .inl (sq_of hrs6), ?_⟩
      refine ⟨fun σ' H' => H6 = H' ∧ σ' = [some (.ref a), some (.int r), some (.ref rs), some (.ref lp), some (.ref ep), some (.int ((ls.length + 1 : Nat) : Int)), none, none], ?_, ?_⟩
      · refine ⟨_, rfl, rs, _, rfl, .inl (sq_of hrs6), rfl, flat_strs _, _, rfl, ?_⟩
        rw [if_neg (by decide), inV_strs]
        by_cases hes : es = []
        · have ep0 : putT es = [] := by unfold putT; rw [if_pos hes]
          rw [ep0, List.append_nil]
          have : decide (("put" : Str) ∈ onT ls) = false := decide_eq_false (by rw [eon]; exact put_nin g2)
          rw [this]
          refine iteF ⟨rfl, ?_⟩
          rw [List.length_map, lon]
          rfl
        · have ep0 : putT es = ("put" : Str) :: (flatE es).map numS := by unfold putT; rw [if_neg hes]
          have hm : ("put" : Str) ∈ onT ls ++ putT es := List.mem_append_right _ (by rw [ep0]; exact List.mem_cons_self)
          rw [decide_eq_true hm]
          have hni : ("put" : Str) ∉ onT ls := by rw [eon]; exact put_nin g2
          obtain ⟨i1, i2⟩ := idx_app "put" ((flatE es).map numS) (onT ls) hni
          rw [ep0] at hrs6 ⊢
          refine iteT ⟨_, rfl, .inl ⟨rfl, _, sq_of hrs6⟩, rs, _, _, (onT ls).length, .str "put", rfl, rfl, sq_of hrs6, rfl, flat_strs _, i1, by rw [eqV_str]; exact decide_eq_true rfl, i2, rfl, ?_⟩
          rw [lon]
          rfl
      · rintro σ' H' ⟨rfl, rfl⟩
        refine ⟨_, rfl, 1, rfl, _, rfl, _, rfl, rs, _, rfl, sq_of hrs6, fun t3 nt3 => ?_⟩
        rw [show (1 : Int) = ((1 : Nat) : Int) from rfl, cutS_mid _ (by rw [List.length_append, lon]; omega) (by rw [List.length_append, lon]; omega)]
        have ecut : ((onT ls ++ putT es).drop 1).take (ls.length + 1 - 1) = ls.map numS := by
          rw [eon]
          show (ls.map numS ++ putT es).take (ls.length + 1 - 1) = _
          rw [show ls.length + 1 - 1 = (ls.map numS).length by rw [List.length_map]; omega, List.take_left]
        rw [ecut]
        have e7 := Ex.new (o := .lst ((ls.map numS).map V.str)) nt3
        refine ⟨t3, ls, rfl, sq_of upd_same, hls, g2, by omega, fun lp2 H8 nlp2 e8 hlp2 => ?_⟩
        have e68 := e7.trans e8
        have hrs8 := e68 _ _ hrs6
        refine ⟨_, rfl, _, rfl, _, rfl, rs, _, rfl, sq_of hrs8, fun t4 nt4 => ?_⟩
        rw [cutS_drop]
        have edr : (onT ls ++ putT es).drop (ls.length + 1) = putT es := by rw [← lon, List.drop_left]
        rw [edr]
        have e9 := Ex.new (o := .lst ((putT es).map V.str)) nt4
        exact ⟨t4, lp2, _, _, _, rfl, e06.trans (e68.trans e9), upd_same, e9 _ _ hlp2, e9 _ _ (e68 _ _ hep6)⟩
  rintro σ' H5 ⟨rs', lp', v5, v6, v7, rfl, e05, hrs5, hlp5, hep5⟩
  refine ⟨fun σ' H' => ∃ rs' w v5 v6 v7, σ' = [some (.ref a), some (.int r), some (.ref rs'), some (.ref lp'), some w, v5, v6, v7] ∧ Ex H H' ∧ H' lp' = some (.lst (ls.map V.int)) ∧ Dp K H' w (.list (es.map dEdit)), ?_, ?_⟩
  · refine ⟨_, rfl, Nat.zero_le _, fun z nz => ?_⟩
    have ez := Ex.new (o := .lst []) nz
    obtain ⟨d, e, hd, he, sd, se, ee⟩ := eqStrs (K := K) (a := putT es) (b := []) (sq_of (ez _ _ hrs5)) (sq_of (show upd _ z (.lst []) z = some (.lst (([] : List Str).map V.str)) from upd_same)) (ok_put g3) (fun z hz => by cases hz)
    refine ⟨d, e, hd, he, sd, se, _, rfl, ?_⟩
    rw [ee, not_decide]
    clear hd he nz
    have hrs6 := ez _ _ hrs5
    have hlp6 := ez _ _ hlp5
    have hep6 := ez _ _ hep5
    generalize upd H5 z (.lst []) = H6 at ez hrs6 hlp6 hep6 ⊢
    have e06 := e05.trans ez
    by_cases hes : es = []
    · have ep0 : putT es = [] := by unfold putT; rw [if_pos hes]
      rw [decide_eq_false (fun z => z ep0)]
      refine iteF ⟨rs', .ref ep, _, _, _, rfl, e06, hlp6, ?_⟩
      rw [hes]
      exact .lst (sq_of hep6) .nil
    · have ep0 : putT es = ("put" : Str) :: (flatE es).map numS := by unfold putT; rw [if_neg hes]
      rw [decide_eq_true (show ¬ putT es = [] by rw [ep0]; simp)]
      rw [ep0] at hrs6
      refine iteT ⟨_, rfl, 1, rfl, rs', _, rfl, sq_of hrs6, fun t1 nt1 => ?_⟩
      rw [show (1 : Int) = ((1 : Nat) : Int) from rfl, cutS_drop]
      have e7 := Ex.new (o := .lst (((("put" : Str) :: (flatE es).map numS).drop 1).map V.str)) nt1
      have fl := flatE_len es
      have fne : flatE es ≠ [] := fun z => hes (by
        have : es.length = 0 := by rw [z] at fl; simp at fl; omega
        exact List.length_eq_zero_iff.mp this)
      refine ⟨t1, flatE es, rfl, sq_of upd_same, fne, flatE_good g3, by rw [fl]; omega, fun sm H8 nsm e8 hsm => ?_⟩
      have e68 := e7.trans e8
      have hrs8 := e68 _ _ hrs6
      refine ⟨_, rfl, rs', _, 0, .str "put", rfl, rfl, sq_of hrs8, atI_zero _ _, rfl, _, rfl, ?_⟩
      rw [dss]
      refine iteF ⟨_, rfl, sm, _, rfl, .inl (sq_of hsm), _, _, rfl, rfl, ?_⟩
      rw [List.length_map, fl]
      refine ⟨by show (0 : Int) < 3; decide, rfl, _, rfl, ?_⟩
      have em : (!decide (V.int (((3 * es.length : Nat) : Int) % 3) = V.int 0)) = false := by
        rw [show ((3 * es.length : Nat) : Int) % 3 = 0 by omega]; rfl
      rw [em]
      refine iteF ⟨_, rfl, sm, _, rfl, .inl (sq_of hsm), 0, _, 3, es.length, rfl, ?_, ?_⟩
      · rw [List.length_map, fl]
        have h4 : es.length = 0 ∨ es.length = 1 ∨ es.length = 2 ∨ es.length = 3 := by omega
        rcases h4 with h | h | h | h <;> rw [h] <;> exact ⟨by decide, by decide, by decide, by decide⟩
      refine lc_wd (K := K) walk_rangeC (R := fun i x => x = .int (0 + (i : Nat) * 3)) (fun i H x H' y => y) (fun i => dEdit (es.getD i (0, 0, 0))) (by omega) (fun _ => rfl) ?_ ?_
      · rintro i x H9 Yes e9 hi rfl yes
        obtain ⟨a1, a2, a3⟩ := flatE_at (List.getElem?_eq_getElem hi)
        have hsm9 := e9 _ _ hsm
        have at3 : ∀ {j : Nat} {v : Int}, (flatE es)[j]? = some v → atI ((flatE es).map V.int) (j : Int) = some (.int v) := fun {j v} hj => by
          have hlt := (List.getElem?_eq_some_iff.mp hj).1
          unfold atI
          rw [ixN_nat (by rw [List.length_map]; exact hlt)]
          show ((flatE es).map V.int)[j]? = _
          rw [List.getElem?_map, hj]; rfl
        have b1 : (0 : Int) + (i : Nat) * 3 = ((3 * i : Nat) : Int) := by omega
        have b2 : (0 : Int) + (i : Nat) * 3 + ((1 : Nat) : Int) = ((3 * i + 1 : Nat) : Int) := by omega
        have b3 : (0 : Int) + (i : Nat) * 3 + 2 = ((3 * i + 2 : Nat) : Int) := by omega
        refine ⟨rfl, _, rfl, _, rfl, sm, _, _, _, rfl, rfl, sq_of hsm9, by rw [b1]; exact at3 a1, ?_⟩
        refine ⟨_, rfl, _, rfl, _, _, rfl, rfl, sm, _, _, _, rfl, rfl, sq_of hsm9, by rw [b2]; exact at3 a2, ?_⟩
        refine ⟨_, rfl, _, rfl, _, _, rfl, rfl, sm, _, _, _, rfl, rfl, sq_of hsm9, by rw [b3]; exact at3 a3, ?_⟩
        refine ⟨by show 3 ≤ sizeLine; decide, fun t nt => yes _ _ (Ex.new nt) ?_⟩
        have eg : es.getD i (0, 0, 0) = es[i] := by rw [List.getD_eq_getElem?_getD, List.getElem?_eq_getElem hi]; rfl
        rw [eg]
        exact .tup (st_of upd_same) (.cons (.int _) (.cons (.int _) (.cons (.int _) .nil)))
      · intro L ys H9 nL e9 hL hp
        have er : (List.range es.length).map (fun i => dEdit (es.getD i (0, 0, 0))) = es.map dEdit := by
          refine List.ext_getElem (by simp) fun i h1 h2 => ?_
          rw [List.getElem_map, List.getElem_map, List.getElem_range, List.getD_eq_getElem?_getD, List.getElem?_eq_getElem (by simpa using h1)]
          rfl
        rw [er] at hp
        exact ⟨rs', .ref L, _, _, _, rfl, e06.trans (e68.trans e9), e9 _ _ (e68 _ _ hlp6), .lst (sq_of hL) hp⟩
  rintro σ' H6 ⟨rs', w, v5, v6, v7, rfl, e06, hlp6, hw⟩
  refine ⟨_, rfl, _, rfl, rd_tuple (.inl (.lst (sq_of hlp6) (dpa_of_ints _))) fun u1 H7 e7 hu1 => ?_⟩
  refine ⟨_, rfl, rd_tuple (.inl (dp_ex e7 hw)) fun u2 H8 e8 hu2 => ?_⟩
  exact ⟨by show 4 ≤ sizeLine; decide, fun t nt => k _ _ (e06.trans (e7.trans (e8.trans (Ex.new nt)))) (.tup (st_of upd_same) (.cons (.str _) (.cons (.int _) (.cons (dp_ex (e8.trans (Ex.new nt)) hu1) (.cons (dp_ex (Ex.new nt) hu2) .nil)))))⟩
/-! ### a row read -/
theorem sp32 : tl (" " : Str) = [32] := by decide +kernel
theorem nosp_num {n : Int} (h : 0 ≤ n) : (32 : Nat) ∉ tl (numS n) := numS_free h (.inl (by decide))
theorem toks_nosp {r : Row} (hg : goodR r) : ∀ z ∈ toks r, (32 : Nat) ∉ tl z ∧ PyData.strOk z = true := by
  have num : ∀ {ns : List Int}, (∀ n ∈ ns, good n) → ∀ z ∈ ns.map numS, (32 : Nat) ∉ tl z ∧ PyData.strOk z = true := fun h z hz => by
    obtain ⟨n, hn, rfl⟩ := List.mem_map.mp hz
    exact ⟨nosp_num (h n hn).1, numS_ok (h n hn).1⟩
  cases r with
  | ask r ls es =>
    obtain ⟨g1, g2, g3⟩ := hg
    intro z hz
    rcases List.mem_cons.mp hz with e | hz
    · rw [e]; decide +kernel
    rcases List.mem_cons.mp hz with e | hz
    · rw [e]; exact ⟨nosp_num g1.1, numS_ok g1.1⟩
    rcases List.mem_append.mp hz with hz | hz
    · unfold onT at hz
      split at hz
      · cases hz
      · rcases List.mem_cons.mp hz with e | e
        · rw [e]; decide +kernel
        · exact num g2 z e
    · unfold putT at hz
      split at hz
      · cases hz
      · rcases List.mem_cons.mp hz with e | e
        · rw [e]; decide +kernel
        · exact num (flatE_good g3) z e
  | withdraw n =>
    intro z hz
    rcases List.mem_cons.mp hz with e | hz
    · rw [e]; decide +kernel
    · rw [List.mem_singleton.mp hz]; exact ⟨nosp_num hg.1, numS_ok hg.1⟩
  | answer l a =>
    intro z hz
    rcases List.mem_cons.mp hz with e | hz
    · rw [e]; cases a <;> decide +kernel
    · exact num hg.2.1 z hz
  | stop =>
    intro z hz
    rw [List.mem_singleton.mp hz]; decide +kernel
  | go =>
    intro z hz
    rw [List.mem_singleton.mp hz]; decide +kernel
theorem toks_ne (r : Row) : toks r ≠ [] := by cases r <;> simp [toks]
theorem split_row {r : Row} (hg : goodR r) : Txt.split (shownM r) " " = toks r :=
  split_join (y := " ") sp32 (by decide +kernel) (toks_ne r) fun z hz => (toks_nosp hg z hz).1
theorem inWords (a : Ans) : inV (.str (aS a)) [.str "yes", .str "no", .str "unsure"] = true := aS_in a
theorem toks_len {r : Row} (hg : goodR r) : ∀ z ∈ toks r, z.length ≤ 12 := by
  have num : ∀ {ns : List Int}, (∀ n ∈ ns, good n) → ∀ z ∈ ns.map numS, z.length ≤ 12 := fun h z hz => by
    obtain ⟨n, hn, rfl⟩ := List.mem_map.mp hz
    exact (numS_len (h n hn)).1
  cases r with
  | ask r ls es =>
    obtain ⟨g1, g2, g3⟩ := hg
    intro z hz
    rcases List.mem_cons.mp hz with e | hz
    · rw [e]; decide +kernel
    rcases List.mem_cons.mp hz with e | hz
    · rw [e]; exact (numS_len g1).1
    rcases List.mem_append.mp hz with hz | hz
    · unfold onT at hz
      split at hz
      · cases hz
      · rcases List.mem_cons.mp hz with e | e
        · rw [e]; decide +kernel
        · exact num g2 z e
    · unfold putT at hz
      split at hz
      · cases hz
      · rcases List.mem_cons.mp hz with e | e
        · rw [e]; decide +kernel
        · exact num (flatE_good g3) z e
  | withdraw n =>
    intro z hz
    rcases List.mem_cons.mp hz with e | hz
    · rw [e]; decide +kernel
    · rw [List.mem_singleton.mp hz]; exact (numS_len hg).1
  | answer l a =>
    intro z hz
    rcases List.mem_cons.mp hz with e | hz
    · rw [e]; cases a <;> decide +kernel
    · exact num hg.2.1 z hz
  | stop => intro z hz; rw [List.mem_singleton.mp hz]; decide +kernel
  | go => intro z hz; rw [List.mem_singleton.mp hz]; decide +kernel
theorem toks_cnt {r : Row} (hg : goodR r) (hs : smallR r) : (toks r).length ≤ 110 := by
  cases r with
  | ask r ls es =>
    have s1 : ls.length ≤ 3 := hs.1
    have s2 : es.length ≤ 3 := hs.2
    have h1 : (onT ls).length ≤ 4 := by
      unfold onT; split
      · exact Nat.zero_le _
      · rw [List.length_cons, List.length_map]; omega
    have h2 : (putT es).length ≤ 10 := by
      unfold putT; split
      · exact Nat.zero_le _
      · rw [List.length_cons, List.length_map, flatE_len]; omega
    show (("ask" : Str) :: numS r :: (onT ls ++ putT es)).length ≤ 110
    rw [List.length_cons, List.length_cons, List.length_append]; omega
  | withdraw n => show 2 ≤ 110; decide
  | answer l a =>
    have := hg.2.2
    show (aS a :: l.map numS).length ≤ 110
    rw [List.length_cons, List.length_map]; omega
  | stop => show 1 ≤ 110; decide
  | go => show 1 ≤ 110; decide
theorem part_len {a b : List Str} {r : Row} (hg : goodR r) (hs : smallR r) (e : toks r = a ++ b) : (Txt.join " " a).length ≤ 3000 := by
  have cnt := toks_cnt hg hs
  have gen := toks_len hg
  rw [e, List.length_append] at cnt
  rw [e] at gen
  have h1 := sum_le (ps := a) (m := 12) fun z hz => gen z (List.mem_append_left _ hz)
  have h2 := join_len " " a
  rw [show (" " : Str).length = 1 by decide +kernel] at h2
  omega
theorem len_row {r : Row} (hg : goodR r) (hs : smallR r) : (shownM r).length ≤ 3000 := part_len (a := toks r) (b := []) hg hs (by rw [List.append_nil])
theorem if_orE {t u : TT} {X Y : L2.TS} {D : Ends} {σ : L2.St} {H : Hp} (p q : Bool) (h1 : ∀ Q : Bool → Hp → Prop, (∀ H', Ex H H' → Q p H') → t σ H Q) (h2 : p = false → ∀ H1, Ex H H1 → ∀ Q : Bool → Hp → Prop, (∀ H', Ex H1 H' → Q q H') → u σ H1 Q)
    (k : ∀ H', Ex H H' → if (p || q) = true then X D σ H' else Y D σ H') : tIfS (tOr t u) X Y D σ H := by
  refine h1 _ fun H1 e1 => ?_
  cases p with
  | true => exact iteT (k H1 e1)
  | false => exact iteF (h2 rfl H1 e1 _ fun H2 e2 => k H2 (e1.trans e2))
def sp_read_row (K : PySem.W.Frag) : Sp := fun vs H Q _ => ∃ r, vs = [.str (shownM r)] ∧ goodR r ∧ smallR r ∧ ∀ v H', Ex H H' → RowAt K H' v r → Q v H'
abbrev N_read_row : List Str := ["text", "words"]
theorem sc_read_row : FnScope N_read_row ["text"] (defScope s_read_row) := ⟨rfl, rfl, rfl, by decide +kernel, rfl, by decide +kernel, by decide +kernel⟩
-- slots: 0:text 1:words
theorem ok_read_row (T : Tx K mg) : Ok P w K mg base 4 ("read_row", none) ["text"] (sp_read_row K) := by
  refine T.ok 62 rfl (N := N_read_row) rfl rfl sc_read_row (fun vs H Q E h => ?_) (fun _ _ _ _ _ _ us hl => match us, hl with | [_], _ => rfl) (fun cdv A outer s H vs Q E hr h => ?_)
  · obtain ⟨_, rfl, _⟩ := h
    rfl
  have hu := hu_of hr
  obtain ⟨r, rfl, hg, hs, k⟩ := h
  refine ⟨_, (pss_cons (ps_set (i := 1) sc_read_row.nd rfl (by first | exact Or.inl rfl | exact Or.inr rfl) (pe_split (pv 0) pe_str))
 (pss_cons (ps_if (PW.pt (pw_or (pt_cmpR (keq K hr) (pv 1) (pe_lst (pa_cons pe_str pa_nil)) (nomark _)) (pw_or1 (pt_cmpR (keq K hr) (pv 1) (pe_lst (pa_cons pe_str pa_nil)) (nomark _))))) (pss_one (ps_ret (pe_tup (pa_cons (pe_ix (kixl K) (pv 1) pe_int (fun _ _ => rfl)) pa_nil)))) pss_nil)
 (pss_cons (ps_if (pt_cmpR op_eq (pe_ix (kixl K) (pv 1) pe_int (fun _ _ => rfl)) pe_str (nomark _)) (pss_one (ps_ret (pe_f (ok_ask_row T) hr T.g_ask_row passL (pa_cons (pe_slice (ksll K) (pv 1) (po_some pe_int) po_none) pa_nil)))) pss_nil)
 (pss_cons (ps_if (PW.pt (pw_and (pt_cmpR op_eq (pe_ix (kixl K) (pv 1) pe_int (fun _ _ => rfl)) pe_str (nomark _)) (pw_and1 (pt_cmpR op_eq (pe_callB (klen K) (by rfl) T.b_len (by decide +kernel) (pa_cons (pv 1) pa_nil)) pe_int (nomark _))))) (pss_one (ps_ret (pe_tup (pa_cons pe_str (pa_cons (pe_ix (kixl K) (pe_f (ok_numbers_of T) hr T.g_numbers_of passL (pa_cons (pe_slice (ksll K) (pv 1) (po_some pe_int) po_none) pa_nil)) pe_int (fun _ _ => rfl)) pa_nil))))) pss_nil)
 (pss_cons (ps_if (pt_cmpR (kin K) (pe_ix (kixl K) (pv 1) pe_int (fun _ _ => rfl)) (pe_tup (pa_cons pe_str (pa_cons pe_str (pa_cons pe_str pa_nil)))) (by rfl)) (pss_one (ps_ret (pe_tup (pa_cons pe_str (pa_cons (pe_callTy (ktuple K) (by rfl) T.b_tuple (by decide +kernel) (pa_cons (pe_f (ok_numbers_of T) hr T.g_numbers_of passL (pa_cons (pe_slice (ksll K) (pv 1) (po_some pe_int) po_none) pa_nil)) pa_nil)) (pa_cons (pe_ix (kixl K) (pv 1) pe_int (fun _ _ => rfl)) pa_nil)))))) pss_nil)
 (pss_one (ps_rz T.x_NoText T.g_NoText (takes_of rfl rfl rfl rfl)))))))), ?_⟩
  have hl := len_row hg hs
  refine ⟨_, rfl, ⟨_, rfl⟩, _, " ", rfl, rfl, by decide +kernel, by rw [sizeLine_eq]; omega, fun wp nwp => ?_⟩
  rw [split_row hg]
  have ew := Ex.new (o := .lst ((toks r).map V.str)) nwp
  have hw : upd H wp (.lst ((toks r).map V.str)) wp = some (.lst ((toks r).map V.str)) := upd_same
  clear nwp
  generalize upd H wp (.lst ((toks r).map V.str)) = H1 at ew hw ⊢
  have okt : ∀ z ∈ toks r, PyData.strOk z = true := fun z hz => (toks_nosp hg z hz).2
  dsimp only [gName, tSeq]
  have rdw : ∀ (one : Str), PyData.strOk one = true → ∀ {σ : L2.St} {Q' : Bool → Hp → Prop} {H2 : Hp}, σ[1]? = some (some (.ref wp)) → Ex H1 H2 → (∀ H', Ex H2 H' → Q' (decide (toks r = [one])) H') → tTest (tOp (rEqD K) (tVar 1) (tLst (tCons (tC (.str one)) tNil))) σ H2 Q' := fun one ho {σ Q' H2} hσ e2 q => by
    refine ⟨_, hσ, by show 1 ≤ sizeLine; decide, fun t nt => ?_⟩
    have et := Ex.new (o := .lst [.str one]) nt
    obtain ⟨d, e, hd, he, sd, se, ee⟩ := eqStrs (K := K) (a := toks r) (b := [one]) (sq_of (et _ _ (e2 _ _ hw))) (sq_of (show upd _ t (.lst [.str one]) t = some (.lst (([one] : List Str).map V.str)) from upd_same)) okt (fun z hz => by rw [List.mem_singleton.mp hz]; exact ho)
    refine ⟨d, e, hd, he, sd, se, _, rfl, ?_⟩
    rw [ee]
    exact q _ et
  refine if_orE (decide (toks r = [("stop" : Str)])) (decide (toks r = [("go" : Str)])) (fun Q' q => rdw "stop" (by decide +kernel) rfl (Ex.refl _) q) (fun _ H2 e2 Q' q => rdw "go" (by decide +kernel) rfl e2 q) (fun H2 e12 => ?_)
  have hw2 := e12 _ _ hw
  have e02 := ew.trans e12
  clear rdw hw
  -- one word of the row's
  cases r with
  | stop =>
    rw [decide_eq_true (show toks Row.stop = [("stop" : Str)] from rfl), Bool.true_or]
    refine iteT ⟨_, rfl, wp, _, 0, .str "stop", rfl, rfl, sq_of hw2, atI_zero _ _, by show 1 ≤ sizeLine; decide, fun t nt => ?_⟩
    exact k _ _ (e02.trans (Ex.new nt)) (.of (.tup (st_of upd_same) (.cons (.str _) .nil)) fun _ _ z => (nomatch z))
  | go =>
    rw [decide_eq_true (show toks Row.go = [("go" : Str)] from rfl), Bool.or_true]
    refine iteT ⟨_, rfl, wp, _, 0, .str "go", rfl, rfl, sq_of hw2, atI_zero _ _, by show 1 ≤ sizeLine; decide, fun t nt => ?_⟩
    exact k _ _ (e02.trans (Ex.new nt)) (.of (.tup (st_of upd_same) (.cons (.str _) .nil)) fun _ _ z => (nomatch z))
  | ask rk ls es =>
    rw [decide_eq_false (show toks (.ask rk ls es) ≠ [("stop" : Str)] from fun z => (by cases (List.cons.inj z).2)), decide_eq_false (show toks (.ask rk ls es) ≠ [("go" : Str)] from fun z => (by cases (List.cons.inj z).2))]
    refine iteF ⟨_, rfl, wp, _, 0, .str "ask", rfl, rfl, sq_of hw2, atI_zero _ _, rfl, _, rfl, ?_⟩
    rw [dss]
    refine iteT ⟨_, rfl, 1, rfl, wp, _, rfl, sq_of hw2, fun t nt => ?_⟩
    rw [show (1 : Int) = ((1 : Nat) : Int) from rfl, cutS_drop]
    exact ⟨t, rk, ls, es, rfl, sq_of upd_same, hg, hs, fun v H3 e3 hv => k v H3 (e02.trans ((Ex.new nt).trans e3)) (.of hv fun _ _ z => (nomatch z))⟩
  | withdraw n =>
    rw [decide_eq_false (show toks (.withdraw n) ≠ [("stop" : Str)] from fun z => (by cases (List.cons.inj z).2)), decide_eq_false (show toks (.withdraw n) ≠ [("go" : Str)] from fun z => (by cases (List.cons.inj z).2))]
    refine iteF ⟨_, rfl, wp, _, 0, .str "withdraw", rfl, rfl, sq_of hw2, atI_zero _ _, rfl, _, rfl, ?_⟩
    rw [dsn (by decide +kernel)]
    refine iteF ⟨_, rfl, wp, _, 0, .str "withdraw", rfl, rfl, sq_of hw2, atI_zero _ _, rfl, _, rfl, ?_⟩
    rw [dss]
    refine iteT ⟨_, rfl, wp, _, rfl, .inl (sq_of hw2), rfl, _, rfl, ?_⟩
    have e2 : decide (V.int ((((toks (.withdraw n)).map V.str).length : Nat) : Int) = V.int 2) = true := rfl
    rw [e2]
    refine iteT ⟨_, rfl, 1, rfl, wp, _, rfl, sq_of hw2, fun t nt => ?_⟩
    rw [show (1 : Int) = ((1 : Nat) : Int) from rfl, cutS_drop]
    have et := Ex.new (o := .lst (([n].map numS).map V.str)) nt
    refine ⟨t, [n], rfl, sq_of upd_same, by simp, fun m hm => by rw [List.mem_singleton.mp hm]; exact hg, by show 1 < 100000; decide, fun q H3 nq e3 hq => ?_⟩
    refine ⟨q, _, 0, .int n, rfl, rfl, sq_of hq, atI_zero _ _, by show 2 ≤ sizeLine; decide, fun u nu => ?_⟩
    exact k _ _ (e02.trans (et.trans (e3.trans (Ex.new nu)))) (.of (.tup (st_of upd_same) (.cons (.str _) (.cons (.int _) .nil))) fun _ _ z => (nomatch z))
  | answer l a =>
    obtain ⟨g1, g2, g3⟩ := hg
    have ne : l.map numS ≠ [] := fun z => g1 (by simpa using z)
    rw [decide_eq_false (show toks (.answer l a) ≠ [("stop" : Str)] from fun z => ne (List.cons.inj z).2), decide_eq_false (show toks (.answer l a) ≠ [("go" : Str)] from fun z => ne (List.cons.inj z).2)]
    refine iteF ⟨_, rfl, wp, _, 0, .str (aS a), rfl, rfl, sq_of hw2, atI_zero _ _, rfl, _, rfl, ?_⟩
    rw [dsn (by cases a <;> decide +kernel)]
    refine iteF ⟨_, rfl, wp, _, 0, .str (aS a), rfl, rfl, sq_of hw2, atI_zero _ _, rfl, _, rfl, ?_⟩
    rw [dsn (by cases a <;> decide +kernel)]
    refine iteF (iteF ⟨_, rfl, wp, _, 0, .str (aS a), rfl, rfl, sq_of hw2, atI_zero _ _, by show 3 ≤ sizeLine; decide, fun t nt => ?_⟩)
    have et := Ex.new (o := .tup [.str "yes", .str "no", .str "unsure"]) nt
    have hw3 := et _ _ hw2
    refine ⟨t, _, rfl, .inr (st_of upd_same), rfl, rfl, _, rfl, ?_⟩
    rw [if_neg (by decide), inWords]
    clear nt
    generalize upd H2 t (.tup [.str "yes", .str "no", .str "unsure"]) = H3 at et hw3 ⊢
    have e03 := e02.trans et
    refine iteT ⟨_, rfl, 1, rfl, wp, _, rfl, sq_of hw3, fun u nu => ?_⟩
    rw [show (1 : Int) = ((1 : Nat) : Int) from rfl, cutS_drop]
    have eu := Ex.new (o := .lst ((l.map numS).map V.str)) nu
    refine ⟨u, l, rfl, sq_of upd_same, g1, g2, by omega, fun q H4 nq e4 hq => ?_⟩
    refine rd_tupleN (sq_of hq) fun lt H5 nlt e5 hlt => ?_
    have e35 := eu.trans (e4.trans e5)
    have hw5 := e35 _ _ hw3
    refine ⟨_, rfl, wp, _, 0, .str (aS a), rfl, rfl, sq_of hw5, atI_zero _ _, by show 3 ≤ sizeLine; decide, fun v nv => ?_⟩
    exact k _ _ (e03.trans (e35.trans (Ex.new nv))) (.ans upd_same (Ex.new nv _ _ hlt))
end LG

set_option Elab.async false
set_option linter.all false
set_option maxRecDepth 100000
set_option maxHeartbeats 4000000
namespace LG
open PySem PySem.Spec L2 Evl
open PyProof.Rows hiding St
variable {P : Program} {w : World} {K : PySem.W.Frag} {mg : Str → Option Value} {base : Heap}

open TL
theorem len_app (a b : Str) : (a ++ b).length = a.length + b.length := by rw [len_tl, tl_append, List.length_append, ← len_tl, ← len_tl]
theorem call_str_non {X : Cx} : CallR X (.type "str") (fun xs H Q => xs = [.non] ∧ Q (.str "None") H) := by
  intro pins s σ H xs us Q I r h
  obtain ⟨rfl, q⟩ := h
  obtain ⟨u, rfl, e⟩ := vals1 r
  cases (show u = Value.none from e)
  exact PySem.P.str_of_none ⟨.str _, H, I.tok _, ⟨_, rfl⟩, q⟩
theorem call_str_any {X : Cx} : CallR X (.type "str") (fun xs H Q => ((∃ i, xs = [V.int i] ∧ i.natAbs.log2 < 1920 ∧ Q (.str (toString i)) H) ∨ ∃ a, xs = [V.str a] ∧ Q (.str a) H) ∨ (xs = [.non] ∧ Q (.str "None") H)) := CallR.or call_str_is call_str_non
/-! ### a row shown -/
def edT (e : Edit) : List Int := [e.1, e.2.1, e.2.2]
theorem join_two (y a b : Str) : Txt.join y [a, b] = a ++ y ++ b := by
  refine ext_tl ?_
  rw [tl_joinT, tl_append, tl_append, List.append_assoc]; rfl
theorem join_cons {y a : Str} {b : List Str} (hb : b ≠ []) : Txt.join y (a :: b) = a ++ y ++ Txt.join y b := by
  have := join_app (y := y) (a := [a]) (b := b) (by simp) hb
  rw [join_one] at this
  exact this
theorem app_assoc (a b c : Str) : a ++ b ++ c = a ++ (b ++ c) := ext_tl (by rw [tl_append, tl_append, tl_append, tl_append, List.append_assoc])
theorem ask1 (r : Int) : Txt.join " " ["ask", numS r] = "ask " ++ numS r := by
  rw [join_two]
  congr 1
theorem ask2 {a : List Str} {ls : List Int} (ha : a ≠ []) (hl : ls ≠ []) : Txt.join " " (a ++ onT ls) = Txt.join " " a ++ " on " ++ wordsM ls := by
  have e : onT ls = ("on" : Str) :: ls.map numS := by unfold onT; rw [if_neg hl]
  rw [e, join_app ha (by simp), join_cons (by simpa using hl), ← app_assoc, ← app_assoc, app_assoc (Txt.join " " a), app_assoc (Txt.join " " a)]
  congr 1
theorem ask3 {a : List Str} {es : List Edit} (ha : a ≠ []) (hl : es ≠ []) : Txt.join " " (a ++ putT es) = Txt.join " " a ++ " put " ++ Txt.join " " (es.map fun e => wordsM (edT e)) := by
  have e : putT es = ("put" : Str) :: (flatE es).map numS := by unfold putT; rw [if_neg hl]
  have hne : (flatE es).map numS ≠ [] := fun z => hl (by
    have h1 : (flatE es).length = 0 := by rw [List.map_eq_nil_iff.mp z]; rfl
    rw [flatE_len] at h1
    exact List.length_eq_zero_iff.mp (by omega))
  have ef : es.map (fun e => wordsM (edT e)) = (es.map fun e => (edT e).map numS).map (Txt.join " ") := by rw [List.map_map]; rfl
  have eg : (es.map fun e => (edT e).map numS).flatten = (flatE es).map numS := by
    clear ef hne e hl
    induction es with
    | nil => rfl
    | cons x r ih =>
      show (edT x).map numS ++ (r.map fun e => (edT e).map numS).flatten = ([x.1, x.2.1, x.2.2] ++ flatE r).map numS
      rw [ih, List.map_append]
      rfl
  rw [ef, join_flat (fun q hq => by obtain ⟨x, _, rfl⟩ := List.mem_map.mp hq; simp [edT]), eg]
  rw [e, join_app ha (by simp), join_cons hne, ← app_assoc, ← app_assoc, app_assoc (Txt.join " " a), app_assoc (Txt.join " " a)]
  congr 1
def sp_shown_ask (K : PySem.W.Frag) : Sp := fun vs H Q _ => ∃ v r ls es, vs = [v] ∧ Dp K H v (dRow (.ask r ls es)) ∧ goodR (.ask r ls es) ∧ smallR (.ask r ls es) ∧ ∀ H', Ex H H' → Q (.str (shownM (.ask r ls es))) H'
abbrev N_shown_ask : List Str := ["row", "text", "edit"]
theorem sc_shown_ask : FnScope N_shown_ask ["row"] (defScope s_shown_ask) := ⟨rfl, rfl, rfl, by decide +kernel, rfl, by decide +kernel, by decide +kernel⟩
-- slots: 0:row 1:text 2:edit
theorem ok_shown_ask (T : Tx K mg) : Ok P w K mg base 2 ("shown_ask", none) ["row"] (sp_shown_ask K) := by
  refine T.ok 64 rfl (N := N_shown_ask) rfl rfl sc_shown_ask (fun vs H Q E h => ?_) (fun _ _ _ _ _ _ us hl => match us, hl with | [_], _ => rfl) (fun cdv A outer s H vs Q E hr h => ?_)
  · obtain ⟨_, _, _, _, rfl, _⟩ := h
    rfl
  have hu := hu_of hr
  obtain ⟨v, r, ls, es, rfl, hd, hg, hs, k⟩ := h
  have hgs := hg
  have hss := hs
  obtain ⟨g1, g2, g3⟩ := hg
  obtain ⟨s1, s2⟩ := hs
  refine ⟨_, (pss_cons (ps_set (i := 1) sc_shown_ask.nd rfl (by first | exact Or.inl rfl | exact Or.inr rfl) (pe_op op_add_str pe_str (pe_callTy call_str_int (by rfl) T.b_str (by decide +kernel) (pa_cons (pe_ix (kixt K) (pv 0) pe_int (fun _ _ => rfl)) pa_nil))))
 (pss_cut (ps_if (pt_cmpR op_gt (pe_callB (klen K) (by rfl) T.b_len (by decide +kernel) (pa_cons (pe_ix (kixt K) (pv 0) pe_int (fun _ _ => rfl)) pa_nil)) pe_int (nomark _)) (pss_one (ps_set (i := 1) sc_shown_ask.nd rfl (by first | exact Or.inl rfl | exact Or.inr rfl) (pe_op op_add_str (pe_op op_add_str (pv 1) pe_str) (pe_f (ok_words_of T) hr T.g_words_of passL (pa_cons (pe_ix (kixt K) (pv 0) pe_int (fun _ _ => rfl)) pa_nil))))) pss_nil)
 (pss_cut (ps_if (pt_cmpR op_gt (pe_callB (klen K) (by rfl) T.b_len (by decide +kernel) (pa_cons (pe_ix (kixt K) (pv 0) pe_int (fun _ _ => rfl)) pa_nil)) pe_int (nomark _)) (pss_one (ps_set (i := 1) sc_shown_ask.nd rfl (by first | exact Or.inl rfl | exact Or.inr rfl) (pe_op op_add_str (pe_op op_add_str (pv 1) pe_str) (kjoin K pe_str (pe_lc (own := [("edit", 2)]) (tt := tYes) (by rfl) sc_shown_ask.nd (kseq K (pe_ix (kixt K) (pv 0) pe_int (fun _ _ => rfl))) (blkOk_by (N := N_shown_ask) (sc := defScope s_shown_ask) (by decide +kernel)) (fun _ _ _ _ _ => (pg_name (i := 2) sc_shown_ask.nd rfl (by first | exact Or.inl rfl | exact Or.inr rfl))) (fun _ _ _ _ _ => pts_nil) (fun _ _ _ _ _ => (pe_f (ok_words_of T) hr T.g_words_of passL (pa_cons (pv 2) pa_nil)))))))) pss_nil)
 (pss_one (ps_ret (pv 1)))))), ?_⟩
  obtain ⟨p, x0, x1, x2, x3, rfl, st, d0, d1, d2, d3⟩ := dp_tup4 hd
  rw [dp_str d0, dp_int d1] at st
  obtain ⟨al, xl, rfl, sxl, dxl⟩ := dp_tup d2
  obtain ⟨ae, ys, rfl, sy, dy⟩ := dp_tup d3
  have xll : xl.length = ls.length := by rw [dxl.len, List.length_map]
  have hyl : ys.length = es.length := by rw [dy.len, List.length_map]
  have l1 := (numS_len g1).1
  refine ⟨_, rfl, p, _, 1, _, rfl, rfl, st, atI_1 _ _ _, r, rfl, good_log g1, _, _, rfl, rfl, by rw [sizeLine_eq, show ("ask " : Str).length = 4 by decide +kernel]; show 4 + (numS r).length ≤ _; omega, ?_⟩
  have wl := words_le g2 (by omega)
  have el1 : toks (.ask r ls es) = [("ask" : Str), numS r] ++ (onT ls ++ putT es) := rfl
  have el2 : toks (.ask r ls es) = ([("ask" : Str), numS r] ++ onT ls) ++ putT es := by rw [List.append_assoc]; rfl
  have t1l := part_len hgs hss el1
  have t2l := part_len hgs hss el2
  have sl : (" on " : Str).length = 4 := by decide +kernel
  have sl2 : (" put " : Str).length = 5 := by decide +kernel
  refine ⟨fun σ' H' => Ex H H' ∧ σ' = [some (.ref p), some (.str (Txt.join " " ([("ask" : Str), numS r] ++ onT ls))), none], ?_, ?_⟩
  · refine ⟨_, rfl, p, _, 2, _, rfl, rfl, st, atI_2 _ _ _ _, al, xl, rfl, .inr sxl, _, _, rfl, rfl, _, rfl, ?_⟩
    rw [xll]
    by_cases hl : ls = []
    · rw [hl]
      refine iteF ⟨Ex.refl _, ?_⟩
      have : Txt.join " " ([("ask" : Str), numS r] ++ onT []) = "ask " ++ numS r := by rw [← ask1]; rfl
      rw [this]; rfl
    · have hp : (0 : Int) < (ls.length : Int) := by have := List.length_pos_iff.mpr hl; omega
      rw [decide_eq_true hp]
      refine iteT ⟨_, rfl, _, _, rfl, rfl, ?_, ?_⟩
      · rw [sizeLine_eq, ← ask1, sl]; omega
      rw [← ask1]
      refine ⟨_, rfl, p, _, 2, _, rfl, rfl, st, atI_2 _ _ _ _, .ref al, ls, rfl, .inr d2, g2, by omega, fun H1 e1 => ⟨_, _, rfl, rfl, ?_, ?_⟩⟩
      · rw [len_app, sizeLine_eq, sl]; omega
      · rw [ask2 (by simp) hl]
        exact ⟨e1, rfl⟩
  rintro σ' H1 ⟨e1, rfl⟩
  refine ⟨fun σ' H' => Ex H H' ∧ ∃ v2, σ' = [some (.ref p), some (.str (shownM (.ask r ls es))), v2], ?_, ?_⟩
  · refine ⟨_, rfl, p, _, 3, _, rfl, rfl, ex_t e1 st, atI_3 _ _ _ _ _, ae, ys, rfl, .inr (ex_t e1 sy), _, _, rfl, rfl, _, rfl, ?_⟩
    rw [hyl]
    unfold shownM
    rw [el2]
    by_cases hl : es = []
    · rw [hl]
      refine iteF ⟨e1, none, ?_⟩
      have : putT [] = [] := rfl
      rw [this, List.append_nil]
    · have hp : (0 : Int) < (es.length : Int) := by have := List.length_pos_iff.mpr hl; omega
      rw [decide_eq_true hp]
      refine iteT ⟨_, rfl, _, _, rfl, rfl, by rw [sizeLine_eq, sl2]; omega, ?_⟩
      refine ⟨⟨_, rfl⟩, _, rfl, p, _, 3, _, rfl, rfl, ex_t e1 st, atI_3 _ _ _ _ _, lc_y (K := K) ys es (fun e => .str (wordsM (edT e))) hyl (by omega) (.inr (ex_t e1 sy)) (fun _ => rfl) ?_ ?_⟩
      · rintro e u H2 Yes e2 hd i hu' hi yes
        have q := dp_ex (e1.trans e2) (dy.get hu' (by rw [List.getElem?_map, hi]; rfl))
        have ge : ∀ n ∈ edT e, good n := fun n hn => flatE_good g3 n (List.mem_flatMap.mpr ⟨e, hd, hn⟩)
        exact ⟨rfl, _, rfl, u, edT e, rfl, .inr q, ge, by show 3 ≤ 1000; decide, fun H3 e3 => yes _ _ e3 (.str _)⟩
      intro L zs H2 nL e2 hL hp2
      have e : es.map (fun e => PyData.str (wordsM (edT e))) = (es.map fun e => wordsM (edT e)).map PyData.str := by rw [List.map_map]; rfl
      rw [e] at hp2
      rw [dpa_strs hp2] at hL
      have wle : ∀ z ∈ es.map (fun e => wordsM (edT e)), z.length ≤ 39 := fun z hz => by
        obtain ⟨e, he, rfl⟩ := List.mem_map.mp hz
        have := (words_le (ns := edT e) (fun n hn => flatE_good g3 n (List.mem_flatMap.mpr ⟨e, he, hn⟩)) (by show 3 ≤ 1000; decide)).2
        exact this
      have sle := sum_le wle
      have jle := join_len " " (es.map fun e => wordsM (edT e))
      rw [show (" " : Str).length = 1 by decide +kernel] at jle
      rw [List.length_map] at sle jle
      refine ⟨" ", L, _, rfl, rfl, .inl (sq_of hL), by rw [show (" " : Str).length = 1 by decide +kernel, List.length_map]; omega, _, _, rfl, rfl, ?_, ?_⟩
      · rw [len_app, sizeLine_eq, sl2]; omega
      · rw [ask3 (by simp) hl]
        exact ⟨e1.trans e2, _, rfl⟩
  · rintro σ' H2 ⟨e2, v2, rfl⟩
    exact ⟨_, rfl, k _ e2⟩
def sp_shown_row (K : PySem.W.Frag) : Sp := fun vs H Q _ => ∃ v r, vs = [v] ∧ RowAt K H v r ∧ goodR r ∧ smallR r ∧ ∀ H', Ex H H' → Q (.str (shownM r)) H'
abbrev N_shown_row : List Str := ["row"]
theorem sc_shown_row : FnScope N_shown_row ["row"] (defScope s_shown_row) := ⟨rfl, rfl, rfl, by decide +kernel, rfl, by decide +kernel, by decide +kernel⟩
-- slots: 0:row
theorem ok_shown_row (T : Tx K mg) : Ok P w K mg base 3 ("shown_row", none) ["row"] (sp_shown_row K) := by
  refine T.ok 65 rfl (N := N_shown_row) rfl rfl sc_shown_row (fun vs H Q E h => ?_) (fun _ _ _ _ _ _ us hl => match us, hl with | [_], _ => rfl) (fun cdv A outer s H vs Q E hr h => ?_)
  · obtain ⟨_, _, rfl, _⟩ := h
    rfl
  have hu := hu_of hr
  obtain ⟨v, r, rfl, h, hg, hs, k⟩ := h
  refine ⟨_, (pss_cons (ps_if (pt_cmpR op_eq (pe_ix (kixt K) (pv 0) pe_int (fun _ _ => rfl)) pe_str (nomark _)) (pss_one (ps_ret (pe_f (ok_shown_ask T) hr T.g_shown_ask passL (pa_cons (pv 0) pa_nil)))) pss_nil)
 (pss_cons (ps_if (pt_cmpR op_eq (pe_ix (kixt K) (pv 0) pe_int (fun _ _ => rfl)) pe_str (nomark _)) (pss_one (ps_ret (pe_op op_add_str (pe_op op_add_str (pe_ix (kixt K) (pv 0) pe_int (fun _ _ => rfl)) pe_str) (pe_f (ok_words_of T) hr T.g_words_of passL (pa_cons (pe_ix (kixt K) (pv 0) pe_int (fun _ _ => rfl)) pa_nil))))) pss_nil)
 (pss_cons (ps_if (pt_cmpR op_eq (pe_ix (kixt K) (pv 0) pe_int (fun _ _ => rfl)) pe_str (nomark _)) (pss_one (ps_ret (pe_op op_add_str pe_str (pe_callTy call_str_is (by rfl) T.b_str (by decide +kernel) (pa_cons (pe_ix (kixt K) (pv 0) pe_int (fun _ _ => rfl)) pa_nil))))) pss_nil)
 (pss_one (ps_ret (pe_ix (kixt K) (pv 0) pe_int (fun _ _ => rfl))))))), ?_⟩
  have hd := h.dp
  cases r with
  | ask rk ls es =>
    obtain ⟨p, x0, x1, x2, x3, rfl, st, d0, d1, d2, d3⟩ := dp_tup4 hd
    rw [dp_str d0] at st
    refine ⟨_, rfl, p, _, 0, _, rfl, rfl, st, atI_zero _ _, rfl, _, rfl, ?_⟩
    rw [dss]
    exact iteT ⟨_, rfl, _, rk, ls, es, rfl, hd, hg, hs, k⟩
  | answer l a =>
    obtain ⟨p, x0, x1, x2, rfl, st, d0, d1, d2⟩ := dp_tup3 hd
    rw [dp_str d0, dp_str d2] at st
    obtain ⟨g1, g2, g3⟩ := hg
    refine ⟨_, rfl, p, _, 0, _, rfl, rfl, st, atI_zero _ _, rfl, _, rfl, ?_⟩
    rw [dsn (by decide +kernel)]
    refine iteF ⟨_, rfl, p, _, 0, _, rfl, rfl, st, atI_zero _ _, rfl, _, rfl, ?_⟩
    rw [dss]
    have al : (aS a).length ≤ 6 := by cases a <;> decide +kernel
    have wl := (words_le g2 (by omega)).2
    refine iteT ⟨_, rfl, p, _, 2, _, rfl, rfl, st, atI_2 _ _ _ _, _, _, rfl, rfl, by rw [sizeLine_eq, show (" " : Str).length = 1 by decide +kernel]; omega, ?_⟩
    refine ⟨_, rfl, p, _, 1, _, rfl, rfl, st, atI_1 _ _ _, x1, l, rfl, .inr d1, g2, by omega, fun H1 e1 => ⟨_, _, rfl, rfl, by rw [len_app, sizeLine_eq, show (" " : Str).length = 1 by decide +kernel]; omega, ?_⟩⟩
    have e : shownM (.answer l a) = aS a ++ " " ++ wordsM l := join_cons (by simpa using g1)
    rw [← e]
    exact k _ e1
  | withdraw n =>
    obtain ⟨p, x0, x1, rfl, st, d0, d1⟩ := dp_tup2 hd
    rw [dp_str d0, dp_int d1] at st
    refine ⟨_, rfl, p, _, 0, _, rfl, rfl, st, atI_zero _ _, rfl, _, rfl, ?_⟩
    rw [dsn (by decide +kernel)]
    refine iteF ⟨_, rfl, p, _, 0, _, rfl, rfl, st, atI_zero _ _, rfl, _, rfl, ?_⟩
    rw [dsn (by decide +kernel)]
    refine iteF ⟨_, rfl, p, _, 0, _, rfl, rfl, st, atI_zero _ _, rfl, _, rfl, ?_⟩
    rw [dss]
    have nl := (numS_len hg).1
    refine iteT ⟨_, rfl, p, _, 1, _, rfl, rfl, st, atI_1 _ _ _, .inl ⟨n, rfl, good_log hg, _, _, rfl, rfl, by rw [sizeLine_eq, show ("withdraw " : Str).length = 9 by decide +kernel]; show 9 + (numS n).length ≤ _; omega, ?_⟩⟩
    have e : shownM (.withdraw n) = "withdraw " ++ numS n := by
      unfold shownM toks
      rw [join_two]
      congr 1
    have := k _ (Ex.refl _)
    rw [e] at this
    exact this
  | stop =>
    obtain ⟨p, x0, rfl, st, d0⟩ := dp_tup1 hd
    rw [dp_str d0] at st
    refine ⟨_, rfl, p, _, 0, _, rfl, rfl, st, atI_zero _ _, rfl, _, rfl, ?_⟩
    rw [dsn (by decide +kernel)]
    refine iteF ⟨_, rfl, p, _, 0, _, rfl, rfl, st, atI_zero _ _, rfl, _, rfl, ?_⟩
    rw [dsn (by decide +kernel)]
    refine iteF ⟨_, rfl, p, _, 0, _, rfl, rfl, st, atI_zero _ _, rfl, _, rfl, ?_⟩
    rw [dsn (by decide +kernel)]
    refine iteF ⟨_, rfl, p, _, 0, _, rfl, rfl, st, atI_zero _ _, ?_⟩
    have := k _ (Ex.refl _)
    rw [show shownM Row.stop = "stop" from join_one _ _] at this
    exact this
  | go =>
    obtain ⟨p, x0, rfl, st, d0⟩ := dp_tup1 hd
    rw [dp_str d0] at st
    refine ⟨_, rfl, p, _, 0, _, rfl, rfl, st, atI_zero _ _, rfl, _, rfl, ?_⟩
    rw [dsn (by decide +kernel)]
    refine iteF ⟨_, rfl, p, _, 0, _, rfl, rfl, st, atI_zero _ _, rfl, _, rfl, ?_⟩
    rw [dsn (by decide +kernel)]
    refine iteF ⟨_, rfl, p, _, 0, _, rfl, rfl, st, atI_zero _ _, rfl, _, rfl, ?_⟩
    rw [dsn (by decide +kernel)]
    refine iteF ⟨_, rfl, p, _, 0, _, rfl, rfl, st, atI_zero _ _, ?_⟩
    have := k _ (Ex.refl _)
    rw [show shownM Row.go = "go" from join_one _ _] at this
    exact this
end LG

set_option Elab.async false
set_option linter.all false
set_option maxRecDepth 100000
set_option maxHeartbeats 4000000
namespace LG
open PySem PySem.Spec L2 Evl
open PyProof.Rows hiding St
variable {P : Program} {w : World} {K : PySem.W.Frag} {mg : Str → Option Value} {base : Heap}

open TL
theorem one_len : (" " : Str).length = 1 := by decide +kernel
def someM (ns : List Int) : Str := if ns = [] then "none" else wordsM ns
def sp_some_or_none (K : PySem.W.Frag) : Sp := fun vs H Q _ => ∃ a ns, vs = [.ref a] ∧ H a = some (.lst (ns.map V.int)) ∧ (∀ n ∈ ns, good n) ∧ ns.length ≤ 1000 ∧ ∀ H', Ex H H' → Q (.str (someM ns)) H'
abbrev N_some_or_none : List Str := ["numbers"]
theorem sc_some_or_none : FnScope N_some_or_none ["numbers"] (defScope s_some_or_none) := ⟨rfl, rfl, rfl, by decide +kernel, rfl, by decide +kernel, by decide +kernel⟩
-- slots: 0:numbers
theorem ok_some_or_none (T : Tx K mg) : Ok P w K mg base 2 ("some_or_none", none) ["numbers"] (sp_some_or_none K) := by
  refine T.ok 66 rfl (N := N_some_or_none) rfl rfl sc_some_or_none (fun vs H Q E h => ?_) (fun _ _ _ _ _ _ us hl => match us, hl with | [_], _ => rfl) (fun cdv A outer s H vs Q E hr h => ?_)
  · obtain ⟨_, _, rfl, _⟩ := h
    rfl
  have hu := hu_of hr
  obtain ⟨a, ns, rfl, ha, hg, hl, k⟩ := h
  refine ⟨_, (pss_cons (ps_if (pt_cmpR (keq K hr) (pv 0) (pe_lst pa_nil) (nomark _)) (pss_one (ps_ret pe_str)) pss_nil)
 (pss_one (ps_ret (pe_f (ok_words_of T) hr T.g_words_of passL (pa_cons (pv 0) pa_nil))))), ?_⟩
  refine ⟨_, rfl, Nat.zero_le _, fun z nz => ?_⟩
  have ez := Ex.new (o := .lst []) nz
  refine ⟨.list (ns.map PyData.int), .list [], .lst (sq_of (ez _ _ ha)) (dpa_of_ints _), .lst (sq_of upd_same) .nil, PySem.W.ke_shaped_ints _, by decide +kernel, _, rfl, ?_⟩
  have ee : PyData.eqv (.list (ns.map PyData.int)) (.list []) = decide (ns = []) := by cases ns <;> rfl
  rw [ee]
  unfold someM at k
  refine ite2 (fun c => ?_) (fun c => ?_)
  · rw [if_pos (dt c)] at k
    exact k _ ez
  · rw [if_neg (df c)] at k
    exact ⟨_, rfl, _, ns, rfl, .inl (.lst (sq_of (ez _ _ ha)) (dpa_of_ints _)), hg, hl, fun H1 e1 => k _ (ez.trans e1)⟩
/-- looks shown -/
def looksM (ls : List (List Int)) : Str := if ls = [] then "none" else Txt.join "; " (ls.map wordsM)
def goodLs (ls : List (List Int)) : Prop := (∀ l ∈ ls, (∀ n ∈ l, good n) ∧ l.length ≤ 100) ∧ ls.length ≤ 2000
theorem looks_le {ls : List (List Int)} (h : goodLs ls) : ((ls.map wordsM).map (·.length)).sum + (ls.map wordsM).length * ("; " : Str).length ≤ 16777216 := by
  have h1 := sum_le (ps := ls.map wordsM) (m := 1300) fun z hz => by
    obtain ⟨l, hl, rfl⟩ := List.mem_map.mp hz
    have := h.1 l hl
    have := (words_le this.1 (by omega)).2
    omega
  have h2 := h.2
  rw [List.length_map] at h1 ⊢
  rw [show ("; " : Str).length = 2 by decide +kernel]
  omega
def sp_shown_looks (K : PySem.W.Frag) : Sp := fun vs H Q _ => ∃ a ys ls, vs = [.ref a] ∧ H a = some (.lst ys) ∧ DpAll K H ys (ls.map dInts) ∧ goodLs ls ∧ ∀ H', Ex H H' → Q (.str (looksM ls)) H'
abbrev N_shown_looks : List Str := ["looks", "look"]
theorem sc_shown_looks : FnScope N_shown_looks ["looks"] (defScope s_shown_looks) := ⟨rfl, rfl, rfl, by decide +kernel, rfl, by decide +kernel, by decide +kernel⟩
-- slots: 0:looks 1:look
theorem ok_shown_looks (T : Tx K mg) : Ok P w K mg base 2 ("shown_looks", none) ["looks"] (sp_shown_looks K) := by
  refine T.ok 67 rfl (N := N_shown_looks) rfl rfl sc_shown_looks (fun vs H Q E h => ?_) (fun _ _ _ _ _ _ us hl => match us, hl with | [_], _ => rfl) (fun cdv A outer s H vs Q E hr h => ?_)
  · obtain ⟨_, _, _, rfl, _⟩ := h
    rfl
  have hu := hu_of hr
  obtain ⟨a, ys, ls, rfl, ha, hd, hg, k⟩ := h
  refine ⟨_, (pss_cons (ps_if (pt_cmpR (keq K hr) (pv 0) (pe_lst pa_nil) (nomark _)) (pss_one (ps_ret pe_str)) pss_nil)
 (pss_one (ps_ret (kjoin K pe_str (pe_lc (own := [("look", 1)]) (tt := tYes) (by rfl) sc_shown_looks.nd (kseq K (pv 0)) (blkOk_by (N := N_shown_looks) (sc := defScope s_shown_looks) (by decide +kernel)) (fun _ _ _ _ _ => (pg_name (i := 1) sc_shown_looks.nd rfl (by first | exact Or.inl rfl | exact Or.inr rfl))) (fun _ _ _ _ _ => pts_nil) (fun _ _ _ _ _ => (pe_f (ok_words_of T) hr T.g_words_of passL (pa_cons (pv 1) pa_nil)))))))), ?_⟩
  have hyl : ys.length = ls.length := by rw [hd.len, List.length_map]
  refine ⟨_, rfl, Nat.zero_le _, fun z nz => ?_⟩
  have ez := Ex.new (o := .lst []) nz
  refine ⟨.list (ls.map dInts), .list [], .lst (sq_of (ez _ _ ha)) (dpa_ex ez hd), .lst (sq_of upd_same) .nil, shaped_looks _, by decide +kernel, _, rfl, ?_⟩
  have ee : PyData.eqv (.list (ls.map dInts)) (.list []) = decide (ls = []) := by cases ls <;> rfl
  rw [ee]
  unfold looksM at k
  have h2 := hg.2
  refine ite2 (fun c => ?_) (fun c => ?_)
  · rw [if_pos (dt c)] at k
    exact k _ ez
  · rw [if_neg (df c)] at k
    refine ⟨⟨_, rfl⟩, _, rfl, lc_y (K := K) ys ls (fun l => .str (wordsM l)) hyl (by omega) (.inl (sq_of (ez _ _ ha))) (fun _ => rfl) ?_ ?_⟩
    · intro l v H2 Yes e2 hl i hv hi yes
      have q := dp_ex (ez.trans e2) (hd.get hv (by rw [List.getElem?_map, hi]; rfl))
      have := hg.1 l hl
      exact ⟨rfl, _, rfl, v, l, rfl, .inr q, this.1, by omega, fun H3 e3 => yes _ _ e3 (.str _)⟩
    intro L zs H2 nL e2 hL hp
    have e : ls.map (fun l => PyData.str (wordsM l)) = (ls.map wordsM).map PyData.str := by rw [List.map_map]; rfl
    rw [e] at hp
    rw [dpa_strs hp] at hL
    exact ⟨"; ", L, _, rfl, rfl, .inl (sq_of hL), looks_le hg, k _ (ez.trans e2)⟩
/-- a sheet shown -/
def cellM (p : Int × Int) : Str := numS p.1 ++ "=" ++ numS p.2
def sheetT (s : List (Int × Int)) : Str := if s = [] then "none" else Txt.join " " (s.map cellM)
theorem lay_pair (p : Int × Int) : (dPair p).canLay0 = true := by simp [dPair, PyData.canLay0, PyData.canLayAll0]
theorem depth_pair (p : Int × Int) : (dPair p).depth ≤ 1 := by simp [dPair, PyData.depth, PyData.depthAll]
def sp_shown_sheet (K : PySem.W.Frag) : Sp := fun vs H Q _ => ∃ a ys s, vs = [.ref a] ∧ H a = some (.lst ys) ∧ DpAll K H ys (s.map dPair) ∧ (∀ p ∈ s, good p.1 ∧ good p.2) ∧ s.length ≤ 1000 ∧ ∀ H', Ex H H' → Q (.str (sheetT s)) H'
abbrev N_shown_sheet : List Str := ["sheet", "slot", "value"]
theorem sc_shown_sheet : FnScope N_shown_sheet ["sheet"] (defScope s_shown_sheet) := ⟨rfl, rfl, rfl, by decide +kernel, rfl, by decide +kernel, by decide +kernel⟩
-- slots: 0:sheet 1:slot 2:value
theorem ok_shown_sheet (T : Tx K mg) : Ok P w K mg base 1 ("shown_sheet", none) ["sheet"] (sp_shown_sheet K) := by
  refine T.ok 68 rfl (N := N_shown_sheet) rfl rfl sc_shown_sheet (fun vs H Q E h => ?_) (fun _ _ _ _ _ _ us hl => match us, hl with | [_], _ => rfl) (fun cdv A outer s H vs Q E hr h => ?_)
  · obtain ⟨_, _, _, rfl, _⟩ := h
    rfl
  have hu := hu_of hr
  obtain ⟨a, ys, s, rfl, ha, hd, hg, hl, k⟩ := h
  refine ⟨_, (pss_cons (ps_if (pt_cmpR (keq K hr) (pv 0) (pe_lst pa_nil) (nomark _)) (pss_one (ps_ret pe_str)) pss_nil)
 (pss_one (ps_ret (kjoin K pe_str (pe_lc (own := [("slot", 1), ("value", 2)]) (tt := tYes) (by rfl) sc_shown_sheet.nd (kseq K (pv 0)) (blkOk_by (N := N_shown_sheet) (sc := defScope s_shown_sheet) (by decide +kernel)) (fun _ _ _ _ _ => (ktup K 2 (pgs_cons (pg_name (i := 1) sc_shown_sheet.nd rfl (by first | exact Or.inl rfl | exact Or.inr rfl)) (pgs_cons (pg_name (i := 2) sc_shown_sheet.nd rfl (by first | exact Or.inl rfl | exact Or.inr rfl)) pgs_nil)))) (fun _ _ _ _ _ => pts_nil) (fun _ _ _ _ _ => (pe_op op_add_str (pe_op op_add_str (pe_callTy call_str_int (by rfl) T.b_str (by decide +kernel) (pa_cons (pv 1) pa_nil)) pe_str) (pe_callTy call_str_int (by rfl) T.b_str (by decide +kernel) (pa_cons (pv 2) pa_nil))))))))), ?_⟩
  have hyl : ys.length = s.length := by rw [hd.len, List.length_map]
  refine ⟨_, rfl, Nat.zero_le _, fun z nz => ?_⟩
  have ez := Ex.new (o := .lst []) nz
  refine ⟨.list (s.map dPair), .list [], .lst (sq_of (ez _ _ ha)) (dpa_ex ez hd), .lst (sq_of upd_same) .nil, shaped_list lay_pair depth_pair (by decide) s, by decide +kernel, _, rfl, ?_⟩
  have ee : PyData.eqv (.list (s.map dPair)) (.list []) = decide (s = []) := by cases s <;> rfl
  rw [ee]
  unfold sheetT at k
  have eq1 : ("=" : Str).length = 1 := by decide +kernel
  refine ite2 (fun c => ?_) (fun c => ?_)
  · rw [if_pos (dt c)] at k
    exact k _ ez
  · rw [if_neg (df c)] at k
    refine ⟨⟨_, rfl⟩, _, rfl, lc_y (K := K) ys s (fun p => .str (cellM p)) hyl (by omega) (.inl (sq_of (ez _ _ ha))) (fun _ => rfl) ?_ ?_⟩
    · intro p v H2 Yes e2 hp i hv hi yes
      have q := dp_ex (ez.trans e2) (hd.get hv (by rw [List.getElem?_map, hi]; rfl))
      obtain ⟨t, u1, u2, rfl, ht, w1, w2⟩ := dp_tup2 q
      rw [dp_int w1, dp_int w2] at ht
      obtain ⟨g1, g2⟩ := hg p hp
      have l1 := (numS_len g1).1
      have l2 := (numS_len g2).1
      refine ⟨t, _, rfl, ht, rfl, _, _, rfl, _, _, rfl, rfl, rfl, ?_⟩
      refine ⟨_, rfl, p.1, rfl, good_log g1, _, _, rfl, rfl, by rw [eq1, sizeLine_eq]; show (numS p.1).length + 1 ≤ _; omega, ?_⟩
      refine ⟨_, rfl, p.2, rfl, good_log g2, _, _, rfl, rfl, by rw [len_app, eq1, sizeLine_eq]; show (numS p.1).length + 1 + (numS p.2).length ≤ _; omega, ?_⟩
      exact yes _ _ (Ex.refl _) (.str _)
    intro L zs H2 nL e2 hL hp
    have e : s.map (fun p => PyData.str (cellM p)) = (s.map cellM).map PyData.str := by rw [List.map_map]; rfl
    rw [e] at hp
    rw [dpa_strs hp] at hL
    have h1 := sum_le (ps := s.map cellM) (m := 25) fun z hz => by
      obtain ⟨p, hp, rfl⟩ := List.mem_map.mp hz
      obtain ⟨g1, g2⟩ := hg p hp
      have l1 := (numS_len g1).1
      have l2 := (numS_len g2).1
      unfold cellM
      rw [len_app, len_app, eq1]; omega
    rw [List.length_map] at h1
    exact ⟨" ", L, _, rfl, rfl, .inl (sq_of hL), by rw [List.length_map, one_len]; omega, k _ (ez.trans e2)⟩
/-! ### grounds and reasons shown -/
def atomS : PyData → Str
  | .str z => z
  | .int i => numS i
  | _ => "None"
def atomOk : PyData → Prop
  | .str z => z.length ≤ 100
  | .int i => good i
  | .none => True
  | _ => False
theorem atom_len {d : PyData} (h : atomOk d) : (atomS d).length ≤ 100 := by
  cases d with
  | str z => exact h
  | int i => have := (numS_len (show good i from h)).1; show (numS i).length ≤ 100; omega
  | none => show ("None" : Str).length ≤ 100; decide +kernel
  | bool b => exact absurd h id
  | list l => exact absurd h id
  | tuple l => exact absurd h id
  | dict l => exact absurd h id
def atomsM (ds : List PyData) : Str := Txt.join " " (ds.map atomS)
theorem atoms_le {ds : List PyData} (h : ∀ d ∈ ds, atomOk d) (hl : ds.length ≤ 100) : ((ds.map atomS).map (·.length)).sum + (ds.map atomS).length * (" " : Str).length ≤ 16777216 ∧ (atomsM ds).length ≤ 101 * ds.length := by
  have h1 := sum_le (ps := ds.map atomS) (m := 100) fun z hz => by
    obtain ⟨d, hd, rfl⟩ := List.mem_map.mp hz
    exact atom_len (h d hd)
  have h2 := join_len " " (ds.map atomS)
  rw [one_len] at h2 ⊢
  rw [List.length_map] at *
  unfold atomsM
  omega
def groundD : Ground → List PyData
  | .withdrawn => [.str "withdrawn"]
  | .leans n => [.str "leans", .int n]
  | .look good l w => [.str "look", dInts good, dInts l, .str (wS w)]
  | .unfit s => [.str "unfit", dOpt s]
theorem dGround_eq (r : Ground) : dGround r = .tuple (groundD r) := by cases r <;> rfl
def groundM (r : Ground) : Str := match r with
  | .look _ l w => wS w ++ " " ++ wordsM l
  | r => atomsM (groundD r)
def goodG : Ground → Prop
  | .withdrawn => True
  | .leans n => good n
  | .look _ l _ => (∀ n ∈ l, good n) ∧ l.length ≤ 100
  | .unfit s => ∀ i, s = some i → good i
theorem wS_len (w : Option Ans) : (wS w).length ≤ 6 := by
  cases w with
  | none => decide +kernel
  | some a => cases a <;> decide +kernel
theorem ground_len {r : Ground} (h : goodG r) : (groundM r).length ≤ 2000 := by
  cases r with
  | withdrawn => have := (atoms_le (ds := groundD .withdrawn) (fun d hd => by rw [List.mem_singleton.mp hd]; show ("withdrawn" : Str).length ≤ 100; decide +kernel) (by decide)).2; exact Nat.le_trans this (by decide)
  | leans n =>
    have := (atoms_le (ds := groundD (.leans n)) (fun d hd => by
      have : d = .str "leans" ∨ d = .int n := by simpa [groundD] using hd
      rcases this with e | e
      · rw [e]; show ("leans" : Str).length ≤ 100; decide +kernel
      · rw [e]; exact h) (by show 2 ≤ 100; decide)).2
    exact Nat.le_trans this (by show 101 * 2 ≤ 2000; decide)
  | look gd l w =>
    have := wS_len w
    have h2 : l.length ≤ 100 := h.2
    have := (words_le h.1 (by omega)).2
    show (wS w ++ " " ++ wordsM l).length ≤ 2000
    rw [len_app, len_app, one_len]
    omega
  | unfit s =>
    have := (atoms_le (ds := groundD (.unfit s)) (fun d hd => by
      have : d = .str "unfit" ∨ d = dOpt s := by simpa [groundD] using hd
      rcases this with e | e
      · rw [e]; show ("unfit" : Str).length ≤ 100; decide +kernel
      · rw [e]
        cases s with
        | none => trivial
        | some i => exact h i rfl) (by show 2 ≤ 100; decide)).2
    exact Nat.le_trans this (by show 101 * 2 ≤ 2000; decide)
def sp_shown_ground (K : PySem.W.Frag) : Sp := fun vs H Q _ => ∃ v r, vs = [v] ∧ Dp K H v (dGround r) ∧ goodG r ∧ ∀ H', Ex H H' → Q (.str (groundM r)) H'
abbrev N_shown_ground : List Str := ["ground", "one"]
theorem sc_shown_ground : FnScope N_shown_ground ["ground"] (defScope s_shown_ground) := ⟨rfl, rfl, rfl, by decide +kernel, rfl, by decide +kernel, by decide +kernel⟩
-- slots: 0:ground 1:one
theorem ok_shown_ground (T : Tx K mg) : Ok P w K mg base 2 ("shown_ground", none) ["ground"] (sp_shown_ground K) := by
  refine T.ok 69 rfl (N := N_shown_ground) rfl rfl sc_shown_ground (fun vs H Q E h => ?_) (fun _ _ _ _ _ _ us hl => match us, hl with | [_], _ => rfl) (fun cdv A outer s H vs Q E hr h => ?_)
  · obtain ⟨_, _, rfl, _⟩ := h
    rfl
  have hu := hu_of hr
  obtain ⟨v, r, rfl, hd, hg, k⟩ := h
  refine ⟨_, (pss_cons (ps_if (pt_cmpR op_eq (pe_ix (kixt K) (pv 0) pe_int (fun _ _ => rfl)) pe_str (nomark _)) (pss_one (ps_ret (pe_op op_add_str (pe_op op_add_str (pe_ix (kixt K) (pv 0) pe_int (fun _ _ => rfl)) pe_str) (pe_f (ok_words_of T) hr T.g_words_of passL (pa_cons (pe_ix (kixt K) (pv 0) pe_int (fun _ _ => rfl)) pa_nil))))) pss_nil)
 (pss_one (ps_ret (kjoin K pe_str (pe_lc (own := [("one", 1)]) (tt := tYes) (by rfl) sc_shown_ground.nd (kseq K (pv 0)) (blkOk_by (N := N_shown_ground) (sc := defScope s_shown_ground) (by decide +kernel)) (fun _ _ _ _ _ => (pg_name (i := 1) sc_shown_ground.nd rfl (by first | exact Or.inl rfl | exact Or.inr rfl))) (fun _ _ _ _ _ => pts_nil) (fun _ _ _ _ _ => (pe_callTy call_str_any (by rfl) T.b_str (by decide +kernel) (pa_cons (pv 1) pa_nil)))))))), ?_⟩
  have gen : ∀ {p : Addr} {xs : List V} {ds : List PyData} {D : Ends}, SqT K H p xs → DpAll K H xs ds → (∀ d ∈ ds, atomOk d) → ds.length ≤ 100 → (∀ H', Ex H H' → D.rt (.str (atomsM ds)) H') →
      tRet (tM1 (fun x xs H Q => ∃ a p, ∃ ys : List Str, x = .str a ∧ xs = [.ref p] ∧ (SqL K H p (ys.map V.str) ∨ SqT K H p (ys.map V.str)) ∧ (ys.map (·.length)).sum + ys.length * a.length ≤ 16777216 ∧ Q (.str (Txt.join a ys)) H)
        (tC (.str " ")) (tLc (iSeq K (tVar 0)) (gName 1) tYes (tCB (fun xs H Q => ((∃ i, xs = [V.int i] ∧ i.natAbs.log2 < 1920 ∧ Q (.str (toString i)) H) ∨ ∃ a, xs = [V.str a] ∧ Q (.str a) H) ∨ (xs = [.non] ∧ Q (.str "None") H)) (tCons (tVar 1) tNil)) ([(("one" : Str), 1)].map (·.2)))) D [some (.ref p), none] H := by
    intro p xs ds D sp dp ok hl q
    refine ⟨⟨_, rfl⟩, _, rfl, lc_y (K := K) xs ds (fun d => .str (atomS d)) dp.len (by omega) (.inr sp) (fun _ => rfl) ?_ ?_⟩
    · intro d v H2 Yes e2 hd i hv hi yes
      have q := dp_ex e2 (dp.get hv hi)
      have o := ok d hd
      refine ⟨rfl, _, rfl, ?_⟩
      cases d with
      | str z => rw [dp_str q]; exact .inl (.inr ⟨z, rfl, yes _ _ (Ex.refl _) (.str _)⟩)
      | int i => rw [dp_int q]; exact .inl (.inl ⟨i, rfl, good_log o, yes _ _ (Ex.refl _) (.str _)⟩)
      | none => rw [dp_non q]; exact .inr ⟨rfl, yes _ _ (Ex.refl _) (.str _)⟩
      | bool b => exact absurd o id
      | list l => exact absurd o id
      | tuple l => exact absurd o id
      | dict l => exact absurd o id
    intro L zs H2 nL e2 hL hp
    have e : ds.map (fun d => PyData.str (atomS d)) = (ds.map atomS).map PyData.str := by rw [List.map_map]; rfl
    rw [e] at hp
    rw [dpa_strs hp] at hL
    exact ⟨" ", L, _, rfl, rfl, .inl (sq_of hL), (atoms_le ok hl).1, q _ e2⟩
  rw [dGround_eq] at hd
  cases r with
  | look gd l w =>
    obtain ⟨p, x0, x1, x2, x3, rfl, st, d0, d1, d2, d3⟩ := dp_tup4 hd
    rw [dp_str d0, dp_str d3] at st
    have wl := wS_len w
    have h2 : l.length ≤ 100 := hg.2
    have wl2 := (words_le hg.1 (by omega)).2
    refine ⟨_, rfl, p, _, 0, _, rfl, rfl, st, atI_zero _ _, rfl, _, rfl, ?_⟩
    rw [dss]
    refine iteT ⟨_, rfl, p, _, 3, _, rfl, rfl, st, atI_3 _ _ _ _ _, _, _, rfl, rfl, by rw [one_len, sizeLine_eq]; omega, ?_⟩
    exact ⟨_, rfl, p, _, 2, _, rfl, rfl, st, atI_2 _ _ _ _, x2, l, rfl, .inr d2, hg.1, by omega, fun H1 e1 => ⟨_, _, rfl, rfl, by rw [len_app, one_len, sizeLine_eq]; omega, k _ e1⟩⟩
  | withdrawn =>
    obtain ⟨p, x0, rfl, st, d0⟩ := dp_tup1 hd
    have st' := st
    rw [dp_str d0] at st
    refine ⟨_, rfl, p, _, 0, _, rfl, rfl, st, atI_zero _ _, rfl, _, rfl, ?_⟩
    rw [dsn (by decide +kernel)]
    exact iteF (gen st' (.cons d0 .nil) (fun d hd => by rw [List.mem_singleton.mp hd]; show ("withdrawn" : Str).length ≤ 100; decide +kernel) (by decide) k)
  | leans n =>
    obtain ⟨p, x0, x1, rfl, st, d0, d1⟩ := dp_tup2 hd
    have st' := st
    rw [dp_str d0] at st
    refine ⟨_, rfl, p, _, 0, _, rfl, rfl, st, atI_zero _ _, rfl, _, rfl, ?_⟩
    rw [dsn (by decide +kernel)]
    exact iteF (gen st' (.cons d0 (.cons d1 .nil)) (fun d hd => by
      have : d = .str "leans" ∨ d = .int n := by simpa [groundD] using hd
      rcases this with e | e
      · rw [e]; show ("leans" : Str).length ≤ 100; decide +kernel
      · rw [e]; exact hg) (by show 2 ≤ 100; decide) k)
  | unfit s =>
    obtain ⟨p, x0, x1, rfl, st, d0, d1⟩ := dp_tup2 hd
    have st' := st
    rw [dp_str d0] at st
    refine ⟨_, rfl, p, _, 0, _, rfl, rfl, st, atI_zero _ _, rfl, _, rfl, ?_⟩
    rw [dsn (by decide +kernel)]
    exact iteF (gen st' (.cons d0 (.cons d1 .nil)) (fun d hd => by
      have : d = .str "unfit" ∨ d = dOpt s := by simpa [groundD] using hd
      rcases this with e | e
      · rw [e]; show ("unfit" : Str).length ≤ 100; decide +kernel
      · rw [e]
        cases s with
        | none => trivial
        | some i => exact hg i rfl) (by show 2 ≤ 100; decide) k)
end LG

set_option Elab.async false
set_option linter.all false
set_option maxRecDepth 100000
set_option maxHeartbeats 4000000
namespace LG
open PySem PySem.Spec L2 Evl
open PyProof.Rows hiding St
variable {P : Program} {w : World} {K : PySem.W.Frag} {mg : Str → Option Value} {base : Heap}

open TL
def reasonD : Reason → List PyData
  | .inn p => [.str "in", .int p]
  | .out r => [.str "out", dGround r]
  | .laid p => [.str "laid", .int p]
  | .stopped => [.str "stopped"]
  | .leans ns => [.str "leans", .list (ns.map PyData.int)]
  | .halving p => [.str "halving", .int p]
  | .unfit s => [.str "unfit", .int s]
  | .turn n => [.str "turn", .int n]
theorem dReason_eq (r : Reason) : dReason r = .tuple (reasonD r) := by cases r <;> rfl
def reasonM (r : Reason) : Str := match r with
  | .out g => "out " ++ groundM g
  | .leans ns => "leans " ++ wordsM ns
  | r => atomsM (reasonD r)
def goodRs : Reason → Prop
  | .inn p => good p
  | .out r => goodG r
  | .laid p => good p
  | .stopped => True
  | .leans ns => (∀ n ∈ ns, good n) ∧ ns.length ≤ 100
  | .halving p => good p
  | .unfit s => good s
  | .turn n => good n
def sp_shown_reason (K : PySem.W.Frag) : Sp := fun vs H Q _ => ∃ v r, vs = [v] ∧ Dp K H v (dReason r) ∧ goodRs r ∧ ∀ H', Ex H H' → Q (.str (reasonM r)) H'
abbrev N_shown_reason : List Str := ["reason", "one"]
theorem sc_shown_reason : FnScope N_shown_reason ["reason"] (defScope s_shown_reason) := ⟨rfl, rfl, rfl, by decide +kernel, rfl, by decide +kernel, by decide +kernel⟩
-- slots: 0:reason 1:one
theorem ok_shown_reason (T : Tx K mg) : Ok P w K mg base 3 ("shown_reason", none) ["reason"] (sp_shown_reason K) := by
  refine T.ok 70 rfl (N := N_shown_reason) rfl rfl sc_shown_reason (fun vs H Q E h => ?_) (fun _ _ _ _ _ _ us hl => match us, hl with | [_], _ => rfl) (fun cdv A outer s H vs Q E hr h => ?_)
  · obtain ⟨_, _, rfl, _⟩ := h
    rfl
  have hu := hu_of hr
  obtain ⟨v, r, rfl, hd, hg, k⟩ := h
  refine ⟨_, (pss_cons (ps_if (pt_cmpR op_eq (pe_ix (kixt K) (pv 0) pe_int (fun _ _ => rfl)) pe_str (nomark _)) (pss_one (ps_ret (pe_op op_add_str pe_str (pe_f (ok_shown_ground T) hr T.g_shown_ground passL (pa_cons (pe_ix (kixt K) (pv 0) pe_int (fun _ _ => rfl)) pa_nil))))) pss_nil)
 (pss_cons (ps_if (pt_cmpR op_eq (pe_ix (kixt K) (pv 0) pe_int (fun _ _ => rfl)) pe_str (nomark _)) (pss_one (ps_ret (pe_op op_add_str pe_str (pe_f (ok_words_of T) hr T.g_words_of passL (pa_cons (pe_ix (kixt K) (pv 0) pe_int (fun _ _ => rfl)) pa_nil))))) pss_nil)
 (pss_one (ps_ret (kjoin K pe_str (pe_lc (own := [("one", 1)]) (tt := tYes) (by rfl) sc_shown_reason.nd (kseq K (pv 0)) (blkOk_by (N := N_shown_reason) (sc := defScope s_shown_reason) (by decide +kernel)) (fun _ _ _ _ _ => (pg_name (i := 1) sc_shown_reason.nd rfl (by first | exact Or.inl rfl | exact Or.inr rfl))) (fun _ _ _ _ _ => pts_nil) (fun _ _ _ _ _ => (pe_callTy call_str_is (by rfl) T.b_str (by decide +kernel) (pa_cons (pv 1) pa_nil))))))))), ?_⟩
  have gen : ∀ {p : Addr} {xs : List V} {ds : List PyData} {D : Ends}, SqT K H p xs → DpAll K H xs ds → (∀ d ∈ ds, atomOk d ∧ d ≠ .none) → ds.length ≤ 100 → (∀ H', Ex H H' → D.rt (.str (atomsM ds)) H') →
      tRet (tM1 (fun x xs H Q => ∃ a p, ∃ ys : List Str, x = .str a ∧ xs = [.ref p] ∧ (SqL K H p (ys.map V.str) ∨ SqT K H p (ys.map V.str)) ∧ (ys.map (·.length)).sum + ys.length * a.length ≤ 16777216 ∧ Q (.str (Txt.join a ys)) H)
        (tC (.str " ")) (tLc (iSeq K (tVar 0)) (gName 1) tYes (tCB (fun xs H Q => (∃ i, xs = [V.int i] ∧ i.natAbs.log2 < 1920 ∧ Q (.str (toString i)) H) ∨ ∃ a, xs = [V.str a] ∧ Q (.str a) H) (tCons (tVar 1) tNil)) ([(("one" : Str), 1)].map (·.2)))) D [some (.ref p), none] H := by
    intro p xs ds D sp dp ok hl q
    refine ⟨⟨_, rfl⟩, _, rfl, lc_y (K := K) xs ds (fun d => .str (atomS d)) dp.len (by omega) (.inr sp) (fun _ => rfl) ?_ ?_⟩
    · intro d v H2 Yes e2 hd i hv hi yes
      have q := dp_ex e2 (dp.get hv hi)
      have o := ok d hd
      refine ⟨rfl, _, rfl, ?_⟩
      cases d with
      | str z => rw [dp_str q]; exact .inr ⟨z, rfl, yes _ _ (Ex.refl _) (.str _)⟩
      | int i => rw [dp_int q]; exact .inl ⟨i, rfl, good_log o.1, yes _ _ (Ex.refl _) (.str _)⟩
      | none => exact absurd rfl o.2
      | bool b => exact absurd o.1 id
      | list l => exact absurd o.1 id
      | tuple l => exact absurd o.1 id
      | dict l => exact absurd o.1 id
    intro L zs H2 nL e2 hL hp
    have e : ds.map (fun d => PyData.str (atomS d)) = (ds.map atomS).map PyData.str := by rw [List.map_map]; rfl
    rw [e] at hp
    rw [dpa_strs hp] at hL
    exact ⟨" ", L, _, rfl, rfl, .inl (sq_of hL), (atoms_le (fun d hd => (ok d hd).1) hl).1, q _ e2⟩
  have two : ∀ {z : Str} {n : Int}, z.length ≤ 100 → good n → ∀ d ∈ [PyData.str z, PyData.int n], atomOk d ∧ d ≠ .none := fun {z n} h1 h2 d hd => by
    have : d = .str z ∨ d = .int n := by simpa using hd
    rcases this with e | e
    · rw [e]; exact ⟨h1, fun y => (by cases y)⟩
    · rw [e]; exact ⟨h2, fun y => (by cases y)⟩
  rw [dReason_eq] at hd
  cases r with
  | out g =>
    obtain ⟨p, x0, x1, rfl, st, d0, d1⟩ := dp_tup2 hd
    rw [dp_str d0] at st
    refine ⟨_, rfl, p, _, 0, _, rfl, rfl, st, atI_zero _ _, rfl, _, rfl, ?_⟩
    rw [dss]
    have gl := ground_len (r := g) hg
    exact iteT ⟨_, rfl, p, _, 1, _, rfl, rfl, st, atI_1 _ _ _, x1, g, rfl, d1, hg, fun H1 e1 => ⟨_, _, rfl, rfl, by rw [show ("out " : Str).length = 4 by decide +kernel, sizeLine_eq]; omega, k _ e1⟩⟩
  | leans ns =>
    obtain ⟨p, x0, x1, rfl, st, d0, d1⟩ := dp_tup2 hd
    rw [dp_str d0] at st
    refine ⟨_, rfl, p, _, 0, _, rfl, rfl, st, atI_zero _ _, rfl, _, rfl, ?_⟩
    rw [dsn (by decide +kernel)]
    refine iteF ⟨_, rfl, p, _, 0, _, rfl, rfl, st, atI_zero _ _, rfl, _, rfl, ?_⟩
    rw [dss]
    have h2 : ns.length ≤ 100 := hg.2
    have wl := (words_le hg.1 (by omega)).2
    exact iteT ⟨_, rfl, p, _, 1, _, rfl, rfl, st, atI_1 _ _ _, x1, ns, rfl, .inl d1, hg.1, by omega, fun H1 e1 => ⟨_, _, rfl, rfl, by rw [show ("leans " : Str).length = 6 by decide +kernel, sizeLine_eq]; omega, k _ e1⟩⟩
  | stopped =>
    obtain ⟨p, x0, rfl, st, d0⟩ := dp_tup1 hd
    have st' := st
    rw [dp_str d0] at st
    refine ⟨_, rfl, p, _, 0, _, rfl, rfl, st, atI_zero _ _, rfl, _, rfl, ?_⟩
    rw [dsn (by decide +kernel)]
    refine iteF ⟨_, rfl, p, _, 0, _, rfl, rfl, st, atI_zero _ _, rfl, _, rfl, ?_⟩
    rw [dsn (by decide +kernel)]
    exact iteF (gen st' (.cons d0 .nil) (fun d hd => by rw [List.mem_singleton.mp hd]; exact ⟨by show ("stopped" : Str).length ≤ 100; decide +kernel, fun y => (by cases y)⟩) (by decide) k)
  | inn n =>
    obtain ⟨p, x0, x1, rfl, st, d0, d1⟩ := dp_tup2 hd
    have st' := st
    rw [dp_str d0] at st
    refine ⟨_, rfl, p, _, 0, _, rfl, rfl, st, atI_zero _ _, rfl, _, rfl, ?_⟩
    rw [dsn (by decide +kernel)]
    refine iteF ⟨_, rfl, p, _, 0, _, rfl, rfl, st, atI_zero _ _, rfl, _, rfl, ?_⟩
    rw [dsn (by decide +kernel)]
    exact iteF (gen st' (.cons d0 (.cons d1 .nil)) (two (by decide +kernel) hg) (by show 2 ≤ 100; decide) k)
  | laid n =>
    obtain ⟨p, x0, x1, rfl, st, d0, d1⟩ := dp_tup2 hd
    have st' := st
    rw [dp_str d0] at st
    refine ⟨_, rfl, p, _, 0, _, rfl, rfl, st, atI_zero _ _, rfl, _, rfl, ?_⟩
    rw [dsn (by decide +kernel)]
    refine iteF ⟨_, rfl, p, _, 0, _, rfl, rfl, st, atI_zero _ _, rfl, _, rfl, ?_⟩
    rw [dsn (by decide +kernel)]
    exact iteF (gen st' (.cons d0 (.cons d1 .nil)) (two (by decide +kernel) hg) (by show 2 ≤ 100; decide) k)
  | halving n =>
    obtain ⟨p, x0, x1, rfl, st, d0, d1⟩ := dp_tup2 hd
    have st' := st
    rw [dp_str d0] at st
    refine ⟨_, rfl, p, _, 0, _, rfl, rfl, st, atI_zero _ _, rfl, _, rfl, ?_⟩
    rw [dsn (by decide +kernel)]
    refine iteF ⟨_, rfl, p, _, 0, _, rfl, rfl, st, atI_zero _ _, rfl, _, rfl, ?_⟩
    rw [dsn (by decide +kernel)]
    exact iteF (gen st' (.cons d0 (.cons d1 .nil)) (two (by decide +kernel) hg) (by show 2 ≤ 100; decide) k)
  | unfit n =>
    obtain ⟨p, x0, x1, rfl, st, d0, d1⟩ := dp_tup2 hd
    have st' := st
    rw [dp_str d0] at st
    refine ⟨_, rfl, p, _, 0, _, rfl, rfl, st, atI_zero _ _, rfl, _, rfl, ?_⟩
    rw [dsn (by decide +kernel)]
    refine iteF ⟨_, rfl, p, _, 0, _, rfl, rfl, st, atI_zero _ _, rfl, _, rfl, ?_⟩
    rw [dsn (by decide +kernel)]
    exact iteF (gen st' (.cons d0 (.cons d1 .nil)) (two (by decide +kernel) hg) (by show 2 ≤ 100; decide) k)
  | turn n =>
    obtain ⟨p, x0, x1, rfl, st, d0, d1⟩ := dp_tup2 hd
    have st' := st
    rw [dp_str d0] at st
    refine ⟨_, rfl, p, _, 0, _, rfl, rfl, st, atI_zero _ _, rfl, _, rfl, ?_⟩
    rw [dsn (by decide +kernel)]
    refine iteF ⟨_, rfl, p, _, 0, _, rfl, rfl, st, atI_zero _ _, rfl, _, rfl, ?_⟩
    rw [dsn (by decide +kernel)]
    exact iteF (gen st' (.cons d0 (.cons d1 .nil)) (two (by decide +kernel) hg) (by show 2 ≤ 100; decide) k)
end LG

set_option Elab.async false
set_option linter.all false
set_option maxRecDepth 100000
set_option maxHeartbeats 4000000
/-! Plain laws: what is shown is small. -/
namespace LG
open PySem PySem.Spec L2 Evl TL
structure GI (g : GS) : Prop where
  ed : ∀ c ∈ g.chs, ∀ e ∈ c.edits, goodE e
  go : ∀ p ∈ g.gone, goodG p.2
theorem put_mem {κ α : Type} [DecidableEq κ] {kvs : List (κ × α)} {k : κ} {v : α} {p : κ × α} (h : p ∈ put kvs k v) : p ∈ kvs ∨ p.2 = v := by
  unfold put at h
  split at h
  · obtain ⟨q, hq, e⟩ := List.mem_map.mp h
    by_cases c : q.1 = k
    · rw [if_pos c] at e; exact .inr (by rw [← e])
    · rw [if_neg c] at e; exact .inl (by rw [← e]; exact hq)
  · rcases List.mem_append.mp h with z | z
    · exact .inl z
    · exact .inr (by rw [List.mem_singleton.mp z])
theorem GI.out {g : GS} (h : GI g) {n : Int} {r : Ground} (hr : goodG r) : GI (g.putOut n r) :=
  ⟨h.ed, fun p hp => by
    rcases put_mem (show p ∈ put g.gone n r from hp) with z | z
    · exact h.go p z
    · rw [z]; exact hr⟩
theorem small_good {n : Int} (h1 : 0 ≤ n) (h2 : n ≤ 1000) : good n := ⟨h1, by omega⟩
theorem WF.goodN {N : Nat} {g : GS} (W : WF N g) {n : Int} (h : okN g.chs n) : good n := small_good (by have := h.1; omega) (by have := h.2; have := W.few; have := W.hN; omega)
theorem least_mem {l : List Int} (h : l ≠ []) : GS.leastOf l ∈ l := by
  cases l with
  | nil => exact absurd rfl h
  | cons a r =>
    obtain ⟨q1, _, _⟩ := least_spec r a
    show r.foldl (fun m x => if x < m then x else m) a ∈ a :: r
    rcases q1 with e | e
    · rw [e]; exact List.mem_cons_self
    · exact List.mem_cons_of_mem _ e
theorem GI.lean {N : Nat} {g : GS} (h : GI g) (W : WF N g) {n : Int} (hn : n ∈ g.queue) : GI (g.leanStep n) := by
  unfold GS.leanStep
  by_cases c : g.outLeans n = []
  · rw [if_pos c]; exact h
  · rw [if_neg c]
    refine h.out ?_
    have hm := (List.mem_filter.mp (least_mem c)).1
    have := W.leans hm (W.okQ hn).1
    exact W.goodN ⟨this.1, this.2.2⟩
theorem GI.leanL {N : Nat} : ∀ (todo : List Int) (g : GS), GI g → WF N g → (∀ n ∈ todo, n ∈ g.queue) → todo.Nodup → GI (todo.foldl GS.leanStep g)
  | [], g, h, _, _, _ => h
  | n :: r, g, h, W, hq, nd => by
    obtain ⟨n1, n2⟩ := List.nodup_cons.mp nd
    have hn := hq n List.mem_cons_self
    obtain ⟨W1, c1, _⟩ := W.lean hn
    exact GI.leanL r _ (h.lean W hn) W1 (fun m hm => (c1 m fun e => n1 (by rw [← e]; exact hm)).mpr (hq m (List.mem_cons_of_mem _ hm))) n2
theorem GI.byLeaning {N : Nat} {g : GS} (h : GI g) (W : WF N g) : GI g.byLeaning :=
  GI.leanL g.queue g h W (fun _ h => h) (W.so.imp (fun {a b} (h : a < b) => (show a ≠ b by omega)))
theorem GI.outL (f : Int → Ground) (hf : ∀ n, goodG (f n)) : ∀ (l : List Int) (g : GS), GI g → GI (l.foldl (fun h n => h.putOut n (f n)) g)
  | [], g, h => h
  | n :: r, g, h => GI.outL f hf r _ (h.out (hf n))
theorem unfit_slot {s : List (Int × Int)} {es : List Edit} {i : Int} (h : unfitM s es = some i) : ∃ e ∈ es, e.1 = i := by
  unfold unfitM at h
  obtain ⟨e, he, rfl⟩ := Option.map_eq_some_iff.mp h
  exact ⟨e, List.mem_of_find?_eq_some he, rfl⟩
theorem GI.edC {g : GS} (h : GI g) (n : Int) : ∀ e ∈ (getC g.chs n).edits, goodE e := by
  unfold getC
  rw [List.getD_eq_getElem?_getD]
  cases hc : g.chs[(n - 1).toNat]? with
  | none => intro e he; cases he
  | some c => exact h.ed c (List.mem_of_getElem? hc)
theorem GI.byUnfit {g : GS} (h : GI g) : GI g.byUnfit :=
  GI.outL (fun n => .unfit (unfitM g.sheet (getC g.chs n).edits)) (fun n i hi => by
    obtain ⟨e, he, rfl⟩ := unfit_slot hi
    exact (h.edC n e he).1) _ g h
theorem WF.lookGood {N : Nat} {g : GS} (W : WF N g) (k : Nat) : (∀ n ∈ g.lookAt k, good n) ∧ (g.lookAt k).length ≤ 100 := by
  refine ⟨fun n hn => ?_, ?_⟩
  · rcases List.mem_append.mp hn with z | z
    · exact W.goodN (W.okT z)
    · exact W.goodN (W.okU (List.mem_of_mem_take z))
  · have := W.len
    have := W.few
    have := W.hN
    unfold GS.lookAt
    rw [List.length_append, List.length_take]
    omega
theorem GI.same {g h : GS} (q : GI g) (e1 : h.chs = g.chs) (e2 : h.gone = g.gone) : GI h := ⟨by rw [e1]; exact q.ed, by rw [e2]; exact q.go⟩
theorem GI.byLook {N : Nat} {g : GS} (h : GI g) (W : WF N g) : GI g.byLook := by
  unfold GS.byLook
  split
  · exact h
  · exact (h.same (h := g.waitAgain 0) rfl rfl).out (W.lookGood 1)
theorem GI.turned {N : Nat} {g : GS} (h : GI g) (W : WF N g) : GI g.turned.2 := by
  have h1 := h.byLeaning W
  obtain ⟨W1, _, _, _⟩ := W.byLeaning
  unfold GS.turned
  split
  · exact h1
  · have h2 : GI g.byLeaning.refill := h1.same W1.refill.2.2 (refill_gone _)
    have W2 := W1.refill.1
    generalize g.byLeaning.refill = z at *
    unfold GS.turn2
    split
    · exact h2.byLook W2
    · split
      · exact h2.byUnfit
      · exact h2
theorem GI.spin {N : Nat} : ∀ (k : Nat) (g : GS), GI g → WF N g → GI (GS.spin k g)
  | 0, g, h, _ => h
  | k + 1, g, h, W => by
    rw [GS.spin]
    split
    · exact GI.spin k _ (h.turned W) W.turned.1
    · exact h.turned W
theorem GI.settle {N : Nat} {g : GS} (h : GI g) (W : WF N g) : GI g.settle := (GI.spin _ g h W).same (h := g.settle) rfl rfl
theorem GI.step {N : Nat} {g g' : GS} {r : Row} {t : Told} (h : GI g) (W : WF N g) (A : AskOk g) (hN : N + 1 ≤ 20) (hr : smallR r) (hg : goodR r) (hs : g.step r = .ok (g', t)) : GI g' := by
  have W1 := W.mono (Nat.le_succ N) hN
  cases r with
  | ask rank ls es =>
    replace hs : g.doAsk ⟨rank, ls, es⟩ = .ok (g', t) := hs
    unfold GS.doAsk at hs
    split at hs
    · cases hs
    · rename_i c
      split at hs
      · cases hs
      · cases hs
        have hv : validC g.chs.length ⟨rank, ls, es⟩ = true := by cases hv : validC g.chs.length ⟨rank, ls, es⟩ with | true => rfl | false => exact absurd hv c
        refine GI.settle ⟨fun c hc => ?_, h.go⟩ (W.added hN hv hr)
        rcases List.mem_append.mp hc with z | z
        · exact h.ed c z
        · rw [List.mem_singleton.mp z]; exact hg.2.2
  | withdraw n =>
    replace hs : g.doWithdraw n = .ok (g', t) := hs
    unfold GS.doWithdraw at hs
    split at hs
    · cases hs
    · rename_i c
      split at hs
      · cases hs
      · rename_i c2
        cases hs
        have h1 : okN g.chs n := ⟨by omega, by omega⟩
        have h2 : n ∉ g.top := fun z => c2 (.inl z)
        have h3 : n ∉ g.keys := fun z => c2 (.inr (isGone_iff.mpr z))
        rcases W1.wq h1 h2 h3 with ⟨hu, hq⟩ | ⟨hu, hq⟩
        · rw [if_pos hu]
          exact GI.settle ((h.same (h := g.waitAgain _) rfl rfl).out trivial) ((W1.again _).out hq _).1
        · rw [if_neg hu]
          exact GI.settle (h.out trivial) (W1.out hq _).1
  | answer l a =>
    replace hs : g.doAnswer l a = .ok (g', t) := hs
    unfold GS.doAnswer at hs
    split at hs
    · cases hs
    · rename_i c
      split at hs
      · cases hs
      · cases hs
        obtain ⟨k, k1, k2, k3⟩ := A.1 l (Classical.not_not.mp c)
        have Wa := W.answered hN l a
        cases e : ((g.tally l).tell a).last with
        | none => exact GI.settle (h.same (h := g.answered l a) rfl rfl) Wa
        | some b =>
          refine GI.settle (h.same (h := (g.answered l a).endLook l b) ?_ ?_) (Wa.endLook (k := k) k3 k2 b)
          · unfold GS.endLook; split <;> rfl
          · unfold GS.endLook; split <;> rfl
  | stop =>
    cases hs
    exact GI.settle (h.same rfl rfl) ((W1.again 0).halt true)
  | go =>
    cases hs
    exact GI.settle (h.same rfl rfl) (W1.halt false)
theorem GI.new (w h n t : Int) : GI (GS.new w h n t) := ⟨fun c hc => (by cases hc), fun p hp => (by cases hp)⟩
theorem GI.replay : ∀ (rs : List Row) (N : Nat) (g g' : GS), GI g → WF N g → AskOk g → N + rs.length ≤ 20 → (∀ r ∈ rs, smallR r ∧ goodR r) → replay g rs = some g' → GI g'
  | [], N, g, g', h, _, _, _, _, e => by cases e; exact h
  | r :: rs, N, g, g', h, W, A, hN, hs, e => by
    rw [LG.replay] at e
    rw [List.length_cons] at hN
    cases q : g.step r with
    | error x => rw [q] at e; cases e
    | ok z =>
      obtain ⟨g1, t⟩ := z
      rw [q] at e
      have hr := hs r List.mem_cons_self
      obtain ⟨W1, A1⟩ := W.step A (by omega) hr.1 q
      exact GI.replay rs (N + 1) g1 g' (h.step W A (by omega) hr.1 hr.2 q) W1 A1 (by omega) (fun r hr => hs r (List.mem_cons_of_mem _ hr)) e
/-! ### what is shown -/
section
variable {N : Nat} {g : GS}
theorem WF.topGood (W : WF N g) : (∀ n ∈ g.top, good n) ∧ g.top.length ≤ 1000 := ⟨fun n h => W.goodN (W.okT h), by have := W.len; have := W.few; have := W.hN; omega⟩
theorem WF.uponGood (W : WF N g) : (∀ n ∈ g.upon, good n) ∧ g.upon.length ≤ 1000 := ⟨fun n h => W.goodN (W.okU h), by have := W.len; have := W.few; have := W.hN; omega⟩
theorem WF.queueGood (W : WF N g) : (∀ n ∈ g.queue, good n) ∧ g.queue.length ≤ 1000 := ⟨fun n h => W.goodN (W.okQ h), by have := W.len; have := W.few; have := W.hN; omega⟩
theorem WF.asksGood (W : WF N g) (A : AskOk g) : goodLs g.asked := by
  refine ⟨fun l hl => ?_, A.2⟩
  obtain ⟨k, _, _, rfl⟩ := A.1 l hl
  exact W.lookGood k
theorem look_memV {d : List (Int × Int)} {k v : Int} (h : look d k = some v) : (k, v) ∈ d := look_mem h
theorem goodPs_put {d : List (Int × Int)} (h : ∀ p ∈ d, good p.1 ∧ good p.2) {k v : Int} (hk : good k) (hv : good v) : ∀ p ∈ put d k v, good p.1 ∧ good p.2 := fun p hp => by
  unfold put at hp
  split at hp
  · obtain ⟨q, hq, e⟩ := List.mem_map.mp hp
    by_cases c : q.1 = k
    · rw [if_pos c] at e; rw [← e]; exact ⟨(h q hq).1, hv⟩
    · rw [if_neg c] at e; rw [← e]; exact h q hq
  · rcases List.mem_append.mp hp with z | z
    · exact h p z
    · rw [List.mem_singleton.mp z]; exact ⟨hk, hv⟩
theorem goodPs_merge : ∀ {s acc : List (Int × Int)}, (∀ p ∈ s, good p.1 ∧ good p.2) → (∀ p ∈ acc, good p.1 ∧ good p.2) → ∀ p ∈ s.foldl (fun acc p => put acc p.1 p.2) acc, good p.1 ∧ good p.2
  | [], _, _, h => h
  | q :: r, acc, hs, h => goodPs_merge (s := r) (acc := put acc q.1 q.2) (fun p hp => hs p (List.mem_cons_of_mem _ hp)) (goodPs_put h (hs q List.mem_cons_self).1 (hs q List.mem_cons_self).2)
theorem goodPs_apply : ∀ {es : List Edit} {d : List (Int × Int)}, (∀ e ∈ es, goodE e) → (∀ p ∈ d, good p.1 ∧ good p.2) → ∀ p ∈ applyE d es, good p.1 ∧ good p.2
  | [], _, _, h => h
  | e :: r, d, hs, h => by
    have := hs e List.mem_cons_self
    exact goodPs_apply (es := r) (d := put d e.1 e.2.2) (fun p hp => hs p (List.mem_cons_of_mem _ hp)) (goodPs_put h this.1 this.2.2)
theorem goodPs_sov {d : List (Int × Int)} (h : ∀ p ∈ d, good p.1 ∧ good p.2) : ∀ p ∈ sov d, good p.1 ∧ good p.2 := fun p hp => by
  unfold sov at hp
  obtain ⟨k, hk, rfl⟩ := List.mem_map.mp hp
  have hm := (isort_perm _).mem_iff.mp (List.mem_filter.mp hk).1
  obtain ⟨q, hq, rfl⟩ := List.mem_map.mp hm
  refine ⟨(h q hq).1, ?_⟩
  show good ((look d q.1).getD 0)
  cases e : look d q.1 with
  | none => exact small_good (by decide) (by decide)
  | some v => exact (h _ (look_mem e)).2
theorem goodPs_edited {s : List (Int × Int)} {es : List Edit} (h : ∀ p ∈ s, good p.1 ∧ good p.2) (he : ∀ e ∈ es, goodE e) : ∀ p ∈ editedM s es, good p.1 ∧ good p.2 :=
  goodPs_sov (goodPs_apply he (goodPs_merge h (fun p hp => by cases hp)))
theorem goodPs_sheet (h : GI g) : ∀ (row : List Int) (s : List (Int × Int)), (∀ p ∈ s, good p.1 ∧ good p.2) → ∀ p ∈ row.foldl (fun s n => editedM s (getC g.chs n).edits) s, good p.1 ∧ good p.2
  | [], s, hs => hs
  | n :: r, s, hs => goodPs_sheet h r _ (goodPs_edited hs (h.edC n))
theorem GI.sheetGood (h : GI g) (W : WF N g) : (∀ p ∈ g.sheet, good p.1 ∧ good p.2) ∧ g.sheet.length ≤ 1000 := by
  refine ⟨goodPs_sheet h g.top [] (fun p hp => by cases hp), ?_⟩
  have h1 := sheetM_len g.chs g.top
  have h2 := wtE_sm W.sm g.top
  have := W.len
  have := W.few
  have := W.hN
  show (sheetM g.chs g.top).length ≤ 1000
  omega
theorem idx_le (l : List Int) (n : Int) (h : n ∈ l) : l.idxOf n < l.length := (List.getElem?_eq_some_iff.mp (idx_first n l h).1).1
theorem ahead_bd (chs : List Chg) (n : Int) : ∀ (l : List Int) (k : Int), 0 ≤ k → 0 ≤ l.foldl (fun k m => if (getC chs n).rank < (getC chs m).rank ∨ ((getC chs m).rank = (getC chs n).rank ∧ m < n) then k + 1 else k) k ∧ l.foldl (fun k m => if (getC chs n).rank < (getC chs m).rank ∨ ((getC chs m).rank = (getC chs n).rank ∧ m < n) then k + 1 else k) k ≤ k + l.length
  | [], k, h => ⟨h, by simp⟩
  | m :: r, k, h => by
    rw [List.foldl_cons, List.length_cons]
    split
    · have := ahead_bd chs n r (k + 1) (by omega)
      omega
    · have := ahead_bd chs n r k h
      omega
theorem GI.whyGood (h : GI g) (W : WF N g) (n : Int) : ∀ r, g.why n = some r → goodRs r := by
  intro r hr
  have l1 := W.len
  have l2 := W.few
  have l3 := W.hN
  unfold GS.why at hr
  split at hr
  · cases hr
  rename_i c0
  have on : okN g.chs n := ⟨by omega, by omega⟩
  split at hr
  · rename_i c
    cases hr
    have := idx_le g.top n c
    exact small_good (by omega) (by omega)
  split at hr
  · rename_i r' e
    cases hr
    exact h.go _ (look_mem e)
  split at hr
  · rename_i c
    cases hr
    have := idx_le g.upon n c
    exact small_good (by omega) (by omega)
  cases hr
  unfold GS.whyWaiting
  split
  · exact trivial
  split
  · refine ⟨fun m hm => ?_, ?_⟩
    · have hm2 := (List.mem_filter.mp hm).1
      have := W.leans hm2 on.1
      exact W.goodN ⟨this.1, this.2.2⟩
    · have := (getC_sm W.sm n).1
      have h3 : (g.lacking n).length ≤ (getC g.chs n).leans.length := List.length_filter_le _ _
      omega
  split
  · rename_i k e
    have := bad_some e
    exact small_good (by show 0 ≤ (k : Int); omega) (by show (k : Int) ≤ 1000; omega)
  split
  · rename_i s e
    obtain ⟨e1, he, rfl⟩ := unfit_slot e
    exact (h.edC n e1 he).1
  · have hb := ahead_bd g.chs n (layableM g.chs g.top g.upon g.queue) 0 (by decide)
    have hl : (layableM g.chs g.top g.upon g.queue).length ≤ g.queue.length := Nat.le_trans (List.length_filter_le _ _) (List.length_filter_le _ _)
    exact small_good hb.1 (by show GS.aheadOf g n ≤ 1000; unfold GS.aheadOf; omega)
end
end LG

set_option Elab.async false
set_option linter.all false
set_option maxRecDepth 100000
set_option maxHeartbeats 4000000
namespace LG
open PySem PySem.Spec L2 Evl
open PyProof.Rows hiding St
variable {P : Program} {w : World} {K : PySem.W.Frag} {mg : Str → Option Value} {base : Heap}

open TL
/-! ### the desk -/
structure DA where
  p : Addr
  dx : Addr
  B : BA
  ga : GA
def dkF (D : DA) : List (Str × V) := [("book", .ref D.B.p), ("gate", .ref D.ga.p)]
def footD (D : DA) : List Addr := D.p :: (footB D.B ++ foot D.ga)
structure DkAt (K : PySem.W.Frag) (H : Hp) (D : DA) (hs : Hs) (rs : List Row) (g : GS) : Prop where
  ob : H D.p = some (.ins (He.ga K "Desk") D.dx (dkF D))
  bk : BkAt K H D.B hs rs g
  gt : GtAt K H D.ga g
  ap1 : D.p ∉ footB D.B
  ap2 : D.p ∉ foot D.ga
  ap3 : ∀ b, b ∈ footB D.B → b ∈ foot D.ga → False
structure Sd (hs : Hs) (rs : List Row) (g : GS) : Prop where
  ho : hs.Ok
  re : replay hs.new rs = some g
  sz : rs.length ≤ 20
  sm : ∀ r ∈ rs, smallR r ∧ goodR r
section
variable {H H' : Hp} {D : DA} {hs : Hs} {rs : List Row} {g : GS}
theorem Sd.wf (s : Sd hs rs g) : WF rs.length g ∧ AskOk g := by
  have := WF.replay rs 0 hs.new g (Hs.wf s.ho).1 (Hs.wf s.ho).2 (by have := s.sz; omega) (fun r hr => (s.sm r hr).1) s.re
  rw [Nat.zero_add] at this
  exact this
theorem Sd.gi (s : Sd hs rs g) : GI g := GI.replay rs 0 hs.new g (GI.new _ _ _ _) (Hs.wf s.ho).1 (Hs.wf s.ho).2 (by have := s.sz; omega) s.sm s.re
theorem replay_app : ∀ (a b : List Row) (g : GS), replay g (a ++ b) = (replay g a).bind fun g' => replay g' b
  | [], b, g => rfl
  | r :: a, b, g => by
    show replay g (r :: (a ++ b)) = _
    rw [replay, replay]
    cases g.step r with
    | error e => rfl
    | ok z => exact replay_app a b z.1
theorem Sd.pre {a b : List Row} (s : Sd hs (a ++ b) g) : ∃ g', Sd hs a g' := by
  have re := s.re
  rw [replay_app] at re
  cases e : replay hs.new a with
  | none => rw [e] at re; cases re
  | some g' => exact ⟨g', s.ho, e, by have := s.sz; rw [List.length_append] at this; omega, fun r hr => s.sm r (List.mem_append_left _ hr)⟩
theorem Sd.snoc {r : Row} {g' : GS} {t : Told} (s : Sd hs rs g) (h : g.step r = .ok (g', t)) (hl : rs.length + 1 ≤ 20) (hr : smallR r ∧ goodR r) : Sd hs (rs ++ [r]) g' := by
  refine ⟨s.ho, ?_, by rw [List.length_append]; exact hl, fun q hq => ?_⟩
  · rw [replay_app, s.re]
    show replay g [r] = some g'
    rw [replay, h]; rfl
  · rcases List.mem_append.mp hq with z | z
    · exact s.sm q z
    · rw [List.mem_singleton.mp z]; exact hr
theorem DkAt.ex (h : DkAt K H D hs rs g) (e : Ex H H') : DkAt K H' D hs rs g := ⟨e _ _ h.ob, h.bk.ex e, h.gt.ex e, h.ap1, h.ap2, h.ap3⟩
theorem DkAt.there (h : DkAt K H D hs rs g) : ∀ b ∈ footD D, H b ≠ none := fun b hb => by
  rcases List.mem_cons.mp hb with e | hb
  · rw [e, h.ob]; intro z; cases z
  rcases List.mem_append.mp hb with m | m
  · exact h.bk.there b m
  · exact h.gt.there b m
theorem DkAt.fr {F F' : List Addr} (h : DkAt K H D hs rs g) (f : Fr F F' H H') (ap : ∀ b, b ∈ F → b ∈ footD D → False) : DkAt K H' D hs rs g :=
  ⟨f.out _ _ h.ob fun m => ap _ m List.mem_cons_self, h.bk.fr f fun b h1 h2 => ap b h1 (List.mem_cons_of_mem _ (List.mem_append_left _ h2)), h.gt.fr f fun b h1 h2 => ap b h1 (List.mem_cons_of_mem _ (List.mem_append_right _ h2)), h.ap1, h.ap2, h.ap3⟩
end
def sp_Desk_init (K : PySem.W.Frag) : Sp := fun vs H Q _ => ∃ p dx, ∃ hs : Hs, vs = [.ref p, .int hs.w, .int hs.h, .int hs.n, .int hs.t] ∧ H p = some (.ins (He.ga K "Desk") dx []) ∧ hs.Ok ∧
  ∀ D H', D.p = p → DkAt K H' D hs [] hs.new → (∀ b o, H b = some o → b ≠ p → H' b = some o) → (∀ b ∈ footD D, b = p ∨ H b = none) → Q .non H'
abbrev N_Desk_init : List Str := ["self", "width", "hands", "need", "tries"]
theorem sc_Desk_init : FnScope N_Desk_init ["self", "width", "hands", "need", "tries"] (defScope s_Desk_init) := ⟨rfl, rfl, rfl, by decide +kernel, rfl, by decide +kernel, by decide +kernel⟩
-- slots: 0:self 1:width 2:hands 3:need 4:tries
theorem ok_Desk_init (T : Tx K mg) : Ok P w K mg base 7 ("Desk", some "__init__") ["self", "width", "hands", "need", "tries"] (sp_Desk_init K) := by
  refine T.ok 71 rfl (N := N_Desk_init) rfl rfl sc_Desk_init (fun vs H Q E h => ?_) (fun _ _ _ _ _ _ us hl => match us, hl with | [_, _, _, _, _], _ => rfl) (fun cdv A outer s H vs Q E hr h => ?_)
  · obtain ⟨_, _, _, rfl, _⟩ := h
    rfl
  have hu := hu_of hr
  obtain ⟨p, dx, hs, rfl, hp, hk, k⟩ := h
  refine ⟨_, (pss_cons (ksfld K (pv 0) (pe_n (ok_Book_init T) T.k_Book hr T.g_Book passL (pa_cons (pv 1) (pa_cons (pv 2) (pa_cons (pv 3) (pa_cons (pv 4) pa_nil))))))
 (pss_one (ksfld K (pv 0) (pe_n (ok_Gate_init T) T.k_Gate hr T.g_Gate passL (pa_cons (pv 1) (pa_cons (pv 2) (pa_cons (pv 3) (pa_cons (pv 4) pa_nil)))))))), ?_⟩
  refine ⟨_, rfl, _, rfl, _, rfl, _, rfl, fun c cdx nc ncd ncne => ?_⟩
  refine ⟨c, cdx, hs, rfl, upd_same, hk, fun B H1 ea hb fr1 fb => ⟨rfl, ?_⟩⟩
  have up : ∀ {H : Hp} {c cdx x : Addr} {C : Addr}, upd (upd H cdx (.own c)) c (.ins C cdx []) x = none → H x = none := fun {H c cdx x C} n => by
    by_cases z1 : x = c
    · rw [z1, upd_same] at n; cases n
    rw [upd_ne z1] at n
    by_cases z2 : x = cdx
    · rw [z2, upd_same] at n; cases n
    rwa [upd_ne z2] at n
  have e1 : Ex H H1 := fun x o e => by
    have z1 : x ≠ c := fun z => by rw [z, nc] at e; cases e
    have z2 : x ≠ cdx := fun z => by rw [z, ncd] at e; cases e
    exact fr1 x o (by rw [upd_ne z1, upd_ne z2]; exact e) z1
  have nb : ∀ b ∈ footB B, H b = none := fun b m => by
    rcases fb b m with z | z
    · rw [z]; exact nc
    · exact up z
  have pb : p ∉ footB B := fun m => by have := nb p m; rw [hp] at this; cases this
  have ob1 := e1 _ _ hp
  refine ⟨_, rfl, p, _, dx, _, rfl, ob1, T.c_Desk, T.n_Desk_book, by decide, ?_⟩
  have f2 : Fr [p] [p] H1 (upd H1 p (.ins (He.ga K "Desk") dx (putF "book" (.ref c) []))) := Fr.upd (by simp) ob1 rfl
  have hb2 := hb.fr f2 fun b m1 m2 => pb (by rw [List.mem_singleton.mp m1] at m2; exact m2)
  have ob2 : upd H1 p (.ins (He.ga K "Desk") dx (putF "book" (.ref c) [])) p = some (.ins (He.ga K "Desk") dx [("book", .ref c)]) := upd_same
  have fr2 : ∀ b o, H b = some o → b ≠ p → upd H1 p (.ins (He.ga K "Desk") dx (putF "book" (.ref c) [])) b = some o := fun b o e n => by rw [upd_ne n]; exact e1 _ _ e
  clear hb f2 fr1 fb
  generalize upd H1 p (.ins (He.ga K "Desk") dx (putF "book" (.ref c) [])) = H2 at hb2 ob2 fr2 ⊢
  have back2 : ∀ {x : Addr}, H2 x = none → H x = none := fun {x} n => by
    cases e : H x with
    | none => rfl
    | some u =>
      exfalso
      by_cases z : x = p
      · rw [z, ob2] at n; cases n
      · rw [fr2 x u e z] at n; cases n
  refine ⟨_, rfl, _, rfl, _, rfl, _, rfl, fun d ddx nd ndd ndne => ?_⟩
  refine ⟨d, ddx, hs.w, hs.h, hs.n, hs.t, rfl, upd_same, hk, fun a H3 eg ha fr3 fa => ⟨rfl, ?_⟩⟩
  have e3 : Ex H2 H3 := fun x o e => by
    have z1 : x ≠ d := fun z => by rw [z, nd] at e; cases e
    have z2 : x ≠ ddx := fun z => by rw [z, ndd] at e; cases e
    exact fr3 x o (by rw [upd_ne z1, upd_ne z2]; exact e) z1
  have na : ∀ b ∈ foot a, H2 b = none := fun b m => by
    rcases fa b m with z | z
    · rw [z]; exact nd
    · exact up z
  have pa : p ∉ foot a := fun m => by have := na p m; rw [ob2] at this; cases this
  have ob3 := e3 _ _ ob2
  refine ⟨_, rfl, p, _, dx, _, rfl, ob3, T.c_Desk, T.n_Desk_gate, by show 1 < 1000; decide, ?_⟩
  have f4 : Fr [p] [p] H3 (upd H3 p (.ins (He.ga K "Desk") dx (putF "gate" (.ref d) [("book", .ref c)]))) := Fr.upd (by simp) ob3 rfl
  refine k ⟨p, dx, B, a⟩ _ rfl ⟨?_, (hb2.ex e3).fr f4 fun b m1 m2 => pb (by rw [List.mem_singleton.mp m1] at m2; exact m2), ha.fr f4 fun b m1 m2 => pa (by rw [List.mem_singleton.mp m1] at m2; exact m2), pb, pa, fun b m1 m2 => hb2.there b m1 (na b m2)⟩ (fun b o e n => ?_) fun b hb => ?_
  · rw [upd_same]
    show some (HO.ins _ dx (putF "gate" (.ref d) [("book", .ref c)])) = some (HO.ins _ dx [("book", .ref B.p), ("gate", .ref a.p)])
    rw [ea, eg]
    rfl
  · rw [upd_ne n]; exact e3 _ _ (fr2 b o e n)
  · rcases List.mem_cons.mp hb with e | hb
    · exact .inl e
    rcases List.mem_append.mp hb with m | m
    · exact .inr (nb b m)
    · exact .inr (back2 (na b m))
def askedM (rs : List Row) (g : GS) (q : Str) : Option Str :=
  if q = "line" then some (someM g.top) else if q = "laid" then some (someM g.upon) else if q = "waiting" then some (someM g.queue) else if q = "wanted" then some (looksM g.asked)
  else if q = "sheet" then some (sheetT g.sheet) else if q = "book" then some (Txt.join "\n" (rs.map shownM)) else none
def vO : Option Str → V
  | none => .non
  | some z => .str z
theorem book_le {rs : List Row} (h : ∀ r ∈ rs, smallR r ∧ goodR r) (hl : rs.length ≤ 1000) : ((rs.map shownM).map (·.length)).sum + (rs.map shownM).length * ("\n" : Str).length ≤ 16777216 := by
  have h1 := sum_le (ps := rs.map shownM) (m := 3000) fun z hz => by
    obtain ⟨r, hr, rfl⟩ := List.mem_map.mp hz
    exact len_row (h r hr).2 (h r hr).1
  rw [List.length_map] at h1 ⊢
  rw [show ("\n" : Str).length = 1 by decide +kernel]
  omega
def sp_Desk_asked_of (K : PySem.W.Frag) : Sp := fun vs H Q _ => ∃ D hs rs g q, vs = [.ref D.p, .str q] ∧ DkAt K H D hs rs g ∧ Sd hs rs g ∧ ∀ H', Ex H H' → Q (vO (askedM rs g q)) H'
abbrev N_Desk_asked_of : List Str := ["self", "word", "row"]
theorem sc_Desk_asked_of : FnScope N_Desk_asked_of ["self", "word"] (defScope s_Desk_asked_of) := ⟨rfl, rfl, rfl, by decide +kernel, rfl, by decide +kernel, by decide +kernel⟩
-- slots: 0:self 1:word 2:row
theorem ok_Desk_asked_of (T : Tx K mg) : Ok P w K mg base 5 ("Desk", some "asked_of") ["self", "word"] (sp_Desk_asked_of K) := by
  refine T.ok 73 rfl (N := N_Desk_asked_of) rfl rfl sc_Desk_asked_of (fun vs H Q E h => ?_) (fun _ _ _ _ _ _ us hl => match us, hl with | [_, _], _ => rfl) (fun cdv A outer s H vs Q E hr h => ?_)
  · obtain ⟨_, _, _, _, _, rfl, _⟩ := h
    rfl
  have hu := hu_of hr
  obtain ⟨D, hs, rs, g, q, rfl, h, s, k⟩ := h
  refine ⟨_, (pss_cons (ps_if (pt_cmpR op_eq (pv 1) pe_str (nomark _)) (pss_one (ps_ret (pe_f (ok_some_or_none T) hr T.g_some_or_none passL (pa_cons (pe_m0 (kfld K (pv 0)) (ok_Gate_line T) T.c_Gate T.m_Gate_line hr passL) pa_nil)))) pss_nil)
 (pss_cons (ps_if (pt_cmpR op_eq (pv 1) pe_str (nomark _)) (pss_one (ps_ret (pe_f (ok_some_or_none T) hr T.g_some_or_none passL (pa_cons (pe_m0 (kfld K (pv 0)) (ok_Gate_laid T) T.c_Gate T.m_Gate_laid hr passL) pa_nil)))) pss_nil)
 (pss_cons (ps_if (pt_cmpR op_eq (pv 1) pe_str (nomark _)) (pss_one (ps_ret (pe_f (ok_some_or_none T) hr T.g_some_or_none passL (pa_cons (pe_m0 (kfld K (pv 0)) (ok_Gate_waiting T) T.c_Gate T.m_Gate_waiting hr passL) pa_nil)))) pss_nil)
 (pss_cons (ps_if (pt_cmpR op_eq (pv 1) pe_str (nomark _)) (pss_one (ps_ret (pe_f (ok_shown_looks T) hr T.g_shown_looks passL (pa_cons (pe_m0 (kfld K (pv 0)) (ok_Gate_wanted T) T.c_Gate T.m_Gate_wanted hr passL) pa_nil)))) pss_nil)
 (pss_cons (ps_if (pt_cmpR op_eq (pv 1) pe_str (nomark _)) (pss_one (ps_ret (pe_f (ok_shown_sheet T) hr T.g_shown_sheet passL (pa_cons (pe_m0 (kfld K (pv 0)) (ok_Gate_sheet T) T.c_Gate T.m_Gate_sheet hr passL) pa_nil)))) pss_nil)
 (pss_cons (ps_if (pt_cmpR op_eq (pv 1) pe_str (nomark _)) (pss_one (ps_ret (kjoin K pe_str (pe_lc (own := [("row", 2)]) (tt := tYes) (by rfl) sc_Desk_asked_of.nd (kseq K (pe_m0 (kfld K (pv 0)) (ok_Book_rows T) T.c_Book T.m_Book_rows hr passL)) (blkOk_by (N := N_Desk_asked_of) (sc := defScope s_Desk_asked_of) (by decide +kernel)) (fun _ _ _ _ _ => (pg_name (i := 2) sc_Desk_asked_of.nd rfl (by first | exact Or.inl rfl | exact Or.inr rfl))) (fun _ _ _ _ _ => pts_nil) (fun _ _ _ _ _ => (pe_f (ok_shown_row T) hr T.g_shown_row passL (pa_cons (pv 2) pa_nil))))))) pss_nil)
 (pss_one (ps_ret pe_non)))))))), ?_⟩
  obtain ⟨W, A⟩ := s.wf
  have G := s.gi
  unfold askedM at k
  refine ⟨_, rfl, rfl, _, rfl, ?_⟩
  rw [eq_str]
  refine ite2 (fun c => ?_) (fun c => ?_)
  · rw [if_pos (dt c)] at k
    exact ⟨_, rfl, _, _, _, _, _, rfl, h.ob, T.c_Desk, T.n_Desk_gate, rfl, _, _, _, rfl, h.gt.ob, rfl, D.ga, g, rfl, h.gt, fun p H1 np e1 hp => ⟨p, g.top, rfl, hp, W.topGood.1, W.topGood.2, fun H2 e2 => k _ (e1.trans e2)⟩⟩
  rw [if_neg (df c)] at k
  refine ⟨_, rfl, rfl, _, rfl, ?_⟩
  rw [eq_str]
  refine ite2 (fun c => ?_) (fun c => ?_)
  · rw [if_pos (dt c)] at k
    exact ⟨_, rfl, _, _, _, _, _, rfl, h.ob, T.c_Desk, T.n_Desk_gate, rfl, _, _, _, rfl, h.gt.ob, rfl, D.ga, g, rfl, h.gt, fun p H1 np e1 hp => ⟨p, g.upon, rfl, hp, W.uponGood.1, W.uponGood.2, fun H2 e2 => k _ (e1.trans e2)⟩⟩
  rw [if_neg (df c)] at k
  refine ⟨_, rfl, rfl, _, rfl, ?_⟩
  rw [eq_str]
  refine ite2 (fun c => ?_) (fun c => ?_)
  · rw [if_pos (dt c)] at k
    exact ⟨_, rfl, _, _, _, _, _, rfl, h.ob, T.c_Desk, T.n_Desk_gate, rfl, _, _, _, rfl, h.gt.ob, rfl, D.ga, g, rfl, h.gt, fun p H1 np e1 hp => ⟨p, g.queue, rfl, hp, W.queueGood.1, W.queueGood.2, fun H2 e2 => k _ (e1.trans e2)⟩⟩
  rw [if_neg (df c)] at k
  refine ⟨_, rfl, rfl, _, rfl, ?_⟩
  rw [eq_str]
  refine ite2 (fun c => ?_) (fun c => ?_)
  · rw [if_pos (dt c)] at k
    exact ⟨_, rfl, _, _, _, _, _, rfl, h.ob, T.c_Desk, T.n_Desk_gate, rfl, _, _, _, rfl, h.gt.ob, rfl, D.ga, g, rfl, h.gt, fun p ys H1 np e1 hp hd => ⟨p, ys, g.asked, rfl, hp, hd, W.asksGood A, fun H2 e2 => k _ (e1.trans e2)⟩⟩
  rw [if_neg (df c)] at k
  refine ⟨_, rfl, rfl, _, rfl, ?_⟩
  rw [eq_str]
  refine ite2 (fun c => ?_) (fun c => ?_)
  · rw [if_pos (dt c)] at k
    exact ⟨_, rfl, _, _, _, _, _, rfl, h.ob, T.c_Desk, T.n_Desk_gate, rfl, _, _, _, rfl, h.gt.ob, rfl, D.ga, g, _, rfl, h.gt, W, fun p ys H1 np e1 hp hd => ⟨p, ys, g.sheet, rfl, hp, hd, (G.sheetGood W).1, (G.sheetGood W).2, fun H2 e2 => k _ (e1.trans e2)⟩⟩
  rw [if_neg (df c)] at k
  refine ⟨_, rfl, rfl, _, rfl, ?_⟩
  rw [eq_str]
  refine ite2 (fun c => ?_) (fun c => ?_)
  · rw [if_pos (dt c)] at k
    have sz := s.sz
    refine ⟨⟨_, rfl⟩, _, rfl, _, _, _, _, _, rfl, h.ob, T.c_Desk, T.n_Desk_book, rfl, _, _, _, rfl, h.bk.ob, rfl, D.B, hs, rs, g, rfl, h.bk, fun p H1 np e1 hp hr => ?_⟩
    refine lc_y (K := K) D.B.rv rs (fun r => .str (shownM r)) hr.len (by omega) (.inl (sq_of hp)) (fun _ => rfl) ?_ ?_
    · intro r v H2 Yes e2 hm i hv hi yes
      exact ⟨rfl, _, rfl, v, r, rfl, (hr.get hv hi).keep (Keep.of_ex e2), (s.sm r hm).2, (s.sm r hm).1, fun H3 e3 => yes _ _ e3 (.str _)⟩
    intro L zs H2 nL e2 hL hp2
    have e : rs.map (fun r => PyData.str (shownM r)) = (rs.map shownM).map PyData.str := by rw [List.map_map]; rfl
    rw [e] at hp2
    rw [dpa_strs hp2] at hL
    exact ⟨"\n", L, _, rfl, rfl, .inl (sq_of hL), book_le s.sm (by omega), k _ (e1.trans e2)⟩
  rw [if_neg (df c)] at k
  exact k _ (Ex.refl _)
end LG

set_option Elab.async false
set_option linter.all false
set_option maxRecDepth 100000
set_option maxHeartbeats 4000000
namespace LG
open PySem PySem.Spec L2 Evl
open PyProof.Rows hiding St
variable {P : Program} {w : World} {K : PySem.W.Frag} {mg : Str → Option Value} {base : Heap}

open TL
def toldM : Told → Str
  | .num n => numS n
  | .word w => wS w
  | .non => "ok"
def sp_Desk_taken_back (K : PySem.W.Frag) : Sp := fun vs H Q E => ∃ D hs rs g, vs = [.ref D.p] ∧ DkAt K H D hs rs g ∧ Sd hs rs g ∧ (rs = [] → ∀ H', Ex H H' → E (.ref (He.ga K "NoRow")) none H') ∧
  (∀ rs' r, rs = rs' ++ [r] → ∀ g', Sd hs rs' g' → ∀ D' H', D'.p = D.p → DkAt K H' D' hs rs' g' → Fr (footD D) (footD D') H H' → Q (.str "ok") H')
abbrev N_Desk_taken_back : List Str := ["self"]
theorem sc_Desk_taken_back : FnScope N_Desk_taken_back ["self"] (defScope s_Desk_taken_back) := ⟨rfl, rfl, rfl, by decide +kernel, rfl, by decide +kernel, by decide +kernel⟩
-- slots: 0:self
theorem ok_Desk_taken_back (T : Tx K mg) : Ok P w K mg base 13 ("Desk", some "taken_back") ["self"] (sp_Desk_taken_back K) := by
  refine T.ok 72 rfl (N := N_Desk_taken_back) rfl rfl sc_Desk_taken_back (fun vs H Q E h => ?_) (fun _ _ _ _ _ _ us hl => match us, hl with | [_], _ => rfl) (fun cdv A outer s H vs Q E hr h => ?_)
  · obtain ⟨_, _, _, _, rfl, _⟩ := h
    rfl
  have hu := hu_of hr
  obtain ⟨D, hs, rs, g, rfl, h, s, kE, kQ⟩ := h
  refine ⟨_, (pss_cons (ps_expr (pe_m0 (kfld K (pv 0)) (ok_Book_take_back T) T.c_Book T.m_Book_take_back hr (passes_call (takes_of rfl rfl rfl rfl) (fun _ _ _ _ h => h))))
 (pss_cons (ksfld K (pv 0) (pe_m (kfld K (pv 0)) (ok_Book_gate_of T) T.c_Book T.m_Book_gate_of hr passL (pa_cons (pe_m0 (kfld K (pv 0)) (ok_Book_many T) T.c_Book T.m_Book_many hr passL) pa_nil)))
 (pss_one (ps_ret pe_str)))), ?_⟩
  refine ⟨_, rfl, _, _, _, _, _, rfl, h.ob, T.c_Desk, T.n_Desk_book, rfl, _, _, _, rfl, h.bk.ob, rfl, D.B, hs, rs, g, rfl, h.bk, s.ho, s.sz, fun r hr => (s.sm r hr).1, kE, fun rs' r er => ?_⟩
  subst er
  obtain ⟨g', s'⟩ := s.pre
  replace kQ := kQ rs' r rfl g' s'
  refine ⟨g', s'.re, fun B' H1 ep hb1 f1 => ?_⟩
  have pn : D.p ∉ footB D.B := h.ap1
  have ob1 := f1.out _ _ h.ob pn
  have g1 : GtAt K H1 D.ga g := h.gt.fr f1 h.ap3
  have ap1' : D.p ∉ footB B' := fun m => (f1.new _ m).elim pn fun z => by rw [h.ob] at z; cases z
  have ap3' : ∀ b, b ∈ footB B' → b ∈ foot D.ga → False := f1.apart h.gt.there h.ap3
  refine ⟨_, rfl, _, _, _, _, _, rfl, ob1, T.c_Desk, T.n_Desk_book, rfl, _, _, _, by rw [← ep], hb1.ob, rfl, ?_⟩
  refine ⟨_, rfl, _, _, _, _, _, rfl, ob1, T.c_Desk, T.n_Desk_book, rfl, _, _, _, by rw [← ep], hb1.ob, rfl, B', hs, rs', g', by rw [ep]; rfl, hb1, ?_⟩
  refine ⟨B', hs, rs', g', g', rs'.length, by rw [ep]; rfl, hb1, s'.ho, Nat.le_refl _, s'.sz, fun r hr => (s'.sm r hr).1, by rw [List.take_length]; exact s'.re, fun a H2 e2 fa ha => ?_⟩
  have ob2 := e2 _ _ ob1
  refine ⟨_, rfl, _, _, _, _, rfl, ob2, T.c_Desk, T.n_Desk_gate, (by show 2 < 1000; decide), ?_⟩
  have f3 : Fr [D.p] [D.p] H2 (upd H2 D.p (.ins (He.ga K "Desk") D.dx (putF "gate" (.ref a.p) (dkF D)))) := Fr.upd (by simp) ob2 rfl
  have pa : D.p ∉ foot a := fun m => by have := fa _ m; rw [ob1] at this; cases this
  refine kQ ⟨D.p, D.dx, B', a⟩ _ rfl ⟨?_, (hb1.ex e2).fr f3 fun b m1 m2 => ap1' (by rw [List.mem_singleton.mp m1] at m2; exact m2), ha.fr f3 fun b m1 m2 => pa (by rw [List.mem_singleton.mp m1] at m2; exact m2), ap1', pa, fun b m1 m2 => hb1.there b m1 (fa b m2)⟩ ⟨fun b o e n => ?_, fun b hb => ?_, fun b e => f1.old b (fresh_back e2 (f3.old b e)), f1.keep.trans ((Keep.of_ex e2).trans f3.keep)⟩
  · rw [upd_same]
    show some (HO.ins _ D.dx (putF "gate" (.ref a.p) [("book", .ref D.B.p), ("gate", .ref D.ga.p)])) = some (HO.ins _ D.dx [("book", .ref B'.p), ("gate", .ref a.p)])
    rw [ep]
    rfl
  · have n1 : b ≠ D.p := fun z => n (by rw [z]; exact List.mem_cons_self)
    have n2 : b ∉ footB D.B := fun m => n (List.mem_cons_of_mem _ (List.mem_append_left _ m))
    rw [upd_ne n1]
    exact e2 _ _ (f1.out b o e n2)
  · rcases List.mem_cons.mp hb with e | hb
    · exact .inl (by rw [e]; exact List.mem_cons_self)
    rcases List.mem_append.mp hb with m | m
    · rcases f1.new b m with z | z
      · exact .inl (List.mem_cons_of_mem _ (List.mem_append_left _ z))
      · exact .inr z
    · exact .inr (f1.old b (fa b m))
theorem step_num {g g' : GS} {r : Row} {n : Int} (h : g.step r = .ok (g', .num n)) : n = (g.chs.length : Int) + 1 := by
  cases r with
  | ask rank ls es =>
    replace h : g.doAsk ⟨rank, ls, es⟩ = .ok (g', .num n) := h
    unfold GS.doAsk at h
    split at h
    · cases h
    · split at h
      · cases h
      · cases h; rfl
  | withdraw m =>
    replace h : g.doWithdraw m = .ok (g', .num n) := h
    unfold GS.doWithdraw at h
    split at h
    · cases h
    · split at h <;> cases h
  | answer l a =>
    replace h : g.doAnswer l a = .ok (g', .num n) := h
    unfold GS.doAnswer at h
    split at h
    · cases h
    · split at h <;> cases h
  | stop => cases h
  | go => cases h
def sp_Desk_deed_of (K : PySem.W.Frag) : Sp := fun vs H Q E => ∃ D hs rs g r, vs = [.ref D.p, .str (shownM r)] ∧ DkAt K H D hs rs g ∧ Sd hs rs g ∧ goodR r ∧ smallR r ∧ rs.length + 1 ≤ 20 ∧
  (∀ e, g.step r = .error e → ∀ H', Ex H H' → E (errC K e) none H') ∧
  (∀ g' t, g.step r = .ok (g', t) → Sd hs (rs ++ [r]) g' → ∀ D' H', D'.p = D.p → DkAt K H' D' hs (rs ++ [r]) g' → Fr (footD D) (footD D') H H' → Q (.str (toldM t)) H')
abbrev N_Desk_deed_of : List Str := ["self", "text", "row", "told"]
theorem sc_Desk_deed_of : FnScope N_Desk_deed_of ["self", "text"] (defScope s_Desk_deed_of) := ⟨rfl, rfl, rfl, by decide +kernel, rfl, by decide +kernel, by decide +kernel⟩
-- slots: 0:self 1:text 2:row 3:told
theorem ok_Desk_deed_of (T : Tx K mg) : Ok P w K mg base 12 ("Desk", some "deed_of") ["self", "text"] (sp_Desk_deed_of K) := by
  refine T.ok 74 rfl (N := N_Desk_deed_of) rfl rfl sc_Desk_deed_of (fun vs H Q E h => ?_) (fun _ _ _ _ _ _ us hl => match us, hl with | [_, _], _ => rfl) (fun cdv A outer s H vs Q E hr h => ?_)
  · obtain ⟨_, _, _, _, _, rfl, _⟩ := h
    rfl
  have hu := hu_of hr
  obtain ⟨D, hs, rs, g, r, rfl, h, s, hg, hsm, hl, kE, kQ⟩ := h
  refine ⟨_, (pss_cons (ps_set (i := 2) sc_Desk_deed_of.nd rfl (by first | exact Or.inl rfl | exact Or.inr rfl) (pe_f (ok_read_row T) hr T.g_read_row passL (pa_cons (pv 1) pa_nil)))
 (pss_cons (ps_set (i := 3) sc_Desk_deed_of.nd rfl (by first | exact Or.inl rfl | exact Or.inr rfl) (pe_m (kfld K (pv 0)) (ok_Book_do T) T.c_Book T.m_Book_do hr (passes_call (takes_of rfl rfl rfl rfl) (fun _ _ _ _ h => h)) (pa_cons (pv 2) pa_nil)))
 (pss_cons (ps_expr (pe_f (ok_done T) hr T.g_done passL (pa_cons (kfld K (pv 0)) (pa_cons (pv 2) pa_nil))))
 (pss_cons (ps_if (pt_cmpR op_isN (pv 3) pe_non (nomark _)) (pss_one (ps_ret pe_str)) pss_nil)
 (pss_one (ps_ret (pe_callTy call_str_is (by rfl) T.b_str (by decide +kernel) (pa_cons (pv 3) pa_nil)))))))), ?_⟩
  obtain ⟨W, A⟩ := s.wf
  refine ⟨_, rfl, r, rfl, hg, hsm, fun v H1 e1 hv => ?_⟩
  have h1 := h.ex e1
  refine ⟨_, rfl, _, _, _, _, _, rfl, h1.ob, T.c_Desk, T.n_Desk_book, rfl, _, _, _, rfl, h1.bk.ob, rfl, _, rfl, D.B, hs, rs, g, rs.length, v, r, rfl, h1.bk, W, A, hl, hsm, by omega, hv, fun e he H2 e2 => kE e he H2 (e1.trans e2), fun g' t hst B' H2 ep hb2 f2 => ?_⟩
  have s' := s.snoc hst hl ⟨hsm, hg⟩
  replace kQ := kQ g' t hst s'
  have ob2 := f2.out _ _ h1.ob h.ap1
  have g2 : GtAt K H2 D.ga g := h1.gt.fr f2 h.ap3
  have hv2 := hv.keep f2.keep
  have ap1' : D.p ∉ footB B' := fun m => (f2.new _ m).elim h.ap1 fun z => by rw [h1.ob] at z; cases z
  have ap3' : ∀ b, b ∈ footB B' → b ∈ foot D.ga → False := f2.apart h1.gt.there h.ap3
  refine ⟨_, rfl, _, _, _, _, _, rfl, ob2, T.c_Desk, T.n_Desk_gate, rfl, _, rfl, D.ga, g, rs.length, v, r, rfl, g2, W, A, hl, hsm, hv2, fun e he => (by rw [hst] at he; cases he), fun g'' t' hst' a H3 eg ha f3 => ?_⟩
  have e0 : g'' = g' := by rw [hst] at hst'; cases hst'; rfl
  subst e0
  have ob3 := f3.out _ _ ob2 h.ap2
  have hb3 := hb2.fr f3 fun b m1 m2 => ap3' b m2 m1
  have fin : DkAt K H3 ⟨D.p, D.dx, B', a⟩ hs (rs ++ [r]) g'' := by
    refine ⟨?_, hb3, ha, ap1', fun m => (f3.new _ m).elim h.ap2 fun z => (by rw [ob2] at z; cases z), fun b m1 m2 => ?_⟩
    · show H3 D.p = some (.ins _ D.dx [("book", .ref B'.p), ("gate", .ref a.p)])
      rw [ob3, ep, eg]; rfl
    · rcases f3.new b m2 with z | z
      · exact ap3' b m1 z
      · exact hb2.there b m1 z
  have fr : Fr (footD D) (footD ⟨D.p, D.dx, B', a⟩) H H3 := by
    refine ⟨fun b o e n => ?_, fun b hb => ?_, fun b e => fresh_back e1 (f2.old b (f3.old b e)), (Keep.of_ex e1).trans (f2.keep.trans f3.keep)⟩
    · have n2 : b ∉ footB D.B := fun m => n (List.mem_cons_of_mem _ (List.mem_append_left _ m))
      have n3 : b ∉ foot D.ga := fun m => n (List.mem_cons_of_mem _ (List.mem_append_right _ m))
      exact f3.out b o (f2.out b o (e1 _ _ e) n2) n3
    · rcases List.mem_cons.mp hb with e | hb
      · exact .inl (by rw [e]; exact List.mem_cons_self)
      rcases List.mem_append.mp hb with m | m
      · rcases f2.new b m with z | z
        · exact .inl (List.mem_cons_of_mem _ (List.mem_append_left _ z))
        · exact .inr (fresh_back e1 z)
      · rcases f3.new b m with z | z
        · exact .inl (List.mem_cons_of_mem _ (List.mem_append_right _ z))
        · exact .inr (fresh_back e1 (f2.old b z))
  replace kQ := kQ ⟨D.p, D.dx, B', a⟩ H3 rfl fin fr
  refine ⟨_, rfl, rfl, _, rfl, ?_⟩
  cases t with
  | non => exact iteT kQ
  | word w => exact iteF ⟨_, rfl, .inr ⟨_, rfl, kQ⟩⟩
  | num n =>
    exact iteF ⟨_, rfl, .inl ⟨n, rfl, good_log (by rw [step_num hst]; exact small_good (by omega) (by have := W.few; have := W.hN; omega)), kQ⟩⟩
/-! ### say -/
theorem row_word {r : Row} (hg : goodR r) {z : Str} (hz : (32 : Nat) ∉ tl z) (h : shownM r = z) : toks r = [z] := by
  rw [← split_row hg, h]
  have e : z = Txt.join " " [z] := (join_one _ _).symm
  conv => lhs; rw [e]
  exact split_join (y := " ") sp32 (by decide +kernel) (by simp) fun p hp => by rw [List.mem_singleton.mp hp]; exact hz
theorem row_ne {r : Row} (hg : goodR r) {z : Str} (hz : (32 : Nat) ∉ tl z) (h1 : z ≠ "stop") (h2 : z ≠ "go") : shownM r ≠ z := fun h => by
  have e := row_word hg hz h
  cases r with
  | ask r ls es => cases (List.cons.inj e).2
  | withdraw n => cases (List.cons.inj e).2
  | answer l a => exact hg.1 (by simpa using (List.cons.inj e).2)
  | stop => exact h1 (List.cons.inj e).1.symm
  | go => exact h2 (List.cons.inj e).1.symm
theorem row_asked {r : Row} (hg : goodR r) (rs : List Row) (g : GS) : askedM rs g (shownM r) = none := by
  unfold askedM
  rw [if_neg (row_ne hg (by decide +kernel) (by decide +kernel) (by decide +kernel)), if_neg (row_ne hg (by decide +kernel) (by decide +kernel) (by decide +kernel)), if_neg (row_ne hg (by decide +kernel) (by decide +kernel) (by decide +kernel)),
    if_neg (row_ne hg (by decide +kernel) (by decide +kernel) (by decide +kernel)), if_neg (row_ne hg (by decide +kernel) (by decide +kernel) (by decide +kernel)), if_neg (row_ne hg (by decide +kernel) (by decide +kernel) (by decide +kernel))]
theorem row_head {r : Row} : ∃ z t, toks r = z :: t ∧ z ≠ "why" := by
  cases r with
  | ask r ls es => exact ⟨_, _, rfl, by decide +kernel⟩
  | withdraw n => exact ⟨_, _, rfl, by decide +kernel⟩
  | answer l a => exact ⟨_, _, rfl, by cases a <;> decide +kernel⟩
  | stop => exact ⟨_, _, rfl, by decide +kernel⟩
  | go => exact ⟨_, _, rfl, by decide +kernel⟩
def whyT (n : Int) : Str := Txt.join " " [("why" : Str), numS n]
theorem why_split {n : Int} (h : good n) : Txt.split (whyT n) " " = [("why" : Str), numS n] :=
  split_join (y := " ") sp32 (by decide +kernel) (by simp) fun p hp => by
    have : p = "why" ∨ p = numS n := by simpa using hp
    rcases this with e | e
    · rw [e]; decide +kernel
    · rw [e]; exact nosp_num h.1
theorem why_ne {n : Int} (h : good n) {z : Str} (hz : (32 : Nat) ∉ tl z) : whyT n ≠ z := fun e => by
  have e1 := why_split h
  rw [e] at e1
  have e2 : z = Txt.join " " [z] := (join_one _ _).symm
  have e3 : Txt.split z " " = [z] := by
    conv => lhs; rw [e2]
    exact split_join (y := " ") sp32 (by decide +kernel) (by simp) fun p hp => by rw [List.mem_singleton.mp hp]; exact hz
  rw [e3] at e1
  cases (List.cons.inj e1).2
theorem why_len {n : Int} (h : good n) : (whyT n).length ≤ 16 := by
  unfold whyT
  rw [join_two, len_app, len_app, one_len, show ("why" : Str).length = 3 by decide +kernel]
  have := (numS_len h).1
  omega
def queries : List Str := ["line", "laid", "waiting", "wanted", "sheet", "book"]
def sp_Desk_say (K : PySem.W.Frag) : Sp := fun vs H Q E => ∃ D hs rs g text, vs = [.ref D.p, .str text] ∧ DkAt K H D hs rs g ∧ Sd hs rs g ∧
  ((text = "back" ∧ (rs = [] → ∀ H', Ex H H' → E (.ref (He.ga K "NoRow")) none H') ∧ (∀ rs' r, rs = rs' ++ [r] → ∀ g', Sd hs rs' g' → ∀ D' H', D'.p = D.p → DkAt K H' D' hs rs' g' → Fr (footD D) (footD D') H H' → Q (.str "ok") H')) ∨
   (∃ n, text = whyT n ∧ good n ∧ (g.why n = none → ∀ H', Ex H H' → E (.ref (He.ga K "NoChange")) none H') ∧ (∀ r, g.why n = some r → ∀ H', Ex H H' → Q (.str (reasonM r)) H')) ∨
   (text ∈ queries ∧ ∃ z, askedM rs g text = some z ∧ ∀ H', Ex H H' → Q (.str z) H') ∨
   (∃ r, text = shownM r ∧ goodR r ∧ smallR r ∧ rs.length + 1 ≤ 20 ∧ (∀ e, g.step r = .error e → ∀ H', Ex H H' → E (errC K e) none H') ∧
     (∀ g' t, g.step r = .ok (g', t) → Sd hs (rs ++ [r]) g' → ∀ D' H', D'.p = D.p → DkAt K H' D' hs (rs ++ [r]) g' → Fr (footD D) (footD D') H H' → Q (.str (toldM t)) H')))
abbrev N_Desk_say : List Str := ["self", "text", "words", "told"]
theorem sc_Desk_say : FnScope N_Desk_say ["self", "text"] (defScope s_Desk_say) := ⟨rfl, rfl, rfl, by decide +kernel, rfl, by decide +kernel, by decide +kernel⟩
-- slots: 0:self 1:text 2:words 3:told
theorem ok_Desk_say (T : Tx K mg) : Ok P w K mg base 14 ("Desk", some "say") ["self", "text"] (sp_Desk_say K) := by
  refine T.ok 75 rfl (N := N_Desk_say) rfl rfl sc_Desk_say (fun vs H Q E h => ?_) (fun _ _ _ _ _ _ us hl => match us, hl with | [_, _], _ => rfl) (fun cdv A outer s H vs Q E hr h => ?_)
  · obtain ⟨_, _, _, _, _, rfl, _⟩ := h
    rfl
  have hu := hu_of hr
  obtain ⟨D, hs, rs, g, text, rfl, h, s, k⟩ := h
  refine ⟨_, (pss_cons (ps_if (pt_cmpR op_eq (pv 1) pe_str (nomark _)) (pss_one (ps_ret (pe_m0 (pv 0) (ok_Desk_taken_back T) T.c_Desk T.m_Desk_taken_back hr (passes_call (takes_of rfl rfl rfl rfl) (fun _ _ _ _ h => h))))) pss_nil)
 (pss_cons (ps_set (i := 2) sc_Desk_say.nd rfl (by first | exact Or.inl rfl | exact Or.inr rfl) (pe_split (pv 1) pe_str))
 (pss_cons (ps_if (pt_cmpR op_eq (pe_ix (kixl K) (pv 2) pe_int (fun _ _ => rfl)) pe_str (nomark _)) (pss_cons (ps_if (pt_cmpR op_ne (pe_callB (klen K) (by rfl) T.b_len (by decide +kernel) (pa_cons (pv 2) pa_nil)) pe_int (nomark _)) (pss_one (ps_rz T.x_NoText T.g_NoText (takes_of rfl rfl rfl rfl))) pss_nil)
 (pss_one (ps_ret (pe_f (ok_shown_reason T) hr T.g_shown_reason passL (pa_cons (pe_f (ok_why T) hr T.g_why (passes_call (takes_of rfl rfl rfl rfl) (fun _ _ _ _ h => h)) (pa_cons (kfld K (pv 0)) (pa_cons (pe_ix (kixl K) (pe_f (ok_numbers_of T) hr T.g_numbers_of passL (pa_cons (pe_slice (ksll K) (pv 2) (po_some pe_int) po_none) pa_nil)) pe_int (fun _ _ => rfl)) pa_nil))) pa_nil))))) pss_nil)
 (pss_cons (ps_set (i := 3) sc_Desk_say.nd rfl (by first | exact Or.inl rfl | exact Or.inr rfl) (pe_m (pv 0) (ok_Desk_asked_of T) T.c_Desk T.m_Desk_asked_of hr passL (pa_cons (pv 1) pa_nil)))
 (pss_cons (ps_if (pt_cmpR op_isN (pv 3) pe_non (nomark _)) (pss_one (ps_ret (pe_m (pv 0) (ok_Desk_deed_of T) T.c_Desk T.m_Desk_deed_of hr (passes_call (takes_of rfl rfl rfl rfl) (fun _ _ _ _ h => h)) (pa_cons (pv 1) pa_nil)))) pss_nil)
 (pss_one (ps_ret (pv 3)))))))), ?_⟩
  obtain ⟨W, A⟩ := s.wf
  have G := s.gi
  rcases k with ⟨rfl, kE, kQ⟩ | ⟨n, rfl, hn, kE, kQ⟩ | ⟨hq, z, hz, kQ⟩ | ⟨r, rfl, hg, hsm, hl, kE, kQ⟩
  · refine ⟨_, rfl, rfl, _, rfl, ?_⟩
    rw [dss]
    exact iteT ⟨_, rfl, _, _, _, rfl, h.ob, rfl, D, hs, rs, g, rfl, h, s, kE, kQ⟩
  · refine ⟨_, rfl, rfl, _, rfl, ?_⟩
    rw [dsn (why_ne hn (by decide +kernel))]
    have wl := why_len hn
    refine iteF ⟨_, rfl, ⟨_, rfl⟩, _, " ", rfl, rfl, by decide +kernel, by rw [sizeLine_eq]; omega, fun wp nwp => ?_⟩
    rw [why_split hn]
    have ew := Ex.new (o := .lst ([("why" : Str), numS n].map V.str)) nwp
    have hw : upd H wp (.lst ([("why" : Str), numS n].map V.str)) wp = some (.lst ([("why" : Str), numS n].map V.str)) := upd_same
    clear nwp
    generalize upd H wp (.lst ([("why" : Str), numS n].map V.str)) = H1 at ew hw ⊢
    have h1 := h.ex ew
    refine ⟨_, rfl, wp, _, 0, .str "why", rfl, rfl, sq_of hw, atI_zero _ _, rfl, _, rfl, ?_⟩
    rw [dss]
    refine iteT ⟨_, rfl, wp, _, rfl, .inl (sq_of hw), rfl, _, rfl, ?_⟩
    have e2 : (!decide (V.int ((([("why" : Str), numS n].map V.str).length : Nat) : Int) = V.int 2)) = false := rfl
    rw [e2]
    refine iteF ⟨_, rfl, _, _, _, _, _, rfl, h1.ob, T.c_Desk, T.n_Desk_gate, rfl, ?_⟩
    refine ⟨_, rfl, 1, rfl, wp, _, rfl, sq_of hw, fun t nt => ?_⟩
    rw [show (1 : Int) = ((1 : Nat) : Int) from rfl, cutS_drop]
    have et := Ex.new (o := .lst (([n].map numS).map V.str)) nt
    refine ⟨t, [n], rfl, sq_of upd_same, by simp, fun m hm => by rw [List.mem_singleton.mp hm]; exact hn, by show 1 < 100000; decide, fun q H3 nq e3 hq => ?_⟩
    have e13 := et.trans e3
    have e03 := ew.trans e13
    refine ⟨q, _, 0, .int n, rfl, rfl, sq_of hq, atI_zero _ _, ?_⟩
    refine ⟨D.ga, g, _, n, rfl, (h.ex e03).gt, W, fun z H4 e4 => kE z H4 (e03.trans e4), fun r hr v H4 e4 hv => ?_⟩
    exact ⟨v, r, rfl, hv, G.whyGood W n r hr, fun H5 e5 => kQ r hr H5 (e03.trans (e4.trans e5))⟩
  · have hq' : text = "line" ∨ text = "laid" ∨ text = "waiting" ∨ text = "wanted" ∨ text = "sheet" ∨ text = "book" := by simpa [queries] using hq
    have p1 : text ≠ "back" ∧ text ≠ "why" ∧ (32 : Nat) ∉ tl text ∧ text.length ≤ 10 := by
      rcases hq' with e | e | e | e | e | e <;> rw [e] <;> decide +kernel
    obtain ⟨p1, p2, p3, p4⟩ := p1
    have es : Txt.split text " " = [text] := by
      have e : text = Txt.join " " [text] := (join_one _ _).symm
      conv => lhs; rw [e]
      exact split_join (y := " ") sp32 (by decide +kernel) (by simp) fun p hp => by rw [List.mem_singleton.mp hp]; exact p3
    refine ⟨_, rfl, rfl, _, rfl, ?_⟩
    rw [dsn p1]
    refine iteF ⟨_, rfl, ⟨_, rfl⟩, _, " ", rfl, rfl, by decide +kernel, by rw [sizeLine_eq]; omega, fun wp nwp => ?_⟩
    rw [es]
    have ew := Ex.new (o := .lst ([text].map V.str)) nwp
    refine ⟨_, rfl, wp, _, 0, .str text, rfl, rfl, sq_of upd_same, atI_zero _ _, rfl, _, rfl, ?_⟩
    rw [dsn p2]
    have h1 := h.ex ew
    refine iteF ⟨_, rfl, _, _, _, rfl, h1.ob, rfl, _, rfl, D, hs, rs, g, text, rfl, h1, s, fun H2 e2 => ?_⟩
    rw [hz]
    exact ⟨_, rfl, rfl, _, rfl, iteF ⟨_, rfl, kQ _ (ew.trans e2)⟩⟩
  · refine ⟨_, rfl, rfl, _, rfl, ?_⟩
    rw [dsn (row_ne hg (by decide +kernel) (by decide +kernel) (by decide +kernel))]
    have wl := len_row hg hsm
    refine iteF ⟨_, rfl, ⟨_, rfl⟩, _, " ", rfl, rfl, by decide +kernel, by rw [sizeLine_eq]; omega, fun wp nwp => ?_⟩
    rw [split_row hg]
    have ew := Ex.new (o := .lst ((toks r).map V.str)) nwp
    obtain ⟨z, t, et, hz⟩ := row_head (r := r)
    refine ⟨_, rfl, wp, _, 0, .str z, rfl, rfl, sq_of upd_same, by rw [et]; exact atI_zero _ _, rfl, _, rfl, ?_⟩
    rw [dsn hz]
    have h1 := h.ex ew
    refine iteF ⟨_, rfl, _, _, _, rfl, h1.ob, rfl, _, rfl, D, hs, rs, g, shownM r, rfl, h1, s, fun H2 e2 => ?_⟩
    rw [row_asked hg]
    have e02 := ew.trans e2
    have h2 := h.ex e02
    refine ⟨_, rfl, rfl, _, rfl, iteT ⟨_, rfl, _, _, _, rfl, h2.ob, rfl, _, rfl, D, hs, rs, g, r, rfl, h2, s, hg, hsm, hl, fun e he H3 e3 => kE e he H3 (e02.trans e3), fun g' t' hst s' D' H3 ep hd f => ?_⟩⟩
    exact kQ g' t' hst s' D' H3 ep hd ((Fr.of_ex e02).trans f)
end LG

set_option Elab.async false
set_option linter.all false
set_option maxRecDepth 100000
set_option maxHeartbeats 4000000
namespace LG
open PySem PySem.Spec L2 Evl
open PyProof.Rows hiding St
variable {P : Program} {w : World} {K : PySem.W.Frag} {mg : Str → Option Value} {base : Heap}

open TL
/-! ### the law's own helpers -/
def scrM (xs : List Int) (k : Int) : Int := if k < xs.length then xs.getD k.toNat 0 else 0
def mixM (n p m : Int) : Int := n % 1000003 * 48271 % p % m
theorem mix_bd {n p m : Int} (h : 0 < m) : 0 ≤ mixM n p m ∧ mixM n p m < m := ⟨Int.emod_nonneg _ (by omega), Int.emod_lt_of_pos _ h⟩
theorem at_getD {xs : List Int} {k : Int} (h0 : 0 ≤ k) (h : k < xs.length) : atI (xs.map V.int) k = some (.int (xs.getD k.toNat 0)) := by
  have e : k = ((k.toNat : Nat) : Int) := by omega
  have hl : k.toNat < xs.length := by omega
  unfold atI
  conv => lhs; rw [e]
  rw [ixN_nat (by rw [List.length_map]; exact hl)]
  show (xs.map V.int)[k.toNat]? = _
  rw [List.getElem?_map, List.getElem?_eq_getElem hl, List.getD_eq_getElem?_getD, List.getElem?_eq_getElem hl]
  rfl
def sp_l_cell_at (K : PySem.W.Frag) : Sp := fun vs H Q _ => ∃ a xs k, vs = [.ref a, .int k] ∧ SqL K H a (xs.map V.int) ∧ 0 ≤ k ∧ Q (.int (scrM xs k)) H
abbrev N_l_cell_at : List Str := ["_law_script", "_law_k"]
theorem sc_l_cell_at : FnScope N_l_cell_at ["_law_script", "_law_k"] (defScope s_l_cell_at) := ⟨rfl, rfl, rfl, by decide +kernel, rfl, by decide +kernel, by decide +kernel⟩
-- slots: 0:_law_script 1:_law_k
theorem ok_l_cell_at (T : Tx K mg) : Ok P w K mg base 1 ("_law_cell_at", none) ["_law_script", "_law_k"] (sp_l_cell_at K) := by
  refine T.ok 76 rfl (N := N_l_cell_at) rfl rfl sc_l_cell_at (fun vs H Q E h => ?_) (fun _ _ _ _ _ _ us hl => match us, hl with | [_, _], _ => rfl) (fun cdv A outer s H vs Q E hr h => ?_)
  · obtain ⟨_, _, _, rfl, _⟩ := h
    rfl
  have hu := hu_of hr
  obtain ⟨a, xs, k, rfl, ha, h0, q⟩ := h
  unfold scrM at q
  refine ⟨_, (pss_cons (ps_if (pt_cmpR op_lt (pv 1) (pe_callB (klen K) (by rfl) T.b_len (by decide +kernel) (pa_cons (pv 0) pa_nil)) (nomark _)) (pss_one (ps_ret (pe_ix (kixl K) (pv 0) (pv 1) (fun _ _ => rfl)))) pss_nil)
 (pss_one (ps_ret pe_int))), ?_⟩
  refine ⟨_, rfl, _, rfl, a, _, rfl, .inl ha, _, _, rfl, rfl, _, rfl, ?_⟩
  rw [List.length_map]
  refine ite2 (fun c => ?_) (fun c => ?_)
  · rw [if_pos (dt c)] at q
    exact ⟨_, rfl, _, rfl, a, _, k, _, rfl, rfl, ha, at_getD h0 (dt c), q⟩
  · rw [if_neg (df c)] at q
    exact q
def sp_l_mixed (K : PySem.W.Frag) : Sp := fun vs H Q _ => ∃ n p m, vs = [.int n, .int p, .int m] ∧ 0 < p ∧ 0 < m ∧ Q (.int (mixM n p m)) H
abbrev N_l_mixed : List Str := ["_law_number", "_law_prime", "_law_many"]
theorem sc_l_mixed : FnScope N_l_mixed ["_law_number", "_law_prime", "_law_many"] (defScope s_l_mixed) := ⟨rfl, rfl, rfl, by decide +kernel, rfl, by decide +kernel, by decide +kernel⟩
-- slots: 0:_law_number 1:_law_prime 2:_law_many
theorem ok_l_mixed (T : Tx K mg) : Ok P w K mg base 1 ("_law_mixed", none) ["_law_number", "_law_prime", "_law_many"] (sp_l_mixed K) := by
  refine T.ok 77 rfl (N := N_l_mixed) rfl rfl sc_l_mixed (fun vs H Q E h => ?_) (fun _ _ _ _ _ _ us hl => match us, hl with | [_, _, _], _ => rfl) (fun cdv A outer s H vs Q E hr h => ?_)
  · obtain ⟨_, _, _, rfl, _⟩ := h
    rfl
  have hu := hu_of hr
  obtain ⟨n, p, m, rfl, hp, hm, q⟩ := h
  refine ⟨_, (pss_one (ps_ret (pe_op op_mod (pe_op op_mod (pe_op op_mul (pe_op op_mod (pv 0) pe_int) pe_int) (pv 1)) (pv 2)))), ?_⟩
  refine ⟨_, rfl, _, _, rfl, rfl, by show (0 : Int) < 1000003; decide, ?_⟩
  refine ⟨_, _, rfl, rfl, .inr (by decide), ?_⟩
  refine ⟨_, rfl, _, _, rfl, rfl, hp, ?_⟩
  exact ⟨_, rfl, _, _, rfl, rfl, hm, q⟩
end LG

set_option Elab.async false
set_option linter.all false
set_option maxRecDepth 100000
set_option maxHeartbeats 4000000
namespace LG
open PySem PySem.Spec L2 Evl
open PyProof.Rows hiding St
variable {P : Program} {w : World} {K : PySem.W.Frag} {mg : Str → Option Value} {base : Heap}

open TL
def sp_l_turns_of (K : PySem.W.Frag) : Sp := fun vs H Q _ => ∃ a, ∃ xs : List Int, vs = [.ref a] ∧ SqL K H a (xs.map V.int) ∧ ∀ t : Int, 0 ≤ t → t ≤ 20 → Q (.int t) H
abbrev N_l_turns_of : List Str := ["_law_script", "_law_many"]
theorem sc_l_turns_of : FnScope N_l_turns_of ["_law_script"] (defScope s_l_turns_of) := ⟨rfl, rfl, rfl, by decide +kernel, rfl, by decide +kernel, by decide +kernel⟩
-- slots: 0:_law_script 1:_law_many
theorem ok_l_turns_of (T : Tx K mg) : Ok P w K mg base 2 ("_law_turns_of", none) ["_law_script"] (sp_l_turns_of K) := by
  refine T.ok 78 rfl (N := N_l_turns_of) rfl rfl sc_l_turns_of (fun vs H Q E h => ?_) (fun _ _ _ _ _ _ us hl => match us, hl with | [_], _ => rfl) (fun cdv A outer s H vs Q E hr h => ?_)
  · obtain ⟨_, _, rfl, _⟩ := h
    rfl
  have hu := hu_of hr
  obtain ⟨a, xs, rfl, ha, q⟩ := h
  refine ⟨_, (pss_cons (ps_set (i := 1) sc_l_turns_of.nd rfl (by first | exact Or.inl rfl | exact Or.inr rfl) (pe_callB (call_max2 rfl) (by rfl) T.b_max (by decide +kernel) (pa_cons (pe_op op_fdiv (pe_op op_sub (pe_callB (klen K) (by rfl) T.b_len (by decide +kernel) (pa_cons (pv 0) pa_nil)) pe_int) pe_int) (pa_cons (pe_f (ok_l_mixed T) hr T.g_l_mixed passL (pa_cons (pe_f (ok_l_cell_at T) hr T.g_l_cell_at passL (pa_cons (pv 0) (pa_cons pe_int pa_nil))) (pa_cons pe_int (pa_cons pe_int pa_nil)))) pa_nil))))
 (pss_one (ps_ret (pe_callB (call_min2 rfl) (by rfl) T.b_min (by decide +kernel) (pa_cons pe_int (pa_cons (pv 1) pa_nil)))))), ?_⟩
  refine ⟨_, rfl, a, _, rfl, .inl ha, _, _, rfl, rfl, _, _, rfl, rfl, ⟨by decide, by decide⟩, ?_⟩
  refine ⟨_, rfl, a, xs, 2, rfl, ha, by decide, _, 10007, 21, rfl, by decide, by decide, _, _, rfl, ?_⟩
  refine ⟨_, rfl, _, _, rfl, ?_⟩
  have mb := mix_bd (n := scrM xs 2) (p := 10007) (m := 21) (by decide)
  refine q _ ?_ ?_
  · split
    · split <;> omega
    · omega
  · split <;> omega
def sp_l_three (K : PySem.W.Frag) : Sp := fun vs H Q _ => ∃ a, ∃ xs : List Int, ∃ k, vs = [.ref a, .int k] ∧ SqL K H a (xs.map V.int) ∧ 0 ≤ k ∧ k ≤ 1000 ∧ ∀ p x y z H', Ex H H' → H' p = some (.tup [.int x, .int y, .int z]) → Q (.ref p) H'
abbrev N_l_three : List Str := ["_law_script", "_law_k", "_law_seed"]
theorem sc_l_three : FnScope N_l_three ["_law_script", "_law_k"] (defScope s_l_three) := ⟨rfl, rfl, rfl, by decide +kernel, rfl, by decide +kernel, by decide +kernel⟩
-- slots: 0:_law_script 1:_law_k 2:_law_seed
theorem ok_l_three (T : Tx K mg) : Ok P w K mg base 2 ("_law_three", none) ["_law_script", "_law_k"] (sp_l_three K) := by
  refine T.ok 79 rfl (N := N_l_three) rfl rfl sc_l_three (fun vs H Q E h => ?_) (fun _ _ _ _ _ _ us hl => match us, hl with | [_, _], _ => rfl) (fun cdv A outer s H vs Q E hr h => ?_)
  · obtain ⟨_, _, _, rfl, _⟩ := h
    rfl
  have hu := hu_of hr
  obtain ⟨a, xs, k, rfl, ha, h0, h1, q⟩ := h
  refine ⟨_, (pss_cons (ps_if (pt_cmpR op_lt (pe_op op_add (pe_op op_mul pe_int (pv 1)) pe_int) (pe_callB (klen K) (by rfl) T.b_len (by decide +kernel) (pa_cons (pv 0) pa_nil)) (nomark _)) (pss_one (ps_ret (pe_tup (pa_cons (pe_ix (kixl K) (pv 0) (pe_op op_add (pe_op op_mul pe_int (pv 1)) pe_int) (fun _ _ => rfl)) (pa_cons (pe_ix (kixl K) (pv 0) (pe_op op_add (pe_op op_mul pe_int (pv 1)) pe_int) (fun _ _ => rfl)) (pa_cons (pe_ix (kixl K) (pv 0) (pe_op op_add (pe_op op_mul pe_int (pv 1)) pe_int) (fun _ _ => rfl)) pa_nil)))))) pss_nil)
 (pss_cons (ps_set (i := 2) sc_l_three.nd rfl (by first | exact Or.inl rfl | exact Or.inr rfl) (pe_op op_add (pe_f (ok_l_cell_at T) hr T.g_l_cell_at passL (pa_cons (pv 0) (pa_cons (pe_op op_mod (pv 1) pe_int) pa_nil))) (pe_op op_mul (pe_op op_mul pe_int (pv 1)) (pv 1))))
 (pss_one (ps_ret (pe_tup (pa_cons (pv 2) (pa_cons (pe_op op_add (pv 2) (pe_op op_mul pe_int (pv 1))) (pa_cons (pe_op op_add (pv 2) (pe_op op_mul (pe_op op_mul pe_int (pv 1)) (pv 1))) pa_nil)))))))), ?_⟩
  have cm : CMul 3 k := .inr ⟨by omega, by omega⟩
  refine ⟨_, rfl, _, _, rfl, rfl, cm, _, _, rfl, rfl, _, rfl, a, _, rfl, .inl ha, _, _, rfl, rfl, _, rfl, ?_⟩
  rw [List.length_map]
  refine ite2 (fun c => ?_) (fun c => ?_)
  · have c1 := dt c
    refine ⟨_, rfl, _, rfl, _, _, rfl, rfl, cm, _, _, rfl, rfl, a, _, _, _, rfl, rfl, ha, at_getD (by omega) (by omega), ?_⟩
    refine ⟨_, rfl, _, rfl, _, _, rfl, rfl, cm, _, _, rfl, rfl, a, _, _, _, rfl, rfl, ha, at_getD (by omega) (by omega), ?_⟩
    refine ⟨_, rfl, _, rfl, _, _, rfl, rfl, cm, _, _, rfl, rfl, a, _, _, _, rfl, rfl, ha, at_getD (by omega) (by omega), ?_⟩
    exact ⟨by show 3 ≤ sizeLine; decide, fun t nt => q _ _ _ _ _ (Ex.new nt) upd_same⟩
  · refine ⟨_, rfl, _, rfl, _, _, rfl, rfl, by show (0 : Int) < 5; decide, a, xs, _, rfl, ha, by omega, ?_⟩
    have c1 : CMul 7919 k := .inr ⟨by omega, by omega⟩
    have c2 : ∀ i : Int, CMul i k := fun i => .inr ⟨by omega, by omega⟩
    refine ⟨_, rfl, _, _, rfl, rfl, c1, _, rfl, _, _, rfl, rfl, c2 _, _, _, rfl, rfl, ?_⟩
    refine ⟨_, rfl, _, rfl, _, rfl, _, _, rfl, rfl, c2 _, _, _, rfl, rfl, ?_⟩
    refine ⟨_, rfl, _, rfl, _, _, rfl, rfl, c2 _, _, rfl, _, _, rfl, rfl, c2 _, _, _, rfl, rfl, ?_⟩
    exact ⟨by show 3 ≤ sizeLine; decide, fun t nt => q _ _ _ _ _ (Ex.new nt) upd_same⟩
def hsM (xs : List Int) : Hs :=
  ⟨1 + mixM (scrM xs 0) 99991 ([4, 4, 4, 16].getD (mixM (scrM xs 0) 65537 4).toNat 4), 1 + mixM (scrM xs 0) 90001 ([1, 2, 8].getD (mixM (scrM xs 1) 65537 3).toNat 1), 1 + mixM (scrM xs 1) 70001 ([1, 1, 3].getD (mixM (scrM xs 1) 60013 3).toNat 1), 1 + mixM (scrM xs 1) 70001 ([1, 1, 3].getD (mixM (scrM xs 1) 60013 3).toNat 1) + mixM (scrM xs 1) 80021 6⟩
theorem get_of {l : List Int} {d i : Int} {P : Int → Prop} (hl : ∀ x ∈ l, P x) (h0 : 0 ≤ i) (h : i < l.length) : P (l.getD i.toNat d) := by
  have hi : i.toNat < l.length := by omega
  rw [List.getD_eq_getElem?_getD, List.getElem?_eq_getElem hi]
  exact hl _ (List.getElem_mem hi)
theorem hsM_ok (xs : List Int) : (hsM xs).Ok := by
  have a1 := mix_bd (n := scrM xs 0) (p := 65537) (m := 4) (by decide)
  have a2 := mix_bd (n := scrM xs 1) (p := 65537) (m := 3) (by decide)
  have a3 := mix_bd (n := scrM xs 1) (p := 60013) (m := 3) (by decide)
  have b1 : 0 < [4, 4, 4, 16].getD (mixM (scrM xs 0) 65537 4).toNat (4 : Int) ∧ [4, 4, 4, 16].getD (mixM (scrM xs 0) 65537 4).toNat (4 : Int) ≤ 16 := get_of (P := fun x => 0 < x ∧ x ≤ 16) (by decide) a1.1 a1.2
  have b2 : 0 < [1, 2, 8].getD (mixM (scrM xs 1) 65537 3).toNat (1 : Int) ∧ [1, 2, 8].getD (mixM (scrM xs 1) 65537 3).toNat (1 : Int) ≤ 8 := get_of (P := fun x => 0 < x ∧ x ≤ 8) (by decide) a2.1 a2.2
  have b3 : 0 < [1, 1, 3].getD (mixM (scrM xs 1) 60013 3).toNat (1 : Int) ∧ [1, 1, 3].getD (mixM (scrM xs 1) 60013 3).toNat (1 : Int) ≤ 3 := get_of (P := fun x => 0 < x ∧ x ≤ 3) (by decide) a3.1 a3.2
  have c1 := mix_bd (n := scrM xs 0) (p := 99991) b1.1
  have c2 := mix_bd (n := scrM xs 0) (p := 90001) b2.1
  have c3 := mix_bd (n := scrM xs 1) (p := 70001) b3.1
  have c4 := mix_bd (n := scrM xs 1) (p := 80021) (m := 6) (by decide)
  refine ⟨?_, ?_, ?_, ?_, ?_, ?_, ?_⟩
  · show 1 ≤ 1 + mixM _ _ _; omega
  · show 1 + mixM _ _ _ ≤ 16; omega
  · show 1 ≤ 1 + mixM _ _ _; omega
  · show 1 + mixM _ _ _ ≤ 8; omega
  · show 1 ≤ 1 + mixM _ _ _; omega
  · show 1 + mixM _ _ _ ≤ 1 + mixM _ _ _ + mixM _ _ _; omega
  · show 1 + mixM _ _ _ + mixM _ _ _ ≤ 20; omega
def sp_l_new (K : PySem.W.Frag) : Sp := fun vs H Q _ => ∃ a, ∃ xs : List Int, vs = [.ref a] ∧ SqL K H a (xs.map V.int) ∧ ∀ D H', Ex H H' → (∀ b ∈ footD D, H b = none) → DkAt K H' D (hsM xs) [] (hsM xs).new → Q (.ref D.p) H'
abbrev N_l_new : List Str := ["_law_script", "_law_one", "_law_other", "_law_width", "_law_hands", "_law_need"]
theorem sc_l_new : FnScope N_l_new ["_law_script"] (defScope s_l_new) := ⟨rfl, rfl, rfl, by decide +kernel, rfl, by decide +kernel, by decide +kernel⟩
-- slots: 0:_law_script 1:_law_one 2:_law_other 3:_law_width 4:_law_hands 5:_law_need
theorem ok_l_new (T : Tx K mg) : Ok P w K mg base 9 ("_law_new", none) ["_law_script"] (sp_l_new K) := by
  refine T.ok 80 rfl (N := N_l_new) rfl rfl sc_l_new (fun vs H Q E h => ?_) (fun _ _ _ _ _ _ us hl => match us, hl with | [_], _ => rfl) (fun cdv A outer s H vs Q E hr h => ?_)
  · obtain ⟨_, _, rfl, _⟩ := h
    rfl
  have hu := hu_of hr
  obtain ⟨a, xs, rfl, ha, q⟩ := h
  refine ⟨_, (pss_cons (ps_set (i := 1) sc_l_new.nd rfl (by first | exact Or.inl rfl | exact Or.inr rfl) (pe_f (ok_l_cell_at T) hr T.g_l_cell_at passL (pa_cons (pv 0) (pa_cons pe_int pa_nil))))
 (pss_cons (ps_set (i := 2) sc_l_new.nd rfl (by first | exact Or.inl rfl | exact Or.inr rfl) (pe_f (ok_l_cell_at T) hr T.g_l_cell_at passL (pa_cons (pv 0) (pa_cons pe_int pa_nil))))
 (pss_cons (ps_set (i := 3) sc_l_new.nd rfl (by first | exact Or.inl rfl | exact Or.inr rfl) (pe_op op_add pe_int (pe_f (ok_l_mixed T) hr T.g_l_mixed passL (pa_cons (pv 1) (pa_cons pe_int (pa_cons (pe_ix (kixl K) (pe_lst (pa_cons pe_int (pa_cons pe_int (pa_cons pe_int (pa_cons pe_int pa_nil))))) (pe_f (ok_l_mixed T) hr T.g_l_mixed passL (pa_cons (pv 1) (pa_cons pe_int (pa_cons pe_int pa_nil)))) (fun _ _ => rfl)) pa_nil))))))
 (pss_cons (ps_set (i := 4) sc_l_new.nd rfl (by first | exact Or.inl rfl | exact Or.inr rfl) (pe_op op_add pe_int (pe_f (ok_l_mixed T) hr T.g_l_mixed passL (pa_cons (pv 1) (pa_cons pe_int (pa_cons (pe_ix (kixl K) (pe_lst (pa_cons pe_int (pa_cons pe_int (pa_cons pe_int pa_nil)))) (pe_f (ok_l_mixed T) hr T.g_l_mixed passL (pa_cons (pv 2) (pa_cons pe_int (pa_cons pe_int pa_nil)))) (fun _ _ => rfl)) pa_nil))))))
 (pss_cons (ps_set (i := 5) sc_l_new.nd rfl (by first | exact Or.inl rfl | exact Or.inr rfl) (pe_op op_add pe_int (pe_f (ok_l_mixed T) hr T.g_l_mixed passL (pa_cons (pv 2) (pa_cons pe_int (pa_cons (pe_ix (kixl K) (pe_lst (pa_cons pe_int (pa_cons pe_int (pa_cons pe_int pa_nil)))) (pe_f (ok_l_mixed T) hr T.g_l_mixed passL (pa_cons (pv 2) (pa_cons pe_int (pa_cons pe_int pa_nil)))) (fun _ _ => rfl)) pa_nil))))))
 (pss_one (ps_ret (pe_n (ok_Desk_init T) T.k_Desk hr T.g_Desk passL (pa_cons (pv 3) (pa_cons (pv 4) (pa_cons (pv 5) (pa_cons (pe_op op_add (pv 5) (pe_f (ok_l_mixed T) hr T.g_l_mixed passL (pa_cons (pv 2) (pa_cons pe_int (pa_cons pe_int pa_nil))))) pa_nil)))))))))))), ?_⟩
  have a1 := mix_bd (n := scrM xs 0) (p := 65537) (m := 4) (by decide)
  have a2 := mix_bd (n := scrM xs 1) (p := 65537) (m := 3) (by decide)
  have a3 := mix_bd (n := scrM xs 1) (p := 60013) (m := 3) (by decide)
  have b1 : 0 < [4, 4, 4, 16].getD (mixM (scrM xs 0) 65537 4).toNat (4 : Int) := get_of (P := fun x => 0 < x) (by decide) a1.1 a1.2
  have b2 : 0 < [1, 2, 8].getD (mixM (scrM xs 1) 65537 3).toNat (1 : Int) := get_of (P := fun x => 0 < x) (by decide) a2.1 a2.2
  have b3 : 0 < [1, 1, 3].getD (mixM (scrM xs 1) 60013 3).toNat (1 : Int) := get_of (P := fun x => 0 < x) (by decide) a3.1 a3.2
  have gd : ∀ {l : List Int} {d i : Int}, 0 ≤ i → i < l.length → atI (l.map V.int) i = some (.int (l.getD i.toNat d)) := fun {l d i} h0 h => by
    rw [at_getD h0 h]
    have hi : i.toNat < l.length := by omega
    rw [List.getD_eq_getElem?_getD, List.getD_eq_getElem?_getD, List.getElem?_eq_getElem hi]
    rfl
  refine ⟨_, rfl, a, xs, 0, rfl, ha, by decide, ?_⟩
  refine ⟨_, rfl, a, xs, 1, rfl, ha, by decide, ?_⟩
  refine ⟨_, rfl, by show 4 ≤ sizeLine; decide, fun l1 nl1 => ?_⟩
  have e1 := Ex.new (o := .lst [.int 4, .int 4, .int 4, .int 16]) nl1
  refine ⟨_, rfl, _, 65537, 4, rfl, by decide, by decide, l1, _, _, _, rfl, rfl, sq_of upd_same, gd (l := [4, 4, 4, 16]) (d := 4) a1.1 a1.2, ?_⟩
  refine ⟨_, 99991, _, rfl, by decide, b1, _, _, rfl, rfl, ?_⟩
  generalize upd H l1 (.lst [V.int 4, V.int 4, V.int 4, V.int 16]) = H1 at e1 ⊢
  refine ⟨_, rfl, by show 3 ≤ sizeLine; decide, fun l2 nl2 => ?_⟩
  have e2 := Ex.new (o := .lst [.int 1, .int 2, .int 8]) nl2
  refine ⟨_, rfl, _, 65537, 3, rfl, by decide, by decide, l2, _, _, _, rfl, rfl, sq_of upd_same, gd (l := [1, 2, 8]) (d := 1) a2.1 a2.2, ?_⟩
  refine ⟨_, 90001, _, rfl, by decide, b2, _, _, rfl, rfl, ?_⟩
  generalize upd H1 l2 (.lst [V.int 1, V.int 2, V.int 8]) = H2 at e2 ⊢
  refine ⟨_, rfl, by show 3 ≤ sizeLine; decide, fun l3 nl3 => ?_⟩
  have e3 := Ex.new (o := .lst [.int 1, .int 1, .int 3]) nl3
  refine ⟨_, rfl, _, 60013, 3, rfl, by decide, by decide, l3, _, _, _, rfl, rfl, sq_of upd_same, gd (l := [1, 1, 3]) (d := 1) a3.1 a3.2, ?_⟩
  refine ⟨_, 70001, _, rfl, by decide, b3, _, _, rfl, rfl, ?_⟩
  generalize upd H2 l3 (.lst [V.int 1, V.int 1, V.int 3]) = H3 at e3 ⊢
  have e03 := e1.trans (e2.trans e3)
  refine ⟨_, rfl, _, rfl, _, rfl, _, rfl, _, rfl, _, 80021, 6, rfl, by decide, by decide, _, _, rfl, rfl, fun c cdx nc ncd ncne => ?_⟩
  refine ⟨c, cdx, hsM xs, rfl, upd_same, hsM_ok xs, fun D H4 ed hd fr fd => ⟨rfl, ?_⟩⟩
  have up : ∀ {x : Addr}, upd (upd H3 cdx (.own c)) c (.ins (He.ga K "Desk") cdx []) x = none → H3 x = none := fun {x} n => by
    by_cases z1 : x = c
    · rw [z1, upd_same] at n; cases n
    rw [upd_ne z1] at n
    by_cases z2 : x = cdx
    · rw [z2, upd_same] at n; cases n
    rwa [upd_ne z2] at n
  rw [← ed]
  refine q D H4 (fun x o e => ?_) (fun b m => ?_) hd
  · have e' := e03 x o e
    have z1 : x ≠ c := fun z => by rw [z, nc] at e'; cases e'
    have z2 : x ≠ cdx := fun z => by rw [z, ncd] at e'; cases e'
    exact fr x o (by rw [upd_ne z1, upd_ne z2]; exact e') z1
  · rcases fd b m with z | z
    · rw [z]; exact fresh_back e03 nc
    · exact fresh_back e03 (up z)
end LG

set_option Elab.async false
set_option linter.all false
set_option maxRecDepth 100000
set_option maxHeartbeats 4000000
namespace LG
open PySem PySem.Spec L2 Evl
open PyProof.Rows hiding St
variable {P : Program} {w : World} {K : PySem.W.Frag} {mg : Str → Option Value} {base : Heap}

open TL
def catS (es : List Edit) : Str := es.foldl (fun t e => t ++ " " ++ wordsM (edT e)) ""
def putS (es : List Edit) : Str := if es = [] then "" else " put " ++ Txt.join " " (es.map fun e => wordsM (edT e))
theorem nil_tl : tl ("" : Str) = [] := by decide +kernel
theorem cat_tl : ∀ (es : List Edit) (t : Str), tl (es.foldl (fun t e => t ++ " " ++ wordsM (edT e)) t) = tl t ++ es.flatMap fun e => 32 :: tl (wordsM (edT e))
  | [], t => by simp
  | e :: r, t => by
    rw [List.foldl_cons, cat_tl r, tl_append, tl_append, sp32, List.flatMap_cons]
    simp
theorem joinL_flat : ∀ {ps : List (List Nat)}, ps ≠ [] → [32] ++ joinL [32] ps = ps.flatMap fun p => 32 :: p
  | [], h => absurd rfl h
  | [p], _ => by simp [joinL]
  | p :: q :: r, _ => by
    have ih := joinL_flat (ps := q :: r) (by simp)
    rw [List.flatMap_cons, ← ih]
    show [32] ++ (p ++ ([32] ++ joinL [32] (q :: r))) = _
    simp
theorem cat_put {es : List Edit} (h : es ≠ []) : " put" ++ catS es = putS es := by
  unfold putS
  rw [if_neg h]
  refine ext_tl ?_
  have e : tl (" put " : Str) = tl (" put" : Str) ++ [32] := by decide +kernel
  rw [tl_append, tl_append, tl_joinT, sp32, e, List.append_assoc, joinL_flat (by simpa using h)]
  unfold catS
  rw [cat_tl, nil_tl, List.nil_append, List.map_map, List.flatMap_map]
  rfl
theorem cat_nil {es : List Edit} : catS es = "" ↔ es = [] := by
  constructor
  · intro h
    cases es with
    | nil => rfl
    | cons e r =>
      have := congrArg tl h
      unfold catS at this
      rw [cat_tl, nil_tl] at this
      simp at this
  · rintro rfl; rfl
theorem word3_len {e : Edit} (h : goodE e) : (wordsM (edT e)).length ≤ 39 :=
  (words_le (ns := edT e) (fun n hn => by
    have : n = e.1 ∨ n = e.2.1 ∨ n = e.2.2 := by simpa [edT] using hn
    rcases this with z | z | z
    · rw [z]; exact h.1
    · rw [z]; exact h.2.1
    · rw [z]; exact h.2.2) (by show 3 ≤ 1000; decide)).2
theorem cat_len {es : List Edit} (h : ∀ e ∈ es, goodE e) (hl : es.length ≤ 100) : (catS es).length ≤ 4000 := by
  have gen : ∀ (es : List Edit) (t : Str), (∀ e ∈ es, goodE e) → (es.foldl (fun t e => t ++ " " ++ wordsM (edT e)) t).length ≤ t.length + 40 * es.length := by
    intro es
    induction es with
    | nil => intro t _; simp
    | cons e r ih =>
      intro t h
      have h1 := ih (t ++ " " ++ wordsM (edT e)) fun x hx => h x (List.mem_cons_of_mem _ hx)
      have h2 := word3_len (h e List.mem_cons_self)
      rw [len_app, len_app, one_len] at h1
      rw [List.foldl_cons, List.length_cons]
      omega
  have := gen es "" h
  rw [show ("" : Str).length = 0 by decide +kernel] at this
  unfold catS
  omega
def edK (kn : List (Int × (Int × Int))) (k : Int) : Edit := (k, (look kn k).getD (0, 0))
def sp_l_put (K : PySem.W.Frag) : Sp := fun vs H Q _ => ∃ c : Int, vs = [.int c] ∧ ∀ es H', Ex H H' → es.length ≤ 3 → (∀ e ∈ es, goodE e) → Q (.str (putS es)) H'
abbrev N_l_put : List Str := ["_law_cell", "_law_edits", "_law_k", "_law_text", "_law_slot", "_law_old", "_law_new_here"]
theorem sc_l_put : FnScope N_l_put ["_law_cell"] (defScope s_l_put) := ⟨rfl, rfl, rfl, by decide +kernel, rfl, by decide +kernel, by decide +kernel⟩
-- slots: 0:_law_cell 1:_law_edits 2:_law_k 3:_law_text 4:_law_slot 5:_law_old 6:_law_new_here
theorem ok_l_put (T : Tx K mg) : Ok P w K mg base 2 ("_law_put", none) ["_law_cell"] (sp_l_put K) := by
  refine T.ok 81 rfl (N := N_l_put) rfl rfl sc_l_put (fun vs H Q E h => ?_) (fun _ _ _ _ _ _ us hl => match us, hl with | [_], _ => rfl) (fun cdv A outer s H vs Q E hr h => ?_)
  · obtain ⟨_, rfl, _⟩ := h
    rfl
  have hu := hu_of hr
  obtain ⟨c, rfl, q⟩ := h
  refine ⟨_, (pss_cons (ps_set (i := 1) sc_l_put.nd rfl (by first | exact Or.inl rfl | exact Or.inr rfl) pe_dnewK)
 (pss_cons (ps_for (passes_of rfl) rfl (pi_range1 (by rfl) T.b_range (pa_cons (pe_f (ok_l_mixed T) hr T.g_l_mixed passL (pa_cons (pv 0) (pa_cons pe_int (pa_cons pe_int pa_nil)))) pa_nil)) (pg_name (i := 2) sc_l_put.nd rfl (by first | exact Or.inl rfl | exact Or.inr rfl))
  (pss_one (ps_if (pt_cmpR op_eq (pe_f (ok_l_mixed T) hr T.g_l_mixed passL (pa_cons (pv 0) (pa_cons pe_int (pa_cons pe_int pa_nil)))) pe_int (nomark _)) (pss_cons (ps_set (i := 5) sc_l_put.nd rfl (by first | exact Or.inl rfl | exact Or.inr rfl) (pe_f (ok_l_mixed T) hr T.g_l_mixed passL (pa_cons (pe_op op_add (pv 0) (pe_op op_mul (pe_op op_mul pe_int (pv 2)) (pv 2))) (pa_cons pe_int (pa_cons pe_int pa_nil)))))
 (pss_cons (ps_set (i := 6) sc_l_put.nd rfl (by first | exact Or.inl rfl | exact Or.inr rfl) (pe_op op_mod (pe_op op_add (pe_op op_add (pv 5) pe_int) (pe_f (ok_l_mixed T) hr T.g_l_mixed passL (pa_cons (pe_op op_add (pv 0) (pe_op op_mul (pe_op op_mul pe_int (pv 2)) (pv 2))) (pa_cons pe_int (pa_cons pe_int pa_nil))))) pe_int))
 (pss_one (ps_dput hu (pv 1) (pe_f (ok_l_mixed T) hr T.g_l_mixed passL (pa_cons (pe_op op_add (pv 0) (pe_op op_mul (pe_op op_mul pe_int (pv 2)) (pv 2))) (pa_cons pe_int (pa_cons pe_int pa_nil)))) (pe_tup (pa_cons (pv 5) (pa_cons (pv 6) pa_nil))) rfl)))) (pss_one (ps_dput hu (pv 1) (pe_f (ok_l_mixed T) hr T.g_l_mixed passL (pa_cons (pe_op op_add (pv 0) (pe_op op_mul (pe_op op_mul pe_int (pv 2)) (pv 2))) (pa_cons pe_int (pa_cons pe_int pa_nil)))) (pe_tup (pa_cons pe_int (pa_cons (pe_op op_add pe_int (pe_op op_mod (pe_op op_add (pv 0) (pv 2)) (pe_op op_pow pe_int pe_int))) pa_nil))) rfl)))))
 (pss_cons (ps_set (i := 3) sc_l_put.nd rfl (by first | exact Or.inl rfl | exact Or.inr rfl) pe_str)
 (pss_cons (ps_for (passes_of rfl) rfl (kseq K (pe_callB (call_sortedDI rfl) (by rfl) T.b_sorted (by decide +kernel) (pa_cons (pv 1) pa_nil))) (pg_name (i := 4) sc_l_put.nd rfl (by first | exact Or.inl rfl | exact Or.inr rfl))
  (pss_cons (ps_asg (pe_dget hu (pv 1) (pv 4) (fun _ _ => rfl)) (ktup K 2 (pgs_cons (pg_name (i := 5) sc_l_put.nd rfl (by first | exact Or.inl rfl | exact Or.inr rfl)) (pgs_cons (pg_name (i := 6) sc_l_put.nd rfl (by first | exact Or.inl rfl | exact Or.inr rfl)) pgs_nil))))
 (pss_one (ps_set (i := 3) sc_l_put.nd rfl (by first | exact Or.inl rfl | exact Or.inr rfl) (pe_op op_add_str (pe_op op_add_str (pv 3) pe_str) (kjoin K pe_str (pe_lst (pa_cons (pe_callTy call_str_int (by rfl) T.b_str (by decide +kernel) (pa_cons (pv 4) pa_nil)) (pa_cons (pe_callTy call_str_is (by rfl) T.b_str (by decide +kernel) (pa_cons (pv 5) pa_nil)) (pa_cons (pe_callTy call_str_is (by rfl) T.b_str (by decide +kernel) (pa_cons (pv 6) pa_nil)) pa_nil))))))))))
 (pss_cons (ps_if (pt_cmpR op_eq (pv 3) pe_str (nomark _)) (pss_one (ps_ret pe_str)) pss_nil)
 (pss_one (ps_ret (pe_op op_add_str pe_str (pv 3))))))))), ?_⟩
  intro d nd
  have b4 := mix_bd (n := c) (p := 60013) (m := 4) (by decide)
  refine ⟨_, rfl, c, 60013, 4, rfl, by decide, by decide, mixM c 60013 4, rfl, by omega, by omega, ?_⟩
  refine for_range (fun i σ' H' => ∃ tb kn v2 v5 v6, σ' = [some (.int c), some (.ref d), v2, none, none, v5, v6] ∧ Ex H H' ∧ H' d = some (.dK (goneK tb)) ∧ PK (fun v p => Dp K H' v (dPair p)) tb kn ∧ kn.length ≤ i ∧ ∀ x ∈ kn, goodE (x.1, x.2)) ⟨[], [], none, none, none, rfl, Ex.new nd, upd_same, .nil, Nat.le_refl _, fun x hx => by cases hx⟩ ?_ ?_
  · rintro i σ' H1 hi ⟨tb, kn, v2, v5, v6, rfl, e1, hd, pk, kl, kg⟩
    have i3 : i ≤ 3 := by omega
    have cm : ∀ z : Int, CMul z (0 + (i : Int)) := fun z => .inr ⟨by omega, by omega⟩
    have tl3 : tb.length ≤ 3 := by rw [pk_len pk]; omega
    -- a new entry
    have fin : ∀ (k x y : Int) (t : Addr) (v5' v6' : Option V), H1 t = none → good k → good x → good y → ∃ tb' kn' v2 v5 v6, [some (V.int c), some (.ref d), some (.int (0 + (i : Int))), none, none, v5', v6'] = [some (.int c), some (.ref d), v2, none, none, v5, v6] ∧
        Ex H (upd (upd H1 t (.tup [.int x, .int y])) d (.dK (putK (goneK tb) (Sum.inl k) (.ref t)))) ∧ upd (upd H1 t (.tup [.int x, .int y])) d (.dK (putK (goneK tb) (Sum.inl k) (.ref t))) d = some (.dK (goneK tb')) ∧ PK (fun v p => Dp K (upd (upd H1 t (.tup [.int x, .int y])) d (.dK (putK (goneK tb) (Sum.inl k) (.ref t)))) v (dPair p)) tb' kn' ∧ kn'.length ≤ i + 1 ∧ ∀ x ∈ kn', goodE (x.1, x.2) := fun k x y t v5' v6' nt gk gx gy => by
      have ndt : d ≠ t := ne_of_none hd nt
      have e2 := Ex.new (o := .tup [.int x, .int y]) nt
      have hd2 := e2 _ _ hd
      have kp : Keep (upd H1 t (.tup [.int x, .int y])) (upd (upd H1 t (.tup [.int x, .int y])) d (.dK (putK (goneK tb) (Sum.inl k) (.ref t)))) := keep_mut hd2 rfl
      refine ⟨put tb k (.ref t), put kn k (x, y), _, _, _, rfl, Ex.mut (e1.trans e2) nd, by rw [upd_same, gone_put], ?_, ?_, fun z hz => ?_⟩
      · refine pk_put (R := fun v p => Dp K _ v (dPair p)) ?_ (pk_mono (R := fun v p => Dp K H1 v (dPair p)) (fun v p h => dp_keep kp rfl (dp_ex e2 h)) pk)
        exact dp_keep kp rfl (.tup (st_of upd_same) (.cons (.int _) (.cons (.int _) .nil)))
      · exact Nat.le_trans (put_length _ _ _) (by omega)
      · unfold put at hz
        split at hz
        · obtain ⟨u, hu, e⟩ := List.mem_map.mp hz
          by_cases cc : u.1 = k
          · rw [if_pos cc] at e; rw [← e]; exact ⟨(kg u hu).1, gx, gy⟩
          · rw [if_neg cc] at e; rw [← e]; exact kg u hu
        · rcases List.mem_append.mp hz with y2 | y2
          · exact kg z y2
          · rw [List.mem_singleton.mp y2]; exact ⟨gk, gx, gy⟩
    have zl : (goneK tb).length < sizeLine := by rw [show (goneK tb).length = tb.length from List.length_map _, sizeLine_eq]; omega
    refine ⟨_, rfl, c, 20011, 2, rfl, by decide, by decide, rfl, _, rfl, ?_⟩
    refine ite2 (fun _ => ?_) (fun _ => ?_)
    · refine ⟨_, rfl, _, rfl, _, _, rfl, rfl, cm _, _, rfl, _, _, rfl, rfl, cm _, _, _, rfl, rfl, _, 40009, 3, rfl, by decide, by decide, ?_⟩
      refine ⟨_, rfl, _, _, rfl, rfl, _, rfl, _, rfl, _, _, rfl, rfl, cm _, _, rfl, _, _, rfl, rfl, cm _, _, _, rfl, rfl, _, 50021, 2, rfl, by decide, by decide, _, _, rfl, rfl, _, _, rfl, rfl, (by show (0 : Int) < 3; decide), ?_⟩
      refine ⟨_, rfl, _, rfl, by show 2 ≤ sizeLine; decide, fun t nt => ?_⟩
      have e2 := Ex.new (o := .tup [.int (mixM (c + 3 * (0 + (i : Int)) * (0 + (i : Int))) 40009 3), .int ((mixM (c + 3 * (0 + (i : Int)) * (0 + (i : Int))) 40009 3 + 1 + mixM (c + 5 * (0 + (i : Int)) * (0 + (i : Int))) 50021 2) % 3)]) nt
      refine ⟨_, rfl, _, rfl, _, rfl, _, _, rfl, rfl, cm _, _, rfl, _, _, rfl, rfl, cm _, _, _, rfl, rfl, _, 131071, 6, rfl, by decide, by decide, d, _, rfl, DPut.k (k := Sum.inl _) (e2 _ _ hd) zl, ?_⟩
      have m1 := mix_bd (n := c + 7 * (0 + (i : Int)) * (0 + (i : Int))) (p := 131071) (m := 6) (by decide)
      have m2 := mix_bd (n := c + 3 * (0 + (i : Int)) * (0 + (i : Int))) (p := 40009) (m := 3) (by decide)
      exact fin _ _ _ t _ _ nt (small_good m1.1 (by omega)) (small_good m2.1 (by omega)) (small_good (Int.emod_nonneg _ (by decide)) (by omega))
    · have p9 : (10 : Int) ^ (9 : Int).toNat = 1000000000 := by decide
      refine ⟨_, rfl, _, rfl, _, _, rfl, rfl, _, _, rfl, rfl, ⟨by decide, by decide, by decide⟩, _, _, rfl, rfl, (by show (0 : Int) < (10 : Int) ^ (9 : Int).toNat; rw [p9]; decide), _, _, rfl, rfl, by show 2 ≤ sizeLine; decide, fun t nt => ?_⟩
      have e2 := Ex.new (o := .tup [.int 0, .int (1 + (c + (0 + (i : Int))) % (10 : Int) ^ (9 : Int).toNat)]) nt
      refine ⟨_, rfl, _, rfl, _, rfl, _, _, rfl, rfl, cm _, _, rfl, _, _, rfl, rfl, cm _, _, _, rfl, rfl, _, 131071, 1000, rfl, by decide, by decide, d, _, rfl, DPut.k (k := Sum.inl _) (e2 _ _ hd) zl, ?_⟩
      have m1 := mix_bd (n := c + 7 * (0 + (i : Int)) * (0 + (i : Int))) (p := 131071) (m := 1000) (by decide)
      refine fin _ _ _ t _ _ nt (small_good m1.1 (by omega)) (small_good (by decide) (by decide)) ?_
      rw [p9]
      exact ⟨by omega, by omega⟩
  · rintro σ' H1 ⟨tb, kn, v2, v5, v6, rfl, e1, hd, pk, kl, kg⟩
    have kk : tb.map (·.1) = kn.map (·.1) := pk_keys pk
    have kn3 : kn.length ≤ 3 := by omega
    refine ⟨_, rfl, d, goneK tb, kn.map (·.1), rfl, .inl hd, by rw [← kk]; unfold goneK; rw [List.map_map, List.map_map]; rfl, by rw [List.length_map]; omega, fun ys p hp hs np => ?_⟩
    rw [isort_one hp hs]
    have e2 : Ex H1 (upd H1 p (.lst ((isort (kn.map (·.1))).map V.int))) := Ex.new np
    have hd2 := e2 _ _ hd
    have e02 := e1.trans e2
    have hl2 : upd H1 p (.lst ((isort (kn.map (·.1))).map V.int)) p = some (.lst ((isort (kn.map (·.1))).map V.int)) := upd_same
    have pk2 : PK (fun v p' => Dp K (upd H1 p (.lst ((isort (kn.map (·.1))).map V.int))) v (dPair p')) tb kn := pk_mono (R := fun v p => Dp K H1 v (dPair p)) (fun v q h => dp_ex e2 h) pk
    generalize upd H1 p (.lst ((isort (kn.map (·.1))).map V.int)) = H2 at e2 hd2 e02 hl2 pk2 ⊢
    have il : (isort (kn.map (·.1))).length = kn.length := by rw [isort_length, List.length_map]
    have gE : ∀ k ∈ isort (kn.map (·.1)), ∃ z, look kn k = some z ∧ goodE (k, z) := fun k hk => by
      have hm := (isort_perm _).mem_iff.mp hk
      obtain ⟨u, hu, rfl⟩ := List.mem_map.mp hm
      cases e : look kn u.1 with
      | none => exact absurd hm (nin_look e)
      | some z => exact ⟨z, rfl, kg _ (look_mem e)⟩
    have gEs : ∀ e ∈ (isort (kn.map (·.1))).map (edK kn), goodE e := fun e he => by
      obtain ⟨k, hk, rfl⟩ := List.mem_map.mp he
      obtain ⟨z, hz, gz⟩ := gE k hk
      unfold edK
      rw [hz]
      exact gz
    refine for_s ((isort (kn.map (·.1))).map V.int) (isort (kn.map (·.1))) (by rw [List.length_map]) (fun done todo σ' H' => Ex H2 H' ∧ ∃ v4 v5 v6, σ' = [some (.int c), some (.ref d), v2, some (.str (catS (done.map (edK kn)))), v4, v5, v6]) (HB := H2) (.inl (sq_of hl2)) ⟨Ex.refl _, none, v5, v6, rfl⟩ ?_ ?_ ?_
    · rintro done todo σ' H' _ ⟨e, _⟩
      exact stays_ex e
    · rintro done k todo v σ' H3 he hv hdd ⟨e3, v4, v5, v6, rfl⟩
      rw [List.getElem?_map, hdd] at hv
      cases hv
      have hk := List.mem_of_getElem? hdd
      obtain ⟨z, hz, gz⟩ := gE k hk
      have hd3 := e3 _ _ hd2
      rcases pk_look (k := k) pk2 with ⟨z1, z2⟩ | ⟨u, z', z1, z2, z3⟩
      · rw [hz] at z2; cases z2
      rw [hz] at z2
      cases z2
      obtain ⟨t, u1, u2, rfl, ht, w1, w2⟩ := dp_tup2 (dp_ex e3 z3)
      rw [dp_int w1, dp_int w2] at ht
      have hg : DGet H3 d (.int k) (some (V.ref t)) := by
        have := DGet.k (k := Sum.inl k) hd3
        rw [gone_val, z1] at this
        exact this
      refine ⟨_, rfl, _, rfl, d, _, rfl, hg, t, _, rfl, ht, rfl, _, _, rfl, _, _, rfl, rfl, ?_⟩
      have dl : done.length ≤ 100 := by
        have := (List.getElem?_eq_some_iff.mp hdd).1
        omega
      have gd : ∀ e ∈ done.map (edK kn), goodE e := fun e he2 => by
        obtain ⟨k', hk', rfl⟩ := List.mem_map.mp he2
        exact gEs _ (List.mem_map.mpr ⟨k', by rw [← he]; exact List.mem_append_left _ hk', rfl⟩)
      have cl := cat_len gd (by rw [List.length_map]; exact dl)
      have w3 := word3_len (e := (k, z)) gz
      refine ⟨_, rfl, _, _, rfl, rfl, by rw [one_len, sizeLine_eq]; omega, ⟨_, rfl⟩, ?_⟩
      refine ⟨_, rfl, k, rfl, good_log gz.1, _, rfl, .inl ⟨z.1, rfl, good_log gz.2.1, _, rfl, .inl ⟨z.2, rfl, good_log gz.2.2, ?_⟩⟩⟩
      refine ⟨by show 3 ≤ sizeLine; decide, fun L nL => ?_⟩
      have eL := Ex.new (o := .lst (((edT (k, z)).map numS).map V.str)) nL
      have wle := (words_le (ns := edT (k, z)) (fun n hn => by
        have : n = k ∨ n = z.1 ∨ n = z.2 := by simpa [edT] using hn
        rcases this with y | y | y
        · rw [y]; exact gz.1
        · rw [y]; exact gz.2.1
        · rw [y]; exact gz.2.2) (by show 3 ≤ 1000; decide)).1
      refine ⟨" ", L, (edT (k, z)).map numS, rfl, rfl, .inl (sq_of upd_same), wle, _, _, rfl, rfl, ?_, ?_⟩
      · rw [len_app, one_len, sizeLine_eq]
        show (catS _).length + 1 + (wordsM (edT (k, z))).length ≤ _
        omega
      · refine ⟨e3.trans eL, some (.int k), some (.int z.1), some (.int z.2), ?_⟩
        have ec : catS ((done ++ [k]).map (edK kn)) = catS (done.map (edK kn)) ++ " " ++ wordsM (edT (k, z)) := by
          unfold catS
          rw [List.map_append, List.foldl_append]
          show _ ++ " " ++ wordsM (edT (edK kn k)) = _
          unfold edK
          rw [hz]
          rfl
        rw [ec]
        rfl
    · rintro σ' H3 ⟨e3, v4, v5, v6, rfl⟩
      have e03 := e02.trans e3
      refine ⟨_, rfl, rfl, _, rfl, ?_⟩
      rw [eq_str]
      replace q := q ((isort (kn.map (·.1))).map (edK kn)) H3 e03 (by rw [List.length_map, il]; exact kn3) gEs
      refine ite2 (fun cc => ?_) (fun cc => ?_)
      · have ee := cat_nil.mp (dt cc)
        unfold putS at q
        rw [if_pos ee] at q
        exact q
      · have ne : (isort (kn.map (·.1))).map (edK kn) ≠ [] := fun z => df cc (cat_nil.mpr z)
        have cl := cat_len gEs (by rw [List.length_map, il]; omega)
        refine ⟨_, rfl, _, _, rfl, rfl, by rw [show (" put" : Str).length = 4 by decide +kernel, sizeLine_eq]; omega, ?_⟩
        rw [cat_put ne]
        exact q
end LG

set_option Elab.async false
set_option linter.all false
set_option maxRecDepth 100000
set_option maxHeartbeats 4000000
namespace LG
open PySem PySem.Spec L2 Evl
open PyProof.Rows hiding St
variable {P : Program} {w : World} {K : PySem.W.Frag} {mg : Str → Option Value} {base : Heap}

open TL
/-- o.m(e, ..), what is raised wished for at the slots -/
def tMethW (C : Addr) (m : Str) (sp : Sp) (E : L2.St → XK) (ta : TE) (t : TA) : TE := fun σ H Q => ta σ H fun x H1 => ∃ a dx fs, x = .ref a ∧ H1 a = some (.ins C dx fs) ∧ fs.lookup m = none ∧ t σ H1 fun vs H2 => sp (x :: vs) H2 Q (E σ)
section
variable {X : Cx} {CX : CXT} {k : Nat} {f C : Addr} {fd : FuncData} {ps : List Str} {sp : Sp} {E : L2.St → XK} {m : Str} {apos pos : Pos} {o e : Expr} {es : List Expr} {t : TA} {ta : TE}
theorem pe_methS {pl : Sem Bool} (he : PE X o ta) (c : Cls X.K C) (hm : Meth X.K C m f) (F : FnOk X.prog X.w X.K X.mg X.base CX k f fd ps sp) (hr : Room k X.A) (hb : Binds X.K fd ps []) (hx : ∀ σ, PassesAt CX X σ (E σ)) (ha : PA X (e :: es) t)
    (hst : starEach (e :: es) X.env = (false, eval e X.env) :: starEach es X.env := by rfl) (hpl : (backTo pos (starEach es X.env)).any (·.1) = false := by rfl)
    (ht : eval (.Call (.Attribute o m apos) (e :: es) [] pos) X.env = (do
      let ov ← eval o X.env
      standAt apos.atName
      let (f, first) ← holding [ov] (getMethod ov m pl)
      callWith pos f first (backTo pos (starEach (e :: es) X.env)) (backToKw pos (keywordEach [] X.env))) := by rfl) :
    PE X (.Call (.Attribute o m apos) (e :: es) [] pos) (tMethW C m sp E ta t) := by
  refine ⟨fun pins s σ H Q I h => ?_⟩
  refine PySem.W.methodCall_KW (pl := pl) (thn (he.run pins s σ H _ I h) fun u s1 ⟨x, H1, I1, rx, a, dx, fs, ex, ea, l, q⟩ => ?_) ht
  subst ex
  obtain rfl : u = Value.ref a := rx
  refine getmeth_ok I1 ea c hm l ?_
  refine PySem.W.callWith_K (first := [.ref a]) (h₀ := X.base) I.ok.mod.kin hm.kp (thn (ha.run pos pins s1 σ H1 _ I1 q) fun us s2 ⟨vs, H2, I2, r, q2⟩ => ⟨I2.kIn, ?_⟩) hst hpl
  exact run_fnS (us := .ref a :: us) (vs := .ref a :: vs) F hr hb (hx σ) I2 (.cons rfl r) q2
end
theorem errC_line (T : Tx K mg) (e : Err) : PySem.W.exmOne K (errC K e) (.ref (He.ga K "LinegateError")) = some true := by
  cases e with
  | noChange => exact T.e_NoChange_LinegateError
  | tooMany => exact T.e_TooMany_LinegateError
  | tooLate => exact T.e_TooLate_LinegateError
  | noLook => exact T.e_NoLook_LinegateError
  | noAnswer => exact T.e_NoAnswer_LinegateError
def sp_l_said (K : PySem.W.Frag) : Sp := fun vs H Q _ => ∃ D hs rs g text, vs = [.ref D.p, .str text] ∧ DkAt K H D hs rs g ∧ Sd hs rs g ∧
  ((text = "back" ∧ (rs = [] → ∀ H', Ex H H' → Q (.bl false) H') ∧ (∀ rs' r, rs = rs' ++ [r] → ∀ g', Sd hs rs' g' → ∀ D' H', D'.p = D.p → DkAt K H' D' hs rs' g' → Fr (footD D) (footD D') H H' → Q (.bl true) H')) ∨
   (∃ r, text = shownM r ∧ goodR r ∧ smallR r ∧ rs.length + 1 ≤ 20 ∧ (∀ e, g.step r = .error e → ∀ H', Ex H H' → Q (.bl false) H') ∧
     (∀ g' t, g.step r = .ok (g', t) → Sd hs (rs ++ [r]) g' → ∀ D' H', D'.p = D.p → DkAt K H' D' hs (rs ++ [r]) g' → Fr (footD D) (footD D') H H' → Q (.bl true) H')))
abbrev N_l_said : List Str := ["_law_desk", "_law_line_here", "_law_well"]
theorem sc_l_said : FnScope N_l_said ["_law_desk", "_law_line_here"] (defScope s_l_said) := ⟨rfl, rfl, rfl, by decide +kernel, rfl, by decide +kernel, by decide +kernel⟩
theorem ok_l_said (T : Tx K mg) : Ok P w K mg base 15 ("_law_said", none) ["_law_desk", "_law_line_here"] (sp_l_said K) := by
  refine T.ok 83 rfl (N := N_l_said) rfl rfl sc_l_said (fun vs H Q E h => ?_) (fun _ _ _ _ _ _ us hl => match us, hl with | [_, _], _ => rfl) (fun cdv A outer s H vs Q E hr h => ?_)
  · obtain ⟨_, _, _, _, _, rfl, _⟩ := h
    rfl
  obtain ⟨fdS, FS, bS⟩ := (ok_Desk_say (P := P) (w := w) (K := K) (mg := mg) (base := base) T).ex
  refine ⟨_, (pss_cons (ps_set (i := 2) sc_l_said.nd rfl (by first | exact Or.inl rfl | exact Or.inr rfl) pe_bl)
    (pss_cons (ps_try_only (c := .ref (He.ga K "LinegateError")) (Wout := fun _ _ _ _ => False) (tb := fun W => tDrop (tMethW (He.ga K "Desk") "say" (sp_Desk_say K) (WE W) (tVar 0) (tCons (tVar 1) tNil))) (ts := fun _ _ _ => tAsg (tC (.bl false)) (gName 2)) rfl rfl ⟨rfl, by decide, Or.inl T.g_LinegateError⟩ takes0
      (fun W pn xe tk _ => pss_one (ps_expr (pe_methS (pv 0) T.c_Desk T.m_Desk_say FS (hr.mono (by decide)) bS (fun σ => passAt tk σ) (by exact (pa_cons (pv 1) pa_nil)))))
      (fun a oe cls d pn hz hf => pss_one (ps_set (i := 2) sc_l_said.nd rfl (by first | exact Or.inl rfl | exact Or.inr rfl) pe_bl)))
    (pss_one (ps_ret (pv 2))))), ?_⟩
  obtain ⟨D, hs, rs, g, text, rfl, h, sd, k⟩ := h
  refine ⟨_, rfl, _, _, _, rfl, h.ob, rfl, _, rfl, D, hs, rs, g, text, rfl, h, sd, ?_⟩
  rcases k with ⟨rfl, kE, kQ⟩ | ⟨r, rfl, hg, hsm, hl, kE, kQ⟩
  · refine .inl ⟨rfl, fun er H1 e1 => ⟨true, T.e_NoRow_LinegateError, fun _ a na => ⟨_, rfl, kE er H1 e1⟩, fun z => by cases z⟩, fun rs' r er g' s' D' H1 ep hd f => ⟨_, rfl, kQ rs' r er g' s' D' H1 ep hd f⟩⟩
  · refine .inr (.inr (.inr ⟨r, rfl, hg, hsm, hl, fun e he H1 e1 => ⟨true, errC_line T e, fun _ a na => ⟨_, rfl, kE e he H1 e1⟩, fun z => by cases z⟩, fun g' t ht s' D' H1 ep hd f => ⟨_, rfl, kQ g' t ht s' D' H1 ep hd f⟩⟩))
def whyS (g : GS) (n : Int) : Str := match g.why n with
  | none => "-"
  | some r => reasonM r
def sp_l_why (K : PySem.W.Frag) : Sp := fun vs H Q _ => ∃ D hs rs g n, vs = [.ref D.p, .int n] ∧ DkAt K H D hs rs g ∧ Sd hs rs g ∧ good n ∧ ∀ H', Ex H H' → Q (.str (whyS g n)) H'
abbrev N_l_why : List Str := ["_law_desk", "_law_number", "_law_told_here"]
theorem sc_l_why : FnScope N_l_why ["_law_desk", "_law_number"] (defScope s_l_why) := ⟨rfl, rfl, rfl, by decide +kernel, rfl, by decide +kernel, by decide +kernel⟩
theorem ok_l_why (T : Tx K mg) : Ok P w K mg base 15 ("_law_why", none) ["_law_desk", "_law_number"] (sp_l_why K) := by
  refine T.ok 84 rfl (N := N_l_why) rfl rfl sc_l_why (fun vs H Q E h => ?_) (fun _ _ _ _ _ _ us hl => match us, hl with | [_, _], _ => rfl) (fun cdv A outer s H vs Q E hr h => ?_)
  · obtain ⟨_, _, _, _, _, rfl, _⟩ := h
    rfl
  obtain ⟨fdS, FS, bS⟩ := (ok_Desk_say (P := P) (w := w) (K := K) (mg := mg) (base := base) T).ex
  refine ⟨_, (pss_cons (ps_set (i := 2) sc_l_why.nd rfl (by first | exact Or.inl rfl | exact Or.inr rfl) pe_str)
    (pss_cons (ps_try_only (c := .ref (He.ga K "NoChange")) (Wout := fun _ _ _ _ => False) (tb := fun W => tAsg (tMethW (He.ga K "Desk") "say" (sp_Desk_say K) (WE W) (tVar 0) (tCons (tOp (fun x y H Q => ∃ i j, x = .str i ∧ y = .str j ∧ i.length + j.length ≤ sizeLine ∧ Q (.str (i ++ j)) H) (tC (.str "why ")) (tCB (fun xs H Q => ∃ i, xs = [.int i] ∧ i.natAbs.log2 < 1920 ∧ Q (.str (toString i)) H) (tCons (tVar 1) tNil))) tNil)) (gName 2)) (ts := fun _ _ _ => tAsg (tC (.str "-")) (gName 2)) rfl rfl ⟨rfl, by decide, Or.inl T.g_NoChange⟩ takes0
      (fun W pn xe tk _ => pss_one (ps_set (i := 2) sc_l_why.nd rfl (by first | exact Or.inl rfl | exact Or.inr rfl) (by exact (pe_methS (pv 0) T.c_Desk T.m_Desk_say FS (hr.mono (by decide)) bS (fun σ => passAt tk σ) (by exact (pa_cons (pe_op op_add_str pe_str (pe_callTy call_str_int (by rfl) T.b_str (by decide +kernel) (pa_cons (pv 1) pa_nil))) pa_nil))))))
      (fun a oe cls d pn hz hf => pss_one (ps_set (i := 2) sc_l_why.nd rfl (by first | exact Or.inl rfl | exact Or.inr rfl) pe_str)))
    (pss_one (ps_ret (pv 2))))), ?_⟩
  obtain ⟨D, hs, rs, g, n, rfl, h, sd, hn, k⟩ := h
  have nl := (numS_len hn).1
  have ew : whyT n = "why " ++ numS n := by
    unfold whyT
    rw [join_two]
    congr 1
  refine ⟨_, rfl, _, _, _, rfl, h.ob, rfl, _, rfl, n, rfl, good_log hn, _, _, rfl, rfl, by rw [show ("why " : Str).length = 4 by decide +kernel, sizeLine_eq]; show 4 + (numS n).length ≤ _; omega, ?_⟩
  unfold whyS at k
  refine ⟨D, hs, rs, g, _, rfl, h, sd, .inr (.inl ⟨n, ew.symm, hn, fun e H1 e1 => ⟨true, T.e_NoChange_NoChange, fun _ a na => ⟨_, rfl, ?_⟩, fun z => by cases z⟩, fun r e H1 e1 => ⟨_, rfl, ?_⟩⟩)⟩
  · have := k H1 e1
    rw [e] at this
    exact this
  · have := k H1 e1
    rw [e] at this
    exact this
end LG

set_option Elab.async false
set_option linter.all false
set_option maxRecDepth 100000
set_option maxHeartbeats 4000000
namespace LG
open PySem PySem.Spec L2 Evl
open PyProof.Rows hiding St
variable {P : Program} {w : World} {K : PySem.W.Frag} {mg : Str → Option Value} {base : Heap}

open TL
def shotM (rs : List Row) (g : GS) : List Str := (queries.map fun w => (askedM rs g w).getD "") ++ (List.range 21).map fun (i : Nat) => whyS g (1 + (i : Int))
theorem asked_some {rs : List Row} {g : GS} {w : Str} (h : w ∈ queries) : askedM rs g w = some ((askedM rs g w).getD "") := by
  have hq' : w = "line" ∨ w = "laid" ∨ w = "waiting" ∨ w = "wanted" ∨ w = "sheet" ∨ w = "book" := by simpa [queries] using h
  have : (askedM rs g w).isSome = true := by
    unfold askedM
    rcases hq' with e | e | e | e | e | e
    · rw [if_pos e]; rfl
    · by_cases c : w = "line"
      · rw [if_pos c]; rfl
      · rw [if_neg c, if_pos e]; rfl
    all_goals
      repeat' split
      all_goals first | rfl | (rename_i h1 h2 h3 h4 h5 h6; first | exact absurd e h1 | exact absurd e h2 | exact absurd e h3 | exact absurd e h4 | exact absurd e h5 | exact absurd e h6)
  cases e : askedM rs g w with
  | none => rw [e] at this; cases this
  | some z => rfl
def sp_l_shot (K : PySem.W.Frag) : Sp := fun vs H Q _ => ∃ D hs rs g, vs = [.ref D.p] ∧ DkAt K H D hs rs g ∧ Sd hs rs g ∧ ∀ p H', H p = none → Ex H H' → H' p = some (.lst ((shotM rs g).map V.str)) → Q (.ref p) H'
abbrev N_l_shot : List Str := ["_law_desk", "_law_told_here", "_law_line_here", "_law_number"]
theorem sc_l_shot : FnScope N_l_shot ["_law_desk"] (defScope s_l_shot) := ⟨rfl, rfl, rfl, by decide +kernel, rfl, by decide +kernel, by decide +kernel⟩
-- slots: 0:_law_desk 1:_law_told_here 2:_law_line_here 3:_law_number
theorem ok_l_shot (T : Tx K mg) : Ok P w K mg base 16 ("_law_shot", none) ["_law_desk"] (sp_l_shot K) := by
  refine T.ok 85 rfl (N := N_l_shot) rfl rfl sc_l_shot (fun vs H Q E h => ?_) (fun _ _ _ _ _ _ us hl => match us, hl with | [_], _ => rfl) (fun cdv A outer s H vs Q E hr h => ?_)
  · obtain ⟨_, _, _, _, rfl, _⟩ := h
    rfl
  have hu := hu_of hr
  obtain ⟨D, hs, rs, g, rfl, h, sd, k⟩ := h
  refine ⟨_, (pss_cons (ps_setLc (i := 1) (own := [("_law_line_here", 2)]) (tt := tYes) rfl sc_l_shot.nd rfl rfl (sw_true rfl rfl rfl (by decide +kernel)) (kseq K (pe_lst (pa_cons pe_str (pa_cons pe_str (pa_cons pe_str (pa_cons pe_str (pa_cons pe_str (pa_cons pe_str pa_nil)))))))) (blkOk_by (N := N_l_shot) (sc := defScope s_l_shot) (by decide +kernel)) (fun _ _ _ _ _ => (pg_name (i := 2) sc_l_shot.nd rfl (by first | exact Or.inl rfl | exact Or.inr rfl))) (fun _ _ _ _ _ => pts_nil) (fun _ _ _ _ _ => (pe_m (pv 0) (ok_Desk_say T) T.c_Desk T.m_Desk_say hr passL (pa_cons (pv 2) pa_nil))))
 (pss_one (ps_ret (pe_op op_cat (pv 1) (pe_lc (own := [("_law_number", 3)]) (tt := tYes) (by rfl) sc_l_shot.nd (pi_range2 (by rfl) T.b_range (pa_cons pe_int (pa_cons pe_int pa_nil))) (blkOk_by (N := N_l_shot) (sc := defScope s_l_shot) (by decide +kernel)) (fun _ _ _ _ _ => (pg_name (i := 3) sc_l_shot.nd rfl (by first | exact Or.inl rfl | exact Or.inr rfl))) (fun _ _ _ _ _ => pts_nil) (fun _ _ _ _ _ => (pe_f (ok_l_why T) hr T.g_l_why passL (pa_cons (pv 0) (pa_cons (pv 3) pa_nil))))))))), ?_⟩
  refine ⟨by show 6 ≤ sizeLine; decide, fun wl nwl => ?_⟩
  have ew := Ex.new (o := .lst (queries.map V.str)) nwl
  have hw : upd H wl (.lst (queries.map V.str)) wl = some (.lst (queries.map V.str)) := upd_same
  refine lc_y (K := K) (queries.map V.str) queries (fun w => .str ((askedM rs g w).getD "")) (by rw [List.length_map]) (by decide) (.inl (sq_of hw)) (fun _ => rfl) ?_ ?_
  · intro w v H2 Yes e2 hm i hv hi yes
    rw [List.getElem?_map, hi] at hv
    cases hv
    have h2 := h.ex (ew.trans e2)
    exact ⟨rfl, _, rfl, _, _, _, rfl, h2.ob, rfl, _, rfl, D, hs, rs, g, w, rfl, h2, sd, .inr (.inr (.inl ⟨hm, _, asked_some hm, fun H3 e3 => yes _ _ e3 (.str _)⟩))⟩
  intro L zs H2 nL e2 hL hp
  have e : queries.map (fun w => PyData.str ((askedM rs g w).getD "")) = (queries.map fun w => (askedM rs g w).getD "").map PyData.str := by rw [List.map_map]; rfl
  rw [e] at hp
  rw [dpa_strs hp] at hL
  have e02 := ew.trans e2
  have h2 := h.ex e02
  refine ⟨_, rfl, 1, 22, rfl, by decide, ?_⟩
  refine lc_wd (K := K) (walk_range (lo := 1) (n := 21)) (R := fun i x => x = .int (1 + (i : Nat))) (fun i H x H' y => y) (fun i => .str (whyS g (1 + (i : Int)))) (by decide) (fun _ => rfl) ?_ ?_
  · rintro i x H3 Yes e3 hi rfl yes
    exact ⟨rfl, _, rfl, _, rfl, D, hs, rs, g, _, rfl, h2.ex e3, sd, small_good (by omega) (by omega), fun H4 e4 => yes _ _ e4 (.str _)⟩
  intro M ys H3 nM e3 hM hp3
  have e' : (List.range 21).map (fun (i : Nat) => PyData.str (whyS g (1 + (i : Int)))) = ((List.range 21).map fun (i : Nat) => whyS g (1 + (i : Int))).map PyData.str := by rw [List.map_map]; rfl
  rw [e'] at hp3
  rw [dpa_strs hp3] at hM
  refine ⟨L, M, _, _, rfl, rfl, e3 _ _ hL, hM, by rw [List.length_map, List.length_map, List.length_map, List.length_map, List.length_range]; show 6 + 21 ≤ sizeLine; decide, fun p np => ?_⟩
  rw [← List.map_append]
  exact k p _ (fresh_back (e02.trans e3) np) ((e02.trans e3).trans (Ex.new np)) upd_same
theorem Sd.uniq {hs : Hs} {rs : List Row} {g g' : GS} (a : Sd hs rs g) (b : Sd hs rs g') : g = g' := Option.some.inj (a.re.symm.trans b.re)
/-- the next row, known to be done -/
theorem Sd.next {hs : Hs} {a b : List Row} {r : Row} {g g1 : GS} (s : Sd hs (a ++ r :: b) g) (s1 : Sd hs a g1) : ∃ g2 t, g1.step r = .ok (g2, t) ∧ goodR r ∧ smallR r ∧ a.length + 1 ≤ 20 := by
  have re := s.re
  rw [replay_app, s1.re] at re
  have re' : replay g1 (r :: b) = some g := re
  rw [replay] at re'
  have hr := s.sm r (by simp)
  have sz := s.sz
  rw [List.length_append, List.length_cons] at sz
  cases e : g1.step r with
  | error x => rw [e] at re'; cases re'
  | ok z => exact ⟨z.1, z.2, rfl, hr.2, hr.1, by omega⟩
def sp_l_told (K : PySem.W.Frag) : Sp := fun vs H Q _ => ∃ a b, ∃ xs : List Int, ∃ rs g, vs = [.ref a, .ref b] ∧ SqL K H a (xs.map V.int) ∧ H b = some (.lst ((rs.map shownM).map V.str)) ∧ Sd (hsM xs) rs g ∧ ∀ D H', Ex H H' → (∀ b ∈ footD D, H b = none) → DkAt K H' D (hsM xs) rs g → Q (.ref D.p) H'
abbrev N_l_told : List Str := ["_law_script", "_law_rows", "_law_desk", "_law_line_here"]
theorem sc_l_told : FnScope N_l_told ["_law_script", "_law_rows"] (defScope s_l_told) := ⟨rfl, rfl, rfl, by decide +kernel, rfl, by decide +kernel, by decide +kernel⟩
-- slots: 0:_law_script 1:_law_rows 2:_law_desk 3:_law_line_here
theorem ok_l_told (T : Tx K mg) : Ok P w K mg base 16 ("_law_told", none) ["_law_script", "_law_rows"] (sp_l_told K) := by
  refine T.ok 86 rfl (N := N_l_told) rfl rfl sc_l_told (fun vs H Q E h => ?_) (fun _ _ _ _ _ _ us hl => match us, hl with | [_, _], _ => rfl) (fun cdv A outer s H vs Q E hr h => ?_)
  · obtain ⟨_, _, _, _, _, rfl, _⟩ := h
    rfl
  have hu := hu_of hr
  obtain ⟨a, b, xs, rs, g, rfl, ha, hb, sd, k⟩ := h
  refine ⟨_, (pss_cons (ps_set (i := 2) sc_l_told.nd rfl (by first | exact Or.inl rfl | exact Or.inr rfl) (pe_f (ok_l_new T) hr T.g_l_new passL (pa_cons (pv 0) pa_nil)))
 (pss_cons (ps_for (passes_of rfl) rfl (kseq K (pv 1)) (pg_name (i := 3) sc_l_told.nd rfl (by first | exact Or.inl rfl | exact Or.inr rfl))
  (pss_one (ps_if (pt_not (pt_val (pe_f (ok_l_said T) hr T.g_l_said passL (pa_cons (pv 2) (pa_cons (pv 3) pa_nil))))) (pss_one (ps_ret pe_non)) pss_nil)))
 (pss_one (ps_ret (pv 2))))), ?_⟩
  refine ⟨_, rfl, a, xs, rfl, ha, fun D H1 e1 fd hd => ?_⟩
  have hb1 := e1 _ _ hb
  have nb : b ∉ footD D := fun m => by have := fd b m; rw [hb] at this; cases this
  have s0 : Sd (hsM xs) [] (hsM xs).new := ⟨sd.ho, rfl, Nat.zero_le _, fun r hr => by cases hr⟩
  refine ⟨_, rfl, for_s ((rs.map shownM).map V.str) rs (by rw [List.length_map, List.length_map]) (fun done todo σ' H' => ∃ D1 g1 v3, σ' = [some (.ref a), some (.ref b), some (.ref D.p), v3] ∧ D1.p = D.p ∧ DkAt K H' D1 (hsM xs) done g1 ∧ Sd (hsM xs) done g1 ∧ Fr (footD D) (footD D1) H1 H') (HB := H1) (.inl (sq_of hb1)) ⟨D, (hsM xs).new, none, rfl, rfl, hd, s0, Fr.refl _ _⟩ ?_ ?_ ?_⟩
  · rintro done todo σ' H' _ ⟨D1, g1, v3, _, _, _, _, f⟩
    exact f.stays hb1 nb
  · rintro done r todo v σ' H2 he hv hdd ⟨D1, g1, v3, rfl, ep, h2, s2, f2⟩
    rw [List.map_map, List.getElem?_map, hdd] at hv
    cases hv
    have sd' : Sd (hsM xs) (done ++ r :: todo) g := by rw [he]; exact sd
    obtain ⟨g2, t, hst, hg, hsm, hl⟩ := sd'.next s2
    rw [← ep]
    refine ⟨_, rfl, _, rfl, D1, hsM xs, done, g1, _, rfl, h2, s2, .inr ⟨r, rfl, hg, hsm, hl, fun e he2 => (by rw [hst] at he2; cases he2), fun g' t' ht s' D' H3 ep3 h3 f3 => ?_⟩⟩
    exact ⟨_, rfl, iteF ⟨D', g', _, rfl, ep3, h3, s', f2.trans f3⟩⟩
  · rintro σ' H2 ⟨D1, g1, v3, rfl, ep, h2, s2, f2⟩
    have eg := s2.uniq sd
    subst eg
    refine ⟨_, rfl, ?_⟩
    rw [← ep]
    refine k D1 H2 (fun x o e => f2.out x o (e1 x o e) fun m => ?_) (fun x m => ?_) h2
    · have := fd x m; rw [e] at this; cases this
    · rcases f2.new x m with z | z
      · exact fd x z
      · exact fresh_back e1 z
end LG

set_option Elab.async false
set_option linter.all false
set_option maxRecDepth 100000
set_option maxHeartbeats 4000000
namespace LG
open PySem PySem.Spec L2 Evl
open PyProof.Rows hiding St
variable {P : Program} {w : World} {K : PySem.W.Frag} {mg : Str → Option Value} {base : Heap}

open TL
/-- a comprehension with a test over a walk whose turns leave the heap as it is -/
theorem lc_wf {K : PySem.W.Frag} {J : It} {n : Nat} {Y : Nat → Hp → V → Hp → Prop} (w : Walk J n (fun _ => True) Y) {R : Nat → V → Prop} (hY : ∀ i H x H', Y i H x H' → H' = H ∧ R i x) {g : TG} {tt : TT} {te : TE} {vs : List Nat} {σ : L2.St} {H : Hp} {Q : Addr → Hp → Prop} (f : Nat → Option PyData) (hz : n < 1000000) (hn : ∀ i e, f i = some e → noList e = true)
    (hs : ∀ i x H' (Yes : V → Hp → Prop) (No : Hp → Prop), Ex H H' → i < n → R i x → (∀ y H4 e, Ex H' H4 → f i = some e → Dp K H4 y e → Yes y H4) → (∀ H3, Ex H' H3 → f i = none → No H3) → g x (wipe σ vs) H' fun σ2 H2 => wipe σ2 vs = wipe σ vs ∧ tt σ2 H2 fun b H3 => if b = true then te σ2 H3 Yes else No H3)
    (hd : ∀ L ys H', H L = none → Ex H H' → H' L = some (.lst ys) → DpAll K H' ys ((List.range n).filterMap f) → Q L H') :
    ∀ D, H D = none → ∃ W : Nat → Nat → Hp → Prop, (∃ m, W 0 m (upd H D (.lst []))) ∧ ∀ i m H, W i m H →
      (J.stop i H ∧ Q D H) ∨ (J.go i H ∧ ∃ Nx : Hp → Prop, (∀ H', Nx H' → ∃ m', m' < m ∧ W (i + 1) m' H') ∧ ∀ x H', J.yld i H x H' → g x (wipe σ vs) H' fun σ2 H2 => wipe σ2 vs = wipe σ vs ∧ tt σ2 H2 fun b H3 =>
        if b = true then te σ2 H3 fun y H4 => ∃ acc, H4 D = some (.lst acc) ∧ acc.length < sizeLine ∧ Nx (upd H4 D (.lst (acc ++ [y]))) else Nx H3) := by
  intro D nD
  refine lc_it w (fun i H' => Ex H H' ∧ ∃ ys, H' D = some (.lst ys) ∧ ys.length ≤ i ∧ DpAll K H' ys ((List.range i).filterMap f)) ⟨Ex.new nD, [], upd_same, Nat.le_refl _, .nil⟩ (fun _ _ _ _ => trivial) ?_ (fun H' ⟨e, ys, h1, _, h2⟩ => hd D ys H' nD e h1 h2)
  rintro i x H1 H2 hi ⟨e, ys, hy, hl, hp⟩ hyx
  obtain ⟨rfl, hr⟩ := hY i H1 x H2 hyx
  have hal : noList.all ((List.range i).filterMap f) = true := all_noList fun z hz => by
    obtain ⟨q, _, hq⟩ := List.mem_filterMap.mp hz
    exact hn q z hq
  refine hs i x H2 _ _ e hi hr (fun y H4 z e4 hz2 hz3 => ?_) (fun H3 e3 hf => ?_)
  · refine ⟨ys, e4 D _ hy, by rw [sizeLine_eq]; omega, Ex.mut (e.trans e4) nD, ys ++ [y], upd_same, by rw [List.length_append]; simp; omega, ?_⟩
    have kp : Keep H4 (upd H4 D (.lst (ys ++ [y]))) := keep_lst (e4 D _ hy)
    rw [List.range_succ, List.filterMap_append, List.filterMap_cons, hz2]
    exact (dpa_keep kp hal (dpa_ex e4 hp)).snoc (dp_keep kp (hn i z hz2) hz3)
  · refine ⟨e.trans e3, ys, e3 D _ hy, by omega, ?_⟩
    rw [List.range_succ, List.filterMap_append, List.filterMap_cons, hf]
    simpa using dpa_ex e3 hp
def lineOk (z : Str) : Prop := z = "back" ∨ ∃ r, z = shownM r ∧ goodR r ∧ smallR r
theorem ask_text (r : Int) (ls : List Int) (es : List Edit) : Txt.join " " ([("ask" : Str), numS r] ++ onT ls) ++ putS es = shownM (.ask r ls es) := by
  have el2 : toks (.ask r ls es) = ([("ask" : Str), numS r] ++ onT ls) ++ putT es := by rw [List.append_assoc]; rfl
  unfold shownM
  rw [el2]
  unfold putS
  by_cases h : es = []
  · rw [if_pos h, h]
    have : putT [] = [] := rfl
    rw [this, List.append_nil]
    exact ext_tl (by rw [tl_append, nil_tl, List.append_nil])
  · rw [if_neg h, ask3 (by simp) h, app_assoc]
def ansL : List Ans := [.yes, .no, .unsure, .yes, .no]
def ansS : List Str := ["yes ", "no ", "unsure ", "yes ", "no "]
theorem ans_at {i : Int} (h0 : 0 ≤ i) (h : i < 5) : ∃ a : Ans, atI (ansS.map V.str) i = some (.str (aS a ++ " ")) := by
  have hi : i = 0 ∨ i = 1 ∨ i = 2 ∨ i = 3 ∨ i = 4 := by omega
  rcases hi with e | e | e | e | e <;> rw [e]
  · exact ⟨.yes, by decide +kernel⟩
  · exact ⟨.no, by decide +kernel⟩
  · exact ⟨.unsure, by decide +kernel⟩
  · exact ⟨.yes, by decide +kernel⟩
  · exact ⟨.no, by decide +kernel⟩
theorem ans_text (a : Ans) {l : List Int} (h : l ≠ []) : aS a ++ " " ++ wordsM l = shownM (.answer l a) := (join_cons (by simpa using h)).symm
def sp_l_line (K : PySem.W.Frag) : Sp := fun vs H Q _ => ∃ D hs rs g, ∃ many a b c : Int, vs = [.ref D.p, .int many, .int a, .int b, .int c] ∧ DkAt K H D hs rs g ∧ Sd hs rs g ∧ 0 ≤ many ∧ many ≤ 20 ∧ ∀ z H', Ex H H' → lineOk z → Q (.str z) H'
abbrev N_l_line : List Str := ["_law_desk", "_law_many", "_law_a", "_law_b", "_law_c", "_law_kind", "_law_line_here", "_law_leans", "_law_look", "_law_wanted", "_law_looks", "_law_one"]
theorem sc_l_line : FnScope N_l_line ["_law_desk", "_law_many", "_law_a", "_law_b", "_law_c"] (defScope s_l_line) := ⟨rfl, rfl, rfl, by decide +kernel, rfl, by decide +kernel, by decide +kernel⟩
-- slots: 0:_law_desk 1:_law_many 2:_law_a 3:_law_b 4:_law_c 5:_law_kind 6:_law_line_here 7:_law_leans 8:_law_look 9:_law_wanted 10:_law_looks 11:_law_one
theorem ok_l_line (T : Tx K mg) : Ok P w K mg base 15 ("_law_line", none) ["_law_desk", "_law_many", "_law_a", "_law_b", "_law_c"] (sp_l_line K) := by
  refine T.ok 82 rfl (N := N_l_line) rfl rfl sc_l_line (fun vs H Q E h => ?_) (fun _ _ _ _ _ _ us hl => match us, hl with | [_, _, _, _, _], _ => rfl) (fun cdv A outer s H vs Q E hr h => ?_)
  · obtain ⟨_, _, _, _, _, _, _, _, rfl, _⟩ := h
    rfl
  have hu := hu_of hr
  obtain ⟨D, hs, rs, g, many, a, b, c, rfl, h, sd, m0, m1, k⟩ := h
  refine ⟨_, (pss_cons (ps_set (i := 5) sc_l_line.nd rfl (by first | exact Or.inl rfl | exact Or.inr rfl) (pe_f (ok_l_mixed T) hr T.g_l_mixed passL (pa_cons (pv 2) (pa_cons pe_int (pa_cons pe_int pa_nil)))))
 (pss_cons (ps_if (PW.pt (pw_or (pt_cmpR op_eq (pv 1) pe_int (nomark _)) (pw_or1 (pt_cmpR op_lt (pv 5) pe_int (nomark _))))) (pss_cons (ps_set (i := 6) sc_l_line.nd rfl (by first | exact Or.inl rfl | exact Or.inr rfl) (pe_op op_add_str pe_str (pe_callTy call_str_int (by rfl) T.b_str (by decide +kernel) (pa_cons (pe_f (ok_l_mixed T) hr T.g_l_mixed passL (pa_cons (pv 3) (pa_cons pe_int (pa_cons pe_int pa_nil)))) pa_nil))))
 (pss_cons (ps_set (i := 7) sc_l_line.nd rfl (by first | exact Or.inl rfl | exact Or.inr rfl) (pe_slice (ksll K) (pe_lc (own := [("_law_one", 11)]) (by rfl) sc_l_line.nd (pi_range2 (by rfl) T.b_range (pa_cons pe_int (pa_cons (pe_op op_add (pv 1) pe_int) pa_nil))) (blkOk_by (N := N_l_line) (sc := defScope s_l_line) (by decide +kernel)) (fun _ _ _ _ _ => (pg_name (i := 11) sc_l_line.nd rfl (by first | exact Or.inl rfl | exact Or.inr rfl))) (fun _ _ _ _ _ => (pts_one (pt_cmpR op_eq (pe_f (ok_l_mixed T) hr T.g_l_mixed passL (pa_cons (pe_op op_add (pv 3) (pe_op op_mul (pv 11) (pv 11))) (pa_cons pe_int (pa_cons pe_int pa_nil)))) pe_int (nomark _)))) (fun _ _ _ _ _ => (pe_callTy call_str_int (by rfl) T.b_str (by decide +kernel) (pa_cons (pv 11) pa_nil)))) po_none (po_some pe_int)))
 (pss_cut (ps_if (pt_cmpR (kne K hr) (pv 7) (pe_lst pa_nil) (nomark _)) (pss_one (ps_set (i := 6) sc_l_line.nd rfl (by first | exact Or.inl rfl | exact Or.inr rfl) (pe_op op_add_str (pe_op op_add_str (pv 6) pe_str) (kjoin K pe_str (pv 7))))) pss_nil)
 (pss_one (ps_ret (pe_op op_add_str (pv 6) (pe_f (ok_l_put T) hr T.g_l_put passL (pa_cons (pv 4) pa_nil)))))))) pss_nil)
 (pss_cons (ps_if (pt_cmpR op_lt (pv 5) pe_int (nomark _)) (pss_cons (ps_set (i := 8) sc_l_line.nd rfl (by first | exact Or.inl rfl | exact Or.inr rfl) (kjoin K pe_str (pe_lc (own := [("_law_one", 11)]) (tt := tYes) (by rfl) sc_l_line.nd (pi_range2 (by rfl) T.b_range (pa_cons pe_int (pa_cons (pe_op op_add pe_int (pe_f (ok_l_mixed T) hr T.g_l_mixed passL (pa_cons (pv 3) (pa_cons pe_int (pa_cons (pv 1) pa_nil))))) pa_nil))) (blkOk_by (N := N_l_line) (sc := defScope s_l_line) (by decide +kernel)) (fun _ _ _ _ _ => (pg_name (i := 11) sc_l_line.nd rfl (by first | exact Or.inl rfl | exact Or.inr rfl))) (fun _ _ _ _ _ => pts_nil) (fun _ _ _ _ _ => (pe_callTy call_str_int (by rfl) T.b_str (by decide +kernel) (pa_cons (pv 11) pa_nil))))))
 (pss_cons (ps_set (i := 9) sc_l_line.nd rfl (by first | exact Or.inl rfl | exact Or.inr rfl) (pe_m (pv 0) (ok_Desk_say T) T.c_Desk T.m_Desk_say hr passL (pa_cons pe_str pa_nil)))
 (pss_cut (ps_if (PW.pt (pw_and (pt_cmpR op_lt (pv 5) pe_int (nomark _)) (pw_and1 (pt_cmpR op_ne (pv 9) pe_str (nomark _))))) (pss_cons (ps_set (i := 10) sc_l_line.nd rfl (by first | exact Or.inl rfl | exact Or.inr rfl) (pe_split (pv 9) pe_str))
 (pss_one (ps_set (i := 8) sc_l_line.nd rfl (by first | exact Or.inl rfl | exact Or.inr rfl) (pe_ix (kixl K) (pv 10) (pe_f (ok_l_mixed T) hr T.g_l_mixed passL (pa_cons (pv 3) (pa_cons pe_int (pa_cons (pe_callB (klen K) (by rfl) T.b_len (by decide +kernel) (pa_cons (pv 10) pa_nil)) pa_nil)))) (fun _ _ => rfl))))) pss_nil)
 (pss_one (ps_ret (pe_op op_add_str (pe_ix (kixl K) (pe_lst (pa_cons pe_str (pa_cons pe_str (pa_cons pe_str (pa_cons pe_str (pa_cons pe_str pa_nil)))))) (pe_f (ok_l_mixed T) hr T.g_l_mixed passL (pa_cons (pv 4) (pa_cons pe_int (pa_cons pe_int pa_nil)))) (fun _ _ => rfl)) (pv 8))))))) pss_nil)
 (pss_cons (ps_if (pt_cmpR op_eq (pv 5) pe_int (nomark _)) (pss_one (ps_ret (pe_op op_add_str pe_str (pe_callTy call_str_int (by rfl) T.b_str (by decide +kernel) (pa_cons (pe_f (ok_l_mixed T) hr T.g_l_mixed passL (pa_cons (pv 3) (pa_cons pe_int (pa_cons (pe_op op_add (pv 1) pe_int) pa_nil)))) pa_nil))))) pss_nil)
 (pss_one (ps_ret (pe_ix (kixl K) (pe_lst (pa_cons pe_str (pa_cons pe_str (pa_cons pe_str pa_nil)))) (pe_op op_sub (pv 5) pe_int) (fun _ _ => rfl)))))))), ?_⟩
  have kb := mix_bd (n := a) (p := 10007) (m := 15) (by decide)
  refine ⟨_, rfl, a, 10007, 15, rfl, by decide, by decide, ?_⟩
  generalize mixM a 10007 15 = kind at *
  dsimp only [gName, tSeq]
  refine if_or (decide (many = 0)) (decide (kind < 5)) (fun Q' q => ⟨_, rfl, rfl, _, rfl, by rw [dec_int]; exact q⟩) (fun _ Q' q => ⟨_, rfl, _, _, rfl, rfl, _, rfl, q⟩) ?_
  rw [← Bool.decide_or]
  have asl : ("ask " : Str).length = 4 := by decide +kernel
  have onl : (" on " : Str).length = 4 := by decide +kernel
  refine ite2 (fun cc => ?_) (fun cc => ?_)
  · have rb := mix_bd (n := b) (p := 40009) (m := 10) (by decide)
    have rg : good (mixM b 40009 10) := small_good rb.1 (by omega)
    have rl := (numS_len rg).1
    refine ⟨_, rfl, b, 40009, 10, rfl, by decide, by decide, _, rfl, good_log rg, _, _, rfl, rfl, by rw [asl, sizeLine_eq]; show 4 + (numS _).length ≤ _; omega, ?_⟩
    rw [show ("ask " : Str) ++ toString (mixM b 40009 10) = Txt.join " " [("ask" : Str), numS (mixM b 40009 10)] from (ask1 _).symm]
    refine ⟨_, rfl, _, _, rfl, rfl, 1, many + 1, rfl, by omega, ?_⟩
    have el : ((many + 1 - 1 : Int)).toNat = many.toNat := by omega
    rw [el]
    refine lc_wf (K := K) (walk_range (lo := 1) (n := many.toNat)) (R := fun i x => x = .int (1 + (i : Nat))) (fun i H x H' y => y) (fun (i : Nat) => if decide (mixM (b + (1 + (i : Int)) * (1 + (i : Int))) 50021 4 = 0) = true then some (.str (numS (1 + (i : Int)))) else none) (by omega) ?_ ?_ ?_
    · intro i e he
      split at he
      · cases he; rfl
      · cases he
    · rintro i x H1 Yes No e1 hi rfl yes no
      have gi : good (1 + (i : Int)) := small_good (by omega) (by omega)
      refine ⟨rfl, _, rfl, _, rfl, _, rfl, _, _, rfl, rfl, .inr ⟨by omega, by omega⟩, _, _, rfl, rfl, _, 50021, 4, rfl, by decide, by decide, rfl, _, rfl, ?_⟩
      rw [dec_int]
      by_cases z : mixM (b + (1 + (i : Int)) * (1 + (i : Int))) 50021 4 = 0
      · rw [decide_eq_true z]
        exact iteT ⟨_, rfl, _, rfl, good_log gi, yes _ _ _ (Ex.refl _) (by rw [decide_eq_true z]; rfl) (.str _)⟩
      · rw [decide_eq_false z]
        exact iteF (no _ (Ex.refl _) (by rw [decide_eq_false z]; rfl))
    intro L ys H1 nL e1 hL hp
    obtain ⟨l0, hl0, hg0⟩ : ∃ l0 : List Int, (List.range many.toNat).filterMap (fun (i : Nat) => if decide (mixM (b + (1 + (i : Int)) * (1 + (i : Int))) 50021 4 = 0) = true then some (PyData.str (numS (1 + (i : Int)))) else none) = (l0.map numS).map PyData.str ∧ ∀ n ∈ l0, good n := by
      refine ⟨((List.range many.toNat).filter fun (i : Nat) => decide (mixM (b + (1 + (i : Int)) * (1 + (i : Int))) 50021 4 = 0)).map fun (i : Nat) => 1 + (i : Int), ?_, fun n hn => ?_⟩
      · rw [fm_if (fun (i : Nat) => decide (mixM (b + (1 + (i : Int)) * (1 + (i : Int))) 50021 4 = 0)) (fun (i : Nat) => PyData.str (numS (1 + (i : Int)))), List.map_map, List.map_map]
        rfl
      · obtain ⟨i, hi, rfl⟩ := List.mem_map.mp hn
        have := List.mem_range.mp (List.mem_filter.mp hi).1
        exact small_good (by omega) (by omega)
    rw [hl0] at hp
    rw [dpa_strs hp] at hL
    refine ⟨3, rfl, L, _, rfl, sq_of hL, fun q nq => ?_⟩
    rw [show (3 : Int) = ((3 : Nat) : Int) from rfl, cutS_take]
    have el3 : (l0.map numS).take 3 = (l0.take 3).map numS := List.map_take.symm
    rw [el3]
    have eq := Ex.new (o := .lst (((l0.take 3).map numS).map V.str)) nq
    have hq : upd H1 q (.lst (((l0.take 3).map numS).map V.str)) q = some (.lst (((l0.take 3).map numS).map V.str)) := upd_same
    have g2 : ∀ n ∈ l0.take 3, good n := fun n hn => hg0 n (List.mem_of_mem_take hn)
    have s1 : (l0.take 3).length ≤ 3 := by rw [List.length_take]; omega
    generalize l0.take 3 = ls at *
    generalize upd H1 q (.lst ((ls.map numS).map V.str)) = H2 at eq hq ⊢
    have e02 := e1.trans eq
    have wl := words_le g2 (by omega)
    have gr0 : goodR (.ask (mixM b 40009 10) ls []) := ⟨rg, g2, fun e he => by cases he⟩
    have pl := part_len (a := [("ask" : Str), numS (mixM b 40009 10)]) (b := onT ls ++ putT []) gr0 ⟨s1, Nat.zero_le _⟩ rfl
    have pl2 := part_len (a := [("ask" : Str), numS (mixM b 40009 10)] ++ onT ls) (b := putT []) gr0 ⟨s1, Nat.zero_le _⟩ (by rw [List.append_assoc]; rfl)
    refine ⟨fun σ' H' => Ex H H' ∧ ∃ v7 v8 v9 v10 v11, σ' = [some (.ref D.p), some (.int many), some (.int a), some (.int b), some (.int c), some (.int kind), some (.str (Txt.join " " ([("ask" : Str), numS (mixM b 40009 10)] ++ onT ls))), v7, v8, v9, v10, v11], ?_, ?_⟩
    · refine ⟨_, rfl, Nat.zero_le _, fun z nz => ?_⟩
      have ez := Ex.new (o := .lst []) nz
      obtain ⟨d, e, hd, he, sd1, se, ee⟩ := eqStrs (K := K) (a := ls.map numS) (b := []) (sq_of (ez _ _ hq)) (sq_of (show upd _ z (.lst []) z = some (.lst (([] : List Str).map V.str)) from upd_same)) (ok_num g2) (fun z hz => by cases hz)
      refine ⟨d, e, hd, he, sd1, se, _, rfl, ?_⟩
      rw [ee, not_decide]
      refine ite2 (fun c1 => ?_) (fun c1 => ?_)
      · have lne : ls ≠ [] := fun z => dt c1 (by rw [z]; rfl)
        refine ⟨_, rfl, _, _, rfl, rfl, by rw [onl, sizeLine_eq]; omega, ⟨_, rfl⟩, _, rfl, " ", q, ls.map numS, rfl, rfl, .inl (sq_of (ez _ _ hq)), wl.1, _, _, rfl, rfl, ?_, ?_⟩
        · rw [len_app, onl, sizeLine_eq]; show (Txt.join _ _).length + 4 + (wordsM ls).length ≤ _; omega
        · refine ⟨e02.trans ez, some (.ref q), none, none, none, none, ?_⟩
          rw [ask2 (by simp) lne]
          rfl
      · have lne : ls = [] := by
          have := Classical.not_not.mp (df c1)
          simpa using this
        refine ⟨e02.trans ez, some (.ref q), none, none, none, none, ?_⟩
        rw [lne]
        rfl
    · rintro σ' H3 ⟨e3, v7, v8, v9, v10, v11, rfl⟩
      refine ⟨_, rfl, _, rfl, c, rfl, fun es H4 e4 el ge => ⟨_, _, rfl, rfl, ?_, ?_⟩⟩
      · have gr : goodR (.ask (mixM b 40009 10) ls es) := ⟨rg, g2, ge⟩
        have := len_row gr ⟨s1, el⟩
        rw [← ask_text, len_app] at this
        rw [sizeLine_eq]; omega
      · rw [ask_text]
        exact k _ _ (e3.trans e4) (.inr ⟨_, rfl, ⟨rg, g2, ge⟩, s1, el⟩)
  · have c1 := df cc
    have mpos : 0 < many := by omega
    refine ⟨_, rfl, _, _, rfl, rfl, _, rfl, ?_⟩
    refine ite2 (fun c2 => ?_) (fun c2 => ?_)
    · have mb := mix_bd (n := b) (p := 30011) mpos
      obtain ⟨mm, emm⟩ : ∃ mm : Nat, mixM b 30011 many = (mm : Int) := ⟨(mixM b 30011 many).toNat, by omega⟩
      refine ⟨⟨_, rfl⟩, _, rfl, _, rfl, b, 30011, many, rfl, by decide, mpos, _, _, rfl, rfl, 1, 2 + mixM b 30011 many, rfl, by omega, ?_⟩
      have el : ((2 + mixM b 30011 many - 1 : Int)).toNat = mm + 1 := by omega
      rw [el]
      refine lc_wd (K := K) (walk_range (lo := 1) (n := mm + 1)) (R := fun i x => x = .int (1 + (i : Nat))) (fun i H x H' y => y) (fun i => .str (numS (1 + (i : Int)))) (by omega) (fun _ => rfl) ?_ ?_
      · rintro i x H1 Yes e1 hi rfl yes
        exact ⟨rfl, _, rfl, _, rfl, good_log (small_good (by omega) (by omega)), yes _ _ (Ex.refl _) (.str _)⟩
      intro L ys H1 nL e1 hL hp
      have er : (List.range (mm + 1)).map (fun (i : Nat) => PyData.str (numS (1 + (i : Int)))) = (((List.range (mm + 1)).map fun (i : Nat) => 1 + (i : Int)).map numS).map PyData.str := by rw [List.map_map, List.map_map]; rfl
      rw [er] at hp
      rw [dpa_strs hp] at hL
      obtain ⟨l0, el0⟩ : ∃ l0 : List Int, l0 = (List.range (mm + 1)).map fun (i : Nat) => 1 + (i : Int) := ⟨_, rfl⟩
      rw [← el0] at hL
      have lg0 : ∀ n ∈ l0, good n := fun n hn => by
        rw [el0] at hn
        obtain ⟨i, hi, rfl⟩ := List.mem_map.mp hn
        have := List.mem_range.mp hi
        exact small_good (by omega) (by omega)
      have ll0 : l0.length = mm + 1 := by rw [el0, List.length_map, List.length_range]
      have wl0 := words_le lg0 (by omega)
      refine ⟨" ", L, l0.map numS, rfl, rfl, .inl (sq_of hL), wl0.1, ?_⟩
      have h1 := h.ex e1
      refine ⟨_, rfl, _, _, _, rfl, h1.ob, rfl, D, hs, rs, g, "wanted", rfl, h1, sd, .inr (.inr (.inl ⟨by decide +kernel, looksM g.asked, by (unfold askedM; rw [if_neg (by decide +kernel), if_neg (by decide +kernel), if_neg (by decide +kernel), if_pos rfl]), fun H2 e2 => ?_⟩))⟩
      have e02 := e1.trans e2
      obtain ⟨W, A⟩ := sd.wf
      have ag := W.asksGood A
      refine ⟨fun σ' H' => Ex H H' ∧ ∃ l v6 v7 v9 v10 v11, l ≠ [] ∧ (∀ n ∈ l, good n) ∧ l.length ≤ 100 ∧ σ' = [some (.ref D.p), some (.int many), some (.int a), some (.int b), some (.int c), some (.int kind), v6, v7, some (.str (wordsM l)), v9, v10, v11], ?_, ?_⟩
      · refine if_and (decide (kind < 10)) (decide (¬ looksM g.asked = "none")) (fun Q' q => ⟨_, rfl, _, _, rfl, rfl, _, rfl, q⟩) (fun _ Q' q => ⟨_, rfl, rfl, _, rfl, by rw [eq_str, not_decide]; exact q⟩) ?_
        rw [← Bool.decide_and]
        refine ite2 (fun c4 => ?_) (fun c4 => ?_)
        · have c5 := (dt c4).2
          have ane : g.asked ≠ [] := fun z => c5 (by unfold looksM; rw [if_pos z])
          have lne : 0 < g.asked.length := List.length_pos_iff.mpr ane
          have ejn : looksM g.asked = Txt.join "; " (g.asked.map wordsM) := by unfold looksM; rw [if_neg ane]
          have t59 : tl ("; " : Str) = 59 :: [32] := by decide +kernel
          have esp : Txt.split (looksM g.asked) "; " = g.asked.map wordsM := by
            rw [ejn]
            refine split_join (y := "; ") t59 (by decide +kernel) (by simpa using ane) fun z hz => ?_
            obtain ⟨l, hl, rfl⟩ := List.mem_map.mp hz
            intro hm
            rcases join_mem hm with y | ⟨w, hw, y⟩
            · rw [sp32] at y; simp at y
            · obtain ⟨n, hn, rfl⟩ := List.mem_map.mp hw
              exact numS_free ((ag.1 l hl).1 n hn).1 (.inr (by decide)) y
          have wlen : (looksM g.asked).length + 2 ≤ sizeLine := by
            have h1 := looks_le ag
            have h2 := join_len "; " (g.asked.map wordsM)
            have h3 := sum_le (ps := g.asked.map wordsM) (m := 1300) fun z hz => by
              obtain ⟨l, hl, rfl⟩ := List.mem_map.mp hz
              have := ag.1 l hl
              have := (words_le this.1 (by omega)).2
              omega
            have h4 := ag.2
            rw [ejn, sizeLine_eq]
            rw [show ("; " : Str).length = 2 by decide +kernel] at h2
            rw [List.length_map] at h2 h3
            omega
          refine ⟨_, rfl, ⟨_, rfl⟩, _, "; ", rfl, rfl, by decide +kernel, wlen, fun lp nlp => ?_⟩
          rw [esp]
          have el2 := Ex.new (o := .lst ((g.asked.map wordsM).map V.str)) nlp
          have hlp : upd H2 lp (.lst ((g.asked.map wordsM).map V.str)) lp = some (.lst ((g.asked.map wordsM).map V.str)) := upd_same
          have b3 := mix_bd (n := b) (p := 30011) (m := (g.asked.length : Int)) (by omega)
          refine ⟨_, rfl, _, rfl, _, rfl, lp, _, rfl, .inl (sq_of hlp), b, 30011, _, rfl, by decide, by rw [List.length_map, List.length_map]; omega, ?_⟩
          rw [List.length_map, List.length_map]
          obtain ⟨j, ej⟩ : ∃ j : Nat, mixM b 30011 (g.asked.length : Int) = (j : Int) := ⟨(mixM b 30011 (g.asked.length : Int)).toNat, by omega⟩
          have jl : j < g.asked.length := by omega
          rw [ej]
          have hat : atI ((g.asked.map wordsM).map V.str) (j : Int) = some (.str (wordsM g.asked[j])) := by
            unfold atI
            rw [ixN_nat (by rw [List.length_map, List.length_map]; exact jl)]
            show ((g.asked.map wordsM).map V.str)[j]? = _
            rw [List.getElem?_map, List.getElem?_map, List.getElem?_eq_getElem jl]
            rfl
          refine ⟨lp, _, _, _, rfl, rfl, sq_of hlp, hat, ?_⟩
          have hm := List.getElem_mem jl
          obtain ⟨kk, k1, k2, k3⟩ := A.1 _ hm
          refine ⟨e02.trans el2, g.asked[j], _, _, _, _, _, ?_, (ag.1 _ hm).1, (ag.1 _ hm).2, rfl⟩
          rw [k3]
          intro z
          have h5 : (g.top ++ g.upon.take kk).length = 0 := by rw [show g.top ++ g.upon.take kk = [] from z]; rfl
          rw [List.length_append, List.length_take] at h5
          omega
        · exact ⟨e02, l0, _, _, _, _, _, by intro z; rw [z] at ll0; simp at ll0, lg0, by omega, rfl⟩
      · rintro σ' H3 ⟨e3, l, v6, v7, v9, v10, v11, lne, lg, ll, rfl⟩
        refine ⟨by show 5 ≤ sizeLine; decide, fun al nal => ?_⟩
        have ea := Ex.new (o := .lst (ansS.map V.str)) nal
        have b5 := mix_bd (n := c) (p := 20011) (m := 5) (by decide)
        obtain ⟨an, han⟩ := ans_at b5.1 b5.2
        refine ⟨_, rfl, c, 20011, 5, rfl, by decide, by decide, al, ansS.map V.str, _, _, rfl, rfl, sq_of upd_same, han, ?_⟩
        have al2 : (aS an).length ≤ 6 := by cases an <;> decide +kernel
        have wl := (words_le lg (by omega)).2
        refine ⟨_, rfl, _, _, rfl, rfl, by rw [len_app, one_len, sizeLine_eq]; omega, ?_⟩
        rw [ans_text an lne]
        exact k _ _ (e3.trans ea) (.inr ⟨_, rfl, ⟨lne, lg, ll⟩, trivial⟩)
    · refine ⟨_, rfl, rfl, _, rfl, ?_⟩
      rw [dec_int]
      refine ite2 (fun c3 => ?_) (fun c3 => ?_)
      · have wb := mix_bd (n := b) (p := 30011) (m := many + 2) (by omega)
        have wg : good (mixM b 30011 (many + 2)) := small_good wb.1 (by omega)
        have wl := (numS_len wg).1
        refine ⟨_, rfl, _, rfl, _, _, rfl, rfl, b, 30011, many + 2, rfl, by decide, by omega, _, rfl, good_log wg, _, _, rfl, rfl, by rw [show ("withdraw " : Str).length = 9 by decide +kernel, sizeLine_eq]; show 9 + (numS _).length ≤ _; omega, ?_⟩
        have e : shownM (.withdraw (mixM b 30011 (many + 2))) = "withdraw " ++ numS (mixM b 30011 (many + 2)) := by
          unfold shownM toks
          rw [join_two]
          congr 1
        have := k _ H (Ex.refl _) (.inr ⟨.withdraw (mixM b 30011 (many + 2)), rfl, wg, trivial⟩)
        rw [e] at this
        exact this
      · have c4 := df c3
        have c5 := df c2
        have hk : kind = 12 ∨ kind = 13 ∨ kind = 14 := by omega
        refine ⟨by show 3 ≤ sizeLine; decide, fun al nal => ?_⟩
        have ea := Ex.new (o := .lst [.str "stop", .str "go", .str "back"]) nal
        refine ⟨_, rfl, _, _, rfl, rfl, al, [.str "stop", .str "go", .str "back"], kind - 12, ?_⟩
        rcases hk with e | e | e
        · refine ⟨.str "stop", rfl, rfl, sq_of upd_same, by rw [e]; exact atI_zero _ _, k _ _ ea (.inr ⟨.stop, (join_one _ _).symm, trivial, trivial⟩)⟩
        · refine ⟨.str "go", rfl, rfl, sq_of upd_same, by rw [e]; exact atI_1 _ _ _, k _ _ ea (.inr ⟨.go, (join_one _ _).symm, trivial, trivial⟩)⟩
        · refine ⟨.str "back", rfl, rfl, sq_of upd_same, by rw [e]; exact atI_2 _ _ _ _, k _ _ ea (.inl rfl)⟩
end LG

set_option Elab.async false
set_option linter.all false
set_option maxRecDepth 100000
set_option maxHeartbeats 4000000
/-! Plain laws: what is shown is made of laid signs. -/
namespace LG
open PySem PySem.Spec L2 Evl TL
def Lo (z : Str) : Prop := ∀ c ∈ tl z, c < 1114112
theorem Lo.ok {z : Str} (h : Lo z) : PyData.strOk z = true := strOk_tl h
theorem Lo.of {z : Str} (h : PyData.strOk z = true) : Lo z := fun c hc => by
  have h' : z.cps.all (· < 0x110000) = true := h
  rw [← Array.all_toList, List.all_eq_true] at h'
  exact of_decide_eq_true (h' c hc)
theorem Lo.app {a b : Str} (h1 : Lo a) (h2 : Lo b) : Lo (a ++ b) := fun c hc => by
  rw [tl_append] at hc
  exact (List.mem_append.mp hc).elim (h1 c) (h2 c)
theorem Lo.join {y : Str} {ps : List Str} (h1 : Lo y) (h2 : ∀ p ∈ ps, Lo p) : Lo (Txt.join y ps) := fun c hc => by
  rcases join_mem hc with z | ⟨p, hp, z⟩
  · exact h1 c z
  · exact h2 p hp c z
theorem Lo.num {i : Int} (h : good i) : Lo (numS i) := .of (numS_ok h.1)
theorem Lo.lit {z : Str} (h : PyData.strOk z = true) : Lo z := .of h
theorem lo_sp : Lo " " := .lit (by decide +kernel)
theorem lo_none : Lo "none" := .lit (by decide +kernel)
theorem lo_words {ns : List Int} (h : ∀ n ∈ ns, good n) : Lo (wordsM ns) := lo_sp.join fun p hp => by
  obtain ⟨n, hn, rfl⟩ := List.mem_map.mp hp
  exact .num (h n hn)
theorem lo_some {ns : List Int} (h : ∀ n ∈ ns, good n) : Lo (someM ns) := by
  unfold someM
  split
  · exact lo_none
  · exact lo_words h
theorem lo_looks {ls : List (List Int)} (h : goodLs ls) : Lo (looksM ls) := by
  unfold looksM
  split
  · exact lo_none
  · refine Lo.join (.lit (by decide +kernel)) fun p hp => ?_
    obtain ⟨l, hl, rfl⟩ := List.mem_map.mp hp
    exact lo_words (h.1 l hl).1
theorem lo_sheet {s : List (Int × Int)} (h : ∀ p ∈ s, good p.1 ∧ good p.2) : Lo (sheetT s) := by
  unfold sheetT
  split
  · exact lo_none
  · refine Lo.join lo_sp fun p hp => ?_
    obtain ⟨q, hq, rfl⟩ := List.mem_map.mp hp
    exact ((Lo.num (h q hq).1).app (.lit (by decide +kernel))).app (.num (h q hq).2)
theorem lo_row {r : Row} (h : goodR r) : Lo (shownM r) := lo_sp.join fun p hp => .of (toks_nosp h p hp).2
theorem lo_aS (a : Ans) : Lo (aS a) := by cases a <;> exact .lit (by decide +kernel)
theorem lo_wS (w : Option Ans) : Lo (wS w) := by
  cases w with
  | none => exact .lit (by decide +kernel)
  | some a => exact lo_aS a
theorem lo_ground {r : Ground} (h : goodG r) : Lo (groundM r) := by
  cases r with
  | withdrawn => exact .lit (by decide +kernel)
  | leans n =>
    show Lo (Txt.join " " ["leans", numS n])
    refine lo_sp.join fun p hp => ?_
    have : p = "leans" ∨ p = numS n := by simpa using hp
    rcases this with e | e
    · rw [e]; exact .lit (by decide +kernel)
    · rw [e]; exact .num h
  | look gd l w => exact ((lo_wS w).app lo_sp).app (lo_words h.1)
  | unfit s =>
    cases s with
    | none => exact .lit (by decide +kernel)
    | some i =>
      show Lo (Txt.join " " ["unfit", numS i])
      refine lo_sp.join fun p hp => ?_
      have : p = "unfit" ∨ p = numS i := by simpa using hp
      rcases this with e | e
      · rw [e]; exact .lit (by decide +kernel)
      · rw [e]; exact .num (h i rfl)
theorem lo_two {z : Str} {n : Int} (h1 : Lo z) (h2 : good n) : Lo (Txt.join " " [z, numS n]) := lo_sp.join fun p hp => by
  have : p = z ∨ p = numS n := by simpa using hp
  rcases this with e | e
  · rw [e]; exact h1
  · rw [e]; exact .num h2
theorem lo_reason {r : Reason} (h : goodRs r) : Lo (reasonM r) := by
  cases r with
  | inn p => exact lo_two (.lit (by decide +kernel)) h
  | out g => exact Lo.app (.lit (by decide +kernel)) (lo_ground h)
  | laid p => exact lo_two (.lit (by decide +kernel)) h
  | stopped => exact .lit (by decide +kernel)
  | leans ns => exact Lo.app (.lit (by decide +kernel)) (lo_words h.1)
  | halving p => exact lo_two (.lit (by decide +kernel)) h
  | unfit s => exact lo_two (.lit (by decide +kernel)) h
  | turn n => exact lo_two (.lit (by decide +kernel)) h
end LG

set_option Elab.async false
set_option linter.all false
set_option maxRecDepth 100000
set_option maxHeartbeats 4000000
namespace LG
open PySem PySem.Spec L2 Evl
open PyProof.Rows hiding St
variable {P : Program} {w : World} {K : PySem.W.Frag} {mg : Str → Option Value} {base : Heap}

open TL
theorem shot_ok {hs : Hs} {rs : List Row} {g : GS} (s : Sd hs rs g) : ∀ z ∈ shotM rs g, PyData.strOk z = true := by
  obtain ⟨W, A⟩ := s.wf
  have G := s.gi
  intro z hz
  refine Lo.ok ?_
  rcases List.mem_append.mp hz with hz | hz
  · obtain ⟨w, hw, rfl⟩ := List.mem_map.mp hz
    have hq' : w = "line" ∨ w = "laid" ∨ w = "waiting" ∨ w = "wanted" ∨ w = "sheet" ∨ w = "book" := by simpa [queries] using hw
    unfold askedM
    split
    · exact lo_some W.topGood.1
    split
    · exact lo_some W.uponGood.1
    split
    · exact lo_some W.queueGood.1
    split
    · exact lo_looks (W.asksGood A)
    split
    · exact lo_sheet (G.sheetGood W).1
    split
    · refine Lo.join (.lit (by decide +kernel)) fun p hp => ?_
      obtain ⟨r, hr, rfl⟩ := List.mem_map.mp hp
      exact lo_row (s.sm r hr).2
    · exact .lit (by decide +kernel)
  · obtain ⟨i, hi, rfl⟩ := List.mem_map.mp hz
    unfold whyS
    split
    · exact .lit (by decide +kernel)
    · rename_i r e
      exact lo_reason (G.whyGood W _ r e)
theorem Fr.exD {F F' : List Addr} {H0 H H' : Hp} (f : Fr F F' H H') (e : Ex H0 H) (n : ∀ b ∈ F, H0 b = none) : Ex H0 H' ∧ ∀ b ∈ F', H0 b = none :=
  ⟨fun b o h => f.out b o (e b o h) fun m => (by rw [n b m] at h; cases h), fun b m => (f.new b m).elim (n b) fun z => fresh_back e z⟩
def sp_law (K : PySem.W.Frag) : Sp := fun vs H Q _ => ∃ a, ∃ xs : List Int, vs = [.ref a] ∧ SqL K H a (xs.map V.int) ∧ ∀ H', Q (.bl true) H'
abbrev N_law : List Str := ["_law_script", "_law_desk", "_law_rows", "_law_k", "_law_book", "_law_again", "_law_backs", "_law_third", "_law_line_here", "_law_a", "_law_b", "_law_c", "_law_one"]
theorem sc_law : FnScope N_law ["_law_script"] (defScope s_law) := ⟨rfl, rfl, rfl, by decide +kernel, rfl, by decide +kernel, by decide +kernel⟩
-- slots: 0:_law_script 1:_law_desk 2:_law_rows 3:_law_k 4:_law_book 5:_law_again 6:_law_backs 7:_law_third 8:_law_line_here 9:_law_a 10:_law_b 11:_law_c 12:_law_one
/-- THE RULE for the law's def: one function object for every base -/
theorem Tx.okB {K : PySem.W.Frag} {mg : Str → Option Value} (T : Tx K mg) {P : Program} {w : World} (i : Nat) {d : He.DefD} (hd : fn[i]? = some d) {N ps : List Str} {k : Nat} {sp : Sp} (hdf : d.dfl = []) (hkw : d.kwd = []) (S : FnScope N ps d.scope) (len : ∀ vs H Q E, sp vs H Q E → vs.length = ps.length)
    (hb : ∀ (kV doc pm : Value) (an : Option Addr) (cdv ct : Value) (us : List Value), us.length = ps.length → bindArgs (PySem.W.fnOf d.name d.qual d.params d.body d.scope .none kV doc pm an cdv ct) ⟨us, []⟩ = pure (ps.zip us))
    (hbody : ∀ (base : Heap) (cdv : Value) (A : Around) (outer : List Env) (s : Shared) (H : Hp) (vs : List V) (Q : VK) (E : XK), Room k (A.deeper (envOfC d.qual d.scope s.heap.objs.size (He.fAd K d.at_) cdv)) → sp vs H Q E →
      ∃ t, PSs (cxOf (L2.CX P w) P w K mg base N d.qual d.scope (He.fAd K d.at_) cdv A outer s H E) d.body t ∧ t { nx := fun _ H' => Q .non H', rt := Q } (start N vs) H) :
    ∃ fd : FuncData, (∀ (s : Shared) (us : List Value), us.length = ps.length → BindsTo s fd ⟨us, []⟩ (ps.zip us)) ∧ ∀ base : Heap, FnOk P w K mg base (L2.CX P w) (k + 1) (He.fAd K d.at_) fd ps sp := by
  obtain ⟨fd, F⟩ := T.says.def_ i hd
  have e1 : d.dvs K = [] := by unfold He.DefD.dvs; rw [hdf]; rfl
  have e2 : d.kws K = [] := by unfold He.DefD.kws; rw [hkw]; rfl
  rw [e1, e2] at F
  exact ⟨fd, F.bindsA hb, fun base => F.ok S len (hbody base)⟩
theorem law_fn (T : Tx K mg) : ∃ fd : FuncData, (∀ (s : Shared) (us : List Value), us.length = (["_law_script"] : List Str).length → BindsTo s fd ⟨us, []⟩ ((["_law_script"] : List Str).zip us)) ∧ ∀ base : Heap, FnOk P w K mg base (L2.CX P w) 17 (He.fAd K ("law", none)) fd ["_law_script"] (sp_law K) := by
  refine T.okB 87 rfl (N := N_law) rfl rfl sc_law (fun vs H Q E h => ?_) (fun _ _ _ _ _ _ us hl => match us, hl with | [_], _ => rfl) (fun base cdv A outer s H vs Q E hr h => ?_)
  · obtain ⟨_, _, rfl, _⟩ := h
    rfl
  have hu := hu_of hr
  obtain ⟨a, xs, rfl, ha, q⟩ := h
  refine ⟨_, (pss_cons (ps_set (i := 1) sc_law.nd rfl (by first | exact Or.inl rfl | exact Or.inr rfl) (pe_f (ok_l_new T) hr T.g_l_new passL (pa_cons (pv 0) pa_nil)))
 (pss_cons (ps_set (i := 2) sc_law.nd rfl (by first | exact Or.inl rfl | exact Or.inr rfl) (pe_lst pa_nil))
 (pss_cons (ps_for (passes_of rfl) rfl (pi_range1 (by rfl) T.b_range (pa_cons (pe_f (ok_l_turns_of T) hr T.g_l_turns_of passL (pa_cons (pv 0) pa_nil)) pa_nil)) (pg_name (i := 3) sc_law.nd rfl (by first | exact Or.inl rfl | exact Or.inr rfl))
  (pss_cons (ps_asg (pe_f (ok_l_three T) hr T.g_l_three passL (pa_cons (pv 0) (pa_cons (pv 3) pa_nil))) (ktup K 3 (pgs_cons (pg_name (i := 9) sc_law.nd rfl (by first | exact Or.inl rfl | exact Or.inr rfl)) (pgs_cons (pg_name (i := 10) sc_law.nd rfl (by first | exact Or.inl rfl | exact Or.inr rfl)) (pgs_cons (pg_name (i := 11) sc_law.nd rfl (by first | exact Or.inl rfl | exact Or.inr rfl)) pgs_nil)))))
 (pss_cons (ps_set (i := 8) sc_law.nd rfl (by first | exact Or.inl rfl | exact Or.inr rfl) (pe_f (ok_l_line T) hr T.g_l_line passL (pa_cons (pv 1) (pa_cons (pe_callB (klen K) (by rfl) T.b_len (by decide +kernel) (pa_cons (pe_lc (own := [("_law_one", 12)]) (by rfl) sc_law.nd (kseq K (pv 2)) (blkOk_by (N := N_law) (sc := defScope s_law) (by decide +kernel)) (fun _ _ _ _ _ => (pg_name (i := 12) sc_law.nd rfl (by first | exact Or.inl rfl | exact Or.inr rfl))) (fun _ _ _ _ _ => (pts_one (pt_cmpR op_eq (pe_slice sl_str (pv 12) po_none (po_some pe_int)) pe_str (nomark _)))) (fun _ _ _ _ _ => (pv 12))) pa_nil)) (pa_cons (pv 9) (pa_cons (pv 10) (pa_cons (pv 11) pa_nil)))))))
 (pss_one (ps_if (pt_val (pe_f (ok_l_said T) hr T.g_l_said passL (pa_cons (pv 1) (pa_cons (pv 8) pa_nil)))) (pss_cons (ps_expr (kbm K PySem.F.plainAttrs_list PySem.F.slot_list_append PySem.F.type_list_append mt_append (pv 2) (pa_cons (pv 8) pa_nil)))
 (pss_one (ps_if (pt_cmpR op_eq (pv 8) pe_str (nomark _)) (pss_one (ps_set (i := 2) sc_law.nd rfl (by first | exact Or.inl rfl | exact Or.inr rfl) (pe_slice (ksll K) (pv 2) po_none (po_some (pe_un un_neg pe_int))))) pss_nil))) pss_nil)))))
 (pss_cons (ps_set (i := 4) sc_law.nd rfl (by first | exact Or.inl rfl | exact Or.inr rfl) (pe_m (pv 1) (ok_Desk_say T) T.c_Desk T.m_Desk_say hr passL (pa_cons pe_str pa_nil)))
 (pss_cons (ps_if (pt_cmpR op_ne (pv 4) (kjoin K pe_str (pv 2)) (nomark _)) (pss_one (ps_ret pe_bl)) pss_nil)
 (pss_cons (ps_set (i := 5) sc_law.nd rfl (by first | exact Or.inl rfl | exact Or.inr rfl) (pe_f (ok_l_told T) hr T.g_l_told passL (pa_cons (pv 0) (pa_cons (pv 2) pa_nil))))
 (pss_cons (ps_if (PW.pt (pw_or (pt_cmpR op_isN (pv 5) pe_non (nomark _)) (pw_or1 (pt_cmpR (kne K hr) (pe_f (ok_l_shot T) hr T.g_l_shot passL (pa_cons (pv 5) pa_nil)) (pe_f (ok_l_shot T) hr T.g_l_shot passL (pa_cons (pv 1) pa_nil)) (nomark _))))) (pss_one (ps_ret pe_bl)) pss_nil)
 (pss_cons (ps_set (i := 6) sc_law.nd rfl (by first | exact Or.inl rfl | exact Or.inr rfl) (pe_op op_mod (pe_f (ok_l_cell_at T) hr T.g_l_cell_at passL (pa_cons (pv 0) (pa_cons pe_int pa_nil))) (pe_op op_add (pe_callB (klen K) (by rfl) T.b_len (by decide +kernel) (pa_cons (pv 2) pa_nil)) pe_int)))
 (pss_cons (ps_for (passes_of rfl) rfl (pi_range1 (by rfl) T.b_range (pa_cons (pv 6) pa_nil)) (pg_name (i := 3) sc_law.nd rfl (by first | exact Or.inl rfl | exact Or.inr rfl))
  (pss_one (ps_if (PW.pt (pw_or (pt_cmpR op_ne (pe_m (pv 1) (ok_Desk_say T) T.c_Desk T.m_Desk_say hr passL (pa_cons pe_str pa_nil)) pe_str (nomark _)) (pw_or1 (pt_cmpR op_ne (pe_m (pv 5) (ok_Desk_say T) T.c_Desk T.m_Desk_say hr passL (pa_cons pe_str pa_nil)) pe_str (nomark _))))) (pss_one (ps_ret pe_bl)) pss_nil)))
 (pss_cons (ps_set (i := 7) sc_law.nd rfl (by first | exact Or.inl rfl | exact Or.inr rfl) (pe_f (ok_l_told T) hr T.g_l_told passL (pa_cons (pv 0) (pa_cons (pe_slice (ksll K) (pv 2) po_none (po_some (pe_op op_sub (pe_callB (klen K) (by rfl) T.b_len (by decide +kernel) (pa_cons (pv 2) pa_nil)) (pv 6)))) pa_nil))))
 (pss_one (ps_ret (pe_and (pe_cmpR op_notN (pv 7) pe_non (nomark _)) (pe_and (pe_cmpR (keq K hr) (pe_f (ok_l_shot T) hr T.g_l_shot passL (pa_cons (pv 7) pa_nil)) (pe_f (ok_l_shot T) hr T.g_l_shot passL (pa_cons (pv 1) pa_nil)) (nomark _)) (pe_one (pe_cmpR (keq K hr) (pe_f (ok_l_shot T) hr T.g_l_shot passL (pa_cons (pv 5) pa_nil)) (pe_f (ok_l_shot T) hr T.g_l_shot passL (pa_cons (pv 1) pa_nil)) (nomark _))))))))))))))))), ?_⟩
  refine ⟨_, rfl, a, xs, rfl, ha, fun D H1 e1 fd hd => ?_⟩
  refine ⟨Nat.zero_le _, fun rw0 nrw => ?_⟩
  have er := Ex.new (o := .lst []) nrw
  have hrw0 : upd H1 rw0 (.lst []) rw0 = some (.lst []) := upd_same
  have nrf : rw0 ∉ footD D := fun m => hd.there rw0 m nrw
  have hd2 := hd.ex er
  have e2 := e1.trans er
  have s0 : Sd (hsM xs) [] (hsM xs).new := ⟨hsM_ok xs, rfl, Nat.zero_le _, fun r hr => by cases hr⟩
  have nrw0 := fresh_back e1 nrw
  clear hd nrw
  generalize upd H1 rw0 (.lst []) = H2 at er hrw0 hd2 e2 ⊢
  refine ⟨_, rfl, a, xs, rfl, ex_l e2 ha, fun t t0 t20 => ?_⟩
  refine ⟨t, rfl, by omega, by omega, ?_⟩
  refine for_range (fun i σ' H' => ∃ D1 rs g1 rw v3 v8 v9 v10 v11, σ' = [some (.ref a), some (.ref D.p), some (.ref rw), v3, none, none, none, none, v8, v9, v10, v11, none] ∧ D1.p = D.p ∧ DkAt K H' D1 (hsM xs) rs g1 ∧ Sd (hsM xs) rs g1 ∧ rs.length ≤ i ∧ H' rw = some (.lst ((rs.map shownM).map V.str)) ∧ rw ∉ footD D1 ∧ Ex H H' ∧ (∀ b ∈ footD D1, H b = none) ∧ H rw = none)
    ⟨D, [], _, rw0, none, none, none, none, none, rfl, rfl, hd2, s0, Nat.le_refl _, hrw0, nrf, e2, fd, nrw0⟩ ?_ ?_
  · rintro i σ' H3 hi ⟨D1, rs, g1, rw, v3, v8, v9, v10, v11, rfl, ep, hd3, s3, rl, hrw, nrw, e3, fd3, nrwH⟩
    rw [← ep]
    have i20 : i < 20 := by omega
    refine ⟨_, rfl, _, rfl, a, xs, _, rfl, ex_l e3 ha, by omega, by omega, fun p x y z H4 e4 hp => ?_⟩
    refine ⟨p, _, rfl, st_of hp, rfl, _, _, rfl, _, _, rfl, _, _, rfl, rfl, ?_⟩
    have e04 := e3.trans e4
    have hd4 := hd3.ex e4
    have hrw4 := e4 _ _ hrw
    refine ⟨_, rfl, _, rfl, lc_d (K := K) ((rs.map shownM).map V.str) rs (fun r => if decide (V.str (cutS (shownM r) none (some 3)) = V.str "ask") = true then some (.str (shownM r)) else none) (by rw [List.length_map, List.length_map]) (by have := s3.sz; omega) (.inl (sq_of hrw4)) ?_ ?_ ?_⟩
    · intro r e he
      split at he
      · cases he; rfl
      · cases he
    · intro r v H5 Yes No e5 hr i' hv hi' yes no
      rw [List.map_map, List.getElem?_map, hi'] at hv
      cases hv
      have rlen := len_row (s3.sm r hr).2 (s3.sm r hr).1
      refine ⟨rfl, _, rfl, 3, rfl, _, rfl, by rw [sizeLine_eq]; show (shownM r).length ≤ _; omega, rfl, _, rfl, ?_⟩
      show if decide (V.str (cutS (shownM r) none (some 3)) = V.str "ask") = true then _ else _
      by_cases c : V.str (cutS (shownM r) none (some 3)) = V.str "ask"
      · rw [decide_eq_true c]
        exact iteT ⟨_, rfl, yes _ _ _ (Ex.refl _) (by rw [decide_eq_true c]; rfl) (.str _)⟩
      · rw [decide_eq_false c]
        exact iteF (no _ (Ex.refl _) (by rw [decide_eq_false c]; rfl))
    intro L ys H5 nL e5 hL hpL
    have yl : ys.length ≤ 20 := by
      rw [hpL.len]
      exact Nat.le_trans (List.length_filterMap_le _ _) s3.sz
    have e45 := e4.trans e5
    have hd5 := hd3.ex e45
    have e05 := e3.trans e45
    have hrw5 := e45 _ _ hrw
    refine ⟨L, ys, rfl, .inl (sq_of hL), _, rfl, _, rfl, _, rfl, D1, hsM xs, rs, g1, _, x, y, z, rfl, hd5, s3, by omega, by omega, fun text H6 e6 hok => ?_⟩
    have hd6 := hd5.ex e6
    have e06 := e05.trans e6
    have hrw6 := e6 _ _ hrw5
    have rlen : ((rs.map shownM).map V.str).length < sizeLine := by rw [List.length_map, List.length_map, sizeLine_eq]; omega
    rcases hok with rfl | ⟨r, rfl, hg, hsm⟩
    · refine ⟨_, rfl, _, rfl, D1, hsM xs, rs, g1, "back", rfl, hd6, s3, .inl ⟨rfl, fun ern H7 e7 => ⟨_, rfl, iteF ⟨D1, rs, g1, rw, _, _, _, _, _, rfl, rfl, hd6.ex e7, s3, by omega, e7 _ _ hrw6, nrw, e06.trans e7, fd3, nrwH⟩⟩, fun rs' r ers g' s' D' H7 ep7 hd7 f7 => ⟨_, rfl, iteT ?_⟩⟩⟩
      obtain ⟨e07, fd7⟩ := f7.exD e06 fd3
      have hrw7 := f7.out _ _ hrw6 nrw
      have nrw7 : rw ∉ footD D' := fun m => (f7.new _ m).elim nrw fun z => by rw [hrw6] at z; cases z
      refine ⟨_, rfl, .inl ⟨rfl, _, sq_of hrw7⟩, _, rfl, rw, _, _, rfl, rfl, hrw7, rlen, ?_⟩
      have hd8 : DkAt K (upd H7 rw (.lst ((rs.map shownM).map V.str ++ [.str "back"]))) D' (hsM xs) rs' g' := hd7.fr (Fr.upd (F := [rw]) (by simp) hrw7 rfl) fun b m1 m2 => nrw7 (by rw [List.mem_singleton.mp m1] at m2; exact m2)
      have e08 : Ex H (upd H7 rw (.lst ((rs.map shownM).map V.str ++ [.str "back"]))) := Ex.mut e07 nrwH
      have hrw8 : upd H7 rw (.lst ((rs.map shownM).map V.str ++ [.str "back"])) rw = some (.lst (((rs.map shownM) ++ [("back" : Str)]).map V.str)) := by rw [upd_same, List.map_append]; rfl
      generalize upd H7 rw (.lst ((rs.map shownM).map V.str ++ [.str "back"])) = H8 at hd8 e08 hrw8 ⊢
      refine ⟨_, rfl, rfl, _, rfl, ?_⟩
      rw [dss]
      refine iteT ⟨_, rfl, 2, rfl, _, rfl, rw, _, rfl, sq_of hrw8, fun u nu => ?_⟩
      have ec : cutV (((rs.map shownM) ++ [("back" : Str)]).map V.str) none (some (-2)) = (rs'.map shownM).map V.str := by
        rw [cutV_none, if_neg (by decide)]
        congr 1
        subst ers
        rw [List.length_append, List.length_map, List.length_append, List.map_append]
        show List.take (rs'.length + 1 + 1 - 2) ((rs'.map shownM ++ [shownM r]) ++ [("back" : Str)]) = _
        rw [List.append_assoc, show rs'.length + 1 + 1 - 2 = (rs'.map shownM).length by rw [List.length_map]; omega, List.take_left]
      rw [show (-2 : Int) = -(2 : Int) from rfl] at ec
      rw [ec]
      have eu := Ex.new (o := .lst ((rs'.map shownM).map V.str)) nu
      refine ⟨D', rs', g', u, _, _, _, _, _, rfl, ep7, hd8.ex eu, s', ?_, upd_same, fun m => hd8.there u m nu, e08.trans eu, fd7, fresh_back e08 nu⟩
      rw [ers, List.length_append] at rl
      simp at rl
      omega
    · refine ⟨_, rfl, _, rfl, D1, hsM xs, rs, g1, shownM r, rfl, hd6, s3, .inr ⟨r, rfl, hg, hsm, by omega, fun er he H7 e7 => ⟨_, rfl, iteF ⟨D1, rs, g1, rw, _, _, _, _, _, rfl, rfl, hd6.ex e7, s3, by omega, e7 _ _ hrw6, nrw, e06.trans e7, fd3, nrwH⟩⟩, fun g' t' hst s' D' H7 ep7 hd7 f7 => ⟨_, rfl, iteT ?_⟩⟩⟩
      obtain ⟨e07, fd7⟩ := f7.exD e06 fd3
      have hrw7 := f7.out _ _ hrw6 nrw
      have nrw7 : rw ∉ footD D' := fun m => (f7.new _ m).elim nrw fun z => by rw [hrw6] at z; cases z
      refine ⟨_, rfl, .inl ⟨rfl, _, sq_of hrw7⟩, _, rfl, rw, _, _, rfl, rfl, hrw7, rlen, ?_⟩
      have hd8 : DkAt K (upd H7 rw (.lst ((rs.map shownM).map V.str ++ [.str (shownM r)]))) D' (hsM xs) (rs ++ [r]) g' := hd7.fr (Fr.upd (F := [rw]) (by simp) hrw7 rfl) fun b m1 m2 => nrw7 (by rw [List.mem_singleton.mp m1] at m2; exact m2)
      have e08 : Ex H (upd H7 rw (.lst ((rs.map shownM).map V.str ++ [.str (shownM r)]))) := Ex.mut e07 nrwH
      have hrw8 : upd H7 rw (.lst ((rs.map shownM).map V.str ++ [.str (shownM r)])) rw = some (.lst (((rs ++ [r]).map shownM).map V.str)) := by rw [upd_same, List.map_append, List.map_append]; rfl
      refine ⟨_, rfl, rfl, _, rfl, ?_⟩
      rw [dsn (row_ne hg (by decide +kernel) (by decide +kernel) (by decide +kernel))]
      exact iteF ⟨D', rs ++ [r], g', rw, _, _, _, _, _, rfl, ep7, hd8, s', by rw [List.length_append]; simp; omega, hrw8, nrw7, e08, fd7, nrwH⟩
  · rintro σ' H3 ⟨D1, rs, g1, rw, v3, v8, v9, v10, v11, rfl, ep, hd3, s3, rl, hrw, nrw, e3, fd3, nrwH⟩
    rw [← ep]
    clear hd2 hrw0 nrf er rl
    have sz := s3.sz
    have bk := book_le s3.sm (by omega)
    -- the book
    refine ⟨_, rfl, _, _, _, rfl, hd3.ob, rfl, D1, hsM xs, rs, g1, "book", rfl, hd3, s3, .inr (.inr (.inl ⟨by decide +kernel, Txt.join "\n" (rs.map shownM), by (unfold askedM; rw [if_neg (by decide +kernel), if_neg (by decide +kernel), if_neg (by decide +kernel), if_neg (by decide +kernel), if_neg (by decide +kernel), if_pos rfl]), fun H4 e4 => ?_⟩))⟩
    have hd4 := hd3.ex e4
    have hrw4 := e4 _ _ hrw
    have e04 := e3.trans e4
    refine ⟨_, rfl, ⟨_, rfl⟩, _, rfl, "\n", rw, rs.map shownM, rfl, rfl, .inl (sq_of hrw4), bk, rfl, _, rfl, ?_⟩
    rw [dss]
    refine iteF ⟨_, rfl, _, rfl, a, rw, xs, rs, g1, rfl, ex_l e04 ha, hrw4, s3, fun D2 H5 e5 fd2 hd5 => ?_⟩
    have e05 := e04.trans e5
    have hdA := hd4.ex e5
    have hrw5 := e5 _ _ hrw4
    have apt : ∀ b, b ∈ footD D2 → b ∈ footD D1 → False := fun b m1 m2 => hd4.there b m2 (fd2 b m1)
    have nrw2 : rw ∉ footD D2 := fun m => by have := fd2 rw m; rw [hrw4] at this; cases this
    have fdH2 : ∀ b ∈ footD D2, H b = none := fun b m => fresh_back e04 (fd2 b m)
    -- the two shots
    refine ⟨_, rfl, rfl, _, rfl, iteF ?_⟩
    refine ⟨_, rfl, D2, hsM xs, rs, g1, rfl, hd5, s3, fun l1 H6 nl1 e6 hl1 => ?_⟩
    refine ⟨_, rfl, D1, hsM xs, rs, g1, rfl, hdA.ex e6, s3, fun l2 H7 nl2 e7 hl2 => ?_⟩
    obtain ⟨d, e, hd, he, sd1, se, ee⟩ := eqStrs (K := K) (sq_of (e7 _ _ hl1)) (sq_of hl2) (shot_ok s3) (shot_ok s3)
    refine ⟨d, e, hd, he, sd1, se, _, rfl, ?_⟩
    rw [ee, decide_eq_true rfl]
    refine iteF ?_
    have e57 := e6.trans e7
    have e07 := e05.trans e57
    have hd7 := hdA.ex e57
    have hd72 := hd5.ex e57
    have hrw7 := e57 _ _ hrw5
    clear hd5 hdA hd4 hd3 hl1 hl2 hd he
    -- how many are taken back
    refine ⟨_, rfl, a, xs, 2, rfl, ex_l e07 ha, by decide, _, rfl, rw, _, rfl, .inl (sq_of hrw7), _, _, rfl, rfl, _, _, rfl, rfl, ?_⟩
    rw [List.length_map, List.length_map]
    refine ⟨by show (0 : Int) < (rs.length : Int) + 1; omega, ?_⟩
    obtain ⟨bn, ebn, bnl⟩ : ∃ bn : Nat, scrM xs 2 % ((rs.length : Int) + 1) = (bn : Int) ∧ bn ≤ rs.length := by
      have h1 := Int.emod_nonneg (scrM xs 2) (show (rs.length : Int) + 1 ≠ 0 by omega)
      have h2 := Int.emod_lt_of_pos (scrM xs 2) (show (0 : Int) < (rs.length : Int) + 1 by omega)
      exact ⟨(scrM xs 2 % ((rs.length : Int) + 1)).toNat, by omega, by omega⟩
    show gName 6 (.int (scrM xs 2 % ((rs.length : Int) + 1))) _ _ _
    rw [ebn]
    refine ⟨_, rfl, _, rfl, by omega, by omega, ?_⟩
    rw [Int.toNat_natCast]
    have cut1 : ∀ {i : Nat} {rs' : List Row} {r : Row}, i < bn → rs.take (rs.length - i) = rs' ++ [r] → rs' = rs.take (rs.length - (i + 1)) := fun {i rs' r} hi e => by
      have e1 := congrArg List.dropLast e
      rw [List.dropLast_concat, List.dropLast_eq_take, List.take_take, List.length_take] at e1
      rw [← e1]
      congr 1
      omega
    refine for_range (fun i σ' H' => ∃ E1 E2 g' v3, σ' = [some (.ref a), some (.ref D1.p), some (.ref rw), v3, some (.str (Txt.join "\n" (rs.map shownM))), some (.ref D2.p), some (.int (bn : Int)), none, v8, v9, v10, v11, none] ∧ E1.p = D1.p ∧ E2.p = D2.p ∧ DkAt K H' E1 (hsM xs) (rs.take (rs.length - i)) g' ∧ DkAt K H' E2 (hsM xs) (rs.take (rs.length - i)) g' ∧ Sd (hsM xs) (rs.take (rs.length - i)) g' ∧ (∀ b, b ∈ footD E2 → b ∈ footD E1 → False) ∧ rw ∉ footD E1 ∧ rw ∉ footD E2 ∧ H' rw = some (.lst ((rs.map shownM).map V.str)) ∧ Ex H H' ∧ (∀ b ∈ footD E1, H b = none) ∧ ∀ b ∈ footD E2, H b = none)
      ⟨D1, D2, g1, v3, rfl, rfl, rfl, by rw [Nat.sub_zero, List.take_length]; exact hd7, by rw [Nat.sub_zero, List.take_length]; exact hd72, by rw [Nat.sub_zero, List.take_length]; exact s3, apt, nrw, nrw2, hrw7, e07, fd3, fdH2⟩ ?_ ?_
    · rintro i σ' H8 hi ⟨E1, E2, g', w3, rfl, p1, p2, hE1, hE2, sE, apE, n1, n2, hrw8, e08, f1, f2⟩
      rw [← p1, ← p2]
      have ne0 : rs.take (rs.length - i) ≠ [] := fun z => by
        have := congrArg List.length z
        rw [List.length_take] at this
        simp at this
        omega
      refine ⟨_, rfl, _, _, _, rfl, hE1.ob, rfl, E1, hsM xs, _, g', "back", rfl, hE1, sE, .inl ⟨rfl, fun z => absurd z ne0, fun rs' r er g'' s'' D' H9 ep9 hd9 f9 => ?_⟩⟩
      have ecut := cut1 hi er
      obtain ⟨e09, f1'⟩ := f9.exD e08 f1
      have hrw9 := f9.out _ _ hrw8 n1
      have n1' : rw ∉ footD D' := fun m => (f9.new _ m).elim n1 fun z => by rw [hrw8] at z; cases z
      have hE29 := hE2.fr f9 fun b m1 m2 => apE b m2 m1
      have ap9 : ∀ b, b ∈ footD D' → b ∈ footD E2 → False := f9.apart hE2.there fun b m1 m2 => apE b m2 m1
      refine ⟨rfl, _, rfl, ?_⟩
      rw [dss]
      refine iteF ⟨_, rfl, _, _, _, rfl, hE29.ob, rfl, E2, hsM xs, _, g', "back", rfl, hE29, sE, .inl ⟨rfl, fun z => absurd z ne0, fun rs2 r2 er2 g2 s2 D3 HA epA hdA fA => ?_⟩⟩
      have ecut2 := cut1 hi er2
      obtain ⟨e0A, f2'⟩ := fA.exD e09 f2
      refine ⟨rfl, _, rfl, ?_⟩
      rw [dss]
      refine iteF ?_
      have hdD := hd9.fr fA fun b m1 m2 => ap9 b m2 m1
      have eg : g'' = g2 := by
        rw [ecut] at s''
        rw [ecut2] at s2
        exact s''.uniq s2
      subst eg
      rw [ecut] at hdD s''
      rw [ecut2] at hdA
      refine ⟨D', D3, g'', _, rfl, ep9, epA, hdD, hdA, s'', fun b m1 m2 => ?_, n1', fun m => (fA.new _ m).elim n2 fun z => (by rw [hrw9] at z; cases z), fA.out _ _ hrw9 n2, e0A, f1', f2'⟩
      rcases fA.new b m1 with z | z
      · exact ap9 b m2 z
      · exact hd9.there b m2 z
    · rintro σ' H8 ⟨E1, E2, g', w3, rfl, p1, p2, hE1, hE2, sE, apE, n1, n2, hrw8, e08, f1, f2⟩
      rw [← p1, ← p2]
      refine ⟨_, rfl, _, rfl, _, rfl, rw, _, rfl, .inl (sq_of hrw8), _, rfl, _, _, rfl, rfl, ?_⟩
      rw [List.length_map, List.length_map]
      refine ⟨((rs.length - bn : Nat) : Int), by show V.int ((rs.length : Int) - (bn : Int)) = _; congr 1; omega, rw, _, rfl, sq_of hrw8, fun u nu => ?_⟩
      rw [cutS_take]
      have ek : (rs.map shownM).take (rs.length - bn) = (rs.take (rs.length - bn)).map shownM := List.map_take.symm
      rw [ek]
      have eu := Ex.new (o := .lst (((rs.take (rs.length - bn)).map shownM).map V.str)) nu
      have e0u := e08.trans eu
      refine ⟨a, u, xs, _, g', rfl, ex_l e0u ha, upd_same, sE, fun D3 H9 e9 fd3' hd9 => ?_⟩
      have e89 := eu.trans e9
      have hA := hE1.ex e89
      have hB := hE2.ex e89
      refine ⟨_, rfl, rfl, _, rfl, iteT ?_⟩
      refine ⟨_, rfl, D3, hsM xs, _, g', rfl, hd9, sE, fun l1 HA nl1 eA hl1 => ?_⟩
      refine ⟨_, rfl, E1, hsM xs, _, g', rfl, hA.ex eA, sE, fun l2 HB nl2 eB hl2 => ?_⟩
      obtain ⟨d, e, hd, he, sd1, se, ee⟩ := eqStrs (K := K) (sq_of (eB _ _ hl1)) (sq_of hl2) (shot_ok sE) (shot_ok sE)
      refine ⟨d, e, hd, he, sd1, se, _, rfl, ?_⟩
      rw [ee, decide_eq_true rfl]
      refine iteT ⟨_, rfl, E2, hsM xs, _, g', rfl, (hB.ex eA).ex eB, sE, fun l3 HC nl3 eC hl3 => ?_⟩
      refine ⟨_, rfl, E1, hsM xs, _, g', rfl, ((hA.ex eA).ex eB).ex eC, sE, fun l4 HD nl4 eD hl4 => ?_⟩
      obtain ⟨d, e, hd, he, sd1, se, ee⟩ := eqStrs (K := K) (sq_of (eD _ _ hl3)) (sq_of hl4) (shot_ok sE) (shot_ok sE)
      refine ⟨d, e, hd, he, sd1, se, ?_⟩
      rw [ee, decide_eq_true rfl]
      exact q _
end LG

set_option Elab.async false
set_option linter.all false
set_option maxRecDepth 100000
set_option maxHeartbeats 4000000
namespace LG
open PySem PySem.Spec L2 LamX
theorem law_at {w : World} {K : PySem.W.Frag} {h : Heap} {mg : Str → Option Value} {f : Addr} (X : K.In h) (G : h.Ns mainGlobals mg) (hfa : mg ("law" : Str) = some (.ref f)) (T : Tx K mg) :
    LawAtS PySem.Challenge.rw_linegate_k76_whole_book_told_again w K (L2.CX PySem.Challenge.rw_linegate_k76_whole_book_told_again.prog w) 17 63 "_law_script" mg f h := by
  obtain ⟨fd, hb, hF⟩ := law_fn (P := PySem.Challenge.rw_linegate_k76_whole_book_told_again.prog) (w := w) T
  have e := hfa.symm.trans T.g_law
  cases e
  exact ⟨fd, [], sp_law K, fun p hp => (by cases hp), fun p hp => (by cases hp), fun p hp => (by cases hp), fun s u => hb s [u] rfl, fun H a ns _ _ _ hS => ⟨a, ns, rfl, hS, fun _ => rfl⟩, fun base _ _ _ => hF base⟩
end LG
open PySem PySem.W PySem.Calls PyProof.Rows
theorem PySem.Challenge.cw_linegate_k76_whole_book_told_again_holds : PySem.Challenge.rw_linegate_k76_whole_book_told_again.Holds := by
  w_on; o_law
  refine HandSHeadRun.head_any (r := OpenLaw.row PySem.Challenge.rw_linegate_k76_whole_book_told_again) (q := view (OpenLaw.row PySem.Challenge.rw_linegate_k76_whole_book_told_again).prog [75]) (H := LG.hk) (ob := LG.ob) (M := 10000) (loose := LG.names) (d := HandSHeadRun.topDef (OpenLaw.row PySem.Challenge.rw_linegate_k76_whole_book_told_again).prog 75) (kwd := []) LG.ob_eq
    (by kernel_rfl) (fun s => by kernel_rfl) LG.run (by kernel_rfl) (by kernel_rfl) (by kernel_rfl) (by rfl) (by first | assumption | decide +kernel) (by decide +kernel) ⟨rfl, rfl, rfl, rfl, rfl, by decide +kernel⟩ ?hw ?hc
  case hw => w_witness2
  case hc =>
    refine LamX.walk_ofTsE (l := PySem.Challenge.rw_linegate_k76_whole_book_told_again) (n := 63) (k := 17) (x := "_law_script") (CX := fun w => L2.CX PySem.Challenge.rw_linegate_k76_whole_book_told_again.prog w) rfl (by decide) (by kernel_rfl) ⟨rfl, by decide, by decide⟩ ?F (fun w H s e s' z => by obtain ⟨_, _, _, _, _, _, _, _, _, _, _, _, z⟩ := z; exact z)
    intro w mg fa h Y G hmg0
    obtain ⟨K, KX, c⟩ := Y
    have hmg : mg ("law" : PySem.Str) = some (.ref fa) := by
      have e : (HandSHeadRun.topDef (OpenLaw.row PySem.Challenge.rw_linegate_k76_whole_book_told_again).prog 75).name = ("law" : PySem.Str) := by kernel_rfl
      rw [← e]
      exact hmg0
    exact ⟨K, KX, LG.law_at KX G hmg ⟨c.t.d, c.more, h, KX, G⟩⟩
