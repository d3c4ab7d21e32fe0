import PyProof.Rows.All
import Wide.All
import OpenK.AllK
import Wide.FinOn
import KE.KStateDown
import Lean
import HandS.ForMost
import HandS.Head0
import HandS.Head1
import HandS.Head2
import HandS.HeadEnd
import HandS.HeadHook1
import HandS.HeadHook2
import HandS.HeadHook3
import HandS.HeadHook4
import HandS.HeadWalk
import HandS.ForExc
import HandS.Deep
import HandS.IsInst
import HandS.Lambda
import HandS.TupAny
import PySem.Challenge.RW_snapsure_k29_whole_steppers_beside
import HandS.ExcIs
import HandS.Walk
import HandS.More
import HandS.Defaults
import HandS.EndTab
import KE.GoesEnumKw
import KE.KDictZip
import KE.KMinKey
import HandS.Replace
import HandS.ReplaceList
import HandS.ReplaceLit
import PyProof.ToksMono
import KE.KFmtOwn
import PyProof.Rows.RegFStrParts
import HandS.ExcOwn
import HandS.SetFor
set_option Elab.async false
set_option linter.all false
set_option maxRecDepth 100000
set_option maxHeartbeats 0
/-! text K29Text -/
namespace K29
open PySem L2
def top (i : Nat) : Stmt := PySem.Challenge.pw_snapsure_k29_whole_steppers_beside.main.body.getD i (.Pass ⟨0, 0, 0, 0⟩)
abbrev s_f__wall : Stmt := top 0
abbrev s_f_is_whole : Stmt := top 15
abbrev s_f_is_pair : Stmt := top 16
abbrev s_f_dealing_copied : Stmt := top 17
abbrev s_f_book_copied : Stmt := top 18
abbrev s_f_number_by : Stmt := top 19
abbrev s_f_dealing_by : Stmt := top 20
abbrev s_f_has_many : Stmt := top 21
abbrev s_f_is_key_by : Stmt := top 23
abbrev s_f_is_key : Stmt := top 24
abbrev s_f_are_keys : Stmt := top 25
abbrev s_D_init : Stmt := inClass (top 28) 0
abbrev s_D_next_deed : Stmt := inClass (top 28) 1
abbrev s_D_steps_left : Stmt := inClass (top 28) 2
abbrev s_D_written : Stmt := inClass (top 28) 3
abbrev s_D_read_so : Stmt := inClass (top 28) 4
abbrev s_D_closed : Stmt := inClass (top 28) 5
abbrev s_D_opened : Stmt := inClass (top 28) 6
abbrev s_S_init : Stmt := inClass (top 29) 0
abbrev s_S_fresh_keys : Stmt := inClass (top 29) 1
abbrev s_S_begin : Stmt := inClass (top 29) 2
abbrev s_S_deal_by : Stmt := inClass (top 29) 3
abbrev s_S_open_deal : Stmt := inClass (top 29) 4
abbrev s_S_last_writer : Stmt := inClass (top 29) 5
abbrev s_S_step : Stmt := inClass (top 29) 6
abbrev s_S_is_called_off : Stmt := inClass (top 29) 7
abbrev s_S_look_at_end : Stmt := inClass (top 29) 8
abbrev s_S_close : Stmt := inClass (top 29) 9
abbrev s_S_shut : Stmt := inClass (top 29) 10
abbrev s_S_end : Stmt := inClass (top 29) 11
abbrev s_S_drop : Stmt := inClass (top 29) 12
abbrev s_S_undo : Stmt := inClass (top 29) 13
abbrev s_S_state : Stmt := inClass (top 29) 14
abbrev s_S_left : Stmt := inClass (top 29) 15
abbrev s_S_writer : Stmt := inClass (top 29) 16
abbrev s_S_rows : Stmt := inClass (top 29) 17
abbrev s_S_done_again : Stmt := inClass (top 29) 18
abbrev s_S_fresh : Stmt := inClass (top 29) 19
abbrev s_S_twin : Stmt := inClass (top 29) 20
abbrev s_S_len : Stmt := inClass (top 29) 21
abbrev s_S_eq : Stmt := inClass (top 29) 22
abbrev s_S_str : Stmt := inClass (top 29) 23
abbrev s_l_some_keys : Stmt := top 31
abbrev s_l_wrote : Stmt := top 32
abbrev s_l_last : Stmt := top 33
abbrev s_l_step : Stmt := top 34
abbrev s_l_is_off : Stmt := top 35
abbrev s_l_do : Stmt := top 36
abbrev s_l_again : Stmt := top 37
abbrev s_l_draw : Stmt := top 38
abbrev s_l_wish : Stmt := top 39
abbrev s_l_kind : Stmt := top 40
abbrev s_l_told : Stmt := top 41
abbrev s_l_keys : Stmt := top 42
abbrev s_l_left : Stmt := top 43
abbrev s_l_next : Stmt := top 44
abbrev s_l_same : Stmt := top 45
abbrev s_l_doing : Stmt := top 46
abbrev s_l_names : Stmt := top 47
abbrev s_l_marks : Stmt := top 48
abbrev s_l_steps : Stmt := top 49
abbrev s_l_book : Stmt := top 50
abbrev s_l_pool : Stmt := top 51
abbrev s_l_copied : Stmt := top 52
abbrev s_l_state_text : Stmt := top 53
abbrev s_l_all_keys : Stmt := top 54
abbrev s_l_stands_so : Stmt := top 55
abbrev s_l_deed : Stmt := top 56
abbrev s_f_law : Stmt := top 57
abbrev n_f__wall : List Str := ["k"]
abbrev p_f__wall : List Str := ["k"]
abbrev n_f_is_whole : List Str := ["thing"]
abbrev p_f_is_whole : List Str := ["thing"]
abbrev n_f_is_pair : List Str := ["thing"]
abbrev p_f_is_pair : List Str := ["thing"]
abbrev n_f_dealing_copied : List Str := ["dealing", "name", "letters", "steps"]
abbrev p_f_dealing_copied : List Str := ["dealing"]
abbrev n_f_book_copied : List Str := ["book", "dealing"]
abbrev p_f_book_copied : List Str := ["book"]
abbrev n_f_number_by : List Str := ["book", "name", "numbers", "at", "dealing", "e"]
abbrev p_f_number_by : List Str := ["book", "name"]
abbrev n_f_dealing_by : List Str := ["book", "name"]
abbrev p_f_dealing_by : List Str := ["book", "name"]
abbrev n_f_has_many : List Str := ["book", "kind"]
abbrev p_f_has_many : List Str := ["book", "kind"]
abbrev n_f_is_key_by : List Str := ["kinds", "thing"]
abbrev p_f_is_key_by : List Str := ["kinds", "thing"]
abbrev n_f_is_key : List Str := ["book", "thing"]
abbrev p_f_is_key : List Str := ["book", "thing"]
abbrev n_f_are_keys : List Str := ["book", "name", "thing", "letters", "kinds", "row", "key"]
abbrev p_f_are_keys : List Str := ["book", "name", "thing"]
abbrev n_D_init : List Str := ["self", "dealing", "keys", "row", "letter", "kind"]
abbrev p_D_init : List Str := ["self", "dealing", "keys", "row"]
abbrev n_D_next_deed : List Str := ["self", "deed", "letter"]
abbrev p_D_next_deed : List Str := ["self"]
abbrev n_D_steps_left : List Str := ["self"]
abbrev p_D_steps_left : List Str := ["self"]
abbrev n_D_written : List Str := ["self", "deed", "key", "seen"]
abbrev p_D_written : List Str := ["self"]
abbrev n_D_read_so : List Str := ["self"]
abbrev p_D_read_so : List Str := ["self"]
abbrev n_D_closed : List Str := ["self", "word", "row"]
abbrev p_D_closed : List Str := ["self", "word", "row"]
abbrev n_D_opened : List Str := ["self"]
abbrev p_D_opened : List Str := ["self"]
abbrev n_S_init : List Str := ["self", "book"]
abbrev p_S_init : List Str := ["self", "book"]
abbrev n_S_fresh_keys : List Str := ["self", "dealing", "following", "deal", "kind", "number", "found", "letter"]
abbrev p_S_fresh_keys : List Str := ["self", "dealing"]
abbrev n_S_begin : List Str := ["self", "name", "keys", "dealing"]
abbrev p_S_begin : List Str := ["self", "name", "keys"]
abbrev n_S_deal_by : List Str := ["self", "number"]
abbrev p_S_deal_by : List Str := ["self", "number"]
abbrev n_S_open_deal : List Str := ["self", "number", "deal"]
abbrev p_S_open_deal : List Str := ["self", "number"]
abbrev n_S_last_writer : List Str := ["self", "key", "row", "some", "number", "deal"]
abbrev p_S_last_writer : List Str := ["self", "key", "row"]
abbrev n_S_step : List Str := ["self", "number", "deal", "deed", "key", "seen"]
abbrev p_S_step : List Str := ["self", "number"]
abbrev n_S_is_called_off : List Str := ["self", "number", "own", "deal", "key"]
abbrev p_S_is_called_off : List Str := ["self", "number"]
abbrev n_S_look_at_end : List Str := ["self", "number", "deal"]
abbrev p_S_look_at_end : List Str := ["self", "number"]
abbrev n_S_close : List Str := ["self", "number", "stands", "deal"]
abbrev p_S_close : List Str := ["self", "number", "stands"]
abbrev n_S_shut : List Str := ["self", "number", "deal"]
abbrev p_S_shut : List Str := ["self", "number"]
abbrev n_S_end : List Str := ["self", "number"]
abbrev p_S_end : List Str := ["self", "number"]
abbrev n_S_drop : List Str := ["self", "number"]
abbrev p_S_drop : List Str := ["self", "number"]
abbrev n_S_undo : List Str := ["self", "row", "deal"]
abbrev p_S_undo : List Str := ["self"]
abbrev n_S_state : List Str := ["self", "number", "deal"]
abbrev p_S_state : List Str := ["self", "number"]
abbrev n_S_left : List Str := ["self", "number", "deal"]
abbrev p_S_left : List Str := ["self", "number"]
abbrev n_S_writer : List Str := ["self", "key"]
abbrev p_S_writer : List Str := ["self", "key"]
abbrev n_S_rows : List Str := ["self", "row", "keys"]
abbrev p_S_rows : List Str := ["self"]
abbrev n_S_done_again : List Str := ["self", "row"]
abbrev p_S_done_again : List Str := ["self", "row"]
abbrev n_S_fresh : List Str := ["self"]
abbrev p_S_fresh : List Str := ["self"]
abbrev n_S_twin : List Str := ["self"]
abbrev p_S_twin : List Str := ["self"]
abbrev n_S_len : List Str := ["self"]
abbrev p_S_len : List Str := ["self"]
abbrev n_S_eq : List Str := ["self", "thing"]
abbrev p_S_eq : List Str := ["self", "thing"]
abbrev n_S_str : List Str := ["self", "deal"]
abbrev p_S_str : List Str := ["self"]
abbrev n_l_some_keys : List Str := ["_law_book_here", "_law_world", "_law_span", "_law_found", "_law_deal"]
abbrev p_l_some_keys : List Str := ["_law_book_here", "_law_world", "_law_span"]
abbrev n_l_wrote : List Str := ["_law_deal", "_law_deed_here", "_law_key", "_law_seen"]
abbrev p_l_wrote : List Str := ["_law_deal"]
abbrev n_l_last : List Str := ["_law_world", "_law_key", "_law_row", "_law_found", "_law_number", "_law_deal"]
abbrev p_l_last : List Str := ["_law_world", "_law_key", "_law_row"]
abbrev n_l_step : List Str := ["_law_book_here", "_law_world", "_law_number", "_law_deal", "_law_name", "_law_letters", "_law_steps_here", "_law_deed_here", "_law_mark", "_law_key", "_law_letter", "_law_kind_here", "_law_seen"]
abbrev p_l_step : List Str := ["_law_book_here", "_law_world", "_law_number"]
abbrev n_l_is_off : List Str := ["_law_world", "_law_deal", "_law_other", "_law_key"]
abbrev p_l_is_off : List Str := ["_law_world", "_law_deal"]
abbrev n_l_do : List Str := ["_law_book_here", "_law_world", "_law_rows", "_law_row", "_law_number", "_law_one", "_law_deal", "_law_stands"]
abbrev p_l_do : List Str := ["_law_book_here", "_law_world", "_law_rows", "_law_row"]
abbrev n_l_again : List Str := ["_law_book_here", "_law_rows", "_law_world", "_law_done", "_law_row"]
abbrev p_l_again : List Str := ["_law_book_here", "_law_rows"]
abbrev n_l_draw : List Str := ["_law_pool_here", "_law_many", "_law_found"]
abbrev p_l_draw : List Str := ["_law_pool_here", "_law_many"]
abbrev n_l_wish : List Str := ["_law_stepper", "_law_way", "_law_one", "_law_other"]
abbrev p_l_wish : List Str := ["_law_stepper", "_law_way", "_law_one", "_law_other"]
abbrev n_l_kind : List Str := ["_law_error", "_law_some", "_law_number", "_law_of_books", "_law_names_here"]
abbrev p_l_kind : List Str := ["_law_error"]
abbrev n_l_told : List Str := ["_law_stepper", "_law_way", "_law_one", "_law_other", "_law_caught", "e"]
abbrev p_l_told : List Str := ["_law_stepper", "_law_way", "_law_one", "_law_other"]
abbrev n_l_keys : List Str := ["_law_pool_here", "_law_book_here", "_law_number", "_law_span", "_law_many", "_law_found", "_law_mark", "_law_kind_here"]
abbrev p_l_keys : List Str := ["_law_pool_here", "_law_book_here", "_law_number", "_law_span"]
abbrev n_l_left : List Str := ["_law_book_here", "_law_deal"]
abbrev p_l_left : List Str := ["_law_book_here", "_law_deal"]
abbrev n_l_next : List Str := ["_law_pool_here", "_law_book_here", "_law_world", "_law_most", "_law_span", "_law_opened", "_law_number", "_law_deal", "_law_way", "_law_left_here"]
abbrev p_l_next : List Str := ["_law_pool_here", "_law_book_here", "_law_world", "_law_most", "_law_span"]
abbrev n_l_same : List Str := ["_law_one", "_law_other"]
abbrev p_l_same : List Str := ["_law_one", "_law_other"]
abbrev n_l_doing : List Str := ["_law_stepper", "_law_row"]
abbrev p_l_doing : List Str := ["_law_stepper", "_law_row"]
abbrev n_l_names : List Str := ["_law_pool_here", "_law_many", "_law_letters", "_law_found", "_law_k", "_law_size", "_law_name", "_law_at", "_law_some", "_law_letter", "_law_one"]
abbrev p_l_names : List Str := ["_law_pool_here", "_law_many"]
abbrev n_l_marks : List Str := ["_law_pool_here", "_law_many", "_law_left_here", "_law_found", "_law_k", "_law_mark"]
abbrev p_l_marks : List Str := ["_law_pool_here", "_law_many"]
abbrev n_l_steps : List Str := ["_law_pool_here", "_law_marks_here", "_law_found", "_law_more", "_law_k", "_law_mark", "_law_deed_here"]
abbrev p_l_steps : List Str := ["_law_pool_here", "_law_marks_here"]
abbrev n_l_book : List Str := ["_law_pool_here", "_law_most_kinds", "_law_most_dealings", "_law_names_here", "_law_kinds", "_law_name", "_law_dealings", "_law_marks_here", "_law_letters", "_law_mark"]
abbrev p_l_book : List Str := ["_law_pool_here", "_law_most_kinds", "_law_most_dealings"]
abbrev n_l_pool : List Str := ["_law_script", "_law_k", "_law_cell", "_law_size", "_law_mixed"]
abbrev p_l_pool : List Str := ["_law_script", "_law_k"]
abbrev n_l_copied : List Str := ["_law_book_here", "_law_name", "_law_letters", "_law_steps_here"]
abbrev p_l_copied : List Str := ["_law_book_here"]
abbrev n_l_state_text : List Str := ["_law_world", "_law_deal"]
abbrev p_l_state_text : List Str := ["_law_world"]
abbrev n_l_all_keys : List Str := ["_law_book_here", "_law_span", "_law_found", "_law_kind_here", "_law_many", "_law_number"]
abbrev p_l_all_keys : List Str := ["_law_book_here", "_law_span"]
abbrev n_l_stands_so : List Str := ["_law_stepper", "_law_book_here", "_law_world", "_law_rows", "_law_span", "_law_key", "_law_number", "_law_deal"]
abbrev p_l_stands_so : List Str := ["_law_stepper", "_law_book_here", "_law_world", "_law_rows", "_law_span"]
abbrev n_l_deed : List Str := ["_law_pool_here", "_law_book_here", "_law_stepper", "_law_rows", "_law_world", "_law_way", "_law_row"]
abbrev p_l_deed : List Str := ["_law_pool_here", "_law_book_here", "_law_stepper", "_law_rows"]
abbrev n_f_law : List Str := ["_law_script", "_law_books", "_law_handed", "_law_steppers", "_law_rows", "_law_k", "_law_pool_here", "_law_at", "_law_own"]
abbrev p_f_law : List Str := ["_law_script"]
end K29
/-! text K29Data -/
namespace K29
open PySem PySem.Spec PyProof.Rows L2
def d_f_is_whole : He.DefD := ⟨("is_whole", none), "is_whole", "is_whole", defArgs s_f_is_whole, defBody s_f_is_whole, defScope s_f_is_whole, [], []⟩
def d_f_is_pair : He.DefD := ⟨("is_pair", none), "is_pair", "is_pair", defArgs s_f_is_pair, defBody s_f_is_pair, defScope s_f_is_pair, [], []⟩
def d_f_dealing_copied : He.DefD := ⟨("dealing_copied", none), "dealing_copied", "dealing_copied", defArgs s_f_dealing_copied, defBody s_f_dealing_copied, defScope s_f_dealing_copied, [], []⟩
def d_f_book_copied : He.DefD := ⟨("book_copied", none), "book_copied", "book_copied", defArgs s_f_book_copied, defBody s_f_book_copied, defScope s_f_book_copied, [], []⟩
def d_f_number_by : He.DefD := ⟨("number_by", none), "number_by", "number_by", defArgs s_f_number_by, defBody s_f_number_by, defScope s_f_number_by, [], []⟩
def d_f_dealing_by : He.DefD := ⟨("dealing_by", none), "dealing_by", "dealing_by", defArgs s_f_dealing_by, defBody s_f_dealing_by, defScope s_f_dealing_by, [], []⟩
def d_f_has_many : He.DefD := ⟨("has_many", none), "has_many", "has_many", defArgs s_f_has_many, defBody s_f_has_many, defScope s_f_has_many, [], []⟩
def d_f_is_key_by : He.DefD := ⟨("is_key_by", none), "is_key_by", "is_key_by", defArgs s_f_is_key_by, defBody s_f_is_key_by, defScope s_f_is_key_by, [], []⟩
def d_f_is_key : He.DefD := ⟨("is_key", none), "is_key", "is_key", defArgs s_f_is_key, defBody s_f_is_key, defScope s_f_is_key, [], []⟩
def d_f_are_keys : He.DefD := ⟨("are_keys", none), "are_keys", "are_keys", defArgs s_f_are_keys, defBody s_f_are_keys, defScope s_f_are_keys, [], []⟩
def d_D_init : He.DefD := ⟨("Deal", some "__init__"), "__init__", "Deal.__init__", defArgs s_D_init, defBody s_D_init, defScope s_D_init, [], []⟩
def d_D_next_deed : He.DefD := ⟨("Deal", some "next_deed"), "next_deed", "Deal.next_deed", defArgs s_D_next_deed, defBody s_D_next_deed, defScope s_D_next_deed, [], []⟩
def d_D_steps_left : He.DefD := ⟨("Deal", some "steps_left"), "steps_left", "Deal.steps_left", defArgs s_D_steps_left, defBody s_D_steps_left, defScope s_D_steps_left, [], []⟩
def d_D_written : He.DefD := ⟨("Deal", some "written"), "written", "Deal.written", defArgs s_D_written, defBody s_D_written, defScope s_D_written, [], []⟩
def d_D_closed : He.DefD := ⟨("Deal", some "closed"), "closed", "Deal.closed", defArgs s_D_closed, defBody s_D_closed, defScope s_D_closed, [], []⟩
def d_D_opened : He.DefD := ⟨("Deal", some "opened"), "opened", "Deal.opened", defArgs s_D_opened, defBody s_D_opened, defScope s_D_opened, [], []⟩
def d_S_init : He.DefD := ⟨("Stepper", some "__init__"), "__init__", "Stepper.__init__", defArgs s_S_init, defBody s_S_init, defScope s_S_init, [], []⟩
def d_S_begin : He.DefD := ⟨("Stepper", some "begin"), "begin", "Stepper.begin", defArgs s_S_begin, defBody s_S_begin, defScope s_S_begin, [.non], []⟩
def d_S_deal_by : He.DefD := ⟨("Stepper", some "deal_by"), "deal_by", "Stepper.deal_by", defArgs s_S_deal_by, defBody s_S_deal_by, defScope s_S_deal_by, [], []⟩
def d_S_open_deal : He.DefD := ⟨("Stepper", some "open_deal"), "open_deal", "Stepper.open_deal", defArgs s_S_open_deal, defBody s_S_open_deal, defScope s_S_open_deal, [], []⟩
def d_S_last_writer : He.DefD := ⟨("Stepper", some "last_writer"), "last_writer", "Stepper.last_writer", defArgs s_S_last_writer, defBody s_S_last_writer, defScope s_S_last_writer, [], []⟩
def d_S_step : He.DefD := ⟨("Stepper", some "step"), "step", "Stepper.step", defArgs s_S_step, defBody s_S_step, defScope s_S_step, [], []⟩
def d_S_is_called_off : He.DefD := ⟨("Stepper", some "is_called_off"), "is_called_off", "Stepper.is_called_off", defArgs s_S_is_called_off, defBody s_S_is_called_off, defScope s_S_is_called_off, [], []⟩
def d_S_look_at_end : He.DefD := ⟨("Stepper", some "look_at_end"), "look_at_end", "Stepper.look_at_end", defArgs s_S_look_at_end, defBody s_S_look_at_end, defScope s_S_look_at_end, [], []⟩
def d_S_close : He.DefD := ⟨("Stepper", some "close"), "close", "Stepper.close", defArgs s_S_close, defBody s_S_close, defScope s_S_close, [], []⟩
def d_S_shut : He.DefD := ⟨("Stepper", some "shut"), "shut", "Stepper.shut", defArgs s_S_shut, defBody s_S_shut, defScope s_S_shut, [], []⟩
def d_S_end : He.DefD := ⟨("Stepper", some "end"), "end", "Stepper.end", defArgs s_S_end, defBody s_S_end, defScope s_S_end, [], []⟩
def d_S_drop : He.DefD := ⟨("Stepper", some "drop"), "drop", "Stepper.drop", defArgs s_S_drop, defBody s_S_drop, defScope s_S_drop, [], []⟩
def d_S_undo : He.DefD := ⟨("Stepper", some "undo"), "undo", "Stepper.undo", defArgs s_S_undo, defBody s_S_undo, defScope s_S_undo, [], []⟩
def d_S_state : He.DefD := ⟨("Stepper", some "state"), "state", "Stepper.state", defArgs s_S_state, defBody s_S_state, defScope s_S_state, [], []⟩
def d_S_left : He.DefD := ⟨("Stepper", some "left"), "left", "Stepper.left", defArgs s_S_left, defBody s_S_left, defScope s_S_left, [], []⟩
def d_S_writer : He.DefD := ⟨("Stepper", some "writer"), "writer", "Stepper.writer", defArgs s_S_writer, defBody s_S_writer, defScope s_S_writer, [], []⟩
def d_S_rows : He.DefD := ⟨("Stepper", some "rows"), "rows", "Stepper.rows", defArgs s_S_rows, defBody s_S_rows, defScope s_S_rows, [], []⟩
def d_S_len : He.DefD := ⟨("Stepper", some "__len__"), "__len__", "Stepper.__len__", defArgs s_S_len, defBody s_S_len, defScope s_S_len, [], []⟩
def d_S_str : He.DefD := ⟨("Stepper", some "__str__"), "__str__", "Stepper.__str__", defArgs s_S_str, defBody s_S_str, defScope s_S_str, [], []⟩
def d_l_some_keys : He.DefD := ⟨("_law_some_keys", none), "_law_some_keys", "_law_some_keys", defArgs s_l_some_keys, defBody s_l_some_keys, defScope s_l_some_keys, [], []⟩
def d_l_wrote : He.DefD := ⟨("_law_wrote", none), "_law_wrote", "_law_wrote", defArgs s_l_wrote, defBody s_l_wrote, defScope s_l_wrote, [], []⟩
def d_l_last : He.DefD := ⟨("_law_last", none), "_law_last", "_law_last", defArgs s_l_last, defBody s_l_last, defScope s_l_last, [], []⟩
def d_l_step : He.DefD := ⟨("_law_step", none), "_law_step", "_law_step", defArgs s_l_step, defBody s_l_step, defScope s_l_step, [], []⟩
def d_l_is_off : He.DefD := ⟨("_law_is_off", none), "_law_is_off", "_law_is_off", defArgs s_l_is_off, defBody s_l_is_off, defScope s_l_is_off, [], []⟩
def d_l_do : He.DefD := ⟨("_law_do", none), "_law_do", "_law_do", defArgs s_l_do, defBody s_l_do, defScope s_l_do, [], []⟩
def d_l_again : He.DefD := ⟨("_law_again", none), "_law_again", "_law_again", defArgs s_l_again, defBody s_l_again, defScope s_l_again, [], []⟩
def d_l_draw : He.DefD := ⟨("_law_draw", none), "_law_draw", "_law_draw", defArgs s_l_draw, defBody s_l_draw, defScope s_l_draw, [], []⟩
def d_l_wish : He.DefD := ⟨("_law_wish", none), "_law_wish", "_law_wish", defArgs s_l_wish, defBody s_l_wish, defScope s_l_wish, [], []⟩
def d_l_kind : He.DefD := ⟨("_law_kind", none), "_law_kind", "_law_kind", defArgs s_l_kind, defBody s_l_kind, defScope s_l_kind, [], []⟩
def d_l_told : He.DefD := ⟨("_law_told", none), "_law_told", "_law_told", defArgs s_l_told, defBody s_l_told, defScope s_l_told, [], []⟩
def d_l_keys : He.DefD := ⟨("_law_keys", none), "_law_keys", "_law_keys", defArgs s_l_keys, defBody s_l_keys, defScope s_l_keys, [], []⟩
def d_l_left : He.DefD := ⟨("_law_left", none), "_law_left", "_law_left", defArgs s_l_left, defBody s_l_left, defScope s_l_left, [], []⟩
def d_l_next : He.DefD := ⟨("_law_next", none), "_law_next", "_law_next", defArgs s_l_next, defBody s_l_next, defScope s_l_next, [], []⟩
def d_l_same : He.DefD := ⟨("_law_same", none), "_law_same", "_law_same", defArgs s_l_same, defBody s_l_same, defScope s_l_same, [], []⟩
def d_l_doing : He.DefD := ⟨("_law_doing", none), "_law_doing", "_law_doing", defArgs s_l_doing, defBody s_l_doing, defScope s_l_doing, [], []⟩
def d_l_names : He.DefD := ⟨("_law_names", none), "_law_names", "_law_names", defArgs s_l_names, defBody s_l_names, defScope s_l_names, [], []⟩
def d_l_marks : He.DefD := ⟨("_law_marks", none), "_law_marks", "_law_marks", defArgs s_l_marks, defBody s_l_marks, defScope s_l_marks, [], []⟩
def d_l_steps : He.DefD := ⟨("_law_steps", none), "_law_steps", "_law_steps", defArgs s_l_steps, defBody s_l_steps, defScope s_l_steps, [], []⟩
def d_l_book : He.DefD := ⟨("_law_book", none), "_law_book", "_law_book", defArgs s_l_book, defBody s_l_book, defScope s_l_book, [], []⟩
def d_l_pool : He.DefD := ⟨("_law_pool", none), "_law_pool", "_law_pool", defArgs s_l_pool, defBody s_l_pool, defScope s_l_pool, [], []⟩
def d_l_copied : He.DefD := ⟨("_law_copied", none), "_law_copied", "_law_copied", defArgs s_l_copied, defBody s_l_copied, defScope s_l_copied, [], []⟩
def d_l_state_text : He.DefD := ⟨("_law_state_text", none), "_law_state_text", "_law_state_text", defArgs s_l_state_text, defBody s_l_state_text, defScope s_l_state_text, [], []⟩
def d_l_all_keys : He.DefD := ⟨("_law_all_keys", none), "_law_all_keys", "_law_all_keys", defArgs s_l_all_keys, defBody s_l_all_keys, defScope s_l_all_keys, [], []⟩
def d_l_stands_so : He.DefD := ⟨("_law_stands_so", none), "_law_stands_so", "_law_stands_so", defArgs s_l_stands_so, defBody s_l_stands_so, defScope s_l_stands_so, [], []⟩
def d_l_deed : He.DefD := ⟨("_law_deed", none), "_law_deed", "_law_deed", defArgs s_l_deed, defBody s_l_deed, defScope s_l_deed, [], []⟩
def d_f_law : He.DefD := ⟨("law", none), "law", "law", defArgs s_f_law, defBody s_f_law, defScope s_f_law, [], []⟩
def fn0 : List He.DefD := [d_f_is_whole, d_f_is_pair, d_f_dealing_copied, d_f_book_copied, d_f_number_by, d_f_dealing_by, d_f_has_many, d_f_is_key_by, d_f_is_key, d_f_are_keys, d_D_init, d_D_next_deed, d_D_steps_left, d_D_written, d_D_closed, d_D_opened, d_S_init, d_S_begin, d_S_deal_by, d_S_open_deal, d_S_last_writer, d_S_step, d_S_is_called_off, d_S_look_at_end, d_S_close, d_S_shut, d_S_end, d_S_drop, d_S_undo, d_S_state]
def fn1 : List He.DefD := [d_S_left, d_S_writer, d_S_rows, d_S_len, d_S_str, d_l_some_keys, d_l_wrote, d_l_last, d_l_step, d_l_is_off, d_l_do, d_l_again, d_l_draw, d_l_wish, d_l_kind, d_l_told, d_l_keys, d_l_left, d_l_next, d_l_same, d_l_doing, d_l_names, d_l_marks, d_l_steps, d_l_book, d_l_pool, d_l_copied, d_l_state_text, d_l_all_keys, d_l_stands_so]
def fn2 : List He.DefD := [d_l_deed, d_f_law]
def fn : List He.DefD := fn0 ++ fn1 ++ fn2
def fa0 : List He.Fa := [.glo "is_whole", .glo "is_pair", .glo "dealing_copied", .glo "book_copied", .glo "number_by", .glo "dealing_by", .glo "has_many", .glo "is_key_by", .glo "is_key", .glo "are_keys", .glo "_law_some_keys", .glo "_law_wrote", .glo "_law_last", .glo "_law_step", .glo "_law_is_off", .glo "_law_do", .glo "_law_again", .glo "_law_draw", .glo "_law_wish", .glo "_law_kind", .glo "_law_told", .glo "_law_keys", .glo "_law_left", .glo "_law_next", .glo "_law_same", .glo "_law_doing", .glo "_law_names", .glo "_law_marks", .glo "_law_steps", .glo "_law_book"]
def fa1 : List He.Fa := [.glo "_law_pool", .glo "_law_copied", .glo "_law_state_text", .glo "_law_all_keys", .glo "_law_stands_so", .glo "_law_deed", .glo "law", .glo "SnapError", .glo "BookError", .glo "StepError", .glo "NoKeys", .glo "NoKey", .glo "NoDealing", .glo "NoNumber", .glo "Over", .glo "NoStep", .glo "NoEnd", .glo "NoDeed", .glo "TooMany", .glo "Deal", .glo "Stepper", .int "MOST_BEGUN" 40, .free "isinstance", .free "len", .free "tuple", .free "list", .free "dict", .free "enumerate", .free "str", .free "int"]
def fa2 : List He.Fa := [.free "zip", .free "bool", .free "max", .free "min", .free "any", .free "range", .free "repr", .free "KeyError", .cls "Deal", .mkr "Deal", .cls "Stepper", .mkr "Stepper", .noat "Deal" "title", .noat "Deal" "given", .noat "Deal" "key_by", .noat "Deal" "ahead", .noat "Deal" "told", .noat "Deal" "begun", .noat "Deal" "ended", .noat "Deal" "word", .noat "Stepper" "own_book", .noat "Stepper" "deals", .noat "Stepper" "log", .meth "Deal" "__init__", .meth "Deal" "next_deed", .meth "Deal" "steps_left", .meth "Deal" "written", .meth "Deal" "closed", .meth "Deal" "opened", .meth "Stepper" "__init__"]
def fa3 : List He.Fa := [.meth "Stepper" "begin", .meth "Stepper" "deal_by", .meth "Stepper" "open_deal", .meth "Stepper" "last_writer", .meth "Stepper" "step", .meth "Stepper" "is_called_off", .meth "Stepper" "look_at_end", .meth "Stepper" "close", .meth "Stepper" "shut", .meth "Stepper" "end", .meth "Stepper" "drop", .meth "Stepper" "undo", .meth "Stepper" "state", .meth "Stepper" "left", .meth "Stepper" "writer", .meth "Stepper" "rows", .meth "Stepper" "__len__", .meth "Stepper" "__str__"]
def fa : List He.Fa := fa0 ++ fa1 ++ fa2 ++ fa3
def tf : List He.Defn := [("Stepper", some "last_writer")]
end K29
/-! text K29Ex -/
namespace K29
open PySem PySem.Spec PyProof.Rows L2
/-! ### the error NoNumber, as the top has left it -/
abbrev cN (K : PySem.W.Frag) : Addr := He.ga K "NoNumber"
def kitB2 (K : PySem.W.Frag) (x : Str) (b : Bool) : Bool := decide (PySem.W.kitOne K (.ref (cN K)) (.ref (He.ga K x)) = some b)
def ex1 (K : PySem.W.Frag) : Bool := PySem.W.excIn K (cN K) [.type "Exception", .type "BaseException", .type "object"] "Exception.__new__" && (PySem.W.keepIn K (.ref (cN K)) &&
  (decide (PySem.W.subIn K (.ref (cN K)) (.type "BaseException") = some true) && (decide (PySem.W.typeIn K (.ref (cN K)) = some (.type "type")) && decide (PySem.W.exmOne K (.ref (cN K)) (.ref (He.ga K "SnapError")) = some true))))
def ex2 (K : PySem.W.Frag) : Bool := He.eqO (PySem.W.findIn K (.ref (cN K)) "__getattribute__") (some (some (.builtin "BaseException.__getattribute__"))) && (He.eqO (PySem.W.findIn K (.ref (cN K)) "__getattr__") (some none) && (PySem.W.hasDictIn K (cN K) &&
  (He.eqO (PySem.W.findIn K (.ref (cN K)) "__class__") (some (some (.builtin "object.__class__"))) && (He.eqO (PySem.W.specialIn K (.builtin "object.__class__") "__get__") (some (some (.builtin "getset_descriptor.__get__"))) &&
  (decide (PySem.W.takesIn K (.builtin "object.__class__") = some true) && decide (PySem.W.mroIn K (cN K) (.type "object") = some true))))))
def ex3 (K : PySem.W.Frag) : Bool := kitB2 K "NoDealing" false && (kitB2 K "NoKeys" false && (kitB2 K "TooMany" false && (kitB2 K "NoNumber" true && (kitB2 K "Over" false && (kitB2 K "NoStep" false && (kitB2 K "NoEnd" false && (kitB2 K "NoKey" false && (kitB2 K "NoDeed" false && (kitB2 K "BookError" false && kitB2 K "StepError" true)))))))))
def ex (K : PySem.W.Frag) : Bool := ex1 K && (ex2 K && ex3 K)
structure Ex (K : PySem.W.Frag) : Prop where
  x : PySem.W.excIn K (cN K) [.type "Exception", .type "BaseException", .type "object"] "Exception.__new__" = true
  k : PySem.W.keepIn K (.ref (cN K)) = true
  b : PySem.W.subIn K (.ref (cN K)) (.type "BaseException") = some true
  t : PySem.W.typeIn K (.ref (cN K)) = some (.type "type")
  e : PySem.W.exmOne K (.ref (cN K)) (.ref (He.ga K "SnapError")) = some true
  c : ExcC K (cN K)
  k1 : PySem.W.kitOne K (.ref (cN K)) (.ref (He.ga K "NoDealing")) = some false
  k2 : PySem.W.kitOne K (.ref (cN K)) (.ref (He.ga K "NoKeys")) = some false
  k3 : PySem.W.kitOne K (.ref (cN K)) (.ref (He.ga K "TooMany")) = some false
  k4 : PySem.W.kitOne K (.ref (cN K)) (.ref (He.ga K "NoNumber")) = some true
  k5 : PySem.W.kitOne K (.ref (cN K)) (.ref (He.ga K "Over")) = some false
  k6 : PySem.W.kitOne K (.ref (cN K)) (.ref (He.ga K "NoStep")) = some false
  k7 : PySem.W.kitOne K (.ref (cN K)) (.ref (He.ga K "NoEnd")) = some false
  k8 : PySem.W.kitOne K (.ref (cN K)) (.ref (He.ga K "NoKey")) = some false
  k9 : PySem.W.kitOne K (.ref (cN K)) (.ref (He.ga K "NoDeed")) = some false
  ka : PySem.W.kitOne K (.ref (cN K)) (.ref (He.ga K "BookError")) = some false
  kb : PySem.W.kitOne K (.ref (cN K)) (.ref (He.ga K "StepError")) = some true
theorem bb {a b : Bool} (h : (a && b) = true) : a = true ∧ b = true := by
  cases a
  · cases h
  · exact ⟨rfl, h⟩
theorem Ex.of {K : PySem.W.Frag} (h : ex K = true) : Ex K := by
  obtain ⟨h1, h⟩ := bb h
  obtain ⟨h2, h3⟩ := bb h
  obtain ⟨a1, h1⟩ := bb h1
  obtain ⟨a2, h1⟩ := bb h1
  obtain ⟨a3, h1⟩ := bb h1
  obtain ⟨a4, a5⟩ := bb h1
  obtain ⟨c1, h2⟩ := bb h2
  obtain ⟨c2, h2⟩ := bb h2
  obtain ⟨c3, h2⟩ := bb h2
  obtain ⟨c4, h2⟩ := bb h2
  obtain ⟨c5, h2⟩ := bb h2
  obtain ⟨c6, c7⟩ := bb h2
  obtain ⟨d1, h3⟩ := bb h3
  obtain ⟨d2, h3⟩ := bb h3
  obtain ⟨d3, h3⟩ := bb h3
  obtain ⟨d4, h3⟩ := bb h3
  obtain ⟨d5, h3⟩ := bb h3
  obtain ⟨d6, h3⟩ := bb h3
  obtain ⟨d7, h3⟩ := bb h3
  obtain ⟨d8, h3⟩ := bb h3
  obtain ⟨d9, h3⟩ := bb h3
  obtain ⟨da, db⟩ := bb h3
  exact ⟨a1, a2, of_decide_eq_true a3, of_decide_eq_true a4, of_decide_eq_true a5, ⟨He.eqO_ok c1, He.eqO_ok c2, of_decide_eq_true a3, c3, He.eqO_ok c4, He.eqO_ok c5, of_decide_eq_true c6, of_decide_eq_true c7⟩,
    of_decide_eq_true d1, of_decide_eq_true d2, of_decide_eq_true d3, of_decide_eq_true d4, of_decide_eq_true d5, of_decide_eq_true d6, of_decide_eq_true d7, of_decide_eq_true d8, of_decide_eq_true d9, of_decide_eq_true da, of_decide_eq_true db⟩
end K29
/-! text K29Head -/
namespace K29
open PySem PySem.Spec PyProof.Rows L2
abbrev R : PySem.W.OpenRow := PySem.W.OpenLaw.row PySem.Challenge.rw_snapsure_k29_whole_steppers_beside
abbrev hk : PySem.W.Hook := He.hookX 6 fa fn [] tf ex
def ob (s : PySem.W.SharedT) : He.AlX := He.obsX 6 fa fn [] tf ex (HandSHeadRun.getT s)
theorem ob_eq (s : PySem.W.SharedT) : ob s = hk.obs s.abs := He.obsX_eq (HandSHeadRun.getT_eq s)
def loose0 : List PySem.Str := ["_wall", "SnapError", "BookError", "StepError", "NoKeys", "NoKey", "NoDealing", "NoNumber", "Over", "NoStep", "NoEnd", "NoDeed", "TooMany", "is_whole", "is_pair", "dealing_copied", "book_copied", "number_by", "dealing_by", "has_many", "is_key_by", "is_key", "are_keys", "MOST_BEGUN", "Deal", "Stepper", "_law_some_keys", "_law_wrote", "_law_last", "_law_step"]
def loose1 : List PySem.Str := ["_law_is_off", "_law_do", "_law_again", "_law_draw", "_law_wish", "_law_kind", "_law_told", "_law_keys", "_law_left", "_law_next", "_law_same", "_law_doing", "_law_names", "_law_marks", "_law_steps", "_law_book", "_law_pool", "_law_copied", "_law_state_text", "_law_all_keys", "_law_stands_so", "_law_deed"]
def loose : List PySem.Str := loose0 ++ loose1
theorem run (w : World) : HandSHeadRun.RunEq R (PySem.W.view R.prog [57]) hk ob 8000 loose w := by
  intro os
  kernel_rfl
end K29
/-! text K29Math -/
namespace K29
open PySem
/-! ### books, dealings that were begun, rows -/
abbrev Ky := Str × Int
structure Dl where
  name : Str
  letters : List (Str × Str)
  steps : List (Str × Str)
structure Bk where
  kinds : List (Str × Bool)
  deals : List Dl
inductive Wd where
  | op | st | of
  deriving DecidableEq
def Wd.s : Wd → Str
  | .op => "open"
  | .st => "stands"
  | .of => "off"
structure Tk where
  deed : Str
  key : Ky
  seen : Option Nat
structure Ds where
  deal : Nat
  keys : List Ky
  told : List Tk
  begun : Nat
  ended : Option Nat
  word : Wd
inductive Row where
  | bgn (n : Str) (ks : List Ky)
  | stp (i : Nat)
  | fin (i : Nat)
  | drp (i : Nat)

def wrote (ts : List Tk) : List Ky := (ts.filter fun t => decide (t.deed ≠ ("read" : Str))).map (·.key)
def endOf (d : Ds) : Nat := d.ended.getD 0
def isCand (key : Ky) (row : Nat) (d : Ds) : Bool := decide (d.word = .st) && (decide (endOf d < row) && decide (key ∈ wrote d.told))
def endAt (ds : List Ds) (i : Nat) : Nat := match ds[i]? with
  | some d => endOf d
  | none => 0
def stepL (ds : List Ds) (key : Ky) (row : Nat) (f : Option Nat) (i : Nat) : Option Nat := match ds[i]? with
  | some d => if isCand key row d = true then (match f with
    | none => some i
    | some j => if endAt ds j < endOf d then some i else some j) else f
  | none => f
/-- the last of the first n, as the law's loop finds it -/
def lastG (ds : List Ds) (key : Ky) (row : Nat) : Nat → Option Nat
  | 0 => none
  | n + 1 => stepL ds key row (lastG ds key row n) n
def lastW (ds : List Ds) (key : Ky) (row : Nat) : Option Nat := lastG ds key row ds.length
def Cand (ds : List Ds) (key : Ky) (row i : Nat) : Prop := ∃ d, ds[i]? = some d ∧ isCand key row d = true
/-- r is the last writer among the first n -/
def IsL (ds : List Ds) (key : Ky) (row n : Nat) (r : Option Nat) : Prop := match r with
  | none => ∀ j, j < n → ¬ Cand ds key row j
  | some i => i < n ∧ Cand ds key row i ∧ ∀ j, j < n → Cand ds key row j → endAt ds j ≤ endAt ds i ∧ (j < i → endAt ds j < endAt ds i)
theorem endAt_some {ds : List Ds} {i : Nat} {d : Ds} (h : ds[i]? = some d) : endAt ds i = endOf d := by
  unfold endAt
  rw [h]
theorem isL_lastG (ds : List Ds) (key : Ky) (row : Nat) : ∀ n, IsL ds key row n (lastG ds key row n)
  | 0 => fun j hj => absurd hj (Nat.not_lt_zero _)
  | n + 1 => by
    have ih := isL_lastG ds key row n
    show IsL ds key row (n + 1) (stepL ds key row (lastG ds key row n) n)
    have ext : ∀ r, ¬ Cand ds key row n → IsL ds key row n r → IsL ds key row (n + 1) r := fun r hc hr => by
      cases r with
      | none =>
        intro j hj hcj
        by_cases e : j = n
        · rw [e] at hcj
          exact hc hcj
        · exact hr j (by omega) hcj
      | some i =>
        obtain ⟨h1, h2, h3⟩ := hr
        refine ⟨by omega, h2, fun j hj hcj => ?_⟩
        by_cases e : j = n
        · rw [e] at hcj
          exact absurd hcj hc
        · exact h3 j (by omega) hcj
    unfold stepL
    cases hd : ds[n]? with
    | none =>
      exact ext _ (fun ⟨d, h, _⟩ => by rw [hd] at h; cases h) ih
    | some d =>
      show IsL ds key row (n + 1) (if isCand key row d = true then _ else _)
      by_cases hc : isCand key row d = true
      · rw [if_pos hc]
        have cn : Cand ds key row n := ⟨d, hd, hc⟩
        have en := endAt_some hd
        generalize hl : lastG ds key row n = r at ih
        cases r with
        | none =>
          refine ⟨by omega, cn, fun j hj hcj => ?_⟩
          by_cases e : j = n
          · subst e
            exact ⟨Nat.le_refl _, fun h => absurd h (Nat.lt_irrefl _)⟩
          · exact absurd hcj (ih j (by omega))
        | some i =>
          obtain ⟨h1, h2, h3⟩ := ih
          show IsL ds key row (n + 1) (if endAt ds i < endOf d then some n else some i)
          by_cases hlt : endAt ds i < endOf d
          · rw [if_pos hlt]
            refine ⟨by omega, cn, fun j hj hcj => ?_⟩
            by_cases e : j = n
            · subst e
              exact ⟨Nat.le_refl _, fun h => absurd h (Nat.lt_irrefl _)⟩
            · have := (h3 j (by omega) hcj).1
              exact ⟨by omega, fun _ => by omega⟩
          · rw [if_neg hlt]
            refine ⟨by omega, h2, fun j hj hcj => ?_⟩
            by_cases e : j = n
            · subst e
              exact ⟨by omega, fun h => absurd h (by omega)⟩
            · exact h3 j (by omega) hcj
      · rw [if_neg hc]
        exact ext _ (fun ⟨d', h, h'⟩ => by rw [hd] at h; cases h; exact hc h') ih
theorem isL_unique {ds : List Ds} {key : Ky} {row n : Nat} {r r' : Option Nat} (h : IsL ds key row n r) (h' : IsL ds key row n r') : r = r' := by
  cases r with
  | none => cases r' with
    | none => rfl
    | some i => exact absurd h'.2.1 (h i h'.1)
  | some i => cases r' with
    | none => exact absurd h.2.1 (h' i h.1)
    | some j =>
      obtain ⟨a1, a2, a3⟩ := h
      obtain ⟨b1, b2, b3⟩ := h'
      have x := a3 j b1 b2
      have y := b3 i a1 a2
      have e : i = j := by
        rcases Nat.lt_trichotomy i j with z | z | z
        · have := y.2 z
          omega
        · exact z
        · have := x.2 z
          omega
      rw [e]
theorem lastW_of {ds : List Ds} {key : Ky} {row : Nat} {r : Option Nat} (h : IsL ds key row ds.length r) : r = lastW ds key row := isL_unique h (isL_lastG ds key row ds.length)

/-! ### rows done -/
def isOff (ds : List Ds) (own : Ds) : Bool := ds.any fun d => decide (d.word = .st) && (decide (own.begun < endOf d) && (wrote d.told).any fun k => decide (k ∈ wrote own.told))
def nameIx (b : Bk) (n : Str) : Nat := (b.deals.map (·.name)).findIdx fun m => decide (m = n)
def dealAt (b : Bk) (i : Nat) : Dl := (b.deals[i]?).getD ⟨Str.empty, [], []⟩
def nextOf (b : Bk) (d : Ds) : Str × Str := ((dealAt b d.deal).steps[d.told.length]?).getD (Str.empty, Str.empty)
def markIx (b : Bk) (i : Nat) (m : Str) : Nat := ((dealAt b i).letters.map (·.1)).findIdx fun x => decide (x = m)
def keyOf (b : Bk) (d : Ds) : Ky := (d.keys[markIx b d.deal (nextOf b d).2]?).getD (Str.empty, 0)
def seenOf (b : Bk) (ds : List Ds) (i : Nat) (d : Ds) : Option Nat := if (nextOf b d).1 = ("write" : Str) then none else if keyOf b d ∈ wrote d.told then some i else lastW ds (keyOf b d) d.begun
def tkOf (b : Bk) (ds : List Ds) (i : Nat) (d : Ds) : Tk := ⟨(nextOf b d).1, keyOf b d, seenOf b ds i d⟩
def modAt (ds : List Ds) (i : Nat) (f : Ds → Ds) : List Ds := match ds[i]? with
  | some d => ds.set i (f d)
  | none => ds
def doRow (b : Bk) (ds : List Ds) (n : Nat) : Row → List Ds
  | .bgn nm ks => ds ++ [⟨nameIx b nm, ks, [], n, none, .op⟩]
  | .stp i => modAt ds i fun d => { d with told := d.told ++ [tkOf b ds i d] }
  | .fin i => modAt ds i fun d => { d with ended := some n, word := if isOff ds d then .of else .st }
  | .drp i => modAt ds i fun d => { d with ended := some n, word := .of }
def agnS (b : Bk) (rows : List Row) : List Ds × Nat := rows.foldl (fun p r => (doRow b p.1 p.2 r, p.2 + 1)) ([], 0)
def agn (b : Bk) (rows : List Row) : List Ds := (agnS b rows).1
theorem agnS_snd (b : Bk) (rows : List Row) : (agnS b rows).2 = rows.length := by
  have key : ∀ (rows : List Row) (p : List Ds × Nat), (rows.foldl (fun p r => (doRow b p.1 p.2 r, p.2 + 1)) p).2 = p.2 + rows.length := by
    intro rows
    induction rows with
    | nil => intro p; rfl
    | cons r rows ih =>
      intro p
      rw [List.foldl_cons, ih, List.length_cons]
      show p.2 + 1 + rows.length = _
      omega
  unfold agnS
  rw [key]
  exact Nat.zero_add _
theorem agn_nil (b : Bk) : agn b [] = [] := rfl
theorem agn_snoc (b : Bk) (rows : List Row) (r : Row) : agn b (rows ++ [r]) = doRow b (agn b rows) rows.length r := by
  have e := agnS_snd b rows
  have g : agnS b (rows ++ [r]) = (doRow b (agnS b rows).1 (agnS b rows).2 r, (agnS b rows).2 + 1) := by
    unfold agnS
    rw [List.foldl_append]
    rfl
  unfold agn
  rw [g, e]

/-! ### what a book, a key, a row must be -/
def isNm (x : Str) : Prop := 1 ≤ x.length ∧ x.length ≤ 9 ∧ ∀ c ∈ x.cps.toList, 97 ≤ c ∧ c ≤ 122
structure WfD (b : Bk) (d : Dl) : Prop where
  nm : isNm d.name
  l0 : 1 ≤ d.letters.length
  l4 : d.letters.length ≤ 4
  s8 : d.steps.length ≤ 8
  ln : (d.letters.map (·.1)).Nodup
  l1 : ∀ l ∈ d.letters, isNm l.1
  lk : ∀ l ∈ d.letters, l.2 ∈ b.kinds.map (·.1)
  sl : ∀ s ∈ d.steps, s.2 ∈ d.letters.map (·.1)
  sd : ∀ s ∈ d.steps, s.1 = ("read" : Str) ∨ s.1 = ("write" : Str) ∨ s.1 = ("ask" : Str)
structure WfB (b : Bk) : Prop where
  k2 : b.kinds.length ≤ 2
  kn : (b.kinds.map (·.1)).Nodup
  k1 : ∀ k ∈ b.kinds, isNm k.1
  d0 : 1 ≤ b.deals.length
  d3 : b.deals.length ≤ 3
  dn : (b.deals.map (·.name)).Nodup
  ds : ∀ d ∈ b.deals, WfD b d
def okKey (b : Bk) (k : Ky) : Prop := (∃ m, (k.1, m) ∈ b.kinds ∧ (m = true ∨ k.2 = 0)) ∧ 0 ≤ k.2 ∧ k.2 ≤ 1
/-- keys for the letters of a dealing -/
def okKeys (b : Bk) (d : Dl) (ks : List Ky) : Prop := ks.map (·.1) = d.letters.map (·.2) ∧ ∀ k ∈ ks, okKey b k
def isOp (b : Bk) (ds : List Ds) (i : Nat) (p : Ds → Prop) : Prop := ∃ d, ds[i]? = some d ∧ d.word = .op ∧ p d
def okRow (b : Bk) (ds : List Ds) : Row → Prop
  | .bgn nm ks => ds.length < 9 ∧ ∃ d ∈ b.deals, d.name = nm ∧ okKeys b d ks
  | .stp i => isOp b ds i fun d => d.told.length < (dealAt b d.deal).steps.length
  | .fin i => isOp b ds i fun d => d.told.length = (dealAt b d.deal).steps.length
  | .drp i => isOp b ds i fun _ => True
inductive OkR (b : Bk) : List Row → Prop where
  | nil : OkR b []
  | snoc {rows : List Row} {r : Row} : OkR b rows → okRow b (agn b rows) r → OkR b (rows ++ [r])
end K29
/-! text K29Facts -/
namespace K29
open PySem PySem.Spec PyProof.Rows L2
/-- what the top has left -/
structure Tp (K : PySem.W.Frag) (mg : Str → Option Value) : Prop where
  ex : ∃ h : Heap, K.In h ∧ h.Ns mainGlobals mg
  d : He.SaysD fa fn K
section
variable {K : PySem.W.Frag} {mg : Str → Option Value}
theorem Tp.glo (T : Tp K mg) {x : Str} (c : (He.Fa.glo x).ok K = true) : mg x = some (.ref (He.ga K x)) := by
  obtain ⟨h, X, G⟩ := T.ex
  exact He.glo_ok X G c
theorem Tp.free (T : Tp K mg) {x : Str} (c : (He.Fa.free x).ok K = true) : mg x = none := by
  obtain ⟨h, X, G⟩ := T.ex
  exact He.free_ok X G c
theorem Tp.int (T : Tp K mg) {x : Str} {i : Int} (c : (He.Fa.int x i).ok K = true) : ∃ t, mg x = some (.int i t) := by
  obtain ⟨h, X, G⟩ := T.ex
  exact He.int_ok X G c
theorem Tp.g_is_whole (T : Tp K mg) : mg "is_whole" = some (.ref (He.ga K "is_whole")) := T.glo (T.d.fact 0 (f := .glo "is_whole") rfl)
theorem Tp.g_is_pair (T : Tp K mg) : mg "is_pair" = some (.ref (He.ga K "is_pair")) := T.glo (T.d.fact 1 (f := .glo "is_pair") rfl)
theorem Tp.g_dealing_copied (T : Tp K mg) : mg "dealing_copied" = some (.ref (He.ga K "dealing_copied")) := T.glo (T.d.fact 2 (f := .glo "dealing_copied") rfl)
theorem Tp.g_book_copied (T : Tp K mg) : mg "book_copied" = some (.ref (He.ga K "book_copied")) := T.glo (T.d.fact 3 (f := .glo "book_copied") rfl)
theorem Tp.g_number_by (T : Tp K mg) : mg "number_by" = some (.ref (He.ga K "number_by")) := T.glo (T.d.fact 4 (f := .glo "number_by") rfl)
theorem Tp.g_dealing_by (T : Tp K mg) : mg "dealing_by" = some (.ref (He.ga K "dealing_by")) := T.glo (T.d.fact 5 (f := .glo "dealing_by") rfl)
theorem Tp.g_has_many (T : Tp K mg) : mg "has_many" = some (.ref (He.ga K "has_many")) := T.glo (T.d.fact 6 (f := .glo "has_many") rfl)
theorem Tp.g_is_key_by (T : Tp K mg) : mg "is_key_by" = some (.ref (He.ga K "is_key_by")) := T.glo (T.d.fact 7 (f := .glo "is_key_by") rfl)
theorem Tp.g_is_key (T : Tp K mg) : mg "is_key" = some (.ref (He.ga K "is_key")) := T.glo (T.d.fact 8 (f := .glo "is_key") rfl)
theorem Tp.g_are_keys (T : Tp K mg) : mg "are_keys" = some (.ref (He.ga K "are_keys")) := T.glo (T.d.fact 9 (f := .glo "are_keys") rfl)
theorem Tp.g_law_some_keys (T : Tp K mg) : mg "_law_some_keys" = some (.ref (He.ga K "_law_some_keys")) := T.glo (T.d.fact 10 (f := .glo "_law_some_keys") rfl)
theorem Tp.g_law_wrote (T : Tp K mg) : mg "_law_wrote" = some (.ref (He.ga K "_law_wrote")) := T.glo (T.d.fact 11 (f := .glo "_law_wrote") rfl)
theorem Tp.g_law_last (T : Tp K mg) : mg "_law_last" = some (.ref (He.ga K "_law_last")) := T.glo (T.d.fact 12 (f := .glo "_law_last") rfl)
theorem Tp.g_law_step (T : Tp K mg) : mg "_law_step" = some (.ref (He.ga K "_law_step")) := T.glo (T.d.fact 13 (f := .glo "_law_step") rfl)
theorem Tp.g_law_is_off (T : Tp K mg) : mg "_law_is_off" = some (.ref (He.ga K "_law_is_off")) := T.glo (T.d.fact 14 (f := .glo "_law_is_off") rfl)
theorem Tp.g_law_do (T : Tp K mg) : mg "_law_do" = some (.ref (He.ga K "_law_do")) := T.glo (T.d.fact 15 (f := .glo "_law_do") rfl)
theorem Tp.g_law_again (T : Tp K mg) : mg "_law_again" = some (.ref (He.ga K "_law_again")) := T.glo (T.d.fact 16 (f := .glo "_law_again") rfl)
theorem Tp.g_law_draw (T : Tp K mg) : mg "_law_draw" = some (.ref (He.ga K "_law_draw")) := T.glo (T.d.fact 17 (f := .glo "_law_draw") rfl)
theorem Tp.g_law_wish (T : Tp K mg) : mg "_law_wish" = some (.ref (He.ga K "_law_wish")) := T.glo (T.d.fact 18 (f := .glo "_law_wish") rfl)
theorem Tp.g_law_kind (T : Tp K mg) : mg "_law_kind" = some (.ref (He.ga K "_law_kind")) := T.glo (T.d.fact 19 (f := .glo "_law_kind") rfl)
theorem Tp.g_law_told (T : Tp K mg) : mg "_law_told" = some (.ref (He.ga K "_law_told")) := T.glo (T.d.fact 20 (f := .glo "_law_told") rfl)
theorem Tp.g_law_keys (T : Tp K mg) : mg "_law_keys" = some (.ref (He.ga K "_law_keys")) := T.glo (T.d.fact 21 (f := .glo "_law_keys") rfl)
theorem Tp.g_law_left (T : Tp K mg) : mg "_law_left" = some (.ref (He.ga K "_law_left")) := T.glo (T.d.fact 22 (f := .glo "_law_left") rfl)
theorem Tp.g_law_next (T : Tp K mg) : mg "_law_next" = some (.ref (He.ga K "_law_next")) := T.glo (T.d.fact 23 (f := .glo "_law_next") rfl)
theorem Tp.g_law_same (T : Tp K mg) : mg "_law_same" = some (.ref (He.ga K "_law_same")) := T.glo (T.d.fact 24 (f := .glo "_law_same") rfl)
theorem Tp.g_law_doing (T : Tp K mg) : mg "_law_doing" = some (.ref (He.ga K "_law_doing")) := T.glo (T.d.fact 25 (f := .glo "_law_doing") rfl)
theorem Tp.g_law_names (T : Tp K mg) : mg "_law_names" = some (.ref (He.ga K "_law_names")) := T.glo (T.d.fact 26 (f := .glo "_law_names") rfl)
theorem Tp.g_law_marks (T : Tp K mg) : mg "_law_marks" = some (.ref (He.ga K "_law_marks")) := T.glo (T.d.fact 27 (f := .glo "_law_marks") rfl)
theorem Tp.g_law_steps (T : Tp K mg) : mg "_law_steps" = some (.ref (He.ga K "_law_steps")) := T.glo (T.d.fact 28 (f := .glo "_law_steps") rfl)
theorem Tp.g_law_book (T : Tp K mg) : mg "_law_book" = some (.ref (He.ga K "_law_book")) := T.glo (T.d.fact 29 (f := .glo "_law_book") rfl)
theorem Tp.g_law_pool (T : Tp K mg) : mg "_law_pool" = some (.ref (He.ga K "_law_pool")) := T.glo (T.d.fact 30 (f := .glo "_law_pool") rfl)
theorem Tp.g_law_copied (T : Tp K mg) : mg "_law_copied" = some (.ref (He.ga K "_law_copied")) := T.glo (T.d.fact 31 (f := .glo "_law_copied") rfl)
theorem Tp.g_law_state_text (T : Tp K mg) : mg "_law_state_text" = some (.ref (He.ga K "_law_state_text")) := T.glo (T.d.fact 32 (f := .glo "_law_state_text") rfl)
theorem Tp.g_law_all_keys (T : Tp K mg) : mg "_law_all_keys" = some (.ref (He.ga K "_law_all_keys")) := T.glo (T.d.fact 33 (f := .glo "_law_all_keys") rfl)
theorem Tp.g_law_stands_so (T : Tp K mg) : mg "_law_stands_so" = some (.ref (He.ga K "_law_stands_so")) := T.glo (T.d.fact 34 (f := .glo "_law_stands_so") rfl)
theorem Tp.g_law_deed (T : Tp K mg) : mg "_law_deed" = some (.ref (He.ga K "_law_deed")) := T.glo (T.d.fact 35 (f := .glo "_law_deed") rfl)
theorem Tp.g_law (T : Tp K mg) : mg "law" = some (.ref (He.ga K "law")) := T.glo (T.d.fact 36 (f := .glo "law") rfl)
theorem Tp.g_SnapError (T : Tp K mg) : mg "SnapError" = some (.ref (He.ga K "SnapError")) := T.glo (T.d.fact 37 (f := .glo "SnapError") rfl)
theorem Tp.g_BookError (T : Tp K mg) : mg "BookError" = some (.ref (He.ga K "BookError")) := T.glo (T.d.fact 38 (f := .glo "BookError") rfl)
theorem Tp.g_StepError (T : Tp K mg) : mg "StepError" = some (.ref (He.ga K "StepError")) := T.glo (T.d.fact 39 (f := .glo "StepError") rfl)
theorem Tp.g_NoKeys (T : Tp K mg) : mg "NoKeys" = some (.ref (He.ga K "NoKeys")) := T.glo (T.d.fact 40 (f := .glo "NoKeys") rfl)
theorem Tp.g_NoKey (T : Tp K mg) : mg "NoKey" = some (.ref (He.ga K "NoKey")) := T.glo (T.d.fact 41 (f := .glo "NoKey") rfl)
theorem Tp.g_NoDealing (T : Tp K mg) : mg "NoDealing" = some (.ref (He.ga K "NoDealing")) := T.glo (T.d.fact 42 (f := .glo "NoDealing") rfl)
theorem Tp.g_NoNumber (T : Tp K mg) : mg "NoNumber" = some (.ref (He.ga K "NoNumber")) := T.glo (T.d.fact 43 (f := .glo "NoNumber") rfl)
theorem Tp.g_Over (T : Tp K mg) : mg "Over" = some (.ref (He.ga K "Over")) := T.glo (T.d.fact 44 (f := .glo "Over") rfl)
theorem Tp.g_NoStep (T : Tp K mg) : mg "NoStep" = some (.ref (He.ga K "NoStep")) := T.glo (T.d.fact 45 (f := .glo "NoStep") rfl)
theorem Tp.g_NoEnd (T : Tp K mg) : mg "NoEnd" = some (.ref (He.ga K "NoEnd")) := T.glo (T.d.fact 46 (f := .glo "NoEnd") rfl)
theorem Tp.g_NoDeed (T : Tp K mg) : mg "NoDeed" = some (.ref (He.ga K "NoDeed")) := T.glo (T.d.fact 47 (f := .glo "NoDeed") rfl)
theorem Tp.g_TooMany (T : Tp K mg) : mg "TooMany" = some (.ref (He.ga K "TooMany")) := T.glo (T.d.fact 48 (f := .glo "TooMany") rfl)
theorem Tp.g_Deal (T : Tp K mg) : mg "Deal" = some (.ref (He.ga K "Deal")) := T.glo (T.d.fact 49 (f := .glo "Deal") rfl)
theorem Tp.g_Stepper (T : Tp K mg) : mg "Stepper" = some (.ref (He.ga K "Stepper")) := T.glo (T.d.fact 50 (f := .glo "Stepper") rfl)
theorem Tp.i_MOST_BEGUN (T : Tp K mg) : ∃ t, mg "MOST_BEGUN" = some (.int 40 t) := T.int (T.d.fact 51 (f := .int "MOST_BEGUN" 40) rfl)
theorem Tp.b_isinstance (T : Tp K mg) : mg "isinstance" = none := T.free (T.d.fact 52 (f := .free "isinstance") rfl)
theorem Tp.b_len (T : Tp K mg) : mg "len" = none := T.free (T.d.fact 53 (f := .free "len") rfl)
theorem Tp.b_tuple (T : Tp K mg) : mg "tuple" = none := T.free (T.d.fact 54 (f := .free "tuple") rfl)
theorem Tp.b_list (T : Tp K mg) : mg "list" = none := T.free (T.d.fact 55 (f := .free "list") rfl)
theorem Tp.b_dict (T : Tp K mg) : mg "dict" = none := T.free (T.d.fact 56 (f := .free "dict") rfl)
theorem Tp.b_enumerate (T : Tp K mg) : mg "enumerate" = none := T.free (T.d.fact 57 (f := .free "enumerate") rfl)
theorem Tp.b_str (T : Tp K mg) : mg "str" = none := T.free (T.d.fact 58 (f := .free "str") rfl)
theorem Tp.b_int (T : Tp K mg) : mg "int" = none := T.free (T.d.fact 59 (f := .free "int") rfl)
theorem Tp.b_zip (T : Tp K mg) : mg "zip" = none := T.free (T.d.fact 60 (f := .free "zip") rfl)
theorem Tp.b_bool (T : Tp K mg) : mg "bool" = none := T.free (T.d.fact 61 (f := .free "bool") rfl)
theorem Tp.b_max (T : Tp K mg) : mg "max" = none := T.free (T.d.fact 62 (f := .free "max") rfl)
theorem Tp.b_min (T : Tp K mg) : mg "min" = none := T.free (T.d.fact 63 (f := .free "min") rfl)
theorem Tp.b_any (T : Tp K mg) : mg "any" = none := T.free (T.d.fact 64 (f := .free "any") rfl)
theorem Tp.b_range (T : Tp K mg) : mg "range" = none := T.free (T.d.fact 65 (f := .free "range") rfl)
theorem Tp.b_repr (T : Tp K mg) : mg "repr" = none := T.free (T.d.fact 66 (f := .free "repr") rfl)
theorem Tp.b_KeyError (T : Tp K mg) : mg "KeyError" = none := T.free (T.d.fact 67 (f := .free "KeyError") rfl)
theorem Tp.c_Deal (T : Tp K mg) : Cls K (He.ga K "Deal") := He.cls_ok (T.d.fact 68 (f := .cls "Deal") rfl)
theorem Tp.mk_Deal (T : Tp K mg) : Mk K (He.ga K "Deal") (He.fAd K ("Deal", some "__init__")) := He.mkr_ok (T.d.fact 69 (f := .mkr "Deal") rfl)
theorem Tp.c_Stepper (T : Tp K mg) : Cls K (He.ga K "Stepper") := He.cls_ok (T.d.fact 70 (f := .cls "Stepper") rfl)
theorem Tp.mk_Stepper (T : Tp K mg) : Mk K (He.ga K "Stepper") (He.fAd K ("Stepper", some "__init__")) := He.mkr_ok (T.d.fact 71 (f := .mkr "Stepper") rfl)
theorem Tp.n_title (T : Tp K mg) : NoAttr K (He.ga K "Deal") "title" := He.noat_ok (T.d.fact 72 (f := .noat "Deal" "title") rfl)
theorem Tp.n_given (T : Tp K mg) : NoAttr K (He.ga K "Deal") "given" := He.noat_ok (T.d.fact 73 (f := .noat "Deal" "given") rfl)
theorem Tp.n_key_by (T : Tp K mg) : NoAttr K (He.ga K "Deal") "key_by" := He.noat_ok (T.d.fact 74 (f := .noat "Deal" "key_by") rfl)
theorem Tp.n_ahead (T : Tp K mg) : NoAttr K (He.ga K "Deal") "ahead" := He.noat_ok (T.d.fact 75 (f := .noat "Deal" "ahead") rfl)
theorem Tp.n_told (T : Tp K mg) : NoAttr K (He.ga K "Deal") "told" := He.noat_ok (T.d.fact 76 (f := .noat "Deal" "told") rfl)
theorem Tp.n_begun (T : Tp K mg) : NoAttr K (He.ga K "Deal") "begun" := He.noat_ok (T.d.fact 77 (f := .noat "Deal" "begun") rfl)
theorem Tp.n_ended (T : Tp K mg) : NoAttr K (He.ga K "Deal") "ended" := He.noat_ok (T.d.fact 78 (f := .noat "Deal" "ended") rfl)
theorem Tp.n_word (T : Tp K mg) : NoAttr K (He.ga K "Deal") "word" := He.noat_ok (T.d.fact 79 (f := .noat "Deal" "word") rfl)
theorem Tp.n_own_book (T : Tp K mg) : NoAttr K (He.ga K "Stepper") "own_book" := He.noat_ok (T.d.fact 80 (f := .noat "Stepper" "own_book") rfl)
theorem Tp.n_deals (T : Tp K mg) : NoAttr K (He.ga K "Stepper") "deals" := He.noat_ok (T.d.fact 81 (f := .noat "Stepper" "deals") rfl)
theorem Tp.n_log (T : Tp K mg) : NoAttr K (He.ga K "Stepper") "log" := He.noat_ok (T.d.fact 82 (f := .noat "Stepper" "log") rfl)
theorem Tp.m_D_init (T : Tp K mg) : Meth K (He.ga K "Deal") "__init__" (He.fAd K ("Deal", some "__init__")) := He.meth_ok (T.d.fact 83 (f := .meth "Deal" "__init__") rfl)
theorem Tp.m_D_next_deed (T : Tp K mg) : Meth K (He.ga K "Deal") "next_deed" (He.fAd K ("Deal", some "next_deed")) := He.meth_ok (T.d.fact 84 (f := .meth "Deal" "next_deed") rfl)
theorem Tp.m_D_steps_left (T : Tp K mg) : Meth K (He.ga K "Deal") "steps_left" (He.fAd K ("Deal", some "steps_left")) := He.meth_ok (T.d.fact 85 (f := .meth "Deal" "steps_left") rfl)
theorem Tp.m_D_written (T : Tp K mg) : Meth K (He.ga K "Deal") "written" (He.fAd K ("Deal", some "written")) := He.meth_ok (T.d.fact 86 (f := .meth "Deal" "written") rfl)
theorem Tp.m_D_closed (T : Tp K mg) : Meth K (He.ga K "Deal") "closed" (He.fAd K ("Deal", some "closed")) := He.meth_ok (T.d.fact 87 (f := .meth "Deal" "closed") rfl)
theorem Tp.m_D_opened (T : Tp K mg) : Meth K (He.ga K "Deal") "opened" (He.fAd K ("Deal", some "opened")) := He.meth_ok (T.d.fact 88 (f := .meth "Deal" "opened") rfl)
theorem Tp.m_S_init (T : Tp K mg) : Meth K (He.ga K "Stepper") "__init__" (He.fAd K ("Stepper", some "__init__")) := He.meth_ok (T.d.fact 89 (f := .meth "Stepper" "__init__") rfl)
theorem Tp.m_S_begin (T : Tp K mg) : Meth K (He.ga K "Stepper") "begin" (He.fAd K ("Stepper", some "begin")) := He.meth_ok (T.d.fact 90 (f := .meth "Stepper" "begin") rfl)
theorem Tp.m_S_deal_by (T : Tp K mg) : Meth K (He.ga K "Stepper") "deal_by" (He.fAd K ("Stepper", some "deal_by")) := He.meth_ok (T.d.fact 91 (f := .meth "Stepper" "deal_by") rfl)
theorem Tp.m_S_open_deal (T : Tp K mg) : Meth K (He.ga K "Stepper") "open_deal" (He.fAd K ("Stepper", some "open_deal")) := He.meth_ok (T.d.fact 92 (f := .meth "Stepper" "open_deal") rfl)
theorem Tp.m_S_last_writer (T : Tp K mg) : Meth K (He.ga K "Stepper") "last_writer" (He.fAd K ("Stepper", some "last_writer")) := He.meth_ok (T.d.fact 93 (f := .meth "Stepper" "last_writer") rfl)
theorem Tp.m_S_step (T : Tp K mg) : Meth K (He.ga K "Stepper") "step" (He.fAd K ("Stepper", some "step")) := He.meth_ok (T.d.fact 94 (f := .meth "Stepper" "step") rfl)
theorem Tp.m_S_is_called_off (T : Tp K mg) : Meth K (He.ga K "Stepper") "is_called_off" (He.fAd K ("Stepper", some "is_called_off")) := He.meth_ok (T.d.fact 95 (f := .meth "Stepper" "is_called_off") rfl)
theorem Tp.m_S_look_at_end (T : Tp K mg) : Meth K (He.ga K "Stepper") "look_at_end" (He.fAd K ("Stepper", some "look_at_end")) := He.meth_ok (T.d.fact 96 (f := .meth "Stepper" "look_at_end") rfl)
theorem Tp.m_S_close (T : Tp K mg) : Meth K (He.ga K "Stepper") "close" (He.fAd K ("Stepper", some "close")) := He.meth_ok (T.d.fact 97 (f := .meth "Stepper" "close") rfl)
theorem Tp.m_S_shut (T : Tp K mg) : Meth K (He.ga K "Stepper") "shut" (He.fAd K ("Stepper", some "shut")) := He.meth_ok (T.d.fact 98 (f := .meth "Stepper" "shut") rfl)
theorem Tp.m_S_end (T : Tp K mg) : Meth K (He.ga K "Stepper") "end" (He.fAd K ("Stepper", some "end")) := He.meth_ok (T.d.fact 99 (f := .meth "Stepper" "end") rfl)
theorem Tp.m_S_drop (T : Tp K mg) : Meth K (He.ga K "Stepper") "drop" (He.fAd K ("Stepper", some "drop")) := He.meth_ok (T.d.fact 100 (f := .meth "Stepper" "drop") rfl)
theorem Tp.m_S_undo (T : Tp K mg) : Meth K (He.ga K "Stepper") "undo" (He.fAd K ("Stepper", some "undo")) := He.meth_ok (T.d.fact 101 (f := .meth "Stepper" "undo") rfl)
theorem Tp.m_S_state (T : Tp K mg) : Meth K (He.ga K "Stepper") "state" (He.fAd K ("Stepper", some "state")) := He.meth_ok (T.d.fact 102 (f := .meth "Stepper" "state") rfl)
theorem Tp.m_S_left (T : Tp K mg) : Meth K (He.ga K "Stepper") "left" (He.fAd K ("Stepper", some "left")) := He.meth_ok (T.d.fact 103 (f := .meth "Stepper" "left") rfl)
theorem Tp.m_S_writer (T : Tp K mg) : Meth K (He.ga K "Stepper") "writer" (He.fAd K ("Stepper", some "writer")) := He.meth_ok (T.d.fact 104 (f := .meth "Stepper" "writer") rfl)
theorem Tp.m_S_rows (T : Tp K mg) : Meth K (He.ga K "Stepper") "rows" (He.fAd K ("Stepper", some "rows")) := He.meth_ok (T.d.fact 105 (f := .meth "Stepper" "rows") rfl)
theorem Tp.m_S_len (T : Tp K mg) : Meth K (He.ga K "Stepper") "__len__" (He.fAd K ("Stepper", some "__len__")) := He.meth_ok (T.d.fact 106 (f := .meth "Stepper" "__len__") rfl)
theorem Tp.m_S_str (T : Tp K mg) : Meth K (He.ga K "Stepper") "__str__" (He.fAd K ("Stepper", some "__str__")) := He.meth_ok (T.d.fact 107 (f := .meth "Stepper" "__str__") rfl)
theorem sc_f_is_whole : FnScope n_f_is_whole p_f_is_whole (defScope s_f_is_whole) := ⟨rfl, rfl, rfl, by decide +kernel, rfl, by decide +kernel, by decide +kernel⟩
theorem Tp.f_f_is_whole (T : Tp K mg) : ∃ fd, (FunD K "is_whole" "is_whole" (defArgs s_f_is_whole) (defBody s_f_is_whole) (defScope s_f_is_whole) [] [] (He.fAd K d_f_is_whole.at_) fd) ∧ Binds K fd p_f_is_whole [] := by
  obtain ⟨fd, F⟩ := T.d.def_ 0 (d := d_f_is_whole) rfl
  exact ⟨fd, F, FunD.bindsN F fun _ _ _ _ _ _ us hl => match us, hl with | [_], _ => rfl⟩
theorem sc_f_is_pair : FnScope n_f_is_pair p_f_is_pair (defScope s_f_is_pair) := ⟨rfl, rfl, rfl, by decide +kernel, rfl, by decide +kernel, by decide +kernel⟩
theorem Tp.f_f_is_pair (T : Tp K mg) : ∃ fd, (FunD K "is_pair" "is_pair" (defArgs s_f_is_pair) (defBody s_f_is_pair) (defScope s_f_is_pair) [] [] (He.fAd K d_f_is_pair.at_) fd) ∧ Binds K fd p_f_is_pair [] := by
  obtain ⟨fd, F⟩ := T.d.def_ 1 (d := d_f_is_pair) rfl
  exact ⟨fd, F, FunD.bindsN F fun _ _ _ _ _ _ us hl => match us, hl with | [_], _ => rfl⟩
theorem sc_f_dealing_copied : FnScope n_f_dealing_copied p_f_dealing_copied (defScope s_f_dealing_copied) := ⟨rfl, rfl, rfl, by decide +kernel, rfl, by decide +kernel, by decide +kernel⟩
theorem Tp.f_f_dealing_copied (T : Tp K mg) : ∃ fd, (FunD K "dealing_copied" "dealing_copied" (defArgs s_f_dealing_copied) (defBody s_f_dealing_copied) (defScope s_f_dealing_copied) [] [] (He.fAd K d_f_dealing_copied.at_) fd) ∧ Binds K fd p_f_dealing_copied [] := by
  obtain ⟨fd, F⟩ := T.d.def_ 2 (d := d_f_dealing_copied) rfl
  exact ⟨fd, F, FunD.bindsN F fun _ _ _ _ _ _ us hl => match us, hl with | [_], _ => rfl⟩
theorem sc_f_book_copied : FnScope n_f_book_copied p_f_book_copied (defScope s_f_book_copied) := ⟨rfl, rfl, rfl, by decide +kernel, rfl, by decide +kernel, by decide +kernel⟩
theorem Tp.f_f_book_copied (T : Tp K mg) : ∃ fd, (FunD K "book_copied" "book_copied" (defArgs s_f_book_copied) (defBody s_f_book_copied) (defScope s_f_book_copied) [] [] (He.fAd K d_f_book_copied.at_) fd) ∧ Binds K fd p_f_book_copied [] := by
  obtain ⟨fd, F⟩ := T.d.def_ 3 (d := d_f_book_copied) rfl
  exact ⟨fd, F, FunD.bindsN F fun _ _ _ _ _ _ us hl => match us, hl with | [_], _ => rfl⟩
theorem sc_f_number_by : FnScope n_f_number_by p_f_number_by (defScope s_f_number_by) := ⟨rfl, rfl, rfl, by decide +kernel, rfl, by decide +kernel, by decide +kernel⟩
theorem Tp.f_f_number_by (T : Tp K mg) : ∃ fd, (FunD K "number_by" "number_by" (defArgs s_f_number_by) (defBody s_f_number_by) (defScope s_f_number_by) [] [] (He.fAd K d_f_number_by.at_) fd) ∧ Binds K fd p_f_number_by [] := by
  obtain ⟨fd, F⟩ := T.d.def_ 4 (d := d_f_number_by) rfl
  exact ⟨fd, F, FunD.bindsN F fun _ _ _ _ _ _ us hl => match us, hl with | [_, _], _ => rfl⟩
theorem sc_f_dealing_by : FnScope n_f_dealing_by p_f_dealing_by (defScope s_f_dealing_by) := ⟨rfl, rfl, rfl, by decide +kernel, rfl, by decide +kernel, by decide +kernel⟩
theorem Tp.f_f_dealing_by (T : Tp K mg) : ∃ fd, (FunD K "dealing_by" "dealing_by" (defArgs s_f_dealing_by) (defBody s_f_dealing_by) (defScope s_f_dealing_by) [] [] (He.fAd K d_f_dealing_by.at_) fd) ∧ Binds K fd p_f_dealing_by [] := by
  obtain ⟨fd, F⟩ := T.d.def_ 5 (d := d_f_dealing_by) rfl
  exact ⟨fd, F, FunD.bindsN F fun _ _ _ _ _ _ us hl => match us, hl with | [_, _], _ => rfl⟩
theorem sc_f_has_many : FnScope n_f_has_many p_f_has_many (defScope s_f_has_many) := ⟨rfl, rfl, rfl, by decide +kernel, rfl, by decide +kernel, by decide +kernel⟩
theorem Tp.f_f_has_many (T : Tp K mg) : ∃ fd, (FunD K "has_many" "has_many" (defArgs s_f_has_many) (defBody s_f_has_many) (defScope s_f_has_many) [] [] (He.fAd K d_f_has_many.at_) fd) ∧ Binds K fd p_f_has_many [] := by
  obtain ⟨fd, F⟩ := T.d.def_ 6 (d := d_f_has_many) rfl
  exact ⟨fd, F, FunD.bindsN F fun _ _ _ _ _ _ us hl => match us, hl with | [_, _], _ => rfl⟩
theorem sc_f_is_key_by : FnScope n_f_is_key_by p_f_is_key_by (defScope s_f_is_key_by) := ⟨rfl, rfl, rfl, by decide +kernel, rfl, by decide +kernel, by decide +kernel⟩
theorem Tp.f_f_is_key_by (T : Tp K mg) : ∃ fd, (FunD K "is_key_by" "is_key_by" (defArgs s_f_is_key_by) (defBody s_f_is_key_by) (defScope s_f_is_key_by) [] [] (He.fAd K d_f_is_key_by.at_) fd) ∧ Binds K fd p_f_is_key_by [] := by
  obtain ⟨fd, F⟩ := T.d.def_ 7 (d := d_f_is_key_by) rfl
  exact ⟨fd, F, FunD.bindsN F fun _ _ _ _ _ _ us hl => match us, hl with | [_, _], _ => rfl⟩
theorem sc_f_is_key : FnScope n_f_is_key p_f_is_key (defScope s_f_is_key) := ⟨rfl, rfl, rfl, by decide +kernel, rfl, by decide +kernel, by decide +kernel⟩
theorem Tp.f_f_is_key (T : Tp K mg) : ∃ fd, (FunD K "is_key" "is_key" (defArgs s_f_is_key) (defBody s_f_is_key) (defScope s_f_is_key) [] [] (He.fAd K d_f_is_key.at_) fd) ∧ Binds K fd p_f_is_key [] := by
  obtain ⟨fd, F⟩ := T.d.def_ 8 (d := d_f_is_key) rfl
  exact ⟨fd, F, FunD.bindsN F fun _ _ _ _ _ _ us hl => match us, hl with | [_, _], _ => rfl⟩
theorem sc_f_are_keys : FnScope n_f_are_keys p_f_are_keys (defScope s_f_are_keys) := ⟨rfl, rfl, rfl, by decide +kernel, rfl, by decide +kernel, by decide +kernel⟩
theorem Tp.f_f_are_keys (T : Tp K mg) : ∃ fd, (FunD K "are_keys" "are_keys" (defArgs s_f_are_keys) (defBody s_f_are_keys) (defScope s_f_are_keys) [] [] (He.fAd K d_f_are_keys.at_) fd) ∧ Binds K fd p_f_are_keys [] := by
  obtain ⟨fd, F⟩ := T.d.def_ 9 (d := d_f_are_keys) rfl
  exact ⟨fd, F, FunD.bindsN F fun _ _ _ _ _ _ us hl => match us, hl with | [_, _, _], _ => rfl⟩
theorem sc_D_init : FnScope n_D_init p_D_init (defScope s_D_init) := ⟨rfl, rfl, rfl, by decide +kernel, rfl, by decide +kernel, by decide +kernel⟩
theorem Tp.f_D_init (T : Tp K mg) : ∃ fd, (FunD K "__init__" "Deal.__init__" (defArgs s_D_init) (defBody s_D_init) (defScope s_D_init) [] [] (He.fAd K d_D_init.at_) fd) ∧ Binds K fd p_D_init [] := by
  obtain ⟨fd, F⟩ := T.d.def_ 10 (d := d_D_init) rfl
  exact ⟨fd, F, FunD.bindsN F fun _ _ _ _ _ _ us hl => match us, hl with | [_, _, _, _], _ => rfl⟩
theorem sc_D_next_deed : FnScope n_D_next_deed p_D_next_deed (defScope s_D_next_deed) := ⟨rfl, rfl, rfl, by decide +kernel, rfl, by decide +kernel, by decide +kernel⟩
theorem Tp.f_D_next_deed (T : Tp K mg) : ∃ fd, (FunD K "next_deed" "Deal.next_deed" (defArgs s_D_next_deed) (defBody s_D_next_deed) (defScope s_D_next_deed) [] [] (He.fAd K d_D_next_deed.at_) fd) ∧ Binds K fd p_D_next_deed [] := by
  obtain ⟨fd, F⟩ := T.d.def_ 11 (d := d_D_next_deed) rfl
  exact ⟨fd, F, FunD.bindsN F fun _ _ _ _ _ _ us hl => match us, hl with | [_], _ => rfl⟩
theorem sc_D_steps_left : FnScope n_D_steps_left p_D_steps_left (defScope s_D_steps_left) := ⟨rfl, rfl, rfl, by decide +kernel, rfl, by decide +kernel, by decide +kernel⟩
theorem Tp.f_D_steps_left (T : Tp K mg) : ∃ fd, (FunD K "steps_left" "Deal.steps_left" (defArgs s_D_steps_left) (defBody s_D_steps_left) (defScope s_D_steps_left) [] [] (He.fAd K d_D_steps_left.at_) fd) ∧ Binds K fd p_D_steps_left [] := by
  obtain ⟨fd, F⟩ := T.d.def_ 12 (d := d_D_steps_left) rfl
  exact ⟨fd, F, FunD.bindsN F fun _ _ _ _ _ _ us hl => match us, hl with | [_], _ => rfl⟩
theorem sc_D_written : FnScope n_D_written p_D_written (defScope s_D_written) := ⟨rfl, rfl, rfl, by decide +kernel, rfl, by decide +kernel, by decide +kernel⟩
theorem Tp.f_D_written (T : Tp K mg) : ∃ fd, (FunD K "written" "Deal.written" (defArgs s_D_written) (defBody s_D_written) (defScope s_D_written) [] [] (He.fAd K d_D_written.at_) fd) ∧ Binds K fd p_D_written [] := by
  obtain ⟨fd, F⟩ := T.d.def_ 13 (d := d_D_written) rfl
  exact ⟨fd, F, FunD.bindsN F fun _ _ _ _ _ _ us hl => match us, hl with | [_], _ => rfl⟩
theorem sc_D_closed : FnScope n_D_closed p_D_closed (defScope s_D_closed) := ⟨rfl, rfl, rfl, by decide +kernel, rfl, by decide +kernel, by decide +kernel⟩
theorem Tp.f_D_closed (T : Tp K mg) : ∃ fd, (FunD K "closed" "Deal.closed" (defArgs s_D_closed) (defBody s_D_closed) (defScope s_D_closed) [] [] (He.fAd K d_D_closed.at_) fd) ∧ Binds K fd p_D_closed [] := by
  obtain ⟨fd, F⟩ := T.d.def_ 14 (d := d_D_closed) rfl
  exact ⟨fd, F, FunD.bindsN F fun _ _ _ _ _ _ us hl => match us, hl with | [_, _, _], _ => rfl⟩
theorem sc_D_opened : FnScope n_D_opened p_D_opened (defScope s_D_opened) := ⟨rfl, rfl, rfl, by decide +kernel, rfl, by decide +kernel, by decide +kernel⟩
theorem Tp.f_D_opened (T : Tp K mg) : ∃ fd, (FunD K "opened" "Deal.opened" (defArgs s_D_opened) (defBody s_D_opened) (defScope s_D_opened) [] [] (He.fAd K d_D_opened.at_) fd) ∧ Binds K fd p_D_opened [] := by
  obtain ⟨fd, F⟩ := T.d.def_ 15 (d := d_D_opened) rfl
  exact ⟨fd, F, FunD.bindsN F fun _ _ _ _ _ _ us hl => match us, hl with | [_], _ => rfl⟩
theorem sc_S_init : FnScope n_S_init p_S_init (defScope s_S_init) := ⟨rfl, rfl, rfl, by decide +kernel, rfl, by decide +kernel, by decide +kernel⟩
theorem Tp.f_S_init (T : Tp K mg) : ∃ fd, (FunD K "__init__" "Stepper.__init__" (defArgs s_S_init) (defBody s_S_init) (defScope s_S_init) [] [] (He.fAd K d_S_init.at_) fd) ∧ Binds K fd p_S_init [] := by
  obtain ⟨fd, F⟩ := T.d.def_ 16 (d := d_S_init) rfl
  exact ⟨fd, F, FunD.bindsN F fun _ _ _ _ _ _ us hl => match us, hl with | [_, _], _ => rfl⟩
theorem sc_S_begin : FnScope n_S_begin p_S_begin (defScope s_S_begin) := ⟨rfl, rfl, rfl, by decide +kernel, rfl, by decide +kernel, by decide +kernel⟩
theorem Tp.f_S_begin (T : Tp K mg) : ∃ fd, (FunD K "begin" "Stepper.begin" (defArgs s_S_begin) (defBody s_S_begin) (defScope s_S_begin) [.non] [] (He.fAd K d_S_begin.at_) fd) := T.d.def_ 17 (d := d_S_begin) rfl
theorem sc_S_deal_by : FnScope n_S_deal_by p_S_deal_by (defScope s_S_deal_by) := ⟨rfl, rfl, rfl, by decide +kernel, rfl, by decide +kernel, by decide +kernel⟩
theorem Tp.f_S_deal_by (T : Tp K mg) : ∃ fd, (FunD K "deal_by" "Stepper.deal_by" (defArgs s_S_deal_by) (defBody s_S_deal_by) (defScope s_S_deal_by) [] [] (He.fAd K d_S_deal_by.at_) fd) ∧ Binds K fd p_S_deal_by [] := by
  obtain ⟨fd, F⟩ := T.d.def_ 18 (d := d_S_deal_by) rfl
  exact ⟨fd, F, FunD.bindsN F fun _ _ _ _ _ _ us hl => match us, hl with | [_, _], _ => rfl⟩
theorem sc_S_open_deal : FnScope n_S_open_deal p_S_open_deal (defScope s_S_open_deal) := ⟨rfl, rfl, rfl, by decide +kernel, rfl, by decide +kernel, by decide +kernel⟩
theorem Tp.f_S_open_deal (T : Tp K mg) : ∃ fd, (FunD K "open_deal" "Stepper.open_deal" (defArgs s_S_open_deal) (defBody s_S_open_deal) (defScope s_S_open_deal) [] [] (He.fAd K d_S_open_deal.at_) fd) ∧ Binds K fd p_S_open_deal [] := by
  obtain ⟨fd, F⟩ := T.d.def_ 19 (d := d_S_open_deal) rfl
  exact ⟨fd, F, FunD.bindsN F fun _ _ _ _ _ _ us hl => match us, hl with | [_, _], _ => rfl⟩
theorem sc_S_last_writer : FnScope n_S_last_writer p_S_last_writer (defScope s_S_last_writer) := ⟨rfl, rfl, rfl, by decide +kernel, rfl, by decide +kernel, by decide +kernel⟩
theorem Tp.f_S_last_writer (T : Tp K mg) : ∃ fd, (FunD K "last_writer" "Stepper.last_writer" (defArgs s_S_last_writer) (defBody s_S_last_writer) (defScope s_S_last_writer) [] [] (He.fAd K d_S_last_writer.at_) fd) ∧ Binds K fd p_S_last_writer [] := by
  obtain ⟨fd, F⟩ := T.d.def_ 20 (d := d_S_last_writer) rfl
  exact ⟨fd, F, FunD.bindsN F fun _ _ _ _ _ _ us hl => match us, hl with | [_, _, _], _ => rfl⟩
theorem sc_S_step : FnScope n_S_step p_S_step (defScope s_S_step) := ⟨rfl, rfl, rfl, by decide +kernel, rfl, by decide +kernel, by decide +kernel⟩
theorem Tp.f_S_step (T : Tp K mg) : ∃ fd, (FunD K "step" "Stepper.step" (defArgs s_S_step) (defBody s_S_step) (defScope s_S_step) [] [] (He.fAd K d_S_step.at_) fd) ∧ Binds K fd p_S_step [] := by
  obtain ⟨fd, F⟩ := T.d.def_ 21 (d := d_S_step) rfl
  exact ⟨fd, F, FunD.bindsN F fun _ _ _ _ _ _ us hl => match us, hl with | [_, _], _ => rfl⟩
theorem sc_S_is_called_off : FnScope n_S_is_called_off p_S_is_called_off (defScope s_S_is_called_off) := ⟨rfl, rfl, rfl, by decide +kernel, rfl, by decide +kernel, by decide +kernel⟩
theorem Tp.f_S_is_called_off (T : Tp K mg) : ∃ fd, (FunD K "is_called_off" "Stepper.is_called_off" (defArgs s_S_is_called_off) (defBody s_S_is_called_off) (defScope s_S_is_called_off) [] [] (He.fAd K d_S_is_called_off.at_) fd) ∧ Binds K fd p_S_is_called_off [] := by
  obtain ⟨fd, F⟩ := T.d.def_ 22 (d := d_S_is_called_off) rfl
  exact ⟨fd, F, FunD.bindsN F fun _ _ _ _ _ _ us hl => match us, hl with | [_, _], _ => rfl⟩
theorem sc_S_look_at_end : FnScope n_S_look_at_end p_S_look_at_end (defScope s_S_look_at_end) := ⟨rfl, rfl, rfl, by decide +kernel, rfl, by decide +kernel, by decide +kernel⟩
theorem Tp.f_S_look_at_end (T : Tp K mg) : ∃ fd, (FunD K "look_at_end" "Stepper.look_at_end" (defArgs s_S_look_at_end) (defBody s_S_look_at_end) (defScope s_S_look_at_end) [] [] (He.fAd K d_S_look_at_end.at_) fd) ∧ Binds K fd p_S_look_at_end [] := by
  obtain ⟨fd, F⟩ := T.d.def_ 23 (d := d_S_look_at_end) rfl
  exact ⟨fd, F, FunD.bindsN F fun _ _ _ _ _ _ us hl => match us, hl with | [_, _], _ => rfl⟩
theorem sc_S_close : FnScope n_S_close p_S_close (defScope s_S_close) := ⟨rfl, rfl, rfl, by decide +kernel, rfl, by decide +kernel, by decide +kernel⟩
theorem Tp.f_S_close (T : Tp K mg) : ∃ fd, (FunD K "close" "Stepper.close" (defArgs s_S_close) (defBody s_S_close) (defScope s_S_close) [] [] (He.fAd K d_S_close.at_) fd) ∧ Binds K fd p_S_close [] := by
  obtain ⟨fd, F⟩ := T.d.def_ 24 (d := d_S_close) rfl
  exact ⟨fd, F, FunD.bindsN F fun _ _ _ _ _ _ us hl => match us, hl with | [_, _, _], _ => rfl⟩
theorem sc_S_shut : FnScope n_S_shut p_S_shut (defScope s_S_shut) := ⟨rfl, rfl, rfl, by decide +kernel, rfl, by decide +kernel, by decide +kernel⟩
theorem Tp.f_S_shut (T : Tp K mg) : ∃ fd, (FunD K "shut" "Stepper.shut" (defArgs s_S_shut) (defBody s_S_shut) (defScope s_S_shut) [] [] (He.fAd K d_S_shut.at_) fd) ∧ Binds K fd p_S_shut [] := by
  obtain ⟨fd, F⟩ := T.d.def_ 25 (d := d_S_shut) rfl
  exact ⟨fd, F, FunD.bindsN F fun _ _ _ _ _ _ us hl => match us, hl with | [_, _], _ => rfl⟩
theorem sc_S_end : FnScope n_S_end p_S_end (defScope s_S_end) := ⟨rfl, rfl, rfl, by decide +kernel, rfl, by decide +kernel, by decide +kernel⟩
theorem Tp.f_S_end (T : Tp K mg) : ∃ fd, (FunD K "end" "Stepper.end" (defArgs s_S_end) (defBody s_S_end) (defScope s_S_end) [] [] (He.fAd K d_S_end.at_) fd) ∧ Binds K fd p_S_end [] := by
  obtain ⟨fd, F⟩ := T.d.def_ 26 (d := d_S_end) rfl
  exact ⟨fd, F, FunD.bindsN F fun _ _ _ _ _ _ us hl => match us, hl with | [_, _], _ => rfl⟩
theorem sc_S_drop : FnScope n_S_drop p_S_drop (defScope s_S_drop) := ⟨rfl, rfl, rfl, by decide +kernel, rfl, by decide +kernel, by decide +kernel⟩
theorem Tp.f_S_drop (T : Tp K mg) : ∃ fd, (FunD K "drop" "Stepper.drop" (defArgs s_S_drop) (defBody s_S_drop) (defScope s_S_drop) [] [] (He.fAd K d_S_drop.at_) fd) ∧ Binds K fd p_S_drop [] := by
  obtain ⟨fd, F⟩ := T.d.def_ 27 (d := d_S_drop) rfl
  exact ⟨fd, F, FunD.bindsN F fun _ _ _ _ _ _ us hl => match us, hl with | [_, _], _ => rfl⟩
theorem sc_S_undo : FnScope n_S_undo p_S_undo (defScope s_S_undo) := ⟨rfl, rfl, rfl, by decide +kernel, rfl, by decide +kernel, by decide +kernel⟩
theorem Tp.f_S_undo (T : Tp K mg) : ∃ fd, (FunD K "undo" "Stepper.undo" (defArgs s_S_undo) (defBody s_S_undo) (defScope s_S_undo) [] [] (He.fAd K d_S_undo.at_) fd) ∧ Binds K fd p_S_undo [] := by
  obtain ⟨fd, F⟩ := T.d.def_ 28 (d := d_S_undo) rfl
  exact ⟨fd, F, FunD.bindsN F fun _ _ _ _ _ _ us hl => match us, hl with | [_], _ => rfl⟩
theorem sc_S_state : FnScope n_S_state p_S_state (defScope s_S_state) := ⟨rfl, rfl, rfl, by decide +kernel, rfl, by decide +kernel, by decide +kernel⟩
theorem Tp.f_S_state (T : Tp K mg) : ∃ fd, (FunD K "state" "Stepper.state" (defArgs s_S_state) (defBody s_S_state) (defScope s_S_state) [] [] (He.fAd K d_S_state.at_) fd) ∧ Binds K fd p_S_state [] := by
  obtain ⟨fd, F⟩ := T.d.def_ 29 (d := d_S_state) rfl
  exact ⟨fd, F, FunD.bindsN F fun _ _ _ _ _ _ us hl => match us, hl with | [_, _], _ => rfl⟩
theorem sc_S_left : FnScope n_S_left p_S_left (defScope s_S_left) := ⟨rfl, rfl, rfl, by decide +kernel, rfl, by decide +kernel, by decide +kernel⟩
theorem Tp.f_S_left (T : Tp K mg) : ∃ fd, (FunD K "left" "Stepper.left" (defArgs s_S_left) (defBody s_S_left) (defScope s_S_left) [] [] (He.fAd K d_S_left.at_) fd) ∧ Binds K fd p_S_left [] := by
  obtain ⟨fd, F⟩ := T.d.def_ 30 (d := d_S_left) rfl
  exact ⟨fd, F, FunD.bindsN F fun _ _ _ _ _ _ us hl => match us, hl with | [_, _], _ => rfl⟩
theorem sc_S_writer : FnScope n_S_writer p_S_writer (defScope s_S_writer) := ⟨rfl, rfl, rfl, by decide +kernel, rfl, by decide +kernel, by decide +kernel⟩
theorem Tp.f_S_writer (T : Tp K mg) : ∃ fd, (FunD K "writer" "Stepper.writer" (defArgs s_S_writer) (defBody s_S_writer) (defScope s_S_writer) [] [] (He.fAd K d_S_writer.at_) fd) ∧ Binds K fd p_S_writer [] := by
  obtain ⟨fd, F⟩ := T.d.def_ 31 (d := d_S_writer) rfl
  exact ⟨fd, F, FunD.bindsN F fun _ _ _ _ _ _ us hl => match us, hl with | [_, _], _ => rfl⟩
theorem sc_S_rows : FnScope n_S_rows p_S_rows (defScope s_S_rows) := ⟨rfl, rfl, rfl, by decide +kernel, rfl, by decide +kernel, by decide +kernel⟩
theorem Tp.f_S_rows (T : Tp K mg) : ∃ fd, (FunD K "rows" "Stepper.rows" (defArgs s_S_rows) (defBody s_S_rows) (defScope s_S_rows) [] [] (He.fAd K d_S_rows.at_) fd) ∧ Binds K fd p_S_rows [] := by
  obtain ⟨fd, F⟩ := T.d.def_ 32 (d := d_S_rows) rfl
  exact ⟨fd, F, FunD.bindsN F fun _ _ _ _ _ _ us hl => match us, hl with | [_], _ => rfl⟩
theorem sc_S_len : FnScope n_S_len p_S_len (defScope s_S_len) := ⟨rfl, rfl, rfl, by decide +kernel, rfl, by decide +kernel, by decide +kernel⟩
theorem Tp.f_S_len (T : Tp K mg) : ∃ fd, (FunD K "__len__" "Stepper.__len__" (defArgs s_S_len) (defBody s_S_len) (defScope s_S_len) [] [] (He.fAd K d_S_len.at_) fd) ∧ Binds K fd p_S_len [] := by
  obtain ⟨fd, F⟩ := T.d.def_ 33 (d := d_S_len) rfl
  exact ⟨fd, F, FunD.bindsN F fun _ _ _ _ _ _ us hl => match us, hl with | [_], _ => rfl⟩
theorem sc_S_str : FnScope n_S_str p_S_str (defScope s_S_str) := ⟨rfl, rfl, rfl, by decide +kernel, rfl, by decide +kernel, by decide +kernel⟩
theorem Tp.f_S_str (T : Tp K mg) : ∃ fd, (FunD K "__str__" "Stepper.__str__" (defArgs s_S_str) (defBody s_S_str) (defScope s_S_str) [] [] (He.fAd K d_S_str.at_) fd) ∧ Binds K fd p_S_str [] := by
  obtain ⟨fd, F⟩ := T.d.def_ 34 (d := d_S_str) rfl
  exact ⟨fd, F, FunD.bindsN F fun _ _ _ _ _ _ us hl => match us, hl with | [_], _ => rfl⟩
theorem sc_l_some_keys : FnScope n_l_some_keys p_l_some_keys (defScope s_l_some_keys) := ⟨rfl, rfl, rfl, by decide +kernel, rfl, by decide +kernel, by decide +kernel⟩
theorem Tp.f_l_some_keys (T : Tp K mg) : ∃ fd, (FunD K "_law_some_keys" "_law_some_keys" (defArgs s_l_some_keys) (defBody s_l_some_keys) (defScope s_l_some_keys) [] [] (He.fAd K d_l_some_keys.at_) fd) ∧ Binds K fd p_l_some_keys [] := by
  obtain ⟨fd, F⟩ := T.d.def_ 35 (d := d_l_some_keys) rfl
  exact ⟨fd, F, FunD.bindsN F fun _ _ _ _ _ _ us hl => match us, hl with | [_, _, _], _ => rfl⟩
theorem sc_l_wrote : FnScope n_l_wrote p_l_wrote (defScope s_l_wrote) := ⟨rfl, rfl, rfl, by decide +kernel, rfl, by decide +kernel, by decide +kernel⟩
theorem Tp.f_l_wrote (T : Tp K mg) : ∃ fd, (FunD K "_law_wrote" "_law_wrote" (defArgs s_l_wrote) (defBody s_l_wrote) (defScope s_l_wrote) [] [] (He.fAd K d_l_wrote.at_) fd) ∧ Binds K fd p_l_wrote [] := by
  obtain ⟨fd, F⟩ := T.d.def_ 36 (d := d_l_wrote) rfl
  exact ⟨fd, F, FunD.bindsN F fun _ _ _ _ _ _ us hl => match us, hl with | [_], _ => rfl⟩
theorem sc_l_last : FnScope n_l_last p_l_last (defScope s_l_last) := ⟨rfl, rfl, rfl, by decide +kernel, rfl, by decide +kernel, by decide +kernel⟩
theorem Tp.f_l_last (T : Tp K mg) : ∃ fd, (FunD K "_law_last" "_law_last" (defArgs s_l_last) (defBody s_l_last) (defScope s_l_last) [] [] (He.fAd K d_l_last.at_) fd) ∧ Binds K fd p_l_last [] := by
  obtain ⟨fd, F⟩ := T.d.def_ 37 (d := d_l_last) rfl
  exact ⟨fd, F, FunD.bindsN F fun _ _ _ _ _ _ us hl => match us, hl with | [_, _, _], _ => rfl⟩
theorem sc_l_step : FnScope n_l_step p_l_step (defScope s_l_step) := ⟨rfl, rfl, rfl, by decide +kernel, rfl, by decide +kernel, by decide +kernel⟩
theorem Tp.f_l_step (T : Tp K mg) : ∃ fd, (FunD K "_law_step" "_law_step" (defArgs s_l_step) (defBody s_l_step) (defScope s_l_step) [] [] (He.fAd K d_l_step.at_) fd) ∧ Binds K fd p_l_step [] := by
  obtain ⟨fd, F⟩ := T.d.def_ 38 (d := d_l_step) rfl
  exact ⟨fd, F, FunD.bindsN F fun _ _ _ _ _ _ us hl => match us, hl with | [_, _, _], _ => rfl⟩
theorem sc_l_is_off : FnScope n_l_is_off p_l_is_off (defScope s_l_is_off) := ⟨rfl, rfl, rfl, by decide +kernel, rfl, by decide +kernel, by decide +kernel⟩
theorem Tp.f_l_is_off (T : Tp K mg) : ∃ fd, (FunD K "_law_is_off" "_law_is_off" (defArgs s_l_is_off) (defBody s_l_is_off) (defScope s_l_is_off) [] [] (He.fAd K d_l_is_off.at_) fd) ∧ Binds K fd p_l_is_off [] := by
  obtain ⟨fd, F⟩ := T.d.def_ 39 (d := d_l_is_off) rfl
  exact ⟨fd, F, FunD.bindsN F fun _ _ _ _ _ _ us hl => match us, hl with | [_, _], _ => rfl⟩
theorem sc_l_do : FnScope n_l_do p_l_do (defScope s_l_do) := ⟨rfl, rfl, rfl, by decide +kernel, rfl, by decide +kernel, by decide +kernel⟩
theorem Tp.f_l_do (T : Tp K mg) : ∃ fd, (FunD K "_law_do" "_law_do" (defArgs s_l_do) (defBody s_l_do) (defScope s_l_do) [] [] (He.fAd K d_l_do.at_) fd) ∧ Binds K fd p_l_do [] := by
  obtain ⟨fd, F⟩ := T.d.def_ 40 (d := d_l_do) rfl
  exact ⟨fd, F, FunD.bindsN F fun _ _ _ _ _ _ us hl => match us, hl with | [_, _, _, _], _ => rfl⟩
theorem sc_l_again : FnScope n_l_again p_l_again (defScope s_l_again) := ⟨rfl, rfl, rfl, by decide +kernel, rfl, by decide +kernel, by decide +kernel⟩
theorem Tp.f_l_again (T : Tp K mg) : ∃ fd, (FunD K "_law_again" "_law_again" (defArgs s_l_again) (defBody s_l_again) (defScope s_l_again) [] [] (He.fAd K d_l_again.at_) fd) ∧ Binds K fd p_l_again [] := by
  obtain ⟨fd, F⟩ := T.d.def_ 41 (d := d_l_again) rfl
  exact ⟨fd, F, FunD.bindsN F fun _ _ _ _ _ _ us hl => match us, hl with | [_, _], _ => rfl⟩
theorem sc_l_draw : FnScope n_l_draw p_l_draw (defScope s_l_draw) := ⟨rfl, rfl, rfl, by decide +kernel, rfl, by decide +kernel, by decide +kernel⟩
theorem Tp.f_l_draw (T : Tp K mg) : ∃ fd, (FunD K "_law_draw" "_law_draw" (defArgs s_l_draw) (defBody s_l_draw) (defScope s_l_draw) [] [] (He.fAd K d_l_draw.at_) fd) ∧ Binds K fd p_l_draw [] := by
  obtain ⟨fd, F⟩ := T.d.def_ 42 (d := d_l_draw) rfl
  exact ⟨fd, F, FunD.bindsN F fun _ _ _ _ _ _ us hl => match us, hl with | [_, _], _ => rfl⟩
theorem sc_l_wish : FnScope n_l_wish p_l_wish (defScope s_l_wish) := ⟨rfl, rfl, rfl, by decide +kernel, rfl, by decide +kernel, by decide +kernel⟩
theorem Tp.f_l_wish (T : Tp K mg) : ∃ fd, (FunD K "_law_wish" "_law_wish" (defArgs s_l_wish) (defBody s_l_wish) (defScope s_l_wish) [] [] (He.fAd K d_l_wish.at_) fd) ∧ Binds K fd p_l_wish [] := by
  obtain ⟨fd, F⟩ := T.d.def_ 43 (d := d_l_wish) rfl
  exact ⟨fd, F, FunD.bindsN F fun _ _ _ _ _ _ us hl => match us, hl with | [_, _, _, _], _ => rfl⟩
theorem sc_l_kind : FnScope n_l_kind p_l_kind (defScope s_l_kind) := ⟨rfl, rfl, rfl, by decide +kernel, rfl, by decide +kernel, by decide +kernel⟩
theorem Tp.f_l_kind (T : Tp K mg) : ∃ fd, (FunD K "_law_kind" "_law_kind" (defArgs s_l_kind) (defBody s_l_kind) (defScope s_l_kind) [] [] (He.fAd K d_l_kind.at_) fd) ∧ Binds K fd p_l_kind [] := by
  obtain ⟨fd, F⟩ := T.d.def_ 44 (d := d_l_kind) rfl
  exact ⟨fd, F, FunD.bindsN F fun _ _ _ _ _ _ us hl => match us, hl with | [_], _ => rfl⟩
theorem sc_l_told : FnScope n_l_told p_l_told (defScope s_l_told) := ⟨rfl, rfl, rfl, by decide +kernel, rfl, by decide +kernel, by decide +kernel⟩
theorem Tp.f_l_told (T : Tp K mg) : ∃ fd, (FunD K "_law_told" "_law_told" (defArgs s_l_told) (defBody s_l_told) (defScope s_l_told) [] [] (He.fAd K d_l_told.at_) fd) ∧ Binds K fd p_l_told [] := by
  obtain ⟨fd, F⟩ := T.d.def_ 45 (d := d_l_told) rfl
  exact ⟨fd, F, FunD.bindsN F fun _ _ _ _ _ _ us hl => match us, hl with | [_, _, _, _], _ => rfl⟩
theorem sc_l_keys : FnScope n_l_keys p_l_keys (defScope s_l_keys) := ⟨rfl, rfl, rfl, by decide +kernel, rfl, by decide +kernel, by decide +kernel⟩
theorem Tp.f_l_keys (T : Tp K mg) : ∃ fd, (FunD K "_law_keys" "_law_keys" (defArgs s_l_keys) (defBody s_l_keys) (defScope s_l_keys) [] [] (He.fAd K d_l_keys.at_) fd) ∧ Binds K fd p_l_keys [] := by
  obtain ⟨fd, F⟩ := T.d.def_ 46 (d := d_l_keys) rfl
  exact ⟨fd, F, FunD.bindsN F fun _ _ _ _ _ _ us hl => match us, hl with | [_, _, _, _], _ => rfl⟩
theorem sc_l_left : FnScope n_l_left p_l_left (defScope s_l_left) := ⟨rfl, rfl, rfl, by decide +kernel, rfl, by decide +kernel, by decide +kernel⟩
theorem Tp.f_l_left (T : Tp K mg) : ∃ fd, (FunD K "_law_left" "_law_left" (defArgs s_l_left) (defBody s_l_left) (defScope s_l_left) [] [] (He.fAd K d_l_left.at_) fd) ∧ Binds K fd p_l_left [] := by
  obtain ⟨fd, F⟩ := T.d.def_ 47 (d := d_l_left) rfl
  exact ⟨fd, F, FunD.bindsN F fun _ _ _ _ _ _ us hl => match us, hl with | [_, _], _ => rfl⟩
theorem sc_l_next : FnScope n_l_next p_l_next (defScope s_l_next) := ⟨rfl, rfl, rfl, by decide +kernel, rfl, by decide +kernel, by decide +kernel⟩
theorem Tp.f_l_next (T : Tp K mg) : ∃ fd, (FunD K "_law_next" "_law_next" (defArgs s_l_next) (defBody s_l_next) (defScope s_l_next) [] [] (He.fAd K d_l_next.at_) fd) ∧ Binds K fd p_l_next [] := by
  obtain ⟨fd, F⟩ := T.d.def_ 48 (d := d_l_next) rfl
  exact ⟨fd, F, FunD.bindsN F fun _ _ _ _ _ _ us hl => match us, hl with | [_, _, _, _, _], _ => rfl⟩
theorem sc_l_same : FnScope n_l_same p_l_same (defScope s_l_same) := ⟨rfl, rfl, rfl, by decide +kernel, rfl, by decide +kernel, by decide +kernel⟩
theorem Tp.f_l_same (T : Tp K mg) : ∃ fd, (FunD K "_law_same" "_law_same" (defArgs s_l_same) (defBody s_l_same) (defScope s_l_same) [] [] (He.fAd K d_l_same.at_) fd) ∧ Binds K fd p_l_same [] := by
  obtain ⟨fd, F⟩ := T.d.def_ 49 (d := d_l_same) rfl
  exact ⟨fd, F, FunD.bindsN F fun _ _ _ _ _ _ us hl => match us, hl with | [_, _], _ => rfl⟩
theorem sc_l_doing : FnScope n_l_doing p_l_doing (defScope s_l_doing) := ⟨rfl, rfl, rfl, by decide +kernel, rfl, by decide +kernel, by decide +kernel⟩
theorem Tp.f_l_doing (T : Tp K mg) : ∃ fd, (FunD K "_law_doing" "_law_doing" (defArgs s_l_doing) (defBody s_l_doing) (defScope s_l_doing) [] [] (He.fAd K d_l_doing.at_) fd) ∧ Binds K fd p_l_doing [] := by
  obtain ⟨fd, F⟩ := T.d.def_ 50 (d := d_l_doing) rfl
  exact ⟨fd, F, FunD.bindsN F fun _ _ _ _ _ _ us hl => match us, hl with | [_, _], _ => rfl⟩
theorem sc_l_names : FnScope n_l_names p_l_names (defScope s_l_names) := ⟨rfl, rfl, rfl, by decide +kernel, rfl, by decide +kernel, by decide +kernel⟩
theorem Tp.f_l_names (T : Tp K mg) : ∃ fd, (FunD K "_law_names" "_law_names" (defArgs s_l_names) (defBody s_l_names) (defScope s_l_names) [] [] (He.fAd K d_l_names.at_) fd) ∧ Binds K fd p_l_names [] := by
  obtain ⟨fd, F⟩ := T.d.def_ 51 (d := d_l_names) rfl
  exact ⟨fd, F, FunD.bindsN F fun _ _ _ _ _ _ us hl => match us, hl with | [_, _], _ => rfl⟩
theorem sc_l_marks : FnScope n_l_marks p_l_marks (defScope s_l_marks) := ⟨rfl, rfl, rfl, by decide +kernel, rfl, by decide +kernel, by decide +kernel⟩
theorem Tp.f_l_marks (T : Tp K mg) : ∃ fd, (FunD K "_law_marks" "_law_marks" (defArgs s_l_marks) (defBody s_l_marks) (defScope s_l_marks) [] [] (He.fAd K d_l_marks.at_) fd) ∧ Binds K fd p_l_marks [] := by
  obtain ⟨fd, F⟩ := T.d.def_ 52 (d := d_l_marks) rfl
  exact ⟨fd, F, FunD.bindsN F fun _ _ _ _ _ _ us hl => match us, hl with | [_, _], _ => rfl⟩
theorem sc_l_steps : FnScope n_l_steps p_l_steps (defScope s_l_steps) := ⟨rfl, rfl, rfl, by decide +kernel, rfl, by decide +kernel, by decide +kernel⟩
theorem Tp.f_l_steps (T : Tp K mg) : ∃ fd, (FunD K "_law_steps" "_law_steps" (defArgs s_l_steps) (defBody s_l_steps) (defScope s_l_steps) [] [] (He.fAd K d_l_steps.at_) fd) ∧ Binds K fd p_l_steps [] := by
  obtain ⟨fd, F⟩ := T.d.def_ 53 (d := d_l_steps) rfl
  exact ⟨fd, F, FunD.bindsN F fun _ _ _ _ _ _ us hl => match us, hl with | [_, _], _ => rfl⟩
theorem sc_l_book : FnScope n_l_book p_l_book (defScope s_l_book) := ⟨rfl, rfl, rfl, by decide +kernel, rfl, by decide +kernel, by decide +kernel⟩
theorem Tp.f_l_book (T : Tp K mg) : ∃ fd, (FunD K "_law_book" "_law_book" (defArgs s_l_book) (defBody s_l_book) (defScope s_l_book) [] [] (He.fAd K d_l_book.at_) fd) ∧ Binds K fd p_l_book [] := by
  obtain ⟨fd, F⟩ := T.d.def_ 54 (d := d_l_book) rfl
  exact ⟨fd, F, FunD.bindsN F fun _ _ _ _ _ _ us hl => match us, hl with | [_, _, _], _ => rfl⟩
theorem sc_l_pool : FnScope n_l_pool p_l_pool (defScope s_l_pool) := ⟨rfl, rfl, rfl, by decide +kernel, rfl, by decide +kernel, by decide +kernel⟩
theorem Tp.f_l_pool (T : Tp K mg) : ∃ fd, (FunD K "_law_pool" "_law_pool" (defArgs s_l_pool) (defBody s_l_pool) (defScope s_l_pool) [] [] (He.fAd K d_l_pool.at_) fd) ∧ Binds K fd p_l_pool [] := by
  obtain ⟨fd, F⟩ := T.d.def_ 55 (d := d_l_pool) rfl
  exact ⟨fd, F, FunD.bindsN F fun _ _ _ _ _ _ us hl => match us, hl with | [_, _], _ => rfl⟩
theorem sc_l_copied : FnScope n_l_copied p_l_copied (defScope s_l_copied) := ⟨rfl, rfl, rfl, by decide +kernel, rfl, by decide +kernel, by decide +kernel⟩
theorem Tp.f_l_copied (T : Tp K mg) : ∃ fd, (FunD K "_law_copied" "_law_copied" (defArgs s_l_copied) (defBody s_l_copied) (defScope s_l_copied) [] [] (He.fAd K d_l_copied.at_) fd) ∧ Binds K fd p_l_copied [] := by
  obtain ⟨fd, F⟩ := T.d.def_ 56 (d := d_l_copied) rfl
  exact ⟨fd, F, FunD.bindsN F fun _ _ _ _ _ _ us hl => match us, hl with | [_], _ => rfl⟩
theorem sc_l_state_text : FnScope n_l_state_text p_l_state_text (defScope s_l_state_text) := ⟨rfl, rfl, rfl, by decide +kernel, rfl, by decide +kernel, by decide +kernel⟩
theorem Tp.f_l_state_text (T : Tp K mg) : ∃ fd, (FunD K "_law_state_text" "_law_state_text" (defArgs s_l_state_text) (defBody s_l_state_text) (defScope s_l_state_text) [] [] (He.fAd K d_l_state_text.at_) fd) ∧ Binds K fd p_l_state_text [] := by
  obtain ⟨fd, F⟩ := T.d.def_ 57 (d := d_l_state_text) rfl
  exact ⟨fd, F, FunD.bindsN F fun _ _ _ _ _ _ us hl => match us, hl with | [_], _ => rfl⟩
theorem sc_l_all_keys : FnScope n_l_all_keys p_l_all_keys (defScope s_l_all_keys) := ⟨rfl, rfl, rfl, by decide +kernel, rfl, by decide +kernel, by decide +kernel⟩
theorem Tp.f_l_all_keys (T : Tp K mg) : ∃ fd, (FunD K "_law_all_keys" "_law_all_keys" (defArgs s_l_all_keys) (defBody s_l_all_keys) (defScope s_l_all_keys) [] [] (He.fAd K d_l_all_keys.at_) fd) ∧ Binds K fd p_l_all_keys [] := by
  obtain ⟨fd, F⟩ := T.d.def_ 58 (d := d_l_all_keys) rfl
  exact ⟨fd, F, FunD.bindsN F fun _ _ _ _ _ _ us hl => match us, hl with | [_, _], _ => rfl⟩
theorem sc_l_stands_so : FnScope n_l_stands_so p_l_stands_so (defScope s_l_stands_so) := ⟨rfl, rfl, rfl, by decide +kernel, rfl, by decide +kernel, by decide +kernel⟩
theorem Tp.f_l_stands_so (T : Tp K mg) : ∃ fd, (FunD K "_law_stands_so" "_law_stands_so" (defArgs s_l_stands_so) (defBody s_l_stands_so) (defScope s_l_stands_so) [] [] (He.fAd K d_l_stands_so.at_) fd) ∧ Binds K fd p_l_stands_so [] := by
  obtain ⟨fd, F⟩ := T.d.def_ 59 (d := d_l_stands_so) rfl
  exact ⟨fd, F, FunD.bindsN F fun _ _ _ _ _ _ us hl => match us, hl with | [_, _, _, _, _], _ => rfl⟩
theorem sc_l_deed : FnScope n_l_deed p_l_deed (defScope s_l_deed) := ⟨rfl, rfl, rfl, by decide +kernel, rfl, by decide +kernel, by decide +kernel⟩
theorem Tp.f_l_deed (T : Tp K mg) : ∃ fd, (FunD K "_law_deed" "_law_deed" (defArgs s_l_deed) (defBody s_l_deed) (defScope s_l_deed) [] [] (He.fAd K d_l_deed.at_) fd) ∧ Binds K fd p_l_deed [] := by
  obtain ⟨fd, F⟩ := T.d.def_ 60 (d := d_l_deed) rfl
  exact ⟨fd, F, FunD.bindsN F fun _ _ _ _ _ _ us hl => match us, hl with | [_, _, _, _], _ => rfl⟩
theorem sc_f_law : FnScope n_f_law p_f_law (defScope s_f_law) := ⟨rfl, rfl, rfl, by decide +kernel, rfl, by decide +kernel, by decide +kernel⟩
theorem Tp.f_f_law (T : Tp K mg) : ∃ fd, (FunD K "law" "law" (defArgs s_f_law) (defBody s_f_law) (defScope s_f_law) [] [] (He.fAd K d_f_law.at_) fd) ∧ Binds K fd p_f_law [] := by
  obtain ⟨fd, F⟩ := T.d.def_ 61 (d := d_f_law) rfl
  exact ⟨fd, F, FunD.bindsN F fun _ _ _ _ _ _ us hl => match us, hl with | [_], _ => rfl⟩
end
end K29
/-! text K29G -/
namespace K29
open PySem PySem.Spec PyProof.Rows L2 LamX
/-! ### defs that are called where nothing is being shown -/
structure FnOkG (P : Program) (w : World) (K : PySem.W.Frag) (mg : Str → Option Value) (base : Heap) (k : Nat) (f : Addr) (fd : FuncData) (ps : List Str) (sp : Sp) : Prop where
  len : ∀ vs H Q E, sp vs H Q E → vs.length = ps.length
  run : ∀ (A : Around) (outer : List Env) (s : Shared) (H : Hp) (args : Args) (us : List Value) (vs : List V) (Q : VK) (E : XK), A.guards = some [] → Room k A → Env0 P w K mg base A outer s H → BindsTo s fd args (ps.zip us) → Vals vs us → sp vs H Q E →
    codeAny (model P w) A (.call (.ref f) args) (CR L2.CX0 outer P w H s Q E) s
section
variable {P : Program} {w : World} {K : PySem.W.Frag} {mg : Str → Option Value} {base : Heap}
theorem okG {x qual : Str} {params : Arguments} {body : List Stmt} {scope : Scope} {dvs : List V} {kws : List (Str × V)} {f : Addr} {fd : FuncData} {N ps : List Str} {k : Nat} {sp : Sp} (F : FunD K x qual params body scope dvs kws f fd) (S : FnScope N ps scope) (len : ∀ vs H Q E, sp vs H Q E → vs.length = ps.length)
    (hbody : ∀ (cdv : Value) (A : Around) (outer : List Env) (s : Shared) (H : Hp) (vs : List V) (Q : VK) (E : XK), A.guards = some [] → Room k (A.deeper (envOfC qual scope s.heap.objs.size f cdv)) → sp vs H Q E →
      ∃ t, PSs (cxOf L2.CX0 P w K mg base N qual scope f cdv A outer s H E).nox body t ∧ t { nx := fun _ H' => Q .non H', rt := Q } (L2.start N vs) H) : FnOkG P w K mg base (k + 1) f fd ps sp := by
  obtain ⟨oc, od, dV, kV, doc, pm, an, cdv, ct, osl, rfl, lk, hcd, _, _⟩ := F.ex
  refine ⟨len, fun A outer s H args us vs Q E hg hr e0 hb r hsp => ?_⟩
  refine run_ofS lk hcd S hr e0 hb r (len _ _ _ _ hsp) fun hr' => ?_
  obtain ⟨t, h, q⟩ := hbody cdv A outer s H vs Q E hg hr' hsp
  exact ⟨t, h.nox, q⟩
end
section
variable {X : Cx} {k : Nat} {f : Addr} {fd : FuncData} {ps : List Str} {sp : Sp} {x : Str} {p pos : Pos} {e : Expr} {es : List Expr} {t : TA}
theorem run_fnG {pins : List (Addr × Obj)} {σ : L2.St} {H : Hp} {s : Shared} {Q : VK} {us : List Value} {vs : List V} (F : FnOkG X.prog X.w X.K X.mg X.base k f fd ps sp) (hg : X.A.guards = some []) (hr : Room k X.A) (hb : Binds X.K fd ps [])
    (I : Inv X pins σ H s) (r : Vals vs us) (h : sp vs H Q L2.E0) : wpAny (model X.prog X.w) X.A (call (.ref f) us) (EP X pins σ Q) X.xe s := by
  have hl : us.length = ps.length := by rw [← r.length]; exact F.len _ _ _ _ h
  have b := hb s us I.kIn (by rw [List.append_nil]; exact hl)
  rw [List.append_nil] at b
  refine wpAny_call (codeAny_mono (F.run X.A X.stack s H ⟨us, []⟩ us vs Q _ hg hr I.env0 b r h) fun r s' hq => ?_)
  cases r with
  | error e => exact False.elim hq
  | ok fl =>
    cases fl with
    | ret u => exact I.after hq
    | next => exact False.elim hq
    | brk => exact False.elim hq
    | cont => exact False.elim hq
theorem pe_callG (F : FnOkG X.prog X.w X.K X.mg X.base k f fd ps sp) (hgd : X.A.guards = some []) (hr : Room k X.A) (hg : Gl X x) (hm : X.mg x = some (.ref f)) (hk : PySem.W.keepIn X.K (.ref f) = true) (hb : Binds X.K fd ps [])
    (ha : PA X (e :: es) t) (hdb : (x == ("__debug__" : Str)) = false := by decide) (he : starEach (e :: es) X.env = (false, eval e X.env) :: starEach es X.env := by rfl) (hpl : (backTo pos (starEach es X.env)).any (·.1) = false := by rfl) :
    PE X (.Call (.Name x p) (e :: es) [] pos) (tCall sp [] L2.E0 t) := by
  refine ⟨fun pins s σ H Q I h => ?_⟩
  refine wpAny_Call_Name_kw (ld_glob I hg hm ?_ hdb)
  refine PySem.W.callWith_K (h₀ := X.base) I.ok.mod.kin hk (thn (ha.run pos pins s σ H _ I h) fun us s1 ⟨vs, H1, I1, r, q⟩ => ⟨I1.kIn, ?_⟩) he hpl
  have q' : sp (vs ++ []) H1 Q L2.E0 := q
  rw [List.append_nil] at q'
  exact run_fnG F hgd hr hb I1 r q'
/-! ### repr of data -/
theorem cr_repr (hg : X.A.guards = some []) (hu : X.A.units + 64 < cLine) : CallR X (.builtin "repr") (fun xs H Q => ∃ x d, xs = [x] ∧ Dp X.K H x d ∧ d.showable = true ∧ d.hasDict = false ∧ d.shown.length ≤ sizeLine ∧ d.depth ≤ 60 ∧ Q (.str d.shown) H) := by
  intro pins s σ H xs us Q I r h
  obtain ⟨x, d, rfl, hd, h1, h2, h3, h4, q⟩ := h
  cases r with
  | cons rx r0 =>
    cases r0
    obtain ⟨as, hr⟩ := Dp.reads I d x _ hd rx
    cases hr with
    | none => exact PySem.P.repr_of_none ⟨.str _, H, I.tok _, ⟨_, rfl⟩, by simpa only [PyData.shown] using q⟩
    | bool b => exact PySem.P.repr_of_bool ⟨.str _, H, I.tok _, ⟨_, rfl⟩, by simpa only [PyData.shown] using q⟩
    | int i t => exact PySem.P.repr_of_int (by simpa [PyData.showable] using h1) ⟨.str _, H, I.tok _, ⟨_, rfl⟩, by simpa only [PyData.shown] using q⟩
    | str z t => exact PySem.P.repr_of_str ⟨.str _, H, I.tok _, ⟨_, rfl⟩, by simpa only [PyData.shown] using q⟩ (by simpa only [PyData.shown] using h3)
    | list a1 a2 a3 a4 => exact repr_of_reads' (.list a1 a2 a3 a4) h1 (PyData.noDict_hsm h2) hg (by omega) (fun _ _ e => e) (fun h' u tk hk => ⟨.str _, H, I.kept hk, ⟨_, rfl⟩, q⟩) h3
    | tuple a1 a2 a3 a4 => exact repr_of_reads' (.tuple a1 a2 a3 a4) h1 (PyData.noDict_hsm h2) hg (by omega) (fun _ _ e => e) (fun h' u tk hk => ⟨.str _, H, I.kept hk, ⟨_, rfl⟩, q⟩) h3
    | dict a1 a2 a3 a4 a5 => cases hd
end

/-! ### the law's end: one table of code objects, nothing being shown -/
section
variable {P : Program} {w : World} {K : PySem.W.Frag} {mg mb : Str → Option Value} {k : Nat} {fa a c tb : Addr} {fd : FuncData} {x : Str} {sp : Sp} {s1 : Shared} {vs : List Value} {ns : List Int}
/-- the heap at the law's entry, over an abstract heap that tracks the table at tb and at most the script at a -/
theorem law_coreG (KX : K.In s1.heap) (hns : s1.heap.Ns mainGlobals mg) (hb : s1.heap.Ns builtinsNs mb) (hbb : ∀ x : Str, x ≠ "__name__" → mb x = bootBuiltins x) (hlim : s1.heap.NoLimit) (hg : s1.gens = #[])
    (hT : s1.heap.get? tb = some { cls := .none, data := .fields #[] }) (nT : K.lookup tb = none) (C : PySem.W.CodeHd s1.heap c tb)
    (hbm : ∃ (bm : Addr) (ob : Obj), mg "__builtins__" = some (.ref bm) ∧ bm ≠ builtinsNs ∧ s1.heap.get? bm = some ob ∧ ob.cls = .type "module" ∧ ob.dict = some builtinsNs ∧ ob.data = .plain)
    (ha : s1.heap.get? a = some { cls := .type "list", data := .seq vs.toArray }) (hr : Room k callerA)
    (F : ∀ base : Heap, K.In base → base.Ns mainGlobals mg → TabB base mg c tb → FnOkG P w K mg base k fa fd [x] sp) (hbind : ∀ (s : Shared) (u : Value), BindsTo s fd ⟨[u], []⟩ [(x, u)])
    {H : Hp} (hH : H tb = some (.tbl #[])) (hO : ∀ b, H b = none ∨ b = tb ∨ ∃ o xs, H b = some (.frz o (.lst xs))) (hok : HOk P w H s1.heap) (hA : ∀ b, H b ≠ none → b = a ∨ b = tb) (hK : H a ≠ none → K.lookup a = none)
    (hsp : sp [.ref a] H (fun v _ => v = .bl true) fun _ _ _ => False) :
    codeAny (model P w) callerA (.call (.ref fa) ⟨[.ref a], []⟩) (fun r s' => r = .ok (.ret (.bool true)) ∧ OldK s1.heap s'.heap ∧ s'.os = s1.os ∧ AllBare s'.gens) s1 := by
  have tr : ∀ {b u}, H b = some u → b = a ∨ b = tb := fun {b u} q => hA b (by rw [q]; simp)
  -- what is neither a list nor an empty table is not tracked
  have other : ∀ {b : Addr} {o : Obj}, s1.heap.get? b = some o → (∀ vs n, o.data ≠ .seq vs n) → o.data ≠ .fields #[] → H b = none := fun {b o} e h1 h2 => by
    cases q : H b with
    | none => rfl
    | some u =>
      rcases tr q with z | z
      · subst z
        rw [ha] at e
        obtain rfl := Option.some.inj e
        exact absurd rfl (h1 _ _)
      · subst z
        rw [hT] at e
        obtain rfl := Option.some.inj e
        exact absurd rfl h2
  have stays : ∀ {b : Addr} {o : Obj}, s1.heap.get? b = some o → H b = none → (hidT s1.heap H).get? b = some o := fun e n => hidT_get e n
  have isDict : ∀ {b : Addr} {o : Obj} {es : Array DictEntry} {ep : Nat}, s1.heap.get? b = some o → o.data = .dict es ep → H b = none := fun {b o es ep} e d =>
    other e (fun vs n z => by rw [d] at z; cases z) fun z => by rw [d] at z; cases z
  have nsK : ∀ {b : Addr} {m : Str → Option Value}, s1.heap.Ns b m → (hidT s1.heap H).Ns b m := fun {b m} z => by
    obtain ⟨o, es, ep, e, d, r⟩ := z
    exact ⟨o, es, ep, stays e (isDict e d), d, r⟩
  have hKb : K.In (hidT s1.heap H) := fun b o e => by
    refine stays (KX b o e) ?_
    cases q : H b with
    | none => rfl
    | some u =>
      rcases tr q with z | z
      · subst z
        rw [hK (by rw [q]; simp)] at e
        cases e
      · subst z
        rw [nT] at e
        cases e
  have hM : L2.Mod K mg (hidT s1.heap H) := ⟨hKb, nsK hns, ⟨mb, nsK hb, hbb⟩, by
    obtain ⟨mc, h1, h2⟩ := hlim
    exact ⟨mc, nsK h1, h2⟩⟩
  have TB : TabB (hidT s1.heap H) mg c tb := by
    refine ⟨?_, ?_, ?_⟩
    · obtain ⟨o, us, file, tf, flags, tg, inF, text, tt, e1, r1, r2, r3, r4, r5, r6, r7, r8, hne⟩ := C
      refine ⟨o, us, file, tf, flags, tg, inF, text, tt, stays e1 (other e1 (fun vs n z => ?_) fun z => ?_), r1, r2, r3, r4, r5, r6, r7, r8, hne⟩
      · rw [r2] at z
        cases z
      · rw [r2] at z
        cases z
        simp at r3
    · obtain ⟨bm, ob, b1, b2, b3, b4, b5, b6⟩ := hbm
      refine ⟨bm, ob, b1, b2, fun q => ?_, fun q => ?_, stays b3 (other b3 (fun vs n z => by rw [b6] at z; cases z) fun z => by rw [b6] at z; cases z), b4, b5, b6⟩
      · obtain ⟨o, es, ep, e, hd, _⟩ := hns
        rw [q, e] at b3
        obtain rfl := Option.some.inj b3
        rw [hd] at b6
        cases b6
      · rw [q, hT] at b3
        obtain rfl := Option.some.inj b3
        cases b6
    · intro z
      obtain ⟨o, es, ep, e, hd, _⟩ := hns
      rw [z, hT] at e
      obtain rfl := Option.some.inj e
      cases hd
  have e0 : Env0 P w K mg (hidT s1.heap H) callerA [] s1 H := ⟨rfl, hM, fun b o e => of_hidT e, Nat.le_of_eq (hidT_size _ _), trivial, fun b hb => absurd (show b ∈ ([] : List Addr) from hb) (by simp), hok, .of_eq hg⟩
  refine codeAny_mono ((F _ hKb (nsK hns) TB).run callerA [] s1 H ⟨[.ref a], []⟩ [.ref a] [.ref a] _ _ rfl hr e0 (hbind s1 (.ref a)) (.cons rfl .nil) hsp) fun r s' h => ?_
  cases r with
  | error e => exact False.elim h
  | ok fl =>
    cases fl with
    | next => exact False.elim h
    | brk => exact False.elim h
    | cont => exact False.elim h
    | ret u =>
      obtain ⟨v, H', os, bare, un, hok', r', q⟩ := h
      have q' : v = .bl true := q
      subst q'
      obtain rfl : u = Value.bool true := r'
      have key : ∀ b o, b ≠ tb → s1.heap.get? b = some o → s'.heap.get? b = some o := fun b o nb e => by
        rcases hO b with z | z | ⟨ob, xs, z⟩
        · exact un.keep b o e z (by intro z; exact absurd (show b ∈ ([] : List Addr) from z) (by simp)) (by simp)
        · exact absurd z nb
        · obtain ⟨e1, _⟩ := hok b _ z
          obtain ⟨e2, _⟩ := hok' b _ (un.frzs b ob _ z)
          rw [e1] at e
          rw [← e]
          exact e2
      obtain ⟨more, hm⟩ : ∃ more : Array Value, s'.heap.get? tb = some { cls := .none, data := .fields more } := by
        obtain ⟨more, z⟩ := un.tbls tb #[] hH
        exact ⟨_, hok' tb _ z⟩
      refine ⟨rfl, ⟨fun b o e => ?_, fun b o e => ?_⟩, os, bare⟩
      · by_cases hb : b = tb
        · subst hb
          rw [hT] at e
          obtain rfl := Option.some.inj e
          exact .inr (.inl ⟨(C.tab hT).isCodeTable, rfl, #[], more, rfl, by rw [Array.empty_append]; exact hm⟩)
        · exact .inl (key b o hb e)
      · by_cases hb : b = tb
        · subst hb
          exact ⟨_, hm⟩
        · exact ⟨o, key b o hb e⟩
theorem law_callG (KX : K.In s1.heap) (hns : s1.heap.Ns mainGlobals mg) (hb : s1.heap.Ns builtinsNs mb) (hbb : ∀ x : Str, x ≠ "__name__" → mb x = bootBuiltins x) (hlim : s1.heap.NoLimit) (hg : s1.gens = #[])
    (hT : s1.heap.get? tb = some { cls := .none, data := .fields #[] }) (nT : K.lookup tb = none) (C : PySem.W.CodeHd s1.heap c tb)
    (hbm : ∃ (bm : Addr) (ob : Obj), mg "__builtins__" = some (.ref bm) ∧ bm ≠ builtinsNs ∧ s1.heap.get? bm = some ob ∧ ob.cls = .type "module" ∧ ob.dict = some builtinsNs ∧ ob.data = .plain)
    (ha : s1.heap.get? a = some { cls := .type "list", data := .seq vs.toArray }) (hi : IntsAre vs ns) (hl : ns.length ≤ sizeLine) (hr : Room k callerA)
    (F : ∀ base : Heap, K.In base → base.Ns mainGlobals mg → TabB base mg c tb → FnOkG P w K mg base k fa fd [x] sp) (hbind : ∀ (s : Shared) (u : Value), BindsTo s fd ⟨[u], []⟩ [(x, u)])
    (hsp : ∀ H : Hp, H tb = some (.tbl #[]) → SqL K H a (ns.map V.int) → sp [.ref a] H (fun v _ => v = .bl true) fun _ _ _ => False) :
    codeAny (model P w) callerA (.call (.ref fa) ⟨[.ref a], []⟩) (fun r s' => r = .ok (.ret (.bool true)) ∧ OldK s1.heap s'.heap ∧ s'.os = s1.os ∧ AllBare s'.gens) s1 := by
  have rv := vals_ints hi
  have lenV := hi.length
  have aT : a ≠ tb := fun z => by
    subst z
    rw [ha] at hT
    cases hT
  have okT : ∀ H : Hp, ObjOk P w H s1.heap tb (.tbl #[]) := fun H => hT
  cases hk : K.lookup a with
  | some o =>
    have e := KX a o hk
    rw [ha] at e
    obtain rfl := Option.some.inj e
    refine law_coreG KX hns hb hbb hlim hg hT nT C hbm ha hr F hbind (H := fun b => if b = tb then some (.tbl #[]) else none) (if_pos rfl) (fun b => ?_) (fun b u z => ?_) (fun b z => ?_) (fun z => absurd (if_neg aT) z)
      (hsp _ (if_pos rfl) (.inr ⟨_, vs.toArray, _, hk, rfl, rfl, rfl, by rw [List.size_toArray, lenV]; exact hl, by simpa using rv⟩))
    · by_cases hb : b = tb
      · exact .inr (.inl hb)
      · exact .inl (if_neg hb)
    · by_cases hb : b = tb
      · have z' := (if_pos hb).symm.trans z
        obtain rfl := Option.some.inj z'
        rw [hb]
        exact okT _
      · have z' := (if_neg hb).symm.trans z
        cases z'
    · by_cases hb : b = tb
      · exact .inr hb
      · exact absurd (if_neg hb) z
  | none =>
    refine law_coreG KX hns hb hbb hlim hg hT nT C hbm ha hr F hbind (H := fun b => if b = tb then some (.tbl #[]) else if b = a then some (.frz { cls := .type "list", data := .seq vs.toArray } (.lst (ns.map V.int))) else none) (if_pos rfl) (fun b => ?_) (fun b u z => ?_) (fun b z => ?_) (fun _ => hk)
      (hsp _ (if_pos rfl) (.inl (.inr ⟨{ cls := .type "list", data := .seq vs.toArray }, (if_neg aT).trans (if_pos rfl)⟩)))
    · by_cases hb : b = tb
      · exact .inr (.inl hb)
      · by_cases hb2 : b = a
        · exact .inr (.inr ⟨_, _, (if_neg hb).trans (if_pos hb2)⟩)
        · exact .inl ((if_neg hb).trans (if_neg hb2))
    · by_cases hb : b = tb
      · have z' := (if_pos hb).symm.trans z
        obtain rfl := Option.some.inj z'
        rw [hb]
        exact okT _
      · have z1 := (if_neg hb).symm.trans z
        by_cases hb2 : b = a
        · have z' := (if_pos hb2).symm.trans z1
          obtain rfl := Option.some.inj z'
          subst hb2
          exact ⟨ha, by rw [List.length_map]; exact hl, vs, _, rv, ha⟩
        · have z' := (if_neg hb2).symm.trans z1
          cases z'
    · by_cases hb : b = tb
      · exact .inr hb
      · by_cases hb2 : b = a
        · exact .inl hb2
        · exact absurd ((if_neg hb).trans (if_neg hb2)) z
end
open PySem.W in
/-- the walk that a head by facts leaves, from the law's promise -/
theorem walk_G {l : PySem.W.OpenLaw} {n k : Nat} {q : Program} {loose : List Str} {XP : (Str → Option Value) → Heap → Prop} {YP : World → Heap → Prop} {d : DefRec} {x : Str}
    (hn : l.most = some n) (hn2 : n ≤ sizeLine) (hdf : d.params.defaults = []) (hr : Room k callerA)
    (F : ∀ (w : World) (mg : Str → Option Value) (fa : Addr) (h : Heap), YP w h → h.Ns mainGlobals mg → mg d.name = some (.ref fa) →
      ∃ (K : PySem.W.Frag) (c tb : Addr) (fd : FuncData) (sp : Sp), K.In h ∧ h.get? tb = some { cls := .none, data := .fields #[] } ∧ K.lookup tb = none ∧ PySem.W.CodeHd h c tb ∧ (∀ (s : Shared) (u : Value), BindsTo s fd ⟨[u], []⟩ [(x, u)]) ∧
        (∀ (H : Hp) (a : Addr) (ns : List Int), ns.length ≤ n → H tb = some (.tbl #[]) → SqL K H a (ns.map V.int) → sp [.ref a] H (fun v _ => v = .bl true) fun _ _ _ => False) ∧
        ∀ base : Heap, K.In base → base.Ns mainGlobals mg → TabB base mg c tb → FnOkG l.prog w K mg base k fa fd [x] sp) :
    PySem.W.WalkO q loose XP YP l.row.toRowW d [] (fun f vs => PySem.call f vs) := by
  refine Att.attach_call hn hdf fun w s₀ s₁ mg mb fa o pm cd doc a vs ns G Y ho hd hcd hmg hobj hints hlen hg => ?_
  obtain ⟨K, c, tb, fd, sp, KX, hT, nT, C, hb, hsp, hF⟩ := F w mg fa _ Y G.T.g hmg
  exact law_callG KX G.T.g G.T.b G.T.builtins G.T.nolimit hg hT nT C G.T.bmain hobj hints (Nat.le_trans hlen hn2) hr hF hb fun H hH hS => hsp H a ns hlen hH hS
end K29
/-! text K29Base -/
namespace K29
open PySem PySem.Spec PyProof.Rows L2 LamX
/-! ### bundles: a def, its promise, its binding -/
structure FB (P : Program) (w : World) (K : PySem.W.Frag) (mg : Str → Option Value) (base : Heap) (k : Nat) (f : Addr) (ps : List Str) (sp : Sp) : Prop where
  ex : ∃ fd, FnOk P w K mg base CX0 k f fd ps sp ∧ Binds K fd ps []
  kp : PySem.W.keepIn K (.ref f) = true
section
variable {P : Program} {w : World} {K : PySem.W.Frag} {mg : Str → Option Value} {base : Heap}
theorem FB.of {x qual : Str} {params : Arguments} {body : List Stmt} {scope : Scope} {f : Addr} {N ps : List Str} {k : Nat} {sp : Sp} {dvs : List V} {kws : List (Str × V)} (F : ∃ fd, FunD K x qual params body scope dvs kws f fd ∧ Binds K fd ps []) (S : FnScope N ps scope) (len : ∀ vs H Q E, sp vs H Q E → vs.length = ps.length)
    (hbody : ∀ (cdv : Value) (A : Around) (outer : List Env) (s : Shared) (H : Hp) (vs : List V) (Q : VK) (E : XK), Room k (A.deeper (envOfC qual scope s.heap.objs.size f cdv)) → sp vs H Q E →
      ∃ t, PSs (cxOf L2.CX0 P w K mg base N qual scope f cdv A outer s H E).nox body t ∧ t { nx := fun _ H' => Q .non H', rt := Q } (L2.start N vs) H) : FB P w K mg base (k + 1) f ps sp := by
  obtain ⟨fd, F, b⟩ := F
  refine ⟨⟨fd, F.ok S len fun cdv A outer s H vs Q E hr h => ?_, b⟩, F.kp⟩
  obtain ⟨t, h1, h2⟩ := hbody cdv A outer s H vs Q E hr h
  exact ⟨t, h1.nox, h2⟩
/-- the same where nothing is being shown -/
structure GB (P : Program) (w : World) (K : PySem.W.Frag) (mg : Str → Option Value) (base : Heap) (k : Nat) (f : Addr) (ps : List Str) (sp : Sp) : Prop where
  ex : ∃ fd, FnOkG P w K mg base k f fd ps sp ∧ Binds K fd ps []
  kp : PySem.W.keepIn K (.ref f) = true
theorem GB.of {x qual : Str} {params : Arguments} {body : List Stmt} {scope : Scope} {f : Addr} {N ps : List Str} {k : Nat} {sp : Sp} (F : ∃ fd, FunD K x qual params body scope [] [] f fd ∧ Binds K fd ps []) (S : FnScope N ps scope) (len : ∀ vs H Q E, sp vs H Q E → vs.length = ps.length)
    (hbody : ∀ (cdv : Value) (A : Around) (outer : List Env) (s : Shared) (H : Hp) (vs : List V) (Q : VK) (E : XK), A.guards = some [] → Room k (A.deeper (envOfC qual scope s.heap.objs.size f cdv)) → sp vs H Q E →
      ∃ t, PSs (cxOf L2.CX0 P w K mg base N qual scope f cdv A outer s H E).nox body t ∧ t { nx := fun _ H' => Q .non H', rt := Q } (L2.start N vs) H) : GB P w K mg base (k + 1) f ps sp := by
  obtain ⟨fd, F, b⟩ := F
  exact ⟨⟨fd, okG F S len hbody, b⟩, F.kp⟩
/-- a def that lets exceptions out -/
structure XB (P : Program) (w : World) (K : PySem.W.Frag) (mg : Str → Option Value) (base : Heap) (k : Nat) (f : Addr) (ps : List Str) (sp : Sp) : Prop where
  ex : ∃ fd, FnOk P w K mg base (CX P w) k f fd ps sp ∧ Binds K fd ps []
  kp : PySem.W.keepIn K (.ref f) = true
theorem XB.of {x qual : Str} {params : Arguments} {body : List Stmt} {scope : Scope} {f : Addr} {N ps : List Str} {k : Nat} {sp : Sp} (F : ∃ fd, FunD K x qual params body scope [] [] f fd ∧ Binds K fd ps []) (S : FnScope N ps scope) (len : ∀ vs H Q E, sp vs H Q E → vs.length = ps.length)
    (hbody : ∀ (cdv : Value) (A : Around) (outer : List Env) (s : Shared) (H : Hp) (vs : List V) (Q : VK) (E : XK), Room k (A.deeper (envOfC qual scope s.heap.objs.size f cdv)) → sp vs H Q E →
      ∃ t, PSs (cxOf (CX P w) P w K mg base N qual scope f cdv A outer s H E) body t ∧ t { nx := fun _ H' => Q .non H', rt := Q } (L2.start N vs) H) : XB P w K mg base (k + 1) f ps sp := by
  obtain ⟨fd, F, b⟩ := F
  exact ⟨⟨fd, F.ok S len hbody, b⟩, F.kp⟩
end
section
variable {X : Cx} {k j : Nat} {f C : Addr} {ps : List Str} {sp : Sp} {x m : Str} {p pos apos : Pos} {e o : Expr} {es : List Expr} {ta : TE} {t : TA}
theorem pe_f (B : FB X.prog X.w X.K X.mg X.base k f ps sp) (hm : X.mg x = some (.ref f)) (hr : Room j X.A) (ha : PA X (e :: es) t) (hkj : k ≤ j := by decide) (hg : Gl X x := by rfl) (hdb : (x == ("__debug__" : Str)) = false := by decide)
    (he : starEach (e :: es) X.env = (false, eval e X.env) :: starEach es X.env := by rfl) (hpl : (backTo pos (starEach es X.env)).any (·.1) = false := by rfl) : PE X (.Call (.Name x p) (e :: es) [] pos) (tCall sp [] L2.E0 t) := by
  obtain ⟨⟨fd, F, b⟩, kp⟩ := B
  exact pe_call F (hr.mono hkj) hg hm kp b .nil pass0 ha hdb he hpl
theorem pe_g (B : GB X.prog X.w X.K X.mg X.base k f ps sp) (hm : X.mg x = some (.ref f)) (hgd : X.A.guards = some []) (hr : Room j X.A) (ha : PA X (e :: es) t) (hkj : k ≤ j := by decide) (hg : Gl X x := by rfl) (hdb : (x == ("__debug__" : Str)) = false := by decide)
    (he : starEach (e :: es) X.env = (false, eval e X.env) :: starEach es X.env := by rfl) (hpl : (backTo pos (starEach es X.env)).any (·.1) = false := by rfl) : PE X (.Call (.Name x p) (e :: es) [] pos) (tCall sp [] L2.E0 t) := by
  obtain ⟨⟨fd, F, b⟩, kp⟩ := B
  exact pe_callG F hgd (hr.mono hkj) hg hm kp b ha hdb he hpl
theorem pe_m {pl : Sem Bool} (c : Cls X.K C) (hm : Meth X.K C m f) (B : FB X.prog X.w X.K X.mg X.base k f ps sp) (hr : Room j X.A) (he : PE X o ta) (ha : PA X (e :: es) t) (hkj : k ≤ j := by decide)
    (hst : starEach (e :: es) X.env = (false, eval e X.env) :: starEach es X.env := by rfl) (hpl : (backTo pos (starEach es X.env)).any (·.1) = false := by rfl)
    (ht : eval (.Call (.Attribute o m apos) (e :: es) [] pos) X.env = (do
      let ov ← eval o X.env
      standAt apos.atName
      let (f, first) ← holding [ov] (getMethod ov m pl)
      callWith pos f first (backTo pos (starEach (e :: es) X.env)) (backToKw pos (keywordEach [] X.env))) := by rfl) : PE X (.Call (.Attribute o m apos) (e :: es) [] pos) (tMeth C m sp [] L2.E0 ta t) := by
  obtain ⟨⟨fd, F, b⟩, kp⟩ := B
  exact pe_meth he c hm F (hr.mono hkj) b .nil pass0 ha hst hpl ht
theorem pe_m0 {pl : Sem Bool} (c : Cls X.K C) (hm : Meth X.K C m f) (B : FB X.prog X.w X.K X.mg X.base k f ps sp) (hr : Room j X.A) (he : PE X o ta) (hkj : k ≤ j := by decide)
    (ht : eval (.Call (.Attribute o m apos) [] [] pos) X.env = (do
      let ov ← eval o X.env
      standAt apos.atName
      let (f, first) ← holding [ov] (getMethod ov m pl)
      callWith pos f first (backTo pos (starEach [] X.env)) (backToKw pos (keywordEach [] X.env))) := by rfl) : PE X (.Call (.Attribute o m apos) [] [] pos) (tMeth C m sp [] L2.E0 ta tNil) := by
  obtain ⟨⟨fd, F, b⟩, kp⟩ := B
  exact pe_meth0 he c hm F (hr.mono hkj) b .nil pass0 ht
theorem pe_mk (M : Mk X.K C f) (B : FB X.prog X.w X.K X.mg X.base k f ps sp) (hm : X.mg x = some (.ref C)) (hr : Room j X.A) (ha : PA X (e :: es) t) (hkj : k + 1 ≤ j := by decide) (hg : Gl X x := by rfl) (hdb : (x == ("__debug__" : Str)) = false := by decide)
    (he : starEach (e :: es) X.env = (false, eval e X.env) :: starEach es X.env := by rfl) (hpl : (backTo pos (starEach es X.env)).any (·.1) = false := by rfl) : PE X (.Call (.Name x p) (e :: es) [] pos) (tMake C sp [] L2.E0 t) := by
  obtain ⟨⟨fd, F, b⟩, kp⟩ := B
  exact pe_make M F (hr.mono hkj) hg hm b .nil pass0 ha hdb he hpl
end

/-! ### freezing -/
def tFz (t : TE) : TE := fun σ H Q => t σ H fun v H1 => ∃ d u, v = .ref d ∧ H1 d = some u ∧ Mut (some u) ∧ ∀ o, Q v (upd H1 d (.frz o u))
def tFzS (i : Nat) (t : TS) : TS := fun D σ H => ∃ d u, σ[i]? = some (some (.ref d)) ∧ H d = some u ∧ Mut (some u) ∧ ∀ o, t D σ (upd H d (.frz o u))
section
variable {X : Cx}
theorem pe_fz {e : Expr} {t : TE} (h : PE X e t) : PE X e (tFz t) := by
  refine ⟨fun pins s σ H Q I hw => thn (h.run pins s σ H _ I hw) fun v s1 hq => ?_⟩
  obtain ⟨x, H1, I1, r, d, u, rfl, hd, mu, q⟩ := hq
  obtain ⟨od, I2⟩ := I1.lock hd mu
  exact ⟨.ref d, _, I2, r, q od⟩
theorem pss_fz (i : Nat) {ss : List Stmt} {t : TS} (h : PSs X ss t) : PSs X ss (tFzS i t) := by
  refine ⟨fun pins s σ H D I hw => ?_⟩
  obtain ⟨d, u, _, hd, mu, q⟩ := hw
  obtain ⟨od, I2⟩ := I.lock hd mu
  exact h.run pins s σ _ D I2 (q od)
end

/-! ### what a def leaves of the heap -/
def Fz : HO → Prop
  | .tup _ => True
  | .frz _ _ => True
  | _ => False
/-- what may be written here -/
def Mb : HO → Prop
  | .lst _ => True
  | .dK _ => True
  | .ins _ _ _ => True
  | _ => False
theorem Mb.nf {o : HO} (m : Mb o) : ¬ Fz o := fun z => by cases o <;> first | exact m | exact z
theorem Mb.nt {o : HO} (m : Mb o) (ps : Array Value) : o ≠ .tbl ps := fun z => by subst z; exact m
theorem Mb.nc {o : HO} (m : Mb o) (c : Addr) (q : Str) : o ≠ CodeO c q := fun z => by subst z; exact m
/-- no table -/
def Nt : HO → Prop
  | .tbl _ => False
  | _ => True
theorem Mb.Nt {o : HO} (m : Mb o) : Nt o := by cases o <;> first | exact m.elim | trivial
theorem Fz.Nt {o : HO} (m : Fz o) : Nt o := by cases o <;> first | exact m.elim | trivial
theorem Nt.of {o : HO} (h : ∀ ps, o ≠ .tbl ps) : Nt o := by cases o <;> first | exact (h _ rfl).elim | trivial
theorem Nt.ne {o : HO} (h : Nt o) (ps : Array Value) : o ≠ .tbl ps := fun z => by subst z; exact h
/-- nothing that is known stands there (but perhaps a table) -/
def Nw (H : Hp) (b : Addr) : Prop := ∀ o, H b = some o → ¬ Nt o
theorem Nw.of {H : Hp} {b : Addr} (h : H b = none) : Nw H b := fun o e => by rw [h] at e; cases e
theorem Nw.ne {H : Hp} {b c : Addr} {o : HO} (n : Nw H b) (h : H c = some o) (t : Nt o) : c ≠ b := fun z => by subst z; exact n o h t
structure Go (T : List (Addr × Str)) (M : Addr → Prop) (H H' : Hp) : Prop where
  kp : ∀ b o, H b = some o → ¬ M b → Nt o → H' b = some o
  fz : ∀ b o, H b = some o → Fz o → H' b = some o
  tb : Tabs T H → Tabs T H'
  tk : ∀ b o, H b = some o → Nt o → ∃ o', H' b = some o' ∧ Nt o'
abbrev No : Addr → Prop := fun _ => False
section
variable {T : List (Addr × Str)} {M N : Addr → Prop} {H H1 H2 : Hp} {d : Addr} {o u : HO}
theorem Go.refl : Go T M H H := ⟨fun _ _ h _ _ => h, fun _ _ h _ => h, fun h => h, fun _ o h t => ⟨o, h, t⟩⟩
theorem Go.thn (a : Go T M H H1) (b : Go T N H1 H2) (h : ∀ b, N b → M b ∨ Nw H b) : Go T M H H2 :=
  ⟨fun c o e n t => b.kp c o (a.kp c o e n t) (fun z => (h c z).elim n fun q => q o e t) t, fun c o e z => b.fz c o (a.fz c o e z) z, fun h => b.tb (a.tb h), fun c o e t => by
    obtain ⟨o1, e1, t1⟩ := a.tk c o e t
    exact b.tk c o1 e1 t1⟩
theorem Go.trans (a : Go T M H H1) (b : Go T M H1 H2) : Go T M H H2 := a.thn b fun _ h => .inl h
theorem Go.thn0 (a : Go T M H H1) (b : Go T No H1 H2) : Go T M H H2 := a.thn b fun _ h => h.elim
theorem Go.mono (a : Go T N H H1) (h : ∀ b, N b → M b ∨ Nw H b) : Go T M H H1 := Go.refl.thn a h
theorem Go.wk (a : Go T No H H1) : Go T M H H1 := a.mono fun _ h => h.elim
theorem Go.add (a : Go T M H H1) (n : H1 d = none) : Go T M H (upd H1 d o) := by
  have st : ∀ b o', H1 b = some o' → upd H1 d o b = some o' := fun b o' e => by
    rw [upd_ne (ne_of_none e n)]
    exact e
  exact ⟨fun b o' e nm t => st _ _ (a.kp b o' e nm t), fun b o' e z => st _ _ (a.fz b o' e z), fun h => (a.tb h).ext st, fun b o' e t => by
    obtain ⟨o1, e1, t1⟩ := a.tk b o' e t
    exact ⟨o1, st _ _ e1, t1⟩⟩
theorem Go.set (a : Go T M H H1) (h : H1 d = some u) (mb : Mb u) (hd : M d ∨ Nw H d) (no : Nt o := by trivial) : Go T M H (upd H1 d o) := by
  have st : ∀ b o', H1 b = some o' → b ≠ d → upd H1 d o b = some o' := fun b o' e nb => by
    rw [upd_ne nb]
    exact e
  refine ⟨fun b o' e nm t => st _ _ (a.kp b o' e nm t) fun z => ?_, fun b o' e z => st _ _ (a.fz b o' e z) fun y => ?_, fun hT p hp => ?_, fun b o' e t => ?_⟩
  · subst z
    rcases hd with z | z
    · exact nm z
    · exact z _ e t
  · subst y
    have q := a.fz _ _ e z
    rw [h] at q
    cases q
    exact mb.nf z
  · obtain ⟨ps, h1, h2, h3⟩ := a.tb hT p hp
    refine ⟨ps, st _ _ h1 fun z => ?_, h2, fun pos cv hc => ?_⟩
    · rw [z, h] at h1
      exact mb.nt _ (Option.some.inj h1)
    · obtain ⟨c, e1, e2⟩ := h3 pos cv hc
      refine ⟨c, e1, st _ _ e2 fun z => ?_⟩
      rw [z, h] at e2
      exact mb.nc _ _ (Option.some.inj e2)
  · by_cases hb : b = d
    · subst hb
      exact ⟨o, upd_same, no⟩
    · obtain ⟨o1, e1, t1⟩ := a.tk b o' e t
      exact ⟨o1, st _ _ e1 hb, t1⟩
theorem Go.nw (a : Go T M H H1) (n : Nw H1 d) : Nw H d := fun o e t => by
  obtain ⟨o1, e1, t1⟩ := a.tk d o e t
  exact n o1 e1 t1
theorem Go.ext (e : ExtN H H1) (t : Tabs T H1) : Go T M H H1 := ⟨fun b o h _ n => e b o h n.ne, fun b o h z => e b o h z.Nt.ne, fun _ => t, fun b o h n => ⟨o, e b o h n.ne, n⟩⟩
theorem Go.same (e : Same H H1) : Go T M H H1 := ⟨fun b o h _ _ => e b o h, fun b o h _ => e b o h, fun h => h.ext e, fun b o h t => ⟨o, e b o h, t⟩⟩
theorem Go.lst {xs : List V} (a : Go T M H H1) (h : H d = some (.lst xs)) (n : ¬ M d) : H1 d = some (.lst xs) := a.kp d _ h n trivial
theorem Go.dK {kvs : List (Key × V)} (a : Go T M H H1) (h : H d = some (.dK kvs)) (n : ¬ M d) : H1 d = some (.dK kvs) := a.kp d _ h n trivial
theorem Go.ins {C dx : Addr} {fs : List (Str × V)} (a : Go T M H H1) (h : H d = some (.ins C dx fs)) (n : ¬ M d) : H1 d = some (.ins C dx fs) := a.kp d _ h n trivial
end

/-! ### data that stands still -/
mutual
inductive FzD (H : Hp) : V → PyData → Prop
  | non : FzD H .non .none
  | bl (b : Bool) : FzD H (.bl b) (.bool b)
  | int (i : Int) : FzD H (.int i) (.int i)
  | str (x : Str) : FzD H (.str x) (.str x)
  | lst {a : Addr} {o : Obj} {xs : List V} {ds : List PyData} : H a = some (.frz o (.lst xs)) → FzA H xs ds → FzD H (.ref a) (.list ds)
  | tup {a : Addr} {xs : List V} {ds : List PyData} : H a = some (.tup xs) → FzA H xs ds → FzD H (.ref a) (.tuple ds)
inductive FzA (H : Hp) : List V → List PyData → Prop
  | nil : FzA H [] []
  | cons {v : V} {vs : List V} {d : PyData} {ds : List PyData} : FzD H v d → FzA H vs ds → FzA H (v :: vs) (d :: ds)
end
/-- lists of one length, item by item -/
def Zp {α β : Type} (R : α → β → Prop) (xs : List α) (ys : List β) : Prop := xs.length = ys.length ∧ ∀ (i : Nat) (x : α) (y : β), xs[i]? = some x → ys[i]? = some y → R x y
section
variable {α β γ : Type} {R S : α → β → Prop} {xs : List α} {ys : List β}
theorem Zp.nil : Zp R [] [] := ⟨rfl, fun i x y h => by simp at h⟩
theorem Zp.mono (z : Zp R xs ys) (h : ∀ x y, R x y → S x y) : Zp S xs ys := ⟨z.1, fun i x y hx hy => h _ _ (z.2 i x y hx hy)⟩
theorem Zp.monoM (z : Zp R xs ys) (h : ∀ x y, x ∈ xs → y ∈ ys → R x y → S x y) : Zp S xs ys := ⟨z.1, fun i x y hx hy => h _ _ (List.mem_of_getElem? hx) (List.mem_of_getElem? hy) (z.2 i x y hx hy)⟩
theorem Zp.cons {x : α} {y : β} (h : R x y) (z : Zp R xs ys) : Zp R (x :: xs) (y :: ys) := ⟨by simp [z.1], fun i a b ha hb => by
  cases i with
  | zero =>
    simp only [List.getElem?_cons_zero, Option.some.injEq] at ha hb
    subst ha hb
    exact h
  | succ i =>
    rw [List.getElem?_cons_succ] at ha hb
    exact z.2 i a b ha hb⟩
theorem Zp.uncons {x : α} {zs : List β} (z : Zp R (x :: xs) zs) : ∃ y ys, zs = y :: ys ∧ R x y ∧ Zp R xs ys := by
  cases zs with
  | nil => exact absurd z.1 (by simp)
  | cons y ys => exact ⟨y, ys, rfl, z.2 0 x y rfl rfl, by have := z.1; simpa using this, fun i a b ha hb => z.2 (i + 1) a b (by rw [List.getElem?_cons_succ]; exact ha) (by rw [List.getElem?_cons_succ]; exact hb)⟩
theorem Zp.snoc {x : α} {y : β} (z : Zp R xs ys) (h : R x y) : Zp R (xs ++ [x]) (ys ++ [y]) := ⟨by simp [z.1], fun i a b ha hb => by
  by_cases hi : i < xs.length
  · rw [List.getElem?_append_left hi] at ha
    rw [List.getElem?_append_left (by rw [← z.1]; exact hi)] at hb
    exact z.2 i a b ha hb
  · have h1 : i < (xs ++ [x]).length := (List.getElem?_eq_some_iff.mp ha).1
    have e : i = xs.length := by simp at h1; omega
    subst e
    rw [List.getElem?_concat_length] at ha
    rw [z.1, List.getElem?_concat_length] at hb
    cases ha
    cases hb
    exact h⟩
theorem Zp.app {xs' : List α} {ys' : List β} (z : Zp R xs ys) (z' : Zp R xs' ys') : Zp R (xs ++ xs') (ys ++ ys') := ⟨by simp [z.1, z'.1], fun i a b ha hb => by
  by_cases hi : i < xs.length
  · rw [List.getElem?_append_left hi] at ha
    rw [List.getElem?_append_left (by rw [← z.1]; exact hi)] at hb
    exact z.2 i a b ha hb
  · rw [List.getElem?_append_right (by omega)] at ha
    rw [List.getElem?_append_right (by rw [← z.1]; omega), ← z.1] at hb
    exact z'.2 _ a b ha hb⟩
theorem Zp.at {i : Nat} {y : β} (z : Zp R xs ys) (hy : ys[i]? = some y) : ∃ x, xs[i]? = some x ∧ R x y := by
  have h1 : i < ys.length := (List.getElem?_eq_some_iff.mp hy).1
  have h2 : i < xs.length := by rw [z.1]; exact h1
  exact ⟨xs[i], List.getElem?_eq_getElem h2, z.2 i _ _ (List.getElem?_eq_getElem h2) hy⟩
theorem Zp.atL {i : Nat} {x : α} (z : Zp R xs ys) (hx : xs[i]? = some x) : ∃ y, ys[i]? = some y ∧ R x y := by
  have h1 : i < xs.length := (List.getElem?_eq_some_iff.mp hx).1
  have h2 : i < ys.length := by rw [← z.1]; exact h1
  exact ⟨ys[i], List.getElem?_eq_getElem h2, z.2 i _ _ hx (List.getElem?_eq_getElem h2)⟩
theorem Zp.drop_last (z : Zp R xs ys) : Zp R xs.dropLast ys.dropLast := ⟨by simp [z.1], fun i a b ha hb => by
  rw [List.getElem?_dropLast] at ha hb
  by_cases h1 : i < xs.length - 1
  · rw [if_pos h1] at ha
    rw [if_pos (by rw [← z.1]; exact h1)] at hb
    exact z.2 i a b ha hb
  · rw [if_neg h1] at ha
    cases ha⟩
theorem Zp.set {x : α} {y : β} (z : Zp R xs ys) (i : Nat) (h : R x y) : Zp R (xs.set i x) (ys.set i y) := ⟨by simp [z.1], fun j a b ha hb => by
  by_cases e : i = j
  · subst e
    have h1 : i < xs.length := by have := (List.getElem?_eq_some_iff.mp ha).1; simpa using this
    have h2 : i < ys.length := by have := (List.getElem?_eq_some_iff.mp hb).1; simpa using this
    rw [List.getElem?_set_self h1] at ha
    rw [List.getElem?_set_self h2] at hb
    cases ha
    cases hb
    exact h
  · rw [List.getElem?_set_ne e] at ha hb
    exact z.2 j a b ha hb⟩
theorem Zp.take (z : Zp R xs ys) (n : Nat) : Zp R (xs.take n) (ys.take n) := ⟨by simp [z.1], fun i a b ha hb => by
  rw [List.getElem?_take] at ha hb
  by_cases h1 : i < n
  · rw [if_pos h1] at ha hb
    exact z.2 i a b ha hb
  · rw [if_neg h1] at ha
    cases ha⟩
theorem Zp.drop (z : Zp R xs ys) (n : Nat) : Zp R (xs.drop n) (ys.drop n) := ⟨by simp [z.1], fun i a b ha hb => by
  rw [List.getElem?_drop] at ha hb
  exact z.2 _ a b ha hb⟩
theorem zp_map {f : γ → β} {l : List γ} : Zp R xs (l.map f) ↔ Zp (fun x y => R x (f y)) xs l := by
  constructor
  · intro z
    exact ⟨by rw [z.1, List.length_map], fun i x y hx hy => z.2 i x (f y) hx (by rw [List.getElem?_map, hy]; rfl)⟩
  · intro z
    refine ⟨by rw [z.1, List.length_map], fun i x y hx hy => ?_⟩
    rw [List.getElem?_map] at hy
    cases e : l[i]? with
    | none =>
      rw [e] at hy
      cases hy
    | some c =>
      rw [e] at hy
      cases hy
      exact z.2 i x c hx e
end
section
variable {H H' : Hp} {K : PySem.W.Frag}
theorem fzA_zp : ∀ {xs : List V} {ds : List PyData}, FzA H xs ds ↔ Zp (FzD H) xs ds
  | [], ds => ⟨fun h => by cases h; exact Zp.nil, fun h => by
      cases ds with
      | nil => exact .nil
      | cons _ _ => exact absurd h.1 (by simp)⟩
  | x :: xs, ds => ⟨fun h => by
      cases h with
      | cons h1 h2 => exact Zp.cons h1 (fzA_zp.mp h2), fun h => by
      obtain ⟨y, ys, rfl, h1, h2⟩ := h.uncons
      exact .cons h1 (fzA_zp.mpr h2)⟩
mutual
theorem FzD.mono (f : ∀ b o, H b = some o → Fz o → H' b = some o) : ∀ (d : PyData) (v : V), FzD H v d → FzD H' v d
  | .none, _, h => by cases h; exact .non
  | .bool _, _, h => by cases h; exact .bl _
  | .int _, _, h => by cases h; exact .int _
  | .str _, _, h => by cases h; exact .str _
  | .list ds, _, h => by
    cases h with
    | lst h1 h2 => exact .lst (f _ _ h1 trivial) (FzA.mono f ds _ h2)
  | .tuple ds, _, h => by
    cases h with
    | tup h1 h2 => exact .tup (f _ _ h1 trivial) (FzA.mono f ds _ h2)
  | .dict _, _, h => by cases h
theorem FzA.mono (f : ∀ b o, H b = some o → Fz o → H' b = some o) : ∀ (ds : List PyData) (vs : List V), FzA H vs ds → FzA H' vs ds
  | [], _, h => by cases h; exact .nil
  | d :: ds, _, h => by
    cases h with
    | cons h1 h2 => exact .cons (FzD.mono f d _ h1) (FzA.mono f ds _ h2)
end
mutual
theorem FzD.dp : ∀ (d : PyData) (v : V), FzD H v d → Dp K H v d
  | .none, _, h => by cases h; exact .non
  | .bool _, _, h => by cases h; exact .bl _
  | .int _, _, h => by cases h; exact .int _
  | .str _, _, h => by cases h; exact .str _
  | .list ds, _, h => by
    cases h with
    | lst h1 h2 => exact .lst (.inl (.inr ⟨_, h1⟩)) (FzA.dp ds _ h2)
  | .tuple ds, _, h => by
    cases h with
    | tup h1 h2 => exact .tup (SqT.of h1) (FzA.dp ds _ h2)
  | .dict _, _, h => by cases h
theorem FzA.dp : ∀ (ds : List PyData) (vs : List V), FzA H vs ds → DpAll K H vs ds
  | [], _, h => by cases h; exact .nil
  | d :: ds, _, h => by
    cases h with
    | cons h1 h2 => exact .cons (FzD.dp d _ h1) (FzA.dp ds _ h2)
end
theorem FzD.go {T : List (Addr × Str)} {M : Addr → Prop} {v : V} {d : PyData} (h : FzD H v d) (g : Go T M H H') : FzD H' v d := FzD.mono g.fz d v h
/-- the frozen list of these -/
def FzL {β : Type} (H : Hp) (f : β → PyData) (xs : List V) (l : List β) : Prop := Zp (fun x y => FzD H x (f y)) xs l
theorem FzL.go {T : List (Addr × Str)} {M : Addr → Prop} {β : Type} {f : β → PyData} {xs : List V} {l : List β} (h : FzL H f xs l) (g : Go T M H H') : FzL H' f xs l := Zp.mono h fun _ _ h => h.go g
theorem FzL.up {β : Type} {f : β → PyData} {xs : List V} {l : List β} (h : FzL H f xs l) (g : ∀ b o, H b = some o → Fz o → H' b = some o) : FzL H' f xs l := Zp.mono h fun _ _ h => FzD.mono g _ _ h
theorem fz_list {β : Type} {f : β → PyData} {v : V} {l : List β} : FzD H v (.list (l.map f)) ↔ ∃ a o xs, v = .ref a ∧ H a = some (.frz o (.lst xs)) ∧ FzL H f xs l := by
  constructor
  · intro h
    cases h with
    | lst h1 h2 => exact ⟨_, _, _, rfl, h1, zp_map.mp (fzA_zp.mp h2)⟩
  · rintro ⟨a, o, xs, rfl, h1, h2⟩
    exact .lst h1 (fzA_zp.mpr (zp_map.mpr h2))
theorem fz_t2 {v : V} {d1 d2 : PyData} : FzD H v (.tuple [d1, d2]) ↔ ∃ a x y, v = .ref a ∧ H a = some (.tup [x, y]) ∧ FzD H x d1 ∧ FzD H y d2 := by
  constructor
  · intro h
    cases h with
    | tup h1 h2 => cases h2 with
      | cons a h2 => cases h2 with
        | cons b h2 =>
          cases h2
          exact ⟨_, _, _, rfl, h1, a, b⟩
  · rintro ⟨a, x, y, rfl, h, h1, h2⟩
    exact .tup h (.cons h1 (.cons h2 .nil))
theorem fz_t3 {v : V} {d1 d2 d3 : PyData} : FzD H v (.tuple [d1, d2, d3]) ↔ ∃ a x y z, v = .ref a ∧ H a = some (.tup [x, y, z]) ∧ FzD H x d1 ∧ FzD H y d2 ∧ FzD H z d3 := by
  constructor
  · intro h
    cases h with
    | tup h1 h2 => cases h2 with
      | cons a h2 => cases h2 with
        | cons b h2 => cases h2 with
          | cons c h2 =>
            cases h2
            exact ⟨_, _, _, _, rfl, h1, a, b, c⟩
  · rintro ⟨a, x, y, z, rfl, h, h1, h2, h3⟩
    exact .tup h (.cons h1 (.cons h2 (.cons h3 .nil)))
theorem fz_str {v : V} {x : Str} : FzD H v (.str x) ↔ v = .str x := ⟨fun h => by cases h; rfl, fun h => by subst h; exact .str _⟩
theorem fz_int {v : V} {x : Int} : FzD H v (.int x) ↔ v = .int x := ⟨fun h => by cases h; rfl, fun h => by subst h; exact .int _⟩
theorem fz_bl {v : V} {x : Bool} : FzD H v (.bool x) ↔ v = .bl x := ⟨fun h => by cases h; rfl, fun h => by subst h; exact .bl _⟩
theorem fz_non {v : V} : FzD H v .none ↔ v = .non := ⟨fun h => by cases h; rfl, fun h => by subst h; exact .non⟩
end

/-! ### books, keys, rows as data -/
def kyD (k : Ky) : PyData := .tuple [.str k.1, .int k.2]
def ssD (p : Str × Str) : PyData := .tuple [.str p.1, .str p.2]
def knD (p : Str × Bool) : PyData := .tuple [.str p.1, .bool p.2]
def dlD (d : Dl) : PyData := .tuple [.str d.name, .list (d.letters.map ssD), .list (d.steps.map ssD)]
def bkD (b : Bk) : PyData := .tuple [.list (b.kinds.map knD), .list (b.deals.map dlD)]
def snD : Option Nat → PyData
  | none => .none
  | some i => .int i
def tkD (t : Tk) : PyData := .tuple [.str t.deed, kyD t.key, snD t.seen]
def rowD : Row → PyData
  | .bgn n ks => .tuple [.str "begin", .str n, .list (ks.map kyD)]
  | .stp i => .tuple [.str "step", .int i]
  | .fin i => .tuple [.str "end", .int i]
  | .drp i => .tuple [.str "drop", .int i]
def snV : Option Nat → V
  | none => .non
  | some i => .int i
theorem fz_sn {H : Hp} {v : V} {r : Option Nat} : FzD H v (snD r) ↔ v = snV r := by
  cases r
  · exact fz_non
  · exact fz_int
end K29
/-! text K29Zip -/
namespace K29
open PySem PySem.Spec PyProof.Rows
open Sem (wp)
/-! ### zip(a, b, strict=True) of two lists of one length -/
theorem zs_typeCall (a b c : Value) : checkTypeCall "zip" ⟨[a, b], [(Str.ofString "strict", c)]⟩ = pure () := by kernel_rfl
theorem zs_newCall (a b c : Value) : checkBuiltinCall "zip.__new__" ⟨[.type "zip", a, b], [(Str.ofString "strict", c)]⟩ = pure () := by kernel_rfl
theorem zs_init (obj a b c : Value) : argsOk "object.__init__" ⟨[obj, a, b], [(Str.ofString "strict", c)]⟩ := by unfold argsOk; kernel_rfl
abbrev IsZipS (h : Heap) (z TI TO : Addr) (f0 : Value) : Prop :=
  h.get? z = some { cls := .type "zip", dict := none, data := .fields #[f0, .bool false, .bool true, .ref TI, .ref TO], slots := #[] }
abbrev zsH5 (h : Heap) (l1 l2 : Addr) : Heap := (zipH4 h l1 l2).push { cls := .type "zip", data := .fields #[.none, .bool false, .bool true, .ref (zipH2 h l1 l2).objs.size, .ref (zipH3 h l1 l2).objs.size] }
theorem zs_meets_new (l1 l2 : Addr) (xs ys : Array Value) :
    Meets (Builtin.«zip.__new__» ⟨[.type "zip", .ref l1, .ref l2], [(Str.ofString "strict", .bool true)]⟩) (fun _ R s => s.heap.IsList l1 xs ∧ s.heap.IsList l2 ys ∧
      R (.ok (.ret (.ref (zipH4 s.heap l1 l2).objs.size))) { s with heap := zsH5 s.heap l1 l2 }) :=
  .of_wp fun prog w A R s h => by
    obtain ⟨hp, g, d, tk, os⟩ := s; obtain ⟨hl1, hl2, h⟩ := h
    have hsub := sub_zip
    have hL1 : Heap.IsList (Shared.heap ⟨hp, g, d, tk, os⟩) l1 xs := hl1
    have hL2 : Heap.IsList (Shared.heap ⟨hp.push { cls := .type "list_iterator", data := .fields #[.ref l1, .int 0 0] }, g, d, tk, os⟩) l2 ys := Heap.IsList.push hl2 _
    have e1 : (Str.ofString "strict" != ("strict" : Str)) = false := by decide +kernel
    wp_walk using wpAny_pyIter_list hL1, wpAny_pyIter_list hL2
    exact ⟨_, rfl, h⟩
end K29
/-! text K29ZipB -/
namespace K29
open PySem PySem.Spec PyProof.Rows
open Sem (wp)
section
variable {prog : Program} {w : World} {A : Around} {E : Value → Shared → Prop} {s : Shared}
theorem zs_draw_item {it l : Addr} {i : Nat} {items} {x : Value} {Q : Option Value → Shared → Prop} (hit : s.heap.IsListIter it l i) (hl : s.heap.IsList l items) (hx : items[i]? = some x)
    (hQ : ∀ h', h'.IsListIter it l (i + 1) → Heap.SameBut it s.heap h' → Q (some x) { s with heap := h' }) : wpAny (model prog w) A (Builtin.SmallTypes.nextOrEnd (.ref it)) Q E s := by
  unfold Builtin.SmallTypes.nextOrEnd
  refine wpAny_bind (wpAny_attempt (wpAny_nextOf_list_item hit hl hx fun h' h1 h2 => ?_))
  exact wpAny_pure (hQ h' h1 h2)
theorem zs_draw_end {it l : Addr} {i : Nat} {items} {Q : Option Value → Shared → Prop} (hh : A.handled = none) (hit : s.heap.IsListIter it l i) (hl : s.heap.IsList l items) (hx : items[i]? = none)
    (hQ : ∀ h', Heap.ExtBut it s.heap h' → Q none { s with heap := h' }) : wpAny (model prog w) A (Builtin.SmallTypes.nextOrEnd (.ref it)) Q E s := by
  unfold Builtin.SmallTypes.nextOrEnd
  refine wpAny_bind (wpAny_attempt (wpAny_nextOf_list_end hh hit hl hx fun h' e h1 h2 => ?_))
  obtain ⟨o, ho, hc⟩ := h2
  refine wpAny_bind (wpAny_isInstance (T := "StopIteration") (b := true) ⟨o, ho, hc⟩ isSubtype_stop ?_)
  exact wpAny_pure (hQ h' h1)
theorem zs_next_item {z TI TO i1 i2 l1 l2 : Addr} {k1 k2 : Nat} {xs ys : Array Value} {x y a b : Value} {Q : Value → Shared → Prop} (D : ZipApart z TI TO i1 i2 l1 l2)
    (hz : IsZipS s.heap z TI TO .none) (hTI : IsPair s.heap TI (.ref i1) (.ref i2)) (hTO : IsPair s.heap TO a b)
    (h1 : s.heap.IsListIter i1 l1 k1) (h2 : s.heap.IsListIter i2 l2 k2) (hl1 : s.heap.IsList l1 xs) (hl2 : s.heap.IsList l2 ys) (hx : xs[k1]? = some x) (hy : ys[k2]? = some y)
    (hQ : ∀ h', IsZipS h' z TI TO (rawInt s.heap.objs.size) → IsPair h' TO x y → h'.IsListIter i1 l1 (k1 + 1) → h'.IsListIter i2 l2 (k2 + 1) → IsPair h' s.heap.objs.size x y → h'.objs.size = s.heap.objs.size + 1 →
      (∀ c o, c ≠ z → c ≠ TO → c ≠ i1 → c ≠ i2 → s.heap.get? c = some o → h'.get? c = some o) → Q (.ref s.heap.objs.size) { s with heap := h' }) :
    wpAny (model prog w) A (Builtin.«zip.__next__» ⟨[.ref z], []⟩) (fun fin s' => ∃ v, fin = .done (.ret v) ∧ Q v s') E s := by
  show wpAny _ _ (field (.ref z) 2 >>= _) _ _ _
  refine wpAny_bind (wpAny_field hz rfl (x := .bool true) rfl ?_)
  show wpAny _ _ (field (.ref z) 3 >>= _) _ _ _
  refine wpAny_bind (wpAny_field hz rfl (x := .ref TI) rfl ?_)
  refine wpAny_bind (wpAny_seqItems hTI rfl ?_)
  show wpAny _ _ (Builtin.SmallTypes.ownedTupleIsFree (.ref z) >>= _) _ _ _
  refine wpAny_bind ?_
  unfold Builtin.SmallTypes.ownedTupleIsFree
  refine wpAny_bind (wpAny_field hz rfl (x := .none) rfl (wpAny_pure ?_))
  simp only [if_true]
  refine wpAny_bind (wpAny_rule ?_)
  refine wpAny_bind (wpAny_field hz rfl (x := .ref TO) rfl ?_)
  refine wpAny_bind (wpAny_setField_rec hz (by simp) fun g1 hz1 hs1 => ?_)
  replace hz1 : IsZipS g1 z TI TO .ellipsis := hz1
  refine wpAny_bind ?_
  simp only [List.zipIdx_cons, List.zipIdx_nil, List.forIn_cons, List.forIn_nil]
  refine wpAny_bind (wpAny_bind (wpAny_onRaise ?_))
  show wpAny _ _ (Builtin.SmallTypes.nextOrEnd (.ref i1)) _ _ _
  refine zs_draw_item (h1.extBut hs1.extBut D.i1z) (hl1.extBut hs1.extBut D.l1z) hx fun g2 h12 hs2 => ?_
  have hTO2 : IsPair g2 TO a b := hs2.extBut _ _ D.TOi1 (hs1.extBut _ _ D.TOz hTO)
  refine wpAny_bind (wpAny_seqItems hTO2 rfl ?_)
  refine wpAny_bind (wpAny_updateSeq_pair hTO2 fun g3 hTO3 hs3 => ?_)
  replace hTO3 : IsPair g3 TO x b := hTO3
  refine wpAny_bind (wpAny_letGo (wpAny_pure ?_))
  refine wpAny_bind (wpAny_bind (wpAny_onRaise ?_))
  show wpAny _ _ (Builtin.SmallTypes.nextOrEnd (.ref i2)) _ _ _
  refine zs_draw_item (((h2.extBut hs1.extBut D.i2z).extBut hs2.extBut D.i12.symm).extBut hs3.extBut D.TOi2.symm)
    (((hl2.extBut hs1.extBut D.l2z).extBut hs2.extBut D.l2i1).extBut hs3.extBut D.l2TO) hy fun g4 h24 hs4 => ?_
  have hTO4 : IsPair g4 TO x b := hs4.extBut _ _ D.TOi2 hTO3
  refine wpAny_bind (wpAny_seqItems hTO4 rfl ?_)
  refine wpAny_bind (wpAny_updateSeq_pair hTO4 fun g5 hTO5 hs5 => ?_)
  replace hTO5 : IsPair g5 TO x y := hTO5
  refine wpAny_bind (wpAny_letGo (wpAny_pure (wpAny_pure ?_)))
  refine wpAny_bind (wpAny_seqItems hTO5 rfl ?_)
  refine wpAny_bind (wpAny_newTuple ?_)
  have hsz : g5.objs.size = s.heap.objs.size := by rw [hs5.1, hs4.1, hs3.1, hs2.1, hs1.1]
  have hz5 : IsZipS g5 z TI TO .ellipsis := hs5.extBut _ _ D.TOz.symm (hs4.extBut _ _ D.i2z.symm (hs3.extBut _ _ D.TOz.symm (hs2.extBut _ _ D.i1z.symm hz1)))
  have hk5 : ∀ c o, c ≠ z → c ≠ TO → c ≠ i1 → c ≠ i2 → s.heap.get? c = some o → g5.get? c = some o := fun c o c1 c2 c3 c4 e =>
    hs5.extBut _ _ c2 (hs4.extBut _ _ c4 (hs3.extBut _ _ c2 (hs2.extBut _ _ c3 (hs1.extBut _ _ c1 e))))
  have h15 : g5.IsListIter i1 l1 (k1 + 1) := ((h12.extBut hs3.extBut D.TOi1.symm).extBut hs4.extBut D.i12).extBut hs5.extBut D.TOi1.symm
  have h25 : g5.IsListIter i2 l2 (k2 + 1) := h24.extBut hs5.extBut D.TOi2.symm
  have hzlt : z < g5.objs.size := Heap.lt_size hz5
  have hTOlt : TO < g5.objs.size := Heap.lt_size hTO5
  show wpAny _ _ (Builtin.SmallTypes.ownedTupleHandOut (.ref z) (.ref g5.objs.size) >>= _) _ _ _
  refine wpAny_bind ?_
  unfold Builtin.SmallTypes.ownedTupleHandOut
  have hz6 : IsZipS (g5.push { cls := .type "tuple", data := .seq #[x, y] }) z TI TO .ellipsis := Heap.get?_push_of_some _ hz5
  refine wpAny_bind (wpAny_setField_rec hz6 (by simp) fun g7 hz7 hs7 => ?_)
  replace hz7 : IsZipS g7 z TI TO (rawInt g5.objs.size) := hz7
  refine wpAny_setField_rec hz7 (by simp) fun g8 hz8 hs8 => ?_
  replace hz8 : IsZipS g8 z TI TO (rawInt g5.objs.size) := hz8
  have up : ∀ c o, c ≠ z → g5.get? c = some o → g8.get? c = some o := fun c o c1 e => hs8.extBut _ _ c1 (hs7.extBut _ _ c1 (Heap.get?_push_of_some _ e))
  have hT8 : IsPair g8 g5.objs.size x y := hs8.extBut _ _ (Nat.ne_of_gt hzlt) (hs7.extBut _ _ (Nat.ne_of_gt hzlt) (Heap.get?_push_size _ rfl))
  have hn8 : g8.objs.size = g5.objs.size + 1 := by rw [hs8.1, hs7.1, Heap.size_push]
  rw [hsz] at hz8 hT8 hn8
  refine wpAny_pure ⟨_, rfl, ?_⟩
  show Q (.ref g5.objs.size) _
  rw [hsz]
  exact hQ g8 hz8 (up _ _ D.TOz hTO5) (h15.at fun o e => up _ o D.i1z e) (h25.at fun o e => up _ o D.i2z e) hT8 hn8 fun c o c1 c2 c3 c4 e => up c o c1 (hk5 c o c1 c2 c3 c4 e)
theorem zs_next_end {z TI TO i1 i2 l1 l2 : Addr} {k1 k2 : Nat} {xs ys : Array Value} {a b : Value} {Q : PySem.Fin → Shared → Prop} (hh : A.handled = none) (D : ZipApart z TI TO i1 i2 l1 l2)
    (hz : IsZipS s.heap z TI TO .none) (hTI : IsPair s.heap TI (.ref i1) (.ref i2)) (hTO : IsPair s.heap TO a b)
    (h1 : s.heap.IsListIter i1 l1 k1) (h2 : s.heap.IsListIter i2 l2 k2) (hl1 : s.heap.IsList l1 xs) (hl2 : s.heap.IsList l2 ys) (hx : xs[k1]? = none) (hy : ys[k2]? = none)
    (hE : ∀ h' e, (∀ c o, c ≠ z → c ≠ TO → c ≠ i1 → c ≠ i2 → s.heap.get? c = some o → h'.get? c = some o) → (∃ o, h'.get? e = some o ∧ o.cls = .type "StopIteration") → E (.ref e) { s with heap := h' }) :
    wpAny (model prog w) A (Builtin.«zip.__next__» ⟨[.ref z], []⟩) Q E s := by
  show wpAny _ _ (field (.ref z) 2 >>= _) _ _ _
  refine wpAny_bind (wpAny_field hz rfl (x := .bool true) rfl ?_)
  show wpAny _ _ (field (.ref z) 3 >>= _) _ _ _
  refine wpAny_bind (wpAny_field hz rfl (x := .ref TI) rfl ?_)
  refine wpAny_bind (wpAny_seqItems hTI rfl ?_)
  show wpAny _ _ (Builtin.SmallTypes.ownedTupleIsFree (.ref z) >>= _) _ _ _
  refine wpAny_bind ?_
  unfold Builtin.SmallTypes.ownedTupleIsFree
  refine wpAny_bind (wpAny_field hz rfl (x := .none) rfl (wpAny_pure ?_))
  simp only [if_true]
  refine wpAny_bind (wpAny_rule ?_)
  refine wpAny_bind (wpAny_field hz rfl (x := .ref TO) rfl ?_)
  refine wpAny_bind (wpAny_setField_rec hz (by simp) fun g1 hz1 hs1 => ?_)
  replace hz1 : IsZipS g1 z TI TO .ellipsis := hz1
  refine wpAny_bind ?_
  simp only [List.zipIdx_cons, List.zipIdx_nil, List.forIn_cons, List.forIn_nil]
  refine wpAny_bind (wpAny_bind (wpAny_onRaise ?_))
  show wpAny _ _ (Builtin.SmallTypes.nextOrEnd (.ref i1)) _ _ _
  refine zs_draw_end hh (h1.extBut hs1.extBut D.i1z) (hl1.extBut hs1.extBut D.l1z) hx fun g2 hs2 => ?_
  have hz2 : IsZipS g2 z TI TO .ellipsis := hs2 _ _ D.i1z.symm hz1
  refine wpAny_bind (wpAny_setField_rec hz2 (by simp) fun g3 hz3 hs3 => ?_)
  refine wpAny_bind ?_
  refine wpAny_bind ?_
  refine wpAny_bind ?_
  simp only [List.drop_succ_cons, List.drop_zero, List.zipIdx_cons, List.zipIdx_nil, List.forIn_cons, List.forIn_nil]
  refine wpAny_bind (zs_draw_end hh ((((h2.extBut hs1.extBut D.i2z).extBut hs2 D.i12.symm)).extBut hs3.extBut D.i2z) ((((hl2.extBut hs1.extBut D.l2z).extBut hs2 D.l2i1)).extBut hs3.extBut D.l2z) hy fun g4 hs4 => ?_)
  rw [if_neg (by simp)]
  refine wpAny_pure (wpAny_pure ?_)
  refine wpAny_bind (wpAny_rule ?_)
  unfold Builtin.SmallTypes.stopIteration
  refine wpAny_bind ?_
  simp only [newExc, newTuple]
  refine wpAny_bind (wpAny_newObj_type ?_ (by size_fits))
  refine wpAny_bind (m := firstArgMember _ _) (wpAny_of_eq (a := Value.none) (by first | rfl | (simp only [firstArgMember]; rfl)) ?_)
  refine wpAny_newObj_type ?_ (by size_fits)
  simp only [raiseNew]
  refine wpAny_bind (wpAny_handled ?_)
  rw [hh]
  refine wpAny_bind (wpAny_pure (wpAny_throw ?_))
  refine hE _ _ (fun c o c1 c2 c3 c4 e => ?_) ⟨_, Heap.get?_push_size _ rfl, rfl⟩
  exact Heap.get?_push_of_some _ (Heap.get?_push_of_some _ (hs4 _ _ c4 (hs3.extBut _ _ c1 (hs2 _ _ c3 (hs1.extBut _ _ c1 e)))))

theorem zs_pyNext_item {z TI TO i1 i2 l1 l2 : Addr} {k1 k2 : Nat} {xs ys : Array Value} {x y a b : Value} {Q : Option Value → Shared → Prop} (D : ZipApart z TI TO i1 i2 l1 l2)
    (hz : IsZipS s.heap z TI TO .none) (hTI : IsPair s.heap TI (.ref i1) (.ref i2)) (hTO : IsPair s.heap TO a b)
    (h1 : s.heap.IsListIter i1 l1 k1) (h2 : s.heap.IsListIter i2 l2 k2) (hl1 : s.heap.IsList l1 xs) (hl2 : s.heap.IsList l2 ys) (hx : xs[k1]? = some x) (hy : ys[k2]? = some y)
    (hQ : ∀ h', IsZipS h' z TI TO (rawInt s.heap.objs.size) → IsPair h' TO x y → h'.IsListIter i1 l1 (k1 + 1) → h'.IsListIter i2 l2 (k2 + 1) → IsPair h' s.heap.objs.size x y → h'.objs.size = s.heap.objs.size + 1 →
      (∀ c o, c ≠ z → c ≠ TO → c ≠ i1 → c ≠ i2 → s.heap.get? c = some o → h'.get? c = some o) → Q (some (.ref s.heap.objs.size)) { s with heap := h' }) :
    wpAny (model prog w) A (pyNext (.ref z)) Q E s := by
  have hT : s.TypeIs (.ref z) "zip" := ⟨_, hz, rfl⟩
  unfold pyNext
  exact wpAny_bind (wpAny_attempt (wpAny_callSpecial?_slot (name := Str.ofString "__next__") hT F.slot_zip_next
    (wpAny_call_entry F.slot_zip_next hT F.entry_zip_next
      (zs_next_item D hz hTI hTO h1 h2 hl1 hl2 hx hy fun h' a1 a2 a3 a4 a5 a6 a7 => wpAny_pure (hQ h' a1 a2 a3 a4 a5 a6 a7)) (F.args_zip_next_1 _))))
theorem zs_pyNext_end {z TI TO i1 i2 l1 l2 : Addr} {k1 k2 : Nat} {xs ys : Array Value} {a b : Value} {Q : Option Value → Shared → Prop} (hh : A.handled = none) (D : ZipApart z TI TO i1 i2 l1 l2)
    (hz : IsZipS s.heap z TI TO .none) (hTI : IsPair s.heap TI (.ref i1) (.ref i2)) (hTO : IsPair s.heap TO a b)
    (h1 : s.heap.IsListIter i1 l1 k1) (h2 : s.heap.IsListIter i2 l2 k2) (hl1 : s.heap.IsList l1 xs) (hl2 : s.heap.IsList l2 ys) (hx : xs[k1]? = none) (hy : ys[k2]? = none)
    (hQ : ∀ h', (∀ c o, c ≠ z → c ≠ TO → c ≠ i1 → c ≠ i2 → s.heap.get? c = some o → h'.get? c = some o) → Q none { s with heap := h' }) : wpAny (model prog w) A (pyNext (.ref z)) Q E s := by
  have hT : s.TypeIs (.ref z) "zip" := ⟨_, hz, rfl⟩
  unfold pyNext
  refine wpAny_bind (wpAny_attempt (wpAny_callSpecial?_slot (name := Str.ofString "__next__") hT F.slot_zip_next
    (wpAny_call_entry F.slot_zip_next hT F.entry_zip_next (zs_next_end hh D hz hTI hTO h1 h2 hl1 hl2 hx hy fun h' e hk he => ?_) (F.args_zip_next_1 _))))
  obtain ⟨o, ho, hc⟩ := he
  refine wpAny_bind (wpAny_isInstance (T := "StopIteration") (b := true) ⟨o, ho, hc⟩ isSubtype_stop ?_)
  exact wpAny_pure (hQ _ hk)
theorem zs_letGo {elts : List Expr} {x1} {pos : Pos} {z TI TO T : Addr} {Q : Unit → Shared → Prop} (hz : IsZipS s.heap z TI TO (rawInt T))
    (hQ : ∀ h', IsZipS h' z TI TO .none → Heap.SameBut z s.heap h' → Q () { s with heap := h' }) :
    wpAny (model prog w) A (letOwnedTupleGo (.Tuple elts x1 pos) (.ref z) (.ref T)) Q E s := by
  unfold letOwnedTupleGo
  refine wpAny_bind (wpAny_load hz ?_)
  show wpAny _ _ (if (["enumerate", "zip", "dict_itemiterator", "dict_reverseitemiterator", "odict_iterator", "itertools.zip_longest", "itertools.pairwise"].contains "zip" &&
      (#[rawInt T, .bool false, .bool true, .ref TI, .ref TO] : Array Value)[0]? == some (rawInt T)) = true then _ else _) Q E s
  rw [if_pos (by simp)]
  refine wpAny_bind (wpAny_rule ?_)
  show wpAny _ _ (setField (.ref z) 0 .none) Q E s
  exact wpAny_setField_rec hz (by simp) fun h' hz' hs' => hQ h' hz' hs'
theorem zs_pyIter {z TI TO : Addr} {f0 : Value} {Q : Value → Shared → Prop} (hz : IsZipS s.heap z TI TO f0) (h : Q (.ref z) s) : wpAny (model prog w) A (pyIter (.ref z)) Q E s := by
  have hT : s.TypeIs (.ref z) "zip" := ⟨_, hz, rfl⟩
  refine wpAny_pyIter_slot hT F.slot_zip_iter (wpAny_call_entry F.slot_zip_iter hT F.entry_zip_iter ?_ (F.args_zip_iter_1 _))
  show wpAny _ _ (ret (.ref z)) _ _ s
  exact wpAny_pure ⟨_, rfl, "zip", _, hT, F.slot_zip_next.lookup, h⟩
theorem zs_call {l1 l2 : Addr} {xs ys : Array Value} {Q : Value → Shared → Prop} (hl1 : s.heap.IsList l1 xs) (hl2 : s.heap.IsList l2 ys)
    (h : ∀ h', IsZipS h' (s.heap.objs.size + 4) (s.heap.objs.size + 2) (s.heap.objs.size + 3) .none → IsPair h' (s.heap.objs.size + 2) (.ref s.heap.objs.size) (.ref (s.heap.objs.size + 1)) →
      IsPair h' (s.heap.objs.size + 3) .none .none → h'.IsListIter s.heap.objs.size l1 0 → h'.IsListIter (s.heap.objs.size + 1) l2 0 → h'.objs.size = s.heap.objs.size + 5 →
      (∀ c o, s.heap.get? c = some o → h'.get? c = some o) → Q (.ref (s.heap.objs.size + 4)) { s with heap := h' }) :
    wpAny (model prog w) A (call (.type "zip") [.ref l1, .ref l2] [(Str.ofString "strict", .bool true)]) Q E s := by
  refine callType_newKw F.called_zip (by decide) (zs_typeCall _ _ _) (zs_newCall _ _ _) (fun obj => zs_init obj _ _ _) F.entry_zip_new
    (zs_meets_new l1 l2 xs ys) ⟨hl1, hl2, ?_⟩
  have z1 : (zipH1 s.heap l1).objs.size = s.heap.objs.size + 1 := Heap.size_push ..
  have z2 : (zipH2 s.heap l1 l2).objs.size = s.heap.objs.size + 2 := by rw [Heap.size_push, z1]
  have z3 : (zipH3 s.heap l1 l2).objs.size = s.heap.objs.size + 3 := by rw [Heap.size_push, z2]
  have z4 : (zipH4 s.heap l1 l2).objs.size = s.heap.objs.size + 4 := by rw [Heap.size_push, z3]
  have z5 : (zsH5 s.heap l1 l2).objs.size = s.heap.objs.size + 5 := by rw [Heap.size_push, z4]
  have g5 : (zsH5 s.heap l1 l2).get? (zipH4 s.heap l1 l2).objs.size = some _ := Heap.get?_push_size _ rfl
  have g4 : (zsH5 s.heap l1 l2).get? (zipH3 s.heap l1 l2).objs.size = some _ := Heap.get?_push_of_some _ (Heap.get?_push_size _ rfl)
  have g3 : (zsH5 s.heap l1 l2).get? (zipH2 s.heap l1 l2).objs.size = some _ := Heap.get?_push_of_some _ (Heap.get?_push_of_some _ (Heap.get?_push_size _ rfl))
  have g2 : (zsH5 s.heap l1 l2).get? (zipH1 s.heap l1).objs.size = some _ := Heap.get?_push_of_some _ (Heap.get?_push_of_some _ (Heap.get?_push_of_some _ (Heap.get?_push_size _ rfl)))
  have g1 : (zsH5 s.heap l1 l2).get? s.heap.objs.size = some _ := Heap.get?_push_of_some _ (Heap.get?_push_of_some _ (Heap.get?_push_of_some _ (Heap.get?_push_of_some _ (Heap.get?_push_size _ rfl))))
  show _ ∧ _
  rw [z2, z3, z4] at g5
  rw [z1, z2] at g3
  rw [z3] at g4
  rw [z1] at g2
  rw [z4]
  exact ⟨⟨_, g5, rfl⟩, h _ g5 g3 g4 ⟨_, g1, rfl, rfl⟩ ⟨_, g2, rfl, rfl⟩ z5 fun c o x =>
    Heap.get?_push_of_some _ (Heap.get?_push_of_some _ (Heap.get?_push_of_some _ (Heap.get?_push_of_some _ (Heap.get?_push_of_some _ x))))⟩
end
end K29
namespace K29
open PySem PySem.Spec PyProof.Rows L2
/-- the turns: both lists, of one length -/
def Itzs (K : PySem.W.Frag) (a b : Addr) : It :=
  ⟨fun i H => ∃ (xs ys : List V) (x y : V), SqL K H a xs ∧ SqL K H b ys ∧ xs[i]? = some x ∧ ys[i]? = some y,
    fun i H v H' => ∃ T x y, v = .ref T ∧ H T = none ∧ H' = upd H T (.tup [x, y]) ∧ (∀ xs, SqL K H a xs → xs[i]? = some x) ∧ ∀ ys, SqL K H b ys → ys[i]? = some y,
    fun i H => ∃ xs ys : List V, SqL K H a xs ∧ SqL K H b ys ∧ xs.length ≤ i ∧ ys.length ≤ i⟩
theorem turn_zs {P : Program} {w : World} {K : PySem.W.Frag} {elts : List Expr} {kk : Nat} {tpos : Pos} {a b z TI TO i1 i2 : Addr} (D : ZipApart z TI TO i1 i2 a b) :
    Turn P w K (.Tuple elts kk tpos) (Itzs K a b) [z, TI, TO, i1, i2] z (fun i h => IsZipS h z TI TO .none ∧ IsPair h TI (.ref i1) (.ref i2) ∧ (∃ x y, IsPair h TO x y) ∧ h.IsListIter i1 a i ∧ h.IsListIter i2 b i) where
  mem := by simp
  obj := fun i h st c hc => by
    obtain ⟨hz, hTI, ⟨x, y, hTO⟩, ⟨o1, e1, _, d1⟩, ⟨o2, e2, _, d2⟩⟩ := st
    have e' : c = z ∨ c = TI ∨ c = TO ∨ c = i1 ∨ c = i2 := by simpa using hc
    rcases e' with q | q | q | q | q
    · rw [q]; exact ⟨_, hz, fun v q => nomatch q⟩
    · rw [q]; exact ⟨_, hTI, fun v q => nomatch q⟩
    · rw [q]; exact ⟨_, hTO, fun v q => nomatch q⟩
    · rw [q]; exact ⟨o1, e1, fun v q => by rw [d1] at q; cases q⟩
    · rw [q]; exact ⟨o2, e2, fun v q => by rw [d2] at q; cases q⟩
  keep := fun i h h' st k => by
    obtain ⟨hz, hTI, ⟨x, y, hTO⟩, h1, h2⟩ := st
    exact ⟨k z (by simp) _ hz, k TI (by simp) _ hTI, ⟨x, y, k TO (by simp) _ hTO⟩, h1.at fun o q => k i1 (by simp) o q, h2.at fun o q => k i2 (by simp) o q⟩
  item := by
    intro X hP hw hK hc i pins s σ H E I hf st hg
    subst hP hw hK
    obtain ⟨hz, hTI, ⟨x0, y0, hTO⟩, h1, h2⟩ := st
    obtain ⟨xs, ys, x, y, hqx, hqy, hx, hy⟩ := hg
    obtain ⟨its, rv, p, _⟩ := I.list hqx
    obtain ⟨its2, rv2, p2, _⟩ := I.list hqy
    obtain ⟨u, hu, ru⟩ := rv.get hx
    obtain ⟨u2, hu2, ru2⟩ := rv2.get hy
    have hzl : z < s.heap.objs.size := Heap.lt_size hz
    refine zs_pyNext_item D hz hTI hTO h1 h2 p.isList p2.isList (x := u) (y := u2) (by simpa using hu) (by simpa using hu2) fun h' z' TO' h1' h2' hT hsz hk => ?_
    refine ⟨_, rfl, zs_letGo (s := { s with heap := h' }) z' fun h'' z'' sb => ?_⟩
    have hT2 : h''.get? s.heap.objs.size = some { cls := .type "tuple", data := .seq #[u, u2] } := (sb.2 _ (Nat.ne_of_gt hzl)).trans hT
    have new : ObjOk X.prog X.w (upd H s.heap.objs.size (.tup [x, y])) h'' s.heap.objs.size (.tup [x, y]) :=
      ⟨by show 2 ≤ sizeLine; decide, [u, u2], .cons ru (.cons ru2 .nil), ⟨_, hT2, rfl, _, rfl⟩⟩
    have I1 : Inv X pins σ (upd H s.heap.objs.size (.tup [x, y])) { s with heap := h'' } :=
      I.turnedNew (t' := s.toks) (ch := [z, TI, TO, i1, i2]) (fun c o hb q => (sb.2 c (fun q' => hb (by simp [q']))).trans (hk c o (fun q' => hb (by simp [q'])) (fun q' => hb (by simp [q'])) (fun q' => hb (by simp [q'])) (fun q' => hb (by simp [q'])) q)) hf (Nat.le_refl _) new
    refine ⟨.ref s.heap.objs.size, _, I1, rfl, ⟨_, x, y, rfl, I.hok.fresh (Nat.le_refl _), rfl, fun l hl => by rw [I.list_inj hl hqx]; exact hx, fun l hl => by rw [I.list_inj hl hqy]; exact hy⟩, ⟨z'', ?_, ⟨u, u2, ?_⟩, ?_, ?_⟩, fun c hcm => ?_⟩
    · exact (sb.2 _ D.TIz).trans (hk _ _ D.TIz D.TITO D.TIi1 D.TIi2 hTI)
    · exact (sb.2 _ D.TOz).trans TO'
    · exact h1'.at fun o q => (sb.2 _ D.i1z).trans q
    · exact h2'.at fun o q => (sb.2 _ D.i2z).trans q
    · have hlt : c < s.heap.objs.size := by
        have e' : c = z ∨ c = TI ∨ c = TO ∨ c = i1 ∨ c = i2 := by simpa using hcm
        rcases e' with q | q | q | q | q
        · rw [q]; exact hzl
        · rw [q]; exact Heap.lt_size hTI
        · rw [q]; exact Heap.lt_size hTO
        · rw [q]; obtain ⟨_, e1, _⟩ := h1; exact Heap.lt_size e1
        · rw [q]; obtain ⟨_, e2, _⟩ := h2; exact Heap.lt_size e2
      rw [upd_ne (Nat.ne_of_lt hlt)]
      exact (hf c hcm).1
  done := by
    intro X hP hw hK hc i pins s σ H E I hf st hg
    subst hP hw hK
    obtain ⟨hz, hTI, ⟨x0, y0, hTO⟩, h1, h2⟩ := st
    obtain ⟨xs, ys, hqx, hqy, hend1, hend2⟩ := hg
    obtain ⟨its, rv, p, _⟩ := I.list hqx
    obtain ⟨its2, rv2, p2, _⟩ := I.list hqy
    have l1 := rv.length
    have l2 := rv2.length
    exact zs_pyNext_end (I.ok.hd hc) D hz hTI hTO h1 h2 p.isList p2.isList (by simp; omega) (by simp; omega) fun h' hk => ⟨rfl, I.turnedL (t' := s.toks) (ch := [z, TI, TO, i1, i2]) (fun c o hb q =>
      hk c o (fun q' => hb (by simp [q'])) (fun q' => hb (by simp [q'])) (fun q' => hb (by simp [q'])) (fun q' => hb (by simp [q'])) q) hf⟩
  self := fun A i s Q E st h => zs_pyIter st.1 h
def iZipS (K : PySem.W.Frag) (ta : TA) : TI := fun σ H R => ta σ H fun vs H1 => ∃ a b xs ys, vs = [.ref a, .ref b] ∧ SqL K H1 a xs ∧ SqL K H1 b ys ∧ R (Itzs K a b) H1
theorem callWith_tyK {M : Model} {A : Around} {E : Value → Shared → Prop} {s : Shared} {env : Env} {pos : Pos} {T : String} {e : Expr} {rest : List Expr} {kws : List Keyword} {Q : Value → Shared → Prop}
    (h : wpAny M A (spliced (backTo pos (starEach (e :: rest) env))) (fun vs s₁ => wpAny M A (evalAll ((backToKw pos (keywordEach kws env)).map (·.2)))
      (fun kvs s₂ => wpAny M A (call (.type T) vs (((backToKw pos (keywordEach kws env)).filterMap (·.1)).zip kvs)) Q E s₂) E s₁) E s)
    (he : backTo pos (starEach (e :: rest) env) = (false, eval e env) :: backTo pos (starEach rest env)) (hplain : (backTo pos (starEach (e :: rest) env)).any (·.1) = false)
    (hall : (backToKw pos (keywordEach kws env)).all (·.1.isSome) = true) (hkw : (backToKw pos (keywordEach kws env)).any (·.1.isNone) = false) :
    wpAny M A (callWith pos (.type T) [] (backTo pos (starEach (e :: rest) env)) (backToKw pos (keywordEach kws env))) Q E s := by
  rw [he] at h
  have h2 : wpAny M A (evalArgs (.type T) true (backTo pos (starEach (e :: rest) env)) (backToKw pos (keywordEach kws env))) (fun a s₁ => wpAny M A (call (.type T) ([] ++ a.pos) a.kw) Q E s₁) E s := by
    rw [he]
    exact evalArgs_kwB hall h
  unfold callWith
  refine wpAny_bind (wpAny_holding (wpAny_mono h2 (fun a s₁ h₁ => wpAny_bind (wpAny_standAt ?_)) fun _ _ x => x))
  simp only [hplain, hkw, Bool.or_false]
  refine wpAny_bind (wpAny_pure ?_)
  exact wpAny_bind (wpAny_mono h₁ (fun r s₂ hr => wpAny_bind (wpAny_holding (wpAny_point (wpAny_pure hr)))) fun _ _ x => x)
/-- for x, y in zip(a, b, strict=True) -/
theorem pi_zips {X : Cx} {e e2 : Expr} {ta : TA} {p pos tpos kp vp : Pos} {elts : List Expr} {kk j : Nat} (hg : Gl X "zip") (hm : X.mg "zip" = none) (ha : PA X [e, e2] ta)
    (hs : backTo pos (starEach [e, e2] X.env) = (false, eval e X.env) :: backTo pos (starEach [e2] X.env) := by rfl) (hpl : (backTo pos (starEach [e, e2] X.env)).any (·.1) = false := by rfl) :
    PI X (.Tuple elts kk tpos) (.Call (.Name "zip" p) [e, e2] [⟨some "strict", .Constant (.bool true) j vp, kp⟩] pos) (iZipS X.K ta) := by
  refine ⟨fun pins s σ H R I h => ?_⟩
  have bK : ∀ {Q : Value → Shared → Prop} {E : Value → Shared → Prop} {s1 : Shared}, Q (.bool true) s1 → wpAny (model X.prog X.w) X.A (eval (.Constant (.bool true) j vp) X.env) Q E s1 := fun q => Constant_bool q
  refine wpAny_Call_Name_kw (ld_blt I hg hm PyProof.Rows.boot_zip (callWith_tyK (thn (ha.run pos pins s σ H _ I h) fun us s1 ⟨vs, H1, I1, r1, q1⟩ => ?_) hs hpl rfl rfl))
  show wpAny _ _ (evalAll [(do let v ← eval (.Constant (.bool true) j vp) X.env; standAt pos; pure v)]) _ _ _
  refine wpAny_evalAll_cons (wpAny_bind (bK (wpAny_bind (wpAny_standAt (wpAny_pure (wpAny_evalAll_nil ?_))))))
  obtain ⟨a, b, xs, ys, ex, hqx, hqy, q⟩ := q1
  subst ex
  cases r1 with
  | cons r rr =>
    cases rr with
    | cons r' rr =>
      cases rr
      cases r
      cases r'
      obtain ⟨its, rv, p1, _⟩ := I1.list hqx
      obtain ⟨its2, rv2, p2, _⟩ := I1.list hqy
      have la : a < s1.heap.objs.size := p1.lt
      have lb : b < s1.heap.objs.size := p2.lt
      show wpAny _ _ (call (.type "zip") [.ref a, .ref b] [(Str.ofString "strict", .bool true)]) _ _ _
      refine zs_call p1.isList p2.isList fun h' hz hTI hTO h1 h2 hsz hk => zs_pyIter hz ?_
      have I2 : Inv X pins σ H1 { s1 with heap := h' } := I1.kept (t' := s1.toks) hk
      refine ⟨s1.heap.objs.size + 4, [s1.heap.objs.size + 4, s1.heap.objs.size + 2, s1.heap.objs.size + 3, s1.heap.objs.size, s1.heap.objs.size + 1], _, _, H1, rfl, I2, turn_zs (PySem.W.ktu_apart s1.heap.objs.size a b la lb), ⟨hz, hTI, ⟨_, _, hTO⟩, h1, h2⟩, fun c hcm => ?_, q⟩
      have e' : c = s1.heap.objs.size + 4 ∨ c = s1.heap.objs.size + 2 ∨ c = s1.heap.objs.size + 3 ∨ c = s1.heap.objs.size ∨ c = s1.heap.objs.size + 1 := by simpa using hcm
      have hle : s1.heap.objs.size ≤ c := by
        rcases e' with z | z | z | z | z
        · rw [z]
          exact Nat.le_add_right _ _
        · rw [z]
          exact Nat.le_add_right _ _
        · rw [z]
          exact Nat.le_add_right _ _
        · rw [z]
          exact Nat.le_refl _
        · rw [z]
          exact Nat.le_add_right _ _
      exact I1.fpOk hle (I1.hok.fresh hle)
/-- dict(zip(a, b)): texts or ints as keys -/
def tDZ (K : PySem.W.Frag) (ta : TA) : TE := fun σ H Q => ta σ H fun vs H1 => ∃ (a b : Addr) (ks : List Key) (ys : List V), vs = [.ref a, .ref b] ∧ SqL K H1 a (ks.map kV) ∧ SqL K H1 b ys ∧ ks.length = ys.length ∧
  ∀ p, H1 p = none → Q (.ref p) (upd H1 p (.dK (mergeK [] (ks.zip ys))))

theorem pe_dictzip {X : Cx} {e e2 : Expr} {ta : TA} {p p2 pos pos2 : Pos} (hgd : Gl X "dict") (hmd : X.mg "dict" = none) (hg : Gl X "zip") (hm : X.mg "zip" = none) (hc : X.calm = true) (ha : PA X [e, e2] ta)
    (hs : starEach [e, e2] X.env = (false, eval e X.env) :: starEach [e2] X.env := by rfl) (hpl : (backTo pos2 (starEach [e2] X.env)).any (·.1) = false := by rfl) (hs1 : starEach [Expr.Call (.Name "zip" p2) [e, e2] [] pos2] X.env = (false, eval (.Call (.Name "zip" p2) [e, e2] [] pos2) X.env) :: starEach [] X.env := by rfl) :
    PE X (.Call (.Name "dict" p) [.Call (.Name "zip" p2) [e, e2] [] pos2] [] pos) (tDZ X.K ta) := by
  refine ⟨fun pins s σ H Q I h => ?_⟩
  refine wpAny_Call_Name_kw (ld_blt I hgd hmd boot_dict (PyProof.Rows.callWith_type1 ?_ hs1 rfl))
  rw [hs1]
  show wpAny _ _ (spliced ((false, eval (.Call (.Name "zip" p2) [e, e2] [] pos2) X.env) :: backTo pos (starEach [] X.env))) _ _ s
  refine Calls.spliced_cons (wpAny_Call_Name_kw (ld_blt I hg hm PyProof.Rows.boot_zip (PyProof.Rows.callWith_type1 (thn (ha.run pos2 pins s σ H _ I h) fun us s1 ⟨vs, H1, I1, r1, q1⟩ => ?_) hs hpl)))
  obtain ⟨a, b, ks, ys, ex, hqx, hqy, hl, q⟩ := q1
  subst ex
  cases r1 with
  | cons r rr =>
    cases rr with
    | cons r' rr =>
      cases rr
      cases r
      cases r'
      obtain ⟨its, rv, p1, hz1⟩ := I1.list hqx
      obtain ⟨its2, rv2, p2', hz2⟩ := I1.list hqy
      have la : a < s1.heap.objs.size := p1.lt
      have lb : b < s1.heap.objs.size := p2'.lt
      refine call_zip_2 p1.isList p2'.isList fun h' hz hTI hTO h1 h2 hsz hk => ?_
      refine Calls.spliced_nil ?_
      have I2 : Inv X pins σ H1 { s1 with heap := h' } := I1.kept (t' := s1.toks) hk
      have D := PySem.W.ktu_apart s1.heap.objs.size a b la lb
      have kl : ∀ {c : Addr} {zs : List Value}, s1.heap.IsList c zs.toArray → h'.IsList c zs.toArray := fun {c zs} z => by
        obtain ⟨o, e, r⟩ := z
        exact ⟨o, hk _ _ e, r⟩
      have len1 := rv.length
      have len2 := rv2.length
      rw [List.length_map] at len1 hz1
      have hmin : min its.toArray.size its2.toArray.size = ks.length := by simp; omega
      obtain ⟨kvs, hkv⟩ : ∃ kvs : List (Key × Value), kvs = ks.zip its2 := ⟨_, rfl⟩
      have hlz : kvs.length = ks.length := by rw [hkv, List.length_zip]; omega
      show wpAny _ _ (call (.type "dict") [.ref (s1.heap.objs.size + 4)]) _ _ _
      refine call_dict_pairs (knd := mixKind X.prog X.w) (kvs := kvs) (PairArg.zip _ _ _ _ _ a b D its.toArray its2.toArray) (I.ok.hd hc) ⟨hz, hTI, ⟨_, _, hTO⟩, h1, h2, kl p1.isList, kl p2'.isList⟩ ⟨?_, ?_⟩ ?_ fun h3 tk hd3 k3 => ?_
      · rw [hlz, hmin]
      · rintro i key v ⟨e1, e2⟩
        have e1' : its[i]? = some key := by simpa using e1
        have e2' : its2[i]? = some v := by simpa using e2
        have hi : i < its.length := (List.getElem?_eq_some_iff.mp e1').1
        obtain ⟨k, hk'⟩ : ∃ k, ks[i]? = some k := ⟨_, List.getElem?_eq_getElem (by omega)⟩
        refine ⟨k, by rw [hkv]; exact List.getElem?_zip_eq_some.mpr ⟨hk', e2'⟩, ?_⟩
        obtain ⟨u, hu, ru⟩ := rv.get (i := i) (x := kV k) (by simp [hk'])
        rw [e1'] at hu
        obtain rfl := Option.some.inj hu
        rw [mixKind_is]
        cases k with
        | inl n =>
          obtain ⟨t, rfl⟩ := ru
          exact keyIs_int _ _
        | inr x =>
          obtain ⟨t, rfl⟩ := ru
          exact keyIs_str _ _
      · rw [hmin]
        exact hz1
      · have kp : ∀ b o, s1.heap.get? b = some o → h3.get? b = some o := fun b o e => by
          have hb : b < s1.heap.objs.size := Heap.lt_size e
          refine k3 b o (fun hm => ?_) (hk b o e)
          have e' : b = s1.heap.objs.size + 4 ∨ b = s1.heap.objs.size + 3 ∨ b = s1.heap.objs.size ∨ b = s1.heap.objs.size + 1 := by simpa using hm
          rcases e' with z | z | z | z
          · exact absurd hb (by rw [z]; exact Nat.not_lt.mpr (Nat.le_add_right _ _))
          · exact absurd hb (by rw [z]; exact Nat.not_lt.mpr (Nat.le_add_right _ _))
          · exact absurd hb (by rw [z]; exact Nat.lt_irrefl _)
          · exact absurd hb (by rw [z]; exact Nat.not_lt.mpr (Nat.le_add_right _ _))
        have hge : s1.heap.objs.size ≤ h'.objs.size := by rw [hsz]; exact Nat.le_add_right _ _
        have kvr : KV (ks.zip ys) kvs := by
          rw [hkv]
          have key : ∀ (ks : List Key) {ys : List V} {us : List Value}, Vals ys us → KV (ks.zip ys) (ks.zip us) := by
            intro ks
            induction ks with
            | nil => intro ys us _; exact .nil
            | cons k ks ih =>
              intro ys us r
              cases r with
              | nil => exact .nil
              | cons rx r => exact .cons ⟨rfl, rx⟩ (ih r)
          exact key ks rv2
        have hm : (h'.objs.size == sysModules) = false := beq_eq_false_iff_ne.mpr (Nat.ne_of_gt (Nat.lt_of_lt_of_le I1.big hge))
        have hlen : (mergeK [] (ks.zip ys)).length ≤ sizeLine := by
          refine Nat.le_trans (length_mergeK (ks.zip ys) []) ?_
          rw [List.length_nil, Nat.zero_add, List.length_zip]
          exact Nat.le_trans (Nat.min_le_left _ _) hz1
        exact ⟨.ref h'.objs.size, upd H1 h'.objs.size (.dK (mergeK [] (ks.zip ys))), I1.laid (t' := tk) kp hge (show ObjOk X.prog X.w _ _ _ (.dK (mergeK [] (ks.zip ys))) from ⟨hlen, hm, merged [] kvs, KV.merge kvr .nil, hd3⟩), rfl, q _ (I1.hok.fresh hge)⟩
end K29
/-! text K29Tools -/
namespace K29
open PySem PySem.Spec PyProof.Rows L2 LamX
/-! ### loops -/
theorem for_enum {K : PySem.W.Frag} {a : Addr} {xs : List V} {g : TG} {tb : TS} {D : Ends} {σ : L2.St} {H : Hp} (Pv : Nat → L2.St → Hp → Prop) (h0 : Pv 0 σ H) (hl : ∀ i σ H, i ≤ xs.length → Pv i σ H → SqL K H a xs)
    (hs : ∀ (i : Nat) (x : V) (p : Addr) (σ : L2.St) (H : Hp), xs[i]? = some x → Pv i σ H → H p = none → g (.ref p) σ (upd H p (.tup [.int (i : Nat), x])) fun σ2 H2 => tb { D with nx := Pv (i + 1), ct := Pv (i + 1), bk := D.nx } σ2 H2) (hd : ∀ σ H, Pv xs.length σ H → D.nx σ H) :
    ∃ W : Nat → Nat → L2.St → Hp → Prop, (∃ m, W 0 m σ H) ∧ ∀ i m σ H, W i m σ H →
      ((Ite K a).stop i H ∧ D.nx σ H) ∨ ((Ite K a).go i H ∧ ∃ N : L2.St → Hp → Prop, (∀ σ' H', N σ' H' → ∃ m', m' < m ∧ W (i + 1) m' σ' H') ∧ ∀ v H', (Ite K a).yld i H v H' → g v σ H' fun σ2 H2 => tb { D with nx := N, ct := N, bk := D.nx } σ2 H2) := by
  refine ⟨fun i m σ H => m = xs.length - i ∧ i ≤ xs.length ∧ Pv i σ H, ⟨xs.length, rfl, Nat.zero_le _, h0⟩, ?_⟩
  rintro i m σ H ⟨rfl, hi, p⟩
  have q := hl i σ H hi p
  by_cases hlt : i < xs.length
  · refine .inr ⟨⟨xs, xs[i], q, List.getElem?_eq_getElem hlt⟩, Pv (i + 1), fun σ' H' p' => ⟨xs.length - (i + 1), by omega, rfl, hlt, p'⟩, fun v H' y => ?_⟩
    obtain ⟨r, x, rfl, hr, rfl, f⟩ := y
    exact hs i x r σ H (f xs q) p hr
  · have e : i = xs.length := by omega
    subst e
    exact .inl ⟨⟨xs, q, Nat.le_refl _⟩, hd σ H p⟩
theorem lc_enum {K : PySem.W.Frag} {a : Addr} {xs : List V} {g : TG} {tt : TT} {te : TE} {vs : List Nat} {σ : L2.St} {H1 : Hp} {D : Addr} {Qd : Hp → Prop} (Pv : Nat → Hp → Prop) (h0 : Pv 0 (upd H1 D (.lst []))) (hl : ∀ i H, i ≤ xs.length → Pv i H → SqL K H a xs)
    (hs : ∀ (i : Nat) (x : V) (p : Addr) (H : Hp), xs[i]? = some x → Pv i H → H p = none → g (.ref p) (wipe σ vs) (upd H p (.tup [.int (i : Nat), x])) fun σ2 H2 => wipe σ2 vs = wipe σ vs ∧ tt σ2 H2 fun b H3 =>
      if b = true then te σ2 H3 fun y H4 => ∃ acc, H4 D = some (.lst acc) ∧ acc.length < sizeLine ∧ Pv (i + 1) (upd H4 D (.lst (acc ++ [y]))) else Pv (i + 1) H3) (hd : ∀ H, Pv xs.length H → Qd H) :
    ∃ W : Nat → Nat → Hp → Prop, (∃ m, W 0 m (upd H1 D (.lst []))) ∧ ∀ i m H, W i m H →
      ((Ite K a).stop i H ∧ Qd H) ∨ ((Ite K a).go i H ∧ ∃ Nx : Hp → Prop, (∀ H', Nx H' → ∃ m', m' < m ∧ W (i + 1) m' H') ∧ ∀ x H', (Ite K a).yld i H x H' → g x (wipe σ vs) H' fun σ2 H2 => wipe σ2 vs = wipe σ vs ∧ tt σ2 H2 fun b H3 =>
        if b = true then te σ2 H3 fun y H4 => ∃ acc, H4 D = some (.lst acc) ∧ acc.length < sizeLine ∧ Nx (upd H4 D (.lst (acc ++ [y]))) else Nx H3) := by
  refine ⟨fun i m H => m = xs.length - i ∧ i ≤ xs.length ∧ Pv i H, ⟨xs.length, rfl, Nat.zero_le _, h0⟩, ?_⟩
  rintro i m H ⟨rfl, hi, p⟩
  have q := hl i H hi p
  by_cases hlt : i < xs.length
  · refine .inr ⟨⟨xs, xs[i], q, List.getElem?_eq_getElem hlt⟩, Pv (i + 1), fun H' p' => ⟨xs.length - (i + 1), by omega, rfl, hlt, p'⟩, fun v H' y => ?_⟩
    obtain ⟨r, x, rfl, hr, rfl, f⟩ := y
    exact hs i x r H (f xs q) p hr
  · have e : i = xs.length := by omega
    subst e
    exact .inl ⟨⟨xs, q, Nat.le_refl _⟩, hd H p⟩
theorem for_zips {K : PySem.W.Frag} {a b : Addr} {xs ys : List V} {g : TG} {tb : TS} {D : Ends} {σ : L2.St} {H : Hp} (hl : xs.length = ys.length) (Pv : Nat → L2.St → Hp → Prop) (h0 : Pv 0 σ H) (hq : ∀ i σ H, Pv i σ H → SqL K H a xs ∧ SqL K H b ys)
    (hs : ∀ (i : Nat) (x y : V) (T : Addr) (σ : L2.St) (H : Hp), xs[i]? = some x → ys[i]? = some y → Pv i σ H → H T = none → g (.ref T) σ (upd H T (.tup [x, y])) fun σ2 H2 => tb { D with nx := Pv (i + 1), ct := Pv (i + 1), bk := D.nx } σ2 H2) (hd : ∀ σ H, Pv xs.length σ H → D.nx σ H) :
    ∃ W : Nat → Nat → L2.St → Hp → Prop, (∃ m, W 0 m σ H) ∧ ∀ i m σ H, W i m σ H →
      ((Itzs K a b).stop i H ∧ D.nx σ H) ∨ ((Itzs K a b).go i H ∧ ∃ N : L2.St → Hp → Prop, (∀ σ' H', N σ' H' → ∃ m', m' < m ∧ W (i + 1) m' σ' H') ∧ ∀ v H', (Itzs K a b).yld i H v H' → g v σ H' fun σ2 H2 => tb { D with nx := N, ct := N, bk := D.nx } σ2 H2) := by
  refine ⟨fun i m σ H => m = xs.length - i ∧ i ≤ xs.length ∧ Pv i σ H, ⟨xs.length, rfl, Nat.zero_le _, h0⟩, ?_⟩
  rintro i m σ H ⟨rfl, hi, p⟩
  obtain ⟨qx, qy⟩ := hq i σ H p
  by_cases hlt : i < xs.length
  · have hx : xs[i]? = some xs[i] := List.getElem?_eq_getElem hlt
    have hlt2 : i < ys.length := by omega
    have hy : ys[i]? = some ys[i] := List.getElem?_eq_getElem hlt2
    refine .inr ⟨⟨xs, ys, _, _, qx, qy, hx, hy⟩, Pv (i + 1), fun σ' H' p' => ⟨xs.length - (i + 1), by omega, rfl, hlt, p'⟩, fun v H' y => ?_⟩
    obtain ⟨T, x', y', rfl, hT, rfl, f1, f2⟩ := y
    exact hs i x' y' T σ H (f1 xs qx) (f2 ys qy) p hT
  · have e : i = xs.length := by omega
    subst e
    exact .inl ⟨⟨xs, ys, qx, qy, Nat.le_refl _, by omega⟩, hd σ H p⟩
/-! ### dicts -/
theorem dget_fz {H : Hp} {a : Addr} {o : Obj} {kvs : List (Key × V)} (k : Key) (h : H a = some (.frz o (.dK kvs))) : DGet H a (kV k) (valV kvs k) := .inl ⟨kvs, k, .inr ⟨o, h⟩, rfl, rfl⟩
theorem mergeK_app : ∀ (more acc : List (Key × V)), ((acc ++ more).map (·.1)).Nodup → mergeK acc more = acc ++ more
  | [], acc, _ => by simp [mergeK]
  | p :: r, acc, h => by
    have hn : valV acc p.1 = none := by
      cases e : valV acc p.1 with
      | none => rfl
      | some v =>
        exfalso
        unfold valV at e
        cases q : acc.find? fun kv => decide (kv.1 = p.1) with
        | none =>
          rw [q] at e
          cases e
        | some z =>
          have h1 := List.mem_of_find?_eq_some q
          have h2 := List.find?_some q
          rw [List.map_append, List.nodup_append] at h
          exact h.2.2 z.1 (List.mem_map.mpr ⟨z, h1, rfl⟩) p.1 (by simp) (of_decide_eq_true h2)
    have e : mergeK acc (p :: r) = mergeK (putK acc p.1 p.2) r := rfl
    rw [e, putK_new _ hn, mergeK_app r _ (by rw [List.append_assoc]; exact h), List.append_assoc]
    rfl
theorem mergeK_nil {kvs : List (Key × V)} (h : (kvs.map (·.1)).Nodup) : mergeK [] kvs = kvs := mergeK_app kvs [] (by rw [List.nil_append]; exact h)
theorem valV_mem : ∀ {kvs : List (Key × V)} {k : Key} {v : V}, (kvs.map (·.1)).Nodup → (k, v) ∈ kvs → valV kvs k = some v
  | [], _, _, _, h => by cases h
  | p :: r, k, v, hn, h => by
    rw [List.map_cons, List.nodup_cons] at hn
    rcases List.mem_cons.mp h with e | e
    · subst e
      exact valV_pos rfl
    · rw [valV_neg fun z => hn.1 (List.mem_map.mpr ⟨(k, v), e, z.symm⟩)]
      exact valV_mem hn.2 e
/-- the kinds as a dict -/
def kdK (ks : List (Str × Bool)) : List (Key × V) := ks.map fun k => (.inr k.1, .bl k.2)
theorem kdK_nd {ks : List (Str × Bool)} (h : (ks.map (·.1)).Nodup) : ((kdK ks).map (·.1)).Nodup := by
  have e : (kdK ks).map (·.1) = (ks.map (·.1)).map (Sum.inr : Str → Key) := by
    unfold kdK
    rw [List.map_map, List.map_map]
    rfl
  rw [e]
  exact List.Pairwise.map _ (fun a b n z => n (Sum.inr.inj z)) h
theorem kdK_val {ks : List (Str × Bool)} (h : (ks.map (·.1)).Nodup) {k : Str} {m : Bool} (hm : (k, m) ∈ ks) : valV (kdK ks) (.inr k) = some (.bl m) := valV_mem (kdK_nd h) (List.mem_map.mpr ⟨(k, m), hm, rfl⟩)
theorem fzl_pairs {H : Hp} : ∀ {ks : List (Str × Bool)} {xs : List V}, FzL H knD xs ks → ∃ ps : List Addr, xs = ps.map V.ref ∧ Paired (fun p kv => H p = some (.tup [kV kv.1, kv.2])) ps (kdK ks)
  | [], xs, h => by
    have : xs = [] := List.eq_nil_of_length_eq_zero h.1
    subst this
    exact ⟨[], rfl, .nil⟩
  | k :: ks, xs, h => by
    cases xs with
    | nil => exact absurd h.1 (by simp)
    | cons x xs =>
      obtain ⟨y, ys, e, h1, h2⟩ := Zp.uncons h
      obtain ⟨rfl, rfl⟩ := List.cons.inj e
      obtain ⟨ps, rfl, hp⟩ := fzl_pairs h2
      obtain ⟨a, x1, x2, rfl, ha, e1, e2⟩ := fz_t2.mp h1
      obtain rfl := fz_str.mp e1
      obtain rfl := fz_bl.mp e2
      exact ⟨a :: ps, rfl, .cons ha hp⟩
/-! ### keys as data -/
theorem kyD_eqv (a b : Ky) : PyData.eqv (kyD a) (kyD b) = decide (a = b) := by
  obtain ⟨x, i⟩ := a
  obtain ⟨y, j⟩ := b
  have e : PyData.eqv (kyD (x, i)) (kyD (y, j)) = ((x == y) && (((i == j) && true))) := by simp only [kyD, PyData.eqv, PyData.eqvAll]
  rw [e]
  by_cases h : ((x, i) : Ky) = (y, j)
  · cases h
    simp
  · rw [decide_eq_false h]
    by_cases h1 : x = y
    · by_cases h2 : i = j
      · exact absurd (by rw [h1, h2]) h
      · simp [h2]
    · simp [h1]
def kOk (k : Ky) : Prop := PyData.strOk k.1 = true
theorem kOk_nm {k : Ky} (h : isNm k.1) : kOk k := by
  unfold kOk PyData.strOk
  rw [← Array.all_toList, List.all_eq_true]
  intro c hc
  have := h.2.2 c hc
  exact decide_eq_true (by omega)
theorem kyD_shaped {a : Ky} (h : kOk a) : SeqAt.shaped (kyD a) = true := by
  show (PyData.canLay0 (kyD a) && decide ((kyD a).depth ≤ 64)) = true
  have h' : PyData.strOk a.1 = true := h
  simp [kyD, PyData.canLay0, PyData.canLayAll0, PyData.depth, PyData.depthAll, h']
theorem kyDs_shaped {ks : List Ky} (h : ∀ k ∈ ks, kOk k) : SeqAt.shaped (.list (ks.map kyD)) = true := by
  have h1 : ∀ ks : List Ky, (∀ k ∈ ks, kOk k) → PyData.canLayAll0 (ks.map kyD) = true := fun ks => by
    induction ks with
    | nil => intro _; simp [PyData.canLayAll0]
    | cons k ks ih =>
      intro h
      rw [List.map_cons]
      have h' : PyData.strOk k.1 = true := h k (by simp)
      simp [PyData.canLayAll0, ih fun k hk => h k (by simp [hk]), kyD, PyData.canLay0, h']
  have h2 : ∀ ks : List Ky, PyData.depthAll (ks.map kyD) ≤ 3 := fun ks => by
    induction ks with
    | nil => simp [PyData.depthAll]
    | cons k ks ih =>
      rw [List.map_cons]
      simp only [PyData.depthAll, kyD, PyData.depth] at ih ⊢
      omega
  have h3 := h2 ks
  show (PyData.canLay0 (.list (ks.map kyD)) && decide (PyData.depth (.list (ks.map kyD)) ≤ 64)) = true
  rw [Bool.and_eq_true]
  refine ⟨?_, decide_eq_true ?_⟩
  · simp only [PyData.canLay0]
    exact h1 ks h
  · simp only [PyData.depth]
    omega
theorem kyDs_any (ks : List Ky) (k : Ky) : ((ks.map kyD).any fun z => PyData.eqv z (kyD k)) = decide (k ∈ ks) := by
  induction ks with
  | nil => simp
  | cons a ks ih =>
    rw [List.map_cons, List.any_cons, ih, kyD_eqv]
    by_cases h1 : a = k
    · simp [h1]
    · have h2 : ¬ k = a := fun z => h1 z.symm
      simp [h1, h2]
/-! ### comprehensions: what is made so far -/
section
variable {K : PySem.W.Frag} {T : List (Addr × Str)} {M : Addr → Prop} {J : Hp → Prop} {S : Nat → Option V → Hp → Prop} {H1 H2 H3 : Hp} {D : Addr} {i : Nat} {y : V}
theorem SqL_go {a : Addr} {xs : List V} {H H' : Hp} (h : SqL K H a xs) (g : Go T M H H') (n : ¬ M a) : SqL K H' a xs := by
  rcases h with (h | ⟨o, h⟩) | h
  · exact .inl (.inl (g.lst h n))
  · exact .inl (.inr ⟨o, g.fz _ _ h trivial⟩)
  · exact .inr h
theorem SqL_frz {a : Addr} {o : Obj} {xs : List V} {H : Hp} (h : H a = some (.frz o (.lst xs))) : SqL K H a xs := .inl (.inr ⟨o, h⟩)
def LcP (T : List (Addr × Str)) (M : Addr → Prop) (J : Hp → Prop) (S : Nat → Option V → Hp → Prop) (H1 : Hp) (D : Addr) (i : Nat) (H : Hp) : Prop :=
  Go T M H1 H ∧ J H ∧ ∃ rs : List (Option V), rs.length = i ∧ H D = some (.lst (rs.filterMap id)) ∧ ∀ j r, rs[j]? = some r → S j r H
def Stb (S : Nat → Option V → Hp → Prop) : Prop := ∀ (j : Nat) (r : Option V) (H H' : Hp), S j r H → (∀ b o, H b = some o → Fz o → H' b = some o) → S j r H'
theorem LcP.zero (hD : H1 D = none) (hJ : J (upd H1 D (.lst []))) : LcP T M J S H1 D 0 (upd H1 D (.lst [])) := ⟨Go.refl.add hD, hJ, [], rfl, upd_same, fun j r h => by simp at h⟩
theorem filt_le : ∀ rs : List (Option V), (rs.filterMap id).length ≤ rs.length := fun rs => List.length_filterMap_le id rs
theorem LcP.yes (p : LcP T M J S H1 D i H2) (g : Go T M H2 H3) (hD : H1 D = none) (nM : ¬ M D) (st : Stb S) (hi : i < sizeLine) (s : S i (some y) H3) (hJ : ∀ o, J (upd H3 D (.lst o))) :
    ∃ acc, H3 D = some (.lst acc) ∧ acc.length < sizeLine ∧ LcP T M J S H1 D (i + 1) (upd H3 D (.lst (acc ++ [y]))) := by
  obtain ⟨g1, _, rs, hl, hd, hr⟩ := p
  have hd3 := g.lst hd nM
  refine ⟨_, hd3, Nat.lt_of_le_of_lt (filt_le rs) (by rw [hl]; exact hi), (g1.trans g).set hd3 trivial (.inr (Nw.of hD)), hJ _, rs ++ [some y], by simp [hl], ?_, ?_⟩
  · rw [upd_same, List.filterMap_append]
    rfl
  · have k : ∀ b o, H3 b = some o → Fz o → upd H3 D (.lst (rs.filterMap id ++ [y])) b = some o := fun b o e z => by
      rw [upd_ne fun q => by subst q; rw [hd3] at e; cases e; exact z]
      exact e
    intro j r hj
    by_cases h : j < rs.length
    · rw [List.getElem?_append_left h] at hj
      exact st _ _ _ _ (st _ _ _ _ (hr j r hj) g.fz) k
    · have h2 := (List.getElem?_eq_some_iff.mp hj).1
      have e : j = rs.length := by simp at h2; omega
      subst e
      rw [List.getElem?_concat_length] at hj
      cases hj
      rw [hl]
      exact st _ _ _ _ s k
theorem LcP.no (p : LcP T M J S H1 D i H2) (g : Go T M H2 H3) (nM : ¬ M D) (st : Stb S) (s : S i none H3) (hJ : J H3) : LcP T M J S H1 D (i + 1) H3 := by
  obtain ⟨g1, _, rs, hl, hd, hr⟩ := p
  refine ⟨g1.trans g, hJ, rs ++ [none], by simp [hl], ?_, ?_⟩
  · rw [List.filterMap_append]
    show H3 D = some (.lst (rs.filterMap id ++ []))
    rw [List.append_nil]
    exact g.lst hd nM
  · intro j r hj
    by_cases h : j < rs.length
    · rw [List.getElem?_append_left h] at hj
      exact st _ _ _ _ (hr j r hj) g.fz
    · have h2 := (List.getElem?_eq_some_iff.mp hj).1
      have e : j = rs.length := by simp at h2; omega
      subst e
      rw [List.getElem?_concat_length] at hj
      cases hj
      rw [hl]
      exact s
/-- item by item the data of l, where p holds -/
def SP {β : Type} (f : β → PyData) (l : List β) (p : β → Bool) : Nat → Option V → Hp → Prop := fun j r H => ∃ d, l[j]? = some d ∧ if p d = true then ∃ y, r = some y ∧ FzD H y (f d) else r = none
theorem SP.st {β : Type} {f : β → PyData} {l : List β} {p : β → Bool} : Stb (SP f l p) := fun j r H H' h k => by
  obtain ⟨d, hd, h⟩ := h
  refine ⟨d, hd, ?_⟩
  by_cases hp : p d = true
  · rw [if_pos hp] at h ⊢
    obtain ⟨y, e, h⟩ := h
    exact ⟨y, e, FzD.mono k _ _ h⟩
  · rw [if_neg hp] at h ⊢
    exact h
theorem SP.yes {β : Type} {f : β → PyData} {l : List β} {p : β → Bool} {j : Nat} {d : β} {y : V} {H : Hp} (h : l[j]? = some d) (hp : p d = true) (k : FzD H y (f d)) : SP f l p j (some y) H := ⟨d, h, by rw [if_pos hp]; exact ⟨y, rfl, k⟩⟩
theorem SP.no {β : Type} {f : β → PyData} {l : List β} {p : β → Bool} {j : Nat} {d : β} {H : Hp} (h : l[j]? = some d) (hp : ¬ p d = true) : SP f l p j none H := ⟨d, h, by rw [if_neg hp]⟩
theorem sp_flt {β : Type} {f : β → PyData} {p : β → Bool} {H : Hp} : ∀ (l : List β) (rs : List (Option V)), rs.length = l.length → (∀ j r, rs[j]? = some r → SP f l p j r H) → FzL H f (rs.filterMap id) (l.filter p)
  | [], rs, h, _ => by
    have : rs = [] := List.eq_nil_of_length_eq_zero h
    subst this
    exact Zp.nil
  | d :: l, [], h, _ => by simp at h
  | d :: l, r :: rs, h, k => by
    have ih := sp_flt l rs (by simpa using h) fun j r' hj => by
      obtain ⟨d', h1, h2⟩ := k (j + 1) r' (by rw [List.getElem?_cons_succ]; exact hj)
      exact ⟨d', by rw [List.getElem?_cons_succ] at h1; exact h1, h2⟩
    obtain ⟨d', h1, h2⟩ := k 0 r rfl
    cases h1
    by_cases hp : p d = true
    · rw [if_pos hp] at h2
      obtain ⟨y, rfl, h2⟩ := h2
      rw [List.filter_cons_of_pos hp]
      exact Zp.cons h2 ih
    · rw [if_neg hp] at h2
      subst h2
      rw [List.filter_cons_of_neg hp]
      exact ih
theorem LcP.flt {β : Type} {f : β → PyData} {l : List β} {p : β → Bool} {n : Nat} {H : Hp} (c : LcP T M J (SP f l p) H1 D n H) (hn : n = l.length) : Go T M H1 H ∧ J H ∧ ∃ ys, H D = some (.lst ys) ∧ FzL H f ys (l.filter p) := by
  obtain ⟨g, j, rs, hl, hd, hr⟩ := c
  exact ⟨g, j, _, hd, sp_flt l rs (hl.trans hn) hr⟩
abbrev SF {β : Type} (f : β → PyData) (l : List β) := SP f l fun _ => true
theorem LcP.all {β : Type} {f : β → PyData} {l : List β} {n : Nat} {H : Hp} (c : LcP T M J (SF f l) H1 D n H) (hn : n = l.length) : Go T M H1 H ∧ J H ∧ ∃ ys, H D = some (.lst ys) ∧ FzL H f ys l := by
  obtain ⟨g, j, ys, h1, h2⟩ := c.flt hn
  rw [List.filter_eq_self.mpr fun _ _ => rfl] at h2
  exact ⟨g, j, ys, h1, h2⟩
/-- any stable property of each item -/
def SA (R : Nat → V → Hp → Prop) : Nat → Option V → Hp → Prop := fun j r H => ∃ y, r = some y ∧ R j y H
theorem LcP.any {R : Nat → V → Hp → Prop} {n : Nat} {H : Hp} (c : LcP T M J (SA R) H1 D n H) : Go T M H1 H ∧ J H ∧ ∃ ys : List V, ys.length = n ∧ H D = some (.lst ys) ∧ ∀ j y, ys[j]? = some y → R j y H := by
  obtain ⟨g, j, rs, hl, hd, hr⟩ := c
  have key : ∀ rs : List (Option V), (∀ r ∈ rs, ∃ y, r = some y) → ∃ ys : List V, rs = ys.map some := fun rs => by
    induction rs with
    | nil => exact fun _ => ⟨[], rfl⟩
    | cons r rs ih =>
      intro h
      obtain ⟨y, rfl⟩ := h r (by simp)
      obtain ⟨ys, rfl⟩ := ih fun r hr => h r (by simp [hr])
      exact ⟨y :: ys, rfl⟩
  obtain ⟨ys, rfl⟩ := key rs fun r hm => by
    obtain ⟨k, hk, e⟩ := List.mem_iff_getElem.mp hm
    obtain ⟨y, e2, _⟩ := hr k r (by rw [List.getElem?_eq_getElem hk, e])
    exact ⟨y, e2⟩
  have e : (ys.map some).filterMap id = ys := by
    induction ys with
    | nil => rfl
    | cons y ys ih => simp
  rw [e] at hd
  refine ⟨g, j, ys, by simpa using hl, hd, fun k y hy => ?_⟩
  obtain ⟨z, e, h⟩ := hr k (some y) (by rw [List.getElem?_map, hy]; rfl)
  cases e
  exact h
end
/-- sizes -/
theorem sm {n : Nat} (h : n ≤ 1000) : n < sizeLine := small1000 h
section
variable {H : Hp} {D : Addr} {u o : HO}
theorem fz_set (e : H D = some u) (mb : Mb u) : ∀ b o', H b = some o' → Fz o' → upd H D o b = some o' := fun b o' e' z => by
  rw [upd_ne fun q => by subst q; rw [e] at e'; cases e'; exact mb.nf z]
  exact e'
theorem fz_add (n : H D = none) : ∀ b o', H b = some o' → Fz o' → upd H D o b = some o' := fun b o' e' z => by
  rw [upd_ne (ne_of_none e' n)]
  exact e'
theorem FzD.set {v : V} {d : PyData} (h : FzD H v d) (e : H D = some u) (mb : Mb u) : FzD (upd H D o) v d := FzD.mono (fz_set e mb) _ _ h
theorem FzD.add {v : V} {d : PyData} (h : FzD H v d) (n : H D = none) : FzD (upd H D o) v d := FzD.mono (fz_add n) _ _ h
theorem FzL.set {β : Type} {f : β → PyData} {xs : List V} {l : List β} (h : FzL H f xs l) (e : H D = some u) (mb : Mb u) : FzL (upd H D o) f xs l := h.up (fz_set e mb)
theorem FzL.add {β : Type} {f : β → PyData} {xs : List V} {l : List β} (h : FzL H f xs l) (n : H D = none) : FzL (upd H D o) f xs l := h.up (fz_add n)
theorem upd_old {b : Addr} {o' : HO} (e : H b = some o') (n : H D = none) : upd H D o b = some o' := by
  rw [upd_ne (ne_of_none e n)]
  exact e
end
end K29
/-! text K29P1 -/
namespace K29
open PySem PySem.Spec PyProof.Rows L2 LamX
section
variable {P : Program} {w : World} {K : PySem.W.Frag} {mg : Str → Option Value} {base : Heap} {T : List (Addr × Str)}
/-! ### is_whole, is_pair -/
def sp_is_whole : Sp := fun vs H Q _ => ∃ n : Int, vs = [.int n] ∧ Q (.bl true) H
theorem b_is_whole (t : Tp K mg) : FB P w K mg base 1 (He.ga K "is_whole") p_f_is_whole sp_is_whole := by
  refine FB.of t.f_f_is_whole sc_f_is_whole (fun vs H Q E ⟨_, h, _⟩ => by rw [h]; rfl) (fun cdv A outer s H vs Q E hr h => ?_)
  obtain ⟨n, rfl, q⟩ := h
  refine ⟨_, pss_one (ps_ret (pe_and (pe_callB call_isi (by rfl) t.b_isinstance (by decide +kernel) (pa_cons (pv 0) (pa_cons (pe_bltn (v := .ty "int") rfl t.b_int (by decide +kernel) rfl) pa_nil)))
    (pe_one (pe_not (pe_callB call_isi (by rfl) t.b_isinstance (by decide +kernel) (pa_cons (pv 0) (pa_cons (pe_bltn (v := .ty "bool") rfl t.b_bool (by decide +kernel) rfl) pa_nil))))))), ?_⟩
  refine ⟨_, rfl, _, _, _, _, true, rfl, .ty _, .base (.int n), kit_ty (by decide +kernel), _, rfl, iteT ?_⟩
  exact ⟨_, rfl, _, _, _, _, false, rfl, .ty _, .base (.int n), kit_ty (by decide +kernel), _, rfl, q⟩
def sp_is_pair : Sp := fun vs H Q _ => ∃ (a : Addr) (x y : V), vs = [.ref a] ∧ H a = some (.tup [x, y]) ∧ Q (.bl true) H
theorem b_is_pair (t : Tp K mg) : FB P w K mg base 1 (He.ga K "is_pair") p_f_is_pair sp_is_pair := by
  refine FB.of t.f_f_is_pair sc_f_is_pair (fun vs H Q E ⟨_, _, _, h, _⟩ => by rw [h]; rfl) (fun cdv A outer s H vs Q E hr h => ?_)
  obtain ⟨a, x, y, rfl, ha, q⟩ := h
  refine ⟨_, pss_one (ps_ret (pe_and (pe_callB call_isi (by rfl) t.b_isinstance (by decide +kernel) (pa_cons (pv 0) (pa_cons (pe_bltn (v := .ty "tuple") rfl t.b_tuple (by decide +kernel) rfl) pa_nil)))
    (pe_one (pe_cmpR op_eq (pe_callB call_len (by rfl) t.b_len PySem.boot_len (pa_cons (pv 0) pa_nil)) pe_int (nomark _))))), ?_⟩
  refine ⟨_, rfl, _, _, _, _, true, rfl, .ty _, .base (.tup ha), kit_ty (by decide +kernel), _, rfl, iteT ?_⟩
  exact ⟨_, rfl, _, _, rfl, .inr ⟨_, SqT.of ha, rfl⟩, rfl, q⟩
/-! ### dealing_copied, book_copied -/
def sp_dealing_copied (T : List (Addr × Str)) : Sp := fun vs H Q _ => ∃ (v : V) (d : Dl), vs = [v] ∧ FzD H v (dlD d) ∧ ∀ v' H', Go T No H H' → FzD H' v' (dlD d) → Q v' H'
theorem b_dealing_copied (t : Tp K mg) : FB P w K mg base 1 (He.ga K "dealing_copied") p_f_dealing_copied (sp_dealing_copied T) := by
  refine FB.of t.f_f_dealing_copied sc_f_dealing_copied (fun vs H Q E ⟨_, _, h, _⟩ => by rw [h]; rfl) (fun cdv A outer s H vs Q E hr h => ?_)
  obtain ⟨v, d, rfl, hd, q⟩ := h
  have nd := sc_f_dealing_copied.nd
  refine ⟨_, pss_cons (ps_asg (pv 0) (pg_tup rfl (pgs_cons (pg_name (i := 1) nd rfl (.inl rfl)) (pgs_cons (pg_name (i := 2) nd rfl (.inl rfl)) (pgs_cons (pg_name (i := 3) nd rfl (.inl rfl)) pgs_nil)))))
    (pss_one (ps_ret (pe_tup (pa_cons (pv 1) (pa_cons (pe_fz (pe_callTy call_list_of (by rfl) t.b_list (by decide +kernel) (pa_cons (pv 2) pa_nil))) (pa_cons (pe_fz (pe_callTy call_list_of (by rfl) t.b_list (by decide +kernel) (pa_cons (pv 3) pa_nil))) pa_nil)))))), ?_⟩
  obtain ⟨a, x, y, z, rfl, ha, hx, hy, hz⟩ := fz_t3.mp hd
  obtain rfl := fz_str.mp hx
  obtain ⟨a1, o1, ys, rfl, h1, hys⟩ := fz_list.mp hy
  obtain ⟨a2, o2, zs, rfl, h2, hzs⟩ := fz_list.mp hz
  refine ⟨_, rfl, _, _, rfl, SqT.of ha, rfl, _, _, rfl, _, _, rfl, _, _, rfl, rfl, ?_⟩
  refine ⟨_, rfl, _, rfl, _, _, rfl, .inl (.inl (.inr ⟨_, h1⟩)), fun l hl => ⟨_, _, rfl, upd_same, trivial, fun ol => ?_⟩⟩
  rw [upd_upd]
  have n2 : a2 ≠ l := ne_of_none h2 hl
  have g1 : Go T No H (upd H l (.frz ol (.lst ys))) := Go.refl.add hl
  refine ⟨_, rfl, _, _, rfl, .inl (.inl (.inr ⟨o2, by rw [upd_ne n2]; exact h2⟩)), fun m hm => ⟨_, _, rfl, upd_same, trivial, fun om => ?_⟩⟩
  rw [upd_upd]
  have nlm : l ≠ m := ne_of_none upd_same hm
  have g2 := g1.add (o := .frz om (.lst zs)) hm
  refine ⟨by show 3 ≤ sizeLine; decide, fun r hr => ?_⟩
  have g3 := g2.add (o := .tup [.str d.name, .ref l, .ref m]) hr
  refine q _ _ g3 (fz_t3.mpr ⟨r, _, _, _, rfl, upd_same, .str _, fz_list.mpr ⟨l, ol, ys, rfl, ?_, hys.go g3⟩, fz_list.mpr ⟨m, om, zs, rfl, ?_, hzs.go g3⟩⟩)
  · have e : (upd (upd H l (.frz ol (.lst ys))) m (.frz om (.lst zs))) l = some (.frz ol (.lst ys)) := by rw [upd_ne nlm, upd_same]
    rw [upd_ne (ne_of_none e hr)]
    exact e
  · rw [upd_ne (ne_of_none upd_same hr)]
    exact upd_same
def sp_book_copied (T : List (Addr × Str)) : Sp := fun vs H Q _ => ∃ (v : V) (b : Bk), vs = [v] ∧ FzD H v (bkD b) ∧ b.deals.length ≤ 3 ∧ ∀ v' H', Go T No H H' → FzD H' v' (bkD b) → Q v' H'
theorem b_book_copied (t : Tp K mg) : FB P w K mg base 2 (He.ga K "book_copied") p_f_book_copied (sp_book_copied T) := by
  refine FB.of t.f_f_book_copied sc_f_book_copied (fun vs H Q E ⟨_, _, h, _⟩ => by rw [h]; rfl) (fun cdv A outer s H vs Q E hr h => ?_)
  obtain ⟨v, b, rfl, hb, h3, q⟩ := h
  have nd := sc_f_book_copied.nd
  refine ⟨_, pss_one (ps_ret (pe_tup (pa_cons (pe_fz (pe_callTy call_list_of (by rfl) t.b_list (by decide +kernel) (pa_cons (pe_ix ix_tup (pv 0) pe_int (fun _ _ => rfl)) pa_nil)))
    (pa_cons (pe_fz (pe_lc (own := [("dealing", 1)]) (g := gName 1) (tt := tYes) rfl nd (pi_list (pe_ix ix_tup (pv 0) pe_int (fun _ _ => rfl))) (blkOk_by (own := [("dealing", 1)]) (N := n_f_book_copied) (sc := defScope s_f_book_copied) (by decide +kernel))
      (fun _ _ _ _ _ => pg_name (i := 1) nd rfl (Or.inl rfl)) (fun _ _ _ _ _ => pts_nil) (fun _ _ _ _ _ => pe_f (b_dealing_copied (T := T) t) t.g_dealing_copied hr (pa_cons (pv 1) pa_nil)))) pa_nil)))), ?_⟩
  obtain ⟨a, x, y, rfl, ha, hx, hy⟩ := fz_t2.mp hb
  obtain ⟨a1, o1, xs, rfl, h1, hxs⟩ := fz_list.mp hx
  obtain ⟨a2, o2, ys, rfl, h2, hys⟩ := fz_list.mp hy
  refine ⟨_, rfl, _, _, _, _, rfl, rfl, SqT.of ha, atI_nat (j := 0) rfl, _, _, rfl, .inl (SqL_frz h1), fun l hl => ⟨_, _, rfl, upd_same, trivial, fun ol => ?_⟩⟩
  rw [upd_upd]
  have g1 : Go T No H (upd H l (.frz ol (.lst xs))) := Go.refl.add hl
  have kxl : upd H l (.frz ol (.lst xs)) l = some (.frz ol (.lst xs)) := upd_same
  generalize hH1 : upd H l (.frz ol (.lst xs)) = H1 at g1 kxl
  have ha1 := g1.fz _ _ ha trivial
  have h21 := g1.fz _ _ h2 trivial
  refine ⟨_, rfl, _, _, _, _, rfl, rfl, SqT.of ha1, atI_nat (j := 1) rfl, _, rfl, ⟨_, SqL_frz h21⟩, fun D hD => ?_⟩
  refine lc_list (K := K) (a := a2) (xs := ys) (LcP T No (fun _ => True) (SF dlD b.deals) H1 D) (LcP.zero hD trivial) (fun i H2 _ c => SqL_go (SqL_frz h21) c.1 id) (fun i y H2 hi c => ?_) fun H2 c => ?_
  · obtain ⟨d, hd, fd⟩ := hys.atL hi
    have il : i < b.deals.length := (List.getElem?_eq_some_iff.mp hd).1
    refine ⟨rfl, iteT (B := LcP T No (fun _ => True) (SF dlD b.deals) H1 D (i + 1) H2) ?_⟩
    exact ⟨_, rfl, y, d, rfl, fd.go (g1.thn0 c.1), fun v' H3 g3 f3 => c.yes g3 hD id SP.st (sm (by omega)) (SP.yes hd rfl f3) fun _ => trivial⟩
  · obtain ⟨g, _, zs, hz, fz⟩ := c.all hys.1
    refine ⟨D, _, rfl, hz, trivial, fun oD => ⟨by show 2 ≤ sizeLine; decide, fun r hr => ?_⟩⟩
    have g2 : Go T No H1 (upd H2 D (.frz oD (.lst zs))) := g.set hz trivial (.inr (Nw.of hD))
    have g3 : Go T No H1 (upd (upd H2 D (.frz oD (.lst zs))) r (.tup [.ref l, .ref D])) := g2.add hr
    refine q _ _ (g1.thn0 g3) (fz_t2.mpr ⟨r, _, _, rfl, upd_same, fz_list.mpr ⟨l, ol, xs, rfl, g3.fz _ _ kxl trivial, (hxs.go g1).go g3⟩, fz_list.mpr ⟨D, oD, zs, rfl, ?_, ?_⟩⟩)
    · rw [upd_ne (ne_of_none upd_same hr)]
      exact upd_same
    · refine fz.up fun b o e z => ?_
      rw [upd_ne (ne_of_none (?_ : upd H2 D (.frz oD (.lst zs)) b = some o) hr)]
      all_goals
        rw [upd_ne fun q => by subst q; rw [hz] at e; cases e; exact z]
        exact e
/-! ### number_by, dealing_by -/
def sp_number_by (T : List (Addr × Str)) : Sp := fun vs H Q _ => ∃ (v : V) (b : Bk) (i : Nat) (d : Dl), vs = [v, .str d.name] ∧ FzD H v (bkD b) ∧ b.deals.length ≤ 3 ∧ (b.deals.map (·.name)).Nodup ∧ b.deals[i]? = some d ∧ ∀ H', Go T No H H' → Q (.int i) H'
theorem b_number_by (t : Tp K mg) : FB P w K mg base 1 (He.ga K "number_by") p_f_number_by (sp_number_by T) := by
  refine FB.of t.f_f_number_by sc_f_number_by (fun vs H Q E ⟨_, _, _, _, h, _⟩ => by rw [h]; rfl) (fun cdv A outer s H vs Q E hr h => ?_)
  obtain ⟨v, b, i, d, rfl, hb, h3, hn, hi, q⟩ := h
  have nd := sc_f_number_by.nd
  have hu := hu_of hr
  refine ⟨_, pss_cons (ps_set (i := 2) nd rfl (Or.inl rfl) pe_dnewK)
    (pss_cons (ps_for PassesOwn.never rfl (pi_enum (by rfl) t.b_enumerate (pa_cons (pe_ix ix_tup (pv 0) pe_int (fun _ _ => rfl)) pa_nil)) (pg_tup rfl (pgs_cons (pg_name (i := 3) nd rfl (Or.inl rfl)) (pgs_cons (pg_name (i := 4) nd rfl (Or.inl rfl)) pgs_nil)))
      (pss_one (ps_dput hu (pv 2) (pe_ix ix_tup (pv 4) pe_int (fun _ _ => rfl)) (pv 3) rfl)))
    (pss_cons (ps_if (pt_not (pt_val (pe_callB call_isi (by rfl) t.b_isinstance (by decide +kernel) (pa_cons (pv 1) (pa_cons (pe_bltn (v := .ty "str") rfl t.b_str (by decide +kernel) rfl) pa_nil))))) (pss_one ps_never) pss_nil)
    (pss_one (ps_try_thru0 (pss_one (ps_ret (pe_dget hu (pv 2) (pv 1) (fun _ _ => rfl)))))))), ?_⟩
  obtain ⟨a, x, y, rfl, ha, hx, hy⟩ := fz_t2.mp hb
  obtain ⟨a2, o2, ys, rfl, h2, hys⟩ := fz_list.mp hy
  intro D hD
  have hD1 : upd H D (.dK []) D = some (.dK []) := upd_same
  have g1 : Go T No H (upd H D (.dK [])) := Go.refl.add hD
  generalize upd H D (.dK []) = H1 at g1 hD1
  have h21 := g1.fz _ _ h2 trivial
  refine ⟨_, rfl, _, _, _, _, rfl, rfl, SqT.of (g1.fz _ _ ha trivial), atI_nat (j := 1) rfl, _, _, rfl, SqL_frz h21, ?_⟩
  refine for_enum (K := K) (a := a2) (xs := ys) (fun j σ H2 => Go T No H H2 ∧ (∃ z1 z2, σ = [some (.ref a), some (.str d.name), some (.ref D), z1, z2, none]) ∧ ∃ kvs : List (Key × V), H2 D = some (.dK kvs) ∧ kvs.length ≤ j ∧ ∀ k e, k < j → b.deals[k]? = some e → valV kvs (.inr e.name) = some (.int k))
    ⟨g1, ⟨none, none, rfl⟩, [], hD1, Nat.le_refl _, fun k e h => absurd h (Nat.not_lt_zero _)⟩ (fun j σ H2 _ c => SqL_frz (c.1.fz _ _ h2 trivial)) ?_ ?_
  · rintro j z p σ H2 hj ⟨g, ⟨z1, z2, rfl⟩, kvs, hk, hl, hv⟩ hp
    obtain ⟨e, he, fe⟩ := hys.atL hj
    obtain ⟨c, c1, c2, c3, rfl, hc, e1, _⟩ := fz_t3.mp (fe.go g)
    obtain rfl := fz_str.mp e1
    have jl : j < b.deals.length := (List.getElem?_eq_some_iff.mp he).1
    refine ⟨p, _, rfl, SqT.of upd_same, rfl, _, _, rfl, _, _, rfl, rfl, ?_⟩
    refine ⟨_, rfl, _, rfl, _, rfl, _, _, _, _, rfl, rfl, SqT.of (upd_old hc hp), atI_nat (j := 0) rfl, D, _, rfl, DPut.k (k := .inr e.name) (upd_old hk hp) (sm (by omega)), ?_⟩
    have g4 := (g.add (o := .tup [.int (j : Nat), .ref c]) hp).set (o := .dK (putK kvs (.inr e.name) (.int (j : Nat)))) (upd_old hk hp) trivial (.inr (Nw.of hD))
    refine ⟨g4, ⟨_, _, rfl⟩, _, upd_same, ?_, fun k e' hk' he' => ?_⟩
    · unfold putK
      split
      · simpa using Nat.le_succ_of_le hl
      · simpa using hl
    · rw [valV_put]
      by_cases hkj : k = j
      · subst hkj
        rw [he] at he'
        cases he'
        rw [if_pos rfl]
      · rw [if_neg fun z => ?_]
        · exact hv k e' (by omega) he'
        · have z := Sum.inr.inj z
          refine hkj (nodup_ix (x := e.name) hn ?_ ?_)
          · rw [List.getElem?_map, he', ← z]
            rfl
          · rw [List.getElem?_map, he]
            rfl
  · rintro σ H2 ⟨g, ⟨z1, z2, rfl⟩, kvs, hk, hl, hv⟩
    refine ⟨_, rfl, _, _, _, _, true, rfl, .ty _, .base (.str _), kit_ty (by decide +kernel), _, rfl, iteF ?_⟩
    refine ⟨_, rfl, _, rfl, D, _, rfl, ?_, q _ g⟩
    have e := DGet.k (k := .inr d.name) hk
    rw [hv i d (by rw [hys.1]; exact (List.getElem?_eq_some_iff.mp hi).1) hi] at e
    exact e
def sp_dealing_by (T : List (Addr × Str)) : Sp := fun vs H Q _ => ∃ (v : V) (b : Bk) (i : Nat) (d : Dl), vs = [v, .str d.name] ∧ FzD H v (bkD b) ∧ b.deals.length ≤ 3 ∧ (b.deals.map (·.name)).Nodup ∧ b.deals[i]? = some d ∧ ∀ v' H', Go T No H H' → FzD H' v' (dlD d) → Q v' H'
theorem b_dealing_by (t : Tp K mg) : FB P w K mg base 2 (He.ga K "dealing_by") p_f_dealing_by (sp_dealing_by T) := by
  refine FB.of t.f_f_dealing_by sc_f_dealing_by (fun vs H Q E ⟨_, _, _, _, h, _⟩ => by rw [h]; rfl) (fun cdv A outer s H vs Q E hr h => ?_)
  obtain ⟨v, b, i, d, rfl, hb, h3, hn, hi, q⟩ := h
  refine ⟨_, pss_one (ps_ret (pe_f (b_dealing_copied (T := T) t) t.g_dealing_copied hr (pa_cons (pe_ix ix_list (pe_ix ix_tup (pv 0) pe_int (fun _ _ => rfl)) (pe_f (b_number_by (T := T) t) t.g_number_by hr (pa_cons (pv 0) (pa_cons (pv 1) pa_nil))) (fun _ _ => rfl)) pa_nil))), ?_⟩
  obtain ⟨a, x, y, rfl, ha, hx, hy⟩ := fz_t2.mp hb
  obtain ⟨a2, o2, ys, rfl, h2, hys⟩ := fz_list.mp hy
  refine ⟨_, rfl, _, _, _, _, rfl, rfl, SqT.of ha, atI_nat (j := 1) rfl, _, rfl, _, rfl, ?_⟩
  refine ⟨_, b, i, d, rfl, hb, h3, hn, hi, fun H1 g1 => ?_⟩
  obtain ⟨z, hz, fz⟩ := hys.at hi
  exact ⟨_, _, _, _, rfl, rfl, SqL_frz (g1.fz _ _ h2 trivial), atI_nat hz, _, d, rfl, fz.go g1, fun v' H' g f => q v' H' (g1.thn0 g) f⟩
/-! ### keys -/
theorem key_val {b : Bk} (wf : WfB b) {k : Ky} (h : okKey b k) : ∃ m, valV (kdK b.kinds) (.inr k.1) = some (.bl m) ∧ (m = true ∨ k.2 = 0) := by
  obtain ⟨⟨m, h1, h2⟩, _⟩ := h
  exact ⟨m, kdK_val wf.kn h1, h2⟩
def sp_is_key_by : Sp := fun vs H Q _ => ∃ (d : Addr) (x : V) (k : Ky) (kvs : List (Key × V)) (m : Bool), vs = [.ref d, x] ∧ H d = some (.dK kvs) ∧ FzD H x (kyD k) ∧ valV kvs (.inr k.1) = some (.bl m) ∧ (m = true ∨ k.2 = 0) ∧ 0 ≤ k.2 ∧ Q (.bl true) H
theorem b_is_key_by (t : Tp K mg) : FB P w K mg base 2 (He.ga K "is_key_by") p_f_is_key_by sp_is_key_by := by
  refine FB.of t.f_f_is_key_by sc_f_is_key_by (fun vs H Q E ⟨_, _, _, _, _, h, _⟩ => by rw [h]; rfl) (fun cdv A outer s H vs Q E hr h => ?_)
  obtain ⟨d, x, k, kvs, m, rfl, hd, hx, hv, hm, h0, q⟩ := h
  have hu := hu_of hr
  refine ⟨_, pss_cons (ps_if (PW.pt (pw_or (pt_not (pt_val (pe_f (b_is_pair t) t.g_is_pair hr (pa_cons (pv 1) pa_nil))))
      (pw_or (pt_not (pt_val (pe_callB call_isi (by rfl) t.b_isinstance (by decide +kernel) (pa_cons (pe_ix ix_tup (pv 1) pe_int (fun _ _ => rfl)) (pa_cons (pe_bltn (v := .ty "str") rfl t.b_str (by decide +kernel) rfl) pa_nil)))))
      (pw_or (pt_not (pt_val (pe_f (b_is_whole t) t.g_is_whole hr (pa_cons (pe_ix ix_tup (pv 1) pe_int (fun _ _ => rfl)) pa_nil))))
      (pw_or1 (pt_cmpR op_lt (pe_ix ix_tup (pv 1) pe_int (fun _ _ => rfl)) pe_int (nomark _))))))) (pss_one (ps_ret pe_bl)) pss_nil)
    (pss_one (ps_ret (pe_and (pe_cmp (pc_din hu (pe_ix ix_tup (pv 1) pe_int (fun _ _ => rfl)) (pv 0)) rfl) (pe_one (pe_or (pe_dget hu (pv 0) (pe_ix ix_tup (pv 1) pe_int (fun _ _ => rfl)) (fun _ _ => rfl))
      (pe_one (pe_cmpR op_eq (pe_ix ix_tup (pv 1) pe_int (fun _ _ => rfl)) pe_int (nomark _)))))))), ?_⟩
  obtain ⟨a, x, y, rfl, ha, hx, hy⟩ := fz_t2.mp hx
  obtain rfl := fz_str.mp hx
  obtain rfl := fz_int.mp hy
  have i0 : SqT K H a [.str k.1, .int k.2] := SqT.of ha
  have g := DGet.k (k := .inr k.1) hd
  rw [hv] at g
  refine ⟨_, rfl, a, _, _, rfl, ha, _, rfl, iteF ?_⟩
  refine ⟨_, rfl, _, _, _, _, rfl, rfl, i0, atI_nat (j := 0) rfl, _, _, _, _, true, rfl, .ty _, .base (.str _), kit_ty (by decide +kernel), _, rfl, iteF ?_⟩
  refine ⟨_, rfl, _, _, _, _, rfl, rfl, i0, atI_nat (j := 1) rfl, k.2, rfl, _, rfl, iteF ?_⟩
  refine ⟨_, rfl, _, _, _, _, rfl, rfl, i0, atI_nat (j := 1) rfl, _, _, rfl, rfl, _, rfl, ?_⟩
  rw [decide_eq_false (by omega)]
  refine iteF ?_
  refine ⟨_, rfl, _, _, _, _, rfl, rfl, i0, atI_nat (j := 0) rfl, _, rfl, _, _, rfl, g, _, rfl, iteT ?_⟩
  refine ⟨_, rfl, _, rfl, _, _, _, _, rfl, rfl, i0, atI_nat (j := 0) rfl, _, _, rfl, g, _, rfl, ?_⟩
  refine ite2 (fun e => ?_) fun e => ?_
  · exact q
  · refine ⟨_, rfl, _, _, _, _, rfl, rfl, i0, atI_nat (j := 1) rfl, rfl, ?_⟩
    rcases hm with hm | hm
    · exact absurd hm e
    · rw [hm]
      exact q
def sp_is_key (T : List (Addr × Str)) : Sp := fun vs H Q _ => ∃ (v x : V) (b : Bk) (k : Ky), vs = [v, x] ∧ FzD H v (bkD b) ∧ WfB b ∧ FzD H x (kyD k) ∧ okKey b k ∧ ∀ H', Go T No H H' → Q (.bl true) H'
theorem b_is_key (t : Tp K mg) : FB P w K mg base 3 (He.ga K "is_key") p_f_is_key (sp_is_key T) := by
  refine FB.of t.f_f_is_key sc_f_is_key (fun vs H Q E ⟨_, _, _, _, h, _⟩ => by rw [h]; rfl) (fun cdv A outer s H vs Q E hr h => ?_)
  obtain ⟨v, x, b, k, rfl, hb, wf, hx, hk, q⟩ := h
  refine ⟨_, pss_one (ps_ret (pe_f (b_is_key_by t) t.g_is_key_by hr (pa_cons (pe_callTy (call_dictP rfl) (by rfl) t.b_dict (by decide +kernel) (pa_cons (pe_ix ix_tup (pv 0) pe_int (fun _ _ => rfl)) pa_nil)) (pa_cons (pv 1) pa_nil)))), ?_⟩
  obtain ⟨a, x1, y, rfl, ha, hx1, hy⟩ := fz_t2.mp hb
  obtain ⟨a1, o1, xs, rfl, h1, hxs⟩ := fz_list.mp hx1
  obtain ⟨ps, rfl, hps⟩ := fzl_pairs hxs
  obtain ⟨m, e1, e2⟩ := key_val wf hk
  refine ⟨_, rfl, _, _, _, _, rfl, rfl, SqT.of ha, atI_nat (j := 0) rfl, _, ps, _, rfl, SqL_frz h1, Paired.mapP hps fun p kv z => SqT.of z, fun D hD => ?_⟩
  rw [mergeK_nil (kdK_nd wf.kn)]
  exact ⟨_, rfl, D, x, k, _, m, rfl, upd_same, hx.add hD, e1, e2, hk.2.1, q _ (Go.refl.add hD)⟩
def sp_are_keys (T : List (Addr × Str)) : Sp := fun vs H Q _ => ∃ (v x : V) (b : Bk) (i : Nat) (d : Dl) (ks : List Ky), vs = [v, .str d.name, x] ∧ FzD H v (bkD b) ∧ WfB b ∧ b.deals[i]? = some d ∧ FzD H x (.list (ks.map kyD)) ∧ okKeys b d ks ∧ ∀ H', Go T No H H' → Q (.bl true) H'
theorem b_are_keys (t : Tp K mg) : FB P w K mg base 3 (He.ga K "are_keys") p_f_are_keys (sp_are_keys T) := by
  refine FB.of t.f_f_are_keys sc_f_are_keys (fun vs H Q E ⟨_, _, _, _, _, _, h, _⟩ => by rw [h]; rfl) (fun cdv A outer s H vs Q E hr h => ?_)
  obtain ⟨v, x, b, i, d, ks, rfl, hb, wf, hi, hx, hk, q⟩ := h
  have nd := sc_f_are_keys.nd
  refine ⟨_, pss_cons (ps_set (i := 3) nd rfl (Or.inl rfl) (pe_ix ix_tup (pe_f (b_dealing_by (T := T) t) t.g_dealing_by hr (pa_cons (pv 0) (pa_cons (pv 1) pa_nil))) pe_int (fun _ _ => rfl)))
    (pss_cons (ps_if (PW.pt (pw_or (pt_not (pt_val (pe_callB call_isi (by rfl) t.b_isinstance (by decide +kernel) (pa_cons (pv 2) (pa_cons (pe_bltn (v := .ty "list") rfl t.b_list (by decide +kernel) rfl) pa_nil)))))
        (pw_or1 (pt_cmpR op_ne (pe_callB call_len (by rfl) t.b_len PySem.boot_len (pa_cons (pv 2) pa_nil)) (pe_callB call_len (by rfl) t.b_len PySem.boot_len (pa_cons (pv 3) pa_nil)) (nomark _))))) (pss_one (ps_ret pe_bl)) pss_nil)
    (pss_cons (ps_set (i := 4) nd rfl (Or.inl rfl) (pe_callTy (call_dictP rfl) (by rfl) t.b_dict (by decide +kernel) (pa_cons (pe_ix ix_tup (pv 0) pe_int (fun _ _ => rfl)) pa_nil)))
    (pss_cons (ps_for PassesOwn.never rfl (pi_zips (by rfl) t.b_zip (pa_cons (pv 3) (pa_cons (pv 2) pa_nil))) (pg_tup rfl (pgs_cons (pg_name (i := 5) nd rfl (Or.inl rfl)) (pgs_cons (pg_name (i := 6) nd rfl (Or.inl rfl)) pgs_nil)))
      (pss_one (ps_if (PW.pt (pw_or (pt_not (pt_val (pe_f (b_is_key_by t) t.g_is_key_by hr (pa_cons (pv 4) (pa_cons (pv 6) pa_nil))))) (pw_or1 (pt_cmpR op_ne (pe_ix ix_tup (pv 6) pe_int (fun _ _ => rfl)) (pe_ix ix_tup (pv 5) pe_int (fun _ _ => rfl)) (nomark _))))) (pss_one (ps_ret pe_bl)) pss_nil)))
    (pss_one (ps_ret pe_bl))))), ?_⟩
  obtain ⟨a, x1, y, rfl, ha, hx1, hy⟩ := fz_t2.mp hb
  obtain ⟨a1, o1, xs, rfl, h1, hxs⟩ := fz_list.mp hx1
  obtain ⟨ps, rfl, hps⟩ := fzl_pairs hxs
  obtain ⟨a3, o3, zs, rfl, h3, hzs⟩ := fz_list.mp hx
  refine ⟨_, rfl, _, rfl, _, b, i, d, rfl, hb, wf.d3, wf.dn, hi, fun v1 H1 g1 f1 => ?_⟩
  obtain ⟨b1, w1, w2, w3, rfl, hb1, e1, e2, e3⟩ := fz_t3.mp f1
  obtain ⟨b2, o2, ls, rfl, hb2, hls⟩ := fz_list.mp e2
  have h31 := g1.fz _ _ h3 trivial
  have lz : zs.length = ls.length := by
    have := congrArg List.length hk.1
    rw [hzs.1, hls.1]
    simpa using this
  refine ⟨_, _, _, _, rfl, rfl, SqT.of hb1, atI_nat (j := 1) rfl, ?_⟩
  refine ⟨_, rfl, _, _, _, _, true, rfl, .ty _, .base (.frz h31), kit_ty (by decide +kernel), _, rfl, iteF ?_⟩
  refine ⟨_, rfl, _, zs.length, rfl, .inl ⟨_, SqL_frz h31, rfl⟩, _, rfl, _, ls.length, rfl, .inl ⟨_, SqL_frz hb2, rfl⟩, rfl, _, rfl, ?_⟩
  rw [lz, decide_eq_true rfl]
  refine iteF ?_
  refine ⟨_, rfl, _, _, _, _, rfl, rfl, SqT.of (g1.fz _ _ ha trivial), atI_nat (j := 0) rfl, _, ps, _, rfl, SqL_frz (g1.fz _ _ h1 trivial), Paired.mapP hps fun p kv z => SqT.of (g1.fz _ _ z trivial), fun D hD => ?_⟩
  rw [mergeK_nil (kdK_nd wf.kn)]
  have g2 := g1.add (o := .dK (kdK b.kinds)) hD
  have kD : upd H1 D (.dK (kdK b.kinds)) D = some (.dK (kdK b.kinds)) := upd_same
  have f2 : FzL (upd H1 D (.dK (kdK b.kinds))) ssD ls d.letters := hls.add hD
  have h22 : upd H1 D (.dK (kdK b.kinds)) b2 = some (.frz o2 (.lst ls)) := upd_old hb2 hD
  have h32 : upd H1 D (.dK (kdK b.kinds)) a3 = some (.frz o3 (.lst zs)) := upd_old h31 hD
  have fz2 : FzL (upd H1 D (.dK (kdK b.kinds))) kyD zs ks := (hzs.go g1).add hD
  generalize upd H1 D (.dK (kdK b.kinds)) = H2 at g2 kD f2 h22 h32 fz2
  refine ⟨_, rfl, _, rfl, _, _, _, _, rfl, SqL_frz h22, SqL_frz h32, ?_⟩
  refine for_zips (K := K) (a := b2) (b := a3) (xs := ls) (ys := zs) lz.symm (fun j σ H3 => Go T No H2 H3 ∧ ∃ z1 z2, σ = [some (.ref a), some (.str d.name), some (.ref a3), some (.ref b2), some (.ref D), z1, z2])
    ⟨Go.refl, none, none, rfl⟩ (fun j σ H3 c => ⟨SqL_frz (c.1.fz _ _ h22 trivial), SqL_frz (c.1.fz _ _ h32 trivial)⟩) ?_ ?_
  · rintro j y z p σ H3 hy hz ⟨g, z1, z2, rfl⟩ hp
    obtain ⟨l, hl, fl⟩ := f2.atL hy
    obtain ⟨k, hk1, fk⟩ := fz2.atL hz
    have km : k ∈ ks := List.mem_of_getElem? hk1
    have e0 : k.1 = l.2 := by
      have e := congrArg (fun q => q[j]?) hk.1
      simp only [List.getElem?_map, hl, hk1, Option.map_some, Option.some.injEq] at e
      exact e
    obtain ⟨m, e1, e2⟩ := key_val wf (hk.2 k km)
    obtain ⟨c, c1, c2, rfl, hc, q1, q2⟩ := fz_t2.mp (fl.go g)
    obtain rfl := fz_str.mp q1
    obtain rfl := fz_str.mp q2
    have fk3 := fk.go g
    obtain ⟨e, e3, e4, rfl, he, q3, q4⟩ := fz_t2.mp fk3
    obtain rfl := fz_str.mp q3
    obtain rfl := fz_int.mp q4
    refine ⟨p, _, rfl, SqT.of upd_same, rfl, _, _, rfl, _, _, rfl, rfl, ?_⟩
    refine ⟨_, rfl, _, rfl, D, _, k, _, m, rfl, upd_old (g.dK kD id) hp, fk3.add hp, e1, e2, (hk.2 k km).2.1, _, rfl, iteF ?_⟩
    refine ⟨_, rfl, _, _, _, _, rfl, rfl, SqT.of (upd_old he hp), atI_nat (j := 0) rfl, _, rfl, _, _, _, _, rfl, rfl, SqT.of (upd_old hc hp), atI_nat (j := 1) rfl, rfl, _, rfl, ?_⟩
    rw [e0, decide_eq_true rfl]
    exact iteF ⟨g.add hp, _, _, rfl⟩
  · rintro σ H3 ⟨g, z1, z2, rfl⟩
    exact q _ (g2.thn0 g)
end
end K29
/-! text K29P2 -/
namespace K29
open PySem PySem.Spec PyProof.Rows L2 LamX
/-! ### a dealing that was begun, as an object -/
def dFl (t g kb ah to bg en wd : V) : List (Str × V) := [("title", t), ("given", g), ("key_by", kb), ("ahead", ah), ("told", to), ("begun", bg), ("ended", en), ("word", wd)]
section
variable {t g kb ah to bg en wd v : V}
theorem dFl_key_by : (dFl t g kb ah to bg en wd).lookup ("key_by" : Str) = some kb := by kernel_rfl
theorem dFl_ahead : (dFl t g kb ah to bg en wd).lookup ("ahead" : Str) = some ah := by kernel_rfl
theorem dFl_told : (dFl t g kb ah to bg en wd).lookup ("told" : Str) = some to := by kernel_rfl
theorem dFl_begun : (dFl t g kb ah to bg en wd).lookup ("begun" : Str) = some bg := by kernel_rfl
theorem dFl_ended : (dFl t g kb ah to bg en wd).lookup ("ended" : Str) = some en := by kernel_rfl
theorem dFl_word : (dFl t g kb ah to bg en wd).lookup ("word" : Str) = some wd := by kernel_rfl
theorem dFl_m1 : (dFl t g kb ah to bg en wd).lookup ("next_deed" : Str) = none := by kernel_rfl
theorem dFl_m2 : (dFl t g kb ah to bg en wd).lookup ("steps_left" : Str) = none := by kernel_rfl
theorem dFl_m3 : (dFl t g kb ah to bg en wd).lookup ("written" : Str) = none := by kernel_rfl
theorem dFl_m4 : (dFl t g kb ah to bg en wd).lookup ("closed" : Str) = none := by kernel_rfl
theorem dFl_m5 : (dFl t g kb ah to bg en wd).lookup ("opened" : Str) = none := by kernel_rfl
theorem dFl_put_word : putF "word" v (dFl t g kb ah to bg en wd) = dFl t g kb ah to bg en v := by kernel_rfl
theorem dFl_put_ended : putF "ended" v (dFl t g kb ah to bg en wd) = dFl t g kb ah to bg v wd := by kernel_rfl
theorem dFl_init : putF "word" wd (putF "ended" en (putF "begun" bg (putF "told" to (putF "ahead" ah (putF "key_by" kb (putF "given" g (putF "title" t []))))))) = dFl t g kb ah to bg en wd := by kernel_rfl
end
/-- what stands still of it: the keys by letter, the steps -/
structure DlFz (H : Hp) (kb ah : Addr) (dl : Dl) (ks : List Ky) : Prop where
  kb : ∃ (o : Obj) (kvs : List (Key × V)), H kb = some (.frz o (.dK kvs)) ∧ ∀ (i : Nat) (l : Str × Str) (k : Ky), dl.letters[i]? = some l → ks[i]? = some k → ∃ v, valV kvs (.inr l.1) = some v ∧ FzD H v (kyD k)
  ah : ∃ (o : Obj) (xs : List V), H ah = some (.frz o (.lst xs)) ∧ FzL H ssD xs dl.steps
theorem DlFz.up {H H' : Hp} {kb ah : Addr} {dl : Dl} {ks : List Ky} (D : DlFz H kb ah dl ks) (k : ∀ b o, H b = some o → Fz o → H' b = some o) : DlFz H' kb ah dl ks := by
  obtain ⟨⟨o, kvs, h1, h2⟩, o2, xs, h3, h4⟩ := D
  refine ⟨⟨o, kvs, k _ _ h1 trivial, fun i l q e1 e2 => ?_⟩, o2, xs, k _ _ h3 trivial, h4.up k⟩
  obtain ⟨v, e, f⟩ := h2 i l q e1 e2
  exact ⟨v, e, FzD.mono k _ _ f⟩
/-- the instance at q.1, its list of what was told at q.2 -/
def DlAt (C : Addr) (H : Hp) (b : Bk) (q : Addr × Addr) (d : Ds) : Prop :=
  ∃ (dx : Addr) (t g : V) (kb ah : Addr) (xs : List V), H q.1 = some (.ins C dx (dFl t g (.ref kb) (.ref ah) (.ref q.2) (.int (d.begun : Nat)) (snV d.ended) (.str d.word.s))) ∧ DlFz H kb ah (dealAt b d.deal) d.keys ∧ H q.2 = some (.lst xs) ∧ FzL H tkD xs d.told
theorem DlAt.go {C : Addr} {H H' : Hp} {b : Bk} {q : Addr × Addr} {d : Ds} {T : List (Addr × Str)} {M : Addr → Prop} (D : DlAt C H b q d) (g : Go T M H H') (n1 : ¬ M q.1) (n2 : ¬ M q.2) : DlAt C H' b q d := by
  obtain ⟨dx, t, gi, kb, ah, xs, h1, h2, h3, h4⟩ := D
  exact ⟨dx, t, gi, kb, ah, xs, g.ins h1 n1, h2.up g.fz, g.lst h3 n2, h4.go g⟩
theorem fzl_strs {H : Hp} {β : Type} {f : β → Str} : ∀ {l : List β} {ys : List V}, FzL H (fun x => .str (f x)) ys l → ys = l.map fun x => V.str (f x)
  | [], ys, h => List.eq_nil_of_length_eq_zero h.1
  | x :: l, [], h => absurd h.1 (by simp)
  | x :: l, y :: ys, h => by
    obtain ⟨z, zs, e, h1, h2⟩ := Zp.uncons h
    obtain ⟨rfl, rfl⟩ := List.cons.inj e
    rw [fz_str.mp h1, fzl_strs h2]
    rfl
section
variable {P : Program} {w : World} {K : PySem.W.Frag} {mg : Str → Option Value} {base : Heap} {T : List (Addr × Str)}
abbrev cD (K : PySem.W.Frag) : Addr := He.ga K "Deal"
def sp_D_init (K : PySem.W.Frag) (T : List (Addr × Str)) : Sp := fun vs H Q _ => ∃ (p dx : Addr) (v x : V) (b : Bk) (ix n : Nat) (ks : List Ky), vs = [.ref p, v, x, .int n] ∧ H p = some (.ins (cD K) dx []) ∧ FzD H v (dlD (dealAt b ix)) ∧ FzD H x (.list (ks.map kyD)) ∧
  ks.length = (dealAt b ix).letters.length ∧ ((dealAt b ix).letters.map (·.1)).Nodup ∧ (dealAt b ix).letters.length ≤ 4 ∧ ∀ to H', Go T (· = p) H H' → Nw H to → DlAt (cD K) H' b (p, to) ⟨ix, ks, [], n, none, .op⟩ → Q .non H'
theorem b_D_init (t : Tp K mg) : FB P w K mg base 1 (He.fAd K ("Deal", some "__init__")) p_D_init (sp_D_init K T) := by
  refine FB.of t.f_D_init sc_D_init (fun vs H Q E ⟨_, _, _, _, _, _, _, _, h, _⟩ => by rw [h]; rfl) (fun cdv A outer s H vs Q E hr h => ?_)
  obtain ⟨p, dx, v, x, b, ix, n, ks, rfl, hp, hv, hx, hl, hn, h4, q⟩ := h
  have nd := sc_D_init.nd
  refine ⟨_, pss_cons (ps_fld (pv 0) (pe_ix ix_tup (pv 1) pe_int (fun _ _ => rfl)) rfl)
    (pss_cons (ps_fld (pv 0) (pe_fz (pe_callTy call_list_of (by rfl) t.b_list (by decide +kernel) (pa_cons (pv 2) pa_nil))) rfl)
    (pss_cons (ps_fld (pv 0) (pe_fz (pe_dictzip (by rfl) t.b_dict (by rfl) t.b_zip rfl (pa_cons (pe_lc (own := [("letter", 4), ("kind", 5)]) (g := gTup K 2 (gCons (gName 4) (gCons (gName 5) gNil))) (tt := tYes) rfl nd (pi_list (pe_ix ix_tup (pv 1) pe_int (fun _ _ => rfl))) (blkOk_by (own := [("letter", 4), ("kind", 5)]) (N := n_D_init) (sc := defScope s_D_init) (by decide +kernel))
      (fun _ _ _ _ _ => pg_tup rfl (pgs_cons (pg_name (i := 4) nd rfl (Or.inl rfl)) (pgs_cons (pg_name (i := 5) nd rfl (Or.inl rfl)) pgs_nil))) (fun _ _ _ _ _ => pts_nil) (fun _ _ _ _ _ => pv 4)) (pa_cons (pv 2) pa_nil)))) rfl)
    (pss_cons (ps_fld (pv 0) (pe_fz (pe_callTy call_list_of (by rfl) t.b_list (by decide +kernel) (pa_cons (pe_ix ix_tup (pv 1) pe_int (fun _ _ => rfl)) pa_nil))) rfl)
    (pss_cons (ps_fld (pv 0) (pe_lst pa_nil) rfl)
    (pss_cons (ps_fld (pv 0) (pv 3) rfl)
    (pss_cons (ps_fld (pv 0) pe_non rfl)
    (pss_one (ps_fld (pv 0) pe_str rfl)))))))), ?_⟩
  obtain ⟨a, w1, w2, w3, rfl, ha, e1, e2, e3⟩ := fz_t3.mp hv
  obtain ⟨a2, o2, ls, rfl, h2, hls⟩ := fz_list.mp e2
  obtain ⟨a3, o3, ss, rfl, h3, hss⟩ := fz_list.mp e3
  obtain ⟨a4, o4, xs, rfl, hx4, hxs⟩ := fz_list.mp hx
  -- title
  refine ⟨_, rfl, _, _, _, _, rfl, rfl, SqT.of ha, atI_nat (j := 0) rfl, _, rfl, p, _, dx, _, rfl, hp, t.c_Deal, t.n_title, (by show 0 < 1000; decide), ?_⟩
  have g1 : Go T (· = p) H (upd H p (.ins (cD K) dx (putF "title" w1 []))) := Go.refl.set hp trivial (.inl rfl)
  have p1 : upd H p (.ins (cD K) dx (putF "title" w1 [])) p = some (.ins (cD K) dx (putF "title" w1 [])) := upd_same
  generalize upd H p (.ins (cD K) dx (putF "title" w1 [])) = H1 at g1 p1
  -- given
  refine ⟨_, rfl, _, _, rfl, .inl (SqL_frz (g1.fz _ _ hx4 trivial)), fun l1 hl1 => ⟨_, _, rfl, upd_same, trivial, fun ol1 => ?_⟩⟩
  rw [upd_upd]
  refine ⟨_, rfl, p, _, dx, _, rfl, upd_old p1 hl1, t.c_Deal, t.n_given, (by show 1 < 1000; decide), ?_⟩
  have g2 := (g1.add (o := .frz ol1 (.lst xs)) hl1).set (o := .ins (cD K) dx (putF "given" (.ref l1) (putF "title" w1 []))) (upd_old p1 hl1) trivial (.inl rfl)
  have p2 : upd (upd H1 l1 (.frz ol1 (.lst xs))) p (.ins (cD K) dx (putF "given" (.ref l1) (putF "title" w1 []))) p = some (.ins (cD K) dx (putF "given" (.ref l1) (putF "title" w1 []))) := upd_same
  generalize upd (upd H1 l1 (.frz ol1 (.lst xs))) p (.ins (cD K) dx (putF "given" (.ref l1) (putF "title" w1 []))) = H2 at g2 p2
  -- key_by
  refine ⟨_, rfl, _, _, _, _, rfl, rfl, SqT.of (g2.fz _ _ ha trivial), atI_nat (j := 1) rfl, _, rfl, ⟨_, SqL_frz (g2.fz _ _ h2 trivial)⟩, fun D hD => ?_⟩
  refine lc_list (K := K) (a := a2) (xs := ls) (LcP T No (fun _ => True) (SF (fun l : Str × Str => .str l.1) (dealAt b ix).letters) H2 D) (LcP.zero hD trivial) (fun i H2 _ c => SqL_go (SqL_frz (g2.fz _ _ h2 trivial)) c.1 id) (fun i y H3 hi c => ?_) fun H3 c => ?_
  · obtain ⟨l, hl, fl⟩ := hls.atL hi
    obtain ⟨c0, c1, c2, rfl, hc, q1, q2⟩ := fz_t2.mp ((fl.go g2).go c.1)
    have il : i < (dealAt b ix).letters.length := (List.getElem?_eq_some_iff.mp hl).1
    refine ⟨_, _, rfl, SqT.of hc, rfl, _, _, rfl, _, _, rfl, rfl, rfl, iteT (B := LcP T No (fun _ => True) (SF (fun l : Str × Str => .str l.1) (dealAt b ix).letters) H2 D (i + 1) H3) ?_⟩
    exact ⟨_, rfl, c.yes Go.refl hD id SP.st (sm (by omega)) (SP.yes hl rfl q1) fun _ => trivial⟩
  · obtain ⟨g3, _, zs, hz, fz⟩ := c.all hls.1
    have ez := fzl_strs fz
    subst ez
    have lx : xs.length = (dealAt b ix).letters.length := by rw [hxs.1]; exact hl
    refine ⟨_, rfl, D, a4, (dealAt b ix).letters.map fun l => (Sum.inr l.1 : Key), xs, rfl, ?_, SqL_frz ((g2.thn0 g3).fz _ _ hx4 trivial), by simpa using lx.symm, fun kb hkb => ⟨_, _, rfl, upd_same, trivial, fun okb => ?_⟩⟩
    · rw [List.map_map]
      exact .inl (.inl hz)
    rw [upd_upd]
    have nK : ((((dealAt b ix).letters.map fun l => (Sum.inr l.1 : Key)).zip xs).map (·.1)).Nodup := by
      rw [List.map_fst_zip (by simp [lx])]
      have e : ((dealAt b ix).letters.map fun l => (Sum.inr l.1 : Key)) = ((dealAt b ix).letters.map (·.1)).map (Sum.inr : Str → Key) := by rw [List.map_map]; rfl
      rw [e]
      exact List.Pairwise.map _ (fun a b n z => n (Sum.inr.inj z)) hn
    rw [mergeK_nil nK]
    have kv0 : ∀ (i : Nat) (l : Str × Str) (k : Ky), (dealAt b ix).letters[i]? = some l → ks[i]? = some k → ∃ v, valV (((dealAt b ix).letters.map fun l => (Sum.inr l.1 : Key)).zip xs) (.inr l.1) = some v ∧ FzD H v (kyD k) := fun i l k e1 e2 => by
      obtain ⟨z, hz1, hz2⟩ := hxs.at e2
      refine ⟨z, valV_mem nK (List.mem_of_getElem? (i := i) ?_), hz2⟩
      rw [List.getElem?_zip_eq_some]
      exact ⟨by rw [List.getElem?_map, e1]; rfl, hz1⟩
    generalize ((dealAt b ix).letters.map fun l => (Sum.inr l.1 : Key)).zip xs = kvs at nK kv0
    have g4 := g3.add (o := .frz okb (.dK kvs)) hkb
    have p4 := g4.ins p2 id
    have fk4 : upd H3 kb (.frz okb (.dK kvs)) kb = some (.frz okb (.dK kvs)) := upd_same
    have G4 := g2.thn0 g4
    generalize upd H3 kb (.frz okb (.dK kvs)) = H4 at g4 p4 fk4 G4
    refine ⟨_, rfl, p, _, dx, _, rfl, p4, t.c_Deal, t.n_key_by, (by show 2 < 1000; decide), ?_⟩
    have s5 : Go T (· = p) H4 (upd H4 p (.ins (cD K) dx (putF "key_by" (.ref kb) (putF "given" (.ref l1) (putF "title" w1 []))))) := Go.refl.set p4 trivial (.inl rfl)
    have p5 : upd H4 p (.ins (cD K) dx (putF "key_by" (.ref kb) (putF "given" (.ref l1) (putF "title" w1 [])))) p = some _ := upd_same
    generalize upd H4 p (.ins (cD K) dx (putF "key_by" (.ref kb) (putF "given" (.ref l1) (putF "title" w1 [])))) = H5 at s5 p5
    -- ahead
    have G5 := G4.trans s5
    refine ⟨_, rfl, _, _, _, _, rfl, rfl, SqT.of (G5.fz _ _ ha trivial), atI_nat (j := 2) rfl, _, _, rfl, .inl (SqL_frz (G5.fz _ _ h3 trivial)), fun la hla => ⟨_, _, rfl, upd_same, trivial, fun ola => ?_⟩⟩
    rw [upd_upd]
    have s6 : Go T (· = p) H5 (upd H5 la (.frz ola (.lst ss))) := Go.refl.add hla
    have p6 : upd H5 la (.frz ola (.lst ss)) p = some _ := upd_old p5 hla
    have fa6 : upd H5 la (.frz ola (.lst ss)) la = some (.frz ola (.lst ss)) := upd_same
    have fk6 := s6.fz _ _ (s5.fz _ _ fk4 trivial) trivial
    generalize upd H5 la (.frz ola (.lst ss)) = H6 at s6 p6 fa6 fk6
    have G6 := G5.trans s6
    refine ⟨_, rfl, p, _, dx, _, rfl, p6, t.c_Deal, t.n_ahead, (by show 3 < 1000; decide), ?_⟩
    have s7 : Go T (· = p) H6 (upd H6 p (.ins (cD K) dx (putF "ahead" (.ref la) (putF "key_by" (.ref kb) (putF "given" (.ref l1) (putF "title" w1 [])))))) := Go.refl.set p6 trivial (.inl rfl)
    have p7 : upd H6 p (.ins (cD K) dx (putF "ahead" (.ref la) (putF "key_by" (.ref kb) (putF "given" (.ref l1) (putF "title" w1 []))))) p = some _ := upd_same
    generalize upd H6 p (.ins (cD K) dx (putF "ahead" (.ref la) (putF "key_by" (.ref kb) (putF "given" (.ref l1) (putF "title" w1 []))))) = H7 at s7 p7
    have G7 := G6.trans s7
    -- told
    refine ⟨by show 0 ≤ sizeLine; decide, fun to hto => ?_⟩
    refine ⟨_, rfl, p, _, dx, _, rfl, upd_old p7 hto, t.c_Deal, t.n_told, (by show 4 < 1000; decide), ?_⟩
    refine ⟨_, rfl, _, rfl, p, _, dx, _, rfl, upd_same, t.c_Deal, t.n_begun, (by show 5 < 1000; decide), ?_⟩
    refine ⟨_, rfl, p, _, dx, _, rfl, upd_same, t.c_Deal, t.n_ended, (by show 6 < 1000; decide), ?_⟩
    refine ⟨_, rfl, p, _, dx, _, rfl, upd_same, t.c_Deal, t.n_word, (by show 7 < 1000; decide), ?_⟩
    rw [upd_upd, upd_upd, upd_upd, dFl_init]
    have npt : to ≠ p := (ne_of_none p7 hto).symm
    have s8 : Go T (· = p) H7 (upd (upd H7 to (.lst [])) p (.ins (cD K) dx (dFl w1 (.ref l1) (.ref kb) (.ref la) (.ref to) (.int (n : Nat)) .non (.str "open")))) := (Go.refl.add hto).set (upd_old p7 hto) trivial (.inl rfl)
    have G8 := G7.trans s8
    refine q to _ G8 (G7.nw (Nw.of hto)) ⟨dx, w1, .ref l1, kb, la, [], upd_same, ⟨⟨okb, kvs, s8.fz _ _ (s7.fz _ _ fk6 trivial) trivial, fun i l k e1 e2 => ?_⟩, ola, ss, s8.fz _ _ (s7.fz _ _ fa6 trivial) trivial, hss.go G8⟩, by rw [upd_ne npt, upd_same], Zp.nil⟩
    · obtain ⟨z, z1, z2⟩ := kv0 i l k e1 e2
      exact ⟨z, z1, z2.go G8⟩
/-! ### the methods of Deal -/
def sp_D_next_deed (K : PySem.W.Frag) (T : List (Addr × Str)) : Sp := fun vs H Q _ => ∃ (q : Addr × Addr) (b : Bk) (d : Ds) (j : Nat) (st l : Str × Str) (k : Ky), vs = [.ref q.1] ∧ DlAt (cD K) H b q d ∧ (dealAt b d.deal).steps[d.told.length]? = some st ∧ (dealAt b d.deal).letters[j]? = some l ∧ l.1 = st.2 ∧ d.keys[j]? = some k ∧
  d.told.length ≤ 1000 ∧ ∀ a H' v, Go T No H H' → H' a = some (.tup [.str st.1, v]) → FzD H' v (kyD k) → Q (.ref a) H'
theorem b_D_next_deed (t : Tp K mg) : FB P w K mg base 1 (He.fAd K ("Deal", some "next_deed")) p_D_next_deed (sp_D_next_deed K T) := by
  refine FB.of t.f_D_next_deed sc_D_next_deed (fun vs H Q E ⟨_, _, _, _, _, _, _, h, _⟩ => by rw [h]; rfl) (fun cdv A outer s H vs Q E hr h => ?_)
  obtain ⟨q, b, d, j, st, l, k, rfl, hd, hs, hl, hls, hk, hlen, hq⟩ := h
  have nd := sc_D_next_deed.nd
  have hu := hu_of hr
  refine ⟨_, pss_cons (ps_asg (pe_ix ix_list (pe_fld (pv 0) rfl) (pe_callB call_len (by rfl) t.b_len PySem.boot_len (pa_cons (pe_fld (pv 0) rfl) pa_nil)) (fun _ _ => rfl)) (pg_tup rfl (pgs_cons (pg_name (i := 1) nd rfl (.inl rfl)) (pgs_cons (pg_name (i := 2) nd rfl (.inl rfl)) pgs_nil))))
    (pss_one (ps_ret (pe_tup (pa_cons (pv 1) (pa_cons (pe_dget hu (pe_fld (pv 0) rfl) (pv 2) (fun _ _ => rfl)) pa_nil))))), ?_⟩
  obtain ⟨dx, t1, t2, kb, ah, xs, h1, h2, h3, h4⟩ := hd
  obtain ⟨⟨okb, kvs, hkb, hkv⟩, oah, ys, hah, hys⟩ := h2
  obtain ⟨y, hy, fy⟩ := hys.at hs
  obtain ⟨a, y1, y2, rfl, ha, e1, e2⟩ := fz_t2.mp fy
  obtain rfl := fz_str.mp e1
  obtain rfl := fz_str.mp e2
  obtain ⟨v, hv, fv⟩ := hkv j l k hl hk
  rw [hls] at hv
  refine ⟨_, rfl, q.1, _, dx, _, _, rfl, h1, t.c_Deal, t.n_ahead, dFl_ahead, _, rfl, q.1, _, dx, _, _, rfl, h1, t.c_Deal, t.n_told, dFl_told, _, xs.length, rfl, .inl ⟨_, .inl (.inl h3), rfl⟩, ?_⟩
  refine ⟨_, _, _, _, rfl, rfl, SqL_frz hah, atI_nat (by rw [h4.1]; exact hy), _, _, rfl, SqT.of ha, rfl, _, _, rfl, _, _, rfl, rfl, ?_⟩
  have g := dget_fz (.inr st.2) hkb
  rw [hv] at g
  refine ⟨_, rfl, _, rfl, q.1, _, dx, _, _, rfl, h1, t.c_Deal, t.n_key_by, dFl_key_by, _, rfl, kb, v, rfl, g, by show 2 ≤ sizeLine; decide, fun p hp => ?_⟩
  exact hq p _ v (Go.refl.add hp) upd_same (fv.add hp)
def sp_D_steps_left (K : PySem.W.Frag) : Sp := fun vs H Q _ => ∃ (q : Addr × Addr) (b : Bk) (d : Ds), vs = [.ref q.1] ∧ DlAt (cD K) H b q d ∧ Q (.int (((dealAt b d.deal).steps.length : Int) - d.told.length)) H
theorem b_D_steps_left (t : Tp K mg) : FB P w K mg base 1 (He.fAd K ("Deal", some "steps_left")) p_D_steps_left (sp_D_steps_left K) := by
  refine FB.of t.f_D_steps_left sc_D_steps_left (fun vs H Q E ⟨_, _, _, h, _⟩ => by rw [h]; rfl) (fun cdv A outer s H vs Q E hr h => ?_)
  obtain ⟨q, b, d, rfl, hd, hq⟩ := h
  refine ⟨_, pss_one (ps_ret (pe_op op_sub (pe_callB call_len (by rfl) t.b_len PySem.boot_len (pa_cons (pe_fld (pv 0) rfl) pa_nil)) (pe_callB call_len (by rfl) t.b_len PySem.boot_len (pa_cons (pe_fld (pv 0) rfl) pa_nil)))), ?_⟩
  obtain ⟨dx, t1, t2, kb, ah, xs, h1, h2, h3, h4⟩ := hd
  obtain ⟨_, oah, ys, hah, hys⟩ := h2
  refine ⟨_, rfl, q.1, _, dx, _, _, rfl, h1, t.c_Deal, t.n_ahead, dFl_ahead, _, ys.length, rfl, .inl ⟨_, SqL_frz hah, rfl⟩, _, rfl, q.1, _, dx, _, _, rfl, h1, t.c_Deal, t.n_told, dFl_told, _, xs.length, rfl, .inl ⟨_, .inl (.inl h3), rfl⟩, _, _, rfl, rfl, ?_⟩
  rw [h4.1, hys.1]
  exact hq
def sp_D_written (K : PySem.W.Frag) (T : List (Addr × Str)) : Sp := fun vs H Q _ => ∃ (q : Addr × Addr) (b : Bk) (d : Ds), vs = [.ref q.1] ∧ DlAt (cD K) H b q d ∧ d.told.length ≤ 100 ∧ ∀ v H', Go T No H H' → FzD H' v (.list ((wrote d.told).map kyD)) → Q v H'
theorem b_D_written (t : Tp K mg) : FB P w K mg base 1 (He.fAd K ("Deal", some "written")) p_D_written (sp_D_written K T) := by
  refine FB.of t.f_D_written sc_D_written (fun vs H Q E ⟨_, _, _, h, _⟩ => by rw [h]; rfl) (fun cdv A outer s H vs Q E hr h => ?_)
  obtain ⟨q, b, d, rfl, hd, hlen, hq⟩ := h
  have nd := sc_D_written.nd
  refine ⟨_, pss_one (ps_ret (pe_fz (pe_lc (own := [("deed", 1), ("key", 2), ("seen", 3)]) (g := gTup K 3 (gCons (gName 1) (gCons (gName 2) (gCons (gName 3) gNil)))) rfl nd (pi_list (pe_fld (pv 0) rfl)) (blkOk_by (own := [("deed", 1), ("key", 2), ("seen", 3)]) (N := n_D_written) (sc := defScope s_D_written) (by decide +kernel))
      (fun _ _ _ _ _ => pg_tup rfl (pgs_cons (pg_name (i := 1) nd rfl (Or.inl rfl)) (pgs_cons (pg_name (i := 2) nd rfl (Or.inl rfl)) (pgs_cons (pg_name (i := 3) nd rfl (Or.inl rfl)) pgs_nil)))) (fun _ _ _ _ _ => pts_one (pt_cmpR op_ne (pv 1) pe_str (nomark _))) (fun _ _ _ _ _ => pv 2)))), ?_⟩
  obtain ⟨dx, t1, t2, kb, ah, xs, h1, h2, h3, h4⟩ := hd
  refine ⟨_, rfl, q.1, _, dx, _, _, rfl, h1, t.c_Deal, t.n_told, dFl_told, _, rfl, ⟨_, .inl (.inl h3)⟩, fun D hD => ?_⟩
  refine lc_list (K := K) (a := q.2) (xs := xs) (LcP T No (fun _ => True) (SP (fun x : Tk => kyD x.key) d.told fun x => decide (x.deed ≠ ("read" : Str))) H D) (LcP.zero hD trivial) (fun i H2 _ c => .inl (.inl (c.1.lst h3 id))) (fun i y H3 hi c => ?_) fun H3 c => ?_
  · obtain ⟨k, hk, fk⟩ := h4.atL hi
    obtain ⟨c0, c1, c2, c3, rfl, hc, q1, q2, q3⟩ := fz_t3.mp (fk.go c.1)
    obtain rfl := fz_str.mp q1
    have il : i < d.told.length := (List.getElem?_eq_some_iff.mp hk).1
    refine ⟨_, _, rfl, SqT.of hc, rfl, _, _, rfl, _, _, rfl, _, _, rfl, rfl, rfl, _, rfl, rfl, _, rfl, ?_⟩
    by_cases hne : k.deed = ("read" : Str)
    · rw [decide_eq_true (by rw [hne])]
      exact iteF (c.no Go.refl id SP.st (SP.no hk (by simp [hne])) trivial)
    · rw [decide_eq_false (by simpa using hne)]
      exact iteT ⟨_, rfl, c.yes Go.refl hD id SP.st (sm (by omega)) (SP.yes hk (by simp [hne]) q2) fun _ => trivial⟩
  · obtain ⟨g3, _, zs, hz, fz⟩ := c.flt h4.1
    refine ⟨D, _, rfl, hz, trivial, fun o => hq _ _ (g3.set hz trivial (.inr (Nw.of hD))) ?_⟩
    have fz2 : FzL H3 kyD zs (wrote d.told) := by
      unfold wrote
      exact ⟨by rw [List.length_map]; exact fz.1, fun i x y hx hy => by
        rw [List.getElem?_map] at hy
        cases e : (d.told.filter fun t => decide (t.deed ≠ ("read" : Str)))[i]? with
        | none =>
          rw [e] at hy
          cases hy
        | some z =>
          rw [e] at hy
          cases hy
          exact fz.2 i x z hx e⟩
    exact fz_list.mpr ⟨D, o, zs, rfl, upd_same, fz2.set hz trivial⟩
def sp_D_closed (K : PySem.W.Frag) (T : List (Addr × Str)) : Sp := fun vs H Q _ => ∃ (q : Addr × Addr) (b : Bk) (d : Ds) (wd : Wd) (n : Nat), vs = [.ref q.1, .str wd.s, .int n] ∧ DlAt (cD K) H b q d ∧ ∀ H', Go T (· = q.1) H H' → DlAt (cD K) H' b q { d with ended := some n, word := wd } → Q .non H'
theorem b_D_closed (t : Tp K mg) : FB P w K mg base 1 (He.fAd K ("Deal", some "closed")) p_D_closed (sp_D_closed K T) := by
  refine FB.of t.f_D_closed sc_D_closed (fun vs H Q E ⟨_, _, _, _, _, h, _⟩ => by rw [h]; rfl) (fun cdv A outer s H vs Q E hr h => ?_)
  obtain ⟨q, b, d, wd, n, rfl, hd, hq⟩ := h
  refine ⟨_, pss_cons (ps_fld (pv 0) (pv 1) rfl) (pss_one (ps_fld (pv 0) (pv 2) rfl)), ?_⟩
  obtain ⟨dx, t1, t2, kb, ah, xs, h1, h2, h3, h4⟩ := hd
  have n21 : q.2 ≠ q.1 := ne_of h3 h1 (by intro z; cases z)
  refine ⟨_, rfl, _, rfl, q.1, _, dx, _, rfl, h1, t.c_Deal, t.n_word, (by show 8 < 1000; decide), ?_⟩
  refine ⟨_, rfl, _, rfl, q.1, _, dx, _, rfl, upd_same, t.c_Deal, t.n_ended, (by rw [dFl_put_word]; show 8 < 1000; decide), ?_⟩
  rw [upd_upd, dFl_put_word, dFl_put_ended]
  have g : Go T (· = q.1) H (upd H q.1 (.ins (cD K) dx (dFl t1 t2 (.ref kb) (.ref ah) (.ref q.2) (.int (d.begun : Nat)) (.int (n : Nat)) (.str wd.s)))) := Go.refl.set h1 trivial (.inl rfl)
  exact hq _ g ⟨dx, t1, t2, kb, ah, xs, upd_same, h2.up g.fz, g.lst h3 n21, h4.go g⟩
def sp_D_opened (K : PySem.W.Frag) (T : List (Addr × Str)) : Sp := fun vs H Q _ => ∃ (q : Addr × Addr) (b : Bk) (d : Ds), vs = [.ref q.1] ∧ DlAt (cD K) H b q d ∧ ∀ H', Go T (· = q.1) H H' → DlAt (cD K) H' b q { d with ended := none, word := .op } → Q .non H'
theorem b_D_opened (t : Tp K mg) : FB P w K mg base 1 (He.fAd K ("Deal", some "opened")) p_D_opened (sp_D_opened K T) := by
  refine FB.of t.f_D_opened sc_D_opened (fun vs H Q E ⟨_, _, _, h, _⟩ => by rw [h]; rfl) (fun cdv A outer s H vs Q E hr h => ?_)
  obtain ⟨q, b, d, rfl, hd, hq⟩ := h
  refine ⟨_, pss_cons (ps_fld (pv 0) pe_str rfl) (pss_one (ps_fld (pv 0) pe_non rfl)), ?_⟩
  obtain ⟨dx, t1, t2, kb, ah, xs, h1, h2, h3, h4⟩ := hd
  have n21 : q.2 ≠ q.1 := ne_of h3 h1 (by intro z; cases z)
  refine ⟨_, rfl, q.1, _, dx, _, rfl, h1, t.c_Deal, t.n_word, (by show 8 < 1000; decide), ?_⟩
  refine ⟨_, rfl, q.1, _, dx, _, rfl, upd_same, t.c_Deal, t.n_ended, (by rw [dFl_put_word]; show 8 < 1000; decide), ?_⟩
  rw [upd_upd, dFl_put_word, dFl_put_ended]
  have g : Go T (· = q.1) H (upd H q.1 (.ins (cD K) dx (dFl t1 t2 (.ref kb) (.ref ah) (.ref q.2) (.int (d.begun : Nat)) .non (.str "open")))) := Go.refl.set h1 trivial (.inl rfl)
  exact hq _ g ⟨dx, t1, t2, kb, ah, xs, upd_same, h2.up g.fz, g.lst h3 n21, h4.go g⟩
end
end K29
/-! text K29P3 -/
namespace K29
open PySem PySem.Spec PyProof.Rows L2 LamX
/-! ### a stepper as an object -/
def sFl (ob ld lg : V) : List (Str × V) := [("own_book", ob), ("deals", ld), ("log", lg)]
section
variable {ob ld lg v : V}
theorem sFl_book : (sFl ob ld lg).lookup ("own_book" : Str) = some ob := by kernel_rfl
theorem sFl_deals : (sFl ob ld lg).lookup ("deals" : Str) = some ld := by kernel_rfl
theorem sFl_log : (sFl ob ld lg).lookup ("log" : Str) = some lg := by kernel_rfl
theorem sFl_init : putF "log" lg (putF "deals" ld (putF "own_book" ob [])) = sFl ob ld lg := by kernel_rfl
theorem sFl_m0 : (sFl ob ld lg).lookup ("fresh_keys" : Str) = none := by kernel_rfl
theorem sFl_m1 : (sFl ob ld lg).lookup ("deal_by" : Str) = none := by kernel_rfl
theorem sFl_m2 : (sFl ob ld lg).lookup ("open_deal" : Str) = none := by kernel_rfl
theorem sFl_m3 : (sFl ob ld lg).lookup ("last_writer" : Str) = none := by kernel_rfl
theorem sFl_m4 : (sFl ob ld lg).lookup ("step" : Str) = none := by kernel_rfl
theorem sFl_m5 : (sFl ob ld lg).lookup ("is_called_off" : Str) = none := by kernel_rfl
theorem sFl_m6 : (sFl ob ld lg).lookup ("look_at_end" : Str) = none := by kernel_rfl
theorem sFl_m7 : (sFl ob ld lg).lookup ("close" : Str) = none := by kernel_rfl
theorem sFl_m8 : (sFl ob ld lg).lookup ("shut" : Str) = none := by kernel_rfl
theorem sFl_m9 : (sFl ob ld lg).lookup ("end" : Str) = none := by kernel_rfl
theorem sFl_m10 : (sFl ob ld lg).lookup ("drop" : Str) = none := by kernel_rfl
theorem sFl_m11 : (sFl ob ld lg).lookup ("undo" : Str) = none := by kernel_rfl
theorem sFl_m12 : (sFl ob ld lg).lookup ("state" : Str) = none := by kernel_rfl
theorem sFl_m13 : (sFl ob ld lg).lookup ("left" : Str) = none := by kernel_rfl
theorem sFl_m14 : (sFl ob ld lg).lookup ("writer" : Str) = none := by kernel_rfl
theorem sFl_m15 : (sFl ob ld lg).lookup ("rows" : Str) = none := by kernel_rfl
theorem sFl_m16 : (sFl ob ld lg).lookup ("begin" : Str) = none := by kernel_rfl
end
abbrev cS (K : PySem.W.Frag) : Addr := He.ga K "Stepper"
/-- the places that a stepper may change -/
def fpS (p Ld Lg : Addr) (qs : List (Addr × Addr)) : List Addr := p :: Ld :: Lg :: qs.flatMap fun q => [q.1, q.2]
theorem mem_fpS {p Ld Lg a : Addr} {qs : List (Addr × Addr)} : a ∈ fpS p Ld Lg qs ↔ a = p ∨ a = Ld ∨ a = Lg ∨ ∃ q ∈ qs, a = q.1 ∨ a = q.2 := by
  simp only [fpS, List.mem_cons, List.mem_flatMap, List.not_mem_nil, or_false]
/-- a stepper's parts -/
structure StP (K : PySem.W.Frag) (H : Hp) (b : Bk) (p dx : Addr) (ob : V) (Ld Lg : Addr) (qs : List (Addr × Addr)) (lg : List V) (ds : List Ds) (rows : List Row) : Prop where
  o : H p = some (.ins (cS K) dx (sFl ob (.ref Ld) (.ref Lg)))
  bk : FzD H ob (bkD b)
  ld : H Ld = some (.lst (qs.map fun q => .ref q.1))
  gl : H Lg = some (.lst lg)
  rw_ : FzL H rowD lg rows
  dl : Zp (DlAt (cD K) H b) qs ds
  nd : (fpS p Ld Lg qs).Nodup
def StAt (K : PySem.W.Frag) (H : Hp) (p : Addr) (b : Bk) (ds : List Ds) (rows : List Row) (fp : List Addr) : Prop :=
  ∃ (dx : Addr) (ob : V) (Ld Lg : Addr) (qs : List (Addr × Addr)) (lg : List V), StP K H b p dx ob Ld Lg qs lg ds rows ∧ fp = fpS p Ld Lg qs
section
variable {P : Program} {w : World} {K : PySem.W.Frag} {mg : Str → Option Value} {base : Heap} {T : List (Addr × Str)} {M : Addr → Prop} {H H' : Hp} {b : Bk} {p dx Ld Lg : Addr} {ob : V} {qs : List (Addr × Addr)} {lg : List V} {ds : List Ds} {rows : List Row} {fp : List Addr}
theorem StP.go (S : StP K H b p dx ob Ld Lg qs lg ds rows) (g : Go T M H H') (n : ∀ a ∈ fpS p Ld Lg qs, ¬ M a) : StP K H' b p dx ob Ld Lg qs lg ds rows := by
  have k : ∀ {a}, (a = p ∨ a = Ld ∨ a = Lg ∨ ∃ q ∈ qs, a = q.1 ∨ a = q.2) → ¬ M a := fun h => n _ (mem_fpS.mpr h)
  exact ⟨g.ins S.o (k (.inl rfl)), S.bk.go g, g.lst S.ld (k (.inr (.inl rfl))), g.lst S.gl (k (.inr (.inr (.inl rfl)))), S.rw_.go g,
    Zp.monoM S.dl fun q d hq _ h => h.go g (k (.inr (.inr (.inr ⟨q, hq, .inl rfl⟩)))) (k (.inr (.inr (.inr ⟨q, hq, .inr rfl⟩)))), S.nd⟩
theorem StP.go0 (S : StP K H b p dx ob Ld Lg qs lg ds rows) (g : Go T No H H') : StP K H' b p dx ob Ld Lg qs lg ds rows := S.go g fun _ _ z => z
theorem StAt.go (S : StAt K H p b ds rows fp) (g : Go T M H H') (n : ∀ a ∈ fp, ¬ M a) : StAt K H' p b ds rows fp := by
  obtain ⟨dx, ob, Ld, Lg, qs, lg, S, rfl⟩ := S
  exact ⟨dx, ob, Ld, Lg, qs, lg, S.go g n, rfl⟩
theorem StAt.go0 (S : StAt K H p b ds rows fp) (g : Go T No H H') : StAt K H' p b ds rows fp := S.go g fun _ _ z => z
theorem DlAt.tr {C : Addr} {q : Addr × Addr} {d : Ds} (D : DlAt C H b q d) : (∃ o, H q.1 = some o ∧ Mb o) ∧ ∃ o, H q.2 = some o ∧ Mb o := by
  obtain ⟨dx, t, gi, kb, ah, xs, h1, h2, h3, h4⟩ := D
  exact ⟨⟨_, h1, trivial⟩, _, h3, trivial⟩
/-- all of it is known -/
theorem StP.tr (S : StP K H b p dx ob Ld Lg qs lg ds rows) : ∀ a ∈ fpS p Ld Lg qs, ∃ o, H a = some o ∧ Mb o := fun a h => by
  rcases mem_fpS.mp h with rfl | rfl | rfl | ⟨q, hq, h⟩
  · exact ⟨_, S.o, trivial⟩
  · exact ⟨_, S.ld, trivial⟩
  · exact ⟨_, S.gl, trivial⟩
  · obtain ⟨i, hi, e⟩ := List.mem_iff_getElem.mp hq
    obtain ⟨d, _, D⟩ := S.dl.atL (by rw [List.getElem?_eq_getElem hi, e])
    obtain ⟨h1, h2⟩ := D.tr
    rcases h with rfl | rfl
    · exact h1
    · exact h2
theorem StAt.tr (S : StAt K H p b ds rows fp) : ∀ a ∈ fp, ∃ o, H a = some o ∧ Mb o := by
  obtain ⟨dx, ob, Ld, Lg, qs, lg, S, rfl⟩ := S
  exact S.tr
theorem StAt.self (S : StAt K H p b ds rows fp) : p ∈ fp := by
  obtain ⟨dx, ob, Ld, Lg, qs, lg, S, rfl⟩ := S
  exact mem_fpS.mpr (.inl rfl)
/-! ### Stepper.__init__ -/
def sp_S_init (K : PySem.W.Frag) (T : List (Addr × Str)) : Sp := fun vs H Q _ => ∃ (p dx : Addr) (v : V) (b : Bk), vs = [.ref p, v] ∧ H p = some (.ins (cS K) dx []) ∧ FzD H v (bkD b) ∧ b.deals.length ≤ 3 ∧
  ∀ fp H', Go T (· = p) H H' → StAt K H' p b [] [] fp → (∀ a ∈ fp, a = p ∨ Nw H a) → Q .non H'
theorem b_S_init (t : Tp K mg) : FB P w K mg base 3 (He.fAd K ("Stepper", some "__init__")) p_S_init (sp_S_init K T) := by
  refine FB.of t.f_S_init sc_S_init (fun vs H Q E ⟨_, _, _, _, h, _⟩ => by rw [h]; rfl) (fun cdv A outer s H vs Q E hr h => ?_)
  obtain ⟨p, dx, v, b, rfl, hp, hv, h3, hq⟩ := h
  refine ⟨_, pss_cons (ps_fld (pv 0) (pe_f (b_book_copied (T := T) t) t.g_book_copied hr (pa_cons (pv 1) pa_nil)) rfl) (pss_cons (ps_fld (pv 0) (pe_lst pa_nil) rfl) (pss_one (ps_fld (pv 0) (pe_lst pa_nil) rfl))), ?_⟩
  refine ⟨_, rfl, v, b, rfl, hv, h3, fun ob H1 g1 f1 => ?_⟩
  have p1 := g1.ins hp id
  refine ⟨_, rfl, p, _, dx, _, rfl, p1, t.c_Stepper, t.n_own_book, (by show 0 < 1000; decide), ?_⟩
  have g2 : Go T (· = p) H (upd H1 p (.ins (cS K) dx (putF "own_book" ob []))) := g1.wk.set p1 trivial (.inl rfl)
  have f2 : FzD (upd H1 p (.ins (cS K) dx (putF "own_book" ob []))) ob (bkD b) := f1.set p1 trivial
  have p2 : upd H1 p (.ins (cS K) dx (putF "own_book" ob [])) p = some (.ins (cS K) dx (putF "own_book" ob [])) := upd_same
  generalize upd H1 p (.ins (cS K) dx (putF "own_book" ob [])) = H2 at g2 p2 f2
  refine ⟨by show 0 ≤ sizeLine; decide, fun Ld hLd => ⟨_, rfl, p, _, dx, _, rfl, upd_old p2 hLd, t.c_Stepper, t.n_deals, (by show 1 < 1000; decide), ?_⟩⟩
  have g3 := (g2.add (o := .lst []) hLd).set (o := .ins (cS K) dx (putF "deals" (.ref Ld) (putF "own_book" ob []))) (upd_old p2 hLd) trivial (.inl rfl)
  have f3 : FzD (upd (upd H2 Ld (.lst [])) p (.ins (cS K) dx (putF "deals" (.ref Ld) (putF "own_book" ob [])))) ob (bkD b) := (f2.add hLd).set (upd_old p2 hLd) trivial
  have p3 : upd (upd H2 Ld (.lst [])) p (.ins (cS K) dx (putF "deals" (.ref Ld) (putF "own_book" ob []))) p = some (.ins (cS K) dx (putF "deals" (.ref Ld) (putF "own_book" ob []))) := upd_same
  have nL : Ld ≠ p := (ne_of_none p2 hLd).symm
  have l3 : upd (upd H2 Ld (.lst [])) p (.ins (cS K) dx (putF "deals" (.ref Ld) (putF "own_book" ob []))) Ld = some (.lst []) := by rw [upd_ne nL, upd_same]
  generalize upd (upd H2 Ld (.lst [])) p (.ins (cS K) dx (putF "deals" (.ref Ld) (putF "own_book" ob []))) = H3 at g3 p3 l3 f3
  refine ⟨by show 0 ≤ sizeLine; decide, fun Lg hLg => ⟨_, rfl, p, _, dx, _, rfl, upd_old p3 hLg, t.c_Stepper, t.n_log, (by show 2 < 1000; decide), ?_⟩⟩
  rw [sFl_init]
  have nG : Lg ≠ p := (ne_of_none p3 hLg).symm
  have nLG : Ld ≠ Lg := ne_of_none l3 hLg
  have g4 := (g3.add (o := .lst []) hLg).set (o := .ins (cS K) dx (sFl ob (.ref Ld) (.ref Lg))) (upd_old p3 hLg) trivial (.inl rfl)
  refine hq (fpS p Ld Lg []) _ g4 ⟨dx, ob, Ld, Lg, [], [], ⟨upd_same, (f3.add hLg).set (upd_old p3 hLg) trivial, by rw [upd_ne nL]; exact upd_old l3 hLg, by rw [upd_ne nG, upd_same], Zp.nil, Zp.nil, ?_⟩, rfl⟩ fun a ha => ?_
  · show [p, Ld, Lg].Nodup
    simp [nL.symm, nG.symm, nLG]
  · rcases mem_fpS.mp ha with rfl | rfl | rfl | ⟨q, hq, _⟩
    · exact .inl rfl
    · exact .inr (g2.nw (Nw.of hLd))
    · exact .inr (g3.nw (Nw.of hLg))
    · cases hq
/-! ### deal_by, open_deal -/
def sp_S_deal_by (K : PySem.W.Frag) : Sp := fun vs H Q _ => ∃ (p dx : Addr) (ob : V) (Ld Lg : Addr) (qs : List (Addr × Addr)) (i : Nat) (q : Addr × Addr), vs = [.ref p, .int i] ∧ H p = some (.ins (cS K) dx (sFl ob (.ref Ld) (.ref Lg))) ∧ H Ld = some (.lst (qs.map fun q => .ref q.1)) ∧ qs[i]? = some q ∧ Q (.ref q.1) H
theorem b_S_deal_by (t : Tp K mg) : FB P w K mg base 1 (He.fAd K ("Stepper", some "deal_by")) p_S_deal_by (sp_S_deal_by K) := by
  refine FB.of t.f_S_deal_by sc_S_deal_by (fun vs H Q E ⟨_, _, _, _, _, _, _, _, h, _⟩ => by rw [h]; rfl) (fun cdv A outer s H vs Q E hr h => ?_)
  obtain ⟨p, dx, ob, Ld, Lg, qs, i, q, rfl, hp, hL, hi, hq⟩ := h
  refine ⟨_, pss_cons (ps_if (PW.pt (pw_or (pt_not (pt_val (pe_callB call_isi (by rfl) t.b_isinstance (by decide +kernel) (pa_cons (pv 1) (pa_cons (pe_bltn (v := .ty "int") rfl t.b_int (by decide +kernel) rfl) pa_nil)))))
      (pw_or (pt_val (pe_callB call_isi (by rfl) t.b_isinstance (by decide +kernel) (pa_cons (pv 1) (pa_cons (pe_bltn (v := .ty "bool") rfl t.b_bool (by decide +kernel) rfl) pa_nil))))
      (pw_or1 (pt_not (pt_chain op_le op_lt pe_int (pv 1) (pe_callB call_len (by rfl) t.b_len PySem.boot_len (pa_cons (pe_fld (pv 0) rfl) pa_nil)))))))) (pss_one ps_never) pss_nil)
    (pss_one (ps_ret (pe_ix ix_list (pe_fld (pv 0) rfl) (pv 1) (fun _ _ => rfl)))), ?_⟩
  have il : i < qs.length := (List.getElem?_eq_some_iff.mp hi).1
  refine ⟨_, rfl, _, _, _, _, true, rfl, .ty _, .base (.int _), kit_ty (by decide +kernel), _, rfl, iteF ?_⟩
  refine ⟨_, rfl, _, _, _, _, false, rfl, .ty _, .base (.int _), kit_ty (by decide +kernel), _, rfl, iteF ?_⟩
  refine ⟨_, rfl, _, _, rfl, rfl, _, rfl, ?_⟩
  rw [decide_eq_true (by omega)]
  refine iteT ⟨_, rfl, p, _, dx, _, _, rfl, hp, t.c_Stepper, t.n_deals, sFl_deals, _, qs.length, rfl, .inl ⟨_, .inl (.inl hL), by simp⟩, _, _, rfl, rfl, _, rfl, ?_⟩
  rw [decide_eq_true (by omega)]
  refine iteF ⟨_, rfl, p, _, dx, _, _, rfl, hp, t.c_Stepper, t.n_deals, sFl_deals, _, rfl, _, _, _, _, rfl, rfl, .inl (.inl hL), atI_nat (by rw [List.getElem?_map, hi]; rfl), hq⟩
def sp_S_open_deal (K : PySem.W.Frag) : Sp := fun vs H Q _ => ∃ (p dx : Addr) (ob : V) (Ld Lg : Addr) (qs : List (Addr × Addr)) (i : Nat) (q : Addr × Addr) (b : Bk) (d : Ds), vs = [.ref p, .int i] ∧ H p = some (.ins (cS K) dx (sFl ob (.ref Ld) (.ref Lg))) ∧ H Ld = some (.lst (qs.map fun q => .ref q.1)) ∧ qs[i]? = some q ∧
  DlAt (cD K) H b q d ∧ d.word = .op ∧ Q (.ref q.1) H
theorem b_S_open_deal (t : Tp K mg) : FB P w K mg base 2 (He.fAd K ("Stepper", some "open_deal")) p_S_open_deal (sp_S_open_deal K) := by
  refine FB.of t.f_S_open_deal sc_S_open_deal (fun vs H Q E ⟨_, _, _, _, _, _, _, _, _, _, h, _⟩ => by rw [h]; rfl) (fun cdv A outer s H vs Q E hr h => ?_)
  obtain ⟨p, dx, ob, Ld, Lg, qs, i, q, b, d, rfl, hp, hL, hi, hd, hw, hq⟩ := h
  have nd := sc_S_open_deal.nd
  refine ⟨_, pss_cons (ps_set (i := 2) nd rfl (Or.inl rfl) (pe_m t.c_Stepper t.m_S_deal_by (b_S_deal_by t) hr (pv 0) (pa_cons (pv 1) pa_nil)))
    (pss_cons (ps_if (pt_cmpR op_ne (pe_fld (pv 2) rfl) pe_str (nomark _)) (pss_one ps_never) pss_nil) (pss_one (ps_ret (pv 2)))), ?_⟩
  refine ⟨_, rfl, p, dx, _, rfl, hp, sFl_m1, _, rfl, p, dx, ob, Ld, Lg, qs, i, q, rfl, hp, hL, hi, ?_⟩
  obtain ⟨dy, t1, t2, kb, ah, xs, h1, h2, h3, h4⟩ := hd
  rw [hw] at h1
  refine ⟨_, rfl, q.1, _, dy, _, _, rfl, h1, t.c_Deal, t.n_word, dFl_word, rfl, _, rfl, ?_⟩
  exact iteF ⟨_, rfl, hq⟩
end
end K29
/-! text K29Max -/
namespace K29
open PySem PySem.Spec PyProof.Rows L2
/-! ### an untracked record of ours -/
structure Own (X : Cx) (pins : List (Addr × Obj)) (H : Hp) (a : Addr) : Prop where
  no : H a = none
  nl : a ≠ X.env.locals
  sz : X.s_0.heap.objs.size ≤ a
  cl : ∀ x c, X.env.cells.lookup x = some c → c ≠ a
  pn : ∀ p ∈ X.pn ++ pins, p.1 ≠ a
  fr : a ∉ frs X.stack
/-- what is untracked and no frame stays -/
def Kp (X : Cx) (H : Hp) (s s' : Shared) : Prop := ∀ a o, H a = none → a ∉ frs X.stack → s.heap.get? a = some o → s'.heap.get? a = some o
section
variable {X : Cx} {pins : List (Addr × Obj)} {σ : L2.St} {H : Hp} {s : Shared} {a : Addr}
theorem own_new (I : Inv X pins σ H s) (h : s.heap.objs.size ≤ a) : Own X pins H a where
  no := I.hok.fresh h
  nl := fun z => by have := I.lt; rw [← z] at this; exact absurd (Nat.lt_of_lt_of_le this h) (Nat.lt_irrefl _)
  sz := Nat.le_trans I.sz h
  cl := fun x c e z => by
    obtain ⟨v, o, ho, _⟩ := I.cell x c e
    have := Heap.lt_size ho
    rw [z] at this
    exact absurd (Nat.lt_of_lt_of_le this h) (Nat.lt_irrefl _)
  pn := fun p hp z => by
    have := Heap.lt_size (I.pin p hp).1
    rw [z] at this
    exact absurd (Nat.lt_of_lt_of_le this h) (Nat.lt_irrefl _)
  fr := fun hb => by
    rcases List.mem_cons.mp (I.stkSub a hb) with e | hb
    · have := I.lt
      rw [← e] at this
      exact absurd (Nat.lt_of_lt_of_le this h) (Nat.lt_irrefl _)
    · exact I.nofs h hb
theorem Own.turned {h' : Heap} {t' : Nat} (O : Own X pins H a) (I : Inv X pins σ H s) (k : ∀ b o, b ≠ a → s.heap.get? b = some o → h'.get? b = some o) : Inv X pins σ H { s with heap := h', toks := t' } :=
  I.turned k O.no O.nl (.inr O.sz) O.cl O.pn
end
theorem mx_key (a v d : Value) : argsOk "max" ⟨[a], [(Str.ofString "key", v), (Str.ofString "default", d)]⟩ := by unfold argsOk; kernel_rfl
section
variable {X : Cx} {pins : List (Addr × Obj)} {σ : L2.St} {H : Hp} {l I S q : Addr} {fo : Obj} {xs : List V} {R : Result → Shared → Prop}
theorem mx_loop (kf : Nat → Int) {kw : List (Str × Value)} (hh : X.A.handled = none) (hl : ∀ s', Inv X pins σ H s' → ∃ its : List Value, Vals xs its ∧ s'.heap.IsList l its.toArray) (oI : Own X pins H I) (oS : Own X pins H S) (hlI : l ≠ I) (hlS : l ≠ S) (hSI : S ≠ I) (hqI : q ≠ I) (hqS : q ≠ S) (hq : H q = none) (hqf : q ∉ frs X.stack)
    (turn : ∀ (i : Nat) (x : V) (v : Value), xs[i]? = some x → RelV x v → ∀ s', Inv X pins σ H s' → s'.heap.get? q = some fo →
      wpAny (model X.prog X.w) X.A.in1 (call (.ref q) [v]) (fun r s'' => ∃ t, r = .int (kf i) t ∧ Inv X pins σ H s'' ∧ Kp X H s' s'') (fun _ _ => False) s')
    (hR : ∀ i x v s', xs[i]? = some x → RelV x v → (∀ j, j < xs.length → kf i ≥ kf j ∧ (j < i → kf i > kf j)) → Inv X pins σ H s' → R (.ok (.ret v)) s') :
    ∀ (r j i : Nat) (s : Shared) (xb : V) (vb : Value) (tb : Tok) (c : Nat), xs.length - (j + 1) = r → j + 1 ≤ xs.length → Inv X pins σ H s → s.heap.get? q = some fo →
      s.heap.get? S = some (seqObj "list" #[vb, .int (kf i) tb] c) → s.heap.IsListIter I l (j + 1) → xs[i]? = some xb → RelV xb vb → i ≤ j → (∀ j', j' ≤ j → kf i ≥ kf j' ∧ (j' < i → kf i > kf j')) →
      codeAny (model X.prog X.w) X.A (.builtin "max.loop" ⟨[.ref I, .ref q, .ref S], kw⟩) R s := by
  have hname : (toString "max" ++ toString ".loop" : String) = "max.loop" := by decide
  intro r
  induction r with
  | zero =>
    intro j i s xb vb tb c hr hj J hfo hS hit hxb rb hij hbest
    obtain ⟨its, rv, hls⟩ := hl s J
    have hlen := rv.length
    have W := Walks.list (prog := X.prog) (w := X.w) (A := X.A.in1) hh I l hlI its.toArray
    have hsz : its.toArray.size = j + 1 := by rw [List.size_toArray]; omega
    refine codeAny_builtin PySem.F.entry_max_loop ?_
    rw [Around.under_plainId PySem.F.plain_max_loop _]
    show wpAny _ X.A.in1 (seqItems? (.ref S) >>= _) _ _ _
    refine wpAny_bind (wpAny_seqItems hS rfl ?_)
    show wpAny _ X.A.in1 (tryCatch (pyNext (.ref I)) _ >>= _) _ _ _
    refine wpAny_bind (wpAny_tryCatch (W.done _ _ _ ⟨by rw [hsz]; exact hit, hls⟩ fun h' tk' hk' => ?_))
    have hS' := hk' S _ (by simpa using hSI) hS
    have J1 : Inv X pins σ H { s with heap := h', toks := tk' } := oI.turned J fun b o hb e => hk' b o (by simpa using hb) e
    have s1 := Heap.SameBut.update h' S (Obj.mapSeq fun _ => (#[] : Array Value))
    show wpAny _ X.A.in1 (updateSeq S (fun _ => #[]) >>= _) _ _ _
    refine wpAny_bind ?_
    refine wpAny_updateSeq hS' rfl (wpAny_bind (wpAny_letGo (wpAny_pure ?_)))
    exact hR i xb vb _ hxb rb (fun j' hj' => hbest j' (by omega)) (oS.turned (t' := tk') J1 fun b o hb e => (s1.2 b hb).trans e)
  | succ r ih =>
    intro j i s xb vb tb c hr hj J hfo hS hit hxb rb hij hbest
    obtain ⟨its, rv, hls⟩ := hl s J
    have hlen := rv.length
    have W := Walks.list (prog := X.prog) (w := X.w) (A := X.A.in1) hh I l hlI its.toArray
    have hsz : its.toArray.size = its.length := List.size_toArray ..
    have hlt : j + 1 < its.length := by omega
    refine codeAny_builtin PySem.F.entry_max_loop ?_
    rw [Around.under_plainId PySem.F.plain_max_loop _]
    show wpAny _ X.A.in1 (seqItems? (.ref S) >>= _) _ _ _
    refine wpAny_bind (wpAny_seqItems hS rfl ?_)
    show wpAny _ X.A.in1 (tryCatch (pyNext (.ref I)) _ >>= _) _ _ _
    refine wpAny_bind (wpAny_tryCatch (W.item (j + 1) _ _ _ (by rw [hsz]; exact hlt) ⟨hit, hls⟩ fun v h' tk' hP hst' hk' => ?_))
    have hv : its[j + 1]? = some v := by simpa using hP
    obtain ⟨x, hx⟩ : ∃ x, xs[j + 1]? = some x := ⟨_, List.getElem?_eq_getElem (by omega)⟩
    have rx : RelV x v := by
      obtain ⟨u, hu, ru⟩ := rv.get hx
      rw [hv] at hu
      cases hu
      exact ru
    have J1 : Inv X pins σ H { s with heap := h', toks := tk' } := oI.turned J fun b o hb e => hk' b o (by simpa using hb) e
    have hfo1 := hk' q _ (by simpa using hqI) hfo
    have hS1 := hk' S _ (by simpa using hSI) hS
    obtain ⟨oI', hoI', hoc, hod⟩ := id hst'.1
    show wpAny _ X.A.in1 (tryCatch (holding [v] (call (.ref q) [v])) _ >>= _) _ _ _
    refine wpAny_bind (wpAny_tryCatch (wpAny_holding (wpAny_mono (turn (j + 1) x v hx rx _ J1 hfo1) (fun y s'' he => ?_) fun _ _ hF => hF.elim)))
    obtain ⟨t2, rfl, J2, kp⟩ := he
    have hS2 := kp S _ oS.no oS.fr hS1
    have hI2 := kp I _ oI.no oI.fr hoI'
    have hfo2 := kp q _ hq hqf hfo1
    have hit2 : s''.heap.IsListIter I l (j + 1 + 1) := ⟨oI', hI2, hoc, hod⟩
    show wpAny _ X.A.in1 (tryCatch (holding [v, .int (kf (j + 1)) t2] (richCompare .Gt (.int (kf (j + 1)) t2) (.int (kf i) tb) >>= _)) _ >>= _) _ _ _
    refine wpAny_bind (wpAny_tryCatch (wpAny_holding (wpAny_bind (CmpOf.ints_gt (prog := X.prog) (w := X.w) (A := X.A.in1) (P := fun i v => ∃ t, v = .int (kf i) t) kf (fun i v h => h) (j + 1) i _ _ _ _ _ ⟨t2, rfl⟩ ⟨tb, rfl⟩ ?_))))
    refine wpAny_bind (wpAny_holding (wpAny_truthy_bool ?_))
    refine wpAny_bind (wpAny_letGo (wpAny_pure ?_))
    by_cases hb' : kf (j + 1) > kf i
    · have s1 := Heap.SameBut.update s''.heap S (Obj.mapSeq fun _ => #[v, .int (kf (j + 1)) t2])
      obtain ⟨c2, hc2⟩ : ∃ c2, (s''.heap.update S (Obj.mapSeq fun _ => #[v, .int (kf (j + 1)) t2])).get? S = some (seqObj "list" #[v, .int (kf (j + 1)) t2] c2) := ⟨_, get?_update_seq hS2 fun _ => #[v, .int (kf (j + 1)) t2]⟩
      simp only [hb', decide_true, if_true]
      refine wpAny_bind ?_
      refine wpAny_updateSeq hS2 rfl (wpAny_bind (wpAny_letGo ?_))
      rw [hname]
      refine wpAny_pure ⟨plainId_quiet PySem.F.plain_max_loop _, ih (j + 1) (j + 1) _ x v t2 c2 (by omega) (by omega) (oS.turned (t' := s''.toks) J2 fun b o hb e => (s1.2 b hb).trans e) ((s1.2 q hqS).trans hfo2) hc2 ⟨oI', (s1.2 I hSI.symm).trans hI2, hoc, hod⟩ hx rx (Nat.le_refl _) fun j' hj' => ?_⟩
      by_cases e : j' = j + 1
      · subst e
        exact ⟨by omega, fun _ => by omega⟩
      · have hb1 := hbest j' (by omega)
        have hb2 := hb1.1
        exact ⟨by omega, fun _ => by omega⟩
    · simp only [hb', decide_false, Bool.false_eq_true, if_false]
      refine wpAny_bind (wpAny_letGo ?_)
      rw [hname]
      refine wpAny_pure ⟨plainId_quiet PySem.F.plain_max_loop _, ih (j + 1) i _ xb vb tb c (by omega) (by omega) J2 hfo2 hS2 hit2 hxb rb (by omega) fun j' hj' => ?_⟩
      by_cases e : j' = j + 1
      · subst e
        exact ⟨by omega, fun _ => by omega⟩
      · exact hbest j' (by omega)
end

section
variable {X : Cx} {pins : List (Addr × Obj)} {σ : L2.St} {H : Hp} {l q : Addr} {fo : Obj} {xs : List V} {s : Shared} {Q : VK} {E : Value → Shared → Prop}
theorem mx_call (I : Inv X pins σ H s) (hh : X.A.handled = none) (hl : SqL X.K H l xs) (hq : H q = none) (hqf : q ∉ frs X.stack) (hfo : s.heap.get? q = some fo)
    (h0 : xs = [] → Q .non H)
    (h1 : xs ≠ [] → ∃ kf : Nat → Int, (∀ (i : Nat) (x : V) (v : Value), xs[i]? = some x → RelV x v → ∀ s', Inv X pins σ H s' → s'.heap.get? q = some fo →
      wpAny (model X.prog X.w) X.A.in1 (call (.ref q) [v]) (fun r s'' => ∃ t, r = .int (kf i) t ∧ Inv X pins σ H s'' ∧ Kp X H s' s'') (fun _ _ => False) s') ∧
      ∀ i x, xs[i]? = some x → (∀ j, j < xs.length → kf i ≥ kf j ∧ (j < i → kf i > kf j)) → Q x H) :
    wpAny (model X.prog X.w) X.A (call (.builtin "max") [.ref l] [(Str.ofString "key", .ref q), (Str.ofString "default", .none)]) (EP X pins σ Q) E s := by
  have hname : (toString "max" ++ toString ".loop" : String) = "max.loop" := by decide
  have hls : ∀ s', Inv X pins σ H s' → ∃ its : List Value, Vals xs its ∧ s'.heap.IsList l its.toArray := fun s' I' => by
    obtain ⟨its, rv, p, _⟩ := I'.list hl
    exact ⟨its, rv, p.isList⟩
  obtain ⟨its, rv, hl0⟩ := hls s I
  have hlen := rv.length
  obtain ⟨ol, hol, _⟩ := id hl0
  have hll : l < s.heap.objs.size := Heap.lt_size hol
  have hql : q < s.heap.objs.size := Heap.lt_size hfo
  refine kmk_tree PySem.F.kind_max PySem.F.plain_max PySem.F.entry_max (mx_key _ _ _) ?_
  show wpAny _ X.A.in1 (Builtin.Builtins.bindParams "max" ["key", "default"] 0 ⟨[], [(Str.ofString "key", .ref q), (Str.ofString "default", .none)]⟩ >>= _) _ _ s
  refine wpAny_bind (wpAny_of_eq (show Builtin.Builtins.bindParams "max" ["key", "default"] 0 ⟨[], [(Str.ofString "key", .ref q), (Str.ofString "default", .none)]⟩ = pure [some (.ref q), some .none] from rfl) ?_)
  refine wpAny_bind (wpAny_pure ?_)
  refine wpAny_bind (wpAny_pyIter_list hl0 ?_)
  refine wpAny_bind (wpAny_newList ?_ (Nat.zero_le _))
  rw [hname]
  have hS : (s.heap.push { cls := .type "list_iterator", data := .fields #[.ref l, .int 0 0] }).objs.size = s.heap.objs.size + 1 := size_push' ..
  have oI : Own X pins H s.heap.objs.size := own_new I (Nat.le_refl _)
  have oS : Own X pins H (s.heap.push { cls := .type "list_iterator", data := .fields #[.ref l, .int 0 0] }).objs.size := own_new I (by rw [hS]; exact Nat.le_succ _)
  have hlI : l ≠ s.heap.objs.size := Nat.ne_of_lt hll
  have hqI : q ≠ s.heap.objs.size := Nat.ne_of_lt hql
  have hlS : l ≠ (s.heap.push { cls := .type "list_iterator", data := .fields #[.ref l, .int 0 0] }).objs.size := by rw [hS]; exact Nat.ne_of_lt (Nat.lt_succ_of_lt hll)
  have hqS : q ≠ (s.heap.push { cls := .type "list_iterator", data := .fields #[.ref l, .int 0 0] }).objs.size := by rw [hS]; exact Nat.ne_of_lt (Nat.lt_succ_of_lt hql)
  have hSI : (s.heap.push { cls := .type "list_iterator", data := .fields #[.ref l, .int 0 0] }).objs.size ≠ s.heap.objs.size := by rw [hS]; exact Nat.ne_of_gt (Nat.lt_succ_self _)
  refine wpAny_pure ⟨plainId_quiet PySem.F.plain_max_loop _, ?_⟩
  have kp0 : ∀ b o, s.heap.get? b = some o → ((s.heap.push { cls := .type "list_iterator", data := .fields #[.ref l, .int 0 0] }).push (seqObj "list" #[] 0)).get? b = some o := fun b o e => Heap.get?_push_of_some _ (Heap.get?_push_of_some _ e)
  have gI : ((s.heap.push { cls := .type "list_iterator", data := .fields #[.ref l, .int 0 0] }).push (seqObj "list" #[] 0)).get? s.heap.objs.size = some { cls := .type "list_iterator", data := .fields #[.ref l, .int 0 0] } :=
    Heap.get?_push_of_some _ (Heap.get?_push_size _ rfl)
  have gS : ((s.heap.push { cls := .type "list_iterator", data := .fields #[.ref l, .int 0 0] }).push (seqObj "list" #[] 0)).get? (s.heap.push { cls := .type "list_iterator", data := .fields #[.ref l, .int 0 0] }).objs.size = some (seqObj "list" #[] 0) := Heap.get?_push_size _ rfl
  have J0 : Inv X pins σ H { s with heap := (s.heap.push { cls := .type "list_iterator", data := .fields #[.ref l, .int 0 0] }).push (seqObj "list" #[] 0) } := I.kept (t' := s.toks) kp0
  have W := Walks.list (prog := X.prog) (w := X.w) (A := X.A.in1) hh s.heap.objs.size l hlI its.toArray
  have hsz : its.toArray.size = its.length := List.size_toArray ..
  have hl1 : ((s.heap.push { cls := .type "list_iterator", data := .fields #[.ref l, .int 0 0] }).push (seqObj "list" #[] 0)).IsList l its.toArray := by
    obtain ⟨o, e, r⟩ := hl0
    exact ⟨o, kp0 _ _ e, r⟩
  refine codeAny_builtin PySem.F.entry_max_loop ?_
  rw [Around.under_plainId PySem.F.plain_max_loop _]
  show wpAny _ X.A.in1 (seqItems? (.ref _) >>= _) _ _ _
  refine wpAny_bind (wpAny_seqItems gS rfl ?_)
  show wpAny _ X.A.in1 (tryCatch (pyNext (.ref s.heap.objs.size)) _ >>= _) _ _ _
  by_cases hne : xs = []
  · have h00 : its.toArray.size = 0 := by rw [hsz, ← hlen, hne]; rfl
    refine wpAny_bind (wpAny_tryCatch (W.done _ _ _ ⟨by rw [h00]; exact ⟨_, gI, rfl, rfl⟩, hl1⟩ fun h' tk' hk' => ?_))
    have J1 := Own.turned (h' := h') (t' := tk') oI J0 fun b o hb e => hk' b o (by simpa using hb) e
    refine wpAny_bind (wpAny_rule (wpAny_pure ?_))
    exact ⟨.non, H, J1, rfl, h0 hne⟩
  · obtain ⟨kf, turn, hQ⟩ := h1 hne
    have hpos : 0 < its.length := by
      rw [← hlen]
      exact List.length_pos_iff.mpr hne
    refine wpAny_bind (wpAny_tryCatch (W.item 0 _ _ _ (by rw [hsz]; exact hpos) ⟨⟨_, gI, rfl, rfl⟩, hl1⟩ fun v h' tk' hP hst' hk' => ?_))
    have hv : its[0]? = some v := by simpa using hP
    obtain ⟨x, hx⟩ : ∃ x, xs[0]? = some x := ⟨_, List.getElem?_eq_getElem (by omega)⟩
    have rx : RelV x v := by
      obtain ⟨u, hu, ru⟩ := rv.get hx
      rw [hv] at hu
      cases hu
      exact ru
    obtain ⟨oI', hoI', hoc, hod⟩ := id hst'.1
    have J1 := Own.turned (h' := h') (t' := tk') oI J0 fun b o hb e => hk' b o (by simpa using hb) e
    have hfo1 := hk' q _ (by simpa using hqI) (kp0 _ _ hfo)
    have hS1 := hk' _ _ (by simpa using hSI) gS
    show wpAny _ X.A.in1 (tryCatch (holding [v] (call (.ref q) [v])) _ >>= _) _ _ _
    refine wpAny_bind (wpAny_tryCatch (wpAny_holding (wpAny_mono (turn 0 x v hx rx _ J1 hfo1) (fun y s'' he => ?_) fun _ _ hF => hF.elim)))
    obtain ⟨t2, rfl, J2, kp⟩ := he
    have hS2 := kp _ _ oS.no oS.fr hS1
    have hI2 := kp _ _ oI.no oI.fr hoI'
    have hfo2 := kp q _ hq hqf hfo1
    have s1 := Heap.SameBut.update s''.heap (s.heap.push { cls := .type "list_iterator", data := .fields #[.ref l, .int 0 0] }).objs.size (Obj.mapSeq fun _ => #[v, .int (kf 0) t2])
    obtain ⟨c2, hc2⟩ : ∃ c2, (s''.heap.update (s.heap.push { cls := .type "list_iterator", data := .fields #[.ref l, .int 0 0] }).objs.size (Obj.mapSeq fun _ => #[v, .int (kf 0) t2])).get? (s.heap.push { cls := .type "list_iterator", data := .fields #[.ref l, .int 0 0] }).objs.size = some (seqObj "list" #[v, .int (kf 0) t2] c2) := ⟨_, get?_update_seq hS2 fun _ => #[v, .int (kf 0) t2]⟩
    show wpAny _ X.A.in1 (updateSeq (s.heap.push { cls := .type "list_iterator", data := .fields #[.ref l, .int 0 0] }).objs.size (fun _ => #[v, .int (kf 0) t2]) >>= _) _ _ _
    refine wpAny_bind ?_
    refine wpAny_updateSeq hS2 rfl ?_
    rw [hname]
    refine wpAny_pure ⟨plainId_quiet PySem.F.plain_max_loop _, mx_loop (σ := σ) kf hh hls oI oS hlI hlS hSI hqI hqS hq hqf turn (fun i x v s' e1 e2 e3 e4 => ⟨x, H, e4, e2, hQ i x e1 e3⟩) _ 0 0 _ x v t2 c2 rfl (by omega) (oS.turned (t' := s''.toks) J2 fun b o hb e => (s1.2 b hb).trans e) ((s1.2 q hqS).trans hfo2) hc2 ⟨oI', (s1.2 _ hSI.symm).trans hI2, hoc, hod⟩ hx rx (Nat.le_refl _) fun j' hj' => ?_⟩
    have e : j' = 0 := by omega
    subst e
    exact ⟨by omega, fun h => absurd h (Nat.lt_irrefl _)⟩
end
end K29
/-! text K29Lam -/
namespace K29
open PySem PySem.Spec PyProof.Rows L2 LamX
/-! ### a lambda of one parameter a; all its other names are captured or global -/
structure LamP (sc scope : Scope) (a : Str) : Prop where
  kind : scope.kind = .function
  co : scope.isCoroutine = false
  gen : scope.isGenerator = false
  nocell : ∀ y ∈ scope.names, y.2 ≠ .cell
  loc : ∀ y ∈ scope.names, y.2 = .local → y.1 = a
  par : scope.names.lookup a = some .local
  free : ∀ y ∈ scope.names, y.2 = .free → sc.names.lookup y.1 = some .cell ∨ sc.names.lookup y.1 = some .free
theorem LamP.has {X : Cx} {scope : Scope} {a : Str} (L : LamP X.env.scope scope a) (ok : X.Ok) : ∀ y ∈ scope.names, y.2 = .free → ∃ c, X.env.cells.lookup y.1 = some c := fun y hy e => by
  rcases L.free y hy e with k | k
  · exact ok.has _ (.inl k)
  · exact ok.has _ (.inr k)
section
variable {X : Cx} {pins : List (Addr × Obj)} {σ : L2.St} {H HZ : Hp} {s s1 : Shared}
theorem lamp_start {A : Around} {outer : List Env} {E : XK} {scope : Scope} {f c' : Addr} {h1 : Heap} {tk i : Nat} {a : Str} {x : V} {u : Value} (I : Inv X pins σ H s) (L : LamP X.env.scope scope a) (hN : X.N.Nodup) (hi : X.N[i]? = some a) (rx : RelV x u) (e0 : Env0 X.prog X.w X.K X.mg X.base A outer s1 HZ) (hd : A.handled = none)
    (kc : ∀ (c : Addr) (v : Option Value), H c = none → s.heap.IsCell c v → s1.heap.IsCell c v) (fc : ∀ (c : Addr) (v : Option Value), H c = none → s.heap.IsCell c v → HZ c = none)
    (hns : h1.Ns s1.heap.objs.size fun y => ([(a, u)] : List (Str × Value)).reverse.lookup y) (kp : ∀ b o, s1.heap.get? b = some o → h1.get? b = some o) :
    Inv (lamCx X A outer s1 HZ E scope f c') [] (σ.set i (some x)) HZ { s1 with heap := h1, toks := tk } := by
  have hfree := L.has I.ok
  have cm : ∀ {y c}, (cloFrom X.env.cells scope.names []).lookup y = some c → X.env.cells.lookup y = some c := fun {y c} e => by
    rcases cloFrom_mem (PySem.mem_of_lookup e) with hm | ⟨h1, h2⟩
    · cases hm
    · obtain ⟨c1, hc⟩ := hfree _ h1 rfl
      have hc : X.env.cells.lookup y = some c1 := hc
      have e2 : c = c1 := by
        rw [h2, hc] <;> rfl
      rw [e2]
      exact hc
  have look : ∀ {y}, scope.names.lookup y = some .free → ∃ c, (cloFrom X.env.cells scope.names []).lookup y = some c := fun {y} hl => by
    have hy : (y, NameKind.free) ∈ scope.names := PySem.mem_of_lookup hl
    exact mem_lookup (cloFrom_has (cells := X.env.cells) (acc := []) hy)
  have cellK : ∀ {c : Addr} {v : Option Value}, H c = none → s.heap.IsCell c v → h1.IsCell c v := fun {c v} n z => by
    obtain ⟨o, ho, hdd⟩ := kc c v n z
    exact ⟨_, kp _ _ ho, hdd⟩
  have noA : ∀ b : Addr, b ∉ (lamCx X A outer s1 HZ E scope f c').ex := fun b z => absurd (show b ∈ ([] : List Addr) from z) (by simp)
  refine ⟨⟨e0.mod, L.kind, rfl, rfl, Nat.le_refl _, fun y z c e1 e2 => I.ok.inj y z c (cm e1) (cm e2), fun y hy => ?_, fun y c z _ => ?_, fun _ => hd, Around.frames_deeper e0.frames, .inr ⟨rfl, rfl⟩, fun b z => absurd z (noA b), e0.bs, e0.bsz, fun b _ _ => noA b,
      fun b z => absurd z (noA b), e0.funs, e0.frf⟩,
    rfl, e0.bare, Un.kept kp, ⟨_, hns, fun j y v e1 e2 e3 => ?_⟩, fun y c e => ?_, e0.hok.fresh (Nat.le_refl _), fun y c e => ?_, fun q hq => absurd (show q ∈ ([] : List (Addr × Obj)) ++ [] from hq) (by simp), e0.hok.kept kp, ?_⟩
  · have hy : scope.names.lookup y = some .cell ∨ scope.names.lookup y = some .free := hy
    rcases hy with hy | hy
    · exact absurd rfl (L.nocell _ (PySem.mem_of_lookup hy))
    · exact look hy
  · have z : false = true := z
    cases z
  · have e3 : Vis scope y := e3
    have e1 : X.N[j]? = some y := e1
    by_cases hj : j = i
    · subst hj
      rw [hi] at e1
      cases e1
      by_cases hlt : j < σ.length
      · rw [List.getElem?_set_self hlt] at e2
        cases e2
        exact ⟨u, rx, .inl ⟨L.par, by simp⟩⟩
      · rw [List.getElem?_eq_none (by simpa using hlt)] at e2
        cases e2
    · rw [List.getElem?_set_ne (Ne.symm hj)] at e2
      rcases e3 with k | k | k
      · exact absurd (nodup_ix hN e1 (by have z : y = a := L.loc _ (PySem.mem_of_lookup k) rfl; rw [z]; exact hi)) hj
      · exact absurd rfl (L.nocell _ (PySem.mem_of_lookup k))
      · obtain ⟨m, hn, hl⟩ := I.loc
        have hvis : Vis X.env.scope y := (L.free _ (PySem.mem_of_lookup k) rfl).elim (fun k => .inr (.inl k)) (fun k => .inr (.inr k))
        obtain ⟨w', r, q⟩ := hl j y v e1 e2 hvis
        obtain ⟨c2, h2⟩ := look k
        refine ⟨w', r, .inr ⟨.inr k, c2, h2, ?_⟩⟩
        have c1 := cm h2
        rcases q with ⟨k', _⟩ | ⟨_, c3, e', z⟩
        · have k' : X.env.scope.names.lookup y = some .local := k'
          rcases L.free _ (PySem.mem_of_lookup k) rfl with k2 | k2 <;> rw [show X.env.scope.names.lookup y = _ from k2] at k' <;> cases k'
        · rw [c1] at e'
          cases e'
          exact cellK (I.freeC y _ c1) z
  · obtain ⟨w', z⟩ := I.cell y c (cm e)
    exact ⟨w', cellK (I.freeC y c (cm e)) z⟩
  · obtain ⟨v, z⟩ := I.cell y c (cm e)
    exact fc c v (I.freeC y c (cm e)) z
  · show (σ.set i (some x)).length = X.N.length
    rw [List.length_set]
    exact I.len
end

/-- max(xs, key=lambda a: body, default=None): the answer is the first item of the greatest key -/
def tMaxK (K : PySem.W.Frag) (T : List (Addr × Str)) (ix : Nat) (te tb : TE) : TE := fun σ H Q => te σ H fun x H1 => ∃ (l : Addr) (xs : List V), x = .ref l ∧ SqL K H1 l xs ∧ Tabs T H1 ∧ ∀ H2, ExtN H1 H2 → Tabs T H2 →
  (xs = [] → Q .non H2) ∧ (xs ≠ [] → ∃ kf : Nat → Int, (∀ i y, xs[i]? = some y → tb (σ.set ix (some y)) H2 (fun v H' => v = .int (kf i) ∧ H' = H2)) ∧ ∀ i y, xs[i]? = some y → (∀ j, j < xs.length → kf i ≥ kf j ∧ (j < i → kf i > kf j)) → Q y H2)
theorem ExtN.seq {K : PySem.W.Frag} {H H' : Hp} {a : Addr} {xs : List V} (e : ExtN H H') (h : SqL K H a xs) : SqL K H' a xs := by
  rcases h with (h | ⟨o, h⟩) | h
  · exact .inl (.inl (e _ _ h fun ps z => nomatch z))
  · exact .inl (.inr ⟨o, e _ _ h fun ps z => nomatch z⟩)
  · exact .inr h
section
variable {X : Cx}
theorem pe_maxkd {T : List (Addr × Str)} {c P : Addr} {k ix : Nat} {a : Str} {e : Expr} {te tb : TE} {params : Arguments} {body : Expr} {scope : Scope} {p lpos kp1 dp kp2 pos : Pos} {j : Nat} (hg : Gl X "max") (hm : X.mg "max" = none) (hc : X.calm = true) (he : PE X e te)
    (TB : TabB X.base X.mg c P) (hcode : X.env.code = .ref c) (hmT : (P, X.env.qual ++ "<lambda>") ∈ T) (hu : ∀ p ∈ T, p.1 = P → p.2 = X.env.qual ++ "<lambda>") (hr : Room (k + 2) X.A) (L : LamP X.env.scope scope a) (hN : X.N.Nodup) (hi : X.N[ix]? = some a) (hdef : defaultsOf params X.env = ([], []))
    (hbind : ∀ (q : Str) (cl : List (Str × Addr)) (pm cv ctv v : Value), bindArgs (PySem.W.kla_fn "<lambda>" q params body scope cl pm cv ctv) ⟨[v], []⟩ = pure [(a, v)])
    (hbody : ∀ (A : Around) (outer : List Env) (s : Shared) (H : Hp) (E : XK) (f c' : Addr), Room k (A.deeper (lamEnv X scope s.heap.objs.size f c')) → PE (lamCx X A outer s H E scope f c') body tb)
    (hs0 : starEach [e] X.env = (false, eval e X.env) :: starEach [] X.env := by rfl) (hse : backTo pos (starEach [e] X.env) = (false, eval e X.env) :: backTo pos (starEach [] X.env) := by rfl) (hpl : (backTo pos (starEach [e] X.env)).any (·.1) = false := by rfl) :
    PE X (.Call (.Name "max" p) [e] [⟨some "key", .Lambda params body scope lpos, kp1⟩, ⟨some "default", .Constant .none j dp, kp2⟩] pos) (tMaxK X.K T ix te tb) := by
  refine ⟨fun pins s σ H Q I h => ?_⟩
  refine wpAny_Call_Name_kw (ld_blt I hg hm boot_max ?_)
  have ha : PA X [e] (tCons te tNil) := pa_cons he pa_nil hs0
  refine PyProof.Rows.callWith_kw (thn (ha.run pos pins s σ H (fun vs H1 => match vs with
    | [x] => ∃ (l : Addr) (xs : List V), x = .ref l ∧ SqL X.K H1 l xs ∧ Tabs T H1 ∧ ∀ H2, ExtN H1 H2 → Tabs T H2 →
      (xs = [] → Q .non H2) ∧ (xs ≠ [] → ∃ kf : Nat → Int, (∀ i y, xs[i]? = some y → tb (σ.set ix (some y)) H2 (fun v H' => v = .int (kf i) ∧ H' = H2)) ∧ ∀ i y, xs[i]? = some y → (∀ j, j < xs.length → kf i ≥ kf j ∧ (j < i → kf i > kf j)) → Q y H2)
    | _ => False) I h) fun us s1 ⟨vs, H1, I1, r1, q1⟩ => ?_) hse hpl rfl rfl
  cases r1 with
  | nil => exact False.elim q1
  | cons rx r1 =>
    cases r1 with
    | cons _ _ => exact False.elim q1
    | nil =>
      obtain ⟨l, xs, rfl, hls, hT, h2⟩ := q1
      cases rx
      show wpAny _ _ (evalAll [(do let v ← eval (.Lambda params body scope lpos) X.env; standAt pos; pure v), (do let v ← eval (.Constant .none j dp) X.env; standAt pos; pure v)]) _ _ _
      refine wpAny_evalAll_cons (wpAny_bind (lam_make2 I1 TB hcode hmT hu hT hdef (L.has I1.ok) fun f c' pm ctv H2 s2 I2 eN T2 hf hfn hfr hco => ?_))
      refine wpAny_bind (wpAny_standAt (wpAny_pure ?_))
      refine wpAny_evalAll_cons (wpAny_bind (Constant_none (wpAny_bind (wpAny_standAt (wpAny_pure (wpAny_evalAll_nil ?_))))))
      obtain ⟨h3, h4⟩ := h2 H2 eN T2
      show wpAny _ _ (call (.builtin "max") [.ref l] [(Str.ofString "key", .ref f), (Str.ofString "default", .none)]) _ _ _
      refine mx_call I2 (I.ok.hd hc) (K29.ExtN.seq eN hls) hfn hfr hf h3 fun hne => ?_
      obtain ⟨kf, hb, hq⟩ := h4 hne
      refine ⟨kf, fun i y u hy ry s' I' hf' => ?_, hq⟩
      obtain ⟨⟨oc, ws, t, hoc, hdc, hvc⟩, _, _⟩ := I'.hok c' _ hco
      have rc : codeAny (model X.prog X.w) X.A.in1 (.call (.ref f) ⟨[u], []⟩) (CR (L2.CX X.prog X.w) X.stack X.prog X.w H2 s' (fun v H' => v = .int (kf i) ∧ H' = H2) (fun _ _ _ => False)) s' := by
        refine PySem.W.kla_callFunE (hr.in1).depth hf' rfl L.co L.gen rfl ⟨c', oc, ws, t, rfl, hoc, hdc, hvc⟩ ?_
        rw [hbind]
        refine wpAny_pure (wpAny_newFunctionEnv (fun y hy => L.nocell y hy) (fun z hz => ?_) (fun h1 hns hsb => ⟨I'.nolimit.fresh _ hsb, ?_⟩) L.kind)
        · obtain rfl : z = (a, u) := List.mem_singleton.mp hz
          exact L.par
        · show codeAny _ _ (.expr body (lamEnv X scope s'.heap.objs.size f c')) _ _
          have kp : ∀ b o, s'.heap.get? b = some o → h1.get? b = some o := fun b o e => hsb.extBut b o (Nat.ne_of_lt (Heap.lt_size e)) (Heap.get?_push_of_some _ e)
          have J : Inv (lamCx X X.A.in1 X.stack s' H2 (fun _ _ _ => False) scope f c') [] (σ.set ix (some y)) H2 { s' with heap := h1, toks := s'.toks + ([(a, u)] : List (Str × Value)).length } :=
            lamp_start I' L hN hi ry I'.env0.in1 (hr.in1).hd (fun _ _ _ z => z) (fun _ _ z _ => z) hns kp
          refine PySem.W.kla_codeExpr (wpAny_mono ((hbody _ _ s' H2 _ f c' ((hr.in1).deeper _)).run [] _ _ H2 _ J (hb i y hy)) (fun v s3 hq => ?_) fun e s3 hq => hq)
          obtain ⟨w', H', J', rv, q⟩ := hq
          exact ⟨w', H', J'.os, J'.bare, J'.base, J'.hok, rv, q⟩
      refine wpAny_call (codeAny_mono rc fun r s3 hq => ?_)
      cases r with
      | error e =>
        obtain ⟨_, _, _, _, _, _, _, _, _, _, _, _, z⟩ := hq
        exact z.elim
      | ok fl =>
        cases fl with
        | ret u' =>
          obtain ⟨v, H', os, bare, un, hok, rv, rfl, rfl⟩ := hq
          obtain ⟨t', rfl⟩ := rv
          exact ⟨t', rfl, I'.call' (ch := []) os un hok bare (fun b z => absurd z (by simp)), fun b o n hb e => un.keep b o e n hb (by simp)⟩
        | next => exact False.elim hq
        | brk => exact False.elim hq
        | cont => exact False.elim hq
end
end K29
/-! text K29P4 -/
namespace K29
open PySem PySem.Spec PyProof.Rows L2 LamX
theorem hu65 {k : Nat} {A : Around} (hr : Room k A) : A.units + 65 < cLine := by have := hr.un; omega
section
variable {P : Program} {w : World} {K : PySem.W.Frag} {mg : Str → Option Value} {base : Heap}
/-- .. with the place of its code object -/
theorem FB.ofC {x qual : Str} {params : Arguments} {body : List Stmt} {scope : Scope} {at_ : He.Defn} {N ps : List Str} {k : Nat} {sp : Sp} (F : ∃ fd, FunD K x qual params body scope [] [] (He.fAd K at_) fd ∧ Binds K fd ps []) (S : FnScope N ps scope) (len : ∀ vs H Q E, sp vs H Q E → vs.length = ps.length)
    (hbody : ∀ (A : Around) (outer : List Env) (s : Shared) (H : Hp) (vs : List V) (Q : VK) (E : XK), Room k (A.deeper (envOfC qual scope s.heap.objs.size (He.fAd K at_) (.ref (He.codeOf K at_)))) → sp vs H Q E →
      ∃ t, PSs (cxOf L2.CX0 P w K mg base N qual scope (He.fAd K at_) (.ref (He.codeOf K at_)) A outer s H E).nox body t ∧ t { nx := fun _ H' => Q .non H', rt := Q } (L2.start N vs) H) : FB P w K mg base (k + 1) (He.fAd K at_) ps sp := by
  obtain ⟨fd, F, b⟩ := F
  have kp := F.kp
  refine ⟨⟨fd, ?_, b⟩, kp⟩
  obtain ⟨oc, od, dV, kV, doc, pm, an, cdv, ct, osl, rfl, lk, hcd, _, _⟩ := F.ex
  obtain ⟨c, rfl⟩ := He.codeIn_ref hcd
  have e : He.codeOf K at_ = c := He.codeOf_eq lk rfl
  subst e
  refine fn_of lk hcd S len fun A outer s H vs Q E hr hsp => ?_
  obtain ⟨t, h1, h2⟩ := hbody A outer s H vs Q E hr hsp
  exact ⟨t, h1.nox, h2⟩
end
/-! ### last_writer -/
theorem wd_st (w : Wd) : decide (V.str w.s = V.str "stands") = decide (w = .st) := by cases w <;> decide +kernel
theorem wd_op (w : Wd) : decide (V.str w.s = V.str "open") = decide (w = .op) := by cases w <;> decide +kernel
/-- what the walks ask of a dealing -/
structure WfV (d : Ds) : Prop where
  en : d.word = .st → ∃ n, d.ended = some n
  tl : d.told.length ≤ 100
  tk : ∀ t ∈ d.told, kOk t.key
theorem wrote_ok {d : Ds} (h : WfV d) : ∀ k ∈ wrote d.told, kOk k := fun k hk => by
  obtain ⟨t, ht, rfl⟩ := List.mem_map.mp hk
  exact h.tk t (List.mem_filter.mp ht).1
def lmQ : Str := "Stepper.last_writer.<locals>.<lambda>"
def lmT (K : PySem.W.Frag) : List (Addr × Str) := [((He.cT K ("Stepper", some "last_writer")).2, lmQ)]
section
variable {P : Program} {w : World} {K : PySem.W.Frag} {mg : Str → Option Value} {base : Heap}
def sp_S_last_writer (K : PySem.W.Frag) : Sp := fun vs H Q _ => ∃ (p : Addr) (b : Bk) (ds : List Ds) (rows : List Row) (fp : List Addr) (kv : V) (key : Ky) (row : Nat), vs = [.ref p, kv, .int row] ∧ StAt K H p b ds rows fp ∧ FzD H kv (kyD key) ∧ kOk key ∧ (∀ d ∈ ds, WfV d) ∧ ds.length ≤ 100 ∧ Tabs (lmT K) H ∧
  ∀ H', Go (lmT K) No H H' → Q (snV (lastW ds key row)) H'
/-- the numbers so far -/
structure Nums (ds : List Ds) (key : Ky) (row i : Nat) (cs : List Nat) : Prop where
  c : ∀ j ∈ cs, j < i ∧ Cand ds key row j
  a : ∀ j, j < i → Cand ds key row j → j ∈ cs
  o : cs.Pairwise (· < ·)
theorem Nums.yes {ds : List Ds} {key : Ky} {row i : Nat} {cs : List Nat} (h : Nums ds key row i cs) (hc : Cand ds key row i) : Nums ds key row (i + 1) (cs ++ [i]) := by
  refine ⟨fun j hj => ?_, fun j hj hcj => ?_, ?_⟩
  · rcases List.mem_append.mp hj with hj | hj
    · exact ⟨Nat.lt_succ_of_lt (h.c j hj).1, (h.c j hj).2⟩
    · rw [List.mem_singleton.mp hj]
      exact ⟨Nat.lt_succ_self _, hc⟩
  · by_cases e : j = i
    · rw [e]
      simp
    · exact List.mem_append.mpr (.inl (h.a j (by omega) hcj))
  · rw [List.pairwise_append]
    refine ⟨h.o, List.pairwise_singleton _ _, fun x hx y hy => ?_⟩
    rw [List.mem_singleton.mp hy]
    exact (h.c x hx).1
theorem Nums.no {ds : List Ds} {key : Ky} {row i : Nat} {cs : List Nat} (h : Nums ds key row i cs) (hc : ¬ Cand ds key row i) : Nums ds key row (i + 1) cs := by
  refine ⟨fun j hj => ⟨Nat.lt_succ_of_lt (h.c j hj).1, (h.c j hj).2⟩, fun j hj hcj => ?_, h.o⟩
  by_cases e : j = i
  · rw [e] at hcj
    exact absurd hcj hc
  · exact h.a j (by omega) hcj
theorem Nums.len {ds : List Ds} {key : Ky} {row i : Nat} {cs : List Nat} (h : Nums ds key row i cs) : cs.length ≤ i := by
  have h2 : cs.Nodup := h.o.imp fun h => Nat.ne_of_lt h
  have h3 : cs ⊆ List.range i := fun j hj => List.mem_range.mpr (h.c j hj).1
  have := h2.length_le_of_subset h3
  rwa [List.length_range] at this
theorem Nums.isL {ds : List Ds} {key : Ky} {row : Nat} {cs : List Nat} (h : Nums ds key row ds.length cs) {i j : Nat} (hi : cs[i]? = some j) (hb : ∀ i', i' < cs.length → endAt ds j ≥ endAt ds (cs.getD i' 0) ∧ (i' < i → endAt ds j > endAt ds (cs.getD i' 0))) : IsL ds key row ds.length (some j) := by
  have hj := h.c j (List.mem_of_getElem? hi)
  refine ⟨hj.1, hj.2, fun m hm hcm => ?_⟩
  obtain ⟨k, hk, e⟩ := List.mem_iff_getElem.mp (h.a m hm hcm)
  have e2 : cs.getD k 0 = m := by rw [List.getD_eq_getElem?_getD, List.getElem?_eq_getElem hk, e]; rfl
  obtain ⟨h1, h2⟩ := hb k hk
  rw [e2] at h1 h2
  refine ⟨h1, fun hlt => h2 ?_⟩
  obtain ⟨hi1, hi2⟩ := List.getElem?_eq_some_iff.mp hi
  rcases Nat.lt_trichotomy k i with z | z | z
  · exact z
  · subst z
    omega
  · have := (List.pairwise_iff_getElem.mp h.o) i k hi1 hk z
    omega
theorem lm_free : ∀ y ∈ ([("number", NameKind.local), ("self", NameKind.free)] : List (Str × NameKind)), y.2 = .free → (defScope s_S_last_writer).names.lookup y.1 = some .cell ∨ (defScope s_S_last_writer).names.lookup y.1 = some .free := by decide +kernel
theorem b_S_last_writer (t : Tp K mg) (TB : TabB base mg (He.cT K ("Stepper", some "last_writer")).1 (He.cT K ("Stepper", some "last_writer")).2) : FB P w K mg base 3 (He.fAd K ("Stepper", some "last_writer")) p_S_last_writer (sp_S_last_writer K) := by
  refine FB.ofC t.f_S_last_writer sc_S_last_writer (fun vs H Q E ⟨_, _, _, _, _, _, _, _, h, _⟩ => by rw [h]; rfl) (fun A outer s H vs Q E hr h => ?_)
  obtain ⟨p, b, ds, rows, fp, kv, key, row, rfl, hS, hk, ok, hW, hlen, hT, hq⟩ := h
  have nd := sc_S_last_writer.nd
  have hu := hu65 hr
  refine ⟨_, pss_cons (ps_set (i := 3) nd rfl (Or.inl rfl) (pe_lst pa_nil))
    (pss_cons (ps_for PassesOwn.never rfl (pi_enum (by rfl) t.b_enumerate (pa_cons (pe_fld (pv 0) rfl) pa_nil)) (pg_tup rfl (pgs_cons (pg_name (i := 4) nd rfl (Or.inl rfl)) (pgs_cons (pg_name (i := 5) nd rfl (Or.inl rfl)) pgs_nil)))
      (pss_one (ps_if (PW.pt (pw_and (pt_cmpR op_eq (pe_fld (pv 5) rfl) pe_str (nomark _)) (pw_and (pt_cmpR op_lt (pe_fld (pv 5) rfl) (pv 2) (nomark _)) (pw_and1 (pt_cmpR (op_inD hu) (pv 1) (pe_m0 t.c_Deal t.m_D_written (b_D_written (T := lmT K) t) hr (pv 5)) (by rfl))))))
        (pss_one (ps_expr (pe_bm PySem.F.plainAttrs_list PySem.F.slot_list_append PySem.F.type_list_append mt_append (pv 3) (pa_cons (pv 4) pa_nil)))) pss_nil)))
    (pss_one (ps_ret (pe_maxkd (T := lmT K) (ix := 4) (k := 0) (tb := tFld K (tOp (rIxL K) (tFld K (tVar 0) "deals") (tVar 4)) "ended") (by rfl) t.b_max rfl (pv 3) TB rfl (List.mem_singleton.mpr (by rfl)) (fun z hz _ => by rw [List.mem_singleton.mp hz]; rfl) hr ⟨rfl, rfl, rfl, by decide +kernel, by decide +kernel, rfl, lm_free⟩ nd rfl rfl (fun _ _ _ _ _ _ => rfl)
      (fun A outer s H E f c' _ => pe_fld (pe_ix ix_list (pe_fld (pv 0) rfl) (pv 4) (fun _ _ => rfl)) rfl))))), ?_⟩
  obtain ⟨dx, ob, Ld, Lg, qs, lg, S, rfl⟩ := hS
  have hlq : qs.length = ds.length := S.dl.1
  refine ⟨by show 0 ≤ sizeLine; decide, fun D hD => ?_⟩
  have g1 : Go (lmT K) No H (upd H D (.lst [])) := Go.refl.add hD
  have d1 : upd H D (.lst []) D = some (.lst []) := upd_same
  have T1 := g1.tb hT
  generalize upd H D (.lst []) = H1 at g1 d1 T1
  have S1 := S.go0 g1
  refine ⟨_, rfl, p, _, dx, _, _, rfl, S1.o, t.c_Stepper, t.n_deals, sFl_deals, _, _, rfl, .inl (.inl S1.ld), ?_⟩
  have nD : ∀ a ∈ fpS p Ld Lg qs, a ≠ D := fun a ha => by
    obtain ⟨o, e, m⟩ := S.tr a ha
    exact ne_of_none e hD
  refine for_enum (K := K) (a := Ld) (xs := qs.map fun q => .ref q.1) (fun i σ H2 => Go (lmT K) No H H2 ∧ (∃ z1 z2, σ = [some (.ref p), some kv, some (.int row), some (.ref D), z1, z2]) ∧ ∃ cs : List Nat, H2 D = some (.lst (cs.map fun j => .int (j : Nat))) ∧ Nums ds key row i cs)
    ⟨g1, ⟨none, none, rfl⟩, [], d1, ⟨fun j hj => by simp at hj, fun j hj => by omega, .nil⟩⟩ (fun i σ H2 _ c => .inl (.inl (c.1.lst S.ld id))) ?_ ?_
  · rintro i x r σ H2 hi ⟨g, ⟨z1, z2, rfl⟩, cs, hc, N⟩ hr2
    obtain ⟨q, hqi, rfl⟩ : ∃ q, qs[i]? = some q ∧ x = .ref q.1 := by
      rw [List.getElem?_map] at hi
      cases e : qs[i]? with
      | none =>
        rw [e] at hi
        cases hi
      | some q =>
        rw [e] at hi
        exact ⟨q, rfl, (Option.some.inj hi).symm⟩
    obtain ⟨d, hd, D2⟩ := (S.go0 g).dl.atL hqi
    have dm := List.mem_of_getElem? hd
    have g3 := g.add (o := .tup [.int (i : Nat), .ref q.1]) hr2
    have D3 := D2.go (T := lmT K) (M := No) (Go.refl.add (o := .tup [.int (i : Nat), .ref q.1]) hr2) id id
    have c3 : upd H2 r (.tup [.int (i : Nat), .ref q.1]) D = some (.lst (cs.map fun j => .int (j : Nat))) := upd_old hc hr2
    have t3 : upd H2 r (.tup [.int (i : Nat), .ref q.1]) r = some (.tup [.int (i : Nat), .ref q.1]) := upd_same
    generalize upd H2 r (.tup [.int (i : Nat), .ref q.1]) = H3 at g3 D3 c3 t3
    obtain ⟨dy, t1, t2, kb, ah, xs, h1, h2, h3, h4⟩ := id D3
    refine ⟨r, _, rfl, SqT.of t3, rfl, _, _, rfl, _, _, rfl, rfl, ?_⟩
    have nx : ¬ Cand ds key row i → Go (lmT K) No H H3 ∧ (∃ z1 z2, [some (.ref p), some kv, some (.int row), some (.ref D), some (.int (i : Nat)), some (.ref q.1)] = [some (.ref p), some kv, some (.int (row : Int)), some (.ref D), z1, z2]) ∧ ∃ cs : List Nat, H3 D = some (.lst (cs.map fun j => .int (j : Nat))) ∧ Nums ds key row (i + 1) cs :=
      fun hn => ⟨g3, ⟨_, _, rfl⟩, cs, c3, N.no hn⟩
    refine ⟨_, rfl, q.1, _, dy, _, _, rfl, h1, t.c_Deal, t.n_word, dFl_word, rfl, _, rfl, ?_⟩
    rw [wd_st]
    by_cases e1 : d.word = .st
    · rw [decide_eq_true e1]
      refine iteT ?_
      obtain ⟨n, en⟩ := (hW d dm).en e1
      refine ⟨_, rfl, q.1, _, dy, _, _, rfl, h1, t.c_Deal, t.n_ended, dFl_ended, _, rfl, (n : Int), (row : Int), by rw [en]; rfl, rfl, _, rfl, ?_⟩
      by_cases e2 : n < row
      · rw [decide_eq_true (by omega)]
        refine iteT ?_
        refine ⟨_, rfl, _, rfl, q.1, dy, _, rfl, h1, dFl_m3, q, b, d, rfl, D3, (hW d dm).tl, fun v H4 g4 f4 => ?_⟩
        refine ⟨kyD key, _, FzD.dp _ _ ((hk.go g3).go g4), FzD.dp _ _ f4, kyD_shaped ok, kyDs_shaped (wrote_ok (hW d dm)), _, rfl, ?_⟩
        rw [kyDs_any]
        have c4 := g4.lst c3 id
        have g5 := g3.thn0 g4
        by_cases e3 : key ∈ wrote d.told
        · rw [decide_eq_true e3]
          refine iteT ⟨_, rfl, .inl ⟨rfl, _, .inl (.inl c4)⟩, _, rfl, D, _, _, rfl, rfl, c4, ?_, g5.set c4 trivial (.inr (Nw.of hD)), ⟨_, _, rfl⟩, cs ++ [i], ?_, N.yes ⟨d, hd, ?_⟩⟩
          · have := N.len
            have il := (List.getElem?_eq_some_iff.mp hd).1
            rw [List.length_map]
            exact sm (by omega)
          · rw [upd_same, List.map_append]
            rfl
          · unfold isCand endOf
            simp [e1, en, e2, e3]
        · rw [decide_eq_false e3]
          refine iteF ⟨g5, ⟨_, _, rfl⟩, cs, c4, N.no fun ⟨d', hd', hc'⟩ => ?_⟩
          rw [hd] at hd'
          cases hd'
          unfold isCand at hc'
          simp [e3] at hc'
      · rw [decide_eq_false (by omega)]
        refine iteF (iteF (nx fun ⟨d', hd', hc'⟩ => ?_))
        rw [hd] at hd'
        cases hd'
        unfold isCand endOf at hc'
        simp [en, e2] at hc'
    · rw [decide_eq_false e1]
      refine iteF (iteF (nx fun ⟨d', hd', hc'⟩ => ?_))
      rw [hd] at hd'
      cases hd'
      unfold isCand at hc'
      simp [e1] at hc'
  · rintro σ H2 ⟨g, ⟨z1, z2, rfl⟩, cs, hc, N⟩
    rw [List.length_map, hlq] at N
    refine ⟨_, rfl, D, _, rfl, .inl (.inl hc), g.tb hT, fun H3 e3 T3 => ?_⟩
    have g3 : Go (lmT K) No H H3 := g.thn0 (Go.ext e3 T3)
    have S3 := S.go0 g3
    refine ⟨fun h0 => ?_, fun hne => ⟨fun i => (endAt ds (cs.getD i 0) : Nat), fun i y hy => ?_, fun i y hy hb => ?_⟩⟩
    · have e : cs = [] := List.map_eq_nil_iff.mp h0
      subst e
      have r := lastW_of (r := none) (ds := ds) (key := key) (row := row) fun j hj hcj => by
        have := N.a j hj hcj
        cases this
      rw [show V.non = snV none from rfl, r]
      exact hq _ g3
    · rw [List.getElem?_map] at hy
      cases e : cs[i]? with
      | none =>
        rw [e] at hy
        cases hy
      | some j =>
        rw [e] at hy
        cases hy
        obtain ⟨hj, d, hd, hcd⟩ := N.c j (List.mem_of_getElem? e)
        obtain ⟨q, hqj, D3⟩ := S3.dl.at hd
        obtain ⟨dy, t1, t2, kb, ah, xs, h1, h2, h3, h4⟩ := id D3
        have w1 : d.word = .st := by
          unfold isCand at hcd
          simp at hcd
          exact hcd.1
        obtain ⟨n, en⟩ := (hW d (List.mem_of_getElem? hd)).en w1
        refine ⟨_, rfl, p, _, dx, _, _, rfl, S3.o, t.c_Stepper, t.n_deals, sFl_deals, _, rfl, Ld, _, _, _, rfl, rfl, .inl (.inl S3.ld), atI_nat (by rw [List.getElem?_map, hqj]; rfl), q.1, _, dy, _, _, rfl, h1, t.c_Deal, t.n_ended, dFl_ended, ?_, rfl⟩
        rw [en]
        have ei : cs.getD i 0 = j := by rw [List.getD_eq_getElem?_getD, e]; rfl
        show V.int (n : Int) = V.int (endAt ds (cs.getD i 0) : Nat)
        rw [ei, endAt_some hd]
        unfold endOf
        rw [en]
        rfl
    · rw [List.getElem?_map] at hy
      cases e : cs[i]? with
      | none =>
        rw [e] at hy
        cases hy
      | some j =>
        rw [e] at hy
        cases hy
        have ei : cs.getD i 0 = j := by rw [List.getD_eq_getElem?_getD, e]; rfl
        have r := lastW_of (r := some j) (N.isL e fun i' hi' => by
          have := hb i' (by rw [List.length_map]; exact hi')
          simp only [ei] at this
          exact ⟨by have := this.1; omega, fun hlt => by have := this.2 hlt; omega⟩)
        show Q (snV (some j)) H3
        rw [r]
        exact hq _ g3
end
end K29
/-! text K29P5 -/
namespace K29
open PySem PySem.Spec PyProof.Rows L2 LamX
/-! ### how a stepper's parts change -/
section
variable {K : PySem.W.Frag} {T : List (Addr × Str)} {M : Addr → Prop} {H H' : Hp} {b : Bk} {p dx Ld Lg : Addr} {ob v : V} {qs : List (Addr × Addr)} {lg : List V} {ds : List Ds} {rows : List Row} {fp : List Addr} {i : Nat} {q : Addr × Addr} {d d' : Ds}
theorem fpS_snoc : fpS p Ld Lg (qs ++ [q]) = fpS p Ld Lg qs ++ [q.1, q.2] := by simp [fpS, List.flatMap_append]
theorem fp_top (h : (fpS p Ld Lg qs).Nodup) : p ≠ Ld ∧ p ≠ Lg ∧ Ld ≠ Lg ∧ ∀ r ∈ qs, r.1 ≠ p ∧ r.1 ≠ Ld ∧ r.1 ≠ Lg ∧ r.2 ≠ p ∧ r.2 ≠ Ld ∧ r.2 ≠ Lg := by
  unfold fpS at h
  simp only [List.nodup_cons, List.mem_cons, List.mem_flatMap, not_or, not_exists, not_and, List.not_mem_nil] at h
  obtain ⟨⟨h1, h2, h3⟩, ⟨h4, h5⟩, h6, _⟩ := h
  exact ⟨h1, h2, h4, fun r hr => ⟨fun z => (h3 r hr).1 z.symm, fun z => (h5 r hr).1 z.symm, fun z => (h6 r hr).1 z.symm, fun z => (h3 r hr).2.1 z.symm, fun z => (h5 r hr).2.1 z.symm, fun z => (h6 r hr).2.1 z.symm⟩⟩
theorem fp_self (h : (fpS p Ld Lg qs).Nodup) : ∀ r ∈ qs, r.1 ≠ r.2 := fun r hr => by
  have h1 : (qs.flatMap fun q => [q.1, q.2]).Nodup := by
    unfold fpS at h
    exact (List.nodup_cons.mp (List.nodup_cons.mp (List.nodup_cons.mp h).2).2).2
  have h2 := (List.pairwise_flatMap.mp h1).1 r hr
  simpa using h2
theorem fp_two (h : (fpS p Ld Lg qs).Nodup) {j : Nat} {r : Addr × Addr} (hi : qs[i]? = some q) (hj : qs[j]? = some r) (hne : j ≠ i) : r.1 ≠ q.1 ∧ r.1 ≠ q.2 ∧ r.2 ≠ q.1 ∧ r.2 ≠ q.2 := by
  have h1 : (qs.flatMap fun q => [q.1, q.2]).Nodup := by
    unfold fpS at h
    exact (List.nodup_cons.mp (List.nodup_cons.mp (List.nodup_cons.mp h).2).2).2
  have h2 := List.pairwise_iff_getElem.mp (List.pairwise_flatMap.mp h1).2
  obtain ⟨li, ei⟩ := List.getElem?_eq_some_iff.mp hi
  obtain ⟨lj, ej⟩ := List.getElem?_eq_some_iff.mp hj
  rcases Nat.lt_or_gt_of_ne hne with z | z
  · have h3 := h2 j i lj li z
    rw [ei, ej] at h3
    exact ⟨h3 r.1 (by simp) q.1 (by simp), h3 r.1 (by simp) q.2 (by simp), h3 r.2 (by simp) q.1 (by simp), h3 r.2 (by simp) q.2 (by simp)⟩
  · have h3 := h2 i j li lj z
    rw [ei, ej] at h3
    exact ⟨(h3 q.1 (by simp) r.1 (by simp)).symm, (h3 q.2 (by simp) r.1 (by simp)).symm, (h3 q.1 (by simp) r.2 (by simp)).symm, (h3 q.2 (by simp) r.2 (by simp)).symm⟩
/-- a row is written down -/
theorem StP.log (S : StP K H b p dx ob Ld Lg qs lg ds rows) {r : Row} (f : FzD H v (rowD r)) : StP K (upd H Lg (.lst (lg ++ [v]))) b p dx ob Ld Lg qs (lg ++ [v]) ds (rows ++ [r]) := by
  obtain ⟨n1, n2, n3, n4⟩ := fp_top S.nd
  have g : Go [] (· = Lg) H (upd H Lg (.lst (lg ++ [v]))) := Go.refl.set S.gl trivial (.inl rfl)
  exact ⟨g.ins S.o n2, S.bk.go g, g.lst S.ld n3, upd_same, Zp.snoc (S.rw_.go g) (f.go g), Zp.monoM S.dl fun q d hq _ h => h.go g (n4 q hq).2.2.1 (n4 q hq).2.2.2.2.2, S.nd⟩
/-- .. and crossed out -/
theorem StP.unlog (S : StP K H b p dx ob Ld Lg qs lg ds rows) : StP K (upd H Lg (.lst lg.dropLast)) b p dx ob Ld Lg qs lg.dropLast ds rows.dropLast := by
  obtain ⟨n1, n2, n3, n4⟩ := fp_top S.nd
  have g : Go [] (· = Lg) H (upd H Lg (.lst lg.dropLast)) := Go.refl.set S.gl trivial (.inl rfl)
  exact ⟨g.ins S.o n2, S.bk.go g, g.lst S.ld n3, upd_same, Zp.drop_last (S.rw_.go g), Zp.monoM S.dl fun q d hq _ h => h.go g (n4 q hq).2.2.1 (n4 q hq).2.2.2.2.2, S.nd⟩
/-- one dealing changes -/
theorem StP.mod (S : StP K H b p dx ob Ld Lg qs lg ds rows) (hi : qs[i]? = some q) (g : Go T M H H') (hM : ∀ a, M a → a = q.1 ∨ a = q.2) (D : DlAt (cD K) H' b q d') : StP K H' b p dx ob Ld Lg qs lg (ds.set i d') rows := by
  obtain ⟨n1, n2, n3, n4⟩ := fp_top S.nd
  obtain ⟨m1, m2, m3, m4, m5, m6⟩ := n4 q (List.mem_of_getElem? hi)
  have k : ∀ {a}, a ≠ q.1 → a ≠ q.2 → ¬ M a := fun h1 h2 z => (hM _ z).elim h1 h2
  refine ⟨g.ins S.o (k m1.symm m4.symm), S.bk.go g, g.lst S.ld (k m2.symm m5.symm), g.lst S.gl (k m3.symm m6.symm), S.rw_.go g, ⟨by rw [List.length_set]; exact S.dl.1, fun j r e hr he => ?_⟩, S.nd⟩
  by_cases hj : j = i
  · subst hj
    rw [hi] at hr
    cases hr
    have hl : j < ds.length := by rw [← S.dl.1]; exact (List.getElem?_eq_some_iff.mp hi).1
    rw [List.getElem?_set_self hl] at he
    cases he
    exact D
  · rw [List.getElem?_set_ne fun z => hj z.symm] at he
    obtain ⟨k1, k2, k3, k4⟩ := fp_two S.nd hi hr hj
    exact (S.dl.2 j r e hr he).go g (k k1 k2) (k k3 k4)
/-- one dealing more -/
theorem StP.push (S : StP K H b p dx ob Ld Lg qs lg ds rows) (D : DlAt (cD K) H b q d) (n1 : q.1 ∉ fpS p Ld Lg qs) (n2 : q.2 ∉ fpS p Ld Lg qs) (n3 : q.1 ≠ q.2) :
    StP K (upd H Ld (.lst ((qs.map fun q => V.ref q.1) ++ [.ref q.1]))) b p dx ob Ld Lg (qs ++ [q]) lg (ds ++ [d]) rows := by
  obtain ⟨m1, m2, m3, m4⟩ := fp_top S.nd
  have g : Go [] (· = Ld) H (upd H Ld (.lst ((qs.map fun q => V.ref q.1) ++ [.ref q.1]))) := Go.refl.set S.ld trivial (.inl rfl)
  refine ⟨g.ins S.o m1, S.bk.go g, by rw [upd_same, List.map_append]; rfl, g.lst S.gl m3.symm, S.rw_.go g, Zp.snoc (Zp.monoM S.dl fun q d hq _ h => h.go g (m4 q hq).2.1 (m4 q hq).2.2.2.2.1) (D.go g (fun z => n1 ?_) fun z => n2 ?_), ?_⟩
  · rw [z]
    exact mem_fpS.mpr (.inr (.inl rfl))
  · rw [z]
    exact mem_fpS.mpr (.inr (.inl rfl))
  · rw [fpS_snoc, List.nodup_append]
    refine ⟨S.nd, by simp [n3], fun a ha c hc z => ?_⟩
    subst z
    simp only [List.mem_cons, List.not_mem_nil, or_false] at hc
    rcases hc with rfl | rfl
    · exact n1 ha
    · exact n2 ha
/-- the last dealing is gone -/
theorem StP.unpush (S : StP K H b p dx ob Ld Lg (qs ++ [q]) lg (ds ++ [d]) rows) : StP K (upd H Ld (.lst (qs.map fun q => V.ref q.1))) b p dx ob Ld Lg qs lg ds rows := by
  obtain ⟨m1, m2, m3, m4⟩ := fp_top S.nd
  have g : Go [] (· = Ld) H (upd H Ld (.lst (qs.map fun q => V.ref q.1))) := Go.refl.set S.ld trivial (.inl rfl)
  have z := Zp.drop_last S.dl
  rw [List.dropLast_concat, List.dropLast_concat] at z
  refine ⟨g.ins S.o m1, S.bk.go g, upd_same, g.lst S.gl m3.symm, S.rw_.go g, Zp.monoM z fun q d hq _ h => h.go g (m4 q (by simp [hq])).2.1 (m4 q (by simp [hq])).2.2.2.2.1, ?_⟩
  have := S.nd
  rw [fpS_snoc, List.nodup_append] at this
  exact this.1
theorem modAt_some {ds : List Ds} {i : Nat} {d : Ds} {f : Ds → Ds} (h : ds[i]? = some d) : modAt ds i f = ds.set i (f d) := by
  unfold modAt
  rw [h]
theorem nameIx_at {b : Bk} {i : Nat} {d : Dl} (hn : (b.deals.map (·.name)).Nodup) (h : b.deals[i]? = some d) : nameIx b d.name = i := by
  unfold nameIx
  have hl : i < (b.deals.map (·.name)).length := by rw [List.length_map]; exact (List.getElem?_eq_some_iff.mp h).1
  have e : (b.deals.map (·.name))[i]? = some d.name := by rw [List.getElem?_map, h]; rfl
  rw [List.findIdx_eq hl]
  refine ⟨?_, fun j hj => ?_⟩
  · rw [List.getElem?_eq_getElem hl] at e
    simp [Option.some.inj e]
  · have hj2 : j < (b.deals.map (·.name)).length := by omega
    refine decide_eq_false fun z => ?_
    have : j = i := nodup_ix hn (List.getElem?_eq_getElem hj2) (by rw [e, ← z])
    omega
theorem dealAt_some {b : Bk} {i : Nat} {d : Dl} (h : b.deals[i]? = some d) : dealAt b i = d := by
  unfold dealAt
  rw [h]
  rfl
end
end K29
/-! text K29P6 -/
namespace K29
open PySem PySem.Spec PyProof.Rows L2 LamX
section
variable {P : Program} {w : World} {K : PySem.W.Frag} {mg : Str → Option Value} {base : Heap} {T : List (Addr × Str)}
/-! ### begin -/
theorem begin_binds (t : Tp K mg) : ∃ fd, FunD K "begin" "Stepper.begin" (defArgs s_S_begin) (defBody s_S_begin) (defScope s_S_begin) [.non] [] (He.fAd K d_S_begin.at_) fd ∧ Binds K fd p_S_begin [] := by
  obtain ⟨fd, F⟩ := t.f_S_begin
  obtain ⟨ds, r, b⟩ := FunD.binds1 (ps := p_S_begin) F 3 1 (by simp) rfl fun T kV doc pm an cdv ct us its h1 h2 => by
    match us, its, h1, h2 with
    | [_, _, _], [_], _, _ => exact ⟨_, rfl, rfl⟩
  cases r
  exact ⟨fd, F, b⟩
def sp_S_begin (K : PySem.W.Frag) (T : List (Addr × Str)) : Sp := fun vs H Q _ => ∃ (p : Addr) (x : V) (b : Bk) (ds : List Ds) (rows : List Row) (fp : List Addr) (ks : List Ky) (ix : Nat) (d : Dl), vs = [.ref p, .str d.name, x] ∧ StAt K H p b ds rows fp ∧ WfB b ∧ b.deals[ix]? = some d ∧ FzD H x (.list (ks.map kyD)) ∧ okKeys b d ks ∧ ds.length < 40 ∧ rows.length ≤ 1000 ∧
  ∀ fp' H', Go T (· ∈ fp) H H' → StAt K H' p b (doRow b ds rows.length (.bgn d.name ks)) (rows ++ [.bgn d.name ks]) fp' → (∀ a ∈ fp', a ∈ fp ∨ Nw H a) → Q (.int (ds.length : Nat)) H'
theorem b_S_begin (t : Tp K mg) : FB P w K mg base 4 (He.fAd K ("Stepper", some "begin")) p_S_begin (sp_S_begin K T) := by
  refine FB.of (begin_binds t) sc_S_begin (fun vs H Q E ⟨_, _, _, _, _, _, _, _, _, h, _⟩ => by rw [h]; rfl) (fun cdv A outer s H vs Q E hr h => ?_)
  obtain ⟨p, x, b, ds, rows, fp, ks, ix, d, rfl, hS, wf, hix, hx, hks, hlen, hrl, hq⟩ := h
  have nd := sc_S_begin.nd
  obtain ⟨tk, hmb⟩ := t.i_MOST_BEGUN
  refine ⟨_, pss_cons (ps_set (i := 3) nd rfl (Or.inl rfl) (pe_f (b_dealing_by (T := T) t) t.g_dealing_by hr (pa_cons (pe_fld (pv 0) rfl) (pa_cons (pv 1) pa_nil))))
    (pss_cons (ps_if (PW.pt (pw_and (pt_cmpR op_notN (pv 2) pe_non (nomark _)) (pw_and1 (pt_not (pt_val (pe_f (b_are_keys (T := T) t) t.g_are_keys hr (pa_cons (pe_fld (pv 0) rfl) (pa_cons (pv 1) (pa_cons (pv 2) pa_nil))))))))) (pss_one ps_never) pss_nil)
    (pss_cons (ps_if (pt_cmpR op_eq (pe_callB call_len (by rfl) t.b_len PySem.boot_len (pa_cons (pe_fld (pv 0) rfl) pa_nil)) (pe_glob (v := .int 40) rfl hmb ⟨_, rfl⟩) (nomark _)) (pss_one ps_never) pss_nil)
    (pss_cons (ps_if (pt_cmpR op_isN (pv 2) pe_non (nomark _)) (pss_one ps_never) pss_nil)
    (pss_cons (ps_expr (pe_bm PySem.F.plainAttrs_list PySem.F.slot_list_append PySem.F.type_list_append mt_append (pe_fld (pv 0) rfl) (pa_cons (pe_mk t.mk_Deal (b_D_init (T := T) t) t.g_Deal hr (pa_cons (pv 3) (pa_cons (pv 2) (pa_cons (pe_callB call_len (by rfl) t.b_len PySem.boot_len (pa_cons (pe_fld (pv 0) rfl) pa_nil)) pa_nil)))) pa_nil)))
    (pss_cons (ps_expr (pe_bm PySem.F.plainAttrs_list PySem.F.slot_list_append PySem.F.type_list_append mt_append (pe_fld (pv 0) rfl) (pa_cons (pe_tup (pa_cons pe_str (pa_cons (pv 1) (pa_cons (pe_fz (pe_callTy call_list_of (by rfl) t.b_list (by decide +kernel) (pa_cons (pv 2) pa_nil))) pa_nil)))) pa_nil)))
    (pss_one (ps_ret (pe_op op_sub (pe_callB call_len (by rfl) t.b_len PySem.boot_len (pa_cons (pe_fld (pv 0) rfl) pa_nil)) pe_int)))))))), ?_⟩
  obtain ⟨dx, ob, Ld, Lg, qs, lg, S, rfl⟩ := hS
  obtain ⟨a4, o4, xs, rfl, h4, hxs⟩ := fz_list.mp hx
  have hlq : qs.length = ds.length := S.dl.1
  -- dealing = dealing_by(self.own_book, name)
  refine ⟨_, rfl, p, _, dx, _, _, rfl, S.o, t.c_Stepper, t.n_own_book, sFl_book, _, rfl, ob, b, ix, d, rfl, S.bk, wf.d3, wf.dn, hix, fun v1 H1 g1 f1 => ?_⟩
  have S1 := S.go0 g1
  -- keys is not None and not are_keys(..)
  refine ⟨_, rfl, rfl, _, rfl, iteT ⟨_, rfl, p, _, dx, _, _, rfl, S1.o, t.c_Stepper, t.n_own_book, sFl_book, _, rfl, _, rfl, ob, _, b, ix, d, ks, rfl, S1.bk, wf, hix, hx.go g1, hks, fun H2 g2 => ⟨_, rfl, iteF ?_⟩⟩⟩
  have S2 := S1.go0 g2
  have f2 := f1.go g2
  have G2 := g1.thn0 g2
  -- len(self.deals) == MOST_BEGUN
  refine ⟨_, rfl, p, _, dx, _, _, rfl, S2.o, t.c_Stepper, t.n_deals, sFl_deals, _, qs.length, rfl, .inl ⟨_, .inl (.inl S2.ld), by simp⟩, rfl, _, rfl, ?_⟩
  rw [decide_eq_false (by intro z; injection z with z; omega)]
  refine iteF ⟨_, rfl, rfl, _, rfl, iteF ?_⟩
  -- self.deals.append(Deal(dealing, keys, len(self.log)))
  refine ⟨_, rfl, p, _, dx, _, _, rfl, S2.o, t.c_Stepper, t.n_deals, sFl_deals, .inl ⟨rfl, _, .inl (.inl S2.ld)⟩, _, rfl, _, rfl, _, rfl, p, _, dx, _, _, rfl, S2.o, t.c_Stepper, t.n_log, sFl_log, _, lg.length, rfl, .inl ⟨_, .inl (.inl S2.gl), rfl⟩, fun y dy hy hdy hne => ?_⟩
  have g3 := (G2.add (o := .own y) hdy).add (d := y) (o := .ins (cD K) dy []) (by rw [upd_ne hne.symm]; exact hy)
  have s3 : Go T No H2 (upd (upd H2 dy (.own y)) y (.ins (cD K) dy [])) := (Go.refl.add hdy).add (by rw [upd_ne hne.symm]; exact hy)
  have y3 : upd (upd H2 dy (.own y)) y (.ins (cD K) dy []) y = some (.ins (cD K) dy []) := upd_same
  generalize upd (upd H2 dy (.own y)) y (.ins (cD K) dy []) = H3 at g3 s3 y3
  have S3 := S2.go0 s3
  have nyH : Nw H y := G2.nw (Nw.of hy)
  refine ⟨y, dy, _, _, b, ix, lg.length, ks, rfl, y3, by rw [dealAt_some hix]; exact f2.go s3, hx.go g3, ?_, ?_, ?_, fun to H4 g4 nto D4 => ⟨rfl, ?_⟩⟩
  · rw [dealAt_some hix]
    have := congrArg List.length hks.1
    simpa using this
  · rw [dealAt_some hix]
    exact (wf.ds d (List.mem_of_getElem? hix)).ln
  · rw [dealAt_some hix]
    exact (wf.ds d (List.mem_of_getElem? hix)).l4
  have ntoH : Nw H to := g3.nw nto
  have hnew : ∀ a, Nw H a → a ∉ fpS p Ld Lg qs := fun a ha hm => by
    obtain ⟨o, e, m⟩ := S.tr a hm
    exact ha o e m.Nt
  have S4 := S3.go g4 fun a ha z => hnew y nyH (by rw [← z]; exact ha)
  have G4 : Go T No H H4 := g3.thn g4 fun a z => .inr (by rw [z]; exact nyH)
  have nyt : y ≠ to := nto.ne y3 trivial
  refine ⟨Ld, _, _, rfl, rfl, S4.ld, by rw [List.length_map]; exact sm (by omega), ?_⟩
  have S5 := S4.push D4 (hnew y nyH) (hnew to ntoH) nyt
  have g5 : Go T (· ∈ fpS p Ld Lg qs) H (upd H4 Ld (.lst ((qs.map fun q => V.ref q.1) ++ [.ref y]))) := G4.wk.set S4.ld trivial (.inl (mem_fpS.mpr (.inr (.inl rfl))))
  have x5 := ((hx.go G4).set (o := .lst ((qs.map fun q => V.ref q.1) ++ [.ref y])) S4.ld trivial)
  generalize upd H4 Ld (.lst ((qs.map fun q => V.ref q.1) ++ [.ref y])) = H5 at S5 g5 x5
  -- self.log.append(('begin', name, list(keys)))
  have h45 : H5 a4 = some (.frz o4 (.lst xs)) := g5.fz _ _ h4 trivial
  refine ⟨_, rfl, p, _, dx, _, _, rfl, S5.o, t.c_Stepper, t.n_log, sFl_log, .inl ⟨rfl, _, .inl (.inl S5.gl)⟩, _, rfl, _, rfl, _, _, rfl, .inl (SqL_frz h45), fun l hl => ⟨_, _, rfl, upd_same, trivial, fun ol => ?_⟩⟩
  rw [upd_upd]
  have g6 := g5.add (o := .frz ol (.lst xs)) hl
  have s6 : Go T No H5 (upd H5 l (.frz ol (.lst xs))) := Go.refl.add hl
  have l6 : upd H5 l (.frz ol (.lst xs)) l = some (.frz ol (.lst xs)) := upd_same
  generalize upd H5 l (.frz ol (.lst xs)) = H6 at g6 s6 l6
  refine ⟨by show 3 ≤ sizeLine; decide, fun r hr2 => ?_⟩
  have s7 : Go T No H6 (upd H6 r (.tup [.str "begin", .str d.name, .ref l])) := Go.refl.add hr2
  have r7 : upd H6 r (.tup [.str "begin", .str d.name, .ref l]) r = some (.tup [.str "begin", .str d.name, .ref l]) := upd_same
  generalize upd H6 r (.tup [.str "begin", .str d.name, .ref l]) = H7 at s7 r7
  have S7 := (S5.go0 s6).go0 s7
  have G7 := (g5.thn0 s6).thn0 s7
  have f7 : FzD H7 (.ref r) (rowD (.bgn d.name ks)) := fz_t3.mpr ⟨r, _, _, _, rfl, r7, .str _, .str _, fz_list.mpr ⟨l, ol, xs, rfl, s7.fz _ _ l6 trivial, hxs.go G7⟩⟩
  have lgl : lg.length = rows.length := S.rw_.1
  refine ⟨Lg, _, _, rfl, rfl, S7.gl, by rw [lgl]; exact sm hrl, ?_⟩
  have S8 := S7.log f7
  have G8 : Go T (· ∈ fpS p Ld Lg qs) H (upd H7 Lg (.lst (lg ++ [.ref r]))) := G7.set S7.gl trivial (.inl (mem_fpS.mpr (.inr (.inr (.inl rfl)))))
  refine ⟨_, rfl, p, _, dx, _, _, rfl, S8.o, t.c_Stepper, t.n_deals, sFl_deals, _, (qs ++ [(y, to)]).length, rfl, .inl ⟨_, .inl (.inl S8.ld), by simp⟩, _, _, rfl, rfl, ?_⟩
  have e9 : ((qs ++ [(y, to)]).length : Int) - 1 = (ds.length : Nat) := by simp [hlq]
  show Q (.int (((qs ++ [(y, to)]).length : Int) - 1)) _
  rw [e9]
  refine hq (fpS p Ld Lg (qs ++ [(y, to)])) _ G8 ⟨dx, ob, Ld, Lg, qs ++ [(y, to)], lg ++ [.ref r], ?_, rfl⟩ fun a ha => ?_
  · show StP K _ b p dx ob Ld Lg (qs ++ [(y, to)]) (lg ++ [.ref r]) (ds ++ [⟨nameIx b d.name, ks, [], rows.length, none, .op⟩]) (rows ++ [.bgn d.name ks])
    rw [nameIx_at wf.dn hix, ← lgl]
    exact S8
  · rw [fpS_snoc] at ha
    rcases List.mem_append.mp ha with h | h
    · exact .inl h
    · simp only [List.mem_cons, List.not_mem_nil, or_false] at h
      rcases h with rfl | rfl
      · exact .inr nyH
      · exact .inr ntoH
/-! ### step -/
def sp_S_step (K : PySem.W.Frag) : Sp := fun vs H Q _ => ∃ (p : Addr) (b : Bk) (ds : List Ds) (rows : List Row) (fp : List Addr) (i : Nat) (d : Ds) (j : Nat) (st l : Str × Str) (k : Ky), vs = [.ref p, .int i] ∧ StAt K H p b ds rows fp ∧ ds[i]? = some d ∧ d.word = .op ∧ (∀ d ∈ ds, WfV d) ∧ ds.length ≤ 40 ∧ rows.length ≤ 1000 ∧ Tabs (lmT K) H ∧
  (dealAt b d.deal).steps[d.told.length]? = some st ∧ (dealAt b d.deal).letters[j]? = some l ∧ l.1 = st.2 ∧ d.keys[j]? = some k ∧ kOk k ∧ tkOf b ds i d = ⟨st.1, k, seenOf b ds i d⟩ ∧ nextOf b d = st ∧ keyOf b d = k ∧
  ∀ v H', Go (lmT K) (· ∈ fp) H H' → StAt K H' p b (doRow b ds rows.length (.stp i)) (rows ++ [.stp i]) fp → FzD H' v (tkD (tkOf b ds i d)) → Q v H'
theorem b_S_step (t : Tp K mg) (TB : TabB base mg (He.cT K ("Stepper", some "last_writer")).1 (He.cT K ("Stepper", some "last_writer")).2) : FB P w K mg base 4 (He.fAd K ("Stepper", some "step")) p_S_step (sp_S_step K) := by
  refine FB.of t.f_S_step sc_S_step (fun vs H Q E ⟨_, _, _, _, _, _, _, _, _, _, _, h, _⟩ => by rw [h]; rfl) (fun cdv A outer s H vs Q E hr h => ?_)
  obtain ⟨p, b, ds, rows, fp, i, d, j, st, l, k, rfl, hS, hd, hw, hW, hlen, hrl, hT, hst, hl, hls, hk, ok, etk, enx, eky, hq⟩ := h
  have nd := sc_S_step.nd
  have hu := hu65 hr
  refine ⟨_, pss_cons (ps_set (i := 2) nd rfl (Or.inl rfl) (pe_m t.c_Stepper t.m_S_open_deal (b_S_open_deal t) hr (pv 0) (pa_cons (pv 1) pa_nil)))
    (pss_cons (ps_if (pt_cmpR op_eq (pe_m0 t.c_Deal t.m_D_steps_left (b_D_steps_left t) hr (pv 2)) pe_int (nomark _)) (pss_one ps_never) pss_nil)
    (pss_cons (ps_asg (pe_m0 t.c_Deal t.m_D_next_deed (b_D_next_deed (T := lmT K) t) hr (pv 2)) (pg_tup rfl (pgs_cons (pg_name (i := 3) nd rfl (.inl rfl)) (pgs_cons (pg_name (i := 4) nd rfl (.inl rfl)) pgs_nil))))
    (pss_cons (ps_set (i := 5) nd rfl (Or.inl rfl) pe_non)
    (pss_cons (ps_if (pt_cmpR op_ne (pv 3) pe_str (nomark _)) (pss_cons (ps_set (i := 5) nd rfl (Or.inl rfl) (pv 1))
        (pss_one (ps_if (pt_cmpR (op_notInD hu) (pv 4) (pe_m0 t.c_Deal t.m_D_written (b_D_written (T := lmT K) t) hr (pv 2)) (by rfl)) (pss_one (ps_set (i := 5) nd rfl (Or.inl rfl) (pe_m t.c_Stepper t.m_S_last_writer (b_S_last_writer t TB) hr (pv 0) (pa_cons (pv 4) (pa_cons (pe_fld (pv 2) rfl) pa_nil))))) pss_nil))) pss_nil)
    (pss_cons (ps_expr (pe_bm PySem.F.plainAttrs_list PySem.F.slot_list_append PySem.F.type_list_append mt_append (pe_fld (pv 2) rfl) (pa_cons (pe_tup (pa_cons (pv 3) (pa_cons (pv 4) (pa_cons (pv 5) pa_nil)))) pa_nil)))
    (pss_cons (ps_expr (pe_bm PySem.F.plainAttrs_list PySem.F.slot_list_append PySem.F.type_list_append mt_append (pe_fld (pv 0) rfl) (pa_cons (pe_tup (pa_cons pe_str (pa_cons (pv 1) pa_nil))) pa_nil)))
    (pss_one (ps_ret (pe_tup (pa_cons (pv 3) (pa_cons (pv 4) (pa_cons (pv 5) pa_nil)))))))))))), ?_⟩
  obtain ⟨dx, ob, Ld, Lg, qs, lg, S, rfl⟩ := hS
  have hlq : qs.length = ds.length := S.dl.1
  have dm := List.mem_of_getElem? hd
  obtain ⟨q, hqi, D⟩ := S.dl.at hd
  have tl : d.told.length < (dealAt b d.deal).steps.length := (List.getElem?_eq_some_iff.mp hst).1
  -- deal = self.open_deal(number)
  refine ⟨_, rfl, p, dx, _, rfl, S.o, sFl_m2, _, rfl, p, dx, ob, Ld, Lg, qs, i, q, b, d, rfl, S.o, S.ld, hqi, D, hw, ?_⟩
  have D0 := D
  obtain ⟨dy, t1, t2, kb, ah, xs, h1, h2, h3, h4⟩ := D0
  -- if deal.steps_left() == 0
  refine ⟨_, rfl, q.1, dy, _, rfl, h1, dFl_m2, q, b, d, rfl, D, rfl, _, rfl, ?_⟩
  rw [decide_eq_false (by intro z; injection z with z; omega)]
  -- deed, key = deal.next_deed()
  refine iteF ⟨_, rfl, q.1, dy, _, rfl, h1, dFl_m1, q, b, d, j, st, l, k, rfl, D, hst, hl, hls, hk, (by have := (hW d dm).tl; omega), fun a H1 v g1 ha fv => ?_⟩
  refine ⟨_, _, rfl, SqT.of ha, rfl, _, _, rfl, _, _, rfl, rfl, ?_⟩
  have S1 := S.go0 g1
  have D1 := D.go g1 id id
  -- what follows, whoever was seen
  have key : ∀ (H2 : Hp) (x : V), Go (lmT K) No H1 H2 → FzD H2 x (snD (seenOf b ds i d)) →
      (tSeq (tDrop (tBM K "list" rAppend (tFld K (tVar 2) "told") (tCons (tTup (tCons (tVar 3) (tCons (tVar 4) (tCons (tVar 5) tNil)))) tNil))) (tSeq (tDrop (tBM K "list" rAppend (tFld K (tVar 0) "log") (tCons (tTup (tCons (tC (.str "step")) (tCons (tVar 1) tNil))) tNil))) (tRet (tTup (tCons (tVar 3) (tCons (tVar 4) (tCons (tVar 5) tNil)))))))
        { nx := fun _ H' => Q .non H', rt := Q } [some (.ref p), some (.int (i : Nat)), some (.ref q.1), some (.str st.1), some v, some x] H2 := fun H2 x g2 fx => by
    have S2 := S1.go0 g2
    have D2 := D1.go g2 id id
    have fv2 := fv.go g2
    obtain ⟨dy, t1, t2, kb, ah, xs, h1, h2, h3, h4⟩ := id D2
    refine ⟨_, rfl, q.1, _, dy, _, _, rfl, h1, t.c_Deal, t.n_told, dFl_told, .inl ⟨rfl, _, .inl (.inl h3)⟩, _, rfl, _, rfl, _, rfl, by show 3 ≤ sizeLine; decide, fun r hr2 => ?_⟩
    have s3 : Go (lmT K) No H2 (upd H2 r (.tup [.str st.1, v, x])) := Go.refl.add hr2
    have r3 : upd H2 r (.tup [.str st.1, v, x]) r = some (.tup [.str st.1, v, x]) := upd_same
    generalize upd H2 r (.tup [.str st.1, v, x]) = H3 at s3 r3
    have S3 := S2.go0 s3
    have D3 := D2.go s3 id id
    have h33 := s3.lst h3 id
    have f3 : FzD H3 (.ref r) (tkD (tkOf b ds i d)) := by
      rw [etk]
      exact fz_t3.mpr ⟨r, _, _, _, rfl, r3, .str _, fv2.go s3, fx.go s3⟩
    have hx4 := h4.go s3
    refine ⟨q.2, _, _, rfl, rfl, h33, by rw [h4.1]; exact sm (by have := (hW d dm).tl; omega), ?_⟩
    have s4 : Go (lmT K) (fun a => a = q.2) H3 (upd H3 q.2 (.lst (xs ++ [.ref r]))) := Go.refl.set h33 trivial (.inl rfl)
    have l4 : upd H3 q.2 (.lst (xs ++ [.ref r])) q.2 = some (.lst (xs ++ [.ref r])) := upd_same
    generalize upd H3 q.2 (.lst (xs ++ [.ref r])) = H4 at s4 l4
    have n12 := fp_self S.nd q (List.mem_of_getElem? hqi)
    have D4 : DlAt (cD K) H4 b q { d with told := d.told ++ [tkOf b ds i d] } := ⟨dy, t1, t2, kb, ah, _, s4.ins (s3.ins h1 id) n12, (h2.up s3.fz).up s4.fz, l4, Zp.snoc (hx4.go s4) (f3.go s4)⟩
    have S4 := S3.mod hqi s4 (fun a z => .inr z) D4
    have mq2 : q.2 ∈ fpS p Ld Lg qs := mem_fpS.mpr (.inr (.inr (.inr ⟨q, List.mem_of_getElem? hqi, .inr rfl⟩)))
    have G4 : Go (lmT K) (· ∈ fpS p Ld Lg qs) H H4 := (((g1.thn0 g2).thn0 s3).wk).thn s4 fun a z => .inl (by rw [z]; exact mq2)
    -- self.log.append(('step', number))
    refine ⟨_, rfl, p, _, dx, _, _, rfl, S4.o, t.c_Stepper, t.n_log, sFl_log, .inl ⟨rfl, _, .inl (.inl S4.gl)⟩, _, rfl, by show 2 ≤ sizeLine; decide, fun m hm => ?_⟩
    have s5 : Go (lmT K) No H4 (upd H4 m (.tup [.str "step", .int (i : Nat)])) := Go.refl.add hm
    have m5 : upd H4 m (.tup [.str "step", .int (i : Nat)]) m = some (.tup [.str "step", .int (i : Nat)]) := upd_same
    generalize upd H4 m (.tup [.str "step", .int (i : Nat)]) = H5 at s5 m5
    have S5 := S4.go0 s5
    have f5 : FzD H5 (.ref m) (rowD (.stp i)) := fz_t2.mpr ⟨m, _, _, rfl, m5, .str _, .int _⟩
    have lgl : lg.length = rows.length := S.rw_.1
    refine ⟨Lg, _, _, rfl, rfl, S5.gl, by rw [lgl]; exact sm hrl, ?_⟩
    have S6 := S5.log f5
    have G6 : Go (lmT K) (· ∈ fpS p Ld Lg qs) H (upd H5 Lg (.lst (lg ++ [.ref m]))) := (G4.thn0 s5).set S5.gl trivial (.inl (mem_fpS.mpr (.inr (.inr (.inl rfl)))))
    have fx6 := (((fx.go s3).go s4).go s5).set (o := .lst (lg ++ [.ref m])) S5.gl trivial
    have fv6 := (((fv2.go s3).go s4).go s5).set (o := .lst (lg ++ [.ref m])) S5.gl trivial
    generalize upd H5 Lg (.lst (lg ++ [.ref m])) = H6 at S6 G6 fx6 fv6
    refine ⟨_, rfl, _, rfl, _, rfl, by show 3 ≤ sizeLine; decide, fun z hz => ?_⟩
    refine hq (.ref z) _ (G6.add hz) ⟨dx, ob, Ld, Lg, qs, lg ++ [.ref m], ?_, rfl⟩ ?_
    · have e : doRow b ds rows.length (.stp i) = ds.set i { d with told := d.told ++ [tkOf b ds i d] } := modAt_some hd
      rw [e]
      exact S6.go0 (T := []) (Go.refl.add hz)
    · rw [etk]
      exact fz_t3.mpr ⟨z, _, _, _, rfl, upd_same, .str _, fv6.add hz, fx6.add hz⟩
  -- seen = None; if deed != 'write' ..
  refine ⟨_, rfl, rfl, _, rfl, ?_⟩
  have enx1 : (nextOf b d).1 = st.1 := by rw [enx]
  by_cases e1 : st.1 = ("write" : Str)
  · rw [decide_eq_true (by rw [e1])]
    refine iteF (key H1 .non Go.refl ?_)
    have e : seenOf b ds i d = none := by
      unfold seenOf
      rw [if_pos (by rw [enx1, e1])]
    rw [e]
    exact .non
  · rw [decide_eq_false (by intro z; exact e1 (V.str.inj z))]
    refine iteT ⟨_, rfl, _, rfl, _, rfl, ?_⟩
    obtain ⟨dy, t1, t2, kb, ah, xs, h1, h2, h3, h4⟩ := id D1
    refine ⟨q.1, dy, _, rfl, h1, dFl_m3, q, b, d, rfl, D1, (hW d dm).tl, fun v2 H2 g2 f2 => ?_⟩
    refine ⟨kyD k, _, FzD.dp _ _ (fv.go g2), FzD.dp _ _ f2, kyD_shaped ok, kyDs_shaped (wrote_ok (hW d dm)), _, rfl, ?_⟩
    rw [kyDs_any]
    have e0 : seenOf b ds i d = if k ∈ wrote d.told then some i else lastW ds k d.begun := by
      unfold seenOf
      rw [if_neg (by rw [enx1]; exact e1), eky]
    by_cases e2 : k ∈ wrote d.told
    · rw [decide_eq_true e2]
      refine iteF (key H2 (.int (i : Nat)) g2 ?_)
      rw [e0, if_pos e2]
      exact .int _
    · rw [decide_eq_false e2]
      have S2 := S1.go0 g2
      obtain ⟨dy, t1, t2, kb, ah, xs, h1, h2, h3, h4⟩ := D1.go g2 id id
      refine iteT ⟨_, rfl, p, dx, _, rfl, S2.o, sFl_m3, _, rfl, _, rfl, q.1, _, dy, _, _, rfl, h1, t.c_Deal, t.n_begun, dFl_begun, ?_⟩
      refine ⟨p, b, ds, rows, _, v, k, d.begun, rfl, ⟨dx, ob, Ld, Lg, qs, lg, S2, rfl⟩, fv.go g2, ok, hW, by omega, g2.tb (g1.tb hT), fun H3 g3 => ?_⟩
      refine key H3 _ (g2.thn0 g3) ?_
      rw [e0, if_neg e2]
      exact fz_sn.mpr rfl
end
end K29
/-! text K29P7 -/
namespace K29
open PySem PySem.Spec PyProof.Rows L2 LamX
theorem fzl_bls {H : Hp} {β : Type} {f : β → Bool} : ∀ {l : List β} {ys : List V}, FzL H (fun x => .bool (f x)) ys l → ys = l.map fun x => V.bl (f x)
  | [], ys, h => List.eq_nil_of_length_eq_zero h.1
  | x :: l, [], h => absurd h.1 (by simp)
  | x :: l, y :: ys, h => by
    obtain ⟨z, zs, e, h1, h2⟩ := Zp.uncons h
    obtain ⟨rfl, rfl⟩ := List.cons.inj e
    rw [fz_bl.mp h1, fzl_bls h2]
    rfl
/-! ### rows as data -/
def rOk : Row → Prop
  | .bgn n ks => PyData.strOk n = true ∧ ∀ k ∈ ks, kOk k
  | _ => True
theorem canLay_keys : ∀ ks : List Ky, (∀ k ∈ ks, kOk k) → PyData.canLayAll0 (ks.map kyD) = true
  | [], _ => by simp [PyData.canLayAll0]
  | k :: ks, h => by
    rw [List.map_cons]
    have h' : PyData.strOk k.1 = true := h k (by simp)
    simp [PyData.canLayAll0, canLay_keys ks fun k hk => h k (by simp [hk]), kyD, PyData.canLay0, h']
theorem depth_keys : ∀ ks : List Ky, PyData.depthAll (ks.map kyD) ≤ 3
  | [] => by simp [PyData.depthAll]
  | k :: ks => by
    have ih := depth_keys ks
    rw [List.map_cons]
    simp only [PyData.depthAll, kyD, PyData.depth] at ih ⊢
    omega
theorem rowD_lay : ∀ r : Row, rOk r → (rowD r).canLay0 = true
  | .bgn n ks, h => by
    obtain ⟨h1, h2⟩ := h
    have h3 := canLay_keys ks h2
    have h4 : PyData.strOk "begin" = true := by decide +kernel
    simp [rowD, PyData.canLay0, PyData.canLayAll0, h1, h3, h4]
  | .stp i, _ => by
    have h4 : PyData.strOk "step" = true := by decide +kernel
    simp [rowD, PyData.canLay0, PyData.canLayAll0, h4]
  | .fin i, _ => by
    have h4 : PyData.strOk "end" = true := by decide +kernel
    simp [rowD, PyData.canLay0, PyData.canLayAll0, h4]
  | .drp i, _ => by
    have h4 : PyData.strOk "drop" = true := by decide +kernel
    simp [rowD, PyData.canLay0, PyData.canLayAll0, h4]
theorem rowD_depth : ∀ r : Row, (rowD r).depth ≤ 6
  | .bgn n ks => by
    have := depth_keys ks
    simp only [rowD, PyData.depth, PyData.depthAll]
    omega
  | .stp i => by simp only [rowD, PyData.depth, PyData.depthAll]; omega
  | .fin i => by simp only [rowD, PyData.depth, PyData.depthAll]; omega
  | .drp i => by simp only [rowD, PyData.depth, PyData.depthAll]; omega
theorem rows_shaped (rows : List Row) (h : ∀ r ∈ rows, rOk r) : SeqAt.shaped (.list (rows.map rowD)) = true := by
  have h1 : ∀ rows : List Row, (∀ r ∈ rows, rOk r) → PyData.canLayAll0 (rows.map rowD) = true := fun rows => by
    induction rows with
    | nil => intro _; simp [PyData.canLayAll0]
    | cons r rows ih =>
      intro h
      rw [List.map_cons]
      simp [PyData.canLayAll0, ih fun k hk => h k (by simp [hk]), rowD_lay r (h r (by simp))]
  have h2 : ∀ rows : List Row, PyData.depthAll (rows.map rowD) ≤ 7 := fun rows => by
    induction rows with
    | nil => simp [PyData.depthAll]
    | cons r rows ih =>
      have := rowD_depth r
      rw [List.map_cons]
      simp only [PyData.depthAll] at ih ⊢
      omega
  have h3 := h2 rows
  show (PyData.canLay0 (.list (rows.map rowD)) && decide (PyData.depth (.list (rows.map rowD)) ≤ 64)) = true
  rw [Bool.and_eq_true]
  refine ⟨?_, decide_eq_true ?_⟩
  · simp only [PyData.canLay0]
    exact h1 rows h
  · simp only [PyData.depth]
    omega
theorem nil_shaped : SeqAt.shaped (.list []) = true := by decide +kernel
theorem eqv_nil (ds : List PyData) : PyData.eqv (.list ds) (.list []) = decide (ds = []) := by
  cases ds with
  | nil => simp [PyData.eqv, PyData.eqvAll]
  | cons d ds => simp [PyData.eqv, PyData.eqvAll]
section
variable {P : Program} {w : World} {K : PySem.W.Frag} {mg : Str → Option Value} {base : Heap} {T : List (Addr × Str)}
/-! ### is_called_off, look_at_end -/
def sp_S_off (K : PySem.W.Frag) (T : List (Addr × Str)) : Sp := fun vs H Q _ => ∃ (p : Addr) (b : Bk) (ds : List Ds) (rows : List Row) (fp : List Addr) (i : Nat) (d : Ds), vs = [.ref p, .int i] ∧ StAt K H p b ds rows fp ∧ ds[i]? = some d ∧ (∀ d ∈ ds, WfV d) ∧ ds.length ≤ 40 ∧ ∀ H', Go T No H H' → Q (.bl (isOff ds d)) H'
/-- one other calls it off -/
def offBy (own d : Ds) : Bool := decide (d.word = .st) && (decide (own.begun < endOf d) && (wrote d.told).any fun k => decide (k ∈ wrote own.told))
theorem isOff_eq (ds : List Ds) (own : Ds) : isOff ds own = ds.any (offBy own) := rfl
theorem b_S_off (t : Tp K mg) : FB P w K mg base 2 (He.fAd K ("Stepper", some "is_called_off")) p_S_is_called_off (sp_S_off K T) := by
  refine FB.of t.f_S_is_called_off sc_S_is_called_off (fun vs H Q E ⟨_, _, _, _, _, _, _, h, _⟩ => by rw [h]; rfl) (fun cdv A outer s H vs Q E hr h => ?_)
  obtain ⟨p, b, ds, rows, fp, i, d, rfl, hS, hd, hW, hlen, hq⟩ := h
  have nd := sc_S_is_called_off.nd
  have hu := hu65 hr
  refine ⟨_, pss_cons (ps_set (i := 2) nd rfl (Or.inr rfl) (pe_ix ix_list (pe_fld (pv 0) rfl) (pv 1) (fun _ _ => rfl)))
    (pss_cons (ps_for PassesOwn.never rfl (pi_list (pe_fld (pv 0) rfl)) (pg_name (i := 3) nd rfl (Or.inl rfl))
      (pss_one (ps_if (PW.pt (pw_and (pt_cmpR op_eq (pe_fld (pv 3) rfl) pe_str (nomark _)) (pw_and1 (pt_cmpR op_gt (pe_fld (pv 3) rfl) (pe_fld (pv 2) rfl) (nomark _)))))
        (pss_one (ps_if (pt_val (pe_callB (cr_any rfl) (by rfl) t.b_any (by decide +kernel) (pa_cons (pe_lc (own := [("key", 4)]) (g := gName 4) (tt := tYes) (te := tOp (rInD K) (tVar 4) (tMeth (cD K) "written" (sp_D_written K T) [] L2.E0 (tVar 2) tNil)) rfl nd (pi_list (pe_m0 t.c_Deal t.m_D_written (b_D_written (T := T) t) hr (pv 3))) (blkOk_by (own := [("key", 4)]) (N := n_S_is_called_off) (sc := defScope s_S_is_called_off) (by decide +kernel))
          (fun _ _ _ _ _ => pg_name (i := 4) nd rfl (Or.inl rfl)) (fun _ _ _ _ _ => pts_nil) (fun _ _ _ _ _ => pe_cmpR (op_inD hu) (pv 4) (pe_m0 t.c_Deal t.m_D_written (b_D_written (T := T) t) hr (pv 2)) (by rfl))) pa_nil))) (pss_one (ps_ret pe_bl)) pss_nil)) pss_nil)))
    (pss_one (ps_ret pe_bl))), ?_⟩
  obtain ⟨dx, ob, Ld, Lg, qs, lg, S, rfl⟩ := hS
  have hlq : qs.length = ds.length := S.dl.1
  obtain ⟨q, hqi, D⟩ := S.dl.at hd
  refine ⟨_, rfl, p, _, dx, _, _, rfl, S.o, t.c_Stepper, t.n_deals, sFl_deals, _, rfl, _, _, _, _, rfl, rfl, .inl (.inl S.ld), atI_nat (by rw [List.getElem?_map, hqi]; rfl), ?_⟩
  refine ⟨_, rfl, p, _, dx, _, _, rfl, S.o, t.c_Stepper, t.n_deals, sFl_deals, _, rfl, ⟨_, .inl (.inl S.ld)⟩, ?_⟩
  refine for_list (K := K) (a := Ld) (xs := qs.map fun q => .ref q.1) (fun j σ H2 => Go T No H H2 ∧ (∃ z1, σ = [some (.ref p), some (.int i), some (.ref q.1), z1, none]) ∧ ∀ m e, m < j → ds[m]? = some e → offBy d e = false)
    ⟨Go.refl, ⟨none, rfl⟩, fun m e h => absurd h (Nat.not_lt_zero _)⟩ (fun j σ H2 _ c => .inl (.inl (c.1.lst S.ld id))) ?_ ?_
  · rintro j x σ H2 hj ⟨g, ⟨z1, rfl⟩, hn⟩
    obtain ⟨r, hrj, rfl⟩ : ∃ r, qs[j]? = some r ∧ x = .ref r.1 := by
      rw [List.getElem?_map] at hj
      cases e : qs[j]? with
      | none =>
        rw [e] at hj
        cases hj
      | some r =>
        rw [e] at hj
        exact ⟨r, rfl, (Option.some.inj hj).symm⟩
    have S2 := S.go0 g
    obtain ⟨e, he, D2⟩ := S2.dl.atL hrj
    have em := List.mem_of_getElem? he
    have D0 := D.go g id id
    obtain ⟨dy, t1, t2, kb, ah, xs, h1, h2, h3, h4⟩ := id D2
    obtain ⟨dy', t1', t2', kb', ah', xs', h1', h2', h3', h4'⟩ := id D0
    have nxt : offBy d e = false → ∀ H3, Go T No H2 H3 → Go T No H H3 ∧ (∃ z1, ([some (.ref p), some (.int i), some (.ref q.1), some (.ref r.1), none] : L2.St) = [some (.ref p), some (.int i), some (.ref q.1), z1, none]) ∧ ∀ m e, m < j + 1 → ds[m]? = some e → offBy d e = false := fun ho H3 g3 => by
      refine ⟨g.thn0 g3, ⟨_, rfl⟩, fun m e' hm he' => ?_⟩
      by_cases c : m = j
      · subst c
        rw [he] at he'
        cases he'
        exact ho
      · exact hn m e' (by omega) he'
    refine ⟨_, rfl, r.1, _, dy, _, _, rfl, h1, t.c_Deal, t.n_word, dFl_word, rfl, _, rfl, ?_⟩
    rw [wd_st]
    by_cases e1 : e.word = .st
    · rw [decide_eq_true e1]
      refine iteT ?_
      obtain ⟨n, en⟩ := (hW e em).en e1
      refine ⟨_, rfl, r.1, _, dy, _, _, rfl, h1, t.c_Deal, t.n_ended, dFl_ended, _, rfl, q.1, _, dy', _, _, rfl, h1', t.c_Deal, t.n_begun, dFl_begun, (n : Int), _, by rw [en]; rfl, rfl, _, rfl, ?_⟩
      have eE : endOf e = n := by unfold endOf; rw [en]; rfl
      by_cases e2 : d.begun < n
      · rw [decide_eq_true (by omega)]
        refine iteT ?_
        refine ⟨_, rfl, r.1, dy, _, rfl, h1, dFl_m3, r, b, e, rfl, D2, (hW e em).tl, fun v H3 g3 f3 => ?_⟩
        obtain ⟨a, o, ys, rfl, ha, hys⟩ := fz_list.mp f3
        have D3 := D0.go g3 id id
        refine ⟨a, rfl, ⟨_, SqL_frz ha⟩, fun L hL => ?_⟩
        refine lc_list (K := K) (a := a) (xs := ys) (LcP T No (fun _ => True) (SF (fun k : Ky => .bool (decide (k ∈ wrote d.told))) (wrote e.told)) H3 L) (LcP.zero hL trivial) (fun m H4 _ c => SqL_frz (c.1.fz _ _ ha trivial)) (fun m y H4 hm c => ?_) fun H4 c => ?_
        · obtain ⟨k, hk, fk⟩ := hys.atL hm
          have km := List.mem_of_getElem? hk
          have ml : m < (wrote e.told).length := (List.getElem?_eq_some_iff.mp hk).1
          have wl : (wrote e.told).length ≤ 100 := by
            unfold wrote
            rw [List.length_map]
            exact Nat.le_trans (List.length_filter_le _ _) (hW e em).tl
          have D4 := D3.go c.1 id id
          obtain ⟨dy4, t14, t24, kb4, ah4, xs4, h14, h24, h34, h44⟩ := id D4
          refine ⟨rfl, iteT (B := LcP T No (fun _ => True) (SF (fun k : Ky => .bool (decide (k ∈ wrote d.told))) (wrote e.told)) H3 L (m + 1) H4) ?_⟩
          refine ⟨_, rfl, _, rfl, q.1, dy4, _, rfl, h14, dFl_m3, q, b, d, rfl, D4, (hW d (List.mem_of_getElem? hd)).tl, fun v5 H5 g5 f5 => ?_⟩
          refine ⟨kyD k, _, FzD.dp _ _ ((fk.go c.1).go g5), FzD.dp _ _ f5, kyD_shaped (wrote_ok (hW e em) k km), kyDs_shaped (wrote_ok (hW d (List.mem_of_getElem? hd))), ?_⟩
          rw [kyDs_any]
          exact c.yes g5 hL id SP.st (sm (by omega)) (SP.yes hk rfl (.bl _)) fun _ => trivial
        · obtain ⟨g4, _, zs, hz, fz⟩ := c.all hys.1
          have ez := fzl_bls fz
          subst ez
          refine ⟨L, (wrote e.told).map fun k => decide (k ∈ wrote d.told), rfl, by rw [List.map_map]; exact .inl (.inl hz), _, rfl, ?_⟩
          have eo : offBy d e = (((wrote e.told).map fun k => decide (k ∈ wrote d.told)).any id) := by
            unfold offBy
            rw [decide_eq_true e1, eE, decide_eq_true e2, List.any_map]
            rfl
          rw [← eo]
          cases ho : offBy d e with
          | true =>
            refine iteT ?_
            have : isOff ds d = true := by
              rw [isOff_eq, List.any_eq_true]
              exact ⟨e, em, ho⟩
            rw [← this]
            exact hq _ (g.thn0 (g3.thn0 g4))
          | false => exact iteF (nxt ho _ (g3.thn0 g4))
      · rw [decide_eq_false (by omega)]
        refine iteF (nxt ?_ _ Go.refl)
        unfold offBy
        rw [eE, decide_eq_false e2]
        simp
    · rw [decide_eq_false e1]
      refine iteF (iteF (nxt ?_ _ Go.refl))
      unfold offBy
      rw [decide_eq_false e1]
      rfl
  · rintro σ H2 ⟨g, ⟨z1, rfl⟩, hn⟩
    have : isOff ds d = false := by
      rw [isOff_eq, List.any_eq_false]
      intro e he
      obtain ⟨m, hm, ee⟩ := List.mem_iff_getElem.mp he
      rw [hn m e (by rw [List.length_map, hlq]; exact hm) (by rw [List.getElem?_eq_getElem hm, ee])]
      simp
    rw [← this]
    exact hq _ g
def sp_S_look (K : PySem.W.Frag) : Sp := fun vs H Q _ => ∃ (p : Addr) (b : Bk) (ds : List Ds) (rows : List Row) (fp : List Addr) (i : Nat) (d : Ds), vs = [.ref p, .int i] ∧ StAt K H p b ds rows fp ∧ ds[i]? = some d ∧ d.word = .op ∧ d.told.length = (dealAt b d.deal).steps.length ∧ Q .non H
theorem b_S_look (t : Tp K mg) : FB P w K mg base 3 (He.fAd K ("Stepper", some "look_at_end")) p_S_look_at_end (sp_S_look K) := by
  refine FB.of t.f_S_look_at_end sc_S_look_at_end (fun vs H Q E ⟨_, _, _, _, _, _, _, h, _⟩ => by rw [h]; rfl) (fun cdv A outer s H vs Q E hr h => ?_)
  obtain ⟨p, b, ds, rows, fp, i, d, rfl, hS, hd, hw, hl, hq⟩ := h
  have nd := sc_S_look_at_end.nd
  refine ⟨_, pss_cons (ps_set (i := 2) nd rfl (Or.inl rfl) (pe_m t.c_Stepper t.m_S_open_deal (b_S_open_deal t) hr (pv 0) (pa_cons (pv 1) pa_nil)))
    (pss_one (ps_if (pt_cmpR op_gt (pe_m0 t.c_Deal t.m_D_steps_left (b_D_steps_left t) hr (pv 2)) pe_int (nomark _)) (pss_one ps_never) pss_nil)), ?_⟩
  obtain ⟨dx, ob, Ld, Lg, qs, lg, S, rfl⟩ := hS
  obtain ⟨q, hqi, D⟩ := S.dl.at hd
  refine ⟨_, rfl, p, dx, _, rfl, S.o, sFl_m2, _, rfl, p, dx, ob, Ld, Lg, qs, i, q, b, d, rfl, S.o, S.ld, hqi, D, hw, ?_⟩
  obtain ⟨dy, t1, t2, kb, ah, xs, h1, h2, h3, h4⟩ := id D
  refine ⟨_, rfl, q.1, dy, _, rfl, h1, dFl_m2, q, b, d, rfl, D, _, _, rfl, rfl, _, rfl, ?_⟩
  rw [decide_eq_false (by omega)]
  exact iteF hq
/-! ### close, shut, end, drop -/
theorem StP.closed {H : Hp} {b : Bk} {p dx Ld Lg : Addr} {ob : V} {qs : List (Addr × Addr)} {lg : List V} {ds : List Ds} {rows : List Row} (S : StP K H b p dx ob Ld Lg qs lg ds rows) : lg.length = rows.length ∧ qs.length = ds.length := ⟨S.rw_.1, S.dl.1⟩
def sp_S_close (K : PySem.W.Frag) (T : List (Addr × Str)) : Sp := fun vs H Q _ => ∃ (p : Addr) (b : Bk) (ds : List Ds) (rows : List Row) (fp : List Addr) (i : Nat) (d : Ds) (st : Bool), vs = [.ref p, .int i, .bl st] ∧ StAt K H p b ds rows fp ∧ ds[i]? = some d ∧ rows.length ≤ 1000 ∧
  ∀ H', Go T (· ∈ fp) H H' → StAt K H' p b (ds.set i { d with ended := some rows.length, word := if st then .st else .of }) (rows ++ [.fin i]) fp → Q (.bl st) H'
theorem b_S_close (t : Tp K mg) : FB P w K mg base 2 (He.fAd K ("Stepper", some "close")) p_S_close (sp_S_close K T) := by
  refine FB.of t.f_S_close sc_S_close (fun vs H Q E ⟨_, _, _, _, _, _, _, _, h, _⟩ => by rw [h]; rfl) (fun cdv A outer s H vs Q E hr h => ?_)
  obtain ⟨p, b, ds, rows, fp, i, d, st, rfl, hS, hd, hrl, hq⟩ := h
  have nd := sc_S_close.nd
  refine ⟨_, pss_cons (ps_set (i := 3) nd rfl (Or.inl rfl) (pe_ix ix_list (pe_fld (pv 0) rfl) (pv 1) (fun _ _ => rfl)))
    (pss_cons (ps_expr (pe_m t.c_Deal t.m_D_closed (b_D_closed (T := T) t) hr (pv 3) (pa_cons (pe_ix ix_list (pe_lst (pa_cons pe_str (pa_cons pe_str pa_nil))) (pe_callTy call_int1 (by rfl) t.b_int (by decide +kernel) (pa_cons (pv 2) pa_nil)) (fun _ _ => rfl)) (pa_cons (pe_callB call_len (by rfl) t.b_len PySem.boot_len (pa_cons (pe_fld (pv 0) rfl) pa_nil)) pa_nil))))
    (pss_cons (ps_expr (pe_bm PySem.F.plainAttrs_list PySem.F.slot_list_append PySem.F.type_list_append mt_append (pe_fld (pv 0) rfl) (pa_cons (pe_tup (pa_cons pe_str (pa_cons (pv 1) pa_nil))) pa_nil)))
    (pss_one (ps_ret (pv 2))))), ?_⟩
  obtain ⟨dx, ob, Ld, Lg, qs, lg, S, rfl⟩ := hS
  obtain ⟨q, hqi, D⟩ := S.dl.at hd
  have lgl : lg.length = rows.length := S.rw_.1
  refine ⟨_, rfl, p, _, dx, _, _, rfl, S.o, t.c_Stepper, t.n_deals, sFl_deals, _, rfl, _, _, _, _, rfl, rfl, .inl (.inl S.ld), atI_nat (by rw [List.getElem?_map, hqi]; rfl), ?_⟩
  obtain ⟨dy, t1, t2, kb, ah, xs, h1, h2, h3, h4⟩ := id D
  refine ⟨_, rfl, q.1, dy, _, rfl, h1, dFl_m4, by show 2 ≤ sizeLine; decide, fun L hL => ?_⟩
  have s1 : Go T No H (upd H L (.lst [.str "off", .str "stands"])) := Go.refl.add hL
  have L1 : upd H L (.lst [.str "off", .str "stands"]) L = some (.lst [.str "off", .str "stands"]) := upd_same
  generalize upd H L (.lst [.str "off", .str "stands"]) = H1 at s1 L1
  have S1 := S.go0 s1
  have D1 := D.go s1 id id
  refine ⟨_, rfl, .inr ⟨st, rfl, _, _, _, .str (if st then Wd.st else Wd.of).s, rfl, rfl, .inl (.inl L1), ?_, ?_⟩⟩
  · cases st
    · exact atI_nat (j := 0) rfl
    · exact atI_nat (j := 1) rfl
  · refine ⟨_, rfl, p, _, dx, _, _, rfl, S1.o, t.c_Stepper, t.n_log, sFl_log, _, lg.length, rfl, .inl ⟨_, .inl (.inl S1.gl), rfl⟩, q, b, d, _, lg.length, rfl, D1, fun H2 g2 D2 => ?_⟩
    have mq : q.1 ∈ fpS p Ld Lg qs := mem_fpS.mpr (.inr (.inr (.inr ⟨q, List.mem_of_getElem? hqi, .inl rfl⟩)))
    have S2 := S1.mod hqi g2 (fun a z => .inl z) D2
    have G2 : Go T (· ∈ fpS p Ld Lg qs) H H2 := s1.wk.thn g2 fun a z => .inl (by rw [z]; exact mq)
    refine ⟨_, rfl, p, _, dx, _, _, rfl, S2.o, t.c_Stepper, t.n_log, sFl_log, .inl ⟨rfl, _, .inl (.inl S2.gl)⟩, _, rfl, by show 2 ≤ sizeLine; decide, fun m hm => ?_⟩
    have s3 : Go T No H2 (upd H2 m (.tup [.str "end", .int (i : Nat)])) := Go.refl.add hm
    have m3 : upd H2 m (.tup [.str "end", .int (i : Nat)]) m = some (.tup [.str "end", .int (i : Nat)]) := upd_same
    generalize upd H2 m (.tup [.str "end", .int (i : Nat)]) = H3 at s3 m3
    have S3 := S2.go0 s3
    refine ⟨Lg, _, _, rfl, rfl, S3.gl, by rw [lgl]; exact sm hrl, _, rfl, ?_⟩
    have S4 := S3.log (r := .fin i) (fz_t2.mpr ⟨m, _, _, rfl, m3, .str _, .int _⟩)
    rw [lgl] at S4
    exact hq _ ((G2.thn0 s3).set S3.gl trivial (.inl (mem_fpS.mpr (.inr (.inr (.inl rfl)))))) ⟨dx, ob, Ld, Lg, qs, _, S4, rfl⟩
def sp_S_shut (K : PySem.W.Frag) (T : List (Addr × Str)) : Sp := fun vs H Q _ => ∃ (p : Addr) (b : Bk) (ds : List Ds) (rows : List Row) (fp : List Addr) (i : Nat) (d : Ds), vs = [.ref p, .int i] ∧ StAt K H p b ds rows fp ∧ ds[i]? = some d ∧ rows.length ≤ 1000 ∧
  ∀ H', Go T (· ∈ fp) H H' → StAt K H' p b (ds.set i { d with ended := some rows.length, word := .of }) (rows ++ [.drp i]) fp → Q .non H'
theorem b_S_shut (t : Tp K mg) : FB P w K mg base 2 (He.fAd K ("Stepper", some "shut")) p_S_shut (sp_S_shut K T) := by
  refine FB.of t.f_S_shut sc_S_shut (fun vs H Q E ⟨_, _, _, _, _, _, _, h, _⟩ => by rw [h]; rfl) (fun cdv A outer s H vs Q E hr h => ?_)
  obtain ⟨p, b, ds, rows, fp, i, d, rfl, hS, hd, hrl, hq⟩ := h
  have nd := sc_S_shut.nd
  refine ⟨_, pss_cons (ps_set (i := 2) nd rfl (Or.inl rfl) (pe_ix ix_list (pe_fld (pv 0) rfl) (pv 1) (fun _ _ => rfl)))
    (pss_cons (ps_expr (pe_m t.c_Deal t.m_D_closed (b_D_closed (T := T) t) hr (pv 2) (pa_cons pe_str (pa_cons (pe_callB call_len (by rfl) t.b_len PySem.boot_len (pa_cons (pe_fld (pv 0) rfl) pa_nil)) pa_nil))))
    (pss_one (ps_expr (pe_bm PySem.F.plainAttrs_list PySem.F.slot_list_append PySem.F.type_list_append mt_append (pe_fld (pv 0) rfl) (pa_cons (pe_tup (pa_cons pe_str (pa_cons (pv 1) pa_nil))) pa_nil))))), ?_⟩
  obtain ⟨dx, ob, Ld, Lg, qs, lg, S, rfl⟩ := hS
  obtain ⟨q, hqi, D⟩ := S.dl.at hd
  have lgl : lg.length = rows.length := S.rw_.1
  refine ⟨_, rfl, p, _, dx, _, _, rfl, S.o, t.c_Stepper, t.n_deals, sFl_deals, _, rfl, _, _, _, _, rfl, rfl, .inl (.inl S.ld), atI_nat (by rw [List.getElem?_map, hqi]; rfl), ?_⟩
  obtain ⟨dy, t1, t2, kb, ah, xs, h1, h2, h3, h4⟩ := id D
  refine ⟨_, rfl, q.1, dy, _, rfl, h1, dFl_m4, _, rfl, p, _, dx, _, _, rfl, S.o, t.c_Stepper, t.n_log, sFl_log, _, lg.length, rfl, .inl ⟨_, .inl (.inl S.gl), rfl⟩, q, b, d, .of, lg.length, rfl, D, fun H2 g2 D2 => ?_⟩
  have mq : q.1 ∈ fpS p Ld Lg qs := mem_fpS.mpr (.inr (.inr (.inr ⟨q, List.mem_of_getElem? hqi, .inl rfl⟩)))
  have S2 := S.mod hqi g2 (fun a z => .inl z) D2
  have G2 : Go T (· ∈ fpS p Ld Lg qs) H H2 := g2.mono fun a z => .inl (by rw [z]; exact mq)
  refine ⟨_, rfl, p, _, dx, _, _, rfl, S2.o, t.c_Stepper, t.n_log, sFl_log, .inl ⟨rfl, _, .inl (.inl S2.gl)⟩, _, rfl, by show 2 ≤ sizeLine; decide, fun m hm => ?_⟩
  have s3 : Go T No H2 (upd H2 m (.tup [.str "drop", .int (i : Nat)])) := Go.refl.add hm
  have m3 : upd H2 m (.tup [.str "drop", .int (i : Nat)]) m = some (.tup [.str "drop", .int (i : Nat)]) := upd_same
  generalize upd H2 m (.tup [.str "drop", .int (i : Nat)]) = H3 at s3 m3
  have S3 := S2.go0 s3
  refine ⟨Lg, _, _, rfl, rfl, S3.gl, by rw [lgl]; exact sm hrl, ?_⟩
  have S4 := S3.log (r := .drp i) (fz_t2.mpr ⟨m, _, _, rfl, m3, .str _, .int _⟩)
  rw [lgl] at S4
  exact hq _ ((G2.thn0 s3).set S3.gl trivial (.inl (mem_fpS.mpr (.inr (.inr (.inl rfl)))))) ⟨dx, ob, Ld, Lg, qs, _, S4, rfl⟩
def sp_S_end (K : PySem.W.Frag) (T : List (Addr × Str)) : Sp := fun vs H Q _ => ∃ (p : Addr) (b : Bk) (ds : List Ds) (rows : List Row) (fp : List Addr) (i : Nat) (d : Ds), vs = [.ref p, .int i] ∧ StAt K H p b ds rows fp ∧ ds[i]? = some d ∧ d.word = .op ∧ d.told.length = (dealAt b d.deal).steps.length ∧ (∀ d ∈ ds, WfV d) ∧ ds.length ≤ 40 ∧ rows.length ≤ 1000 ∧
  ∀ H', Go T (· ∈ fp) H H' → StAt K H' p b (doRow b ds rows.length (.fin i)) (rows ++ [.fin i]) fp → Q (.bl (!isOff ds d)) H'
theorem b_S_end (t : Tp K mg) : FB P w K mg base 4 (He.fAd K ("Stepper", some "end")) p_S_end (sp_S_end K T) := by
  refine FB.of t.f_S_end sc_S_end (fun vs H Q E ⟨_, _, _, _, _, _, _, h, _⟩ => by rw [h]; rfl) (fun cdv A outer s H vs Q E hr h => ?_)
  obtain ⟨p, b, ds, rows, fp, i, d, rfl, hS, hd, hw, hl, hW, hlen, hrl, hq⟩ := h
  refine ⟨_, pss_cons (ps_expr (pe_m t.c_Stepper t.m_S_look_at_end (b_S_look t) hr (pv 0) (pa_cons (pv 1) pa_nil)))
    (pss_one (ps_ret (pe_m t.c_Stepper t.m_S_close (b_S_close (T := T) t) hr (pv 0) (pa_cons (pv 1) (pa_cons (pe_not (pe_m t.c_Stepper t.m_S_is_called_off (b_S_off (T := T) t) hr (pv 0) (pa_cons (pv 1) pa_nil))) pa_nil))))), ?_⟩
  obtain ⟨dx, ob, Ld, Lg, qs, lg, S, rfl⟩ := id hS
  refine ⟨_, rfl, p, dx, _, rfl, S.o, sFl_m6, _, rfl, p, b, ds, rows, _, i, d, rfl, hS, hd, hw, hl, ?_⟩
  refine ⟨_, rfl, p, dx, _, rfl, S.o, sFl_m7, _, rfl, _, rfl, p, dx, _, rfl, S.o, sFl_m5, _, rfl, p, b, ds, rows, _, i, d, rfl, hS, hd, hW, hlen, fun H1 g1 => ⟨_, rfl, ?_⟩⟩
  refine ⟨p, b, ds, rows, _, i, d, _, rfl, hS.go0 g1, hd, hrl, fun H2 g2 S2 => hq _ (g1.wk.trans g2) ?_⟩
  have e : doRow b ds rows.length (.fin i) = ds.set i { d with ended := some rows.length, word := if (!isOff ds d) = true then .st else .of } := by
    show modAt ds i _ = _
    rw [modAt_some hd]
    cases isOff ds d <;> rfl
  rw [e]
  exact S2
def sp_S_drop (K : PySem.W.Frag) (T : List (Addr × Str)) : Sp := fun vs H Q _ => ∃ (p : Addr) (b : Bk) (ds : List Ds) (rows : List Row) (fp : List Addr) (i : Nat) (d : Ds), vs = [.ref p, .int i] ∧ StAt K H p b ds rows fp ∧ ds[i]? = some d ∧ d.word = .op ∧ rows.length ≤ 1000 ∧
  ∀ H', Go T (· ∈ fp) H H' → StAt K H' p b (doRow b ds rows.length (.drp i)) (rows ++ [.drp i]) fp → Q .non H'
theorem b_S_drop (t : Tp K mg) : FB P w K mg base 3 (He.fAd K ("Stepper", some "drop")) p_S_drop (sp_S_drop K T) := by
  refine FB.of t.f_S_drop sc_S_drop (fun vs H Q E ⟨_, _, _, _, _, _, _, h, _⟩ => by rw [h]; rfl) (fun cdv A outer s H vs Q E hr h => ?_)
  obtain ⟨p, b, ds, rows, fp, i, d, rfl, hS, hd, hw, hrl, hq⟩ := h
  refine ⟨_, pss_cons (ps_expr (pe_m t.c_Stepper t.m_S_open_deal (b_S_open_deal t) hr (pv 0) (pa_cons (pv 1) pa_nil))) (pss_one (ps_expr (pe_m t.c_Stepper t.m_S_shut (b_S_shut (T := T) t) hr (pv 0) (pa_cons (pv 1) pa_nil)))), ?_⟩
  obtain ⟨dx, ob, Ld, Lg, qs, lg, S, rfl⟩ := id hS
  obtain ⟨q, hqi, D⟩ := S.dl.at hd
  refine ⟨_, rfl, p, dx, _, rfl, S.o, sFl_m2, _, rfl, p, dx, ob, Ld, Lg, qs, i, q, b, d, rfl, S.o, S.ld, hqi, D, hw, ?_⟩
  refine ⟨_, rfl, p, dx, _, rfl, S.o, sFl_m8, _, rfl, p, b, ds, rows, _, i, d, rfl, hS, hd, hrl, fun H2 g2 S2 => hq _ g2 ?_⟩
  have e : doRow b ds rows.length (.drp i) = ds.set i { d with ended := some rows.length, word := .of } := modAt_some hd
  rw [e]
  exact S2
end
end K29
/-! text K29L1 -/
namespace K29
open PySem PySem.Spec PyProof.Rows L2 LamX
/-! ### the law's world: dicts -/
def wFl (dl kv bg en wd st : V) : List (Key × V) := [(.inr "deal", dl), (.inr "keys", kv), (.inr "begun", bg), (.inr "ended", en), (.inr "word", wd), (.inr "steps", st)]
section
variable {dl kv bg en wd st v : V}
theorem wFl_deal : valV (wFl dl kv bg en wd st) (.inr "deal") = some dl := by kernel_rfl
theorem wFl_keys : valV (wFl dl kv bg en wd st) (.inr "keys") = some kv := by kernel_rfl
theorem wFl_begun : valV (wFl dl kv bg en wd st) (.inr "begun") = some bg := by kernel_rfl
theorem wFl_ended : valV (wFl dl kv bg en wd st) (.inr "ended") = some en := by kernel_rfl
theorem wFl_word : valV (wFl dl kv bg en wd st) (.inr "word") = some wd := by kernel_rfl
theorem wFl_steps : valV (wFl dl kv bg en wd st) (.inr "steps") = some st := by kernel_rfl
theorem wFl_put_ended : putK (wFl dl kv bg en wd st) (.inr "ended") v = wFl dl kv bg v wd st := by kernel_rfl
theorem wFl_put_word : putK (wFl dl kv bg en wd st) (.inr "word") v = wFl dl kv bg en v st := by kernel_rfl
theorem wFl_init : putK (mergeK [] [(.inr "deal", dl), (.inr "keys", kv), (.inr "begun", bg), (.inr "ended", en), (.inr "word", wd)]) (.inr "steps") st = wFl dl kv bg en wd st := by kernel_rfl
end
/-- a dealing of the world: its dict at q.1, its steps at q.2 -/
def WdAt (H : Hp) (q : Addr × Addr) (d : Ds) : Prop :=
  ∃ (kv : V) (xs : List V), H q.1 = some (.dK (wFl (.int (d.deal : Nat)) kv (.int (d.begun : Nat)) (snV d.ended) (.str d.word.s) (.ref q.2))) ∧ FzD H kv (.list (d.keys.map kyD)) ∧ H q.2 = some (.lst xs) ∧ FzL H tkD xs d.told
def fpW (w : Addr) (qs : List (Addr × Addr)) : List Addr := w :: qs.flatMap fun q => [q.1, q.2]
theorem mem_fpW {w a : Addr} {qs : List (Addr × Addr)} : a ∈ fpW w qs ↔ a = w ∨ ∃ q ∈ qs, a = q.1 ∨ a = q.2 := by
  simp only [fpW, List.mem_cons, List.mem_flatMap, List.not_mem_nil, or_false]
structure WP (H : Hp) (w : Addr) (qs : List (Addr × Addr)) (ds : List Ds) : Prop where
  l : H w = some (.lst (qs.map fun q => .ref q.1))
  d : Zp (WdAt H) qs ds
  nd : (fpW w qs).Nodup
section
variable {T : List (Addr × Str)} {M : Addr → Prop} {H H' : Hp} {w : Addr} {qs : List (Addr × Addr)} {q : Addr × Addr} {ds : List Ds} {d d' : Ds} {i : Nat}
theorem WdAt.go (D : WdAt H q d) (g : Go T M H H') (n1 : ¬ M q.1) (n2 : ¬ M q.2) : WdAt H' q d := by
  obtain ⟨kv, xs, h1, h2, h3, h4⟩ := D
  exact ⟨kv, xs, g.dK h1 n1, h2.go g, g.lst h3 n2, h4.go g⟩
theorem WP.go (W : WP H w qs ds) (g : Go T M H H') (n : ∀ a ∈ fpW w qs, ¬ M a) : WP H' w qs ds := by
  have k : ∀ {a}, (a = w ∨ ∃ q ∈ qs, a = q.1 ∨ a = q.2) → ¬ M a := fun h => n _ (mem_fpW.mpr h)
  exact ⟨g.lst W.l (k (.inl rfl)), Zp.monoM W.d fun q d hq _ h => h.go g (k (.inr ⟨q, hq, .inl rfl⟩)) (k (.inr ⟨q, hq, .inr rfl⟩)), W.nd⟩
theorem WP.go0 (W : WP H w qs ds) (g : Go T No H H') : WP H' w qs ds := W.go g fun _ _ z => z
theorem WP.tr (W : WP H w qs ds) : ∀ a ∈ fpW w qs, ∃ o, H a = some o ∧ Mb o := fun a h => by
  rcases mem_fpW.mp h with rfl | ⟨q, hq, h⟩
  · exact ⟨_, W.l, trivial⟩
  · obtain ⟨i, hi, e⟩ := List.mem_iff_getElem.mp hq
    obtain ⟨d, _, kv, xs, h1, h2, h3, h4⟩ := W.d.atL (by rw [List.getElem?_eq_getElem hi, e])
    rcases h with rfl | rfl
    · exact ⟨_, h1, trivial⟩
    · exact ⟨_, h3, trivial⟩
theorem fpW_top (h : (fpW w qs).Nodup) : ∀ r ∈ qs, r.1 ≠ w ∧ r.2 ≠ w := by
  unfold fpW at h
  simp only [List.nodup_cons, List.mem_flatMap, List.mem_cons, not_exists, not_and, not_or, List.not_mem_nil] at h
  exact fun r hr => ⟨fun z => (h.1 r hr).1 z.symm, fun z => (h.1 r hr).2.1 z.symm⟩
theorem fpW_self (h : (fpW w qs).Nodup) : ∀ r ∈ qs, r.1 ≠ r.2 := fun r hr => by
  have h2 := (List.pairwise_flatMap.mp (List.nodup_cons.mp h).2).1 r hr
  simpa using h2
theorem fpW_two (h : (fpW w qs).Nodup) {j : Nat} {r : Addr × Addr} (hi : qs[i]? = some q) (hj : qs[j]? = some r) (hne : j ≠ i) : r.1 ≠ q.1 ∧ r.1 ≠ q.2 ∧ r.2 ≠ q.1 ∧ r.2 ≠ q.2 := by
  have h2 := List.pairwise_iff_getElem.mp (List.pairwise_flatMap.mp (List.nodup_cons.mp h).2).2
  obtain ⟨li, ei⟩ := List.getElem?_eq_some_iff.mp hi
  obtain ⟨lj, ej⟩ := List.getElem?_eq_some_iff.mp hj
  rcases Nat.lt_or_gt_of_ne hne with z | z
  · have h3 := h2 j i lj li z
    rw [ei, ej] at h3
    exact ⟨h3 r.1 (by simp) q.1 (by simp), h3 r.1 (by simp) q.2 (by simp), h3 r.2 (by simp) q.1 (by simp), h3 r.2 (by simp) q.2 (by simp)⟩
  · have h3 := h2 i j li lj z
    rw [ei, ej] at h3
    exact ⟨(h3 q.1 (by simp) r.1 (by simp)).symm, (h3 q.2 (by simp) r.1 (by simp)).symm, (h3 q.1 (by simp) r.2 (by simp)).symm, (h3 q.2 (by simp) r.2 (by simp)).symm⟩
theorem WP.mod (W : WP H w qs ds) (hi : qs[i]? = some q) (g : Go T M H H') (hM : ∀ a, M a → a = q.1 ∨ a = q.2) (D : WdAt H' q d') : WP H' w qs (ds.set i d') := by
  obtain ⟨m1, m2⟩ := fpW_top W.nd q (List.mem_of_getElem? hi)
  have k : ∀ {a}, a ≠ q.1 → a ≠ q.2 → ¬ M a := fun h1 h2 z => (hM _ z).elim h1 h2
  refine ⟨g.lst W.l (k m1.symm m2.symm), ⟨by rw [List.length_set]; exact W.d.1, fun j r e hr he => ?_⟩, W.nd⟩
  by_cases hj : j = i
  · subst hj
    rw [hi] at hr
    cases hr
    have hl : j < ds.length := by rw [← W.d.1]; exact (List.getElem?_eq_some_iff.mp hi).1
    rw [List.getElem?_set_self hl] at he
    cases he
    exact D
  · rw [List.getElem?_set_ne fun z => hj z.symm] at he
    obtain ⟨k1, k2, k3, k4⟩ := fpW_two W.nd hi hr hj
    exact (W.d.2 j r e hr he).go g (k k1 k2) (k k3 k4)
theorem WP.push (W : WP H w qs ds) (D : WdAt H q d) (n1 : q.1 ∉ fpW w qs) (n2 : q.2 ∉ fpW w qs) (n3 : q.1 ≠ q.2) : WP (upd H w (.lst ((qs.map fun q => V.ref q.1) ++ [.ref q.1]))) w (qs ++ [q]) (ds ++ [d]) := by
  have m := fpW_top W.nd
  have g : Go [] (· = w) H (upd H w (.lst ((qs.map fun q => V.ref q.1) ++ [.ref q.1]))) := Go.refl.set W.l trivial (.inl rfl)
  refine ⟨by rw [upd_same, List.map_append]; rfl, Zp.snoc (Zp.monoM W.d fun q d hq _ h => h.go g (m q hq).1 (m q hq).2) (D.go g (fun z => n1 ?_) fun z => n2 ?_), ?_⟩
  · rw [z]
    exact mem_fpW.mpr (.inl rfl)
  · rw [z]
    exact mem_fpW.mpr (.inl rfl)
  · have e : fpW w (qs ++ [q]) = fpW w qs ++ [q.1, q.2] := by simp [fpW, List.flatMap_append]
    rw [e, List.nodup_append]
    refine ⟨W.nd, by simp [n3], fun a ha c hc z => ?_⟩
    subst z
    simp only [List.mem_cons, List.not_mem_nil, or_false] at hc
    rcases hc with rfl | rfl
    · exact n1 ha
    · exact n2 ha
theorem map_at {i : Nat} {x : V} (h : (qs.map fun q => V.ref q.1)[i]? = some x) : ∃ q, qs[i]? = some q ∧ x = .ref q.1 := by
  rw [List.getElem?_map] at h
  cases e : qs[i]? with
  | none =>
    rw [e] at h
    cases h
  | some q =>
    rw [e] at h
    exact ⟨q, rfl, (Option.some.inj h).symm⟩
theorem at_map (h : qs[i]? = some q) : (qs.map fun q => V.ref q.1)[i]? = some (.ref q.1) := by
  rw [List.getElem?_map, h]
  rfl
end
theorem dget {H : Hp} {a : Addr} {kvs : List (Key × V)} {x : Str} {v : V} (h : H a = some (.dK kvs)) (e : valV kvs (.inr x) = some v) : DGet H a (.str x) (some v) := by
  have g := DGet.k (k := .inr x) h
  rw [e] at g
  exact g
section
variable {P : Program} {w : World} {K : PySem.W.Frag} {mg : Str → Option Value} {base : Heap} {T : List (Addr × Str)}
/-! ### wrote, last -/
def sp_l_wrote (T : List (Addr × Str)) : Sp := fun vs H Q _ => ∃ (q : Addr × Addr) (d : Ds), vs = [.ref q.1] ∧ WdAt H q d ∧ d.told.length ≤ 100 ∧ ∀ v H', Go T No H H' → FzD H' v (.list ((wrote d.told).map kyD)) → Q v H'
theorem b_l_wrote (t : Tp K mg) : FB P w K mg base 1 (He.ga K "_law_wrote") p_l_wrote (sp_l_wrote T) := by
  refine FB.of t.f_l_wrote sc_l_wrote (fun vs H Q E ⟨_, _, h, _⟩ => by rw [h]; rfl) (fun cdv A outer s H vs Q E hr h => ?_)
  obtain ⟨q, d, rfl, hd, hlen, hq⟩ := h
  have nd := sc_l_wrote.nd
  have hu := hu_of hr
  refine ⟨_, pss_one (ps_ret (pe_fz (pe_lc (own := [("_law_deed_here", 1), ("_law_key", 2), ("_law_seen", 3)]) (g := gTup K 3 (gCons (gName 1) (gCons (gName 2) (gCons (gName 3) gNil)))) rfl nd (pi_list (pe_dget hu (pv 0) pe_str (fun _ _ => rfl))) (blkOk_by (own := [("_law_deed_here", 1), ("_law_key", 2), ("_law_seen", 3)]) (N := n_l_wrote) (sc := defScope s_l_wrote) (by decide +kernel))
      (fun _ _ _ _ _ => pg_tup rfl (pgs_cons (pg_name (i := 1) nd rfl (Or.inl rfl)) (pgs_cons (pg_name (i := 2) nd rfl (Or.inl rfl)) (pgs_cons (pg_name (i := 3) nd rfl (Or.inl rfl)) pgs_nil)))) (fun _ _ _ _ _ => pts_one (pt_cmpR op_ne (pv 1) pe_str (nomark _))) (fun _ _ _ _ _ => pv 2)))), ?_⟩
  obtain ⟨kv, xs, h1, h2, h3, h4⟩ := hd
  refine ⟨_, rfl, q.1, _, rfl, dget h1 wFl_steps, _, rfl, ⟨_, .inl (.inl h3)⟩, fun D hD => ?_⟩
  refine lc_list (K := K) (a := q.2) (xs := xs) (LcP T No (fun _ => True) (SP (fun x : Tk => kyD x.key) d.told fun x => decide (x.deed ≠ ("read" : Str))) H D) (LcP.zero hD trivial) (fun i H2 _ c => .inl (.inl (c.1.lst h3 id))) (fun i y H3 hi c => ?_) fun H3 c => ?_
  · obtain ⟨k, hk, fk⟩ := h4.atL hi
    obtain ⟨c0, c1, c2, c3, rfl, hc, q1, q2, q3⟩ := fz_t3.mp (fk.go c.1)
    obtain rfl := fz_str.mp q1
    have il : i < d.told.length := (List.getElem?_eq_some_iff.mp hk).1
    refine ⟨_, _, rfl, SqT.of hc, rfl, _, _, rfl, _, _, rfl, _, _, rfl, rfl, rfl, _, rfl, rfl, _, rfl, ?_⟩
    by_cases hne : k.deed = ("read" : Str)
    · rw [decide_eq_true (by rw [hne])]
      exact iteF (c.no Go.refl id SP.st (SP.no hk (by simp [hne])) trivial)
    · rw [decide_eq_false (by simpa using hne)]
      exact iteT ⟨_, rfl, c.yes Go.refl hD id SP.st (sm (by omega)) (SP.yes hk (by simp [hne]) q2) fun _ => trivial⟩
  · obtain ⟨g3, _, zs, hz, fz⟩ := c.flt h4.1
    refine ⟨D, _, rfl, hz, trivial, fun o => hq _ _ (g3.set hz trivial (.inr (Nw.of hD))) ?_⟩
    have fz2 : FzL H3 kyD zs (wrote d.told) := by
      unfold wrote
      exact ⟨by rw [List.length_map]; exact fz.1, fun i x y hx hy => by
        rw [List.getElem?_map] at hy
        cases e : (d.told.filter fun t => decide (t.deed ≠ ("read" : Str)))[i]? with
        | none =>
          rw [e] at hy
          cases hy
        | some z =>
          rw [e] at hy
          cases hy
          exact fz.2 i x z hx e⟩
    exact fz_list.mpr ⟨D, o, zs, rfl, upd_same, fz2.set hz trivial⟩
def sp_l_last (T : List (Addr × Str)) : Sp := fun vs H Q _ => ∃ (a : Addr) (qs : List (Addr × Addr)) (ds : List Ds) (kv : V) (key : Ky) (row : Nat), vs = [.ref a, kv, .int row] ∧ WP H a qs ds ∧ FzD H kv (kyD key) ∧ kOk key ∧ (∀ d ∈ ds, WfV d) ∧ ds.length ≤ 100 ∧ ∀ H', Go T No H H' → Q (snV (lastW ds key row)) H'
theorem lastG_lt (ds : List Ds) (key : Ky) (row : Nat) (n j : Nat) (h : lastG ds key row n = some j) : j < n ∧ Cand ds key row j := by
  have := isL_lastG ds key row n
  rw [h] at this
  exact ⟨this.1, this.2.1⟩
theorem b_l_last (t : Tp K mg) : FB P w K mg base 2 (He.ga K "_law_last") p_l_last (sp_l_last T) := by
  refine FB.of t.f_l_last sc_l_last (fun vs H Q E ⟨_, _, _, _, _, _, h, _⟩ => by rw [h]; rfl) (fun cdv A outer s H vs Q E hr h => ?_)
  obtain ⟨a, qs, ds, kv, key, row, rfl, W, hk, ok, hW, hlen, hq⟩ := h
  have nd := sc_l_last.nd
  have hu := hu_of hr
  have hu5 := hu65 hr
  refine ⟨_, pss_cons (ps_set (i := 3) nd rfl (Or.inl rfl) pe_non)
    (pss_cons (ps_for PassesOwn.never rfl (pi_enum (by rfl) t.b_enumerate (pa_cons (pv 0) pa_nil)) (pg_tup rfl (pgs_cons (pg_name (i := 4) nd rfl (Or.inl rfl)) (pgs_cons (pg_name (i := 5) nd rfl (Or.inl rfl)) pgs_nil)))
      (pss_one (ps_if (PW.pt (pw_and (pt_cmpR op_eq (pe_dget hu (pv 5) pe_str (fun _ _ => rfl)) pe_str (nomark _)) (pw_and (pt_cmpR op_lt (pe_dget hu (pv 5) pe_str (fun _ _ => rfl)) (pv 2) (nomark _)) (pw_and1 (pt_cmpR (op_inD hu5) (pv 1) (pe_f (b_l_wrote (T := T) t) t.g_law_wrote hr (pa_cons (pv 5) pa_nil)) (by rfl))))))
        (pss_one (ps_if (PW.pt (pw_or (pt_cmpR op_isN (pv 3) pe_non (nomark _)) (pw_or1 (pt_cmpR op_lt (pe_dget hu (pe_ix ix_list (pv 0) (pv 3) (fun _ _ => rfl)) pe_str (fun _ _ => rfl)) (pe_dget hu (pv 5) pe_str (fun _ _ => rfl)) (nomark _))))) (pss_one (ps_set (i := 3) nd rfl (Or.inl rfl) (pv 4))) pss_nil)) pss_nil)))
    (pss_one (ps_ret (pv 3)))), ?_⟩
  have hlq : qs.length = ds.length := W.d.1
  refine ⟨_, rfl, a, _, rfl, .inl (.inl W.l), ?_⟩
  refine for_enum (K := K) (a := a) (xs := qs.map fun q => .ref q.1) (fun i σ H2 => Go T No H H2 ∧ ∃ z1 z2, σ = [some (.ref a), some kv, some (.int row), some (snV (lastG ds key row i)), z1, z2])
    ⟨Go.refl, none, none, rfl⟩ (fun i σ H2 _ c => .inl (.inl (c.1.lst W.l id))) ?_ ?_
  · rintro i x r σ H2 hi ⟨g, z1, z2, rfl⟩ hr2
    obtain ⟨q, hqi, rfl⟩ := map_at hi
    have W2 := W.go0 g
    obtain ⟨d, hd, D2⟩ := W2.d.atL hqi
    have dm := List.mem_of_getElem? hd
    have g3 := g.add (o := .tup [.int (i : Nat), .ref q.1]) hr2
    have s3 : Go T No H2 (upd H2 r (.tup [.int (i : Nat), .ref q.1])) := Go.refl.add hr2
    have D3 := D2.go s3 id id
    have W3 := W2.go0 s3
    have t3 : upd H2 r (.tup [.int (i : Nat), .ref q.1]) r = some (.tup [.int (i : Nat), .ref q.1]) := upd_same
    generalize upd H2 r (.tup [.int (i : Nat), .ref q.1]) = H3 at g3 D3 W3 t3
    obtain ⟨kv', xs, h1, h2, h3, h4⟩ := id D3
    refine ⟨r, _, rfl, SqT.of t3, rfl, _, _, rfl, _, _, rfl, rfl, ?_⟩
    have eG : lastG ds key row (i + 1) = stepL ds key row (lastG ds key row i) i := rfl
    have eS : stepL ds key row (lastG ds key row i) i = if isCand key row d = true then (match lastG ds key row i with | none => some i | some j => if endAt ds j < endOf d then some i else some j) else lastG ds key row i := by
      unfold stepL
      rw [hd] <;> rfl
    rw [eS] at eG
    have nx : ∀ H4, Go T No H3 H4 → isCand key row d = false → Go T No H H4 ∧ ∃ z1 z2, ([some (.ref a), some kv, some (.int row), some (snV (lastG ds key row i)), some (.int (i : Nat)), some (.ref q.1)] : L2.St) = [some (.ref a), some kv, some (.int row), some (snV (lastG ds key row (i + 1))), z1, z2] :=
      fun H4 g4 hn => by
        rw [if_neg (by rw [hn]; simp)] at eG
        rw [eG]
        exact ⟨g3.thn0 g4, _, _, rfl⟩
    refine ⟨_, rfl, q.1, _, rfl, dget h1 wFl_word, rfl, _, rfl, ?_⟩
    rw [wd_st]
    by_cases e1 : d.word = .st
    · rw [decide_eq_true e1]
      refine iteT ?_
      obtain ⟨n, en⟩ := (hW d dm).en e1
      have eE : endOf d = n := by unfold endOf; rw [en]; rfl
      refine ⟨_, rfl, q.1, _, rfl, dget h1 wFl_ended, _, rfl, (n : Int), (row : Int), by rw [en]; rfl, rfl, _, rfl, ?_⟩
      by_cases e2 : n < row
      · rw [decide_eq_true (by omega)]
        refine iteT ?_
        refine ⟨_, rfl, _, rfl, q, d, rfl, D3, (hW d dm).tl, fun v H4 g4 f4 => ?_⟩
        refine ⟨kyD key, _, FzD.dp _ _ ((hk.go g3).go g4), FzD.dp _ _ f4, kyD_shaped ok, kyDs_shaped (wrote_ok (hW d dm)), _, rfl, ?_⟩
        rw [kyDs_any]
        have W4 := W3.go0 g4
        have g5 := g3.thn0 g4
        obtain ⟨kv4, xs4, h14, h24, h34, h44⟩ := D3.go g4 id id
        by_cases e3 : key ∈ wrote d.told
        · rw [decide_eq_true e3]
          refine iteT ?_
          have hc : isCand key row d = true := by
            unfold isCand
            rw [eE]
            simp [e1, e2, e3]
          rw [if_pos hc] at eG
          cases hf : lastG ds key row i with
          | none =>
            simp only [hf] at eG
            refine ⟨_, rfl, rfl, _, rfl, iteT ⟨_, rfl, ?_⟩⟩
            show Go T No H H4 ∧ _
            rw [eG]
            exact ⟨g5, _, _, rfl⟩
          | some j =>
            simp only [hf] at eG
            obtain ⟨hj, dj, hdj, hcj⟩ := lastG_lt ds key row i j hf
            obtain ⟨qj, hqj, Dj⟩ := W4.d.at hdj
            obtain ⟨kvj, xsj, h1j, h2j, h3j, h4j⟩ := Dj
            have wj : dj.word = .st := by
              unfold isCand at hcj
              simp at hcj
              exact hcj.1
            obtain ⟨nj, enj⟩ := (hW dj (List.mem_of_getElem? hdj)).en wj
            have eEj : endAt ds j = nj := by rw [endAt_some hdj]; unfold endOf; rw [enj]; rfl
            refine ⟨_, rfl, rfl, _, rfl, iteF ?_⟩
            refine ⟨_, rfl, _, rfl, _, _, (j : Nat), _, rfl, rfl, .inl (.inl W4.l), atI_nat (at_map hqj), qj.1, _, rfl, dget h1j wFl_ended, _, rfl, q.1, _, rfl, dget h14 wFl_ended, (nj : Int), (n : Int), by rw [enj]; rfl, by rw [en]; rfl, _, rfl, ?_⟩
            rw [eEj, eE] at eG
            by_cases e4 : nj < n
            · rw [decide_eq_true (by omega)]
              rw [if_pos e4] at eG
              refine iteT ⟨_, rfl, ?_⟩
              show Go T No H H4 ∧ _
              rw [eG]
              exact ⟨g5, _, _, rfl⟩
            · rw [decide_eq_false (by omega)]
              rw [if_neg e4] at eG
              refine iteF ?_
              show Go T No H H4 ∧ _
              rw [eG]
              exact ⟨g5, _, _, rfl⟩
        · rw [decide_eq_false e3]
          refine iteF (nx H4 g4 ?_)
          unfold isCand
          simp [e3]
      · rw [decide_eq_false (by omega)]
        refine iteF (iteF (nx H3 Go.refl ?_))
        unfold isCand
        rw [eE]
        simp [e2]
    · rw [decide_eq_false e1]
      refine iteF (iteF (nx H3 Go.refl ?_))
      unfold isCand
      simp [e1]
  · rintro σ H2 ⟨g, z1, z2, rfl⟩
    rw [List.length_map, hlq]
    exact ⟨_, rfl, hq _ g⟩
end
end K29
/-! text K29L2 -/
namespace K29
open PySem PySem.Spec PyProof.Rows L2 LamX
section
variable {P : Program} {w : World} {K : PySem.W.Frag} {mg : Str → Option Value} {base : Heap} {T : List (Addr × Str)}
/-! ### is_off -/
def sp_l_is_off (T : List (Addr × Str)) : Sp := fun vs H Q _ => ∃ (a : Addr) (qs : List (Addr × Addr)) (ds : List Ds) (i : Nat) (q : Addr × Addr) (d : Ds), vs = [.ref a, .ref q.1] ∧ WP H a qs ds ∧ qs[i]? = some q ∧ ds[i]? = some d ∧ (∀ d ∈ ds, WfV d) ∧ ∀ H', Go T No H H' → Q (.bl (isOff ds d)) H'
theorem b_l_is_off (t : Tp K mg) : FB P w K mg base 2 (He.ga K "_law_is_off") p_l_is_off (sp_l_is_off T) := by
  refine FB.of t.f_l_is_off sc_l_is_off (fun vs H Q E ⟨_, _, _, _, _, _, h, _⟩ => by rw [h]; rfl) (fun cdv A outer s H vs Q E hr h => ?_)
  obtain ⟨a, qs, ds, i, q, d, rfl, W, hqi, hd, hW, hq⟩ := h
  have nd := sc_l_is_off.nd
  have hu := hu_of hr
  have hu5 := hu65 hr
  refine ⟨_, pss_cons (ps_for PassesOwn.never rfl (pi_list (pv 0)) (pg_name (i := 2) nd rfl (Or.inl rfl))
      (pss_one (ps_if (PW.pt (pw_and (pt_cmpR op_eq (pe_dget hu (pv 2) pe_str (fun _ _ => rfl)) pe_str (nomark _)) (pw_and1 (pt_cmpR op_gt (pe_dget hu (pv 2) pe_str (fun _ _ => rfl)) (pe_dget hu (pv 1) pe_str (fun _ _ => rfl)) (nomark _)))))
        (pss_one (ps_if (pt_cmpR (op_neD hr.units) (pe_lc (own := [("_law_key", 3)]) (g := gName 3) (tt := tTest (tOp (rInD K) (tVar 3) (tCall (sp_l_wrote T) [] L2.E0 (tCons (tVar 1) tNil)))) rfl nd (pi_list (pe_f (b_l_wrote (T := T) t) t.g_law_wrote hr (pa_cons (pv 2) pa_nil))) (blkOk_by (own := [("_law_key", 3)]) (N := n_l_is_off) (sc := defScope s_l_is_off) (by decide +kernel))
          (fun _ _ _ _ _ => pg_name (i := 3) nd rfl (Or.inl rfl)) (fun _ _ _ _ _ => pts_one (pt_cmpR (op_inD hu5) (pv 3) (pe_f (b_l_wrote (T := T) t) t.g_law_wrote hr (pa_cons (pv 1) pa_nil)) (by rfl))) (fun _ _ _ _ _ => pv 3)) (pe_lst pa_nil) (nomark _)) (pss_one (ps_ret pe_bl)) pss_nil)) pss_nil)))
    (pss_one (ps_ret pe_bl)), ?_⟩
  have hlq : qs.length = ds.length := W.d.1
  obtain ⟨_, D⟩ : True ∧ WdAt H q d := ⟨trivial, W.d.2 i q d hqi hd⟩
  refine ⟨_, rfl, a, rfl, ⟨_, .inl (.inl W.l)⟩, ?_⟩
  refine for_list (K := K) (a := a) (xs := qs.map fun q => .ref q.1) (fun j σ H2 => Go T No H H2 ∧ (∃ z1, σ = [some (.ref a), some (.ref q.1), z1, none]) ∧ ∀ m e, m < j → ds[m]? = some e → offBy d e = false)
    ⟨Go.refl, ⟨none, rfl⟩, fun m e h => absurd h (Nat.not_lt_zero _)⟩ (fun j σ H2 _ c => .inl (.inl (c.1.lst W.l id))) ?_ ?_
  · rintro j x σ H2 hj ⟨g, ⟨z1, rfl⟩, hn⟩
    obtain ⟨r, hrj, rfl⟩ := map_at hj
    have W2 := W.go0 g
    obtain ⟨e, he, D2⟩ := W2.d.atL hrj
    have em := List.mem_of_getElem? he
    have D0 := D.go g id id
    obtain ⟨kv, xs, h1, h2, h3, h4⟩ := id D2
    obtain ⟨kv', xs', h1', h2', h3', h4'⟩ := id D0
    have nxt : offBy d e = false → ∀ H3, Go T No H2 H3 → Go T No H H3 ∧ (∃ z1, ([some (.ref a), some (.ref q.1), some (.ref r.1), none] : L2.St) = [some (.ref a), some (.ref q.1), z1, none]) ∧ ∀ m e, m < j + 1 → ds[m]? = some e → offBy d e = false := fun ho H3 g3 => by
      refine ⟨g.thn0 g3, ⟨_, rfl⟩, fun m e' hm he' => ?_⟩
      by_cases c : m = j
      · subst c
        rw [he] at he'
        cases he'
        exact ho
      · exact hn m e' (by omega) he'
    refine ⟨_, rfl, r.1, _, rfl, dget h1 wFl_word, rfl, _, rfl, ?_⟩
    rw [wd_st]
    by_cases e1 : e.word = .st
    · rw [decide_eq_true e1]
      refine iteT ?_
      obtain ⟨n, en⟩ := (hW e em).en e1
      refine ⟨_, rfl, r.1, _, rfl, dget h1 wFl_ended, _, rfl, q.1, _, rfl, dget h1' wFl_begun, (n : Int), _, by rw [en]; rfl, rfl, _, rfl, ?_⟩
      have eE : endOf e = n := by unfold endOf; rw [en]; rfl
      by_cases e2 : d.begun < n
      · rw [decide_eq_true (by omega)]
        refine iteT ?_
        refine ⟨_, rfl, r, e, rfl, D2, (hW e em).tl, fun v H3 g3 f3 => ?_⟩
        obtain ⟨a3, o, ys, rfl, ha, hys⟩ := fz_list.mp f3
        have D3 := D0.go g3 id id
        refine ⟨a3, rfl, ⟨_, SqL_frz ha⟩, fun L hL => ?_⟩
        refine lc_list (K := K) (a := a3) (xs := ys) (LcP T No (fun _ => True) (SP kyD (wrote e.told) fun k => decide (k ∈ wrote d.told)) H3 L) (LcP.zero hL trivial) (fun m H4 _ c => SqL_frz (c.1.fz _ _ ha trivial)) (fun m y H4 hm c => ?_) fun H4 c => ?_
        · obtain ⟨k, hk, fk⟩ := hys.atL hm
          have km := List.mem_of_getElem? hk
          have ml : m < (wrote e.told).length := (List.getElem?_eq_some_iff.mp hk).1
          have wl : (wrote e.told).length ≤ 100 := by
            unfold wrote
            rw [List.length_map]
            exact Nat.le_trans (List.length_filter_le _ _) (hW e em).tl
          have D4 := D3.go c.1 id id
          refine ⟨rfl, _, rfl, _, rfl, q, d, rfl, D4, (hW d (List.mem_of_getElem? hd)).tl, fun v5 H5 g5 f5 => ?_⟩
          have fk5 := (fk.go c.1).go g5
          refine ⟨kyD k, _, FzD.dp _ _ fk5, FzD.dp _ _ f5, kyD_shaped (wrote_ok (hW e em) k km), kyDs_shaped (wrote_ok (hW d (List.mem_of_getElem? hd))), _, rfl, ?_⟩
          rw [kyDs_any]
          by_cases hk2 : k ∈ wrote d.told
          · rw [decide_eq_true hk2]
            exact iteT ⟨_, rfl, c.yes g5 hL id SP.st (sm (by omega)) (SP.yes hk (decide_eq_true hk2) fk5) fun _ => trivial⟩
          · rw [decide_eq_false hk2]
            exact iteF (c.no g5 id SP.st (SP.no hk (by simp [hk2])) trivial)
        · obtain ⟨g4, _, zs, hz, fz⟩ := c.flt hys.1
          refine ⟨by show 0 ≤ sizeLine; decide, fun E0 hE0 => ?_⟩
          have s5 : Go T No H4 (upd H4 E0 (.lst [])) := Go.refl.add hE0
          refine ⟨.list (((wrote e.told).filter fun k => decide (k ∈ wrote d.told)).map kyD), .list [], .lst (.inl (.inl (s5.lst hz id))) (FzA.dp _ _ (fzA_zp.mpr (zp_map.mpr (fz.go s5)))), .lst (.inl (.inl upd_same)) .nil, kyDs_shaped fun k hk => wrote_ok (hW e em) k (List.mem_filter.mp hk).1, nil_shaped, _, rfl, ?_⟩
          rw [eqv_nil]
          have eo : offBy d e = !decide (((wrote e.told).filter fun k => decide (k ∈ wrote d.told)).map kyD = []) := by
            unfold offBy
            rw [decide_eq_true e1, eE, decide_eq_true e2]
            cases hh : (wrote e.told).filter fun k => decide (k ∈ wrote d.told) with
            | nil =>
              have : (wrote e.told).any (fun k => decide (k ∈ wrote d.told)) = false := by
                rw [List.any_eq_false]
                intro k hk hk2
                have : k ∈ (wrote e.told).filter fun k => decide (k ∈ wrote d.told) := List.mem_filter.mpr ⟨hk, hk2⟩
                rw [hh] at this
                cases this
              simp only [this]
              rfl
            | cons k r =>
              have hk : k ∈ (wrote e.told).filter fun k => decide (k ∈ wrote d.told) := by rw [hh]; simp
              have : (wrote e.told).any (fun k => decide (k ∈ wrote d.told)) = true := List.any_eq_true.mpr ⟨k, (List.mem_filter.mp hk).1, (List.mem_filter.mp hk).2⟩
              simp only [this]
              simp
          rw [← eo]
          have G5 := g3.thn0 (g4.thn0 s5)
          cases ho : offBy d e with
          | true =>
            refine iteT ?_
            have : isOff ds d = true := by
              rw [isOff_eq, List.any_eq_true]
              exact ⟨e, em, ho⟩
            rw [← this]
            exact hq _ (g.thn0 G5)
          | false => exact iteF (nxt ho _ G5)
      · rw [decide_eq_false (by omega)]
        refine iteF (nxt ?_ _ Go.refl)
        unfold offBy
        rw [eE, decide_eq_false e2]
        simp
    · rw [decide_eq_false e1]
      refine iteF (iteF (nxt ?_ _ Go.refl))
      unfold offBy
      rw [decide_eq_false e1]
      rfl
  · rintro σ H2 ⟨g, ⟨z1, rfl⟩, hn⟩
    have : isOff ds d = false := by
      rw [isOff_eq, List.any_eq_false]
      intro e he
      obtain ⟨m, hm, ee⟩ := List.mem_iff_getElem.mp he
      rw [hn m e (by rw [List.length_map, hlq]; exact hm) (by rw [List.getElem?_eq_getElem hm, ee])]
      simp
    rw [← this]
    exact hq _ g
/-! ### step -/
theorem ix_strs {β : Type} (f : β → Str) {l : List β} {j : Nat} {x : β} (h : l[j]? = some x) (nd : (l.map f).Nodup) : ((l.map fun x => V.str (f x)).all flatV = true) ∧ (l.map fun x => V.str (f x))[j]? = some (.str (f x)) ∧ eqV (.str (f x)) (.str (f x)) = true ∧
    ∀ (m : Nat) (z' : V), m < j → (l.map fun x => V.str (f x))[m]? = some z' → eqV z' (.str (f x)) = false := by
  refine ⟨?_, ?_, ?_, fun m z' hm hz => ?_⟩
  · rw [List.all_eq_true]
    intro y hy
    obtain ⟨z, _, rfl⟩ := List.mem_map.mp hy
    rfl
  · rw [List.getElem?_map, h]
    rfl
  · show (f x == f x) = true
    simp
  · rw [List.getElem?_map] at hz
    cases e : l[m]? with
    | none =>
      rw [e] at hz
      cases hz
    | some y =>
      rw [e] at hz
      cases hz
      show (f y == f x) = false
      rw [beq_eq_false_iff_ne]
      intro z
      have : m = j := nodup_ix nd (by rw [List.getElem?_map, e]; rfl) (by rw [List.getElem?_map, h, z]; rfl)
      omega
theorem nextOf_some {b : Bk} {d : Ds} {st : Str × Str} (h : (dealAt b d.deal).steps[d.told.length]? = some st) : nextOf b d = st := by
  unfold nextOf
  rw [h]
  rfl
/-- what a step of a dealing finds -/
structure StOk (b : Bk) (d : Ds) (j : Nat) (st l : Str × Str) (k : Ky) : Prop where
  dl : d.deal < b.deals.length
  hst : (dealAt b d.deal).steps[d.told.length]? = some st
  hl : (dealAt b d.deal).letters[j]? = some l
  hls : l.1 = st.2
  hk : d.keys[j]? = some k
  ok : kOk k
  nd : ((dealAt b d.deal).letters.map (·.1)).Nodup
theorem StOk.mark {b : Bk} {d : Ds} {j : Nat} {st l : Str × Str} {k : Ky} (h : StOk b d j st l k) : markIx b d.deal st.2 = j := by
  unfold markIx
  have hl : j < ((dealAt b d.deal).letters.map (·.1)).length := by rw [List.length_map]; exact (List.getElem?_eq_some_iff.mp h.hl).1
  have e : ((dealAt b d.deal).letters.map (·.1))[j]? = some st.2 := by rw [List.getElem?_map, h.hl, ← h.hls]; rfl
  rw [List.findIdx_eq hl]
  refine ⟨?_, fun m hm => ?_⟩
  · rw [List.getElem?_eq_getElem hl] at e
    simp [Option.some.inj e]
  · have hm2 : m < ((dealAt b d.deal).letters.map (·.1)).length := by omega
    refine decide_eq_false fun z => ?_
    have : m = j := nodup_ix h.nd (List.getElem?_eq_getElem hm2) (by rw [e, ← z])
    omega
theorem StOk.next {b : Bk} {d : Ds} {j : Nat} {st l : Str × Str} {k : Ky} (h : StOk b d j st l k) : nextOf b d = st := nextOf_some h.hst
theorem StOk.key {b : Bk} {d : Ds} {j : Nat} {st l : Str × Str} {k : Ky} (h : StOk b d j st l k) : keyOf b d = k := by
  unfold keyOf
  rw [h.next, h.mark, h.hk]
  rfl
theorem StOk.tk {b : Bk} {ds : List Ds} {i : Nat} {d : Ds} {j : Nat} {st l : Str × Str} {k : Ky} (h : StOk b d j st l k) : tkOf b ds i d = ⟨st.1, k, seenOf b ds i d⟩ := by
  unfold tkOf
  rw [h.next, h.key]
def sp_l_step (T : List (Addr × Str)) : Sp := fun vs H Q _ => ∃ (v : V) (b : Bk) (a : Addr) (qs : List (Addr × Addr)) (ds : List Ds) (i : Nat) (d : Ds) (j : Nat) (st l : Str × Str) (k : Ky), vs = [v, .ref a, .int i] ∧ FzD H v (bkD b) ∧ WP H a qs ds ∧ ds[i]? = some d ∧ (∀ d ∈ ds, WfV d) ∧ ds.length ≤ 100 ∧ StOk b d j st l k ∧ (dealAt b d.deal).letters.length ≤ 4 ∧
  ∀ v H', Go T (· ∈ fpW a qs) H H' → WP H' a qs (ds.set i { d with told := d.told ++ [tkOf b ds i d] }) → FzD H' v (tkD (tkOf b ds i d)) → Q v H'
theorem b_l_step (t : Tp K mg) : FB P w K mg base 3 (He.ga K "_law_step") p_l_step (sp_l_step T) := by
  refine FB.of t.f_l_step sc_l_step (fun vs H Q E ⟨_, _, _, _, _, _, _, _, _, _, _, h, _⟩ => by rw [h]; rfl) (fun cdv A outer s H vs Q E hr h => ?_)
  obtain ⟨v, b, a, qs, ds, i, d, j, st, l, k, rfl, hb, W, hd, hW, hlen, O, l4, hq⟩ := h
  have nd := sc_l_step.nd
  have hu := hu_of hr
  have hu5 := hu65 hr
  refine ⟨_, pss_cons (ps_set (i := 3) nd rfl (Or.inl rfl) (pe_ix ix_list (pv 1) (pv 2) (fun _ _ => rfl)))
    (pss_cons (ps_asg (pe_ix ix_list (pe_ix ix_tup (pv 0) pe_int (fun _ _ => rfl)) (pe_dget hu (pv 3) pe_str (fun _ _ => rfl)) (fun _ _ => rfl)) (pg_tup rfl (pgs_cons (pg_name (i := 4) nd rfl (.inl rfl)) (pgs_cons (pg_name (i := 5) nd rfl (.inl rfl)) (pgs_cons (pg_name (i := 6) nd rfl (.inl rfl)) pgs_nil)))))
    (pss_cons (ps_asg (pe_ix ix_list (pv 6) (pe_callB call_len (by rfl) t.b_len PySem.boot_len (pa_cons (pe_dget hu (pv 3) pe_str (fun _ _ => rfl)) pa_nil)) (fun _ _ => rfl)) (pg_tup rfl (pgs_cons (pg_name (i := 7) nd rfl (.inl rfl)) (pgs_cons (pg_name (i := 8) nd rfl (.inl rfl)) pgs_nil))))
    (pss_cons (ps_set (i := 9) nd rfl (Or.inl rfl) (pe_ix ix_list (pe_dget hu (pv 3) pe_str (fun _ _ => rfl)) (pe_bm PySem.F.plainAttrs_list PySem.F.slot_list_index PySem.F.type_list_index mt_index (pe_lc (own := [("_law_letter", 10), ("_law_kind_here", 11)]) (g := gTup K 2 (gCons (gName 10) (gCons (gName 11) gNil))) (tt := tYes) (te := tVar 10) rfl nd (pi_list (pv 5)) (blkOk_by (own := [("_law_letter", 10), ("_law_kind_here", 11)]) (N := n_l_step) (sc := defScope s_l_step) (by decide +kernel))
      (fun _ _ _ _ _ => pg_tup rfl (pgs_cons (pg_name (i := 10) nd rfl (Or.inl rfl)) (pgs_cons (pg_name (i := 11) nd rfl (Or.inl rfl)) pgs_nil))) (fun _ _ _ _ _ => pts_nil) (fun _ _ _ _ _ => pv 10)) (pa_cons (pv 8) pa_nil)) (fun _ _ => rfl)))
    (pss_cons (ps_set (i := 12) nd rfl (Or.inl rfl) pe_non)
    (pss_cons (ps_if (pt_cmpR op_ne (pv 7) pe_str (nomark _)) (pss_cons (ps_set (i := 12) nd rfl (Or.inl rfl) (pv 2))
        (pss_one (ps_if (pt_cmpR (op_notInD hu5) (pv 9) (pe_f (b_l_wrote (T := T) t) t.g_law_wrote hr (pa_cons (pv 3) pa_nil)) (by rfl)) (pss_one (ps_set (i := 12) nd rfl (Or.inl rfl) (pe_f (b_l_last (T := T) t) t.g_law_last hr (pa_cons (pv 1) (pa_cons (pv 9) (pa_cons (pe_dget hu (pv 3) pe_str (fun _ _ => rfl)) pa_nil)))))) pss_nil))) pss_nil)
    (pss_cons (ps_expr (pe_bm PySem.F.plainAttrs_list PySem.F.slot_list_append PySem.F.type_list_append mt_append (pe_dget hu (pv 3) pe_str (fun _ _ => rfl)) (pa_cons (pe_tup (pa_cons (pv 7) (pa_cons (pv 9) (pa_cons (pv 12) pa_nil)))) pa_nil)))
    (pss_one (ps_ret (pe_tup (pa_cons (pv 7) (pa_cons (pv 9) (pa_cons (pv 12) pa_nil)))))))))))), ?_⟩
  have dm := List.mem_of_getElem? hd
  obtain ⟨q, hqi, D⟩ := W.d.at hd
  obtain ⟨kv, xs, h1, h2, h3, h4⟩ := id D
  obtain ⟨a0, x0, y0, rfl, ha0, hx0, hy0⟩ := fz_t2.mp hb
  obtain ⟨a2, o2, dls, rfl, h22, hdls⟩ := fz_list.mp hy0
  have hdl : b.deals[d.deal]? = some (dealAt b d.deal) := by
    rw [List.getElem?_eq_getElem O.dl]
    unfold dealAt
    rw [List.getElem?_eq_getElem O.dl]
    rfl
  obtain ⟨vd, hvd, fvd⟩ := hdls.at hdl
  obtain ⟨a3, w1, w2, w3, rfl, ha3, f1, f2, f3⟩ := fz_t3.mp fvd
  obtain ⟨a4, o4, ls, rfl, h44, hls⟩ := fz_list.mp f2
  obtain ⟨a5, o5, ss, rfl, h55, hss⟩ := fz_list.mp f3
  obtain ⟨a6, o6, kys, rfl, h66, hkys⟩ := fz_list.mp h2
  obtain ⟨vs, hvs, fvs⟩ := hss.at O.hst
  obtain ⟨a7, y1, y2, rfl, ha7, g1, g2⟩ := fz_t2.mp fvs
  obtain rfl := fz_str.mp g1
  obtain rfl := fz_str.mp g2
  obtain ⟨vk, hvk, fvk⟩ := hkys.at O.hk
  -- deal = world[number]
  refine ⟨_, rfl, _, rfl, _, _, (i : Nat), _, rfl, rfl, .inl (.inl W.l), atI_nat (at_map hqi), ?_⟩
  -- name, letters, steps = book[1][deal['deal']]
  refine ⟨_, rfl, _, _, _, _, rfl, rfl, SqT.of ha0, atI_nat (j := 1) rfl, _, rfl, q.1, _, rfl, dget h1 wFl_deal, _, _, (d.deal : Nat), _, rfl, rfl, SqL_frz h22, atI_nat hvd, _, _, rfl, SqT.of ha3, rfl, _, _, rfl, _, _, rfl, _, _, rfl, rfl, ?_⟩
  -- deed, mark = steps[len(deal['steps'])]
  refine ⟨_, rfl, _, rfl, q.1, _, rfl, dget h1 wFl_steps, _, xs.length, rfl, .inl ⟨_, .inl (.inl h3), rfl⟩, _, _, (xs.length : Nat), _, rfl, rfl, SqL_frz h55, atI_nat (by rw [h4.1]; exact hvs), _, _, rfl, SqT.of ha7, rfl, _, _, rfl, _, _, rfl, rfl, ?_⟩
  -- key = deal['keys'][[..].index(mark)]
  refine ⟨_, rfl, q.1, _, rfl, dget h1 wFl_keys, _, rfl, a4, rfl, ⟨_, SqL_frz h44⟩, fun L hL => ?_⟩
  refine lc_list (K := K) (a := a4) (xs := ls) (LcP T No (fun _ => True) (SF (fun l : Str × Str => .str l.1) (dealAt b d.deal).letters) H L) (LcP.zero hL trivial) (fun m H2 _ c => SqL_frz (c.1.fz _ _ h44 trivial)) (fun m y H3 hm c => ?_) fun H3 c => ?_
  · obtain ⟨l', hl', fl⟩ := hls.atL hm
    obtain ⟨c0, c1, c2, rfl, hc, q1, q2⟩ := fz_t2.mp (fl.go c.1)
    have il : m < (dealAt b d.deal).letters.length := (List.getElem?_eq_some_iff.mp hl').1
    refine ⟨_, _, rfl, SqT.of hc, rfl, _, _, rfl, _, _, rfl, rfl, rfl, iteT (B := LcP T No (fun _ => True) (SF (fun l : Str × Str => .str l.1) (dealAt b d.deal).letters) H L (m + 1) H3) ?_⟩
    exact ⟨_, rfl, c.yes Go.refl hL id SP.st (sm (by omega)) (SP.yes hl' rfl q1) fun _ => trivial⟩
  · obtain ⟨g3, _, zs, hz, fz⟩ := c.all hls.1
    have ez := fzl_strs fz
    subst ez
    obtain ⟨i1, i2, i3, i4⟩ := ix_strs (fun l : Str × Str => l.1) O.hl O.nd
    rw [O.hls] at i2 i3 i4
    have W3 := W.go0 g3
    have D3 := D.go g3 id id
    obtain ⟨kv, xs, h1, h2, h3, h4⟩ := id D3
    refine ⟨.inl ⟨rfl, _, .inl (.inl hz)⟩, _, rfl, L, _, .str st.2, j, _, rfl, rfl, .inl (.inl hz), rfl, i1, i2, i3, i4, _, _, (j : Nat), _, rfl, rfl, SqL_frz (g3.fz _ _ h66 trivial), atI_nat hvk, ?_⟩
    -- what follows, whoever was seen
    have fvk3 := fvk.go g3
    have key : ∀ (H2 : Hp) (x : V), Go T No H3 H2 → FzD H2 x (snD (seenOf b ds i d)) →
        (tSeq (tDrop (tBM K "list" rAppend (tDGet (tVar 3) (tC (.str "steps"))) (tCons (tTup (tCons (tVar 7) (tCons (tVar 9) (tCons (tVar 12) tNil)))) tNil))) (tRet (tTup (tCons (tVar 7) (tCons (tVar 9) (tCons (tVar 12) tNil))))))
          { nx := fun _ H' => Q .non H', rt := Q } [some (.ref a0), some (.ref a), some (.int (i : Nat)), some (.ref q.1), some w1, some (.ref a4), some (.ref a5), some (.str st.1), some (.str st.2), some vk, none, none, some x] H2 := fun H2 x g2 fx => by
      have W2 := W3.go0 g2
      have D2 := D3.go g2 id id
      have fv2 := fvk3.go g2
      obtain ⟨kv, xs, h1, h2, h3, h4⟩ := id D2
      refine ⟨_, rfl, q.1, _, rfl, dget h1 wFl_steps, .inl ⟨rfl, _, .inl (.inl h3)⟩, _, rfl, _, rfl, _, rfl, by show 3 ≤ sizeLine; decide, fun r hr2 => ?_⟩
      have s3 : Go T No H2 (upd H2 r (.tup [.str st.1, vk, x])) := Go.refl.add hr2
      have r3 : upd H2 r (.tup [.str st.1, vk, x]) r = some (.tup [.str st.1, vk, x]) := upd_same
      generalize upd H2 r (.tup [.str st.1, vk, x]) = H5 at s3 r3
      have W5 := W2.go0 s3
      have h35 := s3.lst h3 id
      have f5 : FzD H5 (.ref r) (tkD (tkOf b ds i d)) := by
        rw [O.tk]
        exact fz_t3.mpr ⟨r, _, _, _, rfl, r3, .str _, fv2.go s3, fx.go s3⟩
      refine ⟨q.2, _, _, rfl, rfl, h35, by rw [h4.1]; exact sm (by have := (hW d dm).tl; omega), ?_⟩
      have s4 : Go T (fun a => a = q.2) H5 (upd H5 q.2 (.lst (xs ++ [.ref r]))) := Go.refl.set h35 trivial (.inl rfl)
      have l4 : upd H5 q.2 (.lst (xs ++ [.ref r])) q.2 = some (.lst (xs ++ [.ref r])) := upd_same
      generalize upd H5 q.2 (.lst (xs ++ [.ref r])) = H6 at s4 l4
      have n12 := fpW_self W.nd q (List.mem_of_getElem? hqi)
      have D6 : WdAt H6 q { d with told := d.told ++ [tkOf b ds i d] } := ⟨kv, _, s4.dK (s3.dK h1 id) n12, (h2.go s3).go s4, l4, Zp.snoc ((h4.go s3).go s4) (f5.go s4)⟩
      have W6 := W5.mod hqi s4 (fun a z => .inr z) D6
      have mq2 : q.2 ∈ fpW a qs := mem_fpW.mpr (.inr ⟨q, List.mem_of_getElem? hqi, .inr rfl⟩)
      have G6 : Go T (· ∈ fpW a qs) H H6 := (((g3.thn0 g2).thn0 s3).wk).thn s4 fun a z => .inl (by rw [z]; exact mq2)
      refine ⟨_, rfl, _, rfl, _, rfl, by show 3 ≤ sizeLine; decide, fun z hz => ?_⟩
      refine hq (.ref z) _ (G6.add hz) (W6.go0 (T := []) (Go.refl.add hz)) ?_
      rw [O.tk]
      exact fz_t3.mpr ⟨z, _, _, _, rfl, upd_same, .str _, ((fv2.go s3).go s4).add hz, ((fx.go s3).go s4).add hz⟩
    -- seen = None; if deed != 'write' ..
    refine ⟨_, rfl, rfl, _, rfl, ?_⟩
    have enx1 : (nextOf b d).1 = st.1 := by rw [O.next]
    by_cases e1 : st.1 = ("write" : Str)
    · rw [decide_eq_true (by rw [e1])]
      refine iteF (key H3 .non Go.refl ?_)
      have e : seenOf b ds i d = none := by
        unfold seenOf
        rw [if_pos (by rw [enx1, e1])]
      rw [e]
      exact .non
    · rw [decide_eq_false (by intro z; exact e1 (V.str.inj z))]
      refine iteT ⟨_, rfl, _, rfl, _, rfl, q, d, rfl, D3, (hW d dm).tl, fun v2 H2 g2 f2 => ?_⟩
      refine ⟨kyD k, _, FzD.dp _ _ (fvk3.go g2), FzD.dp _ _ f2, kyD_shaped O.ok, kyDs_shaped (wrote_ok (hW d dm)), _, rfl, ?_⟩
      rw [kyDs_any]
      have e0 : seenOf b ds i d = if k ∈ wrote d.told then some i else lastW ds k d.begun := by
        unfold seenOf
        rw [if_neg (by rw [enx1]; exact e1), O.key]
      by_cases e2 : k ∈ wrote d.told
      · rw [decide_eq_true e2]
        refine iteF (key H2 (.int (i : Nat)) g2 ?_)
        rw [e0, if_pos e2]
        exact .int _
      · rw [decide_eq_false e2]
        have W2 := W3.go0 g2
        obtain ⟨kv, xs, h1, h2, h3, h4⟩ := D3.go g2 id id
        refine iteT ⟨_, rfl, _, rfl, _, rfl, q.1, _, rfl, dget h1 wFl_begun, a, qs, ds, vk, k, d.begun, rfl, W2, fvk3.go g2, O.ok, hW, hlen, fun H4 g4 => ?_⟩
        refine key H4 _ (g2.thn0 g4) ?_
        rw [e0, if_neg e2]
        exact fz_sn.mpr rfl
end
end K29
/-! text K29L3 -/
namespace K29
open PySem PySem.Spec PyProof.Rows L2 LamX
/-! ### a row done: what it gives -/
def resD (b : Bk) (ds : List Ds) : Row → PyData
  | .bgn _ _ => .int (ds.length : Nat)
  | .stp i => match ds[i]? with
    | some d => tkD (tkOf b ds i d)
    | none => .none
  | .fin i => match ds[i]? with
    | some d => .bool (!isOff ds d)
    | none => .none
  | .drp _ => .none
/-- what the walk of a row asks -/
def RowW (b : Bk) (ds : List Ds) : Row → Prop
  | .bgn n ks => ∃ (ix : Nat) (d : Dl), b.deals[ix]? = some d ∧ d.name = n ∧ okKeys b d ks
  | .stp i => ∃ (d : Ds) (j : Nat) (st l : Str × Str) (k : Ky), ds[i]? = some d ∧ d.word = .op ∧ StOk b d j st l k ∧ (dealAt b d.deal).letters.length ≤ 4
  | .fin i => ∃ d, ds[i]? = some d ∧ d.word = .op ∧ d.told.length = (dealAt b d.deal).steps.length
  | .drp i => ∃ d, ds[i]? = some d ∧ d.word = .op
def rInt1 : List V → Hp → VK → Prop := fun xs H Q => (∃ i, xs = [.int i] ∧ Q (.int i) H) ∨ ∃ k, xs = [.bl k] ∧ Q (.int (if k then 1 else 0)) H
abbrev rSubI : R2 := rI0 fun i j => .int (i - j)
section
variable {P : Program} {w : World} {K : PySem.W.Frag} {mg : Str → Option Value} {base : Heap} {T : List (Addr × Str)}
def sp_l_do (T : List (Addr × Str)) : Sp := fun vs H Q _ => ∃ (v : V) (b : Bk) (a : Addr) (qs : List (Addr × Addr)) (ds : List Ds) (R : Addr) (rs : List V) (rows : List Row) (x : V) (r : Row), vs = [v, .ref a, .ref R, x] ∧ FzD H v (bkD b) ∧ WfB b ∧ WP H a qs ds ∧ H R = some (.lst rs) ∧ FzL H rowD rs rows ∧ R ∉ fpW a qs ∧
  FzD H x (rowD r) ∧ RowW b ds r ∧ (∀ d ∈ ds, WfV d) ∧ ds.length ≤ 100 ∧ rows.length ≤ 900 ∧
  ∀ v H' qs' rs', Go T (fun c => c = R ∨ c ∈ fpW a qs) H H' → WP H' a qs' (doRow b ds rows.length r) → (∀ c ∈ fpW a qs', c ∈ fpW a qs ∨ Nw H c) → H' R = some (.lst rs') → FzL H' rowD rs' (rows ++ [r]) → FzD H' v (resD b ds r) → Q v H'
theorem b_l_do (t : Tp K mg) : FB P w K mg base 4 (He.ga K "_law_do") p_l_do (sp_l_do T) := by
  refine FB.of t.f_l_do sc_l_do (fun vs H Q E ⟨_, _, _, _, _, _, _, _, _, _, h, _⟩ => by rw [h]; rfl) (fun cdv A outer s H vs Q E hr h => ?_)
  obtain ⟨v, b, a, qs, ds, R, rs, rows, x, r, rfl, hb, wf, W, hR, hrs, nR, hx, hW0, hW, hlen, hrl, hq⟩ := h
  have nd := sc_l_do.nd
  have hu := hu_of hr
  refine ⟨_, pss_cons (ps_expr (pe_bm PySem.F.plainAttrs_list PySem.F.slot_list_append PySem.F.type_list_append mt_append (pv 2) (pa_cons (pv 3) pa_nil)))
    (pss_cons (ps_if (pt_cmpR op_eq (pe_ix ix_tup (pv 3) pe_int (fun _ _ => rfl)) pe_str (nomark _))
      (pss_cons (ps_set (i := 4) nd rfl (Or.inl rfl) (pe_bm PySem.F.plainAttrs_list PySem.F.slot_list_index PySem.F.type_list_index mt_index (pe_lc (own := [("_law_one", 5)]) (g := gName 5) (tt := tYes) (te := tOp (rIxT K) (tVar 5) (tC (.int 0))) rfl nd (pi_list (pe_ix ix_tup (pv 0) pe_int (fun _ _ => rfl))) (blkOk_by (own := [("_law_one", 5)]) (N := n_l_do) (sc := defScope s_l_do) (by decide +kernel))
          (fun _ _ _ _ _ => pg_name (i := 5) nd rfl (Or.inl rfl)) (fun _ _ _ _ _ => pts_nil) (fun _ _ _ _ _ => pe_ix ix_tup (pv 5) pe_int (fun _ _ => rfl))) (pa_cons (pe_ix ix_tup (pv 3) pe_int (fun _ _ => rfl)) pa_nil)))
      (pss_cons (ps_set (i := 6) nd rfl (Or.inl rfl) (pe_disp (pps_cons pe_str (pv 4) (pps_cons pe_str (pe_fz (pe_callTy call_list_of (by rfl) t.b_list (by decide +kernel) (pa_cons (pe_ix ix_tup (pv 3) pe_int (fun _ _ => rfl)) pa_nil))) (pps_cons pe_str (pe_op op_sub (pe_callB call_len (by rfl) t.b_len PySem.boot_len (pa_cons (pv 2) pa_nil)) pe_int) (pps_cons pe_str pe_non (pps_cons pe_str pe_str pps_nil))))) (by rfl) (by rfl) (fun z => by cases z) (by decide)))
      (pss_cons (ps_dput hu (pv 6) pe_str (pe_lst pa_nil) rfl)
      (pss_cons (ps_expr (pe_bm PySem.F.plainAttrs_list PySem.F.slot_list_append PySem.F.type_list_append mt_append (pv 1) (pa_cons (pv 6) pa_nil)))
      (pss_one (ps_ret (pe_op op_sub (pe_callB call_len (by rfl) t.b_len PySem.boot_len (pa_cons (pv 1) pa_nil)) pe_int))))))) pss_nil)
    (pss_cons (ps_if (pt_cmpR op_eq (pe_ix ix_tup (pv 3) pe_int (fun _ _ => rfl)) pe_str (nomark _)) (pss_one (ps_ret (pe_f (b_l_step (T := T) t) t.g_law_step hr (pa_cons (pv 0) (pa_cons (pv 1) (pa_cons (pe_ix ix_tup (pv 3) pe_int (fun _ _ => rfl)) pa_nil)))))) pss_nil)
    (pss_cons (ps_set (i := 6) nd rfl (Or.inl rfl) (pe_ix ix_list (pv 1) (pe_ix ix_tup (pv 3) pe_int (fun _ _ => rfl)) (fun _ _ => rfl)))
    (pss_cons (ps_set (i := 7) nd rfl (Or.inl rfl) (pe_and (pe_cmpR op_eq (pe_ix ix_tup (pv 3) pe_int (fun _ _ => rfl)) pe_str (nomark _)) (pe_one (pe_not (pe_f (b_l_is_off (T := T) t) t.g_law_is_off hr (pa_cons (pv 1) (pa_cons (pv 6) pa_nil)))))))
    (pss_cons (ps_dput hu (pv 6) pe_str (pe_op op_sub (pe_callB call_len (by rfl) t.b_len PySem.boot_len (pa_cons (pv 2) pa_nil)) pe_int) rfl)
    (pss_cons (ps_dput hu (pv 6) pe_str (pe_ix ix_list (pe_lst (pa_cons pe_str (pa_cons pe_str pa_nil))) (pe_callTy call_int1 (by rfl) t.b_int (by decide +kernel) (pa_cons (pv 7) pa_nil)) (fun _ _ => rfl)) rfl)
    (pss_one (ps_ret (pe_ix ix_list (pe_lst (pa_cons pe_non (pa_cons (pv 7) pa_nil))) (pe_callTy call_int1 (by rfl) t.b_int (by decide +kernel) (pa_cons (pe_cmpR op_eq (pe_ix ix_tup (pv 3) pe_int (fun _ _ => rfl)) pe_str (nomark _)) pa_nil)) (fun _ _ => rfl)))))))))), ?_⟩
  -- rows.append(row)
  have hrsl : rs.length = rows.length := hrs.1
  have s1 : Go T (· = R) H (upd H R (.lst (rs ++ [x]))) := Go.refl.set hR trivial (.inl rfl)
  have hR1 : upd H R (.lst (rs ++ [x])) R = some (.lst (rs ++ [x])) := upd_same
  refine ⟨_, rfl, .inl ⟨rfl, _, .inl (.inl hR)⟩, _, rfl, R, _, _, rfl, rfl, hR, by rw [hrsl]; exact sm (by omega), ?_⟩
  generalize upd H R (.lst (rs ++ [x])) = H1 at s1 hR1
  have W1 := W.go s1 fun c hc z => nR (by rw [← z]; exact hc)
  have hx1 := hx.go s1
  have frs1 : FzL H1 rowD (rs ++ [x]) (rows ++ [r]) := Zp.snoc (hrs.go s1) hx1
  have hb1 := hb.go s1
  have hnR : ∀ c ∈ fpW a qs, c ≠ R := fun c hc z => nR (by rw [← z]; exact hc)
  -- the end, from a later heap
  have fin : ∀ (v : V) (H' : Hp) (qs' : List (Addr × Addr)), Go T (· ∈ fpW a qs) H1 H' → WP H' a qs' (doRow b ds rows.length r) → (∀ c ∈ fpW a qs', c ∈ fpW a qs ∨ Nw H1 c) → FzD H' v (resD b ds r) → Q v H' := fun v H' qs' g W' hn f =>
    hq v H' qs' (rs ++ [x]) ((s1.mono fun c z => .inl (.inl z)).thn g fun c z => .inl (.inr z)) W' (fun c hc => (hn c hc).imp id s1.nw) (g.lst hR1 fun z => nR z) (frs1.go g) f
  cases r with
  | bgn n ks =>
    obtain ⟨ix, d, hix, rfl, hks⟩ := hW0
    obtain ⟨a3, x1, x2, x3, rfl, ha3, f1, f2, f3⟩ := fz_t3.mp hx1
    obtain rfl := fz_str.mp f1
    obtain rfl := fz_str.mp f2
    obtain ⟨a4, o4, kys, rfl, h44, hkys⟩ := fz_list.mp f3
    obtain ⟨a0, x0, y0, rfl, ha0, hx0, hy0⟩ := fz_t2.mp hb1
    obtain ⟨a2, o2, dls, rfl, h22, hdls⟩ := fz_list.mp hy0
    refine ⟨_, rfl, _, _, _, _, rfl, rfl, SqT.of ha3, atI_nat (j := 0) rfl, rfl, _, rfl, ?_⟩
    rw [decide_eq_true rfl]
    refine iteT ⟨_, rfl, _, _, _, _, rfl, rfl, SqT.of ha0, atI_nat (j := 1) rfl, a2, rfl, ⟨_, SqL_frz h22⟩, fun L hL => ?_⟩
    refine lc_list (K := K) (a := a2) (xs := dls) (LcP T No (fun _ => True) (SF (fun l : Dl => .str l.name) b.deals) H1 L) (LcP.zero hL trivial) (fun m H2 _ c => SqL_frz (c.1.fz _ _ h22 trivial)) (fun m y H3 hm c => ?_) fun H3 c => ?_
    · obtain ⟨l', hl', fl⟩ := hdls.atL hm
      obtain ⟨c0, c1, c2, c3, rfl, hc, q1, q2, q3⟩ := fz_t3.mp (fl.go c.1)
      have il : m < b.deals.length := (List.getElem?_eq_some_iff.mp hl').1
      have := wf.d3
      refine ⟨rfl, iteT (B := LcP T No (fun _ => True) (SF (fun l : Dl => .str l.name) b.deals) H1 L (m + 1) H3) ?_⟩
      exact ⟨_, rfl, _, _, _, _, rfl, rfl, SqT.of hc, atI_nat (j := 0) rfl, c.yes Go.refl hL id SP.st (sm (by omega)) (SP.yes hl' rfl q1) fun _ => trivial⟩
    · obtain ⟨g3, _, zs, hz, fz⟩ := c.all hdls.1
      have ez := fzl_strs fz
      subst ez
      obtain ⟨i1, i2, i3, i4⟩ := ix_strs (fun l : Dl => l.name) hix wf.dn
      have ha33 := g3.fz _ _ ha3 trivial
      refine ⟨.inl ⟨rfl, _, .inl (.inl hz)⟩, _, rfl, _, _, _, _, rfl, rfl, SqT.of ha33, atI_nat (j := 1) rfl, L, _, .str d.name, ix, _, rfl, rfl, .inl (.inl hz), rfl, i1, i2, i3, i4, ?_⟩
      -- deal = {..}
      intro p hp
      have s4 : Go T No H3 (upd H3 p (.dK [])) := Go.refl.add hp
      have p4 : upd H3 p (.dK []) p = some (.dK []) := upd_same
      generalize upd H3 p (.dK []) = H4 at s4 p4
      refine ⟨_, rfl, _, rfl, _, _, _, _, rfl, rfl, SqT.of (s4.fz _ _ ha33 trivial), atI_nat (j := 2) rfl, _, _, rfl, .inl (SqL_frz (s4.fz _ _ (g3.fz _ _ h44 trivial) trivial)), fun l hl => ⟨_, _, rfl, upd_same, trivial, fun ol => ?_⟩⟩
      rw [upd_upd]
      have s5 : Go T No H4 (upd H4 l (.frz ol (.lst kys))) := Go.refl.add hl
      have l5 : upd H4 l (.frz ol (.lst kys)) l = some (.frz ol (.lst kys)) := upd_same
      have p5 : upd H4 l (.frz ol (.lst kys)) p = some (.dK []) := upd_old p4 hl
      generalize upd H4 l (.frz ol (.lst kys)) = H5 at s5 l5 p5
      have G5 : Go T No H1 H5 := (g3.thn0 s4).thn0 s5
      have hR5 := G5.lst hR1 id
      refine ⟨_, rfl, _, (rs ++ [V.ref a3]).length, rfl, .inl ⟨_, .inl (.inl hR5), rfl⟩, _, _, rfl, rfl, p5, [(.inr "deal", .int (ix : Nat)), (.inr "keys", .ref l), (.inr "begun", .int (((rs ++ [V.ref a3]).length : Int) - 1)), (.inr "ended", .non), (.inr "word", .str "open")], rfl, (by show 5 ≤ 15; decide), ?_⟩
      have eb : (((rs ++ [V.ref a3]).length : Int) - 1) = (rows.length : Nat) := by simp [hrsl]
      rw [eb]
      -- deal['steps'] = []
      refine ⟨by show 0 ≤ sizeLine; decide, fun st hst => ?_⟩
      have p6 : upd H5 p (.dK (mergeK [] [(.inr "deal", .int (ix : Nat)), (.inr "keys", .ref l), (.inr "begun", .int (rows.length : Nat)), (.inr "ended", .non), (.inr "word", .str "open")])) p = some (.dK (mergeK [] [(.inr "deal", .int (ix : Nat)), (.inr "keys", .ref l), (.inr "begun", .int (rows.length : Nat)), (.inr "ended", .non), (.inr "word", .str "open")])) := upd_same
      have nst : st ≠ p := (ne_of_none p6 hst).symm
      have nwp : Nw H1 p := g3.nw (Nw.of hp)
      have G6 : Go T No H1 (upd H5 p (.dK (mergeK [] [(.inr "deal", .int (ix : Nat)), (.inr "keys", .ref l), (.inr "begun", .int (rows.length : Nat)), (.inr "ended", .non), (.inr "word", .str "open")]))) := G5.set p5 trivial (.inr nwp)
      have l6 := fz_set (o := .dK (mergeK [] [(.inr "deal", .int (ix : Nat)), (.inr "keys", .ref l), (.inr "begun", .int (rows.length : Nat)), (.inr "ended", .non), (.inr "word", .str "open")])) p5 trivial _ _ l5 trivial
      generalize upd H5 p (.dK (mergeK [] [(.inr "deal", .int (ix : Nat)), (.inr "keys", .ref l), (.inr "begun", .int (rows.length : Nat)), (.inr "ended", .non), (.inr "word", .str "open")])) = H6 at p6 hst G6 l6
      refine ⟨_, rfl, p, _, rfl, DPut.k (k := .inr "steps") (upd_old p6 hst) (by show 5 < sizeLine; decide), ?_⟩
      rw [wFl_init]
      have p7 : upd (upd H6 st (.lst [])) p (.dK (wFl (.int (ix : Nat)) (.ref l) (.int (rows.length : Nat)) .non (.str "open") (.ref st))) p = some (.dK (wFl (.int (ix : Nat)) (.ref l) (.int (rows.length : Nat)) .non (.str "open") (.ref st))) := upd_same
      have G7 : Go T No H1 (upd (upd H6 st (.lst [])) p (.dK (wFl (.int (ix : Nat)) (.ref l) (.int (rows.length : Nat)) .non (.str "open") (.ref st)))) := (G6.add hst).set (upd_old p6 hst) trivial (.inr nwp)
      have st7 : upd (upd H6 st (.lst [])) p (.dK (wFl (.int (ix : Nat)) (.ref l) (.int (rows.length : Nat)) .non (.str "open") (.ref st))) st = some (.lst []) := by rw [upd_ne nst, upd_same]
      have l7 := fz_set (o := .dK (wFl (.int (ix : Nat)) (.ref l) (.int (rows.length : Nat)) .non (.str "open") (.ref st))) (upd_old p6 hst) trivial _ _ (fz_add (o := .lst []) hst _ _ l6 trivial) trivial
      have nwst : Nw H1 st := G6.nw (Nw.of hst)
      generalize upd (upd H6 st (.lst [])) p (.dK (wFl (.int (ix : Nat)) (.ref l) (.int (rows.length : Nat)) .non (.str "open") (.ref st))) = H7 at p7 G7 st7 l7
      have W7 := W1.go0 G7
      have D7 : WdAt H7 (p, st) ⟨ix, ks, [], rows.length, none, .op⟩ := ⟨.ref l, [], p7, fz_list.mpr ⟨l, ol, kys, rfl, l7, hkys.go G7⟩, st7, Zp.nil⟩
      have hnew : ∀ c, Nw H1 c → c ∉ fpW a qs := fun c hc hm => by
        obtain ⟨o, e, m⟩ := W1.tr c hm
        exact hc o e m.Nt
      -- world.append(deal)
      refine ⟨_, rfl, .inl ⟨rfl, _, .inl (.inl W7.l)⟩, _, rfl, a, _, _, rfl, rfl, W7.l, by rw [List.length_map, W.d.1]; exact sm (by omega), ?_⟩
      have W8 := W7.push D7 (hnew p nwp) (hnew st nwst) nst.symm
      have G8 : Go T (· ∈ fpW a qs) H1 (upd H7 a (.lst ((qs.map fun q => V.ref q.1) ++ [.ref p]))) := G7.wk.set W7.l trivial (.inl (mem_fpW.mpr (.inl rfl)))
      refine ⟨_, rfl, _, (qs ++ [(p, st)]).length, rfl, .inl ⟨_, .inl (.inl W8.l), by simp⟩, _, _, rfl, rfl, ?_⟩
      have e9 : ((qs ++ [(p, st)]).length : Int) - 1 = (ds.length : Nat) := by simp [W.d.1]
      show Q (.int (((qs ++ [(p, st)]).length : Int) - 1)) _
      rw [e9]
      refine fin _ _ (qs ++ [(p, st)]) G8 ?_ (fun c hc => ?_) (.int _)
      · show WP _ a (qs ++ [(p, st)]) (ds ++ [⟨nameIx b d.name, ks, [], rows.length, none, .op⟩])
        rw [nameIx_at wf.dn hix]
        exact W8
      · have e : fpW a (qs ++ [(p, st)]) = fpW a qs ++ [p, st] := by simp [fpW, List.flatMap_append]
        rw [e] at hc
        rcases List.mem_append.mp hc with h | h
        · exact .inl h
        · simp only [List.mem_cons, List.not_mem_nil, or_false] at h
          rcases h with rfl | rfl
          · exact .inr nwp
          · exact .inr nwst
  | stp i =>
    obtain ⟨d, j, st, l, k, hd, hw, O, l4⟩ := hW0
    obtain ⟨a3, x1, x2, rfl, ha3, f1, f2⟩ := fz_t2.mp hx1
    obtain rfl := fz_str.mp f1
    obtain rfl := fz_int.mp f2
    refine ⟨_, rfl, _, _, _, _, rfl, rfl, SqT.of ha3, atI_nat (j := 0) rfl, rfl, _, rfl, ?_⟩
    rw [show decide (V.str "step" = V.str "begin") = false by decide +kernel]
    refine iteF ⟨_, rfl, _, _, _, _, rfl, rfl, SqT.of ha3, atI_nat (j := 0) rfl, rfl, _, rfl, ?_⟩
    rw [decide_eq_true rfl]
    refine iteT ⟨_, rfl, _, rfl, _, rfl, _, _, _, _, rfl, rfl, SqT.of ha3, atI_nat (j := 1) rfl, v, b, a, qs, ds, i, d, j, st, l, k, rfl, hb1, W1, hd, hW, hlen, O, l4, fun v' H' g W' f => ?_⟩
    have e : doRow b ds rows.length (.stp i) = ds.set i { d with told := d.told ++ [tkOf b ds i d] } := modAt_some hd
    refine fin v' H' qs g (by rw [e]; exact W') (fun c hc => .inl hc) ?_
    show FzD H' v' (match ds[i]? with | some d => tkD (tkOf b ds i d) | none => .none)
    rw [hd]
    exact f
  | fin i =>
    obtain ⟨d, hd, hw, hl⟩ := hW0
    obtain ⟨a3, x1, x2, rfl, ha3, f1, f2⟩ := fz_t2.mp hx1
    obtain rfl := fz_str.mp f1
    obtain rfl := fz_int.mp f2
    obtain ⟨q, hqi, D1⟩ := W1.d.at hd
    have mq : q.1 ∈ fpW a qs := mem_fpW.mpr (.inr ⟨q, List.mem_of_getElem? hqi, .inl rfl⟩)
    have n12 := fpW_self W.nd q (List.mem_of_getElem? hqi)
    refine ⟨_, rfl, _, _, _, _, rfl, rfl, SqT.of ha3, atI_nat (j := 0) rfl, rfl, _, rfl, ?_⟩
    rw [show decide (V.str "end" = V.str "begin") = false by decide +kernel]
    refine iteF ⟨_, rfl, _, _, _, _, rfl, rfl, SqT.of ha3, atI_nat (j := 0) rfl, rfl, _, rfl, ?_⟩
    rw [show decide (V.str "end" = V.str "step") = false by decide +kernel]
    refine iteF ⟨_, rfl, _, rfl, _, _, _, _, rfl, rfl, SqT.of ha3, atI_nat (j := 1) rfl, _, _, (i : Nat), _, rfl, rfl, .inl (.inl W1.l), atI_nat (at_map hqi), ?_⟩
    -- the rest, once it is known whether it stands
    have rest : ∀ (H2 : Hp) (sd : Bool), Go T No H1 H2 → (doRow b ds rows.length (.fin i) = ds.set i { d with ended := some rows.length, word := if sd then .st else .of }) → resD b ds (.fin i) = .bool sd →
        (tSeq (sDPut (tVar 6) (tC (.str "ended")) (tOp rSubI (tCB (rLen K) (tCons (tVar 2) tNil)) (tC (.int 1)))) (tSeq (sDPut (tVar 6) (tC (.str "word")) (tOp (rIxL K) (tLst (tCons (tC (.str "off")) (tCons (tC (.str "stands")) tNil))) (tCB rInt1 (tCons (tVar 7) tNil)))) (tRet (tOp (rIxL K) (tLst (tCons (tC .non) (tCons (tVar 7) tNil))) (tCB rInt1 (tCons (tOp rEq (tOp (rIxT K) (tVar 3) (tC (.int 0))) (tC (.str "end"))) tNil))))))
          { nx := fun _ H' => Q .non H', rt := Q } [some v, some (.ref a), some (.ref R), some (.ref a3), none, none, some (.ref q.1), some (.bl sd)] H2 := fun H2 sd g2 e1 e2 => by
      have W2 := W1.go0 g2
      have D2 := D1.go g2 id id
      obtain ⟨kv, xs, h1, h2, h3, h4⟩ := id D2
      have hR2 := g2.lst hR1 id
      have ha32 := g2.fz _ _ ha3 trivial
      refine ⟨_, rfl, _, (rs ++ [V.ref a3]).length, rfl, .inl ⟨_, .inl (.inl hR2), rfl⟩, _, _, rfl, rfl, _, rfl, q.1, _, rfl, DPut.k (k := .inr "ended") h1 (by show 6 < sizeLine; decide), ?_⟩
      have eb : ((fun (i j : Int) => V.int (i - j)) ((rs ++ [V.ref a3]).length : Int) 1) = .int (rows.length : Nat) := by
        show V.int (((rs ++ [V.ref a3]).length : Int) - 1) = _
        congr 1
        simp [hrsl]
      rw [wFl_put_ended, eb]
      have s3 : Go T (· = q.1) H2 (upd H2 q.1 (.dK (wFl (.int (d.deal : Nat)) kv (.int (d.begun : Nat)) (.int (rows.length : Nat)) (.str d.word.s) (.ref q.2)))) := Go.refl.set h1 trivial (.inl rfl)
      have h13 : upd H2 q.1 (.dK (wFl (.int (d.deal : Nat)) kv (.int (d.begun : Nat)) (.int (rows.length : Nat)) (.str d.word.s) (.ref q.2))) q.1 = some (.dK (wFl (.int (d.deal : Nat)) kv (.int (d.begun : Nat)) (.int (rows.length : Nat)) (.str d.word.s) (.ref q.2))) := upd_same
      generalize upd H2 q.1 (.dK (wFl (.int (d.deal : Nat)) kv (.int (d.begun : Nat)) (.int (rows.length : Nat)) (.str d.word.s) (.ref q.2))) = H3 at s3 h13
      refine ⟨by show 2 ≤ sizeLine; decide, fun L hL => ?_⟩
      have s4 : Go T No H3 (upd H3 L (.lst [.str "off", .str "stands"])) := Go.refl.add hL
      have L4 : upd H3 L (.lst [.str "off", .str "stands"]) L = some (.lst [.str "off", .str "stands"]) := upd_same
      have h14 : upd H3 L (.lst [.str "off", .str "stands"]) q.1 = some _ := upd_old h13 hL
      generalize upd H3 L (.lst [.str "off", .str "stands"]) = H4 at s4 L4 h14
      refine ⟨_, rfl, .inr ⟨sd, rfl, _, _, _, .str (if sd then Wd.st else Wd.of).s, rfl, rfl, .inl (.inl L4), ?_, _, rfl, q.1, _, rfl, DPut.k (k := .inr "word") h14 (by show 6 < sizeLine; decide), ?_⟩⟩
      · cases sd
        · exact atI_nat (j := 0) rfl
        · exact atI_nat (j := 1) rfl
      rw [wFl_put_word]
      have s5 : Go T (· = q.1) H4 (upd H4 q.1 (.dK (wFl (.int (d.deal : Nat)) kv (.int (d.begun : Nat)) (.int (rows.length : Nat)) (.str (if sd then Wd.st else Wd.of).s) (.ref q.2)))) := Go.refl.set h14 trivial (.inl rfl)
      have h15 : upd H4 q.1 (.dK (wFl (.int (d.deal : Nat)) kv (.int (d.begun : Nat)) (.int (rows.length : Nat)) (.str (if sd then Wd.st else Wd.of).s) (.ref q.2))) q.1 = some (.dK (wFl (.int (d.deal : Nat)) kv (.int (d.begun : Nat)) (.int (rows.length : Nat)) (.str (if sd then Wd.st else Wd.of).s) (.ref q.2))) := upd_same
      generalize upd H4 q.1 (.dK (wFl (.int (d.deal : Nat)) kv (.int (d.begun : Nat)) (.int (rows.length : Nat)) (.str (if sd then Wd.st else Wd.of).s) (.ref q.2))) = H5 at s5 h15
      have G25 : Go T (· = q.1) H2 H5 := (s3.thn0 s4).trans s5
      have D5 : WdAt H5 q { d with ended := some rows.length, word := if sd then .st else .of } := ⟨kv, xs, h15, h2.go G25, G25.lst h3 n12.symm, h4.go G25⟩
      have W5 := W2.mod hqi G25 (fun c z => .inl z) D5
      refine ⟨_, rfl, by show 2 ≤ sizeLine; decide, fun L2 hL2 => ?_⟩
      have s6 : Go T No H5 (upd H5 L2 (.lst [.non, .bl sd])) := Go.refl.add hL2
      have L6 : upd H5 L2 (.lst [.non, .bl sd]) L2 = some (.lst [.non, .bl sd]) := upd_same
      generalize upd H5 L2 (.lst [.non, .bl sd]) = H6 at s6 L6
      have ha36 := s6.fz _ _ (G25.fz _ _ ha32 trivial) trivial
      refine ⟨_, rfl, _, _, _, _, rfl, rfl, SqT.of ha36, atI_nat (j := 0) rfl, rfl, .inr ⟨_, rfl, _, _, _, .bl sd, rfl, rfl, .inl (.inl L6), ?_, ?_⟩⟩
      · rw [show decide (V.str "end" = V.str "end") = true by decide +kernel]
        exact atI_nat (j := 1) rfl
      · refine fin _ H6 qs ((g2.wk.thn G25 fun c z => .inl (by rw [z]; exact mq)).thn0 s6) ?_ (fun c hc => .inl hc) ?_
        · rw [e1]
          exact W5.go0 s6
        · rw [e2]
          exact .bl _
    refine ⟨_, rfl, _, _, _, _, rfl, rfl, SqT.of ha3, atI_nat (j := 0) rfl, rfl, _, rfl, ?_⟩
    rw [show decide (V.str "end" = V.str "end") = true by decide +kernel]
    refine iteT ⟨_, rfl, _, rfl, a, qs, ds, i, q, d, rfl, W1, hqi, hd, hW, fun H2 g2 => ⟨_, rfl, ?_⟩⟩
    refine rest H2 (!isOff ds d) g2 ?_ ?_
    · show modAt ds i _ = _
      rw [modAt_some hd]
      cases isOff ds d <;> rfl
    · show (match ds[i]? with | some d => PyData.bool (!isOff ds d) | none => .none) = _
      rw [hd]
  | drp i =>
    obtain ⟨d, hd, hw⟩ := hW0
    obtain ⟨a3, x1, x2, rfl, ha3, f1, f2⟩ := fz_t2.mp hx1
    obtain rfl := fz_str.mp f1
    obtain rfl := fz_int.mp f2
    obtain ⟨q, hqi, D1⟩ := W1.d.at hd
    have mq : q.1 ∈ fpW a qs := mem_fpW.mpr (.inr ⟨q, List.mem_of_getElem? hqi, .inl rfl⟩)
    have n12 := fpW_self W.nd q (List.mem_of_getElem? hqi)
    refine ⟨_, rfl, _, _, _, _, rfl, rfl, SqT.of ha3, atI_nat (j := 0) rfl, rfl, _, rfl, ?_⟩
    rw [show decide (V.str "drop" = V.str "begin") = false by decide +kernel]
    refine iteF ⟨_, rfl, _, _, _, _, rfl, rfl, SqT.of ha3, atI_nat (j := 0) rfl, rfl, _, rfl, ?_⟩
    rw [show decide (V.str "drop" = V.str "step") = false by decide +kernel]
    refine iteF ⟨_, rfl, _, rfl, _, _, _, _, rfl, rfl, SqT.of ha3, atI_nat (j := 1) rfl, _, _, (i : Nat), _, rfl, rfl, .inl (.inl W1.l), atI_nat (at_map hqi), ?_⟩
    -- the rest, once it is known whether it stands
    have rest : ∀ (H2 : Hp) (sd : Bool), Go T No H1 H2 → (doRow b ds rows.length (.drp i) = ds.set i { d with ended := some rows.length, word := if sd then .st else .of }) → resD b ds (.drp i) = .none →
        (tSeq (sDPut (tVar 6) (tC (.str "ended")) (tOp rSubI (tCB (rLen K) (tCons (tVar 2) tNil)) (tC (.int 1)))) (tSeq (sDPut (tVar 6) (tC (.str "word")) (tOp (rIxL K) (tLst (tCons (tC (.str "off")) (tCons (tC (.str "stands")) tNil))) (tCB rInt1 (tCons (tVar 7) tNil)))) (tRet (tOp (rIxL K) (tLst (tCons (tC .non) (tCons (tVar 7) tNil))) (tCB rInt1 (tCons (tOp rEq (tOp (rIxT K) (tVar 3) (tC (.int 0))) (tC (.str "end"))) tNil))))))
          { nx := fun _ H' => Q .non H', rt := Q } [some v, some (.ref a), some (.ref R), some (.ref a3), none, none, some (.ref q.1), some (.bl sd)] H2 := fun H2 sd g2 e1 e2 => by
      have W2 := W1.go0 g2
      have D2 := D1.go g2 id id
      obtain ⟨kv, xs, h1, h2, h3, h4⟩ := id D2
      have hR2 := g2.lst hR1 id
      have ha32 := g2.fz _ _ ha3 trivial
      refine ⟨_, rfl, _, (rs ++ [V.ref a3]).length, rfl, .inl ⟨_, .inl (.inl hR2), rfl⟩, _, _, rfl, rfl, _, rfl, q.1, _, rfl, DPut.k (k := .inr "ended") h1 (by show 6 < sizeLine; decide), ?_⟩
      have eb : ((fun (i j : Int) => V.int (i - j)) ((rs ++ [V.ref a3]).length : Int) 1) = .int (rows.length : Nat) := by
        show V.int (((rs ++ [V.ref a3]).length : Int) - 1) = _
        congr 1
        simp [hrsl]
      rw [wFl_put_ended, eb]
      have s3 : Go T (· = q.1) H2 (upd H2 q.1 (.dK (wFl (.int (d.deal : Nat)) kv (.int (d.begun : Nat)) (.int (rows.length : Nat)) (.str d.word.s) (.ref q.2)))) := Go.refl.set h1 trivial (.inl rfl)
      have h13 : upd H2 q.1 (.dK (wFl (.int (d.deal : Nat)) kv (.int (d.begun : Nat)) (.int (rows.length : Nat)) (.str d.word.s) (.ref q.2))) q.1 = some (.dK (wFl (.int (d.deal : Nat)) kv (.int (d.begun : Nat)) (.int (rows.length : Nat)) (.str d.word.s) (.ref q.2))) := upd_same
      generalize upd H2 q.1 (.dK (wFl (.int (d.deal : Nat)) kv (.int (d.begun : Nat)) (.int (rows.length : Nat)) (.str d.word.s) (.ref q.2))) = H3 at s3 h13
      refine ⟨by show 2 ≤ sizeLine; decide, fun L hL => ?_⟩
      have s4 : Go T No H3 (upd H3 L (.lst [.str "off", .str "stands"])) := Go.refl.add hL
      have L4 : upd H3 L (.lst [.str "off", .str "stands"]) L = some (.lst [.str "off", .str "stands"]) := upd_same
      have h14 : upd H3 L (.lst [.str "off", .str "stands"]) q.1 = some _ := upd_old h13 hL
      generalize upd H3 L (.lst [.str "off", .str "stands"]) = H4 at s4 L4 h14
      refine ⟨_, rfl, .inr ⟨sd, rfl, _, _, _, .str (if sd then Wd.st else Wd.of).s, rfl, rfl, .inl (.inl L4), ?_, _, rfl, q.1, _, rfl, DPut.k (k := .inr "word") h14 (by show 6 < sizeLine; decide), ?_⟩⟩
      · cases sd
        · exact atI_nat (j := 0) rfl
        · exact atI_nat (j := 1) rfl
      rw [wFl_put_word]
      have s5 : Go T (· = q.1) H4 (upd H4 q.1 (.dK (wFl (.int (d.deal : Nat)) kv (.int (d.begun : Nat)) (.int (rows.length : Nat)) (.str (if sd then Wd.st else Wd.of).s) (.ref q.2)))) := Go.refl.set h14 trivial (.inl rfl)
      have h15 : upd H4 q.1 (.dK (wFl (.int (d.deal : Nat)) kv (.int (d.begun : Nat)) (.int (rows.length : Nat)) (.str (if sd then Wd.st else Wd.of).s) (.ref q.2))) q.1 = some (.dK (wFl (.int (d.deal : Nat)) kv (.int (d.begun : Nat)) (.int (rows.length : Nat)) (.str (if sd then Wd.st else Wd.of).s) (.ref q.2))) := upd_same
      generalize upd H4 q.1 (.dK (wFl (.int (d.deal : Nat)) kv (.int (d.begun : Nat)) (.int (rows.length : Nat)) (.str (if sd then Wd.st else Wd.of).s) (.ref q.2))) = H5 at s5 h15
      have G25 : Go T (· = q.1) H2 H5 := (s3.thn0 s4).trans s5
      have D5 : WdAt H5 q { d with ended := some rows.length, word := if sd then .st else .of } := ⟨kv, xs, h15, h2.go G25, G25.lst h3 n12.symm, h4.go G25⟩
      have W5 := W2.mod hqi G25 (fun c z => .inl z) D5
      refine ⟨_, rfl, by show 2 ≤ sizeLine; decide, fun L2 hL2 => ?_⟩
      have s6 : Go T No H5 (upd H5 L2 (.lst [.non, .bl sd])) := Go.refl.add hL2
      have L6 : upd H5 L2 (.lst [.non, .bl sd]) L2 = some (.lst [.non, .bl sd]) := upd_same
      generalize upd H5 L2 (.lst [.non, .bl sd]) = H6 at s6 L6
      have ha36 := s6.fz _ _ (G25.fz _ _ ha32 trivial) trivial
      refine ⟨_, rfl, _, _, _, _, rfl, rfl, SqT.of ha36, atI_nat (j := 0) rfl, rfl, .inr ⟨_, rfl, _, _, _, .non, rfl, rfl, .inl (.inl L6), ?_, ?_⟩⟩
      · rw [show decide (V.str "drop" = V.str "end") = false by decide +kernel]
        exact atI_nat (j := 0) rfl
      · refine fin _ H6 qs ((g2.wk.thn G25 fun c z => .inl (by rw [z]; exact mq)).thn0 s6) ?_ (fun c hc => .inl hc) ?_
        · rw [e1]
          exact W5.go0 s6
        · rw [e2]
          exact .non
    refine ⟨_, rfl, _, _, _, _, rfl, rfl, SqT.of ha3, atI_nat (j := 0) rfl, rfl, _, rfl, ?_⟩
    rw [show decide (V.str "drop" = V.str "end") = false by decide +kernel]
    refine iteF ?_
    exact rest H1 false Go.refl (modAt_some hd) rfl
end
end K29
/-! text K29P8 -/
namespace K29
open PySem PySem.Spec PyProof.Rows L2 LamX
theorem Zp.unsnoc {α β : Type} {R : α → β → Prop} {xs : List α} {ys : List β} {y : β} (z : Zp R xs (ys ++ [y])) : ∃ xs0 x, xs = xs0 ++ [x] ∧ R x y ∧ Zp R xs0 ys := by
  have hl := z.1
  rw [List.length_append] at hl
  have hne : xs ≠ [] := fun e => by
    subst e
    simp at hl
  have e := List.dropLast_concat_getLast hne
  have z2 := z.drop_last
  rw [List.dropLast_concat] at z2
  have hl2 : xs.length = ys.length + 1 := by simpa using hl
  refine ⟨xs.dropLast, xs.getLast hne, e.symm, z.2 ys.length _ _ ?_ (List.getElem?_concat_length), z2⟩
  rw [List.getLast_eq_getElem, List.getElem?_eq_some_iff]
  exact ⟨by omega, by congr 1; omega⟩
theorem last_at {α : Type} (xs : List α) (x : α) : (xs ++ [x])[(xs ++ [x]).length - 1]? = some x := by
  have e : (xs ++ [x]).length - 1 = xs.length := by simp
  rw [e, List.getElem?_concat_length]
theorem set_same {α : Type} {xs : List α} {i : Nat} {x : α} (h : xs[i]? = some x) : xs.set i x = xs := by
  obtain ⟨hl, e⟩ := List.getElem?_eq_some_iff.mp h
  rw [← e]
  exact List.set_getElem_self hl
/-- what undo asks of the row -/
def UnOk (ds : List Ds) : Row → Prop
  | .bgn _ _ => True
  | .stp i => ∃ d, ds[i]? = some d
  | .fin i => ∃ d, ds[i]? = some d ∧ d.word = .op ∧ d.ended = none
  | .drp i => ∃ d, ds[i]? = some d ∧ d.word = .op ∧ d.ended = none
section
variable {P : Program} {w : World} {K : PySem.W.Frag} {mg : Str → Option Value} {base : Heap} {T : List (Addr × Str)}
def sp_S_undo (K : PySem.W.Frag) (T : List (Addr × Str)) : Sp := fun vs H Q _ => ∃ (p : Addr) (b : Bk) (ds : List Ds) (rows : List Row) (r : Row) (fp : List Addr), vs = [.ref p] ∧ StAt K H p b (doRow b ds rows.length r) (rows ++ [r]) fp ∧ UnOk ds r ∧ (∀ r' ∈ rows ++ [r], rOk r') ∧
  ∀ fp' H', Go T (· ∈ fp) H H' → StAt K H' p b ds rows fp' → (∀ a ∈ fp', a ∈ fp) → Q .non H'
theorem b_S_undo (t : Tp K mg) : FB P w K mg base 2 (He.fAd K ("Stepper", some "undo")) p_S_undo (sp_S_undo K T) := by
  refine FB.of t.f_S_undo sc_S_undo (fun vs H Q E ⟨_, _, _, _, _, _, h, _⟩ => by rw [h]; rfl) (fun cdv A outer s H vs Q E hr h => ?_)
  obtain ⟨p, b, ds, rows, r, fp, rfl, hS, hU, hR, hq⟩ := h
  have nd := sc_S_undo.nd
  refine ⟨_, pss_cons (ps_if (pt_cmpR (op_eqD hr.units) (pe_fld (pv 0) rfl) (pe_lst pa_nil) (nomark _)) (pss_one ps_never) pss_nil)
    (pss_cons (ps_set (i := 1) nd rfl (Or.inl rfl) (pe_bm0 PySem.F.plainAttrs_list PySem.F.slot_list_pop PySem.F.type_list_pop mt_pop (pe_fld (pv 0) rfl)))
    (pss_one (ps_if (pt_cmpR op_eq (pe_ix ix_tup (pv 1) pe_int (fun _ _ => rfl)) pe_str (nomark _))
      (pss_one (ps_expr (pe_bm0 PySem.F.plainAttrs_list PySem.F.slot_list_pop PySem.F.type_list_pop mt_pop (pe_fld (pv 0) rfl))))
      (pss_one (ps_if (pt_cmpR op_eq (pe_ix ix_tup (pv 1) pe_int (fun _ _ => rfl)) pe_str (nomark _))
        (pss_cons (ps_set (i := 2) nd rfl (Or.inl rfl) (pe_ix ix_list (pe_fld (pv 0) rfl) (pe_ix ix_tup (pv 1) pe_int (fun _ _ => rfl)) (fun _ _ => rfl))) (pss_one (ps_expr (pe_bm0 PySem.F.plainAttrs_list PySem.F.slot_list_pop PySem.F.type_list_pop mt_pop (pe_fld (pv 2) rfl)))))
        (pss_cons (ps_set (i := 2) nd rfl (Or.inl rfl) (pe_ix ix_list (pe_fld (pv 0) rfl) (pe_ix ix_tup (pv 1) pe_int (fun _ _ => rfl)) (fun _ _ => rfl))) (pss_one (ps_expr (pe_m0 t.c_Deal t.m_D_opened (b_D_opened (T := T) t) hr (pv 2)))))))))), ?_⟩
  obtain ⟨dx, ob, Ld, Lg, qs, lg, S, rfl⟩ := hS
  -- if self.log == []
  refine ⟨_, rfl, p, _, dx, _, _, rfl, S.o, t.c_Stepper, t.n_log, sFl_log, by show 0 ≤ sizeLine; decide, fun L hL => ?_⟩
  have s1 : Go T No H (upd H L (.lst [])) := Go.refl.add hL
  have L1 : upd H L (.lst []) L = some (.lst []) := upd_same
  generalize upd H L (.lst []) = H1 at s1 L1
  have S1 := S.go0 s1
  refine ⟨.list ((rows ++ [r]).map rowD), .list [], .lst (.inl (.inl S1.gl)) (FzA.dp _ _ (fzA_zp.mpr (zp_map.mpr S1.rw_))), .lst (.inl (.inl L1)) .nil, rows_shaped _ hR, nil_shaped, _, rfl, ?_⟩
  rw [eqv_nil, decide_eq_false (by simp)]
  refine iteF ?_
  -- row = self.log.pop()
  obtain ⟨lg0, v, rfl, fv, zlg⟩ := Zp.unsnoc S1.rw_
  refine ⟨_, rfl, p, _, dx, _, _, rfl, S1.o, t.c_Stepper, t.n_log, sFl_log, .inl ⟨rfl, _, .inl (.inl S1.gl)⟩, Lg, _, _, rfl, rfl, S1.gl, last_at _ _, ?_⟩
  have S2 := S1.unlog
  have mLg : Lg ∈ fpS p Ld Lg qs := mem_fpS.mpr (.inr (.inr (.inl rfl)))
  have mLd : Ld ∈ fpS p Ld Lg qs := mem_fpS.mpr (.inr (.inl rfl))
  have G2 : Go T (· ∈ fpS p Ld Lg qs) H (upd H1 Lg (.lst (lg0 ++ [v]).dropLast)) := s1.wk.set S1.gl trivial (.inl mLg)
  have fv2 := fv.set (o := .lst (lg0 ++ [v]).dropLast) S1.gl trivial
  generalize upd H1 Lg (.lst (lg0 ++ [v]).dropLast) = H2 at S2 G2 fv2
  rw [List.dropLast_concat, List.dropLast_concat] at S2
  have wk : ∀ {fp' : List Addr} {H' : Hp}, Go T (· ∈ fpS p Ld Lg qs) H H' → StAt K H' p b ds rows fp' → (∀ a ∈ fp', a ∈ fpS p Ld Lg qs) → Q .non H' := fun a b c => hq _ _ a b c
  cases r with
  | bgn n ks =>
    obtain ⟨a, x, y, z, rfl, ha, f1, f2, f3⟩ := fz_t3.mp fv2
    obtain rfl := fz_str.mp f1
    refine ⟨_, rfl, _, _, _, _, rfl, rfl, SqT.of ha, atI_nat (j := 0) rfl, rfl, _, rfl, ?_⟩
    rw [decide_eq_true rfl]
    have e0 : doRow b ds rows.length (.bgn n ks) = ds ++ [⟨nameIx b n, ks, [], rows.length, none, .op⟩] := rfl
    rw [e0] at S2
    obtain ⟨qs0, q, rfl, D, zq⟩ := Zp.unsnoc S2.dl
    have hLd := S2.ld
    rw [List.map_append] at hLd
    refine iteT ⟨_, rfl, p, _, dx, _, _, rfl, S2.o, t.c_Stepper, t.n_deals, sFl_deals, .inl ⟨rfl, _, .inl (.inl hLd)⟩, Ld, _, _, rfl, rfl, hLd, last_at _ _, ?_⟩
    have S3 := S2.unpush
    show Q .non (upd H2 Ld (.lst ((qs0.map fun q => V.ref q.1) ++ [V.ref q.1]).dropLast))
    rw [List.dropLast_concat]
    refine wk (G2.set hLd trivial (.inl mLd)) ⟨dx, ob, Ld, Lg, qs0, _, S3, rfl⟩ fun a h => ?_
    rw [fpS_snoc]
    exact List.mem_append_left _ h
  | stp i =>
    obtain ⟨a, x, y, rfl, ha, f1, f2⟩ := fz_t2.mp fv2
    obtain rfl := fz_str.mp f1
    obtain rfl := fz_int.mp f2
    obtain ⟨d, hd⟩ := hU
    have hl : i < ds.length := (List.getElem?_eq_some_iff.mp hd).1
    have e1 : doRow b ds rows.length (.stp i) = ds.set i { d with told := d.told ++ [tkOf b ds i d] } := modAt_some hd
    rw [e1] at S2
    obtain ⟨q, hqi, D⟩ := S2.dl.at (List.getElem?_set_self hl)
    refine ⟨_, rfl, _, _, _, _, rfl, rfl, SqT.of ha, atI_nat (j := 0) rfl, rfl, _, rfl, ?_⟩
    rw [show decide (V.str "step" = V.str "begin") = false by decide +kernel]
    refine iteF ⟨_, rfl, _, _, _, _, rfl, rfl, SqT.of ha, atI_nat (j := 0) rfl, rfl, _, rfl, ?_⟩
    rw [decide_eq_true rfl]
    refine iteT ⟨_, rfl, p, _, dx, _, _, rfl, S2.o, t.c_Stepper, t.n_deals, sFl_deals, _, rfl, _, _, _, _, rfl, rfl, SqT.of ha, atI_nat (j := 1) rfl, _, _, _, _, rfl, rfl, .inl (.inl S2.ld), atI_nat (by rw [List.getElem?_map, hqi]; rfl), ?_⟩
    obtain ⟨dy, t1, t2, kb, ah, xs, h1, h2, h3, h4⟩ := id D
    obtain ⟨xs0, x, rfl, _, zx⟩ := Zp.unsnoc h4
    refine ⟨_, rfl, q.1, _, dy, _, _, rfl, h1, t.c_Deal, t.n_told, dFl_told, .inl ⟨rfl, _, .inl (.inl h3)⟩, q.2, _, _, rfl, rfl, h3, last_at _ _, ?_⟩
    rw [List.dropLast_concat]
    have g3 : Go T (fun a => a = q.2) H2 (upd H2 q.2 (.lst xs0)) := Go.refl.set h3 trivial (.inl rfl)
    have n12 := fp_self S2.nd q (List.mem_of_getElem? hqi)
    have D3 : DlAt (cD K) (upd H2 q.2 (.lst xs0)) b q d := ⟨dy, t1, t2, kb, ah, xs0, g3.ins h1 n12, h2.up g3.fz, upd_same, FzL.go (f := tkD) zx g3⟩
    have S3 := S2.mod hqi g3 (fun a z => .inr z) D3
    rw [List.set_set, set_same hd] at S3
    have mq : q.2 ∈ fpS p Ld Lg qs := mem_fpS.mpr (.inr (.inr (.inr ⟨q, List.mem_of_getElem? hqi, .inr rfl⟩)))
    exact wk (G2.thn g3 fun a z => .inl (by rw [z]; exact mq)) ⟨dx, ob, Ld, Lg, qs, _, S3, rfl⟩ fun a h => h
  | fin i =>
    obtain ⟨a, x, y, rfl, ha, f1, f2⟩ := fz_t2.mp fv2
    obtain rfl := fz_str.mp f1
    obtain rfl := fz_int.mp f2
    obtain ⟨d, hd, hw, he⟩ := hU
    have hl : i < ds.length := (List.getElem?_eq_some_iff.mp hd).1
    obtain ⟨n, wd, e1⟩ : ∃ n wd, doRow b ds rows.length (.fin i) = ds.set i { d with ended := some n, word := wd } := ⟨_, _, modAt_some hd⟩
    rw [e1] at S2
    obtain ⟨q, hqi, D⟩ := S2.dl.at (List.getElem?_set_self hl)
    refine ⟨_, rfl, _, _, _, _, rfl, rfl, SqT.of ha, atI_nat (j := 0) rfl, rfl, _, rfl, ?_⟩
    rw [show decide (V.str "end" = V.str "begin") = false by decide +kernel]
    refine iteF ⟨_, rfl, _, _, _, _, rfl, rfl, SqT.of ha, atI_nat (j := 0) rfl, rfl, _, rfl, ?_⟩
    rw [show decide (V.str "end" = V.str "step") = false by decide +kernel]
    refine iteF ⟨_, rfl, p, _, dx, _, _, rfl, S2.o, t.c_Stepper, t.n_deals, sFl_deals, _, rfl, _, _, _, _, rfl, rfl, SqT.of ha, atI_nat (j := 1) rfl, _, _, _, _, rfl, rfl, .inl (.inl S2.ld), atI_nat (by rw [List.getElem?_map, hqi]; rfl), ?_⟩
    obtain ⟨dy, t1, t2, kb, ah, xs, h1, h2, h3, h4⟩ := id D
    refine ⟨_, rfl, q.1, dy, _, rfl, h1, dFl_m5, q, b, _, rfl, D, fun H3 g3 D3 => ?_⟩
    have S3 := S2.mod hqi g3 (fun a z => .inl z) D3
    have ed : ({ ({ d with ended := some n, word := wd } : Ds) with ended := none, word := .op } : Ds) = d := by
      cases d
      simp only at hw he
      subst hw he
      rfl
    rw [ed, List.set_set, set_same hd] at S3
    have mq : q.1 ∈ fpS p Ld Lg qs := mem_fpS.mpr (.inr (.inr (.inr ⟨q, List.mem_of_getElem? hqi, .inl rfl⟩)))
    exact wk (G2.thn g3 fun a z => .inl (by rw [z]; exact mq)) ⟨dx, ob, Ld, Lg, qs, _, S3, rfl⟩ fun a h => h
  | drp i =>
    obtain ⟨a, x, y, rfl, ha, f1, f2⟩ := fz_t2.mp fv2
    obtain rfl := fz_str.mp f1
    obtain rfl := fz_int.mp f2
    obtain ⟨d, hd, hw, he⟩ := hU
    have hl : i < ds.length := (List.getElem?_eq_some_iff.mp hd).1
    obtain ⟨n, wd, e1⟩ : ∃ n wd, doRow b ds rows.length (.drp i) = ds.set i { d with ended := some n, word := wd } := ⟨_, _, modAt_some hd⟩
    rw [e1] at S2
    obtain ⟨q, hqi, D⟩ := S2.dl.at (List.getElem?_set_self hl)
    refine ⟨_, rfl, _, _, _, _, rfl, rfl, SqT.of ha, atI_nat (j := 0) rfl, rfl, _, rfl, ?_⟩
    rw [show decide (V.str "drop" = V.str "begin") = false by decide +kernel]
    refine iteF ⟨_, rfl, _, _, _, _, rfl, rfl, SqT.of ha, atI_nat (j := 0) rfl, rfl, _, rfl, ?_⟩
    rw [show decide (V.str "drop" = V.str "step") = false by decide +kernel]
    refine iteF ⟨_, rfl, p, _, dx, _, _, rfl, S2.o, t.c_Stepper, t.n_deals, sFl_deals, _, rfl, _, _, _, _, rfl, rfl, SqT.of ha, atI_nat (j := 1) rfl, _, _, _, _, rfl, rfl, .inl (.inl S2.ld), atI_nat (by rw [List.getElem?_map, hqi]; rfl), ?_⟩
    obtain ⟨dy, t1, t2, kb, ah, xs, h1, h2, h3, h4⟩ := id D
    refine ⟨_, rfl, q.1, dy, _, rfl, h1, dFl_m5, q, b, _, rfl, D, fun H3 g3 D3 => ?_⟩
    have S3 := S2.mod hqi g3 (fun a z => .inl z) D3
    have ed : ({ ({ d with ended := some n, word := wd } : Ds) with ended := none, word := .op } : Ds) = d := by
      cases d
      simp only at hw he
      subst hw he
      rfl
    rw [ed, List.set_set, set_same hd] at S3
    have mq : q.1 ∈ fpS p Ld Lg qs := mem_fpS.mpr (.inr (.inr (.inr ⟨q, List.mem_of_getElem? hqi, .inl rfl⟩)))
    exact wk (G2.thn g3 fun a z => .inl (by rw [z]; exact mq)) ⟨dx, ob, Ld, Lg, qs, _, S3, rfl⟩ fun a h => h
end
end K29
/-! text K29Wf -/
namespace K29
open PySem
/-! ### what holds of the dealings after legal rows -/
def isDeed (x : Str) : Prop := x = ("read" : Str) ∨ x = ("write" : Str) ∨ x = ("ask" : Str)
structure WfE (b : Bk) (d : Ds) : Prop where
  dl : d.deal < b.deals.length
  ks : okKeys b (dealAt b d.deal) d.keys
  tl : d.told.length ≤ (dealAt b d.deal).steps.length
  tk : ∀ t ∈ d.told, okKey b t.key ∧ isDeed t.deed ∧ ∀ j, t.seen = some j → j < 9
  op : d.word = .op → d.ended = none
  st : d.word = .st → ∃ n, d.ended = some n
structure WfS (b : Bk) (ds : List Ds) : Prop where
  e : ∀ d ∈ ds, WfE b d
  n : ds.length ≤ 9
section
variable {b : Bk} {ds : List Ds} {d : Ds} {i : Nat} {n : Nat} {r : Row} {rows : List Row}
theorem dealAt_lt (h : i < b.deals.length) : b.deals[i]? = some (dealAt b i) := by
  rw [List.getElem?_eq_getElem h]
  unfold dealAt
  rw [List.getElem?_eq_getElem h]
  rfl
theorem dealAt_wf (wf : WfB b) (h : i < b.deals.length) : WfD b (dealAt b i) := wf.ds _ (List.mem_of_getElem? (dealAt_lt h))
theorem okKey_nm (wf : WfB b) {k : Ky} (h : okKey b k) : isNm k.1 := by
  obtain ⟨⟨m, h1, _⟩, _⟩ := h
  exact wf.k1 _ h1
theorem okKey_ok (wf : WfB b) {k : Ky} (h : okKey b k) : kOk k := kOk_nm (okKey_nm wf h)
theorem okKeys_len {dl : Dl} {ks : List Ky} (h : okKeys b dl ks) : ks.length = dl.letters.length := by
  have := congrArg List.length h.1
  simpa using this
theorem WfE.v (wf : WfB b) (h : WfE b d) : WfV d := by
  refine ⟨h.st, ?_, fun t ht => okKey_ok wf (h.tk t ht).1⟩
  have := (dealAt_wf wf h.dl).s8
  have := h.tl
  omega
theorem WfS.v (wf : WfB b) (h : WfS b ds) : ∀ d ∈ ds, WfV d := fun d hd => (h.e d hd).v wf
theorem stOk_of (wf : WfB b) (h : WfE b d) (ht : d.told.length < (dealAt b d.deal).steps.length) : ∃ j st l k, StOk b d j st l k := by
  have D := dealAt_wf wf h.dl
  have e1 := List.getElem?_eq_getElem ht
  generalize (dealAt b d.deal).steps[d.told.length] = st at e1
  have hm := D.sl st (List.mem_of_getElem? e1)
  obtain ⟨l, hl, e2⟩ := List.mem_map.mp hm
  obtain ⟨j, hj, e3⟩ := List.mem_iff_getElem.mp hl
  have e4 : (dealAt b d.deal).letters[j]? = some l := by rw [List.getElem?_eq_getElem hj, e3]
  have hk : j < d.keys.length := by rw [okKeys_len h.ks]; exact hj
  have e5 := List.getElem?_eq_getElem hk
  refine ⟨j, st, l, d.keys[j], h.dl, e1, e4, e2, e5, okKey_ok wf (h.ks.2 _ (List.mem_of_getElem? e5)), D.ln⟩
theorem rowW_of (wf : WfB b) (h : WfS b ds) (ho : okRow b ds r) : RowW b ds r := by
  cases r with
  | bgn nm ks =>
    obtain ⟨_, d, hd, e, hk⟩ := ho
    obtain ⟨ix, hi, e2⟩ := List.mem_iff_getElem.mp hd
    exact ⟨ix, d, by rw [List.getElem?_eq_getElem hi, e2], e, hk⟩
  | stp i =>
    obtain ⟨d, hd, hw, ht⟩ := ho
    have E := h.e d (List.mem_of_getElem? hd)
    obtain ⟨j, st, l, k, O⟩ := stOk_of wf E ht
    exact ⟨d, j, st, l, k, hd, hw, O, (dealAt_wf wf E.dl).l4⟩
  | fin i =>
    obtain ⟨d, hd, hw, ht⟩ := ho
    exact ⟨d, hd, hw, ht⟩
  | drp i =>
    obtain ⟨d, hd, hw, _⟩ := ho
    exact ⟨d, hd, hw⟩
theorem unOk_of (h : WfS b ds) (ho : okRow b ds r) : UnOk ds r := by
  cases r with
  | bgn nm ks => trivial
  | stp i =>
    obtain ⟨d, hd, hw, ht⟩ := ho
    exact ⟨d, hd⟩
  | fin i =>
    obtain ⟨d, hd, hw, ht⟩ := ho
    exact ⟨d, hd, hw, (h.e d (List.mem_of_getElem? hd)).op hw⟩
  | drp i =>
    obtain ⟨d, hd, hw, _⟩ := ho
    exact ⟨d, hd, hw, (h.e d (List.mem_of_getElem? hd)).op hw⟩
theorem nm_strOk {x : Str} (h : isNm x) : PyData.strOk x = true := kOk_nm (k := (x, 0)) h
theorem rOk_of (wf : WfB b) (ho : okRow b ds r) : rOk r := by
  cases r with
  | bgn nm ks =>
    obtain ⟨_, d, hd, rfl, hk⟩ := ho
    exact ⟨nm_strOk (wf.ds d hd).nm, fun k hk2 => okKey_ok wf (hk.2 k hk2)⟩
  | stp i => trivial
  | fin i => trivial
  | drp i => trivial
theorem lastW_lt {key : Ky} {row j : Nat} (h : lastW ds key row = some j) : j < ds.length := (lastG_lt ds key row _ j h).1
theorem wfS_set (h : WfS b ds) (hd : ds[i]? = some d) {d' : Ds} (h' : WfE b d') : WfS b (ds.set i d') := by
  refine ⟨fun x hx => ?_, by rw [List.length_set]; exact h.n⟩
  rcases List.mem_or_eq_of_mem_set hx with h1 | h1
  · exact h.e x h1
  · rw [h1]
    exact h'
theorem wfS_do (wf : WfB b) (h : WfS b ds) (ho : okRow b ds r) (n : Nat) : WfS b (doRow b ds n r) := by
  cases r with
  | bgn nm ks =>
    obtain ⟨hl, d, hd, rfl, hk⟩ := ho
    obtain ⟨ix, hi, e2⟩ := List.mem_iff_getElem.mp hd
    have e3 : b.deals[ix]? = some d := by rw [List.getElem?_eq_getElem hi, e2]
    have e4 := nameIx_at wf.dn e3
    refine ⟨fun x hx => ?_, by show (ds ++ [_]).length ≤ 9; rw [List.length_append]; exact hl⟩
    rcases List.mem_append.mp (show x ∈ ds ++ [_] from hx) with h1 | h1
    · exact h.e x h1
    · rw [List.mem_singleton.mp h1, e4]
      exact ⟨hi, by show okKeys b (dealAt b ix) ks; rw [dealAt_some e3]; exact hk, Nat.zero_le _, fun t ht => (by cases ht), fun _ => rfl, fun z => (by cases z)⟩
  | stp i =>
    obtain ⟨d, hd, hw, ht⟩ := ho
    have E := h.e d (List.mem_of_getElem? hd)
    obtain ⟨j, st, l, k, O⟩ := stOk_of wf E ht
    have e : doRow b ds n (.stp i) = ds.set i { d with told := d.told ++ [tkOf b ds i d] } := modAt_some hd
    rw [e]
    have il : i < ds.length := (List.getElem?_eq_some_iff.mp hd).1
    have hn := h.n
    refine wfS_set h hd ⟨E.dl, E.ks, by show (d.told ++ [tkOf b ds i d]).length ≤ _; rw [List.length_append]; exact ht, fun t htm => ?_, E.op, E.st⟩
    rcases List.mem_append.mp (show t ∈ d.told ++ [tkOf b ds i d] from htm) with h1 | h1
    · exact E.tk t h1
    · rw [List.mem_singleton.mp h1, O.tk]
      refine ⟨E.ks.2 k (List.mem_of_getElem? O.hk), (dealAt_wf wf E.dl).sd st (List.mem_of_getElem? O.hst), fun m hm => ?_⟩
      have hm : seenOf b ds i d = some m := hm
      unfold seenOf at hm
      split at hm
      · cases hm
      · split at hm
        · cases hm
          omega
        · have := lastW_lt hm
          omega
  | fin i =>
    obtain ⟨d, hd, hw, ht⟩ := ho
    have E := h.e d (List.mem_of_getElem? hd)
    have e : doRow b ds n (.fin i) = ds.set i { d with ended := some n, word := if isOff ds d then .of else .st } := modAt_some hd
    rw [e]
    refine wfS_set h hd ⟨E.dl, E.ks, E.tl, E.tk, fun z => ?_, fun _ => ⟨n, rfl⟩⟩
    have z : (if isOff ds d = true then Wd.of else Wd.st) = .op := z
    split at z <;> cases z
  | drp i =>
    obtain ⟨d, hd, hw, _⟩ := ho
    have E := h.e d (List.mem_of_getElem? hd)
    have e : doRow b ds n (.drp i) = ds.set i { d with ended := some n, word := .of } := modAt_some hd
    rw [e]
    exact wfS_set h hd ⟨E.dl, E.ks, E.tl, E.tk, fun z => (by cases z), fun z => (by cases z)⟩
theorem OkR.wf (wf : WfB b) (h : OkR b rows) : WfS b (agn b rows) := by
  induction h with
  | nil => exact ⟨fun d hd => (by cases hd), Nat.zero_le _⟩
  | snoc h ho ih =>
    rw [agn_snoc]
    exact wfS_do wf ih ho _
theorem OkR.inv (h : OkR b (rows ++ [r])) : OkR b rows ∧ okRow b (agn b rows) r := by
  generalize e : rows ++ [r] = l at h
  cases h with
  | nil => simp at e
  | snoc h ho =>
    obtain ⟨rfl, e2⟩ := List.append_inj' e rfl
    cases e2
    exact ⟨h, ho⟩
theorem OkR.take (h : OkR b rows) (k : Nat) : OkR b (rows.take k) := by
  induction h with
  | nil => rw [List.take_nil]; exact .nil
  | @snoc rows r h ho ih =>
    by_cases hk : k ≤ rows.length
    · rw [List.take_append_of_le_length hk]
      exact ih
    · have e : (rows ++ [r]).take k = rows ++ [r] := List.take_of_length_le (by rw [List.length_append]; simp; omega)
      rw [e]
      exact .snoc h ho
theorem take_snoc {α : Type} {l : List α} {k : Nat} {x : α} (h : l[k]? = some x) : l.take (k + 1) = l.take k ++ [x] := by
  obtain ⟨hl, e⟩ := List.getElem?_eq_some_iff.mp h
  rw [List.take_succ, h]
  rfl
theorem OkR.at (h : OkR b rows) {k : Nat} (hk : rows[k]? = some r) : OkR b (rows.take k) ∧ okRow b (agn b (rows.take k)) r := by
  have := h.take (k + 1)
  rw [take_snoc hk] at this
  exact this.inv
theorem OkR.rOk (wf : WfB b) (h : OkR b rows) : ∀ r ∈ rows, rOk r := by
  induction h with
  | nil => exact fun r hr => (by cases hr)
  | snoc h ho ih =>
    intro r hr
    rcases List.mem_append.mp hr with h1 | h1
    · exact ih r h1
    · rw [List.mem_singleton.mp h1]
      exact rOk_of wf ho
end
end K29
/-! text K29P9 -/
namespace K29
open PySem PySem.Spec PyProof.Rows L2 LamX
section
variable {P : Program} {w : World} {K : PySem.W.Frag} {mg : Str → Option Value} {base : Heap} {T : List (Addr × Str)}
/-! ### state, left, writer -/
def sp_S_state (K : PySem.W.Frag) : Sp := fun vs H Q _ => ∃ (p : Addr) (b : Bk) (ds : List Ds) (rows : List Row) (fp : List Addr) (i : Nat) (d : Ds), vs = [.ref p, .int i] ∧ StAt K H p b ds rows fp ∧ ds[i]? = some d ∧ Q (.str d.word.s) H
theorem b_S_state (t : Tp K mg) : FB P w K mg base 2 (He.fAd K ("Stepper", some "state")) p_S_state (sp_S_state K) := by
  refine FB.of t.f_S_state sc_S_state (fun vs H Q E ⟨_, _, _, _, _, _, _, h, _⟩ => by rw [h]; rfl) (fun cdv A outer s H vs Q E hr h => ?_)
  obtain ⟨p, b, ds, rows, fp, i, d, rfl, hS, hd, hq⟩ := h
  have nd := sc_S_state.nd
  refine ⟨_, pss_cons (ps_set (i := 2) nd rfl (Or.inl rfl) (pe_m t.c_Stepper t.m_S_deal_by (b_S_deal_by t) hr (pv 0) (pa_cons (pv 1) pa_nil))) (pss_one (ps_ret (pe_fld (pv 2) rfl))), ?_⟩
  obtain ⟨dx, ob, Ld, Lg, qs, lg, S, rfl⟩ := hS
  obtain ⟨q, hqi, D⟩ := S.dl.at hd
  obtain ⟨dy, t1, t2, kb, ah, xs, h1, h2, h3, h4⟩ := D
  exact ⟨_, rfl, p, dx, _, rfl, S.o, sFl_m1, _, rfl, p, dx, ob, Ld, Lg, qs, i, q, rfl, S.o, S.ld, hqi, _, rfl, q.1, _, dy, _, _, rfl, h1, t.c_Deal, t.n_word, dFl_word, hq⟩
def sp_S_left (K : PySem.W.Frag) : Sp := fun vs H Q _ => ∃ (p : Addr) (b : Bk) (ds : List Ds) (rows : List Row) (fp : List Addr) (i : Nat) (d : Ds), vs = [.ref p, .int i] ∧ StAt K H p b ds rows fp ∧ ds[i]? = some d ∧ d.word = .op ∧ Q (.int (((dealAt b d.deal).steps.length : Int) - d.told.length)) H
theorem b_S_left (t : Tp K mg) : FB P w K mg base 3 (He.fAd K ("Stepper", some "left")) p_S_left (sp_S_left K) := by
  refine FB.of t.f_S_left sc_S_left (fun vs H Q E ⟨_, _, _, _, _, _, _, h, _⟩ => by rw [h]; rfl) (fun cdv A outer s H vs Q E hr h => ?_)
  obtain ⟨p, b, ds, rows, fp, i, d, rfl, hS, hd, hw, hq⟩ := h
  have nd := sc_S_left.nd
  refine ⟨_, pss_cons (ps_set (i := 2) nd rfl (Or.inl rfl) (pe_m t.c_Stepper t.m_S_open_deal (b_S_open_deal t) hr (pv 0) (pa_cons (pv 1) pa_nil))) (pss_one (ps_ret (pe_m0 t.c_Deal t.m_D_steps_left (b_D_steps_left t) hr (pv 2)))), ?_⟩
  obtain ⟨dx, ob, Ld, Lg, qs, lg, S, rfl⟩ := hS
  obtain ⟨q, hqi, D⟩ := S.dl.at hd
  obtain ⟨dy, t1, t2, kb, ah, xs, h1, h2, h3, h4⟩ := id D
  exact ⟨_, rfl, p, dx, _, rfl, S.o, sFl_m2, _, rfl, p, dx, ob, Ld, Lg, qs, i, q, b, d, rfl, S.o, S.ld, hqi, D, hw, _, rfl, q.1, dy, _, rfl, h1, dFl_m2, q, b, d, rfl, D, hq⟩
def sp_S_writer (K : PySem.W.Frag) : Sp := fun vs H Q _ => ∃ (p : Addr) (b : Bk) (ds : List Ds) (rows : List Row) (fp : List Addr) (kv : V) (key : Ky), vs = [.ref p, kv] ∧ StAt K H p b ds rows fp ∧ WfB b ∧ FzD H kv (kyD key) ∧ okKey b key ∧ kOk key ∧ (∀ d ∈ ds, WfV d) ∧ ds.length ≤ 100 ∧ Tabs (lmT K) H ∧
  ∀ H', Go (lmT K) No H H' → Q (snV (lastW ds key rows.length)) H'
theorem b_S_writer (t : Tp K mg) (TB : TabB base mg (He.cT K ("Stepper", some "last_writer")).1 (He.cT K ("Stepper", some "last_writer")).2) : FB P w K mg base 4 (He.fAd K ("Stepper", some "writer")) p_S_writer (sp_S_writer K) := by
  refine FB.of t.f_S_writer sc_S_writer (fun vs H Q E ⟨_, _, _, _, _, _, _, h, _⟩ => by rw [h]; rfl) (fun cdv A outer s H vs Q E hr h => ?_)
  obtain ⟨p, b, ds, rows, fp, kv, key, rfl, hS, wf, hk, ok, ok2, hW, hlen, hT, hq⟩ := h
  refine ⟨_, pss_cons (ps_if (pt_not (pt_val (pe_f (b_is_key (T := lmT K) t) t.g_is_key hr (pa_cons (pe_fld (pv 0) rfl) (pa_cons (pv 1) pa_nil))))) (pss_one ps_never) pss_nil)
    (pss_one (ps_ret (pe_m t.c_Stepper t.m_S_last_writer (b_S_last_writer t TB) hr (pv 0) (pa_cons (pv 1) (pa_cons (pe_callB call_len (by rfl) t.b_len PySem.boot_len (pa_cons (pe_fld (pv 0) rfl) pa_nil)) pa_nil))))), ?_⟩
  obtain ⟨dx, ob, Ld, Lg, qs, lg, S, rfl⟩ := id hS
  refine ⟨_, rfl, p, _, dx, _, _, rfl, S.o, t.c_Stepper, t.n_own_book, sFl_book, _, rfl, ob, kv, b, key, rfl, S.bk, wf, hk, ok, fun H1 g1 => ⟨_, rfl, iteF ?_⟩⟩
  have S1 := S.go0 g1
  refine ⟨_, rfl, p, dx, _, rfl, S1.o, sFl_m3, _, rfl, _, rfl, p, _, dx, _, _, rfl, S1.o, t.c_Stepper, t.n_log, sFl_log, _, lg.length, rfl, .inl ⟨_, .inl (.inl S1.gl), rfl⟩, p, b, ds, rows, _, kv, key, rows.length, ?_, hS.go0 g1, hk.go g1, ok2, hW, hlen, g1.tb hT, fun H2 g2 => hq _ (g1.thn0 g2)⟩
  rw [show lg.length = rows.length from S.rw_.1]
  rfl
/-! ### len, str, rows -/
def sp_S_len (K : PySem.W.Frag) : Sp := fun vs H Q _ => ∃ (p : Addr) (b : Bk) (ds : List Ds) (rows : List Row) (fp : List Addr), vs = [.ref p] ∧ StAt K H p b ds rows fp ∧ Q (.int (ds.length : Nat)) H
theorem b_S_len (t : Tp K mg) : FB P w K mg base 1 (He.fAd K ("Stepper", some "__len__")) p_S_len (sp_S_len K) := by
  refine FB.of t.f_S_len sc_S_len (fun vs H Q E ⟨_, _, _, _, _, h, _⟩ => by rw [h]; rfl) (fun cdv A outer s H vs Q E hr h => ?_)
  obtain ⟨p, b, ds, rows, fp, rfl, hS, hq⟩ := h
  refine ⟨_, pss_one (ps_ret (pe_callB call_len (by rfl) t.b_len PySem.boot_len (pa_cons (pe_fld (pv 0) rfl) pa_nil))), ?_⟩
  obtain ⟨dx, ob, Ld, Lg, qs, lg, S, rfl⟩ := hS
  exact ⟨_, rfl, p, _, dx, _, _, rfl, S.o, t.c_Stepper, t.n_deals, sFl_deals, _, ds.length, rfl, .inl ⟨_, .inl (.inl S.ld), by rw [List.length_map]; exact S.dl.1.symm⟩, hq⟩
def stText (ds : List Ds) : Str := Txt.join " " (ds.map (·.word.s))
theorem wd_len (w : Wd) : w.s.length ≤ 6 := by cases w <;> decide +kernel
theorem stText_sz : ∀ ds : List Ds, ds.length ≤ 100 → ((ds.map (·.word.s)).map (·.length)).sum + (ds.map (·.word.s)).length * (" " : Str).length ≤ 16777216 := fun ds h => by
  have key : ∀ ds : List Ds, ((ds.map (·.word.s)).map (·.length)).sum ≤ 6 * ds.length := fun ds => by
    induction ds with
    | nil => simp
    | cons d ds ih =>
      have := wd_len d.word
      simp only [List.map_cons, List.sum_cons, List.length_cons]
      omega
  have h1 := key ds
  have h2 : (" " : Str).length = 1 := by decide +kernel
  rw [h2, List.length_map]
  omega
def sp_S_str (K : PySem.W.Frag) (T : List (Addr × Str)) : Sp := fun vs H Q _ => ∃ (p : Addr) (b : Bk) (ds : List Ds) (rows : List Row) (fp : List Addr), vs = [.ref p] ∧ StAt K H p b ds rows fp ∧ ds.length ≤ 100 ∧ ∀ H', Go T No H H' → Q (.str (stText ds)) H'
theorem b_S_str (t : Tp K mg) : FB P w K mg base 1 (He.fAd K ("Stepper", some "__str__")) p_S_str (sp_S_str K T) := by
  refine FB.of t.f_S_str sc_S_str (fun vs H Q E ⟨_, _, _, _, _, h, _⟩ => by rw [h]; rfl) (fun cdv A outer s H vs Q E hr h => ?_)
  obtain ⟨p, b, ds, rows, fp, rfl, hS, hlen, hq⟩ := h
  have nd := sc_S_str.nd
  refine ⟨_, pss_one (ps_ret (pe_join pe_str (pe_lc (own := [("deal", 1)]) (g := gName 1) (tt := tYes) (te := tFld K (tVar 1) "word") rfl nd (pi_list (pe_fld (pv 0) rfl)) (blkOk_by (own := [("deal", 1)]) (N := n_S_str) (sc := defScope s_S_str) (by decide +kernel))
      (fun _ _ _ _ _ => pg_name (i := 1) nd rfl (Or.inl rfl)) (fun _ _ _ _ _ => pts_nil) (fun _ _ _ _ _ => pe_fld (pv 1) rfl)))), ?_⟩
  obtain ⟨dx, ob, Ld, Lg, qs, lg, S, rfl⟩ := hS
  refine ⟨⟨_, rfl⟩, _, rfl, p, _, dx, _, _, rfl, S.o, t.c_Stepper, t.n_deals, sFl_deals, _, rfl, ⟨_, .inl (.inl S.ld)⟩, fun D hD => ?_⟩
  refine lc_list (K := K) (a := Ld) (xs := qs.map fun q => .ref q.1) (LcP T No (fun _ => True) (SF (fun d : Ds => .str d.word.s) ds) H D) (LcP.zero hD trivial) (fun i H2 _ c => .inl (.inl (c.1.lst S.ld id))) (fun i y H3 hi c => ?_) fun H3 c => ?_
  · obtain ⟨q, hqi, rfl⟩ : ∃ q, qs[i]? = some q ∧ y = .ref q.1 := by
      rw [List.getElem?_map] at hi
      cases e : qs[i]? with
      | none =>
        rw [e] at hi
        cases hi
      | some q =>
        rw [e] at hi
        exact ⟨q, rfl, (Option.some.inj hi).symm⟩
    obtain ⟨d, hd, D3⟩ := (S.go0 c.1).dl.atL hqi
    obtain ⟨dy, t1, t2, kb, ah, xs, h1, h2, h3, h4⟩ := D3
    have il : i < ds.length := (List.getElem?_eq_some_iff.mp hd).1
    refine ⟨rfl, iteT (B := LcP T No (fun _ => True) (SF (fun d : Ds => .str d.word.s) ds) H D (i + 1) H3) ?_⟩
    exact ⟨_, rfl, q.1, _, dy, _, _, rfl, h1, t.c_Deal, t.n_word, dFl_word, c.yes Go.refl hD id SP.st (sm (by omega)) (SP.yes hd rfl (.str _)) fun _ => trivial⟩
  · obtain ⟨g3, _, zs, hz, fz⟩ := c.all (by rw [List.length_map]; exact S.dl.1)
    have ez := fzl_strs fz
    subst ez
    refine ⟨_, D, ds.map (fun d : Ds => d.word.s), rfl, rfl, .inl (.inl (.inl ?_)), stText_sz ds hlen, hq _ g3⟩
    rw [List.map_map]
    exact hz
theorem cut2 : ¬ (HT.sIx 2 0 (some 2) = 0 ∧ HT.sIx 2 2 none = 2) := by decide +kernel
theorem cut3 : ¬ (HT.sIx 3 0 none = 0 ∧ HT.sIx 3 3 (some 2) = 3) := by decide +kernel
theorem cut3b : ¬ (HT.sIx 3 0 (some 2) = 0 ∧ HT.sIx 3 3 none = 3) := by decide +kernel
def rTupOf (K : PySem.W.Frag) : List V → Hp → VK → Prop := fun xs H Q => ∃ p ys, xs = [.ref p] ∧ ((SqL K H p ys ∧ ∀ l, H l = none → Q (.ref l) (upd H l (.tup ys))) ∨ (SqT K H p ys ∧ Q (.ref p) H))
def rLstOf (K : PySem.W.Frag) : List V → Hp → VK → Prop := fun xs H Q => ∃ p ys, xs = [.ref p] ∧ (SqL K H p ys ∨ SqT K H p ys) ∧ ∀ l, H l = none → Q (.ref l) (upd H l (.lst ys))
def te_rows (K : PySem.W.Frag) : TE := tOp (rCatA K) (tSl (rSlA K) (tVar 1) tNoPart (tPart (tC (.int 2)))) (tCB (rTupOf K) (tCons (tLc (iTup K (tSl (rSlA K) (tVar 1) (tPart (tC (.int 2))) tNoPart)) (gName 2) tYes (tFz (tCB (rLstOf K) (tCons (tVar 2) tNil))) [2]) tNil))
def scR : Scope := { kind := .function, names := [(".0", .local), ("row", .local), ("tuple", .globalImplicit)], isGenerator := false, isCoroutine := false }
def sp_S_rows (K : PySem.W.Frag) (T : List (Addr × Str)) : Sp := fun vs H Q _ => ∃ (p : Addr) (b : Bk) (ds : List Ds) (rows : List Row) (fp : List Addr), vs = [.ref p] ∧ StAt K H p b ds rows fp ∧ rows.length ≤ 1000 ∧ ∀ v H', Go T No H H' → FzD H' v (.list (rows.map rowD)) → Q v H'
theorem b_S_rows (t : Tp K mg) : FB P w K mg base 1 (He.fAd K ("Stepper", some "rows")) p_S_rows (sp_S_rows K T) := by
  refine FB.of t.f_S_rows sc_S_rows (fun vs H Q E ⟨_, _, _, _, _, h, _⟩ => by rw [h]; rfl) (fun cdv A outer s H vs Q E hr h => ?_)
  obtain ⟨p, b, ds, rows, fp, rfl, hS, hlen, hq⟩ := h
  have nd := sc_S_rows.nd
  refine ⟨_, pss_one (ps_ret (pe_fz (pe_lc (own := [("row", 1)]) (g := gName 1) (tt := tYes) (te := te_rows K) rfl nd (pi_list (pe_fld (pv 0) rfl)) (blkOk_by (own := [("row", 1)]) (N := n_S_rows) (sc := defScope s_S_rows) (by decide +kernel))
      (fun _ _ _ _ _ => pg_name (i := 1) nd rfl (Or.inl rfl)) (fun _ _ _ _ _ => pts_nil) (fun _ _ _ _ _ => pe_op op_catA (pe_slice sl_tupA (pv 1) po_none (po_some pe_int)) (pe_callTy call_tuple_of (by rfl) t.b_tuple (by decide +kernel) (pa_cons (pe_lc (own := [("keys", 2)]) (g := gName 2) (tt := tYes) rfl nd (pi_tup (pe_slice sl_tupA (pv 1) (po_some pe_int) po_none)) (blkOk_by (own := [("keys", 2)]) (N := n_S_rows) (sc := scR) (by decide +kernel))
          (fun _ _ _ _ _ => pg_name (i := 2) nd rfl (Or.inl rfl)) (fun _ _ _ _ _ => pts_nil) (fun _ _ _ _ _ => pe_fz (pe_callTy call_list_of (by rfl) t.b_list (by decide +kernel) (pa_cons (pv 2) pa_nil)))) pa_nil)))))), ?_⟩
  obtain ⟨dx, ob, Ld, Lg, qs, lg, S, rfl⟩ := hS
  refine ⟨_, rfl, p, _, dx, _, _, rfl, S.o, t.c_Stepper, t.n_log, sFl_log, _, rfl, ⟨_, .inl (.inl S.gl)⟩, fun D hD => ?_⟩
  refine lc_list (K := K) (a := Lg) (xs := lg) (LcP T No (fun _ => True) (SF rowD rows) H D) (LcP.zero hD trivial) (fun i H2 _ c => .inl (.inl (c.1.lst S.gl id))) (fun i y H3 hi c => ?_) fun H3 c => ?_
  · obtain ⟨r, hr, fr⟩ := S.rw_.atL hi
    have il : i < rows.length := (List.getElem?_eq_some_iff.mp hr).1
    have fr3 := fr.go c.1
    have fin : ∀ (v : V) (H4 : Hp), Go T No H3 H4 → FzD H4 v (rowD r) → ∃ acc, H4 D = some (.lst acc) ∧ acc.length < sizeLine ∧ LcP T No (fun _ => True) (SF rowD rows) H D (i + 1) (upd H4 D (.lst (acc ++ [v]))) := fun v H4 g4 f4 => c.yes g4 hD id SP.st (sm (by omega)) (SP.yes hr rfl f4) fun _ => trivial
    refine ⟨rfl, iteT (B := LcP T No (fun _ => True) (SF rowD rows) H D (i + 1) H3) ?_⟩
    -- a row of two
    have two : ∀ (a : Addr) (x1 x2 : V), y = .ref a → H3 a = some (.tup [x1, x2]) → te_rows K (([some (.ref p), some y, none] : L2.St)) H3 fun v H4 => ∃ acc, H4 D = some (.lst acc) ∧ acc.length < sizeLine ∧ LcP T No (fun _ => True) (SF rowD rows) H D (i + 1) (upd H4 D (.lst (acc ++ [v]))) := fun a x1 x2 e ha => by
      subst e
      refine ⟨_, rfl, 2, rfl, a, _, rfl, SqT.of ha, fun _ => ?_, fun hn => absurd ⟨rfl, rfl⟩ hn⟩
      refine ⟨_, rfl, 2, rfl, a, _, rfl, SqT.of ha, fun hn => absurd hn cut2, fun _ c2 hc2 => ?_⟩
      have s4 : Go T No H3 (upd H3 c2 (.tup [])) := Go.refl.add hc2
      have e4 : upd H3 c2 (.tup []) c2 = some (.tup []) := upd_same
      have e5 : upd H3 c2 (.tup (cutV [x1, x2] (some 2) none)) = upd H3 c2 (.tup []) := rfl
      rw [e5]
      generalize upd H3 c2 (.tup []) = H4 at s4 e4
      refine ⟨c2, rfl, ⟨_, SqT.of e4⟩, fun L hL => ?_⟩
      have s5 : Go T No H4 (upd H4 L (.lst [])) := Go.refl.add hL
      have e6 : upd H4 L (.lst []) L = some (.lst []) := upd_same
      refine lc_tup (K := K) (a := c2) (xs := []) (fun _ H5 => H5 = upd H4 L (.lst [])) rfl (fun _ H5 _ e => by rw [e]; exact SqT.of (upd_old e4 hL)) (fun i x H5 h => by simp at h) fun H5 e => ?_
      subst e
      generalize upd H4 L (.lst []) = H5 at s5 e6
      refine ⟨L, [], rfl, .inl ⟨.inl (.inl e6), fun m hm => ?_⟩⟩
      have s6 : Go T No H5 (upd H5 m (.tup [])) := Go.refl.add hm
      refine ⟨a, m, [x1, x2], [], rfl, rfl, SqT.of (s6.fz _ _ (s5.fz _ _ (s4.fz _ _ ha trivial) trivial) trivial), SqT.of upd_same, by show 2 ≤ sizeLine; decide, fun z => (by cases z), fun _ _ => ?_, fun _ z => absurd rfl z⟩
      exact fin _ _ ((s4.thn0 s5).thn0 s6) (((fr3.go s4).go s5).go s6)
    cases r with
    | bgn n ks =>
      obtain ⟨a, x, y2, z, rfl, ha, f1, f2, f3⟩ := fz_t3.mp fr3
      obtain ⟨a4, o4, xs, rfl, h4, hxs⟩ := fz_list.mp f3
      refine ⟨_, rfl, 2, rfl, a, _, rfl, SqT.of ha, fun hn => absurd hn cut3, fun _ c1 hc1 => ?_⟩
      have s4 : Go T No H3 (upd H3 c1 (.tup [x, y2])) := Go.refl.add hc1
      have e4 : upd H3 c1 (.tup [x, y2]) c1 = some (.tup [x, y2]) := upd_same
      have e5 : upd H3 c1 (.tup (cutV [x, y2, .ref a4] none (some 2))) = upd H3 c1 (.tup [x, y2]) := rfl
      rw [e5]
      generalize upd H3 c1 (.tup [x, y2]) = H4 at s4 e4
      refine ⟨_, rfl, 2, rfl, a, _, rfl, SqT.of (s4.fz _ _ ha trivial), fun hn => absurd hn cut3b, fun _ c2 hc2 => ?_⟩
      have s5 : Go T No H4 (upd H4 c2 (.tup [.ref a4])) := Go.refl.add hc2
      have e6 : upd H4 c2 (.tup [.ref a4]) c2 = some (.tup [.ref a4]) := upd_same
      have e7 : upd H4 c2 (.tup (cutV [x, y2, .ref a4] (some 2) none)) = upd H4 c2 (.tup [.ref a4]) := rfl
      rw [e7]
      generalize upd H4 c2 (.tup [.ref a4]) = H5 at s5 e6
      refine ⟨c2, rfl, ⟨_, SqT.of e6⟩, fun L hL => ?_⟩
      have h45 : H5 a4 = some (.frz o4 (.lst xs)) := s5.fz _ _ (s4.fz _ _ h4 trivial) trivial
      have hx5 : FzL H5 kyD xs ks := (hxs.go s4).go s5
      refine lc_tup (K := K) (a := c2) (xs := [.ref a4]) (LcP T No (fun _ => True) (SF (fun ks : List Ky => .list (ks.map kyD)) [ks]) H5 L) (LcP.zero hL trivial) (fun j H6 _ c6 => SqT.of (c6.1.fz _ _ e6 trivial)) (fun j w6 H6 hj c6 => ?_) fun H6 c6 => ?_
      · have j0 : j = 0 := by
          have := (List.getElem?_eq_some_iff.mp hj).1
          simpa using this
        subst j0
        cases hj
        refine ⟨rfl, iteT (B := LcP T No (fun _ => True) (SF (fun ks : List Ky => .list (ks.map kyD)) [ks]) H5 L 1 H6) ?_⟩
        refine ⟨_, rfl, a4, xs, rfl, .inl (SqL_frz (c6.1.fz _ _ h45 trivial)), fun l hl => ⟨l, _, rfl, upd_same, trivial, fun ol => ?_⟩⟩
        rw [upd_upd]
        exact c6.yes (Go.refl.add hl) hL id SP.st (by decide) (SP.yes (d := ks) rfl rfl (fz_list.mpr ⟨l, ol, xs, rfl, upd_same, (hx5.go c6.1).add hl⟩)) fun _ => trivial
      · obtain ⟨g6, _, zs, hz, fz⟩ := c6.all rfl
        have lz : zs.length = 1 := fz.1
        obtain ⟨z0, rfl⟩ : ∃ z0, zs = [z0] := by
          match zs, lz with
          | [z0], _ => exact ⟨z0, rfl⟩
        obtain ⟨_, _, e8, f8, _⟩ := Zp.uncons fz
        obtain ⟨rfl, rfl⟩ := List.cons.inj e8
        refine ⟨L, _, rfl, .inl ⟨.inl (.inl hz), fun m hm => ?_⟩⟩
        have s7 : Go T No H6 (upd H6 m (.tup [z0])) := Go.refl.add hm
        have e9 : upd H6 m (.tup [z0]) m = some (.tup [z0]) := upd_same
        have f9 := f8.go s7
        generalize upd H6 m (.tup [z0]) = H7 at s7 e9 f9
        have G7 : Go T No H3 H7 := ((s4.thn0 s5).thn0 g6).thn0 s7
        refine ⟨c1, m, [x, y2], [z0], rfl, rfl, SqT.of (s7.fz _ _ (g6.fz _ _ (s5.fz _ _ e4 trivial) trivial) trivial), SqT.of e9, by show 3 ≤ sizeLine; decide, fun z => (by cases z), fun _ z => (by cases z), fun _ _ r8 hr8 => ?_⟩
        have s8 : Go T No H7 (upd H7 r8 (.tup [x, y2, z0])) := Go.refl.add hr8
        exact fin _ _ (G7.thn0 s8) (fz_t3.mpr ⟨r8, _, _, _, rfl, upd_same, (f1.go G7).go s8, (f2.go G7).go s8, f9.go s8⟩)
    | stp j =>
      obtain ⟨a, x1, x2, e, ha, _⟩ := fz_t2.mp fr3
      exact two a x1 x2 e ha
    | fin j =>
      obtain ⟨a, x1, x2, e, ha, _⟩ := fz_t2.mp fr3
      exact two a x1 x2 e ha
    | drp j =>
      obtain ⟨a, x1, x2, e, ha, _⟩ := fz_t2.mp fr3
      exact two a x1 x2 e ha
  · obtain ⟨g3, _, zs, hz, fz⟩ := c.all S.rw_.1
    exact ⟨D, _, rfl, hz, trivial, fun o => hq _ _ (g3.set hz trivial (.inr (Nw.of hD))) (fz_list.mpr ⟨D, o, zs, rfl, upd_same, fz.set hz trivial⟩)⟩
end
end K29
/-! text K29L4 -/
namespace K29
open PySem PySem.Spec PyProof.Rows L2 LamX
section
variable {P : Program} {w : World} {K : PySem.W.Frag} {mg : Str → Option Value} {base : Heap} {T : List (Addr × Str)}
/-! ### again -/
def sp_l_again (T : List (Addr × Str)) : Sp := fun vs H Q _ => ∃ (v : V) (b : Bk) (R : Addr) (rs : List V) (rows : List Row), vs = [v, .ref R] ∧ FzD H v (bkD b) ∧ WfB b ∧ H R = some (.lst rs) ∧ FzL H rowD rs rows ∧ OkR b rows ∧ rows.length ≤ 900 ∧
  ∀ a qs H', Go T No H H' → WP H' a qs (agn b rows) → (∀ c ∈ fpW a qs, Nw H c) → Q (.ref a) H'
theorem b_l_again (t : Tp K mg) : FB P w K mg base 5 (He.ga K "_law_again") p_l_again (sp_l_again T) := by
  refine FB.of t.f_l_again sc_l_again (fun vs H Q E ⟨_, _, _, _, _, h, _⟩ => by rw [h]; rfl) (fun cdv A outer s H vs Q E hr h => ?_)
  obtain ⟨v, b, R, rs, rows, rfl, hb, wf, hR, hrs, hok, hlen, hq⟩ := h
  have nd := sc_l_again.nd
  refine ⟨_, pss_cons (ps_set (i := 2) nd rfl (Or.inl rfl) (pe_lst pa_nil)) (pss_cons (ps_set (i := 3) nd rfl (Or.inl rfl) (pe_lst pa_nil))
    (pss_cons (ps_for PassesOwn.never rfl (pi_list (pv 1)) (pg_name (i := 4) nd rfl (Or.inl rfl)) (pss_one (ps_expr (pe_f (b_l_do (T := T) t) t.g_law_do hr (pa_cons (pv 0) (pa_cons (pv 2) (pa_cons (pv 3) (pa_cons (pv 4) pa_nil))))))))
    (pss_one (ps_ret (pv 2))))), ?_⟩
  refine ⟨by show 0 ≤ sizeLine; decide, fun a ha => ⟨by show 0 ≤ sizeLine; decide, fun D hD => ?_⟩⟩
  have s1 : Go T No H (upd H a (.lst [])) := Go.refl.add ha
  have a1 : upd H a (.lst []) a = some (.lst []) := upd_same
  generalize upd H a (.lst []) = H1 at s1 a1 hD
  have G2 : Go T No H (upd H1 D (.lst [])) := s1.add hD
  have a2 : upd H1 D (.lst []) a = some (.lst []) := upd_old a1 hD
  have D2 : upd H1 D (.lst []) D = some (.lst []) := upd_same
  have nwa : Nw H a := Nw.of ha
  have nwD : Nw H D := s1.nw (Nw.of hD)
  have naD : a ≠ D := ne_of_none a1 hD
  generalize upd H1 D (.lst []) = H2 at G2 a2 D2
  refine ⟨_, rfl, R, rfl, ⟨_, .inl (.inl (G2.lst hR id))⟩, ?_⟩
  refine for_list (K := K) (a := R) (xs := rs) (fun i σ H3 => Go T No H H3 ∧ (∃ z1, σ = [some v, some (.ref R), some (.ref a), some (.ref D), z1]) ∧ ∃ qs rs', WP H3 a qs (agn b (rows.take i)) ∧ H3 D = some (.lst rs') ∧ FzL H3 rowD rs' (rows.take i) ∧ D ∉ fpW a qs ∧ ∀ c ∈ fpW a qs, Nw H c)
    ⟨G2, ⟨none, rfl⟩, [], [], ⟨a2, Zp.nil, by simp [fpW]⟩, D2, Zp.nil, by simpa [fpW] using naD.symm, fun c hc => by
      have : c = a := by simpa [fpW] using hc
      rw [this]
      exact nwa⟩ (fun i σ H3 _ c => .inl (.inl (c.1.lst hR id))) ?_ ?_
  · rintro i x σ H3 hi ⟨g, ⟨z1, rfl⟩, qs, rs', W, hD3, frs, nD, hn⟩
    obtain ⟨r, hr2, fr⟩ := hrs.atL hi
    obtain ⟨ho1, ho2⟩ := hok.at hr2
    have S := ho1.wf wf
    have il : i < rows.length := (List.getElem?_eq_some_iff.mp hr2).1
    refine ⟨_, rfl, _, rfl, _, rfl, _, rfl, v, b, a, qs, _, D, rs', rows.take i, x, r, rfl, hb.go g, wf, W, hD3, frs, nD, fr.go g, rowW_of wf S ho2, S.v wf, by have := S.n; omega, by rw [List.length_take]; omega, fun u H4 qs' rs2 g4 W4 hn4 hD4 fr4 fu => ?_⟩
    have e : rows.take (i + 1) = rows.take i ++ [r] := take_snoc hr2
    have el : (rows.take i).length = i := by rw [List.length_take]; omega
    refine ⟨g.thn g4 fun c z => .inr ?_, ⟨_, rfl⟩, qs', rs2, by rw [e, agn_snoc]; exact W4, hD4, by rw [e]; exact fr4, fun z => ?_, fun c hc => ?_⟩
    · rcases z with z | z
      · rw [z]
        exact nwD
      · exact hn c z
    · rcases hn4 D z with z2 | z2
      · exact nD z2
      · exact z2 _ hD3 trivial
    · rcases hn4 c hc with z2 | z2
      · exact hn c z2
      · exact g.nw z2
  · rintro σ H3 ⟨g, ⟨z1, rfl⟩, qs, rs', W, hD3, frs, nD, hn⟩
    rw [hrs.1, List.take_length] at W
    exact ⟨_, rfl, hq a qs _ g W hn⟩
/-! ### draw -/
def PoolAt (H : Hp) (q : Addr) : Prop := ∃ a b : Int, H q = some (.lst [.int a, .int b]) ∧ 0 ≤ a ∧ 0 ≤ b ∧ b < 2147483647
theorem PoolAt.go {H H' : Hp} {q : Addr} {M : Addr → Prop} (h : PoolAt H q) (g : Go T M H H') (n : ¬ M q) : PoolAt H' q := by
  obtain ⟨a, b, h1, h2⟩ := h
  exact ⟨a, b, g.lst h1 n, h2⟩
def sp_l_draw (T : List (Addr × Str)) : Sp := fun vs H Q _ => ∃ (q : Addr) (m : Int), vs = [.ref q, .int m] ∧ PoolAt H q ∧ 0 < m ∧ m ≤ 1000 ∧ ∀ (x : Nat) H', (x : Int) < m → Go T (· = q) H H' → PoolAt H' q → Q (.int (x : Nat)) H'
theorem b_l_draw (t : Tp K mg) : FB P w K mg base 1 (He.ga K "_law_draw") p_l_draw (sp_l_draw T) := by
  refine FB.of t.f_l_draw sc_l_draw (fun vs H Q E ⟨_, _, h, _⟩ => by rw [h]; rfl) (fun cdv A outer s H vs Q E hr h => ?_)
  obtain ⟨q, m, rfl, ⟨a, b, hp, h0, h1, h2⟩, m0, m1, hq⟩ := h
  have nd := sc_l_draw.nd
  refine ⟨_, pss_cons (ps_if (pt_cmpR op_gt (pe_ix ix_list (pv 0) pe_int (fun _ _ => rfl)) pe_int (nomark _))
      (pss_cons (ps_set (i := 2) nd rfl (Or.inl rfl) (pe_op op_mod (pe_ix ix_list (pv 0) pe_int (fun _ _ => rfl)) (pv 1)))
      (pss_cons (ps_asg (pe_op op_fdiv (pe_ix ix_list (pv 0) pe_int (fun _ _ => rfl)) (pv 1)) (pg_sub (pv 0) pe_int set_list)) (pss_one (ps_ret (pv 2))))) pss_nil)
    (pss_cons (ps_asg (pe_op op_mod (pe_op op_add (pe_op op_mul (pe_ix ix_list (pv 0) pe_int (fun _ _ => rfl)) pe_int) pe_int) pe_int) (pg_sub (pv 0) pe_int set_list))
    (pss_one (ps_ret (pe_op op_mod (pe_op op_fdiv (pe_op op_mod (pe_op op_mul (pe_ix ix_list (pv 0) pe_int (fun _ _ => rfl)) (pe_ix ix_list (pv 0) pe_int (fun _ _ => rfl))) pe_int) pe_int) (pv 1))))), ?_⟩
  have L : SqL K H q [.int a, .int b] := .inl (.inl hp)
  have fin : ∀ (z : Int) (H' : Hp), 0 ≤ z → z < m → Go T (· = q) H H' → PoolAt H' q → Q (.int z) H' := fun z H' z0 z1 g p => by
    obtain ⟨x, rfl⟩ := Int.eq_ofNat_of_zero_le z0
    exact hq x H' z1 g p
  refine ⟨_, rfl, _, _, _, _, rfl, rfl, L, atI_nat (j := 0) rfl, a, 0, rfl, rfl, _, rfl, ?_⟩
  by_cases ha : a > 0
  · rw [decide_eq_true ha]
    refine iteT ⟨_, rfl, _, _, _, _, rfl, rfl, L, atI_nat (j := 0) rfl, _, rfl, _, _, rfl, rfl, m0, ?_⟩
    refine ⟨_, rfl, _, _, _, _, rfl, rfl, L, atI_nat (j := 0) rfl, _, rfl, _, _, rfl, rfl, ⟨m0, by omega⟩, _, rfl, q, _, 0, 0, rfl, rfl, hp, rfl, ?_⟩
    refine ⟨_, rfl, fin _ _ (Int.emod_nonneg _ (by omega)) (Int.emod_lt_of_pos _ m0) (Go.refl.set hp trivial (.inl rfl)) ⟨_, b, upd_same, Int.ediv_nonneg h0 (by omega), h1, h2⟩⟩
  · rw [decide_eq_false ha]
    refine iteF ?_
    refine ⟨_, rfl, _, _, _, _, rfl, rfl, L, atI_nat (j := 1) rfl, _, _, rfl, rfl, .inl ⟨by omega, by omega⟩, _, _, rfl, rfl, _, _, rfl, rfl, (by show (0 : Int) < 2147483647; decide), _, rfl, q, _, 1, 1, rfl, rfl, hp, rfl, ?_⟩
    have k1 := Int.emod_nonneg (b * 69621 + 7) (b := 2147483647) (by decide)
    have k2 := Int.emod_lt_of_pos (b * 69621 + 7) (b := 2147483647) (by decide)
    have g : Go T (· = q) H (upd H q (.lst [.int a, .int ((b * 69621 + 7) % 2147483647)])) := Go.refl.set hp trivial (.inl rfl)
    have p : upd H q (.lst [.int a, .int ((b * 69621 + 7) % 2147483647)]) q = some (.lst [.int a, .int ((b * 69621 + 7) % 2147483647)]) := upd_same
    have L1 : SqL K (upd H q (.lst [.int a, .int ((b * 69621 + 7) % 2147483647)])) q [.int a, .int ((b * 69621 + 7) % 2147483647)] := .inl (.inl p)
    refine ⟨_, rfl, _, _, _, _, rfl, rfl, L1, atI_nat (j := 1) rfl, _, rfl, _, _, _, _, rfl, rfl, L1, atI_nat (j := 1) rfl, _, _, rfl, rfl, .inl ⟨by omega, by omega⟩, _, _, rfl, rfl, (by show (0 : Int) < 2147483629; decide), _, _, rfl, rfl, ⟨by decide, by decide⟩, _, rfl, _, _, rfl, rfl, m0, ?_⟩
    exact fin _ _ (Int.emod_nonneg _ (by omega)) (Int.emod_lt_of_pos _ m0) g ⟨a, _, p, h0, k1, k2⟩
/-! ### left, state_text -/
def sp_l_left : Sp := fun vs H Q _ => ∃ (v : V) (b : Bk) (q : Addr × Addr) (d : Ds), vs = [v, .ref q.1] ∧ FzD H v (bkD b) ∧ WdAt H q d ∧ d.deal < b.deals.length ∧ Q (.int (((dealAt b d.deal).steps.length : Int) - d.told.length)) H
theorem b_l_left (t : Tp K mg) : FB P w K mg base 1 (He.ga K "_law_left") p_l_left sp_l_left := by
  refine FB.of t.f_l_left sc_l_left (fun vs H Q E ⟨_, _, _, _, h, _⟩ => by rw [h]; rfl) (fun cdv A outer s H vs Q E hr h => ?_)
  obtain ⟨v, b, q, d, rfl, hb, D, hl, hq⟩ := h
  have hu := hu_of hr
  refine ⟨_, pss_one (ps_ret (pe_op op_sub (pe_callB call_len (by rfl) t.b_len PySem.boot_len (pa_cons (pe_ix ix_tup (pe_ix ix_list (pe_ix ix_tup (pv 0) pe_int (fun _ _ => rfl)) (pe_dget hu (pv 1) pe_str (fun _ _ => rfl)) (fun _ _ => rfl)) pe_int (fun _ _ => rfl)) pa_nil)) (pe_callB call_len (by rfl) t.b_len PySem.boot_len (pa_cons (pe_dget hu (pv 1) pe_str (fun _ _ => rfl)) pa_nil)))), ?_⟩
  obtain ⟨kv, xs, h1, h2, h3, h4⟩ := D
  obtain ⟨a0, x0, y0, rfl, ha0, hx0, hy0⟩ := fz_t2.mp hb
  obtain ⟨a2, o2, dls, rfl, h22, hdls⟩ := fz_list.mp hy0
  obtain ⟨vd, hvd, fvd⟩ := hdls.at (dealAt_lt hl)
  obtain ⟨a3, w1, w2, w3, rfl, ha3, f1, f2, f3⟩ := fz_t3.mp fvd
  obtain ⟨a5, o5, ss, rfl, h55, hss⟩ := fz_list.mp f3
  refine ⟨_, rfl, _, _, _, _, rfl, rfl, SqT.of ha0, atI_nat (j := 1) rfl, _, rfl, q.1, _, rfl, dget h1 wFl_deal, _, _, (d.deal : Nat), _, rfl, rfl, SqL_frz h22, atI_nat hvd, _, _, _, _, rfl, rfl, SqT.of ha3, atI_nat (j := 2) rfl, _, ss.length, rfl, .inl ⟨_, SqL_frz h55, rfl⟩, _, rfl, q.1, _, rfl, dget h1 wFl_steps, _, xs.length, rfl, .inl ⟨_, .inl (.inl h3), rfl⟩, _, _, rfl, rfl, ?_⟩
  rw [hss.1, h4.1]
  exact hq
def sp_l_state_text (T : List (Addr × Str)) : Sp := fun vs H Q _ => ∃ (a : Addr) (qs : List (Addr × Addr)) (ds : List Ds), vs = [.ref a] ∧ WP H a qs ds ∧ ds.length ≤ 100 ∧ ∀ H', Go T No H H' → Q (.str (stText ds)) H'
theorem b_l_state_text (t : Tp K mg) : FB P w K mg base 1 (He.ga K "_law_state_text") p_l_state_text (sp_l_state_text T) := by
  refine FB.of t.f_l_state_text sc_l_state_text (fun vs H Q E ⟨_, _, _, h, _⟩ => by rw [h]; rfl) (fun cdv A outer s H vs Q E hr h => ?_)
  obtain ⟨a, qs, ds, rfl, W, hlen, hq⟩ := h
  have nd := sc_l_state_text.nd
  have hu := hu_of hr
  refine ⟨_, pss_one (ps_ret (pe_join pe_str (pe_lc (own := [("_law_deal", 1)]) (g := gName 1) (tt := tYes) (te := tDGet (tVar 1) (tC (.str "word"))) rfl nd (pi_list (pv 0)) (blkOk_by (own := [("_law_deal", 1)]) (N := n_l_state_text) (sc := defScope s_l_state_text) (by decide +kernel))
      (fun _ _ _ _ _ => pg_name (i := 1) nd rfl (Or.inl rfl)) (fun _ _ _ _ _ => pts_nil) (fun _ _ _ _ _ => pe_dget hu (pv 1) pe_str (fun _ _ => rfl))))), ?_⟩
  refine ⟨⟨_, rfl⟩, _, rfl, a, rfl, ⟨_, .inl (.inl W.l)⟩, fun D hD => ?_⟩
  refine lc_list (K := K) (a := a) (xs := qs.map fun q => .ref q.1) (LcP T No (fun _ => True) (SF (fun d : Ds => .str d.word.s) ds) H D) (LcP.zero hD trivial) (fun i H2 _ c => .inl (.inl (c.1.lst W.l id))) (fun i y H3 hi c => ?_) fun H3 c => ?_
  · obtain ⟨q, hqi, rfl⟩ := map_at hi
    obtain ⟨d, hd, D3⟩ := (W.go0 c.1).d.atL hqi
    obtain ⟨kv, xs, h1, h2, h3, h4⟩ := D3
    have il : i < ds.length := (List.getElem?_eq_some_iff.mp hd).1
    refine ⟨rfl, iteT (B := LcP T No (fun _ => True) (SF (fun d : Ds => .str d.word.s) ds) H D (i + 1) H3) ?_⟩
    exact ⟨_, rfl, q.1, _, rfl, dget h1 wFl_word, c.yes Go.refl hD id SP.st (sm (by omega)) (SP.yes hd rfl (.str _)) fun _ => trivial⟩
  · obtain ⟨g3, _, zs, hz, fz⟩ := c.all (by rw [List.length_map]; exact W.d.1)
    have ez := fzl_strs fz
    subst ez
    refine ⟨_, D, ds.map (fun d : Ds => d.word.s), rfl, rfl, .inl (.inl (.inl ?_)), stText_sz ds hlen, hq _ g3⟩
    rw [List.map_map]
    exact hz
/-! ### pool -/
def sp_l_pool (K : PySem.W.Frag) (T : List (Addr × Str)) : Sp := fun vs H Q _ => ∃ (S : Addr) (ns : List Int) (k : Nat), vs = [.ref S, .int k] ∧ SqL K H S (ns.map V.int) ∧ k ≤ 100 ∧ ∀ q H', Go T No H H' → Nw H q → PoolAt H' q → Q (.ref q) H'
theorem b_l_pool (t : Tp K mg) : FB P w K mg base 1 (He.ga K "_law_pool") p_l_pool (sp_l_pool K T) := by
  refine FB.of t.f_l_pool sc_l_pool (fun vs H Q E ⟨_, _, _, h, _⟩ => by rw [h]; rfl) (fun cdv A outer s H vs Q E hr h => ?_)
  obtain ⟨S, ns, k, rfl, hS, hk, hq⟩ := h
  have nd := sc_l_pool.nd
  refine ⟨_, pss_cons (ps_set (i := 2) nd rfl (Or.inl rfl) pe_int)
    (pss_cons (ps_if (pt_cmpR op_lt (pv 1) (pe_callB call_len (by rfl) t.b_len PySem.boot_len (pa_cons (pv 0) pa_nil)) (nomark _)) (pss_one (ps_set (i := 2) nd rfl (Or.inl rfl) (pe_ix ix_list (pv 0) (pv 1) (fun _ _ => rfl)))) pss_nil)
    (pss_cons (ps_set (i := 3) nd rfl (Or.inl rfl) (pe_callB (call_max2 rfl) (by rfl) t.b_max (by decide +kernel) (pa_cons (pv 2) (pa_cons (pe_op op_sub (pe_un un_neg pe_int) (pv 2)) pa_nil))))
    (pss_cons (ps_set (i := 4) nd rfl (Or.inl rfl) (pe_op op_mod (pe_op op_mul (pe_op op_add (pe_op op_add (pe_op op_add (pe_op op_mod (pv 3) pe_int) (pe_op op_mul (pe_op op_mul pe_int (pv 1)) (pv 1))) (pe_op op_mul pe_int (pv 1))) pe_int) pe_int) pe_int))
    (pss_one (ps_ret (pe_lst (pa_cons (pe_op op_mul (pv 3) (pe_callTy call_int1 (by rfl) t.b_int (by decide +kernel) (pa_cons (pe_cmpR op_ge (pv 3) (pe_op op_pow pe_int pe_int) (nomark _)) pa_nil))) (pa_cons (pv 4) pa_nil)))))))), ?_⟩
  have key : ∀ (c : Int), (tSeq (tAsg (tCB (fun xs H Q => ∃ i j, xs = [.int i, .int j] ∧ Q (.int (if j > i then j else i)) H) (tCons (tVar 2) (tCons (tOp rSubI (tUn (rU fun i => .int (-i)) (tC (.int 1))) (tVar 2)) tNil))) (gName 3))
      (tSeq (tAsg (tOp (rI (fun _ j => 0 < j) fun i j => .int (i % j)) (tOp (rI CMul fun i j => .int (i * j)) (tOp (rI0 fun i j => .int (i + j)) (tOp (rI0 fun i j => .int (i + j)) (tOp (rI0 fun i j => .int (i + j)) (tOp (rI (fun _ j => 0 < j) fun i j => .int (i % j)) (tVar 3) (tC (.int 2147483629)))
        (tOp (rI CMul fun i j => .int (i * j)) (tOp (rI CMul fun i j => .int (i * j)) (tC (.int 7919)) (tVar 1)) (tVar 1))) (tOp (rI CMul fun i j => .int (i * j)) (tC (.int 31)) (tVar 1))) (tC (.int 17))) (tC (.int 48271))) (tC (.int 2147483647))) (gName 4))
      (tRet (tLst (tCons (tOp (rI CMul fun i j => .int (i * j)) (tVar 3) (tCB rInt1 (tCons (tOp (rI0 fun i j => .bl (decide (j ≤ i))) (tVar 3) (tOp (rI CPow fun i j => .int (i ^ j.toNat)) (tC (.int 10)) (tC (.int 18)))) tNil))) (tCons (tVar 4) tNil))))))
      { nx := fun _ H' => Q .non H', rt := Q } [some (.ref S), some (.int (k : Nat)), some (.int c), none, none] H := fun c => by
    refine ⟨_, rfl, _, rfl, _, rfl, _, _, rfl, rfl, _, _, rfl, ?_⟩
    have s0 : 0 ≤ (if (-1 - c) > c then (-1 - c) else c) := by
      split <;> omega
    generalize (if (-1 - c) > c then (-1 - c) else c) = z at s0
    refine ⟨_, rfl, _, _, rfl, rfl, (by show (0 : Int) < 2147483629; decide), _, rfl, _, _, rfl, rfl, .inl ⟨by decide, by decide⟩, _, rfl, _, _, rfl, rfl, .inr ⟨by omega, by omega⟩, _, _, rfl, rfl, _, rfl, _, _, rfl, rfl, .inl ⟨by decide, by decide⟩, _, _, rfl, rfl, _, _, rfl, rfl, _, _, rfl, rfl, .inr ⟨by decide, by decide⟩, _, _, rfl, rfl, (by show (0 : Int) < 2147483647; decide), ?_⟩
    have k1 := Int.emod_nonneg ((z % 2147483629 + 7919 * (k : Int) * (k : Int) + 31 * (k : Int) + 17) * 48271) (b := 2147483647) (by decide)
    have k2 := Int.emod_lt_of_pos ((z % 2147483629 + 7919 * (k : Int) * (k : Int) + 31 * (k : Int) + 17) * 48271) (b := 2147483647) (by decide)
    refine ⟨_, rfl, _, rfl, _, _, rfl, rfl, ⟨by decide, by decide, by decide⟩, _, _, rfl, rfl, .inr ⟨_, rfl, _, _, rfl, rfl, .inr ?_, _, rfl, by show 2 ≤ sizeLine; decide, fun q hq2 => ?_⟩⟩
    · split
      · exact ⟨by decide, by decide⟩
      · exact ⟨by decide, by decide⟩
    · refine hq q _ (Go.refl.add hq2) (Nw.of hq2) ⟨_, _, upd_same, ?_, k1, k2⟩
      split
      · omega
      · omega
  refine ⟨_, rfl, _, rfl, _, ns.length, rfl, .inl ⟨_, hS, by rw [List.length_map]⟩, _, _, rfl, rfl, _, rfl, ?_⟩
  by_cases hl : k < ns.length
  · rw [decide_eq_true (by omega)]
    refine iteT ⟨_, rfl, _, rfl, _, _, (k : Nat), .int ns[k], rfl, rfl, hS, atI_nat (by rw [List.getElem?_map, List.getElem?_eq_getElem hl]; rfl), ?_⟩
    exact key ns[k]
  · rw [decide_eq_false (by omega)]
    exact iteF (key 0)
end
end K29
/-! text K29Cat -/
namespace K29
open PySem PySem.Spec PyProof.Rows L2 LamX
/-! ### list + list where either may be frozen -/
def rCatR : R2 := fun x y H Q => ∃ l b xs zs, x = .ref l ∧ y = .ref b ∧ Rd H l (.lst xs) ∧ Rd H b (.lst zs) ∧ xs.length + zs.length ≤ sizeLine ∧ ∀ p, H p = none → Q (.ref p) (upd H p (.lst (xs ++ zs)))
section
variable {X : Cx}
theorem op_catR : OpR X (binaryOp .Add) rCatR := by
  intro pins s σ H x y v u Q I rx ry h
  obtain ⟨l, b, xs, zs, rfl, rfl, hH, hB, hz, q⟩ := h
  cases rx
  cases ry
  obtain ⟨z, its, n, r, e⟩ := hH.ok I.hok
  obtain ⟨z2, its2, n2, r2, e2⟩ := hB.ok I.hok
  have l1 := r.length
  have l2 := r2.length
  refine PySem.P.add_list e e2 ?_ (by rw [List.size_toArray, List.size_toArray]; omega)
  have ea : its.toArray ++ its2.toArray = (its ++ its2).toArray := by simp
  rw [ea]
  exact ⟨.ref _, _, I.lnew (t' := s.toks) (r.append r2) (by rw [List.length_append]; omega), rfl, q _ I.fresh⟩
end
end K29
/-! text K29L5 -/
namespace K29
open PySem PySem.Spec PyProof.Rows L2 LamX
section
variable {P : Program} {w : World} {K : PySem.W.Frag} {mg : Str → Option Value} {base : Heap} {T : List (Addr × Str)}
/-! ### copied -/
def te_cop (K : PySem.W.Frag) : TE := tTup (tCons (tVar 1) (tCons (tFz (tCB (rLstOf K) (tCons (tVar 2) tNil))) (tCons (tFz (tCB (rLstOf K) (tCons (tVar 3) tNil))) tNil)))
def sp_l_copied (T : List (Addr × Str)) : Sp := fun vs H Q _ => ∃ (v : V) (b : Bk), vs = [v] ∧ FzD H v (bkD b) ∧ b.deals.length ≤ 3 ∧ ∀ v' H', Go T No H H' → FzD H' v' (bkD b) → Q v' H'
theorem b_l_copied (t : Tp K mg) : FB P w K mg base 1 (He.ga K "_law_copied") p_l_copied (sp_l_copied T) := by
  refine FB.of t.f_l_copied sc_l_copied (fun vs H Q E ⟨_, _, h, _⟩ => by rw [h]; rfl) (fun cdv A outer s H vs Q E hr h => ?_)
  obtain ⟨v, b, rfl, hb, h3, q⟩ := h
  have nd := sc_l_copied.nd
  refine ⟨_, pss_one (ps_ret (pe_tup (pa_cons (pe_fz (pe_callTy call_list_of (by rfl) t.b_list (by decide +kernel) (pa_cons (pe_ix ix_tup (pv 0) pe_int (fun _ _ => rfl)) pa_nil)))
    (pa_cons (pe_fz (pe_lc (own := [("_law_name", 1), ("_law_letters", 2), ("_law_steps_here", 3)]) (g := gTup K 3 (gCons (gName 1) (gCons (gName 2) (gCons (gName 3) gNil)))) (tt := tYes) (te := te_cop K) rfl nd (pi_list (pe_ix ix_tup (pv 0) pe_int (fun _ _ => rfl))) (blkOk_by (own := [("_law_name", 1), ("_law_letters", 2), ("_law_steps_here", 3)]) (N := n_l_copied) (sc := defScope s_l_copied) (by decide +kernel))
      (fun _ _ _ _ _ => pg_tup rfl (pgs_cons (pg_name (i := 1) nd rfl (Or.inl rfl)) (pgs_cons (pg_name (i := 2) nd rfl (Or.inl rfl)) (pgs_cons (pg_name (i := 3) nd rfl (Or.inl rfl)) pgs_nil)))) (fun _ _ _ _ _ => pts_nil)
      (fun _ _ _ _ _ => pe_tup (pa_cons (pv 1) (pa_cons (pe_fz (pe_callTy call_list_of (by rfl) t.b_list (by decide +kernel) (pa_cons (pv 2) pa_nil))) (pa_cons (pe_fz (pe_callTy call_list_of (by rfl) t.b_list (by decide +kernel) (pa_cons (pv 3) pa_nil))) pa_nil)))))) pa_nil)))), ?_⟩
  obtain ⟨a, x, y, rfl, ha, hx, hy⟩ := fz_t2.mp hb
  obtain ⟨a1, o1, xs, rfl, h1, hxs⟩ := fz_list.mp hx
  obtain ⟨a2, o2, ys, rfl, h2, hys⟩ := fz_list.mp hy
  refine ⟨_, rfl, _, _, _, _, rfl, rfl, SqT.of ha, atI_nat (j := 0) rfl, _, _, rfl, .inl (SqL_frz h1), fun l hl => ⟨_, _, rfl, upd_same, trivial, fun ol => ?_⟩⟩
  rw [upd_upd]
  have g1 : Go T No H (upd H l (.frz ol (.lst xs))) := Go.refl.add hl
  have kxl : upd H l (.frz ol (.lst xs)) l = some (.frz ol (.lst xs)) := upd_same
  generalize hH1 : upd H l (.frz ol (.lst xs)) = H1 at g1 kxl
  have ha1 := g1.fz _ _ ha trivial
  have h21 := g1.fz _ _ h2 trivial
  refine ⟨_, rfl, _, _, _, _, rfl, rfl, SqT.of ha1, atI_nat (j := 1) rfl, _, rfl, ⟨_, SqL_frz h21⟩, fun D hD => ?_⟩
  refine lc_list (K := K) (a := a2) (xs := ys) (LcP T No (fun _ => True) (SF dlD b.deals) H1 D) (LcP.zero hD trivial) (fun i H2 _ c => SqL_go (SqL_frz h21) c.1 id) (fun i y H2 hi c => ?_) fun H2 c => ?_
  · obtain ⟨d, hd, fd⟩ := hys.atL hi
    have il : i < b.deals.length := (List.getElem?_eq_some_iff.mp hd).1
    obtain ⟨e0, w1, w2, w3, rfl, he0, f1, f2, f3⟩ := fz_t3.mp (fd.go (g1.thn0 c.1))
    obtain ⟨e2, p2, ls, rfl, he2, hls⟩ := fz_list.mp f2
    obtain ⟨e3, p3, ss, rfl, he3, hss⟩ := fz_list.mp f3
    refine ⟨_, _, rfl, SqT.of he0, rfl, _, _, rfl, _, _, rfl, _, _, rfl, rfl, rfl, iteT (B := LcP T No (fun _ => True) (SF dlD b.deals) H1 D (i + 1) H2) ?_⟩
    refine ⟨_, rfl, _, rfl, e2, ls, rfl, .inl (SqL_frz he2), fun l2 hl2 => ⟨_, _, rfl, upd_same, trivial, fun ol2 => ?_⟩⟩
    rw [upd_upd]
    have s3 : Go T No H2 (upd H2 l2 (.frz ol2 (.lst ls))) := Go.refl.add hl2
    have k3 : upd H2 l2 (.frz ol2 (.lst ls)) l2 = some (.frz ol2 (.lst ls)) := upd_same
    generalize upd H2 l2 (.frz ol2 (.lst ls)) = H3 at s3 k3
    refine ⟨_, rfl, e3, ss, rfl, .inl (SqL_frz (s3.fz _ _ he3 trivial)), fun l3 hl3 => ⟨_, _, rfl, upd_same, trivial, fun ol3 => ?_⟩⟩
    rw [upd_upd]
    have s4 : Go T No H3 (upd H3 l3 (.frz ol3 (.lst ss))) := Go.refl.add hl3
    have k4 : upd H3 l3 (.frz ol3 (.lst ss)) l3 = some (.frz ol3 (.lst ss)) := upd_same
    generalize upd H3 l3 (.frz ol3 (.lst ss)) = H4 at s4 k4
    refine ⟨by show 3 ≤ sizeLine; decide, fun r hr2 => ?_⟩
    have s5 : Go T No H4 (upd H4 r (.tup [w1, .ref l2, .ref l3])) := Go.refl.add hr2
    have G5 : Go T No H2 (upd H4 r (.tup [w1, .ref l2, .ref l3])) := (s3.thn0 s4).thn0 s5
    exact c.yes G5 hD id SP.st (sm (by omega)) (SP.yes hd rfl (fz_t3.mpr ⟨r, _, _, _, rfl, upd_same, f1.go G5, fz_list.mpr ⟨l2, ol2, ls, rfl, s5.fz _ _ (s4.fz _ _ k3 trivial) trivial, hls.go G5⟩, fz_list.mpr ⟨l3, ol3, ss, rfl, s5.fz _ _ k4 trivial, hss.go G5⟩⟩)) fun _ => trivial
  · obtain ⟨g, _, zs, hz, fz⟩ := c.all hys.1
    refine ⟨D, _, rfl, hz, trivial, fun oD => ⟨by show 2 ≤ sizeLine; decide, fun r hr => ?_⟩⟩
    have g2 : Go T No H1 (upd H2 D (.frz oD (.lst zs))) := g.set hz trivial (.inr (Nw.of hD))
    have g3 : Go T No H1 (upd (upd H2 D (.frz oD (.lst zs))) r (.tup [.ref l, .ref D])) := g2.add hr
    exact q _ _ (g1.thn0 g3) (fz_t2.mpr ⟨r, _, _, rfl, upd_same, fz_list.mpr ⟨l, ol, xs, rfl, g3.fz _ _ kxl trivial, (hxs.go g1).go g3⟩, fz_list.mpr ⟨D, oD, zs, rfl, upd_old upd_same hr, (fz.set hz trivial).add hr⟩⟩)
/-! ### all_keys, some_keys -/
def sp_l_all_keys (T : List (Addr × Str)) : Sp := fun vs H Q _ => ∃ (v : V) (b : Bk), vs = [v, .int 2] ∧ FzD H v (bkD b) ∧ WfB b ∧ ∀ v' H' (ks : List Ky), Go T No H H' → FzD H' v' (.list (ks.map kyD)) → (∀ k ∈ ks, okKey b k) → ks.length ≤ 4 → Q v' H'
theorem b_l_all_keys (t : Tp K mg) : FB P w K mg base 1 (He.ga K "_law_all_keys") p_l_all_keys (sp_l_all_keys T) := by
  refine FB.of t.f_l_all_keys sc_l_all_keys (fun vs H Q E ⟨_, _, h, _⟩ => by rw [h]; rfl) (fun cdv A outer s H vs Q E hr h => ?_)
  obtain ⟨v, b, rfl, hb, wf, hq⟩ := h
  have nd := sc_l_all_keys.nd
  refine ⟨_, pss_cons (ps_set (i := 2) nd rfl (Or.inl rfl) (pe_fz (pe_lst pa_nil)))
    (pss_cons (ps_for PassesOwn.never rfl (pi_list (pe_ix ix_tup (pv 0) pe_int (fun _ _ => rfl))) (pg_tup rfl (pgs_cons (pg_name (i := 3) nd rfl (Or.inr rfl)) (pgs_cons (pg_name (i := 4) nd rfl (Or.inl rfl)) pgs_nil)))
      (pss_one (ps_set (i := 2) nd rfl (Or.inl rfl) (pe_fz (pe_op op_catR (pv 2) (pe_lc (own := [("_law_number", 5)]) (g := gName 5) (tt := tYes) (te := tTup (tCons (tVar 3) (tCons (tVar 5) tNil))) rfl nd (pi_range1 (by rfl) t.b_range (pa_cons (pe_op op_add pe_int (pe_op op_mul (pe_op op_sub (pv 1) pe_int) (pe_callTy call_int1 (by rfl) t.b_int (by decide +kernel) (pa_cons (pv 4) pa_nil)))) pa_nil)) (blkOk_by (own := [("_law_number", 5)]) (N := n_l_all_keys) (sc := defScope s_l_all_keys) (by decide +kernel))
        (fun _ _ _ _ _ => pg_name (i := 5) nd rfl (Or.inl rfl)) (fun _ _ _ _ _ => pts_nil) (fun _ _ _ _ _ => pe_tup (pa_cons (pv 3) (pa_cons (pv 5) pa_nil)))))))))
    (pss_one (ps_ret (pv 2)))), ?_⟩
  obtain ⟨a0, x0, y0, rfl, ha0, hx0, hy0⟩ := fz_t2.mp hb
  obtain ⟨a1, o1, xs, rfl, h1, hxs⟩ := fz_list.mp hx0
  refine ⟨by show 0 ≤ sizeLine; decide, fun f hf => ⟨f, _, rfl, upd_same, trivial, fun of => ?_⟩⟩
  rw [upd_upd]
  have g1 : Go T No H (upd H f (.frz of (.lst []))) := Go.refl.add hf
  have k1 : upd H f (.frz of (.lst [])) f = some (.frz of (.lst [])) := upd_same
  generalize upd H f (.frz of (.lst [])) = H1 at g1 k1
  refine ⟨_, rfl, _, _, _, _, rfl, rfl, SqT.of (g1.fz _ _ ha0 trivial), atI_nat (j := 0) rfl, a1, rfl, ⟨_, SqL_frz (g1.fz _ _ h1 trivial)⟩, ?_⟩
  refine for_list (K := K) (a := a1) (xs := xs) (fun i σ H2 => Go T No H H2 ∧ ∃ (z3 z4 : Option V) (fv : V) (ks : List Ky), σ = [some (.ref a0), some (.int 2), some fv, z3, z4, none] ∧ FzD H2 fv (.list (ks.map kyD)) ∧ (∀ k ∈ ks, okKey b k) ∧ ks.length ≤ 2 * i)
    ⟨g1, none, none, .ref f, [], rfl, fz_list.mpr ⟨f, of, [], rfl, k1, Zp.nil⟩, fun k hk => (by cases hk), Nat.zero_le _⟩ (fun i σ H2 _ c => SqL_frz (c.1.fz _ _ h1 trivial)) ?_ ?_
  · rintro i x σ H2 hi ⟨g, z3, z4, fv, ks, rfl, ff, hks, hkl⟩
    obtain ⟨kn, hkn, fk⟩ := hxs.atL hi
    have il : i < b.kinds.length := (List.getElem?_eq_some_iff.mp hkn).1
    have k2 := wf.k2
    obtain ⟨c0, c1, c2, rfl, hc, q1, q2⟩ := fz_t2.mp (fk.go g)
    obtain rfl := fz_str.mp q1
    obtain rfl := fz_bl.mp q2
    obtain ⟨f0, of0, fxs, rfl, hf0, hfxs⟩ := fz_list.mp ff
    refine ⟨_, _, rfl, SqT.of hc, rfl, _, _, rfl, _, _, rfl, rfl, ?_⟩
    refine ⟨_, rfl, _, rfl, _, _, rfl, rfl, _, rfl, .inr ⟨_, rfl, _, _, rfl, rfl, .inl ⟨by decide, by decide⟩, _, _, rfl, rfl, _, rfl, ?_, ?_, fun D hD => ?_⟩⟩
    · show -(2 ^ 62) ≤ (1 : Int) + (2 - 1) * (if kn.2 then 1 else 0)
      split <;> omega
    · show (1 : Int) + (2 - 1) * (if kn.2 then 1 else 0) < 2 ^ 62
      split <;> omega
    · show ∃ W : Nat → Nat → Hp → Prop, _
      have en : ((1 : Int) + (2 - 1) * (if kn.2 then 1 else 0)).toNat ≤ 2 := by split <;> omega
      have ek : kn.2 = true ∨ ((1 : Int) + (2 - 1) * (if kn.2 then 1 else 0)).toNat ≤ 1 := by
        cases h : kn.2
        · right
          simp
        · exact .inl rfl
      have hf0D : upd H2 D (.lst []) f0 = some (.frz of0 (.lst fxs)) := upd_old hf0 hD
      show ∃ W : Nat → Nat → Hp → Prop, (∃ m, W 0 m (upd H2 D (.lst []))) ∧ _
      refine lc_range (lo := 0) (n := ((1 : Int) + (2 - 1) * (if kn.2 then 1 else 0)).toNat) (LcP T No (fun _ => True) (SF (fun j : Nat => kyD (kn.1, (j : Int))) (List.range ((1 : Int) + (2 - 1) * (if kn.2 then 1 else 0)).toNat)) H2 D) (LcP.zero hD trivial) (fun j H3 hj c => ?_) fun H3 c => ?_
      · refine ⟨rfl, iteT (B := LcP T No (fun _ => True) (SF (fun j : Nat => kyD (kn.1, (j : Int))) (List.range ((1 : Int) + (2 - 1) * (if kn.2 then 1 else 0)).toNat)) H2 D (j + 1) H3) ?_⟩
        refine ⟨_, rfl, _, rfl, by show 2 ≤ sizeLine; decide, fun r hr2 => ?_⟩
        refine c.yes (Go.refl.add hr2) hD id SP.st (sm (by omega)) (SP.yes (d := j) (by rw [List.getElem?_range hj]) rfl (fz_t2.mpr ⟨r, _, _, rfl, upd_same, .str _, ?_⟩)) fun _ => trivial
        rw [Int.zero_add]
        exact .int _
      · obtain ⟨g3, _, zs, hz, fz⟩ := c.all (by rw [List.length_range])
        have fz2 : FzL H3 kyD zs ((List.range ((1 : Int) + (2 - 1) * (if kn.2 then 1 else 0)).toNat).map fun j : Nat => ((kn.1, (j : Int)) : Ky)) := zp_map.mpr fz
        have lz := fz2.1
        rw [List.length_map, List.length_range] at lz
        refine ⟨f0, D, fxs, zs, rfl, rfl, .inr ⟨of0, g3.fz _ _ hf0 trivial⟩, .inl hz, ?_, fun p hp => ⟨p, _, rfl, upd_same, trivial, fun op => ?_⟩⟩
        · have := hfxs.1
          exact Nat.le_of_lt (sm (by omega))
        rw [upd_upd]
        have G4 : Go T No H2 (upd H3 p (.frz op (.lst (fxs ++ zs)))) := g3.add hp
        refine ⟨g.thn0 G4, _, _, .ref p, ks ++ (List.range ((1 : Int) + (2 - 1) * (if kn.2 then 1 else 0)).toNat).map fun j : Nat => ((kn.1, (j : Int)) : Ky), rfl, fz_list.mpr ⟨p, op, _, rfl, upd_same, Zp.app (hfxs.go G4) (fz2.add hp)⟩, fun k hk => ?_, ?_⟩
        · rcases List.mem_append.mp hk with h | h
          · exact hks k h
          · obtain ⟨j, hj, rfl⟩ := List.mem_map.mp h
            have hj := List.mem_range.mp hj
            refine ⟨⟨kn.2, List.mem_of_getElem? hkn, ?_⟩, by show (0 : Int) ≤ (j : Int); omega, by show (j : Int) ≤ 1; omega⟩
            rcases ek with h | h
            · exact .inl h
            · right
              show (j : Int) = 0
              omega
        · rw [List.length_append, List.length_map, List.length_range]
          omega
  · rintro σ H2 ⟨g, z3, z4, fv, ks, rfl, ff, hks, hkl⟩
    have := hxs.1
    have := wf.k2
    exact ⟨_, rfl, hq _ _ ks g ff hks (by omega)⟩
end
end K29
/-! text K29L7 -/
namespace K29
open PySem PySem.Spec PyProof.Rows L2 LamX
/-- rows that may be done one after another -/
def OkSeq (b : Bk) : List Ds → Nat → List Row → Prop
  | _, _, [] => True
  | ds, n, r :: rs => okRow b ds r ∧ OkSeq b (doRow b ds n r) (n + 1) rs
theorem okSeq_steps {b : Bk} {i : Nat} : ∀ (k : Nat) (ds : List Ds) (n : Nat) (d : Ds), ds[i]? = some d → d.word = .op → d.told.length + k ≤ (dealAt b d.deal).steps.length → OkSeq b ds n (List.replicate k (.stp i))
  | 0, _, _, _, _, _, _ => trivial
  | k + 1, ds, n, d, hd, hw, hk => by
    have e : doRow b ds n (.stp i) = ds.set i { d with told := d.told ++ [tkOf b ds i d] } := modAt_some hd
    have il : i < ds.length := (List.getElem?_eq_some_iff.mp hd).1
    refine ⟨⟨d, hd, hw, by show d.told.length < _; omega⟩, ?_⟩
    rw [e]
    refine okSeq_steps k _ _ { d with told := d.told ++ [tkOf b ds i d] } (List.getElem?_set_self il) hw ?_
    show (d.told ++ [tkOf b ds i d]).length + k ≤ _
    rw [List.length_append]
    show d.told.length + 1 + k ≤ (dealAt b d.deal).steps.length
    omega
section
variable {P : Program} {w : World} {K : PySem.W.Frag} {mg : Str → Option Value} {base : Heap} {T : List (Addr × Str)}
theorem pool_lst {H : Hp} {q : Addr} (h : PoolAt H q) : ∃ o, H q = some o ∧ Nt o := by
  obtain ⟨a, b, h1, _⟩ := h
  exact ⟨_, h1, trivial⟩
/-! ### keys -/
def sp_l_keys (T : List (Addr × Str)) : Sp := fun vs H Q _ => ∃ (q : Addr) (v : V) (b : Bk) (i : Nat) (d : Dl), vs = [.ref q, v, .int i, .int 2] ∧ PoolAt H q ∧ FzD H v (bkD b) ∧ WfB b ∧ b.deals[i]? = some d ∧
  ∀ v' H' (ks : List Ky), Go T (· = q) H H' → PoolAt H' q → FzD H' v' (.list (ks.map kyD)) → okKeys b d ks → Q v' H'
theorem b_l_keys (t : Tp K mg) : FB P w K mg base 2 (He.ga K "_law_keys") p_l_keys (sp_l_keys T) := by
  refine FB.of t.f_l_keys sc_l_keys (fun vs H Q E ⟨_, _, _, _, _, h, _⟩ => by rw [h]; rfl) (fun cdv A outer s H vs Q E hr h => ?_)
  obtain ⟨q, v, b, ix, d, rfl, hp, hb, wf, hix, hq⟩ := h
  have nd := sc_l_keys.nd
  have hu := hu_of hr
  refine ⟨_, pss_cons (ps_set (i := 4) nd rfl (Or.inl rfl) (pe_callTy (call_dictP rfl) (by rfl) t.b_dict (by decide +kernel) (pa_cons (pe_ix ix_tup (pv 1) pe_int (fun _ _ => rfl)) pa_nil)))
    (pss_cons (ps_set (i := 5) nd rfl (Or.inl rfl) (pe_lst pa_nil))
    (pss_cons (ps_for PassesOwn.never rfl (pi_list (pe_ix ix_tup (pe_ix ix_list (pe_ix ix_tup (pv 1) pe_int (fun _ _ => rfl)) (pv 2) (fun _ _ => rfl)) pe_int (fun _ _ => rfl))) (pg_tup rfl (pgs_cons (pg_name (i := 6) nd rfl (Or.inl rfl)) (pgs_cons (pg_name (i := 7) nd rfl (Or.inl rfl)) pgs_nil)))
      (pss_one (ps_expr (pe_bm PySem.F.plainAttrs_list PySem.F.slot_list_append PySem.F.type_list_append mt_append (pv 5) (pa_cons (pe_tup (pa_cons (pv 7) (pa_cons (pe_op op_mul (pe_f (b_l_draw (T := T) t) t.g_law_draw hr (pa_cons (pv 0) (pa_cons (pv 3) pa_nil))) (pe_callTy call_int1 (by rfl) t.b_int (by decide +kernel) (pa_cons (pe_dget hu (pv 4) (pv 7) (fun _ _ => rfl)) pa_nil))) pa_nil))) pa_nil)))))
    (pss_one (ps_ret (pe_fz (pv 5)))))), ?_⟩
  obtain ⟨a0, x0, y0, rfl, ha0, hx0, hy0⟩ := fz_t2.mp hb
  obtain ⟨a1, o1, xs, rfl, h1, hxs⟩ := fz_list.mp hx0
  obtain ⟨a2, o2, dls, rfl, h2, hdls⟩ := fz_list.mp hy0
  obtain ⟨ps, rfl, hps⟩ := fzl_pairs hxs
  obtain ⟨vd, hvd, fvd⟩ := hdls.at hix
  obtain ⟨a3, w1, w2, w3, rfl, ha3, f1, f2, f3⟩ := fz_t3.mp fvd
  obtain ⟨a4, o4, ls, rfl, h4, hls⟩ := fz_list.mp f2
  have hpo := pool_lst hp
  refine ⟨_, rfl, _, _, _, _, rfl, rfl, SqT.of ha0, atI_nat (j := 0) rfl, _, ps, _, rfl, SqL_frz h1, Paired.mapP hps fun p kv z => SqT.of z, fun D hD => ?_⟩
  rw [mergeK_nil (kdK_nd wf.kn)]
  have g1 : Go T No H (upd H D (.dK (kdK b.kinds))) := Go.refl.add hD
  have D1 : upd H D (.dK (kdK b.kinds)) D = some (.dK (kdK b.kinds)) := upd_same
  generalize upd H D (.dK (kdK b.kinds)) = H1 at g1 D1
  refine ⟨by show 0 ≤ sizeLine; decide, fun F hF => ?_⟩
  have g2 : Go T No H (upd H1 F (.lst [])) := g1.add hF
  have D2 : upd H1 F (.lst []) D = some (.dK (kdK b.kinds)) := upd_old D1 hF
  have F2 : upd H1 F (.lst []) F = some (.lst []) := upd_same
  have nwF : Nw H F := g1.nw (Nw.of hF)
  have nF : F ≠ q := by
    obtain ⟨o, e, n⟩ := hpo
    exact (nwF.ne e n).symm
  have nD : D ≠ q := by
    obtain ⟨o, e, n⟩ := hpo
    exact ((Nw.of hD).ne e n).symm
  have nFD : D ≠ F := ne_of_none D1 hF
  have hp2 := hp.go g2 id
  generalize upd H1 F (.lst []) = H2 at g2 D2 F2 hp2
  refine ⟨_, rfl, _, _, _, _, rfl, rfl, SqT.of (g2.fz _ _ ha0 trivial), atI_nat (j := 1) rfl, _, rfl, _, _, (ix : Nat), _, rfl, rfl, SqL_frz (g2.fz _ _ h2 trivial), atI_nat hvd, _, _, _, _, rfl, rfl, SqT.of (g2.fz _ _ ha3 trivial), atI_nat (j := 1) rfl, a4, rfl, ⟨_, SqL_frz (g2.fz _ _ h4 trivial)⟩, ?_⟩
  have WD := wf.ds d (List.mem_of_getElem? hix)
  refine for_list (K := K) (a := a4) (xs := ls) (fun i σ H3 => Go T (· = q) H H3 ∧ PoolAt H3 q ∧ H3 D = some (.dK (kdK b.kinds)) ∧ (∃ z6 z7 : Option V, σ = [some (.ref q), some (.ref a0), some (.int ix), some (.int 2), some (.ref D), some (.ref F), z6, z7]) ∧ ∃ (fs : List V) (ks : List Ky), H3 F = some (.lst fs) ∧ FzL H3 kyD fs ks ∧ ks.map (·.1) = (d.letters.take i).map (·.2) ∧ ∀ k ∈ ks, okKey b k)
    ⟨g2.wk, hp2, D2, ⟨none, none, rfl⟩, [], [], F2, Zp.nil, rfl, fun k hk => (by cases hk)⟩ (fun i σ H3 _ c => SqL_frz (c.1.fz _ _ h4 trivial)) ?_ ?_
  · rintro i x σ H3 hi ⟨g, hp3, D3, ⟨z6, z7, rfl⟩, fs, ks, F3, ff, hks, hok⟩
    obtain ⟨l, hl, fl⟩ := hls.atL hi
    obtain ⟨c0, c1, c2, rfl, hc, q1, q2⟩ := fz_t2.mp (fl.go g)
    obtain rfl := fz_str.mp q1
    obtain rfl := fz_str.mp q2
    have il : i < d.letters.length := (List.getElem?_eq_some_iff.mp hl).1
    have l4 := WD.l4
    obtain ⟨⟨kn, m⟩, hkm, ekn⟩ := List.mem_map.mp (WD.lk l (List.mem_of_getElem? hl))
    have ekn : kn = l.2 := ekn
    subst ekn
    have lks : ks.length = i := by
      have := congrArg List.length hks
      rw [List.length_map, List.length_map, List.length_take] at this
      omega
    refine ⟨_, _, rfl, SqT.of hc, rfl, _, _, rfl, _, _, rfl, rfl, ?_⟩
    refine ⟨_, rfl, .inl ⟨rfl, _, .inl (.inl F3)⟩, _, rfl, _, rfl, _, rfl, q, 2, rfl, hp3, by decide, by decide, fun n H4 hn g4 hp4 => ?_⟩
    have D4 := g4.dK D3 nD
    have gv := DGet.k (k := .inr l.2) D4
    rw [kdK_val wf.kn hkm] at gv
    have F4 := g4.lst F3 nF
    refine ⟨_, rfl, _, rfl, D, _, rfl, gv, .inr ⟨m, rfl, _, _, rfl, rfl, .inl ⟨by omega, by omega⟩, by show 2 ≤ sizeLine; decide, fun r hr2 => ?_⟩⟩
    have s5 : Go T No H4 (upd H4 r (.tup [.str l.2, .int ((n : Int) * (if m then 1 else 0))])) := Go.refl.add hr2
    have r5 : upd H4 r (.tup [.str l.2, .int ((n : Int) * (if m then 1 else 0))]) r = some (.tup [.str l.2, .int ((n : Int) * (if m then 1 else 0))]) := upd_same
    show ∃ _ _ _, _
    generalize hH5 : upd H4 r (.tup [.str l.2, .int ((n : Int) * (if m then 1 else 0))]) = H5 at s5 r5
    have F5 := s5.lst F4 id
    have G5 : Go T (· = q) H H5 := (g.trans g4).thn0 s5
    have fr : FzD H5 (.ref r) (kyD (l.2, (n : Int) * (if m then 1 else 0))) := fz_t2.mpr ⟨r, _, _, rfl, r5, .str _, .int _⟩
    have ff5 := (ff.go g4).go s5
    refine ⟨F, fs, .ref r, rfl, rfl, F5, by rw [ff.1, lks]; exact sm (by omega), ?_⟩
    have s6 : Go T (· = F) H5 (upd H5 F (.lst (fs ++ [.ref r]))) := Go.refl.set F5 trivial (.inl rfl)
    refine ⟨G5.set F5 trivial (.inr nwF), (hp4.go s5 id).go s6 nF.symm, s6.dK (s5.dK D4 id) nFD, ⟨_, _, rfl⟩, _, ks ++ [(l.2, (n : Int) * (if m then 1 else 0))], upd_same, Zp.snoc (ff5.go s6) (fr.go s6), ?_, fun k hk => ?_⟩
    · rw [take_snoc hl, List.map_append, List.map_append, hks]
      rfl
    · rcases List.mem_append.mp hk with h | h
      · exact hok k h
      · rw [List.mem_singleton.mp h]
        refine ⟨⟨m, hkm, ?_⟩, ?_, ?_⟩
        · cases m
          · right
            show (n : Int) * 0 = 0
            omega
          · exact .inl rfl
        · show (0 : Int) ≤ (n : Int) * (if m then 1 else 0)
          split <;> omega
        · show (n : Int) * (if m then 1 else 0) ≤ 1
          split <;> omega
  · rintro σ H3 ⟨g, hp3, D3, ⟨z6, z7, rfl⟩, fs, ks, F3, ff, hks, hok⟩
    rw [hls.1, List.take_length] at hks
    refine ⟨_, rfl, F, _, rfl, F3, trivial, fun of => ?_⟩
    have s4 : Go T (· = F) H3 (upd H3 F (.frz of (.lst fs))) := Go.refl.set F3 trivial (.inl rfl)
    exact hq _ _ ks (g.set F3 trivial (.inr nwF)) (hp3.go s4 nF.symm) (fz_list.mpr ⟨F, of, fs, rfl, upd_same, ff.go s4⟩) ⟨hks, hok⟩
/-! ### next -/
def isOpen (ds : List Ds) (j : Nat) : Bool := match ds[j]? with
  | some d => decide (d.word = .op)
  | none => false
theorem isOpen_at {ds : List Ds} {j : Nat} {d : Ds} (h : ds[j]? = some d) : isOpen ds j = decide (d.word = .op) := by
  unfold isOpen
  rw [h]
def intD (j : Nat) : PyData := .int (j : Nat)
theorem ints_shaped (l : List Nat) : SeqAt.shaped (.list (l.map intD)) = true := by
  have h1 : ∀ l : List Nat, PyData.canLayAll0 (l.map intD) = true := fun l => by
    induction l with
    | nil => simp [PyData.canLayAll0]
    | cons k ks ih =>
      rw [List.map_cons]
      simp [PyData.canLayAll0, ih, intD, PyData.canLay0]
  have h2 : ∀ l : List Nat, PyData.depthAll (l.map intD) ≤ 3 := fun l => by
    induction l with
    | nil => simp [PyData.depthAll]
    | cons k ks ih =>
      rw [List.map_cons]
      simp only [PyData.depthAll, intD, PyData.depth] at ih ⊢
      omega
  have h3 := h2 l
  show (PyData.canLay0 (.list (l.map intD)) && decide (PyData.depth (.list (l.map intD)) ≤ 64)) = true
  rw [Bool.and_eq_true]
  refine ⟨?_, decide_eq_true ?_⟩
  · simp only [PyData.canLay0]
    exact h1 l
  · simp only [PyData.depth]
    omega
def sp_l_next (T : List (Addr × Str)) : Sp := fun vs H Q _ => ∃ (q : Addr) (v : V) (b : Bk) (a : Addr) (qs : List (Addr × Addr)) (ds : List Ds), vs = [.ref q, v, .ref a, .int 9, .int 2] ∧ PoolAt H q ∧ FzD H v (bkD b) ∧ WfB b ∧ WP H a qs ds ∧ q ∉ fpW a qs ∧ WfS b ds ∧
  ∀ v' H' (rs : List Row), Go T (· = q) H H' → FzD H' v' (.list (rs.map rowD)) → rs.length ≤ 5 → (∀ n, OkSeq b ds n rs) → Q v' H'
theorem b_l_next (t : Tp K mg) : FB P w K mg base 3 (He.ga K "_law_next") p_l_next (sp_l_next T) := by
  refine FB.of t.f_l_next sc_l_next (fun vs H Q E ⟨_, _, _, _, _, _, h, _⟩ => by rw [h]; rfl) (fun cdv A outer s H vs Q E hr h => ?_)
  obtain ⟨q, v, b, a, qs, ds, rfl, hp, hb, wf, W, nq, S, hq⟩ := h
  have nd := sc_l_next.nd
  have hu := hu_of hr
  refine ⟨_, pss_cons (ps_setLc (i := 5) (own := [("_law_number", 6), ("_law_deal", 7)]) (g := gTup K 2 (gCons (gName 6) (gCons (gName 7) gNil))) (tt := tTest (tOp rEq (tDGet (tVar 7) (tC (.str "word"))) (tC (.str "open")))) (te := tVar 6) rfl nd rfl rfl (sw_true rfl rfl rfl (by decide +kernel)) (pi_enum (by rfl) t.b_enumerate (pa_cons (pv 2) pa_nil)) (blkOk_by (own := [("_law_number", 6), ("_law_deal", 7)]) (N := n_l_next) (sc := defScope s_l_next) (by decide +kernel))
      (fun _ _ _ _ _ => pg_tup rfl (pgs_cons (pg_name (i := 6) nd rfl (Or.inl rfl)) (pgs_cons (pg_name (i := 7) nd rfl (Or.inl rfl)) pgs_nil))) (fun _ _ _ _ _ => pts_one (pt_cmpR op_eq (pe_dget hu (pv 7) pe_str (fun _ _ => rfl)) pe_str (nomark _))) (fun _ _ _ _ _ => pv 6))
    (pss_cons (ps_set (i := 8) nd rfl (Or.inl rfl) (pe_f (b_l_draw (T := T) t) t.g_law_draw hr (pa_cons (pv 0) (pa_cons pe_int pa_nil))))
    (pss_cons (ps_if (PW.pt (pw_and (pt_cmpR op_lt (pe_callB call_len (by rfl) t.b_len PySem.boot_len (pa_cons (pv 2) pa_nil)) (pv 3) (nomark _)) (pw_and1 (PW.pt (pw_or (pt_cmpR (op_eqD hr.units) (pv 5) (pe_lst pa_nil) (nomark _)) (pw_or1 (pt_cmpR op_eq (pv 8) pe_int (nomark _))))))))
      (pss_cons (ps_set (i := 6) nd rfl (Or.inl rfl) (pe_f (b_l_draw (T := T) t) t.g_law_draw hr (pa_cons (pv 0) (pa_cons (pe_callB call_len (by rfl) t.b_len PySem.boot_len (pa_cons (pe_ix ix_tup (pv 1) pe_int (fun _ _ => rfl)) pa_nil)) pa_nil))))
      (pss_one (ps_ret (pe_fz (pe_lst (pa_cons (pe_tup (pa_cons pe_str (pa_cons (pe_ix ix_tup (pe_ix ix_list (pe_ix ix_tup (pv 1) pe_int (fun _ _ => rfl)) (pv 6) (fun _ _ => rfl)) pe_int (fun _ _ => rfl)) (pa_cons (pe_f (b_l_keys (T := T) t) t.g_law_keys hr (pa_cons (pv 0) (pa_cons (pv 1) (pa_cons (pv 6) (pa_cons (pv 4) pa_nil))))) pa_nil)))) pa_nil)))))) pss_nil)
    (pss_cons (ps_if (pt_cmpR (op_eqD hr.units) (pv 5) (pe_lst pa_nil) (nomark _)) (pss_one (ps_ret (pe_fz (pe_lst pa_nil)))) pss_nil)
    (pss_cons (ps_set (i := 6) nd rfl (Or.inl rfl) (pe_ix ix_list (pv 5) (pe_f (b_l_draw (T := T) t) t.g_law_draw hr (pa_cons (pv 0) (pa_cons (pe_callB call_len (by rfl) t.b_len PySem.boot_len (pa_cons (pv 5) pa_nil)) pa_nil))) (fun _ _ => rfl)))
    (pss_cons (ps_set (i := 9) nd rfl (Or.inl rfl) (pe_f (b_l_left t) t.g_law_left hr (pa_cons (pv 1) (pa_cons (pe_ix ix_list (pv 2) (pv 6) (fun _ _ => rfl)) pa_nil))))
    (pss_cons (ps_if (pt_cmpR op_eq (pv 9) pe_int (nomark _)) (pss_one (ps_ret (pe_fz (pe_lst (pa_cons (pe_tup (pa_cons (pe_ix ix_list (pe_lst (pa_cons pe_str (pa_cons pe_str (pa_cons pe_str (pa_cons pe_str (pa_cons pe_str (pa_cons pe_str pa_nil))))))) (pe_f (b_l_draw (T := T) t) t.g_law_draw hr (pa_cons (pv 0) (pa_cons pe_int pa_nil))) (fun _ _ => rfl)) (pa_cons (pv 6) pa_nil))) pa_nil))))) pss_nil)
    (pss_cons (ps_if (pt_cmpR op_eq (pe_f (b_l_draw (T := T) t) t.g_law_draw hr (pa_cons (pv 0) (pa_cons pe_int pa_nil))) pe_int (nomark _)) (pss_one (ps_ret (pe_fz (pe_lst (pa_cons (pe_tup (pa_cons pe_str (pa_cons (pv 6) pa_nil))) pa_nil))))) pss_nil)
    (pss_one (ps_ret (pe_fz (pe_op op_rep (pe_lst (pa_cons (pe_tup (pa_cons pe_str (pa_cons (pv 6) pa_nil))) pa_nil)) (pe_callB (call_min2 rfl) (by rfl) t.b_min (by decide +kernel) (pa_cons (pv 9) (pa_cons (pe_op op_add pe_int (pe_f (b_l_draw (T := T) t) t.g_law_draw hr (pa_cons (pv 0) (pa_cons pe_int pa_nil)))) pa_nil)))))))))))))), ?_⟩
  have hpo := pool_lst hp
  have hlq : qs.length = ds.length := W.d.1
  -- opened
  refine ⟨_, rfl, a, _, rfl, .inl (.inl W.l), fun O hO => ?_⟩
  refine lc_enum (K := K) (a := a) (xs := qs.map fun q => .ref q.1) (LcP T No (fun _ => True) (SP intD (List.range ds.length) (isOpen ds)) H O) (LcP.zero hO trivial) (fun i H2 _ c => .inl (.inl (c.1.lst W.l id))) (fun i x p H3 hi c hp3 => ?_) fun H1 c => ?_
  · obtain ⟨r, hri, rfl⟩ := map_at hi
    obtain ⟨d, hd, D3⟩ := (W.go0 c.1).d.atL hri
    obtain ⟨kv, xs, h1, h2, h3, h4⟩ := D3
    have il : i < ds.length := (List.getElem?_eq_some_iff.mp hd).1
    have := S.n
    have er : (List.range ds.length)[i]? = some i := by rw [List.getElem?_range il]
    refine ⟨p, _, rfl, SqT.of upd_same, rfl, _, _, rfl, _, _, rfl, rfl, rfl, _, rfl, r.1, _, rfl, dget (upd_old h1 hp3) wFl_word, rfl, _, rfl, ?_⟩
    rw [wd_op]
    by_cases hw : d.word = .op
    · rw [decide_eq_true hw]
      exact iteT ⟨_, rfl, c.yes (Go.refl.add hp3) hO id SP.st (sm (by omega)) (SP.yes er (by rw [isOpen_at hd, decide_eq_true hw]) (.int _)) fun _ => trivial⟩
    · rw [decide_eq_false hw]
      exact iteF (c.no (Go.refl.add hp3) id SP.st (SP.no er (by rw [isOpen_at hd, decide_eq_false hw]; simp)) trivial)
  obtain ⟨g1, _, zs, hz, fz⟩ := c.flt (by rw [List.length_map, List.length_range, hlq])
  have hL : ∀ j ∈ (List.range ds.length).filter (isOpen ds), ∃ d, ds[j]? = some d ∧ d.word = .op := fun j hj => by
    obtain ⟨h1, h2⟩ := List.mem_filter.mp hj
    have h1 := List.mem_range.mp h1
    rw [isOpen_at (List.getElem?_eq_getElem h1)] at h2
    exact ⟨_, List.getElem?_eq_getElem h1, of_decide_eq_true h2⟩
  have lL : ((List.range ds.length).filter (isOpen ds)).length ≤ 9 := by
    have := List.length_filter_le (isOpen ds) (List.range ds.length)
    rw [List.length_range] at this
    have := S.n
    omega
  generalize (List.range ds.length).filter (isOpen ds) = L at fz hL lL
  have nO : O ≠ q := by
    obtain ⟨o, e, n⟩ := hpo
    exact ((Nw.of hO).ne e n).symm
  have W1 := W.go0 g1
  -- way
  refine ⟨_, rfl, q, 4, rfl, hp.go g1 id, by decide, by decide, fun way H2 hway g2 hp2 => ?_⟩
  have G2 : Go T (· = q) H H2 := g1.wk.trans g2
  have W2 := W1.go g2 fun c hc z => nq (by rw [← z]; exact hc)
  have hz2 := g2.lst hz nO
  have fz2 : FzL H2 intD zs L := fz.go g2
  obtain ⟨a0, x0, y0, rfl, ha0, hx0, hy0⟩ := fz_t2.mp hb
  obtain ⟨a2, o2, dls, rfl, h22, hdls⟩ := fz_list.mp hy0
  have eqE : ∀ (H3 : Hp) (E : Addr), Go T No H2 H3 → H3 E = some (.lst []) → ∀ Q : VK, Q (.bl (decide (L = []))) H3 → rEqD K (.ref O) (.ref E) H3 Q := fun H3 E g3 hE Q q => by
    refine ⟨.list (L.map intD), .list [], .lst (.inl (.inl (g3.lst hz2 id))) (FzA.dp _ _ (fzA_zp.mpr (zp_map.mpr (fz2.go g3)))), .lst (.inl (.inl hE)) .nil, ints_shaped L, nil_shaped, ?_⟩
    rw [eqv_nil, show decide (L.map intD = []) = decide (L = []) by cases L <;> rfl]
    exact q
  have tst : ∀ Q : Bool → Hp → Prop, (∀ H3, Go T No H2 H3 → Q (decide (ds.length < 9) && (decide (L = []) || decide (way = 0))) H3) →
      (tAnd (tTest (tOp (rI0 fun i j => .bl (decide (i < j))) (tCB (rLen K) (tCons (tVar 2) tNil)) (tVar 3))) (tOr (tTest (tOp (rEqD K) (tVar 5) (tLst tNil))) (tTest (tOp rEq (tVar 8) (tC (.int 0))))))
        [some (.ref q), some (.ref a0), some (.ref a), some (.int 9), some (.int 2), some (.ref O), none, none, some (.int (way : Nat)), none] H2 Q := fun Q k => by
    refine ⟨_, rfl, _, ds.length, rfl, .inl ⟨_, .inl (.inl W2.l), by rw [List.length_map]; exact hlq.symm⟩, _, rfl, _, _, rfl, rfl, _, rfl, ?_⟩
    by_cases h9 : ds.length < 9
    · rw [decide_eq_true (by omega)]
      refine iteT ⟨_, rfl, by show 0 ≤ sizeLine; decide, fun E hE => ?_⟩
      have s3 : Go T No H2 (upd H2 E (.lst [])) := Go.refl.add hE
      refine eqE _ E s3 upd_same _ ⟨_, rfl, ?_⟩
      have k3 := k _ s3
      rw [decide_eq_true h9, Bool.true_and] at k3
      by_cases hn : L = []
      · rw [decide_eq_true hn] at k3 ⊢
        exact iteT k3
      · rw [decide_eq_false hn] at k3 ⊢
        refine iteF ⟨_, rfl, rfl, _, rfl, ?_⟩
        rw [Bool.false_or] at k3
        by_cases hw : way = 0
        · rw [decide_eq_true hw] at k3
          rw [hw]
          exact k3
        · rw [decide_eq_false hw] at k3
          rw [decide_eq_false (by intro z; injection z with z; omega)]
          exact k3
    · rw [decide_eq_false (by omega)]
      have k3 := k _ Go.refl
      rw [decide_eq_false h9, Bool.false_and] at k3
      exact iteF k3
  refine tst _ fun H3 g3 => ?_
  have G3 : Go T (· = q) H H3 := G2.thn0 g3
  have hp3 := hp2.go g3 id
  have W3 := W2.go0 g3
  have one : ∀ (r : Row) (H' : Hp) (l : Addr) (x : V) (ol : Obj), Go T (· = q) H H' → H' l = none → FzD H' x (rowD r) → okRow b ds r → Q (.ref l) (upd H' l (.frz ol (.lst [x]))) := fun r H' l x ol g hl f ho =>
    hq _ _ [r] (g.add hl) (fz_list.mpr ⟨l, ol, [x], rfl, upd_same, Zp.cons (f.add hl) Zp.nil⟩) (by show 1 ≤ 5; decide) fun n => ⟨ho, trivial⟩
  refine ite2 (fun hbeg => ?_) (fun _ => ?_)
  · -- begin
    have h9 : ds.length < 9 := by
      simp at hbeg
      exact hbeg.1
    have hd3 := wf.d3
    have hd0 := wf.d0
    refine ⟨_, rfl, _, rfl, _, _, _, _, rfl, rfl, SqT.of (G3.fz _ _ ha0 trivial), atI_nat (j := 1) rfl, _, dls.length, rfl, .inl ⟨_, SqL_frz (G3.fz _ _ h22 trivial), rfl⟩, q, _, rfl, hp3, by rw [hdls.1]; omega, by rw [hdls.1]; omega, fun x H4 hx g4 hp4 => ?_⟩
    have G4 := G3.trans g4
    have xl : x < b.deals.length := by rw [hdls.1] at hx; omega
    have hdx := dealAt_lt xl
    obtain ⟨vd, hvd, fvd⟩ := hdls.at hdx
    obtain ⟨a3, w1, w2, w3, rfl, ha3, f1, f2, f3⟩ := fz_t3.mp fvd
    obtain rfl := fz_str.mp f1
    refine ⟨_, rfl, _, _, _, _, rfl, rfl, SqT.of (G4.fz _ _ ha0 trivial), atI_nat (j := 1) rfl, _, rfl, _, _, (x : Nat), _, rfl, rfl, SqL_frz (G4.fz _ _ h22 trivial), atI_nat hvd, _, _, _, _, rfl, rfl, SqT.of (G4.fz _ _ ha3 trivial), atI_nat (j := 0) rfl, ?_⟩
    refine ⟨_, rfl, _, rfl, _, rfl, _, rfl, q, _, b, x, _, rfl, hp4, hb.go G4, wf, hdx, fun kv H5 ks g5 hp5 f5 ok5 => ?_⟩
    have G5 := G4.trans g5
    refine ⟨by show 3 ≤ sizeLine; decide, fun r hr2 => ⟨by show 1 ≤ sizeLine; decide, fun l hl => ⟨l, _, rfl, upd_same, trivial, fun ol => ?_⟩⟩⟩
    rw [upd_upd]
    exact one (.bgn (dealAt b x).name ks) _ l _ ol (G5.add hr2) hl (fz_t3.mpr ⟨r, _, _, _, rfl, upd_same, .str _, .str _, f5.add hr2⟩) ⟨h9, _, List.mem_of_getElem? hdx, rfl, ok5⟩
  · -- if opened == []
    refine ⟨_, rfl, by show 0 ≤ sizeLine; decide, fun E hE => ?_⟩
    have s4 : Go T No H3 (upd H3 E (.lst [])) := Go.refl.add hE
    refine eqE _ E (g3.thn0 s4) upd_same _ ⟨_, rfl, ?_⟩
    have G4 : Go T (· = q) H (upd H3 E (.lst [])) := G3.thn0 s4
    have hp4 := hp3.go s4 id
    have W4 := W3.go0 s4
    have hz4 := s4.lst (g3.lst hz2 id) id
    generalize upd H3 E (.lst []) = H4 at G4 hp4 W4 hz4
    by_cases hn : L = []
    · rw [decide_eq_true hn]
      refine iteT ⟨by show 0 ≤ sizeLine; decide, fun l hl => ⟨l, _, rfl, upd_same, trivial, fun ol => ?_⟩⟩
      rw [upd_upd]
      exact hq _ _ [] (G4.add hl) (fz_list.mpr ⟨l, ol, [], rfl, upd_same, Zp.nil⟩) (by decide) fun n => trivial
    · rw [decide_eq_false hn]
      have lp : 0 < L.length := List.length_pos_iff.mpr hn
      have lz : zs.length = L.length := fz2.1
      -- number = opened[draw(pool, len(opened))]
      refine iteF ⟨_, rfl, _, rfl, _, rfl, _, zs.length, rfl, .inl ⟨_, .inl (.inl hz4), rfl⟩, q, _, rfl, hp4, by omega, by omega, fun x H5 hx g5 hp5 => ?_⟩
      have G5 := G4.trans g5
      have W5 := W4.go g5 fun c hc z => nq (by rw [← z]; exact hc)
      have xl : x < L.length := by omega
      obtain ⟨zx, hzx, fzx⟩ := fz2.at (List.getElem?_eq_getElem xl)
      obtain ⟨d, hd, hw⟩ := hL L[x] (List.getElem_mem xl)
      generalize L[x] = j at fzx hd
      obtain rfl := fz_int.mp fzx
      have E := S.e d (List.mem_of_getElem? hd)
      obtain ⟨r, hrj, D5⟩ := W5.d.at hd
      refine ⟨_, _, (x : Nat), _, rfl, rfl, .inl (.inl (g5.lst hz4 nO)), atI_nat hzx, ?_⟩
      -- left = left(book, world[number])
      refine ⟨_, rfl, _, rfl, _, rfl, _, _, (j : Nat), _, rfl, rfl, .inl (.inl W5.l), atI_nat (at_map hrj), _, b, r, d, rfl, hb.go G5, D5, E.dl, ?_⟩
      refine ⟨_, rfl, rfl, _, rfl, ?_⟩
      have tl := E.tl
      by_cases h0 : d.told.length = (dealAt b d.deal).steps.length
      · rw [decide_eq_true (by rw [h0]; congr 1; omega)]
        refine iteT ⟨by show 6 ≤ sizeLine; decide, fun F hF => ?_⟩
        have s6 : Go T No H5 (upd H5 F (.lst [.str "end", .str "end", .str "end", .str "end", .str "end", .str "drop"])) := Go.refl.add hF
        have F6 : upd H5 F (.lst [.str "end", .str "end", .str "end", .str "end", .str "end", .str "drop"]) F = some (.lst [.str "end", .str "end", .str "end", .str "end", .str "end", .str "drop"]) := upd_same
        have nF : F ≠ q := by
          obtain ⟨o, e, n⟩ := pool_lst hp5
          exact ((Nw.of hF).ne e n).symm
        generalize upd H5 F (.lst [.str "end", .str "end", .str "end", .str "end", .str "end", .str "drop"]) = H6 at s6 F6
        refine ⟨_, rfl, q, 6, rfl, hp5.go s6 id, by decide, by decide, fun y H7 hy g7 hp7 => ?_⟩
        have F7 := g7.lst F6 nF
        have G7 := (G5.thn0 s6).trans g7
        have pick : ∃ r : Row, ∃ nm : Str, ([V.str "end", .str "end", .str "end", .str "end", .str "end", .str "drop"])[y]? = some (.str nm) ∧ rowD r = .tuple [.str nm, .int (j : Nat)] ∧ okRow b ds r := by
          have hy : y < 6 := by omega
          match y, hy with
          | 0, _ => exact ⟨.fin j, _, rfl, rfl, d, hd, hw, h0⟩
          | 1, _ => exact ⟨.fin j, _, rfl, rfl, d, hd, hw, h0⟩
          | 2, _ => exact ⟨.fin j, _, rfl, rfl, d, hd, hw, h0⟩
          | 3, _ => exact ⟨.fin j, _, rfl, rfl, d, hd, hw, h0⟩
          | 4, _ => exact ⟨.fin j, _, rfl, rfl, d, hd, hw, h0⟩
          | 5, _ => exact ⟨.drp j, _, rfl, rfl, d, hd, hw, trivial⟩
        obtain ⟨rw0, nm, e1, e2, ho⟩ := pick
        refine ⟨_, _, (y : Nat), _, rfl, rfl, .inl (.inl F7), atI_nat e1, _, rfl, by show 2 ≤ sizeLine; decide, fun r2 hr2 => ⟨by show 1 ≤ sizeLine; decide, fun l hl => ⟨l, _, rfl, upd_same, trivial, fun ol => ?_⟩⟩⟩
        rw [upd_upd]
        exact one rw0 _ l _ ol (G7.add hr2) hl (by rw [e2]; exact fz_t2.mpr ⟨r2, _, _, rfl, upd_same, .str _, .int _⟩) ho
      · rw [decide_eq_false (by intro z; injection z with z; omega)]
        refine iteF ⟨_, rfl, q, 12, rfl, hp5, by decide, by decide, fun y H6 hy g6 hp6 => ⟨rfl, _, rfl, ?_⟩⟩
        have G6 := G5.trans g6
        by_cases hy0 : y = 0
        · rw [decide_eq_true (by rw [hy0]; rfl)]
          refine iteT ⟨_, rfl, by show 2 ≤ sizeLine; decide, fun r2 hr2 => ⟨by show 1 ≤ sizeLine; decide, fun l hl => ⟨l, _, rfl, upd_same, trivial, fun ol => ?_⟩⟩⟩
          rw [upd_upd]
          exact one (.drp j) _ l _ ol (G6.add hr2) hl (fz_t2.mpr ⟨r2, _, _, rfl, upd_same, .str _, .int _⟩) ⟨d, hd, hw, trivial⟩
        · rw [decide_eq_false (by intro z; injection z with z; omega)]
          refine iteF ⟨_, rfl, by show 2 ≤ sizeLine; decide, fun r2 hr2 => ⟨by show 1 ≤ sizeLine; decide, fun l hl => ?_⟩⟩
          have s7 : Go T No H6 (upd H6 r2 (.tup [.str "step", .int (j : Nat)])) := Go.refl.add hr2
          have r7 : upd H6 r2 (.tup [.str "step", .int (j : Nat)]) r2 = some (.tup [.str "step", .int (j : Nat)]) := upd_same
          generalize upd H6 r2 (.tup [.str "step", .int (j : Nat)]) = H7 at s7 r7 hl
          have s8 : Go T No H7 (upd H7 l (.lst [.ref r2])) := Go.refl.add hl
          have l8 : upd H7 l (.lst [.ref r2]) l = some (.lst [.ref r2]) := upd_same
          have nl : l ≠ q := by
            obtain ⟨o, e, n⟩ := pool_lst (hp6.go s7 id)
            exact ((Nw.of hl).ne e n).symm
          generalize upd H7 l (.lst [.ref r2]) = H8 at s8 l8
          refine ⟨_, rfl, _, rfl, q, 5, rfl, (hp6.go s7 id).go s8 id, by decide, by decide, fun z H9 hz9 g9 hp9 => ⟨_, _, rfl, rfl, _, _, rfl, ?_⟩⟩
          have G9 := ((G6.thn0 s7).thn0 s8).trans g9
          have l9 := g9.lst l8 nl
          have r9 := g9.fz _ _ (s8.fz _ _ r7 trivial) trivial
          have bnd : 1 ≤ (if (1 : Int) + (z : Nat) < ((dealAt b d.deal).steps.length : Int) - d.told.length then (1 : Int) + (z : Nat) else ((dealAt b d.deal).steps.length : Int) - d.told.length) ∧
              (if (1 : Int) + (z : Nat) < ((dealAt b d.deal).steps.length : Int) - d.told.length then (1 : Int) + (z : Nat) else ((dealAt b d.deal).steps.length : Int) - d.told.length) ≤ 5 ∧
              (if (1 : Int) + (z : Nat) < ((dealAt b d.deal).steps.length : Int) - d.told.length then (1 : Int) + (z : Nat) else ((dealAt b d.deal).steps.length : Int) - d.told.length) ≤ ((dealAt b d.deal).steps.length : Int) - d.told.length := by
            split <;> refine ⟨?_, ?_, ?_⟩ <;> omega
          refine ⟨l, _, _, rfl, rfl, l9, ?_, ?_, ?_, fun p hp => ⟨p, _, rfl, upd_same, trivial, fun op => ?_⟩⟩
          · have := bnd.1
            show -(2 ^ 63) ≤ (if (1 : Int) + (z : Nat) < ((dealAt b d.deal).steps.length : Int) - d.told.length then (1 : Int) + (z : Nat) else ((dealAt b d.deal).steps.length : Int) - d.told.length)
            omega
          · have := bnd.2.1
            show (if (1 : Int) + (z : Nat) < ((dealAt b d.deal).steps.length : Int) - d.told.length then (1 : Int) + (z : Nat) else ((dealAt b d.deal).steps.length : Int) - d.told.length) < 2 ^ 63
            omega
          · have := bnd.2.1
            show 1 * (if (1 : Int) + (z : Nat) < ((dealAt b d.deal).steps.length : Int) - d.told.length then (1 : Int) + (z : Nat) else ((dealAt b d.deal).steps.length : Int) - d.told.length).toNat ≤ sizeLine
            exact Nat.le_of_lt (sm (by omega))
          · rw [upd_upd]
            show Q (.ref p) (upd H9 p (.frz op (.lst (List.replicate (if (1 : Int) + (z : Nat) < ((dealAt b d.deal).steps.length : Int) - d.told.length then (1 : Int) + (z : Nat) else ((dealAt b d.deal).steps.length : Int) - d.told.length).toNat [V.ref r2]).flatten)))
            generalize (if (1 : Int) + (z : Nat) < ((dealAt b d.deal).steps.length : Int) - d.told.length then (1 : Int) + (z : Nat) else ((dealAt b d.deal).steps.length : Int) - d.told.length) = n at bnd
            have fr : FzD H9 (.ref r2) (rowD (.stp j)) := fz_t2.mpr ⟨r2, _, _, rfl, r9, .str _, .int _⟩
            have rep : ∀ m : Nat, FzL H9 rowD (List.replicate m [V.ref r2]).flatten (List.replicate m (.stp j)) := fun m => by
              induction m with
              | zero => exact Zp.nil
              | succ m ih =>
                rw [List.replicate_succ, List.replicate_succ, List.flatten_cons]
                exact Zp.cons fr ih
            refine hq _ _ (List.replicate n.toNat (.stp j)) (G9.add hp) (fz_list.mpr ⟨p, op, _, rfl, upd_same, FzL.add (rep n.toNat) hp⟩) (by rw [List.length_replicate]; omega) fun m => okSeq_steps n.toNat ds m d hd hw (by omega)
end
end K29
/-! text K29L8 -/
namespace K29
open PySem PySem.Spec PyProof.Rows L2 LamX
/-! ### texts -/
def AZ : Str := "abcdefghijklmnopqrstuvwxyz"
def sg (c : Nat) : Str := ⟨#[c]⟩
theorem AZ_len : AZ.length = 26 := by decide +kernel
theorem AZ_size : AZ.cps.size = 26 := by decide +kernel
theorem AZ_l : AZ.cps.toList = (List.range 26).map (97 + ·) := by decide +kernel
theorem AZ_at {k : Nat} (h : k < 26) : AZ.cps[k]? = some (97 + k) := by
  rw [← Array.getElem?_toList, AZ_l, List.getElem?_map, List.getElem?_range h]
  rfl
theorem sg_len (c : Nat) : (sg c).length = 1 := rfl
theorem joinL_sg : ∀ cs : List Nat, TL.joinL [] (cs.map fun c => [c]) = cs
  | [] => rfl
  | [_] => rfl
  | a :: b :: r => by
    show [a] ++ ([] ++ TL.joinL [] ((b :: r).map fun c => [c])) = _
    rw [joinL_sg (b :: r)]
    rfl
theorem join_sg (cs : List Nat) : (Txt.join "" (cs.map sg)).cps.toList = cs := by
  rw [TL.join_eq]
  have e := TL.tl_join "" (cs.map sg)
  have e1 : TL.tl "" = [] := by decide +kernel
  rw [e1, List.map_map] at e
  have e2 : (TL.tl ∘ sg) = fun c => [c] := by
    funext c
    rfl
  rw [e2, joinL_sg] at e
  exact e
theorem len_l (x : Str) : x.length = x.cps.toList.length := TL.len_tl x
def cut1 (x : Str) : Str := cutS x none (some (-1))
theorem cut1_l (x : Str) : (cut1 x).cps.toList = x.cps.toList.take (x.length - 1) := by
  show ((x.cps.toList.drop (HT.sIx x.length 0 none)).take (HT.sIx x.length x.length (some (-1)) - HT.sIx x.length 0 none)) = _
  have e : HT.sIx x.length x.length (some (-1)) = x.length - 1 := by
    show (if (-1 : Int) < 0 then ((-1 : Int) + (x.length : Int)).toNat else min (-1 : Int).toNat x.length) = _
    rw [if_pos (by decide)]
    omega
  rw [e, HT.sIx_none, List.drop_zero]
  rfl
theorem app_sg_l (x : Str) (c : Nat) : (x ++ sg c).cps.toList = x.cps.toList ++ [c] := TL.tl_append x (sg c)
theorem app_sg_inj {x : Str} {c d : Nat} (h : x ++ sg c = x ++ sg d) : c = d := by
  have e := congrArg (fun z : Str => z.cps.toList) h
  simp only [app_sg_l] at e
  have := List.append_cancel_left e
  simpa using this
theorem cand_nm {x : Str} (h : isNm x) {k : Nat} (hk : k < 26) : isNm (cut1 x ++ sg (97 + k)) := by
  obtain ⟨h1, h2, h3⟩ := h
  have e : (cut1 x ++ sg (97 + k)).cps.toList = x.cps.toList.take (x.length - 1) ++ [97 + k] := by rw [app_sg_l, cut1_l]
  have el : (cut1 x ++ sg (97 + k)).length = x.length := by
    rw [len_l, e, List.length_append, List.length_take, ← len_l]
    simp only [List.length_singleton]
    omega
  refine ⟨by omega, by omega, fun c hc => ?_⟩
  rw [e] at hc
  rcases List.mem_append.mp hc with z | z
  · exact h3 c (List.mem_of_mem_take z)
  · rw [List.mem_singleton.mp z]
    omega
def cands (x : Str) : List Str := x :: (List.range 26).map fun k => cut1 x ++ sg (97 + k)
theorem cands_nm {x : Str} (h : isNm x) : ∀ y ∈ cands x, isNm y := fun y hy => by
  rcases List.mem_cons.mp hy with rfl | hy
  · exact h
  · obtain ⟨k, hk, rfl⟩ := List.mem_map.mp hy
    exact cand_nm h (List.mem_range.mp hk)
theorem cands_free {x : Str} {ns : List Str} (h : ns.length < 26) : ((cands x).filter fun y => decide (y ∉ ns)) ≠ [] := fun z => by
  have h1 : ((List.range 26).map fun k => cut1 x ++ sg (97 + k)).Nodup := by
    refine List.Pairwise.map _ (fun a b n z => n ?_) List.nodup_range
    have := app_sg_inj z
    omega
  have h2 : ((List.range 26).map fun k => cut1 x ++ sg (97 + k)) ⊆ ns := fun y hy => by
    by_cases hn : y ∈ ns
    · exact hn
    · have : y ∈ (cands x).filter fun y => decide (y ∉ ns) := List.mem_filter.mpr ⟨List.mem_cons_of_mem _ hy, decide_eq_true hn⟩
      rw [z] at this
      cases this
  have := h1.length_le_of_subset h2
  rw [List.length_map, List.length_range] at this
  omega
theorem inV_strs (x : Str) (ns : List Str) : inV (.str x) (ns.map V.str) = decide (x ∈ ns) := by
  induction ns with
  | nil => rfl
  | cons n ns ih =>
    show (eqV (.str n) (.str x) || inV (.str x) (ns.map V.str)) = _
    rw [ih]
    show ((n == x) || decide (x ∈ ns)) = _
    by_cases h : n = x
    · subst h
      simp
    · have h' : ¬ x = n := fun z => h z.symm
      simp [h, h']
theorem flat_strs (ns : List Str) : (ns.map V.str).all flatV = true := by
  rw [List.all_eq_true]
  intro y hy
  obtain ⟨z, _, rfl⟩ := List.mem_map.mp hy
  rfl
theorem fzl_str {H : Hp} (ns : List Str) : FzL H (fun s => .str s) (ns.map V.str) ns := by
  induction ns with
  | nil => exact Zp.nil
  | cons n ns ih => exact Zp.cons (.str n) ih
section
variable {P : Program} {w : World} {K : PySem.W.Frag} {mg : Str → Option Value} {base : Heap} {T : List (Addr × Str)}
/-! ### names -/
def sp_l_names (T : List (Addr × Str)) : Sp := fun vs H Q _ => ∃ (q : Addr) (m : Nat), vs = [.ref q, .int m] ∧ PoolAt H q ∧ m ≤ 3 ∧ ∀ v H' (ns : List Str), Go T (· = q) H H' → PoolAt H' q → FzD H' v (.list (ns.map .str)) → ns.length = m → ns.Nodup → (∀ n ∈ ns, isNm n) → Q v H'
theorem b_l_names (t : Tp K mg) : FB P w K mg base 2 (He.ga K "_law_names") p_l_names (sp_l_names T) := by
  refine FB.of t.f_l_names sc_l_names (fun vs H Q E ⟨_, _, h, _⟩ => by rw [h]; rfl) (fun cdv A outer s H vs Q E hr h => ?_)
  obtain ⟨q, m, rfl, hp, hm, hq⟩ := h
  have nd := sc_l_names.nd
  refine ⟨_, pss_cons (ps_set (i := 2) nd rfl (Or.inr rfl) pe_str)
    (pss_cons (ps_set (i := 3) nd rfl (Or.inr rfl) (pe_lst pa_nil))
    (pss_cons (ps_for PassesOwn.never rfl (pi_range1 (by rfl) t.b_range (pa_cons (pv 1) pa_nil)) (pg_name (i := 4) nd rfl (Or.inl rfl))
      (pss_cons (ps_set (i := 5) nd rfl (Or.inl rfl) (pe_op op_add pe_int (pe_op op_mul (pe_f (b_l_draw (T := T) t) t.g_law_draw hr (pa_cons (pv 0) (pa_cons pe_int pa_nil))) (pe_f (b_l_draw (T := T) t) t.g_law_draw hr (pa_cons (pv 0) (pa_cons pe_int pa_nil))))))
      (pss_cons (ps_set (i := 6) nd rfl (Or.inr rfl) (pe_join pe_str (pe_lc (own := [("_law_at", 7)]) (g := gName 7) (tt := tYes) (te := tOp rIxS (tVar 2) (tCall (sp_l_draw T) [] L2.E0 (tCons (tVar 0) (tCons (tC (.int 26)) tNil)))) rfl nd (pi_range1 (by rfl) t.b_range (pa_cons (pv 5) pa_nil)) (blkOk_by (own := [("_law_at", 7)]) (N := n_l_names) (sc := defScope s_l_names) (by decide +kernel))
          (fun _ _ _ _ _ => pg_name (i := 7) nd rfl (Or.inl rfl)) (fun _ _ _ _ _ => pts_nil) (fun _ _ _ _ _ => pe_ix ix_str (pv 2) (pe_f (b_l_draw (T := T) t) t.g_law_draw hr (pa_cons (pv 0) (pa_cons pe_int pa_nil))) (fun _ _ => rfl)))))
      (pss_cons (ps_set (i := 8) nd rfl (Or.inl rfl) (pe_op op_cat (pe_lst (pa_cons (pv 6) pa_nil)) (pe_lc (own := [("_law_letter", 9)]) (g := gName 9) (tt := tYes) (te := tOp (fun x y H Q => ∃ i j, x = .str i ∧ y = .str j ∧ i.length + j.length ≤ sizeLine ∧ Q (.str (i ++ j)) H) (tSl rSlS (tVar 6) tNoPart (tPart (tUn (rU fun i => .int (-i)) (tC (.int 1))))) (tVar 9)) rfl nd (pi_str (pv 2)) (blkOk_by (own := [("_law_letter", 9)]) (N := n_l_names) (sc := defScope s_l_names) (by decide +kernel))
          (fun _ _ _ _ _ => pg_name (i := 9) nd rfl (Or.inl rfl)) (fun _ _ _ _ _ => pts_nil) (fun _ _ _ _ _ => pe_op op_add_str (pe_slice sl_str (pv 6) po_none (po_some (pe_un un_neg pe_int))) (pv 9)))))
      (pss_one (ps_expr (pe_bm PySem.F.plainAttrs_list PySem.F.slot_list_append PySem.F.type_list_append mt_append (pv 3) (pa_cons (pe_ix ix_list (pe_lc (own := [("_law_one", 10)]) (g := gName 10) (tt := tTest (tOp (rIn K true) (tVar 10) (tVar 3))) (te := tVar 10) rfl nd (pi_list (pv 8)) (blkOk_by (own := [("_law_one", 10)]) (N := n_l_names) (sc := defScope s_l_names) (by decide +kernel))
          (fun _ _ _ _ _ => pg_name (i := 10) nd rfl (Or.inl rfl)) (fun _ _ _ _ _ => pts_one (pt_cmpR op_notIn_seq (pv 10) (pv 3) (by rfl))) (fun _ _ _ _ _ => pv 10)) pe_int (fun _ _ => rfl)) pa_nil))))))))
    (pss_one (ps_ret (pe_fz (pv 3)))))), ?_⟩
  have hpo := pool_lst hp
  refine ⟨by show 0 ≤ sizeLine; decide, fun F hF => ?_⟩
  have g1 : Go T No H (upd H F (.lst [])) := Go.refl.add hF
  have F1 : upd H F (.lst []) F = some (.lst []) := upd_same
  have nwF : Nw H F := Nw.of hF
  have nF : F ≠ q := by
    obtain ⟨o, e, n⟩ := hpo
    exact (nwF.ne e n).symm
  have hp1 := hp.go g1 id
  generalize upd H F (.lst []) = H1 at g1 F1 hp1
  refine ⟨_, rfl, (m : Nat), rfl, by omega, by omega, ?_⟩
  refine for_range (lo := 0) (n := m) (fun k σ H2 => Go T (· = q) H H2 ∧ PoolAt H2 q ∧ (∃ z4 z5 z6 z8 : Option V, σ = [some (.ref q), some (.int m), some (.str AZ), some (.ref F), z4, z5, z6, none, z8, none, none]) ∧ ∃ ns : List Str, H2 F = some (.lst (ns.map .str)) ∧ ns.length = k ∧ ns.Nodup ∧ ∀ n ∈ ns, isNm n)
    ⟨g1.wk, hp1, ⟨none, none, none, none, rfl⟩, [], F1, rfl, .nil, fun n h => (by cases h)⟩ ?_ ?_
  · rintro k σ H2 hk ⟨g, hp2, ⟨z4, z5, z6, z8, rfl⟩, ns, F2, ln, nn, hn⟩
    -- size
    refine ⟨_, rfl, q, 2, rfl, hp2, by decide, by decide, fun x Ha hx ga pa => ⟨_, rfl, q, 8, rfl, pa, by decide, by decide, fun y Hb hy gb pb => ⟨_, _, rfl, rfl, .inl ⟨by omega, by omega⟩, _, _, rfl, rfl, ?_⟩⟩⟩
    have xy : 0 ≤ (x : Int) * (y : Int) ∧ (x : Int) * (y : Int) ≤ 7 := by
      have hx2 : x = 0 ∨ x = 1 := by omega
      rcases hx2 with rfl | rfl
      · constructor <;> simp
      · constructor
        · simp
        · have : ((1 : Nat) : Int) * (y : Int) = y := by simp
          omega
    have gB := (g.trans ga).trans gb
    have Fb := gb.lst (ga.lst F2 nF) nF
    -- name
    refine ⟨⟨_, rfl⟩, _, rfl, _, rfl, by show -(2 ^ 62) ≤ (1 : Int) + (x : Int) * (y : Int); omega, by show (1 : Int) + (x : Int) * (y : Int) < 2 ^ 62; omega, fun D hD => ?_⟩
    have nDq : D ≠ q := by
      obtain ⟨o, e, n⟩ := pool_lst pb
      exact ((Nw.of hD).ne e n).symm
    refine lc_range (lo := 0) (n := ((1 : Int) + (x : Int) * (y : Int)).toNat) (LcP T (· = q) (fun H => PoolAt H q) (SA fun _ v _ => ∃ c, 97 ≤ c ∧ c ≤ 122 ∧ v = .str (sg c)) Hb D) (LcP.zero hD (pb.go (T := T) (M := No) (Go.refl.add hD) id)) (fun j Hc hj c => ?_) fun Hc c => ?_
    · refine ⟨rfl, iteT (B := LcP T (· = q) (fun H => PoolAt H q) (SA fun _ v _ => ∃ c, 97 ≤ c ∧ c ≤ 122 ∧ v = .str (sg c)) Hb D (j + 1) Hc) ?_⟩
      refine ⟨_, rfl, _, rfl, q, 26, rfl, c.2.1, by decide, by decide, fun z Hd hz gd pd => ⟨AZ, (z : Nat), 97 + z, rfl, rfl, by rw [AZ_len]; decide, atI_nat (by rw [Array.getElem?_toList]; exact AZ_at (by omega)), ?_⟩⟩
      exact c.yes gd hD nDq (fun _ _ _ _ h _ => h) (sm (by omega)) ⟨_, rfl, 97 + z, by omega, by omega, rfl⟩ fun o => pd.go (T := T) (M := (· = D)) (by
        obtain ⟨_, _, rs, _, e, _⟩ := c
        exact Go.refl.set (gd.lst e nDq) trivial (.inl rfl)) nDq.symm
    · obtain ⟨gc, pc, ys, ly, hz, hys⟩ := c.any
      obtain ⟨cs, rfl, hcs⟩ : ∃ cs : List Nat, ys = (cs.map sg).map V.str ∧ ∀ c ∈ cs, 97 ≤ c ∧ c ≤ 122 := by
        have key : ∀ ys : List V, (∀ y ∈ ys, ∃ c, 97 ≤ c ∧ c ≤ 122 ∧ y = V.str (sg c)) → ∃ cs : List Nat, ys = (cs.map sg).map V.str ∧ ∀ c ∈ cs, 97 ≤ c ∧ c ≤ 122 := fun ys => by
          induction ys with
          | nil => exact fun _ => ⟨[], rfl, fun c h => (by cases h)⟩
          | cons y ys ih =>
            intro h
            obtain ⟨c, c1, c2, rfl⟩ := h y (by simp)
            obtain ⟨cs, rfl, h2⟩ := ih fun y hy => h y (by simp [hy])
            exact ⟨c :: cs, rfl, fun d hd => by
              rcases List.mem_cons.mp hd with rfl | hd
              · exact ⟨c1, c2⟩
              · exact h2 d hd⟩
        refine key ys fun y hy => ?_
        obtain ⟨j, hj, e⟩ := List.mem_iff_getElem.mp hy
        exact hys j y (by rw [List.getElem?_eq_getElem hj, e])
      rw [List.length_map, List.length_map] at ly
      have nm : isNm (Txt.join "" (cs.map sg)) := by
        have e := join_sg cs
        refine ⟨by rw [len_l, e]; omega, by rw [len_l, e]; omega, fun c hc => ?_⟩
        rw [e] at hc
        exact hcs c hc
      have jsz : ((cs.map sg).map (·.length)).sum + (cs.map sg).length * ("" : Str).length ≤ 16777216 := by
        have e1 : ∀ cs : List Nat, ((cs.map sg).map (·.length)).sum = cs.length := fun cs => by
          induction cs with
          | nil => rfl
          | cons c cs ih =>
            rw [List.map_cons, List.map_cons, List.sum_cons, ih, sg_len, List.length_cons]
            omega
        have e2 : ("" : Str).length = 0 := by decide +kernel
        rw [e1, e2]
        omega
      refine ⟨_, D, cs.map sg, rfl, rfl, .inl (.inl (.inl hz)), jsz, ?_⟩
      have gC := gB.trans (gc.mono fun c h => .inl h)
      have Fc := gc.lst Fb nF
      generalize Txt.join "" (cs.map sg) = name at nm
      -- some
      refine ⟨_, rfl, by show 1 ≤ sizeLine; decide, fun L hL => ?_⟩
      have s2 : Go T No Hc (upd Hc L (.lst [.str name])) := Go.refl.add hL
      have L2 : upd Hc L (.lst [.str name]) L = some (.lst [.str name]) := upd_same
      generalize upd Hc L (.lst [.str name]) = Hd at s2 L2
      refine ⟨_, rfl, AZ, rfl, fun E hE => ?_⟩
      refine lc_it walk_str (LcP T No (fun _ => True) (SF (fun k : Nat => .str (cut1 name ++ sg (97 + k))) (List.range 26)) Hd E) (LcP.zero hE trivial) (fun _ _ _ _ => trivial) (fun i v H3 H3' hi c hv => ?_) fun H3 c => ?_
      · obtain ⟨rfl, ch, hch, rfl⟩ := hv
        rw [AZ_size] at hi
        rw [AZ_at hi] at hch
        cases hch
        have n1 := nm.1
        have n2 := nm.2.1
        have cl : (cut1 name).length ≤ name.length := cutS_length _ _ _
        refine ⟨rfl, iteT (B := LcP T No (fun _ => True) (SF (fun k : Nat => .str (cut1 name ++ sg (97 + k))) (List.range 26)) Hd E (i + 1) H3') ?_⟩
        refine ⟨_, rfl, _, rfl, _, rfl, name, rfl, Nat.le_of_lt (sm (by omega)), _, rfl, cut1 name, sg (97 + i), rfl, rfl, ?_, c.yes Go.refl hE id SP.st (sm (by omega)) (SP.yes (d := i) (by rw [List.getElem?_range hi]) rfl (.str _)) fun _ => trivial⟩
        rw [sg_len]
        exact Nat.le_of_lt (sm (by omega))
      · obtain ⟨g3, _, zs, hzs, fz⟩ := c.all (by rw [AZ_size, List.length_range])
        have ez := fzl_strs fz
        subst ez
        have ec : [V.str name] ++ (List.range 26).map (fun k => V.str (cut1 name ++ sg (97 + k))) = (cands name).map V.str := by
          show V.str name :: _ = V.str name :: _
          rw [List.map_map]
          rfl
        refine ⟨L, E, _, _, rfl, rfl, g3.lst L2 id, hzs, by rw [List.length_map, List.length_range]; show 1 + 26 ≤ sizeLine; decide, fun p hp3 => ?_⟩
        rw [ec]
        have s4 : Go T No H3 (upd H3 p (.lst ((cands name).map V.str))) := Go.refl.add hp3
        have p4 : upd H3 p (.lst ((cands name).map V.str)) p = some (.lst ((cands name).map V.str)) := upd_same
        generalize upd H3 p (.lst ((cands name).map V.str)) = H4 at s4 p4
        have G24 : Go T No Hc H4 := (s2.thn0 g3).thn0 s4
        have F4 := G24.lst Fc id
        -- found.append([..][0])
        refine ⟨_, rfl, .inl ⟨rfl, _, .inl (.inl F4)⟩, _, rfl, p, rfl, ⟨_, .inl (.inl p4)⟩, fun A1 hA => ?_⟩
        refine lc_list (K := K) (a := p) (xs := (cands name).map V.str) (LcP T No (fun _ => True) (SP (fun s : Str => .str s) (cands name) fun y => decide (y ∉ ns)) H4 A1) (LcP.zero hA trivial) (fun i H5 _ c => .inl (.inl (c.1.lst p4 id))) (fun i v H5 hi c => ?_) fun H5 c => ?_
        · rw [List.getElem?_map] at hi
          cases e : (cands name)[i]? with
          | none =>
            rw [e] at hi
            cases hi
          | some y =>
            rw [e] at hi
            cases hi
            have il := (List.getElem?_eq_some_iff.mp e).1
            have lc : (cands name).length = 27 := by
              show ((List.range 26).map _).length + 1 = 27
              rw [List.length_map, List.length_range]
            refine ⟨rfl, _, rfl, _, rfl, F, _, rfl, .inl (.inl (.inl (c.1.lst F4 id))), rfl, flat_strs ns, _, rfl, ?_⟩
            show if (!inV (.str y) (ns.map V.str)) = true then _ else _
            rw [inV_strs]
            by_cases hy2 : y ∈ ns
            · rw [decide_eq_true hy2]
              exact iteF (c.no Go.refl id SP.st (SP.no e (by simp [hy2])) trivial)
            · rw [decide_eq_false hy2]
              exact iteT ⟨_, rfl, c.yes Go.refl hA id SP.st (sm (by omega)) (SP.yes e (by simp [hy2]) (.str _)) fun _ => trivial⟩
        · obtain ⟨g5, _, ws, hws, fw⟩ := c.flt (by rw [List.length_map])
          have ew := fzl_strs fw
          subst ew
          have hne := cands_free (x := name) (ns := ns) (by omega)
          cases hcc : (cands name).filter fun y => decide (y ∉ ns) with
          | nil => exact absurd hcc hne
          | cons y r =>
            rw [hcc] at hws
            have hy : y ∈ (cands name).filter fun y => decide (y ∉ ns) := by rw [hcc]; simp
            obtain ⟨hy1, hy2⟩ := List.mem_filter.mp hy
            have hy2 := of_decide_eq_true hy2
            have F5 := g5.lst F4 id
            have G5 := (gC.thn0 G24).thn0 g5
            have p5 := ((pc.go G24 id).go g5 id)
            refine ⟨_, _, _, _, rfl, rfl, .inl (.inl hws), atI_nat (j := 0) rfl, F, _, _, rfl, rfl, F5, by rw [List.length_map, ln]; exact sm (by omega), ?_⟩
            have s6 : Go T (· = F) H5 (upd H5 F (.lst (ns.map V.str ++ [.str y]))) := Go.refl.set F5 trivial (.inl rfl)
            refine ⟨G5.set F5 trivial (.inr nwF), p5.go s6 nF.symm, ⟨_, _, _, _, rfl⟩, ns ++ [y], by rw [upd_same, List.map_append]; rfl, by rw [List.length_append, ln]; rfl, ?_, fun n hn2 => ?_⟩
            · rw [List.nodup_append]
              refine ⟨nn, by simp, fun a ha b hb z => ?_⟩
              rw [List.mem_singleton.mp hb] at z
              exact hy2 (z ▸ ha)
            · rcases List.mem_append.mp hn2 with h | h
              · exact hn n h
              · rw [List.mem_singleton.mp h]
                exact cands_nm nm y hy1
  · rintro σ H2 ⟨g, hp2, ⟨z4, z5, z6, z8, rfl⟩, ns, F2, ln, nn, hn⟩
    refine ⟨_, rfl, F, _, rfl, F2, trivial, fun of => ?_⟩
    have s3 : Go T (· = F) H2 (upd H2 F (.frz of (.lst (ns.map V.str)))) := Go.refl.set F2 trivial (.inl rfl)
    exact hq _ _ ns (g.set F2 trivial (.inr nwF)) (hp2.go s3 nF.symm) (fz_list.mpr ⟨F, of, _, rfl, upd_same, fzl_str ns⟩) ln nn hn
end
end K29
/-! text K29Rep -/
namespace K29
open PySem PySem.Spec PyProof.Rows L2
/-! ### x = s[i]; s = s.replace(x, ''): the identity of x is known -/
section
variable {X : Cx} {pins : List (Addr × Obj)} {σ : L2.St} {H : Hp} {s : Shared}
/-- a local is stored, and holds just that -/
theorem store_exact {M : Model} {A : Around} {E : Value → Shared → Prop} {i : Nat} {x : Str} {v : V} {u : Value} {Q : Unit → Shared → Prop} (I : Inv X pins σ H s) (hN : X.N.Nodup) (hi : X.N[i]? = some x) (hk : X.env.scope.names.lookup x = some .local) (r : RelV v u)
    (h : ∀ s' m', Inv X pins (σ.set i (some v)) H s' → s'.heap.Ns X.env.locals m' → m' x = some u → s'.toks = s.toks + 1 → Q () s') : wpAny M A (storeName X.env x u) Q E s := by
  obtain ⟨m, hn, hl⟩ := id I.loc
  have hcls : (X.env.scope.kind == .class || (X.env.scope.kind == .module && X.env.locals != X.env.globals)) = false := by rw [I.ok.kind]; rfl
  have hiσ : i < σ.length := by rw [I.len]; exact (List.getElem?_eq_some_iff.mp hi).1
  have cne := I.cne
  have tracked : ∀ {a : Addr} {h' : Heap}, (∃ o, s.heap.get? a = some o ∧ H a = none) → Heap.SameBut a s.heap h' → HOk X.prog X.w H h' := fun {a h'} ha hs b ob e => by
    obtain ⟨_, _, hfree⟩ := ha
    refine (I.hok b ob e).stay (fun c w' hc q => (hs.2 c ?_).trans q) (fun _ q => q) fun _ _ q => q
    intro z
    subst z
    rcases hc with z | hc
    · subst z
      rw [hfree] at e
      cases e
    · rw [hfree] at hc
      cases hc
  refine wpAny_storeName_local hk hn (fun h' hn' hs => ?_) hcls
  obtain ⟨oL, _, _, hoL, _⟩ := id hn
  refine h _ _ ⟨I.ok, I.os, I.bare, ⟨fun b o e n hb hx => ?_, fun b o e n hb hx => ?_, I.base.free, fun b o e hx => ?_, I.base.tups, I.base.frzs, I.base.tbls⟩, ⟨_, hn', fun j y v' e1 e2 e3 => ?_⟩, fun y c e => ?_, I.free, I.freeC, fun p hp => ?_, tracked ⟨oL, hoL, I.free⟩ hs, by simpa using I.len⟩ hn' (if_pos rfl) rfl
  · exact (hs.2 b (Nat.ne_of_lt (Nat.lt_of_lt_of_le (Heap.lt_size e) I.ok.above))).trans (I.base.keep b o e n hb hx)
  · obtain ⟨sl, e1⟩ := I.base.slot b o e n hb hx
    exact ⟨sl, (hs.2 b (Nat.ne_of_lt (Nat.lt_of_lt_of_le (Heap.lt_size e) I.ok.above))).trans e1⟩
  · obtain ⟨o', e1⟩ := I.base.there b o e hx
    exact ⟨o', (hs.2 b (Nat.ne_of_lt (Nat.lt_of_lt_of_le (Heap.lt_size e) I.ok.above))).trans e1⟩
  · by_cases hj : j = i
    · subst hj
      rw [hi] at e1
      cases e1
      rw [List.getElem?_set_self hiσ] at e2
      cases e2
      exact ⟨u, r, .inl ⟨hk, by simp⟩⟩
    · rw [List.getElem?_set_ne (Ne.symm hj)] at e2
      obtain ⟨u', r', q⟩ := hl j y v' e1 e2 e3
      refine ⟨u', r', ?_⟩
      rcases q with ⟨k, e⟩ | ⟨k, c, e, z⟩
      · refine .inl ⟨k, ?_⟩
        have : y ≠ x := fun e => hj (nodup_ix hN e1 (e ▸ hi))
        simp [this, e]
      · exact .inr ⟨k, c, e, z.sameBut hs (cne y c e)⟩
  · obtain ⟨w', z⟩ := I.cell y c e
    exact ⟨w', z.sameBut hs (cne y c e)⟩
  · obtain ⟨e, n, ne, nf, d⟩ := I.pin p hp
    exact ⟨(hs.2 p.1 ne).trans e, n, ne, nf, d⟩
/-- for, a token being out already -/
theorem pst_forT {tg iter : Expr} {body : List Stmt} {wi : TI} {g : TG} {tb : TS} {pos : Pos} (hp : PassesOwn (model X.prog X.w) X.A X.env X.xe) (hc : X.calm = true) (hi : PI X tg iter wi) (hg : PG X tg g) (hb : PSsT X body tb)
    (hs : ∀ x, foldedSetIterable iter X.env x = pure x := by intro _; rfl) : PST X (.For tg iter body [] pos) (tFor wi g tb) := by
  intro pins s σ H D h0 I h
  refine wpAny_For (wpAny_mono (wpAny_toks_of h0 (hi.run pins s σ H _ I h)) (fun v s1 ⟨t1, h1⟩ => wpAny_mono (wpAny_toks_of t1 h1) (fun itv s2 ⟨t2, h2⟩ => ?_) fun _ _ z => z.2) fun _ _ z => z.2) hs
  obtain ⟨it, fp, tn, J, H2, e, I2, T, st2, f2, W, ⟨m0, w0⟩, turn⟩ := h2
  subst e
  have stat : ∀ {H' : Hp}, (∀ b ∈ fp, H' b = none) → ∀ b ∈ fp, FpOk X pins H' b := fun hn b hb => ⟨hn b hb, (f2 b hb).2⟩
  refine codeAny_forLoop_any (fun n s' => 1 ≤ s'.toks ∧ ∃ i σ' H', Inv X pins σ' H' s' ∧ tn i s'.heap ∧ (∀ b ∈ fp, H' b = none) ∧ W i n σ' H') ?_ m0 ⟨t2, 0, σ, H2, I2, st2, fun b hb => (f2 b hb).1, w0⟩
  rintro n s3 ⟨t3, i, σ3, H3, I3, st3, fr3, w3⟩
  rcases turn i n σ3 H3 w3 with ⟨stop, qn⟩ | ⟨go, N, hN, step⟩
  · refine wpAny_passesOwn hp (thn (T.done X rfl rfl rfl hc i pins s3 σ3 H3 X.xe I3 (stat fr3) st3 stop) fun r s4 ⟨hr, I4⟩ => ?_)
    subst hr
    exact wpAny_execs_nil ⟨σ3, H3, I4, qn⟩
  · refine wpAny_passesOwn hp (wpAny_mono (wpAny_toks_of t3 (T.item X rfl rfl rfl hc i pins s3 σ3 H3 X.xe I3 (stat fr3) st3 go)) (fun r s4 ⟨t4, u, hr, h4⟩ => ?_) fun _ _ z => z.2)
    subst hr
    refine wpAny_passesOwn hp (wpAny_mono (wpAny_toks_of t4 h4) (fun _ s5 ⟨t5, x, H5, I5, r5, y5, st5, fr5⟩ => ?_) fun _ _ z => z.2)
    have I5' := I5.pinned (stat fr5) (T.obj _ _ st5)
    refine wpAny_passesOwn hp (wpAny_mono (wpAny_toks_of t5 (hg.run _ s5 σ3 H5 x u _ I5' r5 (step x H5 y5))) (fun _ s6 ⟨t6, σ6, H6, I6, q6⟩ => ?_) fun _ _ z => z.2)
    refine wpAny_passesOwn hp (wpAny_mono (wpAny_toks_of t6 (hb _ s6 σ6 H6 _ t6 I6 q6)) (fun f s7 ⟨t7, q7⟩ => ?_) fun _ _ z => z.2)
    have again : ∀ {σ7 : L2.St} {H7 : Hp}, Inv X (pins ++ pinsAt fp s5.heap) σ7 H7 s7 → N σ7 H7 → ∃ m, m < n ∧ 1 ≤ s7.toks ∧ ∃ i σ' H', Inv X pins σ' H' s7 ∧ tn i s7.heap ∧ (∀ b ∈ fp, H' b = none) ∧ W i m σ' H' := fun {σ7 H7} I7 n7 => by
      obtain ⟨m', hm, w7⟩ := hN σ7 H7 n7
      refine ⟨m', hm, t7, i + 1, σ7, H7, I7.unpinned, T.keep _ _ _ st5 fun b hb o e => (I7.pin (b, o) (List.mem_append_right _ (List.mem_append_right _ (mem_pinsAt hb e)))).1, fun b hb => ?_, w7⟩
      obtain ⟨o, e, d⟩ := T.obj _ _ st5 b hb
      exact (I7.pin (b, o) (List.mem_append_right _ (List.mem_append_right _ (mem_pinsAt hb e)))).2.1
    cases f with
    | next => obtain ⟨σ7, H7, I7, n7⟩ := q7; exact again I7 n7
    | cont => obtain ⟨σ7, H7, I7, n7⟩ := q7; exact again I7 n7
    | brk => obtain ⟨σ7, H7, I7, q7⟩ := q7; exact ⟨σ7, H7, I7.unpinned, q7⟩
    | ret v => obtain ⟨x7, σ7, H7, I7, r7, q7⟩ := q7; exact ⟨x7, σ7, H7, I7.unpinned, r7, q7⟩
end
/-- x (slot im) = s[i] (s at il); s = s.replace(x, ''); then u -/
def tMk (im il : Nat) (ti : TE) (u : TS) : TS := fun D σ H => ∃ z : Str, σ[il]? = some (some (.str z)) ∧ z.length ≤ 1000 ∧ ti σ H fun y H1 => ∃ (i : Int) (c : Nat), y = .int i ∧ atI z.cps.toList i = some c ∧ u D ((σ.set im (some (.str ⟨#[c]⟩))).set il (some (.str (Txt.replace z ⟨#[c]⟩ "")))) H1
section
variable {X : Cx} {rest : List Stmt} {u : TS}
theorem psst_mark {im il j : Nat} {mk lf : Str} {ix : Expr} {ti : TE} {p1 p2 p3 p4 p5 p6 p7 p8 p9 p10 p11 : Pos} (hN : X.N.Nodup) (hm : X.N[im]? = some mk) (hl : X.N[il]? = some lf) (hkm : X.env.scope.names.lookup mk = some .local) (hkl : X.env.scope.names.lookup lf = some .local) (hne : im ≠ il)
    (hi : PE X ix ti) (hp : PlainIx ix) (hr : PSsT X rest u)
    (hs1 : swapsWith (.Subscript (.Name lf p2) ix p3) (some (.Name mk p1)) p4.line X.env = pure false := by rfl)
    (hs2 : swapsWith (.Call (.Attribute (.Name lf p6) "replace" p7) [.Name mk p8, .Constant (.str "") j p9] [] p10) (some (.Name lf p5)) p11.line X.env = pure false := by rfl)
    (hst : starEach [.Name mk p8, .Constant (.str "") j p9] X.env = [(false, eval (.Name mk p8) X.env), (false, eval (.Constant (.str "") j p9) X.env)] := by rfl)
    (hbase : attributeBase (.Name lf p6) "replace" X.env (eval (.Name lf p6) X.env) = eval (.Name lf p6) X.env := by rfl) (hline : (p7.endLine == p10.line) = true := by rfl)
    (hdm : (mk == ("__debug__" : Str)) = false := by decide) (hdl : (lf == ("__debug__" : Str)) = false := by decide) (hcl : (lf == ("__classdict__" : Str)) = false := by decide) :
    PSsT X (.Assign [.Name mk p1] (.Subscript (.Name lf p2) ix p3) p4 :: .Assign [.Name lf p5] (.Call (.Attribute (.Name lf p6) "replace" p7) [.Name mk p8, .Constant (.str "") j p9] [] p10) p11 :: rest) (tMk im il ti u) := by
  intro pins s σ H D h0 I h
  obtain ⟨z, hz, hzl, h⟩ := h
  have line : z.length ≤ sizeLine := Nat.le_trans hzl (by decide)
  refine wpAny_execs_cons (wpAny_Assign_Name ?_ hs1)
  -- s[i]
  refine Subscript_ (raw_name hl (.inl hkl) I hz (fun ov ro => ?_) hdl hcl)
  obtain ⟨tz, rfl⟩ := ro
  refine wpAny_mono (wpAny_toks_of h0 (hi.run pins s σ H _ I h)) (fun iv s1 ⟨t1, y, H1, I1, r1, i, c, ey, hc, q⟩ => ?_) fun _ _ z => z.2
  subst ey
  obtain ⟨ti', rfl⟩ := r1
  obtain ⟨jx, g1, g2, g3, g4, g5⟩ := atI_get hc
  have hlz : z.cps.toList.length = z.length := by simp [Str.length]
  rw [hlz] at g1 g4 g5
  have hn := line63
  refine tail_any (typeIs_str s1 z tz) slot_str_getitem.lookup (getItem_str (c := c) (by
    have e1 : decide (i < -(2 ^ 63 : Int)) = false := decide_eq_false (by omega)
    have e2 : decide (i ≥ 2 ^ 63) = false := decide_eq_false (by omega)
    rw [e1, e2, Bool.or_false]) (by rw [g1]; simpa using g2) ?_) (hp _ _)
  -- x is stored
  refine store_exact (v := .str ⟨#[c]⟩) (I1.tok (s1.toks + 1)) hN hm hkm ⟨_, rfl⟩ fun s2 m2 I2 hns hmk ht2 => ?_
  have ht2 : s2.toks = s1.toks + 1 + 1 := ht2
  refine wpAny_execs_cons (wpAny_Assign_Name (PySem.Call_method2 hbase hst hline ?_) hs2)
  have hz2 : (σ.set im (some (V.str ⟨#[c]⟩)))[il]? = some (some (.str z)) := by
    rw [List.getElem?_set_ne hne]
    exact hz
  refine raw_name hl (.inl hkl) I2 hz2 (fun ov ro => ?_) hdl hcl
  obtain ⟨tz2, rfl⟩ := ro
  refine ⟨"str", _, PySem.F.plainAttrs_str, PySem.F.slot_str_replace, PySem.F.type_str_replace, typeIs_str _ _ _, (fun _ e => nomatch e), Calls.callWith_builtin rfl (Calls.evalArgs_plain (Calls.spliced_cons ?_))⟩
  refine wpAny_Name (wpAny_loadName_local I2.ok.kind hkm hns hmk ?_) hdm
  refine Calls.spliced_cons (Calls.Constant_str (Calls.spliced_nil ?_))
  have e0 : ("" : Str).length = 0 := by decide +kernel
  refine wpAny_mono (wpAny_toks_of (n := 1) (by show 1 ≤ s2.toks + 1; omega) (PySem.SC.replace (Q := fun v s3 => ∃ t' k, v = .str (Txt.replace z ⟨#[c]⟩ "") t' ∧ s3 = { s2 with toks := k }) (by show s1.toks ≠ 0; omega) (by show s2.toks ≠ 0; omega) (by show s1.toks ≠ s2.toks; omega) ?_ (by rw [e0]; omega) fun t' k => ⟨t', k, rfl, rfl⟩)) (fun v s3 ⟨t3, t', k, ev, es⟩ => ?_) fun _ _ z => z.2
  · rw [beq_eq_false_iff_ne]
    intro w
    have := congrArg Str.length w
    rw [e0] at this
    exact absurd (show (1 : Nat) = 0 from this) (by decide)
  · subst ev es
    refine wpAny_mono (wpAny_toks_of t3 (store_ok (v := .str (Txt.replace z ⟨#[c]⟩ "")) (Q := fun _ s4 => Inv X pins ((σ.set im (some (V.str ⟨#[c]⟩))).set il (some (.str (Txt.replace z ⟨#[c]⟩ "")))) H1 s4) (I2.tok k) hN hl (.inl hkl) ⟨t', rfl⟩ (fun s3 I3 => I3) (.inr hkl))) (fun _ s4 ⟨t4, I4⟩ => ?_) fun _ _ z => z.2
    exact hr pins s4 _ H1 D t4 I4 q
end
end K29
/-! text K29L9 -/
namespace K29
open PySem PySem.Spec PyProof.Rows L2 LamX
theorem replS_one (c : Nat) : ∀ l : List Nat, StrLaws.replS [c] [] 0 l = l.filter fun x => decide (x ≠ c)
  | [] => by rw [StrLaws.replS]; rfl
  | a :: r => by
    have ih := replS_one c r
    rw [StrLaws.replS]
    show (if [a] = [c] then [] ++ StrLaws.replS [c] [] 0 r else a :: StrLaws.replS [c] [] 0 r) = _
    by_cases h : a = c
    · subst h
      rw [if_pos rfl, List.nil_append, ih, List.filter_cons_of_neg (by simp)]
    · rw [if_neg (by simpa using h), ih, List.filter_cons_of_pos (by simp [h])]
theorem repl_one (z : Str) (c : Nat) : (Txt.replace z (sg c) "").cps.toList = z.cps.toList.filter fun x => decide (x ≠ c) := by
  rw [StrLaws.replace_list (by show 1 ≤ 1; decide)]
  have e : ("" : Str).cps.toList = [] := by decide +kernel
  rw [e]
  exact replS_one c _
theorem filter_len {l : List Nat} {c : Nat} (hn : l.Nodup) (hc : c ∈ l) : (l.filter fun x => decide (x ≠ c)).length = l.length - 1 := by
  induction l with
  | nil => cases hc
  | cons a l ih =>
    rw [List.nodup_cons] at hn
    by_cases h : a = c
    · subst h
      rw [List.filter_cons_of_neg (by simp)]
      have e : (l.filter fun x => decide (x ≠ a)) = l := List.filter_eq_self.mpr fun x hx => decide_eq_true fun z => hn.1 (z ▸ hx)
      rw [e]
      rfl
    · rcases List.mem_cons.mp hc with z | z
      · exact absurd z.symm h
      · rw [List.filter_cons_of_pos (by simp [h]), List.length_cons, ih hn.2 z, List.length_cons]
        have := List.length_pos_of_mem z
        omega
theorem sg_nm {c : Nat} (h1 : 97 ≤ c) (h2 : c ≤ 122) : isNm (sg c) := ⟨by rw [sg_len]; exact Nat.le_refl _, by rw [sg_len]; decide, fun d hd => by
  have : d = c := by simpa [sg] using hd
  rw [this]
  exact ⟨h1, h2⟩⟩
theorem sg_inj {c d : Nat} (h : sg c = sg d) : c = d := by
  have := congrArg (fun z : Str => z.cps.toList) h
  simpa [sg] using this
section
variable {P : Program} {w : World} {K : PySem.W.Frag} {mg : Str → Option Value} {base : Heap} {T : List (Addr × Str)}
/-! ### marks -/
def sp_l_marks (T : List (Addr × Str)) : Sp := fun vs H Q _ => ∃ (q : Addr) (m : Nat), vs = [.ref q, .int m] ∧ PoolAt H q ∧ m ≤ 4 ∧ ∀ v H' (ns : List Str), Go T (· = q) H H' → PoolAt H' q → FzD H' v (.list (ns.map .str)) → ns.length = m → ns.Nodup → (∀ n ∈ ns, isNm n) → Q v H'
theorem b_l_marks (t : Tp K mg) : FB P w K mg base 2 (He.ga K "_law_marks") p_l_marks (sp_l_marks T) := by
  refine FB.of t.f_l_marks sc_l_marks (fun vs H Q E ⟨_, _, h, _⟩ => by rw [h]; rfl) (fun cdv A outer s H vs Q E hr h => ?_)
  obtain ⟨q, m, rfl, hp, hm, hq⟩ := h
  have nd := sc_l_marks.nd
  refine ⟨_, pss_str (i := 2) nd rfl (Or.inl rfl) (psst_cons (PST.of (ps_set (i := 3) nd rfl (Or.inl rfl) (pe_lst pa_nil)))
    (psst_cons (pst_forT PassesOwn.never rfl (pi_range1 (by rfl) t.b_range (pa_cons (pv 1) pa_nil)) (pg_name (i := 4) nd rfl (Or.inl rfl))
      (psst_mark (im := 5) (il := 2) nd rfl rfl rfl rfl (by decide) (pe_f (b_l_draw (T := T) t) t.g_law_draw hr (pa_cons (pv 0) (pa_cons (pe_callB call_len (by rfl) t.b_len PySem.boot_len (pa_cons (pv 2) pa_nil)) pa_nil))) (fun _ _ => rfl)
        (PSsT.of (pss_one (ps_expr (pe_bm PySem.F.plainAttrs_list PySem.F.slot_list_append PySem.F.type_list_append mt_append (pv 3) (pa_cons (pv 5) pa_nil)))))))
    (PSsT.of (pss_one (ps_ret (pe_fz (pv 3))))))), ?_⟩
  have hpo := pool_lst hp
  refine ⟨by show 0 ≤ sizeLine; decide, fun F hF => ?_⟩
  have g1 : Go T No H (upd H F (.lst [])) := Go.refl.add hF
  have F1 : upd H F (.lst []) F = some (.lst []) := upd_same
  have nwF : Nw H F := Nw.of hF
  have nF : F ≠ q := by
    obtain ⟨o, e, n⟩ := hpo
    exact (nwF.ne e n).symm
  have hp1 := hp.go g1 id
  generalize upd H F (.lst []) = H1 at g1 F1 hp1
  refine ⟨_, rfl, (m : Nat), rfl, by omega, by omega, ?_⟩
  refine for_range (lo := 0) (n := m) (fun k σ H2 => Go T (· = q) H H2 ∧ PoolAt H2 q ∧ ∃ (z4 z5 : Option V) (lf : Str) (ms : List Nat), σ = [some (.ref q), some (.int m), some (.str lf), some (.ref F), z4, z5] ∧ H2 F = some (.lst (ms.map fun c => .str (sg c))) ∧ ms.length = k ∧ lf.cps.toList.length = 26 - k ∧ lf.cps.toList.Nodup ∧ (∀ c ∈ lf.cps.toList, 97 ≤ c ∧ c ≤ 122 ∧ c ∉ ms) ∧ ms.Nodup ∧ ∀ c ∈ ms, 97 ≤ c ∧ c ≤ 122)
    ⟨g1.wk, hp1, none, none, AZ, [], rfl, F1, rfl, by rw [AZ_l]; rfl, by rw [AZ_l]; decide +kernel, fun c hc => by
      rw [AZ_l] at hc
      obtain ⟨k, hk, rfl⟩ := List.mem_map.mp hc
      have := List.mem_range.mp hk
      exact ⟨by omega, by omega, by simp⟩, .nil, fun c hc => (by cases hc)⟩ ?_ ?_
  · rintro k σ H2 hk ⟨g, hp2, z4, z5, lf, ms, rfl, F2, lm, ll, nl, hl, nm, hms⟩
    have e1 := len_l lf
    refine ⟨lf, rfl, by omega, _, rfl, _, rfl, _, lf.length, rfl, ⟨Nat.le_of_lt (sm (by omega)), rfl⟩, q, _, rfl, hp2, by omega, by omega, fun x H3 hx g3 hp3 => ?_⟩
    have hx2 : x < lf.cps.toList.length := by omega
    refine ⟨(x : Nat), lf.cps.toList[x], rfl, atI_nat (List.getElem?_eq_getElem hx2), ?_⟩
    have hc := List.getElem_mem hx2
    generalize lf.cps.toList[x] = c at hc
    obtain ⟨c1, c2, c3⟩ := hl c hc
    have F3 := g3.lst F2 nF
    refine ⟨_, rfl, .inl ⟨rfl, _, .inl (.inl F3)⟩, _, rfl, F, _, _, rfl, rfl, F3, by rw [List.length_map]; exact sm (by omega), ?_⟩
    have s4 : Go T (· = F) H3 (upd H3 F (.lst ((ms.map fun c => V.str (sg c)) ++ [.str ⟨#[c]⟩]))) := Go.refl.set F3 trivial (.inl rfl)
    refine ⟨(g.trans g3).set F3 trivial (.inr nwF), hp3.go s4 nF.symm, _, _, _, ms ++ [c], rfl, by rw [upd_same, List.map_append]; rfl, by rw [List.length_append, lm]; rfl, ?_, ?_, fun d hd => ?_, ?_, fun d hd => ?_⟩
    · show (Txt.replace lf (sg c) "").cps.toList.length = _
      rw [repl_one, filter_len nl hc]
      omega
    · show (Txt.replace lf (sg c) "").cps.toList.Nodup
      rw [repl_one]
      exact nl.filter _
    · have hd : d ∈ (Txt.replace lf (sg c) "").cps.toList := hd
      rw [repl_one] at hd
      obtain ⟨h1, h2⟩ := List.mem_filter.mp hd
      have h2 := of_decide_eq_true h2
      obtain ⟨d1, d2, d3⟩ := hl d h1
      refine ⟨d1, d2, fun z => ?_⟩
      rcases List.mem_append.mp z with z | z
      · exact d3 z
      · exact h2 (List.mem_singleton.mp z)
    · rw [List.nodup_append]
      refine ⟨nm, by simp, fun a ha b hb z => ?_⟩
      rw [List.mem_singleton.mp hb] at z
      exact c3 (z ▸ ha)
    · rcases List.mem_append.mp hd with z | z
      · exact hms d z
      · rw [List.mem_singleton.mp z]
        exact ⟨c1, c2⟩
  · rintro σ H2 ⟨g, hp2, z4, z5, lf, ms, rfl, F2, lm, ll, nl, hl, nm, hms⟩
    refine ⟨_, rfl, F, _, rfl, F2, trivial, fun of => ?_⟩
    have s3 : Go T (· = F) H2 (upd H2 F (.frz of (.lst (ms.map fun c => V.str (sg c))))) := Go.refl.set F2 trivial (.inl rfl)
    refine hq _ _ (ms.map sg) (g.set F2 trivial (.inr nwF)) (hp2.go s3 nF.symm) (fz_list.mpr ⟨F, of, _, rfl, upd_same, ?_⟩) (by rw [List.length_map, lm]) (List.Pairwise.map _ (fun a b n z => n (sg_inj z)) nm) fun n hn => ?_
    · have e : (ms.map fun c => V.str (sg c)) = (ms.map sg).map V.str := by rw [List.map_map]; rfl
      rw [e]
      exact fzl_str _
    · obtain ⟨c, hc, rfl⟩ := List.mem_map.mp hn
      exact sg_nm (hms c hc).1 (hms c hc).2
end
end K29
/-! text K29L10 -/
namespace K29
open PySem PySem.Spec PyProof.Rows L2 LamX
theorem pick_list {β : Type} : ∀ (ys : List V) (R : Nat → V → β → Prop), (∀ j y, ys[j]? = some y → ∃ b, R j y b) → ∃ l : List β, l.length = ys.length ∧ ∀ j y b, ys[j]? = some y → l[j]? = some b → R j y b
  | [], R, _ => ⟨[], rfl, fun j y b h => by simp at h⟩
  | y :: ys, R, h => by
    obtain ⟨b, hb⟩ := h 0 y rfl
    obtain ⟨l, h1, h2⟩ := pick_list ys (fun j => R (j + 1)) fun j y hj => h (j + 1) y (by rw [List.getElem?_cons_succ]; exact hj)
    refine ⟨b :: l, by simp [h1], fun j z c hz hc => ?_⟩
    cases j with
    | zero =>
      cases hz
      cases hc
      exact hb
    | succ j =>
      rw [List.getElem?_cons_succ] at hz hc
      exact h2 j z c hz hc
section
variable {P : Program} {w : World} {K : PySem.W.Frag} {mg : Str → Option Value} {base : Heap} {T : List (Addr × Str)}
/-! ### steps -/
def sp_l_steps (T : List (Addr × Str)) : Sp := fun vs H Q _ => ∃ (q : Addr) (v : V) (ms : List Str), vs = [.ref q, v] ∧ PoolAt H q ∧ FzD H v (.list (ms.map .str)) ∧ 1 ≤ ms.length ∧ ms.length ≤ 4 ∧
  ∀ v' H' (ss : List (Str × Str)), Go T (· = q) H H' → PoolAt H' q → FzD H' v' (.list (ss.map ssD)) → ss.length ≤ 8 → (∀ s ∈ ss, s.2 ∈ ms ∧ isDeed s.1) → Q v' H'
theorem b_l_steps (t : Tp K mg) : FB P w K mg base 2 (He.ga K "_law_steps") p_l_steps (sp_l_steps T) := by
  refine FB.of t.f_l_steps sc_l_steps (fun vs H Q E ⟨_, _, _, h, _⟩ => by rw [h]; rfl) (fun cdv A outer s H vs Q E hr h => ?_)
  obtain ⟨q, v, ms, rfl, hp, hv, m1, m4, hq⟩ := h
  have nd := sc_l_steps.nd
  refine ⟨_, pss_cons (ps_set (i := 2) nd rfl (Or.inl rfl) (pe_lst pa_nil))
    (pss_cons (ps_setLc (i := 3) (own := [("_law_k", 4)]) (g := gName 4) (tt := tYes) (te := tOp (rIxL K) (tVar 1) (tCall (sp_l_draw T) [] L2.E0 (tCons (tVar 0) (tCons (tCB (rLen K) (tCons (tVar 1) tNil)) tNil)))) rfl nd rfl rfl (sw_true rfl rfl rfl (by decide +kernel)) (pi_range1 (by rfl) t.b_range (pa_cons (pe_f (b_l_draw (T := T) t) t.g_law_draw hr (pa_cons (pv 0) (pa_cons pe_int pa_nil))) pa_nil)) (blkOk_by (own := [("_law_k", 4)]) (N := n_l_steps) (sc := defScope s_l_steps) (by decide +kernel))
        (fun _ _ _ _ _ => pg_name (i := 4) nd rfl (Or.inl rfl)) (fun _ _ _ _ _ => pts_nil) (fun _ _ _ _ _ => pe_ix ix_list (pv 1) (pe_f (b_l_draw (T := T) t) t.g_law_draw hr (pa_cons (pv 0) (pa_cons (pe_callB call_len (by rfl) t.b_len PySem.boot_len (pa_cons (pv 1) pa_nil)) pa_nil))) (fun _ _ => rfl)))
    (pss_cons (ps_for PassesOwn.never rfl (pi_list (pe_op op_catR (pv 1) (pv 3))) (pg_name (i := 5) nd rfl (Or.inl rfl))
      (pss_cons (ps_set (i := 6) nd rfl (Or.inl rfl) (pe_ix ix_list (pe_lst (pa_cons pe_str (pa_cons pe_str (pa_cons pe_str (pa_cons pe_str (pa_cons pe_str (pa_cons pe_str pa_nil))))))) (pe_f (b_l_draw (T := T) t) t.g_law_draw hr (pa_cons (pv 0) (pa_cons pe_int pa_nil))) (fun _ _ => rfl)))
      (pss_one (ps_expr (pe_bm PySem.F.plainAttrs_list PySem.F.slot_list_insert PySem.F.type_list_insert mt_insert (pv 2) (pa_cons (pe_f (b_l_draw (T := T) t) t.g_law_draw hr (pa_cons (pv 0) (pa_cons (pe_op op_add (pe_callB call_len (by rfl) t.b_len PySem.boot_len (pa_cons (pv 2) pa_nil)) pe_int) pa_nil))) (pa_cons (pe_tup (pa_cons (pv 6) (pa_cons (pv 5) pa_nil))) pa_nil)))))))
    (pss_one (ps_ret (pe_fz (pv 2)))))), ?_⟩
  have hpo := pool_lst hp
  obtain ⟨a0, o0, xs, rfl, h0, hxs⟩ := fz_list.mp hv
  refine ⟨by show 0 ≤ sizeLine; decide, fun F hF => ?_⟩
  have g1 : Go T No H (upd H F (.lst [])) := Go.refl.add hF
  have F1 : upd H F (.lst []) F = some (.lst []) := upd_same
  have nwF : Nw H F := Nw.of hF
  have nF : F ≠ q := by
    obtain ⟨o, e, n⟩ := hpo
    exact (nwF.ne e n).symm
  have hp1 := hp.go g1 id
  have h01 := g1.fz _ _ h0 trivial
  have hxs1 := hxs.go g1
  generalize upd H F (.lst []) = H1 at g1 F1 hp1 h01 hxs1
  -- more
  refine ⟨_, rfl, q, 5, rfl, hp1, by decide, by decide, fun n H2 hn g2 hp2 => ⟨(n : Nat), rfl, by omega, by omega, fun D hD => ?_⟩⟩
  have nDq : D ≠ q := by
    obtain ⟨o, e, n⟩ := pool_lst hp2
    exact ((Nw.of hD).ne e n).symm
  have h02 := g2.fz _ _ h01 trivial
  have F2 := g2.lst F1 nF
  refine lc_range (lo := 0) (n := n) (LcP T (· = q) (fun H => PoolAt H q) (SA fun _ v _ => ∃ m ∈ ms, v = .str m) H2 D) (LcP.zero hD (hp2.go (T := T) (M := No) (Go.refl.add hD) id)) (fun j Hc hj c => ?_) fun Hc c => ?_
  · have h0c := c.1.fz _ _ h02 trivial
    have hxc := (hxs1.go g2).go c.1
    refine ⟨rfl, iteT (B := LcP T (· = q) (fun H => PoolAt H q) (SA fun _ v _ => ∃ m ∈ ms, v = .str m) H2 D (j + 1) Hc) ?_⟩
    refine ⟨_, rfl, _, rfl, _, rfl, _, xs.length, rfl, .inl ⟨_, SqL_frz h0c, rfl⟩, q, _, rfl, c.2.1, by rw [hxs.1]; omega, by rw [hxs.1]; omega, fun z Hd hz gd pd => ?_⟩
    have hz2 : z < ms.length := by rw [hxs.1] at hz; omega
    obtain ⟨vz, hvz, fvz⟩ := hxs.at (List.getElem?_eq_getElem hz2)
    obtain rfl := fz_str.mp fvz
    refine ⟨_, _, (z : Nat), _, rfl, rfl, SqL_frz (gd.fz _ _ h0c trivial), atI_nat hvz, ?_⟩
    exact c.yes gd hD nDq (fun _ _ _ _ h _ => h) (sm (by omega)) ⟨_, rfl, _, List.getElem_mem hz2, rfl⟩ fun o => pd.go (T := T) (M := (· = D)) (by
        obtain ⟨_, _, rs, _, e, _⟩ := c
        exact Go.refl.set (gd.lst e nDq) trivial (.inl rfl)) nDq.symm
  obtain ⟨gc, pc, ys, ly, hz, hys⟩ := c.any
  have G3 := (g1.wk.trans g2).trans gc
  have Fc := gc.lst F2 nF
  have h03 := gc.fz _ _ h02 trivial
  have hxs3 : FzL Hc (fun s => .str s) xs ms := (hxs1.go g2).go gc
  -- for mark in marks + more
  refine ⟨_, rfl, _, rfl, a0, D, xs, ys, rfl, rfl, .inr ⟨_, h03⟩, .inl hz, by have := hxs.1; exact Nat.le_of_lt (sm (by omega)), fun p hp3 => ⟨p, rfl, ?_⟩⟩
  have s4 : Go T No Hc (upd Hc p (.lst (xs ++ ys))) := Go.refl.add hp3
  have p4 : upd Hc p (.lst (xs ++ ys)) p = some (.lst (xs ++ ys)) := upd_same
  have npq : p ≠ q := by
    obtain ⟨o, e, n⟩ := pool_lst pc
    exact ((Nw.of hp3).ne e n).symm
  have npF : p ≠ F := ((Nw.of hp3).ne Fc trivial).symm
  have F4 := s4.lst Fc id
  have pc4 := pc.go s4 id
  generalize upd Hc p (.lst (xs ++ ys)) = H4 at s4 p4 F4 pc4
  have G4 := G3.thn0 s4
  have hall : ∀ x ∈ xs ++ ys, ∃ m ∈ ms, x = V.str m := fun x hx => by
    rcases List.mem_append.mp hx with h | h
    · obtain ⟨j, hj, e⟩ := List.mem_iff_getElem.mp h
      obtain ⟨m, hm, fm⟩ := hxs.atL (by rw [List.getElem?_eq_getElem hj, e])
      exact ⟨m, List.mem_of_getElem? hm, fz_str.mp fm⟩
    · obtain ⟨j, hj, e⟩ := List.mem_iff_getElem.mp h
      exact hys j x (by rw [List.getElem?_eq_getElem hj, e])
  have hlen : (xs ++ ys).length ≤ 8 := by
    have := hxs.1
    rw [List.length_append]
    omega
  refine ⟨⟨_, .inl (.inl p4)⟩, ?_⟩
  refine for_list (K := K) (a := p) (xs := xs ++ ys) (fun i σ H5 => Go T (fun c => c = q ∨ c = F) H4 H5 ∧ PoolAt H5 q ∧ (∃ z5 z6 : Option V, σ = [some (.ref q), some (.ref a0), some (.ref F), some (.ref D), none, z5, z6]) ∧ ∃ (fs : List V) (ss : List (Str × Str)), H5 F = some (.lst fs) ∧ FzL H5 ssD fs ss ∧ ss.length = i ∧ ∀ s ∈ ss, s.2 ∈ ms ∧ isDeed s.1)
    ⟨Go.refl, pc4, ⟨none, none, rfl⟩, [], [], F4, Zp.nil, rfl, fun s h => (by cases h)⟩ (fun i σ H5 _ c => .inl (.inl (c.1.lst p4 fun z => z.elim npq npF))) ?_ ?_
  · rintro i x σ H5 hi ⟨g, hp5, ⟨z5, z6, rfl⟩, fs, ss, F5, ff, ls, hss⟩
    obtain ⟨mk, hmk, rfl⟩ := hall x (List.mem_of_getElem? hi)
    have il : i < (xs ++ ys).length := (List.getElem?_eq_some_iff.mp hi).1
    refine ⟨by show 6 ≤ sizeLine; decide, fun E hE => ?_⟩
    have s6 : Go T No H5 (upd H5 E (.lst [.str "read", .str "read", .str "read", .str "write", .str "write", .str "ask"])) := Go.refl.add hE
    have E6 : upd H5 E (.lst [.str "read", .str "read", .str "read", .str "write", .str "write", .str "ask"]) E = some (.lst [.str "read", .str "read", .str "read", .str "write", .str "write", .str "ask"]) := upd_same
    have nE : E ≠ q := by
      obtain ⟨o, e, n⟩ := pool_lst hp5
      exact ((Nw.of hE).ne e n).symm
    generalize upd H5 E (.lst [.str "read", .str "read", .str "read", .str "write", .str "write", .str "ask"]) = H6 at s6 E6
    refine ⟨_, rfl, q, 6, rfl, hp5.go s6 id, by decide, by decide, fun y H7 hy g7 hp7 => ?_⟩
    have pick : ∃ dd : Str, ([V.str "read", .str "read", .str "read", .str "write", .str "write", .str "ask"])[y]? = some (.str dd) ∧ isDeed dd := by
      have hy : y < 6 := by omega
      match y, hy with
      | 0, _ => exact ⟨_, rfl, .inl rfl⟩
      | 1, _ => exact ⟨_, rfl, .inl rfl⟩
      | 2, _ => exact ⟨_, rfl, .inl rfl⟩
      | 3, _ => exact ⟨_, rfl, .inr (.inl rfl)⟩
      | 4, _ => exact ⟨_, rfl, .inr (.inl rfl)⟩
      | 5, _ => exact ⟨_, rfl, .inr (.inr rfl)⟩
    obtain ⟨dd, e1, e2⟩ := pick
    have F7 := g7.lst (s6.lst F5 id) nF
    have ff7 : FzL H7 ssD fs ss := (ff.go s6).go g7
    refine ⟨_, _, (y : Nat), _, rfl, rfl, .inl (.inl (g7.lst E6 nE)), atI_nat e1, ?_⟩
    have lf : fs.length = ss.length := ff.1
    refine ⟨_, rfl, .inl ⟨rfl, _, .inl (.inl F7)⟩, _, rfl, _, rfl, _, fs.length, rfl, .inl ⟨_, .inl (.inl F7), rfl⟩, _, _, rfl, rfl, q, _, rfl, hp7, by omega, by omega, fun z H8 hz8 g8 hp8 => ?_⟩
    have F8 := g8.lst F7 nF
    refine ⟨_, rfl, _, rfl, by show 2 ≤ sizeLine; decide, fun r hr2 => ?_⟩
    have s9 : Go T No H8 (upd H8 r (.tup [.str dd, .str mk])) := Go.refl.add hr2
    have r9 : upd H8 r (.tup [.str dd, .str mk]) r = some (.tup [.str dd, .str mk]) := upd_same
    generalize upd H8 r (.tup [.str dd, .str mk]) = H9 at s9 r9
    have F9 := s9.lst F8 id
    have fr : FzD H9 (.ref r) (ssD (dd, mk)) := fz_t2.mpr ⟨r, _, _, rfl, r9, .str _, .str _⟩
    have ff9 : FzL H9 ssD fs ss := (ff7.go g8).go s9
    refine ⟨F, fs, (z : Nat), .ref r, rfl, rfl, F9, by rw [lf]; exact sm (by omega), by omega, by omega, ?_⟩
    have s10 : Go T (· = F) H9 (upd H9 F (.lst (fs.take z ++ [.ref r] ++ fs.drop z))) := Go.refl.set F9 trivial (.inl rfl)
    have G9 : Go T (fun c => c = q ∨ c = F) H4 H9 := ((g.thn0 s6).thn g7 fun c z => .inl (.inl z)).thn g8 (fun c z => .inl (.inl z)) |>.thn0 s9
    refine ⟨G9.set F9 trivial (.inl (.inr rfl)), (hp8.go s9 id).go s10 nF.symm, ⟨_, _, rfl⟩, _, ss.take z ++ [(dd, mk)] ++ ss.drop z, upd_same, ?_, ?_, fun s hs => ?_⟩
    · exact (Zp.app (Zp.app (ff9.take z) (Zp.cons fr Zp.nil)) (ff9.drop z)) |>.mono fun x y h => h.go s10
    · simp only [List.length_append, List.length_take, List.length_drop, List.length_cons, List.length_nil]
      omega
    · rcases List.mem_append.mp hs with h | h
      · rcases List.mem_append.mp h with h | h
        · exact hss s (List.mem_of_mem_take h)
        · rw [List.mem_singleton.mp h]
          exact ⟨hmk, e2⟩
      · exact hss s (List.mem_of_mem_drop h)
  · rintro σ H5 ⟨g, hp5, ⟨z5, z6, rfl⟩, fs, ss, F5, ff, ls, hss⟩
    refine ⟨_, rfl, F, _, rfl, F5, trivial, fun of => ?_⟩
    have s6 : Go T (· = F) H5 (upd H5 F (.frz of (.lst fs))) := Go.refl.set F5 trivial (.inl rfl)
    have GE : Go T (· = q) H H5 := G4.thn g fun c z => z.elim .inl fun z => .inr (by rw [z]; exact nwF)
    exact hq _ _ ss (GE.set F5 trivial (.inr nwF)) (hp5.go s6 nF.symm) (fz_list.mpr ⟨F, of, fs, rfl, upd_same, ff.go s6⟩) (by omega) hss
end
end K29
/-! text K29L11 -/
namespace K29
open PySem PySem.Spec PyProof.Rows L2 LamX
theorem take_len {α : Type} {l : List α} {k : Nat} (h : k ≤ l.length) : (l.take k).length = k := by rw [List.length_take]; omega
theorem mem_pick {α : Type} {l : List α} {y : α} (h : y ∈ l) : ∃ i : Nat, l[i]? = some y := by
  obtain ⟨i, hi, e⟩ := List.mem_iff_getElem.mp h
  exact ⟨i, by rw [List.getElem?_eq_getElem hi, e]⟩
section
variable {P : Program} {w : World} {K : PySem.W.Frag} {mg : Str → Option Value} {base : Heap} {T : List (Addr × Str)}
/-! ### book -/
/-- a dealing, its kinds being these names -/
structure DlN (ns : List Str) (d : Dl) : Prop where
  nm : isNm d.name
  l0 : 1 ≤ d.letters.length
  l4 : d.letters.length ≤ 4
  s8 : d.steps.length ≤ 8
  ln : (d.letters.map (·.1)).Nodup
  l1 : ∀ l ∈ d.letters, isNm l.1
  lk : ∀ l ∈ d.letters, l.2 ∈ ns
  sl : ∀ s ∈ d.steps, s.2 ∈ d.letters.map (·.1)
  sd : ∀ s ∈ d.steps, isDeed s.1
def sp_l_book (T : List (Addr × Str)) : Sp := fun vs H Q _ => ∃ (q : Addr), vs = [.ref q, .int 2, .int 3] ∧ PoolAt H q ∧ ∀ v H' (b : Bk), Go T (· = q) H H' → FzD H' v (bkD b) → WfB b → Q v H'
theorem b_l_book (t : Tp K mg) : FB P w K mg base 3 (He.ga K "_law_book") p_l_book (sp_l_book T) := by
  refine FB.of t.f_l_book sc_l_book (fun vs H Q E ⟨_, h, _⟩ => by rw [h]; rfl) (fun cdv A outer s H vs Q E hr h => ?_)
  obtain ⟨q, rfl, hp, hq⟩ := h
  have nd := sc_l_book.nd
  refine ⟨_, pss_cons (ps_set (i := 3) nd rfl (Or.inr rfl) (pe_f (b_l_names (T := T) t) t.g_law_names hr (pa_cons (pv 0) (pa_cons (pe_op op_add pe_int (pe_f (b_l_draw (T := T) t) t.g_law_draw hr (pa_cons (pv 0) (pa_cons (pv 1) pa_nil)))) pa_nil))))
    (pss_cons (ps_setLc (i := 4) (own := [("_law_name", 5)]) (g := gName 5) (tt := tYes) (te := tTup (tCons (tVar 5) (tCons (tOp (rI0 fun i j => .bl (decide (i > j))) (tCall (sp_l_draw T) [] L2.E0 (tCons (tVar 0) (tCons (tC (.int 3)) tNil))) (tC (.int 0))) tNil))) rfl nd rfl rfl (sw_true rfl rfl rfl (by decide +kernel)) (pi_list (pv 3)) (blkOk_by (own := [("_law_name", 5)]) (N := n_l_book) (sc := defScope s_l_book) (by decide +kernel))
        (fun _ _ _ _ _ => pg_name (i := 5) nd rfl (Or.inl rfl)) (fun _ _ _ _ _ => pts_nil) (fun _ _ _ _ _ => pe_tup (pa_cons (pv 5) (pa_cons (pe_cmpR op_gt (pe_f (b_l_draw (T := T) t) t.g_law_draw hr (pa_cons (pv 0) (pa_cons pe_int pa_nil))) pe_int (nomark _)) pa_nil))))
    (pss_fz 4 (pss_cons (ps_set (i := 6) nd rfl (Or.inl rfl) (pe_lst pa_nil))
    (pss_cons (ps_for PassesOwn.never rfl (pi_list (pe_f (b_l_names (T := T) t) t.g_law_names hr (pa_cons (pv 0) (pa_cons (pe_op op_add pe_int (pe_f (b_l_draw (T := T) t) t.g_law_draw hr (pa_cons (pv 0) (pa_cons (pv 2) pa_nil)))) pa_nil)))) (pg_name (i := 5) nd rfl (Or.inl rfl))
      (pss_cons (ps_set (i := 7) nd rfl (Or.inl rfl) (pe_f (b_l_marks (T := T) t) t.g_law_marks hr (pa_cons (pv 0) (pa_cons (pe_op op_add pe_int (pe_f (b_l_draw (T := T) t) t.g_law_draw hr (pa_cons (pv 0) (pa_cons pe_int pa_nil)))) pa_nil))))
      (pss_cons (ps_setLc (i := 8) (own := [("_law_mark", 9)]) (g := gName 9) (tt := tYes) (te := tTup (tCons (tVar 9) (tCons (tOp (rIxL K) (tVar 3) (tCall (sp_l_draw T) [] L2.E0 (tCons (tVar 0) (tCons (tCB (rLen K) (tCons (tVar 3) tNil)) tNil)))) tNil))) rfl nd rfl rfl (sw_true rfl rfl rfl (by decide +kernel)) (pi_list (pv 7)) (blkOk_by (own := [("_law_mark", 9)]) (N := n_l_book) (sc := defScope s_l_book) (by decide +kernel))
        (fun _ _ _ _ _ => pg_name (i := 9) nd rfl (Or.inl rfl)) (fun _ _ _ _ _ => pts_nil) (fun _ _ _ _ _ => pe_tup (pa_cons (pv 9) (pa_cons (pe_ix ix_list (pv 3) (pe_f (b_l_draw (T := T) t) t.g_law_draw hr (pa_cons (pv 0) (pa_cons (pe_callB call_len (by rfl) t.b_len PySem.boot_len (pa_cons (pv 3) pa_nil)) pa_nil))) (fun _ _ => rfl)) pa_nil))))
      (pss_fz 8 (pss_one (ps_expr (pe_bm PySem.F.plainAttrs_list PySem.F.slot_list_append PySem.F.type_list_append mt_append (pv 6) (pa_cons (pe_tup (pa_cons (pv 5) (pa_cons (pv 8) (pa_cons (pe_f (b_l_steps (T := T) t) t.g_law_steps hr (pa_cons (pv 0) (pa_cons (pv 7) pa_nil))) pa_nil)))) pa_nil))))))))
    (pss_one (ps_ret (pe_tup (pa_cons (pv 4) (pa_cons (pe_fz (pv 6)) pa_nil))))))))), ?_⟩
  have hpo := pool_lst hp
  have one : ∀ (x : Nat), V.int ((1 : Int) + (x : Int)) = V.int ((1 + x : Nat) : Int) := fun x => by congr 1
  -- names
  refine ⟨_, rfl, _, rfl, _, rfl, q, 2, rfl, hp, by decide, by decide, fun x H1 hx g1 p1 => ⟨_, _, rfl, rfl, q, 1 + x, by show [V.ref q, V.int ((1 : Int) + (x : Int))] = _; rw [one], p1, by omega, fun nv H2 ns g2 p2 fn ln nn hn => ?_⟩⟩
  have G2 := g1.trans g2
  obtain ⟨a3, o3, xs3, rfl, h33, hxs3⟩ := fz_list.mp fn
  have lx3 : xs3.length = ns.length := hxs3.1
  -- kinds
  refine ⟨_, rfl, a3, rfl, ⟨_, SqL_frz h33⟩, fun D hD => ?_⟩
  have nDq : D ≠ q := by
    obtain ⟨o, e, n⟩ := pool_lst p2
    exact ((Nw.of hD).ne e n).symm
  refine lc_list (K := K) (a := a3) (xs := xs3) (LcP T (· = q) (fun H => PoolAt H q) (SA fun j v H => ∃ (nm : Str) (bl : Bool), ns[j]? = some nm ∧ FzD H v (knD (nm, bl))) H2 D) (LcP.zero hD (p2.go (T := T) (M := No) (Go.refl.add hD) id)) (fun j Hc _ c => SqL_frz (c.1.fz _ _ h33 trivial)) (fun j y Hc hj c => ?_) fun H3 c => ?_
  · obtain ⟨nm, hnm, fnm⟩ := hxs3.atL hj
    obtain rfl := fz_str.mp fnm
    have il : j < ns.length := (List.getElem?_eq_some_iff.mp hnm).1
    refine ⟨rfl, iteT (B := LcP T (· = q) (fun H => PoolAt H q) (SA fun j v H => ∃ (nm : Str) (bl : Bool), ns[j]? = some nm ∧ FzD H v (knD (nm, bl))) H2 D (j + 1) Hc) ?_⟩
    refine ⟨_, rfl, _, rfl, q, 3, rfl, c.2.1, by decide, by decide, fun z Hd hz gd pd => ⟨_, _, rfl, rfl, by show 2 ≤ sizeLine; decide, fun r hr2 => ?_⟩⟩
    have GD : Go T (· = q) Hc (upd Hd r (.tup [.str nm, .bl (decide ((z : Int) > 0))])) := gd.add hr2
    have pr := pd.go (T := T) (M := No) (Go.refl.add (o := .tup [.str nm, .bl (decide ((z : Int) > 0))]) hr2) id
    refine c.yes GD hD nDq (fun _ _ _ _ ⟨y, e, nm, bl, h1, h2⟩ k => ⟨y, e, nm, bl, h1, FzD.mono k _ _ h2⟩) (sm (by omega)) ⟨_, rfl, nm, _, hnm, fz_t2.mpr ⟨r, _, _, rfl, upd_same, .str _, .bl _⟩⟩ fun o => pr.go (T := T) (M := (· = D)) (by
        obtain ⟨_, _, rs, _, e, _⟩ := c
        exact Go.refl.set (GD.lst e nDq) trivial (.inl rfl)) nDq.symm
  obtain ⟨gc, pc, ys, ly, hz, hys⟩ := c.any
  obtain ⟨ks, lks, hks⟩ := pick_list ys (fun j v (k : Str × Bool) => ns[j]? = some k.1 ∧ FzD H3 v (knD k)) fun j y hy => by
    obtain ⟨nm, bl, h1, h2⟩ := hys j y hy
    exact ⟨(nm, bl), h1, h2⟩
  have fks : FzL H3 knD ys ks := ⟨lks.symm, fun j y k hy hk => (hks j y k hy hk).2⟩
  have eks : ks.map (·.1) = ns := by
    refine List.ext_getElem? fun j => ?_
    rw [List.getElem?_map]
    cases e : ks[j]? with
    | none =>
      have h1 := List.getElem?_eq_none_iff.mp e
      rw [List.getElem?_eq_none (by omega)]
      rfl
    | some k =>
      have h1 : j < ks.length := (List.getElem?_eq_some_iff.mp e).1
      have h2 : j < ys.length := by omega
      rw [(hks j _ k (List.getElem?_eq_getElem h2) e).1]
      rfl
  have G3 := G2.trans gc
  refine ⟨D, _, rfl, hz, trivial, fun oD => ?_⟩
  have nwD : Nw H D := G2.nw (Nw.of hD)
  have s4 : Go T (· = D) H3 (upd H3 D (.frz oD (.lst ys))) := Go.refl.set hz trivial (.inl rfl)
  have G4 : Go T (· = q) H (upd H3 D (.frz oD (.lst ys))) := G3.set hz trivial (.inr nwD)
  have D4 : upd H3 D (.frz oD (.lst ys)) D = some (.frz oD (.lst ys)) := upd_same
  have p4 := pc.go s4 nDq.symm
  have fks4 := fks.go s4
  have h34 := s4.fz _ _ (gc.fz _ _ h33 trivial) trivial
  have hxs4 : FzL _ (fun s => .str s) xs3 ns := (hxs3.go gc).go s4
  generalize upd H3 D (.frz oD (.lst ys)) = H4 at G4 D4 p4 fks4 h34 hxs4
  -- dealings
  refine ⟨by show 0 ≤ sizeLine; decide, fun F hF => ?_⟩
  have g5 : Go T (· = q) H (upd H4 F (.lst [])) := G4.add hF
  have s5 : Go T No H4 (upd H4 F (.lst [])) := Go.refl.add hF
  have F5 : upd H4 F (.lst []) F = some (.lst []) := upd_same
  have nwF : Nw H F := G4.nw (Nw.of hF)
  have nF : F ≠ q := by
    obtain ⟨o, e, n⟩ := hpo
    exact (nwF.ne e n).symm
  have p5 := p4.go s5 id
  generalize upd H4 F (.lst []) = H5 at g5 s5 F5 p5
  refine ⟨_, rfl, _, rfl, _, rfl, q, 3, rfl, p5, by decide, by decide, fun x2 H6 hx2 g6 p6 => ⟨_, _, rfl, rfl, q, 1 + x2, by show [V.ref q, V.int ((1 : Int) + (x2 : Int))] = _; rw [one], p6, by omega, fun nv2 H7 ns2 g7 p7 fn2 ln2 nn2 hn2 => ?_⟩⟩
  obtain ⟨a7, o7, xs7, rfl, h77, hxs7⟩ := fz_list.mp fn2
  have s7 : Go T (· = q) H5 H7 := g6.trans g7
  have F7 := s7.lst F5 nF
  have G7 := g5.trans s7
  refine ⟨a7, rfl, ⟨_, SqL_frz h77⟩, ?_⟩
  refine for_list (K := K) (a := a7) (xs := xs7) (fun i σ H8 => Go T (fun c => c = q ∨ c = F) H7 H8 ∧ PoolAt H8 q ∧ (∃ z5 z7 z8 : Option V, σ = [some (.ref q), some (.int 2), some (.int 3), some (.ref a3), some (.ref D), z5, some (.ref F), z7, z8, none]) ∧ ∃ (fs : List V) (ds : List Dl), H8 F = some (.lst fs) ∧ FzL H8 dlD fs ds ∧ ds.map (·.name) = ns2.take i ∧ ∀ d ∈ ds, DlN ns d)
    ⟨Go.refl, p7, ⟨none, none, none, rfl⟩, [], [], F7, Zp.nil, rfl, fun d h => (by cases h)⟩ (fun i σ H8 _ c => SqL_frz (c.1.fz _ _ h77 trivial)) ?_ ?_
  · rintro i y σ H8 hi ⟨g, p8, ⟨z5, z7, z8, rfl⟩, fs, ds, F8, ff, hds, hok⟩
    obtain ⟨nm, hnm, fnm⟩ := hxs7.atL hi
    obtain rfl := fz_str.mp fnm
    have il : i < ns2.length := (List.getElem?_eq_some_iff.mp hnm).1
    have lds : ds.length = i := by
      have := congrArg List.length hds
      rw [List.length_map, List.length_take] at this
      omega
    have h38 := g.fz _ _ (s7.fz _ _ (s5.fz _ _ h34 trivial) trivial) trivial
    have hxs8 : FzL H8 (fun s => .str s) xs3 ns := ((hxs4.go s5).go s7).go g
    -- marks
    refine ⟨_, rfl, _, rfl, q, 4, rfl, p8, by decide, by decide, fun x3 H9 hx3 g9 p9 => ⟨_, _, rfl, rfl, q, 1 + x3, by show [V.ref q, V.int ((1 : Int) + (x3 : Int))] = _; rw [one], p9, by omega, fun mv H10 ms g10 p10 fm lm nm2 hms => ?_⟩⟩
    obtain ⟨a8, o8, xs8, rfl, h88, hxsm⟩ := fz_list.mp fm
    have s10 : Go T (· = q) H8 H10 := g9.trans g10
    have h310 := s10.fz _ _ h38 trivial
    have hxs10 : FzL H10 (fun s => .str s) xs3 ns := hxs8.go s10
    -- letters
    refine ⟨_, rfl, a8, rfl, ⟨_, SqL_frz h88⟩, fun L hL => ?_⟩
    have nLq : L ≠ q := by
      obtain ⟨o, e, n⟩ := pool_lst p10
      exact ((Nw.of hL).ne e n).symm
    refine lc_list (K := K) (a := a8) (xs := xs8) (LcP T (· = q) (fun H => PoolAt H q) (SA fun j v H => ∃ (mk k : Str), ms[j]? = some mk ∧ k ∈ ns ∧ FzD H v (ssD (mk, k))) H10 L) (LcP.zero hL (p10.go (T := T) (M := No) (Go.refl.add hL) id)) (fun j Hc _ c => SqL_frz (c.1.fz _ _ h88 trivial)) (fun j y Hc hj c => ?_) fun H11 c => ?_
    · obtain ⟨mk, hmk, fmk⟩ := hxsm.atL hj
      obtain rfl := fz_str.mp fmk
      have jl : j < ms.length := (List.getElem?_eq_some_iff.mp hmk).1
      have h3c := c.1.fz _ _ h310 trivial
      refine ⟨rfl, iteT (B := LcP T (· = q) (fun H => PoolAt H q) (SA fun j v H => ∃ (mk k : Str), ms[j]? = some mk ∧ k ∈ ns ∧ FzD H v (ssD (mk, k))) H10 L (j + 1) Hc) ?_⟩
      refine ⟨_, rfl, _, rfl, _, rfl, _, rfl, _, xs3.length, rfl, .inl ⟨_, SqL_frz h3c, rfl⟩, q, _, rfl, c.2.1, by omega, by omega, fun z Hd hz gd pd => ?_⟩
      have zl : z < ns.length := by omega
      obtain ⟨vz, hvz, fvz⟩ := hxs3.at (List.getElem?_eq_getElem zl)
      obtain rfl := fz_str.mp fvz
      refine ⟨_, _, (z : Nat), _, rfl, rfl, SqL_frz (gd.fz _ _ h3c trivial), atI_nat hvz, by show 2 ≤ sizeLine; decide, fun r hr2 => ?_⟩
      have GD : Go T (· = q) Hc (upd Hd r (.tup [.str mk, .str ns[z]])) := gd.add hr2
      have pr := pd.go (T := T) (M := No) (Go.refl.add (o := .tup [.str mk, .str ns[z]]) hr2) id
      refine c.yes GD hL nLq (fun _ _ _ _ ⟨y, e, mk, k, h1, h2, h3⟩ kk => ⟨y, e, mk, k, h1, h2, FzD.mono kk _ _ h3⟩) (sm (by omega)) ⟨_, rfl, mk, ns[z], hmk, List.getElem_mem zl, fz_t2.mpr ⟨r, _, _, rfl, upd_same, .str _, .str _⟩⟩ fun o => pr.go (T := T) (M := (· = L)) (by
          obtain ⟨_, _, rs, _, e, _⟩ := c
          exact Go.refl.set (GD.lst e nLq) trivial (.inl rfl)) nLq.symm
    obtain ⟨gL, pL, zs, lz, hzL, hzs⟩ := c.any
    obtain ⟨ls, lls, hls⟩ := pick_list zs (fun j v (l : Str × Str) => ms[j]? = some l.1 ∧ l.2 ∈ ns ∧ FzD H11 v (ssD l)) fun j y hy => by
      obtain ⟨mk, k, h1, h2, h3⟩ := hzs j y hy
      exact ⟨(mk, k), h1, h2, h3⟩
    have fls : FzL H11 ssD zs ls := ⟨lls.symm, fun j y k hy hk => (hls j y k hy hk).2.2⟩
    have lm8 : xs8.length = ms.length := hxsm.1
    have els : ls.map (·.1) = ms := by
      refine List.ext_getElem? fun j => ?_
      rw [List.getElem?_map]
      cases e : ls[j]? with
      | none =>
        have h1 := List.getElem?_eq_none_iff.mp e
        rw [List.getElem?_eq_none (by omega)]
        rfl
      | some l =>
        have h1 : j < ls.length := (List.getElem?_eq_some_iff.mp e).1
        have h2 : j < zs.length := by omega
        rw [(hls j _ l (List.getElem?_eq_getElem h2) e).1]
        rfl
    have lkk : ∀ l ∈ ls, l.2 ∈ ns := fun l hl => by
      obtain ⟨j, hj⟩ := mem_pick hl
      have h1 : j < ls.length := (List.getElem?_eq_some_iff.mp hj).1
      have h2 : j < zs.length := by omega
      exact (hls j _ l (List.getElem?_eq_getElem h2) hj).2.1
    have s11 : Go T (· = q) H8 H11 := s10.trans gL
    refine ⟨L, _, rfl, hzL, trivial, fun oL => ?_⟩
    have nwL : Nw H8 L := s10.nw (Nw.of hL)
    have nLF : L ≠ F := (nwL.ne F8 trivial).symm
    have s12 : Go T (· = L) H11 (upd H11 L (.frz oL (.lst zs))) := Go.refl.set hzL trivial (.inl rfl)
    have G12 : Go T (· = q) H8 (upd H11 L (.frz oL (.lst zs))) := s11.set hzL trivial (.inr nwL)
    have L12 : upd H11 L (.frz oL (.lst zs)) L = some (.frz oL (.lst zs)) := upd_same
    have p12 := pL.go s12 nLq.symm
    have fls12 := fls.go s12
    have fm12 : FzD _ (.ref a8) (.list (ms.map .str)) := (fm.go gL).go s12
    generalize upd H11 L (.frz oL (.lst zs)) = H12 at s12 G12 L12 p12 fls12 fm12
    have F12 := G12.lst F8 nF
    -- dealings.append((name, letters, steps))
    refine ⟨_, rfl, .inl ⟨rfl, _, .inl (.inl F12)⟩, _, rfl, _, rfl, _, rfl, _, rfl, q, .ref a8, ms, rfl, p12, fm12, by omega, by omega, fun sv H13 ss g13 p13 fss lss hss => ?_⟩
    refine ⟨by show 3 ≤ sizeLine; decide, fun r hr2 => ?_⟩
    have s14 : Go T No H13 (upd H13 r (.tup [.str nm, .ref L, sv])) := Go.refl.add hr2
    have r14 : upd H13 r (.tup [.str nm, .ref L, sv]) r = some (.tup [.str nm, .ref L, sv]) := upd_same
    generalize upd H13 r (.tup [.str nm, .ref L, sv]) = H14 at s14 r14
    have G14 : Go T (· = q) H8 H14 := (G12.trans g13).thn0 s14
    have F14 := G14.lst F8 nF
    have fr : FzD H14 (.ref r) (dlD ⟨nm, ls, ss⟩) := fz_t3.mpr ⟨r, _, _, _, rfl, r14, .str _, fz_list.mpr ⟨L, oL, zs, rfl, s14.fz _ _ (g13.fz _ _ L12 trivial) trivial, (fls12.go g13).go s14⟩, fss.go s14⟩
    have ff14 : FzL H14 dlD fs ds := ff.go G14
    refine ⟨F, fs, .ref r, rfl, rfl, F14, by rw [ff.1]; exact sm (by omega), ?_⟩
    have s15 : Go T (· = F) H14 (upd H14 F (.lst (fs ++ [.ref r]))) := Go.refl.set F14 trivial (.inl rfl)
    have G14' : Go T (fun c => c = q ∨ c = F) H7 H14 := g.thn G14 fun c z => .inl (.inl z)
    refine ⟨G14'.set F14 trivial (.inl (.inr rfl)), (p13.go s14 id).go s15 nF.symm, ⟨_, _, _, rfl⟩, _, ds ++ [⟨nm, ls, ss⟩], upd_same, Zp.snoc (ff14.go s15) (fr.go s15), ?_, fun d hd => ?_⟩
    · rw [take_snoc hnm, List.map_append, hds]
      rfl
    · rcases List.mem_append.mp hd with h | h
      · exact hok d h
      · rw [List.mem_singleton.mp h]
        have l1 : ls.length = ms.length := by rw [← els, List.length_map]
        refine ⟨hn2 nm (List.mem_of_getElem? hnm), by show 1 ≤ ls.length; omega, by show ls.length ≤ 4; omega, lss, by show (ls.map (·.1)).Nodup; rw [els]; exact nm2, fun l hl => ?_, lkk, fun s hs => ?_, fun s hs => (hss s hs).2⟩
        · exact hms l.1 (els ▸ List.mem_map.mpr ⟨l, hl, rfl⟩)
        · show s.2 ∈ ls.map (·.1)
          rw [els]
          exact (hss s hs).1
  · rintro σ H8 ⟨g, p8, ⟨z5, z7, z8, rfl⟩, fs, ds, F8, ff, hds, hok⟩
    rw [hxs7.1, List.take_length] at hds
    have lds : ds.length = ns2.length := by
      have := congrArg List.length hds
      rw [List.length_map] at this
      exact this
    have D8 := g.fz _ _ (s7.fz _ _ (s5.fz _ _ D4 trivial) trivial) trivial
    have fk8 : FzL H8 knD ys ks := ((fks4.go s5).go s7).go g
    refine ⟨_, rfl, _, rfl, F, _, rfl, F8, trivial, fun of => ⟨by show 2 ≤ sizeLine; decide, fun r hr2 => ?_⟩⟩
    have s9 : Go T (· = F) H8 (upd H8 F (.frz of (.lst fs))) := Go.refl.set F8 trivial (.inl rfl)
    have F9 : upd H8 F (.frz of (.lst fs)) F = some (.frz of (.lst fs)) := upd_same
    have G8 : Go T (· = q) H H8 := G7.thn g fun c z => z.elim .inl fun z => .inr (by rw [z]; exact nwF)
    have G9 : Go T (· = q) H (upd H8 F (.frz of (.lst fs))) := G8.set F8 trivial (.inr nwF)
    generalize upd H8 F (.frz of (.lst fs)) = H9 at s9 F9 G9 hr2
    have s10 : Go T No H9 (upd H9 r (.tup [.ref D, .ref F])) := Go.refl.add hr2
    refine hq _ _ ⟨ks, ds⟩ (G9.thn0 s10) (fz_t2.mpr ⟨r, _, _, rfl, upd_same, fz_list.mpr ⟨D, oD, ys, rfl, s10.fz _ _ (s9.fz _ _ D8 trivial) trivial, (fk8.go s9).go s10⟩, fz_list.mpr ⟨F, of, fs, rfl, s10.fz _ _ F9 trivial, (ff.go s9).go s10⟩⟩) ⟨?_, ?_, ?_, ?_, ?_, ?_, ?_⟩
    · show ks.length ≤ 2
      omega
    · show (ks.map (·.1)).Nodup
      rw [eks]
      exact nn
    · intro k hk
      exact hn k.1 (eks ▸ List.mem_map.mpr ⟨k, hk, rfl⟩)
    · show 1 ≤ ds.length
      omega
    · show ds.length ≤ 3
      omega
    · show (ds.map (·.name)).Nodup
      rw [hds]
      exact nn2
    · intro d hd
      have h := hok d hd
      exact ⟨h.nm, h.l0, h.l4, h.s8, h.ln, h.l1, fun l hl => by show l.2 ∈ ks.map (·.1); rw [eks]; exact h.lk l hl, h.sl, h.sd⟩
end
end K29
/-! text K29Own -/
namespace K29
open PySem PySem.Spec PyProof.Rows L2
/-! ### len(o), str(o) of an instance with its own defs -/
section
variable {X : Cx} {pins : List (Addr × Obj)} {σ : L2.St} {H : Hp} {s : Shared} {k : Nat} {f C : Addr} {fd : FuncData} {ps : List Str} {sp : Sp}
theorem run_atK {A : Around} {Q : VK} {us : List Value} {vs : List V} {E : Value → Shared → Prop} (F : FnOk X.prog X.w X.K X.mg X.base L2.CX0 k f fd ps sp) (hr : Room k A) (e0 : Env0 X.prog X.w X.K X.mg X.base A X.stack s H) (hb : Binds X.K fd ps [])
    (I : Inv X pins σ H s) (r : Vals vs us) (h : sp vs H Q L2.E0) : wpAny (model X.prog X.w) A (call (.ref f) us) (EP X pins σ Q) E s := by
  have hl : us.length = ps.length := by rw [← r.length]; exact F.len _ _ _ _ h
  have b := hb s us I.kIn (by rw [List.append_nil]; exact hl)
  rw [List.append_nil] at b
  refine wpAny_call (codeAny_mono (F.run A X.stack s H ⟨us, []⟩ us vs Q _ hr e0 b r h) fun r s' hq => ?_)
  cases r with
  | error e => exact False.elim hq
  | ok fl =>
    cases fl with
    | ret u => exact I.after hq
    | next => exact False.elim hq
    | brk => exact False.elim hq
    | cont => exact False.elim hq
def rOwnLen (C : Addr) (sp : Sp) : List V → Hp → VK → Prop := fun xs H Q => ∃ a dx fs, xs = [.ref a] ∧ H a = some (.ins C dx fs) ∧ sp [.ref a] H (fun v H' => ∃ n : Nat, v = .int n ∧ n < 2 ^ 63 ∧ Q v H') L2.E0
theorem call_lenOwn (hs : PySem.W.findIn X.K (.ref C) "__len__" = some (some (.ref f))) (hf : PySem.W.isFn X.K (.ref f) = true) (F : FnOk X.prog X.w X.K X.mg X.base L2.CX0 k f fd ps sp) (hr : Room (k + 1) X.A) (hb : Binds X.K fd ps []) : CallR X (.builtin "len") (rOwnLen C sp) := by
  intro pins s σ H xs us Q I r h
  obtain ⟨a, dx, fs, rfl, ha, q⟩ := h
  cases r with
  | cons rx r0 =>
    cases r0
    cases rx
    obtain ⟨mA, O, _⟩ := ins_get I.hok ha
    obtain ⟨od, J, _⟩ := O.look
    obtain ⟨m, hF⟩ := I.fr
    refine PySem.W.len_K hF I.ok.mod.kin J hs hf (wpAny_mono (run_atK (A := X.A.in1) F hr.in1 I.env0.in1 hb I (vs := [.ref a]) (.cons rfl .nil) q) (fun u s' z => ?_) fun _ _ x => x)
    obtain ⟨v, H', I', rv, n, rfl, hn, hq⟩ := z
    obtain ⟨t, rfl⟩ := rv
    exact ⟨⟨Int.natCast_nonneg n, by exact_mod_cast hn⟩, .int n, H', I'.tok _, ⟨_, rfl⟩, hq⟩
def rOwnStr (C : Addr) (sp : Sp) : List V → Hp → VK → Prop := fun xs H Q => ∃ a dx fs, xs = [.ref a] ∧ H a = some (.ins C dx fs) ∧ sp [.ref a] H (fun v H' => ∃ z, v = .str z ∧ Q v H') L2.E0
theorem call_strOwn (hs : PySem.W.findIn X.K (.ref C) "__str__" = some (some (.ref f))) (hf : PySem.W.isFn X.K (.ref f) = true) (F : FnOk X.prog X.w X.K X.mg X.base L2.CX0 k f fd ps sp) (hr : Room (k + 2) X.A) (hb : Binds X.K fd ps []) : CallR X (.type "str") (rOwnStr C sp) := by
  intro pins s σ H xs us Q I r h
  obtain ⟨a, dx, fs, rfl, ha, q⟩ := h
  cases r with
  | cons rx r0 =>
    cases r0
    cases rx
    obtain ⟨mA, O, _⟩ := ins_get I.hok ha
    obtain ⟨od, J, _⟩ := O.look
    have hr1 : Room (k + 1) X.A.in1 := hr.in1
    have hr2 : Room k X.A.in1.in1 := hr1.in1
    refine callType_codes (T := "str") (Bi := Builtin.«object.__init__») (Q₁ := fun r s₁ => ∃ y u, r = .str y u ∧ EP X pins σ Q r s₁) PySem.F.called_str (PySem.F.typeCall_str_1 _) PySem.F.entry_object_init ?_ ?_
    · refine codeAny_of_tree ?_
      show wpAny _ X.A.in1.in1 (do checkBuiltinCall "str.__new__" ⟨[.type "str", .ref a], []⟩; again (.builtin "str.__new__" ⟨[.type "str", .ref a], []⟩)) _ _ s
      refine wpAny_bind (wpAny_of_eq (PySem.F.newCall_str_1 _) (wpAny_pure ⟨plainId_quiet (by decide +kernel) _, codeAny_builtin PySem.F.entry_str_new ?_⟩))
      rw [Around.under_plainId (by decide +kernel) _]
      rw [str_new_tree]
      refine wpAny_bind (wpAny_pure ?_)
      refine wpAny_bind (wpAny_of_eq isSubtype_str_str ?_)
      have key : wpAny (model X.prog X.w) X.A.in1.in1 (PySem.Builtin.Str.strOf (.ref a)) (fun r s₁ => ∃ y u, r = .str y u ∧ EP X pins σ Q r s₁) X.xe s := by
        unfold PySem.Builtin.Str.strOf
        rw [show PySem.Builtin.Str.isExactStr (.ref a) = false from rfl]
        refine wpAny_bind (m := cRoomFor _ _) (wpAny_cRoomFor hr2.units0 ?_)
        refine wpAny_bind (m := callSpecial? (.ref a) (Str.ofString "__str__")) (PySem.W.special_fn I.kIn J hs (beq_iff_eq.mp hf) (wpAny_mono (run_atK (A := X.A.in1.in1) F hr2 I.env0.in1.in1 hb I (vs := [.ref a]) (.cons rfl .nil) q) (fun u s' z => ?_) fun _ _ x => x))
        obtain ⟨v, H', I', rv, y, rfl, hq⟩ := z
        obtain ⟨t, rfl⟩ := rv
        exact wpAny_bind (wpAny_pure (wpAny_pure ⟨y, t, rfl, .str y, H', I', ⟨t, rfl⟩, hq⟩))
      exact wpAny_bind (wpAny_mono key (fun r s₁ hr => wpAny_pure hr) fun _ _ y => y)
    · rintro obj s₁ ⟨y, u, rfl, hq⟩
      exact ⟨typeIs_str _ _ _, PySem.F.args_object_init_2 _ _, object_init_meets PySem.F.called_str.init.lookup PySem.F.called_str.made (by decide) X.prog X.w X.A.in1 _ s₁ ⟨typeIs_str _ _ _, rfl, hq⟩⟩
end
end K29
/-! text K29L6 -/
namespace K29
open PySem PySem.Spec PyProof.Rows L2 LamX
section
variable {P : Program} {w : World} {K : PySem.W.Frag} {mg : Str → Option Value} {base : Heap} {T : List (Addr × Str)}
/-! ### some_keys -/
def sp_l_some_keys (T : List (Addr × Str)) : Sp := fun vs H Q _ => ∃ (v : V) (b : Bk) (a : Addr) (qs : List (Addr × Addr)) (ds : List Ds), vs = [v, .ref a, .int 2] ∧ FzD H v (bkD b) ∧ WfB b ∧ WP H a qs ds ∧ WfS b ds ∧ ∀ v' H' (ks : List Ky), Go T No H H' → FzD H' v' (.list (ks.map kyD)) → (∀ k ∈ ks, okKey b k) → Q v' H'
theorem b_l_some_keys (t : Tp K mg) : FB P w K mg base 2 (He.ga K "_law_some_keys") p_l_some_keys (sp_l_some_keys T) := by
  refine FB.of t.f_l_some_keys sc_l_some_keys (fun vs H Q E ⟨_, _, _, _, _, h, _⟩ => by rw [h]; rfl) (fun cdv A outer s H vs Q E hr h => ?_)
  obtain ⟨v, b, a, qs, ds, rfl, hb, wf, W, S, hq⟩ := h
  have nd := sc_l_some_keys.nd
  have hu := hu_of hr
  refine ⟨_, pss_cons (ps_set (i := 3) nd rfl (Or.inl rfl) (pe_f (b_l_all_keys (T := T) t) t.g_law_all_keys hr (pa_cons (pv 0) (pa_cons (pv 2) pa_nil))))
    (pss_cons (ps_for PassesOwn.never rfl (pi_list (pe_slice sl_list (pv 1) (po_some (pe_un un_neg pe_int)) po_none)) (pg_name (i := 4) nd rfl (Or.inl rfl)) (pss_one (ps_set (i := 3) nd rfl (Or.inl rfl) (pe_fz (pe_op op_catR (pv 3) (pe_dget hu (pv 4) pe_str (fun _ _ => rfl)))))))
    (pss_one (ps_ret (pv 3)))), ?_⟩
  refine ⟨_, rfl, _, rfl, v, b, rfl, hb, wf, fun fv H1 ks g1 ff hks hkl => ?_⟩
  have W1 := W.go0 g1
  refine ⟨_, rfl, _, rfl, _, rfl, a, _, rfl, .inl (.inl W1.l), fun p hp => ?_⟩
  have g2 : Go T No H (upd H1 p (.lst (cutV (qs.map fun q => V.ref q.1) (some (-4)) none))) := g1.add hp
  have p2 : upd H1 p (.lst (cutV (qs.map fun q => V.ref q.1) (some (-4)) none)) p = some (.lst (cutV (qs.map fun q => V.ref q.1) (some (-4)) none)) := upd_same
  have W2 := W1.go0 (T := T) (Go.refl.add (o := .lst (cutV (qs.map fun q => V.ref q.1) (some (-4)) none)) hp)
  have ff2 := ff.add (o := .lst (cutV (qs.map fun q => V.ref q.1) (some (-4)) none)) hp
  have cl : (cutV (qs.map fun q => V.ref q.1) (some (-4)) none).length ≤ 9 := by
    have := cutV_length (qs.map fun q => V.ref q.1) (some (-4)) none
    rw [List.length_map, W.d.1] at this
    have := S.n
    omega
  have cm : ∀ x ∈ cutV (qs.map fun q => V.ref q.1) (some (-4)) none, ∃ q ∈ qs, x = .ref q.1 := fun x hx => by
    have := List.mem_of_mem_drop (List.mem_of_mem_take (show x ∈ ((qs.map fun q => V.ref q.1).drop _).take _ from hx))
    obtain ⟨q, hq, rfl⟩ := List.mem_map.mp this
    exact ⟨q, hq, rfl⟩
  generalize cutV (qs.map fun q => V.ref q.1) (some (-4)) none = cs at g2 p2 W2 ff2 cl cm
  generalize upd H1 p (.lst cs) = H2 at g2 p2 W2 ff2
  refine ⟨p, rfl, ⟨_, .inl (.inl p2)⟩, ?_⟩
  refine for_list (K := K) (a := p) (xs := cs) (fun i σ H3 => Go T No H2 H3 ∧ ∃ (z4 : Option V) (fv : V) (ks : List Ky), σ = [some v, some (.ref a), some (.int 2), some fv, z4] ∧ FzD H3 fv (.list (ks.map kyD)) ∧ (∀ k ∈ ks, okKey b k) ∧ ks.length ≤ 4 + 4 * i)
    ⟨Go.refl, none, fv, ks, rfl, ff2, hks, by omega⟩ (fun i σ H3 _ c => .inl (.inl (c.1.lst p2 id))) ?_ ?_
  · rintro i x σ H3 hi ⟨g, z4, fv, ks, rfl, ff, hks, hkl⟩
    obtain ⟨q, hq2, rfl⟩ := cm x (List.mem_of_getElem? hi)
    obtain ⟨m, hm, em⟩ := List.mem_iff_getElem.mp hq2
    obtain ⟨d, hd, D⟩ := (W2.go0 g).d.atL (by rw [List.getElem?_eq_getElem hm, em])
    have E := S.e d (List.mem_of_getElem? hd)
    obtain ⟨kv, xs, h1, h2, h3, h4⟩ := D
    obtain ⟨f0, of0, fxs, rfl, hf0, hfxs⟩ := fz_list.mp ff
    obtain ⟨f1, of1, gxs, rfl, hf1, hgxs⟩ := fz_list.mp h2
    have il : i < cs.length := (List.getElem?_eq_some_iff.mp hi).1
    have l4 := (dealAt_wf wf E.dl).l4
    have kl := okKeys_len E.ks
    refine ⟨_, rfl, _, rfl, q.1, _, rfl, dget h1 wFl_keys, f0, f1, fxs, gxs, rfl, rfl, .inr ⟨of0, hf0⟩, .inr ⟨of1, hf1⟩, ?_, fun r hr2 => ⟨r, _, rfl, upd_same, trivial, fun or => ?_⟩⟩
    · have := hfxs.1
      have := hgxs.1
      exact Nat.le_of_lt (sm (by omega))
    rw [upd_upd]
    refine ⟨g.add hr2, _, .ref r, ks ++ d.keys, rfl, fz_list.mpr ⟨r, or, _, rfl, upd_same, Zp.app (hfxs.add hr2) (hgxs.add hr2)⟩, fun k hk => ?_, ?_⟩
    · rcases List.mem_append.mp hk with h | h
      · exact hks k h
      · exact E.ks.2 k h
    · rw [List.length_append]
      omega
  · rintro σ H3 ⟨g, z4, fv, ks, rfl, ff, hks, hkl⟩
    exact ⟨_, rfl, hq _ _ ks (g2.thn0 g) ff hks⟩
/-! ### same -/
structure ReprOk (d : PyData) : Prop where
  s : d.showable = true
  n : d.hasDict = false
  l : d.shown.length ≤ sizeLine
  d : d.depth ≤ 60
def sp_l_same (K : PySem.W.Frag) : Sp := fun vs H Q _ => ∃ (x y : V) (d : PyData), vs = [x, y] ∧ Dp K H x d ∧ Dp K H y d ∧ ReprOk d ∧ Q (.bl true) H
theorem b_l_same (t : Tp K mg) : GB P w K mg base 1 (He.ga K "_law_same") p_l_same (sp_l_same K) := by
  refine GB.of t.f_l_same sc_l_same (fun vs H Q E ⟨_, _, _, h, _⟩ => by rw [h]; rfl) (fun cdv A outer s H vs Q E hg hr h => ?_)
  obtain ⟨x, y, d, rfl, hx, hy, ⟨h1, h2, h3, h4⟩, hq⟩ := h
  refine ⟨_, pss_one (ps_ret (pe_cmpR op_eq (pe_callB (cr_repr hg hr.units) (by rfl) t.b_repr (by decide +kernel) (pa_cons (pv 0) pa_nil)) (pe_callB (cr_repr hg hr.units) (by rfl) t.b_repr (by decide +kernel) (pa_cons (pv 1) pa_nil)) (nomark _))), ?_⟩
  refine ⟨_, rfl, x, d, rfl, hx, h1, h2, h3, h4, _, rfl, y, d, rfl, hy, h1, h2, h3, h4, rfl, ?_⟩
  rw [decide_eq_true rfl]
  exact hq
end
end K29
/-! text K29Sm -/
namespace K29
open PySem PyProof.Rows
/-! ### data that repr writes within the line -/
structure Sm (d : PyData) (w k : Nat) : Prop where
  lay : d.canLay0 = true
  dep : d.depth ≤ k
  wt : d.weight ≤ w
  i : PyData.intsShort 13 d = true
  s : d.showable = true
  n : d.hasDict = false
structure SmA (ds : List PyData) (w k : Nat) : Prop where
  lay : PyData.canLayAll0 ds = true
  dep : PyData.depthAll ds ≤ k
  wt : PyData.weightAll ds ≤ w
  i : PyData.intsShortAll 13 ds = true
  s : PyData.showableAll ds = true
  n : PyData.hasDictAll ds = false
theorem Sm.repr {d : PyData} {w k : Nat} (h : Sm d w k) (hw : w ≤ 1000000) (hk : k ≤ 60) : ReprOk d := by
  refine ⟨h.s, h.n, ?_, Nat.le_trans h.dep hk⟩
  have hl : d.layable0 = true := by
    unfold PyData.layable0
    rw [h.lay, decide_eq_true (Nat.le_trans h.dep (by omega)), decide_eq_true (Nat.le_trans h.wt (by omega))]
    rfl
  have := shown_le13 hl h.i
  exact Nat.le_trans this (by decide)
theorem ints_short : ∀ i : Fin 64, PyData.intsShort 13 (.int (i.val : Nat)) = true ∧ (PyData.int (i.val : Nat)).weight ≤ 10 ∧ (PyData.int (i.val : Nat)).showable = true := by decide +kernel
theorem Sm.int {i : Nat} (h : i < 64) : Sm (.int (i : Nat)) 10 1 := by
  obtain ⟨h1, h2, h3⟩ := ints_short ⟨i, h⟩
  exact ⟨by simp [PyData.canLay0], by simp [PyData.depth], h2, h1, h3, by simp [PyData.hasDict]⟩
theorem Sm.intI {i : Int} (h0 : 0 ≤ i) (h : i < 64) : Sm (.int i) 10 1 := by
  obtain ⟨k, rfl⟩ := Int.eq_ofNat_of_zero_le h0
  exact Sm.int (by omega)
theorem Sm.str {x : Str} (h : PyData.strOk x = true) : Sm (.str x) x.length 1 :=
  ⟨by simp [PyData.canLay0, h], by simp [PyData.depth], by simp [PyData.weight, Str.length], by simp [PyData.intsShort], by simp [PyData.showable], by simp [PyData.hasDict]⟩
theorem Sm.none : Sm .none 0 1 := ⟨by simp [PyData.canLay0], by simp [PyData.depth], by simp [PyData.weight], by simp [PyData.intsShort], by simp [PyData.showable], by simp [PyData.hasDict]⟩
theorem Sm.bool (b : Bool) : Sm (.bool b) 1 1 := ⟨by simp [PyData.canLay0], by simp [PyData.depth], by simp [PyData.weight], by simp [PyData.intsShort], by simp [PyData.showable], by simp [PyData.hasDict]⟩
theorem SmA.nil {k : Nat} : SmA [] 0 k := ⟨by simp [PyData.canLayAll0], by simp [PyData.depthAll], by simp [PyData.weightAll], by simp [PyData.intsShortAll], by simp [PyData.showableAll], by simp [PyData.hasDictAll]⟩
theorem SmA.cons {d : PyData} {ds : List PyData} {w v k : Nat} (h : Sm d w k) (a : SmA ds v k) : SmA (d :: ds) (w + 1 + v) k := by
  refine ⟨by simp [PyData.canLayAll0, h.lay, a.lay], ?_, ?_, by simp [PyData.intsShortAll, h.i, a.i], by simp [PyData.showableAll, h.s, a.s], by simp [PyData.hasDictAll, h.n, a.n]⟩
  · have := h.dep
    have := a.dep
    simp only [PyData.depthAll]
    omega
  · have := h.wt
    have := a.wt
    simp only [PyData.weightAll]
    omega
theorem Sm.up {d : PyData} {w k w' k' : Nat} (h : Sm d w k) (hw : w ≤ w') (hk : k ≤ k') : Sm d w' k' := ⟨h.lay, Nat.le_trans h.dep hk, Nat.le_trans h.wt hw, h.i, h.s, h.n⟩
theorem Sm.tup {ds : List PyData} {w k : Nat} (a : SmA ds w k) : Sm (.tuple ds) w (k + 1) := by
  refine ⟨by simp [PyData.canLay0, a.lay], ?_, ?_, by simp [PyData.intsShort, a.i], by simp [PyData.showable, a.s], by simp [PyData.hasDict, a.n]⟩
  · have := a.dep
    simp only [PyData.depth]
    omega
  · have := a.wt
    simp only [PyData.weight]
    omega
theorem Sm.lst {ds : List PyData} {w k : Nat} (a : SmA ds w k) : Sm (.list ds) w (k + 1) := by
  refine ⟨by simp [PyData.canLay0, a.lay], ?_, ?_, by simp [PyData.intsShort, a.i], by simp [PyData.showable, a.s], by simp [PyData.hasDict, a.n]⟩
  · have := a.dep
    simp only [PyData.depth]
    omega
  · have := a.wt
    simp only [PyData.weight]
    omega
theorem SmA.map {β : Type} {f : β → PyData} {w k : Nat} : ∀ {l : List β}, (∀ x ∈ l, Sm (f x) w k) → SmA (l.map f) (l.length * (w + 1)) k
  | [], _ => by
    rw [List.length_nil, Nat.zero_mul]
    exact SmA.nil
  | x :: l, h => by
    have ih : SmA (l.map f) (l.length * (w + 1)) k := SmA.map fun y hy => h y (List.mem_cons_of_mem _ hy)
    have a := SmA.cons (h x (List.mem_cons_self ..)) ih
    refine ⟨a.lay, a.dep, Nat.le_trans a.wt ?_, a.i, a.s, a.n⟩
    rw [List.length_cons, Nat.succ_mul]
    omega
/-! ### the data of the law -/
theorem sm_key {b : Bk} (wf : WfB b) {k : Ky} (h : okKey b k) : Sm (kyD k) 21 2 := by
  have nm := okKey_nm wf h
  have a := SmA.cons (Sm.str (nm_strOk nm)) (SmA.cons (Sm.intI h.2.1 (by have := h.2.2; omega)) SmA.nil)
  exact (Sm.tup a).up (by have := nm.2.1; omega) (Nat.le_refl _)
theorem sm_sn {r : Option Nat} (h : ∀ i, r = some i → i < 64) : Sm (snD r) 10 1 := by
  cases r with
  | none => exact Sm.none.up (by omega) (Nat.le_refl _)
  | some i => exact Sm.int (h i rfl)
theorem deed_ok {x : Str} (h : isDeed x) : PyData.strOk x = true ∧ x.length ≤ 5 := by
  rcases h with rfl | rfl | rfl <;> decide +kernel
theorem sm_tk {b : Bk} (wf : WfB b) {t : Tk} (h : okKey b t.key ∧ isDeed t.deed ∧ ∀ j, t.seen = some j → j < 9) : Sm (tkD t) 50 4 := by
  obtain ⟨h1, h2, h3⟩ := h
  obtain ⟨d1, d2⟩ := deed_ok h2
  have a := SmA.cons ((Sm.str d1).up (Nat.le_refl _) (by omega : 1 ≤ 2)) (SmA.cons (sm_key wf h1) (SmA.cons ((sm_sn fun i e => by have := h3 i e; omega).up (Nat.le_refl _) (by omega : 1 ≤ 2)) SmA.nil))
  exact (Sm.tup a).up (by omega) (by omega)
theorem sm_row {b : Bk} (wf : WfB b) {ds : List Ds} (S : WfS b ds) {r : Row} (h : okRow b ds r) : Sm (rowD r) 150 6 := by
  have two : ∀ (nm : Str) (i : Nat), PyData.strOk nm = true → nm.length ≤ 5 → i < 64 → Sm (.tuple [.str nm, .int (i : Nat)]) 150 6 := fun nm i h1 h2 h3 =>
    (Sm.tup (SmA.cons (Sm.str h1) (SmA.cons (Sm.int h3) SmA.nil))).up (by omega) (by omega)
  have ix : ∀ {i : Nat} {p : Ds → Prop}, isOp b ds i p → i < 64 := fun {i p} ⟨d, hd, _⟩ => by
    have h1 : i < ds.length := (List.getElem?_eq_some_iff.mp hd).1
    have := S.n
    omega
  cases r with
  | bgn n ks =>
    obtain ⟨_, d, hd, rfl, hk⟩ := h
    have D := wf.ds d hd
    have nm := D.nm
    have l4 := D.l4
    have kl := okKeys_len hk
    have a1 := Sm.lst (SmA.map fun k hk2 => sm_key wf (hk.2 k hk2))
    have a1' : Sm (.list (ks.map kyD)) 88 3 := a1.up (by omega) (by omega)
    have a := SmA.cons ((Sm.str (x := "begin") (by decide +kernel)).up (Nat.le_refl _) (by omega : 1 ≤ 3)) (SmA.cons ((Sm.str (nm_strOk nm)).up (Nat.le_refl _) (by omega : 1 ≤ 3)) (SmA.cons a1' SmA.nil))
    have e5 : ("begin" : Str).length = 5 := by decide +kernel
    exact (Sm.tup a).up (by have := nm.2.1; omega) (by omega)
  | stp i => exact two "step" i (by decide +kernel) (by decide +kernel) (ix h)
  | fin i => exact two "end" i (by decide +kernel) (by decide +kernel) (ix h)
  | drp i => exact two "drop" i (by decide +kernel) (by decide +kernel) (ix h)
theorem sm_rows {b : Bk} (wf : WfB b) {rows : List Row} (h : OkR b rows) : ∀ r ∈ rows, Sm (rowD r) 150 6 := by
  induction h with
  | nil => exact fun r hr => (by cases hr)
  | snoc h ho ih =>
    intro r hr
    rcases List.mem_append.mp hr with h1 | h1
    · exact ih r h1
    · rw [List.mem_singleton.mp h1]
      exact sm_row wf (h.wf wf) ho
theorem repr_rows {b : Bk} (wf : WfB b) {rows : List Row} (h : OkR b rows) (hl : rows.length ≤ 900) : ReprOk (.list (rows.map rowD)) := by
  have a := Sm.lst (SmA.map (sm_rows wf h))
  exact a.repr (by omega) (by omega)
theorem repr_sn {r : Option Nat} (h : ∀ i, r = some i → i < 64) : ReprOk (snD r) := (sm_sn h).repr (by omega) (by omega)
theorem repr_int {i : Int} (h0 : 0 ≤ i) (h : i < 64) : ReprOk (.int i) := (Sm.intI h0 h).repr (by omega) (by omega)
theorem repr_res {b : Bk} (wf : WfB b) {ds : List Ds} (S : WfS b ds) {r : Row} (h : okRow b ds r) (n : Nat) : ReprOk (resD b ds r) := by
  cases r with
  | bgn nm ks => exact repr_int (by show (0 : Int) ≤ (ds.length : Nat); omega) (by show ((ds.length : Nat) : Int) < 64; have := S.n; omega)
  | stp i =>
    have S' := wfS_do wf S h n
    obtain ⟨d, hd, hw, ht⟩ := h
    have il : i < ds.length := (List.getElem?_eq_some_iff.mp hd).1
    have e : doRow b ds n (.stp i) = ds.set i { d with told := d.told ++ [tkOf b ds i d] } := modAt_some hd
    rw [e] at S'
    have E := S'.e _ (List.mem_of_getElem? (List.getElem?_set_self il))
    have t := E.tk (tkOf b ds i d) (by simp)
    show ReprOk (match ds[i]? with | some d => tkD (tkOf b ds i d) | none => .none)
    rw [hd]
    exact (sm_tk wf t).repr (by omega) (by omega)
  | fin i =>
    obtain ⟨d, hd, hw, ht⟩ := h
    show ReprOk (match ds[i]? with | some d => .bool (!isOff ds d) | none => .none)
    rw [hd]
    exact (Sm.bool _).repr (by omega) (by omega)
  | drp i => exact Sm.none.repr (by omega) (by omega)
end K29
/-! text K29L12 -/
namespace K29
open PySem PySem.Spec PyProof.Rows L2 LamX
/-- what the making of the lambda asks -/
abbrev LmB (K : PySem.W.Frag) (mg : Str → Option Value) (base : Heap) : Prop := TabB base mg (He.cT K ("Stepper", some "last_writer")).1 (He.cT K ("Stepper", some "last_writer")).2
section
variable {P : Program} {w : World} {K : PySem.W.Frag} {mg : Str → Option Value} {base : Heap}
/-! ### doing -/
def sp_l_doing (K : PySem.W.Frag) : Sp := fun vs H Q _ => ∃ (p : Addr) (x : V) (b : Bk) (ds : List Ds) (rows : List Row) (fp : List Addr) (r : Row), vs = [.ref p, x] ∧ StAt K H p b ds rows fp ∧ FzD H x (rowD r) ∧ WfB b ∧ WfS b ds ∧ okRow b ds r ∧ rows.length ≤ 900 ∧ Tabs (lmT K) H ∧
  ∀ v H' fp', Go (lmT K) (· ∈ fp) H H' → StAt K H' p b (doRow b ds rows.length r) (rows ++ [r]) fp' → (∀ a ∈ fp', a ∈ fp ∨ Nw H a) → FzD H' v (resD b ds r) → Q v H'
theorem b_l_doing (t : Tp K mg) (TB : LmB K mg base) : FB P w K mg base 5 (He.ga K "_law_doing") p_l_doing (sp_l_doing K) := by
  refine FB.of t.f_l_doing sc_l_doing (fun vs H Q E ⟨_, _, _, _, _, _, _, h, _⟩ => by rw [h]; rfl) (fun cdv A outer s H vs Q E hr h => ?_)
  obtain ⟨p, x, b, ds, rows, fp, r, rfl, hS, hx, wf, S, ho, hrl, hT, hq⟩ := h
  refine ⟨_, pss_cons (ps_if (pt_cmpR op_eq (pe_ix ix_tup (pv 1) pe_int (fun _ _ => rfl)) pe_str (nomark _)) (pss_one (ps_ret (pe_m t.c_Stepper t.m_S_begin (b_S_begin (T := lmT K) t) hr (pv 0) (pa_cons (pe_ix ix_tup (pv 1) pe_int (fun _ _ => rfl)) (pa_cons (pe_ix ix_tup (pv 1) pe_int (fun _ _ => rfl)) pa_nil))))) pss_nil)
    (pss_cons (ps_if (pt_cmpR op_eq (pe_ix ix_tup (pv 1) pe_int (fun _ _ => rfl)) pe_str (nomark _)) (pss_one (ps_ret (pe_m t.c_Stepper t.m_S_step (b_S_step t TB) hr (pv 0) (pa_cons (pe_ix ix_tup (pv 1) pe_int (fun _ _ => rfl)) pa_nil)))) pss_nil)
    (pss_cons (ps_if (pt_cmpR op_eq (pe_ix ix_tup (pv 1) pe_int (fun _ _ => rfl)) pe_str (nomark _)) (pss_one (ps_ret (pe_m t.c_Stepper t.m_S_end (b_S_end (T := lmT K) t) hr (pv 0) (pa_cons (pe_ix ix_tup (pv 1) pe_int (fun _ _ => rfl)) pa_nil)))) pss_nil)
    (pss_one (ps_ret (pe_m t.c_Stepper t.m_S_drop (b_S_drop (T := lmT K) t) hr (pv 0) (pa_cons (pe_ix ix_tup (pv 1) pe_int (fun _ _ => rfl)) pa_nil)))))), ?_⟩
  have n9 := S.n
  have RW_ := rowW_of wf S ho
  obtain ⟨dx, ob, Ld, Lg, qs, lg, SP, efp⟩ := id hS
  cases r with
  | bgn n ks =>
    obtain ⟨ix, d, hix, rfl, hks⟩ := RW_
    obtain ⟨a3, x1, x2, x3, rfl, ha3, f1, f2, f3⟩ := fz_t3.mp hx
    obtain rfl := fz_str.mp f1
    obtain rfl := fz_str.mp f2
    refine ⟨_, rfl, _, _, _, _, rfl, rfl, SqT.of ha3, atI_nat (j := 0) rfl, rfl, _, rfl, ?_⟩
    rw [decide_eq_true rfl]
    refine iteT ⟨_, rfl, p, dx, _, rfl, SP.o, sFl_m16, _, rfl, _, _, _, _, rfl, rfl, SqT.of ha3, atI_nat (j := 1) rfl, _, rfl, _, _, _, _, rfl, rfl, SqT.of ha3, atI_nat (j := 2) rfl, p, x3, b, ds, rows, fp, ks, ix, d, rfl, hS, wf, hix, f3, hks, by omega, by omega, fun fp' H' g S' hn => hq _ _ fp' g S' hn (.int _)⟩
  | stp i =>
    obtain ⟨d, j, st, l, k, hd, hw, O, l4⟩ := RW_
    obtain ⟨a3, x1, x2, rfl, ha3, f1, f2⟩ := fz_t2.mp hx
    obtain rfl := fz_str.mp f1
    obtain rfl := fz_int.mp f2
    refine ⟨_, rfl, _, _, _, _, rfl, rfl, SqT.of ha3, atI_nat (j := 0) rfl, rfl, _, rfl, ?_⟩
    rw [show decide (V.str "step" = V.str "begin") = false by decide +kernel]
    refine iteF ⟨_, rfl, _, _, _, _, rfl, rfl, SqT.of ha3, atI_nat (j := 0) rfl, rfl, _, rfl, ?_⟩
    rw [decide_eq_true rfl]
    refine iteT ⟨_, rfl, p, dx, _, rfl, SP.o, sFl_m4, _, rfl, _, _, _, _, rfl, rfl, SqT.of ha3, atI_nat (j := 1) rfl, p, b, ds, rows, fp, i, d, j, st, l, k, rfl, hS, hd, hw, S.v wf, by omega, by omega, hT, O.hst, O.hl, O.hls, O.hk, O.ok, O.tk, O.next, O.key, fun v H' g S' f => hq v H' fp g S' (fun a h => .inl h) ?_⟩
    show FzD H' v (match ds[i]? with | some d => tkD (tkOf b ds i d) | none => .none)
    rw [hd]
    exact f
  | fin i =>
    obtain ⟨d, hd, hw, hl⟩ := RW_
    obtain ⟨a3, x1, x2, rfl, ha3, f1, f2⟩ := fz_t2.mp hx
    obtain rfl := fz_str.mp f1
    obtain rfl := fz_int.mp f2
    refine ⟨_, rfl, _, _, _, _, rfl, rfl, SqT.of ha3, atI_nat (j := 0) rfl, rfl, _, rfl, ?_⟩
    rw [show decide (V.str "end" = V.str "begin") = false by decide +kernel]
    refine iteF ⟨_, rfl, _, _, _, _, rfl, rfl, SqT.of ha3, atI_nat (j := 0) rfl, rfl, _, rfl, ?_⟩
    rw [show decide (V.str "end" = V.str "step") = false by decide +kernel]
    refine iteF ⟨_, rfl, _, _, _, _, rfl, rfl, SqT.of ha3, atI_nat (j := 0) rfl, rfl, _, rfl, ?_⟩
    rw [decide_eq_true rfl]
    refine iteT ⟨_, rfl, p, dx, _, rfl, SP.o, sFl_m9, _, rfl, _, _, _, _, rfl, rfl, SqT.of ha3, atI_nat (j := 1) rfl, p, b, ds, rows, fp, i, d, rfl, hS, hd, hw, hl, S.v wf, by omega, by omega, fun H' g S' => hq _ H' fp g S' (fun a h => .inl h) ?_⟩
    show FzD H' _ (match ds[i]? with | some d => .bool (!isOff ds d) | none => .none)
    rw [hd]
    exact .bl _
  | drp i =>
    obtain ⟨d, hd, hw⟩ := RW_
    obtain ⟨a3, x1, x2, rfl, ha3, f1, f2⟩ := fz_t2.mp hx
    obtain rfl := fz_str.mp f1
    obtain rfl := fz_int.mp f2
    refine ⟨_, rfl, _, _, _, _, rfl, rfl, SqT.of ha3, atI_nat (j := 0) rfl, rfl, _, rfl, ?_⟩
    rw [show decide (V.str "drop" = V.str "begin") = false by decide +kernel]
    refine iteF ⟨_, rfl, _, _, _, _, rfl, rfl, SqT.of ha3, atI_nat (j := 0) rfl, rfl, _, rfl, ?_⟩
    rw [show decide (V.str "drop" = V.str "step") = false by decide +kernel]
    refine iteF ⟨_, rfl, _, _, _, _, rfl, rfl, SqT.of ha3, atI_nat (j := 0) rfl, rfl, _, rfl, ?_⟩
    rw [show decide (V.str "drop" = V.str "end") = false by decide +kernel]
    exact iteF ⟨_, rfl, p, dx, _, rfl, SP.o, sFl_m10, _, rfl, _, _, _, _, rfl, rfl, SqT.of ha3, atI_nat (j := 1) rfl, p, b, ds, rows, fp, i, d, rfl, hS, hd, hw, by omega, fun H' g S' => hq _ H' fp g S' (fun a h => .inl h) .non⟩
/-! ### stands_so -/
theorem lastW_lt64 {ds : List Ds} {key : Ky} {row : Nat} (h : ds.length ≤ 9) : ∀ i, lastW ds key row = some i → i < 64 := fun i e => by
  have := lastW_lt e
  omega
def sp_l_stands_so (K : PySem.W.Frag) : Sp := fun vs H Q _ => ∃ (p : Addr) (v : V) (a R : Addr) (b : Bk) (qs : List (Addr × Addr)) (rows : List Row) (fp : List Addr) (rs : List V), vs = [.ref p, v, .ref a, .ref R, .int 2] ∧ StAt K H p b (agn b rows) rows fp ∧ FzD H v (bkD b) ∧ WP H a qs (agn b rows) ∧ H R = some (.lst rs) ∧ FzL H rowD rs rows ∧
  WfB b ∧ OkR b rows ∧ rows.length ≤ 900 ∧ Tabs (lmT K) H ∧ ∀ H', Go (lmT K) No H H' → Q (.bl true) H'
theorem b_l_stands_so (t : Tp K mg) (TB : LmB K mg base) : GB P w K mg base 6 (He.ga K "_law_stands_so") p_l_stands_so (sp_l_stands_so K) := by
  refine GB.of t.f_l_stands_so sc_l_stands_so (fun vs H Q E ⟨_, _, _, _, _, _, _, _, _, h, _⟩ => by rw [h]; rfl) (fun cdv A outer s H vs Q E hg hr h => ?_)
  obtain ⟨p, v, a, R, b, qs, rows, fp, rs, rfl, hS, hb, W, hR, hrs, wf, hok, hrl, hT, hq⟩ := h
  have nd := sc_l_stands_so.nd
  have hu := hu_of hr
  obtain ⟨⟨fdL, FL, bL⟩, kpL⟩ := b_S_len (P := P) (w := w) (base := base) t
  obtain ⟨⟨fdS, FS, bS⟩, kpS⟩ := b_S_str (P := P) (w := w) (base := base) (T := lmT K) t
  refine ⟨_, pss_cons (ps_if (PW.pt (pw_or (pt_cmpR op_ne (pe_callB (call_lenOwn t.m_S_len.at_ t.m_S_len.fn FL (hr.mono (by decide)) bL) (by rfl) t.b_len PySem.boot_len (pa_cons (pv 0) pa_nil)) (pe_callB call_len (by rfl) t.b_len PySem.boot_len (pa_cons (pv 2) pa_nil)) (nomark _))
      (pw_or1 (pt_cmpR op_ne (pe_callTy (call_strOwn t.m_S_str.at_ t.m_S_str.fn FS (hr.mono (by decide)) bS) (by rfl) t.b_str (by decide +kernel) (pa_cons (pv 0) pa_nil)) (pe_f (b_l_state_text (T := lmT K) t) t.g_law_state_text hr (pa_cons (pv 2) pa_nil)) (nomark _))))) (pss_one (ps_ret pe_bl)) pss_nil)
    (pss_cons (ps_if (pt_not (pt_val (pe_g (b_l_same t) t.g_law_same hg hr (pa_cons (pe_m0 t.c_Stepper t.m_S_rows (b_S_rows (T := lmT K) t) hr (pv 0)) (pa_cons (pv 3) pa_nil))))) (pss_one (ps_ret pe_bl)) pss_nil)
    (pss_cons (ps_for PassesOwn.never rfl (pi_list (pe_f (b_l_some_keys (T := lmT K) t) t.g_law_some_keys hr (pa_cons (pv 1) (pa_cons (pv 2) (pa_cons (pv 4) pa_nil))))) (pg_name (i := 5) nd rfl (Or.inl rfl))
      (pss_one (ps_if (pt_not (pt_val (pe_g (b_l_same t) t.g_law_same hg hr (pa_cons (pe_m t.c_Stepper t.m_S_writer (b_S_writer t TB) hr (pv 0) (pa_cons (pv 5) pa_nil)) (pa_cons (pe_f (b_l_last (T := lmT K) t) t.g_law_last hr (pa_cons (pv 2) (pa_cons (pv 5) (pa_cons (pe_callB call_len (by rfl) t.b_len PySem.boot_len (pa_cons (pv 3) pa_nil)) pa_nil)))) pa_nil))))) (pss_one (ps_ret pe_bl)) pss_nil)))
    (pss_cons (ps_for PassesOwn.never rfl (pi_enum (by rfl) t.b_enumerate (pa_cons (pv 2) pa_nil)) (pg_tup rfl (pgs_cons (pg_name (i := 6) nd rfl (Or.inl rfl)) (pgs_cons (pg_name (i := 7) nd rfl (Or.inl rfl)) pgs_nil)))
      (pss_cons (ps_if (pt_cmpR op_ne (pe_m t.c_Stepper t.m_S_state (b_S_state t) hr (pv 0) (pa_cons (pv 6) pa_nil)) (pe_dget hu (pv 7) pe_str (fun _ _ => rfl)) (nomark _)) (pss_one (ps_ret pe_bl)) pss_nil)
      (pss_one (ps_if (PW.pt (pw_and (pt_cmpR op_eq (pe_dget hu (pv 7) pe_str (fun _ _ => rfl)) pe_str (nomark _)) (pw_and1 (pt_not (pt_val (pe_g (b_l_same t) t.g_law_same hg hr (pa_cons (pe_m t.c_Stepper t.m_S_left (b_S_left t) hr (pv 0) (pa_cons (pv 6) pa_nil)) (pa_cons (pe_f (b_l_left t) t.g_law_left hr (pa_cons (pv 1) (pa_cons (pv 7) pa_nil))) pa_nil)))))))) (pss_one (ps_ret pe_bl)) pss_nil))))
    (pss_one (ps_ret pe_bl))))), ?_⟩
  have S := hok.wf wf
  have n9 := S.n
  have SV := S.v wf
  obtain ⟨dx, ob, Ld, Lg, sq, lg, SP, efp⟩ := id hS
  -- len(stepper) != len(world)
  refine ⟨_, rfl, p, dx, _, rfl, SP.o, p, b, _, rows, fp, rfl, hS, (agn b rows).length, rfl, by omega, _, rfl, _, (agn b rows).length, rfl, .inl ⟨_, .inl (.inl W.l), by rw [List.length_map]; exact W.d.1.symm⟩, rfl, _, rfl, ?_⟩
  rw [decide_eq_true rfl]
  -- str(stepper) != state_text
  refine iteF ⟨_, rfl, p, dx, _, rfl, SP.o, p, b, _, rows, fp, rfl, hS, by omega, fun H1 g1 => ⟨_, rfl, ?_⟩⟩
  have W1 := W.go0 g1
  refine ⟨_, rfl, a, qs, _, rfl, W1, by omega, fun H2 g2 => ⟨rfl, _, rfl, ?_⟩⟩
  rw [decide_eq_true rfl]
  have G2 := g1.thn0 g2
  -- rows
  have S2 := hS.go0 G2
  obtain ⟨dx2, ob2, Ld2, Lg2, sq2, lg2, SP2, efp2⟩ := id S2
  refine iteF ⟨_, rfl, p, dx2, _, rfl, SP2.o, sFl_m15, p, b, _, rows, fp, rfl, S2, by omega, fun rv H3 g3 f3 => ?_⟩
  have G3 := G2.thn0 g3
  refine ⟨_, rfl, rv, .ref R, _, rfl, FzD.dp _ _ f3, .lst (.inl (.inl (G3.lst hR id))) (FzA.dp _ _ (fzA_zp.mpr (zp_map.mpr (hrs.go G3)))), repr_rows wf hok hrl, _, rfl, iteF ?_⟩
  -- for key in some_keys
  refine ⟨_, rfl, _, rfl, _, rfl, v, b, a, qs, _, rfl, hb.go G3, wf, W.go0 G3, S, fun kv H4 ks g4 f4 hks => ?_⟩
  obtain ⟨ka, ko, kxs, rfl, hka, hkx⟩ := fz_list.mp f4
  have G4 := G3.thn0 g4
  refine ⟨ka, rfl, ⟨_, SqL_frz hka⟩, ?_⟩
  refine for_list (K := K) (a := ka) (xs := kxs) (fun i σ H5 => Go (lmT K) No H4 H5 ∧ ∃ z5 : Option V, σ = [some (.ref p), some v, some (.ref a), some (.ref R), some (.int 2), z5, none, none])
    ⟨Go.refl, none, rfl⟩ (fun i σ H5 _ c => SqL_frz (c.1.fz _ _ hka trivial)) ?_ ?_
  · rintro i y σ H5 hi ⟨g5, z5, rfl⟩
    obtain ⟨k, hk, fk⟩ := hkx.atL hi
    have km := hks k (List.mem_of_getElem? hk)
    have G5 := G4.thn0 g5
    have S5 := hS.go0 G5
    obtain ⟨dx5, ob5, Ld5, Lg5, sq5, lg5, SP5, efp5⟩ := id S5
    refine ⟨_, rfl, p, dx5, _, rfl, SP5.o, sFl_m14, _, rfl, p, b, _, rows, fp, y, k, rfl, S5, wf, fk.go g5, km, okKey_ok wf km, SV, by omega, G5.tb hT, fun H6 g6 => ?_⟩
    have G6 := G5.thn0 g6
    have l1 : rs.length = rows.length := hrs.1
    refine ⟨_, rfl, _, rfl, _, rfl, _, rs.length, rfl, .inl ⟨_, .inl (.inl (G6.lst hR id)), rfl⟩, a, qs, _, y, k, rows.length, by rw [l1]; rfl, W.go0 G6, (fk.go g5).go g6, okKey_ok wf km, SV, by omega, fun H7 g7 => ?_⟩
    refine ⟨_, _, snD (lastW (agn b rows) k rows.length), rfl, FzD.dp _ _ (fz_sn.mpr rfl), FzD.dp _ _ (fz_sn.mpr rfl), repr_sn (lastW_lt64 n9), _, rfl, iteF ?_⟩
    exact ⟨(g5.thn0 g6).thn0 g7, _, rfl⟩
  · rintro σ H5 ⟨g5, z5, rfl⟩
    have G5 := G4.thn0 g5
    have W5 := W.go0 G5
    refine ⟨_, rfl, a, _, rfl, .inl (.inl W5.l), ?_⟩
    refine for_enum (K := K) (a := a) (xs := qs.map fun q => .ref q.1) (fun i σ H6 => Go (lmT K) No H5 H6 ∧ ∃ z6 z7 : Option V, σ = [some (.ref p), some v, some (.ref a), some (.ref R), some (.int 2), z5, z6, z7])
      ⟨Go.refl, none, none, rfl⟩ (fun i σ H6 _ c => .inl (.inl (c.1.lst W5.l id))) ?_ ?_
    · rintro i y r σ H6 hi ⟨g6, z6, z7, rfl⟩ hr2
      obtain ⟨q, hqi, rfl⟩ := map_at hi
      have s7 : Go (lmT K) No H6 (upd H6 r (.tup [.int (i : Nat), .ref q.1])) := Go.refl.add hr2
      have t7 : upd H6 r (.tup [.int (i : Nat), .ref q.1]) r = some (.tup [.int (i : Nat), .ref q.1]) := upd_same
      generalize upd H6 r (.tup [.int (i : Nat), .ref q.1]) = H7 at s7 t7
      have G7 := (G5.thn0 g6).thn0 s7
      have W7 := W.go0 G7
      have S7 := hS.go0 G7
      obtain ⟨d, hd, D7⟩ := W7.d.atL hqi
      obtain ⟨kv, xs, h1, h2, h3, h4⟩ := id D7
      obtain ⟨dx7, ob7, Ld7, Lg7, sq7, lg7, SP7, efp7⟩ := id S7
      have E := S.e d (List.mem_of_getElem? hd)
      refine ⟨r, _, rfl, SqT.of t7, rfl, _, _, rfl, _, _, rfl, rfl, ?_⟩
      refine ⟨_, rfl, p, dx7, _, rfl, SP7.o, sFl_m12, _, rfl, p, b, _, rows, fp, i, d, rfl, S7, hd, _, rfl, q.1, _, rfl, dget h1 wFl_word, rfl, _, rfl, ?_⟩
      rw [decide_eq_true rfl]
      refine iteF ⟨_, rfl, q.1, _, rfl, dget h1 wFl_word, rfl, _, rfl, ?_⟩
      rw [wd_op]
      by_cases hw : d.word = .op
      · rw [decide_eq_true hw]
        have b0 : 0 ≤ ((dealAt b d.deal).steps.length : Int) - d.told.length := by have := E.tl; omega
        have b1 : ((dealAt b d.deal).steps.length : Int) - d.told.length < 64 := by have := (dealAt_wf wf E.dl).s8; omega
        refine iteT ⟨_, rfl, p, dx7, _, rfl, SP7.o, sFl_m13, _, rfl, p, b, _, rows, fp, i, d, rfl, S7, hd, hw, _, rfl, _, rfl, v, b, q, d, rfl, hb.go G7, D7, E.dl, _, _, .int _, rfl, .int _, .int _, repr_int b0 b1, _, rfl, iteF ?_⟩
        exact ⟨g6.thn0 s7, _, _, rfl⟩
      · rw [decide_eq_false hw]
        exact iteF (iteF ⟨g6.thn0 s7, _, _, rfl⟩)
    · rintro σ H6 ⟨g6, z6, z7, rfl⟩
      exact hq _ (G5.thn0 g6)
end
end K29
/-! text K29Exc -/
namespace K29
open PySem PySem.Spec PyProof.Rows L2
/-! ### a caught exception that a name keeps -/
/-- an exception object of the class cls, without a dict of its own -/
def ErO (cls : Value) (a : Addr) : HO := .ext fun h => ∃ (oe : Obj) (vs : Array Value), h.get? a = some oe ∧ Zc cls none oe ∧ oe.data = .fields vs
theorem erO_ok {P : Program} {w : World} {H : Hp} {h : Heap} {a : Addr} {cls : Value} {oe : Obj} {vs : Array Value} (e : h.get? a = some oe) (z : Zc cls none oe) (d : oe.data = .fields vs) : ObjOk P w H h a (ErO cls a) :=
  ⟨⟨oe, vs, e, z, d⟩, ⟨oe, e⟩, fun _ _ ⟨o, v, q, r⟩ k => ⟨o, v, k o q, r⟩⟩
section
variable {X : Cx} {pins : List (Addr × Obj)} {σ : L2.St} {H : Hp} {s : Shared}
/-- an object of ours that was not tracked is tracked from now on -/
theorem inv_track {a : Addr} {o : HO} (I : Inv X pins σ H s) (hn : H a = none) (h0 : X.s_0.heap.get? a = none) (nL : a ≠ X.env.locals) (nC : ∀ x c, X.env.cells.lookup x = some c → c ≠ a) (nP : ∀ p ∈ X.pn ++ pins, p.1 ≠ a) (ok : ObjOk X.prog X.w (upd H a o) s.heap a o) :
    Inv X pins σ (upd H a o) s := by
  have ne : ∀ b u, H b = some u → b ≠ a := fun b u e => ne_of_none e hn
  have ne0 : ∀ b u, X.s_0.heap.get? b = some u → b ≠ a := fun b u e z => by
    rw [z, h0] at e
    cases e
  refine ⟨I.ok, I.os, I.bare, ⟨I.base.keep, I.base.slot, fun b u e n hx => ?_, I.base.there, fun b xs e => ?_, fun b ob u e => ?_, fun b ps e => ?_⟩, I.loc, I.cell, ?_, fun x c e => ?_, fun p hp => ?_, fun b u e => ?_, I.len⟩
  · rw [upd_ne (ne0 b u e)]
    exact I.base.free b u e n hx
  · have q := I.base.tups b xs e
    rw [upd_ne (ne b _ q)]
    exact q
  · have q := I.base.frzs b ob u e
    rw [upd_ne (ne b _ q)]
    exact q
  · obtain ⟨m, q⟩ := I.base.tbls b ps e
    exact ⟨m, by rw [upd_ne (ne b _ q)]; exact q⟩
  · rw [upd_ne (Ne.symm nL)]
    exact I.free
  · rw [upd_ne (nC x c e)]
    exact I.freeC x c e
  · obtain ⟨e, n, r⟩ := I.pin p hp
    exact ⟨e, by rw [upd_ne (nP p hp)]; exact n, r⟩
  · by_cases hb : b = a
    · rw [hb, upd_same] at e
      obtain rfl := Option.some.inj e
      rw [hb]
      exact ok
    · rw [upd_ne hb] at e
      exact (I.hok b u e).stay (fun c v _ q => q) (fun c q => by rw [upd_ne (ne c _ q)]; exact q) fun c xs q => by rw [upd_ne (ne c _ q)]; exact q
end
/-- what the clause 'except x as n: y = n' wishes of an exception of the body: the slots are i (n's) and j (y's) -/
def wHold (K : PySem.W.Frag) (c : Value) (i j : Nat) (D : Ends) : WX := fun cls d σ H =>
  PySem.W.exmOne K cls c = some true ∧ d = none ∧ ∀ a, H a = none → D.nx ((σ.set j (some (.ref a))).set i none) (upd H a (ErO cls a))
section
variable {X : Cx} {x n y : Str} {c : Value} {i j : Nat} {body : List Stmt} {np yp n2 ap pos pos' : Pos} {tb : WX → TS} {Wout : WX}
theorem ps_try_hold (hs : X.stack = X.env :: X.outer) (hf : X.env.frame = some X.env.locals) (hex : X.ex = []) (hN : X.N.Nodup) (hi : X.N[i]? = some n) (hln : X.env.kindOf n = some .local) (hj : X.N[j]? = some y) (hly : X.env.kindOf y = some .local) (hij : i ≠ j) (hc : Names X x c) (hdn : (n == ("__debug__" : Str)) = false) (hcn : (n == ("__classdict__" : Str)) = false)
    (hsw : ∀ A' : Around, swapsWith (.Name n n2) (some (.Name y yp)) ap.line X.env = pure false)
    (hb : ∀ (W : WX) (pn : List (Addr × Obj)) (xe : Value → Shared → Prop), Takes (X.tr pn xe) W → PassesOwn (model X.prog X.w) X.A X.env xe → PSs (X.tr pn xe) body (tb W)) :
    PS X (.Try body [.ExceptHandler (some (.Name x np)) (some n) [.Assign [.Name y yp] (.Name n n2) ap] pos'] [] [] pos) (fun D σ H => tb (wHold X.K c i j D) D σ H) := by
  refine ⟨fun pins s σ H D I h => ?_⟩
  have ok := I.ok
  have hfr : X.A.frames = some (X.env :: X.outer) := by rw [ok.frames, hs]
  refine wpAny_Try_except ?_
  refine wpAny_mono ((hb (wHold X.K c i j D) (X.pn ++ pins) (fun e s₁ => wpAny (model X.prog X.w) X.A (noteFrame e X.env) (fun _ s₂ => wpAny (model X.prog X.w) X.A (setFlight e none) (fun _ s₃ =>
    wpAny (model X.prog X.w) X.A (handleBy e X.env [.ExceptHandler (some (.Name x np)) (some n) [.Assign [.Name y yp] (.Name n n2) ap] pos']) (L2.SP X pins D) X.xe s₃) X.xe s₂) X.xe s₁) (fun u s' xx => ?_) PassesOwn.looking).run [] s σ H D (I.toTry _) h) (fun f s1 hsp => ?_) (fun e s1 he => he)
  · obtain ⟨a, B, sI, pins', σ', H', cls, d, rfl, J', nb, up, sky, na, os, ag, hyes, rfl, hD⟩ := xx
    have J : Inv X pins σ' H' sI := J'.ofTry ok
    have sky' : Sky B (X.env :: X.outer) a (Zc cls none) X.env.locals s'.heap := by rw [← hs]; exact sky
    show wpAny (model X.prog X.w) X.A (noteFrame (.ref a) X.env) _ _ _
    refine Sky.land Zc.steady hfr hf sky' fun h3 fl3 up3 => ?_
    have J3 : Inv X pins σ' H' { s' with heap := h3 } := J.landed nb fl3.1 (up.trans up3) os ag
    obtain ⟨oe3, vs3, he3, hz3, hd3⟩ := fl3.there
    have notFr : ∀ {h : Heap} {o : Obj} {vs : Array Value}, h.FunFrames B (X.env :: X.outer) → h.get? a = some o → o.data = .fields vs → a ∉ frs (X.env :: X.outer) := fun {h o vs} ff e dd hm => by
      obtain ⟨_, o', e', hnf⟩ := ff.mem hm
      rw [e] at e'
      obtain rfl := Option.some.inj e'
      exact hnf _ dd
    have nfr := notFr fl3.2.2.1 he3 hd3
    have nL : a ≠ X.env.locals := fun z => nfr (List.mem_filterMap.mpr ⟨X.env, List.mem_cons_self, by rw [hf, z]⟩)
    have nF : a ∉ X.fs := fun hm => by
      obtain ⟨e, he, q⟩ := List.mem_filterMap.mp hm
      exact nfr (List.mem_filterMap.mpr ⟨e, List.mem_cons_of_mem _ he, q⟩)
    have nStk : a ∉ frs X.stack := by rw [hs]; exact nfr
    have nB : B.get? a = none := fl3.2.1
    have nI : sI.heap.get? a = none := by
      cases q : sI.heap.get? a with
      | none => rfl
      | some o =>
        have z := nb a o q nStk
        rw [nB] at z
        cases z
    have n0 : X.s_0.heap.get? a = none := by
      cases q : X.s_0.heap.get? a with
      | none => rfl
      | some o =>
        obtain ⟨o', z⟩ := J.base.there a o q (by rw [hex]; exact fun z => nomatch z)
        rw [nI] at z
        cases z
    have nP : ∀ p ∈ X.pn ++ pins, p.1 ≠ a := fun p hp z => by
      have e := (J.pin p hp).1
      rw [z, nI] at e
      cases e
    have nC : ∀ x c, X.env.cells.lookup x = some c → c ≠ a := fun x c e z => by
      obtain ⟨v, o, ho, _⟩ := J.cell x c e
      rw [z, nI] at ho
      cases ho
    have S3 := J3.suite he3 hd3 na nL nF
    refine wpAny_handleBy_cons (codeAny_handlers_test ?_) (by intro q; cases q)
    have LT : PySem.W.Looks (model X.prog X.w) h3 (typeOf (.ref a)) cls := fun A Q E s k q => wpAny_typeOf_ref (k _ _ he3) (by rw [hz3.1]; exact q)
    have LM := PySem.W.exm_one (M := model X.prog X.w) (J3.kIn) LT hyes
    have test : ∀ {Q : Value → Shared → Prop} {E : Value → Shared → Prop}, Q c { s' with heap := h3 } → wpAny (model X.prog X.w) (X.A.mark (some (.ref a))) (eval (.Name x np) X.env) Q E { s' with heap := h3 } := fun {Q E} q => by
      obtain ⟨hg, hdbg, hm | ⟨hm, hv, hnn⟩⟩ := hc
      · exact ld_glob (X := X.suite a ((a, oe3) :: (X.pn ++ pins))) S3 hg hm q hdbg
      · exact ld_blt (X := X.suite a ((a, oe3) :: (X.pn ++ pins))) S3 hg hm hv q hnn hdbg
    refine test (LM.here ?_)
    refine codeAny_handlers_suite_as ?_
    refine HandSPX.lands_againZ fl3 fun h4 fl4 up4 => ?_
    have J4 : Inv X pins σ' H' { s' with heap := h4 } := J.landed nb fl4.1 ((up.trans up3).trans up4) os ag
    obtain ⟨oe4, vs4, he4, hz4, hd4⟩ := fl4.there
    have S4 := J4.suite he4 hd4 na nL nF
    refine store_ok (X := X.suite a ((a, oe4) :: (X.pn ++ pins))) (v := .ref a) S4 hN hi (.inl hln) rfl (fun s5 S5 => ?_) (.inr hln)
    -- y = n
    have hiσ : i < σ'.length := by
      rw [J.len]
      exact (List.getElem?_eq_some_iff.mp hi).1
    have pn : PE (X.suite a ((a, oe4) :: (X.pn ++ pins))) (.Name n n2) (tVar i) := pe_var hi (.inl hln) hdn hcn
    have body2 : PSs (X.suite a ((a, oe4) :: (X.pn ++ pins))) [.Assign [.Name y yp] (.Name n n2) ap] (tAsg (tVar i) (gName j)) :=
      pss_one (ps_set (X := X.suite a ((a, oe4) :: (X.pn ++ pins))) hN hj (.inl hly) pn (hsw X.A) (.inr hly))
    refine wpAny_mono (body2.run [] s5 _ H' { nx := fun σ'' H'' => σ'' = (σ'.set i (some (.ref a))).set j (some (.ref a)) ∧ H'' = H', rt := fun _ _ => False } S5 ⟨.ref a, List.getElem?_set_self hiσ, rfl, rfl⟩) (fun f s6 hsp => ?_) (fun _ _ z => False.elim z)
    cases f with
    | next =>
      obtain ⟨σ6, H6, S6, rfl, rfl⟩ := hsp
      refine gone_ok (X := X.suite a ((a, oe4) :: (X.pn ++ pins))) S6 hN hi hln fun s7 J7 => ?_
      have pin7 := (J7.pin (a, oe4) (List.mem_append.mpr (.inl List.mem_cons_self))).1
      have J8 : Inv X pins _ H6 s7 := J7.unsuite ok
      have J9 := inv_track (o := ErO cls a) J8 na n0 nL nC nP (erO_ok pin7 hz4 hd4)
      have e : (((σ'.set i (some (V.ref a))).set j (some (V.ref a))).set i none) = (σ'.set j (some (V.ref a))).set i none := by
        rw [List.set_comm _ _ hij, List.set_set]
      rw [e] at J9
      exact ⟨_, _, J9, hD a na⟩
    | brk =>
      obtain ⟨_, _, _, z⟩ := hsp
      exact False.elim z
    | cont =>
      obtain ⟨_, _, _, z⟩ := hsp
      exact False.elim z
    | ret u =>
      obtain ⟨_, _, _, _, _, z⟩ := hsp
      exact False.elim z
  · cases f with
    | next =>
      obtain ⟨σ', H', J', q⟩ := hsp
      exact wpAny_execs_nil ⟨σ', H', J'.ofTry ok, q⟩
    | brk =>
      obtain ⟨σ', H', J', q⟩ := hsp
      exact ⟨σ', H', J'.ofTry ok, q⟩
    | cont =>
      obtain ⟨σ', H', J', q⟩ := hsp
      exact ⟨σ', H', J'.ofTry ok, q⟩
    | ret u =>
      obtain ⟨v, σ', H', J', r, q⟩ := hsp
      exact ⟨v, σ', H', J'.ofTry ok, r, q⟩
end

/-! ### isinstance of a kept exception -/
def rIsEr (K : PySem.W.Frag) (D : Addr) : List V → Hp → VK → Prop := fun xs H Q => ∃ (a : Addr) (c : V) (cv : Value) (b : Bool), xs = [.ref a, c] ∧ H a = some (ErO (.ref D) a) ∧ (∀ u, RelV c u → u = cv) ∧ PySem.W.kitOne K (.ref D) cv = some b ∧ Q (.bl b) H
theorem call_isEr {X : Cx} {D : Addr} (C : ExcC X.K D) : CallR X (.builtin "isinstance") (rIsEr X.K D) := by
  intro pins s σ H xs us Q I r h
  obtain ⟨a, c, cv, b, rfl, ha, hcv, e, q⟩ := h
  cases r with
  | cons rx rr =>
    cases rr with
    | cons rt rr =>
      cases rr
      cases rx
      have ec := hcv _ rt
      subst ec
      obtain ⟨⟨oe, vs, hget, hz, hv⟩, _, _⟩ := I.hok a _ ha
      have J : PySem.W.InstAt s.heap a oe D none := by
        obtain ⟨oc, od, oda, osl⟩ := oe
        obtain ⟨h1, h2⟩ := hz
        dsimp only at h1 h2 hv
        subst h1 h2 hv
        exact ⟨hget, rfl, rfl, trivial⟩
      exact PySem.W.kia_one (PySem.W.handS_kitx_exc C.hg C.hk C.hs C.hd C.ha C.hn C.ht C.hm) I.kIn J e (fun z => nomatch z) fun tk => ⟨.bl b, H, I.kept (t' := tk) fun _ _ z => z, rfl, q⟩
end K29
/-! text K29X1 -/
namespace K29
open PySem PySem.Spec PyProof.Rows L2 LamX
section
variable {X : Cx} {k j : Nat} {f C : Addr} {ps : List Str} {sp : Sp} {x m : Str} {p pos apos : Pos} {e o : Expr} {es : List Expr} {ta : TE} {t : TA} {E : XK}
theorem pe_mX {pl : Sem Bool} (c : Cls X.K C) (hm : Meth X.K C m f) (B : XB X.prog X.w X.K X.mg X.base k f ps sp) (hr : Room j X.A) (hx : Passes (L2.CX X.prog X.w) X E) (he : PE X o ta) (ha : PA X (e :: es) t) (hkj : k ≤ j := by decide)
    (hst : starEach (e :: es) X.env = (false, eval e X.env) :: starEach es X.env := by rfl) (hpl : (backTo pos (starEach es X.env)).any (·.1) = false := by rfl)
    (ht : eval (.Call (.Attribute o m apos) (e :: es) [] pos) X.env = (do
      let ov ← eval o X.env
      standAt apos.atName
      let (f, first) ← holding [ov] (getMethod ov m pl)
      callWith pos f first (backTo pos (starEach (e :: es) X.env)) (backToKw pos (keywordEach [] X.env))) := by rfl) : PE X (.Call (.Attribute o m apos) (e :: es) [] pos) (tMeth C m sp [] E ta t) := by
  obtain ⟨⟨fd, F, b⟩, kp⟩ := B
  exact pe_meth he c hm F (hr.mono hkj) b .nil hx ha hst hpl ht
end
section
variable {P : Program} {w : World} {K : PySem.W.Frag} {mg : Str → Option Value} {base : Heap} {T : List (Addr × Str)}
/-! ### a number that is none: NoNumber leaves -/
def sp_no (K : PySem.W.Frag) (more : List V) : Sp := fun vs H _ E => ∃ (p dx : Addr) (ob : V) (Ld Lg : Addr) (qs : List (Addr × Addr)) (n : Nat), vs = .ref p :: (more ++ [.int n]) ∧ H p = some (.ins (cS K) dx (sFl ob (.ref Ld) (.ref Lg))) ∧ H Ld = some (.lst (qs.map fun q => .ref q.1)) ∧ qs.length ≤ n ∧ E (.ref (cN K)) none H
theorem x_S_deal_by (t : Tp K mg) (x : Ex K) : XB P w K mg base 1 (He.fAd K ("Stepper", some "deal_by")) p_S_deal_by (sp_no K []) := by
  refine XB.of t.f_S_deal_by sc_S_deal_by (fun vs H Q E ⟨_, _, _, _, _, _, _, h, _⟩ => by rw [h]; rfl) (fun cdv A outer s H vs Q E hr h => ?_)
  obtain ⟨p, dx, ob, Ld, Lg, qs, n, rfl, hp, hL, hl, hE⟩ := h
  refine ⟨_, pss_cons (ps_if (PW.pt (pw_or (pt_not (pt_val (pe_callB call_isi (by rfl) t.b_isinstance (by decide +kernel) (pa_cons (pv 1) (pa_cons (pe_bltn (v := .ty "int") rfl t.b_int (by decide +kernel) rfl) pa_nil)))))
      (pw_or (pt_val (pe_callB call_isi (by rfl) t.b_isinstance (by decide +kernel) (pa_cons (pv 1) (pa_cons (pe_bltn (v := .ty "bool") rfl t.b_bool (by decide +kernel) rfl) pa_nil))))
      (pw_or1 (pt_not (pt_chain op_le op_lt pe_int (pv 1) (pe_callB call_len (by rfl) t.b_len PySem.boot_len (pa_cons (pe_fld (pv 0) rfl) pa_nil))))))))
      (pss_one (ps_raise rfl (takes_of rfl rfl rfl rfl) (pmk_own PySem.F.excBase_Exception x.x t.g_NoNumber x.k (raises_own x.b x.t) rfl))) pss_nil) pss_never, ?_⟩
  refine ⟨_, rfl, _, _, _, _, true, rfl, .ty _, .base (.int _), kit_ty (by decide +kernel), _, rfl, iteF ?_⟩
  refine ⟨_, rfl, _, _, _, _, false, rfl, .ty _, .base (.int _), kit_ty (by decide +kernel), _, rfl, iteF ?_⟩
  refine ⟨_, rfl, _, _, rfl, rfl, _, rfl, ?_⟩
  rw [decide_eq_true (by omega)]
  refine iteT ⟨_, rfl, p, _, dx, _, _, rfl, hp, t.c_Stepper, t.n_deals, sFl_deals, _, qs.length, rfl, .inl ⟨_, .inl (.inl hL), by simp⟩, _, _, rfl, rfl, _, rfl, ?_⟩
  rw [decide_eq_false (by omega)]
  exact iteT hE
theorem x_S_open_deal (t : Tp K mg) (x : Ex K) : XB P w K mg base 2 (He.fAd K ("Stepper", some "open_deal")) p_S_open_deal (sp_no K []) := by
  refine XB.of t.f_S_open_deal sc_S_open_deal (fun vs H Q E ⟨_, _, _, _, _, _, _, h, _⟩ => by rw [h]; rfl) (fun cdv A outer s H vs Q E hr h => ?_)
  obtain ⟨p, dx, ob, Ld, Lg, qs, n, rfl, hp, hL, hl, hE⟩ := h
  have nd := sc_S_open_deal.nd
  refine ⟨_, pss_cons (ps_set (i := 2) nd rfl (Or.inl rfl) (pe_mX (E := E) t.c_Stepper t.m_S_deal_by (x_S_deal_by t x) hr (passes_call (takes_of rfl rfl rfl rfl) fun _ _ _ _ h => h) (pv 0) (pa_cons (pv 1) pa_nil))) pss_never, ?_⟩
  exact ⟨_, rfl, p, dx, _, rfl, hp, sFl_m1, _, rfl, p, dx, ob, Ld, Lg, qs, n, rfl, hp, hL, hl, hE⟩
theorem x_S_step (t : Tp K mg) (x : Ex K) : XB P w K mg base 3 (He.fAd K ("Stepper", some "step")) p_S_step (sp_no K []) := by
  refine XB.of t.f_S_step sc_S_step (fun vs H Q E ⟨_, _, _, _, _, _, _, h, _⟩ => by rw [h]; rfl) (fun cdv A outer s H vs Q E hr h => ?_)
  obtain ⟨p, dx, ob, Ld, Lg, qs, n, rfl, hp, hL, hl, hE⟩ := h
  have nd := sc_S_step.nd
  refine ⟨_, pss_cons (ps_set (i := 2) nd rfl (Or.inl rfl) (pe_mX (E := E) t.c_Stepper t.m_S_open_deal (x_S_open_deal t x) hr (passes_call (takes_of rfl rfl rfl rfl) fun _ _ _ _ h => h) (pv 0) (pa_cons (pv 1) pa_nil))) pss_never, ?_⟩
  exact ⟨_, rfl, p, dx, _, rfl, hp, sFl_m2, _, rfl, p, dx, ob, Ld, Lg, qs, n, rfl, hp, hL, hl, hE⟩
def sp_wish (K : PySem.W.Frag) : Sp := fun vs H _ E => ∃ (p dx : Addr) (ob : V) (Ld Lg : Addr) (qs : List (Addr × Addr)) (n : Nat), vs = [.ref p, .str "step", .int n, .non] ∧ H p = some (.ins (cS K) dx (sFl ob (.ref Ld) (.ref Lg))) ∧ H Ld = some (.lst (qs.map fun q => .ref q.1)) ∧ qs.length ≤ n ∧ E (.ref (cN K)) none H
theorem x_l_wish (t : Tp K mg) (x : Ex K) : XB P w K mg base 4 (He.ga K "_law_wish") p_l_wish (sp_wish K) := by
  refine XB.of t.f_l_wish sc_l_wish (fun vs H Q E ⟨_, _, _, _, _, _, _, h, _⟩ => by rw [h]; rfl) (fun cdv A outer s H vs Q E hr h => ?_)
  obtain ⟨p, dx, ob, Ld, Lg, qs, n, rfl, hp, hL, hl, hE⟩ := h
  refine ⟨_, pss_cons (ps_if (pt_cmpR op_eq (pv 1) pe_str (nomark _)) (pss_one ps_never) pss_nil)
    (pss_cons (ps_if (pt_cmpR op_eq (pv 1) pe_str (nomark _)) (pss_one (ps_ret (pe_mX (E := E) t.c_Stepper t.m_S_step (x_S_step t x) hr (passes_call (takes_of rfl rfl rfl rfl) fun _ _ _ _ h => h) (pv 0) (pa_cons (pv 2) pa_nil)))) pss_nil) pss_never), ?_⟩
  refine ⟨_, rfl, rfl, _, rfl, ?_⟩
  rw [show decide (V.str "step" = V.str "begin") = false by decide +kernel]
  refine iteF ⟨_, rfl, rfl, _, rfl, ?_⟩
  rw [decide_eq_true rfl]
  exact iteT ⟨_, rfl, p, dx, _, rfl, hp, sFl_m4, _, rfl, p, dx, ob, Ld, Lg, qs, n, rfl, hp, hL, hl, hE⟩
end
end K29
/-! text K29X2 -/
namespace K29
open PySem PySem.Spec PyProof.Rows L2 LamX
/-! ### list.count of bools -/
def isB (k : Bool) : Value → Bool
  | .bool b => b == k
  | _ => false
def rCntB (K : PySem.W.Frag) : V → List V → Hp → VK → Prop := fun x xs H Q => ∃ (p : Addr) (bs : List Bool) (k : Bool), x = .ref p ∧ xs = [.bl k] ∧ SqL K H p (bs.map V.bl) ∧ Q (.int (bs.count k : Nat)) H
theorem bls_of_vals : ∀ {bs : List Bool} {its : List Value}, Vals (bs.map V.bl) its → its = bs.map Value.bool
  | [], _, h => by cases h; rfl
  | b :: bs, _, h => by
    cases h with
    | cons r t =>
      have r : _ = Value.bool b := r
      rw [r, bls_of_vals t]
      rfl
theorem countP_isB (k : Bool) : ∀ bs : List Bool, (bs.map Value.bool).countP (isB k) = bs.count k
  | [] => rfl
  | b :: bs => by
    rw [List.map_cons, List.countP_cons, countP_isB k bs, List.count_cons]
    rfl
section
variable {X : Cx}
theorem mt_bcount : MtR X "list.count" (rCntB X.K) := by
  intro pins s σ H x xs v us Q I rx rxs h
  obtain ⟨p, bs, k, rfl, rfl, hs, q⟩ := h
  cases rx
  obtain ⟨u, rfl, ru⟩ := rxs.one
  obtain rfl : u = Value.bool k := ru
  obtain ⟨its, rv, ⟨⟨cls, dd, data, sl⟩, n, ho, hc, hdn, hd⟩, hlen⟩ := I.list hs
  simp only at hc hd
  subst hc hd
  have hi := bls_of_vals rv
  subst hi
  refine call_meets PySem.F.slot_list_count ⟨_, ho, rfl⟩ PySem.F.entry_list_count (PySem.F.args_list_count_2 _ _)
    (SeqAt.list_countAt p (bs.map Value.bool).toArray n dd sl (.bool k) (isB k)) ⟨ho, fun y hy => ?_, ?_⟩
  · have hy : y ∈ bs.map Value.bool := by simpa using hy
    obtain ⟨b, _, rfl⟩ := List.mem_map.mp hy
    exact eqAt_V (y := .bl b) (x := .bl k) rfl rfl rfl rfl
  · refine ⟨.int (bs.count k : Nat), H, I.tok _, ⟨s.toks, ?_⟩, q⟩
    show Value.int (((bs.map Value.bool).toArray.toList.countP (isB k) : Nat) : Int) s.toks = Value.int ((bs.count k : Nat) : Int) s.toks
    rw [show (bs.map Value.bool).toArray.toList = bs.map Value.bool from rfl, countP_isB]
end
section
variable {P : Program} {w : World} {K : PySem.W.Frag} {mg : Str → Option Value} {base : Heap} {T : List (Addr × Str)}
/-! ### kind, told -/
def sp_l_kind (K : PySem.W.Frag) (T : List (Addr × Str)) : Sp := fun vs H Q _ => ∃ a, vs = [.ref a] ∧ H a = some (ErO (.ref (cN K)) a) ∧ ∀ H', Go T No H H' → Q (.str "NoNumber") H'
theorem rel_ref {D : Addr} : ∀ u, RelV (.ref D) u → u = Value.ref D := fun u r => r
theorem b_l_kind (t : Tp K mg) (x : Ex K) : FB P w K mg base 1 (He.ga K "_law_kind") p_l_kind (sp_l_kind K T) := by
  refine FB.of t.f_l_kind sc_l_kind (fun vs H Q E ⟨_, h, _⟩ => by rw [h]; rfl) (fun cdv A outer s H vs Q E hr h => ?_)
  obtain ⟨a, rfl, ha, hq⟩ := h
  have nd := sc_l_kind.nd
  refine ⟨_, pss_cons (ps_set (i := 1) nd rfl (Or.inl rfl) (pe_lst (pa_cons (pe_callB (call_isEr x.c) (by rfl) t.b_isinstance (by decide +kernel) (pa_cons (pv 0) (pa_cons (pe_glob (v := .ref (He.ga K "NoDealing")) rfl t.g_NoDealing rfl) pa_nil))) (pa_cons (pe_callB (call_isEr x.c) (by rfl) t.b_isinstance (by decide +kernel) (pa_cons (pv 0) (pa_cons (pe_glob (v := .ref (He.ga K "NoKeys")) rfl t.g_NoKeys rfl) pa_nil))) (pa_cons (pe_callB (call_isEr x.c) (by rfl) t.b_isinstance (by decide +kernel) (pa_cons (pv 0) (pa_cons (pe_glob (v := .ref (He.ga K "TooMany")) rfl t.g_TooMany rfl) pa_nil))) pa_nil)))))
    (pss_cons (ps_set (i := 1) nd rfl (Or.inl rfl) (pe_op op_catR (pv 1) (pe_lst (pa_cons (pe_callB (call_isEr x.c) (by rfl) t.b_isinstance (by decide +kernel) (pa_cons (pv 0) (pa_cons (pe_glob (v := .ref (He.ga K "NoNumber")) rfl t.g_NoNumber rfl) pa_nil))) (pa_cons (pe_callB (call_isEr x.c) (by rfl) t.b_isinstance (by decide +kernel) (pa_cons (pv 0) (pa_cons (pe_glob (v := .ref (He.ga K "Over")) rfl t.g_Over rfl) pa_nil))) (pa_cons (pe_callB (call_isEr x.c) (by rfl) t.b_isinstance (by decide +kernel) (pa_cons (pv 0) (pa_cons (pe_glob (v := .ref (He.ga K "NoStep")) rfl t.g_NoStep rfl) pa_nil))) pa_nil))))))
    (pss_cons (ps_set (i := 1) nd rfl (Or.inl rfl) (pe_op op_catR (pv 1) (pe_lst (pa_cons (pe_callB (call_isEr x.c) (by rfl) t.b_isinstance (by decide +kernel) (pa_cons (pv 0) (pa_cons (pe_glob (v := .ref (He.ga K "NoEnd")) rfl t.g_NoEnd rfl) pa_nil))) (pa_cons (pe_callB (call_isEr x.c) (by rfl) t.b_isinstance (by decide +kernel) (pa_cons (pv 0) (pa_cons (pe_glob (v := .ref (He.ga K "NoKey")) rfl t.g_NoKey rfl) pa_nil))) (pa_cons (pe_callB (call_isEr x.c) (by rfl) t.b_isinstance (by decide +kernel) (pa_cons (pv 0) (pa_cons (pe_glob (v := .ref (He.ga K "NoDeed")) rfl t.g_NoDeed rfl) pa_nil))) pa_nil))))))
    (pss_cons (ps_if (pt_cmpR op_ne (pe_bm PySem.F.plainAttrs_list PySem.F.slot_list_count PySem.F.type_list_count mt_bcount (pv 1) (pa_cons pe_bl pa_nil)) pe_int (nomark _)) (pss_one ps_never) pss_nil)
    (pss_cons (ps_set (i := 2) nd rfl (Or.inl rfl) (pe_bm PySem.F.plainAttrs_list PySem.F.slot_list_index PySem.F.type_list_index mt_index (pv 1) (pa_cons pe_bl pa_nil)))
    (pss_cons (ps_set (i := 3) nd rfl (Or.inl rfl) (pe_cmpR op_in_seq (pv 2) (pe_tup (pa_cons pe_int (pa_cons pe_int pa_nil))) (by rfl)))
    (pss_cons (ps_if (PW.pt (pw_or (pt_cmpR op_ne (pe_callB (call_isEr x.c) (by rfl) t.b_isinstance (by decide +kernel) (pa_cons (pv 0) (pa_cons (pe_glob (v := .ref (He.ga K "BookError")) rfl t.g_BookError rfl) pa_nil))) (pv 3) (nomark _)) (pw_or1 (pt_cmpR op_eq (pe_callB (call_isEr x.c) (by rfl) t.b_isinstance (by decide +kernel) (pa_cons (pv 0) (pa_cons (pe_glob (v := .ref (He.ga K "StepError")) rfl t.g_StepError rfl) pa_nil))) (pv 3) (nomark _))))) (pss_one ps_never) pss_nil)
    (pss_cons (ps_set (i := 4) nd rfl (Or.inl rfl) (pe_lst (pa_cons pe_str (pa_cons pe_str (pa_cons pe_str (pa_cons pe_str (pa_cons pe_str (pa_cons pe_str (pa_cons pe_str (pa_cons pe_str (pa_cons pe_str pa_nil)))))))))))
    (pss_one (ps_ret (pe_ix ix_list (pv 4) (pv 2) (fun _ _ => rfl))))))))))), ?_⟩
  refine ⟨_, rfl, a, _, _, false, rfl, ha, rel_ref, x.k1, _, rfl, a, _, _, false, rfl, ha, rel_ref, x.k2, _, rfl, a, _, _, false, rfl, ha, rel_ref, x.k3, by show 3 ≤ sizeLine; decide, fun L1 hL1 => ?_⟩
  have s1 : Go T No H (upd H L1 (.lst [.bl false, .bl false, .bl false])) := Go.refl.add hL1
  have e1 : upd H L1 (.lst [.bl false, .bl false, .bl false]) L1 = some (.lst [.bl false, .bl false, .bl false]) := upd_same
  have ha1 := upd_old (o := .lst [.bl false, .bl false, .bl false]) ha hL1
  generalize upd H L1 (.lst [.bl false, .bl false, .bl false]) = H1 at s1 e1 ha1
  refine ⟨_, rfl, _, rfl, a, _, _, true, rfl, ha1, rel_ref, x.k4, _, rfl, a, _, _, false, rfl, ha1, rel_ref, x.k5, _, rfl, a, _, _, false, rfl, ha1, rel_ref, x.k6, by show 3 ≤ sizeLine; decide, fun L2 hL2 => ?_⟩
  have e2 : upd H1 L2 (.lst [.bl true, .bl false, .bl false]) L2 = some (.lst [.bl true, .bl false, .bl false]) := upd_same
  have e12 := upd_old (o := .lst [.bl true, .bl false, .bl false]) e1 hL2
  have s2 : Go T No H (upd H1 L2 (.lst [.bl true, .bl false, .bl false])) := s1.add hL2
  have ha2 := upd_old (o := .lst [.bl true, .bl false, .bl false]) ha1 hL2
  generalize upd H1 L2 (.lst [.bl true, .bl false, .bl false]) = H2 at s2 e2 e12 ha2
  refine ⟨L1, L2, _, _, rfl, rfl, .inl e12, .inl e2, by show 3 + 3 ≤ sizeLine; decide, fun L3 hL3 => ?_⟩
  show tSeq _ _ _ _ (upd H2 L3 (.lst [.bl false, .bl false, .bl false, .bl true, .bl false, .bl false]))
  have e3 : upd H2 L3 (.lst [.bl false, .bl false, .bl false, .bl true, .bl false, .bl false]) L3 = some (.lst [.bl false, .bl false, .bl false, .bl true, .bl false, .bl false]) := upd_same
  have s3 : Go T No H (upd H2 L3 (.lst [.bl false, .bl false, .bl false, .bl true, .bl false, .bl false])) := s2.add hL3
  have ha3 := upd_old (o := .lst [.bl false, .bl false, .bl false, .bl true, .bl false, .bl false]) ha2 hL3
  generalize upd H2 L3 (.lst [.bl false, .bl false, .bl false, .bl true, .bl false, .bl false]) = H3 at s3 e3 ha3
  refine ⟨_, rfl, _, rfl, a, _, _, false, rfl, ha3, rel_ref, x.k7, _, rfl, a, _, _, false, rfl, ha3, rel_ref, x.k8, _, rfl, a, _, _, false, rfl, ha3, rel_ref, x.k9, by show 3 ≤ sizeLine; decide, fun L4 hL4 => ?_⟩
  have e4 : upd H3 L4 (.lst [.bl false, .bl false, .bl false]) L4 = some (.lst [.bl false, .bl false, .bl false]) := upd_same
  have e34 := upd_old (o := .lst [.bl false, .bl false, .bl false]) e3 hL4
  have s4 : Go T No H (upd H3 L4 (.lst [.bl false, .bl false, .bl false])) := s3.add hL4
  have ha4 := upd_old (o := .lst [.bl false, .bl false, .bl false]) ha3 hL4
  generalize upd H3 L4 (.lst [.bl false, .bl false, .bl false]) = H4 at s4 e4 e34 ha4
  refine ⟨L3, L4, _, _, rfl, rfl, .inl e34, .inl e4, by show 6 + 3 ≤ sizeLine; decide, fun L5 hL5 => ?_⟩
  show tSeq _ _ _ _ (upd H4 L5 (.lst ([false, false, false, true, false, false, false, false, false].map V.bl)))
  have e5 : upd H4 L5 (.lst ([false, false, false, true, false, false, false, false, false].map V.bl)) L5 = some (.lst ([false, false, false, true, false, false, false, false, false].map V.bl)) := upd_same
  have s5 : Go T No H (upd H4 L5 (.lst ([false, false, false, true, false, false, false, false, false].map V.bl))) := s4.add hL5
  have ha5 := upd_old (o := .lst ([false, false, false, true, false, false, false, false, false].map V.bl)) ha4 hL5
  generalize upd H4 L5 (.lst ([false, false, false, true, false, false, false, false, false].map V.bl)) = H5 at s5 e5 ha5
  refine ⟨_, rfl, .inl ⟨rfl, _, .inl (.inl e5)⟩, L5, [false, false, false, true, false, false, false, false, false], true, rfl, rfl, .inl (.inl e5), rfl, _, rfl, ?_⟩
  rw [show decide (V.int (([false, false, false, true, false, false, false, false, false].count true : Nat) : Int) = V.int 1) = true by decide +kernel]
  refine iteF ⟨_, rfl, .inl ⟨rfl, _, .inl (.inl e5)⟩, L5, _, .bl true, 3, .bl true, rfl, rfl, .inl (.inl e5), rfl, by decide +kernel, rfl, rfl, fun m z hm hz => ?_, ?_⟩
  · match m, hm with
    | 0, _ => cases hz; rfl
    | 1, _ => cases hz; rfl
    | 2, _ => cases hz; rfl
  refine ⟨_, rfl, by show 2 ≤ sizeLine; decide, fun L6 hL6 => ?_⟩
  have e6 : upd H5 L6 (.tup [.int 1, .int 7]) L6 = some (.tup [.int 1, .int 7]) := upd_same
  have s6 : Go T No H (upd H5 L6 (.tup [.int 1, .int 7])) := s5.add hL6
  have ha6 := upd_old (o := .tup [.int 1, .int 7]) ha5 hL6
  generalize upd H5 L6 (.tup [.int 1, .int 7]) = H6 at s6 e6 ha6
  refine ⟨L6, _, rfl, .inr (SqT.of e6), rfl, by decide +kernel, ?_⟩
  show tSeq _ _ _ [_, _, _, some (.bl (inV (.int 3) [.int 1, .int 7])), _] H6
  rw [show inV (.int 3) [.int 1, .int 7] = false by decide +kernel]
  refine ⟨_, rfl, a, _, _, false, rfl, ha6, rel_ref, x.ka, _, rfl, rfl, _, rfl, ?_⟩
  rw [show decide (V.bl false = V.bl false) = true by decide +kernel]
  refine iteF ⟨_, rfl, a, _, _, true, rfl, ha6, rel_ref, x.kb, _, rfl, rfl, _, rfl, ?_⟩
  rw [show decide (V.bl true = V.bl false) = false by decide +kernel]
  refine iteF ⟨by show 9 ≤ sizeLine; decide, fun L7 hL7 => ?_⟩
  exact ⟨_, rfl, _, rfl, _, _, 3, _, rfl, rfl, .inl (.inl upd_same), atI_nat (j := 3) rfl, hq _ (s6.add hL7)⟩
def sp_l_told (K : PySem.W.Frag) (T : List (Addr × Str)) : Sp := fun vs H Q _ => ∃ (p : Addr) (b : Bk) (ds : List Ds) (rows : List Row) (fp : List Addr) (n : Nat), vs = [.ref p, .str "step", .int n, .non] ∧ StAt K H p b ds rows fp ∧ ds.length ≤ n ∧ ∀ H', Go T No H H' → Q (.str "NoNumber") H'
theorem b_l_told (t : Tp K mg) (x : Ex K) : FB P w K mg base 5 (He.ga K "_law_told") p_l_told (sp_l_told K T) := by
  refine FB.of t.f_l_told sc_l_told (fun vs H Q E ⟨_, _, _, _, _, _, h, _⟩ => by rw [h]; rfl) (fun cdv A outer s H vs Q E hr h => ?_)
  obtain ⟨p, b, ds, rows, fp, n, rfl, hS, hl, hq⟩ := h
  have nd := sc_l_told.nd
  refine ⟨_, pss_cons (ps_set (i := 4) nd rfl (Or.inl rfl) pe_non)
    (pss_cons (ps_try_hold (i := 5) (j := 4) (c := .ref (He.ga K "SnapError")) (tb := fun W => tDrop (tCallS (sp_wish K) (fun σ => WE W σ) (tCons (tVar 0) (tCons (tVar 1) (tCons (tVar 2) (tCons (tVar 3) tNil)))))) rfl rfl rfl nd rfl rfl rfl rfl (by decide) ⟨rfl, by decide, .inl t.g_SnapError⟩ (by decide) (by decide) (fun _ => rfl)
      (fun W pn xe tk _ => by
        obtain ⟨⟨fd, F, bb⟩, kp⟩ := x_l_wish (P := P) (w := w) (base := base) t x
        exact pss_one (ps_expr (pe_callS F hr rfl t.g_law_wish kp bb (fun σ => passAt tk σ) (pa_cons (pv 0) (pa_cons (pv 1) (pa_cons (pv 2) (pa_cons (pv 3) pa_nil))))))))
    (pss_cons (ps_if (pt_cmpR op_isN (pv 4) pe_non (nomark _)) (pss_one ps_never) pss_nil)
    (pss_one (ps_ret (pe_f (b_l_kind (T := T) t x) t.g_law_kind hr (pa_cons (pv 4) pa_nil)))))), ?_⟩
  obtain ⟨dx, ob, Ld, Lg, qs, lg, S, rfl⟩ := hS
  refine ⟨_, rfl, _, rfl, _, rfl, _, rfl, p, dx, ob, Ld, Lg, qs, n, rfl, S.o, S.ld, by rw [S.dl.1]; exact hl, x.e, rfl, fun a ha => ?_⟩
  refine ⟨_, rfl, rfl, _, rfl, iteF ⟨_, rfl, a, rfl, upd_same, fun H' g => hq _ ((Go.refl.add ha).thn0 g)⟩⟩
end
end K29
/-! text K29L13 -/
namespace K29
open PySem PySem.Spec PyProof.Rows L2 LamX
section
variable {P : Program} {w : World} {K : PySem.W.Frag} {mg : Str → Option Value} {base : Heap}
/-! ### deed -/
/-- a stepper, its rows as the law keeps them -/
structure Un3 (K : PySem.W.Frag) (H : Hp) (p R : Addr) (b : Bk) (rows : List Row) (fp : List Addr) : Prop where
  s : StAt K H p b (agn b rows) rows fp
  r : ∃ rs, H R = some (.lst rs) ∧ FzL H rowD rs rows
  ok : OkR b rows
  n : R ∉ fp
theorem Un3.go {T : List (Addr × Str)} {M : Addr → Prop} {H H' : Hp} {p R : Addr} {b : Bk} {rows : List Row} {fp : List Addr} (U : Un3 K H p R b rows fp) (g : Go T M H H') (h1 : ¬ M R) (h2 : ∀ a ∈ fp, ¬ M a) : Un3 K H' p R b rows fp := by
  obtain ⟨s, ⟨rs, r1, r2⟩, ok, n⟩ := U
  exact ⟨s.go g h2, ⟨rs, g.lst r1 h1, r2.go g⟩, ok, n⟩
theorem Un3.go0 {T : List (Addr × Str)} {H H' : Hp} {p R : Addr} {b : Bk} {rows : List Row} {fp : List Addr} (U : Un3 K H p R b rows fp) (g : Go T No H H') : Un3 K H' p R b rows fp := U.go g id fun _ _ z => z
def sp_l_deed (K : PySem.W.Frag) : Sp := fun vs H Q _ => ∃ (q : Addr) (v : V) (p R : Addr) (b : Bk) (rows : List Row) (fp : List Addr), vs = [.ref q, v, .ref p, .ref R] ∧ PoolAt H q ∧ FzD H v (bkD b) ∧ WfB b ∧ Un3 K H p R b rows fp ∧ rows.length ≤ 800 ∧ Tabs (lmT K) H ∧ q ∉ fp ∧ q ≠ R ∧
  ∀ H' rows' fp', Go (lmT K) (fun c => c = q ∨ c = R ∨ c ∈ fp) H H' → Un3 K H' p R b rows' fp' → (∀ a ∈ fp', a ∈ fp ∨ Nw H a) → rows'.length ≤ rows.length + 5 → Q (.bl true) H'
theorem b_l_deed (t : Tp K mg) (x : Ex K) (TB : LmB K mg base) : GB P w K mg base 7 (He.ga K "_law_deed") p_l_deed (sp_l_deed K) := by
  refine GB.of t.f_l_deed sc_l_deed (fun vs H Q E ⟨_, _, _, _, _, _, _, h, _⟩ => by rw [h]; rfl) (fun cdv A outer s H vs Q E hg hr h => ?_)
  obtain ⟨q, v, p, R, b, rows, fp, rfl, hp, hb, wf, U, hrl, hT, nq, nqR, hq⟩ := h
  have nd := sc_l_deed.nd
  have hu := hu_of hr
  refine ⟨_, pss_cons (ps_set (i := 4) nd rfl (Or.inl rfl) (pe_f (b_l_again (T := lmT K) t) t.g_law_again hr (pa_cons (pv 1) (pa_cons (pv 3) pa_nil))))
    (pss_cons (ps_set (i := 5) nd rfl (Or.inl rfl) (pe_f (b_l_draw (T := lmT K) t) t.g_law_draw hr (pa_cons (pv 0) (pa_cons pe_int pa_nil))))
    (pss_cons (ps_if (PW.pt (pw_and (pt_cmpR op_eq (pv 5) pe_int (nomark _)) (pw_and1 (pt_cmpR (op_neD hr.units) (pv 3) (pe_lst pa_nil) (nomark _)))))
      (pss_cons (ps_expr (pe_bm0 PySem.F.plainAttrs_list PySem.F.slot_list_pop PySem.F.type_list_pop mt_pop (pv 3))) (pss_one (ps_ret (pe_cmpR op_isN (pe_m0 t.c_Stepper t.m_S_undo (b_S_undo (T := lmT K) t) hr (pv 2)) pe_non (nomark _))))) pss_nil)
    (pss_cons (ps_if (pt_cmpR op_eq (pv 5) pe_int (nomark _)) (pss_one (ps_ret (pe_cmpR op_eq (pe_f (b_l_told (T := lmT K) t x) t.g_law_told hr (pa_cons (pv 2) (pa_cons pe_str (pa_cons (pe_callB call_len (by rfl) t.b_len PySem.boot_len (pa_cons (pv 4) pa_nil)) (pa_cons pe_non pa_nil))))) pe_str (nomark _)))) pss_nil)
    (pss_cons (ps_for PassesOwn.never rfl (pi_list (pe_f (b_l_next (T := lmT K) t) t.g_law_next hr (pa_cons (pv 0) (pa_cons (pv 1) (pa_cons (pv 4) (pa_cons pe_int (pa_cons pe_int pa_nil))))))) (pg_name (i := 6) nd rfl (Or.inl rfl))
      (pss_one (ps_if (pt_not (pt_val (pe_g (b_l_same t) t.g_law_same hg hr (pa_cons (pe_f (b_l_doing t TB) t.g_law_doing hr (pa_cons (pv 2) (pa_cons (pv 6) pa_nil))) (pa_cons (pe_f (b_l_do (T := lmT K) t) t.g_law_do hr (pa_cons (pv 1) (pa_cons (pv 4) (pa_cons (pv 3) (pa_cons (pv 6) pa_nil))))) pa_nil))))) (pss_one (ps_ret pe_bl)) pss_nil)))
    (pss_one (ps_ret pe_bl)))))), ?_⟩
  have hS := U.s
  obtain ⟨rs, hR, hrs⟩ := U.r
  have hok := U.ok
  have S := hok.wf wf
  have n9 := S.n
  have hpo := pool_lst hp
  -- world
  refine ⟨_, rfl, _, rfl, v, b, R, rs, rows, rfl, hb, wf, hR, hrs, hok, by omega, fun a qs H1 g1 W1 hn1 => ?_⟩
  have U1 := U.go0 g1
  have nqW : q ∉ fpW a qs := fun z => by
    obtain ⟨o, e, n⟩ := hpo
    exact hn1 q z o e n
  have hp1 := hp.go g1 id
  -- way
  refine ⟨_, rfl, q, 8, rfl, hp1, by decide, by decide, fun way H2 hw g2 hp2 => ?_⟩
  have G2 : Go (lmT K) (fun c => c = q ∨ c = R ∨ c ∈ fp) H H2 := g1.wk.thn g2 fun c z => .inl (.inl z)
  have W2 := W1.go g2 fun c hc z => nqW (by rw [← z]; exact hc)
  have U2 := U1.go g2 (fun z => nqR z.symm) fun c hc z => nq (by rw [← z]; exact hc)
  obtain ⟨rs2, hR2, hrs2⟩ := U2.r
  have hb2 := (hb.go g1).go g2
  have hT2 := G2.tb hT
  -- what follows if nothing is undone
  have go_on : ∀ H3, Go (lmT K) No H2 H3 →
      (tSeq (tIfS (tTest (tOp rEq (tVar 5) (tC (.int 1)))) (tRet (tOp rEq (tCall (sp_l_told K (lmT K)) [] L2.E0 (tCons (tVar 2) (tCons (tC (.str "step")) (tCons (tCB (rLen K) (tCons (tVar 4) tNil)) (tCons (tC .non) tNil))))) (tC (.str "NoNumber")))) tNext)
        (tSeq (tFor (iList K (tCall (sp_l_next (lmT K)) [] L2.E0 (tCons (tVar 0) (tCons (tVar 1) (tCons (tVar 4) (tCons (tC (.int 9)) (tCons (tC (.int 2)) tNil))))))) (gName 6) (tIfS (tNot (tB (tCall (sp_l_same K) [] L2.E0 (tCons (tCall (sp_l_doing K) [] L2.E0 (tCons (tVar 2) (tCons (tVar 6) tNil))) (tCons (tCall (sp_l_do (lmT K)) [] L2.E0 (tCons (tVar 1) (tCons (tVar 4) (tCons (tVar 3) (tCons (tVar 6) tNil))))) tNil))))) (tRet (tC (.bl false))) tNext)) (tRet (tC (.bl true)))))
        { nx := fun _ H' => Q .non H', rt := Q } [some (.ref q), some v, some (.ref p), some (.ref R), some (.ref a), some (.int (way : Nat)), none] H3 := fun H3 g3 => by
    have G3 := G2.thn0 g3
    have W3 := W2.go0 g3
    have U3 := U2.go0 g3
    have hp3 := hp2.go g3 id
    have hb3 := hb2.go g3
    have hT3 := G3.tb hT
    have trR : ∀ c, Nw H c → c ≠ R := fun c n e => by subst e; exact n _ hR trivial
    have trF : ∀ c, Nw H c → c ∉ fp := fun c n e => by
      obtain ⟨o, e1, e2⟩ := hS.tr c e
      exact n o e1 e2.Nt
    refine ⟨_, rfl, rfl, _, rfl, ?_⟩
    by_cases hw1 : way = 1
    · rw [hw1, decide_eq_true (show V.int ((1 : Nat) : Int) = V.int 1 from rfl)]
      refine iteT ⟨_, rfl, _, rfl, _, (agn b rows).length, rfl, .inl ⟨_, .inl (.inl W3.l), by rw [List.length_map]; exact W3.d.1.symm⟩, p, b, _, rows, fp, _, rfl, U3.s, Nat.le_refl _, fun H4 g4 => ⟨rfl, ?_⟩⟩
      rw [decide_eq_true rfl]
      exact hq H4 rows fp (G3.thn0 g4) (U3.go0 g4) (fun a h => .inl h) (by omega)
    rw [decide_eq_false (by intro z; injection z with z; omega)]
    refine iteF ⟨_, rfl, _, rfl, _, rfl, q, v, b, a, qs, _, rfl, hp3, hb3, wf, W3, nqW, S, fun v' H4 rn g4 f4 hln hsq => ?_⟩
    have G4 : Go (lmT K) (fun c => c = q ∨ c = R ∨ c ∈ fp) H H4 := G3.thn g4 fun c z => .inl (.inl z)
    obtain ⟨ka, ko, kxs, rfl, hka, hkx⟩ := fz_list.mp f4
    have W4 := W3.go g4 fun c hc z => nqW (by rw [← z]; exact hc)
    have U4 := U3.go g4 (fun z => nqR z.symm) fun c hc z => nq (by rw [← z]; exact hc)
    refine ⟨ka, rfl, ⟨_, SqL_frz hka⟩, ?_⟩
    refine for_list (K := K) (a := ka) (xs := kxs) (fun i σ H6 => Go (lmT K) (fun _ => True) H4 H6 ∧ Go (lmT K) (fun c => c = q ∨ c = R ∨ c ∈ fp) H H6 ∧ ∃ (qs' : List (Addr × Addr)) (fp' : List Addr) (z6 : Option V), σ = [some (.ref q), some v, some (.ref p), some (.ref R), some (.ref a), some (.int (way : Nat)), z6] ∧
        WP H6 a qs' (agn b (rows ++ rn.take i)) ∧ Un3 K H6 p R b (rows ++ rn.take i) fp' ∧ (∀ c ∈ fp', c ∈ fp ∨ Nw H c) ∧ (∀ c ∈ fpW a qs', Nw H c) ∧ (∀ c ∈ fpW a qs', c ∉ fp') ∧ OkSeq b (agn b (rows ++ rn.take i)) (rows ++ rn.take i).length (rn.drop i))
      ⟨Go.refl, G4, qs, fp, none, rfl, by rw [List.take_zero, List.append_nil]; exact W4, by rw [List.take_zero, List.append_nil]; exact U4, fun c h => .inl h, hn1, fun c h => trF c (hn1 c h), by rw [List.take_zero, List.append_nil]; exact hsq _⟩
      (fun i σ H6 _ c => SqL_frz (c.1.fz _ _ hka trivial)) ?_ ?_
    · rintro i y σ H6 hi ⟨g6, G6, qs', fp', z6, rfl, W6, U6, hf, hnw, hd, hsq⟩
      obtain ⟨r, hr6, fr⟩ := hkx.atL hi
      have il : i < rn.length := (List.getElem?_eq_some_iff.mp hr6).1
      have er : rn[i] = r := (List.getElem?_eq_some_iff.mp hr6).2
      have et : rows ++ rn.take (i + 1) = (rows ++ rn.take i) ++ [r] := by rw [List.take_add_one, hr6, List.append_assoc]; rfl
      have ed : rn.drop i = r :: rn.drop (i + 1) := by rw [List.drop_eq_getElem_cons il, er]
      rw [ed] at hsq
      rw [et]
      have l6 : (rows ++ rn.take i).length ≤ 805 := by rw [List.length_append, List.length_take]; omega
      generalize rows ++ rn.take i = ri at W6 U6 hsq l6 ⊢
      obtain ⟨ho, hsq⟩ := hsq
      have S6 := U6.ok.wf wf
      have n96 := S6.n
      have fr6 := fr.go g6
      have ok' : OkR b (ri ++ [r]) := .snoc U6.ok ho
      have nRW : R ∉ fpW a qs' := fun z => trR R (hnw R z) rfl
      refine ⟨_, rfl, _, rfl, p, y, b, _, ri, fp', r, rfl, U6.s, fr6, wf, S6, ho, by omega, G6.tb hT, fun w1 H7 fp7 g7 st7 hf7 fw1 => ?_⟩
      have G7 : Go (lmT K) (fun c => c = q ∨ c = R ∨ c ∈ fp) H H7 := G6.thn g7 fun c z => (hf c z).imp (fun z => .inr (.inr z)) id
      have W7 := W6.go g7 fun c hc z => hd c hc z
      obtain ⟨rs7, h7, z7⟩ := (⟨_, g7.lst U6.r.choose_spec.1 U6.n, U6.r.choose_spec.2.go g7⟩ : ∃ rs, H7 R = some (.lst rs) ∧ FzL H7 rowD rs ri)
      refine ⟨_, rfl, _, rfl, _, rfl, _, rfl, v, b, a, qs', _, R, rs7, ri, y, r, rfl, ((hb3.go g4).go g6).go g7, wf, W7, h7, z7, nRW, fr6.go g7, rowW_of wf S6 ho, S6.v wf, by omega, by omega, fun w2 H8 qs8 rs8 g8 W8 hn8 h8 z8 fw2 => ?_⟩
      have G8 : Go (lmT K) (fun c => c = q ∨ c = R ∨ c ∈ fp) H H8 := G7.thn g8 fun c z => z.elim (fun z => .inl (.inr (.inl z))) fun z => .inr (hnw c z)
      have nR7 : R ∉ fp7 := fun z => (hf7 R z).elim (fun z => U6.n z) fun n => n _ U6.r.choose_spec.1 trivial
      have st8 := st7.go g8 fun c hc z => z.elim (fun z => nR7 (by rw [← z]; exact hc)) fun z => (hf7 c hc).elim (fun q => hd c z q) fun n => by
        obtain ⟨o, e1, e2⟩ := W6.tr c z
        exact n o e1 e2.Nt
      refine ⟨w1, w2, resD b (agn b ri) r, rfl, FzD.dp _ _ (fw1.go g8), FzD.dp _ _ fw2, repr_res wf S6 ho ri.length, _, rfl, iteF ?_⟩
      have ea : agn b (ri ++ [r]) = doRow b (agn b ri) ri.length r := agn_snoc b ri r
      refine ⟨(g6.thn g7 fun _ _ => .inl trivial).thn g8 fun _ _ => .inl trivial, G8, qs8, fp7, _, rfl, by rw [ea]; exact W8, ⟨by rw [ea]; exact st8, ⟨rs8, h8, z8⟩, ok', nR7⟩, ?_, ?_, ?_, by rw [ea, List.length_append]; exact hsq⟩
      · exact fun c hc => (hf7 c hc).elim (hf c) fun n => .inr (G6.nw n)
      · exact fun c hc => (hn8 c hc).elim (hnw c) G7.nw
      · intro c hc z
        rcases hn8 c hc with h | n
        · rcases hf7 c z with q | n
          · exact hd c h q
          · obtain ⟨o, e1, e2⟩ := W6.tr c h
            exact n o e1 e2.Nt
        · obtain ⟨o, e1, e2⟩ := st7.tr c z
          exact n o e1 e2.Nt
    · rintro σ H6 ⟨g6, G6, qs', fp', z6, rfl, W6, U6, hf, hnw, hd, hsq⟩
      have el : kxs.length = rn.length := hkx.1
      rw [el, List.take_length] at U6
      exact hq H6 _ fp' G6 U6 hf (by rw [List.length_append]; omega)
  -- way == 0 and rows != []
  refine ⟨_, rfl, rfl, _, rfl, ?_⟩
  by_cases hw : way = 0
  · rw [hw, decide_eq_true (show V.int ((0 : Nat) : Int) = V.int 0 from rfl)]
    rw [hw] at go_on
    refine iteT ⟨_, rfl, by show 0 ≤ sizeLine; decide, fun E hE => ?_⟩
    have s3 : Go (lmT K) No H2 (upd H2 E (.lst [])) := Go.refl.add hE
    have hE3 : upd H2 E (.lst []) E = some (.lst []) := upd_same
    have go3 := go_on _ s3
    generalize upd H2 E (.lst []) = H3 at s3 hE3 go3
    have hR3 := s3.lst hR2 id
    refine ⟨.list (rows.map rowD), .list [], .lst (.inl (.inl hR3)) (FzA.dp _ _ (fzA_zp.mpr (zp_map.mpr (hrs2.go s3)))), .lst (.inl (.inl hE3)) .nil, rows_shaped _ (hok.rOk wf), nil_shaped, _, rfl, ?_⟩
    rw [eqv_nil]
    by_cases hn : rows = []
    · rw [decide_eq_true (by rw [hn]; rfl)]
      exact iteF go3
    rw [decide_eq_false (by simpa using hn)]
    clear go3 go_on
    obtain ⟨rows0, r, rfl⟩ : ∃ rows0 r, rows = rows0 ++ [r] := ⟨_, _, (List.dropLast_concat_getLast hn).symm⟩
    obtain ⟨rs0, x, rfl, fx, z0⟩ := Zp.unsnoc hrs2
    obtain ⟨ok0, ho⟩ := hok.inv
    have S0 := ok0.wf wf
    refine iteT ⟨_, rfl, .inl ⟨rfl, _, .inl (.inl hR3)⟩, R, _, _, rfl, rfl, hR3, last_at _ _, ?_⟩
    have s4 : Go (lmT K) (· = R) H3 (upd H3 R (.lst (rs0 ++ [x]).dropLast)) := Go.refl.set hR3 trivial (.inl rfl)
    have hR4 : upd H3 R (.lst (rs0 ++ [x]).dropLast) R = some (.lst rs0) := by rw [upd_same, List.dropLast_concat]
    generalize upd H3 R (.lst (rs0 ++ [x]).dropLast) = H4 at s4 hR4
    have st4 := (U2.s.go0 s3).go s4 fun c hc z => U2.n (by rw [← z]; exact hc)
    obtain ⟨dx, ob, Ld, Lg, sq, lg, SP, efp⟩ := id st4
    have e0 : agn b (rows0 ++ [r]) = doRow b (agn b rows0) rows0.length r := agn_snoc b rows0 r
    refine ⟨_, rfl, p, dx, _, rfl, SP.o, sFl_m11, p, b, agn b rows0, rows0, r, fp, rfl, by rw [← e0]; exact st4, unOk_of S0 ho, hok.rOk wf, fun fp' H5 g5 st5 hf5 => ⟨rfl, ?_⟩⟩
    have G5 : Go (lmT K) (fun c => c = q ∨ c = R ∨ c ∈ fp) H H5 := ((G2.thn0 s3).thn s4 fun c z => .inl (.inr (.inl z))).thn g5 fun c z => .inl (.inr (.inr z))
    exact hq H5 rows0 fp' G5 ⟨st5, ⟨rs0, g5.lst hR4 U2.n, (((show FzL H2 rowD rs0 rows0 from z0).go s3).go s4).go g5⟩, ok0, fun z => U2.n (hf5 R z)⟩ (fun c h => .inl (hf5 c h)) (by rw [List.length_append]; omega)
  · rw [decide_eq_false (by intro z; injection z with z; omega)]
    exact iteF (go_on H2 Go.refl)
end
end K29
/-! text K29L14 -/
namespace K29
open PySem PySem.Spec PyProof.Rows L2 LamX
/-! ### a book is data that == reads -/
theorem sm_ss {p : Str × Str} (h1 : PyData.strOk p.1 = true) (h2 : PyData.strOk p.2 = true) : Sm (ssD p) (p.1.length + 1 + (p.2.length + 1 + 0)) 2 := Sm.tup (SmA.cons (Sm.str h1) (SmA.cons (Sm.str h2) SmA.nil))
theorem bk_lay {b : Bk} (wf : WfB b) : (bkD b).canLay0 = true ∧ (bkD b).depth ≤ 6 := by
  have k1 : Sm (.list (b.kinds.map knD)) (b.kinds.length * (20 + 1)) 3 := Sm.lst (SmA.map fun k hk => by
    have nm := wf.k1 k hk
    exact (Sm.tup (SmA.cons (Sm.str (nm_strOk nm)) (SmA.cons (Sm.bool k.2) SmA.nil))).up (by have := nm.2.1; omega) (Nat.le_refl _))
  have k2 : Sm (.list (b.deals.map dlD)) (b.deals.length * (1000 + 1)) 5 := Sm.lst (SmA.map fun d hd => by
    have D := wf.ds d hd
    have l4 := D.l4
    have s8 := D.s8
    have a1 : Sm (.list (d.letters.map ssD)) (d.letters.length * (30 + 1)) 3 := Sm.lst (SmA.map fun l hl => by
      have n1 := D.l1 l hl
      obtain ⟨k, hk, e⟩ := List.mem_map.mp (D.lk l hl)
      have n2 := wf.k1 k hk
      rw [e] at n2
      exact (sm_ss (nm_strOk n1) (nm_strOk n2)).up (by have := n1.2.1; have := n2.2.1; omega) (Nat.le_refl _))
    have a2 : Sm (.list (d.steps.map ssD)) (d.steps.length * (30 + 1)) 3 := Sm.lst (SmA.map fun s hs => by
      obtain ⟨d1, d2⟩ := deed_ok (D.sd s hs)
      obtain ⟨l, hl, e⟩ := List.mem_map.mp (D.sl s hs)
      have n2 := D.l1 l hl
      rw [e] at n2
      exact (sm_ss d1 (nm_strOk n2)).up (by have := n2.2.1; omega) (Nat.le_refl _))
    have nm := D.nm
    exact (Sm.tup (SmA.cons ((Sm.str (nm_strOk nm)).up (Nat.le_refl _) (by omega : 1 ≤ 3)) (SmA.cons a1 (SmA.cons a2 SmA.nil)))).up (by have := nm.2.1; omega) (Nat.le_refl _))
  have a := Sm.tup (SmA.cons (k1.up (Nat.le_refl _) (by omega : 3 ≤ 5)) (SmA.cons k2 SmA.nil))
  exact ⟨a.lay, a.dep⟩
theorem bk_shaped {b : Bk} (wf : WfB b) : SeqAt.shaped (bkD b) = true := by
  obtain ⟨h1, h2⟩ := bk_lay wf
  show (PyData.canLay0 (bkD b) && decide (PyData.depth (bkD b) ≤ 64)) = true
  rw [h1, decide_eq_true (by omega)]
  rfl
/-- three steppers, nothing shared among them -/
structure Un (K : PySem.W.Frag) (H : Hp) (p R : Nat → Addr) (b : Nat → Bk) (rows : Nat → List Row) (fp : Nat → List Addr) (m : Nat) : Prop where
  u : ∀ j, j < 3 → Un3 K H (p j) (R j) (b j) (rows j) (fp j)
  d : ∀ i j, i < 3 → j < 3 → i ≠ j → R i ∉ fp j ∧ R i ≠ R j ∧ ∀ c ∈ fp i, c ∉ fp j
  m : ∀ j, j < 3 → (rows j).length ≤ m
section
variable {K : PySem.W.Frag} {H H' : Hp} {p R : Nat → Addr} {b : Nat → Bk} {rows : Nat → List Row} {fp : Nat → List Addr} {m : Nat} {T : List (Addr × Str)}
theorem Un.go0 (U : Un K H p R b rows fp m) (g : Go T No H H') : Un K H' p R b rows fp m := ⟨fun j hj => (U.u j hj).go0 g, U.d, U.m⟩
theorem Un.here (U : Un K H p R b rows fp m) {j : Nat} (hj : j < 3) {c : Addr} (hc : c = R j ∨ c ∈ fp j) : ∃ o, H c = some o ∧ Nt o := by
  rcases hc with rfl | hc
  · obtain ⟨rs, h, _⟩ := (U.u j hj).r
    exact ⟨_, h, trivial⟩
  · obtain ⟨o, h, m⟩ := (U.u j hj).s.tr c hc
    exact ⟨o, h, m.Nt⟩
theorem Un.old (U : Un K H p R b rows fp m) {j : Nat} (hj : j < 3) {c : Addr} (hc : c = R j ∨ c ∈ fp j) : ¬ Nw H c := fun n => by
  obtain ⟨o, h, t⟩ := U.here hj hc
  exact n o h t
theorem Un.step (U : Un K H p R b rows fp m) {j : Nat} (hj : j < 3) {q : Addr} (g : Go T (fun c => c = q ∨ c = R j ∨ c ∈ fp j) H H') (nq : ∀ i, i < 3 → q ≠ R i ∧ q ∉ fp i) {rows' : List Row} {fp' : List Addr}
    (U' : Un3 K H' (p j) (R j) (b j) rows' fp') (hf : ∀ a ∈ fp', a ∈ fp j ∨ Nw H a) (hl : rows'.length ≤ (rows j).length + 5) : Un K H' p R b (fun i => if i = j then rows' else rows i) (fun i => if i = j then fp' else fp i) (m + 5) := by
  refine ⟨fun i hi => ?_, fun i k hi hk hik => ?_, fun i hi => ?_⟩
  · by_cases e : i = j
    · subst e
      simp only [if_true]
      exact U'
    · simp only [if_neg e]
      obtain ⟨d1, d2, d3⟩ := U.d i j hi hj e
      refine (U.u i hi).go g ?_ fun a ha => ?_
      · rintro (h | h | h)
        · exact (nq i hi).1 h.symm
        · exact d2 h
        · exact d1 h
      · rintro (h | h | h)
        · exact (nq i hi).2 (by rw [← h]; exact ha)
        · exact (U.d j i hj hi (Ne.symm e)).1 (by rw [← h]; exact ha)
        · exact d3 a ha h
  · obtain ⟨d1, d2, d3⟩ := U.d i k hi hk hik
    refine ⟨?_, d2, ?_⟩
    · by_cases e : k = j
      · subst e
        simp only [if_true]
        exact fun h => (hf _ h).elim d1 (U.old hi (.inl rfl))
      · simp only [if_neg e]
        exact d1
    · by_cases e : k = j
      · subst e
        simp only [if_true, if_neg hik]
        exact fun c hc h => (hf _ h).elim (d3 c hc) (U.old hi (.inr hc))
      · simp only [if_neg e]
        by_cases e2 : i = j
        · subst e2
          simp only [if_true]
          exact fun c hc h => (hf _ hc).elim (fun z => d3 c z h) (U.old hk (.inr h))
        · simp only [if_neg e2]
          exact d3
  · have h0 := U.m i hi
    by_cases e : i = j
    · subst e
      simp only [if_true]
      omega
    · simp only [if_neg e]
      omega
end
section
variable {P : Program} {w : World} {K : PySem.W.Frag} {mg : Str → Option Value} {base : Heap}
/-! ### law -/
def sp_f_law (K : PySem.W.Frag) : Sp := fun vs H Q _ => ∃ (S : Addr) (ns : List Int), vs = [.ref S] ∧ SqL K H S (ns.map V.int) ∧ Tabs (lmT K) H ∧ ∀ H', Q (.bl true) H'
theorem ok_f_law (t : Tp K mg) (x : Ex K) (TB : LmB K mg base) {fd : FuncData} (F : FunD K "law" "law" (defArgs s_f_law) (defBody s_f_law) (defScope s_f_law) [] [] (He.fAd K d_f_law.at_) fd) : FnOkG P w K mg base 8 (He.fAd K d_f_law.at_) fd p_f_law (sp_f_law K) := by
  refine okG F sc_f_law (fun vs H Q E ⟨_, _, h, _⟩ => by rw [h]; rfl) (fun cdv A outer s H vs Q E hg hr h => ?_)
  obtain ⟨S, ns, rfl, hS, hT, hq⟩ := h
  have nd := sc_f_law.nd
  have hu := hu_of hr
  refine ⟨_, pss_cons (ps_set (i := 1) nd rfl (Or.inl rfl) (pe_lst (pa_cons (pe_f (b_l_book (T := lmT K) t) t.g_law_book hr (pa_cons (pe_f (b_l_pool (T := lmT K) t) t.g_law_pool hr (pa_cons (pv 0) (pa_cons pe_int pa_nil))) (pa_cons pe_int (pa_cons pe_int pa_nil))))
      (pa_cons (pe_f (b_l_book (T := lmT K) t) t.g_law_book hr (pa_cons (pe_f (b_l_pool (T := lmT K) t) t.g_law_pool hr (pa_cons (pv 0) (pa_cons pe_int pa_nil))) (pa_cons pe_int (pa_cons pe_int pa_nil)))) pa_nil))))
    (pss_cons (ps_set (i := 1) nd rfl (Or.inl rfl) (pe_fz (pe_op op_catR (pe_slice sl_list (pv 1) po_none (po_some pe_int)) (pv 1))))
    (pss_cons (ps_set (i := 2) nd rfl (Or.inl rfl) (pe_f (b_l_copied (T := lmT K) t) t.g_law_copied hr (pa_cons (pe_ix ix_list (pv 1) pe_int (fun _ _ => rfl)) pa_nil)))
    (pss_cons (ps_set (i := 3) nd rfl (Or.inl rfl) (pe_fz (pe_lst (pa_cons (pe_mk t.mk_Stepper (b_S_init (T := lmT K) t) t.g_Stepper hr (pa_cons (pv 2) pa_nil)) (pa_cons (pe_mk t.mk_Stepper (b_S_init (T := lmT K) t) t.g_Stepper hr (pa_cons (pv 2) pa_nil)) (pa_cons (pe_mk t.mk_Stepper (b_S_init (T := lmT K) t) t.g_Stepper hr (pa_cons (pe_ix ix_list (pv 1) pe_int (fun _ _ => rfl)) pa_nil)) pa_nil))))))
    (pss_cons (ps_set (i := 4) nd rfl (Or.inl rfl) (pe_fz (pe_lst (pa_cons (pe_lst pa_nil) (pa_cons (pe_lst pa_nil) (pa_cons (pe_lst pa_nil) pa_nil))))))
    (pss_cons (ps_for PassesOwn.never rfl (pi_range2 (by rfl) t.b_range (pa_cons pe_int (pa_cons (pe_callB (call_max2 rfl) (by rfl) t.b_max (by decide +kernel) (pa_cons pe_int (pa_cons (pe_callB (call_min2 rfl) (by rfl) t.b_min (by decide +kernel) (pa_cons (pe_callB call_len (by rfl) t.b_len PySem.boot_len (pa_cons (pv 0) pa_nil)) (pa_cons pe_int pa_nil))) pa_nil))) pa_nil))) (pg_name (i := 5) nd rfl (Or.inl rfl))
      (pss_cons (ps_set (i := 6) nd rfl (Or.inl rfl) (pe_f (b_l_pool (T := lmT K) t) t.g_law_pool hr (pa_cons (pv 0) (pa_cons (pv 5) pa_nil))))
      (pss_cons (ps_set (i := 7) nd rfl (Or.inl rfl) (pe_f (b_l_draw (T := lmT K) t) t.g_law_draw hr (pa_cons (pv 6) (pa_cons pe_int pa_nil))))
      (pss_cons (ps_if (pt_not (pt_val (pe_g (b_l_deed t x TB) t.g_law_deed hg hr (pa_cons (pv 6) (pa_cons (pe_ix ix_list (pv 1) (pv 7) (fun _ _ => rfl)) (pa_cons (pe_ix ix_list (pv 3) (pv 7) (fun _ _ => rfl)) (pa_cons (pe_ix ix_list (pv 4) (pv 7) (fun _ _ => rfl)) pa_nil))))))) (pss_one (ps_ret pe_bl)) pss_nil)
      (pss_one (ps_for PassesOwn.never rfl (pi_range1 (by rfl) t.b_range (pa_cons pe_int pa_nil)) (pg_name (i := 8) nd rfl (Or.inl rfl))
        (pss_one (ps_if (pt_not (pt_val (pe_g (b_l_stands_so t TB) t.g_law_stands_so hg hr (pa_cons (pe_ix ix_list (pv 3) (pv 8) (fun _ _ => rfl)) (pa_cons (pe_ix ix_list (pv 1) (pv 8) (fun _ _ => rfl)) (pa_cons (pe_f (b_l_again (T := lmT K) t) t.g_law_again hr (pa_cons (pe_ix ix_list (pv 1) (pv 8) (fun _ _ => rfl)) (pa_cons (pe_ix ix_list (pv 4) (pv 8) (fun _ _ => rfl)) pa_nil))) (pa_cons (pe_ix ix_list (pv 4) (pv 8) (fun _ _ => rfl)) (pa_cons pe_int pa_nil)))))))) (pss_one (ps_ret pe_bl)) pss_nil))))))))
    (pss_one (ps_ret (pe_cmpR (op_eqD hr.units) (pv 2) (pe_ix ix_list (pv 1) pe_int (fun _ _ => rfl)) (nomark _))))))))), ?_⟩
  have three : ∀ {j : Nat}, j < 3 → j = 0 ∨ j = 1 ∨ j = 2 := fun h => by omega
  -- the books
  refine ⟨_, rfl, S, ns, 0, rfl, hS, by omega, fun q0 H1 g1 n1 p1 => ⟨q0, rfl, p1, fun v1 H2 b1 g2 f1 wf1 => ?_⟩⟩
  have G2 : Go (lmT K) No H H2 := g1.thn g2 fun c z => .inr (by rw [z]; exact n1)
  refine ⟨_, rfl, S, ns, 1, rfl, SqL_go hS G2 id, by omega, fun q1 H3 g3 n3 p3 => ⟨q1, rfl, p3, fun v2 H4 b2 g4 f2 wf2 => ⟨by show 2 ≤ sizeLine; decide, fun B hB => ?_⟩⟩⟩
  have s4 : Go (lmT K) No H2 H4 := g3.thn g4 fun c z => .inr (by rw [z]; exact n3)
  have s5 : Go (lmT K) No H4 (upd H4 B (.lst [v1, v2])) := Go.refl.add hB
  have B5 : upd H4 B (.lst [v1, v2]) B = some (.lst [v1, v2]) := upd_same
  have G5 := (G2.thn0 s4).thn0 s5
  have f1 := (f1.go s4).go s5
  have f2 := f2.go s5
  generalize upd H4 B (.lst [v1, v2]) = H5 at s5 B5 G5 f1 f2
  -- the first one twice
  refine ⟨_, rfl, _, rfl, B, _, rfl, .inl (.inl B5), fun C hC => ?_⟩
  rw [show cutV [v1, v2] none (some 1) = [v1] from rfl]
  have s6 : Go (lmT K) No H5 (upd H5 C (.lst [v1])) := Go.refl.add hC
  have C6 : upd H5 C (.lst [v1]) C = some (.lst [v1]) := upd_same
  generalize upd H5 C (.lst [v1]) = H6 at s6 C6
  refine ⟨_, rfl, C, B, [v1], [v1, v2], rfl, rfl, .inl C6, .inl (s6.lst B5 id), by show 3 ≤ sizeLine; decide, fun D hD => ⟨D, _, rfl, upd_same, trivial, fun oD => ?_⟩⟩
  rw [upd_upd, show [v1] ++ [v1, v2] = [v1, v1, v2] from rfl]
  have s7 : Go (lmT K) No H6 (upd H6 D (.frz oD (.lst [v1, v1, v2]))) := Go.refl.add hD
  have D7 : upd H6 D (.frz oD (.lst [v1, v1, v2])) D = some (.frz oD (.lst [v1, v1, v2])) := upd_same
  have G7 := (G5.thn0 s6).thn0 s7
  have f1 := (f1.go s6).go s7
  have f2 := (f2.go s6).go s7
  generalize upd H6 D (.frz oD (.lst [v1, v1, v2])) = H7 at s7 D7 G7 f1 f2
  -- the handed one
  refine ⟨_, rfl, _, _, _, _, rfl, rfl, SqL_frz D7, atI_nat (j := 0) rfl, v1, b1, rfl, f1, wf1.d3, fun hv H8 g8 fh => ?_⟩
  have G8 := G7.thn0 g8
  have D8 := g8.fz _ _ D7 trivial
  have f1 := f1.go g8
  have f2 := f2.go g8
  -- the steppers
  have mk : ∀ (H1 : Hp) (v : V) (b : Bk), FzD H1 v (bkD b) → b.deals.length ≤ 3 → ∀ (Q : Addr → VK) (E : XK), (∀ p H' fp, Go (lmT K) No H1 H' → StAt K H' p b [] [] fp → (∀ a ∈ fp, Nw H1 a) → Q p .non H') →
      ∀ x dx, H1 x = none → H1 dx = none → dx ≠ x → sp_S_init K (lmT K) (.ref x :: ([v] ++ [])) (upd (upd H1 dx (.own x)) x (.ins (He.ga K "Stepper") dx [])) (Q x) E := fun H1 v b f h3 Q E k y dy hy hdy hne => by
    have s3 : Go (lmT K) No H1 (upd (upd H1 dy (.own y)) y (.ins (cS K) dy [])) := (Go.refl.add hdy).add (by rw [upd_ne hne.symm]; exact hy)
    have y3 : upd (upd H1 dy (.own y)) y (.ins (cS K) dy []) y = some (.ins (cS K) dy []) := upd_same
    refine ⟨y, dy, v, b, rfl, y3, f.go s3, h3, fun fp H' g st hf => k y H' fp (s3.thn g fun c z => .inr (by rw [z]; exact Nw.of hy)) st fun a ha => ?_⟩
    rcases hf a ha with rfl | n
    · exact Nw.of hy
    · exact s3.nw n
  refine ⟨_, rfl, mk H8 hv b1 fh wf1.d3 _ _ fun pa Ha fpa ga sta na => ⟨rfl, ?_⟩⟩
  refine ⟨_, rfl, mk Ha hv b1 (fh.go ga) wf1.d3 _ _ fun pb Hb fpb gb stb nb => ⟨rfl, ?_⟩⟩
  have gab := ga.thn0 gb
  refine ⟨_, rfl, _, _, _, _, rfl, rfl, SqL_frz (gab.fz _ _ D8 trivial), atI_nat (j := 2) rfl, mk Hb v2 b2 (f2.go gab) wf2.d3 _ _ fun pc Hc fpc gc stc nc => ⟨rfl, ?_⟩⟩
  refine ⟨by show 3 ≤ sizeLine; decide, fun W hW => ⟨W, _, rfl, upd_same, trivial, fun oW => ?_⟩⟩
  rw [upd_upd]
  have s9 : Go (lmT K) No Hc (upd Hc W (.frz oW (.lst [.ref pa, .ref pb, .ref pc]))) := Go.refl.add hW
  have W9 : upd Hc W (.frz oW (.lst [.ref pa, .ref pb, .ref pc])) W = some (.frz oW (.lst [.ref pa, .ref pb, .ref pc])) := upd_same
  generalize upd Hc W (.frz oW (.lst [.ref pa, .ref pb, .ref pc])) = H9 at s9 W9
  -- the rows
  refine ⟨by show 0 ≤ sizeLine; decide, fun Ra hRa => ?_⟩
  have t1 : Go (lmT K) No H9 (upd H9 Ra (.lst [])) := Go.refl.add hRa
  have A1 : upd H9 Ra (.lst []) Ra = some (.lst []) := upd_same
  generalize upd H9 Ra (.lst []) = J1 at t1 A1
  refine ⟨by show 0 ≤ sizeLine; decide, fun Rb hRb => ?_⟩
  have t2 : Go (lmT K) No J1 (upd J1 Rb (.lst [])) := Go.refl.add hRb
  have A2 : upd J1 Rb (.lst []) Rb = some (.lst []) := upd_same
  generalize upd J1 Rb (.lst []) = J2 at t2 A2
  refine ⟨by show 0 ≤ sizeLine; decide, fun Rc hRc => ?_⟩
  have t3 : Go (lmT K) No J2 (upd J2 Rc (.lst [])) := Go.refl.add hRc
  have A3 : upd J2 Rc (.lst []) Rc = some (.lst []) := upd_same
  generalize upd J2 Rc (.lst []) = J3 at t3 A3
  refine ⟨by show 3 ≤ sizeLine; decide, fun Z hZ => ⟨Z, _, rfl, upd_same, trivial, fun oZ => ?_⟩⟩
  rw [upd_upd]
  have t4 : Go (lmT K) No J3 (upd J3 Z (.frz oZ (.lst [.ref Ra, .ref Rb, .ref Rc]))) := Go.refl.add hZ
  have Z4 : upd J3 Z (.frz oZ (.lst [.ref Ra, .ref Rb, .ref Rc])) Z = some (.frz oZ (.lst [.ref Ra, .ref Rb, .ref Rc])) := upd_same
  generalize upd J3 Z (.frz oZ (.lst [.ref Ra, .ref Rb, .ref Rc])) = J4 at t4 Z4
  -- all three at the start
  have gc4 : Go (lmT K) No Hc J4 := (((s9.thn0 t1).thn0 t2).thn0 t3).thn0 t4
  have gJ : Go (lmT K) No H8 J4 := (gab.thn0 gc).thn0 gc4
  have GJ : Go (lmT K) No H J4 := G8.thn0 gJ
  obtain ⟨p, ep⟩ : ∃ p : Nat → Addr, p = fun | 0 => pa | 1 => pb | _ => pc := ⟨_, rfl⟩
  obtain ⟨R, eR⟩ : ∃ R : Nat → Addr, R = fun | 0 => Ra | 1 => Rb | _ => Rc := ⟨_, rfl⟩
  obtain ⟨v, ev⟩ : ∃ v : Nat → V, v = fun | 0 => v1 | 1 => v1 | _ => v2 := ⟨_, rfl⟩
  obtain ⟨b, eb⟩ : ∃ b : Nat → Bk, b = fun | 0 => b1 | 1 => b1 | _ => b2 := ⟨_, rfl⟩
  obtain ⟨fp, ef⟩ : ∃ fp : Nat → List Addr, fp = fun | 0 => fpa | 1 => fpb | _ => fpc := ⟨_, rfl⟩
  have hpj : ∀ j, j < 3 → [V.ref pa, .ref pb, .ref pc][j]? = some (.ref (p j)) := fun j hj => by
    rw [ep]
    rcases three hj with rfl | rfl | rfl <;> rfl
  have hRj : ∀ j, j < 3 → [V.ref Ra, .ref Rb, .ref Rc][j]? = some (.ref (R j)) := fun j hj => by
    rw [eR]
    rcases three hj with rfl | rfl | rfl <;> rfl
  have hvj : ∀ j, j < 3 → [v1, v1, v2][j]? = some (v j) := fun j hj => by
    rw [ev]
    rcases three hj with rfl | rfl | rfl <;> rfl
  have wfj : ∀ j, j < 3 → WfB (b j) := fun j hj => by
    rw [eb]
    rcases three hj with rfl | rfl | rfl
    · exact wf1
    · exact wf1
    · exact wf2
  have fbj : ∀ j, j < 3 → FzD J4 (v j) (bkD (b j)) := fun j hj => by
    rw [eb, ev]
    rcases three hj with rfl | rfl | rfl
    · exact f1.go gJ
    · exact f1.go gJ
    · exact f2.go gJ
  have sa9 := ((sta.go0 gb).go0 gc).go0 s9
  have sb9 := (stb.go0 gc).go0 s9
  have sc9 := stc.go0 s9
  have U0 : Un K J4 p R b (fun _ => []) fp 0 := by
    have dis : ∀ {H1 : Hp} {x y : List Addr}, (∀ a ∈ x, ∃ o, H1 a = some o ∧ Mb o) → (∀ a ∈ y, Nw H1 a) → ∀ c ∈ x, c ∉ y := fun h n c hc z => by
      obtain ⟨o, e, m⟩ := h c hc
      exact n c z o e m.Nt
    have nin : ∀ {H1 : Hp} {x : List Addr} {a : Addr}, (∀ a ∈ x, ∃ o, H1 a = some o ∧ Mb o) → H1 a = none → a ∉ x := fun h n z => by
      obtain ⟨o, e, m⟩ := h _ z
      rw [n] at e
      cases e
    have dab := dis sta.tr nb
    have dac := dis (sta.go0 gb).tr nc
    have dbc := dis stb.tr nc
    have j2 : Go (lmT K) No H9 J1 := t1
    have j3 : Go (lmT K) No H9 J2 := t1.thn0 t2
    have nab : Ra ≠ Rb := ne_of_none A1 hRb
    have nac : Ra ≠ Rc := ne_of_none (t2.lst A1 id) hRc
    have nbc : Rb ≠ Rc := ne_of_none A2 hRc
    have t24 := (t2.thn0 t3).thn0 t4
    have t34 := t3.thn0 t4
    have a0 := nin sa9.tr hRa
    have a1 := nin sb9.tr hRa
    have a2 := nin sc9.tr hRa
    have e0 := nin (sa9.go0 j2).tr hRb
    have e1 := nin (sb9.go0 j2).tr hRb
    have e2 := nin (sc9.go0 j2).tr hRb
    have c0 := nin (sa9.go0 j3).tr hRc
    have c1 := nin (sb9.go0 j3).tr hRc
    have c2 := nin (sc9.go0 j3).tr hRc
    refine ⟨fun j hj => ?_, fun i j hi hj hij => ?_, fun j hj => Nat.le_refl _⟩
    · rw [ep, eR, eb, ef]
      rcases three hj with rfl | rfl | rfl
      · exact ⟨sta.go0 ((gb.thn0 gc).thn0 gc4), ⟨[], t24.lst A1 id, Zp.nil⟩, .nil, a0⟩
      · exact ⟨stb.go0 (gc.thn0 gc4), ⟨[], t34.lst A2 id, Zp.nil⟩, .nil, e1⟩
      · exact ⟨stc.go0 gc4, ⟨[], t4.lst A3 id, Zp.nil⟩, .nil, c2⟩
    · rw [eR, ef]
      rcases three hi with rfl | rfl | rfl <;> rcases three hj with rfl | rfl | rfl
      · exact absurd rfl hij
      · exact ⟨a1, nab, dab⟩
      · exact ⟨a2, nac, dac⟩
      · exact ⟨e0, nab.symm, fun c h z => dab c z h⟩
      · exact absurd rfl hij
      · exact ⟨e2, nbc, dbc⟩
      · exact ⟨c0, nac.symm, fun c h z => dac c z h⟩
      · exact ⟨c1, nbc.symm, fun c h z => dbc c z h⟩
      · exact absurd rfl hij
  have N0 : ∀ j, j < 3 → ∀ c, (c = R j ∨ c ∈ fp j) → Nw H c := fun j hj c hc => by
    have G9 := G8.thn0 ((gab.thn0 gc).thn0 s9)
    rw [eR, ef] at hc
    rcases three hj with rfl | rfl | rfl
    · rcases hc with rfl | hc
      · exact G9.nw (Nw.of hRa)
      · exact G8.nw (na c hc)
    · rcases hc with rfl | hc
      · exact (G9.thn0 t1).nw (Nw.of hRb)
      · exact (G8.thn0 ga).nw (nb c hc)
    · rcases hc with rfl | hc
      · exact ((G9.thn0 t1).thn0 t2).nw (Nw.of hRc)
      · exact (G8.thn0 gab).nw (nc c hc)
  have D4 := gJ.fz _ _ D8 trivial
  have W4 := (((t1.thn0 t2).thn0 t3).thn0 t4).fz _ _ W9 trivial
  have fh4 := fh.go gJ
  have f14 : FzD J4 v1 (bkD b1) := f1.go gJ
  have hS4 := SqL_go hS GJ id
  clear ep eR ev eb ef sa9 sb9 sc9
  -- how many
  refine ⟨_, rfl, _, (ns.map V.int).length, rfl, .inl ⟨_, hS4, rfl⟩, _, _, rfl, _, _, rfl, 2, _, rfl, ?_, ?_⟩
  · split <;> split <;> omega
  have hM : ∀ M : Int, M = (if (if (63 : Int) < ((ns.map V.int).length : Int) then 63 else ((ns.map V.int).length : Int)) > 18 then (if (63 : Int) < ((ns.map V.int).length : Int) then 63 else ((ns.map V.int).length : Int)) else 18) → M ≤ 63 := fun M e => by
    rw [e]
    split <;> split <;> omega
  have hM := hM _ rfl
  generalize (if (if (63 : Int) < ((ns.map V.int).length : Int) then 63 else ((ns.map V.int).length : Int)) > 18 then (if (63 : Int) < ((ns.map V.int).length : Int) then 63 else ((ns.map V.int).length : Int)) else 18) = M at hM ⊢
  refine for_range (lo := 2) (n := (M - 2).toNat) (fun i σ Hi => Go (lmT K) No H Hi ∧ Go (lmT K) (fun _ => True) J4 Hi ∧ ∃ (rows : Nat → List Row) (fp : Nat → List Addr), (∃ z5 z6 z7 z8 : Option V, σ = [some (.ref S), some (.ref D), some hv, some (.ref W), some (.ref Z), z5, z6, z7, z8]) ∧
      Un K Hi p R b rows fp (5 * i) ∧ ∀ j, j < 3 → ∀ c, (c = R j ∨ c ∈ fp j) → Nw H c)
    ⟨GJ, Go.refl, fun _ => [], fp, ⟨none, none, none, none, rfl⟩, U0, N0⟩ ?_ ?_
  · rintro i σ Hi hi ⟨gi, ti, rows, fp, ⟨z5, z6, z7, z8, rfl⟩, U, hN⟩
    have two : V.int ((2 : Int) + (i : Int)) = V.int ((2 + i : Nat) : Int) := by congr 1
    refine ⟨_, rfl, _, rfl, S, ns, 2 + i, by show [V.ref S, V.int ((2 : Int) + (i : Int))] = _; rw [two], SqL_go hS gi id, by omega, fun q Ha ga na pa => ?_⟩
    refine ⟨_, rfl, q, 3, rfl, pa, by decide, by decide, fun j Hb hj3 gb pb => ?_⟩
    have hj : j < 3 := by omega
    have gib : Go (lmT K) No Hi Hb := ga.thn gb fun c z => .inr (by rw [z]; exact na)
    have gHb := gi.thn0 gib
    have tib : Go (lmT K) (fun _ => True) J4 Hb := ti.thn0 gib
    have Ub := U.go0 gib
    have nq : ∀ i, i < 3 → q ≠ R i ∧ q ∉ fp i := fun i hi => by
      refine ⟨fun z => ?_, fun z => ?_⟩
      · exact U.old hi (.inl z) na
      · exact U.old hi (.inr z) na
    have mj := U.m j hj
    refine ⟨_, rfl, _, rfl, _, rfl, D, _, (j : Nat), _, rfl, rfl, SqL_frz (tib.fz _ _ D4 trivial), atI_nat (hvj j hj), _, rfl, _, rfl, W, _, (j : Nat), _, rfl, rfl, SqL_frz (tib.fz _ _ W4 trivial), atI_nat (hpj j hj), _, rfl, _, rfl, Z, _, (j : Nat), _, rfl, rfl, SqL_frz (tib.fz _ _ Z4 trivial), atI_nat (hRj j hj),
      q, v j, p j, R j, b j, rows j, fp j, rfl, pb, (fbj j hj).go tib, wfj j hj, Ub.u j hj, by omega, gHb.tb hT, (nq j hj).2, (nq j hj).1, fun Hd rows' fp' gd U' hf hl => ⟨_, rfl, iteF ?_⟩⟩
    have Ud := Ub.step hj gd nq U' hf hl
    have gHd : Go (lmT K) No H Hd := gHb.thn gd fun c z => .inr (by
      rcases z with rfl | z
      · exact gi.nw na
      · exact hN j hj c z)
    have tid : Go (lmT K) (fun _ => True) J4 Hd := tib.thn gd fun _ _ => .inl trivial
    have Nd : ∀ i, i < 3 → ∀ c, (c = R i ∨ c ∈ (if i = j then fp' else fp i)) → Nw H c := fun i hi c hc => by
      rcases hc with h | h
      · exact hN i hi c (.inl h)
      · by_cases e : i = j
        · rw [if_pos e] at h
          exact (hf c h).elim (fun z => hN j hj c (.inr z)) gHb.nw
        · rw [if_neg e] at h
          exact hN i hi c (.inr h)
    -- all three stand
    refine ⟨3, rfl, by decide, by decide, ?_⟩
    refine for_range (lo := 0) (n := 3) (fun l σ Hl => Go (lmT K) No Hd Hl ∧ ∃ z8 : Option V, σ = [some (.ref S), some (.ref D), some hv, some (.ref W), some (.ref Z), some (.int ((2 : Int) + (i : Int))), some (.ref q), some (.int (j : Nat)), z8])
      ⟨Go.refl, z8, rfl⟩ ?_ ?_
    · rintro l σ Hl hl3 ⟨gl, z8', rfl⟩
      rw [show (0 : Int) + (l : Int) = ((l : Nat) : Int) from Int.zero_add _]
      have tl := tid.thn0 gl
      have Ul := Ud.go0 gl
      generalize (fun i => if i = j then rows' else rows i) = rs3 at Ul
      generalize (fun i => if i = j then fp' else fp i) = fp3 at Ul
      obtain ⟨sl, ⟨rs, r1, r2⟩, okl, nl⟩ := Ul.u l hl3
      have ml := Ul.m l hl3
      refine ⟨_, rfl, _, rfl, _, _, (l : Nat), _, rfl, rfl, SqL_frz (tl.fz _ _ W4 trivial), atI_nat (hpj l hl3), _, rfl, _, rfl, _, _, (l : Nat), _, rfl, rfl, SqL_frz (tl.fz _ _ D4 trivial), atI_nat (hvj l hl3),
        _, rfl, _, rfl, _, _, (l : Nat), _, rfl, rfl, SqL_frz (tl.fz _ _ D4 trivial), atI_nat (hvj l hl3), _, rfl, _, rfl, _, _, (l : Nat), _, rfl, rfl, SqL_frz (tl.fz _ _ Z4 trivial), atI_nat (hRj l hl3),
        v l, b l, R l, rs, rs3 l, rfl, (fbj l hl3).go tl, wfj l hl3, r1, r2, okl, by omega, fun a qs He ge We nwe => ?_⟩
      have te := tl.thn0 ge
      refine ⟨_, rfl, _, rfl, _, _, (l : Nat), _, rfl, rfl, SqL_frz (te.fz _ _ Z4 trivial), atI_nat (hRj l hl3),
        p l, v l, a, R l, b l, qs, rs3 l, fp3 l, rs, rfl, sl.go0 ge, (fbj l hl3).go te, We, ge.lst r1 id, r2.go ge, wfj l hl3, okl, by omega, (gHd.thn0 (gl.thn0 ge)).tb hT, fun Hf gf => ⟨_, rfl, iteF ?_⟩⟩
      exact ⟨(gl.thn0 ge).thn0 gf, _, rfl⟩
    · rintro σ Hl ⟨gl, z8', rfl⟩
      exact ⟨gHd.thn0 gl, tid.thn0 gl, _, _, ⟨_, _, _, _, rfl⟩, (Ud.go0 gl : Un K Hl p R b _ _ (5 * (i + 1))), Nd⟩
  · rintro σ Hi ⟨gi, ti, rows, fp, ⟨z5, z6, z7, z8, rfl⟩, U, hN⟩
    refine ⟨_, rfl, _, rfl, _, _, _, _, rfl, rfl, SqL_frz (ti.fz _ _ D4 trivial), atI_nat (j := 0) rfl, bkD b1, bkD b1, FzD.dp _ _ (fh4.go ti), FzD.dp _ _ (f14.go ti), bk_shaped wf1, bk_shaped wf1, ?_⟩
    rw [SeqAt.eqv_refl _ (bk_lay wf1).1]
    exact hq _
end
end K29
/-! text K29End -/
open PySem PySem.W PySem.Calls PyProof.Rows
theorem PySem.Challenge.cw_snapsure_k29_whole_steppers_beside_holds : PySem.Challenge.rw_snapsure_k29_whole_steppers_beside.Holds := by
  w_on; o_law
  refine HandSHeadRun.head_any (r := OpenLaw.row PySem.Challenge.rw_snapsure_k29_whole_steppers_beside) (q := view (OpenLaw.row PySem.Challenge.rw_snapsure_k29_whole_steppers_beside).prog [57]) (H := K29.hk) (ob := K29.ob) (M := 8000) (loose := K29.loose) (d := HandSHeadRun.topDef (OpenLaw.row PySem.Challenge.rw_snapsure_k29_whole_steppers_beside).prog 57) (kwd := []) K29.ob_eq
    (by kernel_rfl) (fun s => by kernel_rfl) K29.run (by kernel_rfl) (by kernel_rfl) (by kernel_rfl) (by rfl) (by first | assumption | decide +kernel) (by decide +kernel) ⟨rfl, rfl, rfl, rfl, rfl, by decide +kernel⟩ ?hw ?hc
  case hw => w_witness2
  case hc =>
    refine K29.walk_G (l := PySem.Challenge.rw_snapsure_k29_whole_steppers_beside) (n := 63) (k := 8) (x := "_law_script") rfl (by decide) (by kernel_rfl) ⟨rfl, by decide, by decide⟩ ?F
    intro w mg fa h Y G hmg0
    obtain ⟨K, KX, c⟩ := Y
    have hmg : mg ("law" : PySem.Str) = some (.ref fa) := by
      have e : (HandSHeadRun.topDef (OpenLaw.row PySem.Challenge.rw_snapsure_k29_whole_steppers_beside).prog 57).name = ("law" : PySem.Str) := by kernel_rfl
      rw [← e]
      exact hmg0
    have t : K29.Tp K mg := ⟨⟨h, KX, G⟩, c.t.d⟩
    have hx : K29.Ex K := K29.Ex.of c.more
    have m : (("Stepper", some "last_writer") : He.Defn) ∈ K29.tf := List.mem_singleton.mpr rfl
    obtain ⟨fd, F, _⟩ := t.f_f_law
    have e := hmg.symm.trans t.g_law
    cases e
    have b := L2.FunD.bindsA (ps := ["_law_script"]) F fun _ _ _ _ _ _ us hl => match us, hl with | [_], _ => rfl
    exact ⟨K, (He.cT K ("Stepper", some "last_writer")).1, (He.cT K ("Stepper", some "last_writer")).2, fd, K29.sp_f_law K, KX, c.empty _ m, c.out _ m, codeHd_of_K KX (c.hd _ m), fun s u => b s [u] rfl,
      fun H a ns _ hT hS => ⟨a, ns, rfl, hS, fun p hp => by rw [List.mem_singleton.mp hp]; exact LamX.TabS.nil hT, fun _ => rfl⟩, fun base _ _ TB => K29.ok_f_law t hx TB F⟩
