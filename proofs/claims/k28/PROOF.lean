import PyProof.Rows.All
import Wide.All
import OpenK.AllK
import Wide.FinOn
import HandS.ForMost
import HandS.HeadHook1
import HandS.HeadHook2
import HandS.Words
import KE.KStateDown
import Lean
import HandS.Base
import HandS.Call
import HandS.Ends
import HandS.More
import HandS.WordsExc
import HandS.Defaults
import HandS.Head0
import HandS.Head1
import HandS.Head2
import HandS.HeadHook3
import HandS.HeadHook4
import HandS.ExcIs
import PyProof.EqAt
import PyProof.EqKinds
import PyProof.TupleCall
import PyProof.ReprRoads
import KE.KLam
import KE.KCallOwn
import HandS.Exc
import HandS.ExcOwn
import HandS.Deep
import HandS.Steps
import HandS.IsInst
import HandS.SortKw
import PyProof.ZipIter
import KE.KDictPairs
import KE.KDictZip
import KE.KTurns
import HandS.Iter
import HandS.Dict
import KE.KMinKey
import HandS.Lambda
import KE.DataMinKey
import KE.KIsAll
import KE.KTryMore
import HandS.ExcValue
import PyProof.ToksMono
import HandS.Replace
import HandS.ReplaceLit
import HandS.Evl
import HandS.TupAny
import HandS.Text
import KE.GoesEnumKw
import PyProof.ReprLen
import PyProof.Rows.StrStrike
import PyProof.FitsReplace
import PyProof.StrLaws
import HandS.EndTab
import HandS.EndBits
import PySem.Challenge.RW_snapsure_k28_whole_a_stepper_walked
set_option Elab.async false
set_option linter.all false
set_option maxRecDepth 100000
set_option maxHeartbeats 3900000
/-! ## K28T0 -/
namespace K28
set_option maxHeartbeats 3900000
open L2 LamX PySem PySem.Spec PyProof.Rows
/-! ### the text by places -/
def top (i : Nat) : Stmt := PySem.Challenge.pw_snapsure_k28_whole_a_stepper_walked.main.body.getD i (.Pass ⟨0, 0, 0, 0⟩)
abbrev s__wall : Stmt := top 0
abbrev s_is_whole : Stmt := top 15
abbrev s_is_pair : Stmt := top 16
abbrev s_dealing_copied : Stmt := top 17
abbrev s_book_copied : Stmt := top 18
abbrev s_number_by : Stmt := top 19
abbrev s_dealing_by : Stmt := top 20
abbrev s_has_many : Stmt := top 21
abbrev s_is_key_by : Stmt := top 23
abbrev s_is_key : Stmt := top 24
abbrev s_are_keys : Stmt := top 25
abbrev s_Deal_init : Stmt := inClass (top 28) 0
abbrev s_Deal_next_deed : Stmt := inClass (top 28) 1
abbrev s_Deal_steps_left : Stmt := inClass (top 28) 2
abbrev s_Deal_written : Stmt := inClass (top 28) 3
abbrev s_Deal_read_so : Stmt := inClass (top 28) 4
abbrev s_Deal_closed : Stmt := inClass (top 28) 5
abbrev s_Deal_opened : Stmt := inClass (top 28) 6
abbrev s_Stepper_init : Stmt := inClass (top 29) 0
abbrev s_Stepper_fresh_keys : Stmt := inClass (top 29) 1
abbrev s_Stepper_begin : Stmt := inClass (top 29) 2
abbrev s_Stepper_deal_by : Stmt := inClass (top 29) 3
abbrev s_Stepper_open_deal : Stmt := inClass (top 29) 4
abbrev s_Stepper_last_writer : Stmt := inClass (top 29) 5
abbrev s_Stepper_step : Stmt := inClass (top 29) 6
abbrev s_Stepper_is_called_off : Stmt := inClass (top 29) 7
abbrev s_Stepper_look_at_end : Stmt := inClass (top 29) 8
abbrev s_Stepper_close : Stmt := inClass (top 29) 9
abbrev s_Stepper_shut : Stmt := inClass (top 29) 10
abbrev s_Stepper_end : Stmt := inClass (top 29) 11
abbrev s_Stepper_drop : Stmt := inClass (top 29) 12
abbrev s_Stepper_undo : Stmt := inClass (top 29) 13
abbrev s_Stepper_state : Stmt := inClass (top 29) 14
abbrev s_Stepper_left : Stmt := inClass (top 29) 15
abbrev s_Stepper_writer : Stmt := inClass (top 29) 16
abbrev s_Stepper_rows : Stmt := inClass (top 29) 17
abbrev s_Stepper_done_again : Stmt := inClass (top 29) 18
abbrev s_Stepper_fresh : Stmt := inClass (top 29) 19
abbrev s_Stepper_twin : Stmt := inClass (top 29) 20
abbrev s_Stepper_len : Stmt := inClass (top 29) 21
abbrev s_Stepper__eq_ : Stmt := inClass (top 29) 22
abbrev s_Stepper_str : Stmt := inClass (top 29) 23
abbrev s__law_some_keys : Stmt := top 31
abbrev s__law_draw : Stmt := top 32
abbrev s__law_keys : Stmt := top 33
abbrev s__law_left : Stmt := top 34
abbrev s__law_next : Stmt := top 35
abbrev s__law_greatest : Stmt := top 36
abbrev s__law_fresh : Stmt := top 37
abbrev s__law_wish : Stmt := top 38
abbrev s__law_kind : Stmt := top 39
abbrev s__law_told : Stmt := top 40
abbrev s__law_names : Stmt := top 41
abbrev s__law_marks : Stmt := top 42
abbrev s__law_steps : Stmt := top 43
abbrev s__law_book : Stmt := top 44
abbrev s__law_pool : Stmt := top 45
abbrev s__law_copied : Stmt := top 46
abbrev s__law_wrote : Stmt := top 47
abbrev s__law_last : Stmt := top 48
abbrev s__law_step : Stmt := top 49
abbrev s__law_is_off : Stmt := top 50
abbrev s__law_do : Stmt := top 51
abbrev s__law_again : Stmt := top 52
abbrev s__law_same : Stmt := top 53
abbrev s__law_doing : Stmt := top 54
abbrev s__law_state_text : Stmt := top 55
abbrev s__law_all_keys : Stmt := top 56
abbrev s__law_stands_so : Stmt := top 57
abbrev s__law_some : Stmt := top 58
abbrev s__law_refused : Stmt := top 59
abbrev s_law : Stmt := top 60
end K28
/-! ## K28h1 -/
namespace K28
set_option maxHeartbeats 0
open L2 LamX PySem PySem.Spec PyProof.Rows
/-! ### the head's run: what is looked at, by names -/
def haF : List He.Fa := [.free "len",
  .free "range",
  .free "isinstance",
  .free "int",
  .free "bool",
  .free "str",
  .free "list",
  .free "tuple",
  .free "dict",
  .free "zip",
  .free "enumerate",
  .free "max",
  .free "min",
  .free "any",
  .free "repr",
  .glo "is_whole",
  .glo "is_pair",
  .glo "dealing_copied",
  .glo "book_copied",
  .glo "number_by",
  .glo "dealing_by",
  .glo "is_key_by",
  .glo "is_key",
  .glo "are_keys",
  .glo "_law_some_keys",
  .glo "_law_draw",
  .glo "_law_keys",
  .glo "_law_left",
  .glo "_law_next",
  .glo "_law_greatest",
  .glo "_law_fresh",
  .glo "_law_wish",
  .glo "_law_kind",
  .glo "_law_told",
  .glo "_law_names",
  .glo "_law_marks",
  .glo "_law_steps",
  .glo "_law_book",
  .glo "_law_pool",
  .glo "_law_copied",
  .glo "_law_wrote",
  .glo "_law_last",
  .glo "_law_step",
  .glo "_law_is_off",
  .glo "_law_do",
  .glo "_law_again",
  .glo "_law_same",
  .glo "_law_doing",
  .glo "_law_state_text",
  .glo "_law_all_keys",
  .glo "_law_stands_so",
  .glo "_law_some",
  .glo "_law_refused",
  .glo "law",
  .glo "Deal",
  .glo "Stepper",
  .glo "SnapError",
  .glo "BookError",
  .glo "StepError",
  .glo "NoKeys",
  .glo "NoKey",
  .glo "NoDealing",
  .glo "NoNumber",
  .glo "Over",
  .glo "NoStep",
  .glo "NoEnd",
  .glo "NoDeed",
  .glo "TooMany",
  .int "MOST_BEGUN" 40,
  .cls "Deal",
  .noat "Deal" "title",
  .noat "Deal" "given",
  .noat "Deal" "key_by",
  .noat "Deal" "ahead",
  .noat "Deal" "told",
  .noat "Deal" "begun",
  .noat "Deal" "ended",
  .noat "Deal" "word",
  .meth "Deal" "next_deed",
  .meth "Deal" "steps_left",
  .meth "Deal" "written",
  .meth "Deal" "closed",
  .meth "Deal" "opened",
  .mkr "Deal",
  .cls "Stepper",
  .noat "Stepper" "own_book",
  .noat "Stepper" "deals",
  .noat "Stepper" "log",
  .meth "Stepper" "begin",
  .meth "Stepper" "deal_by",
  .meth "Stepper" "open_deal",
  .meth "Stepper" "last_writer",
  .meth "Stepper" "step",
  .meth "Stepper" "is_called_off",
  .meth "Stepper" "look_at_end",
  .meth "Stepper" "close",
  .meth "Stepper" "shut",
  .meth "Stepper" "end",
  .meth "Stepper" "drop",
  .meth "Stepper" "undo",
  .meth "Stepper" "state",
  .meth "Stepper" "left",
  .meth "Stepper" "writer",
  .meth "Stepper" "rows",
  .meth "Stepper" "done_again",
  .meth "Stepper" "fresh",
  .meth "Stepper" "twin",
  .meth "Stepper" "__len__",
  .meth "Stepper" "__str__",
  .mkr "Stepper",
  .exm "NoNumber" "SnapError" true,
  .exm "Over" "SnapError" true,
  .exm "NoStep" "SnapError" true,
  .exm "NoEnd" "SnapError" true]
def hd_is_whole : He.DefD := ⟨("is_whole", none), "is_whole", "is_whole", defArgs s_is_whole, defBody s_is_whole, defScope s_is_whole, [], []⟩
def hd_is_pair : He.DefD := ⟨("is_pair", none), "is_pair", "is_pair", defArgs s_is_pair, defBody s_is_pair, defScope s_is_pair, [], []⟩
def hd_dealing_copied : He.DefD := ⟨("dealing_copied", none), "dealing_copied", "dealing_copied", defArgs s_dealing_copied, defBody s_dealing_copied, defScope s_dealing_copied, [], []⟩
def hd_book_copied : He.DefD := ⟨("book_copied", none), "book_copied", "book_copied", defArgs s_book_copied, defBody s_book_copied, defScope s_book_copied, [], []⟩
def hd_number_by : He.DefD := ⟨("number_by", none), "number_by", "number_by", defArgs s_number_by, defBody s_number_by, defScope s_number_by, [], []⟩
def hd_dealing_by : He.DefD := ⟨("dealing_by", none), "dealing_by", "dealing_by", defArgs s_dealing_by, defBody s_dealing_by, defScope s_dealing_by, [], []⟩
def hd_is_key_by : He.DefD := ⟨("is_key_by", none), "is_key_by", "is_key_by", defArgs s_is_key_by, defBody s_is_key_by, defScope s_is_key_by, [], []⟩
def hd_is_key : He.DefD := ⟨("is_key", none), "is_key", "is_key", defArgs s_is_key, defBody s_is_key, defScope s_is_key, [], []⟩
def hd_are_keys : He.DefD := ⟨("are_keys", none), "are_keys", "are_keys", defArgs s_are_keys, defBody s_are_keys, defScope s_are_keys, [], []⟩
def hd_Deal_init : He.DefD := ⟨("Deal", some "__init__"), "__init__", "Deal.__init__", defArgs s_Deal_init, defBody s_Deal_init, defScope s_Deal_init, [], []⟩
def hd_Deal_next_deed : He.DefD := ⟨("Deal", some "next_deed"), "next_deed", "Deal.next_deed", defArgs s_Deal_next_deed, defBody s_Deal_next_deed, defScope s_Deal_next_deed, [], []⟩
def hd_Deal_steps_left : He.DefD := ⟨("Deal", some "steps_left"), "steps_left", "Deal.steps_left", defArgs s_Deal_steps_left, defBody s_Deal_steps_left, defScope s_Deal_steps_left, [], []⟩
def hd_Deal_written : He.DefD := ⟨("Deal", some "written"), "written", "Deal.written", defArgs s_Deal_written, defBody s_Deal_written, defScope s_Deal_written, [], []⟩
def hd_Deal_closed : He.DefD := ⟨("Deal", some "closed"), "closed", "Deal.closed", defArgs s_Deal_closed, defBody s_Deal_closed, defScope s_Deal_closed, [], []⟩
def hd_Deal_opened : He.DefD := ⟨("Deal", some "opened"), "opened", "Deal.opened", defArgs s_Deal_opened, defBody s_Deal_opened, defScope s_Deal_opened, [], []⟩
def hd_Stepper_init : He.DefD := ⟨("Stepper", some "__init__"), "__init__", "Stepper.__init__", defArgs s_Stepper_init, defBody s_Stepper_init, defScope s_Stepper_init, [], []⟩
def hd_Stepper_begin : He.DefD := ⟨("Stepper", some "begin"), "begin", "Stepper.begin", defArgs s_Stepper_begin, defBody s_Stepper_begin, defScope s_Stepper_begin, [.non], []⟩
def hd_Stepper_deal_by : He.DefD := ⟨("Stepper", some "deal_by"), "deal_by", "Stepper.deal_by", defArgs s_Stepper_deal_by, defBody s_Stepper_deal_by, defScope s_Stepper_deal_by, [], []⟩
def hd_Stepper_open_deal : He.DefD := ⟨("Stepper", some "open_deal"), "open_deal", "Stepper.open_deal", defArgs s_Stepper_open_deal, defBody s_Stepper_open_deal, defScope s_Stepper_open_deal, [], []⟩
def hd_Stepper_last_writer : He.DefD := ⟨("Stepper", some "last_writer"), "last_writer", "Stepper.last_writer", defArgs s_Stepper_last_writer, defBody s_Stepper_last_writer, defScope s_Stepper_last_writer, [], []⟩
def hd_Stepper_step : He.DefD := ⟨("Stepper", some "step"), "step", "Stepper.step", defArgs s_Stepper_step, defBody s_Stepper_step, defScope s_Stepper_step, [], []⟩
def hd_Stepper_is_called_off : He.DefD := ⟨("Stepper", some "is_called_off"), "is_called_off", "Stepper.is_called_off", defArgs s_Stepper_is_called_off, defBody s_Stepper_is_called_off, defScope s_Stepper_is_called_off, [], []⟩
def hd_Stepper_look_at_end : He.DefD := ⟨("Stepper", some "look_at_end"), "look_at_end", "Stepper.look_at_end", defArgs s_Stepper_look_at_end, defBody s_Stepper_look_at_end, defScope s_Stepper_look_at_end, [], []⟩
def hd_Stepper_close : He.DefD := ⟨("Stepper", some "close"), "close", "Stepper.close", defArgs s_Stepper_close, defBody s_Stepper_close, defScope s_Stepper_close, [], []⟩
def hd_Stepper_shut : He.DefD := ⟨("Stepper", some "shut"), "shut", "Stepper.shut", defArgs s_Stepper_shut, defBody s_Stepper_shut, defScope s_Stepper_shut, [], []⟩
def hd_Stepper_end : He.DefD := ⟨("Stepper", some "end"), "end", "Stepper.end", defArgs s_Stepper_end, defBody s_Stepper_end, defScope s_Stepper_end, [], []⟩
def hd_Stepper_drop : He.DefD := ⟨("Stepper", some "drop"), "drop", "Stepper.drop", defArgs s_Stepper_drop, defBody s_Stepper_drop, defScope s_Stepper_drop, [], []⟩
def hd_Stepper_undo : He.DefD := ⟨("Stepper", some "undo"), "undo", "Stepper.undo", defArgs s_Stepper_undo, defBody s_Stepper_undo, defScope s_Stepper_undo, [], []⟩
def hd_Stepper_state : He.DefD := ⟨("Stepper", some "state"), "state", "Stepper.state", defArgs s_Stepper_state, defBody s_Stepper_state, defScope s_Stepper_state, [], []⟩
def hd_Stepper_left : He.DefD := ⟨("Stepper", some "left"), "left", "Stepper.left", defArgs s_Stepper_left, defBody s_Stepper_left, defScope s_Stepper_left, [], []⟩
def hd_Stepper_writer : He.DefD := ⟨("Stepper", some "writer"), "writer", "Stepper.writer", defArgs s_Stepper_writer, defBody s_Stepper_writer, defScope s_Stepper_writer, [], []⟩
def hd_Stepper_rows : He.DefD := ⟨("Stepper", some "rows"), "rows", "Stepper.rows", defArgs s_Stepper_rows, defBody s_Stepper_rows, defScope s_Stepper_rows, [], []⟩
def hd_Stepper_done_again : He.DefD := ⟨("Stepper", some "done_again"), "done_again", "Stepper.done_again", defArgs s_Stepper_done_again, defBody s_Stepper_done_again, defScope s_Stepper_done_again, [], []⟩
def hd_Stepper_fresh : He.DefD := ⟨("Stepper", some "fresh"), "fresh", "Stepper.fresh", defArgs s_Stepper_fresh, defBody s_Stepper_fresh, defScope s_Stepper_fresh, [], []⟩
def hd_Stepper_twin : He.DefD := ⟨("Stepper", some "twin"), "twin", "Stepper.twin", defArgs s_Stepper_twin, defBody s_Stepper_twin, defScope s_Stepper_twin, [], []⟩
def hd_Stepper_len : He.DefD := ⟨("Stepper", some "__len__"), "__len__", "Stepper.__len__", defArgs s_Stepper_len, defBody s_Stepper_len, defScope s_Stepper_len, [], []⟩
def hd_Stepper_str : He.DefD := ⟨("Stepper", some "__str__"), "__str__", "Stepper.__str__", defArgs s_Stepper_str, defBody s_Stepper_str, defScope s_Stepper_str, [], []⟩
def hd__law_some_keys : He.DefD := ⟨("_law_some_keys", none), "_law_some_keys", "_law_some_keys", defArgs s__law_some_keys, defBody s__law_some_keys, defScope s__law_some_keys, [], []⟩
def hd__law_draw : He.DefD := ⟨("_law_draw", none), "_law_draw", "_law_draw", defArgs s__law_draw, defBody s__law_draw, defScope s__law_draw, [], []⟩
def hd__law_keys : He.DefD := ⟨("_law_keys", none), "_law_keys", "_law_keys", defArgs s__law_keys, defBody s__law_keys, defScope s__law_keys, [], []⟩
def hd__law_left : He.DefD := ⟨("_law_left", none), "_law_left", "_law_left", defArgs s__law_left, defBody s__law_left, defScope s__law_left, [], []⟩
def hd__law_next : He.DefD := ⟨("_law_next", none), "_law_next", "_law_next", defArgs s__law_next, defBody s__law_next, defScope s__law_next, [], []⟩
def hd__law_greatest : He.DefD := ⟨("_law_greatest", none), "_law_greatest", "_law_greatest", defArgs s__law_greatest, defBody s__law_greatest, defScope s__law_greatest, [], []⟩
def hd__law_fresh : He.DefD := ⟨("_law_fresh", none), "_law_fresh", "_law_fresh", defArgs s__law_fresh, defBody s__law_fresh, defScope s__law_fresh, [], []⟩
def hd__law_wish : He.DefD := ⟨("_law_wish", none), "_law_wish", "_law_wish", defArgs s__law_wish, defBody s__law_wish, defScope s__law_wish, [], []⟩
def hd__law_kind : He.DefD := ⟨("_law_kind", none), "_law_kind", "_law_kind", defArgs s__law_kind, defBody s__law_kind, defScope s__law_kind, [], []⟩
def hd__law_told : He.DefD := ⟨("_law_told", none), "_law_told", "_law_told", defArgs s__law_told, defBody s__law_told, defScope s__law_told, [], []⟩
def hd__law_names : He.DefD := ⟨("_law_names", none), "_law_names", "_law_names", defArgs s__law_names, defBody s__law_names, defScope s__law_names, [], []⟩
def hd__law_marks : He.DefD := ⟨("_law_marks", none), "_law_marks", "_law_marks", defArgs s__law_marks, defBody s__law_marks, defScope s__law_marks, [], []⟩
def hd__law_steps : He.DefD := ⟨("_law_steps", none), "_law_steps", "_law_steps", defArgs s__law_steps, defBody s__law_steps, defScope s__law_steps, [], []⟩
def hd__law_book : He.DefD := ⟨("_law_book", none), "_law_book", "_law_book", defArgs s__law_book, defBody s__law_book, defScope s__law_book, [], []⟩
def hd__law_pool : He.DefD := ⟨("_law_pool", none), "_law_pool", "_law_pool", defArgs s__law_pool, defBody s__law_pool, defScope s__law_pool, [], []⟩
def hd__law_copied : He.DefD := ⟨("_law_copied", none), "_law_copied", "_law_copied", defArgs s__law_copied, defBody s__law_copied, defScope s__law_copied, [], []⟩
def hd__law_wrote : He.DefD := ⟨("_law_wrote", none), "_law_wrote", "_law_wrote", defArgs s__law_wrote, defBody s__law_wrote, defScope s__law_wrote, [], []⟩
def hd__law_last : He.DefD := ⟨("_law_last", none), "_law_last", "_law_last", defArgs s__law_last, defBody s__law_last, defScope s__law_last, [], []⟩
def hd__law_step : He.DefD := ⟨("_law_step", none), "_law_step", "_law_step", defArgs s__law_step, defBody s__law_step, defScope s__law_step, [], []⟩
def hd__law_is_off : He.DefD := ⟨("_law_is_off", none), "_law_is_off", "_law_is_off", defArgs s__law_is_off, defBody s__law_is_off, defScope s__law_is_off, [], []⟩
def hd__law_do : He.DefD := ⟨("_law_do", none), "_law_do", "_law_do", defArgs s__law_do, defBody s__law_do, defScope s__law_do, [], []⟩
def hd__law_again : He.DefD := ⟨("_law_again", none), "_law_again", "_law_again", defArgs s__law_again, defBody s__law_again, defScope s__law_again, [], []⟩
def hd__law_same : He.DefD := ⟨("_law_same", none), "_law_same", "_law_same", defArgs s__law_same, defBody s__law_same, defScope s__law_same, [], []⟩
def hd__law_doing : He.DefD := ⟨("_law_doing", none), "_law_doing", "_law_doing", defArgs s__law_doing, defBody s__law_doing, defScope s__law_doing, [], []⟩
def hd__law_state_text : He.DefD := ⟨("_law_state_text", none), "_law_state_text", "_law_state_text", defArgs s__law_state_text, defBody s__law_state_text, defScope s__law_state_text, [], []⟩
def hd__law_all_keys : He.DefD := ⟨("_law_all_keys", none), "_law_all_keys", "_law_all_keys", defArgs s__law_all_keys, defBody s__law_all_keys, defScope s__law_all_keys, [], []⟩
def hd__law_stands_so : He.DefD := ⟨("_law_stands_so", none), "_law_stands_so", "_law_stands_so", defArgs s__law_stands_so, defBody s__law_stands_so, defScope s__law_stands_so, [], []⟩
def hd__law_some : He.DefD := ⟨("_law_some", none), "_law_some", "_law_some", defArgs s__law_some, defBody s__law_some, defScope s__law_some, [], []⟩
def hd__law_refused : He.DefD := ⟨("_law_refused", none), "_law_refused", "_law_refused", defArgs s__law_refused, defBody s__law_refused, defScope s__law_refused, [], []⟩
def hd_law : He.DefD := ⟨("law", none), "law", "law", defArgs s_law, defBody s_law, defScope s_law, [], []⟩
def haD : List He.DefD := [hd_is_whole, hd_is_pair, hd_dealing_copied, hd_book_copied, hd_number_by, hd_dealing_by, hd_is_key_by, hd_is_key, hd_are_keys, hd_Deal_init, hd_Deal_next_deed, hd_Deal_steps_left, hd_Deal_written, hd_Deal_closed, hd_Deal_opened, hd_Stepper_init, hd_Stepper_begin, hd_Stepper_deal_by, hd_Stepper_open_deal, hd_Stepper_last_writer, hd_Stepper_step, hd_Stepper_is_called_off, hd_Stepper_look_at_end, hd_Stepper_close, hd_Stepper_shut, hd_Stepper_end, hd_Stepper_drop, hd_Stepper_undo, hd_Stepper_state, hd_Stepper_left, hd_Stepper_writer, hd_Stepper_rows, hd_Stepper_done_again, hd_Stepper_fresh, hd_Stepper_twin, hd_Stepper_len, hd_Stepper_str, hd__law_some_keys, hd__law_draw, hd__law_keys, hd__law_left, hd__law_next, hd__law_greatest, hd__law_fresh, hd__law_wish, hd__law_kind, hd__law_told, hd__law_names, hd__law_marks, hd__law_steps, hd__law_book, hd__law_pool, hd__law_copied, hd__law_wrote, hd__law_last, hd__law_step, hd__law_is_off, hd__law_do, hd__law_again, hd__law_same, hd__law_doing, hd__law_state_text, hd__law_all_keys, hd__law_stands_so, hd__law_some, hd__law_refused, hd_law]
def haT : List He.Defn := [("Stepper", some "last_writer")]
def exOwn : List Str := ["SnapError", "BookError", "StepError", "NoKeys", "NoKey", "NoDealing", "NoNumber", "Over", "NoStep", "NoEnd", "NoDeed", "TooMany"]
def exFour : List Str := ["NoNumber", "Over", "NoStep", "NoEnd"]
def exTen : List Str := ["NoDealing", "NoKeys", "TooMany", "NoNumber", "Over", "NoStep", "NoEnd", "NoKey", "NoDeed", "BookError", "StepError"]
def exB1 (K : PySem.W.Frag) (x : Str) : Bool := PySem.W.excIn K (He.ga K x) [.type "Exception", .type "BaseException", .type "object"] "Exception.__new__" && (PySem.W.keepIn K (.ref (He.ga K x)) && (decide (PySem.W.subIn K (.ref (He.ga K x)) (.type "BaseException") = some true) && decide (PySem.W.typeIn K (.ref (He.ga K x)) = some (.type "type"))))
def exB2 (K : PySem.W.Frag) (d : Str) : Bool := He.eqO (PySem.W.findIn K (.ref (He.ga K d)) "__getattribute__") (some (some (.builtin "BaseException.__getattribute__"))) && (He.eqO (PySem.W.findIn K (.ref (He.ga K d)) "__getattr__") (some none) && (decide (PySem.W.subIn K (.ref (He.ga K d)) (.type "BaseException") = some true) && (PySem.W.hasDictIn K (He.ga K d) &&
  (He.eqO (PySem.W.findIn K (.ref (He.ga K d)) "__class__") (some (some (.builtin "object.__class__"))) && (He.eqO (PySem.W.specialIn K (.builtin "object.__class__") "__get__") (some (some (.builtin "getset_descriptor.__get__"))) && (decide (PySem.W.takesIn K (.builtin "object.__class__") = some true) && decide (PySem.W.mroIn K (He.ga K d) (.type "object") = some true)))))))
def exB3 (K : PySem.W.Frag) (d x : Str) : Bool := decide (PySem.W.kitOne K (.ref (He.ga K d)) (.ref (He.ga K x)) = some (decide (x = d) || decide (x = "StepError")))
def exB (K : PySem.W.Frag) : Bool := (exOwn.all fun x => exB1 K x) && ((exFour.all fun d => exB2 K d && exTen.all fun x => exB3 K d x) && decide (He.ga K "Deal" ≠ He.ga K "Stepper"))
abbrev RR : PySem.W.OpenRow := PySem.W.OpenLaw.row PySem.Challenge.rw_snapsure_k28_whole_a_stepper_walked
abbrev qv : Program := PySem.W.view RR.prog [60]
abbrev hk : PySem.W.Hook := He.hookX 4 haF haD [] haT exB
def hob (s : PySem.W.SharedT) : He.AlX := He.obsX 4 haF haD [] haT exB (HandSHeadRun.getT s)
theorem hob_eq (s : PySem.W.SharedT) : hob s = hk.obs s.abs := He.obsX_eq (HandSHeadRun.getT_eq s)
def names1 : List PySem.Str := ["_wall", "SnapError", "BookError", "StepError", "NoKeys", "NoKey", "NoDealing", "NoNumber", "Over", "NoStep", "NoEnd", "NoDeed", "TooMany", "is_whole", "is_pair", "dealing_copied", "book_copied", "number_by", "dealing_by", "has_many", "is_key_by", "is_key", "are_keys", "MOST_BEGUN", "Deal", "Stepper"]
def names2 : List PySem.Str := ["_law_some_keys", "_law_draw", "_law_keys", "_law_left", "_law_next", "_law_greatest", "_law_fresh", "_law_wish", "_law_kind", "_law_told", "_law_names", "_law_marks", "_law_steps", "_law_book", "_law_pool", "_law_copied", "_law_wrote", "_law_last", "_law_step", "_law_is_off", "_law_do", "_law_again", "_law_same", "_law_doing", "_law_state_text", "_law_all_keys", "_law_stands_so", "_law_some", "_law_refused"]
theorem run (w : World) : HandSHeadRun.RunEq RR qv hk hob 8000 (names1 ++ names2) w := by
  intro os
  kernel_rfl
end K28
/-! ## K28A -/
namespace K28
set_option maxHeartbeats 3900000
open L2 PySem PySem.Spec PyProof.Rows

/-! ### a thing just made is known from now on -/
def tFrz (t : TE) : TE := fun σ H Q => t σ H fun v H1 => ∃ (a : Addr) (u : HO), v = .ref a ∧ H1 a = some u ∧ Mut (some u) ∧ ∀ o, Q v (upd H1 a (.frz o u))
theorem pe_frz {X : Cx} {e : Expr} {t : TE} (h : PE X e t) : PE X e (tFrz t) := by
  constructor
  intro pins s σ H Q I hq
  refine thn (h.run pins s σ H _ I hq) fun v s1 ⟨x, H1, I1, r1, a, u, ex, ha, mu, q⟩ => ?_
  subst ex
  obtain ⟨od, I2⟩ := I1.lock ha mu
  exact ⟨.ref a, _, I2, r1, q od⟩

/-! ### repr of data -/
def rRepr (K : PySem.W.Frag) : List V → Hp → VK → Prop := fun xs H Q => ∃ (x : V) (d : PyData), xs = [x] ∧ Dp K H x d ∧ PyData.showable d = true ∧ PyData.hasDict d = false ∧ PyData.depth d ≤ 60 ∧ d.shown.length ≤ sizeLine ∧ Q (.str d.shown) H
theorem call_repr {X : Cx} (hg : X.A.guards = some []) (hu : X.A.units + 64 < cLine) : CallR X (.builtin "repr") (rRepr X.K) := by
  intro pins s σ H xs us Q I rel h
  obtain ⟨x, d, rfl, hd, hs, hn, hz, hl, q⟩ := h
  obtain ⟨u, rfl, ru⟩ := vals1 rel
  obtain ⟨as, rd⟩ := Dp.reads I d x u hd ru
  have fin : ∀ (h' : Heap) (t : Tok) (tk : Nat), (∀ b o, s.heap.get? b = some o → h'.get? b = some o) → EP X pins σ Q (.str d.shown t) { s with heap := h', toks := tk } := fun h' t tk k => ⟨.str d.shown, H, I.kept k, ⟨t, rfl⟩, q⟩
  cases rd with
  | none =>
    simp only [PyData.shown] at fin
    exact PySem.P.repr_of_none (fin s.heap _ _ fun _ _ z => z)
  | bool b =>
    simp only [PyData.shown] at fin
    exact PySem.P.repr_of_bool (fin s.heap _ _ fun _ _ z => z)
  | int i t =>
    simp only [PyData.shown] at fin
    exact PySem.P.repr_of_int (by simpa [PyData.showable] using hs) (fin s.heap _ _ fun _ _ z => z)
  | str y t =>
    simp only [PyData.shown] at fin hl
    exact PySem.P.repr_of_str (fin s.heap _ _ fun _ _ z => z) hl
  | list h1 h2 h3 h4 =>
    exact PySem.repr_of_reads' (.list h1 h2 h3 h4) hs (fun z => by rw [hn] at z; cases z) hg (by omega) (fun _ _ z => z) (fun h' t tk k => fin h' t tk k) hl
  | tuple h1 h2 h3 h4 =>
    exact PySem.repr_of_reads' (.tuple h1 h2 h3 h4) hs (fun z => by rw [hn] at z; cases z) hg (by omega) (fun _ _ z => z) (fun h' t tk k => fin h' t tk k) hl
  | dict => cases hd
end K28
/-! ## K28B -/
namespace K28
set_option maxHeartbeats 3900000
open L2 PySem PySem.Spec PyProof.Rows
/-- a list and a list that may be known -/
def rCatF : R2 := fun x y H Q => ∃ l b xs zs, x = .ref l ∧ y = .ref b ∧ Rd H l (.lst xs) ∧ Rd H b (.lst zs) ∧ xs.length + zs.length ≤ sizeLine ∧ ∀ p, H p = none → Q (.ref p) (upd H p (.lst (xs ++ zs)))
theorem op_catF {X : Cx} : OpR X (binaryOp .Add) rCatF := by
  intro pins s σ H x y v u Q J rx ry h
  obtain ⟨l, b, xs, zs, rfl, rfl, hl, hb, hz, q⟩ := h
  cases rx
  cases ry
  obtain ⟨z1, i1, n1, r1, e1⟩ := hl.ok J.hok
  obtain ⟨z2, i2, n2, r2, e2⟩ := hb.ok J.hok
  have l1 := r1.length
  have l2 := r2.length
  refine PySem.P.add_list e1 e2 ?_ (by rw [List.size_toArray, List.size_toArray]; omega)
  rw [show i1.toArray ++ i2.toArray = (i1 ++ i2).toArray from by simp]
  exact ⟨.ref _, _, J.lnew (t' := s.toks) (r1.append r2) (by rw [List.length_append]; omega), rfl, q _ J.fresh⟩
/-- how many items of a flat list are such -/
def rCntF (K : PySem.W.Frag) : V → List V → Hp → VK → Prop := fun x xs H Q => ∃ (p : Addr) (ys : List V) (k : V), x = .ref p ∧ xs = [k] ∧ SqL K H p ys ∧ flatV k = true ∧ ys.all flatV = true ∧ Q (.int (ys.countP fun y => eqV y k : Nat)) H
theorem count_eqU {k : V} : ∀ {xs : List V} {us : List Value}, Vals xs us → xs.all flatV = true → us.countP (eqU k) = xs.countP fun y => eqV y k
  | _, _, .nil, _ => rfl
  | _, _, .cons (a := x) (b := u) r t, h => by
    obtain ⟨h1, h2⟩ := Bool.and_eq_true_iff.mp (List.all_cons ▸ h)
    rw [List.countP_cons, List.countP_cons, count_eqU t h2, eqU_of r h1]
theorem mt_countF {X : Cx} : MtR X "list.count" (rCntF X.K) := by
  intro pins s σ H x xs v us Q I rx rels h
  obtain ⟨p, ys, k, rfl, rfl, hs, fk, fy, q⟩ := h
  cases rx
  obtain ⟨u, rfl, ru⟩ := rels.one
  obtain ⟨its, rv, ⟨⟨_, dd, _, sl⟩, n, ho, hc, hdn, hd⟩, -⟩ := I.list hs
  simp only at hc hd
  subst hc hd
  have hm := mem_eqAt (A := X.A.in1) (s := s) ru fk rv fy
  refine call_meets PySem.F.slot_list_count ⟨_, ho, rfl⟩ PySem.F.entry_list_count (PySem.F.args_list_count_2 _ _) (SeqAt.list_countAt p its.toArray n dd sl u (eqU k)) ⟨ho, fun y hy => hm y (by simpa using hy), ?_⟩
  refine ⟨.int (ys.countP fun y => eqV y k : Nat), H, I.tok _, ⟨s.toks, ?_⟩, q⟩
  show Value.int ((its.toArray.toList.countP (eqU k) : Nat) : Int) s.toks = _
  have e : its.toArray.toList.countP (eqU k) = ys.countP fun y => eqV y k := count_eqU rv fy
  rw [e]
/-! ### len(o), str(o) by an own method -/
section
variable {X : Cx} {C f : Addr} {CX : CXT} {k : Nat} {fd : FuncData} {sp : Sp} {ps : List Str}
def rOwn1 (C : Addr) (m : Str) (sp : Sp) (g : V → Prop) : List V → Hp → VK → Prop := fun xs H Q => ∃ (a dx : Addr) (fs : List (Str × V)), xs = [.ref a] ∧ H a = some (.ins C dx fs) ∧ fs.lookup m = none ∧ sp [.ref a] H (fun v H' => g v ∧ Q v H') E0
theorem Room.in1' {k : Nat} {A : Around} (r : Room k A) : Room k A.in1 → Room k A.in1 := id
theorem call_lenO (M : Meth X.K C "__len__" f) (F : FnOk X.prog X.w X.K X.mg X.base CX k f fd ps sp) (hb : Binds X.K fd ps []) (hr : Room (k + 1) X.A) (hx : ∀ H s e s', ¬ CX X.stack H s E0 e s') :
    CallR X (.builtin "len") (rOwn1 C "__len__" sp fun v => ∃ n : Nat, v = .int n ∧ n ≤ 1000000) := by
  intro pins s σ H xs us Q I rel h
  obtain ⟨a, dx, fs, rfl, ha, hl, q⟩ := h
  obtain ⟨_, rfl, (rfl : _ = Value.ref a)⟩ := vals1 rel
  obtain ⟨mA, O, hrel, _, _, _⟩ := ins_get I.hok ha
  obtain ⟨od, J, look⟩ := O.look
  obtain ⟨m0, F0⟩ := I.fr
  refine PySem.W.len_K (h₀ := X.base) (L := X.env.locals) F0 I.mod.kin J M.at_ M.fn ?_
  have hlen : (Vals [V.ref a] [Value.ref a]) := .cons rfl .nil
  have b := hb s [.ref a] I.kIn (by rw [List.append_nil, ← hlen.length]; exact F.len _ _ _ _ q)
  rw [List.append_nil] at b
  refine wpAny_call (codeAny_mono (F.run X.A.in1 X.stack s H ⟨[.ref a], []⟩ [.ref a] [.ref a] _ E0 hr.in1 I.env0.in1 b hlen q) fun r s' hq => ?_)
  cases r with
  | error e => exact absurd hq (hx _ _ _ _)
  | ok fl =>
    cases fl with
    | next => exact False.elim hq
    | brk => exact False.elim hq
    | cont => exact False.elim hq
    | ret u =>
      obtain ⟨v, H', I', rv, ⟨n, en, hn⟩, q'⟩ := I.after hq
      subst en
      obtain ⟨t, rfl⟩ := rv
      exact ⟨⟨by omega, by omega⟩, ⟨.int n, H', I'.tok _, ⟨_, rfl⟩, q'⟩⟩
theorem call_strO (M : Meth X.K C "__str__" f) (F : FnOk X.prog X.w X.K X.mg X.base CX k f fd ps sp) (hb : Binds X.K fd ps []) (hr : Room (k + 2) X.A) (hx : ∀ H s e s', ¬ CX X.stack H s E0 e s') :
    CallR X (.type "str") (rOwn1 C "__str__" sp fun v => ∃ y, v = .str y) := by
  intro pins s σ H xs us Q I rel h
  obtain ⟨a, dx, fs, rfl, ha, hl, q⟩ := h
  obtain ⟨_, rfl, (rfl : _ = Value.ref a)⟩ := vals1 rel
  obtain ⟨mA, O, hrel, _, _, _⟩ := ins_get I.hok ha
  obtain ⟨od, J, look⟩ := O.look
  refine PySem.W.kso_call (by have := hr.un; show X.A.units + 1 + 1 < cLine; omega) I.kIn J M.at_ M.fn ?_
  have hlen : (Vals [V.ref a] [Value.ref a]) := .cons rfl .nil
  have b := hb s [.ref a] I.kIn (by rw [List.append_nil, ← hlen.length]; exact F.len _ _ _ _ q)
  rw [List.append_nil] at b
  refine wpAny_call (codeAny_mono (F.run X.A.in1.in1 X.stack s H ⟨[.ref a], []⟩ [.ref a] [.ref a] _ E0 hr.in1.in1 I.env0.in1.in1 b hlen q) fun r s' hq => ?_)
  cases r with
  | error e => exact absurd hq (hx _ _ _ _)
  | ok fl =>
    cases fl with
    | next => exact False.elim hq
    | brk => exact False.elim hq
    | cont => exact False.elim hq
    | ret u =>
      obtain ⟨v, H', I', rv, ⟨y, en⟩, q'⟩ := I.after hq
      subst en
      obtain ⟨t, rfl⟩ := rv
      exact ⟨.str y, H', I', ⟨_, rfl⟩, q'⟩
end
end K28
/-! ## K28C -/
namespace K28
set_option maxHeartbeats 3900000
open L2 PySem PySem.Spec PyProof.Rows
/-- dict(zip(xs, ys)), two lists of one length -/
def tDZip (K : PySem.W.Frag) (ta : TA) : TE := fun σ H Q => ta σ H fun vs H1 => ∃ (a b : Addr) (ks : List Key) (ys : List V), vs = [.ref a, .ref b] ∧ SqL K H1 a (ks.map kV) ∧ SqL K H1 b ys ∧ ks.length = ys.length ∧
  ∀ p, H1 p = none → Q (.ref p) (upd H1 p (.dK (mergeK [] (ks.zip ys))))
theorem kv_zip : ∀ {ks : List Key} {ys : List V} {us : List Value}, Vals ys us → KV (ks.zip ys) (ks.zip us)
  | [], _, _, _ => .nil
  | _ :: _, _, _, .nil => .nil
  | k :: ks, _, _, .cons r t => .cons ⟨rfl, r⟩ (kv_zip t)
theorem pe_dzip {X : Cx} {e e2 : Expr} {ta : TA} {p p2 pos pos2 : Pos} (hcalm : X.calm = true) (hg : Gl X "dict") (hm : X.mg "dict" = none) (hgz : Gl X "zip") (hmz : X.mg "zip" = none) (ha : PA X [e, e2] ta)
    (hs : starEach [e, e2] X.env = (false, eval e X.env) :: starEach [e2] X.env := by rfl) (hpl : (backTo pos2 (starEach [e2] X.env)).any (·.1) = false := by rfl) :
    PE X (.Call (.Name "dict" p) [.Call (.Name "zip" p2) [e, e2] [] pos2] [] pos) (tDZip X.K ta) := by
  constructor
  intro pins s σ H Q I h
  refine wpAny_Call_Name_kw (ld_blt I hg hm boot_dict ?_)
  refine PyProof.Rows.callWith_type1 ?_ rfl rfl
  show wpAny _ _ (spliced ((false, eval (.Call (.Name "zip" p2) [e, e2] [] pos2) X.env) :: [])) _ _ s
  refine Calls.spliced_cons ?_
  refine Call_ (ld_blt I hgz hmz PyProof.Rows.boot_zip (PyProof.Rows.callWith_type1 (thn (ha.run pos2 pins s σ H _ I h) fun us s1 ⟨vs, H1, I1, r1, q1⟩ => ?_) hs hpl))
  obtain ⟨a, b, ks, ys, ex, hqx, hqy, hl, q⟩ := q1
  subst ex
  obtain ⟨u1, u2, rfl, ra, rb⟩ := vals2 r1
  obtain rfl : u1 = Value.ref a := ra
  obtain rfl : u2 = Value.ref b := rb
  obtain ⟨its, rv, p1, z1⟩ := I1.list hqx
  obtain ⟨its2, rv2, p2, z2⟩ := I1.list hqy
  have l1 := rv.length
  have l2 := rv2.length
  rw [List.length_map] at l1 z1
  refine call_zip_2 p1.isList p2.isList fun h' hz hTI hTO h1 h2 hsz hk => ?_
  refine Calls.spliced_nil ?_
  have D := PySem.W.ktu_apart s1.heap.objs.size a b p1.lt p2.lt
  have hmin : min its.toArray.size its2.toArray.size = ks.length := by simp; omega
  refine call_dict_pairs (knd := mixKind X.prog X.w) (kvs := ks.zip its2) (PairArg.zip _ _ _ _ _ a b D its.toArray its2.toArray) (I1.ok.hd hcalm) (s := { s1 with heap := h' }) ⟨hz, hTI, ⟨_, _, hTO⟩, h1, h2, p1.isList.at fun o z => hk _ o z, p2.isList.at fun o z => hk _ o z⟩ ⟨?_, fun i key v hr => ?_⟩ (by rw [hmin]; exact z1) fun h'' tk hd hk2 => ?_
  · rw [hmin, List.length_zip]; omega
  · have e1 : its[i]? = some key := by simpa using hr.1
    have e2 : its2[i]? = some v := by simpa using hr.2
    have hi : i < ks.length := by have := (List.getElem?_eq_some_iff.mp e1).1; omega
    refine ⟨ks[i], ?_, ?_⟩
    · rw [List.getElem?_zip_eq_some]
      exact ⟨List.getElem?_eq_getElem hi, e2⟩
    · obtain ⟨u, hu, ru⟩ := rv.get (i := i) (x := kV ks[i]) (by rw [List.getElem?_map, List.getElem?_eq_getElem hi]; rfl)
      rw [e1] at hu
      cases hu
      exact kV_is (P := X.prog) (w := X.w) ru
  · have hle : s1.heap.objs.size ≤ h'.objs.size := by rw [hsz]; omega
    have kk : ∀ c o, s1.heap.get? c = some o → h''.get? c = some o := fun c o z => hk2 c o (fun hc => by
      have hlt : c < s1.heap.objs.size := Heap.lt_size z
      simp only [List.mem_cons, List.not_mem_nil, or_false] at hc
      rcases hc with rfl | rfl | rfl | rfl
      · exact Nat.lt_irrefl _ (Nat.lt_of_le_of_lt (Nat.le_add_right _ _) hlt)
      · exact Nat.lt_irrefl _ (Nat.lt_of_le_of_lt (Nat.le_add_right _ _) hlt)
      · exact Nat.lt_irrefl _ hlt
      · exact Nat.lt_irrefl _ (Nat.lt_of_le_of_lt (Nat.le_add_right _ _) hlt)) (hk c o z)
    have hm2 : (h'.objs.size == sysModules) = false := beq_eq_false_iff_ne.mpr (Nat.ne_of_gt (Nat.lt_of_lt_of_le I1.big hle))
    have hlen : (mergeK [] (ks.zip ys)).length ≤ sizeLine := by
      refine Nat.le_trans (length_mergeK _ []) ?_
      rw [List.length_nil, Nat.zero_add, List.length_zip]
      exact Nat.le_trans (Nat.min_le_left _ _) z1
    exact ⟨.ref h'.objs.size, upd H1 h'.objs.size (.dK (mergeK [] (ks.zip ys))), I1.laid (t' := tk) kk hle (show ObjOk X.prog X.w _ _ _ (.dK (mergeK [] (ks.zip ys))) from ⟨hlen, hm2, merged [] (ks.zip its2), KV.merge (kv_zip rv2) .nil, hd⟩), rfl, q _ (I1.hok.fresh hle)⟩
end K28
/-! ## K28D -/
namespace K28
set_option maxHeartbeats 3900000
open L2 LamX PySem PySem.Spec PyProof.Rows
/-- one parameter x, no other name of its own -/
structure LamP (sc scope : Scope) (x : Str) : Prop where
  kind : scope.kind = .function
  co : (scope.isCoroutine) = false
  gen : (scope.isGenerator) = false
  own : ∀ y ∈ scope.names, y.2 ≠ .cell
  loc : ∀ y ∈ scope.names, y.2 = .local → y.1 = x
  par : scope.names.lookup x = some .local
  free : ∀ y ∈ scope.names, y.2 = .free → Vis sc y.1 ∧ sc.names.lookup y.1 ≠ some .local
/-- the same, to be computed -/
def lamPB (sc scope : Scope) (x : Str) : Bool :=
  decide (scope.kind = .function) && !scope.isCoroutine && !scope.isGenerator && decide (scope.names.lookup x = some .local) && scope.names.all fun y => match y.2 with
    | .cell => false
    | .local => decide (y.1 = x)
    | .free => decide (sc.names.lookup y.1 = some .cell) || decide (sc.names.lookup y.1 = some .free)
    | _ => true
theorem lamP_by {sc scope : Scope} {x : Str} (h : lamPB sc scope x = true) : LamP sc scope x := by
  simp only [lamPB, Bool.and_eq_true, Bool.not_eq_true', decide_eq_true_eq, List.all_eq_true] at h
  obtain ⟨⟨⟨⟨kd, co⟩, gn⟩, pr⟩, each⟩ := h
  refine ⟨kd, co, gn, fun y m e => ?_, fun y m e => ?_, pr, fun y m e => ?_⟩ <;> have z := each y m <;> rw [e] at z
  · cases z
  · simpa using z
  · simp only [Bool.or_eq_true, decide_eq_true_eq] at z
    exact ⟨.inr z, fun q => by rw [q] at z; simp at z⟩
theorem LamP.up {sc scope : Scope} {x : Str} (L : LamP sc scope x) {y : Str} (k : scope.names.lookup y = some .free) : Vis sc y ∧ sc.names.lookup y ≠ some .local := L.free _ (PySem.mem_of_lookup k) rfl
/-- the lambda's function object, as its def makes it -/
abbrev lamObj (X : Cx) (params : Arguments) (body : Expr) (scope : Scope) (pm : Value) (c' : Addr) (ctv : Value) : Obj :=
  PySem.W.kla_obj "<lambda>" (X.env.qual ++ "<lambda>") params body scope (cloFrom X.env.cells scope.names []) pm c' ctv
theorem LamP.has {X : Cx} {scope : Scope} {x : Str} (L : LamP X.env.scope scope x) (ok : X.Ok) : ∀ y ∈ scope.names, y.2 = .free → ∃ c, X.env.cells.lookup y.1 = some c := fun y m e => by
  obtain ⟨k | k, n⟩ := L.free y m e
  · exact absurd k n
  · exact ok.has y.1 k
section
variable {X : Cx} {pins : List (Addr × Obj)} {σ : L2.St}
variable {H : Hp} {s : Shared} {scope : Scope} {x : Str}
/-- the lambda's cells are its maker's -/
theorem LamP.cell_up (L : LamP X.env.scope scope x) (ok : X.Ok) {y : Str} {c : Addr} (e : (cloFrom X.env.cells scope.names []).lookup y = some c) : X.env.cells.lookup y = some c := by
  rcases cloFrom_mem (PySem.mem_of_lookup e) with m | ⟨m, e2⟩
  · exact nomatch m
  · obtain ⟨c1, k⟩ := L.has ok _ m rfl
    replace k : X.env.cells.lookup y = some c1 := k
    rw [k] at e2 ⊢
    exact congrArg some e2.symm
theorem cell_down {cells : List (Str × Addr)} {y : Str} (k : scope.names.lookup y = some .free) : ∃ c, (cloFrom cells scope.names []).lookup y = some c :=
  mem_lookup (cloFrom_has (acc := []) (PySem.mem_of_lookup k : (y, NameKind.free) ∈ scope.names))
/-- the lambda's body begins: its parameter holds u -/
theorem lam_startP {A : Around} {E : XK} {f c' : Addr} {h₁ : Heap} {tk i : Nat} {v : V} {u : Value} (I : Inv X pins σ H s) (L : LamP X.env.scope scope x) (hN : X.N.Nodup) (hi : X.N[i]? = some x) (r : RelV v u)
    (e0 : Env0 X.prog X.w X.K X.mg X.base A X.stack s H) (hd : A.handled = none) (hns : h₁.Ns s.heap.objs.size fun y => ([(x, u)] : List (Str × Value)).reverse.lookup y) (kp : ∀ b o, s.heap.get? b = some o → h₁.get? b = some o) :
    Inv (lamCx X A X.stack s H E scope f c') [] (σ.set i (some v)) H { s with heap := h₁, toks := tk } where
  ok := {
    mod := e0.mod
    kind := L.kind
    glob := rfl
    blt := rfl
    above := Nat.le_refl _
    inj := fun y z c e1 e2 => I.ok.inj y z c (L.cell_up I.ok e1) (L.cell_up I.ok e2)
    has := fun y k => k.elim (fun q => absurd rfl (L.own _ (PySem.mem_of_lookup q))) cell_down
    cab := fun _ _ z => absurd z Bool.false_ne_true
    hd := fun _ => hd
    frames := Around.frames_deeper e0.frames
    stk := Or.inr ⟨rfl, rfl⟩
    exf := fun _ z => absurd z List.not_mem_nil
    bs := e0.bs
    bsz := e0.bsz
    noex := fun _ _ _ z => absurd z List.not_mem_nil
    exfs := fun _ z => absurd z List.not_mem_nil
    funs := e0.funs
    frf := e0.frf }
  os := rfl
  bare := e0.bare
  base := Un.kept kp
  loc := by
    refine ⟨_, hns, fun j y v' ej ev vis => ?_⟩
    by_cases same : y = x
    · cases same
      cases nodup_ix hN ej hi
      have room : i < σ.length := I.len ▸ (List.getElem?_eq_some_iff.mp hi).1
      cases (List.getElem?_set_self room).symm.trans ev
      exact ⟨u, r, Or.inl ⟨L.par, by simp⟩⟩
    · have other : i ≠ j := fun q => same (Option.some.inj ((q ▸ ej : X.N[i]? = some y).symm.trans hi))
      rw [List.getElem?_set_ne other] at ev
      have fr : scope.names.lookup y = some .free := by
        rcases (vis : Vis scope y) with k | k | k
        · exact absurd (L.loc _ (PySem.mem_of_lookup k) rfl) same
        · exact absurd rfl (L.own _ (PySem.mem_of_lookup k))
        · exact k
      obtain ⟨seen, notLoc⟩ := L.up fr
      obtain ⟨m, -, told⟩ := I.loc
      obtain ⟨w, rw', here | ⟨-, c3, e3, o, g3, d3⟩⟩ := told j y v' ej ev seen
      · exact absurd here.1 notLoc
      · obtain ⟨c2, e2⟩ := cell_down (cells := X.env.cells) fr
        cases e3.symm.trans (L.cell_up I.ok e2)
        exact ⟨w, rw', Or.inr ⟨Or.inr fr, _, e2, o, kp _ _ g3, d3⟩⟩
  cell := fun y c e => (I.cell y c (L.cell_up I.ok e)).imp fun _ ⟨o, g, d⟩ => ⟨o, kp _ _ g, d⟩
  free := e0.hok.fresh (Nat.le_refl _)
  freeC := fun y c e => I.freeC y c (L.cell_up I.ok e)
  pin := fun q m => absurd (m : q ∈ ([] : List (Addr × Obj)) ++ []) List.not_mem_nil
  hok := e0.hok.kept kp
  len := (List.length_set ..).trans I.len
/-- the lambda called, within the def that made it -/
theorem lam_callP {A' : Around} {f c' : Addr} {params : Arguments} {body : Expr} {pm ctv : Value} {k i : Nat} {v : V} {u : Value} {tb : TE} {Q : VK} {Ex : Value → Shared → Prop} (I : Inv X pins σ H s) (L : LamP X.env.scope scope x) (hN : X.N.Nodup) (hi : X.N[i]? = some x) (r : RelV v u)
    (e0 : Env0 X.prog X.w X.K X.mg X.base A' X.stack s H) (hr : Room (k + 1) A') (hf : s.heap.get? f = some (lamObj X params body scope pm c' ctv)) (hc : H c' = some (CodeO c' (X.env.qual ++ "<lambda>")))
    (hbind : bindArgs (PySem.W.kla_fn "<lambda>" (X.env.qual ++ "<lambda>") params body scope (cloFrom X.env.cells scope.names []) pm (.ref c') ctv) ⟨[u], []⟩ = pure [(x, u)])
    (hbody : Room k (A'.deeper (lamEnv X scope s.heap.objs.size f c')) → PE (lamCx X A' X.stack s H E0 scope f c') body tb) (ht : tb (σ.set i (some v)) H Q) :
    wpAny (model X.prog X.w) A' (call (.ref f) [u]) (EP X pins σ Q) Ex s := by
  have code : codeAny (model X.prog X.w) A' (.call (.ref f) ⟨[u], []⟩) (CR (L2.CX X.prog X.w) X.stack X.prog X.w H s Q E0) s := by
    obtain ⟨oc, vs, t, g, d, nm⟩ := (I.hok c' _ hc).1
    refine PySem.W.kla_callFunE hr.depth hf rfl L.co L.gen rfl ⟨c', oc, vs, t, rfl, g, d, nm⟩ (hbind ▸ wpAny_pure ?_)
    refine wpAny_newFunctionEnv L.own (fun y m => List.mem_singleton.mp m ▸ L.par) (fun h₁ ns sb => ⟨I.nolimit.fresh _ sb, ?_⟩) L.kind
    have kept : ∀ b o, s.heap.get? b = some o → h₁.get? b = some o := fun b o g => sb.extBut b o (Nat.ne_of_lt (Heap.lt_size g)) (Heap.get?_push_of_some _ g)
    refine PySem.W.kla_codeExpr (wpAny_mono ((hbody (hr.deeper _)).run [] _ _ H Q (lam_startP I L hN hi r e0 hr.hd ns kept) ht) ?_ fun _ _ q => q)
    rintro w z ⟨w', H', J, rel, q⟩
    exact ⟨w', H', J.os, J.bare, J.base, J.hok, rel, q⟩
  refine wpAny_call (codeAny_mono code fun out z q => ?_)
  match out with
  | .error _ =>
    obtain ⟨_, _, _, _, _, _, _, _, _, _, _, _, no⟩ := q
    exact no.elim
  | .ok fl => match fl with
    | .ret _ => exact I.after q
    | .next | .brk | .cont => exact False.elim q
end
end K28
/-! ## K28E -/
namespace K28
set_option maxHeartbeats 3900000
open L2 LamX PySem PySem.Spec PyProof.Rows
/-- the first of the greatest -/
def topOf (kf : Int → Int) (ns : List Int) : Option Int := ns.foldl (fun b n => match b with | none => some n | some m => if kf n > kf m then some n else some m) none
def topV : Option Int → V
  | none => .non
  | some m => .int m
theorem topOf_snoc (kf : Int → Int) (ns : List Int) (n : Int) : topOf kf (ns ++ [n]) = match topOf kf ns with | none => some n | some m => if kf n > kf m then some n else some m := by
  unfold topOf
  rw [List.foldl_append]
  rfl
/-- what the cell of max's loop holds -/
def CellO (kf : Int → Int) (b : Option Int) (o : Obj) : Prop :=
  match b with
  | none => ∃ c, o = seqObj "list" #[] c
  | some m => ∃ t t' c, o = seqObj "list" #[.int m t, .int (kf m) t'] c
section
variable {X : Cx} {pins : List (Addr × Obj)} {σ : L2.St} {H : Hp}
def PinOk (X : Cx) (H : Hp) (b : Addr) : Prop := H b = none ∧ b ≠ X.env.locals ∧ b ∉ X.fs
theorem FpOk.pinOk {b : Addr} (f : FpOk X pins H b) : PinOk X H b := ⟨f.1, f.2.1, f.2.2.1⟩
theorem max_argsOk (a v d : Value) : argsOk "max" ⟨[a], [(Str.ofString "key", v), (Str.ofString "default", d)]⟩ := by unfold argsOk; kernel_rfl
/-- the name that max goes on by -/
theorem loop_id : (toString "max" ++ toString ".loop" : String) = "max.loop" := rfl
/-- a turn of max's loop begins -/
theorem mx_turn {A' : Around} {s : Shared} {R : Result → Shared → Prop} {args : Args} (h : wpAny (model X.prog X.w) A'.in1 (Builtin.«max.loop» args) (fun fin z => match fin with | .done fl => R (.ok fl) z | .again c => c.quiet = true ∧ codeAny (model X.prog X.w) A' c R z) (fun e z => R (.error e) z) s) :
    codeAny (model X.prog X.w) A' (.builtin "max.loop" args) R s := by
  apply codeAny_builtin PySem.F.entry_max_loop
  exact (Around.under_plainId PySem.F.plain_max_loop _).symm ▸ h
theorem mx_loop {A' : Around} {R : Result → Shared → Prop} (kf : Int → Int) {ns : List Int} {l f q S : Addr} {oF : Obj} (hh : A'.handled = none) (hl : SqL X.K H l (ns.map V.int)) (hdF : ∀ v, oF.data ≠ .cell v)
    (hq : FpOk X pins H q) (hS : FpOk X pins H S) (hf : PinOk X H f) (nqS : q ≠ S) (nqf : q ≠ f) (nSf : S ≠ f) (nlq : l ≠ q)
    (turn : ∀ (n : Int) (t : Tok) (pl : List (Addr × Obj)) (s : Shared) (E : Value → Shared → Prop), n ∈ ns → Inv X pl σ H s → s.heap.get? f = some oF → wpAny (model X.prog X.w) A'.in1 (call (.ref f) [.int n t]) (EP X pl σ fun v H' => v = .int (kf n) ∧ H' = H) E s)
    (hR : ∀ u s', Inv X pins σ H s' → RelV (topV (topOf kf ns)) u → R (.ok (.ret u)) s') :
    ∀ (r i : Nat) (s : Shared) (oS : Obj), ns.length - i = r → i ≤ ns.length → Inv X pins σ H s → s.heap.get? f = some oF → s.heap.IsListIter q l i → s.heap.get? S = some oS → CellO kf (topOf kf (ns.take i)) oS →
      codeAny (model X.prog X.w) A' (.builtin "max.loop" ⟨[.ref q, .ref f, .ref S], [(Str.ofString "default", .none)]⟩) R s := by
  intro r
  induction r with
  | zero =>
    intro i s oS hr hi I eF hit eS hcell
    obtain rfl : i = ns.length := by omega
    rw [List.take_length] at hcell
    obtain ⟨its, rv, p, _⟩ := I.list hl
    have hlen := rv.length
    rw [List.length_map] at hlen
    apply mx_turn
    show wpAny _ A'.in1 (seqItems? (.ref S) >>= _) _ _ _
    have W := Walks.list (prog := X.prog) (w := X.w) (A := A'.in1) hh q l nlq its.toArray
    have fin : ∀ h' tk', (∀ b o, b ∉ [q] → s.heap.get? b = some o → h'.get? b = some o) → Inv X pins σ H { s with heap := h', toks := tk' } ∧ h'.get? S = some oS := fun h' tk' hk =>
      ⟨I.turned (t' := tk') (fun b o nb e => hk b o (by simpa using nb) e) hq.1 hq.2.1 hq.2.2.2.1 hq.2.2.2.2.1 hq.2.2.2.2.2, hk _ _ (by simpa using Ne.symm nqS) eS⟩
    cases hb : topOf kf ns with
    | none =>
      rw [hb] at hcell hR
      obtain ⟨c, rfl⟩ := hcell
      refine wpAny_bind (wpAny_seqItems eS rfl ?_)
      show wpAny _ A'.in1 (tryCatch (pyNext (.ref q)) _ >>= _) _ _ _
      refine wpAny_bind (wpAny_tryCatch (W.done _ _ _ ⟨by rw [List.size_toArray, ← hlen]; exact hit, p.isList⟩ fun h' tk' hk' => ?_))
      obtain ⟨I1, e1⟩ := fin h' tk' hk'
      exact wpAny_bind (wpAny_rule (wpAny_pure (hR .none _ I1 rfl)))
    | some m =>
      rw [hb] at hcell hR
      obtain ⟨t, t', c, rfl⟩ := hcell
      refine wpAny_bind (wpAny_seqItems eS rfl ?_)
      show wpAny _ A'.in1 (tryCatch (pyNext (.ref q)) _ >>= _) _ _ _
      refine wpAny_bind (wpAny_tryCatch (W.done _ _ _ ⟨by rw [List.size_toArray, ← hlen]; exact hit, p.isList⟩ fun h' tk' hk' => ?_))
      obtain ⟨I1, e1⟩ := fin h' tk' hk'
      show wpAny _ A'.in1 (updateSeq S (fun _ => #[]) >>= _) _ _ _
      refine wpAny_bind ?_
      refine wpAny_updateSeq e1 rfl (wpAny_bind (wpAny_letGo (wpAny_pure ?_)))
      have sb := Heap.SameBut.update h' S (Obj.mapSeq fun _ => (#[] : Array Value))
      exact hR _ _ (I1.turned (t' := tk') (fun b o nb e => (sb.2 b nb).trans e) hS.1 hS.2.1 hS.2.2.2.1 hS.2.2.2.2.1 hS.2.2.2.2.2) ⟨t, rfl⟩
  | succ r ih =>
    intro i s oS hr hi I eF hit eS hcell
    have hlt : i < ns.length := Nat.lt_of_sub_eq_succ hr
    obtain ⟨its, rv, p, _⟩ := I.list hl
    have hlen := rv.length
    rw [List.length_map] at hlen
    obtain ⟨u, hu, ru⟩ := rv.get (i := i) (x := V.int ns[i]) (by rw [List.getElem?_map, List.getElem?_eq_getElem hlt]; rfl)
    obtain ⟨tu, rfl⟩ : ∃ t, u = Value.int ns[i] t := ru
    have hmem : ns[i] ∈ ns := List.getElem_mem hlt
    have htake : ns.take (i + 1) = ns.take i ++ [ns[i]] := by rw [List.take_succ, List.getElem?_eq_getElem hlt]; rfl
    apply mx_turn
    show wpAny _ A'.in1 (seqItems? (.ref S) >>= _) _ _ _
    have W := Walks.list (prog := X.prog) (w := X.w) (A := A'.in1) hh q l nlq its.toArray
    -- the state behind next and behind the key's call
    have go : ∀ {vs : Array Value} {c : Nat}, oS = seqObj "list" vs c → ∀ (Q : Value → Shared → Prop) (Ex : Value → Shared → Prop) (h' : Heap) (tk' : Nat), (∀ b o, b ∉ [q] → s.heap.get? b = some o → h'.get? b = some o) → h'.IsListIter q l (i + 1) →
        (∀ t s2, Inv X pins σ H s2 → s2.heap.get? f = some oF → s2.heap.IsListIter q l (i + 1) → s2.heap.get? S = some oS → Q (.int (kf ns[i]) t) s2) →
        wpAny (model X.prog X.w) A'.in1 (call (.ref f) [.int ns[i] tu]) Q Ex { s with heap := h', toks := tk' } := by
      intro vs c hoS Q Ex h' tk' hk' hit' hQ
      obtain ⟨oI, eI, hIc, hId⟩ := hit'
      have e1 : h'.get? S = some oS := hk' _ _ (by simpa using Ne.symm nqS) eS
      have eF1 : h'.get? f = some oF := hk' _ _ (by simpa using Ne.symm nqf) eF
      have I1 : Inv X pins σ H { s with heap := h', toks := tk' } := I.turned (t' := tk') (fun b o nb e => hk' b o (by simpa using nb) e) hq.1 hq.2.1 hq.2.2.2.1 hq.2.2.2.2.1 hq.2.2.2.2.2
      have I2 : Inv X (pins ++ [(q, oI), (S, oS), (f, oF)]) σ H { s with heap := h', toks := tk' } := I1.pins_of fun pp hp => by
        obtain z | z := List.mem_append.mp hp
        · exact I1.pin pp (List.mem_append_right _ z)
        · simp only [List.mem_cons, List.not_mem_nil, or_false] at z
          rcases z with rfl | rfl | rfl
          · exact ⟨eI, hq.1, hq.2.1, hq.2.2.1, fun v z => by rw [hId] at z; cases z⟩
          · exact ⟨e1, hS.1, hS.2.1, hS.2.2.1, fun v z => by rw [hoS] at z; cases z⟩
          · exact ⟨eF1, hf.1, hf.2.1, hf.2.2, hdF⟩
      refine wpAny_mono (turn ns[i] tu _ _ Ex hmem I2 eF1) (fun y s2 hy => ?_) fun _ _ z => z
      obtain ⟨v, H', I3, r3, rfl, rfl⟩ := hy
      obtain ⟨t3, rfl⟩ : ∃ t, y = Value.int (kf ns[i]) t := r3
      have pp : ∀ q' ∈ [(q, oI), (S, oS), (f, oF)], s2.heap.get? q'.1 = some q'.2 := fun q' hq' => (I3.pin q' (List.mem_append_right _ (List.mem_append_right _ hq'))).1
      exact hQ t3 s2 I3.unpinned (pp (f, oF) (by simp)) ⟨oI, pp (q, oI) (by simp), hIc, hId⟩ (pp (S, oS) (by simp))
    have nxt : ∀ {vs : Array Value} {c : Nat} (s2 : Shared) (t3 : Tok), oS = seqObj "list" vs c → Inv X pins σ H s2 → s2.heap.get? f = some oF → s2.heap.IsListIter q l (i + 1) → s2.heap.get? S = some oS → topOf kf (ns.take (i + 1)) = some ns[i] →
        codeAny (model X.prog X.w) A' (.builtin "max.loop" ⟨[.ref q, .ref f, .ref S], [(Str.ofString "default", .none)]⟩) R { s2 with heap := s2.heap.update S (Obj.mapSeq fun _ => #[.int ns[i] tu, .int (kf ns[i]) t3]) } := by
      intro vs c s2 t3 hoS I2 eF2 hit2 e2 htop
      subst hoS
      have sb := Heap.SameBut.update s2.heap S (Obj.mapSeq fun _ => #[.int ns[i] tu, .int (kf ns[i]) t3])
      obtain ⟨c2, hc2⟩ : ∃ c2, (s2.heap.update S (Obj.mapSeq fun _ => #[.int ns[i] tu, .int (kf ns[i]) t3])).get? S = some (seqObj "list" #[.int ns[i] tu, .int (kf ns[i]) t3] c2) := ⟨_, get?_update_seq e2 fun _ => #[.int ns[i] tu, .int (kf ns[i]) t3]⟩
      obtain ⟨oI, eI, hIc, hId⟩ := hit2
      refine ih (i + 1) _ _ (by omega) hlt (I2.turned (t' := s2.toks) (fun b o nb e => (sb.2 b nb).trans e) hS.1 hS.2.1 hS.2.2.2.1 hS.2.2.2.2.1 hS.2.2.2.2.2) ((sb.2 _ (Ne.symm nSf)).trans eF2) ⟨oI, (sb.2 _ nqS).trans eI, hIc, hId⟩ hc2 ?_
      rw [htop]
      exact ⟨tu, t3, c2, rfl⟩
    cases hb : topOf kf (ns.take i) with
    | none =>
      rw [hb] at hcell
      obtain ⟨c, hoS⟩ := hcell
      have htop : topOf kf (ns.take (i + 1)) = some ns[i] := by rw [htake, topOf_snoc, hb]
      subst hoS
      refine wpAny_bind (wpAny_seqItems eS rfl ?_)
      show wpAny _ A'.in1 (tryCatch (pyNext (.ref q)) _ >>= _) _ _ _
      refine wpAny_bind (wpAny_tryCatch (W.item i _ _ _ (by rw [List.size_toArray, ← hlen]; exact hlt) ⟨hit, p.isList⟩ fun v h' tk' hP hst' hk' => ?_))
      have hv : its[i]? = some v := by simpa using hP
      rw [hu] at hv
      cases hv
      show wpAny _ A'.in1 (tryCatch (holding _ (call (.ref f) _)) _ >>= _) _ _ _
      refine wpAny_bind (wpAny_tryCatch (wpAny_holding (go rfl _ _ h' tk' hk' hst'.1 fun t3 s2 I2 eF2 hit2 e2 => ?_)))
      show wpAny _ A'.in1 (updateSeq S (fun _ => #[.int ns[i] tu, .int (kf ns[i]) t3]) >>= _) _ _ _
      refine wpAny_bind ?_
      refine wpAny_updateSeq e2 rfl ?_
      rw [loop_id]
      exact wpAny_pure ⟨plainId_quiet PySem.F.plain_max_loop _, nxt s2 t3 rfl I2 eF2 hit2 e2 htop⟩
    | some m =>
      rw [hb] at hcell
      obtain ⟨t, t', c, hoS⟩ := hcell
      have htop : topOf kf (ns.take (i + 1)) = if kf ns[i] > kf m then some ns[i] else some m := by rw [htake, topOf_snoc, hb]
      subst hoS
      refine wpAny_bind (wpAny_seqItems eS rfl ?_)
      show wpAny _ A'.in1 (tryCatch (pyNext (.ref q)) _ >>= _) _ _ _
      refine wpAny_bind (wpAny_tryCatch (W.item i _ _ _ (by rw [List.size_toArray, ← hlen]; exact hlt) ⟨hit, p.isList⟩ fun v h' tk' hP hst' hk' => ?_))
      have hv : its[i]? = some v := by simpa using hP
      rw [hu] at hv
      cases hv
      show wpAny _ A'.in1 (tryCatch (holding _ (call (.ref f) _)) _ >>= _) _ _ _
      refine wpAny_bind (wpAny_tryCatch (wpAny_holding (go rfl _ _ h' tk' hk' hst'.1 fun t3 s2 I2 eF2 hit2 e2 => ?_)))
      show wpAny _ A'.in1 (tryCatch (holding _ (richCompare .Gt (.int (kf ns[i]) t3) (.int (kf m) t') >>= _)) _ >>= _) _ _ _
      refine wpAny_bind (wpAny_tryCatch (wpAny_holding (wpAny_bind (CmpOf.ints_gt (prog := X.prog) (w := X.w) (A := A'.in1) (P := fun j v => ∃ t, v = .int ([kf m, kf ns[i]].getD j 0) t) (fun j => [kf m, kf ns[i]].getD j 0) (fun j v h => h) 1 0 _ _ _ _ _ ⟨t3, rfl⟩ ⟨t', rfl⟩ ?_))))
      refine wpAny_bind (wpAny_holding (wpAny_truthy_bool (wpAny_bind (wpAny_letGo (wpAny_pure ?_)))))
      by_cases hb' : kf ns[i] > kf m
      · have hb2 : [kf m, kf ns[i]].getD 1 0 > [kf m, kf ns[i]].getD 0 0 := hb'
        simp only [hb2, decide_true, if_true]
        refine wpAny_bind ?_
        refine wpAny_updateSeq e2 rfl (wpAny_bind (wpAny_letGo ?_))
        rw [loop_id]
        refine wpAny_pure ⟨plainId_quiet PySem.F.plain_max_loop _, nxt s2 t3 rfl I2 eF2 hit2 e2 (by rw [htop, if_pos hb'])⟩
      · have hb2 : ¬ [kf m, kf ns[i]].getD 1 0 > [kf m, kf ns[i]].getD 0 0 := hb'
        simp only [hb2, decide_false, Bool.false_eq_true, if_false]
        apply wpAny_bind
        apply wpAny_letGo
        rw [loop_id]
        refine wpAny_pure ⟨plainId_quiet PySem.F.plain_max_loop _, ih (i + 1) _ _ (by omega) hlt I2 eF2 hit2 e2 ?_⟩
        rw [htop, if_neg hb']
        exact ⟨t, t', c, rfl⟩
end
end K28
/-! ## K28F -/
namespace K28
set_option maxHeartbeats 3900000
open L2 LamX PySem PySem.Spec PyProof.Rows
section
variable {H : Hp} {P c' : Addr} {ps : Array Value} {at1 : Pos} {q : Str}
/-- the table at P with one code object more -/
abbrev rec1 (at1 : Pos) (c' : Addr) : Array Value := #[rawInt at1.line, rawInt at1.col, Value.ref c']
abbrev more1 (H : Hp) (P c' : Addr) (ps : Array Value) (at1 : Pos) (q : Str) : Hp := upd (upd H P (.tbl (ps ++ rec1 at1 c'))) c' (CodeO c' q)
theorem more1_ext (tab : H P = some (.tbl ps)) (new : H c' = none) : ExtN H (more1 H P c' ps at1 q) := fun b o e nt => by
  have off : b ≠ P := by
    rintro rfl
    cases tab.symm.trans e
    exact nt ps rfl
  exact (upd_ne (ne_of_none e new)).trans ((upd_ne off).trans e)
theorem more1_dom (new : H c' = none) {b : Addr} (e : more1 H P c' ps at1 q b = none) : H b = none := by
  by_cases b1 : b = c'
  · exact b1 ▸ new
  rw [more1, upd_ne b1] at e
  by_cases b2 : b = P
  · cases b2
    cases upd_same.symm.trans e
  · exact (upd_ne b2).symm.trans e
theorem more1_tabs {T : List (Addr × Str)} (hT : Tabs T H) (one : ∀ p ∈ T, p.1 = P → p.2 = q) (tab : H P = some (.tbl ps)) (whole : TriplesOk ps.toList) (known : ∀ (at2 : Pos) (cv : Value), codeAmong at2 ps.toList = some cv → ∃ c, cv = .ref c ∧ H c = some (CodeO c q)) (new : H c' = none) :
    Tabs T (more1 H P c' ps at1 q) := by
  have grow : ∀ c q', H c = some (CodeO c q') → more1 H P c' ps at1 q c = some (CodeO c q') := fun c q' k => more1_ext tab new _ _ k codeO_ne
  rintro ⟨t, q'⟩ m
  by_cases e : t = P
  · cases e
    cases one _ m rfl
    have flat : (ps ++ rec1 at1 c').toList = ps.toList ++ [rawInt at1.line, rawInt at1.col, .ref c'] := Array.toList_append
    refine ⟨_, (upd_ne (ne_of_none tab new)).trans upd_same, flat.symm ▸ PySem.TriplesOk_snoc _ _ _ _ whole, fun at2 cv found => ?_⟩
    rcases among_app _ whole (flat ▸ found) with old | rfl
    · exact (known at2 cv old).imp fun c0 k => ⟨k.1, grow _ _ k.2⟩
    · exact ⟨c', rfl, upd_same⟩
  · obtain ⟨qs, k1, k2, k3⟩ := hT _ m
    exact ⟨qs, (upd_ne (ne_of_none k1 new)).trans ((upd_ne e).trans k1), k2, fun at2 cv found => (k3 at2 cv found).imp fun c0 k => ⟨k.1, grow _ _ k.2⟩⟩
end
section
variable {X : Cx} {pins : List (Addr × Obj)} {σ : L2.St}
variable {H : Hp} {s : Shared}
/-- a lambda of nothing kept by default is made; no address is lost, its code object is told -/
theorem lam_mk {T : List (Addr × Str)} {c P : Addr} {params : Arguments} {body : Expr} {scope : Scope} {pos : Pos} {E : Value → Shared → Prop} {Q : Value → Shared → Prop} (I : L2.Inv X pins σ H s) (TB : TabB X.base X.mg c P) (hcode : X.env.code = .ref c)
    (listed : (P, X.env.qual ++ "<lambda>") ∈ T) (one : ∀ p ∈ T, p.1 = P → p.2 = X.env.qual ++ "<lambda>") (hT : Tabs T H) (hdef : defaultsOf params X.env = ([], [])) (hfree : ∀ y ∈ scope.names, y.2 = .free → ∃ c, X.env.cells.lookup y.1 = some c)
    (go : ∀ (f c' : Addr) (pm ctv : Value) (H1 : Hp) (s' : Shared), L2.Inv X pins σ H1 s' → ExtN H H1 → (∀ b, H1 b = none → H b = none) → Tabs T H1 →
      s'.heap.get? f = some (lamObj X params body scope pm c' ctv) → H1 f = none → f ∉ frs X.stack → H1 c' = some (CodeO c' (X.env.qual ++ "<lambda>")) → Q (.ref f) s') : wpAny (model X.prog X.w) X.A (eval (.Lambda params body scope pos) X.env) Q E s := by
  obtain ⟨ps, tab, whole, known⟩ := hT _ listed
  have outside : ∀ f, s.heap.objs.size ≤ f → f ∉ frs X.stack := fun f big m => (List.mem_cons.mp (I.stkSub _ m)).elim (fun e => absurd I.lt (Nat.not_lt.mpr (e ▸ big))) (I.nofs big)
  have glob := I.mod.glob.keeps I.bk
  have codeAt := TB.code.keeps I.bk
  have blt : s.heap.BuiltinsAt X.mg P := TB.bm.keeps I.bk
  have obj : s.heap.get? P = some { cls := .none, data := .fields ps } := I.hok P _ tab
  apply PySem.W.kla_eval hdef
  rcases seen : codeAmong pos ps.toList with _ | cv
  · refine PySem.W.kla_makeFunction (mg := X.mg) (c := c) (P := P) (ps := ps) (closure_ok hfree) I.ok.glob glob hcode codeAt obj whole seen TB.gP blt ?_
    rintro c' ctv h' tk stays later below ⟨_, oc, vs, t, ec, goc, doc, voc⟩ tabh
    cases ec
    have new := I.hok.fresh later
    have room := Nat.le_trans later (Nat.le_of_lt below)
    have J := inv_table (t' := tk) (more := rec1 pos c') (h' := h'.push (PySem.W.kla_obj "<lambda>" (X.env.qual ++ "<lambda>") params body scope (cloFrom X.env.cells scope.names []) ((X.mg "__name__").getD .none) c' ctv)) I tab
      (fun b o nb e => Heap.get?_push_of_some _ (stays b o nb e)) (Heap.get?_push_of_some _ tabh) later ⟨oc, vs, t, Heap.get?_push_of_some _ goc, doc, voc⟩
    refine go h'.objs.size c' _ ctv _ _ J (more1_ext tab new) (fun _ => more1_dom new) (more1_tabs hT one tab whole known new) (Heap.get?_push_size _ rfl) ?_ (outside _ room) upd_same
    refine (upd_ne (Nat.ne_of_gt below)).trans ((upd_ne (Nat.ne_of_gt (Nat.lt_of_lt_of_le (Heap.lt_size obj) room))).trans (I.hok.fresh room))
  · obtain ⟨c', rfl, told⟩ := known pos cv seen
    refine PySem.W.kla_makeFunctionHit (mg := X.mg) (c := c) (P := P) (ps := ps) (closure_ok hfree) I.ok.glob glob hcode codeAt obj whole seen blt fun ctv h' tk stays room => ?_
    exact go h'.objs.size c' _ ctv H _ (I.kept fun b o e => Heap.get?_push_of_some _ (stays b o e)) (ExtN.refl H) (fun _ e => e) hT (Heap.get?_push_size _ rfl) (I.hok.fresh room) (outside _ room) told
end
theorem SqL.extN {K : PySem.W.Frag} {H H' : Hp} {a : Addr} {xs : List V} (h : SqL K H a xs) (e : ExtN H H') : SqL K H' a xs := by
  obtain (h | ⟨o, h⟩) | h := h
  · exact .inl (.inl (e _ _ h fun _ z => by cases z))
  · exact .inl (.inr ⟨o, e _ _ h fun _ z => by cases z⟩)
  · exact .inr h
/-- max(xs, key=lambda x: .., default=None) of a list of whole numbers -/
def tMaxL (K : PySem.W.Frag) (T : List (Addr × Str)) (i : Nat) (ta : TA) (tb : TE) : TE := fun σ H Q => ta σ H fun vs H1 => ∃ (l : Addr) (ns : List Int) (kf : Int → Int), vs = [.ref l] ∧ SqL K H1 l (ns.map V.int) ∧ Tabs T H1 ∧
  ∀ H2, ExtN H1 H2 → (∀ b, H2 b = none → H1 b = none) → Tabs T H2 → (∀ n ∈ ns, tb (σ.set i (some (.int n))) H2 fun v H' => v = .int (kf n) ∧ H' = H2) ∧ Q (topV (topOf kf ns)) H2
theorem pe_maxL {X : Cx} {T : List (Addr × Str)} {c P : Addr} {x : Str} {e : Expr} {params : Arguments} {body : Expr} {scope : Scope} {p pos lpos kp1 kp2 cpos : Pos} {j k i : Nat} {ta : TA} {tb : TE}
    (hg : Gl X "max") (hm : X.mg "max" = none) (ha : PA X [e] ta) (L : LamP X.env.scope scope x) (hN : X.N.Nodup) (hi : X.N[i]? = some x) (TB : TabB X.base X.mg c P) (hcode : X.env.code = .ref c)
    (hmT : (P, X.env.qual ++ "<lambda>") ∈ T) (hu : ∀ p ∈ T, p.1 = P → p.2 = X.env.qual ++ "<lambda>") (hst : X.stack = X.env :: X.outer) (hef : X.env.frame = some X.env.locals) (hdef : defaultsOf params X.env = ([], [])) (hr : Room (k + 2) X.A)
    (hbind : ∀ (q : Str) (cl : List (Str × Addr)) (pm cv ctv u : Value), bindArgs (PySem.W.kla_fn "<lambda>" q params body scope cl pm cv ctv) ⟨[u], []⟩ = pure [(x, u)])
    (hbody : ∀ (A' : Around) (f c' : Addr) (s : Shared) (H : Hp), Room k (A'.deeper (lamEnv X scope s.heap.objs.size f c')) → PE (lamCx X A' X.stack s H E0 scope f c') body tb)
    (hs : backTo pos (starEach [e] X.env) = (false, eval e X.env) :: backTo pos (starEach [] X.env) := by rfl) (hpl : (backTo pos (starEach [e] X.env)).any (·.1) = false := by rfl) :
    PE X (.Call (.Name "max" p) [e] [⟨some (Str.ofString "key"), .Lambda params body scope lpos, kp1⟩, ⟨some (Str.ofString "default"), .Constant .none j cpos, kp2⟩] pos) (tMaxL X.K T i ta tb) := by
  constructor
  intro pins s σ H Q I h
  refine wpAny_Call_Name_kw (ld_blt I hg hm (by first | exact PyProof.Rows.boot_max | exact boot_max | decide +kernel) ?_)
  refine PyProof.Rows.callWith_kw (thn (ha.run pos pins s σ H _ I h) fun us s1 ⟨vs, H1, I1, r1, q1⟩ => ?_) hs hpl rfl rfl
  obtain ⟨l, ns, kf, ev, hl, hT, q⟩ := q1
  subst ev
  obtain ⟨u1, rfl, ru1⟩ := vals1 r1
  obtain rfl : u1 = Value.ref l := ru1
  show wpAny _ _ (evalAll [(do let v ← eval (.Lambda params body scope lpos) X.env; standAt pos; pure v), (do let v ← eval (.Constant .none j cpos) X.env; standAt pos; pure v)]) _ _ s1
  refine wpAny_evalAll_cons (wpAny_bind (lam_mk (T := T) I1 TB hcode hmT hu hT hdef (L.has I1.ok) fun f c' pm ctv H2 s2 I2 hE hdm hT2 hof hfn hfr hco => ?_))
  refine wpAny_bind (wpAny_standAt (wpAny_pure (?_ : wpAny _ _ _ _ _ _)))
  refine wpAny_evalAll_cons (wpAny_bind (Constant_none (wpAny_bind (wpAny_standAt (wpAny_pure (wpAny_evalAll_nil ?_))))))
  show wpAny _ _ (call (.builtin "max") [.ref l] [(Str.ofString "key", .ref f), (Str.ofString "default", .none)]) _ _ s2
  obtain ⟨ht, qq⟩ := q H2 hE hdm hT2
  have hl2 : SqL X.K H2 l (ns.map V.int) := SqL.extN hl hE
  obtain ⟨its, rv, pl, _⟩ := I2.list hl2
  have hll : l < s2.heap.objs.size := pl.lt
  have hfs : f ≠ X.env.locals ∧ f ∉ X.fs := by
    rw [hst] at hfr
    simp only [frs, List.filterMap_cons, hef] at hfr
    exact ⟨fun z => hfr (by rw [z]; exact List.mem_cons_self), fun z => hfr (List.mem_cons_of_mem _ z)⟩
  have hfl : f < s2.heap.objs.size := Heap.lt_size hof
  refine kmk_tree PySem.F.kind_max PySem.F.plain_max PySem.F.entry_max (max_argsOk _ _ _) ?_
  show wpAny _ X.A.in1 (Builtin.Builtins.bindParams "max" ["key", "default"] 0 ⟨[], [(Str.ofString "key", .ref f), (Str.ofString "default", .none)]⟩ >>= _) _ _ s2
  refine wpAny_bind (wpAny_of_eq (show Builtin.Builtins.bindParams "max" ["key", "default"] 0 ⟨[], [(Str.ofString "key", .ref f), (Str.ofString "default", .none)]⟩ = pure [some (.ref f), some .none] from rfl) ?_)
  refine wpAny_bind (wpAny_pure (wpAny_bind (wpAny_pyIter_list pl.isList (wpAny_bind (wpAny_newList ?_ (Nat.zero_le _))))))
  rw [loop_id]
  refine wpAny_pure ⟨plainId_quiet PySem.F.plain_max_loop .., ?_⟩
  have kp : ∀ b o, s2.heap.get? b = some o → ((s2.heap.push { cls := .type "list_iterator", data := .fields #[.ref l, .int 0 0] }).push (seqObj "list" #[] 0)).get? b = some o := fun b o e => Heap.get?_push_of_some _ (Heap.get?_push_of_some _ e)
  have gI : ((s2.heap.push { cls := .type "list_iterator", data := .fields #[.ref l, .int 0 0] }).push (seqObj "list" #[] 0)).get? s2.heap.objs.size = some { cls := .type "list_iterator", data := .fields #[.ref l, .int 0 0] } := Heap.get?_push_of_some _ (Heap.get?_push_size _ rfl)
  have gS : ((s2.heap.push { cls := .type "list_iterator", data := .fields #[.ref l, .int 0 0] }).push (seqObj "list" #[] 0)).get? (s2.heap.push { cls := .type "list_iterator", data := .fields #[.ref l, .int 0 0] }).objs.size = some (seqObj "list" #[] 0) := Heap.get?_push_size _ rfl
  have zS : (s2.heap.push { cls := .type "list_iterator", data := .fields #[.ref l, .int 0 0] }).objs.size = s2.heap.objs.size + 1 := size_push' ..
  rw [zS] at gS ⊢
  have I3 : Inv X pins σ H2 { s2 with heap := (s2.heap.push { cls := .type "list_iterator", data := .fields #[.ref l, .int 0 0] }).push (seqObj "list" #[] 0) } := I2.kept (t' := s2.toks) kp
  refine mx_loop (ns := ns) (l := l) (f := f) (q := s2.heap.objs.size) (S := s2.heap.objs.size + 1) kf hr.hd hl2 (fun v z => by cases z) (I2.fpOk (Nat.le_refl _) (I2.hok.fresh (Nat.le_refl _))) (I2.fpOk (Nat.le_succ _) (I2.hok.fresh (Nat.le_succ _))) ⟨?_, hfs.1, hfs.2⟩
    (Nat.ne_of_lt (Nat.lt_succ_self _)) (Nat.ne_of_gt hfl) (Nat.ne_of_gt (Nat.lt_succ_of_lt hfl)) (Nat.ne_of_lt hll) (fun n t pl' s3 E hn I4 hof4 => ?_) (fun u s' I5 ru => ⟨_, H2, I5, ru, qq⟩) ns.length 0 _ _ rfl (Nat.zero_le _) I3 (kp _ _ hof) ⟨_, gI, rfl, rfl⟩ gS ⟨0, rfl⟩
  · exact hfn
  · exact lam_callP (k := k) (v := .int n) I4 L hN hi ⟨t, rfl⟩ I4.env0.in1 hr.in1 hof4 hco (hbind _ _ _ _ _ _) (hbody _ _ _ _ _) (ht n hn)
def MaxR (K : PySem.W.Frag) (T : List (Addr × Str)) (i : Nat) (tb : TE) (σ : L2.St) (Q : VK) (vs : List V) (H1 : Hp) : Prop := ∃ (l : Addr) (ns : List Int) (kf : Int → Int), vs = [.ref l] ∧ SqL K H1 l (ns.map V.int) ∧ Tabs T H1 ∧
  ∀ H2, ExtN H1 H2 → (∀ b, H2 b = none → H1 b = none) → Tabs T H2 → (∀ n ∈ ns, tb (σ.set i (some (.int n))) H2 fun v H' => v = .int (kf n) ∧ H' = H2) ∧ Q (topV (topOf kf ns)) H2
theorem s_maxL {K : PySem.W.Frag} {T : List (Addr × Str)} {i : Nat} {ta : TA} {tb : TE} {σ : L2.St} {H : Hp} {Q : VK} (q : ta σ H fun vs H1 => MaxR K T i tb σ Q vs H1) : tMaxL K T i ta tb σ H Q := q
end K28
/-! ## K28G -/
namespace K28
set_option maxHeartbeats 3900000
open L2 PySem PySem.Spec PyProof.Rows
/-- a caught exception of the class cls, kept -/
def KO (cls : Value) (a : Addr) : HO := .ext fun h => ∃ (oe : Obj) (vs : Array Value), h.get? a = some oe ∧ Zc cls none oe ∧ oe.data = .fields vs
section
variable {X : Cx} {pins : List (Addr × Obj)} {σ : L2.St}
variable {H : Hp} {s : Shared}
theorem Inv.track {a : Addr} {oe : Obj} {vs : Array Value} {u : HO} (I : L2.Inv X pins σ H s) (he : s.heap.get? a = some oe) (hd : oe.data = .fields vs) (n0 : X.s_0.heap.get? a = none) (na : H a = none) (nL : a ≠ X.env.locals)
    (np : ∀ p ∈ X.pn ++ pins, p.1 ≠ a) (new : ObjOk X.prog X.w (upd H a u) s.heap a u) : L2.Inv X pins σ (upd H a u) s :=
  ⟨I.ok, I.os, I.bare,
    ⟨I.base.keep, I.base.slot, fun b o e n hx => by
        rw [upd_ne (fun z => by rw [z, n0] at e; cases e)]
        exact I.base.free b o e n hx,
      I.base.there, fun b xs e => by
        have q := I.base.tups b xs e
        rw [upd_ne (ne_of_none q na)]; exact q,
      fun b o xs e => by
        have q := I.base.frzs b o xs e
        rw [upd_ne (ne_of_none q na)]; exact q,
      fun b ps e => by
        obtain ⟨m, q⟩ := I.base.tbls b ps e
        exact ⟨m, by rw [upd_ne (ne_of_none q na)]; exact q⟩⟩,
    I.loc, I.cell, by rw [upd_ne (Ne.symm nL)]; exact I.free, fun x c e => (by
      have nc : c ≠ a := by
        rintro rfl
        obtain ⟨v, o, ho, hdc⟩ := I.cell x c e
        rw [he] at ho
        cases ho
        rw [hd] at hdc
        exact nomatch hdc
      rw [upd_ne nc]
      exact I.freeC x c e),
    fun p hp => by
      obtain ⟨e, n, r⟩ := I.pin p hp
      exact ⟨e, by rw [upd_ne (np p hp)]; exact n, r⟩,
    I.hok.laidN (fun _ _ e => e) na new, I.len⟩
end
/-- what the clause 'except x as n: v = n' wishes of an exception of the body -/
def wAsK (K : PySem.W.Frag) (c : Value) (i : Nat) (ts : Addr → Value → Option Addr → TS) (Wout : WX) (D : Ends) : WX := fun cls d σ H =>
  ∃ b, PySem.W.exmOne K cls c = some b ∧ (b = true → d = none ∧ ∀ a, H a = none → ts a cls d { nx := fun σ' H' => H' a = none → D.nx (σ'.set i none) (upd H' a (KO cls a)), rt := fun _ _ => False } (σ.set i (some (.ref a))) H) ∧
    (b = false → Wout cls d σ H)
section
variable {X : Cx} {x n : Str} {c : Value} {i : Nat}
variable {body suite : List Stmt} {b₀ : Stmt} {np pos pos' : Pos} {tb : WX → TS} {ts : Addr → Value → Option Addr → TS} {Wout : WX}
/-- an end of the try's body is an end behind the try -/
theorem sp_leave {xe : Value → Shared → Prop} {pins : List (Addr × Obj)} {D : Ends} {g : Flow} {z : Shared} (ok : X.Ok) (q : SP (X.tr (X.pn ++ pins) xe) [] D g z) : SP X pins D g z := by
  cases g with
  | ret w => exact q.elim fun v ⟨σ₁, H₁, J, rest⟩ => ⟨v, σ₁, H₁, J.ofTry ok, rest⟩
  | next => exact q.elim fun σ₁ ⟨H₁, J, rest⟩ => ⟨σ₁, H₁, J.ofTry ok, rest⟩
  | brk => exact q.elim fun σ₁ ⟨H₁, J, rest⟩ => ⟨σ₁, H₁, J.ofTry ok, rest⟩
  | cont => exact q.elim fun σ₁ ⟨H₁, J, rest⟩ => ⟨σ₁, H₁, J.ofTry ok, rest⟩
/-- an object of fields is no frame -/
theorem rec_off {B h : Heap} {es : List Env} {b : Addr} {o : Obj} {fs : Array Value} (ff : h.FunFrames B es) (g : h.get? b = some o) (gd : o.data = .fields fs) : b ∉ frs es := fun m => by
  obtain ⟨-, p, gp, np⟩ := ff.mem m
  cases g.symm.trans gp
  exact np fs gd
theorem off_both (hf : X.env.frame = some X.env.locals) {b : Addr} (n : b ∉ frs (X.env :: X.outer)) : b ≠ X.env.locals ∧ b ∉ X.fs := by
  have m : b ∉ X.env.locals :: X.fs := by simpa only [frs, List.filterMap_cons, hf] using n
  exact ⟨fun e => m (e ▸ List.mem_cons_self), fun e => m (List.mem_cons_of_mem _ e)⟩
/-- the clause's test gives its class -/
theorem clause_test {pn : List (Addr × Obj)} {σ : L2.St} {H : Hp} {z : Shared} {a : Addr} {Q E : Value → Shared → Prop} (named : Names X x c) (S : L2.Inv (X.suite a pn) [] σ H z) (q : Q c z) :
    wpAny (model X.prog X.w) (X.A.mark (some (.ref a))) (eval (.Name x np) X.env) Q E z := by
  rcases named with ⟨g1, g2, g3 | ⟨g3, g4, g5⟩⟩
  · exact ld_glob (X := X.suite a pn) S g1 g3 q g2
  · exact ld_blt (X := X.suite a pn) S g1 g3 g4 q g5 g2
/-- what stands behind the body's exception: it is noted, landed, and the clause asked -/
def Behind (X : Cx) (pins : List (Addr × Obj)) (D : Ends) (hs : List ExceptHandler) (e : Value) (z : Shared) : Prop :=
  wpAny (model X.prog X.w) X.A (noteFrame e X.env) (fun _ z2 => wpAny (model X.prog X.w) X.A (setFlight e none) (fun _ z3 => wpAny (model X.prog X.w) X.A (handleBy e X.env hs) (SP X pins D) X.xe z3) X.xe z2) X.xe z
/-- the clause is not the exception's: it flies on -/
theorem flies_on {pins : List (Addr × Obj)} {D : Ends} {a : Addr} {B : Heap} {sI z : Shared} {σ : L2.St} {H : Hp} {cls : Value} {d : Option Addr} (hs : X.stack = X.env :: X.outer) (hf : X.env.frame = some X.env.locals) (tk : Takes X Wout) (J : L2.Inv X pins σ H sI)
    (nb : ∀ b o, sI.heap.get? b = some o → b ∉ frs X.stack → B.get? b = some o) (up : sI.heap.UpToSlots z.heap) (na : H a = none) (os : z.os = sI.os) (ag : AllBare z.gens) (fl : HandSPX.FlyingZ B (X.env :: X.outer) a (Zc cls d) z.heap) (w : Wout cls d σ H) :
    wpAny (model X.prog X.w) X.A (handleBy (.ref a) X.env []) (SP X pins D) X.xe z := by
  have gone : wpAny (model X.prog X.w) X.A (setFlight (.ref a) X.env.frame) (fun _ y => wpAny (model X.prog X.w) X.A (throw (.ref a) : Sem Flow) (SP X pins D) X.xe y) X.xe z := hf ▸
    HandSPX.setFlight_upZ fl fun h' held up' => wpAny_throw (tk _ _ ⟨a, B, sI, pins, σ, H, cls, d, rfl, J, nb, up.trans up', .inr (.inr (hs ▸ held)), na, os, ag, w⟩)
  obtain ⟨_, _, _, oe, vs, T, _, _, he, _, hd, h1, _⟩ := fl
  refine wpAny_handleBy_nil ?_
  unfold PySem.passOn
  apply wpAny_bind (wpAny_field he hd h1 _)
  rw [if_neg (by simp : ¬ ((Value.ref T == Value.none) = true))]
  first
    | exact wpAny_bind (wpAny_pure (wpAny_bind gone))
    | exact wpAny_bind gone
/-- try: .. / except x as n: ..; behind it the exception stays known -/
theorem ps_try_keep (hs : X.stack = X.env :: X.outer) (hf : X.env.frame = some X.env.locals) (hN : X.N.Nodup) (hi : X.N[i]? = some n) (hln : X.env.kindOf n = some .local) (hc : Names X x c) (hex : X.ex = []) (tk : Takes X Wout)
    (body_ok : ∀ (W : WX) (pn : List (Addr × Obj)) (xe : Value → Shared → Prop), Takes (X.tr pn xe) W → PassesOwn (model X.prog X.w) X.A X.env xe → PSs (X.tr pn xe) body (tb W))
    (suite_ok : ∀ (a : Addr) (oe : Obj) (cls : Value) (d : Option Addr) (pn : List (Addr × Obj)), Zc cls d oe → (∃ vs, oe.data = .fields vs) → PSs (X.suite a ((a, oe) :: pn)) (b₀ :: suite) (ts a cls d)) :
    PS X (.Try body [.ExceptHandler (some (.Name x np)) (some n) (b₀ :: suite) pos'] [] [] pos) (fun D σ H => tb (wAsK X.K c i ts Wout D) D σ H) := by
  constructor
  intro pins s σ H D inv want
  have good := inv.ok
  have frames : X.A.frames = some (X.env :: X.outer) := good.frames.trans (congrArg some hs)
  have caught : Takes (X.tr (X.pn ++ pins) (Behind X pins D [.ExceptHandler (some (.Name x np)) (some n) (b₀ :: suite) pos'])) (wAsK X.K c i ts Wout D) := by
    rintro u z ⟨a, B, sI, pins', σ', H', cls, d, rfl, J', nb, up, sky, na, os, ag, b, asked, yes, no⟩
    have J : L2.Inv X pins σ' H' sI := J'.ofTry good
    have air : Sky B (X.env :: X.outer) a (Zc cls d) X.env.locals z.heap := hs ▸ sky
    unfold Behind
    refine Sky.land Zc.steady frames hf air fun h1 fl1 up1 => ?_
    obtain ⟨oe, vs, ge, ze, de⟩ := fl1.there
    have off := rec_off fl1.2.2.1 ge de
    obtain ⟨offL, offF⟩ := off_both hf off
    have S1 := (J.landed nb fl1.1 (up.trans up1) os ag : L2.Inv X pins σ' H' { z with heap := h1 }).suite ge de na offL offF
    have cl : PySem.W.Looks (model X.prog X.w) h1 (typeOf (.ref a)) cls := fun _ _ _ _ k q => wpAny_typeOf_ref (k _ _ ge) (ze.1.symm ▸ q)
    refine wpAny_handleBy_cons (codeAny_handlers_test (clause_test hc S1 ((PySem.W.exm_one S1.kIn cl asked).here ?_))) (fun q => nomatch q)
    cases b with
    | false => exact flies_on hs hf tk J nb (up.trans up1) na os ag fl1 (no rfl)
    | true =>
      obtain ⟨rfl, suited⟩ := yes rfl
      refine codeAny_handlers_suite_as (HandSPX.lands_againZ fl1 fun h2 fl2 up2 => ?_)
      obtain ⟨oe2, vs2, ge2, ze2, de2⟩ := fl2.there
      have S2 := (J.landed nb fl2.1 ((up.trans up1).trans up2) os ag : L2.Inv X pins σ' H' { z with heap := h2 }).suite ge2 de2 na offL offF
      refine store_ok (X := X.suite a ((a, oe2) :: (X.pn ++ pins))) (v := .ref a) S2 hN hi (.inl hln) rfl (fun z3 S3 => ?_) (.inr hln)
      refine wpAny_mono ((suite_ok a oe2 cls none (X.pn ++ pins) ze2 ⟨vs2, de2⟩).run [] z3 _ H' _ S3 (suited a na)) (fun g z4 came => ?_) fun _ _ w => w.elim
      -- the exception's object was not there ahead of the try
      have aI : sI.heap.get? a = none := Option.eq_none_iff_forall_ne_some.mpr fun o e => by
        have q := nb a o e (hs ▸ off)
        rw [fl1.2.1] at q
        cases q
      have a0 : X.s_0.heap.get? a = none := Option.eq_none_iff_forall_ne_some.mpr fun o e => by
        obtain ⟨o', q⟩ := J.base.there a o e (by simp [hex])
        rw [aI] at q
        cases q
      have unpinned : ∀ p ∈ X.pn ++ pins, p.1 ≠ a := fun p m e => by
        have q := (J.pin p m).1
        rw [e, aI] at q
        cases q
      cases g with
      | next =>
        obtain ⟨σ4, H4, S4, q4⟩ := came
        obtain ⟨p1, p2, -⟩ := S4.pin (a, oe2) (List.mem_append_left _ List.mem_cons_self)
        have known : ObjOk X.prog X.w (upd H4 a (KO cls a)) z4.heap a (KO cls a) := ⟨⟨oe2, vs2, p1, ze2, de2⟩, ⟨oe2, p1⟩, fun _ _ ⟨o, v, q, r⟩ k => ⟨o, v, k o q, r⟩⟩
        exact gone_ok (Inv.track (S4.unsuite good) p1 de2 a0 p2 offL unpinned known) hN hi hln fun _ J5 => ⟨_, _, J5, q4 p2⟩
      | brk => exact came.elim fun _ ⟨_, _, q⟩ => q.elim
      | cont => exact came.elim fun _ ⟨_, _, q⟩ => q.elim
      | ret _ => exact came.elim fun _ ⟨_, _, _, _, q⟩ => q.elim
  refine wpAny_Try_except (wpAny_mono ((body_ok _ (X.pn ++ pins) _ caught PassesOwn.looking).run [] s σ H D (inv.toTry _) want) (fun g z came => ?_) fun _ _ q => q)
  cases g with
  | next => exact wpAny_execs_nil (sp_leave good came)
  | brk => exact sp_leave good came
  | cont => exact sp_leave good came
  | ret w => exact sp_leave good came
end
/-- isinstance(e, c) of a kept exception of the own class at D -/
def rIsK (K : PySem.W.Frag) (D : Addr) : List V → Hp → VK → Prop := fun xs H Q => ∃ (a : Addr) (c : V) (cv : Value) (b : Bool), xs = [.ref a, c] ∧ H a = some (KO (.ref D) a) ∧ (∀ u, RelV c u → u = cv) ∧ PySem.W.kitOne K (.ref D) cv = some b ∧ Q (.bl b) H
theorem call_isK {X : Cx} {D : Addr} (C : ExcC X.K D) : CallR X (.builtin "isinstance") (rIsK X.K D) := by
  intro pins s σ H xs us Q I rel h
  obtain ⟨a, c, cv, b, rfl, ha, hcv, e, q⟩ := h
  obtain ⟨u1, u2, rfl, r1, r2⟩ := vals2 rel
  obtain rfl : u1 = Value.ref a := r1
  obtain rfl := hcv _ r2
  obtain ⟨⟨oe, vs, hget, ⟨k1, k2⟩, hv⟩, _, _⟩ := I.hok a _ ha
  obtain ⟨_, _, _, osl⟩ := oe
  dsimp only at k1 k2 hv
  subst k1 k2 hv
  exact PySem.W.kia_one (PySem.W.handS_kitx_exc C.hg C.hk C.hs C.hd C.ha C.hn C.ht C.hm) I.kIn (show PySem.W.InstAt s.heap a _ D none from ⟨hget, rfl, rfl, trivial⟩) e (fun z => nomatch z) fun tk => ⟨.bl b, H, I.kept (t' := tk) fun _ _ z => z, rfl, q⟩
end K28
/-! ## K28H -/
namespace K28
set_option maxHeartbeats 3900000
open L2 PySem PySem.Spec PyProof.Rows
section
variable {X : Cx} {pins : List (Addr × Obj)} {σ : L2.St}
variable {H : Hp} {s : Shared}
/-- a local name is stored: its very object is told -/
theorem store_raw {M : Model} {A : Around} {E : Value → Shared → Prop} {i : Nat} {x : Str} {v : V} {u : Value} {Q : Unit → Shared → Prop} (J : L2.Inv X pins σ H s) (hN : X.N.Nodup) (hi : X.N[i]? = some x) (hk : X.env.scope.names.lookup x = some .local) (r : RelV v u)
    (fin : ∀ h' m', h'.Ns X.env.locals m' → m' x = some u → L2.Inv X pins (σ.set i (some v)) H { s with heap := h', toks := s.toks + 1 } → Q () { s with heap := h', toks := s.toks + 1 }) : wpAny M A (storeName X.env x u) Q E s := by
  obtain ⟨m, hn, hl⟩ := id J.loc
  have flat : (X.env.scope.kind == .class || (X.env.scope.kind == .module && X.env.locals != X.env.globals)) = false := by rw [J.ok.kind]; rfl
  have room : i < σ.length := by rw [J.len]; exact (List.getElem?_eq_some_iff.mp hi).1
  refine wpAny_storeName_local hk hn (fun h' hn' sb => fin h' _ hn' (by simp) ?_) flat
  have old : ∀ {b : Addr} {o : Obj}, X.s_0.heap.get? b = some o → h'.get? b = s.heap.get? b := fun e => sb.2 _ (Nat.ne_of_lt (Nat.lt_of_lt_of_le (Heap.lt_size e) J.ok.above))
  refine ⟨J.ok, J.os, J.bare, ⟨fun b o e n hb hx => (old e).trans (J.base.keep b o e n hb hx), fun b o e n hb hx => ?_, J.base.free, fun b o e hx => ?_, J.base.tups, J.base.frzs, J.base.tbls⟩, ⟨_, hn', fun j y w e1 e2 e3 => ?_⟩, fun y c e => ?_, J.free, J.freeC, fun p hp => ?_, fun b ob e => ?_, by simpa using J.len⟩
  · obtain ⟨sl, q⟩ := J.base.slot b o e n hb hx
    exact ⟨sl, (old e).trans q⟩
  · obtain ⟨o', q⟩ := J.base.there b o e hx
    exact ⟨o', (old e).trans q⟩
  · rcases Nat.decEq j i with hj | hj
    · rw [List.getElem?_set_ne fun z => hj z.symm] at e2
      obtain ⟨u', r', q⟩ := hl j y w e1 e2 e3
      refine ⟨u', r', ?_⟩
      rcases q with ⟨kk, e⟩ | ⟨kk, c, e, z⟩
      · have ny : y ≠ x := fun z => hj (nodup_ix hN e1 (z ▸ hi))
        exact .inl ⟨kk, by simp [ny, e]⟩
      · exact .inr ⟨kk, c, e, z.sameBut sb (J.cne y c e)⟩
    · subst hj
      rw [hi] at e1; cases e1
      rw [List.getElem?_set_self room] at e2
      cases e2
      exact ⟨u, r, Or.inl ⟨hk, by simp⟩⟩
  · obtain ⟨w', z⟩ := J.cell y c e
    exact ⟨w', z.sameBut sb (J.cne y c e)⟩
  · obtain ⟨e, n, ne, rest⟩ := J.pin p hp
    exact ⟨(sb.2 p.1 ne).trans e, n, ne, rest⟩
  · refine (J.hok b ob e).stay (fun c w' hc q => (sb.2 c ?_).trans q) (fun _ q => q) fun _ _ q => q
    rintro rfl
    rcases hc with rfl | hc
    · rw [J.free] at e; cases e
    · rw [J.free] at hc; cases hc
end
section
variable {X : Cx} {st : Stmt} {rest body : List Stmt} {t u tb : TS} {tg iter : Expr} {wi : TI} {g : TG} {pos : Pos}
theorem PIT.ofPI (h : PI X tg iter wi) : PIT X tg iter wi := fun pins s σ H R _ J q => h.run pins s σ H R J q
/-- for, a token out before and in the body -/
theorem pst_forT (hp : PassesOwn (model X.prog X.w) X.A X.env X.xe) (hc : X.calm = true) (hi : PIT X tg iter wi) (hg : PG X tg g) (hb : PSsT X body tb)
    (hs : ∀ x, foldedSetIterable iter X.env x = pure x := by intro _; rfl) :
    PST X (.For tg iter body [] pos) (tFor wi g tb) := by
  intro pins s σ H D t0 J want
  -- the tokens only grow
  have up : ∀ {α : Type} {A : Around} {P : Sem α} {R : α → Shared → Prop} {E : Value → Shared → Prop} {z : Shared}, 1 ≤ z.toks → wpAny (model X.prog X.w) A P R E z → wpAny (model X.prog X.w) A P (fun a z' => 1 ≤ z'.toks ∧ R a z') E z :=
    fun low w => wpAny_mono (PySem.wpAny_toks_of low w) (fun _ _ q => q) fun _ _ q => q.2
  refine wpAny_For (thn (up t0 (hi pins s σ H _ t0 J want)) fun v s1 ⟨t1, q1⟩ => thn (up t1 q1) fun itv s2 ⟨t2, q2⟩ => ?_) hs
  obtain ⟨it, fp, tn, Jt, H2, rfl, J2, T, tn2, own2, W, ⟨m0, w0⟩, turn⟩ := q2
  have own : ∀ {H' : Hp}, (∀ b ∈ fp, H' b = none) → ∀ b ∈ fp, FpOk X pins H' b := fun none b m => ⟨none b m, (own2 b m).2⟩
  refine codeAny_forLoop_any (fun left z => 1 ≤ z.toks ∧ ∃ i σ' H', L2.Inv X pins σ' H' z ∧ tn i z.heap ∧ (∀ b ∈ fp, H' b = none) ∧ W i left σ' H') ?_ m0 ⟨t2, 0, σ, H2, J2, tn2, fun b m => (own2 b m).1, w0⟩
  rintro left s3 ⟨t3, i, σ3, H3, J3, tn3, none3, w3⟩
  obtain ⟨over, done⟩ | ⟨more, N, less, step⟩ := turn i left σ3 H3 w3
  · refine wpAny_passesOwn hp (thn (T.done X rfl rfl rfl hc i pins s3 σ3 H3 X.xe J3 (own none3) tn3 over) ?_)
    rintro _ s4 ⟨rfl, J4⟩
    exact wpAny_execs_nil ⟨σ3, H3, J4, done⟩
  · refine wpAny_passesOwn hp (thn (up t3 (T.item X rfl rfl rfl hc i pins s3 σ3 H3 X.xe J3 (own none3) tn3 more)) ?_)
    rintro _ s4 ⟨t4, u, rfl, q4⟩
    refine wpAny_passesOwn hp (thn (up t4 q4) ?_)
    rintro _ s5 ⟨t5, x, H5, J5, r5, y5, tn5, none5⟩
    refine wpAny_passesOwn hp (thn (up t5 (hg.run _ s5 σ3 H5 x u _ (J5.pinned (own none5) (T.obj _ _ tn5)) r5 (step x H5 y5))) ?_)
    rintro _ s6 ⟨t6, σ6, H6, J6, q6⟩
    refine wpAny_passesOwn hp (thn (up t6 (hb _ s6 σ6 H6 _ t6 J6 q6)) ?_)
    rintro f s7 ⟨t7, q7⟩
    have again : ∀ {σ7 : L2.St} {H7 : Hp}, L2.Inv X (pins ++ pinsAt fp s5.heap) σ7 H7 s7 → N σ7 H7 → ∃ m, m < left ∧ 1 ≤ s7.toks ∧ ∃ i σ' H', L2.Inv X pins σ' H' s7 ∧ tn i s7.heap ∧ (∀ b ∈ fp, H' b = none) ∧ W i m σ' H' := fun {σ7 H7} J7 n7 => by
      have held : ∀ b ∈ fp, ∀ o, s5.heap.get? b = some o → s7.heap.get? b = some o ∧ H7 b = none := fun b m o e => by
        have q := J7.pin (b, o) (List.mem_append_right _ (List.mem_append_right _ (mem_pinsAt m e)))
        exact ⟨q.1, q.2.1⟩
      obtain ⟨m, lt, w7⟩ := less σ7 H7 n7
      exact ⟨m, lt, t7, i + 1, σ7, H7, J7.unpinned, T.keep _ _ _ tn5 fun b m o e => (held b m o e).1, fun b m => (T.obj _ _ tn5 b m).elim fun o q => (held b m o q.1).2, w7⟩
    match f, q7 with
    | .next, ⟨_, _, J7, n7⟩ => exact again J7 n7
    | .cont, ⟨_, _, J7, n7⟩ => exact again J7 n7
    | .brk, ⟨σ7, H7, J7, q⟩ => exact ⟨σ7, H7, J7.unpinned, q⟩
    | .ret _, ⟨x7, σ7, H7, J7, r7, q⟩ => exact ⟨x7, σ7, H7, J7.unpinned, r7, q⟩
/-- m = x[e]; x = x.replace(m, ''): one sign struck out of a text -/
def tStrike (il im : Nat) (ts : TE) (u : TS) : TS := fun D σ H => ∃ z : Str, σ[il]? = some (some (.str z)) ∧ ts σ H fun y H1 => ∃ (i : Int) (c : Nat), y = .int i ∧ z.length ≤ 1000000 ∧ atI z.cps.toList i = some c ∧
  u D ((σ.set im (some (.str ⟨#[c]⟩))).set il (some (.str (Txt.replace z ⟨#[c]⟩ ⟨#[]⟩)))) H1
theorem psst_strike {il im j : Nat} {xl xm : Str} {sl : Expr} {ts : TE} {p1 p2 p3 p4 p5 p6 q1 q2 q3 q4 cp : Pos} (hN : X.N.Nodup) (hl : X.N[il]? = some xl) (hm : X.N[im]? = some xm) (hlm : il ≠ im) (vl : X.env.scope.names.lookup xl = some .local) (vm : X.env.scope.names.lookup xm = some .local)
    (hsl : PE X sl ts) (hpl : PlainIx sl) (h : PSsT X rest u)
    (hs1 : swapsWith (.Subscript (.Name xl p1) sl p2) (some (.Name xm p3)) p4.line X.env = pure false := by rfl)
    (hs2 : swapsWith (.Call (.Attribute (.Name xl q1) "replace" q2) [.Name xm q3, .Constant (.str (Str.ofString "")) j cp] [] q4) (some (.Name xl p5)) p6.line X.env = pure false := by rfl)
    (hst : starEach [.Name xm q3, .Constant (.str (Str.ofString "")) j cp] X.env = [(false, eval (.Name xm q3) X.env), (false, eval (.Constant (.str (Str.ofString "")) j cp) X.env)] := by rfl)
    (hbase : attributeBase (.Name xl q1) "replace" X.env (eval (.Name xl q1) X.env) = eval (.Name xl q1) X.env := by rfl) (hline : (q2.endLine == q4.line) = true := by rfl)
    (dl : (xl == ("__debug__" : Str)) = false := by decide) (dm : (xm == ("__debug__" : Str)) = false := by decide) (cl : (xl == ("__classdict__" : Str)) = false := by decide) :
    PSsT X (.Assign [.Name xm p3] (.Subscript (.Name xl p1) sl p2) p4 :: .Assign [.Name xl p5] (.Call (.Attribute (.Name xl q1) "replace" q2) [.Name xm q3, .Constant (.str (Str.ofString "")) j cp] [] q4) p6 :: rest) (tStrike il im ts u) := by
  intro pins s σ H D h0 J hw
  obtain ⟨z, hz, hw⟩ := hw
  refine wpAny_execs_cons (wpAny_Assign_Name (Subscript_ (raw_name hl (.inl vl) J hz (fun v rv => ?_) dl cl)) hs1)
  obtain ⟨tz, rfl⟩ : ∃ t, v = Value.str z t := rv
  refine wpAny_mono (PySem.wpAny_toks_of h0 (hsl.run pins s σ H _ J hw)) (fun y s1 hy => ?_) fun _ _ x => x.2
  obtain ⟨k1, y', H1, J1, ry, i, c, rfl, hlen, hat, q⟩ := hy
  obtain ⟨ty, rfl⟩ : ∃ t, y = Value.int i t := ry
  obtain ⟨jx, a1, a2, a3, a4, a5⟩ := atI_get hat
  have el : z.cps.toList.length = z.length := by simp [Str.length]
  rw [el] at a1 a4 a5
  have n63 := line63
  refine tail_any (typeIs_str s1 z tz) slot_str_getitem.lookup (getItem_str (c := c) (by
    rw [Bool.or_eq_false_iff]
    exact ⟨decide_eq_false (by omega), decide_eq_false (by omega)⟩) (by rw [a1]; simpa using a2) ?_) (hpl _ _)
  refine store_raw (v := .str ⟨#[c]⟩) (J1.tok (s1.toks + 1)) hN hm vm ⟨_, rfl⟩ fun h' m' hn' hm' J2 => ?_
  have hz2 : (σ.set im (some (.str ⟨#[c]⟩)))[il]? = some (some (.str z)) := by rw [List.getElem?_set_ne (Ne.symm hlm)]; exact hz
  have ev : wpAny (model X.prog X.w) X.A (eval (.Call (.Attribute (.Name xl q1) "replace" q2) [.Name xm q3, .Constant (.str (Str.ofString "")) j cp] [] q4) X.env) (fun v s' => ∃ t', v = Value.str (Txt.replace z ⟨#[c]⟩ ⟨#[]⟩) t' ∧ L2.Inv X pins (σ.set im (some (.str ⟨#[c]⟩))) H1 s') X.xe { s1 with heap := h', toks := s1.toks + 1 + 1 } := by
    refine PySem.Call_method2 hbase hst hline (raw_name hl (.inl vl) J2 hz2 (fun v rv => ?_) dl cl)
    obtain ⟨tz2, rfl⟩ : ∃ t, v = Value.str z t := rv
    refine ⟨"str", _, PySem.F.plainAttrs_str, PySem.F.slot_str_replace, PySem.F.type_str_replace, typeIs_str .., (fun _ => nofun), Calls.callWith_builtin rfl (Calls.evalArgs_plain (Calls.spliced_cons ?_))⟩
    refine wpAny_Name (wpAny_loadName_local J2.ok.kind vm hn' hm' ?_) dm
    apply Calls.spliced_cons (Calls.Constant_str (Calls.spliced_nil _))
    refine PySem.SC.replace (by show s1.toks ≠ 0; omega) (by show s1.toks + 1 + 1 ≠ 0; omega) (by show s1.toks ≠ s1.toks + 1 + 1; omega) ?_ (by show z.length + (z.length + 1) * 0 ≤ 16777216; omega) fun t' k => ⟨t', rfl, J2.tok k⟩
    cases hb : ((⟨#[c]⟩ : Str) == Str.ofString "") with
    | false => rfl
    | true =>
      have e : (1 : Nat) = 0 := congrArg Str.length (eq_of_beq hb)
      exact absurd e (by decide)
  refine wpAny_execs_cons (wpAny_Assign_Name (wpAny_mono (PySem.wpAny_toks_of (n := 1) (by show 1 ≤ s1.toks + 1 + 1; omega) ev) (fun v s2 hv => ?_) fun _ _ x => x.2) hs2)
  obtain ⟨k2, t', rfl, J3⟩ := hv
  refine wpAny_mono (PySem.wpAny_toks_of k2 (store_ok (v := V.str (Txt.replace z ⟨#[c]⟩ ⟨#[]⟩)) (Q := fun _ s3 => L2.Inv X pins ((σ.set im (some (.str ⟨#[c]⟩))).set il (some (V.str (Txt.replace z ⟨#[c]⟩ ⟨#[]⟩)))) H1 s3) J3 hN hl (.inl vl) ⟨t', rfl⟩ (fun _ J4 => J4) (.inr vl))) (fun _ s3 q3 => ?_) fun _ _ x => x.2
  exact h pins s3 _ H1 D q3.1 q3.2 q
end
end K28
/-! ## K28I -/
namespace K28
set_option maxHeartbeats 3900000
open L2 LamX PySem PySem.Spec PyProof.Rows
/-- a def that is only called where no guard is up -/
structure FnG (P : Program) (w : World) (K : PySem.W.Frag) (mg : Str → Option Value) (base : Heap) (CX : CXT) (k : Nat) (f : Addr) (fd : FuncData) (ps : List Str) (sp : Sp) : Prop where
  len : ∀ xs H Q E, sp xs H Q E → xs.length = ps.length
  run : ∀ (A : Around) (outer : List Env) (s : Shared) (H : Hp) (args : Args) (us : List Value) (vs : List V) (Q : VK) (E : XK), A.guards = some [] → Room k A → Env0 P w K mg base A outer s H → BindsTo s fd args (ps.zip us) → Vals vs us → sp vs H Q E → codeAny (model P w) A (.call (.ref f) args) (CR CX outer P w H s Q E) s
theorem fnG_of {CX : CXT} {P : Program} {w : World} {K : PySem.W.Frag} {mg : Str → Option Value} {base : Heap} {k : Nat} {f : Addr} {name qual : Str} {params : Arguments} {body : List Stmt} {scope : Scope} {dV kV doc pm cdv ct oc : Value} {an od : Option Addr} {osl : Array (Option Value)} {N ps : List Str} {sp : Sp} (lk : K.lookup f = some ⟨oc, od, .func (PySem.W.fnOf name qual params body scope dV kV doc pm an cdv ct), osl⟩) (hcd : PySem.W.codeIn K cdv qual = true) (S : FnScope N ps scope)
    (len : ∀ xs H Q E, sp xs H Q E → xs.length = ps.length)
    (hbody : ∀ (A : Around) (outer : List Env) (s : Shared) (H : Hp) (vs : List V) (Q : VK) (E : XK), (A.deeper (envOfC qual scope s.heap.objs.size f cdv)).guards = some [] → Room k (A.deeper (envOfC qual scope s.heap.objs.size f cdv)) → sp vs H Q E →
      ∃ t, PSs (cxOf CX P w K mg base N qual scope f cdv A outer s H E) body t ∧ t { nx := fun _ H' => Q .non H', rt := Q } (L2.start N vs) H) :
    FnG P w K mg base CX (k + 1) f (PySem.W.fnOf name qual params body scope dV kV doc pm an cdv ct) ps sp :=
  ⟨len, fun A outer s H args us vs Q E hgd hr e0 hb r hsp => run_ofS lk hcd S hr e0 hb r (len _ _ _ _ hsp) fun hr' => hbody A outer s H vs Q E hgd hr' hsp⟩
section
variable {X : Cx} {CX : CXT} {k : Nat} {f : Addr} {fd : FuncData} {ps : List Str} {sp : Sp} {E : XK} {x : Str} {p pos : Pos} {e : Expr} {es : List Expr} {t : TA}
theorem pe_callG (F : FnG X.prog X.w X.K X.mg X.base CX k f fd ps sp) (hgd : X.A.guards = some []) (hr : Room k X.A) (hg : Gl X x) (hm : X.mg x = some (.ref f)) (hk : PySem.W.keepIn X.K (.ref f) = true) (hb : Binds X.K fd ps []) (hx : Passes CX X E)
    (ha : PA X (e :: es) t) (he : starEach (e :: es) X.env = (false, eval e X.env) :: starEach es X.env := by rfl) (hpl : (backTo pos (starEach es X.env)).any (·.1) = false := by rfl)
    (hdb : (x == ("__debug__" : Str)) = false := by decide) :
    PE X (.Call (.Name x p) (e :: es) [] pos) (tCall sp [] E t) := by
  constructor
  intro pins s σ H Q I h
  apply wpAny_Call_Name_kw (ld_glob I hg hm _ hdb)
  refine PySem.W.callWith_K (h₀ := X.base) I.ok.mod.kin hk (thn (ha.run pos pins s σ H _ I h) fun us s1 ⟨vs, H1, J, r, q⟩ => ⟨J.kIn, ?_⟩) he hpl
  replace q : sp (vs ++ []) H1 Q E := q
  rw [List.append_nil] at q
  have hl : us.length = ps.length := by rw [← r.length]; exact F.len _ _ _ _ q
  have b := hb s1 us J.kIn (by rw [List.append_nil]; exact hl)
  rw [List.append_nil] at b
  refine wpAny_call (codeAny_mono (F.run X.A X.stack s1 H1 ⟨us, []⟩ us vs Q E hgd hr J.env0 b r q) fun r s' hq => ?_)
  cases r with
  | error e => exact hx pins σ H1 s1 e s' J hq
  | ok fl =>
    cases fl with
    | ret u => exact J.after hq
    | next => exact False.elim hq
    | brk => exact False.elim hq
    | cont => exact False.elim hq
end
end K28
/-! ## K28P -/
namespace K28
set_option maxHeartbeats 3900000
open L2 LamX PySem PySem.Spec PyProof.Rows
/-! ### known data -/
mutual
inductive Fz (H : Hp) : V → PyData → Prop
  | non : Fz H .non .none
  | bl (b : Bool) : Fz H (.bl b) (.bool b)
  | int (i : Int) : Fz H (.int i) (.int i)
  | str (x : Str) : Fz H (.str x) (.str x)
  | lst {a : Addr} {o : Obj} {xs : List V} {ds : List PyData} : H a = some (.frz o (.lst xs)) → FzA H xs ds → Fz H (.ref a) (.list ds)
  | tup {a : Addr} {xs : List V} {ds : List PyData} : H a = some (.tup xs) → FzA H xs ds → Fz H (.ref a) (.tuple ds)
inductive FzA (H : Hp) : List V → List PyData → Prop
  | nil : FzA H [] []
  | cons {v : V} {vs : List V} {d : PyData} {ds : List PyData} : Fz H v d → FzA H vs ds → FzA H (v :: vs) (d :: ds)
end
def Imm : HO → Prop
  | .tup _ => True
  | .frz _ _ => True
  | _ => False
def ImK (H H' : Hp) : Prop := ∀ b o, H b = some o → Imm o → H' b = some o
theorem ImK.refl (H : Hp) : ImK H H := fun _ _ e _ => e
theorem ImK.trans {H H1 H2 : Hp} (a : ImK H H1) (b : ImK H1 H2) : ImK H H2 := fun c o e i => b c o (a c o e i) i
mutual
theorem Fz.keep {H H' : Hp} (k : ImK H H') : ∀ {v : V} {d : PyData}, Fz H v d → Fz H' v d
  | _, _, .non => .non
  | _, _, .bl b => .bl b
  | _, _, .int i => .int i
  | _, _, .str x => .str x
  | _, _, .lst e a => .lst (k _ _ e trivial) (FzA.keep k a)
  | _, _, .tup e a => .tup (k _ _ e trivial) (FzA.keep k a)
theorem FzA.keep {H H' : Hp} (k : ImK H H') : ∀ {vs : List V} {ds : List PyData}, FzA H vs ds → FzA H' vs ds
  | _, _, .nil => .nil
  | _, _, .cons a r => .cons (Fz.keep k a) (FzA.keep k r)
end
mutual
theorem Fz.dp {K : PySem.W.Frag} {H : Hp} : ∀ {v : V} {d : PyData}, Fz H v d → Dp K H v d
  | _, _, .non => .non
  | _, _, .bl b => .bl b
  | _, _, .int i => .int i
  | _, _, .str x => .str x
  | _, _, .lst e a => .lst (.inl (.inr ⟨_, e⟩)) (FzA.dp a)
  | _, _, .tup e a => .tup (SqT.of e) (FzA.dp a)
theorem FzA.dp {K : PySem.W.Frag} {H : Hp} : ∀ {vs : List V} {ds : List PyData}, FzA H vs ds → DpAll K H vs ds
  | _, _, .nil => .nil
  | _, _, .cons a r => .cons (Fz.dp a) (FzA.dp r)
end
section
variable {H H' : Hp} {v x y z : V} {d e f : PyData} {vs ws : List V} {ds es : List PyData} {K : PySem.W.Frag}
theorem FzA.length : ∀ {vs : List V} {ds : List PyData}, FzA H vs ds → vs.length = ds.length
  | _, _, .nil => rfl
  | _, _, .cons _ r => congrArg Nat.succ (FzA.length r)
theorem FzA.app : ∀ {vs : List V} {ds : List PyData}, FzA H vs ds → FzA H ws es → FzA H (vs ++ ws) (ds ++ es)
  | _, _, .nil, b => b
  | _, _, .cons a r, b => .cons a (FzA.app r b)
theorem FzA.snoc (a : FzA H vs ds) (b : Fz H v d) : FzA H (vs ++ [v]) (ds ++ [d]) := a.app (.cons b .nil)
theorem FzA.at : ∀ {vs : List V} {ds : List PyData} {i : Nat} {d : PyData}, FzA H vs ds → ds[i]? = some d → ∃ v, vs[i]? = some v ∧ Fz H v d
  | _, _, _, _, .nil, e => absurd e (by simp)
  | _, _, 0, _, .cons a _, e => by
    cases e
    exact ⟨_, rfl, a⟩
  | _, _, i + 1, _, .cons _ r, e => by
    obtain ⟨v, q⟩ := FzA.at (i := i) r (by simpa using e)
    exact ⟨v, by simpa using q.1, q.2⟩
theorem FzA.of : ∀ {vs : List V} {ds : List PyData} {i : Nat} {v : V}, FzA H vs ds → vs[i]? = some v → ∃ d, ds[i]? = some d ∧ Fz H v d
  | _, _, _, _, .nil, e => absurd e (by simp)
  | _, _, 0, _, .cons a _, e => by
    cases e
    exact ⟨_, rfl, a⟩
  | _, _, i + 1, _, .cons _ r, e => by
    obtain ⟨d, q⟩ := FzA.of (i := i) r (by simpa using e)
    exact ⟨d, by simpa using q.1, q.2⟩
theorem FzA.drop : ∀ {vs : List V} {ds : List PyData}, FzA H vs ds → FzA H vs.dropLast ds.dropLast
  | _, _, .nil => .nil
  | _, _, .cons _ .nil => .nil
  | _, _, .cons a (.cons b r) => .cons a (FzA.drop (.cons b r))
theorem FzA.take : ∀ {vs : List V} {ds : List PyData} (n : Nat), FzA H vs ds → FzA H (vs.take n) (ds.take n)
  | _, _, 0, _ => .nil
  | _, _, _ + 1, .nil => .nil
  | _, _, n + 1, .cons a r => .cons a (FzA.take n r)
theorem FzA.from : ∀ {vs : List V} {ds : List PyData} (n : Nat), FzA H vs ds → FzA H (vs.drop n) (ds.drop n)
  | _, _, 0, a => a
  | _, _, _ + 1, .nil => .nil
  | _, _, n + 1, .cons a r => FzA.from n r
theorem Fz.strs : ∀ {xs : List Str}, FzA H (xs.map V.str) (xs.map PyData.str)
  | [] => .nil
  | x :: xs => .cons (.str x) Fz.strs
theorem FzA.strs_eq : ∀ {vs : List V} {xs : List Str}, FzA H vs (xs.map PyData.str) → vs = xs.map V.str
  | [], [], _ => rfl
  | _ :: _, [], h => nomatch h
  | [], _ :: _, h => nomatch h
  | _ :: _, _ :: _, .cons (.str _) r => congrArg _ (FzA.strs_eq r)
theorem bools_eq : ∀ {vs : List V} {α : Type} {ks : List α} {f : α → Bool}, FzA H vs (ks.map fun k => PyData.bool (f k)) → vs = (ks.map f).map V.bl
  | [], _, [], _, _ => rfl
  | _ :: _, _, [], _, h => nomatch h
  | [], _, _ :: _, _, h => nomatch h
  | _ :: _, _, _ :: _, _, .cons (.bl _) r => congrArg _ (bools_eq r)
theorem ints_eq : ∀ {vs : List V} {α : Type} {ks : List α} {f : α → Int}, FzA H vs (ks.map fun k => PyData.int (f k)) → vs = (ks.map f).map V.int
  | [], _, [], _, _ => rfl
  | _ :: _, _, [], _, h => nomatch h
  | [], _, _ :: _, _, h => nomatch h
  | _ :: _, _, _ :: _, _, .cons (.int _) r => congrArg _ (ints_eq r)
theorem Fz.lst_inv (h : Fz H v (.list ds)) : ∃ (a : Addr) (o : Obj) (xs : List V), v = .ref a ∧ H a = some (.frz o (.lst xs)) ∧ FzA H xs ds := by
  cases h with
  | lst e a => exact ⟨_, _, _, rfl, e, a⟩
theorem Fz.tup_inv (h : Fz H v (.tuple ds)) : ∃ (a : Addr) (xs : List V), v = .ref a ∧ H a = some (.tup xs) ∧ FzA H xs ds := by
  cases h with
  | tup e a => exact ⟨_, _, rfl, e, a⟩
theorem Fz.tup2 (h : Fz H v (.tuple [d, e])) : ∃ (a : Addr) (x y : V), v = .ref a ∧ H a = some (.tup [x, y]) ∧ Fz H x d ∧ Fz H y e := by
  obtain ⟨a, xs, rfl, ha, r⟩ := h.tup_inv
  match r with
  | .cons p (.cons q .nil) => exact ⟨a, _, _, rfl, ha, p, q⟩
theorem Fz.tup3 (h : Fz H v (.tuple [d, e, f])) : ∃ (a : Addr) (x y z : V), v = .ref a ∧ H a = some (.tup [x, y, z]) ∧ Fz H x d ∧ Fz H y e ∧ Fz H z f := by
  obtain ⟨a, xs, rfl, ha, r⟩ := h.tup_inv
  match r with
  | .cons p (.cons q (.cons r .nil)) => exact ⟨a, _, _, _, rfl, ha, p, q, r⟩
theorem Fz.str_inv {s : Str} (h : Fz H v (.str s)) : v = .str s := by cases h; rfl
theorem Fz.int_inv {i : Int} (h : Fz H v (.int i)) : v = .int i := by cases h; rfl
theorem Fz.bool_inv {b : Bool} (h : Fz H v (.bool b)) : v = .bl b := by cases h; rfl
theorem Fz.none_inv (h : Fz H v .none) : v = .non := by cases h; rfl
theorem sqF {a : Addr} {o : Obj} (h : H a = some (.frz o (.lst vs))) : SqL K H a vs := .inl (.inr ⟨o, h⟩)
end
/-! ### what a call may change -/
structure Fr (T : List (Addr × Str)) (fp : List Addr) (H H' : Hp) (fp' : List Addr) : Prop where
  imm : ImK H H'
  out : ∀ b o, H b = some o → b ∉ fp → (∀ ps, o ≠ .tbl ps) → H' b = some o
  dom : ∀ b, H' b = none → H b = none
  new : ∀ b ∈ fp', b ∈ fp ∨ H b = none
  tab : Tabs T H → Tabs T H'
/-- an object that may change: a list, a dict, an instance -/
def Mtb : HO → Prop
  | .lst _ => True
  | .dK _ => True
  | .ins _ _ _ => True
  | _ => False
section
variable {T : List (Addr × Str)} {H H1 H2 H' : Hp} {fp fp1 fp2 gp : List Addr} {a b p : Addr} {o u : HO}
theorem Fr.refl : Fr T fp H H fp := ⟨.refl H, fun _ _ e _ _ => e, fun _ e => e, fun _ h => .inl h, id⟩
theorem Fr.trans (x : Fr T fp H H1 fp1) (y : Fr T fp1 H1 H2 fp2) : Fr T fp H H2 fp2 where
  imm := x.imm.trans y.imm
  out := fun b o e nb nt => y.out b o (x.out b o e nb nt) (fun z => (x.new b z).elim nb fun q => by rw [q] at e; cases e) nt
  dom := fun b e => x.dom b (y.dom b e)
  new := fun b z => (y.new b z).elim (x.new b) fun q => .inr (x.dom b q)
  tab := fun t => y.tab (x.tab t)
theorem Fr.less (x : Fr T fp H H' fp1) (s : ∀ b ∈ fp2, b ∈ fp1) : Fr T fp H H' fp2 := ⟨x.imm, x.out, x.dom, fun b z => x.new b (s b z), x.tab⟩
theorem Fr.wide (x : Fr T fp H H' fp1) (s : ∀ b ∈ fp, b ∈ gp) : Fr T gp H H' fp1 := ⟨x.imm, fun b o e nb => x.out b o e fun z => nb (s b z), x.dom, fun b z => (x.new b z).imp (s b) id, x.tab⟩
theorem Fr.more (x : Fr T fp H H' fp1) (s : ∀ b ∈ fp2, b ∈ fp1 ∨ b ∈ fp ∨ H b = none) : Fr T fp H H' fp2 := ⟨x.imm, x.out, x.dom, fun b z => (s b z).elim (x.new b) id, x.tab⟩
/-- the same at a wider place -/
theorem Fr.up (x : Fr T fp H H' fp1) (s : ∀ b ∈ fp, b ∈ gp) : Fr T gp H H' gp := (x.wide s).more fun b z => .inr (.inl z)
theorem tabs_keep (t : Tabs T H) (k : ∀ b o, H b = some o → (∃ ps, o = .tbl ps) ∨ (∃ φ, o = .ext φ) → H' b = some o) : Tabs T H' := fun q hq => by
  obtain ⟨ps, h1, h2, h3⟩ := t q hq
  refine ⟨ps, k _ _ h1 (.inl ⟨_, rfl⟩), h2, fun pos cv hc => ?_⟩
  obtain ⟨z, e1, e2⟩ := h3 pos cv hc
  exact ⟨z, e1, k _ _ e2 (.inr ⟨_, rfl⟩)⟩
theorem Fr.new' (hp : H p = none) : Fr T fp H (upd H p o) (p :: fp) where
  imm := fun b q e _ => by rw [upd_ne (ne_of_none e hp)]; exact e
  out := fun b q e _ _ => by rw [upd_ne (ne_of_none e hp)]; exact e
  dom := fun b e => by
    by_cases q : b = p
    · rw [q]; exact hp
    · rw [upd_ne q] at e; exact e
  new := fun b z => (List.mem_cons.mp z).elim (fun q => .inr (by rw [q]; exact hp)) .inl
  tab := fun t => tabs_keep t fun b q e _ => by rw [upd_ne (ne_of_none e hp)]; exact e
theorem Fr.fresh (hp : H p = none) : Fr T fp H (upd H p o) fp := (Fr.new' hp).less fun b z => List.mem_cons_of_mem _ z
theorem Fr.mut (ha : H a = some u) (hm : Mtb u) (hf : a ∈ fp) : Fr T fp H (upd H a o) fp where
  imm := fun b q e i => by
    rw [upd_ne]
    · exact e
    · rintro rfl
      rw [ha] at e; cases e
      cases u <;> first | exact hm.elim | exact i.elim
  out := fun b q e nb _ => by
    have n : b ≠ a := fun z => nb (by rw [z]; exact hf)
    rw [upd_ne n]; exact e
  dom := fun b e => by
    by_cases q : b = a
    · rw [q, upd_same] at e; cases e
    · rw [upd_ne q] at e; exact e
  new := fun b z => .inl z
  tab := fun t => tabs_keep t fun b q e i => by
    rw [upd_ne]
    · exact e
    · rintro rfl
      rw [ha] at e; cases e
      rcases i with ⟨ps, rfl⟩ | ⟨φ, rfl⟩ <;> exact hm.elim
/-- what a tracked place holds stays, outside -/
theorem Fr.get (x : Fr T fp H H' fp1) (e : H b = some o) (nb : b ∉ fp) (m : Mtb o) : H' b = some o := x.out b o e nb fun ps z => by rw [z] at m; exact m
theorem Fr.getI (x : Fr T fp H H' fp1) (e : H b = some o) (i : Imm o) : H' b = some o := x.imm b o e i
theorem Fr.fz {v : V} {d : PyData} (x : Fr T fp H H' fp1) (h : Fz H v d) : Fz H' v d := h.keep x.imm
theorem Fr.fza {vs : List V} {ds : List PyData} (x : Fr T fp H H' fp1) (h : FzA H vs ds) : FzA H' vs ds := h.keep x.imm
/-- what is apart stays apart -/
theorem Fr.apart (x : Fr T fp H H' fp1) (hd : ∀ b ∈ gp, b ∉ fp) (ht : ∀ b ∈ gp, H b ≠ none) : ∀ b ∈ gp, b ∉ fp1 := fun b hb z => (x.new b z).elim (hd b hb) (ht b hb)
end
end K28
/-! ## K28M -/
namespace K28
set_option maxHeartbeats 3900000
open L2 LamX PySem PySem.Spec PyProof.Rows
/-! ### the mirror -/
inductive Wd | opn | off | stands
  deriving DecidableEq
def Wd.s : Wd → Str
  | .opn => "open"
  | .off => "off"
  | .stands => "stands"
abbrev Ky := Str × Int
structure Dl where
  name : Str
  lets : List (Str × Str)
  steps : List (Str × Str)
structure Bk where
  kinds : List (Str × Bool)
  deals : List Dl
structure Tl where
  deed : Str
  key : Ky
  seen : Option Int
structure D where
  di : Nat
  keys : List Ky
  begun : Nat
  ended : Option Nat
  word : Wd
  told : List Tl
inductive Row
  | beg (di : Nat) (ks : List Ky)
  | stp (n : Nat)
  | fin (n : Nat)
  | drp (n : Nat)
/-! ### as data -/
def kyD (k : Ky) : PyData := .tuple [.str k.1, .int k.2]
def prS (p : Str × Str) : PyData := .tuple [.str p.1, .str p.2]
def kdD (p : Str × Bool) : PyData := .tuple [.str p.1, .bool p.2]
def dlD (d : Dl) : PyData := .tuple [.str d.name, .list (d.lets.map prS), .list (d.steps.map prS)]
def bkD (b : Bk) : PyData := .tuple [.list (b.kinds.map kdD), .list (b.deals.map dlD)]
def opD : Option Int → PyData
  | none => .none
  | some i => .int i
def tlD (t : Tl) : PyData := .tuple [.str t.deed, kyD t.key, opD t.seen]
def nmOf (b : Bk) (di : Nat) : Str := ((b.deals[di]?).map (·.name)).getD ""
def rwD (b : Bk) : Row → PyData
  | .beg di ks => .tuple [.str "begin", .str (nmOf b di), .list (ks.map kyD)]
  | .stp n => .tuple [.str "step", .int n]
  | .fin n => .tuple [.str "end", .int n]
  | .drp n => .tuple [.str "drop", .int n]
/-! ### what the deeds do -/
def wrote (d : D) : List Ky := (d.told.filter fun t => !decide (t.deed = ("read" : Str))).map (·.key)
def gone (o : Option Nat) (row : Nat) : Bool := match o with
  | some e => decide (e < row)
  | none => false
def late (o : Option Nat) (row : Nat) : Bool := match o with
  | some e => decide (row < e)
  | none => false
def cand (ds : List D) (key : Ky) (row : Nat) (i : Nat) : Bool := match ds[i]? with
  | some d => decide (d.word = .stands) && gone d.ended row && decide (key ∈ wrote d)
  | none => false
def kfD (ds : List D) (n : Int) : Int := match ds[n.toNat]? with
  | some d => ((d.ended.getD 0 : Nat) : Int)
  | none => 0
def cands (ds : List D) (key : Ky) (row : Nat) (n : Nat) : List Int := ((List.range n).filter (cand ds key row)).map fun (i : Nat) => (i : Int)
def lastW (ds : List D) (key : Ky) (row : Nat) : Option Int := topOf (kfD ds) (cands ds key row ds.length)
def isOff (ds : List D) (own : D) : Bool := ds.any fun d => decide (d.word = .stands) && late d.ended own.begun && (wrote d).any fun k => decide (k ∈ wrote own)
def keyOf (dl : Dl) (ks : List Ky) (letter : Str) : Ky := (ks[(dl.lets.map (·.1)).idxOf letter]?).getD ("", 0)
def dlOf (b : Bk) (di : Nat) : Dl := (b.deals[di]?).getD ⟨"", [], []⟩
def stepOf (b : Bk) (ds : List D) (n : Nat) (d : D) : Tl :=
  let st := ((dlOf b d.di).steps[d.told.length]?).getD ("", "")
  let key := keyOf (dlOf b d.di) d.keys st.2
  ⟨st.1, key, if st.1 = ("write" : Str) then none else if key ∈ wrote d then some n else lastW ds key d.begun⟩
def atN (ds : List D) (n : Nat) (f : D → D) : List D := match ds[n]? with
  | some d => ds.set n (f d)
  | none => ds
def doD (b : Bk) (ds : List D) (k : Nat) : Row → List D
  | .beg di ks => ds ++ [⟨di, ks, k, none, .opn, []⟩]
  | .stp n => atN ds n fun d => { d with told := d.told ++ [stepOf b ds n d] }
  | .fin n => atN ds n fun d => { d with ended := some k, word := if isOff ds d then .off else .stands }
  | .drp n => atN ds n fun d => { d with ended := some k, word := .off }
def undoD (ds : List D) : Row → List D
  | .beg _ _ => ds.dropLast
  | .stp n => atN ds n fun d => { d with told := d.told.dropLast }
  | .fin n => atN ds n fun d => { d with ended := none, word := .opn }
  | .drp n => atN ds n fun d => { d with ended := none, word := .opn }
/-! ### what may come -/
def KyOk (b : Bk) (k : Ky) : Prop := ∃ m, (k.1, m) ∈ b.kinds ∧ 0 ≤ k.2 ∧ (m = false → k.2 = 0)
def KsOk (b : Bk) (di : Nat) (ks : List Ky) : Prop := ks.map (·.1) = (dlOf b di).lets.map (·.2) ∧ ∀ k ∈ ks, KyOk b k
structure DOk (b : Bk) (k : Nat) (d : D) : Prop where
  di : d.di < b.deals.length
  ks : KsOk b d.di d.keys
  bg : d.begun < k
  tl : d.told.length ≤ (dlOf b d.di).steps.length
  en : (d.word = .opn ∧ d.ended = none) ∨ (d.word ≠ .opn ∧ ∃ e, d.ended = some e ∧ e < k)
  tk : ∀ t ∈ d.told, KyOk b t.key
  nm : ∀ q ∈ d.keys, q.2 ≤ 200
def Can (b : Bk) (ds : List D) : Row → Prop
  | .beg di ks => di < b.deals.length ∧ KsOk b di ks ∧ ds.length < 40 ∧ ∀ k ∈ ks, k.2 ≤ 4 * (ds.length : Int) + 6
  | .stp n => ∃ d, ds[n]? = some d ∧ d.word = .opn ∧ d.told.length < (dlOf b d.di).steps.length
  | .fin n => ∃ d, ds[n]? = some d ∧ d.word = .opn ∧ d.told.length = (dlOf b d.di).steps.length
  | .drp n => ∃ d, ds[n]? = some d ∧ d.word = .opn
inductive Ok (b : Bk) : List Row → List D → Prop
  | nil : Ok b [] []
  | snoc {rs : List Row} {ds : List D} {r : Row} : Ok b rs ds → Can b ds r → Ok b (rs ++ [r]) (doD b ds rs.length r)
/-- a book that may come -/
structure BkOk (b : Bk) : Prop where
  kn : (b.kinds.map (·.1)).Nodup
  dn : (b.deals.map (·.name)).Nodup
  d0 : 0 < b.deals.length
  d4 : b.deals.length ≤ 4
  k0 : 0 < b.kinds.length
  k3 : b.kinds.length ≤ 3
  ln : ∀ d ∈ b.deals, (d.lets.map (·.1)).Nodup
  l0 : ∀ d ∈ b.deals, d.lets.length ≤ 4
  lk : ∀ d ∈ b.deals, ∀ p ∈ d.lets, ∃ m, (p.2, m) ∈ b.kinds
  st : ∀ d ∈ b.deals, ∀ p ∈ d.steps, p.2 ∈ d.lets.map (·.1)
  s8 : ∀ d ∈ b.deals, d.steps.length ≤ 8
  nk : ∀ p ∈ b.kinds, p.1.length ≤ 16
  ok : ∀ p ∈ b.kinds, PyData.strOk p.1 = true
  nd : ∀ d ∈ b.deals, d.name.length ≤ 16
  sl : ∀ d ∈ b.deals, ∀ p ∈ d.lets, p.1.length ≤ 16
  sd : ∀ d ∈ b.deals, ∀ p ∈ d.steps, p.1.length ≤ 16
  on : ∀ d ∈ b.deals, PyData.strOk d.name = true
  so : ∀ d ∈ b.deals, ∀ p ∈ d.steps, PyData.strOk p.1 = true

section
variable {b : Bk} {rs : List Row} {ds : List D} {n k : Nat} {d : D} {f : D → D}
theorem atN_some (h : ds[n]? = some d) : atN ds n f = ds.set n (f d) := by unfold atN; rw [h]
theorem atN_length : (atN ds n f).length = ds.length := by
  unfold atN
  split <;> simp
theorem dlOf_mem {di : Nat} (h : di < b.deals.length) : b.deals[di]? = some (dlOf b di) ∧ dlOf b di ∈ b.deals := by
  have e : b.deals[di]? = some b.deals[di] := List.getElem?_eq_getElem h
  have q : dlOf b di = b.deals[di] := by unfold dlOf; rw [e]; rfl
  rw [q]
  exact ⟨e, List.getElem_mem h⟩
theorem KsOk.length {di : Nat} {ks : List Ky} (h : KsOk b di ks) : ks.length = (dlOf b di).lets.length := by
  have := congrArg List.length h.1
  simpa using this
theorem keyOf_mem {dl : Dl} {ks : List Ky} {l : Str} (hl : l ∈ dl.lets.map (·.1)) (hk : ks.length = dl.lets.length) : keyOf dl ks l ∈ ks ∧ ks[(dl.lets.map (·.1)).idxOf l]? = some (keyOf dl ks l) := by
  have h1 : (dl.lets.map (·.1)).idxOf l < ks.length := by
    have := List.idxOf_lt_length_of_mem hl
    rw [List.length_map] at this
    omega
  have e : ks[(dl.lets.map (·.1)).idxOf l]? = some ks[(dl.lets.map (·.1)).idxOf l] := List.getElem?_eq_getElem h1
  have q : keyOf dl ks l = ks[(dl.lets.map (·.1)).idxOf l] := by unfold keyOf; rw [e]; rfl
  rw [q]
  exact ⟨List.getElem_mem h1, e⟩
theorem DOk.mono {j : Nat} (h : DOk b k d) (hj : k ≤ j) : DOk b j d := ⟨h.di, h.ks, Nat.lt_of_lt_of_le h.bg hj, h.tl, h.en.imp id fun ⟨a, e, p, q⟩ => ⟨a, e, p, Nat.lt_of_lt_of_le q hj⟩, h.tk, h.nm⟩
theorem set_all {P : D → Prop} {e : D} (h : ∀ d ∈ ds, P d) (he : P e) : ∀ d ∈ ds.set n e, P d := fun d hd => (List.mem_or_eq_of_mem_set hd).elim (h d) fun q => by rw [q]; exact he
theorem KyOk.str (B : BkOk b) {q : Ky} (h : KyOk b q) : PyData.strOk q.1 = true := by
  obtain ⟨m, e, _⟩ := h
  exact B.ok _ e
/-- the step that comes has an admissible key -/
theorem stepOf_ok (B : BkOk b) (h : DOk b k d) (ht : d.told.length < (dlOf b d.di).steps.length) : KyOk b (stepOf b ds n d).key := by
  obtain ⟨e1, m1⟩ := dlOf_mem h.di
  have e2 : (dlOf b d.di).steps[d.told.length]? = some (dlOf b d.di).steps[d.told.length] := List.getElem?_eq_getElem ht
  have m2 : (dlOf b d.di).steps[d.told.length] ∈ (dlOf b d.di).steps := List.getElem_mem ht
  have q := B.st _ m1 _ m2
  have e3 : (stepOf b ds n d).key = keyOf (dlOf b d.di) d.keys (dlOf b d.di).steps[d.told.length].2 := by
    show keyOf _ _ (((dlOf b d.di).steps[d.told.length]?).getD ("", "")).2 = _
    rw [e2]; rfl
  rw [e3]
  exact h.ks.2 _ (keyOf_mem q h.ks.length).1
theorem Ok.inv (B : BkOk b) (h : Ok b rs ds) : ds.length ≤ 40 ∧ ∀ d ∈ ds, DOk b rs.length d := by
  induction h with
  | nil => exact ⟨Nat.zero_le _, (fun d hd => nomatch hd)⟩
  | snoc h c ih =>
    rename_i rs ds r
    obtain ⟨i1, i2⟩ := ih
    have up : ∀ d ∈ ds, DOk b (rs ++ [r]).length d := fun d hd => (i2 d hd).mono (by simp)
    have lt : rs.length < (rs ++ [r]).length := by simp
    cases r with
    | beg di ks =>
      obtain ⟨c1, c2, c3, c4⟩ := c
      refine ⟨by simp [doD]; omega, fun d hd => ?_⟩
      obtain hd | hd := List.mem_append.mp hd
      · exact up d hd
      · rw [List.mem_singleton] at hd
        subst hd
        exact ⟨c1, c2, lt, Nat.zero_le _, .inl ⟨rfl, rfl⟩, (fun t ht => nomatch ht), fun q hq => by have := c4 q hq; omega⟩
    | stp n =>
      obtain ⟨d, e, w, t⟩ := c
      have hd := List.mem_of_getElem? e
      refine ⟨by simp only [doD, atN_length]; exact i1, ?_⟩
      simp only [doD]
      rw [atN_some e]
      refine set_all up ?_
      have q := up d hd
      refine ⟨q.di, q.ks, q.bg, by simp only [List.length_append, List.length_singleton]; exact t, q.en, fun x hx => ?_, q.nm⟩
      obtain hx | hx := List.mem_append.mp hx
      · exact q.tk x hx
      · rw [List.mem_singleton] at hx
        subst hx
        exact stepOf_ok B q t
    | fin n =>
      obtain ⟨d, e, w, t⟩ := c
      have hd := List.mem_of_getElem? e
      refine ⟨by simp only [doD, atN_length]; exact i1, ?_⟩
      simp only [doD]
      rw [atN_some e]
      refine set_all up ?_
      have q := up d hd
      refine ⟨q.di, q.ks, q.bg, q.tl, .inr ⟨?_, _, rfl, lt⟩, q.tk, q.nm⟩
      show (if isOff ds d = true then Wd.off else Wd.stands) ≠ Wd.opn
      split <;> decide
    | drp n =>
      obtain ⟨d, e, w⟩ := c
      have hd := List.mem_of_getElem? e
      refine ⟨by simp only [doD, atN_length]; exact i1, ?_⟩
      simp only [doD]
      rw [atN_some e]
      refine set_all up ?_
      have q := up d hd
      exact ⟨q.di, q.ks, q.bg, q.tl, .inr ⟨(fun z => nomatch z), _, rfl, lt⟩, q.tk, q.nm⟩
theorem atN_atN {g : D → D} (hf : ds[n]? = some d) : atN (atN ds n f) n g = ds.set n (g (f d)) := by
  rw [atN_some hf]
  have hl := (List.getElem?_eq_some_iff.mp hf).1
  rw [atN_some (d := f d) (by rw [List.getElem?_set_self hl]), List.set_set]
theorem set_self (hf : ds[n]? = some d) : ds.set n d = ds := by
  obtain ⟨h, e⟩ := List.getElem?_eq_some_iff.mp hf
  rw [← e]
  exact List.set_getElem_self h
/-- undoing -/
theorem undo_do (B : BkOk b) (h : Ok b rs ds) {r : Row} (c : Can b ds r) (k : Nat) : undoD (doD b ds k r) r = ds := by
  obtain ⟨_, i2⟩ := h.inv B
  cases r with
  | beg di ks => simp [doD, undoD]
  | stp n =>
    obtain ⟨d, e, w, t⟩ := c
    simp only [doD, undoD]
    rw [atN_atN e]
    have q : ({ d with told := (d.told ++ [stepOf b ds n d]).dropLast } : D) = d := by rw [List.dropLast_concat]
    exact (congrArg (ds.set n) q).trans (set_self e)
  | fin n =>
    obtain ⟨d, e, w, t⟩ := c
    simp only [doD, undoD]
    rw [atN_atN e]
    have en : d.ended = none := ((i2 d (List.mem_of_getElem? e)).en.resolve_right fun z => z.1 w).2
    have q : ({ d with ended := none, word := Wd.opn } : D) = d := by cases d; simp at w en; subst w; subst en; rfl
    exact (congrArg (ds.set n) q).trans (set_self e)
  | drp n =>
    obtain ⟨d, e, w⟩ := c
    simp only [doD, undoD]
    rw [atN_atN e]
    have en : d.ended = none := ((i2 d (List.mem_of_getElem? e)).en.resolve_right fun z => z.1 w).2
    have q : ({ d with ended := none, word := Wd.opn } : D) = d := by cases d; simp at w en; subst w; subst en; rfl
    exact (congrArg (ds.set n) q).trans (set_self e)
theorem Ok.nil_inv (h : Ok b [] ds) : ds = [] := by
  generalize e : ([] : List Row) = l at h
  cases h with
  | nil => rfl
  | snoc _ _ => simp at e
theorem Ok.snoc_inv {r : Row} (h : Ok b (rs ++ [r]) ds) : ∃ ds0, Ok b rs ds0 ∧ Can b ds0 r ∧ ds = doD b ds0 rs.length r := by
  generalize e : rs ++ [r] = l at h
  cases h with
  | nil => simp at e
  | snoc h c =>
    have e1 := List.append_inj' e rfl
    obtain ⟨rfl, e2⟩ := e1
    cases e2
    exact ⟨_, h, c, rfl⟩
theorem Ok.det (h : Ok b rs ds) : ∀ {es : List D}, Ok b rs es → ds = es := by
  induction h with
  | nil => exact fun g => g.nil_inv.symm
  | snoc h c ih =>
    intro es g
    obtain ⟨es0, g1, g2, rfl⟩ := g.snoc_inv
    rw [ih g1]
/-- the way there, row by row -/
theorem Ok.take (h : Ok b rs ds) : ∀ i, i ≤ rs.length → ∃ es, Ok b (rs.take i) es ∧ (∀ r, rs[i]? = some r → Can b es r) := by
  induction h with
  | nil => exact fun i hi => ⟨[], by simpa using .nil, fun r e => by simp at e⟩
  | snoc h c ih =>
    rename_i rs ds r
    intro i hi
    rcases Nat.lt_or_ge i rs.length with hlt | hge
    · obtain ⟨es, h1, h2⟩ := ih i (Nat.le_of_lt hlt)
      refine ⟨es, by rw [List.take_append_of_le_length (Nat.le_of_lt hlt)]; exact h1, fun r' e => ?_⟩
      rw [List.getElem?_append_left hlt] at e
      exact h2 r' e
    · rcases Nat.eq_or_lt_of_le hge with rfl | hgt
      · refine ⟨ds, by rw [List.take_left']; exact h; rfl, fun r' e => ?_⟩
        rw [List.getElem?_append_right (Nat.le_refl _)] at e
        simp at e
        subst e
        exact c
      · have e : i = (rs ++ [r]).length := by simp at hi ⊢; omega
        subst e
        exact ⟨_, by rw [List.take_length]; exact .snoc h c, fun r' e => by simp at e⟩
end
end K28
/-! ## K28W -/
namespace K28
set_option maxHeartbeats 3900000
open L2 LamX PySem PySem.Spec PyProof.Rows
theorem kyD_eqv (k j : Ky) : PyData.eqv (kyD k) (kyD j) = decide (k = j) := by
  obtain ⟨a, n⟩ := k
  obtain ⟨c, m⟩ := j
  have e : PyData.eqv (kyD (a, n)) (kyD (c, m)) = ((a == c) && ((n == m) && true)) := by simp only [kyD, PyData.eqv, PyData.eqvAll]
  rw [e, Bool.and_true]
  by_cases h1 : a = c
  · subst h1
    by_cases h2 : n = m
    · subst h2; simp
    · have q : (n == m) = false := beq_eq_false_iff_ne.mpr h2
      rw [q, decide_eq_false (fun z => h2 (Prod.mk.inj z).2), Bool.and_false]
  · have q : (a == c) = false := beq_eq_false_iff_ne.mpr h1
    rw [q, decide_eq_false (fun z => h1 (Prod.mk.inj z).1), Bool.false_and]
theorem any_ky (k : Ky) : ∀ ks : List Ky, ((ks.map kyD).any fun z => PyData.eqv z (kyD k)) = decide (k ∈ ks)
  | [] => by simp
  | j :: ks => by
    rw [List.map_cons, List.any_cons, any_ky k ks, kyD_eqv]
    by_cases h : k = j
    · subst h; simp
    · have h' : ¬ j = k := fun z => h z.symm
      simp [h, h']
theorem kyD_lay {k : Ky} (h : PyData.strOk k.1 = true) : (kyD k).canLay0 = true := by simp [kyD, PyData.canLay0, PyData.canLayAll0, h]
theorem kyD_depth (k : Ky) : (kyD k).depth = 1 := by simp [kyD, PyData.depth, PyData.depthAll]
theorem kyDs_lay : ∀ ks : List Ky, (∀ k ∈ ks, PyData.strOk k.1 = true) → PyData.canLayAll0 (ks.map kyD) = true
  | [], _ => by simp [PyData.canLayAll0]
  | k :: ks, h => by simp [PyData.canLayAll0, kyD_lay (h k List.mem_cons_self), kyDs_lay ks fun j hj => h j (List.mem_cons_of_mem _ hj)]
theorem kyDs_depth : ∀ ks : List Ky, PyData.depthAll (ks.map kyD) ≤ 1
  | [] => Nat.zero_le 1
  | k :: ks => by
    have h1 := kyDs_depth ks
    have h2 := kyD_depth k
    simp only [PyData.depthAll, List.map_cons]
    omega
theorem kyD_shaped {k : Ky} (h : PyData.strOk k.1 = true) : SeqAt.shaped (kyD k) = true := by
  show ((kyD k).canLay0 && decide ((kyD k).depth ≤ 64)) = true
  rw [Bool.and_eq_true]
  exact ⟨kyD_lay h, decide_eq_true (by rw [kyD_depth]; omega)⟩
theorem kyDs_shaped {ks : List Ky} (h : ∀ k ∈ ks, PyData.strOk k.1 = true) : SeqAt.shaped (.list (ks.map kyD)) = true := by
  have h2 : PyData.depth (.list (ks.map kyD)) ≤ 64 := by
    have := kyDs_depth ks
    simp only [PyData.depth]
    omega
  show (PyData.canLay0 (.list (ks.map kyD)) && decide (PyData.depth (.list (ks.map kyD)) ≤ 64)) = true
  rw [Bool.and_eq_true]
  exact ⟨by simp only [PyData.canLay0]; exact kyDs_lay ks h, decide_eq_true h2⟩
/-- a key in a list of keys -/
theorem s_inKy {K : PySem.W.Frag} {H : Hp} {Q : VK} {x : V} {l : Addr} {xs : List V} {k : Ky} {ks : List Ky} (ok : PyData.strOk k.1 = true) (oks : ∀ k ∈ ks, PyData.strOk k.1 = true) (hx : Fz H x (kyD k)) (hl : SqL K H l xs) (hf : FzA H xs (ks.map kyD)) (q : Q (.bl (decide (k ∈ ks))) H) : rInD K x (.ref l) H Q :=
  ⟨kyD k, ks.map kyD, hx.dp, .lst hl hf.dp, kyD_shaped ok, kyDs_shaped oks, by rw [any_ky]; exact q⟩
theorem s_notInKy {K : PySem.W.Frag} {H : Hp} {Q : VK} {x : V} {l : Addr} {xs : List V} {k : Ky} {ks : List Ky} (ok : PyData.strOk k.1 = true) (oks : ∀ k ∈ ks, PyData.strOk k.1 = true) (hx : Fz H x (kyD k)) (hl : SqL K H l xs) (hf : FzA H xs (ks.map kyD)) (q : Q (.bl (!decide (k ∈ ks))) H) : rNotInD K x (.ref l) H Q :=
  ⟨kyD k, ks.map kyD, hx.dp, .lst hl hf.dp, kyD_shaped ok, kyDs_shaped oks, by rw [any_ky]; exact q⟩
theorem wrote_ok {b : Bk} {k : Nat} {d : D} (B : BkOk b) (h : DOk b k d) : ∀ q ∈ wrote d, PyData.strOk q.1 = true := fun q hq => by
  obtain ⟨t, ht, rfl⟩ := List.mem_map.mp hq
  exact (h.tk t (List.mem_filter.mp ht).1).str B
end K28
/-! ## K28S -/
namespace K28
set_option maxHeartbeats 3900000
open L2 PySem PySem.Spec PyProof.Rows
/-! ### isinstance of a list that may be known -/
def rIsL (K : PySem.W.Frag) : List V → Hp → VK → Prop := fun xs H Q => ∃ (a : Addr) (zs : List V) (T : String) (b : Bool), xs = [.ref a, .ty T] ∧ SqL K H a zs ∧ PySem.W.kitOne K (.type "list") (.type T) = some b ∧ Q (.bl b) H
theorem call_isL {X : Cx} : CallR X (.builtin "isinstance") (rIsL X.K) := by
  intro pins s σ H xs us Q I rel h
  obtain ⟨a, zs, T, b, rfl, hl, e, q⟩ := h
  obtain ⟨u1, u2, rfl, r1, r2⟩ := vals2 rel
  obtain rfl : u1 = Value.ref a := r1
  obtain rfl : u2 = Value.type T := r2
  obtain ⟨its, rv, ⟨o, n, ho, hc, hd, hdt⟩, _⟩ := I.list hl
  exact PySem.W.kia_one PySem.W.kitx_list I.kIn ⟨o, ho, hc⟩ e (fun z => nomatch z) fun tk => ⟨.bl b, H, I.tok tk, rfl, q⟩
/-! ### readings, a step at a time -/
section
variable {K : PySem.W.Frag} {σ : L2.St} {H : Hp} {Q : VK} {D : Ends} {ta tb tc te tf : TE} {t u : TT} {ts ts' : TS} {r : R2} {i j : Nat} {v x y : V} {g : TG} {tA tB' : TA} {QA : List V → Hp → Prop} {QT : Bool → Hp → Prop} {QS : L2.St → Hp → Prop} {f m : Str} {a C dx : Addr} {fs : List (Str × V)} {b : Bool}
theorem s_seq (q : ts { D with nx := ts' D } σ H) : tSeq ts ts' D σ H := q
theorem s_nextq (q : D.nx σ H) : tNext D σ H := q
theorem s_ret (q : te σ H D.rt) : tRet te D σ H := q
theorem s_retN (q : D.rt .non H) : tRetN D σ H := q
theorem s_drop (q : te σ H fun _ H1 => D.nx σ H1) : tDrop te D σ H := q
theorem s_asg (q : te σ H fun x H1 => g x σ H1 D.nx) : tAsg te g D σ H := q
theorem s_gn (q : QS (σ.set i (some v)) H) : gName i v σ H QS := q
theorem s_var (h : σ[i]? = some (some v)) (q : Q v H) : tVar i σ H Q := ⟨v, h, q⟩
theorem s_c (q : Q v H) : tC v σ H Q := q
theorem s_op (q : ta σ H fun x H1 => tb σ H1 fun y H2 => r x y H2 Q) : tOp r ta tb σ H Q := q
theorem s_I0 {gg : Int → Int → V} {n k : Int} (q : Q (gg n k) H) : rI0 gg (.int n) (.int k) H Q := ⟨n, k, rfl, rfl, q⟩
theorem s_I {Cc : Int → Int → Prop} {gg : Int → Int → V} {n k : Int} (c : Cc n k) (q : Q (gg n k) H) : rI Cc gg (.int n) (.int k) H Q := ⟨n, k, rfl, rfl, c, q⟩
theorem s_eq (h : scal x y = true) (q : Q (.bl (decide (x = y))) H) : rEq x y H Q := ⟨h, q⟩
theorem s_ne (h : scal x y = true) (q : Q (.bl (!decide (x = y))) H) : rNe x y H Q := ⟨h, q⟩
theorem s_test (q : te σ H fun x H1 => ∃ k, x = .bl k ∧ QT k H1) : tTest te σ H QT := q
theorem s_tB (q : te σ H fun x H1 => ∃ k, x = .bl k ∧ QT k H1) : tB te σ H QT := q
theorem s_bl (q : QT b H) : ∃ k, V.bl b = .bl k ∧ QT k H := ⟨b, rfl, q⟩
theorem s_and (q : t σ H fun c H1 => if c = true then u σ H1 QT else QT false H1) : tAnd t u σ H QT := q
theorem s_or (q : t σ H fun c H1 => if c = true then QT true H1 else u σ H1 QT) : tOr t u σ H QT := q
theorem s_not (q : t σ H fun c H1 => QT (!c) H1) : tNot t σ H QT := q
theorem s_andV (q : ta σ H fun x H1 => ∃ c, x = .bl c ∧ if c = true then tb σ H1 Q else Q (.bl false) H1) : tAndV ta tb σ H Q := q
theorem s_orV (q : ta σ H fun x H1 => ∃ c, x = .bl c ∧ if c = true then Q (.bl true) H1 else tb σ H1 Q) : tOrV ta tb σ H Q := q
theorem s_notV (q : ta σ H fun x H1 => ∃ c, x = .bl c ∧ Q (.bl (!c)) H1) : tNotV ta σ H Q := q
theorem s_blP {P : Bool → Prop} (q : P b) : ∃ k, V.bl b = .bl k ∧ P k := ⟨b, rfl, q⟩
theorem s_ifS (q : t σ H fun b H1 => if b = true then ts D σ H1 else ts' D σ H1) : tIfS t ts ts' D σ H := q
theorem s_nil (q : QA [] H) : tNil σ H QA := q
theorem s_cons (q : ta σ H fun x H1 => tA σ H1 fun xs H2 => QA (x :: xs) H2) : tCons ta tA σ H QA := q
theorem s_cb {rr : List V → Hp → VK → Prop} (q : tA σ H fun vs H1 => rr vs H1 Q) : tCB rr tA σ H Q := q
theorem s_call {sp : Sp} {E : XK} (q : tA σ H fun vs H1 => sp vs H1 Q E) : tCall sp [] E tA σ H Q := by
  show tA σ H fun vs H1 => sp (vs ++ []) H1 Q E
  simpa using q
def TupR (Q : VK) (xs : List V) (H1 : Hp) : Prop := xs.length ≤ sizeLine ∧ ∀ p, H1 p = none → Q (.ref p) (upd H1 p (.tup xs))
def LstR (Q : VK) (xs : List V) (H1 : Hp) : Prop := xs.length ≤ sizeLine ∧ ∀ p, H1 p = none → Q (.ref p) (upd H1 p (.lst xs))
def FrzR (Q : VK) (v : V) (H1 : Hp) : Prop := ∃ (a : Addr) (u : HO), v = .ref a ∧ H1 a = some u ∧ L2.Mut (some u) ∧ ∀ o, Q v (upd H1 a (.frz o u))
theorem s_tup (q : tA σ H fun xs H1 => TupR Q xs H1) : tTup tA σ H Q := q
theorem s_lst (q : tA σ H fun xs H1 => LstR Q xs H1) : tLst tA σ H Q := q
theorem s_isN (q : ta σ H fun x H1 => Q (.bl (decide (x = .non))) H1) : tIsN ta σ H Q := q
theorem s_notN (q : ta σ H fun x H1 => Q (.bl (!decide (x = .non))) H1) : tNotN ta σ H Q := q
theorem s_un {ru : V → Hp → VK → Prop} (q : ta σ H fun x H1 => ru x H1 Q) : tUn ru ta σ H Q := q
theorem s_U {gg : Int → V} {n : Int} (q : Q (gg n) H) : rU gg (.int n) H Q := ⟨n, rfl, q⟩
/-- reading a field -/
def FldR (K : PySem.W.Frag) (f : Str) (x : V) (H : Hp) (Q : VK) : Prop := ∃ a C dx fs v, x = .ref a ∧ H a = some (.ins C dx fs) ∧ Cls K C ∧ NoAttr K C f ∧ fs.lookup f = some v ∧ Q v H
theorem s_fld (q : ta σ H fun x H1 => FldR K f x H1 Q) : tFld K ta f σ H Q := q
theorem s_FldR (h : H a = some (.ins C dx fs)) (c : Cls K C) (n : NoAttr K C f) (l : fs.lookup f = some v) (q : Q v H) : FldR K f (.ref a) H Q := ⟨a, C, dx, fs, v, rfl, h, c, n, l, q⟩
def PutR (K : PySem.W.Frag) (f : Str) (y x : V) (H : Hp) (P : Hp → Prop) : Prop := ∃ a C dx fs, x = .ref a ∧ H a = some (.ins C dx fs) ∧ Cls K C ∧ NoAttr K C f ∧ fs.length < 1000 ∧ P (upd H a (.ins C dx (putF f y fs)))
theorem s_put {tv : TE} (q : tv σ H fun y H1 => ta σ H1 fun x H2 => PutR K f y x H2 (D.nx σ)) : sFld K ta tv f D σ H := q
theorem s_PutR {P : Hp → Prop} (h : H a = some (.ins C dx fs)) (c : Cls K C) (n : NoAttr K C f) (l : fs.length < 1000) (q : P (upd H a (.ins C dx (putF f y fs)))) : PutR K f y (.ref a) H P := ⟨a, C, dx, fs, rfl, h, c, n, l, q⟩
def MethR (C : Addr) (m : Str) (sp : Sp) (E : XK) (σ : L2.St) (tA : TA) (x : V) (H : Hp) (Q : VK) : Prop := ∃ a dx fs, x = .ref a ∧ H a = some (.ins C dx fs) ∧ fs.lookup m = none ∧ tA σ H fun vs H2 => sp (x :: (vs ++ [])) H2 Q E
theorem s_meth {sp : Sp} {E : XK} (q : ta σ H fun x H1 => MethR C m sp E σ tA x H1 Q) : tMeth C m sp [] E ta tA σ H Q := q
theorem s_MethR {sp : Sp} {E : XK} (h : H a = some (.ins C dx fs)) (l : fs.lookup m = none) (q : tA σ H fun vs H2 => sp (.ref a :: vs) H2 Q E) : MethR C m sp E σ tA (.ref a) H Q := ⟨a, dx, fs, rfl, h, l, by simpa using q⟩
def IsiR (K : PySem.W.Frag) (H : Hp) (Q : VK) (x c : V) : Prop := rIsi K [x, c] H Q
theorem s_isi {c : V} {tt : Value} {cu : Value} (k : ClsV c cu) (ty : TyX K H x tt) (e : PySem.W.kitOne K tt cu = some b) (q : Q (.bl b) H) : rIsi K [x, c] H Q := ⟨x, c, tt, cu, b, rfl, k, ty, e, q⟩
theorem s_isB {A B : String} (r : Bool) (ty : TyX K H x (.type A)) (e : kitB A B = some r) (q : Q (.bl r) H) : rIsi K [x, .ty B] H Q := s_isi (.ty B) ty (kit_ty e) q
theorem s_ixT {p : Addr} {xs : List V} {n : Int} (h : SqT K H p xs) (e : atI xs n = some v) (q : Q v H) : rIxT K (.ref p) (.int n) H Q := ⟨p, xs, n, v, rfl, rfl, h, e, q⟩
theorem s_ixL {p : Addr} {xs : List V} {n : Int} (h : SqL K H p xs) (e : atI xs n = some v) (q : Q v H) : rIxL K (.ref p) (.int n) H Q := ⟨p, xs, n, v, rfl, rfl, h, e, q⟩
theorem s_gt {n : Nat} {gs : TGs} {p : Addr} {xs : List V} (h : SqT K H p xs) (l : xs.length = n) (q : gs xs σ H QS) : gTup K n gs (.ref p) σ H QS := ⟨p, xs, rfl, h, l, q⟩
theorem s_gc {gs : TGs} {vs : List V} (q : g v σ H fun σ' H' => gs vs σ' H' QS) : gCons g gs (v :: vs) σ H QS := ⟨v, vs, rfl, q⟩
theorem s_g0 (q : QS σ H) : gNil [] σ H QS := ⟨rfl, q⟩
theorem s_frz (q : te σ H fun v H1 => FrzR Q v H1) : tFrz te σ H Q := q
theorem s_bm {T : String} {rr : V → List V → Hp → VK → Prop} (q : ta σ H fun x H1 => tyV K T x H1 ∧ tA σ H1 fun xs H2 => rr x xs H2 Q) : tBM K T rr ta tA σ H Q := q
theorem s_bm0 {T : String} {rr : V → List V → Hp → VK → Prop} (q : ta σ H fun x H1 => tyV K T x H1 ∧ rr x [] H1 Q) : tBM0 K T rr ta σ H Q := q
theorem s_tyL {l : Addr} {xs : List V} (h : H l = some (.lst xs)) : tyV K "list" (.ref l) H := .inl ⟨rfl, xs, SqL.of h⟩
theorem s_app {l : Addr} {xs : List V} (h : H l = some (.lst xs)) (z : xs.length < 1000000) (q : Q .non (upd H l (.lst (xs ++ [y])))) : rAppend (.ref l) [y] H Q := ⟨l, xs, y, rfl, rfl, h, Nat.lt_of_lt_of_le z (by decide), q⟩
def LcR (g : TG) (tt : TT) (te : TE) (vs : List Nat) (σ : L2.St) (Q : VK) (J : It) (H1 : Hp) : Prop := tLc (fun _ H R => R J H) g tt te vs σ H1 Q
theorem s_lc {wi : TI} {vs : List Nat} (q : wi σ H fun J H1 => LcR g t te vs σ Q J H1) : tLc wi g t te vs σ H Q := q
def ForR (g : TG) (tb : TS) (D : Ends) (σ : L2.St) (J : It) (H1 : Hp) : Prop := tFor (fun _ H R => R J H) g tb D σ H1
theorem s_for {wi : TI} (q : wi σ H fun J H1 => ForR g ts D σ J H1) : tFor wi g ts D σ H := q
def IlR (K : PySem.W.Frag) (R : It → Hp → Prop) (x : V) (H1 : Hp) : Prop := ∃ a, x = .ref a ∧ (∃ xs, SqL K H1 a xs) ∧ R (Itl K a) H1
theorem s_iL {R : It → Hp → Prop} (q : ta σ H fun x H1 => IlR K R x H1) : iList K ta σ H R := q
theorem s_IlR {R : It → Hp → Prop} {xs : List V} (h : SqL K H a xs) (q : R (Itl K a) H) : IlR K R (.ref a) H := ⟨a, rfl, ⟨xs, h⟩, q⟩
def IeR (K : PySem.W.Frag) (R : It → Hp → Prop) (vs : List V) (H1 : Hp) : Prop := ∃ a xs, vs = [V.ref a] ∧ SqL K H1 a xs ∧ R (Ite K a) H1
theorem s_iE {R : It → Hp → Prop} (q : tA σ H fun vs H1 => IeR K R vs H1) : iEnum K tA σ H R := q
theorem s_IeR {R : It → Hp → Prop} {xs : List V} (h : SqL K H a xs) (q : R (Ite K a) H) : IeR K R [.ref a] H := ⟨a, xs, rfl, h, q⟩
def Ir1R (R : It → Hp → Prop) (vs : List V) (H1 : Hp) : Prop := ∃ j : Int, vs = [.int j] ∧ -(2 ^ 62) ≤ j ∧ j < 2 ^ 62 ∧ R (Itr 0 j.toNat) H1
theorem s_iR1 {R : It → Hp → Prop} (q : tA σ H fun vs H1 => Ir1R R vs H1) : iRng1 tA σ H R := q
theorem s_Ir1R {R : It → Hp → Prop} {n : Int} (h0 : 0 ≤ n) (h1 : n ≤ 1000000) (q : R (Itr 0 n.toNat) H) : Ir1R R [.int n] H := ⟨n, rfl, by omega, by omega, q⟩
def Ir2R (R : It → Hp → Prop) (vs : List V) (H1 : Hp) : Prop := ∃ i j : Int, vs = [.int i, .int j] ∧ (-(2 ^ 62) ≤ i ∧ i < 2 ^ 62 ∧ -(2 ^ 62) ≤ j ∧ j < 2 ^ 62) ∧ R (Itr i (j - i).toNat) H1
theorem s_iR2 {R : It → Hp → Prop} (q : tA σ H fun vs H1 => Ir2R R vs H1) : iRng2 tA σ H R := q
theorem s_Ir2R {R : It → Hp → Prop} {m n : Int} (h0 : 0 ≤ m) (h1 : m ≤ 1000000) (h2 : 0 ≤ n) (h3 : n ≤ 1000000) (q : R (Itr m (n - m).toNat) H) : Ir2R R [.int m, .int n] H := ⟨m, n, rfl, ⟨by omega, by omega, by omega, by omega⟩, q⟩
theorem s_yes (q : QT true H) : tYes σ H QT := q
theorem s_iff {A B : Prop} (h : B) : if false = true then A else B := iteF h
theorem s_ifnt {A B : Prop} (h : B) : if (!true) = true then A else B := iteF h
theorem s_ifnf {A B : Prop} (h : A) : if (!false) = true then A else B := iteT h
theorem s_ift {A B : Prop} (h : A) : if true = true then A else B := iteT h
end
end K28
/-! ## K28L -/
namespace K28
set_option maxHeartbeats 3900000
open L2 LamX PySem PySem.Spec PyProof.Rows
theorem Fr.sqL {K : PySem.W.Frag} {T : List (Addr × Str)} {H H' : Hp} {fp fp1 : List Addr} {a : Addr} {xs : List V} (x : Fr T fp H H' fp1) (h : SqL K H a xs) (n : a ∉ fp) : SqL K H' a xs := by
  obtain (h | ⟨o, h⟩) | h := h
  · exact .inl (.inl (x.get h n trivial))
  · exact .inl (.inr ⟨o, x.getI h trivial⟩)
  · exact .inr h
theorem Fr.frz {T : List (Addr × Str)} {H H' : Hp} {fp fp1 : List Addr} {a : Addr} {o : Obj} {u : HO} (x : Fr T fp H H' fp1) (h : H a = some (.frz o u)) : H' a = some (.frz o u) := x.getI h trivial
theorem Fr.tup {T : List (Addr × Str)} {H H' : Hp} {fp fp1 : List Addr} {a : Addr} {xs : List V} (x : Fr T fp H H' fp1) (h : H a = some (.tup xs)) : H' a = some (.tup xs) := x.getI h trivial
/-- a comprehension over a list; its items are known data; fp may change -/
theorem lc_fz {K : PySem.W.Frag} {T : List (Addr × Str)} {a : Addr} {xs : List V} {g : TG} {tt : TT} {te : TE} {vs : List Nat} {σ : L2.St} {H1 : Hp} {D : Addr} {Qd : Hp → Prop} (fp : List Addr) (J : Nat → Hp → Prop) (out : Nat → List PyData)
    (hD : H1 D = none) (hfp : ∀ b ∈ fp, H1 b ≠ none) (j0 : J 0 H1) (o0 : out 0 = []) (hJ : ∀ i H' o, J i H' → H' D ≠ none → J i (upd H' D o)) (hJ0 : J 0 H1 → J 0 (upd H1 D (.lst [])))
    (hl : ∀ i H', J i H' → Fr T fp H1 H' fp → SqL K H' a xs) (sz : ∀ i, (out i).length < 1000000)
    (hs : ∀ i x H', xs[i]? = some x → J i H' → Fr T fp H1 H' fp → ∀ (Y : VK) (N : Hp → Prop), (∀ y H4 d, Fr T fp H' H4 fp → out (i + 1) = out i ++ [d] → Fz H4 y d → J (i + 1) H4 → Y y H4) → (∀ H3, Fr T fp H' H3 fp → out (i + 1) = out i → J (i + 1) H3 → N H3) →
      g x (wipe σ vs) H' fun σ2 H2 => wipe σ2 vs = wipe σ vs ∧ tt σ2 H2 fun b H3 => if b = true then te σ2 H3 Y else N H3)
    (hd : ∀ H' acc, J xs.length H' → Fr T fp H1 H' fp → H' D = some (.lst acc) → FzA H' acc (out xs.length) → Qd H') :
    ∃ U : Nat → Nat → Hp → Prop, (∃ n, U 0 n (upd H1 D (.lst []))) ∧ ∀ i n H, U i n H →
      ((Itl K a).stop i H ∧ Qd H) ∨ ((Itl K a).go i H ∧ ∃ Nx : Hp → Prop, (∀ H', Nx H' → ∃ n', n' < n ∧ U (i + 1) n' H') ∧ ∀ x H', (Itl K a).yld i H x H' → g x (wipe σ vs) H' fun σ2 H2 => wipe σ2 vs = wipe σ vs ∧ tt σ2 H2 fun b H3 =>
        if b = true then te σ2 H3 fun y H4 => ∃ ys, H4 D = some (.lst ys) ∧ ys.length < sizeLine ∧ Nx (upd H4 D (.lst (ys ++ [y]))) else Nx H3) := by
  have nD : D ∉ fp := fun z => hfp D z hD
  refine lc_list (K := K) (a := a) (xs := xs) (fun i H' => J i H' ∧ Fr T fp H1 H' fp ∧ ∃ acc, H' D = some (.lst acc) ∧ FzA H' acc (out i)) ⟨hJ0 j0, Fr.fresh hD, [], upd_same, by rw [o0]; exact .nil⟩ (fun i H' _ ⟨j, f, _⟩ => hl i H' j f) ?_ ?_
  · rintro i x H' hx ⟨j, f, acc, hacc, hz⟩
    refine hs i x H' hx j f _ _ (fun y H4 d f4 e hy j4 => ?_) fun H3 f4 e j4 => ⟨j4, f.trans f4, acc, f4.get hacc nD trivial, by rw [e]; exact f4.fza hz⟩
    have hD4 : H4 D = some (.lst acc) := f4.get hacc nD trivial
    have f5 : Fr T (D :: fp) H4 (upd H4 D (.lst (acc ++ [y]))) (D :: fp) := Fr.mut hD4 trivial List.mem_cons_self
    refine ⟨acc, hD4, ?_, hJ _ _ _ j4 (by rw [hD4]; simp), ?_, acc ++ [y], upd_same, ?_⟩
    · rw [hz.length]
      exact Nat.lt_of_lt_of_le (sz i) (by decide)
    · have f6 : Fr T fp H1 H4 fp := f.trans f4
      refine ⟨f6.imm.trans f5.imm, fun b o eb nb nt => ?_, fun b e => f6.dom b (f5.dom b e), fun b z => .inl z, fun t => f5.tab (f6.tab t)⟩
      rw [upd_ne (ne_of_none eb hD)]
      exact f6.out b o eb nb nt
    · rw [e]
      exact ((f5.fza (f4.fza hz))).snoc (f5.fz hy)
  · rintro H' ⟨j, f, acc, hacc, hz⟩
    exact hd H' acc j f hacc hz
theorem lcF {K : PySem.W.Frag} {T : List (Addr × Str)} {a : Addr} {xs : List V} {g : TG} {tt : TT} {te : TE} {vs : List Nat} {σ : L2.St} {H1 : Hp} {Q : VK} (fp : List Addr) (J : Nat → Hp → Prop) (out : Nat → List PyData)
    (hfp : ∀ b ∈ fp, H1 b ≠ none) (j0 : J 0 H1) (o0 : out 0 = []) (hJ : ∀ D i H' o, H1 D = none → J i H' → J i (upd H' D o))
    (hl : ∀ i H', J i H' → Fr T fp H1 H' fp → SqL K H' a xs) (sz : ∀ i, (out i).length < 1000000)
    (hs : ∀ i x H', xs[i]? = some x → J i H' → Fr T fp H1 H' fp → ∀ (Y : VK) (N : Hp → Prop), (∀ y H4 d, Fr T fp H' H4 fp → out (i + 1) = out i ++ [d] → Fz H4 y d → J (i + 1) H4 → Y y H4) → (∀ H3, Fr T fp H' H3 fp → out (i + 1) = out i → J (i + 1) H3 → N H3) →
      g x (wipe σ vs) H' fun σ2 H2 => wipe σ2 vs = wipe σ vs ∧ tt σ2 H2 fun b H3 => if b = true then te σ2 H3 Y else N H3)
    (hd : ∀ D H' acc, H1 D = none → J xs.length H' → Fr T fp H1 H' fp → H' D = some (.lst acc) → FzA H' acc (out xs.length) → Q (.ref D) H') : LcR g tt te vs σ Q (Itl K a) H1 := fun D hD =>
  lc_fz fp J out hD hfp j0 o0 (fun i H' o j _ => hJ D i H' o hD j) (fun j => hJ D 0 H1 _ hD j) hl sz hs (fun H' acc => hd D H' acc hD)
section
theorem nodup_key {α β : Type} : ∀ {l : List (α × β)}, (l.map (·.1)).Nodup → ∀ {p q : α × β}, p ∈ l → q ∈ l → p.1 = q.1 → p = q
  | [], _, _, _, h, _, _ => nomatch h
  | a :: l, nd, p, q, hp, hq, e => by
    replace nd := List.nodup_cons.mp nd
    obtain e1 | hp2 := List.mem_cons.mp hp
    · obtain e2 | hq2 := List.mem_cons.mp hq
      · rw [e1, e2]
      · exact (nd.1 (List.mem_map.mpr ⟨q, hq2, by rw [← e, e1]⟩)).elim
    · obtain e2 | hq2 := List.mem_cons.mp hq
      · exact (nd.1 (List.mem_map.mpr ⟨p, hp2, by rw [e, e2]⟩)).elim
      · exact nodup_key nd.2 hp2 hq2 e
/-- keys of a list of pairs made a dict -/
theorem merge_val : ∀ (kvs acc : List (Key × V)) (k : Key), valV (mergeK acc kvs) k = (kvs.reverse.find? fun kv => decide (kv.1 = k)).elim (valV acc k) (fun kv => some kv.2)
  | [], acc, k => rfl
  | kv :: r, acc, k => by
    show valV (mergeK (putK acc kv.1 kv.2) r) k = _
    rw [merge_val r, List.reverse_cons, List.find?_append]
    cases h : r.reverse.find? fun kv => decide (kv.1 = k) with
    | some z => rfl
    | none =>
      show valV (putK acc kv.1 kv.2) k = _
      rw [valV_put]
      by_cases e : k = kv.1
      · subst e; simp
      · have e' : ¬ kv.1 = k := fun z => e z.symm
        simp [e, e']
theorem merge_nd {kvs : List (Key × V)} {k : Key} {v : V} (nd : (kvs.map (·.1)).Nodup) (h : (k, v) ∈ kvs) : valV (mergeK [] kvs) k = some v := by
  rw [merge_val]
  cases e : kvs.reverse.find? fun kv => decide (kv.1 = k) with
  | none =>
    have := List.find?_eq_none.mp e (k, v) (List.mem_reverse.mpr h)
    simp at this
  | some z =>
    have h1 : z.1 = k := by simpa using List.find?_some e
    have h2 : z ∈ kvs := List.mem_reverse.mp (List.mem_of_find?_eq_some e)
    have : z = (k, v) := nodup_key nd h2 h h1
    rw [this]; rfl
end
end K28
/-! ## K28U -/
namespace K28
set_option maxHeartbeats 3900000
open L2 LamX PySem PySem.Spec PyProof.Rows
/-- a new object -/
structure Nw (H H' : Hp) (l : Addr) (u : HO) : Prop where
  no : H l = none
  eq : H' = upd H l u
section
variable {T : List (Addr × Str)} {H H' H1 : Hp} {l b : Addr} {u o : HO} {fp : List Addr} {Q : VK} {K : PySem.W.Frag}
theorem Nw.at (n : Nw H H' l u) : H' l = some u := by rw [n.eq]; exact upd_same
theorem Nw.fr (n : Nw H H' l u) : Fr T fp H H' fp := by rw [n.eq]; exact Fr.fresh n.no
theorem Nw.fr' (n : Nw H H' l u) : Fr T fp H H' (l :: fp) := by rw [n.eq]; exact Fr.new' n.no
theorem Nw.old (n : Nw H H' l u) (h : H b = some o) : H' b = some o := by rw [n.eq, upd_ne (ne_of_none h n.no)]; exact h
theorem Nw.ne (n : Nw H H' l u) (h : H b = some o) : b ≠ l := ne_of_none h n.no
theorem Nw.fz {v : V} {d : PyData} (n : Nw H H' l u) (h : Fz H v d) : Fz H' v d := (n.fr (T := []) (fp := [])).fz h
theorem nw_of (h : H l = none) : Nw H (upd H l u) l u := ⟨h, rfl⟩
/-- an object changed -/
structure Ch (H H' : Hp) (l : Addr) (u : HO) : Prop where
  eq : H' = upd H l u
theorem Ch.at (n : Ch H H' l u) : H' l = some u := by rw [n.eq]; exact upd_same
theorem Ch.old (n : Ch H H' l u) (h : H b = some o) (d : b ≠ l) : H' b = some o := by rw [n.eq, upd_ne d]; exact h
theorem Ch.fr (n : Ch H H' l u) (h : H l = some o) (m : Mtb o) (hf : l ∈ fp) : Fr T fp H H' fp := by rw [n.eq]; exact Fr.mut h m hf
/-! ### the rules by names -/
variable {X : Cx}
def rLenQ (K : PySem.W.Frag) : List V → Hp → VK → Prop := fun xs H Q => ∃ p ys, xs = [.ref p] ∧ (SqL K H p ys ∨ SqT K H p ys) ∧ Q (.int ys.length) H
theorem call_lenQ : CallR X (.builtin "len") (rLenQ X.K) := call_len_seq
theorem s_lenL {p : Addr} {ys : List V} (h : SqL K H p ys) (q : Q (.int ys.length) H) : rLenQ K [.ref p] H Q := ⟨p, ys, rfl, .inl h, q⟩
theorem s_lenT {p : Addr} {ys : List V} (h : SqT K H p ys) (q : Q (.int ys.length) H) : rLenQ K [.ref p] H Q := ⟨p, ys, rfl, .inr h, q⟩
def rLenZ : List V → Hp → VK → Prop := fun xs H Q => ∃ z, xs = [.str z] ∧ z.length ≤ sizeLine ∧ Q (.int z.length) H
theorem call_lenZ : CallR X (.builtin "len") rLenZ := call_len_str
theorem s_lenZ {z : Str} (h : z.length ≤ 1000000) (q : Q (.int z.length) H) : rLenZ [.str z] H Q := ⟨z, rfl, Nat.le_trans h (by decide), q⟩
def rListQ (K : PySem.W.Frag) : List V → Hp → VK → Prop := fun xs H Q => ∃ p ys, xs = [.ref p] ∧ (SqL K H p ys ∨ SqT K H p ys) ∧ ∀ l, H l = none → Q (.ref l) (upd H l (.lst ys))
theorem call_listQ : CallR X (.type "list") (rListQ X.K) := call_list_of
theorem s_list {p : Addr} {ys : List V} (h : SqL K H p ys) (q : ∀ l H', Nw H H' l (.lst ys) → Q (.ref l) H') : rListQ K [.ref p] H Q := ⟨p, ys, rfl, .inl h, fun l hl => q l _ (nw_of hl)⟩
def rTupQ (K : PySem.W.Frag) : List V → Hp → VK → Prop := fun xs H Q => ∃ p ys, xs = [.ref p] ∧ ((SqL K H p ys ∧ ∀ l, H l = none → Q (.ref l) (upd H l (.tup ys))) ∨ (SqT K H p ys ∧ Q (.ref p) H))
theorem call_tupQ : CallR X (.type "tuple") (rTupQ X.K) := call_tuple_of
theorem s_tupleL {p : Addr} {ys : List V} (h : SqL K H p ys) (q : ∀ l H', Nw H H' l (.tup ys) → Q (.ref l) H') : rTupQ K [.ref p] H Q := ⟨p, ys, rfl, .inl ⟨h, fun l hl => q l _ (nw_of hl)⟩⟩
def rDictQ (K : PySem.W.Frag) : List V → Hp → VK → Prop := fun xs H Q => ∃ (a : Addr) (ps : List Addr) (kvs : List (Key × V)), xs = [.ref a] ∧ SqL K H a (ps.map V.ref) ∧ Paired (fun p kv => SqT K H p [kV kv.1, kv.2]) ps kvs ∧ ∀ p, H p = none → Q (.ref p) (upd H p (.dK (mergeK [] kvs)))
theorem call_dictQ (hc : X.calm = true) : CallR X (.type "dict") (rDictQ X.K) := call_dictP hc
def rIntQ : List V → Hp → VK → Prop := fun xs H Q => (∃ i, xs = [.int i] ∧ Q (.int i) H) ∨ ∃ k, xs = [.bl k] ∧ Q (.int (if k then 1 else 0)) H
theorem call_intQ : CallR X (.type "int") rIntQ := call_int1
theorem s_intB {b : Bool} (q : Q (.int (if b then 1 else 0)) H) : rIntQ [.bl b] H Q := .inr ⟨b, rfl, q⟩
def rMaxQ : List V → Hp → VK → Prop := fun xs H Q => ∃ i j, xs = [.int i, .int j] ∧ Q (.int (if j > i then j else i)) H
theorem call_maxQ (hc : X.calm = true) : CallR X (.builtin "max") rMaxQ := call_max2 hc
theorem s_max2 {i j : Int} (q : Q (.int (if j > i then j else i)) H) : rMaxQ [.int i, .int j] H Q := ⟨i, j, rfl, q⟩
def rMinQ : List V → Hp → VK → Prop := fun xs H Q => ∃ i j, xs = [.int i, .int j] ∧ Q (.int (if j < i then j else i)) H
theorem call_minQ (hc : X.calm = true) : CallR X (.builtin "min") rMinQ := call_min2 hc
theorem s_min2 {i j : Int} (q : Q (.int (if j < i then j else i)) H) : rMinQ [.int i, .int j] H Q := ⟨i, j, rfl, q⟩
def rCatZ : R2 := fun x y H Q => ∃ i j, x = .str i ∧ y = .str j ∧ i.length + j.length ≤ sizeLine ∧ Q (.str (i ++ j)) H
theorem op_catZ : OpR X (binaryOp .Add) rCatZ := op_add_str
/-- a list, a tuple of written items -/
theorem s_newL {xs : List V} (z : xs.length ≤ 1000000) (q : ∀ l H', Nw H H' l (.lst xs) → Q (.ref l) H') : LstR Q xs H := ⟨Nat.le_trans z (by decide), fun l hl => q l _ (nw_of hl)⟩
theorem s_newT {xs : List V} (z : xs.length ≤ 1000000) (q : ∀ l H', Nw H H' l (.tup xs) → Q (.ref l) H') : TupR Q xs H := ⟨Nat.le_trans z (by decide), fun l hl => q l _ (nw_of hl)⟩
/-- frozen at once; frozen later -/
theorem s_frzN (n : Nw H H1 l u) (m : L2.Mut (some u)) (q : ∀ o H', Nw H H' l (.frz o u) → Q (.ref l) H') : FrzR Q (.ref l) H1 := by
  refine ⟨l, u, rfl, n.at, m, fun o => q o _ ⟨n.no, ?_⟩⟩
  rw [n.eq]
  funext b
  by_cases e : b = l
  · rw [e, upd_same, upd_same]
  · rw [upd_ne e, upd_ne e, upd_ne e]
theorem s_frzM (h : H l = some u) (m : L2.Mut (some u)) (q : ∀ o H', Ch H H' l (.frz o u) → Q (.ref l) H') : FrzR Q (.ref l) H := ⟨l, u, rfl, h, m, fun o => q o _ ⟨rfl⟩⟩
theorem s_appC {y : V} {xs : List V} (h : H l = some (.lst xs)) (z : xs.length < 1000000) (q : ∀ H', Ch H H' l (.lst (xs ++ [y])) → Q .non H') : rAppend (.ref l) [y] H Q := s_app h z (q _ ⟨rfl⟩)
theorem s_popC {y : V} {xs : List V} (h : H l = some (.lst xs)) (e : xs[xs.length - 1]? = some y) (q : ∀ H', Ch H H' l (.lst xs.dropLast) → Q y H') : rPop (.ref l) [] H Q := ⟨l, xs, y, rfl, rfl, h, e, q _ ⟨rfl⟩⟩
/-- an item of known data -/
theorem atI_lit0 {α : Type} {x : α} {r : List α} : atI (x :: r) 0 = some x := atI_nat (j := 0) rfl
theorem atI_lit1 {α : Type} {x y : α} {r : List α} : atI (x :: y :: r) 1 = some y := atI_nat (j := 1) rfl
theorem atI_lit2 {α : Type} {x y z : α} {r : List α} : atI (x :: y :: z :: r) 2 = some z := atI_nat (j := 2) rfl
/-! ### dicts -/
theorem s_dnew {σ : L2.St} (q : ∀ l H', Nw H H' l (.dK []) → Q (.ref l) H') : tDNewK σ H Q := fun l hl => q l _ (nw_of hl)
def DputR (v x y : V) (H3 : Hp) (P : Hp → Prop) : Prop := ∃ a H4, x = .ref a ∧ DPut H3 a y v H4 ∧ P H4
theorem s_dput {σ : L2.St} {D : Ends} {td ty tv : TE} (q : tv σ H fun v H1 => td σ H1 fun x H2 => ty σ H2 fun y H3 => DputR v x y H3 (D.nx σ)) : sDPut td ty tv D σ H := q
theorem s_DputS {a : Addr} {kvs : List (Key × V)} {s : Str} {v : V} {P : Hp → Prop} (h : H a = some (.dK kvs)) (z : kvs.length < 1000000) (q : ∀ H', Ch H H' a (.dK (putK kvs (.inr s) v)) → P H') : DputR v (.ref a) (.str s) H P :=
  ⟨a, _, rfl, DPut.k (k := Sum.inr s) h (Nat.lt_of_lt_of_le z (by decide)), q _ ⟨rfl⟩⟩
def DgetR (x y : V) (H2 : Hp) (Q : VK) : Prop := ∃ a v, x = .ref a ∧ DGet H2 a y (some v) ∧ Q v H2
theorem s_dget {σ : L2.St} {td ty : TE} (q : td σ H fun x H1 => ty σ H1 fun y H2 => DgetR x y H2 Q) : tDGet td ty σ H Q := q
theorem s_DgetS {a : Addr} {kvs : List (Key × V)} {s : Str} {v : V} (h : Rd H a (.dK kvs)) (e : valV kvs (.inr s) = some v) (q : Q v H) : DgetR (.ref a) (.str s) H Q :=
  ⟨a, v, rfl, .inl ⟨kvs, Sum.inr s, h, rfl, e.symm⟩, q⟩
def DinR (y x : V) (H2 : Hp) (Q : VK) : Prop := ∃ a o, x = .ref a ∧ DGet H2 a y o ∧ Q (.bl o.isSome) H2
theorem s_din {σ : L2.St} {td ty : TE} (q : ty σ H fun y H1 => td σ H1 fun x H2 => DinR y x H2 Q) : tDIn ty td σ H Q := q
theorem s_DinS {a : Addr} {kvs : List (Key × V)} {s : Str} (h : Rd H a (.dK kvs)) (q : Q (.bl (valV kvs (.inr s)).isSome) H) : DinR (.str s) (.ref a) H Q :=
  ⟨a, valV kvs (.inr s), rfl, .inl ⟨kvs, Sum.inr s, h, rfl, rfl⟩, q⟩
theorem s_PutC {K : PySem.W.Frag} {f : Str} {y : V} {a C dx : Addr} {fs fs' : List (Str × V)} {P : Hp → Prop} (h : H a = some (.ins C dx fs)) (c : Cls K C) (n : NoAttr K C f) (e : putF f y fs = fs') (l : fs.length < 1000) (q : ∀ H', Ch H H' a (.ins C dx fs') → P H') : PutR K f y (.ref a) H P :=
  s_PutR h c n l (by rw [e]; exact q _ ⟨rfl⟩)
def DzR (K : PySem.W.Frag) (Q : VK) (vs : List V) (H1 : Hp) : Prop := ∃ (a b : Addr) (ks : List Key) (ys : List V), vs = [.ref a, .ref b] ∧ SqL K H1 a (ks.map kV) ∧ SqL K H1 b ys ∧ ks.length = ys.length ∧ ∀ p, H1 p = none → Q (.ref p) (upd H1 p (.dK (mergeK [] (ks.zip ys))))
theorem s_dz {σ : L2.St} {ta : TA} (q : ta σ H fun vs H1 => DzR K Q vs H1) : tDZip K ta σ H Q := q
theorem s_DzR {a b : Addr} {ks : List Key} {ys : List V} (ha : SqL K H a (ks.map kV)) (hb : SqL K H b ys) (l : ks.length = ys.length) (q : ∀ p H', Nw H H' p (.dK (mergeK [] (ks.zip ys))) → Q (.ref p) H') : DzR K Q [.ref a, .ref b] H := ⟨a, b, ks, ys, rfl, ha, hb, l, fun p hp => q p _ (nw_of hp)⟩
theorem s_chain {σ : L2.St} {r r' : R2} {ta tb tc : TE} (q : ta σ H fun x H1 => tb σ H1 fun y H2 => r x y H2 fun z H3 => ∃ k, z = .bl k ∧ (if k = true then tc σ H3 fun w' H4 => r' y w' H4 Q else Q (.bl false) H3)) : tChain r r' ta tb tc σ H Q := q
def rJoinQ (K : PySem.W.Frag) : V → List V → Hp → VK → Prop := fun x xs H Q => ∃ a p, ∃ ys : List Str, x = .str a ∧ xs = [.ref p] ∧ (SqL K H p (ys.map V.str) ∨ SqT K H p (ys.map V.str)) ∧ (ys.map (·.length)).sum + ys.length * a.length ≤ 16777216 ∧ Q (.str (Txt.join a ys)) H
theorem pe_joinQ {o e : Expr} {to te : TE} {apos pos : Pos} (hs : starEach [e] X.env = [(false, eval e X.env)]) (hbase : attributeBase o "join" X.env (eval o X.env) = eval o X.env) (hline : (apos.endLine == pos.line) = true) (ho : PE X o to) (he : PE X e te) :
    PE X (.Call (.Attribute o "join" apos) [e] [] pos) (tM1 (rJoinQ X.K) to te) := pe_join ho he hs hbase hline
theorem s_m1 {σ : L2.St} {rr : V → List V → Hp → VK → Prop} {to te : TE} (q : to σ H fun x H1 => (∃ a, x = .str a) ∧ te σ H1 fun y H2 => rr x [y] H2 Q) : tM1 rr to te σ H Q := q
theorem s_join {a : Str} {p : Addr} {ys : List Str} (h : SqL K H p (ys.map V.str)) (z : (ys.map (·.length)).sum + ys.length * a.length ≤ 1000000) (q : Q (.str (Txt.join a ys)) H) : rJoinQ K (.str a) [.ref p] H Q := ⟨a, p, ys, rfl, rfl, .inl h, by omega, q⟩
theorem sum_le {n : Nat} : ∀ {ys : List Str}, (∀ y ∈ ys, y.length ≤ n) → (ys.map (·.length)).sum ≤ ys.length * n
  | [], _ => by simp
  | y :: ys, h => by
    have h1 := h y List.mem_cons_self
    have h2 := sum_le (ys := ys) fun z hz => h z (List.mem_cons_of_mem _ hz)
    simp only [List.sum_cons, List.map_cons, List.length_cons]
    rw [Nat.add_mul]
    omega
/-- making an instance -/
def MakeR (C : Addr) (sp : Sp) (E : XK) (Q : VK) (vs : List V) (H1 : Hp) : Prop := ∀ x dx, H1 x = none → H1 dx = none → dx ≠ x → sp (.ref x :: (vs ++ [])) (upd (upd H1 dx (.own x)) x (.ins C dx [])) (fun v H2 => v = .non ∧ Q (.ref x) H2) E
theorem s_make {σ : L2.St} {C : Addr} {sp : Sp} {E : XK} {tA : TA} (q : tA σ H fun vs H1 => MakeR C sp E Q vs H1) : tMake C sp [] E tA σ H Q := q
theorem s_MakeR {C : Addr} {sp : Sp} {E : XK} {vs : List V} (q : ∀ x dx H', (∀ {T : List (Addr × Str)} {fp : List Addr}, Fr T fp H H' (x :: fp)) → H' x = some (.ins C dx []) → H x = none → H dx = none → sp (.ref x :: vs) H' (fun v H2 => v = .non ∧ Q (.ref x) H2) E) : MakeR C sp E Q vs H := by
  intro x dx hx hdx nd
  have e : vs ++ [] = vs := List.append_nil vs
  rw [e]
  refine q x dx _ (fun {T fp} => ?_) upd_same hx hdx
  have h1 : Fr T fp H (upd H dx (.own x)) fp := Fr.fresh hdx
  exact h1.trans (Fr.new' (by rw [upd_ne nd.symm]; exact hx))
/-! ### the rules with K told (blocks) -/
theorem pe_fldK {e : Expr} {ta : TE} {f : Str} {pos : Pos} (hK : X.K = K) (he : PE X e ta) (hb : attributeBase e f X.env (eval e X.env) = eval e X.env) : PE X (.Attribute e f pos) (tFld K ta f) := by subst hK; exact pe_fld he hb
theorem ix_listK (hK : X.K = K) : IxR X (rIxL K) := by subst hK; exact ix_list
theorem ix_tupK (hK : X.K = K) : IxR X (rIxT K) := by subst hK; exact ix_tup
theorem op_inDK (hK : X.K = K) (hu : X.A.units + 65 < cLine) : OpR X (compareOp .In) (rInD K) := by subst hK; exact op_inD hu
theorem op_notInDK (hK : X.K = K) (hu : X.A.units + 65 < cLine) : OpR X (compareOp .NotIn) (rNotInD K) := by subst hK; exact op_notInD hu
theorem op_catAK (hK : X.K = K) : OpR X (binaryOp .Add) (rCatA K) := by subst hK; exact op_catA
theorem sl_tupAK (hK : X.K = K) : SlR X (rSlA K) := by subst hK; exact sl_tupA
theorem call_tupK (hK : X.K = K) : CallR X (.type "tuple") (rTupQ K) := by subst hK; exact call_tupQ
theorem call_listK (hK : X.K = K) : CallR X (.type "list") (rListQ K) := by subst hK; exact call_listQ
theorem call_lenK (hK : X.K = K) : CallR X (.builtin "len") (rLenQ K) := by subst hK; exact call_lenQ
theorem pi_listK {tg l : Expr} {tl : TE} (hK : X.K = K) (hl : PE X l tl) : PI X tg l (iList K tl) := by subst hK; exact pi_list hl
theorem pi_tupK {tg l : Expr} {tl : TE} (hK : X.K = K) (hl : PE X l tl) : PI X tg l (iTup K tl) := by subst hK; exact pi_tup hl
/-! ### dicts by texts -/
def KdAt (H : Hp) (p : Addr) (b : Bk) : Prop := ∃ kvs, H p = some (.dK kvs) ∧ ∀ s m, (s, m) ∈ b.kinds → valV kvs (.inr s) = some (.bl m)
theorem Fz.kds : ∀ {xs : List V} {ks : List (Str × Bool)}, FzA H xs (ks.map kdD) → ∃ ps, xs = ps.map V.ref ∧ Paired (fun p (kv : Key × V) => SqT K H p [kV kv.1, kv.2]) ps (ks.map fun k => (Sum.inr k.1, V.bl k.2))
  | [], [], _ => ⟨[], rfl, .nil⟩
  | _ :: _, k :: ks, .cons a r => by
    obtain ⟨p, x, y, rfl, hp, h1, h2⟩ := a.tup2
    obtain rfl := h1.str_inv
    obtain rfl := h2.bool_inv
    obtain ⟨ps, rfl, q⟩ := Fz.kds r
    exact ⟨p :: ps, rfl, .cons (SqT.of hp) q⟩
theorem s_kinds {v : V} {b : Bk} (B : BkOk b) (h : Fz H v (.list (b.kinds.map kdD))) (q : ∀ l H', (∃ u, Nw H H' l u) → KdAt H' l b → Q (.ref l) H') : rDictQ K [v] H Q := by
  obtain ⟨a, o, xs, rfl, ha, r⟩ := h.lst_inv
  obtain ⟨ps, rfl, hp⟩ := Fz.kds (K := K) r
  refine ⟨a, ps, _, rfl, sqF ha, hp, fun p hp0 => q p _ ⟨_, nw_of hp0⟩ ⟨_, upd_same, fun s m hm => ?_⟩⟩
  refine merge_nd ?_ (List.mem_map.mpr ⟨(s, m), hm, rfl⟩)
  rw [List.map_map]
  have e : ((fun x => x.1) ∘ fun (k : Str × Bool) => ((Sum.inr k.1 : Key), V.bl k.2)) = fun k => (Sum.inr k.1 : Key) := rfl
  rw [e]
  have := B.kn
  rw [show (b.kinds.map fun k => (Sum.inr k.1 : Key)) = (b.kinds.map (·.1)).map (fun s => (Sum.inr s : Key)) from by rw [List.map_map]; rfl]
  exact List.Pairwise.map (fun s => (Sum.inr s : Key)) (fun a b ne z => ne (Sum.inr.inj z)) this
end
end K28
/-! ## K28Z -/
/-! zip(xs, ys, strict=True) of two lists of one length, walked -/
namespace K28
set_option maxHeartbeats 3900000
open L2 PySem PySem.Spec PyProof.Rows
/-- the strict zip object -/
abbrev SZ (h : Heap) (zp ti to : Addr) (f0 : Value) : Prop :=
  h.get? zp = some { cls := .type "zip", dict := none, data := .fields #[f0, .bool false, .bool true, .ref ti, .ref to], slots := #[] }
section
variable {w : World} {prog : Program} {A : Around} {s : Shared} {E : Value → Shared → Prop}
theorem noe_item {it l : Addr} {i : Nat} {items : Array Value} {x : Value} {Q : Option Value → Shared → Prop} (hit : s.heap.IsListIter it l i) (hl : s.heap.IsList l items) (hx : items[i]? = some x)
    (q : ∀ h', h'.IsListIter it l (i + 1) → Heap.SameBut it s.heap h' → Q (some x) { s with heap := h' }) : wpAny (model prog w) A (Builtin.SmallTypes.nextOrEnd (.ref it)) Q E s := by
  unfold Builtin.SmallTypes.nextOrEnd
  exact wpAny_bind (wpAny_attempt (wpAny_nextOf_list_item hit hl hx fun h' a b => wpAny_pure (q h' a b)))
theorem noe_end {it l : Addr} {i : Nat} {items : Array Value} {Q : Option Value → Shared → Prop} (hh : A.handled = none) (hit : s.heap.IsListIter it l i) (hl : s.heap.IsList l items) (hx : items[i]? = none)
    (q : ∀ h', Heap.ExtBut it s.heap h' → Q none { s with heap := h' }) : wpAny (model prog w) A (Builtin.SmallTypes.nextOrEnd (.ref it)) Q E s := by
  unfold Builtin.SmallTypes.nextOrEnd
  refine wpAny_bind (wpAny_attempt (wpAny_nextOf_list_end hh hit hl hx fun h' e a b => ?_))
  obtain ⟨o, ho, hc⟩ := b
  exact wpAny_bind (wpAny_isInstance (T := "StopIteration") (b := true) ⟨o, ho, hc⟩ isSubtype_stop (wpAny_pure (q h' a)))
theorem sz_item {zp ti to i1 i2 l1 l2 : Addr} {k : Nat} {xs ys : Array Value} {x y a b : Value} {Q : Value → Shared → Prop} (D : ZipApart zp ti to i1 i2 l1 l2)
    (atZ : SZ s.heap zp ti to .none) (hi : IsPair s.heap ti (.ref i1) (.ref i2)) (ho : IsPair s.heap to a b)
    (n1 : s.heap.IsListIter i1 l1 k) (n2 : s.heap.IsListIter i2 l2 k) (v1 : s.heap.IsList l1 xs) (v2 : s.heap.IsList l2 ys) (hx : xs[k]? = some x) (hy : ys[k]? = some y)
    (hQ : ∀ h', SZ h' zp ti to (rawInt s.heap.objs.size) → IsPair h' to x y → h'.IsListIter i1 l1 (k + 1) → h'.IsListIter i2 l2 (k + 1) → IsPair h' s.heap.objs.size x y → h'.objs.size = s.heap.objs.size + 1 →
      (∀ c o, c ≠ zp → c ≠ to → c ≠ i1 → c ≠ i2 → s.heap.get? c = some o → h'.get? c = some o) → Q (.ref s.heap.objs.size) { s with heap := h' }) :
    wpAny (model prog w) A (Builtin.«zip.__next__» ⟨[.ref zp], []⟩) (fun fin s' => ∃ v, fin = .done (.ret v) ∧ Q v s') E s := by
  show wpAny _ _ (field (.ref zp) 2 >>= _) _ _ _
  refine wpAny_bind (wpAny_field atZ rfl (x := .bool true) rfl ?_)
  show wpAny _ _ (field (.ref zp) 3 >>= _) _ _ _
  refine wpAny_bind (wpAny_field atZ rfl (x := .ref ti) rfl (wpAny_bind (wpAny_seqItems hi rfl ?_)))
  show wpAny _ _ (Builtin.SmallTypes.ownedTupleIsFree (.ref zp) >>= _) _ _ _
  refine wpAny_bind ?_
  delta Builtin.SmallTypes.ownedTupleIsFree
  refine wpAny_bind (wpAny_field atZ rfl (x := .none) rfl (wpAny_pure ?_))
  simp only [if_true]
  refine wpAny_bind (wpAny_rule (wpAny_bind (wpAny_field atZ rfl (x := .ref to) rfl ?_)))
  refine wpAny_bind (wpAny_setField_rec atZ (by simp) fun g1 z1 b1 => ?_)
  replace z1 : SZ g1 zp ti to .ellipsis := z1
  refine wpAny_bind ?_
  simp only [List.forIn_cons, List.forIn_nil, List.zipIdx_cons, List.zipIdx_nil]
  refine wpAny_bind <| wpAny_bind <| wpAny_onRaise ?_
  show wpAny _ _ (Builtin.SmallTypes.nextOrEnd (.ref i1)) _ _ _
  refine noe_item (n1.extBut b1.extBut D.i1z) (v1.extBut b1.extBut D.l1z) hx fun g2 m1 b2 => ?_
  have o2 : IsPair g2 to a b := b2.extBut _ _ D.TOi1 (b1.extBut _ _ D.TOz ho)
  refine wpAny_bind (wpAny_seqItems o2 rfl (wpAny_bind (wpAny_updateSeq_pair o2 fun g3 o3 b3 => ?_)))
  replace o3 : IsPair g3 to x b := o3
  refine wpAny_bind (wpAny_letGo (wpAny_pure (wpAny_bind (wpAny_bind (wpAny_onRaise ?_)))))
  show wpAny _ _ (Builtin.SmallTypes.nextOrEnd (.ref i2)) _ _ _
  refine noe_item (((n2.extBut b1.extBut D.i2z).extBut b2.extBut D.i12.symm).extBut b3.extBut D.TOi2.symm) (((v2.extBut b1.extBut D.l2z).extBut b2.extBut D.l2i1).extBut b3.extBut D.l2TO) hy fun g4 m2 b4 => ?_
  have o4 : IsPair g4 to x b := b4.extBut _ _ D.TOi2 o3
  refine wpAny_bind (wpAny_seqItems o4 rfl (wpAny_bind (wpAny_updateSeq_pair o4 fun g5 o5 b5 => ?_)))
  replace o5 : IsPair g5 to x y := o5
  refine wpAny_bind (wpAny_letGo (wpAny_pure (wpAny_pure (wpAny_bind (wpAny_seqItems o5 rfl (wpAny_bind (wpAny_newTuple ?_)))))))
  have sz5 : g5.objs.size = s.heap.objs.size := by rw [b5.1, b4.1, b3.1, b2.1, b1.1]
  have z5 : SZ g5 zp ti to .ellipsis := b5.extBut _ _ D.TOz.symm (b4.extBut _ _ D.i2z.symm (b3.extBut _ _ D.TOz.symm (b2.extBut _ _ D.i1z.symm z1)))
  have k5 : ∀ c o, c ≠ zp → c ≠ to → c ≠ i1 → c ≠ i2 → s.heap.get? c = some o → g5.get? c = some o := fun c o c1 c2 c3 c4 e =>
    b5.extBut _ _ c2 (b4.extBut _ _ c4 (b3.extBut _ _ c2 (b2.extBut _ _ c3 (b1.extBut _ _ c1 e))))
  have p1 : g5.IsListIter i1 l1 (k + 1) := ((m1.extBut b3.extBut D.TOi1.symm).extBut b4.extBut D.i12).extBut b5.extBut D.TOi1.symm
  have p2 : g5.IsListIter i2 l2 (k + 1) := m2.extBut b5.extBut D.TOi2.symm
  have zl : zp < g5.objs.size := Heap.lt_size z5
  show wpAny _ _ (Builtin.SmallTypes.ownedTupleHandOut (.ref zp) (.ref g5.objs.size) >>= _) _ _ _
  refine wpAny_bind ?_
  delta Builtin.SmallTypes.ownedTupleHandOut
  have z6 : SZ (g5.push { cls := .type "tuple", data := .seq #[x, y] }) zp ti to .ellipsis := Heap.get?_push_of_some _ z5
  refine wpAny_bind (wpAny_setField_rec z6 (by simp) fun g7 z7 b7 => ?_)
  replace z7 : SZ g7 zp ti to (rawInt g5.objs.size) := z7
  refine wpAny_setField_rec z7 (by simp) fun g8 z8 b8 => ?_
  replace z8 : SZ g8 zp ti to (rawInt g5.objs.size) := z8
  have up : ∀ c o, c ≠ zp → g5.get? c = some o → g8.get? c = some o := fun c o c1 e => b8.extBut _ _ c1 (b7.extBut _ _ c1 (Heap.get?_push_of_some _ e))
  have t8 : IsPair g8 g5.objs.size x y := b8.extBut _ _ (Nat.ne_of_gt zl) (b7.extBut _ _ (Nat.ne_of_gt zl) (Heap.get?_push_size _ rfl))
  have s8 : g8.objs.size = g5.objs.size + 1 := by rw [b8.1, b7.1, Heap.size_push]
  rw [sz5] at z8 t8 s8
  apply wpAny_pure
  refine ⟨_, rfl, ?_⟩
  show Q (.ref g5.objs.size) _
  rw [sz5]
  exact hQ g8 z8 (up _ _ D.TOz o5) (p1.at fun o e => up _ o D.i1z e) (p2.at fun o e => up _ o D.i2z e) t8 s8 fun c o c1 c2 c3 c4 e => up c o c1 (k5 c o c1 c2 c3 c4 e)
theorem sz_end {zp ti to i1 i2 l1 l2 : Addr} {k : Nat} {xs ys : Array Value} {a b : Value} {Q : Fin → Shared → Prop} (hh : A.handled = none) (D : ZipApart zp ti to i1 i2 l1 l2)
    (atZ : SZ s.heap zp ti to .none) (hi : IsPair s.heap ti (.ref i1) (.ref i2)) (ho : IsPair s.heap to a b)
    (n1 : s.heap.IsListIter i1 l1 k) (n2 : s.heap.IsListIter i2 l2 k) (v1 : s.heap.IsList l1 xs) (v2 : s.heap.IsList l2 ys) (hx : xs[k]? = none) (hy : ys[k]? = none)
    (hE : ∀ h' e, (∀ c o, c ≠ zp → c ≠ to → c ≠ i1 → c ≠ i2 → s.heap.get? c = some o → h'.get? c = some o) → (∃ o, h'.get? e = some o ∧ o.cls = .type "StopIteration") → E (.ref e) { s with heap := h' }) :
    wpAny (model prog w) A (Builtin.«zip.__next__» ⟨[.ref zp], []⟩) Q E s := by
  show wpAny _ _ (field (.ref zp) 2 >>= _) _ _ _
  refine wpAny_bind (wpAny_field atZ rfl (x := .bool true) rfl ?_)
  show wpAny _ _ (field (.ref zp) 3 >>= _) _ _ _
  refine wpAny_bind (wpAny_field atZ rfl (x := .ref ti) rfl (wpAny_bind (wpAny_seqItems hi rfl ?_)))
  show wpAny _ _ (Builtin.SmallTypes.ownedTupleIsFree (.ref zp) >>= _) _ _ _
  refine wpAny_bind ?_
  delta Builtin.SmallTypes.ownedTupleIsFree
  refine wpAny_bind (wpAny_field atZ rfl (x := .none) rfl (wpAny_pure ?_))
  simp only [if_true]
  refine wpAny_bind (wpAny_rule (wpAny_bind (wpAny_field atZ rfl (x := .ref to) rfl ?_)))
  refine wpAny_bind (wpAny_setField_rec atZ (by simp) fun g1 z1 b1 => ?_)
  replace z1 : SZ g1 zp ti to .ellipsis := z1
  refine wpAny_bind ?_
  simp only [List.forIn_cons, List.forIn_nil, List.zipIdx_cons, List.zipIdx_nil]
  refine wpAny_bind <| wpAny_bind <| wpAny_onRaise ?_
  show wpAny _ _ (Builtin.SmallTypes.nextOrEnd (.ref i1)) _ _ _
  refine noe_end hh (n1.extBut b1.extBut D.i1z) (v1.extBut b1.extBut D.l1z) hx fun g2 b2 => ?_
  have z2 : SZ g2 zp ti to .ellipsis := b2 _ _ D.i1z.symm z1
  refine wpAny_bind (wpAny_setField_rec z2 (by simp) fun g3 z3 b3 => ?_)
  refine wpAny_bind <| wpAny_bind ?_
  have p2 : g3.IsListIter i2 l2 k := (((n2.extBut b1.extBut D.i2z).extBut b2 D.i12.symm)).extBut b3.extBut D.i2z
  have q2 : g3.IsList l2 ys := ((v2.extBut b1.extBut D.l2z).extBut b2 D.l2i1).extBut b3.extBut D.l2z
  simp only [List.drop_succ_cons, List.drop_zero, List.zipIdx_cons, List.zipIdx_nil, List.forIn_cons, List.forIn_nil]
  refine wpAny_bind (wpAny_bind (noe_end hh p2 q2 hy fun g4 b4 => ?_))
  refine wpAny_pure (wpAny_pure (wpAny_bind (wpAny_rule ?_)))
  unfold Builtin.SmallTypes.stopIteration
  refine wpAny_bind ?_
  simp only [newExc, newTuple]
  refine wpAny_bind <| wpAny_newObj_type ?_ (by size_fits)
  refine wpAny_bind (wpAny_of_eq (a := Value.none) (by first | rfl | (simp only [firstArgMember]; rfl)) (wpAny_newObj_type ?_ (by size_fits)))
  refine wpAny_raiseNew_none hh (hE _ _ (fun c o c1 c2 c3 c4 e => Heap.get?_push_of_some _ (Heap.get?_push_of_some _ ?_)) ⟨_, Heap.get?_push_size _ rfl, rfl⟩)
  exact b4 _ _ c4 (b3.extBut _ _ c1 (b2 _ _ c3 (b1.extBut _ _ c1 e)))
theorem sz_next_item {zp ti to i1 i2 l1 l2 : Addr} {k : Nat} {xs ys : Array Value} {x y a b : Value} {Q : Option Value → Shared → Prop} (D : ZipApart zp ti to i1 i2 l1 l2)
    (atZ : SZ s.heap zp ti to .none) (hi : IsPair s.heap ti (.ref i1) (.ref i2)) (ho : IsPair s.heap to a b)
    (n1 : s.heap.IsListIter i1 l1 k) (n2 : s.heap.IsListIter i2 l2 k) (v1 : s.heap.IsList l1 xs) (v2 : s.heap.IsList l2 ys) (hx : xs[k]? = some x) (hy : ys[k]? = some y)
    (hQ : ∀ h', SZ h' zp ti to (rawInt s.heap.objs.size) → IsPair h' to x y → h'.IsListIter i1 l1 (k + 1) → h'.IsListIter i2 l2 (k + 1) → IsPair h' s.heap.objs.size x y → h'.objs.size = s.heap.objs.size + 1 →
      (∀ c o, c ≠ zp → c ≠ to → c ≠ i1 → c ≠ i2 → s.heap.get? c = some o → h'.get? c = some o) → Q (some (.ref s.heap.objs.size)) { s with heap := h' }) :
    wpAny (model prog w) A (pyNext (.ref zp)) Q E s := by
  have T : s.TypeIs (.ref zp) "zip" := ⟨_, atZ, rfl⟩
  unfold pyNext
  exact wpAny_bind (wpAny_attempt (wpAny_callSpecial?_slot (name := Str.ofString "__next__") T PySem.F.slot_zip_next (wpAny_call_entry PySem.F.slot_zip_next T PySem.F.entry_zip_next
    (sz_item D atZ hi ho n1 n2 v1 v2 hx hy fun h' a1 a2 a3 a4 a5 a6 a7 => wpAny_pure (hQ h' a1 a2 a3 a4 a5 a6 a7)) (PySem.F.args_zip_next_1 _))))
theorem sz_next_end {zp ti to i1 i2 l1 l2 : Addr} {k : Nat} {xs ys : Array Value} {a b : Value} {Q : Option Value → Shared → Prop} (hh : A.handled = none) (D : ZipApart zp ti to i1 i2 l1 l2)
    (atZ : SZ s.heap zp ti to .none) (hi : IsPair s.heap ti (.ref i1) (.ref i2)) (ho : IsPair s.heap to a b)
    (n1 : s.heap.IsListIter i1 l1 k) (n2 : s.heap.IsListIter i2 l2 k) (v1 : s.heap.IsList l1 xs) (v2 : s.heap.IsList l2 ys) (hx : xs[k]? = none) (hy : ys[k]? = none)
    (hQ : ∀ h', (∀ c o, c ≠ zp → c ≠ to → c ≠ i1 → c ≠ i2 → s.heap.get? c = some o → h'.get? c = some o) → Q none { s with heap := h' }) : wpAny (model prog w) A (pyNext (.ref zp)) Q E s := by
  have T : s.TypeIs (.ref zp) "zip" := ⟨_, atZ, rfl⟩
  unfold pyNext
  refine wpAny_bind (wpAny_attempt (wpAny_callSpecial?_slot (name := Str.ofString "__next__") T PySem.F.slot_zip_next (wpAny_call_entry PySem.F.slot_zip_next T PySem.F.entry_zip_next
    (sz_end hh D atZ hi ho n1 n2 v1 v2 hx hy fun h' e hk he => ?_) (PySem.F.args_zip_next_1 _))))
  obtain ⟨o, h1, h2⟩ := he
  exact wpAny_bind (wpAny_isInstance (T := "StopIteration") (b := true) ⟨o, h1, h2⟩ isSubtype_stop (wpAny_pure (hQ _ hk)))
theorem sz_go {elts : List Expr} {kk : Nat} {pos : Pos} {zp ti to T : Addr} {Q : Unit → Shared → Prop} (atZ : SZ s.heap zp ti to (rawInt T))
    (hQ : ∀ h', SZ h' zp ti to .none → Heap.SameBut zp s.heap h' → Q () { s with heap := h' }) : wpAny (model prog w) A (letOwnedTupleGo (.Tuple elts kk pos) (.ref zp) (.ref T)) Q E s := by
  unfold letOwnedTupleGo
  refine wpAny_bind (wpAny_load atZ ?_)
  show wpAny _ _ (if (["enumerate", "zip", "dict_itemiterator", "dict_reverseitemiterator", "odict_iterator", "itertools.zip_longest", "itertools.pairwise"].contains "zip" && (#[rawInt T, .bool false, .bool true, .ref ti, .ref to] : Array Value)[0]? == some (rawInt T)) = true then _ else _) Q E s
  rw [if_pos (by simp)]
  exact wpAny_bind (wpAny_rule (wpAny_setField_rec atZ (by simp) fun h' atZ' hs' => hQ h' atZ' hs'))
theorem sz_iter {zp ti to : Addr} {f0 : Value} {Q : Value → Shared → Prop} (atZ : SZ s.heap zp ti to f0) (h : Q (.ref zp) s) : wpAny (model prog w) A (pyIter (.ref zp)) Q E s := by
  have T : s.TypeIs (.ref zp) "zip" := ⟨_, atZ, rfl⟩
  refine wpAny_pyIter_slot T PySem.F.slot_zip_iter (wpAny_call_entry PySem.F.slot_zip_iter T PySem.F.entry_zip_iter ?_ (PySem.F.args_zip_iter_1 _))
  show wpAny _ _ (ret (.ref zp)) _ _ s
  exact wpAny_pure ⟨_, rfl, "zip", _, T, PySem.F.slot_zip_next.lookup, h⟩
theorem tc_zip_s (a b c : Value) : checkTypeCall "zip" ⟨[a, b], [(Str.ofString "strict", c)]⟩ = pure () := by kernel_rfl
theorem nc_zip_s (a b c : Value) : checkBuiltinCall "zip.__new__" ⟨[.type "zip", a, b], [(Str.ofString "strict", c)]⟩ = pure () := by kernel_rfl
theorem oi_zip_s (obj a b c : Value) : argsOk "object.__init__" ⟨[obj, a, b], [(Str.ofString "strict", c)]⟩ := by unfold argsOk; kernel_rfl
abbrev szH (h : Heap) (l1 l2 : Addr) : Heap := (zipH4 h l1 l2).push { cls := .type "zip", data := .fields #[.none, .bool false, .bool true, .ref (zipH2 h l1 l2).objs.size, .ref (zipH3 h l1 l2).objs.size] }
theorem sz_new (l1 l2 : Addr) (xs ys : Array Value) :
    Meets (Builtin.«zip.__new__» ⟨[.type "zip", .ref l1, .ref l2], [(Str.ofString "strict", .bool true)]⟩) (fun _ R s => s.heap.IsList l1 xs ∧ s.heap.IsList l2 ys ∧
      R (.ok (.ret (.ref (zipH4 s.heap l1 l2).objs.size))) { s with heap := szH s.heap l1 l2 }) :=
  .of_wp fun prog w A R st both => by
    obtain ⟨hp, g, d, tk, os⟩ := st
    obtain ⟨hl1, hl2, h⟩ := both
    have hsub := sub_zip
    have L1 : Heap.IsList (Shared.heap ⟨hp, g, d, tk, os⟩) l1 xs := hl1
    have L2 : Heap.IsList (Shared.heap ⟨hp.push { cls := .type "list_iterator", data := .fields #[.ref l1, .int 0 0] }, g, d, tk, os⟩) l2 ys := Heap.IsList.push hl2 _
    have e1 : (Str.ofString "strict" == ("strict" : Str)) = true := by decide +kernel
    have e2 : (Str.ofString "strict" != ("strict" : Str)) = false := by decide +kernel
    wp_walk using wpAny_pyIter_list L1, wpAny_pyIter_list L2
    exact ⟨_, rfl, h⟩
end
end K28
/-! ## K28Zb -/
namespace K28
set_option maxHeartbeats 3900000
open L2 PySem PySem.Spec PyProof.Rows
section
variable {w : World} {prog : Program} {A : Around} {s : Shared} {E : Value → Shared → Prop}
theorem call_sz {l1 l2 : Addr} {xs ys : Array Value} {Q : Value → Shared → Prop} (v1 : s.heap.IsList l1 xs) (v2 : s.heap.IsList l2 ys)
    (h : ∀ h', SZ h' (s.heap.objs.size + 4) (s.heap.objs.size + 2) (s.heap.objs.size + 3) .none → IsPair h' (s.heap.objs.size + 2) (.ref s.heap.objs.size) (.ref (s.heap.objs.size + 1)) → IsPair h' (s.heap.objs.size + 3) .none .none → h'.IsListIter s.heap.objs.size l1 0 → h'.IsListIter (s.heap.objs.size + 1) l2 0 → h'.objs.size = s.heap.objs.size + 5 → (∀ c o, s.heap.get? c = some o → h'.get? c = some o) → Q (.ref (s.heap.objs.size + 4)) { s with heap := h' }) :
    wpAny (model prog w) A (call (.type "zip") [.ref l1, .ref l2] [(Str.ofString "strict", .bool true)]) Q E s := by
  refine callType_newKw PySem.F.called_zip (by decide) (tc_zip_s _ _ _) (nc_zip_s _ _ _) (fun obj => oi_zip_s obj _ _ _) PySem.F.entry_zip_new (sz_new l1 l2 xs ys) ⟨v1, v2, ?_⟩
  have a1 : (zipH1 s.heap l1).objs.size = s.heap.objs.size + 1 := Heap.size_push ..
  have a2 : (zipH2 s.heap l1 l2).objs.size = s.heap.objs.size + 2 := by rw [Heap.size_push, a1]
  have a3 : (zipH3 s.heap l1 l2).objs.size = s.heap.objs.size + 3 := by rw [Heap.size_push, a2]
  have a4 : (zipH4 s.heap l1 l2).objs.size = s.heap.objs.size + 4 := by rw [Heap.size_push, a3]
  have a5 : (szH s.heap l1 l2).objs.size = s.heap.objs.size + 5 := by rw [Heap.size_push, a4]
  have g5 : (szH s.heap l1 l2).get? (zipH4 s.heap l1 l2).objs.size = some _ := Heap.get?_push_size _ rfl
  have g4 : (szH s.heap l1 l2).get? (zipH3 s.heap l1 l2).objs.size = some _ := Heap.get?_push_of_some _ (Heap.get?_push_size _ rfl)
  have up2 : ∀ c o, (zipH3 s.heap l1 l2).get? c = some o → (szH s.heap l1 l2).get? c = some o := fun c o e => Heap.get?_push_of_some _ (Heap.get?_push_of_some _ e)
  have g3 := up2 _ _ (Heap.get?_push_size (zipH2 s.heap l1 l2) (o := { cls := .type "tuple", data := .seq #[.ref s.heap.objs.size, .ref (zipH1 s.heap l1).objs.size] }) rfl)
  have g2 := up2 _ _ (Heap.get?_push_of_some _ (Heap.get?_push_size (zipH1 s.heap l1) (o := { cls := .type "list_iterator", data := .fields #[.ref l2, .int 0 0] }) rfl))
  have g1 := up2 _ _ (Heap.get?_push_of_some _ (Heap.get?_push_of_some _ (Heap.get?_push_size s.heap (o := { cls := .type "list_iterator", data := .fields #[.ref l1, .int 0 0] }) rfl)))
  show _ ∧ _
  rw [a2, a3, a4] at g5
  rw [a1, a2] at g3
  rw [a3] at g4
  rw [a1] at g2
  rw [a4]
  exact ⟨⟨_, g5, rfl⟩, h _ g5 g3 g4 ⟨_, g1, rfl, rfl⟩ ⟨_, g2, rfl, rfl⟩ a5 fun c o x => up2 c o (Heap.get?_push_of_some _ (Heap.get?_push_of_some _ (Heap.get?_push_of_some _ x)))⟩
end
/-- two lists, item by item, to their one end -/
def Izs (K : PySem.W.Frag) (a b : Addr) : It := { Itz K a b with stop := fun i H => ∃ xs ys : List V, SqL K H a xs ∧ SqL K H b ys ∧ xs.length ≤ i ∧ ys.length ≤ i }
/-- the strict zip at z stands ahead of the items of number k -/
structure ZsAt (a b z ti to i1 i2 : Addr) (k : Nat) (h : Heap) : Prop where
  zp : SZ h z ti to .none
  pr : IsPair h ti (.ref i1) (.ref i2)
  out : ∃ x y, IsPair h to x y
  it1 : h.IsListIter i1 a k
  it2 : h.IsListIter i2 b k
theorem ZsAt.obj {a b z ti to i1 i2 : Addr} {k : Nat} {h : Heap} (Z : ZsAt a b z ti to i1 i2 k h) : ∀ c ∈ [z, ti, to, i1, i2], ∃ o, h.get? c = some o ∧ ∀ v, o.data ≠ .cell v := by
  simp only [List.forall_mem_cons, List.not_mem_nil, false_imp_iff, implies_true, and_true]
  obtain ⟨x, y, out⟩ := Z.out
  obtain ⟨o1, g1, -, d1⟩ := Z.it1
  obtain ⟨o2, g2, -, d2⟩ := Z.it2
  exact ⟨⟨_, Z.zp, fun _ q => nomatch q⟩, ⟨_, Z.pr, fun _ q => nomatch q⟩, ⟨_, out, fun _ q => nomatch q⟩, ⟨o1, g1, fun _ q => nomatch d1.symm.trans q⟩, ⟨o2, g2, fun _ q => nomatch d2.symm.trans q⟩⟩
theorem ZsAt.kept {a b z ti to i1 i2 : Addr} {k : Nat} {h h' : Heap} (Z : ZsAt a b z ti to i1 i2 k h) (same : ∀ c ∈ [z, ti, to, i1, i2], ∀ o, h.get? c = some o → h'.get? c = some o) : ZsAt a b z ti to i1 i2 k h' := by
  simp only [List.forall_mem_cons, List.not_mem_nil, false_imp_iff, implies_true, and_true] at same
  obtain ⟨s1, s2, s3, s4, s5⟩ := same
  exact ⟨s1 _ Z.zp, s2 _ Z.pr, Z.out.imp fun _ w => w.imp fun _ g => s3 _ g, Z.it1.at fun _ => s4 _, Z.it2.at fun _ => s5 _⟩
theorem off_five {c z ti to i1 i2 : Addr} (n : c ∉ [z, ti, to, i1, i2]) : c ≠ z ∧ c ≠ to ∧ c ≠ i1 ∧ c ≠ i2 := by
  simp only [List.mem_cons, not_or] at n
  exact ⟨n.1, n.2.2.1, n.2.2.2.1, n.2.2.2.2.1⟩
theorem turn_zs {P : Program} {w : World} {K : PySem.W.Frag} {elts : List Expr} {kk : Nat} {tpos : Pos} {a b z TI TO i1 i2 : Addr} (D : ZipApart z TI TO i1 i2 a b) :
    Turn P w K (.Tuple elts kk tpos) (Izs K a b) [z, TI, TO, i1, i2] z (ZsAt a b z TI TO i1 i2) where
  mem := .head _
  obj := fun _ _ Z => Z.obj
  keep := fun _ _ _ Z => Z.kept
  item := by
    rintro X rfl rfl rfl hc i pins s σ H E I own Z ⟨xs, ys, x, y, sx, sy, hx, hy⟩
    obtain ⟨x0, y0, out⟩ := Z.out
    obtain ⟨us, rx, px, -⟩ := I.list sx
    obtain ⟨ws, ry, py, -⟩ := I.list sy
    obtain ⟨u, hu, ru⟩ := rx.get hx
    obtain ⟨v, hv, rv⟩ := ry.get hy
    have below : ∀ c ∈ [z, TI, TO, i1, i2], c < s.heap.objs.size := fun c m => (Z.obj c m).elim fun _ g => Heap.lt_size g.1
    have zb := below z (.head _)
    refine sz_next_item D Z.zp Z.pr out Z.it1 Z.it2 px.isList py.isList (x := u) (y := v) ((List.getElem?_toArray ..).trans hu) ((List.getElem?_toArray ..).trans hv) fun h1 z1 out1 n1 n2 tup1 _ rest1 => ⟨_, rfl, ?_⟩
    refine sz_go (s := { s with heap := h1 }) z1 fun h2 z2 sb => ?_
    have up : ∀ c o, c ≠ z → h1.get? c = some o → h2.get? c = some o := fun c o n g => (sb.2 c n).trans g
    have rest : ∀ c o, c ∉ [z, TI, TO, i1, i2] → s.heap.get? c = some o → h2.get? c = some o := fun c o n g => by
      obtain ⟨c1, c2, c3, c4⟩ := off_five n
      exact up c o c1 (rest1 c o c1 c2 c3 c4 g)
    have tup2 : h2.get? s.heap.objs.size = some { cls := .type "tuple", data := .seq #[u, v] } := up _ _ (Nat.ne_of_gt zb) tup1
    have made : ObjOk X.prog X.w (upd H s.heap.objs.size (.tup [x, y])) h2 s.heap.objs.size (.tup [x, y]) := ⟨(by decide : 2 ≤ sizeLine), [u, v], .cons ru (.cons rv .nil), _, tup2, rfl, _, rfl⟩
    refine ⟨.ref s.heap.objs.size, _, I.turnedNew (t' := s.toks) rest own (Nat.le_refl _) made, rfl, ⟨_, x, y, rfl, I.hok.fresh (Nat.le_refl _), rfl, ?_, ?_⟩, ?_, fun c m => (upd_ne (Nat.ne_of_lt (below c m))).trans (own c m).1⟩
    · intro l sl
      exact I.list_inj sl sx ▸ hx
    · intro l sl
      exact I.list_inj sl sy ▸ hy
    · exact ⟨z2, up _ _ D.TIz (rest1 _ _ D.TIz D.TITO D.TIi1 D.TIi2 Z.pr), ⟨u, v, up _ _ D.TOz out1⟩, n1.at fun o => up _ o D.i1z, n2.at fun o => up _ o D.i2z⟩
  done := by
    rintro X rfl rfl rfl hc i pins s σ H E I own Z ⟨xs, ys, sx, sy, ex, ey⟩
    obtain ⟨x0, y0, out⟩ := Z.out
    obtain ⟨us, rx, px, -⟩ := I.list sx
    obtain ⟨ws, ry, py, -⟩ := I.list sy
    rw [rx.length] at ex
    rw [ry.length] at ey
    refine sz_next_end (I.ok.hd hc) D Z.zp Z.pr out Z.it1 Z.it2 px.isList py.isList ((List.getElem?_toArray ..).trans (List.getElem?_eq_none ex)) ((List.getElem?_toArray ..).trans (List.getElem?_eq_none ey)) fun h1 rest1 => ⟨rfl, ?_⟩
    refine I.turnedL (t' := s.toks) (fun c o n g => ?_) own
    obtain ⟨c1, c2, c3, c4⟩ := off_five n
    exact rest1 c o c1 c2 c3 c4 g
  self := fun _ _ _ _ _ Z q => sz_iter Z.zp q
def iZs (K : PySem.W.Frag) (ta tk : TA) : TI := fun σ H R => ta σ H fun vs H1 => tk σ H1 fun zs H2 => ∃ a b xs ys, vs = [.ref a, .ref b] ∧ zs = [.bl true] ∧ SqL K H2 a xs ∧ SqL K H2 b ys ∧ R (Izs K a b) H2
theorem pi_zs {X : Cx} {e e2 : Expr} {kws : List Keyword} {ta tk : TA} {p pos tpos : Pos} {elts : List Expr} {kk : Nat} (hg : Gl X "zip") (hm : X.mg "zip" = none) (ha : PA X [e, e2] ta) (hkw : PK X kws tk)
    (hs : starEach [e, e2] X.env = (false, eval e X.env) :: starEach [e2] X.env := by rfl) (hall : (backToKw pos (keywordEach kws X.env)).all (·.1.isSome) = true := by rfl) (hks : (backToKw pos (keywordEach kws X.env)).filterMap (·.1) = [Str.ofString "strict"] := by rfl)
    (hpl : ((backTo pos (starEach [e, e2] X.env)).any (·.1) || (backToKw pos (keywordEach kws X.env)).any (·.1.isNone)) = false := by rfl) :
    PI X (.Tuple elts kk tpos) (.Call (.Name "zip" p) [e, e2] kws pos) (iZs X.K ta tk) := by
  constructor
  intro pins s σ H R I h
  refine wpAny_Call_Name_kw (ld_blt I hg hm PyProof.Rows.boot_zip ?_)
  refine PySem.W.callWith_of (P := fun _ => True) hpl (fun _ _ => ⟨.machine, .inr (.inl rfl), PySem.W.Looks.of_pure rfl⟩) (evalArgs_kw2 hall (thn (ha.run pos pins s σ H _ I h) fun us s1 ⟨vs, H1, I1, r1, q1⟩ => thn (hkw.run pos pins s1 σ H1 _ I1 q1) fun ws s2 ⟨zs, H2, I2, r2, q2⟩ => ⟨trivial, ?_⟩) hs)
  rw [hks]
  obtain ⟨a, b, xs, ys, ex, ez, hqx, hqy, q⟩ := q2
  subst ex ez
  obtain ⟨u1, u2, rfl, ra, rb⟩ := vals2 r1
  obtain ⟨w1, rfl, rc⟩ := vals1 r2
  obtain rfl : u1 = Value.ref a := ra
  obtain rfl : u2 = Value.ref b := rb
  obtain rfl : w1 = Value.bool true := rc
  obtain ⟨us1, rx, px, -⟩ := I2.list hqx
  obtain ⟨us2, ry, py, -⟩ := I2.list hqy
  refine call_sz px.isList py.isList fun h' zp pr out n1 n2 _ stays => sz_iter zp ⟨s2.heap.objs.size + 4, [s2.heap.objs.size + 4, s2.heap.objs.size + 2, s2.heap.objs.size + 3, s2.heap.objs.size, s2.heap.objs.size + 1], _, _, H2, rfl, I2.kept (t' := s2.toks) stays, turn_zs (PySem.W.ktu_apart s2.heap.objs.size a b px.lt py.lt), ⟨zp, pr, ⟨_, _, out⟩, n1, n2⟩, fun c m => ?_, q⟩
  have above : s2.heap.objs.size ≤ c := by
    simp only [List.mem_cons, List.not_mem_nil, or_false] at m
    rcases m with rfl | rfl | rfl | rfl | rfl <;> first | exact Nat.le_refl _ | exact Nat.le_add_right ..
  exact I2.fpOk above (I2.hok.fresh above)
end K28
/-! ## K28V -/
namespace K28
set_option maxHeartbeats 3900000
open L2 LamX PySem PySem.Spec PyProof.Rows
section
variable {K : PySem.W.Frag} {T : List (Addr × Str)} {a : Addr} {xs : List V} {g : TG} {tt : TT} {te : TE} {tb : TS} {D : Ends} {vs : List Nat} {σ : L2.St} {H1 H : Hp} {Q : VK}
/-- what an iterator gives, turn by turn, while C holds -/
structure Gives (T : List (Addr × Str)) (J : It) (n : Nat) (C : Hp → Prop) (Y : Nat → V → Hp → Prop) : Prop where
  go : ∀ i H', i < n → C H' → J.go i H'
  stop : ∀ H', C H' → J.stop n H'
  yld : ∀ i x H' H'', i < n → C H' → J.yld i H' x H'' → Fr T [] H' H'' [] ∧ Y i x H''
theorem gives_list : Gives T (Itl K a) xs.length (fun H => SqL K H a xs) (fun i x _ => xs[i]? = some x) where
  go := fun i H' h c => ⟨xs, xs[i], c, List.getElem?_eq_getElem h⟩
  stop := fun H' c => ⟨xs, c, Nat.le_refl _⟩
  yld := fun i x H' H'' h c y => by
    obtain ⟨rfl, q⟩ := y
    exact ⟨.refl, q xs c⟩
theorem gives_enum : Gives T (Ite K a) xs.length (fun H => SqL K H a xs) (fun i v H => ∃ p x, v = .ref p ∧ H p = some (.tup [.int (i : Nat), x]) ∧ xs[i]? = some x) where
  go := fun i H' h c => ⟨xs, xs[i], c, List.getElem?_eq_getElem h⟩
  stop := fun H' c => ⟨xs, c, Nat.le_refl _⟩
  yld := fun i x H' H'' h c y => by
    obtain ⟨p, x', rfl, hp, rfl, q⟩ := y
    exact ⟨Fr.fresh hp, p, x', rfl, upd_same, q xs c⟩
theorem gives_range {lo : Int} {n : Nat} : Gives T (Itr lo n) n (fun _ => True) (fun i x _ => x = .int (lo + i)) where
  go := fun i H' h c => h
  stop := fun H' c => Nat.le_refl _
  yld := fun i x H' H'' h c y => by
    obtain ⟨rfl, rfl⟩ := y
    exact ⟨.refl, rfl⟩
theorem gives_zs {c : Addr} {ys : List V} (hl : xs.length = ys.length) : Gives T (Izs K a c) xs.length (fun H => SqL K H a xs ∧ SqL K H c ys) (fun i v H => ∃ p x y, v = .ref p ∧ H p = some (.tup [x, y]) ∧ xs[i]? = some x ∧ ys[i]? = some y) where
  go := fun i H' h c => ⟨xs, ys, _, _, c.1, c.2, List.getElem?_eq_getElem h, List.getElem?_eq_getElem (hl ▸ h)⟩
  stop := fun H' c => ⟨xs, ys, c.1, c.2, Nat.le_refl _, by omega⟩
  yld := fun i x H' H'' h c y => by
    obtain ⟨p, x', y', rfl, hp, rfl, q1, q2⟩ := y
    exact ⟨Fr.fresh hp, p, x', y', rfl, upd_same, q1 xs c.1, q2 ys c.2⟩
def ZsR (K : PySem.W.Frag) (R : It → Hp → Prop) (vs zs : List V) (H2 : Hp) : Prop := ∃ a b xs ys, vs = [V.ref a, .ref b] ∧ zs = [V.bl true] ∧ SqL K H2 a xs ∧ SqL K H2 b ys ∧ R (Izs K a b) H2
theorem s_iZ {R : It → Hp → Prop} {ta tk : TA} (q : ta σ H fun vs H1 => tk σ H1 fun zs H2 => ZsR K R vs zs H2) : iZs K ta tk σ H R := q
theorem s_ZsR {R : It → Hp → Prop} {b : Addr} {ys : List V} (ha : SqL K H a xs) (hb : SqL K H b ys) (q : R (Izs K a b) H) : ZsR K R [.ref a, .ref b] [.bl true] H := ⟨a, b, xs, ys, rfl, rfl, ha, hb, q⟩
/-- a loop -/
theorem forJ {J : It} {n : Nat} {C : Hp → Prop} {Y : Nat → V → Hp → Prop} (G : Gives T J n C Y) (Pv : Nat → L2.St → Hp → Prop) (h0 : Pv 0 σ H) (hc : ∀ i σ H, i ≤ n → Pv i σ H → C H)
    (hs : ∀ i x σ H H', i < n → Pv i σ H → Fr T [] H H' [] → Y i x H' → g x σ H' fun σ2 H2 => tb { D with nx := Pv (i + 1), ct := Pv (i + 1), bk := D.nx } σ2 H2) (hd : ∀ σ H, Pv n σ H → D.nx σ H) : ForR g tb D σ J H := by
  refine ⟨fun i m σ H => m = n - i ∧ i ≤ n ∧ Pv i σ H, ⟨n, rfl, Nat.zero_le n, h0⟩, ?_⟩
  rintro i m σ H ⟨rfl, hi, p⟩
  have c := hc i σ H hi p
  rcases Nat.lt_or_ge i n with hlt | hge
  · refine .inr ⟨G.go i H hlt c, Pv (i + 1), fun σ' H' p' => ⟨n - (i + 1), by omega, rfl, hlt, p'⟩, fun x H' y => ?_⟩
    obtain ⟨f, yy⟩ := G.yld i x H H' hlt c y
    exact hs i x σ H H' hlt p f yy
  · have e : i = n := Nat.le_antisymm hi hge
    subst e
    exact .inl ⟨G.stop H c, hd σ H p⟩
/-- a comprehension; its items are known data; fp may change -/
theorem lcJ {J : It} {n : Nat} {C : Hp → Prop} {Y : Nat → V → Hp → Prop} (G : Gives T J n C Y) (fp : List Addr) (Jv : Nat → Hp → Prop) (out : Nat → List PyData)
    (hfp : ∀ b ∈ fp, H1 b ≠ none) (j0 : Jv 0 H1) (o0 : out 0 = []) (hJ : ∀ D i H' o, H1 D = none → Jv i H' → Jv i (upd H' D o))
    (hc : ∀ i H', Jv i H' → Fr T fp H1 H' fp → C H') (sz : ∀ i, (out i).length < 1000000)
    (hs : ∀ i x H' H'', i < n → Jv i H' → Fr T fp H1 H' fp → Fr T [] H' H'' [] → Y i x H'' → ∀ (Yk : VK) (N : Hp → Prop), (∀ y H4 d, Fr T fp H'' H4 fp → out (i + 1) = out i ++ [d] → Fz H4 y d → Jv (i + 1) H4 → Yk y H4) → (∀ H3, Fr T fp H'' H3 fp → out (i + 1) = out i → Jv (i + 1) H3 → N H3) →
      g x (wipe σ vs) H'' fun σ2 H2 => wipe σ2 vs = wipe σ vs ∧ tt σ2 H2 fun b H3 => if b = true then te σ2 H3 Yk else N H3)
    (hd : ∀ D H' acc, H1 D = none → Jv n H' → Fr T fp H1 H' fp → H' D = some (.lst acc) → FzA H' acc (out n) → Q (.ref D) H') : LcR g tt te vs σ Q J H1 := by
  intro D hD
  have nD : D ∉ fp := fun z => hfp D z hD
  refine ⟨fun i m H' => m = n - i ∧ i ≤ n ∧ Jv i H' ∧ Fr T fp H1 H' fp ∧ ∃ acc, H' D = some (.lst acc) ∧ FzA H' acc (out i), ⟨n, by simp, Nat.zero_le _, hJ D 0 _ _ hD j0, Fr.fresh hD, [], upd_same, by rw [o0]; exact .nil⟩, ?_⟩
  rintro i m H' ⟨rfl, hi, j, f, acc, hacc, hz⟩
  have c := hc i H' j f
  rcases Nat.lt_or_ge i n with hlt | hge
  · refine .inr ⟨G.go i H' hlt c, fun H3 => i + 1 ≤ n ∧ Jv (i + 1) H3 ∧ Fr T fp H1 H3 fp ∧ ∃ acc, H3 D = some (.lst acc) ∧ FzA H3 acc (out (i + 1)), fun H3 q => ⟨n - (i + 1), by omega, rfl, q⟩, fun x H'' y => ?_⟩
    obtain ⟨f0, yy⟩ := G.yld i x H' H'' hlt c y
    have fw : Fr T fp H' H'' fp := f0.up (fun b z => nomatch z)
    refine hs i x H' H'' hlt j f f0 yy _ _ (fun y H4 d f4 e hy j4 => ?_) fun H3 f4 e j4 => ⟨hlt, j4, (f.trans fw).trans f4, acc, (fw.trans f4).get hacc nD trivial, by rw [e]; exact (fw.trans f4).fza hz⟩
    have f04 : Fr T fp H' H4 fp := fw.trans f4
    have hD4 : H4 D = some (.lst acc) := f04.get hacc nD trivial
    have f5 : Fr T (D :: fp) H4 (upd H4 D (.lst (acc ++ [y]))) (D :: fp) := Fr.mut hD4 trivial List.mem_cons_self
    refine ⟨acc, hD4, ?_, hlt, hJ D _ _ _ hD j4, ?_, acc ++ [y], upd_same, ?_⟩
    · rw [hz.length]
      exact Nat.lt_of_lt_of_le (sz i) (by decide)
    · have f6 : Fr T fp H1 H4 fp := f.trans f04
      refine ⟨f6.imm.trans f5.imm, fun b o eb nb nt => ?_, fun b e => f6.dom b (f5.dom b e), fun b z => .inl z, fun t => f5.tab (f6.tab t)⟩
      rw [upd_ne (ne_of_none eb hD)]
      exact f6.out b o eb nb nt
    · rw [e]
      exact ((f5.fza (f04.fza hz))).snoc (f5.fz hy)
  · have e : i = n := Nat.le_antisymm hi hge
    subst e
    exact .inl ⟨G.stop H' c, hd D H' acc hD j f hacc hz⟩
/-- drop what is new from a frame -/
theorem Fr.back {fp : List Addr} {D : Addr} {H2 H3 : Hp} (f : Fr T fp H H2 fp) (hD : H D = none) (f3 : Fr T (D :: fp) H2 H3 (D :: fp)) : Fr T fp H H3 fp :=
  ⟨f.imm.trans f3.imm, fun b o e nb nt => f3.out b o (f.out b o e nb nt) (fun z => (List.mem_cons.mp z).elim (fun q => by rw [q, hD] at e; cases e) nb) nt, fun b e => f.dom b (f3.dom b e), fun b z => .inl z, fun t => f3.tab (f.tab t)⟩
theorem Ch.back {fp : List Addr} {D : Addr} {u o : HO} {H2 H3 : Hp} (c : Ch H2 H3 D u) (f : Fr T fp H H2 fp) (hD : H D = none) (h : H2 D = some o) (m : Mtb o) : Fr T fp H H3 fp := f.back hD (c.fr h m List.mem_cons_self)
theorem Ch.imm {D : Addr} {u o : HO} {H2 H3 : Hp} (c : Ch H2 H3 D u) (h : H2 D = some o) (m : Mtb o) : ImK H2 H3 := (c.fr (T := []) (fp := [D]) h m List.mem_cons_self).imm
end
end K28
/-! ## K28Q -/
namespace K28
set_option maxHeartbeats 3900000
open L2 LamX PySem PySem.Spec PyProof.Rows
def optV : Option Nat → V
  | none => .non
  | some e => .int e
/-- a list that may change, of known items -/
def LsF (H : Hp) (l : Addr) (ds : List PyData) : Prop := ∃ xs, H l = some (.lst xs) ∧ FzA H xs ds
/-! ### a Deal -/
def dlF (name : Str) (g : V) (kb : Addr) (ah : V) (tl : Addr) (bg : Nat) (en : Option Nat) (wd : Wd) : List (Str × V) :=
  [("title", .str name), ("given", g), ("key_by", .ref kb), ("ahead", ah), ("told", .ref tl), ("begun", .int bg), ("ended", optV en), ("word", .str wd.s)]
def KbAt (H : Hp) (kb : Addr) (dl : Dl) (ks : List Ky) : Prop := ∃ o kvs, H kb = some (.frz o (.dK kvs)) ∧ ∀ l, l ∈ dl.lets.map (·.1) → ∃ v, valV kvs (.inr l) = some v ∧ Fz H v (kyD (keyOf dl ks l))
structure DlAt (C : Addr) (H : Hp) (b : Bk) (a tl : Addr) (d : D) : Prop where
  ex : ∃ dx g kb ah, H a = some (.ins C dx (dlF (dlOf b d.di).name g kb ah tl d.begun d.ended d.word)) ∧ Fz H g (.list (d.keys.map kyD)) ∧ KbAt H kb (dlOf b d.di) d.keys ∧ Fz H ah (.list ((dlOf b d.di).steps.map prS))
  tl : LsF H tl (d.told.map tlD)
/-! ### the Stepper -/
structure SA where
  dx : Addr
  bv : V
  dl : Addr
  ll : Addr
  ps : List (Addr × Addr)
def SA.fp (A : SA) (s : Addr) : List Addr := s :: A.dl :: A.ll :: (A.ps.map (·.1) ++ A.ps.map (·.2))
def stF (A : SA) : List (Str × V) := [("own_book", A.bv), ("deals", .ref A.dl), ("log", .ref A.ll)]
structure StAt (K : PySem.W.Frag) (H : Hp) (b : Bk) (s : Addr) (A : SA) (rs : List Row) (ds : List D) : Prop where
  ins : H s = some (.ins (He.ga K "Stepper") A.dx (stF A))
  bk : Fz H A.bv (bkD b)
  dls : H A.dl = some (.lst (A.ps.map fun p => V.ref p.1))
  log : LsF H A.ll (rs.map (rwD b))
  len : A.ps.length = ds.length
  at_ : ∀ (i : Nat) (p : Addr × Addr) (d : D), A.ps[i]? = some p → ds[i]? = some d → DlAt (He.ga K "Deal") H b p.1 p.2 d
  nd : (A.fp s).Nodup
/-! ### the law's world -/
def wdF (di : Nat) (kv : V) (bg : Nat) (en : Option Nat) (wd : Wd) (sl : Addr) : List (Key × V) :=
  [(.inr "deal", .int di), (.inr "keys", kv), (.inr "begun", .int bg), (.inr "ended", optV en), (.inr "word", .str wd.s), (.inr "steps", .ref sl)]
structure WlAt (H : Hp) (a sl : Addr) (d : D) : Prop where
  ex : ∃ kv, H a = some (.dK (wdF d.di kv d.begun d.ended d.word sl)) ∧ Fz H kv (.list (d.keys.map kyD))
  sl : LsF H sl (d.told.map tlD)
def wfp (w : Addr) (ps : List (Addr × Addr)) : List Addr := w :: (ps.map (·.1) ++ ps.map (·.2))
structure WdAt (H : Hp) (w : Addr) (ps : List (Addr × Addr)) (ds : List D) : Prop where
  wl : H w = some (.lst (ps.map fun p => V.ref p.1))
  len : ps.length = ds.length
  at_ : ∀ (i : Nat) (p : Addr × Addr) (d : D), ps[i]? = some p → ds[i]? = some d → WlAt H p.1 p.2 d
  nd : (wfp w ps).Nodup
section
variable {K : PySem.W.Frag} {T : List (Addr × Str)} {H H' : Hp} {b : Bk} {a tl s C w l : Addr} {d : D} {A : SA} {rs : List Row} {ds : List D} {ps : List (Addr × Addr)} {fp gp : List Addr} {xs : List PyData} {i : Nat} {p : Addr × Addr}
/-- what is in fp is kept, and what is known -/
def Kp (fp : List Addr) (H H' : Hp) : Prop := ∀ b ∈ fp, ∀ o, H b = some o → Mtb o → H' b = some o
theorem LsF.keep (h : LsF H l xs) (k : ∀ o, H l = some o → Mtb o → H' l = some o) (i : ImK H H') : LsF H' l xs := by
  obtain ⟨ys, e, f⟩ := h
  exact ⟨ys, k _ e trivial, f.keep i⟩
theorem KbAt.keep {kb : Addr} {dl : Dl} {ks : List Ky} (h : KbAt H kb dl ks) (i : ImK H H') : KbAt H' kb dl ks := by
  obtain ⟨o, kvs, e, f⟩ := h
  exact ⟨o, kvs, i _ _ e trivial, fun l hl => let ⟨v, e, q⟩ := f l hl; ⟨v, e, q.keep i⟩⟩
theorem DlAt.keep (h : DlAt C H b a tl d) (ka : ∀ o, H a = some o → Mtb o → H' a = some o) (kt : ∀ o, H tl = some o → Mtb o → H' tl = some o) (i : ImK H H') : DlAt C H' b a tl d := by
  obtain ⟨dx, g, kb, ah, e, f1, f2, f3⟩ := h.ex
  exact ⟨⟨dx, g, kb, ah, ka _ e trivial, f1.keep i, f2.keep i, f3.keep i⟩, h.tl.keep kt i⟩
theorem WlAt.keep (h : WlAt H a tl d) (ka : ∀ o, H a = some o → Mtb o → H' a = some o) (kt : ∀ o, H tl = some o → Mtb o → H' tl = some o) (i : ImK H H') : WlAt H' a tl d := by
  obtain ⟨kv, e, f1⟩ := h.ex
  exact ⟨⟨kv, ka _ e trivial, f1.keep i⟩, h.sl.keep kt i⟩
theorem mem1 (e : ps[i]? = some p) : p.1 ∈ ps.map (·.1) := List.mem_map.mpr ⟨p, List.mem_of_getElem? e, rfl⟩
theorem mem2 (e : ps[i]? = some p) : p.2 ∈ ps.map (·.2) := List.mem_map.mpr ⟨p, List.mem_of_getElem? e, rfl⟩
theorem SA.m0 : s ∈ A.fp s := List.mem_cons_self
theorem SA.md : A.dl ∈ A.fp s := List.mem_cons_of_mem _ List.mem_cons_self
theorem SA.ml : A.ll ∈ A.fp s := List.mem_cons_of_mem _ (List.mem_cons_of_mem _ List.mem_cons_self)
theorem SA.m1 (e : A.ps[i]? = some p) : p.1 ∈ A.fp s := List.mem_cons_of_mem _ (List.mem_cons_of_mem _ (List.mem_cons_of_mem _ (List.mem_append_left _ (mem1 e))))
theorem SA.m2 (e : A.ps[i]? = some p) : p.2 ∈ A.fp s := List.mem_cons_of_mem _ (List.mem_cons_of_mem _ (List.mem_cons_of_mem _ (List.mem_append_right _ (mem2 e))))
theorem wm0 : w ∈ wfp w ps := List.mem_cons_self
theorem wm1 (e : ps[i]? = some p) : p.1 ∈ wfp w ps := List.mem_cons_of_mem _ (List.mem_append_left _ (mem1 e))
theorem wm2 (e : ps[i]? = some p) : p.2 ∈ wfp w ps := List.mem_cons_of_mem _ (List.mem_append_right _ (mem2 e))
theorem StAt.keep (h : StAt K H b s A rs ds) (k : Kp (A.fp s) H H') (i : ImK H H') : StAt K H' b s A rs ds where
  ins := k _ SA.m0 _ h.ins trivial
  bk := h.bk.keep i
  dls := k _ SA.md _ h.dls trivial
  log := h.log.keep (k _ SA.ml) i
  len := h.len
  at_ := fun j p d e e' => (h.at_ j p d e e').keep (k _ (SA.m1 e)) (k _ (SA.m2 e)) i
  nd := h.nd
theorem WdAt.keep (h : WdAt H w ps ds) (k : Kp (wfp w ps) H H') (i : ImK H H') : WdAt H' w ps ds where
  wl := k _ wm0 _ h.wl trivial
  len := h.len
  at_ := fun j p d e e' => (h.at_ j p d e e').keep (k _ (wm1 e)) (k _ (wm2 e)) i
  nd := h.nd
theorem Fr.kp (x : Fr T fp H H' gp) {qs : List Addr} (n : ∀ b ∈ qs, b ∉ fp) : Kp qs H H' := fun b hb o e m => x.get e (n b hb) m
theorem StAt.fr (h : StAt K H b s A rs ds) (x : Fr T fp H H' gp) (n : ∀ b ∈ A.fp s, b ∉ fp) : StAt K H' b s A rs ds := h.keep (x.kp n) x.imm
theorem WdAt.fr (h : WdAt H w ps ds) (x : Fr T fp H H' gp) (n : ∀ b ∈ wfp w ps, b ∉ fp) : WdAt H' w ps ds := h.keep (x.kp n) x.imm
theorem LsF.fr (h : LsF H l xs) (x : Fr T fp H H' gp) (n : l ∉ fp) : LsF H' l xs := h.keep (fun o e m => x.get e n m) x.imm
theorem DlAt.fr (h : DlAt C H b a tl d) (x : Fr T fp H H' gp) (n1 : a ∉ fp) (n2 : tl ∉ fp) : DlAt C H' b a tl d := h.keep (fun o e m => x.get e n1 m) (fun o e m => x.get e n2 m) x.imm
theorem WlAt.fr (h : WlAt H a tl d) (x : Fr T fp H H' gp) (n1 : a ∉ fp) (n2 : tl ∉ fp) : WlAt H' a tl d := h.keep (fun o e m => x.get e n1 m) (fun o e m => x.get e n2 m) x.imm
theorem pair_of {q : D} (e : ds[i]? = some q) (len : ps.length = ds.length) : ∃ p, ps[i]? = some p := by
  have h : i < ps.length := by rw [len]; exact (List.getElem?_eq_some_iff.mp e).1
  exact ⟨ps[i], List.getElem?_eq_getElem h⟩
theorem deal_of {q : Addr × Addr} (e : ps[i]? = some q) (len : ps.length = ds.length) : ∃ d, ds[i]? = some d := by
  have h : i < ds.length := by rw [← len]; exact (List.getElem?_eq_some_iff.mp e).1
  exact ⟨ds[i], List.getElem?_eq_getElem h⟩
theorem StAt.known (h : StAt K H b s A rs ds) : ∀ b ∈ A.fp s, ∃ o, H b = some o ∧ Mtb o := by
  intro c hc
  obtain rfl | hc := List.mem_cons.mp hc
  · exact ⟨_, h.ins, trivial⟩
  obtain rfl | hc := List.mem_cons.mp hc
  · exact ⟨_, h.dls, trivial⟩
  obtain rfl | hc := List.mem_cons.mp hc
  · obtain ⟨xs, e, _⟩ := h.log
    exact ⟨_, e, trivial⟩
  obtain hc | hc := List.mem_append.mp hc
  all_goals
    obtain ⟨p, hp, rfl⟩ := List.mem_map.mp hc
    obtain ⟨i, e⟩ := List.getElem?_of_mem hp
    obtain ⟨d, ed⟩ := deal_of e h.len
    have q := h.at_ i p d e ed
  · obtain ⟨dx, g, kb, ah, e, _⟩ := q.ex
    exact ⟨_, e, trivial⟩
  · obtain ⟨xs, e, _⟩ := q.tl
    exact ⟨_, e, trivial⟩
theorem WdAt.known (h : WdAt H w ps ds) : ∀ b ∈ wfp w ps, ∃ o, H b = some o ∧ Mtb o := by
  intro c hc
  obtain rfl | hc := List.mem_cons.mp hc
  · exact ⟨_, h.wl, trivial⟩
  obtain hc | hc := List.mem_append.mp hc
  all_goals
    obtain ⟨p, hp, rfl⟩ := List.mem_map.mp hc
    obtain ⟨i, e⟩ := List.getElem?_of_mem hp
    obtain ⟨d, ed⟩ := deal_of e h.len
    have q := h.at_ i p d e ed
  · obtain ⟨kv, e, _⟩ := q.ex
    exact ⟨_, e, trivial⟩
  · obtain ⟨xs, e, _⟩ := q.sl
    exact ⟨_, e, trivial⟩
/-- places are apart -/
theorem nodup_pair {f g : (Addr × Addr) → Addr} : ∀ {ps : List (Addr × Addr)}, (ps.map f).Nodup → ∀ {i j : Nat} {p q : Addr × Addr}, ps[i]? = some p → ps[j]? = some q → f p = f q → i = j := by
  intro ps nd i j p q hi hj e
  have h1 : (ps.map f)[i]? = some (f p) := by rw [List.getElem?_map, hi]; rfl
  have h2 : (ps.map f)[j]? = some (f p) := by rw [List.getElem?_map, hj, e]; rfl
  obtain ⟨l1, e1⟩ := List.getElem?_eq_some_iff.mp h1
  obtain ⟨l2, e2⟩ := List.getElem?_eq_some_iff.mp h2
  exact (List.getElem_inj nd).mp (e1.trans e2.symm)
/-- one deal written anew -/
theorem StAt.setD {n : Nat} {d' : D} (h : StAt K H b s A rs ds) (e : A.ps[n]? = some p) (k : ∀ c o, c ≠ p.1 → c ≠ p.2 → H c = some o → Mtb o → H' c = some o) (i : ImK H H') (q : DlAt (He.ga K "Deal") H' b p.1 p.2 d') : StAt K H' b s A rs (ds.set n d') := by
  have nd := h.nd
  unfold SA.fp at nd
  rw [List.nodup_cons, List.nodup_cons, List.nodup_cons, List.nodup_append] at nd
  obtain ⟨n0, n1, n2, nd1, nd2, n3⟩ := nd
  have a1 := mem1 e
  have a2 := mem2 e
  have ne : ∀ {c : Addr}, c ∉ A.ps.map (·.1) ++ A.ps.map (·.2) → c ≠ p.1 ∧ c ≠ p.2 := fun hc => ⟨fun z => hc (by rw [z]; exact List.mem_append_left _ a1), fun z => hc (by rw [z]; exact List.mem_append_right _ a2)⟩
  have es := ne (c := s) (fun z => n0 (List.mem_cons_of_mem _ (List.mem_cons_of_mem _ z)))
  have ed := ne (c := A.dl) (fun z => n1 (List.mem_cons_of_mem _ z))
  have el := ne (c := A.ll) n2
  refine ⟨k _ _ es.1 es.2 h.ins trivial, h.bk.keep i, k _ _ ed.1 ed.2 h.dls trivial, h.log.keep (fun o => k _ o el.1 el.2) i, by rw [List.length_set]; exact h.len, fun j r x ej ex => ?_, h.nd⟩
  by_cases hj : n = j
  · subst hj
    rw [e] at ej; cases ej
    have hl : n < ds.length := by rw [← h.len]; exact (List.getElem?_eq_some_iff.mp e).1
    rw [List.getElem?_set_self hl] at ex
    cases ex
    exact q
  · rw [List.getElem?_set_ne hj] at ex
    have r1 : r.1 ≠ p.1 := fun z => hj (nodup_pair (f := (·.1)) (g := (·.1)) nd1 e ej z.symm)
    have r2 : r.2 ≠ p.2 := fun z => hj (nodup_pair (f := (·.2)) (g := (·.2)) nd2 e ej z.symm)
    have r12 : r.1 ≠ p.2 := n3 _ (mem1 ej) _ a2
    have r21 : r.2 ≠ p.1 := fun z => n3 _ a1 _ (mem2 ej) z.symm
    exact (h.at_ j r x ej ex).keep (fun o => k _ o r1 r12) (fun o => k _ o r21 r2) i
theorem WdAt.setD {n : Nat} {d' : D} (h : WdAt H w ps ds) (e : ps[n]? = some p) (k : ∀ c o, c ≠ p.1 → c ≠ p.2 → H c = some o → Mtb o → H' c = some o) (i : ImK H H') (q : WlAt H' p.1 p.2 d') : WdAt H' w ps (ds.set n d') := by
  have nd := h.nd
  unfold wfp at nd
  rw [List.nodup_cons, List.nodup_append] at nd
  obtain ⟨n0, nd1, nd2, n3⟩ := nd
  have a1 := mem1 e
  have a2 := mem2 e
  have e1 : w ≠ p.1 := fun z => n0 (by rw [z]; exact List.mem_append_left _ a1)
  have e2 : w ≠ p.2 := fun z => n0 (by rw [z]; exact List.mem_append_right _ a2)
  refine ⟨k _ _ e1 e2 h.wl trivial, by rw [List.length_set]; exact h.len, fun j r x ej ex => ?_, h.nd⟩
  by_cases hj : n = j
  · subst hj
    rw [e] at ej; cases ej
    have hl : n < ds.length := by rw [← h.len]; exact (List.getElem?_eq_some_iff.mp e).1
    rw [List.getElem?_set_self hl] at ex
    cases ex
    exact q
  · rw [List.getElem?_set_ne hj] at ex
    have r1 : r.1 ≠ p.1 := fun z => hj (nodup_pair (f := (·.1)) (g := (·.1)) nd1 e ej z.symm)
    have r2 : r.2 ≠ p.2 := fun z => hj (nodup_pair (f := (·.2)) (g := (·.2)) nd2 e ej z.symm)
    have r12 : r.1 ≠ p.2 := n3 _ (mem1 ej) _ a2
    have r21 : r.2 ≠ p.1 := fun z => n3 _ a1 _ (mem2 ej) z.symm
    exact (h.at_ j r x ej ex).keep (fun o => k _ o r1 r12) (fun o => k _ o r21 r2) i
/-- the log written anew -/
theorem StAt.setL {rs' : List Row} (h : StAt K H b s A rs ds) (k : ∀ c o, c ≠ A.ll → H c = some o → Mtb o → H' c = some o) (i : ImK H H') (q : LsF H' A.ll (rs'.map (rwD b))) : StAt K H' b s A rs' ds := by
  have nd := h.nd
  unfold SA.fp at nd
  rw [List.nodup_cons, List.nodup_cons, List.nodup_cons] at nd
  obtain ⟨n0, n1, n2, nd1⟩ := nd
  have ne : ∀ {c}, c ∈ A.ps.map (·.1) ++ A.ps.map (·.2) → c ≠ A.ll := fun hc z => n2 (z ▸ hc)
  exact ⟨k _ _ (fun z => n0 (by rw [z]; exact List.mem_cons_of_mem _ List.mem_cons_self)) h.ins trivial, h.bk.keep i, k _ _ (fun z => n1 (by rw [z]; exact List.mem_cons_self)) h.dls trivial, q, h.len,
    fun j r x ej ex => (h.at_ j r x ej ex).keep (fun o => k _ o (ne (List.mem_append_left _ (mem1 ej)))) (fun o => k _ o (ne (List.mem_append_right _ (mem2 ej)))) i, h.nd⟩
/-- a row put on the log -/
theorem StAt.logged {r : Row} {H1 H2 H3 : Hp} {tp : Addr} {u : HO} {ls : List V} (h : StAt K H1 b s A rs ds) (hl : H1 A.ll = some (.lst ls)) (fl : FzA H1 ls (rs.map (rwD b))) (n : Nw H1 H2 tp u) (c : Ch H2 H3 A.ll (.lst (ls ++ [.ref tp]))) (fz : Fz H2 (.ref tp) (rwD b r)) : StAt K H3 b s A (rs ++ [r]) ds ∧ Fr T (A.fp s) H1 H3 (A.fp s) := by
  have hl2 := n.old hl
  have i : ImK H2 H3 := c.imm hl2 trivial
  have f : Fr T (A.fp s) H1 H3 (A.fp s) := n.fr.trans (c.fr hl2 trivial SA.ml)
  refine ⟨h.setL (fun c' o nc e m => c.old (n.old e) nc) f.imm ⟨_, c.at, ?_⟩, f⟩
  rw [List.map_append]
  exact (fl.keep f.imm).snoc (fz.keep i)
theorem StAt.inD {x : D} {n : Nat} (h : StAt K H b s A rs ds) (e : A.ps[n]? = some p) {H1 : Hp} (f : Fr T [p.1] H H1 [p.1]) (q : DlAt (He.ga K "Deal") H1 b p.1 p.2 x) : StAt K H1 b s A rs (ds.set n x) ∧ Fr T (A.fp s) H H1 (A.fp s) :=
  ⟨h.setD e (fun c o n1 _ ec m => f.get ec (by simpa using n1) m) f.imm q, f.up (by simp only [List.mem_singleton]; rintro c rfl; exact SA.m1 e)⟩
end
end K28
/-! ## K28R -/
namespace K28
set_option maxHeartbeats 3900000
open L2 LamX PySem PySem.Spec PyProof.Rows
/-! ### a def's contract -/
structure Cn (P : Program) (w : World) (K : PySem.W.Frag) (mg : Str → Option Value) (base : Heap) (k : Nat) (f : Addr) (ps : List Str) (sp : Sp) : Prop where
  ex : ∃ fd, FnOk P w K mg base (L2.CX P w) k f fd ps sp ∧ Binds K fd ps []
  kp : PySem.W.keepIn K (Value.ref f) = true
structure CnG (P : Program) (w : World) (K : PySem.W.Frag) (mg : Str → Option Value) (base : Heap) (k : Nat) (f : Addr) (ps : List Str) (sp : Sp) : Prop where
  ex : ∃ fd, FnG P w K mg base (L2.CX P w) k f fd ps sp ∧ Binds K fd ps []
  kp : PySem.W.keepIn K (Value.ref f) = true
theorem Cn.imp {P : Program} {w : World} {K : PySem.W.Frag} {mg : Str → Option Value} {base : Heap} {k : Nat} {f : Addr} {ps : List Str} {sp sp' : Sp} (C : Cn P w K mg base k f ps sp) (h : ∀ vs H Q E, sp' vs H Q E → sp vs H Q E) : Cn P w K mg base k f ps sp' := by
  obtain ⟨fd, F, b⟩ := C.ex
  exact ⟨⟨fd, ⟨fun vs H Q E q => F.len vs H Q E (h _ _ _ _ q), fun A outer s H args us vs Q E hr e0 hb r q => F.run A outer s H args us vs Q E hr e0 hb r (h _ _ _ _ q)⟩, b⟩, C.kp⟩
section
variable {X : Cx} {k : Nat} {f C : Addr} {ps : List Str} {sp : Sp} {E : XK} {x m : Str} {p pos apos : Pos} {e o : Expr} {es : List Expr} {ta : TE} {t : TA}
theorem pe_cn (h : Cn X.prog X.w X.K X.mg X.base k f ps sp) (hr : Room k X.A) (hg : Gl X x) (hm : X.mg x = some (.ref f)) (hx : Passes (L2.CX X.prog X.w) X E)
    (ha : PA X (e :: es) t) (he : starEach (e :: es) X.env = (false, eval e X.env) :: starEach es X.env := by rfl) (hpl : (backTo pos (starEach es X.env)).any (·.1) = false := by rfl)
    (hdb : (x == ("__debug__" : Str)) = false := by decide) :
    PE X (.Call (.Name x p) (e :: es) [] pos) (tCall sp [] E t) := by
  obtain ⟨fd, F, b⟩ := h.ex
  exact pe_call F hr hg hm h.kp b .nil hx ha hdb he hpl
theorem pe_cnG (h : CnG X.prog X.w X.K X.mg X.base k f ps sp) (hgd : X.A.guards = some []) (hr : Room k X.A) (hg : Gl X x) (hm : X.mg x = some (.ref f)) (hx : Passes (L2.CX X.prog X.w) X E)
    (ha : PA X (e :: es) t) (he : starEach (e :: es) X.env = (false, eval e X.env) :: starEach es X.env := by rfl) (hpl : (backTo pos (starEach es X.env)).any (·.1) = false := by rfl)
    (hdb : (x == ("__debug__" : Str)) = false := by decide) :
    PE X (.Call (.Name x p) (e :: es) [] pos) (tCall sp [] E t) := by
  obtain ⟨fd, F, b⟩ := h.ex
  exact pe_callG F hgd hr hg hm h.kp b hx ha he hpl hdb
/-- how a method's call reads -/
abbrev MethText (X : Cx) (o : Expr) (m : Str) (es : List Expr) (apos pos : Pos) (pl : Sem Bool) : Prop :=
  eval (.Call (.Attribute o m apos) es [] pos) X.env = do
    let a ← eval o X.env
    standAt apos.atName
    let (g, own) ← holding [a] (getMethod a m pl)
    callWith pos g own (backTo pos (starEach es X.env)) (backToKw pos (keywordEach [] X.env))
theorem pe_cm {pl : Sem Bool} (c : Cls X.K C) (hm : Meth X.K C m f) (h : Cn X.prog X.w X.K X.mg X.base k f ps sp) (he : PE X o ta) (hr : Room k X.A) (hx : Passes (L2.CX X.prog X.w) X E) (ha : PA X (e :: es) t)
    (plain : starEach (e :: es) X.env = (false, eval e X.env) :: starEach es X.env := by rfl) (none_ : (backTo pos (starEach es X.env)).any (·.1) = false := by rfl) (ht : MethText X o m (e :: es) apos pos pl := by rfl) :
    PE X (.Call (.Attribute o m apos) (e :: es) [] pos) (tMeth C m sp [] E ta t) := by
  obtain ⟨fd, F, b⟩ := h.ex
  exact pe_meth he c hm F hr b .nil hx ha plain none_ ht
theorem pe_cm0 {pl : Sem Bool} (c : Cls X.K C) (hm : Meth X.K C m f) (h : Cn X.prog X.w X.K X.mg X.base k f ps sp) (he : PE X o ta) (hr : Room k X.A) (hx : Passes (L2.CX X.prog X.w) X E)
    (ht : MethText X o m [] apos pos pl := by rfl) :
    PE X (.Call (.Attribute o m apos) [] [] pos) (tMeth C m sp [] E ta tNil) := by
  obtain ⟨fd, F, b⟩ := h.ex
  exact pe_meth0 he c hm F hr b .nil hx ht
theorem pe_mk (M : Mk X.K C f) (h : Cn X.prog X.w X.K X.mg X.base k f ps sp) (hr : Room (k + 1) X.A) (hg : Gl X x) (hm : X.mg x = some (.ref C)) (hx : Passes (L2.CX X.prog X.w) X E)
    (ha : PA X (e :: es) t) (he : starEach (e :: es) X.env = (false, eval e X.env) :: starEach es X.env := by rfl) (hpl : (backTo pos (starEach es X.env)).any (·.1) = false := by rfl)
    (hdb : (x == ("__debug__" : Str)) = false := by decide) :
    PE X (.Call (.Name x p) (e :: es) [] pos) (tMake C sp [] E t) := by
  obtain ⟨fd, F, b⟩ := h.ex
  exact pe_make M F hr hg hm b .nil hx ha hdb he hpl
end
section
variable {P : Program} {w : World} {K : PySem.W.Frag} {mg : Str → Option Value} {base : Heap} {x qual : Str} {params : Arguments} {body : List Stmt} {scope : Scope} {f : Addr} {fd : FuncData} {N ps : List Str} {k : Nat} {sp : Sp}
theorem cn_of (F : FunD K x qual params body scope [] [] f fd) (S : FnScope N ps scope) (len : ∀ vs H Q E, sp vs H Q E → vs.length = ps.length)
    (hb : ∀ (kV doc pm : Value) (an : Option Addr) (cdv ct : Value) (us : List Value), us.length = ps.length → bindArgs (PySem.W.fnOf x qual params body scope .none kV doc pm an cdv ct) ⟨us, []⟩ = pure (ps.zip us))
    (hbody : ∀ (cdv : Value) (A : Around) (outer : List Env) (s : Shared) (H : Hp) (vs : List V) (Q : VK) (E : XK), Room k (A.deeper (envOfC qual scope s.heap.objs.size f cdv)) → sp vs H Q E → ∃ t, PSs (cxOf (L2.CX P w) P w K mg base N qual scope f cdv A outer s H E) body t ∧ t { nx := fun _ H' => Q .non H', rt := Q } (start N vs) H) : Cn P w K mg base (k + 1) f ps sp :=
  ⟨⟨fd, F.ok S len hbody, F.bindsN hb⟩, F.kp⟩
/-- .. whose code object is told -/
theorem cn_ofC {q : Str × Option Str} (F : FunD K x qual params body scope [] [] (He.fAd K q) fd) (S : FnScope N ps scope) (len : ∀ vs H Q E, sp vs H Q E → vs.length = ps.length)
    (hb : ∀ (kV doc pm : Value) (an : Option Addr) (cdv ct : Value) (us : List Value), us.length = ps.length → bindArgs (PySem.W.fnOf x qual params body scope .none kV doc pm an cdv ct) ⟨us, []⟩ = pure (ps.zip us))
    (hbody : ∀ (A : Around) (outer : List Env) (s : Shared) (H : Hp) (vs : List V) (Q : VK) (E : XK), Room k (A.deeper (envOfC qual scope s.heap.objs.size (He.fAd K q) (.ref (He.codeOf K q)))) → sp vs H Q E → ∃ t, PSs (cxOf (L2.CX P w) P w K mg base N qual scope (He.fAd K q) (.ref (He.codeOf K q)) A outer s H E) body t ∧ t { nx := fun _ H' => Q .non H', rt := Q } (start N vs) H) : Cn P w K mg base (k + 1) (He.fAd K q) ps sp := by
  refine ⟨⟨fd, ?_, F.bindsN hb⟩, F.kp⟩
  obtain ⟨oc, od, dV, kV, dc, pm, an, cdv, cty, osl, rfl, lk, hcd, -, -⟩ := F.ex
  obtain ⟨c, rfl⟩ := He.codeIn_ref hcd
  have e := He.codeOf_eq lk rfl
  subst e
  exact fn_of lk hcd S len fun A outer s H vs Q E hr hsp => hbody A outer s H vs Q E hr hsp
theorem cn_ofD {dvs : List V} {kws : List (Str × V)} (F : FunD K x qual params body scope dvs kws f fd) (S : FnScope N ps scope) (len : ∀ vs H Q E, sp vs H Q E → vs.length = ps.length) (hb : ∃ ds, Vals (dvs.drop dvs.length) ds ∧ Binds K fd ps ds)
    (hbody : ∀ (cdv : Value) (A : Around) (outer : List Env) (s : Shared) (H : Hp) (vs : List V) (Q : VK) (E : XK), Room k (A.deeper (envOfC qual scope s.heap.objs.size f cdv)) → sp vs H Q E → ∃ t, PSs (cxOf (L2.CX P w) P w K mg base N qual scope f cdv A outer s H E) body t ∧ t { nx := fun _ H' => Q .non H', rt := Q } (start N vs) H) : Cn P w K mg base (k + 1) f ps sp := by
  obtain ⟨ds, hd, b⟩ := hb
  rw [List.drop_length] at hd
  cases hd
  exact ⟨⟨fd, F.ok S len hbody, b⟩, F.kp⟩
theorem cnG_of (F : FunD K x qual params body scope [] [] f fd) (S : FnScope N ps scope) (len : ∀ vs H Q E, sp vs H Q E → vs.length = ps.length)
    (hb : ∀ (kV doc pm : Value) (an : Option Addr) (cdv ct : Value) (us : List Value), us.length = ps.length → bindArgs (PySem.W.fnOf x qual params body scope .none kV doc pm an cdv ct) ⟨us, []⟩ = pure (ps.zip us))
    (hbody : ∀ (cdv : Value) (A : Around) (outer : List Env) (s : Shared) (H : Hp) (vs : List V) (Q : VK) (E : XK), (A.deeper (envOfC qual scope s.heap.objs.size f cdv)).guards = some [] → Room k (A.deeper (envOfC qual scope s.heap.objs.size f cdv)) → sp vs H Q E → ∃ t, PSs (cxOf (L2.CX P w) P w K mg base N qual scope f cdv A outer s H E) body t ∧ t { nx := fun _ H' => Q .non H', rt := Q } (start N vs) H) : CnG P w K mg base (k + 1) f ps sp := by
  refine ⟨⟨fd, ?_, F.bindsN hb⟩, F.kp⟩
  obtain ⟨oc, od, dV, kV, dc, pm, an, cdv, cty, osl, rfl, lk, hcd, -, -⟩ := F.ex
  exact fnG_of lk hcd S len fun A outer s H vs Q E hg hr hsp => hbody cdv A outer s H vs Q E hg hr hsp
end
theorem hu65 {A : Around} {k : Nat} (hr : Room k A) : A.units + 65 < cLine := by have := hr.un; omega
/-- an own exception class -/
structure ExF (K : PySem.W.Frag) (mg : Str → Option Value) (x : Str) (C : Addr) : Prop where
  g : mg x = some (.ref C)
  ex : PySem.W.excIn K C [.type "Exception", .type "BaseException", .type "object"] "Exception.__new__" = true
  kp : PySem.W.keepIn K (Value.ref C) = true
  sb : PySem.W.subIn K (.ref C) (.type "BaseException") = some true
  ty : PySem.W.typeIn K (.ref C) = some (.type "type")
end K28
/-! ## K28Y -/
namespace K28
set_option maxHeartbeats 3900000
open L2 LamX PySem PySem.Spec PyProof.Rows
section
variable {K : PySem.W.Frag} {T : List (Addr × Str)} {a : Addr} {xs : List V} {σ : L2.St} {H : Hp} {Q : VK} {te tk tv : TE} {tl th : TO} {x y z : V} {d e : PyData}
theorem gives_tup : Gives T (Itt K a) xs.length (fun H => SqT K H a xs) (fun i x _ => xs[i]? = some x) where
  go := fun i H' h c => ⟨xs, xs[i], c, List.getElem?_eq_getElem h⟩
  stop := fun H' c => ⟨xs, c, Nat.le_refl _⟩
  yld := fun i x H' H'' h c y => by
    obtain ⟨rfl, q⟩ := y
    exact ⟨.refl, q xs c⟩
def ItR (K : PySem.W.Frag) (R : It → Hp → Prop) (x : V) (H1 : Hp) : Prop := ∃ a, x = .ref a ∧ (∃ xs, SqT K H1 a xs) ∧ R (Itt K a) H1
theorem s_iT {R : It → Hp → Prop} (q : te σ H fun x H1 => ItR K R x H1) : iTup K te σ H R := q
theorem s_ItR {R : It → Hp → Prop} (h : SqT K H a xs) (q : R (Itt K a) H) : ItR K R (.ref a) H := ⟨a, rfl, ⟨xs, h⟩, q⟩
theorem gives_str {s : Str} : Gives T (Its s) s.cps.size (fun _ => True) (fun i x _ => ∃ c, s.cps[i]? = some c ∧ x = .str ⟨#[c]⟩) where
  go := fun i H' h c => h
  stop := fun H' c => Nat.le_refl _
  yld := fun i x H' H'' h c y => by
    obtain ⟨rfl, q⟩ := y
    exact ⟨.refl, q⟩
def IsR (R : It → Hp → Prop) (x : V) (H1 : Hp) : Prop := ∃ s, x = .str s ∧ R (Its s) H1
theorem s_iS {R : It → Hp → Prop} (q : te σ H fun x H1 => IsR R x H1) : iStr te σ H R := q
theorem s_IsR {R : It → Hp → Prop} {s : Str} (q : R (Its s) H) : IsR R (.str s) H := ⟨s, rfl, q⟩
/-! ### == of data -/
theorem s_eqD (hx : Dp K H x d) (hy : Dp K H y e) (sd : SeqAt.shaped d = true) (se : SeqAt.shaped e = true) (q : Q (.bl (PyData.eqv d e)) H) : rEqD K x y H Q := ⟨d, e, hx, hy, sd, se, q⟩
theorem s_neD (hx : Dp K H x d) (hy : Dp K H y e) (sd : SeqAt.shaped d = true) (se : SeqAt.shaped e = true) (q : Q (.bl (!PyData.eqv d e)) H) : rNeD K x y H Q := ⟨d, e, hx, hy, sd, se, q⟩
theorem eqv_nilL : ∀ ds : List PyData, PyData.eqv (.list ds) (.list []) = ds.isEmpty
  | [] => by simp [PyData.eqv, PyData.eqvAll]
  | _ :: _ => by simp [PyData.eqv, PyData.eqvAll]
/-! ### slices -/
theorem s_sl {r : V → Option Int → Option Int → Hp → VK → Prop} (q : te σ H fun x H1 => tl σ H1 fun l H2 => th σ H2 fun u H3 => r x l u H3 Q) : tSl r te tl th σ H Q := q
theorem s_npart {QO : Option Int → Hp → Prop} (q : QO none H) : tNoPart σ H QO := q
def PrtR (QO : Option Int → Hp → Prop) (x : V) (H1 : Hp) : Prop := ∃ i, x = .int i ∧ QO (some i) H1
theorem s_part {QO : Option Int → Hp → Prop} (q : te σ H fun x H1 => PrtR QO x H1) : tPart te σ H QO := q
theorem s_PrtR {QO : Option Int → Hp → Prop} {i : Int} (q : QO (some i) H) : PrtR QO (.int i) H := ⟨i, rfl, q⟩
theorem s_slL {lo hi : Option Int} {ys : List V} (h : SqL K H a xs) (e : cutV xs lo hi = ys) (q : ∀ l H', Nw H H' l (.lst ys) → Q (.ref l) H') : rSlL K (.ref a) lo hi H Q := ⟨a, xs, rfl, h, fun p hp => by rw [e]; exact q p _ (nw_of hp)⟩
theorem s_slS {lo hi : Option Int} {s t : Str} (h : s.length ≤ 1000000) (e : cutS s lo hi = t) (q : Q (.str t) H) : rSlS (.str s) lo hi H Q := ⟨s, rfl, Nat.le_trans h (by decide), by rw [e]; exact q⟩
theorem s_slA {lo hi : Option Int} {ys : List V} (h : SqT K H a xs) (e : cutV xs lo hi = ys) (q0 : HT.sIx xs.length 0 lo = 0 ∧ HT.sIx xs.length xs.length hi = xs.length → Q (.ref a) H) (q : ¬ (HT.sIx xs.length 0 lo = 0 ∧ HT.sIx xs.length xs.length hi = xs.length) → ∀ l H', Nw H H' l (.tup ys) → Q (.ref l) H') : rSlA K (.ref a) lo hi H Q :=
  ⟨a, xs, rfl, h, q0, fun n p hp => by rw [e]; exact q n p _ (nw_of hp)⟩
theorem s_head3 (h : SqT K H a [x, y, z]) (q : ∀ l H', Nw H H' l (.tup [x, y]) → Q (.ref l) H') : rSlA K (.ref a) none (some 2) H Q :=
  s_slA h rfl (fun w => absurd w (show ¬ (HT.sIx 3 0 none = 0 ∧ HT.sIx 3 3 (some 2) = 3) by decide)) fun _ => q
theorem s_tail3 (h : SqT K H a [x, y, z]) (q : ∀ l H', Nw H H' l (.tup [z]) → Q (.ref l) H') : rSlA K (.ref a) (some 2) none H Q :=
  s_slA h rfl (fun w => absurd w (show ¬ (HT.sIx 3 0 (some 2) = 0 ∧ HT.sIx 3 3 none = 3) by decide)) fun _ => q
theorem s_head2 (h : SqT K H a [x, y]) (q : Q (.ref a) H) : rSlA K (.ref a) none (some 2) H Q :=
  s_slA (ys := [x, y]) h rfl (fun _ => q) fun w => absurd (show HT.sIx 2 0 none = 0 ∧ HT.sIx 2 2 (some 2) = 2 by decide) w
theorem s_tail2 (h : SqT K H a [x, y]) (q : ∀ l H', Nw H H' l (.tup []) → Q (.ref l) H') : rSlA K (.ref a) (some 2) none H Q :=
  s_slA h rfl (fun w => absurd w (show ¬ (HT.sIx 2 0 (some 2) = 0 ∧ HT.sIx 2 2 none = 2) by decide)) fun _ => q
theorem s_catA {b : Addr} {u v w : V} (h1 : SqT K H a [u, v]) (h2 : SqT K H b [w]) (q : ∀ l H', Nw H H' l (.tup [u, v, w]) → Q (.ref l) H') : rCatA K (.ref a) (.ref b) H Q :=
  ⟨a, b, _, _, rfl, rfl, h1, h2, by show 3 ≤ sizeLine; decide, (fun z => nomatch z), (fun _ z => nomatch z), fun _ _ p hp => q p _ (nw_of hp)⟩
theorem s_catA0 {b : Addr} {u v : V} (h1 : SqT K H a [u, v]) (h2 : SqT K H b []) (q : Q (.ref a) H) : rCatA K (.ref a) (.ref b) H Q :=
  ⟨a, b, _, _, rfl, rfl, h1, h2, by show 2 ≤ sizeLine; decide, (fun z => nomatch z), (fun _ _ => q), fun _ z => absurd rfl z⟩
/-! ### a place of a list -/
theorem s_sub {to ti : TE} {t : TSet} {v : V} {QS : L2.St → Hp → Prop} (q : to σ H fun o H1 => ti σ H1 fun i H2 => t o i v H2 fun H3 => QS σ H3) : gSub to ti t v σ H QS := q
theorem s_setL {P : Hp → Prop} {v : V} {k : Int} {j : Nat} (h : H a = some (.lst xs)) (e : ixN xs.length k = some j) (q : ∀ H', Ch H H' a (.lst (xs.set j v)) → P H') : rSetL (.ref a) (.int k) v H P := ⟨a, xs, k, j, rfl, rfl, h, e, q _ ⟨rfl⟩⟩
theorem s_maxI {ns : List Int} (h : SqL K H a (ns.map V.int)) (hn : 0 < ns.length) (q : ∀ m, m ∈ ns → (∀ y, y ∈ ns → y ≤ m) → Q (.int m) H) : rMax K [.ref a] H Q := ⟨a, ns, rfl, h, hn, q⟩
/-! ### sums, parts, places -/
theorem s_catF {b : Addr} {ys : List V} (h1 : Rd H a (.lst xs)) (h2 : Rd H b (.lst ys)) (z : xs.length + ys.length ≤ 1000000) (q : ∀ l H', Nw H H' l (.lst (xs ++ ys)) → Q (.ref l) H') : rCatF (.ref a) (.ref b) H Q := ⟨a, b, xs, ys, rfl, rfl, h1, h2, Nat.le_trans z (by decide), fun p hp => q p _ (nw_of hp)⟩
theorem s_catZ {s t : Str} (z : s.length + t.length ≤ 1000000) (q : Q (.str (s ++ t)) H) : rCatZ (.str s) (.str t) H Q := ⟨s, t, rfl, rfl, Nat.le_trans z (by decide), q⟩
theorem s_ixS {s : Str} {n : Int} {c : Nat} (h : s.length ≤ 1000000) (e : atI s.cps.toList n = some c) (q : Q (.str ⟨#[c]⟩) H) : rIxS (.str s) (.int n) H Q := ⟨s, n, c, rfl, rfl, Nat.le_trans h (by decide), e, q⟩
theorem s_index {ys : List V} {j : Nat} (h : SqL K H a ys) (fy : flatV y = true) (fys : ys.all flatV = true) (hz : ys[j]? = some z) (e : eqV z y = true) (no : ∀ (m : Nat) (z' : V), m < j → ys[m]? = some z' → eqV z' y = false) (q : Q (.int (j : Nat)) H) : rIndex K (.ref a) [y] H Q := ⟨a, ys, y, j, z, rfl, rfl, h, fy, fys, hz, e, no, q⟩
theorem s_tyLS (h : SqL K H a xs) : tyV K "list" (.ref a) H := .inl ⟨rfl, xs, h⟩
theorem s_count {ys : List V} (h : SqL K H a ys) (fy : flatV y = true) (fys : ys.all flatV = true) (q : Q (.int (ys.countP fun z => eqV z y : Nat)) H) : rCntF K (.ref a) [y] H Q := ⟨a, ys, y, rfl, rfl, h, fy, fys, q⟩
theorem s_rep {k : Nat} (h : H a = some (.lst xs)) (z : xs.length * k ≤ 1000000) (hk : k ≤ 1000000) (q : ∀ l H', Nw H H' l (.lst (List.replicate k xs).flatten) → Q (.ref l) H') : rRep (.ref a) (.int k) H Q :=
  ⟨a, k, xs, rfl, rfl, h, by omega, by omega, by rw [Int.toNat_natCast]; exact Nat.le_trans z (by decide), fun p hp => by rw [Int.toNat_natCast]; exact q p _ (nw_of hp)⟩
def rInsQ : V → List V → Hp → VK → Prop := fun x vs H Q => ∃ (l : Addr) (xs : List V) (i : Int) (y : V), x = .ref l ∧ vs = [.int i, y] ∧ H l = some (.lst xs) ∧ xs.length < sizeLine ∧ 0 ≤ i ∧ i < 2 ^ 63 ∧ Q .non (upd H l (.lst (xs.take i.toNat ++ [y] ++ xs.drop i.toNat)))
theorem mt_insertQ {X : Cx} : MtR X "list.insert" rInsQ := mt_insert
theorem s_ins {i : Nat} (h : H a = some (.lst xs)) (z : xs.length < 1000000) (hi : i ≤ 1000000) (q : ∀ H', Ch H H' a (.lst (xs.take i ++ [y] ++ xs.drop i)) → Q .non H') : rInsQ (.ref a) [.int i, y] H Q :=
  ⟨a, xs, i, y, rfl, rfl, h, Nat.lt_of_lt_of_le z (by decide), by omega, by omega, q _ ⟨by rw [Int.toNat_natCast]⟩⟩
theorem s_repr (hx : Dp K H x d) (sh : PyData.showable d = true) (nd : PyData.hasDict d = false) (dp : PyData.depth d ≤ 60) (l : d.shown.length ≤ 10000000) (q : Q (.str d.shown) H) : rRepr K [x] H Q := ⟨x, d, rfl, hx, sh, nd, dp, Nat.le_trans l (by decide), q⟩
/-! ### a display -/
def DspR (Q : VK) (p : Addr) (ps : List (V × V)) (H2 : Hp) : Prop := H2 p = some (.dK []) ∧ ∃ kvs : List (Key × V), ps = kvs.map (fun kv => (kV kv.1, kv.2)) ∧ kvs.length ≤ 15 ∧ Q (.ref p) (upd H2 p (.dK (mergeK [] kvs)))
theorem s_disp {trs : List (TE × TE)} (q : ∀ p H', Nw H H' p (.dK []) → tPairs trs σ H' fun ps H2 => DspR Q p ps H2) : tDisp trs σ H Q := fun p hp => q p _ (nw_of hp)
theorem s_pp0 {QP : List (V × V) → Hp → Prop} (q : QP [] H) : tPairs [] σ H QP := q
theorem s_pp {trs : List (TE × TE)} {QP : List (V × V) → Hp → Prop} (q : tk σ H fun x H1 => tv σ H1 fun y H2 => tPairs trs σ H2 fun ps H3 => QP ((x, y) :: ps) H3) : tPairs ((tk, tv) :: trs) σ H QP := q
theorem s_DspR {p : Addr} {ps : List (V × V)} (kvs : List (Key × V)) {ks : List (Key × V)} (h : H p = some (.dK [])) (e : ps = kvs.map (fun kv => (kV kv.1, kv.2))) (l : kvs.length ≤ 15) (m : mergeK [] kvs = ks) (q : ∀ H', Ch H H' p (.dK ks) → Q (.ref p) H') : DspR Q p ps H := ⟨h, kvs, e, l, by rw [m]; exact q _ ⟨rfl⟩⟩
theorem s_maxA {i j : Int} (q : ∀ m, (m = i ∨ m = j) → i ≤ m → j ≤ m → Q (.int m) H) : rMaxQ [.int i, .int j] H Q := by
  refine ⟨i, j, rfl, ?_⟩
  split
  · exact q j (.inr rfl) (by omega) (Int.le_refl _)
  · exact q i (.inl rfl) (Int.le_refl _) (by omega)
/-- a comprehension whose items are known data, not told ahead; fp may change -/
theorem lcN {H1 : Hp} {g : TG} {tt : TT} {vs : List Nat} {J : It} {n : Nat} {C : Hp → Prop} {Y : Nat → V → Hp → Prop} (G : Gives T J n C Y) (fp : List Addr) (Jv : Nat → List PyData → Hp → Prop)
    (hfp : ∀ b ∈ fp, H1 b ≠ none) (j0 : Jv 0 [] H1) (hJ : ∀ D i ds H' o, H1 D = none → Jv i ds H' → Jv i ds (upd H' D o))
    (hc : ∀ i ds H', Jv i ds H' → Fr T fp H1 H' fp → C H') (sz : ∀ i ds H', Jv i ds H' → ds.length < 1000000)
    (hs : ∀ i x ds H' H'', i < n → Jv i ds H' → Fr T fp H1 H' fp → Fr T [] H' H'' [] → Y i x H'' → ∀ (Yk : VK) (N : Hp → Prop), (∀ y H4 d, Fr T fp H'' H4 fp → Fz H4 y d → Jv (i + 1) (ds ++ [d]) H4 → Yk y H4) → (∀ H3, Fr T fp H'' H3 fp → Jv (i + 1) ds H3 → N H3) →
      g x (wipe σ vs) H'' fun σ2 H2 => wipe σ2 vs = wipe σ vs ∧ tt σ2 H2 fun b H3 => if b = true then te σ2 H3 Yk else N H3)
    (hd : ∀ D H' acc ds, H1 D = none → Jv n ds H' → Fr T fp H1 H' fp → H' D = some (.lst acc) → FzA H' acc ds → Q (.ref D) H') : LcR g tt te vs σ Q J H1 := by
  intro D hD
  have nD : D ∉ fp := fun z => hfp D z hD
  refine ⟨fun i m H' => m = n - i ∧ i ≤ n ∧ ∃ ds, Jv i ds H' ∧ Fr T fp H1 H' fp ∧ ∃ acc, H' D = some (.lst acc) ∧ FzA H' acc ds, ⟨n, by simp, Nat.zero_le _, [], hJ D 0 _ _ _ hD j0, Fr.fresh hD, [], upd_same, .nil⟩, ?_⟩
  rintro i m H' ⟨rfl, hi, ds, j, f, acc, hacc, hz⟩
  have c := hc i ds H' j f
  rcases Nat.lt_or_ge i n with hlt | hge
  · refine .inr ⟨G.go i H' hlt c, fun H3 => i + 1 ≤ n ∧ ∃ ds, Jv (i + 1) ds H3 ∧ Fr T fp H1 H3 fp ∧ ∃ acc, H3 D = some (.lst acc) ∧ FzA H3 acc ds, fun H3 q => ⟨n - (i + 1), by omega, rfl, q⟩, fun x H'' y => ?_⟩
    obtain ⟨f0, yy⟩ := G.yld i x H' H'' hlt c y
    have fw : Fr T fp H' H'' fp := f0.up (fun b z => nomatch z)
    refine hs i x ds H' H'' hlt j f f0 yy _ _ (fun y H4 d f4 hy j4 => ?_) fun H3 f4 j4 => ⟨hlt, ds, j4, (f.trans fw).trans f4, acc, (fw.trans f4).get hacc nD trivial, (fw.trans f4).fza hz⟩
    have f04 : Fr T fp H' H4 fp := fw.trans f4
    have hD4 : H4 D = some (.lst acc) := f04.get hacc nD trivial
    have f5 : Fr T (D :: fp) H4 (upd H4 D (.lst (acc ++ [y]))) (D :: fp) := Fr.mut hD4 trivial List.mem_cons_self
    refine ⟨acc, hD4, ?_, hlt, ds ++ [d], hJ D _ _ _ _ hD j4, ?_, acc ++ [y], upd_same, ?_⟩
    · rw [hz.length]
      exact Nat.lt_of_lt_of_le (sz i ds H' j) (by decide)
    · have f6 : Fr T fp H1 H4 fp := f.trans f04
      refine ⟨f6.imm.trans f5.imm, fun b o eb nb nt => ?_, fun b e => f6.dom b (f5.dom b e), fun b z => .inl z, fun t => f5.tab (f6.tab t)⟩
      rw [upd_ne (ne_of_none eb hD)]
      exact f6.out b o eb nb nt
    · exact ((f5.fza (f04.fza hz))).snoc (f5.fz hy)
  · have e : i = n := Nat.le_antisymm hi hge
    subst e
    exact .inl ⟨G.stop H' c, hd D H' acc ds hD j f hacc hz⟩
theorem s_inT {n : Int} {xs : List V} {b : Bool} (h : SqT K H a xs) (fx : xs.all flatV = true) (e : inV (.int n) xs = b) (q : Q (.bl b) H) : rIn K false (.int n) (.ref a) H Q := ⟨a, xs, rfl, .inr h, rfl, fx, by rw [e]; exact q⟩
/-! ### the rules with K told (blocks) -/
variable {X : Cx}
theorem sl_listK (hK : X.K = K) : SlR X (rSlL K) := by subst hK; exact sl_list
end
end K28
/-! ## K28X -/
namespace K28
set_option maxHeartbeats 3900000
open L2 LamX PySem PySem.Spec PyProof.Rows
/-! ### the log's rows -/
def RwOk (b : Bk) : Row → Prop
  | .beg di ks => di < b.deals.length ∧ KsOk b di ks ∧ ∀ q ∈ ks, q.2 ≤ 200
  | .stp n => n < 40
  | .fin n => n < 40
  | .drp n => n < 40
theorem Ok.rows {b : Bk} {rs : List Row} {ds : List D} (B : BkOk b) (h : Ok b rs ds) : ∀ r ∈ rs, RwOk b r := by
  induction h with
  | nil => exact fun r hr => nomatch hr
  | snoc h c ih =>
    rename_i rs ds r
    obtain ⟨i1, i2⟩ := h.inv B
    intro q hq
    obtain hq | hq := List.mem_append.mp hq
    · exact ih q hq
    · obtain rfl := List.eq_of_mem_singleton hq
      cases q with
      | beg di ks =>
        obtain ⟨c1, c2, c3, c4⟩ := c
        exact ⟨c1, c2, fun q hq => by have := c4 q hq; omega⟩
      | stp n =>
        obtain ⟨d, e, _⟩ := c
        have := (List.getElem?_eq_some_iff.mp e).1
        show n < 40
        omega
      | fin n =>
        obtain ⟨d, e, _⟩ := c
        have := (List.getElem?_eq_some_iff.mp e).1
        show n < 40
        omega
      | drp n =>
        obtain ⟨d, e, _⟩ := c
        have := (List.getElem?_eq_some_iff.mp e).1
        show n < 40
        omega
theorem nmOf_eq {b : Bk} {di : Nat} (h : di < b.deals.length) : nmOf b di = (dlOf b di).name := by
  unfold nmOf
  rw [(dlOf_mem h).1]
  rfl
theorem KsOk.str {b : Bk} {di : Nat} {ks : List Ky} (B : BkOk b) (h : KsOk b di ks) : ∀ k ∈ ks, PyData.strOk k.1 = true := fun k hk => (h.2 k hk).str B
theorem rwD_lay {b : Bk} {r : Row} (B : BkOk b) (h : RwOk b r) : (rwD b r).canLay0 = true := by
  cases r with
  | beg di ks =>
    have h1 : PyData.strOk (nmOf b di) = true := by rw [nmOf_eq h.1]; exact B.on _ (dlOf_mem h.1).2
    have h2 := kyDs_lay ks (h.2.1.str B)
    have h3 : PyData.strOk ("begin" : Str) = true := by decide +kernel
    simp only [rwD, PyData.canLay0, PyData.canLayAll0, h1, h2, h3, Bool.and_self]
  | stp n =>
    have h3 : PyData.strOk ("step" : Str) = true := by decide +kernel
    simp only [rwD, PyData.canLay0, PyData.canLayAll0, h3, Bool.and_self]
  | fin n =>
    have h3 : PyData.strOk ("end" : Str) = true := by decide +kernel
    simp only [rwD, PyData.canLay0, PyData.canLayAll0, h3, Bool.and_self]
  | drp n =>
    have h3 : PyData.strOk ("drop" : Str) = true := by decide +kernel
    simp only [rwD, PyData.canLay0, PyData.canLayAll0, h3, Bool.and_self]
theorem rwD_depth {b : Bk} {r : Row} : (rwD b r).depth ≤ 3 := by
  cases r with
  | beg di ks =>
    have := kyDs_depth ks
    simp only [rwD, PyData.depth, PyData.depthAll]
    omega
  | stp n => simp [rwD, PyData.depth, PyData.depthAll]
  | fin n => simp [rwD, PyData.depth, PyData.depthAll]
  | drp n => simp [rwD, PyData.depth, PyData.depthAll]
theorem layAll {α : Type} {f : α → PyData} : ∀ {xs : List α}, (∀ x ∈ xs, (f x).canLay0 = true) → PyData.canLayAll0 (xs.map f) = true
  | [], _ => by simp [PyData.canLayAll0]
  | x :: xs, h => by simp [PyData.canLayAll0, h x List.mem_cons_self, layAll (xs := xs) fun y hy => h y (List.mem_cons_of_mem _ hy)]
theorem depAll {α : Type} {f : α → PyData} {n : Nat} : ∀ {xs : List α}, (∀ x ∈ xs, (f x).depth ≤ n) → PyData.depthAll (xs.map f) ≤ n
  | [], _ => by simp [PyData.depthAll]
  | x :: xs, h => by
    have h1 := h x List.mem_cons_self
    have h2 := depAll (xs := xs) fun y hy => h y (List.mem_cons_of_mem _ hy)
    simp only [PyData.depthAll, List.map_cons]
    omega
theorem shaped_of {d : PyData} (h : d.canLay0 = true) (z : d.depth ≤ 64) : SeqAt.shaped d = true := by
  show (d.canLay0 && decide (d.depth ≤ 64)) = true
  rw [Bool.and_eq_true]
  exact ⟨h, decide_eq_true z⟩
theorem list_shaped {α : Type} {f : α → PyData} {xs : List α} (h : ∀ x ∈ xs, (f x).canLay0 = true) (z : ∀ x ∈ xs, (f x).depth ≤ 63) : SeqAt.shaped (.list (xs.map f)) = true := by
  refine shaped_of (by simp only [PyData.canLay0]; exact layAll h) ?_
  have := depAll z
  simp only [PyData.depth]
  omega
theorem rwDs_shaped {b : Bk} {rs : List Row} (B : BkOk b) (h : ∀ r ∈ rs, RwOk b r) : SeqAt.shaped (.list (rs.map (rwD b))) = true := list_shaped (fun r hr => rwD_lay B (h r hr)) fun r _ => Nat.le_trans rwD_depth (by decide)
theorem nil_shaped : SeqAt.shaped (.list []) = true := by decide +kernel
/-! ### the last deal taken away -/
theorem StAt.popD {K : PySem.W.Frag} {H H' : Hp} {b : Bk} {s : Addr} {A : SA} {rs : List Row} {ds : List D} {d : D} (h : StAt K H b s A rs (ds ++ [d])) (c : Ch H H' A.dl (.lst (A.ps.map fun p => V.ref p.1).dropLast)) : StAt K H' b s { A with ps := A.ps.dropLast } rs ds := by
  have hne : A.ps ≠ [] := fun z => by
    have := h.len
    rw [z] at this
    simp at this
  obtain ⟨ps, p, e⟩ : ∃ ps p, A.ps = ps ++ [p] := ⟨_, _, (List.dropLast_concat_getLast hne).symm⟩
  have el : A.ps.dropLast = ps := by rw [e, List.dropLast_concat]
  have len := h.len
  rw [e] at len
  simp at len
  have nd := h.nd
  unfold SA.fp at nd
  rw [e] at nd
  rw [el]
  simp only [List.map_append, List.map_cons, List.map_nil] at nd
  have nd0 := nd
  simp only [List.nodup_cons, List.mem_cons, List.mem_append, not_or, List.nodup_append, List.not_mem_nil, or_false, not_false_eq_true, true_and, List.nodup_nil, and_true] at nd
  have i : ImK H H' := c.imm h.dls trivial
  have k : ∀ {x : Addr} {o : HO}, x ≠ A.dl → H x = some o → H' x = some o := fun n e => c.old e n
  obtain ⟨⟨s1, s2, ⟨s3, s4⟩, s5, s6⟩, ⟨d1, ⟨d2, d3⟩, d4, d5⟩, ⟨⟨l1, l2⟩, l3, l4⟩, n1, n2, n3⟩ := nd
  have hat : ∀ {x : Addr}, x ∈ ps.map (·.1) ∨ x ∈ ps.map (·.2) → x ≠ A.dl := fun hx z => by
    subst z
    exact hx.elim d2 d4
  refine ⟨k s1 h.ins, h.bk.keep i, ?_, h.log.keep (fun o e _ => k (fun z => d1 z.symm) e) i, len, fun j q x ej ex => ?_, ?_⟩
  · have := c.at
    rw [e, List.map_append, List.map_cons, List.map_nil, List.dropLast_concat] at this
    exact this
  · have hj : j < ps.length := (List.getElem?_eq_some_iff.mp ej).1
    have hj2 : j < ds.length := by omega
    have q1 := h.at_ j q x (by rw [e, List.getElem?_append_left hj]; exact ej) (by rw [List.getElem?_append_left hj2]; exact ex)
    exact q1.keep (fun o eo _ => k (hat (.inl (mem1 ej))) eo) (fun o eo _ => k (hat (.inr (mem2 ej))) eo) i
  · refine List.Nodup.sublist ?_ nd0
    unfold SA.fp
    exact ((((List.sublist_append_left _ _).append (List.sublist_append_left _ _)).cons₂ _).cons₂ _).cons₂ _
theorem SA.fp_drop {A : SA} {s c : Addr} (h : c ∈ SA.fp { A with ps := A.ps.dropLast } s) : c ∈ A.fp s := by
  unfold SA.fp at h ⊢
  simp only [List.mem_cons, List.mem_append] at h ⊢
  have m : ∀ {f : Addr × Addr → Addr}, c ∈ A.ps.dropLast.map f → c ∈ A.ps.map f := fun hc => by
    obtain ⟨p, hp, e⟩ := List.mem_map.mp hc
    exact List.mem_map.mpr ⟨p, List.dropLast_subset _ hp, e⟩
  exact h.imp id (Or.imp id (Or.imp id (Or.imp m m)))
end K28
/-! ## K28Xb -/
namespace K28
set_option maxHeartbeats 3900000
open L2 LamX PySem PySem.Spec PyProof.Rows
/-! ### data that is short -/
structure Sml (d : PyData) : Prop where
  sh : PyData.showable d = true
  nd : PyData.hasDict d = false
  dp : PyData.depth d ≤ 60
  ln : d.shown.length ≤ 10000000
/-- what a part must be, weight told -/
structure Pt (d : PyData) (w : Nat) : Prop where
  sh : PyData.showable d = true
  ly : PyData.canLay0 d = true
  lf : PyData.leavesShort 8 d = true
  wt : PyData.weight d ≤ w
theorem Pt.sml {d : PyData} {w : Nat} (h : Pt d w) (z : w ≤ 900000) (dp : PyData.depth d ≤ 60) : Sml d :=
  ⟨h.sh, PyData.hasDict_of_canLay d h.ly, dp, by have := PyData.shown_le 8 (by decide) d h.lf; have := h.wt; omega⟩
theorem pt_none : Pt .none 0 := ⟨rfl, rfl, rfl, Nat.le_refl _⟩
theorem pt_bool (b : Bool) : Pt (.bool b) 0 := ⟨rfl, rfl, rfl, Nat.le_refl _⟩
theorem int_short : ∀ n : Nat, n < 256 → (PyData.shown (.int (n : Int))).length ≤ 8 := by decide +kernel
theorem log_short : ∀ n : Nat, n < 256 → n.log2 ≤ 7 := by decide +kernel
theorem pt_int {i : Int} (h0 : 0 ≤ i) (h1 : i < 256) : Pt (.int i) 8 := by
  obtain ⟨n, rfl⟩ : ∃ n : Nat, i = n := ⟨i.toNat, by omega⟩
  have l := log_short n (by omega)
  have e : ((n : Int)).natAbs = n := Int.natAbs_natCast n
  refine ⟨?_, rfl, ?_, ?_⟩
  · simp only [PyData.showable, e, decide_eq_true_eq]
    omega
  · simp only [PyData.leavesShort, decide_eq_true_eq]
    exact int_short n (by omega)
  · simp only [PyData.weight, e]
    split <;> omega
theorem pt_str {x : Str} (h : PyData.strOk x = true) (l : x.length ≤ 16) : Pt (.str x) 16 := by
  refine ⟨rfl, by simp only [PyData.canLay0]; exact h, ?_, l⟩
  unfold PyData.strOk at h
  rw [Array.all_eq_true_iff_forall_mem] at h
  simp only [PyData.leavesShort, List.all_eq_true, decide_eq_true_eq]
  intro c hc
  have h2 : c < 0x110000 := by simpa using h c (by simpa using hc)
  have : (16 : Nat) ^ 8 = 4294967296 := by decide
  omega
structure PtA (ds : List PyData) (w : Nat) : Prop where
  sh : PyData.showableAll ds = true
  ly : PyData.canLayAll0 ds = true
  lf : PyData.leavesShortAll 8 ds = true
  wt : PyData.weightAll ds ≤ w
theorem pa0 : PtA [] 0 := ⟨rfl, rfl, rfl, Nat.le_refl _⟩
theorem pa1 {d : PyData} {ds : List PyData} {u v : Nat} (h : Pt d u) (r : PtA ds v) : PtA (d :: ds) (u + 1 + v) := by
  refine ⟨?_, ?_, ?_, ?_⟩
  · simp only [PyData.showableAll, h.sh, r.sh, Bool.and_self]
  · simp only [PyData.canLayAll0, h.ly, r.ly, Bool.and_self]
  · simp only [PyData.leavesShortAll, h.lf, r.lf, Bool.and_self]
  · simp only [PyData.weightAll]
    have := h.wt
    have := r.wt
    omega
theorem pt_tup {ds : List PyData} {w : Nat} (h : PtA ds w) : Pt (.tuple ds) w :=
  ⟨by simp only [PyData.showable]; exact h.sh, by simp only [PyData.canLay0]; exact h.ly, by simp only [PyData.leavesShort]; exact h.lf, by simp only [PyData.weight]; exact h.wt⟩
theorem pt_lst {ds : List PyData} {w : Nat} (h : PtA ds w) : Pt (.list ds) w :=
  ⟨by simp only [PyData.showable]; exact h.sh, by simp only [PyData.canLay0]; exact h.ly, by simp only [PyData.leavesShort]; exact h.lf, by simp only [PyData.weight]; exact h.wt⟩
theorem pa_map {α : Type} {f : α → PyData} {w : Nat} : ∀ {xs : List α}, (∀ x ∈ xs, Pt (f x) w) → PtA (xs.map f) (xs.length * (w + 1))
  | [], _ => by rw [List.length_nil, Nat.zero_mul]; exact pa0
  | x :: xs, h => by
    have := pa1 (h x List.mem_cons_self) (pa_map (xs := xs) fun y hy => h y (List.mem_cons_of_mem _ hy))
    rw [List.map_cons, List.length_cons, Nat.add_mul, Nat.one_mul, Nat.add_comm]
    exact this
theorem Pt.mono {d : PyData} {u v : Nat} (h : Pt d u) (z : u ≤ v) : Pt d v := ⟨h.sh, h.ly, h.lf, Nat.le_trans h.wt z⟩
section
variable {b : Bk}
theorem pt_ky {k : Ky} (B : BkOk b) (h : KyOk b k) (h2 : k.2 < 256) : Pt (kyD k) 26 := by
  obtain ⟨m, hm, h0, _⟩ := h
  exact pt_tup (pa1 (pt_str (B.ok _ hm) (B.nk _ hm)) (pa1 (pt_int h0 h2) pa0))
theorem pt_rw {r : Row} (B : BkOk b) (h : RwOk b r) : Pt (rwD b r) 143 := by
  cases r with
  | beg di ks =>
    obtain ⟨h1, h2, h3⟩ := h
    have m1 := (dlOf_mem h1).2
    have l4 : ks.length ≤ 4 := by rw [h2.length]; exact B.l0 _ m1
    have pk := pt_lst (pa_map (f := kyD) (w := 26) fun k hk => pt_ky B (h2.2 k hk) (by have := h3 k hk; omega))
    have pn : Pt (.str (nmOf b di)) 16 := by rw [nmOf_eq h1]; exact pt_str (B.on _ m1) (B.nd _ m1)
    exact (pt_tup (pa1 (pt_str (x := "begin") (by decide +kernel) (by decide +kernel)) (pa1 pn (pa1 (pk.mono (v := 108) (by omega)) pa0)))).mono (by decide)
  | stp n => exact (pt_tup (pa1 (pt_str (x := "step") (by decide +kernel) (by decide +kernel)) (pa1 (pt_int (i := (n : Int)) (by omega) (by have : n < 40 := h; omega)) pa0))).mono (by decide)
  | fin n => exact (pt_tup (pa1 (pt_str (x := "end") (by decide +kernel) (by decide +kernel)) (pa1 (pt_int (i := (n : Int)) (by omega) (by have : n < 40 := h; omega)) pa0))).mono (by decide)
  | drp n => exact (pt_tup (pa1 (pt_str (x := "drop") (by decide +kernel) (by decide +kernel)) (pa1 (pt_int (i := (n : Int)) (by omega) (by have : n < 40 := h; omega)) pa0))).mono (by decide)
theorem rws_sml {rs : List Row} (B : BkOk b) (h : ∀ r ∈ rs, RwOk b r) (z : rs.length ≤ 1000) : Sml (.list (rs.map (rwD b))) := by
  refine ((pt_lst (pa_map (f := rwD b) (w := 143) fun r hr => pt_rw B (h r hr))).mono (v := 144000) (by omega)).sml (by decide) ?_
  have := depAll (f := rwD b) (n := 3) (xs := rs) fun r _ => rwD_depth
  simp only [PyData.depth]
  omega
/-- who wrote last is a deal -/
theorem lastW_lt {ds : List D} {key : Ky} {r : Nat} {m : Int} (h : lastW ds key r = some m) : 0 ≤ m ∧ m < ds.length := by
  unfold lastW topOf at h
  have hm : m ∈ cands ds key r ds.length := by
    have : ∀ (ns : List Int) (o : Option Int), ns.foldl (fun b n => match b with | none => some n | some m => if kfD ds n > kfD ds m then some n else some m) o = some m → m ∈ ns ∨ o = some m := by
      intro ns
      induction ns with
      | nil => exact fun o h => .inr h
      | cons n ns ih =>
        intro o h
        rcases ih _ h with h | h
        · exact .inl (List.mem_cons_of_mem _ h)
        · cases o with
          | none => cases h; exact .inl List.mem_cons_self
          | some k =>
            dsimp only at h
            split at h
            · cases h; exact .inl List.mem_cons_self
            · exact .inr h
    exact (this _ none h).resolve_right fun z => nomatch z
  obtain ⟨j, hj, rfl⟩ := List.mem_map.mp hm
  have : j < ds.length := by simpa using (List.mem_filter.mp hj).1
  omega
theorem pt_top {o : Option Int} (h : ∀ m, o = some m → 0 ≤ m ∧ m < 256) : Pt (opD o) 8 := by
  cases o with
  | none => exact pt_none.mono (by decide)
  | some m => exact pt_int (h m rfl).1 (h m rfl).2
theorem pt_last {ds : List D} {key : Ky} {r : Nat} (h40 : ds.length ≤ 40) : Pt (opD (lastW ds key r)) 8 := pt_top fun m e => by
  have := lastW_lt e
  omega
theorem opD_depth (o : Option Int) : (opD o).depth ≤ 60 := by
  cases o <;> simp [opD, PyData.depth]
theorem last_sml {ds : List D} {key : Ky} {r : Nat} (h40 : ds.length ≤ 40) : Sml (opD (lastW ds key r)) := (pt_last h40).sml (by decide) (opD_depth _)
theorem int_sml {i : Int} (h0 : 0 ≤ i) (h1 : i < 256) : Sml (.int i) := (pt_int h0 h1).sml (by decide) (by simp [PyData.depth])
/-- what a deed tells -/
theorem told_sml {ds : List D} {n k : Nat} {d : D} (B : BkOk b) (ok : DOk b k d) (h40 : ds.length ≤ 40) (hn : n < 40) (hl : d.told.length < (dlOf b d.di).steps.length) : Sml (tlD (stepOf b ds n d)) := by
  obtain ⟨e1, m1⟩ := dlOf_mem ok.di
  have e2 : (dlOf b d.di).steps[d.told.length]? = some (dlOf b d.di).steps[d.told.length] := List.getElem?_eq_getElem hl
  have m2 : (dlOf b d.di).steps[d.told.length] ∈ (dlOf b d.di).steps := List.getElem_mem hl
  have e3 : stepOf b ds n d = ⟨(dlOf b d.di).steps[d.told.length].1, keyOf (dlOf b d.di) d.keys (dlOf b d.di).steps[d.told.length].2, (stepOf b ds n d).seen⟩ := by
    unfold stepOf
    rw [e2]
    rfl
  have km := keyOf_mem (B.st _ m1 _ m2) ok.ks.length
  have p1 : Pt (.str (stepOf b ds n d).deed) 16 := by rw [e3]; exact pt_str (B.so _ m1 _ m2) (B.sd _ m1 _ m2)
  have p2 : Pt (kyD (stepOf b ds n d).key) 26 := by
    rw [e3]
    exact pt_ky B (ok.ks.2 _ km.1) (by have := ok.nm _ km.1; show (keyOf (dlOf b d.di) d.keys (dlOf b d.di).steps[d.told.length].2).2 < 256; omega)
  have p3 : Pt (opD (stepOf b ds n d).seen) 8 := by
    unfold stepOf
    dsimp only
    split
    · exact pt_none.mono (by decide)
    · split
      · exact pt_int (i := (n : Int)) (by omega) (by omega)
      · exact pt_last h40
  refine (pt_tup (pa1 p1 (pa1 p2 (pa1 p3 pa0)))).sml (by decide) ?_
  have d1 := kyD_depth (stepOf b ds n d).key
  have d2 : (opD (stepOf b ds n d).seen).depth ≤ 1 := by cases (stepOf b ds n d).seen <;> simp [opD, PyData.depth]
  simp only [PyData.depth, PyData.depthAll, d1]
  omega
end
end K28
/-! ## K28T1 -/
namespace K28
set_option maxHeartbeats 3900000
open L2 LamX PySem PySem.Spec PyProof.Rows
/-! ### what the top has left -/
structure Tx (K : PySem.W.Frag) (mg : Str → Option Value) : Prop where
  f_len : mg "len" = none
  f_range : mg "range" = none
  f_isinstance : mg "isinstance" = none
  f_int : mg "int" = none
  f_bool : mg "bool" = none
  f_str : mg "str" = none
  f_list : mg "list" = none
  f_tuple : mg "tuple" = none
  f_dict : mg "dict" = none
  f_zip : mg "zip" = none
  f_enumerate : mg "enumerate" = none
  f_max : mg "max" = none
  f_min : mg "min" = none
  f_any : mg "any" = none
  f_repr : mg "repr" = none
  g_is_whole : mg "is_whole" = some (.ref (He.ga K "is_whole"))
  g_is_pair : mg "is_pair" = some (.ref (He.ga K "is_pair"))
  g_dealing_copied : mg "dealing_copied" = some (.ref (He.ga K "dealing_copied"))
  g_book_copied : mg "book_copied" = some (.ref (He.ga K "book_copied"))
  g_number_by : mg "number_by" = some (.ref (He.ga K "number_by"))
  g_dealing_by : mg "dealing_by" = some (.ref (He.ga K "dealing_by"))
  g_is_key_by : mg "is_key_by" = some (.ref (He.ga K "is_key_by"))
  g_is_key : mg "is_key" = some (.ref (He.ga K "is_key"))
  g_are_keys : mg "are_keys" = some (.ref (He.ga K "are_keys"))
  g__law_some_keys : mg "_law_some_keys" = some (.ref (He.ga K "_law_some_keys"))
  g__law_draw : mg "_law_draw" = some (.ref (He.ga K "_law_draw"))
  g__law_keys : mg "_law_keys" = some (.ref (He.ga K "_law_keys"))
  g__law_left : mg "_law_left" = some (.ref (He.ga K "_law_left"))
  g__law_next : mg "_law_next" = some (.ref (He.ga K "_law_next"))
  g__law_greatest : mg "_law_greatest" = some (.ref (He.ga K "_law_greatest"))
  g__law_fresh : mg "_law_fresh" = some (.ref (He.ga K "_law_fresh"))
  g__law_wish : mg "_law_wish" = some (.ref (He.ga K "_law_wish"))
  g__law_kind : mg "_law_kind" = some (.ref (He.ga K "_law_kind"))
  g__law_told : mg "_law_told" = some (.ref (He.ga K "_law_told"))
  g__law_names : mg "_law_names" = some (.ref (He.ga K "_law_names"))
  g__law_marks : mg "_law_marks" = some (.ref (He.ga K "_law_marks"))
  g__law_steps : mg "_law_steps" = some (.ref (He.ga K "_law_steps"))
  g__law_book : mg "_law_book" = some (.ref (He.ga K "_law_book"))
  g__law_pool : mg "_law_pool" = some (.ref (He.ga K "_law_pool"))
  g__law_copied : mg "_law_copied" = some (.ref (He.ga K "_law_copied"))
  g__law_wrote : mg "_law_wrote" = some (.ref (He.ga K "_law_wrote"))
  g__law_last : mg "_law_last" = some (.ref (He.ga K "_law_last"))
  g__law_step : mg "_law_step" = some (.ref (He.ga K "_law_step"))
  g__law_is_off : mg "_law_is_off" = some (.ref (He.ga K "_law_is_off"))
  g__law_do : mg "_law_do" = some (.ref (He.ga K "_law_do"))
  g__law_again : mg "_law_again" = some (.ref (He.ga K "_law_again"))
  g__law_same : mg "_law_same" = some (.ref (He.ga K "_law_same"))
  g__law_doing : mg "_law_doing" = some (.ref (He.ga K "_law_doing"))
  g__law_state_text : mg "_law_state_text" = some (.ref (He.ga K "_law_state_text"))
  g__law_all_keys : mg "_law_all_keys" = some (.ref (He.ga K "_law_all_keys"))
  g__law_stands_so : mg "_law_stands_so" = some (.ref (He.ga K "_law_stands_so"))
  g__law_some : mg "_law_some" = some (.ref (He.ga K "_law_some"))
  g__law_refused : mg "_law_refused" = some (.ref (He.ga K "_law_refused"))
  g_law : mg "law" = some (.ref (He.ga K "law"))
  g_Deal : mg "Deal" = some (.ref (He.ga K "Deal"))
  g_Stepper : mg "Stepper" = some (.ref (He.ga K "Stepper"))
  g_SnapError : mg "SnapError" = some (.ref (He.ga K "SnapError"))
  g_BookError : mg "BookError" = some (.ref (He.ga K "BookError"))
  g_StepError : mg "StepError" = some (.ref (He.ga K "StepError"))
  g_NoKeys : mg "NoKeys" = some (.ref (He.ga K "NoKeys"))
  g_NoKey : mg "NoKey" = some (.ref (He.ga K "NoKey"))
  g_NoDealing : mg "NoDealing" = some (.ref (He.ga K "NoDealing"))
  g_NoNumber : mg "NoNumber" = some (.ref (He.ga K "NoNumber"))
  g_Over : mg "Over" = some (.ref (He.ga K "Over"))
  g_NoStep : mg "NoStep" = some (.ref (He.ga K "NoStep"))
  g_NoEnd : mg "NoEnd" = some (.ref (He.ga K "NoEnd"))
  g_NoDeed : mg "NoDeed" = some (.ref (He.ga K "NoDeed"))
  g_TooMany : mg "TooMany" = some (.ref (He.ga K "TooMany"))
  gMB : ∃ t, mg "MOST_BEGUN" = some (.int 40 t)
  cD : Cls K (He.ga K "Deal")
  nD_title : NoAttr K (He.ga K "Deal") "title"
  nD_given : NoAttr K (He.ga K "Deal") "given"
  nD_key_by : NoAttr K (He.ga K "Deal") "key_by"
  nD_ahead : NoAttr K (He.ga K "Deal") "ahead"
  nD_told : NoAttr K (He.ga K "Deal") "told"
  nD_begun : NoAttr K (He.ga K "Deal") "begun"
  nD_ended : NoAttr K (He.ga K "Deal") "ended"
  nD_word : NoAttr K (He.ga K "Deal") "word"
  mD_next_deed : Meth K (He.ga K "Deal") "next_deed" (He.ma K (He.ga K "Deal") "next_deed")
  mD_steps_left : Meth K (He.ga K "Deal") "steps_left" (He.ma K (He.ga K "Deal") "steps_left")
  mD_written : Meth K (He.ga K "Deal") "written" (He.ma K (He.ga K "Deal") "written")
  mD_closed : Meth K (He.ga K "Deal") "closed" (He.ma K (He.ga K "Deal") "closed")
  mD_opened : Meth K (He.ga K "Deal") "opened" (He.ma K (He.ga K "Deal") "opened")
  k_Deal : Mk K (He.ga K "Deal") (He.ma K (He.ga K "Deal") "__init__")
  cS : Cls K (He.ga K "Stepper")
  nS_own_book : NoAttr K (He.ga K "Stepper") "own_book"
  nS_deals : NoAttr K (He.ga K "Stepper") "deals"
  nS_log : NoAttr K (He.ga K "Stepper") "log"
  mS_begin : Meth K (He.ga K "Stepper") "begin" (He.ma K (He.ga K "Stepper") "begin")
  mS_deal_by : Meth K (He.ga K "Stepper") "deal_by" (He.ma K (He.ga K "Stepper") "deal_by")
  mS_open_deal : Meth K (He.ga K "Stepper") "open_deal" (He.ma K (He.ga K "Stepper") "open_deal")
  mS_last_writer : Meth K (He.ga K "Stepper") "last_writer" (He.ma K (He.ga K "Stepper") "last_writer")
  mS_step : Meth K (He.ga K "Stepper") "step" (He.ma K (He.ga K "Stepper") "step")
  mS_is_called_off : Meth K (He.ga K "Stepper") "is_called_off" (He.ma K (He.ga K "Stepper") "is_called_off")
  mS_look_at_end : Meth K (He.ga K "Stepper") "look_at_end" (He.ma K (He.ga K "Stepper") "look_at_end")
  mS_close : Meth K (He.ga K "Stepper") "close" (He.ma K (He.ga K "Stepper") "close")
  mS_shut : Meth K (He.ga K "Stepper") "shut" (He.ma K (He.ga K "Stepper") "shut")
  mS_end : Meth K (He.ga K "Stepper") "end" (He.ma K (He.ga K "Stepper") "end")
  mS_drop : Meth K (He.ga K "Stepper") "drop" (He.ma K (He.ga K "Stepper") "drop")
  mS_undo : Meth K (He.ga K "Stepper") "undo" (He.ma K (He.ga K "Stepper") "undo")
  mS_state : Meth K (He.ga K "Stepper") "state" (He.ma K (He.ga K "Stepper") "state")
  mS_left : Meth K (He.ga K "Stepper") "left" (He.ma K (He.ga K "Stepper") "left")
  mS_writer : Meth K (He.ga K "Stepper") "writer" (He.ma K (He.ga K "Stepper") "writer")
  mS_rows : Meth K (He.ga K "Stepper") "rows" (He.ma K (He.ga K "Stepper") "rows")
  mS_done_again : Meth K (He.ga K "Stepper") "done_again" (He.ma K (He.ga K "Stepper") "done_again")
  mS_fresh : Meth K (He.ga K "Stepper") "fresh" (He.ma K (He.ga K "Stepper") "fresh")
  mS_twin : Meth K (He.ga K "Stepper") "twin" (He.ma K (He.ga K "Stepper") "twin")
  mS___len__ : Meth K (He.ga K "Stepper") "__len__" (He.ma K (He.ga K "Stepper") "__len__")
  mS___str__ : Meth K (He.ga K "Stepper") "__str__" (He.ma K (He.ga K "Stepper") "__str__")
  k_Stepper : Mk K (He.ga K "Stepper") (He.ma K (He.ga K "Stepper") "__init__")
  x_SnapError : ExF K mg "SnapError" (He.ga K "SnapError")
  x_BookError : ExF K mg "BookError" (He.ga K "BookError")
  x_StepError : ExF K mg "StepError" (He.ga K "StepError")
  x_NoKeys : ExF K mg "NoKeys" (He.ga K "NoKeys")
  x_NoKey : ExF K mg "NoKey" (He.ga K "NoKey")
  x_NoDealing : ExF K mg "NoDealing" (He.ga K "NoDealing")
  x_NoNumber : ExF K mg "NoNumber" (He.ga K "NoNumber")
  x_Over : ExF K mg "Over" (He.ga K "Over")
  x_NoStep : ExF K mg "NoStep" (He.ga K "NoStep")
  x_NoEnd : ExF K mg "NoEnd" (He.ga K "NoEnd")
  x_NoDeed : ExF K mg "NoDeed" (He.ga K "NoDeed")
  x_TooMany : ExF K mg "TooMany" (He.ga K "TooMany")
  ddS : He.ga K "Deal" ≠ He.ga K "Stepper"
end K28
/-! ## K28d1 -/
namespace K28
set_option maxHeartbeats 3900000
open L2 LamX PySem PySem.Spec PyProof.Rows
local macro_rules | `(tactic| walk_at "st") => `(tactic| repeat (first
  | with_reducible refine s_seq ?_ | with_reducible refine s_ret ?_ | with_reducible refine s_retN ?_ | with_reducible refine s_drop ?_ | with_reducible refine s_asg ?_ | with_reducible refine s_gn ?_ | with_reducible refine s_nextq ?_
  | ((with_reducible apply s_var); exact rfl) | with_reducible refine s_c ?_ | with_reducible refine s_op ?_ | with_reducible refine s_I0 ?_ | ((with_reducible refine s_eq ?_ ?_); exact rfl) | ((with_reducible refine s_ne ?_ ?_); exact rfl)
  | with_reducible refine s_test ?_ | with_reducible refine s_tB ?_ | with_reducible refine s_bl ?_ | with_reducible refine s_and ?_ | with_reducible refine s_or ?_ | with_reducible refine s_not ?_ | with_reducible refine s_andV ?_ | with_reducible refine s_orV ?_ | with_reducible refine s_notV ?_
  | with_reducible refine s_blP ?_ | with_reducible refine s_ifS ?_ | with_reducible refine s_nil ?_ | with_reducible refine s_cons ?_ | with_reducible refine s_cb ?_ | with_reducible refine s_call ?_ | with_reducible refine s_tup ?_ | with_reducible refine s_lst ?_
  | with_reducible refine s_isN ?_ | with_reducible refine s_notN ?_ | with_reducible refine s_un ?_ | with_reducible refine s_U ?_ | with_reducible refine s_fld ?_ | with_reducible refine s_put ?_ | with_reducible refine s_meth ?_ | with_reducible refine s_gc ?_ | with_reducible refine s_g0 ?_
  | with_reducible refine s_dz ?_ | with_reducible refine s_make ?_ | with_reducible refine s_m1 ?_ | with_reducible refine s_chain ?_ | with_reducible refine s_iZ ?_ | with_reducible refine s_dput ?_ | with_reducible refine s_dget ?_ | with_reducible refine s_din ?_ | with_reducible refine s_lc ?_ | with_reducible refine s_for ?_ | with_reducible refine s_iL ?_ | with_reducible refine s_iE ?_ | with_reducible refine s_iR1 ?_ | with_reducible refine s_iR2 ?_ | with_reducible refine s_yes ?_
  | with_reducible refine s_frz ?_ | with_reducible refine s_bm ?_ | with_reducible refine s_bm0 ?_ | with_reducible refine s_iff ?_ | with_reducible refine s_ift ?_ | with_reducible refine s_ifnt ?_ | with_reducible refine s_ifnf ?_))
section
variable {P : Program} {w : World} {K : PySem.W.Frag} {mg : Str → Option Value} {base : Heap} {TT : List (Addr × Str)}
/-! ### is_whole, is_pair -/
theorem sc_is_whole : FnScope ["thing"] ["thing"] (defScope s_is_whole) := ⟨rfl, rfl, rfl, by decide +kernel, rfl, by decide +kernel, by decide +kernel⟩
def sp_is_whole : Sp := fun vs H Q _ => ∃ n : Int, vs = [.int n] ∧ Q (.bl true) H
theorem k_is_whole {fd : FuncData} (T : Tx K mg) (F : FunD K "is_whole" "is_whole" (defArgs s_is_whole) (defBody s_is_whole) (defScope s_is_whole) [] [] (He.ga K "is_whole") fd) : Cn P w K mg base 1 (He.ga K "is_whole") ["thing"] sp_is_whole := by
  refine cn_of F sc_is_whole (fun vs H Q E h => ?_) (fun _ _ _ _ _ _ us hl => match us, hl with | [_], _ => rfl) fun cdv A outer s H vs Q E hr h => ?_
  · obtain ⟨n, rfl, _⟩ := h
    rfl
  · obtain ⟨n, rfl, q⟩ := h
    refine ⟨_, PSs.nox (pss_one (ps_ret (pe_and (pe_callB call_isi rfl T.f_isinstance (by decide +kernel) (pa_cons (pv 0) (pa_cons (pe_bltn (v := .ty "int") (u := .type "int") rfl T.f_int (by decide +kernel) rfl) pa_nil))) (pe_one (pe_not (pe_callB call_isi rfl T.f_isinstance (by decide +kernel) (pa_cons (pv 0) (pa_cons (pe_bltn (v := .ty "bool") (u := .type "bool") rfl T.f_bool (by decide +kernel) rfl) pa_nil)))))))), ?_⟩
    walk_at "st"
    refine s_isB true (.base (.int n)) (by decide +kernel) ?_
    walk_at "st"
    refine s_isB false (.base (.int n)) (by decide +kernel) ?_
    walk_at "st"
    exact q
theorem sc_is_pair : FnScope ["thing"] ["thing"] (defScope s_is_pair) := ⟨rfl, rfl, rfl, by decide +kernel, rfl, by decide +kernel, by decide +kernel⟩
def sp_is_pair : Sp := fun vs H Q _ => ∃ (p : Addr) (x y : V), vs = [.ref p] ∧ H p = some (.tup [x, y]) ∧ Q (.bl true) H
theorem k_is_pair {fd : FuncData} (T : Tx K mg) (F : FunD K "is_pair" "is_pair" (defArgs s_is_pair) (defBody s_is_pair) (defScope s_is_pair) [] [] (He.ga K "is_pair") fd) : Cn P w K mg base 1 (He.ga K "is_pair") ["thing"] sp_is_pair := by
  refine cn_of F sc_is_pair (fun vs H Q E h => ?_) (fun _ _ _ _ _ _ us hl => match us, hl with | [_], _ => rfl) fun cdv A outer s H vs Q E hr h => ?_
  · obtain ⟨p, x, y, rfl, _⟩ := h
    rfl
  · obtain ⟨p, x, y, rfl, hp, q⟩ := h
    refine ⟨_, PSs.nox (pss_one (ps_ret (pe_and (pe_callB call_isi rfl T.f_isinstance (by decide +kernel) (pa_cons (pv 0) (pa_cons (pe_bltn (v := .ty "tuple") (u := .type "tuple") rfl T.f_tuple (by decide +kernel) rfl) pa_nil))) (pe_one (pe_cmpR op_eq (pe_callB call_lenQ rfl T.f_len (by decide +kernel) (pa_cons (pv 0) pa_nil)) pe_int (nomark _)))))), ?_⟩
    walk_at "st"
    refine s_isB true (.base (.tup hp)) (by decide +kernel) ?_
    walk_at "st"
    refine s_lenT (SqT.of hp) ?_
    walk_at "st"
    exact q
/-! ### copies of the book -/
theorem sc_dealing_copied : FnScope ["dealing", "name", "letters", "steps"] ["dealing"] (defScope s_dealing_copied) := ⟨rfl, rfl, rfl, by decide +kernel, rfl, by decide +kernel, by decide +kernel⟩
def sp_dealing_copied (TT : List (Addr × Str)) : Sp := fun vs H Q _ => ∃ (v : V) (d : Dl), vs = [v] ∧ Fz H v (dlD d) ∧ ∀ v' H', Fr TT [] H H' [] → Fz H' v' (dlD d) → Q v' H'
theorem k_dealing_copied {fd : FuncData} (T : Tx K mg) (F : FunD K "dealing_copied" "dealing_copied" (defArgs s_dealing_copied) (defBody s_dealing_copied) (defScope s_dealing_copied) [] [] (He.ga K "dealing_copied") fd) : Cn P w K mg base 1 (He.ga K "dealing_copied") ["dealing"] (sp_dealing_copied TT) := by
  refine cn_of F sc_dealing_copied (fun vs H Q E h => ?_) (fun _ _ _ _ _ _ us hl => match us, hl with | [_], _ => rfl) fun cdv A outer s H vs Q E hr h => ?_
  · obtain ⟨v, d, rfl, _⟩ := h
    rfl
  · obtain ⟨v, d, rfl, hv, q⟩ := h
    obtain ⟨p, x, y, z, rfl, hp, h1, h2, h3⟩ := hv.tup3
    obtain ⟨py, oy, ys, rfl, hy, fy⟩ := h2.lst_inv
    obtain ⟨pz, oz, zs, rfl, hz, fz⟩ := h3.lst_inv
    refine ⟨_, PSs.nox (pss_cons (ps_asg (pv 0) (pg_tup rfl (pgs_cons (pg_name (i := 1) sc_dealing_copied.nd rfl (by first | exact Or.inl rfl | exact Or.inr rfl)) (pgs_cons (pg_name (i := 2) sc_dealing_copied.nd rfl (by first | exact Or.inl rfl | exact Or.inr rfl)) (pgs_cons (pg_name (i := 3) sc_dealing_copied.nd rfl (by first | exact Or.inl rfl | exact Or.inr rfl)) pgs_nil))))) (pss_one (ps_ret (pe_tup (pa_cons (pv 1) (pa_cons (pe_frz (pe_callTy call_listQ rfl T.f_list (by decide +kernel) (pa_cons (pv 2) pa_nil))) (pa_cons (pe_frz (pe_callTy call_listQ rfl T.f_list (by decide +kernel) (pa_cons (pv 3) pa_nil))) pa_nil))))))), ?_⟩
    try dsimp only [cxOf]
    walk_at "st"
    refine s_gt (SqT.of hp) rfl ?_
    walk_at "st"
    refine s_list (sqF hy) fun l H1 n1 => s_frzN n1 trivial fun o1 H2 n2 => ?_
    walk_at "st"
    have hz2 := n2.old hz
    refine s_list (sqF hz2) fun l3 H3 n3 => s_frzN n3 trivial fun o4 H4 n4 => ?_
    walk_at "st"
    refine s_newT (by simp) fun t H5 n5 => ?_
    have f : Fr TT [] H H5 [] := (n2.fr.trans n4.fr).trans n5.fr
    have f2 : Fr TT [] H2 H5 [] := n4.fr.trans n5.fr
    refine q _ _ f (.tup n5.at (.cons (f.fz h1) (.cons (.lst (f2.frz n2.at) (f.fza fy)) (.cons (.lst ((n5.fr (T := TT) (fp := [])).frz n4.at) (f.fza fz)) .nil))))
theorem sc_book_copied : FnScope ["book", "dealing"] ["book"] (defScope s_book_copied) := ⟨rfl, rfl, rfl, by decide +kernel, rfl, by decide +kernel, by decide +kernel⟩
def sp_book_copied (TT : List (Addr × Str)) : Sp := fun vs H Q _ => ∃ (v : V) (b : Bk), vs = [v] ∧ Fz H v (bkD b) ∧ b.deals.length ≤ 4 ∧ ∀ v' H', Fr TT [] H H' [] → Fz H' v' (bkD b) → Q v' H'
theorem k_book_copied {fd : FuncData} (T : Tx K mg) (F : FunD K "book_copied" "book_copied" (defArgs s_book_copied) (defBody s_book_copied) (defScope s_book_copied) [] [] (He.ga K "book_copied") fd) (h_dealing_copied : Cn P w K mg base 1 (He.ga K "dealing_copied") ["dealing"] (sp_dealing_copied TT)) :
    Cn P w K mg base 2 (He.ga K "book_copied") ["book"] (sp_book_copied TT) := by
  refine cn_of F sc_book_copied (fun vs H Q E h => ?_) (fun _ _ _ _ _ _ us hl => match us, hl with | [_], _ => rfl) fun cdv A outer s H vs Q E hr h => ?_
  · obtain ⟨v, d, rfl, _⟩ := h
    rfl
  · obtain ⟨v, b, rfl, hv, hb4, q⟩ := h
    obtain ⟨p, x, y, rfl, hp, h1, h2⟩ := hv.tup2
    obtain ⟨px, ox, xs, rfl, hx, fx⟩ := h1.lst_inv
    obtain ⟨py, oy, ys, rfl, hy, fy⟩ := h2.lst_inv
    have ly := fy.length
    rw [List.length_map] at ly
    refine ⟨_, PSs.nox (pss_one (ps_ret (pe_tup (pa_cons (pe_frz (pe_callTy call_listQ rfl T.f_list (by decide +kernel) (pa_cons (pe_ix ix_tup (pv 0) pe_int fun _ _ => rfl) pa_nil))) (pa_cons (pe_frz (pe_lc (own := [("dealing", 1)]) (g := (gName 1)) (tt := tYes) rfl sc_book_copied.nd (pi_list (pe_ix ix_tup (pv 0) pe_int fun _ _ => rfl)) (blkOk_by (N := ["book", "dealing"]) (sc := defScope s_book_copied) (by decide +kernel)) (fun _ _ _ _ _ => (pg_name (i := 1) sc_book_copied.nd rfl (by first | exact Or.inl rfl | exact Or.inr rfl))) (fun _ _ _ _ _ => pts_nil) (fun _ _ _ _ _ => (pe_cn h_dealing_copied (hr.mono (by decide)) rfl T.g_dealing_copied passL (pa_cons (pv 1) pa_nil))))) pa_nil))))), ?_⟩
    try dsimp only [cxOf]
    walk_at "st"
    refine s_ixT (SqT.of hp) atI_lit0 ?_
    walk_at "st"
    refine s_list (sqF hx) fun l H1 n1 => s_frzN n1 trivial fun o1 H2 n2 => ?_
    walk_at "st"
    refine s_ixT (SqT.of (n2.old hp)) atI_lit1 ?_
    refine s_IlR (sqF (n2.old hy)) ?_
    refine lcF (T := TT) [] (fun _ _ => True) (fun i => (b.deals.map dlD).take i) (fun _ z => nomatch z) trivial (by simp) (fun _ _ _ _ _ _ => trivial) (fun i H' _ f => f.sqL (sqF (n2.old hy)) (by simp)) (fun i => ?_) ?_ ?_
    · simp; omega
    · intro i x H' hx' _ f Y N yes no
      obtain ⟨d, ed, fd'⟩ := fy.of hx'
      rw [List.getElem?_map] at ed
      obtain ⟨dl, e1, rfl⟩ := Option.map_eq_some_iff.mp ed
      have hi : i < b.deals.length := (List.getElem?_eq_some_iff.mp e1).1
      walk_at "st"
      refine ⟨rfl, ?_⟩
      walk_at "st"
      refine ⟨_, dl, rfl, f.fz (n2.fz fd'), fun v' H4 f4 hv' => yes v' H4 _ f4 ?_ hv' trivial⟩
      rw [List.take_succ, List.getElem?_map, e1]
      rfl
    · intro D H' acc hD _ f hacc fz
      refine s_frzM hacc trivial fun o3 H3 c3 => ?_
      walk_at "st"
      refine s_newT (by simp) fun t H5 n5 => ?_
      rw [show ys.length = (b.deals.map dlD).length from by rw [List.length_map, ly], List.take_length] at fz
      have f1 : Fr TT [] H H' [] := n2.fr.trans f
      have f3 : Fr TT [D] H' H3 [D] := c3.fr hacc trivial (by simp)
      have f13 : Fr TT [] H H3 [] := by
        refine (Fr.trans (f1.more (fp2 := [D]) fun b z => ?_) f3).less (by simp)
        rw [List.mem_singleton] at z
        exact .inr (.inr (by rw [z]; exact (n2.fr (T := TT) (fp := [])).dom D hD))
      have f15 : Fr TT [] H H5 [] := f13.trans n5.fr
      refine q _ _ f15 (.tup n5.at (.cons (.lst (((f.imm.trans f3.imm).trans (n5.fr (T := TT) (fp := [])).imm) _ _ n2.at trivial) (f15.fza fx)) (.cons (.lst ((n5.fr (T := TT) (fp := [])).frz c3.at) ((n5.fr (T := TT) (fp := [])).fza (f3.fza fz))) .nil)))
end
end K28
/-! ## K28d2 -/
namespace K28
set_option maxHeartbeats 3900000
open L2 LamX PySem PySem.Spec PyProof.Rows
local macro_rules | `(tactic| walk_at "st") => `(tactic| repeat (first
  | with_reducible refine s_seq ?_ | with_reducible refine s_ret ?_ | with_reducible refine s_retN ?_ | with_reducible refine s_drop ?_ | with_reducible refine s_asg ?_ | with_reducible refine s_gn ?_ | with_reducible refine s_nextq ?_
  | ((with_reducible apply s_var); exact rfl) | with_reducible refine s_c ?_ | with_reducible refine s_op ?_ | with_reducible refine s_I0 ?_ | ((with_reducible refine s_eq ?_ ?_); exact rfl) | ((with_reducible refine s_ne ?_ ?_); exact rfl)
  | with_reducible refine s_test ?_ | with_reducible refine s_tB ?_ | with_reducible refine s_bl ?_ | with_reducible refine s_and ?_ | with_reducible refine s_or ?_ | with_reducible refine s_not ?_ | with_reducible refine s_andV ?_ | with_reducible refine s_orV ?_ | with_reducible refine s_notV ?_
  | with_reducible refine s_blP ?_ | with_reducible refine s_ifS ?_ | with_reducible refine s_nil ?_ | with_reducible refine s_cons ?_ | with_reducible refine s_cb ?_ | with_reducible refine s_call ?_ | with_reducible refine s_tup ?_ | with_reducible refine s_lst ?_
  | with_reducible refine s_isN ?_ | with_reducible refine s_notN ?_ | with_reducible refine s_un ?_ | with_reducible refine s_U ?_ | with_reducible refine s_fld ?_ | with_reducible refine s_put ?_ | with_reducible refine s_meth ?_ | with_reducible refine s_gc ?_ | with_reducible refine s_g0 ?_
  | with_reducible refine s_dz ?_ | with_reducible refine s_make ?_ | with_reducible refine s_m1 ?_ | with_reducible refine s_chain ?_ | with_reducible refine s_iZ ?_ | with_reducible refine s_dput ?_ | with_reducible refine s_dget ?_ | with_reducible refine s_din ?_ | with_reducible refine s_lc ?_ | with_reducible refine s_for ?_ | with_reducible refine s_iL ?_ | with_reducible refine s_iE ?_ | with_reducible refine s_iR1 ?_ | with_reducible refine s_iR2 ?_ | with_reducible refine s_yes ?_
  | with_reducible refine s_frz ?_ | with_reducible refine s_bm ?_ | with_reducible refine s_bm0 ?_ | with_reducible refine s_iff ?_ | with_reducible refine s_ift ?_ | with_reducible refine s_ifnt ?_ | with_reducible refine s_ifnf ?_))
section
variable {P : Program} {w : World} {K : PySem.W.Frag} {mg : Str → Option Value} {base : Heap} {TT : List (Addr × Str)}
/-! ### number_by, dealing_by -/
theorem sc_number_by : FnScope ["book", "name", "numbers", "at", "dealing", "e"] ["book", "name"] (defScope s_number_by) := ⟨rfl, rfl, rfl, by decide +kernel, rfl, by decide +kernel, by decide +kernel⟩
def sp_number_by (TT : List (Addr × Str)) : Sp := fun vs H Q _ => ∃ (v : V) (b : Bk) (n : Nat) (d : Dl), vs = [v, .str d.name] ∧ Fz H v (bkD b) ∧ BkOk b ∧ b.deals[n]? = some d ∧ ∀ H', Fr TT [] H H' [] → Q (.int n) H'
theorem deals_get {H : Hp} {b : Bk} {ys : List V} (fy : FzA H ys (b.deals.map dlD)) {i : Nat} {x : V} (h : ys[i]? = some x) : ∃ d, b.deals[i]? = some d ∧ Fz H x (dlD d) := by
  obtain ⟨d, ed, fd⟩ := fy.of h
  rw [List.getElem?_map] at ed
  obtain ⟨dl, e1, rfl⟩ := Option.map_eq_some_iff.mp ed
  exact ⟨dl, e1, fd⟩
theorem names_inj {b : Bk} (B : BkOk b) {i j : Nat} {d e : Dl} (hi : b.deals[i]? = some d) (hj : b.deals[j]? = some e) (h : d.name = e.name) : i = j := by
  have h1 : (b.deals.map (·.name))[i]? = some d.name := by rw [List.getElem?_map, hi]; rfl
  have h2 : (b.deals.map (·.name))[j]? = some d.name := by rw [List.getElem?_map, hj, h]; rfl
  obtain ⟨l1, e1⟩ := List.getElem?_eq_some_iff.mp h1
  obtain ⟨l2, e2⟩ := List.getElem?_eq_some_iff.mp h2
  exact (List.getElem_inj B.dn).mp (e1.trans e2.symm)
theorem k_number_by {fd : FuncData} (T : Tx K mg) (F : FunD K "number_by" "number_by" (defArgs s_number_by) (defBody s_number_by) (defScope s_number_by) [] [] (He.ga K "number_by") fd) : Cn P w K mg base 1 (He.ga K "number_by") ["book", "name"] (sp_number_by TT) := by
  refine cn_of F sc_number_by (fun vs H Q E h => ?_) (fun _ _ _ _ _ _ us hl => match us, hl with | [_, _], _ => rfl) fun cdv A outer s H vs Q E hr h => ?_
  · obtain ⟨v, b, n, d, rfl, _⟩ := h
    rfl
  · obtain ⟨v, b, n, d, rfl, hv, B, hn, q⟩ := h
    obtain ⟨p, x, y, rfl, hp, h1, h2⟩ := hv.tup2
    obtain ⟨py, oy, ys, rfl, hy, fy⟩ := h2.lst_inv
    have ly := fy.length
    rw [List.length_map] at ly
    refine ⟨_, PSs.nox (pss_cons (ps_set (i := 2) sc_number_by.nd rfl (by first | exact Or.inl rfl | exact Or.inr rfl) pe_dnewK) (pss_cons (ps_for PassesOwn.never rfl (pi_enum rfl T.f_enumerate (pa_cons (pe_ix ix_tup (pv 0) pe_int fun _ _ => rfl) pa_nil)) (pg_tup rfl (pgs_cons (pg_name (i := 3) sc_number_by.nd rfl (by first | exact Or.inl rfl | exact Or.inr rfl)) (pgs_cons (pg_name (i := 4) sc_number_by.nd rfl (by first | exact Or.inl rfl | exact Or.inr rfl)) pgs_nil))) (pss_one (ps_dput (hu_of hr) (pv 2) (pe_ix ix_tup (pv 4) pe_int fun _ _ => rfl) (pv 3) rfl))) (pss_cons (ps_if (pt_not (pt_val (pe_callB call_isi rfl T.f_isinstance (by decide +kernel) (pa_cons (pv 1) (pa_cons (pe_bltn (v := .ty "str") (u := .type "str") rfl T.f_str (by decide +kernel) rfl) pa_nil))))) (pss_one ps_never) pss_nil) (pss_one (ps_try_thru0 (pss_one (ps_ret (pe_dget (hu_of hr) (pv 2) (pv 1) fun _ _ => rfl)))))))), ?_⟩
    try dsimp only [cxOf]
    walk_at "st"
    refine s_dnew fun np H1 n1 => ?_
    walk_at "st"
    refine s_ixT (SqT.of (n1.old hp)) atI_lit1 ?_
    walk_at "st"
    refine s_IeR (sqF (n1.old hy)) ?_
    refine forJ (T := TT) (gives_enum (xs := ys)) (fun i σ H' => ∃ a1 a2, σ = [some (.ref p), some (.str d.name), some (.ref np), a1, a2, none] ∧ Fr TT [] H H' [] ∧ ∃ kvs, H' np = some (.dK kvs) ∧ kvs.length ≤ i ∧ ∀ j e, j < i → b.deals[j]? = some e → valV kvs (.inr e.name) = some (.int j)) ?_ ?_ ?_ ?_
    · exact ⟨_, _, rfl, n1.fr, [], n1.at, Nat.le_refl _, fun j e hj => absurd hj (Nat.not_lt_zero _)⟩
    · rintro i σ H' hi ⟨a1, a2, rfl, f, _⟩
      exact f.sqL (sqF hy) (by simp)
    · rintro i x' σ H' H'' hi ⟨a1, a2, rfl, f, kvs, hk, hlen, hval⟩ f0 ⟨tp, xi, rfl, htp, hxi⟩
      obtain ⟨e, e1, fe⟩ := deals_get fy hxi
      have f2 : Fr TT [] H H'' [] := f.trans f0
      obtain ⟨pe, a, b', c, rfl, hpe, ha, _, _⟩ := (f2.fz fe).tup3
      obtain rfl := ha.str_inv
      refine s_gt (SqT.of htp) rfl ?_
      walk_at "st"
      refine s_ixT (SqT.of hpe) atI_lit0 ?_
      have hk2 := f0.get hk (by simp) trivial
      refine s_DputS hk2 (by have := B.d4; omega) fun H3 c3 => ?_
      refine ⟨_, _, rfl, c3.back f2 n1.no hk2 trivial, _, c3.at, ?_, ?_⟩
      · exact Nat.le_trans (length_putK _ _ _) (by omega)
      · intro j e' hj he'
        rw [valV_put]
        by_cases hji : j = i
        · subst hji
          rw [e1] at he'
          cases he'
          rw [if_pos rfl]
        · rw [if_neg]
          · exact hval j e' (by omega) he'
          · intro z
            exact hji (names_inj B he' e1 (Sum.inr.inj z))
    · rintro σ H' ⟨a1, a2, rfl, f, kvs, hk, hlen, hval⟩
      walk_at "st"
      refine s_isB true (.base (.str _)) (by decide +kernel) ?_
      walk_at "st"
      refine s_DgetS (.inl hk) (hval n d (by rw [ly]; exact (List.getElem?_eq_some_iff.mp hn).1) hn) ?_
      exact q _ f
theorem sc_dealing_by : FnScope ["book", "name"] ["book", "name"] (defScope s_dealing_by) := ⟨rfl, rfl, rfl, by decide +kernel, rfl, by decide +kernel, by decide +kernel⟩
def sp_dealing_by (TT : List (Addr × Str)) : Sp := fun vs H Q _ => ∃ (v : V) (b : Bk) (n : Nat) (d : Dl), vs = [v, .str d.name] ∧ Fz H v (bkD b) ∧ BkOk b ∧ b.deals[n]? = some d ∧ ∀ v' H', Fr TT [] H H' [] → Fz H' v' (dlD d) → Q v' H'
theorem k_dealing_by {fd : FuncData} (T : Tx K mg) (F : FunD K "dealing_by" "dealing_by" (defArgs s_dealing_by) (defBody s_dealing_by) (defScope s_dealing_by) [] [] (He.ga K "dealing_by") fd) (h_dealing_copied : Cn P w K mg base 1 (He.ga K "dealing_copied") ["dealing"] (sp_dealing_copied TT)) (h_number_by : Cn P w K mg base 1 (He.ga K "number_by") ["book", "name"] (sp_number_by TT)) :
    Cn P w K mg base 2 (He.ga K "dealing_by") ["book", "name"] (sp_dealing_by TT) := by
  refine cn_of F sc_dealing_by (fun vs H Q E h => ?_) (fun _ _ _ _ _ _ us hl => match us, hl with | [_, _], _ => rfl) fun cdv A outer s H vs Q E hr h => ?_
  · obtain ⟨v, b, n, d, rfl, _⟩ := h
    rfl
  · obtain ⟨v, b, n, d, rfl, hv, B, hn, q⟩ := h
    obtain ⟨p, x, y, rfl, hp, h1, h2⟩ := id hv.tup2
    obtain ⟨py, oy, ys, rfl, hy, fy⟩ := h2.lst_inv
    refine ⟨_, PSs.nox (pss_one (ps_ret (pe_cn h_dealing_copied (hr.mono (by decide)) rfl T.g_dealing_copied passL (pa_cons (pe_ix ix_list (pe_ix ix_tup (pv 0) pe_int fun _ _ => rfl) (pe_cn h_number_by (hr.mono (by decide)) rfl T.g_number_by passL (pa_cons (pv 0) (pa_cons (pv 1) pa_nil))) fun _ _ => rfl) pa_nil)))), ?_⟩
    try dsimp only [cxOf]
    walk_at "st"
    refine s_ixT (SqT.of hp) atI_lit1 ?_
    walk_at "st"
    refine ⟨_, b, n, d, rfl, hv, B, hn, fun H1 f1 => ?_⟩
    obtain ⟨z, hz, fz⟩ := fy.at (i := n) (d := dlD d) (by rw [List.getElem?_map, hn]; rfl)
    refine s_ixL (sqF (f1.frz hy)) (atI_nat hz) ?_
    walk_at "st"
    exact ⟨z, d, rfl, f1.fz fz, fun v' H' f2 hv' => q v' H' (f1.trans f2) hv'⟩
/-! ### keys -/
theorem sc_is_key_by : FnScope ["kinds", "thing"] ["kinds", "thing"] (defScope s_is_key_by) := ⟨rfl, rfl, rfl, by decide +kernel, rfl, by decide +kernel, by decide +kernel⟩
def sp_is_key_by : Sp := fun vs H Q _ => ∃ (kp : Addr) (v : V) (b : Bk) (k : Ky), vs = [.ref kp, v] ∧ KdAt H kp b ∧ Fz H v (kyD k) ∧ KyOk b k ∧ Q (.bl true) H
theorem k_is_key_by {fd : FuncData} (T : Tx K mg) (F : FunD K "is_key_by" "is_key_by" (defArgs s_is_key_by) (defBody s_is_key_by) (defScope s_is_key_by) [] [] (He.ga K "is_key_by") fd) (h_is_pair : Cn P w K mg base 1 (He.ga K "is_pair") ["thing"] sp_is_pair) (h_is_whole : Cn P w K mg base 1 (He.ga K "is_whole") ["thing"] sp_is_whole) :
    Cn P w K mg base 2 (He.ga K "is_key_by") ["kinds", "thing"] sp_is_key_by := by
  refine cn_of F sc_is_key_by (fun vs H Q E h => ?_) (fun _ _ _ _ _ _ us hl => match us, hl with | [_, _], _ => rfl) fun cdv A outer s H vs Q E hr h => ?_
  · obtain ⟨kp, v, b, k, rfl, _⟩ := h
    rfl
  · obtain ⟨kp, v, b, k, rfl, ⟨kvs, hk, hkv⟩, hv, ⟨m, hm, hpos, hmz⟩, q⟩ := h
    obtain ⟨p, x, y, rfl, hp, h1, h2⟩ := hv.tup2
    obtain rfl := h1.str_inv
    obtain rfl := h2.int_inv
    have hval := hkv _ _ hm
    refine ⟨_, PSs.nox (pss_cons (ps_if (PW.pt (pw_or (pt_not (pt_val (pe_cn h_is_pair (hr.mono (by decide)) rfl T.g_is_pair passL (pa_cons (pv 1) pa_nil)))) (pw_or (pt_not (pt_val (pe_callB call_isi rfl T.f_isinstance (by decide +kernel) (pa_cons (pe_ix ix_tup (pv 1) pe_int fun _ _ => rfl) (pa_cons (pe_bltn (v := .ty "str") (u := .type "str") rfl T.f_str (by decide +kernel) rfl) pa_nil))))) (pw_or (pt_not (pt_val (pe_cn h_is_whole (hr.mono (by decide)) rfl T.g_is_whole passL (pa_cons (pe_ix ix_tup (pv 1) pe_int fun _ _ => rfl) pa_nil)))) (pw_or1 (pt_cmpR op_lt (pe_ix ix_tup (pv 1) pe_int fun _ _ => rfl) pe_int (nomark _))))))) (pss_one (ps_ret pe_bl)) pss_nil) (pss_one (ps_ret (pe_and (pe_cmp (pc_din (hu_of hr) (pe_ix ix_tup (pv 1) pe_int fun _ _ => rfl) (pv 0))) (pe_one (pe_or (pe_dget (hu_of hr) (pv 0) (pe_ix ix_tup (pv 1) pe_int fun _ _ => rfl) fun _ _ => rfl) (pe_one (pe_cmpR op_eq (pe_ix ix_tup (pv 1) pe_int fun _ _ => rfl) pe_int (nomark _))))))))), ?_⟩
    try dsimp only [cxOf]
    walk_at "st"
    refine ⟨p, _, _, rfl, hp, ?_⟩
    walk_at "st"
    refine s_ixT (SqT.of hp) atI_lit0 ?_
    walk_at "st"
    refine s_isB true (.base (.str _)) (by decide +kernel) ?_
    walk_at "st"
    refine s_ixT (SqT.of hp) atI_lit1 ?_
    walk_at "st"
    refine ⟨_, rfl, ?_⟩
    walk_at "st"
    refine s_ixT (SqT.of hp) atI_lit1 ?_
    walk_at "st"
    rw [decide_eq_false (show ¬ k.2 < 0 by omega)]
    walk_at "st"
    refine s_ixT (SqT.of hp) atI_lit0 ?_
    walk_at "st"
    refine s_DinS (.inl hk) ?_
    rw [hval]
    refine s_blP ?_
    refine s_ift ?_
    refine s_orV ?_
    walk_at "st"
    refine s_ixT (SqT.of hp) atI_lit0 ?_
    refine s_DgetS (.inl hk) hval ?_
    refine s_blP ?_
    cases m with
    | true =>
      walk_at "st"
      exact q
    | false =>
      walk_at "st"
      refine s_ixT (SqT.of hp) atI_lit1 ?_
      walk_at "st"
      rw [hmz rfl]
      exact q
theorem sc_is_key : FnScope ["book", "thing"] ["book", "thing"] (defScope s_is_key) := ⟨rfl, rfl, rfl, by decide +kernel, rfl, by decide +kernel, by decide +kernel⟩
def sp_is_key (TT : List (Addr × Str)) : Sp := fun vs H Q _ => ∃ (v u : V) (b : Bk) (k : Ky), vs = [v, u] ∧ Fz H v (bkD b) ∧ BkOk b ∧ Fz H u (kyD k) ∧ KyOk b k ∧ ∀ H', Fr TT [] H H' [] → Q (.bl true) H'
theorem k_is_key {fd : FuncData} (T : Tx K mg) (F : FunD K "is_key" "is_key" (defArgs s_is_key) (defBody s_is_key) (defScope s_is_key) [] [] (He.ga K "is_key") fd) (h_is_key_by : Cn P w K mg base 2 (He.ga K "is_key_by") ["kinds", "thing"] sp_is_key_by) : Cn P w K mg base 3 (He.ga K "is_key") ["book", "thing"] (sp_is_key TT) := by
  refine cn_of F sc_is_key (fun vs H Q E h => ?_) (fun _ _ _ _ _ _ us hl => match us, hl with | [_, _], _ => rfl) fun cdv A outer s H vs Q E hr h => ?_
  · obtain ⟨v, u, b, k, rfl, _⟩ := h
    rfl
  · obtain ⟨v, u, b, k, rfl, hv, B, hu, hk, q⟩ := h
    obtain ⟨p, x, y, rfl, hp, h1, h2⟩ := hv.tup2
    refine ⟨_, PSs.nox (pss_one (ps_ret (pe_cn h_is_key_by (hr.mono (by decide)) rfl T.g_is_key_by passL (pa_cons (pe_callTy (call_dictQ rfl) rfl T.f_dict (by decide +kernel) (pa_cons (pe_ix ix_tup (pv 0) pe_int fun _ _ => rfl) pa_nil)) (pa_cons (pv 1) pa_nil))))), ?_⟩
    try dsimp only [cxOf]
    walk_at "st"
    refine s_ixT (SqT.of hp) atI_lit0 ?_
    walk_at "st"
    refine s_kinds B h1 fun l H1 ⟨_, n1⟩ kd => ?_
    walk_at "st"
    exact ⟨l, _, b, k, rfl, kd, n1.fz hu, hk, q _ n1.fr⟩
end
end K28
/-! ## K28d3 -/
namespace K28
set_option maxHeartbeats 3900000
open L2 LamX PySem PySem.Spec PyProof.Rows
local macro_rules | `(tactic| walk_at "st") => `(tactic| repeat (first
  | with_reducible refine s_seq ?_ | with_reducible refine s_ret ?_ | with_reducible refine s_retN ?_ | with_reducible refine s_drop ?_ | with_reducible refine s_asg ?_ | with_reducible refine s_gn ?_ | with_reducible refine s_nextq ?_
  | ((with_reducible apply s_var); exact rfl) | with_reducible refine s_c ?_ | with_reducible refine s_op ?_ | with_reducible refine s_I0 ?_ | ((with_reducible refine s_eq ?_ ?_); exact rfl) | ((with_reducible refine s_ne ?_ ?_); exact rfl)
  | with_reducible refine s_test ?_ | with_reducible refine s_tB ?_ | with_reducible refine s_bl ?_ | with_reducible refine s_and ?_ | with_reducible refine s_or ?_ | with_reducible refine s_not ?_ | with_reducible refine s_andV ?_ | with_reducible refine s_orV ?_ | with_reducible refine s_notV ?_
  | with_reducible refine s_blP ?_ | with_reducible refine s_ifS ?_ | with_reducible refine s_nil ?_ | with_reducible refine s_cons ?_ | with_reducible refine s_cb ?_ | with_reducible refine s_call ?_ | with_reducible refine s_tup ?_ | with_reducible refine s_lst ?_
  | with_reducible refine s_isN ?_ | with_reducible refine s_notN ?_ | with_reducible refine s_un ?_ | with_reducible refine s_U ?_ | with_reducible refine s_fld ?_ | with_reducible refine s_put ?_ | with_reducible refine s_meth ?_ | with_reducible refine s_gc ?_ | with_reducible refine s_g0 ?_
  | with_reducible refine s_dz ?_ | with_reducible refine s_make ?_ | with_reducible refine s_m1 ?_ | with_reducible refine s_chain ?_ | with_reducible refine s_iZ ?_ | with_reducible refine s_dput ?_ | with_reducible refine s_dget ?_ | with_reducible refine s_din ?_ | with_reducible refine s_lc ?_ | with_reducible refine s_for ?_ | with_reducible refine s_iL ?_ | with_reducible refine s_iE ?_ | with_reducible refine s_iR1 ?_ | with_reducible refine s_iR2 ?_ | with_reducible refine s_yes ?_
  | with_reducible refine s_frz ?_ | with_reducible refine s_bm ?_ | with_reducible refine s_bm0 ?_ | with_reducible refine s_iff ?_ | with_reducible refine s_ift ?_ | with_reducible refine s_ifnt ?_ | with_reducible refine s_ifnf ?_))
section
variable {P : Program} {w : World} {K : PySem.W.Frag} {mg : Str → Option Value} {base : Heap} {TT : List (Addr × Str)}
theorem sc_are_keys : FnScope ["book", "name", "thing", "letters", "kinds", "row", "key"] ["book", "name", "thing"] (defScope s_are_keys) := ⟨rfl, rfl, rfl, by decide +kernel, rfl, by decide +kernel, by decide +kernel⟩
def sp_are_keys (TT : List (Addr × Str)) : Sp := fun vs H Q _ => ∃ (v u : V) (b : Bk) (n : Nat) (ks : List Ky), vs = [v, .str (dlOf b n).name, u] ∧ Fz H v (bkD b) ∧ BkOk b ∧ n < b.deals.length ∧ Fz H u (.list (ks.map kyD)) ∧ KsOk b n ks ∧ ∀ H', Fr TT [] H H' [] → Q (.bl true) H'
theorem k_are_keys {fd : FuncData} (T : Tx K mg) (F : FunD K "are_keys" "are_keys" (defArgs s_are_keys) (defBody s_are_keys) (defScope s_are_keys) [] [] (He.ga K "are_keys") fd) (h_dealing_by : Cn P w K mg base 2 (He.ga K "dealing_by") ["book", "name"] (sp_dealing_by TT)) (h_is_key_by : Cn P w K mg base 2 (He.ga K "is_key_by") ["kinds", "thing"] sp_is_key_by) :
    Cn P w K mg base 3 (He.ga K "are_keys") ["book", "name", "thing"] (sp_are_keys TT) := by
  refine cn_of F sc_are_keys (fun vs H Q E h => ?_) (fun _ _ _ _ _ _ us hl => match us, hl with | [_, _, _], _ => rfl) fun cdv A outer s H vs Q E hr h => ?_
  · obtain ⟨v, u, b, n, ks, rfl, _⟩ := h
    rfl
  · obtain ⟨v, u, b, n, ks, rfl, hv, B, hn, hu, hks, q⟩ := h
    obtain ⟨p, x, y, rfl, hp, h1, h2⟩ := id hv.tup2
    obtain ⟨pu, ou, us, rfl, hpu, fu⟩ := id hu.lst_inv
    have lu := fu.length
    rw [List.length_map] at lu
    have lk := hks.length
    refine ⟨_, PSs.nox (pss_cons (ps_set (i := 3) sc_are_keys.nd rfl (by first | exact Or.inl rfl | exact Or.inr rfl) (pe_ix ix_tup (pe_cn h_dealing_by (hr.mono (by decide)) rfl T.g_dealing_by passL (pa_cons (pv 0) (pa_cons (pv 1) pa_nil))) pe_int fun _ _ => rfl)) (pss_cons (ps_if (PW.pt (pw_or (pt_not (pt_val (pe_callB call_isL rfl T.f_isinstance (by decide +kernel) (pa_cons (pv 2) (pa_cons (pe_bltn (v := .ty "list") (u := .type "list") rfl T.f_list (by decide +kernel) rfl) pa_nil))))) (pw_or1 (pt_cmpR op_ne (pe_callB call_lenQ rfl T.f_len (by decide +kernel) (pa_cons (pv 2) pa_nil)) (pe_callB call_lenQ rfl T.f_len (by decide +kernel) (pa_cons (pv 3) pa_nil)) (nomark _))))) (pss_one (ps_ret pe_bl)) pss_nil) (pss_cons (ps_set (i := 4) sc_are_keys.nd rfl (by first | exact Or.inl rfl | exact Or.inr rfl) (pe_callTy (call_dictQ rfl) rfl T.f_dict (by decide +kernel) (pa_cons (pe_ix ix_tup (pv 0) pe_int fun _ _ => rfl) pa_nil))) (pss_cons (ps_for PassesOwn.never rfl (pi_zs rfl T.f_zip (pa_cons (pv 3) (pa_cons (pv 2) pa_nil)) (pk_cons pe_bl pk_nil)) (pg_tup rfl (pgs_cons (pg_name (i := 5) sc_are_keys.nd rfl (by first | exact Or.inl rfl | exact Or.inr rfl)) (pgs_cons (pg_name (i := 6) sc_are_keys.nd rfl (by first | exact Or.inl rfl | exact Or.inr rfl)) pgs_nil))) (pss_one (ps_if (PW.pt (pw_or (pt_not (pt_val (pe_cn h_is_key_by (hr.mono (by decide)) rfl T.g_is_key_by passL (pa_cons (pv 4) (pa_cons (pv 6) pa_nil))))) (pw_or1 (pt_cmpR op_ne (pe_ix ix_tup (pv 6) pe_int fun _ _ => rfl) (pe_ix ix_tup (pv 5) pe_int fun _ _ => rfl) (nomark _))))) (pss_one (ps_ret pe_bl)) pss_nil))) (pss_one (ps_ret pe_bl)))))), ?_⟩
    try dsimp only [cxOf]
    walk_at "st"
    refine ⟨_, b, n, dlOf b n, rfl, hv, B, (dlOf_mem hn).1, fun v' H1 f1 hv' => ?_⟩
    obtain ⟨pv, c1, c2, c3, rfl, hpv, _, g2, _⟩ := hv'.tup3
    obtain ⟨pl, ol, ls, rfl, hpl, fl⟩ := g2.lst_inv
    have ll := fl.length
    rw [List.length_map] at ll
    walk_at "st"
    refine s_ixT (SqT.of hpv) atI_lit1 ?_
    walk_at "st"
    refine ⟨_, us, "list", true, rfl, sqF (f1.frz hpu), kit_ty (by decide +kernel), ?_⟩
    walk_at "st"
    refine s_lenL (sqF (f1.frz hpu)) ?_
    walk_at "st"
    refine s_lenL (sqF hpl) ?_
    walk_at "st"
    rw [decide_eq_true (show V.int us.length = V.int ls.length by rw [lu, ll, lk])]
    walk_at "st"
    refine s_ixT (SqT.of (f1.tup hp)) atI_lit0 ?_
    walk_at "st"
    refine s_kinds B (f1.fz h1) fun l H2 ⟨_, n2⟩ kd => ?_
    walk_at "st"
    have hpl2 := n2.old hpl
    have hpu2 := n2.old (f1.frz hpu)
    refine s_ZsR (sqF hpl2) (sqF hpu2) ?_
    refine forJ (T := TT) (gives_zs (xs := ls) (ys := us) (by omega)) (fun i σ H' => ∃ a1 a2, σ = [some (.ref p), some (.str (dlOf b n).name), some (.ref pu), some (.ref pl), some (.ref l), a1, a2] ∧ Fr TT [] H2 H' []) ⟨_, _, rfl, .refl⟩ ?_ ?_ ?_
    · rintro i σ H' hi ⟨a1, a2, rfl, f⟩
      exact ⟨f.sqL (sqF hpl2) (by simp), f.sqL (sqF hpu2) (by simp)⟩
    · rintro i x' σ H' H'' hi ⟨a1, a2, rfl, f⟩ f0 ⟨tp, xi, yi, rfl, htp, hxi, hyi⟩
      have f2 : Fr TT [] H2 H'' [] := f.trans f0
      obtain ⟨ed, e1, fe⟩ := fl.of hxi
      rw [List.getElem?_map] at e1
      obtain ⟨pr, e2, rfl⟩ := Option.map_eq_some_iff.mp e1
      obtain ⟨kd1, k1, fk⟩ := fu.of hyi
      rw [List.getElem?_map] at k1
      obtain ⟨ky, k2, rfl⟩ := Option.map_eq_some_iff.mp k1
      obtain ⟨kvs, hkv, hkq⟩ := kd
      have fk2 : Fz H'' yi (kyD ky) := f2.fz (n2.fz (f1.fz fk))
      obtain ⟨pr1, r1, r2, rfl, hpr, rr1, rr2⟩ := (f2.fz (n2.fz fe)).tup2
      obtain ⟨pk1, t1, t2, rfl, hpk, tt1, tt2⟩ := id fk2.tup2
      obtain rfl := rr2.str_inv
      obtain rfl := tt1.str_inv
      refine s_gt (SqT.of htp) rfl ?_
      walk_at "st"
      refine ⟨_, _, b, ky, rfl, ⟨kvs, f2.get hkv (by simp) trivial, hkq⟩, fk2, hks.2 _ (List.mem_of_getElem? k2), ?_⟩
      walk_at "st"
      refine s_ixT (SqT.of hpk) atI_lit0 ?_
      walk_at "st"
      refine s_ixT (SqT.of hpr) atI_lit1 ?_
      walk_at "st"
      have e : ky.1 = pr.2 := by
        have h1 : (ks.map (·.1))[i]? = some ky.1 := by rw [List.getElem?_map, k2]; rfl
        rw [hks.1, List.getElem?_map, e2] at h1
        exact Eq.symm (Option.some.inj h1)
      rw [decide_eq_true (show V.str ky.1 = V.str pr.2 by rw [e])]
      walk_at "st"
      exact ⟨_, _, rfl, f2⟩
    · rintro σ H' ⟨a1, a2, rfl, f⟩
      walk_at "st"
      exact q _ (f1.trans (n2.fr.trans f))
/-! ### Deal -/
theorem sc_Deal_init : FnScope ["self", "dealing", "keys", "row", "letter", "kind"] ["self", "dealing", "keys", "row"] (defScope s_Deal_init) := ⟨rfl, rfl, rfl, by decide +kernel, rfl, by decide +kernel, by decide +kernel⟩
def sp_Deal_init (K : PySem.W.Frag) (TT : List (Addr × Str)) : Sp := fun vs H Q _ => ∃ (p dx : Addr) (v u : V) (b : Bk) (di n : Nat) (ks : List Ky), vs = [.ref p, v, u, .int n] ∧ H p = some (.ins (He.ga K "Deal") dx []) ∧ Fz H v (dlD (dlOf b di)) ∧ Fz H u (.list (ks.map kyD)) ∧ BkOk b ∧ di < b.deals.length ∧
  KsOk b di ks ∧ ∀ tl H', Fr TT [p] H H' [p] → H tl = none → H' p ≠ none → tl ≠ p → DlAt (He.ga K "Deal") H' b p tl ⟨di, ks, n, none, .opn, []⟩ → Q .non H'
theorem k_Deal_init {fd : FuncData} (T : Tx K mg) (F : FunD K "__init__" "Deal.__init__" (defArgs s_Deal_init) (defBody s_Deal_init) (defScope s_Deal_init) [] [] (He.ma K (He.ga K "Deal") "__init__") fd) : Cn P w K mg base 1 (He.ma K (He.ga K "Deal") "__init__") ["self", "dealing", "keys", "row"] (sp_Deal_init K TT) := by
  refine cn_of F sc_Deal_init (fun vs H Q E h => ?_) (fun _ _ _ _ _ _ us hl => match us, hl with | [_, _, _, _], _ => rfl) fun cdv A outer s H vs Q E hr h => ?_
  · obtain ⟨p, dx, v, u, b, di, n, ks, rfl, _⟩ := h
    rfl
  · obtain ⟨p, dx, v, u, b, di, n, ks, rfl, hp, hv, hu, B, hdi, hks, q⟩ := h
    obtain ⟨pd, x, y, z, rfl, hpd, h1, h2, h3⟩ := id hv.tup3
    obtain rfl := h1.str_inv
    obtain ⟨pu, ou, us, rfl, hpu, fu⟩ := id hu.lst_inv
    obtain ⟨pl, ol, ls, rfl, hpl, fl⟩ := h2.lst_inv
    obtain ⟨pz, oz, zs, rfl, hpz, fz⟩ := h3.lst_inv
    have lu := fu.length
    have ll := fl.length
    rw [List.length_map] at lu ll
    have lk := hks.length
    have md := (dlOf_mem hdi).2
    refine ⟨_, PSs.nox (pss_cons (ps_fld (pv 0) (pe_ix ix_tup (pv 1) pe_int fun _ _ => rfl) rfl) (pss_cons (ps_fld (pv 0) (pe_frz (pe_callTy call_listQ rfl T.f_list (by decide +kernel) (pa_cons (pv 2) pa_nil))) rfl) (pss_cons (ps_fld (pv 0) (pe_frz (pe_dzip rfl rfl T.f_dict rfl T.f_zip (pa_cons (pe_lc (own := [("letter", 4), ("kind", 5)]) (g := (gTup K 2 (gCons (gName 4) (gCons (gName 5) gNil)))) (tt := tYes) rfl sc_Deal_init.nd (pi_list (pe_ix ix_tup (pv 1) pe_int fun _ _ => rfl)) (blkOk_by (N := ["self", "dealing", "keys", "row", "letter", "kind"]) (sc := defScope s_Deal_init) (by decide +kernel)) (fun _ _ _ _ _ => (pg_tup rfl (pgs_cons (pg_name (i := 4) sc_Deal_init.nd rfl (by first | exact Or.inl rfl | exact Or.inr rfl)) (pgs_cons (pg_name (i := 5) sc_Deal_init.nd rfl (by first | exact Or.inl rfl | exact Or.inr rfl)) pgs_nil)))) (fun _ _ _ _ _ => pts_nil) (fun _ _ _ _ _ => (pv 4))) (pa_cons (pv 2) pa_nil)))) rfl) (pss_cons (ps_fld (pv 0) (pe_frz (pe_callTy call_listQ rfl T.f_list (by decide +kernel) (pa_cons (pe_ix ix_tup (pv 1) pe_int fun _ _ => rfl) pa_nil))) rfl) (pss_cons (ps_fld (pv 0) (pe_lst pa_nil) rfl) (pss_cons (ps_fld (pv 0) (pv 3) rfl) (pss_cons (ps_fld (pv 0) pe_non rfl) (pss_one (ps_fld (pv 0) pe_str rfl))))))))), ?_⟩
    try dsimp only [cxOf]
    walk_at "st"
    refine s_ixT (SqT.of hpd) atI_lit0 ?_
    walk_at "st"
    refine s_PutC hp T.cD T.nD_title rfl (by show 0 < 1000; decide) fun H1 c1 => ?_
    have f1 : Fr TT [p] H H1 [p] := c1.fr hp trivial (by simp)
    walk_at "st"
    refine s_list (sqF (f1.frz hpu)) fun g H2' n2' => s_frzN n2' trivial fun og H2 n2 => ?_
    have f2 : Fr TT [p] H H2 [p] := f1.trans n2.fr
    walk_at "st"
    refine s_PutC (n2.old c1.at) T.cD T.nD_given rfl (by show 1 < 1000; decide) fun H3 c3 => ?_
    have f3 : Fr TT [p] H H3 [p] := f2.trans (c3.fr (n2.old c1.at) trivial (by simp))
    have hg3 : H3 g = some (.frz og (.lst us)) := (c3.fr (T := TT) (fp := [p]) (n2.old c1.at) trivial (by simp)).frz n2.at
    walk_at "st"
    refine s_ixT (SqT.of (f3.tup hpd)) atI_lit1 ?_
    have hpl3 := f3.frz hpl
    refine s_IlR (sqF hpl3) ?_
    refine lcJ (T := TT) (gives_list (xs := ls)) [] (fun _ _ => True) (fun i => ((dlOf b di).lets.map fun r => PyData.str r.1).take i) (fun _ z => nomatch z) trivial (by simp) (fun _ _ _ _ _ _ => trivial) (fun i H' _ f => f.sqL (sqF hpl3) (by simp)) (fun i => ?_) ?_ ?_
    · have := B.l0 _ md
      simp; omega
    · intro i x H' H'' hi _ f f0 hx' Y N yes no
      obtain ⟨ed, e1, fe⟩ := fl.of hx'
      rw [List.getElem?_map] at e1
      obtain ⟨pr, e2, rfl⟩ := Option.map_eq_some_iff.mp e1
      obtain ⟨pr1, r1, r2, rfl, hpr, rr1, rr2⟩ := (((f3.trans (f.up (by simp))).trans (f0.up (by simp))).fz fe).tup2
      obtain rfl := rr1.str_inv
      refine s_gt (SqT.of hpr) rfl ?_
      walk_at "st"
      refine ⟨rfl, ?_⟩
      walk_at "st"
      refine yes _ _ (.str pr.1) .refl ?_ (.str _) trivial
      rw [List.take_succ, List.getElem?_map, e2]
      rfl
    intro D' H4 acc hD _ f4 hacc facc
    rw [show ls.length = ((dlOf b di).lets.map fun r => PyData.str r.1).length from by rw [List.length_map, ll], List.take_length] at facc
    have eacc : acc = ((dlOf b di).lets.map fun r => (Sum.inr r.1 : Key)).map kV := by
      have e := FzA.strs_eq (xs := (dlOf b di).lets.map (·.1)) (vs := acc) (H := H4) (by rw [List.map_map]; exact facc)
      rw [e, List.map_map, List.map_map]
      rfl
    have f34 : Fr TT [p] H H4 [p] := f3.trans (f4.up (by simp))
    walk_at "st"
    refine s_DzR (ks := (dlOf b di).lets.map fun r => (Sum.inr r.1 : Key)) (ys := us) (SqL.of (by rw [hacc, eacc])) (sqF (f34.frz hpu)) (by rw [List.length_map, lu, lk]) fun kb H5' n5' => s_frzN n5' trivial fun okb H5 n5 => ?_
    have f5 : Fr TT [p] H H5 [p] := f34.trans n5.fr
    have hp4 := n5.old (f4.get c3.at (by simp) trivial)
    walk_at "st"
    refine s_PutC hp4 T.cD T.nD_key_by rfl (by show 2 < 1000; decide) fun H6 c6 => ?_
    have f56 : Fr TT [p] H5 H6 [p] := c6.fr hp4 trivial (by simp)
    have f6 := f5.trans f56
    walk_at "st"
    refine s_ixT (SqT.of (f6.tup hpd)) atI_lit2 ?_
    walk_at "st"
    refine s_list (sqF (f6.frz hpz)) fun ah H7' n7' => s_frzN n7' trivial fun oah H7 n7 => ?_
    walk_at "st"
    refine s_PutC (n7.old c6.at) T.cD T.nD_ahead rfl (by show 3 < 1000; decide) fun H8 c8 => ?_
    have f68 : Fr TT [p] H6 H8 [p] := (n7.fr).trans (c8.fr (n7.old c6.at) trivial (by simp))
    have hah : H8 ah = some (.frz oah (.lst zs)) := (c8.fr (T := TT) (fp := [p]) (n7.old c6.at) trivial (by simp)).frz n7.at
    walk_at "st"
    refine s_newL (by simp) fun tl H9 n9 => ?_
    have np : p ≠ tl := n9.ne c8.at
    have hp9 := n9.old c8.at
    walk_at "st"
    refine s_PutC hp9 T.cD T.nD_told rfl (by show 4 < 1000; decide) fun H10 c10 => ?_
    walk_at "st"
    refine s_PutC c10.at T.cD T.nD_begun rfl (by show 5 < 1000; decide) fun H11 c11 => ?_
    walk_at "st"
    refine s_PutC c11.at T.cD T.nD_ended rfl (by show 6 < 1000; decide) fun H12 c12 => ?_
    walk_at "st"
    refine s_PutC c12.at T.cD T.nD_word rfl (by show 7 < 1000; decide) fun H13 c13 => ?_
    walk_at "st"
    have ftl : H13 tl = some (.lst []) := c13.old (c12.old (c11.old (c10.old n9.at np.symm) np.symm) np.symm) np.symm
    have f9 : Fr TT [p] H8 H9 [p] := n9.fr
    have f913 : Fr TT [p] H9 H13 [p] := (((c10.fr hp9 trivial (by simp)).trans (c11.fr c10.at trivial (by simp))).trans (c12.fr c11.at trivial (by simp))).trans (c13.fr c12.at trivial (by simp))
    have f8 : Fr TT [p] H H8 [p] := f6.trans f68
    have f13 : Fr TT [p] H H13 [p] := (f8.trans f9).trans f913
    have g3 : Fr TT [p] H3 H13 [p] := ((((f4.up (by simp)).trans n5.fr).trans f56).trans f68).trans (f9.trans f913)
    have g5 : Fr TT [p] H5 H13 [p] := (f56.trans f68).trans (f9.trans f913)
    have g8 : Fr TT [p] H8 H13 [p] := f9.trans f913
    refine q tl H13 f13 (f8.dom _ n9.no) (by rw [c13.at]; simp) np.symm ⟨⟨dx, .ref g, kb, .ref ah, c13.at, .lst (g3.frz hg3) (f13.fza fu), ⟨okb, _, g5.frz n5.at, fun l hl => ?_⟩, .lst (g8.frz hah) (f13.fza fz)⟩, [], ftl, .nil⟩
    have hi : ((dlOf b di).lets.map (·.1)).idxOf l < (dlOf b di).lets.length := by
      have := List.idxOf_lt_length_of_mem hl
      rwa [List.length_map] at this
    obtain ⟨_, ek⟩ := keyOf_mem (ks := ks) hl lk
    obtain ⟨yv, ey, fy⟩ := fu.at (i := ((dlOf b di).lets.map (·.1)).idxOf l) (d := kyD (keyOf (dlOf b di) ks l)) (by rw [List.getElem?_map, ek]; rfl)
    refine ⟨yv, merge_nd ?_ ?_, f13.fz fy⟩
    · have e : (((dlOf b di).lets.map fun r => (Sum.inr r.1 : Key)).zip us).map (·.1) = (dlOf b di).lets.map fun r => (Sum.inr r.1 : Key) := List.map_fst_zip (by rw [List.length_map, lu, lk]; exact Nat.le_refl _)
      rw [e, show ((dlOf b di).lets.map fun r => (Sum.inr r.1 : Key)) = ((dlOf b di).lets.map (·.1)).map (fun s => (Sum.inr s : Key)) from by rw [List.map_map]; rfl]
      exact List.Pairwise.map (fun s => (Sum.inr s : Key)) (fun a b ne z => ne (Sum.inr.inj z)) (B.ln _ md)
    · refine List.mem_of_getElem? (i := ((dlOf b di).lets.map (·.1)).idxOf l) ?_
      rw [List.getElem?_zip_eq_some]
      refine ⟨?_, ey⟩
      have e1 : ((dlOf b di).lets.map (·.1))[((dlOf b di).lets.map (·.1)).idxOf l]? = some l := by
        rw [List.getElem?_eq_getElem (by rw [List.length_map]; exact hi)]
        exact congrArg some (List.getElem_idxOf _)
      rw [List.getElem?_map] at e1 ⊢
      obtain ⟨r, er, rfl⟩ := Option.map_eq_some_iff.mp e1
      rw [er]
      rfl
end
end K28
/-! ## K28d4 -/
namespace K28
set_option maxHeartbeats 3900000
open L2 LamX PySem PySem.Spec PyProof.Rows
local macro_rules | `(tactic| walk_at "st") => `(tactic| repeat (first
  | with_reducible refine s_seq ?_ | with_reducible refine s_ret ?_ | with_reducible refine s_retN ?_ | with_reducible refine s_drop ?_ | with_reducible refine s_asg ?_ | with_reducible refine s_gn ?_ | with_reducible refine s_nextq ?_
  | ((with_reducible apply s_var); exact rfl) | with_reducible refine s_c ?_ | with_reducible refine s_op ?_ | with_reducible refine s_I0 ?_ | ((with_reducible refine s_eq ?_ ?_); exact rfl) | ((with_reducible refine s_ne ?_ ?_); exact rfl)
  | with_reducible refine s_test ?_ | with_reducible refine s_tB ?_ | with_reducible refine s_bl ?_ | with_reducible refine s_and ?_ | with_reducible refine s_or ?_ | with_reducible refine s_not ?_ | with_reducible refine s_andV ?_ | with_reducible refine s_orV ?_ | with_reducible refine s_notV ?_
  | with_reducible refine s_blP ?_ | with_reducible refine s_ifS ?_ | with_reducible refine s_nil ?_ | with_reducible refine s_cons ?_ | with_reducible refine s_cb ?_ | with_reducible refine s_call ?_ | with_reducible refine s_tup ?_ | with_reducible refine s_lst ?_
  | with_reducible refine s_isN ?_ | with_reducible refine s_notN ?_ | with_reducible refine s_un ?_ | with_reducible refine s_U ?_ | with_reducible refine s_fld ?_ | with_reducible refine s_put ?_ | with_reducible refine s_meth ?_ | with_reducible refine s_gc ?_ | with_reducible refine s_g0 ?_
  | with_reducible refine s_dz ?_ | with_reducible refine s_make ?_ | with_reducible refine s_m1 ?_ | with_reducible refine s_chain ?_ | with_reducible refine s_iZ ?_ | with_reducible refine s_dput ?_ | with_reducible refine s_dget ?_ | with_reducible refine s_din ?_ | with_reducible refine s_lc ?_ | with_reducible refine s_for ?_ | with_reducible refine s_iL ?_ | with_reducible refine s_iE ?_ | with_reducible refine s_iR1 ?_ | with_reducible refine s_iR2 ?_ | with_reducible refine s_yes ?_
  | with_reducible refine s_frz ?_ | with_reducible refine s_bm ?_ | with_reducible refine s_bm0 ?_ | with_reducible refine s_iff ?_ | with_reducible refine s_ift ?_ | with_reducible refine s_ifnt ?_ | with_reducible refine s_ifnf ?_))
section
variable {P : Program} {w : World} {K : PySem.W.Frag} {mg : Str → Option Value} {base : Heap} {TT : List (Addr × Str)}
theorem sc_Deal_next_deed : FnScope ["self", "deed", "letter"] ["self"] (defScope s_Deal_next_deed) := ⟨rfl, rfl, rfl, by decide +kernel, rfl, by decide +kernel, by decide +kernel⟩
def sp_Deal_next_deed (K : PySem.W.Frag) (TT : List (Addr × Str)) : Sp := fun vs H Q _ => ∃ (a tl : Addr) (b : Bk) (k n : Nat) (ds : List D) (d : D), vs = [.ref a] ∧ DlAt (He.ga K "Deal") H b a tl d ∧ BkOk b ∧ DOk b k d ∧ d.told.length < (dlOf b d.di).steps.length ∧
  ∀ v' H', Fr TT [] H H' [] → Fz H' v' (.tuple [.str (stepOf b ds n d).deed, kyD (stepOf b ds n d).key]) → Q v' H'
theorem k_Deal_next_deed {fd : FuncData} (T : Tx K mg) (F : FunD K "next_deed" "Deal.next_deed" (defArgs s_Deal_next_deed) (defBody s_Deal_next_deed) (defScope s_Deal_next_deed) [] [] (He.ma K (He.ga K "Deal") "next_deed") fd) : Cn P w K mg base 1 (He.ma K (He.ga K "Deal") "next_deed") ["self"] (sp_Deal_next_deed K TT) := by
  refine cn_of F sc_Deal_next_deed (fun vs H Q E h => ?_) (fun _ _ _ _ _ _ us hl => match us, hl with | [_], _ => rfl) fun cdv A outer s H vs Q E hr h => ?_
  · obtain ⟨a, tl, b, k, n, ds, d, rfl, _⟩ := h
    rfl
  · obtain ⟨a, tl, b, k, n, ds, d, rfl, hd, B, ok, hlt, q⟩ := h
    obtain ⟨dx, g, kb, ah, ha, fg, ⟨okb, kvs, hkb, hval⟩, fah⟩ := hd.ex
    obtain ⟨ts, htl, ft⟩ := hd.tl
    obtain ⟨pz, oz, zs, rfl, hpz, fz⟩ := fah.lst_inv
    have lt := ft.length
    rw [List.length_map] at lt
    have e2 : (dlOf b d.di).steps[d.told.length]? = some (dlOf b d.di).steps[d.told.length] := List.getElem?_eq_getElem hlt
    obtain ⟨zv, ez, fzv⟩ := fz.at (i := d.told.length) (d := prS (dlOf b d.di).steps[d.told.length]) (by rw [List.getElem?_map, e2]; rfl)
    obtain ⟨pr, r1, r2, rfl, hpr, rr1, rr2⟩ := fzv.tup2
    obtain rfl := rr1.str_inv
    obtain rfl := rr2.str_inv
    obtain ⟨e1, m1⟩ := dlOf_mem ok.di
    obtain ⟨kv, ekv, fkv⟩ := hval _ (B.st _ m1 _ (List.getElem_mem hlt))
    refine ⟨_, PSs.nox (pss_cons (ps_asg (pe_ix ix_list (pe_fld (pv 0) rfl) (pe_callB call_lenQ rfl T.f_len (by decide +kernel) (pa_cons (pe_fld (pv 0) rfl) pa_nil)) fun _ _ => rfl) (pg_tup rfl (pgs_cons (pg_name (i := 1) sc_Deal_next_deed.nd rfl (by first | exact Or.inl rfl | exact Or.inr rfl)) (pgs_cons (pg_name (i := 2) sc_Deal_next_deed.nd rfl (by first | exact Or.inl rfl | exact Or.inr rfl)) pgs_nil)))) (pss_one (ps_ret (pe_tup (pa_cons (pv 1) (pa_cons (pe_dget (hu_of hr) (pe_fld (pv 0) rfl) (pv 2) fun _ _ => rfl) pa_nil)))))), ?_⟩
    try dsimp only [cxOf]
    walk_at "st"
    refine s_FldR ha T.cD T.nD_ahead rfl ?_
    walk_at "st"
    refine s_FldR ha T.cD T.nD_told rfl ?_
    walk_at "st"
    refine s_lenL (SqL.of htl) ?_
    refine s_ixL (sqF hpz) (by rw [lt]; exact atI_nat ez) ?_
    refine s_gt (SqT.of hpr) rfl ?_
    walk_at "st"
    refine s_FldR ha T.cD T.nD_key_by rfl ?_
    walk_at "st"
    refine s_DgetS (.inr ⟨_, hkb⟩) ekv ?_
    walk_at "st"
    refine s_newT (by simp) fun t H1 n1 => ?_
    refine q _ _ n1.fr (.tup n1.at ?_)
    have e3 : stepOf b ds n d = ⟨(dlOf b d.di).steps[d.told.length].1, keyOf (dlOf b d.di) d.keys (dlOf b d.di).steps[d.told.length].2, (stepOf b ds n d).seen⟩ := by
      unfold stepOf
      rw [e2]
      rfl
    rw [e3]
    exact .cons (.str _) (.cons (n1.fz fkv) .nil)
theorem sc_Deal_steps_left : FnScope ["self"] ["self"] (defScope s_Deal_steps_left) := ⟨rfl, rfl, rfl, by decide +kernel, rfl, by decide +kernel, by decide +kernel⟩
def sp_Deal_steps_left (K : PySem.W.Frag) : Sp := fun vs H Q _ => ∃ (a tl : Addr) (b : Bk) (d : D), vs = [.ref a] ∧ DlAt (He.ga K "Deal") H b a tl d ∧ Q (.int (((dlOf b d.di).steps.length : Int) - (d.told.length : Int))) H
theorem k_Deal_steps_left {fd : FuncData} (T : Tx K mg) (F : FunD K "steps_left" "Deal.steps_left" (defArgs s_Deal_steps_left) (defBody s_Deal_steps_left) (defScope s_Deal_steps_left) [] [] (He.ma K (He.ga K "Deal") "steps_left") fd) : Cn P w K mg base 1 (He.ma K (He.ga K "Deal") "steps_left") ["self"] (sp_Deal_steps_left K) := by
  refine cn_of F sc_Deal_steps_left (fun vs H Q E h => ?_) (fun _ _ _ _ _ _ us hl => match us, hl with | [_], _ => rfl) fun cdv A outer s H vs Q E hr h => ?_
  · obtain ⟨a, tl, b, d, rfl, _⟩ := h
    rfl
  · obtain ⟨a, tl, b, d, rfl, hd, q⟩ := h
    obtain ⟨dx, g, kb, ah, ha, fg, _, fah⟩ := hd.ex
    obtain ⟨ts, htl, ft⟩ := hd.tl
    obtain ⟨pz, oz, zs, rfl, hpz, fz⟩ := fah.lst_inv
    have lt := ft.length
    have lz := fz.length
    rw [List.length_map] at lt lz
    refine ⟨_, PSs.nox (pss_one (ps_ret (pe_op op_sub (pe_callB call_lenQ rfl T.f_len (by decide +kernel) (pa_cons (pe_fld (pv 0) rfl) pa_nil)) (pe_callB call_lenQ rfl T.f_len (by decide +kernel) (pa_cons (pe_fld (pv 0) rfl) pa_nil))))), ?_⟩
    try dsimp only [cxOf]
    walk_at "st"
    refine s_FldR ha T.cD T.nD_ahead rfl ?_
    walk_at "st"
    refine s_lenL (sqF hpz) ?_
    walk_at "st"
    refine s_FldR ha T.cD T.nD_told rfl ?_
    walk_at "st"
    refine s_lenL (SqL.of htl) ?_
    walk_at "st"
    rw [lt, lz]
    exact q
theorem sc_Deal_written : FnScope ["self", "deed", "key", "seen"] ["self"] (defScope s_Deal_written) := ⟨rfl, rfl, rfl, by decide +kernel, rfl, by decide +kernel, by decide +kernel⟩
def sp_Deal_written (K : PySem.W.Frag) (TT : List (Addr × Str)) : Sp := fun vs H Q _ => ∃ (a tl : Addr) (b : Bk) (d : D), vs = [.ref a] ∧ DlAt (He.ga K "Deal") H b a tl d ∧ d.told.length ≤ 1000 ∧ ∀ l xs H', Fr TT [] H H' [] → H l = none → H' l = some (.lst xs) → FzA H' xs ((wrote d).map kyD) → Q (.ref l) H'
theorem wrote_snoc {d : List Tl} {t : Tl} : ((d ++ [t]).filter fun t => !decide (t.deed = ("read" : Str))).map (·.key) = (d.filter fun t => !decide (t.deed = ("read" : Str))).map (·.key) ++ (if t.deed = ("read" : Str) then [] else [t.key]) := by
  rw [List.filter_append, List.map_append]
  congr 1
  by_cases h : t.deed = ("read" : Str)
  · simp [List.filter, h]
  · simp [List.filter, h]
theorem k_Deal_written {fd : FuncData} (T : Tx K mg) (F : FunD K "written" "Deal.written" (defArgs s_Deal_written) (defBody s_Deal_written) (defScope s_Deal_written) [] [] (He.ma K (He.ga K "Deal") "written") fd) : Cn P w K mg base 1 (He.ma K (He.ga K "Deal") "written") ["self"] (sp_Deal_written K TT) := by
  refine cn_of F sc_Deal_written (fun vs H Q E h => ?_) (fun _ _ _ _ _ _ us hl => match us, hl with | [_], _ => rfl) fun cdv A outer s H vs Q E hr h => ?_
  · obtain ⟨a, tl, b, d, rfl, _⟩ := h
    rfl
  · obtain ⟨a, tl, b, d, rfl, hd, hlen, q⟩ := h
    obtain ⟨dx, g, kb, ah, ha, fg, _, fah⟩ := hd.ex
    obtain ⟨ts, htl, ft⟩ := hd.tl
    have lt := ft.length
    rw [List.length_map] at lt
    refine ⟨_, PSs.nox (pss_one (ps_ret (pe_lc (own := [("deed", 1), ("key", 2), ("seen", 3)]) (g := (gTup K 3 (gCons (gName 1) (gCons (gName 2) (gCons (gName 3) gNil))))) rfl sc_Deal_written.nd (pi_list (pe_fld (pv 0) rfl)) (blkOk_by (N := ["self", "deed", "key", "seen"]) (sc := defScope s_Deal_written) (by decide +kernel)) (fun _ _ _ _ _ => (pg_tup rfl (pgs_cons (pg_name (i := 1) sc_Deal_written.nd rfl (by first | exact Or.inl rfl | exact Or.inr rfl)) (pgs_cons (pg_name (i := 2) sc_Deal_written.nd rfl (by first | exact Or.inl rfl | exact Or.inr rfl)) (pgs_cons (pg_name (i := 3) sc_Deal_written.nd rfl (by first | exact Or.inl rfl | exact Or.inr rfl)) pgs_nil))))) (fun _ _ _ _ _ => (pts_one (pt_cmpR op_ne (pv 1) pe_str (nomark _)))) (fun _ _ _ _ _ => (pv 2))))), ?_⟩
    try dsimp only [cxOf]
    walk_at "st"
    refine s_FldR ha T.cD T.nD_told rfl ?_
    refine s_IlR (SqL.of htl) ?_
    refine lcJ (T := TT) (gives_list (xs := ts)) [] (fun _ _ => True) (fun i => (((d.told.take i).filter fun t => !decide (t.deed = ("read" : Str))).map (·.key)).map kyD) (fun _ z => nomatch z) trivial (by simp) (fun _ _ _ _ _ _ => trivial) (fun i H' _ f => f.sqL (SqL.of htl) (by simp)) (fun i => ?_) ?_ ?_
    · have h1 := List.length_filter_le (fun t : Tl => !decide (t.deed = ("read" : Str))) (d.told.take i)
      have h2 := List.length_take_le i d.told
      simp only [List.length_map]
      have : (d.told.take i).length ≤ d.told.length := by rw [List.length_take]; exact Nat.min_le_right _ _
      omega
    · intro i x H' H'' hi _ f f0 hx' Y N yes no
      obtain ⟨ed, e1, fe⟩ := ft.of hx'
      rw [List.getElem?_map] at e1
      obtain ⟨tt, e2, rfl⟩ := Option.map_eq_some_iff.mp e1
      obtain ⟨pr1, r1, r2, r3, rfl, hpr, rr1, rr2, rr3⟩ := ((f.trans f0).fz fe).tup3
      obtain rfl := rr1.str_inv
      refine s_gt (SqT.of hpr) rfl ?_
      walk_at "st"
      refine ⟨rfl, ?_⟩
      have e3 : d.told.take (i + 1) = d.told.take i ++ [tt] := by rw [List.take_succ, e2]; rfl
      walk_at "st"
      by_cases hdd : tt.deed = ("read" : Str)
      · rw [decide_eq_true (show V.str tt.deed = V.str "read" by rw [hdd])]
        walk_at "st"
        refine no _ .refl ?_ trivial
        rw [e3, wrote_snoc, if_pos hdd, List.append_nil]
      · rw [decide_eq_false (show ¬ V.str tt.deed = V.str "read" from fun z => hdd (V.str.inj z))]
        walk_at "st"
        refine yes _ _ (kyD tt.key) .refl ?_ rr2 trivial
        rw [e3, wrote_snoc, if_neg hdd, List.map_append]
        rfl
    · intro D' H' acc hD _ f hacc facc
      rw [lt, List.take_length] at facc
      exact q D' acc H' f hD hacc facc
theorem sc_Deal_closed : FnScope ["self", "word", "row"] ["self", "word", "row"] (defScope s_Deal_closed) := ⟨rfl, rfl, rfl, by decide +kernel, rfl, by decide +kernel, by decide +kernel⟩
def sp_Deal_closed (K : PySem.W.Frag) (TT : List (Addr × Str)) : Sp := fun vs H Q _ => ∃ (a tl : Addr) (b : Bk) (d : D) (wd : Wd) (r : Nat), vs = [.ref a, .str wd.s, .int r] ∧ DlAt (He.ga K "Deal") H b a tl d ∧ ∀ H', Fr TT [a] H H' [a] → DlAt (He.ga K "Deal") H' b a tl { d with ended := some r, word := wd } → Q .non H'
theorem k_Deal_closed {fd : FuncData} (T : Tx K mg) (F : FunD K "closed" "Deal.closed" (defArgs s_Deal_closed) (defBody s_Deal_closed) (defScope s_Deal_closed) [] [] (He.ma K (He.ga K "Deal") "closed") fd) : Cn P w K mg base 1 (He.ma K (He.ga K "Deal") "closed") ["self", "word", "row"] (sp_Deal_closed K TT) := by
  refine cn_of F sc_Deal_closed (fun vs H Q E h => ?_) (fun _ _ _ _ _ _ us hl => match us, hl with | [_, _, _], _ => rfl) fun cdv A outer s H vs Q E hr h => ?_
  · obtain ⟨a, tl, b, d, wd, r, rfl, _⟩ := h
    rfl
  · obtain ⟨a, tl, b, d, wd, r, rfl, hd, q⟩ := h
    obtain ⟨dx, g, kb, ah, ha, fg, fkb, fah⟩ := hd.ex
    obtain ⟨ts, htl, ft⟩ := hd.tl
    have nat : tl ≠ a := ne_of htl ha (by intro z; cases z)
    refine ⟨_, PSs.nox (pss_cons (ps_fld (pv 0) (pv 1) rfl) (pss_one (ps_fld (pv 0) (pv 2) rfl))), ?_⟩
    try dsimp only [cxOf]
    walk_at "st"
    refine s_PutC ha T.cD T.nD_word rfl (by show 8 < 1000; decide) fun H1 c1 => ?_
    walk_at "st"
    refine s_PutC c1.at T.cD T.nD_ended rfl (by show 8 < 1000; decide) fun H2 c2 => ?_
    walk_at "st"
    have f : Fr TT [a] H H2 [a] := (c1.fr ha trivial (by simp)).trans (c2.fr c1.at trivial (by simp))
    exact q _ f ⟨⟨dx, g, kb, ah, c2.at, f.fz fg, fkb.keep f.imm, f.fz fah⟩, ts, c2.old (c1.old htl nat) nat, f.fza ft⟩
theorem sc_Deal_opened : FnScope ["self"] ["self"] (defScope s_Deal_opened) := ⟨rfl, rfl, rfl, by decide +kernel, rfl, by decide +kernel, by decide +kernel⟩
def sp_Deal_opened (K : PySem.W.Frag) (TT : List (Addr × Str)) : Sp := fun vs H Q _ => ∃ (a tl : Addr) (b : Bk) (d : D), vs = [.ref a] ∧ DlAt (He.ga K "Deal") H b a tl d ∧ ∀ H', Fr TT [a] H H' [a] → DlAt (He.ga K "Deal") H' b a tl { d with ended := none, word := .opn } → Q .non H'
theorem k_Deal_opened {fd : FuncData} (T : Tx K mg) (F : FunD K "opened" "Deal.opened" (defArgs s_Deal_opened) (defBody s_Deal_opened) (defScope s_Deal_opened) [] [] (He.ma K (He.ga K "Deal") "opened") fd) : Cn P w K mg base 1 (He.ma K (He.ga K "Deal") "opened") ["self"] (sp_Deal_opened K TT) := by
  refine cn_of F sc_Deal_opened (fun vs H Q E h => ?_) (fun _ _ _ _ _ _ us hl => match us, hl with | [_], _ => rfl) fun cdv A outer s H vs Q E hr h => ?_
  · obtain ⟨a, tl, b, d, rfl, _⟩ := h
    rfl
  · obtain ⟨a, tl, b, d, rfl, hd, q⟩ := h
    obtain ⟨dx, g, kb, ah, ha, fg, fkb, fah⟩ := hd.ex
    obtain ⟨ts, htl, ft⟩ := hd.tl
    have nat : tl ≠ a := ne_of htl ha (by intro z; cases z)
    refine ⟨_, PSs.nox (pss_cons (ps_fld (pv 0) pe_str rfl) (pss_one (ps_fld (pv 0) pe_non rfl))), ?_⟩
    try dsimp only [cxOf]
    walk_at "st"
    refine s_PutC ha T.cD T.nD_word rfl (by show 8 < 1000; decide) fun H1 c1 => ?_
    walk_at "st"
    refine s_PutC c1.at T.cD T.nD_ended rfl (by show 8 < 1000; decide) fun H2 c2 => ?_
    walk_at "st"
    have f : Fr TT [a] H H2 [a] := (c1.fr ha trivial (by simp)).trans (c2.fr c1.at trivial (by simp))
    exact q _ f ⟨⟨dx, g, kb, ah, c2.at, f.fz fg, fkb.keep f.imm, f.fz fah⟩, ts, c2.old (c1.old htl nat) nat, f.fza ft⟩
end
end K28
/-! ## K28d5 -/
namespace K28
set_option maxHeartbeats 3900000
open L2 LamX PySem PySem.Spec PyProof.Rows
local macro_rules | `(tactic| walk_at "st") => `(tactic| repeat (first
  | with_reducible refine s_seq ?_ | with_reducible refine s_ret ?_ | with_reducible refine s_retN ?_ | with_reducible refine s_drop ?_ | with_reducible refine s_asg ?_ | with_reducible refine s_gn ?_ | with_reducible refine s_nextq ?_
  | ((with_reducible apply s_var); exact rfl) | with_reducible refine s_c ?_ | with_reducible refine s_op ?_ | with_reducible refine s_I0 ?_ | ((with_reducible refine s_eq ?_ ?_); exact rfl) | ((with_reducible refine s_ne ?_ ?_); exact rfl)
  | with_reducible refine s_test ?_ | with_reducible refine s_tB ?_ | with_reducible refine s_bl ?_ | with_reducible refine s_and ?_ | with_reducible refine s_or ?_ | with_reducible refine s_not ?_ | with_reducible refine s_andV ?_ | with_reducible refine s_orV ?_ | with_reducible refine s_notV ?_
  | with_reducible refine s_blP ?_ | with_reducible refine s_ifS ?_ | with_reducible refine s_nil ?_ | with_reducible refine s_cons ?_ | with_reducible refine s_cb ?_ | with_reducible refine s_call ?_ | with_reducible refine s_tup ?_ | with_reducible refine s_lst ?_
  | with_reducible refine s_isN ?_ | with_reducible refine s_notN ?_ | with_reducible refine s_un ?_ | with_reducible refine s_U ?_ | with_reducible refine s_fld ?_ | with_reducible refine s_put ?_ | with_reducible refine s_meth ?_ | with_reducible refine s_gc ?_ | with_reducible refine s_g0 ?_
  | with_reducible refine s_dz ?_ | with_reducible refine s_make ?_ | with_reducible refine s_m1 ?_ | with_reducible refine s_chain ?_ | with_reducible refine s_iZ ?_ | with_reducible refine s_dput ?_ | with_reducible refine s_dget ?_ | with_reducible refine s_din ?_ | with_reducible refine s_lc ?_ | with_reducible refine s_for ?_ | with_reducible refine s_iL ?_ | with_reducible refine s_iE ?_ | with_reducible refine s_iR1 ?_ | with_reducible refine s_iR2 ?_ | with_reducible refine s_yes ?_
  | with_reducible refine s_frz ?_ | with_reducible refine s_bm ?_ | with_reducible refine s_bm0 ?_ | with_reducible refine s_iff ?_ | with_reducible refine s_ift ?_ | with_reducible refine s_ifnt ?_ | with_reducible refine s_ifnf ?_))
section
variable {P : Program} {w : World} {K : PySem.W.Frag} {mg : Str → Option Value} {base : Heap} {TT : List (Addr × Str)}
/-! ### Stepper: reading -/
theorem sc_Stepper_deal_by : FnScope ["self", "number"] ["self", "number"] (defScope s_Stepper_deal_by) := ⟨rfl, rfl, rfl, by decide +kernel, rfl, by decide +kernel, by decide +kernel⟩
def sp_Stepper_deal_by (K : PySem.W.Frag) : Sp := fun vs H Q E => ∃ (s : Addr) (A : SA) (b : Bk) (rs : List Row) (ds : List D) (n : Nat), vs = [.ref s, .int n] ∧ StAt K H b s A rs ds ∧ (∀ p, A.ps[n]? = some p → Q (.ref p.1) H) ∧ (ds.length ≤ n → E (.ref (He.ga K "NoNumber")) none H)
theorem k_Stepper_deal_by {fd : FuncData} (T : Tx K mg) (F : FunD K "deal_by" "Stepper.deal_by" (defArgs s_Stepper_deal_by) (defBody s_Stepper_deal_by) (defScope s_Stepper_deal_by) [] [] (He.ma K (He.ga K "Stepper") "deal_by") fd) : Cn P w K mg base 1 (He.ma K (He.ga K "Stepper") "deal_by") ["self", "number"] (sp_Stepper_deal_by K) := by
  refine cn_of F sc_Stepper_deal_by (fun vs H Q E h => ?_) (fun _ _ _ _ _ _ us hl => match us, hl with | [_, _], _ => rfl) fun cdv A' outer s' H vs Q E hr h => ?_
  · obtain ⟨s, A, b, rs, ds, n, rfl, _⟩ := h
    rfl
  · obtain ⟨s, A, b, rs, ds, n, rfl, hs, q1, q2⟩ := h
    refine ⟨_, (pss_cons (ps_if (PW.pt (pw_or (pt_not (pt_val (pe_callB call_isi rfl T.f_isinstance (by decide +kernel) (pa_cons (pv 1) (pa_cons (pe_bltn (v := .ty "int") (u := .type "int") rfl T.f_int (by decide +kernel) rfl) pa_nil))))) (pw_or (pt_val (pe_callB call_isi rfl T.f_isinstance (by decide +kernel) (pa_cons (pv 1) (pa_cons (pe_bltn (v := .ty "bool") (u := .type "bool") rfl T.f_bool (by decide +kernel) rfl) pa_nil)))) (pw_or1 (pt_not (pt_chain op_le op_lt pe_int (pv 1) (pe_callB call_lenQ rfl T.f_len (by decide +kernel) (pa_cons (pe_fld (pv 0) rfl) pa_nil)))))))) (pss_one (ps_raise rfl (takes_of rfl rfl rfl rfl) (pmk_own PySem.F.excBase_Exception T.x_NoNumber.ex T.x_NoNumber.g T.x_NoNumber.kp (raises_own T.x_NoNumber.sb T.x_NoNumber.ty) rfl))) pss_nil) (pss_one (ps_ret (pe_ix ix_list (pe_fld (pv 0) rfl) (pv 1) fun _ _ => rfl)))), ?_⟩
    try dsimp only [cxOf]
    walk_at "st"
    refine s_isB true (.base (.int _)) (by decide +kernel) ?_
    walk_at "st"
    refine s_isB false (.base (.int _)) (by decide +kernel) ?_
    walk_at "st"
    rw [decide_eq_true (show (0 : Int) ≤ (n : Int) by omega)]
    walk_at "st"
    refine s_FldR hs.ins T.cS T.nS_deals rfl ?_
    walk_at "st"
    refine s_lenL (SqL.of hs.dls) ?_
    walk_at "st"
    rw [List.length_map, hs.len]
    by_cases hn : n < ds.length
    · rw [decide_eq_true (show (n : Int) < (ds.length : Int) by omega)]
      walk_at "st"
      refine s_FldR hs.ins T.cS T.nS_deals rfl ?_
      walk_at "st"
      have hp : n < A.ps.length := by rw [hs.len]; exact hn
      refine s_ixL (SqL.of hs.dls) (atI_nat (v := .ref A.ps[n].1) (by rw [List.getElem?_map, List.getElem?_eq_getElem hp]; rfl)) ?_
      exact q1 _ (List.getElem?_eq_getElem hp)
    · rw [decide_eq_false (show ¬ (n : Int) < (ds.length : Int) by omega)]
      walk_at "st"
      exact q2 (by omega)
theorem sc_Stepper_open_deal : FnScope ["self", "number", "deal"] ["self", "number"] (defScope s_Stepper_open_deal) := ⟨rfl, rfl, rfl, by decide +kernel, rfl, by decide +kernel, by decide +kernel⟩
def sp_Stepper_open_deal (K : PySem.W.Frag) : Sp := fun vs H Q E => ∃ (s : Addr) (A : SA) (b : Bk) (rs : List Row) (ds : List D) (n : Nat), vs = [.ref s, .int n] ∧ StAt K H b s A rs ds ∧ (∀ p d, A.ps[n]? = some p → ds[n]? = some d → d.word = .opn → Q (.ref p.1) H) ∧
  (ds.length ≤ n → E (.ref (He.ga K "NoNumber")) none H) ∧ (∀ d, ds[n]? = some d → d.word ≠ .opn → E (.ref (He.ga K "Over")) none H)
theorem wd_inj {x : Wd} (h : ¬ x = .opn) : ¬ V.str x.s = V.str "open" := by
  cases x with
  | opn => exact absurd rfl h
  | off => exact fun z => absurd (V.str.inj z) (by decide +kernel)
  | stands => exact fun z => absurd (V.str.inj z) (by decide +kernel)
theorem k_Stepper_open_deal {fd : FuncData} (T : Tx K mg) (F : FunD K "open_deal" "Stepper.open_deal" (defArgs s_Stepper_open_deal) (defBody s_Stepper_open_deal) (defScope s_Stepper_open_deal) [] [] (He.ma K (He.ga K "Stepper") "open_deal") fd) (h_Stepper_deal_by : Cn P w K mg base 1 (He.ma K (He.ga K "Stepper") "deal_by") ["self", "number"] (sp_Stepper_deal_by K)) : Cn P w K mg base 2 (He.ma K (He.ga K "Stepper") "open_deal") ["self", "number"] (sp_Stepper_open_deal K) := by
  refine cn_of F sc_Stepper_open_deal (fun vs H Q E h => ?_) (fun _ _ _ _ _ _ us hl => match us, hl with | [_, _], _ => rfl) fun cdv A' outer s' H vs Q E hr h => ?_
  · obtain ⟨s, A, b, rs, ds, n, rfl, _⟩ := h
    rfl
  · obtain ⟨s, A, b, rs, ds, n, rfl, hs, q1, q2, q3⟩ := h
    refine ⟨_, (pss_cons (ps_set (i := 2) sc_Stepper_open_deal.nd rfl (by first | exact Or.inl rfl | exact Or.inr rfl) (pe_cm T.cS T.mS_deal_by h_Stepper_deal_by (pv 0) (hr.mono (by decide)) (passes_call (takes_of rfl rfl rfl rfl) fun _ _ _ _ h => h) (pa_cons (pv 1) pa_nil))) (pss_cons (ps_if (pt_cmpR op_ne (pe_fld (pv 2) rfl) pe_str (nomark _)) (pss_one (ps_raise rfl (takes_of rfl rfl rfl rfl) (pmk_own PySem.F.excBase_Exception T.x_Over.ex T.x_Over.g T.x_Over.kp (raises_own T.x_Over.sb T.x_Over.ty) rfl))) pss_nil) (pss_one (ps_ret (pv 2))))), ?_⟩
    try dsimp only [cxOf]
    walk_at "st"
    refine s_MethR hs.ins rfl ?_
    walk_at "st"
    refine ⟨s, A, b, rs, ds, n, rfl, hs, fun p hp => ?_, q2⟩
    obtain ⟨d, ed⟩ := deal_of hp hs.len
    obtain ⟨dx, g, kb, ah, ha, _⟩ := (hs.at_ n p d hp ed).ex
    walk_at "st"
    refine s_FldR ha T.cD T.nD_word rfl ?_
    walk_at "st"
    by_cases hw : d.word = .opn
    · rw [hw]
      rw [decide_eq_true (show V.str Wd.opn.s = V.str "open" from rfl)]
      walk_at "st"
      exact q1 p d hp ed hw
    · rw [decide_eq_false (wd_inj hw)]
      walk_at "st"
      exact q3 d ed hw
theorem sc_Stepper_state : FnScope ["self", "number", "deal"] ["self", "number"] (defScope s_Stepper_state) := ⟨rfl, rfl, rfl, by decide +kernel, rfl, by decide +kernel, by decide +kernel⟩
def sp_Stepper_state (K : PySem.W.Frag) : Sp := fun vs H Q E => ∃ (s : Addr) (A : SA) (b : Bk) (rs : List Row) (ds : List D) (n : Nat) (d : D), vs = [.ref s, .int n] ∧ StAt K H b s A rs ds ∧ ds[n]? = some d ∧ Q (.str d.word.s) H
theorem k_Stepper_state {fd : FuncData} (T : Tx K mg) (F : FunD K "state" "Stepper.state" (defArgs s_Stepper_state) (defBody s_Stepper_state) (defScope s_Stepper_state) [] [] (He.ma K (He.ga K "Stepper") "state") fd) (h_Stepper_deal_by : Cn P w K mg base 1 (He.ma K (He.ga K "Stepper") "deal_by") ["self", "number"] (sp_Stepper_deal_by K)) : Cn P w K mg base 2 (He.ma K (He.ga K "Stepper") "state") ["self", "number"] (sp_Stepper_state K) := by
  refine cn_of F sc_Stepper_state (fun vs H Q E h => ?_) (fun _ _ _ _ _ _ us hl => match us, hl with | [_, _], _ => rfl) fun cdv A' outer s' H vs Q E hr h => ?_
  · obtain ⟨s, A, b, rs, ds, n, d, rfl, _⟩ := h
    rfl
  · obtain ⟨s, A, b, rs, ds, n, d, rfl, hs, ed, q⟩ := h
    refine ⟨_, PSs.nox (pss_cons (ps_set (i := 2) sc_Stepper_state.nd rfl (by first | exact Or.inl rfl | exact Or.inr rfl) (pe_cm T.cS T.mS_deal_by h_Stepper_deal_by (pv 0) (hr.mono (by decide)) passL (pa_cons (pv 1) pa_nil))) (pss_one (ps_ret (pe_fld (pv 2) rfl)))), ?_⟩
    try dsimp only [cxOf]
    walk_at "st"
    refine s_MethR hs.ins rfl ?_
    walk_at "st"
    refine ⟨s, A, b, rs, ds, n, rfl, hs, fun p hp => ?_, fun hl => absurd (List.getElem?_eq_some_iff.mp ed).1 (by omega)⟩
    obtain ⟨dx, g, kb, ah, ha, _⟩ := (hs.at_ n p d hp ed).ex
    walk_at "st"
    refine s_FldR ha T.cD T.nD_word rfl ?_
    exact q
theorem sc_Stepper_left : FnScope ["self", "number", "deal"] ["self", "number"] (defScope s_Stepper_left) := ⟨rfl, rfl, rfl, by decide +kernel, rfl, by decide +kernel, by decide +kernel⟩
def sp_Stepper_left (K : PySem.W.Frag) : Sp := fun vs H Q E => ∃ (s : Addr) (A : SA) (b : Bk) (rs : List Row) (ds : List D) (n : Nat), vs = [.ref s, .int n] ∧ StAt K H b s A rs ds ∧ (∀ d, ds[n]? = some d → d.word = .opn → Q (.int (((dlOf b d.di).steps.length : Int) - (d.told.length : Int))) H) ∧
  (ds.length ≤ n → E (.ref (He.ga K "NoNumber")) none H) ∧ (∀ d, ds[n]? = some d → d.word ≠ .opn → E (.ref (He.ga K "Over")) none H)
theorem k_Stepper_left {fd : FuncData} (T : Tx K mg) (F : FunD K "left" "Stepper.left" (defArgs s_Stepper_left) (defBody s_Stepper_left) (defScope s_Stepper_left) [] [] (He.ma K (He.ga K "Stepper") "left") fd) (h_Stepper_open_deal : Cn P w K mg base 2 (He.ma K (He.ga K "Stepper") "open_deal") ["self", "number"] (sp_Stepper_open_deal K)) (h_Deal_steps_left : Cn P w K mg base 1 (He.ma K (He.ga K "Deal") "steps_left") ["self"] (sp_Deal_steps_left K)) :
    Cn P w K mg base 3 (He.ma K (He.ga K "Stepper") "left") ["self", "number"] (sp_Stepper_left K) := by
  refine cn_of F sc_Stepper_left (fun vs H Q E h => ?_) (fun _ _ _ _ _ _ us hl => match us, hl with | [_, _], _ => rfl) fun cdv A' outer s' H vs Q E hr h => ?_
  · obtain ⟨s, A, b, rs, ds, n, rfl, _⟩ := h
    rfl
  · obtain ⟨s, A, b, rs, ds, n, rfl, hs, q1, q2, q3⟩ := h
    refine ⟨_, (pss_cons (ps_set (i := 2) sc_Stepper_left.nd rfl (by first | exact Or.inl rfl | exact Or.inr rfl) (pe_cm T.cS T.mS_open_deal h_Stepper_open_deal (pv 0) (hr.mono (by decide)) (passes_call (takes_of rfl rfl rfl rfl) fun _ _ _ _ h => h) (pa_cons (pv 1) pa_nil))) (pss_one (ps_ret (pe_cm0 T.cD T.mD_steps_left h_Deal_steps_left (pv 2) (hr.mono (by decide)) passL)))), ?_⟩
    try dsimp only [cxOf]
    walk_at "st"
    refine s_MethR hs.ins rfl ?_
    walk_at "st"
    refine ⟨s, A, b, rs, ds, n, rfl, hs, fun p d hp ed hw => ?_, q2, q3⟩
    have hd := hs.at_ n p d hp ed
    obtain ⟨dx, g, kb, ah, ha, _⟩ := hd.ex
    walk_at "st"
    refine s_MethR ha rfl ?_
    walk_at "st"
    exact ⟨p.1, p.2, b, d, rfl, hd, q1 d ed hw⟩
theorem sc_Stepper_look_at_end : FnScope ["self", "number", "deal"] ["self", "number"] (defScope s_Stepper_look_at_end) := ⟨rfl, rfl, rfl, by decide +kernel, rfl, by decide +kernel, by decide +kernel⟩
def sp_Stepper_look_at_end (K : PySem.W.Frag) : Sp := fun vs H Q E => ∃ (s : Addr) (A : SA) (b : Bk) (rs : List Row) (ds : List D) (n : Nat), vs = [.ref s, .int n] ∧ StAt K H b s A rs ds ∧ (∀ d, ds[n]? = some d → d.word = .opn → (dlOf b d.di).steps.length ≤ d.told.length → Q .non H) ∧
  (ds.length ≤ n → E (.ref (He.ga K "NoNumber")) none H) ∧ (∀ d, ds[n]? = some d → d.word ≠ .opn → E (.ref (He.ga K "Over")) none H) ∧ (∀ d, ds[n]? = some d → d.word = .opn → d.told.length < (dlOf b d.di).steps.length → E (.ref (He.ga K "NoEnd")) none H)
theorem k_Stepper_look_at_end {fd : FuncData} (T : Tx K mg) (F : FunD K "look_at_end" "Stepper.look_at_end" (defArgs s_Stepper_look_at_end) (defBody s_Stepper_look_at_end) (defScope s_Stepper_look_at_end) [] [] (He.ma K (He.ga K "Stepper") "look_at_end") fd) (h_Stepper_open_deal : Cn P w K mg base 2 (He.ma K (He.ga K "Stepper") "open_deal") ["self", "number"] (sp_Stepper_open_deal K)) (h_Deal_steps_left : Cn P w K mg base 1 (He.ma K (He.ga K "Deal") "steps_left") ["self"] (sp_Deal_steps_left K)) :
    Cn P w K mg base 3 (He.ma K (He.ga K "Stepper") "look_at_end") ["self", "number"] (sp_Stepper_look_at_end K) := by
  refine cn_of F sc_Stepper_look_at_end (fun vs H Q E h => ?_) (fun _ _ _ _ _ _ us hl => match us, hl with | [_, _], _ => rfl) fun cdv A' outer s' H vs Q E hr h => ?_
  · obtain ⟨s, A, b, rs, ds, n, rfl, _⟩ := h
    rfl
  · obtain ⟨s, A, b, rs, ds, n, rfl, hs, q1, q2, q3, q4⟩ := h
    refine ⟨_, (pss_cons (ps_set (i := 2) sc_Stepper_look_at_end.nd rfl (by first | exact Or.inl rfl | exact Or.inr rfl) (pe_cm T.cS T.mS_open_deal h_Stepper_open_deal (pv 0) (hr.mono (by decide)) (passes_call (takes_of rfl rfl rfl rfl) fun _ _ _ _ h => h) (pa_cons (pv 1) pa_nil))) (pss_one (ps_if (pt_cmpR op_gt (pe_cm0 T.cD T.mD_steps_left h_Deal_steps_left (pv 2) (hr.mono (by decide)) passL) pe_int (nomark _)) (pss_one (ps_raise rfl (takes_of rfl rfl rfl rfl) (pmk_own PySem.F.excBase_Exception T.x_NoEnd.ex T.x_NoEnd.g T.x_NoEnd.kp (raises_own T.x_NoEnd.sb T.x_NoEnd.ty) rfl))) pss_nil))), ?_⟩
    try dsimp only [cxOf]
    walk_at "st"
    refine s_MethR hs.ins rfl ?_
    walk_at "st"
    refine ⟨s, A, b, rs, ds, n, rfl, hs, fun p d hp ed hw => ?_, q2, q3⟩
    have hd := hs.at_ n p d hp ed
    obtain ⟨dx, g, kb, ah, ha, _⟩ := hd.ex
    walk_at "st"
    refine s_MethR ha rfl ?_
    walk_at "st"
    refine ⟨p.1, p.2, b, d, rfl, hd, ?_⟩
    walk_at "st"
    by_cases hl : d.told.length < (dlOf b d.di).steps.length
    · rw [decide_eq_true (show (0 : Int) < ((dlOf b d.di).steps.length : Int) - (d.told.length : Int) by omega)]
      walk_at "st"
      exact q4 d ed hw hl
    · rw [decide_eq_false (show ¬ (0 : Int) < ((dlOf b d.di).steps.length : Int) - (d.told.length : Int) by omega)]
      walk_at "st"
      exact q1 d ed hw (by omega)
theorem sc_Stepper_len : FnScope ["self"] ["self"] (defScope s_Stepper_len) := ⟨rfl, rfl, rfl, by decide +kernel, rfl, by decide +kernel, by decide +kernel⟩
def sp_Stepper_len (K : PySem.W.Frag) : Sp := fun vs H Q E => ∃ (s : Addr) (A : SA) (b : Bk) (rs : List Row) (ds : List D), vs = [.ref s] ∧ StAt K H b s A rs ds ∧ Q (.int ds.length) H
theorem k_Stepper_len {fd : FuncData} (T : Tx K mg) (F : FunD K "__len__" "Stepper.__len__" (defArgs s_Stepper_len) (defBody s_Stepper_len) (defScope s_Stepper_len) [] [] (He.ma K (He.ga K "Stepper") "__len__") fd) : Cn P w K mg base 1 (He.ma K (He.ga K "Stepper") "__len__") ["self"] (sp_Stepper_len K) := by
  refine cn_of F sc_Stepper_len (fun vs H Q E h => ?_) (fun _ _ _ _ _ _ us hl => match us, hl with | [_], _ => rfl) fun cdv A' outer s' H vs Q E hr h => ?_
  · obtain ⟨s, A, b, rs, ds, rfl, _⟩ := h
    rfl
  · obtain ⟨s, A, b, rs, ds, rfl, hs, q⟩ := h
    refine ⟨_, PSs.nox (pss_one (ps_ret (pe_callB call_lenQ rfl T.f_len (by decide +kernel) (pa_cons (pe_fld (pv 0) rfl) pa_nil)))), ?_⟩
    try dsimp only [cxOf]
    walk_at "st"
    refine s_FldR hs.ins T.cS T.nS_deals rfl ?_
    walk_at "st"
    refine s_lenL (SqL.of hs.dls) ?_
    rw [List.length_map, hs.len]
    exact q
theorem sc_Stepper_str : FnScope ["self", "deal"] ["self"] (defScope s_Stepper_str) := ⟨rfl, rfl, rfl, by decide +kernel, rfl, by decide +kernel, by decide +kernel⟩
def sp_Stepper_str (K : PySem.W.Frag) (TT : List (Addr × Str)) : Sp := fun vs H Q E => ∃ (s : Addr) (A : SA) (b : Bk) (rs : List Row) (ds : List D), vs = [.ref s] ∧ StAt K H b s A rs ds ∧ ds.length ≤ 40 ∧ ∀ H', Fr TT [] H H' [] → Q (.str (Txt.join " " (ds.map fun d => d.word.s))) H'
theorem k_Stepper_str {fd : FuncData} (T : Tx K mg) (F : FunD K "__str__" "Stepper.__str__" (defArgs s_Stepper_str) (defBody s_Stepper_str) (defScope s_Stepper_str) [] [] (He.ma K (He.ga K "Stepper") "__str__") fd) : Cn P w K mg base 1 (He.ma K (He.ga K "Stepper") "__str__") ["self"] (sp_Stepper_str K TT) := by
  refine cn_of F sc_Stepper_str (fun vs H Q E h => ?_) (fun _ _ _ _ _ _ us hl => match us, hl with | [_], _ => rfl) fun cdv A' outer s' H vs Q E hr h => ?_
  · obtain ⟨s, A, b, rs, ds, rfl, _⟩ := h
    rfl
  · obtain ⟨s, A, b, rs, ds, rfl, hs, h40, q⟩ := h
    refine ⟨_, PSs.nox (pss_one (ps_ret (pe_joinQ rfl rfl rfl pe_str (pe_lc (own := [("deal", 1)]) (g := (gName 1)) (tt := tYes) rfl sc_Stepper_str.nd (pi_list (pe_fld (pv 0) rfl)) (blkOk_by (N := ["self", "deal"]) (sc := defScope s_Stepper_str) (by decide +kernel)) (fun _ _ _ _ _ => (pg_name (i := 1) sc_Stepper_str.nd rfl (by first | exact Or.inl rfl | exact Or.inr rfl))) (fun _ _ _ _ _ => pts_nil) (fun _ _ _ _ _ => (pe_fldK (K := K) rfl (pv 1) rfl)))))), ?_⟩
    try dsimp only [cxOf]
    walk_at "st"
    refine ⟨⟨_, rfl⟩, ?_⟩
    walk_at "st"
    refine s_FldR hs.ins T.cS T.nS_deals rfl ?_
    refine s_IlR (SqL.of hs.dls) ?_
    refine lcJ (T := TT) (gives_list (xs := A.ps.map fun p => V.ref p.1)) [] (fun _ _ => True) (fun i => ((ds.map fun d => d.word.s).map PyData.str).take i) (fun _ z => nomatch z) trivial (by simp) (fun _ _ _ _ _ _ => trivial) (fun i H' _ f => f.sqL (SqL.of hs.dls) (by simp)) (fun i => ?_) ?_ ?_
    · simp; omega
    · intro i x H' H'' hi _ f f0 hx' Y N yes no
      rw [List.getElem?_map] at hx'
      obtain ⟨p, ep, rfl⟩ := Option.map_eq_some_iff.mp hx'
      obtain ⟨d, ed⟩ := deal_of ep hs.len
      obtain ⟨dx, g, kb, ah, ha, _⟩ := ((hs.fr (f.trans f0) (by simp)).at_ i p d ep ed).ex
      walk_at "st"
      refine ⟨rfl, ?_⟩
      walk_at "st"
      refine s_FldR ha T.cD T.nD_word rfl ?_
      refine yes _ _ (.str d.word.s) .refl ?_ (.str _) trivial
      rw [List.take_succ, List.getElem?_map, List.getElem?_map, ed]
      rfl
    · intro D' H' acc hD _ f hacc facc
      rw [show (A.ps.map fun p => V.ref p.1).length = ((ds.map fun d => d.word.s).map PyData.str).length from by simp [hs.len], List.take_length] at facc
      rw [FzA.strs_eq facc] at hacc
      refine s_join (SqL.of hacc) ?_ (q _ f)
      have h1 : ((ds.map fun d => d.word.s).map (·.length)).sum ≤ (ds.map fun d => d.word.s).length * 6 := sum_le fun y hy => by
        obtain ⟨d, _, rfl⟩ := List.mem_map.mp hy
        cases d.word <;> decide +kernel
      rw [List.length_map] at h1 ⊢
      have h2 : (" " : Str).length = 1 := rfl
      rw [h2]
      omega
end
end K28
/-! ## K28d6 -/
namespace K28
set_option maxHeartbeats 3900000
open L2 LamX PySem PySem.Spec PyProof.Rows
local macro_rules | `(tactic| walk_at "st") => `(tactic| repeat (first
  | with_reducible refine s_seq ?_ | with_reducible refine s_ret ?_ | with_reducible refine s_retN ?_ | with_reducible refine s_drop ?_ | with_reducible refine s_asg ?_ | with_reducible refine s_gn ?_ | with_reducible refine s_nextq ?_
  | ((with_reducible apply s_var); exact rfl) | with_reducible refine s_c ?_ | with_reducible refine s_op ?_ | with_reducible refine s_I0 ?_ | ((with_reducible refine s_eq ?_ ?_); exact rfl) | ((with_reducible refine s_ne ?_ ?_); exact rfl)
  | with_reducible refine s_test ?_ | with_reducible refine s_tB ?_ | with_reducible refine s_bl ?_ | with_reducible refine s_and ?_ | with_reducible refine s_or ?_ | with_reducible refine s_not ?_ | with_reducible refine s_andV ?_ | with_reducible refine s_orV ?_ | with_reducible refine s_notV ?_
  | with_reducible refine s_blP ?_ | with_reducible refine s_ifS ?_ | with_reducible refine s_nil ?_ | with_reducible refine s_cons ?_ | with_reducible refine s_cb ?_ | with_reducible refine s_call ?_ | with_reducible refine s_tup ?_ | with_reducible refine s_lst ?_
  | with_reducible refine s_isN ?_ | with_reducible refine s_notN ?_ | with_reducible refine s_un ?_ | with_reducible refine s_U ?_ | with_reducible refine s_fld ?_ | with_reducible refine s_put ?_ | with_reducible refine s_meth ?_ | with_reducible refine s_gc ?_ | with_reducible refine s_g0 ?_
  | with_reducible refine s_dz ?_ | with_reducible refine s_make ?_ | with_reducible refine s_m1 ?_ | with_reducible refine s_chain ?_ | with_reducible refine s_iZ ?_ | with_reducible refine s_dput ?_ | with_reducible refine s_dget ?_ | with_reducible refine s_din ?_ | with_reducible refine s_lc ?_ | with_reducible refine s_for ?_ | with_reducible refine s_iL ?_ | with_reducible refine s_iE ?_ | with_reducible refine s_iR1 ?_ | with_reducible refine s_iR2 ?_ | with_reducible refine s_yes ?_
  | with_reducible refine s_frz ?_ | with_reducible refine s_bm ?_ | with_reducible refine s_bm0 ?_ | with_reducible refine s_iff ?_ | with_reducible refine s_ift ?_ | with_reducible refine s_ifnt ?_ | with_reducible refine s_ifnf ?_))
section
variable {P : Program} {w : World} {K : PySem.W.Frag} {mg : Str → Option Value} {base : Heap} {TT : List (Addr × Str)}
/-! ### Stepper: making, beginning, ending -/
theorem sc_Stepper_init : FnScope ["self", "book"] ["self", "book"] (defScope s_Stepper_init) := ⟨rfl, rfl, rfl, by decide +kernel, rfl, by decide +kernel, by decide +kernel⟩
def sp_Stepper_init (K : PySem.W.Frag) (TT : List (Addr × Str)) : Sp := fun vs H Q E => ∃ (s dx : Addr) (v : V) (b : Bk), vs = [.ref s, v] ∧ H s = some (.ins (He.ga K "Stepper") dx []) ∧ Fz H v (bkD b) ∧ BkOk b ∧ ∀ A H', Fr TT [s] H H' (SA.fp A s) → StAt K H' b s A [] [] → Q .non H'
theorem k_Stepper_init {fd : FuncData} (T : Tx K mg) (F : FunD K "__init__" "Stepper.__init__" (defArgs s_Stepper_init) (defBody s_Stepper_init) (defScope s_Stepper_init) [] [] (He.ma K (He.ga K "Stepper") "__init__") fd) (h_book_copied : Cn P w K mg base 2 (He.ga K "book_copied") ["book"] (sp_book_copied TT)) : Cn P w K mg base 3 (He.ma K (He.ga K "Stepper") "__init__") ["self", "book"] (sp_Stepper_init K TT) := by
  refine cn_of F sc_Stepper_init (fun vs H Q E h => ?_) (fun _ _ _ _ _ _ us hl => match us, hl with | [_, _], _ => rfl) fun cdv A' outer s' H vs Q E hr h => ?_
  · obtain ⟨s, dx, v, b, rfl, _⟩ := h
    rfl
  · obtain ⟨s, dx, v, b, rfl, hs, hv, B, q⟩ := h
    refine ⟨_, PSs.nox (pss_cons (ps_fld (pv 0) (pe_cn h_book_copied (hr.mono (by decide)) rfl T.g_book_copied passL (pa_cons (pv 1) pa_nil)) rfl) (pss_cons (ps_fld (pv 0) (pe_lst pa_nil) rfl) (pss_one (ps_fld (pv 0) (pe_lst pa_nil) rfl)))), ?_⟩
    try dsimp only [cxOf]
    walk_at "st"
    refine ⟨v, b, rfl, hv, B.d4, fun bv H1 f1 hbv => ?_⟩
    walk_at "st"
    have hs1 := f1.get hs (by simp) trivial
    refine s_PutC hs1 T.cS T.nS_own_book rfl (by show 0 < 1000; decide) fun H2 c2 => ?_
    walk_at "st"
    refine s_newL (by simp) fun dl H3 n3 => ?_
    have ns : s ≠ dl := n3.ne c2.at
    walk_at "st"
    refine s_PutC (n3.old c2.at) T.cS T.nS_deals rfl (by show 1 < 1000; decide) fun H4 c4 => ?_
    walk_at "st"
    refine s_newL (by simp) fun ll H5 n5 => ?_
    have ns2 : s ≠ ll := n5.ne c4.at
    have nd2 : dl ≠ ll := n5.ne (c4.old n3.at ns.symm)
    walk_at "st"
    refine s_PutC (n5.old c4.at) T.cS T.nS_log rfl (by show 2 < 1000; decide) fun H6 c6 => ?_
    walk_at "st"
    have f2 : Fr TT [s] H H2 [s] := (f1.up (by simp)).trans (c2.fr hs1 trivial (by simp))
    have f3 : Fr TT [s] H H3 [dl, s] := f2.trans n3.fr'
    have f4 : Fr TT [s] H H4 [dl, s] := f3.trans (c4.fr (n3.old c2.at) trivial (by simp))
    have f5 : Fr TT [s] H H5 [ll, dl, s] := f4.trans n5.fr'
    have f6 : Fr TT [s] H H6 [ll, dl, s] := f5.trans (c6.fr (n5.old c4.at) trivial (by simp))
    have g : Fr TT [s] H1 H6 [s] := (((c2.fr hs1 trivial (by simp)).trans n3.fr).trans (c4.fr (n3.old c2.at) trivial (by simp))).trans (n5.fr.trans (c6.fr (n5.old c4.at) trivial (by simp)))
    refine q ⟨dx, bv, dl, ll, []⟩ H6 (f6.less fun c hc => ?_) ⟨c6.at, g.fz hbv, c6.old (n5.old (c4.old n3.at ns.symm)) ns.symm, ⟨[], c6.old n5.at ns2.symm, .nil⟩, rfl, fun i p d e => by simp at e, ?_⟩
    · unfold SA.fp at hc
      simp at hc ⊢
      rcases hc with rfl | rfl | rfl <;> simp
    · unfold SA.fp
      simp [ns, ns2, nd2]
theorem sc_Stepper_begin : FnScope ["self", "name", "keys", "dealing"] ["self", "name", "keys"] (defScope s_Stepper_begin) := ⟨rfl, rfl, rfl, by decide +kernel, rfl, by decide +kernel, by decide +kernel⟩
def sp_Stepper_begin (K : PySem.W.Frag) (TT : List (Addr × Str)) : Sp := fun vs H Q E => ∃ (s : Addr) (A : SA) (b : Bk) (rs : List Row) (ds : List D) (di : Nat) (u : V) (ks : List Ky), vs = [.ref s, .str (dlOf b di).name, u] ∧ StAt K H b s A rs ds ∧ BkOk b ∧ di < b.deals.length ∧ Fz H u (.list (ks.map kyD)) ∧ KsOk b di ks ∧
  ds.length < 40 ∧ rs.length < 1000 ∧ ∀ A' H', Fr TT (A.fp s) H H' (A'.fp s) → StAt K H' b s A' (rs ++ [.beg di ks]) (doD b ds rs.length (.beg di ks)) → Q (.int ds.length) H'
theorem FzA.nonref {H : Hp} {xs : List V} {ks : List Ky} : True := trivial
theorem k_Stepper_begin {fd : FuncData} (T : Tx K mg) (F : FunD K "begin" "Stepper.begin" (defArgs s_Stepper_begin) (defBody s_Stepper_begin) (defScope s_Stepper_begin) [.non] [] (He.ma K (He.ga K "Stepper") "begin") fd) (h_dealing_by : Cn P w K mg base 2 (He.ga K "dealing_by") ["book", "name"] (sp_dealing_by TT))
    (h_are_keys : Cn P w K mg base 3 (He.ga K "are_keys") ["book", "name", "thing"] (sp_are_keys TT)) (h_Deal_init : Cn P w K mg base 1 (He.ma K (He.ga K "Deal") "__init__") ["self", "dealing", "keys", "row"] (sp_Deal_init K TT)) : Cn P w K mg base 4 (He.ma K (He.ga K "Stepper") "begin") ["self", "name", "keys"] (sp_Stepper_begin K TT) := by
  obtain ⟨tMB, mMB⟩ := T.gMB
  refine cn_ofD F sc_Stepper_begin (fun vs H Q E h => ?_) (F.binds1 3 1 (by simp) rfl fun T kV doc pm an cdv ct us its h1 h2 => ?_) fun cdv A' outer s' H vs Q E hr h => ?_
  · obtain ⟨s, A, b, rs, ds, di, u, ks, rfl, _⟩ := h
    rfl
  · match us, its, h1, h2 with
    | [_, _, _], [_], _, _ => exact ⟨_, rfl, rfl⟩
  · obtain ⟨s, A, b, rs, ds, di, u, ks, rfl, hs, B, hdi, hu, hks, h40, h1000, q⟩ := h
    obtain ⟨pu, ou, us, rfl, hpu, fu⟩ := id hu.lst_inv
    refine ⟨_, PSs.nox (pss_cons (ps_set (i := 3) sc_Stepper_begin.nd rfl (by first | exact Or.inl rfl | exact Or.inr rfl) (pe_cn h_dealing_by (hr.mono (by decide)) rfl T.g_dealing_by passL (pa_cons (pe_fld (pv 0) rfl) (pa_cons (pv 1) pa_nil)))) (pss_cons (ps_if (PW.pt (pw_and (pt_cmp (pc_notN (pv 2))) (pw_and1 (pt_not (pt_val (pe_cn h_are_keys (hr.mono (by decide)) rfl T.g_are_keys passL (pa_cons (pe_fld (pv 0) rfl) (pa_cons (pv 1) (pa_cons (pv 2) pa_nil))))))))) (pss_one ps_never) pss_nil) (pss_cons (ps_if (pt_cmpR op_eq (pe_callB call_lenQ rfl T.f_len (by decide +kernel) (pa_cons (pe_fld (pv 0) rfl) pa_nil)) (pe_glob (v := .int 40) rfl mMB ⟨_, rfl⟩) (nomark _)) (pss_one ps_never) pss_nil) (pss_cons (ps_if (pt_cmp (pc_isN (pv 2))) (pss_one ps_never) pss_nil) (pss_cons (ps_expr (pe_bm PySem.F.plainAttrs_list PySem.F.slot_list_append PySem.F.type_list_append mt_append (pe_fld (pv 0) rfl) (pa_cons (pe_mk T.k_Deal h_Deal_init (hr.mono (by decide)) rfl T.g_Deal passL (pa_cons (pv 3) (pa_cons (pv 2) (pa_cons (pe_callB call_lenQ rfl T.f_len (by decide +kernel) (pa_cons (pe_fld (pv 0) rfl) pa_nil)) pa_nil)))) pa_nil))) (pss_cons (ps_expr (pe_bm PySem.F.plainAttrs_list PySem.F.slot_list_append PySem.F.type_list_append mt_append (pe_fld (pv 0) rfl) (pa_cons (pe_tup (pa_cons pe_str (pa_cons (pv 1) (pa_cons (pe_frz (pe_callTy call_listQ rfl T.f_list (by decide +kernel) (pa_cons (pv 2) pa_nil))) pa_nil)))) pa_nil))) (pss_one (ps_ret (pe_op op_sub (pe_callB call_lenQ rfl T.f_len (by decide +kernel) (pa_cons (pe_fld (pv 0) rfl) pa_nil)) pe_int))))))))), ?_⟩
    try dsimp only [cxOf]
    walk_at "st"
    refine s_FldR hs.ins T.cS T.nS_own_book rfl ?_
    walk_at "st"
    refine ⟨_, b, di, dlOf b di, rfl, hs.bk, B, (dlOf_mem hdi).1, fun v' H1 f1 hv' => ?_⟩
    have hs1 := hs.fr f1 (by simp)
    walk_at "st"
    rw [decide_eq_false (show ¬ V.ref pu = V.non from fun z => nomatch z)]
    walk_at "st"
    refine s_FldR hs1.ins T.cS T.nS_own_book rfl ?_
    walk_at "st"
    refine ⟨_, _, b, di, ks, rfl, hs1.bk, B, hdi, f1.fz hu, hks, fun H2 f2 => ?_⟩
    have hs2 := hs1.fr f2 (by simp)
    walk_at "st"
    refine s_FldR hs2.ins T.cS T.nS_deals rfl ?_
    walk_at "st"
    refine s_lenL (SqL.of hs2.dls) ?_
    walk_at "st"
    rw [List.length_map, hs2.len, decide_eq_false (show ¬ V.int (ds.length : Int) = V.int 40 from fun z => by have := V.int.inj z; omega)]
    walk_at "st"
    rw [decide_eq_false (show ¬ V.ref pu = V.non from fun z => nomatch z)]
    walk_at "st"
    refine s_FldR hs2.ins T.cS T.nS_deals rfl ?_
    refine ⟨s_tyL hs2.dls, ?_⟩
    walk_at "st"
    refine s_FldR hs2.ins T.cS T.nS_log rfl ?_
    walk_at "st"
    obtain ⟨ls, hll, fl⟩ := id hs2.log
    have llen := fl.length
    rw [List.length_map] at llen
    refine s_lenL (SqL.of hll) ?_
    rw [llen]
    walk_at "st"
    have f12 : Fr TT [] H H2 [] := f1.trans f2
    refine s_MakeR fun x dx H3' f3g hx3 nx ndx => ?_
    have f3' : Fr TT [] H2 H3' [x] := f3g
    refine ⟨x, dx, v', _, b, di, rs.length, ks, rfl, hx3, f3'.fz (f2.fz hv'), f3'.fz (f12.fz hu), B, hdi, hks, fun tl H3 f3 htl hx3' ntl hd => ⟨rfl, ?_⟩⟩
    have f23 : Fr TT [] H2 H3 [] := ⟨f3'.imm.trans f3.imm, fun b o e nb nt => f3.out b o (f3'.out b o e nb nt) (fun z => by rw [List.mem_singleton] at z; subst z; rw [nx] at e; cases e) nt, fun b e => f3'.dom b (f3.dom b e), (fun b z => nomatch z), fun t => f3.tab (f3'.tab t)⟩
    have htl2 : H2 tl = none := f3'.dom tl htl
    have hs3 := hs2.fr f23 (by simp)
    walk_at "st"
    refine s_appC hs3.dls (by rw [List.length_map, hs3.len]; omega) fun H4 c4 => ?_
    walk_at "st"
    have kn2 := hs2.known
    have nxk : ∀ c ∈ A.fp s, c ≠ x := fun c hc z => by
      obtain ⟨o, e, _⟩ := kn2 c hc
      rw [z, nx] at e; cases e
    have ntk : ∀ c ∈ A.fp s, c ≠ tl := fun c hc z => by
      obtain ⟨o, e, _⟩ := kn2 c hc
      rw [z, htl2] at e; cases e
    have ndd := hs.nd
    unfold SA.fp at ndd
    rw [List.nodup_cons, List.nodup_cons, List.nodup_cons] at ndd
    obtain ⟨m0, m1, m2, m3⟩ := ndd
    have nsd : s ≠ A.dl := fun z => m0 (by rw [z]; exact List.mem_cons_self)
    have nld : A.ll ≠ A.dl := fun z => m1 (by rw [← z]; exact List.mem_cons_self)
    have nsl : s ≠ A.ll := fun z => m0 (by rw [z]; exact List.mem_cons_of_mem _ List.mem_cons_self)
    have hs4i := c4.old hs3.ins nsd
    refine s_FldR hs4i T.cS T.nS_log rfl ?_
    obtain ⟨ls3, hll3, fl3⟩ := id hs3.log
    have hll4 := c4.old hll3 nld
    refine ⟨s_tyL hll4, ?_⟩
    walk_at "st"
    have i34 : ImK H3 H4 := c4.imm hs3.dls trivial
    have hpu4 := i34 _ _ (f23.frz (f12.frz hpu)) trivial
    refine s_list (sqF hpu4) fun g H5' n5' => s_frzN n5' trivial fun og H5 n5 => ?_
    walk_at "st"
    refine s_newT (by simp) fun tp H6 n6 => ?_
    walk_at "st"
    have hll6 := n6.old (n5.old hll4)
    have l3 := fl3.length
    rw [List.length_map] at l3
    refine s_appC hll6 (by omega) fun H7 c7 => ?_
    walk_at "st"
    have hs7i := c7.old (n6.old (n5.old hs4i)) nsl
    refine s_FldR hs7i T.cS T.nS_deals rfl ?_
    walk_at "st"
    have hdl7 := c7.old (n6.old (n5.old c4.at)) nld.symm
    refine s_lenL (SqL.of hdl7) ?_
    walk_at "st"
    rw [List.length_append, List.length_map, hs3.len, List.length_singleton, show ((ds.length + 1 : Nat) : Int) - 1 = (ds.length : Int) by omega]
    -- the new state
    have i67 : ImK H6 H7 := c7.imm hll6 trivial
    have fA : Fr TT (A.fp s) H H3 (tl :: x :: A.fp s) := ((f12.trans f23).up (gp := A.fp s) (by simp)).more fun c hc => by
      obtain rfl | hc := List.mem_cons.mp hc
      · exact .inr (.inr (f12.dom _ htl2))
      · obtain rfl | hc := List.mem_cons.mp hc
        · exact .inr (.inr (f12.dom _ nx))
        · exact .inl hc
    have f34 : Fr TT (tl :: x :: A.fp s) H3 H4 (tl :: x :: A.fp s) := c4.fr hs3.dls trivial (List.mem_cons_of_mem _ (List.mem_cons_of_mem _ SA.md))
    have f67 : Fr TT (tl :: x :: A.fp s) H6 H7 (tl :: x :: A.fp s) := c7.fr hll6 trivial (List.mem_cons_of_mem _ (List.mem_cons_of_mem _ SA.ml))
    have f46 : Fr TT (tl :: x :: A.fp s) H4 H6 (tl :: x :: A.fp s) := n5.fr.trans n6.fr
    have f37 : Fr TT (tl :: x :: A.fp s) H3 H7 (tl :: x :: A.fp s) := (f34.trans f46).trans f67
    have fAll := fA.trans f37
    have i37 : ImK H3 H7 := f37.imm
    have k37 : ∀ c o, c ≠ A.dl → c ≠ A.ll → H3 c = some o → H7 c = some o := fun c o h1 h2 e => c7.old (n6.old (n5.old (c4.old e h1))) h2
    have nxd : x ≠ A.dl := (nxk _ SA.md).symm
    have nxl : x ≠ A.ll := (nxk _ SA.ml).symm
    have ntd : tl ≠ A.dl := (ntk _ SA.md).symm
    have ntll : tl ≠ A.ll := (ntk _ SA.ml).symm
    have ndeal : ∀ {c}, c ∈ A.ps.map (·.1) ++ A.ps.map (·.2) → c ≠ A.dl ∧ c ≠ A.ll := fun hc => ⟨fun z => m1 (List.mem_cons_of_mem _ (z ▸ hc)), fun z => m2 (z ▸ hc)⟩
    refine q ⟨A.dx, A.bv, A.dl, A.ll, A.ps ++ [(x, tl)]⟩ H7 (fAll.less fun c hc => ?_) ⟨hs7i, hs3.bk.keep i37, ?_, ?_, ?_, ?_, ?_⟩
    · unfold SA.fp at hc ⊢
      simp only [List.map_append, List.map_cons, List.map_nil, List.mem_cons, List.mem_append, List.not_mem_nil, or_false] at hc ⊢
      rcases hc with h | h | h | (h | h) | (h | h) <;> simp [h]
    · rw [hdl7, List.map_append]
      rfl
    · refine ⟨_, c7.at, ?_⟩
      rw [List.map_append]
      refine ((fl3.keep i37)).snoc (.tup (i67 _ _ n6.at trivial) ?_)
      have e : nmOf b di = (dlOf b di).name := by
        unfold nmOf
        rw [(dlOf_mem hdi).1]
        rfl
      rw [e]
      exact .cons (.str _) (.cons (.str _) (.cons (.lst (i67 _ _ (n6.old n5.at) trivial) ((fu.keep (f12.imm.trans f23.imm)).keep i37)) .nil))
    · simp only [List.length_append, List.length_singleton, doD, hs3.len]
    · intro i p d e e'
      simp only [doD] at e'
      by_cases hi : i < ds.length
      · rw [List.getElem?_append_left (by rw [hs3.len]; exact hi)] at e
        rw [List.getElem?_append_left hi] at e'
        have n1 := ndeal (List.mem_append_left _ (mem1 e))
        have n2 := ndeal (List.mem_append_right _ (mem2 e))
        exact (hs3.at_ i p d e e').keep (fun o h _ => k37 _ o n1.1 n1.2 h) (fun o h _ => k37 _ o n2.1 n2.2 h) i37
      · have hi2 : i = ds.length := by
          have := (List.getElem?_eq_some_iff.mp e').1
          simp at this
          omega
        subst hi2
        rw [← hs3.len] at e
        simp at e e'
        subst e e'
        exact hd.keep (fun o h _ => k37 _ o nxd nxl h) (fun o h _ => k37 _ o ntd ntll h) i37
    · have nd := hs.nd
      unfold SA.fp at nd ⊢
      have a1 := nxk s SA.m0
      have a2 := ntk s SA.m0
      rw [List.nodup_cons, List.nodup_cons, List.nodup_cons, List.nodup_append] at nd ⊢
      obtain ⟨r0, r1, r2, r3, r4, r5⟩ := nd
      have x1 : x ∉ A.ps.map (·.1) := fun z => nxk x (List.mem_cons_of_mem _ (List.mem_cons_of_mem _ (List.mem_cons_of_mem _ (List.mem_append_left _ z)))) rfl
      have x2 : x ∉ A.ps.map (·.2) := fun z => nxk x (List.mem_cons_of_mem _ (List.mem_cons_of_mem _ (List.mem_cons_of_mem _ (List.mem_append_right _ z)))) rfl
      have t1 : tl ∉ A.ps.map (·.1) := fun z => ntk tl (List.mem_cons_of_mem _ (List.mem_cons_of_mem _ (List.mem_cons_of_mem _ (List.mem_append_left _ z)))) rfl
      have t2 : tl ∉ A.ps.map (·.2) := fun z => ntk tl (List.mem_cons_of_mem _ (List.mem_cons_of_mem _ (List.mem_cons_of_mem _ (List.mem_append_right _ z)))) rfl
      simp only [List.map_append, List.map_cons, List.map_nil, List.mem_cons, List.mem_append, List.not_mem_nil, or_false, not_or] at r0 r1 r2 ⊢
      refine ⟨⟨r0.1, r0.2.1, ⟨r0.2.2.1, a1⟩, ⟨r0.2.2.2, a2⟩⟩, ⟨r1.1, ⟨r1.2.1, nxd.symm⟩, ⟨r1.2.2, ntd.symm⟩⟩, ⟨⟨r2.1, nxl.symm⟩, ⟨r2.2, ntll.symm⟩⟩, ?_, ?_, ?_⟩
      · rw [List.nodup_append]
        exact ⟨r3, by simp, fun c hc d hd => by simp at hd; subst hd; exact fun z => x1 (z ▸ hc)⟩
      · rw [List.nodup_append]
        exact ⟨r4, by simp, fun c hc d hd => by simp at hd; subst hd; exact fun z => t2 (z ▸ hc)⟩
      · rintro c (hc | rfl) d (hd | rfl)
        · exact r5 c hc d hd
        · exact fun z => t1 (z ▸ hc)
        · exact fun z => x2 (z ▸ hd)
        · exact ntl.symm
end
end K28
/-! ## K28d7 -/
namespace K28
set_option maxHeartbeats 3900000
open L2 LamX PySem PySem.Spec PyProof.Rows
local macro_rules | `(tactic| walk_at "st") => `(tactic| repeat (first
  | with_reducible refine s_seq ?_ | with_reducible refine s_ret ?_ | with_reducible refine s_retN ?_ | with_reducible refine s_drop ?_ | with_reducible refine s_asg ?_ | with_reducible refine s_gn ?_ | with_reducible refine s_nextq ?_
  | ((with_reducible apply s_var); exact rfl) | with_reducible refine s_c ?_ | with_reducible refine s_op ?_ | with_reducible refine s_I0 ?_ | ((with_reducible refine s_eq ?_ ?_); exact rfl) | ((with_reducible refine s_ne ?_ ?_); exact rfl)
  | with_reducible refine s_test ?_ | with_reducible refine s_tB ?_ | with_reducible refine s_bl ?_ | with_reducible refine s_and ?_ | with_reducible refine s_or ?_ | with_reducible refine s_not ?_ | with_reducible refine s_andV ?_ | with_reducible refine s_orV ?_ | with_reducible refine s_notV ?_
  | with_reducible refine s_blP ?_ | with_reducible refine s_ifS ?_ | with_reducible refine s_nil ?_ | with_reducible refine s_cons ?_ | with_reducible refine s_cb ?_ | with_reducible refine s_call ?_ | with_reducible refine s_tup ?_ | with_reducible refine s_lst ?_
  | with_reducible refine s_isN ?_ | with_reducible refine s_notN ?_ | with_reducible refine s_un ?_ | with_reducible refine s_U ?_ | with_reducible refine s_fld ?_ | with_reducible refine s_put ?_ | with_reducible refine s_meth ?_ | with_reducible refine s_gc ?_ | with_reducible refine s_g0 ?_
  | with_reducible refine s_dz ?_ | with_reducible refine s_make ?_ | with_reducible refine s_m1 ?_ | with_reducible refine s_chain ?_ | with_reducible refine s_iZ ?_ | with_reducible refine s_dput ?_ | with_reducible refine s_dget ?_ | with_reducible refine s_din ?_ | with_reducible refine s_lc ?_ | with_reducible refine s_for ?_ | with_reducible refine s_iL ?_ | with_reducible refine s_iE ?_ | with_reducible refine s_iR1 ?_ | with_reducible refine s_iR2 ?_ | with_reducible refine s_yes ?_
  | with_reducible refine s_frz ?_ | with_reducible refine s_bm ?_ | with_reducible refine s_bm0 ?_ | with_reducible refine s_iff ?_ | with_reducible refine s_ift ?_ | with_reducible refine s_ifnt ?_ | with_reducible refine s_ifnf ?_))
section
variable {P : Program} {w : World} {K : PySem.W.Frag} {mg : Str → Option Value} {base : Heap} {TT : List (Addr × Str)}
/-! ### Stepper: ends -/
theorem sc_Stepper_close : FnScope ["self", "number", "stands", "deal"] ["self", "number", "stands"] (defScope s_Stepper_close) := ⟨rfl, rfl, rfl, by decide +kernel, rfl, by decide +kernel, by decide +kernel⟩
def sp_Stepper_close (K : PySem.W.Frag) (TT : List (Addr × Str)) : Sp := fun vs H Q E => ∃ (s : Addr) (A : SA) (b : Bk) (rs : List Row) (ds : List D) (n : Nat) (d : D) (x : Bool), vs = [.ref s, .int n, .bl x] ∧ StAt K H b s A rs ds ∧ ds[n]? = some d ∧ rs.length < 1000 ∧
  ∀ H', Fr TT (A.fp s) H H' (A.fp s) → StAt K H' b s A (rs ++ [.fin n]) (ds.set n { d with ended := some rs.length, word := if x then .stands else .off }) → Q (.bl x) H'
theorem k_Stepper_close {fd : FuncData} (T : Tx K mg) (F : FunD K "close" "Stepper.close" (defArgs s_Stepper_close) (defBody s_Stepper_close) (defScope s_Stepper_close) [] [] (He.ma K (He.ga K "Stepper") "close") fd) (h_Deal_closed : Cn P w K mg base 1 (He.ma K (He.ga K "Deal") "closed") ["self", "word", "row"] (sp_Deal_closed K TT)) : Cn P w K mg base 2 (He.ma K (He.ga K "Stepper") "close") ["self", "number", "stands"] (sp_Stepper_close K TT) := by
  refine cn_of F sc_Stepper_close (fun vs H Q E h => ?_) (fun _ _ _ _ _ _ us hl => match us, hl with | [_, _, _], _ => rfl) fun cdv A' outer s' H vs Q E hr h => ?_
  · obtain ⟨s, A, b, rs, ds, n, d, x, rfl, _⟩ := h
    rfl
  · obtain ⟨s, A, b, rs, ds, n, d, x, rfl, hs, ed, hlen, q⟩ := h
    obtain ⟨p, ep⟩ := pair_of ed hs.len
    have hd := hs.at_ n p d ep ed
    refine ⟨_, PSs.nox (pss_cons (ps_set (i := 3) sc_Stepper_close.nd rfl (by first | exact Or.inl rfl | exact Or.inr rfl) (pe_ix ix_list (pe_fld (pv 0) rfl) (pv 1) fun _ _ => rfl)) (pss_cons (ps_expr (pe_cm T.cD T.mD_closed h_Deal_closed (pv 3) (hr.mono (by decide)) passL (pa_cons (pe_ix ix_list (pe_lst (pa_cons pe_str (pa_cons pe_str pa_nil))) (pe_callTy call_intQ rfl T.f_int (by decide +kernel) (pa_cons (pv 2) pa_nil)) fun _ _ => rfl) (pa_cons (pe_callB call_lenQ rfl T.f_len (by decide +kernel) (pa_cons (pe_fld (pv 0) rfl) pa_nil)) pa_nil)))) (pss_cons (ps_expr (pe_bm PySem.F.plainAttrs_list PySem.F.slot_list_append PySem.F.type_list_append mt_append (pe_fld (pv 0) rfl) (pa_cons (pe_tup (pa_cons pe_str (pa_cons (pv 1) pa_nil))) pa_nil))) (pss_one (ps_ret (pv 2)))))), ?_⟩
    try dsimp only [cxOf]
    walk_at "st"
    refine s_FldR hs.ins T.cS T.nS_deals rfl ?_
    walk_at "st"
    refine s_ixL (SqL.of hs.dls) (atI_nat (v := .ref p.1) (by rw [List.getElem?_map, ep]; rfl)) ?_
    obtain ⟨dx, g, kb, ah, ha, _⟩ := hd.ex
    walk_at "st"
    refine s_MethR ha rfl ?_
    walk_at "st"
    refine s_newL (by simp) fun l H1 n1 => ?_
    walk_at "st"
    refine s_intB ?_
    refine s_ixL (v := .str (if x then Wd.stands else Wd.off).s) (SqL.of n1.at) (by cases x <;> first | exact atI_lit1 | exact atI_lit0) ?_
    have hs1 := hs.fr (n1.fr (T := TT) (fp := [])) (by simp)
    have hd1 := hd.fr (n1.fr (T := TT) (fp := [])) (by simp) (by simp)
    walk_at "st"
    refine s_FldR hs1.ins T.cS T.nS_log rfl ?_
    obtain ⟨ls, hll, fl⟩ := id hs1.log
    have llen := fl.length
    rw [List.length_map] at llen
    walk_at "st"
    refine s_lenL (SqL.of hll) ?_
    rw [llen]
    walk_at "st"
    refine ⟨p.1, p.2, b, d, _, rs.length, rfl, hd1, fun H2 f2 hd2 => ?_⟩
    obtain ⟨hs2, g2⟩ := hs1.inD ep f2 hd2
    walk_at "st"
    refine s_FldR hs2.ins T.cS T.nS_log rfl ?_
    obtain ⟨ls2, hll2, fl2⟩ := id hs2.log
    have llen2 := fl2.length
    rw [List.length_map] at llen2
    refine ⟨s_tyL hll2, ?_⟩
    walk_at "st"
    refine s_newT (by simp) fun tp H3 n3 => ?_
    walk_at "st"
    refine s_appC (n3.old hll2) (by omega) fun H4 c4 => ?_
    obtain ⟨hs4, g4⟩ := hs2.logged (T := TT) (r := .fin n) hll2 fl2 n3 c4 (.tup n3.at (.cons (.str _) (.cons (.int _) .nil)))
    walk_at "st"
    exact q H4 ((n1.fr.trans g2).trans g4) hs4
theorem sc_Stepper_shut : FnScope ["self", "number", "deal"] ["self", "number"] (defScope s_Stepper_shut) := ⟨rfl, rfl, rfl, by decide +kernel, rfl, by decide +kernel, by decide +kernel⟩
def sp_Stepper_shut (K : PySem.W.Frag) (TT : List (Addr × Str)) : Sp := fun vs H Q E => ∃ (s : Addr) (A : SA) (b : Bk) (rs : List Row) (ds : List D) (n : Nat) (d : D), vs = [.ref s, .int n] ∧ StAt K H b s A rs ds ∧ ds[n]? = some d ∧ rs.length < 1000 ∧
  ∀ H', Fr TT (A.fp s) H H' (A.fp s) → StAt K H' b s A (rs ++ [.drp n]) (ds.set n { d with ended := some rs.length, word := .off }) → Q .non H'
theorem k_Stepper_shut {fd : FuncData} (T : Tx K mg) (F : FunD K "shut" "Stepper.shut" (defArgs s_Stepper_shut) (defBody s_Stepper_shut) (defScope s_Stepper_shut) [] [] (He.ma K (He.ga K "Stepper") "shut") fd) (h_Deal_closed : Cn P w K mg base 1 (He.ma K (He.ga K "Deal") "closed") ["self", "word", "row"] (sp_Deal_closed K TT)) : Cn P w K mg base 2 (He.ma K (He.ga K "Stepper") "shut") ["self", "number"] (sp_Stepper_shut K TT) := by
  refine cn_of F sc_Stepper_shut (fun vs H Q E h => ?_) (fun _ _ _ _ _ _ us hl => match us, hl with | [_, _], _ => rfl) fun cdv A' outer s' H vs Q E hr h => ?_
  · obtain ⟨s, A, b, rs, ds, n, d, rfl, _⟩ := h
    rfl
  · obtain ⟨s, A, b, rs, ds, n, d, rfl, hs, ed, hlen, q⟩ := h
    obtain ⟨p, ep⟩ := pair_of ed hs.len
    have hd := hs.at_ n p d ep ed
    refine ⟨_, PSs.nox (pss_cons (ps_set (i := 2) sc_Stepper_shut.nd rfl (by first | exact Or.inl rfl | exact Or.inr rfl) (pe_ix ix_list (pe_fld (pv 0) rfl) (pv 1) fun _ _ => rfl)) (pss_cons (ps_expr (pe_cm T.cD T.mD_closed h_Deal_closed (pv 2) (hr.mono (by decide)) passL (pa_cons pe_str (pa_cons (pe_callB call_lenQ rfl T.f_len (by decide +kernel) (pa_cons (pe_fld (pv 0) rfl) pa_nil)) pa_nil)))) (pss_one (ps_expr (pe_bm PySem.F.plainAttrs_list PySem.F.slot_list_append PySem.F.type_list_append mt_append (pe_fld (pv 0) rfl) (pa_cons (pe_tup (pa_cons pe_str (pa_cons (pv 1) pa_nil))) pa_nil)))))), ?_⟩
    try dsimp only [cxOf]
    walk_at "st"
    refine s_FldR hs.ins T.cS T.nS_deals rfl ?_
    walk_at "st"
    refine s_ixL (SqL.of hs.dls) (atI_nat (v := .ref p.1) (by rw [List.getElem?_map, ep]; rfl)) ?_
    obtain ⟨dx, g, kb, ah, ha, _⟩ := hd.ex
    walk_at "st"
    refine s_MethR ha rfl ?_
    walk_at "st"
    refine s_FldR hs.ins T.cS T.nS_log rfl ?_
    obtain ⟨ls, hll, fl⟩ := id hs.log
    have llen := fl.length
    rw [List.length_map] at llen
    walk_at "st"
    refine s_lenL (SqL.of hll) ?_
    rw [llen]
    walk_at "st"
    refine ⟨p.1, p.2, b, d, .off, rs.length, rfl, hd, fun H2 f2 hd2 => ?_⟩
    obtain ⟨hs2, g2⟩ := hs.inD ep f2 hd2
    walk_at "st"
    refine s_FldR hs2.ins T.cS T.nS_log rfl ?_
    obtain ⟨ls2, hll2, fl2⟩ := id hs2.log
    have llen2 := fl2.length
    rw [List.length_map] at llen2
    refine ⟨s_tyL hll2, ?_⟩
    walk_at "st"
    refine s_newT (by simp) fun tp H3 n3 => ?_
    walk_at "st"
    refine s_appC (n3.old hll2) (by omega) fun H4 c4 => ?_
    obtain ⟨hs4, g4⟩ := hs2.logged (T := TT) (r := .drp n) hll2 fl2 n3 c4 (.tup n3.at (.cons (.str _) (.cons (.int _) .nil)))
    walk_at "st"
    exact q H4 (g2.trans g4) hs4
theorem sc_Stepper_is_called_off : FnScope ["self", "number", "own", "deal", "key"] ["self", "number"] (defScope s_Stepper_is_called_off) := ⟨rfl, rfl, rfl, by decide +kernel, rfl, by decide +kernel, by decide +kernel⟩
def sp_Stepper_is_called_off (K : PySem.W.Frag) (TT : List (Addr × Str)) : Sp := fun vs H Q E => ∃ (s : Addr) (A : SA) (b : Bk) (k : Nat) (rs : List Row) (ds : List D) (n : Nat) (d : D), vs = [.ref s, .int n] ∧ StAt K H b s A rs ds ∧ BkOk b ∧ (∀ e ∈ ds, DOk b k e) ∧ ds[n]? = some d ∧ ∀ H', Fr TT [] H H' [] → Q (.bl (isOff ds d)) H'
theorem told_le {b : Bk} {k : Nat} {d : D} (B : BkOk b) (h : DOk b k d) : d.told.length ≤ 8 := Nat.le_trans h.tl (B.s8 _ (dlOf_mem h.di).2)
theorem wrote_le {d : D} : (wrote d).length ≤ d.told.length := by
  unfold wrote
  rw [List.length_map]
  exact List.length_filter_le _ _
theorem st_ne {x : Wd} (h : ¬ x = .stands) : ¬ V.str x.s = V.str "stands" := by
  cases x with
  | stands => exact absurd rfl h
  | off => exact fun z => absurd (V.str.inj z) (by decide +kernel)
  | opn => exact fun z => absurd (V.str.inj z) (by decide +kernel)
theorem k_Stepper_is_called_off {fd : FuncData} (T : Tx K mg) (F : FunD K "is_called_off" "Stepper.is_called_off" (defArgs s_Stepper_is_called_off) (defBody s_Stepper_is_called_off) (defScope s_Stepper_is_called_off) [] [] (He.ma K (He.ga K "Stepper") "is_called_off") fd) (h_Deal_written : Cn P w K mg base 1 (He.ma K (He.ga K "Deal") "written") ["self"] (sp_Deal_written K TT)) : Cn P w K mg base 2 (He.ma K (He.ga K "Stepper") "is_called_off") ["self", "number"] (sp_Stepper_is_called_off K TT) := by
  refine cn_of F sc_Stepper_is_called_off (fun vs H Q E h => ?_) (fun _ _ _ _ _ _ us hl => match us, hl with | [_, _], _ => rfl) fun cdv A' outer s' H vs Q E hr h => ?_
  · obtain ⟨s, A, b, k, rs, ds, n, d, rfl, _⟩ := h
    rfl
  · obtain ⟨s, A, b, k, rs, ds, n, d, rfl, hs, B, ok, ed, q⟩ := h
    obtain ⟨p, ep⟩ := pair_of ed hs.len
    have hd := hs.at_ n p d ep ed
    have okd := ok d (List.mem_of_getElem? ed)
    refine ⟨_, PSs.nox (pss_cons (ps_set (i := 2) sc_Stepper_is_called_off.nd rfl (by first | exact Or.inl rfl | exact Or.inr rfl) (pe_ix ix_list (pe_fld (pv 0) rfl) (pv 1) fun _ _ => rfl)) (pss_cons (ps_for PassesOwn.never rfl (pi_list (pe_fld (pv 0) rfl)) (pg_name (i := 3) sc_Stepper_is_called_off.nd rfl (by first | exact Or.inl rfl | exact Or.inr rfl)) (pss_one (ps_if (PW.pt (pw_and (pt_cmpR op_eq (pe_fld (pv 3) rfl) pe_str (nomark _)) (pw_and1 (pt_cmpR op_gt (pe_fld (pv 3) rfl) (pe_fld (pv 2) rfl) (nomark _))))) (pss_one (ps_if (pt_val (pe_callB (cr_any rfl) rfl T.f_any (by decide +kernel) (pa_cons (pe_lc (own := [("key", 4)]) (g := (gName 4)) (tt := tYes) rfl sc_Stepper_is_called_off.nd (pi_list (pe_cm0 T.cD T.mD_written h_Deal_written (pv 3) (hr.mono (by decide)) passL)) (blkOk_by (N := ["self", "number", "own", "deal", "key"]) (sc := defScope s_Stepper_is_called_off) (by decide +kernel)) (fun _ _ _ _ _ => (pg_name (i := 4) sc_Stepper_is_called_off.nd rfl (by first | exact Or.inl rfl | exact Or.inr rfl))) (fun _ _ _ _ _ => pts_nil) (fun _ _ _ _ _ => (pe_cmpR (op_inDK (K := K) rfl (hu65 hr)) (pv 4) (pe_cm0 T.cD T.mD_written h_Deal_written (pv 2) (hr.mono (by decide)) passL) (by first | rfl | exact nomark _)))) pa_nil))) (pss_one (ps_ret pe_bl)) pss_nil)) pss_nil))) (pss_one (ps_ret pe_bl)))), ?_⟩
    try dsimp only [cxOf]
    walk_at "st"
    refine s_FldR hs.ins T.cS T.nS_deals rfl ?_
    walk_at "st"
    refine s_ixL (SqL.of hs.dls) (atI_nat (v := .ref p.1) (by rw [List.getElem?_map, ep]; rfl)) ?_
    walk_at "st"
    refine s_FldR hs.ins T.cS T.nS_deals rfl ?_
    refine s_IlR (SqL.of hs.dls) ?_
    refine forJ (T := TT) (gives_list (xs := A.ps.map fun p => V.ref p.1)) (fun i σ H' => ∃ a1, σ = [some (.ref s), some (.int n), some (.ref p.1), a1, none] ∧ Fr TT [] H H' [] ∧ ((ds.take i).any fun e => decide (e.word = .stands) && late e.ended d.begun && (wrote e).any fun k => decide (k ∈ wrote d)) = false) ⟨_, rfl, .refl, by simp⟩ ?_ ?_ ?_
    · rintro i σ H' hi ⟨a1, rfl, f, _⟩
      exact f.sqL (SqL.of hs.dls) (by simp)
    · rintro i x σ H' H'' hi ⟨a1, rfl, f, hno⟩ f0 hx
      rw [List.getElem?_map] at hx
      obtain ⟨r, er, rfl⟩ := Option.map_eq_some_iff.mp hx
      obtain ⟨e, ee⟩ := deal_of er hs.len
      have fH : Fr TT [] H H'' [] := f.trans f0
      have hsH := hs.fr fH (by simp)
      have he := hsH.at_ i r e er ee
      have hdH := hsH.at_ n p d ep ed
      have oke := ok e (List.mem_of_getElem? ee)
      obtain ⟨dx, g, kb, ah, ha, _⟩ := id he.ex
      obtain ⟨dx2, g2, kb2, ah2, ha2, _⟩ := id hdH.ex
      have etake : ds.take (i + 1) = ds.take i ++ [e] := by rw [List.take_succ, ee]; rfl
      have next : (decide (e.word = .stands) && late e.ended d.begun && (wrote e).any fun k => decide (k ∈ wrote d)) = false → ∀ H3, Fr TT [] H H3 [] → ∃ a1, ([some (.ref s), some (.int n), some (.ref p.1), some (.ref r.1), none] : L2.St) = [some (.ref s), some (.int n), some (.ref p.1), a1, none] ∧ Fr TT [] H H3 [] ∧ ((ds.take (i + 1)).any fun e => decide (e.word = .stands) && late e.ended d.begun && (wrote e).any fun k => decide (k ∈ wrote d)) = false := fun h0 H3 f3 => ⟨_, rfl, f3, by rw [etake, List.any_append, hno, List.any_cons, h0]; rfl⟩
      walk_at "st"
      refine s_FldR ha T.cD T.nD_word rfl ?_
      walk_at "st"
      by_cases hw : e.word = .stands
      · rw [hw, decide_eq_true (show V.str Wd.stands.s = V.str "stands" from rfl)]
        rw [hw] at next ha
        obtain ⟨en, hen, _⟩ := (oke.en.resolve_left fun z => by rw [hw] at z; exact nomatch z.1).2
        rw [hen] at next ha
        walk_at "st"
        refine s_FldR ha T.cD T.nD_ended rfl ?_
        walk_at "st"
        refine s_FldR ha2 T.cD T.nD_begun rfl ?_
        walk_at "st"
        refine s_I0 ?_
        by_cases hl : d.begun < en
        · rw [decide_eq_true (show (d.begun : Int) < (en : Int) by omega)]
          walk_at "st"
          refine s_MethR ha rfl ?_
          walk_at "st"
          refine ⟨r.1, r.2, b, e, rfl, he, Nat.le_trans (told_le B oke) (by decide), fun l xs H1 f1 _ hl1 fx => ?_⟩
          have lx := fx.length
          rw [List.length_map] at lx
          have hd1 := (hsH.fr f1 (by simp)).at_ n p d ep ed
          refine s_IlR (SqL.of hl1) ?_
          refine lcJ (T := TT) (gives_list (xs := xs)) [] (fun _ _ => True) (fun i => ((wrote e).map fun k => PyData.bool (decide (k ∈ wrote d))).take i) (fun _ z => nomatch z) trivial (by simp) (fun _ _ _ _ _ _ => trivial) (fun i H' _ f => f.sqL (SqL.of hl1) (by simp)) (fun i => ?_) ?_ ?_
          · have h1 := wrote_le (d := e)
            have h2 := told_le B oke
            simp
            omega
          · intro j y H2 H2' hj _ f2 f20 hy Y N yes no
            obtain ⟨kd, ekd, fk⟩ := fx.of hy
            rw [List.getElem?_map] at ekd
            obtain ⟨ky, ek, rfl⟩ := Option.map_eq_some_iff.mp ekd
            have hd2 := hd1.fr (f2.trans f20) (by simp) (by simp)
            obtain ⟨dx3, g3, kb3, ah3, ha3, _⟩ := id hd2.ex
            walk_at "st"
            refine ⟨rfl, ?_⟩
            walk_at "st"
            refine s_MethR ha3 rfl ?_
            walk_at "st"
            refine ⟨p.1, p.2, b, d, rfl, hd2, Nat.le_trans (told_le B okd) (by decide), fun l2 xs2 H3 f3 _ hl2 fx2 => ?_⟩
            refine s_inKy (wrote_ok B oke _ (List.mem_of_getElem? ek)) (wrote_ok B okd) ((f2.trans (f20.trans f3)).fz fk) (SqL.of hl2) fx2 ?_
            refine yes _ _ (.bool (decide (ky ∈ wrote d))) f3 ?_ (.bl _) trivial
            rw [List.take_succ, List.getElem?_map, ek]
            rfl
          · intro D' H2 acc hD _ f2 hacc facc
            rw [lx, show (wrote e).length = ((wrote e).map fun k => PyData.bool (decide (k ∈ wrote d))).length from by rw [List.length_map], List.take_length] at facc
            walk_at "st"
            refine ⟨D', (wrote e).map fun k => decide (k ∈ wrote d), rfl, SqL.of ?_, ?_⟩
            · rw [hacc, bools_eq facc]
            · rw [List.any_map]
              have fe : Fr TT [] H H2 [] := (fH.trans f1).trans f2
              cases ha5 : (wrote e).any (id ∘ fun k => decide (k ∈ wrote d)) with
              | true =>
                walk_at "st"
                have e5 : isOff ds d = true := by
                  unfold isOff
                  rw [List.any_eq_true]
                  refine ⟨e, List.mem_of_getElem? ee, ?_⟩
                  rw [hw, hen]
                  simp only [decide_true, Bool.true_and, late]
                  rw [decide_eq_true hl, Bool.true_and]
                  exact ha5
                rw [← e5]
                exact q _ fe
              | false =>
                walk_at "st"
                exact next (by rw [show ((wrote e).any fun k => decide (k ∈ wrote d)) = false from ha5, Bool.and_false]) _ fe
        · rw [decide_eq_false (show ¬ (d.begun : Int) < (en : Int) by omega)]
          walk_at "st"
          exact next (by simp [late, hl]) _ fH
      · rw [decide_eq_false (st_ne hw)]
        walk_at "st"
        exact next (by rw [decide_eq_false hw]; rfl) _ fH
    · rintro σ H' ⟨a1, rfl, f, hno⟩
      walk_at "st"
      rw [List.length_map, hs.len, List.take_length] at hno
      have e5 : isOff ds d = false := hno
      rw [← e5]
      exact q _ f
end
end K28
/-! ## K28d8 -/
namespace K28
set_option maxHeartbeats 3900000
open L2 LamX PySem PySem.Spec PyProof.Rows
local macro_rules | `(tactic| walk_at "st") => `(tactic| repeat (first
  | with_reducible refine s_seq ?_ | with_reducible refine s_ret ?_ | with_reducible refine s_retN ?_ | with_reducible refine s_drop ?_ | with_reducible refine s_asg ?_ | with_reducible refine s_gn ?_ | with_reducible refine s_nextq ?_
  | ((with_reducible apply s_var); exact rfl) | with_reducible refine s_c ?_ | with_reducible refine s_op ?_ | with_reducible refine s_I0 ?_ | ((with_reducible refine s_eq ?_ ?_); exact rfl) | ((with_reducible refine s_ne ?_ ?_); exact rfl)
  | with_reducible refine s_test ?_ | with_reducible refine s_tB ?_ | with_reducible refine s_bl ?_ | with_reducible refine s_and ?_ | with_reducible refine s_or ?_ | with_reducible refine s_not ?_ | with_reducible refine s_andV ?_ | with_reducible refine s_orV ?_ | with_reducible refine s_notV ?_
  | with_reducible refine s_blP ?_ | with_reducible refine s_ifS ?_ | with_reducible refine s_nil ?_ | with_reducible refine s_cons ?_ | with_reducible refine s_cb ?_ | with_reducible refine s_call ?_ | with_reducible refine s_tup ?_ | with_reducible refine s_lst ?_
  | with_reducible refine s_isN ?_ | with_reducible refine s_notN ?_ | with_reducible refine s_un ?_ | with_reducible refine s_U ?_ | with_reducible refine s_fld ?_ | with_reducible refine s_put ?_ | with_reducible refine s_meth ?_ | with_reducible refine s_gc ?_ | with_reducible refine s_g0 ?_
  | with_reducible refine s_dz ?_ | with_reducible refine s_make ?_ | with_reducible refine s_m1 ?_ | with_reducible refine s_chain ?_ | with_reducible refine s_iZ ?_ | with_reducible refine s_dput ?_ | with_reducible refine s_dget ?_ | with_reducible refine s_din ?_ | with_reducible refine s_lc ?_ | with_reducible refine s_for ?_ | with_reducible refine s_iL ?_ | with_reducible refine s_iE ?_ | with_reducible refine s_iR1 ?_ | with_reducible refine s_iR2 ?_ | with_reducible refine s_yes ?_
  | with_reducible refine s_frz ?_ | with_reducible refine s_bm ?_ | with_reducible refine s_bm0 ?_ | with_reducible refine s_iff ?_ | with_reducible refine s_ift ?_ | with_reducible refine s_ifnt ?_ | with_reducible refine s_ifnf ?_))
section
variable {P : Program} {w : World} {K : PySem.W.Frag} {mg : Str → Option Value} {base : Heap} {TT : List (Addr × Str)}
/-! ### last_writer -/
abbrev lwC (K : PySem.W.Frag) : Addr := He.codeOf K ("Stepper", some "last_writer")
abbrev lwP (K : PySem.W.Frag) : Addr := He.tabOf K (lwC K)
def lwT (K : PySem.W.Frag) : List (Addr × Str) := [(lwP K, (envOfC "Stepper.last_writer" (defScope s_Stepper_last_writer) 0 0 .none).qual ++ "<lambda>")]
theorem sc_Stepper_last_writer : FnScope ["self", "key", "row", "some", "number", "deal"] ["self", "key", "row"] (defScope s_Stepper_last_writer) := ⟨rfl, rfl, rfl, by decide +kernel, rfl, by decide +kernel, by decide +kernel⟩
def sp_Stepper_last_writer (K : PySem.W.Frag) : Sp := fun vs H Q E => ∃ (s : Addr) (A : SA) (b : Bk) (k : Nat) (rs : List Row) (ds : List D) (u : V) (key : Ky) (r : Nat), vs = [.ref s, u, .int r] ∧ StAt K H b s A rs ds ∧ BkOk b ∧ (∀ e ∈ ds, DOk b k e) ∧ Fz H u (kyD key) ∧ KyOk b key ∧ ds.length ≤ 40 ∧ Tabs (lwT K) H ∧
  ∀ H', Fr (lwT K) [] H H' [] → Q (topV (lastW ds key r)) H'
theorem cands_succ {ds : List D} {key : Ky} {r i : Nat} : cands ds key r (i + 1) = cands ds key r i ++ (if cand ds key r i = true then [(i : Int)] else []) := by
  unfold cands
  rw [List.range_succ, List.filter_append, List.map_append]
  congr 1
  by_cases h : cand ds key r i = true
  · simp [List.filter, h]
  · simp [List.filter, h]
theorem cands_len {ds : List D} {key : Ky} {r i : Nat} : (cands ds key r i).length ≤ i := by
  unfold cands
  rw [List.length_map]
  have := List.length_filter_le (cand ds key r) (List.range i)
  simpa using this
theorem k_Stepper_last_writer {fd : FuncData} (T : Tx K mg) (tb : TabB base mg (lwC K) (lwP K)) (F : FunD K "last_writer" "Stepper.last_writer" (defArgs s_Stepper_last_writer) (defBody s_Stepper_last_writer) (defScope s_Stepper_last_writer) [] [] (He.fAd K ("Stepper", some "last_writer")) fd)
    (h_Deal_written : Cn P w K mg base 1 (He.ma K (He.ga K "Deal") "written") ["self"] (sp_Deal_written K (lwT K))) : Cn P w K mg base 4 (He.ma K (He.ga K "Stepper") "last_writer") ["self", "key", "row"] (sp_Stepper_last_writer K) := by
  refine cn_ofC (k := 3) F sc_Stepper_last_writer (fun vs H Q E h => ?_) (fun _ _ _ _ _ _ us hl => match us, hl with | [_, _, _], _ => rfl) fun A' outer s' H vs Q E hr h => ?_
  · obtain ⟨s, A, b, k, rs, ds, u, key, r, rfl, _⟩ := h
    rfl
  · obtain ⟨s, A, b, k, rs, ds, u, key, r, rfl, hs, B, ok, hu, hk, h40, hT, q⟩ := h
    refine ⟨_, PSs.nox (pss_cons (ps_set (i := 3) sc_Stepper_last_writer.nd rfl (by first | exact Or.inl rfl | exact Or.inr rfl) (pe_lst pa_nil)) (pss_cons (ps_for PassesOwn.never rfl (pi_enum rfl T.f_enumerate (pa_cons (pe_fld (pv 0) rfl) pa_nil)) (pg_tup rfl (pgs_cons (pg_name (i := 4) sc_Stepper_last_writer.nd rfl (by first | exact Or.inl rfl | exact Or.inr rfl)) (pgs_cons (pg_name (i := 5) sc_Stepper_last_writer.nd rfl (by first | exact Or.inl rfl | exact Or.inr rfl)) pgs_nil))) (pss_one (ps_if (PW.pt (pw_and (pt_cmpR op_eq (pe_fld (pv 5) rfl) pe_str (nomark _)) (pw_and (pt_cmpR op_lt (pe_fld (pv 5) rfl) (pv 2) (nomark _)) (pw_and1 (pt_cmpR (op_inD (hu65 hr)) (pv 1) (pe_cm0 T.cD T.mD_written h_Deal_written (pv 5) (hr.mono (by decide)) passL) (by first | rfl | exact nomark _)))))) (pss_one (ps_expr (pe_bm PySem.F.plainAttrs_list PySem.F.slot_list_append PySem.F.type_list_append mt_append (pv 3) (pa_cons (pv 4) pa_nil)))) pss_nil))) (pss_one (ps_ret (pe_maxL (T := lwT K) (x := "number") (k := 0) (i := 4) (tb := tFld K (tOp (rIxL K) (tFld K (tVar 0) "deals") (tVar 4)) "ended") rfl T.f_max (pa_cons (pv 3) pa_nil) (lamP_by (sc := defScope s_Stepper_last_writer) (by decide +kernel)) sc_Stepper_last_writer.nd rfl tb rfl (List.mem_singleton.mpr rfl) (fun p hp _ => by rw [List.mem_singleton.mp hp]; rfl) rfl rfl rfl (hr.mono (by decide)) (fun _ _ _ _ _ _ => rfl) (fun _ _ _ _ _ _ => (pe_fldK (K := K) rfl (pe_ix (ix_listK (K := K) rfl) (pe_fldK (K := K) rfl (pv 0) rfl) (pv 4) fun _ _ => rfl) rfl))))))), ?_⟩
    try dsimp only [cxOf]
    walk_at "st"
    refine s_newL (by simp) fun l H0 n0 => ?_
    have hs0 := hs.fr (n0.fr (T := lwT K) (fp := [])) (by simp)
    walk_at "st"
    refine s_FldR hs0.ins T.cS T.nS_deals rfl ?_
    walk_at "st"
    refine s_IeR (SqL.of hs0.dls) ?_
    refine forJ (T := lwT K) (gives_enum (xs := A.ps.map fun p => V.ref p.1)) (fun i σ H' => ∃ a1 a2, σ = [some (.ref s), some u, some (.int r), some (.ref l), a1, a2] ∧ Fr (lwT K) [] H H' [] ∧ H' l = some (.lst ((cands ds key r i).map V.int))) ⟨_, _, rfl, n0.fr, n0.at⟩ ?_ ?_ ?_
    · rintro i σ H' hi ⟨a1, a2, rfl, f, _⟩
      exact f.sqL (SqL.of hs.dls) (by simp)
    · rintro i x σ H' H'' hi ⟨a1, a2, rfl, f, hl⟩ f0 ⟨tp, xi, rfl, htp, hx⟩
      rw [List.getElem?_map] at hx
      obtain ⟨p, ep, rfl⟩ := Option.map_eq_some_iff.mp hx
      obtain ⟨e, ee⟩ := deal_of ep hs.len
      have fH : Fr (lwT K) [] H H'' [] := f.trans f0
      have hl2 := f0.get hl (by simp) trivial
      have he := (hs.fr fH (by simp)).at_ i p e ep ee
      have oke := ok e (List.mem_of_getElem? ee)
      obtain ⟨dx, g, kb, ah, ha, _⟩ := id he.ex
      have ecand : cand ds key r i = (decide (e.word = .stands) && gone e.ended r && decide (key ∈ wrote e)) := by unfold cand; rw [ee]
      have no : cand ds key r i = false → ∀ H3, Fr (lwT K) [] H'' H3 [] → ∃ a1 a2, ([some (.ref s), some u, some (.int r), some (.ref l), some (.int i), some (.ref p.1)] : L2.St) = [some (.ref s), some u, some (.int r), some (.ref l), a1, a2] ∧ Fr (lwT K) [] H H3 [] ∧ H3 l = some (.lst ((cands ds key r (i + 1)).map V.int)) := fun h0 H3 f3 =>
        ⟨_, _, rfl, fH.trans f3, by rw [cands_succ, h0, if_neg Bool.false_ne_true, List.append_nil]; exact f3.get hl2 (by simp) trivial⟩
      refine s_gt (SqT.of htp) rfl ?_
      walk_at "st"
      refine s_FldR ha T.cD T.nD_word rfl ?_
      walk_at "st"
      by_cases hw : e.word = .stands
      · rw [hw] at ecand
        obtain ⟨en, hen, _⟩ := (oke.en.resolve_left fun z => by rw [hw] at z; exact nomatch z.1).2
        rw [hen] at ecand
        have ha' := ha
        rw [hw, hen] at ha'
        rw [hw, decide_eq_true (show V.str Wd.stands.s = V.str "stands" from rfl)]
        walk_at "st"
        refine s_FldR ha' T.cD T.nD_ended rfl ?_
        walk_at "st"
        refine s_I0 ?_
        walk_at "st"
        by_cases hlt : en < r
        · rw [decide_eq_true (show (en : Int) < (r : Int) by omega)]
          walk_at "st"
          refine s_MethR ha' rfl ?_
          walk_at "st"
          refine ⟨p.1, p.2, b, e, rfl, he, Nat.le_trans (told_le B oke) (by decide), fun l2 xs H3 f3 _ hl3 fx => ?_⟩
          refine s_inKy (hk.str B) (wrote_ok B oke) ((fH.trans f3).fz hu) (SqL.of hl3) fx ?_
          walk_at "st"
          have hl4 := f3.get hl2 (by simp) trivial
          cases hin : decide (key ∈ wrote e) with
          | true =>
            rw [hin] at ecand
            walk_at "st"
            refine ⟨s_tyL hl4, ?_⟩
            walk_at "st"
            refine s_appC hl4 (by have := cands_len (ds := ds) (key := key) (r := r) (i := i); rw [List.length_map]; have h5 := (List.getElem?_eq_some_iff.mp ee).1; omega) fun H4 c4 => ?_
            walk_at "st"
            refine ⟨_, _, rfl, c4.back (fH.trans f3) n0.no hl4 trivial, ?_⟩
            rw [cands_succ, ecand]
            rw [show (decide (Wd.stands = Wd.stands) && gone (some en) r && true) = true by simp [gone, hlt], if_pos rfl, List.map_append]
            exact c4.at
          | false =>
            rw [hin] at ecand
            walk_at "st"
            exact no (by rw [ecand]; simp) _ f3
        · rw [decide_eq_false (show ¬ (en : Int) < (r : Int) by omega)]
          walk_at "st"
          exact no (by rw [ecand]; simp [gone, hlt]) _ .refl
      · rw [decide_eq_false (st_ne hw)]
        walk_at "st"
        exact no (by rw [ecand, decide_eq_false hw]; simp) _ .refl
    · rintro σ H' ⟨a1, a2, rfl, f, hl⟩
      rw [List.length_map, hs.len] at hl
      walk_at "st"
      refine s_maxL ?_
      walk_at "st"
      refine ⟨l, cands ds key r ds.length, kfD ds, rfl, SqL.of hl, f.tab hT, fun H2 hE hdm hT2 => ?_⟩
      have f2 : Fr (lwT K) [] H H2 [] := f.trans ⟨fun b o e i => hE b o e fun ps z => by rw [z] at i; exact i, fun b o e _ nt => hE b o e nt, hdm, (fun b z => nomatch z), fun _ => hT2⟩
      have hs2 := hs.fr f2 (by simp)
      refine ⟨fun n hn => ?_, q _ f2⟩
      obtain ⟨j, hj, rfl⟩ := List.mem_map.mp hn
      obtain ⟨_, hc⟩ := List.mem_filter.mp hj
      have hj2 : j < ds.length := by simpa using (List.mem_filter.mp hj).1
      have ee : ds[j]? = some ds[j] := List.getElem?_eq_getElem hj2
      obtain ⟨p, ep⟩ := pair_of ee hs.len
      have he := hs2.at_ j p _ ep ee
      obtain ⟨dx, g, kb, ah, ha, _⟩ := id he.ex
      have hw : ds[j].word = .stands := by
        unfold cand at hc
        rw [ee] at hc
        simp only [decide_eq_true_eq, Bool.and_eq_true] at hc
        exact hc.1.1
      obtain ⟨en, hen, _⟩ := ((ok ds[j] (List.getElem_mem hj2)).en.resolve_left fun z => by rw [hw] at z; exact nomatch z.1).2
      rw [hen] at ha
      walk_at "st"
      refine s_FldR hs2.ins T.cS T.nS_deals rfl ?_
      walk_at "st"
      refine s_ixL (SqL.of hs2.dls) (atI_nat (v := .ref p.1) (by rw [List.getElem?_map, ep]; rfl)) ?_
      refine s_FldR ha T.cD T.nD_ended rfl ?_
      refine ⟨?_, rfl⟩
      unfold kfD
      rw [show ((j : Int)).toNat = j from rfl, ee]
      show V.int (en : Int) = V.int ((ds[j].ended.getD 0 : Nat) : Int)
      rw [hen]
      rfl
end
end K28
/-! ## K28d9 -/
namespace K28
set_option maxHeartbeats 3900000
open L2 LamX PySem PySem.Spec PyProof.Rows
local macro_rules | `(tactic| walk_at "st") => `(tactic| repeat (first
  | with_reducible refine s_seq ?_ | with_reducible refine s_ret ?_ | with_reducible refine s_retN ?_ | with_reducible refine s_drop ?_ | with_reducible refine s_asg ?_ | with_reducible refine s_gn ?_ | with_reducible refine s_nextq ?_
  | ((with_reducible apply s_var); exact rfl) | with_reducible refine s_c ?_ | with_reducible refine s_op ?_ | with_reducible refine s_I0 ?_ | ((with_reducible refine s_eq ?_ ?_); exact rfl) | ((with_reducible refine s_ne ?_ ?_); exact rfl)
  | with_reducible refine s_test ?_ | with_reducible refine s_tB ?_ | with_reducible refine s_bl ?_ | with_reducible refine s_and ?_ | with_reducible refine s_or ?_ | with_reducible refine s_not ?_ | with_reducible refine s_andV ?_ | with_reducible refine s_orV ?_ | with_reducible refine s_notV ?_
  | with_reducible refine s_blP ?_ | with_reducible refine s_ifS ?_ | with_reducible refine s_nil ?_ | with_reducible refine s_cons ?_ | with_reducible refine s_cb ?_ | with_reducible refine s_call ?_ | with_reducible refine s_tup ?_ | with_reducible refine s_lst ?_
  | with_reducible refine s_isN ?_ | with_reducible refine s_notN ?_ | with_reducible refine s_un ?_ | with_reducible refine s_U ?_ | with_reducible refine s_fld ?_ | with_reducible refine s_put ?_ | with_reducible refine s_meth ?_ | with_reducible refine s_gc ?_ | with_reducible refine s_g0 ?_
  | with_reducible refine s_dz ?_ | with_reducible refine s_make ?_ | with_reducible refine s_m1 ?_ | with_reducible refine s_chain ?_ | with_reducible refine s_iZ ?_ | with_reducible refine s_dput ?_ | with_reducible refine s_dget ?_ | with_reducible refine s_din ?_ | with_reducible refine s_lc ?_ | with_reducible refine s_for ?_ | with_reducible refine s_iL ?_ | with_reducible refine s_iE ?_ | with_reducible refine s_iR1 ?_ | with_reducible refine s_iR2 ?_ | with_reducible refine s_yes ?_
  | with_reducible refine s_frz ?_ | with_reducible refine s_bm ?_ | with_reducible refine s_bm0 ?_ | with_reducible refine s_iff ?_ | with_reducible refine s_ift ?_ | with_reducible refine s_ifnt ?_ | with_reducible refine s_ifnf ?_))
section
variable {P : Program} {w : World} {K : PySem.W.Frag} {mg : Str → Option Value} {base : Heap} {TT : List (Addr × Str)}
/-! ### Stepper: deeds -/
theorem StAt.inT {A : SA} {s : Addr} {H H1 : Hp} {b : Bk} {rs : List Row} {ds : List D} {x : D} {n : Nat} {p : Addr × Addr} {T : List (Addr × Str)} (h : StAt K H b s A rs ds) (e : A.ps[n]? = some p) (f : Fr T [p.2] H H1 [p.2]) (q : DlAt (He.ga K "Deal") H1 b p.1 p.2 x) : StAt K H1 b s A rs (ds.set n x) ∧ Fr T (A.fp s) H H1 (A.fp s) :=
  ⟨h.setD e (fun c o _ n2 ec m => f.get ec (by simpa using n2) m) f.imm q, f.up (by simp only [List.mem_singleton]; rintro c rfl; exact SA.m2 e)⟩
theorem DlAt.toldNe {H : Hp} {C a tl : Addr} {b : Bk} {d : D} (h : DlAt C H b a tl d) : a ≠ tl := by
  obtain ⟨dx, g, kb, ah, ha, _⟩ := h.ex
  obtain ⟨ts, ht, _⟩ := h.tl
  exact ne_of ha ht (by intro z; cases z)
theorem DlAt.putT {H H' : Hp} {C a tl : Addr} {b : Bk} {d : D} {xs : List V} {ts : List Tl} (h : DlAt C H b a tl d) (c : Ch H H' tl (.lst xs)) (fx : FzA H xs (ts.map tlD)) : DlAt C H' b a tl { d with told := ts } := by
  have ne := h.toldNe
  obtain ⟨dx, g, kb, ah, ha, f1, f2, f3⟩ := h.ex
  obtain ⟨zs, ht, _⟩ := h.tl
  have i := c.imm ht trivial
  exact ⟨⟨dx, g, kb, ah, c.old ha ne, f1.keep i, f2.keep i, f3.keep i⟩, xs, c.at, fx.keep i⟩
theorem Fz.top (H : Hp) : ∀ o : Option Int, Fz H (topV o) (opD o)
  | none => .non
  | some i => .int i
theorem sc_Stepper_step : FnScope ["self", "number", "deal", "deed", "key", "seen"] ["self", "number"] (defScope s_Stepper_step) := ⟨rfl, rfl, rfl, by decide +kernel, rfl, by decide +kernel, by decide +kernel⟩
def sp_Stepper_step (K : PySem.W.Frag) : Sp := fun vs H Q E => ∃ (s : Addr) (A : SA) (b : Bk) (rs : List Row) (ds : List D) (n : Nat), vs = [.ref s, .int n] ∧ StAt K H b s A rs ds ∧ BkOk b ∧ Ok b rs ds ∧ rs.length < 1000 ∧ Tabs (lwT K) H ∧
  (∀ d, ds[n]? = some d → d.word = .opn → d.told.length < (dlOf b d.di).steps.length → ∀ v H', Fr (lwT K) (A.fp s) H H' (A.fp s) → StAt K H' b s A (rs ++ [.stp n]) (doD b ds rs.length (.stp n)) → Fz H' v (tlD (stepOf b ds n d)) → Q v H') ∧
  (ds.length ≤ n → E (.ref (He.ga K "NoNumber")) none H) ∧ (∀ d, ds[n]? = some d → d.word ≠ .opn → E (.ref (He.ga K "Over")) none H) ∧ (∀ d, ds[n]? = some d → d.word = .opn → (dlOf b d.di).steps.length ≤ d.told.length → E (.ref (He.ga K "NoStep")) none H)
theorem k_Stepper_step {fd : FuncData} (T : Tx K mg) (F : FunD K "step" "Stepper.step" (defArgs s_Stepper_step) (defBody s_Stepper_step) (defScope s_Stepper_step) [] [] (He.ma K (He.ga K "Stepper") "step") fd) (h_Stepper_open_deal : Cn P w K mg base 2 (He.ma K (He.ga K "Stepper") "open_deal") ["self", "number"] (sp_Stepper_open_deal K)) (h_Deal_steps_left : Cn P w K mg base 1 (He.ma K (He.ga K "Deal") "steps_left") ["self"] (sp_Deal_steps_left K))
    (h_Deal_next_deed : Cn P w K mg base 1 (He.ma K (He.ga K "Deal") "next_deed") ["self"] (sp_Deal_next_deed K (lwT K))) (h_Deal_written : Cn P w K mg base 1 (He.ma K (He.ga K "Deal") "written") ["self"] (sp_Deal_written K (lwT K))) (h_Stepper_last_writer : Cn P w K mg base 4 (He.ma K (He.ga K "Stepper") "last_writer") ["self", "key", "row"] (sp_Stepper_last_writer K)) :
    Cn P w K mg base 5 (He.ma K (He.ga K "Stepper") "step") ["self", "number"] (sp_Stepper_step K) := by
  refine cn_of F sc_Stepper_step (fun vs H Q E h => ?_) (fun _ _ _ _ _ _ us hl => match us, hl with | [_, _], _ => rfl) fun cdv A' outer s' H vs Q E hr h => ?_
  · obtain ⟨s, A, b, rs, ds, n, rfl, _⟩ := h
    rfl
  · obtain ⟨s, A, b, rs, ds, n, rfl, hs, B, ok, hlen, hT, q1, q2, q3, q4⟩ := h
    obtain ⟨h40, okd⟩ := ok.inv B
    refine ⟨_, (pss_cons (ps_set (i := 2) sc_Stepper_step.nd rfl (by first | exact Or.inl rfl | exact Or.inr rfl) (pe_cm T.cS T.mS_open_deal h_Stepper_open_deal (pv 0) (hr.mono (by decide)) (passes_call (takes_of rfl rfl rfl rfl) fun _ _ _ _ h => h) (pa_cons (pv 1) pa_nil))) (pss_cons (ps_if (pt_cmpR op_eq (pe_cm0 T.cD T.mD_steps_left h_Deal_steps_left (pv 2) (hr.mono (by decide)) passL) pe_int (nomark _)) (pss_one (ps_raise rfl (takes_of rfl rfl rfl rfl) (pmk_own PySem.F.excBase_Exception T.x_NoStep.ex T.x_NoStep.g T.x_NoStep.kp (raises_own T.x_NoStep.sb T.x_NoStep.ty) rfl))) pss_nil) (pss_cons (ps_asg (pe_cm0 T.cD T.mD_next_deed h_Deal_next_deed (pv 2) (hr.mono (by decide)) passL) (pg_tup rfl (pgs_cons (pg_name (i := 3) sc_Stepper_step.nd rfl (by first | exact Or.inl rfl | exact Or.inr rfl)) (pgs_cons (pg_name (i := 4) sc_Stepper_step.nd rfl (by first | exact Or.inl rfl | exact Or.inr rfl)) pgs_nil)))) (pss_cons (ps_set (i := 5) sc_Stepper_step.nd rfl (by first | exact Or.inl rfl | exact Or.inr rfl) pe_non) (pss_cons (ps_if (pt_cmpR op_ne (pv 3) pe_str (nomark _)) (pss_cons (ps_set (i := 5) sc_Stepper_step.nd rfl (by first | exact Or.inl rfl | exact Or.inr rfl) (pv 1)) (pss_one (ps_if (pt_cmpR (op_notInD (hu65 hr)) (pv 4) (pe_cm0 T.cD T.mD_written h_Deal_written (pv 2) (hr.mono (by decide)) passL) (by first | rfl | exact nomark _)) (pss_one (ps_set (i := 5) sc_Stepper_step.nd rfl (by first | exact Or.inl rfl | exact Or.inr rfl) (pe_cm T.cS T.mS_last_writer h_Stepper_last_writer (pv 0) (hr.mono (by decide)) passL (pa_cons (pv 4) (pa_cons (pe_fld (pv 2) rfl) pa_nil))))) pss_nil))) pss_nil) (pss_cons (ps_expr (pe_bm PySem.F.plainAttrs_list PySem.F.slot_list_append PySem.F.type_list_append mt_append (pe_fld (pv 2) rfl) (pa_cons (pe_tup (pa_cons (pv 3) (pa_cons (pv 4) (pa_cons (pv 5) pa_nil)))) pa_nil))) (pss_cons (ps_expr (pe_bm PySem.F.plainAttrs_list PySem.F.slot_list_append PySem.F.type_list_append mt_append (pe_fld (pv 0) rfl) (pa_cons (pe_tup (pa_cons pe_str (pa_cons (pv 1) pa_nil))) pa_nil))) (pss_one (ps_ret (pe_tup (pa_cons (pv 3) (pa_cons (pv 4) (pa_cons (pv 5) pa_nil))))))))))))), ?_⟩
    try dsimp only [cxOf]
    walk_at "st"
    refine s_MethR hs.ins rfl ?_
    walk_at "st"
    refine ⟨s, A, b, rs, ds, n, rfl, hs, fun p d hp ed hw => ?_, q2, q3⟩
    have hd := hs.at_ n p d hp ed
    have oke := okd d (List.mem_of_getElem? ed)
    obtain ⟨dx, g, kb, ah, ha, _⟩ := id hd.ex
    walk_at "st"
    refine s_MethR ha rfl ?_
    walk_at "st"
    refine ⟨p.1, p.2, b, d, rfl, hd, ?_⟩
    walk_at "st"
    by_cases hl : d.told.length < (dlOf b d.di).steps.length
    · rw [decide_eq_false (show ¬ V.int (((dlOf b d.di).steps.length : Int) - (d.told.length : Int)) = V.int 0 from fun z => by have := V.int.inj z; omega)]
      walk_at "st"
      refine s_MethR ha rfl ?_
      walk_at "st"
      refine ⟨p.1, p.2, b, _, n, ds, d, rfl, hd, B, oke, hl, fun v' H1 f1 hv' => ?_⟩
      obtain ⟨pt, x1, kv, rfl, hpt, fx1, fk1⟩ := hv'.tup2
      obtain rfl := fx1.str_inv
      have hs1 := hs.fr f1 (by simp)
      have hd1 := hs1.at_ n p d hp ed
      refine s_gt (SqT.of hpt) rfl ?_
      walk_at "st"
      have key3 : ((stepOf b ds n d).deed = ("write" : Str) ∧ (stepOf b ds n d).seen = none) ∨ ((stepOf b ds n d).deed ≠ ("write" : Str) ∧ (stepOf b ds n d).key ∈ wrote d ∧ (stepOf b ds n d).seen = some (n : Int)) ∨ ((stepOf b ds n d).deed ≠ ("write" : Str) ∧ (stepOf b ds n d).key ∉ wrote d ∧ (stepOf b ds n d).seen = lastW ds (stepOf b ds n d).key d.begun) := by
        unfold stepOf
        dsimp only
        by_cases h1 : (((dlOf b d.di).steps[d.told.length]?).getD ("", "")).1 = ("write" : Str)
        · exact .inl ⟨h1, if_pos h1⟩
        · by_cases h2 : keyOf (dlOf b d.di) d.keys (((dlOf b d.di).steps[d.told.length]?).getD ("", "")).2 ∈ wrote d
          · exact .inr (.inl ⟨h1, h2, by rw [if_neg h1, if_pos h2]⟩)
          · exact .inr (.inr ⟨h1, h2, by rw [if_neg h1, if_neg h2]⟩)
      have kok := stepOf_ok (n := n) (ds := ds) B oke hl
      obtain ⟨dx1, g1, kb1, ah1, ha1, _⟩ := id hd1.ex
      rcases key3 with ⟨hw1, hsn⟩ | ⟨hw1, hkw, hsn⟩ | ⟨hw1, hkw, hsn⟩
      rw [decide_eq_true (show V.str (stepOf b ds n d).deed = V.str "write" by rw [hw1])]
      walk_at "st"
      have H3e : ∃ H3, H3 = H1 := ⟨H1, rfl⟩
      obtain ⟨H3, e3⟩ := H3e
      have f3 : Fr (lwT K) [] H1 H3 [] := by rw [e3]; exact .refl
      rw [← e3]
      clear e3
      have fsv : Fz H3 V.non (opD (stepOf b ds n d).seen) := by rw [hsn]; exact .non
      rotate_left
      rw [decide_eq_false (show ¬ V.str (stepOf b ds n d).deed = V.str "write" from fun z => hw1 (V.str.inj z))]
      walk_at "st"
      refine s_MethR ha1 rfl ?_
      walk_at "st"
      refine ⟨p.1, p.2, b, d, rfl, hd1, Nat.le_trans (told_le B oke) (by decide), fun l2 xs H3 f3 _ hl3 fx => ?_⟩
      refine s_notInKy (kok.str B) (wrote_ok B oke) (f3.fz fk1) (SqL.of hl3) fx ?_
      walk_at "st"
      rw [decide_eq_true hkw]
      walk_at "st"
      have fsv : Fz H3 (V.int n) (opD (stepOf b ds n d).seen) := by rw [hsn]; exact .int _
      rotate_left
      rw [decide_eq_false (show ¬ V.str (stepOf b ds n d).deed = V.str "write" from fun z => hw1 (V.str.inj z))]
      walk_at "st"
      refine s_MethR ha1 rfl ?_
      walk_at "st"
      refine ⟨p.1, p.2, b, d, rfl, hd1, Nat.le_trans (told_le B oke) (by decide), fun l2 xs H2 f2 _ hl3 fx => ?_⟩
      refine s_notInKy (kok.str B) (wrote_ok B oke) (f2.fz fk1) (SqL.of hl3) fx ?_
      walk_at "st"
      rw [decide_eq_false hkw]
      walk_at "st"
      have hs2 := hs1.fr f2 (by simp)
      refine s_MethR hs2.ins rfl ?_
      walk_at "st"
      obtain ⟨dx2, g2, kb2, ah2, ha2, _⟩ := id (hs2.at_ n p d hp ed).ex
      refine s_FldR ha2 T.cD T.nD_begun rfl ?_
      walk_at "st"
      refine ⟨s, A, b, rs.length, rs, ds, _, (stepOf b ds n d).key, d.begun, rfl, hs2, B, okd, f2.fz fk1, kok, h40, f2.tab (f1.tab hT), fun H3 f23 => ?_⟩
      walk_at "st"
      have f3 : Fr (lwT K) [] H1 H3 [] := f2.trans f23
      have fsv : Fz H3 (topV (lastW ds (stepOf b ds n d).key d.begun)) (opD (stepOf b ds n d).seen) := by rw [hsn]; exact Fz.top _ _
      rotate_left
      all_goals
        have hs3 := hs1.fr f3 (by simp)
        have hd3 := hs3.at_ n p d hp ed
        obtain ⟨dx3, g3, kb3, ah3, ha3, _⟩ := id hd3.ex
        obtain ⟨ts, hts, fts⟩ := id hd3.tl
        have lts := fts.length
        rw [List.length_map] at lts
        have t8 := told_le B oke
        refine s_FldR ha3 T.cD T.nD_told rfl ?_
        refine ⟨s_tyL hts, ?_⟩
        walk_at "st"
        refine s_newT (by simp) fun tp H4 n4 => ?_
        walk_at "st"
        refine s_appC (n4.old hts) (by omega) fun H5 c5 => ?_
        walk_at "st"
        have hd4 := hd3.fr (n4.fr (T := lwT K) (fp := [])) (by simp) (by simp)
        have hs4 := hs3.fr (n4.fr (T := lwT K) (fp := [])) (by simp)
        have ft4 : Fz H4 (.ref tp) (tlD (stepOf b ds n d)) := .tup n4.at (.cons (.str _) (.cons (n4.fz (f3.fz fk1)) (.cons (n4.fz fsv) .nil)))
        have hd5 := hd4.putT (ts := d.told ++ [stepOf b ds n d]) c5 (by rw [List.map_append]; exact (((n4.fr (T := lwT K) (fp := [])).fza fts)).snoc ft4)
        obtain ⟨hs5, f45⟩ := hs4.inT (T := lwT K) hp (c5.fr (n4.old hts) trivial (by simp)) hd5
        refine s_FldR hs5.ins T.cS T.nS_log rfl ?_
        obtain ⟨ls, hll, fl⟩ := id hs5.log
        have llen := fl.length
        rw [List.length_map] at llen
        refine ⟨s_tyL hll, ?_⟩
        walk_at "st"
        refine s_newT (by simp) fun tr H6 n6 => ?_
        walk_at "st"
        refine s_appC (n6.old hll) (by omega) fun H7 c7 => ?_
        obtain ⟨hs7, f57⟩ := hs5.logged (T := lwT K) (r := .stp n) hll fl n6 c7 (.tup n6.at (.cons (.str _) (.cons (.int _) .nil)))
        walk_at "st"
        refine s_newT (by simp) fun tz H8 n8 => ?_
        have f38 : Fr (lwT K) (A.fp s) H3 H8 (A.fp s) := (n4.fr.trans f45).trans (f57.trans n8.fr)
        have f08 : Fr (lwT K) (A.fp s) H H8 (A.fp s) := ((f1.trans f3).up (by simp)).trans f38
        refine q1 d ed hw hl _ H8 f08 ?_ (.tup n8.at (.cons (.str _) (.cons (f38.fz (f3.fz fk1)) (.cons (f38.fz fsv) .nil))))
        show StAt K H8 b s A (rs ++ [.stp n]) (atN ds n fun d => { d with told := d.told ++ [stepOf b ds n d] })
        rw [atN_some ed]
        exact hs7.fr (n8.fr (T := lwT K) (fp := [])) (by simp)
    · rw [decide_eq_true (show V.int (((dlOf b d.di).steps.length : Int) - (d.told.length : Int)) = V.int 0 by have := oke.tl; rw [show ((dlOf b d.di).steps.length : Int) - (d.told.length : Int) = 0 by omega])]
      walk_at "st"
      exact q4 d ed hw (by omega)
theorem sc_Stepper_writer : FnScope ["self", "key"] ["self", "key"] (defScope s_Stepper_writer) := ⟨rfl, rfl, rfl, by decide +kernel, rfl, by decide +kernel, by decide +kernel⟩
def sp_Stepper_writer (K : PySem.W.Frag) : Sp := fun vs H Q E => ∃ (s : Addr) (A : SA) (b : Bk) (rs : List Row) (ds : List D) (u : V) (key : Ky), vs = [.ref s, u] ∧ StAt K H b s A rs ds ∧ BkOk b ∧ Ok b rs ds ∧ Fz H u (kyD key) ∧ KyOk b key ∧ Tabs (lwT K) H ∧ ∀ H', Fr (lwT K) [] H H' [] → Q (topV (lastW ds key rs.length)) H'
theorem k_Stepper_writer {fd : FuncData} (T : Tx K mg) (F : FunD K "writer" "Stepper.writer" (defArgs s_Stepper_writer) (defBody s_Stepper_writer) (defScope s_Stepper_writer) [] [] (He.ma K (He.ga K "Stepper") "writer") fd) (h_is_key : Cn P w K mg base 3 (He.ga K "is_key") ["book", "thing"] (sp_is_key (lwT K))) (h_Stepper_last_writer : Cn P w K mg base 4 (He.ma K (He.ga K "Stepper") "last_writer") ["self", "key", "row"] (sp_Stepper_last_writer K)) :
    Cn P w K mg base 5 (He.ma K (He.ga K "Stepper") "writer") ["self", "key"] (sp_Stepper_writer K) := by
  refine cn_of F sc_Stepper_writer (fun vs H Q E h => ?_) (fun _ _ _ _ _ _ us hl => match us, hl with | [_, _], _ => rfl) fun cdv A' outer s' H vs Q E hr h => ?_
  · obtain ⟨s, A, b, rs, ds, u, key, rfl, _⟩ := h
    rfl
  · obtain ⟨s, A, b, rs, ds, u, key, rfl, hs, B, ok, hu, hk, hT, q⟩ := h
    obtain ⟨h40, okd⟩ := ok.inv B
    refine ⟨_, PSs.nox (pss_cons (ps_if (pt_not (pt_val (pe_cn h_is_key (hr.mono (by decide)) rfl T.g_is_key passL (pa_cons (pe_fld (pv 0) rfl) (pa_cons (pv 1) pa_nil))))) (pss_one ps_never) pss_nil) (pss_one (ps_ret (pe_cm T.cS T.mS_last_writer h_Stepper_last_writer (pv 0) (hr.mono (by decide)) passL (pa_cons (pv 1) (pa_cons (pe_callB call_lenQ rfl T.f_len (by decide +kernel) (pa_cons (pe_fld (pv 0) rfl) pa_nil)) pa_nil)))))), ?_⟩
    try dsimp only [cxOf]
    walk_at "st"
    refine s_FldR hs.ins T.cS T.nS_own_book rfl ?_
    walk_at "st"
    refine ⟨_, _, b, key, rfl, hs.bk, B, hu, hk, fun H1 f1 => ?_⟩
    walk_at "st"
    have hs1 := hs.fr f1 (by simp)
    refine s_MethR hs1.ins rfl ?_
    walk_at "st"
    refine s_FldR hs1.ins T.cS T.nS_log rfl ?_
    obtain ⟨ls, hll, fl⟩ := id hs1.log
    have llen := fl.length
    rw [List.length_map] at llen
    walk_at "st"
    refine s_lenL (SqL.of hll) ?_
    rw [llen]
    walk_at "st"
    exact ⟨s, A, b, rs.length, rs, ds, _, key, rs.length, rfl, hs1, B, okd, f1.fz hu, hk, h40, f1.tab hT, fun H3 f3 => q H3 (f1.trans f3)⟩
theorem sc_Stepper_end : FnScope ["self", "number"] ["self", "number"] (defScope s_Stepper_end) := ⟨rfl, rfl, rfl, by decide +kernel, rfl, by decide +kernel, by decide +kernel⟩
def sp_Stepper_end (K : PySem.W.Frag) (TT : List (Addr × Str)) : Sp := fun vs H Q E => ∃ (s : Addr) (A : SA) (b : Bk) (rs : List Row) (ds : List D) (n : Nat), vs = [.ref s, .int n] ∧ StAt K H b s A rs ds ∧ BkOk b ∧ Ok b rs ds ∧ rs.length < 1000 ∧
  (∀ d, ds[n]? = some d → d.word = .opn → d.told.length = (dlOf b d.di).steps.length → ∀ H', Fr TT (A.fp s) H H' (A.fp s) → StAt K H' b s A (rs ++ [.fin n]) (doD b ds rs.length (.fin n)) → Q (.bl (!isOff ds d)) H') ∧
  (ds.length ≤ n → E (.ref (He.ga K "NoNumber")) none H) ∧ (∀ d, ds[n]? = some d → d.word ≠ .opn → E (.ref (He.ga K "Over")) none H) ∧ (∀ d, ds[n]? = some d → d.word = .opn → d.told.length < (dlOf b d.di).steps.length → E (.ref (He.ga K "NoEnd")) none H)
theorem k_Stepper_end {fd : FuncData} (T : Tx K mg) (F : FunD K "end" "Stepper.end" (defArgs s_Stepper_end) (defBody s_Stepper_end) (defScope s_Stepper_end) [] [] (He.ma K (He.ga K "Stepper") "end") fd) (h_Stepper_look_at_end : Cn P w K mg base 3 (He.ma K (He.ga K "Stepper") "look_at_end") ["self", "number"] (sp_Stepper_look_at_end K)) (h_Stepper_close : Cn P w K mg base 2 (He.ma K (He.ga K "Stepper") "close") ["self", "number", "stands"] (sp_Stepper_close K TT))
    (h_Stepper_is_called_off : Cn P w K mg base 2 (He.ma K (He.ga K "Stepper") "is_called_off") ["self", "number"] (sp_Stepper_is_called_off K TT)) : Cn P w K mg base 4 (He.ma K (He.ga K "Stepper") "end") ["self", "number"] (sp_Stepper_end K TT) := by
  refine cn_of F sc_Stepper_end (fun vs H Q E h => ?_) (fun _ _ _ _ _ _ us hl => match us, hl with | [_, _], _ => rfl) fun cdv A' outer s' H vs Q E hr h => ?_
  · obtain ⟨s, A, b, rs, ds, n, rfl, _⟩ := h
    rfl
  · obtain ⟨s, A, b, rs, ds, n, rfl, hs, B, ok, hlen, q1, q2, q3, q4⟩ := h
    obtain ⟨h40, okd⟩ := ok.inv B
    refine ⟨_, (pss_cons (ps_expr (pe_cm T.cS T.mS_look_at_end h_Stepper_look_at_end (pv 0) (hr.mono (by decide)) (passes_call (takes_of rfl rfl rfl rfl) fun _ _ _ _ h => h) (pa_cons (pv 1) pa_nil))) (pss_one (ps_ret (pe_cm T.cS T.mS_close h_Stepper_close (pv 0) (hr.mono (by decide)) passL (pa_cons (pv 1) (pa_cons (pe_not (pe_cm T.cS T.mS_is_called_off h_Stepper_is_called_off (pv 0) (hr.mono (by decide)) passL (pa_cons (pv 1) pa_nil))) pa_nil)))))), ?_⟩
    try dsimp only [cxOf]
    walk_at "st"
    refine s_MethR hs.ins rfl ?_
    walk_at "st"
    refine ⟨s, A, b, rs, ds, n, rfl, hs, fun d ed hw hl => ?_, q2, q3, q4⟩
    have oke := okd d (List.mem_of_getElem? ed)
    walk_at "st"
    refine s_MethR hs.ins rfl ?_
    walk_at "st"
    refine s_MethR hs.ins rfl ?_
    walk_at "st"
    refine ⟨s, A, b, rs.length, rs, ds, n, d, rfl, hs, B, okd, ed, fun H1 f1 => ?_⟩
    walk_at "st"
    refine ⟨s, A, b, rs, ds, n, d, !isOff ds d, rfl, hs.fr f1 (by simp), ed, hlen, fun H2 f2 hs2 => ?_⟩
    refine q1 d ed hw (Nat.le_antisymm oke.tl hl) H2 ((f1.up (by simp)).trans f2) ?_
    show StAt K H2 b s A (rs ++ [.fin n]) (atN ds n fun d => { d with ended := some rs.length, word := if isOff ds d = true then .off else .stands })
    rw [atN_some ed]
    cases h : isOff ds d <;> rw [h] at hs2 <;> exact hs2
theorem sc_Stepper_drop : FnScope ["self", "number"] ["self", "number"] (defScope s_Stepper_drop) := ⟨rfl, rfl, rfl, by decide +kernel, rfl, by decide +kernel, by decide +kernel⟩
def sp_Stepper_drop (K : PySem.W.Frag) (TT : List (Addr × Str)) : Sp := fun vs H Q E => ∃ (s : Addr) (A : SA) (b : Bk) (rs : List Row) (ds : List D) (n : Nat), vs = [.ref s, .int n] ∧ StAt K H b s A rs ds ∧ rs.length < 1000 ∧
  (∀ d, ds[n]? = some d → d.word = .opn → ∀ H', Fr TT (A.fp s) H H' (A.fp s) → StAt K H' b s A (rs ++ [.drp n]) (doD b ds rs.length (.drp n)) → Q .non H') ∧
  (ds.length ≤ n → E (.ref (He.ga K "NoNumber")) none H) ∧ (∀ d, ds[n]? = some d → d.word ≠ .opn → E (.ref (He.ga K "Over")) none H)
theorem k_Stepper_drop {fd : FuncData} (T : Tx K mg) (F : FunD K "drop" "Stepper.drop" (defArgs s_Stepper_drop) (defBody s_Stepper_drop) (defScope s_Stepper_drop) [] [] (He.ma K (He.ga K "Stepper") "drop") fd) (h_Stepper_open_deal : Cn P w K mg base 2 (He.ma K (He.ga K "Stepper") "open_deal") ["self", "number"] (sp_Stepper_open_deal K)) (h_Stepper_shut : Cn P w K mg base 2 (He.ma K (He.ga K "Stepper") "shut") ["self", "number"] (sp_Stepper_shut K TT)) :
    Cn P w K mg base 3 (He.ma K (He.ga K "Stepper") "drop") ["self", "number"] (sp_Stepper_drop K TT) := by
  refine cn_of F sc_Stepper_drop (fun vs H Q E h => ?_) (fun _ _ _ _ _ _ us hl => match us, hl with | [_, _], _ => rfl) fun cdv A' outer s' H vs Q E hr h => ?_
  · obtain ⟨s, A, b, rs, ds, n, rfl, _⟩ := h
    rfl
  · obtain ⟨s, A, b, rs, ds, n, rfl, hs, hlen, q1, q2, q3⟩ := h
    refine ⟨_, (pss_cons (ps_expr (pe_cm T.cS T.mS_open_deal h_Stepper_open_deal (pv 0) (hr.mono (by decide)) (passes_call (takes_of rfl rfl rfl rfl) fun _ _ _ _ h => h) (pa_cons (pv 1) pa_nil))) (pss_one (ps_expr (pe_cm T.cS T.mS_shut h_Stepper_shut (pv 0) (hr.mono (by decide)) passL (pa_cons (pv 1) pa_nil))))), ?_⟩
    try dsimp only [cxOf]
    walk_at "st"
    refine s_MethR hs.ins rfl ?_
    walk_at "st"
    refine ⟨s, A, b, rs, ds, n, rfl, hs, fun p d hp ed hw => ?_, q2, q3⟩
    walk_at "st"
    refine s_MethR hs.ins rfl ?_
    walk_at "st"
    refine ⟨s, A, b, rs, ds, n, d, rfl, hs, ed, hlen, fun H2 f2 hs2 => ?_⟩
    walk_at "st"
    refine q1 d ed hw H2 f2 ?_
    show StAt K H2 b s A (rs ++ [.drp n]) (atN ds n fun d => { d with ended := some rs.length, word := .off })
    rw [atN_some ed]
    exact hs2
end
end K28
/-! ## K28e1 -/
namespace K28
set_option maxHeartbeats 3900000
open L2 LamX PySem PySem.Spec PyProof.Rows
local macro_rules | `(tactic| walk_at "st") => `(tactic| repeat (first
  | with_reducible refine s_seq ?_ | with_reducible refine s_ret ?_ | with_reducible refine s_retN ?_ | with_reducible refine s_drop ?_ | with_reducible refine s_asg ?_ | with_reducible refine s_gn ?_ | with_reducible refine s_nextq ?_
  | ((with_reducible apply s_var); exact rfl) | with_reducible refine s_c ?_ | with_reducible refine s_op ?_ | with_reducible refine s_I0 ?_ | ((with_reducible refine s_eq ?_ ?_); exact rfl) | ((with_reducible refine s_ne ?_ ?_); exact rfl)
  | with_reducible refine s_test ?_ | with_reducible refine s_tB ?_ | with_reducible refine s_bl ?_ | with_reducible refine s_and ?_ | with_reducible refine s_or ?_ | with_reducible refine s_not ?_ | with_reducible refine s_andV ?_ | with_reducible refine s_orV ?_ | with_reducible refine s_notV ?_
  | with_reducible refine s_blP ?_ | with_reducible refine s_ifS ?_ | with_reducible refine s_nil ?_ | with_reducible refine s_cons ?_ | with_reducible refine s_cb ?_ | with_reducible refine s_call ?_ | with_reducible refine s_tup ?_ | with_reducible refine s_lst ?_
  | with_reducible refine s_isN ?_ | with_reducible refine s_notN ?_ | with_reducible refine s_un ?_ | with_reducible refine s_U ?_ | with_reducible refine s_fld ?_ | with_reducible refine s_put ?_ | with_reducible refine s_meth ?_ | with_reducible refine s_gc ?_ | with_reducible refine s_g0 ?_
  | with_reducible refine s_dz ?_ | with_reducible refine s_make ?_ | with_reducible refine s_m1 ?_ | with_reducible refine s_chain ?_ | with_reducible refine s_iZ ?_ | with_reducible refine s_dput ?_ | with_reducible refine s_dget ?_ | with_reducible refine s_din ?_ | with_reducible refine s_lc ?_ | with_reducible refine s_for ?_ | with_reducible refine s_iL ?_ | with_reducible refine s_iE ?_ | with_reducible refine s_iR1 ?_ | with_reducible refine s_iR2 ?_ | with_reducible refine s_yes ?_
  | with_reducible refine s_frz ?_ | with_reducible refine s_bm ?_ | with_reducible refine s_bm0 ?_ | with_reducible refine s_iff ?_ | with_reducible refine s_ift ?_ | with_reducible refine s_ifnt ?_ | with_reducible refine s_ifnf ?_
  | with_reducible refine s_iT ?_ | with_reducible refine s_iS ?_ | with_reducible refine s_sl ?_ | with_reducible refine s_npart ?_ | with_reducible refine s_part ?_ | with_reducible refine s_PrtR ?_ | with_reducible refine s_pp0 ?_ | with_reducible refine s_pp ?_ | with_reducible refine s_sub ?_ | with_reducible refine s_callS ?_))
section
variable {P : Program} {w : World} {K : PySem.W.Frag} {mg : Str → Option Value} {base : Heap} {TT : List (Addr × Str)}
/-! ### Stepper: undoing, the log read -/
theorem FzA.last {H : Hp} {xs : List V} {ds : List PyData} {d : PyData} (h : FzA H xs (ds ++ [d])) : ∃ v, xs[xs.length - 1]? = some v ∧ Fz H v d ∧ FzA H xs.dropLast ds := by
  have l := h.length
  rw [List.length_append, List.length_singleton] at l
  obtain ⟨v, e, q⟩ := h.at (i := ds.length) (d := d) (by simp)
  refine ⟨v, by rw [show xs.length - 1 = ds.length by omega]; exact e, q, ?_⟩
  have := h.drop
  rwa [List.dropLast_concat] at this
theorem atN_at {ds : List D} {n : Nat} {d : D} {f : D → D} (e : ds[n]? = some d) : (atN ds n f)[n]? = some (f d) := by
  rw [atN_some e, List.getElem?_set_self (List.getElem?_eq_some_iff.mp e).1]
theorem sc_Stepper_undo : FnScope ["self", "row", "deal"] ["self"] (defScope s_Stepper_undo) := ⟨rfl, rfl, rfl, by decide +kernel, rfl, by decide +kernel, by decide +kernel⟩
def sp_Stepper_undo (K : PySem.W.Frag) (TT : List (Addr × Str)) : Sp := fun vs H Q E => ∃ (s : Addr) (A : SA) (b : Bk) (rs : List Row) (r : Row) (ds : List D), vs = [.ref s] ∧ StAt K H b s A (rs ++ [r]) (doD b ds rs.length r) ∧ BkOk b ∧ Ok b rs ds ∧ Can b ds r ∧ ∀ A' H', Fr TT (A.fp s) H H' (A'.fp s) → StAt K H' b s A' rs ds → Q .non H'
theorem k_Stepper_undo {fd : FuncData} (T : Tx K mg) (F : FunD K "undo" "Stepper.undo" (defArgs s_Stepper_undo) (defBody s_Stepper_undo) (defScope s_Stepper_undo) [] [] (He.ma K (He.ga K "Stepper") "undo") fd) (h_Deal_opened : Cn P w K mg base 1 (He.ma K (He.ga K "Deal") "opened") ["self"] (sp_Deal_opened K TT)) : Cn P w K mg base 2 (He.ma K (He.ga K "Stepper") "undo") ["self"] (sp_Stepper_undo K TT) := by
  refine cn_of F sc_Stepper_undo (fun vs H Q E h => ?_) (fun _ _ _ _ _ _ us hl => match us, hl with | [_], _ => rfl) fun cdv A' outer s' H vs Q E hr h => ?_
  · obtain ⟨s, A, b, rs, r, ds, rfl, _⟩ := h
    rfl
  · obtain ⟨s, A, b, rs, r, ds, rfl, hs, B, ok, can, q⟩ := h
    have rok := (Ok.snoc ok can).rows B
    have und := undo_do B ok can rs.length
    refine ⟨_, PSs.nox (pss_cons (ps_if (pt_cmpR (op_eqD hr.units) (pe_fld (pv 0) rfl) (pe_lst pa_nil) (nomark _)) (pss_one ps_never) pss_nil) (pss_cons (ps_set (i := 1) sc_Stepper_undo.nd rfl (by first | exact Or.inl rfl | exact Or.inr rfl) (pe_bm0 PySem.F.plainAttrs_list PySem.F.slot_list_pop PySem.F.type_list_pop mt_pop (pe_fld (pv 0) rfl))) (pss_one (ps_if (pt_cmpR op_eq (pe_ix ix_tup (pv 1) pe_int fun _ _ => rfl) pe_str (nomark _)) (pss_one (ps_expr (pe_bm0 PySem.F.plainAttrs_list PySem.F.slot_list_pop PySem.F.type_list_pop mt_pop (pe_fld (pv 0) rfl)))) (pss_one (ps_if (pt_cmpR op_eq (pe_ix ix_tup (pv 1) pe_int fun _ _ => rfl) pe_str (nomark _)) (pss_cons (ps_set (i := 2) sc_Stepper_undo.nd rfl (by first | exact Or.inl rfl | exact Or.inr rfl) (pe_ix ix_list (pe_fld (pv 0) rfl) (pe_ix ix_tup (pv 1) pe_int fun _ _ => rfl) fun _ _ => rfl)) (pss_one (ps_expr (pe_bm0 PySem.F.plainAttrs_list PySem.F.slot_list_pop PySem.F.type_list_pop mt_pop (pe_fld (pv 2) rfl))))) (pss_cons (ps_set (i := 2) sc_Stepper_undo.nd rfl (by first | exact Or.inl rfl | exact Or.inr rfl) (pe_ix ix_list (pe_fld (pv 0) rfl) (pe_ix ix_tup (pv 1) pe_int fun _ _ => rfl) fun _ _ => rfl)) (pss_one (ps_expr (pe_cm0 T.cD T.mD_opened h_Deal_opened (pv 2) (hr.mono (by decide)) passL)))))))))), ?_⟩
    try dsimp only [cxOf]
    walk_at "st"
    refine s_FldR hs.ins T.cS T.nS_log rfl ?_
    walk_at "st"
    refine s_newL (by simp) fun l0 H1 n1 => ?_
    have hs1 := hs.fr (n1.fr (T := TT) (fp := [])) (by simp)
    obtain ⟨ls, hll, fl⟩ := id hs1.log
    refine s_eqD (.lst (SqL.of hll) fl.dp) (.lst (SqL.of n1.at) .nil) (rwDs_shaped B rok) nil_shaped ?_
    rw [eqv_nilL, show (List.map (rwD b) (rs ++ [r])).isEmpty = false by simp]
    walk_at "st"
    refine s_FldR hs1.ins T.cS T.nS_log rfl ?_
    refine ⟨s_tyL hll, ?_⟩
    rw [List.map_append] at fl
    obtain ⟨v, ev, fv, fl0⟩ := fl.last
    refine s_popC hll ev fun H2 c2 => ?_
    have i12 : ImK H1 H2 := c2.imm hll trivial
    have f2 : Fr TT (A.fp s) H1 H2 (A.fp s) := c2.fr hll trivial SA.ml
    have hs2 : StAt K H2 b s A rs (doD b ds rs.length r) := hs1.setL (fun c o nc e _ => c2.old e nc) i12 ⟨_, c2.at, fl0.keep i12⟩
    have fv2 := fv.keep i12
    walk_at "st"
    have f02 : Fr TT (A.fp s) H H2 (A.fp s) := n1.fr.trans f2
    cases r with
    | beg di ks =>
      obtain ⟨pv, xs, rfl, hpv, fx⟩ := fv2.tup_inv
      match xs, fx with
      | [_, _, _], .cons (.str _) (.cons _ (.cons _ .nil)) =>
        refine s_ixT (SqT.of hpv) atI_lit0 ?_
        walk_at "st"
        rw [decide_eq_true (show V.str ("begin" : Str) = V.str "begin" from rfl)]
        walk_at "st"
        refine s_FldR hs2.ins T.cS T.nS_deals rfl ?_
        refine ⟨s_tyL hs2.dls, ?_⟩
        have len := hs2.len
        simp only [doD, List.length_append, List.length_singleton] at len
        refine s_popC (y := .ref (A.ps[A.ps.length - 1]'(by omega)).1) hs2.dls (by rw [List.length_map, List.getElem?_map, List.getElem?_eq_getElem (by omega)]; rfl) fun H3 c3 => ?_
        walk_at "st"
        have f3 : Fr TT (A.fp s) H2 H3 (A.fp s) := c3.fr hs2.dls trivial SA.md
        exact q { A with ps := A.ps.dropLast } H3 ((f02.trans f3).less fun c hc => SA.fp_drop hc) (hs2.popD c3)
    | stp n =>
      obtain ⟨d, ed, hw, _⟩ := can
      have ed' : (doD b ds rs.length (.stp n))[n]? = some { d with told := d.told ++ [stepOf b ds n d] } := by
        show (atN ds n fun d => { d with told := d.told ++ [stepOf b ds n d] })[n]? = _
        rw [atN_some ed, List.getElem?_set_self (List.getElem?_eq_some_iff.mp ed).1]
      obtain ⟨p, hp⟩ := pair_of ed' hs2.len
      obtain ⟨pv, xs, rfl, hpv, fx⟩ := fv2.tup_inv
      match xs, fx with
      | [_, _], .cons (.str _) (.cons (.int _) .nil) =>
        refine s_ixT (SqT.of hpv) atI_lit0 ?_
        walk_at "st"
        rw [decide_eq_false (show ¬ V.str ("step" : Str) = V.str "begin" from fun z => absurd (V.str.inj z) (by decide +kernel))]
        walk_at "st"
        refine s_ixT (SqT.of hpv) atI_lit0 ?_
        walk_at "st"
        rw [decide_eq_true (show V.str ("step" : Str) = V.str "step" from rfl)]
        walk_at "st"
        refine s_FldR hs2.ins T.cS T.nS_deals rfl ?_
        walk_at "st"
        refine s_ixT (SqT.of hpv) atI_lit1 ?_
        refine s_ixL (SqL.of hs2.dls) (atI_nat (v := .ref p.1) (by rw [List.getElem?_map, hp]; rfl)) ?_
        have hd := hs2.at_ n p _ hp ed'
        obtain ⟨dx, g, kb, ah, ha, _⟩ := id hd.ex
        obtain ⟨ts, hts, fts⟩ := id hd.tl
        walk_at "st"
        refine s_FldR ha T.cD T.nD_told rfl ?_
        refine ⟨s_tyL hts, ?_⟩
        rw [show (List.map tlD (d.told ++ [stepOf b ds n d])) = d.told.map tlD ++ [tlD (stepOf b ds n d)] by rw [List.map_append]; rfl] at fts
        obtain ⟨tv, etv, _, ft0⟩ := fts.last
        refine s_popC hts etv fun H3 c3 => ?_
        walk_at "st"
        have hd3 := hd.putT (ts := d.told) c3 ft0
        obtain ⟨hs3, f3⟩ := hs2.inT (T := TT) hp (c3.fr hts trivial (by simp)) hd3
        refine q A H3 (f02.trans f3) ?_
        rw [← und]
        show StAt K H3 b s A rs (atN (doD b ds rs.length (.stp n)) n fun d => { d with told := d.told.dropLast })
        rw [atN_some ed']
        simp only [List.dropLast_concat]
        exact hs3
    | fin n =>
      obtain ⟨d, ed, hw, _⟩ := can
      obtain ⟨d', ed'⟩ : ∃ d', (doD b ds rs.length (.fin n))[n]? = some d' := ⟨_, atN_at ed⟩
      obtain ⟨p, hp⟩ := pair_of ed' hs2.len
      obtain ⟨pv, xs, rfl, hpv, fx⟩ := fv2.tup_inv
      match xs, fx with
      | [_, _], .cons (.str _) (.cons (.int _) .nil) =>
        refine s_ixT (SqT.of hpv) atI_lit0 ?_
        walk_at "st"
        rw [decide_eq_false (show ¬ V.str ("end" : Str) = V.str "begin" from fun z => absurd (V.str.inj z) (by decide +kernel))]
        walk_at "st"
        refine s_ixT (SqT.of hpv) atI_lit0 ?_
        walk_at "st"
        rw [decide_eq_false (show ¬ V.str ("end" : Str) = V.str "step" from fun z => absurd (V.str.inj z) (by decide +kernel))]
        walk_at "st"
        refine s_FldR hs2.ins T.cS T.nS_deals rfl ?_
        walk_at "st"
        refine s_ixT (SqT.of hpv) atI_lit1 ?_
        refine s_ixL (SqL.of hs2.dls) (atI_nat (v := .ref p.1) (by rw [List.getElem?_map, hp]; rfl)) ?_
        have hd := hs2.at_ n p _ hp ed'
        obtain ⟨dx, g, kb, ah, ha, _⟩ := id hd.ex
        walk_at "st"
        refine s_MethR ha rfl ?_
        walk_at "st"
        refine ⟨p.1, p.2, b, d', rfl, hd, fun H3 f3 hd3 => ?_⟩
        walk_at "st"
        obtain ⟨hs3, f3⟩ := hs2.inD (T := TT) hp f3 hd3
        refine q A H3 (f02.trans f3) ?_
        rw [← und]
        show StAt K H3 b s A rs (atN (doD b ds rs.length (.fin n)) n fun d => { d with ended := none, word := .opn })
        rw [atN_some ed']
        exact hs3
    | drp n =>
      obtain ⟨d, ed, hw⟩ := can
      obtain ⟨d', ed'⟩ : ∃ d', (doD b ds rs.length (.drp n))[n]? = some d' := ⟨_, atN_at ed⟩
      obtain ⟨p, hp⟩ := pair_of ed' hs2.len
      obtain ⟨pv, xs, rfl, hpv, fx⟩ := fv2.tup_inv
      match xs, fx with
      | [_, _], .cons (.str _) (.cons (.int _) .nil) =>
        refine s_ixT (SqT.of hpv) atI_lit0 ?_
        walk_at "st"
        rw [decide_eq_false (show ¬ V.str ("drop" : Str) = V.str "begin" from fun z => absurd (V.str.inj z) (by decide +kernel))]
        walk_at "st"
        refine s_ixT (SqT.of hpv) atI_lit0 ?_
        walk_at "st"
        rw [decide_eq_false (show ¬ V.str ("drop" : Str) = V.str "step" from fun z => absurd (V.str.inj z) (by decide +kernel))]
        walk_at "st"
        refine s_FldR hs2.ins T.cS T.nS_deals rfl ?_
        walk_at "st"
        refine s_ixT (SqT.of hpv) atI_lit1 ?_
        refine s_ixL (SqL.of hs2.dls) (atI_nat (v := .ref p.1) (by rw [List.getElem?_map, hp]; rfl)) ?_
        have hd := hs2.at_ n p _ hp ed'
        obtain ⟨dx, g, kb, ah, ha, _⟩ := id hd.ex
        walk_at "st"
        refine s_MethR ha rfl ?_
        walk_at "st"
        refine ⟨p.1, p.2, b, d', rfl, hd, fun H3 f3 hd3 => ?_⟩
        walk_at "st"
        obtain ⟨hs3, f3⟩ := hs2.inD (T := TT) hp f3 hd3
        refine q A H3 (f02.trans f3) ?_
        rw [← und]
        show StAt K H3 b s A rs (atN (doD b ds rs.length (.drp n)) n fun d => { d with ended := none, word := .opn })
        rw [atN_some ed']
        exact hs3
end
end K28
/-! ## K28e2 -/
namespace K28
set_option maxHeartbeats 3900000
open L2 LamX PySem PySem.Spec PyProof.Rows
local macro_rules | `(tactic| walk_at "st") => `(tactic| repeat (first
  | with_reducible refine s_seq ?_ | with_reducible refine s_ret ?_ | with_reducible refine s_retN ?_ | with_reducible refine s_drop ?_ | with_reducible refine s_asg ?_ | with_reducible refine s_gn ?_ | with_reducible refine s_nextq ?_
  | ((with_reducible apply s_var); exact rfl) | with_reducible refine s_c ?_ | with_reducible refine s_op ?_ | with_reducible refine s_I0 ?_ | ((with_reducible refine s_eq ?_ ?_); exact rfl) | ((with_reducible refine s_ne ?_ ?_); exact rfl)
  | with_reducible refine s_test ?_ | with_reducible refine s_tB ?_ | with_reducible refine s_bl ?_ | with_reducible refine s_and ?_ | with_reducible refine s_or ?_ | with_reducible refine s_not ?_ | with_reducible refine s_andV ?_ | with_reducible refine s_orV ?_ | with_reducible refine s_notV ?_
  | with_reducible refine s_blP ?_ | with_reducible refine s_ifS ?_ | with_reducible refine s_nil ?_ | with_reducible refine s_cons ?_ | with_reducible refine s_cb ?_ | with_reducible refine s_call ?_ | with_reducible refine s_tup ?_ | with_reducible refine s_lst ?_
  | with_reducible refine s_isN ?_ | with_reducible refine s_notN ?_ | with_reducible refine s_un ?_ | with_reducible refine s_U ?_ | with_reducible refine s_fld ?_ | with_reducible refine s_put ?_ | with_reducible refine s_meth ?_ | with_reducible refine s_gc ?_ | with_reducible refine s_g0 ?_
  | with_reducible refine s_dz ?_ | with_reducible refine s_make ?_ | with_reducible refine s_m1 ?_ | with_reducible refine s_chain ?_ | with_reducible refine s_iZ ?_ | with_reducible refine s_dput ?_ | with_reducible refine s_dget ?_ | with_reducible refine s_din ?_ | with_reducible refine s_lc ?_ | with_reducible refine s_for ?_ | with_reducible refine s_iL ?_ | with_reducible refine s_iE ?_ | with_reducible refine s_iR1 ?_ | with_reducible refine s_iR2 ?_ | with_reducible refine s_yes ?_
  | with_reducible refine s_frz ?_ | with_reducible refine s_bm ?_ | with_reducible refine s_bm0 ?_ | with_reducible refine s_iff ?_ | with_reducible refine s_ift ?_ | with_reducible refine s_ifnt ?_ | with_reducible refine s_ifnf ?_
  | with_reducible refine s_iT ?_ | with_reducible refine s_iS ?_ | with_reducible refine s_sl ?_ | with_reducible refine s_npart ?_ | with_reducible refine s_part ?_ | with_reducible refine s_PrtR ?_ | with_reducible refine s_pp0 ?_ | with_reducible refine s_pp ?_ | with_reducible refine s_sub ?_ | with_reducible refine s_callS ?_))
section
variable {P : Program} {w : World} {K : PySem.W.Frag} {mg : Str → Option Value} {base : Heap} {TT : List (Addr × Str)}
/-! ### Stepper: the log copied, the log done again -/
theorem sc_Stepper_rows : FnScope ["self", "row", "keys"] ["self"] (defScope s_Stepper_rows) := ⟨rfl, rfl, rfl, by decide +kernel, rfl, by decide +kernel, by decide +kernel⟩
def sp_Stepper_rows (K : PySem.W.Frag) (TT : List (Addr × Str)) : Sp := fun vs H Q E => ∃ (s : Addr) (A : SA) (b : Bk) (rs : List Row) (ds : List D), vs = [.ref s] ∧ StAt K H b s A rs ds ∧ rs.length ≤ 1000 ∧ ∀ l xs H', Fr TT [] H H' [] → H' l = some (.lst xs) → FzA H' xs (rs.map (rwD b)) → Q (.ref l) H'
theorem take_map_snoc {α : Type} {f : α → PyData} {rs : List α} {i : Nat} {r : α} (e : rs[i]? = some r) : (rs.map f).take (i + 1) = (rs.map f).take i ++ [f r] := by
  rw [List.take_succ, List.getElem?_map, e]
  rfl
theorem k_Stepper_rows {fd : FuncData} (T : Tx K mg) (F : FunD K "rows" "Stepper.rows" (defArgs s_Stepper_rows) (defBody s_Stepper_rows) (defScope s_Stepper_rows) [] [] (He.ma K (He.ga K "Stepper") "rows") fd) : Cn P w K mg base 1 (He.ma K (He.ga K "Stepper") "rows") ["self"] (sp_Stepper_rows K TT) := by
  refine cn_of F sc_Stepper_rows (fun vs H Q E h => ?_) (fun _ _ _ _ _ _ us hl => match us, hl with | [_], _ => rfl) fun cdv A' outer s' H vs Q E hr h => ?_
  · obtain ⟨s, A, b, rs, ds, rfl, _⟩ := h
    rfl
  · obtain ⟨s, A, b, rs, ds, rfl, hs, h1000, q⟩ := h
    refine ⟨_, PSs.nox (pss_one (ps_ret (pe_lc (own := [("row", 1)]) (g := (gName 1)) (tt := tYes) rfl sc_Stepper_rows.nd (pi_list (pe_fld (pv 0) rfl)) (blkOk_by (N := ["self", "row", "keys"]) (sc := defScope s_Stepper_rows) (by decide +kernel)) (fun _ _ _ _ _ => (pg_name (i := 1) sc_Stepper_rows.nd rfl (by first | exact Or.inl rfl | exact Or.inr rfl))) (fun _ _ _ _ _ => pts_nil) (fun _ _ _ _ _ => (pe_op (op_catAK (K := K) rfl) (pe_slice (sl_tupAK (K := K) rfl) (pv 1) po_none (po_some pe_int)) (pe_callTy (call_tupK (K := K) rfl) rfl T.f_tuple (by decide +kernel) (pa_cons (pe_lc (own := [("keys", 2)]) (g := (gName 2)) (tt := tYes) rfl sc_Stepper_rows.nd (pi_tupK (K := K) rfl (pe_slice (sl_tupAK (K := K) rfl) (pv 1) (po_some pe_int) po_none)) (blkOk_by (by kernel_rfl)) (fun _ _ _ _ _ => (pg_name (i := 2) sc_Stepper_rows.nd rfl (by first | exact Or.inl rfl | exact Or.inr rfl))) (fun _ _ _ _ _ => pts_nil) (fun _ _ _ _ _ => (pe_frz (pe_callTy (call_listK (K := K) rfl) rfl T.f_list (by decide +kernel) (pa_cons (pv 2) pa_nil))))) pa_nil))))))), ?_⟩
    try dsimp only [cxOf]
    walk_at "st"
    refine s_FldR hs.ins T.cS T.nS_log rfl ?_
    obtain ⟨ls, hll, fl⟩ := id hs.log
    have llen := fl.length
    rw [List.length_map] at llen
    refine s_IlR (SqL.of hll) ?_
    refine lcJ (T := TT) (gives_list (xs := ls)) [] (fun _ _ => True) (fun i => (rs.map (rwD b)).take i) (fun _ z => nomatch z) trivial (by simp) (fun _ _ _ _ _ _ => trivial) (fun i H' _ f => f.sqL (SqL.of hll) (by simp)) (fun i => ?_) ?_ ?_
    · rw [List.length_take, List.length_map]
      omega
    · intro j y H2 H2' hj _ f2 f20 hy Y N yes no
      have f22 : Fr TT [] H H2' [] := f2.trans f20
      obtain ⟨rd, erd, fr⟩ := fl.of hy
      rw [List.getElem?_map] at erd
      obtain ⟨r, er, rfl⟩ := Option.map_eq_some_iff.mp erd
      have fr2 := f22.fz fr
      have etake := take_map_snoc (f := rwD b) er
      walk_at "st"
      refine ⟨rfl, ?_⟩
      walk_at "st"
      cases r with
      | beg di ks =>
        obtain ⟨pv, xs, rfl, hpv, fx⟩ := fr2.tup_inv
        match xs, fx with
        | [_, _, _], .cons (.str _) (.cons (.str _) (.cons fk .nil)) =>
          obtain ⟨pg, og, gs, rfl, hpg, fg⟩ := fk.lst_inv
          refine s_head3 (SqT.of hpv) fun pa H3 n3 => ?_
          walk_at "st"
          refine s_tail3 (SqT.of (n3.old hpv)) fun pb H4 n4 => ?_
          refine s_ItR (SqT.of n4.at) ?_
          have f34 : Fr TT [] H2' H4 [] := n3.fr.trans n4.fr
          have hpb := n4.at (H' := H4)
          refine lcJ (T := TT) (gives_tup (xs := [.ref pg])) [] (fun _ _ => True) (fun i => [PyData.list (ks.map kyD)].take i) (fun _ z => nomatch z) trivial (by simp) (fun _ _ _ _ _ _ => trivial) (fun i H' _ f => SqT.of (f.tup hpb)) (fun i => ?_) ?_ ?_
          · rw [List.length_take, List.length_singleton]
            omega
          · intro i y H5 H5' hi _ f5 f50 hy2 Y2 N2 yes2 no2
            match i, hi, hy2 with
            | 0, _, hy2 =>
              cases hy2
              have f55 : Fr TT [] H2' H5' [] := f34.trans (f5.trans f50)
              walk_at "st"
              refine ⟨rfl, ?_⟩
              walk_at "st"
              refine s_list (sqF (f55.frz hpg)) fun g H6' n6' => s_frzN n6' trivial fun og H6 n6 => ?_
              exact yes2 _ H6 (.list (ks.map kyD)) n6.fr rfl (.lst n6.at ((n6.fr (T := TT) (fp := [])).fza (f55.fza fg))) trivial
          · intro D' H5 acc hD _ f5 hacc facc
            match acc, facc with
            | [_], .cons fa .nil =>
              obtain ⟨pc, oc, cs, rfl, hpc, fc⟩ := fa.lst_inv
              walk_at "st"
              refine s_tupleL (SqL.of hacc) fun pt H6 n6 => ?_
              have f46 : Fr TT [] H4 H6 [] := f5.trans n6.fr
              refine s_catA (SqT.of (f46.tup (n4.old n3.at))) (SqT.of n6.at) fun pz H7 n7 => ?_
              exact yes _ _ (rwD b (.beg di ks)) ((f34.trans f46).trans n7.fr) etake (.tup n7.at (.cons (.str _) (.cons (.str _) (.cons (n7.fz (n6.fz (.lst hpc fc))) .nil)))) trivial
      | stp n =>
        obtain ⟨pv, xs, rfl, hpv, fx⟩ := fr2.tup_inv
        match xs, fx with
        | [_, _], .cons (.str _) (.cons (.int _) .nil) =>
          refine s_head2 (SqT.of hpv) ?_
          walk_at "st"
          refine s_tail2 (SqT.of hpv) fun pb H4 n4 => ?_
          refine s_ItR (SqT.of n4.at) ?_
          have f34 : Fr TT [] H2' H4 [] := n4.fr
          have hpb := n4.at (H' := H4)
          refine lcJ (T := TT) (gives_tup (xs := [])) [] (fun _ _ => True) (fun i => []) (fun _ z => nomatch z) trivial rfl (fun _ _ _ _ _ _ => trivial) (fun i H' _ f => SqT.of (f.tup hpb)) (fun i => by decide) (fun i y H5 H5' hi => nomatch hi) ?_
          intro D' H5 acc hD _ f5 hacc facc
          cases facc
          walk_at "st"
          refine s_tupleL (SqL.of hacc) fun pt H6 n6 => ?_
          have f46 : Fr TT [] H4 H6 [] := f5.trans n6.fr
          refine s_catA0 (SqT.of (f46.tup (n4.old hpv))) (SqT.of n6.at) ?_
          exact yes _ _ (rwD b (.stp n)) (f34.trans f46) etake (.tup (f46.tup (n4.old hpv)) (.cons (.str _) (.cons (.int _) .nil))) trivial
      | fin n =>
        obtain ⟨pv, xs, rfl, hpv, fx⟩ := fr2.tup_inv
        match xs, fx with
        | [_, _], .cons (.str _) (.cons (.int _) .nil) =>
          refine s_head2 (SqT.of hpv) ?_
          walk_at "st"
          refine s_tail2 (SqT.of hpv) fun pb H4 n4 => ?_
          refine s_ItR (SqT.of n4.at) ?_
          have f34 : Fr TT [] H2' H4 [] := n4.fr
          have hpb := n4.at (H' := H4)
          refine lcJ (T := TT) (gives_tup (xs := [])) [] (fun _ _ => True) (fun i => []) (fun _ z => nomatch z) trivial rfl (fun _ _ _ _ _ _ => trivial) (fun i H' _ f => SqT.of (f.tup hpb)) (fun i => by decide) (fun i y H5 H5' hi => nomatch hi) ?_
          intro D' H5 acc hD _ f5 hacc facc
          cases facc
          walk_at "st"
          refine s_tupleL (SqL.of hacc) fun pt H6 n6 => ?_
          have f46 : Fr TT [] H4 H6 [] := f5.trans n6.fr
          refine s_catA0 (SqT.of (f46.tup (n4.old hpv))) (SqT.of n6.at) ?_
          exact yes _ _ (rwD b (.fin n)) (f34.trans f46) etake (.tup (f46.tup (n4.old hpv)) (.cons (.str _) (.cons (.int _) .nil))) trivial
      | drp n =>
        obtain ⟨pv, xs, rfl, hpv, fx⟩ := fr2.tup_inv
        match xs, fx with
        | [_, _], .cons (.str _) (.cons (.int _) .nil) =>
          refine s_head2 (SqT.of hpv) ?_
          walk_at "st"
          refine s_tail2 (SqT.of hpv) fun pb H4 n4 => ?_
          refine s_ItR (SqT.of n4.at) ?_
          have f34 : Fr TT [] H2' H4 [] := n4.fr
          have hpb := n4.at (H' := H4)
          refine lcJ (T := TT) (gives_tup (xs := [])) [] (fun _ _ => True) (fun i => []) (fun _ z => nomatch z) trivial rfl (fun _ _ _ _ _ _ => trivial) (fun i H' _ f => SqT.of (f.tup hpb)) (fun i => by decide) (fun i y H5 H5' hi => nomatch hi) ?_
          intro D' H5 acc hD _ f5 hacc facc
          cases facc
          walk_at "st"
          refine s_tupleL (SqL.of hacc) fun pt H6 n6 => ?_
          have f46 : Fr TT [] H4 H6 [] := f5.trans n6.fr
          refine s_catA0 (SqT.of (f46.tup (n4.old hpv))) (SqT.of n6.at) ?_
          exact yes _ _ (rwD b (.drp n)) (f34.trans f46) etake (.tup (f46.tup (n4.old hpv)) (.cons (.str _) (.cons (.int _) .nil))) trivial
    · intro D' H2 acc hD _ f2 hacc facc
      rw [llen, show rs.length = (rs.map (rwD b)).length by rw [List.length_map], List.take_length] at facc
      exact q D' acc H2 f2 hacc facc
end
end K28
/-! ## K28e3 -/
namespace K28
set_option maxHeartbeats 3900000
open L2 LamX PySem PySem.Spec PyProof.Rows
local macro_rules | `(tactic| walk_at "st") => `(tactic| repeat (first
  | with_reducible refine s_seq ?_ | with_reducible refine s_ret ?_ | with_reducible refine s_retN ?_ | with_reducible refine s_drop ?_ | with_reducible refine s_asg ?_ | with_reducible refine s_gn ?_ | with_reducible refine s_nextq ?_
  | ((with_reducible apply s_var); exact rfl) | with_reducible refine s_c ?_ | with_reducible refine s_op ?_ | with_reducible refine s_I0 ?_ | ((with_reducible refine s_eq ?_ ?_); exact rfl) | ((with_reducible refine s_ne ?_ ?_); exact rfl)
  | with_reducible refine s_test ?_ | with_reducible refine s_tB ?_ | with_reducible refine s_bl ?_ | with_reducible refine s_and ?_ | with_reducible refine s_or ?_ | with_reducible refine s_not ?_ | with_reducible refine s_andV ?_ | with_reducible refine s_orV ?_ | with_reducible refine s_notV ?_
  | with_reducible refine s_blP ?_ | with_reducible refine s_ifS ?_ | with_reducible refine s_nil ?_ | with_reducible refine s_cons ?_ | with_reducible refine s_cb ?_ | with_reducible refine s_call ?_ | with_reducible refine s_tup ?_ | with_reducible refine s_lst ?_
  | with_reducible refine s_isN ?_ | with_reducible refine s_notN ?_ | with_reducible refine s_un ?_ | with_reducible refine s_U ?_ | with_reducible refine s_fld ?_ | with_reducible refine s_put ?_ | with_reducible refine s_meth ?_ | with_reducible refine s_gc ?_ | with_reducible refine s_g0 ?_
  | with_reducible refine s_dz ?_ | with_reducible refine s_make ?_ | with_reducible refine s_m1 ?_ | with_reducible refine s_chain ?_ | with_reducible refine s_iZ ?_ | with_reducible refine s_dput ?_ | with_reducible refine s_dget ?_ | with_reducible refine s_din ?_ | with_reducible refine s_lc ?_ | with_reducible refine s_for ?_ | with_reducible refine s_iL ?_ | with_reducible refine s_iE ?_ | with_reducible refine s_iR1 ?_ | with_reducible refine s_iR2 ?_ | with_reducible refine s_yes ?_
  | with_reducible refine s_frz ?_ | with_reducible refine s_bm ?_ | with_reducible refine s_bm0 ?_ | with_reducible refine s_iff ?_ | with_reducible refine s_ift ?_ | with_reducible refine s_ifnt ?_ | with_reducible refine s_ifnf ?_
  | with_reducible refine s_iT ?_ | with_reducible refine s_iS ?_ | with_reducible refine s_sl ?_ | with_reducible refine s_npart ?_ | with_reducible refine s_part ?_ | with_reducible refine s_PrtR ?_ | with_reducible refine s_pp0 ?_ | with_reducible refine s_pp ?_ | with_reducible refine s_sub ?_ | with_reducible refine s_callS ?_))
section
variable {P : Program} {w : World} {K : PySem.W.Frag} {mg : Str → Option Value} {base : Heap} {TT : List (Addr × Str)}
/-! ### Stepper: a twin -/
theorem sc_Stepper_fresh : FnScope ["self"] ["self"] (defScope s_Stepper_fresh) := ⟨rfl, rfl, rfl, by decide +kernel, rfl, by decide +kernel, by decide +kernel⟩
def sp_Stepper_fresh (K : PySem.W.Frag) (TT : List (Addr × Str)) : Sp := fun vs H Q E => ∃ (s : Addr) (A : SA) (b : Bk) (rs : List Row) (ds : List D), vs = [.ref s] ∧ StAt K H b s A rs ds ∧ BkOk b ∧ ∀ s' A' H', Fr TT [] H H' (SA.fp A' s') → StAt K H' b s' A' [] [] → Q (.ref s') H'
theorem k_Stepper_fresh {fd : FuncData} (T : Tx K mg) (F : FunD K "fresh" "Stepper.fresh" (defArgs s_Stepper_fresh) (defBody s_Stepper_fresh) (defScope s_Stepper_fresh) [] [] (He.ma K (He.ga K "Stepper") "fresh") fd) (h_Stepper_init : Cn P w K mg base 3 (He.ma K (He.ga K "Stepper") "__init__") ["self", "book"] (sp_Stepper_init K TT)) : Cn P w K mg base 5 (He.ma K (He.ga K "Stepper") "fresh") ["self"] (sp_Stepper_fresh K TT) := by
  refine cn_of F sc_Stepper_fresh (fun vs H Q E h => ?_) (fun _ _ _ _ _ _ us hl => match us, hl with | [_], _ => rfl) fun cdv A' outer s' H vs Q E hr h => ?_
  · obtain ⟨s, A, b, rs, ds, rfl, _⟩ := h
    rfl
  · obtain ⟨s, A, b, rs, ds, rfl, hs, B, q⟩ := h
    refine ⟨_, PSs.nox (pss_one (ps_ret (pe_mk T.k_Stepper h_Stepper_init (hr.mono (by decide)) rfl T.g_Stepper passL (pa_cons (pe_fld (pv 0) rfl) pa_nil)))), ?_⟩
    try dsimp only [cxOf]
    walk_at "st"
    refine s_FldR hs.ins T.cS T.nS_own_book rfl ?_
    walk_at "st"
    refine s_MakeR fun x dx H1 f1 hx nx ndx => ?_
    have f1' : Fr TT [] H H1 [x] := f1
    refine ⟨x, dx, A.bv, b, rfl, hx, f1'.fz hs.bk, B, fun A2 H2 f2 hs2 => ⟨rfl, ?_⟩⟩
    exact q x A2 H2 (f1'.trans f2) hs2
theorem sc_Stepper_done_again : FnScope ["self", "row"] ["self", "row"] (defScope s_Stepper_done_again) := ⟨rfl, rfl, rfl, by decide +kernel, rfl, by decide +kernel, by decide +kernel⟩
def sp_Stepper_done_again (K : PySem.W.Frag) : Sp := fun vs H Q E => ∃ (s : Addr) (A : SA) (b : Bk) (rs : List Row) (ds : List D) (r : Row) (v : V), vs = [.ref s, v] ∧ StAt K H b s A rs ds ∧ BkOk b ∧ Ok b rs ds ∧ Can b ds r ∧ Fz H v (rwD b r) ∧ rs.length < 1000 ∧ Tabs (lwT K) H ∧
  ∀ A' H', Fr (lwT K) (A.fp s) H H' (SA.fp A' s) → StAt K H' b s A' (rs ++ [r]) (doD b ds rs.length r) → Q .non H'
theorem k_Stepper_done_again {fd : FuncData} (T : Tx K mg) (F : FunD K "done_again" "Stepper.done_again" (defArgs s_Stepper_done_again) (defBody s_Stepper_done_again) (defScope s_Stepper_done_again) [] [] (He.ma K (He.ga K "Stepper") "done_again") fd) (h_Stepper_begin : Cn P w K mg base 4 (He.ma K (He.ga K "Stepper") "begin") ["self", "name", "keys"] (sp_Stepper_begin K (lwT K))) (h_Stepper_step : Cn P w K mg base 5 (He.ma K (He.ga K "Stepper") "step") ["self", "number"] (sp_Stepper_step K))
    (h_Stepper_close : Cn P w K mg base 2 (He.ma K (He.ga K "Stepper") "close") ["self", "number", "stands"] (sp_Stepper_close K (lwT K))) (h_Stepper_is_called_off : Cn P w K mg base 2 (He.ma K (He.ga K "Stepper") "is_called_off") ["self", "number"] (sp_Stepper_is_called_off K (lwT K)))
    (h_Stepper_shut : Cn P w K mg base 2 (He.ma K (He.ga K "Stepper") "shut") ["self", "number"] (sp_Stepper_shut K (lwT K))) : Cn P w K mg base 6 (He.ma K (He.ga K "Stepper") "done_again") ["self", "row"] (sp_Stepper_done_again K) := by
  refine cn_of F sc_Stepper_done_again (fun vs H Q E h => ?_) (fun _ _ _ _ _ _ us hl => match us, hl with | [_, _], _ => rfl) fun cdv A' outer s' H vs Q E hr h => ?_
  · obtain ⟨s, A, b, rs, ds, r, v, rfl, _⟩ := h
    rfl
  · obtain ⟨s, A, b, rs, ds, r, v, rfl, hs, B, ok, can, fv, hlen, hT, q⟩ := h
    obtain ⟨h40, okd⟩ := ok.inv B
    refine ⟨_, PSs.nox (pss_one (ps_if (pt_cmpR op_eq (pe_ix ix_tup (pv 1) pe_int fun _ _ => rfl) pe_str (nomark _)) (pss_one (ps_expr (pe_cm T.cS T.mS_begin h_Stepper_begin (pv 0) (hr.mono (by decide)) passL (pa_cons (pe_ix ix_tup (pv 1) pe_int fun _ _ => rfl) (pa_cons (pe_ix ix_tup (pv 1) pe_int fun _ _ => rfl) pa_nil))))) (pss_one (ps_if (pt_cmpR op_eq (pe_ix ix_tup (pv 1) pe_int fun _ _ => rfl) pe_str (nomark _)) (pss_one (ps_expr (pe_cm T.cS T.mS_step h_Stepper_step (pv 0) (hr.mono (by decide)) passL (pa_cons (pe_ix ix_tup (pv 1) pe_int fun _ _ => rfl) pa_nil)))) (pss_one (ps_if (pt_cmpR op_eq (pe_ix ix_tup (pv 1) pe_int fun _ _ => rfl) pe_str (nomark _)) (pss_one (ps_expr (pe_cm T.cS T.mS_close h_Stepper_close (pv 0) (hr.mono (by decide)) passL (pa_cons (pe_ix ix_tup (pv 1) pe_int fun _ _ => rfl) (pa_cons (pe_not (pe_cm T.cS T.mS_is_called_off h_Stepper_is_called_off (pv 0) (hr.mono (by decide)) passL (pa_cons (pe_ix ix_tup (pv 1) pe_int fun _ _ => rfl) pa_nil))) pa_nil))))) (pss_one (ps_expr (pe_cm T.cS T.mS_shut h_Stepper_shut (pv 0) (hr.mono (by decide)) passL (pa_cons (pe_ix ix_tup (pv 1) pe_int fun _ _ => rfl) pa_nil)))))))))), ?_⟩
    try dsimp only [cxOf]
    walk_at "st"
    cases r with
    | beg di ks =>
      obtain ⟨c1, c2, c3, c4⟩ := can
      obtain ⟨pv, xs, rfl, hpv, fx⟩ := fv.tup_inv
      match xs, fx with
      | [_, _, _], .cons (.str _) (.cons (.str _) (.cons fk .nil)) =>
        refine s_ixT (SqT.of hpv) atI_lit0 ?_
        walk_at "st"
        rw [decide_eq_true (show V.str ("begin" : Str) = V.str "begin" from rfl)]
        walk_at "st"
        refine s_MethR hs.ins rfl ?_
        walk_at "st"
        refine s_ixT (SqT.of hpv) atI_lit1 ?_
        walk_at "st"
        refine s_ixT (SqT.of hpv) atI_lit2 ?_
        refine ⟨s, A, b, rs, ds, di, _, ks, by rw [nmOf_eq c1], hs, B, c1, fk, c2, c3, hlen, fun A2 H2 f2 hs2 => ?_⟩
        walk_at "st"
        exact q A2 H2 f2 hs2
    | stp n =>
      obtain ⟨d, ed, hw, hl⟩ := can
      obtain ⟨pv, xs, rfl, hpv, fx⟩ := fv.tup_inv
      match xs, fx with
      | [_, _], .cons (.str _) (.cons (.int _) .nil) =>
        refine s_ixT (SqT.of hpv) atI_lit0 ?_
        walk_at "st"
        rw [decide_eq_false (show ¬ V.str ("step" : Str) = V.str "begin" from fun z => absurd (V.str.inj z) (by decide +kernel))]
        walk_at "st"
        refine s_ixT (SqT.of hpv) atI_lit0 ?_
        walk_at "st"
        rw [decide_eq_true (show V.str ("step" : Str) = V.str "step" from rfl)]
        walk_at "st"
        refine s_MethR hs.ins rfl ?_
        walk_at "st"
        refine s_ixT (SqT.of hpv) atI_lit1 ?_
        refine ⟨s, A, b, rs, ds, n, rfl, hs, B, ok, hlen, hT, fun d' e' _ _ v' H2 f2 hs2 _ => ?_, fun z => absurd (List.getElem?_eq_some_iff.mp ed).1 (by omega), fun d' e' z => absurd hw (by rw [ed] at e'; cases e'; exact z), fun d' e' _ z => by rw [ed] at e'; cases e'; omega⟩
        walk_at "st"
        exact q A H2 f2 hs2
    | fin n =>
      obtain ⟨d, ed, hw, hl⟩ := can
      obtain ⟨pv, xs, rfl, hpv, fx⟩ := fv.tup_inv
      match xs, fx with
      | [_, _], .cons (.str _) (.cons (.int _) .nil) =>
        refine s_ixT (SqT.of hpv) atI_lit0 ?_
        walk_at "st"
        rw [decide_eq_false (show ¬ V.str ("end" : Str) = V.str "begin" from fun z => absurd (V.str.inj z) (by decide +kernel))]
        walk_at "st"
        refine s_ixT (SqT.of hpv) atI_lit0 ?_
        walk_at "st"
        rw [decide_eq_false (show ¬ V.str ("end" : Str) = V.str "step" from fun z => absurd (V.str.inj z) (by decide +kernel))]
        walk_at "st"
        refine s_ixT (SqT.of hpv) atI_lit0 ?_
        walk_at "st"
        rw [decide_eq_true (show V.str ("end" : Str) = V.str "end" from rfl)]
        walk_at "st"
        refine s_MethR hs.ins rfl ?_
        walk_at "st"
        refine s_ixT (SqT.of hpv) atI_lit1 ?_
        walk_at "st"
        refine s_MethR hs.ins rfl ?_
        walk_at "st"
        refine s_ixT (SqT.of hpv) atI_lit1 ?_
        refine ⟨s, A, b, rs.length, rs, ds, n, d, rfl, hs, B, okd, ed, fun H1 f1 => ?_⟩
        walk_at "st"
        refine ⟨s, A, b, rs, ds, n, d, !isOff ds d, rfl, hs.fr f1 (by simp), ed, hlen, fun H2 f2 hs2 => ?_⟩
        walk_at "st"
        refine q A H2 ((f1.up (by simp)).trans f2) ?_
        show StAt K H2 b s A (rs ++ [.fin n]) (atN ds n fun d => { d with ended := some rs.length, word := if isOff ds d = true then .off else .stands })
        rw [atN_some ed]
        cases h : isOff ds d <;> rw [h] at hs2 <;> exact hs2
    | drp n =>
      obtain ⟨d, ed, hw⟩ := can
      obtain ⟨pv, xs, rfl, hpv, fx⟩ := fv.tup_inv
      match xs, fx with
      | [_, _], .cons (.str _) (.cons (.int _) .nil) =>
        refine s_ixT (SqT.of hpv) atI_lit0 ?_
        walk_at "st"
        rw [decide_eq_false (show ¬ V.str ("drop" : Str) = V.str "begin" from fun z => absurd (V.str.inj z) (by decide +kernel))]
        walk_at "st"
        refine s_ixT (SqT.of hpv) atI_lit0 ?_
        walk_at "st"
        rw [decide_eq_false (show ¬ V.str ("drop" : Str) = V.str "step" from fun z => absurd (V.str.inj z) (by decide +kernel))]
        walk_at "st"
        refine s_ixT (SqT.of hpv) atI_lit0 ?_
        walk_at "st"
        rw [decide_eq_false (show ¬ V.str ("drop" : Str) = V.str "end" from fun z => absurd (V.str.inj z) (by decide +kernel))]
        walk_at "st"
        refine s_MethR hs.ins rfl ?_
        walk_at "st"
        refine s_ixT (SqT.of hpv) atI_lit1 ?_
        refine ⟨s, A, b, rs, ds, n, d, rfl, hs, ed, hlen, fun H2 f2 hs2 => ?_⟩
        walk_at "st"
        refine q A H2 f2 ?_
        show StAt K H2 b s A (rs ++ [.drp n]) (atN ds n fun d => { d with ended := some rs.length, word := .off })
        rw [atN_some ed]
        exact hs2
theorem sc_Stepper_twin : FnScope ["self", "other", "row"] ["self"] (defScope s_Stepper_twin) := ⟨rfl, rfl, rfl, by decide +kernel, rfl, by decide +kernel, by decide +kernel⟩
def sp_Stepper_twin (K : PySem.W.Frag) : Sp := fun vs H Q E => ∃ (s : Addr) (A : SA) (b : Bk) (rs : List Row) (ds : List D), vs = [.ref s] ∧ StAt K H b s A rs ds ∧ BkOk b ∧ Ok b rs ds ∧ rs.length < 1000 ∧ Tabs (lwT K) H ∧
  ∀ s' A' H', Fr (lwT K) [] H H' (SA.fp A' s') → StAt K H' b s' A' rs ds → Q (.ref s') H'
theorem k_Stepper_twin {fd : FuncData} (T : Tx K mg) (F : FunD K "twin" "Stepper.twin" (defArgs s_Stepper_twin) (defBody s_Stepper_twin) (defScope s_Stepper_twin) [] [] (He.ma K (He.ga K "Stepper") "twin") fd) (h_Stepper_fresh : Cn P w K mg base 5 (He.ma K (He.ga K "Stepper") "fresh") ["self"] (sp_Stepper_fresh K (lwT K))) (h_Stepper_done_again : Cn P w K mg base 6 (He.ma K (He.ga K "Stepper") "done_again") ["self", "row"] (sp_Stepper_done_again K)) :
    Cn P w K mg base 7 (He.ma K (He.ga K "Stepper") "twin") ["self"] (sp_Stepper_twin K) := by
  refine cn_of F sc_Stepper_twin (fun vs H Q E h => ?_) (fun _ _ _ _ _ _ us hl => match us, hl with | [_], _ => rfl) fun cdv A' outer s' H vs Q E hr h => ?_
  · obtain ⟨s, A, b, rs, ds, rfl, _⟩ := h
    rfl
  · obtain ⟨s, A, b, rs, ds, rfl, hs, B, ok, hlen, hT, q⟩ := h
    obtain ⟨ls, hll, fl⟩ := id hs.log
    have llen := fl.length
    rw [List.length_map] at llen
    refine ⟨_, PSs.nox (pss_cons (ps_set (i := 1) sc_Stepper_twin.nd rfl (by first | exact Or.inl rfl | exact Or.inr rfl) (pe_cm0 T.cS T.mS_fresh h_Stepper_fresh (pv 0) (hr.mono (by decide)) passL)) (pss_cons (ps_for PassesOwn.never rfl (pi_list (pe_fld (pv 0) rfl)) (pg_name (i := 2) sc_Stepper_twin.nd rfl (by first | exact Or.inl rfl | exact Or.inr rfl)) (pss_one (ps_expr (pe_cm T.cS T.mS_done_again h_Stepper_done_again (pv 1) (hr.mono (by decide)) passL (pa_cons (pv 2) pa_nil))))) (pss_one (ps_ret (pv 1))))), ?_⟩
    try dsimp only [cxOf]
    walk_at "st"
    refine s_MethR hs.ins rfl ?_
    walk_at "st"
    refine ⟨s, A, b, rs, ds, rfl, hs, B, fun z A1 H1 f1 hz => ?_⟩
    walk_at "st"
    have hs1 := hs.fr f1 (by simp)
    refine s_FldR hs1.ins T.cS T.nS_log rfl ?_
    have hll1 := f1.get hll (by simp) trivial
    refine s_IlR (SqL.of hll1) ?_
    refine forJ (T := lwT K) (gives_list (xs := ls)) (fun i σ H' => ∃ a1 A2 es, σ = [some (.ref s), some (.ref z), a1] ∧ Fr (lwT K) [] H H' (SA.fp A2 z) ∧ StAt K H' b z A2 (rs.take i) es ∧ Ok b (rs.take i) es) ⟨_, A1, [], rfl, f1, by simpa using hz, by simpa using Ok.nil⟩ ?_ ?_ ?_
    · rintro i σ H' hi ⟨a1, A2, es, rfl, f, _⟩
      exact f.sqL (SqL.of hll) (by simp)
    · rintro i x σ H' H'' hi ⟨a1, A2, es, rfl, f, hz2, ok2⟩ f0 hx
      obtain ⟨rd, erd, fr⟩ := fl.of hx
      rw [List.getElem?_map] at erd
      obtain ⟨r, er, rfl⟩ := Option.map_eq_some_iff.mp erd
      obtain ⟨es', ok3, can⟩ := ok.take i (by omega)
      obtain rfl := ok2.det ok3
      have hz3 := hz2.fr f0 (by simp)
      have f2 : Fr (lwT K) [] H H'' (SA.fp A2 z) := f.trans (f0.up (by simp))
      walk_at "st"
      refine s_MethR hz3.ins rfl ?_
      walk_at "st"
      refine ⟨z, A2, b, rs.take i, es, r, x, rfl, hz3, B, ok2, can r er, f2.fz fr, by rw [List.length_take]; omega, f2.tab hT, fun A3 H3 f3 hz4 => ?_⟩
      walk_at "st"
      have e1 : rs.take (i + 1) = rs.take i ++ [r] := by rw [List.take_succ, er]; rfl
      refine ⟨_, A3, _, rfl, f2.trans f3, by rw [e1]; exact hz4, by rw [e1]; exact ok2.snoc (can r er)⟩
    · rintro σ H' ⟨a1, A2, es, rfl, f, hz2, ok2⟩
      rw [llen, List.take_length] at hz2 ok2
      obtain rfl := ok2.det ok
      walk_at "st"
      exact q z A2 H' f hz2
end
end K28
/-! ## K28f1 -/
namespace K28
set_option maxHeartbeats 3900000
open L2 LamX PySem PySem.Spec PyProof.Rows
local macro_rules | `(tactic| walk_at "st") => `(tactic| repeat (first
  | with_reducible refine s_seq ?_ | with_reducible refine s_ret ?_ | with_reducible refine s_retN ?_ | with_reducible refine s_drop ?_ | with_reducible refine s_asg ?_ | with_reducible refine s_gn ?_ | with_reducible refine s_nextq ?_
  | ((with_reducible apply s_var); exact rfl) | with_reducible refine s_c ?_ | with_reducible refine s_op ?_ | with_reducible refine s_I0 ?_ | ((with_reducible refine s_eq ?_ ?_); exact rfl) | ((with_reducible refine s_ne ?_ ?_); exact rfl)
  | with_reducible refine s_test ?_ | with_reducible refine s_tB ?_ | with_reducible refine s_bl ?_ | with_reducible refine s_and ?_ | with_reducible refine s_or ?_ | with_reducible refine s_not ?_ | with_reducible refine s_andV ?_ | with_reducible refine s_orV ?_ | with_reducible refine s_notV ?_
  | with_reducible refine s_blP ?_ | with_reducible refine s_ifS ?_ | with_reducible refine s_nil ?_ | with_reducible refine s_cons ?_ | with_reducible refine s_cb ?_ | with_reducible refine s_call ?_ | with_reducible refine s_tup ?_ | with_reducible refine s_lst ?_
  | with_reducible refine s_isN ?_ | with_reducible refine s_notN ?_ | with_reducible refine s_un ?_ | with_reducible refine s_U ?_ | with_reducible refine s_fld ?_ | with_reducible refine s_put ?_ | with_reducible refine s_meth ?_ | with_reducible refine s_gc ?_ | with_reducible refine s_g0 ?_
  | with_reducible refine s_dz ?_ | with_reducible refine s_make ?_ | with_reducible refine s_m1 ?_ | with_reducible refine s_chain ?_ | with_reducible refine s_iZ ?_ | with_reducible refine s_dput ?_ | with_reducible refine s_dget ?_ | with_reducible refine s_din ?_ | with_reducible refine s_lc ?_ | with_reducible refine s_for ?_ | with_reducible refine s_iL ?_ | with_reducible refine s_iE ?_ | with_reducible refine s_iR1 ?_ | with_reducible refine s_iR2 ?_ | with_reducible refine s_yes ?_
  | with_reducible refine s_frz ?_ | with_reducible refine s_bm ?_ | with_reducible refine s_bm0 ?_ | with_reducible refine s_iff ?_ | with_reducible refine s_ift ?_ | with_reducible refine s_ifnt ?_ | with_reducible refine s_ifnf ?_
  | with_reducible refine s_iT ?_ | with_reducible refine s_iS ?_ | with_reducible refine s_sl ?_ | with_reducible refine s_npart ?_ | with_reducible refine s_part ?_ | with_reducible refine s_PrtR ?_ | with_reducible refine s_pp0 ?_ | with_reducible refine s_pp ?_ | with_reducible refine s_sub ?_ | with_reducible refine s_callS ?_))
section
variable {P : Program} {w : World} {K : PySem.W.Frag} {mg : Str → Option Value} {base : Heap} {TT : List (Addr × Str)}
/-! ### drawing -/
def PoolAt (H : Hp) (p : Addr) : Prop := ∃ x y : Int, H p = some (.lst [.int x, .int y]) ∧ 0 ≤ x ∧ 0 ≤ y ∧ y < 2147483647
theorem PoolAt.fr {H H' : Hp} {p : Addr} {T : List (Addr × Str)} {fp gp : List Addr} (h : PoolAt H p) (f : Fr T fp H H' gp) (n : p ∉ fp) : PoolAt H' p := by
  obtain ⟨x, y, hp, h1, h2, h3⟩ := h
  exact ⟨x, y, f.get hp n trivial, h1, h2, h3⟩
theorem PoolAt.upd {H : Hp} {p D : Addr} {o : HO} (h : PoolAt H p) (n : p ≠ D) : PoolAt (upd H D o) p := by
  obtain ⟨x, y, hp, h1, h2, h3⟩ := h
  exact ⟨x, y, by rw [upd_ne n]; exact hp, h1, h2, h3⟩
theorem PoolAt.some {H : Hp} {p : Addr} (h : PoolAt H p) : H p ≠ none := by
  obtain ⟨x, y, hp, _⟩ := h
  rw [hp]
  exact fun z => nomatch z
theorem PoolAt.ne {H : Hp} {p D : Addr} (h : PoolAt H p) (n : H D = none) : p ≠ D := fun z => h.some (by rw [z]; exact n)
theorem sc__law_draw : FnScope ["_law_pool_here", "_law_many", "_law_found"] ["_law_pool_here", "_law_many"] (defScope s__law_draw) := ⟨rfl, rfl, rfl, by decide +kernel, rfl, by decide +kernel, by decide +kernel⟩
def sp__law_draw (TT : List (Addr × Str)) : Sp := fun vs H Q _ => ∃ (p : Addr) (m : Int), vs = [.ref p, .int m] ∧ PoolAt H p ∧ 0 < m ∧ m < 1073741824 ∧ ∀ (r : Int) H', 0 ≤ r → r < m → Fr TT [p] H H' [p] → PoolAt H' p → Q (.int r) H'
theorem k__law_draw {fd : FuncData} (T : Tx K mg) (F : FunD K "_law_draw" "_law_draw" (defArgs s__law_draw) (defBody s__law_draw) (defScope s__law_draw) [] [] (He.ga K "_law_draw") fd) : Cn P w K mg base 1 (He.ga K "_law_draw") ["_law_pool_here", "_law_many"] (sp__law_draw TT) := by
  refine cn_of F sc__law_draw (fun vs H Q E h => ?_) (fun _ _ _ _ _ _ us hl => match us, hl with | [_, _], _ => rfl) fun cdv A outer s H vs Q E hr h => ?_
  · obtain ⟨p, m, rfl, _⟩ := h
    rfl
  · obtain ⟨p, m, rfl, ⟨x, y, hp, h1, h2, h3⟩, m1, m2, q⟩ := h
    refine ⟨_, PSs.nox (pss_cons (ps_if (pt_cmpR op_gt (pe_ix ix_list (pv 0) pe_int fun _ _ => rfl) pe_int (nomark _)) (pss_cons (ps_set (i := 2) sc__law_draw.nd rfl (by first | exact Or.inl rfl | exact Or.inr rfl) (pe_op op_mod (pe_ix ix_list (pv 0) pe_int fun _ _ => rfl) (pv 1))) (pss_cons (ps_asg (pe_op op_fdiv (pe_ix ix_list (pv 0) pe_int fun _ _ => rfl) (pv 1)) (pg_sub (pv 0) pe_int set_list)) (pss_one (ps_ret (pv 2))))) pss_nil) (pss_cons (ps_asg (pe_op op_mod (pe_op op_add (pe_op op_mul (pe_ix ix_list (pv 0) pe_int fun _ _ => rfl) pe_int) pe_int) pe_int) (pg_sub (pv 0) pe_int set_list)) (pss_one (ps_ret (pe_op op_mod (pe_op op_fdiv (pe_op op_mod (pe_op op_mul (pe_ix ix_list (pv 0) pe_int fun _ _ => rfl) (pe_ix ix_list (pv 0) pe_int fun _ _ => rfl)) pe_int) pe_int) (pv 1)))))), ?_⟩
    try dsimp only [cxOf]
    walk_at "st"
    refine s_ixL (SqL.of hp) atI_lit0 ?_
    walk_at "st"
    by_cases hx : 0 < x
    · rw [decide_eq_true hx]
      walk_at "st"
      refine s_ixL (SqL.of hp) atI_lit0 ?_
      walk_at "st"
      refine s_I m1 ?_
      walk_at "st"
      refine s_ixL (SqL.of hp) atI_lit0 ?_
      walk_at "st"
      refine s_I ⟨m1, m2⟩ ?_
      walk_at "st"
      refine s_setL hp (j := 0) rfl fun H1 c1 => ?_
      walk_at "st"
      exact q _ H1 (Int.emod_nonneg _ (by omega)) (Int.emod_lt_of_pos _ m1) (c1.fr hp trivial (by simp)) ⟨x / m, y, c1.at, Int.ediv_nonneg h1 (by omega), h2, h3⟩
    · rw [decide_eq_false hx]
      walk_at "st"
      refine s_ixL (SqL.of hp) atI_lit1 ?_
      walk_at "st"
      refine s_I (.inr ⟨by decide, by decide⟩) ?_
      walk_at "st"
      refine s_I (by decide) ?_
      walk_at "st"
      refine s_setL hp (j := 1) rfl fun H1 c1 => ?_
      have y1 : 0 ≤ (y * 69621 + 7) % 2147483647 := Int.emod_nonneg _ (by omega)
      have y2 : (y * 69621 + 7) % 2147483647 < 2147483647 := Int.emod_lt_of_pos _ (by omega)
      generalize (y * 69621 + 7) % 2147483647 = y' at c1 y1 y2
      walk_at "st"
      refine s_ixL (SqL.of c1.at) atI_lit1 ?_
      walk_at "st"
      refine s_ixL (SqL.of c1.at) atI_lit1 ?_
      refine s_I (.inl ⟨by omega, by omega⟩) ?_
      walk_at "st"
      refine s_I (by decide) ?_
      walk_at "st"
      refine s_I ⟨by decide, by decide⟩ ?_
      walk_at "st"
      refine s_I m1 ?_
      exact q _ H1 (Int.emod_nonneg _ (by omega)) (Int.emod_lt_of_pos _ m1) (c1.fr hp trivial (by simp)) ⟨x, y', c1.at, h1, y1, y2⟩
theorem sc__law_left : FnScope ["_law_book_here", "_law_deal"] ["_law_book_here", "_law_deal"] (defScope s__law_left) := ⟨rfl, rfl, rfl, by decide +kernel, rfl, by decide +kernel, by decide +kernel⟩
def sp__law_left : Sp := fun vs H Q _ => ∃ (v : V) (b : Bk) (a sl : Addr) (d : D), vs = [v, .ref a] ∧ Fz H v (bkD b) ∧ WlAt H a sl d ∧ d.di < b.deals.length ∧ Q (.int (((dlOf b d.di).steps.length : Int) - (d.told.length : Int))) H
theorem s_DgetW {H : Hp} {Q : VK} {a : Addr} {kvs : List (Key × V)} {s : Str} {v : V} (h : H a = some (.dK kvs)) (e : valV kvs (.inr s) = some v) (q : Q v H) : DgetR (.ref a) (.str s) H Q := s_DgetS (.inl h) e q
theorem k__law_left {fd : FuncData} (T : Tx K mg) (F : FunD K "_law_left" "_law_left" (defArgs s__law_left) (defBody s__law_left) (defScope s__law_left) [] [] (He.ga K "_law_left") fd) : Cn P w K mg base 1 (He.ga K "_law_left") ["_law_book_here", "_law_deal"] sp__law_left := by
  refine cn_of F sc__law_left (fun vs H Q E h => ?_) (fun _ _ _ _ _ _ us hl => match us, hl with | [_, _], _ => rfl) fun cdv A outer s H vs Q E hr h => ?_
  · obtain ⟨v, b, a, sl, d, rfl, _⟩ := h
    rfl
  · obtain ⟨v, b, a, sl, d, rfl, hv, hd, hdi, q⟩ := h
    obtain ⟨kv, ha, _⟩ := hd.ex
    obtain ⟨ts, hts, fts⟩ := hd.sl
    obtain ⟨p, x, y, rfl, hp, f1, f2⟩ := hv.tup2
    obtain ⟨py, oy, ys, rfl, hy, fy⟩ := f2.lst_inv
    obtain ⟨e1, m1⟩ := dlOf_mem hdi
    obtain ⟨dv, edv, fdv⟩ := fy.at (i := d.di) (d := dlD (dlOf b d.di)) (by rw [List.getElem?_map, e1]; rfl)
    obtain ⟨pd, z1, z2, z3, rfl, hpd, g1, g2, g3⟩ := fdv.tup3
    obtain ⟨pz, oz, zs, rfl, hz, fz⟩ := g3.lst_inv
    have lt := fts.length
    have lz := fz.length
    rw [List.length_map] at lt lz
    refine ⟨_, PSs.nox (pss_one (ps_ret (pe_op op_sub (pe_callB call_lenQ rfl T.f_len (by decide +kernel) (pa_cons (pe_ix ix_tup (pe_ix ix_list (pe_ix ix_tup (pv 0) pe_int fun _ _ => rfl) (pe_dget (hu_of hr) (pv 1) pe_str fun _ _ => rfl) fun _ _ => rfl) pe_int fun _ _ => rfl) pa_nil)) (pe_callB call_lenQ rfl T.f_len (by decide +kernel) (pa_cons (pe_dget (hu_of hr) (pv 1) pe_str fun _ _ => rfl) pa_nil))))), ?_⟩
    try dsimp only [cxOf]
    walk_at "st"
    refine s_ixT (SqT.of hp) atI_lit1 ?_
    walk_at "st"
    refine s_DgetW ha rfl ?_
    refine s_ixL (sqF hy) (atI_nat edv) ?_
    walk_at "st"
    refine s_ixT (SqT.of hpd) atI_lit2 ?_
    walk_at "st"
    refine s_lenL (sqF hz) ?_
    walk_at "st"
    refine s_DgetW ha rfl ?_
    walk_at "st"
    refine s_lenL (SqL.of hts) ?_
    walk_at "st"
    rw [lt, lz]
    exact q
theorem sc__law_keys : FnScope ["_law_pool_here", "_law_book_here", "_law_number", "_law_span", "_law_many", "_law_found", "_law_mark", "_law_kind_here"] ["_law_pool_here", "_law_book_here", "_law_number", "_law_span"] (defScope s__law_keys) := ⟨rfl, rfl, rfl, by decide +kernel, rfl, by decide +kernel, by decide +kernel⟩
def sp__law_keys (TT : List (Addr × Str)) : Sp := fun vs H Q _ => ∃ (p : Addr) (v : V) (b : Bk) (di : Nat), vs = [.ref p, v, .int di, .int 3] ∧ PoolAt H p ∧ Fz H v (bkD b) ∧ BkOk b ∧ di < b.deals.length ∧ ∀ v' ks H', Fr TT [p] H H' [p] → PoolAt H' p → Fz H' v' (.list (ks.map kyD)) → KsOk b di ks → (∀ k ∈ ks, k.2 ≤ 2) → Q v' H'
theorem k__law_keys {fd : FuncData} (T : Tx K mg) (F : FunD K "_law_keys" "_law_keys" (defArgs s__law_keys) (defBody s__law_keys) (defScope s__law_keys) [] [] (He.ga K "_law_keys") fd) (h__law_draw : Cn P w K mg base 1 (He.ga K "_law_draw") ["_law_pool_here", "_law_many"] (sp__law_draw TT)) : Cn P w K mg base 2 (He.ga K "_law_keys") ["_law_pool_here", "_law_book_here", "_law_number", "_law_span"] (sp__law_keys TT) := by
  refine cn_of F sc__law_keys (fun vs H Q E h => ?_) (fun _ _ _ _ _ _ us hl => match us, hl with | [_, _, _, _], _ => rfl) fun cdv A outer s H vs Q E hr h => ?_
  · obtain ⟨p, v, b, di, rfl, _⟩ := h
    rfl
  · obtain ⟨p, v, b, di, rfl, hP, hv, B, hdi, q⟩ := h
    obtain ⟨pb, x, y, rfl, hp, f1, f2⟩ := hv.tup2
    obtain ⟨py, oy, ys, rfl, hy, fy⟩ := f2.lst_inv
    obtain ⟨e1, m1⟩ := dlOf_mem hdi
    obtain ⟨dv, edv, fdv⟩ := fy.at (i := di) (d := dlD (dlOf b di)) (by rw [List.getElem?_map, e1]; rfl)
    obtain ⟨pd, z1, z2, z3, rfl, hpd, g1, g2, g3⟩ := fdv.tup3
    obtain ⟨pz, oz, zs, rfl, hz, fz⟩ := g2.lst_inv
    have lz := fz.length
    rw [List.length_map] at lz
    refine ⟨_, PSs.nox (pss_cons (ps_set (i := 4) sc__law_keys.nd rfl (by first | exact Or.inl rfl | exact Or.inr rfl) (pe_callTy (call_dictQ rfl) rfl T.f_dict (by decide +kernel) (pa_cons (pe_ix ix_tup (pv 1) pe_int fun _ _ => rfl) pa_nil))) (pss_cons (ps_set (i := 5) sc__law_keys.nd rfl (by first | exact Or.inl rfl | exact Or.inr rfl) (pe_lst pa_nil)) (pss_cons (ps_for PassesOwn.never rfl (pi_list (pe_ix ix_tup (pe_ix ix_list (pe_ix ix_tup (pv 1) pe_int fun _ _ => rfl) (pv 2) fun _ _ => rfl) pe_int fun _ _ => rfl)) (pg_tup rfl (pgs_cons (pg_name (i := 6) sc__law_keys.nd rfl (by first | exact Or.inl rfl | exact Or.inr rfl)) (pgs_cons (pg_name (i := 7) sc__law_keys.nd rfl (by first | exact Or.inl rfl | exact Or.inr rfl)) pgs_nil))) (pss_one (ps_expr (pe_bm PySem.F.plainAttrs_list PySem.F.slot_list_append PySem.F.type_list_append mt_append (pv 5) (pa_cons (pe_tup (pa_cons (pv 7) (pa_cons (pe_op op_mul (pe_cn h__law_draw (hr.mono (by decide)) rfl T.g__law_draw passL (pa_cons (pv 0) (pa_cons (pv 3) pa_nil))) (pe_callTy call_intQ rfl T.f_int (by decide +kernel) (pa_cons (pe_dget (hu_of hr) (pv 4) (pv 7) fun _ _ => rfl) pa_nil))) pa_nil))) pa_nil))))) (pss_one (ps_ret (pe_frz (pv 5))))))), ?_⟩
    try dsimp only [cxOf]
    walk_at "st"
    refine s_ixT (SqT.of hp) atI_lit0 ?_
    walk_at "st"
    refine s_kinds B f1 fun kd H1 hk1 hkd => ?_
    obtain ⟨u1, n1⟩ := hk1
    walk_at "st"
    refine s_newL (by simp) fun l H2 n2 => ?_
    walk_at "st"
    have f02 : Fr TT [p] H H2 [p] := n1.fr.trans n2.fr
    obtain ⟨kvs, hkvs, hval⟩ := hkd
    have npl : p ≠ l := (hP.fr (n1.fr (T := TT) (fp := [])) (by simp)).ne n2.no
    have npk : p ≠ kd := hP.ne n1.no
    refine s_ixT (SqT.of (f02.tup hp)) atI_lit1 ?_
    walk_at "st"
    refine s_ixL (sqF (f02.frz hy)) (atI_nat edv) ?_
    walk_at "st"
    refine s_ixT (SqT.of (f02.tup hpd)) atI_lit1 ?_
    refine s_IlR (sqF (f02.frz hz)) ?_
    refine forJ (T := TT) (gives_list (xs := zs)) (fun i σ H' => ∃ a1 a2 xs ks, σ = [some (.ref p), some (.ref pb), some (.int di), some (.int 3), some (.ref kd), some (.ref l), a1, a2] ∧ Fr TT [p] H H' [p] ∧ PoolAt H' p ∧ H' kd = some (.dK kvs) ∧ H' l = some (.lst xs) ∧ FzA H' xs (ks.map kyD) ∧ ks.map (·.1) = ((dlOf b di).lets.take i).map (·.2) ∧ ∀ k ∈ ks, KyOk b k ∧ k.2 ≤ 2)
      ⟨_, _, [], [], rfl, f02, hP.fr ((n1.fr (T := TT) (fp := [])).trans n2.fr) (by simp), n2.old hkvs, n2.at, .nil, rfl, fun _ z => nomatch z⟩ ?_ ?_ ?_
    · rintro i σ H' hi ⟨a1, a2, xs, ks, rfl, f, _⟩
      exact sqF (f.frz hz)
    · rintro i x σ H' H'' hi ⟨a1, a2, xs, ks, rfl, f, hP1, hkd1, hl1, fx, ek, hks⟩ f0 hx
      obtain ⟨pd', epd, fpd⟩ := fz.of hx
      rw [List.getElem?_map] at epd
      obtain ⟨pr, epr, rfl⟩ := Option.map_eq_some_iff.mp epd
      obtain ⟨m, hm⟩ := B.lk _ m1 pr (List.mem_of_getElem? epr)
      obtain ⟨pt, r1, r2, rfl, hpt, rr1, rr2⟩ := ((f.trans (f0.up (by simp))).fz fpd).tup2
      obtain rfl := rr1.str_inv
      obtain rfl := rr2.str_inv
      refine s_gt (SqT.of hpt) rfl ?_
      walk_at "st"
      have hl2 := f0.get hl1 (by simp) trivial
      refine ⟨s_tyL hl2, ?_⟩
      walk_at "st"
      refine ⟨p, 3, rfl, hP1.fr f0 (by simp), by decide, by decide, fun r H3 r0 r3 f3 hP3 => ?_⟩
      walk_at "st"
      have hkd3 := f3.get (f0.get hkd1 (by simp) trivial) (by simpa using npk.symm) trivial
      refine s_DgetW hkd3 (hval _ _ hm) ?_
      walk_at "st"
      refine s_intB ?_
      refine s_I (.inl ⟨by omega, by omega⟩) ?_
      walk_at "st"
      refine s_newT (by simp) fun tp H4 n4 => ?_
      walk_at "st"
      have hl3 := f3.get hl2 (by simpa using npl.symm) trivial
      have lx := fx.length
      have lk := congrArg List.length ek
      simp only [List.length_map, List.length_take] at lx lk
      have l4 := B.l0 _ m1
      refine s_appC (n4.old hl3) (by omega) fun H5 c5 => ?_
      walk_at "st"
      have hl4 := n4.old hl3
      have i45 := c5.imm hl4 trivial
      have f2 : Fr TT [p] H H4 [p] := ((f.trans (f0.up (by simp))).trans f3).trans n4.fr
      have hlN : H l = none := (n1.fr (T := TT) (fp := [p])).dom l n2.no
      have f5 : Fr TT [p] H H5 [p] := c5.back f2 hlN hl4 trivial
      have nkl : kd ≠ l := n2.ne n1.at
      obtain ⟨m', hm', hk0, hk1⟩ : ∃ m', m' = m ∧ 0 ≤ r * (if m' then 1 else 0) ∧ r * (if m' then 1 else 0) ≤ 2 := ⟨m, rfl, by cases m <;> simp <;> omega, by cases m <;> simp <;> omega⟩
      subst hm'
      refine ⟨_, _, xs ++ [.ref tp], ks ++ [(pr.2, r * (if m' then 1 else 0))], rfl, f5, (hP3.fr (n4.fr (T := TT) (fp := [])) (by simp)).fr (c5.fr (T := TT) (fp := [l]) hl4 trivial (by simp)) (by simpa using npl), c5.old (n4.old hkd3) nkl, c5.at, ?_, ?_, ?_⟩
      · rw [List.map_append]
        exact ((((f0.up (by simp)).trans f3).trans n4.fr).fza fx |>.keep i45).snoc ((Fz.tup n4.at (.cons (.str _) (.cons (.int _) .nil))).keep i45)
      · rw [List.map_append, ek, List.take_succ, epr]
        simp
      · intro k hk
        obtain hk | hk := List.mem_append.mp hk
        · exact hks k hk
        · rw [List.mem_singleton] at hk
          subst hk
          exact ⟨⟨m', hm, hk0, fun z => by subst z; simp⟩, hk1⟩
    · rintro σ H' ⟨a1, a2, xs, ks, rfl, f, hP1, hkd1, hl1, fx, ek, hks⟩
      rw [lz, List.take_length] at ek
      walk_at "st"
      refine s_frzM hl1 trivial fun o H3 c3 => ?_
      have i3 := c3.imm hl1 trivial
      exact q _ ks H3 (c3.back f ((n1.fr (T := TT) (fp := [p])).dom l n2.no) hl1 trivial) (hP1.fr (c3.fr (T := TT) (fp := [l]) hl1 trivial (by simp)) (by simpa using npl)) (.lst c3.at (fx.keep i3)) ⟨ek, fun k hk => (hks k hk).1⟩ fun k hk => (hks k hk).2
end
end K28
/-! ## K28f2 -/
namespace K28
set_option maxHeartbeats 3900000
open L2 LamX PySem PySem.Spec PyProof.Rows
local macro_rules | `(tactic| walk_at "st") => `(tactic| repeat (first
  | with_reducible refine s_seq ?_ | with_reducible refine s_ret ?_ | with_reducible refine s_retN ?_ | with_reducible refine s_drop ?_ | with_reducible refine s_asg ?_ | with_reducible refine s_gn ?_ | with_reducible refine s_nextq ?_
  | ((with_reducible apply s_var); exact rfl) | with_reducible refine s_c ?_ | with_reducible refine s_op ?_ | with_reducible refine s_I0 ?_ | ((with_reducible refine s_eq ?_ ?_); exact rfl) | ((with_reducible refine s_ne ?_ ?_); exact rfl)
  | with_reducible refine s_test ?_ | with_reducible refine s_tB ?_ | with_reducible refine s_bl ?_ | with_reducible refine s_and ?_ | with_reducible refine s_or ?_ | with_reducible refine s_not ?_ | with_reducible refine s_andV ?_ | with_reducible refine s_orV ?_ | with_reducible refine s_notV ?_
  | with_reducible refine s_blP ?_ | with_reducible refine s_ifS ?_ | with_reducible refine s_nil ?_ | with_reducible refine s_cons ?_ | with_reducible refine s_cb ?_ | with_reducible refine s_call ?_ | with_reducible refine s_tup ?_ | with_reducible refine s_lst ?_
  | with_reducible refine s_isN ?_ | with_reducible refine s_notN ?_ | with_reducible refine s_un ?_ | with_reducible refine s_U ?_ | with_reducible refine s_fld ?_ | with_reducible refine s_put ?_ | with_reducible refine s_meth ?_ | with_reducible refine s_gc ?_ | with_reducible refine s_g0 ?_
  | with_reducible refine s_dz ?_ | with_reducible refine s_make ?_ | with_reducible refine s_m1 ?_ | with_reducible refine s_chain ?_ | with_reducible refine s_iZ ?_ | with_reducible refine s_dput ?_ | with_reducible refine s_dget ?_ | with_reducible refine s_din ?_ | with_reducible refine s_lc ?_ | with_reducible refine s_for ?_ | with_reducible refine s_iL ?_ | with_reducible refine s_iE ?_ | with_reducible refine s_iR1 ?_ | with_reducible refine s_iR2 ?_ | with_reducible refine s_yes ?_
  | with_reducible refine s_frz ?_ | with_reducible refine s_bm ?_ | with_reducible refine s_bm0 ?_ | with_reducible refine s_iff ?_ | with_reducible refine s_ift ?_ | with_reducible refine s_ifnt ?_ | with_reducible refine s_ifnf ?_
  | with_reducible refine s_iT ?_ | with_reducible refine s_iS ?_ | with_reducible refine s_sl ?_ | with_reducible refine s_npart ?_ | with_reducible refine s_part ?_ | with_reducible refine s_PrtR ?_ | with_reducible refine s_pp0 ?_ | with_reducible refine s_pp ?_ | with_reducible refine s_sub ?_ | with_reducible refine s_callS ?_))
section
variable {P : Program} {w : World} {K : PySem.W.Frag} {mg : Str → Option Value} {base : Heap} {TT : List (Addr × Str)}
/-! ### the world read -/
theorem sc__law_wrote : FnScope ["_law_deal", "_law_deed", "_law_key", "_law_seen"] ["_law_deal"] (defScope s__law_wrote) := ⟨rfl, rfl, rfl, by decide +kernel, rfl, by decide +kernel, by decide +kernel⟩
def sp__law_wrote (TT : List (Addr × Str)) : Sp := fun vs H Q _ => ∃ (a sl : Addr) (d : D), vs = [.ref a] ∧ WlAt H a sl d ∧ d.told.length ≤ 1000 ∧ ∀ l xs H', Fr TT [] H H' [] → H l = none → H' l = some (.lst xs) → FzA H' xs ((wrote d).map kyD) → Q (.ref l) H'
theorem k__law_wrote {fd : FuncData} (T : Tx K mg) (F : FunD K "_law_wrote" "_law_wrote" (defArgs s__law_wrote) (defBody s__law_wrote) (defScope s__law_wrote) [] [] (He.ga K "_law_wrote") fd) : Cn P w K mg base 1 (He.ga K "_law_wrote") ["_law_deal"] (sp__law_wrote TT) := by
  refine cn_of F sc__law_wrote (fun vs H Q E h => ?_) (fun _ _ _ _ _ _ us hl => match us, hl with | [_], _ => rfl) fun cdv A outer s H vs Q E hr h => ?_
  · obtain ⟨a, sl, d, rfl, _⟩ := h
    rfl
  · obtain ⟨a, sl, d, rfl, hd, hlen, q⟩ := h
    obtain ⟨kv, ha, _⟩ := hd.ex
    obtain ⟨ts, htl, ft⟩ := hd.sl
    have lt := ft.length
    rw [List.length_map] at lt
    refine ⟨_, PSs.nox (pss_one (ps_ret (pe_lc (own := [("_law_deed", 1), ("_law_key", 2), ("_law_seen", 3)]) (g := (gTup K 3 (gCons (gName 1) (gCons (gName 2) (gCons (gName 3) gNil))))) rfl sc__law_wrote.nd (pi_list (pe_dget (hu_of hr) (pv 0) pe_str fun _ _ => rfl)) (blkOk_by (N := ["_law_deal", "_law_deed", "_law_key", "_law_seen"]) (sc := defScope s__law_wrote) (by decide +kernel)) (fun _ _ _ _ _ => (pg_tup rfl (pgs_cons (pg_name (i := 1) sc__law_wrote.nd rfl (by first | exact Or.inl rfl | exact Or.inr rfl)) (pgs_cons (pg_name (i := 2) sc__law_wrote.nd rfl (by first | exact Or.inl rfl | exact Or.inr rfl)) (pgs_cons (pg_name (i := 3) sc__law_wrote.nd rfl (by first | exact Or.inl rfl | exact Or.inr rfl)) pgs_nil))))) (fun _ _ _ _ _ => (pts_one (pt_cmpR op_ne (pv 1) pe_str (nomark _)))) (fun _ _ _ _ _ => (pv 2))))), ?_⟩
    try dsimp only [cxOf]
    walk_at "st"
    refine s_DgetW ha rfl ?_
    refine s_IlR (SqL.of htl) ?_
    refine lcJ (T := TT) (gives_list (xs := ts)) [] (fun _ _ => True) (fun i => (((d.told.take i).filter fun t => !decide (t.deed = ("read" : Str))).map (·.key)).map kyD) (fun _ z => nomatch z) trivial (by simp) (fun _ _ _ _ _ _ => trivial) (fun i H' _ f => f.sqL (SqL.of htl) (by simp)) (fun i => ?_) ?_ ?_
    · have h1 := List.length_filter_le (fun t : Tl => !decide (t.deed = ("read" : Str))) (d.told.take i)
      have h2 := List.length_take_le i d.told
      simp only [List.length_map]
      have : (d.told.take i).length ≤ d.told.length := by rw [List.length_take]; exact Nat.min_le_right _ _
      omega
    · intro i x H' H'' hi _ f f0 hx' Y N yes no
      obtain ⟨ed, e1, fe⟩ := ft.of hx'
      rw [List.getElem?_map] at e1
      obtain ⟨tt, e2, rfl⟩ := Option.map_eq_some_iff.mp e1
      obtain ⟨pr1, r1, r2, r3, rfl, hpr, rr1, rr2, rr3⟩ := ((f.trans f0).fz fe).tup3
      obtain rfl := rr1.str_inv
      refine s_gt (SqT.of hpr) rfl ?_
      walk_at "st"
      refine ⟨rfl, ?_⟩
      have e3 : d.told.take (i + 1) = d.told.take i ++ [tt] := by rw [List.take_succ, e2]; rfl
      walk_at "st"
      by_cases hdd : tt.deed = ("read" : Str)
      · rw [decide_eq_true (show V.str tt.deed = V.str "read" by rw [hdd])]
        walk_at "st"
        refine no _ .refl ?_ trivial
        rw [e3, wrote_snoc, if_pos hdd, List.append_nil]
      · rw [decide_eq_false (show ¬ V.str tt.deed = V.str "read" from fun z => hdd (V.str.inj z))]
        walk_at "st"
        refine yes _ _ (kyD tt.key) .refl ?_ rr2 trivial
        rw [e3, wrote_snoc, if_neg hdd, List.map_append]
        rfl
    · intro D' H' acc hD _ f hacc facc
      rw [lt, List.take_length] at facc
      exact q D' acc H' f hD hacc facc
theorem topOf_mem (kf : Int → Int) {m : Int} : ∀ (ns : List Int) (b : Option Int), ns.foldl (fun b n => match b with | none => some n | some m => if kf n > kf m then some n else some m) b = some m → m ∈ ns ∨ b = some m
  | [], b, h => .inr h
  | n :: ns, b, h => by
    rcases topOf_mem kf ns _ h with h | h
    · exact .inl (List.mem_cons_of_mem _ h)
    · cases b with
      | none => cases h; exact .inl List.mem_cons_self
      | some k =>
        dsimp only at h
        split at h
        · cases h; exact .inl List.mem_cons_self
        · exact .inr h
theorem sc__law_last : FnScope ["_law_world", "_law_key", "_law_row", "_law_found", "_law_number", "_law_deal"] ["_law_world", "_law_key", "_law_row"] (defScope s__law_last) := ⟨rfl, rfl, rfl, by decide +kernel, rfl, by decide +kernel, by decide +kernel⟩
def sp__law_last (TT : List (Addr × Str)) : Sp := fun vs H Q E => ∃ (w : Addr) (ps : List (Addr × Addr)) (b : Bk) (k : Nat) (ds : List D) (u : V) (key : Ky) (r : Nat), vs = [.ref w, u, .int r] ∧ WdAt H w ps ds ∧ BkOk b ∧ (∀ e ∈ ds, DOk b k e) ∧ Fz H u (kyD key) ∧ KyOk b key ∧
  ∀ H', Fr TT [] H H' [] → Q (topV (lastW ds key r)) H'
theorem k__law_last {fd : FuncData} (T : Tx K mg) (F : FunD K "_law_last" "_law_last" (defArgs s__law_last) (defBody s__law_last) (defScope s__law_last) [] [] (He.ga K "_law_last") fd) (h__law_wrote : Cn P w K mg base 1 (He.ga K "_law_wrote") ["_law_deal"] (sp__law_wrote TT)) : Cn P w K mg base 2 (He.ga K "_law_last") ["_law_world", "_law_key", "_law_row"] (sp__law_last TT) := by
  refine cn_of F sc__law_last (fun vs H Q E h => ?_) (fun _ _ _ _ _ _ us hl => match us, hl with | [_, _, _], _ => rfl) fun cdv A' outer s' H vs Q E hr h => ?_
  · obtain ⟨w, ps, b, k, ds, u, key, r, rfl, _⟩ := h
    rfl
  · obtain ⟨w, ps, b, k, ds, u, key, r, rfl, hs, B, ok, hu, hk, q⟩ := h
    refine ⟨_, PSs.nox (pss_cons (ps_set (i := 3) sc__law_last.nd rfl (by first | exact Or.inl rfl | exact Or.inr rfl) pe_non) (pss_cons (ps_for PassesOwn.never rfl (pi_enum rfl T.f_enumerate (pa_cons (pv 0) pa_nil)) (pg_tup rfl (pgs_cons (pg_name (i := 4) sc__law_last.nd rfl (by first | exact Or.inl rfl | exact Or.inr rfl)) (pgs_cons (pg_name (i := 5) sc__law_last.nd rfl (by first | exact Or.inl rfl | exact Or.inr rfl)) pgs_nil))) (pss_one (ps_if (PW.pt (pw_and (pt_cmpR op_eq (pe_dget (hu_of hr) (pv 5) pe_str fun _ _ => rfl) pe_str (nomark _)) (pw_and (pt_cmpR op_lt (pe_dget (hu_of hr) (pv 5) pe_str fun _ _ => rfl) (pv 2) (nomark _)) (pw_and1 (pt_cmpR (op_inD (hu65 hr)) (pv 1) (pe_cn h__law_wrote (hr.mono (by decide)) rfl T.g__law_wrote passL (pa_cons (pv 5) pa_nil)) (by first | rfl | exact nomark _)))))) (pss_one (ps_if (PW.pt (pw_or (pt_cmp (pc_isN (pv 3))) (pw_or1 (pt_cmpR op_lt (pe_dget (hu_of hr) (pe_ix ix_list (pv 0) (pv 3) fun _ _ => rfl) pe_str fun _ _ => rfl) (pe_dget (hu_of hr) (pv 5) pe_str fun _ _ => rfl) (nomark _))))) (pss_one (ps_set (i := 3) sc__law_last.nd rfl (by first | exact Or.inl rfl | exact Or.inr rfl) (pv 4))) pss_nil)) pss_nil))) (pss_one (ps_ret (pv 3))))), ?_⟩
    try dsimp only [cxOf]
    walk_at "st"
    refine s_IeR (SqL.of hs.wl) ?_
    refine forJ (T := TT) (gives_enum (xs := ps.map fun p => V.ref p.1)) (fun i σ H' => ∃ a1 a2, σ = [some (.ref w), some u, some (.int r), some (topV (topOf (kfD ds) (cands ds key r i))), a1, a2] ∧ Fr TT [] H H' []) ⟨_, _, rfl, .refl⟩ ?_ ?_ ?_
    · rintro i σ H' hi ⟨a1, a2, rfl, f⟩
      exact f.sqL (SqL.of hs.wl) (by simp)
    · rintro i x σ H' H'' hi ⟨a1, a2, rfl, f⟩ f0 ⟨tp, xi, rfl, htp, hx⟩
      rw [List.getElem?_map] at hx
      obtain ⟨p, ep, rfl⟩ := Option.map_eq_some_iff.mp hx
      obtain ⟨e, ee⟩ := deal_of ep hs.len
      have fH : Fr TT [] H H'' [] := f.trans f0
      have hsH := hs.fr fH (by simp)
      have he := hsH.at_ i p e ep ee
      have oke := ok e (List.mem_of_getElem? ee)
      obtain ⟨kv, ha, _⟩ := id he.ex
      have ecand : cand ds key r i = (decide (e.word = .stands) && gone e.ended r && decide (key ∈ wrote e)) := by unfold cand; rw [ee]
      have no : cand ds key r i = false → ∀ H3, Fr TT [] H'' H3 [] → ∃ a1 a2, ([some (.ref w), some u, some (.int r), some (topV (topOf (kfD ds) (cands ds key r i))), some (.int i), some (.ref p.1)] : L2.St) = [some (.ref w), some u, some (.int r), some (topV (topOf (kfD ds) (cands ds key r (i + 1)))), a1, a2] ∧ Fr TT [] H H3 [] := fun h0 H3 f3 =>
        ⟨_, _, by rw [cands_succ, h0, if_neg Bool.false_ne_true, List.append_nil], fH.trans f3⟩
      refine s_gt (SqT.of htp) rfl ?_
      walk_at "st"
      refine s_DgetW ha rfl ?_
      walk_at "st"
      by_cases hw : e.word = .stands
      · rw [hw] at ecand
        obtain ⟨en, hen, _⟩ := (oke.en.resolve_left fun z => by rw [hw] at z; exact nomatch z.1).2
        rw [hen] at ecand
        have ha' := ha
        rw [hw, hen] at ha'
        rw [hw, decide_eq_true (show V.str Wd.stands.s = V.str "stands" from rfl)]
        walk_at "st"
        refine s_DgetW ha' rfl ?_
        walk_at "st"
        refine s_I0 ?_
        walk_at "st"
        by_cases hlt : en < r
        · rw [decide_eq_true (show (en : Int) < (r : Int) by omega)]
          walk_at "st"
          refine ⟨p.1, p.2, e, rfl, he, Nat.le_trans (told_le B oke) (by decide), fun l2 xs H3 f3 _ hl3 fx => ?_⟩
          refine s_inKy (hk.str B) (wrote_ok B oke) ((fH.trans f3).fz hu) (SqL.of hl3) fx ?_
          walk_at "st"
          cases hin : decide (key ∈ wrote e) with
          | true =>
            rw [hin] at ecand
            have ecand2 : cand ds key r i = true := by rw [ecand]; simp [gone, hlt]
            have etop := topOf_snoc (kfD ds) (cands ds key r i) i
            rw [show cands ds key r i ++ [(i : Int)] = cands ds key r (i + 1) by rw [cands_succ, ecand2, if_pos rfl]] at etop
            walk_at "st"
            cases ht : topOf (kfD ds) (cands ds key r i) with
            | none =>
              rw [ht] at etop
              rw [decide_eq_true (show topV none = V.non from rfl)]
              walk_at "st"
              exact ⟨_, _, by rw [etop]; rfl, fH.trans f3⟩
            | some m =>
              rw [ht] at etop
              rw [decide_eq_false (show ¬ topV (some m) = V.non from fun z => nomatch z)]
              have hm : m ∈ cands ds key r i := (topOf_mem _ _ _ ht).resolve_right fun z => nomatch z
              obtain ⟨j, hj, rfl⟩ := List.mem_map.mp hm
              obtain ⟨hjr, hc⟩ := List.mem_filter.mp hj
              have hji : j < i := by simpa using hjr
              have hj2 : j < ds.length := Nat.lt_trans hji (List.getElem?_eq_some_iff.mp ee).1
              have ee2 : ds[j]? = some ds[j] := List.getElem?_eq_getElem hj2
              obtain ⟨p2, ep2⟩ := pair_of ee2 hs.len
              have hs3 := hsH.fr f3 (by simp)
              obtain ⟨kv2, ha2, _⟩ := id (hs3.at_ j p2 _ ep2 ee2).ex
              have hw2 : ds[j].word = .stands := by
                unfold cand at hc
                rw [ee2] at hc
                simp only [decide_eq_true_eq, Bool.and_eq_true] at hc
                exact hc.1.1
              obtain ⟨en2, hen2, _⟩ := ((ok ds[j] (List.getElem_mem hj2)).en.resolve_left fun z => by rw [hw2] at z; exact nomatch z.1).2
              rw [hen2] at ha2
              have k1 : kfD ds (i : Int) = en := by
                unfold kfD
                rw [show ((i : Int)).toNat = i from rfl, ee]
                show ((e.ended.getD 0 : Nat) : Int) = _
                rw [hen]; rfl
              have k2 : kfD ds (j : Int) = en2 := by
                unfold kfD
                rw [show ((j : Int)).toNat = j from rfl, ee2]
                show ((ds[j].ended.getD 0 : Nat) : Int) = _
                rw [hen2]; rfl
              dsimp only at etop
              rw [k1, k2] at etop
              walk_at "st"
              refine s_ixL (SqL.of hs3.wl) (atI_nat (v := .ref p2.1) (by rw [List.getElem?_map, ep2]; rfl)) ?_
              walk_at "st"
              refine s_DgetW ha2 rfl ?_
              walk_at "st"
              obtain ⟨kv3, ha3, _⟩ := id (hs3.at_ i p e ep ee).ex
              rw [hen] at ha3
              refine s_DgetW ha3 rfl ?_
              refine s_I0 ?_
              by_cases hle : en2 < en
              · rw [decide_eq_true (show (en2 : Int) < (en : Int) by omega)]
                rw [if_pos (show (en : Int) > (en2 : Int) by omega)] at etop
                walk_at "st"
                exact ⟨_, _, by rw [etop]; rfl, fH.trans f3⟩
              · rw [decide_eq_false (show ¬ (en2 : Int) < (en : Int) by omega)]
                rw [if_neg (show ¬ (en : Int) > (en2 : Int) by omega)] at etop
                walk_at "st"
                exact ⟨_, _, by rw [etop]; rfl, fH.trans f3⟩
          | false =>
            rw [hin] at ecand
            walk_at "st"
            exact no (by rw [ecand]; simp) _ f3
        · rw [decide_eq_false (show ¬ (en : Int) < (r : Int) by omega)]
          walk_at "st"
          exact no (by rw [ecand]; simp [gone, hlt]) _ .refl
      · rw [decide_eq_false (st_ne hw)]
        walk_at "st"
        exact no (by rw [ecand, decide_eq_false hw]; simp) _ .refl
    · rintro σ H' ⟨a1, a2, rfl, f⟩
      rw [List.length_map, hs.len]
      walk_at "st"
      exact q _ f
theorem sc__law_is_off : FnScope ["_law_world", "_law_deal", "_law_other", "_law_key"] ["_law_world", "_law_deal"] (defScope s__law_is_off) := ⟨rfl, rfl, rfl, by decide +kernel, rfl, by decide +kernel, by decide +kernel⟩
def sp__law_is_off (TT : List (Addr × Str)) : Sp := fun vs H Q E => ∃ (w : Addr) (ps : List (Addr × Addr)) (b : Bk) (k : Nat) (ds : List D) (n : Nat) (p : Addr × Addr) (d : D), vs = [.ref w, .ref p.1] ∧ WdAt H w ps ds ∧ BkOk b ∧ (∀ e ∈ ds, DOk b k e) ∧ ds[n]? = some d ∧ ps[n]? = some p ∧ ∀ H', Fr TT [] H H' [] → Q (.bl (isOff ds d)) H'
theorem k__law_is_off {fd : FuncData} (T : Tx K mg) (F : FunD K "_law_is_off" "_law_is_off" (defArgs s__law_is_off) (defBody s__law_is_off) (defScope s__law_is_off) [] [] (He.ga K "_law_is_off") fd) (h__law_wrote : Cn P w K mg base 1 (He.ga K "_law_wrote") ["_law_deal"] (sp__law_wrote TT)) : Cn P w K mg base 2 (He.ga K "_law_is_off") ["_law_world", "_law_deal"] (sp__law_is_off TT) := by
  refine cn_of F sc__law_is_off (fun vs H Q E h => ?_) (fun _ _ _ _ _ _ us hl => match us, hl with | [_, _], _ => rfl) fun cdv A' outer s' H vs Q E hr h => ?_
  · obtain ⟨w, ps, b, k, ds, n, p, d, rfl, _⟩ := h
    rfl
  · obtain ⟨w, ps, b, k, ds, n, p, d, rfl, hs, B, ok, ed, ep0, q⟩ := h
    have okd := ok d (List.mem_of_getElem? ed)
    refine ⟨_, PSs.nox (pss_cons (ps_for PassesOwn.never rfl (pi_list (pv 0)) (pg_name (i := 2) sc__law_is_off.nd rfl (by first | exact Or.inl rfl | exact Or.inr rfl)) (pss_one (ps_if (PW.pt (pw_and (pt_cmpR op_eq (pe_dget (hu_of hr) (pv 2) pe_str fun _ _ => rfl) pe_str (nomark _)) (pw_and1 (pt_cmpR op_gt (pe_dget (hu_of hr) (pv 2) pe_str fun _ _ => rfl) (pe_dget (hu_of hr) (pv 1) pe_str fun _ _ => rfl) (nomark _))))) (pss_one (ps_if (pt_cmpR (op_neD hr.units) (pe_lc (own := [("_law_key", 3)]) (g := (gName 3)) rfl sc__law_is_off.nd (pi_list (pe_cn h__law_wrote (hr.mono (by decide)) rfl T.g__law_wrote passL (pa_cons (pv 2) pa_nil))) (blkOk_by (N := ["_law_world", "_law_deal", "_law_other", "_law_key"]) (sc := defScope s__law_is_off) (by decide +kernel)) (fun _ _ _ _ _ => (pg_name (i := 3) sc__law_is_off.nd rfl (by first | exact Or.inl rfl | exact Or.inr rfl))) (fun _ _ _ _ _ => (pts_one (pt_cmpR (op_inDK (K := K) rfl (hu65 hr)) (pv 3) (pe_cn h__law_wrote (hr.mono (by decide)) rfl T.g__law_wrote passL (pa_cons (pv 1) pa_nil)) (by first | rfl | exact nomark _)))) (fun _ _ _ _ _ => (pv 3))) (pe_lst pa_nil) (nomark _)) (pss_one (ps_ret pe_bl)) pss_nil)) pss_nil))) (pss_one (ps_ret pe_bl))), ?_⟩
    try dsimp only [cxOf]
    walk_at "st"
    refine s_IlR (SqL.of hs.wl) ?_
    refine forJ (T := TT) (gives_list (xs := ps.map fun p => V.ref p.1)) (fun i σ H' => ∃ a1, σ = [some (.ref w), some (.ref p.1), a1, none] ∧ Fr TT [] H H' [] ∧ ((ds.take i).any fun e => decide (e.word = .stands) && late e.ended d.begun && (wrote e).any fun k => decide (k ∈ wrote d)) = false) ⟨_, rfl, .refl, by simp⟩ ?_ ?_ ?_
    · rintro i σ H' hi ⟨a1, rfl, f, _⟩
      exact f.sqL (SqL.of hs.wl) (by simp)
    · rintro i x σ H' H'' hi ⟨a1, rfl, f, hno⟩ f0 hx
      rw [List.getElem?_map] at hx
      obtain ⟨r, er, rfl⟩ := Option.map_eq_some_iff.mp hx
      obtain ⟨e, ee⟩ := deal_of er hs.len
      have fH : Fr TT [] H H'' [] := f.trans f0
      have hsH := hs.fr fH (by simp)
      have he := hsH.at_ i r e er ee
      have hdH := hsH.at_ n p d ep0 ed
      have oke := ok e (List.mem_of_getElem? ee)
      obtain ⟨kv, ha, _⟩ := id he.ex
      obtain ⟨kv2, ha2, _⟩ := id hdH.ex
      have etake : ds.take (i + 1) = ds.take i ++ [e] := by rw [List.take_succ, ee]; rfl
      have next : (decide (e.word = .stands) && late e.ended d.begun && (wrote e).any fun k => decide (k ∈ wrote d)) = false → ∀ H3, Fr TT [] H H3 [] → ∃ a1, ([some (.ref w), some (.ref p.1), some (.ref r.1), none] : L2.St) = [some (.ref w), some (.ref p.1), a1, none] ∧ Fr TT [] H H3 [] ∧ ((ds.take (i + 1)).any fun e => decide (e.word = .stands) && late e.ended d.begun && (wrote e).any fun k => decide (k ∈ wrote d)) = false := fun h0 H3 f3 => ⟨_, rfl, f3, by rw [etake, List.any_append, hno, List.any_cons, h0]; rfl⟩
      walk_at "st"
      refine s_DgetW ha rfl ?_
      walk_at "st"
      by_cases hw : e.word = .stands
      · rw [hw, decide_eq_true (show V.str Wd.stands.s = V.str "stands" from rfl)]
        rw [hw] at next ha
        obtain ⟨en, hen, _⟩ := (oke.en.resolve_left fun z => by rw [hw] at z; exact nomatch z.1).2
        rw [hen] at next ha
        walk_at "st"
        refine s_DgetW ha rfl ?_
        walk_at "st"
        refine s_DgetW ha2 rfl ?_
        refine s_I0 ?_
        by_cases hl : d.begun < en
        · rw [decide_eq_true (show (d.begun : Int) < (en : Int) by omega)]
          walk_at "st"
          refine ⟨r.1, r.2, e, rfl, he, Nat.le_trans (told_le B oke) (by decide), fun l xs H1 f1 _ hl1 fx => ?_⟩
          have lx := fx.length
          rw [List.length_map] at lx
          have hd1 := (hsH.fr f1 (by simp)).at_ n p d ep0 ed
          have w8 : (wrote e).length ≤ 8 := Nat.le_trans wrote_le (told_le B oke)
          refine s_IlR (SqL.of hl1) ?_
          refine lcJ (T := TT) (gives_list (xs := xs)) [] (fun _ _ => True) (fun i => (((wrote e).take i).filter fun k => decide (k ∈ wrote d)).map kyD) (fun _ z => nomatch z) trivial (by simp) (fun _ _ _ _ _ _ => trivial) (fun i H' _ f => f.sqL (SqL.of hl1) (by simp)) (fun i => ?_) ?_ ?_
          · have h1 := List.length_filter_le (fun k : Ky => decide (k ∈ wrote d)) ((wrote e).take i)
            rw [List.length_take] at h1
            rw [List.length_map]
            omega
          · intro j y H2 H2' hj _ f2 f20 hy Y N yes no
            obtain ⟨kd, ekd, fk⟩ := fx.of hy
            rw [List.getElem?_map] at ekd
            obtain ⟨ky, ek, rfl⟩ := Option.map_eq_some_iff.mp ekd
            have hd2 := hd1.fr (f2.trans f20) (by simp) (by simp)
            have etk : (wrote e).take (j + 1) = (wrote e).take j ++ [ky] := by rw [List.take_succ, ek]; rfl
            walk_at "st"
            refine ⟨rfl, ?_⟩
            walk_at "st"
            refine ⟨p.1, p.2, d, rfl, hd2, Nat.le_trans (told_le B okd) (by decide), fun l2 xs2 H3 f3 _ hl2 fx2 => ?_⟩
            refine s_inKy (wrote_ok B oke _ (List.mem_of_getElem? ek)) (wrote_ok B okd) ((f2.trans (f20.trans f3)).fz fk) (SqL.of hl2) fx2 ?_
            by_cases hin : ky ∈ wrote d
            · rw [decide_eq_true hin]
              walk_at "st"
              refine yes _ _ (kyD ky) f3 ?_ ((f2.trans (f20.trans f3)).fz fk) trivial
              rw [etk, List.filter_append, List.map_append]
              simp [List.filter, hin]
            · rw [decide_eq_false hin]
              walk_at "st"
              refine no _ f3 ?_ trivial
              rw [etk, List.filter_append, List.map_append]
              simp [List.filter, hin]
          · intro D' H2 acc hD _ f2 hacc facc
            rw [lx, List.take_length] at facc
            walk_at "st"
            refine s_newL (by simp) fun l0 H3 n3 => ?_
            have oks : ∀ k ∈ (wrote e).filter (fun k => decide (k ∈ wrote d)), PyData.strOk k.1 = true := fun k hk => wrote_ok B oke k (List.mem_filter.mp hk).1
            refine s_neD (.lst (SqL.of (n3.old hacc)) (((n3.fr (T := TT) (fp := [])).fza facc).dp)) (.lst (SqL.of n3.at) .nil) (kyDs_shaped oks) nil_shaped ?_
            rw [eqv_nilL]
            have fe : Fr TT [] H H3 [] := ((fH.trans f1).trans f2).trans n3.fr
            have eany : (wrote e).any (fun k => decide (k ∈ wrote d)) = !(((wrote e).filter fun k => decide (k ∈ wrote d)).map kyD).isEmpty := by
              rw [List.isEmpty_map]
              cases h : (wrote e).any (fun k => decide (k ∈ wrote d)) with
              | true =>
                obtain ⟨k, hk, hk2⟩ := List.any_eq_true.mp h
                have : k ∈ (wrote e).filter fun k => decide (k ∈ wrote d) := List.mem_filter.mpr ⟨hk, hk2⟩
                cases h2 : (wrote e).filter fun k => decide (k ∈ wrote d) with
                | nil => rw [h2] at this; exact nomatch this
                | cons _ _ => rfl
              | false =>
                have h3 := List.any_eq_false.mp h
                rw [List.filter_eq_nil_iff.mpr fun k hk => h3 k hk]
                rfl
            rw [← eany]
            cases ha5 : (wrote e).any (fun k => decide (k ∈ wrote d)) with
            | true =>
              walk_at "st"
              have e5 : isOff ds d = true := by
                unfold isOff
                rw [List.any_eq_true]
                refine ⟨e, List.mem_of_getElem? ee, ?_⟩
                rw [hw, hen]
                simp only [decide_true, Bool.true_and, late]
                rw [decide_eq_true hl, Bool.true_and]
                exact ha5
              rw [← e5]
              exact q _ fe
            | false =>
              walk_at "st"
              exact next (by rw [ha5, Bool.and_false]) _ fe
        · rw [decide_eq_false (show ¬ (d.begun : Int) < (en : Int) by omega)]
          walk_at "st"
          exact next (by simp [late, hl]) _ fH
      · rw [decide_eq_false (st_ne hw)]
        walk_at "st"
        exact next (by rw [decide_eq_false hw]; rfl) _ fH
    · rintro σ H' ⟨a1, rfl, f, hno⟩
      walk_at "st"
      rw [List.length_map, hs.len, List.take_length] at hno
      have e5 : isOff ds d = false := hno
      rw [← e5]
      exact q _ f
theorem sc__law_state_text : FnScope ["_law_world", "_law_deal"] ["_law_world"] (defScope s__law_state_text) := ⟨rfl, rfl, rfl, by decide +kernel, rfl, by decide +kernel, by decide +kernel⟩
def sp__law_state_text (TT : List (Addr × Str)) : Sp := fun vs H Q E => ∃ (w : Addr) (ps : List (Addr × Addr)) (ds : List D), vs = [.ref w] ∧ WdAt H w ps ds ∧ ds.length ≤ 40 ∧ ∀ H', Fr TT [] H H' [] → Q (.str (Txt.join " " (ds.map fun d => d.word.s))) H'
theorem k__law_state_text {fd : FuncData} (T : Tx K mg) (F : FunD K "_law_state_text" "_law_state_text" (defArgs s__law_state_text) (defBody s__law_state_text) (defScope s__law_state_text) [] [] (He.ga K "_law_state_text") fd) : Cn P w K mg base 1 (He.ga K "_law_state_text") ["_law_world"] (sp__law_state_text TT) := by
  refine cn_of F sc__law_state_text (fun vs H Q E h => ?_) (fun _ _ _ _ _ _ us hl => match us, hl with | [_], _ => rfl) fun cdv A' outer s' H vs Q E hr h => ?_
  · obtain ⟨w, ps, ds, rfl, _⟩ := h
    rfl
  · obtain ⟨w, ps, ds, rfl, hs, h40, q⟩ := h
    refine ⟨_, PSs.nox (pss_one (ps_ret (pe_joinQ rfl rfl rfl pe_str (pe_lc (own := [("_law_deal", 1)]) (g := (gName 1)) (tt := tYes) rfl sc__law_state_text.nd (pi_list (pv 0)) (blkOk_by (N := ["_law_world", "_law_deal"]) (sc := defScope s__law_state_text) (by decide +kernel)) (fun _ _ _ _ _ => (pg_name (i := 1) sc__law_state_text.nd rfl (by first | exact Or.inl rfl | exact Or.inr rfl))) (fun _ _ _ _ _ => pts_nil) (fun _ _ _ _ _ => (pe_dget (hu_of hr) (pv 1) pe_str fun _ _ => rfl)))))), ?_⟩
    try dsimp only [cxOf]
    walk_at "st"
    refine ⟨⟨_, rfl⟩, ?_⟩
    walk_at "st"
    refine s_IlR (SqL.of hs.wl) ?_
    refine lcJ (T := TT) (gives_list (xs := ps.map fun p => V.ref p.1)) [] (fun _ _ => True) (fun i => ((ds.map fun d => d.word.s).map PyData.str).take i) (fun _ z => nomatch z) trivial (by simp) (fun _ _ _ _ _ _ => trivial) (fun i H' _ f => f.sqL (SqL.of hs.wl) (by simp)) (fun i => ?_) ?_ ?_
    · simp; omega
    · intro i x H' H'' hi _ f f0 hx' Y N yes no
      rw [List.getElem?_map] at hx'
      obtain ⟨p, ep, rfl⟩ := Option.map_eq_some_iff.mp hx'
      obtain ⟨d, ed⟩ := deal_of ep hs.len
      obtain ⟨kv, ha, _⟩ := ((hs.fr (f.trans f0) (by simp)).at_ i p d ep ed).ex
      walk_at "st"
      refine ⟨rfl, ?_⟩
      walk_at "st"
      refine s_DgetW ha rfl ?_
      refine yes _ _ (.str d.word.s) .refl ?_ (.str _) trivial
      rw [List.take_succ, List.getElem?_map, List.getElem?_map, ed]
      rfl
    · intro D' H' acc hD _ f hacc facc
      rw [show (ps.map fun p => V.ref p.1).length = ((ds.map fun d => d.word.s).map PyData.str).length from by simp [hs.len], List.take_length] at facc
      rw [FzA.strs_eq facc] at hacc
      refine s_join (SqL.of hacc) ?_ (q _ f)
      have h1 : ((ds.map fun d => d.word.s).map (·.length)).sum ≤ (ds.map fun d => d.word.s).length * 6 := sum_le fun y hy => by
        obtain ⟨d, _, rfl⟩ := List.mem_map.mp hy
        cases d.word <;> decide +kernel
      rw [List.length_map] at h1 ⊢
      have h2 : (" " : Str).length = 1 := rfl
      rw [h2]
      omega
end
end K28
/-! ## K28f3 -/
namespace K28
set_option maxHeartbeats 3900000
open L2 LamX PySem PySem.Spec PyProof.Rows
local macro_rules | `(tactic| walk_at "st") => `(tactic| repeat (first
  | with_reducible refine s_seq ?_ | with_reducible refine s_ret ?_ | with_reducible refine s_retN ?_ | with_reducible refine s_drop ?_ | with_reducible refine s_asg ?_ | with_reducible refine s_gn ?_ | with_reducible refine s_nextq ?_
  | ((with_reducible apply s_var); exact rfl) | with_reducible refine s_c ?_ | with_reducible refine s_op ?_ | with_reducible refine s_I0 ?_ | ((with_reducible refine s_eq ?_ ?_); exact rfl) | ((with_reducible refine s_ne ?_ ?_); exact rfl)
  | with_reducible refine s_test ?_ | with_reducible refine s_tB ?_ | with_reducible refine s_bl ?_ | with_reducible refine s_and ?_ | with_reducible refine s_or ?_ | with_reducible refine s_not ?_ | with_reducible refine s_andV ?_ | with_reducible refine s_orV ?_ | with_reducible refine s_notV ?_
  | with_reducible refine s_blP ?_ | with_reducible refine s_ifS ?_ | with_reducible refine s_nil ?_ | with_reducible refine s_cons ?_ | with_reducible refine s_cb ?_ | with_reducible refine s_call ?_ | with_reducible refine s_tup ?_ | with_reducible refine s_lst ?_
  | with_reducible refine s_isN ?_ | with_reducible refine s_notN ?_ | with_reducible refine s_un ?_ | with_reducible refine s_U ?_ | with_reducible refine s_fld ?_ | with_reducible refine s_put ?_ | with_reducible refine s_meth ?_ | with_reducible refine s_gc ?_ | with_reducible refine s_g0 ?_
  | with_reducible refine s_dz ?_ | with_reducible refine s_make ?_ | with_reducible refine s_m1 ?_ | with_reducible refine s_chain ?_ | with_reducible refine s_iZ ?_ | with_reducible refine s_dput ?_ | with_reducible refine s_dget ?_ | with_reducible refine s_din ?_ | with_reducible refine s_lc ?_ | with_reducible refine s_for ?_ | with_reducible refine s_iL ?_ | with_reducible refine s_iE ?_ | with_reducible refine s_iR1 ?_ | with_reducible refine s_iR2 ?_ | with_reducible refine s_yes ?_
  | with_reducible refine s_frz ?_ | with_reducible refine s_bm ?_ | with_reducible refine s_bm0 ?_ | with_reducible refine s_iff ?_ | with_reducible refine s_ift ?_ | with_reducible refine s_ifnt ?_ | with_reducible refine s_ifnf ?_
  | with_reducible refine s_iT ?_ | with_reducible refine s_iS ?_ | with_reducible refine s_sl ?_ | with_reducible refine s_npart ?_ | with_reducible refine s_part ?_ | with_reducible refine s_PrtR ?_ | with_reducible refine s_pp0 ?_ | with_reducible refine s_pp ?_ | with_reducible refine s_sub ?_ | with_reducible refine s_callS ?_))
section
variable {P : Program} {w : World} {K : PySem.W.Frag} {mg : Str → Option Value} {base : Heap} {TT : List (Addr × Str)}
/-! ### the world's deeds -/
theorem WlAt.toldNe {H : Hp} {a tl : Addr} {d : D} (h : WlAt H a tl d) : a ≠ tl := by
  obtain ⟨kv, ha, _⟩ := h.ex
  obtain ⟨ts, ht, _⟩ := h.sl
  exact ne_of ha ht (by intro z; cases z)
theorem WlAt.putT {H H' : Hp} {a tl : Addr} {d : D} {xs : List V} {ts : List Tl} (h : WlAt H a tl d) (c : Ch H H' tl (.lst xs)) (fx : FzA H xs (ts.map tlD)) : WlAt H' a tl { d with told := ts } := by
  have ne := h.toldNe
  obtain ⟨kv, ha, f1⟩ := h.ex
  obtain ⟨zs, ht, _⟩ := h.sl
  have i := c.imm ht trivial
  exact ⟨⟨kv, c.old ha ne, f1.keep i⟩, xs, c.at, fx.keep i⟩
theorem WdAt.inT {H H1 : Hp} {w : Addr} {ps : List (Addr × Addr)} {ds : List D} {x : D} {n : Nat} {p : Addr × Addr} {T : List (Addr × Str)} (h : WdAt H w ps ds) (e : ps[n]? = some p) (f : Fr T [p.2] H H1 [p.2]) (q : WlAt H1 p.1 p.2 x) : WdAt H1 w ps (ds.set n x) ∧ Fr T (wfp w ps) H H1 (wfp w ps) :=
  ⟨h.setD e (fun c o _ n2 ec m => f.get ec (by simpa using n2) m) f.imm q, f.up (by simp only [List.mem_singleton]; rintro c rfl; exact wm2 e)⟩
theorem WdAt.inD {H H1 : Hp} {w : Addr} {ps : List (Addr × Addr)} {ds : List D} {x : D} {n : Nat} {p : Addr × Addr} {T : List (Addr × Str)} (h : WdAt H w ps ds) (e : ps[n]? = some p) (f : Fr T [p.1] H H1 [p.1]) (q : WlAt H1 p.1 p.2 x) : WdAt H1 w ps (ds.set n x) ∧ Fr T (wfp w ps) H H1 (wfp w ps) :=
  ⟨h.setD e (fun c o n1 _ ec m => f.get ec (by simpa using n1) m) f.imm q, f.up (by simp only [List.mem_singleton]; rintro c rfl; exact wm1 e)⟩
theorem stepOf_cases {b : Bk} {ds : List D} {n : Nat} {d : D} : ((stepOf b ds n d).deed = ("write" : Str) ∧ (stepOf b ds n d).seen = none) ∨ ((stepOf b ds n d).deed ≠ ("write" : Str) ∧ (stepOf b ds n d).key ∈ wrote d ∧ (stepOf b ds n d).seen = some (n : Int)) ∨ ((stepOf b ds n d).deed ≠ ("write" : Str) ∧ (stepOf b ds n d).key ∉ wrote d ∧ (stepOf b ds n d).seen = lastW ds (stepOf b ds n d).key d.begun) := by
  unfold stepOf
  dsimp only
  by_cases h1 : (((dlOf b d.di).steps[d.told.length]?).getD ("", "")).1 = ("write" : Str)
  · exact .inl ⟨h1, if_pos h1⟩
  · by_cases h2 : keyOf (dlOf b d.di) d.keys (((dlOf b d.di).steps[d.told.length]?).getD ("", "")).2 ∈ wrote d
    · exact .inr (.inl ⟨h1, h2, by rw [if_neg h1, if_pos h2]⟩)
    · exact .inr (.inr ⟨h1, h2, by rw [if_neg h1, if_neg h2]⟩)
/-- the place of a text among different texts -/
theorem s_indexS {K : PySem.W.Frag} {H : Hp} {Q : VK} {a : Addr} {xs : List V} {names : List Str} {j : Nat} {l : Str} (nd : names.Nodup) (h : SqL K H a xs) (ex : xs = names.map V.str) (hj : names[j]? = some l) (q : Q (.int (j : Nat)) H) : rIndex K (.ref a) [.str l] H Q := by
  subst ex
  refine s_index (z := .str l) h rfl ?_ (by rw [List.getElem?_map, hj]; rfl) (by simp [eqV]) (fun m z' hm hz => ?_) q
  · rw [List.all_map]
    exact List.all_eq_true.2 fun _ _ => rfl
  · rw [List.getElem?_map] at hz
    obtain ⟨y, ey, rfl⟩ := Option.map_eq_some_iff.mp hz
    show (y == l) = false
    rw [beq_eq_false_iff_ne]
    rintro rfl
    obtain ⟨l1, e1⟩ := List.getElem?_eq_some_iff.mp ey
    obtain ⟨l2, e2⟩ := List.getElem?_eq_some_iff.mp hj
    have := (List.getElem_inj nd).mp (e1.trans e2.symm)
    omega
theorem sc__law_step : FnScope ["_law_book_here", "_law_world", "_law_number", "_law_deal", "_law_name", "_law_letters", "_law_steps_here", "_law_deed", "_law_mark", "_law_key", "_law_seen", "_law_letter", "_law_kind_here"] ["_law_book_here", "_law_world", "_law_number"] (defScope s__law_step) := ⟨rfl, rfl, rfl, by decide +kernel, rfl, by decide +kernel, by decide +kernel⟩
def sp__law_step (TT : List (Addr × Str)) : Sp := fun vs H Q E => ∃ (v : V) (b : Bk) (w : Addr) (ps : List (Addr × Addr)) (k : Nat) (ds : List D) (n : Nat) (d : D), vs = [v, .ref w, .int n] ∧ Fz H v (bkD b) ∧ WdAt H w ps ds ∧ BkOk b ∧ (∀ e ∈ ds, DOk b k e) ∧ ds[n]? = some d ∧ d.told.length < (dlOf b d.di).steps.length ∧
  ∀ v' H', Fr TT (wfp w ps) H H' (wfp w ps) → WdAt H' w ps (atN ds n fun d => { d with told := d.told ++ [stepOf b ds n d] }) → Fz H' v' (tlD (stepOf b ds n d)) → Q v' H'
theorem k__law_step {fd : FuncData} (T : Tx K mg) (F : FunD K "_law_step" "_law_step" (defArgs s__law_step) (defBody s__law_step) (defScope s__law_step) [] [] (He.ga K "_law_step") fd) (h__law_wrote : Cn P w K mg base 1 (He.ga K "_law_wrote") ["_law_deal"] (sp__law_wrote TT)) (h__law_last : Cn P w K mg base 2 (He.ga K "_law_last") ["_law_world", "_law_key", "_law_row"] (sp__law_last TT)) : Cn P w K mg base 3 (He.ga K "_law_step") ["_law_book_here", "_law_world", "_law_number"] (sp__law_step TT) := by
  refine cn_of F sc__law_step (fun vs H Q E h => ?_) (fun _ _ _ _ _ _ us hl => match us, hl with | [_, _, _], _ => rfl) fun cdv A' outer s' H vs Q E hr h => ?_
  · obtain ⟨v, b, w, ps, k, ds, n, d, rfl, _⟩ := h
    rfl
  · obtain ⟨v, b, w, ps, k, ds, n, d, rfl, hv, hs, B, ok, ed, hl, q⟩ := h
    obtain ⟨p, hp⟩ := pair_of ed hs.len
    have oke := ok d (List.mem_of_getElem? ed)
    have hd := hs.at_ n p d hp ed
    obtain ⟨kv, ha, fkv⟩ := id hd.ex
    obtain ⟨ts, hts, fts⟩ := id hd.sl
    have lts := fts.length
    rw [List.length_map] at lts
    obtain ⟨kp, ko, kxs, rfl, hkp, fkx⟩ := fkv.lst_inv
    obtain ⟨bp, x, y, rfl, hbp, f1, f2⟩ := hv.tup2
    obtain ⟨py, oy, ys, rfl, hy, fy⟩ := f2.lst_inv
    obtain ⟨e1, m1⟩ := dlOf_mem oke.di
    obtain ⟨dv, edv, fdv⟩ := fy.at (i := d.di) (d := dlD (dlOf b d.di)) (by rw [List.getElem?_map, e1]; rfl)
    obtain ⟨pd, z1, z2, z3, rfl, hpd, g1, g2, g3⟩ := fdv.tup3
    obtain ⟨pz, oz, zs, rfl, hz, fz⟩ := g2.lst_inv
    obtain ⟨pr, orr, rs, rfl, hrr, frr⟩ := g3.lst_inv
    have lz := fz.length
    rw [List.length_map] at lz
    have e2 : (dlOf b d.di).steps[d.told.length]? = some (dlOf b d.di).steps[d.told.length] := List.getElem?_eq_getElem hl
    have e3 : stepOf b ds n d = ⟨(dlOf b d.di).steps[d.told.length].1, keyOf (dlOf b d.di) d.keys (dlOf b d.di).steps[d.told.length].2, (stepOf b ds n d).seen⟩ := by
      unfold stepOf
      rw [e2]
      rfl
    have mst := B.st _ m1 _ (List.getElem_mem hl)
    have kok := stepOf_ok (n := n) (ds := ds) B oke hl
    have key3 := stepOf_cases (b := b) (ds := ds) (n := n) (d := d)
    obtain ⟨sv, esv, fsv⟩ := frr.at (i := d.told.length) (d := prS (dlOf b d.di).steps[d.told.length]) (by rw [List.getElem?_map, e2]; rfl)
    generalize (dlOf b d.di).steps[d.told.length] = st at e3 mst fsv
    obtain ⟨sp, s1, s2, rfl, hsp, t1, t2⟩ := fsv.tup2
    obtain rfl := t1.str_inv
    obtain rfl := t2.str_inv
    obtain ⟨_, ekey⟩ := keyOf_mem mst oke.ks.length
    have eidx : ((dlOf b d.di).lets.map (·.1))[((dlOf b d.di).lets.map (·.1)).idxOf st.2]? = some st.2 := by
      rw [List.getElem?_eq_getElem (List.idxOf_lt_length_of_mem mst), List.getElem_idxOf]
    obtain ⟨kv, ekv, fkv⟩ := fkx.at (d := kyD (keyOf (dlOf b d.di) d.keys st.2)) (by rw [List.getElem?_map, ekey]; rfl)
    have ed1 : st.1 = (stepOf b ds n d).deed := by rw [e3]
    have ed2 : keyOf (dlOf b d.di) d.keys st.2 = (stepOf b ds n d).key := by rw [e3]
    rw [ed2] at fkv
    rw [ed1] at hsp
    refine ⟨_, PSs.nox (pss_cons (ps_set (i := 3) sc__law_step.nd rfl (by first | exact Or.inl rfl | exact Or.inr rfl) (pe_ix ix_list (pv 1) (pv 2) fun _ _ => rfl)) (pss_cons (ps_asg (pe_ix ix_list (pe_ix ix_tup (pv 0) pe_int fun _ _ => rfl) (pe_dget (hu_of hr) (pv 3) pe_str fun _ _ => rfl) fun _ _ => rfl) (pg_tup rfl (pgs_cons (pg_name (i := 4) sc__law_step.nd rfl (by first | exact Or.inl rfl | exact Or.inr rfl)) (pgs_cons (pg_name (i := 5) sc__law_step.nd rfl (by first | exact Or.inl rfl | exact Or.inr rfl)) (pgs_cons (pg_name (i := 6) sc__law_step.nd rfl (by first | exact Or.inl rfl | exact Or.inr rfl)) pgs_nil))))) (pss_cons (ps_asg (pe_ix ix_list (pv 6) (pe_callB call_lenQ rfl T.f_len (by decide +kernel) (pa_cons (pe_dget (hu_of hr) (pv 3) pe_str fun _ _ => rfl) pa_nil)) fun _ _ => rfl) (pg_tup rfl (pgs_cons (pg_name (i := 7) sc__law_step.nd rfl (by first | exact Or.inl rfl | exact Or.inr rfl)) (pgs_cons (pg_name (i := 8) sc__law_step.nd rfl (by first | exact Or.inl rfl | exact Or.inr rfl)) pgs_nil)))) (pss_cons (ps_set (i := 9) sc__law_step.nd rfl (by first | exact Or.inl rfl | exact Or.inr rfl) (pe_ix ix_list (pe_dget (hu_of hr) (pv 3) pe_str fun _ _ => rfl) (pe_bm PySem.F.plainAttrs_list PySem.F.slot_list_index PySem.F.type_list_index mt_index (pe_lc (own := [("_law_letter", 11), ("_law_kind_here", 12)]) (g := (gTup K 2 (gCons (gName 11) (gCons (gName 12) gNil)))) (tt := tYes) rfl sc__law_step.nd (pi_list (pv 5)) (blkOk_by (N := ["_law_book_here", "_law_world", "_law_number", "_law_deal", "_law_name", "_law_letters", "_law_steps_here", "_law_deed", "_law_mark", "_law_key", "_law_seen", "_law_letter", "_law_kind_here"]) (sc := defScope s__law_step) (by decide +kernel)) (fun _ _ _ _ _ => (pg_tup rfl (pgs_cons (pg_name (i := 11) sc__law_step.nd rfl (by first | exact Or.inl rfl | exact Or.inr rfl)) (pgs_cons (pg_name (i := 12) sc__law_step.nd rfl (by first | exact Or.inl rfl | exact Or.inr rfl)) pgs_nil)))) (fun _ _ _ _ _ => pts_nil) (fun _ _ _ _ _ => (pv 11))) (pa_cons (pv 8) pa_nil)) fun _ _ => rfl)) (pss_cons (ps_set (i := 10) sc__law_step.nd rfl (by first | exact Or.inl rfl | exact Or.inr rfl) pe_non) (pss_cons (ps_if (pt_cmpR op_ne (pv 7) pe_str (nomark _)) (pss_cons (ps_set (i := 10) sc__law_step.nd rfl (by first | exact Or.inl rfl | exact Or.inr rfl) (pv 2)) (pss_one (ps_if (pt_cmpR (op_notInD (hu65 hr)) (pv 9) (pe_cn h__law_wrote (hr.mono (by decide)) rfl T.g__law_wrote passL (pa_cons (pv 3) pa_nil)) (by first | rfl | exact nomark _)) (pss_one (ps_set (i := 10) sc__law_step.nd rfl (by first | exact Or.inl rfl | exact Or.inr rfl) (pe_cn h__law_last (hr.mono (by decide)) rfl T.g__law_last passL (pa_cons (pv 1) (pa_cons (pv 9) (pa_cons (pe_dget (hu_of hr) (pv 3) pe_str fun _ _ => rfl) pa_nil)))))) pss_nil))) pss_nil) (pss_cons (ps_expr (pe_bm PySem.F.plainAttrs_list PySem.F.slot_list_append PySem.F.type_list_append mt_append (pe_dget (hu_of hr) (pv 3) pe_str fun _ _ => rfl) (pa_cons (pe_tup (pa_cons (pv 7) (pa_cons (pv 9) (pa_cons (pv 10) pa_nil)))) pa_nil))) (pss_one (ps_ret (pe_tup (pa_cons (pv 7) (pa_cons (pv 9) (pa_cons (pv 10) pa_nil))))))))))))), ?_⟩
    try dsimp only [cxOf]
    walk_at "st"
    refine s_ixL (SqL.of hs.wl) (atI_nat (v := .ref p.1) (by rw [List.getElem?_map, hp]; rfl)) ?_
    walk_at "st"
    refine s_ixT (SqT.of hbp) atI_lit1 ?_
    walk_at "st"
    refine s_DgetW ha rfl ?_
    refine s_ixL (sqF hy) (atI_nat edv) ?_
    refine s_gt (SqT.of hpd) rfl ?_
    walk_at "st"
    refine s_DgetW ha rfl ?_
    walk_at "st"
    refine s_lenL (SqL.of hts) ?_
    refine s_ixL (sqF hrr) (by rw [lts]; exact atI_nat esv) ?_
    refine s_gt (SqT.of hsp) rfl ?_
    walk_at "st"
    refine s_DgetW ha rfl ?_
    walk_at "st"
    refine s_IlR (sqF hz) ?_
    refine lcJ (T := TT) (gives_list (xs := zs)) [] (fun _ _ => True) (fun i => ((((dlOf b d.di).lets.map (·.1)).take i).map PyData.str)) (fun _ z => nomatch z) trivial (by simp) (fun _ _ _ _ _ _ => trivial) (fun i H' _ f => sqF (f.frz hz)) (fun i => ?_) ?_ ?_
    · have := B.l0 _ m1
      simp only [List.length_map, List.length_take]
      omega
    · intro i x H' H'' hi _ f f0 hx' Y N yes no
      obtain ⟨ed', e1', fe⟩ := fz.of hx'
      rw [List.getElem?_map] at e1'
      obtain ⟨pp, e2', rfl⟩ := Option.map_eq_some_iff.mp e1'
      obtain ⟨pt, r1, r2, rfl, hpt, rr1, rr2⟩ := ((f.trans f0).fz fe).tup2
      obtain rfl := rr1.str_inv
      refine s_gt (SqT.of hpt) rfl ?_
      walk_at "st"
      refine ⟨rfl, ?_⟩
      walk_at "st"
      refine yes _ _ (.str pp.1) .refl ?_ (.str _) trivial
      rw [List.take_succ, List.getElem?_map, e2', List.map_append]
      rfl
    · intro D' H1 acc hD _ f1' hacc facc
      rw [lz, show (dlOf b d.di).lets.length = ((dlOf b d.di).lets.map (·.1)).length by rw [List.length_map], List.take_length] at facc
      refine ⟨s_tyL hacc, ?_⟩
      walk_at "st"
      refine s_indexS (B.ln _ m1) (SqL.of hacc) (FzA.strs_eq facc) eidx ?_
      refine s_ixL (sqF (f1'.frz hkp)) (atI_nat ekv) ?_
      walk_at "st"
      have fk1 := f1'.fz fkv
      have hs1 := hs.fr f1' (by simp)
      rcases key3 with ⟨hw1, hsn⟩ | ⟨hw1, hkw, hsn⟩ | ⟨hw1, hkw, hsn⟩
      rw [decide_eq_true (show V.str (stepOf b ds n d).deed = V.str "write" by rw [hw1])]
      walk_at "st"
      have H3e : ∃ H3, H3 = H1 := ⟨H1, rfl⟩
      obtain ⟨H3, e3⟩ := H3e
      have f3 : Fr TT [] H1 H3 [] := by rw [e3]; exact .refl
      rw [← e3]
      clear e3
      have fsv : Fz H3 V.non (opD (stepOf b ds n d).seen) := by rw [hsn]; exact .non
      rotate_left
      rw [decide_eq_false (show ¬ V.str (stepOf b ds n d).deed = V.str "write" from fun z => hw1 (V.str.inj z))]
      walk_at "st"
      refine ⟨p.1, p.2, d, rfl, hs1.at_ n p d hp ed, Nat.le_trans (told_le B oke) (by decide), fun l2 xs H3 f3 _ hl3 fx => ?_⟩
      refine s_notInKy (kok.str B) (wrote_ok B oke) (f3.fz fk1) (SqL.of hl3) fx ?_
      walk_at "st"
      rw [decide_eq_true hkw]
      walk_at "st"
      have fsv : Fz H3 (V.int n) (opD (stepOf b ds n d).seen) := by rw [hsn]; exact .int _
      rotate_left
      rw [decide_eq_false (show ¬ V.str (stepOf b ds n d).deed = V.str "write" from fun z => hw1 (V.str.inj z))]
      walk_at "st"
      refine ⟨p.1, p.2, d, rfl, hs1.at_ n p d hp ed, Nat.le_trans (told_le B oke) (by decide), fun l2 xs H2 f2 _ hl3 fx => ?_⟩
      refine s_notInKy (kok.str B) (wrote_ok B oke) (f2.fz fk1) (SqL.of hl3) fx ?_
      walk_at "st"
      rw [decide_eq_false hkw]
      walk_at "st"
      have hs2 := hs1.fr f2 (by simp)
      obtain ⟨kv2, ha2, _⟩ := id (hs2.at_ n p d hp ed).ex
      refine s_DgetW ha2 rfl ?_
      walk_at "st"
      refine ⟨w, ps, b, k, ds, _, (stepOf b ds n d).key, d.begun, rfl, hs2, B, ok, f2.fz fk1, kok, fun H3 f23 => ?_⟩
      walk_at "st"
      have f3 : Fr TT [] H1 H3 [] := f2.trans f23
      have fsv : Fz H3 (topV (lastW ds (stepOf b ds n d).key d.begun)) (opD (stepOf b ds n d).seen) := by rw [hsn]; exact Fz.top _ _
      rotate_left
      all_goals
        have hs3 := hs1.fr f3 (by simp)
        have hd3 := hs3.at_ n p d hp ed
        obtain ⟨kv3, ha3, _⟩ := id hd3.ex
        obtain ⟨ts, hts, fts⟩ := id hd3.sl
        have lts := fts.length
        rw [List.length_map] at lts
        have t8 := told_le B oke
        refine s_DgetW ha3 rfl ?_
        refine ⟨s_tyL hts, ?_⟩
        walk_at "st"
        refine s_newT (by simp) fun tp H4 n4 => ?_
        walk_at "st"
        refine s_appC (n4.old hts) (by omega) fun H5 c5 => ?_
        walk_at "st"
        have hd4 := hd3.fr (n4.fr (T := TT) (fp := [])) (by simp) (by simp)
        have hs4 := hs3.fr (n4.fr (T := TT) (fp := [])) (by simp)
        have ft4 : Fz H4 (.ref tp) (tlD (stepOf b ds n d)) := .tup n4.at (.cons (.str _) (.cons (n4.fz (f3.fz fk1)) (.cons (n4.fz fsv) .nil)))
        have hd5 := hd4.putT (ts := d.told ++ [stepOf b ds n d]) c5 (by rw [List.map_append]; exact (((n4.fr (T := TT) (fp := [])).fza fts)).snoc ft4)
        obtain ⟨hs5, f45⟩ := hs4.inT (T := TT) hp (c5.fr (n4.old hts) trivial (by simp)) hd5
        refine s_newT (by simp) fun tz H8 n8 => ?_
        have f38 : Fr TT (wfp w ps) H3 H8 (wfp w ps) := (n4.fr.trans f45).trans n8.fr
        have f08 : Fr TT (wfp w ps) H H8 (wfp w ps) := ((f1'.trans f3).up (by simp)).trans f38
        refine q _ H8 f08 ?_ (.tup n8.at (.cons (.str _) (.cons (f38.fz (f3.fz fk1)) (.cons (f38.fz fsv) .nil))))
        rw [atN_some ed]
        exact hs5.fr (n8.fr (T := TT) (fp := [])) (by simp)
end
end K28
/-! ## K28f4 -/
namespace K28
set_option maxHeartbeats 3900000
open L2 LamX PySem PySem.Spec PyProof.Rows
local macro_rules | `(tactic| walk_at "st") => `(tactic| repeat (first
  | with_reducible refine s_seq ?_ | with_reducible refine s_ret ?_ | with_reducible refine s_retN ?_ | with_reducible refine s_drop ?_ | with_reducible refine s_asg ?_ | with_reducible refine s_gn ?_ | with_reducible refine s_nextq ?_
  | ((with_reducible apply s_var); exact rfl) | with_reducible refine s_c ?_ | with_reducible refine s_op ?_ | with_reducible refine s_I0 ?_ | ((with_reducible refine s_eq ?_ ?_); exact rfl) | ((with_reducible refine s_ne ?_ ?_); exact rfl)
  | with_reducible refine s_test ?_ | with_reducible refine s_tB ?_ | with_reducible refine s_bl ?_ | with_reducible refine s_and ?_ | with_reducible refine s_or ?_ | with_reducible refine s_not ?_ | with_reducible refine s_andV ?_ | with_reducible refine s_orV ?_ | with_reducible refine s_notV ?_
  | with_reducible refine s_blP ?_ | with_reducible refine s_ifS ?_ | with_reducible refine s_nil ?_ | with_reducible refine s_cons ?_ | with_reducible refine s_cb ?_ | with_reducible refine s_call ?_ | with_reducible refine s_tup ?_ | with_reducible refine s_lst ?_
  | with_reducible refine s_isN ?_ | with_reducible refine s_notN ?_ | with_reducible refine s_un ?_ | with_reducible refine s_U ?_ | with_reducible refine s_fld ?_ | with_reducible refine s_put ?_ | with_reducible refine s_meth ?_ | with_reducible refine s_gc ?_ | with_reducible refine s_g0 ?_
  | with_reducible refine s_dz ?_ | with_reducible refine s_make ?_ | with_reducible refine s_m1 ?_ | with_reducible refine s_chain ?_ | with_reducible refine s_iZ ?_ | with_reducible refine s_dput ?_ | with_reducible refine s_dget ?_ | with_reducible refine s_din ?_ | with_reducible refine s_lc ?_ | with_reducible refine s_for ?_ | with_reducible refine s_iL ?_ | with_reducible refine s_iE ?_ | with_reducible refine s_iR1 ?_ | with_reducible refine s_iR2 ?_ | with_reducible refine s_yes ?_
  | with_reducible refine s_frz ?_ | with_reducible refine s_bm ?_ | with_reducible refine s_bm0 ?_ | with_reducible refine s_iff ?_ | with_reducible refine s_ift ?_ | with_reducible refine s_ifnt ?_ | with_reducible refine s_ifnf ?_
  | with_reducible refine s_iT ?_ | with_reducible refine s_iS ?_ | with_reducible refine s_sl ?_ | with_reducible refine s_npart ?_ | with_reducible refine s_part ?_ | with_reducible refine s_PrtR ?_ | with_reducible refine s_pp0 ?_ | with_reducible refine s_pp ?_ | with_reducible refine s_sub ?_ | with_reducible refine s_callS ?_))
section
variable {P : Program} {w : World} {K : PySem.W.Frag} {mg : Str → Option Value} {base : Heap} {TT : List (Addr × Str)}
/-! ### a deed done -/
def retD (b : Bk) (ds : List D) : Row → PyData
  | .beg _ _ => .int ds.length
  | .stp n => match ds[n]? with
    | some d => tlD (stepOf b ds n d)
    | none => .none
  | .fin n => match ds[n]? with
    | some d => .bool (!isOff ds d)
    | none => .none
  | .drp _ => .none
theorem WdAt.pushD {H H' : Hp} {w a sl : Addr} {ps : List (Addr × Addr)} {ds : List D} {d : D} (h : WdAt H w ps ds) (c : Ch H H' w (.lst ((ps.map fun p => V.ref p.1) ++ [.ref a]))) (q : WlAt H a sl d) (na : a ∉ wfp w ps) (ns : sl ∉ wfp w ps) : WdAt H' w (ps ++ [(a, sl)]) (ds ++ [d]) := by
  have nas := q.toldNe
  have i : ImK H H' := c.imm h.wl trivial
  have nd := h.nd
  unfold wfp at nd na ns
  simp only [List.mem_cons, List.mem_append, not_or] at na ns
  rw [List.nodup_cons, List.nodup_append] at nd
  obtain ⟨n0, n1, n2, n3⟩ := nd
  simp only [List.mem_append, not_or] at n0
  have ne : ∀ {c : Addr}, c ∈ ps.map (·.1) ∨ c ∈ ps.map (·.2) → c ≠ w := fun hc z => by
    subst z
    exact hc.elim n0.1 n0.2
  refine ⟨by rw [List.map_append]; exact c.at, by simp [h.len], fun j r x ej ex => ?_, ?_⟩
  · by_cases hj : j < ds.length
    · rw [List.getElem?_append_left (by rw [h.len]; exact hj)] at ej
      rw [List.getElem?_append_left hj] at ex
      exact (h.at_ j r x ej ex).keep (fun o e _ => c.old e (ne (.inl (mem1 ej)))) (fun o e _ => c.old e (ne (.inr (mem2 ej)))) i
    · have hj2 : j = ds.length := by
        have := (List.getElem?_eq_some_iff.mp ex).1
        simp at this
        omega
      subst hj2
      rw [← h.len] at ej
      simp at ej ex
      subst ej ex
      exact q.keep (fun o e _ => c.old e na.1) (fun o e _ => c.old e ns.1) i
  · unfold wfp
    simp only [List.map_append, List.map_cons, List.map_nil]
    rw [List.nodup_cons, List.nodup_append, List.nodup_append, List.nodup_append]
    simp only [List.mem_append, List.mem_singleton, not_or]
    refine ⟨⟨⟨n0.1, fun z => na.1 z.symm⟩, n0.2, fun z => ns.1 z.symm⟩, ⟨n1, by simp, fun x hx y hy z => by subst hy; exact na.2.1 (z ▸ hx)⟩, ⟨n2, by simp, fun x hx y hy z => by subst hy; exact ns.2.2 (z ▸ hx)⟩, ?_⟩
    rintro x (hx | rfl) y (hy | rfl)
    · exact n3 x hx y hy
    · exact fun z => ns.2.1 (z ▸ hx)
    · exact fun z => na.2.2 (z ▸ hy)
    · exact nas
theorem s_DputE {H : Hp} {a : Addr} {kvs kvs' : List (Key × V)} {s : Str} {v : V} {P : Hp → Prop} (h : H a = some (.dK kvs)) (e : putK kvs (.inr s) v = kvs') (z : kvs.length < 1000000) (q : ∀ H', Ch H H' a (.dK kvs') → P H') : DputR v (.ref a) (.str s) H P := s_DputS h z fun H' c => q H' (by rw [e] at c; exact c)
theorem sc__law_do : FnScope ["_law_book_here", "_law_world", "_law_rows", "_law_row", "_law_number", "_law_deal", "_law_stands", "_law_one"] ["_law_book_here", "_law_world", "_law_rows", "_law_row"] (defScope s__law_do) := ⟨rfl, rfl, rfl, by decide +kernel, rfl, by decide +kernel, by decide +kernel⟩
def sp__law_do (TT : List (Addr × Str)) : Sp := fun vs H Q E => ∃ (v u : V) (b : Bk) (w l : Addr) (ps : List (Addr × Addr)) (rs : List Row) (ds : List D) (r : Row), vs = [v, .ref w, .ref l, u] ∧ Fz H v (bkD b) ∧ WdAt H w ps ds ∧ LsF H l (rs.map (rwD b)) ∧ Fz H u (rwD b r) ∧ BkOk b ∧ Ok b rs ds ∧ Can b ds r ∧ rs.length < 1000 ∧ l ∉ wfp w ps ∧
  ∀ v' ps' H', Fr TT (l :: wfp w ps) H H' (l :: wfp w ps') → WdAt H' w ps' (doD b ds rs.length r) → LsF H' l ((rs ++ [r]).map (rwD b)) → l ∉ wfp w ps' → Fz H' v' (retD b ds r) → Q v' H'
theorem k__law_do {fd : FuncData} (T : Tx K mg) (F : FunD K "_law_do" "_law_do" (defArgs s__law_do) (defBody s__law_do) (defScope s__law_do) [] [] (He.ga K "_law_do") fd) (h__law_step : Cn P w K mg base 3 (He.ga K "_law_step") ["_law_book_here", "_law_world", "_law_number"] (sp__law_step TT)) (h__law_is_off : Cn P w K mg base 2 (He.ga K "_law_is_off") ["_law_world", "_law_deal"] (sp__law_is_off TT)) : Cn P w K mg base 4 (He.ga K "_law_do") ["_law_book_here", "_law_world", "_law_rows", "_law_row"] (sp__law_do TT) := by
  refine cn_of F sc__law_do (fun vs H Q E h => ?_) (fun _ _ _ _ _ _ us hl => match us, hl with | [_, _, _, _], _ => rfl) fun cdv A' outer s' H vs Q E hr h => ?_
  · obtain ⟨v, u, b, w, l, ps, rs, ds, r, rfl, _⟩ := h
    rfl
  · obtain ⟨v, u, b, w, l, ps, rs, ds, r, rfl, hv, hs, ⟨ls, hl, fl⟩, hu, B, ok, can, hlen, nl, q⟩ := h
    obtain ⟨h40, okd⟩ := ok.inv B
    have ll := fl.length
    rw [List.length_map] at ll
    refine ⟨_, PSs.nox (pss_cons (ps_expr (pe_bm PySem.F.plainAttrs_list PySem.F.slot_list_append PySem.F.type_list_append mt_append (pv 2) (pa_cons (pv 3) pa_nil))) (pss_cons (ps_if (pt_cmpR op_eq (pe_ix ix_tup (pv 3) pe_int fun _ _ => rfl) pe_str (nomark _)) (pss_cons (ps_set (i := 4) sc__law_do.nd rfl (by first | exact Or.inl rfl | exact Or.inr rfl) (pe_bm PySem.F.plainAttrs_list PySem.F.slot_list_index PySem.F.type_list_index mt_index (pe_lc (own := [("_law_one", 7)]) (g := (gName 7)) (tt := tYes) rfl sc__law_do.nd (pi_list (pe_ix ix_tup (pv 0) pe_int fun _ _ => rfl)) (blkOk_by (N := ["_law_book_here", "_law_world", "_law_rows", "_law_row", "_law_number", "_law_deal", "_law_stands", "_law_one"]) (sc := defScope s__law_do) (by decide +kernel)) (fun _ _ _ _ _ => (pg_name (i := 7) sc__law_do.nd rfl (by first | exact Or.inl rfl | exact Or.inr rfl))) (fun _ _ _ _ _ => pts_nil) (fun _ _ _ _ _ => (pe_ix (ix_tupK (K := K) rfl) (pv 7) pe_int fun _ _ => rfl))) (pa_cons (pe_ix ix_tup (pv 3) pe_int fun _ _ => rfl) pa_nil))) (pss_cons (ps_set (i := 5) sc__law_do.nd rfl (by first | exact Or.inl rfl | exact Or.inr rfl) (pe_disp (pps_cons pe_str (pv 4) (pps_cons pe_str (pe_frz (pe_callTy call_listQ rfl T.f_list (by decide +kernel) (pa_cons (pe_ix ix_tup (pv 3) pe_int fun _ _ => rfl) pa_nil))) (pps_cons pe_str (pe_op op_sub (pe_callB call_lenQ rfl T.f_len (by decide +kernel) (pa_cons (pv 2) pa_nil)) pe_int) (pps_cons pe_str pe_non (pps_cons pe_str pe_str pps_nil))))) rfl rfl (by simp) (by decide))) (pss_cons (ps_dput (hu_of hr) (pv 5) pe_str (pe_lst pa_nil) rfl) (pss_cons (ps_expr (pe_bm PySem.F.plainAttrs_list PySem.F.slot_list_append PySem.F.type_list_append mt_append (pv 1) (pa_cons (pv 5) pa_nil))) (pss_one (ps_ret (pe_op op_sub (pe_callB call_lenQ rfl T.f_len (by decide +kernel) (pa_cons (pv 1) pa_nil)) pe_int))))))) pss_nil) (pss_cons (ps_if (pt_cmpR op_eq (pe_ix ix_tup (pv 3) pe_int fun _ _ => rfl) pe_str (nomark _)) (pss_one (ps_ret (pe_cn h__law_step (hr.mono (by decide)) rfl T.g__law_step passL (pa_cons (pv 0) (pa_cons (pv 1) (pa_cons (pe_ix ix_tup (pv 3) pe_int fun _ _ => rfl) pa_nil)))))) pss_nil) (pss_cons (ps_set (i := 5) sc__law_do.nd rfl (by first | exact Or.inl rfl | exact Or.inr rfl) (pe_ix ix_list (pv 1) (pe_ix ix_tup (pv 3) pe_int fun _ _ => rfl) fun _ _ => rfl)) (pss_cons (ps_set (i := 6) sc__law_do.nd rfl (by first | exact Or.inl rfl | exact Or.inr rfl) (pe_and (pe_cmpR op_eq (pe_ix ix_tup (pv 3) pe_int fun _ _ => rfl) pe_str (nomark _)) (pe_one (pe_not (pe_cn h__law_is_off (hr.mono (by decide)) rfl T.g__law_is_off passL (pa_cons (pv 1) (pa_cons (pv 5) pa_nil))))))) (pss_cons (ps_dput (hu_of hr) (pv 5) pe_str (pe_op op_sub (pe_callB call_lenQ rfl T.f_len (by decide +kernel) (pa_cons (pv 2) pa_nil)) pe_int) rfl) (pss_cons (ps_dput (hu_of hr) (pv 5) pe_str (pe_ix ix_list (pe_lst (pa_cons pe_str (pa_cons pe_str pa_nil))) (pe_callTy call_intQ rfl T.f_int (by decide +kernel) (pa_cons (pv 6) pa_nil)) fun _ _ => rfl) rfl) (pss_one (ps_ret (pe_ix ix_list (pe_lst (pa_cons pe_non (pa_cons (pv 6) pa_nil))) (pe_callTy call_intQ rfl T.f_int (by decide +kernel) (pa_cons (pe_cmpR op_eq (pe_ix ix_tup (pv 3) pe_int fun _ _ => rfl) pe_str (nomark _)) pa_nil)) fun _ _ => rfl)))))))))), ?_⟩
    try dsimp only [cxOf]
    walk_at "st"
    refine ⟨s_tyL hl, ?_⟩
    walk_at "st"
    refine s_appC hl (by omega) fun H1 c1 => ?_
    have f1 : Fr TT [l] H H1 [l] := c1.fr hl trivial (by simp)
    have hs1 := hs.fr f1 fun b hb z => nl (by rw [List.mem_singleton] at z; rw [← z]; exact hb)
    have hu1 := f1.fz hu
    have hl1 : LsF H1 l ((rs ++ [r]).map (rwD b)) := ⟨_, c1.at, by rw [List.map_append]; exact (f1.fza fl).snoc hu1⟩
    have hv1 := f1.fz hv
    walk_at "st"
    have wl : w ≠ l := fun z => nl (by rw [← z]; exact wm0)
    cases r with
    | beg di ks =>
      obtain ⟨c1', c2, c3, c4⟩ := can
      obtain ⟨pv, xs, rfl, hpv, fx⟩ := hu1.tup_inv
      obtain ⟨bp, x, y, rfl, hbp, g1, g2⟩ := hv1.tup2
      obtain ⟨py, oy, ys, rfl, hy, fy⟩ := g2.lst_inv
      have ly := fy.length
      rw [List.length_map] at ly
      match xs, fx with
      | [_, _, _], .cons (.str _) (.cons (.str _) (.cons fk .nil)) =>
        obtain ⟨kp, ko, kxs, rfl, hkp, fkx⟩ := fk.lst_inv
        refine s_ixT (SqT.of hpv) atI_lit0 ?_
        walk_at "st"
        rw [decide_eq_true (show V.str ("begin" : Str) = V.str "begin" from rfl)]
        walk_at "st"
        refine s_ixT (SqT.of hbp) atI_lit1 ?_
        refine s_IlR (sqF hy) ?_
        refine lcJ (T := TT) (gives_list (xs := ys)) [] (fun _ _ => True) (fun i => ((b.deals.map (·.name)).take i).map PyData.str) (fun _ z => nomatch z) trivial (by simp) (fun _ _ _ _ _ _ => trivial) (fun i H' _ f => sqF (f.frz hy)) (fun i => ?_) ?_ ?_
        · have := B.d4
          simp only [List.length_map, List.length_take]
          omega
        · intro i x H' H'' hi _ f f0 hx' Y N yes no
          obtain ⟨d, ed, fd⟩ := deals_get fy hx'
          obtain ⟨pd, r1, r2, r3, rfl, hpd, rr1, _, _⟩ := ((f.trans f0).fz fd).tup3
          obtain rfl := rr1.str_inv
          walk_at "st"
          refine ⟨rfl, ?_⟩
          walk_at "st"
          refine s_ixT (SqT.of hpd) atI_lit0 ?_
          refine yes _ _ (.str d.name) .refl ?_ (.str _) trivial
          rw [List.take_succ, List.getElem?_map, ed, List.map_append]
          rfl
        · intro D' H2 acc hD _ f2 hacc facc
          rw [ly, show b.deals.length = (b.deals.map (·.name)).length by rw [List.length_map], List.take_length] at facc
          refine ⟨s_tyL hacc, ?_⟩
          walk_at "st"
          refine s_ixT (SqT.of (f2.tup hpv)) atI_lit1 ?_
          walk_at "st"
          refine s_indexS (j := di) (l := nmOf b di) B.dn (SqL.of hacc) (FzA.strs_eq facc) (by rw [List.getElem?_map, (dlOf_mem c1').1, nmOf_eq c1']; rfl) ?_
          walk_at "st"
          refine s_disp fun dp H3 n3 => ?_
          walk_at "st"
          have f13 : Fr TT [] H1 H3 [] := f2.trans n3.fr
          refine s_ixT (SqT.of (f13.tup hpv)) atI_lit2 ?_
          walk_at "st"
          refine s_list (sqF (f13.frz hkp)) fun g H4' n4' => s_frzN n4' trivial fun og H4 n4 => ?_
          walk_at "st"
          have f14 : Fr TT [] H1 H4 [] := f13.trans n4.fr
          have hl4 := f14.get c1.at (by simp) trivial
          refine s_lenL (SqL.of hl4) ?_
          walk_at "st"
          rw [List.length_append, List.length_singleton, ll, show ((rs.length + 1 : Nat) : Int) - 1 = (rs.length : Int) by omega]
          refine s_DspR [(.inr "deal", .int di), (.inr "keys", .ref g), (.inr "begun", .int rs.length), (.inr "ended", .non), (.inr "word", .str "open")] (n4.old n3.at) rfl (by show 5 ≤ 15; decide) rfl fun H5 c5 => ?_
          walk_at "st"
          refine s_newL (by simp) fun sl H6 n6 => ?_
          walk_at "st"
          refine s_DputS (n6.old c5.at) (by show 5 < 1000000; decide) fun H7 c7 => ?_
          walk_at "st"
          have hw4 := (hs1.fr f14 (by simp)).wl
          have nwd : w ≠ dp := ((f2.get hs1.wl (by simp) trivial) |> fun z => n3.ne z)
          have hw5 := c5.old hw4 nwd
          have hw7 := c7.old (n6.old hw5) nwd
          refine ⟨s_tyL hw7, ?_⟩
          walk_at "st"
          refine s_appC hw7 (by rw [List.length_map, hs.len]; omega) fun H8 c8 => ?_
          walk_at "st"
          refine s_lenL (SqL.of c8.at) ?_
          walk_at "st"
          rw [List.length_append, List.length_map, hs.len, List.length_singleton, show ((ds.length + 1 : Nat) : Int) - 1 = (ds.length : Int) by omega]
          -- the pictures
          have hdN : H1 dp = none := f2.dom dp n3.no
          have b45 : Fr TT [] H1 H5 [] := c5.back f14 hdN (n4.old n3.at) trivial
          have b46 : Fr TT [] H1 H6 [] := b45.trans n6.fr
          have b47 : Fr TT [] H1 H7 [] := c7.back b46 hdN (n6.old c5.at) trivial
          have i7 : ImK H6 H7 := c7.imm (n6.old c5.at) trivial
          have i5 : ImK H4 H5 := c5.imm (n4.old n3.at) trivial
          have hs7 := hs1.fr b47 (by simp)
          have kn := hs1.known
          have ndp : dp ∉ wfp w ps := fun z => by
            obtain ⟨o, e, _⟩ := kn dp z
            rw [hdN] at e; cases e
          have hsN : H1 sl = none := b45.dom sl n6.no
          have nsl : sl ∉ wfp w ps := fun z => by
            obtain ⟨o, e, _⟩ := kn sl z
            rw [hsN] at e; cases e
          have nds : dp ≠ sl := n6.ne c5.at
          have hsl7 : H7 sl = some (.lst []) := c7.old n6.at nds.symm
          have fkg : Fz H7 (.ref g) (.list (ks.map kyD)) := .lst (i7 _ _ (n6.old (i5 _ _ n4.at trivial)) trivial) (b47.fza fkx)
          have hd7 : WlAt H7 dp sl ⟨di, ks, rs.length, none, .opn, []⟩ := ⟨⟨_, c7.at, fkg⟩, [], hsl7, .nil⟩
          have hs8 := hs7.pushD c8 hd7 ndp nsl
          have fA : Fr TT (l :: wfp w ps) H H7 (sl :: dp :: l :: wfp w ps) := ((f1.up (gp := l :: wfp w ps) (by simp)).trans (b47.up (by simp))).more fun c hc => by
            obtain rfl | hc := List.mem_cons.mp hc
            · exact .inr (.inr (f1.dom _ hsN))
            obtain rfl | hc := List.mem_cons.mp hc
            · exact .inr (.inr (f1.dom _ hdN))
            · exact .inl hc
          have f78 : Fr TT (sl :: dp :: l :: wfp w ps) H7 H8 (sl :: dp :: l :: wfp w ps) := c8.fr hw7 trivial (List.mem_cons_of_mem _ (List.mem_cons_of_mem _ (List.mem_cons_of_mem _ wm0)))
          have hl8 := c8.old (b47.get c1.at (by simp) trivial) wl.symm
          have ndl : dp ≠ l := fun z => by rw [z] at hdN; rw [c1.at] at hdN; cases hdN
          have nsl2 : sl ≠ l := fun z => by rw [z] at hsN; rw [c1.at] at hsN; cases hsN
          have nl2 : l ∉ wfp w (ps ++ [(dp, sl)]) := by
            unfold wfp at nl ⊢
            simp only [List.map_append, List.map_cons, List.map_nil, List.mem_cons, List.mem_append, List.not_mem_nil, or_false, not_or] at nl ⊢
            exact ⟨nl.1, ⟨nl.2.1, ndl.symm⟩, nl.2.2, nsl2.symm⟩
          refine q _ _ H8 ((fA.trans f78).less fun c hc => ?_) hs8 ⟨_, hl8, ?_⟩ nl2 (.int _)
          · unfold wfp at hc ⊢
            simp only [List.map_append, List.map_cons, List.map_nil, List.mem_cons, List.mem_append, List.not_mem_nil, or_false] at hc ⊢
            rcases hc with h | h | (h | h) | (h | h) <;> simp [h]
          · rw [List.map_append]
            exact (((f1.fza fl).snoc hu1).keep b47.imm).keep f78.imm
    | stp n =>
      obtain ⟨d, ed, hw, hl2⟩ := can
      obtain ⟨pv, xs, rfl, hpv, fx⟩ := hu1.tup_inv
      match xs, fx with
      | [_, _], .cons (.str _) (.cons (.int _) .nil) =>
        refine s_ixT (SqT.of hpv) atI_lit0 ?_
        walk_at "st"
        rw [decide_eq_false (show ¬ V.str ("step" : Str) = V.str "begin" from fun z => absurd (V.str.inj z) (by decide +kernel))]
        walk_at "st"
        refine s_ixT (SqT.of hpv) atI_lit0 ?_
        walk_at "st"
        rw [decide_eq_true (show V.str ("step" : Str) = V.str "step" from rfl)]
        walk_at "st"
        refine s_ixT (SqT.of hpv) atI_lit1 ?_
        refine ⟨_, b, w, ps, rs.length, ds, n, d, rfl, hv1, hs1, B, okd, ed, hl2, fun v' H2 f2 hs2 fv => ?_⟩
        have f12 := f2.up (gp := l :: wfp w ps) fun c hc => List.mem_cons_of_mem _ hc
        refine q v' ps H2 ((f1.up (by simp)).trans f12) hs2 (hl1.fr f2 nl) nl ?_
        show Fz H2 v' (match ds[n]? with
          | some d => tlD (stepOf b ds n d)
          | none => .none)
        rw [ed]
        exact fv
    | fin n =>
      obtain ⟨d, ed, hw, ht⟩ := can
      obtain ⟨p, hp⟩ := pair_of ed hs.len
      obtain ⟨pv, xs, rfl, hpv, fx⟩ := hu1.tup_inv
      match xs, fx with
      | [_, _], .cons (.str _) (.cons (.int _) .nil) =>
        refine s_ixT (SqT.of hpv) atI_lit0 ?_
        walk_at "st"
        rw [decide_eq_false (show ¬ V.str ("end" : Str) = V.str "begin" from fun z => absurd (V.str.inj z) (by decide +kernel))]
        walk_at "st"
        refine s_ixT (SqT.of hpv) atI_lit0 ?_
        walk_at "st"
        rw [decide_eq_false (show ¬ V.str ("end" : Str) = V.str "step" from fun z => absurd (V.str.inj z) (by decide +kernel))]
        walk_at "st"
        refine s_ixT (SqT.of hpv) atI_lit1 ?_
        refine s_ixL (SqL.of hs1.wl) (atI_nat (v := .ref p.1) (by rw [List.getElem?_map, hp]; rfl)) ?_
        walk_at "st"
        refine s_ixT (SqT.of hpv) atI_lit0 ?_
        walk_at "st"
        rw [decide_eq_true (show V.str ("end" : Str) = V.str "end" from rfl)]
        walk_at "st"
        refine ⟨w, ps, b, rs.length, ds, n, p, d, rfl, hs1, B, okd, ed, hp, fun H2 f2 => ?_⟩
        walk_at "st"
        have hs2 := hs1.fr f2 (by simp)
        have hd2 := hs2.at_ n p d hp ed
        obtain ⟨kv, ha, fkv⟩ := id hd2.ex
        obtain ⟨ts, hts, fts⟩ := id hd2.sl
        have npq : p.2 ≠ p.1 := hd2.toldNe.symm
        have npl : p.1 ≠ l := fun z => nl (by rw [← z]; exact wm1 hp)
        refine s_lenL (SqL.of (f2.get c1.at (by simp) trivial)) ?_
        walk_at "st"
        rw [List.length_append, List.length_singleton, ll, show ((rs.length + 1 : Nat) : Int) - 1 = (rs.length : Int) by omega]
        refine s_DputE (kvs' := wdF d.di kv d.begun (some rs.length) d.word p.2) ha rfl (by show 6 < 1000000; decide) fun H3 c3 => ?_
        walk_at "st"
        refine s_newL (by simp) fun l4 H4 n4 => ?_
        walk_at "st"
        refine s_intB ?_
        refine s_ixL (v := .str (if !isOff ds d then Wd.stands else Wd.off).s) (SqL.of n4.at) (by cases isOff ds d <;> first | exact atI_lit1 | exact atI_lit0) ?_
        walk_at "st"
        refine s_DputE (kvs' := wdF d.di kv d.begun (some rs.length) (if !isOff ds d then Wd.stands else Wd.off) p.2) (n4.old c3.at) rfl (by show 6 < 1000000; decide) fun H5 c5 => ?_
        walk_at "st"
        refine s_newL (by simp) fun l6 H6 n6 => ?_
        walk_at "st"
        have i5 : Fr TT [p.1] H2 H5 [p.1] := ((c3.fr ha trivial (by simp)).trans n4.fr).trans (c5.fr (n4.old c3.at) trivial (by simp))
        have i6 : Fr TT [p.1] H2 H6 [p.1] := i5.trans n6.fr
        have i26 : Fr TT [] H2 H2 [] := .refl
        refine s_ixT (SqT.of (i6.tup (f2.tup hpv))) atI_lit0 ?_
        walk_at "st"
        rw [decide_eq_true (show V.str ("end" : Str) = V.str "end" from rfl)]
        refine s_intB ?_
        refine s_ixL (v := .bl (!isOff ds d)) (SqL.of n6.at) (by first | exact atI_lit1 | exact atI_lit0) ?_
        have hd6 : WlAt H6 p.1 p.2 { d with ended := some rs.length, word := if !isOff ds d then Wd.stands else Wd.off } := ⟨⟨kv, n6.old c5.at, i6.fz fkv⟩, ts, n6.old (c5.old (n4.old (c3.old hts npq)) npq), i6.fza fts⟩
        obtain ⟨hs6, g6⟩ := hs2.inD hp i6 hd6
        have f12 : Fr TT (l :: wfp w ps) H2 H6 (l :: wfp w ps) := g6.up fun c hc => List.mem_cons_of_mem _ hc
        refine q _ ps H6 (((f1.up (by simp)).trans (f2.up (by simp))).trans f12) ?_ ((hl1.fr f2 (by simp)).fr i6 (by simpa using npl.symm)) nl ?_
        · show WdAt H6 w ps (atN ds n fun d => { d with ended := some rs.length, word := if isOff ds d = true then .off else .stands })
          rw [atN_some ed]
          cases h : isOff ds d <;> rw [h] at hs6 <;> exact hs6
        · show Fz H6 (.bl (!isOff ds d)) (match ds[n]? with
            | some d => .bool (!isOff ds d)
            | none => .none)
          rw [ed]
          exact .bl _
    | drp n =>
      obtain ⟨d, ed, hw⟩ := can
      obtain ⟨p, hp⟩ := pair_of ed hs.len
      obtain ⟨pv, xs, rfl, hpv, fx⟩ := hu1.tup_inv
      match xs, fx with
      | [_, _], .cons (.str _) (.cons (.int _) .nil) =>
        refine s_ixT (SqT.of hpv) atI_lit0 ?_
        walk_at "st"
        rw [decide_eq_false (show ¬ V.str ("drop" : Str) = V.str "begin" from fun z => absurd (V.str.inj z) (by decide +kernel))]
        walk_at "st"
        refine s_ixT (SqT.of hpv) atI_lit0 ?_
        walk_at "st"
        rw [decide_eq_false (show ¬ V.str ("drop" : Str) = V.str "step" from fun z => absurd (V.str.inj z) (by decide +kernel))]
        walk_at "st"
        refine s_ixT (SqT.of hpv) atI_lit1 ?_
        refine s_ixL (SqL.of hs1.wl) (atI_nat (v := .ref p.1) (by rw [List.getElem?_map, hp]; rfl)) ?_
        walk_at "st"
        refine s_ixT (SqT.of hpv) atI_lit0 ?_
        walk_at "st"
        rw [decide_eq_false (show ¬ V.str ("drop" : Str) = V.str "end" from fun z => absurd (V.str.inj z) (by decide +kernel))]
        walk_at "st"
        obtain ⟨H2, e2⟩ : ∃ H2, H2 = H1 := ⟨H1, rfl⟩
        have f2 : Fr TT [] H1 H2 [] := by rw [e2]; exact .refl
        rw [← e2]
        clear e2
        have hs2 := hs1.fr f2 (by simp)
        have hd2 := hs2.at_ n p d hp ed
        obtain ⟨kv, ha, fkv⟩ := id hd2.ex
        obtain ⟨ts, hts, fts⟩ := id hd2.sl
        have npq : p.2 ≠ p.1 := hd2.toldNe.symm
        have npl : p.1 ≠ l := fun z => nl (by rw [← z]; exact wm1 hp)
        refine s_lenL (SqL.of (f2.get c1.at (by simp) trivial)) ?_
        walk_at "st"
        rw [List.length_append, List.length_singleton, ll, show ((rs.length + 1 : Nat) : Int) - 1 = (rs.length : Int) by omega]
        refine s_DputE (kvs' := wdF d.di kv d.begun (some rs.length) d.word p.2) ha rfl (by show 6 < 1000000; decide) fun H3 c3 => ?_
        walk_at "st"
        refine s_newL (by simp) fun l4 H4 n4 => ?_
        walk_at "st"
        refine s_intB ?_
        refine s_ixL (v := .str (if false then Wd.stands else Wd.off).s) (SqL.of n4.at) (by exact atI_lit0) ?_
        walk_at "st"
        refine s_DputE (kvs' := wdF d.di kv d.begun (some rs.length) (if false then Wd.stands else Wd.off) p.2) (n4.old c3.at) rfl (by show 6 < 1000000; decide) fun H5 c5 => ?_
        walk_at "st"
        refine s_newL (by simp) fun l6 H6 n6 => ?_
        walk_at "st"
        have i5 : Fr TT [p.1] H2 H5 [p.1] := ((c3.fr ha trivial (by simp)).trans n4.fr).trans (c5.fr (n4.old c3.at) trivial (by simp))
        have i6 : Fr TT [p.1] H2 H6 [p.1] := i5.trans n6.fr
        have i26 : Fr TT [] H2 H2 [] := .refl
        refine s_ixT (SqT.of (i6.tup (f2.tup hpv))) atI_lit0 ?_
        walk_at "st"
        rw [decide_eq_false (show ¬ V.str ("drop" : Str) = V.str "end" from fun z => absurd (V.str.inj z) (by decide +kernel))]
        refine s_intB ?_
        refine s_ixL (v := .non) (SqL.of n6.at) (by first | exact atI_lit1 | exact atI_lit0) ?_
        have hd6 : WlAt H6 p.1 p.2 { d with ended := some rs.length, word := if false then Wd.stands else Wd.off } := ⟨⟨kv, n6.old c5.at, i6.fz fkv⟩, ts, n6.old (c5.old (n4.old (c3.old hts npq)) npq), i6.fza fts⟩
        obtain ⟨hs6, g6⟩ := hs2.inD hp i6 hd6
        have f12 : Fr TT (l :: wfp w ps) H2 H6 (l :: wfp w ps) := g6.up fun c hc => List.mem_cons_of_mem _ hc
        refine q _ ps H6 (((f1.up (by simp)).trans (f2.up (by simp))).trans f12) ?_ ((hl1.fr f2 (by simp)).fr i6 (by simpa using npl.symm)) nl ?_
        · show WdAt H6 w ps (atN ds n fun d => { d with ended := some rs.length, word := .off })
          rw [atN_some ed]
          exact hs6
        · exact .non
end
end K28
/-! ## K28f5 -/
namespace K28
set_option maxHeartbeats 3900000
open L2 LamX PySem PySem.Spec PyProof.Rows
local macro_rules | `(tactic| walk_at "st") => `(tactic| repeat (first
  | with_reducible refine s_seq ?_ | with_reducible refine s_ret ?_ | with_reducible refine s_retN ?_ | with_reducible refine s_drop ?_ | with_reducible refine s_asg ?_ | with_reducible refine s_gn ?_ | with_reducible refine s_nextq ?_
  | ((with_reducible apply s_var); exact rfl) | with_reducible refine s_c ?_ | with_reducible refine s_op ?_ | with_reducible refine s_I0 ?_ | ((with_reducible refine s_eq ?_ ?_); exact rfl) | ((with_reducible refine s_ne ?_ ?_); exact rfl)
  | with_reducible refine s_test ?_ | with_reducible refine s_tB ?_ | with_reducible refine s_bl ?_ | with_reducible refine s_and ?_ | with_reducible refine s_or ?_ | with_reducible refine s_not ?_ | with_reducible refine s_andV ?_ | with_reducible refine s_orV ?_ | with_reducible refine s_notV ?_
  | with_reducible refine s_blP ?_ | with_reducible refine s_ifS ?_ | with_reducible refine s_nil ?_ | with_reducible refine s_cons ?_ | with_reducible refine s_cb ?_ | with_reducible refine s_call ?_ | with_reducible refine s_tup ?_ | with_reducible refine s_lst ?_
  | with_reducible refine s_isN ?_ | with_reducible refine s_notN ?_ | with_reducible refine s_un ?_ | with_reducible refine s_U ?_ | with_reducible refine s_fld ?_ | with_reducible refine s_put ?_ | with_reducible refine s_meth ?_ | with_reducible refine s_gc ?_ | with_reducible refine s_g0 ?_
  | with_reducible refine s_dz ?_ | with_reducible refine s_make ?_ | with_reducible refine s_m1 ?_ | with_reducible refine s_chain ?_ | with_reducible refine s_iZ ?_ | with_reducible refine s_dput ?_ | with_reducible refine s_dget ?_ | with_reducible refine s_din ?_ | with_reducible refine s_lc ?_ | with_reducible refine s_for ?_ | with_reducible refine s_iL ?_ | with_reducible refine s_iE ?_ | with_reducible refine s_iR1 ?_ | with_reducible refine s_iR2 ?_ | with_reducible refine s_yes ?_
  | with_reducible refine s_frz ?_ | with_reducible refine s_bm ?_ | with_reducible refine s_bm0 ?_ | with_reducible refine s_iff ?_ | with_reducible refine s_ift ?_ | with_reducible refine s_ifnt ?_ | with_reducible refine s_ifnf ?_
  | with_reducible refine s_iT ?_ | with_reducible refine s_iS ?_ | with_reducible refine s_sl ?_ | with_reducible refine s_npart ?_ | with_reducible refine s_part ?_ | with_reducible refine s_PrtR ?_ | with_reducible refine s_pp0 ?_ | with_reducible refine s_pp ?_ | with_reducible refine s_sub ?_ | with_reducible refine s_callS ?_))
section
variable {P : Program} {w : World} {K : PySem.W.Frag} {mg : Str → Option Value} {base : Heap} {TT : List (Addr × Str)}
/-! ### the deeds done again; copies; keys -/
theorem sc__law_again : FnScope ["_law_book_here", "_law_rows", "_law_world", "_law_done", "_law_row"] ["_law_book_here", "_law_rows"] (defScope s__law_again) := ⟨rfl, rfl, rfl, by decide +kernel, rfl, by decide +kernel, by decide +kernel⟩
def sp__law_again (TT : List (Addr × Str)) : Sp := fun vs H Q E => ∃ (v : V) (b : Bk) (l : Addr) (rs : List Row) (ds : List D), vs = [v, .ref l] ∧ Fz H v (bkD b) ∧ LsF H l (rs.map (rwD b)) ∧ BkOk b ∧ Ok b rs ds ∧ rs.length < 1000 ∧ ∀ w ps H', Fr TT [] H H' (wfp w ps) → WdAt H' w ps ds → Q (.ref w) H'
theorem k__law_again {fd : FuncData} (T : Tx K mg) (F : FunD K "_law_again" "_law_again" (defArgs s__law_again) (defBody s__law_again) (defScope s__law_again) [] [] (He.ga K "_law_again") fd) (h__law_do : Cn P w K mg base 4 (He.ga K "_law_do") ["_law_book_here", "_law_world", "_law_rows", "_law_row"] (sp__law_do TT)) : Cn P w K mg base 5 (He.ga K "_law_again") ["_law_book_here", "_law_rows"] (sp__law_again TT) := by
  refine cn_of F sc__law_again (fun vs H Q E h => ?_) (fun _ _ _ _ _ _ us hl => match us, hl with | [_, _], _ => rfl) fun cdv A' outer s' H vs Q E hr h => ?_
  · obtain ⟨v, b, l, rs, ds, rfl, _⟩ := h
    rfl
  · obtain ⟨v, b, l, rs, ds, rfl, hv, ⟨ls, hl, fl⟩, B, ok, hlen, q⟩ := h
    have ll := fl.length
    rw [List.length_map] at ll
    refine ⟨_, PSs.nox (pss_cons (ps_set (i := 2) sc__law_again.nd rfl (by first | exact Or.inl rfl | exact Or.inr rfl) (pe_lst pa_nil)) (pss_cons (ps_set (i := 3) sc__law_again.nd rfl (by first | exact Or.inl rfl | exact Or.inr rfl) (pe_lst pa_nil)) (pss_cons (ps_for PassesOwn.never rfl (pi_list (pv 1)) (pg_name (i := 4) sc__law_again.nd rfl (by first | exact Or.inl rfl | exact Or.inr rfl)) (pss_one (ps_expr (pe_cn h__law_do (hr.mono (by decide)) rfl T.g__law_do passL (pa_cons (pv 0) (pa_cons (pv 2) (pa_cons (pv 3) (pa_cons (pv 4) pa_nil)))))))) (pss_one (ps_ret (pv 2)))))), ?_⟩
    try dsimp only [cxOf]
    walk_at "st"
    refine s_newL (by simp) fun w H1 n1 => ?_
    walk_at "st"
    refine s_newL (by simp) fun m H2 n2 => ?_
    walk_at "st"
    have hl2 := n2.old (n1.old hl)
    have nwm : w ≠ m := n2.ne n1.at
    refine s_IlR (SqL.of hl2) ?_
    refine forJ (T := TT) (gives_list (xs := ls)) (fun i σ H' => ∃ a1 ps es, σ = [some v, some (.ref l), some (.ref w), some (.ref m), a1] ∧ Fr TT [] H H' (m :: wfp w ps) ∧ WdAt H' w ps es ∧ LsF H' m ((rs.take i).map (rwD b)) ∧ m ∉ wfp w ps ∧ Ok b (rs.take i) es)
      ⟨_, [], [], rfl, ?_, ⟨n2.old n1.at, rfl, fun j p d e => by simp at e, by simp [wfp]⟩, ⟨[], n2.at, .nil⟩, by simpa [wfp] using nwm.symm, by simpa using Ok.nil⟩ ?_ ?_ ?_
    · have f1 : Fr TT [] H H1 [w] := n1.fr'
      have f2 : Fr TT [w] H1 H2 [m, w] := n2.fr'
      exact f1.trans f2
    · rintro i σ H' hi ⟨a1, ps, es, rfl, f, _⟩
      exact f.sqL (SqL.of hl) (by simp)
    · rintro i x σ H' H'' hi ⟨a1, ps, es, rfl, f, hw, hm, nm, ok2⟩ f0 hx
      obtain ⟨rd, erd, fr⟩ := fl.of hx
      rw [List.getElem?_map] at erd
      obtain ⟨r, er, rfl⟩ := Option.map_eq_some_iff.mp erd
      obtain ⟨es', ok3, can⟩ := ok.take i (by omega)
      obtain rfl := ok2.det ok3
      have f2 : Fr TT [] H H'' (m :: wfp w ps) := f.trans (f0.up (by simp))
      walk_at "st"
      refine ⟨v, x, b, w, m, ps, rs.take i, es, r, rfl, f2.fz hv, hw.fr f0 (by simp), hm.fr f0 (by simp), f2.fz fr, B, ok2, can r er, by rw [List.length_take]; omega, nm, fun v' ps' H3 f3 hw3 hm3 nm3 _ => ?_⟩
      walk_at "st"
      have e1 : rs.take (i + 1) = rs.take i ++ [r] := by rw [List.take_succ, er]; rfl
      exact ⟨_, ps', _, rfl, f2.trans f3, hw3, by rw [e1]; exact hm3, nm3, by rw [e1]; exact ok2.snoc (can r er)⟩
    · rintro σ H' ⟨a1, ps, es, rfl, f, hw, hm, nm, ok2⟩
      rw [ll, List.take_length] at ok2
      obtain rfl := ok2.det ok
      walk_at "st"
      exact q w ps H' (f.less fun c hc => List.mem_cons_of_mem _ hc) hw
theorem sc__law_copied : FnScope ["_law_book_here", "_law_name", "_law_letters", "_law_steps_here"] ["_law_book_here"] (defScope s__law_copied) := ⟨rfl, rfl, rfl, by decide +kernel, rfl, by decide +kernel, by decide +kernel⟩
def sp__law_copied (TT : List (Addr × Str)) : Sp := fun vs H Q _ => ∃ (v : V) (b : Bk), vs = [v] ∧ Fz H v (bkD b) ∧ b.deals.length ≤ 4 ∧ ∀ v' H', Fr TT [] H H' [] → Fz H' v' (bkD b) → Q v' H'
theorem k__law_copied {fd : FuncData} (T : Tx K mg) (F : FunD K "_law_copied" "_law_copied" (defArgs s__law_copied) (defBody s__law_copied) (defScope s__law_copied) [] [] (He.ga K "_law_copied") fd) : Cn P w K mg base 1 (He.ga K "_law_copied") ["_law_book_here"] (sp__law_copied TT) := by
  refine cn_of F sc__law_copied (fun vs H Q E h => ?_) (fun _ _ _ _ _ _ us hl => match us, hl with | [_], _ => rfl) fun cdv A outer s H vs Q E hr h => ?_
  · obtain ⟨v, b, rfl, _⟩ := h
    rfl
  · obtain ⟨v, b, rfl, hv, hb, q⟩ := h
    obtain ⟨p, x, y, rfl, hp, h1, h2⟩ := hv.tup2
    obtain ⟨px, ox, xs, rfl, hx, fx⟩ := h1.lst_inv
    obtain ⟨py, oy, ys, rfl, hy, fy⟩ := h2.lst_inv
    have ly := fy.length
    rw [List.length_map] at ly
    refine ⟨_, PSs.nox (pss_one (ps_ret (pe_tup (pa_cons (pe_frz (pe_callTy call_listQ rfl T.f_list (by decide +kernel) (pa_cons (pe_ix ix_tup (pv 0) pe_int fun _ _ => rfl) pa_nil))) (pa_cons (pe_frz (pe_lc (own := [("_law_name", 1), ("_law_letters", 2), ("_law_steps_here", 3)]) (g := (gTup K 3 (gCons (gName 1) (gCons (gName 2) (gCons (gName 3) gNil))))) (tt := tYes) rfl sc__law_copied.nd (pi_list (pe_ix ix_tup (pv 0) pe_int fun _ _ => rfl)) (blkOk_by (N := ["_law_book_here", "_law_name", "_law_letters", "_law_steps_here"]) (sc := defScope s__law_copied) (by decide +kernel)) (fun _ _ _ _ _ => (pg_tup rfl (pgs_cons (pg_name (i := 1) sc__law_copied.nd rfl (by first | exact Or.inl rfl | exact Or.inr rfl)) (pgs_cons (pg_name (i := 2) sc__law_copied.nd rfl (by first | exact Or.inl rfl | exact Or.inr rfl)) (pgs_cons (pg_name (i := 3) sc__law_copied.nd rfl (by first | exact Or.inl rfl | exact Or.inr rfl)) pgs_nil))))) (fun _ _ _ _ _ => pts_nil) (fun _ _ _ _ _ => (pe_tup (pa_cons (pv 1) (pa_cons (pe_frz (pe_callTy (call_listK (K := K) rfl) rfl T.f_list (by decide +kernel) (pa_cons (pv 2) pa_nil))) (pa_cons (pe_frz (pe_callTy (call_listK (K := K) rfl) rfl T.f_list (by decide +kernel) (pa_cons (pv 3) pa_nil))) pa_nil))))))) pa_nil))))), ?_⟩
    try dsimp only [cxOf]
    walk_at "st"
    refine s_ixT (SqT.of hp) atI_lit0 ?_
    walk_at "st"
    refine s_list (sqF hx) fun l1 H1' n1' => s_frzN n1' trivial fun o1 H1 n1 => ?_
    walk_at "st"
    refine s_ixT (SqT.of (n1.old hp)) atI_lit1 ?_
    have hy1 := n1.old hy
    refine s_IlR (sqF hy1) ?_
    refine lcJ (T := TT) (gives_list (xs := ys)) [] (fun _ _ => True) (fun i => (b.deals.map dlD).take i) (fun _ z => nomatch z) trivial (by simp) (fun _ _ _ _ _ _ => trivial) (fun i H' _ f => sqF (f.frz hy1)) (fun i => ?_) ?_ ?_
    · rw [List.length_take, List.length_map]
      omega
    · intro i x H' H'' hi _ f f0 hx' Y N yes no
      obtain ⟨d, ed, fd⟩ := deals_get fy hx'
      have f1 : Fr TT [] H H'' [] := (n1.fr.trans f).trans f0
      obtain ⟨pd, r1, r2, r3, rfl, hpd, rr1, rr2, rr3⟩ := (f1.fz fd).tup3
      obtain rfl := rr1.str_inv
      obtain ⟨pa, oa, as, rfl, hpa, fa⟩ := rr2.lst_inv
      obtain ⟨pc, oc, cs, rfl, hpc, fc⟩ := rr3.lst_inv
      refine s_gt (SqT.of hpd) rfl ?_
      walk_at "st"
      refine ⟨rfl, ?_⟩
      walk_at "st"
      refine s_list (sqF hpa) fun l3 H3' n3' => s_frzN n3' trivial fun o3 H3 n3 => ?_
      walk_at "st"
      refine s_list (sqF (n3.old hpc)) fun l4 H4' n4' => s_frzN n4' trivial fun o4 H4 n4 => ?_
      walk_at "st"
      refine s_newT (by simp) fun t H5 n5 => ?_
      have f35 : Fr TT [] H'' H5 [] := (n3.fr.trans n4.fr).trans n5.fr
      refine yes _ H5 (dlD d) f35 ?_ (.tup n5.at (.cons (.str _) (.cons (.lst (n5.old (n4.old n3.at)) (f35.fza fa)) (.cons (.lst (n5.old n4.at) (f35.fza fc)) .nil)))) trivial
      rw [List.take_succ, List.getElem?_map, ed]
      rfl
    · intro D' H2 acc hD _ f2 hacc facc
      rw [ly, show b.deals.length = (b.deals.map dlD).length by rw [List.length_map], List.take_length] at facc
      refine s_frzM hacc trivial fun o3 H3 c3 => ?_
      walk_at "st"
      refine s_newT (by simp) fun t H4 n4 => ?_
      have i23 := c3.imm hacc trivial
      have f23 : Fr TT [] H1 H3 [] := c3.back f2 hD hacc trivial
      have f4 : Fr TT [] H H4 [] := (n1.fr.trans f23).trans n4.fr
      refine q _ H4 f4 (.tup n4.at (.cons (.lst (n4.old (f23.frz n1.at)) (f4.fza fx)) (.cons (.lst (n4.old c3.at) ?_) .nil)))
      exact (facc.keep i23).keep (n4.fr (T := TT) (fp := [])).imm
theorem sc__law_all_keys : FnScope ["_law_book_here", "_law_span", "_law_found", "_law_kind_here", "_law_many", "_law_number"] ["_law_book_here", "_law_span"] (defScope s__law_all_keys) := ⟨rfl, rfl, rfl, by decide +kernel, rfl, by decide +kernel, by decide +kernel⟩
def sp__law_all_keys (TT : List (Addr × Str)) : Sp := fun vs H Q _ => ∃ (v : V) (b : Bk), vs = [v, .int 3] ∧ Fz H v (bkD b) ∧ BkOk b ∧ ∀ l xs (ks : List Ky) H', Fr TT [] H H' [] → H' l = some (.lst xs) → FzA H' xs (ks.map kyD) → (∀ k ∈ ks, KyOk b k) → ks.length ≤ 12 → Q (.ref l) H'
theorem k__law_all_keys {fd : FuncData} (T : Tx K mg) (F : FunD K "_law_all_keys" "_law_all_keys" (defArgs s__law_all_keys) (defBody s__law_all_keys) (defScope s__law_all_keys) [] [] (He.ga K "_law_all_keys") fd) : Cn P w K mg base 1 (He.ga K "_law_all_keys") ["_law_book_here", "_law_span"] (sp__law_all_keys TT) := by
  refine cn_of F sc__law_all_keys (fun vs H Q E h => ?_) (fun _ _ _ _ _ _ us hl => match us, hl with | [_, _], _ => rfl) fun cdv A outer s H vs Q E hr h => ?_
  · obtain ⟨v, b, rfl, _⟩ := h
    rfl
  · obtain ⟨v, b, rfl, hv, B, q⟩ := h
    obtain ⟨p, x, y, rfl, hp, h1, h2⟩ := hv.tup2
    obtain ⟨px, ox, xs, rfl, hx, fx⟩ := h1.lst_inv
    have lx := fx.length
    rw [List.length_map] at lx
    refine ⟨_, PSs.nox (pss_cons (ps_set (i := 2) sc__law_all_keys.nd rfl (by first | exact Or.inl rfl | exact Or.inr rfl) (pe_lst pa_nil)) (pss_cons (ps_for PassesOwn.never rfl (pi_list (pe_ix ix_tup (pv 0) pe_int fun _ _ => rfl)) (pg_tup rfl (pgs_cons (pg_name (i := 3) sc__law_all_keys.nd rfl (by first | exact Or.inl rfl | exact Or.inr rfl)) (pgs_cons (pg_name (i := 4) sc__law_all_keys.nd rfl (by first | exact Or.inl rfl | exact Or.inr rfl)) pgs_nil))) (pss_one (ps_set (i := 2) sc__law_all_keys.nd rfl (by first | exact Or.inl rfl | exact Or.inr rfl) (pe_op op_catF (pv 2) (pe_lc (own := [("_law_number", 5)]) (g := (gName 5)) (tt := tYes) rfl sc__law_all_keys.nd (pi_range1 rfl T.f_range (pa_cons (pe_op op_add pe_int (pe_op op_mul (pe_op op_sub (pv 1) pe_int) (pe_callTy call_intQ rfl T.f_int (by decide +kernel) (pa_cons (pv 4) pa_nil)))) pa_nil)) (blkOk_by (N := ["_law_book_here", "_law_span", "_law_found", "_law_kind_here", "_law_many", "_law_number"]) (sc := defScope s__law_all_keys) (by decide +kernel)) (fun _ _ _ _ _ => (pg_name (i := 5) sc__law_all_keys.nd rfl (by first | exact Or.inl rfl | exact Or.inr rfl))) (fun _ _ _ _ _ => pts_nil) (fun _ _ _ _ _ => (pe_tup (pa_cons (pv 3) (pa_cons (pv 5) pa_nil))))))))) (pss_one (ps_ret (pv 2))))), ?_⟩
    try dsimp only [cxOf]
    walk_at "st"
    refine s_newL (by simp) fun l1 H1 n1 => ?_
    walk_at "st"
    refine s_ixT (SqT.of (n1.old hp)) atI_lit0 ?_
    have f1 : Fr TT [] H H1 [] := n1.fr
    refine s_IlR (sqF (n1.old hx)) ?_
    refine forJ (T := TT) (gives_list (xs := xs)) (fun i σ H' => ∃ a1 a2 l ys, ∃ ks : List Ky, σ = [some (.ref p), some (.int 3), some (.ref l), a1, a2, none] ∧ Fr TT [] H H' [] ∧ H' l = some (.lst ys) ∧ FzA H' ys (ks.map kyD) ∧ (∀ k ∈ ks, KyOk b k) ∧ ks.length ≤ 3 * i)
      ⟨_, _, l1, [], [], rfl, f1, n1.at, .nil, (fun _ z => nomatch z), Nat.zero_le _⟩ ?_ ?_ ?_
    · rintro i σ H' hi ⟨a1, a2, l, ys, ks, rfl, f, _⟩
      exact sqF (f.frz hx)
    · rintro i x σ H' H'' hi ⟨a1, a2, l, ys, ks, rfl, f, hl, fl, hk, hlen⟩ f0 hx'
      obtain ⟨kd, ekd, fk⟩ := fx.of hx'
      rw [List.getElem?_map] at ekd
      obtain ⟨⟨kn, mn⟩, ek, rfl⟩ := Option.map_eq_some_iff.mp ekd
      have fH : Fr TT [] H H'' [] := f.trans f0
      obtain ⟨pt, r1, r2, rfl, hpt, rr1, rr2⟩ := (fH.fz fk).tup2
      obtain rfl := rr1.str_inv
      obtain rfl := rr2.bool_inv
      refine s_gt (SqT.of hpt) rfl ?_
      walk_at "st"
      refine s_intB ?_
      refine s_I (.inl ⟨by decide, by decide⟩) ?_
      walk_at "st"
      have ly := fl.length
      rw [List.length_map] at ly
      have hl0 := f0.get hl (by simp) trivial
      have i3 := B.k3
      have il : i < b.kinds.length := (List.getElem?_eq_some_iff.mp ek).1
      dsimp only
      have r0 : (0 : Int) ≤ (1 : Int) + (3 - 1) * (if mn = true then 1 else 0) := by cases mn <;> decide
      have r1 : (1 : Int) + (3 - 1) * (if mn = true then 1 else 0) ≤ 1000000 := by cases mn <;> decide
      refine s_Ir1R r0 r1 ?_
      have l3 : ((1 : Int) + (3 - 1) * (if mn = true then 1 else 0)).toNat ≤ 3 := by cases mn <;> decide
      have l1' : mn = false → ((1 : Int) + (3 - 1) * (if mn = true then 1 else 0)).toNat ≤ 1 := by cases mn <;> decide
      generalize ((1 : Int) + (3 - 1) * (if mn = true then 1 else 0)).toNat = n at l3 l1'
      refine lcJ (T := TT) (gives_range (lo := 0) (n := n)) [] (fun _ _ => True) (fun i => (((List.range n).take i).map fun (j : Nat) => kyD (kn, (j : Int)))) (fun _ z => nomatch z) trivial (by simp) (fun _ _ _ _ _ _ => trivial) (fun i H' _ f => trivial) (fun i => ?_) ?_ ?_
      · rw [List.length_map, List.length_take, List.length_range]
        omega
      · intro j y H2 H2' hj _ f2 f20 hy Y N yes no
        obtain rfl := hy
        walk_at "st"
        refine ⟨rfl, ?_⟩
        walk_at "st"
        refine s_newT (by simp) fun tp H3 n3 => ?_
        refine yes _ H3 (kyD (kn, (j : Int))) n3.fr ?_ (.tup n3.at (.cons (.str _) (.cons (by rw [Int.zero_add]; exact .int _) .nil))) trivial
        rw [List.take_succ, List.getElem?_range hj, List.map_append]
        rfl
      · intro D' H2 acc hD _ f2 hacc facc
        rw [List.take_of_length_le (by rw [List.length_range]; exact Nat.le_refl _)] at facc
        have la := facc.length
        rw [List.length_map, List.length_range] at la
        refine s_catF (.inl (f2.get hl0 (by simp) trivial)) (.inl hacc) (by omega) fun l4 H4 n4 => ?_
        walk_at "st"
        refine ⟨_, _, l4, _, ks ++ (List.range n).map (fun (j : Nat) => (kn, (j : Int))), rfl, (fH.trans f2).trans n4.fr, n4.at, ?_, ?_, ?_⟩
        · rw [List.map_append, List.map_map]
          exact ((n4.fr (T := TT) (fp := [])).fza (((f0.trans f2).fza fl).app facc))
        · intro k hk2
          obtain hk2 | hk2 := List.mem_append.mp hk2
          · exact hk k hk2
          · obtain ⟨j, hj, rfl⟩ := List.mem_map.mp hk2
            have hj2 := List.mem_range.mp hj
            refine ⟨mn, List.mem_of_getElem? ek, Int.natCast_nonneg _, fun z => ?_⟩
            have := l1' z
            show (j : Int) = 0
            omega
        · rw [List.length_append, List.length_map, List.length_range]
          omega
    · rintro σ H' ⟨a1, a2, l, ys, ks, rfl, f, hl, fl, hk, hlen⟩
      walk_at "st"
      exact q l ys ks H' f hl fl hk (by have := B.k3; omega)
end
end K28
/-! ## K28f6 -/
namespace K28
set_option maxHeartbeats 3900000
open L2 LamX PySem PySem.Spec PyProof.Rows
local macro_rules | `(tactic| walk_at "st") => `(tactic| repeat (first
  | with_reducible refine s_seq ?_ | with_reducible refine s_ret ?_ | with_reducible refine s_retN ?_ | with_reducible refine s_drop ?_ | with_reducible refine s_asg ?_ | with_reducible refine s_gn ?_ | with_reducible refine s_nextq ?_
  | ((with_reducible apply s_var); exact rfl) | with_reducible refine s_c ?_ | with_reducible refine s_op ?_ | with_reducible refine s_I0 ?_ | ((with_reducible refine s_eq ?_ ?_); exact rfl) | ((with_reducible refine s_ne ?_ ?_); exact rfl)
  | with_reducible refine s_test ?_ | with_reducible refine s_tB ?_ | with_reducible refine s_bl ?_ | with_reducible refine s_and ?_ | with_reducible refine s_or ?_ | with_reducible refine s_not ?_ | with_reducible refine s_andV ?_ | with_reducible refine s_orV ?_ | with_reducible refine s_notV ?_
  | with_reducible refine s_blP ?_ | with_reducible refine s_ifS ?_ | with_reducible refine s_nil ?_ | with_reducible refine s_cons ?_ | with_reducible refine s_cb ?_ | with_reducible refine s_call ?_ | with_reducible refine s_tup ?_ | with_reducible refine s_lst ?_
  | with_reducible refine s_isN ?_ | with_reducible refine s_notN ?_ | with_reducible refine s_un ?_ | with_reducible refine s_U ?_ | with_reducible refine s_fld ?_ | with_reducible refine s_put ?_ | with_reducible refine s_meth ?_ | with_reducible refine s_gc ?_ | with_reducible refine s_g0 ?_
  | with_reducible refine s_dz ?_ | with_reducible refine s_make ?_ | with_reducible refine s_m1 ?_ | with_reducible refine s_chain ?_ | with_reducible refine s_iZ ?_ | with_reducible refine s_dput ?_ | with_reducible refine s_dget ?_ | with_reducible refine s_din ?_ | with_reducible refine s_lc ?_ | with_reducible refine s_for ?_ | with_reducible refine s_iL ?_ | with_reducible refine s_iE ?_ | with_reducible refine s_iR1 ?_ | with_reducible refine s_iR2 ?_ | with_reducible refine s_yes ?_
  | with_reducible refine s_frz ?_ | with_reducible refine s_bm ?_ | with_reducible refine s_bm0 ?_ | with_reducible refine s_iff ?_ | with_reducible refine s_ift ?_ | with_reducible refine s_ifnt ?_ | with_reducible refine s_ifnf ?_
  | with_reducible refine s_iT ?_ | with_reducible refine s_iS ?_ | with_reducible refine s_sl ?_ | with_reducible refine s_npart ?_ | with_reducible refine s_part ?_ | with_reducible refine s_PrtR ?_ | with_reducible refine s_pp0 ?_ | with_reducible refine s_pp ?_ | with_reducible refine s_sub ?_ | with_reducible refine s_callS ?_))
section
variable {P : Program} {w : World} {K : PySem.W.Frag} {mg : Str → Option Value} {base : Heap} {TT : List (Addr × Str)}
/-! ### keys of the world -/
theorem DOk.k4 {b : Bk} {k : Nat} {d : D} (B : BkOk b) (h : DOk b k d) : d.keys.length ≤ 4 := by
  rw [h.ks.length]
  exact B.l0 _ (dlOf_mem h.di).2
theorem cutV_mem {xs : List V} {lo hi : Option Int} {i : Nat} {x : V} (h : (cutV xs lo hi)[i]? = some x) : x ∈ xs := by
  have := List.mem_of_getElem? h
  exact List.mem_of_mem_drop (List.mem_of_mem_take this)
theorem sc__law_some_keys : FnScope ["_law_book_here", "_law_world", "_law_span", "_law_found", "_law_deal"] ["_law_book_here", "_law_world", "_law_span"] (defScope s__law_some_keys) := ⟨rfl, rfl, rfl, by decide +kernel, rfl, by decide +kernel, by decide +kernel⟩
def sp__law_some_keys (TT : List (Addr × Str)) : Sp := fun vs H Q _ => ∃ (v : V) (b : Bk) (w : Addr) (ps : List (Addr × Addr)) (k : Nat) (ds : List D), vs = [v, .ref w, .int 3] ∧ Fz H v (bkD b) ∧ WdAt H w ps ds ∧ BkOk b ∧ (∀ e ∈ ds, DOk b k e) ∧ ds.length ≤ 40 ∧ ∀ l xs (ks : List Ky) H', Fr TT [] H H' [] → H' l = some (.lst xs) → FzA H' xs (ks.map kyD) → (∀ k ∈ ks, KyOk b k) → Q (.ref l) H'
theorem k__law_some_keys {fd : FuncData} (T : Tx K mg) (F : FunD K "_law_some_keys" "_law_some_keys" (defArgs s__law_some_keys) (defBody s__law_some_keys) (defScope s__law_some_keys) [] [] (He.ga K "_law_some_keys") fd) (h__law_all_keys : Cn P w K mg base 1 (He.ga K "_law_all_keys") ["_law_book_here", "_law_span"] (sp__law_all_keys TT)) : Cn P w K mg base 2 (He.ga K "_law_some_keys") ["_law_book_here", "_law_world", "_law_span"] (sp__law_some_keys TT) := by
  refine cn_of F sc__law_some_keys (fun vs H Q E h => ?_) (fun _ _ _ _ _ _ us hl => match us, hl with | [_, _, _], _ => rfl) fun cdv A outer s H vs Q E hr h => ?_
  · obtain ⟨v, b, w, ps, k, ds, rfl, _⟩ := h
    rfl
  · obtain ⟨v, b, w, ps, k, ds, rfl, hv, hs, B, ok, h40, q⟩ := h
    refine ⟨_, PSs.nox (pss_cons (ps_set (i := 3) sc__law_some_keys.nd rfl (by first | exact Or.inl rfl | exact Or.inr rfl) (pe_cn h__law_all_keys (hr.mono (by decide)) rfl T.g__law_all_keys passL (pa_cons (pv 0) (pa_cons (pv 2) pa_nil)))) (pss_cons (ps_for PassesOwn.never rfl (pi_list (pe_slice sl_list (pv 1) (po_some (pe_un un_neg pe_int)) po_none)) (pg_name (i := 4) sc__law_some_keys.nd rfl (by first | exact Or.inl rfl | exact Or.inr rfl)) (pss_one (ps_set (i := 3) sc__law_some_keys.nd rfl (by first | exact Or.inl rfl | exact Or.inr rfl) (pe_op op_catF (pv 3) (pe_dget (hu_of hr) (pv 4) pe_str fun _ _ => rfl))))) (pss_one (ps_ret (pv 3))))), ?_⟩
    try dsimp only [cxOf]
    walk_at "st"
    refine ⟨v, b, rfl, hv, B, fun l xs ks H1 f1 hl fx hk h12 => ?_⟩
    walk_at "st"
    have hs1 := hs.fr f1 (by simp)
    have cl : (cutV (ps.map fun p => V.ref p.1) (some (-4)) none).length ≤ 40 := Nat.le_trans (cutV_length _ _ _) (by rw [List.length_map, hs.len]; exact h40)
    refine s_slL (SqL.of hs1.wl) rfl fun c H2 n2 => ?_
    refine s_IlR (SqL.of n2.at) ?_
    have f2 : Fr TT [] H H2 [] := f1.trans n2.fr
    refine forJ (T := TT) (gives_list (xs := cutV (ps.map fun p => V.ref p.1) (some (-4)) none)) (fun i σ H' => ∃ a1 l ys, ∃ ks : List Ky, σ = [some v, some (.ref w), some (.int 3), some (.ref l), a1] ∧ Fr TT [] H2 H' [] ∧ H' l = some (.lst ys) ∧ FzA H' ys (ks.map kyD) ∧ (∀ k ∈ ks, KyOk b k) ∧ ks.length ≤ 12 + 4 * i)
      ⟨_, l, xs, ks, rfl, .refl, n2.old hl, (n2.fr (T := TT) (fp := [])).fza fx, hk, by omega⟩ ?_ ?_ ?_
    · rintro i σ H' hi ⟨a1, l, ys, ks, rfl, f, _⟩
      exact f.sqL (SqL.of n2.at) (by simp)
    · rintro i x σ H' H'' hi ⟨a1, l, ys, ks, rfl, f, hl, fl, hk, hlen⟩ f0 hx
      obtain ⟨p, hpm, rfl⟩ := List.mem_map.mp (cutV_mem hx)
      obtain ⟨j, ep⟩ := List.getElem?_of_mem hpm
      obtain ⟨d, ed⟩ := deal_of ep hs.len
      have okd := ok d (List.mem_of_getElem? ed)
      have fH : Fr TT [] H H'' [] := f2.trans (f.trans f0)
      obtain ⟨kv, ha, fkv⟩ := ((hs.fr fH (by simp)).at_ j p d ep ed).ex
      obtain ⟨kp, ko, kxs, rfl, hkp, fkx⟩ := fkv.lst_inv
      have k4 := okd.k4 B
      have lk := fkx.length
      have ly := fl.length
      rw [List.length_map] at lk ly
      walk_at "st"
      refine s_DgetW ha rfl ?_
      refine s_catF (.inl (f0.get hl (by simp) trivial)) (.inr ⟨_, hkp⟩) (by omega) fun l4 H4 n4 => ?_
      walk_at "st"
      refine ⟨_, l4, _, ks ++ d.keys, rfl, (f.trans f0).trans n4.fr, n4.at, ?_, ?_, ?_⟩
      · rw [List.map_append]
        exact (n4.fr (T := TT) (fp := [])).fza ((f0.fza fl).app fkx)
      · intro k hk2
        obtain hk2 | hk2 := List.mem_append.mp hk2
        · exact hk k hk2
        · exact okd.ks.2 k hk2
      · rw [List.length_append]
        omega
    · rintro σ H' ⟨a1, l, ys, ks, rfl, f, hl, fl, hk, hlen⟩
      walk_at "st"
      exact q l ys ks H' (f2.trans f) hl fl hk
theorem filt_snoc {ks : List Ky} {j : Nat} {k : Ky} {x : Str} (e : ks[j]? = some k) : ((ks.take (j + 1)).filter fun k => decide (k.1 = x)).map (fun k => PyData.int k.2) = ((ks.take j).filter fun k => decide (k.1 = x)).map (fun k => PyData.int k.2) ++ (if k.1 = x then [PyData.int k.2] else []) := by
  rw [List.take_succ, e, List.filter_append, List.map_append]
  congr 1
  by_cases h : k.1 = x
  · simp [List.filter, h]
  · simp [List.filter, h]
theorem filt_le {ks : List Ky} {j : Nat} {x : Str} : (((ks.take j).filter fun k => decide (k.1 = x)).map (fun k => PyData.int k.2)).length ≤ ks.length := by
  rw [List.length_map]
  exact Nat.le_trans (List.length_filter_le _ _) (by rw [List.length_take]; exact Nat.min_le_right _ _)
theorem sc__law_greatest : FnScope ["_law_world", "_law_found", "_law_kind_here", "_law_some_here", "_law_deal", "_law_sort", "_law_number"] ["_law_world", "_law_found", "_law_kind_here"] (defScope s__law_greatest) := ⟨rfl, rfl, rfl, by decide +kernel, rfl, by decide +kernel, by decide +kernel⟩
def sp__law_greatest (TT : List (Addr × Str)) : Sp := fun vs H Q _ => ∃ (w fa : Addr) (ps : List (Addr × Addr)) (b : Bk) (k : Nat) (ds : List D) (xs : List V) (ks : List Ky) (kind : Str) (M : Int), vs = [.ref w, .ref fa, .str kind] ∧ WdAt H w ps ds ∧ BkOk b ∧ (∀ e ∈ ds, DOk b k e) ∧ ds.length ≤ 40 ∧ H fa = some (.lst xs) ∧ FzA H xs (ks.map kyD) ∧ ks.length ≤ 4 ∧ (∀ d ∈ ds, ∀ q ∈ d.keys, q.2 ≤ M) ∧ (∀ q ∈ ks, q.2 ≤ M) ∧ -1 ≤ M ∧
  ∀ (g : Int) H', Fr TT [] H H' [] → -1 ≤ g → g ≤ M → Q (.int g) H'
theorem k__law_greatest {fd : FuncData} (T : Tx K mg) (F : FunD K "_law_greatest" "_law_greatest" (defArgs s__law_greatest) (defBody s__law_greatest) (defScope s__law_greatest) [] [] (He.ga K "_law_greatest") fd) : Cn P w K mg base 1 (He.ga K "_law_greatest") ["_law_world", "_law_found", "_law_kind_here"] (sp__law_greatest TT) := by
  refine cn_of F sc__law_greatest (fun vs H Q E h => ?_) (fun _ _ _ _ _ _ us hl => match us, hl with | [_, _, _], _ => rfl) fun cdv A outer s H vs Q E hr h => ?_
  · obtain ⟨w, fa, ps, b, k, ds, xs, ks, kind, M, rfl, _⟩ := h
    rfl
  · obtain ⟨w, fa, ps, b, k, ds, xs, ks, kind, M, rfl, hs, B, ok, h40, hfa, fx, h4, m1, m2, m3, q⟩ := h
    have lx := fx.length
    rw [List.length_map] at lx
    refine ⟨_, PSs.nox (pss_cons (ps_set (i := 3) sc__law_greatest.nd rfl (by first | exact Or.inl rfl | exact Or.inr rfl) (pe_lst (pa_cons (pe_un un_neg pe_int) pa_nil))) (pss_cons (ps_for PassesOwn.never rfl (pi_list (pv 0)) (pg_name (i := 4) sc__law_greatest.nd rfl (by first | exact Or.inl rfl | exact Or.inr rfl)) (pss_one (ps_set (i := 3) sc__law_greatest.nd rfl (by first | exact Or.inl rfl | exact Or.inr rfl) (pe_op op_catF (pv 3) (pe_lc (own := [("_law_sort", 5), ("_law_number", 6)]) (g := (gTup K 2 (gCons (gName 5) (gCons (gName 6) gNil)))) rfl sc__law_greatest.nd (pi_list (pe_dget (hu_of hr) (pv 4) pe_str fun _ _ => rfl)) (blkOk_by (N := ["_law_world", "_law_found", "_law_kind_here", "_law_some_here", "_law_deal", "_law_sort", "_law_number"]) (sc := defScope s__law_greatest) (by decide +kernel)) (fun _ _ _ _ _ => (pg_tup rfl (pgs_cons (pg_name (i := 5) sc__law_greatest.nd rfl (by first | exact Or.inl rfl | exact Or.inr rfl)) (pgs_cons (pg_name (i := 6) sc__law_greatest.nd rfl (by first | exact Or.inl rfl | exact Or.inr rfl)) pgs_nil)))) (fun _ _ _ _ _ => (pts_one (pt_cmpR op_eq (pv 5) (pv 2) (nomark _)))) (fun _ _ _ _ _ => (pv 6))))))) (pss_one (ps_ret (pe_callB (cr_max rfl) rfl T.f_max (by decide +kernel) (pa_cons (pe_op op_catF (pv 3) (pe_lc (own := [("_law_sort", 5), ("_law_number", 6)]) (g := (gTup K 2 (gCons (gName 5) (gCons (gName 6) gNil)))) rfl sc__law_greatest.nd (pi_list (pv 1)) (blkOk_by (N := ["_law_world", "_law_found", "_law_kind_here", "_law_some_here", "_law_deal", "_law_sort", "_law_number"]) (sc := defScope s__law_greatest) (by decide +kernel)) (fun _ _ _ _ _ => (pg_tup rfl (pgs_cons (pg_name (i := 5) sc__law_greatest.nd rfl (by first | exact Or.inl rfl | exact Or.inr rfl)) (pgs_cons (pg_name (i := 6) sc__law_greatest.nd rfl (by first | exact Or.inl rfl | exact Or.inr rfl)) pgs_nil)))) (fun _ _ _ _ _ => (pts_one (pt_cmpR op_eq (pv 5) (pv 2) (nomark _)))) (fun _ _ _ _ _ => (pv 6)))) pa_nil)))))), ?_⟩
    try dsimp only [cxOf]
    walk_at "st"
    refine s_newL (by simp) fun l1 H1 n1 => ?_
    walk_at "st"
    have f1 : Fr TT [] H H1 [] := n1.fr
    refine s_IlR (SqL.of (n1.old hs.wl)) ?_
    refine forJ (T := TT) (gives_list (xs := ps.map fun p => V.ref p.1)) (fun i σ H' => ∃ a1 l, ∃ ns : List Int, σ = [some (.ref w), some (.ref fa), some (.str kind), some (.ref l), a1, none, none] ∧ Fr TT [] H H' [] ∧ H' l = some (.lst (ns.map V.int)) ∧ (-1 : Int) ∈ ns ∧ (∀ n ∈ ns, n ≤ M) ∧ ns.length ≤ 1 + 4 * i)
      ⟨_, l1, [-1], rfl, f1, n1.at, List.mem_cons_self, (fun n hn => by rw [List.mem_singleton.mp hn]; exact m3), by decide⟩ ?_ ?_ ?_
    · rintro i σ H' hi ⟨a1, l, ns, rfl, f, _⟩
      exact f.sqL (SqL.of hs.wl) (by simp)
    · rintro i x σ H' H'' hi ⟨a1, l, ns, rfl, f, hl, hm, hM, hlen⟩ f0 hx
      rw [List.getElem?_map] at hx
      obtain ⟨p, ep, rfl⟩ := Option.map_eq_some_iff.mp hx
      obtain ⟨d, ed⟩ := deal_of ep hs.len
      have hdm := List.mem_of_getElem? ed
      have fH : Fr TT [] H H'' [] := f.trans f0
      obtain ⟨kv, ha, fkv⟩ := ((hs.fr fH (by simp)).at_ i p d ep ed).ex
      obtain ⟨kp, ko, kxs, rfl, hkp, fkx⟩ := fkv.lst_inv
      have k4 := (ok d hdm).k4 B
      have lk := fkx.length
      rw [List.length_map] at lk
      have i40 : i < 40 := by have := (List.getElem?_eq_some_iff.mp ed).1; omega
      walk_at "st"
      refine s_DgetW ha rfl ?_
      refine s_IlR (sqF hkp) ?_
      refine lcJ (T := TT) (gives_list (xs := kxs)) [] (fun _ _ => True) (fun i => ((d.keys.take i).filter fun k => decide (k.1 = kind)).map (fun k => PyData.int k.2)) (fun _ z => nomatch z) trivial (by simp) (fun _ _ _ _ _ _ => trivial) (fun i H' _ f => sqF (f.frz hkp)) (fun i => Nat.lt_of_le_of_lt filt_le (by omega)) ?_ ?_
      · intro j y H2 H2' hj _ f2 f20 hy Y N yes no
        obtain ⟨kd, ekd, fk⟩ := fkx.of hy
        rw [List.getElem?_map] at ekd
        obtain ⟨ky, ek, rfl⟩ := Option.map_eq_some_iff.mp ekd
        have ef := filt_snoc (x := kind) ek
        obtain ⟨pt, r1, r2, rfl, hpt, rr1, rr2⟩ := ((f2.trans f20).fz fk).tup2
        obtain rfl := rr1.str_inv
        refine s_gt (SqT.of hpt) rfl ?_
        walk_at "st"
        refine ⟨rfl, ?_⟩
        walk_at "st"
        by_cases he : ky.1 = kind
        · rw [if_pos he] at ef
          rw [decide_eq_true (show V.str ky.1 = V.str kind by rw [he])]
          walk_at "st"
          exact yes _ _ (.int ky.2) .refl ef rr2 trivial
        · rw [if_neg he, List.append_nil] at ef
          rw [decide_eq_false (show ¬ V.str ky.1 = V.str kind from fun z => he (V.str.inj z))]
          walk_at "st"
          exact no _ .refl ef trivial
      · intro D' H2 acc hD _ f2 hacc facc
        rw [lk, List.take_length] at facc
        have ea := ints_eq (f := fun k : Ky => k.2) facc
        have la := facc.length
        have l5 := filt_le (ks := d.keys) (j := d.keys.length) (x := kind)
        rw [List.take_length] at l5
        have hl0 := f2.get (f0.get hl (by simp) trivial) (by simp) trivial
        refine s_catF (.inl hl0) (.inl hacc) (by rw [List.length_map]; omega) fun l4 H4 n4 => ?_
        walk_at "st"
        refine ⟨_, l4, ns ++ ((d.keys.filter fun k => decide (k.1 = kind)).map fun k => k.2), rfl, (fH.trans f2).trans n4.fr, by rw [n4.at, ea, List.map_append], List.mem_append_left _ hm, ?_, ?_⟩
        · intro n hn
          obtain hn | hn := List.mem_append.mp hn
          · exact hM n hn
          · obtain ⟨k, hk, rfl⟩ := List.mem_map.mp hn
            exact m1 d hdm k (List.mem_filter.mp hk).1
        · rw [List.length_append, List.length_map]
          rw [List.length_map] at l5
          omega
    · rintro σ H' ⟨a1, l, ns, rfl, f, hl, hm, hM, hlen⟩
      rw [List.length_map, hs.len] at hlen
      walk_at "st"
      have hfa1 := f.get hfa (by simp) trivial
      refine s_IlR (SqL.of hfa1) ?_
      refine lcJ (T := TT) (gives_list (xs := xs)) [] (fun _ _ => True) (fun i => ((ks.take i).filter fun k => decide (k.1 = kind)).map (fun k => PyData.int k.2)) (fun _ z => nomatch z) trivial (by simp) (fun _ _ _ _ _ _ => trivial) (fun i H' _ f2 => f2.sqL (SqL.of hfa1) (by simp)) (fun i => Nat.lt_of_le_of_lt filt_le (by omega)) ?_ ?_
      · intro j y H2 H2' hj _ f2 f20 hy Y N yes no
        obtain ⟨kd, ekd, fk⟩ := fx.of hy
        rw [List.getElem?_map] at ekd
        obtain ⟨ky, ek, rfl⟩ := Option.map_eq_some_iff.mp ekd
        have ef := filt_snoc (x := kind) ek
        obtain ⟨pt, r1, r2, rfl, hpt, rr1, rr2⟩ := ((f.trans (f2.trans f20)).fz fk).tup2
        obtain rfl := rr1.str_inv
        refine s_gt (SqT.of hpt) rfl ?_
        walk_at "st"
        refine ⟨rfl, ?_⟩
        walk_at "st"
        by_cases he : ky.1 = kind
        · rw [if_pos he] at ef
          rw [decide_eq_true (show V.str ky.1 = V.str kind by rw [he])]
          walk_at "st"
          exact yes _ _ (.int ky.2) .refl ef rr2 trivial
        · rw [if_neg he, List.append_nil] at ef
          rw [decide_eq_false (show ¬ V.str ky.1 = V.str kind from fun z => he (V.str.inj z))]
          walk_at "st"
          exact no _ .refl ef trivial
      · intro D' H2 acc hD _ f2 hacc facc
        rw [lx, List.take_length] at facc
        have ea := ints_eq (f := fun k : Ky => k.2) facc
        have la := facc.length
        have l5 := filt_le (ks := ks) (j := ks.length) (x := kind)
        rw [List.take_length] at l5
        have hl0 := f2.get hl (by simp) trivial
        refine s_catF (.inl hl0) (.inl hacc) (by rw [List.length_map]; omega) fun l4 H4 n4 => ?_
        walk_at "st"
        have e4 : H4 l4 = some (.lst ((ns ++ ((ks.filter fun k => decide (k.1 = kind)).map fun k => k.2)).map V.int)) := by rw [n4.at, ea, List.map_append]
        refine s_maxI (SqL.of e4) (by rw [List.length_append]; have := List.length_pos_of_mem hm; omega) fun m hm2 hmax => ?_
        refine q m H4 ((f.trans f2).trans n4.fr) (hmax _ (List.mem_append_left _ hm)) ?_
        obtain hn | hn := List.mem_append.mp hm2
        · exact hM m hn
        · obtain ⟨k, hk, rfl⟩ := List.mem_map.mp hn
          exact m2 k (List.mem_filter.mp hk).1
theorem sc__law_fresh : FnScope ["_law_book_here", "_law_world", "_law_number", "_law_many", "_law_found", "_law_mark", "_law_kind_here"] ["_law_book_here", "_law_world", "_law_number"] (defScope s__law_fresh) := ⟨rfl, rfl, rfl, by decide +kernel, rfl, by decide +kernel, by decide +kernel⟩
def sp__law_fresh (TT : List (Addr × Str)) : Sp := fun vs H Q _ => ∃ (v : V) (b : Bk) (w : Addr) (ps : List (Addr × Addr)) (k : Nat) (ds : List D) (di : Nat), vs = [v, .ref w, .int di] ∧ Fz H v (bkD b) ∧ WdAt H w ps ds ∧ BkOk b ∧ (∀ e ∈ ds, DOk b k e) ∧ ds.length ≤ 40 ∧ di < b.deals.length ∧ (∀ d ∈ ds, ∀ q ∈ d.keys, q.2 ≤ 4 * (ds.length : Int) + 2) ∧
  ∀ v' (ks : List Ky) H', Fr TT [] H H' [] → Fz H' v' (.list (ks.map kyD)) → KsOk b di ks → (∀ k ∈ ks, k.2 ≤ 4 * (ds.length : Int) + 6) → Q v' H'
theorem k__law_fresh {fd : FuncData} (T : Tx K mg) (F : FunD K "_law_fresh" "_law_fresh" (defArgs s__law_fresh) (defBody s__law_fresh) (defScope s__law_fresh) [] [] (He.ga K "_law_fresh") fd) (h__law_greatest : Cn P w K mg base 1 (He.ga K "_law_greatest") ["_law_world", "_law_found", "_law_kind_here"] (sp__law_greatest TT)) : Cn P w K mg base 2 (He.ga K "_law_fresh") ["_law_book_here", "_law_world", "_law_number"] (sp__law_fresh TT) := by
  refine cn_of F sc__law_fresh (fun vs H Q E h => ?_) (fun _ _ _ _ _ _ us hl => match us, hl with | [_, _, _], _ => rfl) fun cdv A outer s H vs Q E hr h => ?_
  · obtain ⟨v, b, w, ps, k, ds, di, rfl, _⟩ := h
    rfl
  · obtain ⟨v, b, w, ps, k, ds, di, rfl, hv, hs, B, ok, h40, hdi, hM, q⟩ := h
    obtain ⟨pb, x, y, rfl, hp, f1, f2⟩ := hv.tup2
    obtain ⟨py, oy, ys, rfl, hy, fy⟩ := f2.lst_inv
    obtain ⟨e1, m1⟩ := dlOf_mem hdi
    obtain ⟨dv, edv, fdv⟩ := fy.at (i := di) (d := dlD (dlOf b di)) (by rw [List.getElem?_map, e1]; rfl)
    obtain ⟨pd, z1, z2, z3, rfl, hpd, g1, g2, g3⟩ := fdv.tup3
    obtain ⟨pz, oz, zs, rfl, hz, fz⟩ := g2.lst_inv
    have lz := fz.length
    rw [List.length_map] at lz
    have l4 := B.l0 _ m1
    refine ⟨_, PSs.nox (pss_cons (ps_set (i := 3) sc__law_fresh.nd rfl (by first | exact Or.inl rfl | exact Or.inr rfl) (pe_callTy (call_dictQ rfl) rfl T.f_dict (by decide +kernel) (pa_cons (pe_ix ix_tup (pv 0) pe_int fun _ _ => rfl) pa_nil))) (pss_cons (ps_set (i := 4) sc__law_fresh.nd rfl (by first | exact Or.inl rfl | exact Or.inr rfl) (pe_lst pa_nil)) (pss_cons (ps_for PassesOwn.never rfl (pi_list (pe_ix ix_tup (pe_ix ix_list (pe_ix ix_tup (pv 0) pe_int fun _ _ => rfl) (pv 2) fun _ _ => rfl) pe_int fun _ _ => rfl)) (pg_tup rfl (pgs_cons (pg_name (i := 5) sc__law_fresh.nd rfl (by first | exact Or.inl rfl | exact Or.inr rfl)) (pgs_cons (pg_name (i := 6) sc__law_fresh.nd rfl (by first | exact Or.inl rfl | exact Or.inr rfl)) pgs_nil))) (pss_one (ps_expr (pe_bm PySem.F.plainAttrs_list PySem.F.slot_list_append PySem.F.type_list_append mt_append (pv 4) (pa_cons (pe_tup (pa_cons (pv 6) (pa_cons (pe_op op_mul (pe_op op_add (pe_cn h__law_greatest (hr.mono (by decide)) rfl T.g__law_greatest passL (pa_cons (pv 1) (pa_cons (pv 4) (pa_cons (pv 6) pa_nil)))) pe_int) (pe_callTy call_intQ rfl T.f_int (by decide +kernel) (pa_cons (pe_dget (hu_of hr) (pv 3) (pv 6) fun _ _ => rfl) pa_nil))) pa_nil))) pa_nil))))) (pss_one (ps_ret (pe_frz (pv 4))))))), ?_⟩
    try dsimp only [cxOf]
    walk_at "st"
    refine s_ixT (SqT.of hp) atI_lit0 ?_
    walk_at "st"
    refine s_kinds B f1 fun kd H1 hk1 hkd => ?_
    obtain ⟨u1, n1⟩ := hk1
    walk_at "st"
    refine s_newL (by simp) fun l H2 n2 => ?_
    walk_at "st"
    have f02 : Fr TT [] H H2 [] := n1.fr.trans n2.fr
    have hlN : H l = none := (n1.fr (T := TT) (fp := [])).dom l n2.no
    obtain ⟨kvs, hkvs, hval⟩ := hkd
    refine s_ixT (SqT.of (f02.tup hp)) atI_lit1 ?_
    walk_at "st"
    refine s_ixL (sqF (f02.frz hy)) (atI_nat edv) ?_
    walk_at "st"
    refine s_ixT (SqT.of (f02.tup hpd)) atI_lit1 ?_
    refine s_IlR (sqF (f02.frz hz)) ?_
    refine forJ (T := TT) (gives_list (xs := zs)) (fun i σ H' => ∃ a1 a2 xs, ∃ ks : List Ky, σ = [some (.ref pb), some (.ref w), some (.int di), some (.ref kd), some (.ref l), a1, a2] ∧ Fr TT [] H H' [] ∧ H' kd = some (.dK kvs) ∧ H' l = some (.lst xs) ∧ FzA H' xs (ks.map kyD) ∧ ks.map (·.1) = ((dlOf b di).lets.take i).map (·.2) ∧ ∀ k ∈ ks, KyOk b k ∧ k.2 ≤ 4 * (ds.length : Int) + 2 + i)
      ⟨_, _, [], [], rfl, f02, n2.old hkvs, n2.at, .nil, rfl, fun _ z => nomatch z⟩ ?_ ?_ ?_
    · rintro i σ H' hi ⟨a1, a2, xs, ks, rfl, f, _⟩
      exact sqF (f.frz hz)
    · rintro i x σ H' H'' hi ⟨a1, a2, xs, ks, rfl, f, hkd1, hl1, fx, ek, hks⟩ f0 hx
      obtain ⟨pd', epd, fpd⟩ := fz.of hx
      rw [List.getElem?_map] at epd
      obtain ⟨pr, epr, rfl⟩ := Option.map_eq_some_iff.mp epd
      obtain ⟨m, hm⟩ := B.lk _ m1 pr (List.mem_of_getElem? epr)
      have fH : Fr TT [] H H'' [] := f.trans f0
      obtain ⟨pt, r1, r2, rfl, hpt, rr1, rr2⟩ := (fH.fz fpd).tup2
      obtain rfl := rr1.str_inv
      obtain rfl := rr2.str_inv
      refine s_gt (SqT.of hpt) rfl ?_
      walk_at "st"
      have hl2 := f0.get hl1 (by simp) trivial
      refine ⟨s_tyL hl2, ?_⟩
      walk_at "st"
      have lx := fx.length
      have lk := congrArg List.length ek
      simp only [List.length_map, List.length_take] at lx lk
      refine ⟨w, l, ps, b, k, ds, xs, ks, pr.2, 4 * (ds.length : Int) + 2 + i, rfl, hs.fr fH (by simp), B, ok, h40, hl2, f0.fza fx, by omega, fun d hd k hk => by have := hM d hd k hk; omega, fun k hk => (hks k hk).2, by omega, fun g H3 f3 g0 gM => ?_⟩
      walk_at "st"
      have hkd3 := f3.get (f0.get hkd1 (by simp) trivial) (by simp) trivial
      refine s_DgetW hkd3 (hval _ _ hm) ?_
      walk_at "st"
      refine s_intB ?_
      refine s_I (.inl ⟨by omega, by omega⟩) ?_
      walk_at "st"
      refine s_newT (by simp) fun tp H4 n4 => ?_
      walk_at "st"
      have hl3 := f3.get hl2 (by simp) trivial
      refine s_appC (n4.old hl3) (by omega) fun H5 c5 => ?_
      walk_at "st"
      have hl4 := n4.old hl3
      have i45 := c5.imm hl4 trivial
      have f4 : Fr TT [] H H4 [] := (fH.trans f3).trans n4.fr
      have f5 : Fr TT [] H H5 [] := c5.back f4 hlN hl4 trivial
      have nkl : kd ≠ l := n2.ne n1.at
      obtain ⟨m', hm', hk0, hk1, hk2⟩ : ∃ m', m' = m ∧ 0 ≤ (g + 1) * (if m' then 1 else 0) ∧ (g + 1) * (if m' then 1 else 0) ≤ 4 * (ds.length : Int) + 2 + ((i + 1 : Nat) : Int) ∧ (m' = false → (g + 1) * (if m' then 1 else 0) = 0) := ⟨m, rfl, by cases m <;> simp <;> omega, by cases m <;> simp <;> omega, fun z => by subst z; simp⟩
      subst hm'
      refine ⟨_, _, xs ++ [.ref tp], ks ++ [(pr.2, (g + 1) * (if m' then 1 else 0))], rfl, f5, c5.old (n4.old hkd3) nkl, c5.at, ?_, ?_, ?_⟩
      · rw [List.map_append]
        exact (((f0.trans f3).trans n4.fr).fza fx |>.keep i45).snoc ((Fz.tup n4.at (.cons (.str _) (.cons (.int _) .nil))).keep i45)
      · rw [List.map_append, ek, List.take_succ, epr]
        simp
      · intro k hk
        obtain hk | hk := List.mem_append.mp hk
        · exact ⟨(hks k hk).1, by have := (hks k hk).2; omega⟩
        · rw [List.mem_singleton] at hk
          subst hk
          exact ⟨⟨m', hm, hk0, hk2⟩, hk1⟩
    · rintro σ H' ⟨a1, a2, xs, ks, rfl, f, hkd1, hl1, fx, ek, hks⟩
      rw [lz, List.take_length] at ek
      walk_at "st"
      refine s_frzM hl1 trivial fun o H3 c3 => ?_
      have i3 := c3.imm hl1 trivial
      exact q _ ks H3 (c3.back f hlN hl1 trivial) (.lst c3.at (fx.keep i3)) ⟨ek, fun k hk => (hks k hk).1⟩ fun k hk => by have := (hks k hk).2; omega
end
end K28
/-! ## K28f7 -/
namespace K28
set_option maxHeartbeats 3900000
open L2 LamX PySem PySem.Spec PyProof.Rows
local macro_rules | `(tactic| walk_at "st") => `(tactic| repeat (first
  | with_reducible refine s_seq ?_ | with_reducible refine s_ret ?_ | with_reducible refine s_retN ?_ | with_reducible refine s_drop ?_ | with_reducible refine s_asg ?_ | with_reducible refine s_gn ?_ | with_reducible refine s_nextq ?_
  | ((with_reducible apply s_var); exact rfl) | with_reducible refine s_c ?_ | with_reducible refine s_op ?_ | with_reducible refine s_I0 ?_ | ((with_reducible refine s_eq ?_ ?_); exact rfl) | ((with_reducible refine s_ne ?_ ?_); exact rfl)
  | with_reducible refine s_test ?_ | with_reducible refine s_tB ?_ | with_reducible refine s_bl ?_ | with_reducible refine s_and ?_ | with_reducible refine s_or ?_ | with_reducible refine s_not ?_ | with_reducible refine s_andV ?_ | with_reducible refine s_orV ?_ | with_reducible refine s_notV ?_
  | with_reducible refine s_blP ?_ | with_reducible refine s_ifS ?_ | with_reducible refine s_nil ?_ | with_reducible refine s_cons ?_ | with_reducible refine s_cb ?_ | with_reducible refine s_call ?_ | with_reducible refine s_tup ?_ | with_reducible refine s_lst ?_
  | with_reducible refine s_isN ?_ | with_reducible refine s_notN ?_ | with_reducible refine s_un ?_ | with_reducible refine s_U ?_ | with_reducible refine s_fld ?_ | with_reducible refine s_put ?_ | with_reducible refine s_meth ?_ | with_reducible refine s_gc ?_ | with_reducible refine s_g0 ?_
  | with_reducible refine s_dz ?_ | with_reducible refine s_make ?_ | with_reducible refine s_m1 ?_ | with_reducible refine s_chain ?_ | with_reducible refine s_iZ ?_ | with_reducible refine s_dput ?_ | with_reducible refine s_dget ?_ | with_reducible refine s_din ?_ | with_reducible refine s_lc ?_ | with_reducible refine s_for ?_ | with_reducible refine s_iL ?_ | with_reducible refine s_iE ?_ | with_reducible refine s_iR1 ?_ | with_reducible refine s_iR2 ?_ | with_reducible refine s_yes ?_
  | with_reducible refine s_frz ?_ | with_reducible refine s_bm ?_ | with_reducible refine s_bm0 ?_ | with_reducible refine s_iff ?_ | with_reducible refine s_ift ?_ | with_reducible refine s_ifnt ?_ | with_reducible refine s_ifnf ?_
  | with_reducible refine s_iT ?_ | with_reducible refine s_iS ?_ | with_reducible refine s_sl ?_ | with_reducible refine s_npart ?_ | with_reducible refine s_part ?_ | with_reducible refine s_PrtR ?_ | with_reducible refine s_pp0 ?_ | with_reducible refine s_pp ?_ | with_reducible refine s_sub ?_ | with_reducible refine s_callS ?_))
section
variable {P : Program} {w : World} {K : PySem.W.Frag} {mg : Str → Option Value} {base : Heap} {TT : List (Addr × Str)}
/-! ### what comes next -/
def isOpn (ds : List D) (j : Nat) : Bool := match ds[j]? with
  | some d => decide (d.word = .opn)
  | none => false
def openS (ds : List D) : List Nat := (List.range ds.length).filter (isOpn ds)
theorem openS_at {ds : List D} {i n : Nat} (h : (openS ds)[i]? = some n) : ∃ d, ds[n]? = some d ∧ d.word = .opn := by
  have hm := List.mem_of_getElem? h
  obtain ⟨h1, h2⟩ := List.mem_filter.mp hm
  unfold isOpn at h2
  cases e : ds[n]? with
  | none => rw [e] at h2; nomatch h2
  | some d =>
    rw [e] at h2
    exact ⟨d, rfl, of_decide_eq_true h2⟩
theorem openS_len {ds : List D} : (openS ds).length ≤ ds.length := by
  have := List.length_filter_le (isOpn ds) (List.range ds.length)
  rw [List.length_range] at this
  exact this
def NextOk (b : Bk) (ds : List D) (rws : List Row) : Prop := rws = [] ∨ (∃ r, rws = [r] ∧ Can b ds r ∧ ∀ n, r ≠ .stp n) ∨ ∃ n d m, rws = List.replicate m (.stp n) ∧ 1 ≤ m ∧ m ≤ 5 ∧ ds[n]? = some d ∧ d.word = .opn ∧ d.told.length + m ≤ (dlOf b d.di).steps.length
theorem Can.rwOk {b : Bk} {ds : List D} {r : Row} (h : Can b ds r) (h40 : ds.length ≤ 40) : RwOk b r := by
  cases r with
  | beg di ks =>
    obtain ⟨c1, c2, c3, c4⟩ := h
    exact ⟨c1, c2, fun q hq => by have := c4 q hq; omega⟩
  | stp n =>
    obtain ⟨d, e, _⟩ := h
    have := (List.getElem?_eq_some_iff.mp e).1
    show n < 40
    omega
  | fin n =>
    obtain ⟨d, e, _⟩ := h
    have := (List.getElem?_eq_some_iff.mp e).1
    show n < 40
    omega
  | drp n =>
    obtain ⟨d, e, _⟩ := h
    have := (List.getElem?_eq_some_iff.mp e).1
    show n < 40
    omega
theorem NextOk.rwOk {b : Bk} {ds : List D} {rws : List Row} (h : NextOk b ds rws) (h40 : ds.length ≤ 40) : ∀ r ∈ rws, RwOk b r := by
  rcases h with rfl | ⟨r, rfl, c, _⟩ | ⟨n, d, m, rfl, _, _, e, _⟩
  · exact fun r hr => nomatch hr
  · intro q hq
    rw [List.mem_singleton] at hq
    subst hq
    exact c.rwOk h40
  · intro q hq
    obtain ⟨_, rfl⟩ := List.mem_replicate.mp hq
    have := (List.getElem?_eq_some_iff.mp e).1
    show n < 40
    omega
theorem Ok.kle {b : Bk} {rs : List Row} {ds : List D} (h : Ok b rs ds) : ∀ d ∈ ds, ∀ q ∈ d.keys, q.2 ≤ 4 * (ds.length : Int) + 2 := by
  induction h with
  | nil => exact fun d hd => nomatch hd
  | snoc h c ih =>
    rename_i rs ds r
    cases r with
    | beg di ks =>
      obtain ⟨c1, c2, c3, c4⟩ := c
      intro d hd q hq
      simp only [doD, List.length_append, List.length_singleton] at hd ⊢
      obtain hd | hd := List.mem_append.mp hd
      · have := ih d hd q hq
        omega
      · rw [List.mem_singleton] at hd
        subst hd
        have := c4 q hq
        omega
    | stp n =>
      obtain ⟨d, e, w, t⟩ := c
      simp only [doD, atN_length]
      rw [atN_some e]
      exact set_all (P := fun d => ∀ q ∈ d.keys, q.2 ≤ 4 * (ds.length : Int) + 2) ih (ih d (List.mem_of_getElem? e))
    | fin n =>
      obtain ⟨d, e, w, t⟩ := c
      simp only [doD, atN_length]
      rw [atN_some e]
      exact set_all (P := fun d => ∀ q ∈ d.keys, q.2 ≤ 4 * (ds.length : Int) + 2) ih (ih d (List.mem_of_getElem? e))
    | drp n =>
      obtain ⟨d, e, w⟩ := c
      simp only [doD, atN_length]
      rw [atN_some e]
      exact set_all (P := fun d => ∀ q ∈ d.keys, q.2 ≤ 4 * (ds.length : Int) + 2) ih (ih d (List.mem_of_getElem? e))
theorem FzA.rep {H : Hp} {v : V} {d : PyData} (h : Fz H v d) : ∀ m : Nat, FzA H (List.replicate m v) (List.replicate m d)
  | 0 => .nil
  | m + 1 => .cons h (FzA.rep h m)
theorem atI6 {x y : V} {r : Int} (h0 : 0 ≤ r) (h6 : r < 6) : atI [x, x, x, x, x, y] r = some (if r = 5 then y else x) := by
  have : r = 0 ∨ r = 1 ∨ r = 2 ∨ r = 3 ∨ r = 4 ∨ r = 5 := by omega
  rcases this with rfl | rfl | rfl | rfl | rfl | rfl <;> rfl
theorem opn_s {x : Wd} : decide (V.str x.s = V.str "open") = decide (x = .opn) := by
  cases x <;> decide +kernel
theorem ints_shaped (ns : List Nat) : SeqAt.shaped (.list (ns.map fun (n : Nat) => PyData.int (n : Int))) = true := list_shaped (fun _ _ => rfl) fun _ _ => by simp [PyData.depth]
theorem FzA.ints {H : Hp} : ∀ ns : List Nat, FzA H (ns.map fun (n : Nat) => V.int (n : Int)) (ns.map fun (n : Nat) => PyData.int (n : Int))
  | [] => .nil
  | n :: ns => .cons (.int _) (FzA.ints ns)
theorem open_snoc {ds : List D} {i : Nat} (hi : i < ds.length) : ((((List.range ds.length).take (i + 1)).filter (isOpn ds)).map fun (n : Nat) => PyData.int (n : Int)) = ((((List.range ds.length).take i).filter (isOpn ds)).map fun (n : Nat) => PyData.int (n : Int)) ++ (if isOpn ds i = true then [PyData.int (i : Int)] else []) := by
  rw [List.take_succ, List.getElem?_range hi, List.filter_append, List.map_append]
  congr 1
  by_cases h : isOpn ds i = true
  · simp [List.filter, h]
  · simp [List.filter, h]
theorem open_le {ds : List D} {i : Nat} : ((((List.range ds.length).take i).filter (isOpn ds)).map fun (n : Nat) => PyData.int (n : Int)).length ≤ ds.length := by
  rw [List.length_map]
  have h1 := List.length_filter_le (isOpn ds) ((List.range ds.length).take i)
  rw [List.length_take, List.length_range] at h1
  omega
theorem open_eq {acc : List V} {H : Hp} {ns : List Nat} (h : FzA H acc (ns.map fun (n : Nat) => PyData.int (n : Int))) : acc = ns.map fun (n : Nat) => V.int (n : Int) := by
  have := ints_eq (f := fun n : Nat => (n : Int)) h
  rw [this, List.map_map]
  rfl
def RwsAt (b : Bk) (H : Hp) (l : Addr) (rws : List Row) : Prop := ∃ xs, H l = some (.lst xs) ∧ FzA H xs (rws.map (rwD b))
theorem sc__law_next : FnScope ["_law_pool_here", "_law_book_here", "_law_world", "_law_most", "_law_span", "_law_opened", "_law_way", "_law_number", "_law_left_here", "_law_deal"] ["_law_pool_here", "_law_book_here", "_law_world", "_law_most", "_law_span"] (defScope s__law_next) := ⟨rfl, rfl, rfl, by decide +kernel, rfl, by decide +kernel, by decide +kernel⟩
def sp__law_next (TT : List (Addr × Str)) : Sp := fun vs H Q _ => ∃ (p : Addr) (v : V) (b : Bk) (w : Addr) (ps : List (Addr × Addr)) (k : Nat) (ds : List D), vs = [.ref p, v, .ref w, .int 40, .int 3] ∧ PoolAt H p ∧ Fz H v (bkD b) ∧ WdAt H w ps ds ∧ BkOk b ∧ (∀ e ∈ ds, DOk b k e) ∧ ds.length ≤ 40 ∧ p ∉ wfp w ps ∧
  ∀ l rws H', Fr TT [p] H H' [p] → PoolAt H' p → RwsAt b H' l rws → NextOk b ds rws → H l = none → Q (.ref l) H'
theorem k__law_next {fd : FuncData} (T : Tx K mg) (F : FunD K "_law_next" "_law_next" (defArgs s__law_next) (defBody s__law_next) (defScope s__law_next) [] [] (He.ga K "_law_next") fd) (h__law_draw : Cn P w K mg base 1 (He.ga K "_law_draw") ["_law_pool_here", "_law_many"] (sp__law_draw TT)) (h__law_keys : Cn P w K mg base 2 (He.ga K "_law_keys") ["_law_pool_here", "_law_book_here", "_law_number", "_law_span"] (sp__law_keys TT)) (h__law_left : Cn P w K mg base 1 (He.ga K "_law_left") ["_law_book_here", "_law_deal"] sp__law_left) : Cn P w K mg base 3 (He.ga K "_law_next") ["_law_pool_here", "_law_book_here", "_law_world", "_law_most", "_law_span"] (sp__law_next TT) := by
  refine cn_of F sc__law_next (fun vs H Q E h => ?_) (fun _ _ _ _ _ _ us hl => match us, hl with | [_, _, _, _, _], _ => rfl) fun cdv A outer s H vs Q E hr h => ?_
  · obtain ⟨p, v, b, w, ps, k, ds, rfl, _⟩ := h
    rfl
  · obtain ⟨p, v, b, w, ps, k, ds, rfl, hP, hv, hs, B, ok, h40, np, q⟩ := h
    obtain ⟨pb, x, y, rfl, hp, f1, f2⟩ := id hv.tup2
    obtain ⟨py, oy, ys, rfl, hy, fy⟩ := f2.lst_inv
    have ly := fy.length
    rw [List.length_map] at ly
    refine ⟨_, PSs.nox (pss_cons (ps_setLc (i := 5) rfl sc__law_next.nd rfl rfl (sw_true rfl rfl rfl (by decide +kernel)) (own := [("_law_number", 7), ("_law_deal", 9)]) (g := (gTup K 2 (gCons (gName 7) (gCons (gName 9) gNil)))) (pi_enum rfl T.f_enumerate (pa_cons (pv 2) pa_nil)) (blkOk_by (N := ["_law_pool_here", "_law_book_here", "_law_world", "_law_most", "_law_span", "_law_opened", "_law_way", "_law_number", "_law_left_here", "_law_deal"]) (sc := defScope s__law_next) (by decide +kernel)) (fun _ _ _ _ _ => (pg_tup rfl (pgs_cons (pg_name (i := 7) sc__law_next.nd rfl (by first | exact Or.inl rfl | exact Or.inr rfl)) (pgs_cons (pg_name (i := 9) sc__law_next.nd rfl (by first | exact Or.inl rfl | exact Or.inr rfl)) pgs_nil)))) (fun _ _ _ _ _ => (pts_one (pt_cmpR op_eq (pe_dget (hu_of hr) (pv 9) pe_str fun _ _ => rfl) pe_str (nomark _)))) (fun _ _ _ _ _ => (pv 7))) (pss_cons (ps_set (i := 6) sc__law_next.nd rfl (by first | exact Or.inl rfl | exact Or.inr rfl) (pe_cn h__law_draw (hr.mono (by decide)) rfl T.g__law_draw passL (pa_cons (pv 0) (pa_cons pe_int pa_nil)))) (pss_cons (ps_if (PW.pt (pw_and (pt_cmpR op_lt (pe_callB call_lenQ rfl T.f_len (by decide +kernel) (pa_cons (pv 2) pa_nil)) (pv 3) (nomark _)) (pw_and1 (PW.pt (pw_or (pt_cmpR (op_eqD hr.units) (pv 5) (pe_lst pa_nil) (nomark _)) (pw_or1 (pt_cmpR op_eq (pv 6) pe_int (nomark _)))))))) (pss_cons (ps_set (i := 7) sc__law_next.nd rfl (by first | exact Or.inl rfl | exact Or.inr rfl) (pe_cn h__law_draw (hr.mono (by decide)) rfl T.g__law_draw passL (pa_cons (pv 0) (pa_cons (pe_callB call_lenQ rfl T.f_len (by decide +kernel) (pa_cons (pe_ix ix_tup (pv 1) pe_int fun _ _ => rfl) pa_nil)) pa_nil)))) (pss_one (ps_ret (pe_lst (pa_cons (pe_tup (pa_cons pe_str (pa_cons (pe_ix ix_tup (pe_ix ix_list (pe_ix ix_tup (pv 1) pe_int fun _ _ => rfl) (pv 7) fun _ _ => rfl) pe_int fun _ _ => rfl) (pa_cons (pe_cn h__law_keys (hr.mono (by decide)) rfl T.g__law_keys passL (pa_cons (pv 0) (pa_cons (pv 1) (pa_cons (pv 7) (pa_cons (pv 4) pa_nil))))) pa_nil)))) pa_nil))))) pss_nil) (pss_cons (ps_if (pt_cmpR (op_eqD hr.units) (pv 5) (pe_lst pa_nil) (nomark _)) (pss_one (ps_ret (pe_lst pa_nil))) pss_nil) (pss_cons (ps_set (i := 7) sc__law_next.nd rfl (by first | exact Or.inl rfl | exact Or.inr rfl) (pe_ix ix_list (pv 5) (pe_cn h__law_draw (hr.mono (by decide)) rfl T.g__law_draw passL (pa_cons (pv 0) (pa_cons (pe_callB call_lenQ rfl T.f_len (by decide +kernel) (pa_cons (pv 5) pa_nil)) pa_nil))) fun _ _ => rfl)) (pss_cons (ps_set (i := 8) sc__law_next.nd rfl (by first | exact Or.inl rfl | exact Or.inr rfl) (pe_cn h__law_left (hr.mono (by decide)) rfl T.g__law_left passL (pa_cons (pv 1) (pa_cons (pe_ix ix_list (pv 2) (pv 7) fun _ _ => rfl) pa_nil)))) (pss_cons (ps_if (pt_cmpR op_eq (pv 8) pe_int (nomark _)) (pss_one (ps_ret (pe_lst (pa_cons (pe_tup (pa_cons (pe_ix ix_list (pe_lst (pa_cons pe_str (pa_cons pe_str (pa_cons pe_str (pa_cons pe_str (pa_cons pe_str (pa_cons pe_str pa_nil))))))) (pe_cn h__law_draw (hr.mono (by decide)) rfl T.g__law_draw passL (pa_cons (pv 0) (pa_cons pe_int pa_nil))) fun _ _ => rfl) (pa_cons (pv 7) pa_nil))) pa_nil)))) pss_nil) (pss_cons (ps_if (pt_cmpR op_eq (pe_cn h__law_draw (hr.mono (by decide)) rfl T.g__law_draw passL (pa_cons (pv 0) (pa_cons pe_int pa_nil))) pe_int (nomark _)) (pss_one (ps_ret (pe_lst (pa_cons (pe_tup (pa_cons pe_str (pa_cons (pv 7) pa_nil))) pa_nil)))) pss_nil) (pss_one (ps_ret (pe_op op_rep (pe_lst (pa_cons (pe_tup (pa_cons pe_str (pa_cons (pv 7) pa_nil))) pa_nil)) (pe_callB (call_minQ rfl) rfl T.f_min (by decide +kernel) (pa_cons (pv 8) (pa_cons (pe_op op_add pe_int (pe_cn h__law_draw (hr.mono (by decide)) rfl T.g__law_draw passL (pa_cons (pv 0) (pa_cons pe_int pa_nil)))) pa_nil)))))))))))))), ?_⟩
    try dsimp only [cxOf]
    walk_at "st"
    refine s_IeR (SqL.of hs.wl) ?_
    refine lcJ (T := TT) (gives_enum (xs := ps.map fun p => V.ref p.1)) [] (fun _ _ => True) (fun i => (((List.range ds.length).take i).filter (isOpn ds)).map fun (n : Nat) => PyData.int (n : Int)) (fun _ z => nomatch z) trivial (by simp) (fun _ _ _ _ _ _ => trivial) (fun i H' _ f => f.sqL (SqL.of hs.wl) (by simp)) (fun i => Nat.lt_of_le_of_lt open_le (by omega)) ?_ ?_
    · rintro i x H' H'' hi _ f f0 ⟨tp, xi, rfl, htp, hx⟩ Y N yes no
      rw [List.getElem?_map] at hx
      obtain ⟨r, er, rfl⟩ := Option.map_eq_some_iff.mp hx
      obtain ⟨e, ee⟩ := deal_of er hs.len
      obtain ⟨kv, ha, _⟩ := ((hs.fr (f.trans f0) (by simp)).at_ i r e er ee).ex
      have eo := open_snoc (ds := ds) (i := i) (List.getElem?_eq_some_iff.mp ee).1
      have ei : isOpn ds i = decide (e.word = .opn) := by unfold isOpn; rw [ee]
      refine s_gt (SqT.of htp) rfl ?_
      walk_at "st"
      refine ⟨rfl, ?_⟩
      walk_at "st"
      refine s_DgetW ha rfl ?_
      walk_at "st"
      rw [opn_s, ← ei]
      cases hb : isOpn ds i with
      | true =>
        rw [hb, if_pos rfl] at eo
        walk_at "st"
        exact yes _ _ (.int i) .refl eo (.int _) trivial
      | false =>
        rw [hb, if_neg Bool.false_ne_true, List.append_nil] at eo
        walk_at "st"
        exact no _ .refl eo trivial
    · intro D' H1 acc hD _ f01 hacc facc
      rw [List.length_map, hs.len, List.take_of_length_le (by rw [List.length_range]; exact Nat.le_refl _)] at facc
      change FzA H1 acc ((openS ds).map fun n => PyData.int ((n : Nat) : Int)) at facc
      have eacc := open_eq facc
      have nPD := hP.ne hD
      have f01p : Fr TT [p] H H1 [p] := f01.up (by simp)
      walk_at "st"
      refine ⟨p, 4, rfl, hP.fr f01 (by simp), by decide, by decide, fun way H2 w0 w4 f12 hP2 => ?_⟩
      have f02 : Fr TT [p] H H2 [p] := f01p.trans f12
      have hacc2 := f12.get hacc (by simpa using nPD.symm) trivial
      have hs2 := hs.fr f02 (by simp; exact fun b hb z => np (z ▸ hb))
      walk_at "st"
      refine s_lenL (SqL.of hs2.wl) ?_
      walk_at "st"
      rw [List.length_map, hs.len]
      have lacc : acc.length = (openS ds).length := by rw [eacc, List.length_map]
      have eqo : ∀ {H' : Hp} {l0 : Addr}, H' D' = some (.lst acc) → H' l0 = some (.lst []) → ∀ {QQ : VK}, QQ (.bl (openS ds).isEmpty) H' → rEqD K (.ref D') (.ref l0) H' QQ := fun {H' l0} h1 h2 {QQ} qq =>
        s_eqD (.lst (SqL.of h1) (by rw [eacc]; exact (FzA.ints _).dp)) (.lst (SqL.of h2) .nil) (ints_shaped (openS ds)) nil_shaped (by rw [eqv_nilL, List.isEmpty_map]; exact qq)
      by_cases hlt : ds.length < 40
      rw [decide_eq_true (show (ds.length : Int) < 40 by omega)]
      walk_at "st"
      refine s_newL (by simp) fun l0 H3 n3 => ?_
      have f03 : Fr TT [p] H H3 [p] := f02.trans n3.fr
      have hacc3 := n3.old hacc2
      have hP3 := hP2.fr (n3.fr (T := TT) (fp := [])) (by simp)
      refine eqo hacc3 n3.at ?_
      have three : (openS ds).isEmpty = true ∨ ((openS ds).isEmpty = false ∧ way = 0) ∨ ((openS ds).isEmpty = false ∧ way ≠ 0) := by
        cases (openS ds).isEmpty
        · by_cases h : way = 0
          · exact .inr (.inl ⟨rfl, h⟩)
          · exact .inr (.inr ⟨rfl, h⟩)
        · exact .inl rfl
      clear l0 n3
      rcases three with hb | ⟨hb, hw⟩ | ⟨hb, hw⟩
      rw [hb]
      walk_at "st"
      rotate_left
      rw [hb]
      walk_at "st"
      rw [decide_eq_true (show V.int way = V.int 0 by rw [hw])]
      walk_at "st"
      rotate_left
      rw [hb]
      walk_at "st"
      rw [decide_eq_false (show ¬ V.int way = V.int 0 from fun z => hw (V.int.inj z))]
      walk_at "st"
      rotate_left
      rw [decide_eq_false (show ¬ (ds.length : Int) < 40 by omega)]
      walk_at "st"
      obtain ⟨H3, e3⟩ : ∃ H3, H3 = H2 := ⟨H2, rfl⟩
      have f03 : Fr TT [p] H H3 [p] := by rw [e3]; exact f02
      have hacc3 : H3 D' = some (.lst acc) := by rw [e3]; exact hacc2
      have hP3 : PoolAt H3 p := by rw [e3]; exact hP2
      rw [← e3]
      clear e3
      rotate_left
      iterate 2
        refine s_ixT (SqT.of (f03.tup hp)) atI_lit1 ?_
        walk_at "st"
        refine s_lenL (sqF (f03.frz hy)) ?_
        rw [ly]
        walk_at "st"
        refine ⟨p, b.deals.length, rfl, hP3, by have := B.d0; omega, by have := B.d4; omega, fun r H4 r0 r1 f34 hP4 => ?_⟩
        obtain ⟨di, rfl⟩ : ∃ di : Nat, r = di := ⟨r.toNat, by omega⟩
        have hdi : di < b.deals.length := by omega
        obtain ⟨e1, m1⟩ := dlOf_mem hdi
        obtain ⟨dv, edv, fdv⟩ := fy.at (i := di) (d := dlD (dlOf b di)) (by rw [List.getElem?_map, e1]; rfl)
        obtain ⟨pd, z1, z2, z3, rfl, hpd, g1, g2, g3⟩ := fdv.tup3
        obtain rfl := g1.str_inv
        have f04 : Fr TT [p] H H4 [p] := f03.trans f34
        walk_at "st"
        refine s_ixT (SqT.of (f04.tup hp)) atI_lit1 ?_
        walk_at "st"
        refine s_ixL (sqF (f04.frz hy)) (atI_nat edv) ?_
        walk_at "st"
        refine s_ixT (SqT.of (f04.tup hpd)) atI_lit0 ?_
        walk_at "st"
        refine ⟨p, _, b, di, rfl, hP4, f04.fz hv, B, hdi, fun v' ks H5 f45 hP5 fk hks h2 => ?_⟩
        walk_at "st"
        refine s_newT (by simp) fun tp H6 n6 => ?_
        walk_at "st"
        refine s_newL (by simp) fun l H7 n7 => ?_
        have f57 : Fr TT [p] H5 H7 [p] := n6.fr.trans n7.fr
        have f07 : Fr TT [p] H H7 [p] := (f04.trans f45).trans f57
        refine q l [.beg di ks] H7 f07 (hP5.fr ((n6.fr (T := TT) (fp := [])).trans n7.fr) (by simp)) ⟨_, n7.at, .cons (.tup (n7.old n6.at) (.cons (.str _) (.cons ?_ (.cons (f57.fz fk) .nil)))) .nil⟩ (.inr (.inl ⟨_, rfl, ⟨hdi, hks, hlt, fun k hk => by have := h2 k hk; omega⟩, fun n z => nomatch z⟩)) ?_
        · rw [nmOf_eq hdi]
          exact .str _
        · exact ((f04.trans f45).trans n6.fr).dom l n7.no
      iterate 2
        refine s_newL (by simp) fun l1 H4 n4 => ?_
        have f04 : Fr TT [p] H H4 [p] := f03.trans n4.fr
        have hacc4 := n4.old hacc3
        have hP4 := hP3.fr (n4.fr (T := TT) (fp := [])) (by simp)
        refine eqo hacc4 n4.at ?_
        clear l1 n4
        cases hE : (openS ds).isEmpty with
        | true =>
          walk_at "st"
          refine s_newL (by simp) fun l H5 n5 => ?_
          exact q l [] H5 (f04.trans n5.fr) (hP4.fr (n5.fr (T := TT) (fp := [])) (by simp)) ⟨_, n5.at, .nil⟩ (.inl rfl) (f04.dom l n5.no)
        | false =>
          have hpos : 0 < (openS ds).length := by
            cases h : openS ds with
            | nil => rw [h] at hE; cases hE
            | cons _ _ => simp
          have hle := openS_len (ds := ds)
          walk_at "st"
          refine s_lenL (SqL.of hacc4) ?_
          rw [lacc]
          walk_at "st"
          refine ⟨p, (openS ds).length, rfl, hP4, by omega, by omega, fun r H5 r0 r1 f45 hP5 => ?_⟩
          obtain ⟨i, rfl⟩ : ∃ i : Nat, r = i := ⟨r.toNat, by omega⟩
          have hi : i < (openS ds).length := by omega
          have ei : (openS ds)[i]? = some (openS ds)[i] := List.getElem?_eq_getElem hi
          obtain ⟨d, ed, hw⟩ := openS_at ei
          generalize (openS ds)[i] = n at ei ed
          obtain ⟨p2, ep2⟩ := pair_of ed hs.len
          have okd := ok d (List.mem_of_getElem? ed)
          have f05 : Fr TT [p] H H5 [p] := f04.trans f45
          have hacc5 := f45.get hacc4 (by simpa using nPD.symm) trivial
          have hs5 := hs.fr f05 (by simp; exact fun b hb z => np (z ▸ hb))
          refine s_ixL (SqL.of hacc5) (atI_nat (v := .int n) (by rw [eacc, List.getElem?_map, ei]; rfl)) ?_
          walk_at "st"
          refine s_ixL (SqL.of hs5.wl) (atI_nat (v := .ref p2.1) (by rw [List.getElem?_map, ep2]; rfl)) ?_
          walk_at "st"
          refine ⟨_, b, p2.1, p2.2, d, rfl, f05.fz hv, hs5.at_ n p2 d ep2 ed, okd.di, ?_⟩
          walk_at "st"
          have tl := okd.tl
          by_cases hl : d.told.length = (dlOf b d.di).steps.length
          · rw [decide_eq_true (show V.int (((dlOf b d.di).steps.length : Int) - (d.told.length : Int)) = V.int 0 by rw [show ((dlOf b d.di).steps.length : Int) - (d.told.length : Int) = 0 by omega])]
            walk_at "st"
            refine s_newL (by simp) fun l6 H6 n6 => ?_
            walk_at "st"
            refine ⟨p, 6, rfl, hP5.fr (n6.fr (T := TT) (fp := [])) (by simp), by decide, by decide, fun r H7 r0 r1 f67 hP7 => ?_⟩
            have np6 := hP5.ne n6.no
            have f07 : Fr TT [p] H H7 [p] := (f05.trans n6.fr).trans f67
            refine s_ixL (SqL.of (f67.get n6.at (by simpa using np6.symm) trivial)) (atI6 r0 r1) ?_
            by_cases h5 : r = 5
            · rw [if_pos h5]
              walk_at "st"
              refine s_newT (by simp) fun tp H8 n8 => ?_
              walk_at "st"
              refine s_newL (by simp) fun l H9 n9 => ?_
              exact q l [.drp n] H9 ((f07.trans n8.fr).trans n9.fr) (hP7.fr ((n8.fr (T := TT) (fp := [])).trans n9.fr) (by simp)) ⟨_, n9.at, .cons (.tup (n9.old n8.at) (.cons (.str _) (.cons (.int _) .nil))) .nil⟩ (.inr (.inl ⟨_, rfl, ⟨d, ed, hw⟩, fun n z => nomatch z⟩)) ((f07.trans n8.fr).dom l n9.no)
            · rw [if_neg h5]
              walk_at "st"
              refine s_newT (by simp) fun tp H8 n8 => ?_
              walk_at "st"
              refine s_newL (by simp) fun l H9 n9 => ?_
              exact q l [.fin n] H9 ((f07.trans n8.fr).trans n9.fr) (hP7.fr ((n8.fr (T := TT) (fp := [])).trans n9.fr) (by simp)) ⟨_, n9.at, .cons (.tup (n9.old n8.at) (.cons (.str _) (.cons (.int _) .nil))) .nil⟩ (.inr (.inl ⟨_, rfl, ⟨d, ed, hw, hl⟩, fun n z => nomatch z⟩)) ((f07.trans n8.fr).dom l n9.no)
          · rw [decide_eq_false (show ¬ V.int (((dlOf b d.di).steps.length : Int) - (d.told.length : Int)) = V.int 0 from fun z => by have := V.int.inj z; omega)]
            walk_at "st"
            refine ⟨p, 12, rfl, hP5, by decide, by decide, fun r H6 r0 r1 f56 hP6 => ?_⟩
            have f06 : Fr TT [p] H H6 [p] := f05.trans f56
            walk_at "st"
            by_cases h0 : r = 0
            · rw [decide_eq_true (show V.int r = V.int 0 by rw [h0])]
              walk_at "st"
              refine s_newT (by simp) fun tp H8 n8 => ?_
              walk_at "st"
              refine s_newL (by simp) fun l H9 n9 => ?_
              exact q l [.drp n] H9 ((f06.trans n8.fr).trans n9.fr) (hP6.fr ((n8.fr (T := TT) (fp := [])).trans n9.fr) (by simp)) ⟨_, n9.at, .cons (.tup (n9.old n8.at) (.cons (.str _) (.cons (.int _) .nil))) .nil⟩ (.inr (.inl ⟨_, rfl, ⟨d, ed, hw⟩, fun n z => nomatch z⟩)) ((f06.trans n8.fr).dom l n9.no)
            · rw [decide_eq_false (show ¬ V.int r = V.int 0 from fun z => h0 (V.int.inj z))]
              walk_at "st"
              refine s_newT (by simp) fun tp H8 n8 => ?_
              walk_at "st"
              refine s_newL (by simp) fun l9 H9 n9 => ?_
              walk_at "st"
              have hP9 := hP6.fr ((n8.fr (T := TT) (fp := [])).trans n9.fr) (by simp)
              have f09 : Fr TT [p] H H9 [p] := (f06.trans n8.fr).trans n9.fr
              refine ⟨p, 5, rfl, hP9, by decide, by decide, fun r2 H10 r20 r21 f910 hP10 => ?_⟩
              walk_at "st"
              refine s_min2 ?_
              have np9 : p ≠ l9 := (hP6.fr (n8.fr (T := TT) (fp := [])) (by simp)).ne n9.no
              obtain ⟨m, em, m1, m5, ml⟩ : ∃ m : Nat, (if 1 + r2 < ((dlOf b d.di).steps.length : Int) - (d.told.length : Int) then 1 + r2 else ((dlOf b d.di).steps.length : Int) - (d.told.length : Int)) = m ∧ 1 ≤ m ∧ m ≤ 5 ∧ d.told.length + m ≤ (dlOf b d.di).steps.length := by
                split
                · exact ⟨(1 + r2).toNat, by omega, by omega, by omega, by omega⟩
                · exact ⟨(dlOf b d.di).steps.length - d.told.length, by omega, by omega, by omega, by omega⟩
              rw [em]
              refine s_rep (f910.get n9.at (by simpa using np9.symm) trivial) (by simp; omega) (by omega) fun l H11 n11 => ?_
              have f911 : Fr TT [p] H9 H11 [p] := f910.trans n11.fr
              refine q l (List.replicate m (.stp n)) H11 (f09.trans f911) (hP10.fr (n11.fr (T := TT) (fp := [])) (by simp)) ⟨_, n11.at, ?_⟩ (.inr (.inr ⟨n, d, m, rfl, m1, m5, ed, hw, ml⟩)) ((f09.trans f910).dom l n11.no)
              rw [List.map_replicate, List.flatten_replicate_singleton]
              exact FzA.rep (.tup (f911.tup (n9.old n8.at)) (.cons (.str _) (.cons (.int _) .nil))) m
end
end K28
/-! ## K28f8 -/
namespace K28
set_option maxHeartbeats 3900000
open L2 LamX PySem PySem.Spec PyProof.Rows
local macro_rules | `(tactic| walk_at "st") => `(tactic| repeat (first
  | with_reducible refine s_seq ?_ | with_reducible refine s_ret ?_ | with_reducible refine s_retN ?_ | with_reducible refine s_drop ?_ | with_reducible refine s_asg ?_ | with_reducible refine s_gn ?_ | with_reducible refine s_nextq ?_
  | ((with_reducible apply s_var); exact rfl) | with_reducible refine s_c ?_ | with_reducible refine s_op ?_ | with_reducible refine s_I0 ?_ | ((with_reducible refine s_eq ?_ ?_); exact rfl) | ((with_reducible refine s_ne ?_ ?_); exact rfl)
  | with_reducible refine s_test ?_ | with_reducible refine s_tB ?_ | with_reducible refine s_bl ?_ | with_reducible refine s_and ?_ | with_reducible refine s_or ?_ | with_reducible refine s_not ?_ | with_reducible refine s_andV ?_ | with_reducible refine s_orV ?_ | with_reducible refine s_notV ?_
  | with_reducible refine s_blP ?_ | with_reducible refine s_ifS ?_ | with_reducible refine s_nil ?_ | with_reducible refine s_cons ?_ | with_reducible refine s_cb ?_ | with_reducible refine s_call ?_ | with_reducible refine s_tup ?_ | with_reducible refine s_lst ?_
  | with_reducible refine s_isN ?_ | with_reducible refine s_notN ?_ | with_reducible refine s_un ?_ | with_reducible refine s_U ?_ | with_reducible refine s_fld ?_ | with_reducible refine s_put ?_ | with_reducible refine s_meth ?_ | with_reducible refine s_gc ?_ | with_reducible refine s_g0 ?_
  | with_reducible refine s_dz ?_ | with_reducible refine s_make ?_ | with_reducible refine s_m1 ?_ | with_reducible refine s_chain ?_ | with_reducible refine s_iZ ?_ | with_reducible refine s_dput ?_ | with_reducible refine s_dget ?_ | with_reducible refine s_din ?_ | with_reducible refine s_lc ?_ | with_reducible refine s_for ?_ | with_reducible refine s_iL ?_ | with_reducible refine s_iE ?_ | with_reducible refine s_iR1 ?_ | with_reducible refine s_iR2 ?_ | with_reducible refine s_yes ?_
  | with_reducible refine s_frz ?_ | with_reducible refine s_bm ?_ | with_reducible refine s_bm0 ?_ | with_reducible refine s_iff ?_ | with_reducible refine s_ift ?_ | with_reducible refine s_ifnt ?_ | with_reducible refine s_ifnf ?_
  | with_reducible refine s_iT ?_ | with_reducible refine s_iS ?_ | with_reducible refine s_sl ?_ | with_reducible refine s_npart ?_ | with_reducible refine s_part ?_ | with_reducible refine s_PrtR ?_ | with_reducible refine s_pp0 ?_ | with_reducible refine s_pp ?_ | with_reducible refine s_sub ?_ | with_reducible refine s_callS ?_))
section
variable {P : Program} {w : World} {K : PySem.W.Frag} {mg : Str → Option Value} {base : Heap} {TT : List (Addr × Str)}
/-! ### some rows -/
theorem sc__law_some : FnScope ["_law_pool_here", "_law_book_here", "_law_world", "_law_opened", "_law_some_here", "_law_number", "_law_deal", "_law_name", "_law_letters", "_law_steps_here"] ["_law_pool_here", "_law_book_here", "_law_world"] (defScope s__law_some) := ⟨rfl, rfl, rfl, by decide +kernel, rfl, by decide +kernel, by decide +kernel⟩
def sp__law_some (TT : List (Addr × Str)) : Sp := fun vs H Q _ => ∃ (p : Addr) (v : V) (b : Bk) (w : Addr) (ps : List (Addr × Addr)) (rs : List Row) (ds : List D), vs = [.ref p, v, .ref w] ∧ PoolAt H p ∧ Fz H v (bkD b) ∧ WdAt H w ps ds ∧ BkOk b ∧ Ok b rs ds ∧ p ∉ wfp w ps ∧
  ∀ l rws H', Fr TT [p] H H' [p] → PoolAt H' p → RwsAt b H' l rws → NextOk b ds rws → H l = none → Q (.ref l) H'
theorem k__law_some {fd : FuncData} (T : Tx K mg) (F : FunD K "_law_some" "_law_some" (defArgs s__law_some) (defBody s__law_some) (defScope s__law_some) [] [] (He.ga K "_law_some") fd) (h__law_draw : Cn P w K mg base 1 (He.ga K "_law_draw") ["_law_pool_here", "_law_many"] (sp__law_draw TT)) (h__law_next : Cn P w K mg base 3 (He.ga K "_law_next") ["_law_pool_here", "_law_book_here", "_law_world", "_law_most", "_law_span"] (sp__law_next TT)) (h__law_fresh : Cn P w K mg base 2 (He.ga K "_law_fresh") ["_law_book_here", "_law_world", "_law_number"] (sp__law_fresh TT)) : Cn P w K mg base 4 (He.ga K "_law_some") ["_law_pool_here", "_law_book_here", "_law_world"] (sp__law_some TT) := by
  refine cn_of F sc__law_some (fun vs H Q E h => ?_) (fun _ _ _ _ _ _ us hl => match us, hl with | [_, _, _], _ => rfl) fun cdv A outer s H vs Q E hr h => ?_
  · obtain ⟨p, v, b, w, ps, rs, ds, rfl, _⟩ := h
    rfl
  · obtain ⟨p, v, b, w, ps, rs, ds, rfl, hP, hv, hs, B, okr, np, q⟩ := h
    obtain ⟨h40, ok⟩ := okr.inv B
    obtain ⟨pb, x, y, rfl, hp, f1, f2⟩ := id hv.tup2
    obtain ⟨py, oy, ys, rfl, hy, fy⟩ := f2.lst_inv
    have ly := fy.length
    rw [List.length_map] at ly
    refine ⟨_, PSs.nox (pss_cons (ps_setLc (i := 3) rfl sc__law_some.nd rfl rfl (sw_true rfl rfl rfl (by decide +kernel)) (own := [("_law_number", 5), ("_law_deal", 6)]) (g := (gTup K 2 (gCons (gName 5) (gCons (gName 6) gNil)))) (pi_enum rfl T.f_enumerate (pa_cons (pv 2) pa_nil)) (blkOk_by (N := ["_law_pool_here", "_law_book_here", "_law_world", "_law_opened", "_law_some_here", "_law_number", "_law_deal", "_law_name", "_law_letters", "_law_steps_here"]) (sc := defScope s__law_some) (by decide +kernel)) (fun _ _ _ _ _ => (pg_tup rfl (pgs_cons (pg_name (i := 5) sc__law_some.nd rfl (by first | exact Or.inl rfl | exact Or.inr rfl)) (pgs_cons (pg_name (i := 6) sc__law_some.nd rfl (by first | exact Or.inl rfl | exact Or.inr rfl)) pgs_nil)))) (fun _ _ _ _ _ => (pts_one (pt_cmpR op_eq (pe_dget (hu_of hr) (pv 6) pe_str fun _ _ => rfl) pe_str (nomark _)))) (fun _ _ _ _ _ => (pv 5))) (pss_cons (ps_if (PW.pt (pw_and (pt_cmpR (op_neD hr.units) (pv 3) (pe_lst pa_nil) (nomark _)) (pw_and1 (pt_cmpR op_eq (pe_cn h__law_draw (hr.mono (by decide)) rfl T.g__law_draw passL (pa_cons (pv 0) (pa_cons pe_int pa_nil))) pe_int (nomark _))))) (pss_one (ps_ret (pe_lst (pa_cons (pe_tup (pa_cons pe_str (pa_cons (pe_ix ix_list (pv 3) (pe_cn h__law_draw (hr.mono (by decide)) rfl T.g__law_draw passL (pa_cons (pv 0) (pa_cons (pe_callB call_lenQ rfl T.f_len (by decide +kernel) (pa_cons (pv 3) pa_nil)) pa_nil))) fun _ _ => rfl) pa_nil))) pa_nil)))) pss_nil) (pss_cons (ps_set (i := 4) sc__law_some.nd rfl (by first | exact Or.inl rfl | exact Or.inr rfl) (pe_cn h__law_next (hr.mono (by decide)) rfl T.g__law_next passL (pa_cons (pv 0) (pa_cons (pv 1) (pa_cons (pv 2) (pa_cons pe_int (pa_cons pe_int pa_nil))))))) (pss_cons (ps_if (PW.pt (pw_and (pt_cmpR (op_neD hr.units) (pv 4) (pe_lst pa_nil) (nomark _)) (pw_and (pt_cmpR op_eq (pe_ix ix_tup (pe_ix ix_list (pv 4) pe_int fun _ _ => rfl) pe_int fun _ _ => rfl) pe_str (nomark _)) (pw_and1 (pt_cmpR op_eq (pe_cn h__law_draw (hr.mono (by decide)) rfl T.g__law_draw passL (pa_cons (pv 0) (pa_cons pe_int pa_nil))) pe_int (nomark _)))))) (pss_cons (ps_set (i := 5) sc__law_some.nd rfl (by first | exact Or.inl rfl | exact Or.inr rfl) (pe_bm PySem.F.plainAttrs_list PySem.F.slot_list_index PySem.F.type_list_index mt_index (pe_lc (own := [("_law_name", 7), ("_law_letters", 8), ("_law_steps_here", 9)]) (g := (gTup K 3 (gCons (gName 7) (gCons (gName 8) (gCons (gName 9) gNil))))) (tt := tYes) rfl sc__law_some.nd (pi_list (pe_ix ix_tup (pv 1) pe_int fun _ _ => rfl)) (blkOk_by (N := ["_law_pool_here", "_law_book_here", "_law_world", "_law_opened", "_law_some_here", "_law_number", "_law_deal", "_law_name", "_law_letters", "_law_steps_here"]) (sc := defScope s__law_some) (by decide +kernel)) (fun _ _ _ _ _ => (pg_tup rfl (pgs_cons (pg_name (i := 7) sc__law_some.nd rfl (by first | exact Or.inl rfl | exact Or.inr rfl)) (pgs_cons (pg_name (i := 8) sc__law_some.nd rfl (by first | exact Or.inl rfl | exact Or.inr rfl)) (pgs_cons (pg_name (i := 9) sc__law_some.nd rfl (by first | exact Or.inl rfl | exact Or.inr rfl)) pgs_nil))))) (fun _ _ _ _ _ => pts_nil) (fun _ _ _ _ _ => (pv 7))) (pa_cons (pe_ix ix_tup (pe_ix ix_list (pv 4) pe_int fun _ _ => rfl) pe_int fun _ _ => rfl) pa_nil))) (pss_one (ps_ret (pe_lst (pa_cons (pe_tup (pa_cons pe_str (pa_cons (pe_ix ix_tup (pe_ix ix_list (pv 4) pe_int fun _ _ => rfl) pe_int fun _ _ => rfl) (pa_cons (pe_cn h__law_fresh (hr.mono (by decide)) rfl T.g__law_fresh passL (pa_cons (pv 1) (pa_cons (pv 2) (pa_cons (pv 5) pa_nil)))) pa_nil)))) pa_nil))))) pss_nil) (pss_one (ps_ret (pv 4))))))), ?_⟩
    try dsimp only [cxOf]
    walk_at "st"
    refine s_IeR (SqL.of hs.wl) ?_
    refine lcJ (T := TT) (gives_enum (xs := ps.map fun p => V.ref p.1)) [] (fun _ _ => True) (fun i => (((List.range ds.length).take i).filter (isOpn ds)).map fun (n : Nat) => PyData.int (n : Int)) (fun _ z => nomatch z) trivial (by simp) (fun _ _ _ _ _ _ => trivial) (fun i H' _ f => f.sqL (SqL.of hs.wl) (by simp)) (fun i => Nat.lt_of_le_of_lt open_le (by omega)) ?_ ?_
    · rintro i x H' H'' hi _ f f0 ⟨tp, xi, rfl, htp, hx⟩ Y N yes no
      rw [List.getElem?_map] at hx
      obtain ⟨r, er, rfl⟩ := Option.map_eq_some_iff.mp hx
      obtain ⟨e, ee⟩ := deal_of er hs.len
      obtain ⟨kv, ha, _⟩ := ((hs.fr (f.trans f0) (by simp)).at_ i r e er ee).ex
      have eo := open_snoc (ds := ds) (i := i) (List.getElem?_eq_some_iff.mp ee).1
      have ei : isOpn ds i = decide (e.word = .opn) := by unfold isOpn; rw [ee]
      refine s_gt (SqT.of htp) rfl ?_
      walk_at "st"
      refine ⟨rfl, ?_⟩
      walk_at "st"
      refine s_DgetW ha rfl ?_
      walk_at "st"
      rw [opn_s, ← ei]
      cases hb : isOpn ds i with
      | true =>
        rw [hb, if_pos rfl] at eo
        walk_at "st"
        exact yes _ _ (.int i) .refl eo (.int _) trivial
      | false =>
        rw [hb, if_neg Bool.false_ne_true, List.append_nil] at eo
        walk_at "st"
        exact no _ .refl eo trivial
    · intro D' H1 acc hD _ f01 hacc facc
      rw [List.length_map, hs.len, List.take_of_length_le (by rw [List.length_range]; exact Nat.le_refl _)] at facc
      change FzA H1 acc ((openS ds).map fun n => PyData.int ((n : Nat) : Int)) at facc
      have eacc := open_eq facc
      have nPD := hP.ne hD
      have lacc : acc.length = (openS ds).length := by rw [eacc, List.length_map]
      walk_at "st"
      refine s_newL (by simp) fun l0 H2 n2 => ?_
      have f02 : Fr TT [] H H2 [] := f01.trans n2.fr
      have hacc2 := n2.old hacc
      refine s_neD (.lst (SqL.of hacc2) (by rw [eacc]; exact (FzA.ints _).dp)) (.lst (SqL.of n2.at) .nil) (ints_shaped (openS ds)) nil_shaped ?_
      rw [eqv_nilL, List.isEmpty_map]
      have hP2 := hP.fr f02 (by simp)
      have f02p : Fr TT [p] H H2 [p] := f02.up (by simp)
      clear l0 n2
      -- the rest
      cases hE : (openS ds).isEmpty
      walk_at "st"
      refine ⟨p, 9, rfl, hP2, by decide, by decide, fun r H3 r0 r1 f23 hP3 => ?_⟩
      have f03 : Fr TT [p] H H3 [p] := f02p.trans f23
      have hacc3 := f23.get hacc2 (by simpa using nPD.symm) trivial
      walk_at "st"
      by_cases hr0 : r = 0
      rw [decide_eq_true (show V.int r = V.int 0 by rw [hr0])]
      walk_at "st"
      rotate_left
      rw [decide_eq_false (show ¬ V.int r = V.int 0 from fun z => hr0 (V.int.inj z))]
      walk_at "st"
      clear hr0
      rotate_left
      walk_at "st"
      obtain ⟨H3, e3⟩ : ∃ H3, H3 = H2 := ⟨H2, rfl⟩
      have f03 : Fr TT [p] H H3 [p] := by rw [e3]; exact f02p
      have hP3 : PoolAt H3 p := by rw [e3]; exact hP2
      rw [← e3]
      clear e3
      rotate_left
      · have hpos : 0 < (openS ds).length := by
          cases h : openS ds with
          | nil => rw [h] at hE; cases hE
          | cons _ _ => simp
        have hle := openS_len (ds := ds)
        refine s_lenL (SqL.of hacc3) ?_
        rw [lacc]
        walk_at "st"
        refine ⟨p, (openS ds).length, rfl, hP3, by omega, by omega, fun r H5 r0 r1 f45 hP5 => ?_⟩
        obtain ⟨i, rfl⟩ : ∃ i : Nat, r = i := ⟨r.toNat, by omega⟩
        have hi : i < (openS ds).length := by omega
        have ei : (openS ds)[i]? = some (openS ds)[i] := List.getElem?_eq_getElem hi
        obtain ⟨d, ed, hw⟩ := openS_at ei
        generalize (openS ds)[i] = n at ei ed
        have f05 : Fr TT [p] H H5 [p] := f03.trans f45
        refine s_ixL (SqL.of (f45.get hacc3 (by simpa using nPD.symm) trivial)) (atI_nat (v := .int n) (by rw [eacc, List.getElem?_map, ei]; rfl)) ?_
        walk_at "st"
        refine s_newT (by simp) fun tp H8 n8 => ?_
        walk_at "st"
        refine s_newL (by simp) fun l H9 n9 => ?_
        exact q l [.drp n] H9 ((f05.trans n8.fr).trans n9.fr) (hP5.fr ((n8.fr (T := TT) (fp := [])).trans n9.fr) (by simp)) ⟨_, n9.at, .cons (.tup (n9.old n8.at) (.cons (.str _) (.cons (.int _) .nil))) .nil⟩ (.inr (.inl ⟨_, rfl, ⟨d, ed, hw⟩, fun n z => nomatch z⟩)) ((f05.trans n8.fr).dom l n9.no)
      iterate 2
        have hs3 := hs.fr f03 (by simp; exact fun b hb z => np (z ▸ hb))
        refine ⟨p, _, b, w, ps, rs.length, ds, rfl, hP3, f03.fz hv, hs3, B, ok, h40, np, fun l rws H4 f34 hP4 hrw hnx hl => ?_⟩
        have f04 : Fr TT [p] H H4 [p] := f03.trans f34
        have hlN : H l = none := f03.dom l hl
        have npl : l ≠ p := fun z => hP3.some (by rw [← z]; exact hl)
        obtain ⟨xs, hxs, fxs⟩ := id hrw
        walk_at "st"
        refine s_newL (by simp) fun l1 H5 n5 => ?_
        have f05 : Fr TT [p] H H5 [p] := f04.trans n5.fr
        have hP5 := hP4.fr (n5.fr (T := TT) (fp := [])) (by simp)
        have hxs5 := n5.old hxs
        have fxs5 := (n5.fr (T := TT) (fp := [])).fza fxs
        refine s_neD (.lst (SqL.of hxs5) fxs5.dp) (.lst (SqL.of n5.at) .nil) (rwDs_shaped B (hnx.rwOk h40)) nil_shaped ?_
        rw [eqv_nilL, List.isEmpty_map]
        rcases id hnx with rfl | ⟨r, rfl, can, nst⟩ | ⟨n, d, m, rfl, m1, m5, ed, hw, ml⟩
        · rw [show ([] : List Row).isEmpty = true from rfl]
          walk_at "st"
          exact q l [] H5 f05 hP5 ⟨_, hxs5, fxs5⟩ (.inl rfl) hlN
        · match xs, fxs5 with
          | [rv], .cons fr .nil =>
            rw [show [r].isEmpty = false from rfl]
            walk_at "st"
            refine s_ixL (SqL.of hxs5) atI_lit0 ?_
            walk_at "st"
            cases r with
            | beg di ks =>
              obtain ⟨c1, c2, c3, c4⟩ := id can
              obtain ⟨pv, zs, rfl, hpv, fz⟩ := id fr.tup_inv
              match zs, fz with
              | [_, _, _], .cons (.str _) (.cons (.str _) (.cons fk .nil)) =>
                refine s_ixT (SqT.of hpv) atI_lit0 ?_
                walk_at "st"
                rw [decide_eq_true (show V.str ("begin" : Str) = V.str "begin" from rfl)]
                walk_at "st"
                refine ⟨p, 3, rfl, hP5, by decide, by decide, fun r3 H6 r30 r31 f56 hP6 => ?_⟩
                have f06 : Fr TT [p] H H6 [p] := f05.trans f56
                have hxs6 := f56.get hxs5 (by simpa using npl) trivial
                walk_at "st"
                by_cases h0 : r3 = 0
                · rw [decide_eq_true (show V.int r3 = V.int 0 by rw [h0])]
                  walk_at "st"
                  refine s_ixT (SqT.of (f06.tup hp)) atI_lit1 ?_
                  have hy6 := f06.frz hy
                  refine s_IlR (sqF hy6) ?_
                  refine lcJ (T := TT) (gives_list (xs := ys)) [] (fun _ _ => True) (fun i => ((b.deals.map (·.name)).take i).map PyData.str) (fun _ z => nomatch z) trivial (by simp) (fun _ _ _ _ _ _ => trivial) (fun i H' _ f => sqF (f.frz hy6)) (fun i => ?_) ?_ ?_
                  · have := B.d4
                    simp only [List.length_map, List.length_take]
                    omega
                  · intro i x H' H'' hi _ f f0 hx' Y N yes no
                    obtain ⟨d, ed, fd⟩ := deals_get fy hx'
                    obtain ⟨pd, r1, r2, r3, rfl, hpd, rr1, _, _⟩ := ((f06.trans ((f.trans f0).up (by simp))).fz fd).tup3
                    obtain rfl := rr1.str_inv
                    refine s_gt (SqT.of hpd) rfl ?_
                    walk_at "st"
                    refine ⟨rfl, ?_⟩
                    walk_at "st"
                    refine yes _ _ (.str d.name) .refl ?_ (.str _) trivial
                    rw [List.take_succ, List.getElem?_map, ed, List.map_append]
                    rfl
                  · intro D7 H7 acc7 hD7 _ f67 hacc7 facc7
                    rw [ly, show b.deals.length = (b.deals.map (·.name)).length by rw [List.length_map], List.take_length] at facc7
                    have hxs7 := f67.get hxs6 (by simp) trivial
                    have hpv7 := f67.tup (f56.tup hpv)
                    refine ⟨s_tyL hacc7, ?_⟩
                    walk_at "st"
                    refine s_ixL (SqL.of hxs7) atI_lit0 ?_
                    walk_at "st"
                    refine s_ixT (SqT.of hpv7) atI_lit1 ?_
                    walk_at "st"
                    refine s_indexS (j := di) (l := nmOf b di) B.dn (SqL.of hacc7) (FzA.strs_eq facc7) (by rw [List.getElem?_map, (dlOf_mem c1).1, nmOf_eq c1]; rfl) ?_
                    walk_at "st"
                    refine s_ixL (SqL.of hxs7) atI_lit0 ?_
                    walk_at "st"
                    refine s_ixT (SqT.of hpv7) atI_lit1 ?_
                    walk_at "st"
                    have f07 : Fr TT [p] H H7 [p] := f06.trans (f67.up (by simp))
                    have hs7 := hs.fr f07 (by simp; exact fun b hb z => np (z ▸ hb))
                    refine ⟨_, b, w, ps, rs.length, ds, di, rfl, f07.fz hv, hs7, B, ok, h40, c1, okr.kle, fun v' ks2 H8 f78 fk2 hks2 hb2 => ?_⟩
                    walk_at "st"
                    refine s_newT (by simp) fun tp H9 n9 => ?_
                    walk_at "st"
                    refine s_newL (by simp) fun l9 H10 n10 => ?_
                    have f710 : Fr TT [] H7 H10 [] := (f78.trans n9.fr).trans n10.fr
                    exact q l9 [.beg di ks2] H10 (f07.trans (f710.up (by simp))) ((hP6.fr f67 (by simp)).fr f710 (by simp)) ⟨_, n10.at, .cons (.tup (n10.old n9.at) (.cons (.str _) (.cons (.str _) (.cons (n10.fz (n9.fz fk2)) .nil)))) .nil⟩ (.inr (.inl ⟨_, rfl, ⟨c1, hks2, c3, hb2⟩, fun n z => nomatch z⟩)) ((f07.trans ((f78.trans n9.fr).up (by simp))).dom l9 n10.no)
                · rw [decide_eq_false (show ¬ V.int r3 = V.int 0 from fun z => h0 (V.int.inj z))]
                  walk_at "st"
                  exact q l [.beg di ks] H6 f06 hP6 ⟨_, hxs6, .cons (f56.fz fr) .nil⟩ hnx hlN
            | stp n => exact absurd rfl (nst n)
            | fin n =>
              obtain ⟨pv, zs, rfl, hpv, fz⟩ := id fr.tup_inv
              match zs, fz with
              | [_, _], .cons (.str _) (.cons (.int _) .nil) =>
                refine s_ixT (SqT.of hpv) atI_lit0 ?_
                walk_at "st"
                rw [decide_eq_false (show ¬ V.str ("end" : Str) = V.str "begin" from fun z => absurd (V.str.inj z) (by decide +kernel))]
                walk_at "st"
                exact q l [.fin n] H5 f05 hP5 ⟨_, hxs5, .cons fr .nil⟩ hnx hlN
            | drp n =>
              obtain ⟨pv, zs, rfl, hpv, fz⟩ := id fr.tup_inv
              match zs, fz with
              | [_, _], .cons (.str _) (.cons (.int _) .nil) =>
                refine s_ixT (SqT.of hpv) atI_lit0 ?_
                walk_at "st"
                rw [decide_eq_false (show ¬ V.str ("drop" : Str) = V.str "begin" from fun z => absurd (V.str.inj z) (by decide +kernel))]
                walk_at "st"
                exact q l [.drp n] H5 f05 hP5 ⟨_, hxs5, .cons fr .nil⟩ hnx hlN
        · obtain ⟨m', rfl⟩ : ∃ m', m = m' + 1 := ⟨m - 1, by omega⟩
          match xs, fxs5 with
          | rv :: xs', .cons fr fr2 =>
            rw [show (List.replicate (m' + 1) (Row.stp n)).isEmpty = false from rfl]
            walk_at "st"
            refine s_ixL (SqL.of hxs5) atI_lit0 ?_
            walk_at "st"
            obtain ⟨pv, zs, rfl, hpv, fz⟩ := id fr.tup_inv
            match zs, fz with
            | [_, _], .cons (.str _) (.cons (.int _) .nil) =>
              refine s_ixT (SqT.of hpv) atI_lit0 ?_
              walk_at "st"
              rw [decide_eq_false (show ¬ V.str ("step" : Str) = V.str "begin" from fun z => absurd (V.str.inj z) (by decide +kernel))]
              walk_at "st"
              exact q l (List.replicate (m' + 1) (Row.stp n)) H5 f05 hP5 ⟨_, hxs5, .cons fr fr2⟩ hnx hlN
end
end K28
/-! ## K28f9 -/
namespace K28
set_option maxHeartbeats 3900000
open L2 LamX PySem PySem.Spec PyProof.Rows
local macro_rules | `(tactic| walk_at "st") => `(tactic| repeat (first
  | with_reducible refine s_seq ?_ | with_reducible refine s_ret ?_ | with_reducible refine s_retN ?_ | with_reducible refine s_drop ?_ | with_reducible refine s_asg ?_ | with_reducible refine s_gn ?_ | with_reducible refine s_nextq ?_
  | ((with_reducible apply s_var); exact rfl) | with_reducible refine s_c ?_ | with_reducible refine s_op ?_ | with_reducible refine s_I0 ?_ | ((with_reducible refine s_eq ?_ ?_); exact rfl) | ((with_reducible refine s_ne ?_ ?_); exact rfl)
  | with_reducible refine s_test ?_ | with_reducible refine s_tB ?_ | with_reducible refine s_bl ?_ | with_reducible refine s_and ?_ | with_reducible refine s_or ?_ | with_reducible refine s_not ?_ | with_reducible refine s_andV ?_ | with_reducible refine s_orV ?_ | with_reducible refine s_notV ?_
  | with_reducible refine s_blP ?_ | with_reducible refine s_ifS ?_ | with_reducible refine s_nil ?_ | with_reducible refine s_cons ?_ | with_reducible refine s_cb ?_ | with_reducible refine s_call ?_ | with_reducible refine s_tup ?_ | with_reducible refine s_lst ?_
  | with_reducible refine s_isN ?_ | with_reducible refine s_notN ?_ | with_reducible refine s_un ?_ | with_reducible refine s_U ?_ | with_reducible refine s_fld ?_ | with_reducible refine s_put ?_ | with_reducible refine s_meth ?_ | with_reducible refine s_gc ?_ | with_reducible refine s_g0 ?_
  | with_reducible refine s_dz ?_ | with_reducible refine s_make ?_ | with_reducible refine s_m1 ?_ | with_reducible refine s_chain ?_ | with_reducible refine s_iZ ?_ | with_reducible refine s_dput ?_ | with_reducible refine s_dget ?_ | with_reducible refine s_din ?_ | with_reducible refine s_lc ?_ | with_reducible refine s_for ?_ | with_reducible refine s_iL ?_ | with_reducible refine s_iE ?_ | with_reducible refine s_iR1 ?_ | with_reducible refine s_iR2 ?_ | with_reducible refine s_yes ?_
  | with_reducible refine s_frz ?_ | with_reducible refine s_bm ?_ | with_reducible refine s_bm0 ?_ | with_reducible refine s_iff ?_ | with_reducible refine s_ift ?_ | with_reducible refine s_ifnt ?_ | with_reducible refine s_ifnf ?_
  | with_reducible refine s_iT ?_ | with_reducible refine s_iS ?_ | with_reducible refine s_sl ?_ | with_reducible refine s_npart ?_ | with_reducible refine s_part ?_ | with_reducible refine s_PrtR ?_ | with_reducible refine s_pp0 ?_ | with_reducible refine s_pp ?_ | with_reducible refine s_sub ?_ | with_reducible refine s_callS ?_))
section
variable {P : Program} {w : World} {K : PySem.W.Frag} {mg : Str → Option Value} {base : Heap} {TT : List (Addr × Str)}
/-! ### pools, steps -/
theorem sc__law_pool : FnScope ["_law_script", "_law_k", "_law_cell", "_law_size", "_law_mixed"] ["_law_script", "_law_k"] (defScope s__law_pool) := ⟨rfl, rfl, rfl, by decide +kernel, rfl, by decide +kernel, by decide +kernel⟩
def sp__law_pool (K : PySem.W.Frag) (TT : List (Addr × Str)) : Sp := fun vs H Q _ => ∃ (l : Addr) (ns : List Int) (k : Nat), vs = [.ref l, .int k] ∧ SqL K H l (ns.map V.int) ∧ k ≤ 100 ∧ ∀ p H', Fr TT [] H H' [] → H p = none → PoolAt H' p → Q (.ref p) H'
theorem k__law_pool {fd : FuncData} (T : Tx K mg) (F : FunD K "_law_pool" "_law_pool" (defArgs s__law_pool) (defBody s__law_pool) (defScope s__law_pool) [] [] (He.ga K "_law_pool") fd) : Cn P w K mg base 1 (He.ga K "_law_pool") ["_law_script", "_law_k"] (sp__law_pool K TT) := by
  refine cn_of F sc__law_pool (fun vs H Q E h => ?_) (fun _ _ _ _ _ _ us hl => match us, hl with | [_, _], _ => rfl) fun cdv A outer s H vs Q E hr h => ?_
  · obtain ⟨l, ns, k, rfl, _⟩ := h
    rfl
  · obtain ⟨l, ns, k, rfl, hl, hk, q⟩ := h
    refine ⟨_, PSs.nox (pss_cons (ps_set (i := 2) sc__law_pool.nd rfl (by first | exact Or.inl rfl | exact Or.inr rfl) pe_int) (pss_cons (ps_if (pt_cmpR op_lt (pv 1) (pe_callB call_lenQ rfl T.f_len (by decide +kernel) (pa_cons (pv 0) pa_nil)) (nomark _)) (pss_one (ps_set (i := 2) sc__law_pool.nd rfl (by first | exact Or.inl rfl | exact Or.inr rfl) (pe_ix ix_list (pv 0) (pv 1) fun _ _ => rfl))) pss_nil) (pss_cons (ps_set (i := 3) sc__law_pool.nd rfl (by first | exact Or.inl rfl | exact Or.inr rfl) (pe_callB (call_maxQ rfl) rfl T.f_max (by decide +kernel) (pa_cons (pv 2) (pa_cons (pe_op op_sub (pe_un un_neg pe_int) (pv 2)) pa_nil)))) (pss_cons (ps_set (i := 4) sc__law_pool.nd rfl (by first | exact Or.inl rfl | exact Or.inr rfl) (pe_op op_mod (pe_op op_mul (pe_op op_add (pe_op op_add (pe_op op_add (pe_op op_mod (pv 3) pe_int) (pe_op op_mul (pe_op op_mul pe_int (pv 1)) (pv 1))) (pe_op op_mul pe_int (pv 1))) pe_int) pe_int) pe_int)) (pss_one (ps_ret (pe_lst (pa_cons (pe_op op_mul (pv 3) (pe_callTy call_intQ rfl T.f_int (by decide +kernel) (pa_cons (pe_cmpR op_ge (pv 3) (pe_op op_pow pe_int pe_int) (nomark _)) pa_nil))) (pa_cons (pv 4) pa_nil))))))))), ?_⟩
    try dsimp only [cxOf]
    walk_at "st"
    refine s_lenL hl ?_
    rw [List.length_map]
    walk_at "st"
    by_cases hlt : k < ns.length
    rw [decide_eq_true (show (k : Int) < (ns.length : Int) by omega)]
    walk_at "st"
    refine s_ixL hl (atI_nat (v := .int ns[k]) (by rw [List.getElem?_map, List.getElem?_eq_getElem hlt]; rfl)) ?_
    walk_at "st"
    rotate_left
    rw [decide_eq_false (show ¬ (k : Int) < (ns.length : Int) by omega)]
    walk_at "st"
    rotate_left
    iterate 2
      refine s_maxA fun m _ m1 m2 => ?_
      have m0 : 0 ≤ m := by omega
      walk_at "st"
      refine s_I (by decide) ?_
      walk_at "st"
      refine s_I (.inl ⟨by decide, by decide⟩) ?_
      walk_at "st"
      refine s_I (.inl ⟨by omega, by omega⟩) ?_
      walk_at "st"
      refine s_I (.inl ⟨by decide, by decide⟩) ?_
      walk_at "st"
      refine s_I (.inr ⟨by decide, by decide⟩) ?_
      walk_at "st"
      refine s_I (by decide) ?_
      walk_at "st"
      refine s_I ⟨by decide, by decide, by decide⟩ ?_
      walk_at "st"
      refine s_intB ?_
      refine s_I (.inr ⟨by split <;> decide, by split <;> decide⟩) ?_
      walk_at "st"
      refine s_newL (by simp) fun p H1 n1 => ?_
      refine q p H1 n1.fr n1.no ⟨_, _, n1.at, ?_, Int.emod_nonneg _ (by decide), Int.emod_lt_of_pos _ (by decide)⟩
      split
      · omega
      · omega
theorem atI6w {r : Int} (h0 : 0 ≤ r) (h6 : r < 6) : ∃ w : Str, atI [V.str "read", V.str "read", V.str "read", V.str "write", V.str "write", V.str "ask"] r = some (.str w) ∧ w.length ≤ 16 ∧ PyData.strOk w = true := by
  have : r = 0 ∨ r = 1 ∨ r = 2 ∨ r = 3 ∨ r = 4 ∨ r = 5 := by omega
  rcases this with rfl | rfl | rfl | rfl | rfl | rfl <;> exact ⟨_, rfl, by decide, by decide +kernel⟩
theorem sc__law_steps : FnScope ["_law_pool_here", "_law_marks_here", "_law_found", "_law_more", "_law_mark", "_law_deed", "_law_k"] ["_law_pool_here", "_law_marks_here"] (defScope s__law_steps) := ⟨rfl, rfl, rfl, by decide +kernel, rfl, by decide +kernel, by decide +kernel⟩
def sp__law_steps (TT : List (Addr × Str)) : Sp := fun vs H Q _ => ∃ (p mk : Addr) (ms : List Str), vs = [.ref p, .ref mk] ∧ PoolAt H p ∧ H mk = some (.lst (ms.map V.str)) ∧ 1 ≤ ms.length ∧ ms.length ≤ 4 ∧ p ≠ mk ∧
  ∀ v' (ss : List (Str × Str)) H', Fr TT [p] H H' [p] → PoolAt H' p → Fz H' v' (.list (ss.map prS)) → ss.length ≤ 8 → (∀ s ∈ ss, s.2 ∈ ms ∧ s.1.length ≤ 16 ∧ PyData.strOk s.1 = true) → Q v' H'
theorem k__law_steps {fd : FuncData} (T : Tx K mg) (F : FunD K "_law_steps" "_law_steps" (defArgs s__law_steps) (defBody s__law_steps) (defScope s__law_steps) [] [] (He.ga K "_law_steps") fd) (h__law_draw : Cn P w K mg base 1 (He.ga K "_law_draw") ["_law_pool_here", "_law_many"] (sp__law_draw TT)) : Cn P w K mg base 2 (He.ga K "_law_steps") ["_law_pool_here", "_law_marks_here"] (sp__law_steps TT) := by
  refine cn_of F sc__law_steps (fun vs H Q E h => ?_) (fun _ _ _ _ _ _ us hl => match us, hl with | [_, _], _ => rfl) fun cdv A outer s H vs Q E hr h => ?_
  · obtain ⟨p, mk, ms, rfl, _⟩ := h
    rfl
  · obtain ⟨p, mk, ms, rfl, hP, hmk, h1, h4, npm, q⟩ := h
    refine ⟨_, PSs.nox (pss_cons (ps_set (i := 2) sc__law_steps.nd rfl (by first | exact Or.inl rfl | exact Or.inr rfl) (pe_lst pa_nil)) (pss_cons (ps_setLc (i := 3) rfl sc__law_steps.nd rfl rfl (sw_true rfl rfl rfl (by decide +kernel)) (own := [("_law_k", 6)]) (g := (gName 6)) (tt := tYes) (pi_range1 rfl T.f_range (pa_cons (pe_cn h__law_draw (hr.mono (by decide)) rfl T.g__law_draw passL (pa_cons (pv 0) (pa_cons pe_int pa_nil))) pa_nil)) (blkOk_by (N := ["_law_pool_here", "_law_marks_here", "_law_found", "_law_more", "_law_mark", "_law_deed", "_law_k"]) (sc := defScope s__law_steps) (by decide +kernel)) (fun _ _ _ _ _ => (pg_name (i := 6) sc__law_steps.nd rfl (by first | exact Or.inl rfl | exact Or.inr rfl))) (fun _ _ _ _ _ => pts_nil) (fun _ _ _ _ _ => (pe_ix (ix_listK (K := K) rfl) (pv 1) (pe_cn h__law_draw (hr.mono (by decide)) rfl T.g__law_draw passL (pa_cons (pv 0) (pa_cons (pe_callB (call_lenK (K := K) rfl) rfl T.f_len (by decide +kernel) (pa_cons (pv 1) pa_nil)) pa_nil))) fun _ _ => rfl))) (pss_cons (ps_for PassesOwn.never rfl (pi_list (pe_op op_catF (pv 1) (pv 3))) (pg_name (i := 4) sc__law_steps.nd rfl (by first | exact Or.inl rfl | exact Or.inr rfl)) (pss_cons (ps_set (i := 5) sc__law_steps.nd rfl (by first | exact Or.inl rfl | exact Or.inr rfl) (pe_ix ix_list (pe_lst (pa_cons pe_str (pa_cons pe_str (pa_cons pe_str (pa_cons pe_str (pa_cons pe_str (pa_cons pe_str pa_nil))))))) (pe_cn h__law_draw (hr.mono (by decide)) rfl T.g__law_draw passL (pa_cons (pv 0) (pa_cons pe_int pa_nil))) fun _ _ => rfl)) (pss_one (ps_expr (pe_bm PySem.F.plainAttrs_list PySem.F.slot_list_insert PySem.F.type_list_insert mt_insertQ (pv 2) (pa_cons (pe_cn h__law_draw (hr.mono (by decide)) rfl T.g__law_draw passL (pa_cons (pv 0) (pa_cons (pe_op op_add (pe_callB call_lenQ rfl T.f_len (by decide +kernel) (pa_cons (pv 2) pa_nil)) pe_int) pa_nil))) (pa_cons (pe_tup (pa_cons (pv 5) (pa_cons (pv 4) pa_nil))) pa_nil))))))) (pss_one (ps_ret (pe_frz (pv 2))))))), ?_⟩
    try dsimp only [cxOf]
    walk_at "st"
    refine s_newL (by simp) fun l H1 n1 => ?_
    walk_at "st"
    refine ⟨p, 5, rfl, hP.fr (n1.fr (T := TT) (fp := [])) (by simp), by decide, by decide, fun r H2 r0 r5 f12 hP2 => ?_⟩
    walk_at "st"
    have npl := hP.ne n1.no
    have f02 : Fr TT [p] H H2 [p] := n1.fr.trans f12
    have hmk2 := f02.get hmk (by simpa using npm.symm) trivial
    have hl2 := f12.get n1.at (by simpa using npl.symm) trivial
    refine s_Ir1R r0 (by omega) ?_
    refine lcN (T := TT) (gives_range (lo := 0) (n := r.toNat)) [p] (fun i ds H' => PoolAt H' p ∧ i ≤ r.toNat ∧ ∃ ys : List Str, ds = ys.map PyData.str ∧ ys.length = i ∧ ∀ y ∈ ys, y ∈ ms) (fun b hb => by rw [List.mem_singleton] at hb; rw [hb]; exact hP2.some) ⟨hP2, Nat.zero_le _, [], rfl, rfl, fun _ z => nomatch z⟩ (fun D i ds H' o hD ⟨a, b⟩ => ⟨a.upd (hP2.ne hD), b⟩)
      (fun _ _ _ _ _ => trivial) (fun i ds H' ⟨_, hi, ys, e, l, _⟩ => by rw [e, List.length_map, l]; omega) ?_ ?_
    · rintro i x ds H' H'' hi ⟨hP3, _, ys, rfl, ly, hys⟩ f f0 hy Y N yes no
      obtain rfl := hy
      have hmk3 := f0.get (f.get hmk2 (by simpa using npm.symm) trivial) (by simp) trivial
      walk_at "st"
      refine ⟨rfl, ?_⟩
      walk_at "st"
      refine s_lenL (SqL.of hmk3) ?_
      rw [List.length_map]
      walk_at "st"
      refine ⟨p, ms.length, rfl, hP3.fr f0 (by simp), by omega, by omega, fun r2 H4 r20 r21 f4 hP4 => ?_⟩
      obtain ⟨j, rfl⟩ : ∃ j : Nat, r2 = j := ⟨r2.toNat, by omega⟩
      have hj : j < ms.length := by omega
      refine s_ixL (SqL.of (f4.get hmk3 (by simpa using npm.symm) trivial)) (atI_nat (v := .str ms[j]) (by rw [List.getElem?_map, List.getElem?_eq_getElem hj]; rfl)) ?_
      refine yes _ _ (.str ms[j]) f4 (.str _) ⟨hP4, by omega, ys ++ [ms[j]], by rw [List.map_append]; rfl, by simp [ly], fun y hy => ?_⟩
      obtain hy | hy := List.mem_append.mp hy
      · exact hys y hy
      · rw [List.mem_singleton.mp hy]
        exact List.getElem_mem hj
    · rintro D' H3 acc ds hD ⟨hP3, _, ys, rfl, ly, hys⟩ f23 hacc facc
      have eacc := FzA.strs_eq facc
      walk_at "st"
      have hmk3 := f23.get hmk2 (by simpa using npm.symm) trivial
      have f03 : Fr TT [p] H H3 [p] := f02.trans f23
      refine s_catF (.inl hmk3) (.inl hacc) (by rw [eacc, List.length_map, List.length_map, ly]; omega) fun cl H4 n4 => ?_
      have hcl := n4.at
      rw [eacc, ← List.map_append] at hcl
      have f04 : Fr TT [p] H H4 [p] := f03.trans n4.fr
      have hl4 := n4.old (f23.get hl2 (by simpa using npl.symm) trivial)
      have hlN : H l = none := n1.no
      have ncl : l ≠ cl := n4.ne (f23.get hl2 (by simpa using npl.symm) trivial)
      have npc : p ≠ cl := hP3.ne n4.no
      have lms : (ms ++ ys).length ≤ 8 := by rw [List.length_append, ly]; omega
      refine s_IlR (SqL.of hcl) ?_
      refine forJ (T := TT) (gives_list (xs := (ms ++ ys).map V.str)) (fun i σ H' => ∃ a1 a2 xs, ∃ ss : List (Str × Str), σ = [some (.ref p), some (.ref mk), some (.ref l), some (.ref D'), a1, a2, none] ∧ Fr TT [p] H H' [p] ∧ H' cl = some (.lst ((ms ++ ys).map V.str)) ∧ PoolAt H' p ∧ H' l = some (.lst xs) ∧ FzA H' xs (ss.map prS) ∧ ss.length = i ∧ ∀ s ∈ ss, s.2 ∈ ms ∧ s.1.length ≤ 16 ∧ PyData.strOk s.1 = true)
        ⟨_, _, [], [], rfl, f04, hcl, hP3.fr (n4.fr (T := TT) (fp := [])) (by simp), hl4, .nil, rfl, fun _ z => nomatch z⟩ ?_ ?_ ?_
      · rintro i σ H' hi ⟨a1, a2, xs, ss, rfl, f, hcl', _⟩
        exact SqL.of hcl'
      · rintro i x σ H' H'' hi ⟨a1, a2, xs, ss, rfl, f, hcl', hP5, hl5, fx, ls, hss⟩ f0 hx
        rw [List.getElem?_map] at hx
        obtain ⟨m, em, rfl⟩ := Option.map_eq_some_iff.mp hx
        have hm : m ∈ ms := (List.mem_append.mp (List.mem_of_getElem? em)).elim id (hys m)
        have i8 : i < 8 := by have := (List.getElem?_eq_some_iff.mp em).1; omega
        have lx := fx.length
        rw [List.length_map] at lx
        walk_at "st"
        refine s_newL (by simp) fun l6 H6 n6 => ?_
        walk_at "st"
        have hP6 := (hP5.fr f0 (by simp)).fr (n6.fr (T := TT) (fp := [])) (by simp)
        have np6 : p ≠ l6 := (hP5.fr f0 (by simp)).ne n6.no
        refine ⟨p, 6, rfl, hP6, by decide, by decide, fun r6 H7 r60 r61 f67 hP7 => ?_⟩
        obtain ⟨w, ew, lw⟩ := atI6w r60 r61
        refine s_ixL (SqL.of (f67.get n6.at (by simpa using np6.symm) trivial)) ew ?_
        walk_at "st"
        have hl7 := f67.get (n6.old (f0.get hl5 (by simp) trivial)) (by simpa using npl.symm) trivial
        refine ⟨s_tyL hl7, ?_⟩
        walk_at "st"
        refine s_lenL (SqL.of hl7) ?_
        walk_at "st"
        rw [lx, ls]
        refine ⟨p, (i : Int) + 1, rfl, hP7, by omega, by omega, fun r7 H8 r70 r71 f78 hP8 => ?_⟩
        obtain ⟨j, rfl⟩ : ∃ j : Nat, r7 = j := ⟨r7.toNat, by omega⟩
        walk_at "st"
        refine s_newT (by simp) fun tp H9 n9 => ?_
        walk_at "st"
        have hl9 := n9.old (f78.get hl7 (by simpa using npl.symm) trivial)
        refine s_ins hl9 (by omega) (by omega) fun H10 c10 => ?_
        walk_at "st"
        have g : Fr TT [p] H' H9 [p] := (((f0.up (by simp)).trans n6.fr).trans (f67.trans f78)).trans n9.fr
        have i10 : ImK H9 H10 := c10.imm hl9 trivial
        have f10 : Fr TT [p] H H10 [p] := c10.back (f.trans g) hlN hl9 trivial
        have fx9 := g.fza fx
        have ft : Fz H9 (.ref tp) (prS (w, m)) := .tup n9.at (.cons (.str _) (.cons (.str _) .nil))
        refine ⟨_, _, xs.take j ++ [.ref tp] ++ xs.drop j, ss.take j ++ [(w, m)] ++ ss.drop j, rfl, f10, c10.old (g.get hcl' (by simpa using npc.symm) trivial) ncl.symm, (hP8.fr (n9.fr (T := TT) (fp := [])) (by simp)).fr (c10.fr (T := TT) (fp := [l]) hl9 trivial (by simp)) (by simpa using npl), c10.at, ?_, ?_, ?_⟩
        · rw [List.map_append, List.map_append, List.map_take, List.map_drop]
          exact (((fx9.take j).snoc ft).app (fx9.from j)).keep i10
        · simp only [List.length_append, List.length_take, List.length_drop, List.length_singleton]
          omega
        · intro s hs
          obtain hs | hs := List.mem_append.mp hs
          · obtain hs | hs := List.mem_append.mp hs
            · exact hss s (List.mem_of_mem_take hs)
            · rw [List.mem_singleton] at hs
              subst hs
              exact ⟨hm, lw⟩
          · exact hss s (List.mem_of_mem_drop hs)
      · rintro σ H' ⟨a1, a2, xs, ss, rfl, f, hcl', hP5, hl5, fx, ls, hss⟩
        walk_at "st"
        refine s_frzM hl5 trivial fun o H6 c6 => ?_
        have i6 := c6.imm hl5 trivial
        refine q _ ss H6 (c6.back f hlN hl5 trivial) (hP5.fr (c6.fr (T := TT) (fp := [l]) hl5 trivial (by simp)) (by simpa using npl)) (.lst c6.at (fx.keep i6)) ?_ hss
        rw [ls, List.length_map]
        exact lms
end
end K28
/-! ## K28g1 -/
namespace K28
set_option maxHeartbeats 3900000
open L2 LamX PySem PySem.Spec PyProof.Rows
local macro_rules | `(tactic| walk_at "st") => `(tactic| repeat (first
  | with_reducible refine s_seq ?_ | with_reducible refine s_ret ?_ | with_reducible refine s_retN ?_ | with_reducible refine s_drop ?_ | with_reducible refine s_asg ?_ | with_reducible refine s_gn ?_ | with_reducible refine s_nextq ?_
  | ((with_reducible apply s_var); exact rfl) | with_reducible refine s_c ?_ | with_reducible refine s_op ?_ | with_reducible refine s_I0 ?_ | ((with_reducible refine s_eq ?_ ?_); exact rfl) | ((with_reducible refine s_ne ?_ ?_); exact rfl)
  | with_reducible refine s_test ?_ | with_reducible refine s_tB ?_ | with_reducible refine s_bl ?_ | with_reducible refine s_and ?_ | with_reducible refine s_or ?_ | with_reducible refine s_not ?_ | with_reducible refine s_andV ?_ | with_reducible refine s_orV ?_ | with_reducible refine s_notV ?_
  | with_reducible refine s_blP ?_ | with_reducible refine s_ifS ?_ | with_reducible refine s_nil ?_ | with_reducible refine s_cons ?_ | with_reducible refine s_cb ?_ | with_reducible refine s_call ?_ | with_reducible refine s_tup ?_ | with_reducible refine s_lst ?_
  | with_reducible refine s_isN ?_ | with_reducible refine s_notN ?_ | with_reducible refine s_un ?_ | with_reducible refine s_U ?_ | with_reducible refine s_fld ?_ | with_reducible refine s_put ?_ | with_reducible refine s_meth ?_ | with_reducible refine s_gc ?_ | with_reducible refine s_g0 ?_
  | with_reducible refine s_dz ?_ | with_reducible refine s_make ?_ | with_reducible refine s_m1 ?_ | with_reducible refine s_chain ?_ | with_reducible refine s_iZ ?_ | with_reducible refine s_dput ?_ | with_reducible refine s_dget ?_ | with_reducible refine s_din ?_ | with_reducible refine s_lc ?_ | with_reducible refine s_for ?_ | with_reducible refine s_iL ?_ | with_reducible refine s_iE ?_ | with_reducible refine s_iR1 ?_ | with_reducible refine s_iR2 ?_ | with_reducible refine s_yes ?_
  | with_reducible refine s_frz ?_ | with_reducible refine s_bm ?_ | with_reducible refine s_bm0 ?_ | with_reducible refine s_iff ?_ | with_reducible refine s_ift ?_ | with_reducible refine s_ifnt ?_ | with_reducible refine s_ifnf ?_
  | with_reducible refine s_iT ?_ | with_reducible refine s_iS ?_ | with_reducible refine s_sl ?_ | with_reducible refine s_npart ?_ | with_reducible refine s_part ?_ | with_reducible refine s_PrtR ?_ | with_reducible refine s_pp0 ?_ | with_reducible refine s_pp ?_ | with_reducible refine s_sub ?_ | with_reducible refine s_callS ?_))
section
variable {P : Program} {w : World} {K : PySem.W.Frag} {mg : Str → Option Value} {base : Heap} {TT : List (Addr × Str)}
/-! ### marks -/
theorem strike_len {l : List Nat} (nd : l.Nodup) {c : Nat} (h : c ∈ l) : (l.filter (· != c)).length = l.length - 1 := by
  rw [← nd.erase_eq_filter c, List.length_erase_of_mem h]
theorem sc__law_marks : FnScope ["_law_pool_here", "_law_many", "_law_left_here", "_law_found", "_law_k", "_law_mark"] ["_law_pool_here", "_law_many"] (defScope s__law_marks) := ⟨rfl, rfl, rfl, by decide +kernel, rfl, by decide +kernel, by decide +kernel⟩
def sp__law_marks (TT : List (Addr × Str)) : Sp := fun vs H Q _ => ∃ (p : Addr) (m : Int), vs = [.ref p, .int m] ∧ PoolAt H p ∧ 1 ≤ m ∧ m ≤ 4 ∧
  ∀ l (ms : List Str) H', Fr TT [p] H H' [p] → PoolAt H' p → H l = none → H' l = some (.lst (ms.map V.str)) → (ms.length : Int) = m → ms.Nodup → (∀ x ∈ ms, x.length = 1) → Q (.ref l) H'
theorem k__law_marks {fd : FuncData} (T : Tx K mg) (F : FunD K "_law_marks" "_law_marks" (defArgs s__law_marks) (defBody s__law_marks) (defScope s__law_marks) [] [] (He.ga K "_law_marks") fd) (h__law_draw : Cn P w K mg base 1 (He.ga K "_law_draw") ["_law_pool_here", "_law_many"] (sp__law_draw TT)) : Cn P w K mg base 2 (He.ga K "_law_marks") ["_law_pool_here", "_law_many"] (sp__law_marks TT) := by
  refine cn_of F sc__law_marks (fun vs H Q E h => ?_) (fun _ _ _ _ _ _ us hl => match us, hl with | [_, _], _ => rfl) fun cdv A outer s H vs Q E hr h => ?_
  · obtain ⟨p, m, rfl, _⟩ := h
    rfl
  · obtain ⟨p, m, rfl, hP, h1, h4, q⟩ := h
    refine ⟨_, PSs.nox (pss_str (i := 2) sc__law_marks.nd rfl (.inl rfl) (psst_cons (PST.of (ps_set (i := 3) sc__law_marks.nd rfl (by first | exact Or.inl rfl | exact Or.inr rfl) (pe_lst pa_nil))) (psst_cons (pst_forT PassesOwn.never rfl (PIT.ofPI (pi_range1 rfl T.f_range (pa_cons (pv 1) pa_nil))) (pg_name (i := 4) sc__law_marks.nd rfl (by first | exact Or.inl rfl | exact Or.inr rfl)) (psst_strike (il := 2) (im := 5) sc__law_marks.nd rfl rfl (by decide) rfl rfl (pe_cn h__law_draw (hr.mono (by decide)) rfl T.g__law_draw passL (pa_cons (pv 0) (pa_cons (pe_callB call_lenZ rfl T.f_len (by decide +kernel) (pa_cons (pv 2) pa_nil)) pa_nil))) (fun _ _ => rfl) (PSsT.of (pss_one (ps_expr (pe_bm PySem.F.plainAttrs_list PySem.F.slot_list_append PySem.F.type_list_append mt_append (pv 3) (pa_cons (pv 5) pa_nil))))))) (psst_cons (PST.of (ps_ret (pv 3))) CwR.psst_nil)))), ?_⟩
    try dsimp only [cxOf]
    walk_at "st"
    refine s_newL (by simp) fun l H1 n1 => ?_
    walk_at "st"
    have npl := hP.ne n1.no
    refine s_Ir1R (by omega) (by omega) ?_
    refine forJ (T := TT) (gives_range (lo := 0) (n := m.toNat)) (fun i σ H' => ∃ (z : Str) (cs : List Nat) (a1 a2 : _), σ = [some (.ref p), some (.int m), some (.str z), some (.ref l), a1, a2] ∧ Fr TT [p] H H' [p] ∧ PoolAt H' p ∧ H' l = some (.lst ((cs.map fun c => (⟨#[c]⟩ : Str)).map V.str)) ∧ z.cps.toList.Nodup ∧ 26 ≤ z.length + i ∧ z.length ≤ 26 ∧ cs.Nodup ∧ cs.length = i ∧ ∀ c ∈ cs, c ∉ z.cps.toList)
      ⟨"abcdefghijklmnopqrstuvwxyz", [], _, _, rfl, n1.fr, hP.fr (n1.fr (T := TT) (fp := [])) (by simp), n1.at, by decide +kernel, by decide +kernel, by decide +kernel, .nil, rfl, fun _ z => nomatch z⟩ (fun _ _ _ _ _ => trivial) ?_ ?_
    · rintro i x σ H' H'' hi ⟨z, cs, a1, a2, rfl, f, hP1, hl1, zn, z1, z2, cn, cl, cz⟩ f0 hx
      obtain rfl := hx
      walk_at "st"
      refine ⟨z, rfl, ?_⟩
      walk_at "st"
      refine s_lenZ (by omega) ?_
      walk_at "st"
      refine ⟨p, z.length, rfl, hP1.fr f0 (by simp), by omega, by omega, fun r H2 r0 r1 f2 hP2 => ?_⟩
      obtain ⟨j, rfl⟩ : ∃ j : Nat, r = j := ⟨r.toNat, by omega⟩
      have ez : z.cps.toList.length = z.length := by simp [Str.length]
      have hj : j < z.cps.toList.length := by omega
      have hm := List.getElem_mem hj
      refine ⟨j, z.cps.toList[j], rfl, by omega, atI_nat (List.getElem?_eq_getElem hj), ?_⟩
      generalize z.cps.toList[j] = c at hm
      walk_at "st"
      have hl2 := f2.get (f0.get hl1 (by simp) trivial) (by simpa using npl.symm) trivial
      refine ⟨s_tyL hl2, ?_⟩
      walk_at "st"
      refine s_appC hl2 (by rw [List.length_map, List.length_map]; omega) fun H3 c3 => ?_
      walk_at "st"
      have ek := PyProof.Rows.replace_strikes z c
      have el := strike_len zn hm
      have g := f.trans ((f0.up (by simp)).trans f2)
      have lz' : (Txt.replace z ⟨#[c]⟩ ⟨#[]⟩).length = z.length - 1 := by
        have e5 : (Txt.replace z ⟨#[c]⟩ ⟨#[]⟩).cps.toList.length = (Txt.replace z ⟨#[c]⟩ ⟨#[]⟩).length := by simp [Str.length]
        rw [← e5, ek, el, ez]
      refine ⟨_, cs ++ [c], _, _, rfl, c3.back g n1.no hl2 trivial, hP2.fr (c3.fr (T := TT) (fp := [l]) hl2 trivial (by simp)) (by simpa using npl), ?_, ?_, ?_, ?_, ?_, ?_, ?_⟩
      · rw [c3.at, List.map_append, List.map_append]
        rfl
      · rw [ek]
        exact zn.filter _
      · omega
      · omega
      · rw [List.nodup_append]
        exact ⟨cn, by simp, fun a ha b hb e => by
          rw [List.mem_singleton] at hb
          subst hb
          subst e
          exact cz _ ha hm⟩
      · rw [List.length_append, cl]
        rfl
      · intro a ha
        rw [ek]
        obtain ha | ha := List.mem_append.mp ha
        · exact fun z => cz a ha (List.mem_filter.mp z).1
        · rw [List.mem_singleton] at ha
          subst ha
          exact fun z => by have := (List.mem_filter.mp z).2; simp at this
    · rintro σ H' ⟨z, cs, a1, a2, rfl, f, hP1, hl1, zn, z1, z2, cn, cl, cz⟩
      walk_at "st"
      refine q l _ H' f hP1 n1.no hl1 (by rw [List.length_map, cl]; omega) ?_ fun x hx => ?_
      · exact List.Pairwise.map (fun c : Nat => (⟨#[c]⟩ : Str)) (fun a b ne e => ne (by injection e with e; simpa using e)) cn
      · obtain ⟨c, _, rfl⟩ := List.mem_map.mp hx
        rfl
end
end K28
/-! ## K28g2 -/
namespace K28
set_option maxHeartbeats 3900000
open L2 LamX PySem PySem.Spec PyProof.Rows
local macro_rules | `(tactic| walk_at "st") => `(tactic| repeat (first
  | with_reducible refine s_seq ?_ | with_reducible refine s_ret ?_ | with_reducible refine s_retN ?_ | with_reducible refine s_drop ?_ | with_reducible refine s_asg ?_ | with_reducible refine s_gn ?_ | with_reducible refine s_nextq ?_
  | ((with_reducible apply s_var); exact rfl) | with_reducible refine s_c ?_ | with_reducible refine s_op ?_ | with_reducible refine s_I0 ?_ | ((with_reducible refine s_eq ?_ ?_); exact rfl) | ((with_reducible refine s_ne ?_ ?_); exact rfl)
  | with_reducible refine s_test ?_ | with_reducible refine s_tB ?_ | with_reducible refine s_bl ?_ | with_reducible refine s_and ?_ | with_reducible refine s_or ?_ | with_reducible refine s_not ?_ | with_reducible refine s_andV ?_ | with_reducible refine s_orV ?_ | with_reducible refine s_notV ?_
  | with_reducible refine s_blP ?_ | with_reducible refine s_ifS ?_ | with_reducible refine s_nil ?_ | with_reducible refine s_cons ?_ | with_reducible refine s_cb ?_ | with_reducible refine s_call ?_ | with_reducible refine s_tup ?_ | with_reducible refine s_lst ?_
  | with_reducible refine s_isN ?_ | with_reducible refine s_notN ?_ | with_reducible refine s_un ?_ | with_reducible refine s_U ?_ | with_reducible refine s_fld ?_ | with_reducible refine s_put ?_ | with_reducible refine s_meth ?_ | with_reducible refine s_gc ?_ | with_reducible refine s_g0 ?_
  | with_reducible refine s_dz ?_ | with_reducible refine s_make ?_ | with_reducible refine s_m1 ?_ | with_reducible refine s_chain ?_ | with_reducible refine s_iZ ?_ | with_reducible refine s_dput ?_ | with_reducible refine s_dget ?_ | with_reducible refine s_din ?_ | with_reducible refine s_lc ?_ | with_reducible refine s_for ?_ | with_reducible refine s_iL ?_ | with_reducible refine s_iE ?_ | with_reducible refine s_iR1 ?_ | with_reducible refine s_iR2 ?_ | with_reducible refine s_yes ?_
  | with_reducible refine s_frz ?_ | with_reducible refine s_bm ?_ | with_reducible refine s_bm0 ?_ | with_reducible refine s_iff ?_ | with_reducible refine s_ift ?_ | with_reducible refine s_ifnt ?_ | with_reducible refine s_ifnf ?_
  | with_reducible refine s_iT ?_ | with_reducible refine s_iS ?_ | with_reducible refine s_sl ?_ | with_reducible refine s_npart ?_ | with_reducible refine s_part ?_ | with_reducible refine s_PrtR ?_ | with_reducible refine s_pp0 ?_ | with_reducible refine s_pp ?_ | with_reducible refine s_sub ?_ | with_reducible refine s_callS ?_))
section
variable {P : Program} {w : World} {K : PySem.W.Frag} {mg : Str → Option Value} {base : Heap} {TT : List (Addr × Str)}
/-! ### names -/
theorem strOk_app {a b : Str} (ha : PyData.strOk a = true) (hb : PyData.strOk b = true) : PyData.strOk (a ++ b) = true := by
  unfold PyData.strOk at *
  rw [Str.cps_append, Array.all_append, ha, hb]
  rfl
theorem join_ok : ∀ ys : List Str, (∀ y ∈ ys, PyData.strOk y = true) → PyData.strOk (Txt.join "" ys) = true := by
  have key : ∀ ys : List Str, (∀ y ∈ ys, PyData.strOk y = true) → PyData.strOk (Str.join "" ys) = true := by
    intro ys
    induction ys with
    | nil => exact fun _ => by decide +kernel
    | cons y r ih =>
      intro h
      have hy := h y List.mem_cons_self
      have hr := ih fun z hz => h z (List.mem_cons_of_mem _ hz)
      cases r with
      | nil => exact hy
      | cons z r =>
        show PyData.strOk (y ++ "" ++ Str.join "" (z :: r)) = true
        exact strOk_app (strOk_app hy (by decide +kernel)) hr
  intro ys h
  show PyData.strOk (Builtin.Str.glued "" ys) = true
  rw [StrLaws.glued_eq_join]
  exact key ys h
theorem sum_ones : ∀ ys : List Str, (∀ y ∈ ys, y.length = 1) → (ys.map (·.length)).sum = ys.length
  | [], _ => rfl
  | y :: r, h => by
    rw [List.map_cons, List.sum_cons, h y List.mem_cons_self, sum_ones r fun z hz => h z (List.mem_cons_of_mem _ hz), List.length_cons]
    omega
theorem join_len {ys : List Str} (h : ∀ y ∈ ys, y.length = 1) : (Txt.join "" ys).length = ys.length := by
  show (Builtin.Str.glued "" ys).length = _
  rw [size_glued, sum_ones ys h, show ("" : Str).length = 0 from by decide +kernel]
  omega
theorem cutS_ok {z : Str} {lo hi : Option Int} (h : PyData.strOk z = true) : PyData.strOk (cutS z lo hi) = true := by
  unfold PyData.strOk at *
  rw [Array.all_eq_true_iff_forall_mem] at *
  intro c hc
  refine h c ?_
  have h1 : c ∈ ((z.cps.toList.drop (HT.sIx z.length 0 lo)).take (HT.sIx z.length z.length hi - HT.sIx z.length 0 lo)).toArray := hc
  rw [List.mem_toArray] at h1
  have := List.mem_of_mem_drop (List.mem_of_mem_take h1)
  simpa using this
theorem sub_len {α : Type} [DecidableEq α] : ∀ {l1 l2 : List α}, l1.Nodup → (∀ x ∈ l1, x ∈ l2) → l1.length ≤ l2.length
  | [], _, _, _ => Nat.zero_le ..
  | a :: l, l2, nd, h => by
    rw [List.nodup_cons] at nd
    have ha := h a List.mem_cons_self
    have := sub_len (l2 := l2.erase a) nd.2 fun x hx => (List.mem_erase_of_ne (fun z => nd.1 (by rw [← z]; exact hx))).mpr (h x (List.mem_cons_of_mem _ hx))
    rw [List.length_erase_of_mem ha] at this
    have hp := List.length_pos_of_mem ha
    rw [List.length_cons]
    omega
theorem any_str (k : Str) : ∀ ks : List Str, ((ks.map PyData.str).any fun z => PyData.eqv z (.str k)) = decide (k ∈ ks)
  | [] => by simp
  | j :: ks => by
    rw [List.map_cons, List.any_cons, any_str k ks]
    have e : PyData.eqv (.str j) (.str k) = (j == k) := by simp only [PyData.eqv]
    rw [e]
    by_cases h : k = j
    · subst h; simp
    · have h' : (j == k) = false := beq_eq_false_iff_ne.mpr fun z => h z.symm
      simp [h, h']
theorem strs_shaped {xs : List Str} (h : ∀ x ∈ xs, PyData.strOk x = true) : SeqAt.shaped (.list (xs.map PyData.str)) = true := list_shaped (fun x hx => by simp only [PyData.canLay0]; exact h x hx) fun x _ => by simp [PyData.depth]
theorem str_shaped {x : Str} (h : PyData.strOk x = true) : SeqAt.shaped (.str x) = true := shaped_of (by simp only [PyData.canLay0]; exact h) (by simp [PyData.depth])
theorem abc_ok : ∀ c ∈ ("abcdefghijklmnopqrstuvwxyz" : Str).cps.toList, c < 0x110000 := by decide +kernel
theorem sign_ok {c : Nat} (h : c < 0x110000) : PyData.strOk ⟨#[c]⟩ = true := by
  simp [PyData.strOk, h]
theorem sc__law_names : FnScope ["_law_pool_here", "_law_many", "_law_letters", "_law_found", "_law_k", "_law_size", "_law_name", "_law_some_here", "_law_at", "_law_letter", "_law_one"] ["_law_pool_here", "_law_many"] (defScope s__law_names) := ⟨rfl, rfl, rfl, by decide +kernel, rfl, by decide +kernel, by decide +kernel⟩
def sp__law_names (TT : List (Addr × Str)) : Sp := fun vs H Q _ => ∃ (p : Addr) (m : Int), vs = [.ref p, .int m] ∧ PoolAt H p ∧ 1 ≤ m ∧ m ≤ 4 ∧
  ∀ l (ns : List Str) H', Fr TT [p] H H' [p] → PoolAt H' p → H l = none → H' l = some (.lst (ns.map V.str)) → (ns.length : Int) = m → ns.Nodup → (∀ x ∈ ns, x.length ≤ 16 ∧ PyData.strOk x = true) → Q (.ref l) H'
theorem k__law_names {fd : FuncData} (T : Tx K mg) (F : FunD K "_law_names" "_law_names" (defArgs s__law_names) (defBody s__law_names) (defScope s__law_names) [] [] (He.ga K "_law_names") fd) (h__law_draw : Cn P w K mg base 1 (He.ga K "_law_draw") ["_law_pool_here", "_law_many"] (sp__law_draw TT)) : Cn P w K mg base 2 (He.ga K "_law_names") ["_law_pool_here", "_law_many"] (sp__law_names TT) := by
  refine cn_of F sc__law_names (fun vs H Q E h => ?_) (fun _ _ _ _ _ _ us hl => match us, hl with | [_, _], _ => rfl) fun cdv A outer s H vs Q E hr h => ?_
  · obtain ⟨p, m, rfl, _⟩ := h
    rfl
  · obtain ⟨p, m, rfl, hP, h1, h4, q⟩ := h
    refine ⟨_, PSs.nox (pss_cons (ps_set (i := 2) sc__law_names.nd rfl (by first | exact Or.inl rfl | exact Or.inr rfl) pe_str) (pss_cons (ps_set (i := 3) sc__law_names.nd rfl (by first | exact Or.inl rfl | exact Or.inr rfl) (pe_lst pa_nil)) (pss_cons (ps_for PassesOwn.never rfl (pi_range1 rfl T.f_range (pa_cons (pv 1) pa_nil)) (pg_name (i := 4) sc__law_names.nd rfl (by first | exact Or.inl rfl | exact Or.inr rfl)) (pss_cons (ps_set (i := 5) sc__law_names.nd rfl (by first | exact Or.inl rfl | exact Or.inr rfl) (pe_op op_add pe_int (pe_op op_mul (pe_cn h__law_draw (hr.mono (by decide)) rfl T.g__law_draw passL (pa_cons (pv 0) (pa_cons pe_int pa_nil))) (pe_cn h__law_draw (hr.mono (by decide)) rfl T.g__law_draw passL (pa_cons (pv 0) (pa_cons pe_int pa_nil)))))) (pss_cons (ps_set (i := 6) sc__law_names.nd rfl (by first | exact Or.inl rfl | exact Or.inr rfl) (pe_joinQ rfl rfl rfl pe_str (pe_lc (own := [("_law_at", 8)]) (g := (gName 8)) (tt := tYes) rfl sc__law_names.nd (pi_range1 rfl T.f_range (pa_cons (pv 5) pa_nil)) (blkOk_by (N := ["_law_pool_here", "_law_many", "_law_letters", "_law_found", "_law_k", "_law_size", "_law_name", "_law_some_here", "_law_at", "_law_letter", "_law_one"]) (sc := defScope s__law_names) (by decide +kernel)) (fun _ _ _ _ _ => (pg_name (i := 8) sc__law_names.nd rfl (by first | exact Or.inl rfl | exact Or.inr rfl))) (fun _ _ _ _ _ => pts_nil) (fun _ _ _ _ _ => (pe_ix ix_str (pv 2) (pe_cn h__law_draw (hr.mono (by decide)) rfl T.g__law_draw passL (pa_cons (pv 0) (pa_cons pe_int pa_nil))) fun _ _ => rfl))))) (pss_cons (ps_set (i := 7) sc__law_names.nd rfl (by first | exact Or.inl rfl | exact Or.inr rfl) (pe_op op_catF (pe_lst (pa_cons (pv 6) pa_nil)) (pe_lc (own := [("_law_letter", 9)]) (g := (gName 9)) (tt := tYes) rfl sc__law_names.nd (pi_str (pv 2)) (blkOk_by (N := ["_law_pool_here", "_law_many", "_law_letters", "_law_found", "_law_k", "_law_size", "_law_name", "_law_some_here", "_law_at", "_law_letter", "_law_one"]) (sc := defScope s__law_names) (by decide +kernel)) (fun _ _ _ _ _ => (pg_name (i := 9) sc__law_names.nd rfl (by first | exact Or.inl rfl | exact Or.inr rfl))) (fun _ _ _ _ _ => pts_nil) (fun _ _ _ _ _ => (pe_op op_catZ (pe_slice sl_str (pv 6) po_none (po_some (pe_un un_neg pe_int))) (pv 9)))))) (pss_one (ps_expr (pe_bm PySem.F.plainAttrs_list PySem.F.slot_list_append PySem.F.type_list_append mt_append (pv 3) (pa_cons (pe_ix ix_list (pe_lc (own := [("_law_one", 10)]) (g := (gName 10)) rfl sc__law_names.nd (pi_list (pv 7)) (blkOk_by (N := ["_law_pool_here", "_law_many", "_law_letters", "_law_found", "_law_k", "_law_size", "_law_name", "_law_some_here", "_law_at", "_law_letter", "_law_one"]) (sc := defScope s__law_names) (by decide +kernel)) (fun _ _ _ _ _ => (pg_name (i := 10) sc__law_names.nd rfl (by first | exact Or.inl rfl | exact Or.inr rfl))) (fun _ _ _ _ _ => (pts_one (pt_cmpR (op_notInDK (K := K) rfl (hu65 hr)) (pv 10) (pv 3) (by first | rfl | exact nomark _)))) (fun _ _ _ _ _ => (pv 10))) pe_int fun _ _ => rfl) pa_nil)))))))) (pss_one (ps_ret (pv 3)))))), ?_⟩
    try dsimp only [cxOf]
    walk_at "st"
    refine s_newL (by simp) fun l H1 n1 => ?_
    walk_at "st"
    have npl := hP.ne n1.no
    refine s_Ir1R (by omega) (by omega) ?_
    refine forJ (T := TT) (gives_range (lo := 0) (n := m.toNat)) (fun i σ H' => ∃ (ns : List Str) (a1 a2 a3 a4 : _), σ = [some (.ref p), some (.int m), some (.str "abcdefghijklmnopqrstuvwxyz"), some (.ref l), a1, a2, a3, a4, none, none, none] ∧ Fr TT [p] H H' [p] ∧ PoolAt H' p ∧ H' l = some (.lst (ns.map V.str)) ∧ ns.length = i ∧ ns.Nodup ∧ ∀ x ∈ ns, x.length ≤ 16 ∧ PyData.strOk x = true)
      ⟨[], _, _, _, _, rfl, n1.fr, hP.fr (n1.fr (T := TT) (fp := [])) (by simp), n1.at, rfl, .nil, fun _ z => nomatch z⟩ (fun _ _ _ _ _ => trivial) ?_ ?_
    · rintro i x σ H' H'' hi ⟨ns, a1, a2, a3, a4, rfl, f, hP1, hl1, lns, nns, hns⟩ f0 hx
      obtain rfl := hx
      have hP1' := hP1.fr f0 (by simp)
      walk_at "st"
      refine ⟨p, 2, rfl, hP1', by decide, by decide, fun r1 H2 r10 r11 f2 hP2 => ?_⟩
      walk_at "st"
      refine ⟨p, 8, rfl, hP2, by decide, by decide, fun r2 H3 r20 r21 f3 hP3 => ?_⟩
      refine s_I (.inl ⟨by omega, by omega⟩) ?_
      walk_at "st"
      obtain ⟨sz, esz, s1, s8⟩ : ∃ sz : Nat, 1 + r1 * r2 = sz ∧ 1 ≤ sz ∧ sz ≤ 8 := by
        have : r1 = 0 ∨ r1 = 1 := by omega
        rcases this with rfl | rfl
        · exact ⟨1, by omega, by omega, by omega⟩
        · exact ⟨(1 + r2).toNat, by omega, by omega, by omega⟩
      rw [esz]
      refine ⟨⟨_, rfl⟩, ?_⟩
      walk_at "st"
      refine s_Ir1R (by omega) (by omega) ?_
      have f03 : Fr TT [p] H H3 [p] := ((f.trans (f0.up (by simp))).trans f2).trans f3
      have hl3 := f3.get (f2.get (f0.get hl1 (by simp) trivial) (by simpa using npl.symm) trivial) (by simpa using npl.symm) trivial
      refine lcN (T := TT) (gives_range (lo := 0) (n := (sz : Int).toNat)) [p] (fun i ds H' => PoolAt H' p ∧ i ≤ 8 ∧ ∃ ys : List Str, ds = ys.map PyData.str ∧ ys.length = i ∧ ∀ y ∈ ys, y.length = 1 ∧ PyData.strOk y = true) (fun b hb => by rw [List.mem_singleton] at hb; rw [hb]; exact hP3.some) ⟨hP3, by omega, [], rfl, rfl, fun _ z => nomatch z⟩ (fun D i ds H' o hD ⟨a, b⟩ => ⟨a.upd (hP3.ne hD), b⟩)
        (fun _ _ _ _ _ => trivial) (fun i ds H' ⟨_, hi, ys, e, l, _⟩ => by rw [e, List.length_map, l]; omega) ?_ ?_
      · rintro i x ds H4 H4' hi ⟨hP4, _, ys, rfl, ly, hys⟩ f4 f40 hy Y N yes no
        obtain rfl := hy
        walk_at "st"
        refine ⟨rfl, ?_⟩
        walk_at "st"
        refine ⟨p, 26, rfl, hP4.fr f40 (by simp), by decide, by decide, fun r5 H5 r50 r51 f5 hP5 => ?_⟩
        obtain ⟨j, rfl⟩ : ∃ j : Nat, r5 = j := ⟨r5.toNat, by omega⟩
        have hj : j < ("abcdefghijklmnopqrstuvwxyz" : Str).cps.toList.length := by
          have : ("abcdefghijklmnopqrstuvwxyz" : Str).cps.toList.length = 26 := by decide +kernel
          omega
        have hm := List.getElem_mem hj
        refine s_ixS (by decide +kernel) (atI_nat (List.getElem?_eq_getElem hj)) ?_
        generalize ("abcdefghijklmnopqrstuvwxyz" : Str).cps.toList[j] = c at hm
        refine yes _ _ (.str ⟨#[c]⟩) f5 (.str _) ⟨hP5, by omega, ys ++ [⟨#[c]⟩], by rw [List.map_append]; rfl, by simp [ly], fun y hy => ?_⟩
        obtain hy | hy := List.mem_append.mp hy
        · exact hys y hy
        · rw [List.mem_singleton.mp hy]
          exact ⟨rfl, sign_ok (abc_ok c hm)⟩
      · rintro D' H4 acc ds hD ⟨hP4, _, ys, rfl, ly, hys⟩ f34 hacc facc
        rw [FzA.strs_eq facc] at hacc
        have ly8 : ys.length = sz := by omega
        have so := sum_ones ys fun y hy => (hys y hy).1
        have jo := join_ok ys fun y hy => (hys y hy).2
        have jl : (Txt.join "" ys).length = ys.length := join_len fun y hy => (hys y hy).1
        refine s_join (SqL.of hacc) (by rw [so, show ("" : Str).length = 0 from by decide +kernel]; omega) ?_
        rw [ly8] at jl
        generalize Txt.join "" ys = nm at jo jl
        walk_at "st"
        have hl4 := f34.get hl3 (by simpa using npl.symm) trivial
        refine s_newL (by simp) fun l5 H5 n5 => ?_
        walk_at "st"
        refine s_IsR ?_
        have f05 : Fr TT [p] H H5 [p] := (f03.trans f34).trans n5.fr
        have hP5 := hP4.fr (n5.fr (T := TT) (fp := [])) (by simp)
        obtain ⟨pre, epre⟩ : ∃ pre, pre = cutS nm none (some (-1)) := ⟨_, rfl⟩
        have lpre : pre.length ≤ 8 := by rw [epre]; exact Nat.le_trans (cutS_length _ _ _) (by omega)
        have opre : PyData.strOk pre = true := by rw [epre]; exact cutS_ok jo
        refine lcJ (T := TT) (gives_str (s := "abcdefghijklmnopqrstuvwxyz")) [] (fun _ _ => True) (fun i => ((("abcdefghijklmnopqrstuvwxyz" : Str).cps.toList.take i).map fun c => pre ++ (⟨#[c]⟩ : Str)).map PyData.str) (fun _ z => nomatch z) trivial (by simp) (fun _ _ _ _ _ _ => trivial) (fun i H' _ f => trivial) (fun i => ?_) ?_ ?_
        · rw [List.length_map, List.length_map, List.length_take]
          exact Nat.lt_of_le_of_lt (Nat.min_le_right _ _) (by decide +kernel)
        · rintro j y H6 H6' hj _ f6 f60 ⟨c, ec, rfl⟩ Y N yes no
          rw [← Array.getElem?_toList] at ec
          walk_at "st"
          refine ⟨rfl, ?_⟩
          walk_at "st"
          refine s_slS (by omega) epre.symm ?_
          walk_at "st"
          refine s_catZ (by show pre.length + 1 ≤ 1000000; omega) ?_
          refine yes _ _ (.str (pre ++ ⟨#[c]⟩)) .refl ?_ (.str _) trivial
          rw [List.take_succ, ec, List.map_append, List.map_append]
          rfl
        · intro D6 H6 acc6 hD6 _ f56 hacc6 facc6
          rw [show ("abcdefghijklmnopqrstuvwxyz" : Str).cps.size = ("abcdefghijklmnopqrstuvwxyz" : Str).cps.toList.length from Array.length_toList.symm, List.take_length] at facc6
          rw [FzA.strs_eq facc6] at hacc6
          obtain ⟨zs, ezs⟩ : ∃ zs, zs = ("abcdefghijklmnopqrstuvwxyz" : Str).cps.toList.map fun c => pre ++ (⟨#[c]⟩ : Str) := ⟨_, rfl⟩
          rw [← ezs] at hacc6
          have lzs : zs.length = 26 := by rw [ezs, List.length_map]; decide +kernel
          have nzs : zs.Nodup := by
            rw [ezs]
            refine List.Pairwise.map _ (fun a b ne e => ne ?_) (show ("abcdefghijklmnopqrstuvwxyz" : Str).cps.toList.Nodup by decide +kernel)
            have e2 := congrArg Str.cps e
            rw [Str.cps_append, Str.cps_append] at e2
            have e3 := congrArg Array.toList e2
            rw [Array.toList_append, Array.toList_append] at e3
            have e4 := List.append_cancel_left e3
            simpa using e4
          have ozs : ∀ z ∈ zs, z.length ≤ 16 ∧ PyData.strOk z = true := by
            intro z hz
            rw [ezs] at hz
            obtain ⟨c, hc, rfl⟩ := List.mem_map.mp hz
            refine ⟨?_, strOk_app opre (sign_ok (abc_ok c hc))⟩
            rw [Str.length_append]
            show pre.length + 1 ≤ 16
            omega
          have h5 := f56.get n5.at (by simp) trivial
          refine s_catF (.inl h5) (.inl hacc6) (by rw [List.length_map, lzs]; show 1 + 26 ≤ 1000000; decide) fun l7 H7 n7 => ?_
          walk_at "st"
          have hl7 := n7.old (f56.get (n5.old hl4) (by simp) trivial)
          refine ⟨s_tyL hl7, ?_⟩
          walk_at "st"
          have e7 : H7 l7 = some (.lst ((nm :: zs).map V.str)) := n7.at
          have f07 : Fr TT [p] H H7 [p] := (f05.trans (f56.up (by simp))).trans n7.fr
          refine s_IlR (SqL.of e7) ?_
          have oall : ∀ z ∈ nm :: zs, z.length ≤ 16 ∧ PyData.strOk z = true := fun z hz => by
            obtain rfl | hz := List.mem_cons.mp hz
            · exact ⟨by omega, jo⟩
            · exact ozs z hz
          refine lcJ (T := TT) (gives_list (xs := (nm :: zs).map V.str)) [] (fun _ _ => True) (fun i => (((nm :: zs).take i).filter fun z => !decide (z ∈ ns)).map PyData.str) (fun _ z => nomatch z) trivial (by simp) (fun _ _ _ _ _ _ => trivial) (fun i H' _ f => f.sqL (SqL.of e7) (by simp)) (fun i => ?_) ?_ ?_
          · rw [List.length_map]
            refine Nat.lt_of_le_of_lt (List.length_filter_le _ _) ?_
            rw [List.length_take, List.length_cons, lzs]
            omega
          · intro j y H8 H8' hj _ f8 f80 hy Y N yes no
            rw [List.getElem?_map] at hy
            obtain ⟨z, ez, rfl⟩ := Option.map_eq_some_iff.mp hy
            have etk : (nm :: zs).take (j + 1) = (nm :: zs).take j ++ [z] := by rw [List.take_succ, ez]; rfl
            have hl8 := f80.get (f8.get hl7 (by simp) trivial) (by simp) trivial
            walk_at "st"
            refine ⟨rfl, ?_⟩
            walk_at "st"
            refine ⟨.str z, ns.map PyData.str, .str z, .lst (SqL.of hl8) (Fz.strs (H := H8')).dp, str_shaped (oall z (List.mem_of_getElem? ez)).2, strs_shaped fun x hx => (hns x hx).2, ?_⟩
            rw [any_str]
            by_cases hin : z ∈ ns
            · rw [decide_eq_true hin]
              walk_at "st"
              refine no _ .refl ?_ trivial
              rw [etk, List.filter_append, List.map_append]
              simp [List.filter, hin]
            · rw [decide_eq_false hin]
              walk_at "st"
              refine yes _ _ (.str z) .refl ?_ (.str _) trivial
              rw [etk, List.filter_append, List.map_append]
              simp [List.filter, hin]
          · intro D8 H8 acc8 hD8 _ f78 hacc8 facc8
            rw [List.length_map, List.take_length] at facc8
            have ea8 := FzA.strs_eq facc8
            have i4 : i < 4 := by omega
            cases hf : (nm :: zs).filter fun z => !decide (z ∈ ns) with
            | nil =>
              exfalso
              have hsub : ∀ z ∈ zs, z ∈ ns := fun z hz => by
                have := List.filter_eq_nil_iff.mp hf z (List.mem_cons_of_mem _ hz)
                simpa using this
              have := sub_len nzs hsub
              omega
            | cons z0 zr =>
              have hz0 : z0 ∈ (nm :: zs).filter fun z => !decide (z ∈ ns) := by rw [hf]; exact List.mem_cons_self
              obtain ⟨hz1, hz2⟩ := List.mem_filter.mp hz0
              have hz3 : z0 ∉ ns := by simpa using hz2
              rw [hf] at ea8
              rw [ea8] at hacc8
              walk_at "st"
              refine s_ixL (SqL.of hacc8) (show atI (List.map V.str (z0 :: zr)) 0 = some (V.str z0) from atI_lit0) ?_
              walk_at "st"
              have hl8 := f78.get hl7 (by simp) trivial
              refine s_appC hl8 (by rw [List.length_map]; omega) fun H9 c9 => ?_
              walk_at "st"
              have f08 : Fr TT [p] H H8 [p] := f07.trans (f78.up (by simp))
              have hP8 := ((hP5.fr f56 (by simp)).fr (n7.fr (T := TT) (fp := [])) (by simp)).fr f78 (by simp)
              refine ⟨ns ++ [z0], _, _, _, _, rfl, c9.back f08 n1.no hl8 trivial, hP8.fr (c9.fr (T := TT) (fp := [l]) hl8 trivial (by simp)) (by simpa using npl), by rw [c9.at, List.map_append]; rfl, by simp [lns], ?_, ?_⟩
              · rw [List.nodup_append]
                exact ⟨nns, by simp, fun a ha b hb e => by
                  rw [List.mem_singleton] at hb
                  subst hb
                  subst e
                  exact hz3 ha⟩
              · intro x hx
                obtain hx | hx := List.mem_append.mp hx
                · exact hns x hx
                · rw [List.mem_singleton.mp hx]
                  exact oall z0 hz1
    · rintro σ H' ⟨ns, a1, a2, a3, a4, rfl, f, hP1, hl1, lns, nns, hns⟩
      walk_at "st"
      exact q l ns H' f hP1 n1.no hl1 (by omega) nns hns
end
end K28
/-! ## K28g3 -/
namespace K28
set_option maxHeartbeats 3900000
open L2 LamX PySem PySem.Spec PyProof.Rows
local macro_rules | `(tactic| walk_at "st") => `(tactic| repeat (first
  | with_reducible refine s_seq ?_ | with_reducible refine s_ret ?_ | with_reducible refine s_retN ?_ | with_reducible refine s_drop ?_ | with_reducible refine s_asg ?_ | with_reducible refine s_gn ?_ | with_reducible refine s_nextq ?_
  | ((with_reducible apply s_var); exact rfl) | with_reducible refine s_c ?_ | with_reducible refine s_op ?_ | with_reducible refine s_I0 ?_ | ((with_reducible refine s_eq ?_ ?_); exact rfl) | ((with_reducible refine s_ne ?_ ?_); exact rfl)
  | with_reducible refine s_test ?_ | with_reducible refine s_tB ?_ | with_reducible refine s_bl ?_ | with_reducible refine s_and ?_ | with_reducible refine s_or ?_ | with_reducible refine s_not ?_ | with_reducible refine s_andV ?_ | with_reducible refine s_orV ?_ | with_reducible refine s_notV ?_
  | with_reducible refine s_blP ?_ | with_reducible refine s_ifS ?_ | with_reducible refine s_nil ?_ | with_reducible refine s_cons ?_ | with_reducible refine s_cb ?_ | with_reducible refine s_call ?_ | with_reducible refine s_tup ?_ | with_reducible refine s_lst ?_
  | with_reducible refine s_isN ?_ | with_reducible refine s_notN ?_ | with_reducible refine s_un ?_ | with_reducible refine s_U ?_ | with_reducible refine s_fld ?_ | with_reducible refine s_put ?_ | with_reducible refine s_meth ?_ | with_reducible refine s_gc ?_ | with_reducible refine s_g0 ?_
  | with_reducible refine s_dz ?_ | with_reducible refine s_make ?_ | with_reducible refine s_m1 ?_ | with_reducible refine s_chain ?_ | with_reducible refine s_iZ ?_ | with_reducible refine s_dput ?_ | with_reducible refine s_dget ?_ | with_reducible refine s_din ?_ | with_reducible refine s_lc ?_ | with_reducible refine s_for ?_ | with_reducible refine s_iL ?_ | with_reducible refine s_iE ?_ | with_reducible refine s_iR1 ?_ | with_reducible refine s_iR2 ?_ | with_reducible refine s_yes ?_
  | with_reducible refine s_frz ?_ | with_reducible refine s_bm ?_ | with_reducible refine s_bm0 ?_ | with_reducible refine s_iff ?_ | with_reducible refine s_ift ?_ | with_reducible refine s_ifnt ?_ | with_reducible refine s_ifnf ?_
  | with_reducible refine s_iT ?_ | with_reducible refine s_iS ?_ | with_reducible refine s_sl ?_ | with_reducible refine s_npart ?_ | with_reducible refine s_part ?_ | with_reducible refine s_PrtR ?_ | with_reducible refine s_pp0 ?_ | with_reducible refine s_pp ?_ | with_reducible refine s_sub ?_ | with_reducible refine s_callS ?_))
section
variable {P : Program} {w : World} {K : PySem.W.Frag} {mg : Str → Option Value} {base : Heap} {TT : List (Addr × Str)}
/-! ### the book -/
structure GdOk (names : List Str) (d : Dl) : Prop where
  ln : (d.lets.map (·.1)).Nodup
  l0 : d.lets.length ≤ 4
  lk : ∀ p ∈ d.lets, p.2 ∈ names
  st : ∀ p ∈ d.steps, p.2 ∈ d.lets.map (·.1)
  s8 : d.steps.length ≤ 8
  nd : d.name.length ≤ 16 ∧ PyData.strOk d.name = true
  sl : ∀ p ∈ d.lets, p.1.length ≤ 16
  sd : ∀ p ∈ d.steps, p.1.length ≤ 16
  so : ∀ p ∈ d.steps, PyData.strOk p.1 = true
theorem BkOk.mk' {names : List Str} {ks : List (Str × Bool)} {dls : List Dl} (ek : ks.map (·.1) = names) (nn : names.Nodup) (n0 : 0 < names.length) (n3 : names.length ≤ 3) (ho : ∀ x ∈ names, x.length ≤ 16 ∧ PyData.strOk x = true)
    (dn : (dls.map (·.name)).Nodup) (d0 : 0 < dls.length) (d4 : dls.length ≤ 4) (hd : ∀ d ∈ dls, GdOk names d) : BkOk ⟨ks, dls⟩ := by
  have lk : ks.length = names.length := by rw [← ek, List.length_map]
  have hm : ∀ x ∈ names, ∃ m, (x, m) ∈ ks := fun x hx => by
    rw [← ek] at hx
    obtain ⟨⟨a, m⟩, h, rfl⟩ := List.mem_map.mp hx
    exact ⟨m, h⟩
  have hn : ∀ p ∈ ks, p.1 ∈ names := fun p hp => by rw [← ek]; exact List.mem_map.mpr ⟨p, hp, rfl⟩
  exact ⟨by rw [ek]; exact nn, dn, d0, d4, by show 0 < ks.length; omega, by show ks.length ≤ 3; omega, fun d h => (hd d h).ln, fun d h => (hd d h).l0, fun d h p hp => hm _ ((hd d h).lk p hp), fun d h => (hd d h).st, fun d h => (hd d h).s8,
    fun p hp => (ho _ (hn p hp)).1, fun p hp => (ho _ (hn p hp)).2, fun d h => (hd d h).nd.1, fun d h => (hd d h).sl, fun d h => (hd d h).sd, fun d h => (hd d h).nd.2, fun d h => (hd d h).so⟩
theorem sc__law_book : FnScope ["_law_pool_here", "_law_most_kinds", "_law_most_dealings", "_law_names_here", "_law_kinds", "_law_dealings", "_law_name", "_law_marks_here", "_law_letters", "_law_mark"] ["_law_pool_here", "_law_most_kinds", "_law_most_dealings"] (defScope s__law_book) := ⟨rfl, rfl, rfl, by decide +kernel, rfl, by decide +kernel, by decide +kernel⟩
def sp__law_book (TT : List (Addr × Str)) : Sp := fun vs H Q _ => ∃ (p : Addr), vs = [.ref p, .int 3, .int 4] ∧ PoolAt H p ∧ ∀ v (b : Bk) H', Fr TT [p] H H' [p] → PoolAt H' p → Fz H' v (bkD b) → BkOk b → Q v H'
theorem k__law_book {fd : FuncData} (T : Tx K mg) (F : FunD K "_law_book" "_law_book" (defArgs s__law_book) (defBody s__law_book) (defScope s__law_book) [] [] (He.ga K "_law_book") fd) (h__law_draw : Cn P w K mg base 1 (He.ga K "_law_draw") ["_law_pool_here", "_law_many"] (sp__law_draw TT)) (h__law_names : Cn P w K mg base 2 (He.ga K "_law_names") ["_law_pool_here", "_law_many"] (sp__law_names TT)) (h__law_marks : Cn P w K mg base 2 (He.ga K "_law_marks") ["_law_pool_here", "_law_many"] (sp__law_marks TT))
    (h__law_steps : Cn P w K mg base 2 (He.ga K "_law_steps") ["_law_pool_here", "_law_marks_here"] (sp__law_steps TT)) : Cn P w K mg base 3 (He.ga K "_law_book") ["_law_pool_here", "_law_most_kinds", "_law_most_dealings"] (sp__law_book TT) := by
  refine cn_of F sc__law_book (fun vs H Q E h => ?_) (fun _ _ _ _ _ _ us hl => match us, hl with | [_, _, _], _ => rfl) fun cdv A outer s H vs Q E hr h => ?_
  · obtain ⟨p, rfl, _⟩ := h
    rfl
  · obtain ⟨p, rfl, hP, q⟩ := h
    refine ⟨_, PSs.nox (pss_cons (ps_set (i := 3) sc__law_book.nd rfl (by first | exact Or.inl rfl | exact Or.inr rfl) (pe_cn h__law_names (hr.mono (by decide)) rfl T.g__law_names passL (pa_cons (pv 0) (pa_cons (pe_op op_add pe_int (pe_cn h__law_draw (hr.mono (by decide)) rfl T.g__law_draw passL (pa_cons (pv 0) (pa_cons (pv 1) pa_nil)))) pa_nil)))) (pss_cons (ps_setLc (i := 4) rfl sc__law_book.nd rfl rfl (sw_true rfl rfl rfl (by decide +kernel)) (own := [("_law_name", 6)]) (g := (gName 6)) (tt := tYes) (pi_list (pv 3)) (blkOk_by (N := ["_law_pool_here", "_law_most_kinds", "_law_most_dealings", "_law_names_here", "_law_kinds", "_law_dealings", "_law_name", "_law_marks_here", "_law_letters", "_law_mark"]) (sc := defScope s__law_book) (by decide +kernel)) (fun _ _ _ _ _ => (pg_name (i := 6) sc__law_book.nd rfl (by first | exact Or.inl rfl | exact Or.inr rfl))) (fun _ _ _ _ _ => pts_nil) (fun _ _ _ _ _ => (pe_tup (pa_cons (pv 6) (pa_cons (pe_cmpR op_gt (pe_cn h__law_draw (hr.mono (by decide)) rfl T.g__law_draw passL (pa_cons (pv 0) (pa_cons pe_int pa_nil))) pe_int (nomark _)) pa_nil))))) (pss_cons (ps_set (i := 5) sc__law_book.nd rfl (by first | exact Or.inl rfl | exact Or.inr rfl) (pe_lst pa_nil)) (pss_cons (ps_for PassesOwn.never rfl (pi_list (pe_cn h__law_names (hr.mono (by decide)) rfl T.g__law_names passL (pa_cons (pv 0) (pa_cons (pe_op op_add pe_int (pe_cn h__law_draw (hr.mono (by decide)) rfl T.g__law_draw passL (pa_cons (pv 0) (pa_cons (pv 2) pa_nil)))) pa_nil)))) (pg_name (i := 6) sc__law_book.nd rfl (by first | exact Or.inl rfl | exact Or.inr rfl)) (pss_cons (ps_set (i := 7) sc__law_book.nd rfl (by first | exact Or.inl rfl | exact Or.inr rfl) (pe_cn h__law_marks (hr.mono (by decide)) rfl T.g__law_marks passL (pa_cons (pv 0) (pa_cons (pe_op op_add pe_int (pe_cn h__law_draw (hr.mono (by decide)) rfl T.g__law_draw passL (pa_cons (pv 0) (pa_cons pe_int pa_nil)))) pa_nil)))) (pss_cons (ps_setLc (i := 8) rfl sc__law_book.nd rfl rfl (sw_true rfl rfl rfl (by decide +kernel)) (own := [("_law_mark", 9)]) (g := (gName 9)) (tt := tYes) (pi_list (pv 7)) (blkOk_by (N := ["_law_pool_here", "_law_most_kinds", "_law_most_dealings", "_law_names_here", "_law_kinds", "_law_dealings", "_law_name", "_law_marks_here", "_law_letters", "_law_mark"]) (sc := defScope s__law_book) (by decide +kernel)) (fun _ _ _ _ _ => (pg_name (i := 9) sc__law_book.nd rfl (by first | exact Or.inl rfl | exact Or.inr rfl))) (fun _ _ _ _ _ => pts_nil) (fun _ _ _ _ _ => (pe_tup (pa_cons (pv 9) (pa_cons (pe_ix (ix_listK (K := K) rfl) (pv 3) (pe_cn h__law_draw (hr.mono (by decide)) rfl T.g__law_draw passL (pa_cons (pv 0) (pa_cons (pe_callB (call_lenK (K := K) rfl) rfl T.f_len (by decide +kernel) (pa_cons (pv 3) pa_nil)) pa_nil))) fun _ _ => rfl) pa_nil))))) (pss_one (ps_expr (pe_bm PySem.F.plainAttrs_list PySem.F.slot_list_append PySem.F.type_list_append mt_append (pv 5) (pa_cons (pe_tup (pa_cons (pv 6) (pa_cons (pe_frz (pv 8)) (pa_cons (pe_cn h__law_steps (hr.mono (by decide)) rfl T.g__law_steps passL (pa_cons (pv 0) (pa_cons (pv 7) pa_nil))) pa_nil)))) pa_nil))))))) (pss_one (ps_ret (pe_tup (pa_cons (pe_frz (pv 4)) (pa_cons (pe_frz (pv 5)) pa_nil))))))))), ?_⟩
    try dsimp only [cxOf]
    walk_at "st"
    refine ⟨p, 3, rfl, hP, by decide, by decide, fun r1 H1 r10 r11 f1 hP1 => ?_⟩
    walk_at "st"
    refine ⟨p, 1 + r1, rfl, hP1, by omega, by omega, fun nl names H2 f2 hP2 nlN hnl lnm nn hno => ?_⟩
    have npn : p ≠ nl := hP1.ne nlN
    have f02 : Fr TT [p] H H2 [p] := f1.trans f2
    walk_at "st"
    refine s_IlR (SqL.of hnl) ?_
    refine lcN (T := TT) (gives_list (xs := names.map V.str)) [p] (fun i ds H' => PoolAt H' p ∧ i ≤ names.length ∧ ∃ ks : List (Str × Bool), ds = ks.map kdD ∧ ks.map (·.1) = names.take i) (fun b hb => by rw [List.mem_singleton] at hb; rw [hb]; exact hP2.some) ⟨hP2, Nat.zero_le _, [], rfl, rfl⟩ (fun D i ds H' o hD ⟨a, b⟩ => ⟨a.upd (hP2.ne hD), b⟩)
      (fun _ _ _ _ f => f.sqL (SqL.of hnl) (by simpa using npn.symm)) (fun i ds H' ⟨_, hi, ks, e, l⟩ => by have := congrArg List.length l; rw [List.length_map, List.length_take] at this; rw [e, List.length_map]; omega) ?_ ?_
    · rintro i x ds H4 H4' hi ⟨hP4, _, ks, rfl, eks⟩ f4 f40 hy Y N yes no
      rw [List.getElem?_map] at hy
      obtain ⟨nm, en, rfl⟩ := Option.map_eq_some_iff.mp hy
      walk_at "st"
      refine ⟨rfl, ?_⟩
      walk_at "st"
      refine ⟨p, 3, rfl, hP4.fr f40 (by simp), by decide, by decide, fun r5 H5 r50 r51 f5 hP5 => ?_⟩
      walk_at "st"
      refine s_newT (by simp) fun tp H6 n6 => ?_
      refine yes _ H6 (kdD (nm, decide (0 < r5))) (f5.trans n6.fr) (.tup n6.at (.cons (.str _) (.cons (.bl _) .nil))) ⟨hP5.fr (n6.fr (T := TT) (fp := [])) (by simp), by rw [List.length_map] at hi; omega, ks ++ [(nm, decide (0 < r5))], by rw [List.map_append]; rfl, ?_⟩
      rw [List.map_append, eks, List.take_succ, en]
      rfl
    · rintro kd H3 kacc ds hkdN ⟨hP3, _, ks, rfl, eks⟩ f23 hkacc fkacc
      rw [List.length_map, List.take_length] at eks
      have npk : p ≠ kd := hP2.ne hkdN
      have f03 : Fr TT [p] H H3 [p] := f02.trans f23
      have hnl3 := f23.get hnl (by simpa using npn.symm) trivial
      walk_at "st"
      refine s_newL (by simp) fun dl H4 n4 => ?_
      walk_at "st"
      have hP4 := hP3.fr (n4.fr (T := TT) (fp := [])) (by simp)
      have npd : p ≠ dl := hP3.ne n4.no
      have nkd : kd ≠ dl := n4.ne hkacc
      have nnd : nl ≠ dl := n4.ne hnl3
      have hdlN : H dl = none := f03.dom dl n4.no
      have hkdN0 : H kd = none := f02.dom kd hkdN
      refine ⟨p, 4, rfl, hP4, by decide, by decide, fun r5 H5 r50 r51 f5 hP5 => ?_⟩
      walk_at "st"
      refine ⟨p, 1 + r5, rfl, hP5, by omega, by omega, fun el enm H6 f6 hP6 elN hel lel nel heo => ?_⟩
      have f46 : Fr TT [p] H4 H6 [p] := f5.trans f6
      have f06 : Fr TT [p] H H6 [p] := (f03.trans n4.fr).trans f46
      have npe : p ≠ el := hP5.ne elN
      have hdl5 := f5.get n4.at (by simpa using npd.symm) trivial
      have hdl6 := f46.get n4.at (by simpa using npd.symm) trivial
      have ned : el ≠ dl := fun z => by rw [z] at elN; rw [hdl5] at elN; cases elN
      have hka6 := f46.get (n4.old hkacc) (by simpa using npk.symm) trivial
      have hnl6 := f46.get (n4.old hnl3) (by simpa using npn.symm) trivial
      refine s_IlR (SqL.of hel) ?_
      refine forJ (T := TT) (gives_list (xs := enm.map V.str)) (fun i σ H' => ∃ (a1 a2 a3 : _) (xs : List V) (dls : List Dl), σ = [some (.ref p), some (.int 3), some (.int 4), some (.ref nl), some (.ref kd), some (.ref dl), a1, a2, a3, none] ∧ Fr TT [p] H H' [p] ∧ PoolAt H' p ∧ H' el = some (.lst (enm.map V.str)) ∧ H' nl = some (.lst (names.map V.str)) ∧ H' kd = some (.lst kacc) ∧ H' dl = some (.lst xs) ∧ FzA H' xs (dls.map dlD) ∧ FzA H' kacc (ks.map kdD) ∧ dls.map (·.name) = enm.take i ∧ ∀ d ∈ dls, GdOk names d)
        ⟨_, _, _, [], [], rfl, f06, hP6, hel, hnl6, hka6, hdl6, .nil, ((n4.fr (T := TT) (fp := [p])).trans f46).fza fkacc, rfl, fun _ z => nomatch z⟩ ?_ ?_ ?_
      · rintro i σ H' hi ⟨a1, a2, a3, xs, dls, rfl, f, hP', hel', _⟩
        exact SqL.of hel'
      · rintro i x σ H' H'' hi ⟨a1, a2, a3, xs, dls, rfl, f, hP', hel', hnl', hkd', hdl', fx, fk, edl, hdls⟩ f0 hx
        rw [List.getElem?_map] at hx
        obtain ⟨nm, en, rfl⟩ := Option.map_eq_some_iff.mp hx
        have hP'' := hP'.fr f0 (by simp)
        walk_at "st"
        refine ⟨p, 4, rfl, hP'', by decide, by decide, fun r7 H7 r70 r71 f7 hP7 => ?_⟩
        walk_at "st"
        refine ⟨p, 1 + r7, rfl, hP7, by omega, by omega, fun ml ms H8 f8 hP8 mlN hml lml nml hmo => ?_⟩
        walk_at "st"
        have npm : p ≠ ml := hP7.ne mlN
        have g8 : Fr TT [p] H' H8 [p] := ((f0.up (by simp)).trans f7).trans f8
        have hnl8 := g8.get hnl' (by simpa using npn.symm) trivial
        have hdl8 := g8.get hdl' (by simpa using npd.symm) trivial
        have lm4 : ms.length ≤ 4 := by omega
        have lm1 : 1 ≤ ms.length := by omega
        refine s_IlR (SqL.of hml) ?_
        refine lcN (T := TT) (gives_list (xs := ms.map V.str)) [p] (fun i ds H' => PoolAt H' p ∧ i ≤ ms.length ∧ ∃ ls : List (Str × Str), ds = ls.map prS ∧ ls.map (·.1) = ms.take i ∧ ∀ q ∈ ls, q.2 ∈ names) (fun b hb => by rw [List.mem_singleton] at hb; rw [hb]; exact hP8.some) ⟨hP8, Nat.zero_le _, [], rfl, rfl, fun _ z => nomatch z⟩ (fun D i ds H' o hD ⟨a, b⟩ => ⟨a.upd (hP8.ne hD), b⟩)
          (fun _ _ _ _ f => f.sqL (SqL.of hml) (by simpa using npm.symm)) (fun i ds H' ⟨_, hi, ks, e, l, _⟩ => by have := congrArg List.length l; rw [List.length_map, List.length_take] at this; rw [e, List.length_map]; omega) ?_ ?_
        · rintro j x ds H9 H9' hj ⟨hP9, _, ls, rfl, els, hls⟩ f9 f90 hy Y N yes no
          rw [List.getElem?_map] at hy
          obtain ⟨mk, em, rfl⟩ := Option.map_eq_some_iff.mp hy
          have hnl9 := f90.get (f9.get hnl8 (by simpa using npn.symm) trivial) (by simp) trivial
          walk_at "st"
          refine ⟨rfl, ?_⟩
          walk_at "st"
          refine s_lenL (SqL.of hnl9) ?_
          rw [List.length_map]
          walk_at "st"
          refine ⟨p, names.length, rfl, hP9.fr f90 (by simp), by omega, by omega, fun r10 H10 ra rb f10 hP10 => ?_⟩
          obtain ⟨t, rfl⟩ : ∃ t : Nat, r10 = t := ⟨r10.toNat, by omega⟩
          have ht : t < names.length := by omega
          refine s_ixL (SqL.of (f10.get hnl9 (by simpa using npn.symm) trivial)) (atI_nat (v := .str names[t]) (by rw [List.getElem?_map, List.getElem?_eq_getElem ht]; rfl)) ?_
          walk_at "st"
          refine s_newT (by simp) fun tp H11 n11 => ?_
          refine yes _ H11 (prS (mk, names[t])) (f10.trans n11.fr) (.tup n11.at (.cons (.str _) (.cons (.str _) .nil))) ⟨hP10.fr (n11.fr (T := TT) (fp := [])) (by simp), by rw [List.length_map] at hj; omega, ls ++ [(mk, names[t])], by rw [List.map_append]; rfl, ?_, ?_⟩
          · rw [List.map_append, els, List.take_succ, em]
            rfl
          · intro q hq
            obtain hq | hq := List.mem_append.mp hq
            · exact hls q hq
            · rw [List.eq_of_mem_singleton hq]
              exact List.getElem_mem ht
        · rintro ll H9 lacc ds hllN ⟨hP9, _, ls, rfl, els, hls⟩ f89 hlacc flacc
          rw [List.length_map, List.take_length] at els
          have lls : ls.length = ms.length := by rw [← els, List.length_map]
          have npll : p ≠ ll := hP8.ne hllN
          have g9 : Fr TT [p] H' H9 [p] := g8.trans f89
          have hdl9 := g9.get hdl' (by simpa using npd.symm) trivial
          have hml9 := f89.get hml (by simpa using npm.symm) trivial
          walk_at "st"
          refine ⟨s_tyL hdl9, ?_⟩
          walk_at "st"
          refine s_frzM hlacc trivial fun o H10 c10 => ?_
          have i10 := c10.imm hlacc trivial
          have hllN' : H' ll = none := g8.dom ll hllN
          have ndll : dl ≠ ll := fun z => by rw [z] at hdl'; rw [hdl'] at hllN'; cases hllN'
          have nmll : ml ≠ ll := fun z => by rw [← z] at hllN; rw [hml] at hllN; cases hllN
          have g10 : Fr TT [p] H' H10 [p] := c10.back g9 hllN' hlacc trivial
          walk_at "st"
          refine ⟨p, ml, ms, rfl, hP9.fr (c10.fr (T := TT) (fp := [ll]) hlacc trivial (by simp)) (by simpa using npll), c10.old hml9 nmll, lm1, lm4, npm, fun sv ss H11 f11 hP11 fss ls8 hss => ?_⟩
          walk_at "st"
          refine s_newT (by simp) fun tp H12 n12 => ?_
          walk_at "st"
          have hdl12 := n12.old (f11.get (c10.old hdl9 ndll) (by simpa using npd.symm) trivial)
          have lx := fx.length
          have le := congrArg List.length edl
          simp only [List.length_map, List.length_take] at lx le
          refine s_appC hdl12 (by omega) fun H13 c13 => ?_
          walk_at "st"
          have g12 : Fr TT [p] H' H12 [p] := (g10.trans f11).trans n12.fr
          have i13 := c13.imm hdl12 trivial
          have ft : Fz H12 (.ref tp) (dlD ⟨nm, ls, ss⟩) := .tup n12.at (.cons (.str _) (.cons (n12.fz (f11.fz (.lst c10.at (flacc.keep i10)))) (.cons (n12.fz fss) .nil)))
          refine ⟨_, _, _, xs ++ [.ref tp], dls ++ [⟨nm, ls, ss⟩], rfl, c13.back (f.trans g12) hdlN hdl12 trivial, (hP11.fr (n12.fr (T := TT) (fp := [])) (by simp)).fr (c13.fr (T := TT) (fp := [dl]) hdl12 trivial (by simp)) (by simpa using npd), c13.old (g12.get hel' (by simpa using npe.symm) trivial) ned, c13.old (g12.get hnl' (by simpa using npn.symm) trivial) nnd, c13.old (g12.get hkd' (by simpa using npk.symm) trivial) nkd, c13.at, ?_, ?_, ?_, ?_⟩
          · rw [List.map_append]
            exact (((g12.fza fx).snoc ft)).keep i13
          · exact (g12.fza fk).keep i13
          · rw [List.map_append, edl, List.take_succ, en]
            rfl
          · intro d hd
            obtain hd | hd := List.mem_append.mp hd
            · exact hdls d hd
            · rw [List.mem_singleton] at hd
              subst hd
              refine ⟨by rw [els]; exact nml, by show ls.length ≤ 4; omega, hls, fun q hq => by rw [els]; exact (hss q hq).1, ls8, heo nm (List.mem_of_getElem? en), fun q hq => ?_, fun q hq => (hss q hq).2.1, fun q hq => (hss q hq).2.2⟩
              have : q.1 ∈ ms := by rw [← els]; exact List.mem_map.mpr ⟨q, hq, rfl⟩
              rw [hmo _ this]
              decide
      · rintro σ H' ⟨a1, a2, a3, xs, dls, rfl, f, hP', hel', hnl', hkd', hdl', fx, fk, edl, hdls⟩
        rw [List.length_map, List.take_length] at edl
        walk_at "st"
        refine s_frzM hkd' trivial fun o1 H7 c7 => ?_
        walk_at "st"
        have hdl7 := c7.old hdl' nkd.symm
        refine s_frzM hdl7 trivial fun o2 H8 c8 => ?_
        walk_at "st"
        refine s_newT (by simp) fun tp H9 n9 => ?_
        have i7 := c7.imm hkd' trivial
        have i8 := c8.imm hdl7 trivial
        have i9 := (n9.fr (T := TT) (fp := [])).imm
        have f7 : Fr TT [p] H H7 [p] := c7.back f hkdN0 hkd' trivial
        have f8 : Fr TT [p] H H8 [p] := c8.back f7 hdlN hdl7 trivial
        have ld : dls.length = enm.length := by rw [← edl, List.length_map]
        refine q _ ⟨ks, dls⟩ H9 (f8.trans n9.fr) (((hP'.fr (c7.fr (T := TT) (fp := [kd]) hkd' trivial (by simp)) (by simpa using npk)).fr (c8.fr (T := TT) (fp := [dl]) hdl7 trivial (by simp)) (by simpa using npd)).fr (n9.fr (T := TT) (fp := [])) (by simp)) (.tup n9.at (.cons (.lst (n9.old (c8.old c7.at nkd)) ?_) (.cons (.lst (n9.old c8.at) ?_) .nil)))
          (BkOk.mk' eks nn (by omega) (by omega) hno (by rw [edl]; exact nel) (by omega) (by omega) hdls)
        · exact (((fk.keep i7).keep i8).keep i9)
        · exact (((fx.keep i7).keep i8).keep i9)
end
end K28
/-! ## K28g4 -/
namespace K28
set_option maxHeartbeats 3900000
open L2 LamX PySem PySem.Spec PyProof.Rows
local macro_rules | `(tactic| walk_at "st") => `(tactic| repeat (first
  | with_reducible refine s_seq ?_ | with_reducible refine s_ret ?_ | with_reducible refine s_retN ?_ | with_reducible refine s_drop ?_ | with_reducible refine s_asg ?_ | with_reducible refine s_gn ?_ | with_reducible refine s_nextq ?_
  | ((with_reducible apply s_var); exact rfl) | with_reducible refine s_c ?_ | with_reducible refine s_op ?_ | with_reducible refine s_I0 ?_ | ((with_reducible refine s_eq ?_ ?_); exact rfl) | ((with_reducible refine s_ne ?_ ?_); exact rfl)
  | with_reducible refine s_test ?_ | with_reducible refine s_tB ?_ | with_reducible refine s_bl ?_ | with_reducible refine s_and ?_ | with_reducible refine s_or ?_ | with_reducible refine s_not ?_ | with_reducible refine s_andV ?_ | with_reducible refine s_orV ?_ | with_reducible refine s_notV ?_
  | with_reducible refine s_blP ?_ | with_reducible refine s_ifS ?_ | with_reducible refine s_nil ?_ | with_reducible refine s_cons ?_ | with_reducible refine s_cb ?_ | with_reducible refine s_call ?_ | with_reducible refine s_tup ?_ | with_reducible refine s_lst ?_
  | with_reducible refine s_isN ?_ | with_reducible refine s_notN ?_ | with_reducible refine s_un ?_ | with_reducible refine s_U ?_ | with_reducible refine s_fld ?_ | with_reducible refine s_put ?_ | with_reducible refine s_meth ?_ | with_reducible refine s_gc ?_ | with_reducible refine s_g0 ?_
  | with_reducible refine s_dz ?_ | with_reducible refine s_make ?_ | with_reducible refine s_m1 ?_ | with_reducible refine s_chain ?_ | with_reducible refine s_iZ ?_ | with_reducible refine s_dput ?_ | with_reducible refine s_dget ?_ | with_reducible refine s_din ?_ | with_reducible refine s_lc ?_ | with_reducible refine s_for ?_ | with_reducible refine s_iL ?_ | with_reducible refine s_iE ?_ | with_reducible refine s_iR1 ?_ | with_reducible refine s_iR2 ?_ | with_reducible refine s_yes ?_
  | with_reducible refine s_frz ?_ | with_reducible refine s_bm ?_ | with_reducible refine s_bm0 ?_ | with_reducible refine s_iff ?_ | with_reducible refine s_ift ?_ | with_reducible refine s_ifnt ?_ | with_reducible refine s_ifnf ?_
  | with_reducible refine s_iT ?_ | with_reducible refine s_iS ?_ | with_reducible refine s_sl ?_ | with_reducible refine s_npart ?_ | with_reducible refine s_part ?_ | with_reducible refine s_PrtR ?_ | with_reducible refine s_pp0 ?_ | with_reducible refine s_pp ?_ | with_reducible refine s_sub ?_ | with_reducible refine s_callS ?_))
section
variable {P : Program} {w : World} {K : PySem.W.Frag} {mg : Str → Option Value} {base : Heap} {TT : List (Addr × Str)}
/-! ### refusals -/
structure Kx (K : PySem.W.Frag) : Prop where
  e_NoNumber : ExcC K (He.ga K "NoNumber")
  m_NoNumber : PySem.W.exmOne K (.ref (He.ga K "NoNumber")) (.ref (He.ga K "SnapError")) = some true
  q_NoNumber_NoDealing : PySem.W.kitOne K (.ref (He.ga K "NoNumber")) (.ref (He.ga K "NoDealing")) = some false
  q_NoNumber_NoKeys : PySem.W.kitOne K (.ref (He.ga K "NoNumber")) (.ref (He.ga K "NoKeys")) = some false
  q_NoNumber_TooMany : PySem.W.kitOne K (.ref (He.ga K "NoNumber")) (.ref (He.ga K "TooMany")) = some false
  q_NoNumber_NoNumber : PySem.W.kitOne K (.ref (He.ga K "NoNumber")) (.ref (He.ga K "NoNumber")) = some true
  q_NoNumber_Over : PySem.W.kitOne K (.ref (He.ga K "NoNumber")) (.ref (He.ga K "Over")) = some false
  q_NoNumber_NoStep : PySem.W.kitOne K (.ref (He.ga K "NoNumber")) (.ref (He.ga K "NoStep")) = some false
  q_NoNumber_NoEnd : PySem.W.kitOne K (.ref (He.ga K "NoNumber")) (.ref (He.ga K "NoEnd")) = some false
  q_NoNumber_NoKey : PySem.W.kitOne K (.ref (He.ga K "NoNumber")) (.ref (He.ga K "NoKey")) = some false
  q_NoNumber_NoDeed : PySem.W.kitOne K (.ref (He.ga K "NoNumber")) (.ref (He.ga K "NoDeed")) = some false
  q_NoNumber_BookError : PySem.W.kitOne K (.ref (He.ga K "NoNumber")) (.ref (He.ga K "BookError")) = some false
  q_NoNumber_StepError : PySem.W.kitOne K (.ref (He.ga K "NoNumber")) (.ref (He.ga K "StepError")) = some true
  e_Over : ExcC K (He.ga K "Over")
  m_Over : PySem.W.exmOne K (.ref (He.ga K "Over")) (.ref (He.ga K "SnapError")) = some true
  q_Over_NoDealing : PySem.W.kitOne K (.ref (He.ga K "Over")) (.ref (He.ga K "NoDealing")) = some false
  q_Over_NoKeys : PySem.W.kitOne K (.ref (He.ga K "Over")) (.ref (He.ga K "NoKeys")) = some false
  q_Over_TooMany : PySem.W.kitOne K (.ref (He.ga K "Over")) (.ref (He.ga K "TooMany")) = some false
  q_Over_NoNumber : PySem.W.kitOne K (.ref (He.ga K "Over")) (.ref (He.ga K "NoNumber")) = some false
  q_Over_Over : PySem.W.kitOne K (.ref (He.ga K "Over")) (.ref (He.ga K "Over")) = some true
  q_Over_NoStep : PySem.W.kitOne K (.ref (He.ga K "Over")) (.ref (He.ga K "NoStep")) = some false
  q_Over_NoEnd : PySem.W.kitOne K (.ref (He.ga K "Over")) (.ref (He.ga K "NoEnd")) = some false
  q_Over_NoKey : PySem.W.kitOne K (.ref (He.ga K "Over")) (.ref (He.ga K "NoKey")) = some false
  q_Over_NoDeed : PySem.W.kitOne K (.ref (He.ga K "Over")) (.ref (He.ga K "NoDeed")) = some false
  q_Over_BookError : PySem.W.kitOne K (.ref (He.ga K "Over")) (.ref (He.ga K "BookError")) = some false
  q_Over_StepError : PySem.W.kitOne K (.ref (He.ga K "Over")) (.ref (He.ga K "StepError")) = some true
  e_NoStep : ExcC K (He.ga K "NoStep")
  m_NoStep : PySem.W.exmOne K (.ref (He.ga K "NoStep")) (.ref (He.ga K "SnapError")) = some true
  q_NoStep_NoDealing : PySem.W.kitOne K (.ref (He.ga K "NoStep")) (.ref (He.ga K "NoDealing")) = some false
  q_NoStep_NoKeys : PySem.W.kitOne K (.ref (He.ga K "NoStep")) (.ref (He.ga K "NoKeys")) = some false
  q_NoStep_TooMany : PySem.W.kitOne K (.ref (He.ga K "NoStep")) (.ref (He.ga K "TooMany")) = some false
  q_NoStep_NoNumber : PySem.W.kitOne K (.ref (He.ga K "NoStep")) (.ref (He.ga K "NoNumber")) = some false
  q_NoStep_Over : PySem.W.kitOne K (.ref (He.ga K "NoStep")) (.ref (He.ga K "Over")) = some false
  q_NoStep_NoStep : PySem.W.kitOne K (.ref (He.ga K "NoStep")) (.ref (He.ga K "NoStep")) = some true
  q_NoStep_NoEnd : PySem.W.kitOne K (.ref (He.ga K "NoStep")) (.ref (He.ga K "NoEnd")) = some false
  q_NoStep_NoKey : PySem.W.kitOne K (.ref (He.ga K "NoStep")) (.ref (He.ga K "NoKey")) = some false
  q_NoStep_NoDeed : PySem.W.kitOne K (.ref (He.ga K "NoStep")) (.ref (He.ga K "NoDeed")) = some false
  q_NoStep_BookError : PySem.W.kitOne K (.ref (He.ga K "NoStep")) (.ref (He.ga K "BookError")) = some false
  q_NoStep_StepError : PySem.W.kitOne K (.ref (He.ga K "NoStep")) (.ref (He.ga K "StepError")) = some true
  e_NoEnd : ExcC K (He.ga K "NoEnd")
  m_NoEnd : PySem.W.exmOne K (.ref (He.ga K "NoEnd")) (.ref (He.ga K "SnapError")) = some true
  q_NoEnd_NoDealing : PySem.W.kitOne K (.ref (He.ga K "NoEnd")) (.ref (He.ga K "NoDealing")) = some false
  q_NoEnd_NoKeys : PySem.W.kitOne K (.ref (He.ga K "NoEnd")) (.ref (He.ga K "NoKeys")) = some false
  q_NoEnd_TooMany : PySem.W.kitOne K (.ref (He.ga K "NoEnd")) (.ref (He.ga K "TooMany")) = some false
  q_NoEnd_NoNumber : PySem.W.kitOne K (.ref (He.ga K "NoEnd")) (.ref (He.ga K "NoNumber")) = some false
  q_NoEnd_Over : PySem.W.kitOne K (.ref (He.ga K "NoEnd")) (.ref (He.ga K "Over")) = some false
  q_NoEnd_NoStep : PySem.W.kitOne K (.ref (He.ga K "NoEnd")) (.ref (He.ga K "NoStep")) = some false
  q_NoEnd_NoEnd : PySem.W.kitOne K (.ref (He.ga K "NoEnd")) (.ref (He.ga K "NoEnd")) = some true
  q_NoEnd_NoKey : PySem.W.kitOne K (.ref (He.ga K "NoEnd")) (.ref (He.ga K "NoKey")) = some false
  q_NoEnd_NoDeed : PySem.W.kitOne K (.ref (He.ga K "NoEnd")) (.ref (He.ga K "NoDeed")) = some false
  q_NoEnd_BookError : PySem.W.kitOne K (.ref (He.ga K "NoEnd")) (.ref (He.ga K "BookError")) = some false
  q_NoEnd_StepError : PySem.W.kitOne K (.ref (He.ga K "NoEnd")) (.ref (He.ga K "StepError")) = some true
def RefOk (b : Bk) (ds : List D) (n : Nat) (way due : Str) : Prop := (ds.length ≤ n ∧ due = "NoNumber") ∨ (∃ d, ds[n]? = some d ∧ d.word ≠ .opn ∧ due = "Over") ∨ (∃ d, ds[n]? = some d ∧ d.word = .opn ∧ ((way = "step" ∧ d.told.length = (dlOf b d.di).steps.length ∧ due = "NoStep") ∨ (way = "end" ∧ d.told.length < (dlOf b d.di).steps.length ∧ due = "NoEnd")))
theorem RefOk.four {b : Bk} {ds : List D} {n : Nat} {way due : Str} (h : RefOk b ds n way due) : due = "NoNumber" ∨ due = "Over" ∨ due = "NoStep" ∨ due = "NoEnd" := by
  rcases h with ⟨_, h⟩ | ⟨_, _, _, h⟩ | ⟨_, _, _, ⟨_, _, h⟩ | ⟨_, _, h⟩⟩
  · exact .inl h
  · exact .inr (.inl h)
  · exact .inr (.inr (.inl h))
  · exact .inr (.inr (.inr h))
theorem RefOk.nn {b : Bk} {ds : List D} {n : Nat} {way due : Str} (h : RefOk b ds n way due) (hn : ds.length ≤ n) : due = "NoNumber" := by
  rcases h with ⟨_, h⟩ | ⟨d, e, _⟩ | ⟨d, e, _⟩
  · exact h
  · have := (List.getElem?_eq_some_iff.mp e).1
    omega
  · have := (List.getElem?_eq_some_iff.mp e).1
    omega
theorem RefOk.ov {b : Bk} {ds : List D} {n : Nat} {way due : Str} {d : D} (h : RefOk b ds n way due) (e : ds[n]? = some d) (hw : d.word ≠ .opn) : due = "Over" := by
  rcases h with ⟨h, _⟩ | ⟨d', e', _, h⟩ | ⟨d', e', h, _⟩
  · have := (List.getElem?_eq_some_iff.mp e).1
    omega
  · exact h
  · rw [e] at e'
    cases e'
    exact absurd h hw
theorem RefOk.op {b : Bk} {ds : List D} {n : Nat} {way due : Str} {d : D} (h : RefOk b ds n way due) (e : ds[n]? = some d) (hw : d.word = .opn) : (way = "step" ∧ d.told.length = (dlOf b d.di).steps.length ∧ due = "NoStep") ∨ (way = "end" ∧ d.told.length < (dlOf b d.di).steps.length ∧ due = "NoEnd") := by
  rcases h with ⟨h, _⟩ | ⟨d', e', h, _⟩ | ⟨d', e', _, h⟩
  · have := (List.getElem?_eq_some_iff.mp e).1
    omega
  · rw [e] at e'
    cases e'
    exact absurd hw h
  · rw [e] at e'
    cases e'
    exact h
theorem s_isK {K : PySem.W.Frag} {H : Hp} {Q : VK} {D a x : Addr} {b : Bool} (h : H a = some (KO (.ref D) a)) (e : PySem.W.kitOne K (.ref D) (.ref x) = some b) (q : Q (.bl b) H) : rIsK K D [.ref a, .ref x] H Q := ⟨a, _, _, b, rfl, h, fun u r => r, e, q⟩
theorem sc__law_kind : FnScope ["_law_error", "_law_some_here", "_law_number", "_law_of_books", "_law_names_here"] ["_law_error"] (defScope s__law_kind) := ⟨rfl, rfl, rfl, by decide +kernel, rfl, by decide +kernel, by decide +kernel⟩
def sp__law_kind (K : PySem.W.Frag) (TT : List (Addr × Str)) : Sp := fun vs H Q _ => ∃ (a : Addr) (due : Str), vs = [.ref a] ∧ H a = some (KO (.ref (He.ga K due)) a) ∧ (due = "NoNumber" ∨ due = "Over" ∨ due = "NoStep" ∨ due = "NoEnd") ∧ ∀ H', Fr TT [] H H' [] → Q (.str due) H'
theorem k__law_kind {fd : FuncData} (T : Tx K mg) (XX : Kx K) (F : FunD K "_law_kind" "_law_kind" (defArgs s__law_kind) (defBody s__law_kind) (defScope s__law_kind) [] [] (He.ga K "_law_kind") fd) : Cn P w K mg base 1 (He.ga K "_law_kind") ["_law_error"] (sp__law_kind K TT) := by
  refine cn_of F sc__law_kind (fun vs H Q E h => ?_) (fun _ _ _ _ _ _ us hl => match us, hl with | [_], _ => rfl) fun cdv A outer s H vs Q E hr h => ?_
  · obtain ⟨a, due, rfl, _⟩ := h
    rfl
  · obtain ⟨a, due, rfl, ha, hdue, q⟩ := h
    rcases hdue with rfl | rfl | rfl | rfl
    · refine ⟨_, PSs.nox (pss_cons (ps_set (i := 1) sc__law_kind.nd rfl (by first | exact Or.inl rfl | exact Or.inr rfl) (pe_lst (pa_cons (pe_callB (call_isK XX.e_NoNumber) rfl T.f_isinstance (by decide +kernel) (pa_cons (pv 0) (pa_cons (pe_glob (v := .ref _) rfl T.g_NoDealing rfl) pa_nil))) (pa_cons (pe_callB (call_isK XX.e_NoNumber) rfl T.f_isinstance (by decide +kernel) (pa_cons (pv 0) (pa_cons (pe_glob (v := .ref _) rfl T.g_NoKeys rfl) pa_nil))) (pa_cons (pe_callB (call_isK XX.e_NoNumber) rfl T.f_isinstance (by decide +kernel) (pa_cons (pv 0) (pa_cons (pe_glob (v := .ref _) rfl T.g_TooMany rfl) pa_nil))) pa_nil))))) (pss_cons (ps_set (i := 1) sc__law_kind.nd rfl (by first | exact Or.inl rfl | exact Or.inr rfl) (pe_op op_catF (pv 1) (pe_lst (pa_cons (pe_callB (call_isK XX.e_NoNumber) rfl T.f_isinstance (by decide +kernel) (pa_cons (pv 0) (pa_cons (pe_glob (v := .ref _) rfl T.g_NoNumber rfl) pa_nil))) (pa_cons (pe_callB (call_isK XX.e_NoNumber) rfl T.f_isinstance (by decide +kernel) (pa_cons (pv 0) (pa_cons (pe_glob (v := .ref _) rfl T.g_Over rfl) pa_nil))) (pa_cons (pe_callB (call_isK XX.e_NoNumber) rfl T.f_isinstance (by decide +kernel) (pa_cons (pv 0) (pa_cons (pe_glob (v := .ref _) rfl T.g_NoStep rfl) pa_nil))) pa_nil)))))) (pss_cons (ps_set (i := 1) sc__law_kind.nd rfl (by first | exact Or.inl rfl | exact Or.inr rfl) (pe_op op_catF (pv 1) (pe_lst (pa_cons (pe_callB (call_isK XX.e_NoNumber) rfl T.f_isinstance (by decide +kernel) (pa_cons (pv 0) (pa_cons (pe_glob (v := .ref _) rfl T.g_NoEnd rfl) pa_nil))) (pa_cons (pe_callB (call_isK XX.e_NoNumber) rfl T.f_isinstance (by decide +kernel) (pa_cons (pv 0) (pa_cons (pe_glob (v := .ref _) rfl T.g_NoKey rfl) pa_nil))) (pa_cons (pe_callB (call_isK XX.e_NoNumber) rfl T.f_isinstance (by decide +kernel) (pa_cons (pv 0) (pa_cons (pe_glob (v := .ref _) rfl T.g_NoDeed rfl) pa_nil))) pa_nil)))))) (pss_cons (ps_if (pt_cmpR op_ne (pe_bm PySem.F.plainAttrs_list PySem.F.slot_list_count PySem.F.type_list_count mt_countF (pv 1) (pa_cons pe_bl pa_nil)) pe_int (nomark _)) (pss_one (ps_ret pe_str)) pss_nil) (pss_cons (ps_set (i := 2) sc__law_kind.nd rfl (by first | exact Or.inl rfl | exact Or.inr rfl) (pe_bm PySem.F.plainAttrs_list PySem.F.slot_list_index PySem.F.type_list_index mt_index (pv 1) (pa_cons pe_bl pa_nil))) (pss_cons (ps_set (i := 3) sc__law_kind.nd rfl (by first | exact Or.inl rfl | exact Or.inr rfl) (pe_cmpR op_in_seq (pv 2) (pe_tup (pa_cons pe_int (pa_cons pe_int pa_nil))) (by first | rfl | exact nomark _))) (pss_cons (ps_if (PW.pt (pw_or (pt_cmpR op_ne (pe_callB (call_isK XX.e_NoNumber) rfl T.f_isinstance (by decide +kernel) (pa_cons (pv 0) (pa_cons (pe_glob (v := .ref _) rfl T.g_BookError rfl) pa_nil))) (pv 3) (nomark _)) (pw_or1 (pt_cmpR op_eq (pe_callB (call_isK XX.e_NoNumber) rfl T.f_isinstance (by decide +kernel) (pa_cons (pv 0) (pa_cons (pe_glob (v := .ref _) rfl T.g_StepError rfl) pa_nil))) (pv 3) (nomark _))))) (pss_one (ps_ret pe_str)) pss_nil) (pss_cons (ps_set (i := 4) sc__law_kind.nd rfl (by first | exact Or.inl rfl | exact Or.inr rfl) (pe_lst (pa_cons pe_str (pa_cons pe_str (pa_cons pe_str (pa_cons pe_str (pa_cons pe_str (pa_cons pe_str (pa_cons pe_str (pa_cons pe_str (pa_cons pe_str pa_nil))))))))))) (pss_one (ps_ret (pe_ix ix_list (pv 4) (pv 2) fun _ _ => rfl))))))))))), ?_⟩
      try dsimp only [cxOf]
      walk_at "st"
      refine s_isK ha XX.q_NoNumber_NoDealing ?_
      walk_at "st"
      refine s_isK ha XX.q_NoNumber_NoKeys ?_
      walk_at "st"
      refine s_isK ha XX.q_NoNumber_TooMany ?_
      walk_at "st"
      refine s_newL (by simp) fun l1 H1 n1 => ?_
      walk_at "st"
      refine s_isK (n1.old ha) XX.q_NoNumber_NoNumber ?_
      walk_at "st"
      refine s_isK (n1.old ha) XX.q_NoNumber_Over ?_
      walk_at "st"
      refine s_isK (n1.old ha) XX.q_NoNumber_NoStep ?_
      walk_at "st"
      refine s_newL (by simp) fun l2 H2 n2 => ?_
      walk_at "st"
      refine s_catF (.inl (n2.old n1.at)) (.inl n2.at) (by decide) fun l3 H3 n3 => ?_
      walk_at "st"
      refine s_isK (n3.old (n2.old (n1.old ha))) XX.q_NoNumber_NoEnd ?_
      walk_at "st"
      refine s_isK (n3.old (n2.old (n1.old ha))) XX.q_NoNumber_NoKey ?_
      walk_at "st"
      refine s_isK (n3.old (n2.old (n1.old ha))) XX.q_NoNumber_NoDeed ?_
      walk_at "st"
      refine s_newL (by simp) fun l4 H4 n4 => ?_
      walk_at "st"
      refine s_catF (.inl (n4.old n3.at)) (.inl n4.at) (by decide) fun l5 H5 n5 => ?_
      walk_at "st"
      refine ⟨s_tyL n5.at, ?_⟩
      walk_at "st"
      refine s_count (SqL.of n5.at) rfl rfl ?_
      walk_at "st"
      rw [decide_eq_true (show V.int ((List.countP (fun z => eqV z (V.bl true)) ([V.bl false, V.bl false, V.bl false] ++ [V.bl true, V.bl false, V.bl false] ++ [V.bl false, V.bl false, V.bl false]) : Nat) : Int) = V.int 1 from rfl)]
      walk_at "st"
      refine ⟨s_tyL n5.at, ?_⟩
      walk_at "st"
      refine s_index (j := 3) (z := .bl true) (SqL.of n5.at) rfl rfl rfl rfl (fun m z' hm hz => ?_) ?_
      · have : m = 0 ∨ m = 1 ∨ m = 2 := by omega
        rcases this with rfl | rfl | rfl <;> (cases hz; rfl)
      walk_at "st"
      refine s_newT (by simp) fun l6 H6 n6 => ?_
      refine s_inT (b := false) (SqT.of n6.at) rfl rfl ?_
      walk_at "st"
      refine s_isK (n6.old (n5.old (n4.old (n3.old (n2.old (n1.old ha)))))) XX.q_NoNumber_BookError ?_
      walk_at "st"
      rw [decide_eq_true (show V.bl false = V.bl false from rfl)]
      walk_at "st"
      refine s_isK (n6.old (n5.old (n4.old (n3.old (n2.old (n1.old ha)))))) XX.q_NoNumber_StepError ?_
      walk_at "st"
      rw [decide_eq_false (show ¬ V.bl true = V.bl false from fun z => nomatch z)]
      walk_at "st"
      refine s_newL (by simp) fun l7 H7 n7 => ?_
      walk_at "st"
      refine s_ixL (v := .str "NoNumber") (SqL.of n7.at) (atI_nat (j := 3) rfl) ?_
      exact q H7 ((((((n1.fr.trans n2.fr).trans n3.fr).trans n4.fr).trans n5.fr).trans n6.fr).trans n7.fr)
    · refine ⟨_, PSs.nox (pss_cons (ps_set (i := 1) sc__law_kind.nd rfl (by first | exact Or.inl rfl | exact Or.inr rfl) (pe_lst (pa_cons (pe_callB (call_isK XX.e_Over) rfl T.f_isinstance (by decide +kernel) (pa_cons (pv 0) (pa_cons (pe_glob (v := .ref _) rfl T.g_NoDealing rfl) pa_nil))) (pa_cons (pe_callB (call_isK XX.e_Over) rfl T.f_isinstance (by decide +kernel) (pa_cons (pv 0) (pa_cons (pe_glob (v := .ref _) rfl T.g_NoKeys rfl) pa_nil))) (pa_cons (pe_callB (call_isK XX.e_Over) rfl T.f_isinstance (by decide +kernel) (pa_cons (pv 0) (pa_cons (pe_glob (v := .ref _) rfl T.g_TooMany rfl) pa_nil))) pa_nil))))) (pss_cons (ps_set (i := 1) sc__law_kind.nd rfl (by first | exact Or.inl rfl | exact Or.inr rfl) (pe_op op_catF (pv 1) (pe_lst (pa_cons (pe_callB (call_isK XX.e_Over) rfl T.f_isinstance (by decide +kernel) (pa_cons (pv 0) (pa_cons (pe_glob (v := .ref _) rfl T.g_NoNumber rfl) pa_nil))) (pa_cons (pe_callB (call_isK XX.e_Over) rfl T.f_isinstance (by decide +kernel) (pa_cons (pv 0) (pa_cons (pe_glob (v := .ref _) rfl T.g_Over rfl) pa_nil))) (pa_cons (pe_callB (call_isK XX.e_Over) rfl T.f_isinstance (by decide +kernel) (pa_cons (pv 0) (pa_cons (pe_glob (v := .ref _) rfl T.g_NoStep rfl) pa_nil))) pa_nil)))))) (pss_cons (ps_set (i := 1) sc__law_kind.nd rfl (by first | exact Or.inl rfl | exact Or.inr rfl) (pe_op op_catF (pv 1) (pe_lst (pa_cons (pe_callB (call_isK XX.e_Over) rfl T.f_isinstance (by decide +kernel) (pa_cons (pv 0) (pa_cons (pe_glob (v := .ref _) rfl T.g_NoEnd rfl) pa_nil))) (pa_cons (pe_callB (call_isK XX.e_Over) rfl T.f_isinstance (by decide +kernel) (pa_cons (pv 0) (pa_cons (pe_glob (v := .ref _) rfl T.g_NoKey rfl) pa_nil))) (pa_cons (pe_callB (call_isK XX.e_Over) rfl T.f_isinstance (by decide +kernel) (pa_cons (pv 0) (pa_cons (pe_glob (v := .ref _) rfl T.g_NoDeed rfl) pa_nil))) pa_nil)))))) (pss_cons (ps_if (pt_cmpR op_ne (pe_bm PySem.F.plainAttrs_list PySem.F.slot_list_count PySem.F.type_list_count mt_countF (pv 1) (pa_cons pe_bl pa_nil)) pe_int (nomark _)) (pss_one (ps_ret pe_str)) pss_nil) (pss_cons (ps_set (i := 2) sc__law_kind.nd rfl (by first | exact Or.inl rfl | exact Or.inr rfl) (pe_bm PySem.F.plainAttrs_list PySem.F.slot_list_index PySem.F.type_list_index mt_index (pv 1) (pa_cons pe_bl pa_nil))) (pss_cons (ps_set (i := 3) sc__law_kind.nd rfl (by first | exact Or.inl rfl | exact Or.inr rfl) (pe_cmpR op_in_seq (pv 2) (pe_tup (pa_cons pe_int (pa_cons pe_int pa_nil))) (by first | rfl | exact nomark _))) (pss_cons (ps_if (PW.pt (pw_or (pt_cmpR op_ne (pe_callB (call_isK XX.e_Over) rfl T.f_isinstance (by decide +kernel) (pa_cons (pv 0) (pa_cons (pe_glob (v := .ref _) rfl T.g_BookError rfl) pa_nil))) (pv 3) (nomark _)) (pw_or1 (pt_cmpR op_eq (pe_callB (call_isK XX.e_Over) rfl T.f_isinstance (by decide +kernel) (pa_cons (pv 0) (pa_cons (pe_glob (v := .ref _) rfl T.g_StepError rfl) pa_nil))) (pv 3) (nomark _))))) (pss_one (ps_ret pe_str)) pss_nil) (pss_cons (ps_set (i := 4) sc__law_kind.nd rfl (by first | exact Or.inl rfl | exact Or.inr rfl) (pe_lst (pa_cons pe_str (pa_cons pe_str (pa_cons pe_str (pa_cons pe_str (pa_cons pe_str (pa_cons pe_str (pa_cons pe_str (pa_cons pe_str (pa_cons pe_str pa_nil))))))))))) (pss_one (ps_ret (pe_ix ix_list (pv 4) (pv 2) fun _ _ => rfl))))))))))), ?_⟩
      try dsimp only [cxOf]
      walk_at "st"
      refine s_isK ha XX.q_Over_NoDealing ?_
      walk_at "st"
      refine s_isK ha XX.q_Over_NoKeys ?_
      walk_at "st"
      refine s_isK ha XX.q_Over_TooMany ?_
      walk_at "st"
      refine s_newL (by simp) fun l1 H1 n1 => ?_
      walk_at "st"
      refine s_isK (n1.old ha) XX.q_Over_NoNumber ?_
      walk_at "st"
      refine s_isK (n1.old ha) XX.q_Over_Over ?_
      walk_at "st"
      refine s_isK (n1.old ha) XX.q_Over_NoStep ?_
      walk_at "st"
      refine s_newL (by simp) fun l2 H2 n2 => ?_
      walk_at "st"
      refine s_catF (.inl (n2.old n1.at)) (.inl n2.at) (by decide) fun l3 H3 n3 => ?_
      walk_at "st"
      refine s_isK (n3.old (n2.old (n1.old ha))) XX.q_Over_NoEnd ?_
      walk_at "st"
      refine s_isK (n3.old (n2.old (n1.old ha))) XX.q_Over_NoKey ?_
      walk_at "st"
      refine s_isK (n3.old (n2.old (n1.old ha))) XX.q_Over_NoDeed ?_
      walk_at "st"
      refine s_newL (by simp) fun l4 H4 n4 => ?_
      walk_at "st"
      refine s_catF (.inl (n4.old n3.at)) (.inl n4.at) (by decide) fun l5 H5 n5 => ?_
      walk_at "st"
      refine ⟨s_tyL n5.at, ?_⟩
      walk_at "st"
      refine s_count (SqL.of n5.at) rfl rfl ?_
      walk_at "st"
      rw [decide_eq_true (show V.int ((List.countP (fun z => eqV z (V.bl true)) ([V.bl false, V.bl false, V.bl false] ++ [V.bl false, V.bl true, V.bl false] ++ [V.bl false, V.bl false, V.bl false]) : Nat) : Int) = V.int 1 from rfl)]
      walk_at "st"
      refine ⟨s_tyL n5.at, ?_⟩
      walk_at "st"
      refine s_index (j := 4) (z := .bl true) (SqL.of n5.at) rfl rfl rfl rfl (fun m z' hm hz => ?_) ?_
      · have : m = 0 ∨ m = 1 ∨ m = 2 ∨ m = 3 := by omega
        rcases this with rfl | rfl | rfl | rfl <;> (cases hz; rfl)
      walk_at "st"
      refine s_newT (by simp) fun l6 H6 n6 => ?_
      refine s_inT (b := false) (SqT.of n6.at) rfl rfl ?_
      walk_at "st"
      refine s_isK (n6.old (n5.old (n4.old (n3.old (n2.old (n1.old ha)))))) XX.q_Over_BookError ?_
      walk_at "st"
      rw [decide_eq_true (show V.bl false = V.bl false from rfl)]
      walk_at "st"
      refine s_isK (n6.old (n5.old (n4.old (n3.old (n2.old (n1.old ha)))))) XX.q_Over_StepError ?_
      walk_at "st"
      rw [decide_eq_false (show ¬ V.bl true = V.bl false from fun z => nomatch z)]
      walk_at "st"
      refine s_newL (by simp) fun l7 H7 n7 => ?_
      walk_at "st"
      refine s_ixL (v := .str "Over") (SqL.of n7.at) (atI_nat (j := 4) rfl) ?_
      exact q H7 ((((((n1.fr.trans n2.fr).trans n3.fr).trans n4.fr).trans n5.fr).trans n6.fr).trans n7.fr)
    · refine ⟨_, PSs.nox (pss_cons (ps_set (i := 1) sc__law_kind.nd rfl (by first | exact Or.inl rfl | exact Or.inr rfl) (pe_lst (pa_cons (pe_callB (call_isK XX.e_NoStep) rfl T.f_isinstance (by decide +kernel) (pa_cons (pv 0) (pa_cons (pe_glob (v := .ref _) rfl T.g_NoDealing rfl) pa_nil))) (pa_cons (pe_callB (call_isK XX.e_NoStep) rfl T.f_isinstance (by decide +kernel) (pa_cons (pv 0) (pa_cons (pe_glob (v := .ref _) rfl T.g_NoKeys rfl) pa_nil))) (pa_cons (pe_callB (call_isK XX.e_NoStep) rfl T.f_isinstance (by decide +kernel) (pa_cons (pv 0) (pa_cons (pe_glob (v := .ref _) rfl T.g_TooMany rfl) pa_nil))) pa_nil))))) (pss_cons (ps_set (i := 1) sc__law_kind.nd rfl (by first | exact Or.inl rfl | exact Or.inr rfl) (pe_op op_catF (pv 1) (pe_lst (pa_cons (pe_callB (call_isK XX.e_NoStep) rfl T.f_isinstance (by decide +kernel) (pa_cons (pv 0) (pa_cons (pe_glob (v := .ref _) rfl T.g_NoNumber rfl) pa_nil))) (pa_cons (pe_callB (call_isK XX.e_NoStep) rfl T.f_isinstance (by decide +kernel) (pa_cons (pv 0) (pa_cons (pe_glob (v := .ref _) rfl T.g_Over rfl) pa_nil))) (pa_cons (pe_callB (call_isK XX.e_NoStep) rfl T.f_isinstance (by decide +kernel) (pa_cons (pv 0) (pa_cons (pe_glob (v := .ref _) rfl T.g_NoStep rfl) pa_nil))) pa_nil)))))) (pss_cons (ps_set (i := 1) sc__law_kind.nd rfl (by first | exact Or.inl rfl | exact Or.inr rfl) (pe_op op_catF (pv 1) (pe_lst (pa_cons (pe_callB (call_isK XX.e_NoStep) rfl T.f_isinstance (by decide +kernel) (pa_cons (pv 0) (pa_cons (pe_glob (v := .ref _) rfl T.g_NoEnd rfl) pa_nil))) (pa_cons (pe_callB (call_isK XX.e_NoStep) rfl T.f_isinstance (by decide +kernel) (pa_cons (pv 0) (pa_cons (pe_glob (v := .ref _) rfl T.g_NoKey rfl) pa_nil))) (pa_cons (pe_callB (call_isK XX.e_NoStep) rfl T.f_isinstance (by decide +kernel) (pa_cons (pv 0) (pa_cons (pe_glob (v := .ref _) rfl T.g_NoDeed rfl) pa_nil))) pa_nil)))))) (pss_cons (ps_if (pt_cmpR op_ne (pe_bm PySem.F.plainAttrs_list PySem.F.slot_list_count PySem.F.type_list_count mt_countF (pv 1) (pa_cons pe_bl pa_nil)) pe_int (nomark _)) (pss_one (ps_ret pe_str)) pss_nil) (pss_cons (ps_set (i := 2) sc__law_kind.nd rfl (by first | exact Or.inl rfl | exact Or.inr rfl) (pe_bm PySem.F.plainAttrs_list PySem.F.slot_list_index PySem.F.type_list_index mt_index (pv 1) (pa_cons pe_bl pa_nil))) (pss_cons (ps_set (i := 3) sc__law_kind.nd rfl (by first | exact Or.inl rfl | exact Or.inr rfl) (pe_cmpR op_in_seq (pv 2) (pe_tup (pa_cons pe_int (pa_cons pe_int pa_nil))) (by first | rfl | exact nomark _))) (pss_cons (ps_if (PW.pt (pw_or (pt_cmpR op_ne (pe_callB (call_isK XX.e_NoStep) rfl T.f_isinstance (by decide +kernel) (pa_cons (pv 0) (pa_cons (pe_glob (v := .ref _) rfl T.g_BookError rfl) pa_nil))) (pv 3) (nomark _)) (pw_or1 (pt_cmpR op_eq (pe_callB (call_isK XX.e_NoStep) rfl T.f_isinstance (by decide +kernel) (pa_cons (pv 0) (pa_cons (pe_glob (v := .ref _) rfl T.g_StepError rfl) pa_nil))) (pv 3) (nomark _))))) (pss_one (ps_ret pe_str)) pss_nil) (pss_cons (ps_set (i := 4) sc__law_kind.nd rfl (by first | exact Or.inl rfl | exact Or.inr rfl) (pe_lst (pa_cons pe_str (pa_cons pe_str (pa_cons pe_str (pa_cons pe_str (pa_cons pe_str (pa_cons pe_str (pa_cons pe_str (pa_cons pe_str (pa_cons pe_str pa_nil))))))))))) (pss_one (ps_ret (pe_ix ix_list (pv 4) (pv 2) fun _ _ => rfl))))))))))), ?_⟩
      try dsimp only [cxOf]
      walk_at "st"
      refine s_isK ha XX.q_NoStep_NoDealing ?_
      walk_at "st"
      refine s_isK ha XX.q_NoStep_NoKeys ?_
      walk_at "st"
      refine s_isK ha XX.q_NoStep_TooMany ?_
      walk_at "st"
      refine s_newL (by simp) fun l1 H1 n1 => ?_
      walk_at "st"
      refine s_isK (n1.old ha) XX.q_NoStep_NoNumber ?_
      walk_at "st"
      refine s_isK (n1.old ha) XX.q_NoStep_Over ?_
      walk_at "st"
      refine s_isK (n1.old ha) XX.q_NoStep_NoStep ?_
      walk_at "st"
      refine s_newL (by simp) fun l2 H2 n2 => ?_
      walk_at "st"
      refine s_catF (.inl (n2.old n1.at)) (.inl n2.at) (by decide) fun l3 H3 n3 => ?_
      walk_at "st"
      refine s_isK (n3.old (n2.old (n1.old ha))) XX.q_NoStep_NoEnd ?_
      walk_at "st"
      refine s_isK (n3.old (n2.old (n1.old ha))) XX.q_NoStep_NoKey ?_
      walk_at "st"
      refine s_isK (n3.old (n2.old (n1.old ha))) XX.q_NoStep_NoDeed ?_
      walk_at "st"
      refine s_newL (by simp) fun l4 H4 n4 => ?_
      walk_at "st"
      refine s_catF (.inl (n4.old n3.at)) (.inl n4.at) (by decide) fun l5 H5 n5 => ?_
      walk_at "st"
      refine ⟨s_tyL n5.at, ?_⟩
      walk_at "st"
      refine s_count (SqL.of n5.at) rfl rfl ?_
      walk_at "st"
      rw [decide_eq_true (show V.int ((List.countP (fun z => eqV z (V.bl true)) ([V.bl false, V.bl false, V.bl false] ++ [V.bl false, V.bl false, V.bl true] ++ [V.bl false, V.bl false, V.bl false]) : Nat) : Int) = V.int 1 from rfl)]
      walk_at "st"
      refine ⟨s_tyL n5.at, ?_⟩
      walk_at "st"
      refine s_index (j := 5) (z := .bl true) (SqL.of n5.at) rfl rfl rfl rfl (fun m z' hm hz => ?_) ?_
      · have : m = 0 ∨ m = 1 ∨ m = 2 ∨ m = 3 ∨ m = 4 := by omega
        rcases this with rfl | rfl | rfl | rfl | rfl <;> (cases hz; rfl)
      walk_at "st"
      refine s_newT (by simp) fun l6 H6 n6 => ?_
      refine s_inT (b := false) (SqT.of n6.at) rfl rfl ?_
      walk_at "st"
      refine s_isK (n6.old (n5.old (n4.old (n3.old (n2.old (n1.old ha)))))) XX.q_NoStep_BookError ?_
      walk_at "st"
      rw [decide_eq_true (show V.bl false = V.bl false from rfl)]
      walk_at "st"
      refine s_isK (n6.old (n5.old (n4.old (n3.old (n2.old (n1.old ha)))))) XX.q_NoStep_StepError ?_
      walk_at "st"
      rw [decide_eq_false (show ¬ V.bl true = V.bl false from fun z => nomatch z)]
      walk_at "st"
      refine s_newL (by simp) fun l7 H7 n7 => ?_
      walk_at "st"
      refine s_ixL (v := .str "NoStep") (SqL.of n7.at) (atI_nat (j := 5) rfl) ?_
      exact q H7 ((((((n1.fr.trans n2.fr).trans n3.fr).trans n4.fr).trans n5.fr).trans n6.fr).trans n7.fr)
    · refine ⟨_, PSs.nox (pss_cons (ps_set (i := 1) sc__law_kind.nd rfl (by first | exact Or.inl rfl | exact Or.inr rfl) (pe_lst (pa_cons (pe_callB (call_isK XX.e_NoEnd) rfl T.f_isinstance (by decide +kernel) (pa_cons (pv 0) (pa_cons (pe_glob (v := .ref _) rfl T.g_NoDealing rfl) pa_nil))) (pa_cons (pe_callB (call_isK XX.e_NoEnd) rfl T.f_isinstance (by decide +kernel) (pa_cons (pv 0) (pa_cons (pe_glob (v := .ref _) rfl T.g_NoKeys rfl) pa_nil))) (pa_cons (pe_callB (call_isK XX.e_NoEnd) rfl T.f_isinstance (by decide +kernel) (pa_cons (pv 0) (pa_cons (pe_glob (v := .ref _) rfl T.g_TooMany rfl) pa_nil))) pa_nil))))) (pss_cons (ps_set (i := 1) sc__law_kind.nd rfl (by first | exact Or.inl rfl | exact Or.inr rfl) (pe_op op_catF (pv 1) (pe_lst (pa_cons (pe_callB (call_isK XX.e_NoEnd) rfl T.f_isinstance (by decide +kernel) (pa_cons (pv 0) (pa_cons (pe_glob (v := .ref _) rfl T.g_NoNumber rfl) pa_nil))) (pa_cons (pe_callB (call_isK XX.e_NoEnd) rfl T.f_isinstance (by decide +kernel) (pa_cons (pv 0) (pa_cons (pe_glob (v := .ref _) rfl T.g_Over rfl) pa_nil))) (pa_cons (pe_callB (call_isK XX.e_NoEnd) rfl T.f_isinstance (by decide +kernel) (pa_cons (pv 0) (pa_cons (pe_glob (v := .ref _) rfl T.g_NoStep rfl) pa_nil))) pa_nil)))))) (pss_cons (ps_set (i := 1) sc__law_kind.nd rfl (by first | exact Or.inl rfl | exact Or.inr rfl) (pe_op op_catF (pv 1) (pe_lst (pa_cons (pe_callB (call_isK XX.e_NoEnd) rfl T.f_isinstance (by decide +kernel) (pa_cons (pv 0) (pa_cons (pe_glob (v := .ref _) rfl T.g_NoEnd rfl) pa_nil))) (pa_cons (pe_callB (call_isK XX.e_NoEnd) rfl T.f_isinstance (by decide +kernel) (pa_cons (pv 0) (pa_cons (pe_glob (v := .ref _) rfl T.g_NoKey rfl) pa_nil))) (pa_cons (pe_callB (call_isK XX.e_NoEnd) rfl T.f_isinstance (by decide +kernel) (pa_cons (pv 0) (pa_cons (pe_glob (v := .ref _) rfl T.g_NoDeed rfl) pa_nil))) pa_nil)))))) (pss_cons (ps_if (pt_cmpR op_ne (pe_bm PySem.F.plainAttrs_list PySem.F.slot_list_count PySem.F.type_list_count mt_countF (pv 1) (pa_cons pe_bl pa_nil)) pe_int (nomark _)) (pss_one (ps_ret pe_str)) pss_nil) (pss_cons (ps_set (i := 2) sc__law_kind.nd rfl (by first | exact Or.inl rfl | exact Or.inr rfl) (pe_bm PySem.F.plainAttrs_list PySem.F.slot_list_index PySem.F.type_list_index mt_index (pv 1) (pa_cons pe_bl pa_nil))) (pss_cons (ps_set (i := 3) sc__law_kind.nd rfl (by first | exact Or.inl rfl | exact Or.inr rfl) (pe_cmpR op_in_seq (pv 2) (pe_tup (pa_cons pe_int (pa_cons pe_int pa_nil))) (by first | rfl | exact nomark _))) (pss_cons (ps_if (PW.pt (pw_or (pt_cmpR op_ne (pe_callB (call_isK XX.e_NoEnd) rfl T.f_isinstance (by decide +kernel) (pa_cons (pv 0) (pa_cons (pe_glob (v := .ref _) rfl T.g_BookError rfl) pa_nil))) (pv 3) (nomark _)) (pw_or1 (pt_cmpR op_eq (pe_callB (call_isK XX.e_NoEnd) rfl T.f_isinstance (by decide +kernel) (pa_cons (pv 0) (pa_cons (pe_glob (v := .ref _) rfl T.g_StepError rfl) pa_nil))) (pv 3) (nomark _))))) (pss_one (ps_ret pe_str)) pss_nil) (pss_cons (ps_set (i := 4) sc__law_kind.nd rfl (by first | exact Or.inl rfl | exact Or.inr rfl) (pe_lst (pa_cons pe_str (pa_cons pe_str (pa_cons pe_str (pa_cons pe_str (pa_cons pe_str (pa_cons pe_str (pa_cons pe_str (pa_cons pe_str (pa_cons pe_str pa_nil))))))))))) (pss_one (ps_ret (pe_ix ix_list (pv 4) (pv 2) fun _ _ => rfl))))))))))), ?_⟩
      try dsimp only [cxOf]
      walk_at "st"
      refine s_isK ha XX.q_NoEnd_NoDealing ?_
      walk_at "st"
      refine s_isK ha XX.q_NoEnd_NoKeys ?_
      walk_at "st"
      refine s_isK ha XX.q_NoEnd_TooMany ?_
      walk_at "st"
      refine s_newL (by simp) fun l1 H1 n1 => ?_
      walk_at "st"
      refine s_isK (n1.old ha) XX.q_NoEnd_NoNumber ?_
      walk_at "st"
      refine s_isK (n1.old ha) XX.q_NoEnd_Over ?_
      walk_at "st"
      refine s_isK (n1.old ha) XX.q_NoEnd_NoStep ?_
      walk_at "st"
      refine s_newL (by simp) fun l2 H2 n2 => ?_
      walk_at "st"
      refine s_catF (.inl (n2.old n1.at)) (.inl n2.at) (by decide) fun l3 H3 n3 => ?_
      walk_at "st"
      refine s_isK (n3.old (n2.old (n1.old ha))) XX.q_NoEnd_NoEnd ?_
      walk_at "st"
      refine s_isK (n3.old (n2.old (n1.old ha))) XX.q_NoEnd_NoKey ?_
      walk_at "st"
      refine s_isK (n3.old (n2.old (n1.old ha))) XX.q_NoEnd_NoDeed ?_
      walk_at "st"
      refine s_newL (by simp) fun l4 H4 n4 => ?_
      walk_at "st"
      refine s_catF (.inl (n4.old n3.at)) (.inl n4.at) (by decide) fun l5 H5 n5 => ?_
      walk_at "st"
      refine ⟨s_tyL n5.at, ?_⟩
      walk_at "st"
      refine s_count (SqL.of n5.at) rfl rfl ?_
      walk_at "st"
      rw [decide_eq_true (show V.int ((List.countP (fun z => eqV z (V.bl true)) ([V.bl false, V.bl false, V.bl false] ++ [V.bl false, V.bl false, V.bl false] ++ [V.bl true, V.bl false, V.bl false]) : Nat) : Int) = V.int 1 from rfl)]
      walk_at "st"
      refine ⟨s_tyL n5.at, ?_⟩
      walk_at "st"
      refine s_index (j := 6) (z := .bl true) (SqL.of n5.at) rfl rfl rfl rfl (fun m z' hm hz => ?_) ?_
      · have : m = 0 ∨ m = 1 ∨ m = 2 ∨ m = 3 ∨ m = 4 ∨ m = 5 := by omega
        rcases this with rfl | rfl | rfl | rfl | rfl | rfl <;> (cases hz; rfl)
      walk_at "st"
      refine s_newT (by simp) fun l6 H6 n6 => ?_
      refine s_inT (b := false) (SqT.of n6.at) rfl rfl ?_
      walk_at "st"
      refine s_isK (n6.old (n5.old (n4.old (n3.old (n2.old (n1.old ha)))))) XX.q_NoEnd_BookError ?_
      walk_at "st"
      rw [decide_eq_true (show V.bl false = V.bl false from rfl)]
      walk_at "st"
      refine s_isK (n6.old (n5.old (n4.old (n3.old (n2.old (n1.old ha)))))) XX.q_NoEnd_StepError ?_
      walk_at "st"
      rw [decide_eq_false (show ¬ V.bl true = V.bl false from fun z => nomatch z)]
      walk_at "st"
      refine s_newL (by simp) fun l7 H7 n7 => ?_
      walk_at "st"
      refine s_ixL (v := .str "NoEnd") (SqL.of n7.at) (atI_nat (j := 6) rfl) ?_
      exact q H7 ((((((n1.fr.trans n2.fr).trans n3.fr).trans n4.fr).trans n5.fr).trans n6.fr).trans n7.fr)
theorem sc__law_wish : FnScope ["_law_stepper", "_law_way", "_law_one", "_law_other"] ["_law_stepper", "_law_way", "_law_one", "_law_other"] (defScope s__law_wish) := ⟨rfl, rfl, rfl, by decide +kernel, rfl, by decide +kernel, by decide +kernel⟩
def sp__law_wish (K : PySem.W.Frag) : Sp := fun vs H Q E => ∃ (s : Addr) (A : SA) (b : Bk) (rs : List Row) (ds : List D) (n : Nat) (way due : Str), vs = [.ref s, .str way, .int n, .non] ∧ StAt K H b s A rs ds ∧ BkOk b ∧ Ok b rs ds ∧ rs.length < 1000 ∧ Tabs (lwT K) H ∧ (way = "step" ∨ way = "end" ∨ way = "drop" ∨ way = "left") ∧ RefOk b ds n way due ∧ E (.ref (He.ga K due)) none H
theorem k__law_wish {fd : FuncData} (T : Tx K mg) (F : FunD K "_law_wish" "_law_wish" (defArgs s__law_wish) (defBody s__law_wish) (defScope s__law_wish) [] [] (He.ga K "_law_wish") fd) (h_Stepper_begin : Cn P w K mg base 4 (He.ma K (He.ga K "Stepper") "begin") ["self", "name", "keys"] (sp_Stepper_begin K (lwT K))) (h_Stepper_step : Cn P w K mg base 5 (He.ma K (He.ga K "Stepper") "step") ["self", "number"] (sp_Stepper_step K)) (h_Stepper_end : Cn P w K mg base 4 (He.ma K (He.ga K "Stepper") "end") ["self", "number"] (sp_Stepper_end K (lwT K)))
    (h_Stepper_drop : Cn P w K mg base 3 (He.ma K (He.ga K "Stepper") "drop") ["self", "number"] (sp_Stepper_drop K (lwT K))) (h_Stepper_state : Cn P w K mg base 2 (He.ma K (He.ga K "Stepper") "state") ["self", "number"] (sp_Stepper_state K)) (h_Stepper_left : Cn P w K mg base 3 (He.ma K (He.ga K "Stepper") "left") ["self", "number"] (sp_Stepper_left K))
    (h_Stepper_writer : Cn P w K mg base 5 (He.ma K (He.ga K "Stepper") "writer") ["self", "key"] (sp_Stepper_writer K)) (h_Stepper_undo : Cn P w K mg base 2 (He.ma K (He.ga K "Stepper") "undo") ["self"] (sp_Stepper_undo K (lwT K))) : Cn P w K mg base 6 (He.ga K "_law_wish") ["_law_stepper", "_law_way", "_law_one", "_law_other"] (sp__law_wish K) := by
  refine cn_of F sc__law_wish (fun vs H Q E h => ?_) (fun _ _ _ _ _ _ us hl => match us, hl with | [_, _, _, _], _ => rfl) fun cdv A' outer s' H vs Q E hr h => ?_
  · obtain ⟨s, A, b, rs, ds, n, way, due, rfl, _⟩ := h
    rfl
  · obtain ⟨s, A, b, rs, ds, n, way, due, rfl, hs, B, ok, hlen, hT, hway, hro, q⟩ := h
    refine ⟨_, (pss_cons (ps_if (pt_cmpR op_eq (pv 1) pe_str (nomark _)) (pss_one (ps_ret (pe_cm T.cS T.mS_begin h_Stepper_begin (pv 0) (hr.mono (by decide)) passL (pa_cons (pv 2) (pa_cons (pv 3) pa_nil))))) pss_nil) (pss_cons (ps_if (pt_cmpR op_eq (pv 1) pe_str (nomark _)) (pss_one (ps_ret (pe_cm T.cS T.mS_step h_Stepper_step (pv 0) (hr.mono (by decide)) (passes_call (takes_of rfl rfl rfl rfl) fun _ _ _ _ h => h) (pa_cons (pv 2) pa_nil)))) pss_nil) (pss_cons (ps_if (pt_cmpR op_eq (pv 1) pe_str (nomark _)) (pss_one (ps_ret (pe_cm T.cS T.mS_end h_Stepper_end (pv 0) (hr.mono (by decide)) (passes_call (takes_of rfl rfl rfl rfl) fun _ _ _ _ h => h) (pa_cons (pv 2) pa_nil)))) pss_nil) (pss_cons (ps_if (pt_cmpR op_eq (pv 1) pe_str (nomark _)) (pss_one (ps_ret (pe_cm T.cS T.mS_drop h_Stepper_drop (pv 0) (hr.mono (by decide)) (passes_call (takes_of rfl rfl rfl rfl) fun _ _ _ _ h => h) (pa_cons (pv 2) pa_nil)))) pss_nil) (pss_cons (ps_if (pt_cmpR op_eq (pv 1) pe_str (nomark _)) (pss_one (ps_ret (pe_cm T.cS T.mS_state h_Stepper_state (pv 0) (hr.mono (by decide)) passL (pa_cons (pv 2) pa_nil)))) pss_nil) (pss_cons (ps_if (pt_cmpR op_eq (pv 1) pe_str (nomark _)) (pss_one (ps_ret (pe_cm T.cS T.mS_left h_Stepper_left (pv 0) (hr.mono (by decide)) (passes_call (takes_of rfl rfl rfl rfl) fun _ _ _ _ h => h) (pa_cons (pv 2) pa_nil)))) pss_nil) (pss_cons (ps_if (pt_cmpR op_eq (pv 1) pe_str (nomark _)) (pss_one (ps_ret (pe_cm T.cS T.mS_writer h_Stepper_writer (pv 0) (hr.mono (by decide)) passL (pa_cons (pv 2) pa_nil)))) pss_nil) (pss_one (ps_ret (pe_cm0 T.cS T.mS_undo h_Stepper_undo (pv 0) (hr.mono (by decide)) passL)))))))))), ?_⟩
    try dsimp only [cxOf]
    walk_at "st"
    rcases hway with rfl | rfl | rfl | rfl
    · rw [decide_eq_false (show ¬ V.str ("step" : Str) = V.str "begin" from fun z => absurd (V.str.inj z) (by decide +kernel))]
      walk_at "st"
      rw [decide_eq_true (show V.str ("step" : Str) = V.str "step" from rfl)]
      walk_at "st"
      refine s_MethR hs.ins rfl ?_
      walk_at "st"
      refine ⟨s, A, b, rs, ds, n, rfl, hs, B, ok, hlen, hT, fun d e hw hl => ?_, fun hn => by rw [hro.nn hn] at q; exact q, fun d e hw => by rw [hro.ov e hw] at q; exact q, fun d e hw hl => ?_⟩
      · rcases hro.op e hw with ⟨_, h, _⟩ | ⟨h, _⟩
        · omega
        · exact absurd h (by decide +kernel)
      · rcases hro.op e hw with ⟨_, _, h⟩ | ⟨h, _⟩
        · rw [h] at q
          exact q
        · exact absurd h (by decide +kernel)
    · rw [decide_eq_false (show ¬ V.str ("end" : Str) = V.str "begin" from fun z => absurd (V.str.inj z) (by decide +kernel))]
      walk_at "st"
      rw [decide_eq_false (show ¬ V.str ("end" : Str) = V.str "step" from fun z => absurd (V.str.inj z) (by decide +kernel))]
      walk_at "st"
      rw [decide_eq_true (show V.str ("end" : Str) = V.str "end" from rfl)]
      walk_at "st"
      refine s_MethR hs.ins rfl ?_
      walk_at "st"
      refine ⟨s, A, b, rs, ds, n, rfl, hs, B, ok, hlen, fun d e hw hl => ?_, fun hn => by rw [hro.nn hn] at q; exact q, fun d e hw => by rw [hro.ov e hw] at q; exact q, fun d e hw hl => ?_⟩
      · rcases hro.op e hw with ⟨h, _⟩ | ⟨_, h, _⟩
        · exact absurd h (by decide +kernel)
        · omega
      · rcases hro.op e hw with ⟨h, _⟩ | ⟨_, _, h⟩
        · exact absurd h (by decide +kernel)
        · rw [h] at q
          exact q
    · rw [decide_eq_false (show ¬ V.str ("drop" : Str) = V.str "begin" from fun z => absurd (V.str.inj z) (by decide +kernel))]
      walk_at "st"
      rw [decide_eq_false (show ¬ V.str ("drop" : Str) = V.str "step" from fun z => absurd (V.str.inj z) (by decide +kernel))]
      walk_at "st"
      rw [decide_eq_false (show ¬ V.str ("drop" : Str) = V.str "end" from fun z => absurd (V.str.inj z) (by decide +kernel))]
      walk_at "st"
      rw [decide_eq_true (show V.str ("drop" : Str) = V.str "drop" from rfl)]
      walk_at "st"
      refine s_MethR hs.ins rfl ?_
      walk_at "st"
      refine ⟨s, A, b, rs, ds, n, rfl, hs, hlen, fun d e hw => ?_, fun hn => by rw [hro.nn hn] at q; exact q, fun d e hw => by rw [hro.ov e hw] at q; exact q⟩
      rcases hro.op e hw with ⟨h, _⟩ | ⟨h, _⟩
      · exact absurd h (by decide +kernel)
      · exact absurd h (by decide +kernel)
    · rw [decide_eq_false (show ¬ V.str ("left" : Str) = V.str "begin" from fun z => absurd (V.str.inj z) (by decide +kernel))]
      walk_at "st"
      rw [decide_eq_false (show ¬ V.str ("left" : Str) = V.str "step" from fun z => absurd (V.str.inj z) (by decide +kernel))]
      walk_at "st"
      rw [decide_eq_false (show ¬ V.str ("left" : Str) = V.str "end" from fun z => absurd (V.str.inj z) (by decide +kernel))]
      walk_at "st"
      rw [decide_eq_false (show ¬ V.str ("left" : Str) = V.str "drop" from fun z => absurd (V.str.inj z) (by decide +kernel))]
      walk_at "st"
      rw [decide_eq_false (show ¬ V.str ("left" : Str) = V.str "state" from fun z => absurd (V.str.inj z) (by decide +kernel))]
      walk_at "st"
      rw [decide_eq_true (show V.str ("left" : Str) = V.str "left" from rfl)]
      walk_at "st"
      refine s_MethR hs.ins rfl ?_
      walk_at "st"
      refine ⟨s, A, b, rs, ds, n, rfl, hs, fun d e hw => ?_, fun hn => by rw [hro.nn hn] at q; exact q, fun d e hw => by rw [hro.ov e hw] at q; exact q⟩
      rcases hro.op e hw with ⟨h, _⟩ | ⟨h, _⟩
      · exact absurd h (by decide +kernel)
      · exact absurd h (by decide +kernel)
theorem pe_cnS {X : Cx} {k : Nat} {f : Addr} {ps : List Str} {sp : Sp} {E : L2.St → XK} {x : Str} {p pos : Pos} {e : Expr} {es : List Expr} {t : TA} (h : Cn X.prog X.w X.K X.mg X.base k f ps sp) (hr : Room k X.A) (hg : Gl X x) (hm : X.mg x = some (.ref f)) (hx : ∀ σ, PassesAt (L2.CX X.prog X.w) X σ (E σ))
    (ha : PA X (e :: es) t) (he : starEach (e :: es) X.env = (false, eval e X.env) :: starEach es X.env := by rfl) (hpl : (backTo pos (starEach es X.env)).any (·.1) = false := by rfl)
    (hdb : (x == ("__debug__" : Str)) = false := by decide) : PE X (.Call (.Name x p) (e :: es) [] pos) (tCallS sp E t) := by
  obtain ⟨fd, F, b⟩ := h.ex
  exact pe_callS F hr hg hm h.kp b hx ha hdb he hpl
theorem s_callS {sp : Sp} {E : L2.St → XK} {tA : TA} {σ : L2.St} {H : Hp} {Q : VK} (q : tA σ H fun vs H1 => sp vs H1 Q (E σ)) : tCallS sp E tA σ H Q := q
theorem sc__law_told : FnScope ["_law_stepper", "_law_way", "_law_one", "_law_other", "_law_caught", "e"] ["_law_stepper", "_law_way", "_law_one", "_law_other"] (defScope s__law_told) := ⟨rfl, rfl, rfl, by decide +kernel, rfl, by decide +kernel, by decide +kernel⟩
def sp__law_told (K : PySem.W.Frag) : Sp := fun vs H Q _ => ∃ (s : Addr) (A : SA) (b : Bk) (rs : List Row) (ds : List D) (n : Nat) (way due : Str), vs = [.ref s, .str way, .int n, .non] ∧ StAt K H b s A rs ds ∧ BkOk b ∧ Ok b rs ds ∧ rs.length < 1000 ∧ Tabs (lwT K) H ∧ (way = "step" ∨ way = "end" ∨ way = "drop" ∨ way = "left") ∧ RefOk b ds n way due ∧ ∀ H', Fr (lwT K) [] H H' [] → Q (.str due) H'
theorem k__law_told {fd : FuncData} (T : Tx K mg) (XX : Kx K) (F : FunD K "_law_told" "_law_told" (defArgs s__law_told) (defBody s__law_told) (defScope s__law_told) [] [] (He.ga K "_law_told") fd) (h__law_wish : Cn P w K mg base 6 (He.ga K "_law_wish") ["_law_stepper", "_law_way", "_law_one", "_law_other"] (sp__law_wish K)) (h__law_kind : Cn P w K mg base 1 (He.ga K "_law_kind") ["_law_error"] (sp__law_kind K (lwT K))) : Cn P w K mg base 7 (He.ga K "_law_told") ["_law_stepper", "_law_way", "_law_one", "_law_other"] (sp__law_told K) := by
  refine cn_of F sc__law_told (fun vs H Q E h => ?_) (fun _ _ _ _ _ _ us hl => match us, hl with | [_, _, _, _], _ => rfl) fun cdv A' outer s' H vs Q E hr h => ?_
  · obtain ⟨s, A, b, rs, ds, n, way, due, rfl, _⟩ := h
    rfl
  · obtain ⟨s, A, b, rs, ds, n, way, due, rfl, hs, B, ok, hlen, hT, hway, hro, q⟩ := h
    have h4 := hro.four
    refine ⟨_, PSs.nox (pss_cons (ps_set (i := 4) sc__law_told.nd rfl (by first | exact Or.inl rfl | exact Or.inr rfl) pe_non) (pss_cons (ps_try_keep (Wout := fun _ _ _ _ => False) (c := .ref (He.ga K "SnapError")) (i := 5) rfl rfl sc__law_told.nd rfl rfl ⟨rfl, by decide, .inl T.g_SnapError⟩ rfl L2.takes0 (fun W pn xe tk px => (pss_one (ps_expr (pe_cnS h__law_wish (hr.mono (by decide)) rfl T.g__law_wish (passAt tk) (pa_cons (pv 0) (pa_cons (pv 1) (pa_cons (pv 2) (pa_cons (pv 3) pa_nil)))))))) (fun a oe cls d pn _ _ => (pss_one (ps_set (i := 4) sc__law_told.nd rfl (by first | exact Or.inl rfl | exact Or.inr rfl) (pv 5))))) (pss_cons (ps_if (pt_cmp (pc_isN (pv 4))) (pss_one (ps_ret pe_str)) pss_nil) (pss_one (ps_ret (pe_cn h__law_kind (hr.mono (by decide)) rfl T.g__law_kind passL (pa_cons (pv 4) pa_nil))))))), ?_⟩
    try dsimp only [cxOf]
    walk_at "st"
    refine s_callS ?_
    walk_at "st"
    refine ⟨s, A, b, rs, ds, n, way, due, rfl, hs, B, ok, hlen, hT, hway, hro, ?_⟩
    have hm : PySem.W.exmOne K (.ref (He.ga K due)) (.ref (He.ga K "SnapError")) = some true := by
      rcases h4 with rfl | rfl | rfl | rfl
      · exact XX.m_NoNumber
      · exact XX.m_Over
      · exact XX.m_NoStep
      · exact XX.m_NoEnd
    refine ⟨true, hm, fun _ => ⟨rfl, fun a ha => ?_⟩, fun z => nomatch z⟩
    walk_at "st"
    intro ha2
    have n1 := nw_of (u := KO (.ref (He.ga K due)) a) ha2
    walk_at "st"
    rw [decide_eq_false (show ¬ V.ref a = V.non from fun z => nomatch z)]
    walk_at "st"
    exact ⟨a, due, rfl, n1.at, h4, fun H' f' => q H' (n1.fr.trans f')⟩
end
end K28
/-! ## K28g5 -/
namespace K28
set_option maxHeartbeats 3900000
open L2 LamX PySem PySem.Spec PyProof.Rows
local macro_rules | `(tactic| walk_at "st") => `(tactic| repeat (first
  | with_reducible refine s_seq ?_ | with_reducible refine s_ret ?_ | with_reducible refine s_retN ?_ | with_reducible refine s_drop ?_ | with_reducible refine s_asg ?_ | with_reducible refine s_gn ?_ | with_reducible refine s_nextq ?_
  | ((with_reducible apply s_var); exact rfl) | with_reducible refine s_c ?_ | with_reducible refine s_op ?_ | with_reducible refine s_I0 ?_ | ((with_reducible refine s_eq ?_ ?_); exact rfl) | ((with_reducible refine s_ne ?_ ?_); exact rfl)
  | with_reducible refine s_test ?_ | with_reducible refine s_tB ?_ | with_reducible refine s_bl ?_ | with_reducible refine s_and ?_ | with_reducible refine s_or ?_ | with_reducible refine s_not ?_ | with_reducible refine s_andV ?_ | with_reducible refine s_orV ?_ | with_reducible refine s_notV ?_
  | with_reducible refine s_blP ?_ | with_reducible refine s_ifS ?_ | with_reducible refine s_nil ?_ | with_reducible refine s_cons ?_ | with_reducible refine s_cb ?_ | with_reducible refine s_call ?_ | with_reducible refine s_tup ?_ | with_reducible refine s_lst ?_
  | with_reducible refine s_isN ?_ | with_reducible refine s_notN ?_ | with_reducible refine s_un ?_ | with_reducible refine s_U ?_ | with_reducible refine s_fld ?_ | with_reducible refine s_put ?_ | with_reducible refine s_meth ?_ | with_reducible refine s_gc ?_ | with_reducible refine s_g0 ?_
  | with_reducible refine s_dz ?_ | with_reducible refine s_make ?_ | with_reducible refine s_m1 ?_ | with_reducible refine s_chain ?_ | with_reducible refine s_iZ ?_ | with_reducible refine s_dput ?_ | with_reducible refine s_dget ?_ | with_reducible refine s_din ?_ | with_reducible refine s_lc ?_ | with_reducible refine s_for ?_ | with_reducible refine s_iL ?_ | with_reducible refine s_iE ?_ | with_reducible refine s_iR1 ?_ | with_reducible refine s_iR2 ?_ | with_reducible refine s_yes ?_
  | with_reducible refine s_frz ?_ | with_reducible refine s_bm ?_ | with_reducible refine s_bm0 ?_ | with_reducible refine s_iff ?_ | with_reducible refine s_ift ?_ | with_reducible refine s_ifnt ?_ | with_reducible refine s_ifnf ?_
  | with_reducible refine s_iT ?_ | with_reducible refine s_iS ?_ | with_reducible refine s_sl ?_ | with_reducible refine s_npart ?_ | with_reducible refine s_part ?_ | with_reducible refine s_PrtR ?_ | with_reducible refine s_pp0 ?_ | with_reducible refine s_pp ?_ | with_reducible refine s_sub ?_ | with_reducible refine s_callS ?_))
section
variable {P : Program} {w : World} {K : PySem.W.Frag} {mg : Str → Option Value} {base : Heap} {TT : List (Addr × Str)}
/-! ### the same; a deed of the Stepper -/
theorem sc__law_same : FnScope ["_law_one", "_law_other"] ["_law_one", "_law_other"] (defScope s__law_same) := ⟨rfl, rfl, rfl, by decide +kernel, rfl, by decide +kernel, by decide +kernel⟩
def sp__law_same (K : PySem.W.Frag) : Sp := fun vs H Q _ => ∃ (x y : V) (d : PyData), vs = [x, y] ∧ Dp K H x d ∧ Dp K H y d ∧ PyData.showable d = true ∧ PyData.hasDict d = false ∧ PyData.depth d ≤ 60 ∧ d.shown.length ≤ 10000000 ∧ Q (.bl true) H
theorem k__law_same {fd : FuncData} (T : Tx K mg) (F : FunD K "_law_same" "_law_same" (defArgs s__law_same) (defBody s__law_same) (defScope s__law_same) [] [] (He.ga K "_law_same") fd) : CnG P w K mg base 1 (He.ga K "_law_same") ["_law_one", "_law_other"] (sp__law_same K) := by
  refine cnG_of F sc__law_same (fun vs H Q E h => ?_) (fun _ _ _ _ _ _ us hl => match us, hl with | [_, _], _ => rfl) fun cdv A outer s H vs Q E hgd hr h => ?_
  · obtain ⟨x, y, d, rfl, _⟩ := h
    rfl
  · obtain ⟨x, y, d, rfl, hx, hy, h1, h2, h3, h4, q⟩ := h
    refine ⟨_, PSs.nox (pss_one (ps_ret (pe_cmpR op_eq (pe_callB (call_repr hgd hr.units) rfl T.f_repr (by decide +kernel) (pa_cons (pv 0) pa_nil)) (pe_callB (call_repr hgd hr.units) rfl T.f_repr (by decide +kernel) (pa_cons (pv 1) pa_nil)) (nomark _)))), ?_⟩
    try dsimp only [cxOf]
    walk_at "st"
    refine s_repr hx h1 h2 h3 h4 ?_
    walk_at "st"
    refine s_repr hy h1 h2 h3 h4 ?_
    walk_at "st"
    rw [decide_eq_true rfl]
    exact q
theorem sc__law_doing : FnScope ["_law_stepper", "_law_row"] ["_law_stepper", "_law_row"] (defScope s__law_doing) := ⟨rfl, rfl, rfl, by decide +kernel, rfl, by decide +kernel, by decide +kernel⟩
def sp__law_doing (K : PySem.W.Frag) : Sp := fun vs H Q E => ∃ (s : Addr) (A : SA) (b : Bk) (rs : List Row) (ds : List D) (r : Row) (v : V), vs = [.ref s, v] ∧ StAt K H b s A rs ds ∧ BkOk b ∧ Ok b rs ds ∧ Can b ds r ∧ Fz H v (rwD b r) ∧ rs.length < 1000 ∧ Tabs (lwT K) H ∧
  ∀ v' A' H', Fr (lwT K) (A.fp s) H H' (SA.fp A' s) → StAt K H' b s A' (rs ++ [r]) (doD b ds rs.length r) → Fz H' v' (retD b ds r) → Q v' H'
theorem k__law_doing {fd : FuncData} (T : Tx K mg) (F : FunD K "_law_doing" "_law_doing" (defArgs s__law_doing) (defBody s__law_doing) (defScope s__law_doing) [] [] (He.ga K "_law_doing") fd) (h_Stepper_begin : Cn P w K mg base 4 (He.ma K (He.ga K "Stepper") "begin") ["self", "name", "keys"] (sp_Stepper_begin K (lwT K))) (h_Stepper_step : Cn P w K mg base 5 (He.ma K (He.ga K "Stepper") "step") ["self", "number"] (sp_Stepper_step K))
    (h_Stepper_end : Cn P w K mg base 4 (He.ma K (He.ga K "Stepper") "end") ["self", "number"] (sp_Stepper_end K (lwT K))) (h_Stepper_drop : Cn P w K mg base 3 (He.ma K (He.ga K "Stepper") "drop") ["self", "number"] (sp_Stepper_drop K (lwT K))) : Cn P w K mg base 6 (He.ga K "_law_doing") ["_law_stepper", "_law_row"] (sp__law_doing K) := by
  refine cn_of F sc__law_doing (fun vs H Q E h => ?_) (fun _ _ _ _ _ _ us hl => match us, hl with | [_, _], _ => rfl) fun cdv A' outer s' H vs Q E hr h => ?_
  · obtain ⟨s, A, b, rs, ds, r, v, rfl, _⟩ := h
    rfl
  · obtain ⟨s, A, b, rs, ds, r, v, rfl, hs, B, ok, can, fv, hlen, hT, q⟩ := h
    refine ⟨_, PSs.nox (pss_cons (ps_if (pt_cmpR op_eq (pe_ix ix_tup (pv 1) pe_int fun _ _ => rfl) pe_str (nomark _)) (pss_one (ps_ret (pe_cm T.cS T.mS_begin h_Stepper_begin (pv 0) (hr.mono (by decide)) passL (pa_cons (pe_ix ix_tup (pv 1) pe_int fun _ _ => rfl) (pa_cons (pe_ix ix_tup (pv 1) pe_int fun _ _ => rfl) pa_nil))))) pss_nil) (pss_cons (ps_if (pt_cmpR op_eq (pe_ix ix_tup (pv 1) pe_int fun _ _ => rfl) pe_str (nomark _)) (pss_one (ps_ret (pe_cm T.cS T.mS_step h_Stepper_step (pv 0) (hr.mono (by decide)) passL (pa_cons (pe_ix ix_tup (pv 1) pe_int fun _ _ => rfl) pa_nil)))) pss_nil) (pss_cons (ps_if (pt_cmpR op_eq (pe_ix ix_tup (pv 1) pe_int fun _ _ => rfl) pe_str (nomark _)) (pss_one (ps_ret (pe_cm T.cS T.mS_end h_Stepper_end (pv 0) (hr.mono (by decide)) passL (pa_cons (pe_ix ix_tup (pv 1) pe_int fun _ _ => rfl) pa_nil)))) pss_nil) (pss_one (ps_ret (pe_cm T.cS T.mS_drop h_Stepper_drop (pv 0) (hr.mono (by decide)) passL (pa_cons (pe_ix ix_tup (pv 1) pe_int fun _ _ => rfl) pa_nil))))))), ?_⟩
    try dsimp only [cxOf]
    walk_at "st"
    cases r with
    | beg di ks =>
      obtain ⟨c1, c2, c3, c4⟩ := can
      obtain ⟨pv, xs, rfl, hpv, fx⟩ := fv.tup_inv
      match xs, fx with
      | [_, _, _], .cons (.str _) (.cons (.str _) (.cons fk .nil)) =>
        refine s_ixT (SqT.of hpv) atI_lit0 ?_
        walk_at "st"
        rw [decide_eq_true (show V.str ("begin" : Str) = V.str "begin" from rfl)]
        walk_at "st"
        refine s_MethR hs.ins rfl ?_
        walk_at "st"
        refine s_ixT (SqT.of hpv) atI_lit1 ?_
        walk_at "st"
        refine s_ixT (SqT.of hpv) atI_lit2 ?_
        exact ⟨s, A, b, rs, ds, di, _, ks, by rw [nmOf_eq c1], hs, B, c1, fk, c2, c3, hlen, fun A2 H2 f2 hs2 => q _ A2 H2 f2 hs2 (.int _)⟩
    | stp n =>
      obtain ⟨d, ed, hw, hl⟩ := can
      obtain ⟨pv, xs, rfl, hpv, fx⟩ := fv.tup_inv
      match xs, fx with
      | [_, _], .cons (.str _) (.cons (.int _) .nil) =>
        refine s_ixT (SqT.of hpv) atI_lit0 ?_
        walk_at "st"
        rw [decide_eq_false (show ¬ V.str ("step" : Str) = V.str "begin" from fun z => absurd (V.str.inj z) (by decide +kernel))]
        walk_at "st"
        refine s_ixT (SqT.of hpv) atI_lit0 ?_
        walk_at "st"
        rw [decide_eq_true (show V.str ("step" : Str) = V.str "step" from rfl)]
        walk_at "st"
        refine s_MethR hs.ins rfl ?_
        walk_at "st"
        refine s_ixT (SqT.of hpv) atI_lit1 ?_
        refine ⟨s, A, b, rs, ds, n, rfl, hs, B, ok, hlen, hT, fun d' e' _ _ v' H2 f2 hs2 fv2 => ?_, fun z => absurd (List.getElem?_eq_some_iff.mp ed).1 (by omega), fun d' e' z => absurd hw (by rw [ed] at e'; cases e'; exact z), fun d' e' _ z => by rw [ed] at e'; cases e'; omega⟩
        refine q v' A H2 f2 hs2 ?_
        rw [ed] at e'
        cases e'
        show Fz H2 v' (match ds[n]? with
          | some d => tlD (stepOf b ds n d)
          | none => .none)
        rw [ed]
        exact fv2
    | fin n =>
      obtain ⟨d, ed, hw, hl⟩ := can
      obtain ⟨pv, xs, rfl, hpv, fx⟩ := fv.tup_inv
      match xs, fx with
      | [_, _], .cons (.str _) (.cons (.int _) .nil) =>
        refine s_ixT (SqT.of hpv) atI_lit0 ?_
        walk_at "st"
        rw [decide_eq_false (show ¬ V.str ("end" : Str) = V.str "begin" from fun z => absurd (V.str.inj z) (by decide +kernel))]
        walk_at "st"
        refine s_ixT (SqT.of hpv) atI_lit0 ?_
        walk_at "st"
        rw [decide_eq_false (show ¬ V.str ("end" : Str) = V.str "step" from fun z => absurd (V.str.inj z) (by decide +kernel))]
        walk_at "st"
        refine s_ixT (SqT.of hpv) atI_lit0 ?_
        walk_at "st"
        rw [decide_eq_true (show V.str ("end" : Str) = V.str "end" from rfl)]
        walk_at "st"
        refine s_MethR hs.ins rfl ?_
        walk_at "st"
        refine s_ixT (SqT.of hpv) atI_lit1 ?_
        refine ⟨s, A, b, rs, ds, n, rfl, hs, B, ok, hlen, fun d' e' _ _ H2 f2 hs2 => ?_, fun z => absurd (List.getElem?_eq_some_iff.mp ed).1 (by omega), fun d' e' z => absurd hw (by rw [ed] at e'; cases e'; exact z), fun d' e' _ z => by rw [ed] at e'; cases e'; omega⟩
        refine q _ A H2 f2 hs2 ?_
        rw [ed] at e'
        cases e'
        show Fz H2 _ (match ds[n]? with
          | some d => .bool (!isOff ds d)
          | none => .none)
        rw [ed]
        exact .bl _
    | drp n =>
      obtain ⟨d, ed, hw⟩ := can
      obtain ⟨pv, xs, rfl, hpv, fx⟩ := fv.tup_inv
      match xs, fx with
      | [_, _], .cons (.str _) (.cons (.int _) .nil) =>
        refine s_ixT (SqT.of hpv) atI_lit0 ?_
        walk_at "st"
        rw [decide_eq_false (show ¬ V.str ("drop" : Str) = V.str "begin" from fun z => absurd (V.str.inj z) (by decide +kernel))]
        walk_at "st"
        refine s_ixT (SqT.of hpv) atI_lit0 ?_
        walk_at "st"
        rw [decide_eq_false (show ¬ V.str ("drop" : Str) = V.str "step" from fun z => absurd (V.str.inj z) (by decide +kernel))]
        walk_at "st"
        refine s_ixT (SqT.of hpv) atI_lit0 ?_
        walk_at "st"
        rw [decide_eq_false (show ¬ V.str ("drop" : Str) = V.str "end" from fun z => absurd (V.str.inj z) (by decide +kernel))]
        walk_at "st"
        refine s_MethR hs.ins rfl ?_
        walk_at "st"
        refine s_ixT (SqT.of hpv) atI_lit1 ?_
        refine ⟨s, A, b, rs, ds, n, rfl, hs, hlen, fun d' e' _ H2 f2 hs2 => q _ A H2 f2 hs2 .non, fun z => absurd (List.getElem?_eq_some_iff.mp ed).1 (by omega), fun d' e' z => absurd hw (by rw [ed] at e'; cases e'; exact z)⟩
theorem sc__law_refused : FnScope ["_law_pool_here", "_law_book_here", "_law_stepper", "_law_world", "_law_number", "_law_way", "_law_due", "_law_left_here"] ["_law_pool_here", "_law_book_here", "_law_stepper", "_law_world"] (defScope s__law_refused) := ⟨rfl, rfl, rfl, by decide +kernel, rfl, by decide +kernel, by decide +kernel⟩
def sp__law_refused (K : PySem.W.Frag) : Sp := fun vs H Q E => ∃ (p s w : Addr) (v : V) (A : SA) (ps : List (Addr × Addr)) (b : Bk) (rs : List Row) (ds : List D), vs = [.ref p, v, .ref s, .ref w] ∧ PoolAt H p ∧ Fz H v (bkD b) ∧ StAt K H b s A rs ds ∧ WdAt H w ps ds ∧ BkOk b ∧ Ok b rs ds ∧ rs.length < 1000 ∧ Tabs (lwT K) H ∧ p ∉ A.fp s ∧ p ∉ wfp w ps ∧
  ∀ H', Fr (lwT K) [p] H H' [p] → PoolAt H' p → Q (.bl true) H'
theorem k__law_refused {fd : FuncData} (T : Tx K mg) (F : FunD K "_law_refused" "_law_refused" (defArgs s__law_refused) (defBody s__law_refused) (defScope s__law_refused) [] [] (He.ga K "_law_refused") fd) (h__law_draw : Cn P w K mg base 1 (He.ga K "_law_draw") ["_law_pool_here", "_law_many"] (sp__law_draw (lwT K))) (h__law_left : Cn P w K mg base 1 (He.ga K "_law_left") ["_law_book_here", "_law_deal"] sp__law_left) (h__law_told : Cn P w K mg base 7 (He.ga K "_law_told") ["_law_stepper", "_law_way", "_law_one", "_law_other"] (sp__law_told K)) :
    Cn P w K mg base 8 (He.ga K "_law_refused") ["_law_pool_here", "_law_book_here", "_law_stepper", "_law_world"] (sp__law_refused K) := by
  refine cn_of F sc__law_refused (fun vs H Q E h => ?_) (fun _ _ _ _ _ _ us hl => match us, hl with | [_, _, _, _], _ => rfl) fun cdv A' outer s' H vs Q E hr h => ?_
  · obtain ⟨p, s, w, v, A, ps, b, rs, ds, rfl, _⟩ := h
    rfl
  · obtain ⟨p, s, w, v, A, ps, b, rs, ds, rfl, hP, hv, hs, hw, B, ok, hlen, hT, nps, npw, q⟩ := h
    obtain ⟨h40, okd⟩ := ok.inv B
    refine ⟨_, PSs.nox (pss_cons (ps_set (i := 4) sc__law_refused.nd rfl (by first | exact Or.inl rfl | exact Or.inr rfl) (pe_cn h__law_draw (hr.mono (by decide)) rfl T.g__law_draw passL (pa_cons (pv 0) (pa_cons (pe_op op_add (pe_callB call_lenQ rfl T.f_len (by decide +kernel) (pa_cons (pv 3) pa_nil)) pe_int) pa_nil)))) (pss_cons (ps_set (i := 5) sc__law_refused.nd rfl (by first | exact Or.inl rfl | exact Or.inr rfl) (pe_ix ix_list (pe_lst (pa_cons pe_str (pa_cons pe_str (pa_cons pe_str (pa_cons pe_str pa_nil))))) (pe_cn h__law_draw (hr.mono (by decide)) rfl T.g__law_draw passL (pa_cons (pv 0) (pa_cons pe_int pa_nil))) fun _ _ => rfl)) (pss_cons (ps_set (i := 6) sc__law_refused.nd rfl (by first | exact Or.inl rfl | exact Or.inr rfl) pe_str) (pss_cons (ps_if (pt_cmpR op_lt (pv 4) (pe_callB call_lenQ rfl T.f_len (by decide +kernel) (pa_cons (pv 3) pa_nil)) (nomark _)) (pss_cons (ps_set (i := 6) sc__law_refused.nd rfl (by first | exact Or.inl rfl | exact Or.inr rfl) pe_str) (pss_one (ps_if (pt_cmpR op_eq (pe_dget (hu_of hr) (pe_ix ix_list (pv 3) (pv 4) fun _ _ => rfl) pe_str fun _ _ => rfl) pe_str (nomark _)) (pss_cons (ps_set (i := 7) sc__law_refused.nd rfl (by first | exact Or.inl rfl | exact Or.inr rfl) (pe_cn h__law_left (hr.mono (by decide)) rfl T.g__law_left passL (pa_cons (pv 1) (pa_cons (pe_ix ix_list (pv 3) (pv 4) fun _ _ => rfl) pa_nil)))) (pss_cons (ps_set (i := 6) sc__law_refused.nd rfl (by first | exact Or.inl rfl | exact Or.inr rfl) (pe_lst (pa_cons (pe_ix ix_list (pe_lst (pa_cons pe_str (pa_cons pe_str pa_nil))) (pe_callTy call_intQ rfl T.f_int (by decide +kernel) (pa_cons (pe_cmpR op_eq (pv 7) pe_int (nomark _)) pa_nil)) fun _ _ => rfl) (pa_cons (pe_ix ix_list (pe_lst (pa_cons pe_str (pa_cons pe_str pa_nil))) (pe_callTy call_intQ rfl T.f_int (by decide +kernel) (pa_cons (pe_cmpR op_gt (pv 7) pe_int (nomark _)) pa_nil)) fun _ _ => rfl) (pa_cons pe_str (pa_cons pe_str pa_nil)))))) (pss_one (ps_set (i := 6) sc__law_refused.nd rfl (by first | exact Or.inl rfl | exact Or.inr rfl) (pe_ix ix_list (pv 6) (pe_bm PySem.F.plainAttrs_list PySem.F.slot_list_index PySem.F.type_list_index mt_index (pe_lst (pa_cons pe_str (pa_cons pe_str (pa_cons pe_str (pa_cons pe_str pa_nil))))) (pa_cons (pv 5) pa_nil)) fun _ _ => rfl))))) pss_nil))) pss_nil) (pss_one (ps_ret (pe_or (pe_cmpR op_eq (pv 6) pe_str (nomark _)) (pe_one (pe_cmpR op_eq (pe_cn h__law_told (hr.mono (by decide)) rfl T.g__law_told passL (pa_cons (pv 2) (pa_cons (pv 5) (pa_cons (pv 4) (pa_cons pe_non pa_nil))))) (pv 6) (nomark _)))))))))), ?_⟩
    try dsimp only [cxOf]
    walk_at "st"
    refine s_lenL (SqL.of hw.wl) ?_
    walk_at "st"
    rw [List.length_map, hw.len]
    refine ⟨p, (ds.length : Int) + 2, rfl, hP, by omega, by omega, fun r H1 r0 r1 f1 hP1 => ?_⟩
    obtain ⟨n, rfl⟩ : ∃ n : Nat, r = n := ⟨r.toNat, by omega⟩
    walk_at "st"
    refine s_newL (by simp) fun l2 H2 n2 => ?_
    walk_at "st"
    have np2 := hP1.ne n2.no
    refine ⟨p, 4, rfl, hP1.fr (n2.fr (T := lwT K) (fp := [])) (by simp), by decide, by decide, fun r3 H3 r30 r31 f3 hP3 => ?_⟩
    have hl3 := f3.get n2.at (by simpa using np2.symm) trivial
    have f03 : Fr (lwT K) [p] H H3 [p] := (f1.trans n2.fr).trans f3
    have hs3 := hs.fr f03 (by simp; exact fun b hb z => nps (z ▸ hb))
    have hw3 := hw.fr f03 (by simp; exact fun b hb z => npw (z ▸ hb))
    have told : ∀ (way due : Str) (H4 : Hp) (QQ : VK), Fr (lwT K) [] H3 H4 [] → (way = "step" ∨ way = "end" ∨ way = "drop" ∨ way = "left") → RefOk b ds n way due → (∀ H5, Fr (lwT K) [] H4 H5 [] → QQ (.str due) H5) → sp__law_told K [.ref s, .str way, .int n, .non] H4 QQ E0 := fun way due H4 QQ f4 hway hro hq =>
      ⟨s, A, b, rs, ds, n, way, due, rfl, hs3.fr f4 (by simp), B, ok, hlen, f4.tab (f03.tab hT), hway, hro, hq⟩
    have fin : ∀ (H4 H5 : Hp), Fr (lwT K) [] H3 H4 [] → Fr (lwT K) [] H4 H5 [] → Q (.bl true) H5 := fun H4 H5 f4 f5 => q H5 (f03.trans ((f4.trans f5).up (by simp))) (hP3.fr (f4.trans f5) (by simp))
    have ew : ∃ (j : Nat) (way : Str), r3 = j ∧ (["step", "end", "drop", "left"] : List Str)[j]? = some way ∧ (way = "step" ∨ way = "end" ∨ way = "drop" ∨ way = "left") := by
      have : r3 = 0 ∨ r3 = 1 ∨ r3 = 2 ∨ r3 = 3 := by omega
      rcases this with rfl | rfl | rfl | rfl
      · exact ⟨0, "step", rfl, rfl, .inl rfl⟩
      · exact ⟨1, "end", rfl, rfl, .inr (.inl rfl)⟩
      · exact ⟨2, "drop", rfl, rfl, .inr (.inr (.inl rfl))⟩
      · exact ⟨3, "left", rfl, rfl, .inr (.inr (.inr rfl))⟩
    obtain ⟨j, way, rfl, ej, hway⟩ := ew
    refine s_ixL (v := .str way) (SqL.of hl3) (atI_nat (show (List.map V.str (["step", "end", "drop", "left"] : List Str))[j]? = some (.str way) by rw [List.getElem?_map, ej]; rfl)) ?_
    walk_at "st"
    refine s_lenL (SqL.of hw3.wl) ?_
    walk_at "st"
    rw [List.length_map, hw.len]
    by_cases hn : n < ds.length
    · rw [decide_eq_true (show (n : Int) < (ds.length : Int) by omega)]
      walk_at "st"
      have ed : ds[n]? = some ds[n] := List.getElem?_eq_getElem hn
      generalize ds[n] = d at ed
      obtain ⟨p2, ep2⟩ := pair_of ed hw.len
      have hd3 := hw3.at_ n p2 d ep2 ed
      obtain ⟨kv, ha, _⟩ := id hd3.ex
      refine s_ixL (SqL.of hw3.wl) (atI_nat (v := .ref p2.1) (by rw [List.getElem?_map, ep2]; rfl)) ?_
      walk_at "st"
      refine s_DgetW ha rfl ?_
      walk_at "st"
      rw [opn_s]
      by_cases ho : d.word = .opn
      · rw [decide_eq_true ho]
        walk_at "st"
        refine s_ixL (SqL.of hw3.wl) (atI_nat (v := .ref p2.1) (by rw [List.getElem?_map, ep2]; rfl)) ?_
        walk_at "st"
        have oke := okd d (List.mem_of_getElem? ed)
        have tl := oke.tl
        refine ⟨_, b, p2.1, p2.2, d, rfl, f03.fz hv, hd3, oke.di, ?_⟩
        walk_at "st"
        by_cases hz : d.told.length = (dlOf b d.di).steps.length
        · refine s_newL (by simp) fun l4 H4 n4 => ?_
          walk_at "st"
          rw [decide_eq_true (show V.int (((dlOf b d.di).steps.length : Int) - (d.told.length : Int)) = V.int 0 by rw [show ((dlOf b d.di).steps.length : Int) - (d.told.length : Int) = 0 by omega])]
          refine s_intB ?_
          refine s_ixL (v := .str "NoStep") (SqL.of n4.at) atI_lit1 ?_
          walk_at "st"
          refine s_newL (by simp) fun l5 H5 n5 => ?_
          walk_at "st"
          rw [decide_eq_false (show ¬ (0 : Int) < ((dlOf b d.di).steps.length : Int) - (d.told.length : Int) by omega)]
          refine s_intB ?_
          refine s_ixL (v := .str "told") (SqL.of n5.at) atI_lit0 ?_
          walk_at "st"
          refine s_newL (by simp) fun l6 H6 n6 => ?_
          walk_at "st"
          refine s_newL (by simp) fun l7 H7 n7 => ?_
          refine ⟨s_tyL n7.at, ?_⟩
          walk_at "st"
          refine s_indexS (names := (["step", "end", "drop", "left"] : List Str)) (by decide +kernel) (SqL.of n7.at) rfl ej ?_
          have f37 : Fr (lwT K) [] H3 H7 [] := ((n4.fr.trans n5.fr).trans n6.fr).trans n7.fr
          have hj : j = 0 ∨ j = 1 ∨ j = 2 ∨ j = 3 := by omega
          rcases hj with rfl | rfl | rfl | rfl
          · cases ej
            refine s_ixL (v := .str "NoStep") (SqL.of (n7.old n6.at)) (atI_nat (j := 0) rfl) ?_
            walk_at "st"
            rw [decide_eq_false (show ¬ V.str ("NoStep" : Str) = V.str "told" from fun z => absurd (V.str.inj z) (by decide +kernel))]
            walk_at "st"
            refine told _ "NoStep" H7 _ f37 hway (.inr (.inr ⟨d, ed, ho, .inl ⟨rfl, hz, rfl⟩⟩)) fun H8 f8 => ?_
            walk_at "st"
            rw [decide_eq_true rfl]
            exact fin _ H8 f37 f8
          · cases ej
            refine s_ixL (v := .str "told") (SqL.of (n7.old n6.at)) (atI_nat (j := 1) rfl) ?_
            walk_at "st"
            rw [decide_eq_true rfl]
            walk_at "st"
            exact fin H7 H7 f37 .refl
          · cases ej
            refine s_ixL (v := .str "told") (SqL.of (n7.old n6.at)) (atI_nat (j := 2) rfl) ?_
            walk_at "st"
            rw [decide_eq_true rfl]
            walk_at "st"
            exact fin H7 H7 f37 .refl
          · cases ej
            refine s_ixL (v := .str "told") (SqL.of (n7.old n6.at)) (atI_nat (j := 3) rfl) ?_
            walk_at "st"
            rw [decide_eq_true rfl]
            walk_at "st"
            exact fin H7 H7 f37 .refl
        · refine s_newL (by simp) fun l4 H4 n4 => ?_
          walk_at "st"
          rw [decide_eq_false (show ¬ V.int (((dlOf b d.di).steps.length : Int) - (d.told.length : Int)) = V.int 0 from fun z => by have := V.int.inj z; omega)]
          refine s_intB ?_
          refine s_ixL (v := .str "told") (SqL.of n4.at) atI_lit0 ?_
          walk_at "st"
          refine s_newL (by simp) fun l5 H5 n5 => ?_
          walk_at "st"
          rw [decide_eq_true (show (0 : Int) < ((dlOf b d.di).steps.length : Int) - (d.told.length : Int) by omega)]
          refine s_intB ?_
          refine s_ixL (v := .str "NoEnd") (SqL.of n5.at) atI_lit1 ?_
          walk_at "st"
          refine s_newL (by simp) fun l6 H6 n6 => ?_
          walk_at "st"
          refine s_newL (by simp) fun l7 H7 n7 => ?_
          refine ⟨s_tyL n7.at, ?_⟩
          walk_at "st"
          refine s_indexS (names := (["step", "end", "drop", "left"] : List Str)) (by decide +kernel) (SqL.of n7.at) rfl ej ?_
          have f37 : Fr (lwT K) [] H3 H7 [] := ((n4.fr.trans n5.fr).trans n6.fr).trans n7.fr
          have hj : j = 0 ∨ j = 1 ∨ j = 2 ∨ j = 3 := by omega
          rcases hj with rfl | rfl | rfl | rfl
          · cases ej
            refine s_ixL (v := .str "told") (SqL.of (n7.old n6.at)) (atI_nat (j := 0) rfl) ?_
            walk_at "st"
            rw [decide_eq_true rfl]
            walk_at "st"
            exact fin H7 H7 f37 .refl
          · cases ej
            refine s_ixL (v := .str "NoEnd") (SqL.of (n7.old n6.at)) (atI_nat (j := 1) rfl) ?_
            walk_at "st"
            rw [decide_eq_false (show ¬ V.str ("NoEnd" : Str) = V.str "told" from fun z => absurd (V.str.inj z) (by decide +kernel))]
            walk_at "st"
            refine told _ "NoEnd" H7 _ f37 hway (.inr (.inr ⟨d, ed, ho, .inr ⟨rfl, by omega, rfl⟩⟩)) fun H8 f8 => ?_
            walk_at "st"
            rw [decide_eq_true rfl]
            exact fin _ H8 f37 f8
          · cases ej
            refine s_ixL (v := .str "told") (SqL.of (n7.old n6.at)) (atI_nat (j := 2) rfl) ?_
            walk_at "st"
            rw [decide_eq_true rfl]
            walk_at "st"
            exact fin H7 H7 f37 .refl
          · cases ej
            refine s_ixL (v := .str "told") (SqL.of (n7.old n6.at)) (atI_nat (j := 3) rfl) ?_
            walk_at "st"
            rw [decide_eq_true rfl]
            walk_at "st"
            exact fin H7 H7 f37 .refl
      · rw [decide_eq_false ho]
        walk_at "st"
        rw [decide_eq_false (show ¬ V.str ("Over" : Str) = V.str "told" from fun z => absurd (V.str.inj z) (by decide +kernel))]
        walk_at "st"
        refine told way "Over" H3 _ .refl hway (.inr (.inl ⟨d, ed, ho, rfl⟩)) fun H5 f5 => ?_
        walk_at "st"
        rw [decide_eq_true rfl]
        exact fin _ H5 .refl f5
    · rw [decide_eq_false (show ¬ (n : Int) < (ds.length : Int) by omega)]
      walk_at "st"
      rw [decide_eq_false (show ¬ V.str ("NoNumber" : Str) = V.str "told" from fun z => absurd (V.str.inj z) (by decide +kernel))]
      walk_at "st"
      refine told way "NoNumber" H3 _ .refl hway (.inl ⟨by omega, rfl⟩) fun H5 f5 => ?_
      walk_at "st"
      rw [decide_eq_true rfl]
      exact fin _ H5 .refl f5
end
end K28
/-! ## K28g6 -/
namespace K28
set_option maxHeartbeats 3900000
open L2 LamX PySem PySem.Spec PyProof.Rows
local macro_rules | `(tactic| walk_at "st") => `(tactic| repeat (first
  | with_reducible refine s_seq ?_ | with_reducible refine s_ret ?_ | with_reducible refine s_retN ?_ | with_reducible refine s_drop ?_ | with_reducible refine s_asg ?_ | with_reducible refine s_gn ?_ | with_reducible refine s_nextq ?_
  | ((with_reducible apply s_var); exact rfl) | with_reducible refine s_c ?_ | with_reducible refine s_op ?_ | with_reducible refine s_I0 ?_ | ((with_reducible refine s_eq ?_ ?_); exact rfl) | ((with_reducible refine s_ne ?_ ?_); exact rfl)
  | with_reducible refine s_test ?_ | with_reducible refine s_tB ?_ | with_reducible refine s_bl ?_ | with_reducible refine s_and ?_ | with_reducible refine s_or ?_ | with_reducible refine s_not ?_ | with_reducible refine s_andV ?_ | with_reducible refine s_orV ?_ | with_reducible refine s_notV ?_
  | with_reducible refine s_blP ?_ | with_reducible refine s_ifS ?_ | with_reducible refine s_nil ?_ | with_reducible refine s_cons ?_ | with_reducible refine s_cb ?_ | with_reducible refine s_call ?_ | with_reducible refine s_tup ?_ | with_reducible refine s_lst ?_
  | with_reducible refine s_isN ?_ | with_reducible refine s_notN ?_ | with_reducible refine s_un ?_ | with_reducible refine s_U ?_ | with_reducible refine s_fld ?_ | with_reducible refine s_put ?_ | with_reducible refine s_meth ?_ | with_reducible refine s_gc ?_ | with_reducible refine s_g0 ?_
  | with_reducible refine s_dz ?_ | with_reducible refine s_make ?_ | with_reducible refine s_m1 ?_ | with_reducible refine s_chain ?_ | with_reducible refine s_iZ ?_ | with_reducible refine s_dput ?_ | with_reducible refine s_dget ?_ | with_reducible refine s_din ?_ | with_reducible refine s_lc ?_ | with_reducible refine s_for ?_ | with_reducible refine s_iL ?_ | with_reducible refine s_iE ?_ | with_reducible refine s_iR1 ?_ | with_reducible refine s_iR2 ?_ | with_reducible refine s_yes ?_
  | with_reducible refine s_frz ?_ | with_reducible refine s_bm ?_ | with_reducible refine s_bm0 ?_ | with_reducible refine s_iff ?_ | with_reducible refine s_ift ?_ | with_reducible refine s_ifnt ?_ | with_reducible refine s_ifnf ?_
  | with_reducible refine s_iT ?_ | with_reducible refine s_iS ?_ | with_reducible refine s_sl ?_ | with_reducible refine s_npart ?_ | with_reducible refine s_part ?_ | with_reducible refine s_PrtR ?_ | with_reducible refine s_pp0 ?_ | with_reducible refine s_pp ?_ | with_reducible refine s_sub ?_ | with_reducible refine s_callS ?_))
section
variable {P : Program} {w : World} {K : PySem.W.Frag} {mg : Str → Option Value} {base : Heap} {TT : List (Addr × Str)}
/-! ### the Stepper stands as the world -/
theorem CX0n {X : Cx} : ∀ (H : Hp) (s : Shared) (e : Value) (s' : Shared), ¬ L2.CX X.prog X.w X.stack H s E0 e s' := fun _ _ _ _ h => by
  obtain ⟨_, _, _, _, _, _, _, _, _, _, _, _, no⟩ := h
  exact no.elim
theorem s_lenO {C : Addr} {sp : Sp} {H : Hp} {Q : VK} {a dx : Addr} {fs : List (Str × V)} {m : Str} {g : V → Prop} (h : H a = some (.ins C dx fs)) (l : fs.lookup m = none) (q : sp [.ref a] H (fun v H' => g v ∧ Q v H') E0) : rOwn1 C m sp g [.ref a] H Q := ⟨a, dx, fs, rfl, h, l, q⟩
theorem sc__law_stands_so : FnScope ["_law_stepper", "_law_book_here", "_law_world", "_law_rows", "_law_span", "_law_key", "_law_number", "_law_deal"] ["_law_stepper", "_law_book_here", "_law_world", "_law_rows", "_law_span"] (defScope s__law_stands_so) := ⟨rfl, rfl, rfl, by decide +kernel, rfl, by decide +kernel, by decide +kernel⟩
def sp__law_stands_so (K : PySem.W.Frag) : Sp := fun vs H Q E => ∃ (s w l : Addr) (v : V) (A : SA) (ps : List (Addr × Addr)) (b : Bk) (rs : List Row) (ds : List D), vs = [.ref s, v, .ref w, .ref l, .int 3] ∧ Fz H v (bkD b) ∧ StAt K H b s A rs ds ∧ WdAt H w ps ds ∧ LsF H l (rs.map (rwD b)) ∧ BkOk b ∧ Ok b rs ds ∧ rs.length < 1000 ∧ Tabs (lwT K) H ∧
  ∀ H', Fr (lwT K) [] H H' [] → Q (.bl true) H'
theorem k__law_stands_so {fd : FuncData} (T : Tx K mg) (F : FunD K "_law_stands_so" "_law_stands_so" (defArgs s__law_stands_so) (defBody s__law_stands_so) (defScope s__law_stands_so) [] [] (He.ga K "_law_stands_so") fd) (h_Stepper_len : Cn P w K mg base 1 (He.ma K (He.ga K "Stepper") "__len__") ["self"] (sp_Stepper_len K)) (h_Stepper_str : Cn P w K mg base 1 (He.ma K (He.ga K "Stepper") "__str__") ["self"] (sp_Stepper_str K (lwT K)))
    (h__law_state_text : Cn P w K mg base 1 (He.ga K "_law_state_text") ["_law_world"] (sp__law_state_text (lwT K))) (h__law_same : CnG P w K mg base 1 (He.ga K "_law_same") ["_law_one", "_law_other"] (sp__law_same K)) (h_Stepper_rows : Cn P w K mg base 1 (He.ma K (He.ga K "Stepper") "rows") ["self"] (sp_Stepper_rows K (lwT K)))
    (h__law_some_keys : Cn P w K mg base 2 (He.ga K "_law_some_keys") ["_law_book_here", "_law_world", "_law_span"] (sp__law_some_keys (lwT K))) (h_Stepper_writer : Cn P w K mg base 5 (He.ma K (He.ga K "Stepper") "writer") ["self", "key"] (sp_Stepper_writer K)) (h__law_last : Cn P w K mg base 2 (He.ga K "_law_last") ["_law_world", "_law_key", "_law_row"] (sp__law_last (lwT K)))
    (h_Stepper_state : Cn P w K mg base 2 (He.ma K (He.ga K "Stepper") "state") ["self", "number"] (sp_Stepper_state K)) (h_Stepper_left : Cn P w K mg base 3 (He.ma K (He.ga K "Stepper") "left") ["self", "number"] (sp_Stepper_left K)) (h__law_left : Cn P w K mg base 1 (He.ga K "_law_left") ["_law_book_here", "_law_deal"] sp__law_left) :
    CnG P w K mg base 6 (He.ga K "_law_stands_so") ["_law_stepper", "_law_book_here", "_law_world", "_law_rows", "_law_span"] (sp__law_stands_so K) := by
  obtain ⟨fdl, F_len, b_len⟩ := h_Stepper_len.ex
  obtain ⟨fds, F_str, b_str⟩ := h_Stepper_str.ex
  refine cnG_of F sc__law_stands_so (fun vs H Q E h => ?_) (fun _ _ _ _ _ _ us hl => match us, hl with | [_, _, _, _, _], _ => rfl) fun cdv A' outer s' H vs Q E hgd hr h => ?_
  · obtain ⟨s, w, l, v, A, ps, b, rs, ds, rfl, _⟩ := h
    rfl
  · obtain ⟨s, w, l, v, A, ps, b, rs, ds, rfl, hv, hs, hw, ⟨ls, hl, fl⟩, B, ok, hlen, hT, q⟩ := h
    obtain ⟨h40, okd⟩ := ok.inv B
    have llen := fl.length
    rw [List.length_map] at llen
    have rsm := rws_sml B (ok.rows B) (Nat.le_of_lt hlen)
    refine ⟨_, PSs.nox (pss_cons (ps_if (PW.pt (pw_or (pt_cmpR op_ne (pe_callB (call_lenO T.mS___len__ F_len b_len (hr.mono (by decide)) CX0n) rfl T.f_len (by decide +kernel) (pa_cons (pv 0) pa_nil)) (pe_callB call_lenQ rfl T.f_len (by decide +kernel) (pa_cons (pv 2) pa_nil)) (nomark _)) (pw_or1 (pt_cmpR op_ne (pe_callTy (call_strO T.mS___str__ F_str b_str (hr.mono (by decide)) CX0n) rfl T.f_str (by decide +kernel) (pa_cons (pv 0) pa_nil)) (pe_cn h__law_state_text (hr.mono (by decide)) rfl T.g__law_state_text passL (pa_cons (pv 2) pa_nil)) (nomark _))))) (pss_one (ps_ret pe_bl)) pss_nil) (pss_cons (ps_if (pt_not (pt_val (pe_cnG h__law_same hgd (hr.mono (by decide)) rfl T.g__law_same passL (pa_cons (pe_cm0 T.cS T.mS_rows h_Stepper_rows (pv 0) (hr.mono (by decide)) passL) (pa_cons (pv 3) pa_nil))))) (pss_one (ps_ret pe_bl)) pss_nil) (pss_cons (ps_for PassesOwn.never rfl (pi_list (pe_cn h__law_some_keys (hr.mono (by decide)) rfl T.g__law_some_keys passL (pa_cons (pv 1) (pa_cons (pv 2) (pa_cons (pv 4) pa_nil))))) (pg_name (i := 5) sc__law_stands_so.nd rfl (by first | exact Or.inl rfl | exact Or.inr rfl)) (pss_one (ps_if (pt_not (pt_val (pe_cnG h__law_same hgd (hr.mono (by decide)) rfl T.g__law_same passL (pa_cons (pe_cm T.cS T.mS_writer h_Stepper_writer (pv 0) (hr.mono (by decide)) passL (pa_cons (pv 5) pa_nil)) (pa_cons (pe_cn h__law_last (hr.mono (by decide)) rfl T.g__law_last passL (pa_cons (pv 2) (pa_cons (pv 5) (pa_cons (pe_callB call_lenQ rfl T.f_len (by decide +kernel) (pa_cons (pv 3) pa_nil)) pa_nil)))) pa_nil))))) (pss_one (ps_ret pe_bl)) pss_nil))) (pss_cons (ps_for PassesOwn.never rfl (pi_enum rfl T.f_enumerate (pa_cons (pv 2) pa_nil)) (pg_tup rfl (pgs_cons (pg_name (i := 6) sc__law_stands_so.nd rfl (by first | exact Or.inl rfl | exact Or.inr rfl)) (pgs_cons (pg_name (i := 7) sc__law_stands_so.nd rfl (by first | exact Or.inl rfl | exact Or.inr rfl)) pgs_nil))) (pss_cons (ps_if (pt_cmpR op_ne (pe_cm T.cS T.mS_state h_Stepper_state (pv 0) (hr.mono (by decide)) passL (pa_cons (pv 6) pa_nil)) (pe_dget (hu_of hr) (pv 7) pe_str fun _ _ => rfl) (nomark _)) (pss_one (ps_ret pe_bl)) pss_nil) (pss_one (ps_if (PW.pt (pw_and (pt_cmpR op_eq (pe_dget (hu_of hr) (pv 7) pe_str fun _ _ => rfl) pe_str (nomark _)) (pw_and1 (pt_not (pt_val (pe_cnG h__law_same hgd (hr.mono (by decide)) rfl T.g__law_same passL (pa_cons (pe_cm T.cS T.mS_left h_Stepper_left (pv 0) (hr.mono (by decide)) passL (pa_cons (pv 6) pa_nil)) (pa_cons (pe_cn h__law_left (hr.mono (by decide)) rfl T.g__law_left passL (pa_cons (pv 1) (pa_cons (pv 7) pa_nil))) pa_nil)))))))) (pss_one (ps_ret pe_bl)) pss_nil)))) (pss_one (ps_ret pe_bl)))))), ?_⟩
    try dsimp only [cxOf]
    walk_at "st"
    refine s_lenO hs.ins rfl ⟨s, A, b, rs, ds, rfl, hs, ⟨ds.length, rfl, by omega⟩, ?_⟩
    walk_at "st"
    refine s_lenL (SqL.of hw.wl) ?_
    walk_at "st"
    rw [List.length_map, hw.len, decide_eq_true rfl]
    walk_at "st"
    refine s_lenO hs.ins rfl ⟨s, A, b, rs, ds, rfl, hs, h40, fun H1 f1 => ⟨⟨_, rfl⟩, ?_⟩⟩
    walk_at "st"
    refine ⟨w, ps, ds, rfl, hw.fr f1 (by simp), h40, fun H2 f2 => ?_⟩
    walk_at "st"
    rw [decide_eq_true rfl]
    walk_at "st"
    have f02 : Fr (lwT K) [] H H2 [] := f1.trans f2
    have hs2 := hs.fr f02 (by simp)
    refine s_MethR hs2.ins rfl ?_
    walk_at "st"
    refine ⟨s, A, b, rs, ds, rfl, hs2, by omega, fun lr xs H3 f3 hlr fxr => ?_⟩
    walk_at "st"
    have f03 : Fr (lwT K) [] H H3 [] := f02.trans f3
    refine ⟨_, _, .list (rs.map (rwD b)), rfl, .lst (SqL.of hlr) fxr.dp, .lst (SqL.of (f03.get hl (by simp) trivial)) (f03.fza fl).dp, rsm.sh, rsm.nd, rsm.dp, rsm.ln, ?_⟩
    walk_at "st"
    refine ⟨v, b, w, ps, rs.length, ds, rfl, f03.fz hv, hw.fr f03 (by simp), B, okd, h40, fun lk kxs ks H4 f4 hlk fk hks => ?_⟩
    have f04 : Fr (lwT K) [] H H4 [] := f03.trans f4
    refine s_IlR (SqL.of hlk) ?_
    refine forJ (T := lwT K) (gives_list (xs := kxs)) (fun i σ H' => ∃ a1, σ = [some (.ref s), some v, some (.ref w), some (.ref l), some (.int 3), a1, none, none] ∧ Fr (lwT K) [] H4 H' []) ⟨_, rfl, .refl⟩ ?_ ?_ ?_
    · rintro i σ H' hi ⟨a1, rfl, f⟩
      exact f.sqL (SqL.of hlk) (by simp)
    · rintro i x σ H' H'' hi ⟨a1, rfl, f⟩ f0 hx
      obtain ⟨kd, ekd, fkd⟩ := fk.of hx
      rw [List.getElem?_map] at ekd
      obtain ⟨key, ek, rfl⟩ := Option.map_eq_some_iff.mp ekd
      have kok := hks key (List.mem_of_getElem? ek)
      have f5 : Fr (lwT K) [] H4 H'' [] := f.trans f0
      have g5 : Fr (lwT K) [] H H'' [] := f04.trans f5
      have hs5 := hs.fr g5 (by simp)
      walk_at "st"
      refine s_MethR hs5.ins rfl ?_
      walk_at "st"
      refine ⟨s, A, b, rs, ds, _, key, rfl, hs5, B, ok, f5.fz fkd, kok, g5.tab hT, fun H6 f6 => ?_⟩
      walk_at "st"
      have g6 : Fr (lwT K) [] H H6 [] := g5.trans f6
      refine s_lenL (SqL.of (g6.get hl (by simp) trivial)) ?_
      walk_at "st"
      rw [llen]
      refine ⟨w, ps, b, rs.length, ds, _, key, rs.length, rfl, hw.fr g6 (by simp), B, okd, (f5.trans f6).fz fkd, kok, fun H7 f7 => ?_⟩
      walk_at "st"
      have sm := last_sml (ds := ds) (key := key) (r := rs.length) h40
      refine ⟨_, _, opD (lastW ds key rs.length), rfl, (Fz.top H7 _).dp, (Fz.top H7 _).dp, sm.sh, sm.nd, sm.dp, sm.ln, ?_⟩
      walk_at "st"
      exact ⟨_, rfl, (f5.trans f6).trans f7⟩
    · rintro σ H' ⟨a1, rfl, f⟩
      have g0 : Fr (lwT K) [] H H' [] := f04.trans f
      walk_at "st"
      refine s_IeR (SqL.of (hw.fr g0 (by simp)).wl) ?_
      refine forJ (T := lwT K) (gives_enum (xs := ps.map fun p => V.ref p.1)) (fun i σ H' => ∃ a1 a2 a3, σ = [some (.ref s), some v, some (.ref w), some (.ref l), some (.int 3), a1, a2, a3] ∧ Fr (lwT K) [] H H' []) ⟨_, _, _, rfl, g0⟩ ?_ ?_ ?_
      · rintro i σ H' hi ⟨a1, a2, a3, rfl, f⟩
        exact SqL.of (hw.fr f (by simp)).wl
      · rintro i x σ H5 H6 hi ⟨a1, a2, a3, rfl, f⟩ f0 ⟨tp, xi, rfl, htp, hx⟩
        rw [List.getElem?_map] at hx
        obtain ⟨p, ep, rfl⟩ := Option.map_eq_some_iff.mp hx
        obtain ⟨d, ed⟩ := deal_of ep hw.len
        have g6 : Fr (lwT K) [] H H6 [] := f.trans f0
        have hs6 := hs.fr g6 (by simp)
        have hd6 := (hw.fr g6 (by simp)).at_ i p d ep ed
        obtain ⟨kv, ha, _⟩ := id hd6.ex
        have oke := okd d (List.mem_of_getElem? ed)
        refine s_gt (SqT.of htp) rfl ?_
        walk_at "st"
        refine s_MethR hs6.ins rfl ?_
        walk_at "st"
        refine ⟨s, A, b, rs, ds, i, d, rfl, hs6, ed, ?_⟩
        walk_at "st"
        refine s_DgetW ha rfl ?_
        walk_at "st"
        rw [decide_eq_true rfl]
        walk_at "st"
        refine s_DgetW ha rfl ?_
        walk_at "st"
        rw [opn_s]
        by_cases ho : d.word = .opn
        · rw [decide_eq_true ho]
          walk_at "st"
          refine s_MethR hs6.ins rfl ?_
          walk_at "st"
          refine ⟨s, A, b, rs, ds, i, rfl, hs6, fun d' ed' _ => ?_, fun z => absurd (List.getElem?_eq_some_iff.mp ed).1 (by omega), fun d' ed' z => absurd ho (by rw [ed] at ed'; cases ed'; exact z)⟩
          rw [ed] at ed'
          cases ed'
          walk_at "st"
          refine ⟨_, b, p.1, p.2, d, rfl, g6.fz hv, hd6, oke.di, ?_⟩
          walk_at "st"
          have tl := oke.tl
          have s8 := B.s8 _ (dlOf_mem oke.di).2
          have sm := int_sml (i := ((dlOf b d.di).steps.length : Int) - (d.told.length : Int)) (by omega) (by omega)
          refine ⟨_, _, _, rfl, .int _, .int _, sm.sh, sm.nd, sm.dp, sm.ln, ?_⟩
          walk_at "st"
          exact ⟨_, _, _, rfl, g6⟩
        · rw [decide_eq_false ho]
          walk_at "st"
          exact ⟨_, _, _, rfl, g6⟩
      · rintro σ H' ⟨a1, a2, a3, rfl, f⟩
        walk_at "st"
        exact q H' f
end
end K28
/-! ## K28g7 -/
namespace K28
set_option maxHeartbeats 3900000
open L2 LamX PySem PySem.Spec PyProof.Rows
local macro_rules | `(tactic| walk_at "st") => `(tactic| repeat (first
  | with_reducible refine s_seq ?_ | with_reducible refine s_ret ?_ | with_reducible refine s_retN ?_ | with_reducible refine s_drop ?_ | with_reducible refine s_asg ?_ | with_reducible refine s_gn ?_ | with_reducible refine s_nextq ?_
  | ((with_reducible apply s_var); exact rfl) | with_reducible refine s_c ?_ | with_reducible refine s_op ?_ | with_reducible refine s_I0 ?_ | ((with_reducible refine s_eq ?_ ?_); exact rfl) | ((with_reducible refine s_ne ?_ ?_); exact rfl)
  | with_reducible refine s_test ?_ | with_reducible refine s_tB ?_ | with_reducible refine s_bl ?_ | with_reducible refine s_and ?_ | with_reducible refine s_or ?_ | with_reducible refine s_not ?_ | with_reducible refine s_andV ?_ | with_reducible refine s_orV ?_ | with_reducible refine s_notV ?_
  | with_reducible refine s_blP ?_ | with_reducible refine s_ifS ?_ | with_reducible refine s_nil ?_ | with_reducible refine s_cons ?_ | with_reducible refine s_cb ?_ | with_reducible refine s_call ?_ | with_reducible refine s_tup ?_ | with_reducible refine s_lst ?_
  | with_reducible refine s_isN ?_ | with_reducible refine s_notN ?_ | with_reducible refine s_un ?_ | with_reducible refine s_U ?_ | with_reducible refine s_fld ?_ | with_reducible refine s_put ?_ | with_reducible refine s_meth ?_ | with_reducible refine s_gc ?_ | with_reducible refine s_g0 ?_
  | with_reducible refine s_dz ?_ | with_reducible refine s_make ?_ | with_reducible refine s_m1 ?_ | with_reducible refine s_chain ?_ | with_reducible refine s_iZ ?_ | with_reducible refine s_dput ?_ | with_reducible refine s_dget ?_ | with_reducible refine s_din ?_ | with_reducible refine s_lc ?_ | with_reducible refine s_for ?_ | with_reducible refine s_iL ?_ | with_reducible refine s_iE ?_ | with_reducible refine s_iR1 ?_ | with_reducible refine s_iR2 ?_ | with_reducible refine s_yes ?_
  | with_reducible refine s_frz ?_ | with_reducible refine s_bm ?_ | with_reducible refine s_bm0 ?_ | with_reducible refine s_iff ?_ | with_reducible refine s_ift ?_ | with_reducible refine s_ifnt ?_ | with_reducible refine s_ifnf ?_
  | with_reducible refine s_iT ?_ | with_reducible refine s_iS ?_ | with_reducible refine s_sl ?_ | with_reducible refine s_npart ?_ | with_reducible refine s_part ?_ | with_reducible refine s_PrtR ?_ | with_reducible refine s_pp0 ?_ | with_reducible refine s_pp ?_ | with_reducible refine s_sub ?_ | with_reducible refine s_callS ?_))
section
variable {P : Program} {w : World} {K : PySem.W.Frag} {mg : Str → Option Value} {base : Heap} {TT : List (Addr × Str)}
/-! ### the law -/
def FP (s : Addr) (A : SA) (w : Addr) (ps : List (Addr × Addr)) (l : Addr) : List Addr := l :: (A.fp s ++ wfp w ps)
structure Lw (K : PySem.W.Frag) (H : Hp) (b : Bk) (v : V) (s : Addr) (A : SA) (w : Addr) (ps : List (Addr × Addr)) (l : Addr) (rs : List Row) (ds : List D) : Prop where
  bv : Fz H v (bkD b)
  st : StAt K H b s A rs ds
  wd : WdAt H w ps ds
  ls : LsF H l (rs.map (rwD b))
  ok : Ok b rs ds
  d1 : ∀ c ∈ A.fp s, c ∉ wfp w ps
  d2 : l ∉ A.fp s
  d3 : l ∉ wfp w ps
section
variable {H H1 H2 H3 H' : Hp} {b : Bk} {v : V} {s s1 w w1 l p : Addr} {A A1 : SA} {ps ps1 : List (Addr × Addr)} {rs : List Row} {ds : List D} {r : Row} {T : List (Addr × Str)} {fp gp : List Addr}
theorem FP.ml : l ∈ FP s A w ps l := List.mem_cons_self
theorem FP.ms {c : Addr} (h : c ∈ A.fp s) : c ∈ FP s A w ps l := List.mem_cons_of_mem _ (List.mem_append_left _ h)
theorem FP.mw {c : Addr} (h : c ∈ wfp w ps) : c ∈ FP s A w ps l := List.mem_cons_of_mem _ (List.mem_append_right _ h)
theorem FP.cs {c : Addr} (h : c ∈ FP s A w ps l) : c = l ∨ c ∈ A.fp s ∨ c ∈ wfp w ps := (List.mem_cons.mp h).imp id List.mem_append.mp
theorem Lw.known (L : Lw K H b v s A w ps l rs ds) {c : Addr} (h : c ∈ FP s A w ps l) : H c ≠ none := by
  rcases FP.cs h with rfl | h | h
  · obtain ⟨xs, e, _⟩ := L.ls
    rw [e]
    exact fun z => nomatch z
  · obtain ⟨o, e, _⟩ := L.st.known c h
    rw [e]
    exact fun z => nomatch z
  · obtain ⟨o, e, _⟩ := L.wd.known c h
    rw [e]
    exact fun z => nomatch z
theorem Lw.fr (L : Lw K H b v s A w ps l rs ds) (f : Fr T fp H H' gp) (n : ∀ c ∈ FP s A w ps l, c ∉ fp) : Lw K H' b v s A w ps l rs ds :=
  ⟨f.fz L.bv, L.st.fr f fun c h => n c (FP.ms h), L.wd.fr f fun c h => n c (FP.mw h), L.ls.fr f (n l FP.ml), L.ok, L.d1, L.d2, L.d3⟩
theorem Lw.step (L : Lw K H b v s A w ps l rs ds) (can : Can b ds r) (f1 : Fr T (A.fp s) H H1 (SA.fp A1 s)) (st1 : StAt K H1 b s A1 (rs ++ [r]) (doD b ds rs.length r)) (f2 : Fr T (l :: wfp w ps) H1 H2 (l :: wfp w ps1)) (wd2 : WdAt H2 w ps1 (doD b ds rs.length r)) (ls2 : LsF H2 l ((rs ++ [r]).map (rwD b))) (nl : l ∉ wfp w ps1) :
    Lw K H2 b v s A1 w ps1 l (rs ++ [r]) (doD b ds rs.length r) ∧ Fr T (FP s A w ps l) H H2 (FP s A1 w ps1 l) := by
  have ap : ∀ c ∈ SA.fp A1 s, c ∉ l :: wfp w ps := fun c hc z => by
    rcases f1.new c hc with h | h
    · obtain rfl | z := List.mem_cons.mp z
      · exact L.d2 h
      · exact L.d1 c h z
    · obtain rfl | z := List.mem_cons.mp z
      · exact L.known FP.ml h
      · exact L.known (FP.mw z) h
  have st2 := st1.fr f2 ap
  refine ⟨⟨f2.fz (f1.fz L.bv), st2, wd2, ls2, L.ok.snoc can, fun c hc z => ?_, fun z => ap l z List.mem_cons_self, nl⟩, ?_⟩
  · rcases f2.new c (List.mem_cons_of_mem _ z) with h | h
    · exact ap c hc h
    · obtain ⟨o, e, _⟩ := st1.known c hc
      rw [e] at h
      cases h
  · have g1 : Fr T (FP s A w ps l) H H1 (FP s A1 w ps l) := (f1.wide fun c h => FP.ms h).more fun c h => by
      rcases FP.cs h with rfl | h | h
      · exact .inr (.inl FP.ml)
      · exact .inl h
      · exact .inr (.inl (FP.mw h))
    have g2 : Fr T (FP s A1 w ps l) H1 H2 (FP s A1 w ps1 l) := (f2.wide fun c h => (List.mem_cons.mp h).elim (fun z => z ▸ FP.ml) FP.mw).more fun c h => by
      rcases FP.cs h with rfl | h | h
      · exact .inl List.mem_cons_self
      · exact .inr (.inl (FP.ms h))
      · exact .inl (List.mem_cons_of_mem _ h)
    exact g1.trans g2
def CanAll (b : Bk) : List D → Nat → List Row → Prop
  | _, _, [] => True
  | ds, k, r :: rws => Can b ds r ∧ CanAll b (doD b ds k r) (k + 1) rws
theorem canAll_rep {n : Nat} : ∀ (m k : Nat) (ds : List D) (d : D), ds[n]? = some d → d.word = .opn → d.told.length + m ≤ (dlOf b d.di).steps.length → CanAll b ds k (List.replicate m (.stp n))
  | 0, _, _, _, _, _, _ => trivial
  | m + 1, k, ds, d, e, hw, hl => by
    refine ⟨⟨d, e, hw, by omega⟩, ?_⟩
    exact canAll_rep m (k + 1) _ _ (atN_at e) hw (by simp only [List.length_append, List.length_singleton]; omega)
theorem NextOk.all {rws : List Row} {k : Nat} (h : NextOk b ds rws) : CanAll b ds k rws := by
  rcases h with rfl | ⟨r, rfl, c, _⟩ | ⟨n, d, m, rfl, _, _, e, hw, hl⟩
  · trivial
  · exact ⟨c, trivial⟩
  · exact canAll_rep m k ds d e hw hl
theorem NextOk.len {rws : List Row} (h : NextOk b ds rws) : rws.length ≤ 5 := by
  rcases h with rfl | ⟨r, rfl, c, _⟩ | ⟨n, d, m, rfl, _, h5, _⟩
  · simp
  · simp
  · rw [List.length_replicate]
    exact h5
theorem ret_sml (B : BkOk b) (ok : Ok b rs ds) (can : Can b ds r) : Sml (retD b ds r) := by
  obtain ⟨h40, okd⟩ := ok.inv B
  cases r with
  | beg di ks => exact int_sml (by omega) (by omega)
  | stp n =>
    obtain ⟨d, e, hw, hl⟩ := can
    show Sml (match ds[n]? with
      | some d => tlD (stepOf b ds n d)
      | none => .none)
    rw [e]
    have := (List.getElem?_eq_some_iff.mp e).1
    exact told_sml B (okd d (List.mem_of_getElem? e)) h40 (by omega) hl
  | fin n =>
    obtain ⟨d, e, hw, hl⟩ := can
    show Sml (match ds[n]? with
      | some d => .bool (!isOff ds d)
      | none => .none)
    rw [e]
    exact (pt_bool _).sml (by decide) (by simp [PyData.depth])
  | drp n => exact pt_none.sml (by decide) (by simp [retD, PyData.depth])
end
theorem s_minA {H : Hp} {Q : VK} {i j : Int} (q : ∀ m, m ≤ i → m ≤ j → (m = i ∨ m = j) → Q (.int m) H) : rMinQ [.int i, .int j] H Q := by
  refine ⟨i, j, rfl, ?_⟩
  split
  · exact q j (by omega) (Int.le_refl _) (.inr rfl)
  · exact q i (Int.le_refl _) (by omega) (.inl rfl)
theorem sc_law : FnScope ["_law_script", "_law_book_here", "_law_stepper", "_law_world", "_law_rows", "_law_k", "_law_pool_here", "_law_way", "_law_some_here", "_law_row"] ["_law_script"] (defScope s_law) := ⟨rfl, rfl, rfl, by decide +kernel, rfl, by decide +kernel, by decide +kernel⟩
def sp_law (K : PySem.W.Frag) : Sp := fun vs H Q E => ∃ (sc : Addr) (ns : List Int), vs = [.ref sc] ∧ SqL K H sc (ns.map V.int) ∧ Tabs (lwT K) H ∧ ∀ H', Fr (lwT K) [] H H' [] → Q (.bl true) H'
theorem k_law {fd : FuncData} (T : Tx K mg) (F : FunD K "law" "law" (defArgs s_law) (defBody s_law) (defScope s_law) [] [] (He.ga K "law") fd) (h__law_pool : Cn P w K mg base 1 (He.ga K "_law_pool") ["_law_script", "_law_k"] (sp__law_pool K (lwT K))) (h__law_book : Cn P w K mg base 3 (He.ga K "_law_book") ["_law_pool_here", "_law_most_kinds", "_law_most_dealings"] (sp__law_book (lwT K))) (h__law_copied : Cn P w K mg base 1 (He.ga K "_law_copied") ["_law_book_here"] (sp__law_copied (lwT K)))
    (h_Stepper_init : Cn P w K mg base 3 (He.ma K (He.ga K "Stepper") "__init__") ["self", "book"] (sp_Stepper_init K (lwT K))) (h__law_draw : Cn P w K mg base 1 (He.ga K "_law_draw") ["_law_pool_here", "_law_many"] (sp__law_draw (lwT K))) (h_Stepper_undo : Cn P w K mg base 2 (He.ma K (He.ga K "Stepper") "undo") ["self"] (sp_Stepper_undo K (lwT K)))
    (h__law_again : Cn P w K mg base 5 (He.ga K "_law_again") ["_law_book_here", "_law_rows"] (sp__law_again (lwT K))) (h_Stepper_twin : Cn P w K mg base 7 (He.ma K (He.ga K "Stepper") "twin") ["self"] (sp_Stepper_twin K)) (h__law_some : Cn P w K mg base 4 (He.ga K "_law_some") ["_law_pool_here", "_law_book_here", "_law_world"] (sp__law_some (lwT K)))
    (h__law_same : CnG P w K mg base 1 (He.ga K "_law_same") ["_law_one", "_law_other"] (sp__law_same K)) (h__law_doing : Cn P w K mg base 6 (He.ga K "_law_doing") ["_law_stepper", "_law_row"] (sp__law_doing K)) (h__law_do : Cn P w K mg base 4 (He.ga K "_law_do") ["_law_book_here", "_law_world", "_law_rows", "_law_row"] (sp__law_do (lwT K)))
    (h__law_refused : Cn P w K mg base 8 (He.ga K "_law_refused") ["_law_pool_here", "_law_book_here", "_law_stepper", "_law_world"] (sp__law_refused K)) (h__law_stands_so : CnG P w K mg base 6 (He.ga K "_law_stands_so") ["_law_stepper", "_law_book_here", "_law_world", "_law_rows", "_law_span"] (sp__law_stands_so K)) : CnG P w K mg base 9 (He.ga K "law") ["_law_script"] (sp_law K) := by
  refine cnG_of F sc_law (fun vs H Q E h => ?_) (fun _ _ _ _ _ _ us hl => match us, hl with | [_], _ => rfl) fun cdv A' outer s' H vs Q E hgd hr h => ?_
  · obtain ⟨sc, ns, rfl, _⟩ := h
    rfl
  · obtain ⟨sc, ns, rfl, hsc, hT, q⟩ := h
    refine ⟨_, PSs.nox (pss_cons (ps_set (i := 1) sc_law.nd rfl (by first | exact Or.inl rfl | exact Or.inr rfl) (pe_cn h__law_book (hr.mono (by decide)) rfl T.g__law_book passL (pa_cons (pe_cn h__law_pool (hr.mono (by decide)) rfl T.g__law_pool passL (pa_cons (pv 0) (pa_cons pe_int pa_nil))) (pa_cons pe_int (pa_cons pe_int pa_nil))))) (pss_cons (ps_set (i := 2) sc_law.nd rfl (by first | exact Or.inl rfl | exact Or.inr rfl) (pe_mk T.k_Stepper h_Stepper_init (hr.mono (by decide)) rfl T.g_Stepper passL (pa_cons (pe_cn h__law_copied (hr.mono (by decide)) rfl T.g__law_copied passL (pa_cons (pv 1) pa_nil)) pa_nil))) (pss_cons (ps_set (i := 3) sc_law.nd rfl (by first | exact Or.inl rfl | exact Or.inr rfl) (pe_lst pa_nil)) (pss_cons (ps_set (i := 4) sc_law.nd rfl (by first | exact Or.inl rfl | exact Or.inr rfl) (pe_lst pa_nil)) (pss_cons (ps_for PassesOwn.never rfl (pi_range2 rfl T.f_range (pa_cons pe_int (pa_cons (pe_callB (call_maxQ rfl) rfl T.f_max (by decide +kernel) (pa_cons pe_int (pa_cons (pe_callB (call_minQ rfl) rfl T.f_min (by decide +kernel) (pa_cons (pe_callB call_lenQ rfl T.f_len (by decide +kernel) (pa_cons (pv 0) pa_nil)) (pa_cons pe_int pa_nil))) pa_nil))) pa_nil))) (pg_name (i := 5) sc_law.nd rfl (by first | exact Or.inl rfl | exact Or.inr rfl)) (pss_cons (ps_set (i := 6) sc_law.nd rfl (by first | exact Or.inl rfl | exact Or.inr rfl) (pe_cn h__law_pool (hr.mono (by decide)) rfl T.g__law_pool passL (pa_cons (pv 0) (pa_cons (pv 5) pa_nil)))) (pss_cons (ps_set (i := 7) sc_law.nd rfl (by first | exact Or.inl rfl | exact Or.inr rfl) (pe_cn h__law_draw (hr.mono (by decide)) rfl T.g__law_draw passL (pa_cons (pv 6) (pa_cons pe_int pa_nil)))) (pss_cons (ps_set (i := 8) sc_law.nd rfl (by first | exact Or.inl rfl | exact Or.inr rfl) (pe_lst pa_nil)) (pss_cons (ps_if (PW.pt (pw_and (pt_cmpR op_eq (pv 7) pe_int (nomark _)) (pw_and1 (pt_cmpR (op_neD hr.units) (pv 4) (pe_lst pa_nil) (nomark _))))) (pss_cons (ps_expr (pe_cm0 T.cS T.mS_undo h_Stepper_undo (pv 2) (hr.mono (by decide)) passL)) (pss_cons (ps_expr (pe_bm0 PySem.F.plainAttrs_list PySem.F.slot_list_pop PySem.F.type_list_pop mt_pop (pv 4))) (pss_one (ps_set (i := 3) sc_law.nd rfl (by first | exact Or.inl rfl | exact Or.inr rfl) (pe_cn h__law_again (hr.mono (by decide)) rfl T.g__law_again passL (pa_cons (pv 1) (pa_cons (pv 4) pa_nil))))))) (pss_one (ps_if (pt_cmpR op_eq (pv 7) pe_int (nomark _)) (pss_one (ps_set (i := 2) sc_law.nd rfl (by first | exact Or.inl rfl | exact Or.inr rfl) (pe_cm0 T.cS T.mS_twin h_Stepper_twin (pv 2) (hr.mono (by decide)) passL))) (pss_one (ps_set (i := 8) sc_law.nd rfl (by first | exact Or.inl rfl | exact Or.inr rfl) (pe_cn h__law_some (hr.mono (by decide)) rfl T.g__law_some passL (pa_cons (pv 6) (pa_cons (pv 1) (pa_cons (pv 3) pa_nil))))))))) (pss_cons (ps_for PassesOwn.never rfl (pi_list (pv 8)) (pg_name (i := 9) sc_law.nd rfl (by first | exact Or.inl rfl | exact Or.inr rfl)) (pss_one (ps_if (pt_not (pt_val (pe_cnG h__law_same hgd (hr.mono (by decide)) rfl T.g__law_same passL (pa_cons (pe_cn h__law_doing (hr.mono (by decide)) rfl T.g__law_doing passL (pa_cons (pv 2) (pa_cons (pv 9) pa_nil))) (pa_cons (pe_cn h__law_do (hr.mono (by decide)) rfl T.g__law_do passL (pa_cons (pv 1) (pa_cons (pv 3) (pa_cons (pv 4) (pa_cons (pv 9) pa_nil))))) pa_nil))))) (pss_one (ps_ret pe_bl)) pss_nil))) (pss_one (ps_if (PW.pt (pw_or (pt_not (pt_val (pe_cn h__law_refused (hr.mono (by decide)) rfl T.g__law_refused passL (pa_cons (pv 6) (pa_cons (pv 1) (pa_cons (pv 2) (pa_cons (pv 3) pa_nil))))))) (pw_or1 (pt_not (pt_val (pe_cnG h__law_stands_so hgd (hr.mono (by decide)) rfl T.g__law_stands_so passL (pa_cons (pv 2) (pa_cons (pv 1) (pa_cons (pv 3) (pa_cons (pv 4) (pa_cons pe_int pa_nil))))))))))) (pss_one (ps_ret pe_bl)) pss_nil)))))))) (pss_one (ps_ret pe_bl))))))), ?_⟩
    try dsimp only [cxOf]
    walk_at "st"
    refine ⟨sc, ns, 0, rfl, hsc, by decide, fun p0 H1 f1 hp0 hP1 => ?_⟩
    walk_at "st"
    refine ⟨p0, rfl, hP1, fun v b H2 f2 hP2 fv B => ?_⟩
    have f02 : Fr (lwT K) [] H H2 [] := f1.back hp0 f2
    walk_at "st"
    refine ⟨v, b, rfl, fv, B.d4, fun v2 H3 f3 fv2 => ?_⟩
    walk_at "st"
    refine s_MakeR fun x dx H4 f4 hx nx ndx => ?_
    have f4' : Fr (lwT K) [] H3 H4 [x] := f4
    refine ⟨x, dx, v2, b, rfl, hx, f4'.fz fv2, B, fun A H5 f5 hs5 => ⟨rfl, ?_⟩⟩
    have f35 : Fr (lwT K) [] H3 H5 (SA.fp A x) := f4'.trans f5
    walk_at "st"
    refine s_newL (by simp) fun wl H6 n6 => ?_
    walk_at "st"
    refine s_newL (by simp) fun l H7 n7 => ?_
    walk_at "st"
    have f57 : Fr (lwT K) (SA.fp A x) H5 H7 (l :: wl :: SA.fp A x) := n6.fr'.trans n7.fr'
    have G7 : Fr (lwT K) [] H H7 (FP x A wl [] l) := (((f02.trans f3).trans f35).trans f57).less fun c h => by
      rcases FP.cs h with rfl | h | h
      · simp
      · simp [h]
      · have : c = wl := by simpa [wfp] using h
        simp [this]
    have kn5 := hs5.known
    have nw6 : ∀ c ∈ SA.fp A x, c ≠ wl := fun c hc z => by
      obtain ⟨o, e, _⟩ := kn5 c hc
      rw [z, n6.no] at e; cases e
    have nl7 : ∀ c ∈ SA.fp A x, c ≠ l := fun c hc z => by
      obtain ⟨o, e, _⟩ := kn5 c hc
      have := n6.old e
      rw [z, n7.no] at this; cases this
    have L7 : Lw K H7 b v x A wl [] l [] [] :=
      ⟨(n6.fr.trans n7.fr : Fr (lwT K) [] H5 H7 []).fz (f35.fz (f3.fz fv)), hs5.fr (n6.fr.trans n7.fr : Fr (lwT K) [] H5 H7 []) (by simp), ⟨n7.old n6.at, rfl, fun j p d e => by simp at e, by simp [wfp]⟩, ⟨[], n7.at, .nil⟩, .nil, fun c hc z => by
        have : c = wl := by simpa [wfp] using z
        exact nw6 c hc this, fun z => nl7 l z rfl, fun z => by
        have : l = wl := by simpa [wfp] using z
        exact n7.ne n6.at this.symm⟩
    clear nw6 nl7 kn5
    refine s_lenL (G7.sqL hsc (by simp)) ?_
    walk_at "st"
    refine s_minA fun m m1 m2 _ => ?_
    walk_at "st"
    refine s_maxA fun n hn n1 n2 => ?_
    walk_at "st"
    have n63 : n ≤ 63 := by rcases hn with rfl | rfl <;> omega
    refine s_Ir2R (by decide) (by decide) (by omega) (by omega) ?_
    refine forJ (T := lwT K) (gives_range (lo := 1) (n := (n - 1).toNat)) (fun i σ H' => ∃ (s : Addr) (A : SA) (w : Addr) (ps : List (Addr × Addr)) (rs : List Row) (ds : List D) (a5 a6 a7 a8 a9 : _), σ = [some (.ref sc), some v, some (.ref s), some (.ref w), some (.ref l), a5, a6, a7, a8, a9] ∧ Fr (lwT K) [] H H' (FP s A w ps l) ∧ Lw K H' b v s A w ps l rs ds ∧ rs.length ≤ 5 * i)
      ⟨x, A, wl, [], [], [], _, _, _, _, _, rfl, G7, L7, Nat.le_refl _⟩ (fun _ _ _ _ _ => trivial) ?_ ?_
    · rintro i xi σ H' H'' hi ⟨s, A, w, ps, rs, ds, a5, a6, a7, a8, a9, rfl, G, L, hcnt⟩ f0 hxi
      obtain rfl := hxi
      have i62 : i < 62 := by omega
      have G0 : Fr (lwT K) [] H H'' (FP s A w ps l) := G.trans (f0.up (by simp))
      have L0 := L.fr f0 (by simp)
      obtain ⟨h40, okd⟩ := L.ok.inv B
      walk_at "st"
      refine ⟨sc, ns, i + 1, by rw [show (1 : Int) + ((i : Nat) : Int) = ((i + 1 : Nat) : Int) by omega], G0.sqL hsc (by simp), by omega, fun p H1 f1 hpN hP1 => ?_⟩
      have npF : p ∉ FP s A w ps l := fun z => L0.known z hpN
      walk_at "st"
      refine ⟨p, 10, rfl, hP1, by decide, by decide, fun way H2 w0 w1 f2 hP2 => ?_⟩
      have f02 : Fr (lwT K) [] H'' H2 [] := f1.back hpN f2
      walk_at "st"
      refine s_newL (by simp) fun l3 H3 n3 => ?_
      have f03 : Fr (lwT K) [] H'' H3 [] := f02.trans n3.fr
      have hP3 := hP2.fr (n3.fr (T := lwT K) (fp := [])) (by simp)
      have L3 := L0.fr f03 (by simp)
      have G3 : Fr (lwT K) [] H H3 (FP s A w ps l) := G0.trans (f03.up (by simp))
      have nl3 : l3 ∉ FP s A w ps l := fun z => L0.known z (f02.dom l3 n3.no)
      walk_at "st"
      have paths : (way = 0 ∧ rs ≠ []) ∨ (way = 0 ∧ rs = []) ∨ way = 1 ∨ (way ≠ 0 ∧ way ≠ 1) := by
        by_cases h0 : way = 0
        · by_cases hr : rs = []
          · exact .inr (.inl ⟨h0, hr⟩)
          · exact .inl ⟨h0, hr⟩
        · by_cases h1 : way = 1
          · exact .inr (.inr (.inl h1))
          · exact .inr (.inr (.inr ⟨h0, h1⟩))
      rcases paths with ⟨h0, hrs⟩ | ⟨h0, hrs⟩ | h1 | ⟨h0, h1⟩
      -- undone
      rw [decide_eq_true (show V.int way = V.int 0 by rw [h0])]
      walk_at "st"
      obtain ⟨lxs, hlx, flx⟩ := id L3.ls
      refine s_newL (by simp) fun l4 H4 n4 => ?_
      have L4' := L3.fr (n4.fr (T := lwT K) (fp := [])) (by simp)
      have hlx4 := n4.old hlx
      have flx4 := (n4.fr (T := lwT K) (fp := [])).fza flx
      refine s_neD (.lst (SqL.of hlx4) flx4.dp) (.lst (SqL.of n4.at) .nil) (rwDs_shaped B (L.ok.rows B)) nil_shaped ?_
      rw [eqv_nilL, List.isEmpty_map, show rs.isEmpty = false by cases rs with | nil => exact absurd rfl hrs | cons _ _ => rfl]
      walk_at "st"
      obtain ⟨rs0, r0, rfl⟩ : ∃ rs0 r0, rs = rs0 ++ [r0] := ⟨_, _, (List.dropLast_concat_getLast hrs).symm⟩
      obtain ⟨ds0, ok0, can0, rfl⟩ := L.ok.snoc_inv
      refine s_MethR L4'.st.ins rfl ?_
      walk_at "st"
      refine ⟨s, A, b, rs0, r0, ds0, rfl, L4'.st, B, ok0, can0, fun A5 H5 f45 st5 => ?_⟩
      walk_at "st"
      have hlx5 := f45.get hlx4 L.d2 trivial
      have flx5 := f45.fza flx4
      rw [List.map_append] at flx5
      obtain ⟨lv, elv, _, flx0⟩ := flx5.last
      refine ⟨s_tyL hlx5, ?_⟩
      refine s_popC hlx5 elv fun H6 c6 => ?_
      walk_at "st"
      have i6 := c6.imm hlx5 trivial
      have bv6 : Fz H6 v (bkD b) := (f45.fz L4'.bv).keep i6
      have ls6 : LsF H6 l (rs0.map (rwD b)) := ⟨_, c6.at, flx0.keep i6⟩
      have c6f : Fr (lwT K) [l] H5 H6 [l] := c6.fr hlx5 trivial (by simp)
      have ap5 : ∀ c ∈ SA.fp A5 s, c ≠ l := fun c hc z => by
        rcases f45.new c hc with h | h
        · exact L.d2 (z ▸ h)
        · rw [z, hlx4] at h; cases h
      have st6 := st5.fr c6f (by simpa using ap5)
      refine ⟨v, b, l, rs0, ds0, rfl, bv6, ls6, B, ok0, by rw [List.length_append] at hcnt; omega, fun w4 ps4 H7 f67 wd7 => ?_⟩
      walk_at "st"
      have st7 := st6.fr f67 (by simp)
      have dw : ∀ c, H6 c ≠ none → c ∉ wfp w4 ps4 := fun c hc z => by
        rcases f67.new c z with h | h
        · exact nomatch h
        · exact hc h
      have L4 : Lw K H7 b v s A5 w4 ps4 l rs0 ds0 := ⟨f67.fz bv6, st7, wd7, ls6.fr f67 (by simp), ok0, fun c hc => dw c (by
          obtain ⟨o, e, _⟩ := st6.known c hc
          rw [e]
          exact fun z => nomatch z), fun z => ap5 l z rfl, dw l (by rw [c6.at]; exact fun z => nomatch z)⟩
      have F47 : Fr (lwT K) (FP s A w ps l) H3 H7 (FP s A5 w4 ps4 l) := by
        have g1 : Fr (lwT K) (FP s A w ps l) H3 H5 (l :: SA.fp A5 s) := (n4.fr.trans (f45.wide fun c h => FP.ms h)).more fun c h => (List.mem_cons.mp h).elim (fun z => .inr (.inl (z ▸ FP.ml))) .inl
        have g2 : Fr (lwT K) (l :: SA.fp A5 s) H5 H6 (l :: SA.fp A5 s) := c6.fr hlx5 trivial List.mem_cons_self
        have g3 : Fr (lwT K) (l :: SA.fp A5 s) H6 H7 (FP s A5 w4 ps4 l) := (f67.wide fun c h => nomatch h).more fun c h => by
          rcases FP.cs h with rfl | h | h
          · exact .inr (.inl List.mem_cons_self)
          · exact .inr (.inl (List.mem_cons_of_mem _ h))
          · exact .inl h
        exact (g1.trans g2).trans g3
      have hP4 : PoolAt H7 p := hP3.fr F47 npF
      have hrw : RwsAt b H7 l3 [] := ⟨[], F47.get n3.at nl3 trivial, .nil⟩
      have hnx : NextOk b ds0 [] := .inl rfl
      have G4 := G3.trans F47
      have np4 : p ∉ FP s A5 w4 ps4 l := fun z => by
        rcases F47.new p z with h | h
        · exact npF h
        · exact hP3.some h
      have nl4 : l3 ∉ FP s A5 w4 ps4 l := fun z => by
        rcases F47.new l3 z with h | h
        · exact nl3 h
        · rw [n3.at] at h; cases h
      have hc4 : rs0.length ≤ 5 * i := by rw [List.length_append] at hcnt; omega
      clear f67 wd7 L4' st5 f45 st6 st7
      obtain ⟨rws, hrw, hnx⟩ : ∃ rws, RwsAt b H7 l3 rws ∧ NextOk b ds0 rws := ⟨_, hrw, hnx⟩
      obtain ⟨HX, rfl⟩ : ∃ x, x = H7 := ⟨_, rfl⟩
      obtain ⟨s4, rfl⟩ : ∃ x, x = s := ⟨_, rfl⟩
      obtain ⟨A4, rfl⟩ : ∃ x, x = A5 := ⟨_, rfl⟩
      obtain ⟨w5, rfl⟩ : ∃ x, x = w4 := ⟨_, rfl⟩
      obtain ⟨ps5, rfl⟩ : ∃ x, x = ps4 := ⟨_, rfl⟩
      obtain ⟨rs4, rfl⟩ : ∃ x, x = rs0 := ⟨_, rfl⟩
      obtain ⟨ds4, rfl⟩ : ∃ x, x = ds0 := ⟨_, rfl⟩
      obtain ⟨lr, rfl⟩ : ∃ x, x = l3 := ⟨_, rfl⟩
      rotate_left
      -- nothing to undo
      rw [decide_eq_true (show V.int way = V.int 0 by rw [h0])]
      walk_at "st"
      obtain ⟨lxs, hlx, flx⟩ := id L3.ls
      refine s_newL (by simp) fun l4 H5 n4 => ?_
      have L5 := L3.fr (n4.fr (T := lwT K) (fp := [])) (by simp)
      have hP5 := hP3.fr (n4.fr (T := lwT K) (fp := [])) (by simp)
      have f05 : Fr (lwT K) [] H'' H5 [] := f03.trans n4.fr
      refine s_neD (.lst (SqL.of (n4.old hlx)) ((n4.fr (T := lwT K) (fp := [])).fza flx).dp) (.lst (SqL.of n4.at) .nil) (rwDs_shaped B (L.ok.rows B)) nil_shaped ?_
      rw [eqv_nilL, List.isEmpty_map, show rs.isEmpty = true by rw [hrs]; rfl]
      walk_at "st"
      rw [decide_eq_false (show ¬ V.int way = V.int 1 from fun z => by have := V.int.inj z; omega)]
      walk_at "st"
      refine ⟨p, v, b, w, ps, rs, ds, rfl, hP5, L5.bv, L5.wd, B, L.ok, fun z => npF (FP.mw z), fun l9 rws9 H9 f59 hP4 hrw hnx hl9 => ?_⟩
      walk_at "st"
      have L4 := L5.fr f59 (fun c h z => by rw [List.mem_singleton] at z; rw [z] at h; exact npF h)
      have G4 : Fr (lwT K) [] H H9 (FP s A w ps l) := G0.trans ((f05.back hpN f59).up (by simp))
      have np4 := npF
      have nl4 : l9 ∉ FP s A w ps l := fun z => L5.known z hl9
      have hc4 : rs.length ≤ 5 * i := hcnt
      obtain ⟨rws, hrw, hnx⟩ : ∃ rws, RwsAt b H9 l9 rws ∧ NextOk b ds rws := ⟨_, hrw, hnx⟩
      obtain ⟨HX, rfl⟩ : ∃ x, x = H9 := ⟨_, rfl⟩
      obtain ⟨s4, rfl⟩ : ∃ x, x = s := ⟨_, rfl⟩
      obtain ⟨A4, rfl⟩ : ∃ x, x = A := ⟨_, rfl⟩
      obtain ⟨w5, rfl⟩ : ∃ x, x = w := ⟨_, rfl⟩
      obtain ⟨ps5, rfl⟩ : ∃ x, x = ps := ⟨_, rfl⟩
      obtain ⟨rs4, rfl⟩ : ∃ x, x = rs := ⟨_, rfl⟩
      obtain ⟨ds4, rfl⟩ : ∃ x, x = ds := ⟨_, rfl⟩
      obtain ⟨lr, rfl⟩ : ∃ x, x = l9 := ⟨_, rfl⟩
      rotate_left
      -- a twin
      rw [decide_eq_false (show ¬ V.int way = V.int 0 from fun z => by have := V.int.inj z; omega)]
      walk_at "st"
      rw [decide_eq_true (show V.int way = V.int 1 by rw [h1])]
      walk_at "st"
      refine s_MethR L3.st.ins rfl ?_
      walk_at "st"
      refine ⟨s, A, b, rs, ds, rfl, L3.st, B, L.ok, by omega, G3.tab hT, fun s5 A5 H9 f39 st9 => ?_⟩
      walk_at "st"
      have dn : ∀ c, H3 c ≠ none → c ∉ SA.fp A5 s5 := fun c hc z => by
        rcases f39.new c z with h | h
        · exact nomatch h
        · exact hc h
      have L4 : Lw K H9 b v s5 A5 w ps l rs ds := ⟨f39.fz L3.bv, st9, L3.wd.fr f39 (by simp), L3.ls.fr f39 (by simp), L.ok, fun c hc z => dn c (L3.known (FP.mw z)) hc, dn l (L3.known FP.ml), L.d3⟩
      have F39 : Fr (lwT K) (FP s A w ps l) H3 H9 (FP s5 A5 w ps l) := (f39.wide fun c h => nomatch h).more fun c h => by
        rcases FP.cs h with rfl | h | h
        · exact .inr (.inl FP.ml)
        · exact .inl h
        · exact .inr (.inl (FP.mw h))
      have hP4 : PoolAt H9 p := hP3.fr f39 (by simp)
      have hrw : RwsAt b H9 l3 [] := ⟨[], f39.get n3.at (by simp) trivial, .nil⟩
      have hnx : NextOk b ds [] := .inl rfl
      have G4 := G3.trans F39
      have np4 : p ∉ FP s5 A5 w ps l := fun z => by
        rcases F39.new p z with h | h
        · exact npF h
        · exact hP3.some h
      have nl4 : l3 ∉ FP s5 A5 w ps l := fun z => by
        rcases F39.new l3 z with h | h
        · exact nl3 h
        · rw [n3.at] at h; cases h
      have hc4 : rs.length ≤ 5 * i := hcnt
      obtain ⟨rws, hrw, hnx⟩ : ∃ rws, RwsAt b H9 l3 rws ∧ NextOk b ds rws := ⟨_, hrw, hnx⟩
      obtain ⟨HX, rfl⟩ : ∃ x, x = H9 := ⟨_, rfl⟩
      obtain ⟨s4, rfl⟩ : ∃ x, x = s5 := ⟨_, rfl⟩
      obtain ⟨A4, rfl⟩ : ∃ x, x = A5 := ⟨_, rfl⟩
      obtain ⟨w5, rfl⟩ : ∃ x, x = w := ⟨_, rfl⟩
      obtain ⟨ps5, rfl⟩ : ∃ x, x = ps := ⟨_, rfl⟩
      obtain ⟨rs4, rfl⟩ : ∃ x, x = rs := ⟨_, rfl⟩
      obtain ⟨ds4, rfl⟩ : ∃ x, x = ds := ⟨_, rfl⟩
      obtain ⟨lr, rfl⟩ : ∃ x, x = l3 := ⟨_, rfl⟩
      rotate_left
      -- some rows
      rw [decide_eq_false (show ¬ V.int way = V.int 0 from fun z => h0 (V.int.inj z))]
      walk_at "st"
      rw [decide_eq_false (show ¬ V.int way = V.int 1 from fun z => h1 (V.int.inj z))]
      have L5 := L3
      have hP5 := hP3
      have f05 := f03
      walk_at "st"
      refine ⟨p, v, b, w, ps, rs, ds, rfl, hP5, L5.bv, L5.wd, B, L.ok, fun z => npF (FP.mw z), fun l9 rws9 H9 f59 hP4 hrw hnx hl9 => ?_⟩
      walk_at "st"
      have L4 := L5.fr f59 (fun c h z => by rw [List.mem_singleton] at z; rw [z] at h; exact npF h)
      have G4 : Fr (lwT K) [] H H9 (FP s A w ps l) := G0.trans ((f05.back hpN f59).up (by simp))
      have np4 := npF
      have nl4 : l9 ∉ FP s A w ps l := fun z => L5.known z hl9
      have hc4 : rs.length ≤ 5 * i := hcnt
      obtain ⟨rws, hrw, hnx⟩ : ∃ rws, RwsAt b H9 l9 rws ∧ NextOk b ds rws := ⟨_, hrw, hnx⟩
      obtain ⟨HX, rfl⟩ : ∃ x, x = H9 := ⟨_, rfl⟩
      obtain ⟨s4, rfl⟩ : ∃ x, x = s := ⟨_, rfl⟩
      obtain ⟨A4, rfl⟩ : ∃ x, x = A := ⟨_, rfl⟩
      obtain ⟨w5, rfl⟩ : ∃ x, x = w := ⟨_, rfl⟩
      obtain ⟨ps5, rfl⟩ : ∃ x, x = ps := ⟨_, rfl⟩
      obtain ⟨rs4, rfl⟩ : ∃ x, x = rs := ⟨_, rfl⟩
      obtain ⟨ds4, rfl⟩ : ∃ x, x = ds := ⟨_, rfl⟩
      obtain ⟨lr, rfl⟩ : ∃ x, x = l9 := ⟨_, rfl⟩
      rotate_left
      iterate 4
        obtain ⟨xs, hxs, fxs⟩ := hrw
        have lxs := fxs.length
        rw [List.length_map] at lxs
        have l5 := hnx.len
        refine s_IlR (SqL.of hxs) ?_
        refine forJ (T := lwT K) (gives_list (xs := xs)) (fun j σ H' => ∃ (A6 : SA) (ps6 : List (Addr × Addr)) (ds6 : List D) (a9 : _), σ = [some (.ref sc), some v, some (.ref s4), some (.ref w5), some (.ref l), some (.int (1 + (i : Int))), some (.ref p), some (.int way), some (.ref lr), a9] ∧ Fr (lwT K) (FP s4 A4 w5 ps5 l) HX H' (FP s4 A6 w5 ps6 l) ∧ Lw K H' b v s4 A6 w5 ps6 l (rs4 ++ rws.take j) ds6 ∧ CanAll b ds6 (rs4.length + j) (rws.drop j))
          ⟨A4, ps5, ds4, _, rfl, .refl, by simpa using L4, by simpa using hnx.all⟩ ?_ ?_ ?_
        · rintro j σ H' hj ⟨A6, ps6, ds6, a9, rfl, f, _⟩
          exact SqL.of (f.get hxs nl4 trivial)
        · rintro j x σ H5 H6 hj ⟨A6, ps6, ds6, a9, rfl, f, L6, ca⟩ f0 hx
          obtain ⟨rd, erd, fr⟩ := fxs.of hx
          rw [List.getElem?_map] at erd
          obtain ⟨r, er, rfl⟩ := Option.map_eq_some_iff.mp erd
          have hjl := (List.getElem?_eq_some_iff.mp er).1
          have edr : rws.drop j = r :: rws.drop (j + 1) := by
            rw [List.drop_eq_getElem_cons hjl]
            congr 1
            exact (List.getElem?_eq_some_iff.mp er).2
          rw [edr] at ca
          obtain ⟨can, ca2⟩ := ca
          have L6' := L6.fr f0 (by simp)
          have f6 : Fr (lwT K) (FP s4 A4 w5 ps5 l) HX H6 (FP s4 A6 w5 ps6 l) := f.trans (f0.up (by simp))
          have elen : (rs4 ++ rws.take j).length = rs4.length + j := by rw [List.length_append, List.length_take]; omega
          walk_at "st"
          refine ⟨s4, A6, b, rs4 ++ rws.take j, ds6, r, x, rfl, L6'.st, B, L6.ok, can, f6.fz fr, by omega, (G4.trans f6).tab hT, fun v1 A7 H7 f67 st7 fv1 => ?_⟩
          walk_at "st"
          have ap : ∀ c ∈ wfp w5 ps6, c ∉ A6.fp s4 := fun c hc z => L6.d1 c z hc
          refine ⟨v, x, b, w5, l, ps6, rs4 ++ rws.take j, ds6, r, rfl, f67.fz L6'.bv, L6'.wd.fr f67 ap, L6'.ls.fr f67 L6.d2, f67.fz (f6.fz fr), B, L6.ok, can, by omega, L6.d3, fun v2 ps7 H8 f78 wd8 ls8 nl8 fv2 => ?_⟩
          walk_at "st"
          obtain ⟨L8, f68⟩ := L6'.step can f67 st7 f78 wd8 ls8 nl8
          have sm := ret_sml B L6.ok can
          refine ⟨_, _, _, rfl, (f78.fz fv1).dp, fv2.dp, sm.sh, sm.nd, sm.dp, sm.ln, ?_⟩
          walk_at "st"
          have etk : rs4 ++ rws.take (j + 1) = (rs4 ++ rws.take j) ++ [r] := by rw [List.take_succ, er, List.append_assoc]; rfl
          refine ⟨A7, ps7, _, _, rfl, f6.trans f68, by rw [etk]; exact L8, ?_⟩
          rw [elen]
          exact ca2
        · rintro σ H5 ⟨A6, ps6, ds6, a9, rfl, f, L6, _⟩
          rw [lxs, List.take_length] at L6
          have np6 : p ∉ FP s4 A6 w5 ps6 l := fun z => by
            rcases f.new p z with h | h
            · exact np4 h
            · exact hP4.some h
          have hP6 := hP4.fr f np4
          have lr6 : (rs4 ++ rws).length ≤ 5 * (i + 1) := by rw [List.length_append]; omega
          have G6 := G4.trans f
          walk_at "st"
          refine ⟨p, s4, w5, v, A6, ps6, b, rs4 ++ rws, ds6, rfl, hP6, L6.bv, L6.st, L6.wd, B, L6.ok, by omega, G6.tab hT, fun z => np6 (FP.ms z), fun z => np6 (FP.mw z), fun H8 f8 hP8 => ?_⟩
          walk_at "st"
          have L8 := L6.fr f8 (fun c h z => by rw [List.mem_singleton] at z; rw [z] at h; exact np6 h)
          have G8 : Fr (lwT K) [] H H8 (FP s4 A6 w5 ps6 l) := ((G6.less (fp2 := []) (by simp)).back (G0.dom p hpN) f8).more fun c hc => .inr ((G6.new c hc).elim (fun z => nomatch z) .inr)
          refine ⟨s4, w5, l, v, A6, ps6, b, rs4 ++ rws, ds6, rfl, L8.bv, L8.st, L8.wd, L8.ls, B, L8.ok, by omega, G8.tab hT, fun H9 f9 => ?_⟩
          walk_at "st"
          exact ⟨s4, A6, w5, ps6, _, ds6, _, _, _, _, _, rfl, G8.trans (f9.up (by simp)), L8.fr f9 (by simp), lr6⟩
    · rintro σ H' ⟨s, A, w, ps, rs, ds, a5, a6, a7, a8, a9, rfl, G, L, hcnt⟩
      walk_at "st"
      exact q H' (G.less (by simp))
end
end K28
/-! ## K28h2 -/
namespace K28
set_option maxHeartbeats 3900000
open L2 LamX PySem PySem.Spec PyProof.Rows
/-! ### what the head tells -/
section
variable {P : Program} {w : World} {K : PySem.W.Frag} {mg : Str → Option Value} {h base : Heap}
theorem exB_one (c : exB K = true) {x : Str} (hx : x ∈ exOwn) (g : mg x = some (.ref (He.ga K x))) : ExF K mg x (He.ga K x) := by
  obtain ⟨c1, _⟩ := He.ba c
  obtain ⟨h1, h2⟩ := He.ba (List.all_eq_true.mp c1 x hx)
  obtain ⟨h2, h3⟩ := He.ba h2
  obtain ⟨h3, h4⟩ := He.ba h3
  exact ⟨g, h1, h2, of_decide_eq_true h3, of_decide_eq_true h4⟩
theorem exB_two (c : exB K = true) {d : Str} (hd : d ∈ exFour) : ExcC K (He.ga K d) := by
  obtain ⟨_, c2⟩ := He.ba c
  obtain ⟨c2, _⟩ := He.ba c2
  obtain ⟨h, _⟩ := He.ba (List.all_eq_true.mp c2 d hd)
  obtain ⟨h1, h⟩ := He.ba h
  obtain ⟨h2, h⟩ := He.ba h
  obtain ⟨h3, h⟩ := He.ba h
  obtain ⟨h4, h⟩ := He.ba h
  obtain ⟨h5, h⟩ := He.ba h
  obtain ⟨h6, h⟩ := He.ba h
  obtain ⟨h7, h8⟩ := He.ba h
  exact ⟨He.eqO_ok h1, He.eqO_ok h2, of_decide_eq_true h3, h4, He.eqO_ok h5, He.eqO_ok h6, of_decide_eq_true h7, of_decide_eq_true h8⟩
theorem exB_three (c : exB K = true) {d x : Str} (hd : d ∈ exFour) (hx : x ∈ exTen) {b : Bool} (e : (decide (x = d) || decide (x = "StepError")) = b) : PySem.W.kitOne K (.ref (He.ga K d)) (.ref (He.ga K x)) = some b := by
  obtain ⟨_, c2⟩ := He.ba c
  obtain ⟨c2, _⟩ := He.ba c2
  obtain ⟨_, h⟩ := He.ba (List.all_eq_true.mp c2 d hd)
  have := of_decide_eq_true (List.all_eq_true.mp h x hx)
  rw [e] at this
  exact this
theorem exB_four (c : exB K = true) : He.ga K "Deal" ≠ He.ga K "Stepper" := by
  obtain ⟨_, c2⟩ := He.ba c
  obtain ⟨_, c3⟩ := He.ba c2
  exact of_decide_eq_true c3
theorem he_tx (X : K.In h) (G : h.Ns mainGlobals mg) (c : He.SaysX haF haD [] haT exB w h K) : Tx K mg where
  f_len := He.free_ok X G (c.t.d.fact 0 (f := .free "len") rfl)
  f_range := He.free_ok X G (c.t.d.fact 1 (f := .free "range") rfl)
  f_isinstance := He.free_ok X G (c.t.d.fact 2 (f := .free "isinstance") rfl)
  f_int := He.free_ok X G (c.t.d.fact 3 (f := .free "int") rfl)
  f_bool := He.free_ok X G (c.t.d.fact 4 (f := .free "bool") rfl)
  f_str := He.free_ok X G (c.t.d.fact 5 (f := .free "str") rfl)
  f_list := He.free_ok X G (c.t.d.fact 6 (f := .free "list") rfl)
  f_tuple := He.free_ok X G (c.t.d.fact 7 (f := .free "tuple") rfl)
  f_dict := He.free_ok X G (c.t.d.fact 8 (f := .free "dict") rfl)
  f_zip := He.free_ok X G (c.t.d.fact 9 (f := .free "zip") rfl)
  f_enumerate := He.free_ok X G (c.t.d.fact 10 (f := .free "enumerate") rfl)
  f_max := He.free_ok X G (c.t.d.fact 11 (f := .free "max") rfl)
  f_min := He.free_ok X G (c.t.d.fact 12 (f := .free "min") rfl)
  f_any := He.free_ok X G (c.t.d.fact 13 (f := .free "any") rfl)
  f_repr := He.free_ok X G (c.t.d.fact 14 (f := .free "repr") rfl)
  g_is_whole := He.glo_ok X G (c.t.d.fact 15 (f := .glo "is_whole") rfl)
  g_is_pair := He.glo_ok X G (c.t.d.fact 16 (f := .glo "is_pair") rfl)
  g_dealing_copied := He.glo_ok X G (c.t.d.fact 17 (f := .glo "dealing_copied") rfl)
  g_book_copied := He.glo_ok X G (c.t.d.fact 18 (f := .glo "book_copied") rfl)
  g_number_by := He.glo_ok X G (c.t.d.fact 19 (f := .glo "number_by") rfl)
  g_dealing_by := He.glo_ok X G (c.t.d.fact 20 (f := .glo "dealing_by") rfl)
  g_is_key_by := He.glo_ok X G (c.t.d.fact 21 (f := .glo "is_key_by") rfl)
  g_is_key := He.glo_ok X G (c.t.d.fact 22 (f := .glo "is_key") rfl)
  g_are_keys := He.glo_ok X G (c.t.d.fact 23 (f := .glo "are_keys") rfl)
  g__law_some_keys := He.glo_ok X G (c.t.d.fact 24 (f := .glo "_law_some_keys") rfl)
  g__law_draw := He.glo_ok X G (c.t.d.fact 25 (f := .glo "_law_draw") rfl)
  g__law_keys := He.glo_ok X G (c.t.d.fact 26 (f := .glo "_law_keys") rfl)
  g__law_left := He.glo_ok X G (c.t.d.fact 27 (f := .glo "_law_left") rfl)
  g__law_next := He.glo_ok X G (c.t.d.fact 28 (f := .glo "_law_next") rfl)
  g__law_greatest := He.glo_ok X G (c.t.d.fact 29 (f := .glo "_law_greatest") rfl)
  g__law_fresh := He.glo_ok X G (c.t.d.fact 30 (f := .glo "_law_fresh") rfl)
  g__law_wish := He.glo_ok X G (c.t.d.fact 31 (f := .glo "_law_wish") rfl)
  g__law_kind := He.glo_ok X G (c.t.d.fact 32 (f := .glo "_law_kind") rfl)
  g__law_told := He.glo_ok X G (c.t.d.fact 33 (f := .glo "_law_told") rfl)
  g__law_names := He.glo_ok X G (c.t.d.fact 34 (f := .glo "_law_names") rfl)
  g__law_marks := He.glo_ok X G (c.t.d.fact 35 (f := .glo "_law_marks") rfl)
  g__law_steps := He.glo_ok X G (c.t.d.fact 36 (f := .glo "_law_steps") rfl)
  g__law_book := He.glo_ok X G (c.t.d.fact 37 (f := .glo "_law_book") rfl)
  g__law_pool := He.glo_ok X G (c.t.d.fact 38 (f := .glo "_law_pool") rfl)
  g__law_copied := He.glo_ok X G (c.t.d.fact 39 (f := .glo "_law_copied") rfl)
  g__law_wrote := He.glo_ok X G (c.t.d.fact 40 (f := .glo "_law_wrote") rfl)
  g__law_last := He.glo_ok X G (c.t.d.fact 41 (f := .glo "_law_last") rfl)
  g__law_step := He.glo_ok X G (c.t.d.fact 42 (f := .glo "_law_step") rfl)
  g__law_is_off := He.glo_ok X G (c.t.d.fact 43 (f := .glo "_law_is_off") rfl)
  g__law_do := He.glo_ok X G (c.t.d.fact 44 (f := .glo "_law_do") rfl)
  g__law_again := He.glo_ok X G (c.t.d.fact 45 (f := .glo "_law_again") rfl)
  g__law_same := He.glo_ok X G (c.t.d.fact 46 (f := .glo "_law_same") rfl)
  g__law_doing := He.glo_ok X G (c.t.d.fact 47 (f := .glo "_law_doing") rfl)
  g__law_state_text := He.glo_ok X G (c.t.d.fact 48 (f := .glo "_law_state_text") rfl)
  g__law_all_keys := He.glo_ok X G (c.t.d.fact 49 (f := .glo "_law_all_keys") rfl)
  g__law_stands_so := He.glo_ok X G (c.t.d.fact 50 (f := .glo "_law_stands_so") rfl)
  g__law_some := He.glo_ok X G (c.t.d.fact 51 (f := .glo "_law_some") rfl)
  g__law_refused := He.glo_ok X G (c.t.d.fact 52 (f := .glo "_law_refused") rfl)
  g_law := He.glo_ok X G (c.t.d.fact 53 (f := .glo "law") rfl)
  g_Deal := He.glo_ok X G (c.t.d.fact 54 (f := .glo "Deal") rfl)
  g_Stepper := He.glo_ok X G (c.t.d.fact 55 (f := .glo "Stepper") rfl)
  g_SnapError := He.glo_ok X G (c.t.d.fact 56 (f := .glo "SnapError") rfl)
  g_BookError := He.glo_ok X G (c.t.d.fact 57 (f := .glo "BookError") rfl)
  g_StepError := He.glo_ok X G (c.t.d.fact 58 (f := .glo "StepError") rfl)
  g_NoKeys := He.glo_ok X G (c.t.d.fact 59 (f := .glo "NoKeys") rfl)
  g_NoKey := He.glo_ok X G (c.t.d.fact 60 (f := .glo "NoKey") rfl)
  g_NoDealing := He.glo_ok X G (c.t.d.fact 61 (f := .glo "NoDealing") rfl)
  g_NoNumber := He.glo_ok X G (c.t.d.fact 62 (f := .glo "NoNumber") rfl)
  g_Over := He.glo_ok X G (c.t.d.fact 63 (f := .glo "Over") rfl)
  g_NoStep := He.glo_ok X G (c.t.d.fact 64 (f := .glo "NoStep") rfl)
  g_NoEnd := He.glo_ok X G (c.t.d.fact 65 (f := .glo "NoEnd") rfl)
  g_NoDeed := He.glo_ok X G (c.t.d.fact 66 (f := .glo "NoDeed") rfl)
  g_TooMany := He.glo_ok X G (c.t.d.fact 67 (f := .glo "TooMany") rfl)
  gMB := He.int_ok X G (c.t.d.fact 68 (f := .int "MOST_BEGUN" 40) rfl)
  cD := He.cls_ok (c.t.d.fact 69 (f := .cls "Deal") rfl)
  nD_title := He.noat_ok (c.t.d.fact 70 (f := .noat "Deal" "title") rfl)
  nD_given := He.noat_ok (c.t.d.fact 71 (f := .noat "Deal" "given") rfl)
  nD_key_by := He.noat_ok (c.t.d.fact 72 (f := .noat "Deal" "key_by") rfl)
  nD_ahead := He.noat_ok (c.t.d.fact 73 (f := .noat "Deal" "ahead") rfl)
  nD_told := He.noat_ok (c.t.d.fact 74 (f := .noat "Deal" "told") rfl)
  nD_begun := He.noat_ok (c.t.d.fact 75 (f := .noat "Deal" "begun") rfl)
  nD_ended := He.noat_ok (c.t.d.fact 76 (f := .noat "Deal" "ended") rfl)
  nD_word := He.noat_ok (c.t.d.fact 77 (f := .noat "Deal" "word") rfl)
  mD_next_deed := He.meth_ok (c.t.d.fact 78 (f := .meth "Deal" "next_deed") rfl)
  mD_steps_left := He.meth_ok (c.t.d.fact 79 (f := .meth "Deal" "steps_left") rfl)
  mD_written := He.meth_ok (c.t.d.fact 80 (f := .meth "Deal" "written") rfl)
  mD_closed := He.meth_ok (c.t.d.fact 81 (f := .meth "Deal" "closed") rfl)
  mD_opened := He.meth_ok (c.t.d.fact 82 (f := .meth "Deal" "opened") rfl)
  k_Deal := He.mkr_ok (c.t.d.fact 83 (f := .mkr "Deal") rfl)
  cS := He.cls_ok (c.t.d.fact 84 (f := .cls "Stepper") rfl)
  nS_own_book := He.noat_ok (c.t.d.fact 85 (f := .noat "Stepper" "own_book") rfl)
  nS_deals := He.noat_ok (c.t.d.fact 86 (f := .noat "Stepper" "deals") rfl)
  nS_log := He.noat_ok (c.t.d.fact 87 (f := .noat "Stepper" "log") rfl)
  mS_begin := He.meth_ok (c.t.d.fact 88 (f := .meth "Stepper" "begin") rfl)
  mS_deal_by := He.meth_ok (c.t.d.fact 89 (f := .meth "Stepper" "deal_by") rfl)
  mS_open_deal := He.meth_ok (c.t.d.fact 90 (f := .meth "Stepper" "open_deal") rfl)
  mS_last_writer := He.meth_ok (c.t.d.fact 91 (f := .meth "Stepper" "last_writer") rfl)
  mS_step := He.meth_ok (c.t.d.fact 92 (f := .meth "Stepper" "step") rfl)
  mS_is_called_off := He.meth_ok (c.t.d.fact 93 (f := .meth "Stepper" "is_called_off") rfl)
  mS_look_at_end := He.meth_ok (c.t.d.fact 94 (f := .meth "Stepper" "look_at_end") rfl)
  mS_close := He.meth_ok (c.t.d.fact 95 (f := .meth "Stepper" "close") rfl)
  mS_shut := He.meth_ok (c.t.d.fact 96 (f := .meth "Stepper" "shut") rfl)
  mS_end := He.meth_ok (c.t.d.fact 97 (f := .meth "Stepper" "end") rfl)
  mS_drop := He.meth_ok (c.t.d.fact 98 (f := .meth "Stepper" "drop") rfl)
  mS_undo := He.meth_ok (c.t.d.fact 99 (f := .meth "Stepper" "undo") rfl)
  mS_state := He.meth_ok (c.t.d.fact 100 (f := .meth "Stepper" "state") rfl)
  mS_left := He.meth_ok (c.t.d.fact 101 (f := .meth "Stepper" "left") rfl)
  mS_writer := He.meth_ok (c.t.d.fact 102 (f := .meth "Stepper" "writer") rfl)
  mS_rows := He.meth_ok (c.t.d.fact 103 (f := .meth "Stepper" "rows") rfl)
  mS_done_again := He.meth_ok (c.t.d.fact 104 (f := .meth "Stepper" "done_again") rfl)
  mS_fresh := He.meth_ok (c.t.d.fact 105 (f := .meth "Stepper" "fresh") rfl)
  mS_twin := He.meth_ok (c.t.d.fact 106 (f := .meth "Stepper" "twin") rfl)
  mS___len__ := He.meth_ok (c.t.d.fact 107 (f := .meth "Stepper" "__len__") rfl)
  mS___str__ := He.meth_ok (c.t.d.fact 108 (f := .meth "Stepper" "__str__") rfl)
  k_Stepper := He.mkr_ok (c.t.d.fact 109 (f := .mkr "Stepper") rfl)
  x_SnapError := exB_one c.more (by decide +kernel) (He.glo_ok X G (c.t.d.fact 56 (f := .glo "SnapError") rfl))
  x_BookError := exB_one c.more (by decide +kernel) (He.glo_ok X G (c.t.d.fact 57 (f := .glo "BookError") rfl))
  x_StepError := exB_one c.more (by decide +kernel) (He.glo_ok X G (c.t.d.fact 58 (f := .glo "StepError") rfl))
  x_NoKeys := exB_one c.more (by decide +kernel) (He.glo_ok X G (c.t.d.fact 59 (f := .glo "NoKeys") rfl))
  x_NoKey := exB_one c.more (by decide +kernel) (He.glo_ok X G (c.t.d.fact 60 (f := .glo "NoKey") rfl))
  x_NoDealing := exB_one c.more (by decide +kernel) (He.glo_ok X G (c.t.d.fact 61 (f := .glo "NoDealing") rfl))
  x_NoNumber := exB_one c.more (by decide +kernel) (He.glo_ok X G (c.t.d.fact 62 (f := .glo "NoNumber") rfl))
  x_Over := exB_one c.more (by decide +kernel) (He.glo_ok X G (c.t.d.fact 63 (f := .glo "Over") rfl))
  x_NoStep := exB_one c.more (by decide +kernel) (He.glo_ok X G (c.t.d.fact 64 (f := .glo "NoStep") rfl))
  x_NoEnd := exB_one c.more (by decide +kernel) (He.glo_ok X G (c.t.d.fact 65 (f := .glo "NoEnd") rfl))
  x_NoDeed := exB_one c.more (by decide +kernel) (He.glo_ok X G (c.t.d.fact 66 (f := .glo "NoDeed") rfl))
  x_TooMany := exB_one c.more (by decide +kernel) (He.glo_ok X G (c.t.d.fact 67 (f := .glo "TooMany") rfl))
  ddS := exB_four c.more
theorem he_kx (c : He.SaysX haF haD [] haT exB w h K) : Kx K where
  e_NoNumber := exB_two c.more (by decide +kernel)
  m_NoNumber := He.exm_ok (c.t.d.fact 110 (f := .exm "NoNumber" "SnapError" true) rfl)
  q_NoNumber_NoDealing := exB_three c.more (by decide +kernel) (by decide +kernel) (by decide +kernel)
  q_NoNumber_NoKeys := exB_three c.more (by decide +kernel) (by decide +kernel) (by decide +kernel)
  q_NoNumber_TooMany := exB_three c.more (by decide +kernel) (by decide +kernel) (by decide +kernel)
  q_NoNumber_NoNumber := exB_three c.more (by decide +kernel) (by decide +kernel) (by decide +kernel)
  q_NoNumber_Over := exB_three c.more (by decide +kernel) (by decide +kernel) (by decide +kernel)
  q_NoNumber_NoStep := exB_three c.more (by decide +kernel) (by decide +kernel) (by decide +kernel)
  q_NoNumber_NoEnd := exB_three c.more (by decide +kernel) (by decide +kernel) (by decide +kernel)
  q_NoNumber_NoKey := exB_three c.more (by decide +kernel) (by decide +kernel) (by decide +kernel)
  q_NoNumber_NoDeed := exB_three c.more (by decide +kernel) (by decide +kernel) (by decide +kernel)
  q_NoNumber_BookError := exB_three c.more (by decide +kernel) (by decide +kernel) (by decide +kernel)
  q_NoNumber_StepError := exB_three c.more (by decide +kernel) (by decide +kernel) (by decide +kernel)
  e_Over := exB_two c.more (by decide +kernel)
  m_Over := He.exm_ok (c.t.d.fact 111 (f := .exm "Over" "SnapError" true) rfl)
  q_Over_NoDealing := exB_three c.more (by decide +kernel) (by decide +kernel) (by decide +kernel)
  q_Over_NoKeys := exB_three c.more (by decide +kernel) (by decide +kernel) (by decide +kernel)
  q_Over_TooMany := exB_three c.more (by decide +kernel) (by decide +kernel) (by decide +kernel)
  q_Over_NoNumber := exB_three c.more (by decide +kernel) (by decide +kernel) (by decide +kernel)
  q_Over_Over := exB_three c.more (by decide +kernel) (by decide +kernel) (by decide +kernel)
  q_Over_NoStep := exB_three c.more (by decide +kernel) (by decide +kernel) (by decide +kernel)
  q_Over_NoEnd := exB_three c.more (by decide +kernel) (by decide +kernel) (by decide +kernel)
  q_Over_NoKey := exB_three c.more (by decide +kernel) (by decide +kernel) (by decide +kernel)
  q_Over_NoDeed := exB_three c.more (by decide +kernel) (by decide +kernel) (by decide +kernel)
  q_Over_BookError := exB_three c.more (by decide +kernel) (by decide +kernel) (by decide +kernel)
  q_Over_StepError := exB_three c.more (by decide +kernel) (by decide +kernel) (by decide +kernel)
  e_NoStep := exB_two c.more (by decide +kernel)
  m_NoStep := He.exm_ok (c.t.d.fact 112 (f := .exm "NoStep" "SnapError" true) rfl)
  q_NoStep_NoDealing := exB_three c.more (by decide +kernel) (by decide +kernel) (by decide +kernel)
  q_NoStep_NoKeys := exB_three c.more (by decide +kernel) (by decide +kernel) (by decide +kernel)
  q_NoStep_TooMany := exB_three c.more (by decide +kernel) (by decide +kernel) (by decide +kernel)
  q_NoStep_NoNumber := exB_three c.more (by decide +kernel) (by decide +kernel) (by decide +kernel)
  q_NoStep_Over := exB_three c.more (by decide +kernel) (by decide +kernel) (by decide +kernel)
  q_NoStep_NoStep := exB_three c.more (by decide +kernel) (by decide +kernel) (by decide +kernel)
  q_NoStep_NoEnd := exB_three c.more (by decide +kernel) (by decide +kernel) (by decide +kernel)
  q_NoStep_NoKey := exB_three c.more (by decide +kernel) (by decide +kernel) (by decide +kernel)
  q_NoStep_NoDeed := exB_three c.more (by decide +kernel) (by decide +kernel) (by decide +kernel)
  q_NoStep_BookError := exB_three c.more (by decide +kernel) (by decide +kernel) (by decide +kernel)
  q_NoStep_StepError := exB_three c.more (by decide +kernel) (by decide +kernel) (by decide +kernel)
  e_NoEnd := exB_two c.more (by decide +kernel)
  m_NoEnd := He.exm_ok (c.t.d.fact 113 (f := .exm "NoEnd" "SnapError" true) rfl)
  q_NoEnd_NoDealing := exB_three c.more (by decide +kernel) (by decide +kernel) (by decide +kernel)
  q_NoEnd_NoKeys := exB_three c.more (by decide +kernel) (by decide +kernel) (by decide +kernel)
  q_NoEnd_TooMany := exB_three c.more (by decide +kernel) (by decide +kernel) (by decide +kernel)
  q_NoEnd_NoNumber := exB_three c.more (by decide +kernel) (by decide +kernel) (by decide +kernel)
  q_NoEnd_Over := exB_three c.more (by decide +kernel) (by decide +kernel) (by decide +kernel)
  q_NoEnd_NoStep := exB_three c.more (by decide +kernel) (by decide +kernel) (by decide +kernel)
  q_NoEnd_NoEnd := exB_three c.more (by decide +kernel) (by decide +kernel) (by decide +kernel)
  q_NoEnd_NoKey := exB_three c.more (by decide +kernel) (by decide +kernel) (by decide +kernel)
  q_NoEnd_NoDeed := exB_three c.more (by decide +kernel) (by decide +kernel) (by decide +kernel)
  q_NoEnd_BookError := exB_three c.more (by decide +kernel) (by decide +kernel) (by decide +kernel)
  q_NoEnd_StepError := exB_three c.more (by decide +kernel) (by decide +kernel) (by decide +kernel)
theorem he_law (X : K.In h) (G : h.Ns mainGlobals mg) (c : He.SaysX haF haD [] haT exB w h K) (tb : TabB base mg (lwC K) (lwP K)) : CnG P w K mg base 9 (He.ga K "law") ["_law_script"] (sp_law K) := by
  have T := he_tx X G c
  have XX := he_kx c
  obtain ⟨_, F_is_whole⟩ := c.t.d.def_ 0 (d := hd_is_whole) rfl
  have h_is_whole : Cn P w K mg base 1 (He.ga K "is_whole") ["thing"] sp_is_whole := k_is_whole T F_is_whole
  obtain ⟨_, F_is_pair⟩ := c.t.d.def_ 1 (d := hd_is_pair) rfl
  have h_is_pair : Cn P w K mg base 1 (He.ga K "is_pair") ["thing"] sp_is_pair := k_is_pair T F_is_pair
  obtain ⟨_, F_dealing_copied⟩ := c.t.d.def_ 2 (d := hd_dealing_copied) rfl
  have h_dealing_copied : Cn P w K mg base 1 (He.ga K "dealing_copied") ["dealing"] (sp_dealing_copied (lwT K)) := k_dealing_copied T F_dealing_copied
  obtain ⟨_, F_book_copied⟩ := c.t.d.def_ 3 (d := hd_book_copied) rfl
  have h_book_copied : Cn P w K mg base 2 (He.ga K "book_copied") ["book"] (sp_book_copied (lwT K)) := k_book_copied T F_book_copied h_dealing_copied
  obtain ⟨_, F_number_by⟩ := c.t.d.def_ 4 (d := hd_number_by) rfl
  have h_number_by : Cn P w K mg base 1 (He.ga K "number_by") ["book", "name"] (sp_number_by (lwT K)) := k_number_by T F_number_by
  obtain ⟨_, F_dealing_by⟩ := c.t.d.def_ 5 (d := hd_dealing_by) rfl
  have h_dealing_by : Cn P w K mg base 2 (He.ga K "dealing_by") ["book", "name"] (sp_dealing_by (lwT K)) := k_dealing_by T F_dealing_by h_dealing_copied h_number_by
  obtain ⟨_, F_is_key_by⟩ := c.t.d.def_ 6 (d := hd_is_key_by) rfl
  have h_is_key_by : Cn P w K mg base 2 (He.ga K "is_key_by") ["kinds", "thing"] sp_is_key_by := k_is_key_by T F_is_key_by h_is_pair h_is_whole
  obtain ⟨_, F_is_key⟩ := c.t.d.def_ 7 (d := hd_is_key) rfl
  have h_is_key : Cn P w K mg base 3 (He.ga K "is_key") ["book", "thing"] (sp_is_key (lwT K)) := k_is_key T F_is_key h_is_key_by
  obtain ⟨_, F_are_keys⟩ := c.t.d.def_ 8 (d := hd_are_keys) rfl
  have h_are_keys : Cn P w K mg base 3 (He.ga K "are_keys") ["book", "name", "thing"] (sp_are_keys (lwT K)) := k_are_keys T F_are_keys h_dealing_by h_is_key_by
  obtain ⟨_, F_Deal_init⟩ := c.t.d.def_ 9 (d := hd_Deal_init) rfl
  have h_Deal_init : Cn P w K mg base 1 (He.ma K (He.ga K "Deal") "__init__") ["self", "dealing", "keys", "row"] (sp_Deal_init K (lwT K)) := k_Deal_init T F_Deal_init
  obtain ⟨_, F_Deal_next_deed⟩ := c.t.d.def_ 10 (d := hd_Deal_next_deed) rfl
  have h_Deal_next_deed : Cn P w K mg base 1 (He.ma K (He.ga K "Deal") "next_deed") ["self"] (sp_Deal_next_deed K (lwT K)) := k_Deal_next_deed T F_Deal_next_deed
  obtain ⟨_, F_Deal_steps_left⟩ := c.t.d.def_ 11 (d := hd_Deal_steps_left) rfl
  have h_Deal_steps_left : Cn P w K mg base 1 (He.ma K (He.ga K "Deal") "steps_left") ["self"] (sp_Deal_steps_left K) := k_Deal_steps_left T F_Deal_steps_left
  obtain ⟨_, F_Deal_written⟩ := c.t.d.def_ 12 (d := hd_Deal_written) rfl
  have h_Deal_written : Cn P w K mg base 1 (He.ma K (He.ga K "Deal") "written") ["self"] (sp_Deal_written K (lwT K)) := k_Deal_written T F_Deal_written
  obtain ⟨_, F_Deal_closed⟩ := c.t.d.def_ 13 (d := hd_Deal_closed) rfl
  have h_Deal_closed : Cn P w K mg base 1 (He.ma K (He.ga K "Deal") "closed") ["self", "word", "row"] (sp_Deal_closed K (lwT K)) := k_Deal_closed T F_Deal_closed
  obtain ⟨_, F_Deal_opened⟩ := c.t.d.def_ 14 (d := hd_Deal_opened) rfl
  have h_Deal_opened : Cn P w K mg base 1 (He.ma K (He.ga K "Deal") "opened") ["self"] (sp_Deal_opened K (lwT K)) := k_Deal_opened T F_Deal_opened
  obtain ⟨_, F_Stepper_deal_by⟩ := c.t.d.def_ 17 (d := hd_Stepper_deal_by) rfl
  have h_Stepper_deal_by : Cn P w K mg base 1 (He.ma K (He.ga K "Stepper") "deal_by") ["self", "number"] (sp_Stepper_deal_by K) := k_Stepper_deal_by T F_Stepper_deal_by
  obtain ⟨_, F_Stepper_open_deal⟩ := c.t.d.def_ 18 (d := hd_Stepper_open_deal) rfl
  have h_Stepper_open_deal : Cn P w K mg base 2 (He.ma K (He.ga K "Stepper") "open_deal") ["self", "number"] (sp_Stepper_open_deal K) := k_Stepper_open_deal T F_Stepper_open_deal h_Stepper_deal_by
  obtain ⟨_, F_Stepper_state⟩ := c.t.d.def_ 28 (d := hd_Stepper_state) rfl
  have h_Stepper_state : Cn P w K mg base 2 (He.ma K (He.ga K "Stepper") "state") ["self", "number"] (sp_Stepper_state K) := k_Stepper_state T F_Stepper_state h_Stepper_deal_by
  obtain ⟨_, F_Stepper_left⟩ := c.t.d.def_ 29 (d := hd_Stepper_left) rfl
  have h_Stepper_left : Cn P w K mg base 3 (He.ma K (He.ga K "Stepper") "left") ["self", "number"] (sp_Stepper_left K) := k_Stepper_left T F_Stepper_left h_Stepper_open_deal h_Deal_steps_left
  obtain ⟨_, F_Stepper_look_at_end⟩ := c.t.d.def_ 22 (d := hd_Stepper_look_at_end) rfl
  have h_Stepper_look_at_end : Cn P w K mg base 3 (He.ma K (He.ga K "Stepper") "look_at_end") ["self", "number"] (sp_Stepper_look_at_end K) := k_Stepper_look_at_end T F_Stepper_look_at_end h_Stepper_open_deal h_Deal_steps_left
  obtain ⟨_, F_Stepper_len⟩ := c.t.d.def_ 35 (d := hd_Stepper_len) rfl
  have h_Stepper_len : Cn P w K mg base 1 (He.ma K (He.ga K "Stepper") "__len__") ["self"] (sp_Stepper_len K) := k_Stepper_len T F_Stepper_len
  obtain ⟨_, F_Stepper_str⟩ := c.t.d.def_ 36 (d := hd_Stepper_str) rfl
  have h_Stepper_str : Cn P w K mg base 1 (He.ma K (He.ga K "Stepper") "__str__") ["self"] (sp_Stepper_str K (lwT K)) := k_Stepper_str T F_Stepper_str
  obtain ⟨_, F_Stepper_init⟩ := c.t.d.def_ 15 (d := hd_Stepper_init) rfl
  have h_Stepper_init : Cn P w K mg base 3 (He.ma K (He.ga K "Stepper") "__init__") ["self", "book"] (sp_Stepper_init K (lwT K)) := k_Stepper_init T F_Stepper_init h_book_copied
  obtain ⟨_, F_Stepper_begin⟩ := c.t.d.def_ 16 (d := hd_Stepper_begin) rfl
  have h_Stepper_begin : Cn P w K mg base 4 (He.ma K (He.ga K "Stepper") "begin") ["self", "name", "keys"] (sp_Stepper_begin K (lwT K)) := k_Stepper_begin T F_Stepper_begin h_dealing_by h_are_keys h_Deal_init
  obtain ⟨_, F_Stepper_close⟩ := c.t.d.def_ 23 (d := hd_Stepper_close) rfl
  have h_Stepper_close : Cn P w K mg base 2 (He.ma K (He.ga K "Stepper") "close") ["self", "number", "stands"] (sp_Stepper_close K (lwT K)) := k_Stepper_close T F_Stepper_close h_Deal_closed
  obtain ⟨_, F_Stepper_shut⟩ := c.t.d.def_ 24 (d := hd_Stepper_shut) rfl
  have h_Stepper_shut : Cn P w K mg base 2 (He.ma K (He.ga K "Stepper") "shut") ["self", "number"] (sp_Stepper_shut K (lwT K)) := k_Stepper_shut T F_Stepper_shut h_Deal_closed
  obtain ⟨_, F_Stepper_is_called_off⟩ := c.t.d.def_ 21 (d := hd_Stepper_is_called_off) rfl
  have h_Stepper_is_called_off : Cn P w K mg base 2 (He.ma K (He.ga K "Stepper") "is_called_off") ["self", "number"] (sp_Stepper_is_called_off K (lwT K)) := k_Stepper_is_called_off T F_Stepper_is_called_off h_Deal_written
  obtain ⟨_, F_Stepper_last_writer⟩ := c.t.d.def_ 19 (d := hd_Stepper_last_writer) rfl
  have h_Stepper_last_writer : Cn P w K mg base 4 (He.ma K (He.ga K "Stepper") "last_writer") ["self", "key", "row"] (sp_Stepper_last_writer K) := k_Stepper_last_writer T tb F_Stepper_last_writer h_Deal_written
  obtain ⟨_, F_Stepper_step⟩ := c.t.d.def_ 20 (d := hd_Stepper_step) rfl
  have h_Stepper_step : Cn P w K mg base 5 (He.ma K (He.ga K "Stepper") "step") ["self", "number"] (sp_Stepper_step K) := k_Stepper_step T F_Stepper_step h_Stepper_open_deal h_Deal_steps_left h_Deal_next_deed h_Deal_written h_Stepper_last_writer
  obtain ⟨_, F_Stepper_writer⟩ := c.t.d.def_ 30 (d := hd_Stepper_writer) rfl
  have h_Stepper_writer : Cn P w K mg base 5 (He.ma K (He.ga K "Stepper") "writer") ["self", "key"] (sp_Stepper_writer K) := k_Stepper_writer T F_Stepper_writer h_is_key h_Stepper_last_writer
  obtain ⟨_, F_Stepper_end⟩ := c.t.d.def_ 25 (d := hd_Stepper_end) rfl
  have h_Stepper_end : Cn P w K mg base 4 (He.ma K (He.ga K "Stepper") "end") ["self", "number"] (sp_Stepper_end K (lwT K)) := k_Stepper_end T F_Stepper_end h_Stepper_look_at_end h_Stepper_close h_Stepper_is_called_off
  obtain ⟨_, F_Stepper_drop⟩ := c.t.d.def_ 26 (d := hd_Stepper_drop) rfl
  have h_Stepper_drop : Cn P w K mg base 3 (He.ma K (He.ga K "Stepper") "drop") ["self", "number"] (sp_Stepper_drop K (lwT K)) := k_Stepper_drop T F_Stepper_drop h_Stepper_open_deal h_Stepper_shut
  obtain ⟨_, F_Stepper_undo⟩ := c.t.d.def_ 27 (d := hd_Stepper_undo) rfl
  have h_Stepper_undo : Cn P w K mg base 2 (He.ma K (He.ga K "Stepper") "undo") ["self"] (sp_Stepper_undo K (lwT K)) := k_Stepper_undo T F_Stepper_undo h_Deal_opened
  obtain ⟨_, F_Stepper_rows⟩ := c.t.d.def_ 31 (d := hd_Stepper_rows) rfl
  have h_Stepper_rows : Cn P w K mg base 1 (He.ma K (He.ga K "Stepper") "rows") ["self"] (sp_Stepper_rows K (lwT K)) := k_Stepper_rows T F_Stepper_rows
  obtain ⟨_, F_Stepper_fresh⟩ := c.t.d.def_ 33 (d := hd_Stepper_fresh) rfl
  have h_Stepper_fresh : Cn P w K mg base 5 (He.ma K (He.ga K "Stepper") "fresh") ["self"] (sp_Stepper_fresh K (lwT K)) := k_Stepper_fresh T F_Stepper_fresh h_Stepper_init
  obtain ⟨_, F_Stepper_done_again⟩ := c.t.d.def_ 32 (d := hd_Stepper_done_again) rfl
  have h_Stepper_done_again : Cn P w K mg base 6 (He.ma K (He.ga K "Stepper") "done_again") ["self", "row"] (sp_Stepper_done_again K) := k_Stepper_done_again T F_Stepper_done_again h_Stepper_begin h_Stepper_step h_Stepper_close h_Stepper_is_called_off h_Stepper_shut
  obtain ⟨_, F_Stepper_twin⟩ := c.t.d.def_ 34 (d := hd_Stepper_twin) rfl
  have h_Stepper_twin : Cn P w K mg base 7 (He.ma K (He.ga K "Stepper") "twin") ["self"] (sp_Stepper_twin K) := k_Stepper_twin T F_Stepper_twin h_Stepper_fresh h_Stepper_done_again
  obtain ⟨_, F__law_draw⟩ := c.t.d.def_ 38 (d := hd__law_draw) rfl
  have h__law_draw : Cn P w K mg base 1 (He.ga K "_law_draw") ["_law_pool_here", "_law_many"] (sp__law_draw (lwT K)) := k__law_draw T F__law_draw
  obtain ⟨_, F__law_left⟩ := c.t.d.def_ 40 (d := hd__law_left) rfl
  have h__law_left : Cn P w K mg base 1 (He.ga K "_law_left") ["_law_book_here", "_law_deal"] sp__law_left := k__law_left T F__law_left
  obtain ⟨_, F__law_keys⟩ := c.t.d.def_ 39 (d := hd__law_keys) rfl
  have h__law_keys : Cn P w K mg base 2 (He.ga K "_law_keys") ["_law_pool_here", "_law_book_here", "_law_number", "_law_span"] (sp__law_keys (lwT K)) := k__law_keys T F__law_keys h__law_draw
  obtain ⟨_, F__law_wrote⟩ := c.t.d.def_ 53 (d := hd__law_wrote) rfl
  have h__law_wrote : Cn P w K mg base 1 (He.ga K "_law_wrote") ["_law_deal"] (sp__law_wrote (lwT K)) := k__law_wrote T F__law_wrote
  obtain ⟨_, F__law_last⟩ := c.t.d.def_ 54 (d := hd__law_last) rfl
  have h__law_last : Cn P w K mg base 2 (He.ga K "_law_last") ["_law_world", "_law_key", "_law_row"] (sp__law_last (lwT K)) := k__law_last T F__law_last h__law_wrote
  obtain ⟨_, F__law_is_off⟩ := c.t.d.def_ 56 (d := hd__law_is_off) rfl
  have h__law_is_off : Cn P w K mg base 2 (He.ga K "_law_is_off") ["_law_world", "_law_deal"] (sp__law_is_off (lwT K)) := k__law_is_off T F__law_is_off h__law_wrote
  obtain ⟨_, F__law_state_text⟩ := c.t.d.def_ 61 (d := hd__law_state_text) rfl
  have h__law_state_text : Cn P w K mg base 1 (He.ga K "_law_state_text") ["_law_world"] (sp__law_state_text (lwT K)) := k__law_state_text T F__law_state_text
  obtain ⟨_, F__law_step⟩ := c.t.d.def_ 55 (d := hd__law_step) rfl
  have h__law_step : Cn P w K mg base 3 (He.ga K "_law_step") ["_law_book_here", "_law_world", "_law_number"] (sp__law_step (lwT K)) := k__law_step T F__law_step h__law_wrote h__law_last
  obtain ⟨_, F__law_do⟩ := c.t.d.def_ 57 (d := hd__law_do) rfl
  have h__law_do : Cn P w K mg base 4 (He.ga K "_law_do") ["_law_book_here", "_law_world", "_law_rows", "_law_row"] (sp__law_do (lwT K)) := k__law_do T F__law_do h__law_step h__law_is_off
  obtain ⟨_, F__law_again⟩ := c.t.d.def_ 58 (d := hd__law_again) rfl
  have h__law_again : Cn P w K mg base 5 (He.ga K "_law_again") ["_law_book_here", "_law_rows"] (sp__law_again (lwT K)) := k__law_again T F__law_again h__law_do
  obtain ⟨_, F__law_copied⟩ := c.t.d.def_ 52 (d := hd__law_copied) rfl
  have h__law_copied : Cn P w K mg base 1 (He.ga K "_law_copied") ["_law_book_here"] (sp__law_copied (lwT K)) := k__law_copied T F__law_copied
  obtain ⟨_, F__law_all_keys⟩ := c.t.d.def_ 62 (d := hd__law_all_keys) rfl
  have h__law_all_keys : Cn P w K mg base 1 (He.ga K "_law_all_keys") ["_law_book_here", "_law_span"] (sp__law_all_keys (lwT K)) := k__law_all_keys T F__law_all_keys
  obtain ⟨_, F__law_some_keys⟩ := c.t.d.def_ 37 (d := hd__law_some_keys) rfl
  have h__law_some_keys : Cn P w K mg base 2 (He.ga K "_law_some_keys") ["_law_book_here", "_law_world", "_law_span"] (sp__law_some_keys (lwT K)) := k__law_some_keys T F__law_some_keys h__law_all_keys
  obtain ⟨_, F__law_greatest⟩ := c.t.d.def_ 42 (d := hd__law_greatest) rfl
  have h__law_greatest : Cn P w K mg base 1 (He.ga K "_law_greatest") ["_law_world", "_law_found", "_law_kind_here"] (sp__law_greatest (lwT K)) := k__law_greatest T F__law_greatest
  obtain ⟨_, F__law_fresh⟩ := c.t.d.def_ 43 (d := hd__law_fresh) rfl
  have h__law_fresh : Cn P w K mg base 2 (He.ga K "_law_fresh") ["_law_book_here", "_law_world", "_law_number"] (sp__law_fresh (lwT K)) := k__law_fresh T F__law_fresh h__law_greatest
  obtain ⟨_, F__law_next⟩ := c.t.d.def_ 41 (d := hd__law_next) rfl
  have h__law_next : Cn P w K mg base 3 (He.ga K "_law_next") ["_law_pool_here", "_law_book_here", "_law_world", "_law_most", "_law_span"] (sp__law_next (lwT K)) := k__law_next T F__law_next h__law_draw h__law_keys h__law_left
  obtain ⟨_, F__law_some⟩ := c.t.d.def_ 64 (d := hd__law_some) rfl
  have h__law_some : Cn P w K mg base 4 (He.ga K "_law_some") ["_law_pool_here", "_law_book_here", "_law_world"] (sp__law_some (lwT K)) := k__law_some T F__law_some h__law_draw h__law_next h__law_fresh
  obtain ⟨_, F__law_pool⟩ := c.t.d.def_ 51 (d := hd__law_pool) rfl
  have h__law_pool : Cn P w K mg base 1 (He.ga K "_law_pool") ["_law_script", "_law_k"] (sp__law_pool K (lwT K)) := k__law_pool T F__law_pool
  obtain ⟨_, F__law_steps⟩ := c.t.d.def_ 49 (d := hd__law_steps) rfl
  have h__law_steps : Cn P w K mg base 2 (He.ga K "_law_steps") ["_law_pool_here", "_law_marks_here"] (sp__law_steps (lwT K)) := k__law_steps T F__law_steps h__law_draw
  obtain ⟨_, F__law_marks⟩ := c.t.d.def_ 48 (d := hd__law_marks) rfl
  have h__law_marks : Cn P w K mg base 2 (He.ga K "_law_marks") ["_law_pool_here", "_law_many"] (sp__law_marks (lwT K)) := k__law_marks T F__law_marks h__law_draw
  obtain ⟨_, F__law_names⟩ := c.t.d.def_ 47 (d := hd__law_names) rfl
  have h__law_names : Cn P w K mg base 2 (He.ga K "_law_names") ["_law_pool_here", "_law_many"] (sp__law_names (lwT K)) := k__law_names T F__law_names h__law_draw
  obtain ⟨_, F__law_book⟩ := c.t.d.def_ 50 (d := hd__law_book) rfl
  have h__law_book : Cn P w K mg base 3 (He.ga K "_law_book") ["_law_pool_here", "_law_most_kinds", "_law_most_dealings"] (sp__law_book (lwT K)) := k__law_book T F__law_book h__law_draw h__law_names h__law_marks h__law_steps
  obtain ⟨_, F__law_kind⟩ := c.t.d.def_ 45 (d := hd__law_kind) rfl
  have h__law_kind : Cn P w K mg base 1 (He.ga K "_law_kind") ["_law_error"] (sp__law_kind K (lwT K)) := k__law_kind T XX F__law_kind
  obtain ⟨_, F__law_wish⟩ := c.t.d.def_ 44 (d := hd__law_wish) rfl
  have h__law_wish : Cn P w K mg base 6 (He.ga K "_law_wish") ["_law_stepper", "_law_way", "_law_one", "_law_other"] (sp__law_wish K) := k__law_wish T F__law_wish h_Stepper_begin h_Stepper_step h_Stepper_end h_Stepper_drop h_Stepper_state h_Stepper_left h_Stepper_writer h_Stepper_undo
  obtain ⟨_, F__law_told⟩ := c.t.d.def_ 46 (d := hd__law_told) rfl
  have h__law_told : Cn P w K mg base 7 (He.ga K "_law_told") ["_law_stepper", "_law_way", "_law_one", "_law_other"] (sp__law_told K) := k__law_told T XX F__law_told h__law_wish h__law_kind
  obtain ⟨_, F__law_same⟩ := c.t.d.def_ 59 (d := hd__law_same) rfl
  have h__law_same : CnG P w K mg base 1 (He.ga K "_law_same") ["_law_one", "_law_other"] (sp__law_same K) := k__law_same T F__law_same
  obtain ⟨_, F__law_doing⟩ := c.t.d.def_ 60 (d := hd__law_doing) rfl
  have h__law_doing : Cn P w K mg base 6 (He.ga K "_law_doing") ["_law_stepper", "_law_row"] (sp__law_doing K) := k__law_doing T F__law_doing h_Stepper_begin h_Stepper_step h_Stepper_end h_Stepper_drop
  obtain ⟨_, F__law_refused⟩ := c.t.d.def_ 65 (d := hd__law_refused) rfl
  have h__law_refused : Cn P w K mg base 8 (He.ga K "_law_refused") ["_law_pool_here", "_law_book_here", "_law_stepper", "_law_world"] (sp__law_refused K) := k__law_refused T F__law_refused h__law_draw h__law_left h__law_told
  obtain ⟨_, F__law_stands_so⟩ := c.t.d.def_ 63 (d := hd__law_stands_so) rfl
  have h__law_stands_so : CnG P w K mg base 6 (He.ga K "_law_stands_so") ["_law_stepper", "_law_book_here", "_law_world", "_law_rows", "_law_span"] (sp__law_stands_so K) := k__law_stands_so T F__law_stands_so h_Stepper_len h_Stepper_str h__law_state_text h__law_same h_Stepper_rows h__law_some_keys h_Stepper_writer h__law_last h_Stepper_state h_Stepper_left h__law_left
  obtain ⟨_, F_law⟩ := c.t.d.def_ 66 (d := hd_law) rfl
  have h_law : CnG P w K mg base 9 (He.ga K "law") ["_law_script"] (sp_law K) := k_law T F_law h__law_pool h__law_book h__law_copied h_Stepper_init h__law_draw h_Stepper_undo h__law_again h_Stepper_twin h__law_some h__law_same h__law_doing h__law_do h__law_refused h__law_stands_so
  exact h_law
end
end K28
/-! ## K28h3 -/
namespace K28
set_option maxHeartbeats 3900000
open L2 LamX PySem PySem.Spec PyProof.Rows
/-! ### the end of the law: one code table, a def that wants no guard -/
abbrev tab0 : Obj := { cls := .none, data := .fields #[] }
abbrev lstO (vs : List Value) : Obj := { cls := .type "list", data := .seq vs.toArray }
/-- what stands where the law is called: the script's list at a, the table at t -/
structure EndAt (K : PySem.W.Frag) (mg : Str → Option Value) (s : Shared) (c t a : Addr) (vs : List Value) : Prop where
  kin : K.In s.heap
  ns : s.heap.Ns mainGlobals mg
  bl : ∃ mb : Str → Option Value, s.heap.Ns builtinsNs mb ∧ ∀ x : Str, x ≠ "__name__" → mb x = bootBuiltins x
  lim : s.heap.NoLimit
  gens : s.gens = #[]
  tab : s.heap.get? t = some tab0
  out : K.lookup t = none
  code : PySem.W.CodeHd s.heap c t
  bm : ∃ (m : Addr) (ob : Obj), mg "__builtins__" = some (.ref m) ∧ m ≠ builtinsNs ∧ s.heap.get? m = some ob ∧ ob.cls = .type "module" ∧ ob.dict = some builtinsNs ∧ ob.data = .plain
  lst : s.heap.get? a = some (lstO vs)
/-- what the abstract heap may hold there -/
structure Few (K : PySem.W.Frag) (P : Program) (w : World) (H : Hp) (s : Shared) (t a : Addr) : Prop where
  tab : H t = some (.tbl #[])
  one : ∀ b u, H b = some u → b = t ∨ (b = a ∧ K.lookup a = none ∧ ∃ o xs, u = .frz o (.lst xs))
  ok : HOk P w H s.heap
section
variable {P : Program} {w : World} {K : PySem.W.Frag} {mg : Str → Option Value} {s : Shared} {c t a : Addr} {vs : List Value} {H : Hp}
theorem EndAt.ne (e : EndAt K mg s c t a vs) : a ≠ t := fun z => by
  have h1 := e.lst
  rw [z, e.tab] at h1
  cases h1
/-- an object that is neither the script nor an empty table is not told -/
theorem Few.free (f : Few K P w H s t a) (e : EndAt K mg s c t a vs) {b : Addr} {o : Obj} (hb : s.heap.get? b = some o) (h1 : o.data ≠ .seq vs.toArray) (h2 : o.data ≠ .fields #[]) : H b = none := by
  cases q : H b with
  | none => rfl
  | some u =>
    rcases f.one b u q with rfl | ⟨rfl, _⟩
    · rw [e.tab] at hb
      cases hb
      exact absurd rfl h2
    · rw [e.lst] at hb
      cases hb
      exact absurd rfl h1
theorem Few.base (f : Few K P w H s t a) (e : EndAt K mg s c t a vs) {b : Addr} {o : Obj} (hb : s.heap.get? b = some o) (h1 : o.data ≠ .seq vs.toArray) (h2 : o.data ≠ .fields #[]) : (hidT s.heap H).get? b = some o := hidT_get hb (f.free e hb h1 h2)
theorem Few.nsK (f : Few K P w H s t a) (e : EndAt K mg s c t a vs) {b : Addr} {m : Str → Option Value} (n : s.heap.Ns b m) : (hidT s.heap H).Ns b m := by
  obtain ⟨o, es, ep, hb, hd, r⟩ := n
  exact ⟨o, es, ep, f.base e hb (by rw [hd]; exact fun z => nomatch z) (by rw [hd]; exact fun z => nomatch z), hd, r⟩
theorem Few.kin (f : Few K P w H s t a) (e : EndAt K mg s c t a vs) : K.In (hidT s.heap H) := fun b o k => by
  refine hidT_get (e.kin b o k) ?_
  cases q : H b with
  | none => rfl
  | some u =>
    rcases f.one b u q with rfl | ⟨rfl, n, _⟩
    · rw [e.out] at k
      cases k
    · rw [n] at k
      cases k
theorem Few.tb (f : Few K P w H s t a) (e : EndAt K mg s c t a vs) : TabB (hidT s.heap H) mg c t := by
  refine ⟨?_, ?_, fun z => ?_⟩
  · obtain ⟨o, us, file, tf, flags, tg, inF, text, tt, e1, r1, r2, r3, rest⟩ := e.code
    refine ⟨o, us, file, tf, flags, tg, inF, text, tt, f.base e e1 ?_ ?_, r1, r2, r3, rest⟩
    · rw [r2]
      exact fun z => nomatch z
    · rw [r2]
      intro z
      injection z with z
      rw [z] at r3
      simp at r3
  · obtain ⟨m, ob, b1, b2, b3, b4, b5, b6⟩ := e.bm
    refine ⟨m, ob, b1, b2, fun z => ?_, fun z => ?_, f.base e b3 (by rw [b6]; exact fun z => nomatch z) (by rw [b6]; exact fun z => nomatch z), b4, b5, b6⟩
    · obtain ⟨o, es, ep, hb, hd, _⟩ := e.ns
      rw [z, hb] at b3
      cases b3
      rw [hd] at b6
      cases b6
    · rw [z, e.tab] at b3
      cases b3
      cases b6
  · obtain ⟨o, es, ep, hb, hd, _⟩ := e.ns
    rw [z, e.tab] at hb
    cases hb
    cases hd
theorem Few.env (f : Few K P w H s t a) (e : EndAt K mg s c t a vs) : Env0 P w K mg (hidT s.heap H) callerA [] s H := by
  obtain ⟨mb, n, eb⟩ := e.bl
  obtain ⟨mc, n1, n2⟩ := e.lim
  exact ⟨rfl, ⟨f.kin e, f.nsK e e.ns, ⟨mb, f.nsK e n, eb⟩, mc, f.nsK e n1, n2⟩, fun b o g => of_hidT g, Nat.le_of_eq (hidT_size _ _), trivial, fun b hb => absurd (show b ∈ ([] : List Addr) from hb) (by simp), f.ok, .of_eq e.gens⟩
/-- the call, and what it leaves -/
theorem Few.call (f : Few K P w H s t a) (e : EndAt K mg s c t a vs) {CX : CXT} {k : Nat} {fa : Addr} {x : Str} {sp : Sp} (hr : Room k callerA) (F : ∀ base : Heap, K.In base → base.Ns mainGlobals mg → TabB base mg c t → ∃ fd, FnG P w K mg base CX k fa fd [x] sp ∧ Binds K fd [x] [])
    (hsp : sp [.ref a] H (fun v _ => v = .bl true) E0) (hCX : ∀ z s', CX [] H s E0 z s' → False) :
    codeAny (model P w) callerA (.call (.ref fa) ⟨[.ref a], []⟩) (fun r s' => r = .ok (.ret (.bool true)) ∧ OldK s.heap s'.heap ∧ s'.os = s.os ∧ AllBare s'.gens) s := by
  obtain ⟨fd, G, hb⟩ := F _ (f.kin e) (f.nsK e e.ns) (f.tb e)
  have bnd := hb s [.ref a] e.kin rfl
  rw [List.append_nil] at bnd
  refine codeAny_mono (G.run callerA [] s H ⟨[.ref a], []⟩ [.ref a] [.ref a] _ _ rfl hr (f.env e) bnd (.cons rfl .nil) hsp) fun r s' h => ?_
  match r, h with
  | .error z, h => exact (hCX z s' h).elim
  | .ok (.ret u), h =>
    obtain ⟨v, H', os, bare, un, ok', rv, q⟩ := h
    cases (show v = .bl true from q)
    obtain rfl : u = Value.bool true := rv
    have stay : ∀ b o, b ≠ t → s.heap.get? b = some o → s'.heap.get? b = some o := fun b o nb g => by
      cases q : H b with
      | none => exact un.keep b o g q (by intro z; exact absurd (show b ∈ ([] : List Addr) from z) (by simp)) (by simp)
      | some u =>
        rcases f.one b u q with rfl | ⟨rfl, _, ob, xs, rfl⟩
        · exact absurd rfl nb
        · obtain ⟨g1, _⟩ := f.ok b _ q
          obtain ⟨g2, _⟩ := ok' b _ (un.frzs b ob _ q)
          rw [g] at g1
          cases g1
          exact g2
    obtain ⟨more, ht⟩ := un.tbls t #[] f.tab
    have grown : ∃ vs : Array Value, s'.heap.get? t = some { cls := .none, data := .fields vs } := ⟨_, ok' t _ ht⟩
    obtain ⟨vs, gt⟩ := grown
    refine ⟨rfl, ⟨fun b o g => ?_, fun b o g => ?_⟩, os, bare⟩
    · by_cases z : b = t
      · subst z
        rw [e.tab] at g
        cases g
        exact .inr (.inl ⟨(e.code.tab e.tab).isCodeTable, rfl, #[], vs, rfl, by rw [Array.empty_append]; exact gt⟩)
      · exact .inl (stay b o z g)
    · by_cases z : b = t
      · subst z
        exact ⟨_, gt⟩
      · exact ⟨o, stay b o z g⟩
theorem EndAt.call (e : EndAt K mg s c t a vs) {ns : List Int} (hi : IntsAre vs ns) (hl : ns.length ≤ sizeLine) {CX : CXT} {k : Nat} {fa : Addr} {x : Str} {sp : Sp} (hr : Room k callerA) (F : ∀ base : Heap, K.In base → base.Ns mainGlobals mg → TabB base mg c t → ∃ fd, FnG P w K mg base CX k fa fd [x] sp ∧ Binds K fd [x] [])
    (hsp : ∀ H : Hp, H t = some (.tbl #[]) → SqL K H a (ns.map V.int) → sp [.ref a] H (fun v _ => v = .bl true) E0) (hCX : ∀ H z s', CX [] H s E0 z s' → False) :
    codeAny (model P w) callerA (.call (.ref fa) ⟨[.ref a], []⟩) (fun r s' => r = .ok (.ret (.bool true)) ∧ OldK s.heap s'.heap ∧ s'.os = s.os ∧ AllBare s'.gens) s := by
  have rv := vals_ints hi
  have lv := hi.length
  cases hk : K.lookup a with
  | some o =>
    have g := e.kin a o hk
    rw [e.lst] at g
    cases g
    have ht : (fun b => if b = t then some (HO.tbl #[]) else none : Hp) t = some (.tbl #[]) := if_pos rfl
    refine Few.call (H := fun b => if b = t then some (.tbl #[]) else none) ⟨ht, fun b u z => ?_, fun b u z => ?_⟩ e hr F (hsp _ ht (.inr ⟨_, vs.toArray, _, hk, rfl, rfl, rfl, by rw [List.size_toArray, lv]; exact hl, by simpa using rv⟩)) (hCX _)
    · by_cases y : b = t
      · exact .inl y
      · cases (if_neg y).symm.trans z
    · by_cases y : b = t
      · subst y
        cases ht.symm.trans z
        exact e.tab
      · cases (if_neg y).symm.trans z
  | none =>
    obtain ⟨HH, eH⟩ : ∃ HH : Hp, HH = fun b => if b = t then some (.tbl #[]) else if b = a then some (.frz (lstO vs) (.lst (ns.map V.int))) else none := ⟨_, rfl⟩
    have ht : HH t = some (.tbl #[]) := by rw [eH]; exact if_pos rfl
    have h1 : HH a = some (.frz (lstO vs) (.lst (ns.map V.int))) := by rw [eH]; exact (if_neg e.ne).trans (if_pos rfl)
    have h2 : ∀ b, b ≠ t → b ≠ a → HH b = none := fun b y1 y2 => by rw [eH]; exact (if_neg y1).trans (if_neg y2)
    clear eH
    refine Few.call (H := HH) ⟨ht, fun b u z => ?_, fun b u z => ?_⟩ e hr F (hsp _ ht (.inl (.inr ⟨_, h1⟩))) (hCX _)
    · by_cases y : b = t
      · exact .inl y
      · by_cases y2 : b = a
        · subst y2
          cases h1.symm.trans z
          exact .inr ⟨rfl, hk, _, _, rfl⟩
        · cases (h2 b y y2).symm.trans z
    · by_cases y : b = t
      · subst y
        cases ht.symm.trans z
        exact e.tab
      · by_cases y2 : b = a
        · subst y2
          cases h1.symm.trans z
          exact ⟨e.lst, by rw [List.length_map]; exact hl, vs, _, rv, e.lst⟩
        · cases (h2 b y y2).symm.trans z
end
end K28
/-! ## K28h4 -/
namespace K28
set_option maxHeartbeats 3900000
open L2 LamX PySem PySem.Spec PyProof.Rows
theorem walk_law : PySem.W.WalkO qv (names1 ++ names2) (PySem.W.XL qv []) hk.says RR.toRowW (HandSHeadRun.topDef RR.prog 60) [] (fun f vs => PySem.call f vs) := by
  refine Att.attach_callB (l := PySem.Challenge.rw_snapsure_k28_whole_a_stepper_walked) (n := 63) rfl (by kernel_rfl) fun w s₀ s₁ mg mb fa o pm cd doc a vs ns G Y ho hd hcd hmg hobj hints hlen hbits hg => ?_
  obtain ⟨K, KX, c⟩ := Y
  have hmg2 : mg ("law" : PySem.Str) = some (.ref fa) := by
    have e : (HandSHeadRun.topDef RR.prog 60).name = ("law" : PySem.Str) := by kernel_rfl
    rw [← e]
    exact hmg
  have T := he_tx KX G.T.g c
  obtain rfl : He.ga K "law" = fa := by
    have := T.g_law.symm.trans hmg2
    cases this
    rfl
  refine EndAt.call (K := K) (c := lwC K) (t := lwP K) (k := 9) (x := "_law_script") (sp := sp_law K) (CX := L2.CX RR.prog w) ⟨KX, G.T.g, ⟨mb, G.T.b, G.T.builtins⟩, G.T.nolimit, hg, c.empty _ List.mem_cons_self, c.out _ List.mem_cons_self, PySem.W.codeHd_of_K KX (c.hd _ List.mem_cons_self), G.T.bmain, hobj⟩ hints (Nat.le_trans hlen (by decide)) ⟨rfl, by decide, by decide⟩ (fun base hb1 hb2 tb => (he_law KX G.T.g c tb).ex) (fun H hH hS => ⟨a, ns, rfl, hS, fun p hp => by rw [List.mem_singleton.mp hp]; exact TabS.nil hH, fun _ _ => rfl⟩) fun H e s' z => ?_
  · obtain ⟨_, _, _, _, _, _, _, _, _, _, _, _, y⟩ := z
    exact y.elim
end K28
open PySem.Calls PySem.W PySem PyProof.Rows
theorem PySem.Challenge.cw_snapsure_k28_whole_a_stepper_walked_holds : PySem.Challenge.rw_snapsure_k28_whole_a_stepper_walked.Holds := by
  w_on; o_law
  refine HandSHeadRun.head_any (r := K28.RR) (q := K28.qv) (H := K28.hk) (ob := K28.hob) (M := 8000) (loose := K28.names1 ++ K28.names2) (d := HandSHeadRun.topDef K28.RR.prog 60) (kwd := []) K28.hob_eq (by kernel_rfl) (fun s => by kernel_rfl) K28.run (by kernel_rfl) (by kernel_rfl) (by kernel_rfl) (by rfl) (by first | assumption | decide +kernel) (by decide +kernel) ⟨rfl, rfl, rfl, rfl, rfl, by decide +kernel⟩ ?hw ?hc
  case hw => w_witness2
  case hc => exact K28.walk_law
