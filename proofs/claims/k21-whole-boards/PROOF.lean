import PyProof.Rows.All
import Wide.All
import OpenK.AllK
import Wide.FinOn
import PyProof.EqAt
import PyProof.EqKinds
import PyProof.TupleCall
import KE.KStateDown
import KE.KLam
import HandS.ForMost
import HandS.ForExc
import HandS.Defaults
import HandS.Star
import HandS.Property
import HandS.TupAny
import HandS.TupMul
import HandS.OwnEq
import HandS.Lambda
import HandS.ExcInit
import HandS.TryMany
import HandS.HotCalls
import HandS.Flow
import HandS.IsInst
import HandS.RevTup
import HandS.HeadHook1
import HandS.HeadHook2
import HandS.HeadHook3
import HandS.HeadHook4
import HandS.HeadWalk
import PySem.Challenge.RW_looksums_k21_whole_boards_tried
import KE.GoesMore
import KE.KRevSl
import HandS.Walk
import HandS.Zip0
import KE.KExcInit
import KE.KWithOwn
import HandS.Finally
import HandS.ExcIs
import HandS.Small
import HandS.Head0
import HandS.Head1
import HandS.Head2
import HandS.HeadEnd
set_option Elab.async false
set_option linter.all false
set_option maxRecDepth 100000
set_option maxHeartbeats 4000000
/-! the text by places -/
namespace K21
open PySem PySem.Spec PyProof.Rows L2
def top (i : Nat) : Stmt := PySem.Challenge.pw_looksums_k21_whole_boards_tried.main.body.getD i (.Pass ⟨0, 0, 0, 0⟩)

abbrev s_BadReading__init : Stmt := inClass (top 2) 0
abbrev N_BadReading__init : List Str := ["self", "given"]
theorem sc_BadReading__init : FnScope N_BadReading__init ["self", "given"] (defScope s_BadReading__init) := ⟨rfl, rfl, rfl, by decide +kernel, rfl, by decide +kernel, by decide +kernel⟩
def d_BadReading__init : He.DefD := ⟨("BadReading", some "__init__"), "__init__", "BadReading.__init__", defArgs s_BadReading__init, defBody s_BadReading__init, defScope s_BadReading__init, [], []⟩
abbrev s_BadHabits__init : Stmt := inClass (top 3) 0
abbrev N_BadHabits__init : List Str := ["self", "given"]
theorem sc_BadHabits__init : FnScope N_BadHabits__init ["self", "given"] (defScope s_BadHabits__init) := ⟨rfl, rfl, rfl, by decide +kernel, rfl, by decide +kernel, by decide +kernel⟩
def d_BadHabits__init : He.DefD := ⟨("BadHabits", some "__init__"), "__init__", "BadHabits.__init__", defArgs s_BadHabits__init, defBody s_BadHabits__init, defScope s_BadHabits__init, [], []⟩
abbrev s_BadPromise__init : Stmt := inClass (top 4) 0
abbrev N_BadPromise__init : List Str := ["self", "given"]
theorem sc_BadPromise__init : FnScope N_BadPromise__init ["self", "given"] (defScope s_BadPromise__init) := ⟨rfl, rfl, rfl, by decide +kernel, rfl, by decide +kernel, by decide +kernel⟩
def d_BadPromise__init : He.DefD := ⟨("BadPromise", some "__init__"), "__init__", "BadPromise.__init__", defArgs s_BadPromise__init, defBody s_BadPromise__init, defScope s_BadPromise__init, [], []⟩
abbrev s_BadWays__init : Stmt := inClass (top 5) 0
abbrev N_BadWays__init : List Str := ["self", "given"]
theorem sc_BadWays__init : FnScope N_BadWays__init ["self", "given"] (defScope s_BadWays__init) := ⟨rfl, rfl, rfl, by decide +kernel, rfl, by decide +kernel, by decide +kernel⟩
def d_BadWays__init : He.DefD := ⟨("BadWays", some "__init__"), "__init__", "BadWays.__init__", defArgs s_BadWays__init, defBody s_BadWays__init, defScope s_BadWays__init, [], []⟩
abbrev s_BadWeaving__init : Stmt := inClass (top 6) 0
abbrev N_BadWeaving__init : List Str := ["self", "part"]
theorem sc_BadWeaving__init : FnScope N_BadWeaving__init ["self", "part"] (defScope s_BadWeaving__init) := ⟨rfl, rfl, rfl, by decide +kernel, rfl, by decide +kernel, by decide +kernel⟩
def d_BadWeaving__init : He.DefD := ⟨("BadWeaving", some "__init__"), "__init__", "BadWeaving.__init__", defArgs s_BadWeaving__init, defBody s_BadWeaving__init, defScope s_BadWeaving__init, [], []⟩
abbrev s_BadPaper__init : Stmt := inClass (top 7) 0
abbrev N_BadPaper__init : List Str := ["self", "part"]
theorem sc_BadPaper__init : FnScope N_BadPaper__init ["self", "part"] (defScope s_BadPaper__init) := ⟨rfl, rfl, rfl, by decide +kernel, rfl, by decide +kernel, by decide +kernel⟩
def d_BadPaper__init : He.DefD := ⟨("BadPaper", some "__init__"), "__init__", "BadPaper.__init__", defArgs s_BadPaper__init, defBody s_BadPaper__init, defScope s_BadPaper__init, [], []⟩
abbrev s_BadSize__init : Stmt := inClass (top 8) 0
abbrev N_BadSize__init : List Str := ["self", "given"]
theorem sc_BadSize__init : FnScope N_BadSize__init ["self", "given"] (defScope s_BadSize__init) := ⟨rfl, rfl, rfl, by decide +kernel, rfl, by decide +kernel, by decide +kernel⟩
def d_BadSize__init : He.DefD := ⟨("BadSize", some "__init__"), "__init__", "BadSize.__init__", defArgs s_BadSize__init, defBody s_BadSize__init, defScope s_BadSize__init, [], []⟩
abbrev s_BadNumber__init : Stmt := inClass (top 9) 0
abbrev N_BadNumber__init : List Str := ["self", "given"]
theorem sc_BadNumber__init : FnScope N_BadNumber__init ["self", "given"] (defScope s_BadNumber__init) := ⟨rfl, rfl, rfl, by decide +kernel, rfl, by decide +kernel, by decide +kernel⟩
def d_BadNumber__init : He.DefD := ⟨("BadNumber", some "__init__"), "__init__", "BadNumber.__init__", defArgs s_BadNumber__init, defBody s_BadNumber__init, defScope s_BadNumber__init, [], []⟩
abbrev s_BadText__init : Stmt := inClass (top 10) 0
abbrev N_BadText__init : List Str := ["self", "place"]
theorem sc_BadText__init : FnScope N_BadText__init ["self", "place"] (defScope s_BadText__init) := ⟨rfl, rfl, rfl, by decide +kernel, rfl, by decide +kernel, by decide +kernel⟩
def d_BadText__init : He.DefD := ⟨("BadText", some "__init__"), "__init__", "BadText.__init__", defArgs s_BadText__init, defBody s_BadText__init, defScope s_BadText__init, [], []⟩
abbrev s_TooGreat__init : Stmt := inClass (top 11) 0
abbrev N_TooGreat__init : List Str := ["self", "most"]
theorem sc_TooGreat__init : FnScope N_TooGreat__init ["self", "most"] (defScope s_TooGreat__init) := ⟨rfl, rfl, rfl, by decide +kernel, rfl, by decide +kernel, by decide +kernel⟩
def d_TooGreat__init : He.DefD := ⟨("TooGreat", some "__init__"), "__init__", "TooGreat.__init__", defArgs s_TooGreat__init, defBody s_TooGreat__init, defScope s_TooGreat__init, [], []⟩
abbrev s_NothingLeft__init : Stmt := inClass (top 12) 0
abbrev N_NothingLeft__init : List Str := ["self", "many"]
theorem sc_NothingLeft__init : FnScope N_NothingLeft__init ["self", "many"] (defScope s_NothingLeft__init) := ⟨rfl, rfl, rfl, by decide +kernel, rfl, by decide +kernel, by decide +kernel⟩
def d_NothingLeft__init : He.DefD := ⟨("NothingLeft", some "__init__"), "__init__", "NothingLeft.__init__", defArgs s_NothingLeft__init, defBody s_NothingLeft__init, defScope s_NothingLeft__init, [], []⟩
abbrev s_is_integer : Stmt := top 19
abbrev N_is_integer : List Str := ["thing"]
theorem sc_is_integer : FnScope N_is_integer ["thing"] (defScope s_is_integer) := ⟨rfl, rfl, rfl, by decide +kernel, rfl, by decide +kernel, by decide +kernel⟩
def d_is_integer : He.DefD := ⟨("is_integer", none), "is_integer", "is_integer", defArgs s_is_integer, defBody s_is_integer, defScope s_is_integer, [], []⟩
abbrev s_is_whole : Stmt := top 20
abbrev N_is_whole : List Str := ["thing", "least", "most"]
theorem sc_is_whole : FnScope N_is_whole ["thing", "least", "most"] (defScope s_is_whole) := ⟨rfl, rfl, rfl, by decide +kernel, rfl, by decide +kernel, by decide +kernel⟩
def d_is_whole : He.DefD := ⟨("is_whole", none), "is_whole", "is_whole", defArgs s_is_whole, defBody s_is_whole, defScope s_is_whole, [], []⟩
abbrev s_is_word : Stmt := top 21
abbrev N_is_word : List Str := ["thing", "words"]
theorem sc_is_word : FnScope N_is_word ["thing", "words"] (defScope s_is_word) := ⟨rfl, rfl, rfl, by decide +kernel, rfl, by decide +kernel, by decide +kernel⟩
def d_is_word : He.DefD := ⟨("is_word", none), "is_word", "is_word", defArgs s_is_word, defBody s_is_word, defScope s_is_word, [], []⟩
abbrev s_are_ways : Stmt := top 22
abbrev N_are_ways : List Str := ["thing", "most", "item"]
theorem sc_are_ways : FnScope N_are_ways ["thing", "most"] (defScope s_are_ways) := ⟨rfl, rfl, rfl, by decide +kernel, rfl, by decide +kernel, by decide +kernel⟩
def d_are_ways : He.DefD := ⟨("are_ways", none), "are_ways", "are_ways", defArgs s_are_ways, defBody s_are_ways, defScope s_are_ways, [], []⟩
abbrev s_need_ways : Stmt := top 23
abbrev N_need_ways : List Str := ["ways"]
theorem sc_need_ways : FnScope N_need_ways ["ways"] (defScope s_need_ways) := ⟨rfl, rfl, rfl, by decide +kernel, rfl, by decide +kernel, by decide +kernel⟩
def d_need_ways : He.DefD := ⟨("need_ways", none), "need_ways", "need_ways", defArgs s_need_ways, defBody s_need_ways, defScope s_need_ways, [], []⟩
abbrev s_looker_of : Stmt := top 28
abbrev N_looker_of : List Str := ["ways"]
theorem sc_looker_of : FnScope N_looker_of ["ways"] (defScope s_looker_of) := ⟨rfl, rfl, rfl, by decide +kernel, rfl, by decide +kernel, by decide +kernel⟩
def d_looker_of : He.DefD := ⟨("looker_of", none), "looker_of", "looker_of", defArgs s_looker_of, defBody s_looker_of, defScope s_looker_of, [], []⟩
abbrev s_put_to : Stmt := top 32
abbrev N_put_to : List Str := ["cells", "slot", "amount"]
theorem sc_put_to : FnScope N_put_to ["cells", "slot", "amount"] (defScope s_put_to) := ⟨rfl, rfl, rfl, by decide +kernel, rfl, by decide +kernel, by decide +kernel⟩
def d_put_to : He.DefD := ⟨("put_to", none), "put_to", "put_to", defArgs s_put_to, defBody s_put_to, defScope s_put_to, [], []⟩
abbrev s_half_on : Stmt := top 33
abbrev N_half_on : List Str := ["cells", "move", "half", "source", "goal", "amount", "first"]
theorem sc_half_on : FnScope N_half_on ["cells", "move", "half"] (defScope s_half_on) := ⟨rfl, rfl, rfl, by decide +kernel, rfl, by decide +kernel, by decide +kernel⟩
def d_half_on : He.DefD := ⟨("half_on", none), "half_on", "half_on", defArgs s_half_on, defBody s_half_on, defScope s_half_on, [], []⟩
abbrev s_other_half : Stmt := top 34
abbrev N_other_half : List Str := ["half"]
theorem sc_other_half : FnScope N_other_half ["half"] (defScope s_other_half) := ⟨rfl, rfl, rfl, by decide +kernel, rfl, by decide +kernel, by decide +kernel⟩
def d_other_half : He.DefD := ⟨("other_half", none), "other_half", "other_half", defArgs s_other_half, defBody s_other_half, defScope s_other_half, [], []⟩
abbrev s_with_item : Stmt := top 42
abbrev N_with_item : List Str := ["row", "number", "item"]
theorem sc_with_item : FnScope N_with_item ["row", "number", "item"] (defScope s_with_item) := ⟨rfl, rfl, rfl, by decide +kernel, rfl, by decide +kernel, by decide +kernel⟩
def d_with_item : He.DefD := ⟨("with_item", none), "with_item", "with_item", defArgs s_with_item, defBody s_with_item, defScope s_with_item, [], []⟩
abbrev s_behind_deed : Stmt := top 43
abbrev N_behind_deed : List Str := ["standing", "deed", "cells", "total", "moves", "lookers", "word", "move", "fresh", "looker", "found"]
theorem sc_behind_deed : FnScope N_behind_deed ["standing", "deed"] (defScope s_behind_deed) := ⟨rfl, rfl, rfl, by decide +kernel, rfl, by decide +kernel, by decide +kernel⟩
def d_behind_deed : He.DefD := ⟨("behind_deed", none), "behind_deed", "behind_deed", defArgs s_behind_deed, defBody s_behind_deed, defScope s_behind_deed, [], []⟩
abbrev s_Trial__init : Stmt := inClass (top 44) 0
abbrev N_Trial__init : List Str := ["self", "board"]
theorem sc_Trial__init : FnScope N_Trial__init ["self", "board"] (defScope s_Trial__init) := ⟨rfl, rfl, rfl, by decide +kernel, rfl, by decide +kernel, by decide +kernel⟩
def d_Trial__init : He.DefD := ⟨("Trial", some "__init__"), "__init__", "Trial.__init__", defArgs s_Trial__init, defBody s_Trial__init, defScope s_Trial__init, [], []⟩
abbrev s_Trial__enter : Stmt := inClass (top 44) 1
abbrev N_Trial__enter : List Str := ["self"]
theorem sc_Trial__enter : FnScope N_Trial__enter ["self"] (defScope s_Trial__enter) := ⟨rfl, rfl, rfl, by decide +kernel, rfl, by decide +kernel, by decide +kernel⟩
def d_Trial__enter : He.DefD := ⟨("Trial", some "__enter__"), "__enter__", "Trial.__enter__", defArgs s_Trial__enter, defBody s_Trial__enter, defScope s_Trial__enter, [], []⟩
abbrev s_Trial__exit : Stmt := inClass (top 44) 2
abbrev N_Trial__exit : List Str := ["self", "kind", "error", "trace"]
theorem sc_Trial__exit : FnScope N_Trial__exit ["self", "kind", "error", "trace"] (defScope s_Trial__exit) := ⟨rfl, rfl, rfl, by decide +kernel, rfl, by decide +kernel, by decide +kernel⟩
def d_Trial__exit : He.DefD := ⟨("Trial", some "__exit__"), "__exit__", "Trial.__exit__", defArgs s_Trial__exit, defBody s_Trial__exit, defScope s_Trial__exit, [], []⟩
abbrev s_under : Stmt := top 45
abbrev N_under : List Str := ["manager", "deed", "found", "one"]
theorem sc_under : FnScope N_under ["manager", "deed"] (defScope s_under) := ⟨rfl, rfl, rfl, by decide +kernel, rfl, by decide +kernel, by decide +kernel⟩
def d_under : He.DefD := ⟨("under", none), "under", "under", defArgs s_under, defBody s_under, defScope s_under, [], []⟩
abbrev s_Board__init : Stmt := inClass (top 46) 0
abbrev N_Board__init : List Str := ["self", "many"]
theorem sc_Board__init : FnScope N_Board__init ["self", "many"] (defScope s_Board__init) := ⟨rfl, rfl, rfl, by decide +kernel, rfl, by decide +kernel, by decide +kernel⟩
def d_Board__init : He.DefD := ⟨("Board", some "__init__"), "__init__", "Board.__init__", defArgs s_Board__init, defBody s_Board__init, defScope s_Board__init, [], []⟩
abbrev s_Board_slots : Stmt := inClass (top 46) 1
abbrev N_Board_slots : List Str := ["self"]
theorem sc_Board_slots : FnScope N_Board_slots ["self"] (defScope s_Board_slots) := ⟨rfl, rfl, rfl, by decide +kernel, rfl, by decide +kernel, by decide +kernel⟩
def d_Board_slots : He.DefD := ⟨("Board", some "slots"), "slots", "Board.slots", defArgs s_Board_slots, defBody s_Board_slots, defScope s_Board_slots, [], []⟩
abbrev s_Board_true : Stmt := inClass (top 46) 2
abbrev N_Board_true : List Str := ["self"]
theorem sc_Board_true : FnScope N_Board_true ["self"] (defScope s_Board_true) := ⟨rfl, rfl, rfl, by decide +kernel, rfl, by decide +kernel, by decide +kernel⟩
def d_Board_true : He.DefD := ⟨("Board", some "true"), "true", "Board.true", defArgs s_Board_true, defBody s_Board_true, defScope s_Board_true, [], []⟩
abbrev s_Board_readers : Stmt := inClass (top 46) 3
abbrev N_Board_readers : List Str := ["self"]
theorem sc_Board_readers : FnScope N_Board_readers ["self"] (defScope s_Board_readers) := ⟨rfl, rfl, rfl, by decide +kernel, rfl, by decide +kernel, by decide +kernel⟩
def d_Board_readers : He.DefD := ⟨("Board", some "readers"), "readers", "Board.readers", defArgs s_Board_readers, defBody s_Board_readers, defScope s_Board_readers, [], []⟩
abbrev s_Board_under_way : Stmt := inClass (top 46) 4
abbrev N_Board_under_way : List Str := ["self", "number", "pair"]
theorem sc_Board_under_way : FnScope N_Board_under_way ["self"] (defScope s_Board_under_way) := ⟨rfl, rfl, rfl, by decide +kernel, rfl, by decide +kernel, by decide +kernel⟩
def d_Board_under_way : He.DefD := ⟨("Board", some "under_way"), "under_way", "Board.under_way", defArgs s_Board_under_way, defBody s_Board_under_way, defScope s_Board_under_way, [], []⟩
abbrev s_Board_do : Stmt := inClass (top 46) 5
abbrev N_Board_do : List Str := ["self", "deed", "standing", "found"]
theorem sc_Board_do : FnScope N_Board_do ["self", "deed"] (defScope s_Board_do) := ⟨rfl, rfl, rfl, by decide +kernel, rfl, by decide +kernel, by decide +kernel⟩
def d_Board_do : He.DefD := ⟨("Board", some "do"), "do", "Board.do", defArgs s_Board_do, defBody s_Board_do, defScope s_Board_do, [], []⟩
abbrev s_Board_add : Stmt := inClass (top 46) 6
abbrev N_Board_add : List Str := ["self", "slot", "amount"]
theorem sc_Board_add : FnScope N_Board_add ["self", "slot", "amount"] (defScope s_Board_add) := ⟨rfl, rfl, rfl, by decide +kernel, rfl, by decide +kernel, by decide +kernel⟩
def d_Board_add : He.DefD := ⟨("Board", some "add"), "add", "Board.add", defArgs s_Board_add, defBody s_Board_add, defScope s_Board_add, [], []⟩
abbrev s_Board_need_slot : Stmt := inClass (top 46) 7
abbrev N_Board_need_slot : List Str := ["self", "slot"]
theorem sc_Board_need_slot : FnScope N_Board_need_slot ["self", "slot"] (defScope s_Board_need_slot) := ⟨rfl, rfl, rfl, by decide +kernel, rfl, by decide +kernel, by decide +kernel⟩
def d_Board_need_slot : He.DefD := ⟨("Board", some "need_slot"), "need_slot", "Board.need_slot", defArgs s_Board_need_slot, defBody s_Board_need_slot, defScope s_Board_need_slot, [], []⟩
abbrev s_Board_begin : Stmt := inClass (top 46) 8
abbrev N_Board_begin : List Str := ["self", "source", "goal", "amount", "first"]
theorem sc_Board_begin : FnScope N_Board_begin ["self", "source", "goal", "amount", "first"] (defScope s_Board_begin) := ⟨rfl, rfl, rfl, by decide +kernel, rfl, by decide +kernel, by decide +kernel⟩
def d_Board_begin : He.DefD := ⟨("Board", some "begin"), "begin", "Board.begin", defArgs s_Board_begin, defBody s_Board_begin, defScope s_Board_begin, [], []⟩
abbrev s_Board_finish : Stmt := inClass (top 46) 9
abbrev N_Board_finish : List Str := ["self", "number"]
theorem sc_Board_finish : FnScope N_Board_finish ["self", "number"] (defScope s_Board_finish) := ⟨rfl, rfl, rfl, by decide +kernel, rfl, by decide +kernel, by decide +kernel⟩
def d_Board_finish : He.DefD := ⟨("Board", some "finish"), "finish", "Board.finish", defArgs s_Board_finish, defBody s_Board_finish, defScope s_Board_finish, [], []⟩
abbrev s_Board_start : Stmt := inClass (top 46) 10
abbrev N_Board_start : List Str := ["self", "ways"]
theorem sc_Board_start : FnScope N_Board_start ["self", "ways"] (defScope s_Board_start) := ⟨rfl, rfl, rfl, by decide +kernel, rfl, by decide +kernel, by decide +kernel⟩
def d_Board_start : He.DefD := ⟨("Board", some "start"), "start", "Board.start", defArgs s_Board_start, defBody s_Board_start, defScope s_Board_start, [], []⟩
abbrev s_Board_need_reader : Stmt := inClass (top 46) 11
abbrev N_Board_need_reader : List Str := ["self", "reader"]
theorem sc_Board_need_reader : FnScope N_Board_need_reader ["self", "reader"] (defScope s_Board_need_reader) := ⟨rfl, rfl, rfl, by decide +kernel, rfl, by decide +kernel, by decide +kernel⟩
def d_Board_need_reader : He.DefD := ⟨("Board", some "need_reader"), "need_reader", "Board.need_reader", defArgs s_Board_need_reader, defBody s_Board_need_reader, defScope s_Board_need_reader, [], []⟩
abbrev s_Board_sums : Stmt := inClass (top 46) 13
abbrev N_Board_sums : List Str := ["self", "reader"]
theorem sc_Board_sums : FnScope N_Board_sums ["self", "reader"] (defScope s_Board_sums) := ⟨rfl, rfl, rfl, by decide +kernel, rfl, by decide +kernel, by decide +kernel⟩
def d_Board_sums : He.DefD := ⟨("Board", some "sums"), "sums", "Board.sums", defArgs s_Board_sums, defBody s_Board_sums, defScope s_Board_sums, [], []⟩
abbrev s_Board__eq : Stmt := inClass (top 46) 16
abbrev N_Board__eq : List Str := ["self", "other"]
theorem sc_Board__eq : FnScope N_Board__eq ["self", "other"] (defScope s_Board__eq) := ⟨rfl, rfl, rfl, by decide +kernel, rfl, by decide +kernel, by decide +kernel⟩
def d_Board__eq : He.DefD := ⟨("Board", some "__eq__"), "__eq__", "Board.__eq__", defArgs s_Board__eq, defBody s_Board__eq, defScope s_Board__eq, [], []⟩
abbrev s_Board_undo : Stmt := inClass (top 46) 17
abbrev N_Board_undo : List Str := ["self", "many", "cut"]
theorem sc_Board_undo : FnScope N_Board_undo ["self", "many"] (defScope s_Board_undo) := ⟨rfl, rfl, rfl, by decide +kernel, rfl, by decide +kernel, by decide +kernel⟩
def d_Board_undo : He.DefD := ⟨("Board", some "undo"), "undo", "Board.undo", defArgs s_Board_undo, defBody s_Board_undo, defScope s_Board_undo, [He.Dv.int 1], []⟩
abbrev s_Board_redo : Stmt := inClass (top 46) 18
abbrev N_Board_redo : List Str := ["self", "many", "cut"]
theorem sc_Board_redo : FnScope N_Board_redo ["self", "many"] (defScope s_Board_redo) := ⟨rfl, rfl, rfl, by decide +kernel, rfl, by decide +kernel, by decide +kernel⟩
def d_Board_redo : He.DefD := ⟨("Board", some "redo"), "redo", "Board.redo", defArgs s_Board_redo, defBody s_Board_redo, defScope s_Board_redo, [He.Dv.int 1], []⟩
abbrev s_Board_copy : Stmt := inClass (top 46) 19
abbrev N_Board_copy : List Str := ["self", "found"]
theorem sc_Board_copy : FnScope N_Board_copy ["self"] (defScope s_Board_copy) := ⟨rfl, rfl, rfl, by decide +kernel, rfl, by decide +kernel, by decide +kernel⟩
def d_Board_copy : He.DefD := ⟨("Board", some "copy"), "copy", "Board.copy", defArgs s_Board_copy, defBody s_Board_copy, defScope s_Board_copy, [], []⟩
abbrev s_Board_trial : Stmt := inClass (top 46) 20
abbrev N_Board_trial : List Str := ["self"]
theorem sc_Board_trial : FnScope N_Board_trial ["self"] (defScope s_Board_trial) := ⟨rfl, rfl, rfl, by decide +kernel, rfl, by decide +kernel, by decide +kernel⟩
def d_Board_trial : He.DefD := ⟨("Board", some "trial"), "trial", "Board.trial", defArgs s_Board_trial, defBody s_Board_trial, defScope s_Board_trial, [], []⟩
abbrev s_need_many : Stmt := top 47
abbrev N_need_many : List Str := ["many", "some"]
theorem sc_need_many : FnScope N_need_many ["many", "some"] (defScope s_need_many) := ⟨rfl, rfl, rfl, by decide +kernel, rfl, by decide +kernel, by decide +kernel⟩
def d_need_many : He.DefD := ⟨("need_many", none), "need_many", "need_many", defArgs s_need_many, defBody s_need_many, defScope s_need_many, [], []⟩
abbrev s_law_begin : Stmt := top 49
abbrev N_law_begin : List Str := ["_law_script"]
theorem sc_law_begin : FnScope N_law_begin ["_law_script"] (defScope s_law_begin) := ⟨rfl, rfl, rfl, by decide +kernel, rfl, by decide +kernel, by decide +kernel⟩
def d_law_begin : He.DefD := ⟨("_law_begin", none), "_law_begin", "_law_begin", defArgs s_law_begin, defBody s_law_begin, defScope s_law_begin, [], []⟩
abbrev s_law_next : Stmt := top 50
abbrev N_law_next : List Str := ["_law_draw", "_law_many", "_law_cell", "_law_cells", "_law_number", "_law_k"]
theorem sc_law_next : FnScope N_law_next ["_law_draw", "_law_many"] (defScope s_law_next) := ⟨rfl, rfl, rfl, by decide +kernel, rfl, by decide +kernel, by decide +kernel⟩
def d_law_next : He.DefD := ⟨("_law_next", none), "_law_next", "_law_next", defArgs s_law_next, defBody s_law_next, defScope s_law_next, [], []⟩
abbrev s_law_pick : Stmt := top 51
abbrev N_law_pick : List Str := ["_law_draw", "_law_some"]
theorem sc_law_pick : FnScope N_law_pick ["_law_draw", "_law_some"] (defScope s_law_pick) := ⟨rfl, rfl, rfl, by decide +kernel, rfl, by decide +kernel, by decide +kernel⟩
def d_law_pick : He.DefD := ⟨("_law_pick", none), "_law_pick", "_law_pick", defArgs s_law_pick, defBody s_law_pick, defScope s_law_pick, [], []⟩
abbrev s_law_fault : Stmt := top 52
abbrev N_law_fault : List Str := ["_law_error", "_law_some", "_law_found", "_law_word", "_law_is_so"]
theorem sc_law_fault : FnScope N_law_fault ["_law_error"] (defScope s_law_fault) := ⟨rfl, rfl, rfl, by decide +kernel, rfl, by decide +kernel, by decide +kernel⟩
def d_law_fault : He.DefD := ⟨("_law_fault", none), "_law_fault", "_law_fault", defArgs s_law_fault, defBody s_law_fault, defScope s_law_fault, [], []⟩
abbrev s_law_said : Stmt := top 53
abbrev N_law_said : List Str := ["_law_call", "_law_caught", "_law_found", "e"]
theorem sc_law_said : FnScope N_law_said ["_law_call"] (defScope s_law_said) := ⟨rfl, rfl, rfl, by decide +kernel, rfl, by decide +kernel, by decide +kernel⟩
def d_law_said : He.DefD := ⟨("_law_said", none), "_law_said", "_law_said", defArgs s_law_said, defBody s_law_said, defScope s_law_said, [], []⟩
abbrev s_law_deed : Stmt := top 54
abbrev N_law_deed : List Str := ["_law_draw", "_law_board", "_law_way"]
theorem sc_law_deed : FnScope N_law_deed ["_law_draw", "_law_board"] (defScope s_law_deed) := ⟨rfl, rfl, rfl, by decide +kernel, rfl, by decide +kernel, by decide +kernel⟩
def d_law_deed : He.DefD := ⟨("_law_deed", none), "_law_deed", "_law_deed", defArgs s_law_deed, defBody s_law_deed, defScope s_law_deed, [], []⟩
abbrev s_law_state : Stmt := top 55
abbrev N_law_state : List Str := ["_law_board", "_law_k"]
theorem sc_law_state : FnScope N_law_state ["_law_board"] (defScope s_law_state) := ⟨rfl, rfl, rfl, by decide +kernel, rfl, by decide +kernel, by decide +kernel⟩
def d_law_state : He.DefD := ⟨("_law_state", none), "_law_state", "_law_state", defArgs s_law_state, defBody s_law_state, defScope s_law_state, [], []⟩
abbrev s_law_all : Stmt := top 56
abbrev N_law_all : List Str := ["_law_board", "_law_found", "_law_other"]
theorem sc_law_all : FnScope N_law_all ["_law_board"] (defScope s_law_all) := ⟨rfl, rfl, rfl, by decide +kernel, rfl, by decide +kernel, by decide +kernel⟩
def d_law_all : He.DefD := ⟨("_law_all", none), "_law_all", "_law_all", defArgs s_law_all, defBody s_law_all, defScope s_law_all, [], []⟩
abbrev s_law_inside : Stmt := top 57
abbrev N_law_inside : List Str := ["_law_draw", "_law_one", "_law_board", "_law_k"]
theorem sc_law_inside : FnScope N_law_inside ["_law_draw", "_law_one", "_law_board"] (defScope s_law_inside) := ⟨rfl, rfl, rfl, by decide +kernel, rfl, by decide +kernel, by decide +kernel⟩
def d_law_inside : He.DefD := ⟨("_law_inside", none), "_law_inside", "_law_inside", defArgs s_law_inside, defBody s_law_inside, defScope s_law_inside, [], []⟩
abbrev s_law_ended : Stmt := top 58
abbrev N_law_ended : List Str := ["_law_draw", "_law_board", "_law_kind", "_law_calls"]
theorem sc_law_ended : FnScope N_law_ended ["_law_draw", "_law_board", "_law_kind"] (defScope s_law_ended) := ⟨rfl, rfl, rfl, by decide +kernel, rfl, by decide +kernel, by decide +kernel⟩
def d_law_ended : He.DefD := ⟨("_law_ended", none), "_law_ended", "_law_ended", defArgs s_law_ended, defBody s_law_ended, defScope s_law_ended, [], []⟩
abbrev s_law_within : Stmt := top 59
abbrev N_law_within : List Str := ["_law_draw", "_law_one", "_law_ahead"]
theorem sc_law_within : FnScope N_law_within ["_law_draw", "_law_one"] (defScope s_law_within) := ⟨rfl, rfl, rfl, by decide +kernel, rfl, by decide +kernel, by decide +kernel⟩
def d_law_within : He.DefD := ⟨("_law_within", none), "_law_within", "_law_within", defArgs s_law_within, defBody s_law_within, defScope s_law_within, [], []⟩
abbrev s_law_copies_right : Stmt := top 60
abbrev N_law_copies_right : List Str := ["_law_draw", "_law_board", "_law_ahead", "_law_made", "_law_other", "_law_now"]
theorem sc_law_copies_right : FnScope N_law_copies_right ["_law_draw", "_law_board", "_law_ahead"] (defScope s_law_copies_right) := ⟨rfl, rfl, rfl, by decide +kernel, rfl, by decide +kernel, by decide +kernel⟩
def d_law_copies_right : He.DefD := ⟨("_law_copies_right", none), "_law_copies_right", "_law_copies_right", defArgs s_law_copies_right, defBody s_law_copies_right, defScope s_law_copies_right, [], []⟩
abbrev s_law : Stmt := top 61
abbrev N_law : List Str := ["_law_script", "_law_turn", "_law_k", "_law_ahead", "_law_board", "_law_draw"]
theorem sc_law : FnScope N_law ["_law_script"] (defScope s_law) := ⟨rfl, rfl, rfl, by decide +kernel, rfl, by decide +kernel, by decide +kernel⟩
def d_law : He.DefD := ⟨("law", none), "law", "law", defArgs s_law, defBody s_law, defScope s_law, [], []⟩
def fn0 : List He.DefD := [d_BadReading__init, d_BadHabits__init, d_BadPromise__init, d_BadWays__init, d_BadWeaving__init, d_BadPaper__init, d_BadSize__init, d_BadNumber__init, d_BadText__init, d_TooGreat__init, d_NothingLeft__init, d_is_integer, d_is_whole, d_is_word, d_are_ways, d_need_ways, d_looker_of, d_put_to, d_half_on, d_other_half]
def fn1 : List He.DefD := [d_with_item, d_behind_deed, d_Trial__init, d_Trial__enter, d_Trial__exit, d_under, d_Board__init, d_Board_do, d_Board_add, d_Board_need_slot, d_Board_begin, d_Board_finish, d_Board_start, d_Board_need_reader, d_Board_sums, d_Board__eq, d_Board_undo, d_Board_redo, d_Board_copy, d_Board_trial]
def fn2 : List He.DefD := [d_need_many, d_law_begin, d_law_next, d_law_pick, d_law_fault, d_law_said, d_law_deed, d_law_state, d_law_all, d_law_inside, d_law_ended, d_law_within, d_law_copies_right, d_law]
def fnL : List He.DefD := fn0 ++ fn1 ++ fn2
def prL : List He.DefD := [d_Board_slots, d_Board_true, d_Board_readers, d_Board_under_way]
theorem at_BadReading__init : fnL[0]? = some d_BadReading__init := rfl
theorem at_BadHabits__init : fnL[1]? = some d_BadHabits__init := rfl
theorem at_BadPromise__init : fnL[2]? = some d_BadPromise__init := rfl
theorem at_BadWays__init : fnL[3]? = some d_BadWays__init := rfl
theorem at_BadWeaving__init : fnL[4]? = some d_BadWeaving__init := rfl
theorem at_BadPaper__init : fnL[5]? = some d_BadPaper__init := rfl
theorem at_BadSize__init : fnL[6]? = some d_BadSize__init := rfl
theorem at_BadNumber__init : fnL[7]? = some d_BadNumber__init := rfl
theorem at_BadText__init : fnL[8]? = some d_BadText__init := rfl
theorem at_TooGreat__init : fnL[9]? = some d_TooGreat__init := rfl
theorem at_NothingLeft__init : fnL[10]? = some d_NothingLeft__init := rfl
theorem at_is_integer : fnL[11]? = some d_is_integer := rfl
theorem at_is_whole : fnL[12]? = some d_is_whole := rfl
theorem at_is_word : fnL[13]? = some d_is_word := rfl
theorem at_are_ways : fnL[14]? = some d_are_ways := rfl
theorem at_need_ways : fnL[15]? = some d_need_ways := rfl
theorem at_looker_of : fnL[16]? = some d_looker_of := rfl
theorem at_put_to : fnL[17]? = some d_put_to := rfl
theorem at_half_on : fnL[18]? = some d_half_on := rfl
theorem at_other_half : fnL[19]? = some d_other_half := rfl
theorem at_with_item : fnL[20]? = some d_with_item := rfl
theorem at_behind_deed : fnL[21]? = some d_behind_deed := rfl
theorem at_Trial__init : fnL[22]? = some d_Trial__init := rfl
theorem at_Trial__enter : fnL[23]? = some d_Trial__enter := rfl
theorem at_Trial__exit : fnL[24]? = some d_Trial__exit := rfl
theorem at_under : fnL[25]? = some d_under := rfl
theorem at_Board__init : fnL[26]? = some d_Board__init := rfl
theorem at_Board_do : fnL[27]? = some d_Board_do := rfl
theorem at_Board_add : fnL[28]? = some d_Board_add := rfl
theorem at_Board_need_slot : fnL[29]? = some d_Board_need_slot := rfl
theorem at_Board_begin : fnL[30]? = some d_Board_begin := rfl
theorem at_Board_finish : fnL[31]? = some d_Board_finish := rfl
theorem at_Board_start : fnL[32]? = some d_Board_start := rfl
theorem at_Board_need_reader : fnL[33]? = some d_Board_need_reader := rfl
theorem at_Board_sums : fnL[34]? = some d_Board_sums := rfl
theorem at_Board__eq : fnL[35]? = some d_Board__eq := rfl
theorem at_Board_undo : fnL[36]? = some d_Board_undo := rfl
theorem at_Board_redo : fnL[37]? = some d_Board_redo := rfl
theorem at_Board_copy : fnL[38]? = some d_Board_copy := rfl
theorem at_Board_trial : fnL[39]? = some d_Board_trial := rfl
theorem at_need_many : fnL[40]? = some d_need_many := rfl
theorem at_law_begin : fnL[41]? = some d_law_begin := rfl
theorem at_law_next : fnL[42]? = some d_law_next := rfl
theorem at_law_pick : fnL[43]? = some d_law_pick := rfl
theorem at_law_fault : fnL[44]? = some d_law_fault := rfl
theorem at_law_said : fnL[45]? = some d_law_said := rfl
theorem at_law_deed : fnL[46]? = some d_law_deed := rfl
theorem at_law_state : fnL[47]? = some d_law_state := rfl
theorem at_law_all : fnL[48]? = some d_law_all := rfl
theorem at_law_inside : fnL[49]? = some d_law_inside := rfl
theorem at_law_ended : fnL[50]? = some d_law_ended := rfl
theorem at_law_within : fnL[51]? = some d_law_within := rfl
theorem at_law_copies_right : fnL[52]? = some d_law_copies_right := rfl
theorem at_law : fnL[53]? = some d_law := rfl
theorem at_Board_slots : prL[0]? = some d_Board_slots := rfl
theorem at_Board_true : prL[1]? = some d_Board_true := rfl
theorem at_Board_readers : prL[2]? = some d_Board_readers := rfl
theorem at_Board_under_way : prL[3]? = some d_Board_under_way := rfl
/-! ### what the top leaves -/
def gloL : List Str := ["BadNumber", "NothingLeft", "BadReading", "BadHabits", "BadPromise", "BadWays", "BadWeaving", "BadPaper", "BadSize", "BadText", "TooGreat", "LookError", "WAYS", "is_integer", "is_whole", "is_word", "are_ways", "need_ways", "looker_of", "put_to", "half_on",
  "other_half", "with_item", "behind_deed", "Trial", "under", "Board", "need_many"]
def gloM : List Str := ["_law_begin", "_law_next", "_law_pick", "_law_fault", "_law_said", "_law_deed", "_law_state", "_law_all", "_law_inside", "_law_ended", "_law_within", "_law_copies_right"]
def freL : List Str := ["isinstance", "int", "bool", "str", "tuple", "len", "all", "range", "enumerate", "OverflowError", "RuntimeError", "list"]
def txtL : List (Str × Str) := [("GIVE", "give"), ("TAKE", "take"), ("ADD", "add"), ("BEGIN", "begin"), ("FINISH", "finish"), ("START", "start")]
def numL : List (Str × Int) := [("MOST_WAYS", 6), ("MOST_SLOTS", 40), ("MOST_DEEDS", 1000)]
def methB : List Str := ["do", "add", "need_slot", "begin", "finish", "start", "need_reader", "sums", "undo", "redo", "copy", "trial", "__eq__"]
def methT : List Str := ["__enter__", "__exit__"]
def attB : List Str := ["many", "now", "past", "coming"]
def attT : List Str := ["board_so", "now_ahead", "past_ahead", "coming_ahead"]
/-- a property's getter -/
def pAd (K : PySem.W.Frag) (C m : Str) : Addr := match PySem.W.recIn K (He.ma K (He.ga K C) m) "property" with
  | some (.ref g :: _) => g
  | _ => 0
/-- an instance's class, as isinstance looks at it -/
structure InsIs (K : PySem.W.Frag) (C : Addr) : Prop where
  ha : PySem.W.findIn K (.ref C) "__class__" = some (some (.builtin "object.__class__"))
  hn : PySem.W.specialIn K (.builtin "object.__class__") "__get__" = some (some (.builtin "getset_descriptor.__get__"))
  tk : PySem.W.takesIn K (.builtin "object.__class__") = some true
  mr : PySem.W.mroIn K C (.type "object") = some true
  kit : PySem.W.kitOne K (.ref C) (.ref C) = some true
structure Tx (K : PySem.W.Frag) (mg : Str → Option Value) : Prop where
  fn : ∀ (i : Nat) (d : He.DefD), fnL[i]? = some d → ∃ fd, FunD K d.name d.qual d.params d.body d.scope (d.dvs K) (d.kws K) (He.fAd K d.at_) fd
  pr : ∀ (i : Nat) (d : He.DefD) (m : Str), prL[i]? = some d → d.at_ = ((("Board" : Str), some m) : Str × Option Str) → PropOf K (He.ga K "Board") m (He.ma K (He.ga K "Board") m) (pAd K "Board" m) ∧ ∃ fd, FunD K d.name d.qual d.params d.body d.scope [] [] (pAd K "Board" m) fd
  glo : ∀ x ∈ gloL ++ gloM, mg x = some (.ref (He.ga K x))
  fre : ∀ x ∈ freL, mg x = none
  txt : ∀ p ∈ txtL, ∃ t, mg p.1 = some (.str p.2 t)
  num : ∀ p ∈ numL, ∃ t, mg p.1 = some (.int p.2 t)
  ways : ∀ H : Hp, SqT K H (He.ga K "WAYS") [.str "down", .str "open", .str "up"]
  clB : Cls K (He.ga K "Board")
  clT : Cls K (He.ga K "Trial")
  mB : ∀ m ∈ methB, Meth K (He.ga K "Board") m (He.ma K (He.ga K "Board") m)
  mT : ∀ m ∈ methT, Meth K (He.ga K "Trial") m (He.ma K (He.ga K "Trial") m)
  aB : ∀ f ∈ attB, NoAttr K (He.ga K "Board") f
  aT : ∀ f ∈ attT, NoAttr K (He.ga K "Trial") f
  mkB : Mk K (He.ga K "Board") (He.ma K (He.ga K "Board") "__init__")
  mkT : Mk K (He.ga K "Trial") (He.ma K (He.ga K "Trial") "__init__")
  isB : InsIs K (He.ga K "Board")
/-! ### a def's promise, with what a caller wants of it -/
section
variable (P : Program) (w : World) (K : PySem.W.Frag) (mg : Str → Option Value) (base : Heap)
structure Ok (k : Nat) (f : Addr) (ps : List Str) (ds : List V) (sp : Sp) : Prop where
  ex : ∃ (fd : FuncData) (dv : List Value), FnOk P w K mg base (L2.CX P w) k f fd ps sp ∧ Vals ds dv ∧ Binds K fd ps dv
  kp : PySem.W.keepIn K (.ref f) = true
/-- a body kept to a promise -/
def Body (k : Nat) (f : Addr) (qual : Str) (scope : Scope) (body : List Stmt) (N : List Str) (sp : Sp) : Prop :=
  ∀ (cdv : Value) (A : Around) (outer : List Env) (s : Shared) (H : Hp) (vs : List V) (Q : VK) (E : XK), Room k (A.deeper (envOfC qual scope s.heap.objs.size f cdv)) → sp vs H Q E →
    ∃ t, PSs (cxOf (L2.CX P w) P w K mg base N qual scope f cdv A outer s H E) body t ∧ t { nx := fun _ H' => Q .non H', rt := Q } (start N vs) H
end
section
variable {P : Program} {w : World} {K : PySem.W.Frag} {mg : Str → Option Value} {base : Heap}
theorem Ok.mono {j k : Nat} {f : Addr} {ps : List Str} {ds : List V} {sp : Sp} (G : Ok P w K mg base j f ps ds sp) (h : j ≤ k) : Ok P w K mg base k f ps ds sp := by
  obtain ⟨⟨fd, dv, F, v, b⟩, kp⟩ := G
  exact ⟨⟨fd, dv, F.mono h, v, b⟩, kp⟩
theorem Ok.imp {k : Nat} {f : Addr} {ps : List Str} {ds : List V} {sp sp' : Sp} (G : Ok P w K mg base k f ps ds sp) (h : ∀ vs H Q E, sp' vs H Q E → sp vs H Q E) : Ok P w K mg base k f ps ds sp' := by
  obtain ⟨⟨fd, dv, F, v, b⟩, kp⟩ := G
  exact ⟨⟨fd, dv, F.imp h, v, b⟩, kp⟩
/-- a def without defaults -/
theorem Tx.ok (T : Tx K mg) {i : Nat} {d : He.DefD} (hi : fnL[i]? = some d) {N ps : List Str} {k : Nat} {sp : Sp} (S : FnScope N ps d.scope) (h0 : d.dfl = []) (h1 : d.kwd = [])
    (hb : ∀ (kV doc pm : Value) (an : Option Addr) (cdv ct : Value) (us : List Value), us.length = ps.length → bindArgs (PySem.W.fnOf d.name d.qual d.params d.body d.scope .none kV doc pm an cdv ct) ⟨us, []⟩ = pure (ps.zip us))
    (len : ∀ vs H Q E, sp vs H Q E → vs.length = ps.length) (body : Body P w K mg base k (He.fAd K d.at_) d.qual d.scope d.body N sp) : Ok P w K mg base (k + 1) (He.fAd K d.at_) ps [] sp := by
  obtain ⟨fd, F⟩ := T.fn i d hi
  have e0 : d.dvs K = [] := by
    unfold He.DefD.dvs
    rw [h0]
    rfl
  have e1 : d.kws K = [] := by
    unfold He.DefD.kws
    rw [h1]
    rfl
  rw [e0, e1] at F
  exact ⟨⟨fd, [], F.ok S len fun cdv A outer s H vs Q E hr h => body cdv A outer s H vs Q E hr h, .nil, F.bindsN hb⟩, F.kp⟩
/-- a def with one default, the last parameter's -/
theorem Tx.ok1 (T : Tx K mg) {i : Nat} {d : He.DefD} (hi : fnL[i]? = some d) {N ps : List Str} {k : Nat} {sp : Sp} {v : He.Dv} (S : FnScope N ps d.scope) (h0 : d.dfl = [v]) (h1 : d.kwd = []) (n : Nat) (hn : n + 1 = ps.length)
    (hb : ∀ (Tp : Addr) (kV doc pm : Value) (an : Option Addr) (cdv ct : Value) (us its : List Value), us.length = n → its.length = 1 →
      ∃ k, bindArgs (PySem.W.fnOf d.name d.qual d.params d.body d.scope (.ref Tp) kV doc pm an cdv ct) ⟨us, []⟩ = seqItems? (.ref Tp) >>= k ∧ k (some its.toArray) = pure (ps.zip (us ++ its.drop 0)))
    (ha : ∀ (Tp : Addr) (kV doc pm : Value) (an : Option Addr) (cdv ct : Value) (us its : List Value), us.length = ps.length → its.length = 1 →
      ∃ k, bindArgs (PySem.W.fnOf d.name d.qual d.params d.body d.scope (.ref Tp) kV doc pm an cdv ct) ⟨us, []⟩ = seqItems? (.ref Tp) >>= k ∧ k (some its.toArray) = pure (ps.zip (us ++ its.drop 1)))
    (len : ∀ vs H Q E, sp vs H Q E → vs.length = ps.length) (body : Body P w K mg base k (He.fAd K d.at_) d.qual d.scope d.body N sp) :
    Ok P w K mg base (k + 1) (He.fAd K d.at_) ps [v.v K] sp ∧ Ok P w K mg base (k + 1) (He.fAd K d.at_) ps [] sp := by
  obtain ⟨fd, F⟩ := T.fn i d hi
  have e0 : d.dvs K = [v.v K] := by
    unfold He.DefD.dvs
    rw [h0]
    rfl
  have e1 : d.kws K = [] := by
    unfold He.DefD.kws
    rw [h1]
    rfl
  rw [e0, e1] at F
  have G : FnOk P w K mg base (L2.CX P w) (k + 1) (He.fAd K d.at_) fd ps sp := F.ok S len fun cdv A outer s H vs Q E hr h => body cdv A outer s H vs Q E hr h
  obtain ⟨dv, r, b⟩ := F.binds1 (ps := ps) n 0 (by simp) (by simpa using hn) fun Tp kV doc pm an cdv ct us its l1 l2 => hb Tp kV doc pm an cdv ct us its l1 l2
  obtain ⟨dv2, r2, b2⟩ := F.binds1 (ps := ps) ps.length 1 (by simp) (by simp) fun Tp kV doc pm an cdv ct us its l1 l2 => ha Tp kV doc pm an cdv ct us its l1 l2
  exact ⟨⟨⟨fd, dv, G, r, b⟩, F.kp⟩, ⟨⟨fd, dv2, G, r2, b2⟩, F.kp⟩⟩
/-- a property's getter -/
theorem Tx.okp (T : Tx K mg) {i : Nat} {d : He.DefD} {m : Str} (hi : prL[i]? = some d) (hm : d.at_ = ((("Board" : Str), some m) : Str × Option Str)) {N ps : List Str} {k : Nat} {sp : Sp} (S : FnScope N ps d.scope)
    (hb : ∀ (kV doc pm : Value) (an : Option Addr) (cdv ct : Value) (us : List Value), us.length = ps.length → bindArgs (PySem.W.fnOf d.name d.qual d.params d.body d.scope .none kV doc pm an cdv ct) ⟨us, []⟩ = pure (ps.zip us))
    (len : ∀ vs H Q E, sp vs H Q E → vs.length = ps.length) (body : Body P w K mg base k (pAd K "Board" m) d.qual d.scope d.body N sp) : Ok P w K mg base (k + 1) (pAd K "Board" m) ps [] sp := by
  obtain ⟨_, fd, F⟩ := T.pr i d m hi hm
  exact ⟨⟨fd, [], F.ok S len fun cdv A outer s H vs Q E hr h => body cdv A outer s H vs Q E hr h, .nil, F.bindsN hb⟩, F.kp⟩
end
/-! ### calls -/
section
variable {X : Cx} {k : Nat} {f C : Addr} {ps : List Str} {sp : Sp} {ds : List V} {E : XK} {x m : Str} {p pos apos : Pos} {e o : Expr} {es : List Expr} {t : TA} {ta : TE}
theorem pe_fn (G : Ok X.prog X.w X.K X.mg X.base k f ps ds sp) (hr : Room k X.A) (hm : X.mg x = some (.ref f)) (ha : PA X (e :: es) t) (hx : Passes (L2.CX X.prog X.w) X E) (hg : Gl X x := by rfl) (hdb : (x == ("__debug__" : Str)) = false := by decide)
    (he : starEach (e :: es) X.env = (false, eval e X.env) :: starEach es X.env := by rfl) (hpl : (backTo pos (starEach es X.env)).any (·.1) = false := by rfl) : PE X (.Call (.Name x p) (e :: es) [] pos) (tCall sp ds E t) := by
  obtain ⟨⟨fd, dv, F, v, b⟩, kp⟩ := G
  exact pe_call F hr hg hm kp b v hx ha hdb he hpl
theorem pe_mt {pl : Sem Bool} (G : Ok X.prog X.w X.K X.mg X.base k f ps ds sp) (hr : Room k X.A) (c : Cls X.K C) (hm : Meth X.K C m f) (he : PE X o ta) (ha : PA X (e :: es) t) (hx : Passes (L2.CX X.prog X.w) X E)
    (hst : starEach (e :: es) X.env = (false, eval e X.env) :: starEach es X.env := by rfl) (hpl : (backTo pos (starEach es X.env)).any (·.1) = false := by rfl)
    (ht : eval (.Call (.Attribute o m apos) (e :: es) [] pos) X.env = (do
      let ov ← eval o X.env
      standAt apos.atName
      let (f, first) ← holding [ov] (getMethod ov m pl)
      callWith pos f first (backTo pos (starEach (e :: es) X.env)) (backToKw pos (keywordEach [] X.env))) := by rfl) : PE X (.Call (.Attribute o m apos) (e :: es) [] pos) (tMeth C m sp ds E ta t) := by
  obtain ⟨⟨fd, dv, F, v, b⟩, kp⟩ := G
  exact pe_meth he c hm F hr b v hx ha hst hpl ht
theorem pe_mt0 {pl : Sem Bool} (G : Ok X.prog X.w X.K X.mg X.base k f ps ds sp) (hr : Room k X.A) (c : Cls X.K C) (hm : Meth X.K C m f) (he : PE X o ta) (hx : Passes (L2.CX X.prog X.w) X E)
    (ht : eval (.Call (.Attribute o m apos) [] [] pos) X.env = (do
      let ov ← eval o X.env
      standAt apos.atName
      let (f, first) ← holding [ov] (getMethod ov m pl)
      callWith pos f first (backTo pos (starEach [] X.env)) (backToKw pos (keywordEach [] X.env))) := by rfl) : PE X (.Call (.Attribute o m apos) [] [] pos) (tMeth C m sp ds E ta tNil) := by
  obtain ⟨⟨fd, dv, F, v, b⟩, kp⟩ := G
  exact pe_meth0 he c hm F hr b v hx ht
theorem pe_mk (G : Ok X.prog X.w X.K X.mg X.base k f ps ds sp) (M : Mk X.K C f) (hr : Room (k + 1) X.A) (hm : X.mg x = some (.ref C)) (ha : PA X (e :: es) t) (hx : Passes (L2.CX X.prog X.w) X E) (hg : Gl X x := by rfl) (hdb : (x == ("__debug__" : Str)) = false := by decide)
    (he : starEach (e :: es) X.env = (false, eval e X.env) :: starEach es X.env := by rfl) (hpl : (backTo pos (starEach es X.env)).any (·.1) = false := by rfl) : PE X (.Call (.Name x p) (e :: es) [] pos) (tMake C sp ds E t) := by
  obtain ⟨⟨fd, dv, F, v, b⟩, kp⟩ := G
  exact pe_make M F hr hg hm b v hx ha hdb he hpl
theorem pe_pr {q : Addr} (G : Ok X.prog X.w X.K X.mg X.base k f ps ds sp) (hr : Room (k + 1) X.A) (c : Cls X.K C) (hp : PropOf X.K C m q f) (he : PE X o ta) (hab : attributeBase o m X.env (eval o X.env) = eval o X.env := by rfl) :
    PE X (.Attribute o m apos) (tProp C sp ds E0 ta) := by
  obtain ⟨⟨fd, dv, F, v, b⟩, kp⟩ := G
  exact pe_prop he c hp F hr b v passL hab
end
end K21


/-! the data: what stands on a board, and how it lies in the heap -/
namespace K21
open PySem PySem.Spec PyProof.Rows L2
theorem prd_app {α β : Type} {F : α → β → Prop} : ∀ {a c : List α} {b d : List β}, Paired F a b → Paired F c d → Paired F (a ++ c) (b ++ d)
  | _, _, _, _, .nil, q => q
  | _, _, _, _, .cons r t, q => .cons r (prd_app t q)
theorem prd_tk {α β : Type} {F : α → β → Prop} : ∀ {a : List α} {b : List β} (n : Nat), Paired F a b → Paired F (a.take n) (b.take n)
  | _, _, 0, _ => .nil
  | _, _, _ + 1, .nil => .nil
  | _, _, n + 1, .cons r t => .cons r (prd_tk n t)
theorem prd_dr {α β : Type} {F : α → β → Prop} : ∀ {a : List α} {b : List β} (n : Nat), Paired F a b → Paired F (a.drop n) (b.drop n)
  | _, _, 0, q => q
  | _, _, _ + 1, .nil => .nil
  | _, _, n + 1, .cons _ t => prd_dr n t
theorem prd_rev {α β : Type} {F : α → β → Prop} : ∀ {a : List α} {b : List β}, Paired F a b → Paired F a.reverse b.reverse
  | _, _, .nil => .nil
  | _, _, .cons r t => by
    rw [List.reverse_cons, List.reverse_cons]
    exact prd_app (prd_rev t) (.cons r .nil)
theorem prd_st {α β : Type} {F : α → β → Prop} {x : α} {y : β} (h : F x y) : ∀ {a : List α} {b : List β} (n : Nat), Paired F a b → Paired F (a.set n x) (b.set n y)
  | _, _, _, .nil => .nil
  | _, _, 0, .cons _ t => .cons h t
  | _, _, n + 1, .cons r t => .cons r (prd_st h n t)
theorem prd_gt {α β : Type} {F : α → β → Prop} : ∀ {a : List α} {b : List β} {i : Nat} {y : β}, Paired F a b → b[i]? = some y → ∃ x, a[i]? = some x ∧ F x y
  | _, _, i, y, .nil, e => by simp at e
  | _, _, 0, y, .cons r _, e => by
    simp at e
    subst e
    exact ⟨_, rfl, r⟩
  | _, _, i + 1, y, .cons _ t, e => by
    obtain ⟨x, h1, h2⟩ := prd_gt (i := i) (y := y) t (by simpa using e)
    exact ⟨x, by simpa using h1, h2⟩
/-! ### what stays -/
/-- all but what is named stays -/
def Kp (S : List Addr) (H H' : Hp) : Prop := ∀ a o, H a = some o → a ∉ S → H' a = some o
theorem Kp.rfl' {S : List Addr} {H : Hp} : Kp S H H := fun _ _ h _ => h
theorem Kp.trans {S : List Addr} {H H1 H2 : Hp} (a : Kp S H H1) (b : Kp S H1 H2) : Kp S H H2 := fun c o h m => b c o (a c o h m) m
theorem Kp.mono {S T : List Addr} {H H1 : Hp} (a : Kp S H H1) (h : ∀ x ∈ S, x ∈ T) : Kp T H H1 := fun c o q m => a c o q fun z => m (h c z)
theorem Kp.of_same {S : List Addr} {H H1 : Hp} (a : Same H H1) : Kp S H H1 := fun c o q _ => a c o q
theorem Kp.upd {S : List Addr} {H : Hp} {a : Addr} {o : HO} (h : a ∈ S) : Kp S H (L2.upd H a o) := fun c u q m => by
  rw [upd_ne (show c ≠ a from fun z => m (by rw [z]; exact h))]
  exact q
theorem Kp.new {S : List Addr} {H : Hp} {a : Addr} {o : HO} (h : H a = none) : Kp S H (L2.upd H a o) := fun c u q _ => by
  rw [upd_ne (ne_of_none q h)]
  exact q
theorem sN {H : Hp} {a : Addr} {o : HO} (h : H a = none) : Same H (L2.upd H a o) := fun c u q => by
  rw [upd_ne (ne_of_none q h)]
  exact q
theorem sN' {H H1 : Hp} {a : Addr} {o : HO} (s : Same H H1) (h : H1 a = none) : Same H (L2.upd H1 a o) := s.trans (sN h)
theorem Kp.new' {S : List Addr} {H H1 : Hp} {a : Addr} {o : HO} (s : Kp S H H1) (h : H1 a = none) : Kp S H (L2.upd H1 a o) := s.trans (Kp.new h)
theorem Kp.upd' {S : List Addr} {H H1 : Hp} {a : Addr} {o : HO} (s : Kp S H H1) (h : a ∈ S) : Kp S H (L2.upd H1 a o) := s.trans (Kp.upd h)
/-- .. all but tables and what is named -/
def Kw (S : List Addr) (H H' : Hp) : Prop := ∀ a o, H a = some o → (∀ ps, o ≠ .tbl ps) → a ∉ S → H' a = some o
theorem Kw.rfl' {S : List Addr} {H : Hp} : Kw S H H := fun _ _ h _ _ => h
theorem Kw.trans {S : List Addr} {H H1 H2 : Hp} (a : Kw S H H1) (b : Kw S H1 H2) : Kw S H H2 := fun c o h n m => b c o (a c o h n m) n m
theorem Kw.mono {S T : List Addr} {H H1 : Hp} (a : Kw S H H1) (h : ∀ x ∈ S, x ∈ T) : Kw T H H1 := fun c o q n m => a c o q n fun z => m (h c z)
theorem Kp.kw {S : List Addr} {H H1 : Hp} (a : Kp S H H1) : Kw S H H1 := fun c o q _ m => a c o q m
theorem Kw.ext {S : List Addr} {H H1 : Hp} (e : LamX.ExtN H H1) : Kw S H H1 := fun c o q n _ => e c o q n
theorem Kw.upd {S : List Addr} {H : Hp} {a : Addr} {o : HO} (h : a ∈ S) : Kw S H (L2.upd H a o) := (Kp.upd h).kw
/-- .. and what of the new is named was not there before -/
theorem Kw.cut {S T : List Addr} {H H1 : Hp} (a : Kw T H H1) (h : ∀ x ∈ T, x ∈ S ∨ H x = none) : Kw S H H1 := fun c o q n m => a c o q n fun z => (h c z).elim m fun e => by
  rw [e] at q
  cases q
theorem Kp.cut {S T : List Addr} {H H1 : Hp} (a : Kp T H H1) (h : ∀ x ∈ T, x ∈ S ∨ H x = none) : Kp S H H1 := fun c o q m => a c o q fun z => (h c z).elim m fun e => by
  rw [e] at q
  cases q
/-- neither a tuple, a list nor a table nor locked -/
def noSq : HO → Bool
  | .tup _ => false
  | .lst _ => false
  | .tbl _ => false
  | .frz _ _ => false
  | _ => true
/-- what S names is no sequence -/
def Off (H : Hp) (S : List Addr) : Prop := ∀ a ∈ S, ∃ o, H a = some o ∧ noSq o = true
theorem Off.nil {H : Hp} : Off H [] := fun _ h => by cases h
theorem Off.cons {H : Hp} {a : Addr} {o : HO} {S : List Addr} (h : H a = some o) (n : noSq o = true) (r : Off H S) : Off H (a :: S) := fun b hb => by
  rcases List.mem_cons.mp hb with e | hb
  · rw [e]
    exact ⟨o, h, n⟩
  · exact r b hb
theorem Off.tup {H : Hp} {S : List Addr} (f : Off H S) {a : Addr} {xs : List V} (h : H a = some (.tup xs)) : a ∉ S := fun m => by
  obtain ⟨o, e, n⟩ := f a m
  rw [h] at e
  cases e
  cases n
theorem Off.lst {H : Hp} {S : List Addr} (f : Off H S) {a : Addr} {xs : List V} (h : H a = some (.lst xs)) : a ∉ S := fun m => by
  obtain ⟨o, e, n⟩ := f a m
  rw [h] at e
  cases e
  cases n
/-- tuples stay -/
def TK (H H' : Hp) : Prop := ∀ a xs, H a = some (.tup xs) → H' a = some (.tup xs)
theorem TK.rfl' {H : Hp} : TK H H := fun _ _ h => h
theorem TK.trans {H H1 H2 : Hp} (a : TK H H1) (b : TK H1 H2) : TK H H2 := fun c o h => b c o (a c o h)
theorem Same.tk {H H1 : Hp} (a : Same H H1) : TK H H1 := fun c o h => a c _ h
theorem Kp.tk {S : List Addr} {H H1 : Hp} (a : Kp S H H1) (f : Off H S) : TK H H1 := fun c o h => a c _ h (f.tup h)
theorem Kp.tk0 {H H1 : Hp} (a : Kp [] H H1) : TK H H1 := a.tk Off.nil
theorem Kw.tk {S : List Addr} {H H1 : Hp} (a : Kw S H H1) (f : Off H S) : TK H H1 := fun c o h => a c _ h (fun _ z => by cases z) (f.tup h)
theorem Kw.tk0 {H H1 : Hp} (a : Kw [] H H1) : TK H H1 := a.tk Off.nil
/-! ### data made of tuples -/
mutual
inductive DT (H : Hp) : V → PyData → Prop
  | non : DT H .non .none
  | bl (b : Bool) : DT H (.bl b) (.bool b)
  | int (i : Int) : DT H (.int i) (.int i)
  | str (x : Str) : DT H (.str x) (.str x)
  | tup {a : Addr} {xs : List V} {ds : List PyData} : H a = some (.tup xs) → DTs H xs ds → DT H (.ref a) (.tuple ds)
inductive DTs (H : Hp) : List V → List PyData → Prop
  | nil : DTs H [] []
  | cons {v : V} {vs : List V} {d : PyData} {ds : List PyData} : DT H v d → DTs H vs ds → DTs H (v :: vs) (d :: ds)
end
mutual
theorem DT.tk {H H' : Hp} (k : TK H H') : ∀ {d : PyData} {v : V}, DT H v d → DT H' v d
  | .none, _, h => by cases h; exact .non
  | .bool _, _, h => by cases h; exact .bl _
  | .int _, _, h => by cases h; exact .int _
  | .str _, _, h => by cases h; exact .str _
  | .list _, _, h => by cases h
  | .dict _, _, h => by cases h
  | .tuple ds, _, h => by
    cases h with
    | tup e r => exact .tup (k _ _ e) (DTs.tk k r)
theorem DTs.tk {H H' : Hp} (k : TK H H') : ∀ {ds : List PyData} {vs : List V}, DTs H vs ds → DTs H' vs ds
  | [], _, h => by cases h; exact .nil
  | d :: ds, _, h => by
    cases h with
    | cons a b => exact .cons (DT.tk k a) (DTs.tk k b)
end
mutual
theorem DT.dp {K : PySem.W.Frag} {H : Hp} : ∀ {d : PyData} {v : V}, DT H v d → Dp K H v d
  | .none, _, h => by cases h; exact .non
  | .bool _, _, h => by cases h; exact .bl _
  | .int _, _, h => by cases h; exact .int _
  | .str _, _, h => by cases h; exact .str _
  | .list _, _, h => by cases h
  | .dict _, _, h => by cases h
  | .tuple ds, _, h => by
    cases h with
    | tup e r => exact .tup (SqT.of e) (DTs.dp r)
theorem DTs.dp {K : PySem.W.Frag} {H : Hp} : ∀ {ds : List PyData} {vs : List V}, DTs H vs ds → DpAll K H vs ds
  | [], _, h => by cases h; exact .nil
  | d :: ds, _, h => by
    cases h with
    | cons a b => exact .cons (DT.dp a) (DTs.dp b)
end
theorem DTs.app {H : Hp} : ∀ {vs ws : List V} {ds es : List PyData}, DTs H vs ds → DTs H ws es → DTs H (vs ++ ws) (ds ++ es)
  | _, _, _, _, .nil, q => q
  | _, _, _, _, .cons r t, q => .cons r (DTs.app t q)
theorem DTs.len {H : Hp} : ∀ {vs : List V} {ds : List PyData}, DTs H vs ds → vs.length = ds.length
  | _, _, .nil => rfl
  | _, _, .cons _ t => congrArg Nat.succ (DTs.len t)
/-! ### data made of tuples and lists, told of by Dp over what is tracked -/
mutual
inductive DL (H : Hp) : V → PyData → Prop
  | non : DL H .non .none
  | bl (b : Bool) : DL H (.bl b) (.bool b)
  | int (i : Int) : DL H (.int i) (.int i)
  | str (x : Str) : DL H (.str x) (.str x)
  | tup {a : Addr} {xs : List V} {ds : List PyData} : H a = some (.tup xs) → DLs H xs ds → DL H (.ref a) (.tuple ds)
  | lst {a : Addr} {xs : List V} {ds : List PyData} : H a = some (.lst xs) → DLs H xs ds → DL H (.ref a) (.list ds)
inductive DLs (H : Hp) : List V → List PyData → Prop
  | nil : DLs H [] []
  | cons {v : V} {vs : List V} {d : PyData} {ds : List PyData} : DL H v d → DLs H vs ds → DLs H (v :: vs) (d :: ds)
end
/-- tuples and lists stay -/
def SK (H H' : Hp) : Prop := TK H H' ∧ ∀ a xs, H a = some (.lst xs) → H' a = some (.lst xs)
theorem Same.sk {H H1 : Hp} (a : Same H H1) : SK H H1 := ⟨Same.tk a, fun c o h => a c _ h⟩
theorem Kp.sk {S : List Addr} {H H1 : Hp} (a : Kp S H H1) (f : Off H S) : SK H H1 := ⟨a.tk f, fun c o h => a c _ h (f.lst h)⟩
theorem Kw.sk {S : List Addr} {H H1 : Hp} (a : Kw S H H1) (f : Off H S) : SK H H1 := ⟨a.tk f, fun c o h => a c _ h (fun _ z => by cases z) (f.lst h)⟩
theorem SK.trans {H H1 H2 : Hp} (a : SK H H1) (b : SK H1 H2) : SK H H2 := ⟨a.1.trans b.1, fun c o h => b.2 c o (a.2 c o h)⟩
mutual
theorem DL.sk {H H' : Hp} (k : SK H H') : ∀ {d : PyData} {v : V}, DL H v d → DL H' v d
  | .none, _, h => by cases h; exact .non
  | .bool _, _, h => by cases h; exact .bl _
  | .int _, _, h => by cases h; exact .int _
  | .str _, _, h => by cases h; exact .str _
  | .dict _, _, h => by cases h
  | .list ds, _, h => by
    cases h with
    | lst e r => exact .lst (k.2 _ _ e) (DLs.sk k r)
  | .tuple ds, _, h => by
    cases h with
    | tup e r => exact .tup (k.1 _ _ e) (DLs.sk k r)
theorem DLs.sk {H H' : Hp} (k : SK H H') : ∀ {ds : List PyData} {vs : List V}, DLs H vs ds → DLs H' vs ds
  | [], _, h => by cases h; exact .nil
  | d :: ds, _, h => by
    cases h with
    | cons a b => exact .cons (DL.sk k a) (DLs.sk k b)
end
mutual
theorem DL.dp {K : PySem.W.Frag} {H : Hp} : ∀ {d : PyData} {v : V}, DL H v d → Dp K H v d
  | .none, _, h => by cases h; exact .non
  | .bool _, _, h => by cases h; exact .bl _
  | .int _, _, h => by cases h; exact .int _
  | .str _, _, h => by cases h; exact .str _
  | .dict _, _, h => by cases h
  | .list ds, _, h => by
    cases h with
    | lst e r => exact .lst (SqL.of e) (DLs.dp r)
  | .tuple ds, _, h => by
    cases h with
    | tup e r => exact .tup (SqT.of e) (DLs.dp r)
theorem DLs.dp {K : PySem.W.Frag} {H : Hp} : ∀ {ds : List PyData} {vs : List V}, DLs H vs ds → DpAll K H vs ds
  | [], _, h => by cases h; exact .nil
  | d :: ds, _, h => by
    cases h with
    | cons a b => exact .cons (DL.dp a) (DLs.dp b)
end
theorem DLs.app {H : Hp} : ∀ {vs ws : List V} {ds es : List PyData}, DLs H vs ds → DLs H ws es → DLs H (vs ++ ws) (ds ++ es)
  | _, _, _, _, .nil, q => q
  | _, _, _, _, .cons r t, q => .cons r (DLs.app t q)
theorem DLs.ints {H : Hp} : ∀ ns : List Int, DLs H (ns.map V.int) (ns.map PyData.int)
  | [] => .nil
  | n :: r => .cons (.int n) (DLs.ints r)
/-! ### equality of data -/
theorem eqvAll_len : ∀ {xs ys : List PyData}, PyData.eqvAll xs ys = true → xs.length = ys.length
  | [], [], _ => rfl
  | [], _ :: _, h => by simp [PyData.eqvAll] at h
  | _ :: _, [], h => by simp [PyData.eqvAll] at h
  | x :: xs, y :: ys, h => by
    rw [PyData.eqvAll, Bool.and_eq_true] at h
    exact congrArg Nat.succ (eqvAll_len h.2)
theorem eqv_tup_len {xs ys : List PyData} (h : xs.length ≠ ys.length) : PyData.eqv (.tuple xs) (.tuple ys) = false := by
  cases e : PyData.eqv (.tuple xs) (.tuple ys) with
  | false => rfl
  | true =>
    rw [PyData.eqv] at e
    exact absurd (eqvAll_len e) h
/-- may be compared, at most k deep -/
def Sh (k : Nat) (d : PyData) : Prop := d.canLay0 = true ∧ d.depth ≤ k
theorem Sh.shaped {k : Nat} {d : PyData} (h : Sh k d) (hk : k ≤ 64) : SeqAt.shaped d = true := by
  unfold SeqAt.shaped
  rw [h.1, decide_eq_true (Nat.le_trans h.2 hk)]
  rfl
theorem Sh.refl {k : Nat} {d : PyData} (h : Sh k d) : PyData.eqv d d = true := SeqAt.eqv_refl d h.1
theorem Sh.mono {k j : Nat} {d : PyData} (h : Sh k d) (hk : k ≤ j) : Sh j d := ⟨h.1, Nat.le_trans h.2 hk⟩
theorem Sh.int {k : Nat} (i : Int) : Sh k (.int i) := ⟨rfl, Nat.zero_le _⟩
theorem Sh.bl {k : Nat} (b : Bool) : Sh k (.bool b) := ⟨rfl, Nat.zero_le _⟩
theorem Sh.non {k : Nat} : Sh k .none := ⟨rfl, Nat.zero_le _⟩
theorem sh_all {k : Nat} : ∀ {ds : List PyData}, (∀ d ∈ ds, Sh k d) → PyData.canLayAll0 ds = true ∧ PyData.depthAll ds ≤ k
  | [], _ => ⟨rfl, Nat.zero_le _⟩
  | d :: ds, h => by
    obtain ⟨a, b⟩ := sh_all fun x hx => h x (List.mem_cons_of_mem _ hx)
    obtain ⟨c, e⟩ := h d List.mem_cons_self
    refine ⟨?_, ?_⟩
    · rw [PyData.canLayAll0, c, a]
      rfl
    · rw [PyData.depthAll]
      exact Nat.max_le.mpr ⟨e, b⟩
theorem Sh.list {k : Nat} {ds : List PyData} (h : ∀ d ∈ ds, Sh k d) : Sh (k + 1) (.list ds) := by
  obtain ⟨a, b⟩ := sh_all h
  refine ⟨?_, ?_⟩
  · rw [PyData.canLay0]
    exact a
  · rw [PyData.depth]
    omega
theorem Sh.tuple {k : Nat} {ds : List PyData} (h : ∀ d ∈ ds, Sh k d) : Sh (k + 1) (.tuple ds) := by
  obtain ⟨a, b⟩ := sh_all h
  refine ⟨?_, ?_⟩
  · rw [PyData.canLay0]
    exact a
  · rw [PyData.depth]
    omega
/-! ### a board -/
/-- a move: whether it goes to the slot 1 (or to a new one), its amount, its first half, whether both halves are done -/
structure Mv where
  goal : Bool
  amt : Int
  first : Str
  done : Bool
def gV : Bool → V
  | true => .int 1
  | false => .non
/-- what stands -/
structure Sd where
  cells : List Int
  total : Int
  moves : List Mv
  readers : Nat
structure Nw where
  deeds : List PyData
  sd : Sd
structure Bd where
  now : Nw
  past : List Nw
  coming : List Nw
def HalfW (z : Str) : Prop := z = "give" ∨ z = "take"
def MbAt (H : Hp) (b : Addr) (g : Bool) (x : Int) (z : Str) : Prop := H b = some (.tup [.int 0, gV g, .int x, .str z]) ∧ HalfW z
def MvAt (H : Hp) (v : V) (m : Mv) : Prop := ∃ a b, v = .ref a ∧ H a = some (.tup [.ref b, .bl m.done]) ∧ MbAt H b m.goal m.amt m.first
def LkAt (H : Hp) (v : V) : Prop := ∃ a w e, v = .ref a ∧ H a = some (.tup [w, .non, .ref e, .int 0]) ∧ H e = some (.tup [])
def SdAt (H : Hp) (v : V) (s : Sd) : Prop := ∃ a ct mt lt ms ls, v = .ref a ∧ H a = some (.tup [.ref ct, .int s.total, .ref mt, .ref lt]) ∧ H ct = some (.tup (s.cells.map V.int)) ∧
  H mt = some (.tup ms) ∧ Paired (MvAt H) ms s.moves ∧ H lt = some (.tup ls) ∧ ls.length = s.readers ∧ ∀ l ∈ ls, LkAt H l
def NwAt (H : Hp) (v : V) (n : Nw) : Prop := ∃ a dt st xs, v = .ref a ∧ H a = some (.tup [.ref dt, st]) ∧ H dt = some (.tup xs) ∧ DTs H xs n.deeds ∧ SdAt H st n.sd
def NwsAt (H : Hp) (v : V) (ns : List Nw) : Prop := ∃ a xs, v = .ref a ∧ H a = some (.tup xs) ∧ Paired (NwAt H) xs ns
/-- sizes: at most M deeds -/
structure SdOk (M : Nat) (s : Sd) : Prop where
  c2 : 2 ≤ s.cells.length
  cM : s.cells.length ≤ M + 2
  mM : s.moves.length ≤ M
  rM : s.readers ≤ M
structure NwOk (M : Nat) (n : Nw) : Prop where
  sd : SdOk M n.sd
  dM : n.deeds.length ≤ M
  dS : ∀ d ∈ n.deeds, Sh 3 d
structure BdOk (M : Nat) (b : Bd) : Prop where
  now : NwOk M b.now
  past : ∀ n ∈ b.past, NwOk M n
  coming : ∀ n ∈ b.coming, NwOk M n
  pc : b.past.length + b.coming.length ≤ M
theorem SdOk.mono {M N : Nat} {s : Sd} (h : SdOk M s) (l : M ≤ N) : SdOk N s := ⟨h.c2, by have := h.cM; omega, by have := h.mM; omega, by have := h.rM; omega⟩
theorem NwOk.mono {M N : Nat} {s : Nw} (h : NwOk M s) (l : M ≤ N) : NwOk N s := ⟨h.sd.mono l, by have := h.dM; omega, h.dS⟩
theorem BdOk.mono {M N : Nat} {b : Bd} (h : BdOk M b) (l : M ≤ N) : BdOk N b :=
  ⟨h.now.mono l, fun n m => (h.past n m).mono l, fun n m => (h.coming n m).mono l, by have := h.pc; omega⟩
section
variable {H H' : Hp} (k : TK H H')
include k
theorem MbAt.tk {b : Addr} {g : Bool} {x : Int} {z : Str} (h : MbAt H b g x z) : MbAt H' b g x z := ⟨k _ _ h.1, h.2⟩
theorem MvAt.tk {v : V} {m : Mv} (h : MvAt H v m) : MvAt H' v m := by
  obtain ⟨a, b, e, h1, h2⟩ := h
  exact ⟨a, b, e, k _ _ h1, MbAt.tk k h2⟩
theorem LkAt.tk {v : V} (h : LkAt H v) : LkAt H' v := by
  obtain ⟨a, w, e, e1, h1, h2⟩ := h
  exact ⟨a, w, e, e1, k _ _ h1, k _ _ h2⟩
theorem SdAt.tk {v : V} {s : Sd} (h : SdAt H v s) : SdAt H' v s := by
  obtain ⟨a, ct, mt, lt, ms, ls, e, h1, h2, h3, h4, h5, h6, h7⟩ := h
  exact ⟨a, ct, mt, lt, ms, ls, e, k _ _ h1, k _ _ h2, k _ _ h3, h4.mono fun _ _ q => MvAt.tk k q, k _ _ h5, h6, fun l m => LkAt.tk k (h7 l m)⟩
theorem NwAt.tk {v : V} {n : Nw} (h : NwAt H v n) : NwAt H' v n := by
  obtain ⟨a, dt, st, xs, e, h1, h2, h3, h4⟩ := h
  exact ⟨a, dt, st, xs, e, k _ _ h1, k _ _ h2, DTs.tk k h3, SdAt.tk k h4⟩
theorem NwsAt.tk {v : V} {ns : List Nw} (h : NwsAt H v ns) : NwsAt H' v ns := by
  obtain ⟨a, xs, e, h1, h2⟩ := h
  exact ⟨a, xs, e, k _ _ h1, h2.mono fun _ _ q => NwAt.tk k q⟩
end
/-- a board's attributes -/
def bF (n p c : V) : List (Str × V) := [("many", .int 2), ("now", n), ("past", p), ("coming", c)]
/-- the board at p: C its class, dx its own dict, its three values -/
structure BdAt (C : Addr) (H : Hp) (p : Addr) (dx : Addr) (n v c : V) (b : Bd) : Prop where
  ob : H p = some (.ins C dx (bF n v c))
  now : NwAt H n b.now
  past : NwsAt H v b.past
  coming : NwsAt H c b.coming
theorem BdAt.kp {C : Addr} {H H' : Hp} {p dx : Addr} {n v c : V} {b : Bd} (h : BdAt C H p dx n v c b) (k : TK H H') (o : H' p = some (.ins C dx (bF n v c))) : BdAt C H' p dx n v c b :=
  ⟨o, NwAt.tk k h.now, NwsAt.tk k h.past, NwsAt.tk k h.coming⟩
theorem BdAt.at {C : Addr} {H H' : Hp} {S : List Addr} {p dx : Addr} {n v c : V} {b : Bd} (h : BdAt C H p dx n v c b) (k : Kp S H H') (f : Off H S) (m : p ∉ S) : BdAt C H' p dx n v c b :=
  h.kp (k.tk f) (k p _ h.ob m)
theorem BdAt.atw {C : Addr} {H H' : Hp} {S : List Addr} {p dx : Addr} {n v c : V} {b : Bd} (h : BdAt C H p dx n v c b) (k : Kw S H H') (f : Off H S) (m : p ∉ S) : BdAt C H' p dx n v c b :=
  h.kp (k.tk f) (k p _ h.ob (fun _ z => by cases z) m)
end K21

/-! the small defs -/
namespace K21
open PySem PySem.Spec PyProof.Rows L2
section
variable {P : Program} {w : World} {K : PySem.W.Frag} {mg : Str → Option Value} {base : Heap}
theorem Tx.mglo (T : Tx K mg) (x : Str) (h : x ∈ gloL ++ gloM := by decide +kernel) : mg x = some (.ref (He.ga K x)) := T.glo x h
theorem Tx.mfre (T : Tx K mg) (x : Str) (h : x ∈ freL := by decide +kernel) : mg x = none := T.fre x h
theorem Tx.mtxt (T : Tx K mg) (x z : Str) (h : (x, z) ∈ txtL := by decide +kernel) : ∃ t, mg x = some (.str z t) := T.txt (x, z) h
theorem Tx.mnum (T : Tx K mg) (x : Str) (i : Int) (h : (x, i) ∈ numL := by decide +kernel) : ∃ t, mg x = some (.int i t) := T.num (x, i) h
end
/-- a constant text of the module -/
theorem pe_tx {X : Cx} {x z : Str} {pos : Pos} (h : ∃ t, X.mg x = some (.str z t)) (hg : Gl X x := by rfl) (hd : (x == ("__debug__" : Str)) = false := by decide) : PE X (.Name x pos) (tC (.str z)) := by
  obtain ⟨t, e⟩ := h
  exact pe_glob hg e ⟨t, rfl⟩ hd
theorem pe_nm {X : Cx} {x : Str} {i : Int} {pos : Pos} (h : ∃ t, X.mg x = some (.int i t)) (hg : Gl X x := by rfl) (hd : (x == ("__debug__" : Str)) = false := by decide) : PE X (.Name x pos) (tC (.int i)) := by
  obtain ⟨t, e⟩ := h
  exact pe_glob hg e ⟨t, rfl⟩ hd
/-- no test: the turn's element -/
theorem yesT {σ : L2.St} {H : Hp} {te : TE} {F : VK} {B : Hp → Prop} (h : te σ H F) : tYes σ H fun b H3 => if b = true then te σ H3 F else B H3 := by
  show (if true = true then te σ H F else B H)
  rw [if_pos rfl]
  exact h
theorem dec_and {a b : Prop} [Decidable a] [Decidable b] : decide (a ∧ b) = (decide a && decide b) := by
  by_cases ha : a <;> by_cases hb : b <;> simp [ha, hb]
section
variable {P : Program} {w : World} {K : PySem.W.Frag} {mg : Str → Option Value} {base : Heap}
/-! ### is_integer -/
def spInteger : Sp := fun vs H Q _ => ∃ i : Int, vs = [.int i] ∧ Q (.bl true) H
theorem ok_is_integer (T : Tx K mg) : Ok P w K mg base 1 (He.fAd K d_is_integer.at_) ["thing"] [] spInteger := by
  refine T.ok at_is_integer sc_is_integer rfl rfl (fun _ _ _ _ _ _ us hl => match us, hl with | [_], _ => rfl) (fun vs H Q E h => ?_) (fun cdv A outer s H vs Q E hr h => ?_)
  · obtain ⟨i, rfl, _⟩ := h
    rfl
  · obtain ⟨i, rfl, q⟩ := h
    refine ⟨_, pss_one (ps_ret (pe_and (pe_callB call_isi (by rfl) (T.mfre "isinstance") PyProof.Rows.boot_isinstance (pa_cons (pv 0) (pa_cons (pe_bltn (v := .ty "int") (by rfl) (T.mfre "int") PyProof.Rows.boot_int rfl) pa_nil)))
      (pe_one (pe_not (pe_callB call_isi (by rfl) (T.mfre "isinstance") PyProof.Rows.boot_isinstance (pa_cons (pv 0) (pa_cons (pe_bltn (v := .ty "bool") (by rfl) (T.mfre "bool") PyProof.Rows.boot_bool rfl) pa_nil))))))), ?_⟩
    refine ⟨_, rfl, .int i, .ty "int", .type "int", .type "int", true, rfl, .ty _, .base (.int i), kit_ty (by decide +kernel), true, rfl, iteT ?_⟩
    exact ⟨_, rfl, .int i, .ty "bool", .type "int", .type "bool", false, rfl, .ty _, .base (.int i), kit_ty (by decide +kernel), false, rfl, q⟩
/-! ### is_whole -/
def spWhole : Sp := fun vs H Q _ => ∃ i a b : Int, vs = [.int i, .int a, .int b] ∧ Q (.bl (decide (a ≤ i ∧ i ≤ b))) H
theorem ok_is_whole (T : Tx K mg) : Ok P w K mg base 2 (He.fAd K d_is_whole.at_) ["thing", "least", "most"] [] spWhole := by
  refine T.ok at_is_whole sc_is_whole rfl rfl (fun _ _ _ _ _ _ us hl => match us, hl with | [_, _, _], _ => rfl) (fun vs H Q E h => ?_) (fun cdv A outer s H vs Q E hr h => ?_)
  · obtain ⟨i, a, b, rfl, _⟩ := h
    rfl
  · obtain ⟨i, a, b, rfl, q⟩ := h
    refine ⟨_, pss_one (ps_ret (pe_and (pe_fn (ok_is_integer T) hr (T.mglo "is_integer") (pa_cons (pv 0) pa_nil) passL) (pe_one (pe_chain op_le op_le (pv 1) (pv 0) (pv 2))))), ?_⟩
    refine ⟨_, rfl, i, rfl, true, rfl, iteT ?_⟩
    refine ⟨_, rfl, _, rfl, _, _, rfl, rfl, _, rfl, ?_⟩
    rw [dec_and] at q
    refine ite2 (fun c => ?_) (fun c => ?_)
    · refine ⟨_, rfl, _, _, rfl, rfl, ?_⟩
      rw [c] at q
      exact q
    · rw [Bool.not_eq_true] at c
      rw [c] at q
      exact q
/-! ### is_word, are_ways, need_ways -/
def spWord (K : PySem.W.Frag) : Sp := fun vs H Q _ => vs = [.str "up", .ref (He.ga K "WAYS")] ∧ Q (.bl true) H
theorem ok_is_word (T : Tx K mg) : Ok P w K mg base 1 (He.fAd K d_is_word.at_) ["thing", "words"] [] (spWord K) := by
  refine T.ok at_is_word sc_is_word rfl rfl (fun _ _ _ _ _ _ us hl => match us, hl with | [_, _], _ => rfl) (fun vs H Q E h => ?_) (fun cdv A outer s H vs Q E hr h => ?_)
  · obtain ⟨rfl, _⟩ := h
    rfl
  · obtain ⟨rfl, q⟩ := h
    refine ⟨_, pss_one (ps_ret (pe_and (pe_callB call_isi (by rfl) (T.mfre "isinstance") PyProof.Rows.boot_isinstance (pa_cons (pv 0) (pa_cons (pe_bltn (v := .ty "str") (by rfl) (T.mfre "str") PyProof.Rows.boot_str rfl) pa_nil)))
      (pe_one (pe_cmpR op_in_seq (pv 0) (pv 1) (by rfl))))), ?_⟩
    refine ⟨_, rfl, .str "up", .ty "str", .type "str", .type "str", true, rfl, .ty _, .base (.str _), kit_ty (by decide +kernel), true, rfl, iteT ?_⟩
    refine ⟨_, rfl, _, rfl, _, _, rfl, .inr (T.ways H), rfl, rfl, ?_⟩
    have e : inV (.str "up") [.str "down", .str "open", .str "up"] = true := by decide +kernel
    show Q (.bl (inV (.str "up") [.str "down", .str "open", .str "up"])) H
    rw [e]
    exact q
def spWays : Sp := fun vs H Q _ => ∃ t : Addr, vs = [.ref t, .int 6] ∧ H t = some (.tup [.str "up"]) ∧ ∀ H', Same H H' → Q (.bl true) H'
theorem ok_are_ways (T : Tx K mg) : Ok P w K mg base 2 (He.fAd K d_are_ways.at_) ["thing", "most"] [] spWays := by
  refine T.ok at_are_ways sc_are_ways rfl rfl (fun _ _ _ _ _ _ us hl => match us, hl with | [_, _], _ => rfl) (fun vs H Q E h => ?_) (fun cdv A outer s H vs Q E hr h => ?_)
  · obtain ⟨t, rfl, _⟩ := h
    rfl
  · obtain ⟨t, rfl, ht, q⟩ := h
    refine ⟨_, pss_one (ps_ret (pe_and (pe_callB call_isi (by rfl) (T.mfre "isinstance") PyProof.Rows.boot_isinstance (pa_cons (pv 0) (pa_cons (pe_bltn (v := .ty "tuple") (by rfl) (T.mfre "tuple") PyProof.Rows.boot_tuple rfl) pa_nil)))
      (pe_and (pe_chain op_le op_le pe_int (pe_callB call_len_seq (by rfl) (T.mfre "len") PySem.boot_len (pa_cons (pv 0) pa_nil)) (pv 1))
      (pe_one (pe_callB (cr_all rfl) (by rfl) (T.mfre "all") PyProof.Rows.boot_all (pa_cons (pe_lc (own := [("item", 2)]) (g := gName 2) (tt := tYes) rfl sc_are_ways.nd (pi_tup (pv 0))
        (blkOk_by (N := N_are_ways) (sc := defScope s_are_ways) (by decide +kernel)) (fun _ _ _ _ _ => pg_name (i := 2) sc_are_ways.nd rfl (Or.inl rfl)) (fun _ _ _ _ _ => pts_nil)
        (fun _ _ _ _ _ => pe_fn (ok_is_word T) (hr.mono (by decide)) (T.mglo "is_word") (pa_cons (pv 2) (pa_cons (pe_glob (v := .ref (He.ga K "WAYS")) (by rfl) (T.mglo "WAYS") rfl) pa_nil)) passL)) pa_nil)))))), ?_⟩
    refine ⟨_, rfl, .ref t, .ty "tuple", .type "tuple", .type "tuple", true, rfl, .ty _, .base (.tup ht), kit_ty (by decide +kernel), true, rfl, iteT ?_⟩
    refine ⟨_, rfl, t, _, rfl, .inr (SqT.of ht), _, _, rfl, rfl, _, rfl, ?_⟩
    refine iteT ⟨_, rfl, _, _, rfl, rfl, true, rfl, iteT ?_⟩
    refine ⟨_, rfl, t, rfl, ⟨_, SqT.of ht⟩, fun D hD => lc_tup (K := K) (a := t) (xs := [.str "up"]) (fun i H1 => H1 D = some (.lst (List.replicate i (.bl true))) ∧ Same H H1) ⟨upd_same, sN hD⟩
      (fun i H1 _ ⟨_, s⟩ => SqT.of (s t _ ht)) (fun i x H1 hx ⟨e, s⟩ => ?_) (fun H1 ⟨e, s⟩ => ?_)⟩
    · have hi : i = 0 := by
        have := (List.getElem?_eq_some_iff.mp hx).1
        simp at this
        omega
      subst hi
      cases hx
      refine ⟨rfl, ?_⟩
      refine yesT ?_
      refine ⟨_, rfl, rfl, [], e, by decide, upd_same, fun a o z => ?_⟩
      rw [upd_ne (ne_of_none z hD)]
      exact s a o z
    · exact ⟨D, [true], rfl, SqL.of e, q H1 s⟩

def spNeedWays : Sp := fun vs H Q _ => ∃ t : Addr, vs = [.ref t] ∧ H t = some (.tup [.str "up"]) ∧ ∀ H', Same H H' → Q (.ref t) H'
theorem ok_need_ways (T : Tx K mg) : Ok P w K mg base 3 (He.fAd K d_need_ways.at_) ["ways"] [] spNeedWays := by
  refine T.ok at_need_ways sc_need_ways rfl rfl (fun _ _ _ _ _ _ us hl => match us, hl with | [_], _ => rfl) (fun vs H Q E h => ?_) (fun cdv A outer s H vs Q E hr h => ?_)
  · obtain ⟨t, rfl, _⟩ := h
    rfl
  · obtain ⟨t, rfl, ht, q⟩ := h
    refine ⟨_, pss_cons (ps_if (pt_not (pt_val (pe_fn (ok_are_ways T) hr (T.mglo "are_ways") (pa_cons (pv 0) (pa_cons (pe_nm (T.mnum "MOST_WAYS" 6)) pa_nil)) passL))) pss_never pss_nil) (pss_one (ps_ret (pv 0))), ?_⟩
    exact ⟨_, rfl, t, rfl, ht, fun H' s => ⟨true, rfl, iteF ⟨_, rfl, q H' s⟩⟩⟩
def spLooker : Sp := fun vs H Q _ => ∃ x : V, vs = [x] ∧ ∀ H' a, Same H H' → LkAt H' (.ref a) → Q (.ref a) H'
theorem ok_looker_of (T : Tx K mg) : Ok P w K mg base 1 (He.fAd K d_looker_of.at_) ["ways"] [] spLooker := by
  refine T.ok at_looker_of sc_looker_of rfl rfl (fun _ _ _ _ _ _ us hl => match us, hl with | [_], _ => rfl) (fun vs H Q E h => ?_) (fun cdv A outer s H vs Q E hr h => ?_)
  · obtain ⟨x, rfl, _⟩ := h
    rfl
  · obtain ⟨x, rfl, q⟩ := h
    refine ⟨_, pss_one (ps_ret (pe_tup (pa_cons (pv 0) (pa_cons pe_non (pa_cons (pe_tup pa_nil) (pa_cons pe_int pa_nil)))))), ?_⟩
    refine ⟨_, rfl, by show 0 ≤ sizeLine; decide, fun e he => ⟨by show 4 ≤ sizeLine; decide, fun a ha => q _ a (sN' (sN he) ha) ⟨a, x, e, rfl, upd_same, ?_⟩⟩⟩
    rw [upd_ne (ne_of_none (o := .tup []) upd_same ha)]
    exact upd_same
end
/-! ### parts of tuples -/
theorem cut_to (xs : List V) (j : Nat) : cutV xs none (some (j : Int)) = xs.take j := by
  unfold cutV
  rw [HT.sIx_none, HT.sIx_nat, List.drop_zero, Nat.sub_zero]
  by_cases h : j ≤ xs.length
  · rw [Nat.min_eq_left h]
  · rw [Nat.min_eq_right (by omega), List.take_of_length_le (by omega), List.take_of_length_le (by omega)]
theorem cut_from (xs : List V) (j : Nat) : cutV xs (some (j : Int)) none = xs.drop j := by
  unfold cutV
  rw [HT.sIx_none, HT.sIx_nat]
  by_cases h : j ≤ xs.length
  · rw [Nat.min_eq_left h]
    exact List.take_of_length_le (by rw [List.length_drop]; exact Nat.le_refl _)
  · rw [Nat.min_eq_right (by omega), List.drop_of_length_le (Nat.le_refl _), List.drop_of_length_le (by omega), List.take_nil]
theorem noP {σ : L2.St} {H : Hp} {F : Option Int → Hp → Prop} (h : F none H) : tNoPart σ H F := h
theorem slA {K : PySem.W.Frag} {H : Hp} {a : Addr} {xs : List V} {lo hi : Option Int} {Q : VK} (h : SqT K H a xs) (q : ∀ p H', Same H H' → SqT K H' p (cutV xs lo hi) → Q (.ref p) H') : rSlA K (.ref a) lo hi H Q := by
  refine ⟨a, xs, rfl, h, fun hw => q a H (Same.refl H) ?_, fun _ p hp => q p _ (sN hp) (SqT.of upd_same)⟩
  have e : cutV xs lo hi = xs := by
    unfold cutV
    rw [hw.1, hw.2, List.drop_zero, Nat.sub_zero, List.take_of_length_le (Nat.le_refl _)]
  rw [e]
  exact h
theorem Same.sqT {K : PySem.W.Frag} {H H' : Hp} {a : Addr} {xs : List V} (e : Same H H') (h : SqT K H a xs) : SqT K H' a xs := by
  rcases h with (h | ⟨o, h⟩) | h
  · exact .inl (.inl (e _ _ h))
  · exact .inl (.inr ⟨o, e _ _ h⟩)
  · exact .inr h
theorem line_le {n : Nat} (h : n ≤ 1000) : n ≤ sizeLine := Nat.le_trans h (by decide)
theorem set_cut {α : Type} : ∀ (xs : List α) (j : Nat) (y : α), j < xs.length → xs.take j ++ y :: xs.drop (j + 1) = xs.set j y
  | [], _, _, h => by simp at h
  | _ :: _, 0, _, _ => rfl
  | x :: xs, j + 1, y, h => by
    show x :: (xs.take j ++ y :: xs.drop (j + 1)) = x :: xs.set j y
    rw [set_cut xs j y (by simpa using h)]
section
variable {P : Program} {w : World} {K : PySem.W.Frag} {mg : Str → Option Value} {base : Heap}
/-! ### put_to, with_item, other_half, half_on -/
def spPut : Sp := fun vs H Q _ => ∃ (c : Addr) (j : Nat) (x : Int) (cs : List Int), vs = [.ref c, .int (j : Int), .int x] ∧ H c = some (.tup (cs.map V.int)) ∧ j < cs.length ∧ cs.length ≤ 900 ∧
  ∀ (H' : Hp) (p : Addr) (ds : List Int), Same H H' → H' p = some (.tup (ds.map V.int)) → ds.length = cs.length → Q (.ref p) H'
theorem ok_put_to (T : Tx K mg) : Ok P w K mg base 1 (He.fAd K d_put_to.at_) ["cells", "slot", "amount"] [] spPut := by
  refine T.ok at_put_to sc_put_to rfl rfl (fun _ _ _ _ _ _ us hl => match us, hl with | [_, _, _], _ => rfl) (fun vs H Q E h => ?_) (fun cdv A outer s H vs Q E hr h => ?_)
  · obtain ⟨c, j, x, cs, rfl, _⟩ := h
    rfl
  · obtain ⟨c, j, x, cs, rfl, hc, hj, hl, q⟩ := h
    refine ⟨_, pss_one (ps_ret (pe_tup (StX.pa_star (pe_slice sl_tupA (pv 0) po_none (po_some (pv 1))) (pa_cons (pe_op op_add (pe_ix ix_tup (pv 0) (pv 1) (fun _ _ => rfl)) (pv 2))
      (StX.pa_star (pe_slice sl_tupA (pv 0) (po_some (pe_op op_add (pv 1) pe_int)) po_none) pa_nil))))), ?_⟩
    refine ⟨_, rfl, _, rfl, _, rfl, slA (SqT.of hc) fun p1 H1 s1 h1 => ⟨p1, _, rfl, .inl h1, ?_⟩⟩
    have hc1 : H1 c = some (.tup (cs.map V.int)) := s1 _ _ hc
    refine ⟨_, rfl, _, rfl, c, _, _, .int cs[j], rfl, rfl, SqT.of hc1, atI_nat (by rw [List.getElem?_map, List.getElem?_eq_getElem hj]; rfl), _, rfl, _, _, rfl, rfl, ?_⟩
    refine ⟨_, rfl, _, rfl, _, _, rfl, rfl, (j : Int) + 1, rfl, noP (slA (SqT.of hc1) fun p2 H2 s2 h2 => ⟨p2, _, rfl, .inl h2, ?_⟩)⟩
    have e1 : cutV (cs.map V.int) none (some (j : Int)) = (cs.take j).map V.int := by rw [cut_to, List.map_take]
    have e2 : cutV (cs.map V.int) (some ((j : Int) + 1)) none = (cs.drop (j + 1)).map V.int := by
      have z : ((j : Int) + 1) = ((j + 1 : Nat) : Int) := by omega
      rw [z, cut_from, List.map_drop]
    have e3 : cutV (cs.map V.int) none (some (j : Int)) ++ (V.int (cs[j] + x) :: (cutV (cs.map V.int) (some ((j : Int) + 1)) none ++ [])) = (cs.set j (cs[j] + x)).map V.int := by
      rw [e1, e2, List.append_nil, ← set_cut cs j _ hj, List.map_append, List.map_cons]
    show (cutV (cs.map V.int) none (some (j : Int)) ++ (V.int (cs[j] + x) :: (cutV (cs.map V.int) (some ((j : Int) + 1)) none ++ []))).length ≤ sizeLine ∧ ∀ p, H2 p = none → Q (.ref p) (upd H2 p (.tup (cutV (cs.map V.int) none (some (j : Int)) ++ (V.int (cs[j] + x) :: (cutV (cs.map V.int) (some ((j : Int) + 1)) none ++ [])))))
    rw [e3]
    refine ⟨by rw [List.length_map, List.length_set]; exact line_le (by omega), fun p hp => q _ p (cs.set j (cs[j] + x)) (sN' (s1.trans s2) hp) upd_same (by rw [List.length_set])⟩
def spWith : Sp := fun vs H Q _ => ∃ (r : Addr) (j : Nat) (x : V) (xs : List V), vs = [.ref r, .int (j : Int), x] ∧ H r = some (.tup xs) ∧ j < xs.length ∧ xs.length ≤ 900 ∧
  ∀ H' p, Same H H' → H' p = some (.tup (xs.set j x)) → Q (.ref p) H'
theorem ok_with_item (T : Tx K mg) : Ok P w K mg base 1 (He.fAd K d_with_item.at_) ["row", "number", "item"] [] spWith := by
  refine T.ok at_with_item sc_with_item rfl rfl (fun _ _ _ _ _ _ us hl => match us, hl with | [_, _, _], _ => rfl) (fun vs H Q E h => ?_) (fun cdv A outer s H vs Q E hr h => ?_)
  · obtain ⟨c, j, x, cs, rfl, _⟩ := h
    rfl
  · obtain ⟨c, j, x, xs, rfl, hc, hj, hl, q⟩ := h
    refine ⟨_, pss_one (ps_ret (pe_tup (StX.pa_star (pe_slice sl_tupA (pv 0) po_none (po_some (pv 1))) (pa_cons (pv 2)
      (StX.pa_star (pe_slice sl_tupA (pv 0) (po_some (pe_op op_add (pv 1) pe_int)) po_none) pa_nil))))), ?_⟩
    refine ⟨_, rfl, _, rfl, _, rfl, slA (SqT.of hc) fun p1 H1 s1 h1 => ⟨p1, _, rfl, .inl h1, ?_⟩⟩
    have hc1 : H1 c = some (.tup xs) := s1 _ _ hc
    refine ⟨_, rfl, _, rfl, _, rfl, _, _, rfl, rfl, (j : Int) + 1, rfl, noP (slA (SqT.of hc1) fun p2 H2 s2 h2 => ⟨p2, _, rfl, .inl h2, ?_⟩)⟩
    have e2 : cutV xs (some ((j : Int) + 1)) none = xs.drop (j + 1) := by
      have z : ((j : Int) + 1) = ((j + 1 : Nat) : Int) := by omega
      rw [z, cut_from]
    have e3 : cutV xs none (some (j : Int)) ++ (x :: (cutV xs (some ((j : Int) + 1)) none ++ [])) = xs.set j x := by
      rw [cut_to, e2, List.append_nil, ← set_cut xs j _ hj]
    show (cutV xs none (some (j : Int)) ++ (x :: (cutV xs (some ((j : Int) + 1)) none ++ []))).length ≤ sizeLine ∧ ∀ p, H2 p = none → Q (.ref p) (upd H2 p (.tup (cutV xs none (some (j : Int)) ++ (x :: (cutV xs (some ((j : Int) + 1)) none ++ [])))))
    rw [e3]
    exact ⟨by rw [List.length_set]; exact line_le (by omega), fun p hp => q _ p (sN' (s1.trans s2) hp) upd_same⟩
def spOther : Sp := fun vs H Q _ => ∃ z : Str, vs = [.str z] ∧ HalfW z ∧ ∀ z', HalfW z' → Q (.str z') H
theorem ok_other_half (T : Tx K mg) : Ok P w K mg base 1 (He.fAd K d_other_half.at_) ["half"] [] spOther := by
  refine T.ok at_other_half sc_other_half rfl rfl (fun _ _ _ _ _ _ us hl => match us, hl with | [_], _ => rfl) (fun vs H Q E h => ?_) (fun cdv A outer s H vs Q E hr h => ?_)
  · obtain ⟨z, rfl, _⟩ := h
    rfl
  · obtain ⟨z, rfl, hz, q⟩ := h
    refine ⟨_, pss_one (ps_ret (pe_ifExp (pt_cmpR op_eq (pv 0) (pe_tx (T.mtxt "TAKE" "take")) (nomark _)) (pe_tx (T.mtxt "GIVE" "give")) (pe_tx (T.mtxt "TAKE" "take")))), ?_⟩
    refine ⟨_, rfl, rfl, _, rfl, ?_⟩
    exact ite2 (fun _ => q _ (.inl rfl)) fun _ => q _ (.inr rfl)
def spHalf : Sp := fun vs H Q _ => ∃ (c m : Addr) (cs : List Int) (g : Bool) (x : Int) (z h : Str), vs = [.ref c, .ref m, .str h] ∧ H c = some (.tup (cs.map V.int)) ∧ 2 ≤ cs.length ∧ cs.length ≤ 800 ∧ MbAt H m g x z ∧
  ∀ (H' : Hp) (p : Addr) (ds : List Int), Same H H' → H' p = some (.tup (ds.map V.int)) → cs.length ≤ ds.length → ds.length ≤ cs.length + 1 → Q (.ref p) H'
theorem ok_half_on (T : Tx K mg) : Ok P w K mg base 2 (He.fAd K d_half_on.at_) ["cells", "move", "half"] [] spHalf := by
  refine T.ok at_half_on sc_half_on rfl rfl (fun _ _ _ _ _ _ us hl => match us, hl with | [_, _, _], _ => rfl) (fun vs H Q E h => ?_) (fun cdv A outer s H vs Q E hr h => ?_)
  · obtain ⟨c, m, cs, g, x, z, h, rfl, _⟩ := h
    rfl
  · obtain ⟨c, m, cs, g, x, z, h, rfl, hc, h2, hl, ⟨hm, _⟩, q⟩ := h
    refine ⟨_, pss_cons (ps_asg (pv 1) (pg_tup (n := 4) rfl (pgs_cons (pg_name (i := 3) sc_half_on.nd rfl (.inl rfl)) (pgs_cons (pg_name (i := 4) sc_half_on.nd rfl (.inl rfl)) (pgs_cons (pg_name (i := 5) sc_half_on.nd rfl (.inl rfl)) (pgs_cons (pg_name (i := 6) sc_half_on.nd rfl (.inl rfl)) pgs_nil))))))
      (pss_cons (ps_if (pt_cmpR op_eq (pv 2) (pe_tx (T.mtxt "TAKE" "take")) (nomark _)) (pss_one (ps_ret (pe_fn (ok_put_to T) hr (T.mglo "put_to") (pa_cons (pv 0) (pa_cons (pv 3) (pa_cons (pe_op op_sub pe_int (pv 5)) pa_nil))) passL))) pss_nil)
      (pss_one (ps_ret (pe_ifExp (pt_cmpR op_isN (pv 4) pe_non (nomark _)) (pe_tup (StX.pa_star (pv 0) (pa_cons (pv 5) pa_nil))) (pe_fn (ok_put_to T) hr (T.mglo "put_to") (pa_cons (pv 0) (pa_cons (pv 4) (pa_cons (pv 5) pa_nil))) passL))))), ?_⟩
    refine ⟨_, rfl, m, _, rfl, SqT.of hm, rfl, _, _, rfl, _, _, rfl, _, _, rfl, _, _, rfl, rfl, ?_⟩
    refine ⟨_, rfl, rfl, _, rfl, ?_⟩
    refine ite2 (fun _ => ?_) (fun _ => ?_)
    · exact ⟨_, rfl, _, rfl, _, rfl, _, _, rfl, rfl, c, 0, 0 - x, cs, rfl, hc, by omega, by omega, fun H' p ds s e l => q H' p ds s e (by omega) (by omega)⟩
    · refine ⟨_, rfl, rfl, _, rfl, ?_⟩
      cases g with
      | true => exact ⟨_, rfl, _, rfl, _, rfl, c, 1, x, cs, rfl, hc, by omega, by omega, fun H' p ds s e l => q H' p ds s e (by omega) (by omega)⟩
      | false =>
        refine ⟨_, rfl, c, _, rfl, .inl (SqT.of hc), _, rfl, ?_⟩
        have e : cs.map V.int ++ [V.int x] = (cs ++ [x]).map V.int := by rw [List.map_append]; rfl
        show (cs.map V.int ++ [V.int x]).length ≤ sizeLine ∧ ∀ p, H p = none → Q (.ref p) (upd H p (.tup (cs.map V.int ++ [V.int x])))
        rw [e]
        exact ⟨by rw [List.length_map, List.length_append]; exact line_le (by show cs.length + 1 ≤ 1000; omega), fun p hp => q _ p _ (sN hp) upd_same (by simp) (by simp)⟩
end
end K21

/-! what stands behind a deed -/
namespace K21
open PySem PySem.Spec PyProof.Rows L2
theorem ifE {x : V} {A B : Prop} (h : A) : if decide (x = x) = true then A else B := by
  rw [decide_eq_true rfl, if_pos rfl]
  exact h
theorem ifN {x y : V} {A B : Prop} (n : x ≠ y) (h : B) : if decide (x = y) = true then A else B := by
  rw [decide_eq_false n, if_neg Bool.false_ne_true]
  exact h
/-- a good deed -/
def DeedAt (H : Hp) (d : Addr) (s : Sd) : Prop :=
  (∃ (j : Nat) (x : Int), H d = some (.tup [.str "add", .int (j : Int), .int x]) ∧ j < 2) ∨
  (∃ (m : Addr) (g : Bool) (x : Int) (z : Str), H d = some (.tup [.str "begin", .ref m]) ∧ MbAt H m g x z) ∨
  (∃ k : Nat, H d = some (.tup [.str "finish", .int (k : Int)]) ∧ k < s.moves.length) ∨
  ∃ x : V, H d = some (.tup [.str "start", x])
def spDeed : Sp := fun vs H Q _ => ∃ (st d : Addr) (s : Sd) (M : Nat), vs = [.ref st, .ref d] ∧ SdAt H (.ref st) s ∧ SdOk M s ∧ M ≤ 700 ∧ DeedAt H d s ∧
  ∀ (H' : Hp) (p st' : Addr) (f : V) (s' : Sd), Same H H' → H' p = some (.tup [.ref st', f]) → SdAt H' (.ref st') s' → SdOk (M + 1) s' → Q (.ref p) H'
theorem sdMk {H : Hp} {a ct mt lt : Addr} {cs : List Int} {tot : Int} {ms ls : List V} {mm : List Mv} {r : Nat} (h1 : H a = some (.tup [.ref ct, .int tot, .ref mt, .ref lt])) (h2 : H ct = some (.tup (cs.map V.int)))
    (h3 : H mt = some (.tup ms)) (h4 : Paired (MvAt H) ms mm) (h5 : H lt = some (.tup ls)) (h6 : ls.length = r) (h7 : ∀ l ∈ ls, LkAt H l) : SdAt H (.ref a) ⟨cs, tot, mm, r⟩ :=
  ⟨a, ct, mt, lt, ms, ls, rfl, h1, h2, h3, h4, h5, h6, h7⟩
section
variable {P : Program} {w : World} {K : PySem.W.Frag} {mg : Str → Option Value} {base : Heap}
theorem ok_behind_deed (T : Tx K mg) : Ok P w K mg base 3 (He.fAd K d_behind_deed.at_) ["standing", "deed"] [] spDeed := by
  refine T.ok at_behind_deed sc_behind_deed rfl rfl (fun _ _ _ _ _ _ us hl => match us, hl with | [_, _], _ => rfl) (fun vs H Q E h => ?_) (fun cdv A outer s H vs Q E hr h => ?_)
  · obtain ⟨st, d, sd, M, rfl, _⟩ := h
    rfl
  · obtain ⟨st, d, sd, M, rfl, hS, ok, hM, hD, q⟩ := h
    obtain ⟨a, ct, mt, lt, ms, ls, ea, g1, g2, g3, g4, g5, g6, g7⟩ := hS
    cases ea
    have c2 := ok.c2
    have cM := ok.cM
    have mM := ok.mM
    have rM := ok.rM
    have lm := g4.length
    have nd := sc_behind_deed.nd
    have hr1 : Room 1 _ := hr.mono (by decide)
    refine ⟨_, pss_cons (ps_asg (pv 0) (pg_tup (n := 4) rfl (pgs_cons (pg_name (i := 2) nd rfl (.inl rfl)) (pgs_cons (pg_name (i := 3) nd rfl (.inl rfl)) (pgs_cons (pg_name (i := 4) nd rfl (.inl rfl)) (pgs_cons (pg_name (i := 5) nd rfl (.inl rfl)) pgs_nil))))))
      (pss_cons (ps_set (i := 6) nd rfl (.inl rfl) (pe_ix ix_tup (pv 1) pe_int (fun _ _ => rfl)))
      (pss_cons (ps_if (pt_cmpR op_eq (pv 6) (pe_tx (T.mtxt "ADD" "add")) (nomark _)) (pss_one (ps_ret (pe_tup (pa_cons (pe_tup (pa_cons (pe_fn (ok_put_to T) hr1 (T.mglo "put_to") (pa_cons (pv 2) (pa_cons (pe_ix ix_tup (pv 1) pe_int (fun _ _ => rfl)) (pa_cons (pe_ix ix_tup (pv 1) pe_int (fun _ _ => rfl)) pa_nil))) passL)
          (pa_cons (pe_op op_add (pv 3) (pe_ix ix_tup (pv 1) pe_int (fun _ _ => rfl))) (pa_cons (pv 4) (pa_cons (pv 5) pa_nil))))) (pa_cons pe_non pa_nil))))) pss_nil)
      (pss_cons (ps_if (pt_cmpR op_eq (pv 6) (pe_tx (T.mtxt "BEGIN" "begin")) (nomark _)) (pss_one (ps_ret (pe_tup (pa_cons (pe_tup (pa_cons (pe_fn (ok_half_on T) hr (T.mglo "half_on") (pa_cons (pv 2) (pa_cons (pe_ix ix_tup (pv 1) pe_int (fun _ _ => rfl)) (pa_cons (pe_ix ix_tup (pe_ix ix_tup (pv 1) pe_int (fun _ _ => rfl)) pe_int (fun _ _ => rfl)) pa_nil))) passL)
          (pa_cons (pv 3) (pa_cons (pe_tup (StX.pa_star (pv 4) (pa_cons (pe_tup (pa_cons (pe_ix ix_tup (pv 1) pe_int (fun _ _ => rfl)) (pa_cons pe_bl pa_nil))) pa_nil))) (pa_cons (pv 5) pa_nil))))) (pa_cons (pe_callB call_len_seq (by rfl) (T.mfre "len") PySem.boot_len (pa_cons (pv 4) pa_nil)) pa_nil))))) pss_nil)
      (pss_cons (ps_if (pt_cmpR op_eq (pv 6) (pe_tx (T.mtxt "FINISH" "finish")) (nomark _))
        (pss_cons (ps_set (i := 7) nd rfl (.inl rfl) (pe_ix ix_tup (pe_ix ix_tup (pv 4) (pe_ix ix_tup (pv 1) pe_int (fun _ _ => rfl)) (fun _ _ => rfl)) pe_int (fun _ _ => rfl)))
        (pss_cons (ps_set (i := 8) nd rfl (.inl rfl) (pe_fn (ok_half_on T) hr (T.mglo "half_on") (pa_cons (pv 2) (pa_cons (pv 7) (pa_cons (pe_fn (ok_other_half T) hr1 (T.mglo "other_half") (pa_cons (pe_ix ix_tup (pv 7) pe_int (fun _ _ => rfl)) pa_nil) passL) pa_nil))) passL))
        (pss_one (ps_ret (pe_tup (pa_cons (pe_tup (pa_cons (pv 8) (pa_cons (pv 3) (pa_cons (pe_fn (ok_with_item T) hr1 (T.mglo "with_item") (pa_cons (pv 4) (pa_cons (pe_ix ix_tup (pv 1) pe_int (fun _ _ => rfl)) (pa_cons (pe_tup (pa_cons (pv 7) (pa_cons pe_bl pa_nil))) pa_nil))) passL) (pa_cons (pv 5) pa_nil))))) (pa_cons pe_non pa_nil))))))) pss_nil)
      (pss_cons (ps_if (pt_cmpR op_eq (pv 6) (pe_tx (T.mtxt "START" "start")) (nomark _)) (pss_one (ps_ret (pe_tup (pa_cons (pe_tup (pa_cons (pv 2) (pa_cons (pv 3) (pa_cons (pv 4) (pa_cons (pe_tup (StX.pa_star (pv 5) (pa_cons (pe_fn (ok_looker_of T) hr1 (T.mglo "looker_of") (pa_cons (pe_ix ix_tup (pv 1) pe_int (fun _ _ => rfl)) pa_nil) passL) pa_nil))) pa_nil)))))
          (pa_cons (pe_callB call_len_seq (by rfl) (T.mfre "len") PySem.boot_len (pa_cons (pv 5) pa_nil)) pa_nil))))) pss_nil)
      pss_never))))), ?_⟩
    refine ⟨_, rfl, st, _, rfl, SqT.of g1, rfl, _, _, rfl, _, _, rfl, _, _, rfl, _, _, rfl, rfl, ?_⟩
    have four : ∀ {a b c d : V}, [a, b, c, d].length ≤ sizeLine := fun {a b c d} => by show 4 ≤ sizeLine; decide
    have two : ∀ {a b : V}, [a, b].length ≤ sizeLine := fun {a b} => by show 2 ≤ sizeLine; decide
    rcases hD with ⟨j, x, hd, hj⟩ | ⟨m, g, x, z, hd, hm⟩ | ⟨k, hd, hk⟩ | ⟨x, hd⟩
    · -- add
      refine ⟨_, rfl, d, _, 0, _, rfl, rfl, SqT.of hd, rfl, ?_⟩
      refine ⟨_, rfl, rfl, _, rfl, ifE ?_⟩
      refine ⟨_, rfl, _, rfl, d, _, 1, _, rfl, rfl, SqT.of hd, rfl, _, rfl, d, _, 2, _, rfl, rfl, SqT.of hd, rfl, ?_⟩
      refine ⟨ct, j, x, _, rfl, g2, by omega, by omega, fun H1 p1 ds s1 e1 l1 => ?_⟩
      refine ⟨_, rfl, _, rfl, d, _, 2, _, rfl, rfl, SqT.of (s1 _ _ hd), rfl, _, _, rfl, rfl, _, rfl, _, rfl, four, fun b hb => ⟨two, fun p hp => ?_⟩⟩
      have s2 := sN (o := .tup [.ref p1, .int (sd.total + x), .ref mt, .ref lt]) hb
      have s3 : Same _ _ := sN (o := .tup [.ref b, .non]) hp
      have s4 := (s1.trans s2).trans s3
      refine q _ p b .non ⟨ds, sd.total + x, sd.moves, sd.readers⟩ s4 upd_same (sdMk (s3 _ _ upd_same) (s3 _ _ (s2 _ _ e1)) (s4 _ _ g3) (g4.mono fun _ _ q => MvAt.tk (Same.tk s4) q) (s4 _ _ g5) g6 fun l hl => LkAt.tk (Same.tk s4) (g7 l hl)) ⟨?_, ?_, ?_, ?_⟩
      · show 2 ≤ ds.length
        omega
      · show ds.length ≤ M + 1 + 2
        omega
      · show sd.moves.length ≤ M + 1
        omega
      · show sd.readers ≤ M + 1
        omega
    · -- begin
      refine ⟨_, rfl, d, _, 0, _, rfl, rfl, SqT.of hd, rfl, ?_⟩
      refine ⟨_, rfl, rfl, _, rfl, ifN (by decide +kernel) ?_⟩
      refine ⟨_, rfl, rfl, _, rfl, ifE ?_⟩
      refine ⟨_, rfl, _, rfl, d, _, 1, _, rfl, rfl, SqT.of hd, rfl, _, rfl, d, _, 1, _, rfl, rfl, SqT.of hd, rfl, m, _, 3, _, rfl, rfl, SqT.of hm.1, rfl, ?_⟩
      refine ⟨ct, m, _, g, x, z, z, rfl, g2, c2, by omega, hm, fun H1 p1 ds s1 e1 l1 l2 => ?_⟩
      refine ⟨_, rfl, _, rfl, mt, ms, rfl, .inl (SqT.of (s1 _ _ g3)), _, rfl, d, _, 1, _, rfl, rfl, SqT.of (s1 _ _ hd), rfl, two, fun mp hmp => ?_⟩
      have s2 : Same _ _ := sN (o := .tup [.ref m, .bl false]) hmp
      refine ⟨by rw [List.length_append]; exact line_le (by show ms.length + 1 ≤ 1000; omega), fun mt' hmt => ?_⟩
      have s3 : Same _ _ := sN (o := .tup (ms ++ [.ref mp])) hmt
      refine ⟨_, rfl, four, fun b hb => ?_⟩
      have s4 : Same _ _ := sN (o := .tup [.ref p1, .int sd.total, .ref mt', .ref lt]) hb
      have s14 := ((s1.trans s2).trans s3).trans s4
      refine ⟨_, rfl, mt, ms, rfl, .inr (SqT.of (s14 _ _ g3)), two, fun p hp => ?_⟩
      have s5 : Same _ _ := sN (o := .tup [.ref b, .int ms.length]) hp
      have s6 := s14.trans s5
      refine q _ p b _ ⟨ds, sd.total, sd.moves ++ [⟨g, x, z, false⟩], sd.readers⟩ s6 upd_same (sdMk (s5 _ _ upd_same) (s5 _ _ (s4 _ _ (s3 _ _ (s2 _ _ e1)))) (s5 _ _ (s4 _ _ upd_same))
        (prd_app (g4.mono fun _ _ q => MvAt.tk (Same.tk s6) q) (.cons ⟨mp, m, rfl, s5 _ _ (s4 _ _ (s3 _ _ upd_same)), MbAt.tk (Same.tk s6) hm⟩ .nil)) (s6 _ _ g5) g6 fun l hl => LkAt.tk (Same.tk s6) (g7 l hl)) ⟨?_, ?_, ?_, ?_⟩
      · show 2 ≤ ds.length
        omega
      · show ds.length ≤ M + 1 + 2
        omega
      · show (sd.moves ++ [_]).length ≤ M + 1
        rw [List.length_append]
        show sd.moves.length + 1 ≤ M + 1
        omega
      · show sd.readers ≤ M + 1
        omega
    · -- finish
      refine ⟨_, rfl, d, _, 0, _, rfl, rfl, SqT.of hd, rfl, ?_⟩
      refine ⟨_, rfl, rfl, _, rfl, ifN (by decide +kernel) ?_⟩
      refine ⟨_, rfl, rfl, _, rfl, ifN (by decide +kernel) ?_⟩
      refine ⟨_, rfl, rfl, _, rfl, ifE ?_⟩
      obtain ⟨v, hv, mp, m, rfl, hmp, hm⟩ := prd_gt g4 (i := k) (y := sd.moves[k]) (List.getElem?_eq_getElem hk)
      refine ⟨_, rfl, _, rfl, d, _, 1, _, rfl, rfl, SqT.of hd, rfl, mt, ms, k, _, rfl, rfl, SqT.of g3, atI_nat hv, mp, _, 0, _, rfl, rfl, SqT.of hmp, rfl, ?_⟩
      refine ⟨_, rfl, _, rfl, _, rfl, m, _, 3, _, rfl, rfl, SqT.of hm.1, rfl, _, rfl, hm.2, fun z' hz' => ?_⟩
      refine ⟨ct, m, _, _, _, _, z', rfl, g2, c2, by omega, hm, fun H1 p1 ds s1 e1 l1 l2 => ?_⟩
      refine ⟨_, rfl, _, rfl, _, rfl, _, rfl, d, _, 1, _, rfl, rfl, SqT.of (s1 _ _ hd), rfl, _, rfl, two, fun np hnp => ?_⟩
      have s2 : Same _ _ := sN (o := .tup [.ref m, .bl true]) hnp
      refine ⟨mt, k, _, ms, rfl, s2 _ _ (s1 _ _ g3), by omega, by omega, fun H3 mt' s3 e3 => ?_⟩
      refine ⟨_, rfl, four, fun b hb => ?_⟩
      have s4 : Same _ _ := sN (o := .tup [.ref p1, .int sd.total, .ref mt', .ref lt]) hb
      have s14 := ((s1.trans s2).trans s3).trans s4
      refine ⟨two, fun p hp => ?_⟩
      have s5 : Same _ _ := sN (o := .tup [.ref b, .non]) hp
      have s6 := s14.trans s5
      refine q _ p b _ ⟨ds, sd.total, sd.moves.set k ⟨sd.moves[k].goal, sd.moves[k].amt, sd.moves[k].first, true⟩, sd.readers⟩ s6 upd_same (sdMk (s5 _ _ upd_same) (s5 _ _ (s4 _ _ (s3 _ _ (s2 _ _ e1)))) (s5 _ _ (s4 _ _ e3))
        (prd_st (F := MvAt _) (y := ⟨sd.moves[k].goal, sd.moves[k].amt, sd.moves[k].first, true⟩) ⟨np, m, rfl, s5 _ _ (s4 _ _ (s3 _ _ upd_same)), MbAt.tk (Same.tk s6) hm⟩ k (g4.mono fun _ _ q => MvAt.tk (Same.tk s6) q)) (s6 _ _ g5) g6 fun l hl => LkAt.tk (Same.tk s6) (g7 l hl)) ⟨?_, ?_, ?_, ?_⟩
      · show 2 ≤ ds.length
        omega
      · show ds.length ≤ M + 1 + 2
        omega
      · show (sd.moves.set k _).length ≤ M + 1
        rw [List.length_set]
        omega
      · show sd.readers ≤ M + 1
        omega
    · -- start
      refine ⟨_, rfl, d, _, 0, _, rfl, rfl, SqT.of hd, rfl, ?_⟩
      refine ⟨_, rfl, rfl, _, rfl, ifN (by decide +kernel) ?_⟩
      refine ⟨_, rfl, rfl, _, rfl, ifN (by decide +kernel) ?_⟩
      refine ⟨_, rfl, rfl, _, rfl, ifN (by decide +kernel) ?_⟩
      refine ⟨_, rfl, rfl, _, rfl, ifE ?_⟩
      refine ⟨_, rfl, _, rfl, _, rfl, _, rfl, lt, ls, rfl, .inl (SqT.of g5), _, rfl, d, _, 1, _, rfl, rfl, SqT.of hd, rfl, x, rfl, fun H1 lk s1 hlk => ?_⟩
      refine ⟨by rw [List.length_append]; exact line_le (by show ls.length + 1 ≤ 1000; omega), fun lt' hlt => ?_⟩
      have s2 : Same _ _ := sN (o := .tup (ls ++ [.ref lk])) hlt
      refine ⟨four, fun b hb => ?_⟩
      have s3 : Same _ _ := sN (o := .tup [.ref ct, .int sd.total, .ref mt, .ref lt']) hb
      have s13 := (s1.trans s2).trans s3
      refine ⟨_, rfl, lt, ls, rfl, .inr (SqT.of (s13 _ _ g5)), two, fun p hp => ?_⟩
      have s4 : Same _ _ := sN (o := .tup [.ref b, .int ls.length]) hp
      have s6 := s13.trans s4
      refine q _ p b _ ⟨sd.cells, sd.total, sd.moves, sd.readers + 1⟩ s6 upd_same (sdMk (s4 _ _ upd_same) (s6 _ _ g2) (s6 _ _ g3) (g4.mono fun _ _ q => MvAt.tk (Same.tk s6) q) (s4 _ _ (s3 _ _ upd_same)) (by simp [g6]) fun l hl => ?_) ⟨?_, ?_, ?_, ?_⟩
      · rcases List.mem_append.mp hl with hl | hl
        · exact LkAt.tk (Same.tk s6) (g7 l hl)
        · have e : l = .ref lk := by simpa using hl
          rw [e]
          exact LkAt.tk (Same.tk ((s2.trans s3).trans s4)) hlk
      · show 2 ≤ sd.cells.length
        omega
      · show sd.cells.length ≤ M + 1 + 2
        omega
      · show sd.moves.length ≤ M + 1
        omega
      · show sd.readers + 1 ≤ M + 1
        omega
end
end K21

/-! rules that the library does not have: enumerate(tuple), t[:cut:-1], an attribute as one of several targets, == by an own def -/
namespace K21
open PySem PySem.Spec PyProof.Rows L2
/-! ### enumerate(tuple) -/
section
variable {prog : Program} {w : World} {A : Around} {E : Value → Shared → Prop} {s : Shared}
set_option maxHeartbeats 8000000 in
theorem meets_enumT (l : Addr) (items : Array Value) :
    Meets (Builtin.«enumerate.__new__» ⟨[.type "enumerate", .ref l], []⟩) (fun _ R s => s.heap.IsTuple l items ∧
      R (.ok (.ret (.ref (s.heap.push { cls := .type "tuple_iterator", data := .fields #[.ref l, .int 0 0] }).objs.size)))
        { s with heap := (s.heap.push { cls := .type "tuple_iterator", data := .fields #[.ref l, .int 0 0] }).push { cls := .type "enumerate", data := .fields #[.none, .bool false, .ref s.heap.objs.size, rawInt 0, .none, .none] } }) :=
  .of_wp fun prog w A R s h => by
    obtain ⟨hp, g, d, tk, os⟩ := s; obtain ⟨hl, h⟩ := h
    have hsub := sub_enumerate
    have q1 : ∀ {A' : Around} {E : Value → Shared → Prop} {Q : Value → Shared → Prop}, Q (.ref hp.objs.size) ⟨hp.push { cls := .type "tuple_iterator", data := .fields #[.ref l, .int 0 0] }, g, d, tk, os⟩ → wpAny (model prog w) A' (pyIter (.ref l)) Q E ⟨hp, g, d, tk, os⟩ :=
      fun q => (begins_tuple l items).iter prog w _ _ ⟨hp, g, d, tk, os⟩ _ hl q
    wp_walk using q1
    refine wpAny_stack_any fun st => wpAny_pure ?_
    split
    · rename_i c _ _ _ _ _
      cases (c == Value.type "enumerate")
      · wp_walk using q1
        exact ⟨_, rfl, h⟩
      · wp_walk using q1
        exact ⟨_, rfl, h⟩
    · wp_walk using q1
      exact ⟨_, rfl, h⟩
theorem call_enumT {l : Addr} {items : Array Value} {Q : Value → Shared → Prop} (hl : s.heap.IsTuple l items)
    (h : ∀ h', IsEnum h' (s.heap.objs.size + 1) s.heap.objs.size 0 .none → h'.IsTupleIter s.heap.objs.size l 0 → h'.objs.size = s.heap.objs.size + 2 →
      (∀ b o, s.heap.get? b = some o → h'.get? b = some o) → Q (.ref (s.heap.objs.size + 1)) { s with heap := h' }) :
    wpAny (model prog w) A (call (.type "enumerate") [.ref l]) Q E s := by
  refine callType_new F.called_enumerate (by decide) (F.typeCall_enumerate_1 _) (F.newCall_enumerate_1 _) (fun obj => F.args_object_init_2 obj _) F.entry_enumerate_new
    (meets_enumT l items) ⟨hl, ?_⟩
  have hz : (s.heap.push { cls := .type "tuple_iterator", data := .fields #[.ref l, .int 0 0] }).objs.size = s.heap.objs.size + 1 := Heap.size_push ..
  show _ ∧ _
  rw [hz]
  have he : IsEnum ((s.heap.push { cls := .type "tuple_iterator", data := .fields #[.ref l, .int 0 0] }).push
      { cls := .type "enumerate", data := .fields #[.none, .bool false, .ref s.heap.objs.size, rawInt 0, .none, .none] }) (s.heap.objs.size + 1) s.heap.objs.size 0 .none := by
    have := Heap.get?_push_size (s.heap.push { cls := .type "tuple_iterator", data := .fields #[.ref l, .int 0 0] })
      (o := { cls := .type "enumerate", data := .fields #[.none, .bool false, .ref s.heap.objs.size, rawInt 0, .none, .none] }) rfl
    rw [hz] at this; exact this
  refine ⟨⟨_, he, rfl⟩, h _ he ⟨_, Heap.get?_push_of_some _ (Heap.get?_push_size _ rfl), rfl, rfl⟩ (by rw [Heap.size_push, hz]) fun b o x => Heap.get?_push_of_some _ (Heap.get?_push_of_some _ x)⟩
end
def IteT (K : PySem.W.Frag) (a : Addr) : It :=
  ⟨fun i H => ∃ (xs : List V) (x : V), SqT K H a xs ∧ xs[i]? = some x, fun i H v H' => ∃ T x, v = .ref T ∧ H T = none ∧ H' = upd H T (.tup [.int (i : Nat), x]) ∧ ∀ xs, SqT K H a xs → xs[i]? = some x, fun i H => ∃ xs : List V, SqT K H a xs ∧ xs.length ≤ i⟩
theorem turn_enumT {P : Program} {w : World} {K : PySem.W.Frag} {elts : List Expr} {kk : Nat} {tpos : Pos} (a e it : Addr) :
    Turn P w K (.Tuple elts kk tpos) (IteT K a) [e, it] e (fun i h => (∃ old, IsEnum h e it ((i : Nat) : Int) old) ∧ h.IsTupleIter it a i ∧ e ≠ it) where
  mem := by simp
  obj := fun i h st b hb => by
    obtain ⟨⟨old, he⟩, ⟨o, ho, hc, hd⟩, _⟩ := st
    have e' : b = e ∨ b = it := by simpa using hb
    rcases e' with z | z
    · rw [z]; exact ⟨_, he, fun v q => nomatch q⟩
    · rw [z]; exact ⟨o, ho, fun v q => by rw [hd] at q; cases q⟩
  keep := fun i h h' st k => let ⟨⟨old, he⟩, hi, hne⟩ := st; ⟨⟨old, k e (by simp) _ he⟩, hi.at fun o q => k it (by simp) o q, hne⟩
  item := by
    intro X hP hw hK hc i pins s σ H E I hf st hg
    subst hP hw hK
    obtain ⟨⟨old, he⟩, hit, hne⟩ := st
    obtain ⟨xs, x, hq, hx⟩ := hg
    obtain ⟨its, rv, p, hz⟩ := I.tuple hq
    obtain ⟨u, hu, ru⟩ := rv.get hx
    have hel : e < s.heap.objs.size := Heap.lt_size he
    have hil : it < s.heap.objs.size := by obtain ⟨_, q, _⟩ := hit; exact Heap.lt_size q
    have p' : s.heap.IsTuple a its.toArray := p
    have hae : e ≠ a := fun z => by
      obtain ⟨o, ho, hcl, _⟩ := p'
      rw [← z, he] at ho
      cases ho
      injection hcl with z2
      exact absurd z2 (by decide)
    have hai : a ≠ it := fun z => by
      obtain ⟨o, ho, hcl, _⟩ := p'
      obtain ⟨o2, ho2, hcl2, _⟩ := hit
      rw [z, ho2] at ho
      cases ho
      rw [hcl] at hcl2
      injection hcl2 with z2
      exact absurd z2 (by decide)
    have hi' : i < its.toArray.size := by
      have := (List.getElem?_eq_some_iff.mp hu).1
      simpa using this
    refine wpAny_pyNext_enum_itemD (Draws.tuple (A := X.A.in1) (show X.A.in1.handled = none from I.ok.hd hc) it a hai its.toArray) he ⟨hit, p'⟩ hi' hne (by simp [hne, hae]) fun y h' tk hy ho hit' hT hsz hk => ?_
    have ey : y = u := by
      have h1 : its.toArray[i]? = some u := by simpa using hu
      rw [h1] at hy
      exact (Option.some.inj hy).symm
    subst ey
    refine ⟨_, rfl, wpAny_letOwnedTupleGo_enum (s := { s with heap := h', toks := tk + 1 }) ho fun h'' he' sb => ?_⟩
    have hT2 : h''.get? s.heap.objs.size = some { cls := .type "tuple", data := .seq #[.int i tk, y] } := (sb.2 _ (Nat.ne_of_gt hel)).trans hT
    have new : ObjOk X.prog X.w (upd H s.heap.objs.size (.tup [.int (i : Nat), x])) h'' s.heap.objs.size (.tup [.int (i : Nat), x]) :=
      ⟨by show 2 ≤ sizeLine; decide, [.int i tk, y], .cons ⟨_, rfl⟩ (.cons ru .nil), ⟨_, hT2, rfl, _, rfl⟩⟩
    have I1 : Inv X pins σ (upd H s.heap.objs.size (.tup [.int (i : Nat), x])) { s with heap := h'', toks := tk + 1 } :=
      I.turnedNew (ch := [e, it]) (fun b ob hb q => (sb.2 b (fun z => hb (by simp [z]))).trans (hk b ob (fun z => hb (by simp [z])) (fun z => hb (by simp [z])) q)) hf (Nat.le_refl _) new
    refine ⟨.ref s.heap.objs.size, _, I1, rfl, ⟨_, x, rfl, I.hok.fresh (Nat.le_refl _), rfl, fun ys hy => by rw [I.tuple_inj hy hq]; exact hx⟩, ⟨⟨y, ?_⟩, hit'.1.at fun o q => (sb.2 it (Ne.symm hne)).trans q, hne⟩, fun b hb => ?_⟩
    · have e1 : ((i + 1 : Nat) : Int) = (i : Int) + 1 := by omega
      rw [e1]; exact he'
    · have hb' : b < s.heap.objs.size := by
        have e' : b = e ∨ b = it := by simpa using hb
        rcases e' with z | z
        · rw [z]; exact hel
        · rw [z]; exact hil
      rw [upd_ne (Nat.ne_of_lt hb')]
      exact (hf b hb).1
  done := by
    intro X hP hw hK hc i pins s σ H E I hf st hg
    subst hP hw hK
    obtain ⟨⟨old, he⟩, hit, hne⟩ := st
    obtain ⟨xs, hq, hx⟩ := hg
    obtain ⟨its, rv, p, hz⟩ := I.tuple hq
    obtain ⟨f0, f1, f2, f3, f4, f5⟩ := hf it (by simp)
    have hl := rv.length
    have p' : s.heap.IsTuple a its.toArray := p
    have hT : s.TypeIs (.ref e) "enumerate" := ⟨_, he, rfl⟩
    unfold pyNext
    refine wpAny_bind (wpAny_attempt (wpAny_callSpecial?_slot (name := Str.ofString "__next__") hT F.slot_enumerate_next
      (wpAny_call_entry F.slot_enumerate_next hT F.entry_enumerate_next ?_ (F.args_enumerate_next_1 _))))
    show wpAny _ _ (field (.ref e) 2 >>= _) _ _ _
    refine wpAny_bind (wpAny_field he rfl (x := .ref it) rfl ?_)
    refine wpAny_bind (RZ.nextOf_tuple_end (I.ok.hd hc) hit p' (by simp; omega) fun h' x eb hx' => ?_)
    obtain ⟨o, ho, hcl⟩ := hx'
    refine wpAny_bind (wpAny_isInstance (T := "StopIteration") (b := true) ⟨o, ho, hcl⟩ isSubtype_stop ?_)
    exact wpAny_pure ⟨rfl, I.turned (t' := s.toks) (fun b o hb q => eb b o hb q) f0 f1 f3 f4 f5⟩
  self := fun A i s Q E st h => let ⟨⟨_, he⟩, _⟩ := st; wpAny_pyIter_enum he h
def iEnumT (K : PySem.W.Frag) (ta : TA) : TI := fun σ H R => ta σ H fun vs H1 => ∃ a xs, vs = [.ref a] ∧ SqT K H1 a xs ∧ R (IteT K a) H1
theorem pi_enumT {X : Cx} {e : Expr} {ta : TA} {p pos tpos : Pos} {elts : List Expr} {kk : Nat} (hg : Gl X "enumerate") (hm : X.mg "enumerate" = none) (ha : PA X [e] ta) (hs : starEach [e] X.env = [(false, eval e X.env)] := by rfl) :
    PI X (.Tuple elts kk tpos) (.Call (.Name "enumerate" p) [e] [] pos) (iEnumT X.K ta) := by
  refine ⟨fun pins s σ H R I h => ?_⟩
  refine Call_ (ld_blt I hg hm boot_enumerate (PyProof.Rows.callWith_type1 (thn (ha.run pos pins s σ H _ I h) fun us s1 ⟨vs, H1, I1, r1, q1⟩ => ?_) hs rfl))
  obtain ⟨a, xs, ex, hq, q⟩ := q1
  subst ex
  cases r1 with
  | cons r rr =>
    cases rr
    cases r
    obtain ⟨its, rv, p', hz⟩ := I1.tuple hq
    refine call_enumT (show s1.heap.IsTuple a its.toArray from p') fun h' he hit hsz hk => wpAny_pyIter_enum he ?_
    have I2 : Inv X pins σ H1 { s1 with heap := h' } := I1.kept (t' := s1.toks) hk
    refine ⟨s1.heap.objs.size + 1, [s1.heap.objs.size + 1, s1.heap.objs.size], _, _, H1, rfl, I2, turn_enumT a (s1.heap.objs.size + 1) s1.heap.objs.size, ⟨⟨.none, he⟩, hit, Nat.succ_ne_self _⟩, fun b hb => ?_, q⟩
    have e' : b = s1.heap.objs.size + 1 ∨ b = s1.heap.objs.size := by simpa using hb
    have hle : s1.heap.objs.size ≤ b := by
      rcases e' with z | z
      · rw [z]; exact Nat.le_add_right _ _
      · rw [z]; exact Nat.le_refl _
    exact I1.fpOk hle (I1.hok.fresh hle)
theorem walk_enumT {K : PySem.W.Frag} {a : Addr} {xs : List V} : Walk (IteT K a) xs.length (fun H => SqT K H a xs) (YPair (fun i => some (.int (i : Nat))) (fun i => xs[i]?)) := by
  refine ⟨fun i _ hi q => ⟨xs, xs[i], q, by simp [hi]⟩, fun _ q => ⟨xs, q, Nat.le_refl _⟩, fun i H v H' _ q y => ?_⟩
  obtain ⟨T, x, h1, h2, h3, h4⟩ := y
  exact ⟨T, .int (i : Nat), x, h1, h2, h3, rfl, h4 xs q⟩
/-! ### t[:cut:-1] -/
section
variable {prog : Program} {w : World} {A : Around} {E : Value → Shared → Prop} {s : Shared}
theorem adjust_back (j n : Nat) (h : j < n) : Builtin.Slice.sliceAdjust none (some (j : Int)) (-1) (n : Int) = ((n : Int) - 1, (j : Int)) := by
  unfold Builtin.Slice.sliceAdjust
  have h1 : ((-1 : Int) < 0) := by omega
  simp only [h1, if_true]
  have h2 : ¬ ((j : Int) < 0) := by omega
  simp only [h2, if_false]
  exact Prod.ext rfl (by show min (j : Int) ((n : Int) - 1) = (j : Int); omega)
theorem places_back (j n : Nat) (h : j < n) : Builtin.Slice.slicePlaces ((n : Int) - 1) (j : Int) (-1) = n - 1 - j := by
  unfold Builtin.Slice.slicePlaces
  have h1 : ¬ ((-1 : Int) > 0) := by omega
  simp only [h1, if_false]
  have h2 : (-(-1 : Int)) = 1 := by omega
  rw [h2, Int.ediv_one]
  split <;> omega
theorem fm_congr {α β : Type} {f g : α → Option β} : ∀ {l : List α}, (∀ x ∈ l, f x = g x) → l.filterMap f = l.filterMap g
  | [], _ => rfl
  | a :: l, h => by
    have e := fm_congr (l := l) fun x hx => h x (List.mem_cons_of_mem _ hx)
    rw [List.filterMap_cons, List.filterMap_cons, h a List.mem_cons_self, e]
theorem pick_back (xs : Array Value) (j : Nat) (h : j < xs.size) :
    ((List.range (xs.size - 1 - j)).filterMap fun (m : Nat) => xs[((xs.size : Int) - 1 + (m : Int) * (-1)).toNat]?).toArray = ((xs.toList.drop (j + 1)).reverse).toArray := by
  have hk : (xs.toList.drop (j + 1)).toArray.size = xs.size - 1 - j := by
    rw [List.size_toArray, List.length_drop, Array.length_toList]
    omega
  have e := PySem.W.krv_all (xs.toList.drop (j + 1)).toArray
  rw [hk] at e
  have e2 : (xs.toList.drop (j + 1)).reverse = ((List.range (xs.size - 1 - j)).map fun k => xs.size - 1 - j - 1 - k).filterMap ((xs.toList.drop (j + 1)).toArray[·]?) := by
    rw [PySem.W.krv_range, List.filterMap_reverse, e]
  rw [e2, List.filterMap_map]
  refine congrArg List.toArray (fm_congr fun m hm => ?_)
  have hm' := List.mem_range.mp hm
  have z : ((xs.size : Int) - 1 + (m : Int) * (-1)).toNat = xs.size - 1 - m := by omega
  rw [z]
  show xs[xs.size - 1 - m]? = (xs.toList.drop (j + 1)).toArray[xs.size - 1 - j - 1 - m]?
  have z2 : j + 1 + (xs.size - 1 - j - 1 - m) = xs.size - 1 - m := by omega
  have e3 : (xs.toList.drop (j + 1)).toArray[xs.size - 1 - j - 1 - m]? = (xs.toList.drop (j + 1))[xs.size - 1 - j - 1 - m]? := List.getElem?_toArray
  rw [e3, List.getElem?_drop, z2, Array.getElem?_toList]
theorem sliceApplied_back {sl : Addr} {vl vu vs : Value} {j n : Nat} {Q : Int × Int × Nat → Shared → Prop} (hs : s.heap.IsSliceOf sl vl vu vs) (pl : IsPart vl none) (pu : IsPart vu (some (j : Int))) (ps : IsPart vs (some (-1))) (hj : j < n)
    (h : Q ((n : Int) - 1, -1, n - 1 - j) s) : wpAny (model prog w) A (Builtin.Slice.sliceApplied (.ref sl) (pure (n : Int))) Q E s := by
  obtain ⟨os, hos, hcs, hds⟩ := id hs
  unfold Builtin.Slice.sliceApplied Builtin.Slice.sliceFields
  refine wpAny_bind (wpAny_bind (wpAny_field hos hds (x := vl) rfl (wpAny_bind (wpAny_field hos hds (x := vu) rfl (wpAny_bind (wpAny_field hos hds (x := vs) rfl (wpAny_pure ?_)))))))
  refine wpAny_bind (HT.slicePart_ ps ?_)
  show wpAny _ _ (if ((-1 : Int) == 0) = true then _ else _) _ _ s
  rw [if_neg (by decide)]
  refine wpAny_bind (HT.slicePart_ pl (wpAny_bind (HT.slicePart_ pu (wpAny_bind (wpAny_pure ?_)))))
  show wpAny _ _ (match Builtin.Slice.sliceAdjust none (some (j : Int)) (-1) (n : Int) with | (lo, hi) => pure (lo, (-1 : Int), Builtin.Slice.slicePlaces lo hi (-1))) _ _ s
  rw [adjust_back j n hj]
  show wpAny _ _ (pure ((n : Int) - 1, (-1 : Int), Builtin.Slice.slicePlaces ((n : Int) - 1) (j : Int) (-1))) _ _ s
  rw [places_back j n hj]
  exact wpAny_pure h
theorem getItem_tuple_back {t sl : Addr} {items : Array Value} {vl vu vs : Value} {j : Nat} {Q : Value → Shared → Prop} (ht : IsTup s.heap t items) (hs : s.heap.IsSliceOf sl vl vu vs) (pl : IsPart vl none) (pu : IsPart vu (some (j : Int))) (ps : IsPart vs (some (-1)))
    (hj : j < items.size)
    (h : Q (.ref s.heap.objs.size) { s with heap := s.heap.push { cls := .type "tuple", data := .seq ((items.toList.drop (j + 1)).reverse).toArray } })
    (hsz : items.size ≤ sizeLine) : wpAny (model prog w) A (getItem (.ref t) (.ref sl)) Q E s := by
  have htake : sizeOk (.seq ((items.toList.drop (j + 1)).reverse).toArray) := by
    show ((items.toList.drop (j + 1)).reverse).toArray.size ≤ sizeLine
    rw [List.size_toArray, List.length_reverse, List.length_drop, Array.length_toList]
    omega
  obtain ⟨os, hos, hcs, hds⟩ := id hs
  have hTs : s.TypeIs (.ref sl) "slice" := ⟨os, hos, hcs⟩
  unfold getItem
  try with_reducible refine wpAny_holding ?_
  first | refine wpAny_bind (wpAny_pure ?_) | skip
  refine wpAny_bind (wpAny_sequenceKey ht.typeIs (by decide) ?_)
  refine wpAny_bind (wpAny_callSpecial?_slot (name := Str.ofString "__getitem__") ht.typeIs PyProof.Rows.slot_tuple_getitem
    (wpAny_call_entry PyProof.Rows.slot_tuple_getitem ht.typeIs entry_tuple_getitem ?_ (args_tuple_getitem _ _)))
  show wpAny _ _ (Builtin.Tuple.tupleItemsOf (.ref t) >>= _) _ _ s
  refine wpAny_bind (tupleItemsOf_ ht ?_)
  refine wpAny_bind (wpAny_typeOf hTs ?_)
  rw [if_pos (by decide)]
  refine wpAny_bind (sliceApplied_back hs pl pu ps hj ?_)
  have hno : ¬ ((((items.size : Int) - 1) == 0 && (-1 : Int) == 1 && (items.size - 1 - j) == items.size) = true) := by
    intro q
    rw [Bool.and_eq_true, Bool.and_eq_true] at q
    exact absurd (eq_of_beq q.1.2) (by decide)
  show wpAny _ _ (if (((items.size : Int) - 1) == 0 && (-1 : Int) == 1 && (items.size - 1 - j) == items.size) = true then _ else _) _ _ s
  rw [if_neg hno, pick_back items j hj]
  first
    | exact wpAny_bind (m := Builtin.Tuple.tupleExact _) (wpAny_newObj_type (wpAny_pure ⟨_, rfl, wpAny_pure h⟩) htake)
    | exact wpAny_bind (m := Builtin.Tuple.tupleExact _) (wpAny_newObj_type (wpAny_bind (wpAny_pure (wpAny_pure ⟨_, rfl, wpAny_pure h⟩))) htake)
    | exact wpAny_bind (wpAny_bind (m := Builtin.Tuple.tupleExact _) (wpAny_newObj_type (wpAny_pure (wpAny_pure ⟨_, rfl, wpAny_pure h⟩)) htake))
    | exact wpAny_bind (wpAny_bind (m := Builtin.Tuple.tupleExact _) (wpAny_newObj_type (wpAny_pure ⟨_, rfl, wpAny_pure h⟩) htake))
end
theorem vals_rev : ∀ {vs : List V} {us : List Value}, Vals vs us → Vals vs.reverse us.reverse := fun r => r.reverse
/-- e[:c:-1], e a tuple, c a place in it -/
def tBackT (K : PySem.W.Frag) (te ti : TE) : TE := fun σ H Q => te σ H fun x H1 => ti σ H1 fun c H2 => ∃ (a : Addr) (xs : List V) (j : Nat), x = .ref a ∧ c = .int (j : Int) ∧ SqT K H2 a xs ∧ j < xs.length ∧ ∀ p, H2 p = none → Q (.ref p) (upd H2 p (.tup (xs.drop (j + 1)).reverse))
theorem pe_backT {X : Cx} {e c : Expr} {te ti : TE} {k : Nat} {p1 p2 p3 pos : Pos} (he : PE X e te) (hc : PE X c ti) : PE X (.Subscript e (.Slice none (some c) (some (.UnaryOp .USub (.Constant (.int 1) k p1) p2)) p3) pos) (tBackT X.K te ti) := by
  refine ⟨fun pins s σ H Q I h => ?_⟩
  refine Subscript_ (thn (he.run pins s σ H _ I h) fun v s1 ⟨x, H1, I1, r1, q1⟩ => ?_)
  have hst : PO X (some (.UnaryOp .USub (.Constant (.int 1) k p1) p2)) (tPart (tUn (rU fun i => .int (-i)) (tC (.int 1)))) := po_some (pe_un un_neg pe_int)
  refine wpAny_Slice (thn (po_none.run pins s1 σ H1 (fun o H2 => o = none ∧ H2 = H1) I1 ⟨rfl, rfl⟩) fun vl s2 ⟨l, H2, I2, pl, el, e2⟩ => ?_)
  subst el e2
  rw [evalPart_some]
  refine thn (hc.run pins s2 σ H2 _ I2 q1) fun vu s3 ⟨y, H3, I3, ry, q3⟩ => ?_
  obtain ⟨a, xs, j, ex, ey, hx, hj, q⟩ := q3
  subst ex ey
  cases r1
  obtain ⟨tj, rfl⟩ := ry
  refine thn (hst.run pins s3 σ H3 (fun o H4 => o = some (-1) ∧ H4 = H3) I3 ⟨1, rfl, -1, rfl, rfl, rfl⟩) fun vs s4 ⟨o, H4, I4, ps, eo, e4⟩ => ?_
  subst eo e4
  have I5 : Inv X pins σ H4 { s4 with heap := s4.heap.push { cls := .type "slice", data := .fields #[vl, .int (j : Int) tj, vs] } } := I4.kept (t' := s4.toks) fun b ob q => Heap.get?_push_of_some _ q
  obtain ⟨its, r, ht, hz⟩ := I5.tuple hx
  have hlen := r.length
  show wpAny (model X.prog X.w) X.A (subscriptTail e (.Slice none (some c) (some (.UnaryOp .USub (.Constant (.int 1) k p1) p2)) p3) (.ref a) (.ref s4.heap.objs.size)) (EP X pins σ Q) X.xe { s4 with heap := s4.heap.push { cls := .type "slice", data := .fields #[vl, .int (j : Int) tj, vs] } }
  refine tail_any (ops := [.ref a, .ref s4.heap.objs.size]) ht.typeIs (PyProof.Rows.slot_tuple_getitem.lookup) ?_ (by with_unfolding_all rfl)
  refine getItem_tuple_back (j := j) ht (Heap.IsSliceOf.new _ vl _ vs) pl (.int _ tj) ps (by rw [List.size_toArray]; omega) ?_ (by rw [List.size_toArray]; omega)
  refine ⟨.ref _, _, I5.laid (t' := s4.toks) (o := .tup (xs.drop (j + 1)).reverse) (fun b ob q => Heap.get?_push_of_some _ q) (Nat.le_refl _) ?_, rfl, q _ (I5.hok.fresh (Nat.le_refl _))⟩
  exact ⟨by rw [List.length_reverse, List.length_drop]; omega, _, (r.drop (j + 1)).reverse, IsTup.new _ _⟩
/-! ### o.f as a target -/
def gFld (K : PySem.W.Frag) (to : TE) (f : Str) : TG := fun v σ H Q => to σ H fun x H1 => ∃ a C dx fs, x = .ref a ∧ H1 a = some (.ins C dx fs) ∧ Cls K C ∧ NoAttr K C f ∧ fs.length < 1000 ∧ Q σ (upd H1 a (.ins C dx (putF f v fs)))
theorem pg_fld {X : Cx} {o : Expr} {f : Str} {to : TE} {pos : Pos} (ho : PE X o to)
    (ha : ∀ v, assign (.Attribute o f pos) X.env v = (do
      let ov ← holding [v] (eval o X.env)
      standAt pos.atName
      holding [v, ov] (setAttr ov f v)
      release [v, ov] []) := by intro _; rfl) : PG X (.Attribute o f pos) (gFld X.K to f) := by
  refine ⟨fun pins s σ H v u Q I r h => ?_⟩
  rw [ha]
  refine wpAny_bind (wpAny_holding (thn (ho.run pins s σ H _ I h) fun ov s1 ⟨x, H1, I1, r1, a, C, dx, fs, ex, ea, c, n, l, q⟩ => ?_))
  subst ex
  obtain rfl : ov = Value.ref a := r1
  refine wpAny_bind (wpAny_standAt (wpAny_bind (wpAny_holding (setattr_ok I1 ea c n l r fun s2 I2 => ?_))))
  exact wpAny_release ⟨σ, _, I2, q⟩
/-! ### == by an own def, any answer -/
def rEqB (C : Addr) (sp : Sp) : R2 := fun x y H Q => ∃ a b dx dy fs gs, x = .ref a ∧ y = .ref b ∧ H a = some (.ins C dx fs) ∧ H b = some (.ins C dy gs) ∧ sp [.ref a, .ref b] H (fun v H' => (∃ r, v = .bl r) ∧ Q v H') E0
theorem op_eqOwn {X : Cx} {C f : Addr} {k : Nat} {ps : List Str} {sp : Sp} (G : Ok X.prog X.w X.K X.mg X.base k f ps [] sp) (hm : Meth X.K C "__eq__" f) (hr : Room k X.A) : OpR X (compareOp .Eq) (rEqB C sp) := by
  intro pins s σ H x y u v Q I rx ry hq
  obtain ⟨a, b, dx, dy, fs, gs, rfl, rfl, ha, hb', hsp⟩ := hq
  cases rx
  cases ry
  obtain ⟨⟨fd, dv, F, vd, bd⟩, kp⟩ := G
  cases vd
  obtain ⟨mA, J, _⟩ := ins_get I.hok ha
  obtain ⟨mB, J', _⟩ := ins_get I.hok hb'
  obtain ⟨od, J, _⟩ := J.look
  obtain ⟨od', J', _⟩ := J'.look
  obtain ⟨m, hF⟩ := I.fr
  show wpAny (model X.prog X.w) X.A (richCompare .Eq (.ref a) (.ref b)) (EP X pins σ Q) X.xe s
  refine PySem.W.cmp_K (op := .Eq) (tb := .ref C) hr.units0 hF I.ok.mod.kin J J'.type (by simp [PySem.W.notFirst]) hm.at_ hm.fn ?_
  have e0 : Env0 X.prog X.w X.K X.mg X.base X.A X.stack s H := I.env0
  have hl := F.len _ _ _ _ hsp
  have r2 : Vals [V.ref a, V.ref b] [Value.ref a, Value.ref b] := .cons rfl (.cons rfl .nil)
  refine wpAny_call (codeAny_mono (F.run X.A X.stack s H ⟨[.ref a, .ref b], []⟩ [.ref a, .ref b] [.ref a, .ref b] _ E0 hr e0 (by
    have := bd s [.ref a, .ref b] I.kIn (by simpa using hl)
    simpa using this) r2 hsp) fun r s' hq => ?_)
  cases r with
  | error e => exact passL pins σ H s e s' I hq
  | ok fl =>
    cases fl with
    | ret w =>
      obtain ⟨z, H', I', rz, ⟨r, ez⟩, q⟩ := I.after hq
      subst ez
      cases rz
      exact ⟨.bl r, H', I', rfl, q⟩
    | next => exact False.elim hq
    | brk => exact False.elim hq
    | cont => exact False.elim hq
end K21

/-! own errors whose __init__ calls a base's and stores: over any built-in base -/
namespace K21
open PySem PySem.Spec PyProof.Rows L2
/-- the class at C, over a built-in of the chain bmB made by newId -/
structure ExC (K : PySem.W.Frag) (C : Addr) (bmB : List Value) (newId : String) : Prop where
  cls : ∃ nm q N bs bm sn sub ab col dd k0 k1 k2 k3 k5, K.lookup C = some (excClassObj nm q C N bs bm true sn sub ab col dd k0 k1 k2 k3 k5 newId) ∧ PySem.W.excTail bmB bm = true
  sa : PySem.W.findIn K (.ref C) "__setattr__" = some (some (.builtin "object.__setattr__"))
  exC : PySem.W.subIn K (.ref C) (.type "BaseException") = some true
  tyC : PySem.W.typeIn K (.ref C) = some (.type "type")
  kC : PySem.W.keepIn K (.ref C) = true
def excB (K : PySem.W.Frag) (C : Addr) (bmB : List Value) (newId : String) : Bool := match K.lookup C with
  | some ⟨.type "type", _, .cls cd, sl⟩ => (match cd.mro, sl.toList with
    | .ref C' :: bm, [_, _, _, _, some (.builtin n), _] => C' == C && n == newId && !cd.hasDel && cd.hasDict && PySem.W.excTail bmB bm
    | _, _ => false)
  | _ => false
theorem excB_of {K : PySem.W.Frag} {C : Addr} {bmB : List Value} {newId : String} (q : excB K C bmB newId = true) :
    ∃ nm q N bs bm sn sub ab col dd k0 k1 k2 k3 k5, K.lookup C = some (excClassObj nm q C N bs bm true sn sub ab col dd k0 k1 k2 k3 k5 newId) ∧ PySem.W.excTail bmB bm = true := by
  unfold excB at q
  split at q
  · rename_i dd cd sl ho
    split at q
    · rename_i C' bm k0 k1 k2 k3 n k5 hm hs
      simp only [Bool.and_eq_true, beq_iff_eq, Bool.not_eq_true'] at q
      obtain ⟨⟨⟨⟨rfl, rfl⟩, hdel⟩, hdi⟩, ht⟩ := q
      obtain ⟨nm, bs, mro, ns, qn, hd, sn, sub, ab, col, del⟩ := cd
      dsimp only at hm hdel hdi
      subst hm hdel hdi
      have hsl : sl = #[k0, k1, k2, k3, some (.builtin n), k5] := by
        obtain ⟨l⟩ := sl
        simp only at hs
        rw [hs]
      subst hsl
      exact ⟨nm, qn, ns, bs, bm, sn, sub, ab, col, dd, k0, k1, k2, k3, k5, ho, ht⟩
    · cases q
  · cases q
namespace XO
open PySem.W PySem.Calls PyProof.Rows PySem.HandSPX Builtin Builtin.ObjectAttr
section
variable {prog : Program} {w : World} {A : Around} {E : Value → Shared → Prop} {R : Result → Shared → Prop} {hp : Heap} {g : Array GenState} {d : Drawn} {t : Nat} {os : OsState}
/-- the first field: the exception gets its dict -/
theorem osa {K : W.Frag} {name : Str} {tk : Tok} {v : Value} {x C : Addr} {fv : Array Value} {cd : ClassData} {bmB bm : List Value}
    (X : K.In hp) (hx : hp.get? x = some { cls := .ref C, data := .fields fv }) (hcd : W.clsIn K C = some cd) (hm : cd.mro = .ref C :: bm) (ht : excTail bmB bm = true) (hps : ∀ self : Value, refuseLoop self "__setattr__" bmB = pure ())
    (hbo : bmB.contains (.type "object") = true) (hh : cd.hasDict = true) (ha : W.findIn K (.ref C) name = some none)
    (hq : ∀ h' tk' dx, (∀ b o, b ≠ x → hp.get? b = some o → h'.get? b = some o) → hp.objs.size ≤ dx → dx ≠ x → h'.get? x = some { cls := .ref C, dict := some dx, data := .fields fv } →
      h'.Ns1 dx (fun y => if y = name then some v else none) → R (.ok (.ret .none)) ⟨h', g, d, tk', os⟩) :
    codeAny (model prog w) A (.call (.builtin "object.__setattr__") ⟨[.ref x, .str name tk, v], []⟩) R ⟨hp, g, d, t, os⟩ := by
  have I : W.InstAt hp x { cls := .ref C, data := .fields fv } C none := ⟨hx, rfl, rfl, trivial⟩
  have SF := F.store_object
  have ne : cd.mro.isEmpty = false := by rw [hm]; rfl
  have hob : cd.mro.contains (.type "object") = true := by rw [hm, List.contains_cons, excTail_contains "object" _ ht, hbo, Bool.or_true]
  have hxs : x ≠ hp.objs.size := Nat.ne_of_lt (Heap.lt_size hx)
  have sub : W.Looks (model prog w) hp (isInstance (.ref x) (.type "object")) true := I.type.andThen (W.looks_mroIn X (by unfold W.mroIn; rw [hcd, Option.bind_some, if_neg (by rw [ne]; decide), hob]))
  refine codeAny_call_builtin SF.slot.plain SF.entry (@W.check_slot (model prog w) _ _ ⟨hp, g, d, t, os⟩ "object.__setattr__" "object" "__setattr__" (.ref x) [.str name tk, v] [] _ SF.kind SF.split sub (SF.args (.ref x) (.str name tk) v) ?_)
  have hmr : W.Looks (model prog w) hp (mroOf (.ref C)) cd.mro := (W.looks_clsIn X hcd).andThen .now
  have L3 : W.Looks (model prog w) hp (storeTaker? none) none := .now
  have hcls : W.Looks (model prog w) hp (classData C) cd := W.looks_clsIn X hcd
  rw [W.osa_eq, refuse_eq]
  refine wpAny_bind (wpAny_bind (I.type.at (wpAny_bind (hmr.at ?_))))
  rw [hm, refuseLoop_ref, excTail_pass _ (hps _) _ ht]
  refine wpAny_pure (wpAny_bind (I.type.at (wpAny_bind ((W.looks_findIn X ha).at (wpAny_bind (L3.at ?_))))))
  show wpAny _ _ (storeInOwnDict (.ref x) (.ref C) (.str name tk) name v false) _ _ _
  obtain ⟨nm, bs, mro, ns, qn, hd, sn, sb, ab, col, del⟩ := cd
  dsimp only at hh
  subst hh
  unfold storeInOwnDict ownDictForStores
  repeat (first | with_reducible refine store_in_new ?_ ?_ | with_reducible refine wpAny_loadPart_at hx ?_ | with_reducible refine hcls.at ?_ | wp_step)
  · exact ⟨_, #[], _, (Heap.get?_update_ne _ _ _ _ hxs.symm).trans (Heap.get?_push_at rfl rfl), rfl, fun e he => absurd he (by simp), fun _ => rfl⟩
  · intro h' tk' hn' hs
    have hx₁ : (hp.push { cls := .type "dict", data := .dict #[] }).get? x = some { cls := .ref C, data := .fields fv } := Heap.get?_push_of_some _ hx
    refine hq h' tk' hp.objs.size (fun b o hb ho => ?_) (Nat.le_refl _) hxs.symm ?_ hn'
    · exact (hs.2 b (Nat.ne_of_lt (Heap.lt_size ho))).trans ((Heap.get?_update_ne _ _ _ _ hb).trans (Heap.get?_push_of_some _ ho))
    · exact (hs.2 x hxs).trans (Heap.get?_update_self _ hx₁ rfl)
theorem typ_RE : typeOf (.type "RuntimeError") = pure (.type "type") := by kernel_rfl
end
end XO
section
variable {X : Cx} {pins : List (Addr × Obj)} {σ : L2.St} {H : Hp} {s : Shared} {a C dx : Addr} {f : Str} {y : V} {u : Value} {fs : List (Str × V)} {Q : Unit → Shared → Prop} {E : Value → Shared → Prop} {A : Around} {bmB : List Value} {B newId initId : String}
/-- self.f = y, the first one -/
theorem xst_new (F : ExcBaseFacts B newId initId bmB) (hps : ∀ self : Value, PySem.refuseLoop self "__setattr__" bmB = pure ()) (hbo : bmB.contains (.type "object") = true) (T : ExC X.K C bmB newId) (I : Inv X pins σ H s) (e : H a = some (exo a C none)) (hno : PySem.W.findIn X.K (.ref C) f = some none) (ry : RelV y u)
    (h : ∀ dx s', H dx = none → dx ≠ a → Inv X pins σ (upd (upd H dx (exd dx [(f, y)])) a (exo a C (some dx))) s' → Q () s') : wpAny (model X.prog X.w) A (setAttr (.ref a) f u) Q E s := by
  obtain ⟨nm, q, N, bs, bm, sn, sub, ab, col, dd, k0, k1, k2, k3, k5, hC, hbm⟩ := T.cls
  have hcl : PySem.W.clsIn X.K C = some { name := nm, bases := bs, mro := .ref C :: bm, ns := N, qualname := q, hasDict := true, slotNames := sn, subclasses := sub, abstract := ab, collection := col, hasDel := false } := by unfold PySem.W.clsIn; rw [hC] <;> rfl
  obtain ⟨t1, ho⟩ := exo_at I.hok e
  obtain ⟨hp, g, d, t, os⟩ := s
  refine PySem.W.set_plain I.kIn (ox := { cls := .ref C, dict := none, data := .fields #[.ref t1, .none, .none, .none, .bool false, .none] }) (od := none) ⟨ho, rfl, rfl, trivial⟩ T.sa ?_
  refine XO.osa I.kIn ho hcl rfl hbm hps hbo rfl hno (fun h' tk' dx k dn dne hx hn => ?_)
  have hnd : H dx = none := I.hok.fresh dn
  have nd : ∀ {b : Addr} {o : Obj}, hp.get? b = some o → b ≠ dx := fun {b o} q => Nat.ne_of_lt (Nat.lt_of_lt_of_le (Heap.lt_size q) dn)
  have na : ∀ {b : Addr}, H b = none → b ≠ a := fun {b} n z => by
    rw [z, e] at n
    cases n
  have Un1 : Un X.fs [] H (upd (upd H dx (exd dx [(f, y)])) a (exo a C (some dx))) hp h' := {
    keep := fun b o q n _ _ => k b o (na n) q
    slot := fun b o q n _ _ => ⟨o.slots, k b o (na n) q⟩
    free := fun b o q n _ => by rw [upd_ne (na n), upd_ne (nd q)]; exact n
    there := fun b o q _ => by
      by_cases hb : b = a
      · exact ⟨_, by rw [hb]; exact hx⟩
      · exact ⟨o, k b o hb q⟩
    tups := fun b xs q => by rw [upd_ne (at_ne e q exo_tup), upd_ne (ne_of_none q hnd)]; exact q
    frzs := fun b o v q => by rw [upd_ne (at_ne e q exo_frz), upd_ne (ne_of_none q hnd)]; exact q
    tbls := fun b ps q => ⟨#[], by rw [upd_ne (at_ne e q exo_tbl), upd_ne (ne_of_none q hnd), q]; simp⟩ }
  refine h dx _ hnd dne (I.un (t' := tk') Un1 fun b o q => ?_)
  by_cases hb : b = a
  · subst hb
    rw [upd_same] at q
    cases q
    exact exo_ok hx
  · rw [upd_ne hb] at q
    by_cases hd : b = dx
    · subst hd
      rw [upd_same] at q
      cases q
      exact exd_ok hn (relO_put (fs := []) ry fun g => True.intro)
    · rw [upd_ne hd] at q
      exact (I.hok b o q).stay (fun c v hc z => k c v (by
          rcases hc with hc | hc
          · rw [hc]
            exact hb
          · exact at_ne e hc exo_own) z)
        (fun c hc => by rw [upd_ne (at_ne e hc exo_own), upd_ne (ne_of_none hc hnd)]; exact hc) (fun c xs hc => by rw [upd_ne (at_ne e hc exo_tup), upd_ne (ne_of_none hc hnd)]; exact hc)
/-- Base.__init__(self, ..): nothing of it is told -/
theorem xinit_ok {us : List Value} {Q : Value → Shared → Prop} (F : ExcBaseFacts B newId initId bmB) (T : ExC X.K C bmB newId) (I : Inv X pins σ H s) (e : H a = some (exo a C none)) (hl : us.length ≤ sizeLine) (h : ∀ s', Inv X pins σ H s' → Q .none s') :
    wpAny (model X.prog X.w) A (call (.builtin initId) (.ref a :: us)) Q E s := by
  obtain ⟨nm, q, N, bs, bm, sn, sub, ab, col, dd, k0, k1, k2, k3, k5, hC, hbm⟩ := T.cls
  obtain ⟨t1, ho⟩ := exo_at I.hok e
  obtain ⟨hp, g, d, t, os⟩ := s
  refine wpAny_call (PySem.HandSPX.init_base F (fun Y => PySem.W.excTail_contains Y bm hbm) (I.kIn _ _ hC) ho hl fun h' t2 k hx => ?_)
  have J := I.write (t' := t) (x := a) (e := a) (o := exo a C none) (by rw [e]; exact True.intro) (.inl rfl) k ⟨_, hx⟩ (exo_ok hx)
  have eu : upd H a (exo a C none) = H := by
    funext b
    by_cases hb : b = a
    · rw [hb, upd_same, e]
    · rw [upd_ne hb]
  rw [eu] at J
  exact h _ J
end
/-- Base.__init__(self, ..) -/
def tXeI (K : PySem.W.Frag) (bmB : List Value) (newId : String) (ta : TA) : TE := fun σ H Q => ta σ H fun vs H1 => ∃ (a C : Addr) (ws : List V), vs = .ref a :: ws ∧ ws.length ≤ 1000 ∧ ExC K C bmB newId ∧ H1 a = some (exo a C none) ∧ Q .non H1
/-- self.f = e, the first field -/
def tXst (K : PySem.W.Frag) (bmB : List Value) (newId : String) (f : Str) (to te : TE) : TS := fun D σ H => te σ H fun y H1 => to σ H1 fun x H2 => ∃ a C : Addr, x = .ref a ∧ ExC K C bmB newId ∧ PySem.W.findIn K (.ref C) f = some none ∧
  H2 a = some (exo a C none) ∧ ∀ dx, H2 dx = none → dx ≠ a → D.nx σ (upd (upd H2 dx (exd dx [(f, y)])) a (exo a C (some dx)))
/-- a class whose __init__ is a built-in's -/
structure InitOf (K : PySem.W.Frag) (L : Addr) (initId : String) : Prop where
  hg : PySem.W.specialIn K (.ref L) "__getattribute__" = some (some (.builtin "type.__getattribute__"))
  hr : PySem.W.readsIn K L (.type "type") = true
  e : PySem.W.findCls K (.ref L) (.type "type") "__init__" = some (.val (.builtin initId))
section
variable {X : Cx} {o e : Expr} {es : List Expr} {to te : TE} {ta : TA} {f x : Str} {p p' p1 p2 pos : Pos} {bmB : List Value} {B newId initId : String}
theorem pe_xinitB {pl : Sem Bool} (F : ExcBaseFacts B newId initId bmB) (hg : Gl X x) (hm : X.mg x = none) (hv : bootBuiltins x = some (.type B)) (ht : typeOf (.type B) = pure (.type "type")) (hst : Manifest.isStub B = false)
    (vV : PySem.W.findCls X.K (.type B) (.type "type") "__init__" = some (.val (.builtin initId))) (ha : PA X (e :: es) ta)
    (hc : eval (.Call (.Attribute (.Name x p1) "__init__" p2) (e :: es) [] pos) X.env = (do
      let ov ← eval (.Name x p1) X.env
      standAt p2.atName
      let (f, first) ← holding [ov] (getMethod ov "__init__" pl)
      callWith pos f first (backTo pos (starEach (e :: es) X.env)) (backToKw pos (keywordEach [] X.env))) := by rfl)
    (hnx : x ≠ ("__name__" : Str) := by decide) (hnx2 : (x == ("__debug__" : Str)) = false := by decide) (hh : PySem.W.handedIn (.builtin initId) = true := by decide +kernel)
    (he : starEach (e :: es) X.env = (false, eval e X.env) :: starEach es X.env := by rfl) (hpl : (backTo pos (starEach es X.env)).any (·.1) = false := by rfl) :
    PE X (.Call (.Attribute (.Name x p1) "__init__" p2) (e :: es) [] pos) (tXeI X.K bmB newId ta) := by
  refine ⟨fun pins s σ H Q I h => ?_⟩
  refine PySem.W.methodCall_KW (ld_blt I hg hm hv ?_ hnx hnx2) hc
  obtain ⟨m, fr⟩ := I.fr
  refine PySem.W.method_type fr I.ok.mod.kin ht hst vV hh ?_
  show wpAny _ _ (callWith pos (Value.builtin initId) [] (backTo pos (starEach (e :: es) X.env)) []) _ _ _
  refine PyProof.Rows.callWith_method1 (thn (ha.run pos pins _ σ H _ (I.tok _) h) fun us s1 ⟨vs, H1, I1, r1, a, C, ws, ev, hl, T, ea, q⟩ => ?_) he hpl
  subst ev
  cases r1 with
  | @cons _ u0 _ ur ra rw' =>
    obtain rfl : u0 = Value.ref a := ra
    have hlen : ur.length ≤ sizeLine := by
      rw [← Paired.length rw', sizeLine_eq]
      omega
    exact xinit_ok F T I1 ea hlen fun s' J => ⟨.non, H1, J, rfl, q⟩
theorem pe_xinitC {pl : Sem Bool} {L : Addr} (F : ExcBaseFacts B newId initId bmB) (N : InitOf X.K L initId) (hg : Gl X x) (hm : X.mg x = some (.ref L)) (ha : PA X (e :: es) ta)
    (hc : eval (.Call (.Attribute (.Name x p1) "__init__" p2) (e :: es) [] pos) X.env = (do
      let ov ← eval (.Name x p1) X.env
      standAt p2.atName
      let (f, first) ← holding [ov] (getMethod ov "__init__" pl)
      callWith pos f first (backTo pos (starEach (e :: es) X.env)) (backToKw pos (keywordEach [] X.env))) := by rfl)
    (hdb : (x == ("__debug__" : Str)) = false := by decide) (hh : PySem.W.handedIn (.builtin initId) = true := by decide +kernel)
    (he : starEach (e :: es) X.env = (false, eval e X.env) :: starEach es X.env := by rfl) (hpl : (backTo pos (starEach es X.env)).any (·.1) = false := by rfl) :
    PE X (.Call (.Attribute (.Name x p1) "__init__" p2) (e :: es) [] pos) (tXeI X.K bmB newId ta) := by
  refine ⟨fun pins s σ H Q I h => ?_⟩
  refine PySem.W.methodCall_KW (ld_glob I hg hm ?_ hdb) hc
  refine PySem.W.method_cls I.kIn N.hg (PySem.W.cls_value I.kIn N.hr N.e hh ?_)
  show wpAny _ _ (callWith pos (Value.builtin initId) [] (backTo pos (starEach (e :: es) X.env)) []) _ _ _
  refine PyProof.Rows.callWith_method1 (thn (ha.run pos pins _ σ H _ (I.tok _) h) fun us s1 ⟨vs, H1, I1, r1, a, C, ws, ev, hl, T, ea, q⟩ => ?_) he hpl
  subst ev
  cases r1 with
  | @cons _ u0 _ ur ra rw' =>
    obtain rfl : u0 = Value.ref a := ra
    have hlen : ur.length ≤ sizeLine := by
      rw [← Paired.length rw', sizeLine_eq]
      omega
    exact xinit_ok F T I1 ea hlen fun s' J => ⟨.non, H1, J, rfl, q⟩
theorem ps_xst (F : ExcBaseFacts B newId initId bmB) (hps : ∀ self : Value, PySem.refuseLoop self "__setattr__" bmB = pure ()) (hbo : bmB.contains (.type "object") = true) (ho : PE X o to) (he : PE X e te) (hs : swapsWith e (some (.Attribute o f p')) pos.line X.env = pure false := by rfl) : PS X (.Assign [.Attribute o f p'] e pos) (tXst X.K bmB newId f to te) := by
  refine ⟨fun pins s σ H D I h => ?_⟩
  refine plainObj_wpAny_Assign_Attribute (thn (he.run pins s σ H _ I h) fun v s1 ⟨y, H1, I1, r1, q1⟩ => thn (ho.run pins s1 σ H1 _ I1 q1) fun u s2 ⟨x, H2, I2, r2, a, C, ex, T, hno, ea, q⟩ => ?_) hs
  subst ex
  obtain rfl : u = Value.ref a := r2
  exact xst_new F hps hbo T I2 ea hno r1 fun dx s' n ne J => ⟨σ, _, J, q dx n ne⟩
/-- what an own __init__ with one field promises -/
def spXi (C : Addr) (f : Str) : Sp := fun vs H Q _ => ∃ (a : Addr) (x : V), vs = [.ref a, x] ∧ H a = some (exo a C none) ∧ ∀ dx, H dx = none → dx ≠ a → Q .non (upd (upd H dx (exd dx [(f, x)])) a (exo a C (some dx)))
/-- C(e) -/
def tXm (C : Addr) (f : Str) (ta : TA) : L2.St → Hp → XK → Prop := fun σ H Q => ta σ H fun vs H1 => ∃ x, vs = [x] ∧ ∀ d, H1 d = none → Q (.ref C) (some d) (upd H1 d (.xd [(f, x)]))
theorem pmk_xm {C fI : Addr} {k : Nat} {ps : List Str} (F : ExcBaseFacts B newId initId bmB) (T : ExC X.K C bmB newId) (iC : PySem.W.findIn X.K (.ref C) "__init__" = some (some (.ref fI))) (tI : PySem.W.typeIn X.K (.ref fI) = some (.type "function"))
    (G : Ok X.prog X.w X.K X.mg X.base k fI ps [] (spXi C f)) (hr : Room (k + 1) X.A) (hg : Gl X x) (hm : X.mg x = some (.ref C)) (ha : PA X (e :: es) ta)
    (hdb : (x == ("__debug__" : Str)) = false := by decide) (he : starEach (e :: es) X.env = (false, eval e X.env) :: starEach es X.env := by rfl) (hpl : (backTo pos (starEach es X.env)).any (·.1) = false := by rfl) :
    PMk X (.Call (.Name x p) (e :: es) [] pos) (tXm C f ta) := by
  intro pins s σ H Q I h
  obtain ⟨⟨fd, dv, F1, vd, hb⟩, kp⟩ := G
  cases vd
  obtain ⟨nm, q, N, bs, bm, sn, sub, ab, col, dd, k0, k1, k2, k3, k5, hC, hbm⟩ := T.cls
  refine wpAny_Call_Name_kw (ld_glob I hg hm ?_ hdb)
  refine PySem.W.callWith_K (h₀ := X.base) I.ok.mod.kin T.kC (thn (ha.run pos pins s σ H _ I h) fun us s1 ⟨vs, H1, I1, r1, y, ey, q1⟩ => ⟨I1.kIn, ?_⟩) he hpl
  subst ey
  show wpAny _ _ (call (.ref C) us) _ _ _
  obtain ⟨hp, g, dr, tk, os⟩ := s1
  have hsz : hp.objs.size ≤ hp.objs.size + 1 := Nat.le_succ _
  have hn : H1 (hp.objs.size + 1) = none := I1.hok.fresh hsz
  have kk : ∀ b o, hp.get? b = some o → ((hp.push (PySem.W.kdv_tup us)).push (PySem.HandSPX.excO C hp.objs.size)).get? b = some o := fun b o e => Heap.get?_push_of_some _ (Heap.get?_push_of_some _ e)
  have hget : ((hp.push (PySem.W.kdv_tup us)).push (PySem.HandSPX.excO C hp.objs.size)).get? (hp.objs.size + 1) = some (PySem.HandSPX.excO C hp.objs.size) := by heap_get
  have I2 : Inv X pins σ (upd H1 (hp.objs.size + 1) (exo (hp.objs.size + 1) C none)) ⟨(hp.push (PySem.W.kdv_tup us)).push (PySem.HandSPX.excO C hp.objs.size), g, dr, tk, os⟩ :=
    I1.laid (t' := tk) (a := hp.objs.size + 1) (o := exo (hp.objs.size + 1) C none) (h' := (hp.push (PySem.W.kdv_tup us)).push (PySem.HandSPX.excO C hp.objs.size)) kk hsz (exo_ok hget)
  have r2 : Vals (V.ref (hp.objs.size + 1) :: ([y] ++ [])) (Value.ref (hp.objs.size + 1) :: (us ++ [])) := .cons rfl (r1.append .nil)
  have hq : spXi C f (V.ref (hp.objs.size + 1) :: ([y] ++ [])) (upd H1 (hp.objs.size + 1) (exo (hp.objs.size + 1) C none))
      (fun v H2 => v = .non ∧ ∃ d : Addr, H1 d = none ∧ d ≠ hp.objs.size + 1 ∧ H2 = upd (upd (upd H1 (hp.objs.size + 1) (exo (hp.objs.size + 1) C none)) d (exd d [(f, y)])) (hp.objs.size + 1) (exo (hp.objs.size + 1) C (some d))) (fun _ _ _ => False) := by
    refine ⟨hp.objs.size + 1, y, rfl, upd_same, fun d hd ne => ⟨rfl, d, ?_, ne, rfl⟩⟩
    rw [upd_ne ne] at hd
    exact hd
  have hl : (Value.ref (hp.objs.size + 1) :: us ++ []).length = ps.length := by
    have e := r2.length
    rw [F1.len _ _ _ _ hq] at e
    exact e.symm
  have hus : us.length ≤ sizeLine := by
    rw [← Paired.length r1, sizeLine_eq]
    show 1 ≤ _
    omega
  have hx : Passes (L2.CX X.prog X.w) X (fun _ _ _ => False) := passL
  refine wpAny_call (PySem.HandSPX.call_own F (fun Y => PySem.W.excTail_contains Y bm hbm) (I1.kIn _ _ hC) (PySem.W.looks_findIn I1.kIn iC) (fun self => PySem.W.bind_fn I1.kIn self tI) hus
    (codeAny_mono (F1.run _ X.stack _ _ ⟨Value.ref (hp.objs.size + 1) :: us, []⟩ (Value.ref (hp.objs.size + 1) :: (us ++ [])) _ _ (fun _ _ _ => False) (hr.make C us []) (I2.env0.make C us []) (by have z := hb _ (Value.ref (hp.objs.size + 1) :: us) I2.kIn hl; rwa [List.cons_append] at z) r2 hq) fun r s' hq' => ?_))
  cases r with
  | error er => exact hx pins σ _ _ er s' I2 hq'
  | ok fl =>
    cases fl with
    | ret u =>
      obtain ⟨v, H2, os2, bare2, un2, hok2, rv, ev, d, hd1, hne, eH⟩ := hq'
      subst ev
      obtain ⟨h2, g2, d2, t2, os'⟩ := s'
      have ea : H2 (hp.objs.size + 1) = some (exo (hp.objs.size + 1) C (some d)) := by rw [eH, upd_same]
      have ed : H2 d = some (exd d [(f, y)]) := by rw [eH, upd_ne hne, upd_same]
      have eF : upd (del H2 (hp.objs.size + 1)) d (.xd [(f, y)]) = upd H1 d (.xd [(f, y)]) := by
        funext b
        by_cases hbd : b = d
        · rw [hbd, upd_same, upd_same]
        · rw [upd_ne hbd, upd_ne hbd]
          by_cases hba : b = hp.objs.size + 1
          · rw [hba, del_same, hn]
          · rw [del_ne hba, eH, upd_ne hba, upd_ne hbd, upd_ne hba]
      exact ⟨rv, mk_end (raises_own T.exC T.tyC) I1 hsz kk un2 hok2 os2 bare2 ea ed hd1 (by rw [eF]; exact q1 d hd1)⟩
    | next => exact False.elim hq'
    | brk => exact False.elim hq'
    | cont => exact False.elim hq'
end
end K21

/-! the board's properties and methods -/
namespace K21
open PySem PySem.Spec PyProof.Rows L2
abbrev veL : List Value := [.type "ValueError", .type "Exception", .type "BaseException", .type "object"]
abbrev reL : List Value := [.type "RuntimeError", .type "Exception", .type "BaseException", .type "object"]
/-- an own error with one field -/
structure EX1 (K : PySem.W.Frag) (x f : Str) (bmB : List Value) (newId : String) : Prop where
  ex : ExC K (He.ga K x) bmB newId
  iC : PySem.W.findIn K (.ref (He.ga K x)) "__init__" = some (some (.ref (He.fAd K (x, some "__init__"))))
  tI : PySem.W.typeIn K (.ref (He.fAd K (x, some "__init__"))) = some (.type "function")
  nF : PySem.W.findIn K (.ref (He.ga K x)) f = some none
structure Tz (K : PySem.W.Frag) (mg : Str → Option Value) : Prop where
  tx : Tx K mg
  bn : EX1 K "BadNumber" "given" veL "ValueError.__new__"
  nl : EX1 K "NothingLeft" "many" reL "RuntimeError.__new__"
  le : InitOf K (He.ga K "LookError") "ValueError.__init__"
  rt : PySem.W.findCls K (.type "RuntimeError") (.type "type") "__init__" = some (.val (.builtin "RuntimeError.__init__"))
abbrev CB (K : PySem.W.Frag) : Addr := He.ga K "Board"
abbrev CT (K : PySem.W.Frag) : Addr := He.ga K "Trial"
abbrev CN (K : PySem.W.Frag) : Addr := He.ga K "BadNumber"
abbrev CL (K : PySem.W.Frag) : Addr := He.ga K "NothingLeft"
theorem aMany : ("many" : Str) ∈ attB := by decide +kernel
theorem aNow : ("now" : Str) ∈ attB := by decide +kernel
theorem aPast : ("past" : Str) ∈ attB := by decide +kernel
theorem aComing : ("coming" : Str) ∈ attB := by decide +kernel
section
variable {P : Program} {w : World} {K : PySem.W.Frag} {mg : Str → Option Value} {base : Heap}
/-! ### errors -/
theorem ok_BadNumber (T : Tz K mg) : Ok P w K mg base 1 (He.fAd K d_BadNumber__init.at_) ["self", "given"] [] (spXi (CN K) "given") := by
  refine T.tx.ok at_BadNumber__init sc_BadNumber__init rfl rfl (fun _ _ _ _ _ _ us hl => match us, hl with | [_, _], _ => rfl) (fun vs H Q E h => ?_) (fun cdv A outer s H vs Q E hr h => ?_)
  · obtain ⟨a, x, rfl, _⟩ := h
    rfl
  · obtain ⟨a, x, rfl, ha, q⟩ := h
    refine ⟨_, pss_cons (ps_expr (pe_xinitC F.excBase_ValueError T.le rfl (T.tx.mglo "LookError") (pa_cons (pv 0) (pa_cons pe_str pa_nil)))) (pss_one (ps_xst F.excBase_ValueError (fun self => F.store_ValueError.passes self) (by decide +kernel) (pv 0) (pv 1))), ?_⟩
    exact ⟨_, rfl, a, _, _, rfl, by decide, T.bn.ex, ha, _, rfl, _, rfl, a, _, rfl, T.bn.ex, T.bn.nF, ha, q⟩
theorem ok_NothingLeft (T : Tz K mg) : Ok P w K mg base 1 (He.fAd K d_NothingLeft__init.at_) ["self", "many"] [] (spXi (CL K) "many") := by
  refine T.tx.ok at_NothingLeft__init sc_NothingLeft__init rfl rfl (fun _ _ _ _ _ _ us hl => match us, hl with | [_, _], _ => rfl) (fun vs H Q E h => ?_) (fun cdv A outer s H vs Q E hr h => ?_)
  · obtain ⟨a, x, rfl, _⟩ := h
    rfl
  · obtain ⟨a, x, rfl, ha, q⟩ := h
    refine ⟨_, pss_cons (ps_expr (pe_xinitB F.excBase_RuntimeError rfl (T.tx.mfre "RuntimeError") PyProof.Rows.Boot.«RuntimeError» XO.typ_RE (by decide +kernel) T.rt (pa_cons (pv 0) (pa_cons pe_str pa_nil)) (hnx := by decide)))
      (pss_one (ps_xst F.excBase_RuntimeError (fun self => F.store_RuntimeError.passes self) (by decide +kernel) (pv 0) (pv 1))), ?_⟩
    exact ⟨_, rfl, a, _, _, rfl, by decide, T.nl.ex, ha, _, rfl, _, rfl, a, _, rfl, T.nl.ex, T.nl.nF, ha, q⟩
/-! ### properties -/
def spSlots (C : Addr) : Sp := fun vs H Q _ => ∃ p dx n v c b, vs = [.ref p] ∧ BdAt C H p dx n v c b ∧ ∀ ct, H ct = some (.tup (b.now.sd.cells.map V.int)) → Q (.ref ct) H
theorem ok_slots (T : Tx K mg) : Ok P w K mg base 1 (pAd K "Board" "slots") ["self"] [] (spSlots (CB K)) := by
  refine T.okp at_Board_slots rfl sc_Board_slots (fun _ _ _ _ _ _ us hl => match us, hl with | [_], _ => rfl) (fun vs H Q E h => ?_) (fun cdv A outer s H vs Q E hr h => ?_)
  · obtain ⟨p, dx, n, v, c, b, rfl, _⟩ := h
    rfl
  · obtain ⟨p, dx, n, v, c, b, rfl, B, q⟩ := h
    obtain ⟨a, dt, st, xs, rfl, h1, h2, h3, ⟨sa, ct, mt, lt, ms, ls, rfl, g1, g2, g3, g4, g5, g6, g7⟩⟩ := B.now
    refine ⟨_, pss_one (ps_ret (pe_ix ix_tup (pe_ix ix_tup (pe_fld (pv 0) rfl) pe_int (fun _ _ => rfl)) pe_int (fun _ _ => rfl))), ?_⟩
    exact ⟨_, rfl, p, _, _, _, _, rfl, B.ob, T.clB, T.aB _ aNow, rfl, a, _, 1, _, rfl, rfl, SqT.of h1, rfl, sa, _, 0, _, rfl, rfl, SqT.of g1, rfl, q ct g2⟩
def spTrue (C : Addr) : Sp := fun vs H Q _ => ∃ p dx n v c b, vs = [.ref p] ∧ BdAt C H p dx n v c b ∧ Q (.int b.now.sd.total) H
theorem ok_true (T : Tx K mg) : Ok P w K mg base 1 (pAd K "Board" "true") ["self"] [] (spTrue (CB K)) := by
  refine T.okp at_Board_true rfl sc_Board_true (fun _ _ _ _ _ _ us hl => match us, hl with | [_], _ => rfl) (fun vs H Q E h => ?_) (fun cdv A outer s H vs Q E hr h => ?_)
  · obtain ⟨p, dx, n, v, c, b, rfl, _⟩ := h
    rfl
  · obtain ⟨p, dx, n, v, c, b, rfl, B, q⟩ := h
    obtain ⟨a, dt, st, xs, rfl, h1, h2, h3, ⟨sa, ct, mt, lt, ms, ls, rfl, g1, g2, g3, g4, g5, g6, g7⟩⟩ := B.now
    refine ⟨_, pss_one (ps_ret (pe_ix ix_tup (pe_ix ix_tup (pe_fld (pv 0) rfl) pe_int (fun _ _ => rfl)) pe_int (fun _ _ => rfl))), ?_⟩
    exact ⟨_, rfl, p, _, _, _, _, rfl, B.ob, T.clB, T.aB _ aNow, rfl, a, _, 1, _, rfl, rfl, SqT.of h1, rfl, sa, _, 1, _, rfl, rfl, SqT.of g1, rfl, q⟩
def spReaders (C : Addr) : Sp := fun vs H Q _ => ∃ p dx n v c b, vs = [.ref p] ∧ BdAt C H p dx n v c b ∧ Q (.int b.now.sd.readers) H
theorem ok_readers (T : Tx K mg) : Ok P w K mg base 1 (pAd K "Board" "readers") ["self"] [] (spReaders (CB K)) := by
  refine T.okp at_Board_readers rfl sc_Board_readers (fun _ _ _ _ _ _ us hl => match us, hl with | [_], _ => rfl) (fun vs H Q E h => ?_) (fun cdv A outer s H vs Q E hr h => ?_)
  · obtain ⟨p, dx, n, v, c, b, rfl, _⟩ := h
    rfl
  · obtain ⟨p, dx, n, v, c, b, rfl, B, q⟩ := h
    obtain ⟨a, dt, st, xs, rfl, h1, h2, h3, ⟨sa, ct, mt, lt, ms, ls, rfl, g1, g2, g3, g4, g5, g6, g7⟩⟩ := B.now
    refine ⟨_, pss_one (ps_ret (pe_callB call_len_seq (by rfl) (T.mfre "len") PySem.boot_len (pa_cons (pe_ix ix_tup (pe_ix ix_tup (pe_fld (pv 0) rfl) pe_int (fun _ _ => rfl)) pe_int (fun _ _ => rfl)) pa_nil))), ?_⟩
    refine ⟨_, rfl, p, _, _, _, _, rfl, B.ob, T.clB, T.aB _ aNow, rfl, a, _, 1, _, rfl, rfl, SqT.of h1, rfl, sa, _, 3, _, rfl, rfl, SqT.of g1, rfl, lt, ls, rfl, .inr (SqT.of g5), ?_⟩
    rw [g6]
    exact q
/-- the moves under way -/
def uwL : Nat → List Mv → List Int
  | _, [] => []
  | i, m :: r => if m.done then uwL (i + 1) r else (i : Int) :: uwL (i + 1) r
theorem uwL_app : ∀ (i : Nat) (l : List Mv) (m : Mv), uwL i (l ++ [m]) = uwL i l ++ (if m.done then [] else [((i + l.length : Nat) : Int)])
  | i, [], m => by
    cases h : m.done <;> simp [uwL, h]
  | i, a :: r, m => by
    have e := uwL_app (i + 1) r m
    have z : i + 1 + r.length = i + (a :: r).length := by simp; omega
    rw [z] at e
    show (if a.done then uwL (i + 1) (r ++ [m]) else (i : Int) :: uwL (i + 1) (r ++ [m])) = (if a.done then uwL (i + 1) r else (i : Int) :: uwL (i + 1) r) ++ _
    rw [e]
    split <;> rfl
theorem uwL_mem : ∀ (i : Nat) (l : List Mv) (x : Int), x ∈ uwL i l → ∃ k : Nat, x = (k : Int) ∧ i ≤ k ∧ k < i + l.length
  | i, [], x, h => by cases h
  | i, a :: r, x, h => by
    have h' : x ∈ (if a.done then uwL (i + 1) r else (i : Int) :: uwL (i + 1) r) := h
    have ih : x ∈ uwL (i + 1) r → ∃ k : Nat, x = (k : Int) ∧ i ≤ k ∧ k < i + (a :: r).length := fun q => by
      obtain ⟨k, e, h1, h2⟩ := uwL_mem (i + 1) r x q
      exact ⟨k, e, by omega, by simp; omega⟩
    split at h'
    · exact ih h'
    · rcases List.mem_cons.mp h' with e | h'
      · exact ⟨i, e, Nat.le_refl _, by simp⟩
      · exact ih h'
theorem uwL_len : ∀ (i : Nat) (l : List Mv), (uwL i l).length ≤ l.length
  | _, [] => Nat.le_refl _
  | i, a :: r => by
    have e := uwL_len (i + 1) r
    show (if a.done then uwL (i + 1) r else (i : Int) :: uwL (i + 1) r).length ≤ r.length + 1
    split
    · omega
    · simp; omega
def spUw (C : Addr) : Sp := fun vs H Q _ => ∃ p dx n v c b, vs = [.ref p] ∧ BdAt C H p dx n v c b ∧ b.now.sd.moves.length ≤ 900 ∧ ∀ H' t, Same H H' → H' t = some (.tup ((uwL 0 b.now.sd.moves).map V.int)) → Q (.ref t) H'
theorem tk_succ {α : Type} {l : List α} {i : Nat} {x : α} (h : l[i]? = some x) : l.take (i + 1) = l.take i ++ [x] := by
  rw [List.take_add_one, h]
  rfl
theorem ok_under_way (T : Tx K mg) : Ok P w K mg base 1 (pAd K "Board" "under_way") ["self"] [] (spUw (CB K)) := by
  refine T.okp at_Board_under_way rfl sc_Board_under_way (fun _ _ _ _ _ _ us hl => match us, hl with | [_], _ => rfl) (fun vs H Q E h => ?_) (fun cdv A outer s H vs Q E hr h => ?_)
  · obtain ⟨p, dx, n, v, c, b, rfl, _⟩ := h
    rfl
  · obtain ⟨p, dx, n, v, c, b, rfl, B, hM, q⟩ := h
    obtain ⟨a, dt, st, xs, rfl, h1, h2, h3, ⟨sa, ct, mt, lt, ms, ls, rfl, g1, g2, g3, g4, g5, g6, g7⟩⟩ := B.now
    have nd := sc_Board_under_way.nd
    refine ⟨_, pss_one (ps_ret (pe_callTy call_tuple_of (by rfl) (T.mfre "tuple") PyProof.Rows.boot_tuple (pa_cons (pe_lc (own := [("number", 1), ("pair", 2)]) (g := gTup K 2 (gCons (gName 1) (gCons (gName 2) gNil))) rfl nd
        (pi_enumT (by rfl) (T.mfre "enumerate") (pa_cons (pe_ix ix_tup (pe_ix ix_tup (pe_fld (pv 0) rfl) pe_int (fun _ _ => rfl)) pe_int (fun _ _ => rfl)) pa_nil))
        (blkOk_by (N := N_Board_under_way) (sc := defScope s_Board_under_way) (by decide +kernel)) (fun _ _ _ _ _ => pg_tup (n := 2) rfl (pgs_cons (pg_name (i := 1) nd rfl (Or.inl rfl)) (pgs_cons (pg_name (i := 2) nd rfl (Or.inl rfl)) pgs_nil)))
        (fun _ _ _ _ _ => pts_one (pt_not (pt_val (pe_ix (r := rIxT K) ix_tup (pv 2) pe_int (fun _ _ => rfl)))))
        (fun _ _ _ _ _ => pv 1)) pa_nil))), ?_⟩
    have lm := g4.length
    refine ⟨_, rfl, p, _, _, _, _, rfl, B.ob, T.clB, T.aB _ aNow, rfl, a, _, 1, _, rfl, rfl, SqT.of h1, rfl, sa, _, 2, _, rfl, rfl, SqT.of g1, rfl, mt, ms, rfl, SqT.of g3, fun D hD => ?_⟩
    refine lc_it (walk_enumT (K := K) (a := mt) (xs := ms)) (fun i H1 => H1 D = some (.lst ((uwL 0 (b.now.sd.moves.take i)).map V.int)) ∧ Same H H1) ⟨upd_same, sN hD⟩
      (fun i H1 _ ⟨_, s⟩ => SqT.of (s _ _ g3)) (fun i x H1 H2 hi ⟨e, s⟩ y => ?_) (fun H1 ⟨e, s⟩ => ?_)
    · obtain ⟨Tp, y1, y2, rfl, hT, rfl, ey1, ey2⟩ := y
      cases ey1
      have him : i < b.now.sd.moves.length := by omega
      obtain ⟨vv, hv, mp, m, rfl, hmp, hm⟩ := prd_gt g4 (i := i) (y := b.now.sd.moves[i]) (List.getElem?_eq_getElem him)
      have ey2' : ms[i]? = some y2 := ey2
      rw [hv] at ey2'
      cases ey2'
      have es : b.now.sd.moves.take (i + 1) = b.now.sd.moves.take i ++ [b.now.sd.moves[i]] := tk_succ (List.getElem?_eq_getElem him)
      have eu := uwL_app 0 (b.now.sd.moves.take i) b.now.sd.moves[i]
      rw [← es] at eu
      have el : (b.now.sd.moves.take i).length = i := by rw [List.length_take]; omega
      rw [el] at eu
      have hlen : ((uwL 0 (b.now.sd.moves.take i)).map V.int).length ≤ i := by
        rw [List.length_map]
        have := uwL_len 0 (b.now.sd.moves.take i)
        omega
      have sT : Same H1 (upd H1 Tp (.tup [.int (i : Nat), .ref mp])) := sN hT
      refine ⟨Tp, _, rfl, SqT.of upd_same, rfl, _, _, rfl, _, _, rfl, rfl, rfl, ?_⟩
      refine ⟨_, rfl, mp, _, 1, _, rfl, rfl, SqT.of (sT _ _ (s _ _ hmp)), rfl, _, rfl, ?_⟩
      have eD : upd H1 Tp (.tup [.int (i : Nat), .ref mp]) D = some (.lst ((uwL 0 (b.now.sd.moves.take i)).map V.int)) := sT _ _ e
      cases hd : b.now.sd.moves[i].done with
      | true =>
        rw [hd] at eu
        refine iteF ?_
        rw [eu]
        exact ⟨by simpa using eD, s.trans sT⟩
      | false =>
        rw [hd] at eu
        refine iteT ?_
        refine ⟨_, rfl, _, eD, by show _ < sizeLine; exact Nat.lt_of_le_of_lt hlen (Nat.lt_of_lt_of_le (by omega) (line_le (n := 1000) (by omega))), ?_, fun a o z => ?_⟩
        · rw [eu]
          simp [upd_same]
        · have hz : a ≠ D := fun z2 => by
            rw [z2] at z
            exact absurd z (by rw [hD]; intro z3; cases z3)
          rw [upd_ne hz]
          exact sT _ _ (s _ _ z)
    · have ee : b.now.sd.moves.take ms.length = b.now.sd.moves := List.take_of_length_le (by omega)
      rw [ee] at e
      exact ⟨D, _, rfl, .inl ⟨SqL.of e, fun l hl => q _ l (sN' s hl) upd_same⟩⟩
end
end K21

/-! the board's methods -/
namespace K21
open PySem PySem.Spec PyProof.Rows L2
theorem pfNow (n v c y : V) : putF "now" y (bF n v c) = bF y v c := rfl
theorem pfPast (n v c y : V) : putF "past" y (bF n v c) = bF n y c := rfl
theorem pfComing (n v c y : V) : putF "coming" y (bF n v c) = bF n v y := rfl
theorem bF_len (n v c : V) : (bF n v c).length < 1000 := by
  show 4 < 1000
  decide
theorem Sh.str {k : Nat} {x : Str} (h : PyData.canLay0 (.str x) = true := by decide +kernel) : Sh k (.str x) := ⟨h, Nat.zero_le _⟩
theorem sh1 {k : Nat} {a : PyData} (ha : Sh k a) : ∀ d ∈ [a], Sh k d := fun d h => by rw [List.mem_singleton.mp h]; exact ha
theorem shC {k : Nat} {a : PyData} {l : List PyData} (ha : Sh k a) (hl : ∀ d ∈ l, Sh k d) : ∀ d ∈ a :: l, Sh k d := fun d h => (List.mem_cons.mp h).elim (fun e => by rw [e]; exact ha) (hl d)
theorem slB {K : PySem.W.Frag} {H : Hp} {a : Addr} {xs : List V} {lo hi : Option Int} {Q : VK} (h : H a = some (.tup xs)) (q : ∀ p H', Same H H' → H' p = some (.tup (cutV xs lo hi)) → Q (.ref p) H') : rSlA K (.ref a) lo hi H Q := by
  refine ⟨a, xs, rfl, SqT.of h, fun hw => q a H (Same.refl H) ?_, fun _ p hp => q p _ (sN hp) upd_same⟩
  have e : cutV xs lo hi = xs := by
    unfold cutV
    rw [hw.1, hw.2, List.drop_zero, Nat.sub_zero, List.take_of_length_le (Nat.le_refl _)]
  rw [e]
  exact h
theorem catB {K : PySem.W.Frag} {H : Hp} {a b : Addr} {xs ys : List V} {Q : VK} (ha : H a = some (.tup xs)) (hb : H b = some (.tup ys)) (hl : xs.length + ys.length ≤ 1000) (q : ∀ p H', Same H H' → H' p = some (.tup (xs ++ ys)) → Q (.ref p) H') : rCatA K (.ref a) (.ref b) H Q := by
  refine ⟨a, b, xs, ys, rfl, rfl, SqT.of ha, SqT.of hb, line_le hl, fun e => q b H (Same.refl H) ?_, fun _ e => q a H (Same.refl H) ?_, fun _ _ p hp => q p _ (sN hp) upd_same⟩
  · rw [e]
    exact hb
  · rw [e, List.append_nil]
    exact ha
theorem Same.kp {S : List Addr} {H H1 : Hp} (s : Same H H1) : Kp S H H1 := Kp.of_same s
theorem bdOff {C : Addr} {H : Hp} {p dx : Addr} {n v c : V} (h : H p = some (.ins C dx (bF n v c))) : Off H [p] := Off.cons h rfl Off.nil
theorem BdAt.sm {C : Addr} {H H' : Hp} {p dx : Addr} {n v c : V} {b : Bd} (B : BdAt C H p dx n v c b) (s : Same H H') : BdAt C H' p dx n v c b := B.kp (Same.tk s) (s _ _ B.ob)
section
variable {C : Addr} {H : Hp} {p dx : Addr} {n v c y : V} {b : Bd}
theorem bdSt {n' v' c' : V} (B : BdAt C H p dx n v c b) : Kp [p] H (upd H p (.ins C dx (bF n' v' c'))) ∧ TK H (upd H p (.ins C dx (bF n' v' c'))) :=
  have k : Kp [p] H (upd H p (.ins C dx (bF n' v' c'))) := Kp.upd (by simp)
  ⟨k, k.tk (bdOff B.ob)⟩
theorem bdNow {l : Nw} (B : BdAt C H p dx n v c b) (h : NwAt H y l) : BdAt C (upd H p (.ins C dx (bF y v c))) p dx y v c ⟨l, b.past, b.coming⟩ :=
  have t := (bdSt (n' := y) (v' := v) (c' := c) B).2
  ⟨upd_same, NwAt.tk t h, NwsAt.tk t B.past, NwsAt.tk t B.coming⟩
theorem bdPast {l : List Nw} (B : BdAt C H p dx n v c b) (h : NwsAt H y l) : BdAt C (upd H p (.ins C dx (bF n y c))) p dx n y c ⟨b.now, l, b.coming⟩ :=
  have t := (bdSt (n' := n) (v' := y) (c' := c) B).2
  ⟨upd_same, NwAt.tk t B.now, NwsAt.tk t h, NwsAt.tk t B.coming⟩
theorem bdComing {l : List Nw} (B : BdAt C H p dx n v c b) (h : NwsAt H y l) : BdAt C (upd H p (.ins C dx (bF n v y))) p dx n v y ⟨b.now, b.past, l⟩ :=
  have t := (bdSt (n' := n) (v' := v) (c' := y) B).2
  ⟨upd_same, NwAt.tk t B.now, NwsAt.tk t B.past, NwsAt.tk t h⟩
end
/-- how a deed changes a board -/
structure Did (b b' : Bd) : Prop where
  past : b'.past.length = b.past.length + 1
  coming : b'.coming = []
  deeds : b'.now.deeds.length = b.now.deeds.length + 1
def undoB (m : Nat) (b : Bd) : Bd := ⟨b.past.getD (b.past.length - m) b.now, b.past.take (b.past.length - m), b.coming ++ [b.now] ++ (b.past.drop (b.past.length - m + 1)).reverse⟩
def redoB (m : Nat) (b : Bd) : Bd := ⟨b.coming.getD (b.coming.length - m) b.now, b.past ++ [b.now] ++ (b.coming.drop (b.coming.length - m + 1)).reverse, b.coming.take (b.coming.length - m)⟩
theorem getD_mem {α : Type} {l : List α} {i : Nat} {d : α} (h : i < l.length) : l.getD i d ∈ l := by
  rw [List.getD_eq_getElem?_getD, List.getElem?_eq_getElem h]
  exact List.getElem_mem h
theorem undoB_ok {M m : Nat} {b : Bd} (h : BdOk M b) (h1 : 1 ≤ m) (h2 : m ≤ b.past.length) : BdOk M (undoB m b) := by
  have hc : b.past.length - m < b.past.length := by omega
  have pc := h.pc
  refine ⟨h.past _ (getD_mem hc), fun n hn => h.past n (List.mem_of_mem_take hn), fun n hn => ?_, ?_⟩
  · rcases List.mem_append.mp hn with hn | hn
    · rcases List.mem_append.mp hn with hn | hn
      · exact h.coming n hn
      · rw [List.mem_singleton.mp hn]
        exact h.now
    · exact h.past n (List.mem_of_mem_drop (List.mem_reverse.mp hn))
  · show (b.past.take (b.past.length - m)).length + (b.coming ++ [b.now] ++ (b.past.drop (b.past.length - m + 1)).reverse).length ≤ M
    simp only [List.length_take, List.length_append, List.length_reverse, List.length_drop, List.length_cons, List.length_nil]
    omega
theorem redoB_ok {M m : Nat} {b : Bd} (h : BdOk M b) (h1 : 1 ≤ m) (h2 : m ≤ b.coming.length) : BdOk M (redoB m b) := by
  have hc : b.coming.length - m < b.coming.length := by omega
  have pc := h.pc
  refine ⟨h.coming _ (getD_mem hc), fun n hn => ?_, fun n hn => h.coming n (List.mem_of_mem_take hn), ?_⟩
  · rcases List.mem_append.mp hn with hn | hn
    · rcases List.mem_append.mp hn with hn | hn
      · exact h.past n hn
      · rw [List.mem_singleton.mp hn]
        exact h.now
    · exact h.coming n (List.mem_of_mem_drop (List.mem_reverse.mp hn))
  · show (b.past ++ [b.now] ++ (b.coming.drop (b.coming.length - m + 1)).reverse).length + (b.coming.take (b.coming.length - m)).length ≤ M
    simp only [List.length_take, List.length_append, List.length_reverse, List.length_drop, List.length_cons, List.length_nil]
    omega
section
variable {X : Cx} {E : XK}
theorem passX {E₁ : Value → Shared → Prop} (hs : X.stack = X.env :: X.outer := by rfl) (hf : X.env.frame = some X.env.locals := by rfl) (hex : X.ex = [] := by rfl)
    (hx : X.xe = fun e s' => wpAny (model X.prog X.w) X.A (leaving X.env e) (fun _ s'' => L2.CX X.prog X.w X.outer X.H_0 X.s_0 E e s'') E₁ s' := by rfl) : Passes (L2.CX X.prog X.w) X E :=
  passes_call (takes_of hs hf hex hx) fun _ _ _ _ h => h
end
section
variable {P : Program} {w : World} {K : PySem.W.Frag} {mg : Str → Option Value} {base : Heap}
/-! ### do -/
def spDo (C : Addr) : Sp := fun vs H Q _ => ∃ p dx n v c b d dd M, vs = [.ref p, .ref d] ∧ BdAt C H p dx n v c b ∧ BdOk M b ∧ M ≤ 600 ∧ DT H (.ref d) dd ∧ Sh 3 dd ∧ DeedAt H d b.now.sd ∧
  ∀ (H' : Hp) (n' v' c' : V) (b' : Bd) (f : V), Kp [p] H H' → BdAt C H' p dx n' v' c' b' → BdOk (M + 1) b' → Did b b' → Q f H'
theorem ok_do (T : Tx K mg) : Ok P w K mg base 4 (He.fAd K d_Board_do.at_) ["self", "deed"] [] (spDo (CB K)) := by
  refine T.ok at_Board_do sc_Board_do rfl rfl (fun _ _ _ _ _ _ us hl => match us, hl with | [_, _], _ => rfl) (fun vs H Q E h => ?_) (fun cdv A outer s H vs Q E hr h => ?_)
  · obtain ⟨p, dx, n, v, c, b, d, dd, M, rfl, _⟩ := h
    rfl
  · obtain ⟨p, dx, n, v, c, b, d, dd, M, rfl, B, ok, hM, hd, hsh, hD, q⟩ := h
    obtain ⟨a, dt, st, xs, rfl, h1, h2, h3, hS⟩ := B.now
    obtain ⟨av, vs, rfl, hv, pv'⟩ := B.past
    have nd := sc_Board_do.nd
    have okn := ok.now
    have pc := ok.pc
    have ld := h3.len
    have dM := okn.dM
    obtain ⟨sa, rfl⟩ : ∃ sa, st = .ref sa := by
      obtain ⟨sa, _, _, _, _, _, e, _⟩ := hS
      exact ⟨sa, e⟩
    refine ⟨_, pss_cons (ps_if (pt_cmpR op_eq (pe_callB call_len_seq (by rfl) (T.mfre "len") PySem.boot_len (pa_cons (pe_ix ix_tup (pe_fld (pv 0) rfl) pe_int (fun _ _ => rfl)) pa_nil)) (pe_nm (T.mnum "MOST_DEEDS" 1000)) (nomark _)) pss_never pss_nil)
      (pss_cons (ps_asg (pe_fn (ok_behind_deed T) hr (T.mglo "behind_deed") (pa_cons (pe_ix ix_tup (pe_fld (pv 0) rfl) pe_int (fun _ _ => rfl)) (pa_cons (pv 1) pa_nil)) passL) (pg_tup (n := 2) rfl (pgs_cons (pg_name (i := 2) nd rfl (.inl rfl)) (pgs_cons (pg_name (i := 3) nd rfl (.inl rfl)) pgs_nil))))
      (pss_cons (ps_fld (pv 0) (pe_tup (StX.pa_star (pe_fld (pv 0) rfl) (pa_cons (pe_fld (pv 0) rfl) pa_nil))) rfl)
      (pss_cons (ps_fld (pv 0) (pe_tup (pa_cons (pe_tup (StX.pa_star (pe_ix ix_tup (pe_fld (pv 0) rfl) pe_int (fun _ _ => rfl)) (pa_cons (pv 1) pa_nil))) (pa_cons (pv 2) pa_nil))) rfl)
      (pss_cons (ps_fld (pv 0) (pe_tup pa_nil) rfl) (pss_one (ps_ret (pv 3))))))), ?_⟩
    have aB := T.aB
    refine ⟨_, rfl, p, _, _, _, _, rfl, B.ob, T.clB, T.aB _ aNow, rfl, a, _, 0, _, rfl, rfl, SqT.of h1, rfl, dt, xs, rfl, .inr (SqT.of h2), ?_⟩
    refine ⟨rfl, _, rfl, ?_⟩
    refine ifN (fun z => ?_) ?_
    · have e : ((xs.length : Nat) : Int) = 1000 := V.int.inj z
      omega
    refine ⟨_, rfl, p, _, _, _, _, rfl, B.ob, T.clB, T.aB _ aNow, rfl, a, _, 1, _, rfl, rfl, SqT.of h1, rfl, _, rfl, sa, d, b.now.sd, M, rfl, hS, okn.sd, by omega, hD, fun H1 q1 st' f s' s1 e1 S1 o1 => ?_⟩
    refine ⟨q1, _, rfl, SqT.of e1, rfl, _, _, rfl, _, _, rfl, rfl, ?_⟩
    have B1 := B.sm s1
    refine ⟨_, rfl, p, _, _, _, _, rfl, B1.ob, T.clB, T.aB _ aPast, rfl, av, vs, rfl, .inl (SqT.of (s1 _ _ hv)), _, rfl, p, _, _, _, _, rfl, B1.ob, T.clB, T.aB _ aNow, rfl, ?_⟩
    have lv := pv'.length
    refine ⟨by rw [List.length_append]; exact line_le (by show vs.length + 1 ≤ 1000; omega), fun p2 hp2 => ?_⟩
    have s2 := sN (o := .tup (vs ++ [.ref a])) hp2
    have B2 := B1.sm s2
    refine ⟨_, rfl, p, _, _, _, rfl, B2.ob, T.clB, T.aB _ aPast, bF_len _ _ _, ?_⟩
    have t2 := Same.tk (s1.trans s2)
    have B3 := bdPast (y := .ref p2) (l := b.past ++ [b.now]) B2 ⟨p2, vs ++ [.ref a], rfl, upd_same, prd_app (pv'.mono fun _ _ z => NwAt.tk t2 z) (.cons B2.now .nil)⟩
    obtain ⟨k3, t3⟩ := bdSt (n' := .ref a) (v' := .ref p2) (c' := c) B2
    have kk3 := t2.trans t3
    refine ⟨_, rfl, p, _, _, _, _, rfl, B3.ob, T.clB, T.aB _ aNow, rfl, a, _, 0, _, rfl, rfl, SqT.of (kk3 _ _ h1), rfl, dt, xs, rfl, .inl (SqT.of (kk3 _ _ h2)), _, rfl, ?_⟩
    refine ⟨by rw [List.length_append]; exact line_le (by show xs.length + 1 ≤ 1000; omega), fun dt' hdt => ?_⟩
    have s4 := sN (o := .tup (xs ++ [.ref d])) hdt
    refine ⟨_, rfl, by show 2 ≤ sizeLine; decide, fun a' ha' => ?_⟩
    have s5 := sN (o := .tup [.ref dt', .ref st']) ha'
    have B5 := (B3.sm s4).sm s5
    refine ⟨_, rfl, p, _, _, _, rfl, B5.ob, T.clB, T.aB _ aNow, bF_len _ _ _, ?_⟩
    have t5 := t3.trans (Same.tk (s4.trans s5))
    have B6 := bdNow (y := .ref a') (l := ⟨b.now.deeds ++ [dd], s'⟩) B5 ⟨a', dt', .ref st', xs ++ [.ref d], rfl, upd_same, s5 _ _ upd_same, DTs.app (DTs.tk (t2.trans t5) h3) (.cons (DT.tk (t2.trans t5) hd) .nil), SdAt.tk ((Same.tk s2).trans t5) S1⟩
    obtain ⟨k6, t6⟩ := bdSt (n' := .ref a') (v' := .ref p2) (c' := c) B5
    refine ⟨by show 0 ≤ sizeLine; decide, fun e he => ?_⟩
    have s7 := sN (o := .tup []) he
    have B7 := B6.sm s7
    refine ⟨_, rfl, p, _, _, _, rfl, B7.ob, T.clB, T.aB _ aComing, bF_len _ _ _, ?_⟩
    have B8 := bdComing (y := .ref e) (l := []) B7 ⟨e, [], rfl, upd_same, .nil⟩
    obtain ⟨k8, t8⟩ := bdSt (n' := .ref a') (v' := .ref p2) (c' := .ref e) B7
    refine ⟨_, rfl, q _ _ _ _ _ _ ((((((Kp.of_same (s1.trans s2)).trans k3).trans (Kp.of_same (s4.trans s5))).trans k6).trans (Kp.of_same s7)).trans k8) B8 ⟨⟨o1, ?_, fun x hx => ?_⟩, fun x hx => ?_, fun x hx => (by cases hx), ?_⟩ ⟨by simp, rfl, by simp⟩⟩
    · show (b.now.deeds ++ [dd]).length ≤ M + 1
      simp; omega
    · rcases List.mem_append.mp hx with hx | hx
      · exact okn.dS x hx
      · rw [List.mem_singleton.mp hx]
        exact hsh
    · rcases List.mem_append.mp hx with hx | hx
      · exact (ok.past x hx).mono (Nat.le_succ _)
      · rw [List.mem_singleton.mp hx]
        exact okn.mono (Nat.le_succ _)
    · show (b.past ++ [b.now]).length + 0 ≤ M + 1
      simp; omega
/-! ### need_slot, add -/
/-- an error C(x) with the field f goes out -/
def Out (C : Addr) (f : Str) (x : V) (H : Hp) (E : XK) : Prop := ∀ d, H d = none → E (.ref C) (some d) (upd H d (.xd [(f, x)]))
def spNeedSlot (C N : Addr) : Sp := fun vs H Q E => ∃ p dx n v c x, vs = [.ref p, .int x] ∧ H p = some (.ins C dx (bF n v c)) ∧ (0 ≤ x ∧ x ≤ 1 → Q .non H) ∧ (¬ (0 ≤ x ∧ x ≤ 1) → Out N "given" (.int x) H E)
theorem ok_need_slot (T : Tz K mg) : Ok P w K mg base 3 (He.fAd K d_Board_need_slot.at_) ["self", "slot"] [] (spNeedSlot (CB K) (CN K)) := by
  refine T.tx.ok at_Board_need_slot sc_Board_need_slot rfl rfl (fun _ _ _ _ _ _ us hl => match us, hl with | [_, _], _ => rfl) (fun vs H Q E h => ?_) (fun cdv A outer s H vs Q E hr h => ?_)
  · obtain ⟨p, dx, n, v, c, x, rfl, _⟩ := h
    rfl
  · obtain ⟨p, dx, n, v, c, x, rfl, ob, q1, q2⟩ := h
    refine ⟨_, pss_one (ps_if (pt_not (pt_val (pe_fn (ok_is_whole T.tx) hr (T.tx.mglo "is_whole") (pa_cons (pv 1) (pa_cons pe_int (pa_cons (pe_op op_sub (pe_fld (pv 0) rfl) pe_int) pa_nil))) passL)))
      (pss_one (ps_raise rfl (takes_of rfl rfl rfl rfl) (pmk_xm F.excBase_ValueError T.bn.ex T.bn.iC T.bn.tI (ok_BadNumber T) hr rfl (T.tx.mglo "BadNumber") (pa_cons (pv 1) pa_nil)))) pss_nil), ?_⟩
    refine ⟨_, rfl, _, rfl, p, _, _, _, _, rfl, ob, T.tx.clB, T.tx.aB _ aMany, rfl, _, _, rfl, rfl, x, 0, 1, rfl, _, rfl, ?_⟩
    by_cases h : 0 ≤ x ∧ x ≤ 1
    · rw [decide_eq_true h]
      exact iteF (q1 h)
    · rw [decide_eq_false h]
      exact iteT ⟨_, rfl, _, rfl, fun d hd => q2 h d hd⟩
def spAdd (C N : Addr) : Sp := fun vs H Q E => ∃ p dx n v c b x y M, vs = [.ref p, .int x, .int y] ∧ BdAt C H p dx n v c b ∧ BdOk M b ∧ M ≤ 600 ∧ 1 ≤ y ∧
  (0 ≤ x ∧ x ≤ 1 → ∀ (H' : Hp) (n' v' c' : V) (b' : Bd), Kp [p] H H' → BdAt C H' p dx n' v' c' b' → BdOk (M + 1) b' → Did b b' → Q .non H') ∧ (¬ (0 ≤ x ∧ x ≤ 1) → Out N "given" (.int x) H E)
theorem ok_add (T : Tz K mg) : Ok P w K mg base 5 (He.fAd K d_Board_add.at_) ["self", "slot", "amount"] [] (spAdd (CB K) (CN K)) := by
  refine T.tx.ok at_Board_add sc_Board_add rfl rfl (fun _ _ _ _ _ _ us hl => match us, hl with | [_, _, _], _ => rfl) (fun vs H Q E h => ?_) (fun cdv A outer s H vs Q E hr h => ?_)
  · obtain ⟨p, dx, n, v, c, b, x, y, M, rfl, _⟩ := h
    rfl
  · obtain ⟨p, dx, n, v, c, b, x, y, M, rfl, B, ok, hM, hy, q1, q2⟩ := h
    have hr1 : Room 1 _ := hr.mono (by decide)
    have hr3 : Room 3 _ := hr.mono (by decide)
    refine ⟨_, pss_cons (ps_expr (pe_mt (ok_need_slot T) hr3 T.tx.clB (T.tx.mB "need_slot" (by decide +kernel)) (pv 0) (pa_cons (pv 1) pa_nil) passX))
      (pss_cons (ps_if (PW.pt (pw_or (pt_not (pt_val (pe_fn (ok_is_integer T.tx) hr1 (T.tx.mglo "is_integer") (pa_cons (pv 2) pa_nil) passL))) (pw_or1 (pt_cmpR op_eq (pv 2) pe_int (nomark _))))) pss_never pss_nil)
      (pss_one (ps_expr (pe_mt (ok_do T.tx) hr T.tx.clB (T.tx.mB "do" (by decide +kernel)) (pv 0) (pa_cons (pe_tup (pa_cons (pe_tx (T.tx.mtxt "ADD" "add")) (pa_cons (pv 1) (pa_cons (pv 2) pa_nil)))) pa_nil) passL)))), ?_⟩
    refine ⟨_, rfl, p, _, _, rfl, B.ob, rfl, _, rfl, p, dx, n, v, c, x, rfl, B.ob, fun hx => ?_, q2⟩
    refine ⟨_, rfl, y, rfl, true, rfl, ?_⟩
    refine iteF ⟨_, rfl, rfl, _, rfl, ifN (fun z => ?_) ?_⟩
    · have e : y = 0 := V.int.inj z
      omega
    obtain ⟨j, rfl⟩ := Int.eq_ofNat_of_zero_le hx.1
    refine ⟨_, rfl, p, _, _, rfl, B.ob, rfl, _, rfl, _, rfl, by show 3 ≤ sizeLine; decide, fun d hd => ?_⟩
    have s1 := sN (o := .tup [.str "add", .int (j : Int), .int y]) hd
    refine ⟨p, dx, n, v, c, b, d, .tuple [.str "add", .int (j : Int), .int y], M, rfl, B.sm s1, ok, hM, .tup upd_same (.cons (.str _) (.cons (.int _) (.cons (.int _) .nil))), (Sh.tuple (k := 0) (shC Sh.str (shC (Sh.int _) (sh1 (Sh.int _))))).mono (by decide), .inl ⟨j, y, upd_same, by omega⟩, fun H' n' v' c' b' f k B' ok' did => ?_⟩
    exact q1 hx _ _ _ _ _ ((Kp.of_same s1).trans k) B' ok' did
end
end K21

/-! the board's methods, second part -/
namespace K21
open PySem PySem.Spec PyProof.Rows L2
def gD : Bool → PyData
  | true => .int 1
  | false => .none
theorem gDT {H : Hp} : ∀ g, DT H (gV g) (gD g)
  | true => .int 1
  | false => .non
theorem gSh {k : Nat} : ∀ g, Sh k (gD g)
  | true => Sh.int 1
  | false => Sh.non
theorem halfSh {k : Nat} {z : Str} (h : HalfW z) : Sh k (.str z) := by
  rcases h with rfl | rfl <;> exact Sh.str
theorem inV_int (k : Int) : ∀ l : List Int, k ∈ l → inV (.int k) (l.map V.int) = true
  | [], h => by cases h
  | a :: r, h => by
    show (eqV (.int a) (.int k) || (r.map V.int).any fun y => eqV y (.int k)) = true
    rcases List.mem_cons.mp h with e | h
    · subst e
      have z : eqV (.int k) (.int k) = true := by simp [eqV]
      rw [z]
      rfl
    · have ih := inV_int k r h
      have ih' : ((r.map V.int).any fun y => eqV y (.int k)) = true := ih
      rw [ih', Bool.or_true]
theorem flat_ints : ∀ l : List Int, (l.map V.int).all flatV = true
  | [] => rfl
  | _ :: r => flat_ints r
section
variable {P : Program} {w : World} {K : PySem.W.Frag} {mg : Str → Option Value} {base : Heap}
/-- what a deed leaves -/
abbrev Done (C p dx : Addr) (M : Nat) (b : Bd) (H : Hp) (Q : VK) : Prop := ∀ (H' : Hp) (n' v' c' : V) (b' : Bd) (f : V), Kp [p] H H' → BdAt C H' p dx n' v' c' b' → BdOk (M + 1) b' → Did b b' → Q f H'
def spBegin (C : Addr) : Sp := fun vs H Q _ => ∃ p dx n v c b g x z M, vs = [.ref p, .int 0, gV g, .int x, .str z] ∧ BdAt C H p dx n v c b ∧ BdOk M b ∧ M ≤ 600 ∧ 1 ≤ x ∧ HalfW z ∧ Done C p dx M b H Q
theorem ok_begin (T : Tz K mg) : Ok P w K mg base 5 (He.fAd K d_Board_begin.at_) ["self", "source", "goal", "amount", "first"] [] (spBegin (CB K)) := by
  refine T.tx.ok at_Board_begin sc_Board_begin rfl rfl (fun _ _ _ _ _ _ us hl => match us, hl with | [_, _, _, _, _], _ => rfl) (fun vs H Q E h => ?_) (fun cdv A outer s H vs Q E hr h => ?_)
  · obtain ⟨p, dx, n, v, c, b, g, x, z, M, rfl, _⟩ := h
    rfl
  · obtain ⟨p, dx, n, v, c, b, g, x, z, M, rfl, B, ok, hM, hx, hz, q⟩ := h
    have hr1 : Room 1 _ := hr.mono (by decide)
    have hr3 : Room 3 _ := hr.mono (by decide)
    refine ⟨_, pss_cons (ps_expr (pe_mt (ok_need_slot T) hr3 T.tx.clB (T.tx.mB "need_slot" (by decide +kernel)) (pv 0) (pa_cons (pv 1) pa_nil) passX))
      (pss_cons (ps_if (pt_cmp (pc_notN (pv 2))) (pss_cons (ps_expr (pe_mt (ok_need_slot T) hr3 T.tx.clB (T.tx.mB "need_slot" (by decide +kernel)) (pv 0) (pa_cons (pv 2) pa_nil) passX))
        (pss_one (ps_if (pt_cmpR op_eq (pv 2) (pv 1) (nomark _)) pss_never pss_nil))) pss_nil)
      (pss_cons (ps_if (PW.pt (pw_or (pt_not (pt_val (pe_fn (ok_is_integer T.tx) hr1 (T.tx.mglo "is_integer") (pa_cons (pv 3) pa_nil) passL))) (pw_or1 (pt_cmpR op_lt (pv 3) pe_int (nomark _))))) pss_never pss_nil)
      (pss_cons (ps_if (PW.pt (pw_or (pt_not (pt_val (pe_callB call_isi (by rfl) (T.tx.mfre "isinstance") PyProof.Rows.boot_isinstance (pa_cons (pv 4) (pa_cons (pe_bltn (v := .ty "str") (by rfl) (T.tx.mfre "str") PyProof.Rows.boot_str rfl) pa_nil)))))
        (pw_or1 (pt_cmpR op_notIn_seq (pv 4) (pe_tup (pa_cons (pe_tx (T.tx.mtxt "GIVE" "give")) (pa_cons (pe_tx (T.tx.mtxt "TAKE" "take")) pa_nil))) (by rfl))))) pss_never pss_nil)
      (pss_one (ps_ret (pe_mt (ok_do T.tx) hr T.tx.clB (T.tx.mB "do" (by decide +kernel)) (pv 0) (pa_cons (pe_tup (pa_cons (pe_tx (T.tx.mtxt "BEGIN" "begin")) (pa_cons (pe_tup (pa_cons (pv 1) (pa_cons (pv 2) (pa_cons (pv 3) (pa_cons (pv 4) pa_nil))))) pa_nil))) pa_nil) passL)))))), ?_⟩
    refine ⟨_, rfl, p, _, _, rfl, B.ob, rfl, _, rfl, p, dx, n, v, c, 0, rfl, B.ob, fun _ => ?_, fun h => absurd (by omega) h⟩
    refine ⟨_, rfl, _, rfl, ?_⟩
    cases g with
    | false =>
      refine iteF ?_
      refine ⟨_, rfl, x, rfl, true, rfl, iteF ⟨_, rfl, _, _, rfl, rfl, _, rfl, ?_⟩⟩
      rw [decide_eq_false (by omega)]
      refine iteF ⟨_, rfl, .str z, .ty "str", .type "str", .type "str", true, rfl, .ty _, .base (.str _), kit_ty (by decide +kernel), true, rfl, iteF ⟨_, rfl, by show 2 ≤ sizeLine; decide, fun t ht => ?_⟩⟩
      have s1 := sN (o := .tup [.str "give", .str "take"]) ht
      refine ⟨t, _, rfl, .inr (SqT.of upd_same), rfl, rfl, _, rfl, ?_⟩
      have ei : inV (.str z) [.str "give", .str "take"] = true := by rcases hz with rfl | rfl <;> decide +kernel
      show if (!inV (.str z) [.str "give", .str "take"]) = true then _ else _
      rw [ei]
      refine iteF ?_
      refine ⟨_, rfl, p, _, _, rfl, s1 _ _ B.ob, rfl, _, rfl, _, rfl, _, rfl, _, rfl, by show 4 ≤ sizeLine; decide, fun m hm => ?_⟩
      have s2 := sN (o := .tup [.int 0, gV false, .int x, .str z]) hm
      refine ⟨by show 2 ≤ sizeLine; decide, fun d hd => ?_⟩
      have s3 := sN (o := .tup [.str "begin", .ref m]) hd
      have s13 := (s1.trans s2).trans s3
      refine ⟨p, dx, n, v, c, b, d, .tuple [.str "begin", .tuple [.int 0, gD false, .int x, .str z]], M, rfl, B.sm s13, ok, hM, .tup upd_same (.cons (.str _) (.cons (.tup (s3 _ _ upd_same) (.cons (.int _) (.cons (gDT _) (.cons (.int _) (.cons (.str _) .nil))))) .nil)),
        (Sh.tuple (k := 1) (shC Sh.str (sh1 (Sh.tuple (k := 0) (shC (Sh.int _) (shC (gSh _) (shC (Sh.int _) (sh1 (halfSh hz))))))))).mono (by decide), .inr (.inl ⟨m, false, x, z, upd_same, s3 _ _ upd_same, hz⟩), fun H' n' v' c' b' f k B' ok' did => ?_⟩
      exact q _ _ _ _ _ _ ((Kp.of_same s13).trans k) B' ok' did
    | true =>
      refine iteT ?_
      refine ⟨_, rfl, p, _, _, rfl, B.ob, rfl, _, rfl, p, dx, n, v, c, 1, rfl, B.ob, fun _ => ?_, fun h => absurd (by omega) h⟩
      refine ⟨_, rfl, _, rfl, rfl, _, rfl, ifN (fun z => absurd (V.int.inj z) (by decide)) ?_⟩
      refine ⟨_, rfl, x, rfl, true, rfl, iteF ⟨_, rfl, _, _, rfl, rfl, _, rfl, ?_⟩⟩
      rw [decide_eq_false (by omega)]
      refine iteF ⟨_, rfl, .str z, .ty "str", .type "str", .type "str", true, rfl, .ty _, .base (.str _), kit_ty (by decide +kernel), true, rfl, iteF ⟨_, rfl, by show 2 ≤ sizeLine; decide, fun t ht => ?_⟩⟩
      have s1 := sN (o := .tup [.str "give", .str "take"]) ht
      refine ⟨t, _, rfl, .inr (SqT.of upd_same), rfl, rfl, _, rfl, ?_⟩
      have ei : inV (.str z) [.str "give", .str "take"] = true := by rcases hz with rfl | rfl <;> decide +kernel
      show if (!inV (.str z) [.str "give", .str "take"]) = true then _ else _
      rw [ei]
      refine iteF ?_
      refine ⟨_, rfl, p, _, _, rfl, s1 _ _ B.ob, rfl, _, rfl, _, rfl, _, rfl, _, rfl, by show 4 ≤ sizeLine; decide, fun m hm => ?_⟩
      have s2 := sN (o := .tup [.int 0, gV true, .int x, .str z]) hm
      refine ⟨by show 2 ≤ sizeLine; decide, fun d hd => ?_⟩
      have s3 := sN (o := .tup [.str "begin", .ref m]) hd
      have s13 := (s1.trans s2).trans s3
      refine ⟨p, dx, n, v, c, b, d, .tuple [.str "begin", .tuple [.int 0, gD true, .int x, .str z]], M, rfl, B.sm s13, ok, hM, .tup upd_same (.cons (.str _) (.cons (.tup (s3 _ _ upd_same) (.cons (.int _) (.cons (gDT _) (.cons (.int _) (.cons (.str _) .nil))))) .nil)),
        (Sh.tuple (k := 1) (shC Sh.str (sh1 (Sh.tuple (k := 0) (shC (Sh.int _) (shC (gSh _) (shC (Sh.int _) (sh1 (halfSh hz))))))))).mono (by decide), .inr (.inl ⟨m, true, x, z, upd_same, s3 _ _ upd_same, hz⟩), fun H' n' v' c' b' f k B' ok' did => ?_⟩
      exact q _ _ _ _ _ _ ((Kp.of_same s13).trans k) B' ok' did
def spFinish (C : Addr) : Sp := fun vs H Q _ => ∃ p dx n v c b k M, vs = [.ref p, .int k] ∧ BdAt C H p dx n v c b ∧ BdOk M b ∧ M ≤ 600 ∧ k ∈ uwL 0 b.now.sd.moves ∧ Done C p dx M b H Q
theorem ok_finish (T : Tz K mg) : Ok P w K mg base 5 (He.fAd K d_Board_finish.at_) ["self", "number"] [] (spFinish (CB K)) := by
  refine T.tx.ok at_Board_finish sc_Board_finish rfl rfl (fun _ _ _ _ _ _ us hl => match us, hl with | [_, _], _ => rfl) (fun vs H Q E h => ?_) (fun cdv A outer s H vs Q E hr h => ?_)
  · obtain ⟨p, dx, n, v, c, b, k, M, rfl, _⟩ := h
    rfl
  · obtain ⟨p, dx, n, v, c, b, k, M, rfl, B, ok, hM, hk, q⟩ := h
    have hr1 : Room 1 _ := hr.mono (by decide)
    have hr2 : Room 2 _ := hr.mono (by decide)
    have mM := ok.now.sd.mM
    refine ⟨_, pss_cons (ps_if (PW.pt (pw_or (pt_not (pt_val (pe_fn (ok_is_integer T.tx) hr1 (T.tx.mglo "is_integer") (pa_cons (pv 1) pa_nil) passL)))
        (pw_or1 (pt_cmpR op_notIn_seq (pv 1) (pe_pr (ok_under_way T.tx) hr2 T.tx.clB (T.tx.pr _ _ "under_way" at_Board_under_way rfl).1 (pv 0)) (by rfl))))) pss_never pss_nil)
      (pss_one (ps_expr (pe_mt (ok_do T.tx) hr T.tx.clB (T.tx.mB "do" (by decide +kernel)) (pv 0) (pa_cons (pe_tup (pa_cons (pe_tx (T.tx.mtxt "FINISH" "finish")) (pa_cons (pv 1) pa_nil))) pa_nil) passL))), ?_⟩
    refine ⟨_, rfl, k, rfl, true, rfl, iteF ⟨_, rfl, _, rfl, p, _, _, rfl, B.ob, p, dx, n, v, c, b, rfl, B, by omega, fun H1 t s1 ht => ?_⟩⟩
    refine ⟨t, _, rfl, .inr (SqT.of ht), rfl, flat_ints _, _, rfl, ?_⟩
    show if (!inV (.int k) ((uwL 0 b.now.sd.moves).map V.int)) = true then _ else _
    rw [inV_int k _ hk]
    obtain ⟨j, rfl, _, hj⟩ := uwL_mem 0 _ _ hk
    refine iteF ⟨_, rfl, p, _, _, rfl, s1 _ _ B.ob, rfl, _, rfl, by show 2 ≤ sizeLine; decide, fun d hd => ?_⟩
    have s2 := sN (o := .tup [.str "finish", .int (j : Int)]) hd
    refine ⟨p, dx, n, v, c, b, d, .tuple [.str "finish", .int (j : Int)], M, rfl, B.sm (s1.trans s2), ok, hM, .tup upd_same (.cons (.str _) (.cons (.int _) .nil)), (Sh.tuple (k := 0) (shC Sh.str (sh1 (Sh.int _)))).mono (by decide),
      .inr (.inr (.inl ⟨j, upd_same, by omega⟩)), fun H' n' v' c' b' f k B' ok' did => ?_⟩
    exact q _ _ _ _ _ _ ((Kp.of_same (s1.trans s2)).trans k) B' ok' did
def spStart (C : Addr) : Sp := fun vs H Q _ => ∃ p dx n v c b t M, vs = [.ref p, .ref t] ∧ BdAt C H p dx n v c b ∧ BdOk M b ∧ M ≤ 600 ∧ H t = some (.tup [.str "up"]) ∧ Done C p dx M b H Q
theorem ok_start (T : Tz K mg) : Ok P w K mg base 5 (He.fAd K d_Board_start.at_) ["self", "ways"] [] (spStart (CB K)) := by
  refine T.tx.ok at_Board_start sc_Board_start rfl rfl (fun _ _ _ _ _ _ us hl => match us, hl with | [_, _], _ => rfl) (fun vs H Q E h => ?_) (fun cdv A outer s H vs Q E hr h => ?_)
  · obtain ⟨p, dx, n, v, c, b, t, M, rfl, _⟩ := h
    rfl
  · obtain ⟨p, dx, n, v, c, b, t, M, rfl, B, ok, hM, ht, q⟩ := h
    have hr3 : Room 3 _ := hr.mono (by decide)
    refine ⟨_, pss_one (ps_ret (pe_mt (ok_do T.tx) hr T.tx.clB (T.tx.mB "do" (by decide +kernel)) (pv 0) (pa_cons (pe_tup (pa_cons (pe_tx (T.tx.mtxt "START" "start")) (pa_cons (pe_fn (ok_need_ways T.tx) hr3 (T.tx.mglo "need_ways") (pa_cons (pv 1) pa_nil) passL) pa_nil))) pa_nil) passL)), ?_⟩
    refine ⟨_, rfl, p, _, _, rfl, B.ob, rfl, _, rfl, t, rfl, ht, fun H1 s1 => ⟨by show 2 ≤ sizeLine; decide, fun d hd => ?_⟩⟩
    have s2 := sN (o := .tup [.str "start", .ref t]) hd
    refine ⟨p, dx, n, v, c, b, d, .tuple [.str "start", .tuple [.str "up"]], M, rfl, B.sm (s1.trans s2), ok, hM, .tup upd_same (.cons (.str _) (.cons (.tup ((s1.trans s2) _ _ ht) (.cons (.str _) .nil)) .nil)),
      (Sh.tuple (k := 1) (shC Sh.str (sh1 (Sh.tuple (k := 0) (sh1 Sh.str))))).mono (by decide), .inr (.inr (.inr ⟨_, upd_same⟩)), fun H' n' v' c' b' f k B' ok' did => ?_⟩
    exact q _ _ _ _ _ _ ((Kp.of_same (s1.trans s2)).trans k) B' ok' did
def spNeedReader (C : Addr) : Sp := fun vs H Q _ => ∃ p dx n v c b k, vs = [.ref p, .int (k : Nat)] ∧ BdAt C H p dx n v c b ∧ k < b.now.sd.readers ∧ ∀ l, LkAt H l → Q l H
theorem ok_need_reader (T : Tz K mg) : Ok P w K mg base 3 (He.fAd K d_Board_need_reader.at_) ["self", "reader"] [] (spNeedReader (CB K)) := by
  refine T.tx.ok at_Board_need_reader sc_Board_need_reader rfl rfl (fun _ _ _ _ _ _ us hl => match us, hl with | [_, _], _ => rfl) (fun vs H Q E h => ?_) (fun cdv A outer s H vs Q E hr h => ?_)
  · obtain ⟨p, dx, n, v, c, b, k, rfl, _⟩ := h
    rfl
  · obtain ⟨p, dx, n, v, c, b, k, rfl, B, hk, q⟩ := h
    obtain ⟨a, dt, st, xs, rfl, h1, h2, h3, ⟨sa, ct, mt, lt, ms, ls, rfl, g1, g2, g3, g4, g5, g6, g7⟩⟩ := B.now
    refine ⟨_, pss_cons (ps_if (pt_not (pt_val (pe_fn (ok_is_whole T.tx) hr (T.tx.mglo "is_whole") (pa_cons (pv 1) (pa_cons pe_int (pa_cons (pe_op op_sub (pe_callB call_len_seq (by rfl) (T.tx.mfre "len") PySem.boot_len (pa_cons (pe_ix ix_tup (pe_ix ix_tup (pe_fld (pv 0) rfl) pe_int (fun _ _ => rfl)) pe_int (fun _ _ => rfl)) pa_nil)) pe_int) pa_nil))) passL))) pss_never pss_nil)
      (pss_one (ps_ret (pe_ix ix_tup (pe_ix ix_tup (pe_ix ix_tup (pe_fld (pv 0) rfl) pe_int (fun _ _ => rfl)) pe_int (fun _ _ => rfl)) (pv 1) (fun _ _ => rfl)))), ?_⟩
    refine ⟨_, rfl, _, rfl, p, _, _, _, _, rfl, B.ob, T.tx.clB, T.tx.aB _ aNow, rfl, a, _, 1, _, rfl, rfl, SqT.of h1, rfl, sa, _, 3, _, rfl, rfl, SqT.of g1, rfl, lt, ls, rfl, .inr (SqT.of g5), _, _, rfl, rfl, (k : Int), 0, (ls.length : Int) - 1, rfl, _, rfl, ?_⟩
    rw [decide_eq_true (by omega)]
    have hkl : k < ls.length := by omega
    refine iteF ⟨_, rfl, p, _, _, _, _, rfl, B.ob, T.tx.clB, T.tx.aB _ aNow, rfl, a, _, 1, _, rfl, rfl, SqT.of h1, rfl, sa, _, 3, _, rfl, rfl, SqT.of g1, rfl, _, rfl, lt, ls, _, ls[k], rfl, rfl, SqT.of g5, atI_nat (List.getElem?_eq_getElem hkl), q _ (g7 _ (List.getElem_mem hkl))⟩
def spSums (C : Addr) : Sp := fun vs H Q _ => ∃ p dx n v c b k, vs = [.ref p, .int (k : Nat)] ∧ BdAt C H p dx n v c b ∧ k < b.now.sd.readers ∧ ∀ e, H e = some (.tup []) → Q (.ref e) H
theorem ok_sums (T : Tz K mg) : Ok P w K mg base 4 (He.fAd K d_Board_sums.at_) ["self", "reader"] [] (spSums (CB K)) := by
  refine T.tx.ok at_Board_sums sc_Board_sums rfl rfl (fun _ _ _ _ _ _ us hl => match us, hl with | [_, _], _ => rfl) (fun vs H Q E h => ?_) (fun cdv A outer s H vs Q E hr h => ?_)
  · obtain ⟨p, dx, n, v, c, b, k, rfl, _⟩ := h
    rfl
  · obtain ⟨p, dx, n, v, c, b, k, rfl, B, hk, q⟩ := h
    refine ⟨_, pss_one (ps_ret (pe_ix ix_tup (pe_mt (ok_need_reader T) hr T.tx.clB (T.tx.mB "need_reader" (by decide +kernel)) (pv 0) (pa_cons (pv 1) pa_nil) passL) pe_int (fun _ _ => rfl))), ?_⟩
    refine ⟨_, rfl, p, _, _, rfl, B.ob, rfl, _, rfl, p, dx, n, v, c, b, k, rfl, B, hk, fun l ⟨a, w, e, el, h1, h2⟩ => ?_⟩
    subst el
    exact ⟨a, _, 2, _, rfl, rfl, SqT.of h1, rfl, q e h2⟩
end
end K21

/-! the board's making, copies, trials, taking back and doing again, equality -/
namespace K21
open PySem PySem.Spec PyProof.Rows L2
/-- what all boards begin with -/
def b0 : Bd := ⟨⟨[], ⟨[0, 0], 0, [], 0⟩⟩, [], []⟩
theorem b0_ok : BdOk 0 b0 := ⟨⟨⟨by decide, by decide, by decide, by decide⟩, by decide, fun _ h => (by cases h)⟩, fun _ h => (by cases h), fun _ h => (by cases h), by decide⟩
theorem offI {H : Hp} {p C dx : Addr} {fs : List (Str × V)} (h : H p = some (.ins C dx fs)) : Off H [p] := Off.cons h rfl Off.nil
def tF (q n v c : V) : List (Str × V) := [("board_so", q), ("now_ahead", n), ("past_ahead", v), ("coming_ahead", c)]
theorem tB_ : ("board_so" : Str) ∈ attT := by decide +kernel
theorem tN_ : ("now_ahead" : Str) ∈ attT := by decide +kernel
theorem tP_ : ("past_ahead" : Str) ∈ attT := by decide +kernel
theorem tC_ : ("coming_ahead" : Str) ∈ attT := by decide +kernel
theorem tF_len (q n v c : V) : (tF q n v c).length < 1000 := by
  show 4 < 1000
  decide
/-- a store, the heap by its traits -/
theorem st1 {R : Hp → Prop} {H : Hp} {p : Addr} {o : HO} (h : ∀ H', Kp [p] H H' → H' p = some o → R H') : R (upd H p o) := h _ (Kp.upd (by simp)) upd_same
/-- a new object -/
theorem nw1 {R : Hp → Prop} {H : Hp} {p : Addr} {o : HO} (hp : H p = none) (h : ∀ H', Same H H' → H' p = some o → R H') : R (upd H p o) := h _ (sN hp) upd_same
section
variable {P : Program} {w : World} {K : PySem.W.Frag} {mg : Str → Option Value} {base : Heap}
/-! ### Board(2) -/
def spInit (C : Addr) : Sp := fun vs H Q _ => ∃ p dx, vs = [.ref p, .int 2] ∧ H p = some (.ins C dx []) ∧ ∀ (H' : Hp) (n v c : V), Kp [p] H H' → BdAt C H' p dx n v c b0 → Q .non H'
theorem ok_Binit (T : Tz K mg) : Ok P w K mg base 3 (He.fAd K d_Board__init.at_) ["self", "many"] [] (spInit (CB K)) := by
  refine T.tx.ok at_Board__init sc_Board__init rfl rfl (fun _ _ _ _ _ _ us hl => match us, hl with | [_, _], _ => rfl) (fun vs H Q E h => ?_) (fun cdv A outer s H vs Q E hr h => ?_)
  · obtain ⟨p, dx, rfl, _⟩ := h
    rfl
  · obtain ⟨p, dx, rfl, ob, q⟩ := h
    refine ⟨_, pss_cons (ps_if (pt_not (pt_val (pe_fn (ok_is_whole T.tx) hr (T.tx.mglo "is_whole") (pa_cons (pv 1) (pa_cons pe_int (pa_cons (pe_nm (T.tx.mnum "MOST_SLOTS" 40)) pa_nil))) passL))) pss_never pss_nil)
      (pss_cons (ps_fld (pv 0) (pv 1) rfl)
      (pss_cons (ps_fld (pv 0) (pe_tup (pa_cons (pe_tup pa_nil) (pa_cons (pe_tup (pa_cons (pe_op op_repT (pe_tup (pa_cons pe_int pa_nil)) (pv 1)) (pa_cons pe_int (pa_cons (pe_tup pa_nil) (pa_cons (pe_tup pa_nil) pa_nil))))) pa_nil))) rfl)
      (pss_cons (ps_fld (pv 0) (pe_tup pa_nil) rfl) (pss_one (ps_fld (pv 0) (pe_tup pa_nil) rfl))))), ?_⟩
    refine ⟨_, rfl, 2, 1, 40, rfl, _, rfl, iteF ?_⟩
    refine ⟨_, rfl, _, rfl, p, _, _, _, rfl, ob, T.tx.clB, T.tx.aB _ aMany, by decide, ?_⟩
    refine st1 fun H1 k1 o1 => ?_
    refine ⟨by show 0 ≤ sizeLine; decide, fun e1 hN => ?_⟩
    have s2 := sN (H := H1) (a := e1) (o := (.tup [])) hN
    have h2 : upd H1 e1 (.tup []) e1 = some (.tup []) := upd_same
    revert s2 h2
    generalize upd H1 e1 (.tup []) = H2
    intro s2 h2
    refine ⟨by show 1 ≤ sizeLine; decide, fun z hN => ?_⟩
    have s3 := sN (H := H2) (a := z) (o := (.tup [.int 0])) hN
    have h3 : upd H2 z (.tup [.int 0]) z = some (.tup [.int 0]) := upd_same
    revert s3 h3
    generalize upd H2 z (.tup [.int 0]) = H3
    intro s3 h3
    refine ⟨_, rfl, z, 2, [.int 0], rfl, rfl, SqT.of h3, by simp, by decide, by decide, by decide, fun ct hct => ?_⟩
    have s4 := sN (H := H3) (a := ct) (o := (.tup (List.replicate (2 : Int).toNat [V.int 0]).flatten)) hct
    have h4 : upd H3 ct (.tup (List.replicate (2 : Int).toNat [V.int 0]).flatten) ct = some (.tup (List.replicate (2 : Int).toNat [V.int 0]).flatten) := upd_same
    revert s4 h4
    generalize upd H3 ct (.tup (List.replicate (2 : Int).toNat [V.int 0]).flatten) = H4
    intro s4 h4
    refine ⟨by show 0 ≤ sizeLine; decide, fun mt hN => ?_⟩
    have s5 := sN (H := H4) (a := mt) (o := (.tup [])) hN
    have h5 : upd H4 mt (.tup []) mt = some (.tup []) := upd_same
    revert s5 h5
    generalize upd H4 mt (.tup []) = H5
    intro s5 h5
    refine ⟨by show 0 ≤ sizeLine; decide, fun lt hN => ?_⟩
    have s6 := sN (H := H5) (a := lt) (o := (.tup [])) hN
    have h6 : upd H5 lt (.tup []) lt = some (.tup []) := upd_same
    revert s6 h6
    generalize upd H5 lt (.tup []) = H6
    intro s6 h6
    refine ⟨by show 4 ≤ sizeLine; decide, fun sa hN => ?_⟩
    have s7 := sN (H := H6) (a := sa) (o := (.tup [.ref ct, .int 0, .ref mt, .ref lt])) hN
    have h7 : upd H6 sa (.tup [.ref ct, .int 0, .ref mt, .ref lt]) sa = some (.tup [.ref ct, .int 0, .ref mt, .ref lt]) := upd_same
    revert s7 h7
    generalize upd H6 sa (.tup [.ref ct, .int 0, .ref mt, .ref lt]) = H7
    intro s7 h7
    refine ⟨by show 2 ≤ sizeLine; decide, fun a hN => ?_⟩
    have s8 := sN (H := H7) (a := a) (o := (.tup [.ref e1, .ref sa])) hN
    have h8 : upd H7 a (.tup [.ref e1, .ref sa]) a = some (.tup [.ref e1, .ref sa]) := upd_same
    revert s8 h8
    generalize upd H7 a (.tup [.ref e1, .ref sa]) = H8
    intro s8 h8
    have S8 : Same H1 H8 := (((((s2.trans s3).trans s4).trans s5).trans s6).trans s7).trans s8
    refine ⟨_, rfl, p, _, _, _, rfl, S8 _ _ o1, T.tx.clB, T.tx.aB _ aNow, by show 1 < 1000; decide, ?_⟩
    refine st1 fun H9 k9 o9 => ?_
    have t9 := k9.tk (offI (S8 _ _ o1))
    have N8 : NwAt H8 (.ref a) b0.now := ⟨a, e1, .ref sa, [], rfl, h8, (((((((s3.trans s4).trans s5).trans s6).trans s7).trans s8)) _ _ h2), .nil, sdMk (s8 _ _ h7) (((((s5.trans s6).trans s7).trans s8)) _ _ h4) ((((s6.trans s7).trans s8)) _ _ h5) .nil (((s7.trans s8)) _ _ h6) rfl (fun l hl => by cases hl)⟩
    have N9 := NwAt.tk t9 N8
    refine ⟨by show 0 ≤ sizeLine; decide, fun e2 hN => ?_⟩
    have sa' := sN (H := H9) (a := e2) (o := (.tup [])) hN
    have ha : upd H9 e2 (.tup []) e2 = some (.tup []) := upd_same
    revert sa' ha
    generalize upd H9 e2 (.tup []) = Ha
    intro sa' ha
    refine ⟨_, rfl, p, _, _, _, rfl, sa' _ _ o9, T.tx.clB, T.tx.aB _ aPast, by show 2 < 1000; decide, ?_⟩
    refine st1 fun Hb kb ob' => ?_
    have tb := kb.tk (offI (sa' _ _ o9))
    refine ⟨by show 0 ≤ sizeLine; decide, fun e3 hN => ?_⟩
    have sc' := sN (H := Hb) (a := e3) (o := (.tup [])) hN
    have hc : upd Hb e3 (.tup []) e3 = some (.tup []) := upd_same
    revert sc' hc
    generalize upd Hb e3 (.tup []) = Hc
    intro sc' hc
    refine ⟨_, rfl, p, _, _, _, rfl, sc' _ _ ob', T.tx.clB, T.tx.aB _ aComing, by show 3 < 1000; decide, ?_⟩
    refine st1 fun Hd kd od => ?_
    have td := kd.tk (offI (sc' _ _ ob'))
    refine q Hd _ _ _ ((((((k1.trans (Kp.of_same S8)).trans k9).trans (Kp.of_same sa')).trans kb).trans (Kp.of_same sc')).trans kd) ⟨od, NwAt.tk ((((Same.tk sa').trans tb).trans (Same.tk sc')).trans td) N9,
      ⟨e2, [], rfl, ((tb.trans (Same.tk sc')).trans td) _ _ ha, .nil⟩, ⟨e3, [], rfl, td _ _ hc, .nil⟩⟩
theorem Kp.drop {S : List Addr} {H H1 : Hp} {p : Addr} (k : Kp (p :: S) H H1) (h : H p = none) : Kp S H H1 := fun a o e m => k a o e fun z => by
  rcases List.mem_cons.mp z with z | z
  · rw [z, h] at e
    cases e
  · exact m z
/-! ### need_many, undo, redo -/
def spNeedMany (N : Addr) : Sp := fun vs H Q E => ∃ m a xs, vs = [.int m, .ref a] ∧ H a = some (.tup xs) ∧ 1 ≤ m ∧ (m ≤ xs.length → Q .non H) ∧ ((xs.length : Int) < m → Out N "many" (.int m) H E)
theorem ok_need_many (T : Tz K mg) : Ok P w K mg base 3 (He.fAd K d_need_many.at_) ["many", "some"] [] (spNeedMany (CL K)) := by
  refine T.tx.ok at_need_many sc_need_many rfl rfl (fun _ _ _ _ _ _ us hl => match us, hl with | [_, _], _ => rfl) (fun vs H Q E h => ?_) (fun cdv A outer s H vs Q E hr h => ?_)
  · obtain ⟨m, a, xs, rfl, _⟩ := h
    rfl
  · obtain ⟨m, a, xs, rfl, ha, hm, q1, q2⟩ := h
    have hr1 : Room 1 _ := hr.mono (by decide)
    refine ⟨_, pss_cons (ps_if (PW.pt (pw_or (pt_not (pt_val (pe_fn (ok_is_integer T.tx) hr1 (T.tx.mglo "is_integer") (pa_cons (pv 0) pa_nil) passL))) (pw_or1 (pt_cmpR op_lt (pv 0) pe_int (nomark _))))) pss_never pss_nil)
      (pss_one (ps_if (pt_cmpR op_gt (pv 0) (pe_callB call_len_seq (by rfl) (T.tx.mfre "len") PySem.boot_len (pa_cons (pv 1) pa_nil)) (nomark _))
        (pss_one (ps_raise rfl (takes_of rfl rfl rfl rfl) (pmk_xm F.excBase_RuntimeError T.nl.ex T.nl.iC T.nl.tI (ok_NothingLeft T) hr rfl (T.tx.mglo "NothingLeft") (pa_cons (pv 0) pa_nil)))) pss_nil)), ?_⟩
    refine ⟨_, rfl, m, rfl, true, rfl, iteF ⟨_, rfl, _, _, rfl, rfl, _, rfl, ?_⟩⟩
    rw [decide_eq_false (by omega)]
    refine iteF ⟨_, rfl, _, rfl, a, xs, rfl, .inr (SqT.of ha), _, _, rfl, rfl, _, rfl, ?_⟩
    by_cases c : (xs.length : Int) < m
    · rw [decide_eq_true c]
      exact iteT ⟨_, rfl, _, rfl, fun d hd => q2 c d hd⟩
    · rw [decide_eq_false c]
      exact iteF (q1 (by omega))
def spUndo (C N : Addr) : Sp := fun vs H Q E => ∃ p dx n v c b m M, vs = [.ref p, .int (m : Nat)] ∧ BdAt C H p dx n v c b ∧ BdOk M b ∧ M ≤ 700 ∧ 1 ≤ m ∧
  (m ≤ b.past.length → ∀ (H' : Hp) (n' v' c' : V), Kp [p] H H' → BdAt C H' p dx n' v' c' (undoB m b) → BdOk M (undoB m b) → Q .non H') ∧ (b.past.length < m → Out N "many" (.int (m : Nat)) H E)
theorem ok_undo (T : Tz K mg) : Ok P w K mg base 4 (He.fAd K d_Board_undo.at_) ["self", "many"] [.int 1] (spUndo (CB K) (CL K)) ∧ Ok P w K mg base 4 (He.fAd K d_Board_undo.at_) ["self", "many"] [] (spUndo (CB K) (CL K)) := by
  refine T.tx.ok1 (v := .int 1) at_Board_undo sc_Board_undo rfl rfl 1 rfl (fun Tp kV doc pm an cdv ct us its l1 l2 => match us, its, l1, l2 with | [_], [_], _, _ => ⟨_, rfl, rfl⟩) (fun Tp kV doc pm an cdv ct us its l1 l2 => match us, its, l1, l2 with | [_, _], [_], _, _ => ⟨_, rfl, rfl⟩) (fun vs H Q E h => ?_) (fun cdv A outer s H vs Q E hr h => ?_)
  · obtain ⟨p, dx, n, v, c, b, m, M, rfl, _⟩ := h
    rfl
  · obtain ⟨p, dx, n, v, c, b, m, M, rfl, B, ok, hM, hm, q1, q2⟩ := h
    obtain ⟨av, vs, rfl, hv, pv'⟩ := B.past
    obtain ⟨ac, cs, rfl, hc, pc'⟩ := B.coming
    have nd := sc_Board_undo.nd
    have lv := pv'.length
    have lc := pc'.length
    have pc := ok.pc
    refine ⟨_, pss_cons (ps_expr (pe_fn (ok_need_many T) hr (T.tx.mglo "need_many") (pa_cons (pv 1) (pa_cons (pe_fld (pv 0) rfl) pa_nil)) passX))
      (pss_cons (ps_set (i := 2) nd rfl (.inl rfl) (pe_op op_sub (pe_callB call_len_seq (by rfl) (T.tx.mfre "len") PySem.boot_len (pa_cons (pe_fld (pv 0) rfl) pa_nil)) (pv 1)))
      (pss_cons (ps_fld (pv 0) (pe_op op_catA (pe_op op_catA (pe_fld (pv 0) rfl) (pe_tup (pa_cons (pe_fld (pv 0) rfl) pa_nil))) (pe_backT (pe_fld (pv 0) rfl) (pv 2))) rfl)
      (pss_cons (ps_fld (pv 0) (pe_ix ix_tup (pe_fld (pv 0) rfl) (pv 2) (fun _ _ => rfl)) rfl) (pss_one (ps_fld (pv 0) (pe_slice sl_tupA (pe_fld (pv 0) rfl) po_none (po_some (pv 2))) rfl))))), ?_⟩
    refine ⟨_, rfl, _, rfl, p, _, _, _, _, rfl, B.ob, T.tx.clB, T.tx.aB _ aPast, rfl, m, av, vs, rfl, hv, by omega, fun hle => ?_, fun hlt => q2 (by omega)⟩
    have hle' : m ≤ b.past.length := by omega
    refine ⟨_, rfl, p, _, _, _, _, rfl, B.ob, T.tx.clB, T.tx.aB _ aPast, rfl, av, vs, rfl, .inr (SqT.of hv), _, rfl, _, _, rfl, rfl, ?_⟩
    have ej : ((vs.length : Nat) : Int) - (m : Int) = ((b.past.length - m : Nat) : Int) := by omega
    have hj : b.past.length - m < b.past.length := by omega
    revert hj ej
    generalize hjd : b.past.length - m = j
    intro ej hj
    have hjv : j < vs.length := by omega
    refine ⟨_, rfl, p, _, _, _, _, rfl, B.ob, T.tx.clB, T.tx.aB _ aComing, rfl, _, rfl, p, _, _, _, _, rfl, B.ob, T.tx.clB, T.tx.aB _ aNow, rfl, by show 1 ≤ sizeLine; decide, fun t1 hN => ?_⟩
    have s1 := sN (H := H) (a := t1) (o := (.tup [n])) hN
    have h1 : upd H t1 (.tup [n]) t1 = some (.tup [n]) := upd_same
    revert s1 h1
    generalize upd H t1 (.tup [n]) = H1
    intro s1 h1
    refine catB (s1 _ _ hc) h1 (by show cs.length + 1 ≤ 1000; omega) fun t2 H2 s2 h2 => ?_
    have S2 := s1.trans s2
    have B2 := B.sm S2
    refine ⟨_, rfl, p, _, _, _, _, rfl, B2.ob, T.tx.clB, T.tx.aB _ aPast, rfl, _, rfl, av, vs, j, rfl, congrArg V.int ej, SqT.of (S2 _ _ hv), hjv, fun t3 ht3 => ?_⟩
    have s3 := sN (H := H2) (a := t3) (o := (.tup (vs.drop (j + 1)).reverse)) ht3
    have h3 : upd H2 t3 (.tup (vs.drop (j + 1)).reverse) t3 = some (.tup (vs.drop (j + 1)).reverse) := upd_same
    revert s3 h3
    generalize upd H2 t3 (.tup (vs.drop (j + 1)).reverse) = H3
    intro s3 h3
    have S3 := S2.trans s3
    refine catB (s3 _ _ h2) h3 (by simp; omega) fun t4 H4 s4 h4 => ?_
    have S4 := S3.trans s4
    have B4 := B.sm S4
    have t4' := Same.tk S4
    have PC : Paired (NwAt H4) (cs ++ [n] ++ (vs.drop (j + 1)).reverse) (b.coming ++ [b.now] ++ (b.past.drop (j + 1)).reverse) :=
      prd_app (prd_app (pc'.mono fun _ _ z => NwAt.tk t4' z) (.cons (NwAt.tk t4' B.now) .nil)) (prd_rev (prd_dr _ (pv'.mono fun _ _ z => NwAt.tk t4' z)))
    refine ⟨_, rfl, p, _, _, _, rfl, B4.ob, T.tx.clB, T.tx.aB _ aComing, bF_len _ _ _, ?_⟩
    have B5 := bdComing (y := .ref t4) B4 ⟨t4, _, rfl, h4, PC⟩
    obtain ⟨k5, t5⟩ := bdSt (n' := n) (v' := .ref av) (c' := .ref t4) B4
    obtain ⟨x, hx, Nx⟩ := prd_gt pv' (i := j) (y := b.past[j]) (List.getElem?_eq_getElem hj)
    refine ⟨_, rfl, p, _, _, _, _, rfl, B5.ob, T.tx.clB, T.tx.aB _ aPast, rfl, _, rfl, av, vs, _, x, rfl, rfl, SqT.of ((t4'.trans t5) _ _ hv), (congrArg (atI vs) ej).trans (atI_nat hx), ?_⟩
    refine ⟨_, rfl, p, _, _, _, rfl, B5.ob, T.tx.clB, T.tx.aB _ aNow, bF_len _ _ _, ?_⟩
    have B6 := bdNow (y := x) B5 (NwAt.tk (t4'.trans t5) Nx)
    obtain ⟨k6, t6⟩ := bdSt (n' := x) (v' := .ref av) (c' := .ref t4) B5
    have t46 := (t4'.trans t5).trans t6
    refine ⟨_, rfl, p, _, _, _, _, rfl, B6.ob, T.tx.clB, T.tx.aB _ aPast, rfl, _, rfl, _, rfl, slB (t46 _ _ hv) fun t7 H7 s7 h7 => ?_⟩
    rw [ej, cut_to] at h7
    have B7 := B6.sm s7
    refine ⟨_, rfl, p, _, _, _, rfl, B7.ob, T.tx.clB, T.tx.aB _ aPast, bF_len _ _ _, ?_⟩
    have B8 := bdPast (y := .ref t7) (l := b.past.take j) B7 ⟨t7, _, rfl, h7, prd_tk j (pv'.mono fun _ _ z => NwAt.tk (t46.trans (Same.tk s7)) z)⟩
    obtain ⟨k8, t8⟩ := bdSt (n' := x) (v' := .ref t7) (c' := .ref t4) B7
    have eU : undoB m b = ⟨b.past[j], b.past.take j, b.coming ++ [b.now] ++ (b.past.drop (j + 1)).reverse⟩ := by
      unfold undoB
      rw [hjd, List.getD_eq_getElem?_getD, List.getElem?_eq_getElem hj]
      rfl
    rw [← eU] at B8
    exact q1 hle' _ _ _ _ ((((Kp.of_same S4).trans k5).trans k6).trans ((Kp.of_same s7).trans k8)) B8 (undoB_ok ok hm hle')
def spRedo (C N : Addr) : Sp := fun cs H Q E => ∃ p dx n v c b m M, cs = [.ref p, .int (m : Nat)] ∧ BdAt C H p dx n v c b ∧ BdOk M b ∧ M ≤ 700 ∧ 1 ≤ m ∧
  (m ≤ b.coming.length → ∀ (H' : Hp) (n' v' c' : V), Kp [p] H H' → BdAt C H' p dx n' v' c' (redoB m b) → BdOk M (redoB m b) → Q .non H') ∧ (b.coming.length < m → Out N "many" (.int (m : Nat)) H E)
theorem ok_redo (T : Tz K mg) : Ok P w K mg base 4 (He.fAd K d_Board_redo.at_) ["self", "many"] [.int 1] (spRedo (CB K) (CL K)) ∧ Ok P w K mg base 4 (He.fAd K d_Board_redo.at_) ["self", "many"] [] (spRedo (CB K) (CL K)) := by
  refine T.tx.ok1 (v := .int 1) at_Board_redo sc_Board_redo rfl rfl 1 rfl (fun Tp kV doc pm an cdv ct us its l1 l2 => match us, its, l1, l2 with | [_], [_], _, _ => ⟨_, rfl, rfl⟩) (fun Tp kV doc pm an cdv ct us its l1 l2 => match us, its, l1, l2 with | [_, _], [_], _, _ => ⟨_, rfl, rfl⟩) (fun cs H Q E h => ?_) (fun cdv A outer s H cs Q E hr h => ?_)
  · obtain ⟨p, dx, n, v, c, b, m, M, rfl, _⟩ := h
    rfl
  · obtain ⟨p, dx, n, v, c, b, m, M, rfl, B, ok, hM, hm, q1, q2⟩ := h
    obtain ⟨av, vs, rfl, hv, pv'⟩ := B.past
    obtain ⟨ac, cs, rfl, hc, pc'⟩ := B.coming
    have nd := sc_Board_redo.nd
    have lc := pc'.length
    have lv := pv'.length
    have pc := ok.pc
    refine ⟨_, pss_cons (ps_expr (pe_fn (ok_need_many T) hr (T.tx.mglo "need_many") (pa_cons (pv 1) (pa_cons (pe_fld (pv 0) rfl) pa_nil)) passX))
      (pss_cons (ps_set (i := 2) nd rfl (.inl rfl) (pe_op op_sub (pe_callB call_len_seq (by rfl) (T.tx.mfre "len") PySem.boot_len (pa_cons (pe_fld (pv 0) rfl) pa_nil)) (pv 1)))
      (pss_cons (ps_fld (pv 0) (pe_op op_catA (pe_op op_catA (pe_fld (pv 0) rfl) (pe_tup (pa_cons (pe_fld (pv 0) rfl) pa_nil))) (pe_backT (pe_fld (pv 0) rfl) (pv 2))) rfl)
      (pss_cons (ps_fld (pv 0) (pe_ix ix_tup (pe_fld (pv 0) rfl) (pv 2) (fun _ _ => rfl)) rfl) (pss_one (ps_fld (pv 0) (pe_slice sl_tupA (pe_fld (pv 0) rfl) po_none (po_some (pv 2))) rfl))))), ?_⟩
    refine ⟨_, rfl, _, rfl, p, _, _, _, _, rfl, B.ob, T.tx.clB, T.tx.aB _ aComing, rfl, m, ac, cs, rfl, hc, by omega, fun hle => ?_, fun hlt => q2 (by omega)⟩
    have hle' : m ≤ b.coming.length := by omega
    refine ⟨_, rfl, p, _, _, _, _, rfl, B.ob, T.tx.clB, T.tx.aB _ aComing, rfl, ac, cs, rfl, .inr (SqT.of hc), _, rfl, _, _, rfl, rfl, ?_⟩
    have ej : ((cs.length : Nat) : Int) - (m : Int) = ((b.coming.length - m : Nat) : Int) := by omega
    have hj : b.coming.length - m < b.coming.length := by omega
    revert hj ej
    generalize hjd : b.coming.length - m = j
    intro ej hj
    have hjv : j < cs.length := by omega
    refine ⟨_, rfl, p, _, _, _, _, rfl, B.ob, T.tx.clB, T.tx.aB _ aPast, rfl, _, rfl, p, _, _, _, _, rfl, B.ob, T.tx.clB, T.tx.aB _ aNow, rfl, by show 1 ≤ sizeLine; decide, fun t1 hN => ?_⟩
    have s1 := sN (H := H) (a := t1) (o := (.tup [n])) hN
    have h1 : upd H t1 (.tup [n]) t1 = some (.tup [n]) := upd_same
    revert s1 h1
    generalize upd H t1 (.tup [n]) = H1
    intro s1 h1
    refine catB (s1 _ _ hv) h1 (by show vs.length + 1 ≤ 1000; omega) fun t2 H2 s2 h2 => ?_
    have S2 := s1.trans s2
    have B2 := B.sm S2
    refine ⟨_, rfl, p, _, _, _, _, rfl, B2.ob, T.tx.clB, T.tx.aB _ aComing, rfl, _, rfl, ac, cs, j, rfl, congrArg V.int ej, SqT.of (S2 _ _ hc), hjv, fun t3 ht3 => ?_⟩
    have s3 := sN (H := H2) (a := t3) (o := (.tup (cs.drop (j + 1)).reverse)) ht3
    have h3 : upd H2 t3 (.tup (cs.drop (j + 1)).reverse) t3 = some (.tup (cs.drop (j + 1)).reverse) := upd_same
    revert s3 h3
    generalize upd H2 t3 (.tup (cs.drop (j + 1)).reverse) = H3
    intro s3 h3
    have S3 := S2.trans s3
    refine catB (s3 _ _ h2) h3 (by simp; omega) fun t4 H4 s4 h4 => ?_
    have S4 := S3.trans s4
    have B4 := B.sm S4
    have t4' := Same.tk S4
    have PC : Paired (NwAt H4) (vs ++ [n] ++ (cs.drop (j + 1)).reverse) (b.past ++ [b.now] ++ (b.coming.drop (j + 1)).reverse) :=
      prd_app (prd_app (pv'.mono fun _ _ z => NwAt.tk t4' z) (.cons (NwAt.tk t4' B.now) .nil)) (prd_rev (prd_dr _ (pc'.mono fun _ _ z => NwAt.tk t4' z)))
    refine ⟨_, rfl, p, _, _, _, rfl, B4.ob, T.tx.clB, T.tx.aB _ aPast, bF_len _ _ _, ?_⟩
    have B5 := bdPast (y := .ref t4) B4 ⟨t4, _, rfl, h4, PC⟩
    obtain ⟨k5, t5⟩ := bdSt (n' := n) (v' := .ref t4) (c' := .ref ac) B4
    obtain ⟨x, hx, Nx⟩ := prd_gt pc' (i := j) (y := b.coming[j]) (List.getElem?_eq_getElem hj)
    refine ⟨_, rfl, p, _, _, _, _, rfl, B5.ob, T.tx.clB, T.tx.aB _ aComing, rfl, _, rfl, ac, cs, _, x, rfl, rfl, SqT.of ((t4'.trans t5) _ _ hc), (congrArg (atI cs) ej).trans (atI_nat hx), ?_⟩
    refine ⟨_, rfl, p, _, _, _, rfl, B5.ob, T.tx.clB, T.tx.aB _ aNow, bF_len _ _ _, ?_⟩
    have B6 := bdNow (y := x) B5 (NwAt.tk (t4'.trans t5) Nx)
    obtain ⟨k6, t6⟩ := bdSt (n' := x) (v' := .ref t4) (c' := .ref ac) B5
    have t46 := (t4'.trans t5).trans t6
    refine ⟨_, rfl, p, _, _, _, _, rfl, B6.ob, T.tx.clB, T.tx.aB _ aComing, rfl, _, rfl, _, rfl, slB (t46 _ _ hc) fun t7 H7 s7 h7 => ?_⟩
    rw [ej, cut_to] at h7
    have B7 := B6.sm s7
    refine ⟨_, rfl, p, _, _, _, rfl, B7.ob, T.tx.clB, T.tx.aB _ aComing, bF_len _ _ _, ?_⟩
    have B8 := bdComing (y := .ref t7) (l := b.coming.take j) B7 ⟨t7, _, rfl, h7, prd_tk j (pc'.mono fun _ _ z => NwAt.tk (t46.trans (Same.tk s7)) z)⟩
    obtain ⟨k8, t8⟩ := bdSt (n' := x) (v' := .ref t4) (c' := .ref t7) B7
    have eU : redoB m b = ⟨b.coming[j], b.past ++ [b.now] ++ (b.coming.drop (j + 1)).reverse, b.coming.take j⟩ := by
      unfold redoB
      rw [hjd, List.getD_eq_getElem?_getD, List.getElem?_eq_getElem hj]
      rfl
    rw [← eU] at B8
    exact q1 hle' _ _ _ _ ((((Kp.of_same S4).trans k5).trans k6).trans ((Kp.of_same s7).trans k8)) B8 (redoB_ok ok hm hle')
/-! ### copies and trials -/
def spCopy (C : Addr) : Sp := fun vs H Q _ => ∃ p dx n v c b, vs = [.ref p] ∧ BdAt C H p dx n v c b ∧ ∀ (H' : Hp) (q dq : Addr), Kp [] H H' → H q = none → BdAt C H' q dq n v c b → Q (.ref q) H'
theorem ok_copy (T : Tz K mg) : Ok P w K mg base 5 (He.fAd K d_Board_copy.at_) ["self"] [] (spCopy (CB K)) := by
  refine T.tx.ok at_Board_copy sc_Board_copy rfl rfl (fun _ _ _ _ _ _ us hl => match us, hl with | [_], _ => rfl) (fun vs H Q E h => ?_) (fun cdv A outer s H vs Q E hr h => ?_)
  · obtain ⟨p, dx, n, v, c, b, rfl, _⟩ := h
    rfl
  · obtain ⟨p, dx, n, v, c, b, rfl, B, q⟩ := h
    have nd := sc_Board_copy.nd
    refine ⟨_, pss_cons (ps_set (i := 1) nd rfl (.inl rfl) (pe_mk (ok_Binit T) T.tx.mkB hr (T.tx.mglo "Board") (pa_cons (pe_fld (pv 0) rfl) pa_nil) passL))
      (pss_cons (ps_asg (pe_tup (pa_cons (pe_fld (pv 0) rfl) (pa_cons (pe_fld (pv 0) rfl) (pa_cons (pe_fld (pv 0) rfl) pa_nil)))) (pg_tup (n := 3) rfl (pgs_cons (pg_fld (pv 1)) (pgs_cons (pg_fld (pv 1)) (pgs_cons (pg_fld (pv 1)) pgs_nil)))))
      (pss_one (ps_ret (pv 1)))), ?_⟩
    refine ⟨_, rfl, p, _, _, _, _, rfl, B.ob, T.tx.clB, T.tx.aB _ aMany, rfl, fun x dq hx hdq hne => ?_⟩
    refine ⟨x, dq, rfl, upd_same, fun H1 n0 v0 c0 k1 B1 => ⟨rfl, ?_⟩⟩
    have k01 : Kp [] H H1 := fun a o e m => k1 a o (by
      have h1 : a ≠ x := fun z => by rw [z, hx] at e; cases e
      have h2 : a ≠ dq := fun z => by rw [z, hdq] at e; cases e
      rw [upd_ne h1, upd_ne h2]
      exact e) (by
      intro z
      rw [List.mem_singleton.mp z, hx] at e
      cases e)
    have B2 := B.at k01 Off.nil (by simp)
    refine ⟨_, rfl, p, _, _, _, _, rfl, B2.ob, T.tx.clB, T.tx.aB _ aNow, rfl, _, rfl, p, _, _, _, _, rfl, B2.ob, T.tx.clB, T.tx.aB _ aPast, rfl, _, rfl, p, _, _, _, _, rfl, B2.ob, T.tx.clB, T.tx.aB _ aComing, rfl, by show 3 ≤ sizeLine; decide, fun t ht => ?_⟩
    have s2 := sN (o := .tup [n, v, c]) ht
    have B3 := B1.sm s2
    have O3 := B2.sm s2
    refine ⟨t, _, rfl, SqT.of upd_same, rfl, _, _, rfl, _, rfl, x, _, _, _, rfl, B3.ob, T.tx.clB, T.tx.aB _ aNow, bF_len _ _ _, ?_⟩
    have B4 := bdNow (y := n) B3 O3.now
    obtain ⟨k4, t4⟩ := bdSt (n' := n) (v' := v0) (c' := c0) B3
    refine ⟨_, _, rfl, _, rfl, x, _, _, _, rfl, B4.ob, T.tx.clB, T.tx.aB _ aPast, bF_len _ _ _, ?_⟩
    have B5 := bdPast (y := v) B4 (NwsAt.tk t4 O3.past)
    obtain ⟨k5, t5⟩ := bdSt (n' := n) (v' := v) (c' := c0) B4
    refine ⟨_, _, rfl, _, rfl, x, _, _, _, rfl, B5.ob, T.tx.clB, T.tx.aB _ aComing, bF_len _ _ _, ?_⟩
    have B6 := bdComing (y := c) B5 (NwsAt.tk (t4.trans t5) O3.coming)
    obtain ⟨k6, t6⟩ := bdSt (n' := n) (v' := v) (c' := c) B5
    refine ⟨rfl, _, rfl, q _ x dq ?_ hx B6⟩
    exact ((k01.mono (T := [x]) (by simp)).trans ((((Kp.of_same s2).trans k4).trans k5).trans k6)).drop hx
def spTinit (CB' C : Addr) : Sp := fun vs H Q _ => ∃ t dt p dx n v c, vs = [.ref t, .ref p] ∧ H t = some (.ins C dt []) ∧ H p = some (.ins CB' dx (bF n v c)) ∧ t ≠ p ∧ ∀ (H' : Hp), Kp [t] H H' → H' t = some (.ins C dt (tF (.ref p) n v c)) → Q .non H'
theorem ok_Tinit (T : Tz K mg) : Ok P w K mg base 1 (He.fAd K d_Trial__init.at_) ["self", "board"] [] (spTinit (CB K) (CT K)) := by
  refine T.tx.ok at_Trial__init sc_Trial__init rfl rfl (fun _ _ _ _ _ _ us hl => match us, hl with | [_, _], _ => rfl) (fun vs H Q E h => ?_) (fun cdv A outer s H vs Q E hr h => ?_)
  · obtain ⟨t, dt, p, dx, n, v, c, rfl, _⟩ := h
    rfl
  · obtain ⟨t, dt, p, dx, n, v, c, rfl, ht, hp, hne, q⟩ := h
    refine ⟨_, pss_cons (ps_fld (pv 0) (pv 1) rfl) (pss_cons (ps_fld (pv 0) (pe_fld (pv 1) rfl) rfl) (pss_cons (ps_fld (pv 0) (pe_fld (pv 1) rfl) rfl) (pss_one (ps_fld (pv 0) (pe_fld (pv 1) rfl) rfl)))), ?_⟩
    have hp' : p ∉ [t] := fun z => hne (List.mem_singleton.mp z).symm
    refine ⟨_, rfl, _, rfl, t, _, _, _, rfl, ht, T.tx.clT, T.tx.aT _ tB_, by show 0 < 1000; decide, ?_⟩
    refine st1 fun H1 k1 o1 => ?_
    have p1 := k1 _ _ hp hp'
    refine ⟨_, rfl, p, _, _, _, _, rfl, p1, T.tx.clB, T.tx.aB _ aNow, rfl, _, rfl, t, _, _, _, rfl, o1, T.tx.clT, T.tx.aT _ tN_, by show 1 < 1000; decide, ?_⟩
    refine st1 fun H2 k2 o2 => ?_
    have p2 := k2 _ _ p1 hp'
    refine ⟨_, rfl, p, _, _, _, _, rfl, p2, T.tx.clB, T.tx.aB _ aPast, rfl, _, rfl, t, _, _, _, rfl, o2, T.tx.clT, T.tx.aT _ tP_, by show 2 < 1000; decide, ?_⟩
    refine st1 fun H3 k3 o3 => ?_
    have p3 := k3 _ _ p2 hp'
    refine ⟨_, rfl, p, _, _, _, _, rfl, p3, T.tx.clB, T.tx.aB _ aComing, rfl, _, rfl, t, _, _, _, rfl, o3, T.tx.clT, T.tx.aT _ tC_, by show 3 < 1000; decide, ?_⟩
    refine st1 fun H4 k4 o4 => ?_
    exact q _ (((k1.trans k2).trans k3).trans k4) o4
def spTrial (CB' C : Addr) : Sp := fun vs H Q _ => ∃ p dx n v c, vs = [.ref p] ∧ H p = some (.ins CB' dx (bF n v c)) ∧ ∀ (H' : Hp) (t dt : Addr), Kp [] H H' → H t = none → H' t = some (.ins C dt (tF (.ref p) n v c)) → Q (.ref t) H'
theorem ok_trial (T : Tz K mg) : Ok P w K mg base 3 (He.fAd K d_Board_trial.at_) ["self"] [] (spTrial (CB K) (CT K)) := by
  refine T.tx.ok at_Board_trial sc_Board_trial rfl rfl (fun _ _ _ _ _ _ us hl => match us, hl with | [_], _ => rfl) (fun vs H Q E h => ?_) (fun cdv A outer s H vs Q E hr h => ?_)
  · obtain ⟨p, dx, n, v, c, rfl, _⟩ := h
    rfl
  · obtain ⟨p, dx, n, v, c, rfl, hp, q⟩ := h
    refine ⟨_, pss_one (ps_ret (pe_mk (ok_Tinit T) T.tx.mkT hr (T.tx.mglo "Trial") (pa_cons (pv 0) pa_nil) passL)), ?_⟩
    refine ⟨_, rfl, fun x dq hx hdq hne => ?_⟩
    have e1 : p ≠ x := ne_of_none hp hx
    have e2 : p ≠ dq := ne_of_none hp hdq
    refine ⟨x, dq, p, dx, n, v, c, rfl, upd_same, by rw [upd_ne e1, upd_ne e2]; exact hp, Ne.symm e1, fun H1 k1 o1 => ⟨rfl, q _ x dq ?_ hx o1⟩⟩
    exact fun a o e m => k1 a o (by
      have h1 : a ≠ x := fun z => by rw [z, hx] at e; cases e
      have h2 : a ≠ dq := fun z => by rw [z, hdq] at e; cases e
      rw [upd_ne h1, upd_ne h2]
      exact e) (by
      intro z
      rw [List.mem_singleton.mp z, hx] at e
      cases e)
def spEnter (CB' C : Addr) : Sp := fun vs H Q _ => ∃ t dt p dx n v c n0 v0 c0, vs = [.ref t] ∧ H t = some (.ins C dt (tF (.ref p) n0 v0 c0)) ∧ H p = some (.ins CB' dx (bF n v c)) ∧ t ≠ p ∧ ∀ (H' : Hp), Kp [t] H H' → H' t = some (.ins C dt (tF (.ref p) n v c)) → Q (.ref p) H'
theorem ok_enter (T : Tz K mg) : Ok P w K mg base 1 (He.fAd K d_Trial__enter.at_) ["self"] [] (spEnter (CB K) (CT K)) := by
  refine T.tx.ok at_Trial__enter sc_Trial__enter rfl rfl (fun _ _ _ _ _ _ us hl => match us, hl with | [_], _ => rfl) (fun vs H Q E h => ?_) (fun cdv A outer s H vs Q E hr h => ?_)
  · obtain ⟨t, dt, p, dx, n, v, c, n0, v0, c0, rfl, _⟩ := h
    rfl
  · obtain ⟨t, dt, p, dx, n, v, c, n0, v0, c0, rfl, ht, hp, hne, q⟩ := h
    refine ⟨_, pss_cons (ps_fld (pv 0) (pe_fld (pe_fld (pv 0) rfl) rfl) rfl) (pss_cons (ps_fld (pv 0) (pe_fld (pe_fld (pv 0) rfl) rfl) rfl) (pss_cons (ps_fld (pv 0) (pe_fld (pe_fld (pv 0) rfl) rfl) rfl) (pss_one (ps_ret (pe_fld (pv 0) rfl))))), ?_⟩
    have hp' : p ∉ [t] := fun z => hne (List.mem_singleton.mp z).symm
    refine ⟨_, rfl, t, _, _, _, _, rfl, ht, T.tx.clT, T.tx.aT _ tB_, rfl, p, _, _, _, _, rfl, hp, T.tx.clB, T.tx.aB _ aNow, rfl, _, rfl, t, _, _, _, rfl, ht, T.tx.clT, T.tx.aT _ tN_, tF_len _ _ _ _, ?_⟩
    refine st1 fun H1 k1 o1 => ?_
    have p1 := k1 _ _ hp hp'
    refine ⟨_, rfl, t, _, _, _, _, rfl, o1, T.tx.clT, T.tx.aT _ tB_, rfl, p, _, _, _, _, rfl, p1, T.tx.clB, T.tx.aB _ aPast, rfl, _, rfl, t, _, _, _, rfl, o1, T.tx.clT, T.tx.aT _ tP_, by show 4 < 1000; decide, ?_⟩
    refine st1 fun H2 k2 o2 => ?_
    have p2 := k2 _ _ p1 hp'
    refine ⟨_, rfl, t, _, _, _, _, rfl, o2, T.tx.clT, T.tx.aT _ tB_, rfl, p, _, _, _, _, rfl, p2, T.tx.clB, T.tx.aB _ aComing, rfl, _, rfl, t, _, _, _, rfl, o2, T.tx.clT, T.tx.aT _ tC_, by show 4 < 1000; decide, ?_⟩
    refine st1 fun H3 k3 o3 => ?_
    exact ⟨_, rfl, t, _, _, _, _, rfl, o3, T.tx.clT, T.tx.aT _ tB_, rfl, q _ ((k1.trans k2).trans k3) o3⟩
/-! ### equality -/
def spBeq (C : Addr) : Sp := fun vs H Q _ => ∃ p q dx dy n v c n' v' c' b b' M, vs = [.ref p, .ref q] ∧ BdAt C H p dx n v c b ∧ BdAt C H q dy n' v' c' b' ∧ BdOk M b ∧ BdOk M b' ∧ Q (.bl (PyData.eqv (.tuple b.now.deeds) (.tuple b'.now.deeds))) H
theorem ok_Beq (T : Tz K mg) : Ok P w K mg base 1 (He.fAd K d_Board__eq.at_) ["self", "other"] [] (spBeq (CB K)) := by
  refine T.tx.ok at_Board__eq sc_Board__eq rfl rfl (fun _ _ _ _ _ _ us hl => match us, hl with | [_, _], _ => rfl) (fun vs H Q E h => ?_) (fun cdv A outer s H vs Q E hr h => ?_)
  · obtain ⟨p, q, dx, dy, n, v, c, n', v', c', b, b', M, rfl, _⟩ := h
    rfl
  · obtain ⟨p, q, dx, dy, n, v, c, n', v', c', b, b', M, rfl, B, B', ok, ok', hq⟩ := h
    obtain ⟨a, dt, st, xs, rfl, h1, h2, h3, _⟩ := B.now
    obtain ⟨a', dt', st', xs', rfl, h1', h2', h3', _⟩ := B'.now
    refine ⟨_, pss_one (ps_ret (pe_and (pe_callB call_isi (by rfl) (T.tx.mfre "isinstance") PyProof.Rows.boot_isinstance (pa_cons (pv 1) (pa_cons (pe_glob (v := .ref (CB K)) (by rfl) (T.tx.mglo "Board") rfl) pa_nil)))
      (pe_and (pe_cmpR op_eq (pe_fld (pv 0) rfl) (pe_fld (pv 1) rfl) (nomark _)) (pe_one (pe_cmpR (op_eqD (hr.units)) (pe_ix ix_tup (pe_fld (pv 0) rfl) pe_int (fun _ _ => rfl)) (pe_ix ix_tup (pe_fld (pv 1) rfl) pe_int (fun _ _ => rfl)) (nomark _)))))), ?_⟩
    refine ⟨_, rfl, .ref q, .ref (CB K), .ref (CB K), .ref (CB K), true, rfl, .own _, .base (.ins B'.ob T.tx.clB T.tx.isB.ha T.tx.isB.hn T.tx.isB.tk T.tx.isB.mr), T.tx.isB.kit, true, rfl, iteT ?_⟩
    refine ⟨_, rfl, p, _, _, _, _, rfl, B.ob, T.tx.clB, T.tx.aB _ aMany, rfl, _, rfl, q, _, _, _, _, rfl, B'.ob, T.tx.clB, T.tx.aB _ aMany, rfl, rfl, true, rfl, iteT ?_⟩
    refine ⟨_, rfl, p, _, _, _, _, rfl, B.ob, T.tx.clB, T.tx.aB _ aNow, rfl, a, _, 0, _, rfl, rfl, SqT.of h1, rfl, _, rfl, q, _, _, _, _, rfl, B'.ob, T.tx.clB, T.tx.aB _ aNow, rfl, a', _, 0, _, rfl, rfl, SqT.of h1', rfl, ?_⟩
    exact ⟨_, _, DT.dp (.tup h2 h3), DT.dp (.tup h2' h3'), (Sh.tuple ok.now.dS).shaped (by decide), (Sh.tuple ok'.now.dS).shaped (by decide), hq⟩
end
end K21

/-! closures: lambdas with parameters and a default, what calling one does from a state on -/
namespace K21
open PySem PySem.Spec PyProof.Rows L2 LamX
/-! ### making -/
abbrev laD_fn (name qual : Str) (params : Arguments) (body : Expr) (scope : Scope) (cl : List (Str × Addr)) (pm cdv ct dV : Value) : FuncData :=
  { name, qualname := qual, params, body := .expr body, scope, globals := mainGlobals, closure := cl, defaults := dV, kwdefaults := .none, doc := .none, pyModule := pm, annotations := none, code := cdv, closureTuple := ct, builtins := builtinsNs }
abbrev laD_obj (name qual : Str) (params : Arguments) (body : Expr) (scope : Scope) (clos : List (Str × Addr)) (pm cv ctv dV : Value) : Obj :=
  { cls := .type "function", data := .func (laD_fn name qual params body scope clos pm cv ctv dV) }
section
variable {M : Model} {A : Around} {E : Value → Shared → Prop} {s : Shared} {name qual : Str} {params : Arguments} {body : Expr} {scope : Scope} {env : Env} {c P : Addr} {ps : Array Value} {pos : Pos} {firstLine : Nat} {mg : Str → Option Value}
  {clos : List (Str × Addr)} {Q : Value → Shared → Prop} {dV : Value}
open PySem.W in
theorem laD_makeTail (hcl : closureFor scope env = pure clos) (hge0 : env.globals = mainGlobals) (hg : s.heap.Ns mainGlobals mg) (hcode : env.code = .ref c) (C : CodeHd s.heap c P) (hP : s.heap.get? P = some (tabObj ps)) (ht : TriplesOk ps.toList)
    (hnf : codeAmong pos ps.toList = none) (hgP : mainGlobals ≠ P) (hb : s.heap.BuiltinsAt mg P)
    (h : ∀ c' ctv h' tk, Heap.ExtBut P s.heap h' → s.heap.objs.size ≤ c' → c' < h'.objs.size → h'.CodeRec (.ref c') qual → h'.get? P = some (tabObj (ps ++ #[rawInt pos.line, rawInt pos.col, .ref c'])) →
      Q (.ref h'.objs.size) { s with heap := h'.push (laD_obj name qual params body scope clos ((mg "__name__").getD .none) (.ref c') ctv dV), toks := tk }) :
    wpAny M A (makeTail name qual params (.expr body) scope env dV .none none pos firstLine) Q E s := by
  obtain ⟨bm, ob, hbm, hne0, _, hneP, hbo, hcls, hdict, hdata⟩ := hb
  unfold makeTail
  rw [hcl, hge0]
  refine wpAny_bind (wpAny_pure ?_)
  cases clos with
  | nil =>
    simp only [List.isEmpty_nil, if_true]
    refine wpAny_bind (wpAny_pure ?_)
    refine wpAny_bind (wpAny_functionCodeX hcode (C.code hP ht) (C.tab hP) hnf fun c' h' tk hx hge hlt _ hrec htb _ => ?_)
    have hg' := hg.extBut hx hgP
    refine wpAny_bind (wpAny_builtinsFor hg' hbm hne0 (hx _ _ hneP hbo) hcls hdict hdata ?_)
    refine wpAny_bind (wpAny_nsGet hg' ?_)
    exact wpAny_bind (wpAny_pure (wpAny_newObj_type (h c' .none h' tk hx hge hlt hrec htb.2) (by size_fits)))
  | cons q r =>
    simp only [List.isEmpty_cons, Bool.false_eq_true, if_false]
    refine wpAny_bind (wpAny_newTextTuple ?_)
    refine wpAny_bind (wpAny_functionCodeX hcode ((C.keeps fun b o e => Heap.get?_push_of_some _ e).code (Heap.get?_push_of_some _ hP) ht) ((C.keeps fun b o e => Heap.get?_push_of_some _ e).tab (Heap.get?_push_of_some _ hP)) hnf fun c' h' tk hx hge hlt _ hrec htb _ => ?_)
    have hg' := (hg.push _).extBut hx hgP
    have hx' : Heap.ExtBut P s.heap h' := fun b o hb' e => hx b o hb' (Heap.get?_push_of_some _ e)
    have hge' : s.heap.objs.size ≤ c' := Nat.le_trans (by rw [Heap.size_push]; omega) hge
    refine wpAny_bind (wpAny_builtinsFor hg' hbm hne0 (hx' _ _ hneP hbo) hcls hdict hdata ?_)
    refine wpAny_bind (wpAny_nsGet hg' ?_)
    exact wpAny_bind (wpAny_pure (wpAny_newObj_type (h c' _ h' tk hx' hge' hlt hrec htb.2) (by size_fits)))
open PySem.W in
theorem laD_makeTailHit {cv : Value} (hcl : closureFor scope env = pure clos) (hge0 : env.globals = mainGlobals) (hg : s.heap.Ns mainGlobals mg) (hcode : env.code = .ref c) (C : CodeHd s.heap c P) (hP : s.heap.get? P = some (tabObj ps)) (ht : TriplesOk ps.toList)
    (hf : codeAmong pos ps.toList = some cv) (hb : s.heap.BuiltinsAt mg P)
    (h : ∀ (ctv : Value) (h' : Heap) (tk : Tok), (∀ b o, s.heap.get? b = some o → h'.get? b = some o) → s.heap.objs.size ≤ h'.objs.size →
      Q (.ref h'.objs.size) { s with heap := h'.push (laD_obj name qual params body scope clos ((mg "__name__").getD .none) cv ctv dV), toks := tk }) :
    wpAny M A (makeTail name qual params (.expr body) scope env dV .none none pos firstLine) Q E s := by
  obtain ⟨bm, ob, hbm, hne0, _, hneP, hbo, hcls, hdict, hdata⟩ := hb
  unfold makeTail
  rw [hcl, hge0]
  refine wpAny_bind (wpAny_pure ?_)
  cases clos with
  | nil =>
    simp only [List.isEmpty_nil, if_true]
    refine wpAny_bind (wpAny_pure ?_)
    refine wpAny_bind (wpAny_functionCode_hit hcode (C.code hP ht) hf ?_)
    refine wpAny_bind (wpAny_builtinsFor hg hbm hne0 hbo hcls hdict hdata ?_)
    refine wpAny_bind (wpAny_nsGet hg ?_)
    exact wpAny_bind (wpAny_pure (wpAny_newObj_type (h .none s.heap s.toks (fun _ _ e => e) (Nat.le_refl _)) (by size_fits)))
  | cons q r =>
    simp only [List.isEmpty_cons, Bool.false_eq_true, if_false]
    refine wpAny_bind (wpAny_newTextTuple ?_)
    refine wpAny_bind (wpAny_functionCode_hit hcode ((C.keeps fun b o e => Heap.get?_push_of_some _ e).code (Heap.get?_push_of_some _ hP) ht) hf ?_)
    refine wpAny_bind (wpAny_builtinsFor (hg.push _) hbm hne0 (Heap.get?_push_of_some _ hbo) hcls hdict hdata ?_)
    refine wpAny_bind (wpAny_nsGet (hg.push _) ?_)
    have hsz : ∀ oT : Obj, s.heap.objs.size ≤ (s.heap.push oT).objs.size := fun oT => by rw [Heap.size_push]; omega
    exact wpAny_bind (wpAny_pure (wpAny_newObj_type (h _ _ s.toks (fun b o e => Heap.get?_push_of_some _ e) (hsz _)) (by size_fits)))
/-- what a lambda's making comes to: no default, or one -/
theorem laD_eval0 (hdef : defaultsOf params env = ([], [])) (h : wpAny M A (makeTail "<lambda>" (env.qual ++ "<lambda>") params (.expr body) scope env .none .none none pos pos.line) Q E s) :
    wpAny M A (eval (.Lambda params body scope pos) env) Q E s := by
  refine PySem.W.kla_eval hdef ?_
  rw [makeFunction_eq]
  simp only [List.zip_nil_right, List.filterMap_nil, List.isEmpty_nil, if_true, pure_bind]
  exact h
theorem laD_eval1 {d : Sem Value} (hdef : defaultsOf params env = ([d], []))
    (h : wpAny M A d (fun v s1 => wpAny M A (makeTail "<lambda>" (env.qual ++ "<lambda>") params (.expr body) scope env (.ref s1.heap.objs.size) .none none pos pos.line) Q E { s1 with heap := s1.heap.push { cls := .type "tuple", data := .seq [v].toArray } }) E s) :
    wpAny M A (eval (.Lambda params body scope pos) env) Q E s := by
  rw [arm_eval_Lambda, hdef]
  show wpAny M A (do let dv ← evalAll [d]; let kdv ← holding dv (evalAllOpt []); makeFunction "<lambda>" (env.qual ++ "<lambda>") params (.expr body) scope env dv kdv [] pos pos.line) Q E s
  refine wpAny_bind (wpAny_bind (wpAny_mono h (fun v s1 h1 => wpAny_bind (wpAny_holding (wpAny_pure (wpAny_pure (wpAny_bind (wpAny_holding (wpAny_pure ?_)))))) ) fun _ _ x => x))
  rw [makeFunction_eq]
  simp only [List.zip_nil_right, List.filterMap_nil, List.isEmpty_nil, List.isEmpty_cons, Bool.false_eq_true, if_false, if_true, pure_bind]
  exact wpAny_bind (wpAny_newTextTuple h1)
end
/-- the function object of a lambda, at f -/
def LamO (f : Addr) (q : Str) (params : Arguments) (body : Expr) (scope : Scope) (cl : List (Str × Addr)) (c' : Addr) (dV : Value) : HO :=
  .ext fun h => ∃ pm ctv : Value, h.get? f = some (laD_obj "<lambda>" q params body scope cl pm (.ref c') ctv dV)
/-- .. with its code object, its default (0) -/
def LamAt (H : Hp) (f : Addr) (q : Str) (params : Arguments) (body : Expr) (scope : Scope) (cl : List (Str × Addr)) (nd : Bool) : Prop :=
  ∃ (c' : Addr) (dV : Value), H f = some (LamO f q params body scope cl c' dV) ∧ H c' = some (CodeO c' q) ∧ (nd = false ∧ dV = .none ∨ nd = true ∧ ∃ T, dV = .ref T ∧ H T = some (.tup [.int 0]))
theorem lamO_ne {f : Addr} {q : Str} {params : Arguments} {body : Expr} {scope : Scope} {cl : List (Str × Addr)} {c' : Addr} {dV : Value} (ps : Array Value) : LamO f q params body scope cl c' dV ≠ .tbl ps := fun z => by
  unfold LamO at z
  cases z
/-- instances, dicts, lists -/
def mutO : HO → Bool
  | .ins _ _ _ => true
  | .dK _ => true
  | .lst _ => true
  | _ => false
/-- what S names may be written -/
def OffM (H : Hp) (S : List Addr) : Prop := ∀ a ∈ S, ∃ o, H a = some o ∧ mutO o = true
theorem OffM.nil {H : Hp} : OffM H [] := fun _ h => by cases h
theorem OffM.cons {H : Hp} {a : Addr} {o : HO} {S : List Addr} (h : H a = some o) (n : mutO o = true) (r : OffM H S) : OffM H (a :: S) := fun b hb => by
  rcases List.mem_cons.mp hb with e | hb
  · rw [e]
    exact ⟨o, h, n⟩
  · exact r b hb
theorem OffM.not {H : Hp} {S : List Addr} (f : OffM H S) {a : Addr} {o : HO} (h : H a = some o) (n : mutO o = false) : a ∉ S := fun m => by
  obtain ⟨o', e, n'⟩ := f a m
  rw [h] at e
  cases e
  rw [n] at n'
  cases n'
theorem LamAt.kp {H H' : Hp} {S : List Addr} {f : Addr} {q : Str} {params : Arguments} {body : Expr} {scope : Scope} {cl : List (Str × Addr)} {nd : Bool} (L : LamAt H f q params body scope cl nd) (k : Kp S H H') (m : OffM H S) : LamAt H' f q params body scope cl nd := by
  obtain ⟨c', dV, h1, h2, h3⟩ := L
  refine ⟨c', dV, k _ _ h1 (m.not h1 rfl), k _ _ h2 (m.not h2 rfl), ?_⟩
  rcases h3 with h3 | ⟨e, T, eT, hT⟩
  · exact .inl h3
  · exact .inr ⟨e, T, eT, k _ _ hT (m.not hT rfl)⟩
theorem LamAt.kw {H H' : Hp} {S : List Addr} {f : Addr} {q : Str} {params : Arguments} {body : Expr} {scope : Scope} {cl : List (Str × Addr)} {nd : Bool} (L : LamAt H f q params body scope cl nd) (k : Kw S H H') (m : OffM H S) : LamAt H' f q params body scope cl nd := by
  obtain ⟨c', dV, h1, h2, h3⟩ := L
  refine ⟨c', dV, k _ _ h1 lamO_ne (m.not h1 rfl), k _ _ h2 codeO_ne (m.not h2 rfl), ?_⟩
  rcases h3 with h3 | ⟨e, T, eT, hT⟩
  · exact .inl h3
  · exact .inr ⟨e, T, eT, k _ _ hT (fun _ z => by cases z) (m.not hT rfl)⟩
section
variable {X : Cx} {pins : List (Addr × Obj)} {σ : L2.St} {H : Hp} {s : Shared}
/-- behind the defaults: the lambda is made, its object tracked -/
theorem lam_tail {T : List (Addr × Str)} {c P : Addr} {params : Arguments} {body : Expr} {scope : Scope} {pos : Pos} {dV : Value} {E : Value → Shared → Prop} {Q : Value → Shared → Prop} (I : Inv X pins σ H s) (TB : TabB X.base X.mg c P) (hcode : X.env.code = .ref c)
    (hm : (P, X.env.qual ++ "<lambda>") ∈ T) (hu : ∀ p ∈ T, p.1 = P → p.2 = X.env.qual ++ "<lambda>") (hT : Tabs T H) (hfree : ∀ y ∈ scope.names, y.2 = .free → ∃ c, X.env.cells.lookup y.1 = some c)
    (h : ∀ (f c' : Addr) (H1 : Hp) (s' : Shared), Inv X pins σ H1 s' → ExtN H H1 → Tabs T H1 → H f = none →
      H1 f = some (LamO f (X.env.qual ++ "<lambda>") params body scope (cloFrom X.env.cells scope.names []) c' dV) → H1 c' = some (CodeO c' (X.env.qual ++ "<lambda>")) → Q (.ref f) s') :
    wpAny (model X.prog X.w) X.A (makeTail "<lambda>" (X.env.qual ++ "<lambda>") params (.expr body) scope X.env dV .none none pos pos.line) Q E s := by
  obtain ⟨ps, hP, ht, ha⟩ := hT _ hm
  have bP : s.heap.BuiltinsAt X.mg P := TB.bm.keeps I.bk
  have hP' : s.heap.get? P = some { cls := .none, data := .fields ps } := I.hok P _ hP
  have lamOk : ∀ {H1 : Hp} {h1 : Heap} {f : Addr} {pm cv ctv : Value} {c' : Addr}, cv = .ref c' → h1.get? f = some (laD_obj "<lambda>" (X.env.qual ++ "<lambda>") params body scope (cloFrom X.env.cells scope.names []) pm cv ctv dV) →
      ObjOk X.prog X.w H1 h1 f (LamO f (X.env.qual ++ "<lambda>") params body scope (cloFrom X.env.cells scope.names []) c' dV) := fun {H1 h1 f pm cv ctv c'} ec e => by
    subst ec
    exact ⟨⟨pm, ctv, e⟩, ⟨_, e⟩, fun h1 h2 ⟨pm, ctv, z⟩ k => ⟨pm, ctv, k _ z⟩⟩
  cases hc : codeAmong pos ps.toList with
  | none =>
    refine laD_makeTail (mg := X.mg) (c := c) (P := P) (ps := ps) (closure_ok hfree) I.ok.glob (I.mod.glob.keeps I.bk) hcode (TB.code.keeps I.bk) hP' ht hc TB.gP bP fun c' ctv h' tk hx hge hlt hrec htb => ?_
    obtain ⟨c2, oc, vs, t, e2, hoc, hd, hv⟩ := hrec
    cases e2
    have hsz : s.heap.objs.size ≤ h'.objs.size := Nat.le_trans hge (Nat.le_of_lt hlt)
    have nC : H c' = none := I.hok.fresh hge
    have I1 := inv_table (t' := tk) (more := #[rawInt pos.line, rawInt pos.col, .ref c']) (h' := h') I hP hx htb hge ⟨oc, vs, t, hoc, hd, hv⟩
    have hE : ExtN H (upd (upd H P (.tbl (ps ++ #[rawInt pos.line, rawInt pos.col, .ref c']))) c' (CodeO c' (X.env.qual ++ "<lambda>"))) := fun b o e n => by
      rw [upd_ne (ne_of_none e nC), upd_ne (fun z => n ps (Option.some.inj (e.symm.trans (by rw [z]; exact hP))))]
      exact e
    have eL : (ps ++ #[rawInt pos.line, rawInt pos.col, .ref c']).toList = ps.toList ++ [rawInt pos.line, rawInt pos.col, .ref c'] := by simp
    have hT1 : Tabs T (upd (upd H P (.tbl (ps ++ #[rawInt pos.line, rawInt pos.col, .ref c']))) c' (CodeO c' (X.env.qual ++ "<lambda>"))) := fun p hp => by
      by_cases hb : p.1 = P
      · rw [hu p hp hb, hb]
        refine ⟨_, by rw [upd_ne (ne_of_none hP nC), upd_same], by rw [eL]; exact PySem.TriplesOk_snoc _ _ _ _ ht, fun p' cv hcv => ?_⟩
        rw [eL] at hcv
        rcases among_app _ ht hcv with z | z
        · obtain ⟨c0, e1, e2⟩ := ha p' cv z
          exact ⟨c0, e1, hE _ _ e2 codeO_ne⟩
        · exact ⟨c', z, upd_same⟩
      · obtain ⟨ps', a1, a2, a3⟩ := hT p hp
        refine ⟨ps', by rw [upd_ne (ne_of_none a1 nC), upd_ne hb]; exact a1, a2, fun p' cv hcv => ?_⟩
        obtain ⟨c0, e1, e2⟩ := a3 p' cv hcv
        exact ⟨c0, e1, hE _ _ e2 codeO_ne⟩
    have nf1 : (upd (upd H P (.tbl (ps ++ #[rawInt pos.line, rawInt pos.col, .ref c']))) c' (CodeO c' (X.env.qual ++ "<lambda>"))) h'.objs.size = none := I1.hok.fresh (Nat.le_refl _)
    have I2 := I1.laid (t' := tk) (a := h'.objs.size) (o := LamO h'.objs.size (X.env.qual ++ "<lambda>") params body scope (cloFrom X.env.cells scope.names []) c' dV)
      (h' := h'.push (laD_obj "<lambda>" (X.env.qual ++ "<lambda>") params body scope (cloFrom X.env.cells scope.names []) ((X.mg "__name__").getD .none) (.ref c') ctv dV)) (fun b o e => Heap.get?_push_of_some _ e) (Nat.le_refl _) (lamOk rfl (Heap.get?_push_size _ rfl))
    have e2 : ∀ b o, (upd (upd H P (.tbl (ps ++ #[rawInt pos.line, rawInt pos.col, .ref c']))) c' (CodeO c' (X.env.qual ++ "<lambda>"))) b = some o → upd (upd (upd H P (.tbl (ps ++ #[rawInt pos.line, rawInt pos.col, .ref c']))) c' (CodeO c' (X.env.qual ++ "<lambda>"))) h'.objs.size (LamO h'.objs.size (X.env.qual ++ "<lambda>") params body scope (cloFrom X.env.cells scope.names []) c' dV) b = some o := fun b o e => by
      rw [upd_ne (ne_of_none e nf1)]
      exact e
    exact h h'.objs.size c' _ _ I2 (hE.trans (ExtN.of e2)) (hT1.ext e2) (I.hok.fresh hsz) upd_same (e2 _ _ upd_same)
  | some cv =>
    obtain ⟨c', e, hco⟩ := ha pos cv hc
    refine laD_makeTailHit (mg := X.mg) (c := c) (P := P) (ps := ps) (closure_ok hfree) I.ok.glob (I.mod.glob.keeps I.bk) hcode (TB.code.keeps I.bk) hP' ht hc bP fun ctv h' tk hx hsz => ?_
    have I1 : Inv X pins σ H { s with heap := h', toks := tk } := I.kept hx
    have nf1 : H h'.objs.size = none := I.hok.fresh hsz
    have I2 := I1.laid (t' := tk) (a := h'.objs.size) (o := LamO h'.objs.size (X.env.qual ++ "<lambda>") params body scope (cloFrom X.env.cells scope.names []) c' dV)
      (h' := h'.push (laD_obj "<lambda>" (X.env.qual ++ "<lambda>") params body scope (cloFrom X.env.cells scope.names []) ((X.mg "__name__").getD .none) cv ctv dV)) (fun b o e => Heap.get?_push_of_some _ e) (Nat.le_refl _) (lamOk e (Heap.get?_push_size _ rfl))
    have e2 : ∀ b o, H b = some o → upd H h'.objs.size (LamO h'.objs.size (X.env.qual ++ "<lambda>") params body scope (cloFrom X.env.cells scope.names []) c' dV) b = some o := fun b o e => by
      rw [upd_ne (ne_of_none e nf1)]
      exact e
    exact h h'.objs.size c' _ _ I2 (ExtN.of e2) (hT.ext e2) nf1 upd_same (e2 _ _ hco)
end
/-- lambda ..: body -/
def tLam3 (X : Cx) (T : List (Addr × Str)) (params : Arguments) (body : Expr) (scope : Scope) (nd : Bool) : TE := fun _ H Q => Tabs T H ∧ ∀ (f : Addr) (H1 : Hp), ExtN H H1 → Tabs T H1 → H f = none →
  LamAt H1 f (X.env.qual ++ "<lambda>") params body scope (cloFrom X.env.cells scope.names []) nd → Q (.ref f) H1
section
variable {X : Cx}
theorem pe_lam0 {T : List (Addr × Str)} {c P : Addr} {params : Arguments} {body : Expr} {scope : Scope} {pos : Pos} (TB : TabB X.base X.mg c P) (hcode : X.env.code = .ref c)
    (hm : (P, X.env.qual ++ "<lambda>") ∈ T) (hu : ∀ p ∈ T, p.1 = P → p.2 = X.env.qual ++ "<lambda>") (hfree : X.Ok → ∀ y ∈ scope.names, y.2 = .free → ∃ c, X.env.cells.lookup y.1 = some c) (hdef : defaultsOf params X.env = ([], []) := by rfl) :
    PE X (.Lambda params body scope pos) (tLam3 X T params body scope false) := by
  refine ⟨fun pins s σ H Q I h => ?_⟩
  obtain ⟨hT, h⟩ := h
  refine laD_eval0 hdef (lam_tail I TB hcode hm hu hT (hfree I.ok) fun f c' H1 s' I1 eN T1 nf hf hc => ?_)
  exact ⟨.ref f, H1, I1, rfl, h f H1 eN T1 nf ⟨c', .none, hf, hc, .inl ⟨rfl, rfl⟩⟩⟩
theorem pe_lam1 {T : List (Addr × Str)} {c P : Addr} {params : Arguments} {body : Expr} {scope : Scope} {pos : Pos} {e : Expr} (TB : TabB X.base X.mg c P) (hcode : X.env.code = .ref c)
    (hm : (P, X.env.qual ++ "<lambda>") ∈ T) (hu : ∀ p ∈ T, p.1 = P → p.2 = X.env.qual ++ "<lambda>") (hfree : X.Ok → ∀ y ∈ scope.names, y.2 = .free → ∃ c, X.env.cells.lookup y.1 = some c) (he : PE X e (tC (.int 0))) (hdef : defaultsOf params X.env = ([eval e X.env], []) := by rfl) :
    PE X (.Lambda params body scope pos) (tLam3 X T params body scope true) := by
  refine ⟨fun pins s σ H Q I h => ?_⟩
  obtain ⟨hT, h⟩ := h
  refine laD_eval1 hdef (thn (he.run pins s σ H (fun v H1 => v = .int 0 ∧ H1 = H) I ⟨rfl, rfl⟩) fun u s1 ⟨v, H1, I1, r1, ev, eH⟩ => ?_)
  subst ev eH
  have nT : H1 s1.heap.objs.size = none := I1.hok.fresh (Nat.le_refl _)
  have I2 := I1.laid (t' := s1.toks) (a := s1.heap.objs.size) (o := .tup [.int 0]) (h' := s1.heap.push { cls := .type "tuple", data := .seq [u].toArray }) (fun b o e => Heap.get?_push_of_some _ e) (Nat.le_refl _)
    ⟨by show 1 ≤ sizeLine; decide, [u], .cons r1 .nil, ⟨_, Heap.get?_push_size _ rfl, rfl, _, rfl⟩⟩
  have e2 : ∀ b o, H1 b = some o → upd H1 s1.heap.objs.size (.tup [.int 0]) b = some o := fun b o e => by
    rw [upd_ne (ne_of_none e nT)]
    exact e
  refine lam_tail I2 TB hcode hm hu (hT.ext e2) (hfree I.ok) fun f c' H3 s' I3 eN T1 nf hf hc => ?_
  have nf1 : H1 f = none := by
    by_cases z : f = s1.heap.objs.size
    · rw [z]
      exact nT
    · rw [upd_ne z] at nf
      exact nf
  exact ⟨.ref f, H3, I3, rfl, h f H3 ((ExtN.of e2).trans eN) T1 nf1 ⟨c', _, hf, hc, .inr ⟨rfl, _, rfl, eN _ _ upd_same fun _ z => by cases z⟩⟩⟩
end
end K21

/-! closures: calling -/
namespace K21
open PySem PySem.Spec PyProof.Rows L2 LamX
/-- further on, below more frames that are new -/
theorem un_comp {fs fs' : List Addr} {H H1 H2 : Hp} {h h1 h2 : Heap} (a : Un fs [] H H1 h h1) (b : Un fs' [] H1 H2 h1 h2) (hf : ∀ x ∈ fs', x ∈ fs ∨ h.get? x = none) : Un fs [] H H2 h h2 where
  keep := fun c o q n hc hx => b.keep c o (a.keep c o q n hc hx) (a.free c o q n hx) (fun z => by
    rcases hf c z with z | z
    · exact hc z
    · rw [q] at z
      cases z) hx
  slot := fun c o q n hc hx => by
    obtain ⟨sl, e1⟩ := a.slot c o q n hc hx
    obtain ⟨sl2, e2⟩ := b.any e1 (a.free c o q n hx) hx
    exact ⟨sl2, e2⟩
  free := fun c o q n hx => by
    obtain ⟨sl, e1⟩ := a.any q n hx
    exact b.free c _ e1 (a.free c o q n hx) hx
  there := fun c o q hx => by
    obtain ⟨o1, e1⟩ := a.there c o q hx
    exact b.there c o1 e1 hx
  tups := fun c xs q => b.tups c xs (a.tups c xs q)
  frzs := fun c o u q => b.frzs c o u (a.frzs c o u q)
  tbls := fun c ps q => by
    obtain ⟨m1, e1⟩ := a.tbls c ps q
    obtain ⟨m2, e2⟩ := b.tbls c _ e1
    exact ⟨m1 ++ m2, by rw [e2, Array.append_assoc]⟩
section
variable (P : Program) (w : World) (K : PySem.W.Frag) (mg : Str → Option Value) (base : Heap)
/-- what calling the function object at f does, from the state (h, H) on, the frames there being fs -/
def Clos (k : Nat) (fs : List Addr) (f : Addr) (sp : Sp) (h : Heap) (H : Hp) : Prop :=
  ∀ (A : Around) (outer : List Env) (s : Shared) (H1 : Hp) (us : List Value) (vs : List V) (Q : VK) (E : XK), Room k A → Env0 P w K mg base A outer s H1 → Un fs [] H H1 h s.heap → (∀ x ∈ frs outer, x ∈ fs ∨ h.get? x = none) → Vals vs us → sp vs H1 Q E →
    codeAny (model P w) A (.call (.ref f) ⟨us, []⟩) (CR (L2.CX P w) outer P w H1 s Q E) s
end
section
variable {P : Program} {w : World} {K : PySem.W.Frag} {mg : Str → Option Value} {base : Heap} {k : Nat} {fs : List Addr} {f : Addr} {sp : Sp} {h h1 : Heap} {H H1 : Hp}
theorem Clos.go {fs' : List Addr} (C : Clos P w K mg base k fs f sp h H) (u : Un fs' [] H H1 h h1) (hs : ∀ x ∈ fs', x ∈ fs ∨ h.get? x = none) (hs' : ∀ x ∈ fs, x ∈ fs') : Clos P w K mg base k fs' f sp h1 H1 := by
  intro A outer s H2 us vs Q E hr e0 u2 hfo r q
  refine C A outer s H2 us vs Q E hr e0 ?_ (fun x hx => ?_) r q
  rotate_left
  · rcases hfo x hx with z | z
    · exact hs x z
    · by_cases c : x ∈ fs
      · exact .inl c
      · refine .inr ?_
        cases e : h.get? x with
        | none => rfl
        | some o =>
          obtain ⟨o', e'⟩ := u.there x o e (by simp)
          rw [z] at e'
          cases e'
  have u0 : Un fs [] H H1 h h1 := { keep := fun c o q n hc hx => u.keep c o q n (fun z => by
                                      rcases hs c z with z | z
                                      · exact hc z
                                      · rw [q] at z
                                        cases z) hx
                                    slot := fun c o q n _ hx => u.any q n hx
                                    free := u.free
                                    there := u.there
                                    tups := u.tups
                                    frzs := u.frzs
                                    tbls := u.tbls }
  exact un_comp u0 u2 hs
theorem Clos.mono {j : Nat} (C : Clos P w K mg base j fs f sp h H) (hj : j ≤ k) : Clos P w K mg base k fs f sp h H := fun A outer s H1 us vs Q E hr e0 u hfo r q => C A outer s H1 us vs Q E (hr.mono hj) e0 u hfo r q
theorem Clos.imp {sp' : Sp} (C : Clos P w K mg base k fs f sp h H) (hi : ∀ vs H Q E, sp' vs H Q E → sp vs H Q E) : Clos P w K mg base k fs f sp' h H := fun A outer s H1 us vs Q E hr e0 u hfo r q => C A outer s H1 us vs Q E hr e0 u hfo r (hi _ _ _ _ q)
end
/-! ### the lambda's names -/
structure LamP (sc scope : Scope) (N ps : List Str) : Prop where
  kind : scope.kind = .function
  co : scope.isCoroutine = false
  gen : scope.isGenerator = false
  own : ∀ y ∈ scope.names, y.2 ≠ .cell ∧ (y.2 = .local → y.1 ∈ ps)
  par : ∀ p ∈ ps, scope.names.lookup p = some .local
  free : ∀ y ∈ scope.names, y.2 = .free → sc.names.lookup y.1 = some .cell ∨ sc.names.lookup y.1 = some .free
  apart : ∀ p ∈ ps, p ∉ N
  nd : ps.Nodup
def lamPB (sc scope : Scope) (N ps : List Str) : Bool :=
  decide (scope.kind = .function) && (!scope.isCoroutine && (!scope.isGenerator && ((scope.names.all fun y => !decide (y.2 = .cell) && ((!decide (y.2 = .local) || decide (y.1 ∈ ps)) && (!decide (y.2 = .free) || (decide (sc.names.lookup y.1 = some .cell) || decide (sc.names.lookup y.1 = some .free))))) &&
    ((ps.all fun p => decide (scope.names.lookup p = some .local) && !decide (p ∈ N)) && decide ps.Nodup))))
theorem lamP_by {sc scope : Scope} {N ps : List Str} (h : lamPB sc scope N ps = true) : LamP sc scope N ps := by
  unfold lamPB at h
  simp only [Bool.and_eq_true, Bool.or_eq_true, Bool.not_eq_true', decide_eq_true_eq, decide_eq_false_iff_not, List.all_eq_true] at h
  obtain ⟨h1, h2, h3, h4, h5, h6⟩ := h
  refine ⟨h1, h2, h3, fun y hy => ⟨(h4 y hy).1, fun e => ?_⟩, fun p hp => (h5 p hp).1, fun y hy e => ?_, fun p hp => (h5 p hp).2, h6⟩
  · rcases (h4 y hy).2.1 with z | z
    · exact absurd e z
    · exact z
  · rcases (h4 y hy).2.2 with z | z
    · exact absurd e z
    · exact z
theorem LamP.has {X : Cx} {scope : Scope} {N ps : List Str} (L : LamP X.env.scope scope N ps) (ok : X.Ok) : ∀ y ∈ scope.names, y.2 = .free → ∃ c, X.env.cells.lookup y.1 = some c := fun y hy e => by
  rcases L.free y hy e with k | k
  · exact ok.has _ (.inl k)
  · exact ok.has _ (.inr k)
/-- the context of the lambda's body, entered at s from the frames outer -/
def lamC (X : Cx) (A : Around) (outer : List Env) (s : Shared) (H : Hp) (E : XK) (scope : Scope) (ps : List Str) (f c' : Addr) : Cx where
  prog := X.prog
  w := X.w
  K := X.K
  mg := X.mg
  base := X.base
  A := A.deeper (lamEnv X scope s.heap.objs.size f c')
  N := X.N ++ ps
  s_0 := s
  H_0 := H
  env := lamEnv X scope s.heap.objs.size f c'
  outer := outer
  stack := lamEnv X scope s.heap.objs.size f c' :: outer
  ex := []
  fn := fun _ => false
  calm := true
  pn := []
  xe := fun e s' => wpAny (model X.prog X.w) (A.deeper (lamEnv X scope s.heap.objs.size f c')) (leaving (lamEnv X scope s.heap.objs.size f c') e) (fun _ s'' => L2.CX X.prog X.w outer H s E e s'') (fun e' s'' => L2.CX X.prog X.w outer H s E e' s'') s'
theorem zip_lookup {ps : List Str} : ∀ {us : List Value} {j : Nat} {y : Str} {u : Value}, ps.Nodup → ps[j]? = some y → us[j]? = some u → (ps.zip us).lookup y = some u := by
  induction ps with
  | nil => intro us j y u _ h _; simp at h
  | cons p r ih =>
    intro us j y u nd hp hu
    cases us with
    | nil => simp at hu
    | cons v t =>
      cases j with
      | zero =>
        simp at hp hu
        subst hp hu
        simp [List.lookup]
      | succ j =>
        simp at hp hu
        have hne : y ≠ p := fun z => by
          subst z
          exact (List.nodup_cons.mp nd).1 (List.mem_of_getElem? hp)
        have e : (y == p) = false := by simpa using hne
        simp only [List.zip_cons_cons, List.lookup, e]
        exact ih (List.nodup_cons.mp nd).2 hp hu
theorem lookup_app {α : Type} {y : Str} {a b : List (Str × α)} (h : a.lookup y = none) : (a ++ b).lookup y = b.lookup y := by
  induction a with
  | nil => rfl
  | cons p r ih =>
    obtain ⟨k, v⟩ := p
    by_cases e : y = k
    · subst e
      simp [List.lookup] at h
    · have e' : (y == k) = false := by simpa using e
      simp only [List.lookup, e'] at h
      simp only [List.cons_append, List.lookup, e']
      exact ih h
theorem lookup_none {α : Type} {y : Str} {a : List (Str × α)} (h : y ∉ a.map (·.1)) : a.lookup y = none := by
  induction a with
  | nil => rfl
  | cons p r ih =>
    obtain ⟨k, v⟩ := p
    simp only [List.map_cons, List.mem_cons, not_or] at h
    have e' : (y == k) = false := by simpa using h.1
    simp only [List.lookup, e']
    exact ih h.2
theorem rev_lookup {y : Str} {v : Value} : ∀ {a : List (Str × Value)}, (a.map (·.1)).Nodup → a.lookup y = some v → a.reverse.lookup y = some v
  | [], _, h => by simp [List.lookup] at h
  | (k, u) :: r, nd, h => by
    rw [List.reverse_cons]
    by_cases e : y = k
    · subst e
      have hn : y ∉ r.map (·.1) := (List.nodup_cons.mp nd).1
      rw [lookup_app (lookup_none (by simpa using hn))]
      simpa [List.lookup] using h
    · have e' : (y == k) = false := by simpa using e
      simp only [List.lookup, e'] at h
      have ih := rev_lookup (List.nodup_cons.mp nd).2 h
      have key : ∀ {b c : List (Str × Value)}, b.lookup y = some v → (b ++ c).lookup y = some v := by
        intro b c hb
        induction b with
        | nil => simp [List.lookup] at hb
        | cons p q ih2 =>
          obtain ⟨k2, v2⟩ := p
          by_cases e2 : y = k2
          · subst e2
            simpa [List.lookup] using hb
          · have e2' : (y == k2) = false := by simpa using e2
            simp only [List.lookup, e2'] at hb
            simp only [List.cons_append, List.lookup, e2']
            exact ih2 hb
      exact key ih
theorem zip_fst {ps : List Str} {us : List Value} (h : us.length = ps.length) : (ps.zip us).map (·.1) = ps := by
  rw [List.map_fst_zip]
  omega
section
variable {X : Cx} {pins : List (Addr × Obj)} {σ : L2.St} {H HZ : Hp} {s s1 : Shared}
theorem lamC_start {A : Around} {outer : List Env} {E : XK} {scope : Scope} {ps : List Str} {f c' : Addr} {h₁ : Heap} {tk : Nat} {us : List Value} {vs : List V} (I : Inv X pins σ H s) (L : LamP X.env.scope scope X.N ps) (e0 : Env0 X.prog X.w X.K X.mg X.base A outer s1 HZ) (hd : A.handled = none)
    (un : Un (frs X.stack) [] H HZ s.heap s1.heap) (r : Vals vs us) (hl : vs.length = ps.length) (hns : h₁.Ns s1.heap.objs.size fun y => (ps.zip us).reverse.lookup y) (kp : ∀ b o, s1.heap.get? b = some o → h₁.get? b = some o) :
    Inv (lamC X A outer s1 HZ E scope ps f c') [] (σ ++ vs.map some) HZ { s1 with heap := h₁, toks := tk } := by
  have hfree := L.has I.ok
  have cm : ∀ {y c}, (cloFrom X.env.cells scope.names []).lookup y = some c → X.env.cells.lookup y = some c := fun {y c} e => by
    rcases cloFrom_mem (PySem.mem_of_lookup e) with hm | ⟨h1, h2⟩
    · cases hm
    · obtain ⟨c1, hc⟩ := hfree _ h1 rfl
      have hc : X.env.cells.lookup y = some c1 := hc
      have e2 : c = c1 := by
        rw [h2, hc] <;> rfl
      rw [e2]
      exact hc
  have look : ∀ {y}, scope.names.lookup y = some .free → ∃ c, (cloFrom X.env.cells scope.names []).lookup y = some c := fun {y} hl => by
    have hy : (y, NameKind.free) ∈ scope.names := PySem.mem_of_lookup hl
    exact mem_lookup (cloFrom_has (cells := X.env.cells) (acc := []) hy)
  have cellK : ∀ {c : Addr} {v : Option Value}, H c = none → s.heap.IsCell c v → h₁.IsCell c v := fun {c v} n ⟨o, ho, hd⟩ => by
    obtain ⟨sl, q⟩ := un.any ho n (by simp)
    exact ⟨_, kp _ _ q, hd⟩
  have noA : ∀ b : Addr, b ∉ (lamC X A outer s1 HZ E scope ps f c').ex := fun b z => absurd (show b ∈ ([] : List Addr) from z) (by simp)
  refine ⟨⟨e0.mod, L.kind, rfl, rfl, Nat.le_refl _, fun y z c e1 e2 => I.ok.inj y z c (cm e1) (cm e2), fun y hy => ?_, fun y c z _ => ?_, fun _ => hd, Around.frames_deeper e0.frames, .inr ⟨rfl, rfl⟩, fun b z => absurd z (noA b), e0.bs, e0.bsz, fun b _ _ => noA b,
      fun b z => absurd z (noA b), e0.funs, e0.frf⟩,
    rfl, e0.bare, Un.kept kp, ⟨_, hns, fun i y v e1 e2 e3 => ?_⟩, fun y c e => ?_, e0.hok.fresh (Nat.le_refl _), fun y c e => ?_, fun q hq => absurd (show q ∈ ([] : List (Addr × Obj)) ++ [] from hq) (by simp), e0.hok.kept kp, ?_⟩
  · have hy : scope.names.lookup y = some .cell ∨ scope.names.lookup y = some .free := hy
    rcases hy with hy | hy
    · exact absurd rfl (L.own _ (PySem.mem_of_lookup hy)).1
    · exact look hy
  · have z : false = true := z
    cases z
  · have e3 : Vis scope y := e3
    have e1 : (X.N ++ ps)[i]? = some y := e1
    have hlen : σ.length = X.N.length := I.len
    by_cases hi : i < X.N.length
    · rw [List.getElem?_append_left hi] at e1
      rw [List.getElem?_append_left (by omega)] at e2
      have hyN : y ∈ X.N := List.mem_of_getElem? e1
      rcases e3 with k | k | k
      · exact absurd hyN (L.apart _ ((L.own _ (PySem.mem_of_lookup k)).2 rfl))
      · exact absurd rfl (L.own _ (PySem.mem_of_lookup k)).1
      · obtain ⟨m, hn, hl⟩ := I.loc
        have hvis : Vis X.env.scope y := (L.free _ (PySem.mem_of_lookup k) rfl).elim (fun k => .inr (.inl k)) (fun k => .inr (.inr k))
        obtain ⟨w', r, q⟩ := hl i y v e1 e2 hvis
        obtain ⟨c2, h2⟩ := look k
        refine ⟨w', r, .inr ⟨.inr k, c2, h2, ?_⟩⟩
        have c1 := cm h2
        rcases q with ⟨k', _⟩ | ⟨_, c3, e', z⟩
        · have k' : X.env.scope.names.lookup y = some .local := k'
          rcases L.free _ (PySem.mem_of_lookup k) rfl with k2 | k2 <;> rw [show X.env.scope.names.lookup y = _ from k2] at k' <;> cases k'
        · rw [c1] at e'
          cases e'
          exact cellK (I.freeC y _ c1) z
    · rw [List.getElem?_append_right (by omega)] at e1
      rw [List.getElem?_append_right (by omega), hlen, List.getElem?_map] at e2
      obtain ⟨x, hx, ex⟩ := Option.map_eq_some_iff.mp e2
      cases ex
      obtain ⟨u, hu, ru⟩ := r.get hx
      refine ⟨u, ru, .inl ⟨L.par y (List.mem_of_getElem? e1), ?_⟩⟩
      have hul : us.length = ps.length := by rw [← r.length, hl]
      exact rev_lookup (by rw [zip_fst hul]; exact L.nd) (zip_lookup L.nd e1 hu)
  · obtain ⟨w', z⟩ := I.cell y c (cm e)
    exact ⟨w', cellK (I.freeC y c (cm e)) z⟩
  · obtain ⟨v, o, ho, hd⟩ := I.cell y c (cm e)
    exact un.free c o ho (I.freeC y c (cm e)) (by simp)
  · show (σ ++ vs.map some).length = (X.N ++ ps).length
    rw [List.length_append, List.length_append, List.length_map, hl, I.len]
/-- calling a lambda of X, from X's present state on -/
theorem lam_clos {params : Arguments} {body : Expr} {scope : Scope} {k n : Nat} {f : Addr} {ps : List Str} {nd : Bool} {ds : List V} {tb : XK → TE} (I : Inv X pins σ H s) (L : LamP X.env.scope scope X.N ps) (hn : n + ds.length = ps.length) (hds : nd = false ∧ ds = [] ∨ nd = true ∧ ds = [.int 0])
    (hb0 : nd = false → ∀ (q : Str) (cl : List (Str × Addr)) (pm cv ctv : Value) (us : List Value), us.length = n → bindArgs (laD_fn "<lambda>" q params body scope cl pm cv ctv .none) ⟨us, []⟩ = pure (ps.zip us))
    (hb1 : nd = true → ∀ (q : Str) (cl : List (Str × Addr)) (pm cv ctv : Value) (T : Addr) (us its : List Value), us.length = n → its.length = 1 → ∃ k, bindArgs (laD_fn "<lambda>" q params body scope cl pm cv ctv (.ref T)) ⟨us, []⟩ = seqItems? (.ref T) >>= k ∧ k (some its.toArray) = pure (ps.zip (us ++ its)))
    (hbody : ∀ (A : Around) (outer : List Env) (s1 : Shared) (H1 : Hp) (E : XK) (c' : Addr), Room k (A.deeper (lamEnv X scope s1.heap.objs.size f c')) → Un (frs X.stack) [] H H1 s.heap s1.heap → (∀ x ∈ frs outer, x ∈ frs X.stack ∨ s.heap.get? x = none) → PE (lamC X A outer s1 H1 E scope ps f c') body (tb E)) :
    Clos X.prog X.w X.K X.mg X.base (k + 1) (frs X.stack) f (fun vs H1 Q E => vs.length = n ∧ LamAt H1 f (X.env.qual ++ "<lambda>") params body scope (cloFrom X.env.cells scope.names []) nd ∧ tb E (σ ++ (vs ++ ds).map some) H1 Q) s.heap H := by
  intro A outer s1 H1 us vs Q E hr e0 un hfo r h
  obtain ⟨hlen, ⟨c', dV, hf, hc, hdV⟩, ht⟩ := h
  obtain ⟨⟨pm, ctv, hof⟩, _, _⟩ := e0.hok f _ hf
  obtain ⟨⟨oc, vs', t, hoc, hdc, hvc⟩, _, _⟩ := e0.hok c' _ hc
  have hul : us.length = n := by rw [← r.length, hlen]
  have run : ∀ {us2 : List Value} {vs2 : List V} {s2 : Shared}, (s2 = s1) → Vals vs2 us2 → vs2.length = ps.length → tb E (σ ++ vs2.map some) H1 Q →
      wpAny (model X.prog X.w) A.in1 (newFunctionEnv scope mainGlobals (cloFrom X.env.cells scope.names []) (ps.zip us2) ((X.env.qual ++ "<lambda>") ++ ".<locals>.") (some f) (.ref c') none builtinsNs)
        (fun env s₂ => s₂.heap.NoLimit ∧ codeAny (model X.prog X.w) A (.expr body env) (CR (L2.CX X.prog X.w) outer X.prog X.w H1 s1 Q E) s₂) (fun e s' => CR (L2.CX X.prog X.w) outer X.prog X.w H1 s1 Q E (.error e) s') s2 := by
    intro us2 vs2 s2 es r2 hl2 ht2
    subst es
    have lim : s2.heap.NoLimit := e0.mod.nolimit.keeps fun b o e => (e0.bs b o e).1
    refine wpAny_newFunctionEnv (fun y hy => (L.own y hy).1) (fun y hy => L.par _ (List.of_mem_zip hy).1) (fun h₁ hns hsb => ⟨lim.fresh _ hsb, ?_⟩) L.kind
    show codeAny _ _ (.expr body (lamEnv X scope s2.heap.objs.size f c')) _ _
    have kp : ∀ b o, s2.heap.get? b = some o → h₁.get? b = some o := fun b o e => hsb.extBut b o (Nat.ne_of_lt (Heap.lt_size e)) (Heap.get?_push_of_some _ e)
    have J := lamC_start (E := E) (scope := scope) (f := f) (c' := c') (tk := s2.toks + (ps.zip us2).length) I L e0 hr.hd un r2 hl2 hns kp
    refine PySem.W.kla_codeExpr (wpAny_mono ((hbody A outer s2 H1 E c' (hr.deeper _) un hfo).run [] _ _ H1 Q J ht2) (fun v s' hq => ?_) fun e s' hq => hq)
    obtain ⟨w', H', J', rv, q⟩ := hq
    exact ⟨w', H', J'.os, J'.bare, J'.base, J'.hok, rv, q⟩
  rcases hdV with ⟨e1, e2⟩ | ⟨e1, T, e2, hT⟩
  · rcases hds with ⟨_, eds⟩ | ⟨e3, _⟩
    · subst eds
      rw [List.append_nil] at ht
      refine PySem.W.kla_callFunE hr.depth hof rfl L.co L.gen rfl ⟨c', oc, vs', t, rfl, hoc, hdc, hvc⟩ ?_
      rw [e2, hb0 e1 _ _ _ _ _ us hul]
      exact wpAny_pure (run rfl r (by simpa [hlen] using hn) ht)
    · rw [e1] at e3
      cases e3
  · rcases hds with ⟨e3, _⟩ | ⟨_, eds⟩
    · rw [e1] at e3
      cases e3
    · subst eds
      obtain ⟨_, its, ri, oT, hoT, hcT, m, hdT⟩ := e0.hok T _ hT
      cases ri with
      | @cons _ d0 _ dr rd rn =>
        cases rn
        refine PySem.W.kla_callFunE hr.depth hof rfl L.co L.gen rfl ⟨c', oc, vs', t, rfl, hoc, hdc, hvc⟩ ?_
        obtain ⟨kk, b1, b2⟩ := hb1 e1 (X.env.qual ++ "<lambda>") (cloFrom X.env.cells scope.names []) pm (.ref c') ctv T us [d0] hul rfl
        rw [e2, b1]
        refine wpAny_bind (wpAny_seqItems hoT hdT ?_)
        rw [b2]
        exact wpAny_pure (run rfl (r.append (.cons rd .nil)) (by rw [List.length_append, hlen]; exact hn) ht)
end
/-! ### a name that holds such a function, called -/
/-- a lambda's function object stands at f -/
def FnH (H : Hp) (f : Addr) : Prop := ∃ q params body scope cl c' dV, H f = some (LamO f q params body scope cl c' dV)
theorem LamAt.fnH {H : Hp} {f : Addr} {q : Str} {params : Arguments} {body : Expr} {scope : Scope} {cl : List (Str × Addr)} {nd : Bool} (L : LamAt H f q params body scope cl nd) : FnH H f := by
  obtain ⟨c', dV, h, _⟩ := L
  exact ⟨_, _, _, _, _, _, _, h⟩
theorem FnH.kp {H H' : Hp} {S : List Addr} {f : Addr} (F : FnH H f) (k : Kp S H H') (m : OffM H S) : FnH H' f := by
  obtain ⟨_, _, _, _, _, _, _, h⟩ := F
  exact ⟨_, _, _, _, _, _, _, k _ _ h (m.not h rfl)⟩
theorem FnH.kw {H H' : Hp} {S : List Addr} {f : Addr} (F : FnH H f) (k : Kw S H H') (m : OffM H S) : FnH H' f := by
  obtain ⟨_, _, _, _, _, _, _, h⟩ := F
  exact ⟨_, _, _, _, _, _, _, k _ _ h lamO_ne (m.not h rfl)⟩
theorem FnH.ext {H H' : Hp} {f : Addr} (F : FnH H f) (k : ExtN H H') : FnH H' f := by
  obtain ⟨_, _, _, _, _, _, _, h⟩ := F
  exact ⟨_, _, _, _, _, _, _, k _ _ h lamO_ne⟩
theorem fnAt_of {X : Cx} {pins : List (Addr × Obj)} {σ : L2.St} {H : Hp} {s : Shared} {f : Addr} (I : Inv X pins σ H s) (F : FnH H f) : PySem.W.FnAt f s.heap := by
  obtain ⟨_, _, _, _, _, _, _, h⟩ := F
  obtain ⟨⟨pm, ctv, e⟩, _, _⟩ := I.hok f _ h
  exact ⟨_, _, _, _, e⟩
/-- x(..), x's slot i -/
def tClos (i : Nat) (f : Addr) (sp : Sp) (E : L2.St → XK) (t : TA) : TE := fun σ H Q => σ[i]? = some (some (.ref f)) ∧ FnH H f ∧ t σ H fun vs H1 => FnH H1 f ∧ sp vs H1 Q (E σ)
section
variable {X : Cx} {k i : Nat} {f : Addr} {sp : Sp} {x : Str} {p pos : Pos} {e : Expr} {es : List Expr} {t : TA} {E : L2.St → XK}
theorem clos_run {pins : List (Addr × Obj)} {σ : L2.St} {H : Hp} {s : Shared} {Q : VK} {us : List Value} {vs : List V} (C : Clos X.prog X.w X.K X.mg X.base k (frs X.outer) f sp X.s_0.heap X.H_0) (hex : X.ex = []) (hr : Room k X.A) (hx : PassesAt (L2.CX X.prog X.w) X σ (E σ)) (I : Inv X pins σ H s) (r : Vals vs us) (h : sp vs H Q (E σ)) :
    wpAny (model X.prog X.w) X.A (call (.ref f) us) (EP X pins σ Q) X.xe s := by
  have un : Un (frs X.outer) [] X.H_0 H X.s_0.heap s.heap := by
    have b := I.base
    rw [hex] at b
    exact b
  have hfo : ∀ x ∈ frs X.stack, x ∈ frs X.outer ∨ X.s_0.heap.get? x = none := fun x hx => by
    rcases List.mem_cons.mp (I.stkSub x hx) with e | e
    · refine .inr ?_
      rw [e]
      exact Heap.get?_none_of_le I.ok.above
    · exact .inl e
  refine wpAny_call (codeAny_mono (C X.A X.stack s H us vs Q (E σ) hr I.env0 un hfo r h) fun r s' hq => ?_)
  cases r with
  | error e => exact hx pins H s e s' I hq
  | ok fl =>
    cases fl with
    | ret u => exact I.after hq
    | next => exact False.elim hq
    | brk => exact False.elim hq
    | cont => exact False.elim hq
theorem pe_clos (C : Clos X.prog X.w X.K X.mg X.base k (frs X.outer) f sp X.s_0.heap X.H_0) (hex : X.ex = []) (hr : Room k X.A) (hN : X.N[i]? = some x) (hv : Vis X.env.scope x) (ha : PA X (e :: es) t) (hx : ∀ σ, PassesAt (L2.CX X.prog X.w) X σ (E σ))
    (hdb : (x == ("__debug__" : Str)) = false := by decide) (hcd : (x == ("__classdict__" : Str)) = false := by decide)
    (he : starEach (e :: es) X.env = (false, eval e X.env) :: starEach es X.env := by rfl) (hpl : (backTo pos (starEach es X.env)).any (·.1) = false := by rfl) : PE X (.Call (.Name x p) (e :: es) [] pos) (tClos i f sp E t) := by
  refine ⟨fun pins s σ H Q I h => ?_⟩
  obtain ⟨hs, hf, ht⟩ := h
  refine wpAny_Call_Name_kw (thn ((pe_var (pos := p) hN hv hdb hcd).run pins s σ H (fun v H1 => v = .ref f ∧ H1 = H) I ⟨.ref f, hs, rfl, rfl⟩) fun u s1 ⟨v, H1, I1, r1, q1⟩ => ?_)
  obtain ⟨rfl, rfl⟩ := q1
  cases r1
  refine PySem.W.callWith_F (fnAt_of I1 hf) (thn (ha.run pos pins s1 σ _ _ I1 ht) fun us s2 ⟨vs, H2, I2, r, hf2, q⟩ => ⟨fnAt_of I2 hf2, ?_⟩) he hpl
  exact clos_run C hex hr (hx _) I2 r q
theorem pe_clos0 (C : Clos X.prog X.w X.K X.mg X.base k (frs X.outer) f sp X.s_0.heap X.H_0) (hex : X.ex = []) (hr : Room k X.A) (hN : X.N[i]? = some x) (hv : Vis X.env.scope x) (hx : ∀ σ, PassesAt (L2.CX X.prog X.w) X σ (E σ))
    (hdb : (x == ("__debug__" : Str)) = false := by decide) (hcd : (x == ("__classdict__" : Str)) = false := by decide) : PE X (.Call (.Name x p) [] [] pos) (tClos i f sp E tNil) := by
  refine ⟨fun pins s σ H Q I h => ?_⟩
  obtain ⟨hs, hf, _, ht⟩ := h
  refine wpAny_Call_Name_kw (thn ((pe_var (pos := p) hN hv hdb hcd).run pins s σ H (fun v H1 => v = .ref f ∧ H1 = H) I ⟨.ref f, hs, rfl, rfl⟩) fun u s1 ⟨v, H1, I1, r1, q1⟩ => ?_)
  obtain ⟨rfl, rfl⟩ := q1
  cases r1
  refine PySem.W.callWith_F0 (fnAt_of I1 hf) ?_
  exact clos_run C hex hr (hx _) I1 .nil ht
end
/-! ### a promise told of the very state -/
/-- frames, values, heap, abstract heap, what then -/
abbrev SpS := List Addr → Heap → List V → Hp → VK → XK → Prop
section
variable (P : Program) (w : World) (K : PySem.W.Frag) (mg : Str → Option Value) (base : Heap)
structure OkS (k : Nat) (f : Addr) (ps : List Str) (sp : SpS) : Prop where
  kp : PySem.W.keepIn K (.ref f) = true
  run : ∀ (A : Around) (outer : List Env) (s : Shared) (H : Hp) (args : Args) (us : List Value) (vs : List V) (Q : VK) (E : XK), Room k A → Env0 P w K mg base A outer s H → args = ⟨us, []⟩ ∨ args = ⟨[], ps.zip us⟩ → Vals vs us → sp (frs outer) s.heap vs H Q E →
    codeAny (model P w) A (.call (.ref f) args) (CR (L2.CX P w) outer P w H s Q E) s
end
section
variable {P : Program} {w : World} {K : PySem.W.Frag} {mg : Str → Option Value} {base : Heap}
theorem Tx.okS (T : Tx K mg) {i : Nat} {d : He.DefD} (hi : fnL[i]? = some d) {N ps : List Str} {k : Nat} {sp : SpS} (S : FnScope N ps d.scope) (h0 : d.dfl = []) (h1 : d.kwd = [])
    (hb : ∀ (kV doc pm : Value) (an : Option Addr) (cdv ct : Value) (us : List Value), us.length = ps.length → bindArgs (PySem.W.fnOf d.name d.qual d.params d.body d.scope .none kV doc pm an cdv ct) ⟨us, []⟩ = pure (ps.zip us) ∧
      bindArgs (PySem.W.fnOf d.name d.qual d.params d.body d.scope .none kV doc pm an cdv ct) ⟨[], ps.zip us⟩ = pure (ps.zip us))
    (len : ∀ fs h vs H Q E, sp fs h vs H Q E → vs.length = ps.length)
    (body : ∀ (cdv : Value) (A : Around) (outer : List Env) (s : Shared) (H : Hp) (vs : List V) (Q : VK) (E : XK), Room k (A.deeper (envOfC d.qual d.scope s.heap.objs.size (He.fAd K d.at_) cdv)) → sp (frs outer) s.heap vs H Q E →
      ∃ t, PSs (cxOf (L2.CX P w) P w K mg base N d.qual d.scope (He.fAd K d.at_) cdv A outer s H E) d.body t ∧ t { nx := fun _ H' => Q .non H', rt := Q } (start N vs) H) :
    OkS P w K mg base (k + 1) (He.fAd K d.at_) ps sp := by
  obtain ⟨fd, F⟩ := T.fn i d hi
  refine ⟨F.kp, fun A outer s H args us vs Q E hr e0 ha r h => ?_⟩
  obtain ⟨oc, od, dV, kV, doc, pm, an, cdv, ct, osl, rfl, lk, hcd, hD, hK⟩ := F.ex
  have e1 : d.dvs K = [] := by
    unfold He.DefD.dvs
    rw [h0]
    rfl
  have edV : dV = .none := by
    rcases hD with ⟨_, e⟩ | ⟨e, _⟩
    · exact e
    · exact absurd e1 e
  subst edV
  have hl := len _ _ _ _ _ _ h
  have hul : us.length = ps.length := by rw [← r.length, hl]
  have hbb := hb kV doc pm an cdv ct us hul
  refine run_ofS lk hcd S hr e0 ?_ r hl fun hr' => body cdv A outer s H vs Q E hr' h
  rcases ha with rfl | rfl
  · exact .of_eq hbb.1
  · exact .of_eq hbb.2
end
end K21

/-! with, an own manager; the body may let an exception out, __exit__ gives False -/
namespace K21
open PySem PySem.Spec PyProof.Rows L2 LamX
/-! ### a def called whatever exception is handled -/
def cxU (P : Program) (w : World) (K : PySem.W.Frag) (mg : Str → Option Value) (base : Heap) (N : List Str) (qual : Str) (scope : Scope) (f : Addr) (cd : Value) (A : Around) (outer : List Env) (s : Shared) (H : Hp) (E : XK) : Cx :=
  { cxOf (L2.CX P w) P w K mg base N qual scope f cd A outer s H E with calm := false }
theorem inv_startU {P : Program} {w : World} {K : PySem.W.Frag} {mg : Str → Option Value} {base : Heap} {N ps : List Str} {qual : Str} {scope : Scope} {f : Addr} {cd : Value} {A : Around} {outer : List Env} {s s1 : Shared} {H : Hp} {E : XK} {us : List Value} {vs : List V}
    (S : FnScope N ps scope) (e0 : Env0 P w K mg base A outer s H) (hl : vs.length = ps.length) (r : Vals vs us)
    (x : InCallC s s.heap.objs.size (bindL (envOfC qual scope s.heap.objs.size f cd).kindOf (ps.zip us) fun _ => none) (cellsFrom (s.heap.objs.size + 1) scope.names []) (bindC (envOfC qual scope s.heap.objs.size f cd).kindOf (ps.zip us) fun _ => none) s1) :
    Inv (cxU P w K mg base N qual scope f cd A outer s H E) [] (L2.start N vs) H s1 := by
  have hpl : ps.length ≤ N.length := by have := congrArg List.length S.pre; rw [List.length_take] at this; omega
  obtain ⟨h1, tk, rfl, hk⟩ := x.done
  have noA : ∀ b : Addr, b ∉ (cxU P w K mg base N qual scope f cd A outer s H E).ex := fun b z => absurd (show b ∈ ([] : List Addr) from z) (by simp)
  refine ⟨⟨e0.mod, S.kind, rfl, rfl, Nat.le_refl _, fun y z c h1 h2 => ?_, fun y hy => ?_, fun y c _ h => ?_, (fun z => Bool.noConfusion (show false = true from z)), Around.frames_deeper e0.frames, .inr ⟨rfl, rfl⟩, fun b z => absurd z (noA b), e0.bs, e0.bsz, fun b _ _ => noA b, fun b z => absurd z (noA b), e0.funs, e0.frf⟩,
    rfl, e0.bare, Un.kept hk, ⟨_, x.toInCall.ns, fun i y v h1 h2 h3 => ?_⟩, fun y c h => ⟨_, x.cell y c h⟩, e0.hok.fresh (Nat.le_refl _), fun y c h => ?_, fun p hp => absurd (show p ∈ ([] : List (Addr × Obj)) from hp) (by simp), e0.hok.kept hk, ?_⟩
  · exact name_of_addr x.apart (PySem.mem_of_lookup h1) (PySem.mem_of_lookup h2)
  · have hy : scope.names.lookup y = some .cell ∨ scope.names.lookup y = some .free := hy
    rcases hy with hy | hy
    · exact cell_has hy
    · exact absurd rfl (S.nofree _ (PySem.mem_of_lookup hy))
  · exact Nat.le_of_lt (x.above y c (PySem.mem_of_lookup h))
  · have hi : i < vs.length := by
      unfold L2.start at h2
      by_cases hi : i < vs.length
      · exact hi
      · rw [List.getElem?_append_right (by simpa using hi)] at h2
        rw [List.getElem?_replicate] at h2
        split at h2 <;> cases h2
    have ha : vs[i]? = some v := by
      unfold L2.start at h2
      rw [List.getElem?_append_left (by simpa using hi), List.getElem?_map] at h2
      cases e : vs[i]? with
      | none => rw [e] at h2; cases h2
      | some a => rw [e] at h2; cases h2; rfl
    obtain ⟨u, hu, rv⟩ := r.get ha
    have hp : ps[i]? = some y := by
      rw [← S.pre, List.getElem?_take_of_lt (by omega)]; exact h1
    have ndP : ps.Nodup := by rw [← S.pre]; exact S.nd.sublist (List.take_sublist _ _)
    refine ⟨u, rv, ?_⟩
    rcases S.par y (List.mem_of_getElem? hp) with k | k
    · exact .inl ⟨k, bindL_get ndP hp hu k⟩
    · obtain ⟨c, e⟩ := cell_has (n := s.heap.objs.size + 1) k
      refine .inr ⟨.inl k, c, e, ?_⟩
      have q := x.cell y c e
      rw [bindC_get ndP hp hu (by show scope.names.lookup y ≠ _; rw [k]; decide)] at q
      exact q
  · exact e0.hok.fresh (Nat.le_of_lt (x.above y c (PySem.mem_of_lookup h)))
  · unfold L2.start
    show _ = N.length
    rw [List.length_append, List.length_map, List.length_replicate]
    omega
section
variable (P : Program) (w : World) (K : PySem.W.Frag) (mg : Str → Option Value) (base : Heap)
structure OkU (k : Nat) (f : Addr) (sp : Sp) : Prop where
  kp : PySem.W.keepIn K (.ref f) = true
  run : ∀ (A : Around) (outer : List Env) (s : Shared) (H : Hp) (us : List Value) (vs : List V) (Q : VK) (E : XK), L2H.RoomH k A → Env0 P w K mg base A outer s H → Vals vs us → sp vs H Q E →
    codeAny (model P w) A (.call (.ref f) ⟨us, []⟩) (CR (L2.CX P w) outer P w H s Q E) s
end
section
variable {P : Program} {w : World} {K : PySem.W.Frag} {mg : Str → Option Value} {base : Heap}
theorem Tx.okU (T : Tx K mg) {i : Nat} {d : He.DefD} (hi : fnL[i]? = some d) {N ps : List Str} {k : Nat} {sp : Sp} (S : FnScope N ps d.scope) (h0 : d.dfl = []) (h1 : d.kwd = [])
    (hb : ∀ (kV doc pm : Value) (an : Option Addr) (cdv ct : Value) (us : List Value), us.length = ps.length → bindArgs (PySem.W.fnOf d.name d.qual d.params d.body d.scope .none kV doc pm an cdv ct) ⟨us, []⟩ = pure (ps.zip us))
    (len : ∀ vs H Q E, sp vs H Q E → vs.length = ps.length)
    (body : ∀ (cdv : Value) (A : Around) (outer : List Env) (s : Shared) (H : Hp) (vs : List V) (Q : VK) (E : XK), sp vs H Q E →
      ∃ t, PSs (cxU P w K mg base N d.qual d.scope (He.fAd K d.at_) cdv A outer s H E) d.body t ∧ t { nx := fun _ H' => Q .non H', rt := Q } (L2.start N vs) H) :
    OkU P w K mg base (k + 1) (He.fAd K d.at_) sp := by
  obtain ⟨fd, F⟩ := T.fn i d hi
  refine ⟨F.kp, fun A outer s H us vs Q E hr e0 r hsp => ?_⟩
  obtain ⟨oc, od, dV, kV, doc, pm, an, cdv, ct, osl, rfl, lk, hcd, hD, hK⟩ := F.ex
  have e1 : d.dvs K = [] := by
    unfold He.DefD.dvs
    rw [h0]
    rfl
  have edV : dV = .none := by
    rcases hD with ⟨_, e⟩ | ⟨e, _⟩
    · exact e
    · exact absurd e1 e
  subst edV
  have hl := len _ _ _ _ hsp
  have hul : us.length = ps.length := by rw [← r.length, hl]
  have KX : K.In s.heap := e0.mod.kin.keeps fun b o e => (e0.bs b o e).1
  have lim : s.heap.NoLimit := e0.mod.nolimit.keeps fun b o e => (e0.bs b o e).1
  have hkind : ∀ y ∈ ps.zip us, d.scope.names.lookup y.1 = some .local ∨ (d.scope.names.lookup y.1 = some .cell ∧ ((cellsFrom (s.heap.objs.size + 1) d.scope.names []).lookup y.1).isSome = true) := fun ⟨n, v⟩ hy => by
    rcases S.par n (List.of_mem_zip hy).1 with q | q
    · exact .inl q
    · exact .inr ⟨q, PySem.W.cellsFrom_some _ _ _ (.inl q)⟩
  have bt : BindsTo s (PySem.W.fnOf d.name d.qual d.params d.body d.scope .none kV doc pm an cdv ct) ⟨us, []⟩ (ps.zip us) := .of_eq (hb kV doc pm an cdv ct us hul)
  refine codeAny_call_function hr.depth (KX _ _ lk) rfl S.co S.gen rfl (PySem.W.codeRec_of KX hcd) (bt _ _ _ _ ?_)
  refine wpAny_newFunctionEnv_cells S.kind hkind fun env he s1 x => ?_
  subst he
  refine ⟨lim.keeps x.toInCall.keep, codeAny_func ?_⟩
  obtain ⟨t, ht, hq⟩ := body cdv A outer s H vs Q E hsp
  have I : Inv (cxU P w K mg base N d.qual d.scope (He.fAd K d.at_) cdv A outer s H E) [] (L2.start N vs) H s1 := inv_startU S e0 hl r x
  refine wpAny_mono (ht.run [] s1 (L2.start N vs) H _ I hq) (fun fl s' hs => ?_) fun e s' hs => hs
  have fin : ∀ {σ' : L2.St} {H' : Hp} {v : V} {u : Value}, Inv (cxU P w K mg base N d.qual d.scope (He.fAd K d.at_) cdv A outer s H E) [] σ' H' s' → L2.RelV v u → Q v H' → CE outer P w H s Q u s' :=
    fun {σ' H' v u} J rv q => ⟨v, H', J.os, J.bare, J.base, J.hok, rv, q⟩
  cases fl with
  | ret u =>
    obtain ⟨v, σ', H', J, rv, q⟩ := hs
    exact fin J rv q
  | next =>
    obtain ⟨σ', H', J, q⟩ := hs
    exact fin (v := V.non) (u := Value.none) J rfl q
  | brk =>
    obtain ⟨_, _, _, q⟩ := hs
    exact False.elim q
  | cont =>
    obtain ⟨_, _, _, q⟩ := hs
    exact False.elim q
/-! ### Trial.__exit__ -/
def spExit (CB' C : Addr) : Sp := fun vs H Q _ => ∃ t dt p dx n v c n2 v2 c2 x y z, vs = [.ref t, x, y, z] ∧ H t = some (.ins C dt (tF (.ref p) n v c)) ∧ H p = some (.ins CB' dx (bF n2 v2 c2)) ∧ t ≠ p ∧ ∀ (H' : Hp), Kp [p] H H' → H' p = some (.ins CB' dx (bF n v c)) → Q (.bl false) H'
theorem ok_exit (T : Tz K mg) : OkU P w K mg base 1 (He.fAd K d_Trial__exit.at_) (spExit (CB K) (CT K)) := by
  refine T.tx.okU (ps := ["self", "kind", "error", "trace"]) at_Trial__exit sc_Trial__exit rfl rfl (fun _ _ _ _ _ _ us hl => match us, hl with | [_, _, _, _], _ => rfl) (fun vs H Q E h => ?_) (fun cdv A outer s H vs Q E h => ?_)
  · obtain ⟨t, dt, p, dx, n, v, c, n2, v2, c2, x, y, z, rfl, _⟩ := h
    rfl
  · obtain ⟨t, dt, p, dx, n, v, c, n2, v2, c2, x, y, z, rfl, ht, hp, hne, q⟩ := h
    refine ⟨_, pss_cons (ps_fld (pe_fld (pv 0) rfl) (pe_fld (pv 0) rfl) rfl) (pss_cons (ps_fld (pe_fld (pv 0) rfl) (pe_fld (pv 0) rfl) rfl) (pss_cons (ps_fld (pe_fld (pv 0) rfl) (pe_fld (pv 0) rfl) rfl) (pss_one (ps_ret pe_bl)))), ?_⟩
    have ht' : t ∉ [p] := fun z => hne (List.mem_singleton.mp z)
    refine ⟨_, rfl, t, _, _, _, _, rfl, ht, T.tx.clT, T.tx.aT _ tN_, rfl, _, rfl, t, _, _, _, _, rfl, ht, T.tx.clT, T.tx.aT _ tB_, rfl, p, _, _, _, rfl, hp, T.tx.clB, T.tx.aB _ aNow, bF_len _ _ _, ?_⟩
    refine st1 fun H1 k1 o1 => ?_
    have t1 := k1 _ _ ht ht'
    refine ⟨_, rfl, t, _, _, _, _, rfl, t1, T.tx.clT, T.tx.aT _ tP_, rfl, _, rfl, t, _, _, _, _, rfl, t1, T.tx.clT, T.tx.aT _ tB_, rfl, p, _, _, _, rfl, o1, T.tx.clB, T.tx.aB _ aPast, by show 4 < 1000; decide, ?_⟩
    refine st1 fun H2 k2 o2 => ?_
    have t2 := k2 _ _ t1 ht'
    refine ⟨_, rfl, t, _, _, _, _, rfl, t2, T.tx.clT, T.tx.aT _ tC_, rfl, _, rfl, t, _, _, _, _, rfl, t2, T.tx.clT, T.tx.aT _ tB_, rfl, p, _, _, _, rfl, o2, T.tx.clB, T.tx.aB _ aComing, by show 4 < 1000; decide, ?_⟩
    refine st1 fun H3 k3 o3 => ?_
    exact q _ ((k1.trans k2).trans k3) o3
end
end K21

/-! with: the rule -/
namespace K21
open PySem PySem.Spec PyProof.Rows L2 LamX
/-- what is done with the body's exception -/
def WithErr (M : Model) (A : Around) (E : Value → Shared → Prop) (Q : Flow → Shared → Prop) (env : Env) (x fx : Addr) (e : Value) (s : Shared) : Prop :=
  wpAny M A (noteFrame e env) (fun _ s5 => wpAny M A (setFlight e none) (fun _ s6 => wpAny M A (typeOf e) (fun ty s7 => wpAny M A (tracebackOf e) (fun tb s8 =>
    wpAny M A (run (.call (.ref fx) ⟨[.ref x, ty, e, tb], []⟩) (some e)) (fun fl s9 => fl = .ret (.bool false) ∧ wpAny M A (passOn "with" e env : Sem Flow) Q E s9) E s8) E s7) E s6) E s5) E s
section
variable {prog : Program} {w : World} {A : Around} {E : Value → Shared → Prop} {s : Shared} {env : Env} {K : PySem.W.Frag} {x C fe fx : Addr} {ox : Obj} {od : Option Obj} {pos : Pos}
open PySem.W PySem.Calls in
theorem kw_coreX {b : Value → Sem Unit} {bdy : Sem Flow} {Q : Flow → Shared → Prop} (X : K.In s.heap) (I : InstAt s.heap x ox C od) (he : findIn K (.ref C) "__enter__" = some (some (.ref fe))) (hfe : isFn K (.ref fe) = true) (hx : findIn K (.ref C) "__exit__" = some (some (.ref fx))) (hfx : isFn K (.ref fx) = true)
    (h : wpAny (model prog w) A (call (.ref fe) [.ref x]) (fun v s₂ => wpAny (model prog w) A (b v) (fun _ s₃ => wpAny (model prog w) A bdy (fun f s₄ => wpAny (model prog w) A (call (.ref fx) [.ref x, .none, .none, .none]) (fun _ s₅ => Q f s₅) E s₄)
      (fun e s₄ => WithErr (model prog w) A E Q env x fx e s₄) s₃) (fun _ _ => False) s₂) E s) :
    wpAny (model prog w) A (withItem false pos env (pure (.ref x)) (some b) bdy) Q E s := by
  obtain ⟨cd, hcd, ae⟩ := kw_along he
  obtain ⟨cd', hcd', ax⟩ := kw_along hx
  cases hcd.symm.trans hcd'
  obtain ⟨hh, g, d, tt, os⟩ := s
  have L1 : Looks (model prog w) hh (specialOnItsLine (.ref x) "__enter__") (some (.ref fe), cd.mro) := kw_special X I hcd ae
  have L2 : Looks (model prog w) hh (specialOnItsLine (.ref x) "__exit__") (some (.ref fx), cd.mro) := kw_special X I hcd ax
  have L3 : Looks (model prog w) hh (bindSpecial (.ref fe) (.ref x)) (.ref fe, [.ref x]) := bind_fn X _ (beq_iff_eq.mp hfe)
  have L4 : Looks (model prog w) hh (bindSpecial (.ref fx) (.ref x)) (.ref fx, [.ref x]) := bind_fn X _ (beq_iff_eq.mp hfx)
  have L5 : Looks (model prog w) hh (aMethodOfAnotherBuiltinTypeStops (.ref fe) cd.mro) () := Looks.of_pure rfl
  have L6 : Looks (model prog w) hh (aMethodOfAnotherBuiltinTypeStops (.ref fx) cd.mro) () := Looks.of_pure rfl
  unfold withItem
  refine wpAny_bind (wpAny_pure ?_)
  refine wpAny_bind (wpAny_standAt ?_)
  simp only [Bool.false_eq_true, if_false]
  kw_lk
  refine wpAny_mono h (fun v s₂ h₂ => ?_) fun _ _ z => z
  kw_lk
  refine wpAny_attempt (kw_held ?_)
  show wpAny _ _ (b v >>= fun _ => bdy) _ _ _
  refine wpAny_bind (wpAny_mono h₂ (fun _ s₃ h₃ => wpAny_mono h₃ (fun f s₄ h₄ => ?_) fun e s₄ h₄ => ?_) fun _ _ z => z.elim)
  · kw_lk
    refine wpAny_mono h₄ (fun _ s₅ h₅ => ?_) fun _ _ z => z
    kw_lk
    exact h₅
  · unfold WithErr at h₄
    refine wpAny_bind (wpAny_mono h₄ (fun _ s5 h5 => ?_) fun _ _ z => z)
    refine wpAny_bind (wpAny_mono h5 (fun _ s6 h6 => ?_) fun _ _ z => z)
    refine wpAny_bind (wpAny_standAt ?_)
    refine wpAny_holding ?_
    refine wpAny_bind (wpAny_mono h6 (fun ty s7 h7 => ?_) fun _ _ z => z)
    refine wpAny_bind (wpAny_mono h7 (fun tb s8 h8 => ?_) fun _ _ z => z)
    unfold withItem.marked
    refine wpAny_bind (wpAny_bind (wpAny_mono h8 (fun fl s9 h9 => ?_) fun _ _ z => z))
    obtain ⟨rfl, h9⟩ := h9
    refine wpAny_pure ?_
    refine wpAny_bind (wpAny_pure ?_)
    refine wpAny_bind (wpAny_pure ?_)
    simp only [Bool.false_eq_true, if_false]
    exact h9
end
/-- what is wished of the body's exception: __exit__ gives False, then it goes on -/
def wWith (sp : Sp) (x : Addr) (Wout : WX) : WX := fun cls d σ H => ∃ C : Addr, cls = .ref C ∧ ∀ (a : Addr) (tb : V), sp [.ref x, .ref C, .ref a, tb] H (fun v H2 => v = .bl false ∧ Wout cls d σ H2) E0
section
variable {X : Cx} {sp : Sp} {Wout : WX} {k : Nat} {x fx : Addr}
theorem with_exc {pins : List (Addr × Obj)} {D : Ends} {u : Value} {s' : Shared} {xe : Value → Shared → Prop} (hs : X.stack = X.env :: X.outer) (hf : X.env.frame = some X.env.locals) (hex : X.ex = []) (ok : X.Ok) (tk : Takes X Wout) (hr : Room k X.A)
    (G : OkU X.prog X.w X.K X.mg X.base k fx sp) (xx : XE (X.tr (X.pn ++ pins) xe) (wWith sp x Wout) u s') : WithErr (model X.prog X.w) X.A X.xe (SP X pins D) X.env x fx u s' := by
  have hfr : X.A.frames = some (X.env :: X.outer) := by rw [ok.frames, hs]
  obtain ⟨a, B, sI, pins', σ', H', cls, d, rfl, J', nb, up, sky, na, os, ag, C, ec, hw⟩ := xx
  have J : Inv X pins σ' H' sI := J'.ofTry ok
  have sky' : Sky B (X.env :: X.outer) a (Zc cls d) X.env.locals s'.heap := by rw [← hs]; exact sky
  -- behind the note
  have fin : ∀ h1, HandSPX.HeldZ B (X.env :: X.outer) a (Zc cls d) X.env.locals h1 → s'.heap.UpToSlots h1 → wpAny (model X.prog X.w) X.A (setFlight (.ref a) none) (fun _ s6 => wpAny (model X.prog X.w) X.A (typeOf (.ref a)) (fun ty s7 => wpAny (model X.prog X.w) X.A (tracebackOf (.ref a)) (fun tb s8 =>
    wpAny (model X.prog X.w) X.A (run (.call (.ref fx) ⟨[.ref x, ty, .ref a, tb], []⟩) (some (.ref a))) (fun fl s9 => fl = .ret (.bool false) ∧ wpAny (model X.prog X.w) X.A (passOn "with" (.ref a) X.env : Sem Flow) (SP X pins D) X.xe s9) X.xe s8) X.xe s7) X.xe s6) X.xe { s' with heap := h1 } := fun h1 hh1 up1 => by
    refine HandSPX.landsZ hh1 fun h3 fl3 up3 => ?_
    have J3 : Inv X pins σ' H' { s' with heap := h3 } := J.landed nb fl3.1 ((up.trans up1).trans up3) os ag
    obtain ⟨k1, k2, k3, oe, vs, T, oT, ts, he3, hz, hd, hv1, hnT, hTe, hT, hdT, ht3⟩ := id fl3
    have nT : H' T = none := (J.inGround nb).gone hnT
    have notFr : ∀ (b : Addr) (o : Obj) (fv : Array Value), h3.get? b = some o → o.data = .fields fv → b ∉ frs (X.env :: X.outer) := fun b o fv e dd hm => by
      obtain ⟨_, o', e', hnf⟩ := k3.mem hm
      have eo : o = o' := Option.some.inj (e.symm.trans e')
      rw [← eo] at hnf
      exact hnf _ dd
    have locF : X.env.locals ∈ frs (X.env :: X.outer) := List.mem_filterMap.mpr ⟨X.env, List.mem_cons_self, hf⟩
    have fsF : ∀ b, b ∈ X.fs → b ∈ frs (X.env :: X.outer) := fun b hm => by
      obtain ⟨e, he, q⟩ := List.mem_filterMap.mp hm
      exact List.mem_filterMap.mpr ⟨e, List.mem_cons_of_mem _ he, q⟩
    have fa := notFr a oe vs he3 hd
    have fT := notFr T oT ts hT hdT
    have S3 : Inv (X.suite a ((a, oe) :: (T, oT) :: (X.pn ++ pins))) [] σ' H' { s' with heap := h3 } :=
      ⟨J3.ok.suite _ _, J3.os, J3.bare, J3.base, J3.loc, J3.cell, J3.free, J3.freeC, fun p hp => by
        rw [List.append_nil] at hp
        rcases List.mem_cons.mp hp with z | hp
        · rw [z]
          exact ⟨he3, na, fun z2 => fa (by rw [show a = X.env.locals from z2]; exact locF), fun z2 => fa (fsF _ z2), fun v z2 => by
            have z3 : oe.data = .cell v := z2
            rw [hd] at z3
            cases z3⟩
        · rcases List.mem_cons.mp hp with z | hp
          · rw [z]
            exact ⟨hT, nT, fun z2 => fT (by rw [show T = X.env.locals from z2]; exact locF), fun z2 => fT (fsF _ z2), fun v z2 => by
              have z3 : oT.data = .cell v := z2
              rw [hdT] at z3
              cases z3⟩
          · exact J3.pin p hp, J3.hok, J3.len⟩
    refine wpAny_typeOf_ref he3 ?_
    have goExit : ∀ (tbv : Value) (tb : V), L2.RelV tb tbv → wpAny (model X.prog X.w) X.A (run (.call (.ref fx) ⟨[.ref x, oe.cls, .ref a, tbv], []⟩) (some (.ref a))) (fun fl s9 => fl = .ret (.bool false) ∧ wpAny (model X.prog X.w) X.A (passOn "with" (.ref a) X.env : Sem Flow) (SP X pins D) X.xe s9) X.xe { s' with heap := h3 } := fun tbv tb rtb => by
      refine wpAny_run ?_
      have rh : L2H.RoomH k (X.suite a ((a, oe) :: (T, oT) :: (X.pn ++ pins))).A := ⟨hr.dp, hr.un⟩
      have ecls : oe.cls = .ref C := hz.1.trans ec
      rw [ecls]
      have rv : Vals [V.ref x, .ref C, .ref a, tb] [.ref x, .ref C, .ref a, tbv] := .cons rfl (.cons rfl (.cons rfl (.cons rtb .nil)))
      refine codeAny_mono (G.run (X.suite a ((a, oe) :: (T, oT) :: (X.pn ++ pins))).A X.stack { s' with heap := h3 } H' _ _ _ E0 rh S3.env0 rv (hw a tb)) fun r s6 hq => ?_
      cases r with
      | error e =>
        obtain ⟨_, _, _, _, _, _, _, _, _, _, _, _, z⟩ := hq
        exact z.elim
      | ok fl =>
        cases fl with
        | next => exact False.elim hq
        | brk => exact False.elim hq
        | cont => exact False.elim hq
        | ret w' =>
          obtain ⟨v6, H6, S6, r6, ev6, q6⟩ := S3.after hq
          subst ev6
          cases r6
          refine ⟨rfl, ?_⟩
          have J6 : Inv X pins σ' H6 s6 := ⟨ok, S6.os, S6.bare, S6.base, S6.loc, S6.cell, S6.free, S6.freeC, fun p hp => S6.pin p (List.mem_append_left _ (List.mem_cons_of_mem _ (List.mem_cons_of_mem _ hp))), S6.hok, S6.len⟩
          have pa := S6.pin (a, oe) (List.mem_append_left _ List.mem_cons_self)
          have pT := S6.pin (T, oT) (List.mem_append_left _ (List.mem_cons_of_mem _ List.mem_cons_self))
          have ga : s6.heap.get? a = some oe := pa.1
          have gT : s6.heap.get? T = some oT := pT.1
          have na6 : H6 a = none := pa.2.1
          have nT6 : H6 T = none := pT.2.1
          have far : ∀ b o, sI.heap.get? b = some o → b ≠ a ∧ b ≠ T := fun b o e => by
            by_cases hb : b ∈ frs X.stack
            · rw [hs] at hb
              exact ⟨fun z => fa (by rw [← z]; exact hb), fun z => fT (by rw [← z]; exact hb)⟩
            · have q := nb b o e hb
              exact ⟨fun z => by
                rw [z, k2] at q
                exact (nomatch q), fun z => by
                rw [z, hnT] at q
                cases q⟩
          have far0 : ∀ b o, X.s_0.heap.get? b = some o → b ≠ a ∧ b ≠ T := fun b o e => by
            obtain ⟨o', q⟩ := J.base.there b o e (by rw [hex]; simp)
            exact far b o' q
          have farP : ∀ p ∈ X.pn ++ pins, p.1 ≠ a ∧ p.1 ≠ T := fun p hp => far p.1 p.2 (J.pin p hp).1
          obtain ⟨G', g1, g2⟩ := restrict s6.heap fun b => !(decide (b = a) || decide (b = T))
          have gIn : ∀ b o, G'.get? b = some o → s6.heap.get? b = some o ∧ b ≠ a ∧ b ≠ T := fun b o e => by
            cases q : (!(decide (b = a) || decide (b = T))) with
            | false =>
              rw [g2 b q] at e
              cases e
            | true =>
              rw [g1 b q] at e
              simp only [Bool.not_eq_true', Bool.or_eq_false_iff, decide_eq_false_iff_not] at q
              exact ⟨e, q.1, q.2⟩
          have gOf : ∀ b o, b ≠ a → b ≠ T → s6.heap.get? b = some o → G'.get? b = some o := fun b o h1 h2 e => by
            rw [g1 b (by simp [h1, h2])]
            exact e
          have I6 : Inv X pins σ' H6 { s6 with heap := G' } := J6.less (fun b o e => (gIn b o e).1) gOf ⟨oe, vs, ga, hd⟩ ⟨oT, ts, gT, hdT⟩ na6 nT6 far0 farP
          have B6in : ∀ b o, (PySem.W.hideAll G' (frs X.stack)).get? b = some o → s6.heap.get? b = some o := fun b o e => (gIn b o (PySem.W.of_hideAll _ e)).1
          have Bno : ∀ b, (b = a ∨ b = T) → (PySem.W.hideAll G' (frs X.stack)).get? b = none := fun b hb => by
            cases q : (PySem.W.hideAll G' (frs X.stack)).get? b with
            | none => rfl
            | some o =>
              obtain ⟨_, n1, n2⟩ := gIn b o (PySem.W.of_hideAll _ q)
              rcases hb with z | z
              · exact absurd z n1
              · exact absurd z n2
          have fl6 : HandSPX.FlyingZ (PySem.W.hideAll G' (frs X.stack)) (X.env :: X.outer) a (Zc cls d) s6.heap := by
            refine ⟨B6in, Bno a (.inl rfl), ?_, oe, vs, T, oT, ts, ga, hz, hd, hv1, Bno T (.inr rfl), hTe, gT, hdT, ht3⟩
            have ff := funFrames_none (B := PySem.W.hideAll G' (frs X.stack)) J6.stack fun b hb => PySem.W.hideAll_none _ hb
            rw [← hs]
            exact ff
          unfold PySem.passOn
          refine wpAny_bind (wpAny_field ga hd hv1 ?_)
          rw [if_neg (show ¬ ((Value.ref T == Value.none) = true) from by simp)]
          have goOn : wpAny (model X.prog X.w) X.A (setFlight (.ref a) X.env.frame) (fun _ s7 => wpAny (model X.prog X.w) X.A (throw (.ref a) : Sem Flow) (SP X pins D) X.xe s7) X.xe s6 := by
            rw [hf]
            refine HandSPX.setFlight_upZ fl6 fun h7 hh7 up7 => wpAny_throw (tk _ _ ?_)
            refine ⟨a, PySem.W.hideAll G' (frs X.stack), { s6 with heap := G' }, pins, σ', H6, cls, d, rfl, I6, fun b o e hb => PySem.W.hideAll_get _ e hb, ?_, .inr (.inr (by rw [← hs] at hh7; exact hh7)), na6, rfl, J6.bare, q6⟩
            exact Heap.UpToSlots.trans (Heap.UpToSlots.of_keeps fun b o e => (gIn b o e).1) up7
          first
            | exact wpAny_bind (wpAny_pure (wpAny_bind goOn))
            | exact wpAny_bind goOn
    unfold tracebackOf
    refine wpAny_bind (wpAny_field he3 hd hv1 ?_)
    have hlt : 1 < ts.size := Nat.lt_trans (by decide) (Array.getElem?_eq_some_iff.mp ht3).1
    refine wpAny_bind (wpAny_field hT hdT (x := ts[1]) (by simp [hlt]) ?_)
    by_cases c1 : (ts[1] == Value.none) = true
    · rw [if_pos c1]
      first
        | exact wpAny_pure (goExit .none .non rfl)
        | exact wpAny_bind (wpAny_pure (goExit .none .non rfl))
    · rw [if_neg c1]
      first
        | exact wpAny_pure (goExit (.ref T) (.ref T) rfl)
        | exact wpAny_bind (wpAny_pure (goExit (.ref T) (.ref T) rfl))
        | exact wpAny_bind (wpAny_pure (wpAny_pure (goExit (.ref T) (.ref T) rfl)))
  show wpAny (model X.prog X.w) X.A (noteFrame (.ref a) X.env) _ _ _
  rcases sky' with ⟨hB, hn, hl, oe, vs, he0, hz, hd, hv1⟩ | fl | hh
  · exact HandSPX.look_newZ Zc.steady hfr hl hf he0 hB hn hd hv1 hz fin
  · exact HandSPX.looks_onZ Zc.steady hfr hf fl fin
  · exact HandSPX.againZ hf hh.2.2.2 (fin s'.heap hh (Heap.UpToSlots.refl _))
/-- what the written part says of a manager's class -/
structure Mgr (K : PySem.W.Frag) (C fe fx : Addr) : Prop where
  he : PySem.W.findIn K (.ref C) "__enter__" = some (some (.ref fe))
  hfe : PySem.W.isFn K (.ref fe) = true
  hx : PySem.W.findIn K (.ref C) "__exit__" = some (some (.ref fx))
  hfx : PySem.W.isFn K (.ref fx) = true
/-- with m as x: body -/
def tWith (C : Addr) (spE spX : Sp) (i : Nat) (te : TE) (tb : WX → TS) (Wout : WX) : TS := fun D σ H => te σ H fun m H1 => ∃ t dt fs, m = .ref t ∧ H1 t = some (.ins C dt fs) ∧
  spE [.ref t] H1 (fun v H2 => tb (wWith spX t Wout) { nx := fun σ4 H4 => spX [.ref t, .non, .non, .non] H4 (fun _ H5 => D.nx σ4 H5) E0, rt := fun _ _ => False } (σ.set i (some v)) H2) E0
theorem ps_with {C fe : Addr} {spE : Sp} {te : TE} {tb : WX → TS} {ctx : Expr} {i : Nat} {y : Str} {py pos : Pos} {body : List Stmt} (hs : X.stack = X.env :: X.outer) (hf : X.env.frame = some X.env.locals) (hex : X.ex = []) (tk : Takes X Wout) (hr : Room k X.A) (M : Mgr X.K C fe fx)
    (Ge : Ok X.prog X.w X.K X.mg X.base k fe ["self"] [] spE) (Gx : OkU X.prog X.w X.K X.mg X.base k fx sp) (hN : X.N.Nodup) (hi : X.N[i]? = some y) (hy : Loc X.env.scope y) (hyf : X.fn y = true ∨ X.env.scope.names.lookup y = some .local) (hctx : PE X ctx te)
    (hb : ∀ (W : WX) (pn : List (Addr × Obj)) (xe : Value → Shared → Prop), Takes (X.tr pn xe) W → PSs (X.tr pn xe) body (tb W)) :
    PS X (.With [⟨ctx, some (.Name y py)⟩] body pos) (tWith C spE sp i te tb Wout) := by
  refine ⟨fun pins s σ H D I h => ?_⟩
  have ok := I.ok
  refine PySem.W.kw_execN (thn (hctx.run pins s σ H _ I h) fun u s1 ⟨m, H1, I1, r1, t, dt, fs, em, ht, q⟩ => ?_)
  subst em
  obtain rfl : u = Value.ref t := r1
  obtain ⟨mA, O, r, wi, _, ho⟩ := ins_get I1.hok ht
  obtain ⟨od, J, _⟩ := O.look
  refine kw_coreX (b := assign (.Name y py) X.env) I1.kIn J M.he M.hfe M.hx M.hfx ?_
  obtain ⟨⟨fd, dv, F, vd, bd⟩, kp⟩ := Ge
  refine wpAny_mono (run_fn (us := [.ref t]) (vs := [.ref t]) F hr bd vd passL I1 (.cons rfl .nil) q) (fun v s2 hv => ?_) fun _ _ z => z
  obtain ⟨w2, H2, I2, r2, q2⟩ := hv
  refine wpAny_assign_Name (store_ok I2 hN hi hy r2 (fun s3 I3 => ?_) hyf)
  have I3' : Inv (X.tr (X.pn ++ pins) (fun e s₄ => WithErr (model X.prog X.w) X.A X.xe (SP X pins D) X.env t fx e s₄)) [] (σ.set i (some w2)) H2 s3 := I3.toTry _
  refine wpAny_mono ((hb (wWith sp t Wout) (X.pn ++ pins) (fun e s₄ => WithErr (model X.prog X.w) X.A X.xe (SP X pins D) X.env t fx e s₄) (fun u s' xx => with_exc hs hf hex ok tk hr Gx xx)).run [] s3 _ H2 _ I3' q2) (fun fl s4 h4 => ?_) fun _ _ z => z
  cases fl with
  | ret u =>
    obtain ⟨_, _, _, _, _, q⟩ := h4
    exact False.elim q
  | brk =>
    obtain ⟨_, _, _, q⟩ := h4
    exact False.elim q
  | cont =>
    obtain ⟨_, _, _, q⟩ := h4
    exact False.elim q
  | next =>
    obtain ⟨σ4, H4, I4, q4⟩ := h4
    have J4 : Inv X pins σ4 H4 s4 := I4.ofTry ok
    refine wpAny_call (codeAny_mono (Gx.run X.A X.stack s4 H4 [.ref t, .none, .none, .none] [.ref t, .non, .non, .non] _ E0 ⟨hr.dp, hr.un⟩ J4.env0 (.cons rfl (.cons rfl (.cons rfl (.cons rfl .nil)))) q4) fun r s5 hq => ?_)
    cases r with
    | error e =>
      obtain ⟨_, _, _, _, _, _, _, _, _, _, _, _, z⟩ := hq
      exact z.elim
    | ok fl =>
      cases fl with
      | next => exact False.elim hq
      | brk => exact False.elim hq
      | cont => exact False.elim hq
      | ret w' =>
        obtain ⟨v5, H5, I5, r5, q5⟩ := J4.after hq
        exact ⟨σ4, H5, I5, q5⟩
end
end K21

/-! under -/
namespace K21
open PySem PySem.Spec PyProof.Rows L2 LamX
theorem OkU.mono {P : Program} {w : World} {K : PySem.W.Frag} {mg : Str → Option Value} {base : Heap} {j k : Nat} {f : Addr} {sp : Sp} (G : OkU P w K mg base j f sp) (h : j ≤ k) : OkU P w K mg base k f sp := ⟨G.kp, fun A outer s H us vs Q E hr e0 r q => G.run A outer s H us vs Q E (hr.mono h) e0 r q⟩
structure Tw (K : PySem.W.Frag) (mg : Str → Option Value) : Prop where
  tz : Tz K mg
  mgr : Mgr K (CT K) (He.fAd K d_Trial__enter.at_) (He.fAd K d_Trial__exit.at_)
/-- the board at p (its dict dx) while a block of the trial t runs; what is put back: n v c -/
def InBlk (K : PySem.W.Frag) (t dt p dx : Addr) (n v c : V) (H : Hp) : Prop := H t = some (.ins (CT K) dt (tF (.ref p) n v c)) ∧ ∃ n2 v2 c2, H p = some (.ins (CB K) dx (bF n2 v2 c2))
/-- behind the block -/
def Back (K : PySem.W.Frag) (p dx : Addr) (n v c : V) (H : Hp) (R : Hp → Prop) : Prop := ∀ H', Kp [p] H H' → H' p = some (.ins (CB K) dx (bF n v c)) → R H'
section
variable (P : Program) (w : World) (K : PySem.W.Frag) (mg : Str → Option Value) (base : Heap)
def spUnder (k : Nat) : SpS := fun fs h vs H Q E => ∃ t dt p dx n v c n0 v0 c0 f sp, vs = [.ref t, .ref f] ∧ Clos P w K mg base k fs f sp h H ∧ FnH H f ∧ H t = some (.ins (CT K) dt (tF (.ref p) n0 v0 c0)) ∧ H p = some (.ins (CB K) dx (bF n v c)) ∧ t ≠ p ∧
  ∀ H2, Kp [t] H H2 → H2 t = some (.ins (CT K) dt (tF (.ref p) n v c)) → H2 p = some (.ins (CB K) dx (bF n v c)) →
    ∀ (Q1 : VK) (E1 : XK), (∀ r H3, InBlk K t dt p dx n v c H3 → Back K p dx n v c H3 (Q r) → Q1 r H3) → (∀ (C : Addr) d H3, InBlk K t dt p dx n v c H3 → Back K p dx n v c H3 (E (.ref C) d) → E1 (.ref C) d H3) → sp [.ref p] H2 Q1 E1
end
section
variable {P : Program} {w : World} {K : PySem.W.Frag} {mg : Str → Option Value} {base : Heap}
theorem ok_under (T : Tw K mg) {k : Nat} (hk : 1 ≤ k) : OkS P w K mg base (k + 1) (He.fAd K d_under.at_) ["manager", "deed"] (spUnder P w K mg base k) := by
  refine T.tz.tx.okS at_under sc_under rfl rfl (fun _ _ _ _ _ _ us hl => match us, hl with | [_, _], _ => ⟨rfl, rfl⟩) (fun fs h vs H Q E hh => ?_) (fun cdv A outer s H vs Q E hr hh => ?_)
  · obtain ⟨t, dt, p, dx, n, v, c, n0, v0, c0, f, sp, rfl, _⟩ := hh
    rfl
  · obtain ⟨t, dt, p, dx, n, v, c, n0, v0, c0, f, sp, rfl, C, F, ht, hp, hne, q⟩ := hh
    have nd := sc_under.nd
    refine ⟨_, pss_cons (ps_set (i := 2) nd rfl (.inl rfl) pe_non) (pss_cons
      (ps_with (k := k) (i := 3) (tb := fun W => tAsg (tClos 1 f sp (WE W) (tCons (tVar 3) tNil)) (gName 2)) (Wout := fun cls d _ H => E cls d H) rfl rfl rfl (takes_of rfl rfl rfl rfl) hr T.mgr ((ok_enter T.tz).mono hk) ((ok_exit T.tz).mono hk) nd rfl (.inl rfl) (.inl rfl) (pv 0)
        (fun W pn xe tk => pss_one (ps_set (i := 2) nd rfl (.inl rfl) (by exact (pe_clos (i := 1) C rfl hr rfl (.inl rfl) (by exact (pa_cons (pv 3) pa_nil)) (fun σ => passAt tk σ))))))
      (pss_one (ps_ret (pv 2)))), ?_⟩
    refine ⟨_, rfl, t, dt, _, rfl, ht, ?_⟩
    refine ⟨t, dt, p, dx, n, v, c, n0, v0, c0, rfl, ht, hp, hne, fun H2 k2 o2 => ?_⟩
    have hp2 : H2 p = some (.ins (CB K) dx (bF n v c)) := k2 _ _ hp (fun z => hne (List.mem_singleton.mp z).symm)
    have F2 : FnH H2 f := F.kp k2 (OffM.cons ht rfl OffM.nil)
    refine ⟨rfl, F2, _, rfl, F2, ?_⟩
    have exit : ∀ {R : Hp → Prop} {H3 : Hp} {x y z : V} {Q' : VK} {E' : XK}, InBlk K t dt p dx n v c H3 → Back K p dx n v c H3 R → (∀ H4, R H4 → Q' (.bl false) H4) → spExit (CB K) (CT K) [.ref t, x, y, z] H3 Q' E' :=
      fun {R H3 x y z Q' E'} ⟨i1, n2, v2, c2, i2⟩ b r => ⟨t, dt, p, dx, n, v, c, n2, v2, c2, x, y, z, rfl, i1, i2, hne, fun H4 k4 o4 => r H4 (b H4 k4 o4)⟩
    refine q H2 k2 o2 hp2 _ _ (fun r H3 i b => ?_) (fun Ce d H3 i b => ⟨Ce, rfl, fun a tb => exit i b fun H4 r => ⟨rfl, r⟩⟩)
    unfold gName
    dsimp only
    exact exit i b fun H4 r => ⟨_, rfl, r⟩
end
end K21

/-! try with two clauses of several classes each; what is caught is tracked from then on -/
namespace K21
open PySem PySem.Spec PyProof.Rows L2 LamX
/-- a caught exception of the class at C, its dict at dd -/
def ExcO (a C dd : Addr) : HO := .ext fun h => ∃ (o : Obj) (vs : Array Value), h.get? a = some o ∧ o.cls = .ref C ∧ o.dict = some dd ∧ o.data = .fields vs
theorem excO_ne {a C dd : Addr} (ps : Array Value) : ExcO a C dd ≠ .tbl ps := fun z => by
  unfold ExcO at z
  cases z
section
variable {X : Cx} {pins : List (Addr × Obj)} {σ : L2.St} {H : Hp} {s : Shared}
/-- an untracked record that was not there at the entry is tracked from now on -/
theorem inv_trk {a C dd : Addr} {oe : Obj} {vs : Array Value} (I : Inv X pins σ H s) (ha : s.heap.get? a = some oe) (hd : oe.data = .fields vs) (hc : oe.cls = .ref C) (hdd : oe.dict = some dd) (na : H a = none)
    (h0 : ∀ b o, X.s_0.heap.get? b = some o → b ≠ a) (hp : ∀ p ∈ X.pn ++ pins, p.1 ≠ a) : Inv X pins σ (upd H a (ExcO a C dd)) s := by
  have nL : X.env.locals ≠ a := fun z => by
    obtain ⟨m, ⟨o, es, ep, e, d, _⟩, _⟩ := I.loc
    rw [z, ha] at e
    cases e
    rw [hd] at d
    cases d
  have up : ∀ b u, H b = some u → upd H a (ExcO a C dd) b = some u := fun b u e => by
    rw [upd_ne (ne_of_none e na)]
    exact e
  refine ⟨I.ok, I.os, I.bare, ⟨I.base.keep, I.base.slot, fun b o e n hx => ?_, I.base.there, fun b xs e => up _ _ (I.base.tups b xs e), fun b o u e => up _ _ (I.base.frzs b o u e), fun b ps e => ?_⟩, I.loc, I.cell, ?_, fun x c e => ?_, fun p q => ?_, fun b u e => ?_, I.len⟩
  · rw [upd_ne (h0 b o e)]
    exact I.base.free b o e n hx
  · obtain ⟨m, q⟩ := I.base.tbls b ps e
    exact ⟨m, up _ _ q⟩
  · rw [upd_ne nL]
    exact I.free
  · rw [upd_ne]
    · exact I.freeC x c e
    · intro z
      obtain ⟨v, o, ho, hcell⟩ := I.cell x c e
      rw [z, ha] at ho
      cases ho
      rw [hd] at hcell
      cases hcell
  · obtain ⟨e1, e2, e3⟩ := I.pin p q
    exact ⟨e1, by rw [upd_ne (hp p q)]; exact e2, e3⟩
  · by_cases hb : b = a
    · subst hb
      rw [upd_same] at e
      cases e
      exact ⟨⟨oe, vs, ha, hc, hdd, hd⟩, ⟨oe, ha⟩, fun h1 h2 ⟨o, ws, z, r⟩ k => ⟨o, ws, k _ z, r⟩⟩
    · rw [upd_ne hb] at e
      exact (I.hok b u e).stay (fun c v _ q => q) (fun c q => up _ _ q) fun c xs q => up _ _ q
end
/-! ### a tuple of classes in an except clause -/
section
variable {M : Model} {K : PySem.W.Frag}
theorem for1 {A : Around} {E : Value → Shared → Prop} {F : Value → PUnit → Sem (ForInStep PUnit)} {P : Shared → Prop} : ∀ (l : List Value) (s : Shared) (Q : PUnit → Shared → Prop),
    (∀ c ∈ l, ∀ (s : Shared) (Q : ForInStep PUnit → Shared → Prop), P s → Q (.yield ⟨⟩) s → wpAny M A (F c ⟨⟩) Q E s) → P s → Q ⟨⟩ s → wpAny M A (forIn l PUnit.unit F) Q E s
  | [], s, Q, _, _, q => by
    rw [List.forIn_nil]
    exact wpAny_pure q
  | c :: l, s, Q, hF, p, q => by
    rw [List.forIn_cons]
    exact wpAny_bind (hF c List.mem_cons_self s _ p (for1 l s Q (fun c' hc' => hF c' (List.mem_cons_of_mem _ hc')) p q))
theorem for2 {A : Around} {E : Value → Shared → Prop} {F : Value → Option Bool × PUnit → Sem (ForInStep (Option Bool × PUnit))} {P : Shared → Prop} (g : Value → Bool) : ∀ (l : List Value) (s : Shared) (Q : Option Bool × PUnit → Shared → Prop),
    (∀ c ∈ l, ∀ (s : Shared) (Q : ForInStep (Option Bool × PUnit) → Shared → Prop), P s → (if g c = true then Q (.done (some true, ⟨⟩)) s else Q (.yield (none, ⟨⟩)) s) → wpAny M A (F c (none, ⟨⟩)) Q E s) → P s →
    (if l.any g = true then Q (some true, ⟨⟩) s else Q (none, ⟨⟩) s) → wpAny M A (forIn l ((none : Option Bool), PUnit.unit) F) Q E s
  | [], s, Q, _, _, q => by
    rw [List.forIn_nil]
    rw [List.any_nil, if_neg Bool.false_ne_true] at q
    exact wpAny_pure q
  | c :: l, s, Q, hF, p, q => by
    rw [List.forIn_cons]
    refine wpAny_bind (hF c List.mem_cons_self s _ p ?_)
    rw [List.any_cons] at q
    cases hg : g c with
    | true =>
      rw [hg, Bool.true_or, if_pos rfl] at q
      rw [if_pos rfl]
      exact wpAny_pure q
    | false =>
      rw [hg, Bool.false_or] at q
      rw [if_neg Bool.false_ne_true]
      exact for2 g l s Q (fun c' hc' => hF c' (List.mem_cons_of_mem _ hc')) p q
/-- what the test of one class says -/
def exB1 (K : PySem.W.Frag) (cls c : Value) : Bool := match PySem.W.exmOne K cls c with
  | some b => b
  | none => false
theorem exm_list {cls : Value} {tp e : Addr} {cs : List Value} {b : Bool} {h : Heap} (X : K.In h) (LT : PySem.W.Looks M h (typeOf (.ref e)) cls) (hp : h.get? tp = some { cls := .type "tuple", data := .seq cs.toArray }) (hx : ∀ c ∈ cs, PySem.W.exmOne K cls c = some (exB1 K cls c)) (hb : cs.any (exB1 K cls) = b) :
    PySem.W.Looks M h (excMatches (.ref e) (.ref tp)) b := by
  intro A Q E s k₀ q
  obtain ⟨hh, g, d, tk, os⟩ := s
  have k : ∀ b o, h.get? b = some o → hh.get? b = some o := k₀
  have LT0 : PySem.W.Looks M h (isInstance (.ref tp) (.type "tuple")) true := ((PySem.W.Looks.ld hp).andThen .now).andThen (PySem.W.Looks.of_pure isSubtype_tuple_tuple)
  have LT0 := LT0.keeps k
  have LT := LT.keeps k
  have hp' := k _ _ hp
  unfold excMatches
  refine wpAny_bind (LT0.at ?_)
  dsimp only
  rw [if_pos rfl]
  first
    | refine wpAny_bind (wpAny_seqItems hp' rfl ?_)
    | refine wpAny_bind (wpAny_bind (wpAny_seqItems hp' rfl (wpAny_pure ?_)))
  dsimp only [Option.getD_some, Option.getD]
  refine wpAny_bind (wpAny_pure ?_)
  refine wpAny_bind (for1 (P := fun s' => s' = ⟨hh, g, d, tk, os⟩) cs _ _ (fun c hc s' Q' es q' => ?_) rfl ?_)
  · subst es
    obtain ⟨e1, S1⟩ := PySem.W.exm_cls (M := M) X (hx c hc)
    have e1 := e1.keeps k
    refine wpAny_bind (e1.at ?_)
    simp only [Bool.not_true, Bool.false_eq_true, if_false]
    exact wpAny_pure q'
  · refine wpAny_bind (LT.at ?_)
    refine wpAny_bind (for2 (P := fun s' => s' = ⟨hh, g, d, tk, os⟩) (exB1 K cls) cs _ _ (fun c hc s' Q' es q' => ?_) rfl ?_)
    · subst es
      obtain ⟨e1, S1⟩ := PySem.W.exm_cls (M := M) X (hx c hc)
      have S1 := S1.keeps k
      refine wpAny_bind (S1.at ?_)
      cases hg : exB1 K cls c with
      | true =>
        rw [hg, if_pos rfl] at q'
        simp only [if_true]
        exact wpAny_pure q'
      | false =>
        rw [hg, if_neg Bool.false_ne_true] at q'
        simp only [Bool.false_eq_true, if_false]
        exact wpAny_pure q'
    · rw [hb]
      cases b with
      | true =>
        rw [if_pos rfl]
        exact wpAny_pure q
      | false =>
        rw [if_neg Bool.false_ne_true]
        exact wpAny_pure q
end
section
variable {X : Cx} {pins : List (Addr × Obj)} {σ : L2.St} {H : Hp} {s : Shared}
/-- names of classes, evaluated one after another: nothing changes -/
theorem names_run {A : Around} {E : Value → Shared → Prop} {pos : Pos} (hA : A = X.A) : ∀ {l : List (Str × Pos × Addr)} {Q : List Value → Shared → Prop}, (∀ y ∈ l, Gl X y.1 ∧ X.mg y.1 = some (.ref y.2.2) ∧ (y.1 == ("__debug__" : Str)) = false) → Inv X pins σ H s →
    Q (l.map fun y => .ref y.2.2) s → wpAny (model X.prog X.w) A (spliced (backTo pos (starEach (l.map fun y => Expr.Name y.1 y.2.1) X.env))) Q E s
  | [], Q, _, _, q => by
    show wpAny _ _ (spliced []) _ _ _
    exact Calls.spliced_nil q
  | y :: l, Q, h, I, q => by
    obtain ⟨h1, h2, h3⟩ := h y List.mem_cons_self
    subst hA
    have e : backTo pos (starEach ((y :: l).map fun y => Expr.Name y.1 y.2.1) X.env) = (false, eval (.Name y.1 y.2.1) X.env) :: backTo pos (starEach (l.map fun y => Expr.Name y.1 y.2.1) X.env) := by
      rw [List.map_cons, starEach]
      · rfl
      · intro _ _ z
        cases z
    rw [e]
    refine Calls.spliced_cons (ld_glob I h1 h2 ?_ h3)
    exact names_run rfl (fun z hz => h z (List.mem_cons_of_mem _ hz)) I q
end
/-! ### the rule -/
/-- the clauses' classes: all may be asked, the first clause or the second names the exception's -/
def HitT (K : PySem.W.Frag) (cs1 cs2 : List Addr) (C : Addr) : Prop := (∀ c ∈ cs1 ++ cs2, PySem.W.exmOne K (.ref C) (.ref c) = some (exB1 K (.ref C) (.ref c))) ∧ (cs1 ++ cs2).any (fun c => exB1 K (.ref C) (.ref c)) = true
/-- what the clauses wish: the exception at a tracked, in slot ic -/
def wSaid (K : PySem.W.Frag) (cs1 cs2 : List Addr) (ic ie : Nat) (D : Ends) : WX := fun cls d σ H => ∃ C dd : Addr, cls = .ref C ∧ d = some dd ∧ HitT K cs1 cs2 C ∧ ∀ a, H a = none → D.nx ((((σ.set ie (some (.ref a))).set ic (some (.ref a))).set ie none)) (upd H a (ExcO a C dd))
section
variable {X : Cx} {body : List Stmt} {n m : Str} {ic ie : Nat} {l1 l2 : List (Str × Pos × Addr)} {k1 k2 : Nat} {tp1 tp2 q1 q2 r1 r2 s1' s2' pos1 pos2 pos : Pos} {tb : WX → TS} {es1 es2 : List Expr}
/-- one clause's suite: m = n -/
theorem said_suite {a : Addr} {oe : Obj} {vs : Array Value} {pins : List (Addr × Obj)} {σ : L2.St} {H : Hp} {s : Shared} {pn pm ps : Pos} {R : Result → Shared → Prop} (ok : X.Ok) (hN : X.N.Nodup) (hi : X.N[ie]? = some n) (hln : X.env.kindOf n = some .local) (hm : X.N[ic]? = some m) (hlm : X.env.kindOf m = some .local)
    (hs : swapsWith (.Name n pn) (some (.Name m pm)) ps.line X.env = pure false) (hd : (n == ("__debug__" : Str)) = false) (hcd : (n == ("__classdict__" : Str)) = false) (S : Inv (X.suite a ((a, oe) :: (X.pn ++ pins))) [] σ H s) {E : Value → Shared → Prop}
    (h : ∀ s6, Inv (X.suite a ((a, oe) :: (X.pn ++ pins))) [] ((σ.set ie (some (.ref a))).set ic (some (.ref a))) H s6 → R (.ok .next) s6) :
    wpAny (model X.prog X.w) (X.suite a ((a, oe) :: (X.pn ++ pins))).A (storeName X.env n (.ref a)) (fun _ s₂ => wpAny (model X.prog X.w) (X.suite a ((a, oe) :: (X.pn ++ pins))).A (execs [.Assign [.Name m pm] (.Name n pn) ps] X.env) (fun f s₃ => R (.ok f) s₃) (fun _ _ => False) s₂) E s := by
  refine store_ok (X := X.suite a ((a, oe) :: (X.pn ++ pins))) (v := .ref a) S hN hi (.inl hln) rfl (fun s5 S5 => ?_) (.inr hln)
  have hlt : ie < σ.length := by
    rw [S.len]
    exact (List.getElem?_eq_some_iff.mp hi).1
  have P1 : PSs (X.suite a ((a, oe) :: (X.pn ++ pins))) [.Assign [.Name m pm] (.Name n pn) ps] (tAsg (tVar ie) (gName ic)) := pss_one (ps_set (i := ic) hN hm (.inl hlm) (pe_var (i := ie) hi (.inl hln) hd hcd) hs (.inr hlm))
  refine wpAny_mono (P1.run [] s5 _ H { nx := fun σ' H' => σ' = ((σ.set ie (some (.ref a))).set ic (some (.ref a))) ∧ H' = H, rt := fun _ _ => False } S5 ⟨.ref a, by rw [List.getElem?_set_self hlt], rfl, rfl⟩) (fun f s6 hsp => ?_) (fun _ _ z => False.elim z)
  cases f with
  | next =>
    obtain ⟨σ6, H6, S6, e1, e2⟩ := hsp
    subst e1 e2
    exact h s6 S6
  | brk =>
    obtain ⟨_, _, _, q⟩ := hsp
    exact False.elim q
  | cont =>
    obtain ⟨_, _, _, q⟩ := hsp
    exact False.elim q
  | ret u =>
    obtain ⟨_, _, _, _, _, q⟩ := hsp
    exact False.elim q
theorem fly_keeps {B : Heap} {l : List Env} {a : Addr} {Z : Obj → Prop} {h h' : Heap} (f : HandSPX.FlyingZ B l a Z h) (k : ∀ b o, h.get? b = some o → h'.get? b = some o) : HandSPX.FlyingZ B l a Z h' := by
  obtain ⟨k1, k2, k3, oe, vs, T, oT, ts, he, hz, hd, hv, hn, hne, hT, hdT, ht⟩ := f
  exact ⟨fun b o e => k _ _ (k1 b o e), k2, k3.of_keeps fun b o e _ => ⟨o, k _ _ e, rfl⟩, oe, vs, T, oT, ts, k _ _ he, hz, hd, hv, hn, hne, k _ _ hT, hdT, ht⟩
theorem ps_try2 (hs : X.stack = X.env :: X.outer) (hf : X.env.frame = some X.env.locals) (hex : X.ex = []) (hN : X.N.Nodup) (hi : X.N[ie]? = some n) (hln : X.env.kindOf n = some .local) (hm : X.N[ic]? = some m) (hlm : X.env.kindOf m = some .local)
    (hl1 : ∀ y ∈ l1, Gl X y.1 ∧ X.mg y.1 = some (.ref y.2.2) ∧ (y.1 == ("__debug__" : Str)) = false) (hl2 : ∀ y ∈ l2, Gl X y.1 ∧ X.mg y.1 = some (.ref y.2.2) ∧ (y.1 == ("__debug__" : Str)) = false) (hz1 : l1.length ≤ 1000) (hz2 : l2.length ≤ 1000)
    (he1 : es1 = l1.map fun y => Expr.Name y.1 y.2.1) (he2 : es2 = l2.map fun y => Expr.Name y.1 y.2.1)
    (hsw1 : swapsWith (.Name n q1) (some (.Name m r1)) s1'.line X.env = pure false := by rfl) (hsw2 : swapsWith (.Name n q2) (some (.Name m r2)) s2'.line X.env = pure false := by rfl) (hd : (n == ("__debug__" : Str)) = false := by decide) (hcd : (n == ("__classdict__" : Str)) = false := by decide)
    (hb : ∀ (W : WX) (pn : List (Addr × Obj)) (xe : Value → Shared → Prop), Takes (X.tr pn xe) W → PSs (X.tr pn xe) body (tb W)) :
    PS X (.Try body [.ExceptHandler (some (.Tuple es1 k1 tp1)) (some n) [.Assign [.Name m r1] (.Name n q1) s1'] pos1, .ExceptHandler (some (.Tuple es2 k2 tp2)) (some n) [.Assign [.Name m r2] (.Name n q2) s2'] pos2] [] [] pos)
      (fun D σ H => tb (wSaid X.K (l1.map (·.2.2)) (l2.map (·.2.2)) ic ie D) D σ H) := by
  subst he1 he2
  refine ⟨fun pins s σ H D I h => ?_⟩
  have ok := I.ok
  have hfr : X.A.frames = some (X.env :: X.outer) := by rw [ok.frames, hs]
  refine wpAny_Try_except ?_
  generalize hH1 : ExceptHandler.ExceptHandler (some (Expr.Tuple (l1.map fun y => Expr.Name y.1 y.2.1) k1 tp1)) (some n) [.Assign [.Name m r1] (.Name n q1) s1'] pos1 = H1'
  generalize hH2 : ExceptHandler.ExceptHandler (some (Expr.Tuple (l2.map fun y => Expr.Name y.1 y.2.1) k2 tp2)) (some n) [.Assign [.Name m r2] (.Name n q2) s2'] pos2 = H2'
  refine wpAny_mono ((hb (wSaid X.K (l1.map (·.2.2)) (l2.map (·.2.2)) ic ie D) (X.pn ++ pins) (fun e s₁ => wpAny (model X.prog X.w) X.A (noteFrame e X.env) (fun _ s₂ => wpAny (model X.prog X.w) X.A (setFlight e none) (fun _ s₃ =>
    wpAny (model X.prog X.w) X.A (handleBy e X.env [H1', H2']) (SP X pins D) X.xe s₃) X.xe s₂) X.xe s₁) (fun u s' xx => ?_)).run [] s σ H D (I.toTry _) h) (fun f s1 hsp => ?_) (fun e s1 he => he)
  · obtain ⟨a, B, sI, pins', σ', H', cls, d, rfl, J', nb, up, sky, na, os, ag, C, dd, ec, ed, ⟨hit1, hit2⟩, hw⟩ := xx
    have J : Inv X pins σ' H' sI := J'.ofTry ok
    have sky' : Sky B (X.env :: X.outer) a (Zc cls d) X.env.locals s'.heap := by rw [← hs]; exact sky
    show wpAny (model X.prog X.w) X.A (noteFrame (.ref a) X.env) _ _ _
    refine Sky.land Zc.steady hfr hf sky' fun h3 fl3 up3 => ?_
    obtain ⟨oe3, vs3, he3, hz3, hd3⟩ := fl3.there
    have notFr : ∀ {h : Heap} {o : Obj} {vs : Array Value}, h.FunFrames B (X.env :: X.outer) → h.get? a = some o → o.data = .fields vs → a ∉ frs (X.env :: X.outer) := fun {h o vs} ff e dd hm => by
      obtain ⟨_, o', e', hnf⟩ := ff.mem hm
      rw [e] at e'; cases e'
      exact hnf _ dd
    have nfr := notFr fl3.2.2.1 he3 hd3
    have nL : a ≠ X.env.locals := fun z => nfr (List.mem_filterMap.mpr ⟨X.env, List.mem_cons_self, by rw [hf, z]⟩)
    have nF : a ∉ X.fs := fun hm => by
      obtain ⟨e, he, q⟩ := List.mem_filterMap.mp hm
      exact nfr (List.mem_filterMap.mpr ⟨e, List.mem_cons_of_mem _ he, q⟩)
    have far : ∀ b o, sI.heap.get? b = some o → b ≠ a := fun b o e z => by
      by_cases hb : b ∈ frs X.stack
      · rw [hs] at hb
        exact nfr (by rw [← z]; exact hb)
      · have q := nb b o e hb
        rw [z, fl3.2.1] at q
        cases q
    have far0 : ∀ b o, X.s_0.heap.get? b = some o → b ≠ a := fun b o e => by
      obtain ⟨o', q⟩ := J.base.there b o e (by rw [hex]; simp)
      exact far b o' q
    have farP : ∀ p ∈ X.pn ++ pins, p.1 ≠ a := fun p hp => far p.1 p.2 (J.pin p hp).1
    -- a clause that names the class
    have suite : ∀ {h5 : Heap} {q r sp ps : Pos}, HandSPX.FlyingZ B (X.env :: X.outer) a (Zc cls d) h5 → s'.heap.UpToSlots h5 → swapsWith (.Name n q) (some (.Name m r)) sp.line X.env = pure false →
        codeAny (model X.prog X.w) (X.A.mark (some (.ref a))) (.handlers (.ref a) [.ExceptHandler none (some n) [.Assign [.Name m r] (.Name n q) sp] ps] X.env) (fun r s₂ => match r with
          | .ok f => wpAny (model X.prog X.w) X.A (do bindName X.env n .none; unbindBehindTheSuite X.env n ps) (fun _ s₃ => SP X pins D f s₃) X.xe s₂
          | .error x => cameBackBy (model X.prog X.w) X.A X.env X.xe x s₂) { s' with heap := h5 } := by
      intro h5 q r sp ps fl5 up5 hsw
      refine codeAny_handlers_suite_as ?_
      refine HandSPX.lands_againZ fl5 fun h4 fl4 up4 => ?_
      have J4 : Inv X pins σ' H' { s' with heap := h4 } := J.landed nb fl4.1 ((up.trans up5).trans up4) os ag
      obtain ⟨oe4, vs4, he4, hz4, hd4⟩ := fl4.there
      have S4 := J4.suite he4 hd4 na nL nF
      refine wpAny_mono (said_suite (vs := vs4) (R := fun r s₂ => match r with
          | .ok f => wpAny (model X.prog X.w) X.A (do bindName X.env n .none; unbindBehindTheSuite X.env n ps) (fun _ s₃ => SP X pins D f s₃) X.xe s₂
          | .error x => cameBackBy (model X.prog X.w) X.A X.env X.xe x s₂) (E := fun _ _ => False) ok hN hi hln hm hlm hsw hd hcd S4 (fun s6 S6 => ?_)) (fun _ s6 z => wpAny_mono z (fun _ _ y => y) fun _ _ y => y.elim) (fun _ _ z => z.elim)
      have K6 : Inv X ((a, oe4) :: pins) ((σ'.set ie (some (.ref a))).set ic (some (.ref a))) H' s6 := ⟨ok, S6.os, S6.bare, S6.base, S6.loc, S6.cell, S6.free, S6.freeC, fun p hp => S6.pin p (by
        rw [List.append_nil]
        rcases List.mem_append.mp hp with hp | hp
        · exact List.mem_cons_of_mem _ (List.mem_append_left _ hp)
        · rcases List.mem_cons.mp hp with hp | hp
          · rw [hp]
            exact List.mem_cons_self
          · exact List.mem_cons_of_mem _ (List.mem_append_right _ hp)), S6.hok, S6.len⟩
      refine gone_ok K6 hN hi hln fun s7 J7 => ?_
      have pa := J7.pin (a, oe4) (List.mem_append_right _ List.mem_cons_self)
      have J8 : Inv X pins ((((σ'.set ie (some (.ref a))).set ic (some (.ref a))).set ie none)) H' s7 := ⟨ok, J7.os, J7.bare, J7.base, J7.loc, J7.cell, J7.free, J7.freeC, fun p hp => J7.pin p (by
        rcases List.mem_append.mp hp with hp | hp
        · exact List.mem_append_left _ hp
        · exact List.mem_append_right _ (List.mem_cons_of_mem _ hp)), J7.hok, J7.len⟩
      exact ⟨_, _, inv_trk J8 pa.1 hd4 (hz4.1.trans ec) (hz4.2.trans ed) na far0 farP, hw a na⟩
    have test : ∀ {l : List (Str × Pos × Addr)} {k : Nat} {tp : Pos} {h5 : Heap} {Q : Bool → Shared → Prop} {E : Value → Shared → Prop}, HandSPX.FlyingZ B (X.env :: X.outer) a (Zc cls d) h5 → s'.heap.UpToSlots h5 →
        (∀ y ∈ l, Gl X y.1 ∧ X.mg y.1 = some (.ref y.2.2) ∧ (y.1 == ("__debug__" : Str)) = false) → l.length ≤ 1000 → (∀ c ∈ l.map (·.2.2), PySem.W.exmOne X.K (.ref C) (.ref c) = some (exB1 X.K (.ref C) (.ref c))) →
        (∀ h6, HandSPX.FlyingZ B (X.env :: X.outer) a (Zc cls d) h6 → s'.heap.UpToSlots h6 → Q ((l.map (·.2.2)).any fun c => exB1 X.K (.ref C) (.ref c)) { s' with heap := h6 }) →
        wpAny (model X.prog X.w) (X.A.mark (some (.ref a))) (eval (.Tuple (l.map fun y => Expr.Name y.1 y.2.1) k tp) X.env) (fun c s₁ => wpAny (model X.prog X.w) (X.A.mark (some (.ref a))) (excMatches (.ref a) c) Q E s₁) E { s' with heap := h5 } := by
      intro l k tp h5 Q E fl5 up5 hl hz hx q
      have J5 : Inv X pins σ' H' { s' with heap := h5 } := J.landed nb fl5.1 (up.trans up5) os ag
      obtain ⟨oe5, vs5, he5, hz5, hd5⟩ := fl5.there
      have S5 := J5.suite he5 hd5 na nL nF
      refine wpAny_Tuple (names_run (X := X.suite a ((a, oe5) :: (X.pn ++ pins))) rfl hl S5 ⟨by rw [List.length_map]; exact line_le hz, ?_⟩)
      have kp : ∀ q o, h5.get? q = some o → (h5.push { cls := .type "tuple", data := .seq (l.map fun y => Value.ref y.2.2).toArray }).get? q = some o := fun _ _ z => Heap.get?_push_of_some _ z
      have LT : PySem.W.Looks (model X.prog X.w) (h5.push { cls := .type "tuple", data := .seq (l.map fun y => Value.ref y.2.2).toArray }) (typeOf (.ref a)) (.ref C) := fun A Q E s k q => wpAny_typeOf_ref (k _ _ (kp _ _ he5)) (by rw [hz5.1, ec]; exact q)
      refine (exm_list (J5.kIn.keeps kp) LT (Heap.get?_push_size _ rfl) (fun c hc => ?_) rfl).here ?_
      · obtain ⟨y, hy, rfl⟩ := List.mem_map.mp hc
        exact hx _ (List.mem_map.mpr ⟨y, hy, rfl⟩)
      · have eq : ((l.map fun y => Value.ref y.2.2).any (exB1 X.K (.ref C))) = (l.map (·.2.2)).any fun c => exB1 X.K (.ref C) (.ref c) := by
          rw [List.any_map, List.any_map]
          rfl
        rw [eq]
        exact q _ (fly_keeps fl5 kp) (Heap.UpToSlots.trans up5 (Heap.UpToSlots.of_keeps kp))
    subst hH1 hH2
    refine wpAny_handleBy_cons (codeAny_handlers_test (test fl3 up3 hl1 hz1 (fun c hc => hit1 c (List.mem_append_left _ hc)) fun h6 fl6 up6 => ?_)) (by intro q; cases q)
    cases b1 : (l1.map (·.2.2)).any fun c => exB1 X.K (.ref C) (.ref c) with
    | true => exact suite fl6 up6 hsw1
    | false =>
      show wpAny _ X.A (handleBy (.ref a) X.env _) _ _ _
      refine wpAny_handleBy_cons (codeAny_handlers_test (test fl6 up6 hl2 hz2 (fun c hc => hit1 c (List.mem_append_right _ hc)) fun h7 fl7 up7 => ?_)) (by intro q; cases q)
      have b2 : (l2.map (·.2.2)).any (fun c => exB1 X.K (.ref C) (.ref c)) = true := by
        rw [List.any_append, b1, Bool.false_or] at hit2
        exact hit2
      rw [b2]
      exact suite fl7 up7 hsw2
  · cases f with
    | next =>
      obtain ⟨σ', H', J', q⟩ := hsp
      exact wpAny_execs_nil ⟨σ', H', J'.ofTry ok, q⟩
    | brk =>
      obtain ⟨σ', H', J', q⟩ := hsp
      exact ⟨σ', H', J'.ofTry ok, q⟩
    | cont =>
      obtain ⟨σ', H', J', q⟩ := hsp
      exact ⟨σ', H', J'.ofTry ok, q⟩
    | ret u =>
      obtain ⟨v, σ', H', J', r, q⟩ := hsp
      exact ⟨v, σ', H', J'.ofTry ok, r, q⟩
end
end K21

/-! isinstance and attributes of what is caught; _law_fault, _law_said -/
namespace PySem.W
open PySem PySem.Spec PySem.Calls PyProof.Rows
section
variable {prog : Program} {w : World} {A : Around} {E : Value → Shared → Prop} {s : Shared} {K : Frag} {x D : Addr} {ox : Obj} {od : Obj}
theorem kx_classE {Q : Option Value → Shared → Prop} (hga : findIn K (.ref D) "__getattribute__" = some (some (.builtin "BaseException.__getattribute__"))) (hgt : findIn K (.ref D) "__getattr__" = some none) (hsub : subIn K (.ref D) (.type "BaseException") = some true)
    (hdct : hasDictIn K D = true) (ha : findIn K (.ref D) "__class__" = some (some (.builtin "object.__class__")))
    (hn : specialIn K (.builtin "object.__class__") "__get__" = some (some (.builtin "getset_descriptor.__get__"))) (htk : takesIn K (.builtin "object.__class__") = some true) (hm : mroIn K D (.type "object") = some true)
    (X : K.In s.heap) (I : InstAt s.heap x ox D (some od)) (h : Q (some (.ref D)) { s with toks := s.toks + 1 }) : wpAny (model prog w) A (getAttr? (.ref x) "__class__") Q E s := by
  have hf : findObj K D (some od) "__class__" = some (.bind (.builtin "getset_descriptor.__get__") (.builtin "object.__class__")) := findObj_data (by obtain ⟨cd, hc, _⟩ := any_some hdct; rw [hc]; rfl) ha hn htk
  obtain ⟨hp, g, d, t, os⟩ := s
  have L0 := I.type (M := model prog w)
  have L1 := looks_findIn (M := model prog w) X hga
  have L2 := looks_findIn (M := model prog w) X hgt
  have L3 := looks_find (M := model prog w) X I hf
  have sub : Looks (model prog w) hp (isInstance (.ref x) (.type "BaseException")) true := L0.andThen (looks_subIn X hsub)
  have hx0 : (false && onTheHeap (Value.builtin "BaseException.__getattribute__")) = false := rfl
  have hx2 : (Value.builtin "BaseException.__getattribute__" == Value.builtin "object.__getattribute__") = false := by decide +kernel
  have hx1 : (onTheHeap (Value.ref D) && Value.builtin "BaseException.__getattribute__" == Value.builtin "object.__getattribute__") = false := by rw [hx2]; rfl
  unfold getAttr? getAttrBy? getAttrBy
  refine wpAny_bind (wpAny_mkText (wpAny_bind (wpAny_attempt (wpAny_holding (wpAny_bind (L0.at (wpAny_bind (L1.at ?_))))))))
  show wpAny _ _ (if (onTheHeap (Value.ref D) && Value.builtin "BaseException.__getattribute__" == Value.builtin "object.__getattribute__") = true then _ else _) _ _ _
  rw [hx1, if_neg Bool.false_ne_true]
  unfold getAttrByItsOwn hookBefore
  refine wpAny_bind ?_
  rw [if_pos (show onTheHeap (Value.ref D) = true from rfl)]
  refine L2.at ?_
  refine wpAny_bind (wpAny_attempt (wpAny_holding ?_))
  unfold callGetattribute
  rw [hx0, if_neg Bool.false_ne_true]
  unfold boundAndCalled
  rw [PySem.F.excAttr_ValueError.ga.bind (.ref x)]
  refine wpAny_bind (wpAny_pure ?_)
  show wpAny _ _ (call (.builtin "BaseException.__getattribute__") [.ref x, .str "__class__" t]) _ _ _
  refine wpAny_call (codeAny_call_builtin PySem.F.excAttr_ValueError.ga.plain PySem.F.entry_bexc_ga ?_)
  refine @check_slot (model prog w) _ _ ⟨hp, g, d, t + 1, os⟩ "BaseException.__getattribute__" "BaseException" "__getattribute__" (.ref x) [.str "__class__" t] [] _ (by decide +kernel) (by decide +kernel) sub (PySem.F.args_bexc_ga (.ref x) (.str "__class__" t)) ?_
  unfold Builtin.«object.__getattribute__»
  refine wpAny_bind (wpAny_of_eq (a := ((Value.ref x : Value), [Value.str "__class__" t])) (by first | rfl | (simp only [slotArgs]; rfl)) ?_)
  refine wpAny_bind (wpAny_pure (wpAny_bind (L0.at (wpAny_bind (L3.at ?_)))))
  show wpAny _ _ (holding [Value.builtin "object.__class__"] (call (.builtin "getset_descriptor.__get__") [.builtin "object.__class__", .ref x, .ref D]) >>= ret) _ _ _
  refine wpAny_bind (wpAny_holding (wpAny_call (class_get (s := ⟨hp, g, d, t + 1, os⟩) (ox := ox) (od := some od) X I hm ?_)))
  refine wpAny_pure ?_
  show wpAny _ _ (handedOut (.ref D)) _ _ _
  rw [handedOut_of (v := .ref D) rfl]
  first
    | exact wpAny_pure (wpAny_pure h)
    | exact wpAny_pure h
    | exact wpAny_pure (wpAny_bind (wpAny_pure (wpAny_pure h)))
theorem kx_kitx (hga : findIn K (.ref D) "__getattribute__" = some (some (.builtin "BaseException.__getattribute__"))) (hgt : findIn K (.ref D) "__getattr__" = some none) (hsub : subIn K (.ref D) (.type "BaseException") = some true) (hdct : hasDictIn K D = true) (ha : findIn K (.ref D) "__class__" = some (some (.builtin "object.__class__")))
    (hn : specialIn K (.builtin "object.__class__") "__get__" = some (some (.builtin "getset_descriptor.__get__"))) (htk : takesIn K (.builtin "object.__class__") = some true) (hm : mroIn K D (.type "object") = some true) :
    KitX K (.ref x) (.ref D) (fun h => InstAt h x ox D (some od)) where
  ty := fun _ _ _ I => I.type
  it := fun _ _ X _ => by
    obtain ⟨cdD, hcD, _⟩ := any_some hdct
    unfold clsIn at hcD
    split at hcD
    · rename_i c' d' cd' sl' ho
      intro A' Q' E' s' k q
      unfold isType loadHead
      exact wpAny_bind (wpAny_loadPart (k _ _ (X _ _ ho)) (wpAny_pure q))
    · cases hcD
  ne := fun h tp dd its n sl X htp => by
    obtain ⟨cdD, hcD, _⟩ := any_some hdct
    refine Bool.eq_false_iff.mpr fun q => ?_
    have e : D = tp := Value.ref.inj (beq_iff_eq.mp q)
    subst e
    unfold clsIn at hcD
    split at hcD
    · rename_i c' d' cd' sl' ho
      have z := (X _ _ ho).symm.trans htp
      cases z
    · cases hcD
  ca := fun X I k => kx_classE hga hgt hsub hdct ha hn htk hm X I k
end
end PySem.W
namespace K21
open PySem PySem.Spec PyProof.Rows L2 LamX
/-- isinstance(e, D), e a caught exception -/
def rIsX (K : PySem.W.Frag) : List V → Hp → VK → Prop := fun xs H Q => ∃ (a C dd : Addr) (fs : List (Str × V)) (D : Addr) (b : Bool), xs = [.ref a, .ref D] ∧ H a = some (ExcO a C dd) ∧ H dd = some (.xd fs) ∧ ExcC K C ∧ PySem.W.kitOne K (.ref C) (.ref D) = some b ∧ Q (.bl b) H
theorem exc_inst {X : Cx} {pins : List (Addr × Obj)} {σ : L2.St} {H : Hp} {s : Shared} {a C dd : Addr} {fs : List (Str × V)} (I : Inv X pins σ H s) (ha : H a = some (ExcO a C dd)) (hd : H dd = some (.xd fs)) :
    ∃ (ox od : Obj) (mA : Str → Option Value), PySem.W.InstAt s.heap a ox C (some od) ∧ (∀ name, PySem.W.lookIn name od = some (mA name)) ∧ ∀ f, RelO (fs.lookup f) (mA f) := by
  obtain ⟨⟨ox, vs, e1, e2, e3, e4⟩, _, _⟩ := I.hok a _ ha
  have hx : ObjOk X.prog X.w H s.heap dd (.xd fs) := I.hok dd _ hd
  obtain ⟨mA, hns, hr⟩ := hx
  obtain ⟨od, ho, hl⟩ := lookIn_ns hns
  exact ⟨ox, od, mA, ⟨e1, e2, by unfold PySem.W.notCls; rw [e4] <;> rfl, by rw [e3]; exact ho⟩, hl, hr⟩
theorem call_isX {X : Cx} : CallR X (.builtin "isinstance") (rIsX X.K) := by
  intro pins s σ H xs us Q I r h
  obtain ⟨a, C, dd, fs, D, b, rfl, ha, hd, c, e, q⟩ := h
  obtain ⟨ox, od, mA, J, _, _⟩ := exc_inst I ha hd
  obtain ⟨u1, u2, rfl, r1, r2⟩ := vals2 r
  cases (show u1 = Value.ref a from r1)
  cases (show u2 = Value.ref D from r2)
  exact PySem.W.kia_one (PySem.W.kx_kitx c.hg c.hk c.hs c.hd c.ha c.hn c.ht c.hm) I.kIn J e (fun z => nomatch z) fun tk => ⟨.bl b, H, I.tok tk, rfl, q⟩
/-- e.f, e a caught exception -/
def tExcF (K : PySem.W.Frag) (f : Str) (te : TE) : TE := fun σ H Q => te σ H fun x H1 => ∃ (a C dd : Addr) (fs : List (Str × V)) (v : V), x = .ref a ∧ H1 a = some (ExcO a C dd) ∧ H1 dd = some (.xd fs) ∧ ExcC K C ∧ PySem.W.findIn K (.ref C) f = some none ∧ fs.lookup f = some v ∧ Q v H1
theorem pe_excF {X : Cx} {e : Expr} {te : TE} {f : Str} {pos : Pos} (he : PE X e te) (hb : attributeBase e f X.env (eval e X.env) = eval e X.env := by rfl) : PE X (.Attribute e f pos) (tExcF X.K f te) := by
  refine ⟨fun pins s σ H Q I h => ?_⟩
  refine attr_of hb (thn (he.run pins s σ H _ I h) fun u s1 ⟨x, H1, I1, rx, a, C, dd, fs, v, ex, ha, hd, c, nf, l, q⟩ => ?_)
  subst ex
  obtain rfl : u = Value.ref a := rx
  obtain ⟨ox, od, mA, J, hl, hr⟩ := exc_inst I1 ha hd
  obtain ⟨u, hu, ru⟩ := RelO.some_of (v := v) (o := mA f) (by rw [← l]; exact hr f)
  exact HandSPX.exc_get I1.kIn J c.hg c.hk c.hs (PySem.W.findObj_own c.hd nf rfl (by rw [hl, hu])) (handed_of ru) ⟨v, H1, I1.tok _, ru, q⟩
theorem pe_never {X : Cx} {e : Expr} : PE X e (fun _ _ _ => False) := ⟨fun _ _ _ _ _ _ h => h.elim⟩
/-- what isinstance and the except clauses say of BadNumber (r) and NothingLeft (not r) -/
structure Fk (K : PySem.W.Frag) (C : Addr) (r : Bool) : Prop where
  ec : ExcC K C
  k1 : PySem.W.kitOne K (.ref C) (.ref (He.ga K "BadReading")) = some false
  k2 : PySem.W.kitOne K (.ref C) (.ref (He.ga K "BadHabits")) = some false
  k3 : PySem.W.kitOne K (.ref C) (.ref (He.ga K "BadPromise")) = some false
  k4 : PySem.W.kitOne K (.ref C) (.ref (He.ga K "BadWays")) = some false
  k5 : PySem.W.kitOne K (.ref C) (.ref (He.ga K "BadSize")) = some false
  k6 : PySem.W.kitOne K (.ref C) (.ref (He.ga K "BadNumber")) = some r
  k7 : PySem.W.kitOne K (.ref C) (.ref (He.ga K "BadWeaving")) = some false
  k8 : PySem.W.kitOne K (.ref C) (.ref (He.ga K "BadPaper")) = some false
  k9 : PySem.W.kitOne K (.ref C) (.ref (He.ga K "BadText")) = some false
  ka : PySem.W.kitOne K (.ref C) (.ref (He.ga K "TooGreat")) = some false
  kb : PySem.W.kitOne K (.ref C) (.ref (He.ga K "NothingLeft")) = some (!r)
def wordR : Bool → Str
  | true => "number"
  | false => "left"
def fieldR : Bool → Str
  | true => "given"
  | false => "many"
def clsR (K : PySem.W.Frag) : Bool → Addr
  | true => CN K
  | false => CL K
structure Tv (K : PySem.W.Frag) (mg : Str → Option Value) : Prop where
  tw : Tw K mg
  fk : ∀ r, Fk K (clsR K r) r
theorem Tv.nF {K : PySem.W.Frag} {mg : Str → Option Value} (T : Tv K mg) : ∀ r, PySem.W.findIn K (.ref (clsR K r)) (fieldR r) = some none
  | true => T.tw.tz.bn.nF
  | false => T.tw.tz.nl.nF
section
variable {P : Program} {w : World} {K : PySem.W.Frag} {mg : Str → Option Value} {base : Heap}
/-- the fault's words -/
def spFault (K : PySem.W.Frag) : Sp := fun vs H Q _ => ∃ a dd r x, vs = [.ref a] ∧ H a = some (ExcO a (clsR K r) dd) ∧ H dd = some (.xd [(fieldR r, x)]) ∧ ∀ H' p, Same H H' → H' p = some (.tup [.str (wordR r), x]) → Q (.ref p) H'
theorem ok_fault (T : Tv K mg) : Ok P w K mg base 1 (He.fAd K d_law_fault.at_) ["_law_error"] [] (spFault K) := by
  refine T.tw.tz.tx.ok at_law_fault sc_law_fault rfl rfl (fun _ _ _ _ _ _ us hl => match us, hl with | [_], _ => rfl) (fun vs H Q E h => ?_) (fun cdv A outer s H vs Q E hr h => ?_)
  · obtain ⟨a, dd, r, x, rfl, _⟩ := h
    rfl
  · obtain ⟨a, dd, r, x, rfl, ha, hd, q⟩ := h
    have nd := sc_law_fault.nd
    have X := T.tw.tz.tx
    have k := T.fk r
    have isI : ∀ (c : Str) {pos p1 p2 p3 : Pos}, c ∈ gloL ++ gloM → ((defScope s_law_fault).names.lookup c = some .globalImplicit) → (c == ("__debug__" : Str)) = false → PE (cxOf (L2.CX P w) P w K mg base N_law_fault d_law_fault.qual d_law_fault.scope (He.fAd K d_law_fault.at_) cdv A outer s H E)
        (.Call (.Name "isinstance" p1) [.Name "_law_error" p2, .Name c p3] [] pos) (tCB (rIsX K) (tCons (tVar 0) (tCons (tC (.ref (He.ga K c))) tNil))) := fun c {pos p1 p2 p3} hc hs hdb =>
      pe_callB call_isX (by rfl) (X.mfre "isinstance") PyProof.Rows.boot_isinstance (pa_cons (pv 0) (pa_cons (pe_glob (v := .ref (He.ga K c)) hs (X.glo c hc) rfl hdb) pa_nil))
    have two : ∀ {a b : V}, [a, b].length ≤ sizeLine := fun {a b} => by show 2 ≤ sizeLine; decide
    refine ⟨_, pss_cons (ps_set (i := 1) nd rfl (.inl rfl) (pe_lst (pa_cons (pe_tup (pa_cons pe_str (pa_cons (isI "BadReading" (by decide +kernel) rfl rfl) pa_nil))) (pa_cons (pe_tup (pa_cons pe_str (pa_cons (isI "BadHabits" (by decide +kernel) rfl rfl) pa_nil))) pa_nil))))
      (pss_cons (ps_set (i := 1) nd rfl (.inl rfl) (pe_op op_cat (pv 1) (pe_lst (pa_cons (pe_tup (pa_cons pe_str (pa_cons (isI "BadPromise" (by decide +kernel) rfl rfl) pa_nil))) (pa_cons (pe_tup (pa_cons pe_str (pa_cons (isI "BadWays" (by decide +kernel) rfl rfl) pa_nil))) pa_nil)))))
      (pss_cons (ps_set (i := 1) nd rfl (.inl rfl) (pe_op op_cat (pv 1) (pe_lst (pa_cons (pe_tup (pa_cons pe_str (pa_cons (isI "BadSize" (by decide +kernel) rfl rfl) pa_nil))) (pa_cons (pe_tup (pa_cons pe_str (pa_cons (isI "BadNumber" (by decide +kernel) rfl rfl) pa_nil))) pa_nil)))))
      (pss_cons (ps_setLc (i := 2) (own := [("_law_word", 3), ("_law_is_so", 4)]) (g := gTup K 2 (gCons (gName 3) (gCons (gName 4) gNil))) (te := tTup (tCons (tVar 3) (tCons (tExcF K "given" (tVar 0)) tNil))) rfl nd rfl rfl rfl (pi_list (pv 1)) (blkOk_by (N := N_law_fault) (sc := defScope s_law_fault) (by decide +kernel))
        (fun _ _ _ _ _ => pg_tup (n := 2) rfl (pgs_cons (pg_name (i := 3) nd rfl (Or.inl rfl)) (pgs_cons (pg_name (i := 4) nd rfl (Or.inl rfl)) pgs_nil))) (fun _ _ _ _ _ => pts_one (pt_val (pv 4))) (fun _ _ _ _ _ => pe_tup (pa_cons (pv 3) (pa_cons (pe_excF (pv 0)) pa_nil))))
      (pss_cons (ps_if (pt_val (isI "BadWeaving" (by decide +kernel) rfl rfl)) pss_never pss_nil)
      (pss_cons (ps_if (pt_val (isI "BadPaper" (by decide +kernel) rfl rfl)) pss_never pss_nil)
      (pss_cons (ps_if (pt_val (isI "BadText" (by decide +kernel) rfl rfl)) pss_never pss_nil)
      (pss_cons (ps_if (pt_val (isI "TooGreat" (by decide +kernel) rfl rfl)) pss_never pss_nil)
      (pss_cons (ps_if (pt_val (isI "NothingLeft" (by decide +kernel) rfl rfl)) (pss_one (ps_expr (pe_bm PySem.F.plainAttrs_list PySem.F.slot_list_append PySem.F.type_list_append mt_append (pv 2) (pa_cons (pe_tup (pa_cons pe_str (pa_cons (pe_excF (pv 0)) pa_nil))) pa_nil)))) pss_nil)
      (pss_one (ps_ret (pe_ifExp (pt_cmpR op_eq (pe_callB call_len_seq (by rfl) (X.mfre "len") PySem.boot_len (pa_cons (pv 2) pa_nil)) pe_int (nomark _)) (pe_ix ix_list (pv 2) pe_int (fun _ _ => rfl)) pe_never))))))))))), ?_⟩
    have hsz : ∀ {n : Nat}, n ≤ 1000 → n ≤ sizeLine := fun {n} h => line_le h
    refine ⟨_, rfl, a, _, dd, _, _, false, rfl, ha, hd, k.ec, k.k1, two, fun t0 e0 => ?_⟩
    have s1 := sN (H := H) (a := t0) (o := (.tup [.str "reading", .bl false])) e0
    have h1 : upd H t0 (.tup [.str "reading", .bl false]) t0 = some (.tup [.str "reading", .bl false]) := upd_same
    revert s1 h1
    generalize upd H t0 (.tup [.str "reading", .bl false]) = H1
    intro s1 h1
    have SH1 := s1
    refine ⟨_, rfl, a, _, dd, _, _, false, rfl, (SH1 _ _ ha), (SH1 _ _ hd), k.ec, k.k2, two, fun t1 e1 => ?_⟩
    have s2 := sN (H := H1) (a := t1) (o := (.tup [.str "habits", .bl false])) e1
    have h2 : upd H1 t1 (.tup [.str "habits", .bl false]) t1 = some (.tup [.str "habits", .bl false]) := upd_same
    revert s2 h2
    generalize upd H1 t1 (.tup [.str "habits", .bl false]) = H2
    intro s2 h2
    have SH2 := SH1.trans s2
    refine ⟨two, fun l0 f0 => ?_⟩
    have s3 := sN (H := H2) (a := l0) (o := (.lst [.ref t0, .ref t1])) f0
    have h3 : upd H2 l0 (.lst [.ref t0, .ref t1]) l0 = some (.lst [.ref t0, .ref t1]) := upd_same
    revert s3 h3
    generalize upd H2 l0 (.lst [.ref t0, .ref t1]) = H3
    intro s3 h3
    have SH3 := SH2.trans s3
    refine ⟨_, rfl, _, rfl, a, _, dd, _, _, false, rfl, (SH3 _ _ ha), (SH3 _ _ hd), k.ec, k.k3, two, fun t2 e2 => ?_⟩
    have s4 := sN (H := H3) (a := t2) (o := (.tup [.str "promise", .bl false])) e2
    have h4 : upd H3 t2 (.tup [.str "promise", .bl false]) t2 = some (.tup [.str "promise", .bl false]) := upd_same
    revert s4 h4
    generalize upd H3 t2 (.tup [.str "promise", .bl false]) = H4
    intro s4 h4
    have SH4 := SH3.trans s4
    refine ⟨_, rfl, a, _, dd, _, _, false, rfl, (SH4 _ _ ha), (SH4 _ _ hd), k.ec, k.k4, two, fun t3 e3 => ?_⟩
    have s5 := sN (H := H4) (a := t3) (o := (.tup [.str "ways", .bl false])) e3
    have h5 : upd H4 t3 (.tup [.str "ways", .bl false]) t3 = some (.tup [.str "ways", .bl false]) := upd_same
    revert s5 h5
    generalize upd H4 t3 (.tup [.str "ways", .bl false]) = H5
    intro s5 h5
    have SH5 := SH4.trans s5
    refine ⟨two, fun l1 f1 => ?_⟩
    have s6 := sN (H := H5) (a := l1) (o := (.lst [.ref t2, .ref t3])) f1
    have h6 : upd H5 l1 (.lst [.ref t2, .ref t3]) l1 = some (.lst [.ref t2, .ref t3]) := upd_same
    revert s6 h6
    generalize upd H5 l1 (.lst [.ref t2, .ref t3]) = H6
    intro s6 h6
    have SH6 := SH5.trans s6
    refine ⟨l0, l1, _, _, rfl, rfl, (((s4.trans s5).trans s6) _ _ h3), h6, by show 4 ≤ sizeLine; decide, fun m1 g1 => ?_⟩
    have s7 := sN (H := H6) (a := m1) (o := (.lst ([.ref t0, .ref t1] ++ [.ref t2, .ref t3]))) g1
    have h7 : upd H6 m1 (.lst ([.ref t0, .ref t1] ++ [.ref t2, .ref t3])) m1 = some (.lst ([.ref t0, .ref t1] ++ [.ref t2, .ref t3])) := upd_same
    revert s7 h7
    generalize upd H6 m1 (.lst ([.ref t0, .ref t1] ++ [.ref t2, .ref t3])) = H7
    intro s7 h7
    have SH7 := SH6.trans s7
    refine ⟨_, rfl, _, rfl, a, _, dd, _, _, false, rfl, (SH7 _ _ ha), (SH7 _ _ hd), k.ec, k.k5, two, fun t4 e4 => ?_⟩
    have s8 := sN (H := H7) (a := t4) (o := (.tup [.str "size", .bl false])) e4
    have h8 : upd H7 t4 (.tup [.str "size", .bl false]) t4 = some (.tup [.str "size", .bl false]) := upd_same
    revert s8 h8
    generalize upd H7 t4 (.tup [.str "size", .bl false]) = H8
    intro s8 h8
    have SH8 := SH7.trans s8
    refine ⟨_, rfl, a, _, dd, _, _, r, rfl, (SH8 _ _ ha), (SH8 _ _ hd), k.ec, k.k6, two, fun t5 e5 => ?_⟩
    have s9 := sN (H := H8) (a := t5) (o := (.tup [.str "number", .bl r])) e5
    have h9 : upd H8 t5 (.tup [.str "number", .bl r]) t5 = some (.tup [.str "number", .bl r]) := upd_same
    revert s9 h9
    generalize upd H8 t5 (.tup [.str "number", .bl r]) = H9
    intro s9 h9
    have SH9 := SH8.trans s9
    refine ⟨two, fun l2 f2 => ?_⟩
    have s10 := sN (H := H9) (a := l2) (o := (.lst [.ref t4, .ref t5])) f2
    have h10 : upd H9 l2 (.lst [.ref t4, .ref t5]) l2 = some (.lst [.ref t4, .ref t5]) := upd_same
    revert s10 h10
    generalize upd H9 l2 (.lst [.ref t4, .ref t5]) = H10
    intro s10 h10
    have SH10 := SH9.trans s10
    refine ⟨m1, l2, _, _, rfl, rfl, (((s8.trans s9).trans s10) _ _ h7), h10, by show 6 ≤ sizeLine; decide, fun m2 g2 => ?_⟩
    have s11 := sN (H := H10) (a := m2) (o := (.lst ([.ref t0, .ref t1] ++ [.ref t2, .ref t3] ++ [.ref t4, .ref t5]))) g2
    have h11 : upd H10 m2 (.lst ([.ref t0, .ref t1] ++ [.ref t2, .ref t3] ++ [.ref t4, .ref t5])) m2 = some (.lst ([.ref t0, .ref t1] ++ [.ref t2, .ref t3] ++ [.ref t4, .ref t5])) := upd_same
    revert s11 h11
    generalize upd H10 m2 (.lst ([.ref t0, .ref t1] ++ [.ref t2, .ref t3] ++ [.ref t4, .ref t5])) = H11
    intro s11 h11
    have SH11 := SH10.trans s11
    have z0 : H11 t0 = some (.tup [.str "reading", .bl false]) := (((((((((s2.trans s3).trans s4).trans s5).trans s6).trans s7).trans s8).trans s9).trans s10).trans s11) _ _ h1
    have z1 : H11 t1 = some (.tup [.str "habits", .bl false]) := ((((((((s3.trans s4).trans s5).trans s6).trans s7).trans s8).trans s9).trans s10).trans s11) _ _ h2
    have z2 : H11 t2 = some (.tup [.str "promise", .bl false]) := ((((((s5.trans s6).trans s7).trans s8).trans s9).trans s10).trans s11) _ _ h4
    have z3 : H11 t3 = some (.tup [.str "ways", .bl false]) := (((((s6.trans s7).trans s8).trans s9).trans s10).trans s11) _ _ h5
    have z4 : H11 t4 = some (.tup [.str "size", .bl false]) := ((s9.trans s10).trans s11) _ _ h8
    have z5 : H11 t5 = some (.tup [.str "number", .bl r]) := (s10.trans s11) _ _ h9
    have h11' : H11 m2 = some (.lst [.ref t0, .ref t1, .ref t2, .ref t3, .ref t4, .ref t5]) := h11
    refine ⟨_, rfl, m2, rfl, ⟨_, SqL.of h11'⟩, fun D hD => ?_⟩
    refine lc_it (walk_list (K := K) (a := m2) (xs := [.ref t0, .ref t1, .ref t2, .ref t3, .ref t4, .ref t5])) (fun i H12 => Same H11 H12 ∧ (i ≤ 5 ∨ r = false → H12 D = some (.lst [])) ∧ (i = 6 → r = true → ∃ p, H12 D = some (.lst [.ref p]) ∧ H12 p = some (.tup [.str "number", x])))
      ⟨sN hD, fun _ => upd_same, fun z => absurd z (by decide)⟩ (fun i H12 _ ⟨s12, _⟩ => SqL.of (s12 _ _ h11')) (fun i y H12 H13 hi ⟨s12, c0, c1⟩ hy => ?_) (fun H12 ⟨s12, c0, c1⟩ => ?_)
    · obtain ⟨rfl, hx⟩ := hy
      have key : ∃ t w b, y = V.ref t ∧ H13 t = some (.tup [.str w, .bl b]) ∧ (i = 5 ∧ b = r ∧ w = "number" ∨ i < 5 ∧ b = false) := by
        have h6 : i = 0 ∨ i = 1 ∨ i = 2 ∨ i = 3 ∨ i = 4 ∨ i = 5 := by
          have : i < 6 := hi
          omega
        rcases h6 with rfl | rfl | rfl | rfl | rfl | rfl
        · cases hx
          exact ⟨t0, _, _, rfl, s12 _ _ z0, .inr ⟨by decide, rfl⟩⟩
        · cases hx
          exact ⟨t1, _, _, rfl, s12 _ _ z1, .inr ⟨by decide, rfl⟩⟩
        · cases hx
          exact ⟨t2, _, _, rfl, s12 _ _ z2, .inr ⟨by decide, rfl⟩⟩
        · cases hx
          exact ⟨t3, _, _, rfl, s12 _ _ z3, .inr ⟨by decide, rfl⟩⟩
        · cases hx
          exact ⟨t4, _, _, rfl, s12 _ _ z4, .inr ⟨by decide, rfl⟩⟩
        · cases hx
          exact ⟨t5, _, _, rfl, s12 _ _ z5, .inl ⟨rfl, rfl, rfl⟩⟩
      obtain ⟨t, wd, b, rfl, ht, hb⟩ := key
      refine ⟨t, _, rfl, SqT.of ht, rfl, _, _, rfl, _, _, rfl, rfl, rfl, ?_⟩
      refine ⟨_, rfl, b, rfl, ?_⟩
      have hi6 : i < 6 := hi
      have e13 := c0 (.inl (by omega))
      rcases hb with ⟨rfl, rfl, rfl⟩ | ⟨hlt, rfl⟩
      · cases b with
        | false =>
          refine iteF ⟨s12, fun _ => e13, fun _ z => by cases z⟩
        | true =>
          refine iteT ⟨_, rfl, _, rfl, a, _, dd, _, x, rfl, s12 _ _ (SH11 _ _ ha), s12 _ _ (SH11 _ _ hd), k.ec, T.nF true, rfl, two, fun p hp => ?_⟩
          have sp := sN (o := .tup [.str "number", x]) hp
          have hpD : D ≠ p := ne_of_none e13 hp
          refine ⟨_, by rw [upd_ne hpD]; exact e13, by decide, fun b o z => ?_, fun z => ?_, fun _ _ => ⟨p, upd_same, by rw [upd_ne (Ne.symm hpD)]; exact upd_same⟩⟩
          · have hbD : b ≠ D := ne_of_none z hD
            rw [upd_ne hbD]
            exact sp _ _ (s12 _ _ z)
          · rcases z with z | z
            · exact absurd z (by decide)
            · cases z
      · exact iteF ⟨s12, fun _ => e13, fun z => by omega⟩
    · have S12 := SH11.trans s12
      refine ⟨_, rfl, a, _, dd, _, _, false, rfl, S12 _ _ ha, S12 _ _ hd, k.ec, k.k7, false, rfl, iteF ?_⟩
      refine ⟨_, rfl, a, _, dd, _, _, false, rfl, S12 _ _ ha, S12 _ _ hd, k.ec, k.k8, false, rfl, iteF ?_⟩
      refine ⟨_, rfl, a, _, dd, _, _, false, rfl, S12 _ _ ha, S12 _ _ hd, k.ec, k.k9, false, rfl, iteF ?_⟩
      refine ⟨_, rfl, a, _, dd, _, _, false, rfl, S12 _ _ ha, S12 _ _ hd, k.ec, k.ka, false, rfl, iteF ?_⟩
      refine ⟨_, rfl, a, _, dd, _, _, _, rfl, S12 _ _ ha, S12 _ _ hd, k.ec, k.kb, _, rfl, ?_⟩
      cases r with
      | true =>
        obtain ⟨p, e12, hp⟩ := c1 rfl rfl
        refine iteF ⟨_, rfl, D, _, rfl, .inl (SqL.of e12), rfl, _, rfl, ifE ?_⟩
        exact ⟨_, rfl, D, _, 0, _, rfl, rfl, SqL.of e12, rfl, q _ p S12 hp⟩
      | false =>
        have e12 := c0 (.inr rfl)
        refine iteT ⟨_, rfl, ?_, _, rfl, a, _, dd, _, x, rfl, S12 _ _ ha, S12 _ _ hd, k.ec, T.nF false, rfl, two, fun p hp => ?_⟩
        · exact .inl ⟨rfl, _, SqL.of e12⟩
        · have hpD : D ≠ p := ne_of_none e12 hp
          have sp := sN (o := .tup [.str "left", x]) hp
          refine ⟨D, [], _, rfl, rfl, sp _ _ e12, by decide, ?_⟩
          have eD : upd (upd H12 p (.tup [.str "left", x])) D (.lst ([] ++ [.ref p])) D = some (.lst [.ref p]) := upd_same
          refine ⟨_, rfl, D, _, rfl, .inl (SqL.of eD), rfl, _, rfl, ifE ?_⟩
          refine ⟨_, rfl, D, _, 0, _, rfl, rfl, SqL.of eD, rfl, q _ p (fun b o z => ?_) ?_⟩
          · have hbD : b ≠ D := ne_of_none (SH11 _ _ z) hD
            rw [upd_ne hbD]
            exact sp _ _ (S12 _ _ z)
          · rw [upd_ne (Ne.symm hpD)]
            exact upd_same
end
end K21

/-! _law_said; calls with a lambda -/
namespace K21
open PySem PySem.Spec PyProof.Rows L2 LamX
def caught1 : List Str := ["BadReading", "BadHabits", "BadPromise", "BadWays", "BadWeaving", "BadPaper", "BadSize", "BadNumber", "BadText"]
def caught2 : List Str := ["TooGreat", "NothingLeft"]
structure Tu (K : PySem.W.Frag) (mg : Str → Option Value) : Prop where
  tv : Tv K mg
  hit : ∀ r, HitT K (caught1.map (He.ga K)) (caught2.map (He.ga K)) (clsR K r)
section
variable (P : Program) (w : World) (K : PySem.W.Frag) (mg : Str → Option Value) (base : Heap)
def spSaid (k : Nat) : SpS := fun fs h vs H Q E => ∃ f sp, vs = [.ref f] ∧ Clos P w K mg base k fs f sp h H ∧ FnH H f ∧
  ∀ H0, Same H H0 → ∀ (Q1 : VK) (E1 : XK), (∀ r H1, (∀ H2 p, Same H1 H2 → H2 p = some (.lst [r]) → Q (.ref p) H2) → Q1 r H1) →
    (∀ (r : Bool) (dd : Addr) (x : V) H1, H1 dd = some (.xd [(fieldR r, x)]) → (∀ H2 p, Same H1 H2 → H2 p = some (.tup [.str (wordR r), x]) → Q (.ref p) H2) → E1 (.ref (clsR K r)) (some dd) H1) → sp [] H0 Q1 E1
end
section
variable {P : Program} {w : World} {K : PySem.W.Frag} {mg : Str → Option Value} {base : Heap}
theorem ok_said (T : Tu K mg) {k : Nat} (hk : 1 ≤ k) : OkS P w K mg base (k + 1) (He.fAd K d_law_said.at_) ["_law_call"] (spSaid P w K mg base k) := by
  refine T.tv.tw.tz.tx.okS at_law_said sc_law_said rfl rfl (fun _ _ _ _ _ _ us hl => match us, hl with | [_], _ => ⟨rfl, rfl⟩) (fun fs h vs H Q E hh => ?_) (fun cdv A outer s H vs Q E hr hh => ?_)
  · obtain ⟨f, sp, rfl, _⟩ := hh
    rfl
  · obtain ⟨f, sp, rfl, C, F, q⟩ := hh
    have nd := sc_law_said.nd
    have X := T.tv.tw.tz.tx
    have hr1 : Room 1 _ := hr.mono hk
    refine ⟨_, pss_cons (ps_asg (pe_tup (pa_cons pe_non (pa_cons pe_non pa_nil))) (pg_tup (n := 2) rfl (pgs_cons (pg_name (i := 1) nd rfl (.inl rfl)) (pgs_cons (pg_name (i := 2) nd rfl (.inl rfl)) pgs_nil))))
      (pss_cons (ps_try2 (ic := 1) (ie := 3) (tb := fun W => tAsg (tClos 0 f sp (WE W) tNil) (gName 2))
        (l1 := [("BadReading", _, He.ga K "BadReading"), ("BadHabits", _, He.ga K "BadHabits"), ("BadPromise", _, He.ga K "BadPromise"), ("BadWays", _, He.ga K "BadWays"), ("BadWeaving", _, He.ga K "BadWeaving"), ("BadPaper", _, He.ga K "BadPaper"), ("BadSize", _, He.ga K "BadSize"), ("BadNumber", _, He.ga K "BadNumber"), ("BadText", _, He.ga K "BadText")])
        (l2 := [("TooGreat", _, He.ga K "TooGreat"), ("NothingLeft", _, He.ga K "NothingLeft")])
        rfl rfl rfl nd rfl rfl rfl rfl ?h1 ?h2 (by show 9 ≤ 1000; decide) (by show 2 ≤ 1000; decide) rfl rfl rfl rfl (by decide) (by decide)
        (fun W pn xe tk => pss_one (ps_set (i := 2) nd rfl (.inl rfl) (by exact (pe_clos0 (i := 0) C rfl hr rfl (.inl rfl) (fun σ => passAt tk σ))))))
      (pss_one (ps_ret (pe_ifExp (pt_cmpR op_isN (pv 1) pe_non (nomark _)) (pe_lst (pa_cons (pv 2) pa_nil)) (pe_fn (ok_fault T.tv) hr1 (X.mglo "_law_fault") (pa_cons (pv 1) pa_nil) passL))))), ?_⟩
    case h1 =>
      intro y hy
      simp only [List.mem_cons, List.mem_nil_iff, or_false] at hy
      rcases hy with rfl | rfl | rfl | rfl | rfl | rfl | rfl | rfl | rfl <;> exact ⟨rfl, X.glo _ (by dsimp only; decide +kernel), rfl⟩
    case h2 =>
      intro y hy
      simp only [List.mem_cons, List.mem_nil_iff, or_false] at hy
      rcases hy with rfl | rfl <;> exact ⟨rfl, X.glo _ (by dsimp only; decide +kernel), rfl⟩
    refine ⟨by show 2 ≤ sizeLine; decide, fun t ht => ?_⟩
    have s1 := sN (o := .tup [.non, .non]) ht
    refine ⟨t, _, rfl, SqT.of upd_same, rfl, _, _, rfl, _, _, rfl, rfl, ?_⟩
    have F1 := F.kp (Kp.of_same (S := []) s1) OffM.nil
    refine ⟨rfl, F1, F1, ?_⟩
    refine q _ s1 _ _ (fun r H1 hq => ?_) (fun r dd x H1 hd hq => ⟨clsR K r, dd, rfl, rfl, T.hit r, fun a na => ?_⟩)
    · exact ⟨_, rfl, rfl, _, rfl, ifE ⟨_, rfl, by show 1 ≤ sizeLine; decide, fun p hp => hq _ p (sN hp) upd_same⟩⟩
    · have ne : dd ≠ a := ne_of_none hd na
      refine ⟨_, rfl, rfl, _, rfl, ifN (fun z => by cases z) ?_⟩
      refine ⟨_, rfl, a, dd, r, x, rfl, upd_same, by rw [upd_ne ne]; exact hd, fun H2 p s2 hp => hq H2 p (fun b o z => s2 _ _ ?_) hp⟩
      rw [upd_ne (ne_of_none z na)]
      exact z
end
/-! ### calls of such -/
/-- f(..), the promise told of the very state -/
def tCallH (X : Cx) (sp : SpS) (E : L2.St → XK) (t : TA) : TE := fun σ H Q => t σ H fun vs H1 => ∀ (pins : List (Addr × Obj)) (s : Shared), Inv X pins σ H1 s → sp (frs X.stack) s.heap vs H1 Q (E σ)
section
variable {X : Cx} {k : Nat} {f : Addr} {ps : List Str} {sp : SpS} {x : Str} {p pos : Pos} {e : Expr} {es : List Expr} {kws : List Keyword} {t : TA} {E : L2.St → XK}
theorem run_okS {pins : List (Addr × Obj)} {σ : L2.St} {H : Hp} {s : Shared} {Q : VK} {us : List Value} {vs : List V} {args : Args} (G : OkS X.prog X.w X.K X.mg X.base k f ps sp) (hr : Room k X.A) (hx : PassesAt (L2.CX X.prog X.w) X σ (E σ)) (I : Inv X pins σ H s) (ha : args = ⟨us, []⟩ ∨ args = ⟨[], ps.zip us⟩) (r : Vals vs us) (h : sp (frs X.stack) s.heap vs H Q (E σ)) :
    wpAny (model X.prog X.w) X.A (call (.ref f) args.pos args.kw) (EP X pins σ Q) X.xe s := by
  refine wpAny_call (codeAny_mono (G.run X.A X.stack s H args us vs Q (E σ) hr I.env0 ha r h) fun r s' hq => ?_)
  cases r with
  | error e => exact hx pins H s e s' I hq
  | ok fl =>
    cases fl with
    | ret u => exact I.after hq
    | next => exact False.elim hq
    | brk => exact False.elim hq
    | cont => exact False.elim hq
theorem pe_fnS (G : OkS X.prog X.w X.K X.mg X.base k f ps sp) (hr : Room k X.A) (hm : X.mg x = some (.ref f)) (ha : PA X (e :: es) t) (hx : ∀ σ, PassesAt (L2.CX X.prog X.w) X σ (E σ)) (hg : Gl X x := by rfl) (hdb : (x == ("__debug__" : Str)) = false := by decide)
    (he : starEach (e :: es) X.env = (false, eval e X.env) :: starEach es X.env := by rfl) (hpl : (backTo pos (starEach es X.env)).any (·.1) = false := by rfl) : PE X (.Call (.Name x p) (e :: es) [] pos) (tCallH X sp E t) := by
  refine ⟨fun pins s σ H Q I h => ?_⟩
  refine wpAny_Call_Name_kw (ld_glob I hg hm ?_ hdb)
  refine PySem.W.callWith_K (h₀ := X.base) I.ok.mod.kin G.kp (thn (ha.run pos pins s σ H _ I h) fun us s1 ⟨vs, H1, I1, r, q⟩ => ⟨I1.kIn, ?_⟩) he hpl
  exact run_okS G hr (hx σ) I1 (args := ⟨us, []⟩) (.inl rfl) r (q pins s1 I1)
theorem pe_fnSK (G : OkS X.prog X.w X.K X.mg X.base k f ps sp) (hr : Room k X.A) (hm : X.mg x = some (.ref f)) (hkw : PK X kws t) (hx : ∀ σ, PassesAt (L2.CX X.prog X.w) X σ (E σ)) (hg : Gl X x := by rfl) (hdb : (x == ("__debug__" : Str)) = false := by decide)
    (hall : (backToKw pos (keywordEach kws X.env)).all (·.1.isSome) = true := by rfl) (hks : (backToKw pos (keywordEach kws X.env)).filterMap (·.1) = ps := by rfl)
    (hpl : ((backTo pos (starEach [] X.env)).any (·.1) || (backToKw pos (keywordEach kws X.env)).any (·.1.isNone)) = false := by rfl) : PE X (.Call (.Name x p) [] kws pos) (tCallH X sp E t) := by
  refine ⟨fun pins s σ H Q I h => ?_⟩
  refine wpAny_Call_Name_kw (ld_glob I hg hm ?_ hdb)
  refine PySem.W.callWith_KW0 (h₀ := X.base) I.ok.mod.kin G.kp hall (thn (hkw.run pos pins s σ H _ I h) fun us s1 ⟨vs, H1, I1, r, q⟩ => ⟨I1.kIn, ?_⟩) hpl
  rw [hks]
  exact run_okS G hr (hx σ) I1 (args := ⟨[], ps.zip us⟩) (.inr rfl) r (q pins s1 I1)
end
end K21

/-! the draws -/
namespace K21
open PySem PySem.Spec PyProof.Rows L2 LamX
def idO : HO → Bool
  | .ins _ _ _ => true
  | .dK _ => true
  | _ => false
/-- what S names are instances and dicts -/
def OffI (H : Hp) (S : List Addr) : Prop := ∀ a ∈ S, ∃ o, H a = some o ∧ idO o = true
theorem OffI.nil {H : Hp} : OffI H [] := fun _ h => by cases h
theorem OffI.cons {H : Hp} {a : Addr} {o : HO} {S : List Addr} (h : H a = some o) (n : idO o = true) (r : OffI H S) : OffI H (a :: S) := fun b hb => by
  rcases List.mem_cons.mp hb with e | hb
  · rw [e]
    exact ⟨o, h, n⟩
  · exact r b hb
theorem OffI.off {H : Hp} {S : List Addr} (f : OffI H S) : Off H S := fun a ha => by
  obtain ⟨o, e, n⟩ := f a ha
  refine ⟨o, e, ?_⟩
  cases o <;> first | rfl | cases n
theorem OffI.offM {H : Hp} {S : List Addr} (f : OffI H S) : OffM H S := fun a ha => by
  obtain ⟨o, e, n⟩ := f a ha
  refine ⟨o, e, ?_⟩
  cases o <;> first | rfl | cases n
def dK4 (l : Addr) (a b c : Int) : List (Key × V) := [(.inr "cells", .ref l), (.inr "at", .int a), (.inr "left", .int b), (.inr "used", .int c)]
/-- the draw at d: at and used not above n -/
def Dr (H : Hp) (d : Addr) (n : Nat) : Prop := ∃ (l : Addr) (cells : List Int) (a b c : Int), H d = some (.dK (dK4 l a b c)) ∧ H l = some (.lst (cells.map V.int)) ∧ cells ≠ [] ∧ cells.length ≤ 1000 ∧ 0 ≤ a ∧ a ≤ n ∧ 0 ≤ c ∧ c ≤ n
theorem Dr.mono {H : Hp} {d : Addr} {n m : Nat} (h : Dr H d n) (l : n ≤ m) : Dr H d m := by
  obtain ⟨l', cells, a, b, c, h1, h2, h3, h4, h5, h6, h7, h8⟩ := h
  exact ⟨l', cells, a, b, c, h1, h2, h3, h4, h5, by omega, h7, by omega⟩
theorem Dr.kp {H H' : Hp} {d : Addr} {n : Nat} {S : List Addr} (h : Dr H d n) (k : Kp S H H') (f : OffI H S) (hd : d ∉ S) : Dr H' d n := by
  obtain ⟨l', cells, a, b, c, h1, h2, h3⟩ := h
  exact ⟨l', cells, a, b, c, k _ _ h1 hd, k _ _ h2 (f.off.lst h2), h3⟩
theorem Dr.kw {H H' : Hp} {d : Addr} {n : Nat} {S : List Addr} (h : Dr H d n) (k : Kw S H H') (f : OffI H S) (hd : d ∉ S) : Dr H' d n := by
  obtain ⟨l', cells, a, b, c, h1, h2, h3⟩ := h
  exact ⟨l', cells, a, b, c, k _ _ h1 (fun _ z => by cases z) hd, k _ _ h2 (fun _ z => by cases z) (f.off.lst h2), h3⟩
theorem Dr.sm {H H' : Hp} {d : Addr} {n : Nat} (h : Dr H d n) (s : Same H H') : Dr H' d n := h.kp (Kp.of_same (S := []) s) OffI.nil (by simp)
theorem Dr.dk {H : Hp} {d : Addr} {n : Nat} (h : Dr H d n) : ∃ kvs, H d = some (.dK kvs) := by
  obtain ⟨l', cells, a, b, c, h1, _⟩ := h
  exact ⟨_, h1⟩
/-- a list that is read + a list -/
def rCatL (K : PySem.W.Frag) : R2 := fun x y H Q => ∃ l b xs zs, x = .ref l ∧ y = .ref b ∧ SqL K H l xs ∧ H b = some (.lst zs) ∧ xs.length + zs.length ≤ sizeLine ∧ ∀ p, H p = none → Q (.ref p) (upd H p (.lst (xs ++ zs)))
theorem op_catL {X : Cx} : OpR X (binaryOp .Add) (rCatL X.K) := by
  intro pins s σ H x y v u Q I rx ry h
  obtain ⟨l, b, xs, zs, rfl, rfl, hH, hB, hz, q⟩ := h
  cases rx
  cases ry
  obtain ⟨its, r, ⟨⟨cls, dd, data, sl⟩, n, e, hc, hdd, hd⟩, hl'⟩ := I.list hH
  obtain ⟨z2, its2, n2, r2, hl2, e2⟩ := I.lstM hB
  have hl : xs.length = its.length := r.length
  have hl3 : zs.length = its2.length := r2.length
  simp only at hc hdd hd
  subst hc hdd hd
  have ea : its.toArray ++ its2.toArray = (its ++ its2).toArray := by simp
  refine concat_meets ⟨_, e, rfl⟩ ⟨_, e2, rfl⟩ noFill_list_add seq_list_add PySem.F.slot_list_add PySem.F.entry_list_add (PySem.F.args_list_add_2 _ _) (list_addW l b its.toArray its2.toArray n n2 none none sl #[] (by rw [List.size_toArray, List.size_toArray]; omega)) ⟨e, e2, ?_⟩
  rw [ea]
  exact ⟨.ref _, _, I.lnew (t' := s.toks) (r.append r2) (by rw [List.length_append]; omega), rfl, q _ I.fresh⟩
theorem sqL_same {K : PySem.W.Frag} {H H' : Hp} {a : Addr} {xs : List V} (h : SqL K H a xs) (e : Same H H') : SqL K H' a xs :=
  h.elim (fun h => .inl (h.elim (fun h => .inl (e _ _ h)) fun ⟨o, h⟩ => .inr ⟨o, e _ _ h⟩)) fun h => .inr h
section
variable {P : Program} {w : World} {K : PySem.W.Frag} {mg : Str → Option Value} {base : Heap}
def spLawBegin (K : PySem.W.Frag) : Sp := fun vs H Q _ => ∃ (l : Addr) (ns : List Int), vs = [.ref l] ∧ SqL K H l (ns.map V.int) ∧ ns.length ≤ 900 ∧ ∀ H' d, Same H H' → Dr H' d 0 → Q (.ref d) H'
theorem ok_law_begin (T : Tx K mg) : Ok P w K mg base 1 (He.fAd K d_law_begin.at_) ["_law_script"] [] (spLawBegin K) := by
  refine T.ok at_law_begin sc_law_begin rfl rfl (fun _ _ _ _ _ _ us hl => match us, hl with | [_], _ => rfl) (fun vs H Q E h => ?_) (fun cdv A outer s H vs Q E hr h => ?_)
  · obtain ⟨l, ns, rfl, _⟩ := h
    rfl
  · obtain ⟨l, ns, rfl, hl, hn, q⟩ := h
    refine ⟨_, pss_one (ps_ret (pe_disp (pps_cons pe_str (pe_op op_catL (pv 0) (pe_lst (pa_cons pe_int pa_nil))) (pps_cons pe_str pe_int (pps_cons pe_str pe_int (pps_cons pe_str pe_int pps_nil)))) rfl rfl (by simp) (by decide))), ?_⟩
    intro p hp
    have s1 := sN (o := .dK []) hp
    have e1 : upd H p (.dK []) p = some (.dK []) := upd_same
    refine ⟨_, rfl, by show 1 ≤ sizeLine; decide, fun z hz => ?_⟩
    have s2 := sN (o := .lst [.int 0]) hz
    refine ⟨l, z, _, _, rfl, rfl, sqL_same hl (s1.trans s2), upd_same, by rw [List.length_map]; exact line_le (by show ns.length + 1 ≤ 1000; omega), fun m hm => ?_⟩
    have s3 := sN (o := .lst (ns.map V.int ++ [.int 0])) hm
    refine ⟨s3 _ _ (s2 _ _ e1), dK4 m 0 0 0, rfl, by show 4 ≤ 15; decide, q _ p (fun a o h => ?_) ⟨m, ns ++ [0], 0, 0, 0, upd_same, ?_, by simp, by simp; omega, by decide, by decide, by decide, by decide⟩⟩
    · rw [upd_ne (ne_of_none h hp)]
      exact s3 _ _ (s2 _ _ (s1 _ _ h))
    · have hmp : m ≠ p := fun z2 => by
        rw [z2] at hm
        rw [s2 _ _ e1] at hm
        cases hm
      rw [upd_ne hmp, upd_same, List.map_append]
      rfl
theorem emod_nat {x m : Int} (h : 1 ≤ m) : ∃ r : Nat, x % m = (r : Int) ∧ (r : Int) < m := by
  have h1 := Int.emod_nonneg x (show m ≠ 0 by omega)
  have h2 := Int.emod_lt_of_pos x (show 0 < m by omega)
  exact ⟨(x % m).toNat, by omega, by omega⟩
theorem both {p : Bool} {U X R : Prop} (hX : X) (hR : R) (hU : X → R → U) : if p = true then U else (if false = true then X else R) := by
  cases p with
  | true => exact hU hX hR
  | false => exact hR
def spNext : Sp := fun vs H Q _ => ∃ d m n, vs = [.ref d, .int m] ∧ 1 ≤ m ∧ m ≤ 1000 ∧ n ≤ 100000 ∧ Dr H d n ∧ ∀ H' (r : Nat), (r : Int) < m → Kp [d] H H' → Dr H' d (n + 1) → Q (.int (r : Int)) H'
theorem dgA {H : Hp} {d l : Addr} {a b c : Int} (h : H d = some (.dK (dK4 l a b c))) : DGet H d (.str "cells") (some (.ref l)) ∧ DGet H d (.str "at") (some (.int a)) ∧ DGet H d (.str "left") (some (.int b)) ∧ DGet H d (.str "used") (some (.int c)) :=
  ⟨DGet.k (k := .inr "cells") h, DGet.k (k := .inr "at") h, DGet.k (k := .inr "left") h, DGet.k (k := .inr "used") h⟩
theorem dpA {H : Hp} {d l : Addr} {a b c x : Int} (h : H d = some (.dK (dK4 l a b c))) : DPut H d (.str "at") (.int x) (upd H d (.dK (dK4 l x b c))) ∧ DPut H d (.str "left") (.int x) (upd H d (.dK (dK4 l a x c))) ∧ DPut H d (.str "used") (.int x) (upd H d (.dK (dK4 l a b x))) :=
  ⟨DPut.k (k := .inr "at") (v := .int x) h (by show 4 < sizeLine; decide), DPut.k (k := .inr "left") (v := .int x) h (by show 4 < sizeLine; decide), DPut.k (k := .inr "used") (v := .int x) h (by show 4 < sizeLine; decide)⟩
theorem ok_law_next (T : Tx K mg) : Ok P w K mg base 1 (He.fAd K d_law_next.at_) ["_law_draw", "_law_many"] [] spNext := by
  refine T.ok at_law_next sc_law_next rfl rfl (fun _ _ _ _ _ _ us hl => match us, hl with | [_, _], _ => rfl) (fun vs H Q E h => ?_) (fun cdv A outer s H vs Q E hr h => ?_)
  · obtain ⟨d, m, n, rfl, _⟩ := h
    rfl
  · obtain ⟨d, m, n, rfl, hm1, hm2, hn, ⟨l, cells, a, b, c, hd, hl, hne, hlen, ha0, han, hc0, hcn⟩, q⟩ := h
    have nd := sc_law_next.nd
    have hu : _ + 1 < cLine := Nat.lt_of_le_of_lt (Nat.add_le_add_left (by decide : 1 ≤ 64) _) hr.units
    have dg : ∀ {p1 p2 p3 : Pos} {k : Nat} {y : Str}, PE (cxOf (L2.CX P w) P w K mg base N_law_next d_law_next.qual d_law_next.scope (He.fAd K d_law_next.at_) cdv A outer s H E) (.Subscript (.Name "_law_draw" p1) (.Constant (.str y) k p2) p3) (tDGet (tVar 0) (tC (.str y))) :=
      fun {p1 p2 p3 k y} => pe_dget hu (pv 0) pe_str (fun _ _ => rfl)
    refine ⟨_, pss_cons (ps_if (pt_cmpR op_gt dg pe_int (nomark _))
        (pss_cons (ps_asg (pe_tup (pa_cons dg (pa_cons (pe_op op_fdiv dg (pv 1)) pa_nil))) (pg_tup (n := 2) rfl (pgs_cons (pg_name (i := 2) nd rfl (.inl rfl)) (pgs_cons (pg_sub (pv 0) pe_str (set_dict hu)) pgs_nil)))) (pss_one (ps_ret (pe_op op_mod (pv 2) (pv 1))))) pss_nil)
      (pss_cons (ps_set (i := 3) nd rfl (.inl rfl) dg)
      (pss_cons (ps_set (i := 2) nd rfl (.inl rfl) (pe_ix ix_list (pv 3) (pe_op op_mod dg (pe_callB call_len_seq (by rfl) (T.mfre "len") PySem.boot_len (pa_cons (pv 3) pa_nil))) (fun _ _ => rfl)))
      (pss_cons (ps_dput hu (pv 0) pe_str (pe_op op_add dg pe_int) rfl)
      (pss_cons (ps_if (PW.pt (pw_and (pt_cmpR op_ge (pv 2) (pe_op op_pow pe_int pe_int) (nomark _)) (pw_and1 (pt_cmpR op_le dg (pe_callB call_len_seq (by rfl) (T.mfre "len") PySem.boot_len (pa_cons (pv 3) pa_nil)) (nomark _)))))
        (pss_cons (ps_dput hu (pv 0) pe_str (pe_op op_fdiv (pv 2) (pv 1)) rfl) (pss_one (ps_ret (pe_op op_mod (pv 2) (pv 1))))) pss_nil)
      (pss_cons (ps_dput hu (pv 0) pe_str (pe_op op_add dg pe_int) rfl)
      (pss_cons (ps_set (i := 4) nd rfl (.inl rfl) (pe_op op_add (pe_op op_mod (pv 2) pe_int) (pe_op op_mul (pe_op op_mul pe_int dg) dg)))
      (pss_cons (ps_for (passes_of rfl) rfl (pi_tup (pe_tup (pa_cons dg (pa_cons dg pa_nil)))) (pg_name (i := 5) nd rfl (.inl rfl))
        (pss_cons (ps_set (i := 4) nd rfl (.inl rfl) (pe_op op_mod (pe_op op_mul (pe_op op_add (pe_op op_add (pv 4) (pe_op op_mul pe_int (pv 5))) pe_int) pe_int) pe_int))
          (pss_one (ps_set (i := 4) nd rfl (.inl rfl) (pe_op op_mod (pe_op op_mul (pv 4) (pe_op op_add pe_int (pe_op op_mul pe_int (pe_op op_mod (pv 5) pe_int)))) pe_int)))))
      (pss_one (ps_ret (pe_op op_mod (pe_op op_fdiv (pv 4) pe_int) (pv 1))))))))))), ?_⟩
    obtain ⟨g1, g2, g3, g4⟩ := dgA hd
    have fin : ∀ {x : Int} {H' : Hp}, Kp [d] H H' → Dr H' d (n + 1) → Q (.int (x % m)) H' := fun {x H'} k D => by
      obtain ⟨r, er, hr⟩ := emod_nat (x := x) hm1
      rw [er]
      exact q H' r hr k D
    have ud : ∀ {H0 H1 : Hp} {x y z : Int}, Same H H0 → H1 = upd H0 d (.dK (dK4 l x y z)) → H1 d = some (.dK (dK4 l x y z)) ∧ H1 l = some (.lst (cells.map V.int)) ∧ Kp [d] H H1 := fun {H0 H1 x y z} s e => by
      subst e
      have hne : l ≠ d := fun z2 => by
        rw [z2, hd] at hl
        cases hl
      refine ⟨upd_same, by rw [upd_ne hne]; exact s _ _ hl, (Kp.of_same s).upd' (by simp)⟩
    have kd : ∀ {H0 H1 : Hp} {x y z : Int}, Kp [d] H H0 → H0 l = some (.lst (cells.map V.int)) → H0 d ≠ none → H1 = upd H0 d (.dK (dK4 l x y z)) → H1 d = some (.dK (dK4 l x y z)) ∧ H1 l = some (.lst (cells.map V.int)) ∧ Kp [d] H H1 := fun {H0 H1 x y z} k hl0 _ e => by
      subst e
      have hne : l ≠ d := fun z2 => by
        rw [z2, hd] at hl
        cases hl
      exact ⟨upd_same, by rw [upd_ne hne]; exact hl0, k.upd' (by simp)⟩
    have mk : ∀ {H' : Hp} {x y z : Int}, H' d = some (.dK (dK4 l x y z)) → H' l = some (.lst (cells.map V.int)) → 0 ≤ x → x ≤ ((n + 1 : Nat) : Int) → 0 ≤ z → z ≤ ((n + 1 : Nat) : Int) → Dr H' d (n + 1) := fun {H' x y z} h1 h2 x0 xn z0 zn => ⟨l, cells, x, y, z, h1, h2, hne, hlen, x0, xn, z0, zn⟩
    refine ⟨_, rfl, d, _, rfl, g3, _, _, rfl, rfl, _, rfl, ?_⟩
    refine ite2 (fun hb => ?_) (fun _ => ?_)
    · refine ⟨_, rfl, d, _, rfl, g3, _, rfl, d, _, rfl, g3, _, rfl, b, m, rfl, rfl, ⟨by omega, by omega⟩, by show 2 ≤ sizeLine; decide, fun t ht => ?_⟩
      have s1 := sN (o := .tup [.int b, .int (b / m)]) ht
      obtain ⟨e1, e2, e3⟩ := ud (x := a) (y := b / m) (z := c) s1 rfl
      refine ⟨t, _, rfl, SqT.of upd_same, rfl, _, _, rfl, _, _, rfl, _, rfl, d, _, rfl, (dpA (x := b / m) (s1 _ _ hd)).2.1, rfl, ?_⟩
      exact ⟨_, rfl, _, rfl, b, m, rfl, rfl, by omega, fin e3 (mk e1 e2 ha0 (by omega) hc0 (by omega))⟩
    · have hpos : 0 < cells.length := List.length_pos_iff.mpr hne
      obtain ⟨i, ei, hi⟩ := emod_nat (x := a) (m := (cells.length : Int)) (by omega)
      have hi' : i < cells.length := by omega
      have ll : ((cells.map V.int).length : Int) = (cells.length : Int) := by simp
      refine ⟨_, rfl, d, _, rfl, g1, ?_⟩
      refine ⟨_, rfl, _, rfl, d, _, rfl, g2, _, rfl, l, _, rfl, .inl (SqL.of hl), a, _, rfl, rfl, by simp; omega, l, _, _, .int cells[i], rfl, rfl, SqL.of hl, ?_, ?_⟩
      · show atI (cells.map V.int) (a % ((cells.map V.int).length : Int)) = _
        rw [ll, ei]
        exact atI_nat (by rw [List.getElem?_map, List.getElem?_eq_getElem hi']; rfl)
      · generalize hcell : cells[i] = cell
        obtain ⟨e1, e2, e3⟩ := ud (x := a + 1) (y := b) (z := c) (Same.refl H) rfl
        refine ⟨_, rfl, d, _, rfl, g2, a, 1, rfl, rfl, _, rfl, d, _, rfl, (dpA (x := a + 1) hd).1, ?_⟩
        revert e1 e2 e3
        generalize upd H d (.dK (dK4 l (a + 1) b c)) = H1
        intro e1 e2 e3
        obtain ⟨g1', g2', g3', g4'⟩ := dgA e1
        refine ⟨_, rfl, 10, 18, rfl, rfl, ⟨by decide, by decide, by decide⟩, _, _, rfl, rfl, _, rfl, ?_⟩
        refine both ?_ ?_ (fun hX hR => ?_)
        · refine ⟨_, rfl, _, rfl, cell, m, rfl, rfl, ⟨by omega, by omega⟩, _, rfl, d, _, rfl, (dpA (x := cell / m) e1).2.1, ?_⟩
          obtain ⟨f1, f2, f3⟩ := kd (x := a + 1) (y := cell / m) (z := c) e3 e2 (by rw [e1]; simp) rfl
          exact ⟨_, rfl, _, rfl, cell, m, rfl, rfl, by omega, fin f3 (mk f1 f2 (by omega) (by omega) hc0 (by omega))⟩
        · refine ⟨_, rfl, d, _, rfl, g4', c, 1, rfl, rfl, _, rfl, d, _, rfl, (dpA (x := c + 1) e1).2.2, ?_⟩
          obtain ⟨f1, f2, f3⟩ := kd (x := a + 1) (y := b) (z := c + 1) e3 e2 (by rw [e1]; simp) rfl
          revert f1 f2 f3
          generalize upd H1 d (.dK (dK4 l (a + 1) b (c + 1))) = H2
          intro f1 f2 f3
          obtain ⟨g1'', g2'', g3'', g4''⟩ := dgA f1
          refine ⟨_, rfl, cell, 1000000007, rfl, rfl, by show (0 : Int) < 1000000007; decide, _, rfl, d, _, rfl, g4'', 7919, c + 1, rfl, rfl, .inl ⟨by decide, by decide⟩, _, rfl, d, _, rfl, g4'', 7919 * (c + 1), c + 1, rfl, rfl, .inr ⟨by omega, by omega⟩, _, _, rfl, rfl, ?_⟩
          refine ⟨_, rfl, d, _, rfl, g2'', _, rfl, d, _, rfl, g4'', by show 2 ≤ sizeLine; decide, fun t ht => ?_⟩
          have s3 := sN (o := .tup [.int (a + 1), .int (c + 1)]) ht
          have ht3 : upd H2 t (.tup [.int (a + 1), .int (c + 1)]) t = some (.tup [.int (a + 1), .int (c + 1)]) := upd_same
          have f1' := s3 _ _ f1
          have f2' := s3 _ _ f2
          have f3' := f3.trans (Kp.of_same s3)
          revert ht3 f1' f2' f3'
          generalize upd H2 t (.tup [.int (a + 1), .int (c + 1)]) = H3
          intro ht3 f1' f2' f3'
          refine ⟨t, rfl, ⟨_, SqT.of ht3⟩, for_it (walk_tup (K := K) (a := t) (xs := [.int (a + 1), .int (c + 1)])) (fun _ σ H' => (∃ (num : Int) (v5 : Option V), σ = [some (.ref d), some (.int m), some (.int cell), some (.ref l), some (.int num), v5]) ∧ H' = H3) ⟨⟨_, none, rfl⟩, rfl⟩
            (fun _ σ H' _ ⟨_, e⟩ => by rw [e]; exact SqT.of ht3) (fun i x σ H' H'' hi ⟨⟨num, v5, es⟩, eh⟩ hy => ?_) (fun σ H' ⟨⟨num, v5, es⟩, eh⟩ => ?_)⟩
          · subst es eh
            obtain ⟨rfl, hx⟩ := hy
            obtain ⟨kk, rfl⟩ : ∃ kk : Int, x = .int kk := by
              have h2 : i = 0 ∨ i = 1 := by
                have : i < 2 := hi
                omega
              rcases h2 with rfl | rfl
              · cases hx
                exact ⟨_, rfl⟩
              · cases hx
                exact ⟨_, rfl⟩
            have hk1 := Int.emod_nonneg kk (show (1000 : Int) ≠ 0 by decide)
            have hk2 := Int.emod_lt_of_pos kk (show (0 : Int) < 1000 by decide)
            refine ⟨_, rfl, _, rfl, 31, kk, rfl, rfl, .inl ⟨by decide, by decide⟩, _, _, rfl, rfl, _, _, rfl, rfl, _, 48271, rfl, rfl, .inr ⟨by decide, by decide⟩, _, 2147483647, rfl, rfl, by show (0 : Int) < 2147483647; decide, ?_⟩
            refine ⟨_, rfl, _, rfl, kk, 1000, rfl, rfl, by show (0 : Int) < 1000; decide, 2, kk % 1000, rfl, rfl, .inl ⟨by decide, by decide⟩, 69621, _, rfl, rfl, _, _, rfl, rfl, .inr ⟨by omega, by omega⟩, _, 2147483629, rfl, rfl, by show (0 : Int) < 2147483629; decide, ?_⟩
            exact ⟨⟨_, _, rfl⟩, rfl⟩
          · subst es eh
            exact ⟨_, rfl, num, 7, rfl, rfl, ⟨by decide, by decide⟩, _, rfl, _, m, rfl, rfl, by omega, fin f3' (mk f1' f2' (by omega) (by omega) (by omega) (by omega))⟩
        · exact ⟨_, rfl, d, _, rfl, g2', _, rfl, l, _, rfl, .inl (SqL.of e2), _, _, rfl, rfl, _, rfl, ite2 (fun _ => hX) (fun _ => hR)⟩
end
end K21

/-! a drawn deed; a board's state as data -/
namespace K21
open PySem PySem.Spec PyProof.Rows L2 LamX
section
variable {P : Program} {w : World} {K : PySem.W.Frag} {mg : Str → Option Value} {base : Heap}
def spPick : Sp := fun vs H Q _ => ∃ d l xs n, vs = [.ref d, .ref l] ∧ H l = some (.lst xs) ∧ xs ≠ [] ∧ xs.length ≤ 900 ∧ n ≤ 100000 ∧ Dr H d n ∧ ∀ H' (i : Nat) (h : i < xs.length), Kp [d] H H' → Dr H' d (n + 1) → Q xs[i] H'
theorem ok_law_pick (T : Tx K mg) : Ok P w K mg base 2 (He.fAd K d_law_pick.at_) ["_law_draw", "_law_some"] [] spPick := by
  refine T.ok at_law_pick sc_law_pick rfl rfl (fun _ _ _ _ _ _ us hl => match us, hl with | [_, _], _ => rfl) (fun vs H Q E h => ?_) (fun cdv A outer s H vs Q E hr h => ?_)
  · obtain ⟨d, l, xs, n, rfl, _⟩ := h
    rfl
  · obtain ⟨d, l, xs, n, rfl, hl, hne, hlen, hn, hD, q⟩ := h
    have hpos : 0 < xs.length := List.length_pos_iff.mpr hne
    refine ⟨_, pss_one (ps_ret (pe_ix ix_list (pv 1) (pe_fn (ok_law_next T) hr (T.mglo "_law_next") (pa_cons (pv 0) (pa_cons (pe_callB call_len_seq (by rfl) (T.mfre "len") PySem.boot_len (pa_cons (pv 1) pa_nil)) pa_nil)) passL) (fun _ _ => rfl))), ?_⟩
    refine ⟨_, rfl, _, rfl, _, rfl, l, xs, rfl, .inl (SqL.of hl), d, _, n, rfl, by omega, by omega, hn, hD, fun H1 r hr1 k1 D1 => ?_⟩
    have hr' : r < xs.length := by omega
    obtain ⟨kvs, hdk⟩ := hD.dk
    have hl1 := k1 _ _ hl (fun z => by rw [List.mem_singleton.mp z, hdk] at hl; cases hl)
    exact ⟨l, xs, _, xs[r], rfl, rfl, SqL.of hl1, atI_nat (List.getElem?_eq_getElem hr'), q H1 r hr' k1 D1⟩
/-- the two that a deed writes -/
theorem off2 {H : Hp} {d p C dx : Addr} {n : Nat} {fs : List (Str × V)} (hD : Dr H d n) (hp : H p = some (.ins C dx fs)) : OffI H [d, p] := by
  obtain ⟨kvs, hd⟩ := hD.dk
  exact OffI.cons hd rfl (OffI.cons hp rfl OffI.nil)
theorem off1 {H : Hp} {d : Addr} {n : Nat} (hD : Dr H d n) : OffI H [d] := by
  obtain ⟨kvs, hd⟩ := hD.dk
  exact OffI.cons hd rfl OffI.nil
theorem offP {H : Hp} {p C dx : Addr} {fs : List (Str × V)} (hp : H p = some (.ins C dx fs)) : OffI H [p] := OffI.cons hp rfl OffI.nil
theorem dne {H : Hp} {d p C dx : Addr} {n : Nat} {fs : List (Str × V)} (hD : Dr H d n) (hp : H p = some (.ins C dx fs)) : d ≠ p := fun z => by
  obtain ⟨kvs, hd⟩ := hD.dk
  rw [z, hp] at hd
  cases hd
theorem BdAt.ki {C : Addr} {H H' : Hp} {S : List Addr} {p dx : Addr} {n v c : V} {b : Bd} (B : BdAt C H p dx n v c b) (k : Kp S H H') (f : OffI H S) (m : p ∉ S) : BdAt C H' p dx n v c b := B.at k f.off m
/-- what a drawn deed leaves -/
def spLawDeed (C : Addr) : Sp := fun vs H Q _ => ∃ d p dx n v c b M g, vs = [.ref d, .ref p] ∧ BdAt C H p dx n v c b ∧ BdOk M b ∧ M ≤ 600 ∧ g ≤ 90000 ∧ Dr H d g ∧
  ∀ (H' : Hp) (n' v' c' : V) (b' : Bd) (r : V), Kp [d, p] H H' → Dr H' d (g + 4) → BdAt C H' p dx n' v' c' b' → BdOk (M + 1) b' → Did b b' → Q r H'
theorem ok_law_deed (T : Tz K mg) : Ok P w K mg base 6 (He.fAd K d_law_deed.at_) ["_law_draw", "_law_board"] [] (spLawDeed (CB K)) := by
  refine T.tx.ok at_law_deed sc_law_deed rfl rfl (fun _ _ _ _ _ _ us hl => match us, hl with | [_, _], _ => rfl) (fun vs H Q E h => ?_) (fun cdv A outer s H vs Q E hr h => ?_)
  · obtain ⟨d, p, dx, n, v, c, b, M, g, rfl, _⟩ := h
    rfl
  · obtain ⟨d, p, dx, n, v, c, b, M, g, rfl, B, ok, hM, hg, hD, q⟩ := h
    have X := T.tx
    have hr1 : Room 1 _ := hr.mono (by decide)
    have hr2 : Room 2 _ := hr.mono (by decide)
    have hu := hr.units
    have nd := sc_law_deed.nd
    have nx : ∀ {p1 p2 p3 p4 : Pos} {k : Nat} {j : Int}, PE (cxOf (L2.CX P w) P w K mg base N_law_deed d_law_deed.qual d_law_deed.scope (He.fAd K d_law_deed.at_) cdv A outer s H E) (.Call (.Name "_law_next" p1) [.Name "_law_draw" p2, .Constant (.int j) k p3] [] p4) _ :=
      fun {p1 p2 p3 p4 k j} => pe_fn (ok_law_next X) hr1 (X.mglo "_law_next") (pa_cons (pv 0) (pa_cons pe_int pa_nil)) passL
    have uw : ∀ {p1 p2 : Pos}, PE (cxOf (L2.CX P w) P w K mg base N_law_deed d_law_deed.qual d_law_deed.scope (He.fAd K d_law_deed.at_) cdv A outer s H E) (.Attribute (.Name "_law_board" p1) "under_way" p2) _ :=
      fun {p1 p2} => pe_pr (ok_under_way X) hr2 X.clB (X.pr _ _ "under_way" at_Board_under_way rfl).1 (pv 1)
    refine ⟨_, pss_cons (ps_set (i := 2) nd rfl (.inl rfl) nx)
      (pss_cons (ps_if (pt_cmpR op_eq (pv 2) pe_int (nomark _)) (pss_one (ps_ret (pe_mt (ok_add T) hr X.clB (X.mB "add" (by decide +kernel)) (pv 1) (pa_cons nx (pa_cons (pe_op op_add pe_int nx) pa_nil)) passX))) pss_nil)
      (pss_cons (ps_if (pt_cmpR op_eq (pv 2) pe_int (nomark _)) (pss_one (ps_ret (pe_mt (ok_begin T) hr X.clB (X.mB "begin" (by decide +kernel)) (pv 1) (pa_cons pe_int (pa_cons (pe_fn (ok_law_pick X) hr2 (X.mglo "_law_pick") (pa_cons (pv 0) (pa_cons (pe_lst (pa_cons pe_int (pa_cons pe_non pa_nil))) pa_nil)) passL)
          (pa_cons (pe_op op_add pe_int nx) (pa_cons (pe_fn (ok_law_pick X) hr2 (X.mglo "_law_pick") (pa_cons (pv 0) (pa_cons (pe_lst (pa_cons pe_str (pa_cons pe_str pa_nil))) pa_nil)) passL) pa_nil)))) passL))) pss_nil)
      (pss_cons (ps_if (PW.pt (pw_and (pt_cmpR op_eq (pv 2) pe_int (nomark _)) (pw_and1 (pt_cmpR (op_neD hu) uw (pe_tup pa_nil) (nomark _)))))
        (pss_one (ps_ret (pe_mt (ok_finish T) hr X.clB (X.mB "finish" (by decide +kernel)) (pv 1) (pa_cons (pe_ix ix_tup uw pe_int (fun _ _ => rfl)) pa_nil) passL))) pss_nil)
      (pss_one (ps_ret (pe_mt (ok_start T) hr X.clB (X.mB "start" (by decide +kernel)) (pv 1) (pa_cons (pe_tup (pa_cons pe_str pa_nil)) pa_nil) passL)))))), ?_⟩
    have hdp := dne hD B.ob
    have np : p ∉ [d] := fun z => hdp (List.mem_singleton.mp z).symm
    have nd' : d ∉ [p] := fun z => hdp (List.mem_singleton.mp z)
    refine ⟨_, rfl, d, 4, g, rfl, by decide, by decide, by omega, hD, fun H1 r hr4 k1 D1 => ?_⟩
    have B1 := B.ki k1 (off1 hD) np
    -- what is left of a deed's call
    have done : ∀ {H2 : Hp} {e : Nat} {Q' : VK}, Kp [d] H H2 → Dr H2 d (g + e) → e ≤ 4 → BdAt (CB K) H2 p dx n v c b → (∀ r H', Q' r H' = Q r H') → Done (CB K) p dx M b H2 Q' := fun {H2 e Q'} k2 D2 he B2 hQ H' n' v' c' b' f k' B' ok' did => by
      rw [hQ]
      exact q _ _ _ _ _ f ((k2.mono (T := [d, p]) (by simp)).trans (k'.mono (T := [d, p]) (by simp))) ((D2.mono (by omega)).kp k' (offP B2.ob) nd') B' ok' did
    have c4 : r = 0 ∨ r = 1 ∨ r = 2 ∨ r = 3 := by omega
    have fin3 : ∀ {H2 : Hp} {Q' : VK}, Kp [d] H H2 → Dr H2 d (g + 1) → BdAt (CB K) H2 p dx n v c b → (∀ r H', Q' r H' = Q r H') → ∀ t, H2 t = none → spStart (CB K) [.ref p, .ref t] (upd H2 t (.tup [.str "up"])) Q' E0 := fun {H2 Q'} k2 D2 B2 hQ t ht => by
      have s3 := sN (o := .tup [.str "up"]) ht
      exact ⟨p, dx, n, v, c, b, t, M, rfl, B2.sm s3, ok, hM, upd_same, done (k2.trans (Kp.of_same s3)) (D2.sm s3) (by decide) (B2.sm s3) hQ⟩
    rcases c4 with rfl | rfl | rfl | rfl
    · -- add
      refine ⟨_, rfl, rfl, _, rfl, ifE ?_⟩
      refine ⟨_, rfl, p, _, _, rfl, B1.ob, rfl, _, rfl, d, 2, g + 1, rfl, by decide, by decide, by omega, D1, fun H2 x hx k2 D2 => ?_⟩
      have B2 := B1.ki k2 (off1 D1) np
      refine ⟨_, rfl, d, 9, g + 2, rfl, by decide, by decide, by omega, D2, fun H3 y hy k3 D3 => ⟨_, _, rfl, rfl, ?_⟩⟩
      have B3 := B2.ki k3 (off1 D2) np
      refine ⟨p, dx, n, v, c, b, x, _, M, rfl, B3, ok, hM, by omega, fun _ H' n' v' c' b' k' B' ok' did => ?_, fun z => absurd (by omega) z⟩
      exact done (e := 3) ((k1.trans k2).trans k3) D3 (by decide) B3 (fun _ _ => rfl) H' n' v' c' b' .non k' B' ok' did
    · -- begin
      refine ⟨_, rfl, rfl, _, rfl, ifN (fun z => absurd (V.int.inj z) (by decide)) ⟨_, rfl, rfl, _, rfl, ifE ?_⟩⟩
      refine ⟨_, rfl, p, _, _, rfl, B1.ob, rfl, _, rfl, by show 2 ≤ sizeLine; decide, fun l hl => ?_⟩
      have s2 := sN (o := .lst [.int 1, .non]) hl
      refine ⟨d, l, [.int 1, .non], g + 1, rfl, upd_same, by simp, by show 2 ≤ 900; decide, by omega, D1.sm s2, fun H3 i hi k3 D3 => ?_⟩
      have D1' := D1.sm s2
      have B3 := (B1.sm s2).ki k3 (off1 D1') np
      have k13 := (k1.trans (Kp.of_same s2)).trans k3
      refine ⟨_, rfl, d, 5, g + 1 + 1, rfl, by decide, by decide, by omega, D3, fun H4 y hy k4 D4 => ⟨_, _, rfl, rfl, ?_⟩⟩
      have B4 := B3.ki k4 (off1 D3) np
      refine ⟨_, rfl, by show 2 ≤ sizeLine; decide, fun l2 hl2 => ?_⟩
      have s5 := sN (o := .lst [.str "give", .str "take"]) hl2
      have D4' := D4.sm s5
      refine ⟨d, l2, [.str "give", .str "take"], g + 1 + 1 + 1, rfl, upd_same, by simp, by show 2 ≤ 900; decide, by omega, D4', fun H6 i2 hi2 k6 D6 => ?_⟩
      have B6 := (B4.sm s5).ki k6 (off1 D4') np
      have k16 := ((k13.trans k4).trans (Kp.of_same s5)).trans k6
      have eg : ∃ gg, [V.int 1, V.non][i] = gV gg := by
        have h2 : i = 0 ∨ i = 1 := by
          have : i < 2 := hi
          omega
        rcases h2 with rfl | rfl
        · exact ⟨true, rfl⟩
        · exact ⟨false, rfl⟩
      have ez : ∃ z, [V.str "give", V.str "take"][i2] = .str z ∧ HalfW z := by
        have h2 : i2 = 0 ∨ i2 = 1 := by
          have : i2 < 2 := hi2
          omega
        rcases h2 with rfl | rfl
        · exact ⟨_, rfl, .inl rfl⟩
        · exact ⟨_, rfl, .inr rfl⟩
      obtain ⟨gg, eg⟩ := eg
      obtain ⟨z, ez, hz⟩ := ez
      exact ⟨p, dx, n, v, c, b, gg, _, z, M, by rw [eg, ez]; rfl, B6, ok, hM, by omega, hz, done (e := 4) k16 D6 (by decide) B6 fun _ _ => rfl⟩
    · -- finish, or start where nothing is under way
      refine ⟨_, rfl, rfl, _, rfl, ifN (fun z => absurd (V.int.inj z) (by decide)) ⟨_, rfl, rfl, _, rfl, ifN (fun z => absurd (V.int.inj z) (by decide)) ⟨_, rfl, rfl, _, rfl, ifE ?_⟩⟩⟩
      have mM := ok.now.sd.mM
      refine ⟨_, rfl, p, _, _, rfl, B1.ob, p, dx, n, v, c, b, rfl, B1, by omega, fun H2 t s2 ht => ?_⟩
      refine ⟨by show 0 ≤ sizeLine; decide, fun e he => ?_⟩
      have s3 := sN (o := .tup []) he
      have B3 := (B1.sm s2).sm s3
      have D3 := (D1.sm s2).sm s3
      have k3 := k1.trans (Kp.of_same (s2.trans s3))
      have ln := uwL_len 0 b.now.sd.moves
      refine ⟨.tuple ((uwL 0 b.now.sd.moves).map PyData.int), .tuple [], .tup (SqT.of (s3 _ _ ht)) (DLs.dp (DLs.ints _)), .tup (SqT.of upd_same) .nil, ?_, (Sh.tuple (k := 0) (ds := []) (fun _ z => by cases z)).shaped (by decide), _, rfl, ?_⟩
      · exact (Sh.tuple (k := 0) fun d hd => by
          obtain ⟨y, _, rfl⟩ := List.mem_map.mp hd
          exact Sh.int y).shaped (by decide)
      · cases hu : uwL 0 b.now.sd.moves with
        | nil =>
          rw [if_neg (by simp [PyData.eqv, PyData.eqvAll])]
          refine ⟨_, rfl, p, _, _, rfl, B3.ob, rfl, by show 1 ≤ sizeLine; decide, fun t2 ht2 => ?_⟩
          exact fin3 k3 D3 B3 (fun _ _ => rfl) t2 ht2
        | cons x r =>
          rw [if_pos (by simp [PyData.eqv, PyData.eqvAll])]
          refine ⟨_, rfl, p, _, _, rfl, B3.ob, rfl, _, rfl, p, _, _, rfl, B3.ob, p, dx, n, v, c, b, rfl, B3, by omega, fun H4 t4 s4 ht4 => ?_⟩
          rw [hu] at ht4
          have B4 := B3.sm s4
          refine ⟨t4, _, ((0 : Nat) : Int), .int x, rfl, rfl, SqT.of ht4, atI_nat rfl, ?_⟩
          exact ⟨p, dx, n, v, c, b, x, M, rfl, B4, ok, hM, by rw [hu]; exact List.mem_cons_self, done (e := 1) (k3.trans (Kp.of_same s4)) (D3.sm s4) (by decide) B4 fun _ _ => rfl⟩
    · -- start
      refine ⟨_, rfl, rfl, _, rfl, ifN (fun z => absurd (V.int.inj z) (by decide)) ⟨_, rfl, rfl, _, rfl, ifN (fun z => absurd (V.int.inj z) (by decide)) ⟨_, rfl, rfl, _, rfl, ifN (fun z => absurd (V.int.inj z) (by decide)) ?_⟩⟩⟩
      refine ⟨_, rfl, p, _, _, rfl, B1.ob, rfl, by show 1 ≤ sizeLine; decide, fun t2 ht2 => ?_⟩
      exact fin3 k1 D1 B1 (fun _ _ => rfl) t2 ht2
/-- a state as data -/
def stD (s : Sd) : PyData := .list [.tuple (s.cells.map PyData.int), .int s.total, .int s.readers, .tuple ((uwL 0 s.moves).map PyData.int), .list (List.replicate s.readers (.tuple []))]
theorem stD_sh (s : Sd) : Sh 3 (stD s) := by
  have si : ∀ l : List Int, ∀ d ∈ l.map PyData.int, Sh 0 d := fun l d hd => by
    obtain ⟨y, _, rfl⟩ := List.mem_map.mp hd
    exact Sh.int y
  refine Sh.list (shC ((Sh.tuple (si _)).mono (by decide)) (shC (Sh.int _) (shC (Sh.int _) (shC ((Sh.tuple (si _)).mono (by decide)) (sh1 (Sh.list fun d hd => ?_))))))
  rw [(List.mem_replicate.mp hd).2]
  exact Sh.tuple fun _ z => by cases z
theorem dls_rep {H : Hp} {d : PyData} : ∀ {es : List V}, (∀ x ∈ es, DL H x d) → DLs H es (List.replicate es.length d)
  | [], _ => .nil
  | _ :: r, h => .cons (h _ List.mem_cons_self) (dls_rep fun x hx => h x (List.mem_cons_of_mem _ hx))
def spState (C : Addr) : Sp := fun vs H Q _ => ∃ p dx n v c b M, vs = [.ref p] ∧ BdAt C H p dx n v c b ∧ BdOk M b ∧ M ≤ 800 ∧ ∀ H' l, Same H H' → H l = none → DL H' (.ref l) (stD b.now.sd) → Q (.ref l) H'
theorem ok_law_state (T : Tz K mg) : Ok P w K mg base 5 (He.fAd K d_law_state.at_) ["_law_board"] [] (spState (CB K)) := by
  refine T.tx.ok at_law_state sc_law_state rfl rfl (fun _ _ _ _ _ _ us hl => match us, hl with | [_], _ => rfl) (fun vs H Q E h => ?_) (fun cdv A outer s H vs Q E hr h => ?_)
  · obtain ⟨p, dx, n, v, c, b, M, rfl, _⟩ := h
    rfl
  · obtain ⟨p, dx, n, v, c, b, M, rfl, B, ok, hM, q⟩ := h
    have X := T.tx
    have hr2 : Room 2 _ := hr.mono (by decide)
    have nd := sc_law_state.nd
    have mM := ok.now.sd.mM
    have rM := ok.now.sd.rM
    refine ⟨_, pss_one (ps_ret (pe_lst (pa_cons (pe_pr (ok_slots X) hr2 X.clB (X.pr _ _ "slots" at_Board_slots rfl).1 (pv 0)) (pa_cons (pe_pr (ok_true X) hr2 X.clB (X.pr _ _ "true" at_Board_true rfl).1 (pv 0)) (pa_cons (pe_pr (ok_readers X) hr2 X.clB (X.pr _ _ "readers" at_Board_readers rfl).1 (pv 0))
      (pa_cons (pe_pr (ok_under_way X) hr2 X.clB (X.pr _ _ "under_way" at_Board_under_way rfl).1 (pv 0)) (pa_cons (pe_lc (own := [("_law_k", 1)]) (g := gName 1) (tt := tYes) (te := tMeth (CB K) "sums" (spSums (CB K)) [] E0 (tVar 0) (tCons (tVar 1) tNil)) rfl nd (pi_range1 (by rfl) (X.mfre "range") (pa_cons (pe_pr (ok_readers X) hr2 X.clB (X.pr _ _ "readers" at_Board_readers rfl).1 (pv 0)) pa_nil))
        (blkOk_by (N := N_law_state) (sc := defScope s_law_state) (by decide +kernel)) (fun _ _ _ _ _ => pg_name (i := 1) nd rfl (Or.inl rfl)) (fun _ _ _ _ _ => pts_nil)
        (fun _ _ _ _ _ => pe_mt (ok_sums T) hr X.clB (X.mB "sums" (by decide +kernel)) (pv 0) (pa_cons (pv 1) pa_nil) passL)) pa_nil))))))), ?_⟩
    obtain ⟨a, dt, st, xs, en, h1, h2, h3, ⟨sa, ct, mt, lt, ms, ls, es, g1, g2, g3, g4, g5, g6, g7⟩⟩ := id B.now
    refine ⟨_, rfl, p, _, _, rfl, B.ob, p, dx, n, v, c, b, rfl, B, fun ct hct => ?_⟩
    refine ⟨_, rfl, p, _, _, rfl, B.ob, p, dx, n, v, c, b, rfl, B, ?_⟩
    refine ⟨_, rfl, p, _, _, rfl, B.ob, p, dx, n, v, c, b, rfl, B, ?_⟩
    refine ⟨_, rfl, p, _, _, rfl, B.ob, p, dx, n, v, c, b, rfl, B, by omega, fun H1 t s1 ht => ?_⟩
    have B1 := B.sm s1
    refine ⟨_, rfl, p, _, _, rfl, B1.ob, p, dx, n, v, c, b, rfl, B1, (b.now.sd.readers : Int), rfl, by omega, by omega, fun D hD => ?_⟩
    rw [Int.toNat_natCast]
    refine lc_it (walk_range (lo := 0) (n := b.now.sd.readers)) (fun i H2 => Same H1 H2 ∧ ∃ es : List V, es.length = i ∧ (∀ x ∈ es, DL H2 x (.tuple [])) ∧ H2 D = some (.lst es)) ⟨sN hD, [], rfl, fun _ z => (by cases z), upd_same⟩
      (fun _ _ _ _ => trivial) (fun i x H2 H3 hi ⟨s2, es, e1, e2, e3⟩ hy => ?_) (fun H2 ⟨s2, es, e1, e2, e3⟩ => ?_)
    · obtain ⟨rfl, rfl⟩ := hy
      have B3 := B1.sm s2
      refine ⟨rfl, ?_⟩
      refine yesT ?_
      refine ⟨_, rfl, p, _, _, rfl, B3.ob, rfl, _, rfl, p, dx, n, v, c, b, i, by simp, B3, hi, fun e he => ?_⟩
      have hDn : e ≠ D := fun z => by
        rw [z, e3] at he
        cases he
      refine ⟨es, e3, by rw [e1]; exact Nat.lt_of_lt_of_le (by omega : i < 1000) (line_le (Nat.le_refl 1000)), fun a o z => ?_, es ++ [.ref e], by simp [e1], fun x hx => ?_, upd_same⟩
      · rw [upd_ne (ne_of_none z hD)]
        exact s2 _ _ z
      · rcases List.mem_append.mp hx with hx | hx
        · obtain ⟨⟩ | ⟨⟩ | ⟨⟩ | ⟨⟩ | @⟨a, xs', _, ha, hall⟩ | ⟨⟩ := e2 x hx
          cases hall
          have haD : a ≠ D := fun z => by
            rw [z, e3] at ha
            cases ha
          exact .tup (by rw [upd_ne haD]; exact ha) .nil
        · rw [List.mem_singleton.mp hx]
          exact .tup (by rw [upd_ne hDn]; exact he) .nil
    · have S2 := s1.trans s2
      refine ⟨by show 5 ≤ sizeLine; decide, fun l hl => ?_⟩
      have s3 := sN (o := .lst [.ref ct, .int b.now.sd.total, .int b.now.sd.readers, .ref t, .ref D]) hl
      have k3 := Same.sk s3
      have hl0 : H l = none := by
        cases e : H l with
        | none => rfl
        | some o =>
          rw [S2 _ _ e] at hl
          cases hl
      refine q _ l (S2.trans s3) hl0 (.lst upd_same (.cons (.tup ((S2.trans s3) _ _ hct) (DLs.ints _)) (.cons (.int _) (.cons (.int _) (.cons (.tup ((s2.trans s3) _ _ ht) (DLs.ints _)) (.cons (.lst (s3 _ _ e3) ?_) .nil))))))
      have := dls_rep (d := .tuple []) fun x hx => DL.sk k3 (e2 x hx)
      rw [e1] at this
      exact this
end
end K21

/-! defs that make lambdas; _law_all -/
namespace K21
open PySem PySem.Spec PyProof.Rows L2 LamX
def tfL : List (Str × Option Str) := [("_law_all", none), ("_law_ended", none), ("_law_within", none), ("_law_copies_right", none), ("law", none)]
def TL (K : PySem.W.Frag) : List (Addr × Str) := tfL.map fun p => ((He.cT K p).2, (p.1 ++ ".<locals>.") ++ "<lambda>")
structure Tt (K : PySem.W.Frag) (mg : Str → Option Value) (base : Heap) : Prop where
  tu : Tu K mg
  tb : ∀ p ∈ tfL, LamX.TabB base mg (He.cT K p).1 (He.cT K p).2
  ap : (tfL.map fun p => (He.cT K p).2).Nodup
theorem nodup_fst {α β γ : Type} {f : α → β} {g : α → γ} : ∀ {l : List α}, (l.map f).Nodup → ∀ p ∈ l.map (fun a => (f a, g a)), ∀ q ∈ l.map (fun a => (f a, g a)), p.1 = q.1 → p = q
  | [], _, p, hp, _, _, _ => by cases hp
  | a :: l, h, p, hp, q, hq, e => by
    rw [List.map_cons, List.nodup_cons] at h
    rw [List.map_cons] at hp hq
    have key : ∀ r ∈ l.map (fun a => (f a, g a)), f a ≠ r.1 := fun r hr z => by
      obtain ⟨b, hb, rfl⟩ := List.mem_map.mp hr
      exact h.1 (z ▸ List.mem_map.mpr ⟨b, hb, rfl⟩)
    rcases List.mem_cons.mp hp with hp | hp
    · rcases List.mem_cons.mp hq with hq | hq
      · rw [hp, hq]
      · subst hp
        exact absurd e (key _ hq)
    · rcases List.mem_cons.mp hq with hq | hq
      · subst hq
        exact absurd e.symm (key _ hp)
      · exact nodup_fst h.2 p hp q hq e
section
variable {P : Program} {w : World} {K : PySem.W.Frag} {mg : Str → Option Value} {base : Heap}
theorem Tt.hm (T : Tt K mg base) {p : Str × Option Str} (hp : p ∈ tfL) : ((He.cT K p).2, (p.1 ++ ".<locals>.") ++ "<lambda>") ∈ TL K := List.mem_map.mpr ⟨p, hp, rfl⟩
theorem Tt.hu (T : Tt K mg base) {p : Str × Option Str} (hp : p ∈ tfL) : ∀ q ∈ TL K, q.1 = (He.cT K p).2 → q.2 = (p.1 ++ ".<locals>.") ++ "<lambda>" := fun q hq e =>
  congrArg Prod.snd (nodup_fst T.ap q hq _ (T.hm hp) e)
theorem Tt.okT (T : Tt K mg base) {i : Nat} {d : He.DefD} (hi : fnL[i]? = some d) {N ps : List Str} {k : Nat} {sp : Sp} (S : FnScope N ps d.scope) (h0 : d.dfl = []) (h1 : d.kwd = [])
    (hb : ∀ (kV doc pm : Value) (an : Option Addr) (cdv ct : Value) (us : List Value), us.length = ps.length → bindArgs (PySem.W.fnOf d.name d.qual d.params d.body d.scope .none kV doc pm an cdv ct) ⟨us, []⟩ = pure (ps.zip us))
    (len : ∀ vs H Q E, sp vs H Q E → vs.length = ps.length)
    (body : ∀ (A : Around) (outer : List Env) (s : Shared) (H : Hp) (vs : List V) (Q : VK) (E : XK), Room k (A.deeper (envOfC d.qual d.scope s.heap.objs.size (He.fAd K d.at_) (.ref (He.cT K d.at_).1))) → sp vs H Q E →
      ∃ t, PSs (cxOf (L2.CX P w) P w K mg base N d.qual d.scope (He.fAd K d.at_) (.ref (He.cT K d.at_).1) A outer s H E) d.body t ∧ t { nx := fun _ H' => Q .non H', rt := Q } (start N vs) H) :
    Ok P w K mg base (k + 1) (He.fAd K d.at_) ps [] sp := by
  obtain ⟨fd, F⟩ := T.tu.tv.tw.tz.tx.fn i d hi
  have e0 : d.dvs K = [] := by
    unfold He.DefD.dvs
    rw [h0]
    rfl
  have e1 : d.kws K = [] := by
    unfold He.DefD.kws
    rw [h1]
    rfl
  rw [e0, e1] at F
  refine ⟨⟨fd, [], ?_, .nil, F.bindsN hb⟩, F.kp⟩
  obtain ⟨oc, od, dV, kV, doc, pm, an, cdv, ct, osl, rfl, lk, hcd, _, _⟩ := F.ex
  obtain ⟨c, rfl⟩ := He.codeIn_ref hcd
  have ec : (He.cT K d.at_).1 = c := He.codeOf_eq lk rfl
  subst ec
  exact L2.fn_of lk hcd S len fun A outer s H vs Q E hr h => body A outer s H vs Q E hr h
end
/-! ### a list that grows, what stands in it -/
/-- the heap without what stands at l -/
def er (l : Addr) (H : Hp) : Hp := fun a => if a = l then none else H a
theorem er_ne {l a : Addr} {H : Hp} (h : a ≠ l) : er l H a = H a := if_neg h
theorem er_sk {l : Addr} {H : Hp} : SK (er l H) H := by
  refine ⟨fun a xs h => ?_, fun a xs h => ?_⟩ <;>
  · unfold er at h
    split at h
    · cases h
    · exact h
theorem er_kw {l : Addr} {S : List Addr} {H H' : Hp} (k : Kw S H H') (f : ∀ a ∈ S, a = l ∨ ∃ o, H a = some o ∧ noSq o = true) : SK (er l H) (er l H') := by
  refine ⟨fun a xs h => ?_, fun a xs h => ?_⟩ <;>
  · unfold er at h ⊢
    split at h
    · cases h
    · next hn =>
      rw [if_neg hn]
      refine k a _ h (fun _ z => by cases z) fun m => ?_
      rcases f a m with z | ⟨o, e, n⟩
      · exact hn z
      · rw [h] at e
        cases e
        cases n
theorem er_new {l : Addr} {H H' : Hp} (h : H l = none) (s : Same H H') : SK H (er l H') := by
  refine ⟨fun a xs e => ?_, fun a xs e => ?_⟩ <;>
  · rw [er_ne (ne_of_none e h)]
    exact s _ _ e
theorem dl_st_er {H : Hp} {l l2 a : Addr} {ys rest : List V} {s : Sd} (hl : H l = some (.lst (.ref a :: rest))) (ha : H a = some (.lst ys)) (ne : l2 ≠ l) (h : DL H (.ref l2) (stD s)) : DL (er l H) (.ref l2) (stD s) := by
  have tn : ∀ {b : Addr} {xs : List V}, H b = some (.tup xs) → er l H b = some (.tup xs) := fun {b xs} e => by
    rw [er_ne (fun z => by rw [z, hl] at e; cases e)]
    exact e
  have inz : ∀ {xs : List V} {ns : List Int}, DLs H xs (ns.map PyData.int) → DLs (er l H) xs (ns.map PyData.int) := by
    intro xs ns
    induction ns generalizing xs with
    | nil =>
      intro q
      cases q
      exact .nil
    | cons n r ih =>
      intro q
      cases q with
      | cons a b =>
        cases a
        exact .cons (.int _) (ih b)
  have tups : ∀ {xs : List V} {n : Nat}, DLs H xs (List.replicate n (.tuple [])) → DLs (er l H) xs (List.replicate n (.tuple [])) := by
    intro xs n
    induction n generalizing xs with
    | zero =>
      intro q
      cases q
      exact .nil
    | succ n ih =>
      intro q
      cases q with
      | cons a b =>
        cases a with
        | tup e r =>
          cases r
          exact .cons (.tup (tn e) .nil) (ih b)
  unfold stD at h ⊢
  cases h with
  | lst e r =>
    cases r with
    | cons r1 r =>
      cases r with
      | cons r2 r =>
        cases r with
        | cons r3 r =>
          cases r with
          | cons r4 r =>
            cases r with
            | cons r5 r =>
              cases r
              cases r1 with
              | tup f1 g1 =>
                cases r2
                cases r3
                cases r4 with
                | tup f4 g4 =>
                  cases r5 with
                  | @lst D es _ f5 g5 =>
                    have nD : D ≠ l := fun z => by
                      subst z
                      rw [hl] at f5
                      cases f5
                      cases hn : s.readers with
                      | zero =>
                        rw [hn] at g5
                        cases g5
                      | succ n =>
                        rw [hn] at g5
                        cases g5 with
                        | cons a b =>
                          cases a with
                          | tup e r =>
                            rw [ha] at e
                            cases e
                    exact .lst (by rw [er_ne ne]; exact e) (.cons (.tup (tn f1) (inz g1)) (.cons (.int _) (.cons (.int _) (.cons (.tup (tn f4) (inz g4)) (.cons (.lst (by rw [er_ne nD]; exact f5) (tups g5)) .nil)))))
/-! ### a board's whole way as data -/
def stL (ns : List Nw) : List PyData := ns.map fun n => stD n.sd
def allD (b : Bd) : PyData := .list (stD b.now.sd :: (stL b.past.reverse ++ stL b.coming.reverse))
theorem allD_sh (b : Bd) : Sh 4 (allD b) := Sh.list fun d hd => by
  have key : ∀ ns : List Nw, d ∈ stL ns → Sh 3 d := fun ns h => by
    obtain ⟨n, _, rfl⟩ := List.mem_map.mp h
    exact stD_sh _
  rcases List.mem_cons.mp hd with rfl | hd
  · exact stD_sh _
  · rcases List.mem_append.mp hd with h | h
    · exact key _ h
    · exact key _ h
theorem rev_last {α : Type} {l : List α} {d : α} (h : 1 ≤ l.length) : l.reverse = l.getD (l.length - 1) d :: (l.take (l.length - 1)).reverse := by
  have e : l = l.take (l.length - 1) ++ [l.getD (l.length - 1) d] := by
    have h2 : l.length - 1 < l.length := by omega
    rw [List.getD_eq_getElem?_getD, List.getElem?_eq_getElem h2]
    show l = List.take (l.length - 1) l ++ [l[l.length - 1]]
    exact ((List.take_append_getElem h2).trans (List.take_of_length_le (by omega))).symm
  calc l.reverse = (l.take (l.length - 1) ++ [l.getD (l.length - 1) d]).reverse := congrArg List.reverse e
    _ = _ := by rw [List.reverse_append]; rfl
end K21

/-! _law_all -/
namespace K21
open PySem PySem.Spec PyProof.Rows L2 LamX
theorem passAL {X : Cx} (σ : L2.St) : PassesAt (L2.CX X.prog X.w) X σ ((fun _ => E0 : L2.St → XK) σ) := fun pins H s e s' I c => passL pins σ H s e s' I c
theorem passAX {X : Cx} {E : XK} (h : Passes (L2.CX X.prog X.w) X E) (σ : L2.St) : PassesAt (L2.CX X.prog X.w) X σ ((fun _ => E : L2.St → XK) σ) := fun pins H s e s' I c => h pins σ H s e s' I c
theorem dls_len {H : Hp} : ∀ {vs : List V} {ds : List PyData}, DLs H vs ds → vs.length = ds.length
  | _, _, .nil => rfl
  | _, _, .cons _ t => congrArg Nat.succ (dls_len t)
theorem iteP {p : Bool} {A B : Prop} (e : p = true) (h : A) : if p = true then A else B := by
  rw [if_pos e]
  exact h
theorem iteN {p : Bool} {A B : Prop} (e : p = false) (h : B) : if p = true then A else B := by
  rw [e, if_neg Bool.false_ne_true]
  exact h
theorem TabS.keep {H H' : Hp} {S : List Addr} {p : Addr} {q : Str} (t : TabS H p q) (k : Kp S H H') (f : ∀ a ∈ S, ∃ o, H a = some o ∧ mutO o = true) : TabS H' p q := by
  obtain ⟨ps, h1, h2, h3⟩ := t
  have f' : OffM H S := f
  refine ⟨ps, k _ _ h1 (f'.not h1 rfl), h2, fun pos cv hc => ?_⟩
  obtain ⟨c0, e1, e2⟩ := h3 pos cv hc
  exact ⟨c0, e1, k _ _ e2 (f'.not e2 rfl)⟩
theorem tabs_m {T : List (Addr × Str)} {H H' : Hp} {S : List Addr} (t : Tabs T H) (k : Kp S H H') (f : OffM H S) : Tabs T H' := fun p hp => TabS.keep (t p hp) k f
theorem tabs_kp {T : List (Addr × Str)} {H H' : Hp} {S : List Addr} (t : Tabs T H) (k : Kp S H H') (f : OffI H S) : Tabs T H' := tabs_m t k f.offM
theorem tabs_l {T : List (Addr × Str)} {H : Hp} {l : Addr} {xs ys : List V} (t : Tabs T H) (h : H l = some (.lst xs)) : Tabs T (upd H l (.lst ys)) := tabs_m t (Kp.upd (S := [l]) (by simp)) (OffM.cons h rfl OffM.nil)
theorem tk_l {H : Hp} {l : Addr} {xs ys : List V} (h : H l = some (.lst xs)) : TK H (upd H l (.lst ys)) := fun a zs e => by
  rw [upd_ne (fun z => by rw [z, h] at e; cases e)]
  exact e
section
variable {P : Program} {w : World} {K : PySem.W.Frag} {mg : Str → Option Value} {base : Heap}
def spAll (K : PySem.W.Frag) : Sp := fun vs H Q _ => ∃ p dx n v c b M, vs = [.ref p] ∧ BdAt (CB K) H p dx n v c b ∧ BdOk M b ∧ M ≤ 600 ∧ Tabs (TL K) H ∧ ∀ H' l, Kw [] H H' → Tabs (TL K) H' → H l = none → DL H' (.ref l) (allD b) → Q (.ref l) H'
theorem ok_law_all (T : Tt K mg base) : Ok P w K mg base 8 (He.fAd K d_law_all.at_) ["_law_board"] [] (spAll K) := by
  refine T.okT at_law_all sc_law_all rfl rfl (fun _ _ _ _ _ _ us hl => match us, hl with | [_], _ => rfl) (fun vs H Q E h => ?_) (fun A outer s H vs Q E hr h => ?_)
  · obtain ⟨p, dx, n, v, c, b, M, rfl, _⟩ := h
    rfl
  · obtain ⟨p, dx, n, v, c, b, M, rfl, B, ok, hM, hT, qq⟩ := h
    have U := T.tu
    have Z := U.tv.tw.tz
    have X := Z.tx
    have hr5 : Room 5 _ := hr.mono (by decide)
    have nd := sc_law_all.nd
    have hm := T.hm (p := ("_law_all", none)) (by decide)
    have hu := T.hu (p := ("_law_all", none)) (by decide)
    have TB := T.tb ("_law_all", none) (by decide)
    refine ⟨_, pss_cons (ps_asg (pe_tup (pa_cons (pe_lst (pa_cons (pe_fn (ok_law_state Z) hr5 (X.mglo "_law_state") (pa_cons (pv 0) pa_nil) passL) pa_nil)) (pa_cons (pe_mt0 (ok_copy Z) hr5 X.clB (X.mB "copy" (by decide +kernel)) (pv 0) passL) pa_nil))) (pg_tup (n := 2) rfl (pgs_cons (pg_name (i := 1) nd rfl (.inl rfl)) (pgs_cons (pg_name (i := 2) nd rfl (.inr rfl)) pgs_nil))))
      (pss_cons (ps_while (passes_of rfl) (pt_cmpR (op_eqD hr.units) (pe_fnS (E := fun _ => E0) (ok_said U (k := 5) (by decide)) (hr.mono (by decide)) (X.mglo "_law_said") (pa_cons (pe_lam0 (T := TL K) TB rfl hm hu ?hf1) pa_nil) passAL) (pe_lst (pa_cons pe_non pa_nil)) (nomark _))
        (pss_one (ps_expr (pe_bm PySem.F.plainAttrs_list PySem.F.slot_list_append PySem.F.type_list_append mt_append (pv 1) (pa_cons (pe_fn (ok_law_state Z) hr5 (X.mglo "_law_state") (pa_cons (pe_var (i := 2) rfl (.inr (.inl rfl))) pa_nil) passL) pa_nil)))))
      (pss_cons (ps_set (i := 2) nd rfl (.inr rfl) (pe_mt0 (ok_copy Z) hr5 X.clB (X.mB "copy" (by decide +kernel)) (pv 0) passL))
      (pss_cons (ps_while (passes_of rfl) (pt_cmpR (op_eqD hr.units) (pe_fnS (E := fun _ => E0) (ok_said U (k := 5) (by decide)) (hr.mono (by decide)) (X.mglo "_law_said") (pa_cons (pe_lam1 (T := TL K) TB rfl hm hu ?hf2 pe_int) pa_nil) passAL) (pe_lst (pa_cons pe_non pa_nil)) (nomark _))
        (pss_one (ps_expr (pe_bm PySem.F.plainAttrs_list PySem.F.slot_list_append PySem.F.type_list_append mt_append (pv 1) (pa_cons (pe_fn (ok_law_state Z) hr5 (X.mglo "_law_state") (pa_cons (pe_var (i := 2) rfl (.inr (.inl rfl))) pa_nil) passL) pa_nil)))))
      (pss_one (ps_ret (pv 1)))))), ?_⟩
    case hf1 => exact fun ok' => LamP.has (lamP_by (sc := defScope s_law_all) (N := N_law_all) (ps := []) (by decide +kernel)) ok'
    case hf2 => exact fun ok' => LamP.has (lamP_by (sc := defScope s_law_all) (N := N_law_all) (ps := ["_law_n"]) (by decide +kernel)) ok'
    refine ⟨_, rfl, p, dx, n, v, c, b, M, rfl, B, ok, by omega, fun H1 l0 s1 hl0 D1 => ?_⟩
    refine ⟨by show 1 ≤ sizeLine; decide, fun l hl => ?_⟩
    have s2 := sN (H := H1) (a := l) (o := (.lst [.ref l0])) hl
    have h2 : upd H1 l (.lst [.ref l0]) l = some (.lst [.ref l0]) := upd_same
    revert s2 h2
    generalize upd H1 l (.lst [.ref l0]) = H2
    intro s2 h2
    have B2 := (B.sm s1).sm s2
    refine ⟨_, rfl, p, _, _, rfl, B2.ob, rfl, p, dx, n, v, c, b, rfl, B2, fun H3 q0 dq0 k3 hq0 B3 => ?_⟩
    refine ⟨by show 2 ≤ sizeLine; decide, fun t ht => ?_⟩
    have s4 := sN (H := H3) (a := t) (o := (.tup [.ref l, .ref q0])) ht
    have h4 : upd H3 t (.tup [.ref l, .ref q0]) t = some (.tup [.ref l, .ref q0]) := upd_same
    revert s4 h4
    generalize upd H3 t (.tup [.ref l, .ref q0]) = H4
    intro s4 h4
    refine ⟨t, _, rfl, SqT.of h4, rfl, _, _, rfl, _, _, rfl, rfl, ?_⟩
    have hln : H l = none := by
      cases e : H l with
      | none => rfl
      | some o =>
        rw [s1 _ _ e] at hl
        cases hl
    have hq0n : H q0 = none := by
      cases e : H q0 with
      | none => rfl
      | some o =>
        rw [s2 _ _ (s1 _ _ e)] at hq0
        cases hq0
    have k04 : Kp [] H H4 := ((Kp.of_same s1).trans (Kp.of_same s2)).trans (k3.trans (Kp.of_same s4))
    have hl4 := s4 _ _ (k3 _ _ h2 (by simp))
    have T4 : Tabs (TL K) H4 := tabs_kp hT k04 OffI.nil
    have D4 : DL (er l H4) (.ref l0) (stD b.now.sd) := DL.sk (er_kw (k3.trans (Kp.of_same s4)).kw (fun _ z => by cases z)) (DL.sk (er_new hl s2) D1)
    -- the way back
    · refine ⟨fun m σ' H' => ∃ (q dq : Addr) (n' v' c' : V) (o : Bd) (xs : List V) (done : List Nw), σ' = [some (.ref p), some (.ref l), some (.ref q)] ∧ Kw [l] H H' ∧ H' l = some (.lst (.ref l0 :: xs)) ∧ DLs (er l H') (.ref l0 :: xs) (stD b.now.sd :: ( stL done)) ∧
        BdAt (CB K) H' q dq n' v' c' o ∧ BdOk M o ∧ Tabs (TL K) H' ∧ done ++ o.past.reverse = b.past.reverse ∧ m = o.past.length ∧ H q = none, ⟨_, q0, dq0, n, v, c, b, [], [], rfl, k04.kw.mono (by simp), hl4, .cons D4 .nil, B3.sm s4, ok, T4, rfl, rfl, hq0n⟩, ?_⟩
      rintro m σ' H' ⟨q, dq, n', v', c', o, xs, done, rfl, kw, hl', DD, Bq, oko, hT', etot, rfl, hqn⟩
      refine ⟨hT', fun f H2 e2 T2 hf LA pins s2 I2 => ?_⟩
      have k2 : Kw [] H' H2 := Kw.ext e2
      refine ⟨f, _, rfl, lam_clos (n := 0) (ps := []) (nd := false) (ds := []) I2 (by exact lamP_by (sc := defScope s_law_all) (N := N_law_all) (by decide +kernel)) rfl (.inl ⟨rfl, rfl⟩) (fun _ q cl pm cv ctv us hl => match us, hl with | [], _ => rfl) (fun z => by cases z)
        (fun A' outer' s1 H1 E1 c' hr' un hfo => pe_mt0 ((ok_undo Z).1) (hr'.mono (by decide)) X.clB (X.mB "undo" (by decide +kernel)) (pe_var (i := 2) rfl (.inr (.inr rfl))) passX), LA.fnH, fun H3 s3 Q1 E1 hQ hE => ⟨rfl, LA.kp (Kp.of_same (S := []) s3) OffM.nil, ?_⟩⟩
      have k3 : Kw [] H' H3 := k2.trans (Kp.of_same s3).kw
      have T3 : Tabs (TL K) H3 := T2.ext s3
      have B3 := Bq.atw k3 Off.nil (by simp)
      refine ⟨_, rfl, q, _, _, rfl, B3.ob, rfl, q, dq, n', v', c', o, 1, M, rfl, B3, oko, by omega, by decide, fun hle H4 n4 v4 c4 k4 B4 ok4 => ?_, fun hlt dd hdd => ?_⟩
      · refine hQ _ _ fun H5 lp s5 hp => ⟨by show 1 ≤ sizeLine; decide, fun l2 hl2 => ?_⟩
        have s6 := sN (H := H5) (a := l2) (o := (.lst [.non])) hl2
        have h6 : upd H5 l2 (.lst [.non]) l2 = some (.lst [.non]) := upd_same
        revert s6 h6
        generalize upd H5 l2 (.lst [.non]) = H6
        intro s6 h6
        refine ⟨.list [.none], .list [.none], .lst (SqL.of (s6 _ _ hp)) (.cons .non .nil), .lst (SqL.of h6) (.cons .non .nil), by decide, by decide, _, rfl, ?_⟩
        refine iteP (by rfl) ?_
        refine ⟨_, fun _ _ z => z, ?_⟩
        have s46 : Same H4 H6 := s5.trans s6
        have k6 : Kw [q] H' H6 := (k3.mono (by simp)).trans (k4.trans (Kp.of_same s46)).kw
        have T6 : Tabs (TL K) H6 := ((tabs_kp T3 k4 (OffI.cons B3.ob rfl OffI.nil)).ext s46)
        have B6 := B4.sm s46
        have f6 : ∀ a ∈ [q], a = l ∨ ∃ o, H' a = some o ∧ noSq o = true := fun a ha => .inr (by rw [List.mem_singleton.mp ha]; exact ⟨_, Bq.ob, rfl⟩)
        have D6 := DLs.sk (er_kw k6 f6) DD
        have hlq : l ≠ q := fun z => by
          rw [z, Bq.ob] at hl'
          cases hl'
        have hl6 := k6 l _ hl' (fun _ z => by cases z) (fun z => hlq (List.mem_singleton.mp z))
        refine ⟨_, rfl, .inl ⟨rfl, _, SqL.of hl6⟩, _, rfl, q, dq, n4, v4, c4, _, M, rfl, B6, ok4, by omega, fun H7 l7 s7 hl7 D7 => ?_⟩
        have hl8 := s7 _ _ hl6
        have D8 := DLs.sk (er_kw (Kp.of_same (S := []) s7).kw (fun _ z => by cases z)) D6
        have lenD := dls_len D8
        refine ⟨l, _, _, rfl, rfl, hl8, by
          have h1 := congrArg List.length etot
          have h2 := ok.pc
          simp only [List.length_append, List.length_cons, List.length_map, List.length_reverse, stL] at h1 lenD ⊢
          exact Nat.lt_of_lt_of_le (by omega : _ < 1000) (line_le (Nat.le_refl 1000)), ?_⟩
        have ne7 : l7 ≠ l := fun z => by
          rw [z, hl6] at hl7
          cases hl7
        obtain ⟨ys, hys⟩ : ∃ ys, H7 l0 = some (.lst ys) := by
          cases D8 with
          | cons a _ =>
            cases a with
            | lst e _ => exact ⟨_, er_sk.2 _ _ e⟩
        have DN := dl_st_er hl8 hys ne7 D7
        have k9 : SK (er l H7) (er l (upd H7 l (.lst (.ref l0 :: xs ++ [.ref l7])))) := er_kw (Kw.upd (S := [l]) (by simp)) (fun a ha => .inl (List.mem_singleton.mp ha))
        refine ⟨_, ?_, q, dq, n4, v4, c4, undoB 1 o, xs ++ [.ref l7], done ++ [(undoB 1 o).now], rfl, ?_, upd_same, ?_, (B6.sm s7).kp (tk_l hl8) (by rw [upd_ne hlq.symm]; exact s7 _ _ B6.ob), ok4, ?_, ?_, rfl, hqn⟩
        · show (undoB 1 o).past.length < o.past.length
          unfold undoB
          simp only [List.length_take]
          omega
        · have kk : Kw [q, l] H (upd H7 l (.lst (.ref l0 :: xs ++ [.ref l7]))) := ((kw.mono (by simp)).trans ((k6.mono (T := [q, l]) (by simp)).trans ((Kp.of_same s7).kw.trans (Kw.upd (by simp)))))
          exact kk.cut (S := [l]) fun a ha => by
            simp only [List.mem_cons, List.mem_nil_iff, or_false] at ha
            rcases ha with rfl | rfl
            · exact .inr hqn
            · exact .inl List.mem_cons_self
        · have := DLs.app (DLs.sk k9 D8) (.cons (DL.sk k9 DN) .nil)
          have e : stL (done ++ [(undoB 1 o).now]) = stL done ++ [stD (undoB 1 o).now.sd] := by unfold stL; rw [List.map_append]; rfl
          rw [e]
          simpa [List.append_assoc] using this
        · exact tabs_l (T6.ext s7) hl8
        · rw [← etot, rev_last (d := o.now) hle, List.append_assoc]
          rfl
      · refine hE false dd (.int 1) _ upd_same fun H5 lp s5 hp => ⟨by show 1 ≤ sizeLine; decide, fun l2 hl2 => ?_⟩
        have sd := sN (o := .xd [(fieldR false, .int 1)]) hdd
        have s6 := sN (H := H5) (a := l2) (o := (.lst [.non])) hl2
        have h6 : upd H5 l2 (.lst [.non]) l2 = some (.lst [.non]) := upd_same
        revert s6 h6
        generalize upd H5 l2 (.lst [.non]) = H6
        intro s6 h6
        refine ⟨.tuple [.str (wordR false), .int 1], .list [.none], .tup (SqT.of (s6 _ _ hp)) (.cons (.str _) (.cons (.int _) .nil)), .lst (SqL.of h6) (.cons .non .nil), (Sh.tuple (k := 0) (ds := [.str (wordR false), .int 1]) fun d hd => by simp at hd; rcases hd with rfl | rfl; exact ⟨(by decide +kernel : PyData.strOk "left" = true), Nat.zero_le _⟩; exact Sh.int _).shaped (by decide), by decide, _, rfl, ?_⟩
        refine iteN (by rfl) ?_
        have s36 : Same H3 H6 := (sd.trans s5).trans s6
        have k6 : Kw [] H' H6 := k3.trans (Kp.of_same s36).kw
        have T6 : Tabs (TL K) H6 := T3.ext s36
        have D6 := DLs.sk (er_kw k6 (fun _ z => by cases z)) DD
        have hl6 := k6 l _ hl' (fun _ z => by cases z) (by simp)
        have e0 : o.past = [] := List.eq_nil_of_length_eq_zero (by omega)
        rw [e0, List.reverse_nil, List.append_nil] at etot
        subst etot
        have kwF0 : Kw [l] H H6 := kw.trans (k6.mono (by simp))
        have kwF : Kw [] H H6 := kwF0.cut (S := []) fun a ha => .inr (by rw [List.mem_singleton.mp ha]; exact hln)
        obtain ⟨HB, eHB⟩ : ∃ HB, HB = H6 := ⟨_, rfl⟩
        rw [← eHB] at kwF
        subst eHB
        have B6 := B.atw kwF Off.nil (by simp)
        refine ⟨_, rfl, p, _, _, rfl, B6.ob, rfl, p, dx, n, v, c, b, rfl, B6, fun H7 q7 dq7 k7 hq7 B7 => ?_⟩
        have D7 := DLs.sk (er_kw k7.kw (fun _ z => by cases z)) D6
        have hl7 := k7 l _ hl6 (by simp)
        have T7 : Tabs (TL K) H7 := tabs_kp T6 k7 OffI.nil
        have mP := ok.pc
        have lenP : (stL b.past.reverse).length = b.past.length := by simp [stL]
        -- the way on
        · refine ⟨fun m σ' H' => ∃ (q dq : Addr) (n' v' c' : V) (o : Bd) (xs : List V) (done : List Nw), σ' = [some (.ref p), some (.ref l), some (.ref q)] ∧ Kw [l] HB H' ∧ H' l = some (.lst (.ref l0 :: xs)) ∧ DLs (er l H') (.ref l0 :: xs) (stD b.now.sd :: (stL b.past.reverse ++ stL done)) ∧
            BdAt (CB K) H' q dq n' v' c' o ∧ BdOk M o ∧ Tabs (TL K) H' ∧ done ++ o.coming.reverse = b.coming.reverse ∧ m = o.coming.length ∧ HB q = none, ⟨_, q7, dq7, n, v, c, b, _, [], rfl, k7.kw.mono (by simp), hl7, by simpa [stL] using D7, B7, ok, T7, rfl, rfl, hq7⟩, ?_⟩
          rintro m σ' H' ⟨q, dq, n', v', c', o, xs, done, rfl, kw, hl', DD, Bq, oko, hT', etot, rfl, hqn⟩
          refine ⟨hT', fun f H2 e2 T2 hf LA pins s2 I2 => ?_⟩
          have k2 : Kw [] H' H2 := Kw.ext e2
          refine ⟨f, _, rfl, lam_clos (n := 0) (ps := ["_law_n"]) (nd := true) (ds := [.int 0]) I2 (by exact lamP_by (sc := defScope s_law_all) (N := N_law_all) (by decide +kernel)) rfl (.inr ⟨rfl, rfl⟩) (fun z => by cases z) (fun _ q cl pm cv ctv T us its h1 h2 => match us, its, h1, h2 with | [], [_], _, _ => ⟨_, rfl, rfl⟩)
            (fun A' outer' s1 H1 E1 c' hr' un hfo => pe_mt0 ((ok_redo Z).1) (hr'.mono (by decide)) X.clB (X.mB "redo" (by decide +kernel)) (pe_var (i := 2) rfl (.inr (.inr rfl))) passX), LA.fnH, fun H3 s3 Q1 E1 hQ hE => ⟨rfl, LA.kp (Kp.of_same (S := []) s3) OffM.nil, ?_⟩⟩
          have k3 : Kw [] H' H3 := k2.trans (Kp.of_same s3).kw
          have T3 : Tabs (TL K) H3 := T2.ext s3
          have B3 := Bq.atw k3 Off.nil (by simp)
          refine ⟨_, rfl, q, _, _, rfl, B3.ob, rfl, q, dq, n', v', c', o, 1, M, rfl, B3, oko, by omega, by decide, fun hle H4 n4 v4 c4 k4 B4 ok4 => ?_, fun hlt dd hdd => ?_⟩
          · refine hQ _ _ fun H5 lp s5 hp => ⟨by show 1 ≤ sizeLine; decide, fun l2 hl2 => ?_⟩
            have s6 := sN (H := H5) (a := l2) (o := (.lst [.non])) hl2
            have h6 : upd H5 l2 (.lst [.non]) l2 = some (.lst [.non]) := upd_same
            revert s6 h6
            generalize upd H5 l2 (.lst [.non]) = H6
            intro s6 h6
            refine ⟨.list [.none], .list [.none], .lst (SqL.of (s6 _ _ hp)) (.cons .non .nil), .lst (SqL.of h6) (.cons .non .nil), by decide, by decide, _, rfl, ?_⟩
            refine iteP (by rfl) ?_
            refine ⟨_, fun _ _ z => z, ?_⟩
            have s46 : Same H4 H6 := s5.trans s6
            have k6 : Kw [q] H' H6 := (k3.mono (by simp)).trans (k4.trans (Kp.of_same s46)).kw
            have T6 : Tabs (TL K) H6 := ((tabs_kp T3 k4 (OffI.cons B3.ob rfl OffI.nil)).ext s46)
            have B6 := B4.sm s46
            have f6 : ∀ a ∈ [q], a = l ∨ ∃ o, H' a = some o ∧ noSq o = true := fun a ha => .inr (by rw [List.mem_singleton.mp ha]; exact ⟨_, Bq.ob, rfl⟩)
            have D6 := DLs.sk (er_kw k6 f6) DD
            have hlq : l ≠ q := fun z => by
              rw [z, Bq.ob] at hl'
              cases hl'
            have hl6 := k6 l _ hl' (fun _ z => by cases z) (fun z => hlq (List.mem_singleton.mp z))
            refine ⟨_, rfl, .inl ⟨rfl, _, SqL.of hl6⟩, _, rfl, q, dq, n4, v4, c4, _, M, rfl, B6, ok4, by omega, fun H7 l7 s7 hl7 D7 => ?_⟩
            have hl8 := s7 _ _ hl6
            have D8 := DLs.sk (er_kw (Kp.of_same (S := []) s7).kw (fun _ z => by cases z)) D6
            have lenD := dls_len D8
            refine ⟨l, _, _, rfl, rfl, hl8, by
          have h1 := congrArg List.length etot
          have h2 := ok.pc
          simp only [List.length_append, List.length_cons, List.length_map, List.length_reverse, stL] at h1 lenD ⊢
          exact Nat.lt_of_lt_of_le (by omega : _ < 1000) (line_le (Nat.le_refl 1000)), ?_⟩
            have ne7 : l7 ≠ l := fun z => by
              rw [z, hl6] at hl7
              cases hl7
            obtain ⟨ys, hys⟩ : ∃ ys, H7 l0 = some (.lst ys) := by
              cases D8 with
              | cons a _ =>
                cases a with
                | lst e _ => exact ⟨_, er_sk.2 _ _ e⟩
            have DN := dl_st_er hl8 hys ne7 D7
            have k9 : SK (er l H7) (er l (upd H7 l (.lst (.ref l0 :: xs ++ [.ref l7])))) := er_kw (Kw.upd (S := [l]) (by simp)) (fun a ha => .inl (List.mem_singleton.mp ha))
            refine ⟨_, ?_, q, dq, n4, v4, c4, redoB 1 o, xs ++ [.ref l7], done ++ [(redoB 1 o).now], rfl, ?_, upd_same, ?_, (B6.sm s7).kp (tk_l hl8) (by rw [upd_ne hlq.symm]; exact s7 _ _ B6.ob), ok4, ?_, ?_, rfl, hqn⟩
            · show (redoB 1 o).coming.length < o.coming.length
              unfold redoB
              simp only [List.length_take]
              omega
            · have kk : Kw [q, l] HB (upd H7 l (.lst (.ref l0 :: xs ++ [.ref l7]))) := ((kw.mono (by simp)).trans ((k6.mono (T := [q, l]) (by simp)).trans ((Kp.of_same s7).kw.trans (Kw.upd (by simp)))))
              exact kk.cut (S := [l]) fun a ha => by
                simp only [List.mem_cons, List.mem_nil_iff, or_false] at ha
                rcases ha with rfl | rfl
                · exact .inr hqn
                · exact .inl List.mem_cons_self
            · have := DLs.app (DLs.sk k9 D8) (.cons (DL.sk k9 DN) .nil)
              have e : stL (done ++ [(redoB 1 o).now]) = stL done ++ [stD (redoB 1 o).now.sd] := by unfold stL; rw [List.map_append]; rfl
              rw [e]
              simpa [List.append_assoc] using this
            · exact tabs_l (T6.ext s7) hl8
            · rw [← etot, rev_last (d := o.now) hle, List.append_assoc]
              rfl
          · refine hE false dd (.int 1) _ upd_same fun H5 lp s5 hp => ⟨by show 1 ≤ sizeLine; decide, fun l2 hl2 => ?_⟩
            have sd := sN (o := .xd [(fieldR false, .int 1)]) hdd
            have s6 := sN (H := H5) (a := l2) (o := (.lst [.non])) hl2
            have h6 : upd H5 l2 (.lst [.non]) l2 = some (.lst [.non]) := upd_same
            revert s6 h6
            generalize upd H5 l2 (.lst [.non]) = H6
            intro s6 h6
            refine ⟨.tuple [.str (wordR false), .int 1], .list [.none], .tup (SqT.of (s6 _ _ hp)) (.cons (.str _) (.cons (.int _) .nil)), .lst (SqL.of h6) (.cons .non .nil), (Sh.tuple (k := 0) (ds := [.str (wordR false), .int 1]) fun d hd => by simp at hd; rcases hd with rfl | rfl; exact ⟨(by decide +kernel : PyData.strOk "left" = true), Nat.zero_le _⟩; exact Sh.int _).shaped (by decide), by decide, _, rfl, ?_⟩
            refine iteN (by rfl) ?_
            have s36 : Same H3 H6 := (sd.trans s5).trans s6
            have k6 : Kw [] H' H6 := k3.trans (Kp.of_same s36).kw
            have T6 : Tabs (TL K) H6 := T3.ext s36
            have D6 := DLs.sk (er_kw k6 (fun _ z => by cases z)) DD
            have hl6 := k6 l _ hl' (fun _ z => by cases z) (by simp)
            have e0 : o.coming = [] := List.eq_nil_of_length_eq_zero (by omega)
            rw [e0, List.reverse_nil, List.append_nil] at etot
            subst etot
            have kwG : Kw [l] HB H6 := kw.trans (k6.mono (by simp))
            have kwE : Kw [] H H6 := (kwF.mono (T := [l]) (by simp)).trans kwG |>.cut (S := []) fun a ha => .inr (by rw [List.mem_singleton.mp ha]; exact hln)
            refine ⟨_, rfl, qq _ l kwE T6 hln (.lst hl6 ?_)⟩
            exact DLs.sk er_sk D6

end
end K21

/-! _law_inside -/
namespace K21
open PySem PySem.Spec PyProof.Rows L2 LamX
section
variable {P : Program} {w : World} {K : PySem.W.Frag} {mg : Str → Option Value} {base : Heap}
def spInside (K : PySem.W.Frag) : Sp := fun vs H Q _ => ∃ d p dx n v c b M g, vs = [.ref d, .ref p, .ref p] ∧ BdAt (CB K) H p dx n v c b ∧ BdOk M b ∧ M ≤ 500 ∧ g ≤ 80000 ∧ Dr H d g ∧ 1 ≤ b.past.length ∧
  ∀ (H' : Hp) (n' v' c' : V) (b' : Bd) (r : Int), Kp [d, p] H H' → Dr H' d (g + 14) → BdAt (CB K) H' p dx n' v' c' b' → Q (.int r) H'
theorem ok_law_inside (T : Tz K mg) : Ok P w K mg base 7 (He.fAd K d_law_inside.at_) ["_law_draw", "_law_one", "_law_board"] [] (spInside K) := by
  refine T.tx.ok at_law_inside sc_law_inside rfl rfl (fun _ _ _ _ _ _ us hl => match us, hl with | [_, _, _], _ => rfl) (fun vs H Q E h => ?_) (fun cdv A outer s H vs Q E hr h => ?_)
  · obtain ⟨d, p, dx, n, v, c, b, M, g, rfl, _⟩ := h
    rfl
  · obtain ⟨d, p, dx, n, v, c, b, M, g, rfl, B, ok, hM, hg, hD, hpast, q⟩ := h
    have X := T.tx
    have hr1 : Room 1 _ := hr.mono (by decide)
    have hr2 : Room 2 _ := hr.mono (by decide)
    have hr4 : Room 4 _ := hr.mono (by decide)
    have hr5 : Room 5 _ := hr.mono (by decide)
    have nd := sc_law_inside.nd
    have nx : ∀ {p1 p2 p3 p4 : Pos} {k : Nat} {j : Int}, PE (cxOf (L2.CX P w) P w K mg base N_law_inside d_law_inside.qual d_law_inside.scope (He.fAd K d_law_inside.at_) cdv A outer s H E) (.Call (.Name "_law_next" p1) [.Name "_law_draw" p2, .Constant (.int j) k p3] [] p4) _ :=
      fun {p1 p2 p3 p4 k j} => pe_fn (ok_law_next X) hr1 (X.mglo "_law_next") (pa_cons (pv 0) (pa_cons pe_int pa_nil)) passL
    refine ⟨_, pss_cons (ps_for (passes_of rfl) rfl (pi_range1 (by rfl) (X.mfre "range") (pa_cons (pe_op op_add pe_int nx) pa_nil)) (pg_name (i := 3) nd rfl (.inl rfl))
        (pss_one (ps_expr (pe_fn (ok_law_deed T) hr (X.mglo "_law_deed") (pa_cons (pv 0) (pa_cons (pv 1) pa_nil)) passL))))
      (pss_cons (ps_if (pt_cmpR (op_neD hr.units) (pe_fn (ok_law_state T) hr5 (X.mglo "_law_state") (pa_cons (pv 1) pa_nil) passL) (pe_fn (ok_law_state T) hr5 (X.mglo "_law_state") (pa_cons (pv 2) pa_nil) passL) (nomark _)) (pss_one (ps_ret pe_non)) pss_nil)
      (pss_cons (ps_if (pt_cmpR op_eq nx pe_int (nomark _)) (pss_one (ps_expr (pe_mt (ok_undo T).2 hr4 X.clB (X.mB "undo" (by decide +kernel)) (pv 1) (pa_cons pe_int pa_nil) passX))) pss_nil)
      (pss_one (ps_ret (pe_pr (ok_readers X) hr2 X.clB (X.pr _ _ "readers" at_Board_readers rfl).1 (pv 2)))))), ?_⟩
    have hdp := dne hD B.ob
    have np : p ∉ [d] := fun z => hdp (List.mem_singleton.mp z).symm
    have nd' : d ∉ [p] := fun z => hdp (List.mem_singleton.mp z)
    refine ⟨_, rfl, d, 3, g, rfl, by decide, by decide, by omega, hD, fun H1 r hr3 k1 D1 => ?_⟩
    have B1 := B.ki k1 (off1 hD) np
    refine ⟨_, _, rfl, rfl, (1 + (r : Int)), rfl, by omega, by omega, ?_⟩
    have ej : (1 + (r : Int)).toNat = r + 1 := by omega
    rw [ej]
    refine for_it (walk_range (lo := 0) (n := r + 1)) (fun i σ H' => (∃ v3 : Option V, σ = [some (.ref d), some (.ref p), some (.ref p), v3]) ∧ Kp [d, p] H H' ∧ Dr H' d (g + 1 + 4 * i) ∧ ∃ n' v' c' b', BdAt (CB K) H' p dx n' v' c' b' ∧ BdOk (M + i) b' ∧ b'.past.length = b.past.length + i)
      ⟨⟨none, rfl⟩, k1.mono (by simp), D1, n, v, c, b, B1, ok, rfl⟩ (fun _ _ _ _ _ => trivial) (fun i x σ H2 H3 hi ⟨⟨v3, eσ⟩, kk, DD, n', v', c', b', BB, okB, pl⟩ hy => ?_) (fun σ H2 ⟨⟨v3, eσ⟩, kk, DD, n', v', c', b', BB, okB, pl⟩ => ?_)
    · obtain ⟨rfl, rfl⟩ := hy
      subst eσ
      refine ⟨_, rfl, _, rfl, d, p, dx, n', v', c', b', M + i, g + 1 + 4 * i, rfl, BB, okB, by omega, by omega, DD, fun H4 n4 v4 c4 b4 r4 k4 D4 B4 ok4 did => ?_⟩
      exact ⟨⟨_, rfl⟩, kk.trans k4, D4.mono (by omega), n4, v4, c4, b4, B4, ok4, by rw [did.past, pl]; omega⟩
    · subst eσ
      refine ⟨_, rfl, p, dx, n', v', c', b', _, rfl, BB, okB, by omega, fun H4 l4 s4 hl4 D4 => ?_⟩
      have B4 := BB.sm s4
      refine ⟨_, rfl, p, dx, n', v', c', b', _, rfl, B4, okB, by omega, fun H5 l5 s5 hl5 D5 => ?_⟩
      have B5 := B4.sm s5
      refine ⟨stD b'.now.sd, stD b'.now.sd, (DL.sk (Same.sk s5) D4).dp, D5.dp, (stD_sh _).shaped (by decide), (stD_sh _).shaped (by decide), _, rfl, ?_⟩
      refine iteN (by rw [(stD_sh b'.now.sd).refl]; rfl) ?_
      have DD5 := (DD.sm s4).sm s5
      refine ⟨_, rfl, d, 2, g + 1 + 4 * (r + 1), rfl, by decide, by decide, by omega, DD5, fun H6 r6 hr6 k6 D6 => ?_⟩
      have k06 : Kp [d, p] H H6 := (kk.trans ((Kp.of_same s4).trans (Kp.of_same s5))).trans (k6.mono (by simp))
      have B6 := B5.ki k6 (off1 DD5) np
      refine ⟨rfl, _, rfl, ?_⟩
      have c2 : r6 = 0 ∨ r6 = 1 := by omega
      rcases c2 with rfl | rfl
      · refine ifE ⟨_, rfl, p, _, _, rfl, B6.ob, rfl, p, dx, n', v', c', b', 2, _, rfl, B6, okB, by omega, by decide, fun hle H7 n7 v7 c7 k7 B7 ok7 => ?_, fun hlt => absurd hlt (by omega)⟩
        exact ⟨_, rfl, p, _, _, rfl, B7.ob, p, dx, n7, v7, c7, _, rfl, B7, q _ _ _ _ _ _ (k06.trans (k7.mono (by simp))) ((D6.kp k7 (offP B6.ob) nd').mono (by omega)) B7⟩
      · refine ifN (fun z => absurd (V.int.inj z) (by decide)) ?_
        exact ⟨_, rfl, p, _, _, rfl, B6.ob, p, dx, n', v', c', _, rfl, B6, q _ _ _ _ _ _ k06 (D6.mono (by omega)) B6⟩
end
end K21

/-! closures further in; _law_ended -/
namespace K21
open PySem PySem.Spec PyProof.Rows L2 LamX
theorem Kp.back {S : List Addr} {p : Addr} {o : HO} {H H' : Hp} (k : Kp (p :: S) H H') (h : H p = some o) (h' : H' p = some o) : Kp S H H' := fun a u e m => by
  by_cases z : a = p
  · subst z
    rw [h] at e
    rw [h', ← e]
  · exact k a u e fun y => (List.mem_cons.mp y).elim z m
section
variable {P : Program} {w : World} {K : PySem.W.Frag} {mg : Str → Option Value} {base : Heap} {k : Nat} {fs : List Addr} {f : Addr} {sp : Sp} {h h1 : Heap} {H H1 : Hp}
theorem Clos.on {fs' : List Addr} (C : Clos P w K mg base k fs f sp h H) (u : Un fs [] H H1 h h1) (hs : ∀ x ∈ fs', x ∈ fs ∨ h.get? x = none) : Clos P w K mg base k fs' f sp h1 H1 := by
  intro A outer s H2 us vs Q E hr e0 u2 hfo r q
  refine C A outer s H2 us vs Q E hr e0 (un_comp u u2 hs) (fun x hx => ?_) r q
  rcases hfo x hx with z | z
  · exact hs x z
  · by_cases c : x ∈ fs
    · exact .inl c
    · refine .inr ?_
      cases e : h.get? x with
      | none => rfl
      | some o =>
        obtain ⟨o', e'⟩ := u.there x o e (by simp)
        rw [z] at e'
        cases e'
end
/-- a closure known outside a lambda, seen from within the lambda's body -/
theorem Clos.inl {X : Cx} {A' : Around} {outer' : List Env} {s1 s' : Shared} {H1 H' H : Hp} {E1 : XK} {scope : Scope} {ps : List Str} {fo c' : Addr} {pins : List (Addr × Obj)} {σ' : L2.St} {h : Heap} {fs : List Addr} {k : Nat} {f : Addr} {sp : Sp}
    (C : Clos X.prog X.w X.K X.mg X.base k fs f sp h H) (un : Un fs [] H H1 h s1.heap) (hfo : ∀ x ∈ frs outer', x ∈ fs ∨ h.get? x = none) (J : Inv (lamC X A' outer' s1 H1 E1 scope ps fo c') pins σ' H' s') :
    Clos X.prog X.w X.K X.mg X.base k (frs (lamC X A' outer' s1 H1 E1 scope ps fo c').stack) f sp s'.heap H' := by
  have un2 : Un (frs outer') [] H1 H' s1.heap s'.heap := J.base
  refine C.on (un_comp un un2 hfo) (fun x hx => ?_)
  rcases List.mem_cons.mp (J.stkSub x hx) with e | e
  · refine .inr ?_
    have n1 : s1.heap.get? x = none := by
      rw [e]
      exact Heap.get?_none_of_le J.ok.above
    cases e2 : h.get? x with
    | none => rfl
    | some o =>
      by_cases c : x ∈ ([] : List Addr)
      · cases c
      · obtain ⟨o', e'⟩ := un.there x o e2 c
        rw [n1] at e'
        cases e'
  · exact hfo x e
section
variable {X : Cx} {k : Nat} {f : Addr} {ps : List Str} {sp : SpS} {sp' : Sp} {x : Str} {p pos : Pos} {e : Expr} {es : List Expr} {kws : List Keyword} {t : TA} {E : XK}
theorem pe_fnF (G : OkS X.prog X.w X.K X.mg X.base k f ps sp) (hr : Room k X.A) (hm : X.mg x = some (.ref f)) (ha : PA X (e :: es) t) (hsp : ∀ (pins : List (Addr × Obj)) (σ : L2.St) (H : Hp) (s : Shared) (vs : List V) (Q : VK), Inv X pins σ H s → sp' vs H Q E → sp (frs X.stack) s.heap vs H Q E)
    (hx : Passes (L2.CX X.prog X.w) X E) (hg : Gl X x := by rfl) (hdb : (x == ("__debug__" : Str)) = false := by decide)
    (he : starEach (e :: es) X.env = (false, eval e X.env) :: starEach es X.env := by rfl) (hpl : (backTo pos (starEach es X.env)).any (·.1) = false := by rfl) : PE X (.Call (.Name x p) (e :: es) [] pos) (tCall sp' [] E t) := by
  refine ⟨fun pins s σ H Q I h => ?_⟩
  refine wpAny_Call_Name_kw (ld_glob I hg hm ?_ hdb)
  refine PySem.W.callWith_K (h₀ := X.base) I.ok.mod.kin G.kp (thn (ha.run pos pins s σ H _ I h) fun us s1 ⟨vs, H1, I1, r, q⟩ => ⟨I1.kIn, ?_⟩) he hpl
  have q : sp' (vs ++ []) H1 Q E := q
  rw [List.append_nil] at q
  exact run_okS (E := fun _ => E) G hr (passAX hx σ) I1 (args := ⟨us, []⟩) (.inl rfl) r (hsp pins σ H1 s1 vs Q I1 q)
end
theorem lam_closL {X : Cx} {pins : List (Addr × Obj)} {σ : L2.St} {H HZ : Hp} {s : Shared} {params : Arguments} {body : Expr} {scope : Scope} {k n : Nat} {f : Addr} {ps : List Str} {nd : Bool} {ds : List V} {tb : XK → TE} (_L : LamAt HZ f (X.env.qual ++ "<lambda>") params body scope (cloFrom X.env.cells scope.names []) nd) (I : Inv X pins σ H s) (L : LamP X.env.scope scope X.N ps) (hn : n + ds.length = ps.length) (hds : nd = false ∧ ds = [] ∨ nd = true ∧ ds = [.int 0])
    (hb0 : nd = false → ∀ (q : Str) (cl : List (Str × Addr)) (pm cv ctv : Value) (us : List Value), us.length = n → bindArgs (laD_fn "<lambda>" q params body scope cl pm cv ctv .none) ⟨us, []⟩ = pure (ps.zip us))
    (hb1 : nd = true → ∀ (q : Str) (cl : List (Str × Addr)) (pm cv ctv : Value) (T : Addr) (us its : List Value), us.length = n → its.length = 1 → ∃ k, bindArgs (laD_fn "<lambda>" q params body scope cl pm cv ctv (.ref T)) ⟨us, []⟩ = seqItems? (.ref T) >>= k ∧ k (some its.toArray) = pure (ps.zip (us ++ its)))
    (hbody : ∀ (A : Around) (outer : List Env) (s1 : Shared) (H1 : Hp) (E : XK) (c' : Addr), Room k (A.deeper (lamEnv X scope s1.heap.objs.size f c')) → Un (frs X.stack) [] H H1 s.heap s1.heap → (∀ x ∈ frs outer, x ∈ frs X.stack ∨ s.heap.get? x = none) → PE (lamC X A outer s1 H1 E scope ps f c') body (tb E)) :
    Clos X.prog X.w X.K X.mg X.base (k + 1) (frs X.stack) f (fun vs H1 Q E => vs.length = n ∧ LamAt H1 f (X.env.qual ++ "<lambda>") params body scope (cloFrom X.env.cells scope.names []) nd ∧ tb E (σ ++ (vs ++ ds).map some) H1 Q) s.heap H := lam_clos I L hn hds hb0 hb1 hbody
/-- what under asks, but for the closure -/
def spUnd (K : PySem.W.Frag) (f : Addr) (sp : Sp) : Sp := fun vs H Q E => ∃ t dt p dx n v c n0 v0 c0, vs = [.ref t, .ref f] ∧ FnH H f ∧ H t = some (.ins (CT K) dt (tF (.ref p) n0 v0 c0)) ∧ H p = some (.ins (CB K) dx (bF n v c)) ∧ t ≠ p ∧
  ∀ H2, Kp [t] H H2 → H2 t = some (.ins (CT K) dt (tF (.ref p) n v c)) → H2 p = some (.ins (CB K) dx (bF n v c)) →
    ∀ (Q1 : VK) (E1 : XK), (∀ r H3, InBlk K t dt p dx n v c H3 → Back K p dx n v c H3 (Q r) → Q1 r H3) → (∀ (C : Addr) d H3, InBlk K t dt p dx n v c H3 → Back K p dx n v c H3 (E (.ref C) d) → E1 (.ref C) d H3) → sp [.ref p] H2 Q1 E1
theorem und_of {P : Program} {w : World} {K : PySem.W.Frag} {mg : Str → Option Value} {base : Heap} {k : Nat} {fs : List Addr} {f : Addr} {sp : Sp} {h : Heap} {H : Hp} {vs : List V} {Q : VK} {E : XK} (C : Clos P w K mg base k fs f sp h H) (q : spUnd K f sp vs H Q E) : spUnder P w K mg base k fs h vs H Q E := by
  obtain ⟨t, dt, p, dx, n, v, c, n0, v0, c0, e, F, ht, hp, ne, q⟩ := q
  exact ⟨t, dt, p, dx, n, v, c, n0, v0, c0, f, sp, e, C, F, ht, hp, ne, q⟩
def numR : Bool → Int
  | true => 5
  | false => 2000
def kiR : Bool → Int
  | true => 1
  | false => 0
section
variable {P : Program} {w : World} {K : PySem.W.Frag} {mg : Str → Option Value} {base : Heap}
def spEnded (K : PySem.W.Frag) : Sp := fun vs H Q _ => ∃ d p dx n v c b M g r, vs = [.ref d, .ref p, .int (kiR r)] ∧ BdAt (CB K) H p dx n v c b ∧ BdOk M b ∧ M ≤ 500 ∧ g ≤ 80000 ∧ Dr H d g ∧ Tabs (TL K) H ∧
  ∀ (H' : Hp) (t : Addr), Kw [d] H H' → Tabs (TL K) H' → Dr H' d (g + 4) → H' t = some (.tup [.str (wordR r), .int (numR r)]) → Q (.ref t) H'
theorem ok_law_ended (T : Tt K mg base) : Ok P w K mg base 11 (He.fAd K d_law_ended.at_) ["_law_draw", "_law_board", "_law_kind"] [] (spEnded K) := by
  refine T.okT at_law_ended sc_law_ended rfl rfl (fun _ _ _ _ _ _ us hl => match us, hl with | [_, _, _], _ => rfl) (fun vs H Q E h => ?_) (fun A outer s H vs Q E hr h => ?_)
  · obtain ⟨d, p, dx, n, v, c, b, M, g, r, rfl, _⟩ := h
    rfl
  · obtain ⟨d, p, dx, n, v, c, b, M, g, r, rfl, B, ok, hM, hg, hD, hT, q⟩ := h
    have U := T.tu
    have Z := U.tv.tw.tz
    have X := Z.tx
    have nd := sc_law_ended.nd
    have hm := T.hm (p := ("_law_ended", none)) (by decide)
    have hu := T.hu (p := ("_law_ended", none)) (by decide)
    have TB := T.tb ("_law_ended", none) (by decide)
    refine ⟨_, pss_cons (ps_set (i := 3) nd rfl (.inr rfl) (pe_lst (pa_cons (pe_lam0 (T := TL K) TB rfl hm hu ?hf1) pa_nil)))
      (pss_cons (ps_expr (pe_bm PySem.F.plainAttrs_list PySem.F.slot_list_append PySem.F.type_list_append mt_append (pe_var (i := 3) rfl (.inr (.inl rfl))) (pa_cons (pe_lam0 (T := TL K) TB rfl hm hu ?hf2) pa_nil)))
      (pss_one (ps_ret (pe_fnS (E := fun _ => E0) (ok_said U (k := 9) (by decide)) hr (X.mglo "_law_said") (pa_cons (pe_lam1 (T := TL K) TB rfl hm hu ?hf3 pe_int) pa_nil) passAL)))), ?_⟩
    case hf1 => exact fun ok' => LamP.has (lamP_by (sc := defScope s_law_ended) (N := N_law_ended) (ps := ["_law_one"]) (by decide +kernel)) ok'
    case hf2 => exact fun ok' => LamP.has (lamP_by (sc := defScope s_law_ended) (N := N_law_ended) (ps := ["_law_one"]) (by decide +kernel)) ok'
    case hf3 => exact fun ok' => LamP.has (lamP_by (sc := defScope s_law_ended) (N := N_law_ended) (ps := ["_law_n"]) (by decide +kernel)) ok'
    refine ⟨hT, fun f1 H1 e1 T1 hf1 L1 => ⟨by show 1 ≤ sizeLine; decide, fun lc hlc => ?_⟩⟩
    have s2 := sN (H := H1) (a := lc) (o := (.lst [.ref f1])) hlc
    have h2 : upd H1 lc (.lst [.ref f1]) lc = some (.lst [.ref f1]) := upd_same
    revert s2 h2
    generalize upd H1 lc (.lst [.ref f1]) = H2
    intro s2 h2
    refine ⟨_, rfl, .inl ⟨rfl, _, SqL.of h2⟩, T1.ext s2, fun f2 H3 e3 T3 hf2 L2 => ⟨lc, _, _, rfl, rfl, e3 _ _ h2 (fun _ z => by cases z), by show 1 < sizeLine; decide, ?_⟩⟩
    have hl3 : H3 lc = some (.lst [.ref f1]) := e3 _ _ h2 (fun _ z => by cases z)
    have T4 := tabs_l (ys := [.ref f1] ++ [.ref f2]) T3 hl3
    have k34 : Kw [lc] H3 (upd H3 lc (.lst ([.ref f1] ++ [.ref f2]))) := Kw.upd (by simp)
    have hl4 : upd H3 lc (.lst ([.ref f1] ++ [.ref f2])) lc = some (.lst [.ref f1, .ref f2]) := upd_same
    revert T4 k34 hl4
    generalize upd H3 lc (.lst ([.ref f1] ++ [.ref f2])) = H4
    intro T4 k34 hl4
    refine ⟨T4, fun f3 H5 e5 T5 hf3 L3 pins s I => ?_⟩
    have k35 : Kw [lc] H3 H5 := k34.trans (Kw.ext e5)
    have k15 : Kw [] H1 H5 := (((Kp.of_same s2).kw.trans (Kw.ext e3)).trans k35).cut fun a ha => .inr (by rw [List.mem_singleton.mp ha]; exact hlc)
    have k05 : Kw [] H H5 := (Kw.ext e1).trans k15
    have L15 := L1.kw k15 OffM.nil
    have L25 := L2.kw k35 (OffM.cons hl3 rfl OffM.nil)
    have hl5 := e5 _ _ hl4 (fun _ z => by cases z)
    have B5 := B.atw k05 Off.nil (by simp)
    have D5 := hD.kw k05 OffI.nil (by simp)
    have hdp := dne hD B.ob
    have lmp := ok.pc
    cases r with
    | false =>
      have C1 := lam_closL (n := 1) (ps := ["_law_one"]) (ds := []) L15 I (by exact lamP_by (sc := defScope s_law_ended) (N := N_law_ended) (by decide +kernel)) rfl (.inl ⟨rfl, rfl⟩) (fun _ q cl pm cv ctv us hl => match us, hl with | [_], _ => rfl) (fun z => by cases z)
        (fun A' outer' s1 H1 E1 c' hr' un hfo => pe_lst (pa_cons (pe_fn (ok_law_deed Z) hr' (X.mglo "_law_deed") (pa_cons (pe_var (i := 0) rfl (.inr (.inr rfl))) (pa_cons (pe_var (i := 4) rfl (.inl rfl)) pa_nil)) passL) (pa_cons (pe_mt (ok_undo Z).2 (hr'.mono (by decide)) X.clB (X.mB "undo" (by decide +kernel)) (pe_var (i := 4) rfl (.inl rfl)) (pa_cons pe_int pa_nil) passX) pa_nil)))
      refine ⟨f3, _, rfl, lam_closL (n := 0) (ps := ["_law_n"]) (ds := [.int 0]) L3 I (by exact lamP_by (sc := defScope s_law_ended) (N := N_law_ended) (by decide +kernel)) rfl (.inr ⟨rfl, rfl⟩) (fun z => by cases z) (fun _ q cl pm cv ctv T us its h1 h2 => match us, its, h1, h2 with | [], [_], _, _ => ⟨_, rfl, rfl⟩)
        (fun A' outer' s1 H1 E1 c' hr' un hfo => pe_fnF (sp' := spUnd K f1 _) (ok_under U.tv.tw (k := 7) (by decide)) hr' (X.mglo "under") (pa_cons (pe_mt0 (ok_trial Z) (hr'.mono (by decide)) X.clB (X.mB "trial" (by decide +kernel)) (pe_var (i := 1) rfl (.inr (.inr rfl))) passL) (pa_cons (pe_ix (r := rIxL K) ix_list (pe_var (i := 3) rfl (.inr (.inr rfl))) (pe_var (i := 2) rfl (.inr (.inr rfl))) (fun _ _ => rfl)) pa_nil))
          (fun pins' σ' H' s' vs' Q' J hs => und_of (C1.inl un hfo J) hs) passX), L3.fnH, fun H6 s6 Q1 E1 hQ hE => ⟨rfl, L3.kp (Kp.of_same (S := []) s6) OffM.nil, ?_⟩⟩
      have B6 := B5.sm s6
      refine ⟨_, rfl, p, _, _, rfl, B6.ob, rfl, p, dx, n, v, c, rfl, B6.ob, fun H7 t dt k7 ht7n ht7 => ?_⟩
      have k57 : Kp [] H5 H7 := (Kp.of_same s6).trans k7
      have B7 := B5.ki k57 OffI.nil (by simp)
      have hne : t ≠ p := fun z => by
        rw [z, B6.ob] at ht7n
        cases ht7n
      refine ⟨_, rfl, _, rfl, lc, [.ref f1, .ref f2], kiR false, .ref f1, rfl, rfl, SqL.of (k57 _ _ hl5 (by simp)), rfl, ?_⟩
      refine ⟨t, dt, p, dx, n, v, c, n, v, c, rfl, (L15.kp k57 OffM.nil).fnH, ht7, B7.ob, hne, fun H8 k8 o8 p8 Q2 E2 hQ2 hE2 => ?_⟩
      have offt : OffI H7 [t] := OffI.cons ht7 rfl OffI.nil
      have B8 := B7.ki k8 offt (by simp [hne.symm])
      have D7 := D5.kp k57 OffI.nil (by simp)
      have hdt : d ≠ t := dne D7 ht7
      have D8 := D7.kp k8 offt (by simp [hdt])
      refine ⟨rfl, (L15.kp k57 OffM.nil).kp k8 offt.offM, ?_⟩
      refine ⟨_, rfl, _, rfl, d, p, dx, n, v, c, b, M, g, rfl, B8, ok, by omega, by omega, D8, fun H9 n9 v9 c9 b9 r9 k9 D9 B9 ok9 did => ?_⟩
      have lm9 := ok9.pc
      refine ⟨_, rfl, p, _, _, rfl, B9.ob, rfl, p, dx, n9, v9, c9, b9, 2000, M + 1, rfl, B9, ok9, by omega, by decide, fun hle => absurd hle (by omega), fun hlt dd hdd => ?_⟩
      have s9 := sN (o := .xd [("many", .int 2000)]) hdd
      have ndp : dd ≠ p := fun z => by
        rw [z, B9.ob] at hdd
        cases hdd
      refine hE2 _ (some dd) _ ⟨s9 _ _ (k9 _ _ o8 (by simp [hdt.symm, hne])), n9, v9, c9, s9 _ _ B9.ob⟩ (fun H10 k10 o10 => hE false dd (.int 2000) H10 (k10 _ _ upd_same (by simp [ndp])) fun H11 tt s11 ht11 => ?_)
      have k9e : Kp [p, d] H8 H11 := (k9.mono (by simp)).trans (((Kp.of_same s9).trans (k10.mono (by simp))).trans (Kp.of_same s11))
      have k8e : Kp [d] H8 H11 := k9e.back B8.ob (s11 _ _ o10)
      have k6e : Kp [d] H6 H11 := ((k7.mono (T := [t, d]) (by simp)).trans ((k8.mono (by simp)).trans (k8e.mono (by simp)))).cut fun a ha => by
        rcases List.mem_cons.mp ha with rfl | ha
        · exact .inr ht7n
        · exact .inl ha
      have k5e : Kp [d] H5 H11 := (Kp.of_same s6).trans k6e
      refine q H11 tt ((k05.mono (by simp)).trans k5e.kw) (tabs_kp T5 k5e (off1 D5)) ?_ ht11
      exact ((D9.sm s9).kp k10 (offP (s9 _ _ B9.ob)) (by simp [hdp])).sm s11
    | true =>
      have C1 := lam_closL (n := 1) (ps := ["_law_one"]) (ds := []) L25 I (by exact lamP_by (sc := defScope s_law_ended) (N := N_law_ended) (by decide +kernel)) rfl (.inl ⟨rfl, rfl⟩) (fun _ q cl pm cv ctv us hl => match us, hl with | [_], _ => rfl) (fun z => by cases z)
        (fun A' outer' s1 H1 E1 c' hr' un hfo => pe_lst (pa_cons (pe_fn (ok_law_deed Z) hr' (X.mglo "_law_deed") (pa_cons (pe_var (i := 0) rfl (.inr (.inr rfl))) (pa_cons (pe_var (i := 4) rfl (.inl rfl)) pa_nil)) passL) (pa_cons (pe_mt (ok_add Z) (hr'.mono (by decide)) X.clB (X.mB "add" (by decide +kernel)) (pe_var (i := 4) rfl (.inl rfl)) (pa_cons pe_int (pa_cons pe_int pa_nil)) passX) pa_nil)))
      refine ⟨f3, _, rfl, lam_closL (n := 0) (ps := ["_law_n"]) (ds := [.int 0]) L3 I (by exact lamP_by (sc := defScope s_law_ended) (N := N_law_ended) (by decide +kernel)) rfl (.inr ⟨rfl, rfl⟩) (fun z => by cases z) (fun _ q cl pm cv ctv T us its h1 h2 => match us, its, h1, h2 with | [], [_], _, _ => ⟨_, rfl, rfl⟩)
        (fun A' outer' s1 H1 E1 c' hr' un hfo => pe_fnF (sp' := spUnd K f2 _) (ok_under U.tv.tw (k := 7) (by decide)) hr' (X.mglo "under") (pa_cons (pe_mt0 (ok_trial Z) (hr'.mono (by decide)) X.clB (X.mB "trial" (by decide +kernel)) (pe_var (i := 1) rfl (.inr (.inr rfl))) passL) (pa_cons (pe_ix (r := rIxL K) ix_list (pe_var (i := 3) rfl (.inr (.inr rfl))) (pe_var (i := 2) rfl (.inr (.inr rfl))) (fun _ _ => rfl)) pa_nil))
          (fun pins' σ' H' s' vs' Q' J hs => und_of (C1.inl un hfo J) hs) passX), L3.fnH, fun H6 s6 Q1 E1 hQ hE => ⟨rfl, L3.kp (Kp.of_same (S := []) s6) OffM.nil, ?_⟩⟩
      have B6 := B5.sm s6
      refine ⟨_, rfl, p, _, _, rfl, B6.ob, rfl, p, dx, n, v, c, rfl, B6.ob, fun H7 t dt k7 ht7n ht7 => ?_⟩
      have k57 : Kp [] H5 H7 := (Kp.of_same s6).trans k7
      have B7 := B5.ki k57 OffI.nil (by simp)
      have hne : t ≠ p := fun z => by
        rw [z, B6.ob] at ht7n
        cases ht7n
      refine ⟨_, rfl, _, rfl, lc, [.ref f1, .ref f2], kiR true, .ref f2, rfl, rfl, SqL.of (k57 _ _ hl5 (by simp)), rfl, ?_⟩
      refine ⟨t, dt, p, dx, n, v, c, n, v, c, rfl, (L25.kp k57 OffM.nil).fnH, ht7, B7.ob, hne, fun H8 k8 o8 p8 Q2 E2 hQ2 hE2 => ?_⟩
      have offt : OffI H7 [t] := OffI.cons ht7 rfl OffI.nil
      have B8 := B7.ki k8 offt (by simp [hne.symm])
      have D7 := D5.kp k57 OffI.nil (by simp)
      have hdt : d ≠ t := dne D7 ht7
      have D8 := D7.kp k8 offt (by simp [hdt])
      refine ⟨rfl, (L25.kp k57 OffM.nil).kp k8 offt.offM, ?_⟩
      refine ⟨_, rfl, _, rfl, d, p, dx, n, v, c, b, M, g, rfl, B8, ok, by omega, by omega, D8, fun H9 n9 v9 c9 b9 r9 k9 D9 B9 ok9 did => ?_⟩
      have lm9 := ok9.pc
      refine ⟨_, rfl, p, _, _, rfl, B9.ob, rfl, p, dx, n9, v9, c9, b9, 5, 1, M + 1, rfl, B9, ok9, by omega, by decide, fun hin => absurd hin.2 (by decide), fun hout dd hdd => ?_⟩
      have s9 := sN (o := .xd [("given", .int 5)]) hdd
      have ndp : dd ≠ p := fun z => by
        rw [z, B9.ob] at hdd
        cases hdd
      refine hE2 _ (some dd) _ ⟨s9 _ _ (k9 _ _ o8 (by simp [hdt.symm, hne])), n9, v9, c9, s9 _ _ B9.ob⟩ (fun H10 k10 o10 => hE true dd (.int 5) H10 (k10 _ _ upd_same (by simp [ndp])) fun H11 tt s11 ht11 => ?_)
      have k9e : Kp [p, d] H8 H11 := (k9.mono (by simp)).trans (((Kp.of_same s9).trans (k10.mono (by simp))).trans (Kp.of_same s11))
      have k8e : Kp [d] H8 H11 := k9e.back B8.ob (s11 _ _ o10)
      have k6e : Kp [d] H6 H11 := ((k7.mono (T := [t, d]) (by simp)).trans ((k8.mono (by simp)).trans (k8e.mono (by simp)))).cut fun a ha => by
        rcases List.mem_cons.mp ha with rfl | ha
        · exact .inr ht7n
        · exact .inl ha
      have k5e : Kp [d] H5 H11 := (Kp.of_same s6).trans k6e
      refine q H11 tt ((k05.mono (by simp)).trans k5e.kw) (tabs_kp T5 k5e (off1 D5)) ?_ ht11
      exact ((D9.sm s9).kp k10 (offP (s9 _ _ B9.ob)) (by simp [hdp])).sm s11
end
end K21

/-! _law_within -/
namespace K21
open PySem PySem.Spec PyProof.Rows L2 LamX
section
variable {P : Program} {w : World} {K : PySem.W.Frag} {mg : Str → Option Value} {base : Heap}
def spWithin (K : PySem.W.Frag) : Sp := fun vs H Q _ => ∃ d p dx n v c b M g, vs = [.ref d, .ref p] ∧ BdAt (CB K) H p dx n v c b ∧ BdOk M b ∧ M ≤ 500 ∧ g ≤ 80000 ∧ Dr H d g ∧ Tabs (TL K) H ∧
  ∀ (H' : Hp) (n' v' c' : V) (b' : Bd), Kw [d, p] H H' → Tabs (TL K) H' → Dr H' d (g + 8) → BdAt (CB K) H' p dx n' v' c' b' → Q (.bl true) H'
theorem ok_law_within (T : Tt K mg base) : Ok P w K mg base 9 (He.fAd K d_law_within.at_) ["_law_draw", "_law_one"] [] (spWithin K) := by
  refine T.okT at_law_within sc_law_within rfl rfl (fun _ _ _ _ _ _ us hl => match us, hl with | [_, _], _ => rfl) (fun vs H Q E h => ?_) (fun A outer s H vs Q E hr h => ?_)
  · obtain ⟨d, p, dx, n, v, c, b, M, g, rfl, _⟩ := h
    rfl
  · obtain ⟨d, p, dx, n, v, c, b, M, g, rfl, B, ok, hM, hg, hD, hT, q⟩ := h
    have U := T.tu
    have Z := U.tv.tw.tz
    have X := Z.tx
    have nd := sc_law_within.nd
    have hr6 : Room 6 _ := hr.mono (by decide)
    have hr3 : Room 3 _ := hr.mono (by decide)
    have hm := T.hm (p := ("_law_within", none)) (by decide)
    have hu := T.hu (p := ("_law_within", none)) (by decide)
    have TB := T.tb ("_law_within", none) (by decide)
    refine ⟨_, pss_cons (ps_expr (pe_fn (ok_law_deed Z) hr6 (X.mglo "_law_deed") (pa_cons (pe_var (i := 0) rfl (.inr (.inl rfl))) (pa_cons (pv 1) pa_nil)) passL))
      (pss_cons (ps_set (i := 2) nd rfl (.inl rfl) (pe_fn (ok_law_all T) hr (X.mglo "_law_all") (pa_cons (pv 1) pa_nil) passL))
      (pss_cons (ps_expr (pe_fnS (E := fun _ => E0) (ok_under U.tv.tw (k := 7) (by decide)) hr (X.mglo "under") (pa_cons (pe_mt0 (ok_trial Z) hr3 X.clB (X.mB "trial" (by decide +kernel)) (pv 1) passL) (pa_cons (pe_lam0 (T := TL K) TB rfl hm hu ?hf1) pa_nil)) passAL))
      (pss_one (ps_ret (pe_cmpR (op_eqD hr.units) (pe_fn (ok_law_all T) hr (X.mglo "_law_all") (pa_cons (pv 1) pa_nil) passL) (pv 2) (nomark _)))))), ?_⟩
    case hf1 => exact fun ok' => LamP.has (lamP_by (sc := defScope s_law_within) (N := N_law_within) (ps := ["_law_two"]) (by decide +kernel)) ok'
    have hdp := dne hD B.ob
    refine ⟨_, rfl, _, rfl, d, p, dx, n, v, c, b, M, g, rfl, B, ok, by omega, by omega, hD, fun H1 n1 v1 c1 b1 r1 k1 D1 B1 ok1 did => ?_⟩
    have T1 := tabs_kp hT k1 (off2 hD B.ob)
    refine ⟨_, rfl, p, dx, n1, v1, c1, b1, M + 1, rfl, B1, ok1, by omega, T1, fun H2 l2 k2 T2 hl2 DA2 => ?_⟩
    have B2 := B1.atw k2 Off.nil (by simp)
    have D2 := D1.kw k2 OffI.nil (by simp)
    refine ⟨_, rfl, p, _, _, rfl, B2.ob, rfl, p, dx, n1, v1, c1, rfl, B2.ob, fun H3 t dt k3 ht3n ht3 => ?_⟩
    have T3 := tabs_kp T2 k3 OffI.nil
    refine ⟨T3, fun f H4 e4 T4 hf L4 pins s I => ?_⟩
    have k24 : Kw [] H2 H4 := k3.kw.trans (Kw.ext e4)
    have B4 := B2.atw k24 Off.nil (by simp)
    have D4 := D2.kw k24 OffI.nil (by simp)
    have ht4 := e4 _ _ ht3 (fun _ z => by cases z)
    have hne : t ≠ p := fun z => by
      rw [z, B2.ob] at ht3n
      cases ht3n
    have hdt : d ≠ t := dne D4 ht4
    refine ⟨t, dt, p, dx, n1, v1, c1, n1, v1, c1, f, _, rfl, lam_closL (n := 1) (ps := ["_law_two"]) (ds := []) L4 I (by exact lamP_by (sc := defScope s_law_within) (N := N_law_within) (by decide +kernel)) rfl (.inl ⟨rfl, rfl⟩) (fun _ q cl pm cv ctv us hl => match us, hl with | [_], _ => rfl) (fun z => by cases z)
        (fun A' outer' s1 H1 E1 c' hr' un hfo => pe_fn (ok_law_deed Z) hr' (X.mglo "_law_deed") (pa_cons (pe_var (i := 0) rfl (.inr (.inr rfl))) (pa_cons (pe_var (i := 3) rfl (.inl rfl)) pa_nil)) passL), L4.fnH, ht4, B4.ob, hne, fun H5 k5 o5 p5 Q2 E2 hQ2 hE2 => ?_⟩
    have offt : OffI H4 [t] := OffI.cons ht4 rfl OffI.nil
    have B5 := B4.ki k5 offt (by simp [hne.symm])
    have D5 := D4.kp k5 offt (by simp [hdt])
    refine ⟨rfl, L4.kp k5 offt.offM, ?_⟩
    refine ⟨_, rfl, _, rfl, d, p, dx, n1, v1, c1, b1, M + 1, g + 4, rfl, B5, ok1, by omega, by omega, D5, fun H6 n6 v6 c6 b6 r6 k6 D6 B6 ok6 did6 => ?_⟩
    refine hQ2 _ _ ⟨k6 _ _ o5 (by simp [hdt.symm, hne]), n6, v6, c6, B6.ob⟩ fun H7 k7 o7 => ?_
    have k57 : Kp [d] H5 H7 := Kp.back (p := p) ((k6.mono (by simp)).trans (k7.mono (by simp))) B5.ob o7
    have k47 : Kp [d, t] H4 H7 := (k5.mono (by simp)).trans (k57.mono (by simp))
    have od4 : OffI H4 [d, t] := off2 D4 ht4
    have B7 := B4.ki k47 od4 (by simp [hdp.symm, hne.symm])
    have D7 := D6.kp k7 (offP B6.ob) (by simp [hdp])
    have T7 := tabs_kp T4 k47 od4
    have A7 := DL.sk ((Kw.sk k24 Off.nil).trans (k47.sk od4.off)) DA2
    refine ⟨_, rfl, p, dx, n1, v1, c1, b1, M + 1, rfl, B7, ok1, by omega, T7, fun H8 l8 k8 T8 hl8 A8 => ?_⟩
    refine ⟨_, rfl, allD b1, allD b1, A8.dp, (DL.sk (Kw.sk k8 Off.nil) A7).dp, (allD_sh _).shaped (by decide), (allD_sh _).shaped (by decide), ?_⟩
    rw [(allD_sh b1).refl]
    refine q H8 n1 v1 c1 b1 ?_ T8 ((D7.kw k8 OffI.nil (by simp)).mono (by omega)) (B7.atw k8 Off.nil (by simp))
    have k37 : Kw [t, d] H2 H7 := (k24.mono (by simp)).trans (k47.kw.mono (by simp))
    have k27 : Kw [d] H2 H7 := k37.cut fun a ha => by
      rcases List.mem_cons.mp ha with rfl | ha
      · exact .inr ht3n
      · exact .inl ha
    exact k1.kw.trans ((k2.mono (by simp)).trans ((k27.mono (by simp)).trans (k8.mono (by simp))))
end
end K21

/-! _law_copies_right -/
namespace K21
open PySem PySem.Spec PyProof.Rows L2 LamX
section
variable {P : Program} {w : World} {K : PySem.W.Frag} {mg : Str → Option Value} {base : Heap}
def spCopies (K : PySem.W.Frag) : Sp := fun vs H Q _ => ∃ d p la dx n v c b M g, vs = [.ref d, .ref p, .ref la] ∧ BdAt (CB K) H p dx n v c b ∧ BdOk M b ∧ M ≤ 500 ∧ g ≤ 80000 ∧ Dr H d g ∧ Tabs (TL K) H ∧ DL H (.ref la) (allD b) ∧
  ∀ (H' : Hp), Kw [d, p] H H' → Tabs (TL K) H' → Dr H' d (g + 4) → Q (.bl true) H'
theorem ok_law_copies_right (T : Tt K mg base) : Ok P w K mg base 9 (He.fAd K d_law_copies_right.at_) ["_law_draw", "_law_board", "_law_ahead"] [] (spCopies K) := by
  refine T.okT at_law_copies_right sc_law_copies_right rfl rfl (fun _ _ _ _ _ _ us hl => match us, hl with | [_, _, _], _ => rfl) (fun vs H Q E h => ?_) (fun A outer s H vs Q E hr h => ?_)
  · obtain ⟨d, p, la, dx, n, v, c, b, M, g, rfl, _⟩ := h
    rfl
  · obtain ⟨d, p, la, dx, n, v, c, b, M, g, rfl, B, ok, hM, hg, hD, hT, hA, q⟩ := h
    have U := T.tu
    have Z := U.tv.tw.tz
    have X := Z.tx
    have nd := sc_law_copies_right.nd
    have hr6 : Room 6 _ := hr.mono (by decide)
    have hr5 : Room 5 _ := hr.mono (by decide)
    have hr3 : Room 3 _ := hr.mono (by decide)
    have hr1 : Room 1 _ := hr.mono (by decide)
    have hm := T.hm (p := ("_law_copies_right", none)) (by decide)
    have hu := T.hu (p := ("_law_copies_right", none)) (by decide)
    have TB := T.tb ("_law_copies_right", none) (by decide)
    refine ⟨_, pss_cons (ps_par (i := 3) (j := 4) rfl nd rfl rfl (by decide) rfl rfl (pa_cons (pe_mt0 (ok_trial Z) hr3 X.clB (X.mB "trial" (by decide +kernel)) (pv 1) passL) (pa_cons (pe_mt0 (ok_copy Z) hr5 X.clB (X.mB "copy" (by decide +kernel)) (pv 1) passL) pa_nil)) (by rfl))
      (pss_cons (ps_expr (pe_mt (ok_add Z) hr5 X.clB (X.mB "add" (by decide +kernel)) (pv 1) (pa_cons pe_int (pa_cons pe_int pa_nil)) passX))
      (pss_cons (ps_set (i := 5) nd rfl (.inl rfl) (pe_fn (ok_law_all T) hr (X.mglo "_law_all") (pa_cons (pv 1) pa_nil) passL))
      (pss_cons (ps_expr (pe_fnS (E := fun _ => E0) (ok_under U.tv.tw (k := 7) (by decide)) hr (X.mglo "under") (pa_cons (pv 3) (pa_cons (pe_lam0 (T := TL K) TB rfl hm hu ?hf1) pa_nil)) passAL))
      (pss_cons (ps_if (PW.pt (pw_or (pt_cmpR (op_neD hr.units) (pe_fn (ok_law_all T) hr (X.mglo "_law_all") (pa_cons (pv 1) pa_nil) passL) (pv 5) (nomark _)) (pw_or (pt_cmpR (op_neD hr.units) (pe_fn (ok_law_all T) hr (X.mglo "_law_all") (pa_cons (pv 4) pa_nil) passL) (pv 2) (nomark _))
          (pw_or1 (pt_cmpR (op_eqOwn (ok_Beq Z) (X.mB "__eq__" (by decide +kernel)) hr1) (pv 4) (pv 1) (nomark _)))))) (pss_one (ps_ret pe_bl)) pss_nil)
      (pss_cons (ps_expr (pe_mt (ok_add Z) hr5 X.clB (X.mB "add" (by decide +kernel)) (pv 4) (pa_cons pe_int (pa_cons pe_int pa_nil)) passX))
      (pss_cons (ps_if (pt_not (PW.pt (pw_and (pt_cmpR (op_eqD hr.units) (pe_fn (ok_law_all T) hr (X.mglo "_law_all") (pa_cons (pv 1) pa_nil) passL) (pv 5) (nomark _)) (pw_and1 (pt_cmpR (op_eqOwn (ok_Beq Z) (X.mB "__eq__" (by decide +kernel)) hr1) (pe_mt0 (ok_copy Z) hr5 X.clB (X.mB "copy" (by decide +kernel)) (pv 4) passL) (pv 4) (nomark _)))))) (pss_one (ps_ret pe_bl)) pss_nil)
      (pss_one (ps_ret (pe_cmpR (op_eqD hr.units) (pe_fn (ok_law_all T) hr (X.mglo "_law_all") (pa_cons (pe_mt0 (ok_copy Z) hr5 X.clB (X.mB "copy" (by decide +kernel)) (pv 4) passL) pa_nil) passL) (pe_fn (ok_law_all T) hr (X.mglo "_law_all") (pa_cons (pv 4) pa_nil) passL) (nomark _)))))))))), ?_⟩
    case hf1 => exact fun ok' => LamP.has (lamP_by (sc := defScope s_law_copies_right) (N := N_law_copies_right) (ps := ["_law_one"]) (by decide +kernel)) ok'
    have hdp := dne hD B.ob
    have lmp := ok.pc
    refine ⟨_, rfl, p, _, _, rfl, B.ob, rfl, p, dx, n, v, c, rfl, B.ob, fun H1 t dt k1 htn ht1 => ?_⟩
    have B1 := B.ki k1 OffI.nil (by simp)
    refine ⟨_, rfl, p, _, _, rfl, B1.ob, rfl, p, dx, n, v, c, b, rfl, B1, fun H2 o dqo k2 ho1n O2 => ⟨_, _, rfl, ?_⟩⟩
    have B2 := B1.ki k2 OffI.nil (by simp)
    have ht2 := k2 _ _ ht1 (by simp)
    have k02 : Kp [] H H2 := k1.trans k2
    have D2 := hD.kp k02 OffI.nil (by simp)
    have T2 := tabs_kp hT k02 OffI.nil
    have htp : t ≠ p := fun z => by
      rw [z, B.ob] at htn
      cases htn
    have hop : o ≠ p := fun z => by
      rw [z, B1.ob] at ho1n
      cases ho1n
    have hot : o ≠ t := fun z => by
      rw [z, ht1] at ho1n
      cases ho1n
    have hdt : d ≠ t := dne D2 ht2
    have hdo : d ≠ o := dne D2 O2.ob
    have hon : H o = none := by
      cases e : H o with
      | none => rfl
      | some u =>
        rw [k1 _ _ e (by simp)] at ho1n
        cases ho1n
    refine ⟨_, rfl, p, _, _, rfl, B2.ob, rfl, p, dx, n, v, c, b, 0, 7, M, rfl, B2, ok, by omega, by decide, fun _ H3 n3 v3 c3 b3 k3 B3 ok3 did3 => ?_, fun z => absurd (by decide) z⟩
    have O3 := O2.ki k3 (offP B2.ob) (by simp [hop])
    have D3 := D2.kp k3 (offP B2.ob) (by simp [hdp])
    have ht3 := k3 _ _ ht2 (by simp [htp])
    have T3 := tabs_kp T2 k3 (offP B2.ob)
    refine ⟨_, rfl, p, dx, n3, v3, c3, b3, M + 1, rfl, B3, ok3, by omega, T3, fun H4 ln k4 T4 hln A4 => ?_⟩
    refine ⟨_, rfl, T4, fun f H5 e5 T5 hf L5 pins s I => ?_⟩
    have k35 : Kw [] H3 H5 := k4.trans (Kw.ext e5)
    have B5 := B3.atw k35 Off.nil (by simp)
    have O5 := O3.atw k35 Off.nil (by simp)
    have D5 := D3.kw k35 OffI.nil (by simp)
    have ht5 := k35 _ _ ht3 (fun _ z => by cases z) (by simp)
    refine ⟨t, dt, p, dx, n3, v3, c3, n, v, c, f, _, rfl, lam_closL (n := 1) (ps := ["_law_one"]) (ds := []) L5 I (by exact lamP_by (sc := defScope s_law_copies_right) (N := N_law_copies_right) (by decide +kernel)) rfl (.inl ⟨rfl, rfl⟩) (fun _ q cl pm cv ctv us hl => match us, hl with | [_], _ => rfl) (fun z => by cases z)
        (fun A' outer' s1 H1 E1 c' hr' un hfo => pe_fn (ok_law_deed Z) hr' (X.mglo "_law_deed") (pa_cons (pe_var (i := 0) rfl (.inr (.inr rfl))) (pa_cons (pe_var (i := 6) rfl (.inl rfl)) pa_nil)) passL), L5.fnH, ht5, B5.ob, htp, fun H6 k6 o6 p6 Q2 E2 hQ2 hE2 => ?_⟩
    have offt : OffI H5 [t] := OffI.cons ht5 rfl OffI.nil
    have B6 := B5.ki k6 offt (by simp [htp.symm])
    have D6 := D5.kp k6 offt (by simp [hdt])
    refine ⟨rfl, L5.kp k6 offt.offM, ?_⟩
    refine ⟨_, rfl, _, rfl, d, p, dx, n3, v3, c3, b3, M + 1, g, rfl, B6, ok3, by omega, by omega, D6, fun H7 n7 v7 c7 b7 r7 k7 D7 B7 ok7 did7 => ?_⟩
    refine hQ2 _ _ ⟨k7 _ _ o6 (by simp [hdt.symm, htp]), n7, v7, c7, B7.ob⟩ fun H8 k8 o8 => ?_
    have k68 : Kp [d] H6 H8 := Kp.back (p := p) ((k7.mono (by simp)).trans (k8.mono (by simp))) B6.ob o8
    have k58 : Kp [d, t] H5 H8 := (k6.mono (by simp)).trans (k68.mono (by simp))
    have od5 : OffI H5 [d, t] := off2 D5 ht5
    have B8 := B5.ki k58 od5 (by simp [hdp.symm, htp.symm])
    have O8 := O5.ki k58 od5 (by simp [hdo.symm, hot])
    have D8 := D7.kp k8 (offP B7.ob) (by simp [hdp])
    have T8 := tabs_kp T5 k58 od5
    have A8 := DL.sk ((Kw.sk (Kw.ext (S := []) e5) Off.nil).trans (k58.sk od5.off)) A4
    have hA8 : DL H8 (.ref la) (allD b) := DL.sk ((k02.sk Off.nil).trans ((k3.sk (offP B2.ob).off).trans ((Kw.sk k35 Off.nil).trans (k58.sk od5.off)))) hA
    refine ⟨_, rfl, p, dx, n3, v3, c3, b3, M + 1, rfl, B8, ok3, by omega, T8, fun H9 l9 k9 T9 hl9 A9 => ?_⟩
    refine ⟨_, rfl, allD b3, allD b3, A9.dp, (DL.sk (Kw.sk k9 Off.nil) A8).dp, (allD_sh _).shaped (by decide), (allD_sh _).shaped (by decide), _, rfl, iteN (by rw [(allD_sh b3).refl]; rfl) ?_⟩
    have O9 := O8.atw k9 Off.nil (by simp)
    refine ⟨_, rfl, o, dqo, n, v, c, b, M, rfl, O9, ok, by omega, T9, fun H10 l10 k10 T10 hl10 A10 => ?_⟩
    have k810 : Kw [] H8 H10 := k9.trans k10
    refine ⟨_, rfl, allD b, allD b, A10.dp, (DL.sk (Kw.sk k810 Off.nil) hA8).dp, (allD_sh _).shaped (by decide), (allD_sh _).shaped (by decide), _, rfl, iteN (by rw [(allD_sh b).refl]; rfl) ?_⟩
    have O10 := O9.atw k10 Off.nil (by simp)
    have B10 := B8.atw k810 Off.nil (by simp)
    have D10 := D8.kw k810 OffI.nil (by simp)
    have A10n := DL.sk (Kw.sk k810 Off.nil) A8
    refine ⟨_, rfl, _, rfl, o, p, _, _, _, _, rfl, rfl, O10.ob, B10.ob, o, p, dqo, dx, n, v, c, n3, v3, c3, b, b3, M + 1, rfl, O10, B10, ok.mono (by omega), ok3, ⟨_, rfl⟩, _, rfl, iteN (eqv_tup_len (by rw [did3.deeds]; omega)) ?_⟩
    refine ⟨_, rfl, o, _, _, rfl, O10.ob, rfl, o, dqo, n, v, c, b, 1, 9, M, rfl, O10, ok, by omega, by decide, fun _ H11 n11 v11 c11 b11 k11 O11 ok11 did11 => ?_, fun z => absurd (by decide) z⟩
    have B11 := B10.ki k11 (offP O10.ob) (by simp [hop.symm])
    have D11 := D10.kp k11 (offP O10.ob) (by simp [hdo])
    have T11 := tabs_kp T10 k11 (offP O10.ob)
    have A11 := DL.sk (k11.sk (offP O10.ob).off) A10n
    refine ⟨_, rfl, p, dx, n3, v3, c3, b3, M + 1, rfl, B11, ok3, by omega, T11, fun H12 l12 k12 T12 hl12 A12 => ?_⟩
    refine ⟨_, rfl, allD b3, allD b3, A12.dp, (DL.sk (Kw.sk k12 Off.nil) A11).dp, (allD_sh _).shaped (by decide), (allD_sh _).shaped (by decide), _, rfl, iteP (allD_sh b3).refl ?_⟩
    have O12 := O11.atw k12 Off.nil (by simp)
    refine ⟨_, rfl, o, _, _, rfl, O12.ob, rfl, o, dqo, n11, v11, c11, b11, rfl, O12, fun H13 o2 dq2 k13 ho2n P13 => ?_⟩
    have O13 := O12.ki k13 OffI.nil (by simp)
    refine ⟨_, rfl, o2, o, _, _, _, _, rfl, rfl, P13.ob, O13.ob, o2, o, dq2, dqo, n11, v11, c11, n11, v11, c11, b11, b11, M + 1, rfl, P13, O13, ok11, ok11, ⟨_, rfl⟩, _, rfl, iteN (by rw [(Sh.tuple ok11.now.dS).refl]; rfl) ?_⟩
    refine ⟨_, rfl, o, _, _, rfl, O13.ob, rfl, o, dqo, n11, v11, c11, b11, rfl, O13, fun H14 o3 dq3 k14 ho3n P14 => ?_⟩
    have O14 := O13.ki k14 OffI.nil (by simp)
    have T14 := tabs_kp (tabs_kp T12 k13 OffI.nil) k14 OffI.nil
    refine ⟨o3, dq3, n11, v11, c11, b11, M + 1, rfl, P14, ok11, by omega, T14, fun H15 l15 k15 T15 hl15 A15 => ?_⟩
    have O15 := O14.atw k15 Off.nil (by simp)
    refine ⟨_, rfl, o, dqo, n11, v11, c11, b11, M + 1, rfl, O15, ok11, by omega, T15, fun H16 l16 k16 T16 hl16 A16 => ?_⟩
    refine ⟨allD b11, allD b11, (DL.sk (Kw.sk k16 Off.nil) A15).dp, A16.dp, (allD_sh _).shaped (by decide), (allD_sh _).shaped (by decide), ?_⟩
    rw [(allD_sh b11).refl]
    have k1116 : Kw [] H11 H16 := k12.trans (k13.kw.trans (k14.kw.trans (k15.trans k16)))
    refine q H16 ?_ T16 (D11.kw k1116 OffI.nil (by simp))
    have kk : Kw [d, p, t, o] H H16 := (k02.kw.mono (by simp)).trans ((k3.kw.mono (by simp)).trans ((k35.mono (by simp)).trans ((k58.kw.mono (by simp)).trans ((k810.mono (by simp)).trans ((k11.kw.mono (by simp)).trans (k1116.mono (by simp)))))))
    exact kk.cut fun a ha => by
      simp only [List.mem_cons, List.mem_nil_iff, or_false] at ha
      rcases ha with rfl | rfl | rfl | rfl
      · exact .inl (by simp)
      · exact .inl (by simp)
      · exact .inr htn
      · exact .inr hon
end
end K21

/-! law -/
namespace K21
open PySem PySem.Spec PyProof.Rows L2 LamX
theorem Kw.back {S : List Addr} {p : Addr} {o : HO} {H H' : Hp} (k : Kw (p :: S) H H') (h : H p = some o) (h' : H' p = some o) : Kw S H H' := fun a u e n m => by
  by_cases z : a = p
  · subst z
    rw [h] at e
    rw [h', ← e]
  · exact k a u e n fun y => (List.mem_cons.mp y).elim z m
theorem undoB_past {m : Nat} {b : Bd} : (undoB m b).past.length = b.past.length - m := by
  unfold undoB
  simp only [List.length_take]
  omega
section
variable {P : Program} {w : World} {K : PySem.W.Frag} {mg : Str → Option Value} {base : Heap}
def spLaw (K : PySem.W.Frag) : Sp := fun vs H Q _ => ∃ (l : Addr) (ns : List Int), vs = [.ref l] ∧ SqL K H l (ns.map V.int) ∧ ns.length ≤ 900 ∧ Tabs (TL K) H ∧ ∀ H', Q (.bl true) H'
theorem Tt.fnT (T : Tt K mg base) {d : He.DefD} {fd : FuncData} (F : FunD K d.name d.qual d.params d.body d.scope [] [] (He.fAd K d.at_) fd) {N ps : List Str} {k : Nat} {sp : Sp} (S : FnScope N ps d.scope)
    (len : ∀ vs H Q E, sp vs H Q E → vs.length = ps.length)
    (body : ∀ (A : Around) (outer : List Env) (s : Shared) (H : Hp) (vs : List V) (Q : VK) (E : XK), Room k (A.deeper (envOfC d.qual d.scope s.heap.objs.size (He.fAd K d.at_) (.ref (He.cT K d.at_).1))) → sp vs H Q E →
      ∃ t, PSs (cxOf (L2.CX P w) P w K mg base N d.qual d.scope (He.fAd K d.at_) (.ref (He.cT K d.at_).1) A outer s H E) d.body t ∧ t { nx := fun _ H' => Q .non H', rt := Q } (start N vs) H) :
    FnOk P w K mg base (L2.CX P w) (k + 1) (He.fAd K d.at_) fd ps sp := by
  obtain ⟨oc, od, dV, kV, doc, pm, an, cdv, ct, osl, rfl, lk, hcd, _, _⟩ := F.ex
  obtain ⟨c, rfl⟩ := He.codeIn_ref hcd
  have ec : (He.cT K d.at_).1 = c := He.codeOf_eq lk rfl
  subst ec
  exact L2.fn_of lk hcd S len fun A outer s H vs Q E hr h => body A outer s H vs Q E hr h
theorem fn_law (T : Tt K mg base) {fd : FuncData} (F : FunD K d_law.name d_law.qual d_law.params d_law.body d_law.scope [] [] (He.fAd K d_law.at_) fd) : FnOk P w K mg base (L2.CX P w) 12 (He.fAd K d_law.at_) fd ["_law_script"] (spLaw K) := by
  refine T.fnT F sc_law (fun vs H Q E h => ?_) (fun A outer s H vs Q E hr h => ?_)
  · obtain ⟨l, ns, rfl, _⟩ := h
    rfl
  · obtain ⟨l, ns, rfl, hl, hns, hT, q⟩ := h
    have U := T.tu
    have Z := U.tv.tw.tz
    have X := Z.tx
    have nd := sc_law.nd
    have hr9 : Room 9 _ := hr.mono (by decide)
    have hr8 : Room 8 _ := hr.mono (by decide)
    have hr6 : Room 6 _ := hr.mono (by decide)
    have hr4 : Room 4 _ := hr.mono (by decide)
    have hr3 : Room 3 _ := hr.mono (by decide)
    have hr1 : Room 1 _ := hr.mono (by decide)
    have hm := T.hm (p := ("law", none)) (by decide)
    have hu := T.hu (p := ("law", none)) (by decide)
    have TB := T.tb ("law", none) (by decide)
    have nx : ∀ {p1 p2 p3 p4 : Pos} {k : Nat} {j : Int}, PE (cxOf (L2.CX P w) P w K mg base N_law d_law.qual d_law.scope (He.fAd K d_law.at_) (.ref (He.cT K d_law.at_).1) A outer s H E) (.Call (.Name "_law_next" p1) [.Name "_law_draw" p2, .Constant (.int j) k p3] [] p4) _ :=
      fun {p1 p2 p3 p4 k j} => pe_fn (ok_law_next X) hr1 (X.mglo "_law_next") (pa_cons (pe_var (i := 5) rfl (.inr (.inl rfl))) (pa_cons pe_int pa_nil)) passL
    have al : ∀ {p1 p2 p4 : Pos}, PE (cxOf (L2.CX P w) P w K mg base N_law d_law.qual d_law.scope (He.fAd K d_law.at_) (.ref (He.cT K d_law.at_).1) A outer s H E) (.Call (.Name "_law_all" p1) [.Name "_law_board" p2] [] p4) _ :=
      fun {p1 p2 p4} => pe_fn (ok_law_all T) hr8 (X.mglo "_law_all") (pa_cons (pe_var (i := 4) rfl (.inr (.inl rfl))) pa_nil) passL
    have en : ∀ {p1 p2 p3 p4 p5 : Pos} {k : Nat} {j : Int}, PE (cxOf (L2.CX P w) P w K mg base N_law d_law.qual d_law.scope (He.fAd K d_law.at_) (.ref (He.cT K d_law.at_).1) A outer s H E) (.Call (.Name "_law_ended" p1) [.Name "_law_draw" p2, .Name "_law_board" p3, .Constant (.int j) k p4] [] p5) _ :=
      fun {p1 p2 p3 p4 p5 k j} => pe_fn (ok_law_ended T) hr (X.mglo "_law_ended") (pa_cons (pe_var (i := 5) rfl (.inr (.inl rfl))) (pa_cons (pe_var (i := 4) rfl (.inr (.inl rfl))) (pa_cons pe_int pa_nil))) passL
    refine ⟨_, pss_cons (ps_set (i := 5) nd rfl (.inr rfl) (pe_fn (ok_law_begin X) hr1 (X.mglo "_law_begin") (pa_cons (pv 0) pa_nil) passL))
      (pss_cons (ps_for (passes_of rfl) rfl (pi_range1 (by rfl) (X.mfre "range") (pa_cons pe_int pa_nil)) (pg_name (i := 1) nd rfl (.inl rfl))
        (pss_cons (ps_set (i := 4) nd rfl (.inr rfl) (pe_mk (ok_Binit Z) X.mkB hr4 (X.mglo "Board") (pa_cons pe_int pa_nil) passL))
        (pss_cons (ps_for (passes_of rfl) rfl (pi_range1 (by rfl) (X.mfre "range") (pa_cons (pe_op op_add pe_int nx) pa_nil)) (pg_name (i := 2) nd rfl (.inl rfl))
          (pss_one (ps_expr (pe_fn (ok_law_deed Z) hr6 (X.mglo "_law_deed") (pa_cons (pe_var (i := 5) rfl (.inr (.inl rfl))) (pa_cons (pe_var (i := 4) rfl (.inr (.inl rfl))) pa_nil)) passL))))
        (pss_cons (ps_expr (pe_mt (ok_undo Z).2 hr4 X.clB (X.mB "undo" (by decide +kernel)) (pe_var (i := 4) rfl (.inr (.inl rfl))) (pa_cons (pe_op op_add pe_int nx) pa_nil) passX))
        (pss_cons (ps_set (i := 3) nd rfl (.inl rfl) al)
        (pss_cons (ps_if (pt_not (pt_val (pe_callB call_isi (by rfl) (X.mfre "isinstance") PyProof.Rows.boot_isinstance (pa_cons (pe_fnSK (E := fun _ => E0) (ok_under U.tv.tw (k := 8) (by decide)) hr9 (X.mglo "under") (pk_cons (pe_mt0 (ok_trial Z) hr3 X.clB (X.mB "trial" (by decide +kernel)) (pe_var (i := 4) rfl (.inr (.inl rfl))) passL) (pk_cons (pe_lam0 (T := TL K) TB rfl hm hu ?hf1) pk_nil)) passAL) (pa_cons (pe_bltn (v := .ty "int") (by rfl) (X.mfre "int") PyProof.Rows.boot_int rfl) pa_nil))))) (pss_one (ps_ret pe_bl)) pss_nil)
        (pss_cons (ps_if (PW.pt (pw_or (pt_cmpR (op_neD hr.units) al (pv 3) (nomark _)) (pw_or1 (pt_cmpR (op_neD hr.units) en (pe_tup (pa_cons pe_str (pa_cons pe_int pa_nil))) (nomark _))))) (pss_one (ps_ret pe_bl)) pss_nil)
        (pss_cons (ps_if (PW.pt (pw_or (pt_cmpR (op_neD hr.units) en (pe_tup (pa_cons pe_str (pa_cons pe_int pa_nil))) (nomark _)) (pw_or1 (pt_cmpR (op_neD hr.units) al (pv 3) (nomark _))))) (pss_one (ps_ret pe_bl)) pss_nil)
        (pss_cons (ps_if (PW.pt (pw_or (pt_not (pt_val (pe_fnS (E := fun _ => E0) (ok_under U.tv.tw (k := 10) (by decide)) hr (X.mglo "under") (pa_cons (pe_mt0 (ok_trial Z) hr3 X.clB (X.mB "trial" (by decide +kernel)) (pe_var (i := 4) rfl (.inr (.inl rfl))) passL) (pa_cons (pe_lam0 (T := TL K) TB rfl hm hu ?hf2) pa_nil)) passAL))) (pw_or1 (pt_cmpR (op_neD hr.units) al (pv 3) (nomark _))))) (pss_one (ps_ret pe_bl)) pss_nil)
        (pss_one (ps_if (pt_not (pt_val (pe_fn (ok_law_copies_right T) hr9 (X.mglo "_law_copies_right") (pa_cons (pe_var (i := 5) rfl (.inr (.inl rfl))) (pa_cons (pe_var (i := 4) rfl (.inr (.inl rfl))) (pa_cons (pv 3) pa_nil))) passL))) (pss_one (ps_ret pe_bl)) pss_nil)))))))))))
      (pss_one (ps_ret pe_bl))), ?_⟩
    case hf1 => exact fun ok' => LamP.has (lamP_by (sc := defScope s_law) (N := N_law) (ps := ["_law_one"]) (by decide +kernel)) ok'
    case hf2 => exact fun ok' => LamP.has (lamP_by (sc := defScope s_law) (N := N_law) (ps := ["_law_one"]) (by decide +kernel)) ok'
    refine ⟨_, rfl, l, ns, rfl, hl, hns, fun H1 d s1 D1 => ?_⟩
    have T1 : Tabs (TL K) H1 := hT.ext s1
    refine ⟨(5 : Int), rfl, by decide, by decide, ?_⟩
    refine for_it (walk_range (lo := 0) (n := 5)) (fun i σ H' => (∃ v1 v2 v3 v4 : Option V, σ = [some (.ref l), v1, v2, v3, v4, some (.ref d)]) ∧ Dr H' d (60 * i) ∧ Tabs (TL K) H')
      ⟨⟨_, _, _, _, rfl⟩, D1, T1⟩ (fun _ _ _ _ _ => trivial) (fun i y σ H2 H3 hi ⟨⟨v1, v2, v3, v4, eσ⟩, DD, TT⟩ hy => ?_) (fun σ H2 _ => q _)
    obtain ⟨rfl, rfl⟩ := hy
    subst eσ
    -- a new board
    refine fun x dq hx hdq hdx => ⟨x, dq, rfl, upd_same, fun G1 n0 v0 c0 k1 B1 => ⟨rfl, ?_⟩⟩
    have s0 : Same H3 (upd (upd H3 dq (.own x)) x (.ins (CB K) dq [])) := fun a o e => by
      rw [upd_ne (ne_of_none e hx), upd_ne (ne_of_none e hdq)]
      exact e
    have k01 : Kp [] H3 G1 := ((Kp.of_same s0).trans k1).cut fun a ha => .inr (by rw [List.mem_singleton.mp ha]; exact hx)
    have D1 := DD.kp k01 OffI.nil (by simp)
    have T1 := tabs_kp TT k01 OffI.nil
    have hdx' := dne D1 B1.ob
    have hdx1 : x ∉ [d] := by simp [hdx'.symm]
    have hdx2 : d ∉ [x] := by simp [hdx']
    -- its deeds
    refine ⟨_, rfl, d, 4, 60 * i, rfl, by decide, by decide, by omega, D1, fun G2 r hr4 k2 D2 => ⟨_, _, rfl, rfl, (3 + (r : Int)), rfl, by omega, by omega, ?_⟩⟩
    have ej : (3 + (r : Int)).toNat = r + 3 := by omega
    rw [ej]
    have B2 := B1.ki k2 (off1 D1) hdx1
    have T2 := tabs_kp T1 k2 (off1 D1)
    refine for_it (walk_range (lo := 0) (n := r + 3)) (fun j σ H' => (∃ u1 u2 u3 : Option V, σ = [some (.ref l), u1, u2, u3, some (.ref x), some (.ref d)]) ∧ Dr H' d (60 * i + 1 + 4 * j) ∧ Tabs (TL K) H' ∧ ∃ n' v' c' b', BdAt (CB K) H' x dq n' v' c' b' ∧ BdOk j b' ∧ b'.past.length = j)
      ⟨⟨_, _, _, rfl⟩, D2, T2, n0, v0, c0, b0, B2, b0_ok, rfl⟩ (fun _ _ _ _ _ => trivial) (fun j y σ H4 H5 hj ⟨⟨u1, u2, u3, eσ⟩, DDj, TTj, n', v', c', b', BB, okB, pl⟩ hy => ?_) (fun σ G3 ⟨⟨u1, u2, u3, eσ⟩, D3, T3, n3, v3, c3, b3, B3, ok3, pl3⟩ => ?_)
    · obtain ⟨rfl, rfl⟩ := hy
      subst eσ
      refine ⟨_, rfl, _, rfl, d, x, dq, n', v', c', b', j, 60 * i + 1 + 4 * j, rfl, BB, okB, by omega, by omega, DDj, fun H6 n6 v6 c6 b6 r6 k6 D6 B6 ok6 did => ?_⟩
      exact ⟨⟨_, _, _, rfl⟩, D6.mono (by omega), tabs_kp TTj k6 (off2 DDj BB.ob), n6, v6, c6, b6, B6, ok6, by rw [did.past, pl]⟩
    · subst eσ
      have hg3 : 60 * i + 1 + 4 * (r + 3) ≤ 60 * i + 25 := by omega
      have D3 := D3.mono hg3
      -- undo
      refine ⟨_, rfl, x, _, _, rfl, B3.ob, rfl, _, rfl, d, 2, 60 * i + 25, rfl, by decide, by decide, by omega, D3, fun G4 m hm2 k4 D4 => ⟨_, _, rfl, rfl, ?_⟩⟩
      have B4 := B3.ki k4 (off1 D3) hdx1
      have T4 := tabs_kp T3 k4 (off1 D3)
      refine ⟨x, dq, n3, v3, c3, b3, m + 1, r + 3, congrArg (fun z => [V.ref x, V.int z]) (by omega), B4, ok3, by omega, by omega, fun hle G5 n5 v5 c5 k5 B5 ok5 => ?_, fun hlt => absurd hlt (by omega)⟩
      have p5 : 1 ≤ (undoB (m + 1) b3).past.length := by rw [undoB_past, pl3]; omega
      have D5 := D4.kp k5 (offP B4.ob) hdx2
      have T5 := tabs_kp T4 k5 (offP B4.ob)
      revert B5 ok5 p5
      generalize undoB (m + 1) b3 = b
      intro B5 ok5 p5
      have ok := ok5.mono (show r + 3 ≤ 6 by omega)
      -- what it is
      refine ⟨_, rfl, x, dq, n5, v5, c5, b, 6, rfl, B5, ok, by decide, T5, fun G6 la k6 T6 hl6 A6 => ?_⟩
      have B6 := B5.atw k6 Off.nil (by simp)
      have D6 := D5.kw k6 OffI.nil (by simp)
      -- a trial
      refine ⟨_, rfl, x, _, _, rfl, B6.ob, rfl, x, dq, n5, v5, c5, rfl, B6.ob, fun G7 t dt k7 htn ht7 => ⟨tabs_kp T6 k7 OffI.nil, fun f G8 e8 T8 hf L8 pins s I => ?_⟩⟩
      have k68 : Kw [] G6 G8 := k7.kw.trans (Kw.ext e8)
      have B8 := B6.atw k68 Off.nil (by simp)
      have D8 := D6.kw k68 OffI.nil (by simp)
      have ht8 := e8 _ _ ht7 (fun _ z => by cases z)
      have hne : t ≠ x := fun z => by
        rw [z, B6.ob] at htn
        cases htn
      have hdt : d ≠ t := dne D8 ht8
      refine ⟨t, dt, x, dq, n5, v5, c5, n5, v5, c5, f, _, rfl, lam_closL (n := 1) (ps := ["_law_one"]) (ds := []) L8 I (by exact lamP_by (sc := defScope s_law) (N := N_law) (by decide +kernel)) rfl (.inl ⟨rfl, rfl⟩) (fun _ q cl pm cv ctv us hl => match us, hl with | [_], _ => rfl) (fun z => by cases z)
        (fun A' outer' s1 H1 E1 c' hr' un hfo => pe_fn (ok_law_inside Z) hr' (X.mglo "_law_inside") (pa_cons (pe_var (i := 5) rfl (.inr (.inr rfl))) (pa_cons (pe_var (i := 6) rfl (.inl rfl)) (pa_cons (pe_var (i := 4) rfl (.inr (.inr rfl))) pa_nil))) passL), L8.fnH, ht8, B8.ob, hne, fun G9 k9 o9 p9 Q2 E2 hQ2 hE2 => ?_⟩
      have offt : OffI G8 [t] := OffI.cons ht8 rfl OffI.nil
      have B9 := B8.ki k9 offt (by simp [hne.symm])
      have D9 := D8.kp k9 offt (by simp [hdt])
      refine ⟨rfl, L8.kp k9 offt.offM, ?_⟩
      refine ⟨_, rfl, _, rfl, _, rfl, d, x, dq, n5, v5, c5, b, 6, 60 * i + 25 + 1, rfl, B9, ok, by decide, by omega, D9, p5, fun G10 n10 v10 c10 b10 r10 k10 D10 B10 => ?_⟩
      refine hQ2 _ _ ⟨k10 _ _ o9 (by simp [hdt.symm, hne]), n10, v10, c10, B10.ob⟩ fun G11 k11 o11 => ?_
      have k911 : Kp [d] G9 G11 := Kp.back (p := x) ((k10.mono (by simp)).trans (k11.mono (by simp))) B9.ob o11
      have k811 : Kp [d, t] G8 G11 := (k9.mono (by simp)).trans (k911.mono (by simp))
      have od8 : OffI G8 [d, t] := off2 D8 ht8
      have B11 := B8.ki k811 od8 (by simp [hdx'.symm, hne.symm])
      have D11 := (D10.kp k11 (offP B10.ob) hdx2).mono (show 60 * i + 25 + 1 + 14 ≤ 60 * i + 40 by omega)
      have T11 := tabs_kp T8 k811 od8
      have A11 := DL.sk ((Kw.sk k68 Off.nil).trans (k811.sk od8.off)) A6
      refine ⟨.int r10, .ty "int", .type "int", .type "int", true, rfl, .ty _, .base (.int r10), kit_ty (by decide +kernel), true, rfl, iteN rfl ?_⟩
      -- as before; ended, nothing left
      refine ⟨_, rfl, x, dq, n5, v5, c5, b, 6, rfl, B11, ok, by decide, T11, fun G12 l12 k12 T12 hl12 A12 => ?_⟩
      have A12a := DL.sk (Kw.sk k12 Off.nil) A11
      refine ⟨_, rfl, allD b, allD b, A12.dp, A12a.dp, (allD_sh _).shaped (by decide), (allD_sh _).shaped (by decide), _, rfl, iteN (by rw [(allD_sh b).refl]; rfl) ?_⟩
      have B12 := B11.atw k12 Off.nil (by simp)
      have D12 := D11.kw k12 OffI.nil (by simp)
      refine ⟨_, rfl, _, rfl, d, x, dq, n5, v5, c5, b, 6, 60 * i + 40, false, rfl, B12, ok, by decide, by omega, D12, T12, fun G13 t13 k13 T13 D13 ht13 => ?_⟩
      refine ⟨by show 2 ≤ sizeLine; decide, fun t14 ht14 => ?_⟩
      have s14 := sN (H := G13) (a := t14) (o := (.tup [.str "left", .int 2000])) ht14
      have h14 : upd G13 t14 (.tup [.str "left", .int 2000]) t14 = some (.tup [.str "left", .int 2000]) := upd_same
      revert s14 h14
      generalize upd G13 t14 (.tup [.str "left", .int 2000]) = G14
      intro s14 h14
      have sh2 : Sh 1 (.tuple [.str "left", .int 2000]) := Sh.tuple (shC ⟨(by decide +kernel : PyData.strOk "left" = true), Nat.zero_le _⟩ (sh1 (Sh.int _)))
      refine ⟨.tuple [.str "left", .int 2000], .tuple [.str "left", .int 2000], .tup (SqT.of (s14 _ _ ht13)) (.cons (.str _) (.cons (.int _) .nil)), .tup (SqT.of h14) (.cons (.str _) (.cons (.int _) .nil)), sh2.shaped (by decide), sh2.shaped (by decide), _, rfl, iteN (by rw [sh2.refl]; rfl) ?_⟩
      have k1214 : Kw [d] G12 G14 := k13.trans (Kp.of_same s14).kw
      have od12 := off1 D12
      have B14 := B12.atw k1214 od12.off hdx1
      have D14 := D13.sm s14
      have T14 := T13.ext s14
      have A14 := DL.sk (Kw.sk k1214 od12.off) A12a
      -- ended, a wrong number; as before
      refine ⟨_, rfl, _, rfl, d, x, dq, n5, v5, c5, b, 6, 60 * i + 40 + 4, true, rfl, B14, ok, by decide, by omega, D14, T14, fun G15 t15 k15 T15 D15 ht15 => ?_⟩
      refine ⟨by show 2 ≤ sizeLine; decide, fun t16 ht16 => ?_⟩
      have s16 := sN (H := G15) (a := t16) (o := (.tup [.str "number", .int 5])) ht16
      have h16 : upd G15 t16 (.tup [.str "number", .int 5]) t16 = some (.tup [.str "number", .int 5]) := upd_same
      revert s16 h16
      generalize upd G15 t16 (.tup [.str "number", .int 5]) = G16
      intro s16 h16
      have sh3 : Sh 1 (.tuple [.str "number", .int 5]) := Sh.tuple (shC ⟨(by decide +kernel : PyData.strOk "number" = true), Nat.zero_le _⟩ (sh1 (Sh.int _)))
      refine ⟨.tuple [.str "number", .int 5], .tuple [.str "number", .int 5], .tup (SqT.of (s16 _ _ ht15)) (.cons (.str _) (.cons (.int _) .nil)), .tup (SqT.of h16) (.cons (.str _) (.cons (.int _) .nil)), sh3.shaped (by decide), sh3.shaped (by decide), _, rfl, iteN (by rw [sh3.refl]; rfl) ?_⟩
      have k1416 : Kw [d] G14 G16 := k15.trans (Kp.of_same s16).kw
      have od14 := off1 D14
      have B16 := B14.atw k1416 od14.off hdx1
      have D16 := D15.sm s16
      have T16 := T15.ext s16
      have A16 := DL.sk (Kw.sk k1416 od14.off) A14
      refine ⟨_, rfl, x, dq, n5, v5, c5, b, 6, rfl, B16, ok, by decide, T16, fun G17 l17 k17 T17 hl17 A17 => ?_⟩
      have A17a := DL.sk (Kw.sk k17 Off.nil) A16
      refine ⟨_, rfl, allD b, allD b, A17.dp, A17a.dp, (allD_sh _).shaped (by decide), (allD_sh _).shaped (by decide), _, rfl, iteN (by rw [(allD_sh b).refl]; rfl) ?_⟩
      have B17 := B16.atw k17 Off.nil (by simp)
      have D17 := D16.kw k17 OffI.nil (by simp)
      -- a trial within a trial
      refine ⟨_, rfl, x, _, _, rfl, B17.ob, rfl, x, dq, n5, v5, c5, rfl, B17.ob, fun G18 t2 dt2 k18 ht2n ht18 => ⟨tabs_kp T17 k18 OffI.nil, fun f2 G19 e19 T19 hf2 L19 pins2 s2 I2 => ?_⟩⟩
      have k1719 : Kw [] G17 G19 := k18.kw.trans (Kw.ext e19)
      have B19 := B17.atw k1719 Off.nil (by simp)
      have D19 := D17.kw k1719 OffI.nil (by simp)
      have ht19 := e19 _ _ ht18 (fun _ z => by cases z)
      have hne2 : t2 ≠ x := fun z => by
        rw [z, B17.ob] at ht2n
        cases ht2n
      have hdt2 : d ≠ t2 := dne D19 ht19
      refine ⟨t2, dt2, x, dq, n5, v5, c5, n5, v5, c5, f2, _, rfl, lam_closL (n := 1) (ps := ["_law_one"]) (ds := []) L19 I2 (by exact lamP_by (sc := defScope s_law) (N := N_law) (by decide +kernel)) rfl (.inl ⟨rfl, rfl⟩) (fun _ q cl pm cv ctv us hl => match us, hl with | [_], _ => rfl) (fun z => by cases z)
        (fun A' outer' s1 H1 E1 c' hr' un hfo => pe_fn (ok_law_within T) hr' (X.mglo "_law_within") (pa_cons (pe_var (i := 5) rfl (.inr (.inr rfl))) (pa_cons (pe_var (i := 6) rfl (.inl rfl)) pa_nil)) passL), L19.fnH, ht19, B19.ob, hne2, fun G20 k20 o20 p20 Q3 E3 hQ3 hE3 => ?_⟩
      have offt2 : OffI G19 [t2] := OffI.cons ht19 rfl OffI.nil
      have B20 := B19.ki k20 offt2 (by simp [hne2.symm])
      have D20 := D19.kp k20 offt2 (by simp [hdt2])
      have T20 := tabs_kp T19 k20 offt2
      refine ⟨rfl, L19.kp k20 offt2.offM, ?_⟩
      refine ⟨_, rfl, _, rfl, d, x, dq, n5, v5, c5, b, 6, 60 * i + 40 + 4 + 4, rfl, B20, ok, by decide, by omega, D20, T20, fun G21 n21 v21 c21 b21 k21 T21 D21 B21 => ?_⟩
      refine hQ3 _ _ ⟨k21 _ _ o20 (fun _ z => by cases z) (by simp [hdt2.symm, hne2]), n21, v21, c21, B21.ob⟩ fun G22 k22 o22 => ?_
      have k2022 : Kw [d] G20 G22 := Kw.back (p := x) ((k21.mono (by simp)).trans (k22.kw.mono (by simp))) B20.ob o22
      have k1922 : Kw [d, t2] G19 G22 := (k20.kw.mono (by simp)).trans (k2022.mono (by simp))
      have od19 : OffI G19 [d, t2] := off2 D19 ht19
      have B22 := B19.atw k1922 od19.off (by simp [hdx'.symm, hne2.symm])
      have D22 := D21.kp k22 (offP B21.ob) hdx2
      have T22 := tabs_kp T21 k22 (offP B21.ob)
      have A22 := DL.sk ((Kw.sk k1719 Off.nil).trans (Kw.sk k1922 od19.off)) A17a
      refine ⟨true, rfl, iteN rfl ?_⟩
      refine ⟨_, rfl, x, dq, n5, v5, c5, b, 6, rfl, B22, ok, by decide, T22, fun G23 l23 k23 T23 hl23 A23 => ?_⟩
      have A23a := DL.sk (Kw.sk k23 Off.nil) A22
      refine ⟨_, rfl, allD b, allD b, A23.dp, A23a.dp, (allD_sh _).shaped (by decide), (allD_sh _).shaped (by decide), _, rfl, iteN (by rw [(allD_sh b).refl]; rfl) ?_⟩
      have B23 := B22.atw k23 Off.nil (by simp)
      have D23 := D22.kw k23 OffI.nil (by simp)
      -- copies
      refine ⟨_, rfl, _, rfl, _, rfl, d, x, la, dq, n5, v5, c5, b, 6, 60 * i + 40 + 4 + 4 + 8, rfl, B23, ok, by decide, by omega, D23, T23, A23a, fun G24 k24 T24 D24 => ?_⟩
      refine ⟨true, rfl, iteN rfl ?_⟩
      exact ⟨⟨_, _, _, _, rfl⟩, D24.mono (by omega), T24⟩
end
end K21

/-! what the head tells -/
namespace K21
open PySem PySem.Spec PyProof.Rows L2 LamX
def faL : List He.Fa := (gloL ++ gloM).map He.Fa.glo ++ (freL.map He.Fa.free ++ (txtL.map (fun p => He.Fa.str p.1 p.2) ++ (numL.map (fun p => He.Fa.int p.1 p.2) ++ ([.cls "Board", .cls "Trial", .mkr "Board", .mkr "Trial", .glo "law"] ++
  (methB.map (He.Fa.meth "Board") ++ (methT.map (He.Fa.meth "Trial") ++ (attB.map (He.Fa.noat "Board") ++ attT.map (He.Fa.noat "Trial"))))))))
/-- a def's object at a -/
def fnA (K : PySem.W.Frag) (a : Addr) : He.FnW := match K.lookup a with
  | some ⟨_, _, .func fd, _⟩ => some (fd.name, fd.qualname, fd.params, fd.body, fd.scope, fd.globals, fd.closure, fd.builtins)
  | _ => none
def okA (K : PySem.W.Frag) (a : Addr) (d : He.DefD) : Bool := PySem.W.keepIn K (.ref a) && (match K.lookup a with
  | some ⟨_, _, .func fd, _⟩ => PySem.W.codeIn K fd.code d.qual && (He.dflB K fd.defaults [] && He.kwdB K fd.kwdefaults [])
  | _ => false)
theorem funA {K : PySem.W.Frag} {a : Addr} {d : He.DefD} (e : fnA K a = d.val) (c : okA K a d = true) : ∃ fd, FunD K d.name d.qual d.params d.body d.scope [] [] a fd := by
  unfold okA at c
  unfold fnA at e
  obtain ⟨kp, c2⟩ := Bool.and_eq_true_iff.mp c
  cases q : K.lookup a with
  | none =>
    rw [q] at c2
    cases c2
  | some o =>
    obtain ⟨oc, od, dt, osl⟩ := o
    rw [q] at c2 e
    cases dt with
    | func fd =>
      obtain ⟨n1, n2, n3, n4, n5, n6, n7, n8, n9, n10, n11, n12, n13, n14, n15⟩ := fd
      have e2 : (some (n1, n2, n3, n4, n5, n6, n7, n15) : He.FnW) = some (d.name, d.qual, d.params, .stmts d.body, d.scope, mainGlobals, [], builtinsNs) := e
      simp only [Option.some.injEq, Prod.mk.injEq] at e2
      obtain ⟨h1, h2, h3, h4, h5, h6, h7, h8⟩ := e2
      subst h1 h2 h3 h4 h5 h6 h7 h8
      have c3 : (PySem.W.codeIn K n13 d.qual && (He.dflB K n8 [] && He.kwdB K n9 [])) = true := c2
      obtain ⟨k1, k2⟩ := Bool.and_eq_true_iff.mp c3
      obtain ⟨k3, k4⟩ := Bool.and_eq_true_iff.mp k2
      exact ⟨_, ⟨oc, od, n8, n9, n10, n11, n12, n13, n14, osl, rfl, q, k1, He.dflB_ok k3, He.kwdB_ok k4⟩, kp⟩
    | _ => cases c2
/-- a property of Board -/
def prA (K : PySem.W.Frag) (d : He.DefD) : Addr := match d.at_.2 with
  | some m => pAd K "Board" m
  | none => 0
def prB (K : PySem.W.Frag) (d : He.DefD) : Bool := match d.at_.2 with
  | some m => He.eqO (PySem.W.findIn K (.ref (He.ga K "Board")) m) (some (some (.ref (He.ma K (He.ga K "Board") m)))) && (He.eqO (PySem.W.specialIn K (.ref (He.ma K (He.ga K "Board") m)) "__get__") (some (some (.builtin "property.__get__"))) &&
    (decide (PySem.W.takesIn K (.ref (He.ma K (He.ga K "Board") m)) = some true) && ((match PySem.W.recIn K (He.ma K (He.ga K "Board") m) "property" with
      | some (.ref _ :: _) => true
      | _ => false) && okA K (pAd K "Board" m) d)))
  | none => false
def isB (K : PySem.W.Frag) (C : Addr) : Bool := He.eqO (PySem.W.findIn K (.ref C) "__class__") (some (some (.builtin "object.__class__"))) && (He.eqO (PySem.W.specialIn K (.builtin "object.__class__") "__get__") (some (some (.builtin "getset_descriptor.__get__"))) &&
  (decide (PySem.W.takesIn K (.builtin "object.__class__") = some true) && (decide (PySem.W.mroIn K C (.type "object") = some true) && decide (PySem.W.kitOne K (.ref C) (.ref C) = some true))))
def ex1B (K : PySem.W.Frag) (x f : Str) (bmB : List Value) (newId : String) : Bool := excB K (He.ga K x) bmB newId && (He.eqO (PySem.W.findIn K (.ref (He.ga K x)) "__setattr__") (some (some (.builtin "object.__setattr__"))) && (decide (PySem.W.subIn K (.ref (He.ga K x)) (.type "BaseException") = some true) &&
  (decide (PySem.W.typeIn K (.ref (He.ga K x)) = some (.type "type")) && (PySem.W.keepIn K (.ref (He.ga K x)) && (He.eqO (PySem.W.findIn K (.ref (He.ga K x)) "__init__") (some (some (.ref (He.fAd K (x, some "__init__"))))) &&
    (decide (PySem.W.typeIn K (.ref (He.fAd K (x, some "__init__"))) = some (.type "function")) && He.eqO (PySem.W.findIn K (.ref (He.ga K x)) f) (some none)))))))
def clsB (K : PySem.W.Frag) (C : Value) (id : String) : Bool := match PySem.W.findCls K C (.type "type") "__init__" with
  | some (.val (.builtin n)) => decide (n = id)
  | _ => false
theorem clsB_ok {K : PySem.W.Frag} {C : Value} {id : String} (h : clsB K C id = true) : PySem.W.findCls K C (.type "type") "__init__" = some (.val (.builtin id)) := by
  unfold clsB at h
  split at h
  · next n e => rw [e, of_decide_eq_true h]
  · cases h
def leB (K : PySem.W.Frag) : Bool := He.eqO (PySem.W.specialIn K (.ref (He.ga K "LookError")) "__getattribute__") (some (some (.builtin "type.__getattribute__"))) && (PySem.W.readsIn K (He.ga K "LookError") (.type "type") && clsB K (.ref (He.ga K "LookError")) "ValueError.__init__")
def mgB (K : PySem.W.Frag) : Bool := He.eqO (PySem.W.findIn K (.ref (CT K)) "__enter__") (some (some (.ref (He.fAd K d_Trial__enter.at_)))) && (PySem.W.isFn K (.ref (He.fAd K d_Trial__enter.at_)) && (He.eqO (PySem.W.findIn K (.ref (CT K)) "__exit__") (some (some (.ref (He.fAd K d_Trial__exit.at_)))) && PySem.W.isFn K (.ref (He.fAd K d_Trial__exit.at_))))
def ecB (K : PySem.W.Frag) (D : Addr) : Bool := He.eqO (PySem.W.findIn K (.ref D) "__getattribute__") (some (some (.builtin "BaseException.__getattribute__"))) && (He.eqO (PySem.W.findIn K (.ref D) "__getattr__") (some none) && (decide (PySem.W.subIn K (.ref D) (.type "BaseException") = some true) && (PySem.W.hasDictIn K D &&
  (He.eqO (PySem.W.findIn K (.ref D) "__class__") (some (some (.builtin "object.__class__"))) && (He.eqO (PySem.W.specialIn K (.builtin "object.__class__") "__get__") (some (some (.builtin "getset_descriptor.__get__"))) && (decide (PySem.W.takesIn K (.builtin "object.__class__") = some true) && decide (PySem.W.mroIn K D (.type "object") = some true)))))))
def kitL (r : Bool) : List (Str × Bool) := [("BadReading", false), ("BadHabits", false), ("BadPromise", false), ("BadWays", false), ("BadSize", false), ("BadNumber", r), ("BadWeaving", false), ("BadPaper", false), ("BadText", false), ("TooGreat", false), ("NothingLeft", !r)]
def kiB (K : PySem.W.Frag) (r : Bool) : Bool := (kitL r).all fun p => decide (PySem.W.kitOne K (.ref (clsR K r)) (.ref (He.ga K p.1)) = some p.2)
def hitB (K : PySem.W.Frag) (r : Bool) : Bool := ((caught1 ++ caught2).all fun x => decide (PySem.W.exmOne K (.ref (clsR K r)) (.ref (He.ga K x)) = some (exB1 K (.ref (clsR K r)) (.ref (He.ga K x))))) && (caught1 ++ caught2).any fun x => exB1 K (.ref (clsR K r)) (.ref (He.ga K x))
def exL : List (PySem.W.Frag → Bool) := [fun K => He.tupB K "WAYS" [.str "down", .str "open", .str "up"], fun K => isB K (He.ga K "Board"), fun K => prL.all (prB K), fun K => ex1B K "BadNumber" "given" veL "ValueError.__new__", fun K => ex1B K "NothingLeft" "many" reL "RuntimeError.__new__",
  leB, fun K => clsB K (.type "RuntimeError") "RuntimeError.__init__", mgB, fun K => ecB K (CN K), fun K => ecB K (CL K), fun K => kiB K true, fun K => kiB K false, fun K => hitB K true, fun K => hitB K false, fun K => decide ((tfL.map fun p => (He.cT K p).2).Nodup)]
def exK (K : PySem.W.Frag) : Bool := exL.all fun b => b K
end K21

/-! the hook -/
namespace K21
open PySem PySem.Spec PyProof.Rows L2 LamX
/-- what is looked at: what the names reach, and the C statics -/
def asK (g : Addr → Option Obj) : List Addr := cStatics :: He.asD g 5
def obsX (as : List Addr) (g : Addr → Option Obj) : He.AlX := (He.obsT faL fnL [] (He.frT g as), exK (He.frT g as) && He.tabsB g tfL (He.frT g as))
theorem says_of {w : World} {h : Heap} {as : List Addr} (e : obsX as h.get? = He.valX fnL [] w) : He.SaysX faL fnL [] tfL exK w h (He.frT h.get? as) := by
  have e1 : He.obsT faL fnL [] (He.frT h.get? as) = He.valT fnL [] w := congrArg (fun z : He.AlX => z.1) e
  have e2 : (exK (He.frT h.get? as) && He.tabsB h.get? tfL (He.frT h.get? as)) = true := congrArg (fun z : He.AlX => z.2) e
  obtain ⟨x, t⟩ := Bool.and_eq_true_iff.mp e2
  have key : ∀ p ∈ tfL, PySem.W.codeHdIn (He.frT h.get? as) (He.cT (He.frT h.get? as) p).1 (He.cT (He.frT h.get? as) p).2 = true ∧ ∃ o, h.get? (He.cT (He.frT h.get? as) p).2 = some o ∧ He.emptyTab o = true := fun p hp => by
    obtain ⟨t1, t2⟩ := Bool.and_eq_true_iff.mp (List.all_eq_true.mp t p hp)
    split at t2
    · next o q => exact ⟨t1, o, q, t2⟩
    · cases t2
  refine ⟨e1, x, fun p hp => (key p hp).1, fun p hp => ?_, fun p hp => ?_⟩
  · obtain ⟨_, o, q, z⟩ := key p hp
    exact He.frT_none q z
  · obtain ⟨_, o, q, z⟩ := key p hp
    rw [q, He.emptyTab_eq z]
def obsK (g : Addr → Option Obj) : He.AlX × List He.FnW := (obsX (asK g) g, prL.map fun d => fnA (He.frT g (asK g)) (prA (He.frT g (asK g)) d))
def hookK : PySem.W.Hook where
  α := He.AlX × List He.FnW
  obs := fun s => obsK s.heap.get?
  val := fun w => (He.valX fnL [] w, prL.map He.DefD.val)
  says := fun w h => ∃ K : PySem.W.Frag, K.In h ∧ He.SaysX faL fnL [] tfL exK w h K ∧ prL.map (fun d => fnA K (prA K d)) = prL.map He.DefD.val
  of := fun w s e => ⟨_, He.frT_in, says_of (congrArg (fun z : He.AlX × List He.FnW => z.1) e), congrArg (fun z : He.AlX × List He.FnW => z.2) e⟩
  keeps := fun w h h' ⟨K, hK, c, c2⟩ k => ⟨K, PySem.W.Frag.In.keeps hK k, ⟨c.t, c.more, c.hd, c.out, fun p hp => k _ _ (c.empty p hp)⟩, c2⟩
abbrev R : PySem.W.OpenRow := PySem.W.OpenLaw.row PySem.Challenge.rw_looksums_k21_whole_boards_tried
abbrev qv : Program := PySem.W.view R.prog [61]
def n1 : List PySem.Str := ["LookError", "BadReading", "BadHabits", "BadPromise", "BadWays", "BadWeaving", "BadPaper", "BadSize", "BadNumber", "BadText", "TooGreat", "NothingLeft", "DOWN", "OPEN", "UP", "WAYS", "MOST_WAYS", "is_integer", "is_whole", "is_word", "are_ways", "need_ways", "GIVE", "TAKE"]
def n2 : List PySem.Str := ["MOST_SLOTS", "looker_of", "is_over", "next_slots", "read_on", "put_to", "half_on", "other_half", "MOST_DEEDS", "ADD", "BEGIN", "FINISH", "START", "READ", "with_item", "behind_deed", "Trial", "under", "Board", "need_many"]
def n3 : List PySem.Str := ["_law_begin", "_law_next", "_law_pick", "_law_fault", "_law_said", "_law_deed", "_law_state", "_law_all", "_law_inside", "_law_ended", "_law_within", "_law_copies_right"]
def names : List PySem.Str := n1 ++ n2 ++ n3
def ob (s : PySem.W.SharedT) : He.AlX × List He.FnW := obsK (HandSHeadRun.getT s)
theorem ob_eq (s : PySem.W.SharedT) : ob s = hookK.obs s.abs := by
  have e : HandSHeadRun.getT s = s.abs.heap.get? := funext (HandSHeadRun.getT_eq s)
  unfold ob
  rw [e]
  rfl
end K21

/-! the facts, from what the head tells -/
namespace K21
open PySem PySem.Spec PyProof.Rows L2 LamX
theorem a2 {a b : Bool} (h : (a && b) = true) : a = true ∧ b = true := Bool.and_eq_true_iff.mp h
section
variable {K : PySem.W.Frag}
theorem exAt (h : exK K = true) (i : Nat) {b : PySem.W.Frag → Bool} (hi : exL[i]? = some b) : b K = true := List.all_eq_true.mp h b (List.mem_of_getElem? hi)
theorem prB_ok {d : He.DefD} {m : Str} (h : prB K d = true) (e : d.at_.2 = some m) : PropOf K (He.ga K "Board") m (He.ma K (He.ga K "Board") m) (pAd K "Board" m) ∧ okA K (pAd K "Board" m) d = true := by
  unfold prB at h
  rw [e] at h
  obtain ⟨h1, h⟩ := a2 h
  obtain ⟨h2, h⟩ := a2 h
  obtain ⟨h3, h⟩ := a2 h
  obtain ⟨h4, h5⟩ := a2 h
  refine ⟨⟨He.eqO_ok h1, He.eqO_ok h2, of_decide_eq_true h3, ?_⟩, h5⟩
  unfold pAd
  split at h4
  · next g r e => exact ⟨r, by rw [e]⟩
  · cases h4
theorem isB_ok {C : Addr} (h : isB K C = true) : InsIs K C := by
  obtain ⟨h1, h⟩ := a2 h
  obtain ⟨h2, h⟩ := a2 h
  obtain ⟨h3, h⟩ := a2 h
  obtain ⟨h4, h5⟩ := a2 h
  exact ⟨He.eqO_ok h1, He.eqO_ok h2, of_decide_eq_true h3, of_decide_eq_true h4, of_decide_eq_true h5⟩
theorem ex1B_ok {x f : Str} {bmB : List Value} {newId : String} (h : ex1B K x f bmB newId = true) : EX1 K x f bmB newId := by
  obtain ⟨h1, h⟩ := a2 h
  obtain ⟨h2, h⟩ := a2 h
  obtain ⟨h3, h⟩ := a2 h
  obtain ⟨h4, h⟩ := a2 h
  obtain ⟨h5, h⟩ := a2 h
  obtain ⟨h6, h⟩ := a2 h
  obtain ⟨h7, h8⟩ := a2 h
  exact ⟨⟨excB_of h1, He.eqO_ok h2, of_decide_eq_true h3, of_decide_eq_true h4, h5⟩, He.eqO_ok h6, of_decide_eq_true h7, He.eqO_ok h8⟩
theorem leB_ok (h : leB K = true) : InitOf K (He.ga K "LookError") "ValueError.__init__" := by
  obtain ⟨h1, h⟩ := a2 h
  obtain ⟨h2, h3⟩ := a2 h
  exact ⟨He.eqO_ok h1, h2, clsB_ok h3⟩
theorem mgB_ok (h : mgB K = true) : Mgr K (CT K) (He.fAd K d_Trial__enter.at_) (He.fAd K d_Trial__exit.at_) := by
  obtain ⟨h1, h⟩ := a2 h
  obtain ⟨h2, h⟩ := a2 h
  obtain ⟨h3, h4⟩ := a2 h
  exact ⟨He.eqO_ok h1, h2, He.eqO_ok h3, h4⟩
theorem ecB_ok {D : Addr} (h : ecB K D = true) : L2.ExcC K D := by
  obtain ⟨h1, h⟩ := a2 h
  obtain ⟨h2, h⟩ := a2 h
  obtain ⟨h3, h⟩ := a2 h
  obtain ⟨h4, h⟩ := a2 h
  obtain ⟨h5, h⟩ := a2 h
  obtain ⟨h6, h⟩ := a2 h
  obtain ⟨h7, h8⟩ := a2 h
  exact ⟨He.eqO_ok h1, He.eqO_ok h2, of_decide_eq_true h3, h4, He.eqO_ok h5, He.eqO_ok h6, of_decide_eq_true h7, of_decide_eq_true h8⟩
theorem kiB_ok {r : Bool} (h : kiB K r = true) (i : Nat) {x : Str} {b : Bool} (hi : (kitL r)[i]? = some (x, b)) : PySem.W.kitOne K (.ref (clsR K r)) (.ref (He.ga K x)) = some b :=
  of_decide_eq_true (List.all_eq_true.mp h (x, b) (List.mem_of_getElem? hi))
theorem fk_of {r : Bool} (e : ecB K (clsR K r) = true) (h : kiB K r = true) : Fk K (clsR K r) r := by
  have k := fun i {x b} => kiB_ok h i (x := x) (b := b)
  exact ⟨ecB_ok e, k 0 rfl, k 1 rfl, k 2 rfl, k 3 rfl, k 4 rfl, k 5 rfl, k 6 rfl, k 7 rfl, k 8 rfl, k 9 rfl, k 10 rfl⟩
theorem hitB_ok {r : Bool} (h : hitB K r = true) : HitT K (caught1.map (He.ga K)) (caught2.map (He.ga K)) (clsR K r) := by
  obtain ⟨h1, h2⟩ := a2 h
  refine ⟨fun c hc => ?_, ?_⟩
  · rw [← List.map_append] at hc
    obtain ⟨x, hx, rfl⟩ := List.mem_map.mp hc
    exact of_decide_eq_true (List.all_eq_true.mp h1 x hx)
  · rw [← List.map_append, List.any_map]
    exact h2
theorem midm {f : He.Fa} (h : f ∈ ([.cls "Board", .cls "Trial", .mkr "Board", .mkr "Trial", .glo "law"] : List He.Fa)) : f ∈ faL := List.mem_append_right _ (List.mem_append_right _ (List.mem_append_right _ (List.mem_append_right _ (List.mem_append_left _ h))))
/-- all of it -/
theorem tx_of {h : Heap} {mg : Str → Option Value} (KX : K.In h) (G : h.Ns mainGlobals mg) (c : He.SaysD faL fnL K) (x : exK K = true) (c2 : prL.map (fun d => fnA K (prA K d)) = prL.map He.DefD.val) : Tx K mg where
  fn := fun i d hi => c.def_ i hi
  pr := fun i d m hi e => by
    have hd := List.mem_of_getElem? hi
    have e2 : d.at_.2 = some m := congrArg Prod.snd e
    obtain ⟨p1, p2⟩ := prB_ok (List.all_eq_true.mp (exAt x 2 rfl) d hd) e2
    refine ⟨p1, funA ?_ p2⟩
    have key : ∀ l : List He.DefD, l.map (fun d => fnA K (prA K d)) = l.map He.DefD.val → d ∈ l → fnA K (prA K d) = d.val := fun l => by
      induction l with
      | nil => intro _ h; cases h
      | cons a r ih =>
        intro e h
        simp only [List.map_cons, List.cons.injEq] at e
        rcases List.mem_cons.mp h with rfl | h
        · exact e.1
        · exact ih e.2 h
    have k := key prL c2 hd
    have e3 : prA K d = pAd K "Board" m := by
      unfold prA
      rw [e2]
    rw [e3] at k
    exact k
  glo := fun y hy => He.glo_ok KX G (c.facts (f := .glo y) (List.mem_append_left _ (List.mem_map.mpr ⟨y, hy, rfl⟩)))
  fre := fun y hy => He.free_ok KX G (c.facts (f := .free y) (List.mem_append_right _ (List.mem_append_left _ (List.mem_map.mpr ⟨y, hy, rfl⟩))))
  txt := fun p hp => He.str_ok KX G (c.facts (f := .str p.1 p.2) (List.mem_append_right _ (List.mem_append_right _ (List.mem_append_left _ (List.mem_map.mpr ⟨p, hp, rfl⟩)))))
  num := fun p hp => He.int_ok KX G (c.facts (f := .int p.1 p.2) (List.mem_append_right _ (List.mem_append_right _ (List.mem_append_right _ (List.mem_append_left _ (List.mem_map.mpr ⟨p, hp, rfl⟩))))))
  ways := fun H => He.tupB_ok (exAt x 0 rfl) H
  clB := He.cls_ok (c.facts (f := .cls "Board") (midm (.head _)))
  clT := He.cls_ok (c.facts (f := .cls "Trial") (midm (.tail _ (.head _))))
  mB := fun m hm => He.meth_ok (c.facts (f := .meth "Board" m) (List.mem_append_right _ (List.mem_append_right _ (List.mem_append_right _ (List.mem_append_right _ (List.mem_append_right _ (List.mem_append_left _ (List.mem_map.mpr ⟨m, hm, rfl⟩))))))))
  mT := fun m hm => He.meth_ok (c.facts (f := .meth "Trial" m) (List.mem_append_right _ (List.mem_append_right _ (List.mem_append_right _ (List.mem_append_right _ (List.mem_append_right _ (List.mem_append_right _ (List.mem_append_left _ (List.mem_map.mpr ⟨m, hm, rfl⟩)))))))))
  aB := fun m hm => He.noat_ok (c.facts (f := .noat "Board" m) (List.mem_append_right _ (List.mem_append_right _ (List.mem_append_right _ (List.mem_append_right _ (List.mem_append_right _ (List.mem_append_right _ (List.mem_append_right _ (List.mem_append_left _ (List.mem_map.mpr ⟨m, hm, rfl⟩))))))))))
  aT := fun m hm => He.noat_ok (c.facts (f := .noat "Trial" m) (List.mem_append_right _ (List.mem_append_right _ (List.mem_append_right _ (List.mem_append_right _ (List.mem_append_right _ (List.mem_append_right _ (List.mem_append_right _ (List.mem_append_right _ (List.mem_map.mpr ⟨m, hm, rfl⟩))))))))))
  mkB := He.mkr_ok (c.facts (f := .mkr "Board") (midm (.tail _ (.tail _ (.head _)))))
  mkT := He.mkr_ok (c.facts (f := .mkr "Trial") (midm (.tail _ (.tail _ (.tail _ (.head _))))))
  isB := isB_ok (exAt x 1 rfl)
theorem tt_of {h base : Heap} {mg : Str → Option Value} (KX : K.In h) (G : h.Ns mainGlobals mg) (c : He.SaysD faL fnL K) (x : exK K = true) (c2 : prL.map (fun d => fnA K (prA K d)) = prL.map He.DefD.val) (tb : ∀ p ∈ tfL.map (He.cT K), LamX.TabB base mg p.1 p.2) : Tt K mg base where
  tu := {
    tv := {
      tw := {
        tz := ⟨tx_of KX G c x c2, ex1B_ok (exAt x 3 rfl), ex1B_ok (exAt x 4 rfl), leB_ok (exAt x 5 rfl), clsB_ok (exAt x 6 rfl)⟩
        mgr := mgB_ok (exAt x 7 rfl) }
      fk := fun r => match r with
        | true => fk_of (r := true) (exAt x 8 rfl) (exAt x 10 rfl)
        | false => fk_of (r := false) (exAt x 9 rfl) (exAt x 11 rfl) }
    hit := fun r => match r with
      | true => hitB_ok (exAt x 12 rfl)
      | false => hitB_ok (exAt x 13 rfl) }
  tb := fun p hp => tb _ (List.mem_map.mpr ⟨p, hp, rfl⟩)
  ap := of_decide_eq_true (exAt x 14 rfl)
theorem tabs0 {H : Hp} (h : ∀ p ∈ tfL.map (He.cT K), H p.2 = some (.tbl #[])) : Tabs (TL K) H := fun p hp => by
  obtain ⟨q, hq, rfl⟩ := List.mem_map.mp hp
  exact ⟨#[], h _ (List.mem_map.mpr ⟨q, hq, rfl⟩), trivial, fun pos cv e => by cases e⟩
theorem facts {P : Program} {w : World} {h : Heap} {mg : Str → Option Value} {f : Addr} (KX : K.In h) (G : h.Ns mainGlobals mg) (hfa : mg ("law" : Str) = some (.ref f)) (S : He.SaysX faL fnL [] tfL exK w h K) (c2 : prL.map (fun d => fnA K (prA K d)) = prL.map He.DefD.val) :
    ∃ fd : FuncData, (∀ (s : Shared) (u : Value), BindsTo s fd ⟨[u], []⟩ [("_law_script", u)]) ∧ ∀ base : Heap, K.In base → base.Ns mainGlobals mg → (∀ p ∈ tfL.map (He.cT K), LamX.TabB base mg p.1 p.2) → FnOk P w K mg base (L2.CX P w) 12 f fd ["_law_script"] (spLaw K) := by
  have c := S.t.d
  obtain ⟨fd, F⟩ := c.def_ 53 (d := d_law) at_law
  have e := hfa.symm.trans (He.glo_ok KX G (c.facts (f := .glo "law") (midm (.tail _ (.tail _ (.tail _ (.tail _ (.head _))))))))
  cases e
  have b := FunD.bindsA (ps := ["_law_script"]) F fun _ _ _ _ _ _ us hl => match us, hl with | [_], _ => rfl
  exact ⟨fd, fun s v => b s [v] rfl, fun base Kb Gb tb => fn_law (tt_of KX G c S.more c2 tb) F⟩
end
end K21

set_option maxHeartbeats 0
/-! the head's run, looked at four times: less memory at a time -/
namespace K21
open PySem PySem.W PySem.Calls PyProof.Rows
noncomputable abbrev endK (w : World) (os : OsState) : Option SharedT := HandSHeadRun.endF (HandSHeadRun.stepQ (HandSHeadRun.denQ HandSHeadRun.tabQ) R.prog w) 12000 R.prog w os
theorem run1 (w : World) : ∀ os : OsState, (endK w os).map (fun s => (HandSHeadRun.looksF R.prog (boot_heap w.params) s.abs, HandSHeadRun.seenQ qv names (importedModules R.prog.main.body) (fun s => xlAt qv [] s && recOk R.toRowW.records s) s.abs)) = some (true, openGood qv names) := by
  intro os
  kernel_rfl
theorem run2 (w : World) : ∀ os : OsState, (endK w os).map (fun s => He.obsT faL fnL [] (He.frT (HandSHeadRun.getT s) (asK (HandSHeadRun.getT s)))) = some (He.valT fnL [] w) := by
  intro os
  kernel_rfl
theorem run3 (w : World) : ∀ os : OsState, (endK w os).map (fun s => exK (He.frT (HandSHeadRun.getT s) (asK (HandSHeadRun.getT s))) && He.tabsB (HandSHeadRun.getT s) tfL (He.frT (HandSHeadRun.getT s) (asK (HandSHeadRun.getT s)))) = some true := by
  intro os
  kernel_rfl
theorem run4 (w : World) : ∀ os : OsState, (endK w os).map (fun s => prL.map fun d => fnA (He.frT (HandSHeadRun.getT s) (asK (HandSHeadRun.getT s))) (prA (He.frT (HandSHeadRun.getT s) (asK (HandSHeadRun.getT s))) d)) = some (prL.map He.DefD.val) := by
  intro os
  kernel_rfl
theorem map4 {α β γ δ ε ζ : Type} {x : Option α} {f : α → β} {f' : α → γ} {g : α → δ} {h : α → ε} {k : α → ζ} {b : β} {c : γ} {d : δ} {e : ε} {z : ζ} (h1 : x.map (fun s => (f s, f' s)) = some (b, c)) (h2 : x.map g = some d) (h3 : x.map h = some e) (h4 : x.map k = some z) :
    x.map (fun s => (f s, f' s, (g s, h s), k s)) = some (b, c, (d, e), z) := by
  cases x with
  | none => cases h1
  | some s =>
    have e1 : (f s, f' s) = (b, c) := Option.some.inj h1
    have e2 : g s = d := Option.some.inj h2
    have e3 : h s = e := Option.some.inj h3
    have e4 : k s = z := Option.some.inj h4
    injection e1 with e5 e6
    show some (f s, f' s, (g s, h s), k s) = _
    rw [e2, e3, e4, e5, e6]
theorem run (w : World) : HandSHeadRun.RunEq R qv hookK ob 12000 names w := fun os => map4 (run1 w os) (run2 w os) (run3 w os) (run4 w os)
end K21

/-! the law -/
open PySem PySem.W PySem.Calls PyProof.Rows
theorem PySem.Challenge.cw_looksums_k21_whole_boards_tried_holds : PySem.Challenge.rw_looksums_k21_whole_boards_tried.Holds := by
  w_on; o_law
  refine HandSHeadRun.head_any (r := OpenLaw.row PySem.Challenge.rw_looksums_k21_whole_boards_tried) (q := view (OpenLaw.row PySem.Challenge.rw_looksums_k21_whole_boards_tried).prog [61]) (H := K21.hookK) (ob := K21.ob) (M := 12000) (loose := K21.names) (d := HandSHeadRun.topDef (OpenLaw.row PySem.Challenge.rw_looksums_k21_whole_boards_tried).prog 61) (kwd := []) K21.ob_eq
    (by kernel_rfl) (fun s => by kernel_rfl) K21.run (by kernel_rfl) (by kernel_rfl) (by kernel_rfl) (by rfl) (by first | assumption | decide +kernel) (by decide +kernel) ⟨rfl, rfl, rfl, rfl, rfl, by decide +kernel⟩ ?hw ?hc
  case hw => w_witness2
  case hc =>
    refine LamX.walk_ofTsE (l := PySem.Challenge.rw_looksums_k21_whole_boards_tried) (n := 63) (k := 12) (x := "_law_script") (CX := fun w => L2.CX (PySem.Challenge.rw_looksums_k21_whole_boards_tried).prog w) rfl (by decide) (by kernel_rfl) ⟨rfl, by decide, by decide⟩ ?F (fun w H s e s' z => by
      obtain ⟨_, _, _, _, _, _, _, _, _, _, _, _, f⟩ := z
      exact f)
    intro w mg fa h Y G hmg0
    obtain ⟨K, KX, S, c2⟩ := Y
    have hmg : mg ("law" : PySem.Str) = some (.ref fa) := by
      have e : (HandSHeadRun.topDef (OpenLaw.row PySem.Challenge.rw_looksums_k21_whole_boards_tried).prog 61).name = ("law" : PySem.Str) := by kernel_rfl
      rw [← e]
      exact hmg0
    obtain ⟨fd, hb, hF⟩ := K21.facts (P := (PySem.Challenge.rw_looksums_k21_whole_boards_tried).prog) (w := w) KX G hmg S c2
    refine ⟨K, KX, fd, K21.tfL.map (He.cT K), K21.spLaw K, fun p hp => ?_, fun p hp => ?_, fun p hp => ?_, hb, fun H a ns hl _ hH hS => ⟨a, ns, rfl, hS, Nat.le_trans hl (by decide), K21.tabs0 hH, fun _ => rfl⟩, hF⟩
    · obtain ⟨q, hq, rfl⟩ := List.mem_map.mp hp
      exact S.empty q hq
    · obtain ⟨q, hq, rfl⟩ := List.mem_map.mp hp
      exact S.out q hq
    · obtain ⟨q, hq, rfl⟩ := List.mem_map.mp hp
      exact PySem.W.codeHd_of_K KX (S.hd q hq)
