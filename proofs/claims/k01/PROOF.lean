import PyProof.Rows.All
import HandS.Words
import HandS.Head0
import HandS.Head1
import HandS.Head2
import HandS.HeadEnd
import HandS.HeadHook1
import HandS.HeadHook2
import HandS.HeadHook3
import Wide.All
import OpenK.AllK
import HandS.ExcInit
import HandS.ExcIs
import KE.KExcInit
import Wide.FinOn
import KE.KStateDown
import HandS.ForMost
import HandS.ForExc
import HandS.Defaults
import HandS.Exc
import HandS.MakeKw
import HandS.MakeKwOnly
import HandS.ExcOwn
import HandS.TupAny
import HandS.TupMul
import HandS.Wide
import HandS.WideBits
import HandS.IsInst
import HandS.Flow
import HandS.Style
import PyProof.EnumMake
import PyProof.Draws
import HandS.More
import HandS.NoneIn
import HandS.Codes
import HandS.SetFor
import HandS.OwnEq
import HandS.NamedTup0
import KE.KFmtOwn
import HandS.ExcField
import KE.KExcIs
import HandS.Dict
import PyProof.LongRange
import PyProof.EqAt
import PyProof.EqKinds
import HandS.Deep
import HandS.FStr
import KE.KCallOwn
import PyProof.ReprRoads
import PyProof.Rows.ReprR
import OpenK.KOps
import HandS.Zip
import HandS.StrMore
import HandS.Text
import PySem.Challenge.RW_stripelay_k01_stripes_of_any_kind
set_option Elab.async false
set_option linter.all false
set_option maxRecDepth 100000
set_option maxHeartbeats 1000000
namespace Hd
open PySem PySem.Spec PyProof.Rows L2
def topS (i : Nat) : Stmt := PySem.Challenge.pw_stripelay_k01_stripes_of_any_kind.main.body.getD i (.Pass ⟨0, 0, 0, 0⟩)
abbrev s__wall : Stmt := topS 0
abbrev s_NoStripes___init__ : Stmt := inClass (topS 7) 0
abbrev s_TooLong___init__ : Stmt := inClass (topS 10) 0
abbrev s_NoText___init__ : Stmt := inClass (topS 11) 0
abbrev s_NoSpot___init__ : Stmt := inClass (topS 17) 0
abbrev s_NoCut___init__ : Stmt := inClass (topS 18) 0
abbrev s_NoShade___init__ : Stmt := inClass (topS 19) 0
abbrev s_NoName___init__ : Stmt := inClass (topS 20) 0
abbrev s_NoStep___init__ : Stmt := inClass (topS 21) 0
abbrev s_NoWay___init__ : Stmt := inClass (topS 22) 0
abbrev s_NoWeave___init__ : Stmt := inClass (topS 23) 0
abbrev s_is_whole : Stmt := topS 28
abbrev s_is_between : Stmt := topS 29
abbrev s_is_word : Stmt := topS 30
abbrev s_is_shade : Stmt := topS 31
abbrev s_is_stripe : Stmt := topS 32
abbrev s_check_stripes : Stmt := topS 33
abbrev s_are_stripes : Stmt := topS 34
abbrev s_threads_of : Stmt := topS 35
abbrev s_merged : Stmt := topS 36
abbrev s_run_word : Stmt := topS 38
abbrev s_pivot_word : Stmt := topS 39
abbrev s_fold_word : Stmt := topS 40
abbrev s_left_word : Stmt := topS 41
abbrev s_right_word : Stmt := topS 42
abbrev s_is_manner : Stmt := topS 44
abbrev s_check_spot : Stmt := topS 45
abbrev s_least_round : Stmt := topS 46
abbrev s_least_begun : Stmt := topS 47
abbrev s_Row___init__ : Stmt := inClass (topS 48) 0
abbrev s_Row___len__ : Stmt := inClass (topS 48) 1
abbrev s_Row___eq__ : Stmt := inClass (topS 48) 2
abbrev s_Row___str__ : Stmt := inClass (topS 48) 3
abbrev s_Row___repr__ : Stmt := inClass (topS 48) 4
abbrev s_Row_thread : Stmt := inClass (topS 48) 5
abbrev s_Row_at : Stmt := inClass (topS 48) 6
abbrev s_Row_threads : Stmt := inClass (topS 48) 7
abbrev s_Row_shades : Stmt := inClass (topS 48) 8
abbrev s_Row_moved : Stmt := inClass (topS 48) 9
abbrev s_Row_turned : Stmt := inClass (topS 48) 10
abbrev s_Row_alike : Stmt := inClass (topS 48) 11
abbrev s__law_pool : Stmt := topS 50
abbrev s__law_take : Stmt := topS 51
abbrev s__law_word : Stmt := topS 52
abbrev s__law_stripes : Stmt := topS 53
abbrev s__law_whole : Stmt := topS 54
abbrev s__law_shady : Stmt := topS 55
abbrev s__law_first_bad : Stmt := topS 56
abbrev s__law_odd : Stmt := topS 57
abbrev s__law_bent : Stmt := topS 58
abbrev s__law_refused : Stmt := topS 59
abbrev s__law_sort : Stmt := topS 60
abbrev s__law_right : Stmt := topS 61
abbrev s_law : Stmt := topS 62
def d__wall : He.DefD := ⟨("_wall", none), "_wall", "_wall", defArgs s__wall, defBody s__wall, defScope s__wall, [], []⟩
abbrev N__wall : List Str := ["k"]
theorem sc__wall : FnScope N__wall ["k"] (defScope s__wall) := ⟨rfl, rfl, rfl, by decide +kernel, rfl, by decide +kernel, by decide +kernel⟩
def d_NoStripes___init__ : He.DefD := ⟨("NoStripes", some "__init__"), "__init__", "NoStripes.__init__", defArgs s_NoStripes___init__, defBody s_NoStripes___init__, defScope s_NoStripes___init__, [], []⟩
abbrev N_NoStripes___init__ : List Str := ["self", "number"]
theorem sc_NoStripes___init__ : FnScope N_NoStripes___init__ ["self", "number"] (defScope s_NoStripes___init__) := ⟨rfl, rfl, rfl, by decide +kernel, rfl, by decide +kernel, by decide +kernel⟩
def d_TooLong___init__ : He.DefD := ⟨("TooLong", some "__init__"), "__init__", "TooLong.__init__", defArgs s_TooLong___init__, defBody s_TooLong___init__, defScope s_TooLong___init__, [], []⟩
abbrev N_TooLong___init__ : List Str := ["self", "long"]
theorem sc_TooLong___init__ : FnScope N_TooLong___init__ ["self", "long"] (defScope s_TooLong___init__) := ⟨rfl, rfl, rfl, by decide +kernel, rfl, by decide +kernel, by decide +kernel⟩
def d_NoText___init__ : He.DefD := ⟨("NoText", some "__init__"), "__init__", "NoText.__init__", defArgs s_NoText___init__, defBody s_NoText___init__, defScope s_NoText___init__, [], []⟩
abbrev N_NoText___init__ : List Str := ["self", "line", "word"]
theorem sc_NoText___init__ : FnScope N_NoText___init__ ["self", "line", "word"] (defScope s_NoText___init__) := ⟨rfl, rfl, rfl, by decide +kernel, rfl, by decide +kernel, by decide +kernel⟩
def d_NoSpot___init__ : He.DefD := ⟨("NoSpot", some "__init__"), "__init__", "NoSpot.__init__", defArgs s_NoSpot___init__, defBody s_NoSpot___init__, defScope s_NoSpot___init__, [], []⟩
abbrev N_NoSpot___init__ : List Str := ["self", "spot"]
theorem sc_NoSpot___init__ : FnScope N_NoSpot___init__ ["self", "spot"] (defScope s_NoSpot___init__) := ⟨rfl, rfl, rfl, by decide +kernel, rfl, by decide +kernel, by decide +kernel⟩
def d_NoCut___init__ : He.DefD := ⟨("NoCut", some "__init__"), "__init__", "NoCut.__init__", defArgs s_NoCut___init__, defBody s_NoCut___init__, defScope s_NoCut___init__, [], []⟩
abbrev N_NoCut___init__ : List Str := ["self", "first", "last"]
theorem sc_NoCut___init__ : FnScope N_NoCut___init__ ["self", "first", "last"] (defScope s_NoCut___init__) := ⟨rfl, rfl, rfl, by decide +kernel, rfl, by decide +kernel, by decide +kernel⟩
def d_NoShade___init__ : He.DefD := ⟨("NoShade", some "__init__"), "__init__", "NoShade.__init__", defArgs s_NoShade___init__, defBody s_NoShade___init__, defScope s_NoShade___init__, [], []⟩
abbrev N_NoShade___init__ : List Str := ["self", "shade"]
theorem sc_NoShade___init__ : FnScope N_NoShade___init__ ["self", "shade"] (defScope s_NoShade___init__) := ⟨rfl, rfl, rfl, by decide +kernel, rfl, by decide +kernel, by decide +kernel⟩
def d_NoName___init__ : He.DefD := ⟨("NoName", some "__init__"), "__init__", "NoName.__init__", defArgs s_NoName___init__, defBody s_NoName___init__, defScope s_NoName___init__, [], []⟩
abbrev N_NoName___init__ : List Str := ["self", "name"]
theorem sc_NoName___init__ : FnScope N_NoName___init__ ["self", "name"] (defScope s_NoName___init__) := ⟨rfl, rfl, rfl, by decide +kernel, rfl, by decide +kernel, by decide +kernel⟩
def d_NoStep___init__ : He.DefD := ⟨("NoStep", some "__init__"), "__init__", "NoStep.__init__", defArgs s_NoStep___init__, defBody s_NoStep___init__, defScope s_NoStep___init__, [], []⟩
abbrev N_NoStep___init__ : List Str := ["self", "step"]
theorem sc_NoStep___init__ : FnScope N_NoStep___init__ ["self", "step"] (defScope s_NoStep___init__) := ⟨rfl, rfl, rfl, by decide +kernel, rfl, by decide +kernel, by decide +kernel⟩
def d_NoWay___init__ : He.DefD := ⟨("NoWay", some "__init__"), "__init__", "NoWay.__init__", defArgs s_NoWay___init__, defBody s_NoWay___init__, defScope s_NoWay___init__, [], []⟩
abbrev N_NoWay___init__ : List Str := ["self", "way"]
theorem sc_NoWay___init__ : FnScope N_NoWay___init__ ["self", "way"] (defScope s_NoWay___init__) := ⟨rfl, rfl, rfl, by decide +kernel, rfl, by decide +kernel, by decide +kernel⟩
def d_NoWeave___init__ : He.DefD := ⟨("NoWeave", some "__init__"), "__init__", "NoWeave.__init__", defArgs s_NoWeave___init__, defBody s_NoWeave___init__, defScope s_NoWeave___init__, [], []⟩
abbrev N_NoWeave___init__ : List Str := ["self", "weave"]
theorem sc_NoWeave___init__ : FnScope N_NoWeave___init__ ["self", "weave"] (defScope s_NoWeave___init__) := ⟨rfl, rfl, rfl, by decide +kernel, rfl, by decide +kernel, by decide +kernel⟩
def d_is_whole : He.DefD := ⟨("is_whole", none), "is_whole", "is_whole", defArgs s_is_whole, defBody s_is_whole, defScope s_is_whole, [], []⟩
abbrev N_is_whole : List Str := ["x"]
theorem sc_is_whole : FnScope N_is_whole ["x"] (defScope s_is_whole) := ⟨rfl, rfl, rfl, by decide +kernel, rfl, by decide +kernel, by decide +kernel⟩
def d_is_between : He.DefD := ⟨("is_between", none), "is_between", "is_between", defArgs s_is_between, defBody s_is_between, defScope s_is_between, [], []⟩
abbrev N_is_between : List Str := ["x", "low", "high"]
theorem sc_is_between : FnScope N_is_between ["x", "low", "high"] (defScope s_is_between) := ⟨rfl, rfl, rfl, by decide +kernel, rfl, by decide +kernel, by decide +kernel⟩
def d_is_word : He.DefD := ⟨("is_word", none), "is_word", "is_word", defArgs s_is_word, defBody s_is_word, defScope s_is_word, [], []⟩
abbrev N_is_word : List Str := ["thing", "most", "sign"]
theorem sc_is_word : FnScope N_is_word ["thing", "most"] (defScope s_is_word) := ⟨rfl, rfl, rfl, by decide +kernel, rfl, by decide +kernel, by decide +kernel⟩
-- comps is_word: [[('sign', 2)]]
def d_is_shade : He.DefD := ⟨("is_shade", none), "is_shade", "is_shade", defArgs s_is_shade, defBody s_is_shade, defScope s_is_shade, [], []⟩
abbrev N_is_shade : List Str := ["thing"]
theorem sc_is_shade : FnScope N_is_shade ["thing"] (defScope s_is_shade) := ⟨rfl, rfl, rfl, by decide +kernel, rfl, by decide +kernel, by decide +kernel⟩
def d_is_stripe : He.DefD := ⟨("is_stripe", none), "is_stripe", "is_stripe", defArgs s_is_stripe, defBody s_is_stripe, defScope s_is_stripe, [], []⟩
abbrev N_is_stripe : List Str := ["thing"]
theorem sc_is_stripe : FnScope N_is_stripe ["thing"] (defScope s_is_stripe) := ⟨rfl, rfl, rfl, by decide +kernel, rfl, by decide +kernel, by decide +kernel⟩
def d_check_stripes : He.DefD := ⟨("check_stripes", none), "check_stripes", "check_stripes", defArgs s_check_stripes, defBody s_check_stripes, defScope s_check_stripes, [], []⟩
abbrev N_check_stripes : List Str := ["thing", "many", "number", "stripe"]
theorem sc_check_stripes : FnScope N_check_stripes ["thing"] (defScope s_check_stripes) := ⟨rfl, rfl, rfl, by decide +kernel, rfl, by decide +kernel, by decide +kernel⟩
def d_are_stripes : He.DefD := ⟨("are_stripes", none), "are_stripes", "are_stripes", defArgs s_are_stripes, defBody s_are_stripes, defScope s_are_stripes, [], []⟩
abbrev N_are_stripes : List Str := ["thing", "stripe"]
theorem sc_are_stripes : FnScope N_are_stripes ["thing"] (defScope s_are_stripes) := ⟨rfl, rfl, rfl, by decide +kernel, rfl, by decide +kernel, by decide +kernel⟩
-- comps are_stripes: [[('stripe', 1)], [('stripe', 1)]]
def d_threads_of : He.DefD := ⟨("threads_of", none), "threads_of", "threads_of", defArgs s_threads_of, defBody s_threads_of, defScope s_threads_of, [], []⟩
abbrev N_threads_of : List Str := ["stripes", "found", "shade", "count"]
theorem sc_threads_of : FnScope N_threads_of ["stripes"] (defScope s_threads_of) := ⟨rfl, rfl, rfl, by decide +kernel, rfl, by decide +kernel, by decide +kernel⟩
def d_merged : He.DefD := ⟨("merged", none), "merged", "merged", defArgs s_merged, defBody s_merged, defScope s_merged, [], []⟩
abbrev N_merged : List Str := ["threads", "found", "shade"]
theorem sc_merged : FnScope N_merged ["threads"] (defScope s_merged) := ⟨rfl, rfl, rfl, by decide +kernel, rfl, by decide +kernel, by decide +kernel⟩
def d_run_word : He.DefD := ⟨("run_word", none), "run_word", "run_word", defArgs s_run_word, defBody s_run_word, defScope s_run_word, [], []⟩
abbrev N_run_word : List Str := ["threads"]
theorem sc_run_word : FnScope N_run_word ["threads"] (defScope s_run_word) := ⟨rfl, rfl, rfl, by decide +kernel, rfl, by decide +kernel, by decide +kernel⟩
def d_pivot_word : He.DefD := ⟨("pivot_word", none), "pivot_word", "pivot_word", defArgs s_pivot_word, defBody s_pivot_word, defScope s_pivot_word, [], []⟩
abbrev N_pivot_word : List Str := ["threads"]
theorem sc_pivot_word : FnScope N_pivot_word ["threads"] (defScope s_pivot_word) := ⟨rfl, rfl, rfl, by decide +kernel, rfl, by decide +kernel, by decide +kernel⟩
def d_fold_word : He.DefD := ⟨("fold_word", none), "fold_word", "fold_word", defArgs s_fold_word, defBody s_fold_word, defScope s_fold_word, [], []⟩
abbrev N_fold_word : List Str := ["threads"]
theorem sc_fold_word : FnScope N_fold_word ["threads"] (defScope s_fold_word) := ⟨rfl, rfl, rfl, by decide +kernel, rfl, by decide +kernel, by decide +kernel⟩
def d_left_word : He.DefD := ⟨("left_word", none), "left_word", "left_word", defArgs s_left_word, defBody s_left_word, defScope s_left_word, [], []⟩
abbrev N_left_word : List Str := ["threads"]
theorem sc_left_word : FnScope N_left_word ["threads"] (defScope s_left_word) := ⟨rfl, rfl, rfl, by decide +kernel, rfl, by decide +kernel, by decide +kernel⟩
def d_right_word : He.DefD := ⟨("right_word", none), "right_word", "right_word", defArgs s_right_word, defBody s_right_word, defScope s_right_word, [], []⟩
abbrev N_right_word : List Str := ["threads"]
theorem sc_right_word : FnScope N_right_word ["threads"] (defScope s_right_word) := ⟨rfl, rfl, rfl, by decide +kernel, rfl, by decide +kernel, by decide +kernel⟩
def d_is_manner : He.DefD := ⟨("is_manner", none), "is_manner", "is_manner", defArgs s_is_manner, defBody s_is_manner, defScope s_is_manner, [], []⟩
abbrev N_is_manner : List Str := ["thing"]
theorem sc_is_manner : FnScope N_is_manner ["thing"] (defScope s_is_manner) := ⟨rfl, rfl, rfl, by decide +kernel, rfl, by decide +kernel, by decide +kernel⟩
def d_check_spot : He.DefD := ⟨("check_spot", none), "check_spot", "check_spot", defArgs s_check_spot, defBody s_check_spot, defScope s_check_spot, [], []⟩
abbrev N_check_spot : List Str := ["thing"]
theorem sc_check_spot : FnScope N_check_spot ["thing"] (defScope s_check_spot) := ⟨rfl, rfl, rfl, by decide +kernel, rfl, by decide +kernel, by decide +kernel⟩
def d_least_round : He.DefD := ⟨("least_round", none), "least_round", "least_round", defArgs s_least_round, defBody s_least_round, defScope s_least_round, [], []⟩
abbrev N_least_round : List Str := ["threads", "many", "size"]
theorem sc_least_round : FnScope N_least_round ["threads"] (defScope s_least_round) := ⟨rfl, rfl, rfl, by decide +kernel, rfl, by decide +kernel, by decide +kernel⟩
def d_least_begun : He.DefD := ⟨("least_begun", none), "least_begun", "least_begun", defArgs s_least_begun, defBody s_least_begun, defScope s_least_begun, [], []⟩
abbrev N_least_begun : List Str := ["threads", "at"]
theorem sc_least_begun : FnScope N_least_begun ["threads"] (defScope s_least_begun) := ⟨rfl, rfl, rfl, by decide +kernel, rfl, by decide +kernel, by decide +kernel⟩
-- comps least_begun: [[('at', 1)]]
def d_Row___init__ : He.DefD := ⟨("Row", some "__init__"), "__init__", "Row.__init__", defArgs s_Row___init__, defBody s_Row___init__, defScope s_Row___init__, [.str "run", .int 0], []⟩
abbrev N_Row___init__ : List Str := ["self", "stripes", "manner", "start", "threads", "lay", "word", "size", "spot"]
theorem sc_Row___init__ : FnScope N_Row___init__ ["self", "stripes", "manner", "start"] (defScope s_Row___init__) := ⟨rfl, rfl, rfl, by decide +kernel, rfl, by decide +kernel, by decide +kernel⟩
-- comps Row___init__: [[('spot', 8)]]
def d_Row___len__ : He.DefD := ⟨("Row", some "__len__"), "__len__", "Row.__len__", defArgs s_Row___len__, defBody s_Row___len__, defScope s_Row___len__, [], []⟩
abbrev N_Row___len__ : List Str := ["self"]
theorem sc_Row___len__ : FnScope N_Row___len__ ["self"] (defScope s_Row___len__) := ⟨rfl, rfl, rfl, by decide +kernel, rfl, by decide +kernel, by decide +kernel⟩
def d_Row___eq__ : He.DefD := ⟨("Row", some "__eq__"), "__eq__", "Row.__eq__", defArgs s_Row___eq__, defBody s_Row___eq__, defScope s_Row___eq__, [], []⟩
abbrev N_Row___eq__ : List Str := ["self", "other"]
theorem sc_Row___eq__ : FnScope N_Row___eq__ ["self", "other"] (defScope s_Row___eq__) := ⟨rfl, rfl, rfl, by decide +kernel, rfl, by decide +kernel, by decide +kernel⟩
def d_Row___str__ : He.DefD := ⟨("Row", some "__str__"), "__str__", "Row.__str__", defArgs s_Row___str__, defBody s_Row___str__, defScope s_Row___str__, [], []⟩
abbrev N_Row___str__ : List Str := ["self", "shade", "count"]
theorem sc_Row___str__ : FnScope N_Row___str__ ["self"] (defScope s_Row___str__) := ⟨rfl, rfl, rfl, by decide +kernel, rfl, by decide +kernel, by decide +kernel⟩
-- comps Row___str__: [[('shade', 1), ('count', 2)]]
def d_Row___repr__ : He.DefD := ⟨("Row", some "__repr__"), "__repr__", "Row.__repr__", defArgs s_Row___repr__, defBody s_Row___repr__, defScope s_Row___repr__, [], []⟩
abbrev N_Row___repr__ : List Str := ["self"]
theorem sc_Row___repr__ : FnScope N_Row___repr__ ["self"] (defScope s_Row___repr__) := ⟨rfl, rfl, rfl, by decide +kernel, rfl, by decide +kernel, by decide +kernel⟩
def d_Row_thread : He.DefD := ⟨("Row", some "thread"), "thread", "Row.thread", defArgs s_Row_thread, defBody s_Row_thread, defScope s_Row_thread, [], []⟩
abbrev N_Row_thread : List Str := ["self", "spot"]
theorem sc_Row_thread : FnScope N_Row_thread ["self", "spot"] (defScope s_Row_thread) := ⟨rfl, rfl, rfl, by decide +kernel, rfl, by decide +kernel, by decide +kernel⟩
def d_Row_at : He.DefD := ⟨("Row", some "at"), "at", "Row.at", defArgs s_Row_at, defBody s_Row_at, defScope s_Row_at, [], []⟩
abbrev N_Row_at : List Str := ["self", "spot"]
theorem sc_Row_at : FnScope N_Row_at ["self", "spot"] (defScope s_Row_at) := ⟨rfl, rfl, rfl, by decide +kernel, rfl, by decide +kernel, by decide +kernel⟩
def d_Row_threads : He.DefD := ⟨("Row", some "threads"), "threads", "Row.threads", defArgs s_Row_threads, defBody s_Row_threads, defScope s_Row_threads, [], []⟩
abbrev N_Row_threads : List Str := ["self"]
theorem sc_Row_threads : FnScope N_Row_threads ["self"] (defScope s_Row_threads) := ⟨rfl, rfl, rfl, by decide +kernel, rfl, by decide +kernel, by decide +kernel⟩
def d_Row_shades : He.DefD := ⟨("Row", some "shades"), "shades", "Row.shades", defArgs s_Row_shades, defBody s_Row_shades, defScope s_Row_shades, [], []⟩
abbrev N_Row_shades : List Str := ["self"]
theorem sc_Row_shades : FnScope N_Row_shades ["self"] (defScope s_Row_shades) := ⟨rfl, rfl, rfl, by decide +kernel, rfl, by decide +kernel, by decide +kernel⟩
def d_Row_moved : He.DefD := ⟨("Row", some "moved"), "moved", "Row.moved", defArgs s_Row_moved, defBody s_Row_moved, defScope s_Row_moved, [], []⟩
abbrev N_Row_moved : List Str := ["self", "by"]
theorem sc_Row_moved : FnScope N_Row_moved ["self", "by"] (defScope s_Row_moved) := ⟨rfl, rfl, rfl, by decide +kernel, rfl, by decide +kernel, by decide +kernel⟩
def d_Row_turned : He.DefD := ⟨("Row", some "turned"), "turned", "Row.turned", defArgs s_Row_turned, defBody s_Row_turned, defScope s_Row_turned, [], []⟩
abbrev N_Row_turned : List Str := ["self"]
theorem sc_Row_turned : FnScope N_Row_turned ["self"] (defScope s_Row_turned) := ⟨rfl, rfl, rfl, by decide +kernel, rfl, by decide +kernel, by decide +kernel⟩
def d_Row_alike : He.DefD := ⟨("Row", some "alike"), "alike", "Row.alike", defArgs s_Row_alike, defBody s_Row_alike, defScope s_Row_alike, [], []⟩
abbrev N_Row_alike : List Str := ["self", "other"]
theorem sc_Row_alike : FnScope N_Row_alike ["self", "other"] (defScope s_Row_alike) := ⟨rfl, rfl, rfl, by decide +kernel, rfl, by decide +kernel, by decide +kernel⟩
def d__law_pool : He.DefD := ⟨("_law_pool", none), "_law_pool", "_law_pool", defArgs s__law_pool, defBody s__law_pool, defScope s__law_pool, [], []⟩
abbrev N__law_pool : List Str := ["_law_script", "_law_k", "_law_cell", "_law_more", "_law_found", "_law_turn"]
theorem sc__law_pool : FnScope N__law_pool ["_law_script", "_law_k"] (defScope s__law_pool) := ⟨rfl, rfl, rfl, by decide +kernel, rfl, by decide +kernel, by decide +kernel⟩
def d__law_take : He.DefD := ⟨("_law_take", none), "_law_take", "_law_take", defArgs s__law_take, defBody s__law_take, defScope s__law_take, [], []⟩
abbrev N__law_take : List Str := ["_law_pool_here", "_law_many", "_law_digit"]
theorem sc__law_take : FnScope N__law_take ["_law_pool_here", "_law_many"] (defScope s__law_take) := ⟨rfl, rfl, rfl, by decide +kernel, rfl, by decide +kernel, by decide +kernel⟩
def d__law_word : He.DefD := ⟨("_law_word", none), "_law_word", "_law_word", defArgs s__law_word, defBody s__law_word, defScope s__law_word, [], []⟩
abbrev N__law_word : List Str := ["_law_pool_here", "_law_most", "_law_found", "_law_place"]
theorem sc__law_word : FnScope N__law_word ["_law_pool_here", "_law_most"] (defScope s__law_word) := ⟨rfl, rfl, rfl, by decide +kernel, rfl, by decide +kernel, by decide +kernel⟩
def d__law_stripes : He.DefD := ⟨("_law_stripes", none), "_law_stripes", "_law_stripes", defArgs s__law_stripes, defBody s__law_stripes, defScope s__law_stripes, [], []⟩
abbrev N__law_stripes : List Str := ["_law_pool_here", "_law_wide", "_law_found", "_law_turn", "_law_left", "_law_shade", "_law_count"]
theorem sc__law_stripes : FnScope N__law_stripes ["_law_pool_here"] (defScope s__law_stripes) := ⟨rfl, rfl, rfl, by decide +kernel, rfl, by decide +kernel, by decide +kernel⟩
-- comps _law_stripes: [[('_law_shade', 5), ('_law_count', 6)]]
def d__law_whole : He.DefD := ⟨("_law_whole", none), "_law_whole", "_law_whole", defArgs s__law_whole, defBody s__law_whole, defScope s__law_whole, [], []⟩
abbrev N__law_whole : List Str := ["_law_thing"]
theorem sc__law_whole : FnScope N__law_whole ["_law_thing"] (defScope s__law_whole) := ⟨rfl, rfl, rfl, by decide +kernel, rfl, by decide +kernel, by decide +kernel⟩
def d__law_shady : He.DefD := ⟨("_law_shady", none), "_law_shady", "_law_shady", defArgs s__law_shady, defBody s__law_shady, defScope s__law_shady, [], []⟩
abbrev N__law_shady : List Str := ["_law_thing", "_law_sign"]
theorem sc__law_shady : FnScope N__law_shady ["_law_thing"] (defScope s__law_shady) := ⟨rfl, rfl, rfl, by decide +kernel, rfl, by decide +kernel, by decide +kernel⟩
-- comps _law_shady: [[('_law_sign', 1)]]
def d__law_first_bad : He.DefD := ⟨("_law_first_bad", none), "_law_first_bad", "_law_first_bad", defArgs s__law_first_bad, defBody s__law_first_bad, defScope s__law_first_bad, [], []⟩
abbrev N__law_first_bad : List Str := ["_law_thing", "_law_many", "_law_number", "_law_part"]
theorem sc__law_first_bad : FnScope N__law_first_bad ["_law_thing"] (defScope s__law_first_bad) := ⟨rfl, rfl, rfl, by decide +kernel, rfl, by decide +kernel, by decide +kernel⟩
def d__law_odd : He.DefD := ⟨("_law_odd", none), "_law_odd", "_law_odd", defArgs s__law_odd, defBody s__law_odd, defScope s__law_odd, [], []⟩
abbrev N__law_odd : List Str := ["_law_pool_here", "_law_thing", "_law_some"]
theorem sc__law_odd : FnScope N__law_odd ["_law_pool_here", "_law_thing"] (defScope s__law_odd) := ⟨rfl, rfl, rfl, by decide +kernel, rfl, by decide +kernel, by decide +kernel⟩
def d__law_bent : He.DefD := ⟨("_law_bent", none), "_law_bent", "_law_bent", defArgs s__law_bent, defBody s__law_bent, defScope s__law_bent, [], []⟩
abbrev N__law_bent : List Str := ["_law_pool_here", "_law_thing", "_law_deep", "_law_at", "_law_way"]
theorem sc__law_bent : FnScope N__law_bent ["_law_pool_here", "_law_thing", "_law_deep"] (defScope s__law_bent) := ⟨rfl, rfl, rfl, by decide +kernel, rfl, by decide +kernel, by decide +kernel⟩
def d__law_refused : He.DefD := ⟨("_law_refused", none), "_law_refused", "_law_refused", defArgs s__law_refused, defBody s__law_refused, defScope s__law_refused, [], []⟩
abbrev N__law_refused : List Str := ["_law_which", "_law_thing", "_law_caught", "e"]
theorem sc__law_refused : FnScope N__law_refused ["_law_which", "_law_thing"] (defScope s__law_refused) := ⟨rfl, rfl, rfl, by decide +kernel, rfl, by decide +kernel, by decide +kernel⟩
def d__law_sort : He.DefD := ⟨("_law_sort", none), "_law_sort", "_law_sort", defArgs s__law_sort, defBody s__law_sort, defScope s__law_sort, [], []⟩
abbrev N__law_sort : List Str := ["_law_caught", "_law_kinds", "_law_families", "_law_own", "_law_words", "_law_at", "_law_due", "_law_k"]
theorem sc__law_sort : FnScope N__law_sort ["_law_caught"] (defScope s__law_sort) := ⟨rfl, rfl, rfl, by decide +kernel, rfl, by decide +kernel, by decide +kernel⟩
-- comps _law_sort: [[('_law_k', 7)]]
def d__law_right : He.DefD := ⟨("_law_right", none), "_law_right", "_law_right", defArgs s__law_right, defBody s__law_right, defScope s__law_right, [], []⟩
abbrev N__law_right : List Str := ["_law_thing", "_law_bad", "_law_found", "_law_which"]
theorem sc__law_right : FnScope N__law_right ["_law_thing"] (defScope s__law_right) := ⟨rfl, rfl, rfl, by decide +kernel, rfl, by decide +kernel, by decide +kernel⟩
-- comps _law_right: [[('_law_which', 3)]]
def d_law : He.DefD := ⟨("law", none), "law", "law", defArgs s_law, defBody s_law, defScope s_law, [], []⟩
abbrev N_law : List Str := ["_law_script", "_law_k", "_law_pool_here", "_law_spoils", "_law_made", "_law_things", "_law_spoil", "_law_more", "_law_thing", "_law_word_here", "_law_found", "_law_some", "_law_turn"]
theorem sc_law : FnScope N_law ["_law_script"] (defScope s_law) := ⟨rfl, rfl, rfl, by decide +kernel, rfl, by decide +kernel, by decide +kernel⟩
-- comps law: [[('_law_turn', 12)], [('_law_thing', 8)], [('_law_thing', 8)]]
end Hd

set_option Elab.async false
set_option linter.all false
set_option maxRecDepth 100000
set_option maxHeartbeats 1000000
/-! what the head looks at, beyond the kit's facts: plain tests, laid ahead of all rules (the run needs much memory) -/
namespace PL
open PySem PySem.Spec PyProof.Rows L2
abbrev mKey : List Value := [.type "KeyError", .type "LookupError", .type "Exception", .type "BaseException", .type "object"]
def tyNs : List String := ["NoneType", "bool", "int", "str", "tuple", "list", "dict"]
def eqB (a b : Option Bool) : Bool := decide (a = b)
def insB (K : PySem.W.Frag) (x : Str) : Bool :=
  He.eqO (PySem.W.findIn K (.ref (He.ga K x)) "__class__") (some (some (.builtin "object.__class__"))) &&
  (He.eqO (PySem.W.specialIn K (.builtin "object.__class__") "__get__") (some (some (.builtin "getset_descriptor.__get__"))) &&
  (eqB (PySem.W.takesIn K (.builtin "object.__class__")) (some true) &&
  (eqB (PySem.W.mroIn K (He.ga K x) (.type "object")) (some true) &&
  (eqB (PySem.W.kitOne K (.ref (He.ga K x)) (.ref (He.ga K x))) (some true) &&
  tyNs.all fun t => eqB (PySem.W.kitOne K (.type t) (.ref (He.ga K x))) (some false)))))
def nfB (K : PySem.W.Frag) (x : Str) : Bool := He.eqO (PySem.W.findIn K (.ref (He.ga K x)) "__ne__") (some (some (.builtin "object.__ne__"))) && tyNs.all fun t => PySem.W.notFirst K (He.ga K x) (.type t)
def othB (K : PySem.W.Frag) (p : Str × Str) : Bool := eqB (PySem.W.kitOne K (.ref (He.ga K p.1)) (.ref (He.ga K p.2))) (some false)
def knds : List Str := ["NoStripes", "NoThreads", "NoManner", "TooLong", "NoText", "NoNumber", "NoBox", "TooMany", "NoUndo", "NoOrder", "NoSpot", "NoCut", "NoShade", "NoName", "NoStep", "NoWay", "NoWeave"]
def fams : List Str := ["StripeError", "SpotError", "ShadeError", "StepError", "WayError"]
def owns : List String := ["ValueError", "IndexError", "KeyError", "ZeroDivisionError"]
def fm (i : Nat) : Nat := ([0, 0, 0, 0, 0, 0, 0, 0, 0, 0, 1, 1, 2, 2, 3, 4, 4] : List Nat).getD i 0
def lkp (i : Nat) : Bool := fm i == 1 || (fm i == 2 || fm i == 4)
abbrev knd (i : Nat) : Str := knds.getD i ""
abbrev fam (i : Nat) : Str := fams.getD i ""
abbrev ownT (i : Nat) : String := owns.getD i ""
abbrev kA (K : PySem.W.Frag) (i : Nat) : Addr := He.ga K (knd i)
def excCB (K : PySem.W.Frag) (x : Str) : Bool :=
  He.eqO (PySem.W.findIn K (.ref (He.ga K x)) "__getattribute__") (some (some (.builtin "BaseException.__getattribute__"))) &&
  (He.eqO (PySem.W.findIn K (.ref (He.ga K x)) "__getattr__") (some none) &&
  (eqB (PySem.W.subIn K (.ref (He.ga K x)) (.type "BaseException")) (some true) &&
  (PySem.W.hasDictIn K (He.ga K x) &&
  (He.eqO (PySem.W.findIn K (.ref (He.ga K x)) "__class__") (some (some (.builtin "object.__class__"))) &&
  (He.eqO (PySem.W.specialIn K (.builtin "object.__class__") "__get__") (some (some (.builtin "getset_descriptor.__get__"))) &&
  (eqB (PySem.W.takesIn K (.builtin "object.__class__")) (some true) &&
  eqB (PySem.W.mroIn K (He.ga K x) (.type "object")) (some true)))))))
def kitA (K : PySem.W.Frag) (a : Addr) (v : Value) (b : Bool) : Bool := eqB (PySem.W.kitOne K (.ref a) v) (some b)
def srtB (K : PySem.W.Frag) (i : Nat) : Bool :=
  excCB K (knd i) &&
  ((List.range 17).all (fun j => kitA K (kA K i) (.ref (kA K j)) (j == i)) &&
  ((List.range 5).all (fun j => kitA K (kA K i) (.ref (He.ga K (fam j))) (j == fm i)) &&
  ((List.range 4).all (fun j => kitA K (kA K i) (.type (ownT j)) (j == fm i)) &&
  (kitA K (kA K i) (.type "LookupError") (lkp i) &&
  (eqB (PySem.W.exmOne K (.ref (kA K i)) (.ref (He.ga K (fam (fm i))))) (some true) &&
  (List.range 5).all (fun j => eqB (PySem.W.exmOne K (.ref (kA K i)) (.ref (He.ga K (fam j)))) (some (j == fm i))))))))
def bmV : List Value := [.type "ValueError", .type "Exception", .type "BaseException", .type "object"]
def xcVB (K : PySem.W.Frag) (x : Str) : Bool :=
  PySem.W.excIn K (He.ga K x) bmV "ValueError.__new__" && (PySem.W.keepIn K (.ref (He.ga K x)) && (eqB (PySem.W.subIn K (.ref (He.ga K x)) (.type "BaseException")) (some true) && He.eqO (some (PySem.W.typeIn K (.ref (He.ga K x)))) (some (some (.type "type")))))
/-- the base of a family: whose __new__, its __init__, its mro -/
def fmBm : Nat → List Value
  | 0 => bmV
  | 1 => [.type "IndexError", .type "LookupError", .type "Exception", .type "BaseException", .type "object"]
  | 2 => mKey
  | 3 => [.type "ZeroDivisionError", .type "ArithmeticError", .type "Exception", .type "BaseException", .type "object"]
  | _ => [.type "LookupError", .type "Exception", .type "BaseException", .type "object"]
def fmNew : Nat → String
  | 0 => "ValueError.__new__" | 1 => "IndexError.__new__" | 2 => "LookupError.__new__" | 3 => "ZeroDivisionError.__new__" | _ => "LookupError.__new__"
def fmIni : Nat → String
  | 0 => "ValueError.__init__" | 1 => "IndexError.__init__" | 2 => "KeyError.__init__" | 3 => "ZeroDivisionError.__init__" | _ => "LookupError.__init__"
def cfB (a : Option PySem.W.CFound) (i : String) : Bool := match a with
  | some (.val v) => decide (v = .builtin i)
  | _ => false
/-- the fields of each kind -/
def flds : Nat → List Str
  | 0 => ["number"] | 3 => ["long"] | 4 => ["line", "word"] | 10 => ["spot"] | 11 => ["first", "last"] | 12 => ["shade"] | 13 => ["name"] | 14 => ["step"] | 15 => ["way"] | 16 => ["weave"] | _ => []
def oxiB (K : PySem.W.Frag) (i : Nat) : Bool :=
  PySem.W.excInitIn K (kA K i) (fmBm (fm i)) (fmNew (fm i)) && (PySem.W.excOver K (kA K i) (fmBm (fm i)) && (cfB (PySem.W.findCls K (.ref (He.ga K (fam (fm i)))) (.type "type") "__init__") (fmIni (fm i)) &&
  (He.eqO (PySem.W.findIn K (.ref (kA K i)) "__setattr__") (some (some (.builtin "object.__setattr__"))) && (PySem.W.hasDictIn K (kA K i) && (eqB (PySem.W.subIn K (.ref (kA K i)) (.type "BaseException")) (some true) &&
  (He.eqO (some (PySem.W.typeIn K (.ref (kA K i)))) (some (some (.type "type"))) && (PySem.W.keepIn K (.ref (kA K i)) && (He.eqO (PySem.W.specialIn K (.ref (He.ga K (fam (fm i)))) "__getattribute__") (some (some (.builtin "type.__getattribute__"))) &&
  (He.eqO (some (PySem.W.typeIn K (.ref (He.ga K (fam (fm i)))))) (some (some (.type "type"))) && (PySem.W.readsIn K (He.ga K (fam (fm i))) (.type "type") && (flds i).all fun f => He.eqO (PySem.W.findIn K (.ref (kA K i)) f) (some none)))))))))))
/-! tables of the module -/
def wvP : List (Str × Str) := [("plain", "plain_up"), ("twill", "twill_up"), ("basket", "basket_up")]
def wyP : List (Str × List Bool) := [("stay", [false, false, false]), ("mirror", [false, true, false]), ("flip", [false, false, true]), ("half", [false, true, true]), ("swap", [true, false, false]), ("right", [true, true, false]), ("left", [true, false, true]), ("cross", [true, true, true])]
def fmP : List (Str × Str) := [("take", "w"), ("undo", ""), ("turn", "ww"), ("move", "wwn"), ("each", "wwn"), ("lay", "wwww"), ("turns", "www"), ("names", ""), ("show", "w"), ("text", "w"), ("long", "w"), ("at", "wn"), ("many", "wwnn"), ("mirror", "w"), ("same", "ww"), ("between", "ww"), ("unlike", "ww"), ("dyes", "ww")]
def ddP : List (Str × Str) := [("put", "put_row"), ("take", "take_row"), ("undo", "undo_deed"), ("turn", "turn_row"), ("move", "move_row"), ("each", "each_thread"), ("lay", "lay_rows"), ("turns", "turn_by_turn"), ("names", "all_names"), ("show", "shown_row"), ("text", "text_of_row"), ("long", "round_of_row"), ("at", "thread_of_row"), ("many", "many_threads"), ("mirror", "mirror_of_row"), ("same", "same_rows"), ("between", "between_rows"), ("unlike", "unlike_rows"), ("dyes", "dyes_of_rows")]
def tupAtB (K : PySem.W.Frag) (a : Addr) (vs : List L2.V) : Bool := match K.lookup a with
  | some ⟨.type c, _, .seq its _, _⟩ => decide (c = "tuple") && (decide (its.size ≤ sizeLine) && He.relAll vs its.toList)
  | _ => false
def blsB (K : PySem.W.Frag) (d : Addr) (ws : List (Str × List Bool)) : Bool := ws.all fun q => match PySem.W.nsIn K d q.1 with
  | some (some (.ref a)) => tupAtB K a (q.2.map L2.V.bl)
  | _ => false
end PL

set_option Elab.async false
set_option linter.all false
set_option maxRecDepth 100000
set_option maxHeartbeats 1000000
namespace PL
open PySem PySem.Spec PyProof.Rows L2
/-! ### the head's run, in two halves (memory) -/
open HandSHeadRun PySem.W PySem.Calls in
def Run1 (r : OpenRow) (q : Program) (M : Nat) (loose : List PySem.Str) (w : World) : Prop :=
  ∀ os : OsState, (endF (stepQ (denQ tabQ) r.prog w) M r.prog w os).map (fun s => (looksF r.prog (boot_heap w.params) s.abs, seenQ q loose (importedModules r.prog.main.body) (fun s => xlAt q [] s && recOk r.toRowW.records s) s.abs)) = some (true, openGood q loose)
open HandSHeadRun PySem.W PySem.Calls in
def Run2 (r : OpenRow) (H : Hook) (ob : SharedT → H.α) (M : Nat) (w : World) : Prop :=
  ∀ os : OsState, (endF (stepQ (denQ tabQ) r.prog w) M r.prog w os).map ob = some (H.val w)
open HandSHeadRun PySem.W PySem.Calls in
theorem run_split {r : OpenRow} {q : Program} {H : Hook} {ob : SharedT → H.α} {M : Nat} {loose : List PySem.Str} {w : World} (h1 : Run1 r q M loose w) (h2 : Run2 r H ob M w) : RunEq r q H ob M loose w := fun os => by
  have a := h1 os
  have b := h2 os
  revert a b
  cases endF (stepQ (denQ tabQ) r.prog w) M r.prog w os with
  | none => intro a; cases a
  | some s =>
    intro a b
    have a1 := Option.some.inj a
    have b1 := Option.some.inj b
    have a2 := congrArg Prod.fst a1
    have a3 := congrArg Prod.snd a1
    exact congrArg some (Prod.ext a2 (Prod.ext a3 b1))
open HandSHeadRun PySem.W PySem.Calls in
/-- the same run, looked at by f alone -/
def RunV {α : Type} (r : OpenRow) (f : SharedT → α) (v : α) (M : Nat) (w : World) : Prop :=
  ∀ os : OsState, (endF (stepQ (denQ tabQ) r.prog w) M r.prog w os).map f = some v
open HandSHeadRun PySem.W PySem.Calls in
/-- the observed things in two halves (memory) -/
theorem run2_split {r : OpenRow} {ob : SharedT → He.AlT × Bool} {M : Nat} {w w1 : World} {fa : List He.Fa} {fn : List He.DefD} {tabs : List He.Tab} {κ : SharedT → PySem.W.Frag} {g : SharedT → Bool} (n : Nat) (hob : ∀ s, ob s = (He.obsT fa fn tabs (κ s), g s))
    (hA : RunV r (fun s => (fa.all (fun f => f.ok (κ s)), (fn.take n).all (fun d => d.ok (κ s)), (fn.take n).map fun d => He.fnW (κ s) d.at_)) (true, true, (fn.take n).map He.DefD.val) M w)
    (hB : RunV r (fun s => ((fn.drop n).all (fun d => d.ok (κ s)), (fn.drop n).map (fun d => He.fnW (κ s) d.at_), tabs.map (fun t => He.dicW (κ s) (t.1 (κ s))), g s)) (true, (fn.drop n).map He.DefD.val, tabs.map (fun t => some (He.keysIn w1.params t.2)), true) M w) : RunV r ob (He.valT fn tabs w1, true) M w := fun os => by
  have a := hA os
  have b := hB os
  revert a b
  cases endF (stepQ (denQ tabQ) r.prog w) M r.prog w os with
  | none => intro a; cases a
  | some s =>
    intro a b
    have a1 := Option.some.inj a
    have b1 := Option.some.inj b
    have x1 := congrArg Prod.fst a1
    have x2 := congrArg (fun z => z.2.1) a1
    have x3 := congrArg (fun z => z.2.2) a1
    have y1 := congrArg Prod.fst b1
    have y2 := congrArg (fun z => z.2.1) b1
    have y3 := congrArg (fun z => z.2.2.1) b1
    have y4 := congrArg (fun z => z.2.2.2) b1
    have f1 : fn.all (fun d => d.ok (κ s)) = true := calc
      fn.all (fun d => d.ok (κ s)) = (fn.take n ++ fn.drop n).all (fun d => d.ok (κ s)) := by rw [List.take_append_drop]
      _ = true := by rw [List.all_append, show (fn.take n).all (fun d => d.ok (κ s)) = true from x2, show (fn.drop n).all (fun d => d.ok (κ s)) = true from y1]; rfl
    have f2 : fn.map (fun d => He.fnW (κ s) d.at_) = fn.map He.DefD.val := calc
      fn.map (fun d => He.fnW (κ s) d.at_) = (fn.take n ++ fn.drop n).map (fun d => He.fnW (κ s) d.at_) := by rw [List.take_append_drop]
      _ = (fn.take n ++ fn.drop n).map He.DefD.val := by rw [List.map_append, List.map_append, show (fn.take n).map (fun d => He.fnW (κ s) d.at_) = (fn.take n).map He.DefD.val from x3, show (fn.drop n).map (fun d => He.fnW (κ s) d.at_) = (fn.drop n).map He.DefD.val from y2]
      _ = fn.map He.DefD.val := by rw [List.take_append_drop]
    show some (ob s) = some (He.valT fn tabs w1, true)
    rw [hob s]
    unfold He.obsT He.obsD He.valT He.valD
    rw [show fa.all (fun f => f.ok (κ s)) = true from x1, f1, f2, show tabs.map (fun t => He.dicW (κ s) (t.1 (κ s))) = tabs.map (fun t => some (He.keysIn w1.params t.2)) from y3, show g s = true from y4]
    rfl
end PL


set_option Elab.async false
set_option linter.all false
set_option maxRecDepth 100000
set_option maxHeartbeats 0
namespace Hd
open PySem PySem.Spec PyProof.Rows L2 PL
def fn : List He.DefD := [d__wall, d_NoStripes___init__, d_is_whole, d_is_between, d_is_word, d_is_shade, d_is_stripe, d_check_stripes, d_are_stripes, d_threads_of, d_merged, d_run_word, d_pivot_word, d_fold_word, d_left_word, d_right_word, d_is_manner, d_check_spot, d_least_round, d_least_begun, d_Row___init__, d_Row___len__, d_Row___eq__, d_Row___str__, d_Row___repr__, d_Row_thread, d_Row_at, d_Row_threads, d_Row_shades, d_Row_moved, d_Row_turned, d_Row_alike, d__law_pool, d__law_take, d__law_word, d__law_stripes, d__law_whole, d__law_shady, d__law_first_bad, d__law_odd, d__law_bent, d__law_refused, d__law_sort, d__law_right, d_law]
def fa0 : List He.Fa := [.glo "NoBox", .glo "NoCut", .glo "NoManner", .glo "NoName", .glo "NoNumber", .glo "NoOrder", .glo "NoShade", .glo "NoSpot", .glo "NoStep", .glo "NoStripes", .glo "NoText", .glo "NoThreads", .glo "NoUndo", .glo "NoWay", .glo "NoWeave", .glo "Row", .glo "ShadeError", .glo "SpotError", .glo "StepError", .glo "StripeError", .glo "TooLong", .glo "TooMany", .glo "WayError", .glo "_law_bent", .glo "_law_first_bad", .glo "_law_odd", .glo "_law_pool", .glo "_law_refused", .glo "_law_right", .glo "_law_shady"]
def fa1 : List He.Fa := [.glo "_law_sort", .glo "_law_stripes", .glo "_law_take", .glo "_law_whole", .glo "_law_word", .glo "_wall", .glo "are_stripes", .glo "check_spot", .glo "check_stripes", .glo "fold_word", .glo "is_between", .glo "is_manner", .glo "is_shade", .glo "is_stripe", .glo "is_whole", .glo "is_word", .glo "law", .glo "least_begun", .glo "least_round", .glo "left_word", .glo "merged", .glo "pivot_word", .glo "right_word", .glo "run_word", .glo "threads_of", .int "BIG" 1000000000000000000000000000000, .int "MOST" 240, .str "LETTERS" "abcdefghijklmnopqrstuvwxyz", .cls "Row", .noat "Row" "kept"]
def fa2 : List He.Fa := [.meth "Row" "__init__", .meth "Row" "__len__", .meth "Row" "__eq__", .meth "Row" "__str__", .meth "Row" "__repr__", .meth "Row" "thread", .meth "Row" "at", .meth "Row" "threads", .meth "Row" "shades", .meth "Row" "moved", .meth "Row" "turned", .meth "Row" "alike", .mkr "Row", .glo "MANNERS", .meth "NoStripes" "__init__"]
def bltN : List PySem.Str := ["isinstance", "int", "bool", "str", "tuple", "list", "dict", "set", "len", "range", "enumerate", "zip", "sum", "all", "any", "abs", "max", "min", "divmod", "sorted", "reversed", "type", "repr", "ValueError", "IndexError", "KeyError", "LookupError", "ZeroDivisionError", "Exception"]
def fa : List He.Fa := (fa0 ++ fa1 ++ fa2) ++ bltN.map He.Fa.free
def loose0 : List PySem.Str := ["BIG", "LETTERS", "MANNERS", "MOST", "NoBox", "NoCut", "NoManner", "NoName", "NoNumber", "NoOrder", "NoShade", "NoSpot", "NoStep", "NoStripes", "NoText", "NoThreads", "NoUndo", "NoWay", "NoWeave", "Row", "ShadeError", "SpotError", "StepError", "StripeError", "TooLong", "TooMany", "WayError", "_law_bent", "_law_first_bad", "_law_odd"]
def loose1 : List PySem.Str := ["_law_pool", "_law_refused", "_law_right", "_law_shady", "_law_sort", "_law_stripes", "_law_take", "_law_whole", "_law_word", "_wall", "are_stripes", "check_spot", "check_stripes", "fold_word", "is_between", "is_manner", "is_shade", "is_stripe", "is_whole", "is_word", "least_begun", "least_round", "left_word", "merged", "pivot_word", "right_word", "run_word", "threads_of"]
def loose : List PySem.Str := loose0 ++ loose1
abbrev R : PySem.W.OpenRow := PySem.W.OpenLaw.row PySem.Challenge.rw_stripelay_k01_stripes_of_any_kind
def lawI : Nat := 62
def tabs : List He.Tab := [(fun K => He.ga K "MANNERS", ["run", "pivot", "fold", "left", "right"])]
def kvs : List (Str × He.Dv) := [("run", .glo "run_word"), ("pivot", .glo "pivot_word"), ("fold", .glo "fold_word"), ("left", .glo "left_word"), ("right", .glo "right_word")]
def icl : List Str := ["Row"]
def nfl : List Str := ["Row"]
def iot : List (Str × Str) := []
def rki : List Nat := [0]
def rxi : List Nat := [0]
def rxc : List Str := []
def obsM (K : PySem.W.Frag) : He.AlT × Bool := (He.obsT fa fn tabs K, (He.valsB K (He.ga K "MANNERS") kvs && (icl.all (PL.insB K) && (iot.all (PL.othB K) && nfl.all (PL.nfB K)))) && (rki.all (PL.srtB K) && (rxc.all (PL.xcVB K) && rxi.all (PL.oxiB K))))
def hk : PySem.W.Hook where
  α := He.AlT × Bool
  obs := fun s => obsM (He.frG s.heap.get? (He.asD s.heap.get? 5 ++ [PySem.cStatics]))
  val := fun w => (He.valT fn tabs w, true)
  says := fun w h => ∃ K : PySem.W.Frag, K.In h ∧ obsM K = (He.valT fn tabs w, true)
  of := fun _ _ e => ⟨_, He.frG_in, e⟩
  keeps := fun _ _ _ ⟨K, hK, c⟩ k => ⟨K, PySem.W.Frag.In.keeps hK k, c⟩
def ob (s : PySem.W.SharedT) : He.AlT × Bool := obsM (He.frG (HandSHeadRun.getT s) (He.asD (HandSHeadRun.getT s) 5 ++ [PySem.cStatics]))
theorem ob_eq (s : PySem.W.SharedT) : ob s = hk.obs s.abs := by
  have e : HandSHeadRun.getT s = s.abs.heap.get? := funext (HandSHeadRun.getT_eq s)
  show obsM (He.frG (HandSHeadRun.getT s) (He.asD (HandSHeadRun.getT s) 5 ++ [PySem.cStatics])) = obsM (He.frG s.abs.heap.get? (He.asD s.abs.heap.get? 5 ++ [PySem.cStatics]))
  rw [e]
theorem runF1 (w : World) : PL.Run1 R (PySem.W.view R.prog [62]) 30000 loose (w.withFollow "special-get-raises" false) := by
  intro os
  kernel_rfl
def kap (s : PySem.W.SharedT) : PySem.W.Frag := He.frG (HandSHeadRun.getT s) (He.asD (HandSHeadRun.getT s) 5 ++ [PySem.cStatics])
theorem runF2a (w : World) : PL.RunV R (fun s => (fa.all (fun f => f.ok (kap s)), (fn.take 22).all (fun d => d.ok (kap s)), (fn.take 22).map fun d => He.fnW (kap s) d.at_)) (true, true, (fn.take 22).map He.DefD.val) 30000 (w.withFollow "special-get-raises" false) := by
  intro os
  kernel_rfl
theorem runF2b (w : World) : PL.RunV R (fun s => ((fn.drop 22).all (fun d => d.ok (kap s)), (fn.drop 22).map (fun d => He.fnW (kap s) d.at_), tabs.map (fun t => He.dicW (kap s) (t.1 (kap s))), (obsM (kap s)).2)) (true, (fn.drop 22).map He.DefD.val, tabs.map (fun t => some (He.keysIn (w.withFollow "special-get-raises" false).params t.2)), true) 30000 (w.withFollow "special-get-raises" false) := by
  intro os
  kernel_rfl
theorem runF2 (w : World) : PL.Run2 R hk ob 30000 (w.withFollow "special-get-raises" false) := fun os => (PL.run2_split (κ := kap) (g := fun s => (obsM (kap s)).2) 22 (fun _ => rfl) (runF2a w) (runF2b w)) os
theorem runT1 (w : World) : PL.Run1 R (PySem.W.view R.prog [62]) 30000 loose (w.withFollow "special-get-raises" true) := by
  intro os
  kernel_rfl
theorem runT2a (w : World) : PL.RunV R (fun s => (fa.all (fun f => f.ok (kap s)), (fn.take 22).all (fun d => d.ok (kap s)), (fn.take 22).map fun d => He.fnW (kap s) d.at_)) (true, true, (fn.take 22).map He.DefD.val) 30000 (w.withFollow "special-get-raises" true) := by
  intro os
  kernel_rfl
theorem runT2b (w : World) : PL.RunV R (fun s => ((fn.drop 22).all (fun d => d.ok (kap s)), (fn.drop 22).map (fun d => He.fnW (kap s) d.at_), tabs.map (fun t => He.dicW (kap s) (t.1 (kap s))), (obsM (kap s)).2)) (true, (fn.drop 22).map He.DefD.val, tabs.map (fun t => some (He.keysIn (w.withFollow "special-get-raises" true).params t.2)), true) 30000 (w.withFollow "special-get-raises" true) := by
  intro os
  kernel_rfl
theorem runT2 (w : World) : PL.Run2 R hk ob 30000 (w.withFollow "special-get-raises" true) := fun os => (PL.run2_split (κ := kap) (g := fun s => (obsM (kap s)).2) 22 (fun _ => rfl) (runT2a w) (runT2b w)) os
theorem run (w : World) : HandSHeadRun.RunEq R (PySem.W.view R.prog [62]) hk ob 30000 loose w := PySem.W.byRow2 "special-get-raises" (P := fun w => HandSHeadRun.RunEq R (PySem.W.view R.prog [62]) hk ob 30000 loose w) (fun w => PL.run_split (runF1 w) (runF2 w)) (fun w => PL.run_split (runT1 w) (runT2 w)) w
theorem he_mem {K : PySem.W.Frag} {f : He.Fa} (c : He.SaysD fa fn K) (h : f ∈ fa) : f.ok K = true := List.all_eq_true.mp (He.ba (show ((fa.all fun f => f.ok K) && fn.all fun d => d.ok K) = true from congrArg (fun z : He.AlD => z.1) c)).1 f h
end Hd

set_option Elab.async false
set_option linter.all false
set_option maxRecDepth 100000
set_option maxHeartbeats 1000000
/-! PL: a layer of heap-free rules over HandS: data D, what a value stands for (Rep), the state of a def's slots (Gm), judgements EX, TX, AX, SX. -/
namespace PL
open PySem PySem.Spec PyProof.Rows L2

/-- data: what a value stands for, whatever its addresses -/
inductive D where
  | non | bl (b : Bool) | int (i : Int) | str (x : Str)
  | tup (ds : List D) | lst (ds : List D) | fls (ds : List D)
  | obj (C : Addr) (ns : List Str) (ds : List D)
  | dct (ks : List Key) (ds : List D)
  | raw (v : V)
  | ext (φ : Addr → HO)
  | exc (C : Addr) (ns : List Str) (ds : List D)

/-- at a: an exception of the class at C, its dict d -/
def ExV (C : Addr) (d : Option Addr) (a : Addr) : HO := .ext fun h => ∃ (oe : Obj) (vs : Array Value), h.get? a = some oe ∧ Zc (.ref C) d oe ∧ oe.data = .fields vs
/-- its fields -/
def XdAt (S : Hp) (d : Option Addr) (fs : List (Str × V)) : Prop := match d with
  | none => fs = []
  | some b => S b = some (.xd fs)
theorem XdAt.mono {S S' : Hp} {d : Option Addr} {fs : List (Str × V)} (e : Same S S') (h : XdAt S d fs) : XdAt S' d fs := by
  cases d with
  | none => exact h
  | some b => exact e _ _ h
mutual
def Rep (K : PySem.W.Frag) (S : Hp) : D → V → Prop
  | .non, v => v = .non
  | .bl b, v => v = .bl b
  | .int i, v => v = .int i
  | .str x, v => v = .str x
  | .tup ds, v => ∃ a vs, v = .ref a ∧ SqT K S a vs ∧ Reps K S ds vs
  | .lst ds, v => ∃ a vs, v = .ref a ∧ S a = some (.lst vs) ∧ Reps K S ds vs
  | .fls ds, v => ∃ a vs, v = .ref a ∧ SqL K S a vs ∧ Reps K S ds vs
  | .obj C ns ds, v => ∃ a dx vs, v = .ref a ∧ S a = some (.ins C dx (ns.zip vs)) ∧ ns.length = vs.length ∧ Reps K S ds vs
  | .dct ks ds, v => ∃ a vs, v = .ref a ∧ S a = some (.dK (ks.zip vs)) ∧ ks.length = vs.length ∧ Reps K S ds vs
  | .raw u, v => v = u
  | .ext φ, v => ∃ a, v = .ref a ∧ S a = some (φ a)
  | .exc C ns ds, v => ∃ a d vs, v = .ref a ∧ S a = some (ExV C d a) ∧ XdAt S d (ns.zip vs) ∧ ns.length = vs.length ∧ Reps K S ds vs
def Reps (K : PySem.W.Frag) (S : Hp) : List D → List V → Prop
  | [], vs => vs = []
  | d :: ds, vs => ∃ v r, vs = v :: r ∧ Rep K S d v ∧ Reps K S ds r
end

theorem same_sqt {K : PySem.W.Frag} {H H' : Hp} {a : Addr} {xs : List V} (e : Same H H') (h : SqT K H a xs) : SqT K H' a xs := by
  rcases h with (h | ⟨o, h⟩) | h
  · exact .inl (.inl (e _ _ h))
  · exact .inl (.inr ⟨o, e _ _ h⟩)
  · exact .inr h

mutual
theorem Rep.mono {K : PySem.W.Frag} {S S' : Hp} (e : Same S S') : ∀ (d : D) (v : V), Rep K S d v → Rep K S' d v
  | .non, _, h => h
  | .bl _, _, h => h
  | .int _, _, h => h
  | .str _, _, h => h
  | .tup ds, _, ⟨a, vs, h1, h2, h3⟩ => ⟨a, vs, h1, same_sqt e h2, Reps.mono e ds vs h3⟩
  | .lst ds, _, ⟨a, vs, h1, h2, h3⟩ => ⟨a, vs, h1, e _ _ h2, Reps.mono e ds vs h3⟩
  | .fls ds, _, ⟨a, vs, h1, h2, h3⟩ => ⟨a, vs, h1, e.seq h2, Reps.mono e ds vs h3⟩
  | .obj C ns ds, _, ⟨a, dx, vs, h1, h2, h3, h4⟩ => ⟨a, dx, vs, h1, e _ _ h2, h3, Reps.mono e ds vs h4⟩
  | .dct ks ds, _, ⟨a, vs, h1, h2, h3, h4⟩ => ⟨a, vs, h1, e _ _ h2, h3, Reps.mono e ds vs h4⟩
  | .raw _, _, h => h
  | .ext φ, _, ⟨a, h1, h2⟩ => ⟨a, h1, e _ _ h2⟩
  | .exc C ns ds, _, ⟨a, d, vs, h1, h2, h3, h4, h5⟩ => ⟨a, d, vs, h1, e _ _ h2, h3.mono e, h4, Reps.mono e ds vs h5⟩
theorem Reps.mono {K : PySem.W.Frag} {S S' : Hp} (e : Same S S') : ∀ (ds : List D) (vs : List V), Reps K S ds vs → Reps K S' ds vs
  | [], _, h => h
  | d :: ds, _, ⟨v, r, h1, h2, h3⟩ => ⟨v, r, h1, Rep.mono e d v h2, Reps.mono e ds r h3⟩
end

section
variable {K : PySem.W.Frag} {S : Hp}
theorem Reps.length : ∀ {ds : List D} {vs : List V}, Reps K S ds vs → ds.length = vs.length
  | [], _, h => by rw [show _ = [] from h]; rfl
  | d :: ds, _, ⟨v, r, h1, _, h3⟩ => by rw [h1, List.length_cons, List.length_cons, Reps.length h3]
theorem Reps.get : ∀ {ds : List D} {vs : List V} {i : Nat} {d : D}, Reps K S ds vs → ds[i]? = some d → ∃ v, vs[i]? = some v ∧ Rep K S d v
  | [], _, _, _, _, e => by simp at e
  | d :: ds, _, 0, _, ⟨v, r, h1, h2, _⟩, e => by
    simp at e; subst e; subst h1; exact ⟨v, rfl, h2⟩
  | d :: ds, _, i + 1, _, ⟨v, r, h1, _, h3⟩, e => by
    subst h1
    obtain ⟨u, e1, e2⟩ := Reps.get (i := i) h3 (by simpa using e)
    exact ⟨u, by simpa using e1, e2⟩
theorem Reps.get' {ds : List D} {vs : List V} {i : Nat} {v : V} (h : Reps K S ds vs) (e : vs[i]? = some v) : ∃ d, ds[i]? = some d ∧ Rep K S d v := by
  have hi : i < ds.length := by
    rw [h.length]; exact (List.getElem?_eq_some_iff.mp e).1
  obtain ⟨u, e1, e2⟩ := Reps.get (i := i) (d := ds[i]) h (List.getElem?_eq_getElem hi)
  rw [e] at e1; cases e1
  exact ⟨ds[i], List.getElem?_eq_getElem hi, e2⟩
theorem Reps.of_get : ∀ {ds : List D} {vs : List V}, ds.length = vs.length → (∀ (i : Nat) d v, ds[i]? = some d → vs[i]? = some v → Rep K S d v) → Reps K S ds vs
  | [], [], _, _ => rfl
  | d :: ds, v :: vs, hl, h => ⟨v, vs, rfl, h 0 d v rfl rfl, Reps.of_get (by simpa using hl) fun i d' v' e1 e2 => h (i + 1) d' v' (by simpa using e1) (by simpa using e2)⟩
theorem Reps.append : ∀ {ds es : List D} {vs us : List V}, Reps K S ds vs → Reps K S es us → Reps K S (ds ++ es) (vs ++ us)
  | [], _, _, _, h, g => by rw [show _ = [] from h]; exact g
  | d :: ds, _, _, _, ⟨v, r, h1, h2, h3⟩, g => ⟨v, r ++ _, by rw [h1]; rfl, h2, Reps.append h3 g⟩
theorem Reps.nil : Reps K S [] [] := rfl
theorem Reps.cons {d : D} {ds : List D} {v : V} {vs : List V} (h : Rep K S d v) (g : Reps K S ds vs) : Reps K S (d :: ds) (v :: vs) := ⟨v, vs, rfl, h, g⟩
theorem Reps.one {d : D} {v : V} (h : Rep K S d v) : Reps K S [d] [v] := ⟨v, [], rfl, h, rfl⟩
theorem Reps.take {ds : List D} {vs : List V} (n : Nat) (h : Reps K S ds vs) : Reps K S (ds.take n) (vs.take n) := by
  refine Reps.of_get (by simp [h.length]) fun i d v e1 e2 => ?_
  rw [List.getElem?_take] at e1 e2
  split at e1
  · rename_i hi
    rw [if_pos hi] at e2
    obtain ⟨u, q1, q2⟩ := h.get e1
    rw [e2] at q1; cases q1; exact q2
  · cases e1
theorem Reps.drop {ds : List D} {vs : List V} (n : Nat) (h : Reps K S ds vs) : Reps K S (ds.drop n) (vs.drop n) := by
  refine Reps.of_get (by simp [h.length]) fun i d v e1 e2 => ?_
  rw [List.getElem?_drop] at e1 e2
  obtain ⟨u, q1, q2⟩ := h.get e1
  rw [e2] at q1; cases q1; exact q2
theorem Reps.set {ds : List D} {vs : List V} {i : Nat} {d : D} {v : V} (h : Reps K S ds vs) (r : Rep K S d v) : Reps K S (ds.set i d) (vs.set i v) := by
  refine Reps.of_get (by simp [h.length]) fun j d' v' e1 e2 => ?_
  rw [List.getElem?_set] at e1 e2
  split at e1
  · rename_i hi
    rw [if_pos hi] at e2
    split at e1
    · split at e2
      · cases e1; cases e2; exact r
      · cases e2
    · cases e1
  · rename_i hi
    rw [if_neg hi] at e2
    obtain ⟨u, q1, q2⟩ := h.get e1
    rw [e2] at q1; cases q1; exact q2
theorem Reps.reverse {ds : List D} {vs : List V} (h : Reps K S ds vs) : Reps K S ds.reverse vs.reverse := by
  refine Reps.of_get (by simp [h.length]) fun i d v e1 e2 => ?_
  have hi : i < ds.length := by simpa using (List.getElem?_eq_some_iff.mp e1).1
  have hi2 : i < vs.length := by rw [← h.length]; exact hi
  rw [List.getElem?_reverse hi] at e1
  rw [List.getElem?_reverse hi2] at e2
  obtain ⟨u, q1, q2⟩ := h.get e1
  rw [h.length] at q1
  rw [e2] at q1; cases q1; exact q2
theorem Reps.rep {ds : List D} {vs : List V} (h : Reps K S ds vs) : ∀ n : Nat, Reps K S (List.replicate n ds).flatten (List.replicate n vs).flatten
  | 0 => rfl
  | n + 1 => by rw [List.replicate_succ, List.replicate_succ, List.flatten_cons, List.flatten_cons]; exact h.append (h.rep n)
/-- typed lists -/
theorem Reps.ints : ∀ {ns : List Int} {vs : List V}, Reps K S (ns.map D.int) vs → vs = ns.map V.int
  | [], _, h => h
  | n :: ns, _, ⟨v, r, h1, h2, h3⟩ => by rw [h1, show v = V.int n from h2, Reps.ints h3]; rfl
theorem Reps.strs : ∀ {ns : List Str} {vs : List V}, Reps K S (ns.map D.str) vs → vs = ns.map V.str
  | [], _, h => h
  | n :: ns, _, ⟨v, r, h1, h2, h3⟩ => by rw [h1, show v = V.str n from h2, Reps.strs h3]; rfl
theorem Reps.bls : ∀ {ns : List Bool} {vs : List V}, Reps K S (ns.map D.bl) vs → vs = ns.map V.bl
  | [], _, h => h
  | n :: ns, _, ⟨v, r, h1, h2, h3⟩ => by rw [h1, show v = V.bl n from h2, Reps.bls h3]; rfl
theorem Reps.ofInts : ∀ {ns : List Int}, Reps K S (ns.map D.int) (ns.map V.int)
  | [] => rfl
  | n :: ns => ⟨.int n, _, rfl, rfl, Reps.ofInts⟩
theorem Reps.ofStrs : ∀ {ns : List Str}, Reps K S (ns.map D.str) (ns.map V.str)
  | [] => rfl
  | n :: ns => ⟨.str n, _, rfl, rfl, Reps.ofStrs⟩
theorem Reps.ofBls : ∀ {ns : List Bool}, Reps K S (ns.map D.bl) (ns.map V.bl)
  | [] => rfl
  | n :: ns => ⟨.bl n, _, rfl, rfl, Reps.ofBls⟩
end

/-- data that no heap bears -/
def Scal : D → Prop
  | .non | .bl _ | .int _ | .str _ | .raw _ => True
  | _ => False
theorem Rep.scal {K : PySem.W.Frag} {S S' : Hp} {d : D} {v : V} (h : Scal d) (r : Rep K S d v) : Rep K S' d v := by
  cases d <;> first | exact r | exact h.elim

/-! ### the state of a def's slots -/
/-- what an owned object holds -/
inductive Ob where
  | lst (ds : List D) | ins (C : Addr) (ns : List Str) (ds : List D) | dct (ks : List Key) (ds : List D)
def Ob.d : Ob → D
  | .lst ds => .lst ds
  | .ins C ns ds => .obj C ns ds
  | .dct ks ds => .dct ks ds
def ObR (K : PySem.W.Frag) (S H : Hp) (a : Addr) : Ob → Prop
  | .lst ds => ∃ vs, H a = some (.lst vs) ∧ Reps K S ds vs
  | .ins C ns ds => ∃ dx vs, H a = some (.ins C dx (ns.zip vs)) ∧ ns.length = vs.length ∧ Reps K S ds vs
  | .dct ks ds => ∃ vs, H a = some (.dK (ks.zip vs)) ∧ ks.length = vs.length ∧ Reps K S ds vs
theorem ObR.there {K : PySem.W.Frag} {S H : Hp} {a : Addr} {o : Ob} (h : ObR K S H a o) : ∃ x, H a = some x := by
  cases o with
  | lst ds => obtain ⟨vs, h, _⟩ := h; exact ⟨_, h⟩
  | ins C ns ds => obtain ⟨dx, vs, h, _⟩ := h; exact ⟨_, h⟩
  | dct ks ds => obtain ⟨vs, h, _⟩ := h; exact ⟨_, h⟩
theorem ObR.mono {K : PySem.W.Frag} {S S' H H' : Hp} {a : Addr} {o : Ob} (e : Same S S') (k : ∀ x, H a = some x → H' a = some x) (h : ObR K S H a o) : ObR K S' H' a o := by
  cases o with
  | lst ds => obtain ⟨vs, h, r⟩ := h; exact ⟨vs, k _ h, Reps.mono e _ _ r⟩
  | ins C ns ds => obtain ⟨dx, vs, h, l, r⟩ := h; exact ⟨dx, vs, k _ h, l, Reps.mono e _ _ r⟩
  | dct ks ds => obtain ⟨vs, h, l, r⟩ := h; exact ⟨vs, k _ h, l, Reps.mono e _ _ r⟩
theorem ObR.rep {K : PySem.W.Frag} {S H : Hp} {a : Addr} {o : Ob} (k : ∀ x, H a = some x → S a = some x) (h : ObR K S H a o) : Rep K S o.d (.ref a) := by
  cases o with
  | lst ds => obtain ⟨vs, h, r⟩ := h; exact ⟨a, vs, rfl, k _ h, r⟩
  | ins C ns ds => obtain ⟨dx, vs, h, l, r⟩ := h; exact ⟨a, dx, vs, rfl, k _ h, l, r⟩
  | dct ks ds => obtain ⟨vs, h, l, r⟩ := h; exact ⟨a, vs, rfl, k _ h, l, r⟩

inductive Sl where
  | un | sh (d : D) | ow (o : Ob) | pr (p : Addr) (o : Ob)
abbrev Gm := List Sl
/-- slot i owns the object at a -/
def OwnAt (Γ : Gm) (σ : L2.St) (i : Nat) (a : Addr) : Prop := ((∃ o, Γ[i]? = some (.ow o)) ∨ ∃ p o, Γ[i]? = some (.pr p o)) ∧ σ[i]? = some (some (.ref a))
def Own (Γ : Gm) (σ : L2.St) (a : Addr) : Prop := ∃ i, OwnAt Γ σ i a
/-- a def's entry: the heap, the shared part, the owned parameters -/
structure Fr where
  H0 : Hp
  S0 : Hp
  op : Addr → Prop
def SlOk (K : PySem.W.Frag) (F : Fr) (S H : Hp) (x : Option (Option V)) : Sl → Prop
  | .un => True
  | .sh d => ∃ v, x = some (some v) ∧ Rep K S d v
  | .ow o => ∃ a, x = some (some (.ref a)) ∧ S a = none ∧ (F.H0 a = none ∨ F.op a) ∧ ObR K S H a o
  | .pr p o => x = some (some (.ref p)) ∧ S p = none ∧ (F.H0 p = none ∨ F.op p) ∧ ObR K S H p o
structure RS (K : PySem.W.Frag) (F : Fr) (Γ : Gm) (σ : L2.St) (H S : Hp) : Prop where
  s0 : Same F.S0 S
  sh : Same S H
  new : ∀ b o, F.H0 b = some o → ¬ F.op b → F.S0 b = none → S b = none
  kp : ∀ b o, ¬ F.op b → F.H0 b = some o → H b = some o
  th : ∀ b o, F.H0 b = some o → ∃ o', H b = some o'
  sl : ∀ (i : Nat) s, Γ[i]? = some s → SlOk K F S H σ[i]? s
  ne : ∀ i j a, i ≠ j → OwnAt Γ σ i a → OwnAt Γ σ j a → False
  len : Γ.length = σ.length

/-- an expression's end: shared data, a new object of one's own, the object that slot i owns -/
inductive Rs where
  | sh (d : D) | ow (o : Ob) | br (i : Nat)
def RsOk (K : PySem.W.Frag) (F : Fr) (Γ : Gm) (σ : L2.St) (H S : Hp) : Rs → V → Prop
  | .sh d, v => Rep K S d v
  | .ow o, v => ∃ a, v = .ref a ∧ S a = none ∧ F.H0 a = none ∧ ObR K S H a o ∧ ¬ Own Γ σ a
  | .br i, v => ∃ a, v = .ref a ∧ OwnAt Γ σ i a

section
variable {K : PySem.W.Frag} {F : Fr} {Γ Γ' : Gm} {σ σ' : L2.St} {H H' S S' : Hp} {a : Addr} {i : Nat}
theorem RS.own (R : RS K F Γ σ H S) (h : OwnAt Γ σ i a) : S a = none ∧ (F.H0 a = none ∨ F.op a) ∧ ∃ o, ObR K S H a o := by
  obtain ⟨⟨o, e⟩ | ⟨p, o, e⟩, q⟩ := h
  · obtain ⟨b, e1, e2, e3, e4⟩ := R.sl i _ e
    rw [q] at e1; cases e1
    exact ⟨e2, e3, o, e4⟩
  · obtain ⟨e1, e2, e3, e4⟩ := R.sl i _ e
    rw [q] at e1; cases e1
    exact ⟨e2, e3, o, e4⟩
theorem RS.ownNone (R : RS K F Γ σ H S) (n : H a = none) : ¬ Own Γ σ a := fun ⟨i, h⟩ => by
  obtain ⟨_, _, o, q⟩ := R.own h
  obtain ⟨x, e⟩ := q.there
  rw [n] at e; cases e
theorem RS.h0None (R : RS K F Γ σ H S) (n : H a = none) : F.H0 a = none := by
  cases e : F.H0 a with
  | none => rfl
  | some o =>
    obtain ⟨o', q⟩ := R.th a o e
    rw [n] at q; cases q
theorem RS.sNone (R : RS K F Γ σ H S) (n : H a = none) : S a = none := by
  cases e : S a with
  | none => rfl
  | some o => rw [R.sh a o e] at n; cases n
/-- only new objects, not shared -/
theorem RS.grow (R : RS K F Γ σ H S) (h : Same H H') : RS K F Γ σ H' S := by
  refine ⟨R.s0, R.sh.trans h, R.new, fun b o n e => h b o (R.kp b o n e), ?_, ?_, R.ne, R.len⟩
  · intro b o e
    obtain ⟨o', q⟩ := R.th b o e
    exact ⟨o', h b o' q⟩
  · intro j s e
    have q := R.sl j s e
    cases s with
    | un => trivial
    | sh d => exact q
    | ow o => obtain ⟨b, e1, e2, e3, e4⟩ := q; exact ⟨b, e1, e2, e3, e4.mono (.refl _) (h b)⟩
    | pr p o => obtain ⟨e1, e2, e3, e4⟩ := q; exact ⟨e1, e2, e3, e4.mono (.refl _) (h p)⟩
/-- the shared part grows by what is new -/
theorem RS.share (R : RS K F Γ σ H S) (h1 : Same S S') (h2 : Same S' H) (h3 : ∀ b o, S' b = some o → S b = none → F.H0 b = none ∧ ¬ Own Γ σ b) : RS K F Γ σ H S' := by
  refine ⟨R.s0.trans h1, h2, ?_, R.kp, R.th, ?_, R.ne, R.len⟩
  · intro b o e n z
    have q := R.new b o e n z
    cases e1 : S' b with
    | none => rfl
    | some u =>
      have := (h3 b u e1 q).1
      rw [e] at this
      cases this
  · intro j s e
    have q := R.sl j s e
    have nn : ∀ b, OwnAt Γ σ j b → S b = none → S' b = none := fun b ow z => by
      cases e1 : S' b with
      | none => rfl
      | some u => exact ((h3 b u e1 z).2 ⟨j, ow⟩).elim
    cases s with
    | un => trivial
    | sh d => obtain ⟨v, e1, e2⟩ := q; exact ⟨v, e1, Rep.mono h1 _ _ e2⟩
    | ow o => obtain ⟨b, e1, e2, e3, e4⟩ := q; exact ⟨b, e1, nn b ⟨.inl ⟨o, e⟩, e1⟩ e2, e3, e4.mono h1 fun _ z => z⟩
    | pr p o => obtain ⟨e1, e2, e3, e4⟩ := q; exact ⟨e1, nn p ⟨.inr ⟨p, o, e⟩, e1⟩ e2, e3, e4.mono h1 fun _ z => z⟩
theorem same_upd {H : Hp} {p : Addr} {o : HO} (h : H p = none) : Same H (upd H p o) := fun b x e => by
  rw [upd_ne (ne_of_none e h)]
  exact e
/-- a new shared object -/
theorem RS.laid (R : RS K F Γ σ H S) {p : Addr} {o : HO} (n : H p = none) : RS K F Γ σ (upd H p o) (upd S p o) ∧ Same S (upd S p o) := by
  have hs := same_upd (o := o) (R.sNone n)
  refine ⟨(R.grow (same_upd (o := o) n)).share hs (fun b x e => ?_) (fun b x e z => ?_), hs⟩
  · by_cases hb : b = p
    · subst hb; rw [upd_same] at e ⊢; exact e
    · rw [upd_ne hb] at e ⊢; exact R.sh b x e
  · by_cases hb : b = p
    · subst hb; exact ⟨R.h0None n, R.ownNone n⟩
    · rw [upd_ne hb] at e; rw [e] at z; cases z
/-- rebase: the frame of this very state -/
def Fr.here (Γ : Gm) (σ : L2.St) (H S : Hp) : Fr := ⟨H, S, Own Γ σ⟩
theorem RS.rebase (R : RS K F Γ σ H S) : RS K (.here Γ σ H S) Γ σ H S := by
  refine ⟨.refl _, R.sh, fun b o _ _ z => z, fun b o _ e => e, fun b o e => ⟨o, e⟩, ?_, R.ne, R.len⟩
  intro j s e
  have q := R.sl j s e
  cases s with
  | un => trivial
  | sh d => exact q
  | ow o => obtain ⟨b, e1, e2, e3, e4⟩ := q; exact ⟨b, e1, e2, .inr ⟨j, .inl ⟨o, e⟩, e1⟩, e4⟩
  | pr p o => obtain ⟨e1, e2, e3, e4⟩ := q; exact ⟨e1, e2, .inr ⟨j, .inr ⟨p, o, e⟩, e1⟩, e4⟩
theorem RS.back (R : RS K F Γ σ H S) (R' : RS K (.here Γ σ H S) Γ' σ' H' S') : RS K F Γ' σ' H' S' := by
  have no : ∀ b o, F.H0 b = some o → ¬ F.op b → ¬ Own Γ σ b := fun b o e n ⟨i, ow⟩ => by
    rcases (R.own ow).2.1 with z | z
    · rw [e] at z; cases z
    · exact n z
  have old : ∀ b, ((Fr.here Γ σ H S).H0 b = none ∨ (Fr.here Γ σ H S).op b) → F.H0 b = none ∨ F.op b := fun b z => by
    rcases z with z | ⟨i, ow⟩
    · exact .inl (R.h0None z)
    · exact (R.own ow).2.1
  refine ⟨R.s0.trans R'.s0, R'.sh, fun b o e n z => R'.new b o (R.kp b o n e) (no b o e n) (R.new b o e n z), fun b o n e => R'.kp b o (no b o e n) (R.kp b o n e),
    fun b o e => (R.th b o e).elim fun o' q => R'.th b o' q, fun j s e => ?_, R'.ne, R'.len⟩
  have q := R'.sl j s e
  cases s with
  | un => trivial
  | sh d => exact q
  | ow o => obtain ⟨b, e1, e2, e3, e4⟩ := q; exact ⟨b, e1, e2, old b e3, e4⟩
  | pr p o => obtain ⟨e1, e2, e3, e4⟩ := q; exact ⟨e1, e2, old p e3, e4⟩
/-- forgetting -/
def Wk (Γ Γ' : Gm) : Prop := Γ'.length = Γ.length ∧ ∀ (i : Nat) s, Γ'[i]? = some s → s = .un ∨ Γ[i]? = some s
theorem RS.weak (R : RS K F Γ σ H S) (w : Wk Γ Γ') : RS K F Γ' σ H S := by
  have ow : ∀ i a, OwnAt Γ' σ i a → OwnAt Γ σ i a := fun i a ⟨h, q⟩ => by
    refine ⟨?_, q⟩
    rcases h with ⟨o, e⟩ | ⟨p, o, e⟩
    · rcases w.2 i _ e with z | z
      · cases z
      · exact .inl ⟨o, z⟩
    · rcases w.2 i _ e with z | z
      · cases z
      · exact .inr ⟨p, o, z⟩
  refine ⟨R.s0, R.sh, R.new, R.kp, R.th, fun j s e => ?_, fun i j a n x y => R.ne i j a n (ow i a x) (ow j a y), w.1.trans R.len⟩
  rcases w.2 j s e with z | z
  · subst z; trivial
  · exact R.sl j s z
theorem Wk.refl (Γ : Gm) : Wk Γ Γ := ⟨rfl, fun _ _ e => .inr e⟩
theorem Wk.trans {Γ1 Γ2 Γ3 : Gm} (a : Wk Γ1 Γ2) (b : Wk Γ2 Γ3) : Wk Γ1 Γ3 := ⟨b.1.trans a.1, fun i s e => by
  rcases b.2 i s e with z | z
  · exact .inl z
  · exact a.2 i s z⟩
end
end PL

set_option Elab.async false
set_option linter.all false
set_option maxRecDepth 100000
set_option maxHeartbeats 1000000
/-! promises of defs where no repr is under way (so that repr may be asked): Room, FnOk and the rules of calls, all over again in this sense -/
namespace PL
open PySem PySem.Spec PyProof.Rows L2
structure Room (k : Nat) (A : Around) : Prop where
  r : L2.Room k A
  gd : A.guards = some []
namespace Room
variable {j k : Nat} {A : Around}
theorem hd (x : Room k A) : A.handled = none := x.r.hd
theorem mono (x : Room k A) (h : j ≤ k) : Room j A := ⟨x.r.mono h, x.gd⟩
theorem deeper (x : Room (k + 1) A) (env : Env) : Room k (A.deeper env) := ⟨x.r.deeper env, x.gd⟩
theorem in1 (x : Room (k + 1) A) : Room k A.in1 := ⟨x.r.in1, x.gd⟩
theorem make_gd {C : Addr} {us : List Value} {kw : List (Str × Value)} : (A.under (.builtin "type.__call__" ⟨.ref C :: us, kw⟩)).guards = A.guards := by
  have h : Code.guards (.builtin "type.__call__" ⟨.ref C :: us, kw⟩) = [] := by first | rfl | simp [Code.guards, Code.isGuard, guardIds]
  unfold Around.under
  dsimp only
  rw [h]
  cases A.guards <;> rfl
theorem make (x : Room (k + 1) A) (C : Addr) (us : List Value) (kw : List (Str × Value)) : Room k (A.under (.builtin "type.__call__" ⟨.ref C :: us, kw⟩)) := ⟨x.r.make C us kw, make_gd.trans x.gd⟩
theorem depth (x : Room k A) : A.depth < recursionLimit := x.r.depth
theorem units (x : Room k A) : A.units + 64 < cLine := x.r.units
theorem units0 (x : Room k A) : A.units < cLine := x.r.units0
theorem un (x : Room k A) : A.units + 16 * k + 200 < cLine := x.r.un
theorem dp (x : Room k A) : A.depth + 3 * k + 5 < recursionLimit := x.r.dp
end Room
structure FnOk (P : Program) (w : World) (K : PySem.W.Frag) (mg : Str → Option Value) (base : Heap) (CX : CXT) (k : Nat) (f : Addr) (fd : FuncData) (ps : List Str) (sp : Sp) : Prop where
  len : ∀ vs H Q E, sp vs H Q E → vs.length = ps.length
  run : ∀ (A : Around) (outer : List Env) (s : Shared) (H : Hp) (args : Args) (us : List Value) (vs : List V) (Q : VK) (E : XK), Room k A → Env0 P w K mg base A outer s H → BindsTo s fd args (ps.zip us) → Vals vs us → sp vs H Q E → codeAny (model P w) A (.call (.ref f) args) (CR CX outer P w H s Q E) s
section
variable {P : Program} {w : World} {K : PySem.W.Frag} {mg : Str → Option Value} {base : Heap} {CX : CXT} {j k : Nat} {f : Addr} {fd : FuncData} {ps : List Str} {sp sp' : Sp}
theorem FnOk.mono (F : FnOk P w K mg base CX j f fd ps sp) (h : j ≤ k) : FnOk P w K mg base CX k f fd ps sp := ⟨F.len, fun A outer s H args us vs Q E hr => F.run A outer s H args us vs Q E (hr.mono h)⟩
theorem FnOk.imp (F : FnOk P w K mg base CX k f fd ps sp) (h : ∀ vs H Q E, sp' vs H Q E → sp vs H Q E) : FnOk P w K mg base CX k f fd ps sp' := ⟨fun vs H Q E q => F.len vs H Q E (h _ _ _ _ q), fun A outer s H args us vs Q E hr he hb hv hs => F.run A outer s H args us vs Q E hr he hb hv (h _ _ _ _ hs)⟩
theorem FnOk.of (F : L2.FnOk P w K mg base CX k f fd ps sp) : FnOk P w K mg base CX k f fd ps sp := ⟨F.len, fun A outer s H args us vs Q E hr => F.run A outer s H args us vs Q E hr.r⟩
end
/-! ### a callee runs -/
section
variable {X : Cx} {CX : CXT} {k n : Nat} {f C : Addr} {fd : FuncData} {ps ks : List Str} {sp : Sp} {dvs : List V} {ds : List Value} {E : XK} {x m : Str} {p pos apos : Pos} {e o : Expr} {es : List Expr} {kws : List Keyword} {ta : TE} {t tk : TA} {g : List Value → List Value → List Value} {gV : List V → List V → List V}
variable {pins : List (Addr × Obj)} {σ : L2.St} {H : Hp} {s : Shared} {Q : VK} {us ws : List Value} {vs zs : List V}
theorem run_any {A : Around} {args : Args} {vs0 : List V} (F : FnOk X.prog X.w X.K X.mg X.base CX k f fd ps sp) (hr : Room k A) (e0 : Env0 X.prog X.w X.K X.mg X.base A X.stack s H) (b : BindsTo s fd args (ps.zip us)) (hx : ∀ e s', CX X.stack H s E e s' → X.xe e s') (I : Inv X pins σ H s) (r : Vals vs0 us) (h : sp vs0 H Q E) :
    codeAny (model X.prog X.w) A (.call (.ref f) args) (fun r s' => match r with | .ok (.ret u) => EP X pins σ Q u s' | .ok _ => False | .error e => X.xe e s') s := by
  refine codeAny_mono (F.run A X.stack s H args us vs0 Q E hr e0 b r h) fun r s' z => ?_
  rcases r with er | fl
  · exact hx er s' z
  · cases fl with
    | ret u => exact I.after z
    | next => exact z.elim
    | brk => exact z.elim
    | cont => exact z.elim
theorem end_any {c : Sem Value} (h : wpAny (model X.prog X.w) X.A c (EP X pins σ Q) X.xe s) : wpAny (model X.prog X.w) X.A c (EP X pins σ Q) X.xe s := h
theorem run_fn (F : FnOk X.prog X.w X.K X.mg X.base CX k f fd ps sp) (hr : Room k X.A) (hb : Binds X.K fd ps ds) (hd : Vals dvs ds) (hx : Passes CX X E) (I : Inv X pins σ H s) (r : Vals vs us) (h : sp (vs ++ dvs) H Q E) : wpAny (model X.prog X.w) X.A (call (.ref f) us) (EP X pins σ Q) X.xe s := by
  have rr := r.append hd
  have hl : (us ++ ds).length = ps.length := by rw [← rr.length, F.len _ _ _ _ h]
  refine wpAny_call (codeAny_mono (run_any F hr I.env0 (hb s us I.kIn hl) (fun e s' z => hx pins σ H s e s' I z) I rr h) fun r s' z => ?_)
  rcases r with er | fl
  · exact z
  · cases fl <;> exact z
theorem run_fnS {E : L2.St → XK} (F : FnOk X.prog X.w X.K X.mg X.base CX k f fd ps sp) (hr : Room k X.A) (hb : Binds X.K fd ps []) (hx : PassesAt CX X σ (E σ)) (I : Inv X pins σ H s) (r : Vals vs us) (h : sp vs H Q (E σ)) : wpAny (model X.prog X.w) X.A (call (.ref f) us) (EP X pins σ Q) X.xe s := by
  have hl : (us ++ []).length = ps.length := by rw [List.append_nil, ← r.length, F.len _ _ _ _ h]
  have b := hb s us I.kIn hl
  rw [List.append_nil] at b
  refine wpAny_call (codeAny_mono (run_any F hr I.env0 b (fun e s' z => hx pins H s e s' I z) I r h) fun r s' z => ?_)
  rcases r with er | fl
  · exact z
  · cases fl <;> exact z
theorem run_kw (F : FnOk X.prog X.w X.K X.mg X.base CX k f fd ps sp) (hr : Room k X.A) {args : Args} {as : List Value} {av : List V} (b : BindsTo s fd ⟨us, ks.zip ws⟩ (ps.zip as)) (hx : Passes CX X E) (I : Inv X pins σ H s) (r : Vals av as) (h : sp av H Q E) : wpAny (model X.prog X.w) X.A (call (.ref f) us (ks.zip ws)) (EP X pins σ Q) X.xe s := by
  refine wpAny_call (codeAny_mono (run_any F hr I.env0 b (fun e s' z => hx pins σ H s e s' I z) I r h) fun r s' z => ?_)
  rcases r with er | fl
  · exact z
  · cases fl <;> exact z
theorem run_fnk (F : FnOk X.prog X.w X.K X.mg X.base CX k f fd ps sp) (hr : Room k X.A) (hb : KBinds X.K fd ps ks g gV) (hx : Passes CX X E) (I : Inv X pins σ H s) (r : Vals vs us) (rz : Vals zs ws) (h : sp (gV vs zs) H Q E) : wpAny (model X.prog X.w) X.A (call (.ref f) us (ks.zip ws)) (EP X pins σ Q) X.xe s := by
  have rr := hb.rel r rz
  exact run_kw F hr (args := ⟨us, ks.zip ws⟩) (hb.to s us ws I.kIn (by rw [← rr.length, F.len _ _ _ _ h])) hx I rr h
theorem run_fnN (F : FnOk X.prog X.w X.K X.mg X.base CX k f fd ps sp) (hr : Room k X.A) (hb : KBn X.K fd ps n ks g gV) (hx : Passes CX X E) (I : Inv X pins σ H s) (r : Vals vs us) (rz : Vals zs ws) (l1 : vs.length = n) (l2 : zs.length = ks.length) (h : sp (gV vs zs) H Q E) : wpAny (model X.prog X.w) X.A (call (.ref f) us (ks.zip ws)) (EP X pins σ Q) X.xe s :=
  run_kw F hr (args := ⟨us, ks.zip ws⟩) (hb.to s us ws I.kIn (r.length.symm.trans l1) (rz.length.symm.trans l2)) hx I (hb.rel r rz) h
/-- a class is called -/
theorem run_mk {av : List V} {as : List Value} {kw : List (Str × Value)} (M : Mk X.K C f) (F : FnOk X.prog X.w X.K X.mg X.base CX k f fd ps sp) (hr : Room (k + 1) X.A) (hx : Passes CX X E) (I : Inv X pins σ H s) (b : ∀ s1 : Shared, X.K.In s1.heap → BindsTo s1 fd ⟨Value.ref (s.heap.objs.size + 1) :: us, kw⟩ (ps.zip as)) (r : Vals av as)
    (h : H (s.heap.objs.size + 1) = none → H s.heap.objs.size = none → s.heap.objs.size ≠ s.heap.objs.size + 1 → sp av (upd (upd H s.heap.objs.size (.own (s.heap.objs.size + 1))) (s.heap.objs.size + 1) (.ins C s.heap.objs.size [])) (fun v H2 => v = .non ∧ Q (.ref (s.heap.objs.size + 1)) H2) E) : wpAny (model X.prog X.w) X.A (call (.ref C) us kw) (EP X pins σ Q) X.xe s := by
  have n1 := I.hok.fresh (Nat.le_succ s.heap.objs.size)
  have n2 := I.hok.fresh (Nat.le_refl s.heap.objs.size)
  have q0 := h n1 n2 (Nat.ne_of_lt (Nat.lt_succ_self _))
  have J := Inv.made (C := C) I
  refine wpAny_call (make_map (f := f) I.kIn M.makes M.init (beq_iff_eq.mp M.fn) (codeAny_mono (F.run _ X.stack _ _ ⟨Value.ref (s.heap.objs.size + 1) :: us, kw⟩ as _ _ E (hr.make C us kw) (J.env0.make C us kw) (b _ J.kIn) r q0) fun r s' z => ?_))
  rcases r with er | fl
  · exact hx pins σ _ _ er s' J z
  · cases fl with
    | ret u =>
      obtain ⟨v, H', J2, rv, rfl, q2⟩ := J.after z
      exact ⟨rv, ⟨V.ref (s.heap.objs.size + 1), H', J2, rfl, q2⟩⟩
    | next => exact z.elim
    | brk => exact z.elim
    | cont => exact z.elim
theorem run_make (M : Mk X.K C f) (F : FnOk X.prog X.w X.K X.mg X.base CX k f fd ps sp) (hr : Room (k + 1) X.A) (hb : Binds X.K fd ps ds) (hd : Vals dvs ds) (hx : Passes CX X E) (I : Inv X pins σ H s) (r : Vals vs us)
    (h : ∀ x dx, H x = none → H dx = none → dx ≠ x → sp (.ref x :: (vs ++ dvs)) (upd (upd H dx (.own x)) x (.ins C dx [])) (fun v H2 => v = .non ∧ Q (.ref x) H2) E) : wpAny (model X.prog X.w) X.A (call (.ref C) us) (EP X pins σ Q) X.xe s := by
  have rr : Vals (V.ref (s.heap.objs.size + 1) :: (vs ++ dvs)) (Value.ref (s.heap.objs.size + 1) :: (us ++ ds)) := .cons rfl (r.append hd)
  have q0 := h (s.heap.objs.size + 1) s.heap.objs.size (I.hok.fresh (Nat.le_succ _)) (I.hok.fresh (Nat.le_refl _)) (Nat.ne_of_lt (Nat.lt_succ_self _))
  have hl : (Value.ref (s.heap.objs.size + 1) :: us ++ ds).length = ps.length := by rw [← F.len _ _ _ _ q0]; exact rr.length.symm
  exact run_mk (as := Value.ref (s.heap.objs.size + 1) :: (us ++ ds)) M F hr hx I (fun s1 kx => hb s1 (Value.ref (s.heap.objs.size + 1) :: us) kx hl) rr fun a b c => h _ _ a b c
theorem run_makeN (M : Mk X.K C f) (F : FnOk X.prog X.w X.K X.mg X.base CX k f fd ps sp) (hr : Room (k + 1) X.A) (hb : KBn X.K fd ps (n + 1) ks g gV) (hx : Passes CX X E) (I : Inv X pins σ H s) (r : Vals vs us) (rz : Vals zs ws) (l1 : vs.length = n) (l2 : zs.length = ks.length)
    (h : ∀ x dx, H x = none → H dx = none → dx ≠ x → sp (gV (.ref x :: vs) zs) (upd (upd H dx (.own x)) x (.ins C dx [])) (fun v H2 => v = .non ∧ Q (.ref x) H2) E) : wpAny (model X.prog X.w) X.A (call (.ref C) us (ks.zip ws)) (EP X pins σ Q) X.xe s := by
  have r1 : Vals (V.ref (s.heap.objs.size + 1) :: vs) (Value.ref (s.heap.objs.size + 1) :: us) := .cons rfl r
  have e1 : (Value.ref (s.heap.objs.size + 1) :: us).length = n + 1 := by rw [List.length_cons, ← r.length, l1]
  exact run_mk (as := g (Value.ref (s.heap.objs.size + 1) :: us) ws) M F hr hx I (fun s1 kx => hb.to s1 (Value.ref (s.heap.objs.size + 1) :: us) ws kx e1 (rz.length.symm.trans l2)) (hb.rel r1 rz) fun a b c => h _ _ a b c
/-! ### the rules of calls -/
theorem pe_call (F : FnOk X.prog X.w X.K X.mg X.base CX k f fd ps sp) (hr : Room k X.A) (hg : Gl X x) (hm : X.mg x = some (.ref f)) (hk : PySem.W.keepIn X.K (.ref f) = true) (hb : Binds X.K fd ps ds) (hd : Vals dvs ds) (hx : Passes CX X E) (ha : PA X (e :: es) t) (hdb : (x == ("__debug__" : Str)) = false := by decide)
    (he : starEach (e :: es) X.env = (false, eval e X.env) :: starEach es X.env := by rfl) (hpl : (backTo pos (starEach es X.env)).any (·.1) = false := by rfl) : PE X (.Call (.Name x p) (e :: es) [] pos) (tCall sp dvs E t) := ⟨fun pins s σ H Q I h => by
  refine wpAny_Call_Name_kw (ld_glob I hg hm (PySem.W.callWith_K (h₀ := X.base) I.ok.mod.kin hk (thn (ha.run pos pins s σ H _ I h) fun us s1 z => ?_) he hpl) hdb)
  obtain ⟨vs, H1, I1, r, q⟩ := z
  exact ⟨I1.kIn, run_fn F hr hb hd hx I1 r q⟩⟩
theorem pe_callS {E : L2.St → XK} (F : FnOk X.prog X.w X.K X.mg X.base CX k f fd ps sp) (hr : Room k X.A) (hg : Gl X x) (hm : X.mg x = some (.ref f)) (hk : PySem.W.keepIn X.K (.ref f) = true) (hb : Binds X.K fd ps []) (hx : ∀ σ, PassesAt CX X σ (E σ)) (ha : PA X (e :: es) t) (hdb : (x == ("__debug__" : Str)) = false := by decide)
    (he : starEach (e :: es) X.env = (false, eval e X.env) :: starEach es X.env := by rfl) (hpl : (backTo pos (starEach es X.env)).any (·.1) = false := by rfl) : PE X (.Call (.Name x p) (e :: es) [] pos) (tCallS sp E t) := ⟨fun pins s σ H Q I h => by
  refine wpAny_Call_Name_kw (ld_glob I hg hm (PySem.W.callWith_K (h₀ := X.base) I.ok.mod.kin hk (thn (ha.run pos pins s σ H _ I h) fun us s1 z => ?_) he hpl) hdb)
  obtain ⟨vs, H1, I1, r, q⟩ := z
  exact ⟨I1.kIn, run_fnS F hr hb (hx σ) I1 r q⟩⟩
theorem pe_call0 (F : FnOk X.prog X.w X.K X.mg X.base CX k f fd ps sp) (hr : Room k X.A) (hg : Gl X x) (hm : X.mg x = some (.ref f)) (hk : PySem.W.keepIn X.K (.ref f) = true) (hb : Binds X.K fd ps ds) (hd : Vals dvs ds) (hx : Passes CX X E) (hdb : (x == ("__debug__" : Str)) = false := by decide) : PE X (.Call (.Name x p) [] [] pos) (tCall sp dvs E tNil) := ⟨fun pins s σ H Q I h =>
  wpAny_Call_Name_kw (ld_glob I hg hm (PySem.W.callWith_K0 I.kIn hk (run_fn (us := []) F hr hb hd hx I .nil h)) hdb)⟩
theorem pe_meth {pl : Sem Bool} (he : PE X o ta) (c : Cls X.K C) (hm : Meth X.K C m f) (F : FnOk X.prog X.w X.K X.mg X.base CX k f fd ps sp) (hr : Room k X.A) (hb : Binds X.K fd ps ds) (hd : Vals dvs ds) (hx : Passes CX X E) (ha : PA X (e :: es) t)
    (hst : starEach (e :: es) X.env = (false, eval e X.env) :: starEach es X.env := by rfl) (hpl : (backTo pos (starEach es X.env)).any (·.1) = false := by rfl)
    (ht : eval (.Call (.Attribute o m apos) (e :: es) [] pos) X.env = (do
      let ov ← eval o X.env
      standAt apos.atName
      let (f, first) ← holding [ov] (getMethod ov m pl)
      callWith pos f first (backTo pos (starEach (e :: es) X.env)) (backToKw pos (keywordEach [] X.env))) := by rfl) : PE X (.Call (.Attribute o m apos) (e :: es) [] pos) (tMeth C m sp dvs E ta t) := ⟨fun pins s σ H Q I h => by
  refine PySem.W.methodCall_KW (pl := pl) (thn (he.run pins s σ H _ I h) fun u s1 z => ?_) ht
  obtain ⟨x, H1, I1, rx, a, dx, fs, rfl, ea, l, q⟩ := z
  obtain rfl : u = Value.ref a := rx
  refine getmeth_ok I1 ea c hm l (PySem.W.callWith_K (first := [.ref a]) (h₀ := X.base) I.ok.mod.kin hm.kp (thn (ha.run pos pins s1 σ H1 _ I1 q) fun us s2 z => ?_) hst hpl)
  obtain ⟨vs, H2, I2, r, q2⟩ := z
  exact ⟨I2.kIn, run_fn (us := .ref a :: us) (vs := .ref a :: vs) F hr hb hd hx I2 (.cons rfl r) q2⟩⟩
theorem pe_meth0 {pl : Sem Bool} (he : PE X o ta) (c : Cls X.K C) (hm : Meth X.K C m f) (F : FnOk X.prog X.w X.K X.mg X.base CX k f fd ps sp) (hr : Room k X.A) (hb : Binds X.K fd ps ds) (hd : Vals dvs ds) (hx : Passes CX X E)
    (ht : eval (.Call (.Attribute o m apos) [] [] pos) X.env = (do
      let ov ← eval o X.env
      standAt apos.atName
      let (f, first) ← holding [ov] (getMethod ov m pl)
      callWith pos f first (backTo pos (starEach [] X.env)) (backToKw pos (keywordEach [] X.env))) := by rfl) : PE X (.Call (.Attribute o m apos) [] [] pos) (tMeth C m sp dvs E ta tNil) := ⟨fun pins s σ H Q I h => by
  refine PySem.W.methodCall_KW (pl := pl) (thn (he.run pins s σ H _ I h) fun u s1 z => ?_) ht
  obtain ⟨x, H1, I1, rx, a, dx, fs, rfl, ea, l, q⟩ := z
  obtain rfl : u = Value.ref a := rx
  exact getmeth_ok I1 ea c hm l (PySem.W.callWith_K0 (first := [.ref a]) I1.kIn hm.kp (run_fn (us := [.ref a]) (vs := [.ref a]) F hr hb hd hx I1 (.cons rfl .nil) q))⟩
theorem pe_make (M : Mk X.K C f) (F : FnOk X.prog X.w X.K X.mg X.base CX k f fd ps sp) (hr : Room (k + 1) X.A) (hg : Gl X x) (hm : X.mg x = some (.ref C)) (hb : Binds X.K fd ps ds) (hd : Vals dvs ds) (hx : Passes CX X E) (ha : PA X (e :: es) t) (hdb : (x == ("__debug__" : Str)) = false := by decide)
    (he : starEach (e :: es) X.env = (false, eval e X.env) :: starEach es X.env := by rfl) (hpl : (backTo pos (starEach es X.env)).any (·.1) = false := by rfl) : PE X (.Call (.Name x p) (e :: es) [] pos) (tMake C sp dvs E t) := ⟨fun pins s σ H Q I h => by
  refine wpAny_Call_Name_kw (ld_glob I hg hm (PySem.W.callWith_K (h₀ := X.base) I.ok.mod.kin M.kp (thn (ha.run pos pins s σ H _ I h) fun us s1 z => ?_) he hpl) hdb)
  obtain ⟨vs, H1, I1, r, q⟩ := z
  exact ⟨I1.kIn, run_make M F hr hb hd hx I1 r q⟩⟩
theorem pe_make0 (M : Mk X.K C f) (F : FnOk X.prog X.w X.K X.mg X.base CX k f fd ps sp) (hr : Room (k + 1) X.A) (hg : Gl X x) (hm : X.mg x = some (.ref C)) (hb : Binds X.K fd ps ds) (hd : Vals dvs ds) (hx : Passes CX X E) (hdb : (x == ("__debug__" : Str)) = false := by decide) : PE X (.Call (.Name x p) [] [] pos) (tMake C sp dvs E tNil) := ⟨fun pins s σ H Q I h =>
  wpAny_Call_Name_kw (ld_glob I hg hm (PySem.W.callWith_K0 I.kIn M.kp (run_make (us := []) M F hr hb hd hx I .nil h)) hdb)⟩
theorem pe_callN (F : FnOk X.prog X.w X.K X.mg X.base CX k f fd ps sp) (hr : Room k X.A) (hg : Gl X x) (hm : X.mg x = some (.ref f)) (hk : PySem.W.keepIn X.K (.ref f) = true) (hb : KBn X.K fd ps n ks g gV) (hx : Passes CX X E) (ha : PA X (e :: es) t) (hkw : PK X kws tk)
    (hall : (backToKw pos (keywordEach kws X.env)).all (·.1.isSome) = true := by rfl) (hks : (backToKw pos (keywordEach kws X.env)).filterMap (·.1) = ks := by rfl) (hdb : (x == ("__debug__" : Str)) = false := by decide) (he : starEach (e :: es) X.env = (false, eval e X.env) :: starEach es X.env := by rfl)
    (hpl : ((backTo pos (starEach (e :: es) X.env)).any (·.1) || (backToKw pos (keywordEach kws X.env)).any (·.1.isNone)) = false := by rfl) : PE X (.Call (.Name x p) (e :: es) kws pos) (tCallN n ks.length sp gV E t tk) := ⟨fun pins s σ H Q I h => by
  refine wpAny_Call_Name_kw (ld_glob I hg hm (PySem.W.callWith_KW (h₀ := X.base) I.ok.mod.kin hk hall (thn (ha.run pos pins s σ H _ I h) fun us s1 z => ?_) hpl he) hdb)
  obtain ⟨vs, H1, I1, r, q⟩ := z
  refine thn (hkw.run pos pins s1 σ H1 _ I1 q) fun ws s2 z => ?_
  obtain ⟨zs, H2, I2, rz, l1, l2, q2⟩ := z
  rw [hks]
  exact ⟨I2.kIn, run_fnN F hr hb hx I2 r rz l1 l2 q2⟩⟩
theorem pe_makeN (M : Mk X.K C f) (F : FnOk X.prog X.w X.K X.mg X.base CX k f fd ps sp) (hr : Room (k + 1) X.A) (hg : Gl X x) (hm : X.mg x = some (.ref C)) (hb : KBn X.K fd ps (n + 1) ks g gV) (hx : Passes CX X E) (ha : PA X (e :: es) t) (hkw : PK X kws tk)
    (hall : (backToKw pos (keywordEach kws X.env)).all (·.1.isSome) = true := by rfl) (hks : (backToKw pos (keywordEach kws X.env)).filterMap (·.1) = ks := by rfl) (hdb : (x == ("__debug__" : Str)) = false := by decide)
    (he : starEach (e :: es) X.env = (false, eval e X.env) :: starEach es X.env := by rfl) (hpl : ((backTo pos (starEach (e :: es) X.env)).any (·.1) || (backToKw pos (keywordEach kws X.env)).any (·.1.isNone)) = false := by rfl) : PE X (.Call (.Name x p) (e :: es) kws pos) (tMakeN C n ks.length sp gV E t tk) := ⟨fun pins s σ H Q I h => by
  refine wpAny_Call_Name_kw (ld_glob I hg hm (PySem.W.callWith_KW (h₀ := X.base) I.ok.mod.kin M.kp hall (thn (ha.run pos pins s σ H _ I h) fun us s1 z => ?_) hpl he) hdb)
  obtain ⟨vs, H1, I1, r, q⟩ := z
  refine thn (hkw.run pos pins s1 σ H1 _ I1 q) fun ws s2 z => ?_
  obtain ⟨zs, H2, I2, rz, l1, l2, q2⟩ := z
  rw [hks]
  exact ⟨I2.kIn, run_makeN M F hr hb hx I2 r rz l1 l2 q2⟩⟩
theorem pe_makeK0 (M : Mk X.K C f) (F : FnOk X.prog X.w X.K X.mg X.base CX k f fd ps sp) (hr : Room (k + 1) X.A) (hg : Gl X x) (hm : X.mg x = some (.ref C)) (hb : KBn X.K fd ps 1 ks g gV) (hx : Passes CX X E) (hkw : PK X kws tk)
    (hall : (backToKw pos (keywordEach kws X.env)).all (·.1.isSome) = true := by rfl) (hks : (backToKw pos (keywordEach kws X.env)).filterMap (·.1) = ks := by rfl) (hdb : (x == ("__debug__" : Str)) = false := by decide)
    (hpl : ((backTo pos (starEach [] X.env)).any (·.1) || (backToKw pos (keywordEach kws X.env)).any (·.1.isNone)) = false := by rfl) : PE X (.Call (.Name x p) [] kws pos) (tMakeK C 0 ks.length sp gV E tNil tk) := ⟨fun pins s σ H Q I h => by
  refine wpAny_Call_Name_kw (ld_glob I hg hm (PySem.W.callWith_KW0 (h₀ := X.base) I.ok.mod.kin M.kp hall (thn (hkw.run pos pins s σ H _ I h) fun ws s2 z => ?_) hpl) hdb)
  obtain ⟨zs, H2, I2, rz, l1, l2, q2⟩ := z
  rw [hks]
  exact ⟨I2.kIn, run_makeN (us := []) (vs := []) M F hr hb hx I2 .nil rz rfl l2 q2⟩⟩
end
/-! ### a def by its body -/
theorem fd_ok {P : Program} {w : World} {K : PySem.W.Frag} {mg : Str → Option Value} {base : Heap} {x qual : Str} {params : Arguments} {body : List Stmt} {scope : Scope} {dvs : List V} {kws : List (Str × V)} {f : Addr} {fd : FuncData} {CX : CXT} {N ps : List Str} {k : Nat} {sp : Sp}
    (F : FunD K x qual params body scope dvs kws f fd) (S : FnScope N ps scope) (len : ∀ vs H Q E, sp vs H Q E → vs.length = ps.length)
    (hbody : ∀ (cdv : Value) (A : Around) (outer : List Env) (s : Shared) (H : Hp) (vs : List V) (Q : VK) (E : XK), Room k (A.deeper (envOfC qual scope s.heap.objs.size f cdv)) → sp vs H Q E → ∃ t, PSs (cxOf CX P w K mg base N qual scope f cdv A outer s H E) body t ∧ t { nx := fun _ H' => Q .non H', rt := Q } (start N vs) H) : FnOk P w K mg base CX (k + 1) f fd ps sp := by
  obtain ⟨oc, od, dV, kV, doc, pm, an, cdv, ct, osl, rfl, lk, hcd, _, _⟩ := F.ex
  refine ⟨len, fun A outer s H args us vs Q E hr e0 hb r hsp => ?_⟩
  have kx : K.In s.heap := e0.mod.kin.keeps fun b o e => (e0.bs b o e).1
  have nl := e0.mod.nolimit.keeps fun b o e => (e0.bs b o e).1
  have kinds : ∀ y ∈ ps.zip us, scope.names.lookup y.1 = some .local ∨ (scope.names.lookup y.1 = some .cell ∧ ((cellsFrom (s.heap.objs.size + 1) scope.names []).lookup y.1).isSome = true) := by
    rintro ⟨n, v⟩ hy
    exact (S.par n (List.of_mem_zip hy).1).imp id fun q => ⟨q, PySem.W.cellsFrom_some _ _ _ (.inl q)⟩
  refine codeAny_call_function hr.depth (kx _ _ lk) rfl S.co S.gen rfl (PySem.W.codeRec_of kx hcd) (hb _ _ _ _ (wpAny_newFunctionEnv_cells S.kind kinds fun env he s1 z => ?_))
  subst he
  obtain ⟨t, ht, hq⟩ := hbody cdv A outer s H vs Q E (hr.deeper _) hsp
  have I := inv_start (CX := CX) (E := E) S hr.hd e0 (len _ _ _ _ hsp) r z
  refine ⟨nl.keeps z.toInCall.keep, codeAny_func (wpAny_mono (ht.run [] s1 (start N vs) H _ I hq) (fun fl s' hs => ?_) fun e s' hs => hs)⟩
  cases fl with
  | ret u =>
    obtain ⟨v, σ', H', J, rv, q⟩ := hs
    exact ⟨v, H', J.os, J.bare, J.base, J.hok, rv, q⟩
  | next =>
    obtain ⟨σ', H', J, q⟩ := hs
    exact ⟨V.non, H', J.os, J.bare, J.base, J.hok, rfl, q⟩
  | brk => exact hs.elim fun _ z => z.elim fun _ z => z.2.elim
  | cont => exact hs.elim fun _ z => z.elim fun _ z => z.2.elim
/-! ### the law at the head -/
theorem law_callG {P : Program} {w : World} {K : PySem.W.Frag} {mg mb : Str → Option Value} {CX : CXT} {k : Nat} {fa a : Addr} {fd : FuncData} {x : Str} {sp : Sp} {s1 : Shared} {vs : List Value} {ns : List Int}
    (kx : K.In s1.heap) (gn : s1.heap.Ns mainGlobals mg) (bn : s1.heap.Ns builtinsNs mb) (bb : ∀ x : Str, x ≠ "__name__" → mb x = bootBuiltins x) (nl : s1.heap.NoLimit) (gs : s1.gens = #[]) (ha : s1.heap.get? a = some { cls := .type "list", data := .seq vs.toArray }) (hi : IntsAre vs ns) (hl : ns.length ≤ sizeLine) (hr : Room k callerA)
    (F : ∀ base : Heap, FnOk P w K mg base CX k fa fd [x] sp) (hbind : ∀ (s : Shared) (u : Value), BindsTo s fd ⟨[u], []⟩ [(x, u)]) (hsp : ∀ H : Hp, Only H → SqL K H a (ns.map V.int) → sp [.ref a] H (fun v _ => v = .bl true) fun _ _ _ => False) (hCX : ∀ H e s', CX [] H s1 (fun _ _ _ => False) e s' → False) :
    codeAny (model P w) callerA (.call (.ref fa) ⟨[.ref a], []⟩) (fun r s' => r = .ok (.ret (.bool true)) ∧ OldK s1.heap s'.heap ∧ s'.os = s1.os ∧ AllBare s'.gens) s1 := by
  have core : ∀ H : Hp, Only H → SqL K H a (ns.map V.int) → HOk P w H s1.heap → (∀ b, H b ≠ none → b = a) → (H a ≠ none → K.lookup a = none) → codeAny (model P w) callerA (.call (.ref fa) ⟨[.ref a], []⟩) (fun r s' => r = .ok (.ret (.bool true)) ∧ OldK s1.heap s'.heap ∧ s'.os = s1.os ∧ AllBare s'.gens) s1 := by
    intro H hO hS hok hA hK
    have old : ∀ {b : Addr} {o : Obj}, s1.heap.get? b = some o → H b = none → (hidT s1.heap H).get? b = some o := fun e n => hidT_get e n
    have just : ∀ b, H b = none ∨ b = a := fun b => by
      by_cases q : H b = none
      · exact .inl q
      · exact .inr (hA b q)
    have nsK : ∀ {b : Addr} {m : Str → Option Value}, s1.heap.Ns b m → (hidT s1.heap H).Ns b m := fun {b m} z => by
      obtain ⟨o, es, ep, e, d, r⟩ := z
      refine ⟨o, es, ep, old e ((just b).resolve_right fun z => ?_), d, r⟩
      rw [z, ha] at e
      cases e
      cases (show Data.seq vs.toArray _ = Data.dict es ep from d)
    have kb : K.In (hidT s1.heap H) := fun b o e => by
      refine old (kx b o e) ?_
      by_cases q : H b = none
      · exact q
      · have z := hA b q
        subst z
        rw [hK q] at e
        cases e
    obtain ⟨mc, l1, l2⟩ := nl
    have e0 : Env0 P w K mg (hidT s1.heap H) callerA [] s1 H := ⟨rfl, ⟨kb, nsK gn, ⟨mb, nsK bn, bb⟩, ⟨mc, nsK l1, l2⟩⟩, fun b o e => of_hidT e, Nat.le_of_eq (hidT_size _ _), trivial, fun b hb => absurd (show b ∈ ([] : List Addr) from hb) List.not_mem_nil, hok, .of_eq gs⟩
    refine codeAny_mono ((F _).run callerA [] s1 H ⟨[.ref a], []⟩ [.ref a] [.ref a] _ _ hr e0 (hbind s1 (.ref a)) (.cons rfl .nil) (hsp H hO hS)) fun r s' h => ?_
    rcases r with e | fl
    · exact (hCX H e s' h).elim
    · cases fl with
      | next => exact h.elim
      | brk => exact h.elim
      | cont => exact h.elim
      | ret u =>
        obtain ⟨v, H', o1, o2, un, hok', rv, rfl⟩ := h
        obtain rfl : u = Value.bool true := rv
        refine ⟨rfl, OldK.of_keep fun b o e => ?_, o1, o2⟩
        rcases hO b with z | ⟨ob, xs, z⟩
        · exact un.keep b o e z (fun q => absurd (show b ∈ ([] : List Addr) from q) List.not_mem_nil) (by simp)
        · obtain ⟨e1, _⟩ := hok b _ z
          obtain ⟨e2, _⟩ := hok' b _ (un.frzs b ob _ z)
          rw [e] at e1
          cases e1
          exact e2
  have rv := vals_ints hi
  cases hk : K.lookup a with
  | some o =>
    have e := kx a o hk
    rw [ha] at e
    cases e
    refine core (fun _ => none) (fun _ => .inl rfl) (.inr ⟨_, vs.toArray, _, hk, rfl, rfl, rfl, ?_, by simpa using rv⟩) (fun b u z => nomatch (show (none : Option HO) = some u from z)) (fun b z => absurd rfl z) fun z => absurd rfl z
    rw [List.size_toArray, hi.length]; exact hl
  | none =>
    let o0 : Obj := { cls := .type "list", data := .seq vs.toArray }
    let H0 : Hp := fun b => if b = a then some (.frz o0 (.lst (ns.map V.int))) else none
    have h1 : H0 a = some (.frz o0 (.lst (ns.map V.int))) := if_pos rfl
    have h2 : ∀ {b}, b ≠ a → H0 b = none := fun h => if_neg h
    refine core H0 (fun b => ?_) (.inl (.inr ⟨o0, h1⟩)) (fun b u z => ?_) (fun b z => ?_) fun _ => hk
    · by_cases q : b = a
      · subst q; exact .inr ⟨_, _, h1⟩
      · exact .inl (h2 q)
    · by_cases q : b = a
      · subst q; rw [h1] at z; cases z
        exact ⟨ha, by rw [List.length_map]; exact hl, vs, _, rv, ha⟩
      · rw [h2 q] at z; cases z
    · by_cases q : b = a
      · exact q
      · exact absurd (h2 q) z
theorem walk_ofG {l : PySem.W.OpenLaw} {n k : Nat} {q : Program} {loose : List Str} {XP : (Str → Option Value) → Heap → Prop} {YP : World → Heap → Prop} {d : DefRec} {CX : CXT} {x : Str} (hn : l.most = some n) (hn2 : n ≤ sizeLine) (hdf : d.params.defaults = []) (hr : Room k callerA)
    (F : ∀ (w : World) (mg : Str → Option Value) (fa : Addr) (h : Heap), YP w h → h.Ns mainGlobals mg → mg d.name = some (.ref fa) → ∃ (K : PySem.W.Frag) (fd : FuncData) (sp : Sp), K.In h ∧ (∀ (s : Shared) (u : Value), BindsTo s fd ⟨[u], []⟩ [(x, u)]) ∧
        (∀ (H : Hp) (a : Addr) (ns : List Int), ns.length ≤ n → Only H → SqL K H a (ns.map V.int) → sp [.ref a] H (fun v _ => v = .bl true) fun _ _ _ => False) ∧ ∀ base : Heap, FnOk l.prog w K mg base CX k fa fd [x] sp)
    (hCX : ∀ (H : Hp) (s : Shared) (e : Value) (s' : Shared), CX [] H s (fun _ _ _ => False) e s' → False) : PySem.W.WalkO q loose XP YP l.row.toRowW d [] (fun f vs => PySem.call f vs) := by
  refine Att.attach_call hn hdf fun w s0 s1 mg mb fa o pm cd doc a vs ns G Y ho hd hcd hmg hobj hints hlen hg => ?_
  obtain ⟨K, fd, sp, kx, hb, hsp, hF⟩ := F w mg fa _ Y G.T.g hmg
  exact law_callG kx G.T.g G.T.b G.T.builtins G.T.nolimit hg hobj hints (Nat.le_trans hlen hn2) hr hF hb (fun H hO hS => hsp H a ns hlen hO hS) fun H e s' => hCX H s1 e s'
end PL

set_option Elab.async false
set_option linter.all false
set_option maxRecDepth 100000
set_option maxHeartbeats 1000000
namespace PL
open PySem PySem.Spec PyProof.Rows L2
abbrev Ex := PySem.Expr
/-! ### the greatest readings -/
section
variable {X : Cx} {e : Ex} {σ : L2.St} {H : Hp}
def WE (X : Cx) (e : Ex) : TE := fun σ H Q => ∀ pins s, Inv X pins σ H s → wpAny (model X.prog X.w) X.A (eval e X.env) (EP X pins σ Q) X.xe s
theorem we_pe : PE X e (WE X e) := ⟨fun pins s σ H Q I h => h pins s I⟩
theorem pe_we {t : TE} {Q : VK} (h : PE X e t) (q : t σ H Q) : WE X e σ H Q := fun pins s I => h.run pins s σ H Q I q
def WT (X : Cx) (e : Ex) : TT := fun σ H Q => ∀ pins s, Inv X pins σ H s → wpAny (model X.prog X.w) X.A (isTrue e X.env (eval e X.env)) (TP X pins σ Q) X.xe s
theorem wt_pt : PT X e (WT X e) := ⟨fun pins s σ H Q I h => h pins s I⟩
theorem pt_wt {t : TT} {Q : Bool → Hp → Prop} (h : PT X e t) (q : t σ H Q) : WT X e σ H Q := fun pins s I => h.run pins s σ H Q I q
def WW (X : Cx) (e : Ex) : TT := fun σ H Q => ∀ whole pins s, Inv X pins σ H s → wpAny (model X.prog X.w) X.A (isTrue e X.env whole) (TP X pins σ Q) X.xe s
theorem ww_pw : PW X e (WW X e) := ⟨fun wh pins s σ H Q I h => h wh pins s I⟩
theorem pw_ww {t : TT} {Q : Bool → Hp → Prop} (h : PW X e t) (q : t σ H Q) : WW X e σ H Q := fun wh pins s I => h.run wh pins s σ H Q I q
def WA (X : Cx) (es : List Ex) : TA := fun σ H Q => ∀ pos pins s, Inv X pins σ H s → wpAny (model X.prog X.w) X.A (spliced (backTo pos (starEach es X.env))) (AP X pins σ Q) X.xe s
theorem wa_pa {es : List Ex} : PA X es (WA X es) := ⟨fun pos pins s σ H Q I h => h pos pins s I⟩
theorem pa_wa {es : List Ex} {t : TA} {Q : List V → Hp → Prop} (h : PA X es t) (q : t σ H Q) : WA X es σ H Q := fun pos pins s I => h.run pos pins s σ H Q I q
def W1 (X : Cx) (st : Stmt) : TS := fun D σ H => ∀ pins s, Inv X pins σ H s → wpAny (model X.prog X.w) X.A (exec st X.env) (SP X pins D) X.xe s
theorem w1_ps {st : Stmt} : PS X st (W1 X st) := ⟨fun pins s σ H D I h => h pins s I⟩
theorem ps_w1 {st : Stmt} {t : TS} {D : Ends} (h : PS X st t) (q : t D σ H) : W1 X st D σ H := fun pins s I => h.run pins s σ H D I q
def WS (X : Cx) (st : List Stmt) : TS := fun D σ H => ∀ pins s, Inv X pins σ H s → wpAny (model X.prog X.w) X.A (execs st X.env) (SP X pins D) X.xe s
theorem ws_pss {st : List Stmt} : PSs X st (WS X st) := ⟨fun pins s σ H D I h => h pins s I⟩
theorem pss_ws {st : List Stmt} {t : TS} {D : Ends} (h : PSs X st t) (q : t D σ H) : WS X st D σ H := fun pins s I => h.run pins s σ H D I q
end
/-! ### judgements -/
def EX (X : Cx) (Γ : Gm) (e : Ex) (r : Rs) (Γ' : Gm) : Prop := ∀ F σ H S (Q : VK), RS X.K F Γ σ H S →
  (∀ v H' S', RS X.K F Γ' σ H' S' → Same S S' → RsOk X.K F Γ' σ H' S' r v → Q v H') → WE X e σ H Q
def TX (X : Cx) (Γ : Gm) (e : Ex) (b : Bool) (Γ' : Gm) : Prop := ∀ F σ H S (Q : Bool → Hp → Prop), RS X.K F Γ σ H S →
  (∀ H' S', RS X.K F Γ' σ H' S' → Same S S' → Q b H') → WT X e σ H Q
def WX (X : Cx) (Γ : Gm) (e : Ex) (b : Bool) (Γ' : Gm) : Prop := ∀ F σ H S (Q : Bool → Hp → Prop), RS X.K F Γ σ H S →
  (∀ H' S', RS X.K F Γ' σ H' S' → Same S S' → Q b H') → WW X e σ H Q
def AX (X : Cx) (Γ : Gm) (es : List Ex) (ds : List D) (Γ' : Gm) : Prop := ∀ F σ H S (Q : List V → Hp → Prop), RS X.K F Γ σ H S →
  (∀ vs H' S', RS X.K F Γ' σ H' S' → Same S S' → Reps X.K S' ds vs → Q vs H') → WA X es σ H Q
inductive Out where
  | nx (Γ : Gm) | rt (r : Rs) (Γ : Gm) | bk (Γ : Gm) | ct (Γ : Gm)
def OutOk (K : PySem.W.Frag) (F : Fr) (S : Hp) (D : Ends) : Out → Prop
  | .nx Γ => ∀ σ H S', RS K F Γ σ H S' → Same S S' → D.nx σ H
  | .bk Γ => ∀ σ H S', RS K F Γ σ H S' → Same S S' → D.bk σ H
  | .ct Γ => ∀ σ H S', RS K F Γ σ H S' → Same S S' → D.ct σ H
  | .rt r Γ => ∀ v σ H S', RS K F Γ σ H S' → Same S S' → RsOk K F Γ σ H S' r v → D.rt v H
def S1 (X : Cx) (Γ : Gm) (st : Stmt) (o : Out) : Prop := ∀ F σ H S D, RS X.K F Γ σ H S → OutOk X.K F S D o → W1 X st D σ H
def SX (X : Cx) (Γ : Gm) (st : List Stmt) (o : Out) : Prop := ∀ F σ H S D, RS X.K F Γ σ H S → OutOk X.K F S D o → WS X st D σ H
theorem OutOk.mono {K : PySem.W.Frag} {F : Fr} {S S' : Hp} {D : Ends} {o : Out} (e : Same S S') (h : OutOk K F S D o) : OutOk K F S' D o := by
  cases o with
  | nx Γ => exact fun σ H S'' R s => h σ H S'' R (e.trans s)
  | bk Γ => exact fun σ H S'' R s => h σ H S'' R (e.trans s)
  | ct Γ => exact fun σ H S'' R s => h σ H S'' R (e.trans s)
  | rt r Γ => exact fun v σ H S'' R s q => h v σ H S'' R (e.trans s) q
/-- a state may be seen as another -/
def Cv (K : PySem.W.Frag) (Γ Γ' : Gm) : Prop := ∀ F σ H S, RS K F Γ σ H S → ∃ S', Same S S' ∧ RS K F Γ' σ H S'
structure Gd (k : Nat) (X : Cx) : Prop where
  calm : X.calm = true
  nd : X.N.Nodup
  po : PassesOwn (model X.prog X.w) X.A X.env X.xe
  rm : Room k X.A
section
variable {X : Cx} {Γ Γ1 Γ2 Γ3 : Gm} {e a b c : Ex} {pos : Pos} {d d1 d2 : D} {r : Rs}
theorem Cv.refl {K : PySem.W.Frag} : Cv K Γ Γ := fun F σ H S R => ⟨S, .refl _, R⟩
theorem Cv.trans {K : PySem.W.Frag} (h1 : Cv K Γ Γ1) (h2 : Cv K Γ1 Γ2) : Cv K Γ Γ2 := fun F σ H S R => by
  obtain ⟨S1, e1, R1⟩ := h1 F σ H S R
  obtain ⟨S2, e2, R2⟩ := h2 F σ H S1 R1
  exact ⟨S2, e1.trans e2, R2⟩
theorem Wk.cv {K : PySem.W.Frag} (w : Wk Γ Γ1) : Cv K Γ Γ1 := fun F σ H S R => ⟨S, .refl _, R.weak w⟩
theorem e_cv (w : Cv X.K Γ Γ1) (h : EX X Γ1 e r Γ2) : EX X Γ e r Γ2 := fun F σ H S Q R q => by
  obtain ⟨S1, e1, R1⟩ := w F σ H S R
  exact h F σ H S1 Q R1 fun v H' S' R' s ok => q v H' S' R' (e1.trans s) ok
theorem s_cv {st : List Stmt} {o : Out} (w : Cv X.K Γ Γ1) (h : SX X Γ1 st o) : SX X Γ st o := fun F σ H S D R q => by
  obtain ⟨S1, e1, R1⟩ := w F σ H S R
  exact h F σ H S1 D R1 (q.mono e1)
theorem s_wk {st : List Stmt} (h : SX X Γ st (.nx Γ1)) (w : Cv X.K Γ1 Γ2) : SX X Γ st (.nx Γ2) := fun F σ H S D R q =>
  h F σ H S D R fun σ' H' S' R' s => by
    obtain ⟨S2, e2, R2⟩ := w F σ' H' S' R'
    exact q σ' H' S2 R2 (s.trans e2)
theorem s1_wk {st : Stmt} (h : S1 X Γ st (.nx Γ1)) (w : Cv X.K Γ1 Γ2) : S1 X Γ st (.nx Γ2) := fun F σ H S D R q =>
  h F σ H S D R fun σ' H' S' R' s => by
    obtain ⟨S2, e2, R2⟩ := w F σ' H' S' R'
    exact q σ' H' S2 R2 (s.trans e2)
theorem e_wk (h : EX X Γ e (.sh d) Γ1) (w : Cv X.K Γ1 Γ2) : EX X Γ e (.sh d) Γ2 := fun F σ H S Q R q =>
  h F σ H S Q R fun v H' S' R' s ok => by
    obtain ⟨S2, e2, R2⟩ := w F σ H' S' R'
    exact q v H' S2 R2 (s.trans e2) (Rep.mono e2 _ _ ok)
/-- a new object of one's own is shared -/
theorem RS.frz {K : PySem.W.Frag} {F : Fr} {Γ : Gm} {σ : L2.St} {H S : Hp} {o : Ob} {v : V} (R : RS K F Γ σ H S) (h : RsOk K F Γ σ H S (.ow o) v) : ∃ S', Same S S' ∧ RS K F Γ σ H S' ∧ Rep K S' o.d v := by
  obtain ⟨p, rfl, n, n0, ob, no⟩ := h
  obtain ⟨x, hx⟩ := ob.there
  have hs := same_upd (o := x) n
  refine ⟨upd S p x, hs, R.share hs (fun b u e => ?_) (fun b u e z => ?_), ObR.rep (H := H) (fun u q => ?_) (ob.mono hs fun _ z => z)⟩
  · by_cases hb : b = p
    · subst hb; rw [upd_same] at e; cases e; exact hx
    · rw [upd_ne hb] at e; exact R.sh b u e
  · by_cases hb : b = p
    · subst hb; exact ⟨n0, no⟩
    · rw [upd_ne hb] at e; rw [e] at z; cases z
  · rw [upd_same, ← hx, q]
theorem e_frz {o : Ob} (h : EX X Γ e (.ow o) Γ1) : EX X Γ e (.sh o.d) Γ1 := fun F σ H S Q R q =>
  h F σ H S Q R fun v H' S' R' s ok => by
    obtain ⟨S2, e2, R2, rp⟩ := R'.frz ok
    exact q v H' S2 R2 (s.trans e2) rp
/-- a slot's own object is shared from now on -/
theorem cv_frz {K : PySem.W.Frag} {i : Nat} {o : Ob} (h : Γ[i]? = some (.ow o)) : Cv K Γ (Γ.set i (.sh o.d)) := fun F σ H S R => by
  obtain ⟨p, ep, n, n0, ob⟩ := R.sl i _ h
  obtain ⟨x, hx⟩ := ob.there
  have hs := same_upd (o := x) n
  have hi : i < Γ.length := (List.getElem?_eq_some_iff.mp h).1
  have own : OwnAt Γ σ i p := ⟨.inl ⟨o, h⟩, ep⟩
  have ow : ∀ j b, OwnAt (Γ.set i (.sh o.d)) σ j b → j ≠ i ∧ OwnAt Γ σ j b := fun j b ⟨hj, q⟩ => by
    by_cases e : j = i
    · subst e
      rw [List.getElem?_set_self hi] at hj
      rcases hj with ⟨_, z⟩ | ⟨_, _, z⟩ <;> cases z
    · rw [List.getElem?_set_ne (Ne.symm e)] at hj
      exact ⟨e, hj, q⟩
  refine ⟨upd S p x, hs, R.s0.trans hs, fun b u e => ?_, fun b u e n' z => ?_, R.kp, R.th, fun j s e => ?_, fun j k b ne q1 q2 => R.ne j k b ne (ow j b q1).2 (ow k b q2).2, by rw [List.length_set]; exact R.len⟩
  · by_cases hb : b = p
    · subst hb; rw [upd_same] at e; cases e; exact hx
    · rw [upd_ne hb] at e; exact R.sh b u e
  · have hb : b ≠ p := fun hb => by
      subst hb
      rcases n0 with z1 | z1
      · rw [e] at z1; cases z1
      · exact n' z1
    rw [upd_ne hb]
    exact R.new b u e n' z
  · by_cases hj : j = i
    · subst hj
      rw [List.getElem?_set_self hi] at e
      cases e
      exact ⟨_, ep, ObR.rep (H := H) (fun u q => by rw [upd_same, ← hx, q]) (ob.mono hs fun _ z => z)⟩
    · rw [List.getElem?_set_ne (Ne.symm hj)] at e
      have q := R.sl j s e
      have nn : ∀ b, OwnAt Γ σ j b → S b = none → (upd S p x) b = none := fun b w z => by
        rw [upd_ne (fun hb : b = p => R.ne j i b hj w (by rw [hb]; exact own))]
        exact z
      cases s with
      | un => trivial
      | sh d => obtain ⟨v, e1, e2⟩ := q; exact ⟨v, e1, Rep.mono hs _ _ e2⟩
      | ow o' => obtain ⟨b, e1, e2, e3, e4⟩ := q; exact ⟨b, e1, nn b ⟨.inl ⟨o', e⟩, e1⟩ e2, e3, e4.mono hs fun _ z => z⟩
      | pr p' o' => obtain ⟨e1, e2, e3, e4⟩ := q; exact ⟨e1, nn p' ⟨.inr ⟨p', o', e⟩, e1⟩ e2, e3, e4.mono hs fun _ z => z⟩

/-! ### leaves -/
theorem e_of {t : TE} (h : PE X e t) (v : V) (hv : ∀ S, Rep X.K S d v) (ht : ∀ σ H (Q : VK), Q v H → t σ H Q) : EX X Γ e (.sh d) Γ := fun F σ H S Q R q =>
  pe_we h (ht σ H Q (q v H S R (.refl _) (hv S)))
theorem e_int {i : Int} {j} : EX X Γ (.Constant (.int i) j pos) (.sh (.int i)) Γ := e_of pe_int (.int i) (fun _ => rfl) fun _ _ _ q => q
theorem e_str {x : Str} {j} : EX X Γ (.Constant (.str x) j pos) (.sh (.str x)) Γ := e_of pe_str (.str x) (fun _ => rfl) fun _ _ _ q => q
theorem e_bl {x : Bool} {j} : EX X Γ (.Constant (.bool x) j pos) (.sh (.bl x)) Γ := e_of pe_bl (.bl x) (fun _ => rfl) fun _ _ _ q => q
theorem e_non {j} : EX X Γ (.Constant .none j pos) (.sh .non) Γ := e_of pe_non .non (fun _ => rfl) fun _ _ _ q => q
theorem e_glob {x : Str} {v : V} {u : Value} (hm : X.mg x = some u) (r : RelV v u) (hv : ∀ S, Rep X.K S d v) (hg : Gl X x := by rfl) (hd : (x == ("__debug__" : Str)) = false := by decide) : EX X Γ (.Name x pos) (.sh d) Γ :=
  e_of (pe_glob hg hm r hd) v hv fun _ _ _ q => q
theorem e_ty {x : Str} {T : String} (hm : X.mg x = none) (hv : bootBuiltins x = some (.type T)) (hg : Gl X x := by rfl) (hn : x ≠ "__name__" := by decide) (hd : (x == ("__debug__" : Str)) = false := by decide) : EX X Γ (.Name x pos) (.sh (.raw (.ty T))) Γ :=
  e_of (pe_bltn hg hm hv (v := .ty T) rfl hn hd) (.ty T) (fun _ => rfl) fun _ _ _ q => q
theorem e_var (i : Nat) {x : Str} (h : Γ[i]? = some (.sh d) := by rfl) (hN : X.N[i]? = some x := by rfl) (hv : Vis X.env.scope x := by first | exact Or.inl rfl | exact Or.inr (Or.inl rfl) | exact Or.inr (Or.inr rfl)) (hd : (x == ("__debug__" : Str)) = false := by decide)
    (hcd : (x == ("__classdict__" : Str)) = false := by decide) : EX X Γ (.Name x pos) (.sh d) Γ := fun F σ H S Q R q => by
  obtain ⟨v, e, rp⟩ := R.sl i _ h
  exact pe_we (pe_var hN hv hd hcd) ⟨v, e, q v H S R (.refl _) rp⟩
theorem e_varB (i : Nat) {x : Str} {o : Ob} (h : Γ[i]? = some (.ow o) := by rfl) (hN : X.N[i]? = some x := by rfl) (hv : Vis X.env.scope x := by first | exact Or.inl rfl | exact Or.inr (Or.inl rfl) | exact Or.inr (Or.inr rfl)) (hd : (x == ("__debug__" : Str)) = false := by decide)
    (hcd : (x == ("__classdict__" : Str)) = false := by decide) : EX X Γ (.Name x pos) (.br i) Γ := fun F σ H S Q R q => by
  obtain ⟨p, e, _⟩ := R.sl i _ h
  exact pe_we (pe_var hN hv hd hcd) ⟨_, e, q _ H S R (.refl _) ⟨p, rfl, .inl ⟨o, h⟩, e⟩⟩
theorem e_varP (i : Nat) {x : Str} {o : Ob} {p : Addr} (h : Γ[i]? = some (.pr p o) := by rfl) (hN : X.N[i]? = some x := by rfl) (hv : Vis X.env.scope x := by first | exact Or.inl rfl | exact Or.inr (Or.inl rfl) | exact Or.inr (Or.inr rfl)) (hd : (x == ("__debug__" : Str)) = false := by decide)
    (hcd : (x == ("__classdict__" : Str)) = false := by decide) : EX X Γ (.Name x pos) (.br i) Γ := fun F σ H S Q R q => by
  obtain ⟨e, _⟩ := R.sl i _ h
  exact pe_we (pe_var hN hv hd hcd) ⟨_, e, q _ H S R (.refl _) ⟨p, rfl, .inr ⟨p, o, h⟩, e⟩⟩

/-! ### operations on shared data -/
def OpS (X : Cx) (f : Value → Value → Sem Value) (d1 d2 : D) (r : Rs) : Prop := ∃ rr, OpR X f rr ∧ ∀ Γ F σ H S x y (Q : VK), RS X.K F Γ σ H S → Rep X.K S d1 x → Rep X.K S d2 y →
  (∀ v H' S', RS X.K F Γ σ H' S' → Same S S' → RsOk X.K F Γ σ H' S' r v → Q v H') → rr x y H Q
theorem e_bin {op : Operator} (ho : OpS X (binaryOp op) d1 d2 r) (h1 : EX X Γ a (.sh d1) Γ1) (h2 : EX X Γ1 b (.sh d2) Γ2) : EX X Γ (.BinOp a op b pos) r Γ2 := fun F σ H S Q R q => by
  obtain ⟨rr, hr, hq⟩ := ho
  refine pe_we (pe_op hr we_pe we_pe) (h1 F σ H S _ R fun x H1 S1 R1 s1 r1 => h2 F σ H1 S1 _ R1 fun y H2 S2 R2 s2 r2 => hq Γ2 F σ H2 S2 x y Q R2 (Rep.mono s2 _ _ r1) r2 fun v H3 S3 R3 s3 ok => q v H3 S3 R3 ((s1.trans s2).trans s3) ok)
theorem e_cmp {op : CmpOp} (ho : OpS X (compareOp op) d1 d2 r) (h1 : EX X Γ a (.sh d1) Γ1) (h2 : EX X Γ1 b (.sh d2) Γ2) (hm : behindInMarks op b = false := by first | exact nomark _ | rfl) : EX X Γ (.Compare a [op] [b] pos) r Γ2 := fun F σ H S Q R q => by
  obtain ⟨rr, hr, hq⟩ := ho
  refine pe_we (pe_cmpR hr we_pe we_pe hm) (h1 F σ H S _ R fun x H1 S1 R1 s1 r1 => h2 F σ H1 S1 _ R1 fun y H2 S2 R2 s2 r2 => hq Γ2 F σ H2 S2 x y Q R2 (Rep.mono s2 _ _ r1) r2 fun v H3 S3 R3 s3 ok => q v H3 S3 R3 ((s1.trans s2).trans s3) ok)
theorem t_cmp {op : CmpOp} {k : Bool} (ho : OpS X (compareOp op) d1 d2 (.sh (.bl k))) (h1 : EX X Γ a (.sh d1) Γ1) (h2 : EX X Γ1 b (.sh d2) Γ2) (hm : behindInMarks op b = false := by first | exact nomark _ | rfl) : TX X Γ (.Compare a [op] [b] pos) k Γ2 := fun F σ H S Q R q => by
  obtain ⟨rr, hr, hq⟩ := ho
  refine pt_wt (pt_cmpR hr we_pe we_pe hm) (h1 F σ H S _ R fun x H1 S1 R1 s1 r1 => h2 F σ H1 S1 _ R1 fun y H2 S2 R2 s2 r2 => hq Γ2 F σ H2 S2 x y _ R2 (Rep.mono s2 _ _ r1) r2 fun v H3 S3 R3 s3 ok => ⟨k, ok, q H3 S3 R3 ((s1.trans s2).trans s3)⟩)
/-- a chain whose first link fails; holds -/
theorem e_chainF {op op' : CmpOp} {r' : R2} (ho' : OpR X (compareOp op') r') (ho : OpS X (compareOp op) d1 d2 (.sh (.bl false))) (h1 : EX X Γ a (.sh d1) Γ1) (h2 : EX X Γ1 b (.sh d2) Γ2) (hm : lastMarks [op, op'] [b, c] = false := by rfl) : EX X Γ (.Compare a [op, op'] [b, c] pos) (.sh (.bl false)) Γ2 := fun F σ H S Q R q => by
  obtain ⟨rr, hr, hq⟩ := ho
  refine pe_we (pe_chain hr ho' we_pe we_pe we_pe hm) (h1 F σ H S _ R fun x H1 S1 R1 s1 r1 => h2 F σ H1 S1 _ R1 fun y H2 S2 R2 s2 r2 => hq Γ2 F σ H2 S2 x y _ R2 (Rep.mono s2 _ _ r1) r2 fun v H3 S3 R3 s3 ok => ⟨false, ok, iteF (q _ H3 S3 R3 ((s1.trans s2).trans s3) rfl)⟩)
theorem e_chainT {op op' : CmpOp} {d3 : D} (ho : OpS X (compareOp op) d1 d2 (.sh (.bl true))) (ho' : OpS X (compareOp op') d2 d3 r) (h1 : EX X Γ a (.sh d1) Γ1) (h2 : EX X Γ1 b (.sh d2) Γ2) (h3 : EX X Γ2 c (.sh d3) Γ3) (hm : lastMarks [op, op'] [b, c] = false := by rfl) : EX X Γ (.Compare a [op, op'] [b, c] pos) r Γ3 := fun F σ H S Q R q => by
  obtain ⟨rr, hr, hq⟩ := ho
  obtain ⟨rr', hr', hq'⟩ := ho'
  refine pe_we (pe_chain hr hr' we_pe we_pe we_pe hm) (h1 F σ H S _ R fun x H1 S1 R1 s1 r1 => h2 F σ H1 S1 _ R1 fun y H2 S2 R2 s2 r2 => hq Γ2 F σ H2 S2 x y _ R2 (Rep.mono s2 _ _ r1) r2 fun v H3 S3 R3 s3 ok => ⟨true, ok, iteT ?_⟩)
  exact h3 F σ H3 S3 _ R3 fun z H4 S4 R4 s4 r4 => hq' Γ3 F σ H4 S4 y z Q R4 (Rep.mono (s3.trans s4) _ _ r2) r4 fun v H5 S5 R5 s5 ok => q v H5 S5 R5 ((((s1.trans s2).trans s3).trans s4).trans s5) ok
end
end PL

set_option Elab.async false
set_option linter.all false
set_option maxRecDepth 100000
set_option maxHeartbeats 1000000
namespace PL
open PySem PySem.Spec PyProof.Rows L2
section
variable {X : Cx} {Γ Γ1 Γ2 Γ3 : Gm} {e a b c : Ex} {pos : Pos} {d d1 d2 : D} {r : Rs} {rest es : List Ex} {k k' : Bool}
/-! ### tests, and, or, not -/
theorem t_val (h : EX X Γ e (.sh (.bl k)) Γ1) (he : ∀ whole, isTrue e X.env whole = (do let v ← whole; standAt e.pos; holding [v] (truthy v)) := by intro _; rfl) : TX X Γ e k Γ1 := fun F σ H S Q R q =>
  pt_wt (pt_val we_pe he) (h F σ H S _ R fun v H' S' R' s ok => ⟨k, ok, q H' S' R' s⟩)
/-- truth of a list, a text, a number -/
def TruD : D → Bool → Prop
  | .non, k => k = false
  | .bl b, k => k = b
  | .int i, k => k = (i != 0)
  | .str x, k => x.length ≤ sizeLine ∧ k = ((x.length : Int) != 0)
  | .tup ds, k => k = !ds.isEmpty
  | .lst ds, k => k = !ds.isEmpty
  | _, _ => False
theorem isE {K : PySem.W.Frag} {S : Hp} {ds : List D} {vs : List V} (h : Reps K S ds vs) : (!ds.isEmpty) = !vs.isEmpty := by
  have e := h.length
  cases ds <;> cases vs <;> first | rfl | cases e
theorem TruD.v {K : PySem.W.Frag} {S H : Hp} {d : D} {v : V} {k : Bool} (h : TruD d k) (r : Rep K S d v) (s : Same S H) : TruV K v H k := by
  cases d with
  | non => rw [show v = .non from r]; exact h
  | bl b => rw [show v = .bl b from r]; exact h
  | int b => rw [show v = .int b from r]; exact h
  | str b => rw [show v = .str b from r]; exact h
  | tup ds => obtain ⟨p, vs, rfl, h1, h2⟩ := r; exact .inr (.inl ⟨vs, same_sqt s h1, by rw [show k = _ from h, isE h2]⟩)
  | lst ds => obtain ⟨p, vs, rfl, h1, h2⟩ := r; exact .inl ⟨vs, .inl (.inl (s _ _ h1)), by rw [show k = _ from h, isE h2]⟩
  | _ => exact h.elim
theorem t_tru (h : EX X Γ e (.sh d) Γ1) (ht : TruD d k) (he : ∀ whole, isTrue e X.env whole = (do let v ← whole; standAt e.pos; holding [v] (truthy v)) := by intro _; rfl) : TX X Γ e k Γ1 := fun F σ H S Q R q =>
  pt_wt (pt_truth we_pe he) (h F σ H S _ R fun v H' S' R' s ok => ⟨k, ht.v ok R'.sh, q H' S' R' s⟩)
theorem t_not (h : TX X Γ a k Γ1) : TX X Γ (.UnaryOp .Not a pos) (!k) Γ1 := fun F σ H S Q R q => pt_wt (pt_not wt_pt) (h F σ H S _ R q)
theorem t_w (h : WX X Γ e k Γ1) : TX X Γ e k Γ1 := fun F σ H S Q R q => pt_wt (ww_pw.pt) (h F σ H S _ R q)
theorem w_and1 (h : TX X Γ a k Γ1) : WX X Γ (.BoolOp .And [a] pos) k Γ1 := fun F σ H S Q R q => pw_ww (pw_and1 wt_pt) (h F σ H S _ R q)
theorem w_or1 (h : TX X Γ a k Γ1) : WX X Γ (.BoolOp .Or [a] pos) k Γ1 := fun F σ H S Q R q => pw_ww (pw_or1 wt_pt) (h F σ H S _ R q)
theorem w_andT (h : TX X Γ a true Γ1) (h2 : WX X Γ1 (.BoolOp .And (b :: rest) pos) k Γ2) : WX X Γ (.BoolOp .And (a :: b :: rest) pos) k Γ2 := fun F σ H S Q R q =>
  pw_ww (pw_and wt_pt ww_pw) (h F σ H S _ R fun H1 S1 R1 s1 => iteT (h2 F σ H1 S1 _ R1 fun H2 S2 R2 s2 => q H2 S2 R2 (s1.trans s2)))
theorem w_andF (h : TX X Γ a false Γ1) : WX X Γ (.BoolOp .And (a :: b :: rest) pos) false Γ1 := fun F σ H S Q R q =>
  pw_ww (pw_and wt_pt ww_pw) (h F σ H S _ R fun H1 S1 R1 s1 => iteF (q H1 S1 R1 s1))
theorem w_orF (h : TX X Γ a false Γ1) (h2 : WX X Γ1 (.BoolOp .Or (b :: rest) pos) k Γ2) : WX X Γ (.BoolOp .Or (a :: b :: rest) pos) k Γ2 := fun F σ H S Q R q =>
  pw_ww (pw_or wt_pt ww_pw) (h F σ H S _ R fun H1 S1 R1 s1 => iteF (h2 F σ H1 S1 _ R1 fun H2 S2 R2 s2 => q H2 S2 R2 (s1.trans s2)))
theorem w_orT (h : TX X Γ a true Γ1) : WX X Γ (.BoolOp .Or (a :: b :: rest) pos) true Γ1 := fun F σ H S Q R q =>
  pw_ww (pw_or wt_pt ww_pw) (h F σ H S _ R fun H1 S1 R1 s1 => iteT (q H1 S1 R1 s1))
/-- both ways, no effect -/
theorem w_and (h : TX X Γ a k Γ) (h2 : k = true → WX X Γ (.BoolOp .And (b :: rest) pos) k' Γ) : WX X Γ (.BoolOp .And (a :: b :: rest) pos) (k && k') Γ := by
  cases k with
  | true => exact w_andT h (h2 rfl)
  | false => exact w_andF h
theorem w_or (h : TX X Γ a k Γ) (h2 : k = false → WX X Γ (.BoolOp .Or (b :: rest) pos) k' Γ) : WX X Γ (.BoolOp .Or (a :: b :: rest) pos) (k || k') Γ := by
  cases k with
  | true => exact w_orT h
  | false => exact w_orF h (h2 rfl)
theorem e_not (h : EX X Γ a (.sh (.bl k)) Γ1) : EX X Γ (.UnaryOp .Not a pos) (.sh (.bl (!k))) Γ1 := fun F σ H S Q R q =>
  pe_we (pe_not we_pe) (h F σ H S _ R fun v H' S' R' s ok => ⟨k, ok, q _ H' S' R' s rfl⟩)
theorem e_one {op : BoolOp} (h : EX X Γ a r Γ1) : EX X Γ (.BoolOp op [a] pos) r Γ1 := fun F σ H S Q R q => pe_we (pe_one we_pe) (h F σ H S _ R q)
theorem e_andT (h : EX X Γ a (.sh (.bl true)) Γ1) (h2 : EX X Γ1 (.BoolOp .And (b :: rest) pos) r Γ2) : EX X Γ (.BoolOp .And (a :: b :: rest) pos) r Γ2 := fun F σ H S Q R q =>
  pe_we (pe_and we_pe we_pe) (h F σ H S _ R fun v H1 S1 R1 s1 ok => ⟨true, ok, iteT (h2 F σ H1 S1 _ R1 fun v H2 S2 R2 s2 ok => q v H2 S2 R2 (s1.trans s2) ok)⟩)
theorem e_andF (h : EX X Γ a (.sh (.bl false)) Γ1) : EX X Γ (.BoolOp .And (a :: b :: rest) pos) (.sh (.bl false)) Γ1 := fun F σ H S Q R q =>
  pe_we (pe_and we_pe we_pe) (h F σ H S _ R fun v H1 S1 R1 s1 ok => ⟨false, ok, iteF (q _ H1 S1 R1 s1 rfl)⟩)
theorem e_orF (h : EX X Γ a (.sh (.bl false)) Γ1) (h2 : EX X Γ1 (.BoolOp .Or (b :: rest) pos) r Γ2) : EX X Γ (.BoolOp .Or (a :: b :: rest) pos) r Γ2 := fun F σ H S Q R q =>
  pe_we (pe_or we_pe we_pe) (h F σ H S _ R fun v H1 S1 R1 s1 ok => ⟨false, ok, iteF (h2 F σ H1 S1 _ R1 fun v H2 S2 R2 s2 ok => q v H2 S2 R2 (s1.trans s2) ok)⟩)
theorem e_orT (h : EX X Γ a (.sh (.bl true)) Γ1) : EX X Γ (.BoolOp .Or (a :: b :: rest) pos) (.sh (.bl true)) Γ1 := fun F σ H S Q R q =>
  pe_we (pe_or we_pe we_pe) (h F σ H S _ R fun v H1 S1 R1 s1 ok => ⟨true, ok, iteT (q _ H1 S1 R1 s1 rfl)⟩)
theorem e_and (h : EX X Γ a (.sh (.bl k)) Γ) (h2 : k = true → EX X Γ (.BoolOp .And (b :: rest) pos) (.sh (.bl k')) Γ) : EX X Γ (.BoolOp .And (a :: b :: rest) pos) (.sh (.bl (k && k'))) Γ := by
  cases k with
  | true => exact e_andT h (h2 rfl)
  | false => exact e_andF h
theorem e_or (h : EX X Γ a (.sh (.bl k)) Γ) (h2 : k = false → EX X Γ (.BoolOp .Or (b :: rest) pos) (.sh (.bl k')) Γ) : EX X Γ (.BoolOp .Or (a :: b :: rest) pos) (.sh (.bl (k || k'))) Γ := by
  cases k with
  | true => exact e_orT h
  | false => exact e_orF h (h2 rfl)
theorem e_ifT (h : TX X Γ c true Γ1) (h2 : EX X Γ1 a r Γ2) : EX X Γ (.IfExp c a b pos) r Γ2 := fun F σ H S Q R q =>
  pe_we (pe_ifExp wt_pt we_pe we_pe) (h F σ H S _ R fun H1 S1 R1 s1 => iteT (h2 F σ H1 S1 _ R1 fun v H2 S2 R2 s2 ok => q v H2 S2 R2 (s1.trans s2) ok))
theorem e_ifF (h : TX X Γ c false Γ1) (h2 : EX X Γ1 b r Γ2) : EX X Γ (.IfExp c a b pos) r Γ2 := fun F σ H S Q R q =>
  pe_we (pe_ifExp wt_pt we_pe we_pe) (h F σ H S _ R fun H1 S1 R1 s1 => iteF (h2 F σ H1 S1 _ R1 fun v H2 S2 R2 s2 ok => q v H2 S2 R2 (s1.trans s2) ok))
/-! ### arguments, displays -/
theorem a_nil : AX X Γ [] [] Γ := fun F σ H S Q R q => pa_wa pa_nil (q [] H S R (.refl _) rfl)
theorem a_cons {ds : List D} (h : EX X Γ e (.sh d) Γ1) (h2 : AX X Γ1 es ds Γ2) (hs : starEach (e :: es) X.env = (false, eval e X.env) :: starEach es X.env := by rfl) : AX X Γ (e :: es) (d :: ds) Γ2 := fun F σ H S Q R q =>
  pa_wa (pa_cons we_pe wa_pa hs) (h F σ H S _ R fun v H1 S1 R1 s1 ok => h2 F σ H1 S1 _ R1 fun vs H2 S2 R2 s2 ok2 => q _ H2 S2 R2 (s1.trans s2) (.cons (Rep.mono s2 _ _ ok) ok2))
theorem e_tup {ds : List D} {x1} (h : AX X Γ es ds Γ1) (hl : ds.length ≤ sizeLine := by exact Nat.le_of_ble_eq_true rfl) : EX X Γ (.Tuple es x1 pos) (.sh (.tup ds)) Γ1 := fun F σ H S Q R q =>
  pe_we (pe_tup wa_pa) (h F σ H S _ R fun vs H1 S1 R1 s1 ok => ⟨by rw [← ok.length]; exact hl, fun p n => by
    obtain ⟨R2, s2⟩ := R1.laid (o := .tup vs) n
    exact q _ _ _ R2 (s1.trans s2) ⟨p, vs, rfl, .of upd_same, Reps.mono s2 _ _ ok⟩⟩)
theorem e_lst {ds : List D} (h : AX X Γ es ds Γ1) (hl : ds.length ≤ sizeLine := by exact Nat.le_of_ble_eq_true rfl) : EX X Γ (.List es pos) (.ow (.lst ds)) Γ1 := fun F σ H S Q R q =>
  pe_we (pe_lst wa_pa) (h F σ H S _ R fun vs H1 S1 R1 s1 ok => ⟨by rw [← ok.length]; exact hl, fun p n =>
    q _ _ _ (R1.grow (same_upd n)) s1 ⟨p, rfl, R1.sNone n, R1.h0None n, ⟨vs, upd_same, ok⟩, R1.ownNone n⟩⟩)
/-! ### built-in functions and types -/
def CallS (X : Cx) (f : Value) (ds : List D) (r : Rs) : Prop := ∃ rr, CallR X f rr ∧ ∀ Γ F σ H S vs (Q : VK), RS X.K F Γ σ H S → Reps X.K S ds vs →
  (∀ v H' S', RS X.K F Γ σ H' S' → Same S S' → RsOk X.K F Γ σ H' S' r v → Q v H') → rr vs H Q
theorem e_callB {id : String} {x : Str} {p : Pos} {ds : List D} (hc : CallS X (.builtin id) ds r) (hm : X.mg x = none) (hv : bootBuiltins x = some (.builtin id)) (ha : AX X Γ (e :: es) ds Γ1) (hg : Gl X x := by rfl) (hn : x ≠ "__name__" := by decide) (hdb : (x == ("__debug__" : Str)) = false := by decide)
    (he : starEach (e :: es) X.env = (false, eval e X.env) :: starEach es X.env := by rfl) (hpl : (backTo pos (starEach es X.env)).any (·.1) = false := by rfl) : EX X Γ (.Call (.Name x p) (e :: es) [] pos) r Γ1 := fun F σ H S Q R q => by
  obtain ⟨rr, hr, hq⟩ := hc
  exact pe_we (pe_callB hr hg hm hv wa_pa hn hdb he hpl) (ha F σ H S _ R fun vs H1 S1 R1 s1 ok => hq Γ1 F σ H1 S1 vs Q R1 ok fun v H2 S2 R2 s2 ok2 => q v H2 S2 R2 (s1.trans s2) ok2)
theorem e_callTy {T : String} {x : Str} {p : Pos} {ds : List D} (hc : CallS X (.type T) ds r) (hm : X.mg x = none) (hv : bootBuiltins x = some (.type T)) (ha : AX X Γ (e :: es) ds Γ1) (hg : Gl X x := by rfl) (hn : x ≠ "__name__" := by decide) (hdb : (x == ("__debug__" : Str)) = false := by decide)
    (he : starEach (e :: es) X.env = (false, eval e X.env) :: starEach es X.env := by rfl) (hpl : (backTo pos (starEach es X.env)).any (·.1) = false := by rfl) : EX X Γ (.Call (.Name x p) (e :: es) [] pos) r Γ1 := fun F σ H S Q R q => by
  obtain ⟨rr, hr, hq⟩ := hc
  exact pe_we (pe_callTy hr hg hm hv wa_pa hn hdb he hpl) (ha F σ H S _ R fun vs H1 S1 R1 s1 ok => hq Γ1 F σ H1 S1 vs Q R1 ok fun v H2 S2 R2 s2 ok2 => q v H2 S2 R2 (s1.trans s2) ok2)
/-! ### subscripts, slices -/
def IxS (X : Cx) (d1 d2 : D) (r : Rs) : Prop := ∃ rr, IxR X rr ∧ ∀ Γ F σ H S x y (Q : VK), RS X.K F Γ σ H S → Rep X.K S d1 x → Rep X.K S d2 y →
  (∀ v H' S', RS X.K F Γ σ H' S' → Same S S' → RsOk X.K F Γ σ H' S' r v → Q v H') → rr x y H Q
theorem e_ix (h1 : EX X Γ a (.sh d1) Γ1) (h2 : EX X Γ1 b (.sh d2) Γ2) (ho : IxS X d1 d2 r) (hs : PlainIx b := by exact fun _ _ => rfl) : EX X Γ (.Subscript a b pos) r Γ2 := fun F σ H S Q R q => by
  obtain ⟨rr, hr, hq⟩ := ho
  exact pe_we (pe_ix hr we_pe we_pe hs) (h1 F σ H S _ R fun x H1 S1 R1 s1 r1 => h2 F σ H1 S1 _ R1 fun y H2 S2 R2 s2 r2 => hq Γ2 F σ H2 S2 x y Q R2 (Rep.mono s2 _ _ r1) r2 fun v H3 S3 R3 s3 ok => q v H3 S3 R3 ((s1.trans s2).trans s3) ok)
def WP (X : Cx) (e : Option Ex) : TO := fun σ H Q => ∀ pins s, Inv X pins σ H s → wpAny (model X.prog X.w) X.A (evalPart e X.env) (fun u s' => ∃ o H', Inv X pins σ H' s' ∧ IsPart u o ∧ Q o H') X.xe s
theorem wp_po {e : Option Ex} : PO X e (WP X e) := ⟨fun pins s σ H Q I h => h pins s I⟩
theorem po_wp {e : Option Ex} {t : TO} {σ : L2.St} {H : Hp} {Q : Option Int → Hp → Prop} (h : PO X e t) (q : t σ H Q) : WP X e σ H Q := fun pins s I => h.run pins s σ H Q I q
def PX (X : Cx) (Γ : Gm) (e : Option Ex) (i : Option Int) (Γ' : Gm) : Prop := ∀ F σ H S (Q : Option Int → Hp → Prop), RS X.K F Γ σ H S →
  (∀ H' S', RS X.K F Γ' σ H' S' → Same S S' → Q i H') → WP X e σ H Q
theorem p_none : PX X Γ none none Γ := fun F σ H S Q R q => po_wp po_none (q H S R (.refl _))
theorem p_some {n : Int} (h : EX X Γ e (.sh (.int n)) Γ1) : PX X Γ (some e) (some n) Γ1 := fun F σ H S Q R q =>
  po_wp (po_some we_pe) (h F σ H S _ R fun v H' S' R' s ok => ⟨n, ok, q H' S' R' s⟩)
def SlS (X : Cx) (d : D) (lo hi : Option Int) (r : Rs) : Prop := ∃ rr, SlR X rr ∧ ∀ Γ F σ H S x (Q : VK), RS X.K F Γ σ H S → Rep X.K S d x →
  (∀ v H' S', RS X.K F Γ σ H' S' → Same S S' → RsOk X.K F Γ σ H' S' r v → Q v H') → rr x lo hi H Q
theorem e_slice {lo hi : Option Ex} {i j : Option Int} {p2 : Pos} (ho : SlS X d i j r) (h1 : EX X Γ a (.sh d) Γ1) (hl : PX X Γ1 lo i Γ2) (hh : PX X Γ2 hi j Γ3) : EX X Γ (.Subscript a (.Slice lo hi none p2) pos) r Γ3 := fun F σ H S Q R q => by
  obtain ⟨rr, hr, hq⟩ := ho
  exact pe_we (pe_slice hr we_pe wp_po wp_po) (h1 F σ H S _ R fun x H1 S1 R1 s1 r1 => hl F σ H1 S1 _ R1 fun H2 S2 R2 s2 => hh F σ H2 S2 _ R2 fun H3 S3 R3 s3 => hq Γ3 F σ H3 S3 x Q R3 (Rep.mono (s2.trans s3) _ _ r1) fun v H4 S4 R4 s4 ok => q v H4 S4 R4 (((s1.trans s2).trans s3).trans s4) ok)
/-! ### fields of shared objects -/
theorem zip_lookup {K : PySem.W.Frag} {S : Hp} {f : Str} : ∀ {ns : List Str} {ds : List D} {vs : List V}, Reps K S ds vs → (ns.zip ds).lookup f = some d → ∃ v, (ns.zip vs).lookup f = some v ∧ Rep K S d v
  | [], _, _, _, e => by cases e
  | n :: ns, [], _, _, e => by cases e
  | n :: ns, d' :: ds, _, ⟨v, r, rfl, h2, h3⟩, e => by
    rw [List.zip_cons_cons, List.lookup_cons] at e ⊢
    by_cases h : f == n
    · rw [h] at e ⊢
      cases e
      exact ⟨v, rfl, h2⟩
    · rw [Bool.eq_false_iff.mpr h] at e ⊢
      exact zip_lookup h3 e
theorem e_fld {C : Addr} {ns : List Str} {ds : List D} {f : Str} (hc : Cls X.K C) (hn : NoAttr X.K C f) (h : EX X Γ a (.sh (.obj C ns ds)) Γ1) (hl : (ns.zip ds).lookup f = some d) (hb : attributeBase a f X.env (eval a X.env) = eval a X.env := by rfl) : EX X Γ (.Attribute a f pos) (.sh d) Γ1 := fun F σ H S Q R q =>
  pe_we (pe_fld we_pe hb) (h F σ H S _ R fun v H' S' R' s ok => by
    obtain ⟨p, dx, vs, rfl, h1, h2, h3⟩ := ok
    obtain ⟨w, e1, e2⟩ := zip_lookup h3 hl
    exact ⟨p, C, dx, _, w, rfl, R'.sh _ _ h1, hc, hn, e1, q w H' S' R' s e2⟩)
/-! ### read-only: all that is owned is seen as shared -/
def Sl.ro : Sl → Sl
  | .ow o => .sh o.d
  | .pr _ o => .sh o.d
  | s => s
def ro (Γ : Gm) : Gm := Γ.map Sl.ro
theorem RS.ro {K : PySem.W.Frag} {F : Fr} {σ : L2.St} {H S : Hp} (R : RS K F Γ σ H S) : RS K ⟨H, H, fun _ => False⟩ (ro Γ) σ H H := by
  refine ⟨.refl _, .refl _, fun b o e _ z => ?_, fun b o _ e => e, fun b o e => ⟨o, e⟩, fun j s e => ?_, fun i j a n x y => ?_, by unfold PL.ro; rw [List.length_map]; exact R.len⟩
  · exact z
  · unfold PL.ro at e
    rw [List.getElem?_map] at e
    cases q : Γ[j]? with
    | none => rw [q] at e; cases e
    | some t =>
      rw [q] at e
      have e2 : t.ro = s := Option.some.inj e
      subst e2
      have w := R.sl j t q
      cases t with
      | un => trivial
      | sh d => obtain ⟨v, e1, e2⟩ := w; exact ⟨v, e1, Rep.mono R.sh _ _ e2⟩
      | ow o => obtain ⟨b, e1, _, _, e4⟩ := w; exact ⟨_, e1, ObR.rep (H := H) (fun _ z => z) (e4.mono R.sh fun _ z => z)⟩
      | pr p o => obtain ⟨e1, _, _, e4⟩ := w; exact ⟨_, e1, ObR.rep (H := H) (fun _ z => z) (e4.mono R.sh fun _ z => z)⟩
  · obtain ⟨hx, _⟩ := x
    unfold PL.ro at hx
    rw [List.getElem?_map] at hx
    cases q : Γ[i]? with
    | none => rw [q] at hx; rcases hx with ⟨_, z⟩ | ⟨_, _, z⟩ <;> cases z
    | some t =>
      rw [q] at hx
      cases t <;> rcases hx with ⟨_, z⟩ | ⟨_, _, z⟩ <;> cases z
theorem e_ro {Γ' : Gm} (h : EX X (ro Γ) e (.sh d) Γ') (hs : Scal d) : EX X Γ e (.sh d) Γ := fun F σ H S Q R q =>
  h _ σ H H Q R.ro fun v H' S' R' s ok => q v H' S (R.grow fun b o e => R'.kp b o (fun z => z) e) (.refl _) (Rep.scal hs ok)
theorem t_ro {Γ' : Gm} (h : TX X (ro Γ) e k Γ') : TX X Γ e k Γ := fun F σ H S Q R q =>
  h _ σ H H Q R.ro fun H' S' R' s => q H' S (R.grow fun b o e => R'.kp b o (fun z => z) e) (.refl _)
end
end PL

set_option Elab.async false
set_option linter.all false
set_option maxRecDepth 100000
set_option maxHeartbeats 1000000
namespace PL
open PySem PySem.Spec PyProof.Rows L2
section
variable {X : Cx} {Γ Γ1 Γ2 Γ3 : Gm} {e a b c : Ex} {pos : Pos} {d d1 d2 : D} {r : Rs} {es : List Ex} {k : Bool} {st : Stmt} {rest A B : List Stmt} {o : Out}
/-! ### storing into a slot -/
/-- what a slot holds behind x = (an expression that ends so) -/
def Rs.sl : Rs → Sl
  | .sh d => .sh d
  | .ow o => .ow o
  | .br _ => .un
def Free (Γ : Gm) (i : Nat) : Prop := ∀ p o, Γ[i]? ≠ some (.pr p o)
theorem RS.put {K : PySem.W.Frag} {F : Fr} {σ : L2.St} {H S : Hp} {i : Nat} {v : V} (R : RS K F Γ σ H S) (hi : i < Γ.length) (ok : RsOk K F Γ σ H S r v) (nb : ∀ j, r ≠ .br j) : RS K F (Γ.set i r.sl) (σ.set i (some v)) H S := by
  have hiσ : i < σ.length := by rw [← R.len]; exact hi
  have ow : ∀ j b, j ≠ i → OwnAt (Γ.set i r.sl) (σ.set i (some v)) j b → OwnAt Γ σ j b := fun j b hj ⟨h, q⟩ => by
    rw [List.getElem?_set_ne (Ne.symm hj)] at h
    rw [List.getElem?_set_ne (Ne.symm hj)] at q
    exact ⟨h, q⟩
  have own : ∀ b, OwnAt (Γ.set i r.sl) (σ.set i (some v)) i b → ¬ Own Γ σ b := fun b ⟨h, q⟩ => by
    rw [List.getElem?_set_self hi] at h
    rw [List.getElem?_set_self hiσ] at q
    cases r with
    | sh d => rcases h with ⟨_, z⟩ | ⟨_, _, z⟩ <;> cases z
    | br j => exact (nb j rfl).elim
    | ow o' =>
      obtain ⟨p, rfl, _, _, _, no⟩ := ok
      cases q
      exact no
  refine ⟨R.s0, R.sh, R.new, R.kp, R.th, fun j s e => ?_, fun j l b ne h1 h2 => ?_, by rw [List.length_set, List.length_set]; exact R.len⟩
  · by_cases hj : j = i
    · subst hj
      rw [List.getElem?_set_self hi] at e
      rw [List.getElem?_set_self hiσ]
      cases e
      cases r with
      | sh d => exact ⟨v, rfl, ok⟩
      | br j => trivial
      | ow o' =>
        obtain ⟨p, rfl, n1, n2, ob, _⟩ := ok
        exact ⟨p, rfl, n1, .inl n2, ob⟩
    · rw [List.getElem?_set_ne (Ne.symm hj)] at e
      rw [List.getElem?_set_ne (Ne.symm hj)]
      exact R.sl j s e
  · by_cases hj : j = i
    · subst hj
      exact own b h1 ⟨l, ow l b (Ne.symm ne) h2⟩
    · by_cases hl : l = i
      · subst hl
        exact own b h2 ⟨j, ow j b hj h1⟩
      · exact R.ne j l b ne (ow j b hj h1) (ow l b hl h2)
/-! ### blocks -/
theorem s_nil : SX X Γ [] (.nx Γ) := fun F σ H S D R q => pss_ws pss_nil (q σ H S R (.refl _))
theorem s_cons (h : S1 X Γ st (.nx Γ1)) (h2 : SX X Γ1 rest o) : SX X Γ (st :: rest) o := fun F σ H S D R q =>
  pss_ws (pss_cons w1_ps ws_pss) (h F σ H S _ R fun σ1 H1 S1 R1 s1 => h2 F σ1 H1 S1 D R1 (q.mono s1))
def Out.leaves : Out → Bool
  | .nx _ => false
  | _ => true
theorem OutOk.nx {K : PySem.W.Frag} {F : Fr} {S : Hp} {D : Ends} {n : L2.St → Hp → Prop} (h : OutOk K F S D o) (ho : o.leaves = true) : OutOk K F S { D with nx := n } o := by
  cases o with
  | nx Γ => cases ho
  | bk Γ => exact h
  | ct Γ => exact h
  | rt r Γ => exact h
theorem s_end (h : S1 X Γ st o) (ho : o.leaves = true := by rfl) : SX X Γ (st :: rest) o := fun F σ H S D R q =>
  pss_ws (pss_cons w1_ps ws_pss) (h F σ H S _ R (q.nx ho))
theorem s_one (h : S1 X Γ st o) : SX X Γ [st] o := fun F σ H S D R q => pss_ws (pss_one w1_ps) (h F σ H S _ R q)
theorem s1_ifT (h : TX X Γ c true Γ1) (h2 : SX X Γ1 A o) : S1 X Γ (.If c A B pos) o := fun F σ H S D R q =>
  ps_w1 (ps_if wt_pt ws_pss ws_pss) (h F σ H S _ R fun H1 S1 R1 s1 => iteT (h2 F σ H1 S1 D R1 (q.mono s1)))
theorem s1_ifF (h : TX X Γ c false Γ1) (h2 : SX X Γ1 B o) : S1 X Γ (.If c A B pos) o := fun F σ H S D R q =>
  ps_w1 (ps_if wt_pt ws_pss ws_pss) (h F σ H S _ R fun H1 S1 R1 s1 => iteF (h2 F σ H1 S1 D R1 (q.mono s1)))
theorem s_ifT (h : TX X Γ c true Γ1) (h2 : SX X Γ1 A (.nx Γ2)) (h3 : SX X Γ2 rest o) : SX X Γ (.If c A B pos :: rest) o := s_cons (s1_ifT h h2) h3
theorem s_ifTE (h : TX X Γ c true Γ1) (h2 : SX X Γ1 A o) (ho : o.leaves = true := by rfl) : SX X Γ (.If c A B pos :: rest) o := s_end (s1_ifT h h2) ho
theorem s_ifF (h : TX X Γ c false Γ1) (h2 : SX X Γ1 B (.nx Γ2)) (h3 : SX X Γ2 rest o) : SX X Γ (.If c A B pos :: rest) o := s_cons (s1_ifF h h2) h3
theorem s_ifFE (h : TX X Γ c false Γ1) (h2 : SX X Γ1 B o) (ho : o.leaves = true := by rfl) : SX X Γ (.If c A B pos :: rest) o := s_end (s1_ifF h h2) ho
theorem s_ifN (h : TX X Γ c false Γ1) (h3 : SX X Γ1 rest o) : SX X Γ (.If c A [] pos :: rest) o := s_cons (s1_ifF h s_nil) h3
theorem s1_pass : S1 X Γ (.Pass pos) (.nx Γ) := fun F σ H S D R q => ps_w1 ps_pass (q σ H S R (.refl _))
theorem s1_break : S1 X Γ (.Break pos) (.bk Γ) := fun F σ H S D R q => ps_w1 ps_break (q σ H S R (.refl _))
theorem s1_cont : S1 X Γ (.Continue pos) (.ct Γ) := fun F σ H S D R q => ps_w1 ps_continue (q σ H S R (.refl _))
theorem s1_expr (h : EX X Γ e r Γ1) (hs : swapsWith e none pos.line X.env = pure false := by rfl) : S1 X Γ (.Expr e pos) (.nx Γ1) := fun F σ H S D R q =>
  ps_w1 (ps_expr we_pe hs) (h F σ H S _ R fun v H1 S1 R1 s1 _ => q σ H1 S1 R1 s1)
theorem s1_ret (h : EX X Γ e r Γ1) : S1 X Γ (.Return (some e) pos) (.rt r Γ1) := fun F σ H S D R q =>
  ps_w1 (ps_ret we_pe) (h F σ H S _ R fun v H1 S1 R1 s1 ok => q v σ H1 S1 R1 s1 ok)
theorem s1_retN : S1 X Γ (.Return none pos) (.rt (.sh .non) Γ) := fun F σ H S D R q => ps_w1 ps_retN (q .non σ H S R (.refl _) rfl)
/-- the object that a local slot owns is handed out -/
theorem s1_retO (i : Nat) {x : Str} {ob : Ob} (h : Γ[i]? = some (.ow ob)) (hN : X.N[i]? = some x := by rfl) (hv : Vis X.env.scope x := by first | exact Or.inl rfl | exact Or.inr (Or.inl rfl) | exact Or.inr (Or.inr rfl)) (hd : (x == ("__debug__" : Str)) = false := by decide)
    (hcd : (x == ("__classdict__" : Str)) = false := by decide) {p : Pos} : S1 X Γ (.Return (some (.Name x p)) pos) (.rt (.sh ob.d) (Γ.set i (.sh ob.d))) := fun F σ H S D R q =>
  (show S1 X Γ (.Return (some (.Name x p)) pos) (.rt (.sh ob.d) (Γ.set i (.sh ob.d))) from s1_ret (e_cv (cv_frz h) (e_var i (by rw [List.getElem?_set_self (List.getElem?_eq_some_iff.mp h).1]) hN hv hd hcd))) F σ H S D R q
theorem s1_set (i : Nat) {x : Str} {pos' : Pos} (g : X.N.Nodup) (h : EX X Γ e r Γ1) (hl : i < Γ1.length := by exact Nat.le_of_ble_eq_true rfl) (nb : ∀ j, r ≠ .br j := by intro _ z; cases z) (hi : X.N[i]? = some x := by rfl) (hx : Loc X.env.scope x := by first | exact Or.inl rfl | exact Or.inr rfl)
    (hs : swapsWith e (some (.Name x pos')) pos.line X.env = pure false := by rfl) (hf : X.fn x = true ∨ X.env.scope.names.lookup x = some .local := by first | exact .inl rfl | exact .inr rfl | assumption) : S1 X Γ (.Assign [.Name x pos'] e pos) (.nx (Γ1.set i r.sl)) := fun F σ H S D R q =>
  ps_w1 (ps_set g hi hx we_pe hs hf) (h F σ H S _ R fun v H1 S1 R1 s1 ok => q _ H1 S1 (R1.put hl ok nb) s1)
/-- a target takes shared data -/
def WG (X : Cx) (tg : Ex) : TG := fun v σ H Q => ∀ pins s u, Inv X pins σ H s → RelV v u → wpAny (model X.prog X.w) X.A (assign tg X.env u) (fun _ s' => ∃ σ' H', Inv X pins σ' H' s' ∧ Q σ' H') X.xe s
theorem wg_pg {tg : Ex} : PG X tg (WG X tg) := ⟨fun pins s σ H v u Q I r h => h pins s u I r⟩
theorem pg_wg {tg : Ex} {g : TG} {v : V} {σ : L2.St} {H : Hp} {Q : L2.St → Hp → Prop} (h : PG X tg g) (q : g v σ H Q) : WG X tg v σ H Q := fun pins s u I r => h.run pins s σ H v u Q I r q
def WGs (X : Cx) (tgs : List Ex) : TGs := fun vs σ H Q => ∀ pins s us, Inv X pins σ H s → Vals vs us → wpAny (model X.prog X.w) X.A (assignInOrder ((assignEach tgs X.env).map (·.2)) us) (fun _ s' => ∃ σ' H', Inv X pins σ' H' s' ∧ Q σ' H') X.xe s
theorem wgs_pgs {tgs : List Ex} : PGs X tgs (WGs X tgs) := ⟨fun pins s σ H vs us Q I r h => h pins s us I r⟩
theorem pgs_wgs {tgs : List Ex} {g : TGs} {vs : List V} {σ : L2.St} {H : Hp} {Q : L2.St → Hp → Prop} (h : PGs X tgs g) (q : g vs σ H Q) : WGs X tgs vs σ H Q := fun pins s us I r => h.run pins s σ H vs us Q I r q
def GX (X : Cx) (tg : Ex) (Γ : Gm) (d : D) (Γ' : Gm) : Prop := ∀ F σ H S v (Q : L2.St → Hp → Prop), RS X.K F Γ σ H S → Rep X.K S d v → (∀ σ' H' S', RS X.K F Γ' σ' H' S' → Same S S' → Q σ' H') → WG X tg v σ H Q
theorem g_name (i : Nat) {x : Str} (g : X.N.Nodup) (hl : i < Γ.length := by exact Nat.le_of_ble_eq_true rfl) (hi : X.N[i]? = some x := by rfl) (hx : Loc X.env.scope x := by first | exact Or.inl rfl | exact Or.inr rfl)
    (hf : X.fn x = true ∨ X.env.scope.names.lookup x = some .local := by first | exact .inl rfl | exact .inr rfl | assumption) : GX X (.Name x pos) Γ d (Γ.set i (.sh d)) :=
  fun F σ H S v Q R ok q => pg_wg (pg_name g hi hx hf) (q _ H S (R.put (r := .sh d) hl ok (fun _ z => by cases z)) (.refl _))
def GsX (X : Cx) (tgs : List Ex) (Γ : Gm) (ds : List D) (Γ' : Gm) : Prop := ∀ F σ H S vs (Q : L2.St → Hp → Prop), RS X.K F Γ σ H S → Reps X.K S ds vs → (∀ σ' H' S', RS X.K F Γ' σ' H' S' → Same S S' → Q σ' H') → WGs X tgs vs σ H Q
theorem gs_nil : GsX X [] Γ [] Γ := fun F σ H S vs Q R ok q => pgs_wgs pgs_nil ⟨ok, q σ H S R (.refl _)⟩
end
end PL

set_option Elab.async false
set_option linter.all false
set_option maxRecDepth 100000
set_option maxHeartbeats 1000000
namespace PL
open PySem PySem.Spec PyProof.Rows L2
section
variable {X : Cx} {Γ Γ1 Γ2 Γ3 : Gm} {e a b c : Ex} {pos : Pos} {d d1 d2 : D} {r : Rs} {es : List Ex} {k : Bool} {st : Stmt} {rest A B : List Stmt} {o : Out}
theorem gs_cons {tg : Ex} {tgs : List Ex} {ds : List D} (h : GX X tg Γ d Γ1) (h2 : GsX X tgs Γ1 ds Γ2) (hs : (assignEach (tg :: tgs) X.env).map (·.2) = assign tg X.env :: (assignEach tgs X.env).map (·.2) := by rfl) : GsX X (tg :: tgs) Γ (d :: ds) Γ2 := fun F σ H S vs Q R ok k => by
  obtain ⟨v, r, rfl, o1, o2⟩ := ok
  exact pgs_wgs (pgs_cons wg_pg wgs_pgs hs) ⟨v, r, rfl, h F σ H S v _ R o1 fun σ1 H1 S1 R1 s1 => h2 F σ1 H1 S1 r Q R1 (Reps.mono s1 _ _ o2) fun σ2 H2 S2 R2 s2 => k σ2 H2 S2 R2 (s1.trans s2)⟩
theorem g_tup {tgs : List Ex} {ds : List D} {kk : Nat} (hc : X.calm = true) (h : GsX X tgs Γ ds Γ1) (hn : (assignEach tgs X.env).length = ds.length := by rfl) (hst : (assignEach tgs X.env).findIdx? (·.1) = none := by rfl) : GX X (.Tuple tgs kk pos) Γ (.tup ds) Γ1 := fun F σ H S v Q R ok k => by
  obtain ⟨p, vs, rfl, h1, h2⟩ := ok
  exact pg_wg (pg_tup hc wgs_pgs hn hst) ⟨p, vs, rfl, same_sqt R.sh h1, h2.length.symm, h F σ H S vs Q R h2 k⟩
theorem s1_asg {tg : Ex} (hg : GX X tg Γ1 d Γ2) (h : EX X Γ e (.sh d) Γ1) (hs : swapsWithSole [tg] e pos.line X.env = pure false := by rfl) (hw : swappedStores [tg] e X.env = pure none := by rfl)
    (h1 : (assignEach [tg] X.env).map (·.2) = [assign tg X.env] := by rfl) : S1 X Γ (.Assign [tg] e pos) (.nx Γ2) := fun F σ H S D R q =>
  ps_w1 (ps_asg we_pe wg_pg hs hw h1) (h F σ H S _ R fun v H1 S1 R1 s1 ok => hg F σ H1 S1 v _ R1 ok fun σ2 H2 S2 R2 s2 => q σ2 H2 S2 R2 (s1.trans s2))
/-- a, b = x, y: two local names -/
theorem s1_par (i j : Nat) {x y : Str} {px py pt : Pos} {kt k2 pt2} (g : Gd k' X) (h : AX X Γ [a, b] [d1, d2] Γ1) (hl : i < Γ1.length := by exact Nat.le_of_ble_eq_true rfl) (hl2 : j < Γ1.length := by exact Nat.le_of_ble_eq_true rfl) (hij : i ≠ j := by decide) (hi : X.N[i]? = some x := by rfl) (hj : X.N[j]? = some y := by rfl)
    (hx : X.env.scope.names.lookup x = some .local := by rfl) (hy : X.env.scope.names.lookup y = some .local := by rfl)
    (hw : swappedStores [.Tuple [.Name x px, .Name y py] kt pt] (.Tuple [a, b] k2 pt2) X.env = pure (some [x, y]) := by rfl) (hs : swapsWithSole [.Tuple [.Name x px, .Name y py] kt pt] (.Tuple [a, b] k2 pt2) pos.line X.env = pure false := by rfl) :
    S1 X Γ (.Assign [.Tuple [.Name x px, .Name y py] kt pt] (.Tuple [a, b] k2 pt2) pos) (.nx ((Γ1.set i (.sh d1)).set j (.sh d2))) := fun F σ H S D R q =>
  ps_w1 (ps_par g.calm g.nd hi hj hij hx hy wa_pa hw hs) (h F σ H S _ R fun vs H1 S1 R1 s1 ok => by
    obtain ⟨v, r, rfl, o1, w, r2, rfl, o2, o3⟩ := ok
    obtain rfl : r2 = [] := o3
    have R2 := R1.put (r := .sh d1) hl o1 (fun _ z => by cases z)
    have R3 := R2.put (r := .sh d2) (i := j) (by rw [List.length_set]; exact hl2) o2 (fun _ z => by cases z)
    exact ⟨v, w, rfl, q _ H1 S1 R3 s1⟩)
/-! ### objects of one's own are changed -/
def Sl.re : Sl → Ob → Sl
  | .pr p _, o => .pr p o
  | _, o => .ow o
theorem RS.chg {K : PySem.W.Frag} {F : Fr} {σ : L2.St} {H S : Hp} {i : Nat} {p : Addr} {s : Sl} {x : HO} {o' : Ob} (R : RS K F Γ σ H S) (own : OwnAt Γ σ i p) (hs : Γ[i]? = some s) (ob : ObR K S (upd H p x) p o') : RS K F (Γ.set i (s.re o')) σ (upd H p x) S := by
  obtain ⟨n, n0, o, ob0⟩ := R.own own
  have hi : i < Γ.length := (List.getElem?_eq_some_iff.mp hs).1
  have ow : ∀ j b, OwnAt (Γ.set i (s.re o')) σ j b → OwnAt Γ σ j b := fun j b ⟨h, q⟩ => by
    by_cases hj : j = i
    · subst hj
      exact ⟨own.1, q⟩
    · rw [List.getElem?_set_ne (Ne.symm hj)] at h
      exact ⟨h, q⟩
  refine ⟨R.s0, fun b u e => ?_, R.new, fun b u nb e => ?_, fun b u e => ?_, fun j t e => ?_, fun j l b ne h1 h2 => R.ne j l b ne (ow j b h1) (ow l b h2), by rw [List.length_set]; exact R.len⟩
  · rw [upd_ne (fun hb : b = p => by rw [hb, n] at e; cases e)]
    exact R.sh b u e
  · rw [upd_ne (fun hb : b = p => by
      rw [hb] at e nb
      rcases n0 with z | z
      · rw [e] at z; cases z
      · exact nb z)]
    exact R.kp b u nb e
  · by_cases hb : b = p
    · subst hb; exact ⟨x, upd_same⟩
    · rw [upd_ne hb]; exact R.th b u e
  · by_cases hj : j = i
    · subst hj
      rw [List.getElem?_set_self hi] at e
      cases e
      obtain ⟨hk, q⟩ := own
      rw [hs] at hk
      rcases hk with ⟨o2, z⟩ | ⟨p2, o2, z⟩
      · cases z; exact ⟨p, q, n, n0, ob⟩
      · cases z
        have w := R.sl j _ hs
        obtain ⟨w1, _⟩ := w
        rw [q] at w1; cases w1
        exact ⟨q, n, n0, ob⟩
    · rw [List.getElem?_set_ne (Ne.symm hj)] at e
      have w := R.sl j t e
      have kept : ∀ b, OwnAt Γ σ j b → ∀ u, H b = some u → (upd H p x) b = some u := fun b ob u z => by
        rw [upd_ne (fun hb : b = p => R.ne j i b hj ob (by rw [hb]; exact own))]
        exact z
      cases t with
      | un => trivial
      | sh d => exact w
      | ow o2 => obtain ⟨b, e1, e2, e3, e4⟩ := w; exact ⟨b, e1, e2, e3, e4.mono (.refl _) (kept b ⟨.inl ⟨o2, e⟩, e1⟩)⟩
      | pr p2 o2 => obtain ⟨e1, e2, e3, e4⟩ := w; exact ⟨e1, e2, e3, e4.mono (.refl _) (kept p2 ⟨.inr ⟨p2, o2, e⟩, e1⟩)⟩
/-- slot i owns o -/
def Has (Γ : Gm) (i : Nat) (s : Sl) (o : Ob) : Prop := Γ[i]? = some s ∧ (s = .ow o ∨ ∃ p, s = .pr p o)
theorem RS.has {K : PySem.W.Frag} {F : Fr} {σ : L2.St} {H S : Hp} {i : Nat} {s : Sl} {o : Ob} (R : RS K F Γ σ H S) (h : Has Γ i s o) : ∃ p, OwnAt Γ σ i p ∧ ObR K S H p o := by
  obtain ⟨e, rfl | ⟨p, rfl⟩⟩ := h
  · obtain ⟨p, q, _, _, ob⟩ := R.sl i _ e
    exact ⟨p, ⟨.inl ⟨o, e⟩, q⟩, ob⟩
  · obtain ⟨q, _, _, ob⟩ := R.sl i _ e
    exact ⟨p, ⟨.inr ⟨p, o, e⟩, q⟩, ob⟩
theorem OwnAt.eq {σ : L2.St} {i : Nat} {p q : Addr} (h : OwnAt Γ σ i p) (h2 : OwnAt Γ1 σ i q) : p = q := by
  have e := h.2.symm.trans h2.2
  cases e
  rfl
theorem has_ow {i : Nat} {o : Ob} (h : Γ[i]? = some (.ow o) := by rfl) : Has Γ i (.ow o) o := ⟨h, .inl rfl⟩
theorem has_pr {i : Nat} {o : Ob} {p : Addr} (h : Γ[i]? = some (.pr p o) := by rfl) : Has Γ i (.pr p o) o := ⟨h, .inr ⟨p, rfl⟩⟩
theorem e_append {i : Nat} {s : Sl} {x : Str} {ds : List D} {apos p : Pos} (h : EX X Γ e (.sh d) Γ1) (h0 : ∃ s0 o0, Has Γ i s0 o0 ∧ ∃ es, o0 = .lst es) (h1 : Has Γ1 i s (.lst ds)) (hz : ds.length < sizeLine) (hN : X.N[i]? = some x := by rfl) (hv : Vis X.env.scope x := by first | exact Or.inl rfl | exact Or.inr (Or.inl rfl) | exact Or.inr (Or.inr rfl)) (hd : (x == ("__debug__" : Str)) = false := by decide)
    (hcd : (x == ("__classdict__" : Str)) = false := by decide) (hbase : attributeBase (.Name x p) "append" X.env (eval (.Name x p) X.env) = eval (.Name x p) X.env := by rfl)
    (hfew : ((backTo pos (starEach [e] X.env)).all (fun x => !x.1) && (backToKw pos (keywordEach [] X.env)).all (fun x => x.1.isSome)
      && decide ([e].length + ([] : List Keyword).length + (if ([] : List Keyword).isEmpty then 0 else 1) < 30)) = true := by rfl)
    (hline : (apos.endLine == pos.line) = true := by rfl) (hs : starEach [e] X.env = (false, eval e X.env) :: starEach [] X.env := by rfl) (hplain : (backTo pos (starEach [] X.env)).any (·.1) = false := by rfl) :
    EX X Γ (.Call (.Attribute (.Name x p) "append" apos) [e] [] pos) (.sh .non) (Γ1.set i (s.re (.lst (ds ++ [d])))) := fun F σ H S Q R q => by
  obtain ⟨s0, o0, hh, es0, rfl⟩ := h0
  obtain ⟨l, own0, ob0⟩ := R.has hh
  obtain ⟨vs0, hl0, _⟩ := ob0
  refine pe_we (pe_bm PySem.F.plainAttrs_list PySem.F.slot_list_append PySem.F.type_list_append mt_append (pe_var hN hv hd hcd) (pa_cons we_pe pa_nil hs) hbase hfew hline hs hplain) ⟨_, own0.2, .inl ⟨rfl, _, .of hl0⟩, ?_⟩
  refine h F σ H S _ R fun v H1 S1 R1 s1 ok => ?_
  obtain ⟨l', own1, vs, hl, rp⟩ := R1.has h1
  obtain rfl := own0.eq own1
  refine ⟨l, vs, v, rfl, rfl, hl, by rw [← rp.length]; exact hz, q _ _ S1 (R1.chg own1 h1.1 ⟨_, upd_same, rp.append (.one ok)⟩) s1 rfl⟩
theorem e_extend {i : Nat} {s : Sl} {x : Str} {ds fs : List D} {apos p : Pos} (h : EX X Γ e (.sh (.lst fs)) Γ1) (h0 : ∃ s0 o0, Has Γ i s0 o0 ∧ ∃ es, o0 = .lst es) (h1 : Has Γ1 i s (.lst ds)) (hz : ds.length + fs.length ≤ sizeLine) (hN : X.N[i]? = some x := by rfl) (hv : Vis X.env.scope x := by first | exact Or.inl rfl | exact Or.inr (Or.inl rfl) | exact Or.inr (Or.inr rfl)) (hd : (x == ("__debug__" : Str)) = false := by decide)
    (hcd : (x == ("__classdict__" : Str)) = false := by decide) (hbase : attributeBase (.Name x p) "extend" X.env (eval (.Name x p) X.env) = eval (.Name x p) X.env := by rfl)
    (hfew : ((backTo pos (starEach [e] X.env)).all (fun x => !x.1) && (backToKw pos (keywordEach [] X.env)).all (fun x => x.1.isSome)
      && decide ([e].length + ([] : List Keyword).length + (if ([] : List Keyword).isEmpty then 0 else 1) < 30)) = true := by rfl)
    (hline : (apos.endLine == pos.line) = true := by rfl) (hs : starEach [e] X.env = (false, eval e X.env) :: starEach [] X.env := by rfl) (hplain : (backTo pos (starEach [] X.env)).any (·.1) = false := by rfl) :
    EX X Γ (.Call (.Attribute (.Name x p) "extend" apos) [e] [] pos) (.sh .non) (Γ1.set i (s.re (.lst (ds ++ fs)))) := fun F σ H S Q R q => by
  obtain ⟨s0, o0, hh, es0, rfl⟩ := h0
  obtain ⟨l, own0, ob0⟩ := R.has hh
  obtain ⟨vs0, hl0, _⟩ := ob0
  refine pe_we (pe_bm PySem.F.plainAttrs_list PySem.F.slot_list_extend PySem.F.type_list_extend mt_extend (pe_var hN hv hd hcd) (pa_cons we_pe pa_nil hs) hbase hfew hline hs hplain) ⟨_, own0.2, .inl ⟨rfl, _, .of hl0⟩, ?_⟩
  refine h F σ H S _ R fun v H1 S1 R1 s1 ok => ?_
  obtain ⟨l', own1, vs, hl, rp⟩ := R1.has h1
  obtain rfl := own0.eq own1
  obtain ⟨b, zs, rfl, hb, rz⟩ := ok
  refine ⟨l, b, vs, zs, rfl, rfl, hl, R1.sh _ _ hb, by rw [← rp.length, ← rz.length]; exact hz, q _ _ S1 (R1.chg own1 h1.1 ⟨_, upd_same, rp.append rz⟩) s1 rfl⟩
/-- o[i] = .. : o the list that slot n owns -/
theorem g_setix {n : Nat} {s : Sl} {x : Str} {ds : List D} {p : Pos} {ix : Int} {j : Nat} (h1 : Has Γ n s (.lst ds)) (hi : EX X Γ e (.sh (.int ix)) Γ) (hj : ixN ds.length ix = some j) (hN : X.N[n]? = some x := by rfl) (hv : Vis X.env.scope x := by first | exact Or.inl rfl | exact Or.inr (Or.inl rfl) | exact Or.inr (Or.inr rfl)) (hd : (x == ("__debug__" : Str)) = false := by decide)
    (hcd : (x == ("__classdict__" : Str)) = false := by decide)
    (ha : ∀ v, assign (.Subscript (.Name x p) e pos) X.env v = (do
      let ov ← holding [v] (eval (.Name x p) X.env)
      let iv ← holding [v, ov] (eval e X.env)
      standAt pos
      holding [v, ov, iv] (setItem ov iv v)
      release [v, ov, iv] []) := by intro _; rfl) : GX X (.Subscript (.Name x p) e pos) Γ d (Γ.set n (s.re (.lst (ds.set j d)))) := by
  intro F σ H S v Q R ok q
  obtain ⟨l, own, vs, hl, rp⟩ := R.has h1
  refine pg_wg (pg_sub (pe_var hN hv hd hcd) we_pe set_list ha) ⟨_, own.2, hi F σ H S _ R fun y H1 S1 R1 s1 ok1 => ?_⟩
  obtain ⟨l', own1, vs1, hl1, rp1⟩ := R1.has h1
  obtain rfl := own.eq own1
  refine ⟨l, vs1, ix, j, rfl, ok1, hl1, by rw [← rp1.length]; exact hj, q σ _ S1 (R1.chg own1 h1.1 ⟨_, upd_same, rp1.set (Rep.mono s1 _ _ ok)⟩) s1⟩
end
end PL

set_option Elab.async false
set_option linter.all false
set_option maxRecDepth 100000
set_option maxHeartbeats 1000000
namespace PL
open PySem PySem.Spec PyProof.Rows L2
/-! ### promises over data -/
structure Ret (K : PySem.W.Frag) (S H : Hp) (md : Addr → Prop) (r : Rs) (v : V) (H' S' : Hp) : Prop where
  ss : Same S S'
  sh : Same S' H'
  new : ∀ b o, H b = some o → S b = none → S' b = none
  kp : ∀ b o, ¬ md b → H b = some o → H' b = some o
  th : ∀ b o, H b = some o → ∃ o', H' b = some o'
  res : match r with
    | .sh d => Rep K S' d v
    | .ow o => ∃ a, v = .ref a ∧ H a = none ∧ S' a = none ∧ ObR K S' H' a o
    | .br _ => False
def sp0 (K : PySem.W.Frag) (P : List D → Rs → Prop) : Sp := fun vs H Q _ => ∃ S ds r, P ds r ∧ Same S H ∧ Reps K S ds vs ∧ ∀ v H' S', Ret K S H (fun _ => False) r v H' S' → Q v H'
/-- the first argument is an object that the def may change -/
def sp1 (K : PySem.W.Frag) (P : Ob → List D → Rs → Ob → Prop) : Sp := fun vs H Q _ => ∃ S o ds r o' p ws, P o ds r o' ∧ vs = .ref p :: ws ∧ Same S H ∧ S p = none ∧ ObR K S H p o ∧ Reps K S ds ws ∧
  ∀ v H' S', Ret K S H (fun b => b = p) r v H' S' → S' p = none → ObR K S' H' p o' → Q v H'
/-- the first two -/
def sp2 (K : PySem.W.Frag) (P : Ob → Ob → List D → Rs → Ob → Ob → Prop) : Sp := fun vs H Q _ => ∃ S o u ds r o' u' p q ws, P o u ds r o' u' ∧ vs = .ref p :: .ref q :: ws ∧ p ≠ q ∧ Same S H ∧ S p = none ∧ S q = none ∧ ObR K S H p o ∧ ObR K S H q u ∧ Reps K S ds ws ∧
  ∀ v H' S', Ret K S H (fun b => b = p ∨ b = q) r v H' S' → S' p = none → S' q = none → ObR K S' H' p o' → ObR K S' H' q u' → Q v H'
section
variable {Pg : Program} {w : World} {K : PySem.W.Frag} {mg : Str → Option Value} {base : Heap}
theorem ret_of {F : Fr} {Γ : Gm} {σ : L2.St} {H H' S S' : Hp} {md : Addr → Prop} {r : Rs} {v : V} (R : RS K ⟨H, S, md⟩ Γ σ H' S') (hm : ∀ b, md b → S' b = none) (nb : ∀ j, r ≠ .br j) (ok : RsOk K ⟨H, S, md⟩ Γ σ H' S' r v) : Ret K S H md r v H' S' := by
  refine ⟨R.s0, R.sh, fun b o e n => ?_, R.kp, R.th, ?_⟩
  · by_cases hb : md b
    · exact hm b hb
    · exact R.new b o e hb n
  · cases r with
    | sh d => exact ok
    | br j => exact (nb j rfl).elim
    | ow o =>
      obtain ⟨p, e, n1, n2, ob, _⟩ := ok
      exact ⟨p, e, n2, n1, ob⟩
theorem start_get {N : List Str} {vs : List V} (hl : vs.length ≤ N.length) {i : Nat} : (start N vs)[i]? = if i < vs.length then (vs[i]?).map some else if i < N.length then some none else none := by
  unfold L2.start
  by_cases h : i < vs.length
  · rw [if_pos h, List.getElem?_append_left (by simpa using h), List.getElem?_map]
  · rw [if_neg h, List.getElem?_append_right (by simpa using h), List.getElem?_replicate, List.length_map]
    by_cases h2 : i < N.length
    · rw [if_pos h2, if_pos (by omega)]
    · rw [if_neg h2, if_neg (by omega)]
theorem start_len {N : List Str} {vs : List V} (hl : vs.length ≤ N.length) : (start N vs).length = N.length := by
  unfold L2.start; rw [List.length_append, List.length_map, List.length_replicate]; omega
/-- the state at a def's entry -/
def ent (N : List Str) (ds : List D) : Gm := ds.map .sh ++ List.replicate (N.length - ds.length) .un
theorem ent_get {N : List Str} {ds : List D} {i : Nat} {s : Sl} (h : (ent N ds)[i]? = some s) : s = .un ∨ ∃ d, ds[i]? = some d ∧ s = .sh d := by
  unfold ent at h
  by_cases hi : i < ds.length
  · rw [List.getElem?_append_left (by simpa using hi), List.getElem?_map] at h
    obtain ⟨d, e1, e2⟩ := Option.map_eq_some_iff.mp h
    exact .inr ⟨d, e1, e2.symm⟩
  · rw [List.getElem?_append_right (by simpa using hi), List.getElem?_replicate] at h
    split at h
    · cases h; exact .inl rfl
    · cases h
theorem rs_start {N : List Str} {ds : List D} {vs : List V} {H S : Hp} (hs : Same S H) (r : Reps K S ds vs) (hl : vs.length ≤ N.length) : RS K ⟨H, S, fun _ => False⟩ (ent N ds) (start N vs) H S := by
  refine ⟨.refl _, hs, fun b o _ _ z => z, fun b o _ e => e, fun b o e => ⟨o, e⟩, fun i s e => ?_, fun i j a _ h _ => ?_, ?_⟩
  · rcases ent_get e with rfl | ⟨d, e1, rfl⟩
    · trivial
    · obtain ⟨v, q1, q2⟩ := r.get e1
      refine ⟨v, ?_, q2⟩
      rw [start_get hl, if_pos (List.getElem?_eq_some_iff.mp q1).1, q1]
      rfl
  · obtain ⟨⟨o, z⟩ | ⟨p, o, z⟩, _⟩ := h
    · rcases ent_get z with q | ⟨d, _, q⟩ <;> cases q
    · rcases ent_get z with q | ⟨d, _, q⟩ <;> cases q
  · rw [start_len hl]
    unfold ent
    rw [List.length_append, List.length_map, List.length_replicate, r.length]; omega
theorem rs_start1 {N : List Str} {ds : List D} {vs : List V} {H S : Hp} {p : Addr} {o : Ob} (hs : Same S H) (np : S p = none) (ob : ObR K S H p o) (r : Reps K S ds vs) (hl : vs.length + 1 ≤ N.length) : RS K ⟨H, S, fun b => b = p⟩ (.pr p o :: ent N.tail ds) (start N (.ref p :: vs)) H S := by
  have hlt : vs.length ≤ N.tail.length := by rw [List.length_tail]; omega
  have R0 := rs_start (N := N.tail) hs r hlt
  have hst : start N (.ref p :: vs) = some (.ref p) :: start N.tail vs := by
    unfold L2.start
    rw [List.map_cons, List.length_cons, List.length_tail, List.cons_append]
    congr 3
    omega
  rw [hst]
  refine ⟨.refl _, hs, fun b o _ _ z => z, fun b o _ e => e, fun b o e => ⟨o, e⟩, fun i s e => ?_, fun i j a ne h1 h2 => ?_, ?_⟩
  · cases i with
    | zero => cases e; exact ⟨rfl, np, .inr rfl, ob⟩
    | succ i =>
      have q := R0.sl i s (by simpa using e)
      rcases ent_get (show (ent N.tail ds)[i]? = some s by simpa using e) with rfl | ⟨d, _, rfl⟩
      · trivial
      · exact q
  · have no : ∀ (i : Nat) a, ¬ OwnAt (.pr p o :: ent N.tail ds) (some (.ref p) :: start N.tail vs) (i + 1) a := fun i a ⟨h, _⟩ => by
      rcases h with ⟨o, z⟩ | ⟨p, o, z⟩
      · rcases ent_get (show (ent N.tail ds)[i]? = _ by simpa using z) with q | ⟨d, _, q⟩ <;> cases q
      · rcases ent_get (show (ent N.tail ds)[i]? = _ by simpa using z) with q | ⟨d, _, q⟩ <;> cases q
    cases i with
    | succ i => exact no i a h1
    | zero =>
      cases j with
      | zero => exact ne rfl
      | succ j => exact no j a h2
  · rw [List.length_cons, List.length_cons, R0.len]
theorem rs_start2 {N : List Str} {ds : List D} {vs : List V} {H S : Hp} {p q : Addr} {o u : Ob} (hs : Same S H) (npq : p ≠ q) (np : S p = none) (nq : S q = none) (ob : ObR K S H p o) (ub : ObR K S H q u) (r : Reps K S ds vs) (hl : vs.length + 2 ≤ N.length) :
    RS K ⟨H, S, fun b => b = p ∨ b = q⟩ (.pr p o :: .pr q u :: ent N.tail.tail ds) (start N (.ref p :: .ref q :: vs)) H S := by
  have hlt : vs.length ≤ N.tail.tail.length := by rw [List.length_tail, List.length_tail]; omega
  have R0 := rs_start (N := N.tail.tail) hs r hlt
  have hst : start N (.ref p :: .ref q :: vs) = some (.ref p) :: some (.ref q) :: start N.tail.tail vs := by
    unfold L2.start
    rw [List.map_cons, List.map_cons, List.length_cons, List.length_cons, List.length_tail, List.length_tail, List.cons_append, List.cons_append]
    congr 4
    omega
  rw [hst]
  refine ⟨.refl _, hs, fun b o _ _ z => z, fun b o _ e => e, fun b o e => ⟨o, e⟩, fun i s e => ?_, fun i j a ne h1 h2 => ?_, ?_⟩
  · cases i with
    | zero => cases e; exact ⟨rfl, np, .inr (.inl rfl), ob⟩
    | succ i =>
      cases i with
      | zero => cases e; exact ⟨rfl, nq, .inr (.inr rfl), ub⟩
      | succ i =>
        have q := R0.sl i s (by simpa using e)
        rcases ent_get (show (ent N.tail.tail ds)[i]? = some s by simpa using e) with rfl | ⟨d, _, rfl⟩
        · trivial
        · exact q
  · have no : ∀ (i : Nat) a, ¬ OwnAt (.pr p o :: .pr q u :: ent N.tail.tail ds) (some (.ref p) :: some (.ref q) :: start N.tail.tail vs) (i + 2) a := fun i a ⟨h, _⟩ => by
      rcases h with ⟨o, z⟩ | ⟨p, o, z⟩
      · rcases ent_get (show (ent N.tail.tail ds)[i]? = _ by simpa using z) with q | ⟨d, _, q⟩ <;> cases q
      · rcases ent_get (show (ent N.tail.tail ds)[i]? = _ by simpa using z) with q | ⟨d, _, q⟩ <;> cases q
    have at0 : ∀ a, OwnAt (.pr p o :: .pr q u :: ent N.tail.tail ds) (some (.ref p) :: some (.ref q) :: start N.tail.tail vs) 0 a → a = p := fun a ⟨_, h⟩ => by cases h; rfl
    have at1 : ∀ a, OwnAt (.pr p o :: .pr q u :: ent N.tail.tail ds) (some (.ref p) :: some (.ref q) :: start N.tail.tail vs) 1 a → a = q := fun a ⟨_, h⟩ => by cases h; rfl
    match i, j with
    | 0, 0 => exact ne rfl
    | 0, 1 => exact npq ((at0 a h1).symm.trans (at1 a h2))
    | 1, 0 => exact npq ((at0 a h2).symm.trans (at1 a h1))
    | 1, 1 => exact ne rfl
    | i + 2, _ => exact no i a h1
    | _, j + 2 => exact no j a h2
  · rw [List.length_cons, List.length_cons, List.length_cons, List.length_cons, R0.len]
variable {x qual : Str} {params : Arguments} {body : List Stmt} {scope : Scope} {dvs : List V} {kws : List (Str × V)} {f : Addr} {fd : FuncData} {N ps : List Str} {k : Nat}
/-- the context of a def that is walked -/
abbrev cx (Pg : Program) (w : World) (K : PySem.W.Frag) (mg : Str → Option Value) (base : Heap) (N : List Str) (qual : Str) (scope : Scope) (f : Addr) (cd : Value) (A : Around) (outer : List Env) (s : Shared) (H : Hp) (E : XK) : Cx := cxOf (L2.CX Pg w) Pg w K mg base N qual scope f cd A outer s H E
theorem cx_po {cd : Value} {A : Around} {outer : List Env} {s : Shared} {H : Hp} {E : XK} : PassesOwn (model (cx Pg w K mg base N qual scope f cd A outer s H E).prog (cx Pg w K mg base N qual scope f cd A outer s H E).w) (cx Pg w K mg base N qual scope f cd A outer s H E).A (cx Pg w K mg base N qual scope f cd A outer s H E).env (cx Pg w K mg base N qual scope f cd A outer s H E).xe :=
  PassesOwn.leaving
/-- a block's end as a def's: handing back, or running out -/
def Ends1 (X : Cx) (Γ : Gm) (body : List Stmt) (r : Rs) (Γ' : Gm) : Prop := SX X Γ body (.rt r Γ') ∨ (r = .sh .non ∧ SX X Γ body (.nx Γ'))
theorem Ends1.run {X : Cx} {Γ Γ' : Gm} {r : Rs} {F : Fr} {σ : L2.St} {H S : Hp} {Q : VK} (h : Ends1 X Γ body r Γ') (R : RS X.K F Γ σ H S) (q : ∀ v σ' H' S', RS X.K F Γ' σ' H' S' → Same S S' → RsOk X.K F Γ' σ' H' S' r v → Q v H') :
    WS X body { nx := fun _ H' => Q .non H', rt := Q } σ H := by
  rcases h with h | ⟨rfl, h⟩
  · exact h F σ H S _ R q
  · exact h F σ H S _ R fun σ' H' S' R' s => q .non σ' H' S' R' s rfl
theorem fn0 {P : List D → Rs → Prop} (FD : FunD K x qual params body scope dvs kws f fd) (Sc : FnScope N ps scope) (hl : ∀ ds r, P ds r → ds.length = ps.length) (hn : ps.length ≤ N.length) (nb : ∀ ds r, P ds r → ∀ j, r ≠ .br j)
    (hb : ∀ cd A outer s H E, Gd k (cx Pg w K mg base N qual scope f cd A outer s H E) → ∀ ds r, P ds r → ∃ Γ', Ends1 (cx Pg w K mg base N qual scope f cd A outer s H E) (ent N ds) body r Γ') :
    FnOk Pg w K mg base (L2.CX Pg w) (k + 1) f fd ps (sp0 K P) := by
  refine fd_ok FD Sc (fun vs H Q E h => ?_) (fun cd A outer s H vs Q E hr h => ?_)
  · obtain ⟨S, ds, r, hp, _, rp, _⟩ := h
    rw [← rp.length]; exact hl ds r hp
  · obtain ⟨S, ds, r, hp, hs, rp, q⟩ := h
    obtain ⟨Γ', e1⟩ := hb cd A outer s H E ⟨rfl, Sc.nd, cx_po, hr⟩ ds r hp
    refine ⟨_, ws_pss, e1.run (rs_start (K := K) hs rp (by rw [← rp.length, hl ds r hp]; exact hn)) fun v σ' H' S' R' s' ok => q v H' S' (ret_of (F := ⟨H, S, fun _ => False⟩) R' (fun _ z => z.elim) (nb ds r hp) ok)⟩
theorem fn1 {P : Ob → List D → Rs → Ob → Prop} (FD : FunD K x qual params body scope dvs kws f fd) (Sc : FnScope N ps scope) (hl : ∀ o ds r o', P o ds r o' → ds.length + 1 = ps.length) (hn : ps.length ≤ N.length) (nb : ∀ o ds r o', P o ds r o' → ∀ j, r ≠ .br j)
    (hb : ∀ cd A outer s H E, Gd k (cx Pg w K mg base N qual scope f cd A outer s H E) → ∀ o ds r o', P o ds r o' → ∀ p, ∃ Γ', Ends1 (cx Pg w K mg base N qual scope f cd A outer s H E) (.pr p o :: ent N.tail ds) body r Γ' ∧ Γ'[0]? = some (.pr p o')) :
    FnOk Pg w K mg base (L2.CX Pg w) (k + 1) f fd ps (sp1 K P) := by
  refine fd_ok FD Sc (fun vs H Q E h => ?_) (fun cd A outer s H vs Q E hr h => ?_)
  · obtain ⟨S, o, ds, r, o', p, ws, hp, rfl, _, _, _, rp, _⟩ := h
    rw [List.length_cons, ← rp.length]; exact hl o ds r o' hp
  · obtain ⟨S, o, ds, r, o', p, ws, hp, rfl, hs, np, ob, rp, q⟩ := h
    obtain ⟨Γ', e1, e2⟩ := hb cd A outer s H E ⟨rfl, Sc.nd, cx_po, hr⟩ o ds r o' hp p
    refine ⟨_, ws_pss, e1.run (rs_start1 (K := K) hs np ob rp (by rw [← rp.length, hl o ds r o' hp]; exact hn)) fun v σ' H' S' R' s' ok => ?_⟩
    obtain ⟨_, n', _, ob'⟩ := R'.sl 0 _ e2
    exact q v H' S' (ret_of (F := ⟨H, S, fun b => b = p⟩) R' (fun b z => by rw [z]; exact n') (nb o ds r o' hp) ok) n' ob'
theorem fn2 {P : Ob → Ob → List D → Rs → Ob → Ob → Prop} (FD : FunD K x qual params body scope dvs kws f fd) (Sc : FnScope N ps scope) (hl : ∀ o u ds r o' u', P o u ds r o' u' → ds.length + 2 = ps.length) (hn : ps.length ≤ N.length) (nb : ∀ o u ds r o' u', P o u ds r o' u' → ∀ j, r ≠ .br j)
    (hb : ∀ cd A outer s H E, Gd k (cx Pg w K mg base N qual scope f cd A outer s H E) → ∀ o u ds r o' u', P o u ds r o' u' → ∀ p q, ∃ Γ', Ends1 (cx Pg w K mg base N qual scope f cd A outer s H E) (.pr p o :: .pr q u :: ent N.tail.tail ds) body r Γ' ∧ Γ'[0]? = some (.pr p o') ∧ Γ'[1]? = some (.pr q u')) :
    FnOk Pg w K mg base (L2.CX Pg w) (k + 1) f fd ps (sp2 K P) := by
  refine fd_ok FD Sc (fun vs H Q E h => ?_) (fun cd A outer s H vs Q E hr h => ?_)
  · obtain ⟨S, o, u, ds, r, o', u', p, q, ws, hp, rfl, _, _, _, _, _, _, rp, _⟩ := h
    rw [List.length_cons, List.length_cons, ← rp.length]; exact hl o u ds r o' u' hp
  · obtain ⟨S, o, u, ds, r, o', u', p, q, ws, hp, rfl, npq, hs, np, nq, ob, ub, rp, k⟩ := h
    obtain ⟨Γ', e1, e2, e3⟩ := hb cd A outer s H E ⟨rfl, Sc.nd, cx_po, hr⟩ o u ds r o' u' hp p q
    refine ⟨_, ws_pss, e1.run (rs_start2 (K := K) hs npq np nq ob ub rp (by rw [← rp.length, hl o u ds r o' u' hp]; exact hn)) fun v σ' H' S' R' s' ok => ?_⟩
    obtain ⟨_, n', _, ob'⟩ := R'.sl 0 _ e2
    obtain ⟨_, n2, _, ub'⟩ := R'.sl 1 _ e3
    exact k v H' S' (ret_of (F := ⟨H, S, fun b => b = p ∨ b = q⟩) R' (fun b z => z.elim (fun z => by rw [z]; exact n') fun z => by rw [z]; exact n2) (nb o u ds r o' u' hp) ok) n' n2 ob' ub'
end
/-! ### calls -/
section
variable {X : Cx} {Γ Γ1 Γ2 : Gm} {e : Ex} {es : List Ex} {p pos : Pos} {r : Rs} {ds dds : List D} {j k : Nat} {f : Addr} {fd : FuncData} {ps : List Str} {x : Str} {dvs : List V} {dv : List Value}
/-- a def's place: its name, its address -/
structure At (X : Cx) (x : Str) (f : Addr) : Prop where
  mg : X.mg x = some (.ref f)
  kp : PySem.W.keepIn X.K (.ref f) = true
theorem RS.after {K : PySem.W.Frag} {F : Fr} {σ : L2.St} {H S H' S' : Hp} {v : V} {md : Addr → Prop} {r : Rs} (R : RS K F Γ σ H S) (t : Ret K S H md r v H' S') (hmd : ∀ b, md b → Own Γ σ b ∨ F.H0 b = none) (hl : Γ1.length = Γ.length)
    (hs : ∀ (i : Nat) s, Γ1[i]? = some s → (Γ[i]? = some s ∧ ∀ b, OwnAt Γ σ i b → ¬ md b) ∨ (∃ b o', OwnAt Γ σ i b ∧ ObR K S' H' b o' ∧ ∃ s0, Γ[i]? = some s0 ∧ s = s0.re o')) : RS K F Γ1 σ H' S' ∧ RsOk K F Γ1 σ H' S' r v := by
  have ow : ∀ i b, OwnAt Γ1 σ i b → OwnAt Γ σ i b := fun i b ⟨h, q⟩ => by
    have key : ∀ s, Γ1[i]? = some s → (∃ o, s = .ow o) ∨ (∃ p o, s = .pr p o) → OwnAt Γ σ i b := fun s es hk => by
      rcases hs i s es with ⟨e, _⟩ | ⟨b', o', own, _, _⟩
      · refine ⟨?_, q⟩
        rcases hk with ⟨o, rfl⟩ | ⟨p, o, rfl⟩
        · exact .inl ⟨o, e⟩
        · exact .inr ⟨p, o, e⟩
      · exact ⟨own.1, q⟩
    rcases h with ⟨o, z⟩ | ⟨p, o, z⟩
    · exact key _ z (.inl ⟨o, rfl⟩)
    · exact key _ z (.inr ⟨p, o, rfl⟩)
  have noM : ∀ b o, F.H0 b = some o → ¬ F.op b → ¬ md b := fun b o e n hm => by
    rcases hmd b hm with ⟨i, own⟩ | z
    · rcases (R.own own).2.1 with z | z
      · rw [e] at z; cases z
      · exact n z
    · rw [e] at z; cases z
  have un : ∀ i b, OwnAt Γ σ i b → S' b = none := fun i b own => by
    obtain ⟨n, _, o, ob⟩ := R.own own
    obtain ⟨y, hy⟩ := ob.there
    exact t.new b y hy n
  have R' : RS K F Γ1 σ H' S' := by
    refine ⟨R.s0.trans t.ss, t.sh, fun b o e n z => t.new b o (R.kp b o n e) (R.new b o e n z), fun b o n e => t.kp b o (noM b o e n) (R.kp b o n e), fun b o e => (R.th b o e).elim fun o' q => t.th b o' q, fun i s es => ?_,
      fun i j b ne h1 h2 => R.ne i j b ne (ow i b h1) (ow j b h2), hl.trans R.len⟩
    rcases hs i s es with ⟨e, nm⟩ | ⟨b, o', own, ob, s0, e0, rfl⟩
    · have w := R.sl i s e
      cases s with
      | un => trivial
      | sh d => obtain ⟨v, e1, e2⟩ := w; exact ⟨v, e1, Rep.mono t.ss _ _ e2⟩
      | ow o => obtain ⟨b, e1, e2, e3, e4⟩ := w; exact ⟨b, e1, un i b ⟨.inl ⟨o, e⟩, e1⟩, e3, e4.mono t.ss fun y hy => t.kp b y (nm b ⟨.inl ⟨o, e⟩, e1⟩) hy⟩
      | pr p o => obtain ⟨e1, e2, e3, e4⟩ := w; exact ⟨e1, un i p ⟨.inr ⟨p, o, e⟩, e1⟩, e3, e4.mono t.ss fun y hy => t.kp p y (nm p ⟨.inr ⟨p, o, e⟩, e1⟩) hy⟩
    · have h1 := R.own own
      have h2 := un i b own
      obtain ⟨hk, q⟩ := own
      rw [e0] at hk
      rcases hk with ⟨o, z⟩ | ⟨p, o, z⟩
      · cases z; exact ⟨b, q, h2, h1.2.1, ob⟩
      · cases z
        obtain ⟨w1, _⟩ := R.sl i _ e0
        rw [q] at w1; cases w1
        exact ⟨q, h2, h1.2.1, ob⟩
  refine ⟨R', ?_⟩
  have rs := t.res
  cases r with
  | sh d => exact rs
  | br i => exact rs.elim
  | ow o =>
    obtain ⟨b, rfl, n, n', ob⟩ := rs
    exact ⟨b, rfl, n', R.h0None n, ob, fun ⟨i, own⟩ => R.ownNone n ⟨i, ow i b own⟩⟩
theorem RS.after0 {K : PySem.W.Frag} {F : Fr} {σ : L2.St} {H S H' S' : Hp} {v : V} {r : Rs} (R : RS K F Γ σ H S) (t : Ret K S H (fun _ => False) r v H' S') : RS K F Γ σ H' S' ∧ RsOk K F Γ σ H' S' r v :=
  R.after t (fun _ z => z.elim) rfl fun i s e => .inl ⟨e, fun _ _ z => z⟩
/-- what a call leaves the slots with (the first argument's slot holds another content) -/
theorem RS.after1 {K : PySem.W.Frag} {F : Fr} {σ : L2.St} {H S H' S' : Hp} {v : V} {r : Rs} {i : Nat} {s : Sl} {p : Addr} {o' : Ob} (R : RS K F Γ σ H S) (own : OwnAt Γ σ i p) (hs : Γ[i]? = some s) (t : Ret K S H (fun b => b = p) r v H' S') (ob : ObR K S' H' p o') : RS K F (Γ.set i (s.re o')) σ H' S' ∧ RsOk K F (Γ.set i (s.re o')) σ H' S' r v := by
  refine R.after t (fun b z => by rw [z]; exact .inl ⟨i, own⟩) List.length_set fun l u e => ?_
  have hi : i < Γ.length := (List.getElem?_eq_some_iff.mp hs).1
  by_cases hl : l = i
  · subst hl
    rw [List.getElem?_set_self hi] at e
    cases e
    exact .inr ⟨p, o', own, ob, s, hs, rfl⟩
  · rw [List.getElem?_set_ne (Ne.symm hl)] at e
    exact .inl ⟨e, fun b ob' z => R.ne l i b hl ob' (by rw [z]; exact own)⟩
theorem RS.after2 {K : PySem.W.Frag} {F : Fr} {σ : L2.St} {H S H' S' : Hp} {v : V} {r : Rs} {i m : Nat} {s s2 : Sl} {p q : Addr} {o' u' : Ob} (R : RS K F Γ σ H S) (hne : i ≠ m) (own : OwnAt Γ σ i p) (own2 : OwnAt Γ σ m q) (hs : Γ[i]? = some s) (hs2 : Γ[m]? = some s2) (t : Ret K S H (fun b => b = p ∨ b = q) r v H' S') (ob : ObR K S' H' p o') (ub : ObR K S' H' q u') :
    RS K F ((Γ.set i (s.re o')).set m (s2.re u')) σ H' S' ∧ RsOk K F ((Γ.set i (s.re o')).set m (s2.re u')) σ H' S' r v := by
  refine R.after t (fun b z => z.elim (fun z => by rw [z]; exact .inl ⟨i, own⟩) fun z => by rw [z]; exact .inl ⟨m, own2⟩) (by rw [List.length_set, List.length_set]) fun l u e => ?_
  have hi : i < Γ.length := (List.getElem?_eq_some_iff.mp hs).1
  have hm : m < Γ.length := (List.getElem?_eq_some_iff.mp hs2).1
  by_cases hl2 : l = m
  · subst hl2
    rw [List.getElem?_set_self (by rw [List.length_set]; exact hm)] at e
    cases e
    exact .inr ⟨q, u', own2, ub, s2, hs2, rfl⟩
  · rw [List.getElem?_set_ne (Ne.symm hl2)] at e
    by_cases hl : l = i
    · subst hl
      rw [List.getElem?_set_self hi] at e
      cases e
      exact .inr ⟨p, o', own, ob, s, hs, rfl⟩
    · rw [List.getElem?_set_ne (Ne.symm hl)] at e
      exact .inl ⟨e, fun b ob' z => z.elim (fun z => R.ne l i b hl ob' (by rw [z]; exact own)) fun z => R.ne l m b hl2 ob' (by rw [z]; exact own2)⟩
theorem e_call0 {P : List D → Rs → Prop} (Fo : FnOk X.prog X.w X.K X.mg X.base (L2.CX X.prog X.w) j f fd ps (sp0 X.K P)) (at_ : At X x f) (g : Gd k X) (hp : P (ds ++ dds) r) (ha : AX X Γ (e :: es) ds Γ1) (hb : Binds X.K fd ps dv) (hd : Vals dvs dv) (hdd : ∀ S, Reps X.K S dds dvs) (hk : j ≤ k := by decide) (hg : Gl X x := by rfl)
    (hdb : (x == ("__debug__" : Str)) = false := by decide) (he : starEach (e :: es) X.env = (false, eval e X.env) :: starEach es X.env := by rfl) (hpl : (backTo pos (starEach es X.env)).any (·.1) = false := by rfl) : EX X Γ (.Call (.Name x p) (e :: es) [] pos) r Γ1 := fun F σ H S Q R q =>
  pe_we (pe_call Fo (g.rm.mono hk) hg at_.mg at_.kp hb hd passL wa_pa hdb he hpl) (ha F σ H S _ R fun vs H1 S1 R1 s1 ok => ⟨S1, ds ++ dds, r, hp, R1.sh, ok.append (hdd S1), fun v H2 S2 t => by
    obtain ⟨R2, ok2⟩ := R1.after0 t
    exact q v H2 S2 R2 (s1.trans t.ss) ok2⟩)
/-- the same without arguments -/
theorem e_call00 {P : List D → Rs → Prop} (Fo : FnOk X.prog X.w X.K X.mg X.base (L2.CX X.prog X.w) j f fd ps (sp0 X.K P)) (at_ : At X x f) (g : Gd k X) (hp : P dds r) (hb : Binds X.K fd ps dv) (hd : Vals dvs dv) (hdd : ∀ S, Reps X.K S dds dvs) (hk : j ≤ k := by decide) (hg : Gl X x := by rfl)
    (hdb : (x == ("__debug__" : Str)) = false := by decide) : EX X Γ (.Call (.Name x p) [] [] pos) r Γ := fun F σ H S Q R q =>
  pe_we (pe_call0 Fo (g.rm.mono hk) hg at_.mg at_.kp hb hd passL hdb) ⟨S, dds, r, hp, R.sh, hdd S, fun v H2 S2 t => by
    obtain ⟨R2, ok2⟩ := R.after0 t
    exact q v H2 S2 R2 t.ss ok2⟩
/-- f(o, e, ..): o a name whose slot i owns an object -/
theorem e_call1 {P : Ob → List D → Rs → Ob → Prop} {y : Str} {py : Pos} {i : Nat} {s s0 : Sl} {o o0 o' : Ob} (Fo : FnOk X.prog X.w X.K X.mg X.base (L2.CX X.prog X.w) j f fd ps (sp1 X.K P)) (at_ : At X x f) (g : Gd k X) (h0 : Has Γ i s0 o0) (ha : AX X Γ es ds Γ1) (h1 : Has Γ1 i s o) (hp : P o (ds ++ dds) r o') (hb : Binds X.K fd ps dv) (hd : Vals dvs dv) (hdd : ∀ S, Reps X.K S dds dvs)
    (hk : j ≤ k := by decide) (hg : Gl X x := by rfl) (hN : X.N[i]? = some y := by rfl) (hv : Vis X.env.scope y := by first | exact Or.inl rfl | exact Or.inr (Or.inl rfl) | exact Or.inr (Or.inr rfl)) (hyd : (y == ("__debug__" : Str)) = false := by decide) (hcd : (y == ("__classdict__" : Str)) = false := by decide)
    (hdb : (x == ("__debug__" : Str)) = false := by decide) (he : starEach (.Name y py :: es) X.env = (false, eval (.Name y py) X.env) :: starEach es X.env := by rfl) (hpl : (backTo pos (starEach es X.env)).any (·.1) = false := by rfl) : EX X Γ (.Call (.Name x p) (.Name y py :: es) [] pos) r (Γ1.set i (s.re o')) := fun F σ H S Q R q => by
  obtain ⟨l, own0, _⟩ := R.has h0
  refine pe_we (pe_call Fo (g.rm.mono hk) hg at_.mg at_.kp hb hd passL (pa_cons (pe_var hN hv hyd hcd) wa_pa he) hdb he hpl) ⟨_, own0.2, ha F σ H S _ R fun vs H1 S1 R1 s1 ok => ?_⟩
  obtain ⟨l', own1, ob⟩ := R1.has h1
  obtain rfl := own0.eq own1
  refine ⟨S1, o, ds ++ dds, r, o', l, vs ++ dvs, hp, rfl, R1.sh, (R1.own own1).1, ob, ok.append (hdd S1), fun v H2 S2 t n2 ob2 => ?_⟩
  obtain ⟨R2, ok2⟩ := R1.after1 own1 h1.1 t ob2
  exact q v H2 S2 R2 (s1.trans t.ss) ok2
theorem e_call2 {P : Ob → Ob → List D → Rs → Ob → Ob → Prop} {y z : Str} {py pz : Pos} {i m : Nat} {s s0 s2 s20 : Sl} {o o0 o' u u0 u' : Ob} (Fo : FnOk X.prog X.w X.K X.mg X.base (L2.CX X.prog X.w) j f fd ps (sp2 X.K P)) (at_ : At X x f) (g : Gd k X) (hne : i ≠ m) (h0 : Has Γ i s0 o0) (h20 : Has Γ m s20 u0) (ha : AX X Γ es ds Γ1) (h1 : Has Γ1 i s o) (h2 : Has Γ1 m s2 u) (hp : P o u (ds ++ dds) r o' u') (hb : Binds X.K fd ps dv) (hd : Vals dvs dv) (hdd : ∀ S, Reps X.K S dds dvs)
    (hk : j ≤ k := by decide) (hg : Gl X x := by rfl) (hN : X.N[i]? = some y := by rfl) (hv : Vis X.env.scope y := by first | exact Or.inl rfl | exact Or.inr (Or.inl rfl) | exact Or.inr (Or.inr rfl)) (hyd : (y == ("__debug__" : Str)) = false := by decide) (hcd : (y == ("__classdict__" : Str)) = false := by decide)
    (hN2 : X.N[m]? = some z := by rfl) (hv2 : Vis X.env.scope z := by first | exact Or.inl rfl | exact Or.inr (Or.inl rfl) | exact Or.inr (Or.inr rfl)) (hyd2 : (z == ("__debug__" : Str)) = false := by decide) (hcd2 : (z == ("__classdict__" : Str)) = false := by decide)
    (hdb : (x == ("__debug__" : Str)) = false := by decide) (he : starEach (.Name y py :: .Name z pz :: es) X.env = (false, eval (.Name y py) X.env) :: starEach (.Name z pz :: es) X.env := by rfl) (he2 : starEach (.Name z pz :: es) X.env = (false, eval (.Name z pz) X.env) :: starEach es X.env := by rfl) (hpl : (backTo pos (starEach (.Name z pz :: es) X.env)).any (·.1) = false := by rfl) :
    EX X Γ (.Call (.Name x p) (.Name y py :: .Name z pz :: es) [] pos) r ((Γ1.set i (s.re o')).set m (s2.re u')) := fun F σ H S Q R q => by
  obtain ⟨l, own0, _⟩ := R.has h0
  obtain ⟨l2, own20, _⟩ := R.has h20
  refine pe_we (pe_call Fo (g.rm.mono hk) hg at_.mg at_.kp hb hd passL (pa_cons (pe_var hN hv hyd hcd) (pa_cons (pe_var hN2 hv2 hyd2 hcd2) wa_pa he2) he) hdb he hpl) ⟨_, own0.2, _, own20.2, ha F σ H S _ R fun vs H1 S1 R1 s1 ok => ?_⟩
  obtain ⟨l', own1, ob⟩ := R1.has h1
  obtain rfl := own0.eq own1
  obtain ⟨l2', own2, ub⟩ := R1.has h2
  obtain rfl := own20.eq own2
  have npq : l ≠ l2 := fun z => R1.ne i m l hne own1 (by rw [z]; exact own2)
  refine ⟨S1, o, u, ds ++ dds, r, o', u', l, l2, vs ++ dvs, hp, rfl, npq, R1.sh, (R1.own own1).1, (R1.own own2).1, ob, ub, ok.append (hdd S1), fun v H2 S2 t n2 n3 ob2 ub2 => ?_⟩
  obtain ⟨R2, ok2⟩ := R1.after2 hne own1 own2 h1.1 h2.1 t ob2 ub2
  exact q v H2 S2 R2 (s1.trans t.ss) ok2
/-- o.m(e, ..): o a shared object -/
theorem zip_none {K : PySem.W.Frag} {S : Hp} {f : Str} : ∀ {ns : List Str} {ds : List D} {vs : List V}, Reps K S ds vs → ns.length = vs.length → (ns.zip ds).lookup f = none → (ns.zip vs).lookup f = none
  | [], _, _, _, _, _ => rfl
  | n :: ns, [], _, h, l, e => by rw [show _ = [] from h] at l; cases l
  | n :: ns, d' :: ds, _, ⟨v, r, rfl, h2, h3⟩, l, e => by
    rw [List.zip_cons_cons, List.lookup_cons] at e ⊢
    by_cases h : f == n
    · rw [h] at e; cases e
    · rw [Bool.eq_false_iff.mpr h] at e ⊢
      exact zip_none h3 (by simpa using l) e
theorem e_meth0 {P : List D → Rs → Prop} {o : Ex} {m : Str} {apos : Pos} {C : Addr} {ns : List Str} {fs : List D} {pl : Sem Bool} (Fo : FnOk X.prog X.w X.K X.mg X.base (L2.CX X.prog X.w) j f fd ps (sp0 X.K P)) (c : Cls X.K C) (hm : Meth X.K C m f) (g : Gd k X) (ho : EX X Γ o (.sh (.obj C ns fs)) Γ1) (hno : (ns.zip fs).lookup m = none) (hp : P (.obj C ns fs :: dds) r) (hb : Binds X.K fd ps dv) (hd : Vals dvs dv) (hdd : ∀ S, Reps X.K S dds dvs) (hk : j ≤ k := by decide)
    (ht : eval (.Call (.Attribute o m apos) [] [] pos) X.env = (do
      let ov ← eval o X.env
      standAt apos.atName
      let (f, first) ← holding [ov] (getMethod ov m pl)
      callWith pos f first (backTo pos (starEach [] X.env)) (backToKw pos (keywordEach [] X.env))) := by rfl) : EX X Γ (.Call (.Attribute o m apos) [] [] pos) r Γ1 := fun F σ H S Q R q =>
  pe_we (pe_meth0 we_pe c hm Fo (g.rm.mono hk) hb hd passL ht) (ho F σ H S _ R fun v H1 S1 R1 s1 ok => by
    obtain ⟨a, dx, vs, rfl, h1, h2, h3⟩ := id ok
    refine ⟨a, dx, _, rfl, R1.sh _ _ h1, zip_none h3 h2 hno, S1, .obj C ns fs :: dds, r, hp, R1.sh, .cons ok (hdd S1), fun v H2 S2 t => ?_⟩
    obtain ⟨R2, ok2⟩ := R1.after0 t
    exact q v H2 S2 R2 (s1.trans t.ss) ok2)
theorem e_meth {P : List D → Rs → Prop} {o : Ex} {m : Str} {apos : Pos} {C : Addr} {ns : List Str} {fs : List D} {pl : Sem Bool} (Fo : FnOk X.prog X.w X.K X.mg X.base (L2.CX X.prog X.w) j f fd ps (sp0 X.K P)) (c : Cls X.K C) (hm : Meth X.K C m f) (g : Gd k X) (ho : EX X Γ o (.sh (.obj C ns fs)) Γ1) (hno : (ns.zip fs).lookup m = none) (ha : AX X Γ1 (e :: es) ds Γ2) (hp : P (.obj C ns fs :: (ds ++ dds)) r) (hb : Binds X.K fd ps dv) (hd : Vals dvs dv) (hdd : ∀ S, Reps X.K S dds dvs) (hk : j ≤ k := by decide)
    (hst : starEach (e :: es) X.env = (false, eval e X.env) :: starEach es X.env := by rfl) (hpl : (backTo pos (starEach es X.env)).any (·.1) = false := by rfl)
    (ht : eval (.Call (.Attribute o m apos) (e :: es) [] pos) X.env = (do
      let ov ← eval o X.env
      standAt apos.atName
      let (f, first) ← holding [ov] (getMethod ov m pl)
      callWith pos f first (backTo pos (starEach (e :: es) X.env)) (backToKw pos (keywordEach [] X.env))) := by rfl) : EX X Γ (.Call (.Attribute o m apos) (e :: es) [] pos) r Γ2 := fun F σ H S Q R q =>
  pe_we (pe_meth we_pe c hm Fo (g.rm.mono hk) hb hd passL wa_pa hst hpl ht) (ho F σ H S _ R fun v H1 S1 R1 s1 ok => by
    obtain ⟨a, dx, vs, rfl, h1, h2, h3⟩ := id ok
    refine ⟨a, dx, _, rfl, R1.sh _ _ h1, zip_none h3 h2 hno, ha F σ H1 S1 _ R1 fun us H2 S2 R2 s2 ok2 => ?_⟩
    refine ⟨S2, .obj C ns fs :: (ds ++ dds), r, hp, R2.sh, .cons (Rep.mono s2 _ _ ok) (ok2.append (hdd S2)), fun v H3 S3 t => ?_⟩
    obtain ⟨R3, ok3⟩ := R2.after0 t
    exact q v H3 S3 R3 ((s1.trans s2).trans t.ss) ok3)
/-- C(e, ..): a new object, by its __init__ -/
theorem e_make {P : Ob → List D → Rs → Ob → Prop} {C : Addr} {o' : Ob} (M : Mk X.K C f) (Fo : FnOk X.prog X.w X.K X.mg X.base (L2.CX X.prog X.w) j f fd ps (sp1 X.K P)) (hm : X.mg x = some (.ref C)) (g : Gd k X) (ha : AX X Γ (e :: es) ds Γ1) (hp : P (.ins C [] []) (ds ++ dds) (.sh .non) o') (hb : Binds X.K fd ps dv) (hd : Vals dvs dv) (hdd : ∀ S, Reps X.K S dds dvs)
    (hk : j + 1 ≤ k := by decide) (hg : Gl X x := by rfl) (hdb : (x == ("__debug__" : Str)) = false := by decide) (he : starEach (e :: es) X.env = (false, eval e X.env) :: starEach es X.env := by rfl) (hpl : (backTo pos (starEach es X.env)).any (·.1) = false := by rfl) : EX X Γ (.Call (.Name x p) (e :: es) [] pos) (.ow o') Γ1 := fun F σ H S Q R q =>
  pe_we (pe_make M Fo (g.rm.mono hk) hg hm hb hd passL wa_pa hdb he hpl) (ha F σ H S _ R fun vs H1 S1 R1 s1 ok => fun a dx na nd ne => by
    have g1 : Same H1 (upd (upd H1 dx (.own a)) a (.ins C dx [])) := (same_upd nd).trans (same_upd (by rw [upd_ne ne.symm]; exact na))
    have R2 := R1.grow g1
    refine ⟨S1, .ins C [] [], ds ++ dds, .sh .non, o', a, vs ++ dvs, hp, rfl, R2.sh, R1.sNone na, ⟨dx, [], upd_same, rfl, rfl⟩, ok.append (hdd S1), fun v H2 S2 t n2 ob2 => ⟨t.res, ?_⟩⟩
    have t' : Ret X.K S1 H1 (fun _ => False) (.ow o') (.ref a) H2 S2 := ⟨t.ss, t.sh, fun b o e n => t.new b o (g1 b o e) n, fun b o _ e => t.kp b o (fun z => by rw [z, na] at e; cases e) (g1 b o e), fun b o e => t.th b o (g1 b o e), a, rfl, na, n2, ob2⟩
    obtain ⟨R3, ok3⟩ := R1.after0 t'
    exact q (.ref a) H2 S2 R3 (s1.trans t.ss) ok3)
end
end PL

set_option Elab.async false
set_option linter.all false
set_option maxRecDepth 100000
set_option maxHeartbeats 1000000
namespace PL
open PySem PySem.Spec PyProof.Rows L2
/-- what an iterator yields: n items, the i-th one stands for it i -/
def Walk (K : PySem.W.Frag) (J : It) (n : Nat) (it : Nat → D) (S : Hp) : Prop := ∀ i H, Same S H → (i < n → J.go i H) ∧ (i = n → J.stop i H) ∧ ∀ x H', i < n → J.yld i H x H' →
  (H' = H ∧ ∀ S', Same S S' → Rep K S' (it i) x) ∨ (∃ T vs ds, x = .ref T ∧ H T = none ∧ H' = upd H T (.tup vs) ∧ it i = .tup ds ∧ ∀ S', Same S S' → Reps K S' ds vs)
section
variable {X : Cx} {Γ Γ1 Γ2 : Gm} {tg iter e a b c : Ex} {body : List Stmt} {pos p : Pos} {n k : Nat} {it : Nat → D} {ds : List D}
def IterX (X : Cx) (tg iter : Ex) (Γ : Gm) (n : Nat) (it : Nat → D) (Γ1 : Gm) : Prop := ∃ wi, PI X tg iter wi ∧ ∀ F σ H S (R' : It → Hp → Prop), RS X.K F Γ σ H S →
  (∀ J H1 S1, RS X.K F Γ1 σ H1 S1 → Same S S1 → Walk X.K J n it S1 → R' J H1) → wi σ H R'
/-- a yielded item comes into the state -/
theorem Walk.take {K : PySem.W.Frag} {J : It} {F : Fr} {σ : L2.St} {H S S0 : Hp} {i : Nat} {x : V} {H' : Hp} (w : Walk K J n it S0) (R : RS K F Γ σ H S) (s : Same S0 S) (hi : i < n) (y : J.yld i H x H') : ∃ S', Same S S' ∧ RS K F Γ σ H' S' ∧ Rep K S' (it i) x := by
  rcases (w i H (s.trans R.sh)).2.2 x H' hi y with ⟨rfl, r⟩ | ⟨T, vs, ds, rfl, nT, rfl, e, r⟩
  · exact ⟨S, .refl _, R, r S s⟩
  · obtain ⟨R1, s1⟩ := R.laid (o := .tup vs) nT
    refine ⟨_, s1, R1, ?_⟩
    rw [e]
    exact ⟨T, vs, rfl, .of upd_same, r _ (s.trans s1)⟩
/-- for: all turns -/
theorem s1_for (g : Gd k X) (hi : IterX X tg iter Γ n it Γ1) (G B : Nat → Gm) (h0 : Cv X.K Γ1 (G 0)) (hg : ∀ i, i < n → GX X tg (G i) (it i) (B i)) (hb : ∀ i, i < n → SX X (B i) body (.nx (G (i + 1))) ∨ SX X (B i) body (.ct (G (i + 1))))
    (hs : ∀ x, foldedSetIterable iter X.env x = pure x := by intro _; rfl) : S1 X Γ (.For tg iter body [] pos) (.nx (G n)) := fun F σ H S D R q => by
  obtain ⟨wi, hw, hq⟩ := hi
  refine ps_w1 (ps_for g.po g.calm hw wg_pg ws_pss hs) (hq F σ H S _ R fun J H1 S1 R1 s1 w => ?_)
  obtain ⟨S2, s2, R2⟩ := h0 F σ H1 S1 R1
  refine ⟨fun i m σ' H' => m = n - i ∧ i ≤ n ∧ ∃ S', RS X.K F (G i) σ' H' S' ∧ Same S2 S', ⟨n, rfl, Nat.zero_le _, S2, R2, .refl _⟩, ?_⟩
  rintro i m σ' H' ⟨rfl, hi, S', R', s'⟩
  have sS : Same S1 S' := s2.trans s'
  by_cases hlt : i < n
  · refine .inr ⟨(w i H' (sS.trans R'.sh)).1 hlt, fun σ2 H2 => ∃ S3, RS X.K F (G (i + 1)) σ2 H2 S3 ∧ Same S2 S3, fun σ2 H2 ⟨S3, R3, s3⟩ => ⟨n - (i + 1), by omega, rfl, hlt, S3, R3, s3⟩, fun x H2 y => ?_⟩
    obtain ⟨S3, s3, R3, rx⟩ := w.take R' sS hlt y
    refine hg i hlt F σ' H2 S3 x _ R3 rx fun σ4 H4 S4 R4 s4 => ?_
    rcases hb i hlt with hb | hb
    · exact hb F σ4 H4 S4 _ R4 fun σ5 H5 S5 R5 s5 => ⟨S5, R5, ((s'.trans s3).trans s4).trans s5⟩
    · exact hb F σ4 H4 S4 _ R4 fun σ5 H5 S5 R5 s5 => ⟨S5, R5, ((s'.trans s3).trans s4).trans s5⟩
  · obtain rfl : i = n := by omega
    exact .inl ⟨(w i H' (sS.trans R'.sh)).2.1 rfl, q σ' H' S' R' ((s1.trans s2).trans s')⟩
/-- for: left in turn m, by return or break -/
theorem s1_forX {o o' : Out} (m : Nat) (g : Gd k X) (hi : IterX X tg iter Γ n it Γ1) (G B : Nat → Gm) (h0 : Cv X.K Γ1 (G 0)) (hm : m < n) (hg : ∀ i, i ≤ m → GX X tg (G i) (it i) (B i)) (hb : ∀ i, i < m → SX X (B i) body (.nx (G (i + 1))) ∨ SX X (B i) body (.ct (G (i + 1)))) (hx : SX X (B m) body o)
    (ho : (∃ r Γ', o = .rt r Γ' ∧ o' = .rt r Γ') ∨ ∃ Γ', o = .bk Γ' ∧ o' = .nx Γ') (hs : ∀ x, foldedSetIterable iter X.env x = pure x := by intro _; rfl) : S1 X Γ (.For tg iter body [] pos) o' := fun F σ H S D R q => by
  obtain ⟨wi, hw, hq⟩ := hi
  refine ps_w1 (ps_for g.po g.calm hw wg_pg ws_pss hs) (hq F σ H S _ R fun J H1 S1 R1 s1 w => ?_)
  obtain ⟨S2, s2, R2⟩ := h0 F σ H1 S1 R1
  refine ⟨fun i t σ' H' => t = m - i ∧ i ≤ m ∧ ∃ S', RS X.K F (G i) σ' H' S' ∧ Same S2 S', ⟨m, rfl, Nat.zero_le _, S2, R2, .refl _⟩, ?_⟩
  rintro i t σ' H' ⟨rfl, hi, S', R', s'⟩
  have sS : Same S1 S' := s2.trans s'
  have hlt : i < n := by omega
  refine .inr ⟨(w i H' (sS.trans R'.sh)).1 hlt, fun σ2 H2 => i < m ∧ ∃ S3, RS X.K F (G (i + 1)) σ2 H2 S3 ∧ Same S2 S3, fun σ2 H2 ⟨him, S3, R3, s3⟩ => ⟨m - (i + 1), by omega, rfl, him, S3, R3, s3⟩, fun x H2 y => ?_⟩
  obtain ⟨S3, s3, R3, rx⟩ := w.take R' sS hlt y
  refine hg i hi F σ' H2 S3 x _ R3 rx fun σ4 H4 S4 R4 s4 => ?_
  by_cases him : i < m
  · rcases hb i him with hb | hb
    · exact hb F σ4 H4 S4 _ R4 fun σ5 H5 S5 R5 s5 => ⟨him, S5, R5, ((s'.trans s3).trans s4).trans s5⟩
    · exact hb F σ4 H4 S4 _ R4 fun σ5 H5 S5 R5 s5 => ⟨him, S5, R5, ((s'.trans s3).trans s4).trans s5⟩
  · obtain rfl : i = m := by omega
    have all : Same S S4 := ((((s1.trans s2).trans s').trans s3).trans s4)
    rcases ho with ⟨r, Γ', rfl, rfl⟩ | ⟨Γ', rfl, rfl⟩
    · exact hx F σ4 H4 S4 _ R4 fun v σ5 H5 S5 R5 s5 ok => q v σ5 H5 S5 R5 (all.trans s5) ok
    · exact hx F σ4 H4 S4 _ R4 fun σ5 H5 S5 R5 s5 => q σ5 H5 S5 R5 (all.trans s5)
/-! ### what is walked -/
theorem it_range1 {j : Int} (hm : X.mg "range" = none) (h : AX X Γ [a] [.int j] Γ1) (h1 : -(2 ^ 62) ≤ j) (h2 : j < 2 ^ 62) (hg : Gl X "range" := by rfl) (hs : starEach [a] X.env = [(false, eval a X.env)] := by rfl) : IterX X tg (.Call (.Name "range" p) [a] [] pos) Γ j.toNat (fun i => .int i) Γ1 :=
  ⟨_, pi_range1 hg hm wa_pa hs, fun F σ H S R' R q => h F σ H S _ R fun vs H1 S1 R1 s1 ok => ⟨j, by obtain ⟨v, r, rfl, rfl, e⟩ := ok; rw [show r = [] from e], h1, h2, q _ H1 S1 R1 s1 fun i H' sH => ⟨fun z => z, fun z => Nat.le_of_eq z.symm, fun x H2 hi y => .inl ⟨y.1, fun S' _ => by
    have e : x = .int (0 + (i : Nat)) := y.2
    rw [e]; show V.int _ = V.int _; rw [Int.zero_add]⟩⟩⟩⟩
theorem it_range2 {l j : Int} (hm : X.mg "range" = none) (h : AX X Γ [a, b] [.int l, .int j] Γ1) (h1 : -(2 ^ 62) ≤ l ∧ l < 2 ^ 62 ∧ -(2 ^ 62) ≤ j ∧ j < 2 ^ 62) (hg : Gl X "range" := by rfl) (hs : starEach [a, b] X.env = [(false, eval a X.env), (false, eval b X.env)] := by rfl) (hs2 : starEach [b] X.env = [(false, eval b X.env)] := by rfl) : IterX X tg (.Call (.Name "range" p) [a, b] [] pos) Γ (j - l).toNat (fun i => .int (l + (i : Nat))) Γ1 :=
  ⟨_, pi_range2 hg hm wa_pa hs hs2, fun F σ H S R' R q => h F σ H S _ R fun vs H1 S1 R1 s1 ok => ⟨l, j, by obtain ⟨v, r, rfl, rfl, w, r2, rfl, rfl, e⟩ := ok; rw [show r2 = [] from e], h1, q _ H1 S1 R1 s1 fun i H' sH => ⟨fun z => z, fun z => Nat.le_of_eq z.symm, fun x H2 hi y => .inl ⟨y.1, fun S' _ => y.2⟩⟩⟩⟩
theorem it_range3 {l j st : Int} (hm : X.mg "range" = none) (h : AX X Γ [a, b, c] [.int l, .int j, .int st] Γ1) (h1 : RgC l j st n) (hg : Gl X "range" := by rfl) (hs : starEach [a, b, c] X.env = (false, eval a X.env) :: starEach [b, c] X.env := by rfl) (hpl : (backTo pos (starEach [b, c] X.env)).any (·.1) = false := by rfl) : IterX X tg (.Call (.Name "range" p) [a, b, c] [] pos) Γ n (fun i => .int (l + (i : Nat) * st)) Γ1 :=
  ⟨_, pi_range3 hg hm wa_pa hs hpl, fun F σ H S R' R q => h F σ H S _ R fun vs H1 S1 R1 s1 ok => ⟨l, j, st, n, by obtain ⟨v, r, rfl, rfl, w, r2, rfl, rfl, w2, r3, rfl, rfl, e⟩ := ok; rw [show r3 = [] from e], h1, q _ H1 S1 R1 s1 fun i H' sH => ⟨fun z => z, fun z => Nat.le_of_eq z.symm, fun x H2 hi y => .inl ⟨y.1, fun S' _ => y.2⟩⟩⟩⟩
/-- the items of a list of data -/
def itd (ds : List D) : Nat → D := fun i => ds.getD i .non
theorem itd_rep {K : PySem.W.Frag} {S : Hp} {vs : List V} {i : Nat} {x : V} (r : Reps K S ds vs) (e : vs[i]? = some x) : Rep K S (itd ds i) x := by
  obtain ⟨d, e1, e2⟩ := r.get' e
  unfold itd
  rw [List.getD_eq_getElem?_getD, e1]
  exact e2
theorem walk_sqL {K : PySem.W.Frag} {S : Hp} {l : Addr} {vs : List V} (hs : SqL K S l vs) (r : Reps K S ds vs) (inj : ∀ H ys zs, Same S H → SqL K H l ys → SqL K H l zs → ys = zs) : Walk K (Itl K l) ds.length (itd ds) S := fun i H sH => by
  have hq := sH.seq hs
  refine ⟨fun hi => ?_, fun hi => ⟨vs, hq, by rw [← r.length, hi]; exact Nat.le_refl _⟩, fun x H' hi y => .inl ⟨y.1, fun S' sS => ?_⟩⟩
  · have h2 : i < vs.length := by rw [← r.length]; exact hi
    exact ⟨vs, vs[i], hq, List.getElem?_eq_getElem h2⟩
  · exact Rep.mono sS _ _ (itd_rep r (y.2 vs hq))
theorem it_list (h : EX X Γ e (.sh (.lst ds)) Γ1) : IterX X tg e Γ ds.length (itd ds) Γ1 :=
  ⟨_, pi_list we_pe, fun F σ H S R' R q => h F σ H S _ R fun v H1 S1 R1 s1 ok => by
    obtain ⟨l, vs, rfl, h1, h2⟩ := ok
    refine ⟨l, rfl, ⟨vs, .of (R1.sh _ _ h1)⟩, q _ H1 S1 R1 s1 fun i H' sH => ?_⟩
    have hq : SqL X.K H' l vs := .of (sH _ _ h1)
    refine ⟨fun hi => ⟨vs, vs[i]'(by rw [← h2.length]; exact hi), hq, List.getElem?_eq_getElem _⟩, fun hi => ⟨vs, hq, by rw [← h2.length, hi]; exact Nat.le_refl _⟩, fun x H2 hi y => .inl ⟨y.1, fun S' sS => Rep.mono sS _ _ (itd_rep h2 (y.2 vs hq))⟩⟩⟩
theorem it_fls (h : EX X Γ e (.sh (.fls ds)) Γ1) : IterX X tg e Γ ds.length (itd ds) Γ1 :=
  ⟨_, pi_list we_pe, fun F σ H S R' R q => h F σ H S _ R fun v H1 S1 R1 s1 ok => by
    obtain ⟨l, vs, rfl, h1, h2⟩ := ok
    refine ⟨l, rfl, ⟨vs, R1.sh.seq h1⟩, q _ H1 S1 R1 s1 fun i H' sH => ?_⟩
    have hq : SqL X.K H' l vs := sH.seq h1
    refine ⟨fun hi => ⟨vs, vs[i]'(by rw [← h2.length]; exact hi), hq, List.getElem?_eq_getElem _⟩, fun hi => ⟨vs, hq, by rw [← h2.length, hi]; exact Nat.le_refl _⟩, fun x H2 hi y => .inl ⟨y.1, fun S' sS => Rep.mono sS _ _ (itd_rep h2 (y.2 vs hq))⟩⟩⟩
theorem it_tup (h : EX X Γ e (.sh (.tup ds)) Γ1) : IterX X tg e Γ ds.length (itd ds) Γ1 :=
  ⟨_, pi_tup we_pe, fun F σ H S R' R q => h F σ H S _ R fun v H1 S1 R1 s1 ok => by
    obtain ⟨l, vs, rfl, h1, h2⟩ := ok
    refine ⟨l, rfl, ⟨vs, same_sqt R1.sh h1⟩, q _ H1 S1 R1 s1 fun i H' sH => ?_⟩
    have hq : SqT X.K H' l vs := same_sqt sH h1
    refine ⟨fun hi => ⟨vs, vs[i]'(by rw [← h2.length]; exact hi), hq, List.getElem?_eq_getElem _⟩, fun hi => ⟨vs, hq, by rw [← h2.length, hi]; exact Nat.le_refl _⟩, fun x H2 hi y => .inl ⟨y.1, fun S' sS => Rep.mono sS _ _ (itd_rep h2 (y.2 vs hq))⟩⟩⟩
def sgn (x : Str) (i : Nat) : Str := ⟨#[x.cps.getD i 0]⟩
theorem it_str {x : Str} (h : EX X Γ e (.sh (.str x)) Γ1) : IterX X tg e Γ x.cps.size (fun i => .str (sgn x i)) Γ1 :=
  ⟨_, pi_str we_pe, fun F σ H S R' R q => h F σ H S _ R fun v H1 S1 R1 s1 ok => ⟨x, ok, q _ H1 S1 R1 s1 fun i H' sH => ⟨fun z => z, fun z => Nat.le_of_eq z.symm, fun y H2 hi yl => .inl ⟨yl.1, fun S' _ => by
    obtain ⟨_, cc, e1, e2⟩ := yl
    rw [e2]
    show V.str _ = V.str _
    unfold sgn
    rw [Array.getD_eq_getD_getElem?, e1]
    rfl⟩⟩⟩⟩
end
end PL

set_option Elab.async false
set_option linter.all false
set_option maxRecDepth 100000
set_option maxHeartbeats 1000000
namespace PL
open PySem PySem.Spec PyProof.Rows L2
theorem wipe_get {σ : L2.St} {j : Nat} : ∀ {vs : List Nat}, (wipe σ vs)[j]? = if j ∈ vs then (if j < σ.length then some none else none) else σ[j]?
  | [] => by rw [if_neg (by simp)]; rfl
  | i :: vs => by
    by_cases h : j ∈ i :: vs
    · rw [if_pos h]
      cases q : (wipe σ (i :: vs))[j]? with
      | none =>
        have := List.getElem?_eq_none_iff.mp q
        rw [wipe_length] at this
        rw [if_neg (by omega)]
      | some y =>
        have hl : j < σ.length := by
          have := (List.getElem?_eq_some_iff.mp q).1
          rw [wipe_length] at this
          exact this
        rw [if_pos hl]
        cases y with
        | none => rfl
        | some v => exact absurd h (wipe_some q).2
    · rw [if_neg h]
      exact wipe_out h
theorem wipe_set {σ : L2.St} {vs : List Nat} {i : Nat} {x : Option V} (h : i ∈ vs) : wipe (σ.set i x) vs = wipe σ vs := by
  refine List.ext_getElem? fun j => ?_
  rw [wipe_get, wipe_get, List.length_set]
  by_cases hj : j ∈ vs
  · rw [if_pos hj, if_pos hj]
  · rw [if_neg hj, if_neg hj, List.getElem?_set_ne (fun e : i = j => hj (e ▸ h))]
theorem wipe_wipe {σ : L2.St} {vs : List Nat} : wipe (wipe σ vs) vs = wipe σ vs := by
  refine List.ext_getElem? fun j => ?_
  rw [wipe_get, wipe_length]
  by_cases hj : j ∈ vs
  · rw [if_pos hj, wipe_get, if_pos hj]
  · rw [if_neg hj]
section
variable {K : PySem.W.Frag} {F : Fr} {Γ : Gm} {σ : L2.St} {H S : Hp} {vs : List Nat}
def UnAt (Γ : Gm) (vs : List Nat) : Prop := ∀ i, i ∈ vs → ∀ s, Γ[i]? = some s → s = .un
theorem ownAt_wipe {i : Nat} {a : Addr} (u : UnAt Γ vs) : OwnAt Γ (wipe σ vs) i a ↔ OwnAt Γ σ i a := by
  constructor
  · rintro ⟨h, q⟩
    refine ⟨h, ?_⟩
    exact (wipe_some q).1
  · rintro ⟨h, q⟩
    refine ⟨h, ?_⟩
    have ni : i ∉ vs := fun hi => by
      rcases h with ⟨o, z⟩ | ⟨p, o, z⟩
      · cases u i hi _ z
      · cases u i hi _ z
    rw [wipe_get, if_neg ni]
    exact q
theorem RS.wipe (R : RS K F Γ σ H S) (u : UnAt Γ vs) : RS K F Γ (L2.wipe σ vs) H S := by
  refine ⟨R.s0, R.sh, R.new, R.kp, R.th, fun i s e => ?_, fun i j a n x y => R.ne i j a n ((ownAt_wipe u).mp x) ((ownAt_wipe u).mp y), by rw [wipe_length]; exact R.len⟩
  by_cases hi : i ∈ vs
  · rw [u i hi s e]; trivial
  · rw [wipe_get, if_neg hi]
    exact R.sl i s e
theorem RS.unwipe (R : RS K F Γ (L2.wipe σ vs) H S) (u : UnAt Γ vs) : RS K F Γ σ H S := by
  refine ⟨R.s0, R.sh, R.new, R.kp, R.th, fun i s e => ?_, fun i j a n x y => R.ne i j a n ((ownAt_wipe u).mpr x) ((ownAt_wipe u).mpr y), by rw [← wipe_length σ vs]; exact R.len⟩
  by_cases hi : i ∈ vs
  · rw [u i hi s e]; trivial
  · have q := R.sl i s e
    rw [wipe_get, if_neg hi] at q
    exact q
/-- an object that is neither shared nor owned is changed -/
theorem RS.other (R : RS K F Γ σ H S) {p : Addr} {x : HO} (n : S p = none) (n0 : F.H0 p = none) (no : ¬ Own Γ σ p) : RS K F Γ σ (upd H p x) S := by
  refine ⟨R.s0, fun b u e => ?_, R.new, fun b u nb e => ?_, fun b u e => ?_, fun j t e => ?_, R.ne, R.len⟩
  · rw [upd_ne (fun hb : b = p => by rw [hb, n] at e; cases e)]
    exact R.sh b u e
  · rw [upd_ne (fun hb : b = p => by rw [hb, n0] at e; cases e)]
    exact R.kp b u nb e
  · rw [upd_ne (fun hb : b = p => by rw [hb, n0] at e; cases e)]
    exact R.th b u e
  · have w := R.sl j t e
    have kept : ∀ b, OwnAt Γ σ j b → ∀ u, H b = some u → (upd H p x) b = some u := fun b ob u z => by
      rw [upd_ne (fun hb : b = p => no ⟨j, by rw [← hb]; exact ob⟩)]
      exact z
    cases t with
    | un => trivial
    | sh d => exact w
    | ow o2 => obtain ⟨b, e1, e2, e3, e4⟩ := w; exact ⟨b, e1, e2, e3, e4.mono (.refl _) (kept b ⟨.inl ⟨o2, e⟩, e1⟩)⟩
    | pr p2 o2 => obtain ⟨e1, e2, e3, e4⟩ := w; exact ⟨e1, e2, e3, e4.mono (.refl _) (kept p2 ⟨.inr ⟨p2, o2, e⟩, e1⟩)⟩
end
/-- a comprehension's block -/
abbrev bk (X : Cx) (scope : Scope) (s : Shared) (H : Hp) (C : Addr) (cl : List (Str × Addr)) (fp : List Addr) : Cx := X.blk s H scope (compEnvC scope cl C X.env) fp
theorem Gd.blk {k : Nat} {X : Cx} (g : Gd k X) {scope : Scope} {s : Shared} {H : Hp} {C : Addr} {cl : List (Str × Addr)} {fp : List Addr} : Gd k (bk X scope s H C cl fp) := ⟨g.calm, g.nd, PassesOwn.never, g.rm⟩
/-- what a comprehension's target does: its reading, the slots, the state behind it -/
structure Tgt (g : TG) (K : PySem.W.Frag) (vs : List Nat) (Γ : Gm) (d : D) (Γ' : Gm) : Prop where
  run : ∀ F σ H S v (Q : L2.St → Hp → Prop), RS K F Γ σ H S → Rep K S d v → (∀ σ', L2.wipe σ' vs = L2.wipe σ vs → RS K F Γ' σ' H S → Q σ' H) → g v σ H Q
theorem tgt_name {K : PySem.W.Frag} {vs : List Nat} {Γ : Gm} {d : D} (i : Nat) (hi : i ∈ vs) (hl : i < Γ.length) : Tgt (gName i) K vs Γ d (Γ.set i (.sh d)) :=
  ⟨fun F σ H S v Q R ok q => q _ (wipe_set hi) (R.put (r := .sh d) hl ok (fun _ z => by cases z))⟩
theorem tgt_two {K : PySem.W.Frag} {vs : List Nat} {Γ : Gm} {d1 d2 : D} (i j : Nat) (hi : i ∈ vs) (hj : j ∈ vs) (hl : i < Γ.length) (hl2 : j < Γ.length) : Tgt (gTup K 2 (gCons (gName i) (gCons (gName j) gNil))) K vs Γ (.tup [d1, d2]) ((Γ.set i (.sh d1)).set j (.sh d2)) :=
  ⟨fun F σ H S v Q R ok q => by
    obtain ⟨p, us, rfl, h1, h2⟩ := ok
    obtain ⟨v1, r1, rfl, o1, v2, r2, rfl, o2, o3⟩ := h2
    obtain rfl : r2 = [] := o3
    refine ⟨p, _, rfl, same_sqt R.sh h1, rfl, v1, _, rfl, v2, _, rfl, rfl, q _ ?_ ?_⟩
    · rw [wipe_set hj, wipe_set hi]
    · exact (R.put (r := .sh d1) hl o1 (fun _ z => by cases z)).put (r := .sh d2) (by rw [List.length_set]; exact hl2) o2 (fun _ z => by cases z)⟩
section
variable {X : Cx} {Γ Γ1 : Gm} {tg iter elt : Ex} {ifs : List Ex} {scope : Scope} {own : List (Str × Nat)} {pos : Pos} {n k : Nat} {it f : Nat → D} {t : Nat → Bool} {g : TG}
/-- the items taken up to turn j -/
def took (t : Nat → Bool) (f : Nat → D) (j : Nat) : List D := ((List.range j).filter t).map f
theorem took_succ {j : Nat} : took t f (j + 1) = if t j = true then took t f j ++ [f j] else took t f j := by
  unfold took
  rw [List.range_succ, List.filter_append, List.map_append]
  by_cases h : t j = true
  · rw [if_pos h, List.filter_cons_of_pos h]; rfl
  · rw [if_neg h, List.filter_cons_of_neg h]; exact List.append_nil _
theorem took_len {j : Nat} : (took t f j).length ≤ j := by
  unfold took
  rw [List.length_map]
  exact Nat.le_trans (List.length_filter_le _ _) (by rw [List.length_range]; exact Nat.le_refl _)
theorem lc_read {wi : TI} {tt : TT} {te : TE} {vs : List Nat} (G B Bt Be : Nat → Gm) (hn : n ≤ sizeLine)
    (hq : ∀ F σ H S (R' : It → Hp → Prop), RS X.K F Γ σ H S → (∀ J H1 S1, RS X.K F Γ1 σ H1 S1 → Same S S1 → Walk X.K J n it S1 → R' J H1) → wi σ H R') (h0 : Cv X.K Γ1 (G 0)) (hu : ∀ j, j ≤ n → UnAt (G j) vs)
    (hg : ∀ j, j < n → Tgt g X.K vs (G j) (it j) (B j))
    (ht : ∀ j, j < n → ∀ F σ H S (Q : Bool → Hp → Prop), RS X.K F (B j) σ H S → (∀ H' S', RS X.K F (Bt j) σ H' S' → Same S S' → Q (t j) H') → tt σ H Q)
    (he : ∀ j, j < n → t j = true → ∀ F σ H S (Q : VK), RS X.K F (Bt j) σ H S → (∀ v H' S', RS X.K F (Be j) σ H' S' → Same S S' → Rep X.K S' (f j) v → Q v H') → te σ H Q)
    (hT : ∀ j, j < n → t j = true → Cv X.K (Be j) (G (j + 1))) (hF : ∀ j, j < n → t j = false → Cv X.K (Bt j) (G (j + 1)))
    {F : Fr} {σ : L2.St} {H S : Hp} {Q : VK} (R : RS X.K F Γ σ H S) (q : ∀ v H' S', RS X.K F (G n) σ H' S' → Same S S' → RsOk X.K F (G n) σ H' S' (.ow (.lst (took t f n))) v → Q v H') : tLc wi g tt te vs σ H Q := by
  refine hq F σ H S _ R fun J H1 S1 R1 s1 w => ?_
  intro Dd nD
  obtain ⟨S2, s2, R2⟩ := h0 F σ H1 S1 R1
  have R3 : RS X.K F (G 0) (L2.wipe σ vs) (upd H1 Dd (.lst [])) S2 := (R2.grow (same_upd nD)).wipe (hu 0 (Nat.zero_le _))
  have nD0 : F.H0 Dd = none := R2.h0None nD
  refine ⟨fun i m H' => m = n - i ∧ i ≤ n ∧ ∃ S' acc, RS X.K F (G i) (L2.wipe σ vs) H' S' ∧ Same S2 S' ∧ H' Dd = some (.lst acc) ∧ S' Dd = none ∧ ¬ Own (G i) (L2.wipe σ vs) Dd ∧ Reps X.K S' (took t f i) acc,
    ⟨n, rfl, Nat.zero_le _, S2, [], R3, .refl _, upd_same, R2.sNone nD, fun ow => ?_, rfl⟩, ?_⟩
  · obtain ⟨i, oi⟩ := ow
    exact R2.ownNone nD ⟨i, (ownAt_wipe (hu 0 (Nat.zero_le _))).mp oi⟩
  rintro i m H' ⟨rfl, hi, S', acc, R', s', hD, nS, nO, rp⟩
  have sS : Same S1 S' := s2.trans s'
  by_cases hlt : i < n
  · refine .inr ⟨(w i H' (sS.trans R'.sh)).1 hlt, fun H2 => ∃ S3 acc', RS X.K F (G (i + 1)) (L2.wipe σ vs) H2 S3 ∧ Same S2 S3 ∧ H2 Dd = some (.lst acc') ∧ S3 Dd = none ∧ ¬ Own (G (i + 1)) (L2.wipe σ vs) Dd ∧ Reps X.K S3 (took t f (i + 1)) acc', fun H2 h => ⟨n - (i + 1), by omega, rfl, hlt, h⟩, fun x H2 y => ?_⟩
    -- the frame of this very turn: what stands at Dd is kept
    have Rb := R'.rebase
    obtain ⟨S3, s3, R4, rx⟩ := w.take Rb sS hlt y
    refine (hg i hlt).run _ _ H2 S3 x _ R4 rx fun σ4 hw4 R5 => ⟨?_, ?_⟩
    · rw [hw4, wipe_wipe]
    refine ht i hlt _ σ4 H2 S3 _ R5 fun H6 S6 R6 s6 => ?_
    have fin : ∀ {Γx : Gm} {H7 S7 : Hp}, RS X.K (.here (G i) (L2.wipe σ vs) H' S') Γx σ4 H7 S7 → Cv X.K Γx (G (i + 1)) → ∃ S8, Same S7 S8 ∧ RS X.K F (G (i + 1)) (L2.wipe σ vs) H7 S8 ∧ H7 Dd = some (.lst acc) ∧ S8 Dd = none ∧ ¬ Own (G (i + 1)) (L2.wipe σ vs) Dd := fun {Γx H7 S7} R7 cv => by
      obtain ⟨S8, s8, R8⟩ := cv _ σ4 H7 S7 R7
      have k7 : H7 Dd = some (.lst acc) := R8.kp Dd _ nO hD
      have n8 : S8 Dd = none := R8.new Dd _ hD nO nS
      have o8 : ¬ Own (G (i + 1)) σ4 Dd := fun ⟨l, ol⟩ => by
        rcases (R8.own ol).2.1 with z | z
        · have z' : H' Dd = none := z
          rw [hD] at z'; cases z'
        · exact nO z
      have R9 := R'.back R8
      have R10 : RS X.K F (G (i + 1)) (L2.wipe σ vs) H7 S8 := by
        have z := R9.wipe (vs := vs) (hu (i + 1) hlt)
        rw [hw4, wipe_wipe] at z
        exact z
      refine ⟨S8, s8, R10, k7, n8, fun ⟨l, ol⟩ => o8 ⟨l, ?_⟩⟩
      have z := (ownAt_wipe (σ := σ4) (hu (i + 1) hlt)).mp (by rw [hw4, wipe_wipe]; exact ol)
      exact z
    cases hti : t i with
    | false =>
      refine iteF ?_
      obtain ⟨S8, s8, R8, k8, n8, o8⟩ := fin R6 (hF i hlt hti)
      refine ⟨S8, acc, R8, ((s'.trans s3).trans s6).trans s8, k8, n8, o8, ?_⟩
      rw [took_succ, if_neg (by rw [hti]; decide)]
      exact Reps.mono ((s3.trans s6).trans s8) _ _ rp
    | true =>
      refine iteT (he i hlt hti _ σ4 H6 S6 _ R6 fun v H7 S7 R7 s7 rv => ?_)
      obtain ⟨S8, s8, R8, k8, n8, o8⟩ := fin R7 (hT i hlt hti)
      have al : acc.length < sizeLine := by
        rw [← rp.length]
        exact Nat.lt_of_le_of_lt took_len (Nat.lt_of_lt_of_le hlt hn)
      refine ⟨acc, k8, al, S8, acc ++ [v], R8.other n8 nD0 o8, (((s'.trans s3).trans s6).trans s7).trans s8, upd_same, n8, o8, ?_⟩
      rw [took_succ, if_pos hti]
      exact (Reps.mono (((s3.trans s6).trans s7).trans s8) _ _ rp).append (.one (Rep.mono s8 _ _ rv))
  · obtain rfl : i = n := by omega
    refine .inl ⟨(w i H' (sS.trans R'.sh)).2.1 rfl, q _ H' S' (R'.unwipe (hu i (Nat.le_refl _))) ((s1.trans s2).trans s') ⟨Dd, rfl, nS, nD0, ⟨acc, hD, rp⟩, fun ⟨l, ol⟩ => nO ⟨l, (ownAt_wipe (hu i (Nat.le_refl _))).mpr ol⟩⟩⟩
/-- what a comprehension does, turn by turn -/
structure LcX (X : Cx) (Γ : Gm) (tg iter : Ex) (ifs : List Ex) (elt : Ex) (scope : Scope) (own : List (Str × Nat)) (n : Nat) (t : Nat → Bool) (f : Nat → D) (Γ' : Gm) : Prop where
  run : ∃ (it : Nat → D) (Γ1 : Gm) (g : TG) (G B Bt Be : Nat → Gm), n ≤ sizeLine ∧ IterX X tg iter Γ n it Γ1 ∧ BlkOk X.N X.env.scope scope own ∧ Cv X.K Γ1 (G 0) ∧ (∀ j, j ≤ n → UnAt (G j) (own.map (·.2))) ∧
    (∀ s H C cl fp, PG (bk X scope s H C cl fp) tg g) ∧ (∀ j, j < n → Tgt g X.K (own.map (·.2)) (G j) (it j) (B j)) ∧
    ((ifs = [] ∧ (∀ j, t j = true) ∧ Bt = B) ∨ ∃ c, ifs = [c] ∧ ∀ j, j < n → ∀ s H C cl fp, TX (bk X scope s H C cl fp) (B j) c (t j) (Bt j)) ∧
    (∀ j, j < n → t j = true → ∀ s H C cl fp, EX (bk X scope s H C cl fp) (Bt j) elt (.sh (f j)) (Be j)) ∧ (∀ j, j < n → t j = true → Cv X.K (Be j) (G (j + 1))) ∧ (∀ j, j < n → t j = false → Cv X.K (Bt j) (G (j + 1))) ∧ Γ' = G n
def teC (X : Cx) (scope : Scope) (elt : Ex) : TE := fun σ H Q => ∀ s H' C cl fp, WE (bk X scope s H' C cl fp) elt σ H Q
def ttC (X : Cx) (scope : Scope) (c : Ex) : TT := fun σ H Q => ∀ s H' C cl fp, WT (bk X scope s H' C cl fp) c σ H Q
theorem LcX.reads {Γ' : Gm} (h : LcX X Γ tg iter ifs elt scope own n t f Γ') : ∃ wi g tt, PI X tg iter wi ∧ BlkOk X.N X.env.scope scope own ∧ (∀ s H C cl fp, PG (bk X scope s H C cl fp) tg g) ∧ (∀ s H C cl fp, PTs (bk X scope s H C cl fp) ifs tt) ∧ (∀ s H C cl fp, PE (bk X scope s H C cl fp) elt (teC X scope elt)) ∧
    ∀ F σ H S (Q : VK), RS X.K F Γ σ H S → (∀ v H' S', RS X.K F Γ' σ H' S' → Same S S' → RsOk X.K F Γ' σ H' S' (.ow (.lst (took t f n))) v → Q v H') → tLc wi g tt (teC X scope elt) (own.map (·.2)) σ H Q := by
  obtain ⟨it, Γ1, g, G, B, Bt, Be, hn, ⟨wi, hw, hq⟩, hbk, h0, hu, hpg, hg, hif, he, hT, hF, rfl⟩ := h.run
  have pe : ∀ s H C cl fp, PE (bk X scope s H C cl fp) elt (teC X scope elt) := fun s H C cl fp => ⟨fun pins s1 σ H1 Q I h => h s H C cl fp pins s1 I⟩
  have eh : ∀ j, j < n → t j = true → ∀ F σ H S (Q : VK), RS X.K F (Bt j) σ H S → (∀ v H' S', RS X.K F (Be j) σ H' S' → Same S S' → Rep X.K S' (f j) v → Q v H') → teC X scope elt σ H Q := fun j hj tj F σ H S Q R q s H' C cl fp => he j hj tj s H' C cl fp F σ H S Q R q
  rcases hif with ⟨rfl, ht, rfl⟩ | ⟨c, rfl, ht⟩
  · refine ⟨wi, g, tYes, hw, hbk, hpg, fun _ _ _ _ _ => pts_nil, pe, fun F σ H S Q R q => lc_read G Bt Bt Be hn hq h0 hu hg (fun j hj F σ H S Q R q => ?_) eh hT hF R q⟩
    have z := q H S R (.refl _)
    rw [ht j] at z
    exact z
  · exact ⟨wi, g, ttC X scope c, hw, hbk, hpg, fun s H C cl fp => pts_one ⟨fun pins s1 σ H1 Q I h => h s H C cl fp pins s1 I⟩, pe, fun F σ H S Q R q => lc_read G B Bt Be hn hq h0 hu hg (fun j hj F σ H S Q R q s H' C cl fp => ht j hj s H' C cl fp F σ H S Q R q) eh hT hF R q⟩
theorem e_lc {Γ' : Gm} (gd : Gd k X) (h : LcX X Γ tg iter ifs elt scope own n t f Γ') (hs : ∀ x, foldedSetIterable iter X.env x = pure x := by intro _; rfl) : EX X Γ (.ListComp elt [⟨tg, iter, ifs, 0⟩] scope pos) (.ow (.lst (took t f n))) Γ' := fun F σ H S Q R q => by
  obtain ⟨wi, g, tt, hw, hbk, hpg, hpt, hpe, hq⟩ := h.reads
  exact pe_we (pe_lc gd.calm gd.nd hw hbk hpg hpt hpe hs) (hq F σ H S Q R q)
theorem s1_setLc {Γ' : Gm} (i : Nat) {y : Str} {py spos : Pos} (gd : Gd k X) (h : LcX X Γ tg iter ifs elt scope own n t f Γ') (hl : i < Γ'.length := by exact Nat.le_of_ble_eq_true rfl) (hy : X.N[i]? = some y := by rfl) (hyl : X.env.scope.names.lookup y = some .local := by rfl)
    (hsw : swapsWith (.ListComp elt [⟨tg, iter, ifs, 0⟩] scope pos) (some (.Name y py)) spos.line X.env = pure true := by exact sw_true rfl rfl rfl (by decide +kernel)) (hs : ∀ x, foldedSetIterable iter X.env x = pure x := by intro _; rfl) : S1 X Γ (.Assign [.Name y py] (.ListComp elt [⟨tg, iter, ifs, 0⟩] scope pos) spos) (.nx (Γ'.set i (.ow (.lst (took t f n))))) := fun F σ H S D R q => by
  obtain ⟨wi, g, tt, hw, hbk, hpg, hpt, hpe, hq⟩ := h.reads
  exact ps_w1 (ps_setLc gd.calm gd.nd hy hyl hsw hw hbk hpg hpt hpe hs) (hq F σ H S _ R fun v H1 S1 R1 s1 ok => q _ H1 S1 (R1.put hl ok (fun _ z => by cases z)) s1)
end
end PL

set_option Elab.async false
set_option linter.all false
set_option maxRecDepth 100000
set_option maxHeartbeats 1000000
namespace PL
open PySem PySem.Spec PyProof.Rows L2
section
variable {X : Cx} {d d1 d2 : D}
theorem ops_sc {f : Value → Value → Sem Value} {rr : R2} (h : OpR X f rr) (v : V) (hv : ∀ S, Rep X.K S d v) (hd : ∀ H S x y (Q : VK), Same S H → Rep X.K S d1 x → Rep X.K S d2 y → Q v H → rr x y H Q) : OpS X f d1 d2 (.sh d) :=
  ⟨rr, h, fun Γ F σ H S x y Q R r1 r2 q => hd H S x y Q R.sh r1 r2 (q v H S R (.refl _) (hv S))⟩
variable {i j : Int} {a b : Str}
theorem o_addI : OpS X (binaryOp .Add) (.int i) (.int j) (.sh (.int (i + j))) := ops_sc op_add (.int (i + j)) (fun _ => rfl) fun H S x y Q _ r1 r2 q => ⟨i, j, r1, r2, q⟩
theorem o_subI : OpS X (binaryOp .Sub) (.int i) (.int j) (.sh (.int (i - j))) := ops_sc op_sub (.int (i - j)) (fun _ => rfl) fun H S x y Q _ r1 r2 q => ⟨i, j, r1, r2, q⟩
theorem o_mulI (hc : CMul i j) : OpS X (binaryOp .Mult) (.int i) (.int j) (.sh (.int (i * j))) := ops_sc op_mul (.int (i * j)) (fun _ => rfl) fun H S x y Q _ r1 r2 q => ⟨i, j, r1, r2, hc, q⟩
theorem o_mulW (hc : CMulW i j) : OpS X (binaryOp .Mult) (.int i) (.int j) (.sh (.int (i * j))) := ops_sc op_mulW (.int (i * j)) (fun _ => rfl) fun H S x y Q _ r1 r2 q => ⟨i, j, r1, r2, hc, q⟩
theorem o_mod (hc : 0 < j) : OpS X (binaryOp .Mod) (.int i) (.int j) (.sh (.int (i % j))) := ops_sc op_mod (.int (i % j)) (fun _ => rfl) fun H S x y Q _ r1 r2 q => ⟨i, j, r1, r2, hc, q⟩
theorem o_fdiv (hc : CDiv i j) : OpS X (binaryOp .FloorDiv) (.int i) (.int j) (.sh (.int (i / j))) := ops_sc op_fdiv (.int (i / j)) (fun _ => rfl) fun H S x y Q _ r1 r2 q => ⟨i, j, r1, r2, hc, q⟩
theorem o_fdivW (hc : CDivW i j) : OpS X (binaryOp .FloorDiv) (.int i) (.int j) (.sh (.int (i / j))) := ops_sc op_fdivW (.int (i / j)) (fun _ => rfl) fun H S x y Q _ r1 r2 q => ⟨i, j, r1, r2, hc, q⟩
theorem o_pow (hc : CPow i j) : OpS X (binaryOp .Pow) (.int i) (.int j) (.sh (.int (i ^ j.toNat))) := ops_sc op_pow (.int (i ^ j.toNat)) (fun _ => rfl) fun H S x y Q _ r1 r2 q => ⟨i, j, r1, r2, hc, q⟩
theorem o_addS (hl : a.length + b.length ≤ sizeLine) : OpS X (binaryOp .Add) (.str a) (.str b) (.sh (.str (a ++ b))) := ops_sc op_add_str (.str (a ++ b)) (fun _ => rfl) fun H S x y Q _ r1 r2 q => ⟨a, b, r1, r2, hl, q⟩
theorem o_lt : OpS X (compareOp .Lt) (.int i) (.int j) (.sh (.bl (decide (i < j)))) := ops_sc op_lt (.bl _) (fun _ => rfl) fun H S x y Q _ r1 r2 q => ⟨i, j, r1, r2, q⟩
theorem o_le : OpS X (compareOp .LtE) (.int i) (.int j) (.sh (.bl (decide (i ≤ j)))) := ops_sc op_le (.bl _) (fun _ => rfl) fun H S x y Q _ r1 r2 q => ⟨i, j, r1, r2, q⟩
theorem o_gt : OpS X (compareOp .Gt) (.int i) (.int j) (.sh (.bl (decide (j < i)))) := ops_sc op_gt (.bl _) (fun _ => rfl) fun H S x y Q _ r1 r2 q => ⟨i, j, r1, r2, q⟩
theorem o_ge : OpS X (compareOp .GtE) (.int i) (.int j) (.sh (.bl (decide (j ≤ i)))) := ops_sc op_ge (.bl _) (fun _ => rfl) fun H S x y Q _ r1 r2 q => ⟨i, j, r1, r2, q⟩
theorem o_eqI : OpS X (compareOp .Eq) (.int i) (.int j) (.sh (.bl (decide (i = j)))) := ops_sc op_eq (.bl _) (fun _ => rfl) fun H S x y Q _ r1 r2 q => by
  obtain rfl : x = .int i := r1
  obtain rfl : y = .int j := r2
  exact ⟨rfl, by simpa [V.int.injEq] using q⟩
theorem o_neI : OpS X (compareOp .NotEq) (.int i) (.int j) (.sh (.bl (!decide (i = j)))) := ops_sc op_ne (.bl _) (fun _ => rfl) fun H S x y Q _ r1 r2 q => by
  obtain rfl : x = .int i := r1
  obtain rfl : y = .int j := r2
  exact ⟨rfl, by simpa [V.int.injEq] using q⟩
theorem o_eqS : OpS X (compareOp .Eq) (.str a) (.str b) (.sh (.bl (decide (a = b)))) := ops_sc op_eq (.bl _) (fun _ => rfl) fun H S x y Q _ r1 r2 q => by
  obtain rfl : x = .str a := r1
  obtain rfl : y = .str b := r2
  exact ⟨rfl, by simpa [V.str.injEq] using q⟩
theorem o_neS : OpS X (compareOp .NotEq) (.str a) (.str b) (.sh (.bl (!decide (a = b)))) := ops_sc op_ne (.bl _) (fun _ => rfl) fun H S x y Q _ r1 r2 q => by
  obtain rfl : x = .str a := r1
  obtain rfl : y = .str b := r2
  exact ⟨rfl, by simpa [V.str.injEq] using q⟩
def isNon : D → Bool
  | .non => true
  | _ => false
theorem rep_non {K : PySem.W.Frag} {S : Hp} {v : V} (hr : ∀ u, d ≠ .raw u) (r : Rep K S d v) : decide (v = .non) = isNon d := by
  cases d with
  | non => rw [show v = .non from r]; rfl
  | bl b => rw [show v = .bl b from r]; rfl
  | int b => rw [show v = .int b from r]; rfl
  | str b => rw [show v = .str b from r]; rfl
  | raw u => exact (hr u rfl).elim
  | tup ds => obtain ⟨p, vs, rfl, _⟩ := r; rfl
  | lst ds => obtain ⟨p, vs, rfl, _⟩ := r; rfl
  | fls ds => obtain ⟨p, vs, rfl, _⟩ := r; rfl
  | obj C ns ds => obtain ⟨p, dx, vs, rfl, _⟩ := r; rfl
  | dct ks ds => obtain ⟨p, vs, rfl, _⟩ := r; rfl
  | ext φ => obtain ⟨p, rfl, _⟩ := r; rfl
  | exc _ _ _ => obtain ⟨p, _, _, rfl, _⟩ := r; rfl
theorem o_isN (hr : ∀ u, d ≠ .raw u := by intro _ z; cases z) : OpS X (compareOp .Is) d .non (.sh (.bl (isNon d))) := ops_sc op_isN (.bl _) (fun _ => rfl) fun H S x y Q _ r1 r2 q => by
  refine ⟨r2, ?_⟩
  rw [rep_non hr r1]
  exact q
theorem o_notN (hr : ∀ u, d ≠ .raw u := by intro _ z; cases z) : OpS X (compareOp .IsNot) d .non (.sh (.bl (!isNon d))) := ops_sc op_notN (.bl _) (fun _ => rfl) fun H S x y Q _ r1 r2 q => by
  refine ⟨r2, ?_⟩
  rw [rep_non hr r1]
  exact q
theorem o_inSign {c : Nat} : OpS X (compareOp .In) (.str ⟨#[c]⟩) (.str b) (.sh (.bl (decide (c ∈ b.cps.toList)))) := ops_sc op_in_sign (.bl _) (fun _ => rfl) fun H S x y Q _ r1 r2 q => ⟨c, b, r1, r2, q⟩
/-! ### sequences -/
variable {ds es : List D}
theorem o_catT (hl : ds.length + es.length ≤ sizeLine) : OpS X (binaryOp .Add) (.tup ds) (.tup es) (.sh (.tup (ds ++ es))) := ⟨_, op_catA, fun Γ F σ H S x y Q R r1 r2 q => by
  obtain ⟨p, vs, rfl, h1, h2⟩ := id r1
  obtain ⟨p', us, rfl, h3, h4⟩ := id r2
  have l1 := h2.length
  have l2 := h4.length
  refine ⟨p, p', vs, us, rfl, rfl, same_sqt R.sh h1, same_sqt R.sh h3, by omega, fun e => ?_, fun _ e => ?_, fun _ _ l n => ?_⟩
  · subst e
    obtain rfl : ds = [] := List.eq_nil_of_length_eq_zero l1
    exact q _ H S R (.refl _) r2
  · subst e
    obtain rfl : es = [] := List.eq_nil_of_length_eq_zero l2
    rw [List.append_nil] at q
    exact q _ H S R (.refl _) r1
  · obtain ⟨R2, s2⟩ := R.laid (o := .tup (vs ++ us)) n
    exact q _ _ _ R2 s2 ⟨l, _, rfl, .of upd_same, Reps.mono s2 _ _ (h2.append h4)⟩⟩
theorem o_catL (hl : ds.length + es.length ≤ sizeLine) : OpS X (binaryOp .Add) (.lst ds) (.lst es) (.ow (.lst (ds ++ es))) := ⟨_, op_cat, fun Γ F σ H S x y Q R r1 r2 q => by
  obtain ⟨p, vs, rfl, h1, h2⟩ := r1
  obtain ⟨p', us, rfl, h3, h4⟩ := r2
  refine ⟨p, p', vs, us, rfl, rfl, R.sh _ _ h1, R.sh _ _ h3, by rw [← h2.length, ← h4.length]; exact hl, fun l n => q _ _ S (R.grow (same_upd n)) (.refl _) ⟨l, rfl, R.sNone n, R.h0None n, ⟨_, upd_same, h2.append h4⟩, R.ownNone n⟩⟩⟩
theorem o_repL {k : Int} (h1 : -(2 ^ 63) ≤ k) (h2 : k < 2 ^ 63) (hl : ds.length * k.toNat ≤ sizeLine) : OpS X (binaryOp .Mult) (.lst ds) (.int k) (.ow (.lst (List.replicate k.toNat ds).flatten)) := ⟨_, op_rep, fun Γ F σ H S x y Q R r1 r2 q => by
  obtain ⟨p, vs, rfl, h3, h4⟩ := r1
  refine ⟨p, k, vs, rfl, r2, R.sh _ _ h3, h1, h2, by rw [← h4.length]; exact hl, fun l n => q _ _ S (R.grow (same_upd n)) (.refl _) ⟨l, rfl, R.sNone n, R.h0None n, ⟨_, upd_same, h4.rep _⟩, R.ownNone n⟩⟩⟩
theorem o_repT {k : Int} (h0 : ds ≠ []) (h1 : 2 ≤ k) (h2 : k ≤ 1000) (hl : ds.length ≤ 1000) : OpS X (binaryOp .Mult) (.tup ds) (.int k) (.sh (.tup (List.replicate k.toNat ds).flatten)) := ⟨_, op_repT, fun Γ F σ H S x y Q R r1 r2 q => by
  obtain ⟨p, vs, rfl, h3, h4⟩ := r1
  have hl' := h4.length
  refine ⟨p, k, vs, rfl, r2, same_sqt R.sh h3, fun e => h0 (List.eq_nil_of_length_eq_zero (by rw [hl', e]; rfl)), h1, h2, by omega, fun l n => ?_⟩
  obtain ⟨R2, s2⟩ := R.laid (o := .tup (List.replicate k.toNat vs).flatten) n
  exact q _ _ _ R2 s2 ⟨l, _, rfl, .of upd_same, Reps.mono s2 _ _ (h4.rep _)⟩⟩
/-! ### items -/
theorem Reps.atI {K : PySem.W.Frag} {S : Hp} {vs : List V} (r : Reps K S ds vs) (h : L2.atI ds i = some d) : ∃ v, L2.atI vs i = some v ∧ Rep K S d v := by
  unfold L2.atI at h ⊢
  rw [← r.length]
  cases e : ixN ds.length i with
  | none => rw [e] at h; cases h
  | some k =>
    rw [e] at h
    exact r.get h
theorem i_list (h : atI ds i = some d) : IxS X (.lst ds) (.int i) (.sh d) := ⟨_, ix_list, fun Γ F σ H S x y Q R r1 r2 q => by
  obtain ⟨p, vs, rfl, h1, h2⟩ := r1
  obtain ⟨v, e1, e2⟩ := h2.atI h
  exact ⟨p, vs, i, v, rfl, r2, .of (R.sh _ _ h1), e1, q v H S R (.refl _) e2⟩⟩
theorem i_tup (h : atI ds i = some d) : IxS X (.tup ds) (.int i) (.sh d) := ⟨_, ix_tup, fun Γ F σ H S x y Q R r1 r2 q => by
  obtain ⟨p, vs, rfl, h1, h2⟩ := r1
  obtain ⟨v, e1, e2⟩ := h2.atI h
  exact ⟨p, vs, i, v, rfl, r2, same_sqt R.sh h1, e1, q v H S R (.refl _) e2⟩⟩
theorem i_str {c : Nat} (hl : a.length ≤ sizeLine) (h : atI a.cps.toList i = some c) : IxS X (.str a) (.int i) (.sh (.str ⟨#[c]⟩)) := ⟨_, ix_str, fun Γ F σ H S x y Q R r1 r2 q => ⟨a, i, c, r1, r2, hl, h, q _ H S R (.refl _) rfl⟩⟩
/-! ### slices -/
def cutL {α : Type} (xs : List α) (lo hi : Option Int) : List α := (xs.drop (HT.sIx xs.length 0 lo)).take (HT.sIx xs.length xs.length hi - HT.sIx xs.length 0 lo)
theorem Reps.cut {K : PySem.W.Frag} {S : Hp} {vs : List V} {lo hi : Option Int} (r : Reps K S ds vs) : Reps K S (cutL ds lo hi) (cutV vs lo hi) := by
  unfold cutL cutV
  rw [r.length]
  exact (r.drop _).take _
theorem l_list {lo hi : Option Int} : SlS X (.lst ds) lo hi (.ow (.lst (cutL ds lo hi))) := ⟨_, sl_list, fun Γ F σ H S x Q R r1 q => by
  obtain ⟨p, vs, rfl, h1, h2⟩ := r1
  exact ⟨p, vs, rfl, .of (R.sh _ _ h1), fun l n => q _ _ S (R.grow (same_upd n)) (.refl _) ⟨l, rfl, R.sNone n, R.h0None n, ⟨_, upd_same, h2.cut⟩, R.ownNone n⟩⟩⟩
theorem l_fls {lo hi : Option Int} : SlS X (.fls ds) lo hi (.ow (.lst (cutL ds lo hi))) := ⟨_, sl_list, fun Γ F σ H S x Q R r1 q => by
  obtain ⟨p, vs, rfl, h1, h2⟩ := r1
  exact ⟨p, vs, rfl, R.sh.seq h1, fun l n => q _ _ S (R.grow (same_upd n)) (.refl _) ⟨l, rfl, R.sNone n, R.h0None n, ⟨_, upd_same, h2.cut⟩, R.ownNone n⟩⟩⟩
theorem cutL_all {α : Type} {xs : List α} {lo hi : Option Int} (h : HT.sIx xs.length 0 lo = 0 ∧ HT.sIx xs.length xs.length hi = xs.length) : cutL xs lo hi = xs := by
  unfold cutL
  rw [h.1, h.2]
  simp
theorem l_tup {lo hi : Option Int} : SlS X (.tup ds) lo hi (.sh (.tup (cutL ds lo hi))) := ⟨_, sl_tupA, fun Γ F σ H S x Q R r1 q => by
  obtain ⟨p, vs, rfl, h1, h2⟩ := id r1
  have hl := h2.length
  refine ⟨p, vs, rfl, same_sqt R.sh h1, fun h => ?_, fun _ l n => ?_⟩
  · rw [← hl] at h
    rw [cutL_all h] at q
    exact q _ H S R (.refl _) r1
  · obtain ⟨R2, s2⟩ := R.laid (o := .tup (cutV vs lo hi)) n
    exact q _ _ _ R2 s2 ⟨l, _, rfl, .of upd_same, Reps.mono s2 _ _ h2.cut⟩⟩
theorem l_str {lo hi : Option Int} (hl : a.length ≤ sizeLine) : SlS X (.str a) lo hi (.sh (.str (cutS a lo hi))) := ⟨_, sl_str, fun Γ F σ H S x Q R r1 q => ⟨a, r1, hl, q _ H S R (.refl _) rfl⟩⟩
/-! ### calls -/
theorem calls_sc {f : Value} {rr : List V → Hp → VK → Prop} {xs : List D} (h : CallR X f rr) (v : V) (hv : ∀ S, Rep X.K S d v) (hd : ∀ H S vs (Q : VK), Same S H → Reps X.K S xs vs → Q v H → rr vs H Q) : CallS X f xs (.sh d) :=
  ⟨rr, h, fun Γ F σ H S vs Q R r q => hd H S vs Q R.sh r (q v H S R (.refl _) (hv S))⟩
theorem reps1 {K : PySem.W.Frag} {S : Hp} {vs : List V} (r : Reps K S [d] vs) : ∃ v, vs = [v] ∧ Rep K S d v := by
  obtain ⟨v, r, rfl, o1, o2⟩ := r
  exact ⟨v, by rw [show r = [] from o2], o1⟩
theorem reps2 {K : PySem.W.Frag} {S : Hp} {vs : List V} (r : Reps K S [d1, d2] vs) : ∃ v w, vs = [v, w] ∧ Rep K S d1 v ∧ Rep K S d2 w := by
  obtain ⟨v, r, rfl, o1, w, r2, rfl, o2, o3⟩ := r
  exact ⟨v, w, by rw [show r2 = [] from o3], o1, o2⟩
theorem c_lenL : CallS X (.builtin "len") [.lst ds] (.sh (.int ds.length)) := calls_sc call_len_seq (.int ds.length) (fun _ => rfl) fun H S vs Q s r q => by
  obtain ⟨v, rfl, p, us, rfl, h1, h2⟩ := reps1 r
  exact ⟨p, us, rfl, .inl (.of (s _ _ h1)), by rw [← h2.length]; exact q⟩
theorem c_lenF : CallS X (.builtin "len") [.fls ds] (.sh (.int ds.length)) := calls_sc call_len_seq (.int ds.length) (fun _ => rfl) fun H S vs Q s r q => by
  obtain ⟨v, rfl, p, us, rfl, h1, h2⟩ := reps1 r
  exact ⟨p, us, rfl, .inl (s.seq h1), by rw [← h2.length]; exact q⟩
theorem c_lenT : CallS X (.builtin "len") [.tup ds] (.sh (.int ds.length)) := calls_sc call_len_seq (.int ds.length) (fun _ => rfl) fun H S vs Q s r q => by
  obtain ⟨v, rfl, p, us, rfl, h1, h2⟩ := reps1 r
  exact ⟨p, us, rfl, .inr (same_sqt s h1), by rw [← h2.length]; exact q⟩
theorem c_lenS (hl : a.length ≤ sizeLine) : CallS X (.builtin "len") [.str a] (.sh (.int a.length)) := calls_sc call_len_str (.int a.length) (fun _ => rfl) fun H S vs Q s r q => by
  obtain ⟨v, rfl, rfl⟩ := reps1 r
  exact ⟨a, rfl, hl, q⟩
theorem c_tupL : CallS X (.type "tuple") [.lst ds] (.sh (.tup ds)) := ⟨_, call_tuple_of, fun Γ F σ H S vs Q R r q => by
  obtain ⟨v, rfl, p, us, rfl, h1, h2⟩ := reps1 r
  refine ⟨p, us, rfl, .inl ⟨.of (R.sh _ _ h1), fun l n => ?_⟩⟩
  obtain ⟨R2, s2⟩ := R.laid (o := .tup us) n
  exact q _ _ _ R2 s2 ⟨l, us, rfl, .of upd_same, Reps.mono s2 _ _ h2⟩⟩
theorem c_tupT : CallS X (.type "tuple") [.tup ds] (.sh (.tup ds)) := ⟨_, call_tuple_of, fun Γ F σ H S vs Q R r q => by
  obtain ⟨v, rfl, rp⟩ := reps1 r
  obtain ⟨p, us, rfl, h1, h2⟩ := id rp
  exact ⟨p, us, rfl, .inr ⟨same_sqt R.sh h1, q _ H S R (.refl _) rp⟩⟩⟩
theorem c_listL : CallS X (.type "list") [.lst ds] (.ow (.lst ds)) := ⟨_, call_list_of, fun Γ F σ H S vs Q R r q => by
  obtain ⟨v, rfl, p, us, rfl, h1, h2⟩ := reps1 r
  exact ⟨p, us, rfl, .inl (.of (R.sh _ _ h1)), fun l n => q _ _ S (R.grow (same_upd n)) (.refl _) ⟨l, rfl, R.sNone n, R.h0None n, ⟨_, upd_same, h2⟩, R.ownNone n⟩⟩⟩
theorem c_listT : CallS X (.type "list") [.tup ds] (.ow (.lst ds)) := ⟨_, call_list_of, fun Γ F σ H S vs Q R r q => by
  obtain ⟨v, rfl, p, us, rfl, h1, h2⟩ := reps1 r
  exact ⟨p, us, rfl, .inr (same_sqt R.sh h1), fun l n => q _ _ S (R.grow (same_upd n)) (.refl _) ⟨l, rfl, R.sNone n, R.h0None n, ⟨_, upd_same, h2⟩, R.ownNone n⟩⟩⟩
theorem c_sum {ns : List Int} (hc : X.calm = true) : CallS X (.builtin "sum") [.lst (ns.map .int)] (.sh (.int ns.sum)) := calls_sc (cr_sum hc) (.int ns.sum) (fun _ => rfl) fun H S vs Q s r q => by
  obtain ⟨v, rfl, p, us, rfl, h1, h2⟩ := reps1 r
  rw [h2.ints] at h1
  exact ⟨p, ns, rfl, .of (s _ _ h1), q⟩
theorem c_all {ns : List Bool} (hc : X.calm = true) : CallS X (.builtin "all") [.lst (ns.map .bl)] (.sh (.bl (ns.all id))) := calls_sc (cr_all hc) (.bl _) (fun _ => rfl) fun H S vs Q s r q => by
  obtain ⟨v, rfl, p, us, rfl, h1, h2⟩ := reps1 r
  rw [h2.bls] at h1
  exact ⟨p, ns, rfl, .of (s _ _ h1), q⟩
theorem c_abs : CallS X (.builtin "abs") [.int i] (.sh (.int (if i < 0 then -i else i))) := calls_sc call_abs (.int _) (fun _ => rfl) fun H S vs Q s r q => by
  obtain ⟨v, rfl, rfl⟩ := reps1 r
  exact ⟨i, rfl, q⟩
theorem c_max2 (hc : X.calm = true) : CallS X (.builtin "max") [.int i, .int j] (.sh (.int (if j > i then j else i))) := calls_sc (call_max2 hc) (.int _) (fun _ => rfl) fun H S vs Q s r q => by
  obtain ⟨v, w, rfl, rfl, rfl⟩ := reps2 r
  exact ⟨i, j, rfl, q⟩
theorem c_min2 (hc : X.calm = true) : CallS X (.builtin "min") [.int i, .int j] (.sh (.int (if j < i then j else i))) := calls_sc (call_min2 hc) (.int _) (fun _ => rfl) fun H S vs Q s r q => by
  obtain ⟨v, w, rfl, rfl, rfl⟩ := reps2 r
  exact ⟨i, j, rfl, q⟩
theorem c_intB {k : Bool} : CallS X (.type "int") [.bl k] (.sh (.int (if k then 1 else 0))) := calls_sc call_int1 (.int _) (fun _ => rfl) fun H S vs Q s r q => by
  obtain ⟨v, rfl, rfl⟩ := reps1 r
  exact .inr ⟨k, rfl, q⟩
theorem c_divmod (hc : CDivP i j) : CallS X (.builtin "divmod") [.int i, .int j] (.sh (.tup [.int (i / j), .int (i % j)])) := ⟨_, call_divmodW, fun Γ F σ H S vs Q R r q => by
  obtain ⟨v, w, rfl, rfl, rfl⟩ := reps2 r
  refine ⟨i, j, rfl, hc, fun p n => ?_⟩
  obtain ⟨R2, s2⟩ := R.laid (o := .tup [.int (i / j), .int (i % j)]) n
  exact q _ _ _ R2 s2 ⟨p, _, rfl, .of upd_same, .cons rfl (.cons rfl .nil)⟩⟩
/-! ### isinstance -/
def D.ty : D → String
  | .non => "NoneType"
  | .bl _ => "bool"
  | .int _ => "int"
  | .str _ => "str"
  | .tup _ => "tuple"
  | .lst _ => "list"
  | .fls _ => "list"
  | .dct _ _ => "dict"
  | _ => ""
def D.plain : D → Bool
  | .non | .bl _ | .int _ | .str _ | .tup _ | .lst _ | .dct _ _ => true
  | _ => false
theorem tyx_of {K : PySem.W.Frag} {S H : Hp} {v : V} (hp : d.plain = true) (s : Same S H) (r : Rep K S d v) : TyX K H v (.type d.ty) := by
  cases d with
  | non => rw [show v = .non from r]; exact .base .non
  | bl b => rw [show v = .bl b from r]; exact .base (.bl b)
  | int b => rw [show v = .int b from r]; exact .base (.int b)
  | str b => rw [show v = .str b from r]; exact .base (.str b)
  | tup ds =>
    obtain ⟨p, vs, rfl, h1, _⟩ := r
    rcases h1 with (h1 | ⟨o, h1⟩) | ⟨o, its, n, h1, h2, _⟩
    · exact .base (.tup (s _ _ h1))
    · exact .fTuple (s _ _ h1)
    · exact .kTuple h1 h2
  | lst ds => obtain ⟨p, vs, rfl, h1, _⟩ := r; exact .base (.lst (s _ _ h1))
  | dct ks ds => obtain ⟨p, vs, rfl, h1, _⟩ := r; exact .base (.dK (s _ _ h1))
  | _ => cases hp
theorem c_isi {T : String} {k : Bool} (hk : kitB d.ty T = some k) (hp : d.plain = true := by rfl) : CallS X (.builtin "isinstance") [d, .raw (.ty T)] (.sh (.bl k)) := calls_sc call_isi (.bl k) (fun _ => rfl) fun H S vs Q s r q => by
  obtain ⟨v, w, rfl, r1, rfl⟩ := reps2 r
  exact ⟨v, .ty T, .type d.ty, .type T, k, rfl, .ty T, tyx_of hp s r1, kit_ty hk, q⟩
/-! ### == of data -/
mutual
def D.py : D → PyData
  | .non => .none
  | .bl b => .bool b
  | .int i => .int i
  | .str x => .str x
  | .tup ds => .tuple (D.pys ds)
  | .lst ds => .list (D.pys ds)
  | .fls ds => .list (D.pys ds)
  | _ => .none
def D.pys : List D → List PyData
  | [] => []
  | d :: ds => D.py d :: D.pys ds
end
mutual
def D.flat : D → Bool
  | .non | .bl _ | .int _ | .str _ => true
  | .tup ds => D.flats ds
  | .lst ds => D.flats ds
  | .fls ds => D.flats ds
  | _ => false
def D.flats : List D → Bool
  | [] => true
  | d :: ds => D.flat d && D.flats ds
end
mutual
theorem dp_of {K : PySem.W.Frag} {S H : Hp} (s : Same S H) : ∀ (d : D) (v : V), d.flat = true → Rep K S d v → Dp K H v d.py
  | .non, _, _, r => by rw [show _ = V.non from r]; exact .non
  | .bl b, _, _, r => by rw [show _ = V.bl b from r]; exact .bl b
  | .int b, _, _, r => by rw [show _ = V.int b from r]; exact .int b
  | .str b, _, _, r => by rw [show _ = V.str b from r]; exact .str b
  | .tup ds, _, h, ⟨a, vs, e, h1, h2⟩ => by rw [e]; exact .tup (same_sqt s h1) (dps_of s ds vs h h2)
  | .lst ds, _, h, ⟨a, vs, e, h1, h2⟩ => by rw [e]; exact .lst (.of (s _ _ h1)) (dps_of s ds vs h h2)
  | .fls ds, _, h, ⟨a, vs, e, h1, h2⟩ => by rw [e]; exact .lst (s.seq h1) (dps_of s ds vs h h2)
  | .obj _ _ _, _, h, _ => by cases h
  | .dct _ _, _, h, _ => by cases h
  | .raw _, _, h, _ => by cases h
  | .ext _, _, h, _ => by cases h
  | .exc _ _ _, _, h, _ => by cases h
theorem dps_of {K : PySem.W.Frag} {S H : Hp} (s : Same S H) : ∀ (ds : List D) (vs : List V), D.flats ds = true → Reps K S ds vs → DpAll K H vs (D.pys ds)
  | [], _, _, r => by rw [show _ = [] from r]; exact .nil
  | d :: ds, _, h, ⟨v, r, e, h1, h2⟩ => by
    have h' : (D.flat d && D.flats ds) = true := h
    rw [Bool.and_eq_true] at h'
    rw [e]
    exact .cons (dp_of s d v h'.1 h1) (dps_of s ds r h'.2 h2)
end
/-- data that == compares: flat, its texts well made, at most 64 deep -/
def Cmp (d : D) : Prop := d.flat = true ∧ SeqAt.shaped d.py = true
theorem o_eqD (hu : X.A.units + 64 < cLine) (h1 : Cmp d1) (h2 : Cmp d2) : OpS X (compareOp .Eq) d1 d2 (.sh (.bl (PyData.eqv d1.py d2.py))) := ops_sc (op_eqD hu) (.bl _) (fun _ => rfl) fun H S x y Q s r1 r2 q =>
  ⟨d1.py, d2.py, dp_of s _ _ h1.1 r1, dp_of s _ _ h2.1 r2, h1.2, h2.2, q⟩
theorem o_neD (hu : X.A.units + 64 < cLine) (h1 : Cmp d1) (h2 : Cmp d2) : OpS X (compareOp .NotEq) d1 d2 (.sh (.bl (!PyData.eqv d1.py d2.py))) := ops_sc (op_neD hu) (.bl _) (fun _ => rfl) fun H S x y Q s r1 r2 q =>
  ⟨d1.py, d2.py, dp_of s _ _ h1.1 r1, dp_of s _ _ h2.1 r2, h1.2, h2.2, q⟩
end
end PL

set_option Elab.async false
set_option linter.all false
set_option maxRecDepth 100000
set_option maxHeartbeats 1000000
namespace PL
open PySem PySem.Spec PyProof.Rows L2
/-- a def of the top as it stands, under its name -/
structure Df (K : PySem.W.Frag) (mg : Str → Option Value) (x : Str) (st : Stmt) (dvs : List V) : Prop where
  ex : ∃ f fd, FunD K x x (defArgs st) (defBody st) (defScope st) dvs [] f fd ∧ mg x = some (.ref f)
/-- a def that keeps a promise over data, under its name -/
structure C0 (Pg : Program) (w : World) (K : PySem.W.Frag) (mg : Str → Option Value) (base : Heap) (x : Str) (j : Nat) (ps : List Str) (P : List D → Rs → Prop) : Prop where
  ex : ∃ f fd, mg x = some (.ref f) ∧ PySem.W.keepIn K (.ref f) = true ∧ Binds K fd ps [] ∧ FnOk Pg w K mg base (L2.CX Pg w) j f fd ps (sp0 K P)
structure C1 (Pg : Program) (w : World) (K : PySem.W.Frag) (mg : Str → Option Value) (base : Heap) (x : Str) (j : Nat) (ps : List Str) (P : Ob → List D → Rs → Ob → Prop) : Prop where
  ex : ∃ f fd, mg x = some (.ref f) ∧ PySem.W.keepIn K (.ref f) = true ∧ Binds K fd ps [] ∧ FnOk Pg w K mg base (L2.CX Pg w) j f fd ps (sp1 K P)
structure C2 (Pg : Program) (w : World) (K : PySem.W.Frag) (mg : Str → Option Value) (base : Heap) (x : Str) (j : Nat) (ps : List Str) (P : Ob → Ob → List D → Rs → Ob → Ob → Prop) : Prop where
  ex : ∃ f fd, mg x = some (.ref f) ∧ PySem.W.keepIn K (.ref f) = true ∧ Binds K fd ps [] ∧ FnOk Pg w K mg base (L2.CX Pg w) j f fd ps (sp2 K P)
section
variable {Pg : Program} {w : World} {K : PySem.W.Frag} {mg : Str → Option Value} {base : Heap} {x : Str} {st : Stmt} {N ps : List Str} {k : Nat}
def BindsN (x : Str) (st : Stmt) (ps : List Str) : Prop := ∀ (kV doc pm : Value) (an : Option Addr) (cdv ct : Value) (us : List Value), us.length = ps.length → bindArgs (PySem.W.fnOf x x (defArgs st) (defBody st) (defScope st) .none kV doc pm an cdv ct) ⟨us, []⟩ = pure (ps.zip us)
theorem c0_mk {P : List D → Rs → Prop} (Dd : Df K mg x st []) (Sc : FnScope N ps (defScope st)) (bd : BindsN x st ps) (hn : ps.length ≤ N.length) (hl : ∀ ds r, P ds r → ds.length = ps.length ∧ ∀ j, r ≠ .br j)
    (hb : ∀ f cd A outer s H E, Gd k (cx Pg w K mg base N x (defScope st) f cd A outer s H E) → ∀ ds r, P ds r → ∃ Γ', Ends1 (cx Pg w K mg base N x (defScope st) f cd A outer s H E) (ent N ds) (defBody st) r Γ') : C0 Pg w K mg base x (k + 1) ps P := by
  obtain ⟨f, fd, FD, gm⟩ := Dd.ex
  exact ⟨f, fd, gm, FD.kp, FD.bindsN bd, fn0 FD Sc (fun ds r p => (hl ds r p).1) hn (fun ds r p => (hl ds r p).2) (hb f)⟩
theorem c1_mk {P : Ob → List D → Rs → Ob → Prop} (Dd : Df K mg x st []) (Sc : FnScope N ps (defScope st)) (bd : BindsN x st ps) (hn : ps.length ≤ N.length) (hl : ∀ o ds r o', P o ds r o' → ds.length + 1 = ps.length ∧ ∀ j, r ≠ .br j)
    (hb : ∀ f cd A outer s H E, Gd k (cx Pg w K mg base N x (defScope st) f cd A outer s H E) → ∀ o ds r o', P o ds r o' → ∀ p, ∃ Γ', Ends1 (cx Pg w K mg base N x (defScope st) f cd A outer s H E) (.pr p o :: ent N.tail ds) (defBody st) r Γ' ∧ Γ'[0]? = some (.pr p o')) : C1 Pg w K mg base x (k + 1) ps P := by
  obtain ⟨f, fd, FD, gm⟩ := Dd.ex
  exact ⟨f, fd, gm, FD.kp, FD.bindsN bd, fn1 FD Sc (fun o ds r o' p => (hl o ds r o' p).1) hn (fun o ds r o' p => (hl o ds r o' p).2) (hb f)⟩
theorem c2_mk {P : Ob → Ob → List D → Rs → Ob → Ob → Prop} (Dd : Df K mg x st []) (Sc : FnScope N ps (defScope st)) (bd : BindsN x st ps) (hn : ps.length ≤ N.length) (hl : ∀ o u ds r o' u', P o u ds r o' u' → ds.length + 2 = ps.length ∧ ∀ j, r ≠ .br j)
    (hb : ∀ f cd A outer s H E, Gd k (cx Pg w K mg base N x (defScope st) f cd A outer s H E) → ∀ o u ds r o' u', P o u ds r o' u' → ∀ p q, ∃ Γ', Ends1 (cx Pg w K mg base N x (defScope st) f cd A outer s H E) (.pr p o :: .pr q u :: ent N.tail.tail ds) (defBody st) r Γ' ∧ Γ'[0]? = some (.pr p o') ∧ Γ'[1]? = some (.pr q u')) : C2 Pg w K mg base x (k + 1) ps P := by
  obtain ⟨f, fd, FD, gm⟩ := Dd.ex
  exact ⟨f, fd, gm, FD.kp, FD.bindsN bd, fn2 FD Sc (fun o u ds r o' u' p => (hl o u ds r o' u' p).1) hn (fun o u ds r o' u' p => (hl o u ds r o' u' p).2) (hb f)⟩
end
section
variable {X : Cx} {Γ Γ1 : Gm} {e : Ex} {es : List Ex} {p pos : Pos} {r : Rs} {ds : List D} {j k : Nat} {ps : List Str} {x : Str}
theorem e_c0 {P : List D → Rs → Prop} (G : C0 X.prog X.w X.K X.mg X.base x j ps P) (g : Gd k X) (ha : AX X Γ (e :: es) ds Γ1) (hp : P ds r) (hk : j ≤ k := by decide) (hg : Gl X x := by rfl)
    (hdb : (x == ("__debug__" : Str)) = false := by decide) (he : starEach (e :: es) X.env = (false, eval e X.env) :: starEach es X.env := by rfl) (hpl : (backTo pos (starEach es X.env)).any (·.1) = false := by rfl) : EX X Γ (.Call (.Name x p) (e :: es) [] pos) r Γ1 := by
  obtain ⟨f, fd, gm, kp, b, F⟩ := G.ex
  exact e_call0 (dds := []) F ⟨gm, kp⟩ g (by rw [List.append_nil]; exact hp) ha b .nil (fun _ => rfl) hk hg hdb he hpl
theorem e_c1 {P : Ob → List D → Rs → Ob → Prop} {y : Str} {py : Pos} {s s0 : Sl} {o o0 o' : Ob} (i : Nat) (G : C1 X.prog X.w X.K X.mg X.base x j ps P) (g : Gd k X) (h0 : Has Γ i s0 o0) (ha : AX X Γ es ds Γ1) (h1 : Has Γ1 i s o) (hp : P o ds r o')
    (hk : j ≤ k := by decide) (hg : Gl X x := by rfl) (hN : X.N[i]? = some y := by rfl) (hv : Vis X.env.scope y := by first | exact Or.inl rfl | exact Or.inr (Or.inl rfl) | exact Or.inr (Or.inr rfl)) (hyd : (y == ("__debug__" : Str)) = false := by decide) (hcd : (y == ("__classdict__" : Str)) = false := by decide)
    (hdb : (x == ("__debug__" : Str)) = false := by decide) (he : starEach (.Name y py :: es) X.env = (false, eval (.Name y py) X.env) :: starEach es X.env := by rfl) (hpl : (backTo pos (starEach es X.env)).any (·.1) = false := by rfl) : EX X Γ (.Call (.Name x p) (.Name y py :: es) [] pos) r (Γ1.set i (s.re o')) := by
  obtain ⟨f, fd, gm, kp, b, F⟩ := G.ex
  exact e_call1 (dds := []) F ⟨gm, kp⟩ g h0 ha h1 (by rw [List.append_nil]; exact hp) b .nil (fun _ => rfl) hk hg hN hv hyd hcd hdb he hpl
end
end PL

set_option Elab.async false
set_option linter.all false
set_option maxRecDepth 100000
set_option maxHeartbeats 4000000
namespace PL
open PySem PySem.Spec PyProof.Rows L2 HT
/-- t[lo:hi:-1] -/
def pickB {α : Type} (xs : List α) (lo hi : Option Int) : List α :=
  (List.range (Builtin.Slice.slicePlaces (Builtin.Slice.sliceAdjust lo hi (-1) (xs.length : Int)).1 (Builtin.Slice.sliceAdjust lo hi (-1) (xs.length : Int)).2 (-1))).filterMap fun (k : Nat) => xs[((Builtin.Slice.sliceAdjust lo hi (-1) (xs.length : Int)).1 + (k : Int) * (-1)).toNat]?
section
variable {prog : Program} {w : World} {A : Around} {E : Value → Shared → Prop} {s : Shared}
theorem sliceApplied_back {sl : Addr} {vl vu vs : Value} {lo hi : Option Int} {n : Nat} {Q : Int × Int × Nat → Shared → Prop} (hs : s.heap.IsSliceOf sl vl vu vs) (pl : IsPart vl lo) (pu : IsPart vu hi) (ps : IsPart vs (some (-1)))
    (h : Q ((Builtin.Slice.sliceAdjust lo hi (-1) (n : Int)).1, -1, Builtin.Slice.slicePlaces (Builtin.Slice.sliceAdjust lo hi (-1) (n : Int)).1 (Builtin.Slice.sliceAdjust lo hi (-1) (n : Int)).2 (-1)) s) : wpAny (model prog w) A (Builtin.Slice.sliceApplied (.ref sl) (pure (n : Int))) Q E s := by
  obtain ⟨os, hos, hcs, hds⟩ := id hs
  unfold Builtin.Slice.sliceApplied Builtin.Slice.sliceFields
  refine wpAny_bind (wpAny_bind (wpAny_field hos hds (x := vl) rfl (wpAny_bind (wpAny_field hos hds (x := vu) rfl (wpAny_bind (wpAny_field hos hds (x := vs) rfl (wpAny_pure ?_)))))))
  refine wpAny_bind (slicePart_ ps ?_)
  show wpAny _ _ (if ((-1 : Int) == 0) = true then _ else _) _ _ s
  rw [if_neg (by decide)]
  refine wpAny_bind (slicePart_ pl (wpAny_bind (slicePart_ pu (wpAny_bind (wpAny_pure ?_)))))
  exact wpAny_pure h
theorem getItem_tuple_back {t sl : Addr} {items : Array Value} {vl vu vs : Value} {lo hi : Option Int} {Q : Value → Shared → Prop} (ht : IsTup s.heap t items) (hs : s.heap.IsSliceOf sl vl vu vs) (pl : IsPart vl lo) (pu : IsPart vu hi) (ps : IsPart vs (some (-1)))
    (hz : (pickB items.toList lo hi).length ≤ sizeLine) (h : Q (.ref s.heap.objs.size) { s with heap := s.heap.push { cls := .type "tuple", data := .seq (pickB items.toList lo hi).toArray } }) : wpAny (model prog w) A (getItem (.ref t) (.ref sl)) Q E s := by
  have htake : sizeOk (.seq (pickB items.toList lo hi).toArray) := by
    show (pickB items.toList lo hi).toArray.size ≤ sizeLine
    rw [List.size_toArray]
    exact hz
  obtain ⟨os, hos, hcs, hds⟩ := id hs
  have hTs : s.TypeIs (.ref sl) "slice" := ⟨os, hos, hcs⟩
  have epk : ((List.range (Builtin.Slice.slicePlaces (Builtin.Slice.sliceAdjust lo hi (-1) (items.size : Int)).1 (Builtin.Slice.sliceAdjust lo hi (-1) (items.size : Int)).2 (-1))).filterMap fun (k : Nat) => items[((Builtin.Slice.sliceAdjust lo hi (-1) (items.size : Int)).1 + (k : Int) * (-1)).toNat]?) = pickB items.toList lo hi := by
    unfold pickB
    rw [Array.length_toList]
    congr 1
    funext k
    rw [Array.getElem?_toList]
  unfold getItem
  try with_reducible refine wpAny_holding ?_
  first | refine wpAny_bind (wpAny_pure ?_) | skip
  refine wpAny_bind (wpAny_sequenceKey ht.typeIs (by decide) ?_)
  refine wpAny_bind (wpAny_callSpecial?_slot (name := Str.ofString "__getitem__") ht.typeIs PyProof.Rows.slot_tuple_getitem
    (wpAny_call_entry PyProof.Rows.slot_tuple_getitem ht.typeIs entry_tuple_getitem ?_ (args_tuple_getitem _ _)))
  show wpAny _ _ (Builtin.Tuple.tupleItemsOf (.ref t) >>= _) _ _ s
  refine wpAny_bind (tupleItemsOf_ ht ?_)
  refine wpAny_bind (wpAny_typeOf hTs ?_)
  rw [if_pos (by decide)]
  refine wpAny_bind (sliceApplied_back hs pl pu ps ?_)
  generalize Builtin.Slice.sliceAdjust lo hi (-1) (items.size : Int) = pq at epk ⊢
  generalize hcnt : Builtin.Slice.slicePlaces pq.1 pq.2 (-1) = cnt at epk ⊢
  show wpAny _ _ (if (pq.1 == 0 && (-1 : Int) == 1 && cnt == items.size) = true then _ else _) _ _ s
  rw [if_neg (by simp), epk]
  first
    | exact wpAny_bind (m := Builtin.Tuple.tupleExact _) (wpAny_newObj_type (wpAny_pure ⟨_, rfl, wpAny_pure h⟩) htake)
    | exact wpAny_bind (m := Builtin.Tuple.tupleExact _) (wpAny_newObj_type (wpAny_bind (wpAny_pure (wpAny_pure ⟨_, rfl, wpAny_pure h⟩))) htake)
    | exact wpAny_bind (wpAny_bind (m := Builtin.Tuple.tupleExact _) (wpAny_newObj_type (wpAny_pure (wpAny_pure ⟨_, rfl, wpAny_pure h⟩)) htake))
    | exact wpAny_bind (wpAny_bind (m := Builtin.Tuple.tupleExact _) (wpAny_newObj_type (wpAny_pure ⟨_, rfl, wpAny_pure h⟩) htake))
end
theorem pickB_len {α : Type} (xs : List α) (lo hi : Option Int) : (pickB xs lo hi).length ≤ xs.length := by
  unfold pickB
  refine Nat.le_trans (List.length_filterMap_le _ _) ?_
  rw [List.length_range]
  unfold Builtin.Slice.slicePlaces Builtin.Slice.sliceAdjust
  have h1 : (-1 : Int) < 0 := by decide
  have h2 : ¬ ((-1 : Int) > 0) := by decide
  simp only [h1, h2, if_true, if_false]
  have e : (- -1 : Int) = 1 := by decide
  rw [e]
  simp only [Int.ediv_one]
  cases lo <;> cases hi <;> simp only [] <;> (repeat split) <;> omega
theorem fm_some {α : Type} {xs : List α} {g : Nat → Nat} {k : Nat} {l : List Nat} {x : α} (h : xs[g k]? = some x) : (k :: l).filterMap (fun k => xs[g k]?) = x :: l.filterMap (fun k => xs[g k]?) := List.filterMap_cons_some (f := fun k => xs[g k]?) h
theorem fm_none {α : Type} {xs : List α} {g : Nat → Nat} {k : Nat} {l : List Nat} (h : xs[g k]? = none) : (k :: l).filterMap (fun k => xs[g k]?) = l.filterMap (fun k => xs[g k]?) := List.filterMap_cons_none (f := fun k => xs[g k]?) h
theorem filterMap_rep {K : PySem.W.Frag} {S : Hp} {ds : List D} {vs : List V} (r : Reps K S ds vs) (g : Nat → Nat) : ∀ l : List Nat, Reps K S (l.filterMap fun k => ds[g k]?) (l.filterMap fun k => vs[g k]?)
  | [] => rfl
  | k :: l => by
    cases e1 : ds[g k]? with
    | none =>
      have e2 : vs[g k]? = none := by
        rw [List.getElem?_eq_none_iff] at e1 ⊢
        rw [← r.length]; exact e1
      rw [fm_none e1, fm_none e2]
      exact filterMap_rep r g l
    | some d =>
      obtain ⟨v, e2, q2⟩ := r.get e1
      rw [fm_some e1, fm_some e2]
      exact .cons q2 (filterMap_rep r g l)
theorem Reps.pickB {K : PySem.W.Frag} {S : Hp} {ds : List D} {vs : List V} {lo hi : Option Int} (r : Reps K S ds vs) : Reps K S (PL.pickB ds lo hi) (PL.pickB vs lo hi) := by
  unfold PL.pickB
  rw [r.length]
  exact filterMap_rep r _ _
theorem vals_filterMap {vs : List V} {us : List Value} (r : Vals vs us) (g : Nat → Nat) : ∀ l : List Nat, Vals (l.filterMap fun k => vs[g k]?) (l.filterMap fun k => us[g k]?)
  | [] => .nil
  | k :: l => by
    cases e1 : vs[g k]? with
    | none => rw [fm_none e1, fm_none (r.none_of e1)]; exact vals_filterMap r g l
    | some v =>
      obtain ⟨u, e2, ru⟩ := r.get e1
      rw [fm_some e1, fm_some e2]
      exact .cons ru (vals_filterMap r g l)
theorem vals_pickB {vs : List V} {us : List Value} {lo hi : Option Int} (r : Vals vs us) : Vals (pickB vs lo hi) (pickB us lo hi) := by
  unfold pickB
  rw [r.length]
  exact vals_filterMap r _ _
section
variable {X : Cx} {Γ Γ1 Γ2 Γ3 : Gm} {a : Ex} {lo hi : Option Ex} {i j : Option Int} {ds : List D} {k : Nat} {p1 p2 p3 pos : Pos}
/-- t[lo:hi:-1] of a tuple -/
theorem pe_backT {te : TE} {tl th : TO} (he : PE X a te) (hl : PO X lo tl) (hh : PO X hi th) : PE X (.Subscript a (.Slice lo hi (some (.UnaryOp .USub (.Constant (.int 1) k p1) p2)) p3) pos)
    (fun σ H Q => te σ H fun x H1 => tl σ H1 fun l H2 => th σ H2 fun u H3 => ∃ t xs, x = .ref t ∧ SqT X.K H3 t xs ∧ ∀ p, H3 p = none → Q (.ref p) (upd H3 p (.tup (pickB xs l u)))) := by
  refine ⟨fun pins s σ H Q I h => ?_⟩
  refine Subscript_ (thn (he.run pins s σ H _ I h) fun v s1 ⟨x, H1, I1, r1, q1⟩ => ?_)
  have hst : PO X (some (.UnaryOp .USub (.Constant (.int 1) k p1) p2)) (tPart (tUn (rU fun i => .int (-i)) (tC (.int 1)))) := po_some (pe_un un_neg pe_int)
  refine wpAny_Slice (thn (hl.run pins s1 σ H1 _ I1 q1) fun vl s2 ⟨l, H2, I2, pl, q2⟩ => thn (hh.run pins s2 σ H2 _ I2 q2) fun vu s3 ⟨u, H3, I3, pu, q3⟩ => ?_)
  refine thn (hst.run pins s3 σ H3 (fun o H4 => o = some (-1) ∧ H4 = H3) I3 ⟨1, rfl, -1, rfl, rfl, rfl⟩) fun vs s4 ⟨o, H4, I4, ps, eo, e4⟩ => ?_
  subst eo e4
  obtain ⟨t, xs, rfl, hx, q⟩ := q3
  cases r1
  have I5 : Inv X pins σ H4 { s4 with heap := s4.heap.push { cls := .type "slice", data := .fields #[vl, vu, vs] } } := I4.kept (t' := s4.toks) fun b ob q => Heap.get?_push_of_some _ q
  obtain ⟨its, r, ht, hz⟩ := I5.tuple hx
  have hlen := r.length
  show wpAny (model X.prog X.w) X.A (subscriptTail a (.Slice lo hi (some (.UnaryOp .USub (.Constant (.int 1) k p1) p2)) p3) (.ref t) (.ref s4.heap.objs.size)) (EP X pins σ Q) X.xe { s4 with heap := s4.heap.push { cls := .type "slice", data := .fields #[vl, vu, vs] } }
  refine tail_any (ops := [.ref t, .ref s4.heap.objs.size]) ht.typeIs (PyProof.Rows.slot_tuple_getitem.lookup) ?_ (by with_unfolding_all rfl)
  have hz2 : (pickB its.toArray.toList l u).length ≤ sizeLine := by
    refine Nat.le_trans (pickB_len _ _ _) ?_
    show its.length ≤ sizeLine
    omega
  refine getItem_tuple_back ht (Heap.IsSliceOf.new _ vl vu vs) pl pu ps hz2 ?_
  refine ⟨.ref _, _, I5.laid (t' := s4.toks) (o := .tup (pickB xs l u)) (fun b ob q => Heap.get?_push_of_some _ q) (Nat.le_refl _) ?_, rfl, q _ (I5.hok.fresh (Nat.le_refl _))⟩
  exact ⟨Nat.le_trans (pickB_len _ _ _) hz, _, vals_pickB r, IsTup.new _ _⟩
theorem e_backT (h : EX X Γ a (.sh (.tup ds)) Γ1) (hl : PX X Γ1 lo i Γ2) (hh : PX X Γ2 hi j Γ3) : EX X Γ (.Subscript a (.Slice lo hi (some (.UnaryOp .USub (.Constant (.int 1) k p1) p2)) p3) pos) (.sh (.tup (pickB ds i j))) Γ3 := fun F σ H S Q R q =>
  pe_we (pe_backT we_pe wp_po wp_po) (h F σ H S _ R fun x H1 S1 R1 s1 r1 => hl F σ H1 S1 _ R1 fun H2 S2 R2 s2 => hh F σ H2 S2 _ R2 fun H3 S3 R3 s3 => by
    obtain ⟨t, vs, rfl, h1, h2⟩ := r1
    refine ⟨t, vs, rfl, same_sqt ((s2.trans s3).trans R3.sh) h1, fun p n => ?_⟩
    obtain ⟨R4, s4⟩ := R3.laid (o := .tup (pickB vs i j)) n
    exact q _ _ _ R4 (((s1.trans s2).trans s3).trans s4) ⟨p, _, rfl, .of upd_same, Reps.mono ((s2.trans s3).trans s4) _ _ h2.pickB⟩)
theorem e_revL (h : EX X Γ a (.sh (.lst ds)) Γ1) : EX X Γ (.Subscript a (.Slice none none (some (.UnaryOp .USub (.Constant (.int 1) k p1) p2)) p3) pos) (.ow (.lst ds.reverse)) Γ1 := fun F σ H S Q R q =>
  pe_we (pe_revL we_pe) (h F σ H S _ R fun x H1 S1 R1 s1 r1 => by
    obtain ⟨t, vs, rfl, h1, h2⟩ := r1
    exact ⟨t, vs, rfl, .of (R1.sh _ _ h1), fun p n => q _ _ S1 (R1.grow (same_upd n)) s1 ⟨p, rfl, R1.sNone n, R1.h0None n, ⟨_, upd_same, h2.reverse⟩, R1.ownNone n⟩⟩)
end
/-! ### the three forms -/
theorem pick_down {α : Type} (xs : List α) : ∀ (n s : Nat), s < xs.length → n ≤ s + 1 → ((List.range n).filterMap fun k => xs[s - k]?) = ((xs.take (s + 1)).drop (s + 1 - n)).reverse
  | 0, s, _, _ => by simp
  | n + 1, s, hs, hn => by
    rw [List.range_succ, List.filterMap_append, pick_down xs n s hs (by omega)]
    have hk : s - n < xs.length := by omega
    have e : [n].filterMap (fun k => xs[s - k]?) = [xs[s - n]] := by
      exact fm_some (g := fun k => s - k) (l := []) (List.getElem?_eq_getElem hk)
    have hd : s + 1 - (n + 1) = s - n := by omega
    have hd2 : s + 1 - n = (s - n) + 1 := by omega
    rw [e, hd, hd2]
    have hl : s - n < (xs.take (s + 1)).length := by rw [List.length_take]; omega
    rw [← List.getElem_cons_drop hl, List.reverse_cons]
    congr 2
    rw [List.getElem_take]
theorem pickB_eq {α : Type} (xs : List α) (lo hi : Option Int) (s n : Nat) (h1 : (Builtin.Slice.sliceAdjust lo hi (-1) (xs.length : Int)).1 = (s : Int)) (h2 : (Builtin.Slice.sliceAdjust lo hi (-1) (xs.length : Int)).2 = (s : Int) - n) (hs : s < xs.length) (hn : n ≤ s + 1) : pickB xs lo hi = ((xs.take (s + 1)).drop (s + 1 - n)).reverse := by
  unfold pickB
  rw [h1, h2]
  have e : Builtin.Slice.slicePlaces (s : Int) ((s : Int) - n) (-1) = n := by
    unfold Builtin.Slice.slicePlaces
    have h2 : ¬ ((-1 : Int) > 0) := by decide
    have e : (- -1 : Int) = 1 := by decide
    simp only [h2, if_false, e, Int.ediv_one]
    split <;> omega
  rw [e, ← pick_down xs n s hs hn]
  have hf : (fun (k : Nat) => xs[((s : Int) + (k : Int) * (-1)).toNat]?) = fun k => xs[s - k]? := by
    funext k
    rw [show ((s : Int) + (k : Int) * (-1)).toNat = s - k by omega]
  rw [hf]
theorem pickB_all {α : Type} (xs : List α) : pickB xs none none = xs.reverse := by
  cases xs with
  | nil => rfl
  | cons x r =>
    rw [pickB_eq (x :: r) none none r.length (r.length + 1) (by unfold Builtin.Slice.sliceAdjust; simp) (by unfold Builtin.Slice.sliceAdjust; simp; omega) (by simp) (by omega)]
    simp
theorem pickB_from {α : Type} (xs : List α) (i : Nat) (h : i < xs.length) : pickB xs (some (i : Int)) none = (xs.take (i + 1)).reverse := by
  rw [pickB_eq xs _ none i (i + 1) (by unfold Builtin.Slice.sliceAdjust; simp; omega) (by unfold Builtin.Slice.sliceAdjust; simp; omega) h (by omega)]
  simp
theorem pickB_to {α : Type} (xs : List α) (i : Nat) (h : i < xs.length) : pickB xs none (some (i : Int)) = (xs.drop (i + 1)).reverse := by
  rw [pickB_eq xs none _ (xs.length - 1) (xs.length - 1 - i) (by unfold Builtin.Slice.sliceAdjust; simp; omega) (by unfold Builtin.Slice.sliceAdjust; simp; omega) (by omega) (by omega)]
  rw [show xs.length - 1 + 1 = xs.length by omega, List.take_length, show xs.length - (xs.length - 1 - i) = i + 1 by omega]
end PL

set_option Elab.async false
set_option linter.all false
set_option maxRecDepth 100000
set_option maxHeartbeats 4000000
/-! enumerate of a tuple -/
namespace PL
open PySem PySem.Spec PyProof.Rows L2
open PySem.AutoSeq1 (wpAny_loadPart')
section
variable {prog : Program} {w : World} {A : Around} {E : Value → Shared → Prop} {s : Shared}
theorem nextOf_tuple_item {it t : Addr} {i : Nat} {items : Array Value} {x : Value} {Q : Value → Shared → Prop} (hit : s.heap.IsTupleIter it t i)
    (ht : s.heap.IsTuple t items) (hx : items[i]? = some x)
    (hQ : ∀ h', h'.IsTupleIter it t (i + 1) → Heap.SameBut it s.heap h' → Q x { s with heap := h' }) :
    wpAny (model prog w) A (Builtin.SmallTypes.nextOf (.ref it)) Q E s := by
  obtain ⟨o, ho, hc, hd⟩ := id hit
  obtain ⟨ol, hol, _, nl, hdl⟩ := ht
  unfold Builtin.SmallTypes.nextOf
  refine wpAny_bind (wpAny_callSpecial?_slot (name := Str.ofString "__next__") hit.typeIs F.slot_tuple_iterator_next
    (wpAny_call_entry F.slot_tuple_iterator_next hit.typeIs F.entry_tuple_iterator_next ?_ (F.args_tuple_iterator_next_1 _)))
  show wpAny _ _ (field (.ref it) 0 >>= _) _ _ s
  refine wpAny_bind (wpAny_field ho hd (x := .ref t) rfl ?_)
  show wpAny _ _ (if (Value.ref t == Value.none) = true then _ else _) _ _ s
  rw [if_neg (show ¬ ((Value.ref t == Value.none) = true) from Bool.false_ne_true)]
  show wpAny _ _ (field (.ref it) 1 >>= _) _ _ s
  refine wpAny_bind (wpAny_field ho hd (x := .int i 0) rfl ?_)
  show wpAny _ _ (seqItems? (.ref t) >>= _) _ _ s
  refine wpAny_bind (wpAny_seqItems hol hdl ?_)
  simp only [Int.toNat_natCast, hx]
  refine wpAny_bind (wpAny_setField ho hd (by simp) (wpAny_pure ⟨x, rfl, wpAny_pure (hQ _ ?_ (Heap.SameBut.update ..))⟩))
  exact ⟨_, Heap.get?_update_self _ ho (Obj.isFreed_of_fields (Obj.data_mapFields hd _)), (Obj.cls_mapFields ..).trans hc, by
    rw [Obj.data_mapFields hd]; simp [rawInt]⟩
theorem nextOf_tuple_end {it t : Addr} {i : Nat} {items : Array Value} {Q : Value → Shared → Prop} (hh : A.handled = none)
    (hit : s.heap.IsTupleIter it t i) (ht : s.heap.IsTuple t items) (hx : items[i]? = none)
    (hE : ∀ h' e, Heap.ExtBut it s.heap h' → (∃ o, h'.get? e = some o ∧ o.cls = .type "StopIteration") → E (.ref e) { s with heap := h' }) : wpAny (model prog w) A (Builtin.SmallTypes.nextOf (.ref it)) Q E s := by
  obtain ⟨o, ho, hc, hd⟩ := id hit
  obtain ⟨ol, hol, _, nl, hdl⟩ := ht
  unfold Builtin.SmallTypes.nextOf
  refine wpAny_bind (wpAny_callSpecial?_slot (name := Str.ofString "__next__") hit.typeIs F.slot_tuple_iterator_next
    (wpAny_call_entry F.slot_tuple_iterator_next hit.typeIs F.entry_tuple_iterator_next ?_ (F.args_tuple_iterator_next_1 _)))
  show wpAny _ _ (field (.ref it) 0 >>= _) _ _ s
  refine wpAny_bind (wpAny_field ho hd (x := .ref t) rfl ?_)
  show wpAny _ _ (if (Value.ref t == Value.none) = true then _ else _) _ _ s
  rw [if_neg (show ¬ ((Value.ref t == Value.none) = true) from Bool.false_ne_true)]
  show wpAny _ _ (field (.ref it) 1 >>= _) _ _ s
  refine wpAny_bind (wpAny_field ho hd (x := .int i 0) rfl ?_)
  show wpAny _ _ (seqItems? (.ref t) >>= _) _ _ s
  refine wpAny_bind (wpAny_seqItems hol hdl ?_)
  simp only [Int.toNat_natCast, hx]
  refine wpAny_bind (wpAny_rule (wpAny_bind (wpAny_setField ho hd (by simp) ?_)))
  first
    | show wpAny _ _ (newExc (.type "StopIteration") [] >>= _) _ _ _
    | refine wpAny_bind (wpAny_letGo ?_)
  refine wpAny_bind ?_
  simp only [newExc, newTuple]
  refine wpAny_bind (wpAny_newObj_type ?_ (by size_fits))
  refine wpAny_bind (m := firstArgMember _ _) (wpAny_of_eq (a := Value.none) (by first | rfl | (simp only [firstArgMember]; rfl)) ?_)
  refine wpAny_newObj_type ?_ (by size_fits)
  simp only [raiseNew]
  refine wpAny_bind (wpAny_handled ?_)
  first | rw [show A.in1.handled = none from hh] | rw [hh]
  refine wpAny_bind (wpAny_pure (wpAny_throw ?_))
  exact hE _ _ (((Heap.SameBut.update ..).extBut.push _).push _) ⟨_, Heap.get?_push_size _ rfl, rfl⟩
end
theorem IsTupleIter_at {h h' : Heap} {a t : Addr} {i : Nat} (x : h.IsTupleIter a t i) (k : ∀ o, h.get? a = some o → h'.get? a = some o) : h'.IsTupleIter a t i := let ⟨o, ho, r⟩ := x; ⟨o, k o ho, r⟩
theorem IsTuple_at {h h' : Heap} {a : Addr} {items : Array Value} (x : h.IsTuple a items) (k : ∀ o, h.get? a = some o → h'.get? a = some o) : h'.IsTuple a items := let ⟨o, ho, r⟩ := x; ⟨o, k o ho, r⟩
theorem draws_tuple {prog : Program} {w : World} {A : Around} (hh : A.handled = none) (it l : Addr) (hne : l ≠ it) (items : Array Value) :
    Draws prog w A it [it, l] items.size (fun i v => items[i]? = some v) (fun i h => h.IsTupleIter it l i ∧ h.IsTuple l items) where
  live := fun _ _ st => let ⟨o, ho, _⟩ := st.1; ⟨o, ho⟩
  frame := fun _ _ _ st hk => ⟨IsTupleIter_at st.1 fun o e => hk it (by simp) o e, IsTuple_at st.2 fun o e => hk l (by simp) o e⟩
  item := fun i s Q E hi st hQ => by
    refine nextOf_tuple_item st.1 st.2 (x := items[i]) (by simp [hi]) fun h' hit' hs' => ?_
    exact hQ _ h' s.toks (by simp [hi]) ⟨hit', st.2.extBut hs'.extBut hne⟩ hs'
  done := fun s Q E st hE => nextOf_tuple_end hh st.1 st.2 (by simp) hE
theorem meets_enumerate_newT (l : Addr) (items : Array Value) (n : Nat) (dct : Option Addr) (sl : Array (Option Value)) :
    Meets (Builtin.«enumerate.__new__» ⟨[.type "enumerate", .ref l], []⟩) (fun _ R s => s.heap.get? l = some { cls := .type "tuple", dict := dct, data := .seq items n, slots := sl } ∧
      R (.ok (.ret (.ref (s.heap.push { cls := .type "tuple_iterator", data := .fields #[.ref l, .int 0 0] }).objs.size)))
        { s with heap := (s.heap.push { cls := .type "tuple_iterator", data := .fields #[.ref l, .int 0 0] }).push { cls := .type "enumerate", data := .fields #[.none, .bool false, .ref s.heap.objs.size, rawInt 0, .none, .none] } }) :=
  .of_wp fun prog w A R s h => by
    obtain ⟨hp, g, d, tk, os⟩ := s; obtain ⟨hl, h⟩ := h
    have hsub := sub_enumerate
    have hL : Heap.IsTuple (Shared.heap ⟨hp, g, d, tk, os⟩) l items := ⟨_, hl, rfl, n, rfl⟩
    wp_walk using wpAny_loadPart' hl
    refine wpAny_stack_any fun st => wpAny_pure ?_
    split
    · rename_i c _ _ _ _ _
      cases (c == Value.type "enumerate")
      · wp_walk using wpAny_loadPart' hl, wpAny_pyIter_tuple hL
        exact ⟨_, rfl, h⟩
      · wp_walk using wpAny_loadPart' hl, wpAny_pyIter_tuple hL
        exact ⟨_, rfl, h⟩
    · wp_walk using wpAny_loadPart' hl, wpAny_pyIter_tuple hL
      exact ⟨_, rfl, h⟩
section
variable {prog : Program} {w : World} {A : Around} {E : Value → Shared → Prop} {s : Shared}
theorem call_enumerate_tuple {l : Addr} {items : Array Value} {Q : Value → Shared → Prop} (hL : s.heap.IsTuple l items)
    (h : ∀ h', IsEnum h' (s.heap.objs.size + 1) s.heap.objs.size 0 .none → h'.IsTupleIter s.heap.objs.size l 0 → h'.objs.size = s.heap.objs.size + 2 →
      (∀ b o, s.heap.get? b = some o → h'.get? b = some o) → Q (.ref (s.heap.objs.size + 1)) { s with heap := h' }) :
    wpAny (model prog w) A (call (.type "enumerate") [.ref l]) Q E s := by
  obtain ⟨⟨c, dct, dt, sl⟩, hl, hc, n, hd⟩ := hL
  replace hc : c = .type "tuple" := hc
  replace hd : dt = .seq items n := hd
  subst hc hd
  refine callType_new F.called_enumerate (by decide) (F.typeCall_enumerate_1 _) (F.newCall_enumerate_1 _) (fun obj => F.args_object_init_2 obj _) F.entry_enumerate_new
    (meets_enumerate_newT l items n dct sl) ⟨hl, ?_⟩
  have hz : (s.heap.push { cls := .type "tuple_iterator", data := .fields #[.ref l, .int 0 0] }).objs.size = s.heap.objs.size + 1 := Heap.size_push ..
  show _ ∧ _
  rw [hz]
  have he : IsEnum ((s.heap.push { cls := .type "tuple_iterator", data := .fields #[.ref l, .int 0 0] }).push
      { cls := .type "enumerate", data := .fields #[.none, .bool false, .ref s.heap.objs.size, rawInt 0, .none, .none] }) (s.heap.objs.size + 1) s.heap.objs.size 0 .none := by
    have := Heap.get?_push_size (s.heap.push { cls := .type "tuple_iterator", data := .fields #[.ref l, .int 0 0] })
      (o := { cls := .type "enumerate", data := .fields #[.none, .bool false, .ref s.heap.objs.size, rawInt 0, .none, .none] }) rfl
    rw [hz] at this; exact this
  refine ⟨⟨_, he, rfl⟩, h _ he ⟨_, Heap.get?_push_of_some _ (Heap.get?_push_size _ rfl), rfl, rfl⟩ (by rw [Heap.size_push, hz]) fun b o x => Heap.get?_push_of_some _ (Heap.get?_push_of_some _ x)⟩
end
/-- the tuple at a, each item in a new pair -/
def IteT (K : PySem.W.Frag) (a : Addr) : It :=
  ⟨fun i H => ∃ (xs : List V) (x : V), SqT K H a xs ∧ xs[i]? = some x, fun i H v H' => ∃ T x, v = .ref T ∧ H T = none ∧ H' = upd H T (.tup [.int (i : Nat), x]) ∧ ∀ xs, SqT K H a xs → xs[i]? = some x, fun i H => ∃ xs : List V, SqT K H a xs ∧ xs.length = i⟩
theorem isTuple_of {h : Heap} {a : Addr} {its : Array Value} (p : IsTup h a its) : h.IsTuple a its := let ⟨o, h1, h2, n, h3⟩ := p; ⟨o, h1, h2, n, h3⟩
theorem turn_enumT {P : Program} {w : World} {K : PySem.W.Frag} {elts : List Ex} {kk : Nat} {tpos : Pos} (a e it : Addr) :
    Turn P w K (.Tuple elts kk tpos) (IteT K a) [e, it] e (fun i h => (∃ old, IsEnum h e it ((i : Nat) : Int) old) ∧ h.IsTupleIter it a i ∧ e ≠ it) where
  mem := by simp
  obj := fun i h st b hb => by
    obtain ⟨⟨old, he⟩, ⟨o, ho, hc, hd⟩, _⟩ := st
    have e' : b = e ∨ b = it := by simpa using hb
    rcases e' with z | z
    · rw [z]; exact ⟨_, he, fun v q => nomatch q⟩
    · rw [z]; exact ⟨o, ho, fun v q => by rw [hd] at q; cases q⟩
  keep := fun i h h' st k => let ⟨⟨old, he⟩, hi, hne⟩ := st; ⟨⟨old, k e (by simp) _ he⟩, IsTupleIter_at hi fun o q => k it (by simp) o q, hne⟩
  item := by
    intro X hP hw hK hc i pins s σ H E I hf st hg
    subst hP hw hK
    obtain ⟨⟨old, he⟩, hit, hne⟩ := st
    obtain ⟨xs, x, hq, hx⟩ := hg
    obtain ⟨its, rv, p, hz⟩ := I.tuple hq
    obtain ⟨u, hu, ru⟩ := rv.get hx
    have hel : e < s.heap.objs.size := Heap.lt_size he
    have hil : it < s.heap.objs.size := by obtain ⟨_, q, _⟩ := hit; exact Heap.lt_size q
    have hT0 : s.heap.IsTuple a its.toArray := isTuple_of p
    have hai : a ≠ it := fun z => by
      obtain ⟨o1, q1, q2, _⟩ := hT0
      obtain ⟨o2, q3, q4, _⟩ := hit
      rw [z, q3] at q1; cases q1; rw [q2] at q4; exact absurd (Value.type.inj q4) (by decide)
    have hae : e ≠ a := fun z => by
      obtain ⟨o1, q1, q2, _⟩ := hT0
      rw [← z] at q1
      rw [show s.heap.get? e = some _ from he] at q1; cases q1; exact absurd (Value.type.inj q2) (by decide)
    have hi : i < its.toArray.size := by rw [List.size_toArray]; exact (List.getElem?_eq_some_iff.mp hu).1
    refine wpAny_pyNext_enum_itemD (draws_tuple (A := X.A.in1) (I.ok.hd hc) it a hai its.toArray) he ⟨hit, hT0⟩ hi hne (by simp [hae, hne]) fun y h' tk hP' ho hit' hT hsz hk => ?_
    have eu : y = u := by
      have q : its.toArray[i]? = some y := hP'
      rw [List.getElem?_toArray, hu] at q
      exact (Option.some.inj q).symm
    subst eu
    refine ⟨_, rfl, wpAny_letOwnedTupleGo_enum (s := { s with heap := h', toks := tk + 1 }) ho fun h'' he' sb => ?_⟩
    have hT2 : h''.get? s.heap.objs.size = some { cls := .type "tuple", data := .seq #[.int i tk, y] } := (sb.2 _ (Nat.ne_of_gt hel)).trans hT
    have new : ObjOk X.prog X.w (upd H s.heap.objs.size (.tup [.int (i : Nat), x])) h'' s.heap.objs.size (.tup [.int (i : Nat), x]) :=
      ⟨by show 2 ≤ sizeLine; decide, [.int i tk, y], .cons ⟨_, rfl⟩ (.cons ru .nil), ⟨_, hT2, rfl, _, rfl⟩⟩
    have I1 : Inv X pins σ (upd H s.heap.objs.size (.tup [.int (i : Nat), x])) { s with heap := h'', toks := tk + 1 } :=
      I.turnedNew (ch := [e, it]) (fun b ob hb q => (sb.2 b (fun z => hb (by simp [z]))).trans (hk b ob (fun z => hb (by simp [z])) (fun z => hb (by simp [z])) q)) hf (Nat.le_refl _) new
    refine ⟨.ref s.heap.objs.size, _, I1, rfl, ⟨_, x, rfl, I.hok.fresh (Nat.le_refl _), rfl, fun ys hy => by rw [I.tuple_inj hy hq]; exact hx⟩, ⟨⟨y, ?_⟩, IsTupleIter_at hit'.1 fun o q => (sb.2 it (Ne.symm hne)).trans q, hne⟩, fun b hb => ?_⟩
    · have e1 : ((i + 1 : Nat) : Int) = (i : Int) + 1 := by omega
      rw [e1]; exact he'
    · have hb' : b < s.heap.objs.size := by
        have e' : b = e ∨ b = it := by simpa using hb
        rcases e' with z | z
        · rw [z]; exact hel
        · rw [z]; exact hil
      rw [upd_ne (Nat.ne_of_lt hb')]
      exact (hf b hb).1
  done := by
    intro X hP hw hK hc i pins s σ H E I hf st hg
    subst hP hw hK
    obtain ⟨⟨old, he⟩, hit, hne⟩ := st
    obtain ⟨xs, hq, hx⟩ := hg
    obtain ⟨its, rv, p, hz⟩ := I.tuple hq
    obtain ⟨f0, f1, f2, f3, f4, f5⟩ := hf it (by simp)
    have hl := rv.length
    have hT0 : s.heap.IsTuple a its.toArray := isTuple_of p
    have hai : a ≠ it := fun z => by
      obtain ⟨o1, q1, q2, _⟩ := hT0
      obtain ⟨o2, q3, q4, _⟩ := hit
      rw [z, q3] at q1; cases q1; rw [q2] at q4; exact absurd (Value.type.inj q4) (by decide)
    have hn : its.toArray.size = i := by rw [List.size_toArray]; omega
    refine wpAny_pyNext_enum_endD (draws_tuple (A := X.A.in1) (I.ok.hd hc) it a hai its.toArray) he (by rw [hn]; exact ⟨hit, hT0⟩) fun h' eb => ⟨rfl, I.turned (t' := s.toks) (fun b o hb q => eb b o hb q) f0 f1 f3 f4 f5⟩
  self := fun A i s Q E st h => let ⟨⟨_, he⟩, _⟩ := st; wpAny_pyIter_enum he h
theorem pi_enumT {X : Cx} {e : Ex} {ta : TA} {p pos tpos : Pos} {elts : List Ex} {kk : Nat} (hg : Gl X "enumerate") (hm : X.mg "enumerate" = none) (ha : PA X [e] ta) (hs : starEach [e] X.env = [(false, eval e X.env)] := by rfl) :
    PI X (.Tuple elts kk tpos) (.Call (.Name "enumerate" p) [e] [] pos) (fun σ H R => ta σ H fun vs H1 => ∃ a xs, vs = [.ref a] ∧ SqT X.K H1 a xs ∧ R (IteT X.K a) H1) := by
  refine ⟨fun pins s σ H R I h => ?_⟩
  refine Call_ (ld_blt I hg hm boot_enumerate (PyProof.Rows.callWith_type1 (thn (ha.run pos pins s σ H _ I h) fun us s1 ⟨vs, H1, I1, r1, q1⟩ => ?_) hs rfl))
  obtain ⟨a, xs, ex, hq, q⟩ := q1
  subst ex
  cases r1 with
  | cons r rr =>
    cases rr
    cases r
    obtain ⟨its, rv, p', hz⟩ := I1.tuple hq
    refine call_enumerate_tuple (isTuple_of p') fun h' he hit hsz hk => wpAny_pyIter_enum he ?_
    have I2 : Inv X pins σ H1 { s1 with heap := h' } := I1.kept (t' := s1.toks) hk
    refine ⟨s1.heap.objs.size + 1, [s1.heap.objs.size + 1, s1.heap.objs.size], _, _, H1, rfl, I2, turn_enumT a (s1.heap.objs.size + 1) s1.heap.objs.size, ⟨⟨.none, he⟩, hit, Nat.succ_ne_self _⟩, fun b hb => ?_, q⟩
    have e' : b = s1.heap.objs.size + 1 ∨ b = s1.heap.objs.size := by simpa using hb
    have hle : s1.heap.objs.size ≤ b := by
      rcases e' with z | z
      · rw [z]; exact Nat.le_add_right _ _
      · rw [z]; exact Nat.le_refl _
    exact I1.fpOk hle (I1.hok.fresh hle)
section
variable {X : Cx} {Γ Γ1 : Gm} {e : Ex} {p pos tpos : Pos} {elts : List Ex} {kk : Nat} {ds : List D}
def itE (ds : List D) : Nat → D := fun i => .tup [.int (i : Nat), itd ds i]
theorem it_enumT (hm : X.mg "enumerate" = none) (h : AX X Γ [e] [.tup ds] Γ1) (hg : Gl X "enumerate" := by rfl) (hs : starEach [e] X.env = [(false, eval e X.env)] := by rfl) : IterX X (.Tuple elts kk tpos) (.Call (.Name "enumerate" p) [e] [] pos) Γ ds.length (itE ds) Γ1 :=
  ⟨_, pi_enumT hg hm wa_pa hs, fun F σ H S R' R q => h F σ H S _ R fun vs H1 S1 R1 s1 ok => by
    obtain ⟨v, rfl, l, us, rfl, h1, h2⟩ := reps1 ok
    refine ⟨l, us, rfl, same_sqt R1.sh h1, q _ H1 S1 R1 s1 fun i H' sH => ?_⟩
    have hq : SqT X.K H' l us := same_sqt sH h1
    refine ⟨fun hi => ⟨us, us[i]'(by rw [← h2.length]; exact hi), hq, List.getElem?_eq_getElem _⟩, fun hi => ⟨us, hq, by rw [← h2.length]; exact hi.symm⟩, fun x H2 hi y => ?_⟩
    obtain ⟨T, z, rfl, nT, rfl, hz⟩ := y
    exact .inr ⟨T, _, _, rfl, nT, rfl, rfl, fun S' sS => .cons rfl (.cons (Rep.mono sS _ _ (itd_rep h2 (hz us hq))) .nil)⟩⟩
theorem it_enumL (hm : X.mg "enumerate" = none) (h : AX X Γ [e] [.lst ds] Γ1) (hg : Gl X "enumerate" := by rfl) (hs : starEach [e] X.env = [(false, eval e X.env)] := by rfl) : IterX X (.Tuple elts kk tpos) (.Call (.Name "enumerate" p) [e] [] pos) Γ ds.length (itE ds) Γ1 :=
  ⟨_, pi_enum hg hm wa_pa hs, fun F σ H S R' R q => h F σ H S _ R fun vs H1 S1 R1 s1 ok => by
    obtain ⟨v, rfl, l, us, rfl, h1, h2⟩ := reps1 ok
    refine ⟨l, us, rfl, .of (R1.sh _ _ h1), q _ H1 S1 R1 s1 fun i H' sH => ?_⟩
    have hq : SqL X.K H' l us := .of (sH _ _ h1)
    refine ⟨fun hi => ⟨us, us[i]'(by rw [← h2.length]; exact hi), hq, List.getElem?_eq_getElem _⟩, fun hi => ⟨us, hq, by rw [← h2.length, hi]; exact Nat.le_refl _⟩, fun x H2 hi y => ?_⟩
    obtain ⟨T, z, rfl, nT, rfl, hz⟩ := y
    exact .inr ⟨T, _, _, rfl, nT, rfl, rfl, fun S' sS => .cons rfl (.cons (Rep.mono sS _ _ (itd_rep h2 (hz us hq))) .nil)⟩⟩
end
end PL

set_option Elab.async false
set_option linter.all false
set_option maxRecDepth 100000
set_option maxHeartbeats 4000000
namespace PL
open PySem PySem.Spec PyProof.Rows L2
/-! ### names of built-ins that stand free -/
def bltNames : List Str := ["isinstance", "int", "bool", "str", "tuple", "list", "dict", "set", "len", "range", "enumerate", "zip", "sum", "all", "any", "abs", "max", "min", "divmod", "sorted", "reversed", "type", "repr", "ValueError", "IndexError", "KeyError", "LookupError", "ZeroDivisionError", "Exception"]
def Bt (mg : Str → Option Value) : Prop := ∀ x ∈ bltNames, mg x = none
theorem b_isinstance : bootBuiltins "isinstance" = some (.builtin "isinstance") := by decide +kernel
theorem b_len : bootBuiltins "len" = some (.builtin "len") := by decide +kernel
theorem b_sum : bootBuiltins "sum" = some (.builtin "sum") := by decide +kernel
theorem b_all : bootBuiltins "all" = some (.builtin "all") := by decide +kernel
theorem b_any : bootBuiltins "any" = some (.builtin "any") := by decide +kernel
theorem b_abs : bootBuiltins "abs" = some (.builtin "abs") := by decide +kernel
theorem b_max : bootBuiltins "max" = some (.builtin "max") := by decide +kernel
theorem b_min : bootBuiltins "min" = some (.builtin "min") := by decide +kernel
theorem b_divmod : bootBuiltins "divmod" = some (.builtin "divmod") := by decide +kernel
theorem b_sorted : bootBuiltins "sorted" = some (.builtin "sorted") := by decide +kernel
theorem b_int : bootBuiltins "int" = some (.type "int") := by decide +kernel
theorem b_bool : bootBuiltins "bool" = some (.type "bool") := by decide +kernel
theorem b_str : bootBuiltins "str" = some (.type "str") := by decide +kernel
theorem b_tuple : bootBuiltins "tuple" = some (.type "tuple") := by decide +kernel
theorem b_list : bootBuiltins "list" = some (.type "list") := by decide +kernel
theorem b_dict : bootBuiltins "dict" = some (.type "dict") := by decide +kernel
theorem b_set : bootBuiltins "set" = some (.type "set") := by decide +kernel
section
variable {mg : Str → Option Value} (T : Bt mg)
include T
theorem Bt.isinstance : mg "isinstance" = none := T _ (by decide)
theorem Bt.int : mg "int" = none := T _ (by decide)
theorem Bt.bool : mg "bool" = none := T _ (by decide)
theorem Bt.str : mg "str" = none := T _ (by decide)
theorem Bt.tuple : mg "tuple" = none := T _ (by decide)
theorem Bt.list : mg "list" = none := T _ (by decide)
theorem Bt.dict : mg "dict" = none := T _ (by decide)
theorem Bt.set : mg "set" = none := T _ (by decide)
theorem Bt.len : mg "len" = none := T _ (by decide)
theorem Bt.range : mg "range" = none := T _ (by decide)
theorem Bt.enumerate : mg "enumerate" = none := T _ (by decide)
theorem Bt.sum : mg "sum" = none := T _ (by decide)
theorem Bt.all : mg "all" = none := T _ (by decide)
theorem Bt.any : mg "any" = none := T _ (by decide)
theorem Bt.abs : mg "abs" = none := T _ (by decide)
theorem Bt.max : mg "max" = none := T _ (by decide)
theorem Bt.min : mg "min" = none := T _ (by decide)
theorem Bt.divmod : mg "divmod" = none := T _ (by decide)
theorem Bt.sorted : mg "sorted" = none := T _ (by decide)
end
section
variable {X : Cx} {Γ Γ1 Γ2 Γ3 : Gm} {e a b c : Ex} {pos : Pos} {d d1 d2 d3 : D} {r : Rs} {es : List Ex} {k : Nat} {bb : Bool}
theorem e_neg {i : Int} (h : EX X Γ a (.sh (.int i)) Γ1) : EX X Γ (.UnaryOp .USub a pos) (.sh (.int (-i))) Γ1 := fun F σ H S Q R q =>
  pe_we (pe_un un_neg we_pe) (h F σ H S _ R fun v H1 S1 R1 s1 ok => ⟨i, ok, q _ H1 S1 R1 s1 rfl⟩)
/-! ### a chain as a test -/
theorem t_chainF {op op' : CmpOp} {r' : R2} (ho' : OpR X (compareOp op') r') (ho : OpS X (compareOp op) d1 d2 (.sh (.bl false))) (h1 : EX X Γ a (.sh d1) Γ1) (h2 : EX X Γ1 b (.sh d2) Γ2) (hm : lastMarks [op, op'] [b, c] = false := by rfl) : TX X Γ (.Compare a [op, op'] [b, c] pos) false Γ2 := fun F σ H S Q R q => by
  obtain ⟨rr, hr, hq⟩ := ho
  refine pt_wt (pt_chain hr ho' we_pe we_pe we_pe hm) (h1 F σ H S _ R fun x H1 S1 R1 s1 r1 => h2 F σ H1 S1 _ R1 fun y H2 S2 R2 s2 r2 => hq Γ2 F σ H2 S2 x y _ R2 (Rep.mono s2 _ _ r1) r2 fun v H3 S3 R3 s3 ok => ⟨false, ok, iteF ⟨false, rfl, q H3 S3 R3 ((s1.trans s2).trans s3)⟩⟩)
theorem t_chainT {op op' : CmpOp} (ho : OpS X (compareOp op) d1 d2 (.sh (.bl true))) (ho' : OpS X (compareOp op') d2 d3 (.sh (.bl bb))) (h1 : EX X Γ a (.sh d1) Γ1) (h2 : EX X Γ1 b (.sh d2) Γ2) (h3 : EX X Γ2 c (.sh d3) Γ3) (hm : lastMarks [op, op'] [b, c] = false := by rfl) : TX X Γ (.Compare a [op, op'] [b, c] pos) bb Γ3 := fun F σ H S Q R q => by
  obtain ⟨rr, hr, hq⟩ := ho
  obtain ⟨rr', hr', hq'⟩ := ho'
  refine pt_wt (pt_chain hr hr' we_pe we_pe we_pe hm) (h1 F σ H S _ R fun x H1 S1 R1 s1 r1 => h2 F σ H1 S1 _ R1 fun y H2 S2 R2 s2 r2 => hq Γ2 F σ H2 S2 x y _ R2 (Rep.mono s2 _ _ r1) r2 fun v H3 S3 R3 s3 ok => ⟨true, ok, iteT ?_⟩)
  exact h3 F σ H3 S3 _ R3 fun z H4 S4 R4 s4 r4 => hq' Γ3 F σ H4 S4 y z _ R4 (Rep.mono (s3.trans s4) _ _ r2) r4 fun v H5 S5 R5 s5 ok => ⟨bb, ok, q H5 S5 R5 ((((s1.trans s2).trans s3).trans s4).trans s5)⟩
/-- two ints' chain, both links <= -/
theorem e_chainI {i j l : Int} (h1 : EX X Γ a (.sh (.int i)) Γ) (h2 : EX X Γ b (.sh (.int j)) Γ) (h3 : EX X Γ c (.sh (.int l)) Γ) (hm : lastMarks [.LtE, .LtE] [b, c] = false := by rfl) : EX X Γ (.Compare a [.LtE, .LtE] [b, c] pos) (.sh (.bl (decide (i ≤ j) && decide (j ≤ l)))) Γ := by
  by_cases h : i ≤ j
  · rw [decide_eq_true h, Bool.true_and]
    exact e_chainT (by have z := o_le (X := X) (i := i) (j := j); rw [decide_eq_true h] at z; exact z) o_le h1 h2 h3 hm
  · rw [decide_eq_false h, Bool.false_and]
    exact e_chainF op_le (by have z := o_le (X := X) (i := i) (j := j); rw [decide_eq_false h] at z; exact z) h1 h2 hm
/-! ### x += e -/
def InpS (X : Cx) (op : Operator) (d1 d2 d : D) : Prop := ∃ rr, PIp X op rr ∧ ∀ Γ F σ H S x y (Q : VK), RS X.K F Γ σ H S → Rep X.K S d1 x → Rep X.K S d2 y → (∀ v H' S', RS X.K F Γ σ H' S' → Same S S' → Rep X.K S' d v → Q v H') → rr x y H Q
theorem ip_addI {i j : Int} : InpS X .Add (.int i) (.int j) (.int (i + j)) := ⟨_, ip_add, fun Γ F σ H S x y Q R r1 r2 q => ⟨i, j, r1, r2, q _ H S R (.refl _) rfl⟩⟩
theorem s1_aug (i : Nat) {x : Str} {op : Operator} {pos' : Pos} (g : X.N.Nodup) (hp : InpS X op d1 d2 d) (h0 : Γ[i]? = some (.sh d1)) (h : EX X Γ e (.sh d2) Γ1) (hl : i < Γ1.length := by exact Nat.le_of_ble_eq_true rfl) (hi : X.N[i]? = some x := by rfl) (hx : Loc X.env.scope x := by first | exact Or.inl rfl | exact Or.inr rfl)
    (hf : X.fn x = true ∨ X.env.scope.names.lookup x = some .local := by first | exact .inl rfl | exact .inr rfl | assumption) : S1 X Γ (.AugAssign (.Name x pos') op e pos) (.nx (Γ1.set i (.sh d))) := fun F σ H S D R q => by
  obtain ⟨rr, hr, hq⟩ := hp
  obtain ⟨v0, e0, r0⟩ := R.sl i _ h0
  refine ps_w1 (ps_aug g hi hx we_pe hr hf) ⟨v0, e0, h F σ H S _ R fun y H1 S1 R1 s1 r1 => hq Γ1 F σ H1 S1 v0 y _ R1 (Rep.mono s1 _ _ r0) r1 fun z H2 S2 R2 s2 r2 => q _ H2 S2 (R2.put (r := .sh d) hl r2 (fun _ z => by cases z)) (s1.trans s2)⟩
/-! ### o.f = e: a new field of the object that slot n owns -/
theorem putF_new {f : Str} {v : V} : ∀ {ns : List Str} {vs : List V}, ns.length = vs.length → f ∉ ns → putF f v (ns.zip vs) = (ns ++ [f]).zip (vs ++ [v])
  | [], [], _, _ => rfl
  | n :: ns, u :: vs, hl, hn => by
    have h1 : n ≠ f := fun e => hn (by rw [e]; exact List.mem_cons_self ..)
    show putF f v ((n, u) :: ns.zip vs) = (n, u) :: (ns ++ [f]).zip (vs ++ [v])
    rw [← putF_new (f := f) (v := v) (ns := ns) (vs := vs) (by simpa using hl) fun h => hn (List.mem_cons_of_mem _ h)]
    show (if n = f then (n, v) :: ns.zip vs else (n, u) :: putF f v (ns.zip vs)) = _
    rw [if_neg h1]
theorem s1_fld {n : Nat} {s : Sl} {C : Addr} {ns : List Str} {ds : List D} {x f : Str} {p pos' : Pos} (hc : Cls X.K C) (hna : NoAttr X.K C f) (h : EX X Γ e (.sh d) Γ1) (h1 : Has Γ1 n s (.ins C ns ds)) (hf : f ∉ ns) (hz : ns.length < 1000) (hN : X.N[n]? = some x := by rfl) (hv : Vis X.env.scope x := by first | exact Or.inl rfl | exact Or.inr (Or.inl rfl) | exact Or.inr (Or.inr rfl)) (hd : (x == ("__debug__" : Str)) = false := by decide)
    (hcd : (x == ("__classdict__" : Str)) = false := by decide) (hs : swapsWith e (some (.Attribute (.Name x p) f pos')) pos.line X.env = pure false := by rfl) : S1 X Γ (.Assign [.Attribute (.Name x p) f pos'] e pos) (.nx (Γ1.set n (s.re (.ins C (ns ++ [f]) (ds ++ [d]))))) := fun F σ H S D R q =>
  ps_w1 (ps_fld (pe_var hN hv hd hcd) we_pe hs) (h F σ H S _ R fun y H1 S1 R1 s1 ok => by
    obtain ⟨l, own, dx, vs, hl, hlen, rp⟩ := R1.has h1
    refine ⟨_, own.2, l, C, dx, _, rfl, hl, hc, hna, ?_, q σ _ S1 (R1.chg own h1.1 ⟨dx, vs ++ [y], ?_, ?_, rp.append (.one ok)⟩) s1⟩
    · rw [List.length_zip]; omega
    · rw [upd_same, putF_new hlen hf]
    · rw [List.length_append, List.length_append, hlen]; rfl)
/-! ### a call of the def that a slot holds -/
theorem pe_callSlot {CX : CXT} {j : Nat} {f : Addr} {fd : FuncData} {ps : List Str} {sp : Sp} {E : XK} {i : Nat} {x : Str} {p : Pos} {t : TA} (F : FnOk X.prog X.w X.K X.mg X.base CX j f fd ps sp) (hr : Room j X.A) (hk : PySem.W.keepIn X.K (.ref f) = true) (hb : Binds X.K fd ps []) (hx : Passes CX X E) (hN : X.N[i]? = some x) (hv : Vis X.env.scope x) (hd : (x == ("__debug__" : Str)) = false) (hcd : (x == ("__classdict__" : Str)) = false)
    (ha : PA X (e :: es) t) (he : starEach (e :: es) X.env = (false, eval e X.env) :: starEach es X.env := by rfl) (hpl : (backTo pos (starEach es X.env)).any (·.1) = false := by rfl) :
    PE X (.Call (.Name x p) (e :: es) [] pos) (fun σ H Q => σ[i]? = some (some (.ref f)) ∧ t σ H fun vs H1 => sp vs H1 Q E) := by
  refine ⟨fun pins s σ H Q I h => ?_⟩
  refine wpAny_Call_Name_kw (thn ((pe_var hN hv hd hcd).run pins s σ H (fun v H' => v = .ref f ∧ H' = H) I ⟨_, h.1, rfl, rfl⟩) fun u s1 ⟨v, H1, I1, rv, ev, eH⟩ => ?_)
  subst ev eH
  obtain rfl : u = Value.ref f := rv
  refine PySem.W.callWith_K (h₀ := X.base) I.ok.mod.kin hk (thn (ha.run pos pins s1 σ H1 _ I1 h.2) fun us s2 ⟨vs, H2, I2, r, q⟩ => ⟨I2.kIn, ?_⟩) he hpl
  exact run_fn (dvs := []) (ds := []) F hr hb .nil hx I2 r (by rw [List.append_nil]; exact q)
theorem e_callSlot {P : List D → Rs → Prop} {j : Nat} {f : Addr} {fd : FuncData} {ps : List Str} {i : Nat} {x : Str} {p : Pos} {ds : List D} (Fo : FnOk X.prog X.w X.K X.mg X.base (L2.CX X.prog X.w) j f fd ps (sp0 X.K P)) (hkp : PySem.W.keepIn X.K (.ref f) = true) (hb : Binds X.K fd ps []) (g : Gd k X) (h0 : Γ[i]? = some (.sh (.raw (.ref f)))) (hp : P ds r) (ha : AX X Γ (e :: es) ds Γ1) (hk : j ≤ k := by decide)
    (hN : X.N[i]? = some x := by rfl) (hv : Vis X.env.scope x := by first | exact Or.inl rfl | exact Or.inr (Or.inl rfl) | exact Or.inr (Or.inr rfl)) (hd : (x == ("__debug__" : Str)) = false := by decide) (hcd : (x == ("__classdict__" : Str)) = false := by decide)
    (he : starEach (e :: es) X.env = (false, eval e X.env) :: starEach es X.env := by rfl) (hpl : (backTo pos (starEach es X.env)).any (·.1) = false := by rfl) : EX X Γ (.Call (.Name x p) (e :: es) [] pos) r Γ1 := fun F σ H S Q R q => by
  obtain ⟨v0, e0, rfl⟩ := R.sl i _ h0
  exact pe_we (pe_callSlot (E := E0) Fo (g.rm.mono hk) hkp hb passL hN hv hd hcd wa_pa he hpl) ⟨e0, ha F σ H S _ R fun vs H1 S1 R1 s1 ok => ⟨S1, ds, r, hp, R1.sh, ok, fun v H2 S2 t => by
    obtain ⟨R2, ok2⟩ := R1.after0 t
    exact q v H2 S2 R2 (s1.trans t.ss) ok2⟩⟩
/-! ### a table of the top with text keys -/
theorem o_inK {dd : Addr} {es' : Array DictEntry} {n : Nat} {z : Str} {u : Option Value} (D : KDict X.K X.w dd es' n) (h : PySem.W.nsIn X.K dd z = some u) : OpS X (compareOp .In) (.str z) (.raw (.ref dd)) (.sh (.bl u.isSome)) :=
  ops_sc (op_in_kd D) (.bl _) (fun _ => rfl) fun H S x y Q _ r1 r2 q => ⟨z, u, r1, r2, h, q⟩
theorem i_K {dd : Addr} {z : Str} {v : V} (h : KDct X.K X.w dd z v) (hv : ∀ S, Rep X.K S d v) : IxS X (.raw (.ref dd)) (.str z) (.sh d) := ⟨_, ix_kdict, fun Γ F σ H S x y Q R r1 r2 q => ⟨dd, z, v, r1, r2, h, q v H S R (.refl _) (hv S)⟩⟩
/-! ### while -/
theorem WT_mono {σ : L2.St} {H : Hp} {Q Q' : Bool → Hp → Prop} (h : ∀ b H1, Q b H1 → Q' b H1) (w : WT X c σ H Q) : WT X c σ H Q' := fun pins s I => thn (w pins s I) fun b s' ⟨H1, I1, q⟩ => ⟨H1, I1, h b H1 q⟩
theorem s1_while (g : Gd k X) {body : List Stmt} (n : Nat) (G B : Nat → Gm) (hc : ∀ i, i < n → TX X (G i) c true (B i)) (hb : ∀ i, i < n → SX X (B i) body (.nx (G (i + 1))) ∨ SX X (B i) body (.ct (G (i + 1)))) (he : TX X (G n) c false Γ1) : S1 X (G 0) (.While c body [] pos) (.nx Γ1) := fun F σ H S D R q => by
  refine ps_w1 (ps_while g.po wt_pt ws_pss) ⟨fun m σ' H' => ∃ i, i ≤ n ∧ m = n - i ∧ ∃ S', RS X.K F (G i) σ' H' S' ∧ Same S S', ⟨n, 0, Nat.zero_le _, rfl, S, R, .refl _⟩, ?_⟩
  rintro m σ' H' ⟨i, hi, rfl, S', R', s'⟩
  by_cases hlt : i < n
  · refine hc i hlt F σ' H' S' _ R' fun H2 S2 R2 s2 => ?_
    refine ⟨fun σ3 H3 => ∃ S3, RS X.K F (G (i + 1)) σ3 H3 S3 ∧ Same S S3, fun σ3 H3 ⟨S3, R3, s3⟩ => ⟨n - (i + 1), by omega, i + 1, hlt, rfl, S3, R3, s3⟩, ?_⟩
    rcases hb i hlt with hb | hb
    · exact hb F σ' H2 S2 _ R2 fun σ3 H3 S3 R3 s3 => ⟨S3, R3, (s'.trans s2).trans s3⟩
    · exact hb F σ' H2 S2 _ R2 fun σ3 H3 S3 R3 s3 => ⟨S3, R3, (s'.trans s2).trans s3⟩
  · obtain rfl : i = n := by omega
    exact he F σ' H' S' _ R' fun H2 S2 R2 s2 => q σ' H2 S2 R2 (s'.trans s2)
end
/-! ### isinstance of plain data -/
def isInt : D → Bool
  | .int _ | .bl _ => true
  | _ => false
def isBool : D → Bool
  | .bl _ => true
  | _ => false
def isStr : D → Bool
  | .str _ => true
  | _ => false
def isTup : D → Bool
  | .tup _ => true
  | _ => false
def isLst : D → Bool
  | .lst _ => true
  | _ => false
theorem kit_tys : ∀ t ∈ ["NoneType", "bool", "int", "str", "tuple", "list", "dict"], kitB t "int" = some (t == "int" || t == "bool") ∧ kitB t "bool" = some (t == "bool") ∧ kitB t "str" = some (t == "str") ∧ kitB t "tuple" = some (t == "tuple") ∧ kitB t "list" = some (t == "list") := by decide +kernel
section
variable {X : Cx} {d : D}
theorem ty_mem (hp : d.plain = true) : d.ty ∈ ["NoneType", "bool", "int", "str", "tuple", "list", "dict"] := by
  cases d <;> first | cases hp; done | simp [D.ty]
theorem c_isInt (hp : d.plain = true) : CallS X (.builtin "isinstance") [d, .raw (.ty "int")] (.sh (.bl (isInt d))) := by
  have h := (kit_tys d.ty (ty_mem hp)).1
  have e : (d.ty == "int" || d.ty == "bool") = isInt d := by cases d <;> first | rfl | cases hp
  rw [e] at h
  exact c_isi h hp
theorem c_isBool (hp : d.plain = true) : CallS X (.builtin "isinstance") [d, .raw (.ty "bool")] (.sh (.bl (isBool d))) := by
  have h := (kit_tys d.ty (ty_mem hp)).2.1
  have e : (d.ty == "bool") = isBool d := by cases d <;> first | rfl | cases hp
  rw [e] at h
  exact c_isi h hp
theorem c_isStr (hp : d.plain = true) : CallS X (.builtin "isinstance") [d, .raw (.ty "str")] (.sh (.bl (isStr d))) := by
  have h := (kit_tys d.ty (ty_mem hp)).2.2.1
  have e : (d.ty == "str") = isStr d := by cases d <;> first | rfl | cases hp
  rw [e] at h
  exact c_isi h hp
theorem c_isTup (hp : d.plain = true) : CallS X (.builtin "isinstance") [d, .raw (.ty "tuple")] (.sh (.bl (isTup d))) := by
  have h := (kit_tys d.ty (ty_mem hp)).2.2.2.1
  have e : (d.ty == "tuple") = isTup d := by cases d <;> first | rfl | cases hp
  rw [e] at h
  exact c_isi h hp
theorem c_isLst (hp : d.plain = true) : CallS X (.builtin "isinstance") [d, .raw (.ty "list")] (.sh (.bl (isLst d))) := by
  have h := (kit_tys d.ty (ty_mem hp)).2.2.2.2
  have e : (d.ty == "list") = isLst d := by cases d <;> first | rfl | cases hp
  rw [e] at h
  exact c_isi h hp
end
theorem ends_rt {X : Cx} {Γ Γ' : Gm} {body : List Stmt} {r : Rs} (h : SX X Γ body (.rt r Γ')) : ∃ Γ', Ends1 X Γ body r Γ' := ⟨Γ', .inl h⟩
theorem ends_nx {X : Cx} {Γ Γ' : Gm} {body : List Stmt} (h : SX X Γ body (.nx Γ')) : ∃ Γ', Ends1 X Γ body (.sh .non) Γ' := ⟨Γ', .inr ⟨rfl, h⟩⟩
end PL

set_option Elab.async false
set_option linter.all false
set_option maxRecDepth 100000
set_option maxHeartbeats 4000000
namespace PL
open PySem PySem.Spec PyProof.Rows L2
theorem Wk.nil : Wk [] [] := .refl _
theorem Wk.keep {s : Sl} {Γ Γ' : Gm} (h : Wk Γ Γ') : Wk (s :: Γ) (s :: Γ') := ⟨by rw [List.length_cons, List.length_cons, h.1], fun i t e => by
  cases i with
  | zero => exact .inr e
  | succ i => exact h.2 i t (by simpa using e)⟩
theorem Wk.drop {s : Sl} {Γ Γ' : Gm} (h : Wk Γ Γ') : Wk (s :: Γ) (.un :: Γ') := ⟨by rw [List.length_cons, List.length_cons, h.1], fun i t e => by
  cases i with
  | zero => cases e; exact .inl rfl
  | succ i => exact h.2 i t (by simpa using e)⟩
theorem took_all {f : Nat → D} {n : Nat} : took (fun _ => true) f n = (List.range n).map f := by
  unfold took
  rw [List.filter_eq_self.mpr fun _ _ => rfl]
section
variable {X : Cx} {Γ Γ1 : Gm} {iter elt c : Ex} {scope : Scope} {pos px : Pos} {n k : Nat} {it f : Nat → D} {t : Nat → Bool} {x : Str}
theorem unAt1 {i : Nat} (h : Γ[i]? = some .un) : UnAt Γ [i] := fun j hj s e => by
  rw [List.mem_singleton.mp hj, h] at e
  exact (Option.some.inj e).symm
/-- a block that changes slots by turns: its target is one name -/
theorem lcG (i : Nat) (G : Nat → Gm) (Be : Nat → Gm) (gd : Gd k X) (hI : IterX X (.Name x px) iter Γ n it Γ1) (hn : n ≤ sizeLine) (ok : BlkOk X.N X.env.scope scope [(x, i)]) (h0 : Cv X.K Γ1 (G 0)) (hu : ∀ j, j ≤ n → (G j)[i]? = some .un)
    (he : ∀ j, j < n → ∀ s H C cl fp, EX (bk X scope s H C cl fp) ((G j).set i (.sh (it j))) elt (.sh (f j)) (Be j)) (hT : ∀ j, j < n → Cv X.K (Be j) (G (j + 1))) (hi : X.N[i]? = some x := by rfl) (hx : ∀ s H C cl fp, Loc (bk X scope s H C cl fp).env.scope x := by exact fun _ _ _ _ _ => Or.inl rfl)
    (hf : ∀ s H C cl fp, (bk X scope s H C cl fp).fn x = true ∨ (bk X scope s H C cl fp).env.scope.names.lookup x = some .local := by exact fun _ _ _ _ _ => Or.inr rfl) : LcX X Γ (.Name x px) iter [] elt scope [(x, i)] n (fun _ => true) f (G n) :=
  ⟨it, Γ1, gName i, G, fun j => (G j).set i (.sh (it j)), fun j => (G j).set i (.sh (it j)), Be, hn, hI, ok, h0, fun j hj => unAt1 (hu j hj), fun s H C cl fp => pg_name gd.nd hi (hx s H C cl fp) (hf s H C cl fp),
    fun j hj => tgt_name i (List.mem_singleton.mpr rfl) (List.getElem?_eq_some_iff.mp (hu j (Nat.le_of_lt hj))).1, .inl ⟨rfl, fun _ => rfl, rfl⟩, fun j hj _ => he j hj, fun j hj _ => hT j hj, fun _ _ z => Bool.noConfusion z, rfl⟩
theorem cv_reset {K : PySem.W.Frag} {i : Nat} {d : D} (h : Γ[i]? = some .un) : Cv K (Γ.set i (.sh d)) Γ := Wk.cv ⟨by rw [List.length_set], fun j s e => by
  by_cases hj : j = i
  · subst hj; rw [h] at e; exact .inl (Option.some.inj e).symm
  · rw [List.getElem?_set_ne (Ne.symm hj)]; exact .inr e⟩
/-- a block without effect -/
theorem e_lc1 (i : Nat) (f : Nat → D) (gd : Gd k X) (hI : IterX X (.Name x px) iter Γ n it Γ1) (hn : n ≤ sizeLine) (ok : BlkOk X.N X.env.scope scope [(x, i)]) (hu : Γ1[i]? = some .un)
    (he : ∀ j, j < n → ∀ s H C cl fp, EX (bk X scope s H C cl fp) (Γ1.set i (.sh (it j))) elt (.sh (f j)) (Γ1.set i (.sh (it j)))) (hs : ∀ x, foldedSetIterable iter X.env x = pure x := by intro _; rfl) (hi : X.N[i]? = some x := by rfl) (hx : ∀ s H C cl fp, Loc (bk X scope s H C cl fp).env.scope x := by exact fun _ _ _ _ _ => Or.inl rfl)
    (hf : ∀ s H C cl fp, (bk X scope s H C cl fp).fn x = true ∨ (bk X scope s H C cl fp).env.scope.names.lookup x = some .local := by exact fun _ _ _ _ _ => Or.inr rfl) : EX X Γ (.ListComp elt [⟨.Name x px, iter, [], 0⟩] scope pos) (.ow (.lst ((List.range n).map f))) Γ1 := by
  rw [← took_all]
  exact e_lc gd (lcG i (fun _ => Γ1) (fun j => Γ1.set i (.sh (it j))) gd hI hn ok .refl (fun _ _ => hu) he (fun j _ => cv_reset hu) hi hx hf) hs
/-- .. with a test, without effect -/
theorem lcIf (i : Nat) (gd : Gd k X) (hI : IterX X (.Name x px) iter Γ n it Γ1) (hn : n ≤ sizeLine) (ok : BlkOk X.N X.env.scope scope [(x, i)]) (hu : Γ1[i]? = some .un)
    (ht : ∀ j, j < n → ∀ s H C cl fp, TX (bk X scope s H C cl fp) (Γ1.set i (.sh (it j))) c (t j) (Γ1.set i (.sh (it j))))
    (he : ∀ j, j < n → t j = true → ∀ s H C cl fp, EX (bk X scope s H C cl fp) (Γ1.set i (.sh (it j))) elt (.sh (f j)) (Γ1.set i (.sh (it j)))) (hi : X.N[i]? = some x := by rfl) (hx : ∀ s H C cl fp, Loc (bk X scope s H C cl fp).env.scope x := by exact fun _ _ _ _ _ => Or.inl rfl)
    (hf : ∀ s H C cl fp, (bk X scope s H C cl fp).fn x = true ∨ (bk X scope s H C cl fp).env.scope.names.lookup x = some .local := by exact fun _ _ _ _ _ => Or.inr rfl) : LcX X Γ (.Name x px) iter [c] elt scope [(x, i)] n t f Γ1 :=
  ⟨it, Γ1, gName i, fun _ => Γ1, fun j => Γ1.set i (.sh (it j)), fun j => Γ1.set i (.sh (it j)), fun j => Γ1.set i (.sh (it j)), hn, hI, ok, .refl, fun j hj => unAt1 hu, fun s H C cl fp => pg_name gd.nd hi (hx s H C cl fp) (hf s H C cl fp),
    fun j hj => tgt_name i (List.mem_singleton.mpr rfl) (List.getElem?_eq_some_iff.mp hu).1, .inr ⟨c, rfl, ht⟩, he, fun j hj _ => cv_reset hu, fun j hj _ => cv_reset hu, rfl⟩
/-! ### for x in ..: if c: return e -/
theorem s1_findN (i : Nat) (gd : Gd k X) {tb : List Stmt} {ep : Pos} (hI : IterX X (.Name x px) iter Γ n it Γ1) (hu : Γ1[i]? = some .un) (ht : ∀ j, j < n → TX X (Γ1.set i (.sh (it j))) c false (Γ1.set i (.sh (it j)))) (hs : ∀ x, foldedSetIterable iter X.env x = pure x := by intro _; rfl) (hi : X.N[i]? = some x := by rfl) (hx : Loc X.env.scope x := by first | exact Or.inl rfl | exact Or.inr rfl)
    (hf : X.fn x = true ∨ X.env.scope.names.lookup x = some .local := by first | exact .inl rfl | exact .inr rfl | assumption) : S1 X Γ (.For (.Name x px) iter [.If c tb [] ep] [] pos) (.nx Γ1) :=
  s1_for gd hI (fun _ => Γ1) (fun j => Γ1.set i (.sh (it j))) .refl (fun j hj => g_name i gd.nd (List.getElem?_eq_some_iff.mp hu).1 hi hx hf) (fun j hj => .inl (s_wk (s_ifN (ht j hj) s_nil) (cv_reset hu))) hs
theorem s1_findS (i m : Nat) (gd : Gd k X) {tb : List Stmt} {ep : Pos} {r : Rs} {Γ2 : Gm} (hI : IterX X (.Name x px) iter Γ n it Γ1) (hu : Γ1[i]? = some .un) (hm : m < n) (ht : ∀ j, j < m → TX X (Γ1.set i (.sh (it j))) c false (Γ1.set i (.sh (it j)))) (hT : TX X (Γ1.set i (.sh (it m))) c true (Γ1.set i (.sh (it m))))
    (hr : SX X (Γ1.set i (.sh (it m))) tb (.rt r Γ2)) (hs : ∀ x, foldedSetIterable iter X.env x = pure x := by intro _; rfl) (hi : X.N[i]? = some x := by rfl) (hx : Loc X.env.scope x := by first | exact Or.inl rfl | exact Or.inr rfl)
    (hf : X.fn x = true ∨ X.env.scope.names.lookup x = some .local := by first | exact .inl rfl | exact .inr rfl | assumption) : S1 X Γ (.For (.Name x px) iter [.If c tb [] ep] [] pos) (.rt r Γ2) :=
  s1_forX m gd hI (fun _ => Γ1) (fun j => Γ1.set i (.sh (it j))) .refl hm (fun j hj => g_name i gd.nd (List.getElem?_eq_some_iff.mp hu).1 hi hx hf) (fun j hj => .inl (s_wk (s_ifN (ht j hj) s_nil) (cv_reset hu))) (s_ifTE hT hr) (.inl ⟨r, Γ2, rfl, rfl⟩) hs
/-- the first place at which something holds -/
theorem first_or {n : Nat} (t : Nat → Bool) : (∃ m, m < n ∧ t m = true ∧ ∀ j, j < m → t j = false) ∨ ∀ j, j < n → t j = false := by
  induction n with
  | zero => exact .inr fun j hj => absurd hj (Nat.not_lt_zero _)
  | succ n ih =>
    rcases ih with ⟨m, h1, h2, h3⟩ | h
    · exact .inl ⟨m, Nat.lt_succ_of_lt h1, h2, h3⟩
    · cases e : t n with
      | true => exact .inl ⟨n, Nat.lt_succ_self _, e, h⟩
      | false =>
        refine .inr fun j hj => ?_
        rcases Nat.lt_succ_iff_lt_or_eq.mp hj with z | z
        · exact h j z
        · rw [z]; exact e
theorem find_firstX {t : Nat → Bool} {n m : Nat} (hm : m < n) (h : t m = true) (hf : ∀ j, j < m → t j = false) : (List.range n).find? t = some m := by
  rw [List.find?_range_eq_some]
  exact ⟨h, List.mem_range.mpr hm, fun j hj => by rw [hf j hj]; rfl⟩
theorem find_noneX {t : Nat → Bool} {n : Nat} (hf : ∀ j, j < n → t j = false) : (List.range n).find? t = none := by
  rw [List.find?_eq_none]
  intro x hx
  rw [hf x (List.mem_range.mp hx)]; decide
/-- for x in ..: if c: return e; then the rest -/
theorem s_search (i : Nat) (t : Nat → Bool) (r : Nat → Rs) (r0 : Rs) (gd : Gd k X) {tb rest : List Stmt} {ep : Pos} (hI : IterX X (.Name x px) iter Γ n it Γ1) (hu : Γ1[i]? = some .un) (ht : ∀ j, j < n → TX X (Γ1.set i (.sh (it j))) c (t j) (Γ1.set i (.sh (it j))))
    (hr : ∀ j, j < n → t j = true → ∃ Γ2, SX X (Γ1.set i (.sh (it j))) tb (.rt (r j) Γ2)) (h0 : ∃ Γ2, SX X Γ1 rest (.rt r0 Γ2)) (hs : ∀ x, foldedSetIterable iter X.env x = pure x := by intro _; rfl) (hi : X.N[i]? = some x := by rfl) (hx : Loc X.env.scope x := by first | exact Or.inl rfl | exact Or.inr rfl)
    (hf : X.fn x = true ∨ X.env.scope.names.lookup x = some .local := by first | exact .inl rfl | exact .inr rfl | assumption) : ∃ Γ2, SX X Γ (.For (.Name x px) iter [.If c tb [] ep] [] pos :: rest) (.rt (((List.range n).find? t).elim r0 r) Γ2) := by
  rcases first_or (n := n) t with ⟨m, hm, h1, h2⟩ | h2
  · obtain ⟨Γ2, h⟩ := hr m hm h1
    refine ⟨Γ2, ?_⟩
    rw [find_firstX hm h1 h2]
    exact s_end (s1_findS i m gd hI hu hm (fun j hj => h2 j hj ▸ ht j (Nat.lt_trans hj hm)) (h1 ▸ ht m hm) h hs hi hx hf)
  · obtain ⟨Γ2, h⟩ := h0
    refine ⟨Γ2, ?_⟩
    rw [find_noneX h2]
    exact s_cons (s1_findN i gd hI hu (fun j hj => h2 j hj ▸ ht j hj) hs hi hx hf) h
theorem e_fz {ds : List D} (h : EX X Γ elt (.ow (.lst ds)) Γ1) : EX X Γ elt (.sh (.lst ds)) Γ1 := e_frz h
theorem e_fo {C : Addr} {ns : List Str} {ds : List D} (h : EX X Γ elt (.ow (.ins C ns ds)) Γ1) : EX X Γ elt (.sh (.obj C ns ds)) Γ1 := e_frz h
theorem e_globS {x z : Str} {t : Tok} (hm : X.mg x = some (.str z t)) (hg : Gl X x := by rfl) (hd : (x == ("__debug__" : Str)) = false := by decide) : EX X Γ (.Name x pos) (.sh (.str z)) Γ := e_glob (v := .str z) hm ⟨_, rfl⟩ (fun _ => rfl) hg hd
theorem e_globI {x : Str} {z : Int} {t : Tok} (hm : X.mg x = some (.int z t)) (hg : Gl X x := by rfl) (hd : (x == ("__debug__" : Str)) = false := by decide) : EX X Γ (.Name x pos) (.sh (.int z)) Γ := e_glob (v := .int z) hm ⟨_, rfl⟩ (fun _ => rfl) hg hd
theorem e_globR {x : Str} {a : Addr} (hm : X.mg x = some (.ref a)) (hg : Gl X x := by rfl) (hd : (x == ("__debug__" : Str)) = false := by decide) : EX X Γ (.Name x pos) (.sh (.raw (.ref a))) Γ := e_glob (v := .ref a) hm rfl (fun _ => rfl) hg hd
theorem ends_ex {Γ : Gm} {body : List Stmt} {r : Rs} (h : ∃ Γ', SX X Γ body (.rt r Γ')) : ∃ Γ', Ends1 X Γ body r Γ' := h.elim fun Γ' h => ⟨Γ', .inl h⟩
theorem s_consE {Γ : Gm} {st : Stmt} {body : List Stmt} {r : Rs} (h1 : S1 X Γ st (.nx Γ1)) (h : ∃ Γ', SX X Γ1 body (.rt r Γ')) : ∃ Γ', SX X Γ (st :: body) (.rt r Γ') := h.elim fun Γ' h => ⟨Γ', s_cons h1 h⟩
theorem s_ex {Γ Γ' : Gm} {body : List Stmt} {r : Rs} (h : SX X Γ body (.rt r Γ')) : ∃ Γ', SX X Γ body (.rt r Γ') := ⟨Γ', h⟩
theorem ends_eq {Γ : Gm} {body : List Stmt} {r r' : Rs} (h : ∃ Γ', Ends1 X Γ body r Γ') (e : r = r') : ∃ Γ', Ends1 X Γ body r' Γ' := e ▸ h
theorem e_eq {r r' : Rs} (h : EX X Γ elt r Γ1) (e : r = r') : EX X Γ elt r' Γ1 := e ▸ h
theorem t_eq {b b' : Bool} (h : TX X Γ elt b Γ1) (e : b = b') : TX X Γ elt b' Γ1 := e ▸ h
end
end PL

set_option Elab.async false
set_option linter.all false
set_option maxRecDepth 100000
set_option maxHeartbeats 4000000
namespace PL
open PySem PySem.Spec PyProof.Rows L2
/-! ### texts, tuples and lists of texts, stripes, as data -/
abbrev dT (xs : List Str) : D := .tup (xs.map .str)
abbrev dL (xs : List Str) : D := .lst (xs.map .str)
abbrev dP (p : Str × Int) : D := .tup [.str p.1, .int p.2]
abbrev dS (ps : List (Str × Int)) : D := .tup (ps.map dP)
theorem itd_map {α : Type} (g : α → D) (xs : List α) (i : Nat) (h : i < xs.length) : itd (xs.map g) i = g xs[i] := by
  unfold itd
  rw [List.getD_eq_getElem?_getD, List.getElem?_map, List.getElem?_eq_getElem h]
  rfl
/-! ### comparing -/
theorem strs_flat : ∀ xs : List Str, D.flats (xs.map .str) = true
  | [] => rfl
  | x :: xs => strs_flat xs
theorem pairs_flat : ∀ ps : List (Str × Int), D.flats (ps.map dP) = true
  | [] => rfl
  | p :: ps => pairs_flat ps
theorem ints_flat : ∀ xs : List Int, D.flats (xs.map .int) = true
  | [] => rfl
  | x :: xs => ints_flat xs
theorem strs_py : ∀ xs : List Str, D.pys (xs.map .str) = xs.map .str
  | [] => rfl
  | x :: xs => by show D.py (.str x) :: D.pys (xs.map .str) = _; rw [strs_py xs]; rfl
theorem pairs_py : ∀ ps : List (Str × Int), D.pys (ps.map dP) = ps.map fun p => .tuple [.str p.1, .int p.2]
  | [] => rfl
  | x :: xs => by show D.py (dP x) :: D.pys (xs.map dP) = _; rw [pairs_py xs]; rfl
theorem ints_py : ∀ xs : List Int, D.pys (xs.map .int) = xs.map .int
  | [] => rfl
  | x :: xs => by show D.py (.int x) :: D.pys (xs.map .int) = _; rw [ints_py xs]; rfl
def okS (x : Str) : Prop := PyData.strOk x = true
theorem lay_strs : ∀ xs : List Str, (∀ x ∈ xs, okS x) → PyData.canLayAll0 (xs.map .str) = true ∧ PyData.depthAll (xs.map .str) = 0
  | [], _ => ⟨rfl, rfl⟩
  | x :: xs, h => by
    obtain ⟨h1, h2⟩ := lay_strs xs fun y hy => h y (List.mem_cons_of_mem _ hy)
    refine ⟨?_, ?_⟩
    · show (PyData.strOk x && PyData.canLayAll0 (xs.map .str)) = true
      rw [h1, show PyData.strOk x = true from h x (List.mem_cons_self ..)]; rfl
    · show max 0 (PyData.depthAll (xs.map .str)) = 0
      rw [h2]; rfl
theorem lay_ints : ∀ xs : List Int, PyData.canLayAll0 (xs.map .int) = true ∧ PyData.depthAll (xs.map .int) = 0
  | [] => ⟨rfl, rfl⟩
  | x :: xs => by
    obtain ⟨h1, h2⟩ := lay_ints xs
    refine ⟨h1, ?_⟩
    show max 0 (PyData.depthAll (xs.map .int)) = 0
    rw [h2]; rfl
theorem lay_pairs : ∀ ps : List (Str × Int), (∀ p ∈ ps, okS p.1) → PyData.canLayAll0 (ps.map fun p => .tuple [.str p.1, .int p.2]) = true ∧ PyData.depthAll (ps.map fun p => .tuple [.str p.1, .int p.2]) ≤ 1
  | [], _ => ⟨rfl, Nat.zero_le _⟩
  | x :: xs, h => by
    obtain ⟨h1, h2⟩ := lay_pairs xs fun y hy => h y (List.mem_cons_of_mem _ hy)
    refine ⟨?_, ?_⟩
    · show ((PyData.strOk x.1 && (true && true)) && PyData.canLayAll0 (xs.map fun p => .tuple [.str p.1, .int p.2])) = true
      rw [h1, show PyData.strOk x.1 = true from h x (List.mem_cons_self ..)]; rfl
    · show max 1 (PyData.depthAll (xs.map fun p => .tuple [.str p.1, .int p.2])) ≤ 1
      omega
theorem shaped_of {d : PyData} (h1 : d.canLay0 = true) (h2 : d.depth ≤ 64) : SeqAt.shaped d = true := by
  unfold SeqAt.shaped
  rw [h1, decide_eq_true h2]; rfl
theorem cmp_dT {xs : List Str} (h : ∀ x ∈ xs, okS x) : Cmp (dT xs) := by
  refine ⟨strs_flat xs, ?_⟩
  show SeqAt.shaped (.tuple (D.pys (xs.map .str))) = true
  rw [strs_py]
  obtain ⟨h1, h2⟩ := lay_strs xs h
  exact shaped_of h1 (by show PyData.depthAll _ + 1 ≤ 64; rw [h2]; decide)
theorem cmp_dL {xs : List Str} (h : ∀ x ∈ xs, okS x) : Cmp (dL xs) := by
  refine ⟨strs_flat xs, ?_⟩
  show SeqAt.shaped (.list (D.pys (xs.map .str))) = true
  rw [strs_py]
  obtain ⟨h1, h2⟩ := lay_strs xs h
  exact shaped_of h1 (by show PyData.depthAll _ + 1 ≤ 64; rw [h2]; decide)
theorem cmp_dS {ps : List (Str × Int)} (h : ∀ p ∈ ps, okS p.1) : Cmp (dS ps) := by
  refine ⟨pairs_flat ps, ?_⟩
  show SeqAt.shaped (.tuple (D.pys (ps.map dP))) = true
  rw [pairs_py]
  obtain ⟨h1, h2⟩ := lay_pairs ps h
  exact shaped_of h1 (by show PyData.depthAll _ + 1 ≤ 64; omega)
theorem cmp_dSl {ps : List (Str × Int)} (h : ∀ p ∈ ps, okS p.1) : Cmp (.lst (ps.map dP)) := by
  refine ⟨pairs_flat ps, ?_⟩
  show SeqAt.shaped (.list (D.pys (ps.map dP))) = true
  rw [pairs_py]
  obtain ⟨h1, h2⟩ := lay_pairs ps h
  exact shaped_of h1 (by show PyData.depthAll _ + 1 ≤ 64; omega)
theorem cmp_t0 : Cmp (.tup []) := ⟨rfl, rfl⟩
theorem cmp_l0 : Cmp (.lst []) := ⟨rfl, rfl⟩
theorem eqvAll_strs : ∀ xs ys : List Str, PyData.eqvAll (xs.map .str) (ys.map .str) = decide (xs = ys)
  | [], [] => rfl
  | [], y :: ys => rfl
  | x :: xs, [] => rfl
  | x :: xs, y :: ys => by
    show ((x == y) && PyData.eqvAll (xs.map .str) (ys.map .str)) = _
    rw [eqvAll_strs xs ys]
    by_cases h : x = y
    · subst h
      rw [beq_self_eq_true, Bool.true_and]
      by_cases h2 : xs = ys
      · subst h2; simp
      · rw [decide_eq_false h2, decide_eq_false (fun e => h2 (List.cons.inj e).2)]
    · rw [beq_eq_false_iff_ne.mpr h, Bool.false_and, decide_eq_false (fun e => h (List.cons.inj e).1)]
theorem eqv_dT (xs ys : List Str) : PyData.eqv (dT xs).py (dT ys).py = decide (xs = ys) := by
  show PyData.eqvAll (D.pys (xs.map .str)) (D.pys (ys.map .str)) = _
  rw [strs_py, strs_py, eqvAll_strs]
theorem eqv_dL (xs ys : List Str) : PyData.eqv (dL xs).py (dL ys).py = decide (xs = ys) := by
  show PyData.eqvAll (D.pys (xs.map .str)) (D.pys (ys.map .str)) = _
  rw [strs_py, strs_py, eqvAll_strs]
section
variable {X : Cx}
theorem o_eqT {xs ys : List Str} (hu : X.A.units + 64 < cLine) (h1 : ∀ x ∈ xs, okS x) (h2 : ∀ x ∈ ys, okS x) : OpS X (compareOp .Eq) (dT xs) (dT ys) (.sh (.bl (decide (xs = ys)))) := by
  have h := o_eqD hu (cmp_dT h1) (cmp_dT h2)
  rw [eqv_dT] at h
  exact h
theorem o_neT {xs ys : List Str} (hu : X.A.units + 64 < cLine) (h1 : ∀ x ∈ xs, okS x) (h2 : ∀ x ∈ ys, okS x) : OpS X (compareOp .NotEq) (dT xs) (dT ys) (.sh (.bl (!decide (xs = ys)))) := by
  have h := o_neD hu (cmp_dT h1) (cmp_dT h2)
  rw [eqv_dT] at h
  exact h
theorem o_eqL {xs ys : List Str} (hu : X.A.units + 64 < cLine) (h1 : ∀ x ∈ xs, okS x) (h2 : ∀ x ∈ ys, okS x) : OpS X (compareOp .Eq) (dL xs) (dL ys) (.sh (.bl (decide (xs = ys)))) := by
  have h := o_eqD hu (cmp_dL h1) (cmp_dL h2)
  rw [eqv_dL] at h
  exact h
theorem o_neL {xs ys : List Str} (hu : X.A.units + 64 < cLine) (h1 : ∀ x ∈ xs, okS x) (h2 : ∀ x ∈ ys, okS x) : OpS X (compareOp .NotEq) (dL xs) (dL ys) (.sh (.bl (!decide (xs = ys)))) := by
  have h := o_neD hu (cmp_dL h1) (cmp_dL h2)
  rw [eqv_dL] at h
  exact h
/-- t == (): of a tuple of data that are compared -/
theorem o_eqT0 {ds : List D} (hu : X.A.units + 64 < cLine) (h1 : Cmp (.tup ds)) : OpS X (compareOp .Eq) (.tup ds) (.tup []) (.sh (.bl ds.isEmpty)) := by
  have h := o_eqD hu h1 cmp_t0
  rw [show PyData.eqv (D.tup ds).py (D.tup []).py = ds.isEmpty by cases ds <;> rfl] at h
  exact h
theorem o_neL0 {ds : List D} (hu : X.A.units + 64 < cLine) (h1 : Cmp (.lst ds)) : OpS X (compareOp .NotEq) (.lst ds) (.lst []) (.sh (.bl (!ds.isEmpty))) := by
  have h := o_neD hu h1 cmp_l0
  rw [show PyData.eqv (D.lst ds).py (D.lst []).py = ds.isEmpty by cases ds <;> rfl] at h
  exact h
/-! ### x in a list of texts -/
theorem flat_strs (xs : List Str) : (xs.map V.str).all flatV = true := by
  rw [List.all_eq_true]
  intro v hv
  obtain ⟨x, _, rfl⟩ := List.mem_map.mp hv
  rfl
theorem inV_strs (x : Str) : ∀ xs : List Str, inV (.str x) (xs.map V.str) = decide (x ∈ xs)
  | [] => rfl
  | y :: ys => by
    show ((y == x) || inV (.str x) (ys.map V.str)) = _
    rw [inV_strs x ys]
    by_cases h : y = x
    · subst h; simp
    · have h2 : x ≠ y := fun e => h e.symm
      rw [beq_eq_false_iff_ne.mpr h, Bool.false_or]
      simp [h2]
theorem o_inL {x : Str} {xs : List Str} : OpS X (compareOp .In) (.str x) (dL xs) (.sh (.bl (decide (x ∈ xs)))) := ops_sc op_in_seq (.bl _) (fun _ => rfl) fun H S v y Q s r1 r2 q => by
  obtain ⟨p, vs, rfl, h1, h2⟩ := r2
  rw [h2.strs] at h1
  obtain rfl : v = .str x := r1
  refine ⟨p, _, rfl, .inl (.of (s _ _ h1)), rfl, flat_strs xs, ?_⟩
  rw [if_neg (by decide), inV_strs]
  exact q
theorem o_ninL {x : Str} {xs : List Str} : OpS X (compareOp .NotIn) (.str x) (dL xs) (.sh (.bl (!decide (x ∈ xs)))) := ops_sc op_notIn_seq (.bl _) (fun _ => rfl) fun H S v y Q s r1 r2 q => by
  obtain ⟨p, vs, rfl, h1, h2⟩ := r2
  rw [h2.strs] at h1
  obtain rfl : v = .str x := r1
  refine ⟨p, _, rfl, .inl (.of (s _ _ h1)), rfl, flat_strs xs, ?_⟩
  rw [if_pos rfl, inV_strs]
  exact q
/-! ### typed items and slices -/
theorem atI_map {α β : Type} (g : α → β) (xs : List α) (i : Int) : atI (xs.map g) i = (atI xs i).map g := by
  unfold atI
  rw [List.length_map]
  cases ixN xs.length i with
  | none => rfl
  | some j => show (xs.map g)[j]? = _; rw [List.getElem?_map]; rfl
theorem i_dT {xs : List Str} {i : Int} {x : Str} (h : atI xs i = some x) : IxS X (dT xs) (.int i) (.sh (.str x)) := i_tup (by rw [atI_map, h]; rfl)
theorem i_dL {xs : List Str} {i : Int} {x : Str} (h : atI xs i = some x) : IxS X (dL xs) (.int i) (.sh (.str x)) := i_list (by rw [atI_map, h]; rfl)
theorem cut_map {α β : Type} (g : α → β) (xs : List α) (lo hi : Option Int) : cutL (xs.map g) lo hi = (cutL xs lo hi).map g := by
  unfold cutL
  rw [List.length_map, List.map_take, List.map_drop]
theorem l_dT {xs : List Str} {lo hi : Option Int} : SlS X (dT xs) lo hi (.sh (dT (cutL xs lo hi))) := by
  have h := l_tup (X := X) (ds := xs.map .str) (lo := lo) (hi := hi)
  rw [cut_map] at h
  exact h
theorem l_dL {xs : List Str} {lo hi : Option Int} : SlS X (dL xs) lo hi (.ow (.lst ((cutL xs lo hi).map .str))) := by
  have h := l_list (X := X) (ds := xs.map .str) (lo := lo) (hi := hi)
  rw [cut_map] at h
  exact h
theorem o_dTcat {xs ys : List Str} (hl : xs.length + ys.length ≤ sizeLine) : OpS X (binaryOp .Add) (dT xs) (dT ys) (.sh (dT (xs ++ ys))) := by
  have h := o_catT (X := X) (ds := xs.map .str) (es := ys.map .str) (by simpa using hl)
  rw [← List.map_append] at h
  exact h
theorem o_dLcat {xs ys : List Str} (hl : xs.length + ys.length ≤ sizeLine) : OpS X (binaryOp .Add) (dL xs) (dL ys) (.ow (.lst ((xs ++ ys).map .str))) := by
  have h := o_catL (X := X) (ds := xs.map .str) (es := ys.map .str) (by simpa using hl)
  rw [← List.map_append] at h
  exact h
theorem pickB_map {α β : Type} (g : α → β) (xs : List α) (lo hi : Option Int) : pickB (xs.map g) lo hi = (pickB xs lo hi).map g := by
  unfold pickB
  rw [List.length_map, List.map_filterMap]
  congr 1
  funext k
  rw [List.getElem?_map]
variable {Γ Γ1 Γ2 Γ3 : Gm} {a : Ex} {lo hi : Option Ex} {i j : Option Int} {k : Nat} {p1 p2 p3 pos : Pos}
theorem e_backD {xs : List Str} (h : EX X Γ a (.sh (dT xs)) Γ1) (hl : PX X Γ1 lo i Γ2) (hh : PX X Γ2 hi j Γ3) : EX X Γ (.Subscript a (.Slice lo hi (some (.UnaryOp .USub (.Constant (.int 1) k p1) p2)) p3) pos) (.sh (dT (pickB xs i j))) Γ3 := by
  have z := e_backT (k := k) (p1 := p1) (p2 := p2) (p3 := p3) (pos := pos) h hl hh
  rw [pickB_map] at z
  exact z
theorem e_revD {xs : List Str} (h : EX X Γ a (.sh (dL xs)) Γ1) : EX X Γ (.Subscript a (.Slice none none (some (.UnaryOp .USub (.Constant (.int 1) k p1) p2)) p3) pos) (.ow (.lst (xs.reverse.map .str))) Γ1 := by
  have z := e_revL (k := k) (p1 := p1) (p2 := p2) (p3 := p3) (pos := pos) h
  rw [← List.map_reverse] at z
  exact z
end
/-! ### slices of the usual forms -/
theorem cut_from {α : Type} (xs : List α) (k : Nat) : cutL xs (some (k : Int)) none = xs.drop k := by
  unfold cutL
  rw [HT.sIx_nat, HT.sIx_none]
  by_cases h : k ≤ xs.length
  · rw [Nat.min_eq_left h, List.take_of_length_le (by rw [List.length_drop]; omega)]
  · rw [Nat.min_eq_right (by omega), List.drop_of_length_le (Nat.le_refl _), List.drop_of_length_le (by omega), List.take_nil]
theorem cut_to {α : Type} (xs : List α) (k : Nat) : cutL xs none (some (k : Int)) = xs.take k := by
  unfold cutL
  rw [HT.sIx_nat, HT.sIx_none, List.drop_zero, Nat.sub_zero]
  by_cases h : k ≤ xs.length
  · rw [Nat.min_eq_left h]
  · rw [Nat.min_eq_right (by omega), List.take_of_length_le (Nat.le_refl _), List.take_of_length_le (by omega)]
theorem sIx_m1 (n d : Nat) : HT.sIx n d (some (-1)) = n - 1 := by
  show (if (-1 : Int) < 0 then (-1 + (n : Int)).toNat else min (-1 : Int).toNat n) = n - 1
  rw [if_pos (by decide)]; omega
theorem cut_init {α : Type} (xs : List α) : cutL xs none (some (-1)) = xs.dropLast := by
  unfold cutL
  rw [sIx_m1, HT.sIx_none, List.drop_zero, Nat.sub_zero, List.dropLast_eq_take]
theorem cut_mid {α : Type} (xs : List α) : cutL xs (some 1) (some (-1)) = (xs.drop 1).dropLast := by
  unfold cutL
  rw [sIx_m1, show HT.sIx xs.length 0 (some 1) = min 1 xs.length from HT.sIx_nat xs.length 0 1, List.dropLast_eq_take, List.length_drop]
  cases xs with
  | nil => rfl
  | cons x r => rw [show min 1 (x :: r).length = 1 by rw [List.length_cons]; omega]
theorem cut_1 {α : Type} (xs : List α) : cutL xs (some 1) none = xs.drop 1 := cut_from xs 1
end PL

set_option Elab.async false
set_option linter.all false
set_option maxRecDepth 100000
set_option maxHeartbeats 4000000
/-! plain functions that say what the program's defs compute -/
namespace PL
open PySem PySem.Spec PyProof.Rows L2
def letters : Str := "abcdefghijklmnopqrstuvwxyz"
def wholeB : D → Bool
  | .int _ => true
  | _ => false
def wordB (x : Str) (most : Int) : Bool := decide ((1 : Int) ≤ x.length) && decide ((x.length : Int) ≤ most) && (List.range x.cps.size).all fun i => decide (x.cps.getD i 0 ∈ letters.cps.toList)
def wordD (most : Int) : D → Bool
  | .str x => wordB x most
  | _ => false
/-- plain data whose texts are of a size that the machine knows -/
def Pl : D → Prop
  | .str x => x.length ≤ sizeLine
  | d => d.plain = true
theorem Pl.plain {d : D} (h : Pl d) : d.plain = true := by cases d <;> first | rfl | exact h
abbrev shadeD (d : D) : Bool := wordD 3 d
abbrev shadeB (x : Str) : Bool := wordB x 3
/-- a good stripe -/
def okStripe (p : Str × Int) : Prop := shadeB p.1 = true ∧ 0 < p.2
theorem shade_len {x : Str} (h : shadeB x = true) : 1 ≤ x.length ∧ x.length ≤ 3 := by
  have h1 : (decide ((1 : Int) ≤ x.length) && decide ((x.length : Int) ≤ 3)) = true := (Bool.and_eq_true_iff.mp h).1
  have h2 := of_decide_eq_true (Bool.and_eq_true_iff.mp h1).1
  have h3 := of_decide_eq_true (Bool.and_eq_true_iff.mp h1).2
  omega
theorem shade_pl {x : Str} (h : shadeB x = true) : Pl (.str x) := by
  have := (shade_len h).2
  show x.length ≤ sizeLine
  have : (3 : Nat) ≤ sizeLine := by decide
  omega
theorem letters_small : ∀ c ∈ letters.cps.toList, c < 1114112 := by decide +kernel
theorem shade_ok {x : Str} (h : shadeB x = true) : okS x := by
  have h1 := (Bool.and_eq_true_iff.mp h).2
  rw [List.all_eq_true] at h1
  show x.cps.all (· < 0x110000) = true
  rw [Array.all_eq_true]
  intro i hi
  have h2 := of_decide_eq_true (h1 i (List.mem_range.mpr hi))
  have h3 := letters_small _ h2
  rw [Array.getD_eq_getD_getElem?, Array.getElem?_eq_getElem hi] at h3
  exact decide_eq_true h3
def Shs (ts : List Str) : Prop := ∀ t ∈ ts, shadeB t = true
theorem Shs.ok {ts : List Str} (h : Shs ts) : ∀ t ∈ ts, okS t := fun t ht => shade_ok (h t ht)
def tot (ps : List (Str × Int)) : Int := (ps.map (·.2)).sum
structure OkSt (ps : List (Str × Int)) : Prop where
  ne : ps ≠ []
  ok : ∀ p ∈ ps, okStripe p
  le : tot ps ≤ 240
def thr (ps : List (Str × Int)) : List Str := ps.flatMap fun p => List.replicate p.2.toNat p.1
theorem tot_nonneg : ∀ {ps : List (Str × Int)}, (∀ p ∈ ps, 0 < p.2) → 0 ≤ tot ps
  | [], _ => Int.le_refl _
  | p :: ps, h => by
    have h1 := h p (List.mem_cons_self ..)
    have h2 := tot_nonneg fun q hq => h q (List.mem_cons_of_mem _ hq)
    show 0 ≤ ((p :: ps).map (·.2)).sum
    rw [List.map_cons, List.sum_cons]
    unfold tot at h2
    omega
theorem tot_take {ps : List (Str × Int)} (h : ∀ p ∈ ps, 0 < p.2) (j : Nat) : tot (ps.take j) ≤ tot ps := by
  have h2 := tot_nonneg (ps := ps.drop j) fun q hq => h q (List.mem_of_mem_drop hq)
  have e : tot ps = tot (ps.take j) + tot (ps.drop j) := by
    unfold tot
    rw [← List.sum_append, ← List.map_append, List.take_append_drop]
  omega
theorem tot_succ {ps : List (Str × Int)} {j : Nat} (h : j < ps.length) : tot (ps.take (j + 1)) = tot (ps.take j) + ps[j].2 := by
  unfold tot
  rw [List.take_succ_eq_append_getElem h, List.map_append, List.sum_append]
  simp
theorem thr_len : ∀ {ps : List (Str × Int)}, (∀ p ∈ ps, 0 < p.2) → ((thr ps).length : Int) = tot ps
  | [], _ => rfl
  | p :: ps, h => by
    have h1 := h p (List.mem_cons_self ..)
    have h2 := thr_len fun q hq => h q (List.mem_cons_of_mem _ hq)
    show (((p :: ps).flatMap fun p => List.replicate p.2.toNat p.1).length : Int) = ((p :: ps).map (·.2)).sum
    rw [List.flatMap_cons, List.length_append, List.length_replicate, List.map_cons, List.sum_cons]
    unfold thr tot at h2
    omega
theorem thr_succ {ps : List (Str × Int)} {j : Nat} (h : j < ps.length) : thr (ps.take (j + 1)) = thr (ps.take j) ++ List.replicate (ps[j].2).toNat ps[j].1 := by
  unfold thr
  rw [List.take_succ_eq_append_getElem h, List.flatMap_append]
  simp
theorem thr_shs {ps : List (Str × Int)} (h : ∀ p ∈ ps, okStripe p) : Shs (thr ps) := fun t ht => by
  obtain ⟨p, hp, hm⟩ := List.mem_flatMap.mp ht
  rw [List.mem_replicate] at hm
  rw [hm.2]; exact (h p hp).1
/-! ### merging -/
def mrgStep (acc : List (Str × Int)) (s : Str) : List (Str × Int) := match acc.getLast? with
  | some (t, n) => if t = s then acc.dropLast ++ [(s, n + 1)] else acc ++ [(s, 1)]
  | none => [(s, 1)]
def mrg (ts : List Str) : List (Str × Int) := ts.foldl mrgStep []
theorem mrg_snoc (ts : List Str) (s : Str) : mrg (ts ++ [s]) = mrgStep (mrg ts) s := by unfold mrg; rw [List.foldl_append]; rfl
/-! ### the least round -/
def perAt (ts : List Str) (k : Nat) : Bool := decide (ts.length % k = 0) && decide (ts.drop k = ts.take (ts.length - k))
def lr (ts : List Str) : Nat := (((List.range (ts.length - 1)).find? fun i => perAt ts (i + 1)).map (· + 1)).getD ts.length
theorem find_first {t : Nat → Bool} {n m : Nat} (hm : m < n) (h : t m = true) (hf : ∀ j, j < m → t j = false) : (List.range n).find? t = some m := by
  rw [List.find?_range_eq_some]
  exact ⟨h, List.mem_range.mpr hm, fun j hj => by rw [hf j hj]; rfl⟩
theorem find_none' {t : Nat → Bool} {n : Nat} (hf : ∀ j, j < n → t j = false) : (List.range n).find? t = none := by
  rw [List.find?_eq_none]
  intro x hx
  rw [hf x (List.mem_range.mp hx)]; decide
def pivotW (ts : List Str) : List Str := ts ++ ((ts.drop 1).dropLast).reverse
def foldW (ts : List Str) : List Str := ts ++ ts.reverse
def leftW (ts : List Str) : List Str := ts ++ (ts.drop 1).reverse
def rightW (ts : List Str) : List Str := ts ++ ts.dropLast.reverse
inductive Mnr where | run | pivot | fold | left | right
def Mnr.s : Mnr → Str
  | .run => "run" | .pivot => "pivot" | .fold => "fold" | .left => "left" | .right => "right"
def Mnr.f : Mnr → Str
  | .run => "run_word" | .pivot => "pivot_word" | .fold => "fold_word" | .left => "left_word" | .right => "right_word"
def layW : Mnr → List Str → List Str
  | .run => id | .pivot => pivotW | .fold => foldW | .left => leftW | .right => rightW
theorem layW_len (m : Mnr) (ts : List Str) : (layW m ts).length ≤ 2 * ts.length := by
  cases m <;> simp [layW, pivotW, foldW, leftW, rightW] <;> omega
theorem layW_shs (m : Mnr) {ts : List Str} (h : Shs ts) : Shs (layW m ts) := by
  intro t ht
  have key : t ∈ ts := by
    cases m with
    | run => exact ht
    | pivot =>
      rcases List.mem_append.mp ht with z | z
      · exact z
      · exact List.mem_of_mem_drop (List.dropLast_subset _ (List.mem_reverse.mp z))
    | fold =>
      rcases List.mem_append.mp ht with z | z
      · exact z
      · exact List.mem_reverse.mp z
    | left =>
      rcases List.mem_append.mp ht with z | z
      · exact z
      · exact List.mem_of_mem_drop (List.mem_reverse.mp z)
    | right =>
      rcases List.mem_append.mp ht with z | z
      · exact z
      · exact List.dropLast_subset _ (List.mem_reverse.mp z)
  exact h t key
theorem layW_pos (m : Mnr) {ts : List Str} (h : 0 < ts.length) : 0 < (layW m ts).length := by
  cases m <;> simp [layW, pivotW, foldW, leftW, rightW] <;> omega
/-- a round's threads -/
def spin (wd : List Str) (n : Nat) (st : Int) : List Str := (List.range n).map fun (i : Nat) => wd.getD (((i : Int) + st) % (n : Int)).toNat default
def rowK (ps : List (Str × Int)) (m : Mnr) (st : Int) : List Str := spin (layW m (thr ps)) (lr (layW m (thr ps))) st
theorem lr_pos {ts : List Str} (h : 0 < ts.length) : 0 < lr ts := by
  unfold lr
  cases e : (List.range (ts.length - 1)).find? fun i => perAt ts (i + 1) with
  | none => exact h
  | some m => exact Nat.succ_pos _
theorem lr_le (ts : List Str) : lr ts ≤ ts.length := by
  unfold lr
  cases e : (List.range (ts.length - 1)).find? fun i => perAt ts (i + 1) with
  | none => exact Nat.le_refl _
  | some m =>
    have := List.mem_range.mp (List.mem_of_find?_eq_some e)
    show m + 1 ≤ ts.length
    omega
end PL

set_option Elab.async false
set_option linter.all false
set_option maxRecDepth 100000
set_option maxHeartbeats 1000000
/-! methods, constructors with defaults, calls by keywords -/
namespace PL
open PySem PySem.Spec PyProof.Rows L2
/-- a class's method as it stands -/
structure Dm (K : PySem.W.Frag) (C : Addr) (m qual : Str) (st : Stmt) (dvs : List V) : Prop where
  ex : ∃ f fd, FunD K m qual (defArgs st) (defBody st) (defScope st) dvs [] f fd ∧ Meth K C m f
structure M0 (Pg : Program) (w : World) (K : PySem.W.Frag) (mg : Str → Option Value) (base : Heap) (C : Addr) (m : Str) (j : Nat) (ps : List Str) (P : List D → Rs → Prop) : Prop where
  ex : ∃ f fd, Meth K C m f ∧ Binds K fd ps [] ∧ FnOk Pg w K mg base (L2.CX Pg w) j f fd ps (sp0 K P)
def BindsM (m qual : Str) (st : Stmt) (ps : List Str) : Prop := ∀ (kV doc pm : Value) (an : Option Addr) (cdv ct : Value) (us : List Value), us.length = ps.length → bindArgs (PySem.W.fnOf m qual (defArgs st) (defBody st) (defScope st) .none kV doc pm an cdv ct) ⟨us, []⟩ = pure (ps.zip us)
section
variable {Pg : Program} {w : World} {K : PySem.W.Frag} {mg : Str → Option Value} {base : Heap} {C : Addr} {m qual : Str} {st : Stmt} {N ps : List Str} {k : Nat}
theorem m0_mk {P : List D → Rs → Prop} (Dd : Dm K C m qual st []) (Sc : FnScope N ps (defScope st)) (bd : BindsM m qual st ps) (hn : ps.length ≤ N.length) (hl : ∀ ds r, P ds r → ds.length = ps.length ∧ ∀ j, r ≠ .br j)
    (hb : ∀ f cd A outer s H E, Gd k (cx Pg w K mg base N qual (defScope st) f cd A outer s H E) → ∀ ds r, P ds r → ∃ Γ', Ends1 (cx Pg w K mg base N qual (defScope st) f cd A outer s H E) (ent N ds) (defBody st) r Γ') : M0 Pg w K mg base C m (k + 1) ps P := by
  obtain ⟨f, fd, FD, gm⟩ := Dd.ex
  exact ⟨f, fd, gm, FD.bindsN bd, fn0 FD Sc (fun ds r p => (hl ds r p).1) hn (fun ds r p => (hl ds r p).2) (hb f)⟩
/-- a class's __init__ as it stands; its last n parameters have defaults -/
structure Di (K : PySem.W.Frag) (C : Addr) (qual : Str) (st : Stmt) (dvs : List V) : Prop where
  ex : ∃ f fd, FunD K "__init__" qual (defArgs st) (defBody st) (defScope st) dvs [] f fd ∧ Mk K C f
/-- a class that is called: values for all parameters, or so few that dds fill up -/
structure K1 (Pg : Program) (w : World) (K : PySem.W.Frag) (mg : Str → Option Value) (base : Heap) (x : Str) (C : Addr) (j : Nat) (ps : List Str) (dvss : List (List V)) (P : Ob → List D → Rs → Ob → Prop) : Prop where
  ex : ∃ f fd, mg x = some (.ref C) ∧ Mk K C f ∧ FnOk Pg w K mg base (L2.CX Pg w) j f fd ps (sp1 K P) ∧ ∀ dvs ∈ dvss, ∃ dv, Vals dvs dv ∧ Binds K fd ps dv
end
section
variable {X : Cx} {Γ Γ1 Γ2 : Gm} {e o : Ex} {es : List Ex} {p pos apos : Pos} {r : Rs} {ds dds : List D} {j k : Nat} {ps : List Str} {x m : Str} {C : Addr} {ns : List Str} {fs : List D} {pl : Sem Bool}
theorem e_m00 {P : List D → Rs → Prop} (G : M0 X.prog X.w X.K X.mg X.base C m j ps P) (c : Cls X.K C) (g : Gd k X) (ho : EX X Γ o (.sh (.obj C ns fs)) Γ1) (hp : P [.obj C ns fs] r) (hno : (ns.zip fs).lookup m = none := by rfl) (hk : j ≤ k := by decide)
    (ht : eval (.Call (.Attribute o m apos) [] [] pos) X.env = (do
      let ov ← eval o X.env
      standAt apos.atName
      let (f, first) ← holding [ov] (getMethod ov m pl)
      callWith pos f first (backTo pos (starEach [] X.env)) (backToKw pos (keywordEach [] X.env))) := by rfl) : EX X Γ (.Call (.Attribute o m apos) [] [] pos) r Γ1 := by
  obtain ⟨f, fd, hm, b, F⟩ := G.ex
  exact e_meth0 (dds := []) F c hm g ho hno hp b .nil (fun _ => rfl) hk ht
theorem e_m0 {P : List D → Rs → Prop} (G : M0 X.prog X.w X.K X.mg X.base C m j ps P) (c : Cls X.K C) (g : Gd k X) (ho : EX X Γ o (.sh (.obj C ns fs)) Γ1) (ha : AX X Γ1 (e :: es) ds Γ2) (hp : P (.obj C ns fs :: ds) r) (hno : (ns.zip fs).lookup m = none := by rfl) (hk : j ≤ k := by decide)
    (hst : starEach (e :: es) X.env = (false, eval e X.env) :: starEach es X.env := by rfl) (hpl : (backTo pos (starEach es X.env)).any (·.1) = false := by rfl)
    (ht : eval (.Call (.Attribute o m apos) (e :: es) [] pos) X.env = (do
      let ov ← eval o X.env
      standAt apos.atName
      let (f, first) ← holding [ov] (getMethod ov m pl)
      callWith pos f first (backTo pos (starEach (e :: es) X.env)) (backToKw pos (keywordEach [] X.env))) := by rfl) : EX X Γ (.Call (.Attribute o m apos) (e :: es) [] pos) r Γ2 := by
  obtain ⟨f, fd, hm, b, F⟩ := G.ex
  exact e_meth (dds := []) F c hm g ho hno ha (by rw [List.append_nil]; exact hp) b .nil (fun _ => rfl) hk hst hpl ht
theorem e_k1 {P : Ob → List D → Rs → Ob → Prop} {o' : Ob} {dvss : List (List V)} (dvs : List V) (G : K1 X.prog X.w X.K X.mg X.base x C j ps dvss P) (g : Gd k X) (ha : AX X Γ (e :: es) ds Γ1) (hp : P (.ins C [] []) (ds ++ dds) (.sh .non) o') (hdd : ∀ S, Reps X.K S dds dvs) (hmem : dvs ∈ dvss := by decide)
    (hk : j + 1 ≤ k := by decide) (hg : Gl X x := by rfl) (hdb : (x == ("__debug__" : Str)) = false := by decide) (he : starEach (e :: es) X.env = (false, eval e X.env) :: starEach es X.env := by rfl) (hpl : (backTo pos (starEach es X.env)).any (·.1) = false := by rfl) : EX X Γ (.Call (.Name x p) (e :: es) [] pos) (.ow o') Γ1 := by
  obtain ⟨f, fd, hm, M, F, hb⟩ := G.ex
  obtain ⟨dv, v, b⟩ := hb dvs hmem
  exact e_make M F hm g ha hp b v hdd hk hg hdb he hpl
/-! ### f(e), e a new object that f may change -/
theorem e_c1n {P : Ob → List D → Rs → Ob → Prop} {ob o' : Ob} (G : C1 X.prog X.w X.K X.mg X.base x j ps P) (g : Gd k X) (h : EX X Γ e (.ow ob) Γ1) (hp : P ob [] r o') (hk : j ≤ k := by decide) (hg : Gl X x := by rfl)
    (hdb : (x == ("__debug__" : Str)) = false := by decide) (he : starEach [e] X.env = (false, eval e X.env) :: starEach [] X.env := by rfl) (hpl : (backTo pos (starEach [] X.env)).any (·.1) = false := by rfl) : EX X Γ (.Call (.Name x p) [e] [] pos) r Γ1 := fun F σ H S Q R q => by
  obtain ⟨f, fd, gm, kp, b, Fo⟩ := G.ex
  refine pe_we (pe_call Fo (g.rm.mono hk) hg gm kp b .nil passL (pa_cons we_pe pa_nil he) hdb he hpl) (h F σ H S _ R fun v H1 S1 R1 s1 ok => ?_)
  obtain ⟨a, rfl, n1, n2, obr, no⟩ := ok
  refine ⟨S1, ob, [], r, o', a, [], hp, rfl, R1.sh, n1, obr, rfl, fun v H2 S2 t n3 ob3 => ?_⟩
  obtain ⟨R2, ok2⟩ := R1.after t (fun b z => .inr (by rw [z]; exact n2)) rfl fun i s es => .inl ⟨es, fun b ow z => no ⟨i, by rw [← z]; exact ow⟩⟩
  exact q v H2 S2 R2 (s1.trans t.ss) ok2
/-! ### f(k = v) -/
theorem pe_callK0 {CX : CXT} {f : Addr} {fd : FuncData} {ks : List Str} {sp : Sp} {E : XK} {kws : List Keyword} {tk : TA} {gg : List Value → List Value → List Value} {gV : List V → List V → List V} (F : FnOk X.prog X.w X.K X.mg X.base CX j f fd ps sp) (hr : Room j X.A) (hg : Gl X x) (hm : X.mg x = some (.ref f)) (hk : PySem.W.keepIn X.K (.ref f) = true) (hb : KBinds X.K fd ps ks gg gV) (hx : Passes CX X E)
    (hkw : PK X kws tk) (hall : (backToKw pos (keywordEach kws X.env)).all (·.1.isSome) = true := by rfl) (hks : (backToKw pos (keywordEach kws X.env)).filterMap (·.1) = ks := by rfl)
    (hdb : (x == ("__debug__" : Str)) = false := by decide)
    (hpl : ((backTo pos (starEach [] X.env)).any (·.1) || (backToKw pos (keywordEach kws X.env)).any (·.1.isNone)) = false := by rfl) :
    PE X (.Call (.Name x p) [] kws pos) (fun σ H Q => tk σ H fun zs H2 => sp (gV [] zs) H2 Q E) := by
  refine ⟨fun pins s σ H Q I h => ?_⟩
  refine wpAny_Call_Name_kw (ld_glob I hg hm ?_ hdb)
  refine PySem.W.callWith_KW0 (h₀ := X.base) I.ok.mod.kin hk hall (thn (hkw.run pos pins s σ H _ I h) fun ws s2 ⟨zs, H2, I2, rz, q2⟩ => ⟨I2.kIn, ?_⟩) hpl
  rw [hks]
  exact run_fnk F hr hb hx I2 .nil rz q2
/-- a def that is called by one keyword -/
structure C0k (Pg : Program) (w : World) (K : PySem.W.Frag) (mg : Str → Option Value) (base : Heap) (x : Str) (j : Nat) (ps : List Str) (P : List D → Rs → Prop) : Prop where
  ex : ∃ f fd, mg x = some (.ref f) ∧ PySem.W.keepIn K (.ref f) = true ∧ KBinds K fd ps ps (fun us ws => us ++ ws) (fun vs zs => vs ++ zs) ∧ FnOk Pg w K mg base (L2.CX Pg w) j f fd ps (sp0 K P)
theorem c0k_mk {Pg : Program} {w : World} {K : PySem.W.Frag} {mg : Str → Option Value} {base : Heap} {x : Str} {st : Stmt} {N ps : List Str} {k : Nat} {P : List D → Rs → Prop} (Dd : Df K mg x st []) (Sc : FnScope N ps (defScope st)) (bd : BindsN x st ps)
    (bk : ∀ (kV doc pm : Value) (an : Option Addr) (cdv ct : Value) (us ws : List Value), (us ++ ws).length = ps.length → bindArgs (PySem.W.fnOf x x (defArgs st) (defBody st) (defScope st) .none kV doc pm an cdv ct) ⟨us, ps.zip ws⟩ = pure (ps.zip (us ++ ws))) (hn : ps.length ≤ N.length) (hl : ∀ ds r, P ds r → ds.length = ps.length ∧ ∀ j, r ≠ .br j)
    (hb : ∀ f cd A outer s H E, Gd k (cx Pg w K mg base N x (defScope st) f cd A outer s H E) → ∀ ds r, P ds r → ∃ Γ', Ends1 (cx Pg w K mg base N x (defScope st) f cd A outer s H E) (ent N ds) (defBody st) r Γ') : C0 Pg w K mg base x (k + 1) ps P ∧ C0k Pg w K mg base x (k + 1) ps P := by
  obtain ⟨f, fd, FD, gm⟩ := Dd.ex
  have F := fn0 FD Sc (fun ds r p => (hl ds r p).1) hn (fun ds r p => (hl ds r p).2) (hb f)
  refine ⟨⟨f, fd, gm, FD.kp, FD.bindsN bd, F⟩, ⟨f, fd, gm, FD.kp, ⟨fun s us ws X hlen => ?_, fun r1 r2 => r1.append r2⟩, F⟩⟩
  obtain ⟨oc, od, dV, kV, doc, pm, an, cdv, ct, osl, rfl, lk, hcd, hD, hK⟩ := FD.ex
  rcases hD with ⟨_, rfl⟩ | ⟨e, _⟩
  · exact .of_eq (bk kV doc pm an cdv ct us ws hlen)
  · exact absurd rfl e
theorem e_c0k1 {P : List D → Rs → Prop} {y : Str} {kpos : Pos} {d : D} (G : C0k X.prog X.w X.K X.mg X.base x j [y] P) (g : Gd k X) (ha : EX X Γ e (.sh d) Γ1) (hp : P [d] r) (hk : j ≤ k := by decide) (hg : Gl X x := by rfl)
    (hdb : (x == ("__debug__" : Str)) = false := by decide) (hall : (backToKw pos (keywordEach [⟨some y, e, kpos⟩] X.env)).all (·.1.isSome) = true := by rfl) (hks : (backToKw pos (keywordEach [⟨some y, e, kpos⟩] X.env)).filterMap (·.1) = [y] := by rfl)
    (hpl : ((backTo pos (starEach [] X.env)).any (·.1) || (backToKw pos (keywordEach [⟨some y, e, kpos⟩] X.env)).any (·.1.isNone)) = false := by rfl) : EX X Γ (.Call (.Name x p) [] [⟨some y, e, kpos⟩] pos) r Γ1 := fun F σ H S Q R q => by
  obtain ⟨f, fd, gm, kp, b, Fo⟩ := G.ex
  refine pe_we (pe_callK0 (E := E0) Fo (g.rm.mono hk) hg gm kp b passL (pk_cons we_pe pk_nil) hall hks hdb hpl) ?_
  refine ha F σ H S _ R fun v H1 S1 R1 s1 ok => ⟨S1, [d], r, hp, R1.sh, .one ok, fun v H2 S2 t => ?_⟩
  obtain ⟨R2, ok2⟩ := R1.after0 t
  exact q v H2 S2 R2 (s1.trans t.ss) ok2
end
end PL

set_option Elab.async false
set_option linter.all false
set_option maxRecDepth 100000
set_option maxHeartbeats 1000000
namespace PL
open PySem PySem.Spec PyProof.Rows L2
section
variable {X : Cx} {Γ Γ1 : Gm} {iter elt : Ex} {scope : Scope} {pos px py tp : Pos} {n k kk : Nat} {it f a b : Nat → D} {x y : Str}
theorem cv_reset2 {K : PySem.W.Frag} {i j : Nat} {d e : D} (h : Γ[i]? = some .un) (h2 : Γ[j]? = some .un) : Cv K ((Γ.set i (.sh d)).set j (.sh e)) Γ := Wk.cv ⟨by rw [List.length_set, List.length_set], fun l s q => by
  by_cases hl : l = j
  · subst hl; rw [h2] at q; exact .inl (Option.some.inj q).symm
  · rw [List.getElem?_set_ne (Ne.symm hl)]
    by_cases hl2 : l = i
    · subst hl2; rw [h] at q; exact .inl (Option.some.inj q).symm
    · rw [List.getElem?_set_ne (Ne.symm hl2)]; exact .inr q⟩
/-- [e for x, y in ..], no test, no effect -/
theorem lc2 (i j : Nat) (gd : Gd k X) (hI : IterX X (.Tuple [.Name x px, .Name y py] kk tp) iter Γ n it Γ1) (hit : ∀ l, l < n → it l = .tup [a l, b l]) (hn : n ≤ sizeLine) (ok : BlkOk X.N X.env.scope scope [(x, i), (y, j)]) (hu : Γ1[i]? = some .un) (hv : Γ1[j]? = some .un)
    (he : ∀ l, l < n → ∀ s H C cl fp, EX (bk X scope s H C cl fp) ((Γ1.set i (.sh (a l))).set j (.sh (b l))) elt (.sh (f l)) ((Γ1.set i (.sh (a l))).set j (.sh (b l)))) (hi : X.N[i]? = some x := by rfl) (hj : X.N[j]? = some y := by rfl) (hx : ∀ s H C cl fp, Loc (bk X scope s H C cl fp).env.scope x := by exact fun _ _ _ _ _ => Or.inl rfl) (hy : ∀ s H C cl fp, Loc (bk X scope s H C cl fp).env.scope y := by exact fun _ _ _ _ _ => Or.inl rfl)
    (hf : ∀ s H C cl fp, (bk X scope s H C cl fp).fn x = true ∨ (bk X scope s H C cl fp).env.scope.names.lookup x = some .local := by exact fun _ _ _ _ _ => Or.inr rfl) (hf2 : ∀ s H C cl fp, (bk X scope s H C cl fp).fn y = true ∨ (bk X scope s H C cl fp).env.scope.names.lookup y = some .local := by exact fun _ _ _ _ _ => Or.inr rfl)
    (h1 : ∀ s H C cl fp, (assignEach [.Name x px, .Name y py] (bk X scope s H C cl fp).env).map (·.2) = assign (.Name x px) (bk X scope s H C cl fp).env :: (assignEach [.Name y py] (bk X scope s H C cl fp).env).map (·.2) := by intros; rfl)
    (h2 : ∀ s H C cl fp, (assignEach [.Name y py] (bk X scope s H C cl fp).env).map (·.2) = assign (.Name y py) (bk X scope s H C cl fp).env :: (assignEach [] (bk X scope s H C cl fp).env).map (·.2) := by intros; rfl)
    (h3 : ∀ s H C cl fp, (assignEach [.Name x px, .Name y py] (bk X scope s H C cl fp).env).length = 2 := by intros; rfl) (h4 : ∀ s H C cl fp, (assignEach [.Name x px, .Name y py] (bk X scope s H C cl fp).env).findIdx? (·.1) = none := by intros; rfl) :
    LcX X Γ (.Tuple [.Name x px, .Name y py] kk tp) iter [] elt scope [(x, i), (y, j)] n (fun _ => true) f Γ1 :=
  ⟨it, Γ1, gTup X.K 2 (gCons (gName i) (gCons (gName j) gNil)), fun _ => Γ1, fun l => (Γ1.set i (.sh (a l))).set j (.sh (b l)), fun l => (Γ1.set i (.sh (a l))).set j (.sh (b l)), fun l => (Γ1.set i (.sh (a l))).set j (.sh (b l)), hn, hI, ok, .refl,
    fun l hl z hz s e => by
      rcases List.mem_cons.mp hz with rfl | hz
      · rw [hu] at e; exact (Option.some.inj e).symm
      · rw [List.mem_singleton.mp hz, hv] at e; exact (Option.some.inj e).symm,
    fun s H C cl fp => pg_tup gd.calm (pgs_cons (pg_name gd.nd hi (hx s H C cl fp) (hf s H C cl fp)) (pgs_cons (pg_name gd.nd hj (hy s H C cl fp) (hf2 s H C cl fp)) pgs_nil (h2 s H C cl fp)) (h1 s H C cl fp)) (h3 s H C cl fp) (h4 s H C cl fp),
    fun l hl => by
      rw [hit l hl]
      exact tgt_two i j (.head _) (.tail _ (.head _)) (List.getElem?_eq_some_iff.mp hu).1 (List.getElem?_eq_some_iff.mp hv).1,
    .inl ⟨rfl, fun _ => rfl, rfl⟩, fun l hl _ => he l hl, fun l hl _ => cv_reset2 hu hv, fun _ _ z => Bool.noConfusion z, rfl⟩
theorem e_lc2 (i j : Nat) (gd : Gd k X) (h : LcX X Γ (.Tuple [.Name x px, .Name y py] kk tp) iter [] elt scope [(x, i), (y, j)] n (fun _ => true) f Γ1) (hs : ∀ x, foldedSetIterable iter X.env x = pure x := by intro _; rfl) : EX X Γ (.ListComp elt [⟨.Tuple [.Name x px, .Name y py] kk tp, iter, [], 0⟩] scope pos) (.ow (.lst ((List.range n).map f))) Γ1 := by
  rw [← took_all]
  exact e_lc gd h hs
/-- x in [ints] -/
theorem inV_ints (x : Int) : ∀ xs : List Int, inV (.int x) (xs.map V.int) = decide (x ∈ xs)
  | [] => rfl
  | y :: ys => by
    show ((y == x) || inV (.int x) (ys.map V.int)) = _
    rw [inV_ints x ys]
    by_cases h : y = x
    · subst h; simp
    · have h2 : x ≠ y := fun e => h e.symm
      rw [beq_eq_false_iff_ne.mpr h, Bool.false_or]
      simp [h2]
theorem flat_intsV (xs : List Int) : (xs.map V.int).all flatV = true := by
  rw [List.all_eq_true]
  intro v hv
  obtain ⟨x, _, rfl⟩ := List.mem_map.mp hv
  rfl
theorem o_inI {x : Int} {xs : List Int} : OpS X (compareOp .In) (.int x) (.lst (xs.map .int)) (.sh (.bl (decide (x ∈ xs)))) := ops_sc op_in_seq (.bl _) (fun _ => rfl) fun H S v y Q s r1 r2 q => by
  obtain ⟨p, vs, rfl, h1, h2⟩ := r2
  rw [h2.ints] at h1
  obtain rfl : v = .int x := r1
  refine ⟨p, _, rfl, .inl (.of (s _ _ h1)), rfl, flat_intsV xs, ?_⟩
  rw [if_neg (by decide), inV_ints]
  exact q
theorem o_ninI {x : Int} {xs : List Int} : OpS X (compareOp .NotIn) (.int x) (.lst (xs.map .int)) (.sh (.bl (!decide (x ∈ xs)))) := ops_sc op_notIn_seq (.bl _) (fun _ => rfl) fun H S v y Q s r1 r2 q => by
  obtain ⟨p, vs, rfl, h1, h2⟩ := r2
  rw [h2.ints] at h1
  obtain rfl : v = .int x := r1
  refine ⟨p, _, rfl, .inl (.of (s _ _ h1)), rfl, flat_intsV xs, ?_⟩
  rw [if_pos rfl, inV_ints]
  exact q
end
end PL

set_option Elab.async false
set_option linter.all false
set_option maxRecDepth 100000
set_option maxHeartbeats 1000000
namespace PL
open PySem PySem.Spec PyProof.Rows L2
section
variable {X : Cx} {Γ Γ1 Γ2 : Gm} {iter elt tg : Ex} {ifs : List Ex} {scope : Scope} {pos px py tp : Pos} {n k kk : Nat} {it f a b : Nat → D} {t : Nat → Bool} {x y : Str} {own : List (Str × Nat)}
theorem s1_eq {st : Stmt} (h : S1 X Γ st (.nx Γ1)) (e : Γ1 = Γ2) : S1 X Γ st (.nx Γ2) := e ▸ h
theorem lc1 (i : Nat) (f : Nat → D) (gd : Gd k X) (hI : IterX X (.Name x px) iter Γ n it Γ1) (hn : n ≤ sizeLine) (ok : BlkOk X.N X.env.scope scope [(x, i)]) (hu : Γ1[i]? = some .un)
    (he : ∀ j, j < n → ∀ s H C cl fp, EX (bk X scope s H C cl fp) (Γ1.set i (.sh (it j))) elt (.sh (f j)) (Γ1.set i (.sh (it j)))) (hi : X.N[i]? = some x := by rfl) (hx : ∀ s H C cl fp, Loc (bk X scope s H C cl fp).env.scope x := by exact fun _ _ _ _ _ => Or.inl rfl)
    (hf : ∀ s H C cl fp, (bk X scope s H C cl fp).fn x = true ∨ (bk X scope s H C cl fp).env.scope.names.lookup x = some .local := by exact fun _ _ _ _ _ => Or.inr rfl) : LcX X Γ (.Name x px) iter [] elt scope [(x, i)] n (fun _ => true) f Γ1 :=
  lcG i (fun _ => Γ1) (fun j => Γ1.set i (.sh (it j))) gd hI hn ok .refl (fun _ _ => hu) he (fun j _ => cv_reset hu) hi hx hf
/-- y = [..], never changed again -/
theorem s1_setLcF {Γ' : Gm} (i : Nat) {y : Str} {py spos : Pos} {L : List D} (gd : Gd k X) (h : LcX X Γ tg iter ifs elt scope own n t f Γ') (eL : took t f n = L) (hl : i < Γ'.length := by exact Nat.le_of_ble_eq_true rfl) (hy : X.N[i]? = some y := by rfl) (hyl : X.env.scope.names.lookup y = some .local := by rfl)
    (hsw : swapsWith (.ListComp elt [⟨tg, iter, ifs, 0⟩] scope pos) (some (.Name y py)) spos.line X.env = pure true := by exact sw_true rfl rfl rfl (by decide +kernel)) (hs : ∀ x, foldedSetIterable iter X.env x = pure x := by intro _; rfl) : S1 X Γ (.Assign [.Name y py] (.ListComp elt [⟨tg, iter, ifs, 0⟩] scope pos) spos) (.nx (Γ'.set i (.sh (.lst L)))) := by
  have h1 := s1_setLc (py := py) (spos := spos) (pos := pos) i gd h hl hy hyl hsw hs
  have h2 : (Γ'.set i (.ow (.lst (took t f n))))[i]? = some (.ow (.lst (took t f n))) := List.getElem?_set_self hl
  have h3 := s1_wk h1 (cv_frz h2)
  rw [List.set_set, eL] at h3
  exact h3
end
end PL

set_option Elab.async false
set_option linter.all false
set_option maxRecDepth 100000
set_option maxHeartbeats 1000000
/-! f(e, e'), both new objects that f may change -/
namespace PL
open PySem PySem.Spec PyProof.Rows L2
section
variable {X : Cx} {Γ Γ1 Γ2 : Gm} {e e' : Ex} {p pos : Pos} {r : Rs} {j k : Nat} {ps : List Str} {x : Str}
/-- what was made ahead stays while e' is walked: the frame of this very state keeps it -/
theorem e_c2n {P : Ob → Ob → List D → Rs → Ob → Ob → Prop} {o o' u u' : Ob} (G : C2 X.prog X.w X.K X.mg X.base x j ps P) (g : Gd k X) (h : EX X Γ e (.ow o) Γ1) (h' : EX X Γ1 e' (.ow u) Γ2) (hp : P o u [] r o' u') (hk : j ≤ k := by decide) (hg : Gl X x := by rfl)
    (hdb : (x == ("__debug__" : Str)) = false := by decide) (he : starEach [e, e'] X.env = (false, eval e X.env) :: starEach [e'] X.env := by rfl) (he2 : starEach [e'] X.env = (false, eval e' X.env) :: starEach [] X.env := by rfl) (hpl : (backTo pos (starEach [e'] X.env)).any (·.1) = false := by rfl) : EX X Γ (.Call (.Name x p) [e, e'] [] pos) r Γ2 := fun F σ H S Q R q => by
  obtain ⟨f, fd, gm, kp, b, Fo⟩ := G.ex
  refine pe_we (pe_call Fo (g.rm.mono hk) hg gm kp b .nil passL (pa_cons we_pe (pa_cons we_pe pa_nil he2) he) hdb he hpl) (h F σ H S _ R fun v H1 S1 R1 s1 ok => ?_)
  obtain ⟨a, rfl, n1, n2, obr, no⟩ := ok
  have Rb := R1.rebase
  obtain ⟨y, hy⟩ := obr.there
  refine h' _ σ H1 S1 _ Rb fun v2 H2 S2 R2 s2 ok2 => ?_
  obtain ⟨a2, rfl, m1, m2, obr2, no2⟩ := ok2
  have ka : H2 a = some y := R2.kp a y no hy
  have na : S2 a = none := R2.new a y hy no n1
  have R3 := R1.back R2
  have nea : a ≠ a2 := fun z => by
    have m2' : H1 a2 = none := m2
    rw [← z, hy] at m2'; cases m2'
  have noa : ¬ Own Γ2 σ a := fun ⟨i, ow⟩ => by
    rcases (R2.own ow).2.1 with z | z
    · have z' : H1 a = none := z
      rw [hy] at z'; cases z'
    · exact no z
  have ob1 : ObR X.K S2 H2 a o := obr.mono s2 fun z hz => by rw [hy] at hz; cases hz; exact ka
  refine ⟨S2, o, u, [], r, o', u', a, a2, [], hp, rfl, nea, R3.sh, na, m1, ob1, obr2, rfl, fun v H4 S4 t n3 n4 ob3 ub3 => ?_⟩
  have h0a2 : F.H0 a2 = none := R1.h0None m2
  obtain ⟨R4, ok4⟩ := R3.after t (fun b z => .inr (z.elim (fun z => by rw [z]; exact n2) fun z => by rw [z]; exact h0a2)) rfl fun i s es => .inl ⟨es, fun b ow z => z.elim (fun z => noa ⟨i, by rw [← z]; exact ow⟩) fun z => no2 ⟨i, by rw [← z]; exact ow⟩⟩
  exact q v H4 S4 R4 ((s1.trans s2).trans t.ss) ok4
end
end PL

set_option Elab.async false
set_option linter.all false
set_option maxRecDepth 100000
set_option maxHeartbeats 1000000
/-! calls with keywords, of defs and of classes, with defaults -/
namespace PL
open PySem PySem.Spec PyProof.Rows L2
section
variable {X : Cx} {Γ Γ1 Γ2 : Gm} {e : Ex} {es : List Ex} {p pos kpos : Pos} {r : Rs} {ds zs as : List D} {d : D} {j k n : Nat} {ps ks : List Str} {x y : Str} {C : Addr} {kws : List Keyword} {σ : L2.St} {H : Hp}
def WK (X : Cx) (kws : List Keyword) : TA := fun σ H Q => ∀ pos pins s, Inv X pins σ H s → wpAny (model X.prog X.w) X.A (evalAll ((backToKw pos (keywordEach kws X.env)).map (·.2))) (AP X pins σ Q) X.xe s
theorem wk_pk : PK X kws (WK X kws) := ⟨fun pos pins s σ H Q I h => h pos pins s I⟩
theorem pk_wk {t : TA} {Q : List V → Hp → Prop} (h : PK X kws t) (q : t σ H Q) : WK X kws σ H Q := fun pos pins s I => h.run pos pins s σ H Q I q
/-- the keywords' values -/
def KX (X : Cx) (Γ : Gm) (kws : List Keyword) (zs : List D) (Γ' : Gm) : Prop := ∀ F σ H S (Q : List V → Hp → Prop), RS X.K F Γ σ H S → (∀ vs H' S', RS X.K F Γ' σ H' S' → Same S S' → Reps X.K S' zs vs → Q vs H') → WK X kws σ H Q
theorem k_nil : KX X Γ [] [] Γ := fun F σ H S Q R q => pk_wk pk_nil (q [] H S R (.refl _) rfl)
theorem k_cons (h : EX X Γ e (.sh d) Γ1) (h2 : KX X Γ1 kws zs Γ2) : KX X Γ (⟨some y, e, kpos⟩ :: kws) (d :: zs) Γ2 := fun F σ H S Q R q =>
  pk_wk (pk_cons we_pe wk_pk) (h F σ H S _ R fun v H1 S1 R1 s1 ok => h2 F σ H1 S1 _ R1 fun vs H2 S2 R2 s2 ok2 => q _ H2 S2 R2 (s1.trans s2) (.cons (Rep.mono s2 _ _ ok) ok2))
/-- a list by its places: 0 .. the positional ones, then the defaults, then the keywords' ones -/
def pickL {α : Type} (is : List Nat) (us its ws : List α) : List α := is.filterMap fun i => (us ++ (its ++ ws))[i]?
theorem paired_get {α β : Type} {R : α → β → Prop} : ∀ {xs : List α} {ys : List β} (i : Nat), Paired R xs ys → (xs[i]? = none ∧ ys[i]? = none) ∨ ∃ x y, xs[i]? = some x ∧ ys[i]? = some y ∧ R x y
  | _, _, i, .nil => .inl ⟨by simp, by simp⟩
  | _, _, 0, .cons h t => .inr ⟨_, _, rfl, rfl, h⟩
  | _, _, i + 1, .cons h t => by
    rcases paired_get i t with ⟨a, b⟩ | ⟨x, y, a, b, c⟩
    · exact .inl ⟨by simpa using a, by simpa using b⟩
    · exact .inr ⟨x, y, by simpa using a, by simpa using b, c⟩
theorem paired_app {α β : Type} {R : α → β → Prop} : ∀ {xs zs : List α} {ys ws : List β}, Paired R xs ys → Paired R zs ws → Paired R (xs ++ zs) (ys ++ ws)
  | _, _, _, _, .nil, h => h
  | _, _, _, _, .cons a t, h => .cons a (paired_app t h)
theorem paired_pick {α β : Type} {R : α → β → Prop} {us its ws : List α} {us' its' ws' : List β} (h1 : Paired R us us') (h2 : Paired R its its') (h3 : Paired R ws ws') : ∀ is : List Nat, Paired R (pickL is us its ws) (pickL is us' its' ws')
  | [] => .nil
  | i :: is => by
    unfold pickL
    rw [List.filterMap_cons, List.filterMap_cons]
    have h := paired_get i (paired_app h1 (paired_app h2 h3))
    rcases h with ⟨a, b⟩ | ⟨x, y, a, b, c⟩
    · rw [a, b]; exact paired_pick h1 h2 h3 is
    · rw [a, b]; exact .cons c (paired_pick h1 h2 h3 is)
theorem pick_shift {α : Type} {a : α} {vs ds zs : List α} {is : List Nat} (h0 : 0 ∉ is) : pickL (0 :: is) (a :: vs) ds zs = a :: pickL (is.map (· - 1)) vs ds zs := by
  unfold pickL
  rw [List.filterMap_cons]
  show a :: _ = _
  congr 1
  rw [List.filterMap_map]
  induction is with
  | nil => rfl
  | cons i is ih =>
    have h1 := fun z => h0 (List.mem_cons_of_mem i z)
    rw [List.filterMap_cons, List.filterMap_cons, ih h1]
    cases i with
    | zero => exact absurd (List.mem_cons_self ..) h0
    | succ i => rfl
/-- a def (of defaults dvs) called with n values and the keywords ks; is: the places -/
structure KwB (K : PySem.W.Frag) (fd : FuncData) (ps : List Str) (n : Nat) (ks : List Str) (dvs : List V) (is : List Nat) : Prop where
  ex : ∃ its : List Value, KBn K fd ps n ks (fun us ws => pickL is us its ws) (fun vs zs => pickL is vs dvs zs)
theorem kwb_d {K : PySem.W.Frag} {x qual : Str} {params : Arguments} {body : List Stmt} {scope : Scope} {dvs : List V} {f : Addr} {fd : FuncData} {ps : List Str} (F : FunD K x qual params body scope dvs [] f fd) (n : Nat) (ks : List Str) (is : List Nat) (hd : dvs ≠ [])
    (h : ∀ (T : Addr) (kV doc pm : Value) (an : Option Addr) (cdv ct : Value) (us its ws : List Value), us.length = n → its.length = dvs.length → ws.length = ks.length →
      ∃ k, bindArgs (PySem.W.fnOf x qual params body scope (.ref T) kV doc pm an cdv ct) ⟨us, ks.zip ws⟩ = seqItems? (.ref T) >>= k ∧ k (some its.toArray) = pure (ps.zip (pickL is us its ws))) : KwB K fd ps n ks dvs is :=
  ⟨F.kbindsD n ks (fun us its ws => pickL is us its ws) hd (fun a b c => paired_pick a b c is) h⟩
theorem kwb_0 {K : PySem.W.Frag} {x qual : Str} {params : Arguments} {body : List Stmt} {scope : Scope} {f : Addr} {fd : FuncData} {ps : List Str} (F : FunD K x qual params body scope [] [] f fd) (n : Nat) (ks : List Str) (is : List Nat)
    (h : ∀ (kV doc pm : Value) (an : Option Addr) (cdv ct : Value) (us ws : List Value), us.length = n → ws.length = ks.length → bindArgs (PySem.W.fnOf x qual params body scope .none kV doc pm an cdv ct) ⟨us, ks.zip ws⟩ = pure (ps.zip (pickL is us [] ws))) : KwB K fd ps n ks [] is := by
  obtain ⟨oc, od, dV, kV, doc, pm, an, cdv, ct, osl, rfl, lk, hcd, hD, hK⟩ := F.ex
  rcases hD with ⟨_, rfl⟩ | ⟨e, _⟩
  · exact ⟨[], ⟨fun s us ws X l1 l2 => .of_eq (h kV doc pm an cdv ct us ws l1 l2), fun r1 r2 => paired_pick r1 .nil r2 is⟩⟩
  · exact absurd rfl e
theorem Reps.pick {K : PySem.W.Frag} {S : Hp} {ds fs zs : List D} {vs us ws : List V} (h1 : Reps K S ds vs) (h2 : Reps K S fs us) (h3 : Reps K S zs ws) : ∀ is : List Nat, Reps K S (pickL is ds fs zs) (pickL is vs us ws)
  | [] => rfl
  | i :: is => by
    have ih := Reps.pick h1 h2 h3 is
    have h := h1.append (h2.append h3)
    unfold pickL
    rw [List.filterMap_cons, List.filterMap_cons]
    cases e : (ds ++ (fs ++ zs))[i]? with
    | none =>
      have e2 : (vs ++ (us ++ ws))[i]? = none := by
        rw [List.getElem?_eq_none_iff, ← h.length]
        exact List.getElem?_eq_none_iff.mp e
      rw [e2]; exact ih
    | some q =>
      obtain ⟨v, e2, rv⟩ := h.get e
      rw [e2]
      exact .cons rv ih
/-! ### defs -/
/-- f(e, .., k = v, ..) -/
theorem e_kw {P : List D → Rs → Prop} {f : Addr} {fd : FuncData} {dvs : List V} {fs : List D} {is : List Nat} (Fo : FnOk X.prog X.w X.K X.mg X.base (L2.CX X.prog X.w) j f fd ps (sp0 X.K P)) (at_ : At X x f) (B : KwB X.K fd ps ds.length ks dvs is) (g : Gd k X) (hfs : ∀ S, Reps X.K S fs dvs) (ha : AX X Γ (e :: es) ds Γ1) (hkw : KX X Γ1 kws zs Γ2) (hp : P (pickL is ds fs zs) r) (hz : zs.length = ks.length := by rfl)
    (hk : j ≤ k := by decide) (hg : Gl X x := by rfl) (hall : (backToKw pos (keywordEach kws X.env)).all (·.1.isSome) = true := by rfl) (hks : (backToKw pos (keywordEach kws X.env)).filterMap (·.1) = ks := by rfl)
    (hdb : (x == ("__debug__" : Str)) = false := by decide) (he : starEach (e :: es) X.env = (false, eval e X.env) :: starEach es X.env := by rfl)
    (hpl : ((backTo pos (starEach (e :: es) X.env)).any (·.1) || (backToKw pos (keywordEach kws X.env)).any (·.1.isNone)) = false := by rfl) : EX X Γ (.Call (.Name x p) (e :: es) kws pos) r Γ2 := fun F σ H S Q R q => by
  obtain ⟨its, hb⟩ := B.ex
  refine pe_we (pe_callN (E := E0) Fo (g.rm.mono hk) hg at_.mg at_.kp hb passL wa_pa wk_pk hall hks hdb he hpl) ?_
  refine ha F σ H S _ R fun vs H1 S1 R1 s1 ok => hkw F σ H1 S1 _ R1 fun us H2 S2 R2 s2 ok2 => ?_
  refine ⟨ok.length.symm, ok2.length.symm.trans hz, S2, _, r, hp, R2.sh, Reps.pick (Reps.mono s2 _ _ ok) (hfs S2) ok2 is, fun v H3 S3 t => ?_⟩
  obtain ⟨R3, ok3⟩ := R2.after0 t
  exact q v H3 S3 R3 ((s1.trans s2).trans t.ss) ok3
/-- f(k = v, ..) -/
theorem e_kw0 {P : List D → Rs → Prop} {f : Addr} {fd : FuncData} {dvs : List V} {fs : List D} {is : List Nat} (Fo : FnOk X.prog X.w X.K X.mg X.base (L2.CX X.prog X.w) j f fd ps (sp0 X.K P)) (at_ : At X x f) (B : KwB X.K fd ps 0 ks dvs is) (g : Gd k X) (hfs : ∀ S, Reps X.K S fs dvs) (hkw : KX X Γ kws zs Γ1) (hp : P (pickL is [] fs zs) r) (hz : zs.length = ks.length := by rfl)
    (hk : j ≤ k := by decide) (hg : Gl X x := by rfl) (hall : (backToKw pos (keywordEach kws X.env)).all (·.1.isSome) = true := by rfl) (hks : (backToKw pos (keywordEach kws X.env)).filterMap (·.1) = ks := by rfl)
    (hdb : (x == ("__debug__" : Str)) = false := by decide) (hpl : ((backTo pos (starEach [] X.env)).any (·.1) || (backToKw pos (keywordEach kws X.env)).any (·.1.isNone)) = false := by rfl) : EX X Γ (.Call (.Name x p) [] kws pos) r Γ1 := fun F σ H S Q R q => by
  obtain ⟨its, hb⟩ := B.ex
  have pe : PE X (.Call (.Name x p) [] kws pos) (fun σ H Q => WK X kws σ H fun zs H2 => zs.length = ks.length ∧ sp0 X.K P (pickL is [] dvs zs) H2 Q E0) := by
    refine ⟨fun pins s σ H Q I h => wpAny_Call_Name_kw (ld_glob I hg at_.mg ?_ hdb)⟩
    refine PySem.W.callWith_KW0 (h₀ := X.base) I.ok.mod.kin at_.kp hall (thn (wk_pk.run pos pins s σ H _ I h) fun ws s2 ⟨zs, H2, I2, rz, l2, q2⟩ => ⟨I2.kIn, ?_⟩) hpl
    rw [hks]
    exact run_fnN Fo (g.rm.mono hk) hb passL I2 .nil rz rfl l2 q2
  refine pe_we pe (hkw F σ H S _ R fun us H2 S2 R2 s2 ok2 => ⟨ok2.length.symm.trans hz, S2, _, r, hp, R2.sh, Reps.pick (ds := []) (vs := []) rfl (hfs S2) ok2 is, fun v H3 S3 t => ?_⟩)
  obtain ⟨R3, ok3⟩ := R2.after0 t
  exact q v H3 S3 R3 (s2.trans t.ss) ok3
/-! ### classes -/
theorem make_rd {P : Ob → List D → Rs → Ob → Prop} {o' : Ob} {F : Fr} {S H : Hp} {Q : VK} {as : List D} {ws : List V} {a dx : Addr} (R1 : RS X.K F Γ σ H S) (hp : P (.ins C [] []) as (.sh .non) o') (rp : Reps X.K S as ws) (na : H a = none) (nd : H dx = none) (ne : dx ≠ a)
    (q : ∀ v H' S', RS X.K F Γ σ H' S' → Same S S' → RsOk X.K F Γ σ H' S' (.ow o') v → Q v H') : sp1 X.K P (.ref a :: ws) (upd (upd H dx (.own a)) a (.ins C dx [])) (fun v H3 => v = .non ∧ Q (.ref a) H3) E0 := by
  have g1 : Same H (upd (upd H dx (.own a)) a (.ins C dx [])) := (same_upd nd).trans (same_upd (by rw [upd_ne ne.symm]; exact na))
  have R2 := R1.grow g1
  refine ⟨S, .ins C [] [], as, .sh .non, o', a, ws, hp, rfl, R2.sh, R1.sNone na, ⟨dx, [], upd_same, rfl, rfl⟩, rp, fun v H2 S2 t n2 ob2 => ⟨t.res, ?_⟩⟩
  have t' : Ret X.K S H (fun _ => False) (.ow o') (.ref a) H2 S2 := ⟨t.ss, t.sh, fun b o e n => t.new b o (g1 b o e) n, fun b o _ e => t.kp b o (fun z => by rw [z, na] at e; cases e) (g1 b o e), fun b o e => t.th b o (g1 b o e), a, rfl, na, n2, ob2⟩
  obtain ⟨R3, ok3⟩ := R1.after0 t'
  exact q (.ref a) H2 S2 R3 t.ss ok3
/-- C(e, .., k = v, ..); the places: 0 is the new object -/
theorem e_mkw {P : Ob → List D → Rs → Ob → Prop} {o' : Ob} {f : Addr} {fd : FuncData} {dvs : List V} {fs : List D} {is : List Nat} (M : Mk X.K C f) (Fo : FnOk X.prog X.w X.K X.mg X.base (L2.CX X.prog X.w) j f fd ps (sp1 X.K P)) (hm : X.mg x = some (.ref C)) (B : KwB X.K fd ps (ds.length + 1) ks dvs (0 :: is)) (h0 : 0 ∉ is) (g : Gd k X) (hfs : ∀ S, Reps X.K S fs dvs) (ha : AX X Γ (e :: es) ds Γ1) (hkw : KX X Γ1 kws zs Γ2) (hp : P (.ins C [] []) (pickL (is.map (· - 1)) ds fs zs) (.sh .non) o') (hz : zs.length = ks.length := by rfl)
    (hk : j + 1 ≤ k := by decide) (hg : Gl X x := by rfl) (hall : (backToKw pos (keywordEach kws X.env)).all (·.1.isSome) = true := by rfl) (hks : (backToKw pos (keywordEach kws X.env)).filterMap (·.1) = ks := by rfl)
    (hdb : (x == ("__debug__" : Str)) = false := by decide) (he : starEach (e :: es) X.env = (false, eval e X.env) :: starEach es X.env := by rfl)
    (hpl : ((backTo pos (starEach (e :: es) X.env)).any (·.1) || (backToKw pos (keywordEach kws X.env)).any (·.1.isNone)) = false := by rfl) : EX X Γ (.Call (.Name x p) (e :: es) kws pos) (.ow o') Γ2 := fun F σ H S Q R q => by
  obtain ⟨its, hb⟩ := B.ex
  refine pe_we (pe_makeN (E := E0) M Fo (g.rm.mono hk) hg hm hb passL wa_pa wk_pk hall hks hdb he hpl) ?_
  refine ha F σ H S _ R fun vs H1 S1 R1 s1 ok => hkw F σ H1 S1 _ R1 fun us H2 S2 R2 s2 ok2 => ⟨ok.length.symm, ok2.length.symm.trans hz, fun a dx na nd ne => ?_⟩
  show sp1 X.K P (pickL (0 :: is) (V.ref a :: vs) dvs us) _ _ _
  rw [pick_shift h0]
  exact make_rd R2 hp (Reps.pick (Reps.mono s2 _ _ ok) (hfs S2) ok2 _) na nd ne fun v H3 S3 R3 s3 ok3 => q v H3 S3 R3 ((s1.trans s2).trans s3) ok3
theorem e_mkw0 {P : Ob → List D → Rs → Ob → Prop} {o' : Ob} {f : Addr} {fd : FuncData} {dvs : List V} {fs : List D} {is : List Nat} (M : Mk X.K C f) (Fo : FnOk X.prog X.w X.K X.mg X.base (L2.CX X.prog X.w) j f fd ps (sp1 X.K P)) (hm : X.mg x = some (.ref C)) (B : KwB X.K fd ps 1 ks dvs (0 :: is)) (h0 : 0 ∉ is) (g : Gd k X) (hfs : ∀ S, Reps X.K S fs dvs) (hkw : KX X Γ kws zs Γ1) (hp : P (.ins C [] []) (pickL (is.map (· - 1)) [] fs zs) (.sh .non) o') (hz : zs.length = ks.length := by rfl)
    (hk : j + 1 ≤ k := by decide) (hg : Gl X x := by rfl) (hall : (backToKw pos (keywordEach kws X.env)).all (·.1.isSome) = true := by rfl) (hks : (backToKw pos (keywordEach kws X.env)).filterMap (·.1) = ks := by rfl)
    (hdb : (x == ("__debug__" : Str)) = false := by decide) (hpl : ((backTo pos (starEach [] X.env)).any (·.1) || (backToKw pos (keywordEach kws X.env)).any (·.1.isNone)) = false := by rfl) : EX X Γ (.Call (.Name x p) [] kws pos) (.ow o') Γ1 := fun F σ H S Q R q => by
  obtain ⟨its, hb⟩ := B.ex
  refine pe_we (pe_makeK0 (E := E0) M Fo (g.rm.mono hk) hg hm hb passL wk_pk hall hks hdb hpl) ?_
  refine hkw F σ H S _ R fun us H2 S2 R2 s2 ok2 => ⟨rfl, ok2.length.symm.trans hz, fun a dx na nd ne => ?_⟩
  show sp1 X.K P (pickL (0 :: is) (V.ref a :: []) dvs us) _ _ _
  rw [pick_shift h0]
  exact make_rd R2 hp (Reps.pick (ds := []) (vs := []) rfl (hfs S2) ok2 _) na nd ne fun v H3 S3 R3 s3 ok3 => q v H3 S3 R3 (s2.trans s3) ok3
end
end PL

set_option Elab.async false
set_option linter.all false
set_option maxRecDepth 100000
set_option maxHeartbeats 1000000
/-! defs with defaults: the def itself is kept, so that each call binds as it is written -/
namespace PL
open PySem PySem.Spec PyProof.Rows L2
structure Cd (Pg : Program) (w : World) (K : PySem.W.Frag) (mg : Str → Option Value) (base : Heap) (x : Str) (j : Nat) (ps : List Str) (st : Stmt) (dvs : List V) (P : List D → Rs → Prop) : Prop where
  ex : ∃ f fd, mg x = some (.ref f) ∧ FunD K x x (defArgs st) (defBody st) (defScope st) dvs [] f fd ∧ FnOk Pg w K mg base (L2.CX Pg w) j f fd ps (sp0 K P)
section
variable {Pg : Program} {w : World} {K : PySem.W.Frag} {mg : Str → Option Value} {base : Heap} {x : Str} {st : Stmt} {N ps : List Str} {k : Nat} {dvs : List V}
theorem cd_mk {P : List D → Rs → Prop} (Dd : Df K mg x st dvs) (Sc : FnScope N ps (defScope st)) (hn : ps.length ≤ N.length) (hl : ∀ ds r, P ds r → ds.length = ps.length ∧ ∀ j, r ≠ .br j)
    (hb : ∀ f cd A outer s H E, Gd k (cx Pg w K mg base N x (defScope st) f cd A outer s H E) → ∀ ds r, P ds r → ∃ Γ', Ends1 (cx Pg w K mg base N x (defScope st) f cd A outer s H E) (ent N ds) (defBody st) r Γ') : Cd Pg w K mg base x (k + 1) ps st dvs P := by
  obtain ⟨f, fd, FD, gm⟩ := Dd.ex
  exact ⟨f, fd, gm, FD, fn0 FD Sc (fun ds r p => (hl ds r p).1) hn (fun ds r p => (hl ds r p).2) (hb f)⟩
end
section
variable {X : Cx} {Γ Γ1 Γ2 : Gm} {e : Ex} {es : List Ex} {p pos : Pos} {r : Rs} {ds zs fs : List D} {j k : Nat} {ps ks : List Str} {x : Str} {st : Stmt} {dvs : List V} {kws : List Keyword} {P : List D → Rs → Prop}
/-- f(e, ..): the defaults from the i-th on fill up -/
theorem e_cd (i : Nat) (G : Cd X.prog X.w X.K X.mg X.base x j ps st dvs P) (hb : ∀ f fd, FunD X.K x x (defArgs st) (defBody st) (defScope st) dvs [] f fd → ∃ dv, Vals (dvs.drop i) dv ∧ Binds X.K fd ps dv) (g : Gd k X) (ha : AX X Γ (e :: es) ds Γ1) (hfs : ∀ S, Reps X.K S fs (dvs.drop i)) (hp : P (ds ++ fs) r)
    (hk : j ≤ k := by decide) (hg : Gl X x := by rfl) (hdb : (x == ("__debug__" : Str)) = false := by decide) (he : starEach (e :: es) X.env = (false, eval e X.env) :: starEach es X.env := by rfl) (hpl : (backTo pos (starEach es X.env)).any (·.1) = false := by rfl) : EX X Γ (.Call (.Name x p) (e :: es) [] pos) r Γ1 := by
  obtain ⟨f, fd, gm, FD, F⟩ := G.ex
  obtain ⟨dv, hv, b⟩ := hb f fd FD
  exact e_call0 (dds := fs) F ⟨gm, FD.kp⟩ g hp ha b hv hfs hk hg hdb he hpl
/-- f(e, .., k = v, ..) -/
theorem e_cdk (is : List Nat) (G : Cd X.prog X.w X.K X.mg X.base x j ps st dvs P) (hb : ∀ f fd, FunD X.K x x (defArgs st) (defBody st) (defScope st) dvs [] f fd → KwB X.K fd ps ds.length ks dvs is) (g : Gd k X) (hfs : ∀ S, Reps X.K S fs dvs) (ha : AX X Γ (e :: es) ds Γ1) (hkw : KX X Γ1 kws zs Γ2) (hp : P (pickL is ds fs zs) r) (hz : zs.length = ks.length := by rfl)
    (hk : j ≤ k := by decide) (hg : Gl X x := by rfl) (hall : (backToKw pos (keywordEach kws X.env)).all (·.1.isSome) = true := by rfl) (hks : (backToKw pos (keywordEach kws X.env)).filterMap (·.1) = ks := by rfl)
    (hdb : (x == ("__debug__" : Str)) = false := by decide) (he : starEach (e :: es) X.env = (false, eval e X.env) :: starEach es X.env := by rfl)
    (hpl : ((backTo pos (starEach (e :: es) X.env)).any (·.1) || (backToKw pos (keywordEach kws X.env)).any (·.1.isNone)) = false := by rfl) : EX X Γ (.Call (.Name x p) (e :: es) kws pos) r Γ2 := by
  obtain ⟨f, fd, gm, FD, F⟩ := G.ex
  exact e_kw F ⟨gm, FD.kp⟩ (hb f fd FD) g hfs ha hkw hp hz hk hg hall hks hdb he hpl
theorem e_cdk0 (is : List Nat) (G : Cd X.prog X.w X.K X.mg X.base x j ps st dvs P) (hb : ∀ f fd, FunD X.K x x (defArgs st) (defBody st) (defScope st) dvs [] f fd → KwB X.K fd ps 0 ks dvs is) (g : Gd k X) (hfs : ∀ S, Reps X.K S fs dvs) (hkw : KX X Γ kws zs Γ1) (hp : P (pickL is [] fs zs) r) (hz : zs.length = ks.length := by rfl)
    (hk : j ≤ k := by decide) (hg : Gl X x := by rfl) (hall : (backToKw pos (keywordEach kws X.env)).all (·.1.isSome) = true := by rfl) (hks : (backToKw pos (keywordEach kws X.env)).filterMap (·.1) = ks := by rfl)
    (hdb : (x == ("__debug__" : Str)) = false := by decide) (hpl : ((backTo pos (starEach [] X.env)).any (·.1) || (backToKw pos (keywordEach kws X.env)).any (·.1.isNone)) = false := by rfl) : EX X Γ (.Call (.Name x p) [] kws pos) r Γ1 := by
  obtain ⟨f, fd, gm, FD, F⟩ := G.ex
  exact e_kw0 F ⟨gm, FD.kp⟩ (hb f fd FD) g hfs hkw hp hz hk hg hall hks hdb hpl
end
end PL

set_option Elab.async false
set_option linter.all false
set_option maxRecDepth 100000
set_option maxHeartbeats 1000000
/-! PL, further: contracts by what comes out (Cp: a def that draws from a pool), items of owned lists, a list unpacked, isinstance of own classes. -/
namespace PL
open PySem PySem.Spec PyProof.Rows L2
theorem Cd.c0 {Pg : Program} {w : World} {K : PySem.W.Frag} {mg : Str → Option Value} {base : Heap} {x : Str} {st : Stmt} {ps : List Str} {j : Nat} {P : List D → Rs → Prop} (G : Cd Pg w K mg base x j ps st [] P) (bd : BindsN x st ps) : C0 Pg w K mg base x j ps P := by
  obtain ⟨f, fd, gm, FD, Fo⟩ := G.ex
  exact ⟨f, fd, gm, FD.kp, FD.bindsN bd, Fo⟩
/-- a pool -/
abbrev po (n : Int) : Ob := .lst [.int n]
structure Cp (Pg : Program) (w : World) (K : PySem.W.Frag) (mg : Str → Option Value) (base : Heap) (x : Str) (j : Nat) (ps : List Str) (Pre : List D → Prop) (Post : List D → Rs → Prop) : Prop where
  ex : ∃ P, C1 Pg w K mg base x j ps P ∧ ∀ n ds, Pre ds → ∃ r n', Post ds r ∧ P (po n) ds r (po n')
theorem cp_mk {Pg : Program} {w : World} {K : PySem.W.Frag} {mg : Str → Option Value} {base : Heap} {x : Str} {st : Stmt} {N ps : List Str} {k : Nat} {Pre : List D → Prop} {Post : List D → Rs → Prop} (Dd : Df K mg x st []) (Sc : FnScope N ps (defScope st)) (bd : BindsN x st ps) (hn : ps.length ≤ N.length) (hl : ∀ ds, Pre ds → ds.length + 1 = ps.length)
    (hb : ∀ n ds, Pre ds → ∃ r n', Post ds r ∧ (∀ j, r ≠ .br j) ∧ ∀ f cd A outer s H E, Gd k (cx Pg w K mg base N x (defScope st) f cd A outer s H E) → ∀ p, ∃ Γ', Ends1 (cx Pg w K mg base N x (defScope st) f cd A outer s H E) (.pr p (po n) :: ent N.tail ds) (defBody st) r Γ' ∧ Γ'[0]? = some (.pr p (po n'))) : Cp Pg w K mg base x (k + 1) ps Pre Post := by
  refine ⟨fun o ds r o' => ds.length + 1 = ps.length ∧ (∀ j, r ≠ .br j) ∧ ∀ f cd A outer s H E, Gd k (cx Pg w K mg base N x (defScope st) f cd A outer s H E) → ∀ p, ∃ Γ', Ends1 (cx Pg w K mg base N x (defScope st) f cd A outer s H E) (.pr p o :: ent N.tail ds) (defBody st) r Γ' ∧ Γ'[0]? = some (.pr p o'), ?_, fun n ds pre => ?_⟩
  · exact c1_mk Dd Sc bd hn (fun o ds r o' h => ⟨h.1, h.2.1⟩) fun f cd A outer s H E g o ds r o' h p => h.2.2 f cd A outer s H E g p
  · obtain ⟨r, n', h1, h2, h3⟩ := hb n ds pre
    exact ⟨r, n', h1, hl ds pre, h2, h3⟩
/-- the same of two pools -/
structure Cq (Pg : Program) (w : World) (K : PySem.W.Frag) (mg : Str → Option Value) (base : Heap) (x : Str) (j : Nat) (ps : List Str) (Pre : List D → Prop) (Post : List D → Rs → Prop) : Prop where
  ex : ∃ P, C2 Pg w K mg base x j ps P ∧ ∀ n m ds, Pre ds → ∃ r n' m', Post ds r ∧ P (po n) (po m) ds r (po n') (po m')
theorem cq_mk {Pg : Program} {w : World} {K : PySem.W.Frag} {mg : Str → Option Value} {base : Heap} {x : Str} {st : Stmt} {N ps : List Str} {k : Nat} {Pre : List D → Prop} {Post : List D → Rs → Prop} (Dd : Df K mg x st []) (Sc : FnScope N ps (defScope st)) (bd : BindsN x st ps) (hn : ps.length ≤ N.length) (hl : ∀ ds, Pre ds → ds.length + 2 = ps.length)
    (hb : ∀ n m ds, Pre ds → ∃ r n' m', Post ds r ∧ (∀ j, r ≠ .br j) ∧ ∀ f cd A outer s H E, Gd k (cx Pg w K mg base N x (defScope st) f cd A outer s H E) → ∀ p q, ∃ Γ', Ends1 (cx Pg w K mg base N x (defScope st) f cd A outer s H E) (.pr p (po n) :: .pr q (po m) :: ent N.tail.tail ds) (defBody st) r Γ' ∧ Γ'[0]? = some (.pr p (po n')) ∧ Γ'[1]? = some (.pr q (po m'))) : Cq Pg w K mg base x (k + 1) ps Pre Post := by
  refine ⟨fun o u ds r o' u' => ds.length + 2 = ps.length ∧ (∀ j, r ≠ .br j) ∧ ∀ f cd A outer s H E, Gd k (cx Pg w K mg base N x (defScope st) f cd A outer s H E) → ∀ p q, ∃ Γ', Ends1 (cx Pg w K mg base N x (defScope st) f cd A outer s H E) (.pr p o :: .pr q u :: ent N.tail.tail ds) (defBody st) r Γ' ∧ Γ'[0]? = some (.pr p o') ∧ Γ'[1]? = some (.pr q u'), ?_, fun n m ds pre => ?_⟩
  · exact c2_mk Dd Sc bd hn (fun o u ds r o' u' h => ⟨h.1, h.2.1⟩) fun f cd A outer s H E g o u ds r o' u' h p q => h.2.2 f cd A outer s H E g p q
  · obtain ⟨r, n', m', h1, h2, h3⟩ := hb n m ds pre
    exact ⟨r, n', m', h1, hl ds pre, h2, h3⟩
/-- turns, one behind another, each with what the one before left -/
theorem seq_ex {α : Type} (I : α → Prop) (T : Nat → α → α → Prop) (a : α) (h0 : I a) (hs : ∀ i a, I a → ∃ b, T i a b ∧ I b) : ∃ s : Nat → α, s 0 = a ∧ ∀ i, I (s i) ∧ T i (s i) (s (i + 1)) := by
  have h : ∀ i (x : {a // I a}), ∃ y : {a // I a}, T i x.1 y.1 := fun i x => let ⟨b, h1, h2⟩ := hs i x.1 x.2; ⟨⟨b, h2⟩, h1⟩
  let f : Nat → {a // I a} := Nat.rec ⟨a, h0⟩ fun i x => Classical.choose (h i x)
  exact ⟨fun i => (f i).1, rfl, fun i => ⟨(f i).2, Classical.choose_spec (h i (f i))⟩⟩
section
variable {X : Cx} {Γ Γ1 Γ2 : Gm} {a b : Ex} {pos : Pos} {d : D} {ds : List D} {i : Int} {n : Nat} {s : Sl}
/-- xs[i], xs a list of one's own -/
theorem e_ixO (h1 : EX X Γ a (.br n) Γ1) (h2 : EX X Γ1 b (.sh (.int i)) Γ2) (hs : Has Γ2 n s (.lst ds)) (ha : atI ds i = some d) (hp : PlainIx b := by exact fun _ _ => rfl) : EX X Γ (.Subscript a b pos) (.sh d) Γ2 := fun F σ H S Q R q => by
  refine pe_we (pe_ix ix_list we_pe we_pe hp) (h1 F σ H S _ R fun x H1 S1 R1 s1 r1 => h2 F σ H1 S1 _ R1 fun y H2 S2 R2 s2 r2 => ?_)
  obtain ⟨p, rfl, own1⟩ := r1
  obtain ⟨p', own2, vs, hl, rp⟩ := R2.has hs
  obtain rfl := own1.eq own2
  obtain ⟨v, e1, e2⟩ := rp.atI ha
  exact ⟨p, vs, i, v, rfl, r2, .of hl, e1, q v H2 S2 R2 (s1.trans s2) e2⟩
/-- a, b, .. = a list -/
theorem g_lst {tgs : List Ex} {kk : Nat} (hc : X.calm = true) (h : GsX X tgs Γ ds Γ1) (hn : (assignEach tgs X.env).length = ds.length := by rfl) (hst : (assignEach tgs X.env).findIdx? (·.1) = none := by rfl) : GX X (.Tuple tgs kk pos) Γ (.lst ds) Γ1 := fun F σ H S v Q R ok k => by
  obtain ⟨p, vs, rfl, h1, h2⟩ := ok
  exact pg_wg (pg_unl hc wgs_pgs hn hst) ⟨p, vs, rfl, .of (R.sh _ _ h1), h2.length.symm, h F σ H S vs Q R h2 k⟩
/-- isinstance of own classes -/
structure Ic (K : PySem.W.Frag) (C : Addr) : Prop where
  ins : C8.InsC K C
  no : ∀ t ∈ ["NoneType", "bool", "int", "str", "tuple", "list", "dict"], PySem.W.kitOne K (.type t) (.ref C) = some false
theorem c_isC {C : Addr} {ns : List Str} {fs : List D} (c : Ic X.K C) : CallS X (.builtin "isinstance") [.obj C ns fs, .raw (.ref C)] (.sh (.bl true)) := calls_sc (C8.call_isC c.ins) (.bl true) (fun _ => rfl) fun H S vs Q s r q => by
  obtain ⟨v, w, rfl, r1, r2⟩ := reps2 r
  obtain ⟨p, dx, us, rfl, h1, _, _⟩ := r1
  obtain rfl : w = V.ref C := r2
  exact ⟨p, dx, _, rfl, s _ _ h1, q⟩
theorem c_isNo {C : Addr} (c : Ic X.K C) (hp : d.plain = true) : CallS X (.builtin "isinstance") [d, .raw (.ref C)] (.sh (.bl false)) := calls_sc call_isi (.bl false) (fun _ => rfl) fun H S vs Q s r q => by
  obtain ⟨v, w, rfl, r1, r2⟩ := reps2 r
  obtain rfl : w = V.ref C := r2
  exact ⟨v, _, _, _, false, rfl, .own C, tyx_of hp s r1, c.no _ (ty_mem hp), q⟩
theorem c_isOth {C C' : Addr} {ns : List Str} {fs : List D} (c : Ic X.K C) (hk : PySem.W.kitOne X.K (.ref C) (.ref C') = some false) : CallS X (.builtin "isinstance") [.obj C ns fs, .raw (.ref C')] (.sh (.bl false)) := calls_sc call_isi (.bl false) (fun _ => rfl) fun H S vs Q s r q => by
  obtain ⟨v, w, rfl, r1, r2⟩ := reps2 r
  obtain ⟨p, dx, us, rfl, h1, _, _⟩ := r1
  obtain rfl : w = V.ref C' := r2
  exact ⟨_, _, _, _, false, rfl, .own C', .base (.ins (s _ _ h1) c.ins.cl c.ins.ha c.ins.hn c.ins.htk c.ins.hm), hk, q⟩
end
end PL

set_option Elab.async false
set_option linter.all false
set_option maxRecDepth 100000
set_option maxHeartbeats 1000000
namespace PL
open PySem PySem.Spec PyProof.Rows L2
section
variable {X : Cx} {Γ Γ1 Γ2 : Gm} {a b : Ex} {pos : Pos} {k' : Nat}
/-- two new objects at once -/
theorem e_two {Q : VK} {e e' : Ex} {o u : Ob} {F : Fr} {σ : L2.St} {H S : Hp} (R : RS X.K F Γ σ H S) (h : EX X Γ e (.ow o) Γ1) (h' : EX X Γ1 e' (.ow u) Γ2) {Q2 : V → V → Hp → Prop}
    (q : ∀ v v2 H2 S2, RS X.K F Γ2 σ H2 S2 → Same S S2 → RsOk X.K F Γ2 σ H2 S2 (.ow o) v → RsOk X.K F Γ2 σ H2 S2 (.ow u) v2 → v ≠ v2 → Q2 v v2 H2) : WE X e σ H fun v H1 => WE X e' σ H1 fun v2 H2 => Q2 v v2 H2 := by
  refine h F σ H S _ R fun v H1 S1 R1 s1 ok => ?_
  obtain ⟨a, rfl, n1, n2, obr, no⟩ := ok
  have Rb := R1.rebase
  obtain ⟨y, hy⟩ := obr.there
  refine h' _ σ H1 S1 _ Rb fun v2 H2 S2 R2 s2 ok2 => ?_
  obtain ⟨a2, rfl, m1, m2, obr2, no2⟩ := ok2
  have ka : H2 a = some y := R2.kp a y no hy
  have na : S2 a = none := R2.new a y hy no n1
  have R3 := R1.back R2
  have nea : a ≠ a2 := fun z => by
    have m2' : H1 a2 = none := m2
    rw [← z, hy] at m2'; cases m2'
  have noa : ¬ Own Γ2 σ a := fun ⟨i, ow⟩ => by
    rcases (R2.own ow).2.1 with z | z
    · have z' : H1 a = none := z
      rw [hy] at z'; cases z'
    · exact no z
  have ob1 : ObR X.K S2 H2 a o := obr.mono s2 fun z hz => by rw [hy] at hz; cases hz; exact ka
  have h0a2 : F.H0 a2 = none := R1.h0None m2
  exact q _ _ H2 S2 R3 (s1.trans s2) ⟨a, rfl, na, n2, ob1, noa⟩ ⟨a2, rfl, m1, h0a2, obr2, no2⟩ (fun z => nea (by cases z; rfl))
/-- a, b = x, y: two local names, two new objects -/
theorem s1_par2 (i j : Nat) {x y : Str} {px py pt : Pos} {kt k2 pt2} {o u : Ob} (g : Gd k' X) (h : EX X Γ a (.ow o) Γ1) (h' : EX X Γ1 b (.ow u) Γ2) (hl : i < Γ2.length := by exact Nat.le_of_ble_eq_true rfl) (hl2 : j < Γ2.length := by exact Nat.le_of_ble_eq_true rfl) (hij : i ≠ j := by decide) (hi : X.N[i]? = some x := by rfl) (hj : X.N[j]? = some y := by rfl)
    (hx : X.env.scope.names.lookup x = some .local := by rfl) (hy : X.env.scope.names.lookup y = some .local := by rfl)
    (hw : swappedStores [.Tuple [.Name x px, .Name y py] kt pt] (.Tuple [a, b] k2 pt2) X.env = pure (some [x, y]) := by rfl) (hs : swapsWithSole [.Tuple [.Name x px, .Name y py] kt pt] (.Tuple [a, b] k2 pt2) pos.line X.env = pure false := by rfl)
    (he : starEach [a, b] X.env = (false, eval a X.env) :: starEach [b] X.env := by rfl) (he2 : starEach [b] X.env = (false, eval b X.env) :: starEach [] X.env := by rfl) :
    S1 X Γ (.Assign [.Tuple [.Name x px, .Name y py] kt pt] (.Tuple [a, b] k2 pt2) pos) (.nx ((Γ2.set i (.ow o)).set j (.ow u))) := fun F σ H S D R q => by
  refine ps_w1 (ps_par g.calm g.nd hi hj hij hx hy (pa_cons we_pe (pa_cons we_pe pa_nil he2) he) hw hs) (e_two (Q := fun _ _ => True) R h h' fun v v2 H2 S2 R2 s2 ok1 ok2 ne => ?_)
  have R3 := R2.put (i := i) hl ok1 (fun _ z => by cases z)
  refine ⟨v, v2, rfl, q _ H2 S2 (R3.put (r := .ow u) (i := j) (by rw [List.length_set]; exact hl2) ?_ (fun _ z => by cases z)) s2⟩
  obtain ⟨a1, rfl, _⟩ := ok1
  obtain ⟨a2, rfl, m1, m2, ob2, no2⟩ := ok2
  refine ⟨a2, rfl, m1, m2, ob2, fun ⟨l, ow⟩ => ?_⟩
  by_cases hli : l = i
  · subst hli
    have hlσ : l < σ.length := by rw [← R2.len]; exact hl
    have q2 := ow.2
    rw [List.getElem?_set_self hlσ] at q2
    exact ne (by cases q2; rfl)
  · refine no2 ⟨l, ?_⟩
    obtain ⟨p1, p2⟩ := ow
    rw [List.getElem?_set_ne (Ne.symm hli)] at p2
    simp only [Rs.sl, List.getElem?_set_ne (Ne.symm hli)] at p1
    exact ⟨p1, p2⟩
end
section
variable {X : Cx}
theorem tups_flat : ∀ tss : List (List Str), D.flats (tss.map dT) = true
  | [] => rfl
  | ts :: tss => by
    show (D.flats (ts.map .str) && D.flats (tss.map dT)) = true
    rw [strs_flat, tups_flat tss]; rfl
theorem tups_py : ∀ tss : List (List Str), D.pys (tss.map dT) = tss.map fun ts => .tuple (ts.map .str)
  | [] => rfl
  | ts :: tss => by
    show PyData.tuple (D.pys (ts.map .str)) :: D.pys (tss.map dT) = _
    rw [strs_py, tups_py tss]; rfl
theorem lay_tups : ∀ tss : List (List Str), (∀ ts ∈ tss, ∀ x ∈ ts, okS x) → PyData.canLayAll0 (tss.map fun ts => .tuple (ts.map .str)) = true ∧ PyData.depthAll (tss.map fun ts => .tuple (ts.map .str)) ≤ 1
  | [], _ => ⟨rfl, Nat.zero_le _⟩
  | ts :: tss, h => by
    obtain ⟨h1, h2⟩ := lay_tups tss fun y hy => h y (List.mem_cons_of_mem _ hy)
    obtain ⟨g1, g2⟩ := lay_strs ts (h ts (List.mem_cons_self ..))
    refine ⟨?_, ?_⟩
    · show (PyData.canLayAll0 (ts.map .str) && PyData.canLayAll0 (tss.map fun ts => .tuple (ts.map .str))) = true
      rw [g1, h1]; rfl
    · show max (PyData.depthAll (ts.map .str) + 1) (PyData.depthAll (tss.map fun ts => .tuple (ts.map .str))) ≤ 1
      rw [g2]; omega
theorem cmp_dTs {tss : List (List Str)} (h : ∀ ts ∈ tss, ∀ x ∈ ts, okS x) : Cmp (.lst (tss.map dT)) := by
  refine ⟨tups_flat tss, ?_⟩
  show SeqAt.shaped (.list (D.pys (tss.map dT))) = true
  rw [tups_py]
  obtain ⟨h1, h2⟩ := lay_tups tss h
  exact shaped_of h1 (by show PyData.depthAll _ + 1 ≤ 64; omega)
theorem o_neSelf {d : D} (hu : X.A.units + 64 < cLine) (h : Cmp d) : OpS X (compareOp .NotEq) d d (.sh (.bl false)) := by
  have h1 := o_neD hu h h
  have e : PyData.eqv d.py d.py = true := by
    have h2 := h.2
    unfold SeqAt.shaped at h2
    exact SeqAt.eqv_refl _ (Bool.and_eq_true_iff.mp h2).1
  rw [e] at h1
  exact h1
end
end PL
namespace PL
open PySem
/-- the body of the for that stands first -/
def fBody : List Stmt → List Stmt
  | (.For _ _ b _ _) :: _ => b
  | _ => []
end PL

set_option Elab.async false
set_option linter.all false
set_option maxRecDepth 100000
set_option maxHeartbeats 1000000
/-! a list of texts: how often a text stands in it -/
namespace PL
open PySem PySem.Spec PyProof.Rows L2
def eqx (k : Str) (v : Value) : Bool := match v with
  | .str x _ => x.cps.toList == k.cps.toList
  | _ => false
theorem eqx_gives {k : Str} {t : Tok} : ∀ {us : List Value} {xs : List Str}, StrsAre us xs → ∀ y ∈ us, MeetsSeq.EqGives y (.str k t) (eqx k y)
  | _, _, .nil => fun y hy => by cases hy
  | _, _, .cons x t' h => fun y hy => (List.mem_cons.mp hy).elim (fun e => by rw [e]; exact SeqRoads2.EqGives.str x k t' t) fun e => eqx_gives h y e
theorem eqx_count {k : Str} : ∀ {us : List Value} {xs : List Str}, StrsAre us xs → us.countP (eqx k) = xs.count k
  | _, _, .nil => rfl
  | _, _, .cons x t h => by
    rw [List.countP_cons, List.count_cons, eqx_count h]
    have e : eqx k (.str x t) = (x == k) := by
      show (x.cps.toList == k.cps.toList) = (x == k)
      by_cases z : x = k
      · rw [z, beq_self_eq_true, beq_self_eq_true]
      · rw [beq_eq_false_iff_ne.mpr z, beq_eq_false_iff_ne]
        intro q
        apply z
        cases x; cases k
        simp only [Str.mk.injEq]
        exact Array.toList_inj.mp q
    rw [e]
def rCntS (K : PySem.W.Frag) : V → List V → Hp → VK → Prop := fun x xs H Q => ∃ (p : Addr) (ts : List Str) (k : Str), x = .ref p ∧ xs = [.str k] ∧ SqL K H p (ts.map V.str) ∧ Q (.int (ts.count k : Nat)) H
section
variable {X : Cx}
theorem mt_cntS : MtR X "list.count" (rCntS X.K) := by
  intro pins s σ H x xs v us Q I rx rxs h
  obtain ⟨p, ts, k, rfl, rfl, hs, q⟩ := h
  cases rx
  obtain ⟨u, rfl, t, rfl⟩ := rxs.one
  obtain ⟨its, rv, ⟨⟨cls, dd, data, sl⟩, n, ho, hc, hdn, hd⟩, hlen⟩ := I.list hs
  simp only at hc hd
  subst hc hd
  have hi := rv.strs
  refine call_meets PySem.F.slot_list_count ⟨_, ho, rfl⟩ PySem.F.entry_list_count (PySem.F.args_list_count_2 _ _) (SeqAt.list_countAt p its.toArray n dd sl (.str k t) (eqx k)) ⟨ho, fun y hy => (eqx_gives hi y (by simpa using hy)).at _ _, ?_⟩
  refine ⟨.int (ts.count k : Nat), H, I.tok _, ⟨s.toks, ?_⟩, q⟩
  show Value.int ((its.toArray.toList.countP (eqx k) : Nat) : Int) s.toks = Value.int ((ts.count k : Nat) : Int) s.toks
  rw [show its.toArray.toList.countP (eqx k) = ts.count k from eqx_count hi]
variable {Γ Γ1 Γ2 : Gm} {e o : Ex} {pos apos : Pos} {ts : List Str} {k : Str}
/-- o.count(e) -/
theorem e_count (ho : EX X Γ o (.sh (dL ts)) Γ1) (he : EX X Γ1 e (.sh (.str k)) Γ2) (hbase : attributeBase o "count" X.env (eval o X.env) = eval o X.env := by rfl)
    (hfew : ((backTo pos (starEach [e] X.env)).all (fun x => !x.1) && (backToKw pos (keywordEach [] X.env)).all (fun x => x.1.isSome)
      && decide ([e].length + ([] : List Keyword).length + (if ([] : List Keyword).isEmpty then 0 else 1) < 30)) = true := by rfl)
    (hline : (apos.endLine == pos.line) = true := by rfl) (hs : starEach [e] X.env = (false, eval e X.env) :: starEach [] X.env := by rfl) (hplain : (backTo pos (starEach [] X.env)).any (·.1) = false := by rfl) : EX X Γ (.Call (.Attribute o "count" apos) [e] [] pos) (.sh (.int (ts.count k : Nat))) Γ2 := fun F σ H S Q R q => by
  refine pe_we (pe_bm PySem.F.plainAttrs_list PySem.F.slot_list_count PySem.F.type_list_count mt_cntS we_pe (pa_cons we_pe pa_nil hs) hbase hfew hline hs hplain) (ho F σ H S _ R fun v H1 S1 R1 s1 ok => ?_)
  obtain ⟨a, vs, rfl, h1, h2⟩ := ok
  rw [h2.strs] at h1
  refine ⟨.inl ⟨rfl, _, .of (R1.sh _ _ h1)⟩, he F σ H1 S1 _ R1 fun u H2 S2 R2 s2 ok2 => ?_⟩
  exact ⟨a, ts, k, rfl, by rw [show u = V.str k from ok2], .of (R2.sh _ _ (s2 _ _ h1)), q _ H2 S2 R2 (s1.trans s2) rfl⟩
end
end PL

set_option Elab.async false
set_option linter.all false
set_option maxRecDepth 100000
set_option maxHeartbeats 1000000
/-! len(o), o an instance whose class has its own __len__ -/
namespace PL
open PySem PySem.Spec PyProof.Rows L2
section
variable {X : Cx} {n : Nat}
def rLenO (C : Addr) (sp : Sp) (E : XK) : List V → Hp → VK → Prop := fun vs H Q => ∃ (a dx : Addr) (fs : List (Str × V)), vs = [.ref a] ∧ H a = some (.ins C dx fs) ∧ sp [.ref a] H (fun v H' => ∃ z : Nat, v = .int z ∧ (z : Int) < 2 ^ 62 ∧ Q (.int z) H') E
theorem cr_lenO {CX : CXT} {C f : Addr} {fd : FuncData} {ps : List Str} {sp : Sp} {E : XK} (F : FnOk X.prog X.w X.K X.mg X.base CX n f fd ps sp) (hm : Meth X.K C "__len__" f) (hb : Binds X.K fd ps []) (hx : Passes CX X E) (hr : Room (n + 1) X.A) : CallR X (.builtin "len") (rLenO C sp E) := by
  intro pins s σ H vs us Q I r h
  obtain ⟨a, dx, fs, rfl, ha, hsp⟩ := h
  rw [Vals.ref1 r]
  obtain ⟨mA, J, _⟩ := ins_get I.hok ha
  obtain ⟨od, J, _⟩ := J.look
  have sp0 : PySem.W.Looks (model X.prog X.w) s.heap (specialOf (.ref a) "__len__") (some (.ref f)) := J.type.andThen (PySem.W.looks_findIn I.kIn hm.at_)
  have bn := PySem.W.bind_fn (M := model X.prog X.w) (h := s.heap) I.kIn (f := f) (.ref a) (beq_iff_eq.mp hm.fn)
  refine Calls.call_function_entry kind_len plain_len entry_len (args_len1 _) ?_
  unfold Builtin.«len»
  refine wpAny_bind (m := oneArg "len" _) (wpAny_pure ?_)
  refine wpAny_bind (m := callSpecial? (.ref a) (PySem.Str.ofString "__len__")) ?_
  simp only [callSpecial?]
  refine wpAny_bind (sp0.here ?_)
  refine wpAny_holding (wpAny_bind (bn.here (wpAny_bind ?_)))
  have e0 : Env0 X.prog X.w X.K X.mg X.base X.A.in1 X.stack s H := by
    have e := I.env0
    exact ⟨e.frames, e.mod, e.bs, e.bsz, e.funs, e.frf, e.hok, e.bare⟩
  have hl := F.len _ _ _ _ hsp
  refine wpAny_call (codeAny_mono (F.run X.A.in1 X.stack s H ⟨[.ref a], []⟩ [.ref a] [.ref a] _ E hr.in1 e0 (by
    have := hb s [.ref a] I.kIn (by simpa using hl)
    simpa using this) (.cons rfl .nil) hsp) fun r s' hq => ?_)
  cases r with
  | error e => exact hx pins σ H s e s' I hq
  | ok fl =>
    cases fl with
    | ret u =>
      obtain ⟨v, H', I', rv, z, rfl, hz, q⟩ := I.after hq
      obtain ⟨t, rfl⟩ := rv
      refine wpAny_pure ?_
      refine wpAny_bind (wpAny_holding (wpAny_pure ?_))
      refine wpAny_bind (wpAny_letGo ?_)
      show wpAny _ _ (if ((z : Nat) : Int) < 0 then _ else _) _ _ _
      rw [if_neg (by omega)]
      show wpAny _ _ (if ((z : Nat) : Int) ≥ 2 ^ 63 then _ else _) _ _ _
      rw [if_neg (by omega)]
      exact wpAny_bind (wpAny_mkInt (wpAny_pure ⟨_, rfl, .int z, H', I'.tok _, ⟨_, rfl⟩, q⟩))
    | next => exact False.elim hq
    | brk => exact False.elim hq
    | cont => exact False.elim hq
theorem c_lenO {P : List D → Rs → Prop} {C : Addr} {ns ps : List Str} {fs : List D} {j k z : Nat} (G : M0 X.prog X.w X.K X.mg X.base C "__len__" j ps P) (g : Gd k X) (hp : P [.obj C ns fs] (.sh (.int (z : Nat)))) (hz : (z : Int) < 2 ^ 62) (hk : j + 1 ≤ k := by decide) : CallS X (.builtin "len") [.obj C ns fs] (.sh (.int (z : Nat))) := by
  obtain ⟨f, fd, hm, b, Fo⟩ := G.ex
  refine ⟨_, cr_lenO (E := E0) Fo hm b passL (g.rm.mono hk), fun Γ F σ H S vs Q R r q => ?_⟩
  obtain ⟨v, rfl, rp⟩ := reps1 r
  obtain ⟨a, dx, ws, rfl, h1, h2, h3⟩ := id rp
  refine ⟨a, dx, _, rfl, R.sh _ _ h1, S, [_], .sh (.int (z : Nat)), hp, R.sh, .one rp, fun v H' S' t => ⟨z, t.res, hz, ?_⟩⟩
  obtain ⟨R2, ok2⟩ := R.after0 t
  exact q _ H' S' R2 t.ss rfl
end
end PL

set_option Elab.async false
set_option linter.all false
set_option maxRecDepth 100000
set_option maxHeartbeats 1000000
/-! == and != by an own __eq__ -/
namespace PL
open PySem PySem.Spec PyProof.Rows L2
section
variable {prog : Program} {w : World} {A : Around} {E : Value → Shared → Prop} {s : Shared} {K : PySem.W.Frag} {x C L f : Addr} {h₀ : Heap} {m : Str → Option Value} {ox : Obj} {od : Option Obj} {name : Str} {b tb : Value}
open PySem.W
/-- a special method that is a slot of object -/
theorem ifBound_B {M : Model} {id : String} {args : List Value} {Q : Option Value → Shared → Prop} (X : K.In s.heap) (I : InstAt s.heap x ox C od) (hs : findIn K (.ref C) name = some (some (.builtin id))) (hb : ∀ self, bindSpecial (.builtin id) self = pure (.builtin id, [self]))
    (h : wpAny M A (call (.builtin id) (.ref x :: args)) (fun v => Q (some v)) E s) : wpAny M A (callSpecialIfBound? (.ref x) name args) Q E s := by
  simp only [callSpecialIfBound?, bindSpecialIfBound?]
  refine wpAny_holding (wpAny_bind (wpAny_bind (wpAny_bind (I.type.here ((looks_findIn X hs).here ?_)))))
  refine wpAny_bind (wpAny_askSetting (wpAny_ite ?_))
  have fin : wpAny M A (call (.builtin id) ([.ref x] ++ args) >>= fun v => pure (some v)) Q E s := wpAny_bind (wpAny_mono h (fun v s' h' => wpAny_pure h') fun _ _ h' => h')
  split
  · exact wpAny_bind ((Looks.of_pure (hb _)).here (wpAny_pure (by exact fin)))
  · exact wpAny_tryCatch (wpAny_bind ((Looks.of_pure (hb _)).here (wpAny_pure (by exact fin))))
theorem cmp_KNe {Q : Value → Shared → Prop} (hu : A.units + 1 < cLine) (F : PyProof.Rows.Fr h₀ L s.heap m) (X₀ : K.In h₀) (I : InstAt s.heap x ox C od) (hb : Looks (model prog w) s.heap (typeOf b) tb) (hn : notFirst K C tb = true)
    (hs : findIn K (.ref C) "__ne__" = some (some (.builtin "object.__ne__"))) (hm : mroIn K C (.type "object") = some true) (he : findIn K (.ref C) "__eq__" = some (some (.ref f))) (hf : isFn K (.ref f) = true)
    (h : wpAny (model prog w) A.in1 (call (.ref f) [.ref x, b]) (fun v s' => ∃ k, v = .bool k ∧ Q (.bool (!k)) s') E s) : wpAny (model prog w) A (richCompare .NotEq (.ref x) b) Q E s := by
  have X := X₀.keeps F.keep
  have one : wpAny (model prog w) A (tryCompare (.ref x) "__ne__" b) (fun r s' => ∃ v, r = some v ∧ Q v s') E s := by
    unfold tryCompare
    refine wpAny_bind (ifBound_B X I hs PySem.F.slot_object_ne.bind (wpAny_call (codeAny_call_builtin PySem.F.slot_object_ne.plain PySem.F.cmpEntry_ne (check_slot (i := "object.__ne__") (owner := "object") (n := "__ne__") PySem.F.cmpKind_ne PySem.F.cmpSplit_ne (I.type.andThen (looks_mroIn X hm)) (PySem.F.cmpArgs_ne _ _) ?_))))
    unfold Builtin.«object.__ne__»
    refine wpAny_bind (m := slotArgs "__ne__" 1 _) (wpAny_pure ?_)
    refine wpAny_bind (m := cRoomFor _ _) (wpAny_cRoomFor (by exact hu) ?_)
    refine wpAny_bind (m := callSpecialIfBound? (.ref x) (Str.ofString "__eq__") [b]) (ifBound_K X I he hf (wpAny_mono h (fun v s' hv => ?_) fun _ _ e => e))
    obtain ⟨k, rfl, q⟩ := hv
    refine wpAny_bind (m := truthy (.bool k)) (wpAny_truthy_bool (wpAny_pure ?_))
    exact wpAny_pure ⟨_, rfl, q⟩
  unfold richCompare
  simp only [oneThing_ref]
  refine wpAny_holding (wpAny_bind (wpAny_cRoomFor (Nat.lt_of_succ_lt hu) ?_))
  refine wpAny_bind (I.type.here (wpAny_bind (hb.here ?_)))
  split
  · rename_i q
    have e : subIn K tb (.ref C) = some false := by
      rcases Bool.or_eq_true_iff.mp hn with e | e
      · rw [beq_iff_eq.mp e] at q; simp at q
      · exact beq_iff_eq.mp e
    refine wpAny_bind ((looks_subIn X e).here ?_)
    simp only [Bool.false_eq_true, if_false]
    refine wpAny_bind (wpAny_mono one (fun r s' z => ?_) fun _ _ e => e)
    obtain ⟨v, rfl, hq⟩ := z
    exact wpAny_pure hq
  · refine wpAny_bind (wpAny_pure ?_)
    simp only [Bool.false_eq_true, if_false]
    refine wpAny_bind (wpAny_mono one (fun r s' z => ?_) fun _ _ e => e)
    obtain ⟨v, rfl, hq⟩ := z
    exact wpAny_pure hq
end
section
variable {X : Cx} {n : Nat}
def rOwnEq (K : PySem.W.Frag) (C : Addr) (sp : Sp) (E : XK) (neg : Bool) : R2 := fun x y H Q => ∃ (a dx : Addr) (fs : List (Str × V)) (t : Value), x = .ref a ∧ H a = some (.ins C dx fs) ∧ TyX K H y t ∧ PySem.W.notFirst K C t = true ∧ sp [.ref a, y] H (fun v H' => ∃ k, v = .bl k ∧ Q (.bl (neg != k)) H') E
theorem run_own {CX : CXT} {f : Addr} {fd : FuncData} {ps : List Str} {sp : Sp} {E : XK} {A : Around} {σ : L2.St} {H : Hp} {pins : List (Addr × Obj)} {s : Shared} {a : Addr} {y : V} {u : Value} {R : V → Hp → Prop} (F : FnOk X.prog X.w X.K X.mg X.base CX n f fd ps sp) (hb : Binds X.K fd ps []) (hx : Passes CX X E) (hr : Room n A) (hA : A.frames = X.A.frames) (I : Inv X pins σ H s) (ry : RelV y u) (hsp : sp [.ref a, y] H (fun v H' => R v H') E) :
    wpAny (model X.prog X.w) A (call (.ref f) [.ref a, u]) (fun w s' => ∃ v H', Inv X pins σ H' s' ∧ RelV v w ∧ R v H') X.xe s := by
  have e0 : Env0 X.prog X.w X.K X.mg X.base A X.stack s H := by
    have e := I.env0
    exact ⟨by rw [hA]; exact e.frames, e.mod, e.bs, e.bsz, e.funs, e.frf, e.hok, e.bare⟩
  have hl := F.len _ _ _ _ hsp
  refine wpAny_call (codeAny_mono (F.run A X.stack s H ⟨[.ref a, u], []⟩ [.ref a, u] [.ref a, y] _ E hr e0 (by
    have := hb s [.ref a, u] I.kIn (by simpa using hl)
    simpa using this) (.cons rfl (.cons ry .nil)) hsp) fun r s' hq => ?_)
  cases r with
  | error e => exact hx pins σ H s e s' I hq
  | ok fl =>
    cases fl with
    | ret w =>
      obtain ⟨z, H', I', rz, q⟩ := I.after hq
      exact ⟨z, H', I', rz, q⟩
    | next => exact False.elim hq
    | brk => exact False.elim hq
    | cont => exact False.elim hq
theorem op_ownEq {CX : CXT} {C f : Addr} {fd : FuncData} {ps : List Str} {sp : Sp} {E : XK} (F : FnOk X.prog X.w X.K X.mg X.base CX n f fd ps sp) (hm : Meth X.K C "__eq__" f) (hb : Binds X.K fd ps []) (hx : Passes CX X E) (hr : Room n X.A) : OpR X (compareOp .Eq) (rOwnEq X.K C sp E false) := by
  intro pins s σ H x y v u Q I rx ry h
  obtain ⟨a, dx, fs, t, rfl, ha, ty, hn, hsp⟩ := h
  cases rx
  obtain ⟨mA, J, _⟩ := ins_get I.hok ha
  obtain ⟨od, J, _⟩ := J.look
  obtain ⟨m, hF⟩ := I.fr
  obtain ⟨P, Z, p, _⟩ := kit_of I ry ty
  show wpAny (model X.prog X.w) X.A (richCompare .Eq (.ref a) u) (EP X pins σ Q) X.xe s
  refine PySem.W.cmp_K (op := .Eq) (tb := t) hr.units0 hF I.ok.mod.kin J (Z.ty _ _ I.kIn p) hn hm.at_ hm.fn ?_
  refine wpAny_mono (run_own F hb hx hr rfl I ry hsp) (fun r s' z => ?_) fun _ _ e => e
  obtain ⟨z, H', I', rz, k, rfl, q⟩ := z
  cases rz
  exact ⟨.bl k, H', I', rfl, by simpa using q⟩
theorem op_ownNe {CX : CXT} {C f : Addr} {fd : FuncData} {ps : List Str} {sp : Sp} {E : XK} (F : FnOk X.prog X.w X.K X.mg X.base CX n f fd ps sp) (hm : Meth X.K C "__eq__" f) (hne : PySem.W.findIn X.K (.ref C) "__ne__" = some (some (.builtin "object.__ne__"))) (hob : PySem.W.mroIn X.K C (.type "object") = some true) (hb : Binds X.K fd ps []) (hx : Passes CX X E) (hr : Room (n + 1) X.A) : OpR X (compareOp .NotEq) (rOwnEq X.K C sp E true) := by
  intro pins s σ H x y v u Q I rx ry h
  obtain ⟨a, dx, fs, t, rfl, ha, ty, hn, hsp⟩ := h
  cases rx
  obtain ⟨mA, J, _⟩ := ins_get I.hok ha
  obtain ⟨od, J, _⟩ := J.look
  obtain ⟨m, hF⟩ := I.fr
  obtain ⟨P, Z, p, _⟩ := kit_of I ry ty
  show wpAny (model X.prog X.w) X.A (richCompare .NotEq (.ref a) u) (EP X pins σ Q) X.xe s
  refine cmp_KNe (tb := t) hr.in1.units0 hF I.ok.mod.kin J (Z.ty _ _ I.kIn p) hn hne hob hm.at_ hm.fn ?_
  refine wpAny_mono (run_own (A := X.A.in1) F hb hx hr.in1 rfl I ry hsp) (fun r s' z => ?_) fun _ _ e => e
  obtain ⟨z, H', I', rz, k, rfl, q⟩ := z
  cases rz
  exact ⟨k, rfl, .bl (!k), H', I', rfl, by simpa using q⟩
end
section
variable {X : Cx}
/-- what == asks of the right one's class -/
structure Nf (K : PySem.W.Frag) (C : Addr) : Prop where
  ic : Ic K C
  ty : ∀ t ∈ ["NoneType", "bool", "int", "str", "tuple", "list", "dict"], PySem.W.notFirst K C (.type t) = true
  ne : PySem.W.findIn K (.ref C) "__ne__" = some (some (.builtin "object.__ne__"))
theorem Nf.me {K : PySem.W.Frag} {C : Addr} : PySem.W.notFirst K C (.ref C) = true := by
  unfold PySem.W.notFirst
  rw [beq_self_eq_true]; rfl
theorem o_own {P : List D → Rs → Prop} {C : Addr} {ns ps : List Str} {fs : List D} {d : D} {j k : Nat} {b : Bool} (G : M0 X.prog X.w X.K X.mg X.base C "__eq__" j ps P) (c : Nf X.K C) (g : Gd k X) (hd : (∃ ns' fs', d = .obj C ns' fs') ∨ d.plain = true) (hp : P [.obj C ns fs, d] (.sh (.bl b))) (hk : j ≤ k := by decide) : OpS X (compareOp .Eq) (.obj C ns fs) d (.sh (.bl b)) := by
  obtain ⟨f, fd, hm, hb, Fo⟩ := G.ex
  refine ⟨_, op_ownEq Fo hm hb passL (g.rm.mono hk), fun Γ F σ H S x y Q R r1 r2 q => ?_⟩
  have rr := Reps.cons r1 (.one r2)
  obtain ⟨p, dx, us, rfl, h1, h2, h3⟩ := r1
  have ht : ∃ t, TyX X.K H y t ∧ PySem.W.notFirst X.K C t = true := by
    rcases hd with ⟨ns', fs', rfl⟩ | hd
    · obtain ⟨p', dx', us', rfl, h1', _, _⟩ := r2
      exact ⟨_, .base (.ins (R.sh _ _ h1') c.ic.ins.cl c.ic.ins.ha c.ic.ins.hn c.ic.ins.htk c.ic.ins.hm), Nf.me⟩
    · exact ⟨_, tyx_of hd R.sh r2, c.ty _ (ty_mem hd)⟩
  obtain ⟨t, ht, hn⟩ := ht
  refine ⟨p, dx, _, t, rfl, R.sh _ _ h1, ht, hn, S, [.obj C ns fs, d], _, hp, R.sh, rr, fun v H' S' t => ?_⟩
  obtain ⟨R', ok⟩ := R.after0 t
  rw [show v = V.bl b from ok]
  exact ⟨b, rfl, by simpa using q _ H' S' R' t.ss rfl⟩
theorem o_ownNe {P : List D → Rs → Prop} {C : Addr} {ns ps : List Str} {fs : List D} {d : D} {j k : Nat} {b : Bool} (G : M0 X.prog X.w X.K X.mg X.base C "__eq__" j ps P) (c : Nf X.K C) (g : Gd k X) (hd : (∃ ns' fs', d = .obj C ns' fs') ∨ d.plain = true) (hp : P [.obj C ns fs, d] (.sh (.bl b))) (hk : j + 1 ≤ k := by decide) : OpS X (compareOp .NotEq) (.obj C ns fs) d (.sh (.bl (!b))) := by
  obtain ⟨f, fd, hm, hb, Fo⟩ := G.ex
  refine ⟨_, op_ownNe Fo hm c.ne c.ic.ins.hm hb passL (g.rm.mono hk), fun Γ F σ H S x y Q R r1 r2 q => ?_⟩
  have rr := Reps.cons r1 (.one r2)
  obtain ⟨p, dx, us, rfl, h1, h2, h3⟩ := r1
  have ht : ∃ t, TyX X.K H y t ∧ PySem.W.notFirst X.K C t = true := by
    rcases hd with ⟨ns', fs', rfl⟩ | hd
    · obtain ⟨p', dx', us', rfl, h1', _, _⟩ := r2
      exact ⟨_, .base (.ins (R.sh _ _ h1') c.ic.ins.cl c.ic.ins.ha c.ic.ins.hn c.ic.ins.htk c.ic.ins.hm), Nf.me⟩
    · exact ⟨_, tyx_of hd R.sh r2, c.ty _ (ty_mem hd)⟩
  obtain ⟨t, ht, hn⟩ := ht
  refine ⟨p, dx, _, t, rfl, R.sh _ _ h1, ht, hn, S, [.obj C ns fs, d], _, hp, R.sh, rr, fun v H' S' t => ?_⟩
  obtain ⟨R', ok⟩ := R.after0 t
  rw [show v = V.bl b from ok]
  exact ⟨b, rfl, by simpa using q _ H' S' R' t.ss rfl⟩
end
end PL

set_option Elab.async false
set_option linter.all false
set_option maxRecDepth 100000
set_option maxHeartbeats 1000000
/-! what the head tells of own classes for isinstance -/
namespace PL
open PySem PySem.Spec PyProof.Rows L2
theorem insB_ok {K : PySem.W.Frag} {x : Str} (c : Cls K (He.ga K x)) (h : insB K x = true) : Ic K (He.ga K x) := by
  unfold insB at h
  obtain ⟨h1, h⟩ := He.ba h
  obtain ⟨h2, h⟩ := He.ba h
  obtain ⟨h3, h⟩ := He.ba h
  obtain ⟨h4, h⟩ := He.ba h
  obtain ⟨h5, h6⟩ := He.ba h
  exact ⟨⟨c, He.eqO_ok h1, He.eqO_ok h2, of_decide_eq_true h3, of_decide_eq_true h4, of_decide_eq_true h5⟩, fun t ht => of_decide_eq_true (List.all_eq_true.mp h6 t ht)⟩
theorem nfB_ok {K : PySem.W.Frag} {x : Str} (c : Ic K (He.ga K x)) (h : nfB K x = true) : Nf K (He.ga K x) := by
  obtain ⟨h1, h2⟩ := He.ba h
  exact ⟨c, fun t ht => List.all_eq_true.mp h2 t ht, He.eqO_ok h1⟩
theorem othB_ok {K : PySem.W.Frag} {p : Str × Str} (h : othB K p = true) : PySem.W.kitOne K (.ref (He.ga K p.1)) (.ref (He.ga K p.2)) = some false := of_decide_eq_true h
end PL

set_option Elab.async false
set_option linter.all false
set_option maxRecDepth 100000
set_option maxHeartbeats 1000000
/-! contracts by what comes out: a pool of any shape (Cr), no pool (Ce) -/
namespace PL
open PySem PySem.Spec PyProof.Rows L2
structure Cr (IsP : Ob → Prop) (Pg : Program) (w : World) (K : PySem.W.Frag) (mg : Str → Option Value) (base : Heap) (x : Str) (j : Nat) (ps : List Str) (Pre : List D → Prop) (Post : List D → Rs → Prop) : Prop where
  ex : ∃ P, C1 Pg w K mg base x j ps P ∧ ∀ o ds, IsP o → Pre ds → ∃ r o', IsP o' ∧ Post ds r ∧ P o ds r o'
section
variable {Pg : Program} {w : World} {K : PySem.W.Frag} {mg : Str → Option Value} {base : Heap} {x : Str} {st : Stmt} {N ps : List Str} {k : Nat} {Pre : List D → Prop} {Post : List D → Rs → Prop} {IsP : Ob → Prop}
theorem cr_mk (Dd : Df K mg x st []) (Sc : FnScope N ps (defScope st)) (bd : BindsN x st ps) (hn : ps.length ≤ N.length) (hl : ∀ ds, Pre ds → ds.length + 1 = ps.length)
    (hb : ∀ o ds, IsP o → Pre ds → ∃ r o', IsP o' ∧ Post ds r ∧ (∀ j, r ≠ .br j) ∧ ∀ f cd A outer s H E, Gd k (cx Pg w K mg base N x (defScope st) f cd A outer s H E) → ∀ p, ∃ Γ', Ends1 (cx Pg w K mg base N x (defScope st) f cd A outer s H E) (.pr p o :: ent N.tail ds) (defBody st) r Γ' ∧ Γ'[0]? = some (.pr p o')) : Cr IsP Pg w K mg base x (k + 1) ps Pre Post := by
  refine ⟨fun o ds r o' => ds.length + 1 = ps.length ∧ (∀ j, r ≠ .br j) ∧ ∀ f cd A outer s H E, Gd k (cx Pg w K mg base N x (defScope st) f cd A outer s H E) → ∀ p, ∃ Γ', Ends1 (cx Pg w K mg base N x (defScope st) f cd A outer s H E) (.pr p o :: ent N.tail ds) (defBody st) r Γ' ∧ Γ'[0]? = some (.pr p o'), ?_, fun o ds ip pre => ?_⟩
  · exact c1_mk Dd Sc bd hn (fun o ds r o' h => ⟨h.1, h.2.1⟩) fun f cd A outer s H E g o ds r o' h p => h.2.2 f cd A outer s H E g p
  · obtain ⟨r, o', h0, h1, h2, h3⟩ := hb o ds ip pre
    exact ⟨r, o', h0, h1, hl ds pre, h2, h3⟩
end
section
variable {X : Cx} {Γ Γ1 Γ2 : Gm} {e : Ex} {es : List Ex} {p pos : Pos} {r : Rs} {ds : List D} {j k : Nat} {ps : List Str} {x : Str}
/-- f(e, ..), e a new object -/
theorem e_c1nA {P : Ob → List D → Rs → Ob → Prop} {ob o' : Ob} (G : C1 X.prog X.w X.K X.mg X.base x j ps P) (g : Gd k X) (h : EX X Γ e (.ow ob) Γ1) (ha : AX X Γ1 es ds Γ2) (hp : P ob ds r o') (hk : j ≤ k := by decide) (hg : Gl X x := by rfl)
    (hdb : (x == ("__debug__" : Str)) = false := by decide) (he : starEach (e :: es) X.env = (false, eval e X.env) :: starEach es X.env := by rfl) (hpl : (backTo pos (starEach es X.env)).any (·.1) = false := by rfl) : EX X Γ (.Call (.Name x p) (e :: es) [] pos) r Γ2 := fun F σ H S Q R q => by
  obtain ⟨f, fd, gm, kp, b, Fo⟩ := G.ex
  refine pe_we (pe_call Fo (g.rm.mono hk) hg gm kp b .nil passL (pa_cons we_pe wa_pa he) hdb he hpl) (h F σ H S _ R fun v H1 S1 R1 s1 ok => ?_)
  obtain ⟨a, rfl, n1, n2, obr, no⟩ := ok
  have Rb := R1.rebase
  obtain ⟨y, hy⟩ := obr.there
  refine ha _ σ H1 S1 _ Rb fun vs H2 S2 R2 s2 ok2 => ?_
  have ka : H2 a = some y := R2.kp a y no hy
  have na : S2 a = none := R2.new a y hy no n1
  have R3 := R1.back R2
  have noa : ¬ Own Γ2 σ a := fun ⟨i, ow⟩ => by
    rcases (R2.own ow).2.1 with z | z
    · have z' : H1 a = none := z
      rw [hy] at z'; cases z'
    · exact no z
  have ob1 : ObR X.K S2 H2 a ob := obr.mono s2 fun z hz => by rw [hy] at hz; cases hz; exact ka
  refine ⟨S2, ob, ds, r, o', a, vs, hp, by rw [List.append_nil], R3.sh, na, ob1, ok2, fun v H4 S4 t n3 ob3 => ?_⟩
  obtain ⟨R4, ok4⟩ := R3.after t (fun b z => .inr (by rw [z]; exact n2)) rfl fun i s es => .inl ⟨es, fun b ow z => noa ⟨i, by rw [← z]; exact ow⟩⟩
  exact q v H4 S4 R4 ((s1.trans s2).trans t.ss) ok4
theorem o_eqB {a b : Bool} : OpS X (compareOp .Eq) (.bl a) (.bl b) (.sh (.bl (decide (a = b)))) := ops_sc op_eq (.bl _) (fun _ => rfl) fun H S x y Q _ r1 r2 q => by
  obtain rfl : x = V.bl a := r1
  obtain rfl : y = V.bl b := r2
  refine ⟨rfl, ?_⟩
  rw [show decide (V.bl a = V.bl b) = decide (a = b) by cases a <;> cases b <;> rfl]
  exact q
theorem o_neB {a b : Bool} : OpS X (compareOp .NotEq) (.bl a) (.bl b) (.sh (.bl (!decide (a = b)))) := ops_sc op_ne (.bl _) (fun _ => rfl) fun H S x y Q _ r1 r2 q => by
  obtain rfl : x = V.bl a := r1
  obtain rfl : y = V.bl b := r2
  refine ⟨rfl, ?_⟩
  rw [show decide (V.bl a = V.bl b) = decide (a = b) by cases a <;> cases b <;> rfl]
  exact q
/-- xs[e] = .., xs a list of one's own, e may change what is owned -/
theorem g_setixM {n : Nat} {s s0 : Sl} {o0 : Ob} {x : Str} {p : Pos} {ix : Int} {i : Nat} {d : D} (h0 : Has Γ n s0 o0) (hi : EX X Γ e (.sh (.int ix)) Γ1) (h1 : Has Γ1 n s (.lst ds)) (hj : ixN ds.length ix = some i) (hN : X.N[n]? = some x := by rfl) (hv : Vis X.env.scope x := by first | exact Or.inl rfl | exact Or.inr (Or.inl rfl) | exact Or.inr (Or.inr rfl)) (hd : (x == ("__debug__" : Str)) = false := by decide)
    (hcd : (x == ("__classdict__" : Str)) = false := by decide)
    (ha : ∀ v, assign (.Subscript (.Name x p) e pos) X.env v = (do
      let ov ← holding [v] (eval (.Name x p) X.env)
      let iv ← holding [v, ov] (eval e X.env)
      standAt pos
      holding [v, ov, iv] (setItem ov iv v)
      release [v, ov, iv] []) := by intro _; rfl) : GX X (.Subscript (.Name x p) e pos) Γ d (Γ1.set n (s.re (.lst (ds.set i d)))) := by
  intro F σ H S v Q R ok q
  obtain ⟨l, own, _⟩ := R.has h0
  refine pg_wg (pg_sub (pe_var hN hv hd hcd) we_pe set_list ha) ⟨_, own.2, hi F σ H S _ R fun y H1 S1 R1 s1 ok1 => ?_⟩
  obtain ⟨l', own1, vs1, hl1, rp1⟩ := R1.has h1
  obtain rfl := own.eq own1
  refine ⟨l, vs1, ix, i, rfl, ok1, hl1, by rw [← rp1.length]; exact hj, q σ _ S1 (R1.chg own1 h1.1 ⟨_, upd_same, rp1.set (Rep.mono s1 _ _ ok)⟩) s1⟩
theorem s1_setLcO {tg iter elt : Ex} {ifs : List Ex} {scope : Scope} {own : List (Str × Nat)} {n : Nat} {t : Nat → Bool} {f : Nat → D} {Γ' : Gm} (i : Nat) {y : Str} {py spos : Pos} {L : List D} (gd : Gd k X) (h : LcX X Γ tg iter ifs elt scope own n t f Γ') (eL : took t f n = L) (hl : i < Γ'.length := by exact Nat.le_of_ble_eq_true rfl) (hy : X.N[i]? = some y := by rfl) (hyl : X.env.scope.names.lookup y = some .local := by rfl)
    (hsw : swapsWith (.ListComp elt [⟨tg, iter, ifs, 0⟩] scope pos) (some (.Name y py)) spos.line X.env = pure true := by exact sw_true rfl rfl rfl (by decide +kernel)) (hs : ∀ x, foldedSetIterable iter X.env x = pure x := by intro _; rfl) : S1 X Γ (.Assign [.Name y py] (.ListComp elt [⟨tg, iter, ifs, 0⟩] scope pos) spos) (.nx (Γ'.set i (.ow (.lst L)))) := by
  subst eL
  exact s1_setLc (py := py) (spos := spos) (pos := pos) i gd h hl hy hyl hsw hs
end
end PL

set_option Elab.async false
set_option linter.all false
set_option maxRecDepth 100000
set_option maxHeartbeats 2000000
/-! a caught exception that is kept: it stands as an object of its own behind the try -/
namespace PL
open PySem PySem.Spec PyProof.Rows L2
abbrev dX (C : Addr) : D := .exc C [] []
theorem exv_ok {P : Program} {w : World} {H : Hp} {h : Heap} {a C : Addr} {d : Option Addr} {oe : Obj} {vs : Array Value} (e : h.get? a = some oe) (z : Zc (.ref C) d oe) (f : oe.data = .fields vs) : ObjOk P w H h a (ExV C d a) :=
  ⟨⟨oe, vs, e, z, f⟩, ⟨_, e⟩, fun h1 h2 q k => by
    obtain ⟨o1, v1, e1, z1, d1⟩ := q
    exact ⟨o1, v1, k _ e1, z1, d1⟩⟩
theorem exv_at {P : Program} {w : World} {H : Hp} {h : Heap} {a C : Addr} {d : Option Addr} (hok : HOk P w H h) (e : H a = some (ExV C d a)) : ∃ (oe : Obj) (vs : Array Value), h.get? a = some oe ∧ Zc (.ref C) d oe ∧ oe.data = .fields vs := by
  obtain ⟨q, _⟩ := (show ObjOk P w H h a (ExV C d a) from hok a _ e)
  exact q
section
variable {X : Cx} {pins : List (Addr × Obj)} {σ : L2.St} {H : Hp} {s : Shared}
/-- an object that was made since, and stands apart from all that is known, is known from now on -/
theorem inv_track {a : Addr} {o : HO} (I : Inv X pins σ H s) (n0 : X.s_0.heap.get? a = none) (na : H a = none) (nL : a ≠ X.env.locals) (nC : ∀ x c, X.env.cells.lookup x = some c → c ≠ a) (nP : ∀ p ∈ X.pn ++ pins, p.1 ≠ a) (new : ObjOk X.prog X.w (upd H a o) s.heap a o) : Inv X pins σ (upd H a o) s := by
  have st : ∀ b u, H b = some u → (upd H a o) b = some u := fun b u e => by
    rw [upd_ne (ne_of_none e na)]; exact e
  refine ⟨I.ok, I.os, I.bare, ⟨I.base.keep, I.base.slot, fun b ob e n x => ?_, I.base.there, fun b xs e => st b _ (I.base.tups b xs e), fun b ob u e => st b _ (I.base.frzs b ob u e), fun b ps e => ?_⟩, I.loc, I.cell, ?_, fun x c e => ?_, fun p hp => ?_, fun b u e => ?_, I.len⟩
  · have hb : b ≠ a := fun z => by rw [z, n0] at e; cases e
    rw [upd_ne hb]
    exact I.base.free b ob e n x
  · obtain ⟨more, q⟩ := I.base.tbls b ps e
    exact ⟨more, st b _ q⟩
  · rw [upd_ne (Ne.symm nL)]; exact I.free
  · rw [upd_ne (nC x c e)]; exact I.freeC x c e
  · obtain ⟨p1, p2, p3, p4, p5⟩ := I.pin p hp
    exact ⟨p1, by rw [upd_ne (nP p hp)]; exact p2, p3, p4, p5⟩
  · by_cases hb : b = a
    · subst hb
      rw [upd_same] at e
      cases e
      exact new
    · rw [upd_ne hb] at e
      exact (I.hok b u e).stay (fun _ _ _ r => r) (fun c q => st c _ q) fun c xs q => st c _ q
end
/-- what 'except x as n: y = n' wishes of an exception of the body: slot i is n's, slot m is y's -/
def wKept (K : PySem.W.Frag) (c : Value) (i m : Nat) (D : Ends) : L2.WX := fun cls d σ H =>
  ∃ C : Addr, cls = .ref C ∧ PySem.W.exmOne K (.ref C) c = some true ∧ ∀ a, H a = none → D.nx (((σ.set i (some (.ref a))).set m (some (.ref a))).set i none) (upd H a (ExV C d a))
section
variable {X : Cx} {x n y : Str} {c : Value} {i m : Nat} {body : List Stmt} {np pos pos' py pn' spos : Pos} {tb : L2.WX → TS}
theorem ps_try_kept (h1 : X.stack = X.env :: X.outer) (h2 : X.env.frame = some X.env.locals) (h3 : X.N.Nodup) (h4 : X.N[i]? = some n) (h5 : X.env.kindOf n = some .local) (h6 : X.N[m]? = some y) (h7 : X.env.scope.names.lookup y = some .local) (h8 : X.ex = []) (him : i ≠ m) (hn0 : (n == ("__debug__" : Str)) = false) (hn1 : (n == ("__classdict__" : Str)) = false) (hc : Names X x c)
    (hb : ∀ (W : L2.WX) (pn : List (Addr × Obj)) (xe : Value → Shared → Prop), Takes (X.tr pn xe) W → PassesOwn (model X.prog X.w) X.A X.env xe → PSs (X.tr pn xe) body (tb W))
    (hs2 : swapsWith (.Name n pn') (some (.Name y py)) spos.line X.env = pure false := by rfl) :
    PS X (.Try body [.ExceptHandler (some (.Name x np)) (some n) [.Assign [.Name y py] (.Name n pn') spos] pos'] [] [] pos) (fun D σ H => tb (wKept X.K c i m D) D σ H) := by
  refine ⟨fun pins s σ H D I h => wpAny_Try_except ?_⟩
  have k0 := I.ok
  have k1 : X.A.frames = some (X.env :: X.outer) := by rw [k0.frames, h1]
  let up1 : Value → Shared → Prop := fun e s₁ => wpAny (model X.prog X.w) X.A (noteFrame e X.env) (fun _ s₂ => wpAny (model X.prog X.w) X.A (setFlight e none) (fun _ s₃ => wpAny (model X.prog X.w) X.A (handleBy e X.env [.ExceptHandler (some (.Name x np)) (some n) [.Assign [.Name y py] (.Name n pn') spos] pos']) (SP X pins D) X.xe s₃) X.xe s₂) X.xe s₁
  have ctch : Takes (X.tr (X.pn ++ pins) up1) (wKept X.K c i m D) := by
    rintro u s1 ⟨a, B, sI, _, σ1, H1, cls, d, rfl, J0, nb, up, sky, na, os, ag, C, rfl, hm, hD⟩
    have J : Inv X pins σ1 H1 sI := J0.ofTry k0
    rw [show (X.tr (X.pn ++ pins) up1).stack = X.env :: X.outer from h1] at sky
    show wpAny (model X.prog X.w) X.A (noteFrame (.ref a) X.env) _ _ _
    refine Sky.land Zc.steady k1 h2 sky fun g1 f1 u1 => ?_
    have L1 : Inv X pins σ1 H1 { s1 with heap := g1 } := J.landed nb f1.1 (up.trans u1) os ag
    obtain ⟨oe, vs, q1, q2, q3⟩ := f1.there
    have apart : ∀ {g : Heap} {o : Obj} {ws : Array Value}, g.FunFrames B (X.env :: X.outer) → g.get? a = some o → o.data = .fields ws → a ∉ frs (X.env :: X.outer) := fun ff e dd hm => by
      obtain ⟨_, o', e', nf⟩ := ff.mem hm
      rw [e] at e'; cases e'
      exact nf _ dd
    have nfr := apart f1.2.2.1 q1 q3
    have nL : a ≠ X.env.locals := fun z => nfr (List.mem_filterMap.mpr ⟨X.env, List.mem_cons_self, by rw [h2, z]⟩)
    have nF : a ∉ X.fs := fun hm => by
      obtain ⟨e, he, q⟩ := List.mem_filterMap.mp hm
      exact nfr (List.mem_filterMap.mpr ⟨e, List.mem_cons_of_mem _ he, q⟩)
    have nI : sI.heap.get? a = none := by
      cases e : sI.heap.get? a with
      | none => rfl
      | some o =>
        have := nb a o e (by rw [h1]; exact nfr)
        rw [f1.2.1] at this; cases this
    have n0 : X.s_0.heap.get? a = none := by
      cases e : X.s_0.heap.get? a with
      | none => rfl
      | some o =>
        obtain ⟨o', q⟩ := J.base.there a o e (by rw [h8]; exact List.not_mem_nil)
        rw [nI] at q; cases q
    have T1 := L1.suite q1 q3 na nL nF
    refine wpAny_handleBy_cons (codeAny_handlers_test ?_) (by intro q; cases q)
    have look : PySem.W.Looks (model X.prog X.w) g1 (typeOf (.ref a)) (.ref C) := fun A Q E s k q => wpAny_typeOf_ref (k _ _ q1) (by rw [q2.1]; exact q)
    have mat := PySem.W.exm_one (M := model X.prog X.w) L1.kIn look hm
    have name : ∀ {Q : Value → Shared → Prop} {E : Value → Shared → Prop}, Q c { s1 with heap := g1 } → wpAny (model X.prog X.w) (X.A.mark (some (.ref a))) (eval (.Name x np) X.env) Q E { s1 with heap := g1 } := fun {Q E} q => by
      obtain ⟨w1, w2, w3 | ⟨w3, w4, w5⟩⟩ := hc
      · exact ld_glob (X := X.suite a ((a, oe) :: (X.pn ++ pins))) T1 w1 w3 q w2
      · exact ld_blt (X := X.suite a ((a, oe) :: (X.pn ++ pins))) T1 w1 w3 w4 q w5 w2
    refine name (mat.here (codeAny_handlers_suite_as (HandSPX.lands_againZ f1 fun g2 f2 u2 => ?_)))
    have L2' : Inv X pins σ1 H1 { s1 with heap := g2 } := J.landed nb f2.1 ((up.trans u1).trans u2) os ag
    obtain ⟨oe2, vs2, r1, r2, r3⟩ := f2.there
    have T2 := L2'.suite r1 r3 na nL nF
    refine store_ok (X := X.suite a ((a, oe2) :: (X.pn ++ pins))) (v := .ref a) T2 h3 h4 (.inl h5) rfl (fun s3 T3 => ?_) (.inr h5)
    have sr := (pss_one (ps_set (X := X.suite a ((a, oe2) :: (X.pn ++ pins))) (pos' := py) (pos := spos) h3 h6 (.inl h7) (pe_var (pos := pn') h4 (.inl h5) hn0 hn1) hs2 (.inr h7))).run [] s3 _ H1 { nx := fun σ' H' => σ' = ((σ1.set i (some (.ref a))).set m (some (.ref a))) ∧ H' = H1, rt := fun _ _ => False } T3 ⟨.ref a, by rw [List.getElem?_set_self (by rw [J.len]; exact (List.getElem?_eq_some_iff.mp h4).1)], rfl, rfl⟩
    refine wpAny_mono sr (fun f s4 q => ?_) fun _ _ z => False.elim z
    cases f with
    | brk => exact (q.elim fun _ q => q.elim fun _ q => q.2).elim
    | cont => exact (q.elim fun _ q => q.elim fun _ q => q.2).elim
    | ret u => exact (q.elim fun _ q => q.elim fun _ q => q.elim fun _ q => q.2.2).elim
    | next =>
      obtain ⟨σ4, H4, T4, rfl, rfl⟩ := q
      refine gone_ok (X := X.suite a ((a, oe2) :: (X.pn ++ pins))) T4 h3 h4 h5 fun s5 T5 => ?_
      obtain ⟨t1, _⟩ := T5.pin (a, oe2) (List.mem_append.mpr (.inl List.mem_cons_self))
      have J5 := T5.unsuite k0
      exact ⟨_, _, inv_track J5 n0 na nL (fun z cc e q => by
        obtain ⟨v, w⟩ := J.cell z cc e
        obtain ⟨oc, hoc, _⟩ := w
        rw [q, nI] at hoc; cases hoc) (fun p hp q => by
        have w := (J.pin p hp).1
        rw [q, nI] at w; cases w) (exv_ok t1 r2 r3), hD a na⟩
  have run := (hb (wKept X.K c i m D) (X.pn ++ pins) up1 ctch PassesOwn.looking).run [] s σ H D (I.toTry _) h
  refine wpAny_mono run (fun f s1 q => ?_) fun _ _ q => q
  cases f with
  | next =>
    obtain ⟨σ1, H1, J, w⟩ := q
    exact wpAny_execs_nil ⟨σ1, H1, J.ofTry k0, w⟩
  | brk => exact q.elim fun σ1 q => q.elim fun H1 q => ⟨σ1, H1, q.1.ofTry k0, q.2⟩
  | cont => exact q.elim fun σ1 q => q.elim fun H1 q => ⟨σ1, H1, q.1.ofTry k0, q.2⟩
  | ret u =>
    obtain ⟨v, σ1, H1, J, r, w⟩ := q
    exact ⟨v, σ1, H1, J.ofTry k0, r, w⟩
end
end PL

set_option Elab.async false
set_option linter.all false
set_option maxRecDepth 100000
set_option maxHeartbeats 2000000
/-! exceptions over data: what raises (ER, S1R, SR), defs that may raise (Ce), try .. except X as n: y = n -/
namespace PL
open PySem PySem.Spec PyProof.Rows L2
/-- an exception as data: its class, its fields -/
structure Xp where
  C : Addr
  ns : List Str := []
  ds : List D := []
instance : Coe Addr Xp := ⟨fun C => ⟨C, [], []⟩⟩
def Xp.d (x : Xp) : D := .exc x.C x.ns x.ds
def XdOk (K : PySem.W.Frag) (S : Hp) (x : Xp) (d : Option Addr) : Prop := ∃ vs, XdAt S d (x.ns.zip vs) ∧ x.ns.length = vs.length ∧ Reps K S x.ds vs
/-- e raises this exception -/
def ER (X : Cx) (Γ : Gm) (e : Ex) (x : Xp) (Γ' : Gm) : Prop := ∀ F σ H S (Q : VK) (W : L2.WX), RS X.K F Γ σ H S → Takes X W → (∀ H' S' d, RS X.K F Γ' σ H' S' → Same S S' → XdOk X.K S' x d → W (.ref x.C) d σ H') → WE X e σ H Q
def S1R (X : Cx) (Γ : Gm) (st : Stmt) (x : Xp) (Γ' : Gm) : Prop := ∀ F σ H S (D : Ends) (W : L2.WX), RS X.K F Γ σ H S → Takes X W → (∀ σ' H' S' d, RS X.K F Γ' σ' H' S' → Same S S' → XdOk X.K S' x d → W (.ref x.C) d σ' H') → W1 X st D σ H
def SR (X : Cx) (Γ : Gm) (st : List Stmt) (x : Xp) (Γ' : Gm) : Prop := ∀ F σ H S (D : Ends) (W : L2.WX), RS X.K F Γ σ H S → Takes X W → (∀ σ' H' S' d, RS X.K F Γ' σ' H' S' → Same S S' → XdOk X.K S' x d → W (.ref x.C) d σ' H') → WS X st D σ H
section
variable {X : Cx} {Γ Γ1 Γ2 : Gm} {e c : Ex} {st : Stmt} {rest A B : List Stmt} {pos : Pos} {C : Xp} {k : Nat} {r : Rs}
theorem sr_hd (h : S1R X Γ st C Γ1) : SR X Γ (st :: rest) C Γ1 := fun F σ H S D W R tk q => pss_ws (pss_cons w1_ps ws_pss) (h F σ H S _ W R tk q)
theorem sr_cons (h : S1 X Γ st (.nx Γ1)) (h2 : SR X Γ1 rest C Γ2) : SR X Γ (st :: rest) C Γ2 := fun F σ H S D W R tk q =>
  pss_ws (pss_cons w1_ps ws_pss) (h F σ H S _ R fun σ1 H1 S1 R1 s1 => h2 F σ1 H1 S1 D W R1 tk fun σ2 H2 S2 d R2 s2 => q σ2 H2 S2 d R2 (s1.trans s2))
theorem s1r_ifT (h : TX X Γ c true Γ1) (h2 : SR X Γ1 A C Γ2) : S1R X Γ (.If c A B pos) C Γ2 := fun F σ H S D W R tk q =>
  ps_w1 (ps_if wt_pt ws_pss ws_pss) (h F σ H S _ R fun H1 S1 R1 s1 => iteT (h2 F σ H1 S1 D W R1 tk fun σ2 H2 S2 d R2 s2 => q σ2 H2 S2 d R2 (s1.trans s2)))
theorem s1r_ifF (h : TX X Γ c false Γ1) (h2 : SR X Γ1 B C Γ2) : S1R X Γ (.If c A B pos) C Γ2 := fun F σ H S D W R tk q =>
  ps_w1 (ps_if wt_pt ws_pss ws_pss) (h F σ H S _ R fun H1 S1 R1 s1 => iteF (h2 F σ H1 S1 D W R1 tk fun σ2 H2 S2 d R2 s2 => q σ2 H2 S2 d R2 (s1.trans s2)))
theorem s1r_expr (h : ER X Γ e C Γ1) (hs : swapsWith e none pos.line X.env = pure false := by rfl) : S1R X Γ (.Expr e pos) C Γ1 := fun F σ H S D W R tk q =>
  ps_w1 (ps_expr we_pe hs) (h F σ H S _ W R tk fun H1 S1 d R1 s1 => q σ H1 S1 d R1 s1)
theorem s1r_ret (h : ER X Γ e C Γ1) : S1R X Γ (.Return (some e) pos) C Γ1 := fun F σ H S D W R tk q =>
  ps_w1 (ps_ret we_pe) (h F σ H S _ W R tk fun H1 S1 d R1 s1 => q σ H1 S1 d R1 s1)
/-- a class of the program under a class of Python's own, without own __init__ -/
structure Xc (K : PySem.W.Frag) (mg : Str → Option Value) (x : Str) (C : Addr) : Prop where
  ex : ∃ (B newId initId : String) (bm : List Value), ExcBaseFacts B newId initId bm ∧ PySem.W.excIn K C bm newId = true
  gl : mg x = some (.ref C)
  kp : PySem.W.keepIn K (.ref C) = true
  sb : PySem.W.subIn K (.ref C) (.type "BaseException") = some true
  ty : PySem.W.typeIn K (.ref C) = some (.type "type")
theorem s1r_raise {x z : Str} {j : Nat} {C : Addr} {p p2 p3 : Pos} (g : Gd k X) (c : Xc X.K X.mg x C) (hg : Gl X x := by rfl) (hd : (x == ("__debug__" : Str)) = false := by decide) : S1R X Γ (.Raise (some (.Call (.Name x p) [.Constant (.str z) j p2] [] p3)) none pos) (C : Xp) Γ := fun F σ H S D W R tk q => by
  obtain ⟨B, newId, initId, bm, fb, xi⟩ := c.ex
  exact ps_w1 (ps_raise g.calm tk (pmk_own fb xi c.gl c.kp (raises_own c.sb c.ty) hg hd)) (q σ H S none R (.refl _) ⟨[], rfl, rfl, rfl⟩)
end
/-! ### defs that may raise -/
inductive Rx where
  | ok (r : Rs) | ex (x : Xp)
def spE (K : PySem.W.Frag) (P : List D → Rx → Prop) : Sp := fun vs H Q E => ∃ S ds o, P ds o ∧ Same S H ∧ Reps K S ds vs ∧ match o with
  | .ok r => ∀ v H' S', Ret K S H (fun _ => False) r v H' S' → Q v H'
  | .ex x => ∀ H' S' d, Ret K S H (fun _ => False) (.sh .non) .non H' S' → XdOk K S' x d → E (.ref x.C) d H'
structure Ce (Pg : Program) (w : World) (K : PySem.W.Frag) (mg : Str → Option Value) (base : Heap) (x : Str) (j : Nat) (ps : List Str) (P : List D → Rx → Prop) : Prop where
  ex : ∃ f fd, mg x = some (.ref f) ∧ PySem.W.keepIn K (.ref f) = true ∧ Binds K fd ps [] ∧ FnOk Pg w K mg base (L2.CX Pg w) j f fd ps (spE K P)
section
variable {Pg : Program} {w : World} {K : PySem.W.Frag} {mg : Str → Option Value} {base : Heap} {x : Str} {st : Stmt} {N ps : List Str} {k : Nat}
/-- how a def's body ends -/
def EndsX (X : Cx) (Γ : Gm) (body : List Stmt) : Rx → Prop
  | .ok r => ∃ Γ', Ends1 X Γ body r Γ'
  | .ex C => ∃ Γ', SR X Γ body C Γ'
theorem ce_mk {P : List D → Rx → Prop} (Dd : Df K mg x st []) (Sc : FnScope N ps (defScope st)) (bd : BindsN x st ps) (hn : ps.length ≤ N.length) (hl : ∀ ds o, P ds o → ds.length = ps.length ∧ ∀ j, o ≠ .ok (.br j))
    (hb : ∀ f cd A outer s H E, Gd k (cx Pg w K mg base N x (defScope st) f cd A outer s H E) → ∀ ds o, P ds o → EndsX (cx Pg w K mg base N x (defScope st) f cd A outer s H E) (ent N ds) (defBody st) o) : Ce Pg w K mg base x (k + 1) ps P := by
  obtain ⟨f, fd, FD, gm⟩ := Dd.ex
  refine ⟨f, fd, gm, FD.kp, FD.bindsN bd, fd_ok FD Sc (fun vs H Q E h => ?_) (fun cd A outer s H vs Q E hr h => ?_)⟩
  · obtain ⟨S, ds, o, hp, _, rp, _⟩ := h
    rw [← rp.length]; exact (hl ds o hp).1
  · obtain ⟨S, ds, o, hp, hs, rp, q⟩ := h
    have e1 := hb f cd A outer s H E ⟨rfl, Sc.nd, cx_po, hr⟩ ds o hp
    have R0 := rs_start (K := K) (N := N) hs rp (by rw [← rp.length, (hl ds o hp).1]; exact hn)
    cases o with
    | ok r =>
      obtain ⟨Γ', e1⟩ := e1
      exact ⟨_, ws_pss, e1.run R0 fun v σ' H' S' R' s' ok => q v H' S' (ret_of (F := ⟨H, S, fun _ => False⟩) R' (fun _ z => z.elim) (fun j z => (hl ds _ hp).2 j (by rw [z])) ok)⟩
    | ex C =>
      obtain ⟨Γ', e1⟩ := e1
      refine ⟨_, ws_pss, e1 _ _ _ _ _ (fun cls d _ H => E cls d H) R0 (takes_of rfl rfl rfl rfl) fun σ' H' S' d R' s' => q H' S' d (ret_of (F := ⟨H, S, fun _ => False⟩) R' (fun _ z => z.elim) (fun _ z => by cases z) rfl)⟩
end
section
variable {X : Cx} {Γ Γ1 : Gm} {e : Ex} {es : List Ex} {p pos : Pos} {r : Rs} {ds : List D} {j k : Nat} {ps : List Str} {x : Str} {C : Xp} {P : List D → Rx → Prop}
theorem e_ce (G : Ce X.prog X.w X.K X.mg X.base x j ps P) (g : Gd k X) (ha : AX X Γ (e :: es) ds Γ1) (hp : P ds (.ok r)) (hk : j ≤ k := by decide) (hg : Gl X x := by rfl)
    (hdb : (x == ("__debug__" : Str)) = false := by decide) (he : starEach (e :: es) X.env = (false, eval e X.env) :: starEach es X.env := by rfl) (hpl : (backTo pos (starEach es X.env)).any (·.1) = false := by rfl) : EX X Γ (.Call (.Name x p) (e :: es) [] pos) r Γ1 := fun F σ H S Q R q => by
  obtain ⟨f, fd, gm, kp, b, Fo⟩ := G.ex
  refine pe_we (pe_call Fo (g.rm.mono hk) hg gm kp b .nil passL wa_pa hdb he hpl) (ha F σ H S _ R fun vs H1 S1 R1 s1 ok => ?_)
  rw [List.append_nil]
  exact ⟨S1, ds, .ok r, hp, R1.sh, ok, fun v H2 S2 t => by
    obtain ⟨R2, ok2⟩ := R1.after0 t
    exact q v H2 S2 R2 (s1.trans t.ss) ok2⟩
theorem er_ce (G : Ce X.prog X.w X.K X.mg X.base x j ps P) (g : Gd k X) (ha : AX X Γ (e :: es) ds Γ1) (hp : P ds (.ex C)) (hk : j ≤ k := by decide) (hg : Gl X x := by rfl)
    (hdb : (x == ("__debug__" : Str)) = false := by decide) (he : starEach (e :: es) X.env = (false, eval e X.env) :: starEach es X.env := by rfl) (hpl : (backTo pos (starEach es X.env)).any (·.1) = false := by rfl) : ER X Γ (.Call (.Name x p) (e :: es) [] pos) C Γ1 := fun F σ H S Q W R tk q => by
  obtain ⟨f, fd, gm, kp, b, Fo⟩ := G.ex
  refine pe_we (pe_callS (E := L2.WE W) Fo (g.rm.mono hk) hg gm kp b (fun σ => passAt tk σ) wa_pa hdb he hpl) (ha F σ H S _ R fun vs H1 S1 R1 s1 ok => ?_)
  exact ⟨S1, ds, .ex C, hp, R1.sh, ok, fun H2 S2 d t => q H2 S2 d (R1.after0 t).1 (s1.trans t.ss)⟩
end
/-! ### try: body / except x as n: y = n -/
section
variable {X : Cx} {Γ Γ1 : Gm} {x n y : Str} {C : Xp} {CB : Addr} {body : List Stmt} {np pos pos' py pn' spos : Pos} {k : Nat}
theorem Gd.tr (g : Gd k X) {pn : List (Addr × Obj)} {xe : Value → Shared → Prop} (po : PassesOwn (model X.prog X.w) X.A X.env xe) : Gd k (X.tr pn xe) := ⟨g.calm, g.nd, po, g.rm⟩
theorem set_thrice {σ : L2.St} {i m : Nat} {u v : Option V} (h : i ≠ m) : ((σ.set i u).set m v).set i none = (σ.set m v).set i none := by
  rw [List.set_comm _ _ h, List.set_set]
/-- .. that raises an exception of the class at C, which the clause takes -/
theorem s1_tryK (i m : Nat) (g : Gd k X) (gB : X.mg x = some (.ref CB)) (hm : PySem.W.exmOne X.K (.ref C.C) (.ref CB) = some true) (hb : ∀ pn xe, Gd k (X.tr pn xe) → SR (X.tr pn xe) Γ body C Γ1) (hu : Γ1[i]? = some .un) (hl : m < Γ1.length := by exact Nat.le_of_ble_eq_true rfl) (him : i ≠ m := by decide)
    (h1 : X.stack = X.env :: X.outer := by rfl) (h2 : X.env.frame = some X.env.locals := by rfl) (h4 : X.N[i]? = some n := by rfl) (h5 : X.env.kindOf n = some .local := by rfl) (h6 : X.N[m]? = some y := by rfl) (h7 : X.env.scope.names.lookup y = some .local := by rfl) (h8 : X.ex = [] := by rfl) (hn0 : (n == ("__debug__" : Str)) = false := by decide) (hn1 : (n == ("__classdict__" : Str)) = false := by decide)
    (hg : Gl X x := by rfl) (hdb : (x == ("__debug__" : Str)) = false := by decide) (hs2 : swapsWith (.Name n pn') (some (.Name y py)) spos.line X.env = pure false := by rfl) :
    S1 X Γ (.Try body [.ExceptHandler (some (.Name x np)) (some n) [.Assign [.Name y py] (.Name n pn') spos] pos'] [] [] pos) (.nx (Γ1.set m (.sh C.d))) := fun F σ H S D R q => by
  refine ps_w1 (ps_try_kept (tb := fun W D σ H => ∀ pn xe, Takes (X.tr pn xe) W → PassesOwn (model X.prog X.w) X.A X.env xe → WS (X.tr pn xe) body D σ H) h1 h2 g.nd h4 h5 h6 h7 h8 him hn0 hn1 ⟨hg, hdb, .inl gB⟩ (fun W pn xe tk po => ⟨fun pins s σ H D I h => h pn xe tk po pins s I⟩) hs2) ?_
  intro pn xe tk po
  refine hb pn xe (g.tr po) F σ H S D _ R tk fun σ' H' S' dd R' s' xo => ⟨C.C, rfl, hm, fun a na => ?_⟩
  obtain ⟨R2, s2⟩ := RS.laid (o := ExV C.C dd a) R' na
  obtain ⟨vs, xa, xl, xr⟩ := xo
  have R3 := R2.put (r := .sh C.d) (v := .ref a) (i := m) hl ⟨a, dd, vs, rfl, upd_same, xa.mono s2, xl, Reps.mono s2 _ _ xr⟩ (fun _ z => by cases z)
  have hu2 : (Γ1.set m (.sh C.d))[i]? = some .un := by rw [List.getElem?_set_ne (Ne.symm him)]; exact hu
  have R4 := RS.wipe R3 (unAt1 hu2)
  rw [set_thrice him]
  exact q _ _ _ R4 (s'.trans s2)
/-- .. that raises nothing -/
theorem s1_tryN {hd : ExceptHandler} (g : Gd k X) (hb : Gd k X.nox → SX X.nox Γ body (.nx Γ1)) : S1 X Γ (.Try body [hd] [] [] pos) (.nx Γ1) := fun F σ H S D R q => by
  exact ps_w1 (ps_try_thru0 ws_pss) (hb ⟨g.calm, g.nd, PassesOwn.never, g.rm⟩ F σ H S D R q)
end
/-! ### isinstance of what was caught; its fields -/
section
variable {X : Cx} {C CB : Addr} {b : Bool} {ns : List Str} {fs : List D}
def XdThere (H : Hp) (d : Option Addr) : Prop := ∀ b, d = some b → ∃ fs, H b = some (.xd fs)
theorem exv_inst {pins : List (Addr × Obj)} {σ : L2.St} {H : Hp} {s : Shared} {a C : Addr} {d : Option Addr} (I : Inv X pins σ H s) (h : H a = some (ExV C d a)) (hd : XdThere H d) : ∃ ox od, PySem.W.InstAt s.heap a ox C od := by
  obtain ⟨⟨oc, od, oda, osl⟩, vs, e1, ⟨z1, z2⟩, e3⟩ := exv_at I.hok h
  dsimp only at z1 z2 e3
  subst z1 z2 e3
  cases od with
  | none => exact ⟨_, none, e1, rfl, rfl, trivial⟩
  | some b =>
    obtain ⟨fs, hb⟩ := hd b rfl
    obtain ⟨u, hu⟩ := objOk_get (I.hok b _ hb)
    exact ⟨_, some u, e1, rfl, rfl, hu⟩
def rIsX (K : PySem.W.Frag) (C : Addr) : List V → Hp → VK → Prop := fun xs H Q => ∃ (a : Addr) (d : Option Addr) (v : V) (u : Value) (t : Bool), xs = [.ref a, v] ∧ H a = some (ExV C d a) ∧ XdThere H d ∧ (∀ z, RelV v z → z = u) ∧ PySem.W.kitOne K (.ref C) u = some t ∧ Q (.bl t) H
theorem call_isX (c : ExcC X.K C) : CallR X (.builtin "isinstance") (rIsX X.K C) := by
  rintro pins s σ H xs us Q I r ⟨a, d, v, u, t, rfl, ha, hd, hv, hk, q⟩
  cases r with
  | cons r1 r2 =>
    cases r2 with
    | cons r3 r4 =>
      cases r4
      cases r1
      obtain rfl := hv _ r3
      obtain ⟨ox, od, J⟩ := exv_inst I ha hd
      have hcl : (PySem.W.clsIn X.K C).isSome = true := by
        obtain ⟨cd, hc, _⟩ := PySem.W.any_some c.hd
        rw [hc]; rfl
      exact PySem.W.kia_one (PySem.W.kitx_exc hcl c.hg c.hk c.hs c.ha c.hn c.ht c.hm) I.kIn J hk (fun z => nomatch z) fun tk => ⟨.bl t, H, I.kept (t' := tk) fun _ _ z => z, rfl, q⟩
theorem xd_there {S H : Hp} {d : Option Addr} {fs : List (Str × V)} (s : Same S H) (h : XdAt S d fs) : XdThere H d := fun b e => by
  subst e
  exact ⟨fs, s _ _ h⟩
theorem c_isXo (c : ExcC X.K C) (hk : PySem.W.kitOne X.K (.ref C) (.ref CB) = some b) : CallS X (.builtin "isinstance") [.exc C ns fs, .raw (.ref CB)] (.sh (.bl b)) := calls_sc (call_isX c) (.bl b) (fun _ => rfl) fun H S vs Q s r q => by
  obtain ⟨v, _, rfl, ⟨a, d, ws, rfl, h1, h2, _⟩, u, _, rfl, rfl, rfl⟩ := r
  exact ⟨a, d, .ref CB, .ref CB, b, rfl, s _ _ h1, xd_there s h2, fun z rz => by cases rz; rfl, hk, q⟩
theorem c_isXt {T : String} (c : ExcC X.K C) (hk : PySem.W.kitOne X.K (.ref C) (.type T) = some b) : CallS X (.builtin "isinstance") [.exc C ns fs, .raw (.ty T)] (.sh (.bl b)) := calls_sc (call_isX c) (.bl b) (fun _ => rfl) fun H S vs Q s r q => by
  obtain ⟨v, _, rfl, ⟨a, d, ws, rfl, h1, h2, _⟩, u, _, rfl, rfl, rfl⟩ := r
  exact ⟨a, d, .ty T, .type T, b, rfl, s _ _ h1, xd_there s h2, fun z rz => by cases rz; rfl, hk, q⟩
/-- a field of a kept exception -/
def tXg (C : Addr) (f : Str) (te : TE) : TE := fun σ H Q => te σ H fun x H1 => ∃ (a b : Addr) (fs : List (Str × V)) (v : V), x = .ref a ∧ H1 a = some (ExV C (some b) a) ∧ H1 b = some (.xd fs) ∧ fs.lookup f = some v ∧ Q v H1
theorem pe_xg {e : Ex} {te : TE} {pos : Pos} {f : Str} (c : ExcC X.K C) (hno : PySem.W.findIn X.K (.ref C) f = some none) (he : PE X e te) (hb : attributeBase e f X.env (eval e X.env) = eval e X.env := by rfl) : PE X (.Attribute e f pos) (tXg C f te) := ⟨fun pins s σ H Q I h => by
  refine attr_of hb (thn (he.run pins s σ H _ I h) fun u s1 hh => ?_)
  obtain ⟨x, H1, I1, rx, a, b, fs, v, rfl, ha, hbx, l, q⟩ := hh
  obtain rfl : u = Value.ref a := rx
  obtain ⟨oe, vs, e1, hz, hd⟩ := exv_at I1.hok ha
  obtain ⟨mA, hns, hr⟩ := (show ObjOk X.prog X.w H1 s1.heap b (.xd fs) from I1.hok b _ hbx)
  obtain ⟨od, ho, hl⟩ := lookIn_ns hns
  obtain ⟨u, hu, ru⟩ := RelO.some_of (v := v) (o := mA f) (by rw [← l]; exact hr f)
  have J : PySem.W.InstAt s1.heap a oe C (some od) := ⟨e1, hz.1, by unfold PySem.W.notCls; rw [hd] <;> rfl, by rw [hz.2]; exact ho⟩
  exact HandSPX.exc_get I1.kIn J c.hg c.hk c.hs (PySem.W.findObj_own c.hd hno rfl (by rw [hl, hu])) (handed_of ru) ⟨v, H1, I1.tok _, ru, q⟩⟩
theorem e_xg {Γ Γ1 : Gm} {e : Ex} {pos : Pos} {f : Str} {d : D} (c : ExcC X.K C) (hno : PySem.W.findIn X.K (.ref C) f = some none) (h : EX X Γ e (.sh (.exc C ns fs)) Γ1) (hl : (ns.zip fs).lookup f = some d) (hb : attributeBase e f X.env (eval e X.env) = eval e X.env := by rfl) : EX X Γ (.Attribute e f pos) (.sh d) Γ1 := fun F σ H S Q R q =>
  pe_we (pe_xg c hno we_pe hb) (h F σ H S _ R fun v H' S' R' s ok => by
    obtain ⟨a, dd, vs, rfl, h1, h2, h3, h4⟩ := ok
    obtain ⟨w, e1, e2⟩ := zip_lookup h4 hl
    cases dd with
    | none => rw [show ns.zip vs = [] from h2] at e1; cases e1
    | some b => exact ⟨a, b, _, w, rfl, R'.sh _ _ h1, R'.sh _ _ h2, e1, q w H' S' R' s e2⟩)
end
end PL

set_option Elab.async false
set_option linter.all false
set_option maxRecDepth 100000
set_option maxHeartbeats 1000000
/-! xs.count(b), xs.index(b) of lists of truths -/
namespace PL
open PySem PySem.Spec PyProof.Rows L2
theorem eqU_count {y : V} : ∀ {ys : List V} {us : List Value}, Vals ys us → ys.all flatV = true → us.countP (eqU y) = ys.countP (fun z => eqV z y)
  | _, _, .nil, _ => rfl
  | _, _, .cons r t, f => by
    have f1 := Bool.and_eq_true_iff.mp (show (flatV _ && _) = true from f)
    rw [List.countP_cons, List.countP_cons, eqU_count t f1.2, eqU_of r f1.1]
theorem cnt_bls (k : Bool) : ∀ bs : List Bool, (bs.map V.bl).countP (fun z => eqV z (.bl k)) = bs.count k
  | [] => rfl
  | b :: bs => by
    rw [List.map_cons, List.countP_cons, List.count_cons, cnt_bls k bs]
    cases b <;> cases k <;> rfl
theorem flatB_all (bs : List Bool) : (bs.map V.bl).all flatV = true := by
  rw [List.all_eq_true]
  intro v hv
  obtain ⟨x, _, rfl⟩ := List.mem_map.mp hv
  rfl
def rCntB (K : PySem.W.Frag) : V → List V → Hp → VK → Prop := fun x xs H Q => ∃ (p : Addr) (bs : List Bool) (k : Bool), x = .ref p ∧ xs = [.bl k] ∧ SqL K H p (bs.map V.bl) ∧ Q (.int (bs.count k : Nat)) H
section
variable {X : Cx}
theorem mt_cntB : MtR X "list.count" (rCntB X.K) := by
  intro pins s σ H x xs v us Q I rx rxs h
  obtain ⟨p, bs, k, rfl, rfl, hs, q⟩ := h
  cases rx
  cases rxs with
  | cons ry rt =>
    rename_i uy ut
    cases rt
    obtain ⟨its, rv, ⟨⟨cls, dd, data, sl⟩, n, ho, hc, hdn, hd⟩, hlen⟩ := I.list hs
    simp only at hc hd
    subst hc hd
    have fl := flatB_all bs
    refine call_meets PySem.F.slot_list_count ⟨_, ho, rfl⟩ PySem.F.entry_list_count (PySem.F.args_list_count_2 _ _) (SeqAt.list_countAt p its.toArray n dd sl uy (eqU (.bl k))) ⟨ho, fun y hy => mem_eqAt ry rfl rv fl y (by simpa using hy), ?_⟩
    refine ⟨.int (bs.count k : Nat), H, I.tok _, ⟨s.toks, ?_⟩, q⟩
    show Value.int ((its.toArray.toList.countP (eqU (.bl k)) : Nat) : Int) s.toks = Value.int ((bs.count k : Nat) : Int) s.toks
    rw [show its.toArray.toList.countP (eqU (.bl k)) = bs.count k from (eqU_count rv fl).trans (cnt_bls k bs)]
variable {Γ Γ1 Γ2 : Gm} {e o : Ex} {pos apos : Pos} {bs : List Bool} {k : Bool}
theorem e_cntB (ho : EX X Γ o (.sh (.lst (bs.map .bl))) Γ1) (he : EX X Γ1 e (.sh (.bl k)) Γ2) (hbase : attributeBase o "count" X.env (eval o X.env) = eval o X.env := by rfl)
    (hfew : ((backTo pos (starEach [e] X.env)).all (fun x => !x.1) && (backToKw pos (keywordEach [] X.env)).all (fun x => x.1.isSome)
      && decide ([e].length + ([] : List Keyword).length + (if ([] : List Keyword).isEmpty then 0 else 1) < 30)) = true := by rfl)
    (hline : (apos.endLine == pos.line) = true := by rfl) (hs : starEach [e] X.env = (false, eval e X.env) :: starEach [] X.env := by rfl) (hplain : (backTo pos (starEach [] X.env)).any (·.1) = false := by rfl) : EX X Γ (.Call (.Attribute o "count" apos) [e] [] pos) (.sh (.int (bs.count k : Nat))) Γ2 := fun F σ H S Q R q => by
  refine pe_we (pe_bm PySem.F.plainAttrs_list PySem.F.slot_list_count PySem.F.type_list_count mt_cntB we_pe (pa_cons we_pe pa_nil hs) hbase hfew hline hs hplain) (ho F σ H S _ R fun v H1 S1 R1 s1 ok => ?_)
  obtain ⟨a, vs, rfl, h1, h2⟩ := ok
  rw [h2.bls] at h1
  refine ⟨.inl ⟨rfl, _, .of (R1.sh _ _ h1)⟩, he F σ H1 S1 _ R1 fun u H2 S2 R2 s2 ok2 => ?_⟩
  exact ⟨a, bs, k, rfl, by rw [show u = V.bl k from ok2], .of (R2.sh _ _ (s2 _ _ h1)), q _ H2 S2 R2 (s1.trans s2) rfl⟩
theorem e_idxB {j : Nat} (hj : bs[j]? = some k) (hf : ∀ m, m < j → bs[m]? ≠ some k) (ho : EX X Γ o (.sh (.lst (bs.map .bl))) Γ1) (he : EX X Γ1 e (.sh (.bl k)) Γ2) (hbase : attributeBase o "index" X.env (eval o X.env) = eval o X.env := by rfl)
    (hfew : ((backTo pos (starEach [e] X.env)).all (fun x => !x.1) && (backToKw pos (keywordEach [] X.env)).all (fun x => x.1.isSome)
      && decide ([e].length + ([] : List Keyword).length + (if ([] : List Keyword).isEmpty then 0 else 1) < 30)) = true := by rfl)
    (hline : (apos.endLine == pos.line) = true := by rfl) (hs : starEach [e] X.env = (false, eval e X.env) :: starEach [] X.env := by rfl) (hplain : (backTo pos (starEach [] X.env)).any (·.1) = false := by rfl) : EX X Γ (.Call (.Attribute o "index" apos) [e] [] pos) (.sh (.int (j : Nat))) Γ2 := fun F σ H S Q R q => by
  refine pe_we (pe_bm PySem.F.plainAttrs_list PySem.F.slot_list_index PySem.F.type_list_index mt_index we_pe (pa_cons we_pe pa_nil hs) hbase hfew hline hs hplain) (ho F σ H S _ R fun v H1 S1 R1 s1 ok => ?_)
  obtain ⟨a, vs, rfl, h1, h2⟩ := ok
  rw [h2.bls] at h1
  refine ⟨.inl ⟨rfl, _, .of (R1.sh _ _ h1)⟩, he F σ H1 S1 _ R1 fun u H2 S2 R2 s2 ok2 => ?_⟩
  refine ⟨a, bs.map V.bl, .bl k, j, .bl k, rfl, by rw [show u = V.bl k from ok2], .of (R2.sh _ _ (s2 _ _ h1)), rfl, flatB_all bs, by rw [List.getElem?_map, hj]; rfl, by cases k <;> rfl, fun m z hm hz => ?_, q _ H2 S2 R2 (s1.trans s2) rfl⟩
  rw [List.getElem?_map] at hz
  obtain ⟨b, hb, rfl⟩ := Option.map_eq_some_iff.mp hz
  have : b ≠ k := fun z => hf m hm (by rw [hb, z])
  cases b <;> cases k <;> first | rfl | exact absurd rfl this
end
end PL

set_option Elab.async false
set_option linter.all false
set_option maxRecDepth 100000
set_option maxHeartbeats 1000000
/-! what the head says of the classes of refusals -/
namespace PL
open PySem PySem.Spec PyProof.Rows L2
theorem excCB_ok {K : PySem.W.Frag} {x : Str} (h : excCB K x = true) : ExcC K (He.ga K x) := by
  obtain ⟨h1, h⟩ := He.ba h
  obtain ⟨h2, h⟩ := He.ba h
  obtain ⟨h3, h⟩ := He.ba h
  obtain ⟨h4, h⟩ := He.ba h
  obtain ⟨h5, h⟩ := He.ba h
  obtain ⟨h6, h⟩ := He.ba h
  obtain ⟨h7, h8⟩ := He.ba h
  exact ⟨He.eqO_ok h1, He.eqO_ok h2, of_decide_eq_true h3, h4, He.eqO_ok h5, He.eqO_ok h6, of_decide_eq_true h7, of_decide_eq_true h8⟩
/-- a class of refusals, as the law sorts them -/
structure Srt (K : PySem.W.Frag) (i : Nat) : Prop where
  ex : ExcC K (kA K i)
  k1 : ∀ j, j < 17 → PySem.W.kitOne K (.ref (kA K i)) (.ref (kA K j)) = some (j == i)
  k2 : ∀ j, j < 5 → PySem.W.kitOne K (.ref (kA K i)) (.ref (He.ga K (fam j))) = some (j == fm i)
  k3 : ∀ j, j < 4 → PySem.W.kitOne K (.ref (kA K i)) (.type (ownT j)) = some (j == fm i)
  k4 : PySem.W.kitOne K (.ref (kA K i)) (.type "LookupError") = some (lkp i)
  xm : PySem.W.exmOne K (.ref (kA K i)) (.ref (He.ga K (fam (fm i)))) = some true
  xms : ∀ j, j < 5 → PySem.W.exmOne K (.ref (kA K i)) (.ref (He.ga K (fam j))) = some (j == fm i)
theorem srtB_ok {K : PySem.W.Frag} {i : Nat} (h : srtB K i = true) : Srt K i := by
  obtain ⟨h1, h⟩ := He.ba h
  obtain ⟨h2, h⟩ := He.ba h
  obtain ⟨h3, h⟩ := He.ba h
  obtain ⟨h4, h⟩ := He.ba h
  obtain ⟨h5, h⟩ := He.ba h
  obtain ⟨h6, h7⟩ := He.ba h
  exact ⟨excCB_ok h1, fun j hj => of_decide_eq_true (List.all_eq_true.mp h2 j (List.mem_range.mpr hj)), fun j hj => of_decide_eq_true (List.all_eq_true.mp h3 j (List.mem_range.mpr hj)), fun j hj => of_decide_eq_true (List.all_eq_true.mp h4 j (List.mem_range.mpr hj)), of_decide_eq_true h5, of_decide_eq_true h6, fun j hj => of_decide_eq_true (List.all_eq_true.mp h7 j (List.mem_range.mpr hj))⟩
theorem xcVB_ok {K : PySem.W.Frag} {mg : Str → Option Value} {x : Str} (g : mg x = some (.ref (He.ga K x))) (h : xcVB K x = true) : Xc K mg x (He.ga K x) := by
  obtain ⟨h1, h⟩ := He.ba h
  obtain ⟨h2, h⟩ := He.ba h
  obtain ⟨h3, h4⟩ := He.ba h
  exact ⟨⟨_, _, _, _, PySem.F.excBase_ValueError, h1⟩, g, h2, of_decide_eq_true h3, Option.some.inj (He.eqO_ok h4)⟩
/-- all classes of refusals stand under their names -/
def Gk (K : PySem.W.Frag) (mg : Str → Option Value) : Prop := (∀ j, j < 17 → mg (knd j) = some (.ref (kA K j))) ∧ ∀ j, j < 5 → mg (fam j) = some (.ref (He.ga K (fam j)))
theorem b_ValueError : bootBuiltins "ValueError" = some (.type "ValueError") := by decide +kernel
theorem b_IndexError : bootBuiltins "IndexError" = some (.type "IndexError") := by decide +kernel
theorem b_KeyError : bootBuiltins "KeyError" = some (.type "KeyError") := by decide +kernel
theorem b_LookupError : bootBuiltins "LookupError" = some (.type "LookupError") := by decide +kernel
theorem b_ZeroDivisionError : bootBuiltins "ZeroDivisionError" = some (.type "ZeroDivisionError") := by decide +kernel
end PL

set_option Elab.async false
set_option linter.all false
set_option maxRecDepth 100000
set_option maxHeartbeats 2000000
/-! refusals with an own __init__ that fills fields, over any of Python's classes: raised, and what of them is data -/
namespace PL
open PySem PySem.Spec PyProof.Rows L2
/-! ### Python's own classes: what their __init__ is; KeyError, made by LookupError's __new__ -/
theorem xb_ent {id to : String} {b : Builtin} (h : fastTable id = none ∧ id.cutAt '#' = [id] ∧ Manifest.canonical (String.map (fun c => if (c.isAlphanum || c == '_' || c == '.') = true then c else '_') id) ++ "" = to ∧ fastTable to = some b) : entryFor table id = some b := entryFor_alias h.1 h.2.1 h.2.2.1 h.2.2.2
structure Xin (B initId : String) : Prop where
  plain : plainId initId = true
  ent : entryFor table initId = some Builtin.«BaseException.__init__»
  split : splitId initId = some (B, "__init__")
  kind : builtinKind initId = some .slot
  row : Manifest.signature? initId = some ⟨.positional, "*", B, .self, [⟨"args", .varPos, false⟩]⟩
  star : (B != "*") = true
  out : PySem.W.handedIn (.builtin initId) = true
theorem xin_of {B newId initId : String} (F : ExcCallFacts B newId initId) (h : PySem.W.handedIn (.builtin initId) = true) : Xin B initId := ⟨F.init.plain, F.initEntry, F.initSplit, F.initKind, F.initRow, F.noStar, h⟩
theorem xin_key : Xin "KeyError" "KeyError.__init__" := ⟨by decide +kernel, xb_ent (to := "BaseException.__init__") ⟨by rw [fastTable_eq_tree]; kernel_rfl, by first | rfl | decide +kernel, by decide +kernel, by rw [fastTable_eq_tree]; kernel_rfl⟩, by kernel_rfl, by kernel_rfl, by kernel_rfl, by decide +kernel, by decide +kernel⟩
theorem xs_key : StoreFacts "KeyError" mKey "object.__setattr__" "object" := by
  have l1 : typeLookup (.type "KeyError") "__setattr__" = pure (some (.builtin "object.__setattr__")) := by rw [typeLookup_type, builtinLookup_eq_fast]; kernel_rfl
  have s1 : isSubtype (.type "KeyError") (.type "object") = pure true := by rw [isSubtype_type]; kernel_rfl
  exact { mro := by kernel_rfl, slot := Slot.of (owner := "object") (n := "__setattr__") l1 (by decide +kernel) (by decide +kernel) (by decide +kernel) (.inl (by decide +kernel)) s1, entry := F.store_IndexError.entry, kind := by decide +kernel, split := by decide +kernel, hasOwner := by decide +kernel, args := F.store_IndexError.args, passes := fun _ => by kernel_rfl }
/-! ### C(..): made by a base's __new__, then the own __init__ -/
section
variable {prog : Program} {w : World} {A : Around} {E : Value → Shared → Prop} {R : Result → Shared → Prop} {h : Heap} {g : Array GenState} {d : Drawn} {t : Nat} {os : OsState}
variable {nm q : Str} {C N : Addr} {bs bm bm0 : List Value} {hd : Bool} {sn : List Str} {sub : List Value} {ab : Bool} {col : Option Bool} {dd : Option Addr} {k0 k1 k2 k3 k5 : Option Value} {B newId i0 : String}
/-- what of the class's bases matters to __new__ -/
structure Tl (bm : List Value) (B : String) : Prop where
  b : bm.contains (.type B) = true
  a : bm.contains (.type "AttributeError") = false
  n : bm.contains (.type "NameError") = false
theorem xb_ckNew {M : Model} (F : ExcBaseFacts B newId i0 bm0) (T : Tl bm B) {rest : List Value} {Q : Unit → Shared → Prop} (hC : h.get? C = some (excClassObj nm q C N bs bm hd sn sub ab col dd k0 k1 k2 k3 k5 newId)) (hq : Q () ⟨h, g, d, t, os⟩) : wpAny M A (checkBuiltinCall newId ⟨.ref C :: rest, []⟩) Q E ⟨h, g, d, t, os⟩ := by
  have c1 : (Value.ref C :: bm).contains (.type B) = true := by rw [List.contains_cons, T.b, Bool.or_true]
  have c2 := F.noStar
  simp only [checkBuiltinCall, F.newKind, F.newSplit, F.newRow]
  repeat (first
    | refine wpAny_loadPart_at hC ?_
    | (refine wpAny_isSubtype_exc hC ?_; rw [c1])
    | refine wpAny_staticBase_exc hC ?_
    | refine wpAny_madeBy_exc hC ?_
    | simp only [bne_self_eq_false, Bool.false_eq_true, if_false]
    | wp_step)
  exact hq
theorem xb_new (F : ExcBaseFacts B newId i0 bm0) (T : Tl bm B) {rest : List Value} (hC : h.get? C = some (excClassObj nm q C N bs bm hd sn sub ab col dd k0 k1 k2 k3 k5 newId))
    (hq : R (.ok (.ret (.ref (h.objs.size + 1)))) ⟨(h.push (PySem.W.kdv_tup rest)).push (PySem.HandSPX.excO C h.objs.size), g, d, t, os⟩) (hn : rest.length ≤ sizeLine) : codeAny (model prog w) A (.builtin newId ⟨.ref C :: rest, []⟩) R ⟨h, g, d, t, os⟩ := by
  have c0 := F.ends
  have c1 : (Value.ref C :: bm).contains (.type B) = true := by rw [List.contains_cons, T.b, Bool.or_true]
  have c2 : (Value.ref C :: bm).contains (.type "AttributeError") = false := by rw [List.contains_cons, T.a]; rfl
  have c3 : (Value.ref C :: bm).contains (.type "NameError") = false := by rw [List.contains_cons, T.n]; rfl
  refine codeAny_builtinAt F.entry ?_
  unfold Builtin.«BaseException.__new__»
  refine PySem.wpAt_bind ?_
  show PySem.wpAt _ _ _ (stack >>= _) _ _ _
  refine PySem.wpAt_bind (PySem.wpAt_stack fun p below => PySem.wpAt_of_wpAny ?_)
  wp_walk
  refine PySem.wpAt_of_wpAny ?_
  rw [F.owner]
  repeat (first
    | with_reducible refine wpAny_madeHere_exc F.canon hC ?_
    | with_reducible refine wpAny_loadPart_at hC ?_
    | (with_reducible refine wpAny_isSubtype_exc hC ?_; first | rw [c1] | rw [c2] | rw [c3])
    | wp_step)
  show R _ _
  rw [Heap.size_push]
  exact hq
theorem xb_typeCall (F : ExcBaseFacts B newId i0 bm0) (T : Tl bm B) {rest : List Value} {fI : Addr} {Q : Fin → Shared → Prop} (hC : h.get? C = some (excClassObj nm q C N bs bm hd sn sub ab col dd k0 k1 k2 k3 k5 newId))
    (hi : PySem.W.Looks (model prog w) h (typeLookup (.ref C) "__init__") (some (.ref fI))) (hb : ∀ self, PySem.W.Looks (model prog w) h (bindSpecial (.ref fI) self) (.ref fI, [self])) (hn : rest.length ≤ sizeLine)
    (hq : codeAny (model prog w) A (.call (.ref fI) ⟨.ref (h.objs.size + 1) :: rest, []⟩) (fun r s' => match r with | .ok (.ret v) => v = .none ∧ Q (.done (.ret (.ref (h.objs.size + 1)))) s' | .ok _ => False | .error e => E e s') ⟨(h.push (PySem.W.kdv_tup rest)).push (PySem.HandSPX.excO C h.objs.size), g, d, t, os⟩) :
    wpAny (model prog w) A (Builtin.«type.__call__» ⟨.ref C :: rest, []⟩) Q E ⟨h, g, d, t, os⟩ := by
  repeat (first
    | with_reducible refine wpAny_loadPart_at hC ?_
    | with_reducible refine wpAny_madeBy_exc hC ?_
    | wp_step)
  refine codeAny_call_builtin_code (Code.quiet_builtin _ F.quiet) (xb_ckNew F T hC (xb_new F T hC ?_ hn))
  show wpAny _ _ _ _ _ _
  have k : ∀ b o, h.get? b = some o → ((h.push (PySem.W.kdv_tup rest)).push (PySem.HandSPX.excO C h.objs.size)).get? b = some o := fun b o e => by
    apply Heap.get?_push_of_some; apply Heap.get?_push_of_some; exact e
  have hC2 := k _ _ hC
  have he : ((h.push (PySem.W.kdv_tup rest)).push (PySem.HandSPX.excO C h.objs.size)).get? (h.objs.size + 1) = some (PySem.HandSPX.excO C h.objs.size) := by heap_get
  have cc : (Value.ref C :: bm).contains (.ref C) = true := by simp
  have i1 := hi.keeps k
  have b1 := (hb (.ref (h.objs.size + 1))).keeps k
  unfold isInstance
  repeat (first
    | with_reducible refine wpAny_loadPart_at he ?_
    | (with_reducible refine wpAny_isSubtype_exc hC2 ?_; rw [cc])
    | wp_step)
  show wpAny _ _ (typeLookup (.ref C) _) _ _ _
  refine i1.at (wpAny_holding (wpAny_bind (b1.at (wpAny_bind (wpAny_call (codeAny_mono hq fun r s' z => ?_))))))
  rcases r with e | (v | _ | _ | _) <;> first | exact z | exact z.elim | skip
  obtain ⟨rfl, z⟩ := z
  first
    | exact wpAny_pure (wpAny_pure z)
    | (wp_walk; exact z)
theorem xb_call (F : ExcBaseFacts B newId i0 bm0) (T : Tl bm B) {rest : List Value} {fI : Addr} (hC : h.get? C = some (excClassObj nm q C N bs bm hd sn sub ab col dd k0 k1 k2 k3 k5 newId))
    (hi : PySem.W.Looks (model prog w) h (typeLookup (.ref C) "__init__") (some (.ref fI))) (hb : ∀ self, PySem.W.Looks (model prog w) h (bindSpecial (.ref fI) self) (.ref fI, [self])) (hn : rest.length ≤ sizeLine)
    (hq : codeAny (model prog w) (A.under (.builtin "type.__call__" ⟨.ref C :: rest, []⟩)) (.call (.ref fI) ⟨.ref (h.objs.size + 1) :: rest, []⟩) (PySem.W.InitBack (h.objs.size + 1) R) ⟨(h.push (PySem.W.kdv_tup rest)).push (PySem.HandSPX.excO C h.objs.size), g, d, t, os⟩) : codeAny (model prog w) A (.call (.ref C) ⟨rest, []⟩) R ⟨h, g, d, t, os⟩ := by
  have f1 := tc_lookup
  have f2 := tc_bind (.ref C)
  have f3 : (⟨h, g, d, t, os⟩ : Shared).TypeIs (.ref C) "type" := ⟨_, hC, rfl⟩
  refine codeAny_of_tree ?_
  show wpAny _ _ (callAny (.ref C) _) _ _ _
  repeat (any_goals (first
    | assumption
    | with_reducible refine wpAny_loadPart_at hC ?_
    | wp_step))
  refine ⟨rfl, codeAny_call_builtin_at (Code.quiet_builtin _ (by decide +kernel)) entry_typeCall (wpAny_check_type_call_sub hC (xb_typeCall F T hC hi hb hn (codeAny_mono hq fun r s' z => ?_)))⟩
  rcases r with e | (v | _ | _ | _) <;> exact z
theorem xb_init {B1 initId : String} (F : Xin B1 initId) (hB : bm.contains (.type B1) = true) {e t0 : Addr} {rest : List Value} (hC : h.get? C = some (excClassObj nm q C N bs bm hd sn sub ab col dd k0 k1 k2 k3 k5 newId)) (he : h.get? e = some (PySem.HandSPX.excO C t0)) (hn : rest.length ≤ sizeLine)
    (hq : ∀ h' t1, (∀ b o, b ≠ e → h.get? b = some o → h'.get? b = some o) → h'.get? e = some (PySem.HandSPX.excO C t1) → R (.ok (.ret .none)) ⟨h', g, d, t, os⟩) : codeAny (model prog w) A (.call (.builtin initId) ⟨.ref e :: rest, []⟩) R ⟨h, g, d, t, os⟩ := by
  have c1 : (Value.ref C :: bm).contains (.type B1) = true := by rw [List.contains_cons, hB, Bool.or_true]
  have c2 := F.star
  refine codeAny_call_builtin F.plain F.ent ?_
  simp only [checkBuiltinCall, F.kind, F.split, F.row]
  repeat (first
    | (with_reducible refine wpAny_loadPart_at he ?_)
    | with_reducible refine wpAny_loadPart_at hC ?_
    | (with_reducible refine wpAny_isSubtype_exc hC ?_; rw [c1])
    | wp_step)
  refine wpAny_onRaise ?_
  have c3 : ∀ (a b : String) (n : Nat), Bind.check ⟨.positional, "*", B1, .self, [⟨"args", .varPos, false⟩]⟩ a b n (List.map (fun x => x.fst) ({ pos := Value.ref e :: rest } : Args).kw) = pure () := fun a b n => check_star_args _ _ _ _ _ _
  rw [c3]
  refine wpAny_pure ?_
  wp_walk
  refine hq _ h.objs.size (fun b o hb ho => ?_) ?_
  · rw [Heap.get?_update_other _ _ (Ne.symm hb)]; exact Heap.get?_push_of_some _ ho
  · rw [Heap.get?_update_self _ (Heap.get?_push_of_some _ he) rfl]; rfl
end
/-! ### what the written part says of such a class, C, and its family, CF -/
structure Oxi (K : PySem.W.Frag) (C CF : Addr) : Prop where
  b : ∃ (B newId i0 : String) (bm0 : List Value) (B1 initId : String) (bm : List Value), ExcBaseFacts B newId i0 bm0 ∧ Tl bm B ∧ Xin B1 initId ∧ bm.contains (.type B1) = true ∧ StoreFacts B1 bm "object.__setattr__" "object" ∧ PySem.W.excInitIn K C bm newId = true ∧ PySem.W.excOver K C bm = true ∧ PySem.W.findCls K (.ref CF) (.type "type") "__init__" = some (.val (.builtin initId))
  sa : PySem.W.findIn K (.ref C) "__setattr__" = some (some (.builtin "object.__setattr__"))
  hd : PySem.W.hasDictIn K C = true
  sb : PySem.W.subIn K (.ref C) (.type "BaseException") = some true
  ty : PySem.W.typeIn K (.ref C) = some (.type "type")
  kp : PySem.W.keepIn K (.ref C) = true
  fg : PySem.W.specialIn K (.ref CF) "__getattribute__" = some (some (.builtin "type.__getattribute__"))
  ft : PySem.W.typeIn K (.ref CF) = some (.type "type")
  fr : PySem.W.readsIn K CF (.type "type") = true
/-! ### self.f = v -/
section
variable {prog : Program} {w : World} {A : Around} {R : Result → Shared → Prop} {K : PySem.W.Frag} {hp : Heap} {g : Array GenState} {d : Drawn} {t : Nat} {os : OsState} {f : Str} {tk : Tok} {v : Value} {x C t0 dx : Addr} {B : String} {bm : List Value} {m0 : Str → Option Value} {nl : List Str}
theorem xb_set0 (SF : StoreFacts B bm "object.__setattr__" "object") (X : K.In hp) (hx : hp.get? x = some (PySem.W.excObj C t0 none .none)) (ho : PySem.W.excOver K C bm = true) (hh : PySem.W.hasDictIn K C = true) (ha : PySem.W.findIn K (.ref C) f = some none)
    (hq : ∀ h' tk' dx, (∀ b o, b ≠ x → hp.get? b = some o → h'.get? b = some o) → hp.objs.size ≤ dx → dx ≠ x → h'.get? x = some (PySem.W.excObj C t0 (some dx) .none) → h'.Ns1 dx (fun y => if y = f then some v else none) → R (.ok (.ret .none)) ⟨h', g, d, tk', os⟩) :
    codeAny (model prog w) A (.call (.builtin "object.__setattr__") ⟨[.ref x, .str f tk, v], []⟩) R ⟨hp, g, d, t, os⟩ := by
  have ht : PySem.W.takerIn K C f = some none := by unfold PySem.W.takerIn; rw [ha]; rfl
  obtain ⟨cd, hc, hd'⟩ := PySem.W.any_some hh
  have lt := Heap.lt_size hx
  have nx : x ≠ hp.objs.size := Nat.ne_of_lt lt
  refine PySem.W.osa_openX (od := none) SF X ⟨hx, rfl, rfl, trivial⟩ ho ht fun b => ?_
  refine wpAny_bind (wpAny_pure (wpAny_bind (PySem.W.instanceDict_exc hx (PySem.W.looks_clsIn X hc) hd' ?_)))
  refine PySem.HandSPX.store_in_new (dx := hp.objs.size) ?_ fun h' tk' hn hs => ?_
  · refine ⟨_, #[], _, (Heap.get?_update_ne _ _ _ _ nx.symm).trans (Heap.get?_push_at rfl rfl), rfl, ?_, fun _ => rfl⟩
    intro e he
    exact absurd he (by simp)
  · refine hq h' tk' hp.objs.size (fun b o hb hbo => ?_) (Nat.le_refl _) nx.symm ?_ hn
    · have q := hs.2 b (Nat.ne_of_lt (Heap.lt_size hbo))
      rw [q, Heap.get?_update_ne _ _ _ _ hb]
      exact Heap.get?_push_of_some _ hbo
    · have q := hs.2 x nx
      rw [q]
      exact Heap.get?_update_self _ (Heap.get?_push_of_some _ hx) rfl
theorem xb_set1 (SF : StoreFacts B bm "object.__setattr__" "object") (X : K.In hp) (hx : hp.get? x = some (PySem.W.excObj C t0 (some dx) .none)) (hns : hp.Ns1 dx m0) (hw : Within m0 nl) (hz : nl.length ≤ 1000) (ho : PySem.W.excOver K C bm = true) (hh : PySem.W.hasDictIn K C = true) (ha : PySem.W.findIn K (.ref C) f = some none)
    (hq : ∀ h' tk', (∀ b o, b ≠ dx → hp.get? b = some o → h'.get? b = some o) → h'.Ns1 dx (fun y => if y = f then some v else m0 y) → R (.ok (.ret .none)) ⟨h', g, d, tk', os⟩) :
    codeAny (model prog w) A (.call (.builtin "object.__setattr__") ⟨[.ref x, .str f tk, v], []⟩) R ⟨hp, g, d, t, os⟩ := by
  have ht : PySem.W.takerIn K C f = some none := by unfold PySem.W.takerIn; rw [ha]; rfl
  obtain ⟨cd, hc, hd'⟩ := PySem.W.any_some hh
  obtain ⟨oD, _, _, hoD, _, _⟩ := hns.count hw
  refine PySem.W.osa_openX (od := some oD) SF X ⟨hx, rfl, rfl, hoD⟩ ho ht fun b => ?_
  refine wpAny_bind (wpAny_pure (wpAny_bind (wpAny_bind (wpAny_loadPart hx (wpAny_bind ((PySem.W.looks_clsIn X hc).here ?_))))))
  rw [hd']
  refine wpAny_pure (a := some dx) ?_
  exact PySem.OEX.store_in_old hns hw hz fun h' tk' hn hs => hq h' tk' (fun b o hb hbo => (hs.2 b hb).trans hbo) hn
end
section
variable {X : Cx} {pins : List (Addr × Obj)} {σ : L2.St} {H : Hp} {s : Shared} {a C CF dx : Addr} {f : Str} {y : V} {u : Value} {fs : List (Str × V)} {Q : Unit → Shared → Prop} {E : Value → Shared → Prop} {A : Around}
theorem xb_st0 (T : Oxi X.K C CF) (I : Inv X pins σ H s) (e : H a = some (exo a C none)) (hno : PySem.W.findIn X.K (.ref C) f = some none) (ry : RelV y u)
    (h : ∀ dx s', H dx = none → dx ≠ a → Inv X pins σ (upd (upd H dx (exd dx [(f, y)])) a (exo a C (some dx))) s' → Q () s') : wpAny (model X.prog X.w) A (setAttr (.ref a) f u) Q E s := by
  obtain ⟨B, newId, i0, bm0, B1, initId, bm, FB, tl, FI, hB1, SF, xi, xo, _⟩ := T.b
  obtain ⟨t1, ho⟩ := exo_at I.hok e
  obtain ⟨hp, g, d, t, os⟩ := s
  refine PySem.W.set_plain I.kIn (od := none) (ox := PySem.W.excObj C t1 none .none) ⟨ho, rfl, rfl, trivial⟩ T.sa (xb_set0 SF I.kIn ho xo T.hd hno fun h' tk' dx k dn dne hx hn => ?_)
  have nH : H dx = none := I.hok.fresh dn
  have nO : ∀ {b : Addr} {o : Obj}, hp.get? b = some o → b ≠ dx := fun {b o} q z => Nat.lt_irrefl _ (Nat.lt_of_lt_of_le (z ▸ Heap.lt_size q) dn)
  have nA : ∀ {b : Addr}, H b = none → b ≠ a := fun {b} n z => by rw [z, e] at n; cases n
  have U : Un X.fs [] H (upd (upd H dx (exd dx [(f, y)])) a (exo a C (some dx))) hp h' := by
    constructor
    case keep => exact fun b o q n _ _ => k b o (nA n) q
    case slot => exact fun b o q n _ _ => ⟨o.slots, k b o (nA n) q⟩
    case free => exact fun b o q n _ => by rw [upd_ne (nA n), upd_ne (nO q)]; exact n
    case there =>
      intro b o q _
      by_cases hb : b = a
      · subst hb; exact ⟨_, hx⟩
      · exact ⟨o, k b o hb q⟩
    case tups => exact fun b xs q => by rw [upd_ne (at_ne e q exo_tup), upd_ne (ne_of_none q nH)]; exact q
    case frzs => exact fun b o v q => by rw [upd_ne (at_ne e q exo_frz), upd_ne (ne_of_none q nH)]; exact q
    case tbls => exact fun b ps q => ⟨#[], by rw [upd_ne (at_ne e q exo_tbl), upd_ne (ne_of_none q nH), q]; simp⟩
  refine h dx _ nH dne (I.un (t' := tk') U fun b o q => ?_)
  by_cases hb : b = a
  · subst hb; rw [upd_same] at q; cases q; exact exo_ok hx
  · rw [upd_ne hb] at q
    by_cases hd : b = dx
    · subst hd; rw [upd_same] at q; cases q
      exact exd_ok hn (relO_put (fs := []) ry fun _ => True.intro)
    · rw [upd_ne hd] at q
      refine (I.hok b o q).stay (fun c v hc z => k c v ?_ z) (fun c hc => ?_) (fun c xs hc => ?_)
      · rcases hc with hc | hc
        · rw [hc]; exact hb
        · exact at_ne e hc exo_own
      · rw [upd_ne (at_ne e hc exo_own), upd_ne (ne_of_none hc nH)]; exact hc
      · rw [upd_ne (at_ne e hc exo_tup), upd_ne (ne_of_none hc nH)]; exact hc
theorem xb_st1 (T : Oxi X.K C CF) (I : Inv X pins σ H s) (e : H a = some (exo a C (some dx))) (ed : H dx = some (exd dx fs)) (hl : fs.length ≤ 900) (hno : PySem.W.findIn X.K (.ref C) f = some none) (ry : RelV y u)
    (h : ∀ s', Inv X pins σ (upd H dx (exd dx ((f, y) :: fs))) s' → Q () s') : wpAny (model X.prog X.w) A (setAttr (.ref a) f u) Q E s := by
  obtain ⟨B, newId, i0, bm0, B1, initId, bm, FB, tl, FI, hB1, SF, xi, xo, _⟩ := T.b
  obtain ⟨t1, ho⟩ := exo_at I.hok e
  obtain ⟨mA, hns, rel⟩ := exd_at I.hok ed
  have hw := within_of rel
  obtain ⟨hp, g, d, t, os⟩ := s
  obtain ⟨oD, _, _, hoD, _, _⟩ := hns.count hw
  refine PySem.W.set_plain I.kIn (od := some oD) (ox := PySem.W.excObj C t1 (some dx) .none) ⟨ho, rfl, rfl, hoD⟩ T.sa (xb_set1 SF I.kIn ho hns hw (by rw [List.length_map]; omega) xo T.hd hno fun h' tk' k hn => ?_)
  obtain ⟨o', es, ep, q1, q2⟩ := id hn
  refine h _ (I.write (t' := tk') (x := dx) (e := dx) (o := exd dx ((f, y) :: fs)) ?_ (.inl rfl) k ⟨o', q1⟩ (exd_ok hn (relO_put ry rel)))
  rw [ed]; exact True.intro
end
/-! ### readings and rules -/
/-- F.__init__(self, ..), F the family of the class at C -/
def tXi (C : Addr) (ta : TA) : TE := fun σ H Q => ta σ H fun vs H1 => ∃ (a : Addr) (ws : List V), vs = .ref a :: ws ∧ ws.length ≤ 1000 ∧ H1 a = some (exo a C none) ∧ Q .non H1
/-- self.f = e -/
def tXs (C : Addr) (f : Str) (to te : TE) : TS := fun D σ H => te σ H fun y H1 => to σ H1 fun x H2 => ∃ a : Addr, x = .ref a ∧
  ((H2 a = some (exo a C none) ∧ ∀ dx, H2 dx = none → dx ≠ a → D.nx σ (upd (upd H2 dx (exd dx [(f, y)])) a (exo a C (some dx)))) ∨ ∃ (dx : Addr) (fs : List (Str × V)), H2 a = some (exo a C (some dx)) ∧ H2 dx = some (exd dx fs) ∧ fs.length ≤ 900 ∧ D.nx σ (upd H2 dx (exd dx ((f, y) :: fs))))
section
variable {X : Cx} {o e : Ex} {es : List Ex} {to te : TE} {ta : TA} {f y : Str} {p p' p1 p2 pos : Pos} {C CF : Addr} {pl : Sem Bool}
theorem pe_xi (T : Oxi X.K C CF) (hg : Gl X y) (hm : X.mg y = some (.ref CF)) (hy : (y == ("__debug__" : Str)) = false) (ha : PA X (e :: es) ta)
    (hc : eval (.Call (.Attribute (.Name y p1) "__init__" p2) (e :: es) [] pos) X.env = (do
      let ov ← eval (.Name y p1) X.env
      standAt p2.atName
      let (f, first) ← holding [ov] (getMethod ov "__init__" pl)
      callWith pos f first (backTo pos (starEach (e :: es) X.env)) (backToKw pos (keywordEach [] X.env))) := by rfl)
    (he : starEach (e :: es) X.env = (false, eval e X.env) :: starEach es X.env := by rfl) (hpl : (backTo pos (starEach es X.env)).any (·.1) = false := by rfl) : PE X (.Call (.Attribute (.Name y p1) "__init__" p2) (e :: es) [] pos) (tXi C ta) := ⟨fun pins s σ H Q I h => by
  obtain ⟨B, newId, i0, bm0, B1, initId, bm, FB, tl, FI, hB1, SF, xi, xo, xf⟩ := T.b
  refine PySem.W.methodCall_KW (ld_glob I hg hm ?_ hy) hc
  obtain ⟨m, fr⟩ := I.fr
  refine PySem.W.method_of_cls fr I.ok.mod.kin T.fg (PySem.W.cls_val fr I.ok.mod.kin T.ft T.fr xf FI.out ?_)
  show wpAny _ _ (callWith pos (Value.builtin initId) [] (backTo pos (starEach (e :: es) X.env)) []) _ _ _
  refine PyProof.Rows.callWith_method1 (thn (ha.run pos pins _ σ H _ (I.tok _) h) fun us s1 hh => ?_) he hpl
  obtain ⟨vs, H1, I1, r1, a, ws, rfl, hl, ea, q⟩ := hh
  cases r1 with
  | @cons _ u0 _ ur ra rw' =>
    obtain rfl : u0 = Value.ref a := ra
    have hn : ur.length ≤ sizeLine := by rw [← Paired.length rw', sizeLine_eq]; omega
    obtain ⟨nm, N, qn, bs, bm', hdct, sn, sub, ab, col, dd, k0, k1, k2, k3, k5, hC, hT⟩ := PySem.W.excInit_of I1.kIn xi
    obtain ⟨t1, ho⟩ := exo_at I1.hok ea
    obtain ⟨hp, g, d, t, os⟩ := s1
    refine wpAny_call (xb_init FI ((hT B1).trans hB1) hC ho hn fun h' t2 k hx => ?_)
    have J := I1.write (t' := t) (x := a) (e := a) (o := exo a C none) (by rw [ea]; exact True.intro) (.inl rfl) k ⟨_, hx⟩ (exo_ok hx)
    have eu : upd H1 a (exo a C none) = H1 := funext fun b => by
      by_cases hb : b = a
      · subst hb; rw [upd_same, ea]
      · rw [upd_ne hb]
    rw [eu] at J
    exact ⟨.non, H1, J, rfl, q⟩⟩
theorem ps_xs (T : Oxi X.K C CF) (hno : PySem.W.findIn X.K (.ref C) f = some none) (ho : PE X o to) (he : PE X e te) (hs : swapsWith e (some (.Attribute o f p')) pos.line X.env = pure false := by rfl) : PS X (.Assign [.Attribute o f p'] e pos) (tXs C f to te) := ⟨fun pins s σ H D I h => by
  refine plainObj_wpAny_Assign_Attribute (thn (he.run pins s σ H _ I h) fun v s1 h1 => ?_) hs
  obtain ⟨y, H1, I1, r1, q1⟩ := h1
  refine thn (ho.run pins s1 σ H1 _ I1 q1) fun u s2 h2 => ?_
  obtain ⟨x, H2, I2, r2, a, rfl, q⟩ := h2
  obtain rfl : u = Value.ref a := r2
  rcases q with ⟨ea, q⟩ | ⟨dx, fs, ea, ed, hl, q⟩
  · exact xb_st0 T I2 ea hno r1 fun dx s' n ne J => ⟨σ, _, J, q dx n ne⟩
  · exact xb_st1 T I2 ea ed hl hno r1 fun s' J => ⟨σ, _, J, q⟩⟩
/-- C(e, ..) -/
def tXm (C : Addr) (sp : Sp) (ta : TA) : L2.St → Hp → XK → Prop := fun σ H Q => ta σ H fun vs H1 => vs.length ≤ 1000 ∧ ∀ a, H1 a = none → sp (.ref a :: vs) (upd H1 a (exo a C none))
  (fun v H2 => v = .non ∧ ∃ (d : Addr) (fs : List (Str × V)), H2 a = some (exo a C (some d)) ∧ H2 d = some (exd d fs) ∧ H1 d = none ∧ Q (.ref C) (some d) (upd (del H2 a) d (.xd fs))) (fun _ _ _ => False)
theorem pmk_x {CX : CXT} {x : Str} {fI : Addr} {k : Nat} {fd : FuncData} {ps : List Str} {sp : Sp} (T : Oxi X.K C CF) (iC : PySem.W.findIn X.K (.ref C) "__init__" = some (some (.ref fI))) (tI : PySem.W.typeIn X.K (.ref fI) = some (.type "function"))
    (F1 : FnOk X.prog X.w X.K X.mg X.base CX k fI fd ps sp) (hr : Room (k + 1) X.A) (hb : Binds X.K fd ps []) (hx : Passes CX X (fun _ _ _ => False)) (hg : Gl X x) (hm : X.mg x = some (.ref C)) (ha : PA X (e :: es) ta)
    (hdb : (x == ("__debug__" : Str)) = false := by decide) (he : starEach (e :: es) X.env = (false, eval e X.env) :: starEach es X.env := by rfl) (hpl : (backTo pos (starEach es X.env)).any (·.1) = false := by rfl) : PMk X (.Call (.Name x p) (e :: es) [] pos) (tXm C sp ta) := by
  intro pins s σ H Q I h
  obtain ⟨B, newId, i0, bm0, B1, initId, bm, FB, tl, FI, hB1, SF, xi, xo, xf⟩ := T.b
  refine wpAny_Call_Name_kw (ld_glob I hg hm ?_ hdb)
  refine PySem.W.callWith_K (h₀ := X.base) I.ok.mod.kin T.kp (thn (ha.run pos pins s σ H _ I h) fun us s1 hh => ?_) he hpl
  obtain ⟨vs, H1, I1, r1, hz, q1⟩ := hh
  refine ⟨I1.kIn, ?_⟩
  show wpAny _ _ (call (.ref C) us) _ _ _
  obtain ⟨nm, N, qn, bs, bm', hdct, sn, sub, ab, col, dd, k0, k1, k2, k3, k5, hC, hT⟩ := PySem.W.excInit_of I1.kIn xi
  obtain ⟨hp, g, dr, tk, os⟩ := s1
  have sz := Nat.le_succ hp.objs.size
  have fresh : H1 (hp.objs.size + 1) = none := I1.hok.fresh sz
  have hq := q1 (hp.objs.size + 1) fresh
  have kk : ∀ b o, hp.get? b = some o → ((hp.push (PySem.W.kdv_tup us)).push (PySem.HandSPX.excO C hp.objs.size)).get? b = some o := fun b o e => by
    apply Heap.get?_push_of_some; apply Heap.get?_push_of_some; exact e
  have hget : ((hp.push (PySem.W.kdv_tup us)).push (PySem.HandSPX.excO C hp.objs.size)).get? (hp.objs.size + 1) = some (PySem.HandSPX.excO C hp.objs.size) := by heap_get
  have I2 := I1.laid (t' := tk) (a := hp.objs.size + 1) (o := exo (hp.objs.size + 1) C none) (h' := (hp.push (PySem.W.kdv_tup us)).push (PySem.HandSPX.excO C hp.objs.size)) kk sz (exo_ok hget)
  have r2 : Vals (V.ref (hp.objs.size + 1) :: vs) (Value.ref (hp.objs.size + 1) :: us) := .cons rfl r1
  have hl : (Value.ref (hp.objs.size + 1) :: us ++ []).length = ps.length := by
    have e := F1.len _ _ _ _ hq
    rw [List.append_nil, ← e]; exact r2.length.symm
  have hn : us.length ≤ sizeLine := by rw [← Paired.length r1, sizeLine_eq]; omega
  have b0 := hb _ (Value.ref (hp.objs.size + 1) :: us) I2.kIn hl
  rw [List.append_nil] at b0
  refine wpAny_call (xb_call FB ⟨(hT _).trans tl.b, (hT _).trans tl.a, (hT _).trans tl.n⟩ hC (PySem.W.looks_findIn I1.kIn iC) (fun self => PySem.W.bind_fn I1.kIn self tI) hn (codeAny_mono (F1.run _ X.stack _ _ ⟨Value.ref (hp.objs.size + 1) :: us, []⟩ (Value.ref (hp.objs.size + 1) :: us) _ _ (fun _ _ _ => False) (hr.make C us []) (I2.env0.make C us []) b0 r2 hq) fun r s' hq' => ?_))
  cases r with
  | error er => exact hx pins σ _ _ er s' I2 hq'
  | ok fl =>
    cases fl with
    | ret u =>
      obtain ⟨v, H2, os2, bare2, un2, hok2, rv, rfl, d, fs, ea, ed, hd1, q2⟩ := hq'
      obtain ⟨h2, g2, d2, t2, os'⟩ := s'
      exact ⟨rv, mk_end (raises_own T.sb T.ty) I1 sz kk un2 hok2 os2 bare2 ea ed hd1 q2⟩
    | next => exact False.elim hq'
    | brk => exact False.elim hq'
    | cont => exact False.elim hq'
end
/-! ### over data -/
/-- C's own __init__ fills the fields fs with what is handed in -/
def spXI (C : Addr) (fs : List Str) : Sp := fun vs H Q _ => ∃ a ws, vs = .ref a :: ws ∧ ws.length = fs.length ∧ H a = some (exo a C none) ∧ ∀ dx H', H dx = none → dx ≠ a → H' a = some (exo a C (some dx)) → H' dx = some (exd dx (fs.zip ws).reverse) → (∀ b, b ≠ a → b ≠ dx → H' b = H b) → Q .non H'
structure XI (Pg : Program) (w : World) (K : PySem.W.Frag) (mg : Str → Option Value) (base : Heap) (x : Str) (j : Nat) (C : Addr) (fs : List Str) : Prop where
  ex : ∃ f fd ps CF, Oxi K C CF ∧ mg x = some (.ref C) ∧ PySem.W.findIn K (.ref C) "__init__" = some (some (.ref f)) ∧ PySem.W.typeIn K (.ref f) = some (.type "function") ∧ Binds K fd ps [] ∧ FnOk Pg w K mg base (L2.CX Pg w) j f fd ps (spXI C fs)
theorem zip_rev {α β : Type} : ∀ {l : List α} {m : List β}, l.length = m.length → (l.zip m).reverse = l.reverse.zip m.reverse
  | [], [], _ => rfl
  | a :: l, b :: m, h => by
    rw [List.zip_cons_cons, List.reverse_cons, zip_rev (by simpa using h), List.reverse_cons, List.reverse_cons, List.zip_append (by simpa using h)]
    rfl
section
variable {X : Cx} {Γ Γ1 : Gm} {e : Ex} {es : List Ex} {p pos pos' : Pos} {ds : List D} {j k : Nat} {x : Str} {C : Addr} {fs : List Str}
theorem s1r_raiseX (G : XI X.prog X.w X.K X.mg X.base x j C fs) (g : Gd k X) (ha : AX X Γ (e :: es) ds Γ1) (hl : ds.length = fs.length) (hf : fs.length ≤ 5 := by decide) (hk : j + 1 ≤ k := by decide) (hg : Gl X x := by rfl) (hdb : (x == ("__debug__" : Str)) = false := by decide)
    (he : starEach (e :: es) X.env = (false, eval e X.env) :: starEach es X.env := by rfl) (hpl : (backTo pos (starEach es X.env)).any (·.1) = false := by rfl) : S1R X Γ (.Raise (some (.Call (.Name x p) (e :: es) [] pos)) none pos') ⟨C, fs.reverse, ds.reverse⟩ Γ1 := fun F σ H S D W R tk q => by
  obtain ⟨f, fd, ps, CF, T, hm, iC, tI, b, F1⟩ := G.ex
  refine ps_w1 (ps_raise g.calm tk (pmk_x T iC tI F1 (g.rm.mono hk) b passL hg hm wa_pa hdb he hpl)) (ha F σ H S _ R fun vs H1 S1 R1 s1 ok => ?_)
  have l1 : vs.length = fs.length := by rw [← ok.length]; exact hl
  refine ⟨by omega, fun a na => ⟨a, vs, rfl, l1, upd_same, fun dx H' n1 ne ea ed keep => ?_⟩⟩
  have nd : H1 dx = none := by rw [upd_ne ne] at n1; exact n1
  have hH : upd (del H' a) dx (.xd (fs.zip vs).reverse) = upd H1 dx (.xd (fs.zip vs).reverse) := funext fun b => by
    by_cases hb : b = dx
    · subst hb; rw [upd_same, upd_same]
    · rw [upd_ne hb, upd_ne hb]
      by_cases hc : b = a
      · subst hc; rw [del_same, na]
      · rw [del_ne hc, keep b hc hb, upd_ne hc]
  refine ⟨rfl, dx, _, ea, ed, nd, ?_⟩
  rw [hH]
  obtain ⟨R2, s2⟩ := RS.laid (o := .xd (fs.zip vs).reverse) R1 nd
  refine q σ _ _ (some dx) R2 (s1.trans s2) ⟨vs.reverse, ?_, by simp [l1], Reps.mono s2 _ _ ok.reverse⟩
  show upd S1 dx (.xd (fs.zip vs).reverse) dx = some (.xd (fs.reverse.zip vs.reverse))
  rw [upd_same, zip_rev l1.symm]
end
/-! ### such an __init__: one field, two fields -/
/-- how a call of an attribute of a name goes -/
def CallAt (env : Env) (y m : Str) (p1 p2 pos : Pos) (es : List Ex) : Prop := ∃ pl, eval (.Call (.Attribute (.Name y p1) m p2) es [] pos) env = (do
      let ov ← eval (.Name y p1) env
      standAt p2.atName
      let (f, first) ← holding [ov] (getMethod ov m pl)
      callWith pos f first (backTo pos (starEach es env)) (backToKw pos (keywordEach [] env)))
section
variable {Pg : Program} {w : World} {K : PySem.W.Frag} {mg : Str → Option Value} {base : Heap} {x y qual f f' z : Str} {C CF : Addr} {st : Stmt} {p1 p2 p3 p4 p5 p6 p7 p8 p9 p10 p11 p12 p13 p14 : Pos} {j : Nat}
theorem xi_one (Dd : Dm K C "__init__" qual st []) (Sc : FnScope ["self", f] ["self", f] (defScope st)) (bd : BindsM "__init__" qual st ["self", f]) (T : Oxi K C CF) (gC : mg x = some (.ref C)) (gF : mg y = some (.ref CF)) (hno : PySem.W.findIn K (.ref C) f = some none)
    (hb : defBody st = [.Expr (.Call (.Attribute (.Name y p1) "__init__" p2) [.Name "self" p3, .Constant (.str z) j p4] [] p5) p6, .Assign [.Attribute (.Name "self" p7) f p8] (.Name f p9) p10])
    (v0 : Vis (defScope st) "self") (v1 : Vis (defScope st) f) (hg : ∀ fI cd A outer s H E, Gl (cx Pg w K mg base ["self", f] qual (defScope st) fI cd A outer s H E) y ∧ CallAt (cx Pg w K mg base ["self", f] qual (defScope st) fI cd A outer s H E).env y "__init__" p1 p2 p5 [.Name "self" p3, .Constant (.str z) j p4]) (hy : (y == ("__debug__" : Str)) = false) (hd1 : (f == ("__debug__" : Str)) = false) (hd2 : (f == ("__classdict__" : Str)) = false) : XI Pg w K mg base x 1 C [f] := by
  obtain ⟨fI, fd, FD, M⟩ := Dd.ex
  refine ⟨fI, fd, ["self", f], CF, T, gC, M.at_, ?_, FD.bindsN bd, fd_ok FD Sc (fun vs H Q E h => ?_) (fun cd A outer s H vs Q E hr h => ?_)⟩
  · exact beq_iff_eq.mp M.fn
  · obtain ⟨a, ws, rfl, hl, _⟩ := h
    simpa using hl
  · obtain ⟨a, ws, rfl, hl, ha, q⟩ := h
    obtain ⟨v, rfl⟩ : ∃ v, ws = [v] := match ws, hl with | [v], _ => ⟨v, rfl⟩
    rw [hb]
    obtain ⟨g1, pl, g2⟩ := hg fI cd A outer s H E
    refine ⟨_, pss_cons (ps_expr (pe_xi T g1 gF hy (pa_cons (pe_var (i := 0) rfl v0) (pa_cons pe_str pa_nil)) g2)) (pss_one (ps_xs T hno (pe_var (i := 0) rfl v0) (pe_var (i := 1) rfl v1 hd1 hd2))), ?_⟩
    refine ⟨.ref a, rfl, a, [.str z], rfl, Nat.le_of_ble_eq_true rfl, ha, ?_⟩
    refine ⟨v, rfl, .ref a, rfl, a, rfl, .inl ⟨ha, fun dx n ne => ?_⟩⟩
    exact q dx _ n ne upd_same (by rw [upd_ne ne, upd_same]; rfl) fun b h1 h2 => by rw [upd_ne h1, upd_ne h2]
theorem xi_two (Dd : Dm K C "__init__" qual st []) (Sc : FnScope ["self", f, f'] ["self", f, f'] (defScope st)) (bd : BindsM "__init__" qual st ["self", f, f']) (T : Oxi K C CF) (gC : mg x = some (.ref C)) (gF : mg y = some (.ref CF)) (hno : PySem.W.findIn K (.ref C) f = some none) (hno' : PySem.W.findIn K (.ref C) f' = some none)
    (hb : defBody st = [.Expr (.Call (.Attribute (.Name y p1) "__init__" p2) [.Name "self" p3, .Constant (.str z) j p4] [] p5) p6, .Assign [.Attribute (.Name "self" p7) f p8] (.Name f p9) p10, .Assign [.Attribute (.Name "self" p11) f' p12] (.Name f' p13) p14])
    (v0 : Vis (defScope st) "self") (v1 : Vis (defScope st) f) (v2 : Vis (defScope st) f') (hg : ∀ fI cd A outer s H E, Gl (cx Pg w K mg base ["self", f, f'] qual (defScope st) fI cd A outer s H E) y ∧ CallAt (cx Pg w K mg base ["self", f, f'] qual (defScope st) fI cd A outer s H E).env y "__init__" p1 p2 p5 [.Name "self" p3, .Constant (.str z) j p4]) (hy : (y == ("__debug__" : Str)) = false)
    (hd1 : (f == ("__debug__" : Str)) = false) (hd2 : (f == ("__classdict__" : Str)) = false) (hd1' : (f' == ("__debug__" : Str)) = false) (hd2' : (f' == ("__classdict__" : Str)) = false) : XI Pg w K mg base x 1 C [f, f'] := by
  obtain ⟨fI, fd, FD, M⟩ := Dd.ex
  refine ⟨fI, fd, ["self", f, f'], CF, T, gC, M.at_, ?_, FD.bindsN bd, fd_ok FD Sc (fun vs H Q E h => ?_) (fun cd A outer s H vs Q E hr h => ?_)⟩
  · exact beq_iff_eq.mp M.fn
  · obtain ⟨a, ws, rfl, hl, _⟩ := h
    simpa using hl
  · obtain ⟨a, ws, rfl, hl, ha, q⟩ := h
    obtain ⟨v, v', rfl⟩ : ∃ v v', ws = [v, v'] := match ws, hl with | [v, v'], _ => ⟨v, v', rfl⟩
    rw [hb]
    obtain ⟨g1, pl, g2⟩ := hg fI cd A outer s H E
    refine ⟨_, pss_cons (ps_expr (pe_xi T g1 gF hy (pa_cons (pe_var (i := 0) rfl v0) (pa_cons pe_str pa_nil)) g2)) (pss_cons (ps_xs T hno (pe_var (i := 0) rfl v0) (pe_var (i := 1) rfl v1 hd1 hd2)) (pss_one (ps_xs T hno' (pe_var (i := 0) rfl v0) (pe_var (i := 2) rfl v2 hd1' hd2')))), ?_⟩
    refine ⟨.ref a, rfl, a, [.str z], rfl, Nat.le_of_ble_eq_true rfl, ha, ?_⟩
    refine ⟨v, rfl, .ref a, rfl, a, rfl, .inl ⟨ha, fun dx n ne => ?_⟩⟩
    refine ⟨v', rfl, .ref a, rfl, a, rfl, .inr ⟨dx, [(f, v)], upd_same, by rw [upd_ne ne, upd_same], Nat.le_of_ble_eq_true rfl, ?_⟩⟩
    exact q dx _ n ne (by rw [upd_ne (Ne.symm ne), upd_same]) (by rw [upd_same]; rfl) fun b h1 h2 => by rw [upd_ne h2, upd_ne h1, upd_ne h2]
end
end PL

set_option Elab.async false
set_option linter.all false
set_option maxRecDepth 100000
set_option maxHeartbeats 1000000
/-! what the head says of refusals with fields -/
namespace PL
open PySem PySem.Spec PyProof.Rows L2
theorem fm_ok (n : Nat) : ∃ (B i0 : String) (bm0 : List Value) (B1 : String), ExcBaseFacts B (fmNew n) i0 bm0 ∧ Tl (fmBm n) B ∧ Xin B1 (fmIni n) ∧ (fmBm n).contains (.type B1) = true ∧ StoreFacts B1 (fmBm n) "object.__setattr__" "object" := by
  rcases n with _ | _ | _ | _ | n
  · exact ⟨_, _, _, "ValueError", PySem.F.excBase_ValueError, ⟨by decide +kernel, by decide +kernel, by decide +kernel⟩, xin_of PySem.F.excBase_ValueError.toExcCallFacts (by decide +kernel), by decide +kernel, PySem.F.store_ValueError⟩
  · exact ⟨_, _, _, "IndexError", PySem.F.excBase_IndexError, ⟨by decide +kernel, by decide +kernel, by decide +kernel⟩, xin_of PySem.F.excBase_IndexError.toExcCallFacts (by decide +kernel), by decide +kernel, PySem.F.store_IndexError⟩
  · exact ⟨_, _, _, "KeyError", PySem.F.excBase_LookupError, ⟨by decide +kernel, by decide +kernel, by decide +kernel⟩, xin_key, by decide +kernel, xs_key⟩
  · exact ⟨_, _, _, "ZeroDivisionError", PySem.F.excBase_ZeroDivisionError, ⟨by decide +kernel, by decide +kernel, by decide +kernel⟩, xin_of PySem.F.excBase_ZeroDivisionError.toExcCallFacts (by decide +kernel), by decide +kernel, PySem.F.store_ZeroDivisionError⟩
  · have z : Tl (fmBm 4) "LookupError" := ⟨by decide +kernel, by decide +kernel, by decide +kernel⟩
    have y : PySem.W.handedIn (.builtin (fmIni 4)) = true := by decide +kernel
    exact ⟨_, _, _, "LookupError", PySem.F.excBase_LookupError, z, xin_of PySem.F.excBase_LookupError.toExcCallFacts y, z.b, PySem.F.store_LookupError⟩
theorem cfB_ok {a : Option PySem.W.CFound} {i : String} (h : cfB a i = true) : a = some (.val (.builtin i)) := by
  unfold cfB at h
  split at h
  · rw [of_decide_eq_true h]
  · cases h
/-- a class of refusals with fields -/
structure Oxk (K : PySem.W.Frag) (i : Nat) : Prop where
  o : Oxi K (kA K i) (He.ga K (fam (fm i)))
  n : ∀ f ∈ flds i, PySem.W.findIn K (.ref (kA K i)) f = some none
theorem oxiB_ok {K : PySem.W.Frag} {i : Nat} (h : oxiB K i = true) : Oxk K i := by
  obtain ⟨h1, h⟩ := He.ba h
  obtain ⟨h2, h⟩ := He.ba h
  obtain ⟨h3, h⟩ := He.ba h
  obtain ⟨h4, h⟩ := He.ba h
  obtain ⟨h5, h⟩ := He.ba h
  obtain ⟨h6, h⟩ := He.ba h
  obtain ⟨h7, h⟩ := He.ba h
  obtain ⟨h8, h⟩ := He.ba h
  obtain ⟨h9, h⟩ := He.ba h
  obtain ⟨ha, h⟩ := He.ba h
  obtain ⟨hb, hc⟩ := He.ba h
  obtain ⟨B, i0, bm0, B1, q1, q2, q3, q4, q5⟩ := fm_ok (fm i)
  exact ⟨⟨⟨B, _, i0, bm0, B1, _, _, q1, q2, q3, q4, q5, h1, h2, cfB_ok h3⟩, He.eqO_ok h4, h5, of_decide_eq_true h6, Option.some.inj (He.eqO_ok h7), h8, He.eqO_ok h9, Option.some.inj (He.eqO_ok ha), hb⟩, fun f hf => He.eqO_ok (List.all_eq_true.mp hc f hf)⟩
end PL

set_option Elab.async false
set_option linter.all false
set_option maxRecDepth 100000
set_option maxHeartbeats 1000000
namespace Hd
open PySem PySem.Spec PyProof.Rows L2 PL
section
variable {Pg : Program} {w : World} {K : PySem.W.Frag} {mg : Str → Option Value} {base : Heap}
def P_is_whole : List D → Rs → Prop := fun ds r => ∃ d, d.plain = true ∧ ds = [d] ∧ r = .sh (.bl (wholeB d))
theorem c_is_whole (Dd : Df K mg "is_whole" s_is_whole []) (T : Bt mg) : C0 Pg w K mg base "is_whole" 1 ["x"] P_is_whole := by
  refine c0_mk (k := 0) Dd sc_is_whole (fun _ _ _ _ _ _ us hl => match us, hl with | [_], _ => rfl) (by decide) (fun ds r => ?_) (fun f cd A outer s H E g ds r => ?_)
  · rintro ⟨d, hp, rfl, rfl⟩
    exact ⟨rfl, fun _ z => by cases z⟩
  · rintro ⟨d, hp, rfl, rfl⟩
    have h : ∃ Γ', Ends1 (cx Pg w K mg base N_is_whole "is_whole" (defScope s_is_whole) f cd A outer s H E) (ent N_is_whole [d]) (defBody s_is_whole) (.sh (.bl (isInt d && !isBool d))) Γ' :=
      ends_rt (s_one (s1_ret (e_and (e_callB (c_isInt hp) T.isinstance b_isinstance (a_cons (e_var 0) (a_cons (e_ty T.int b_int) a_nil))) fun _ => e_one (e_not (e_callB (c_isBool hp) T.isinstance b_isinstance (a_cons (e_var 0) (a_cons (e_ty T.bool b_bool) a_nil)))))))
    have e : (isInt d && !isBool d) = wholeB d := by cases d <;> first | rfl | cases hp
    rw [e] at h
    exact h
def P_is_between : List D → Rs → Prop := fun ds r => ∃ d lo hi, d.plain = true ∧ ds = [d, .int lo, .int hi] ∧ r = .sh (.bl (match d with | .int i => decide (lo ≤ i) && decide (i ≤ hi) | _ => false))
theorem c_is_between (Dd : Df K mg "is_between" s_is_between []) (G_is_whole : C0 Pg w K mg base "is_whole" 1 ["x"] P_is_whole) : C0 Pg w K mg base "is_between" 2 ["x", "low", "high"] P_is_between := by
  refine c0_mk (k := 1) Dd sc_is_between (fun _ _ _ _ _ _ us hl => match us, hl with | [_, _, _], _ => rfl) (by decide) (fun ds r => ?_) (fun f cd A outer s H E g ds r => ?_)
  · rintro ⟨d, lo, hi, hp, rfl, rfl⟩
    exact ⟨rfl, fun _ z => by cases z⟩
  · rintro ⟨d, lo, hi, hp, rfl, rfl⟩
    cases d with
    | int i => exact ends_rt (s_one (s1_ret (e_andT (e_c0 G_is_whole g (a_cons (e_var 0) a_nil) ⟨_, hp, rfl, rfl⟩) (e_one (e_chainI (e_var 1) (e_var 0) (e_var 2))))))
    | obj _ _ _ => cases hp
    | raw _ => cases hp
    | ext _ => cases hp
    | exc _ _ _ => cases hp
    | fls _ => cases hp
    | _ => exact ends_rt (s_one (s1_ret (e_andF (e_c0 G_is_whole g (a_cons (e_var 0) a_nil) ⟨_, hp, rfl, rfl⟩))))
def P_is_word : List D → Rs → Prop := fun ds r => ∃ d most, Pl d ∧ ds = [d, .int most] ∧ r = .sh (.bl (wordD most d))
theorem c_allR {X : Cx} {n : Nat} {b : Nat → Bool} (hc : X.calm = true) : CallS X (.builtin "all") [.lst ((List.range n).map fun j => .bl (b j))] (.sh (.bl ((List.range n).all b))) := by
  have h := c_all (X := X) (ns := (List.range n).map b) hc
  rw [List.map_map] at h
  rw [show ((List.range n).map b).all id = (List.range n).all b by rw [List.all_map]; rfl] at h
  exact h
theorem c_is_word (Dd : Df K mg "is_word" s_is_word []) (T : Bt mg) (G_L : ∃ t, mg "LETTERS" = some (.str letters t)) : C0 Pg w K mg base "is_word" 1 ["thing", "most"] P_is_word := by
  obtain ⟨tL, gL⟩ := G_L
  refine c0_mk (k := 0) Dd sc_is_word (fun _ _ _ _ _ _ us hl => match us, hl with | [_, _], _ => rfl) (by decide) (fun ds r => ?_) (fun f cd A outer s H E g ds r => ?_)
  · rintro ⟨d, most, hp, rfl, rfl⟩
    exact ⟨rfl, fun _ z => by cases z⟩
  · rintro ⟨d, most, hp, rfl, rfl⟩
    cases d with
    | str x =>
      refine ends_eq (ends_rt (s_one (s1_ret (e_andT (e_callB (c_isStr rfl) T.isinstance b_isinstance (a_cons (e_var 0) (a_cons (e_ty T.str b_str) a_nil)))
        (e_and (e_chainI e_int (e_callB (c_lenS hp) T.len b_len (a_cons (e_var 0) a_nil)) (e_var 1)) fun _ => e_one
          (e_callB (c_allR g.calm) T.all b_all (a_cons (e_frz (e_lc1 2 (fun j => .bl (decide (x.cps.getD j 0 ∈ letters.cps.toList))) g (it_str (e_var 0)) hp (blkOk_by (N := N_is_word) (sc := defScope s_is_word) (by decide +kernel)) rfl
            (fun j hj s1 H1 C cl fp => e_cmp o_inSign (e_var 2) (e_globS gL)))) a_nil))))))) ?_
      rfl
    | obj _ _ _ => cases hp
    | raw _ => cases hp
    | ext _ => cases hp
    | exc _ _ _ => cases hp
    | fls _ => cases hp
    | _ => exact ends_rt (s_one (s1_ret (e_andF (e_callB (c_isStr rfl) T.isinstance b_isinstance (a_cons (e_var 0) (a_cons (e_ty T.str b_str) a_nil))))))
def P_is_shade : List D → Rs → Prop := fun ds r => ∃ d, Pl d ∧ ds = [d] ∧ r = .sh (.bl (shadeD d))
theorem c_is_shade (Dd : Df K mg "is_shade" s_is_shade []) (G_is_word : C0 Pg w K mg base "is_word" 1 ["thing", "most"] P_is_word) : C0 Pg w K mg base "is_shade" 2 ["thing"] P_is_shade := by
  refine c0_mk (k := 1) Dd sc_is_shade (fun _ _ _ _ _ _ us hl => match us, hl with | [_], _ => rfl) (by decide) (fun ds r => ?_) (fun f cd A outer s H E g ds r => ?_)
  · rintro ⟨d, hp, rfl, rfl⟩
    exact ⟨rfl, fun _ z => by cases z⟩
  · rintro ⟨d, hp, rfl, rfl⟩
    exact ends_rt (s_one (s1_ret (e_c0 G_is_word g (a_cons (e_var 0) (a_cons e_int a_nil)) ⟨_, _, hp, rfl, rfl⟩)))
def P_is_stripe : List D → Rs → Prop := fun ds r => ∃ p, okStripe p ∧ ds = [dP p] ∧ r = .sh (.bl true)
theorem c_is_stripe (Dd : Df K mg "is_stripe" s_is_stripe []) (T : Bt mg) (G_is_shade : C0 Pg w K mg base "is_shade" 2 ["thing"] P_is_shade) (G_is_whole : C0 Pg w K mg base "is_whole" 1 ["x"] P_is_whole) : C0 Pg w K mg base "is_stripe" 3 ["thing"] P_is_stripe := by
  refine c0_mk (k := 2) Dd sc_is_stripe (fun _ _ _ _ _ _ us hl => match us, hl with | [_], _ => rfl) (by decide) (fun ds r => ?_) (fun f cd A outer s H E g ds r => ?_)
  · rintro ⟨p, hp, rfl, rfl⟩
    exact ⟨rfl, fun _ z => by cases z⟩
  · rintro ⟨p, hp, rfl, rfl⟩
    refine ends_eq (ends_rt (s_ifN (t_eq (t_w (w_or (t_not (t_val (e_callB (c_isTup rfl) T.isinstance b_isinstance (a_cons (e_var 0) (a_cons (e_ty T.tuple b_tuple) a_nil))))) fun h => (w_or1 (t_cmp o_neI (e_callB c_lenT T.len b_len (a_cons (e_var 0) a_nil)) e_int)))) rfl)
      (s_one (s1_ret (e_and (e_c0 G_is_shade g (a_cons (e_ix (e_var 0) e_int (i_tup (d := .str p.1) rfl)) a_nil) ⟨_, shade_pl hp.1, rfl, rfl⟩) fun h => (e_and (e_c0 G_is_whole g (a_cons (e_ix (e_var 0) e_int (i_tup (d := .int p.2) rfl)) a_nil) ⟨_, rfl, rfl, rfl⟩) fun h => (e_one (e_cmp o_gt (e_ix (e_var 0) e_int (i_tup (d := .int p.2) rfl)) e_int)))))))) ?_
    have h1 : shadeD (.str p.1) = true := hp.1
    rw [h1, decide_eq_true hp.2]
    rfl
def P_check_stripes : List D → Rs → Prop := fun ds r => ∃ ps, OkSt ps ∧ ds = [dS ps] ∧ r = .sh .non
theorem c_check_stripes (Dd : Df K mg "check_stripes" s_check_stripes []) (T : Bt mg) (G_M : ∃ t, mg "MOST" = some (.int 240 t)) (G_is_stripe : C0 Pg w K mg base "is_stripe" 3 ["thing"] P_is_stripe) : C0 Pg w K mg base "check_stripes" 4 ["thing"] P_check_stripes := by
  obtain ⟨tM, gM⟩ := G_M
  refine c0_mk (k := 3) Dd sc_check_stripes (fun _ _ _ _ _ _ us hl => match us, hl with | [_], _ => rfl) (by decide) (fun ds r => ?_) (fun f cd A outer s H E g ds r => ?_)
  · rintro ⟨ps, hp, rfl, rfl⟩
    exact ⟨rfl, fun _ z => by cases z⟩
  · rintro ⟨ps, hp, rfl, rfl⟩
    have hpos : ∀ p ∈ ps, 0 < p.2 := fun p h => (hp.ok p h).2
    refine ends_nx (s_ifN (t_eq (t_w (w_or (t_not (t_val (e_callB (c_isTup rfl) T.isinstance b_isinstance (a_cons (e_var 0) (a_cons (e_ty T.tuple b_tuple) a_nil))))) fun h => (w_or1 (t_cmp (o_eqT0 g.rm.units (cmp_dS fun p h => shade_ok (hp.ok p h).1)) (e_var 0) (e_tup a_nil))))) ?_)
      (s_cons (s1_set 1 g.nd e_int) (s_cons (s1_for g (it_enumT T.enumerate (a_cons (e_var 0) a_nil)) (fun j => [.sh (dS ps), .sh (.int (tot (ps.take j))), .un, .un]) (fun j => [.sh (dS ps), .sh (.int (tot (ps.take j))), .sh (.int (j : Nat)), .sh (itd (ps.map dP) j)]) .refl
        (fun j hj => g_tup g.calm (gs_cons (g_name 2 g.nd) (gs_cons (g_name 3 g.nd) gs_nil))) (fun j hj => .inl ?_)) s_nil)))
    · have : ps.isEmpty = false := by cases ps with | nil => exact absurd rfl hp.ne | cons x r => rfl
      show (!true || (ps.map dP).isEmpty) = false
      rw [List.isEmpty_map, this]; rfl
    · have hj' : j < ps.length := by simpa using hj
      rw [itd_map dP ps j hj']
      have ok := hp.ok _ (List.getElem_mem hj')
      have le := Int.le_trans (tot_take hpos (j + 1)) hp.le
      rw [tot_succ hj'] at le
      refine s_wk (s_ifN (t_eq (t_not (t_val (e_c0 G_is_stripe g (a_cons (e_var 3) a_nil) ⟨_, ok, rfl, rfl⟩))) rfl) (s_cons (s1_aug 1 g.nd ip_addI rfl (e_ix (e_var 3) e_int (i_tup (d := .int ps[j].2) rfl))) (s_ifN (t_eq (t_cmp o_gt (e_var 1) (e_globI gM)) (decide_eq_false (by omega))) s_nil))) ?_
      rw [tot_succ hj']
      exact Wk.cv ⟨rfl, fun i s e => by
        match i, e with
        | 0, e => exact .inr e
        | 1, e => exact .inr e
        | 2, e => cases e; exact .inl rfl
        | 3, e => cases e; exact .inl rfl⟩
end
end Hd

set_option Elab.async false
set_option linter.all false
/-! periods of rounds, mirrors of rounds: plain lists -/
namespace PL
open PySem
def cyc (ts : List Str) (i : Int) : Str := ts.getD (i % (ts.length : Int)).toNat default
def Per (c : Int → Str) (k : Int) : Prop := ∀ i, c (i + k) = c i
section
variable {c : Int → Str} {a b : Int}
theorem Per.add (h : Per c a) (g : Per c b) : Per c (a + b) := fun i => by rw [← Int.add_assoc, g, h]
theorem Per.neg (h : Per c a) : Per c (-a) := fun i => by
  have z := h (i + -a)
  rw [show i + -a + a = i by omega] at z
  exact z.symm
theorem Per.zero : Per c 0 := fun i => by rw [Int.add_zero]
theorem Per.mulN (h : Per c a) : ∀ n : Nat, Per c (a * (n : Int))
  | 0 => by rw [show a * ((0 : Nat) : Int) = 0 from Int.mul_zero a]; exact .zero
  | n + 1 => by
    rw [show a * ((n + 1 : Nat) : Int) = a * (n : Int) + a by rw [Int.natCast_succ, Int.mul_add, Int.mul_one]]
    exact (h.mulN n).add h
theorem Per.mul (h : Per c a) (z : Int) : Per c (a * z) := by
  rcases Int.le_total 0 z with hz | hz
  · have e : z = ((z.toNat : Nat) : Int) := by omega
    rw [e]; exact h.mulN _
  · have e : a * z = -(a * (((-z).toNat : Nat) : Int)) := by
      rw [show (((-z).toNat : Nat) : Int) = -z by omega, Int.mul_neg, Int.neg_neg]
    rw [e]; exact (h.mulN _).neg
theorem Per.mod (h : Per c a) (g : Per c b) : Per c (b % a) := by
  rw [Int.emod_def, Int.sub_eq_add_neg]
  exact g.add (h.mul _).neg
theorem Per.gcd : ∀ m n : Nat, Per c (m : Int) → Per c (n : Int) → Per c ((Nat.gcd m n : Nat) : Int) := by
  intro m n
  induction m, n using Nat.gcd.induction with
  | H0 n => intro _ h; rw [Nat.gcd_zero_left]; exact h
  | H1 m n hm ih =>
    intro h1 h2
    rw [Nat.gcd_rec]
    refine ih ?_ h1
    rw [Int.natCast_emod]
    exact h1.mod h2
end
section
variable {ts : List Str}
theorem cyc_per : Per (cyc ts) ts.length := fun i => by unfold cyc; rw [Int.add_emod_right]
theorem cyc_nat {j : Nat} (h : j < ts.length) : cyc ts (j : Int) = ts.getD j default := by
  unfold cyc
  rw [Int.emod_eq_of_lt (by omega) (by omega)]
  rfl
theorem cyc_mod (i : Int) : cyc ts (i % (ts.length : Int)) = cyc ts i := by unfold cyc; rw [Int.emod_emod]
theorem ext_getD {xs ys : List Str} (hl : xs.length = ys.length) (h : ∀ j, j < xs.length → xs.getD j default = ys.getD j default) : xs = ys := by
  apply List.ext_getElem hl
  intro i h1 h2
  have z := h i h1
  rw [List.getD_eq_getElem?_getD, List.getElem?_eq_getElem h1, List.getD_eq_getElem?_getD, List.getElem?_eq_getElem h2] at z
  exact z
theorem ext_cyc {xs ys : List Str} (hl : xs.length = ys.length) (h : ∀ i, cyc xs i = cyc ys i) : xs = ys := ext_getD hl fun j hj => by
  rw [← cyc_nat hj, ← cyc_nat (by omega : j < ys.length)]
  exact h _
theorem getD_drop (k j : Nat) : (ts.drop k).getD j default = ts.getD (k + j) default := by
  rw [List.getD_eq_getElem?_getD, List.getElem?_drop, ← List.getD_eq_getElem?_getD]
theorem getD_take {k j : Nat} (h : j < k) : (ts.take k).getD j default = ts.getD j default := by
  rw [List.getD_eq_getElem?_getD, List.getElem?_take, if_pos h, ← List.getD_eq_getElem?_getD]
theorem per_root {k : Nat} (hk : 0 < k) (h : ∀ j, j + k < ts.length → ts.getD (j + k) default = ts.getD j default) : ∀ j, j < ts.length → ts.getD j default = ts.getD (j % k) default := by
  intro j
  induction j using Nat.strongRecOn with
  | ind j ih =>
    intro hj
    by_cases hlt : j < k
    · rw [Nat.mod_eq_of_lt hlt]
    · have e := h (j - k) (by omega)
      rw [show j - k + k = j by omega] at e
      rw [e, ih (j - k) (by omega) (by omega)]
      congr 1
      rw [Nat.mod_eq_sub_mod (by omega : j ≥ k)]
theorem perAt_iff {k : Nat} (hk : 0 < k) (hn : 0 < ts.length) : perAt ts k = true ↔ ts.length % k = 0 ∧ Per (cyc ts) (k : Int) := by
  unfold perAt
  rw [Bool.and_eq_true, decide_eq_true_iff, decide_eq_true_iff]
  refine and_congr_right fun hd => ⟨fun h i => ?_, fun h => ?_⟩
  · have key : ∀ j, j + k < ts.length → ts.getD (j + k) default = ts.getD j default := fun j hj => by
      have z := congrArg (fun l => l.getD j default) h
      rw [getD_drop, getD_take (by omega)] at z
      rw [Nat.add_comm]; exact z
    have root := per_root hk key
    rw [← cyc_mod (i + k), ← cyc_mod i]
    have a1 := Int.emod_nonneg (i + k) (b := (ts.length : Int)) (by omega)
    have a2 := Int.emod_lt_of_pos (i + k) (b := (ts.length : Int)) (by omega)
    have b1 := Int.emod_nonneg i (b := (ts.length : Int)) (by omega)
    have b2 := Int.emod_lt_of_pos i (b := (ts.length : Int)) (by omega)
    have e1 : (i + k) % (ts.length : Int) = ((((i + k) % (ts.length : Int)).toNat : Nat) : Int) := by omega
    have e2 : i % (ts.length : Int) = (((i % (ts.length : Int)).toNat : Nat) : Int) := by omega
    rw [e1, e2, cyc_nat (by omega), cyc_nat (by omega), root _ (by omega), root (i % (ts.length : Int)).toNat (by omega)]
    congr 1
    have hdv : (k : Int) ∣ (ts.length : Int) := Int.natCast_dvd_natCast.mpr (Nat.dvd_of_mod_eq_zero hd)
    have m1 : (i + k) % (ts.length : Int) % (k : Int) = i % (ts.length : Int) % (k : Int) := by
      rw [Int.emod_emod_of_dvd _ hdv, Int.emod_emod_of_dvd _ hdv, Int.add_emod_right]
    have m2 : ((((i + k) % (ts.length : Int)).toNat % k : Nat) : Int) = (((i % (ts.length : Int)).toNat % k : Nat) : Int) := by
      rw [Int.natCast_emod, Int.natCast_emod, ← e1, ← e2, m1]
    exact Int.ofNat_inj.mp m2
  · refine ext_getD (by rw [List.length_drop, List.length_take]; omega) fun j hj => ?_
    rw [List.length_drop] at hj
    rw [getD_drop, getD_take (by omega), ← cyc_nat (by omega), ← cyc_nat (by omega : j < ts.length), Int.natCast_add, Int.add_comm]
    exact h _
theorem lr_spec (hn : 0 < ts.length) : ts.length % lr ts = 0 ∧ Per (cyc ts) (lr ts) ∧ ∀ k, 0 < k → k < lr ts → ts.length % k = 0 → ¬ Per (cyc ts) (k : Int) := by
  unfold lr
  rcases first_or (n := ts.length - 1) fun i => perAt ts (i + 1) with ⟨m, hm, h1, h2⟩ | h2
  · rw [find_first hm h1 h2]
    have z := (perAt_iff (Nat.succ_pos m) hn).mp h1
    refine ⟨z.1, z.2, fun k hk hlt hd hp => ?_⟩
    have hlt' : k < m + 1 := hlt
    have w := h2 (k - 1) (by omega)
    rw [show k - 1 + 1 = k by omega, (perAt_iff hk hn).mpr ⟨hd, hp⟩] at w
    cases w
  · rw [find_none' h2]
    refine ⟨Nat.mod_self _, cyc_per, fun k hk hlt hd hp => ?_⟩
    have hlt' : k < ts.length := hlt
    have w := h2 (k - 1) (by omega)
    rw [show k - 1 + 1 = k by omega, (perAt_iff hk hn).mpr ⟨hd, hp⟩] at w
    cases w
theorem per_iff (hn : 0 < ts.length) (k : Int) : Per (cyc ts) k ↔ (lr ts : Int) ∣ k := by
  obtain ⟨h1, h2, h3⟩ := lr_spec hn
  refine ⟨fun h => ?_, fun ⟨z, e⟩ => by rw [e]; exact h2.mul z⟩
  have hL := lr_pos hn
  have r := h2.mod h
  have r1 := Int.emod_nonneg k (b := (lr ts : Int)) (by omega)
  have r2 := Int.emod_lt_of_pos k (b := (lr ts : Int)) (by omega)
  by_cases hz : k % (lr ts : Int) = 0
  · exact Int.dvd_of_emod_eq_zero hz
  · exfalso
    have e : k % (lr ts : Int) = (((k % (lr ts : Int)).toNat : Nat) : Int) := by omega
    generalize (k % (lr ts : Int)).toNat = m at e
    rw [e] at r r1 r2 hz
    have hm : 0 < m := by omega
    have g := r.gcd m ts.length cyc_per
    have gle : Nat.gcd m ts.length ≤ m := Nat.gcd_le_left _ hm
    have gpos : 0 < Nat.gcd m ts.length := Nat.gcd_pos_of_pos_left _ hm
    exact h3 _ gpos (by omega) (Nat.mod_eq_zero_of_dvd (Nat.gcd_dvd_right _ _)) g
theorem lr_congr {xs ys : List Str} (hx : 0 < xs.length) (hy : 0 < ys.length) (h : ∀ k, Per (cyc xs) k ↔ Per (cyc ys) k) : lr xs = lr ys := by
  apply Nat.dvd_antisymm
  · apply Int.natCast_dvd_natCast.mp
    rw [← per_iff hx, h, per_iff hy]
    exact Int.dvd_refl _
  · apply Int.natCast_dvd_natCast.mp
    rw [← per_iff hy, ← h, per_iff hx]
    exact Int.dvd_refl _
end
/-! ### turning a round on -/
theorem spin_len (wd : List Str) (n : Nat) (st : Int) : (spin wd n st).length = n := by unfold spin; rw [List.length_map, List.length_range]
theorem spin_getD {wd : List Str} {n : Nat} {st : Int} {j : Nat} (h : j < n) : (spin wd n st).getD j default = wd.getD (((j : Int) + st) % (n : Int)).toNat default := by
  unfold spin
  rw [List.getD_eq_getElem?_getD, List.getElem?_map, List.getElem?_range h]
  rfl
theorem cyc_spin {wd : List Str} {n : Nat} {st : Int} (hn : 0 < n) (hle : n ≤ wd.length) (hp : Per (cyc wd) n) (i : Int) : cyc (spin wd n st) i = cyc wd (i + st) := by
  have a1 := Int.emod_nonneg i (b := (n : Int)) (by omega)
  have a2 := Int.emod_lt_of_pos i (b := (n : Int)) (by omega)
  unfold cyc
  rw [spin_len, spin_getD (by omega)]
  rw [show (((i % (n : Int)).toNat : Nat) : Int) = i % (n : Int) by omega]
  have b1 := Int.emod_nonneg (i % (n : Int) + st) (b := (n : Int)) (by omega)
  have b2 := Int.emod_lt_of_pos (i % (n : Int) + st) (b := (n : Int)) (by omega)
  have e : (i % (n : Int) + st) % (n : Int) = ((((i % (n : Int) + st) % (n : Int)).toNat : Nat) : Int) := by omega
  rw [← cyc_nat (ts := wd) (by omega), ← e, Int.emod_add_emod]
  show _ = cyc wd (i + st)
  rw [Int.emod_def, Int.sub_eq_add_neg]
  exact (hp.mul _).neg _
def Prim (ts : List Str) : Prop := 0 < ts.length ∧ lr ts = ts.length
theorem per_shift {c c' : Int → Str} {st : Int} (h : ∀ i, c' i = c (i + st)) (k : Int) : Per c' k ↔ Per c k := by
  refine ⟨fun p i => ?_, fun p i => ?_⟩
  · have z := p (i - st)
    rw [h, h, show i - st + k + st = i + k by omega, show i - st + st = i by omega] at z
    exact z
  · rw [h, h, show i + k + st = i + st + k by omega]
    exact p _
theorem per_turn {c c' : Int → Str} (h : ∀ i, c' i = c (-i)) (k : Int) : Per c' k ↔ Per c k := by
  refine ⟨fun p i => ?_, fun p i => ?_⟩
  · have z := p.neg (-i)
    rw [h, h, show -(-i + -k) = i + k by omega, Int.neg_neg] at z
    exact z
  · rw [h, h, show -(i + k) = -i + -k by omega]
    exact p.neg _
theorem spin_prim {wd : List Str} (hw : 0 < wd.length) (st : Int) : Prim (spin wd (lr wd) st) := by
  have hp := lr_pos hw
  have hs := lr_spec hw
  refine ⟨by rw [spin_len]; exact hp, ?_⟩
  rw [spin_len]
  exact lr_congr (by rw [spin_len]; exact hp) hw (per_shift (cyc_spin hp (lr_le _) hs.2.1))
theorem spin_take {wd : List Str} (hw : 0 < wd.length) : spin wd (lr wd) 0 = wd.take (lr wd) := by
  have hle := lr_le wd
  refine ext_getD (by rw [spin_len, List.length_take]; omega) fun j hj => ?_
  rw [spin_len] at hj
  rw [spin_getD hj, getD_take hj, Int.add_zero, Int.emod_eq_of_lt (by omega) (by omega)]
  rfl
theorem take_prim {wd : List Str} (hw : 0 < wd.length) : Prim (wd.take (lr wd)) := by rw [← spin_take hw]; exact spin_prim hw 0
/-! ### mirrors -/
def mirW (ts : List Str) (a : Nat) : List Str := (ts.take (a + 1)).reverse ++ (ts.drop (a + 1)).reverse
def mirAt (ts : List Str) (a : Nat) : Bool := decide (ts = mirW ts a)
def mir (ts : List Str) : Option Nat := (List.range ts.length).find? (mirAt ts)
def MirF (c : Int → Str) (a : Int) : Prop := ∀ i, c i = c (a - i)
theorem mirW_len (ts : List Str) (a : Nat) : (mirW ts a).length = ts.length := by
  unfold mirW
  rw [List.length_append, List.length_reverse, List.length_reverse, List.length_take, List.length_drop]; omega
theorem getD_rev (xs : List Str) {j : Nat} (h : j < xs.length) : xs.reverse.getD j default = xs.getD (xs.length - 1 - j) default := by
  rw [List.getD_eq_getElem?_getD, List.getElem?_reverse h, ← List.getD_eq_getElem?_getD]
theorem mirW_getD {ts : List Str} {a j : Nat} (ha : a < ts.length) (hj : j < ts.length) : (mirW ts a).getD j default = cyc ts ((a : Int) - (j : Int)) := by
  have hl : (ts.take (a + 1)).reverse.length = a + 1 := by rw [List.length_reverse, List.length_take]; omega
  unfold mirW
  rw [List.getD_eq_getElem?_getD]
  by_cases hja : j ≤ a
  · rw [List.getElem?_append_left (by omega), ← List.getD_eq_getElem?_getD, getD_rev _ (by rw [List.length_take]; omega), List.length_take, getD_take (by omega), ← cyc_nat (by omega)]
    congr 1
    omega
  · rw [List.getElem?_append_right (by omega), ← List.getD_eq_getElem?_getD, hl, getD_rev _ (by rw [List.length_drop]; omega), List.length_drop, getD_drop, ← cyc_nat (by omega), ← cyc_per ((a : Int) - (j : Int))]
    congr 1
    omega
theorem mirAt_iff {ts : List Str} {a : Nat} (ha : a < ts.length) : mirAt ts a = true ↔ MirF (cyc ts) (a : Int) := by
  unfold mirAt
  rw [decide_eq_true_iff]
  refine ⟨fun h i => ?_, fun h => ?_⟩
  · have b1 := Int.emod_nonneg i (b := (ts.length : Int)) (by omega)
    have b2 := Int.emod_lt_of_pos i (b := (ts.length : Int)) (by omega)
    have e : i % (ts.length : Int) = (((i % (ts.length : Int)).toNat : Nat) : Int) := by omega
    have z := congrArg (fun l => l.getD (i % (ts.length : Int)).toNat default) h
    rw [mirW_getD ha (by omega), ← e] at z
    show ts.getD (i % (ts.length : Int)).toNat default = _
    rw [z, Int.emod_def, show (a : Int) - (i - (ts.length : Int) * (i / (ts.length : Int))) = (a - i) + (ts.length : Int) * (i / (ts.length : Int)) by omega]
    exact cyc_per.mul _ _
  · refine ext_getD (mirW_len ts a).symm fun j hj => ?_
    rw [mirW_getD ha hj, ← cyc_nat hj]
    exact h _
theorem mir_uniq {ts : List Str} (hp : Prim ts) {a b : Int} (ha : MirF (cyc ts) a) (hb : MirF (cyc ts) b) : (ts.length : Int) ∣ a - b := by
  rw [← hp.2, ← per_iff hp.1]
  intro i
  rw [ha (i + (a - b)), show a - (i + (a - b)) = b - i by omega]
  exact (hb i).symm
theorem mir_some {ts : List Str} (hp : Prim ts) {a : Nat} (ha : a < ts.length) (h : MirF (cyc ts) (a : Int)) : mir ts = some a := by
  refine find_first ha ((mirAt_iff ha).mpr h) fun j hj => ?_
  cases e : mirAt ts j with
  | false => rfl
  | true =>
    have z := mir_uniq hp h ((mirAt_iff (by omega)).mp e)
    obtain ⟨q, hq⟩ := z
    exfalso
    have : 0 < q := by
      rcases Int.lt_or_le 0 q with hq0 | hq0
      · exact hq0
      · have := Int.mul_le_mul_of_nonneg_left hq0 (by omega : (0 : Int) ≤ (ts.length : Int))
        omega
    have := Int.mul_le_mul_of_nonneg_left (by omega : (1 : Int) ≤ q) (by omega : (0 : Int) ≤ (ts.length : Int))
    omega
theorem mir_none {ts : List Str} (h : ∀ a, ¬ MirF (cyc ts) a) : mir ts = none := find_none' fun j hj => by
  cases e : mirAt ts j with
  | false => rfl
  | true => exact (h _ ((mirAt_iff hj).mp e)).elim
theorem mir_get {ts : List Str} {a : Nat} (h : mir ts = some a) : a < ts.length ∧ MirF (cyc ts) (a : Int) := by
  have h1 := List.mem_range.mp (List.mem_of_find?_eq_some h)
  have h2 := List.find?_some h
  exact ⟨h1, (mirAt_iff h1).mp h2⟩
theorem mirF_per {c : Int → Str} {a k : Int} (h : MirF c a) (p : Per c k) : MirF c (a + k) := fun i => by
  rw [show a + k - i = (a - i) + k by omega, p]
  exact h i
theorem mir_has {ts : List Str} (hn : 0 < ts.length) {a : Int} (h : MirF (cyc ts) a) : mir ts ≠ none := by
  intro e
  have b1 := Int.emod_nonneg a (b := (ts.length : Int)) (by omega)
  have b2 := Int.emod_lt_of_pos a (b := (ts.length : Int)) (by omega)
  have z : MirF (cyc ts) (a % (ts.length : Int)) := by
    rw [Int.emod_def, Int.sub_eq_add_neg]
    exact mirF_per h (cyc_per.mul _).neg
  have w := List.find?_eq_none.mp e (a % (ts.length : Int)).toNat (List.mem_range.mpr (by omega))
  apply w
  rw [mirAt_iff (by omega), show (((a % (ts.length : Int)).toNat : Nat) : Int) = a % (ts.length : Int) by omega]
  exact z
theorem mir_tr {ts us : List Str} (hu : Prim us) (hl : us.length = ts.length) (g : Int → Int) (h1 : ∀ a, MirF (cyc ts) a → MirF (cyc us) (g a)) (h2 : ∀ b, MirF (cyc us) b → ∃ a, MirF (cyc ts) a) : mir us = (mir ts).map fun (a : Nat) => (g (a : Int) % (ts.length : Int)).toNat := by
  cases e : mir ts with
  | none =>
    refine mir_none fun b hb => ?_
    obtain ⟨a, ha⟩ := h2 b hb
    exact mir_has (by rw [← hl]; exact hu.1) ha e
  | some a =>
    obtain ⟨q1, q2⟩ := mir_get e
    have b1 := Int.emod_nonneg (g a) (b := (ts.length : Int)) (by omega)
    have b2 := Int.emod_lt_of_pos (g a) (b := (ts.length : Int)) (by omega)
    show mir us = some (g (a : Int) % (ts.length : Int)).toNat
    refine mir_some hu (by omega) ?_
    rw [show (((g a % (ts.length : Int)).toNat : Nat) : Int) = g a % (ts.length : Int) by omega, Int.emod_def, Int.sub_eq_add_neg, ← hl]
    exact mirF_per (h1 _ q2) (cyc_per.mul _).neg
/-- moved by -/
def movL (ts : List Str) (by_ : Int) : List Str := (List.range ts.length).map fun (j : Nat) => cyc ts ((j : Int) - by_)
def turL (ts : List Str) : List Str := (List.range ts.length).map fun (j : Nat) => cyc ts (0 - (j : Int))
theorem map_getD {n j : Nat} {f : Nat → Str} (h : j < n) : ((List.range n).map f).getD j default = f j := by
  rw [List.getD_eq_getElem?_getD, List.getElem?_map, List.getElem?_range h]
  rfl
theorem movL_len (ts : List Str) (b : Int) : (movL ts b).length = ts.length := by unfold movL; rw [List.length_map, List.length_range]
theorem turL_len (ts : List Str) : (turL ts).length = ts.length := by unfold turL; rw [List.length_map, List.length_range]
theorem movL_cyc {ts : List Str} (hn : 0 < ts.length) (b i : Int) : cyc (movL ts b) i = cyc ts (i + -b) := by
  have b1 := Int.emod_nonneg i (b := (ts.length : Int)) (by omega)
  have b2 := Int.emod_lt_of_pos i (b := (ts.length : Int)) (by omega)
  have e : cyc (movL ts b) i = (movL ts b).getD (i % (ts.length : Int)).toNat default := by unfold cyc; rw [movL_len]
  rw [e]
  unfold movL
  rw [map_getD (by omega), show (((i % (ts.length : Int)).toNat : Nat) : Int) = i % (ts.length : Int) by omega, Int.emod_def, show i - (ts.length : Int) * (i / (ts.length : Int)) - b = (i + -b) + -((ts.length : Int) * (i / (ts.length : Int))) by omega]
  exact (cyc_per.mul _).neg _
theorem turL_cyc {ts : List Str} (hn : 0 < ts.length) (i : Int) : cyc (turL ts) i = cyc ts (-i) := by
  have b1 := Int.emod_nonneg i (b := (ts.length : Int)) (by omega)
  have b2 := Int.emod_lt_of_pos i (b := (ts.length : Int)) (by omega)
  have e : cyc (turL ts) i = (turL ts).getD (i % (ts.length : Int)).toNat default := by unfold cyc; rw [turL_len]
  rw [e]
  unfold turL
  rw [map_getD (by omega), show (((i % (ts.length : Int)).toNat : Nat) : Int) = i % (ts.length : Int) by omega, Int.emod_def, show 0 - (i - (ts.length : Int) * (i / (ts.length : Int))) = -i + ((ts.length : Int) * (i / (ts.length : Int))) by omega]
  exact (cyc_per.mul _) _
theorem movL_prim {ts : List Str} (h : Prim ts) (b : Int) : Prim (movL ts b) := by
  refine ⟨by rw [movL_len]; exact h.1, ?_⟩
  rw [movL_len, ← h.2]
  exact lr_congr (by rw [movL_len]; exact h.1) h.1 (per_shift (movL_cyc h.1 b))
theorem turL_prim {ts : List Str} (h : Prim ts) : Prim (turL ts) := by
  refine ⟨by rw [turL_len]; exact h.1, ?_⟩
  rw [turL_len, ← h.2]
  exact lr_congr (by rw [turL_len]; exact h.1) h.1 (per_turn (turL_cyc h.1))
theorem mir_mov {ts : List Str} (h : Prim ts) (b : Int) : mir (movL ts b) = (mir ts).map fun (a : Nat) => (((a : Int) + 2 * b) % (ts.length : Int)).toNat := by
  refine mir_tr (movL_prim h b) (movL_len ts b) (fun a => a + 2 * b) (fun a ha i => ?_) (fun a ha => ⟨a - 2 * b, fun i => ?_⟩)
  · rw [movL_cyc h.1, movL_cyc h.1, ha]
    congr 1
    omega
  · have z := ha (i + b)
    rw [movL_cyc h.1, movL_cyc h.1, show i + b + -b = i by omega] at z
    rw [z]
    congr 1
    omega
theorem mir_tur {ts : List Str} (h : Prim ts) : mir (turL ts) = (mir ts).map fun (a : Nat) => ((0 - (a : Int)) % (ts.length : Int)).toNat := by
  refine mir_tr (turL_prim h) (turL_len ts) (fun a => 0 - a) (fun a ha i => ?_) (fun a ha => ⟨0 - a, fun i => ?_⟩)
  · rw [turL_cyc h.1, turL_cyc h.1, ha]
    congr 1
    omega
  · have z := ha (-i)
    rw [turL_cyc h.1, turL_cyc h.1, Int.neg_neg] at z
    rw [z]
    congr 1
    omega
end PL

set_option Elab.async false
set_option linter.all false
/-! the law's own drawing of shades and stripes, as plain functions -/
namespace PL
open PySem PySem.Spec PyProof.Rows L2
/-! ### the pool -/
def poolStep (s : Int × Int) (t : Nat) : Int × Int :=
  ((s.1 % 999999999989 * 69621 + 40503 * (t : Int) + 271) % 999999999989,
   s.2 * 10 ^ (11 : Int).toNat + (s.1 % 999999999989 * 69621 + 40503 * (t : Int) + 271) % 999999999989 * ((s.1 % 999999999989 * 69621 + 40503 * (t : Int) + 271) % 999999999989 % 65537 + 3) % 99999999977)
def poolIt (s0 : Int × Int) : Nat → Int × Int
  | 0 => s0
  | t + 1 => poolStep (poolIt s0 t) t
abbrev e64 : Int := 10 ^ (64 : Int).toNat
def cellV (ns : List Int) (k : Nat) : Int := (cutL ns (some (k : Int)) (some ((k : Int) + 1))).sum
def poolV (c : Int) (k : Nat) : Int := if c < 0 ∨ 10 ^ (18 : Int).toNat ≤ c then (if c < 0 then -c else c) % (e64 * e64 * e64 * e64 * e64 * e64) else (poolIt (c * 48271 + 977 * (k : Int) * (k : Int) + 13, 0) 27).2
/-! ### shades -/
def sgnI (d : Int) : Str := ⟨#[letters.cps.toList.getD d.toNat 0]⟩
def wIt (n : Int) : Nat → Str × Int
  | 0 => ("", n)
  | k + 1 => ((wIt n k).1 ++ sgnI ((wIt n k).2 % 26), (wIt n k).2 / 26)
def lwords : List Str := ["run", "row", "fold", "left", "warp", "weft", "none", "put"]
def wordA (n : Int) : Str × Int := wIt (n / 3) (1 + n % 3).toNat
def wordOf (n : Int) : Str × Int := if (wordA n).2 % 8 = 7 then (cutS (lwords.getD ((wordA n).2 / 8 % 8).toNat default) none (some 3), (wordA n).2 / 8 / 8) else ((wordA n).1, (wordA n).2 / 8)
abbrev letAt (j : Nat) : Str := sgn letters j
def someOf (w : Str) : List Str := [w] ++ (List.range letters.cps.size).map (fun j => cutS w none (some 1) ++ letAt j) ++ (List.range letters.cps.size).map (fun j => letAt j ++ letAt j)
def pick (found : List Str) (w : Str) : Str := ((someOf w).filter fun x => !decide (x ∈ found)).headD default
def shIt (n : Int) : Nat → List Str × Int
  | 0 => ([], n)
  | k + 1 => ((shIt n k).1 ++ [pick (shIt n k).1 (wordOf (shIt n k).2).1], (wordOf (shIt n k).2).2)
/-! ### facts -/
def okW (lo hi : Nat) (x : Str) : Prop := lo ≤ x.cps.size ∧ x.cps.size ≤ hi ∧ ∀ c ∈ x.cps.toList, c ∈ letters.cps.toList
theorem okW_shade {x : Str} (h : okW 1 3 x) : shadeB x = true := by
  obtain ⟨h1, h2, h3⟩ := h
  show ((decide ((1 : Int) ≤ x.cps.size) && decide ((x.cps.size : Int) ≤ 3)) && (List.range x.cps.size).all fun i => decide (x.cps.getD i 0 ∈ letters.cps.toList)) = true
  rw [decide_eq_true (by omega), decide_eq_true (by omega), Bool.true_and, Bool.true_and, List.all_eq_true]
  intro i hi
  have hi' := List.mem_range.mp hi
  apply decide_eq_true
  apply h3
  rw [Array.getD_eq_getD_getElem?, Array.getElem?_eq_getElem hi']
  exact Array.getElem_mem_toList hi'
theorem shade_okW {x : Str} (h : shadeB x = true) : okW 1 3 x := by
  have hl := shade_len h
  have h1 := (Bool.and_eq_true_iff.mp h).2
  rw [List.all_eq_true] at h1
  refine ⟨hl.1, hl.2, fun c hc => ?_⟩
  obtain ⟨i, hi, rfl⟩ := Array.mem_iff_getElem.mp (Array.mem_toList_iff.mp hc)
  have h2 := of_decide_eq_true (h1 i (List.mem_range.mpr hi))
  rw [Array.getD_eq_getD_getElem?, Array.getElem?_eq_getElem hi] at h2
  exact h2
theorem okW_append {a b c d : Nat} {x y : Str} (h : okW a b x) (g : okW c d y) : okW (a + c) (b + d) (x ++ y) := by
  obtain ⟨h1, h2, h3⟩ := h
  obtain ⟨g1, g2, g3⟩ := g
  have e : (x ++ y).cps = x.cps ++ y.cps := rfl
  refine ⟨?_, ?_, fun c hc => ?_⟩
  · rw [e, Array.size_append]; omega
  · rw [e, Array.size_append]; omega
  · rw [e, Array.toList_append] at hc
    rcases List.mem_append.mp hc with z | z
    · exact h3 c z
    · exact g3 c z
theorem letters_len : letters.cps.toList.length = 26 := by decide +kernel
theorem letters_size : letters.cps.size = 26 := by decide +kernel
theorem sgnI_ok {d : Int} (h0 : 0 ≤ d) (h1 : d < 26) : okW 1 1 (sgnI d) := by
  refine ⟨Nat.le_refl _, Nat.le_refl _, fun c hc => ?_⟩
  have e : c = letters.cps.toList.getD d.toNat 0 := List.mem_singleton.mp hc
  rw [e, List.getD_eq_getElem?_getD, List.getElem?_eq_getElem (by rw [letters_len]; omega)]
  exact List.getElem_mem _
theorem letAt_ok {j : Nat} (h : j < letters.cps.size) : okW 1 1 (letAt j) := by
  refine ⟨Nat.le_refl _, Nat.le_refl _, fun c hc => ?_⟩
  have e : c = letters.cps.getD j 0 := List.mem_singleton.mp hc
  rw [e, Array.getD_eq_getD_getElem?, Array.getElem?_eq_getElem h]
  exact Array.getElem_mem_toList _
theorem wIt_ok (n : Int) : ∀ k, okW k k (wIt n k).1
  | 0 => ⟨Nat.le_refl _, Nat.le_refl _, fun c hc => by cases hc⟩
  | k + 1 => okW_append (wIt_ok n k) (sgnI_ok (Int.emod_nonneg _ (by decide)) (Int.emod_lt_of_pos _ (by decide)))
theorem lwords_ok : ∀ j : _root_.Fin 8, shadeB (cutS (lwords.getD j.val default) none (some 3)) = true ∧ (lwords.getD j.val default).length ≤ 10 := by decide +kernel
theorem lwords_at {d : Int} (h0 : 0 ≤ d) (h1 : d < 8) : shadeB (cutS (lwords.getD d.toNat default) none (some 3)) = true ∧ (lwords.getD d.toNat default).length ≤ 10 := lwords_ok ⟨d.toNat, by omega⟩
theorem wordOf_ok (n : Int) : okW 1 3 (wordOf n).1 := by
  unfold wordOf
  split
  · exact shade_okW (lwords_at (Int.emod_nonneg _ (by decide)) (Int.emod_lt_of_pos _ (by decide))).1
  · have h := wIt_ok (n / 3) (1 + n % 3).toNat
    have a := Int.emod_nonneg n (b := 3) (by decide)
    have b := Int.emod_lt_of_pos n (b := 3) (by decide)
    exact ⟨Nat.le_trans (by omega) h.1, Nat.le_trans h.2.1 (by omega), h.2.2⟩
theorem cut1_ok {w : Str} (h : okW 1 3 w) : okW 1 1 (cutS w none (some 1)) := by
  obtain ⟨h1, h2, h3⟩ := h
  have e : (cutS w none (some 1)).cps.toList = w.cps.toList.take 1 := by
    show ((w.cps.toList.drop (HT.sIx w.length 0 none)).take (HT.sIx w.length w.length (some ((1 : Nat) : Int)) - HT.sIx w.length 0 none)) = _
    rw [HT.sIx_nat, HT.sIx_none, List.drop_zero, Nat.sub_zero]
    rw [show min 1 w.length = 1 from Nat.min_eq_left h1]
  have sz : (cutS w none (some 1)).cps.size = 1 := by
    rw [← Array.length_toList, e, List.length_take, Array.length_toList]; omega
  refine ⟨by omega, by omega, fun c hc => ?_⟩
  rw [e] at hc
  exact h3 c (List.mem_of_mem_take hc)
theorem someOf_ok {w : Str} (h : okW 1 3 w) : ∀ x ∈ someOf w, okW 1 3 x := by
  intro x hx
  unfold someOf at hx
  rcases List.mem_append.mp hx with hx | hx
  · rcases List.mem_append.mp hx with hx | hx
    · rw [List.mem_singleton.mp hx]; exact h
    · obtain ⟨j, hj, rfl⟩ := List.mem_map.mp hx
      have z := okW_append (cut1_ok h) (letAt_ok (List.mem_range.mp hj))
      exact ⟨Nat.le_trans (by decide) z.1, Nat.le_trans z.2.1 (by decide), z.2.2⟩
  · obtain ⟨j, hj, rfl⟩ := List.mem_map.mp hx
    have z := okW_append (letAt_ok (List.mem_range.mp hj)) (letAt_ok (List.mem_range.mp hj))
    exact ⟨Nat.le_trans (by decide) z.1, Nat.le_trans z.2.1 (by decide), z.2.2⟩
theorem nodup_le {α : Type} [DecidableEq α] : ∀ (xs ys : List α), xs.Nodup → (∀ x ∈ xs, x ∈ ys) → xs.length ≤ ys.length
  | [], _, _, _ => Nat.zero_le _
  | x :: r, ys, hn, h => by
    obtain ⟨h1, h2⟩ := List.nodup_cons.mp hn
    have hx := h x (List.mem_cons_self ..)
    have z := nodup_le r (ys.erase x) h2 fun y hy => (List.mem_erase_of_ne (fun e : y = x => h1 (e ▸ hy))).mpr (h y (List.mem_cons_of_mem _ hy))
    rw [List.length_erase_of_mem hx] at z
    have := List.length_pos_of_mem hx
    rw [List.length_cons]; omega
theorem dbl_nodup : ((List.range letters.cps.size).map fun j => letAt j ++ letAt j).Nodup := by decide +kernel
theorem some_ne {found : List Str} (hf : found.length < 26) (w : Str) : ((someOf w).filter fun x => !decide (x ∈ found)) ≠ [] := by
  intro e
  rw [List.filter_eq_nil_iff] at e
  have z := nodup_le _ found dbl_nodup fun x hx => by
    have q := e x (List.mem_append_right _ hx)
    simpa using q
  rw [List.length_map, List.length_range, letters_size] at z
  omega
theorem pick_at {found : List Str} (hf : found.length < 26) (w : Str) : atI ((someOf w).filter fun x => !decide (x ∈ found)) 0 = some (pick found w) := by
  have z := some_ne hf w
  unfold pick
  cases e : (someOf w).filter fun x => !decide (x ∈ found) with
  | nil => exact absurd e z
  | cons x r =>
    show atI (x :: r) 0 = some x
    unfold atI ixN
    rw [if_pos (Int.le_refl 0), List.length_cons, if_pos (by omega)]
    rfl
theorem pick_ok {found : List Str} (hf : found.length < 26) {w : Str} (h : okW 1 3 w) : okW 1 3 (pick found w) := by
  have z := some_ne hf w
  unfold pick
  cases e : (someOf w).filter fun x => !decide (x ∈ found) with
  | nil => exact absurd e z
  | cons x r =>
    have q : x ∈ (someOf w).filter fun x => !decide (x ∈ found) := by rw [e]; exact List.mem_cons_self ..
    exact someOf_ok h x (List.mem_filter.mp q).1
theorem shIt_ok (n : Int) : ∀ k, k ≤ 20 → (shIt n k).1.length = k ∧ ∀ x ∈ (shIt n k).1, okW 1 3 x
  | 0, _ => ⟨rfl, fun x hx => by cases hx⟩
  | k + 1, hk => by
    obtain ⟨h1, h2⟩ := shIt_ok n k (by omega)
    refine ⟨?_, fun x hx => ?_⟩
    · show ((shIt n k).1 ++ [_]).length = _
      rw [List.length_append, h1]; rfl
    · rcases List.mem_append.mp hx with z | z
      · exact h2 x z
      · rw [List.mem_singleton.mp z]
        exact pick_ok (by omega) (wordOf_ok _)
/-! ### stripes -/
def drIt (sh : List Str) (wide n : Int) : Nat → List (Str × Int) × Int
  | 0 => ([], n)
  | k + 1 => ((drIt sh wide n k).1 ++ [(sh.getD ((drIt sh wide n k).2 % (sh.length : Int)).toNat default, 1 + (drIt sh wide n k).2 / (sh.length : Int) % wide)], (drIt sh wide n k).2 / (sh.length : Int) / wide)
theorem drIt_ok {sh : List Str} {wide : Int} (n : Int) (h0 : 0 < sh.length) (hw : 0 < wide) : ∀ k, (drIt sh wide n k).1.length = k ∧ ∀ p ∈ (drIt sh wide n k).1, p.1 ∈ sh ∧ 1 ≤ p.2 ∧ p.2 ≤ wide
  | 0 => ⟨rfl, fun x hx => by cases hx⟩
  | k + 1 => by
    obtain ⟨h1, h2⟩ := drIt_ok n h0 hw k
    refine ⟨?_, fun x hx => ?_⟩
    · show ((drIt sh wide n k).1 ++ [_]).length = _
      rw [List.length_append, h1]; rfl
    · rcases List.mem_append.mp hx with z | z
      · exact h2 x z
      · rw [List.mem_singleton.mp z]
        have a := Int.emod_nonneg (drIt sh wide n k).2 (b := (sh.length : Int)) (by omega)
        have b := Int.emod_lt_of_pos (drIt sh wide n k).2 (b := (sh.length : Int)) (by omega)
        have c := Int.emod_nonneg ((drIt sh wide n k).2 / (sh.length : Int)) (b := wide) (by omega)
        have d := Int.emod_lt_of_pos ((drIt sh wide n k).2 / (sh.length : Int)) (b := wide) (by omega)
        refine ⟨?_, ?_, ?_⟩
        · show sh.getD _ default ∈ sh
          rw [List.getD_eq_getElem?_getD, List.getElem?_eq_getElem (by omega)]
          exact List.getElem_mem _
        · show (1 : Int) ≤ 1 + _
          omega
        · show 1 + _ ≤ wide
          omega
theorem tot_le {ps : List (Str × Int)} {wide : Int} (h : ∀ p ∈ ps, p.2 ≤ wide) : tot ps ≤ (ps.length : Int) * wide := by
  induction ps with
  | nil => rw [show ((([] : List (Str × Int)).length : Nat) : Int) = 0 from rfl, Int.zero_mul]; exact Int.le_refl _
  | cons p r ih =>
    have z := ih fun q hq => h q (List.mem_cons_of_mem _ hq)
    have e : tot (p :: r) = p.2 + tot r := by unfold tot; rw [List.map_cons, List.sum_cons]
    have hp := h p (List.mem_cons_self ..)
    rw [e, List.length_cons, Int.natCast_succ, Int.add_mul, Int.one_mul]
    omega
theorem tot_app (ps qs : List (Str × Int)) : tot (ps ++ qs) = tot ps + tot qs := by unfold tot; rw [List.map_append, List.sum_append]
theorem thr_app (ps qs : List (Str × Int)) : thr (ps ++ qs) = thr ps ++ thr qs := by unfold thr; rw [List.flatMap_append]
/-! ### what is laid -/
structure Laid where
  ps : List (Str × Int)
  m : Mnr
  st : Int
  n : Int
def mnrs : List Mnr := [.run, .pivot, .fold, .left, .right]
def shN (n : Int) : Nat := [1, 2, 2, 3, 4].getD (n % 5).toNat 0
def shs (n : Int) : List Str × Int := shIt (n / 5) (shN n)
def mostOf (b : Bool) : Int := if b then 12 else 4
def wideOf (b : Bool) : Int := if b then 20 else 3
def drawn (sh : List Str) (most wide n : Int) : List (Str × Int) × Int := drIt sh wide (n / most) (1 + n % most).toNat
abbrev e30 : Int := 10 ^ (30 : Int).toNat
def stOf (n : Int) : Int := if n / 30 / 30 / e30 % 4 = 0 then 0 else if n / 30 / 30 / e30 % 4 = 1 then n % 30 else if n / 30 / 30 / e30 % 4 = 2 then 0 - n / 30 % 30 else n / 30 / 30 % e30
def stN (n : Int) : Int := n / 30 / 30 / e30 / 4
end PL

set_option Elab.async false
set_option linter.all false
set_option maxRecDepth 100000
set_option maxHeartbeats 1000000
namespace Hd
open PySem PySem.Spec PyProof.Rows L2 PL
section
variable {Pg : Program} {w : World} {K : PySem.W.Frag} {mg : Str → Option Value} {base : Heap}
/-! ### the law's own helpers -/
def P_take : Ob → List D → Rs → Ob → Prop := fun o ds r o' => ∃ n m : Int, 0 < m ∧ m ≤ 10 ^ 40 ∧ o = .lst [.int n] ∧ ds = [.int m] ∧ r = .sh (.int (n % m)) ∧ o' = .lst [.int (n / m)]
theorem cdivp_small {n m : Int} (h0 : 0 < m) (h1 : m ≤ 10 ^ 40) : CDivP n m := by
  refine ⟨h0, ?_⟩
  show (decide ((if m == 0 then 0 else m.natAbs.log2 / 30 + 1) > 300) && decide ((if n == 0 then 0 else n.natAbs.log2 / 30 + 1) > (if m == 0 then 0 else m.natAbs.log2 / 30 + 1) + 150)) = false
  rw [if_neg (show ¬ (m == 0) = true by simpa using (show m ≠ 0 by omega))]
  have h2 : m.natAbs.log2 < 200 := by
    rw [Nat.log2_lt (by omega)]
    have : (10 : Int) ^ 40 < 2 ^ 200 := by decide +kernel
    have e : ((2 : Nat) ^ 200 : Nat) = ((2 : Int) ^ 200) := by decide +kernel
    omega
  rw [decide_eq_false (by omega)]
  rfl
theorem c_take (Dd : Df K mg "_law_take" s__law_take []) (T : Bt mg) : C1 Pg w K mg base "_law_take" 1 ["_law_pool_here", "_law_many"] P_take := by
  refine c1_mk (k := 0) Dd sc__law_take (fun _ _ _ _ _ _ us hl => match us, hl with | [_, _], _ => rfl) (by decide) (fun o ds r o' => ?_) (fun f cd A outer s H E g o ds r o' => ?_)
  · rintro ⟨n, m, h0, h1, rfl, rfl, rfl, rfl⟩
    exact ⟨rfl, fun _ z => by cases z⟩
  · rintro ⟨n, m, h0, h1, rfl, rfl, rfl, rfl⟩ p
    refine ⟨_, .inl (s_cons (s1_asg (g_tup g.calm (gs_cons (g_setix (n := 0) (s := .pr p (.lst [.int n])) (ix := 0) (j := 0) has_pr e_int rfl) (gs_cons (g_name 2 g.nd) gs_nil))) (e_callB (c_divmod (cdivp_small h0 h1)) T.divmod b_divmod (a_cons (e_ro (e_ix (e_var 0) e_int (i_list (d := .int n) rfl)) trivial) (a_cons (e_var 1) a_nil)))) (s_one (s1_ret (e_var 2)))), rfl⟩
def P_pool : List D → Rs → Prop := fun ds r => ∃ ns k, k < 1000 ∧ ds = [.fls (ns.map D.int), .int (k : Nat)] ∧ r = .ow (.lst [.int (poolV (cellV ns k) k)])
theorem cpow10 {j : Int} (h0 : 0 ≤ j) (h1 : j ≤ 1000) : CPow 10 j := ⟨h0, by omega, by decide⟩
theorem c_pool (Dd : Df K mg "_law_pool" s__law_pool []) (T : Bt mg) : C0 Pg w K mg base "_law_pool" 1 ["_law_script", "_law_k"] P_pool := by
  refine c0_mk (k := 0) Dd sc__law_pool (fun _ _ _ _ _ _ us hl => match us, hl with | [_, _], _ => rfl) (by decide) (fun ds r => ?_) (fun f cd A outer s H E g ds r => ?_)
  · rintro ⟨ns, k, hk, rfl, rfl⟩
    exact ⟨rfl, fun _ z => by cases z⟩
  · rintro ⟨ns, k, hk, rfl, rfl⟩
    have key : ∀ c, c = cellV ns k → D.int ((cutL ns (some (k : Int)) (some ((k : Int) + 1))).sum) = .int c := fun c e => by rw [e]; rfl
    generalize hc : cellV ns k = c at key
    have key := key c rfl
    by_cases h : c < 0 ∨ 10 ^ (18 : Int).toNat ≤ c
    · refine ends_eq (ends_rt (s_cons (s1_set 2 g.nd (e_eq (e_callB (c_sum (ns := cutL ns (some (k : Int)) (some ((k : Int) + 1))) g.calm) T.sum b_sum (a_cons (e_fz (e_eq (e_slice l_fls (e_var 0) (p_some (e_var 1)) (p_some (e_bin o_addI (e_var 1) e_int))) (by rw [cut_map]))) a_nil)) (congrArg Rs.sh key)))
        (s_ifTE (t_eq (t_w (w_or (t_cmp o_lt (e_var 2) e_int) fun h => (w_or1 (t_cmp o_ge (e_var 2) (e_bin (o_pow (cpow10 (by decide) (by decide))) e_int e_int))))) ?_)
          (s_one (s1_ret (e_lst (a_cons (e_bin (o_mod ?_) (e_callB c_abs T.abs b_abs (a_cons (e_var 2) a_nil)) (e_bin (o_mulW ?_) (e_bin (o_mulW ?_) (e_bin (o_mulW ?_) (e_bin (o_mulW ?_) (e_bin (o_mulW ?_) (e_bin (o_pow (cpow10 (by decide) (by decide))) e_int e_int) (e_bin (o_pow (cpow10 (by decide) (by decide))) e_int e_int)) (e_bin (o_pow (cpow10 (by decide) (by decide))) e_int e_int)) (e_bin (o_pow (cpow10 (by decide) (by decide))) e_int e_int)) (e_bin (o_pow (cpow10 (by decide) (by decide))) e_int e_int)) (e_bin (o_pow (cpow10 (by decide) (by decide))) e_int e_int))) a_nil))))))) ?_
      · show (decide (c < 0) || decide (10 ^ (18 : Int).toNat ≤ c)) = true
        rcases h with h | h
        · rw [decide_eq_true h]; rfl
        · rw [decide_eq_true h, Bool.or_true]
      · decide +kernel
      · unfold CMulW; decide +kernel
      · unfold CMulW; decide +kernel
      · unfold CMulW; decide +kernel
      · unfold CMulW; decide +kernel
      · unfold CMulW; decide +kernel
      · unfold poolV
        rw [if_pos h]
    · have h1 : ¬ c < 0 := fun z => h (.inl z)
      have h2 : ¬ 10 ^ (18 : Int).toNat ≤ c := fun z => h (.inr z)
      refine ends_eq (ends_rt (s_cons (s1_set 2 g.nd (e_eq (e_callB (c_sum (ns := cutL ns (some (k : Int)) (some ((k : Int) + 1))) g.calm) T.sum b_sum (a_cons (e_fz (e_eq (e_slice l_fls (e_var 0) (p_some (e_var 1)) (p_some (e_bin o_addI (e_var 1) e_int))) (by rw [cut_map]))) a_nil)) (congrArg Rs.sh key)))
        (s_ifN (t_eq (t_w (w_or (t_cmp o_lt (e_var 2) e_int) fun h => (w_or1 (t_cmp o_ge (e_var 2) (e_bin (o_pow (cpow10 (by decide) (by decide))) e_int e_int))))) ?_)
        (s_cons (s1_set 3 g.nd (e_bin o_addI (e_bin o_addI (e_bin (o_mulI (.inr (by decide))) (e_var 2) e_int) (e_bin (o_mulI (i := 977 * (k : Int)) (j := (k : Int)) (.inr (by omega))) (e_bin (o_mulI (.inl (by decide))) e_int (e_var 1)) (e_var 1))) e_int))
        (s_cons (s1_set 4 g.nd e_int)
        (s_cons (s1_for g (it_range1 T.range (a_cons e_int a_nil) (by decide) (by decide)) (fun j => [.sh (.fls (ns.map D.int)), .sh (.int (k : Nat)), .sh (.int c), .sh (.int (poolIt (c * 48271 + 977 * (k : Int) * (k : Int) + 13, 0) j).1), .sh (.int (poolIt (c * 48271 + 977 * (k : Int) * (k : Int) + 13, 0) j).2), .un])
            (fun j => [.sh (.fls (ns.map D.int)), .sh (.int (k : Nat)), .sh (.int c), .sh (.int (poolIt (c * 48271 + 977 * (k : Int) * (k : Int) + 13, 0) j).1), .sh (.int (poolIt (c * 48271 + 977 * (k : Int) * (k : Int) + 13, 0) j).2), .sh (.int (j : Nat))]) .refl (fun j hj => g_name 5 g.nd) (fun j hj => .inl ?_))
        (s_one (s1_ret (e_lst (a_cons (e_var 4) a_nil)))))))))) ?_
      · show (decide (c < 0) || decide (10 ^ (18 : Int).toNat ≤ c)) = false
        rw [decide_eq_false h1, decide_eq_false h2]; rfl
      · have e : poolIt (c * 48271 + 977 * (k : Int) * (k : Int) + 13, 0) (j + 1) = poolStep (poolIt (c * 48271 + 977 * (k : Int) * (k : Int) + 13, 0) j) j := rfl
        rw [e]
        generalize poolIt (c * 48271 + 977 * (k : Int) * (k : Int) + 13, 0) j = q
        have h65 := Int.emod_nonneg ((q.1 % 999999999989 * 69621 + 40503 * (j : Int) + 271) % 999999999989) (b := 65537) (by decide)
        have h66 := Int.emod_lt_of_pos ((q.1 % 999999999989 * 69621 + 40503 * (j : Int) + 271) % 999999999989) (b := 65537) (by decide)
        refine s_wk (s_cons (s1_set 3 g.nd (e_bin (o_mod (by decide)) (e_bin o_addI (e_bin o_addI (e_bin (o_mulI (.inr (by decide))) (e_bin (o_mod (by decide)) (e_var 3) e_int) e_int) (e_bin (o_mulI (.inl (by decide))) e_int (e_var 5))) e_int) e_int))
          (s_one (s1_set 4 g.nd (e_bin o_addI (e_bin (o_mulI (.inr (by decide))) (e_var 4) (e_bin (o_pow (cpow10 (by decide) (by decide))) e_int e_int)) (e_bin (o_mod (by decide)) (e_bin (o_mulI (i := (q.1 % 999999999989 * 69621 + 40503 * (j : Int) + 271) % 999999999989) (j := (q.1 % 999999999989 * 69621 + 40503 * (j : Int) + 271) % 999999999989 % 65537 + 3) (.inr (by omega))) (e_var 3) (e_bin o_addI (e_bin (o_mod (by decide)) (e_var 3) e_int) e_int)) e_int))))) ?_
        exact Wk.cv (.keep (.keep (.keep (.keep (.keep (.drop .nil))))))
      · unfold poolV
        rw [if_neg h]
        rfl
end
end Hd

set_option Elab.async false
set_option linter.all false
set_option maxRecDepth 100000
set_option maxHeartbeats 1000000
/-! written displays that hold no names -/
namespace PL
open PySem PySem.Spec PyProof.Rows L2
mutual
def valD : Ex → Option D
  | .Constant (.str x) _ _ => some (.str x)
  | .Constant (.int i) _ _ => some (.int i)
  | .Constant (.bool b) _ _ => some (.bl b)
  | .Constant .none _ _ => some .non
  | .Tuple es _ _ => (valsD es).map .tup
  | .List es _ => (valsD es).map .lst
  | .Dict [] [] _ => some (.dct [] [])
  | _ => none
def valsD : List Ex → Option (List D)
  | [] => some []
  | e :: es => match valD e, valsD es with
    | some d, some ds => some (d :: ds)
    | _, _ => none
end
section
variable {X : Cx} {Γ : Gm} {k : Nat}
theorem e_dict0 {pos : Pos} : EX X Γ (.Dict [] [] pos) (.ow (.dct [] [])) Γ := fun F σ H S Q R q =>
  pe_we pe_dnewK fun p np => q (.ref p) _ S (R.grow (same_upd np)) (.refl _) ⟨p, rfl, R.sNone np, R.h0None np, ⟨[], upd_same, rfl, rfl⟩, R.ownNone np⟩
theorem star_val {e : Ex} {d : D} (h : valD e = some d) (es : List Ex) : starEach (e :: es) X.env = (false, eval e X.env) :: starEach es X.env := by
  unfold valD at h
  split at h <;> first | rfl | cases h
theorem lst_small {α : Type} {n : Nat} (h : n ≤ 1000) : n ≤ sizeLine := Nat.le_trans h (by decide)
def sml : List D → Bool
  | ds => decide (ds.length ≤ 1000)
mutual
def smlD : D → Bool
  | .tup ds => decide (ds.length ≤ 1000) && smlsD ds
  | .lst ds => decide (ds.length ≤ 1000) && smlsD ds
  | _ => true
def smlsD : List D → Bool
  | [] => true
  | d :: ds => smlD d && smlsD ds
end
mutual
theorem e_val : ∀ {e : Ex} {d : D}, valD e = some d → smlD d = true → EX X Γ e (.sh d) Γ
  | .Constant (.str x) _ _, _, h, _ => by cases h; exact e_str
  | .Constant (.int i) _ _, _, h, _ => by cases h; exact e_int
  | .Constant (.bool b) _ _, _, h, _ => by cases h; exact e_bl
  | .Constant .none _ _, _, h, _ => by cases h; exact e_non
  | .Tuple es _ _, _, h, s => by
    have h' : (valsD es).map D.tup = some _ := h
    obtain ⟨ds, e1, rfl⟩ := Option.map_eq_some_iff.mp h'
    obtain ⟨s1, s2⟩ := Bool.and_eq_true_iff.mp (show (decide (ds.length ≤ 1000) && smlsD ds) = true from s)
    exact e_tup (a_val e1 s2) (lst_small (α := D) (of_decide_eq_true s1))
  | .List es _, _, h, s => by
    have h' : (valsD es).map D.lst = some _ := h
    obtain ⟨ds, e1, rfl⟩ := Option.map_eq_some_iff.mp h'
    obtain ⟨s1, s2⟩ := Bool.and_eq_true_iff.mp (show (decide (ds.length ≤ 1000) && smlsD ds) = true from s)
    exact e_fz (e_lst (a_val e1 s2) (lst_small (α := D) (of_decide_eq_true s1)))
  | .Dict [] [] _, _, h, _ => by cases h; exact e_frz e_dict0
theorem a_val : ∀ {es : List Ex} {ds : List D}, valsD es = some ds → smlsD ds = true → AX X Γ es ds Γ
  | [], _, h, _ => by cases h; exact a_nil
  | e :: es, _, h, s => by
    have h' : (match valD e, valsD es with | some d, some ds => some (d :: ds) | _, _ => none) = some _ := h
    cases h1 : valD e with
    | none => rw [h1] at h'; cases h'
    | some d =>
      cases h2 : valsD es with
      | none => rw [h1, h2] at h'; cases h'
      | some ds =>
        rw [h1, h2] at h'
        cases h'
        obtain ⟨s1, s2⟩ := Bool.and_eq_true_iff.mp (show (smlD d && smlsD ds) = true from s)
        exact a_cons (e_val h1 s1) (a_val h2 s2) (star_val h1 es)
end
theorem s_setV (i : Nat) {x : Str} {e : Ex} {d : D} {pos pos' : Pos} {rest : List Stmt} {o : Out} (hv : valD e = some d) (gd : Gd k X) (h2 : SX X (Γ.set i (.sh d)) rest o) (hd : smlD d = true := by rfl) (hl : i < Γ.length := by exact Nat.le_of_ble_eq_true rfl) (hi : X.N[i]? = some x := by rfl) (hx : Loc X.env.scope x := by first | exact Or.inl rfl | exact Or.inr rfl)
    (hs : swapsWith e (some (.Name x pos')) pos.line X.env = pure false := by rfl) (hf : X.fn x = true ∨ X.env.scope.names.lookup x = some .local := by first | exact .inl rfl | exact .inr rfl | assumption) : SX X Γ (.Assign [.Name x pos'] e pos :: rest) o :=
  s_cons (s1_set i gd.nd (e_val hv hd) hl (fun _ z => by cases z) hi hx hs hf) h2
/-- x = a written display -/
def asgV : Stmt → Option (Str × D)
  | .Assign [.Name x _] e _ => (valD e).map fun d => (x, d)
  | _ => none
theorem sw_val {e : Ex} {d : D} (h : valD e = some d) {t : Option Ex} {l : Nat} {env : Env} : swapsWith e t l env = pure false := by
  unfold valD at h
  split at h <;> first | rfl | cases h
theorem s_asgV (i : Nat) {x : Str} {st : Stmt} {d : D} {rest : List Stmt} {o : Out} (hv : asgV st = some (x, d)) (hd : smlD d = true) (gd : Gd k X) (hl : i < Γ.length) (hi : X.N[i]? = some x) (hx : X.env.scope.names.lookup x = some .local) (h2 : SX X (Γ.set i (.sh d)) rest o) : SX X Γ (st :: rest) o := by
  unfold asgV at hv
  split at hv
  · obtain ⟨d', e1, e2⟩ := Option.map_eq_some_iff.mp hv
    cases e2
    exact s_cons (s1_set i gd.nd (e_val e1 hd) hl (fun _ z => by cases z) hi (.inl hx) (sw_val e1) (.inr hx)) h2
  · cases hv
end
end PL

set_option Elab.async false
set_option linter.all false
set_option maxRecDepth 100000
set_option maxHeartbeats 1000000
/-! defs with defaults that may raise; what a contract with refusals says where none comes -/
namespace PL
open PySem PySem.Spec PyProof.Rows L2
theorem spE_ok {K : PySem.W.Frag} {P : List D → Rx → Prop} {vs : List V} {H : Hp} {Q : VK} {E : XK} (h : sp0 K (fun ds r => P ds (.ok r)) vs H Q E) : spE K P vs H Q E := by
  obtain ⟨S, ds, r, hp, h1, h2, h3⟩ := h
  exact ⟨S, ds, .ok r, hp, h1, h2, h3⟩
section
variable {Pg : Program} {w : World} {K : PySem.W.Frag} {mg : Str → Option Value} {base : Heap} {x : Str} {st : Stmt} {N ps : List Str} {j k : Nat} {dvs : List V} {P : List D → Rx → Prop}
/-- a def that may raise, where it does not -/
theorem Ce.c0 (G : Ce Pg w K mg base x j ps P) : C0 Pg w K mg base x j ps (fun ds r => P ds (.ok r)) := by
  obtain ⟨f, fd, gm, kp, b, F⟩ := G.ex
  exact ⟨f, fd, gm, kp, b, F.imp fun _ _ _ _ h => spE_ok h⟩
end
structure Ced (Pg : Program) (w : World) (K : PySem.W.Frag) (mg : Str → Option Value) (base : Heap) (x : Str) (j : Nat) (ps : List Str) (st : Stmt) (dvs : List V) (P : List D → Rx → Prop) : Prop where
  ex : ∃ f fd, mg x = some (.ref f) ∧ FunD K x x (defArgs st) (defBody st) (defScope st) dvs [] f fd ∧ FnOk Pg w K mg base (L2.CX Pg w) j f fd ps (spE K P)
section
variable {Pg : Program} {w : World} {K : PySem.W.Frag} {mg : Str → Option Value} {base : Heap} {x : Str} {st : Stmt} {N ps : List Str} {j k : Nat} {dvs : List V} {P : List D → Rx → Prop} {f : Addr} {fd : FuncData}
theorem ced_mk (Dd : Df K mg x st dvs) (Sc : FnScope N ps (defScope st)) (hn : ps.length ≤ N.length) (hl : ∀ ds o, P ds o → ds.length = ps.length ∧ ∀ j, o ≠ .ok (.br j))
    (hb : ∀ f cd A outer s H E, Gd k (cx Pg w K mg base N x (defScope st) f cd A outer s H E) → ∀ ds o, P ds o → EndsX (cx Pg w K mg base N x (defScope st) f cd A outer s H E) (ent N ds) (defBody st) o) : Ced Pg w K mg base x (k + 1) ps st dvs P := by
  obtain ⟨f, fd, FD, gm⟩ := Dd.ex
  refine ⟨f, fd, gm, FD, fd_ok FD Sc (fun vs H Q E h => ?_) (fun cd A outer s H vs Q E hr h => ?_)⟩
  · obtain ⟨S, ds, o, hp, _, rp, _⟩ := h
    rw [← rp.length]; exact (hl ds o hp).1
  · obtain ⟨S, ds, o, hp, hs, rp, q⟩ := h
    have e1 := hb f cd A outer s H E ⟨rfl, Sc.nd, cx_po, hr⟩ ds o hp
    have R0 := rs_start (K := K) (N := N) hs rp (by rw [← rp.length, (hl ds o hp).1]; exact hn)
    cases o with
    | ok r =>
      obtain ⟨Γ', e1⟩ := e1
      exact ⟨_, ws_pss, e1.run R0 fun v σ' H' S' R' s' ok => q v H' S' (ret_of (F := ⟨H, S, fun _ => False⟩) R' (fun _ z => z.elim) (fun j z => (hl ds _ hp).2 j (by rw [z])) ok)⟩
    | ex C =>
      obtain ⟨Γ', e1⟩ := e1
      refine ⟨_, ws_pss, e1 _ _ _ _ _ (fun cls d _ H => E cls d H) R0 (takes_of rfl rfl rfl rfl) fun σ' H' S' dd R' s' => q H' S' dd (ret_of (F := ⟨H, S, fun _ => False⟩) R' (fun _ z => z.elim) (fun _ z => by cases z) rfl)⟩
/-- calls that do not raise, with defaults and keywords: by the rules of Cd -/
theorem Ced.cd (G : Ced Pg w K mg base x j ps st dvs P) : Cd Pg w K mg base x j ps st dvs (fun ds r => P ds (.ok r)) := by
  obtain ⟨f, fd, gm, FD, F⟩ := G.ex
  exact ⟨f, fd, gm, FD, F.imp fun _ _ _ _ h => spE_ok h⟩
/-- calls with all arguments given -/
theorem Ced.ce (G : Ced Pg w K mg base x j ps st dvs P) (hb : ∀ f fd, FunD K x x (defArgs st) (defBody st) (defScope st) dvs [] f fd → ∃ dv, Vals [] dv ∧ Binds K fd ps dv) : Ce Pg w K mg base x j ps P := by
  obtain ⟨f, fd, gm, FD, F⟩ := G.ex
  obtain ⟨dv, hv, b⟩ := hb f fd FD
  cases hv
  exact ⟨f, fd, gm, FD.kp, b, F⟩
/-! ### the object that a local slot owns is handed out as it is -/
theorem ret_br {Γ : Gm} {σ : L2.St} {H H' S S' : Hp} {ob : Ob} {i : Nat} {v : V} (R : RS K ⟨H, S, fun _ => False⟩ Γ σ H' S') (h : Γ[i]? = some (.ow ob)) (ok : RsOk K ⟨H, S, fun _ => False⟩ Γ σ H' S' (.br i) v) : Ret K S H (fun _ => False) (.ow ob) v H' S' := by
  obtain ⟨a, rfl, hi⟩ := ok
  obtain ⟨b, e1, e2, e3, e4⟩ := R.sl i _ h
  have e5 := hi.2
  rw [e1] at e5
  cases e5
  refine ⟨R.s0, R.sh, fun b o e n => R.new b o e (fun z => z) n, R.kp, R.th, ?_⟩
  exact ⟨_, rfl, e3.resolve_right (fun z => z), e2, e4⟩
/-- how a def's body ends: in a result, or in a local's own object -/
def EndsW (X : Cx) (Γ : Gm) (body : List Stmt) (r : Rs) : Prop := (∃ Γ', Ends1 X Γ body r Γ') ∨ ∃ ob i Γ', r = .ow ob ∧ Γ'[i]? = some (.ow ob) ∧ Ends1 X Γ body (.br i) Γ'
def EndsXW (X : Cx) (Γ : Gm) (body : List Stmt) : Rx → Prop
  | .ok r => EndsW X Γ body r
  | .ex C => EndsX X Γ body (.ex C)
theorem fnW (FD : FunD K x x (defArgs st) (defBody st) (defScope st) dvs [] f fd) (Sc : FnScope N ps (defScope st)) (hn : ps.length ≤ N.length) (hl : ∀ ds o, P ds o → ds.length = ps.length ∧ ∀ j, o ≠ .ok (.br j))
    (hb : ∀ cd A outer s H E, Gd k (cx Pg w K mg base N x (defScope st) f cd A outer s H E) → ∀ ds o, P ds o → EndsXW (cx Pg w K mg base N x (defScope st) f cd A outer s H E) (ent N ds) (defBody st) o) : FnOk Pg w K mg base (L2.CX Pg w) (k + 1) f fd ps (spE K P) := by
  refine fd_ok FD Sc (fun vs H Q E h => ?_) (fun cd A outer s H vs Q E hr h => ?_)
  · obtain ⟨S, ds, o, hp, _, rp, _⟩ := h
    rw [← rp.length]; exact (hl ds o hp).1
  · obtain ⟨S, ds, o, hp, hs, rp, q⟩ := h
    have e1 := hb cd A outer s H E ⟨rfl, Sc.nd, cx_po, hr⟩ ds o hp
    have R0 := rs_start (K := K) (N := N) hs rp (by rw [← rp.length, (hl ds o hp).1]; exact hn)
    cases o with
    | ok r =>
      rcases e1 with ⟨Γ', e1⟩ | ⟨ob, i, Γ', rfl, e2, e1⟩
      · exact ⟨_, ws_pss, e1.run R0 fun v σ' H' S' R' s' ok => q v H' S' (ret_of (F := ⟨H, S, fun _ => False⟩) R' (fun _ z => z.elim) (fun j z => (hl ds _ hp).2 j (by rw [z])) ok)⟩
      · exact ⟨_, ws_pss, e1.run R0 fun v σ' H' S' R' s' ok => q v H' S' (ret_br R' e2 ok)⟩
    | ex C =>
      obtain ⟨Γ', e1⟩ := e1
      refine ⟨_, ws_pss, e1 _ _ _ _ _ (fun cls d _ H => E cls d H) R0 (takes_of rfl rfl rfl rfl) fun σ' H' S' dd R' s' => q H' S' dd (ret_of (F := ⟨H, S, fun _ => False⟩) R' (fun _ z => z.elim) (fun _ z => by cases z) rfl)⟩
theorem cedW_mk (Dd : Df K mg x st dvs) (Sc : FnScope N ps (defScope st)) (hn : ps.length ≤ N.length) (hl : ∀ ds o, P ds o → ds.length = ps.length ∧ ∀ j, o ≠ .ok (.br j))
    (hb : ∀ f cd A outer s H E, Gd k (cx Pg w K mg base N x (defScope st) f cd A outer s H E) → ∀ ds o, P ds o → EndsXW (cx Pg w K mg base N x (defScope st) f cd A outer s H E) (ent N ds) (defBody st) o) : Ced Pg w K mg base x (k + 1) ps st dvs P := by
  obtain ⟨f, fd, FD, gm⟩ := Dd.ex
  exact ⟨f, fd, gm, FD, fnW FD Sc hn hl (hb f)⟩
theorem ceW_mk (Dd : Df K mg x st []) (Sc : FnScope N ps (defScope st)) (bd : BindsN x st ps) (hn : ps.length ≤ N.length) (hl : ∀ ds o, P ds o → ds.length = ps.length ∧ ∀ j, o ≠ .ok (.br j))
    (hb : ∀ f cd A outer s H E, Gd k (cx Pg w K mg base N x (defScope st) f cd A outer s H E) → ∀ ds o, P ds o → EndsXW (cx Pg w K mg base N x (defScope st) f cd A outer s H E) (ent N ds) (defBody st) o) : Ce Pg w K mg base x (k + 1) ps P := by
  obtain ⟨f, fd, FD, gm⟩ := Dd.ex
  exact ⟨f, fd, gm, FD.kp, FD.bindsN bd, fnW FD Sc hn hl (hb f)⟩
end
end PL

set_option Elab.async false
set_option linter.all false
set_option maxRecDepth 100000
set_option maxHeartbeats 1000000
/-! range(a, b) of numbers of any size -/
namespace PL
open PySem PySem.Spec PyProof.Rows L2
theorem turn_long {P : Program} {w : World} {K : PySem.W.Frag} {tg : Expr} (it : Addr) (lo : Int) (n : Nat) : Turn P w K tg (Itr lo n) [it] it (fun i h => IsLongIter h it (lo + (i : Nat) * 1) ((n : Int) - (i : Nat)) 1) where
  mem := by simp
  obj := fun i h st b hb => by
    have e : b = it := by simpa using hb
    subst e
    exact ⟨_, st, fun v z => by
      have z' : Data.fields _ = Data.cell v := z
      cases z'⟩
  keep := fun i h h' st k => k it (by simp) _ st
  item := by
    intro X hP hw hK hc i pins s σ H E I hf st hg
    subst hP hw hK
    obtain ⟨f0, f1, f2, f3, f4, f5⟩ := hf it (by simp)
    have W := Walks.longrange (prog := X.prog) (w := X.w) (I.ok.hd hc) it lo 1 n
    refine W.item i s _ _ hg st fun v h' tk hv st' kk => ?_
    obtain ⟨t, rfl⟩ := hv
    have I1 : Inv X pins σ H { s with heap := h', toks := tk } := I.turned (fun b o hb e => kk b o (by simpa using hb) e) f0 f1 f3 f4 f5
    refine ⟨_, rfl, go_of (s := { s with heap := h', toks := tk }) (n := "longrange_iterator") st' rfl rfl (by decide) ⟨.int (lo + i), H, I1, ⟨t, ?_⟩, ⟨rfl, rfl⟩, st', fun b hb => (hf b hb).1⟩⟩
    rw [Int.mul_one]
  done := by
    intro X hP hw hK hc i pins s σ H E I hf st hg
    subst hP hw hK
    obtain ⟨f0, f1, f2, f3, f4, f5⟩ := hf it (by simp)
    exact wpAny_pyNext_long_end (I.ok.hd hc) st (by have : n ≤ i := hg; omega) fun h' eb => ⟨rfl, I.turned (t' := s.toks) (fun b o hb e => eb b o hb e) f0 f1 f3 f4 f5⟩
  self := fun _ _ _ _ _ st h => wpAny_pyIter_longiter st h
section
variable {X : Cx} {tg : Expr}
theorem range_itA {pins : List (Addr × Obj)} {σ : L2.St} {H : Hp} {s : Shared} {R : It → Hp → Prop} {E : Value → Shared → Prop} {lo hi : Int} {t u v : Tok} {tk : Nat} (I : Inv X pins σ H s)
    (q : R (Itr lo (hi - lo).toNat) H) : wpAny (model X.prog X.w) X.A (pyIter (.ref s.heap.objs.size)) (PIE X pins σ tg R) E { s with heap := s.heap.push { cls := .type "range", data := .fields #[.int lo t, .int hi u, .int 1 v] }, toks := tk } := by
  have I1 : Inv X pins σ H { s with heap := s.heap.push { cls := .type "range", data := .fields #[.int lo t, .int hi u, .int 1 v] }, toks := tk } := I.kept fun b o e => Heap.get?_push_of_some _ e
  have e1 : lo + ((0 : Nat) : Int) * 1 = lo := by simp
  have e2 : (((hi - lo).toNat : Nat) : Int) - ((0 : Nat) : Int) = Builtin.Range.rangeSize lo hi 1 := by rw [rangeSize_one]; split <;> omega
  have fresh : ∀ b, b ∈ [(s.heap.push { cls := .type "range", data := .fields #[.int lo t, .int hi u, .int 1 v] }).objs.size] → FpOk X pins H b := fun b hb => by
    have e : b = (s.heap.push { cls := .type "range", data := .fields #[.int lo t, .int hi u, .int 1 v] }).objs.size := by simpa using hb
    subst e
    exact I1.fpOk (Nat.le_refl _) (I1.hok.fresh (Nat.le_refl _))
  cases hs : Builtin.Range.small lo hi 1 with
  | true =>
    refine wpAny_pyIter_range (IsRange.new ..) hs ?_
    refine ⟨(s.heap.push { cls := .type "range", data := .fields #[.int lo t, .int hi u, .int 1 v] }).objs.size, [(s.heap.push { cls := .type "range", data := .fields #[.int lo t, .int hi u, .int 1 v] }).objs.size], _, _, H, rfl,
      I1.kept (t' := tk) fun b o e => Heap.get?_push_of_some _ e, turn_range _ lo (hi - lo).toNat, ?_, fresh, q⟩
    show IsRangeIter _ _ (lo + ((0 : Nat) : Int) * 1) ((((hi - lo).toNat : Nat) : Int) - ((0 : Nat) : Int)) 1
    rw [e1, e2]
    exact Heap.get?_push_size _ rfl
  | false =>
    refine wpAny_pyIter_longrange (IsRange.new ..) hs ?_
    refine ⟨(s.heap.push { cls := .type "range", data := .fields #[.int lo t, .int hi u, .int 1 v] }).objs.size, [(s.heap.push { cls := .type "range", data := .fields #[.int lo t, .int hi u, .int 1 v] }).objs.size], _, _, H, rfl,
      I1.kept (t' := tk) fun b o e => Heap.get?_push_of_some _ e, turn_long _ lo (hi - lo).toNat, ?_, fresh, q⟩
    show IsLongIter _ _ (lo + ((0 : Nat) : Int) * 1) ((((hi - lo).toNat : Nat) : Int) - ((0 : Nat) : Int)) 1
    rw [e1, e2]
    exact Heap.get?_push_size _ rfl
def iRngA (ta : TA) : TI := fun σ H R => ta σ H fun vs H1 => ∃ i j : Int, vs = [.int i, .int j] ∧ R (Itr i (j - i).toNat) H1
theorem pi_rangeA {a b : Expr} {ta : TA} {p pos : Pos} (hg : Gl X "range") (hm : X.mg "range" = none) (ha : PA X [a, b] ta) (hs : starEach [a, b] X.env = [(false, eval a X.env), (false, eval b X.env)] := by rfl) (hs2 : starEach [b] X.env = [(false, eval b X.env)] := by rfl) :
    PI X tg (.Call (.Name "range" p) [a, b] [] pos) (iRngA ta) := by
  refine ⟨fun pins s σ H R I h => ?_⟩
  refine Call_ (ld_blt I hg hm boot_range (PyProof.Rows.callWith_type1 (thn (ha.run pos pins s σ H _ I h) fun us s1 ⟨vs, H1, I1, r1, q1⟩ => ?_) (by rw [hs, hs2]) (by rw [hs2]; rfl)))
  obtain ⟨i, j, e, q⟩ := q1
  subst e
  cases r1 with
  | cons r rr =>
    cases rr with
    | cons r' rr =>
      cases rr
      obtain ⟨t, rfl⟩ := r
      obtain ⟨t', rfl⟩ := r'
      exact call_range_2 (range_itA I1 q)
end
section
variable {X : Cx} {Γ Γ1 : Gm} {tg a b : Ex} {p pos : Pos}
theorem it_rangeA {l j : Int} (hm : X.mg "range" = none) (h : AX X Γ [a, b] [.int l, .int j] Γ1) (hg : Gl X "range" := by rfl) (hs : starEach [a, b] X.env = [(false, eval a X.env), (false, eval b X.env)] := by rfl) (hs2 : starEach [b] X.env = [(false, eval b X.env)] := by rfl) : IterX X tg (.Call (.Name "range" p) [a, b] [] pos) Γ (j - l).toNat (fun i => .int (l + (i : Nat))) Γ1 :=
  ⟨_, pi_rangeA hg hm wa_pa hs hs2, fun F σ H S R' R q => h F σ H S _ R fun vs H1 S1 R1 s1 ok => ⟨l, j, by obtain ⟨v, r, rfl, rfl, w, r2, rfl, rfl, e⟩ := ok; rw [show r2 = [] from e], q _ H1 S1 R1 s1 fun i H' sH => ⟨fun z => z, fun z => Nat.le_of_eq z.symm, fun x H2 hi y => .inl ⟨y.1, fun S' _ => y.2⟩⟩⟩⟩
end
end PL

set_option Elab.async false
set_option linter.all false
set_option maxRecDepth 100000
set_option maxHeartbeats 1000000
namespace Hd
open PySem PySem.Spec PyProof.Rows L2 PL
section
variable {Pg : Program} {w : World} {K : PySem.W.Frag} {mg : Str → Option Value} {base : Heap}
theorem c_XI0 (Dd : Dm K (He.ga K "NoStripes") "__init__" "NoStripes.__init__" s_NoStripes___init__ []) (gk : Gk K mg) (hO : Oxk K 0) : XI Pg w K mg base "NoStripes" 1 (He.ga K "NoStripes") ["number"] := by
  exact xi_one Dd sc_NoStripes___init__ (fun _ _ _ _ _ _ us hl => match us, hl with | [_, _], _ => rfl) hO.o (gk.1 0 (by decide)) (gk.2 0 (by decide)) (hO.n "number" (by decide)) rfl (.inl rfl) (.inl rfl) (fun _ _ _ _ _ _ _ => ⟨rfl, _, rfl⟩) (by decide) (by decide) (by decide)
end
end Hd

set_option Elab.async false
set_option linter.all false
set_option maxRecDepth 100000
set_option maxHeartbeats 2000000
/-! None == x, 1 == x, "t" == x, where x is an object of a class with its own __eq__; x in [..] -/
namespace PL
open PySem PySem.Spec PyProof.Rows L2
/-- what the reflected == asks of the right one's class -/
structure Rf (K : PySem.W.Frag) (C : Addr) : Prop where
  ty : ∀ t ∈ ["NoneType", "bool", "int", "str", "tuple", "list", "dict"], PySem.W.subIn K (.ref C) (.type t) = some false
  nb : PySem.W.findIn K (.ref C) "__bool__" = some none
theorem int_eq_declines_inst (b : Int) (u : Tok) (l C dx : Addr) : Meets (Builtin.«int.__eq__» ⟨[.int b u, .ref l], []⟩) (fun _ R s => s.heap.get? l = some (PySem.W.instObj C dx) ∧ R (.ok (.ret .notImplemented)) s) :=
  .of_wp fun prog w A R s h => by obtain ⟨hp, g, d, tk, os⟩ := s; obtain ⟨hl, h⟩ := h; wp_walk using wpAny_loadPart' hl, wpAny_load hl; exact ⟨_, rfl, h⟩
theorem str_eq_declines_inst (b : Str) (u : Tok) (l C dx : Addr) : Meets (Builtin.«str.__eq__» ⟨[.str b u, .ref l], []⟩) (fun _ R s => s.heap.get? l = some (PySem.W.instObj C dx) ∧ R (.ok (.ret .notImplemented)) s) :=
  .of_wp fun prog w A R s h => by obtain ⟨hp, g, d, tk, os⟩ := s; obtain ⟨hl, h⟩ := h; wp_walk using wpAny_loadPart' hl, wpAny_load hl; exact ⟨_, rfl, h⟩
section
variable {prog : Program} {w : World} {A : Around} {E : Value → Shared → Prop} {s : Shared} {K : PySem.W.Frag} {x C L f : Addr} {h₀ : Heap} {m : Str → Option Value} {ox : Obj} {od : Option Obj} {u : Value} {T id : String}
theorem cmp_KR {Q : Value → Shared → Prop} (hu : A.units < cLine) (F : PyProof.Rows.Fr h₀ L s.heap m) (X₀ : K.In h₀) (I : PySem.W.InstAt s.heap x ox C od) (tu : s.TypeIs u T) (hsub : PySem.W.subIn K (.ref C) (.type T) = some false) (h1 : Slot T (cmpInfo .Eq).2.1 id)
    (left : ∀ Q' : Value → Shared → Prop, Q' .notImplemented s → wpAny (model prog w) A (call (.builtin id) [u, .ref x]) Q' E s)
    (hs : PySem.W.findIn K (.ref C) (cmpInfo .Eq).2.2 = some (some (.ref f))) (hf : PySem.W.isFn K (.ref f) = true)
    (h : wpAny (model prog w) A (call (.ref f) [.ref x, u]) (PySem.W.CmpBack Q) E s) : wpAny (model prog w) A (richCompare .Eq u (.ref x)) Q E s := by
  have X := X₀.keeps F.keep
  have one : wpAny (model prog w) A (tryCompare (.ref x) (cmpInfo .Eq).2.2 u) (fun r s' => ∃ v, r = some v ∧ Q v s') E s := by
    unfold tryCompare
    refine wpAny_bind (PySem.W.ifBound_K X I hs hf (wpAny_mono h (fun v s' hv => ?_) fun _ _ e => e))
    cases v <;> first | exact hv.elim | exact wpAny_pure ⟨_, rfl, hv⟩
  rcases hi : cmpInfo CmpOp.Eq with ⟨sym, f', r⟩
  rw [hi] at h1 one
  simp only [richCompare, hi, tu.oneThing_none]
  refine wpAny_holding (wpAny_bind (wpAny_cRoomFor hu ?_))
  refine wpAny_bind (wpAny_typeOf tu (wpAny_bind (I.type.here ?_)))
  rw [if_pos (by simp)]
  refine wpAny_bind ((PySem.W.looks_subIn X hsub).here ?_)
  simp only [Bool.false_eq_true, if_false, Bool.not_false, if_true]
  refine wpAny_bind (m := tryCompare u _ (.ref x)) (wpAny_tryCompare_declines tu h1 (left _ ⟨rfl, ?_⟩))
  refine wpAny_bind (m := tryCompare (.ref x) _ u) (wpAny_mono one (fun r s' z => ?_) fun _ _ e => e)
  obtain ⟨v, rfl, hq⟩ := z
  exact wpAny_pure hq
end
section
variable {X : Cx} {n : Nat}
/-- one item against x, the object at a -/
def ItemOk (X : Cx) (C : Addr) (sp : Sp) (E : XK) (P : Hp → Prop) (a : Addr) (H : Hp) (y : V) (b : Bool) : Prop :=
  (∃ p dx fs t, y = .ref p ∧ H p = some (.ins C dx fs) ∧ TyX X.K H (.ref a) t ∧ PySem.W.notFirst X.K C t = true ∧ (∀ (pins : List (Addr × Obj)) (σ : L2.St) (s : Shared), Inv X pins σ H s → p = a → b = true) ∧ sp [.ref p, .ref a] H (fun v H' => v = .bl b ∧ P H') E) ∨
  ((y = .non ∨ (∃ i, y = .int i) ∨ ∃ z, y = .str z) ∧ sp [.ref a, y] H (fun v H' => v = .bl b ∧ P H') E)
theorem eqB_own {CX : CXT} {C f : Addr} {fd : FuncData} {ps : List Str} {sp : Sp} {E : XK} {A : Around} {P : Hp → Prop} {a dx : Addr} {fs : List (Str × V)} {y : V} {u : Value} {b : Bool} {pins : List (Addr × Obj)} {σ : L2.St} {H : Hp} {s : Shared} (Fo : FnOk X.prog X.w X.K X.mg X.base CX n f fd ps sp) (hm : Meth X.K C "__eq__" f) (hrf : Rf X.K C) (hb : Binds X.K fd ps []) (hx : Passes CX X E) (hr : Room n A) (hA : A.frames = X.A.frames) (I : Inv X pins σ H s) (hP : P H) (ha : H a = some (.ins C dx fs)) (ry : RelV y u) (h : ItemOk X C sp E P a H y b) :
    wpAny (model X.prog X.w) A (eqBool u (.ref a)) (fun k s' => k = b ∧ ∃ H', Inv X pins σ H' s' ∧ P H') X.xe s := by
  obtain ⟨m, hF⟩ := I.fr
  unfold eqBool
  refine wpAny_holding ?_
  rcases h with ⟨p, dxp, fsp, t, rfl, hp, ty, hn, hpa, hsp⟩ | ⟨hy, hsp⟩
  · obtain rfl : u = .ref p := ry
    refine wpAny_ite_split (fun hab => ?_) (fun _ => ?_)
    · have e : p = a := by
        have := eq_of_beq hab
        cases this; rfl
      exact wpAny_bind (wpAny_rule (wpAny_pure ⟨(hpa pins σ s I e).symm, H, I, hP⟩))
    · obtain ⟨mA, J, _⟩ := ins_get I.hok hp
      obtain ⟨od, J, _⟩ := J.look
      obtain ⟨P', Z, p', _⟩ := kit_of I (show RelV (.ref a) (.ref a) from rfl) ty
      refine wpAny_bind (PySem.W.cmp_K (op := .Eq) (tb := t) hr.units0 hF I.ok.mod.kin J (Z.ty _ _ I.kIn p') hn hm.at_ hm.fn ?_)
      refine wpAny_mono (run_own Fo hb hx hr hA I (show RelV (.ref a) (.ref a) from rfl) hsp) (fun r s' z => ?_) fun _ _ e => e
      obtain ⟨z, H', I', rz, rfl, q⟩ := z
      cases rz
      exact wpAny_truthy_bool ⟨rfl, H', I', q⟩
  · obtain ⟨mA, J, _⟩ := ins_get I.hok ha
    obtain ⟨od, J, _⟩ := J.look
    have hob : s.heap.get? a = some (PySem.W.instObj C dx) := by
      obtain ⟨_, _, _, ob, _⟩ := (show ObjOk X.prog X.w H s.heap a (.ins C dx fs) from I.hok a _ ha)
      exact ob
    have fin : ∀ {T id : String} (tu : s.TypeIs u T) (_ : PySem.W.subIn X.K (.ref C) (.type T) = some false) (_ : Slot T (cmpInfo .Eq).2.1 id) (_ : ∀ Q' : Value → Shared → Prop, Q' .notImplemented s → wpAny (model X.prog X.w) A (call (.builtin id) [u, .ref a]) Q' X.xe s), wpAny (model X.prog X.w) A (richCompare .Eq u (.ref a)) (fun v s' => ∃ k, v = .bool k ∧ (k = b ∧ ∃ H', Inv X pins σ H' s' ∧ P H')) X.xe s := fun tu hs h1 left => by
      refine cmp_KR hr.units0 hF I.ok.mod.kin J tu hs h1 left hm.at_ hm.fn ?_
      refine wpAny_mono (run_own Fo hb hx hr hA I ry hsp) (fun r s' z => ?_) fun _ _ e => e
      obtain ⟨z, H', I', rz, rfl, q⟩ := z
      cases rz
      exact ⟨b, rfl, rfl, H', I', q⟩
    rcases hy with rfl | ⟨i, rfl⟩ | ⟨z, rfl⟩
    · obtain rfl : u = .none := ry
      refine wpAny_ite_split (fun hab => absurd (eq_of_beq hab) nofun) (fun _ => ?_)
      refine wpAny_bind (wpAny_mono (fin (T := "NoneType") rfl (hrf.ty _ (by decide)) F.slot_NoneType_eq (fun _ hq => call_gives F.slot_NoneType_eq rfl F.entry_NoneType_eq (F.args_NoneType_eq_2 _ _) (SeqAt.NoneType___eq___none_ref_0 a) hq)) (fun v s' ⟨k, e, q⟩ => ?_) fun _ _ e => e)
      subst e
      exact wpAny_truthy_bool q
    · obtain ⟨t, rfl⟩ := ry
      refine wpAny_ite_split (fun hab => absurd (eq_of_beq hab) nofun) (fun _ => ?_)
      refine wpAny_bind (wpAny_mono (fin (T := "int") rfl (hrf.ty _ (by decide)) F.slot_int_eq (fun _ hq => call_meets F.slot_int_eq rfl F.entry_int_eq (F.args_int_eq_2 _ _) (int_eq_declines_inst i t a C dx) ⟨hob, hq⟩)) (fun v s' ⟨k, e, q⟩ => ?_) fun _ _ e => e)
      subst e
      exact wpAny_truthy_bool q
    · obtain ⟨t, rfl⟩ := ry
      refine wpAny_ite_split (fun hab => absurd (eq_of_beq hab) nofun) (fun _ => ?_)
      refine wpAny_bind (wpAny_mono (fin (T := "str") rfl (hrf.ty _ (by decide)) F.slot_str_eq (fun _ hq => call_meets F.slot_str_eq rfl F.entry_str_eq (F.args_str_eq_2 _ _) (str_eq_declines_inst z t a C dx) ⟨hob, hq⟩)) (fun v s' ⟨k, e, q⟩ => ?_) fun _ _ e => e)
      subst e
      exact wpAny_truthy_bool q
end
section
variable {X : Cx} {n : Nat}
def JJ (X : Cx) (pins : List (Addr × Obj)) (σ : L2.St) (P : Hp → Prop) (s : Shared) : Prop := ∃ H, Inv X pins σ H s ∧ P H
/-- the items stay, each answers -/
def ItemsOk (X : Cx) (C : Addr) (sp : Sp) (E : XK) (P : Hp → Prop) (a l : Addr) (vs : List V) (bs : List Bool) : Prop := vs.length = bs.length ∧ ∀ H, P H → (∃ dx fs, H a = some (.ins C dx fs)) ∧ H l = some (.lst vs) ∧ ∀ (i : Nat) v b, vs[i]? = some v → bs[i]? = some b → ItemOk X C sp E P a H v b
theorem own_loop {CX : CXT} {C f : Addr} {fd : FuncData} {ps : List Str} {sp : Sp} {E : XK} {P : Hp → Prop} {a l : Addr} {vs : List V} {bs : List Bool} {pins : List (Addr × Obj)} {σ : L2.St} {R : Result → Shared → Prop} (Fo : FnOk X.prog X.w X.K X.mg X.base CX n f fd ps sp) (hm : Meth X.K C "__eq__" f) (hrf : Rf X.K C) (hb : Binds X.K fd ps []) (hx : Passes CX X E) (hr : Room (n + 1) X.A) (hi : ItemsOk X C sp E P a l vs bs) (hE : ∀ e s', X.xe e s' → R (.error e) s') (k : Nat) :
    ∀ i : Nat, vs.length - i = k → ∀ s : Shared, JJ X pins σ P s → (∀ s', JJ X pins σ P s' → R (.ok (.ret (.bool ((bs.drop i).any id)))) s') →
      wpAny (model X.prog X.w) X.A.in1 (Builtin.«list.__contains__.loop» ⟨[.ref l, .ref a, rawInt i], []⟩) (fun fin s' => match fin with | .done f => R (.ok f) s' | .again c' => c'.quiet = true ∧ codeAny (model X.prog X.w) X.A c' R s') (fun e s' => R (.error e) s') s := by
  obtain ⟨hlen, hi⟩ := hi
  induction k with
  | zero =>
    intro i hk s hJ hR
    obtain ⟨H, I, hP⟩ := id hJ
    obtain ⟨_, hl, _⟩ := hi H hP
    obtain ⟨_, its, m, rv, e⟩ := (show ObjOk X.prog X.w H s.heap l (.lst vs) from I.hok l _ hl)
    have hR' := hR s hJ
    obtain ⟨hp, g, d, tk, os⟩ := s
    wp_walk using AutoSeq1.wpAny_loadPart' e
    have hll := rv.length
    have hn : its.toArray[((i : Nat) : Int).toNat]? = none := by simp; omega
    have hd : bs.drop i = [] := by simp; omega
    rw [hd] at hR'
    rw [hn]
    wp_walk
    exact hR'
  | succ k ih =>
    intro i hk s hJ hR
    obtain ⟨H, I, hP⟩ := id hJ
    obtain ⟨⟨dx, fs, ha⟩, hl, hit⟩ := hi H hP
    obtain ⟨_, its, m, rv, e⟩ := (show ObjOk X.prog X.w H s.heap l (.lst vs) from I.hok l _ hl)
    have hll := rv.length
    have hlt : i < vs.length := by omega
    have hlt3 : i < bs.length := by omega
    obtain ⟨y, hy, ry⟩ := rv.get (List.getElem?_eq_getElem hlt)
    have hb1 := eqB_own (A := X.A.in1) Fo hm hrf hb hx hr.in1 rfl I hP ha ry (hit i _ _ (List.getElem?_eq_getElem hlt) (List.getElem?_eq_getElem hlt3))
    have hd : bs.drop i = bs[i] :: bs.drop (i + 1) := by rw [List.drop_eq_getElem_cons hlt3]
    rw [hd] at hR
    simp only [List.any_cons, id] at hR
    generalize bs[i] = b at hb1 hR
    have hn : its.toArray[((i : Nat) : Int).toNat]? = some y := by simpa using hy
    obtain ⟨hp, g, d, tk, os⟩ := s
    wp_walk using AutoSeq1.wpAny_loadPart' e
    rw [hn]
    refine wpAny_bind (wpAny_mono hb1 (fun b' s' ⟨e1, hJ'⟩ => ?_) fun e s' he => hE e s' he)
    subst e1
    cases b' with
    | true =>
      have := hR s' hJ'
      obtain ⟨hp', g', d', tk', os'⟩ := s'
      wp_walk
      exact this
    | false =>
      have hc : ((i : Int) + 1) = ((i + 1 : Nat) : Int) := by push_cast; rfl
      have ih' := ih (i + 1) (by omega) s' hJ' (fun s2 hJ2 => by simpa using hR s2 hJ2)
      obtain ⟨hp', g', d', tk', os'⟩ := s'
      wp_walk
      rw [hc]
      exact ⟨plainId_quiet MeetsSeq.plain_contains_loop _, codeAny_builtin MeetsSeq.entry_contains_loop (by
        rw [Around.under_plainId MeetsSeq.plain_contains_loop _]
        exact ih')⟩
def rInOwn (X : Cx) (C : Addr) (sp : Sp) (E : XK) (neg : Bool) : R2 := fun x y H Q => ∃ (a l : Addr) (vs : List V) (bs : List Bool) (P : Hp → Prop), x = .ref a ∧ y = .ref l ∧ P H ∧ ItemsOk X C sp E P a l vs bs ∧ ∀ H', P H' → Q (.bl (neg != bs.any id)) H'
theorem own_meets {CX : CXT} {C f : Addr} {fd : FuncData} {ps : List Str} {sp : Sp} {E : XK} {P : Hp → Prop} {a l : Addr} {vs : List V} {bs : List Bool} {pins : List (Addr × Obj)} {σ : L2.St} (Fo : FnOk X.prog X.w X.K X.mg X.base CX n f fd ps sp) (hm : Meth X.K C "__eq__" f) (hrf : Rf X.K C) (hb : Binds X.K fd ps []) (hx : Passes CX X E) (hr : Room (n + 1) X.A) (hi : ItemsOk X C sp E P a l vs bs) :
    MeetsIn X.prog X.w (Builtin.«list.__contains__» ⟨[.ref l, .ref a], []⟩) (fun A R s => A = X.A ∧ JJ X pins σ P s ∧ (∀ s', JJ X pins σ P s' → R (.ok (.ret (.bool (bs.any id)))) s') ∧ ∀ e s', X.xe e s' → R (.error e) s') := by
  intro A R s h
  obtain ⟨rfl, hJ, hR, hE⟩ := h
  have lp := own_loop Fo hm hrf hb hx hr hi hE vs.length 0 rfl s hJ (fun s' hJ' => by simpa using hR s' hJ')
  obtain ⟨H, I, hP⟩ := id hJ
  obtain ⟨_, hl, _⟩ := hi.2 H hP
  obtain ⟨_, its, m, rv, e⟩ := (show ObjOk X.prog X.w H s.heap l (.lst vs) from I.hok l _ hl)
  obtain ⟨hp, g, d, tk, os⟩ := s
  wp_walk using AutoSeq1.wpAny_loadPart' e
  exact ⟨plainId_quiet MeetsSeq.plain_contains_loop _, codeAny_builtin MeetsSeq.entry_contains_loop (by
    rw [Around.under_plainId MeetsSeq.plain_contains_loop _]
    exact lp)⟩
theorem op_inOwn {CX : CXT} {C f : Addr} {fd : FuncData} {ps : List Str} {sp : Sp} {E : XK} (Fo : FnOk X.prog X.w X.K X.mg X.base CX n f fd ps sp) (hm : Meth X.K C "__eq__" f) (hrf : Rf X.K C) (hb : Binds X.K fd ps []) (hx : Passes CX X E) (hr : Room (n + 1) X.A) : OpR X (compareOp .In) (rInOwn X C sp E false) := by
  intro pins s σ H x y v u Q I rx ry h
  obtain ⟨a, l, vs, bs, P, rfl, rfl, hP, hi, hQ⟩ := h
  obtain rfl : v = .ref a := rx
  obtain rfl : u = .ref l := ry
  obtain ⟨_, hl, _⟩ := hi.2 H hP
  obtain ⟨_, its, m, rv, e⟩ := (show ObjOk X.prog X.w H s.heap l (.lst vs) from I.hok l _ hl)
  show wpAny _ X.A (do return .bool (← contains (.ref l) (.ref a))) (EP X pins σ Q) X.xe s
  refine wpAny_bind (wpAny_contains_slot ⟨_, e, rfl⟩ F.slot_list_contains (wpAny_mono (call_meetsIn (Q := fun v s' => v = .bool (bs.any id) ∧ JJ X pins σ P s') F.slot_list_contains ⟨_, e, rfl⟩ F.entry_list_contains (F.args_list_contains_2 _ _) (own_meets (pins := pins) (σ := σ) Fo hm hrf hb hx hr hi) ⟨rfl, ⟨H, I, hP⟩, fun s' hJ => ⟨rfl, hJ⟩, fun e s' he => he⟩) (fun v s' hv => ?_) fun _ _ e => e))
  obtain ⟨rfl, H', I', hP'⟩ := hv
  exact wpAny_truthy_bool (wpAny_pure ⟨.bl _, H', I', rfl, by simpa using hQ H' hP'⟩)
theorem op_ninOwn {CX : CXT} {C f : Addr} {fd : FuncData} {ps : List Str} {sp : Sp} {E : XK} (Fo : FnOk X.prog X.w X.K X.mg X.base CX n f fd ps sp) (hm : Meth X.K C "__eq__" f) (hrf : Rf X.K C) (hb : Binds X.K fd ps []) (hx : Passes CX X E) (hr : Room (n + 1) X.A) : OpR X (compareOp .NotIn) (rInOwn X C sp E true) := by
  intro pins s σ H x y v u Q I rx ry h
  obtain ⟨a, l, vs, bs, P, rfl, rfl, hP, hi, hQ⟩ := h
  obtain rfl : v = .ref a := rx
  obtain rfl : u = .ref l := ry
  obtain ⟨_, hl, _⟩ := hi.2 H hP
  obtain ⟨_, its, m, rv, e⟩ := (show ObjOk X.prog X.w H s.heap l (.lst vs) from I.hok l _ hl)
  show wpAny _ X.A (do return .bool (!(← contains (.ref l) (.ref a)))) (EP X pins σ Q) X.xe s
  refine wpAny_bind (wpAny_contains_slot ⟨_, e, rfl⟩ F.slot_list_contains (wpAny_mono (call_meetsIn (Q := fun v s' => v = .bool (bs.any id) ∧ JJ X pins σ P s') F.slot_list_contains ⟨_, e, rfl⟩ F.entry_list_contains (F.args_list_contains_2 _ _) (own_meets (pins := pins) (σ := σ) Fo hm hrf hb hx hr hi) ⟨rfl, ⟨H, I, hP⟩, fun s' hJ => ⟨rfl, hJ⟩, fun e s' he => he⟩) (fun v s' hv => ?_) fun _ _ e => e))
  obtain ⟨rfl, H', I', hP'⟩ := hv
  exact wpAny_truthy_bool (wpAny_pure ⟨.bl _, H', I', rfl, by simpa using hQ H' hP'⟩)
end
/-! ### over data -/
section
variable {X : Cx}
/-- an item of the list: of x's class, or None, a number, a text -/
def ItD (X : Cx) (P : List D → Rs → Prop) (C : Addr) (x d : D) (b : Bool) : Prop :=
  (∃ ns fs, d = .obj C ns fs ∧ P [d, x] (.sh (.bl b)) ∧ ∀ (pins : List (Addr × Obj)) (σ : L2.St) (H : Hp) (s : Shared) (v : V), Inv X pins σ H s → Rep X.K H d v → Rep X.K H x v → b = true) ∨
  ((d = .non ∨ (∃ i, d = .int i) ∨ ∃ z, d = .str z) ∧ P [x, d] (.sh (.bl b)))
theorem itemsOk_of {P0 : List D → Rs → Prop} {C : Addr} {ns : List Str} {fs ds : List D} {bs : List Bool} {F : Fr} {Γ : Gm} {σ : L2.St} {S : Hp} {a l : Addr} {vs : List V} (c : Nf X.K C) (hlen : ds.length = bs.length) (hit : ∀ (i : Nat) d b, ds[i]? = some d → bs[i]? = some b → ItD X P0 C (.obj C ns fs) d b) (r1 : Rep X.K S (.obj C ns fs) (.ref a)) (r2 : S l = some (.lst vs)) (r3 : Reps X.K S ds vs) : ItemsOk X C (sp0 X.K P0) E0 (fun H' => ∃ S', RS X.K F Γ σ H' S' ∧ Same S S') a l vs bs := by
  refine ⟨r3.length.symm.trans hlen, fun H' ⟨S', R', ss⟩ => ?_⟩
  obtain ⟨p0, dx0, us0, e0, h1, h2, h3⟩ := id (Rep.mono ss _ _ r1)
  cases e0
  refine ⟨⟨_, _, R'.sh _ _ h1⟩, R'.sh _ _ (ss _ _ r2), fun i v b hv hb => ?_⟩
  obtain ⟨d, hd, rd⟩ := r3.get' hv
  have rx := Rep.mono ss _ _ r1
  have rd' := Rep.mono ss _ _ rd
  rcases hit i d b hd hb with ⟨ns', fs', rfl, hp, hsame⟩ | ⟨hk, hp⟩
  · obtain ⟨p, dxp, us', rfl, q1, q2, q3⟩ := id rd'
    refine .inl ⟨p, dxp, _, _, rfl, R'.sh _ _ q1, .base (.ins (R'.sh _ _ h1) c.ic.ins.cl c.ic.ins.ha c.ic.ins.hn c.ic.ins.htk c.ic.ins.hm), Nf.me, fun pins σ' s I e => ?_, ?_⟩
    · subst e
      exact hsame pins σ' H' s _ I (Rep.mono R'.sh _ _ rd') (Rep.mono R'.sh _ _ rx)
    · exact ⟨S', [_, _], _, hp, R'.sh, .cons rd' (.one rx), fun v' H2 S2 t => by
        obtain ⟨R2, ok⟩ := R'.after0 t
        exact ⟨ok, S2, R2, ss.trans t.ss⟩⟩
  · refine .inr ⟨?_, S', [_, _], _, hp, R'.sh, .cons rx (.one rd'), fun v' H2 S2 t => by
      obtain ⟨R2, ok⟩ := R'.after0 t
      exact ⟨ok, S2, R2, ss.trans t.ss⟩⟩
    rcases hk with rfl | ⟨j, rfl⟩ | ⟨z, rfl⟩
    · exact .inl rd'
    · exact .inr (.inl ⟨j, rd'⟩)
    · exact .inr (.inr ⟨z, rd'⟩)
theorem o_inOwn {P : List D → Rs → Prop} {C : Addr} {ns ps : List Str} {fs ds : List D} {bs : List Bool} {j k : Nat} (G : M0 X.prog X.w X.K X.mg X.base C "__eq__" j ps P) (c : Nf X.K C) (hrf : Rf X.K C) (g : Gd k X) (hlen : ds.length = bs.length) (hit : ∀ (i : Nat) d b, ds[i]? = some d → bs[i]? = some b → ItD X P C (.obj C ns fs) d b) (hk : j + 1 ≤ k := by decide) : OpS X (compareOp .In) (.obj C ns fs) (.lst ds) (.sh (.bl (bs.any id))) := by
  obtain ⟨f, fd, hm, hb, Fo⟩ := G.ex
  refine ⟨_, op_inOwn Fo hm hrf hb passL (g.rm.mono hk), fun Γ F σ H S x y Q R r1 r2 q => ?_⟩
  obtain ⟨a, dx, us, rfl, h1, h2, h3⟩ := id r1
  obtain ⟨l, vs, rfl, q1, q2⟩ := r2
  exact ⟨a, l, vs, bs, _, rfl, rfl, ⟨S, R, .refl _⟩, itemsOk_of (F := F) (Γ := Γ) (σ := σ) c hlen hit r1 q1 q2, fun H' ⟨S', R', ss⟩ => by simpa using q _ H' S' R' ss rfl⟩
theorem o_ninOwn {P : List D → Rs → Prop} {C : Addr} {ns ps : List Str} {fs ds : List D} {bs : List Bool} {j k : Nat} (G : M0 X.prog X.w X.K X.mg X.base C "__eq__" j ps P) (c : Nf X.K C) (hrf : Rf X.K C) (g : Gd k X) (hlen : ds.length = bs.length) (hit : ∀ (i : Nat) d b, ds[i]? = some d → bs[i]? = some b → ItD X P C (.obj C ns fs) d b) (hk : j + 1 ≤ k := by decide) : OpS X (compareOp .NotIn) (.obj C ns fs) (.lst ds) (.sh (.bl (!bs.any id))) := by
  obtain ⟨f, fd, hm, hb, Fo⟩ := G.ex
  refine ⟨_, op_ninOwn Fo hm hrf hb passL (g.rm.mono hk), fun Γ F σ H S x y Q R r1 r2 q => ?_⟩
  obtain ⟨a, dx, us, rfl, h1, h2, h3⟩ := id r1
  obtain ⟨l, vs, rfl, q1, q2⟩ := r2
  exact ⟨a, l, vs, bs, _, rfl, rfl, ⟨S, R, .refl _⟩, itemsOk_of (F := F) (Γ := Γ) (σ := σ) c hlen hit r1 q1 q2, fun H' ⟨S', R', ss⟩ => by simpa using q _ H' S' R' ss rfl⟩
/-- what stands for two plain data is the same data -/
theorem rep_py {d e : D} {pins : List (Addr × Obj)} {σ : L2.St} {H : Hp} {s : Shared} {v : V} (I : Inv X pins σ H s) (h1 : Cmp d) (h2 : Cmp e) (r1 : Rep X.K H d v) (r2 : Rep X.K H e v) (hv : ∃ u, RelV v u) : d.py = e.py := by
  obtain ⟨u, ru⟩ := hv
  obtain ⟨as, q1⟩ := Dp.reads I d.py v u (dp_of (Same.refl _) _ _ h1.1 r1) ru
  obtain ⟨bs, q2⟩ := Dp.reads I e.py v u (dp_of (Same.refl _) _ _ h2.1 r2) ru
  rw [← SeqAt.readOf_eq (SeqAt.canLay_of_shaped h1.2) q1, ← SeqAt.readOf_eq (SeqAt.canLay_of_shaped h2.2) q2]
end
end PL

set_option Elab.async false
set_option linter.all false
set_option maxRecDepth 100000
set_option maxHeartbeats 2000000
/-! d == x for all plain d, x of a class with its own __eq__; d in [x], [x].count(x) -/
namespace PL
open PySem PySem.Spec PyProof.Rows L2
theorem bool_eq_declines_inst (b : Bool) (l C dx : Addr) : Meets (Builtin.«int.__eq__» ⟨[.bool b, .ref l], []⟩) (fun _ R s => s.heap.get? l = some (PySem.W.instObj C dx) ∧ R (.ok (.ret .notImplemented)) s) :=
  .of_wp fun prog w A R s h => by obtain ⟨hp, g, d, tk, os⟩ := s; obtain ⟨hl, h⟩ := h; wp_walk using wpAny_loadPart' hl, wpAny_load hl; exact ⟨_, rfl, h⟩
section
variable {prog : Program} {w : World} {h₀ : Heap} {l x C dx : Addr}
theorem list_declines (L : PySem.W.Looks (model prog w) h₀ (isSubtype (.ref C) (.type "list")) false) : MeetsIn prog w (Builtin.«list.__eq__» ⟨[.ref l, .ref x], []⟩) (fun _ R s => (∀ b o, h₀.get? b = some o → s.heap.get? b = some o) ∧ s.TypeIs (.ref l) "list" ∧ s.heap.get? x = some (PySem.W.instObj C dx) ∧ R (.ok (.ret .notImplemented)) s) :=
  .of_wp fun A R s h => by
    obtain ⟨hk, ⟨ob, ho, hc⟩, hx, h⟩ := h
    obtain ⟨hp, g, d, tk, os⟩ := s
    repeat (any_goals (first | assumption | (with_reducible refine L _ _ _ _ hk ?_) | (with_reducible refine wpAny_loadPart' hx ?_) | (with_reducible refine wpAny_loadPart' ho ?_) | wp_step))
    refine L _ _ _ _ hk ?_
    repeat (any_goals (first | assumption | (with_reducible refine wpAny_loadPart' hx ?_) | (with_reducible refine wpAny_loadPart' ho ?_) | wp_step))
    exact ⟨_, rfl, h⟩
theorem tuple_declines (L : PySem.W.Looks (model prog w) h₀ (isSubtype (.ref C) (.type "tuple")) false) : MeetsIn prog w (Builtin.«tuple.__eq__» ⟨[.ref l, .ref x], []⟩) (fun _ R s => (∀ b o, h₀.get? b = some o → s.heap.get? b = some o) ∧ s.TypeIs (.ref l) "tuple" ∧ s.heap.get? x = some (PySem.W.instObj C dx) ∧ R (.ok (.ret .notImplemented)) s) :=
  .of_wp fun A R s h => by
    obtain ⟨hk, ⟨ob, ho, hc⟩, hx, h⟩ := h
    obtain ⟨hp, g, d, tk, os⟩ := s
    repeat (any_goals (first | assumption | (with_reducible refine L _ _ _ _ hk ?_) | (with_reducible refine wpAny_loadPart' hx ?_) | (with_reducible refine wpAny_loadPart' ho ?_) | wp_step))
    refine L _ _ _ _ hk ?_
    repeat (any_goals (first | assumption | (with_reducible refine wpAny_loadPart' hx ?_) | (with_reducible refine wpAny_loadPart' ho ?_) | wp_step))
    exact ⟨_, rfl, h⟩
theorem dict_declines (L : PySem.W.Looks (model prog w) h₀ (isSubtype (.ref C) (.type "dict")) false) : MeetsIn prog w (Builtin.«dict.__eq__» ⟨[.ref l, .ref x], []⟩) (fun _ R s => (∀ b o, h₀.get? b = some o → s.heap.get? b = some o) ∧ s.TypeIs (.ref l) "dict" ∧ s.heap.get? x = some (PySem.W.instObj C dx) ∧ R (.ok (.ret .notImplemented)) s) :=
  .of_wp fun A R s h => by
    obtain ⟨hk, ⟨ob, ho, hc⟩, hx, h⟩ := h
    obtain ⟨hp, g, d, tk, os⟩ := s
    repeat (any_goals (first | assumption | (with_reducible refine L _ _ _ _ hk ?_) | (with_reducible refine wpAny_loadPart' hx ?_) | (with_reducible refine wpAny_loadPart' ho ?_) | wp_step))
    refine L _ _ _ _ hk ?_
    repeat (any_goals (first | assumption | (with_reducible refine wpAny_loadPart' hx ?_) | (with_reducible refine wpAny_loadPart' ho ?_) | wp_step))
    exact ⟨_, rfl, h⟩
end
end PL
namespace PL
open PySem PySem.Spec PyProof.Rows L2
section
variable {X : Cx} {n : Nat}
theorem typeIs_plain {pins : List (Addr × Obj)} {σ : L2.St} {H : Hp} {s : Shared} {d : D} {v : V} {u : Value} (I : Inv X pins σ H s) (hp : d.plain = true) (r : Rep X.K H d v) (rv : RelV v u) : s.TypeIs u d.ty := by
  cases d with
  | non => rw [show v = .non from r] at rv; obtain rfl : u = .none := rv; rfl
  | bl b => rw [show v = .bl b from r] at rv; obtain rfl : u = .bool b := rv; rfl
  | int b => rw [show v = .int b from r] at rv; obtain ⟨t, rfl⟩ := rv; rfl
  | str b => rw [show v = .str b from r] at rv; obtain ⟨t, rfl⟩ := rv; rfl
  | tup ds =>
    obtain ⟨p, vs, rfl, h1, _⟩ := r
    obtain rfl : u = .ref p := rv
    rcases h1 with (h1 | ⟨o, h1⟩) | ⟨o, its, n, h1, h2, _⟩
    · obtain ⟨_, its, _, it⟩ := (show ObjOk X.prog X.w H s.heap p (.tup vs) from I.hok p _ h1)
      exact it.typeIs
    · obtain ⟨_, _, _, _, o, h1, h2, _⟩ := (show ObjOk X.prog X.w H s.heap p (.frz o (.tup vs)) from I.hok p _ h1)
      exact ⟨o, h1, h2⟩
    · exact ⟨o, I.kIn p o h1, h2⟩
  | lst ds =>
    obtain ⟨p, vs, rfl, h1, _⟩ := r
    obtain rfl : u = .ref p := rv
    obtain ⟨_, its, m, _, e⟩ := (show ObjOk X.prog X.w H s.heap p (.lst vs) from I.hok p _ h1)
    exact ⟨_, e, rfl⟩
  | dct ks ds =>
    obtain ⟨p, vs, rfl, h1, _⟩ := r
    obtain rfl : u = .ref p := rv
    obtain ⟨_, _, vs', _, o, es, ep, e1, e2, _⟩ := (show ObjOk X.prog X.w H s.heap p (.dK (ks.zip vs)) from I.hok p _ h1)
    exact ⟨o, e1, e2.1⟩
  | _ => cases hp
def rBack (K : PySem.W.Frag) (C : Addr) (sp : Sp) (E : XK) : R2 := fun x y H Q => ∃ (a dx : Addr) (fs : List (Str × V)) (d : D), y = .ref a ∧ H a = some (.ins C dx fs) ∧ d.plain = true ∧ Rep K H d x ∧ sp [.ref a, x] H (fun v H' => ∃ k, v = .bl k ∧ Q (.bl k) H') E
theorem op_backEq {CX : CXT} {C f : Addr} {fd : FuncData} {ps : List Str} {sp : Sp} {E : XK} (Fo : FnOk X.prog X.w X.K X.mg X.base CX n f fd ps sp) (hm : Meth X.K C "__eq__" f) (hrf : Rf X.K C) (hb : Binds X.K fd ps []) (hx : Passes CX X E) (hr : Room n X.A) : OpR X (compareOp .Eq) (rBack X.K C sp E) := by
  intro pins s σ H x y u v Q I rx ry h
  obtain ⟨a, dx, fs, d, rfl, ha, hd, rd, hsp⟩ := h
  obtain rfl : v = .ref a := ry
  obtain ⟨mA, J, _⟩ := ins_get I.hok ha
  obtain ⟨od, J, _⟩ := J.look
  obtain ⟨m, hF⟩ := I.fr
  have hob : s.heap.get? a = some (PySem.W.instObj C dx) := by
    obtain ⟨_, _, _, ob, _⟩ := (show ObjOk X.prog X.w H s.heap a (.ins C dx fs) from I.hok a _ ha)
    exact ob
  have tu := typeIs_plain I hd rd rx
  have LK : ∀ T : String, PySem.W.subIn X.K (.ref C) (.type T) = some false → PySem.W.Looks (model X.prog X.w) s.heap (isSubtype (.ref C) (.type T)) false := fun T e => PySem.W.looks_subIn I.kIn e
  show wpAny (model X.prog X.w) X.A (richCompare .Eq u (.ref a)) (EP X pins σ Q) X.xe s
  have fin : ∀ {T id : String} (tu : s.TypeIs u T) (_ : PySem.W.subIn X.K (.ref C) (.type T) = some false) (_ : Slot T (cmpInfo .Eq).2.1 id) (_ : ∀ Q' : Value → Shared → Prop, Q' .notImplemented s → wpAny (model X.prog X.w) X.A (call (.builtin id) [u, .ref a]) Q' X.xe s), wpAny (model X.prog X.w) X.A (richCompare .Eq u (.ref a)) (EP X pins σ Q) X.xe s := fun tu hs h1 left => by
    refine cmp_KR hr.units0 hF I.ok.mod.kin J tu hs h1 left hm.at_ hm.fn ?_
    refine wpAny_mono (run_own Fo hb hx hr rfl I rx hsp) (fun r s' z => ?_) fun _ _ e => e
    obtain ⟨z, H', I', rz, k, rfl, q⟩ := z
    cases rz
    exact ⟨.bl k, H', I', rfl, q⟩
  cases d with
  | non =>
    rw [show x = .non from rd] at rx
    obtain rfl : u = .none := rx
    exact fin (T := "NoneType") rfl (hrf.ty _ (by decide)) F.slot_NoneType_eq (fun _ hq => call_gives F.slot_NoneType_eq rfl F.entry_NoneType_eq (F.args_NoneType_eq_2 _ _) (SeqAt.NoneType___eq___none_ref_0 a) hq)
  | int i =>
    rw [show x = .int i from rd] at rx
    obtain ⟨t, rfl⟩ := rx
    exact fin (T := "int") rfl (hrf.ty _ (by decide)) F.slot_int_eq (fun _ hq => call_meets F.slot_int_eq rfl F.entry_int_eq (F.args_int_eq_2 _ _) (int_eq_declines_inst i t a C dx) ⟨hob, hq⟩)
  | str i =>
    rw [show x = .str i from rd] at rx
    obtain ⟨t, rfl⟩ := rx
    exact fin (T := "str") rfl (hrf.ty _ (by decide)) F.slot_str_eq (fun _ hq => call_meets F.slot_str_eq rfl F.entry_str_eq (F.args_str_eq_2 _ _) (str_eq_declines_inst i t a C dx) ⟨hob, hq⟩)
  | bl b =>
    rw [show x = .bl b from rd] at rx
    obtain rfl : u = .bool b := rx
    exact fin (T := "bool") rfl (hrf.ty _ (by decide)) F.slot_bool_eq (fun _ hq => call_meets F.slot_bool_eq rfl F.entry_int_eq (F.args_int_eq_2 _ _) (bool_eq_declines_inst b a C dx) ⟨hob, hq⟩)
  | tup ds =>
    obtain ⟨p, vs, rfl, _⟩ := rd
    obtain rfl : u = .ref p := rx
    exact fin (T := "tuple") tu (hrf.ty _ (by decide)) F.slot_tuple_eq (fun _ hq => call_meetsIn F.slot_tuple_eq tu F.entry_tuple_eq (F.args_tuple_eq_2 _ _) (tuple_declines (C := C) (dx := dx) (LK _ (hrf.ty _ (by decide)))) ⟨fun _ _ h => h, tu, hob, hq⟩)
  | lst ds =>
    obtain ⟨p, vs, rfl, _⟩ := rd
    obtain rfl : u = .ref p := rx
    exact fin (T := "list") tu (hrf.ty _ (by decide)) F.slot_list_eq (fun _ hq => call_meetsIn F.slot_list_eq tu F.entry_list_eq (F.args_list_eq_2 _ _) (list_declines (C := C) (dx := dx) (LK _ (hrf.ty _ (by decide)))) ⟨fun _ _ h => h, tu, hob, hq⟩)
  | dct ks ds =>
    obtain ⟨p, vs, rfl, _⟩ := rd
    obtain rfl : u = .ref p := rx
    exact fin (T := "dict") tu (hrf.ty _ (by decide)) F.slot_dict_eq (fun _ hq => call_meetsIn F.slot_dict_eq tu F.entry_dict_eq (F.args_dict_eq_2 _ _) (dict_declines (C := C) (dx := dx) (LK _ (hrf.ty _ (by decide)))) ⟨fun _ _ h => h, tu, hob, hq⟩)
  | _ => cases hd
/-- plain == own: the own == is asked -/
theorem o_backOwn {P : List D → Rs → Prop} {C : Addr} {ns ps : List Str} {fs : List D} {d : D} {j k : Nat} {b : Bool} (G : M0 X.prog X.w X.K X.mg X.base C "__eq__" j ps P) (hrf : Rf X.K C) (g : Gd k X) (hd : d.plain = true) (hp : P [.obj C ns fs, d] (.sh (.bl b))) (hk : j ≤ k := by decide) : OpS X (compareOp .Eq) d (.obj C ns fs) (.sh (.bl b)) := by
  obtain ⟨f, fd, hm, hb, Fo⟩ := G.ex
  refine ⟨_, op_backEq Fo hm hrf hb passL (g.rm.mono hk), fun Γ F σ H S x y Q R r1 r2 q => ?_⟩
  obtain ⟨p, dx, us, rfl, h1, h2, h3⟩ := id r2
  refine ⟨p, dx, _, d, rfl, R.sh _ _ h1, hd, Rep.mono R.sh _ _ r1, S, [.obj C ns fs, d], _, hp, R.sh, .cons r2 (.one r1), fun v H' S' t => ?_⟩
  obtain ⟨R', ok⟩ := R.after0 t
  rw [show v = V.bl b from ok]
  exact ⟨b, rfl, by simpa using q _ H' S' R' t.ss rfl⟩
end
end PL

set_option Elab.async false
set_option linter.all false
set_option maxRecDepth 100000
set_option maxHeartbeats 2000000
/-! t == () for tuples of whatever -/
namespace PL
open PySem PySem.Spec PyProof.Rows L2
section
variable {X : Cx}
def rEqT0 (K : PySem.W.Frag) : R2 := fun x y H Q => ∃ a b vs, x = .ref a ∧ y = .ref b ∧ SqT K H a vs ∧ SqT K H b [] ∧ Q (.bl vs.isEmpty) H
theorem op_eqT0 (hu : X.A.units < cLine) : OpR X (compareOp .Eq) (rEqT0 X.K) := by
  intro pins s σ H x y v u Q I rx ry h
  obtain ⟨a, b, vs, rfl, rfl, h1, h2, q⟩ := h
  obtain rfl : v = Value.ref a := rx
  obtain rfl : u = Value.ref b := ry
  obtain ⟨its, rv, ht, _⟩ := I.tuple h1
  obtain ⟨its2, rv2, ht2, _⟩ := I.tuple h2
  cases rv2
  obtain ⟨⟨c1, dc1, dt1, sl1⟩, ho, hc, n, hd⟩ := ht
  obtain ⟨⟨c2, dc2, dt2, sl2⟩, ho2, hc2, n2, hd2⟩ := ht2
  obtain rfl : c1 = _ := hc
  obtain rfl : dt1 = _ := hd
  obtain rfl : c2 = _ := hc2
  obtain rfl : dt2 = _ := hd2
  refine richCompare_meets_room (op := .Eq) ⟨_, ho, rfl⟩ ⟨_, ho2, rfl⟩ F.slot_tuple_eq F.entry_tuple_eq (F.args_tuple_eq_2 _ _) (SeqAt.tuple_eqAt a b its.toArray #[] n n2 dc1 dc2 sl1 sl2 (fun _ => true)) ⟨ho, ho2, fun j h1 h2 => by simp at h2, ?_⟩ hu
  have e : ((List.range (min its.toArray.size (#[] : Array Value).size)).all (fun _ => true) && its.toArray.size == (#[] : Array Value).size) = vs.isEmpty := by
    have hl := rv.length
    cases its with
    | nil => cases vs with | nil => rfl | cons x r => cases hl
    | cons y t => cases vs with | nil => cases hl | cons x r => simp
  rw [e]
  exact ⟨(fun z => by cases z), .bl vs.isEmpty, H, I, rfl, q⟩
theorem o_eqT0A {ds : List D} (hu : X.A.units < cLine) : OpS X (compareOp .Eq) (.tup ds) (.tup []) (.sh (.bl ds.isEmpty)) := ops_sc (op_eqT0 hu) (.bl _) (fun _ => rfl) fun H S x y Q s r1 r2 q => by
  obtain ⟨a, vs, rfl, h1, h2⟩ := r1
  obtain ⟨b, us, rfl, h3, h4⟩ := r2
  obtain rfl : us = [] := h4
  refine ⟨a, b, vs, rfl, rfl, same_sqt s h1, same_sqt s h3, ?_⟩
  have e : vs.isEmpty = ds.isEmpty := by
    have := h2.length
    cases ds with
    | nil => cases vs with | nil => rfl | cons x r => cases this
    | cons y t => cases vs with | nil => cases this | cons x r => rfl
  rw [e]; exact q
end
end PL

set_option Elab.async false
set_option linter.all false
set_option maxRecDepth 100000
set_option maxHeartbeats 1000000
/-! texts: f-strings, join, str(o) by an own __str__ -/
namespace PL
open PySem PySem.Spec PyProof.Rows L2
section
variable {X : Cx} {Γ Γ1 Γ2 Γ3 : Gm} {a b c e o : Ex} {pos : Pos} {x y z : Str} {i : Int}
theorem e_fmtS (h : EX X Γ e (.sh (.str x)) Γ1) (hz : x.length ≤ sizeLine) : EX X Γ (.FormattedValue e (-1) none pos) (.sh (.str x)) Γ1 := fun F σ H S Q R q =>
  pe_we (pe_fmt we_pe) (h F σ H S _ R fun v H1 S1 R1 s1 ok => .inl ⟨x, ok, hz, q _ H1 S1 R1 s1 rfl⟩)
theorem e_fmtI (h : EX X Γ e (.sh (.int i)) Γ1) (hz : i.natAbs.log2 < 1920) : EX X Γ (.FormattedValue e (-1) none pos) (.sh (.str (toString i))) Γ1 := fun F σ H S Q R q =>
  pe_we (pe_fmt we_pe) (h F σ H S _ R fun v H1 S1 R1 s1 ok => .inr ⟨i, ok, hz, q _ H1 S1 R1 s1 rfl⟩)
theorem e_js2 (h1 : EX X Γ a (.sh (.str x)) Γ1) (h2 : EX X Γ1 b (.sh (.str y)) Γ2) (hz1 : (Str.empty ++ x).length ≤ sizeLine) (hz2 : (Str.empty ++ x ++ y).length ≤ sizeLine) : EX X Γ (.JoinedStr [a, b] pos) (.sh (.str (Str.empty ++ x ++ y))) Γ2 := fun F σ H S Q R q =>
  pe_we (pe_joined (.cons we_pe (.cons we_pe .nil))) (h1 F σ H S _ R fun v H1 S1 R1 s1 ok1 => ⟨x, ok1, hz1, h2 F σ H1 S1 _ R1 fun v H2 S2 R2 s2 ok2 => ⟨y, ok2, hz2, q _ H2 S2 R2 (s1.trans s2) rfl⟩⟩)
theorem e_js3 (h1 : EX X Γ a (.sh (.str x)) Γ1) (h2 : EX X Γ1 b (.sh (.str y)) Γ2) (h3 : EX X Γ2 c (.sh (.str z)) Γ3) (hz1 : (Str.empty ++ x).length ≤ sizeLine) (hz2 : (Str.empty ++ x ++ y).length ≤ sizeLine) (hz3 : (Str.empty ++ x ++ y ++ z).length ≤ sizeLine) : EX X Γ (.JoinedStr [a, b, c] pos) (.sh (.str (Str.empty ++ x ++ y ++ z))) Γ3 := fun F σ H S Q R q =>
  pe_we (pe_joined (.cons we_pe (.cons we_pe (.cons we_pe .nil)))) (h1 F σ H S _ R fun v H1 S1 R1 s1 ok1 => ⟨x, ok1, hz1, h2 F σ H1 S1 _ R1 fun v H2 S2 R2 s2 ok2 => ⟨y, ok2, hz2, h3 F σ H2 S2 _ R2 fun v H3 S3 R3 s3 ok3 => ⟨z, ok3, hz3, q _ H3 S3 R3 ((s1.trans s2).trans s3) rfl⟩⟩⟩)
theorem e_join {ys : List Str} {apos : Pos} (ho : EX X Γ o (.sh (.str x)) Γ1) (he : EX X Γ1 e (.sh (dL ys)) Γ2) (hz : (ys.map (·.length)).sum + ys.length * x.length ≤ 16777216) (hs : starEach [e] X.env = [(false, eval e X.env)] := by rfl) (hbase : attributeBase o "join" X.env (eval o X.env) = eval o X.env := by rfl) (hline : (apos.endLine == pos.line) = true := by rfl) :
    EX X Γ (.Call (.Attribute o "join" apos) [e] [] pos) (.sh (.str (Txt.join x ys))) Γ2 := fun F σ H S Q R q => by
  refine pe_we (pe_join we_pe we_pe hs hbase hline) (ho F σ H S _ R fun v H1 S1 R1 s1 ok1 => ?_)
  obtain rfl : v = .str x := ok1
  refine ⟨⟨_, rfl⟩, he F σ H1 S1 _ R1 fun v H2 S2 R2 s2 ok2 => ?_⟩
  obtain ⟨p, vs, rfl, h1, h2⟩ := ok2
  rw [h2.strs] at h1
  exact ⟨x, p, ys, rfl, rfl, .inl (.of (R2.sh _ _ h1)), hz, q _ H2 S2 R2 (s1.trans s2) rfl⟩
end
section
variable {X : Cx} {n : Nat}
theorem run_own1 {CX : CXT} {f : Addr} {fd : FuncData} {ps : List Str} {sp : Sp} {E : XK} {A : Around} {σ : L2.St} {H : Hp} {pins : List (Addr × Obj)} {s : Shared} {a : Addr} {R : V → Hp → Prop} (F : FnOk X.prog X.w X.K X.mg X.base CX n f fd ps sp) (hb : Binds X.K fd ps []) (hx : Passes CX X E) (hr : Room n A) (hA : A.frames = X.A.frames) (I : Inv X pins σ H s) (hsp : sp [.ref a] H (fun v H' => R v H') E) :
    wpAny (model X.prog X.w) A (call (.ref f) [.ref a]) (fun w s' => ∃ v H', Inv X pins σ H' s' ∧ RelV v w ∧ R v H') X.xe s := by
  have e0 : Env0 X.prog X.w X.K X.mg X.base A X.stack s H := by
    have e := I.env0
    exact ⟨by rw [hA]; exact e.frames, e.mod, e.bs, e.bsz, e.funs, e.frf, e.hok, e.bare⟩
  have hl := F.len _ _ _ _ hsp
  refine wpAny_call (codeAny_mono (F.run A X.stack s H ⟨[.ref a], []⟩ [.ref a] [.ref a] _ E hr e0 (by
    have := hb s [.ref a] I.kIn (by simpa using hl)
    simpa using this) (.cons rfl .nil) hsp) fun r s' hq => ?_)
  cases r with
  | error e => exact hx pins σ H s e s' I hq
  | ok fl =>
    cases fl with
    | ret w =>
      obtain ⟨z, H', I', rz, q⟩ := I.after hq
      exact ⟨z, H', I', rz, q⟩
    | next => exact False.elim hq
    | brk => exact False.elim hq
    | cont => exact False.elim hq
def rStrO (C : Addr) (sp : Sp) (E : XK) : List V → Hp → VK → Prop := fun vs H Q => ∃ (a dx : Addr) (fs : List (Str × V)), vs = [.ref a] ∧ H a = some (.ins C dx fs) ∧ sp [.ref a] H (fun v H' => ∃ y : Str, v = .str y ∧ Q (.str y) H') E
theorem cr_strO {CX : CXT} {C f : Addr} {fd : FuncData} {ps : List Str} {sp : Sp} {E : XK} (F : FnOk X.prog X.w X.K X.mg X.base CX n f fd ps sp) (hm : Meth X.K C "__str__" f) (hb : Binds X.K fd ps []) (hx : Passes CX X E) (hr : Room (n + 2) X.A) : CallR X (.type "str") (rStrO C sp E) := by
  intro pins s σ H vs us Q I r h
  obtain ⟨a, dx, fs, rfl, ha, hsp⟩ := h
  rw [Vals.ref1 r]
  obtain ⟨mA, J, _⟩ := ins_get I.hok ha
  obtain ⟨od, J, _⟩ := J.look
  refine PySem.W.kso_call hr.in1.in1.units0 I.kIn J hm.at_ hm.fn ?_
  refine wpAny_mono (run_own1 (A := X.A.in1.in1) F hb hx hr.in1.in1 rfl I hsp) (fun w s' z => ?_) fun _ _ e => e
  obtain ⟨v, H', I', rv, y, rfl, q⟩ := z
  obtain ⟨t, rfl⟩ := rv
  exact ⟨.str y, H', I', ⟨t, rfl⟩, q⟩
theorem c_strO {P : List D → Rs → Prop} {C : Addr} {ns ps : List Str} {fs : List D} {j k : Nat} {y : Str} (G : M0 X.prog X.w X.K X.mg X.base C "__str__" j ps P) (g : Gd k X) (hp : P [.obj C ns fs] (.sh (.str y))) (hk : j + 2 ≤ k := by decide) : CallS X (.type "str") [.obj C ns fs] (.sh (.str y)) := by
  obtain ⟨f, fd, hm, b, Fo⟩ := G.ex
  refine ⟨_, cr_strO (E := E0) Fo hm b passL (g.rm.mono hk), fun Γ F σ H S vs Q R r q => ?_⟩
  obtain ⟨v, rfl, rp⟩ := reps1 r
  obtain ⟨a, dx, ws, rfl, h1, h2, h3⟩ := id rp
  refine ⟨a, dx, _, rfl, R.sh _ _ h1, S, [_], .sh (.str y), hp, R.sh, .one rp, fun v H' S' t => ⟨y, t.res, ?_⟩⟩
  obtain ⟨R2, ok2⟩ := R.after0 t
  exact q _ H' S' R2 t.ss rfl
end
end PL

set_option Elab.async false
set_option linter.all false
set_option maxRecDepth 100000
set_option maxHeartbeats 1000000
/-! repr: of plain data, of an object with an own __repr__; the fields !r and plain of f-strings -/
namespace PL
open PySem PySem.Spec PyProof.Rows L2
/-- data that repr shows -/
structure Shw (d : D) : Prop where
  fl : d.flat = true
  sh : d.py.showable = true
  nd : d.py.hasDict = false
  dp : d.py.depth ≤ 60
  sz : d.py.shown.length ≤ sizeLine
/-- data that are objects of their own -/
def D.box : D → Bool
  | .tup _ | .lst _ | .fls _ => true
  | _ => false
theorem box_ref {K : PySem.W.Frag} {S : Hp} {d : D} {v : V} (h : d.box = true) (r : Rep K S d v) : ∃ a : Addr, v = .ref a := by
  cases d <;> first | (cases h) | skip
  all_goals
    obtain ⟨a, _, e, _⟩ := r
    exact ⟨a, e⟩
section
variable {X : Cx} {n : Nat}
def rReprD (K : PySem.W.Frag) : List V → Hp → VK → Prop := fun vs H Q => ∃ (a : Addr) (d : PyData), vs = [.ref a] ∧ Dp K H (.ref a) d ∧ d.showable = true ∧ d.hasDict = false ∧ d.depth ≤ 60 ∧ d.shown.length ≤ sizeLine ∧ Q (.str d.shown) H
theorem cr_reprD (hg : X.A.guards = some []) (hu : X.A.units + 64 < cLine) : CallR X (.builtin "repr") (rReprD X.K) := by
  intro pins s σ H vs us Q I r h
  obtain ⟨a, d, rfl, hd, h1, h2, h3, h4, q⟩ := h
  rw [Vals.ref1 r]
  obtain ⟨as, rd⟩ := Dp.reads I d (.ref a) (.ref a) hd rfl
  exact repr_of_reads' rd h1 (PyData.noDict_hsm h2) hg (by omega) (fun _ _ e => e) (fun h' u tk hk => ⟨.str _, H, I.kept hk, ⟨u, rfl⟩, q⟩) h4
theorem c_repr {d : D} {k : Nat} (g : Gd k X) (h : Shw d) (hb : d.box = true := by rfl) : CallS X (.builtin "repr") [d] (.sh (.str d.py.shown)) := calls_sc (cr_reprD g.rm.gd g.rm.units) (.str _) (fun _ => rfl) fun H S vs Q s r q => by
  obtain ⟨v, rfl, rp⟩ := reps1 r
  obtain ⟨a, rfl⟩ := box_ref hb rp
  exact ⟨a, d.py, rfl, dp_of s _ _ h.fl rp, h.sh, h.nd, h.dp, h.sz, q⟩
/-- {x!r}: plain data -/
def tFmtRD (K : PySem.W.Frag) (te : TE) : TE := fun σ H Q => te σ H fun x H1 => ∃ (a : Addr) (d : PyData), x = .ref a ∧ Dp K H1 (.ref a) d ∧ d.showable = true ∧ d.hasDict = false ∧ d.depth ≤ 60 ∧ d.shown.length ≤ sizeLine ∧ Q (.str d.shown) H1
theorem pe_fmtRD {e : Expr} {te : TE} {pos : Pos} (hg : X.A.guards = some []) (hu : X.A.units + 64 < cLine) (he : PE X e te) : PE X (.FormattedValue e 114 none pos) (tFmtRD X.K te) := by
  refine ⟨fun pins s σ H Q I h => ?_⟩
  refine wpAny_FormattedValue_repr (thn (he.run pins s σ H _ I h) fun v s1 hv => ?_)
  obtain ⟨x, H1, I1, r1, a, d, rfl, hd, h1, h2, h3, h4, q⟩ := hv
  obtain rfl : v = .ref a := r1
  obtain ⟨as, rd⟩ := Dp.reads I1 d (.ref a) (.ref a) hd rfl
  exact pyReprObj_of_reads rd h1 (PyData.noDict_hsm h2) hg (by omega) (fun _ _ e => e) (fun h' u tk hk => wpAny_formatField_str ⟨.str _, H1, I1.kept hk, ⟨u, rfl⟩, q⟩ ⟨.str _, H1, I1.kept hk, ⟨_, rfl⟩, q⟩ h4) h4
theorem e_fmtR {Γ Γ1 : Gm} {e : Ex} {pos : Pos} {d : D} {k : Nat} (g : Gd k X) (h : EX X Γ e (.sh d) Γ1) (hs : Shw d) (hb : d.box = true := by rfl) : EX X Γ (.FormattedValue e 114 none pos) (.sh (.str d.py.shown)) Γ1 := fun F σ H S Q R q =>
  pe_we (pe_fmtRD g.rm.gd g.rm.units we_pe) (h F σ H S _ R fun v H1 S1 R1 s1 ok => by
    obtain ⟨a, rfl⟩ := box_ref hb ok
    exact ⟨a, d.py, rfl, dp_of R1.sh _ _ hs.fl ok, hs.sh, hs.nd, hs.dp, hs.sz, q _ H1 S1 R1 s1 rfl⟩)
theorem cr_reprO {CX : CXT} {C f : Addr} {fd : FuncData} {ps : List Str} {sp : Sp} {E : XK} (F : FnOk X.prog X.w X.K X.mg X.base CX n f fd ps sp) (hm : Meth X.K C "__repr__" f) (hb : Binds X.K fd ps []) (hx : Passes CX X E) (hr : Room (n + 1) X.A) : CallR X (.builtin "repr") (rStrO C sp E) := by
  intro pins s σ H vs us Q I r h
  obtain ⟨a, dx, fs, rfl, ha, hsp⟩ := h
  rw [Vals.ref1 r]
  obtain ⟨mA, J, _⟩ := ins_get I.hok ha
  obtain ⟨od, J, _⟩ := J.look
  obtain ⟨m, fr⟩ := I.fr
  refine PySem.W.repr_K hr.in1.units0 fr I.ok.mod.kin J hm.at_ hm.fn ?_
  refine wpAny_mono (run_own1 (A := X.A.in1) F hb hx hr.in1 rfl I hsp) (fun w s' z => ?_) fun _ _ e => e
  obtain ⟨v, H', I', rv, y, rfl, q⟩ := z
  obtain ⟨t, rfl⟩ := rv
  exact ⟨.str y, H', I', ⟨t, rfl⟩, q⟩
theorem c_reprO {P : List D → Rs → Prop} {C : Addr} {ns ps : List Str} {fs : List D} {j k : Nat} {y : Str} (G : M0 X.prog X.w X.K X.mg X.base C "__repr__" j ps P) (g : Gd k X) (hp : P [.obj C ns fs] (.sh (.str y))) (hk : j + 1 ≤ k := by decide) : CallS X (.builtin "repr") [.obj C ns fs] (.sh (.str y)) := by
  obtain ⟨f, fd, hm, b, Fo⟩ := G.ex
  refine ⟨_, cr_reprO (E := E0) Fo hm b passL (g.rm.mono hk), fun Γ F σ H S vs Q R r q => ?_⟩
  obtain ⟨v, rfl, rp⟩ := reps1 r
  obtain ⟨a, dx, ws, rfl, h1, h2, h3⟩ := id rp
  refine ⟨a, dx, _, rfl, R.sh _ _ h1, S, [_], .sh (.str y), hp, R.sh, .one rp, fun v H' S' t => ⟨y, t.res, ?_⟩⟩
  obtain ⟨R2, ok2⟩ := R.after0 t
  exact q _ H' S' R2 t.ss rfl
end
end PL

set_option Elab.async false
set_option linter.all false
set_option maxRecDepth 100000
set_option maxHeartbeats 1000000
/-! loops that look for the first turn that returns -/
namespace PL
open PySem PySem.Spec PyProof.Rows L2
section
variable {X : Cx} {Γ Γ1 Γ2 : Gm} {iter c : Ex} {pos px : Pos} {n k : Nat} {it : Nat → D} {x : Str} {body : List Stmt}
/-- statements that return r where b, and else go on -/
def Fin (X : Cx) (Γ : Gm) (body : List Stmt) (b : Bool) (r : Rs) (Γ1 : Gm) : Prop := match b with
  | true => ∃ Γ', SX X Γ body (.rt r Γ')
  | false => SX X Γ body (.nx Γ1)
def Fin1 (X : Cx) (Γ : Gm) (st : Stmt) (b : Bool) (r : Rs) (Γ1 : Gm) : Prop := match b with
  | true => ∃ Γ', S1 X Γ st (.rt r Γ')
  | false => S1 X Γ st (.nx Γ1)
theorem fin_for (i : Nat) (t : Nat → Bool) {r : Rs} (gd : Gd k X) (hI : IterX X (.Name x px) iter Γ n it Γ1) (hl : i < Γ1.length) (hb : ∀ j, j < n → Fin X (Γ1.set i (.sh (it j))) body (t j) r Γ1) (hs : ∀ x, foldedSetIterable iter X.env x = pure x := by intro _; rfl) (hi : X.N[i]? = some x := by rfl) (hx : Loc X.env.scope x := by first | exact Or.inl rfl | exact Or.inr rfl)
    (hf : X.fn x = true ∨ X.env.scope.names.lookup x = some .local := by first | exact .inl rfl | exact .inr rfl | assumption) : Fin1 X Γ (.For (.Name x px) iter body [] pos) ((List.range n).any t) r Γ1 := by
  rcases first_or (n := n) t with ⟨m, hm, h1, h2⟩ | h2
  · have e : (List.range n).any t = true := List.any_eq_true.mpr ⟨m, List.mem_range.mpr hm, h1⟩
    rw [e]
    have hm' := hb m hm
    rw [h1] at hm'
    obtain ⟨Γ', hm'⟩ := hm'
    refine ⟨Γ', s1_forX m gd hI (fun _ => Γ1) (fun j => Γ1.set i (.sh (it j))) .refl hm (fun j hj => g_name i gd.nd hl hi hx hf) (fun j hj => .inl ?_) hm' (.inl ⟨r, Γ', rfl, rfl⟩) hs⟩
    have := hb j (Nat.lt_trans hj hm)
    rw [h2 j hj] at this
    exact this
  · have e : (List.range n).any t = false := by
      rw [List.any_eq_false]
      intro j hj
      rw [h2 j (List.mem_range.mp hj)]; decide
    rw [e]
    refine s1_for gd hI (fun _ => Γ1) (fun j => Γ1.set i (.sh (it j))) .refl (fun j hj => g_name i gd.nd hl hi hx hf) (fun j hj => .inl ?_) hs
    have := hb j hj
    rw [h2 j hj] at this
    exact this
/-- the same with the first turn's own answer, and the rest after it -/
theorem s_scan (i : Nat) (t : Nat → Bool) (r : Nat → Rs) (r0 : Rs) (gd : Gd k X) {rest : List Stmt} (hI : IterX X (.Name x px) iter Γ n it Γ1) (hl : i < Γ1.length) (hb : ∀ j, j < n → Fin X (Γ1.set i (.sh (it j))) body (t j) (r j) Γ1) (h0 : ∃ Γ2, SX X Γ1 rest (.rt r0 Γ2)) (hs : ∀ x, foldedSetIterable iter X.env x = pure x := by intro _; rfl) (hi : X.N[i]? = some x := by rfl) (hx : Loc X.env.scope x := by first | exact Or.inl rfl | exact Or.inr rfl)
    (hf : X.fn x = true ∨ X.env.scope.names.lookup x = some .local := by first | exact .inl rfl | exact .inr rfl | assumption) : ∃ Γ2, SX X Γ (.For (.Name x px) iter body [] pos :: rest) (.rt (((List.range n).find? t).elim r0 r) Γ2) := by
  rcases first_or (n := n) t with ⟨m, hm, h1, h2⟩ | h2
  · have hm' := hb m hm
    rw [h1] at hm'
    obtain ⟨Γ', hm'⟩ := hm'
    refine ⟨Γ', ?_⟩
    rw [find_firstX hm h1 h2]
    refine s_end (s1_forX m gd hI (fun _ => Γ1) (fun j => Γ1.set i (.sh (it j))) .refl hm (fun j hj => g_name i gd.nd hl hi hx hf) (fun j hj => .inl ?_) hm' (.inl ⟨_, Γ', rfl, rfl⟩) hs)
    have := hb j (Nat.lt_trans hj hm)
    rw [h2 j hj] at this
    exact this
  · obtain ⟨Γ2, h⟩ := h0
    refine ⟨Γ2, ?_⟩
    rw [find_noneX h2]
    refine s_cons (s1_for gd hI (fun _ => Γ1) (fun j => Γ1.set i (.sh (it j))) .refl (fun j hj => g_name i gd.nd hl hi hx hf) (fun j hj => .inl ?_) hs) h
    have := hb j hj
    rw [h2 j hj] at this
    exact this
theorem fin_one {st : Stmt} {b : Bool} {r : Rs} (h : Fin1 X Γ st b r Γ1) : Fin X Γ [st] b r Γ1 := by
  cases b with
  | true => exact h.elim fun Γ' h => ⟨Γ', s_end h⟩
  | false => exact s_one h
theorem fin_cons {st : Stmt} {b : Bool} {r : Rs} (h1 : S1 X Γ st (.nx Γ1)) (h : Fin X Γ1 body b r Γ2) : Fin X Γ (st :: body) b r Γ2 := by
  cases b with
  | true => exact h.elim fun Γ' h => ⟨Γ', s_cons h1 h⟩
  | false => exact s_cons h1 h
theorem fin_wk {b : Bool} {r : Rs} (h : Fin X Γ body b r Γ1) (c : Cv X.K Γ1 Γ2) : Fin X Γ body b r Γ2 := by
  cases b with
  | true => exact h
  | false => exact s_wk h c
/-- if c: return e -/
theorem fin_if {tb : List Stmt} {b : Bool} {r : Rs} (ht : TX X Γ c b Γ1) (h : b = true → ∃ Γ', SX X Γ1 tb (.rt r Γ')) : Fin X Γ [.If c tb [] pos] b r Γ1 := by
  cases b with
  | true => exact (h rfl).elim fun Γ' h => ⟨Γ', s_ifTE ht h⟩
  | false => exact s_ifN ht s_nil
end
end PL
namespace PL
theorem fin_wk1 {X : L2.Cx} {Γ Γ1 Γ2 : Gm} {st : PySem.Stmt} {b : Bool} {r : Rs} (h : Fin1 X Γ st b r Γ1) (c : Cv X.K Γ1 Γ2) : Fin1 X Γ st b r Γ2 := by
  cases b with
  | true => exact h
  | false => exact s1_wk h c
end PL
namespace PL
open PySem PySem.Spec PyProof.Rows L2
theorem s1_ifX {X : L2.Cx} {Γ Γ1 Γ2 : Gm} {c : Ex} {tb : List PySem.Stmt} {pos : Pos} {b : Bool} (ht : TX X Γ c b Γ1) (hT : b = true → SX X Γ1 tb (.nx Γ2)) (hF : b = false → SX X Γ1 [] (.nx Γ2)) : S1 X Γ (.If c tb [] pos) (.nx Γ2) := by
  cases b with
  | true => exact s1_ifT ht (hT rfl)
  | false => exact s1_ifF ht (hF rfl)
end PL
namespace PL
open PySem PySem.Spec PyProof.Rows L2
theorem s_ifNE {X : L2.Cx} {Γ Γ1 : Gm} {c : Ex} {tb rest : List PySem.Stmt} {pos : Pos} {r : Rs} (ht : TX X Γ c false Γ1) (h : ∃ Γ', SX X Γ1 rest (.rt r Γ')) : ∃ Γ', SX X Γ (.If c tb [] pos :: rest) (.rt r Γ') := h.elim fun Γ' h => ⟨Γ', s_ifN ht h⟩
end PL

set_option Elab.async false
set_option linter.all false
set_option maxRecDepth 100000
set_option maxHeartbeats 1000000
/-! rules in the order of a walk, with states laid out slot by slot -/
namespace PL
open PySem PySem.Spec PyProof.Rows L2
inductive SetAt : Gm → Nat → Sl → Gm → Prop
  | z {s s' : Sl} {l : Gm} : SetAt (s' :: l) 0 s (s :: l)
  | s {a s : Sl} {l l' : Gm} {i : Nat} : SetAt l i s l' → SetAt (a :: l) (i + 1) s (a :: l')
theorem SetAt.eq {Γ Γ' : Gm} {i : Nat} {s : Sl} (h : SetAt Γ i s Γ') : Γ.set i s = Γ' := by
  induction h with
  | z => rfl
  | s h ih => rw [List.set_cons_succ, ih]
theorem SetAt.lt {Γ Γ' : Gm} {i : Nat} {s : Sl} (h : SetAt Γ i s Γ') : i < Γ.length := by
  induction h with
  | z => exact Nat.succ_pos _
  | s h ih => exact Nat.succ_lt_succ ih
inductive Shd : Rs → D → Prop
  | sh {d : D} : Shd (.sh d) d
  | lst {ds : List D} : Shd (.ow (.lst ds)) (.lst ds)
  | ins {C : Addr} {ns : List Str} {ds : List D} : Shd (.ow (.ins C ns ds)) (.obj C ns ds)
  | dct {ks : List Key} {ds : List D} : Shd (.ow (.dct ks ds)) (.dct ks ds)
inductive Slr : Rs → Sl → Prop
  | sh {d : D} : Slr (.sh d) (.sh d)
  | ow {o : Ob} : Slr (.ow o) (.ow o)
inductive Rea : Sl → Ob → Sl → Prop
  | ow {o o' : Ob} : Rea (.ow o) o' (.ow o')
  | pr {p : Addr} {o o' : Ob} : Rea (.pr p o) o' (.pr p o')
theorem Rea.eq {s s' : Sl} {o' : Ob} (h : Rea s o' s') : s.re o' = s' := by cases h <;> rfl
theorem Slr.eq {r : Rs} {s : Sl} (h : Slr r s) : r.sl = s := by cases h <;> rfl
theorem Slr.nb {r : Rs} {s : Sl} (h : Slr r s) : ∀ j, r ≠ .br j := by intro j z; subst z; cases h
section
variable {X : Cx} {Γ Γ1 Γ2 Γ3 Γ4 : Gm} {e a b c : Ex} {es : List Ex} {p pos : Pos} {r r1 r2 : Rs} {d d1 d2 d3 : D} {ds : List D} {j k : Nat} {ps : List Str} {x : Str} {s s' : Sl}
theorem x_sh (h : EX X Γ e r Γ1) (s : Shd r d) : EX X Γ e (.sh d) Γ1 := by
  cases s with
  | sh => exact h
  | lst => exact e_frz h
  | ins => exact e_frz h
  | dct => exact e_frz h
theorem x_cons (h : EX X Γ e r Γ1) (s : Shd r d) (h2 : AX X Γ1 es ds Γ2) (he : starEach (e :: es) X.env = (false, eval e X.env) :: starEach es X.env := by rfl) : AX X Γ (e :: es) (d :: ds) Γ2 := a_cons (x_sh h s) h2 he
theorem x_bin {op : Operator} (h1 : EX X Γ a (.sh d1) Γ1) (h2 : EX X Γ1 b (.sh d2) Γ2) (ho : OpS X (binaryOp op) d1 d2 r) : EX X Γ (.BinOp a op b pos) r Γ2 := e_bin ho h1 h2
theorem x_cmp {op : CmpOp} (h1 : EX X Γ a (.sh d1) Γ1) (h2 : EX X Γ1 b (.sh d2) Γ2) (ho : OpS X (compareOp op) d1 d2 r) (hm : behindInMarks op b = false := by rfl) : EX X Γ (.Compare a [op] [b] pos) r Γ2 := e_cmp ho h1 h2 hm
theorem y_cmp {op : CmpOp} {k : Bool} (h1 : EX X Γ a (.sh d1) Γ1) (h2 : EX X Γ1 b (.sh d2) Γ2) (ho : OpS X (compareOp op) d1 d2 (.sh (.bl k))) (hm : behindInMarks op b = false := by rfl) : TX X Γ (.Compare a [op] [b] pos) k Γ2 := t_cmp ho h1 h2 hm
theorem x_callB {id : String} (hm : X.mg x = none) (hv : bootBuiltins x = some (.builtin id)) (ha : AX X Γ (e :: es) ds Γ1) (hc : CallS X (.builtin id) ds r) (hg : Gl X x := by rfl) (hn : x ≠ "__name__" := by decide) (hdb : (x == ("__debug__" : Str)) = false := by decide) (he : starEach (e :: es) X.env = (false, eval e X.env) :: starEach es X.env := by rfl) (hpl : (backTo pos (starEach es X.env)).any (·.1) = false := by rfl) : EX X Γ (.Call (.Name x p) (e :: es) [] pos) r Γ1 := e_callB hc hm hv ha hg hn hdb he hpl
theorem x_callTy {T : String} (hm : X.mg x = none) (hv : bootBuiltins x = some (.type T)) (ha : AX X Γ (e :: es) ds Γ1) (hc : CallS X (.type T) ds r) (hg : Gl X x := by rfl) (hn : x ≠ "__name__" := by decide) (hdb : (x == ("__debug__" : Str)) = false := by decide) (he : starEach (e :: es) X.env = (false, eval e X.env) :: starEach es X.env := by rfl) (hpl : (backTo pos (starEach es X.env)).any (·.1) = false := by rfl) : EX X Γ (.Call (.Name x p) (e :: es) [] pos) r Γ1 := e_callTy hc hm hv ha hg hn hdb he hpl
theorem x_slice {lo hi : Option Ex} {i j : Option Int} {p2 : Pos} (h1 : EX X Γ a (.sh d) Γ1) (hl : PX X Γ1 lo i Γ2) (hh : PX X Γ2 hi j Γ3) (ho : SlS X d i j r) : EX X Γ (.Subscript a (.Slice lo hi none p2) pos) r Γ3 := e_slice ho h1 hl hh
theorem x_c1 {P : Ob → List D → Rs → Ob → Prop} {y : Str} {py : Pos} {s0 : Sl} {o o0 o' : Ob} (i : Nat) (G : C1 X.prog X.w X.K X.mg X.base x j ps P) (g : Gd k X) (h0 : Has Γ i s0 o0) (ha : AX X Γ es ds Γ1) (h1 : Has Γ1 i s o) (hp : P o ds r o') (hr : Rea s o' s') (ht : SetAt Γ1 i s' Γ2)
    (hk : j ≤ k := by decide) (hg : Gl X x := by rfl) (hN : X.N[i]? = some y := by rfl) (hv : Vis X.env.scope y := by first | exact Or.inl rfl | exact Or.inr (Or.inl rfl) | exact Or.inr (Or.inr rfl)) (hyd : (y == ("__debug__" : Str)) = false := by decide) (hcd : (y == ("__classdict__" : Str)) = false := by decide)
    (hdb : (x == ("__debug__" : Str)) = false := by decide) (he : starEach (.Name y py :: es) X.env = (false, eval (.Name y py) X.env) :: starEach es X.env := by rfl) (hpl : (backTo pos (starEach es X.env)).any (·.1) = false := by rfl) : EX X Γ (.Call (.Name x p) (.Name y py :: es) [] pos) r Γ2 := by
  have h := e_c1 (pos := pos) (p := p) i G g h0 ha h1 hp hk hg hN hv hyd hcd hdb he hpl
  rw [hr.eq, ht.eq] at h
  exact h
theorem z_set (i : Nat) {pos' : Pos} (nd : X.N.Nodup) (h : EX X Γ e r Γ1) (hr : Slr r s) (ht : SetAt Γ1 i s Γ2) (hi : X.N[i]? = some x := by rfl) (hx : Loc X.env.scope x := by first | exact Or.inl rfl | exact Or.inr rfl)
    (hs : swapsWith e (some (.Name x pos')) pos.line X.env = pure false := by rfl) (hf : X.fn x = true ∨ X.env.scope.names.lookup x = some .local := by first | exact .inl rfl | exact .inr rfl | assumption) : S1 X Γ (.Assign [.Name x pos'] e pos) (.nx Γ2) := by
  have q := s1_set (pos := pos) (pos' := pos') i nd h ht.lt hr.nb hi hx hs hf
  rw [hr.eq, ht.eq] at q
  exact q
theorem z_aug (i : Nat) {op : Operator} {pos' : Pos} (nd : X.N.Nodup) (h0 : Γ[i]? = some (.sh d1)) (h : EX X Γ e (.sh d2) Γ1) (hp : InpS X op d1 d2 d) (ht : SetAt Γ1 i (.sh d) Γ2) (hi : X.N[i]? = some x := by rfl) (hx : Loc X.env.scope x := by first | exact Or.inl rfl | exact Or.inr rfl)
    (hf : X.fn x = true ∨ X.env.scope.names.lookup x = some .local := by first | exact .inl rfl | exact .inr rfl | assumption) : S1 X Γ (.AugAssign (.Name x pos') op e pos) (.nx Γ2) := by
  have q := s1_aug (pos := pos) (pos' := pos') i nd hp h0 h ht.lt hi hx hf
  rw [ht.eq] at q
  exact q
theorem z_g (i : Nat) (nd : X.N.Nodup) (ht : SetAt Γ i (.sh d) Γ1) (hi : X.N[i]? = some x := by rfl) (hx : Loc X.env.scope x := by first | exact Or.inl rfl | exact Or.inr rfl) (hf : X.fn x = true ∨ X.env.scope.names.lookup x = some .local := by first | exact .inl rfl | exact .inr rfl | assumption) : GX X (.Name x pos) Γ d Γ1 := by
  have h := g_name (pos := pos) (d := d) (Γ := Γ) i nd ht.lt hi hx hf
  rw [ht.eq] at h
  exact h
theorem z_wk {st : List Stmt} (h : SX X Γ st (.nx Γ1)) (w : Wk Γ1 Γ2) : SX X Γ st (.nx Γ2) := s_wk h w.cv
theorem s_ifs {A B rest : List Stmt} {o : Out} (h : TX X Γ c true Γ1) (h2 : SX X Γ1 A (.nx Γ2)) (h3 : SX X Γ2 rest o) : SX X Γ (.If c A B pos :: rest) o := s_ifT h h2 h3
end
end PL
namespace PL
open PySem PySem.Spec PyProof.Rows L2
section
variable {X : Cx} {Γ Γ1 Γ2 : Gm} {e : Ex} {r : Rs} {s s' : Sl} {o' : Ob} {i : Nat}
theorem x_re (h : EX X Γ e r (Γ1.set i (s.re o'))) (hr : Rea s o' s') (ht : SetAt Γ1 i s' Γ2) : EX X Γ e r Γ2 := by
  rw [hr.eq, ht.eq] at h; exact h
theorem z_end {st : Stmt} {o : Out} (h : S1 X Γ st o) (ho : o.leaves = true := by rfl) {rest : List Stmt} : SX X Γ (st :: rest) o := s_end h ho
end
end PL
namespace PL
open PySem PySem.Spec PyProof.Rows L2
theorem s1_asgW {X : Cx} {Γ Γ1 Γ2 : Gm} {e tg : Ex} {d : D} {pos : Pos} (h : EX X Γ e (.sh d) Γ1) (hg : GX X tg Γ1 d Γ2) (hs : swapsWithSole [tg] e pos.line X.env = pure false := by rfl) (hw : swappedStores [tg] e X.env = pure none := by rfl) (h1 : (assignEach [tg] X.env).map (·.2) = [assign tg X.env] := by rfl) : S1 X Γ (.Assign [tg] e pos) (.nx Γ2) := s1_asg hg h hs hw h1
end PL
namespace PL
open PySem PySem.Spec PyProof.Rows L2
theorem end1 {X : Cx} {Γ Γ' : Gm} {body : List Stmt} {r : Rs} {s : Sl} {i : Nat} (h : SX X Γ body (.rt r Γ')) (e : Γ'[i]? = some s) : ∃ Γ', Ends1 X Γ body r Γ' ∧ Γ'[i]? = some s := ⟨Γ', .inl h, e⟩
end PL

set_option Elab.async false
set_option linter.all false
set_option maxRecDepth 100000
set_option maxHeartbeats 2000000
/-! t * 1 is t itself -/
namespace PL
open PySem PySem.Spec PyProof.Rows L2
open AutoSeq1 (wpAny_loadPart')
theorem tuple_mul1 (l : Addr) (items : Array Value) (n : Nat) (dd : Option Addr) (sl : Array (Option Value)) (u : Tok) : Meets (Builtin.«tuple.__mul__» ⟨[.ref l, .int 1 u], []⟩) (fun _ R s => s.heap.get? l = some { cls := .type "tuple", dict := dd, data := .seq items n, slots := sl } ∧ R (.ok (.ret (Value.ref l))) s) :=
  .of_wp fun prog w A R s h => by
    obtain ⟨hp, g, d, tk, os⟩ := s
    obtain ⟨hl, h⟩ := h
    have f1 := AutoSeq1.idx_int
    have c1 : (items.isEmpty || (1 : Int) == 1) = true := by simp
    wp_walk using wpAny_loadPart' hl
    exact ⟨_, rfl, h⟩
def rRep1 (K : PySem.W.Frag) : R2 := fun x y H Q => ∃ l xs, x = .ref l ∧ y = .int 1 ∧ SqT K H l xs ∧ Q (.ref l) H
section
variable {X : Cx} {ds : List D}
theorem op_rep1 : OpR X (binaryOp .Mult) (rRep1 X.K) := by
  intro pins s σ H x y v u Q I rx ry h
  obtain ⟨l, xs, rfl, rfl, hT, q⟩ := h
  cases rx
  obtain ⟨t, rfl⟩ := ry
  obtain ⟨its, r, ⟨⟨cls, dd, data, sl⟩, ho, hc, n, hd⟩, hs⟩ := I.tuple hT
  simp only at hc hd
  subst hc hd
  exact wpAny_binaryOp_repeat_ref (T := "tuple") (U := "int") (by decide) ⟨_, ho, rfl⟩ (fun s' => typeIs_int s' 1 t) noFill_tuple_mul F.fills_int_mul F.slot_int_rmul repeat_tuple F.slot_int_index.lookup
    (call_meets F.slot_int_rmul (typeIs_int s 1 t) F.entry_int_rmul (F.args_int_rmul_2 _ _) (int_rmul_tuple 1 t l its.toArray n dd sl) ⟨ho, rfl, ⟨_, ho, rfl⟩, call_meets F.slot_tuple_mul ⟨_, ho, rfl⟩ F.entry_tuple_mul (F.args_tuple_mul_2 _ _) (tuple_mul1 l its.toArray n dd sl t) ⟨ho, .ref l, H, I, rfl, q⟩⟩)
theorem o_rep1 : OpS X (binaryOp .Mult) (.tup ds) (.int 1) (.sh (.tup ds)) := ⟨_, op_rep1, fun Γ F σ H S x y Q R r1 r2 q => by
  obtain ⟨p, vs, rfl, h3, h4⟩ := id r1
  exact ⟨p, vs, rfl, r2, same_sqt R.sh h3, q _ H S R (.refl _) r1⟩⟩
end
end PL

set_option Elab.async false
set_option linter.all false
set_option maxRecDepth 100000
set_option maxHeartbeats 2000000
/-! t * 0 is an empty tuple; () * k is () itself -/
namespace PL
open PySem PySem.Spec PyProof.Rows L2
open AutoSeq1 (wpAny_loadPart')
theorem tuple_mul0 (l : Addr) (items : Array Value) (n : Nat) (dd : Option Addr) (sl : Array (Option Value)) (u : Tok) (hi : items.isEmpty = false) : Meets (Builtin.«tuple.__mul__» ⟨[.ref l, .int 0 u], []⟩) (fun _ R s => s.heap.get? l = some { cls := .type "tuple", dict := dd, data := .seq items n, slots := sl } ∧
      R (.ok (.ret (Value.ref s.heap.objs.size))) { s with heap := s.heap.push { cls := Value.type "tuple", data := Data.seq #[] }, toks := s.toks }) :=
  .of_wp fun prog w A R s h => by
    obtain ⟨hp, g, d, tk, os⟩ := s
    obtain ⟨hl, h⟩ := h
    have f1 := AutoSeq1.idx_int
    have c1 : (items.isEmpty || (0 : Int) == 1) = false := by rw [hi]; rfl
    have c2 : (decide ((0 : Int) ≤ 0) || items.isEmpty) = true := rfl
    wp_walk using wpAny_loadPart' hl
    repeat (first
      | (refine wpAny_ite_false (decide_eq_false (by rw [c1]; exact Bool.false_ne_true)) ?_; wp_walk using wpAny_loadPart' hl)
      | (refine wpAny_ite_true (decide_eq_true c2) ?_; wp_walk using wpAny_loadPart' hl))
    exact ⟨_, rfl, h⟩
theorem tuple_mulE (l : Addr) (n : Nat) (dd : Option Addr) (sl : Array (Option Value)) (x : Int) (u : Tok) (c0 : (decide (x < -(2 ^ 63)) || decide (x ≥ 2 ^ 63)) = false) : Meets (Builtin.«tuple.__mul__» ⟨[.ref l, .int x u], []⟩) (fun _ R s => s.heap.get? l = some { cls := .type "tuple", dict := dd, data := .seq #[] n, slots := sl } ∧ R (.ok (.ret (Value.ref l))) s) :=
  .of_wp fun prog w A R s h => by
    obtain ⟨hp, g, d, tk, os⟩ := s
    obtain ⟨hl, h⟩ := h
    have f1 := AutoSeq1.idx_int
    wp_walk using wpAny_loadPart' hl
    repeat (first
      | (refine wpAny_ite_false (decide_eq_false (by rw [c0]; exact Bool.false_ne_true)) ?_; wp_walk using wpAny_loadPart' hl))
    exact ⟨_, rfl, h⟩
def rRep0 (K : PySem.W.Frag) : R2 := fun x y H Q => ∃ l xs, x = .ref l ∧ y = .int 0 ∧ SqT K H l xs ∧ xs ≠ [] ∧ ∀ p, H p = none → Q (.ref p) (upd H p (.tup []))
def rRepE (K : PySem.W.Frag) : R2 := fun x y H Q => ∃ l k, x = .ref l ∧ y = .int k ∧ -(2 ^ 63) ≤ k ∧ k < 2 ^ 63 ∧ SqT K H l [] ∧ Q (.ref l) H
section
variable {X : Cx} {ds : List D}
theorem op_rep0 : OpR X (binaryOp .Mult) (rRep0 X.K) := by
  intro pins s σ H x y v u Q I rx ry h
  obtain ⟨l, xs, rfl, rfl, hT, hne, q⟩ := h
  cases rx
  obtain ⟨t, rfl⟩ := ry
  obtain ⟨its, r, ⟨⟨cls, dd, data, sl⟩, ho, hc, n, hd⟩, hs⟩ := I.tuple hT
  simp only at hc hd
  subst hc hd
  have hi : its.toArray.isEmpty = false := by
    cases its with
    | nil => exact absurd (List.eq_nil_of_length_eq_zero (by rw [r.length]; rfl)) hne
    | cons a b => rfl
  exact wpAny_binaryOp_repeat_ref (T := "tuple") (U := "int") (by decide) ⟨_, ho, rfl⟩ (fun s' => typeIs_int s' 0 t) noFill_tuple_mul F.fills_int_mul F.slot_int_rmul repeat_tuple F.slot_int_index.lookup
    (call_meets F.slot_int_rmul (typeIs_int s 0 t) F.entry_int_rmul (F.args_int_rmul_2 _ _) (int_rmul_tuple 0 t l its.toArray n dd sl) ⟨ho, rfl, ⟨_, ho, rfl⟩, call_meets F.slot_tuple_mul ⟨_, ho, rfl⟩ F.entry_tuple_mul (F.args_tuple_mul_2 _ _) (tuple_mul0 l its.toArray n dd sl t hi) ⟨ho, .ref s.heap.objs.size, _, I.laid (t' := s.toks) (o := .tup []) (fun b ob q => Heap.get?_push_of_some _ q) (Nat.le_refl _) ⟨Nat.zero_le _, _, .nil, IsTup.new _ _⟩, rfl, q _ (I.hok.fresh (Nat.le_refl _))⟩⟩)
theorem op_repE : OpR X (binaryOp .Mult) (rRepE X.K) := by
  intro pins s σ H x y v u Q I rx ry h
  obtain ⟨l, k, rfl, rfl, k0, k1, hT, q⟩ := h
  cases rx
  obtain ⟨t, rfl⟩ := ry
  obtain ⟨its, r, ⟨⟨cls, dd, data, sl⟩, ho, hc, n, hd⟩, hs⟩ := I.tuple hT
  simp only at hc hd
  subst hc hd
  cases r
  have c0 : (decide (k < -(2 ^ 63)) || decide (k ≥ 2 ^ 63)) = false := by
    rw [decide_eq_false (by omega), decide_eq_false (by omega)] <;> rfl
  exact wpAny_binaryOp_repeat_ref (T := "tuple") (U := "int") (by decide) ⟨_, ho, rfl⟩ (fun s' => typeIs_int s' k t) noFill_tuple_mul F.fills_int_mul F.slot_int_rmul repeat_tuple F.slot_int_index.lookup
    (call_meets F.slot_int_rmul (typeIs_int s k t) F.entry_int_rmul (F.args_int_rmul_2 _ _) (int_rmul_tuple k t l #[] n dd sl) ⟨ho, rfl, ⟨_, ho, rfl⟩, call_meets F.slot_tuple_mul ⟨_, ho, rfl⟩ F.entry_tuple_mul (F.args_tuple_mul_2 _ _) (tuple_mulE l n dd sl k t c0) ⟨ho, .ref l, H, I, rfl, q⟩⟩)
theorem o_rep0 (h : ds ≠ []) : OpS X (binaryOp .Mult) (.tup ds) (.int 0) (.sh (.tup [])) := ⟨_, op_rep0, fun Γ F σ H S x y Q R r1 r2 q => by
  obtain ⟨p, vs, rfl, h3, h4⟩ := id r1
  refine ⟨p, vs, rfl, r2, same_sqt R.sh h3, fun e => h (List.eq_nil_of_length_eq_zero (by rw [h4.length, e]; rfl)), fun l n => ?_⟩
  obtain ⟨R2, s2⟩ := R.laid (o := .tup []) n
  exact q _ _ _ R2 s2 ⟨l, _, rfl, .of upd_same, rfl⟩⟩
theorem o_repE {k : Int} (k0 : -(2 ^ 63) ≤ k) (k1 : k < 2 ^ 63) : OpS X (binaryOp .Mult) (.tup []) (.int k) (.sh (.tup [])) := ⟨_, op_repE, fun Γ F σ H S x y Q R r1 r2 q => by
  obtain ⟨p, vs, rfl, h3, h4⟩ := id r1
  obtain rfl : vs = [] := h4
  exact ⟨p, k, rfl, r2, k0, k1, same_sqt R.sh h3, q _ H S R (.refl _) r1⟩⟩
end
end PL

set_option Elab.async false
set_option linter.all false
set_option maxRecDepth 100000
set_option maxHeartbeats 1000000
namespace PL
open PySem PySem.Spec PyProof.Rows L2
section
variable {X : Cx} {Γ Γ1 Γ2 Γ3 Γ4 : Gm} {e a b : Ex} {pos : Pos} {k' : Nat} {d : D}
theorem e_clear {i : Nat} {s : Sl} {x : Str} {ds : List D} {apos p : Pos} (h1 : Has Γ i s (.lst ds)) (hN : X.N[i]? = some x := by rfl) (hv : Vis X.env.scope x := by first | exact Or.inl rfl | exact Or.inr (Or.inl rfl) | exact Or.inr (Or.inr rfl)) (hd : (x == ("__debug__" : Str)) = false := by decide)
    (hcd : (x == ("__classdict__" : Str)) = false := by decide) (hbase : attributeBase (.Name x p) "clear" X.env (eval (.Name x p) X.env) = eval (.Name x p) X.env := by rfl) (hline : (apos.endLine == pos.line) = true := by rfl) :
    EX X Γ (.Call (.Attribute (.Name x p) "clear" apos) [] [] pos) (.sh .non) (Γ.set i (s.re (.lst []))) := fun F σ H S Q R q => by
  obtain ⟨l, own1, vs, hl, rp⟩ := R.has h1
  refine pe_we (pe_bm0 PySem.F.plainAttrs_list PySem.F.slot_list_clear PySem.F.type_list_clear mt_clear (pe_var hN hv hd hcd) hbase hline) ⟨_, own1.2, .inl ⟨rfl, _, .of hl⟩, ?_⟩
  exact ⟨l, vs, rfl, rfl, hl, q _ _ S (R.chg own1 h1.1 ⟨_, upd_same, .nil⟩) (.refl _) rfl⟩
/-- a, b = x, y: shared data, and a new object -/
theorem s1_parSO (i j : Nat) {x y : Str} {px py pt : Pos} {kt k2 pt2} {u : Ob} (g : Gd k' X) (h : EX X Γ a (.sh d) Γ1) (h' : EX X Γ1 b (.ow u) Γ2) (t1 : SetAt Γ2 i (.sh d) Γ3) (t2 : SetAt Γ3 j (.ow u) Γ4) (hij : i ≠ j := by decide) (hi : X.N[i]? = some x := by rfl) (hj : X.N[j]? = some y := by rfl)
    (hx : X.env.scope.names.lookup x = some .local := by rfl) (hy : X.env.scope.names.lookup y = some .local := by rfl)
    (hw : swappedStores [.Tuple [.Name x px, .Name y py] kt pt] (.Tuple [a, b] k2 pt2) X.env = pure (some [x, y]) := by rfl) (hs : swapsWithSole [.Tuple [.Name x px, .Name y py] kt pt] (.Tuple [a, b] k2 pt2) pos.line X.env = pure false := by rfl)
    (he : starEach [a, b] X.env = (false, eval a X.env) :: starEach [b] X.env := by rfl) (he2 : starEach [b] X.env = (false, eval b X.env) :: starEach [] X.env := by rfl) :
    S1 X Γ (.Assign [.Tuple [.Name x px, .Name y py] kt pt] (.Tuple [a, b] k2 pt2) pos) (.nx Γ4) := fun F σ H S D R q => by
  refine ps_w1 (ps_par g.calm g.nd hi hj hij hx hy (pa_cons we_pe (pa_cons we_pe pa_nil he2) he) hw hs) ?_
  refine h F σ H S _ R fun v H1 S1 R1 s1 ok1 => ?_
  refine h' F σ H1 S1 _ R1 fun v2 H2 S2 R2 s2 ok2 => ?_
  have ok1' : RsOk X.K F Γ2 σ H2 S2 (.sh d) v := Rep.mono s2 _ _ ok1
  have hl := t1.lt
  have R3 := R2.put (i := i) hl ok1' (fun _ z => by cases z)
  have e3 : Γ2.set i (Rs.sh d).sl = Γ3 := t1.eq
  rw [e3] at R3
  have R4 := R3.put (r := .ow u) (v := v2) (i := j) t2.lt ?_ (fun _ z => by cases z)
  · have e4 : Γ3.set j (Rs.ow u).sl = Γ4 := t2.eq
    rw [e4] at R4
    exact ⟨v, v2, rfl, q _ H2 S2 R4 (s1.trans s2)⟩
  · obtain ⟨a2, rfl, m1, m2, ob2, no2⟩ := ok2
    refine ⟨a2, rfl, m1, m2, ob2, fun ⟨l, ow⟩ => ?_⟩
    by_cases hli : l = i
    · subst hli
      rw [← e3] at ow
      have p1 := ow.1
      rw [List.getElem?_set_self hl] at p1
      rcases p1 with ⟨o, z⟩ | ⟨p, o, z⟩ <;> cases z
    · refine no2 ⟨l, ?_⟩
      obtain ⟨p1, p2⟩ := ow
      rw [← e3] at p1
      rw [List.getElem?_set_ne (Ne.symm hli)] at p1 p2
      exact ⟨p1, p2⟩
/-- a, b = x, y: shared data both -/
theorem s1_parSS (i j : Nat) {x y : Str} {px py pt : Pos} {kt k2 pt2} {d2 : D} (g : Gd k' X) (h : AX X Γ [a, b] [d, d2] Γ2) (t1 : SetAt Γ2 i (.sh d) Γ3) (t2 : SetAt Γ3 j (.sh d2) Γ4) (hij : i ≠ j := by decide) (hi : X.N[i]? = some x := by rfl) (hj : X.N[j]? = some y := by rfl)
    (hx : X.env.scope.names.lookup x = some .local := by rfl) (hy : X.env.scope.names.lookup y = some .local := by rfl)
    (hw : swappedStores [.Tuple [.Name x px, .Name y py] kt pt] (.Tuple [a, b] k2 pt2) X.env = pure (some [x, y]) := by rfl) (hs : swapsWithSole [.Tuple [.Name x px, .Name y py] kt pt] (.Tuple [a, b] k2 pt2) pos.line X.env = pure false := by rfl) :
    S1 X Γ (.Assign [.Tuple [.Name x px, .Name y py] kt pt] (.Tuple [a, b] k2 pt2) pos) (.nx Γ4) := by
  have l2 := t2.lt
  have q := s1_par (pos := pos) (px := px) (py := py) (pt := pt) (kt := kt) (k2 := k2) (pt2 := pt2) i j g h t1.lt (by rw [← t1.eq, List.length_set] at l2; exact l2) hij hi hj hx hy hw hs
  rw [t1.eq, t2.eq] at q
  exact q
end
/-! cuts by whole numbers -/
theorem cut_toI {α : Type} (xs : List α) {k : Int} (h : 0 ≤ k) : cutL xs none (some k) = xs.take k.toNat := by
  have := cut_to xs k.toNat
  rwa [show ((k.toNat : Nat) : Int) = k by omega] at this
theorem cut_fromI {α : Type} (xs : List α) {k : Int} (h : 0 ≤ k) : cutL xs (some k) none = xs.drop k.toNat := by
  have := cut_from xs k.toNat
  rwa [show ((k.toNat : Nat) : Int) = k by omega] at this
end PL

set_option Elab.async false
set_option linter.all false
set_option maxRecDepth 100000
set_option maxHeartbeats 1000000
/-! isinstance(x, (tuple, list)); == of empty dicts -/
namespace PL
open PySem PySem.Spec PyProof.Rows L2
section
variable {X : Cx} {d : D}
def rIsS (K : PySem.W.Frag) : List V → Hp → VK → Prop := fun xs H Q => ∃ (x : V) (tp : Addr) (cs : List V) (t : Value) (us : List Value) (b : Bool), xs = [x, .ref tp] ∧ SqT K H tp cs ∧ Paired ClsV cs us ∧ TyX K H x t ∧ PySem.W.kitAny K t us = some b ∧ Q (.bl b) H
theorem call_isS : CallR X (.builtin "isinstance") (rIsS X.K) := by
  rintro pins s σ H xs us Q I r ⟨x, tp, cs, t, ws, b, rfl, hT, k, ty, e, q⟩
  obtain ⟨u1, u2, rfl, r1, r2⟩ := vals2 r
  obtain rfl : u2 = Value.ref tp := r2
  obtain ⟨P, Z, p, hx⟩ := kit_of I r1 ty
  have key : ∃ (o : Obj) (its : List Value), s.heap.get? tp = some o ∧ o.cls = .type "tuple" ∧ (∃ n, o.data = .seq its.toArray n) ∧ Vals cs its := by
    rcases hT with (h | ⟨o, h⟩) | ⟨o, its, n, h1, h2, h3, _, h4⟩
    · obtain ⟨_, its, rv, o, h1, h2, n, h3⟩ := (show ObjOk X.prog X.w H s.heap tp (.tup cs) from I.hok tp _ h)
      exact ⟨o, its, h1, h2, ⟨n, h3⟩, rv⟩
    · obtain ⟨h0, _, its, rv, o', h1, h2, n, h3⟩ := (show ObjOk X.prog X.w H s.heap tp (.frz o (.tup cs)) from I.hok tp _ h)
      exact ⟨o', its, h1, h2, ⟨n, h3⟩, rv⟩
    · exact ⟨o, its.toList, I.kIn _ _ h1, h2, ⟨n, h3⟩, h4⟩
  obtain ⟨⟨oc, od, dt, sl⟩, its, h1, h2, ⟨n, h3⟩, rv⟩ := key
  have e3 := ClsV.all k rv
  subst e3
  dsimp only at h2 h3
  subst h2 h3
  exact PySem.W.kia_tup Z I.kIn p h1 e hx fun tk => ⟨.bl b, H, I.tok tk, rfl, q⟩
theorem c_isTL (hp : d.plain = true) : CallS X (.builtin "isinstance") [d, .tup [.raw (.ty "tuple"), .raw (.ty "list")]] (.sh (.bl (isTup d || isLst d))) := calls_sc call_isS (.bl _) (fun _ => rfl) fun H S vs Q s r q => by
  obtain ⟨v, _, rfl, r1, u, _, rfl, ⟨a, ws, rfl, h1, h2⟩, rfl⟩ := r
  obtain ⟨v1, _, rfl, rfl, v2, _, rfl, rfl, rfl⟩ := h2
  have k := kit_tys d.ty (ty_mem hp)
  have e1 : (d.ty == "tuple") = isTup d := by cases d <;> first | rfl | cases hp
  have e2 : (d.ty == "list") = isLst d := by cases d <;> first | rfl | cases hp
  rw [e1, e2] at k
  refine ⟨v, a, _, .type d.ty, [.type "tuple", .type "list"], isTup d || isLst d, rfl, same_sqt s h1, .cons (.ty _) (.cons (.ty _) .nil), tyx_of hp s r1, kitAny_cons (kit_ty k.2.2.2.1) (fun h => ?_) (fun h => by rw [h]; rfl), q⟩
  rw [h, Bool.false_or]
  exact kitAny_cons (kit_ty k.2.2.2.2) (fun h => by rw [h]; exact kitAny_nil) (fun h => h)
theorem o_eqDct0 (hu : X.A.units + 64 < cLine) : OpS X (compareOp .Eq) (.dct [] []) (.dct [] []) (.sh (.bl true)) := ops_sc (op_eq_dict (by omega)) (.bl true) (fun _ => rfl) fun H S x y Q s r1 r2 q => by
  obtain ⟨a, vs, rfl, h1, _, h2⟩ := r1
  obtain ⟨b, ws, rfl, g1, _, g2⟩ := r2
  exact ⟨a, b, [], rfl, rfl, s _ _ h1, s _ _ g1, by simp, by simp, q⟩
end
section
variable {X : Cx} {Γ Γ1 : Gm} {e e2 : Ex} {p pos tpos : Pos} {elts : List Ex} {kk : Nat} {ds es : List D}
def itZ (ds es : List D) : Nat → D := fun i => .tup [itd ds i, itd es i]
theorem it_zipT (hm : X.mg "zip" = none) (h : AX X Γ [e, e2] [.tup ds, .tup es] Γ1) (hl : ds.length = es.length) (hg : Gl X "zip" := by rfl) (hs : starEach [e, e2] X.env = (false, eval e X.env) :: starEach [e2] X.env := by rfl) (hpl : (backTo pos (starEach [e2] X.env)).any (·.1) = false := by rfl) : IterX X (.Tuple elts kk tpos) (.Call (.Name "zip" p) [e, e2] [] pos) Γ ds.length (itZ ds es) Γ1 :=
  ⟨_, RZ.pi_zipA hg hm wa_pa hs hpl, fun F σ H S R' R q => h F σ H S _ R fun vs H1 S1 R1 s1 ok => by
    obtain ⟨v, w, rfl, ⟨a, us, rfl, h1, h2⟩, b, ws, rfl, g1, g2⟩ := reps2 ok
    refine ⟨a, b, us, ws, rfl, .inr ⟨same_sqt R1.sh h1, same_sqt R1.sh g1, q _ H1 S1 R1 s1 fun i H' sH => ?_⟩⟩
    have hq : SqT X.K H' a us := same_sqt sH h1
    have hr : SqT X.K H' b ws := same_sqt sH g1
    refine ⟨fun hi => ⟨us, ws, us[i]'(by rw [← h2.length]; exact hi), ws[i]'(by rw [← g2.length, ← hl]; exact hi), hq, hr, List.getElem?_eq_getElem _, List.getElem?_eq_getElem _⟩, fun hi => ⟨us, ws, hq, hr, .inl (by rw [← h2.length, hi]; exact Nat.le_refl _)⟩, fun x H2 hi y => ?_⟩
    obtain ⟨T, z, z2, rfl, nT, rfl, hz⟩ := y
    have y1 := hz.1 us hq
    have y2 := hz.2 ws hr
    exact .inr ⟨T, _, _, rfl, nT, rfl, rfl, fun S' sS => .cons (Rep.mono sS _ _ (itd_rep h2 y1)) (.cons (Rep.mono sS _ _ (itd_rep g2 y2)) .nil)⟩⟩
theorem it_zipL (hm : X.mg "zip" = none) (h : AX X Γ [e, e2] [.lst ds, .lst es] Γ1) (hl : ds.length = es.length) (hg : Gl X "zip" := by rfl) (hs : starEach [e, e2] X.env = (false, eval e X.env) :: starEach [e2] X.env := by rfl) (hpl : (backTo pos (starEach [e2] X.env)).any (·.1) = false := by rfl) : IterX X (.Tuple elts kk tpos) (.Call (.Name "zip" p) [e, e2] [] pos) Γ ds.length (itZ ds es) Γ1 :=
  ⟨_, RZ.pi_zipA hg hm wa_pa hs hpl, fun F σ H S R' R q => h F σ H S _ R fun vs H1 S1 R1 s1 ok => by
    obtain ⟨v, w, rfl, ⟨a, us, rfl, h1, h2⟩, b, ws, rfl, g1, g2⟩ := reps2 ok
    refine ⟨a, b, us, ws, rfl, .inl ⟨.of (R1.sh _ _ h1), .of (R1.sh _ _ g1), q _ H1 S1 R1 s1 fun i H' sH => ?_⟩⟩
    have hq : SqL X.K H' a us := .of (sH _ _ h1)
    have hr : SqL X.K H' b ws := .of (sH _ _ g1)
    refine ⟨fun hi => ⟨us, ws, us[i]'(by rw [← h2.length]; exact hi), ws[i]'(by rw [← g2.length, ← hl]; exact hi), hq, hr, List.getElem?_eq_getElem _, List.getElem?_eq_getElem _⟩, fun hi => ⟨us, ws, hq, hr, .inl (by rw [← h2.length, hi]; exact Nat.le_refl _)⟩, fun x H2 hi y => ?_⟩
    obtain ⟨T, z, z2, rfl, nT, rfl, hz⟩ := y
    have y1 := hz.1 us hq
    have y2 := hz.2 ws hr
    exact .inr ⟨T, _, _, rfl, nT, rfl, rfl, fun S' sS => .cons (Rep.mono sS _ _ (itd_rep h2 y1)) (.cons (Rep.mono sS _ _ (itd_rep g2 y2)) .nil)⟩⟩
end
end PL

set_option Elab.async false
set_option linter.all false
set_option maxRecDepth 100000
set_option maxHeartbeats 1000000
/-! calls by keywords that raise; repr of any plain data, and of {} -/
namespace PL
open PySem PySem.Spec PyProof.Rows L2
section
variable {X : Cx} {CX : CXT} {k n : Nat} {f C : Addr} {fd : FuncData} {ps ks : List Str} {sp : Sp} {x : Str} {p pos : Pos} {e : Expr} {es : List Expr} {kws : List Keyword} {t tk : TA} {g : List Value → List Value → List Value} {gV : List V → List V → List V}
theorem run_fnNS {pins : List (Addr × Obj)} {σ : L2.St} {H : Hp} {s : Shared} {Q : VK} {us ws : List Value} {vs zs : List V} {E : L2.St → XK} (F : FnOk X.prog X.w X.K X.mg X.base CX k f fd ps sp) (hr : Room k X.A) (hb : KBn X.K fd ps n ks g gV) (hx : PassesAt CX X σ (E σ)) (I : Inv X pins σ H s) (r : Vals vs us) (rz : Vals zs ws) (l1 : vs.length = n) (l2 : zs.length = ks.length) (h : sp (gV vs zs) H Q (E σ)) : wpAny (model X.prog X.w) X.A (call (.ref f) us (ks.zip ws)) (EP X pins σ Q) X.xe s := by
  have b := hb.to s us ws I.kIn (r.length.symm.trans l1) (rz.length.symm.trans l2)
  have rr := hb.rel r rz
  refine wpAny_call (codeAny_mono (run_any F hr I.env0 (args := ⟨us, ks.zip ws⟩) b (fun e s' z => hx pins H s e s' I z) I rr h) fun r s' z => ?_)
  rcases r with er | fl
  · exact z
  · cases fl <;> exact z
def tCallNS (n m : Nat) (sp : Sp) (gV : List V → List V → List V) (E : L2.St → XK) (t tk : TA) : TE := fun σ H Q => t σ H fun vs H1 => tk σ H1 fun zs H2 => vs.length = n ∧ zs.length = m ∧ sp (gV vs zs) H2 Q (E σ)
theorem pe_callNS {E : L2.St → XK} (F : FnOk X.prog X.w X.K X.mg X.base CX k f fd ps sp) (hr : Room k X.A) (hg : Gl X x) (hm : X.mg x = some (.ref f)) (hk : PySem.W.keepIn X.K (.ref f) = true) (hb : KBn X.K fd ps n ks g gV) (hx : ∀ σ, PassesAt CX X σ (E σ)) (ha : PA X (e :: es) t) (hkw : PK X kws tk)
    (hall : (backToKw pos (keywordEach kws X.env)).all (·.1.isSome) = true := by rfl) (hks : (backToKw pos (keywordEach kws X.env)).filterMap (·.1) = ks := by rfl) (hdb : (x == ("__debug__" : Str)) = false := by decide) (he : starEach (e :: es) X.env = (false, eval e X.env) :: starEach es X.env := by rfl)
    (hpl : ((backTo pos (starEach (e :: es) X.env)).any (·.1) || (backToKw pos (keywordEach kws X.env)).any (·.1.isNone)) = false := by rfl) : PE X (.Call (.Name x p) (e :: es) kws pos) (tCallNS n ks.length sp gV E t tk) := ⟨fun pins s σ H Q I h => by
  refine wpAny_Call_Name_kw (ld_glob I hg hm (PySem.W.callWith_KW (h₀ := X.base) I.ok.mod.kin hk hall (thn (ha.run pos pins s σ H _ I h) fun us s1 z => ?_) hpl he) hdb)
  obtain ⟨vs, H1, I1, r, q⟩ := z
  refine thn (hkw.run pos pins s1 σ H1 _ I1 q) fun ws s2 z => ?_
  obtain ⟨zs, H2, I2, rz, l1, l2, q2⟩ := z
  rw [hks]
  exact ⟨I2.kIn, run_fnNS F hr hb (hx σ) I2 r rz l1 l2 q2⟩⟩
theorem pe_callDS {E : L2.St → XK} {ds : List Value} {dvs : List V} (F : FnOk X.prog X.w X.K X.mg X.base CX k f fd ps sp) (hr : Room k X.A) (hg : Gl X x) (hm : X.mg x = some (.ref f)) (hk : PySem.W.keepIn X.K (.ref f) = true) (hb : Binds X.K fd ps ds) (hd : Vals dvs ds) (hx : ∀ σ, PassesAt CX X σ (E σ)) (ha : PA X (e :: es) t) (hdb : (x == ("__debug__" : Str)) = false := by decide)
    (he : starEach (e :: es) X.env = (false, eval e X.env) :: starEach es X.env := by rfl) (hpl : (backTo pos (starEach es X.env)).any (·.1) = false := by rfl) : PE X (.Call (.Name x p) (e :: es) [] pos) (fun σ H Q => t σ H fun vs H1 => sp (vs ++ dvs) H1 Q (E σ)) := ⟨fun pins s σ H Q I h => by
  refine wpAny_Call_Name_kw (ld_glob I hg hm (PySem.W.callWith_K (h₀ := X.base) I.ok.mod.kin hk (thn (ha.run pos pins s σ H _ I h) fun us s1 z => ?_) he hpl) hdb)
  obtain ⟨vs, H1, I1, r, q⟩ := z
  have rr := r.append hd
  have hl : (us ++ ds).length = ps.length := by rw [← rr.length, F.len _ _ _ _ q]
  refine ⟨I1.kIn, wpAny_call (codeAny_mono (run_any F hr I1.env0 (hb s1 us I1.kIn hl) (fun e s' z => hx σ pins H1 s1 e s' I1 z) I1 rr q) fun r s' z => ?_)⟩
  rcases r with er | fl
  · exact z
  · cases fl <;> exact z⟩
end
section
variable {X : Cx} {Γ Γ1 Γ2 : Gm} {e : Ex} {es : List Ex} {p pos : Pos} {ds zs fs : List D} {j k : Nat} {ps ks : List Str} {x : Str} {st : Stmt} {dvs : List V} {kws : List Keyword} {P : List D → Rx → Prop} {C : Xp}
/-- f(a, .., k = v, ..) raises -/
theorem er_cedk (is : List Nat) (G : Ced X.prog X.w X.K X.mg X.base x j ps st dvs P) (hb : ∀ f fd, FunD X.K x x (defArgs st) (defBody st) (defScope st) dvs [] f fd → KwB X.K fd ps ds.length ks dvs is) (g : Gd k X) (hfs : ∀ S, Reps X.K S fs dvs) (ha : AX X Γ (e :: es) ds Γ1) (hkw : KX X Γ1 kws zs Γ2) (hp : P (pickL is ds fs zs) (.ex C)) (hz : zs.length = ks.length := by rfl)
    (hk : j ≤ k := by decide) (hg : Gl X x := by rfl) (hall : (backToKw pos (keywordEach kws X.env)).all (·.1.isSome) = true := by rfl) (hks : (backToKw pos (keywordEach kws X.env)).filterMap (·.1) = ks := by rfl)
    (hdb : (x == ("__debug__" : Str)) = false := by decide) (he : starEach (e :: es) X.env = (false, eval e X.env) :: starEach es X.env := by rfl)
    (hpl : ((backTo pos (starEach (e :: es) X.env)).any (·.1) || (backToKw pos (keywordEach kws X.env)).any (·.1.isNone)) = false := by rfl) : ER X Γ (.Call (.Name x p) (e :: es) kws pos) C Γ2 := fun F σ H S Q W R tk q => by
  obtain ⟨f, fd, gm, FD, Fo⟩ := G.ex
  obtain ⟨its, hB⟩ := (hb f fd FD).ex
  refine pe_we (pe_callNS (E := L2.WE W) Fo (g.rm.mono hk) hg gm FD.kp hB (fun σ => passAt tk σ) wa_pa wk_pk hall hks hdb he hpl) ?_
  refine ha F σ H S _ R fun vs H1 S1 R1 s1 ok => hkw F σ H1 S1 _ R1 fun us H2 S2 R2 s2 ok2 => ?_
  exact ⟨ok.length.symm, ok2.length.symm.trans hz, S2, _, .ex C, hp, R2.sh, Reps.pick (Reps.mono s2 _ _ ok) (hfs S2) ok2 is, fun H3 S3 d t => q H3 S3 d (R2.after0 t).1 ((s1.trans s2).trans t.ss)⟩
/-- f(a, ..) with its last defaults raises -/
theorem er_ced (i : Nat) (G : Ced X.prog X.w X.K X.mg X.base x j ps st dvs P) (hb : ∀ f fd, FunD X.K x x (defArgs st) (defBody st) (defScope st) dvs [] f fd → ∃ dv, Vals (dvs.drop i) dv ∧ Binds X.K fd ps dv) (g : Gd k X) (ha : AX X Γ (e :: es) ds Γ1) (hfs : ∀ S, Reps X.K S fs (dvs.drop i)) (hp : P (ds ++ fs) (.ex C))
    (hk : j ≤ k := by decide) (hg : Gl X x := by rfl) (hdb : (x == ("__debug__" : Str)) = false := by decide) (he : starEach (e :: es) X.env = (false, eval e X.env) :: starEach es X.env := by rfl) (hpl : (backTo pos (starEach es X.env)).any (·.1) = false := by rfl) : ER X Γ (.Call (.Name x p) (e :: es) [] pos) C Γ1 := fun F σ H S Q W R tk q => by
  obtain ⟨f, fd, gm, FD, Fo⟩ := G.ex
  obtain ⟨dv, hd, hB⟩ := hb f fd FD
  refine pe_we (pe_callDS (E := L2.WE W) Fo (g.rm.mono hk) hg gm FD.kp hB hd (fun σ => passAt tk σ) wa_pa hdb he hpl) (ha F σ H S _ R fun vs H1 S1 R1 s1 ok => ?_)
  exact ⟨S1, ds ++ fs, .ex C, hp, R1.sh, ok.append (hfs S1), fun H2 S2 d t => q H2 S2 d (R1.after0 t).1 (s1.trans t.ss)⟩
/-- x = e, where e raises -/
theorem s1r_set (i : Nat) {y : Str} {pos' : Pos} (g : X.N.Nodup) (h : ER X Γ e C Γ1) (hi : X.N[i]? = some y := by rfl) (hx : Loc X.env.scope y := by first | exact Or.inl rfl | exact Or.inr rfl)
    (hs : swapsWith e (some (.Name y pos')) pos.line X.env = pure false := by rfl) (hf : X.fn y = true ∨ X.env.scope.names.lookup y = some .local := by first | exact .inl rfl | exact .inr rfl | assumption) : S1R X Γ (.Assign [.Name y pos'] e pos) C Γ1 := fun F σ H S D W R tk q =>
  ps_w1 (ps_set g hi hx we_pe hs hf) (h F σ H S _ W R tk fun H1 S1 d R1 s1 => q σ H1 S1 d R1 s1)
end
/-! ### repr -/
theorem b_repr : bootBuiltins "repr" = some (.builtin "repr") := by decide +kernel
theorem Bt.repr {mg : Str → Option Value} (T : Bt mg) : mg "repr" = none := T _ (by decide)
def rpD : D → Str
  | .dct _ _ => "{}"
  | d => d.py.shown
def RpO (d : D) : Prop := d = .dct [] [] ∨ Shw d
section
variable {X : Cx}
def rReprP (K : PySem.W.Frag) : List V → Hp → VK → Prop := fun vs H Q => (∃ (v : V) (d : PyData), vs = [v] ∧ Dp K H v d ∧ d.showable = true ∧ d.hasDict = false ∧ d.depth ≤ 60 ∧ d.shown.length ≤ sizeLine ∧ Q (.str d.shown) H) ∨ ∃ a, vs = [.ref a] ∧ H a = some (.dK []) ∧ Q (.str "{}") H
theorem cr_reprP (hg : X.A.guards = some []) (hu : X.A.units + 64 < cLine) : CallR X (.builtin "repr") (rReprP X.K) := by
  intro pins s σ H vs us Q I r h
  rcases h with ⟨v, d, rfl, hd, h1, h2, h3, h4, q⟩ | ⟨a, rfl, ha, q⟩
  · obtain ⟨u, rfl, ru⟩ : ∃ u, us = [u] ∧ RelV v u := by
      cases us with
      | nil => cases r
      | cons u us =>
        cases r with
        | cons r1 r2 => cases r2; exact ⟨u, rfl, r1⟩
    obtain ⟨as, rd⟩ := Dp.reads I d v u hd ru
    have I2 : ∀ t : Tok, Inv X pins σ H { s with toks := t } := fun t => I.kept (h' := s.heap) (fun _ _ e => e)
    have top : ∀ a : Addr, u = .ref a → wpAny (model X.prog X.w) X.A (call (.builtin "repr") [u]) (EP X pins σ Q) X.xe s := fun a e => by
      subst e
      exact repr_of_reads' rd h1 (PyData.noDict_hsm h2) hg (by omega) (fun _ _ e => e) (fun h' u tk hk => ⟨.str _, H, I.kept hk, ⟨u, rfl⟩, q⟩) h4
    cases rd with
    | none => exact P.repr_of_none ⟨.str _, H, I2 _, ⟨_, rfl⟩, q⟩
    | bool b => exact P.repr_of_bool ⟨.str _, H, I2 _, ⟨_, rfl⟩, by cases b <;> exact q⟩
    | int i t => exact P.repr_of_int (of_decide_eq_true h1) ⟨.str _, H, I2 _, ⟨_, rfl⟩, q⟩
    | str x t => exact P.repr_of_str ⟨.str _, H, I2 _, ⟨_, rfl⟩, q⟩ h4
    | list _ _ _ _ => exact top _ rfl
    | tuple _ _ _ _ => exact top _ rfl
    | dict _ _ _ _ _ => exact top _ rfl
  · rw [Vals.ref1 r]
    obtain ⟨_, ys, vs, rv, o, es, ep, e1, e2, e3, e4, e5, _⟩ := (show ObjOk X.prog X.w H s.heap a (.dK []) from I.hok a _ ha)
    obtain rfl : vs = [] := by cases rv; rfl
    have hes : es.toList = [] := by cases hq : es.toList with
      | nil => rfl
      | cons x y => rw [hq] at e5; cases e5
    have rd : Reads s.heap (.ref a) (.dict []) [a] := Reads.dict (as := []) (bs := []) e1 e2.1 e3 (by rw [hes]; exact .nil) (by rw [hes]; exact .nil)
    exact repr_of_reads' rd rfl (fun _ hm => by rw [List.mem_singleton.mp hm] at ys; simp at ys) hg (by show X.A.units + (PyData.depth (.dict []) + 1) < cLine; simp [PyData.depth, PyData.depthKv]; omega) (fun _ _ e => e) (fun h' u tk hk => ⟨.str _, H, I.kept hk, ⟨u, rfl⟩, q⟩) (by decide)
theorem c_reprP {d : D} {k : Nat} (g : Gd k X) (h : RpO d) : CallS X (.builtin "repr") [d] (.sh (.str (rpD d))) := calls_sc (cr_reprP g.rm.gd g.rm.units) (.str _) (fun _ => rfl) fun H S vs Q s r q => by
  obtain ⟨v, rfl, rp⟩ := reps1 r
  rcases h with rfl | h
  · obtain ⟨a, us, rfl, h1, hl, h2⟩ := rp
    obtain rfl : us = [] := h2
    exact .inr ⟨a, rfl, s _ _ h1, q⟩
  · have e : rpD d = d.py.shown := by
      cases d <;> first | rfl | (have := h.fl; cases this)
    rw [e] at q
    exact .inl ⟨v, d.py, rfl, dp_of s _ _ h.fl rp, h.sh, h.nd, h.dp, h.sz, q⟩
end
end PL
namespace PL
open PySem PySem.Spec PyProof.Rows L2
/-! ### written displays, member by member (for with_reducible) -/
def noStar : Expr → Bool
  | .Starred _ _ => false
  | _ => true
theorem st_ok {e : Expr} {es : List Expr} {env : Env} (h : noStar e = true) : starEach (e :: es) env = (false, eval e env) :: starEach es env := by
  cases e <;> first | rfl | cases h
theorem a_conT {X : Cx} {Γ Γ1 Γ2 : Gm} {e : Expr} {es : List Expr} {d : D} {ds : List D} (hs : noStar e = true) (h : EX X Γ e (.sh d) Γ1) (h2 : AX X Γ1 es ds Γ2) : AX X Γ (e :: es) (d :: ds) Γ2 := a_cons h h2 (st_ok hs)
end PL

set_option Elab.async false
set_option linter.all false
set_option maxRecDepth 100000
set_option maxHeartbeats 1000000
/-! classes whose __init__ raises before it has kept anything -/
namespace PL
open PySem PySem.Spec PyProof.Rows L2
section
variable {X : Cx} {CX : CXT} {k n : Nat} {f C : Addr} {fd : FuncData} {ps ks : List Str} {sp : Sp} {x : Str} {p pos : Pos} {kws : List Keyword} {tk : TA} {g : List Value → List Value → List Value} {gV : List V → List V → List V} {pins : List (Addr × Obj)} {σ : L2.St} {H : Hp} {s : Shared} {Q : VK} {us ws : List Value} {vs zs : List V}
theorem run_mkS {av : List V} {as : List Value} {kw : List (Str × Value)} {E : XK} (M : Mk X.K C f) (F : FnOk X.prog X.w X.K X.mg X.base CX k f fd ps sp) (hr : Room (k + 1) X.A) (hx : PassesAt CX X σ E) (I : Inv X pins σ H s) (b : ∀ s1 : Shared, X.K.In s1.heap → BindsTo s1 fd ⟨Value.ref (s.heap.objs.size + 1) :: us, kw⟩ (ps.zip as)) (r : Vals av as)
    (h : H (s.heap.objs.size + 1) = none → H s.heap.objs.size = none → s.heap.objs.size ≠ s.heap.objs.size + 1 → sp av (upd (upd H s.heap.objs.size (.own (s.heap.objs.size + 1))) (s.heap.objs.size + 1) (.ins C s.heap.objs.size [])) (fun v H2 => v = .non ∧ Q (.ref (s.heap.objs.size + 1)) H2) E) : wpAny (model X.prog X.w) X.A (call (.ref C) us kw) (EP X pins σ Q) X.xe s := by
  have n1 := I.hok.fresh (Nat.le_succ s.heap.objs.size)
  have n2 := I.hok.fresh (Nat.le_refl s.heap.objs.size)
  have q0 := h n1 n2 (Nat.ne_of_lt (Nat.lt_succ_self _))
  have J := Inv.made (C := C) I
  refine wpAny_call (make_map (f := f) I.kIn M.makes M.init (beq_iff_eq.mp M.fn) (codeAny_mono (F.run _ X.stack _ _ ⟨Value.ref (s.heap.objs.size + 1) :: us, kw⟩ as _ _ E (hr.make C us kw) (J.env0.make C us kw) (b _ J.kIn) r q0) fun r s' z => ?_))
  rcases r with er | fl
  · exact hx pins _ _ er s' J z
  · cases fl with
    | ret u =>
      obtain ⟨v, H', J2, rv, rfl, q2⟩ := J.after z
      exact ⟨rv, ⟨V.ref (s.heap.objs.size + 1), H', J2, rfl, q2⟩⟩
    | next => exact z.elim
    | brk => exact z.elim
    | cont => exact z.elim
theorem run_makeNS {E : L2.St → XK} (M : Mk X.K C f) (F : FnOk X.prog X.w X.K X.mg X.base CX k f fd ps sp) (hr : Room (k + 1) X.A) (hb : KBn X.K fd ps (n + 1) ks g gV) (hx : PassesAt CX X σ (E σ)) (I : Inv X pins σ H s) (r : Vals vs us) (rz : Vals zs ws) (l1 : vs.length = n) (l2 : zs.length = ks.length)
    (h : ∀ x dx, H x = none → H dx = none → dx ≠ x → sp (gV (.ref x :: vs) zs) (upd (upd H dx (.own x)) x (.ins C dx [])) (fun v H2 => v = .non ∧ Q (.ref x) H2) (E σ)) : wpAny (model X.prog X.w) X.A (call (.ref C) us (ks.zip ws)) (EP X pins σ Q) X.xe s := by
  have r1 : Vals (V.ref (s.heap.objs.size + 1) :: vs) (Value.ref (s.heap.objs.size + 1) :: us) := .cons rfl r
  have e1 : (Value.ref (s.heap.objs.size + 1) :: us).length = n + 1 := by rw [List.length_cons, ← r.length, l1]
  exact run_mkS (as := g (Value.ref (s.heap.objs.size + 1) :: us) ws) M F hr hx I (fun s1 kx => hb.to s1 (Value.ref (s.heap.objs.size + 1) :: us) ws kx e1 (rz.length.symm.trans l2)) (hb.rel r1 rz) fun a b c => h _ _ a b c
theorem pe_makeS0 {E : L2.St → XK} (M : Mk X.K C f) (F : FnOk X.prog X.w X.K X.mg X.base CX k f fd ps sp) (hr : Room (k + 1) X.A) (hg : Gl X x) (hm : X.mg x = some (.ref C)) (hb : KBn X.K fd ps 1 ks g gV) (hx : ∀ σ, PassesAt CX X σ (E σ)) (hkw : PK X kws tk)
    (hall : (backToKw pos (keywordEach kws X.env)).all (·.1.isSome) = true := by rfl) (hks : (backToKw pos (keywordEach kws X.env)).filterMap (·.1) = ks := by rfl) (hdb : (x == ("__debug__" : Str)) = false := by decide)
    (hpl : ((backTo pos (starEach [] X.env)).any (·.1) || (backToKw pos (keywordEach kws X.env)).any (·.1.isNone)) = false := by rfl) : PE X (.Call (.Name x p) [] kws pos) (fun σ H Q => tk σ H fun zs H2 => zs.length = ks.length ∧ ∀ a dx, H2 a = none → H2 dx = none → dx ≠ a → sp (gV [.ref a] zs) (upd (upd H2 dx (.own a)) a (.ins C dx [])) (fun v H3 => v = .non ∧ Q (.ref a) H3) (E σ)) := ⟨fun pins s σ H Q I h => by
  refine wpAny_Call_Name_kw (ld_glob I hg hm (PySem.W.callWith_KW0 (h₀ := X.base) I.ok.mod.kin M.kp hall (thn (hkw.run pos pins s σ H _ I h) fun ws s2 z => ?_) hpl) hdb)
  obtain ⟨zs, H2, I2, rz, l2, q2⟩ := z
  rw [hks]
  exact ⟨I2.kIn, run_makeNS (us := []) (vs := []) M F hr hb (hx σ) I2 .nil rz rfl l2 q2⟩⟩
end
/-- what the __init__ raises -/
def spX (K : PySem.W.Frag) (C : Addr) (P : List D → Xp → Prop) : Sp := fun vs H _ E => ∃ S ds y a ws, P ds y ∧ vs = .ref a :: ws ∧ Same S H ∧ S a = none ∧ ObR K S H a (.ins C [] []) ∧ Reps K S ds ws ∧
  ∀ H' S' d, Ret K S H (fun b => b = a) (.sh .non) .non H' S' → XdOk K S' y d → E (.ref y.C) d H'
structure Ke (Pg : Program) (w : World) (K : PySem.W.Frag) (mg : Str → Option Value) (base : Heap) (x : Str) (C : Addr) (j : Nat) (ps : List Str) (qual : Str) (st : Stmt) (P : List D → Xp → Prop) : Prop where
  ex : ∃ f fd, mg x = some (.ref C) ∧ Mk K C f ∧ FunD K "__init__" qual (defArgs st) (defBody st) (defScope st) [] [] f fd ∧ FnOk Pg w K mg base (L2.CX Pg w) j f fd ps (spX K C P)
section
variable {Pg : Program} {w : World} {K : PySem.W.Frag} {mg : Str → Option Value} {base : Heap} {C : Addr} {x qual : Str} {st : Stmt} {N ps : List Str} {j k : Nat} {P : List D → Xp → Prop}
theorem ke_mk (Dd : Di K C qual st []) (gC : mg x = some (.ref C)) (Sc : FnScope N ps (defScope st)) (hn : ps.length ≤ N.length) (hl : ∀ ds y, P ds y → ds.length + 1 = ps.length)
    (hb : ∀ f cd A outer s H E, Gd k (cx Pg w K mg base N qual (defScope st) f cd A outer s H E) → ∀ ds y, P ds y → ∀ p, ∃ Γ', SR (cx Pg w K mg base N qual (defScope st) f cd A outer s H E) (.pr p (.ins C [] []) :: ent N.tail ds) (defBody st) y Γ' ∧ Γ'[0]? = some (.pr p (.ins C [] []))) : Ke Pg w K mg base x C (k + 1) ps qual st P := by
  obtain ⟨f, fd, FD, gm⟩ := Dd.ex
  refine ⟨f, fd, gC, gm, FD, fd_ok FD Sc (fun vs H Q E h => ?_) (fun cd A outer s H vs Q E hr h => ?_)⟩
  · obtain ⟨S, ds, y, a, ws, hp, rfl, _, _, _, rp, _⟩ := h
    rw [List.length_cons, ← rp.length]; exact hl ds y hp
  · obtain ⟨S, ds, y, a, ws, hp, rfl, hs, na, ob, rp, q⟩ := h
    obtain ⟨Γ', e1, e2⟩ := hb f cd A outer s H E ⟨rfl, Sc.nd, cx_po, hr⟩ ds y hp a
    have R0 := rs_start1 (K := K) (N := N) hs na ob rp (by rw [← rp.length, hl ds y hp]; exact hn)
    refine ⟨_, ws_pss, e1 _ _ _ _ _ (fun cls d _ H => E cls d H) R0 (takes_of rfl rfl rfl rfl) fun σ' H' S' dd R' s' => ?_⟩
    obtain ⟨_, n', _, ob'⟩ := R'.sl 0 _ e2
    exact q H' S' dd (ret_of (F := ⟨H, S, fun b => b = a⟩) R' (fun b z => by rw [z]; exact n') (fun _ z => by cases z) rfl)
end
section
variable {X : Cx} {Γ Γ1 : Gm} {C : Addr} {x qual : Str} {st : Stmt} {p pos : Pos} {kws : List Keyword} {ks ps : List Str} {zs : List D} {j k : Nat} {P : List D → Xp → Prop} {y : Xp}
/-- C(k = v, ..) raises -/
theorem er_ke0 (is : List Nat) (G : Ke X.prog X.w X.K X.mg X.base x C j ps qual st P) (hb : ∀ f fd, FunD X.K "__init__" qual (defArgs st) (defBody st) (defScope st) [] [] f fd → KwB X.K fd ps 1 ks [] (0 :: is)) (h0 : 0 ∉ is) (g : Gd k X) (hkw : KX X Γ kws zs Γ1) (hp : P (pickL (is.map (· - 1)) [] [] zs) y) (hz : zs.length = ks.length := by rfl)
    (hk : j + 1 ≤ k := by decide) (hg : Gl X x := by rfl) (hall : (backToKw pos (keywordEach kws X.env)).all (·.1.isSome) = true := by rfl) (hks : (backToKw pos (keywordEach kws X.env)).filterMap (·.1) = ks := by rfl)
    (hdb : (x == ("__debug__" : Str)) = false := by decide) (hpl : ((backTo pos (starEach [] X.env)).any (·.1) || (backToKw pos (keywordEach kws X.env)).any (·.1.isNone)) = false := by rfl) : ER X Γ (.Call (.Name x p) [] kws pos) y Γ1 := fun F σ H S Q W R tk q => by
  obtain ⟨f, fd, hm, M, FD, Fo⟩ := G.ex
  obtain ⟨its, hB⟩ := (hb f fd FD).ex
  refine pe_we (pe_makeS0 (E := L2.WE W) M Fo (g.rm.mono hk) hg hm hB (fun σ => passAt tk σ) wk_pk hall hks hdb hpl) ?_
  refine hkw F σ H S _ R fun us H2 S2 R2 s2 ok2 => ⟨ok2.length.symm.trans hz, fun a dx na nd ne => ?_⟩
  show spX X.K C P (pickL (0 :: is) (V.ref a :: []) [] us) _ _ _
  rw [pick_shift h0]
  have g1 : Same H2 (upd (upd H2 dx (.own a)) a (.ins C dx [])) := (same_upd nd).trans (same_upd (by rw [upd_ne ne.symm]; exact na))
  have R3 := R2.grow g1
  refine ⟨S2, _, y, a, _, hp, rfl, R3.sh, R2.sNone na, ⟨dx, [], upd_same, rfl, rfl⟩, Reps.pick (ds := []) (vs := []) rfl .nil ok2 _, fun H3 S3 d t xo => ?_⟩
  have t' : Ret X.K S2 H2 (fun _ => False) (.sh .non) .non H3 S3 := ⟨t.ss, t.sh, fun b o e n => t.new b o (g1 b o e) n, fun b o _ e => t.kp b o (fun z => by rw [z, na] at e; cases e) (g1 b o e), fun b o e => t.th b o (g1 b o e), t.res⟩
  exact q H3 S3 d (R2.after0 t').1 (s2.trans t.ss) xo
end
end PL

set_option Elab.async false
set_option linter.all false
set_option maxRecDepth 100000
set_option maxHeartbeats 1000000
/-! classes whose __init__ raises before it has kept anything: called by places, with defaults -/
namespace PL
open PySem PySem.Spec PyProof.Rows L2
section
variable {X : Cx} {CX : CXT} {k n : Nat} {f C : Addr} {fd : FuncData} {ps ks : List Str} {sp : Sp} {x : Str} {p pos : Pos} {e : Ex} {es : List Ex} {ta : TA}
theorem pe_makeP {E : L2.St → XK} {ds : List Value} {dvs : List V} (M : Mk X.K C f) (F : FnOk X.prog X.w X.K X.mg X.base CX k f fd ps sp) (hr : Room (k + 1) X.A) (hg : Gl X x) (hm : X.mg x = some (.ref C)) (hb : Binds X.K fd ps ds) (hd : Vals dvs ds) (hx : ∀ σ, PassesAt CX X σ (E σ)) (ha : PA X (e :: es) ta) (hdb : (x == ("__debug__" : Str)) = false := by decide)
    (he : starEach (e :: es) X.env = (false, eval e X.env) :: starEach es X.env := by rfl) (hpl : (backTo pos (starEach es X.env)).any (·.1) = false := by rfl) :
    PE X (.Call (.Name x p) (e :: es) [] pos) (fun σ H Q => ta σ H fun vs H2 => ∀ a dx, H2 a = none → H2 dx = none → dx ≠ a → sp (.ref a :: vs ++ dvs) (upd (upd H2 dx (.own a)) a (.ins C dx [])) (fun v H3 => v = .non ∧ Q (.ref a) H3) (E σ)) := ⟨fun pins s σ H Q I h => by
  refine wpAny_Call_Name_kw (ld_glob I hg hm (PySem.W.callWith_K (h₀ := X.base) I.ok.mod.kin M.kp (thn (ha.run pos pins s σ H _ I h) fun us s1 z => ?_) he hpl) hdb)
  obtain ⟨vs, H1, I1, r, q⟩ := z
  have n1 := I1.hok.fresh (Nat.le_succ s1.heap.objs.size)
  have n2 := I1.hok.fresh (Nat.le_refl s1.heap.objs.size)
  have q0 := q _ _ n1 n2 (Nat.ne_of_lt (Nat.lt_succ_self _))
  have r1 : Vals (V.ref (s1.heap.objs.size + 1) :: vs ++ dvs) (Value.ref (s1.heap.objs.size + 1) :: us ++ ds) := .cons rfl (r.append hd)
  have hl : (Value.ref (s1.heap.objs.size + 1) :: us ++ ds).length = ps.length := by rw [← r1.length, F.len _ _ _ _ q0]
  exact ⟨I1.kIn, run_mkS (us := us) (kw := []) (as := Value.ref (s1.heap.objs.size + 1) :: us ++ ds) M F hr (hx σ) I1 (fun s2 kx => hb s2 (Value.ref (s1.heap.objs.size + 1) :: us) kx hl) r1 fun a b c => q _ _ a b c⟩⟩
end
structure Kx (Pg : Program) (w : World) (K : PySem.W.Frag) (mg : Str → Option Value) (base : Heap) (x : Str) (C : Addr) (j : Nat) (ps : List Str) (qual : Str) (st : Stmt) (dvs : List V) (P : List D → Xp → Prop) : Prop where
  ex : ∃ f fd, mg x = some (.ref C) ∧ Mk K C f ∧ FunD K "__init__" qual (defArgs st) (defBody st) (defScope st) dvs [] f fd ∧ FnOk Pg w K mg base (L2.CX Pg w) j f fd ps (spX K C P)
section
variable {Pg : Program} {w : World} {K : PySem.W.Frag} {mg : Str → Option Value} {base : Heap} {C : Addr} {x qual : Str} {st : Stmt} {N ps : List Str} {j k : Nat} {P : List D → Xp → Prop} {dvs : List V}
theorem kx_mk (Dd : Di K C qual st dvs) (gC : mg x = some (.ref C)) (Sc : FnScope N ps (defScope st)) (hn : ps.length ≤ N.length) (hl : ∀ ds y, P ds y → ds.length + 1 = ps.length)
    (hb : ∀ f cd A outer s H E, Gd k (cx Pg w K mg base N qual (defScope st) f cd A outer s H E) → ∀ ds y, P ds y → ∀ p, ∃ Γ', SR (cx Pg w K mg base N qual (defScope st) f cd A outer s H E) (.pr p (.ins C [] []) :: ent N.tail ds) (defBody st) y Γ' ∧ Γ'[0]? = some (.pr p (.ins C [] []))) : Kx Pg w K mg base x C (k + 1) ps qual st dvs P := by
  obtain ⟨f, fd, FD, gm⟩ := Dd.ex
  refine ⟨f, fd, gC, gm, FD, fd_ok FD Sc (fun vs H Q E h => ?_) (fun cd A outer s H vs Q E hr h => ?_)⟩
  · obtain ⟨S, ds, y, a, ws, hp, rfl, _, _, _, rp, _⟩ := h
    rw [List.length_cons, ← rp.length]; exact hl ds y hp
  · obtain ⟨S, ds, y, a, ws, hp, rfl, hs, na, ob, rp, q⟩ := h
    obtain ⟨Γ', e1, e2⟩ := hb f cd A outer s H E ⟨rfl, Sc.nd, cx_po, hr⟩ ds y hp a
    have R0 := rs_start1 (K := K) (N := N) hs na ob rp (by rw [← rp.length, hl ds y hp]; exact hn)
    refine ⟨_, ws_pss, e1 _ _ _ _ _ (fun cls d _ H => E cls d H) R0 (takes_of rfl rfl rfl rfl) fun σ' H' S' dd R' s' => ?_⟩
    obtain ⟨_, n', _, ob'⟩ := R'.sl 0 _ e2
    exact q H' S' dd (ret_of (F := ⟨H, S, fun b => b = a⟩) R' (fun b z => by rw [z]; exact n') (fun _ z => by cases z) rfl)
end
section
variable {X : Cx} {Γ Γ1 : Gm} {C : Addr} {x qual : Str} {st : Stmt} {p pos : Pos} {e : Ex} {es : List Ex} {ps : List Str} {ds fs : List D} {j k : Nat} {P : List D → Xp → Prop} {y : Xp} {dvs : List V}
/-- C(a, ..) raises: the defaults from the i-th on -/
theorem er_kx (i : Nat) (G : Kx X.prog X.w X.K X.mg X.base x C j ps qual st dvs P) (hb : ∀ f fd, FunD X.K "__init__" qual (defArgs st) (defBody st) (defScope st) dvs [] f fd → ∃ dv, Vals (dvs.drop i) dv ∧ Binds X.K fd ps dv) (g : Gd k X) (ha : AX X Γ (e :: es) ds Γ1) (hfs : ∀ S, Reps X.K S fs (dvs.drop i)) (hp : P (ds ++ fs) y)
    (hk : j + 1 ≤ k := by decide) (hg : Gl X x := by rfl) (hdb : (x == ("__debug__" : Str)) = false := by decide) (he : starEach (e :: es) X.env = (false, eval e X.env) :: starEach es X.env := by rfl) (hpl : (backTo pos (starEach es X.env)).any (·.1) = false := by rfl) : ER X Γ (.Call (.Name x p) (e :: es) [] pos) y Γ1 := fun F σ H S Q W R tk q => by
  obtain ⟨f, fd, hm, M, FD, Fo⟩ := G.ex
  obtain ⟨dv, hd, hB⟩ := hb f fd FD
  refine pe_we (pe_makeP (E := L2.WE W) M Fo (g.rm.mono hk) hg hm hB hd (fun σ => passAt tk σ) wa_pa hdb he hpl) ?_
  refine ha F σ H S _ R fun us H2 S2 R2 s2 ok2 => fun a dx na nd ne => ?_
  have g1 : Same H2 (upd (upd H2 dx (.own a)) a (.ins C dx [])) := (same_upd nd).trans (same_upd (by rw [upd_ne ne.symm]; exact na))
  have R3 := R2.grow g1
  refine ⟨S2, _, y, a, _, hp, List.cons_append .., R3.sh, R2.sNone na, ⟨dx, [], upd_same, rfl, rfl⟩, ok2.append (hfs S2), fun H3 S3 d t xo => ?_⟩
  have t' : Ret X.K S2 H2 (fun _ => False) (.sh .non) .non H3 S3 := ⟨t.ss, t.sh, fun b o e n => t.new b o (g1 b o e) n, fun b o _ e => t.kp b o (fun z => by rw [z, na] at e; cases e) (g1 b o e), fun b o e => t.th b o (g1 b o e), t.res⟩
  exact q H3 S3 d (R2.after0 t').1 (s2.trans t.ss) xo
end
end PL

set_option Elab.async false
set_option linter.all false
set_option maxRecDepth 100000
set_option maxHeartbeats 2000000
/-! a for that is left by a raise in turn m -/
namespace PL
open PySem PySem.Spec PyProof.Rows L2
section
variable {X : Cx} {Γ Γ1 Γ2 : Gm} {tg iter : Ex} {body : List Stmt} {pos : Pos} {n k : Nat} {it : Nat → D} {C : Xp}
theorem s1r_for (m : Nat) (g : Gd k X) (hi : IterX X tg iter Γ n it Γ1) (G B : Nat → Gm) (h0 : Cv X.K Γ1 (G 0)) (hm : m < n) (hg : ∀ i, i ≤ m → GX X tg (G i) (it i) (B i)) (hb : ∀ i, i < m → SX X (B i) body (.nx (G (i + 1))) ∨ SX X (B i) body (.ct (G (i + 1)))) (hx : SR X (B m) body C Γ2)
    (hs : ∀ x, foldedSetIterable iter X.env x = pure x := by intro _; rfl) : S1R X Γ (.For tg iter body [] pos) C Γ2 := fun F σ H S D W R tk q => by
  obtain ⟨wi, hw, hq⟩ := hi
  refine ps_w1 (ps_for g.po g.calm hw wg_pg ws_pss hs) (hq F σ H S _ R fun J H1 S1 R1 s1 w => ?_)
  obtain ⟨S2, s2, R2⟩ := h0 F σ H1 S1 R1
  refine ⟨fun i t σ' H' => t = m - i ∧ i ≤ m ∧ ∃ S', RS X.K F (G i) σ' H' S' ∧ Same S2 S', ⟨m, rfl, Nat.zero_le _, S2, R2, .refl _⟩, ?_⟩
  rintro i t σ' H' ⟨rfl, hi, S', R', s'⟩
  have sS : Same S1 S' := s2.trans s'
  have hlt : i < n := by omega
  refine .inr ⟨(w i H' (sS.trans R'.sh)).1 hlt, fun σ2 H2 => i < m ∧ ∃ S3, RS X.K F (G (i + 1)) σ2 H2 S3 ∧ Same S2 S3, fun σ2 H2 ⟨him, S3, R3, s3⟩ => ⟨m - (i + 1), by omega, rfl, him, S3, R3, s3⟩, fun x H2 y => ?_⟩
  obtain ⟨S3, s3, R3, rx⟩ := w.take R' sS hlt y
  refine hg i hi F σ' H2 S3 x _ R3 rx fun σ4 H4 S4 R4 s4 => ?_
  by_cases him : i < m
  · rcases hb i him with hb | hb
    · exact hb F σ4 H4 S4 _ R4 fun σ5 H5 S5 R5 s5 => ⟨him, S5, R5, ((s'.trans s3).trans s4).trans s5⟩
    · exact hb F σ4 H4 S4 _ R4 fun σ5 H5 S5 R5 s5 => ⟨him, S5, R5, ((s'.trans s3).trans s4).trans s5⟩
  · obtain rfl : i = m := by omega
    have all : Same S S4 := ((((s1.trans s2).trans s').trans s3).trans s4)
    exact hx F σ4 H4 S4 _ W R4 tk fun σ5 H5 S5 d R5 s5 xo => q σ5 H5 S5 d R5 (all.trans s5) xo
end
end PL

set_option Elab.async false
set_option linter.all false
set_option maxRecDepth 100000
set_option maxHeartbeats 1000000
namespace Hd
open PySem PySem.Spec PyProof.Rows L2 PL
section
variable {Pg : Program} {w : World} {K : PySem.W.Frag} {mg : Str → Option Value} {base : Heap}
/-! ### stripes of any kind -/
theorem big2000 : (2000 : Nat) < sizeLine := by decide
def stripeD : D → Bool
  | .tup [a, .int i] => shadeD a && decide (0 < i)
  | _ => false
def PlS (d : D) : Prop := d.plain = true ∧ ∀ es, d = .tup es → es.length ≤ 1000 ∧ ∀ e ∈ es, Pl e
def PlT (d : D) : Prop := d.plain = true ∧ ∀ es, d = .tup es → es.length ≤ 1000 ∧ ∀ e ∈ es, PlS e
def cntD : D → Int
  | .tup [_, .int i] => i
  | _ => 0
def fbS (i : Nat) (t : Int) : List D → Option Nat
  | [] => none
  | e :: es => if stripeD e = false then some i else if 240 < t + cntD e then some i else fbS (i + 1) (t + cntD e) es
def fbD : D → Option D
  | .tup [] => some .non
  | .tup es => (fbS 0 0 es).map fun i => .int (i : Nat)
  | _ => some .non
def tD (es : List D) (j : Nat) : Int := ((es.take j).map cntD).sum
theorem tD_succ {es : List D} {j : Nat} (h : j < es.length) : tD es (j + 1) = tD es j + cntD es[j] := by
  unfold tD
  rw [List.take_succ_eq_append_getElem h, List.map_append, List.sum_append]
  show _ + (cntD es[j] + 0) = _
  omega
theorem fbS_none {es : List D} {i : Nat} {t : Int} (h : fbS i t es = none) : ∀ j (hj : j < es.length), stripeD es[j] = true ∧ t + tD es (j + 1) ≤ 240 := by
  induction es generalizing i t with
  | nil => intro j hj; cases hj
  | cons e es ih =>
    unfold fbS at h
    by_cases h1 : stripeD e = false
    · rw [if_pos h1] at h; cases h
    rw [if_neg h1] at h
    by_cases h2 : 240 < t + cntD e
    · rw [if_pos h2] at h; cases h
    rw [if_neg h2] at h
    intro j hj
    cases j with
    | zero =>
      refine ⟨by cases hs : stripeD e with | false => exact absurd hs h1 | true => exact hs, ?_⟩
      show t + ([cntD e]).sum ≤ 240
      show t + (cntD e + 0) ≤ 240
      omega
    | succ j =>
      have hj' : j < es.length := by simpa using hj
      obtain ⟨a, b⟩ := ih h j hj'
      refine ⟨a, ?_⟩
      have e1 : tD (e :: es) (j + 1 + 1) = cntD e + tD es (j + 1) := by
        unfold tD
        rw [List.take_succ_cons, List.map_cons, List.sum_cons]
      rw [e1]; omega
theorem fbS_some {es : List D} {i m : Nat} {t : Int} (h : fbS i t es = some m) : ∃ k, m = i + k ∧ ∃ hk : k < es.length, (∀ j (hj : j < k), stripeD (es[j]'(by omega)) = true ∧ t + tD es (j + 1) ≤ 240) ∧ (stripeD es[k] = false ∨ (stripeD es[k] = true ∧ 240 < t + tD es (k + 1))) := by
  induction es generalizing i t with
  | nil => cases h
  | cons e es ih =>
    unfold fbS at h
    by_cases h1 : stripeD e = false
    · rw [if_pos h1] at h
      cases h
      exact ⟨0, rfl, by simp, fun j hj => by omega, .inl h1⟩
    rw [if_neg h1] at h
    have hs : stripeD e = true := by cases hs : stripeD e with | false => exact absurd hs h1 | true => rfl
    by_cases h2 : 240 < t + cntD e
    · rw [if_pos h2] at h
      cases h
      refine ⟨0, rfl, by simp, fun j hj => by omega, .inr ⟨hs, ?_⟩⟩
      show 240 < t + (cntD e + 0)
      omega
    rw [if_neg h2] at h
    obtain ⟨k, rfl, hk, hall, hbad⟩ := ih h
    have e1 : ∀ j, tD (e :: es) (j + 1 + 1) = cntD e + tD es (j + 1) := fun j => by
      unfold tD
      rw [List.take_succ_cons, List.map_cons, List.sum_cons]
    refine ⟨k + 1, by omega, by simpa using hk, fun j hj => ?_, ?_⟩
    · cases j with
      | zero => exact ⟨hs, by show t + (cntD e + 0) ≤ 240; omega⟩
      | succ j =>
        obtain ⟨a, b⟩ := hall j (by omega)
        exact ⟨a, by rw [e1]; omega⟩
    · rcases hbad with a | ⟨a, b⟩
      · exact .inl a
      · exact .inr ⟨a, by rw [e1]; omega⟩
theorem stripe_at {d : D} (h : stripeD d = true) : ∃ a i, d = .tup [a, .int i] ∧ shadeD a = true ∧ 0 < i := by
  unfold stripeD at h
  split at h
  · rename_i a i
    obtain ⟨h1, h2⟩ := Bool.and_eq_true_iff.mp h
    exact ⟨a, i, rfl, h1, of_decide_eq_true h2⟩
  · cases h
theorem cntD_at (a : D) (i : Int) : cntD (.tup [a, .int i]) = i := rfl
def P_stripeX : List D → Rs → Prop := fun ds r => ∃ d, PlS d ∧ ds = [d] ∧ r = .sh (.bl (stripeD d))
theorem stripe_no2 {es : List D} (h : es.length ≠ 2) : stripeD (.tup es) = false := by
  unfold stripeD
  split
  · rename_i a i e
    injection e with e
    rw [e] at h; exact absurd rfl h
  · rfl
theorem stripe_nt {d : D} (h : isTup d = false) : stripeD d = false := by
  unfold stripeD
  split
  · cases h
  · rfl
theorem c_stripeX (Dd : Df K mg "is_stripe" s_is_stripe []) (T : Bt mg) (G_is_shade : C0 Pg w K mg base "is_shade" 2 ["thing"] P_is_shade) (G_is_whole : C0 Pg w K mg base "is_whole" 1 ["x"] P_is_whole) : C0 Pg w K mg base "is_stripe" 3 ["thing"] P_stripeX := by
  refine c0_mk (k := 2) Dd sc_is_stripe (fun _ _ _ _ _ _ us hl => match us, hl with | [_], _ => rfl) (by decide) (fun ds r => ?_) (fun f cd A outer s H E g ds r => ?_)
  · rintro ⟨d, _, rfl, rfl⟩
    exact ⟨rfl, fun _ z => by cases z⟩
  · rintro ⟨d, ⟨hp, ht⟩, rfl, rfl⟩
    cases hT : isTup d with
    | false =>
      refine ends_eq (ends_rt (s_ifTE (t_w (w_orT (t_eq (t_not (t_val (e_callB (c_isTup hp) T.isinstance b_isinstance (a_cons (e_var 0) (a_cons (e_ty T.tuple b_tuple) a_nil))))) (by rw [hT]; rfl)))) (s_one (s1_ret e_bl)))) ?_
      rw [stripe_nt hT]
    | true =>
      obtain ⟨es, rfl⟩ : ∃ es, d = .tup es := by cases d <;> first | exact ⟨_, rfl⟩ | cases hT
      obtain ⟨hl, hpl⟩ := ht es rfl
      have hz := big2000
      by_cases h2 : es.length = 2
      · match es, h2, hpl with
        | [a, b], _, hpl =>
          have ha := hpl a (List.mem_cons_self ..)
          have hb := hpl b (List.mem_cons_of_mem _ (List.mem_cons_self ..))
          rcases (by cases b with | int i => exact .inl ⟨i, rfl⟩ | _ => exact .inr ⟨hb.plain, rfl, fun i h => by cases h⟩ : (∃ i, b = .int i) ∨ (b.plain = true ∧ wholeB b = false ∧ ∀ i, b ≠ .int i)) with ⟨i, rfl⟩ | ⟨hbp, hbw, hbn⟩
          · refine ends_eq (ends_rt (s_ifN (t_w (w_orF (t_eq (t_not (t_val (e_callB (c_isTup (d := .tup [a, .int i]) rfl) T.isinstance b_isinstance (a_cons (e_var 0) (a_cons (e_ty T.tuple b_tuple) a_nil))))) rfl) (w_or1 (t_eq (t_cmp o_neI (e_callB (c_lenT (ds := [a, .int i])) T.len b_len (a_cons (e_var 0) a_nil)) e_int) rfl)))) (s_one (s1_ret (e_and (e_c0 G_is_shade g (a_cons (e_ix (e_var 0) e_int (i_tup (d := a) rfl)) a_nil) ⟨a, ha, rfl, rfl⟩) fun _ => e_and (e_c0 G_is_whole g (a_cons (e_ix (e_var 0) e_int (i_tup (d := .int i) rfl)) a_nil) ⟨.int i, rfl, rfl, rfl⟩) fun _ => e_one (e_cmp o_gt (e_ix (e_var 0) e_int (i_tup (d := .int i) rfl)) e_int)))))) ?_
            show Rs.sh (D.bl (shadeD a && (true && decide (0 < i)))) = _
            rw [Bool.true_and]; rfl
          · refine ends_eq (ends_rt (s_ifN (t_w (w_orF (t_eq (t_not (t_val (e_callB (c_isTup (d := .tup [a, b]) rfl) T.isinstance b_isinstance (a_cons (e_var 0) (a_cons (e_ty T.tuple b_tuple) a_nil))))) rfl) (w_or1 (t_eq (t_cmp o_neI (e_callB (c_lenT (ds := [a, b])) T.len b_len (a_cons (e_var 0) a_nil)) e_int) rfl)))) (s_one (s1_ret (e_and (k' := false) (e_c0 G_is_shade g (a_cons (e_ix (e_var 0) e_int (i_tup (d := a) rfl)) a_nil) ⟨a, ha, rfl, rfl⟩) fun _ => e_andF (e_c0 G_is_whole g (a_cons (e_ix (e_var 0) e_int (i_tup (d := b) rfl)) a_nil) ⟨b, hbp, rfl, by rw [hbw]⟩)))))) ?_
            rw [Bool.and_false]
            congr 2
            unfold stripeD
            split
            · rename_i a' i' e
              injection e with e
              injection e with _ e
              injection e with e _
              exact absurd e (hbn i')
            · rfl
      · refine ends_eq (ends_rt (s_ifTE (t_w (w_orF (t_eq (t_not (t_val (e_callB (c_isTup (d := .tup es) rfl) T.isinstance b_isinstance (a_cons (e_var 0) (a_cons (e_ty T.tuple b_tuple) a_nil))))) rfl) (w_or1 (t_eq (t_cmp o_neI (e_callB (c_lenT (ds := es)) T.len b_len (a_cons (e_var 0) a_nil)) e_int) (by rw [decide_eq_false (by omega)]; rfl))))) (s_one (s1_ret e_bl)))) ?_
        rw [stripe_no2 h2]
/-- what is refused -/
def P_chkX (CN : Addr) : List D → Rx → Prop := fun ds o => ∃ d e, PlT d ∧ fbD d = some e ∧ ds = [d] ∧ o = .ex ⟨CN, ["number"], [e]⟩
theorem fb_nt {d : D} (h : isTup d = false) : fbD d = some .non := by
  unfold fbD
  split <;> first | rfl | cases h
theorem c_chkX (Dd : Df K mg "check_stripes" s_check_stripes []) (T : Bt mg) (G_M : ∃ t, mg "MOST" = some (.int 240 t)) (G_X : XI Pg w K mg base "NoStripes" 1 (He.ga K "NoStripes") ["number"]) (G_stripeX : C0 Pg w K mg base "is_stripe" 3 ["thing"] P_stripeX) : Ce Pg w K mg base "check_stripes" 4 ["thing"] (P_chkX (He.ga K "NoStripes")) := by
  obtain ⟨tM, gM⟩ := G_M
  refine ce_mk (k := 3) Dd sc_check_stripes (fun _ _ _ _ _ _ us hl => match us, hl with | [_], _ => rfl) (by decide) (fun ds r => ?_) (fun f cd A outer s H E g ds r => ?_)
  · rintro ⟨d, e, _, _, rfl, rfl⟩
    exact ⟨rfl, fun _ z => by cases z⟩
  · rintro ⟨d, e, ⟨hp, ht⟩, hf, rfl, rfl⟩
    have hz := big2000
    cases hT : isTup d with
    | false =>
      rw [fb_nt hT] at hf
      obtain rfl := Option.some.inj hf
      exact ⟨_, sr_hd (s1r_ifT (t_w (w_orT (t_eq (t_not (t_val (e_callB (c_isTup hp) T.isinstance b_isinstance (a_cons (e_var 0) (a_cons (e_ty T.tuple b_tuple) a_nil))))) (by rw [hT]; rfl)))) (sr_hd (s1r_raiseX G_X g (a_cons e_non a_nil) rfl)))⟩
    | true =>
      obtain ⟨es, rfl⟩ : ∃ es, d = .tup es := by cases d <;> first | exact ⟨_, rfl⟩ | cases hT
      obtain ⟨hl, hpl⟩ := ht es rfl
      by_cases hem : es = []
      · subst hem
        obtain rfl := Option.some.inj hf
        exact ⟨_, sr_hd (s1r_ifT (t_w (w_orF (t_eq (t_not (t_val (e_callB (c_isTup (d := .tup []) rfl) T.isinstance b_isinstance (a_cons (e_var 0) (a_cons (e_ty T.tuple b_tuple) a_nil))))) rfl) (w_or1 (t_eq (t_cmp (o_eqT0A (ds := []) g.rm.units0) (e_var 0) (e_tup a_nil)) rfl)))) (sr_hd (s1r_raiseX G_X g (a_cons e_non a_nil) rfl)))⟩
      · have hem' : es.isEmpty = false := by cases es with | nil => exact absurd rfl hem | cons x r => rfl
        have hf2 : (fbS 0 0 es).map (fun (i : Nat) => D.int (i : Nat)) = some e := by
          cases es with | nil => exact absurd rfl hem | cons x r => exact hf
        obtain ⟨m, hm, rfl⟩ := Option.map_eq_some_iff.mp hf2
        obtain ⟨k, rfl, hk, hall, hbad⟩ := fbS_some hm
        rw [Nat.zero_add]
        refine ⟨_, sr_cons (Γ1 := [.sh (.tup es), .un, .un, .un]) (s1_ifF (t_w (w_orF (t_eq (t_not (t_val (e_callB (c_isTup (d := .tup es) rfl) T.isinstance b_isinstance (a_cons (e_var 0) (a_cons (e_ty T.tuple b_tuple) a_nil))))) rfl) (w_or1 (t_eq (t_cmp (o_eqT0A (ds := es) g.rm.units0) (e_var 0) (e_tup a_nil)) hem')))) s_nil) (sr_cons (Γ1 := [.sh (.tup es), .sh (.int 0), .un, .un]) (s1_set 1 g.nd e_int) (sr_hd (s1r_for (Γ2 := [.sh (.tup es), .sh (.int (if stripeD es[k] = true then tD es (k + 1) else tD es k)), .sh (.int (k : Nat)), .sh es[k]]) k g (it_enumT T.enumerate (a_cons (e_var 0) a_nil)) (fun j => [.sh (.tup es), .sh (.int (tD es j)), .un, .un]) (fun j => [.sh (.tup es), .sh (.int (tD es j)), .sh (.int (j : Nat)), .sh (itd es j)]) .refl hk (fun j hj => g_tup g.calm (gs_cons (g_name 2 g.nd) (gs_cons (g_name 3 g.nd) gs_nil))) (fun j hj => .inl ?_) ?_)))⟩
        · have hj' : j < es.length := by omega
          obtain ⟨h1, h2⟩ := hall j hj
          rw [show itd es j = es[j] by unfold itd; rw [List.getD_eq_getElem?_getD, List.getElem?_eq_getElem hj']; rfl]
          have hps := hpl _ (List.getElem_mem hj')
          rw [tD_succ hj'] at h2 ⊢
          generalize es[j] = e at h1 h2 hps
          obtain ⟨a, i, rfl, _, _⟩ := stripe_at h1
          rw [cntD_at] at h2 ⊢
          refine s_wk (Γ1 := [.sh (.tup es), .sh (.int (tD es j + i)), .sh (.int (j : Nat)), .sh (.tup [a, .int i])]) ?_ (Wk.cv (.keep (.keep (.drop (.drop .nil)))))
          exact s_ifN (t_eq (t_not (t_val (e_c0 G_stripeX g (a_cons (e_var 3) a_nil) ⟨_, hps, rfl, rfl⟩))) (by rw [h1]; rfl)) (s_cons (s1_aug 1 g.nd ip_addI rfl (e_ix (e_var 3) e_int (i_tup (d := .int i) rfl))) (s_ifN (t_eq (t_cmp o_gt (e_var 1) (e_globI gM)) (decide_eq_false (by omega))) s_nil))
        · rw [show itd es k = es[k] by unfold itd; rw [List.getD_eq_getElem?_getD, List.getElem?_eq_getElem hk]; rfl]
          have hps := hpl _ (List.getElem_mem hk)
          rw [tD_succ hk] at hbad ⊢
          generalize es[k] = e at hbad hps
          rcases hbad with h1 | ⟨h1, h2⟩
          · rw [if_neg (by rw [h1]; decide)]
            exact sr_hd (s1r_ifT (t_eq (t_not (t_val (e_c0 G_stripeX g (a_cons (e_var 3) a_nil) ⟨_, hps, rfl, rfl⟩))) (by rw [h1]; rfl)) (sr_hd (s1r_raiseX G_X g (a_cons (e_var 2) a_nil) rfl)))
          · rw [if_pos h1]
            obtain ⟨a, i, rfl, _, _⟩ := stripe_at h1
            rw [cntD_at] at h2 ⊢
            exact sr_cons (Γ1 := [.sh (.tup es), .sh (.int (tD es k)), .sh (.int (k : Nat)), .sh (.tup [a, .int i])]) (s1_ifF (t_eq (t_not (t_val (e_c0 G_stripeX g (a_cons (e_var 3) a_nil) ⟨_, hps, rfl, rfl⟩))) (by rw [h1]; rfl)) s_nil) (sr_cons (Γ1 := [.sh (.tup es), .sh (.int (tD es k + i)), .sh (.int (k : Nat)), .sh (.tup [a, .int i])]) (s1_aug 1 g.nd ip_addI rfl (e_ix (e_var 3) e_int (i_tup (d := .int i) rfl))) (sr_hd (s1r_ifT (t_eq (t_cmp o_gt (e_var 1) (e_globI gM)) (decide_eq_true (by omega))) (sr_hd (s1r_raiseX G_X g (a_cons (e_var 2) a_nil) rfl)))))
def P_thrX (CN : Addr) : List D → Rx → Prop := P_chkX CN
theorem c_thrX (Dd : Df K mg "threads_of" s_threads_of []) (G_chkX : Ce Pg w K mg base "check_stripes" 4 ["thing"] (P_chkX (He.ga K "NoStripes"))) : Ce Pg w K mg base "threads_of" 5 ["stripes"] (P_thrX (He.ga K "NoStripes")) := by
  refine ce_mk (k := 4) Dd sc_threads_of (fun _ _ _ _ _ _ us hl => match us, hl with | [_], _ => rfl) (by decide) (fun ds r => ?_) (fun f cd A outer s H E g ds r => ?_)
  · rintro ⟨d, e, _, _, rfl, rfl⟩
    exact ⟨rfl, fun _ z => by cases z⟩
  · intro h
    obtain ⟨d, e, h1, h2, rfl, rfl⟩ := id h
    exact ⟨_, sr_hd (s1r_expr (er_ce G_chkX g (a_cons (e_var 0) a_nil) h))⟩
def P_rowX (CN : Addr) : List D → Xp → Prop := fun ds y => ∃ d e a b, PlT d ∧ fbD d = some e ∧ ds = [d, a, b] ∧ y = ⟨CN, ["number"], [e]⟩
theorem c_rowX (C : Addr) (Dd : Di K C "Row.__init__" s_Row___init__ [.str "run", .int 0]) (gC : mg "Row" = some (.ref C)) (G_thrX : Ce Pg w K mg base "threads_of" 5 ["stripes"] (P_thrX (He.ga K "NoStripes"))) : Kx Pg w K mg base "Row" C 6 ["self", "stripes", "manner", "start"] "Row.__init__" s_Row___init__ [.str "run", .int 0] (P_rowX (He.ga K "NoStripes")) := by
  refine kx_mk (k := 5) Dd gC sc_Row___init__ (by decide) ?_ (fun f cd A outer s H E g ds y h p => ?_)
  · rintro ds y ⟨d, e, a, b, _, _, rfl, _⟩; rfl
  · obtain ⟨d, e, a, b, h1, h2, rfl, rfl⟩ := h
    exact ⟨_, sr_hd (s1r_set 4 g.nd (er_ce G_thrX g (a_cons (e_var 1) a_nil) ⟨d, e, h1, h2, rfl, rfl⟩)), rfl⟩
def P_areS : List D → Rs → Prop := fun ds r => ∃ d, PlT d ∧ ds = [d] ∧ r = .sh (.bl (fbD d).isNone)
theorem pos_cnt {d : D} (h : stripeD d = true) : 0 < cntD d := by
  obtain ⟨a, i, rfl, _, hi⟩ := stripe_at h
  exact hi
theorem tD_all (es : List D) : tD es es.length = (es.map cntD).sum := by unfold tD; rw [List.take_length]
theorem fb_all {es : List D} (hall : ∀ e ∈ es, stripeD e = true) (i : Nat) (t : Int) (h0 : t ≤ 240) : (fbS i t es).isNone = decide (t + (es.map cntD).sum ≤ 240) := by
  induction es generalizing i t with
  | nil => simp [fbS, h0]
  | cons e es ih =>
    have h1 := hall e (List.mem_cons_self ..)
    have hp := pos_cnt h1
    have hrest : ∀ e ∈ es, stripeD e = true := fun x hx => hall x (List.mem_cons_of_mem _ hx)
    have hnn : ∀ l : List D, (∀ e ∈ l, stripeD e = true) → 0 ≤ (l.map cntD).sum := by
      intro l
      induction l with
      | nil => intro _; exact Int.le_refl _
      | cons x r ihr =>
        intro h
        have := pos_cnt (h x (List.mem_cons_self ..))
        have := ihr fun y hy => h y (List.mem_cons_of_mem _ hy)
        rw [List.map_cons, List.sum_cons]; omega
    have hn := hnn es hrest
    unfold fbS
    rw [if_neg (by rw [h1]; decide), List.map_cons, List.sum_cons]
    by_cases h2 : 240 < t + cntD e
    · rw [if_pos h2, decide_eq_false (by omega)]; rfl
    · rw [if_neg h2, ih hrest _ _ (by omega)]
      exact decide_eq_decide.mpr (by omega)
theorem fb_some_bad {es : List D} (hbad : ∃ e ∈ es, stripeD e = false) (i : Nat) (t : Int) : (fbS i t es).isNone = false := by
  cases h : fbS i t es with
  | some _ => rfl
  | none =>
    obtain ⟨e, he, hb⟩ := hbad
    obtain ⟨j, hj, rfl⟩ := List.getElem_of_mem he
    rw [(fbS_none h j hj).1] at hb; cases hb
theorem c_areS (Dd : Df K mg "are_stripes" s_are_stripes []) (T : Bt mg) (G_M : ∃ t, mg "MOST" = some (.int 240 t)) (G_stripeX : C0 Pg w K mg base "is_stripe" 3 ["thing"] P_stripeX) : C0 Pg w K mg base "are_stripes" 4 ["thing"] P_areS := by
  obtain ⟨tM, gM⟩ := G_M
  refine c0_mk (k := 3) Dd sc_are_stripes (fun _ _ _ _ _ _ us hl => match us, hl with | [_], _ => rfl) (by decide) (fun ds r => ?_) (fun f cd A outer s H E g ds r => ?_)
  · rintro ⟨d, _, rfl, rfl⟩
    exact ⟨rfl, fun _ z => by cases z⟩
  · rintro ⟨d, ⟨hp, ht⟩, rfl, rfl⟩
    have hz := big2000
    cases hT : isTup d with
    | false =>
      refine ends_eq (ends_rt (s_ifTE (t_w (w_orT (t_eq (t_not (t_val (e_callB (c_isTup hp) T.isinstance b_isinstance (a_cons (e_var 0) (a_cons (e_ty T.tuple b_tuple) a_nil))))) (by rw [hT]; rfl)))) (s_one (s1_ret e_bl)))) ?_
      rw [fb_nt hT]; rfl
    | true =>
      obtain ⟨es, rfl⟩ : ∃ es, d = .tup es := by cases d <;> first | exact ⟨_, rfl⟩ | cases hT
      obtain ⟨hl, hpl⟩ := ht es rfl
      by_cases hem : es = []
      · subst hem
        exact ends_rt (s_ifTE (t_w (w_orF (t_eq (t_not (t_val (e_callB (c_isTup (d := .tup []) rfl) T.isinstance b_isinstance (a_cons (e_var 0) (a_cons (e_ty T.tuple b_tuple) a_nil))))) rfl) (w_orT (t_eq (t_cmp (o_eqT0A (ds := []) g.rm.units0) (e_var 0) (e_tup a_nil)) rfl)))) (s_one (s1_ret e_bl)))
      · have hem' : es.isEmpty = false := by cases es with | nil => exact absurd rfl hem | cons x r => rfl
        have hf : (fbD (.tup es)).isNone = (fbS 0 0 es).isNone := by
          cases es with
          | nil => exact absurd rfl hem
          | cons x r =>
            show ((fbS 0 0 (x :: r)).map _).isNone = _
            cases fbS 0 0 (x :: r) <;> rfl
        rw [hf]
        have itE : ∀ j (hj : j < es.length), itd es j = es[j] := fun j hj => by unfold itd; rw [List.getD_eq_getElem?_getD, List.getElem?_eq_getElem hj]; rfl
        have hav : (List.range es.length).all (fun (j : Nat) => stripeD (es.getD j .non)) = es.all stripeD := by
          rw [Bool.eq_iff_iff, List.all_eq_true, List.all_eq_true]
          constructor
          · intro h x hx
            obtain ⟨j, hj, rfl⟩ := List.getElem_of_mem hx
            have := h j (List.mem_range.mpr hj)
            rw [List.getD_eq_getElem?_getD, List.getElem?_eq_getElem hj] at this
            exact this
          · intro h j hj
            have hj := List.mem_range.mp hj
            rw [List.getD_eq_getElem?_getD, List.getElem?_eq_getElem hj]
            exact h _ (List.getElem_mem hj)
        cases hall : es.all stripeD with
        | false =>
          refine ends_eq (ends_rt (s_ifTE (Γ1 := [.sh (.tup es), .un]) (t_w (w_orF (t_eq (t_not (t_val (e_callB (c_isTup (d := .tup es) rfl) T.isinstance b_isinstance (a_cons (e_var 0) (a_cons (e_ty T.tuple b_tuple) a_nil))))) rfl) (w_orF (t_eq (t_cmp (o_eqT0A (ds := es) g.rm.units0) (e_var 0) (e_tup a_nil)) hem') (w_or1 (t_eq (t_not (t_val (e_callB (c_allR (n := es.length) (b := fun (j : Nat) => stripeD (es.getD j .non)) g.calm) T.all b_all (a_cons (e_fz (e_lc1 1 (fun (j : Nat) => .bl (stripeD (es.getD j .non))) g (it_tup (e_var 0)) (by omega) (blkOk_by (N := N_are_stripes) (sc := defScope s_are_stripes) (by decide +kernel)) rfl (fun j hj s1 H1 C1 cl fp => ?_))) a_nil)))) (by rw [hav, hall]; rfl)))))) (s_one (s1_ret e_bl)))) ?_
          · exact e_c0 G_stripeX g.blk (a_cons (e_var 1) a_nil) ⟨_, hpl _ (by rw [List.getD_eq_getElem?_getD, List.getElem?_eq_getElem hj]; exact List.getElem_mem _), rfl, rfl⟩
          · rw [fb_some_bad]
            rw [List.all_eq_false] at hall
            obtain ⟨x, hx, hb⟩ := hall
            exact ⟨x, hx, by cases hh : stripeD x with | false => rfl | true => exact absurd hh hb⟩
        | true =>
          have hall' : ∀ e ∈ es, stripeD e = true := List.all_eq_true.mp hall
          have hsum : (List.range es.length).map (fun (j : Nat) => D.int (cntD (es.getD j .non))) = (es.map cntD).map D.int := by
            rw [List.map_map]
            apply List.ext_getElem?
            intro i
            rw [List.getElem?_map, List.getElem?_map]
            by_cases hi : i < es.length
            · rw [List.getElem?_range hi, List.getElem?_eq_getElem hi]
              show some (D.int (cntD (es.getD i .non))) = _
              rw [List.getD_eq_getElem?_getD, List.getElem?_eq_getElem hi]; rfl
            · rw [List.getElem?_eq_none (by simpa using hi), List.getElem?_eq_none (by simpa using hi)]; rfl
          refine ends_eq (ends_rt (s_ifN (Γ1 := [.sh (.tup es), .un]) (t_w (w_orF (t_eq (t_not (t_val (e_callB (c_isTup (d := .tup es) rfl) T.isinstance b_isinstance (a_cons (e_var 0) (a_cons (e_ty T.tuple b_tuple) a_nil))))) rfl) (w_orF (t_eq (t_cmp (o_eqT0A (ds := es) g.rm.units0) (e_var 0) (e_tup a_nil)) hem') (w_or1 (t_eq (t_not (t_val (e_callB (c_allR (n := es.length) (b := fun (j : Nat) => stripeD (es.getD j .non)) g.calm) T.all b_all (a_cons (e_fz (e_lc1 1 (fun (j : Nat) => .bl (stripeD (es.getD j .non))) g (it_tup (e_var 0)) (by omega) (blkOk_by (N := N_are_stripes) (sc := defScope s_are_stripes) (by decide +kernel)) rfl (fun j hj s1 H1 C1 cl fp => ?_))) a_nil)))) (by rw [hav, hall]; rfl)))))) (s_one (s1_ret (e_cmp o_le (e_callB (c_sum (ns := es.map cntD) g.calm) T.sum b_sum (a_cons (e_fz (e_eq (e_lc1 1 (fun (j : Nat) => .int (cntD (es.getD j .non))) g (it_tup (e_var 0)) (by omega) (blkOk_by (N := N_are_stripes) (sc := defScope s_are_stripes) (by decide +kernel)) rfl (fun j hj s1 H1 C1 cl fp => ?_)) (congrArg (fun z => Rs.ow (Ob.lst z)) hsum))) a_nil)) (e_globI gM)))))) ?_
          · exact e_c0 G_stripeX g.blk (a_cons (e_var 1) a_nil) ⟨_, hpl _ (by rw [List.getD_eq_getElem?_getD, List.getElem?_eq_getElem hj]; exact List.getElem_mem _), rfl, rfl⟩
          · have hs : stripeD (es.getD j .non) = true := hall' _ (by rw [List.getD_eq_getElem?_getD, List.getElem?_eq_getElem hj]; exact List.getElem_mem _)
            have e0 : itd es j = es.getD j .non := rfl
            rw [e0]
            generalize es.getD j .non = e at hs
            obtain ⟨a, i, rfl, _, _⟩ := stripe_at hs
            exact e_ix (e_var 1) e_int (i_tup (d := .int i) rfl)
          · rw [fb_all hall' 0 0 (by decide), Int.zero_add]
end
end Hd

set_option Elab.async false
set_option linter.all false
set_option maxRecDepth 100000
set_option maxHeartbeats 1000000
namespace Hd
open PySem PySem.Spec PyProof.Rows L2 PL
section
variable {Pg : Program} {w : World} {K : PySem.W.Frag} {mg : Str → Option Value} {base : Heap}
def P_sort0 (K : PySem.W.Frag) : List D → Rs → Prop := fun ds r => ∃ xn xf, ds = [.exc (He.ga K "NoStripes") xn xf] ∧ r = .sh (.str "stripes")
theorem cmp_bls (bs : List Bool) : Cmp (.lst (bs.map .bl)) := by
  have h1 : ∀ bs : List Bool, D.flats (bs.map D.bl) = true ∧ D.pys (bs.map D.bl) = bs.map PyData.bool ∧ PyData.canLayAll0 (bs.map PyData.bool) = true ∧ PyData.depthAll (bs.map PyData.bool) = 0 := by
    intro bs
    induction bs with
    | nil => exact ⟨rfl, rfl, rfl, rfl⟩
    | cons b bs ih =>
      obtain ⟨a1, a2, a3, a4⟩ := ih
      refine ⟨a1, ?_, a3, ?_⟩
      · show PyData.bool b :: D.pys (bs.map D.bl) = _
        rw [a2]; rfl
      · show max 0 (PyData.depthAll (bs.map PyData.bool)) = 0
        rw [a4]; rfl
  obtain ⟨a1, a2, a3, a4⟩ := h1 bs
  refine ⟨a1, ?_⟩
  show SeqAt.shaped (.list (D.pys (bs.map D.bl))) = true
  rw [a2]
  exact shaped_of a3 (by show PyData.depthAll _ + 1 ≤ 64; rw [a4]; decide)

set_option maxHeartbeats 4000000 in
theorem c_sort0 (Dd : Df K mg "_law_sort" s__law_sort []) (T : Bt mg) (gk : Gk K mg) (hS : Srt K 0) : C0 Pg w K mg base "_law_sort" 1 ["_law_caught"] (P_sort0 K) := by
  have a0 : PySem.W.kitOne K (.ref (He.ga K "NoStripes")) (.ref (He.ga K "NoStripes")) = some true := hS.k1 0 (by decide)
  have g0 : mg "NoStripes" = some (.ref (He.ga K "NoStripes")) := gk.1 0 (by decide)
  have a1 : PySem.W.kitOne K (.ref (He.ga K "NoStripes")) (.ref (He.ga K "NoThreads")) = some false := hS.k1 1 (by decide)
  have g1 : mg "NoThreads" = some (.ref (He.ga K "NoThreads")) := gk.1 1 (by decide)
  have a2 : PySem.W.kitOne K (.ref (He.ga K "NoStripes")) (.ref (He.ga K "NoManner")) = some false := hS.k1 2 (by decide)
  have g2 : mg "NoManner" = some (.ref (He.ga K "NoManner")) := gk.1 2 (by decide)
  have a3 : PySem.W.kitOne K (.ref (He.ga K "NoStripes")) (.ref (He.ga K "TooLong")) = some false := hS.k1 3 (by decide)
  have g3 : mg "TooLong" = some (.ref (He.ga K "TooLong")) := gk.1 3 (by decide)
  have a4 : PySem.W.kitOne K (.ref (He.ga K "NoStripes")) (.ref (He.ga K "NoText")) = some false := hS.k1 4 (by decide)
  have g4 : mg "NoText" = some (.ref (He.ga K "NoText")) := gk.1 4 (by decide)
  have a5 : PySem.W.kitOne K (.ref (He.ga K "NoStripes")) (.ref (He.ga K "NoNumber")) = some false := hS.k1 5 (by decide)
  have g5 : mg "NoNumber" = some (.ref (He.ga K "NoNumber")) := gk.1 5 (by decide)
  have a6 : PySem.W.kitOne K (.ref (He.ga K "NoStripes")) (.ref (He.ga K "NoBox")) = some false := hS.k1 6 (by decide)
  have g6 : mg "NoBox" = some (.ref (He.ga K "NoBox")) := gk.1 6 (by decide)
  have a7 : PySem.W.kitOne K (.ref (He.ga K "NoStripes")) (.ref (He.ga K "TooMany")) = some false := hS.k1 7 (by decide)
  have g7 : mg "TooMany" = some (.ref (He.ga K "TooMany")) := gk.1 7 (by decide)
  have a8 : PySem.W.kitOne K (.ref (He.ga K "NoStripes")) (.ref (He.ga K "NoUndo")) = some false := hS.k1 8 (by decide)
  have g8 : mg "NoUndo" = some (.ref (He.ga K "NoUndo")) := gk.1 8 (by decide)
  have a9 : PySem.W.kitOne K (.ref (He.ga K "NoStripes")) (.ref (He.ga K "NoOrder")) = some false := hS.k1 9 (by decide)
  have g9 : mg "NoOrder" = some (.ref (He.ga K "NoOrder")) := gk.1 9 (by decide)
  have a10 : PySem.W.kitOne K (.ref (He.ga K "NoStripes")) (.ref (He.ga K "NoSpot")) = some false := hS.k1 10 (by decide)
  have g10 : mg "NoSpot" = some (.ref (He.ga K "NoSpot")) := gk.1 10 (by decide)
  have a11 : PySem.W.kitOne K (.ref (He.ga K "NoStripes")) (.ref (He.ga K "NoCut")) = some false := hS.k1 11 (by decide)
  have g11 : mg "NoCut" = some (.ref (He.ga K "NoCut")) := gk.1 11 (by decide)
  have a12 : PySem.W.kitOne K (.ref (He.ga K "NoStripes")) (.ref (He.ga K "NoShade")) = some false := hS.k1 12 (by decide)
  have g12 : mg "NoShade" = some (.ref (He.ga K "NoShade")) := gk.1 12 (by decide)
  have a13 : PySem.W.kitOne K (.ref (He.ga K "NoStripes")) (.ref (He.ga K "NoName")) = some false := hS.k1 13 (by decide)
  have g13 : mg "NoName" = some (.ref (He.ga K "NoName")) := gk.1 13 (by decide)
  have a14 : PySem.W.kitOne K (.ref (He.ga K "NoStripes")) (.ref (He.ga K "NoStep")) = some false := hS.k1 14 (by decide)
  have g14 : mg "NoStep" = some (.ref (He.ga K "NoStep")) := gk.1 14 (by decide)
  have a15 : PySem.W.kitOne K (.ref (He.ga K "NoStripes")) (.ref (He.ga K "NoWay")) = some false := hS.k1 15 (by decide)
  have g15 : mg "NoWay" = some (.ref (He.ga K "NoWay")) := gk.1 15 (by decide)
  have a16 : PySem.W.kitOne K (.ref (He.ga K "NoStripes")) (.ref (He.ga K "NoWeave")) = some false := hS.k1 16 (by decide)
  have g16 : mg "NoWeave" = some (.ref (He.ga K "NoWeave")) := gk.1 16 (by decide)
  have b0 : PySem.W.kitOne K (.ref (He.ga K "NoStripes")) (.ref (He.ga K "StripeError")) = some true := hS.k2 0 (by decide)
  have h0 : mg "StripeError" = some (.ref (He.ga K "StripeError")) := gk.2 0 (by decide)
  have b1 : PySem.W.kitOne K (.ref (He.ga K "NoStripes")) (.ref (He.ga K "SpotError")) = some false := hS.k2 1 (by decide)
  have h1 : mg "SpotError" = some (.ref (He.ga K "SpotError")) := gk.2 1 (by decide)
  have b2 : PySem.W.kitOne K (.ref (He.ga K "NoStripes")) (.ref (He.ga K "ShadeError")) = some false := hS.k2 2 (by decide)
  have h2 : mg "ShadeError" = some (.ref (He.ga K "ShadeError")) := gk.2 2 (by decide)
  have b3 : PySem.W.kitOne K (.ref (He.ga K "NoStripes")) (.ref (He.ga K "StepError")) = some false := hS.k2 3 (by decide)
  have h3 : mg "StepError" = some (.ref (He.ga K "StepError")) := gk.2 3 (by decide)
  have b4 : PySem.W.kitOne K (.ref (He.ga K "NoStripes")) (.ref (He.ga K "WayError")) = some false := hS.k2 4 (by decide)
  have h4 : mg "WayError" = some (.ref (He.ga K "WayError")) := gk.2 4 (by decide)
  have c0 : PySem.W.kitOne K (.ref (He.ga K "NoStripes")) (.type "ValueError") = some true := hS.k3 0 (by decide)
  have c1 : PySem.W.kitOne K (.ref (He.ga K "NoStripes")) (.type "IndexError") = some false := hS.k3 1 (by decide)
  have c2 : PySem.W.kitOne K (.ref (He.ga K "NoStripes")) (.type "KeyError") = some false := hS.k3 2 (by decide)
  have c3 : PySem.W.kitOne K (.ref (He.ga K "NoStripes")) (.type "ZeroDivisionError") = some false := hS.k3 3 (by decide)
  have d0 : PySem.W.kitOne K (.ref (He.ga K "NoStripes")) (.type "LookupError") = some false := hS.k4
  have hx : ExcC K (He.ga K "NoStripes") := hS.ex
  refine c0_mk (k := 0) Dd sc__law_sort (fun _ _ _ _ _ _ us hl => match us, hl with | [_], _ => rfl) (by decide) (fun ds r => ?_) (fun f cd A outer s H E g ds r => ?_)
  · rintro ⟨xn, xf, rfl, rfl⟩
    exact ⟨rfl, fun _ z => by cases z⟩
  · rintro ⟨xn, xf, rfl, rfl⟩
    clear hS gk
    have hz := big2000
    have t11 : SX (cx Pg w K mg base N__law_sort "_law_sort" (defScope s__law_sort) f cd A outer s H E) [.sh (.exc (He.ga K "NoStripes") xn xf), .sh (.lst [.bl true, .bl false, .bl false, .bl false, .bl false, .bl false, .bl false, .bl false, .bl false, .bl false, .bl false, .bl false, .bl false, .bl false, .bl false, .bl false, .bl false]), .sh (.lst [.bl true, .bl false, .bl false, .bl false, .bl false]), .sh (.lst [.bl true, .bl false, .bl false, .bl false]), .sh (.lst [.str "stripes", .str "threads", .str "manner", .str "long", .str "text", .str "number", .str "box", .str "many", .str "undo", .str "order", .str "spot", .str "cut"]), .un, .un, .un] ((defBody s__law_sort).drop 11) (.rt (.sh (.str "stripes")) [.sh (.exc (He.ga K "NoStripes") xn xf), .sh (.lst [.bl true, .bl false, .bl false, .bl false, .bl false, .bl false, .bl false, .bl false, .bl false, .bl false, .bl false, .bl false, .bl false, .bl false, .bl false, .bl false, .bl false]), .sh (.lst [.bl true, .bl false, .bl false, .bl false, .bl false]), .sh (.lst [.bl true, .bl false, .bl false, .bl false]), .sh (.lst [.str "stripes", .str "threads", .str "manner", .str "long", .str "text", .str "number", .str "box", .str "many", .str "undo", .str "order", .str "spot", .str "cut", .str "shade", .str "name", .str "step", .str "way", .str "weave"]), .sh (.int 0), .sh (.lst [.int 0, .int 0, .int 0, .int 0, .int 0, .int 0, .int 0, .int 0, .int 0, .int 0, .int 1, .int 1, .int 2, .int 2, .int 3, .int 4, .int 4]), .un]) := by
      refine s_cons (Γ1 := [.sh (.exc (He.ga K "NoStripes") xn xf), .sh (.lst [.bl true, .bl false, .bl false, .bl false, .bl false, .bl false, .bl false, .bl false, .bl false, .bl false, .bl false, .bl false, .bl false, .bl false, .bl false, .bl false, .bl false]), .sh (.lst [.bl true, .bl false, .bl false, .bl false, .bl false]), .sh (.lst [.bl true, .bl false, .bl false, .bl false]), .sh (.lst [.str "stripes", .str "threads", .str "manner", .str "long", .str "text", .str "number", .str "box", .str "many", .str "undo", .str "order", .str "spot", .str "cut", .str "shade", .str "name", .str "step", .str "way", .str "weave"]), .un, .un, .un]) (s1_set 4 g.nd (e_fz (e_bin (o_catL (ds := [.str "stripes", .str "threads", .str "manner", .str "long", .str "text", .str "number", .str "box", .str "many", .str "undo", .str "order", .str "spot", .str "cut"]) (es := [.str "shade", .str "name", .str "step", .str "way", .str "weave"]) (by decide)) (e_var 4) (e_fz (e_lst (a_val rfl rfl)))))) ?_
      refine s_ifN (t_eq (t_w (w_or (t_cmp o_neI (e_cntB (bs := [true, false, false, false, false, false, false, false, false, false, false, false, false, false, false, false, false]) (e_var 1) e_bl) e_int) fun _ => w_or1 (t_cmp o_neI (e_cntB (bs := [true, false, false, false, false]) (e_var 2) e_bl) e_int))) rfl) ?_
      refine s_cons (Γ1 := [.sh (.exc (He.ga K "NoStripes") xn xf), .sh (.lst [.bl true, .bl false, .bl false, .bl false, .bl false, .bl false, .bl false, .bl false, .bl false, .bl false, .bl false, .bl false, .bl false, .bl false, .bl false, .bl false, .bl false]), .sh (.lst [.bl true, .bl false, .bl false, .bl false, .bl false]), .sh (.lst [.bl true, .bl false, .bl false, .bl false]), .sh (.lst [.str "stripes", .str "threads", .str "manner", .str "long", .str "text", .str "number", .str "box", .str "many", .str "undo", .str "order", .str "spot", .str "cut", .str "shade", .str "name", .str "step", .str "way", .str "weave"]), .sh (.int 0), .un, .un]) (s1_set 5 g.nd (e_idxB (bs := [true, false, false, false, false, false, false, false, false, false, false, false, false, false, false, false, false]) (j := 0) rfl (by decide) (e_var 1) e_bl)) ?_
      refine s_cons (Γ1 := [.sh (.exc (He.ga K "NoStripes") xn xf), .sh (.lst [.bl true, .bl false, .bl false, .bl false, .bl false, .bl false, .bl false, .bl false, .bl false, .bl false, .bl false, .bl false, .bl false, .bl false, .bl false, .bl false, .bl false]), .sh (.lst [.bl true, .bl false, .bl false, .bl false, .bl false]), .sh (.lst [.bl true, .bl false, .bl false, .bl false]), .sh (.lst [.str "stripes", .str "threads", .str "manner", .str "long", .str "text", .str "number", .str "box", .str "many", .str "undo", .str "order", .str "spot", .str "cut", .str "shade", .str "name", .str "step", .str "way", .str "weave"]), .sh (.int 0), .sh (.lst [.int 0, .int 0, .int 0, .int 0, .int 0, .int 0, .int 0, .int 0, .int 0, .int 0, .int 1, .int 1, .int 2, .int 2, .int 3, .int 4, .int 4]), .un]) (s1_set 6 g.nd (e_fz (e_bin (o_catL (ds := [.int 0, .int 0, .int 0, .int 0, .int 0, .int 0, .int 0, .int 0, .int 0, .int 0]) (es := [.int 1, .int 1, .int 2, .int 2, .int 3, .int 4, .int 4]) (by decide)) (e_fz (e_bin (o_repL (ds := [.int 0]) (k := 10) (by decide) (by decide) (by decide)) (e_fz (e_lst (a_cons e_int a_nil))) e_int)) (e_fz (e_lst (a_cons e_int (a_cons e_int (a_cons e_int (a_cons e_int (a_cons e_int (a_cons e_int (a_cons e_int a_nil)))))))))))) ?_
      refine s_ifN (t_eq (t_w (w_or (t_cmp o_neI (e_idxB (bs := [true, false, false, false, false]) (j := 0) rfl (by decide) (e_var 2) e_bl) (e_ix (e_var 6) (e_var 5) (i_list (d := .int 0) (atI_nat (j := 0) rfl)))) fun _ => w_or1 (t_cmp (o_neSelf g.rm.units (cmp_bls [true, false, false, false])) (e_var 3) (e_fz (e_eq (e_lc1 7 (fun (j : Nat) => .bl (decide ((0 : Int) = ((j : Nat) : Int)))) g (it_range1 (j := 4) T.range (a_cons e_int a_nil) (by decide) (by decide)) (by omega) (blkOk_by (N := N__law_sort) (sc := defScope s__law_sort) (by decide +kernel)) rfl (fun j hj s1 H1 C1 cl fp => ?_)) rfl))))) rfl) ?_
      · exact e_cmp o_eqI (e_ix (e_var 6) (e_var 5) (i_list (d := .int 0) (atI_nat (j := 0) rfl))) (e_var 7)
      refine s_ifN (t_eq (t_cmp o_neB (e_callB (c_isXt hx d0) T.isinstance b_isinstance (a_cons (e_var 0) (a_cons (e_ty (T "LookupError" (by decide)) b_LookupError) a_nil))) (e_cmp (o_inI (xs := [1, 2, 4])) (e_ix (e_var 6) (e_var 5) (i_list (d := .int 0) (atI_nat (j := 0) rfl))) (e_fz (e_lst (a_cons e_int (a_cons e_int (a_cons e_int a_nil))))))) rfl) ?_
      exact s_one (s1_ret (e_ix (e_var 4) (e_var 5) (i_list (d := .str "stripes") (atI_nat (j := 0) rfl))))
    have t10 : SX (cx Pg w K mg base N__law_sort "_law_sort" (defScope s__law_sort) f cd A outer s H E) [.sh (.exc (He.ga K "NoStripes") xn xf), .sh (.lst [.bl true, .bl false, .bl false, .bl false, .bl false, .bl false, .bl false, .bl false, .bl false, .bl false, .bl false, .bl false, .bl false, .bl false, .bl false, .bl false, .bl false]), .sh (.lst [.bl true, .bl false, .bl false, .bl false, .bl false]), .sh (.lst [.bl true, .bl false, .bl false, .bl false]), .un, .un, .un, .un] ((defBody s__law_sort).drop 10) (.rt (.sh (.str "stripes")) [.sh (.exc (He.ga K "NoStripes") xn xf), .sh (.lst [.bl true, .bl false, .bl false, .bl false, .bl false, .bl false, .bl false, .bl false, .bl false, .bl false, .bl false, .bl false, .bl false, .bl false, .bl false, .bl false, .bl false]), .sh (.lst [.bl true, .bl false, .bl false, .bl false, .bl false]), .sh (.lst [.bl true, .bl false, .bl false, .bl false]), .sh (.lst [.str "stripes", .str "threads", .str "manner", .str "long", .str "text", .str "number", .str "box", .str "many", .str "undo", .str "order", .str "spot", .str "cut", .str "shade", .str "name", .str "step", .str "way", .str "weave"]), .sh (.int 0), .sh (.lst [.int 0, .int 0, .int 0, .int 0, .int 0, .int 0, .int 0, .int 0, .int 0, .int 0, .int 1, .int 1, .int 2, .int 2, .int 3, .int 4, .int 4]), .un]) := by
      have e : ∃ (st : Stmt) (rest : List Stmt), (defBody s__law_sort).drop 10 = st :: rest ∧ asgV st = some (("_law_words" : Str), D.lst [.str "stripes", .str "threads", .str "manner", .str "long", .str "text", .str "number", .str "box", .str "many", .str "undo", .str "order", .str "spot", .str "cut"]) ∧ rest = (defBody s__law_sort).drop 11 := ⟨_, _, rfl, by kernel_rfl, rfl⟩
      obtain ⟨st, rest, e0, hv, e1⟩ := e
      rw [← e1] at t11
      rw [e0]
      exact s_asgV 4 hv (by kernel_rfl) g (by show 4 < 8; decide) rfl rfl t11
    have t0 : ∀ oc, SX (cx Pg w K mg base N__law_sort "_law_sort" (defScope s__law_sort) f cd A outer s H E) [.sh (.exc (He.ga K "NoStripes") xn xf), .sh (.lst [.bl true, .bl false, .bl false, .bl false, .bl false, .bl false, .bl false, .bl false, .bl false, .bl false, .bl false, .bl false, .bl false, .bl false, .bl false, .bl false, .bl false]), .sh (.lst [.bl true, .bl false, .bl false, .bl false, .bl false]), .sh (.lst [.bl true, .bl false, .bl false, .bl false]), .un, .un, .un, .un] ((defBody s__law_sort).drop 10) oc → SX (cx Pg w K mg base N__law_sort "_law_sort" (defScope s__law_sort) f cd A outer s H E) [.sh (.exc (He.ga K "NoStripes") xn xf), .un, .un, .un, .un, .un, .un, .un] (defBody s__law_sort) oc := by
      intro oc h
      refine s_cons (Γ1 := [.sh (.exc (He.ga K "NoStripes") xn xf), .sh (.lst [.bl true, .bl false, .bl false]), .un, .un, .un, .un, .un, .un]) (s1_set 1 g.nd (e_fz (e_lst (a_cons (e_callB (c_isXo hx a0) T.isinstance b_isinstance (a_cons (e_var 0) (a_cons (e_globR g0) a_nil))) (a_cons (e_callB (c_isXo hx a1) T.isinstance b_isinstance (a_cons (e_var 0) (a_cons (e_globR g1) a_nil))) (a_cons (e_callB (c_isXo hx a2) T.isinstance b_isinstance (a_cons (e_var 0) (a_cons (e_globR g2) a_nil))) a_nil)))))) ?_
      refine s_cons (Γ1 := [.sh (.exc (He.ga K "NoStripes") xn xf), .sh (.lst [.bl true, .bl false, .bl false, .bl false, .bl false, .bl false]), .un, .un, .un, .un, .un, .un]) (s1_set 1 g.nd (e_fz (e_bin (o_catL (ds := [.bl true, .bl false, .bl false]) (es := [.bl false, .bl false, .bl false]) (by decide)) (e_var 1) (e_fz (e_lst (a_cons (e_callB (c_isXo hx a3) T.isinstance b_isinstance (a_cons (e_var 0) (a_cons (e_globR g3) a_nil))) (a_cons (e_callB (c_isXo hx a4) T.isinstance b_isinstance (a_cons (e_var 0) (a_cons (e_globR g4) a_nil))) (a_cons (e_callB (c_isXo hx a5) T.isinstance b_isinstance (a_cons (e_var 0) (a_cons (e_globR g5) a_nil))) a_nil)))))))) ?_
      refine s_cons (Γ1 := [.sh (.exc (He.ga K "NoStripes") xn xf), .sh (.lst [.bl true, .bl false, .bl false, .bl false, .bl false, .bl false, .bl false, .bl false, .bl false]), .un, .un, .un, .un, .un, .un]) (s1_set 1 g.nd (e_fz (e_bin (o_catL (ds := [.bl true, .bl false, .bl false, .bl false, .bl false, .bl false]) (es := [.bl false, .bl false, .bl false]) (by decide)) (e_var 1) (e_fz (e_lst (a_cons (e_callB (c_isXo hx a6) T.isinstance b_isinstance (a_cons (e_var 0) (a_cons (e_globR g6) a_nil))) (a_cons (e_callB (c_isXo hx a7) T.isinstance b_isinstance (a_cons (e_var 0) (a_cons (e_globR g7) a_nil))) (a_cons (e_callB (c_isXo hx a8) T.isinstance b_isinstance (a_cons (e_var 0) (a_cons (e_globR g8) a_nil))) a_nil)))))))) ?_
      refine s_cons (Γ1 := [.sh (.exc (He.ga K "NoStripes") xn xf), .sh (.lst [.bl true, .bl false, .bl false, .bl false, .bl false, .bl false, .bl false, .bl false, .bl false, .bl false, .bl false, .bl false]), .un, .un, .un, .un, .un, .un]) (s1_set 1 g.nd (e_fz (e_bin (o_catL (ds := [.bl true, .bl false, .bl false, .bl false, .bl false, .bl false, .bl false, .bl false, .bl false]) (es := [.bl false, .bl false, .bl false]) (by decide)) (e_var 1) (e_fz (e_lst (a_cons (e_callB (c_isXo hx a9) T.isinstance b_isinstance (a_cons (e_var 0) (a_cons (e_globR g9) a_nil))) (a_cons (e_callB (c_isXo hx a10) T.isinstance b_isinstance (a_cons (e_var 0) (a_cons (e_globR g10) a_nil))) (a_cons (e_callB (c_isXo hx a11) T.isinstance b_isinstance (a_cons (e_var 0) (a_cons (e_globR g11) a_nil))) a_nil)))))))) ?_
      refine s_cons (Γ1 := [.sh (.exc (He.ga K "NoStripes") xn xf), .sh (.lst [.bl true, .bl false, .bl false, .bl false, .bl false, .bl false, .bl false, .bl false, .bl false, .bl false, .bl false, .bl false, .bl false, .bl false, .bl false]), .un, .un, .un, .un, .un, .un]) (s1_set 1 g.nd (e_fz (e_bin (o_catL (ds := [.bl true, .bl false, .bl false, .bl false, .bl false, .bl false, .bl false, .bl false, .bl false, .bl false, .bl false, .bl false]) (es := [.bl false, .bl false, .bl false]) (by decide)) (e_var 1) (e_fz (e_lst (a_cons (e_callB (c_isXo hx a12) T.isinstance b_isinstance (a_cons (e_var 0) (a_cons (e_globR g12) a_nil))) (a_cons (e_callB (c_isXo hx a13) T.isinstance b_isinstance (a_cons (e_var 0) (a_cons (e_globR g13) a_nil))) (a_cons (e_callB (c_isXo hx a14) T.isinstance b_isinstance (a_cons (e_var 0) (a_cons (e_globR g14) a_nil))) a_nil)))))))) ?_
      refine s_cons (Γ1 := [.sh (.exc (He.ga K "NoStripes") xn xf), .sh (.lst [.bl true, .bl false, .bl false, .bl false, .bl false, .bl false, .bl false, .bl false, .bl false, .bl false, .bl false, .bl false, .bl false, .bl false, .bl false, .bl false, .bl false]), .un, .un, .un, .un, .un, .un]) (s1_set 1 g.nd (e_fz (e_bin (o_catL (ds := [.bl true, .bl false, .bl false, .bl false, .bl false, .bl false, .bl false, .bl false, .bl false, .bl false, .bl false, .bl false, .bl false, .bl false, .bl false]) (es := [.bl false, .bl false]) (by decide)) (e_var 1) (e_fz (e_lst (a_cons (e_callB (c_isXo hx a15) T.isinstance b_isinstance (a_cons (e_var 0) (a_cons (e_globR g15) a_nil))) (a_cons (e_callB (c_isXo hx a16) T.isinstance b_isinstance (a_cons (e_var 0) (a_cons (e_globR g16) a_nil))) a_nil))))))) ?_
      refine s_cons (Γ1 := [.sh (.exc (He.ga K "NoStripes") xn xf), .sh (.lst [.bl true, .bl false, .bl false, .bl false, .bl false, .bl false, .bl false, .bl false, .bl false, .bl false, .bl false, .bl false, .bl false, .bl false, .bl false, .bl false, .bl false]), .sh (.lst [.bl true, .bl false, .bl false]), .un, .un, .un, .un, .un]) (s1_set 2 g.nd (e_fz (e_lst (a_cons (e_callB (c_isXo hx b0) T.isinstance b_isinstance (a_cons (e_var 0) (a_cons (e_globR h0) a_nil))) (a_cons (e_callB (c_isXo hx b1) T.isinstance b_isinstance (a_cons (e_var 0) (a_cons (e_globR h1) a_nil))) (a_cons (e_callB (c_isXo hx b2) T.isinstance b_isinstance (a_cons (e_var 0) (a_cons (e_globR h2) a_nil))) a_nil)))))) ?_
      refine s_cons (Γ1 := [.sh (.exc (He.ga K "NoStripes") xn xf), .sh (.lst [.bl true, .bl false, .bl false, .bl false, .bl false, .bl false, .bl false, .bl false, .bl false, .bl false, .bl false, .bl false, .bl false, .bl false, .bl false, .bl false, .bl false]), .sh (.lst [.bl true, .bl false, .bl false, .bl false, .bl false]), .un, .un, .un, .un, .un]) (s1_set 2 g.nd (e_fz (e_bin (o_catL (ds := [.bl true, .bl false, .bl false]) (es := [.bl false, .bl false]) (by decide)) (e_var 2) (e_fz (e_lst (a_cons (e_callB (c_isXo hx b3) T.isinstance b_isinstance (a_cons (e_var 0) (a_cons (e_globR h3) a_nil))) (a_cons (e_callB (c_isXo hx b4) T.isinstance b_isinstance (a_cons (e_var 0) (a_cons (e_globR h4) a_nil))) a_nil))))))) ?_
      refine s_cons (Γ1 := [.sh (.exc (He.ga K "NoStripes") xn xf), .sh (.lst [.bl true, .bl false, .bl false, .bl false, .bl false, .bl false, .bl false, .bl false, .bl false, .bl false, .bl false, .bl false, .bl false, .bl false, .bl false, .bl false, .bl false]), .sh (.lst [.bl true, .bl false, .bl false, .bl false, .bl false]), .sh (.lst [.bl true, .bl false, .bl false]), .un, .un, .un, .un]) (s1_set 3 g.nd (e_fz (e_lst (a_cons (e_callB (c_isXt hx c0) T.isinstance b_isinstance (a_cons (e_var 0) (a_cons (e_ty (T "ValueError" (by decide)) b_ValueError) a_nil))) (a_cons (e_callB (c_isXt hx c1) T.isinstance b_isinstance (a_cons (e_var 0) (a_cons (e_ty (T "IndexError" (by decide)) b_IndexError) a_nil))) (a_cons (e_callB (c_isXt hx c2) T.isinstance b_isinstance (a_cons (e_var 0) (a_cons (e_ty (T "KeyError" (by decide)) b_KeyError) a_nil))) a_nil)))))) ?_
      refine s_cons (Γ1 := [.sh (.exc (He.ga K "NoStripes") xn xf), .sh (.lst [.bl true, .bl false, .bl false, .bl false, .bl false, .bl false, .bl false, .bl false, .bl false, .bl false, .bl false, .bl false, .bl false, .bl false, .bl false, .bl false, .bl false]), .sh (.lst [.bl true, .bl false, .bl false, .bl false, .bl false]), .sh (.lst [.bl true, .bl false, .bl false, .bl false]), .un, .un, .un, .un]) (s1_set 3 g.nd (e_fz (e_bin (o_catL (ds := [.bl true, .bl false, .bl false]) (es := [.bl false]) (by decide)) (e_var 3) (e_fz (e_lst (a_cons (e_callB (c_isXt hx c3) T.isinstance b_isinstance (a_cons (e_var 0) (a_cons (e_ty (T "ZeroDivisionError" (by decide)) b_ZeroDivisionError) a_nil))) a_nil)))))) ?_
      assumption
    refine ends_rt (Γ' := [.sh (.exc (He.ga K "NoStripes") xn xf), .sh (.lst [.bl true, .bl false, .bl false, .bl false, .bl false, .bl false, .bl false, .bl false, .bl false, .bl false, .bl false, .bl false, .bl false, .bl false, .bl false, .bl false, .bl false]), .sh (.lst [.bl true, .bl false, .bl false, .bl false, .bl false]), .sh (.lst [.bl true, .bl false, .bl false, .bl false]), .sh (.lst [.str "stripes", .str "threads", .str "manner", .str "long", .str "text", .str "number", .str "box", .str "many", .str "undo", .str "order", .str "spot", .str "cut", .str "shade", .str "name", .str "step", .str "way", .str "weave"]), .sh (.int 0), .sh (.lst [.int 0, .int 0, .int 0, .int 0, .int 0, .int 0, .int 0, .int 0, .int 0, .int 0, .int 1, .int 1, .int 2, .int 2, .int 3, .int 4, .int 4]), .un]) (t0 _ ?_)
    assumption
end
end Hd

set_option Elab.async false
set_option linter.all false
set_option maxRecDepth 100000
set_option maxHeartbeats 1000000
/-! PlTxt: rstrip, split, int(text), str(int) -/
namespace PL
open PySem PySem.Spec PyProof.Rows L2
section
variable {X : Cx} {Γ Γ1 Γ2 : Gm} {e o : Ex} {pos apos : Pos} {x y : Str} {i : Int}
theorem e_rstrip (ho : EX X Γ o (.sh (.str x)) Γ1) (he : EX X Γ1 e (.sh (.str y)) Γ2) (hz : x.length ≤ sizeLine) (hs : starEach [e] X.env = [(false, eval e X.env)] := by rfl) (hbase : attributeBase o "rstrip" X.env (eval o X.env) = eval o X.env := by rfl) (hline : (apos.endLine == pos.line) = true := by rfl) :
    EX X Γ (.Call (.Attribute o "rstrip" apos) [e] [] pos) (.sh (.str (Txt.rstripChars x y))) Γ2 := fun F σ H S Q R q => by
  refine pe_we (pe_m1 PySem.F.slot_str_rstrip PySem.F.type_str_rstrip mt_rstripChars we_pe we_pe hs hbase hline) (ho F σ H S _ R fun v H1 S1 R1 s1 ok1 => ?_)
  obtain rfl : v = .str x := ok1
  refine ⟨⟨_, rfl⟩, he F σ H1 S1 _ R1 fun v H2 S2 R2 s2 ok2 => ?_⟩
  obtain rfl : v = .str y := ok2
  exact ⟨x, y, rfl, rfl, hz, q _ H2 S2 R2 (s1.trans s2) rfl⟩
theorem e_split (ho : EX X Γ o (.sh (.str x)) Γ1) (he : EX X Γ1 e (.sh (.str y)) Γ2) (h0 : (y.length == 0) = false) (hz : x.length + 2 ≤ sizeLine) (hs : starEach [e] X.env = [(false, eval e X.env)] := by rfl) (hbase : attributeBase o "split" X.env (eval o X.env) = eval o X.env := by rfl) (hline : (apos.endLine == pos.line) = true := by rfl) :
    EX X Γ (.Call (.Attribute o "split" apos) [e] [] pos) (.ow (.lst ((Txt.split x y).map .str))) Γ2 := fun F σ H S Q R q => by
  refine pe_we (pe_split we_pe we_pe hs hbase hline) (ho F σ H S _ R fun v H1 S1 R1 s1 ok1 => ?_)
  obtain rfl : v = .str x := ok1
  refine ⟨⟨_, rfl⟩, he F σ H1 S1 _ R1 fun v H2 S2 R2 s2 ok2 => ?_⟩
  obtain rfl : v = .str y := ok2
  refine ⟨x, y, rfl, rfl, h0, hz, fun p n => q _ _ S2 (R2.grow (same_upd n)) (s1.trans s2) ⟨p, rfl, R2.sNone n, R2.h0None n, ⟨_, upd_same, Reps.ofStrs⟩, R2.ownNone n⟩⟩
theorem c_intS (h : intText? x = some i) (hl : x.length ≤ 640) : CallS X (.type "int") [.str x] (.sh (.int i)) := ⟨_, call_int_str, fun Γ F σ H S vs Q R r q => by
  obtain ⟨v, rfl, rfl⟩ := reps1 r
  exact ⟨x, i, rfl, h, hl, q _ H S R (.refl _) rfl⟩⟩
theorem c_strI (h : i.natAbs.log2 < 1920) : CallS X (.type "str") [.int i] (.sh (.str (toString i))) := ⟨_, call_str_int, fun Γ F σ H S vs Q R r q => by
  obtain ⟨v, rfl, rfl⟩ := reps1 r
  exact ⟨i, rfl, h, q _ H S R (.refl _) rfl⟩⟩
end
end PL

set_option Elab.async false
set_option linter.all false
set_option maxRecDepth 100000
set_option maxHeartbeats 1000000
namespace PL
open PySem PySem.Spec PyProof.Rows L2
section
variable {X : Cx} {Γ Γ1 : Gm} {o : Ex} {pos apos : Pos} {x : Str}
theorem e_upper (ho : EX X Γ o (.sh (.str x)) Γ1) (hz : x.length ≤ 5592405) (hbase : attributeBase o "upper" X.env (eval o X.env) = eval o X.env := by rfl) (hline : (apos.endLine == pos.line) = true := by rfl) :
    EX X Γ (.Call (.Attribute o "upper" apos) [] [] pos) (.sh (.str (Txt.upper x))) Γ1 := fun F σ H S Q R q => by
  refine pe_we (pe_m0 PySem.F.slot_str_upper PySem.F.type_str_upper mt_upper we_pe hbase hline) (ho F σ H S _ R fun v H1 S1 R1 s1 ok1 => ?_)
  obtain rfl : v = .str x := ok1
  exact ⟨⟨_, rfl⟩, x, rfl, rfl, hz, q _ H1 S1 R1 s1 rfl⟩
end
end PL

set_option Elab.async false
set_option linter.all false
set_option maxRecDepth 100000
set_option maxHeartbeats 1000000
/-! written displays whose members may be sums, differences and powers of ten -/
namespace PL
open PySem PySem.Spec PyProof.Rows L2
def cI : Ex → Option Int
  | .Constant (.int i) _ _ => some i
  | .BinOp a .Add b _ => match cI a, cI b with
    | some i, some j => some (i + j)
    | _, _ => none
  | .BinOp a .Sub b _ => match cI a, cI b with
    | some i, some j => some (i - j)
    | _, _ => none
  | .BinOp a .Pow b _ => match cI a, cI b with
    | some i, some j => if i = 10 ∧ 0 ≤ j ∧ j ≤ 1000 then some (i ^ j.toNat) else none
    | _, _ => none
  | _ => none
mutual
def valX : Ex → Option D
  | .Constant (.str x) _ _ => some (.str x)
  | .Constant (.bool b) _ _ => some (.bl b)
  | .Constant .none _ _ => some .non
  | .Constant (.int i) _ _ => some (.int i)
  | .BinOp a op b p => (cI (.BinOp a op b p)).map .int
  | .Tuple es _ _ => (valsX es).map .tup
  | .List es _ => (valsX es).map .lst
  | .Dict [] [] _ => some (.dct [] [])
  | _ => none
def valsX : List Ex → Option (List D)
  | [] => some []
  | e :: es => match valX e, valsX es with
    | some d, some ds => some (d :: ds)
    | _, _ => none
end
section
variable {X : Cx} {Γ : Gm} {k : Nat}
theorem e_cI : ∀ {e : Ex} {i : Int}, cI e = some i → EX X Γ e (.sh (.int i)) Γ
  | .Constant (.int i) _ _, _, h => by cases h; exact e_int
  | .BinOp a .Add b _, _, h => by
    have h' : (match cI a, cI b with | some i, some j => some (i + j) | _, _ => none) = some _ := h
    split at h'
    · next i j e1 e2 => cases h'; exact e_bin o_addI (e_cI e1) (e_cI e2)
    · cases h'
  | .BinOp a .Sub b _, _, h => by
    have h' : (match cI a, cI b with | some i, some j => some (i - j) | _, _ => none) = some _ := h
    split at h'
    · next i j e1 e2 => cases h'; exact e_bin o_subI (e_cI e1) (e_cI e2)
    · cases h'
  | .BinOp a .Pow b _, _, h => by
    have h' : (match cI a, cI b with | some i, some j => if i = 10 ∧ 0 ≤ j ∧ j ≤ 1000 then some (i ^ j.toNat) else none | _, _ => none) = some _ := h
    split at h'
    · next i j e1 e2 =>
      split at h'
      · next q => 
        obtain ⟨q1, q2, q3⟩ := q
        cases h'
        subst q1
        exact e_bin (o_pow ⟨q2, by omega, by decide⟩) (e_cI e1) (e_cI e2)
      · cases h'
    · cases h'
theorem star_valX {e : Ex} {d : D} (h : valX e = some d) (es : List Ex) : starEach (e :: es) X.env = (false, eval e X.env) :: starEach es X.env := by
  unfold valX at h
  split at h <;> first | rfl | cases h
mutual
theorem e_valX : ∀ {e : Ex} {d : D}, valX e = some d → smlD d = true → EX X Γ e (.sh d) Γ
  | .Constant (.str x) _ _, _, h, _ => by cases h; exact e_str
  | .Constant (.int i) _ _, _, h, _ => by cases h; exact e_int
  | .Constant (.bool b) _ _, _, h, _ => by cases h; exact e_bl
  | .Constant .none _ _, _, h, _ => by cases h; exact e_non
  | .BinOp a op b p, _, h, _ => by
    have h' : (cI (.BinOp a op b p)).map D.int = some _ := h
    obtain ⟨i, e1, rfl⟩ := Option.map_eq_some_iff.mp h'
    exact e_cI e1
  | .Tuple es _ _, _, h, s => by
    have h' : (valsX es).map D.tup = some _ := h
    obtain ⟨ds, e1, rfl⟩ := Option.map_eq_some_iff.mp h'
    obtain ⟨s1, s2⟩ := Bool.and_eq_true_iff.mp (show (decide (ds.length ≤ 1000) && smlsD ds) = true from s)
    exact e_tup (a_valX e1 s2) (lst_small (α := D) (of_decide_eq_true s1))
  | .List es _, _, h, s => by
    have h' : (valsX es).map D.lst = some _ := h
    obtain ⟨ds, e1, rfl⟩ := Option.map_eq_some_iff.mp h'
    obtain ⟨s1, s2⟩ := Bool.and_eq_true_iff.mp (show (decide (ds.length ≤ 1000) && smlsD ds) = true from s)
    exact e_fz (e_lst (a_valX e1 s2) (lst_small (α := D) (of_decide_eq_true s1)))
  | .Dict [] [] _, _, h, _ => by cases h; exact e_frz e_dict0
theorem a_valX : ∀ {es : List Ex} {ds : List D}, valsX es = some ds → smlsD ds = true → AX X Γ es ds Γ
  | [], _, h, _ => by cases h; exact a_nil
  | e :: es, _, h, s => by
    have h' : (match valX e, valsX es with | some d, some ds => some (d :: ds) | _, _ => none) = some _ := h
    cases h1 : valX e with
    | none => rw [h1] at h'; cases h'
    | some d =>
      cases h2 : valsX es with
      | none => rw [h1, h2] at h'; cases h'
      | some ds =>
        rw [h1, h2] at h'
        cases h'
        obtain ⟨s1, s2⟩ := Bool.and_eq_true_iff.mp (show (smlD d && smlsD ds) = true from s)
        exact a_cons (e_valX h1 s1) (a_valX h2 s2) (star_valX h1 es)
end
def asgX : Stmt → Option (Str × D)
  | .Assign [.Name x _] e _ => (valX e).map fun d => (x, d)
  | _ => none
theorem sw_valX {e : Ex} {d : D} (h : valX e = some d) {t : Option Ex} {l : Nat} {env : Env} (hb : ∀ a op b p, e ≠ .BinOp a op b p) : swapsWith e t l env = pure false := by
  unfold valX at h
  split at h <;> first | rfl | cases h | exact absurd rfl (hb _ _ _ _)
def isBin : Ex → Bool
  | .BinOp _ _ _ _ => true
  | _ => false
def asgB : Stmt → Bool
  | .Assign _ e _ => isBin e
  | _ => true
theorem s_asgX (i : Nat) {x : Str} {st : Stmt} {d : D} {rest : List Stmt} {o : Out} (hv : asgX st = some (x, d)) (hb : asgB st = false) (hd : smlD d = true) (gd : Gd k X) (hl : i < Γ.length) (hi : X.N[i]? = some x) (hx : X.env.scope.names.lookup x = some .local) (h2 : SX X (Γ.set i (.sh d)) rest o) : SX X Γ (st :: rest) o := by
  unfold asgX at hv
  split at hv
  · obtain ⟨d', e1, e2⟩ := Option.map_eq_some_iff.mp hv
    cases e2
    refine s_cons (s1_set i gd.nd (e_valX e1 hd) hl (fun _ z => by cases z) hi (.inl hx) (sw_valX e1 fun a op b p z => ?_) (.inr hx)) h2
    subst z
    cases hb
  · cases hv
/-- the same, of a name that a comprehension captures -/
theorem s_asgC (i : Nat) {x : Str} {st : Stmt} {d : D} {rest : List Stmt} {o : Out} (hv : asgX st = some (x, d)) (hb : asgB st = false) (hd : smlD d = true) (gd : Gd k X) (hl : i < Γ.length) (hi : X.N[i]? = some x) (hx : Loc X.env.scope x) (hf : X.fn x = true ∨ X.env.scope.names.lookup x = some .local) (h2 : SX X (Γ.set i (.sh d)) rest o) : SX X Γ (st :: rest) o := by
  unfold asgX at hv
  split at hv
  · obtain ⟨d', e1, e2⟩ := Option.map_eq_some_iff.mp hv
    cases e2
    refine s_cons (s1_set i gd.nd (e_valX e1 hd) hl (fun _ z => by cases z) hi hx (sw_valX e1 fun a op b p z => ?_) hf) h2
    subst z
    cases hb
  · cases hv
end
end PL

set_option Elab.async false
set_option linter.all false
set_option maxRecDepth 100000
set_option maxHeartbeats 1000000
namespace Hd
open PySem PySem.Spec PyProof.Rows L2 PL
section
variable {Pg : Program} {w : World} {K : PySem.W.Frag} {mg : Str → Option Value} {base : Heap}
theorem atI_ok {α : Type} {xs : List α} {i : Int} {d : α} (h0 : 0 ≤ i) (h1 : i < xs.length) : atI xs i = some (xs.getD i.toNat d) := by
  unfold atI ixN
  rw [if_pos h0, if_pos (by omega)]
  show xs[i.toNat]? = _
  rw [List.getD_eq_getElem?_getD, List.getElem?_eq_getElem (by omega)]
  rfl
theorem _root_.PL.OkSt.pos {ps : List (Str × Int)} (h : OkSt ps) : ∀ p ∈ ps, 0 < p.2 := fun p hp => (h.ok p hp).2
theorem _root_.PL.OkSt.len {ps : List (Str × Int)} (h : OkSt ps) : 0 < (thr ps).length ∧ (thr ps).length ≤ 240 := by
  have h1 := thr_len h.pos
  have h2 := h.le
  cases ps with
  | nil => exact absurd rfl h.ne
  | cons p r =>
    have h3 := h.pos p (List.mem_cons_self ..)
    have h4 := tot_nonneg (ps := r) fun q hq => h.pos q (List.mem_cons_of_mem _ hq)
    have h5 : tot (p :: r) = p.2 + tot r := by unfold tot; rw [List.map_cons, List.sum_cons]
    omega
/-! ### k01: words, stripes, what is bad -/
theorem tk01 {n m : Int} (h0 : 0 < m) (h1 : m ≤ 10 ^ 40) : P_take (po n) [.int m] (.sh (.int (n % m))) (po (n / m)) := ⟨n, m, h0, h1, rfl, rfl, rfl, rfl⟩
def post_w01 : List D → Rs → Prop := fun _ r => ∃ x : Str, x.length ≤ 4 ∧ r = .sh (.str x)
theorem c_word01 (Dd : Df K mg "_law_word" s__law_word []) (T : Bt mg) (G_take : C1 Pg w K mg base "_law_take" 1 ["_law_pool_here", "_law_many"] P_take) : Cp Pg w K mg base "_law_word" 2 ["_law_pool_here", "_law_most"] (fun ds => ∃ m : Int, 0 < m ∧ m ≤ 4 ∧ ds = [.int m]) post_w01 := by
  refine cp_mk (k := 1) Dd sc__law_word (fun _ _ _ _ _ _ us hl => match us, hl with | [_, _], _ => rfl) (by decide) (fun ds ⟨_, _, _, h⟩ => by rw [h]; rfl) (fun n ds h => ?_)
  obtain ⟨m, h0, h4, rfl⟩ := h
  have hz := big2000
  have b4 : (10 : Int) ^ 40 ≥ 240 := by decide +kernel
  have a0 := Int.emod_nonneg n (b := m) (by omega)
  have a1 := Int.emod_lt_of_pos n (b := m) (by omega)
  obtain ⟨sq, s0, hsq⟩ := seq_ex (fun _ : Str × Int => True) (fun _ a b => ∃ c : Nat, atI letters.cps.toList (a.2 % 26) = some c ∧ b = (a.1 ++ (⟨#[c]⟩ : Str), a.2 / 26)) ("", n / m) trivial (fun i a _ => by
    have b0 := Int.emod_nonneg a.2 (b := 26) (by decide)
    have b1 := Int.emod_lt_of_pos a.2 (b := 26) (by decide)
    exact ⟨_, ⟨_, atI_ok (d := 0) b0 (by rw [show letters.cps.toList.length = 26 from by decide +kernel]; exact b1), rfl⟩, trivial⟩)
  have hlen : ∀ i, (sq i).1.length = i := by
    intro i
    induction i with
    | zero => rw [s0]; rfl
    | succ i ih =>
      obtain ⟨_, c, _, e⟩ := hsq i
      rw [e, Str.length_append, ih]; rfl
  have ll : letters.length = 26 := by decide +kernel
  refine ⟨.sh (.str (sq (1 + n % m).toNat).1), (sq (1 + n % m).toNat).2, ⟨_, by rw [hlen]; omega, rfl⟩, (fun _ z => by cases z), fun f cd A outer s H E g p => ⟨[.pr p (po (sq (1 + n % m).toNat).2), .sh (.int m), .sh (.str (sq (1 + n % m).toNat).1), .un], .inl ?_, rfl⟩⟩
  refine s_cons (Γ1 := [.pr p (po n), .sh (.int m), .sh (.str ""), .un]) (s1_set 2 g.nd e_str) ?_
  refine s_cons (Γ1 := [.pr p (po (sq (1 + n % m).toNat).2), .sh (.int m), .sh (.str (sq (1 + n % m).toNat).1), .un]) ?_ (s_one (s1_ret (e_var 2)))
  refine s1_for (n := (1 + n % m).toNat) g (it_range1 (j := 1 + n % m) T.range (a_cons (e_bin o_addI e_int (e_c1 0 G_take g has_pr (a_cons (e_var 1) a_nil) has_pr (tk01 (by omega) (by omega)))) a_nil) (by omega) (by omega)) (fun j => [.pr p (po (sq j).2), .sh (.int m), .sh (.str (sq j).1), .un]) (fun j => [.pr p (po (sq j).2), .sh (.int m), .sh (.str (sq j).1), .sh (.int (j : Nat))]) (by rw [s0]; exact .refl) (fun j hj => g_name 3 g.nd) (fun j hj => .inl ?_)
  obtain ⟨_, c, hc, e⟩ := hsq j
  have hl := hlen j
  rw [e]
  generalize sq j = a at hc hl
  obtain ⟨x, q⟩ := a
  refine s_wk (Γ1 := [.pr p (po (q / 26)), .sh (.int m), .sh (.str (x ++ (⟨#[c]⟩ : Str))), .sh (.int (j : Nat))]) ?_ (Wk.cv (.keep (.keep (.keep (.drop .nil)))))
  exact s_one (s1_set 2 g.nd (e_bin (o_addS (a := x) (b := ⟨#[c]⟩) (by have h1 : x.length = j := hl; show x.length + 1 ≤ _; omega)) (e_var 2) (e_ix e_str (e_c1 0 G_take g has_pr (a_cons e_int a_nil) has_pr (tk01 (by decide) (by decide))) (i_str (a := letters) (by rw [ll]; omega) hc))))
def Sm01 (p : Str × Int) : Prop := p.1.length ≤ 4 ∧ 1 ≤ p.2 ∧ p.2 ≤ 241
def post_s01 : List D → Rs → Prop := fun _ r => ∃ ps : List (Str × Int), 0 < ps.length ∧ ps.length ≤ 9 ∧ (∀ p ∈ ps, Sm01 p) ∧ r = .sh (.tup (ps.map dP))
set_option maxHeartbeats 8000000 in
theorem c_stripes01 (Dd : Df K mg "_law_stripes" s__law_stripes []) (T : Bt mg) (G_take : C1 Pg w K mg base "_law_take" 1 ["_law_pool_here", "_law_many"] P_take) (G_word : Cp Pg w K mg base "_law_word" 2 ["_law_pool_here", "_law_most"] (fun ds => ∃ m : Int, 0 < m ∧ m ≤ 4 ∧ ds = [.int m]) post_w01) : Cp Pg w K mg base "_law_stripes" 3 ["_law_pool_here"] (fun ds => ds = []) post_s01 := by
  refine cp_mk (k := 2) Dd sc__law_stripes (fun _ _ _ _ _ _ us hl => match us, hl with | [_], _ => rfl) (by decide) (fun ds h => by rw [h]; rfl) (fun n ds h => ?_)
  obtain rfl := h
  obtain ⟨PW, GW, hW⟩ := G_word.ex
  have hz := big2000
  obtain ⟨wd, hwd, w0, w1⟩ : ∃ wd : Int, atI [D.int 3, .int 20, .int 30, .int 60] (n % 4) = some (.int wd) ∧ 0 < wd ∧ wd ≤ 60 := by
    rcases (by omega : n % 4 = 0 ∨ n % 4 = 1 ∨ n % 4 = 2 ∨ n % 4 = 3) with h | h | h | h <;> rw [h]
    · exact ⟨3, rfl, by decide, by decide⟩
    · exact ⟨20, rfl, by decide, by decide⟩
    · exact ⟨30, rfl, by decide, by decide⟩
    · exact ⟨60, rfl, by decide, by decide⟩
  have b40 : (10 : Int) ^ 40 ≥ 240 := by decide +kernel
  obtain ⟨sq, s0, hsq⟩ := seq_ex (fun a : List (Str × Int) × Int => ∀ p ∈ a.1, Sm01 p) (fun _ a b => ∃ (m : Int) (x : Str) (n2 : Int), atI [D.int 3, .int 3, .int 3, .int 4] (a.2 % 4) = some (.int m) ∧ PW (po (a.2 / 4)) [.int m] (.sh (.str x)) (po n2) ∧ b = (a.1 ++ [(x, 1 + n2 % wd)], n2 / wd)) ([], n / 4 / 9) (fun p hp => by cases hp) (fun i a ha => by
    obtain ⟨m, hm, m0, m1⟩ : ∃ m : Int, atI [D.int 3, .int 3, .int 3, .int 4] (a.2 % 4) = some (.int m) ∧ 0 < m ∧ m ≤ 4 := by
      rcases (by omega : a.2 % 4 = 0 ∨ a.2 % 4 = 1 ∨ a.2 % 4 = 2 ∨ a.2 % 4 = 3) with h | h | h | h <;> rw [h]
      · exact ⟨3, rfl, by decide, by decide⟩
      · exact ⟨3, rfl, by decide, by decide⟩
      · exact ⟨3, rfl, by decide, by decide⟩
      · exact ⟨4, rfl, by decide, by decide⟩
    obtain ⟨_, n2, ⟨x, hx, rfl⟩, hp⟩ := hW (a.2 / 4) [.int m] ⟨m, m0, m1, rfl⟩
    have c0 := Int.emod_nonneg n2 (b := wd) (by omega)
    have c1 := Int.emod_lt_of_pos n2 (b := wd) (by omega)
    refine ⟨_, ⟨m, x, n2, hm, hp, rfl⟩, fun p hp => ?_⟩
    rcases List.mem_append.mp hp with z | z
    · exact ha p z
    · rw [List.mem_singleton.mp z]; exact ⟨hx, by show 1 ≤ 1 + n2 % wd; omega, by show 1 + n2 % wd ≤ 241; omega⟩)
  have hlen : ∀ i, (sq i).1.length = i := by
    intro i
    induction i with
    | zero => rw [s0]; rfl
    | succ i ih =>
      obtain ⟨_, m, x, n2, _, _, e⟩ := hsq i
      rw [e, List.length_append, ih]; rfl
  have k0 := Int.emod_nonneg (n / 4) (b := 9) (by decide)
  have k1 := Int.emod_lt_of_pos (n / 4) (b := 9) (by decide)
  obtain ⟨kk, hkk⟩ : ∃ kk : Nat, (kk : Int) = 1 + n / 4 % 9 := ⟨(1 + n / 4 % 9).toNat, by omega⟩
  have hsm := (hsq kk).1
  have hl := hlen kk
  obtain ⟨ps, n5, hpn⟩ : ∃ ps n5, sq kk = (ps, n5) := ⟨_, _, rfl⟩
  rw [hpn] at hsm hl
  have hl : ps.length = kk := hl
  have hsm : ∀ p ∈ ps, Sm01 p := hsm
  have ps0 : 0 < ps.length := by omega
  obtain ⟨q0, rest, hps⟩ : ∃ q0 rest, ps = q0 :: rest := by cases ps with | nil => cases ps0 | cons a r => exact ⟨a, r, rfl⟩
  have hsum : ∀ l : List (Str × Int), (∀ p ∈ l, Sm01 p) → 0 ≤ (l.map (·.2)).sum := by
    intro l
    induction l with
    | nil => intro _; exact Int.le_refl _
    | cons x r ih =>
      intro h
      obtain ⟨_, h1, h2⟩ := h x (List.mem_cons_self ..)
      have h3 := ih fun y hy => h y (List.mem_cons_of_mem _ hy)
      rw [List.map_cons, List.sum_cons]
      omega
  obtain ⟨ps', n', h1', h2', h3', last⟩ : ∃ (ps' : List (Str × Int)) (n' : Int), 0 < ps'.length ∧ ps'.length ≤ 9 ∧ (∀ p ∈ ps', Sm01 p) ∧ ∀ f cd A outer s H E, Gd 2 (cx Pg w K mg base N__law_stripes "_law_stripes" (defScope s__law_stripes) f cd A outer s H E) → ∀ p, ∃ Γ', SX (cx Pg w K mg base N__law_stripes "_law_stripes" (defScope s__law_stripes) f cd A outer s H E) [.pr p (po n5), .sh (.int wd), .ow (.lst (ps.map dP)), .un, .un, .un, .un] ((defBody s__law_stripes).drop 3) (.rt (.sh (.tup (ps'.map dP))) Γ') ∧ Γ'[0]? = some (.pr p (po n')) := by
    by_cases h5 : n5 % 5 = 0
    · obtain ⟨b, hb, b0, b1⟩ : ∃ b : Int, atI [D.int 0, .int 0, .int 1] (n5 / 5 % 3) = some (.int b) ∧ 0 ≤ b ∧ b ≤ 1 := by
        rcases (by omega : n5 / 5 % 3 = 0 ∨ n5 / 5 % 3 = 1 ∨ n5 / 5 % 3 = 2) with h | h | h <;> rw [h]
        · exact ⟨0, rfl, by decide, by decide⟩
        · exact ⟨0, rfl, by decide, by decide⟩
        · exact ⟨1, rfl, by decide, by decide⟩
      obtain ⟨lf, hlf⟩ : ∃ lf, lf = 240 - (rest.map (·.2)).sum := ⟨_, rfl⟩
      obtain ⟨mx, hmx⟩ : ∃ mx : Int, mx = if lf + b > 1 then lf + b else 1 := ⟨_, rfl⟩
      have hrs : ∀ p ∈ rest, Sm01 p := fun p hp => hsm p (by rw [hps]; exact List.mem_cons_of_mem _ hp)
      refine ⟨(q0.1, mx) :: rest, n5 / 5 / 3, by simp, by rw [hps] at hl; simp only [List.length_cons] at hl ⊢; omega, ?_, fun f cd A outer s H E g p => ?_⟩
      · intro p hp
        have h1 := hsum rest hrs
        rcases List.mem_cons.mp hp with rfl | hp
        · have hq := hsm q0 (by rw [hps]; exact List.mem_cons_self ..)
          refine ⟨hq.1, ?_, ?_⟩
          · show 1 ≤ mx
            rw [hmx]; split <;> omega
          · show mx ≤ 241
            rw [hmx]; split <;> omega
        · exact hrs p hp
      · have c1 : cutL (ps.map dP) (some 1) none = rest.map dP := by rw [hps]; exact cut_1 _
        have hr1 : rest.length ≤ 9 := by rw [hps] at hl; simp only [List.length_cons] at hl; omega
        have hall : (List.range (rest.map dP).length).map (fun (l : Nat) => D.int (rest.getD l default).2) = (rest.map (·.2)).map D.int := by
          rw [List.length_map, List.map_map]
          apply List.ext_getElem?
          intro i
          rw [List.getElem?_map, List.getElem?_map]
          by_cases hi : i < rest.length
          · rw [List.getElem?_range hi, List.getElem?_eq_getElem hi]
            show some (D.int (rest.getD i default).2) = _
            rw [List.getD_eq_getElem?_getD, List.getElem?_eq_getElem hi]; rfl
          · rw [List.getElem?_eq_none (by simpa using hi), List.getElem?_eq_none (by simpa using hi)]; rfl
        refine ⟨[.pr p (po (n5 / 5 / 3)), .sh (.int wd), .sh (.lst (((q0.1, mx) :: rest).map dP)), .un, .sh (.int lf), .un, .un], ?_, rfl⟩
        refine s_ifT (Γ1 := [.pr p (po (n5 / 5)), .sh (.int wd), .ow (.lst (ps.map dP)), .un, .un, .un, .un]) (Γ2 := [.pr p (po (n5 / 5 / 3)), .sh (.int wd), .ow (.lst (((q0.1, mx) :: rest).map dP)), .un, .sh (.int lf), .un, .un]) (t_eq (t_cmp o_eqI (e_c1 0 G_take g has_pr (a_cons e_int a_nil) has_pr (tk01 (by decide) (by decide))) e_int) (decide_eq_true h5)) ?_ (s_one (s1_ret (e_callTy c_tupL T.tuple b_tuple (a_cons (e_cv (cv_frz (i := 2) rfl) (e_var 2)) a_nil))))
        refine s_cons (Γ1 := [.pr p (po (n5 / 5)), .sh (.int wd), .ow (.lst (ps.map dP)), .un, .sh (.int lf), .un, .un]) ?_ (s_one ?_)
        · rw [hlf]
          refine s1_set 4 (r := .sh (.int (240 - (rest.map (·.2)).sum))) g.nd (e_ro (Γ := [.pr p (po (n5 / 5)), .sh (.int wd), .ow (.lst (ps.map dP)), .un, .un, .un, .un]) (e_bin o_subI e_int (e_callB (c_sum (ns := rest.map (·.2)) g.calm) T.sum b_sum (a_cons (e_fz (e_eq (e_lc2 5 6 g (lc2 (a := fun l => .str (rest.getD l default).1) (b := fun l => .int (rest.getD l default).2) (f := fun l => .int (rest.getD l default).2) 5 6 g (it_list (ds := rest.map dP) (e_eq (e_fz (e_slice (l_list (ds := ps.map dP)) (e_var 2) (p_some e_int) p_none)) (by rw [c1]))) (fun l hl => ?_) (by rw [List.length_map]; omega) (blkOk_by (N := N__law_stripes) (sc := defScope s__law_stripes) (by decide +kernel)) rfl rfl (fun l hl s1 H1 C1 cl fp => e_var 6))) (congrArg (fun z => Rs.ow (Ob.lst z)) hall))) a_nil))) trivial)
          have hl' : l < rest.length := by simpa using hl
          rw [itd_map dP rest l hl', List.getD_eq_getElem?_getD, List.getElem?_eq_getElem hl']; rfl
        · have h1 := hsum rest hrs
          have hix : ixN (ps.map dP).length 0 = some 0 := by
            unfold ixN
            rw [if_pos (by decide), if_pos (by rw [List.length_map]; omega)]; rfl
          have hat : atI (ps.map dP) 0 = some (dP q0) := by rw [hps]; exact atI_nat (j := 0) rfl
          refine s1_eq (s1_asg (g_setix (n := 2) (ds := ps.map dP) has_ow e_int hix) (d := dP (q0.1, mx)) (e_tup (a_cons (e_ro (e_ix (e_ix (e_var 2) e_int (i_list hat)) e_int (i_tup (d := .str q0.1) rfl)) trivial) (a_cons (e_eq (e_callB (c_max2 g.calm) T.max b_max (a_cons e_int (a_cons (e_bin o_addI (e_var 4) (e_ix (e_fz (e_lst (a_cons e_int (a_cons e_int (a_cons e_int a_nil))))) (e_c1 0 G_take g has_pr (a_cons e_int a_nil) has_pr (tk01 (by decide) (by decide))) (i_list hb))) a_nil))) (by rw [hmx])) a_nil)))) ?_
          rw [hps]; rfl
    · refine ⟨ps, n5 / 5, ps0, by omega, hsm, fun f cd A outer s H E g p => ?_⟩
      exact ⟨_, s_ifN (t_eq (t_cmp o_eqI (e_c1 0 G_take g has_pr (a_cons e_int a_nil) has_pr (tk01 (by decide) (by decide))) e_int) (decide_eq_false h5)) (s_one (s1_ret (e_callTy c_tupL T.tuple b_tuple (a_cons (e_cv (cv_frz (i := 2) rfl) (e_var 2)) a_nil)))), rfl⟩
  refine ⟨.sh (.tup (ps'.map dP)), n', ⟨ps', h1', h2', h3', rfl⟩, (fun _ z => by cases z), fun f cd A outer s H E g p => ?_⟩
  obtain ⟨Γ', hlast, hΓ⟩ := last f cd A outer s H E g p
  refine ⟨Γ', .inl ?_, hΓ⟩
  refine s_cons (Γ1 := [.pr p (po (n / 4)), .sh (.int wd), .un, .un, .un, .un, .un]) (s1_set 1 g.nd (e_ix (e_fz (e_lst (a_cons e_int (a_cons e_int (a_cons e_int (a_cons e_int a_nil)))))) (e_c1 0 G_take g has_pr (a_cons e_int a_nil) has_pr (tk01 (by decide) (by decide))) (i_list hwd))) ?_
  refine s_cons (Γ1 := [.pr p (po (n / 4)), .sh (.int wd), .ow (.lst []), .un, .un, .un, .un]) (s1_set 2 g.nd (e_lst a_nil)) ?_
  refine s_cons (Γ1 := [.pr p (po n5), .sh (.int wd), .ow (.lst (ps.map dP)), .un, .un, .un, .un]) ?_ hlast
  have e1 : (1 + n / 4 % 9).toNat = kk := by omega
  have e2 : [Sl.pr p (po n5), .sh (.int wd), .ow (.lst (ps.map dP)), .un, .un, .un, .un] = (fun j => [Sl.pr p (po (sq j).2), .sh (.int wd), .ow (.lst ((sq j).1.map dP)), .un, .un, .un, .un]) (1 + n / 4 % 9).toNat := by
    show _ = [Sl.pr p (po (sq (1 + n / 4 % 9).toNat).2), .sh (.int wd), .ow (.lst ((sq (1 + n / 4 % 9).toNat).1.map dP)), .un, .un, .un, .un]
    rw [e1, hpn]
  rw [e2]
  refine s1_for (n := (1 + n / 4 % 9).toNat) g (it_range1 (j := 1 + n / 4 % 9) T.range (a_cons (e_bin o_addI e_int (e_c1 0 G_take g has_pr (a_cons e_int a_nil) has_pr (tk01 (by decide) (by decide)))) a_nil) (by omega) (by omega)) (fun j => [.pr p (po (sq j).2), .sh (.int wd), .ow (.lst ((sq j).1.map dP)), .un, .un, .un, .un]) (fun j => [.pr p (po (sq j).2), .sh (.int wd), .ow (.lst ((sq j).1.map dP)), .sh (.int (j : Nat)), .un, .un, .un]) (by rw [s0]; exact .refl) (fun j hj => g_name 3 g.nd) (fun j hj => .inl ?_)
  obtain ⟨_, m, x, n2, hm, hpw, e⟩ := hsq j
  have hl9 := hlen j
  rw [e]
  generalize sq j = a at hm hpw hl9
  obtain ⟨qs, nn⟩ := a
  refine s_wk (Γ1 := [.pr p (po (n2 / wd)), .sh (.int wd), .ow (.lst ((qs ++ [(x, 1 + n2 % wd)]).map dP)), .sh (.int (j : Nat)), .un, .un, .un]) ?_ (Wk.cv (.keep (.keep (.keep (.drop (.keep (.keep (.keep .nil))))))))
  refine s_one (s1_eq (s1_expr (e_append (i := 2) (e_tup (a_cons (e_c1 0 GW g has_pr (a_cons (e_ix (e_fz (e_lst (a_cons e_int (a_cons e_int (a_cons e_int (a_cons e_int a_nil)))))) (e_c1 0 G_take g has_pr (a_cons e_int a_nil) has_pr (tk01 (by decide) (by decide))) (i_list hm)) a_nil) has_pr hpw) (a_cons (e_bin o_addI e_int (e_c1 0 G_take g has_pr (a_cons (e_var 1) a_nil) has_pr (tk01 (by omega) (by omega)))) a_nil))) ⟨_, _, has_ow, _, rfl⟩ has_ow (by rw [List.length_map]; have h1 : qs.length = j := hl9; omega))) ?_)
  rw [List.map_append]; rfl
end
end Hd

set_option Elab.async false
set_option linter.all false
set_option maxRecDepth 100000
set_option maxHeartbeats 1000000
namespace Hd
open PySem PySem.Spec PyProof.Rows L2 PL
section
variable {Pg : Program} {w : World} {K : PySem.W.Frag} {mg : Str → Option Value} {base : Heap}
/-! ### k01: what is bad, refused, right -/
def P_lwhole : List D → Rs → Prop := fun ds r => ∃ d, d.plain = true ∧ ds = [d] ∧ r = .sh (.bl (wholeB d))
theorem c_lwhole (Dd : Df K mg "_law_whole" s__law_whole []) (T : Bt mg) : C0 Pg w K mg base "_law_whole" 1 ["_law_thing"] P_lwhole := by
  refine c0_mk (k := 0) Dd sc__law_whole (fun _ _ _ _ _ _ us hl => match us, hl with | [_], _ => rfl) (by decide) (fun ds r => ?_) (fun f cd A outer s H E g ds r => ?_)
  · rintro ⟨d, hp, rfl, rfl⟩
    exact ⟨rfl, fun _ z => by cases z⟩
  · rintro ⟨d, hp, rfl, rfl⟩
    have h : ∃ Γ', Ends1 (cx Pg w K mg base N__law_whole "_law_whole" (defScope s__law_whole) f cd A outer s H E) (ent N__law_whole [d]) (defBody s__law_whole) (.sh (.bl (isInt d && !isBool d))) Γ' :=
      ends_rt (s_one (s1_ret (e_and (e_callB (c_isInt hp) T.isinstance b_isinstance (a_cons (e_var 0) (a_cons (e_ty T.int b_int) a_nil))) fun _ => e_one (e_not (e_callB (c_isBool hp) T.isinstance b_isinstance (a_cons (e_var 0) (a_cons (e_ty T.bool b_bool) a_nil)))))))
    have e : (isInt d && !isBool d) = wholeB d := by cases d <;> first | rfl | cases hp
    rw [e] at h
    exact h
def P_shady : List D → Rs → Prop := fun ds r => ∃ d, Pl d ∧ ds = [d] ∧ r = .sh (.bl (shadeD d))
theorem c_shady (Dd : Df K mg "_law_shady" s__law_shady []) (T : Bt mg) : C0 Pg w K mg base "_law_shady" 1 ["_law_thing"] P_shady := by
  refine c0_mk (k := 0) Dd sc__law_shady (fun _ _ _ _ _ _ us hl => match us, hl with | [_], _ => rfl) (by decide) (fun ds r => ?_) (fun f cd A outer s H E g ds r => ?_)
  · rintro ⟨d, hp, rfl, rfl⟩
    exact ⟨rfl, fun _ z => by cases z⟩
  · rintro ⟨d, hp, rfl, rfl⟩
    rcases (by cases d with | str x => exact .inl ⟨x, rfl⟩ | _ => exact .inr ⟨hp.plain, rfl, rfl⟩ : (∃ x, d = .str x) ∨ (d.plain = true ∧ isStr d = false ∧ shadeD d = false)) with ⟨x, rfl⟩ | ⟨h1, h2, h3⟩
    · have hl : x.length ≤ sizeLine := hp
      by_cases h : (1 : Int) ≤ x.length ∧ (x.length : Int) ≤ 3
      · refine ends_eq (ends_rt (s_ifN (t_w (w_orF (t_eq (t_not (t_val (e_callB (c_isStr rfl) T.isinstance b_isinstance (a_cons (e_var 0) (a_cons (e_ty T.str b_str) a_nil))))) rfl) (w_or1 (t_eq (t_cmp (o_ninI (xs := [1, 2, 3])) (e_callB (c_lenS hl) T.len b_len (a_cons (e_var 0) a_nil)) (e_fz (e_lst (a_cons e_int (a_cons e_int (a_cons e_int a_nil)))))) ?_)))) (s_one (s1_ret (e_callB (c_allR g.calm) T.all b_all (a_cons (e_frz (e_lc1 1 (fun j => .bl (decide (x.cps.getD j 0 ∈ letters.cps.toList))) g (it_str (e_var 0)) hl (blkOk_by (N := N__law_shady) (sc := defScope s__law_shady) (by decide +kernel)) rfl (fun j hj s1 H1 C cl fp => e_cmp (o_inSign (b := letters)) (e_var 1) e_str))) a_nil)))))) ?_
        · rw [decide_eq_true (show (x.length : Int) ∈ [(1 : Int), 2, 3] by simp; omega)]; rfl
        · show Rs.sh (D.bl _) = .sh (.bl (wordB x 3))
          unfold wordB
          rw [decide_eq_true h.1, decide_eq_true h.2]; rfl
      · refine ends_eq (ends_rt (s_ifTE (t_w (w_orF (t_eq (t_not (t_val (e_callB (c_isStr rfl) T.isinstance b_isinstance (a_cons (e_var 0) (a_cons (e_ty T.str b_str) a_nil))))) rfl) (w_or1 (t_eq (t_cmp (o_ninI (xs := [1, 2, 3])) (e_callB (c_lenS hl) T.len b_len (a_cons (e_var 0) a_nil)) (e_fz (e_lst (a_cons e_int (a_cons e_int (a_cons e_int a_nil)))))) ?_)))) (s_one (s1_ret e_bl)))) ?_
        · rw [decide_eq_false (show ¬ (x.length : Int) ∈ [(1 : Int), 2, 3] by simp; omega)]; rfl
        · show Rs.sh (D.bl false) = .sh (.bl (wordB x 3))
          unfold wordB
          by_cases h1 : (1 : Int) ≤ x.length
          · rw [decide_eq_false (show ¬ (x.length : Int) ≤ 3 from fun z => h ⟨h1, z⟩), Bool.and_false, Bool.false_and]
          · rw [decide_eq_false h1, Bool.false_and, Bool.false_and]
    · refine ends_eq (ends_rt (s_ifTE (t_w (w_orT (t_eq (t_not (t_val (e_callB (c_isStr h1) T.isinstance b_isinstance (a_cons (e_var 0) (a_cons (e_ty T.str b_str) a_nil))))) (by rw [h2]; rfl)))) (s_one (s1_ret e_bl)))) ?_
      rw [h3]
def fbR (d : D) : D := match fbD d with
  | none => .tup []
  | some e => .tup [e]
def P_fb01 : List D → Rs → Prop := fun ds r => ∃ d, PlT d ∧ ds = [d] ∧ r = .sh (fbR d)
/-- a part that the first look lets pass -/
theorem part_ok {d : D} (h : stripeD d = true) : ∃ a i, d = .tup [a, .int i] ∧ shadeD a = true ∧ 0 < i := stripe_at h
set_option maxHeartbeats 4000000 in
theorem c_fb01 (Dd : Df K mg "_law_first_bad" s__law_first_bad []) (T : Bt mg) (G_shady : C0 Pg w K mg base "_law_shady" 1 ["_law_thing"] P_shady) (G_whole : C0 Pg w K mg base "_law_whole" 1 ["_law_thing"] P_lwhole) : C0 Pg w K mg base "_law_first_bad" 2 ["_law_thing"] P_fb01 := by
  refine c0_mk (k := 1) Dd sc__law_first_bad (fun _ _ _ _ _ _ us hl => match us, hl with | [_], _ => rfl) (by decide) (fun ds r => ?_) (fun f cd A outer s H E g ds r => ?_)
  · rintro ⟨d, _, rfl, rfl⟩
    exact ⟨rfl, fun _ z => by cases z⟩
  · rintro ⟨d, ⟨hp, ht⟩, rfl, rfl⟩
    have hz := big2000
    cases hT : isTup d with
    | false =>
      refine ends_eq (ends_rt (s_ifTE (t_w (w_orT (t_eq (t_not (t_val (e_callB (c_isTup hp) T.isinstance b_isinstance (a_cons (e_var 0) (a_cons (e_ty T.tuple b_tuple) a_nil))))) (by rw [hT]; rfl)))) (s_one (s1_ret (e_tup (a_cons e_non a_nil)))))) ?_
      unfold fbR; rw [fb_nt hT]
    | true =>
      obtain ⟨es, rfl⟩ : ∃ es, d = .tup es := by cases d <;> first | exact ⟨_, rfl⟩ | cases hT
      obtain ⟨hl, hpl⟩ := ht es rfl
      by_cases hem : es = []
      · subst hem
        exact ends_rt (s_ifTE (t_w (w_orF (t_eq (t_not (t_val (e_callB (c_isTup (d := .tup []) rfl) T.isinstance b_isinstance (a_cons (e_var 0) (a_cons (e_ty T.tuple b_tuple) a_nil))))) rfl) (w_or1 (t_eq (t_cmp (o_eqT0A (ds := []) g.rm.units0) (e_var 0) (e_tup a_nil)) rfl)))) (s_one (s1_ret (e_tup (a_cons e_non a_nil)))))
      have hem' : es.isEmpty = false := by cases es with | nil => exact absurd rfl hem | cons x r => rfl
      have hf : fbD (.tup es) = (fbS 0 0 es).map (fun (i : Nat) => D.int (i : Nat)) := by cases es with | nil => exact absurd rfl hem | cons x r => rfl
      have itE : ∀ j (hj : j < es.length), itd es j = es[j] := fun j hj => by unfold itd; rw [List.getD_eq_getElem?_getD, List.getElem?_eq_getElem hj]; rfl
      -- a good part passes
      have good : ∀ j, j < es.length → stripeD (itd es j) = true → tD es j + cntD (itd es j) ≤ 240 → SX (cx Pg w K mg base N__law_first_bad "_law_first_bad" (defScope s__law_first_bad) f cd A outer s H E) [.sh (.tup es), .sh (.int (tD es j)), .sh (.int (j : Nat)), .sh (itd es j)] (fBody ((defBody s__law_first_bad).drop 2)) (.nx [.sh (.tup es), .sh (.int (tD es j + cntD (itd es j))), .un, .un]) := fun j hj h1 h2 => by
        have hps : PlS (itd es j) := by rw [itE j hj]; exact hpl _ (List.getElem_mem hj)
        generalize itd es j = e at h1 h2 hps
        obtain ⟨a, i, rfl, ha, hi⟩ := stripe_at h1
        rw [cntD_at] at h2 ⊢
        have hpa : Pl a := (hps.2 _ rfl).2 a (List.mem_cons_self ..)
        refine s_wk (Γ1 := [.sh (.tup es), .sh (.int (tD es j + i)), .sh (.int (j : Nat)), .sh (.tup [a, .int i])]) ?_ (Wk.cv (.keep (.keep (.drop (.drop .nil)))))
        refine s_ifN (Γ1 := [.sh (.tup es), .sh (.int (tD es j)), .sh (.int (j : Nat)), .sh (.tup [a, .int i])]) (t_w (w_orF (t_eq (t_not (t_val (e_callB (c_isTup (d := .tup [a, .int i]) rfl) T.isinstance b_isinstance (a_cons (e_var 3) (a_cons (e_ty T.tuple b_tuple) a_nil))))) rfl) (w_orF (t_eq (t_cmp o_neI (e_callB (c_lenT (ds := [a, .int i])) T.len b_len (a_cons (e_var 3) a_nil)) e_int) rfl) (w_orF (t_eq (t_not (t_val (e_c0 G_shady g (a_cons (e_ix (e_var 3) e_int (i_tup (i := 0) (d := a) rfl)) a_nil) ⟨a, hpa, rfl, rfl⟩))) (by rw [ha]; rfl)) (w_or1 (t_eq (t_not (t_val (e_c0 G_whole g (a_cons (e_ix (e_var 3) e_int (i_tup (ds := [a, .int i]) (i := 1) (d := .int i) rfl)) a_nil) ⟨.int i, rfl, rfl, rfl⟩))) rfl)))))) ?_
        refine s_cons (Γ1 := [.sh (.tup es), .sh (.int (tD es j + i)), .sh (.int (j : Nat)), .sh (.tup [a, .int i])]) (s1_set 1 g.nd (e_bin o_addI (e_var 1) (e_ix (e_var 3) e_int (i_tup (ds := [a, .int i]) (i := 1) (d := .int i) rfl)))) ?_
        exact s_ifN (Γ1 := [.sh (.tup es), .sh (.int (tD es j + i)), .sh (.int (j : Nat)), .sh (.tup [a, .int i])]) (t_w (w_orF (t_eq (t_cmp o_lt (e_ix (e_var 3) e_int (i_tup (ds := [a, .int i]) (i := 1) (d := .int i) rfl)) e_int) (decide_eq_false (by omega))) (w_or1 (t_eq (t_cmp o_gt (e_var 1) e_int) (decide_eq_false (by omega)))))) s_nil
      have bad : ∀ j, j < es.length → (stripeD (itd es j) = false ∨ (stripeD (itd es j) = true ∧ 240 < tD es j + cntD (itd es j))) → ∃ Γ', SX (cx Pg w K mg base N__law_first_bad "_law_first_bad" (defScope s__law_first_bad) f cd A outer s H E) [.sh (.tup es), .sh (.int (tD es j)), .sh (.int (j : Nat)), .sh (itd es j)] (fBody ((defBody s__law_first_bad).drop 2)) (.rt (.sh (.tup [.int (j : Nat)])) Γ') := fun j hj hb => by
        have hps : PlS (itd es j) := by rw [itE j hj]; exact hpl _ (List.getElem_mem hj)
        generalize itd es j = e at hb hps
        have hpp := hps.1
        cases hTe : isTup e with
        | false => refine ⟨[.sh (.tup es), .sh (.int (tD es j)), .sh (.int (j : Nat)), .sh e], ?_⟩; refine s_ifTE (Γ1 := [.sh (.tup es), .sh (.int (tD es j)), .sh (.int (j : Nat)), .sh e]) (t_w (w_orT (t_eq (t_not (t_val (e_callB (c_isTup hpp) T.isinstance b_isinstance (a_cons (e_var 3) (a_cons (e_ty T.tuple b_tuple) a_nil))))) (by rw [hTe]; rfl)))) (s_one (s1_ret (e_tup (a_cons (e_var 2) a_nil))))
        | true =>
          obtain ⟨us, rfl⟩ : ∃ us, e = .tup us := by cases e <;> first | exact ⟨_, rfl⟩ | cases hTe
          obtain ⟨ul, upl⟩ := hps.2 us rfl
          by_cases h2 : us.length = 2
          · match us, h2, upl with
            | [a, b], _, upl =>
              have hpa := upl a (List.mem_cons_self ..)
              have hpb := upl b (List.mem_cons_of_mem _ (List.mem_cons_self ..))
              cases hsa : shadeD a with
              | false => refine ⟨[.sh (.tup es), .sh (.int (tD es j)), .sh (.int (j : Nat)), .sh (.tup [a, b])], ?_⟩; refine s_ifTE (Γ1 := [.sh (.tup es), .sh (.int (tD es j)), .sh (.int (j : Nat)), .sh (.tup [a, b])]) (t_w (w_orF (t_eq (t_not (t_val (e_callB (c_isTup (d := .tup [a, b]) rfl) T.isinstance b_isinstance (a_cons (e_var 3) (a_cons (e_ty T.tuple b_tuple) a_nil))))) rfl) (w_orF (t_eq (t_cmp o_neI (e_callB (c_lenT (ds := [a, b])) T.len b_len (a_cons (e_var 3) a_nil)) e_int) rfl) (w_orT (t_eq (t_not (t_val (e_c0 G_shady g (a_cons (e_ix (e_var 3) e_int (i_tup (i := 0) (d := a) rfl)) a_nil) ⟨a, hpa, rfl, rfl⟩))) (by rw [hsa]; rfl)))))) (s_one (s1_ret (e_tup (a_cons (e_var 2) a_nil))))
              | true =>
                rcases (by cases b with | int i => exact .inl ⟨i, rfl⟩ | _ => exact .inr ⟨hpb.plain, rfl⟩ : (∃ i, b = .int i) ∨ (b.plain = true ∧ wholeB b = false)) with ⟨i, rfl⟩ | ⟨hbp, hbw⟩
                · refine ⟨[.sh (.tup es), .sh (.int (tD es j + i)), .sh (.int (j : Nat)), .sh (.tup [a, .int i])], s_ifN (Γ1 := [.sh (.tup es), .sh (.int (tD es j)), .sh (.int (j : Nat)), .sh (.tup [a, .int i])]) (t_w (w_orF (t_eq (t_not (t_val (e_callB (c_isTup (d := .tup [a, .int i]) rfl) T.isinstance b_isinstance (a_cons (e_var 3) (a_cons (e_ty T.tuple b_tuple) a_nil))))) rfl) (w_orF (t_eq (t_cmp o_neI (e_callB (c_lenT (ds := [a, .int i])) T.len b_len (a_cons (e_var 3) a_nil)) e_int) rfl) (w_orF (t_eq (t_not (t_val (e_c0 G_shady g (a_cons (e_ix (e_var 3) e_int (i_tup (i := 0) (d := a) rfl)) a_nil) ⟨a, hpa, rfl, rfl⟩))) (by rw [hsa]; rfl)) (w_or1 (t_eq (t_not (t_val (e_c0 G_whole g (a_cons (e_ix (e_var 3) e_int (i_tup (ds := [a, .int i]) (i := 1) (d := .int i) rfl)) a_nil) ⟨.int i, rfl, rfl, rfl⟩))) rfl)))))) (s_cons (Γ1 := [.sh (.tup es), .sh (.int (tD es j + i)), .sh (.int (j : Nat)), .sh (.tup [a, .int i])]) (s1_set 1 g.nd (e_bin o_addI (e_var 1) (e_ix (e_var 3) e_int (i_tup (ds := [a, .int i]) (i := 1) (d := .int i) rfl)))) ?_)⟩
                  have hst : stripeD (.tup [a, .int i]) = decide (0 < i) := by
                    show (shadeD a && decide (0 < i)) = _
                    rw [hsa, Bool.true_and]
                  rw [hst, cntD_at] at hb
                  by_cases hi : i < 1
                  · exact s_ifTE (Γ1 := [.sh (.tup es), .sh (.int (tD es j + i)), .sh (.int (j : Nat)), .sh (.tup [a, .int i])]) (t_w (w_orT (t_eq (t_cmp o_lt (e_ix (e_var 3) e_int (i_tup (ds := [a, .int i]) (i := 1) (d := .int i) rfl)) e_int) (decide_eq_true hi)))) (s_one (s1_ret (e_tup (a_cons (e_var 2) a_nil))))
                  · have h240 : 240 < tD es j + i := by
                      rcases hb with hb | ⟨_, hb⟩
                      · rw [decide_eq_true (by omega)] at hb; cases hb
                      · exact hb
                    exact s_ifTE (Γ1 := [.sh (.tup es), .sh (.int (tD es j + i)), .sh (.int (j : Nat)), .sh (.tup [a, .int i])]) (t_w (w_orF (t_eq (t_cmp o_lt (e_ix (e_var 3) e_int (i_tup (ds := [a, .int i]) (i := 1) (d := .int i) rfl)) e_int) (decide_eq_false hi)) (w_or1 (t_eq (t_cmp o_gt (e_var 1) e_int) (decide_eq_true (by omega)))))) (s_one (s1_ret (e_tup (a_cons (e_var 2) a_nil))))
                · refine ⟨[.sh (.tup es), .sh (.int (tD es j)), .sh (.int (j : Nat)), .sh (.tup [a, b])], ?_⟩; refine s_ifTE (Γ1 := [.sh (.tup es), .sh (.int (tD es j)), .sh (.int (j : Nat)), .sh (.tup [a, b])]) (t_w (w_orF (t_eq (t_not (t_val (e_callB (c_isTup (d := .tup [a, b]) rfl) T.isinstance b_isinstance (a_cons (e_var 3) (a_cons (e_ty T.tuple b_tuple) a_nil))))) rfl) (w_orF (t_eq (t_cmp o_neI (e_callB (c_lenT (ds := [a, b])) T.len b_len (a_cons (e_var 3) a_nil)) e_int) rfl) (w_orF (t_eq (t_not (t_val (e_c0 G_shady g (a_cons (e_ix (e_var 3) e_int (i_tup (i := 0) (d := a) rfl)) a_nil) ⟨a, hpa, rfl, rfl⟩))) (by rw [hsa]; rfl)) (w_or1 (t_eq (t_not (t_val (e_c0 G_whole g (a_cons (e_ix (e_var 3) e_int (i_tup (i := 1) (d := b) rfl)) a_nil) ⟨b, hbp, rfl, rfl⟩))) (by rw [hbw]; rfl))))))) (s_one (s1_ret (e_tup (a_cons (e_var 2) a_nil))))
          · refine ⟨[.sh (.tup es), .sh (.int (tD es j)), .sh (.int (j : Nat)), .sh (.tup us)], ?_⟩; refine s_ifTE (Γ1 := [.sh (.tup es), .sh (.int (tD es j)), .sh (.int (j : Nat)), .sh (.tup us)]) (t_w (w_orF (t_eq (t_not (t_val (e_callB (c_isTup (d := .tup us) rfl) T.isinstance b_isinstance (a_cons (e_var 3) (a_cons (e_ty T.tuple b_tuple) a_nil))))) rfl) (w_orT (t_eq (t_cmp o_neI (e_callB (c_lenT (ds := us)) T.len b_len (a_cons (e_var 3) a_nil)) e_int) (by rw [decide_eq_false (by omega)]; rfl))))) (s_one (s1_ret (e_tup (a_cons (e_var 2) a_nil))))
      have pre : ∀ r, (∃ Γ', SX (cx Pg w K mg base N__law_first_bad "_law_first_bad" (defScope s__law_first_bad) f cd A outer s H E) [.sh (.tup es), .sh (.int 0), .un, .un] ((defBody s__law_first_bad).drop 2) (.rt r Γ')) → ∃ Γ', Ends1 (cx Pg w K mg base N__law_first_bad "_law_first_bad" (defScope s__law_first_bad) f cd A outer s H E) (ent N__law_first_bad [.tup es]) (defBody s__law_first_bad) r Γ' := fun r ⟨Γ', h⟩ => by
        refine ⟨Γ', .inl ?_⟩
        refine s_ifN (Γ1 := [.sh (.tup es), .un, .un, .un]) (t_w (w_orF (t_eq (t_not (t_val (e_callB (c_isTup (d := .tup es) rfl) T.isinstance b_isinstance (a_cons (e_var 0) (a_cons (e_ty T.tuple b_tuple) a_nil))))) rfl) (w_or1 (t_eq (t_cmp (o_eqT0A (ds := es) g.rm.units0) (e_var 0) (e_tup a_nil)) hem')))) ?_
        exact s_cons (Γ1 := [.sh (.tup es), .sh (.int 0), .un, .un]) (s1_set 1 g.nd e_int) h
      unfold fbR
      rw [hf]
      cases hfs : fbS 0 0 es with
      | none =>
        have hall := fbS_none hfs
        refine pre _ ⟨[.sh (.tup es), .sh (.int (tD es es.length)), .un, .un], ?_⟩
        refine s_cons (Γ1 := [.sh (.tup es), .sh (.int (tD es es.length)), .un, .un]) ?_ (s_one (s1_ret (e_tup a_nil)))
        refine s1_for (n := es.length) g (it_enumT T.enumerate (a_cons (e_var 0) a_nil)) (fun j => [.sh (.tup es), .sh (.int (tD es j)), .un, .un]) (fun j => [.sh (.tup es), .sh (.int (tD es j)), .sh (.int (j : Nat)), .sh (itd es j)]) .refl (fun j hj => g_tup g.calm (gs_cons (g_name 2 g.nd) (gs_cons (g_name 3 g.nd) gs_nil))) (fun j hj => .inl ?_)
        obtain ⟨h1, h2⟩ := hall j hj
        rw [tD_succ hj] at h2 ⊢
        rw [← itE j hj] at h1 h2 ⊢
        exact good j hj h1 (by omega)
      | some m =>
        obtain ⟨k, rfl, hk, hall, hbad⟩ := fbS_some hfs
        rw [Nat.zero_add]
        rw [tD_succ hk, ← itE k hk] at hbad
        obtain ⟨Γb, hB⟩ := bad k hk (hbad.imp id fun ⟨a, b⟩ => ⟨a, by omega⟩)
        refine pre _ ⟨Γb, ?_⟩
        refine s_end (s1_forX (o := .rt (.sh (.tup [.int (k : Nat)])) Γb) (o' := .rt (.sh (.tup [.int (k : Nat)])) Γb) k g (it_enumT T.enumerate (a_cons (e_var 0) a_nil)) (fun j => [.sh (.tup es), .sh (.int (tD es j)), .un, .un]) (fun j => [.sh (.tup es), .sh (.int (tD es j)), .sh (.int (j : Nat)), .sh (itd es j)]) .refl hk (fun j hj => g_tup g.calm (gs_cons (g_name 2 g.nd) (gs_cons (g_name 3 g.nd) gs_nil))) (fun j hj => .inl ?_) hB (.inl ⟨_, _, rfl, rfl⟩)) rfl
        have hj' : j < es.length := by omega
        obtain ⟨h1, h2⟩ := hall j hj
        rw [tD_succ hj'] at h2 ⊢
        rw [← itE j hj'] at h1 h2 ⊢
        exact good j hj' h1 (by omega)
end
end Hd

set_option Elab.async false
set_option linter.all false
set_option maxRecDepth 100000
set_option maxHeartbeats 1000000
/-! PlBack: xs[lo:hi:-1] of a list -/
namespace PL
open PySem PySem.Spec PyProof.Rows L2 HT
theorem pick_eq (its : List Value) (lo hi : Option Int) : slicePick its.toArray lo hi (some (-1)) = (pickB its lo hi).toArray := by
  have hb : (sliceBounds lo hi (some (-1)) its.toArray.size).1 = (Builtin.Slice.sliceAdjust lo hi (-1) (its.length : Int)).1 ∧ (sliceBounds lo hi (some (-1)) its.toArray.size).2.1 = (Builtin.Slice.sliceAdjust lo hi (-1) (its.length : Int)).2 ∧ (sliceBounds lo hi (some (-1)) its.toArray.size).2.2 = -1 := by
    rw [List.size_toArray]
    have g1 : ¬ ((-1 : Int) > 0) := by decide
    have g2 : (-1 : Int) < 0 := by decide
    refine ⟨?_, ?_, rfl⟩
    · cases lo with
      | none => show (if (-1 : Int) > 0 then (0 : Int) else (its.length : Int) - 1) = (if (-1 : Int) < 0 then (if (-1 : Int) < 0 then (its.length : Int) - 1 else its.length) else (if (-1 : Int) < 0 then (-1 : Int) else 0)); rw [if_neg g1, if_pos g2, if_pos g2]
      | some i =>
        show (if (-1 : Int) > 0 then max 0 (min (if i < 0 then i + its.length else i) (its.length : Int)) else max (-1) (min (if i < 0 then i + its.length else i) ((its.length : Int) - 1))) = (if i < 0 then max (i + its.length) (if (-1 : Int) < 0 then (-1 : Int) else 0) else min i (if (-1 : Int) < 0 then (its.length : Int) - 1 else its.length))
        rw [if_neg g1, if_pos g2, if_pos g2]
        split <;> omega
    · cases hi with
      | none => show (if (-1 : Int) > 0 then (its.length : Int) else -1) = (if (-1 : Int) < 0 then (if (-1 : Int) < 0 then (-1 : Int) else 0) else (if (-1 : Int) < 0 then (its.length : Int) - 1 else its.length)); rw [if_neg g1, if_pos g2, if_pos g2]
      | some i =>
        show (if (-1 : Int) > 0 then max 0 (min (if i < 0 then i + its.length else i) (its.length : Int)) else max (-1) (min (if i < 0 then i + its.length else i) ((its.length : Int) - 1))) = (if i < 0 then max (i + its.length) (if (-1 : Int) < 0 then (-1 : Int) else 0) else min i (if (-1 : Int) < 0 then (its.length : Int) - 1 else its.length))
        rw [if_neg g1, if_pos g2, if_pos g2]
        split <;> omega
  unfold slicePick pickB
  rw [hb.1, hb.2.1, hb.2.2]
  generalize Builtin.Slice.sliceAdjust lo hi (-1) (its.length : Int) = pq
  unfold sliceRange Builtin.Slice.slicePlaces
  have g1 : ¬ ((-1 : Int) > 0) := by decide
  simp only [if_neg g1]
  have e : (if pq.1 > pq.2 then (pq.1 - pq.2 - -1 - 1) / (- -1) else (0 : Int)) = (if pq.1 > pq.2 then (pq.1 - pq.2 - 1) / (- -1) + 1 else 0) := by
    split
    · rw [show (- -1 : Int) = 1 from rfl, Int.ediv_one, Int.ediv_one]; omega
    · rfl
  rw [e, List.filterMap_map]
  congr 2
  funext k
  show its.toArray[(pq.1 + -1 * (k : Int)).toNat]? = its[(pq.1 + (k : Int) * (-1)).toNat]?
  rw [Int.mul_comm, List.getElem?_toArray]
section
variable {X : Cx} {Γ Γ1 Γ2 Γ3 : Gm} {a : Ex} {lo hi : Option Ex} {i j : Option Int} {ds : List D} {k : Nat} {p1 p2 p3 pos : Pos}
theorem pe_backL {te : TE} {tl th : TO} (he : PE X a te) (hl : PO X lo tl) (hh : PO X hi th) : PE X (.Subscript a (.Slice lo hi (some (.UnaryOp .USub (.Constant (.int 1) k p1) p2)) p3) pos)
    (fun σ H Q => te σ H fun x H1 => tl σ H1 fun l H2 => th σ H2 fun u H3 => ∃ t xs, x = .ref t ∧ SqL X.K H3 t xs ∧ ∀ p, H3 p = none → Q (.ref p) (upd H3 p (.lst (pickB xs l u)))) := by
  refine ⟨fun pins s σ H Q I h => ?_⟩
  refine Subscript_ (thn (he.run pins s σ H _ I h) fun v s1 ⟨x, H1, I1, r1, q1⟩ => ?_)
  have hst : PO X (some (.UnaryOp .USub (.Constant (.int 1) k p1) p2)) (tPart (tUn (rU fun i => .int (-i)) (tC (.int 1)))) := po_some (pe_un un_neg pe_int)
  refine wpAny_Slice (thn (hl.run pins s1 σ H1 _ I1 q1) fun vl s2 ⟨l, H2, I2, pl, q2⟩ => thn (hh.run pins s2 σ H2 _ I2 q2) fun vu s3 ⟨u, H3, I3, pu, q3⟩ => ?_)
  refine thn (hst.run pins s3 σ H3 (fun o H4 => o = some (-1) ∧ H4 = H3) I3 ⟨1, rfl, -1, rfl, rfl, rfl⟩) fun vs s4 ⟨o, H4, I4, ps, eo, e4⟩ => ?_
  subst eo e4
  obtain ⟨t, xs, rfl, hx, q⟩ := q3
  cases r1
  have I5 : Inv X pins σ H4 { s4 with heap := s4.heap.push { cls := .type "slice", data := .fields #[vl, vu, vs] } } := I4.kept (t' := s4.toks) fun b ob q => Heap.get?_push_of_some _ q
  obtain ⟨its, r, ht, hz⟩ := I5.list hx
  have hlen := r.length
  show wpAny (model X.prog X.w) X.A (subscriptTail a (.Slice lo hi (some (.UnaryOp .USub (.Constant (.int 1) k p1) p2)) p3) (.ref t) (.ref s4.heap.objs.size)) (EP X pins σ Q) X.xe { s4 with heap := s4.heap.push { cls := .type "slice", data := .fields #[vl, vu, vs] } }
  refine tail_any (ops := [.ref t, .ref s4.heap.objs.size]) ht.isList.typeIs (PySem.slot_list_getitem.lookup) ?_ (by with_unfolding_all rfl)
  refine wpAny_getItem_list_slice ht.isList (Heap.IsSliceOf.new _ vl vu vs) pl pu ps (by decide) ?_ (by rw [List.size_toArray]; omega)
  rw [pick_eq]
  refine ⟨.ref _, _, I5.laid (t' := s4.toks) (o := .lst (pickB xs l u)) (fun b ob q => Heap.get?_push_of_some _ q) (Nat.le_refl _) ?_, rfl, q _ (I5.hok.fresh (Nat.le_refl _))⟩
  exact ⟨Nat.le_trans (pickB_len _ _ _) hz, _, 0, vals_pickB r, Heap.get?_push_size _ rfl⟩
theorem e_backL (h : EX X Γ a (.sh (.lst ds)) Γ1) (hl : PX X Γ1 lo i Γ2) (hh : PX X Γ2 hi j Γ3) : EX X Γ (.Subscript a (.Slice lo hi (some (.UnaryOp .USub (.Constant (.int 1) k p1) p2)) p3) pos) (.ow (.lst (pickB ds i j))) Γ3 := fun F σ H S Q R q => by
  refine pe_we (pe_backL we_pe wp_po wp_po) (h F σ H S _ R fun x H1 S1 R1 s1 r1 => hl F σ H1 S1 _ R1 fun H2 S2 R2 s2 => hh F σ H2 S2 _ R2 fun H3 S3 R3 s3 => ?_)
  obtain ⟨t, vs, rfl, h1, h2⟩ := r1
  have s13 : Same S1 S3 := s2.trans s3
  exact ⟨t, vs, rfl, .of (R3.sh _ _ (s13 _ _ h1)), fun p n => q _ _ S3 (R3.grow (same_upd n)) (s1.trans s13) ⟨p, rfl, R3.sNone n, R3.h0None n, ⟨_, upd_same, (Reps.mono s13 _ _ h2).pickB⟩, R3.ownNone n⟩⟩
theorem e_backLD {xs : List Str} (h : EX X Γ a (.sh (dL xs)) Γ1) (hl : PX X Γ1 lo i Γ2) (hh : PX X Γ2 hi j Γ3) : EX X Γ (.Subscript a (.Slice lo hi (some (.UnaryOp .USub (.Constant (.int 1) k p1) p2)) p3) pos) (.ow (.lst ((pickB xs i j).map .str))) Γ3 := by
  have e := e_backL h hl hh (pos := pos) (p1 := p1) (p2 := p2) (p3 := p3) (k := k)
  rw [pickB_map] at e
  exact e
end
end PL

set_option Elab.async false
set_option linter.all false
set_option maxRecDepth 100000
set_option maxHeartbeats 1000000
namespace Hd
open PySem PySem.Spec PyProof.Rows L2 PL
section
variable {Pg : Program} {w : World} {K : PySem.W.Frag} {mg : Str → Option Value} {base : Heap}
/-! ### k01: something odd; a thing bent -/
theorem mem_cut {α : Type} {xs : List α} {lo hi : Option Int} {d : α} (h : d ∈ cutL xs lo hi) : d ∈ xs := List.mem_of_mem_drop (List.mem_of_mem_take h)
theorem len_cut {α : Type} (xs : List α) (lo hi : Option Int) : (cutL xs lo hi).length ≤ xs.length := by
  unfold cutL
  rw [List.length_take, List.length_drop]
  omega
theorem atI_mem {l : List D} {j : Int} (h0 : 0 ≤ j) (h1 : j < l.length) : ∃ d, atI l j = some d ∧ d ∈ l := by
  obtain ⟨k, rfl⟩ : ∃ k : Nat, j = k := ⟨j.toNat, by omega⟩
  have hk : k < l.length := by omega
  exact ⟨l[k], atI_nat (List.getElem?_eq_getElem hk), List.getElem_mem hk⟩
def Leaf01 (x : D) : Prop := (∃ s : Str, x = .str s ∧ s.length ≤ 4) ∨ ∃ i : Int, x = .int i ∧ 1 ≤ i ∧ i ≤ 241
theorem leaf_pl {x : D} (h : Leaf01 x) : Pl x := by
  have hz := big2000
  rcases h with ⟨s, rfl, h⟩ | ⟨i, rfl, _⟩
  · show s.length ≤ sizeLine
    omega
  · rfl
def OddP (x : D) : Prop := Leaf01 x ∨ ∃ es : List D, x = .tup es ∧ es.length ≤ 9
def OddT (es : List D) (d : D) : Prop := d.plain = true ∧ ∀ us, d = .tup us → us.length ≤ 1000 ∧ ∀ u ∈ us, u ∈ es ∨ u = .int 1 ∨ u = .tup es
def OddQ (x d : D) : Prop := (Leaf01 x ∧ Pl d) ∨ ∃ es : List D, x = .tup es ∧ OddT es d
def pre_odd : List D → Prop := fun ds => ∃ x, OddP x ∧ ds = [x]
def post_odd : List D → Rs → Prop := fun ds r => ∃ x d, ds = [x] ∧ r = .sh d ∧ OddQ x d
theorem str241 : ∀ i : Fin 242, ((i.val : Int)).natAbs.log2 < 1920 ∧ (toString (i.val : Int) : Str).length ≤ 10 := by decide +kernel
set_option maxHeartbeats 4000000 in
theorem c_odd01 (Dd : Df K mg "_law_odd" s__law_odd []) (T : Bt mg) (G_take : C1 Pg w K mg base "_law_take" 1 ["_law_pool_here", "_law_many"] P_take) : Cp Pg w K mg base "_law_odd" 2 ["_law_pool_here", "_law_thing"] pre_odd post_odd := by
  refine cp_mk (k := 1) Dd sc__law_odd (fun _ _ _ _ _ _ us hl => match us, hl with | [_, _], _ => rfl) (by decide) (fun ds ⟨_, _, h⟩ => by rw [h]; rfl) (fun n ds h => ?_)
  obtain ⟨x, hx, rfl⟩ := h
  have hz := big2000
  have a0 := Int.emod_nonneg n (b := 16) (by omega)
  have a1 := Int.emod_lt_of_pos n (b := 16) (by omega)
  have b0 := Int.emod_nonneg n (b := 12) (by omega)
  have b1 := Int.emod_lt_of_pos n (b := 12) (by omega)
  rcases hx with hx | ⟨es, rfl, hes⟩
  · have hx' := id hx
    rcases hx with ⟨s, rfl, hs⟩ | ⟨i, rfl, h0, h1⟩
    · obtain ⟨A, hA⟩ : ∃ A : List D, A = [.str (Txt.upper s), .str (s ++ ("a" : Str)), .str "", .str (s ++ ("1" : Str)), .str (s ++ (" " : Str)), .str " ", .str "abcd", .non, .int 0, .bl true, .tup [.str s], .lst [.str s]] := ⟨_, rfl⟩
      obtain ⟨B, hB⟩ : ∃ B : List D, B = [.dct [] [], .tup [.lst [.str s]], .str "-", .str "a\n"] := ⟨_, rfl⟩
      have lA : A.length = 12 := by rw [hA]; rfl
      have lB : B.length = 4 := by rw [hB]; rfl
      have s1 : ∀ u : Str, u.length = 1 → (s ++ u).length ≤ sizeLine := fun u hu => by rw [Str.length_append]; omega
      have hup : (Txt.upper s).length ≤ sizeLine := by have := PyProof.Rows.len_upper s; omega
      have hall : ∀ d ∈ A ++ B, Pl d := by
        rw [hA, hB]
        intro d hd
        simp only [List.cons_append, List.nil_append, List.mem_cons, List.not_mem_nil, or_false] at hd
        rcases hd with rfl | rfl | rfl | rfl | rfl | rfl | rfl | rfl | rfl | rfl | rfl | rfl | rfl | rfl | rfl | rfl
        · exact hup
        · exact s1 "a" rfl
        · show (0 : Nat) ≤ sizeLine; omega
        · exact s1 "1" rfl
        · exact s1 " " rfl
        · show (1 : Nat) ≤ sizeLine; omega
        · show (4 : Nat) ≤ sizeLine; omega
        all_goals first | rfl | (show (1 : Nat) ≤ sizeLine; omega) | (show (2 : Nat) ≤ sizeLine; omega)
      obtain ⟨d, hd, hm⟩ := atI_mem (l := A ++ B) a0 (by rw [List.length_append]; omega)
      refine ⟨.sh d, n / 16, ⟨_, _, rfl, rfl, .inl ⟨hx', hall d hm⟩⟩, (fun _ z => by cases z), fun f cd A' outer s' H E g p => ⟨[.pr p (po (n / 16)), .sh (.str s), .sh (.lst A)], .inl ?_, rfl⟩⟩
      refine s_ifN (Γ1 := [.pr p (po n), .sh (.str s), .un]) (t_val (e_callB (c_isInt (d := .str s) rfl) T.isinstance b_isinstance (a_cons (e_var 1) (a_cons (e_ty T.int b_int) a_nil)))) ?_
      refine s_ifTE (Γ1 := [.pr p (po n), .sh (.str s), .un]) (t_val (e_callB (c_isStr (d := .str s) rfl) T.isinstance b_isinstance (a_cons (e_var 1) (a_cons (e_ty T.str b_str) a_nil)))) ?_
      refine s_cons (Γ1 := [.pr p (po n), .sh (.str s), .ow (.lst A)]) ?_ (s_one (s1_ret (e_ix (e_fz (e_bin (o_catL (ds := A) (es := B) (by omega)) (e_cv (cv_frz (i := 2) rfl) (e_var 2)) (e_eq (e_fz (e_lst (a_cons (e_frz e_dict0) (a_cons (e_tup (a_cons (e_fz (e_lst (a_cons (e_var 1) a_nil))) a_nil)) (a_cons e_str (a_cons e_str a_nil)))))) (by rw [hB]; rfl)))) (e_c1 0 G_take g has_pr (a_cons e_int a_nil) has_pr (tk01 (by decide) (by decide))) (i_list hd))))
      rw [hA]
      exact s1_set 2 g.nd (e_lst (a_cons (e_upper (e_var 1) (by omega)) (a_cons (e_bin (o_addS (a := s) (b := "a") (by show s.length + 1 ≤ _; omega)) (e_var 1) e_str) (a_cons e_str (a_cons (e_bin (o_addS (a := s) (b := "1") (by show s.length + 1 ≤ _; omega)) (e_var 1) e_str) (a_cons (e_bin (o_addS (a := s) (b := " ") (by show s.length + 1 ≤ _; omega)) (e_var 1) e_str) (a_cons e_str (a_cons e_str (a_cons e_non (a_cons e_int (a_cons e_bl (a_cons (e_tup (a_cons (e_var 1) a_nil)) (a_cons (e_fz (e_lst (a_cons (e_var 1) a_nil))) a_nil)))))))))))))
    · obtain ⟨A, hA⟩ : ∃ A : List D, A = [.int (i + 1), .int (i - 1), .int 0, .int (-1), .int (0 - i), .bl (decide (i = 1)), .bl true, .non, .str (toString i), .tup [.int i], .lst [.int i], .dct [] []] := ⟨_, rfl⟩
      obtain ⟨B, hB⟩ : ∃ B : List D, B = [.int 241, .int 240, .tup [.lst [.int i]], .str ""] := ⟨_, rfl⟩
      have lA : A.length = 12 := by rw [hA]; rfl
      have lB : B.length = 4 := by rw [hB]; rfl
      obtain ⟨q1, q2⟩ : i.natAbs.log2 < 1920 ∧ (toString i : Str).length ≤ 10 := by
        have := str241 ⟨i.toNat, by omega⟩
        have e : ((⟨i.toNat, by omega⟩ : Fin 242).val : Int) = i := by show ((i.toNat : Nat) : Int) = i; omega
        rw [e] at this
        exact this
      have hall : ∀ d ∈ A ++ B, Pl d := by
        rw [hA, hB]
        intro d hd
        simp only [List.cons_append, List.nil_append, List.mem_cons, List.not_mem_nil, or_false] at hd
        rcases hd with rfl | rfl | rfl | rfl | rfl | rfl | rfl | rfl | rfl | rfl | rfl | rfl | rfl | rfl | rfl | rfl
        all_goals first | rfl | (show (toString i : Str).length ≤ sizeLine; omega) | (show (0 : Nat) ≤ sizeLine; omega)
      obtain ⟨d, hd, hm⟩ := atI_mem (l := A ++ B) a0 (by rw [List.length_append]; omega)
      refine ⟨.sh d, n / 16, ⟨_, _, rfl, rfl, .inl ⟨hx', hall d hm⟩⟩, (fun _ z => by cases z), fun f cd A' outer s' H E g p => ⟨[.pr p (po (n / 16)), .sh (.int i), .sh (.lst A)], .inl ?_, rfl⟩⟩
      refine s_ifTE (Γ1 := [.pr p (po n), .sh (.int i), .un]) (t_val (e_callB (c_isInt (d := .int i) rfl) T.isinstance b_isinstance (a_cons (e_var 1) (a_cons (e_ty T.int b_int) a_nil)))) ?_
      refine s_cons (Γ1 := [.pr p (po n), .sh (.int i), .ow (.lst A)]) ?_ (s_one (s1_ret (e_ix (e_fz (e_bin (o_catL (ds := A) (es := B) (by omega)) (e_cv (cv_frz (i := 2) rfl) (e_var 2)) (e_eq (e_fz (e_lst (a_cons e_int (a_cons e_int (a_cons (e_tup (a_cons (e_fz (e_lst (a_cons (e_var 1) a_nil))) a_nil)) (a_cons e_str a_nil)))))) (by rw [hB])))) (e_c1 0 G_take g has_pr (a_cons e_int a_nil) has_pr (tk01 (by decide) (by decide))) (i_list hd))))
      rw [hA]
      exact s1_set 2 g.nd (e_lst (a_cons (e_bin o_addI (e_var 1) e_int) (a_cons (e_bin o_subI (e_var 1) e_int) (a_cons e_int (a_cons (e_neg e_int) (a_cons (e_bin o_subI e_int (e_var 1)) (a_cons (e_cmp o_eqI (e_var 1) e_int) (a_cons e_bl (a_cons e_non (a_cons (e_callTy (c_strI q1) T.str b_str (a_cons (e_var 1) a_nil)) (a_cons (e_tup (a_cons (e_var 1) a_nil)) (a_cons (e_fz (e_lst (a_cons (e_var 1) a_nil))) (a_cons (e_frz e_dict0) a_nil)))))))))))))
  · obtain ⟨A, hA⟩ : ∃ A : List D, A = [.lst es, .tup (es ++ [.int 1]), .tup (cutL es none (some 1)), .tup [], .lst [], .non, .int 0, .str "", .dct [] [], .tup es.reverse, .tup [.tup es], .bl true] := ⟨_, rfl⟩
    have lA : A.length = 12 := by rw [hA]; rfl
    have hall : ∀ d ∈ A, OddT es d := by
      have nt : ∀ d : D, d.plain = true → isTup d = false → OddT es d := fun d h1 h2 => ⟨h1, fun us e => by rw [e] at h2; cases h2⟩
      have tt : ∀ vs : List D, vs.length ≤ 1000 → (∀ u ∈ vs, u ∈ es ∨ u = .int 1 ∨ u = .tup es) → OddT es (.tup vs) := fun vs h1 h2 => ⟨rfl, fun us e => by cases e; exact ⟨h1, h2⟩⟩
      rw [hA]
      intro d hd
      simp only [List.mem_cons, List.not_mem_nil, or_false] at hd
      rcases hd with rfl | rfl | rfl | rfl | rfl | rfl | rfl | rfl | rfl | rfl | rfl | rfl
      · exact nt _ rfl rfl
      · refine tt _ (by rw [List.length_append]; show es.length + 1 ≤ 1000; omega) fun u hu => ?_
        rcases List.mem_append.mp hu with z | z
        · exact .inl z
        · exact .inr (.inl (List.mem_singleton.mp z))
      · exact tt _ (Nat.le_trans (len_cut _ _ _) (by omega)) fun u hu => .inl (mem_cut hu)
      · exact tt _ (by decide) fun u hu => by cases hu
      · exact nt _ rfl rfl
      · exact nt _ rfl rfl
      · exact nt _ rfl rfl
      · exact nt _ rfl rfl
      · exact nt _ rfl rfl
      · exact tt _ (by rw [List.length_reverse]; omega) fun u hu => .inl (List.mem_reverse.mp hu)
      · exact tt _ (show (1 : Nat) ≤ 1000 by decide) fun u hu => .inr (.inr (List.mem_singleton.mp hu))
      · exact nt _ rfl rfl
    obtain ⟨d, hd, hm⟩ := atI_mem (l := A) b0 (by omega)
    refine ⟨.sh d, n / 12, ⟨_, _, rfl, rfl, .inr ⟨es, rfl, hall d hm⟩⟩, (fun _ z => by cases z), fun f cd A' outer s' H E g p => ⟨[.pr p (po (n / 12)), .sh (.tup es), .sh (.lst A)], .inl ?_, rfl⟩⟩
    refine s_ifN (Γ1 := [.pr p (po n), .sh (.tup es), .un]) (t_val (e_callB (c_isInt (d := .tup es) rfl) T.isinstance b_isinstance (a_cons (e_var 1) (a_cons (e_ty T.int b_int) a_nil)))) ?_
    refine s_ifN (Γ1 := [.pr p (po n), .sh (.tup es), .un]) (t_val (e_callB (c_isStr (d := .tup es) rfl) T.isinstance b_isinstance (a_cons (e_var 1) (a_cons (e_ty T.str b_str) a_nil)))) ?_
    refine s_cons (Γ1 := [.pr p (po n), .sh (.tup es), .ow (.lst A)]) ?_ (s_one (s1_ret (e_ix (e_cv (cv_frz (i := 2) rfl) (e_var 2)) (e_c1 0 G_take g has_pr (a_cons e_int a_nil) has_pr (tk01 (by decide) (by decide))) (i_list hd))))
    rw [hA]
    exact s1_set 2 g.nd (e_lst (a_cons (e_fz (e_callTy c_listT T.list b_list (a_cons (e_var 1) a_nil))) (a_cons (e_bin (o_catT (ds := es) (es := [.int 1]) (by show es.length + 1 ≤ _; omega)) (e_var 1) (e_tup (a_cons e_int a_nil))) (a_cons (e_slice l_tup (e_var 1) p_none (p_some e_int)) (a_cons (e_tup a_nil) (a_cons (e_fz (e_lst a_nil)) (a_cons e_non (a_cons e_int (a_cons e_str (a_cons (e_frz e_dict0) (a_cons (e_eq (e_backT (e_var 1) p_none p_none) (by rw [pickB_all])) (a_cons (e_tup (a_cons (e_var 1) a_nil)) (a_cons e_bl a_nil)))))))))))))
/-- the test of the if that stands first -/
def fTest : List Stmt → Ex
  | (.If c _ _ _) :: _ => c
  | _ => .Constant .none 0 ⟨0, 0, 0, 0⟩
def Tups (R : D → Prop) (d : D) : Prop := d.plain = true ∧ ∀ us, d = .tup us → us.length ≤ 1000 ∧ ∀ u ∈ us, R u
/-- a leaf -/
theorem bentLeaf (Dd : Df K mg "_law_bent" s__law_bent []) (T : Bt mg) (G_odd : Cp Pg w K mg base "_law_odd" 2 ["_law_pool_here", "_law_thing"] pre_odd post_odd) : Cp Pg w K mg base "_law_bent" 3 ["_law_pool_here", "_law_thing", "_law_deep"] (fun ds => ∃ x, Leaf01 x ∧ ds = [x, .int 1]) (fun _ r => ∃ d, Pl d ∧ r = .sh d) := by
  refine cp_mk (k := 2) Dd sc__law_bent (fun _ _ _ _ _ _ us hl => match us, hl with | [_, _, _], _ => rfl) (by decide) (fun ds ⟨_, _, h⟩ => by rw [h]; rfl) (fun n ds h => ?_)
  obtain ⟨x, hx, rfl⟩ := h
  obtain ⟨PW, GW, hW⟩ := G_odd.ex
  obtain ⟨_, n2, ⟨x', d, hxe, rfl, hq⟩, hp⟩ := hW n [x] ⟨x, .inl hx, rfl⟩
  have hpl : Pl d := by
    cases hxe
    rcases hq with ⟨_, h⟩ | ⟨es, rfl, _⟩
    · exact h
    · rcases hx with ⟨_, z, _⟩ | ⟨_, z, _⟩ <;> cases z
  have hn : isTup x = false := by rcases hx with ⟨_, rfl, _⟩ | ⟨_, rfl, _⟩ <;> rfl
  refine ⟨.sh d, n2, ⟨d, hpl, rfl⟩, (fun _ z => by cases z), fun f cd A' outer s' H E g p => ⟨[.pr p (po n2), .sh x, .sh (.int 1), .un, .un], .inl ?_, rfl⟩⟩
  exact s_ifTE (Γ1 := [.pr p (po n), .sh x, .sh (.int 1), .un, .un]) (t_w (w_orT (t_eq (t_not (t_val (e_callB (c_isTup (leaf_pl hx).plain) T.isinstance b_isinstance (a_cons (e_var 1) (a_cons (e_ty T.tuple b_tuple) a_nil))))) (by rw [hn]; rfl)))) (s_one (s1_ret (e_c1 0 GW g has_pr (a_cons (e_var 1) a_nil) has_pr hp)))
set_option maxHeartbeats 4000000 in
/-- a tuple -/
theorem bentStep {PE : List D → Prop} {PM R : D → Prop} {m m1 : Int} {L : Nat} (h1 : ∀ es, PE es → es ≠ [] ∧ es.length ≤ 9 ∧ (∀ u ∈ es, PM u ∧ R u) ∧ R (.tup es)) (hR1 : R (.int 1)) (hm : m ≠ 0) (hm1 : m1 = m - 1) (hL : 2 ≤ L) (Dd : Df K mg "_law_bent" s__law_bent []) (T : Bt mg) (G_take : C1 Pg w K mg base "_law_take" 1 ["_law_pool_here", "_law_many"] P_take) (G_odd : Cp Pg w K mg base "_law_odd" 2 ["_law_pool_here", "_law_thing"] pre_odd post_odd)
    (G_in : Cp Pg w K mg base "_law_bent" L ["_law_pool_here", "_law_thing", "_law_deep"] (fun ds => ∃ x, PM x ∧ ds = [x, .int m1]) (fun _ r => ∃ d, R d ∧ r = .sh d)) : Cp Pg w K mg base "_law_bent" (L + 1) ["_law_pool_here", "_law_thing", "_law_deep"] (fun ds => ∃ es, PE es ∧ ds = [.tup es, .int m]) (fun _ r => ∃ d, Tups R d ∧ r = .sh d) := by
  refine cp_mk (k := L) Dd sc__law_bent (fun _ _ _ _ _ _ us hl => match us, hl with | [_, _, _], _ => rfl) (by decide) (fun ds ⟨_, _, h⟩ => by rw [h]; rfl) (fun n ds h => ?_)
  obtain ⟨es, hes, rfl⟩ := h
  obtain ⟨hne, hle, hmem, hR⟩ := h1 es hes
  obtain ⟨PW, GW, hW⟩ := G_odd.ex
  obtain ⟨PI, GI, hI⟩ := G_in.ex
  have hz := big2000
  have hem : es.isEmpty = false := by cases es with | nil => exact absurd rfl hne | cons x r => rfl
  have l0 : 0 < es.length := by cases es with | nil => exact absurd rfl hne | cons x r => exact Nat.succ_pos _
  have b40 : (10 : Int) ^ 40 ≥ 240 := by decide +kernel
  have t7 : ∀ f cd A' outer s' H E, Gd L (cx Pg w K mg base N__law_bent "_law_bent" (defScope s__law_bent) f cd A' outer s' H E) → ∀ p, ∀ b, b = decide (n % 7 = 0) → TX (cx Pg w K mg base N__law_bent "_law_bent" (defScope s__law_bent) f cd A' outer s' H E) [.pr p (po n), .sh (.tup es), .sh (.int m), .un, .un] (fTest (defBody s__law_bent)) b [.pr p (po (n / 7)), .sh (.tup es), .sh (.int m), .un, .un] := fun f cd A' outer s' H E g p b hb => by
    refine t_eq (t_w (w_orF (t_eq (t_not (t_val (e_callB (c_isTup (d := .tup es) rfl) T.isinstance b_isinstance (a_cons (e_var 1) (a_cons (e_ty T.tuple b_tuple) a_nil))))) rfl) (w_orF (t_eq (t_cmp (o_eqT0A (ds := es) g.rm.units0) (e_var 1) (e_tup a_nil)) hem) (w_orF (t_eq (t_cmp o_eqI (e_var 2) e_int) (decide_eq_false hm)) (w_or1 (t_cmp o_eqI (e_c1 0 G_take g has_pr (a_cons e_int a_nil) has_pr (tk01 (by decide) (by decide)) (by omega)) e_int)))))) hb.symm
  by_cases h7 : n % 7 = 0
  · obtain ⟨_, n2, ⟨x', d, hxe, rfl, hq⟩, hp⟩ := hW (n / 7) [.tup es] ⟨.tup es, .inr ⟨es, rfl, hle⟩, rfl⟩
    have hd : Tups R d := by
      cases hxe
      rcases hq with ⟨z, _⟩ | ⟨es', he, h⟩
      · rcases z with ⟨_, z, _⟩ | ⟨_, z, _⟩ <;> cases z
      · cases he
        refine ⟨h.1, fun us e => ⟨(h.2 us e).1, fun u hu => ?_⟩⟩
        rcases (h.2 us e).2 u hu with z | rfl | rfl
        · exact (hmem u z).2
        · exact hR1
        · exact hR
    refine ⟨.sh d, n2, ⟨d, hd, rfl⟩, (fun _ z => by cases z), fun f cd A' outer s' H E g p => ⟨[.pr p (po n2), .sh (.tup es), .sh (.int m), .un, .un], .inl ?_, rfl⟩⟩
    exact s_ifTE (t7 f cd A' outer s' H E g p true (decide_eq_true h7).symm) (s_one (s1_ret (e_c1 0 GW g has_pr (a_cons (e_var 1) a_nil) has_pr hp (by omega))))
  · have a0 := Int.emod_nonneg (n / 7) (b := (es.length : Int)) (by omega)
    have a1 := Int.emod_lt_of_pos (n / 7) (b := (es.length : Int)) (by omega)
    obtain ⟨i, hi⟩ : ∃ i, i = n / 7 % (es.length : Int) := ⟨_, rfl⟩
    rw [← hi] at a0 a1
    obtain ⟨wy, hwy⟩ : ∃ wy, wy = n / 7 / (es.length : Int) % 9 := ⟨_, rfl⟩
    obtain ⟨n4, hn4⟩ : ∃ n4, n4 = n / 7 / (es.length : Int) / 9 := ⟨_, rfl⟩
    obtain ⟨e, he, hemem⟩ := atI_mem (l := es) a0 a1
    obtain ⟨_, n5, ⟨d, hRd, rfl⟩, hpI⟩ := hI n4 [e, .int m1] ⟨e, (hmem e hemem).1, rfl⟩
    have lc : ∀ lo hi, (cutL es lo hi).length ≤ 9 := fun lo hi => Nat.le_trans (len_cut _ _ _) hle
    have start : ∀ f cd A' outer s' H E, Gd L (cx Pg w K mg base N__law_bent "_law_bent" (defScope s__law_bent) f cd A' outer s' H E) → ∀ p r Γ', SX (cx Pg w K mg base N__law_bent "_law_bent" (defScope s__law_bent) f cd A' outer s' H E) [.pr p (po n4), .sh (.tup es), .sh (.int m), .sh (.int i), .sh (.int wy)] ((defBody s__law_bent).drop 2) (.rt r Γ') → SX (cx Pg w K mg base N__law_bent "_law_bent" (defScope s__law_bent) f cd A' outer s' H E) [.pr p (po n), .sh (.tup es), .sh (.int m), .un, .un] (defBody s__law_bent) (.rt r Γ') := fun f cd A' outer s' H E g p r Γ' h => by
      refine s_ifN (t7 f cd A' outer s' H E g p false (decide_eq_false h7).symm) ?_
      refine s_cons (Γ1 := [.pr p (po n4), .sh (.tup es), .sh (.int m), .sh (.int i), .sh (.int wy)]) ?_ h
      rw [hi, hwy, hn4]
      exact s1_par 3 4 g (a_cons (e_c1 0 G_take g has_pr (a_cons (e_callB (c_lenT (ds := es)) T.len b_len (a_cons (e_var 1) a_nil)) a_nil) has_pr (tk01 (by omega) (by omega)) (by omega)) (a_cons (e_c1 0 G_take g has_pr (a_cons e_int a_nil) has_pr (tk01 (by decide) (by decide)) (by omega)) a_nil))
    have mk : ∀ us : List D, us.length ≤ 1000 → (∀ u ∈ us, R u) → Tups R (.tup us) := fun us h2 h3 => ⟨rfl, fun vs e => by cases e; exact ⟨h2, h3⟩⟩
    have hmc : ∀ lo hi, ∀ u ∈ cutL es lo hi, R u := fun lo hi u hu => (hmem u (mem_cut hu)).2
    by_cases w0 : wy = 0
    · refine ⟨.sh (.tup (cutL es none (some i) ++ cutL es (some (i + 1)) none)), n4, ⟨_, mk _ (by rw [List.length_append]; have := lc none (some i); have := lc (some (i + 1)) none; omega) (fun u hu => (List.mem_append.mp hu).elim (hmc _ _ u) (hmc _ _ u)), rfl⟩, (fun _ z => by cases z), fun f cd A' outer s' H E g p => ⟨[.pr p (po n4), .sh (.tup es), .sh (.int m), .sh (.int i), .sh (.int wy)], .inl (start f cd A' outer s' H E g p _ _ ?_), rfl⟩⟩
      exact s_ifTE (Γ1 := [.pr p (po n4), .sh (.tup es), .sh (.int m), .sh (.int i), .sh (.int wy)]) (t_eq (t_cmp o_eqI (e_var 4) e_int) (decide_eq_true w0)) (s_one (s1_ret (e_bin (o_catT (by have := lc none (some i); have := lc (some (i + 1)) none; omega)) (e_slice l_tup (e_var 1) p_none (p_some (e_var 3))) (e_slice l_tup (e_var 1) (p_some (e_bin o_addI (e_var 3) e_int)) p_none))))
    · by_cases w1 : wy = 1
      · refine ⟨.sh (.tup (cutL es none (some (i + 1)) ++ cutL es (some i) none)), n4, ⟨_, mk _ (by rw [List.length_append]; have := lc none (some (i + 1)); have := lc (some i) none; omega) (fun u hu => (List.mem_append.mp hu).elim (hmc _ _ u) (hmc _ _ u)), rfl⟩, (fun _ z => by cases z), fun f cd A' outer s' H E g p => ⟨[.pr p (po n4), .sh (.tup es), .sh (.int m), .sh (.int i), .sh (.int wy)], .inl (start f cd A' outer s' H E g p _ _ ?_), rfl⟩⟩
        refine s_ifN (Γ1 := [.pr p (po n4), .sh (.tup es), .sh (.int m), .sh (.int i), .sh (.int wy)]) (t_eq (t_cmp o_eqI (e_var 4) e_int) (decide_eq_false w0)) ?_
        exact s_ifTE (Γ1 := [.pr p (po n4), .sh (.tup es), .sh (.int m), .sh (.int i), .sh (.int wy)]) (t_eq (t_cmp o_eqI (e_var 4) e_int) (decide_eq_true w1)) (s_one (s1_ret (e_bin (o_catT (by have := lc none (some (i + 1)); have := lc (some i) none; omega)) (e_slice l_tup (e_var 1) p_none (p_some (e_bin o_addI (e_var 3) e_int))) (e_slice l_tup (e_var 1) (p_some (e_var 3)) p_none))))
      · refine ⟨.sh (.tup ((cutL es none (some i) ++ [d]) ++ cutL es (some (i + 1)) none)), n5, ⟨_, mk _ (by rw [List.length_append, List.length_append]; have := lc none (some i); have := lc (some (i + 1)) none; show _ + 1 + _ ≤ 1000; omega) (fun u hu => (List.mem_append.mp hu).elim (fun hu => (List.mem_append.mp hu).elim (hmc _ _ u) fun z => by rw [List.mem_singleton.mp z]; exact hRd) (hmc _ _ u)), rfl⟩, (fun _ z => by cases z), fun f cd A' outer s' H E g p => ⟨[.pr p (po n5), .sh (.tup es), .sh (.int m), .sh (.int i), .sh (.int wy)], .inl (start f cd A' outer s' H E g p _ _ ?_), rfl⟩⟩
        refine s_ifN (Γ1 := [.pr p (po n4), .sh (.tup es), .sh (.int m), .sh (.int i), .sh (.int wy)]) (t_eq (t_cmp o_eqI (e_var 4) e_int) (decide_eq_false w0)) ?_
        refine s_ifN (Γ1 := [.pr p (po n4), .sh (.tup es), .sh (.int m), .sh (.int i), .sh (.int wy)]) (t_eq (t_cmp o_eqI (e_var 4) e_int) (decide_eq_false w1)) ?_
        exact s_one (s1_ret (e_bin (o_catT (by rw [List.length_append]; have := lc none (some i); have := lc (some (i + 1)) none; show _ + 1 + _ ≤ _; omega)) (e_bin (o_catT (by have := lc none (some i); show _ + 1 ≤ _; omega)) (e_slice l_tup (e_var 1) p_none (p_some (e_var 3))) (e_tup (a_cons (e_c1 0 GI g has_pr (a_cons (e_ix (e_var 1) (e_var 3) (i_tup he)) (a_cons (e_eq (e_bin o_subI (e_var 2) e_int) (by rw [hm1])) a_nil)) has_pr hpI (Nat.le_refl _)) a_nil))) (e_slice l_tup (e_var 1) (p_some (e_bin o_addI (e_var 3) e_int)) p_none)))
def pre_bent : List D → Prop := fun ds => ∃ ps : List (Str × Int), 0 < ps.length ∧ ps.length ≤ 9 ∧ (∀ p ∈ ps, Sm01 p) ∧ ds = [.tup (ps.map dP), .int 3]
def post_bent : List D → Rs → Prop := fun _ r => ∃ d, PlT d ∧ r = .sh d
theorem dP_S {p : Str × Int} (h : Sm01 p) : PlS (dP p) := by
  have hz := big2000
  refine ⟨rfl, fun es e => ?_⟩
  cases e
  refine ⟨(by decide : (2 : Nat) ≤ 1000), fun u hu => ?_⟩
  simp only [List.mem_cons, List.not_mem_nil, or_false] at hu
  have := h.1
  rcases hu with rfl | rfl
  · show p.1.length ≤ sizeLine
    omega
  · rfl
theorem c_bent01 (Dd : Df K mg "_law_bent" s__law_bent []) (T : Bt mg) (G_take : C1 Pg w K mg base "_law_take" 1 ["_law_pool_here", "_law_many"] P_take) (G_odd : Cp Pg w K mg base "_law_odd" 2 ["_law_pool_here", "_law_thing"] pre_odd post_odd) : Cp Pg w K mg base "_law_bent" 5 ["_law_pool_here", "_law_thing", "_law_deep"] pre_bent post_bent := by
  have hz := big2000
  have s1 := bentStep (PE := fun es => ∃ p, Sm01 p ∧ es = [.str p.1, .int p.2]) (PM := Leaf01) (R := Pl) (m := 2) (m1 := 1) (L := 3) (fun es ⟨p, hp, he⟩ => by
    subst he
    have hu : ∀ u ∈ [D.str p.1, .int p.2], Leaf01 u := fun u hu => by
      simp only [List.mem_cons, List.not_mem_nil, or_false] at hu
      rcases hu with rfl | rfl
      · exact .inl ⟨_, rfl, hp.1⟩
      · exact .inr ⟨_, rfl, hp.2.1, hp.2.2⟩
    exact ⟨List.cons_ne_nil _ _, (by decide : (2 : Nat) ≤ 9), fun u h => ⟨hu u h, leaf_pl (hu u h)⟩, rfl⟩) rfl (by decide) rfl (by decide) Dd T G_take G_odd (bentLeaf Dd T G_odd)
  obtain ⟨P1, g1, q1⟩ := s1.ex
  have s2 := bentStep (PE := fun es => ∃ ps : List (Str × Int), 0 < ps.length ∧ ps.length ≤ 9 ∧ (∀ p ∈ ps, Sm01 p) ∧ es = ps.map dP) (PM := fun x => ∃ p, Sm01 p ∧ x = dP p) (R := PlS) (m := 3) (m1 := 2) (L := 4) (fun es ⟨ps, h0, h9, hp, he⟩ => by
    subst he
    have hu : ∀ u ∈ ps.map dP, (∃ p, Sm01 p ∧ u = dP p) ∧ PlS u := fun u hu => by
      obtain ⟨p, hm, rfl⟩ := List.mem_map.mp hu
      exact ⟨⟨p, hp p hm, rfl⟩, dP_S (hp p hm)⟩
    refine ⟨fun e => ?_, by rw [List.length_map]; exact h9, hu, rfl, fun us e => ?_⟩
    · have := congrArg List.length e
      rw [List.length_map] at this
      have : ps.length = 0 := this
      omega
    · cases e
      refine ⟨by rw [List.length_map]; omega, fun u h => ?_⟩
      obtain ⟨p, hm, rfl⟩ := List.mem_map.mp h
      rfl) ⟨rfl, fun us e => by cases e⟩ (by decide) rfl (by decide) Dd T G_take G_odd ⟨P1, g1, fun n ds ⟨x, ⟨p, hp, hx⟩, hd⟩ => by
    obtain ⟨r, n', ⟨d, h1, h2⟩, h3⟩ := q1 n ds ⟨[.str p.1, .int p.2], ⟨p, hp, rfl⟩, by rw [hd, hx]⟩
    exact ⟨r, n', ⟨d, h1, h2⟩, h3⟩⟩
  obtain ⟨P2, g2, q2⟩ := s2.ex
  exact ⟨P2, g2, fun n ds ⟨ps, h0, h9, hp, hd⟩ => q2 n ds ⟨ps.map dP, ⟨ps, h0, h9, hp, rfl⟩, hd⟩⟩
end
end Hd

set_option Elab.async false
set_option linter.all false
set_option maxRecDepth 100000
set_option maxHeartbeats 1000000
namespace Hd
open PySem PySem.Spec PyProof.Rows L2 PL
section
variable {Pg : Program} {w : World} {K : PySem.W.Frag} {mg : Str → Option Value} {base : Heap}
/-! ### k01: refused; right -/
theorem row_b4 {f : Addr} {fd : FuncData} (FD : FunD K "__init__" "Row.__init__" (defArgs s_Row___init__) (defBody s_Row___init__) (defScope s_Row___init__) [.str "run", .int 0] [] f fd) : ∃ dv, Vals (([.str "run", .int 0] : List V).drop 2) dv ∧ Binds K fd ["self", "stripes", "manner", "start"] dv :=
  FD.binds1 4 2 (by decide) rfl fun T kV doc pm an cdv ct us its l1 l2 => match us, its, l1, l2 with | [_, _, _, _], [_, _], _, _ => ⟨_, rfl, rfl⟩
theorem o_eqSelf {X : Cx} {d : D} (hu : X.A.units + 64 < cLine) (h : Cmp d) : OpS X (compareOp .Eq) d d (.sh (.bl true)) := by
  have h1 := o_eqD hu h h
  have e : PyData.eqv d.py d.py = true := by
    have h2 := h.2
    unfold SeqAt.shaped at h2
    exact SeqAt.eqv_refl _ (Bool.and_eq_true_iff.mp h2).1
  rw [e] at h1
  exact h1
theorem fb_cases {d e : D} (h : fbD d = some e) : e = .non ∨ ∃ k : Nat, e = .int (k : Nat) := by
  by_cases ht : isTup d = true
  · obtain ⟨es, rfl⟩ : ∃ es, d = .tup es := by cases d <;> first | exact ⟨_, rfl⟩ | cases ht
    cases es with
    | nil => left; cases h; rfl
    | cons x r =>
      right
      have h' : (fbS 0 0 (x :: r)).map (fun (i : Nat) => D.int (i : Nat)) = some e := h
      cases hf : fbS 0 0 (x :: r) with
      | none => rw [hf] at h'; cases h'
      | some k => rw [hf] at h'; cases h'; exact ⟨k, rfl⟩
  · left
    rw [fb_nt (by simpa using ht)] at h
    cases h; rfl
def P_ref01 : List D → Rs → Prop := fun ds r => ∃ (w : Int) (d e : D), (w = 0 ∨ w = 1) ∧ PlT d ∧ fbD d = some e ∧ ds = [.int w, d] ∧ r = .sh (.tup [e])
theorem c_ref01 (C : Addr) (Dd : Df K mg "_law_refused" s__law_refused []) (T : Bt mg) (gk : Gk K mg) (hS : Srt K 0) (hO : Oxk K 0) (G_sort : C0 Pg w K mg base "_law_sort" 1 ["_law_caught"] (P_sort0 K)) (G_thrX : Ce Pg w K mg base "threads_of" 5 ["stripes"] (P_thrX (He.ga K "NoStripes"))) (G_rowX : Kx Pg w K mg base "Row" C 6 ["self", "stripes", "manner", "start"] "Row.__init__" s_Row___init__ [.str "run", .int 0] (P_rowX (He.ga K "NoStripes"))) : C0 Pg w K mg base "_law_refused" 8 ["_law_which", "_law_thing"] P_ref01 := by
  have gB : mg "StripeError" = some (.ref (He.ga K "StripeError")) := gk.2 0 (by decide)
  have xm : PySem.W.exmOne K (.ref (He.ga K "NoStripes")) (.ref (He.ga K "StripeError")) = some true := hS.xm
  have hx : ExcC K (He.ga K "NoStripes") := hS.ex
  have hno : PySem.W.findIn K (.ref (He.ga K "NoStripes")) "number" = some none := hO.n "number" (by decide)
  refine c0_mk (k := 7) Dd sc__law_refused (fun _ _ _ _ _ _ us hl => match us, hl with | [_, _], _ => rfl) (by decide) (fun ds r => ?_) (fun f cd A outer s H E g ds r => ?_)
  · rintro ⟨w, d, e, _, _, _, rfl, rfl⟩
    exact ⟨rfl, fun _ z => by cases z⟩
  · rintro ⟨w, d, e, hw, hd, hf, rfl, rfl⟩
    have hp : e.plain = true := by rcases fb_cases hf with rfl | ⟨k, rfl⟩ <;> rfl
    have hb : isBool e = false := by rcases fb_cases hf with rfl | ⟨k, rfl⟩ <;> rfl
    have tr : ∀ pn xe, Gd 7 ((cx Pg _ K mg base N__law_refused "_law_refused" (defScope s__law_refused) f cd A outer s H E).tr pn xe) → SR ((cx Pg _ K mg base N__law_refused "_law_refused" (defScope s__law_refused) f cd A outer s H E).tr pn xe) [.sh (.int w), .sh d, .sh .non, .un] (match (defBody s__law_refused).getD 1 s__law_refused with | .Try b _ _ _ _ => b | _ => []) ⟨He.ga K "NoStripes", ["number"], [e]⟩ [.sh (.int w), .sh d, .sh .non, .un] := fun pn xe g' => by
      rcases hw with rfl | rfl
      · exact sr_hd (s1r_ifT (t_eq (t_cmp o_eqI (e_var 0) e_int) rfl) (sr_hd (s1r_expr (er_ce G_thrX g' (a_cons (e_var 1) a_nil) ⟨d, e, hd, hf, rfl, rfl⟩))))
      · exact sr_hd (s1r_ifF (t_eq (t_cmp o_eqI (e_var 0) e_int) rfl) (sr_hd (s1r_expr (er_kx (fs := []) 2 G_rowX (fun f fd FD => row_b4 FD) g' (a_cons (e_var 1) (a_cons e_str (a_cons e_non a_nil))) (fun S => .nil) ⟨d, e, _, _, hd, hf, rfl, rfl⟩))))
    apply ends_rt
    refine s_cons (Γ1 := [.sh (.int w), .sh d, .sh .non, .un]) (s1_set 2 g.nd e_non) ?_
    refine s_cons (Γ1 := [.sh (.int w), .sh d, .sh (.exc (He.ga K "NoStripes") ["number"] [e]), .un]) (s1_tryK (C := ⟨He.ga K "NoStripes", ["number"], [e]⟩) 3 2 g gB xm tr rfl) ?_
    refine s_ifN (Γ1 := [.sh (.int w), .sh d, .sh (.exc (He.ga K "NoStripes") ["number"] [e]), .un]) (t_w (w_orF (t_eq (t_cmp o_neS (e_c0 G_sort g (a_cons (e_var 2) a_nil) ⟨_, _, rfl, rfl⟩) e_str) (by decide)) (w_or1 (t_eq (t_val (e_callB (c_isBool hp) T.isinstance b_isinstance (a_cons (e_xg hx hno (e_var 2) rfl) (a_cons (e_ty T.bool b_bool) a_nil)))) hb)))) ?_
    exact s_one (s1_ret (e_tup (a_cons (e_xg hx hno (e_var 2) rfl) a_nil)))
def fbL (d : D) : List D := match fbD d with
  | none => []
  | some e => [e]
theorem fbR_eq (d : D) : fbR d = .tup (fbL d) := by
  unfold fbR fbL
  cases fbD d <;> rfl
theorem fbL_em (d : D) : (fbL d).isEmpty = (fbD d).isNone := by
  unfold fbL
  cases fbD d <;> rfl
theorem cmp_fb {e : D} (h : e = .non ∨ ∃ k : Nat, e = .int (k : Nat)) : Cmp (.lst [.tup [e], .tup [e]]) := by
  rcases h with rfl | ⟨k, rfl⟩
  · exact ⟨rfl, rfl⟩
  · exact ⟨rfl, rfl⟩
def P_right01 : List D → Rs → Prop := fun ds r => ∃ d, PlT d ∧ ds = [d] ∧ r = .sh (.bl true)
theorem c_right01 (Dd : Df K mg "_law_right" s__law_right []) (T : Bt mg) (G_fb : C0 Pg w K mg base "_law_first_bad" 2 ["_law_thing"] P_fb01) (G_areS : C0 Pg w K mg base "are_stripes" 4 ["thing"] P_areS) (G_ref : C0 Pg w K mg base "_law_refused" 8 ["_law_which", "_law_thing"] P_ref01) : C0 Pg w K mg base "_law_right" 9 ["_law_thing"] P_right01 := by
  refine c0_mk (k := 8) Dd sc__law_right (fun _ _ _ _ _ _ us hl => match us, hl with | [_], _ => rfl) (by decide) (fun ds r => ?_) (fun f cd A outer s H E g ds r => ?_)
  · rintro ⟨d, _, rfl, rfl⟩
    exact ⟨rfl, fun _ z => by cases z⟩
  · rintro ⟨d, hd, rfl, rfl⟩
    refine ends_rt (Γ' := [.sh d, .sh (.tup (fbL d)), .sh (.bl (fbD d).isNone), .un]) ?_
    refine s_cons (Γ1 := [.sh d, .sh (.tup (fbL d)), .sh (.bl (fbD d).isNone), .un]) (s1_par 1 2 g (a_cons (e_eq (e_c0 G_fb g (a_cons (e_var 0) a_nil) ⟨d, hd, rfl, rfl⟩) (by rw [fbR_eq])) (a_cons (e_c0 G_areS g (a_cons (e_var 0) a_nil) ⟨d, hd, rfl, rfl⟩) a_nil))) ?_
    refine s_ifN (Γ1 := [.sh d, .sh (.tup (fbL d)), .sh (.bl (fbD d).isNone), .un]) (t_w (w_orF (t_eq (t_not (t_val (e_callB (c_isBool (d := .bl (fbD d).isNone) rfl) T.isinstance b_isinstance (a_cons (e_var 2) (a_cons (e_ty T.bool b_bool) a_nil))))) rfl) (w_or1 (t_eq (t_cmp (o_neB (a := (fbD d).isNone) (b := (fbL d).isEmpty)) (e_var 2) (e_cmp (o_eqT0A (ds := fbL d) g.rm.units0) (e_var 1) (e_tup a_nil))) (by rw [fbL_em, decide_eq_true rfl]; rfl))))) ?_
    have em := fbL_em d
    cases hf : fbD d with
    | none =>
      rw [hf] at em
      exact s_one (s1_ret (e_orT (e_eq (e_cmp (o_eqT0A (ds := fbL d) g.rm.units0) (e_var 1) (e_tup a_nil)) (by rw [em]; rfl))))
    | some e =>
      rw [hf] at em
      have hL : fbL d = [e] := by unfold fbL; rw [hf]
      refine s_one (s1_ret (e_orF (e_eq (e_cmp (o_eqT0A (ds := fbL d) g.rm.units0) (e_var 1) (e_tup a_nil)) (by rw [em]; rfl)) (e_one (e_cmp (d1 := .lst [.tup [e], .tup [e]]) (d2 := .lst [.tup [e], .tup [e]]) (o_eqSelf g.rm.units (cmp_fb (fb_cases hf))) (e_fz (e_lc1 3 (fun _ => .tup [e]) g (it_range1 (j := 2) T.range (a_cons e_int a_nil) (by decide) (by decide)) (by decide) (blkOk_by (N := N__law_right) (sc := defScope s__law_right) (by decide +kernel)) rfl (fun j hj s1 H1 C1 cl fp => ?_))) (e_fz (e_lst (a_cons (e_eq (e_var 1) (by rw [hL])) (a_cons (e_eq (e_var 1) (by rw [hL])) a_nil))))))))
      exact e_c0 G_ref g.blk (a_cons (e_var 3) (a_cons (e_var 0) a_nil)) ⟨(j : Nat), d, e, by have : j < 2 := hj; omega, hd, hf, rfl, rfl⟩
end
end Hd

set_option Elab.async false
set_option linter.all false
set_option maxRecDepth 100000
set_option maxHeartbeats 1000000
namespace Hd
open PySem PySem.Spec PyProof.Rows L2 PL
section
variable {Pg : Program} {w : World} {K : PySem.W.Frag} {mg : Str → Option Value} {base : Heap}
def spLaw (K : PySem.W.Frag) : Sp := fun vs H Q _ => ∃ (a : Addr) (ns : List Int), vs = [.ref a] ∧ SqL K H a (ns.map V.int) ∧ ∀ H', Q (.bl true) H'
theorem law_ok {qual : Str} {params : Arguments} {body : List Stmt} {scope : Scope} {dvs : List V} {kws : List (Str × V)} {f : Addr} {fd : FuncData} {x p : Str} {N : List Str} {k : Nat} (FD : FunD K x qual params body scope dvs kws f fd) (Sc : FnScope N [p] scope) (hn : 1 ≤ N.length)
    (hb : ∀ cd A outer s H E, Gd k (cxOf CX0 Pg w K mg base N qual scope f cd A outer s H E) → ∀ ns : List Int, ∃ Γ', Ends1 (cxOf CX0 Pg w K mg base N qual scope f cd A outer s H E) (ent N [.fls (ns.map D.int)]) body (.sh (.bl true)) Γ') : PL.FnOk Pg w K mg base CX0 (k + 1) f fd [p] (spLaw K) := by
  refine fd_ok FD Sc (fun vs H Q E h => ?_) (fun cd A outer s H vs Q E hr h => ?_)
  · obtain ⟨a, ns, rfl, _⟩ := h; rfl
  · obtain ⟨a, ns, rfl, hS, q⟩ := h
    obtain ⟨Γ', e1⟩ := hb cd A outer s H E ⟨rfl, Sc.nd, PassesOwn.leaving, hr⟩ ns
    have hr0 : Reps K H [D.fls (ns.map D.int)] [V.ref a] := .one ⟨a, _, rfl, hS, Reps.ofInts⟩
    refine ⟨_, ws_pss, e1.run (rs_start (K := K) (S := H) (.refl _) hr0 hn) fun v σ' H' S' R' s' ok => ?_⟩
    rw [show v = V.bl true from ok]
    exact q H'
theorem rg2 {J : Int} (h0 : 1 ≤ J) (h1 : J ≤ 20) : RgC 0 J 2 ((J + 1) / 2).toNat := by
  have key : ∀ j : _root_.Fin 20, RgC 0 ((j.val : Int) + 1) 2 (((j.val : Int) + 1 + 1) / 2).toNat := by
    intro j
    refine ⟨by decide, by decide, ?_, ?_⟩
    · revert j; decide +kernel
    · revert j; decide +kernel
  have := key ⟨(J - 1).toNat, by omega⟩
  rw [show (((J - 1).toNat : Nat) : Int) + 1 = J by omega] at this
  exact this
/-- how many cells are gone through: at least a, at most b -/
def cells (a b n : Int) : Int := if (if b < n then b else n) > a then (if b < n then b else n) else a
theorem cells_ok {a b n : Int} (h : 0 ≤ a) (hab : a ≤ b) : a ≤ cells a b n ∧ cells a b n ≤ b := by
  unfold cells
  split <;> (try split) <;> omega
/-! ### k01: law -/
theorem plT_nt {d : D} (h : d.plain = true) (hn : isTup d = false) : PlT d := ⟨h, fun es e => by rw [e] at hn; cases hn⟩
theorem plS_nt {d : D} (h : d.plain = true) (hn : isTup d = false) : PlS d := ⟨h, fun es e => by rw [e] at hn; cases hn⟩
theorem plT_tup {es : List D} (h : es.length ≤ 1000) (hm : ∀ e ∈ es, PlS e) : PlT (.tup es) := ⟨rfl, fun us e => by cases e; exact ⟨h, hm⟩⟩
theorem plS_pair {a b : D} (h1 : Pl a) (h2 : Pl b) : PlS (.tup [a, b]) := ⟨rfl, fun us e => by
  cases e
  refine ⟨(by decide : (2 : Nat) ≤ 1000), fun u hu => ?_⟩
  simp only [List.mem_cons, List.not_mem_nil, or_false] at hu
  rcases hu with rfl | rfl
  · exact h1
  · exact h2⟩
/-- a number after so many takings of six -/
def qq (n : Int) : Nat → Int
  | 0 => n
  | l + 1 => qq n l / 1000000000
def more01 (v : Int) : Int := v * 48271 % 999999999989 + 1000000000000 * (v * 69621 % 999999999961 + 1)
def some01 : List D := [.non, .int 0, .bl true, .str "", .str "b8", .lst [], .dct [] [], .tup [], .lst [.tup [.str "b", .int 8]], .tup [.str "b", .int 8], .tup [.tup [.str "b", .int 240]], .tup [.tup [.str "b", .int 241]], .tup [.tup [.str "b", .int 0]]]
def some01b : List D := [.tup [.tup [.str "b", .int 120], .tup [.str "w", .int 120]], .tup [.tup [.str "b", .int 120], .tup [.str "w", .int 120], .tup [.str "b", .int 1]], .tup [.tup [.str "b", .int 8], .tup [.str "w", .int 0], .tup [.str "w", .bl true]]]
theorem pl1 {x : Str} (h : x.length ≤ 2000) : Pl (.str x) := by
  have hz := big2000
  show x.length ≤ sizeLine
  omega
theorem some01_ok : ∀ d ∈ some01 ++ some01b, PlT d := by
  have pb : Pl (.str "b") := pl1 (by decide)
  have pw : Pl (.str "w") := pl1 (by decide)
  intro d hd
  simp only [some01, some01b, List.cons_append, List.nil_append, List.mem_cons, List.not_mem_nil, or_false] at hd
  rcases hd with rfl | rfl | rfl | rfl | rfl | rfl | rfl | rfl | rfl | rfl | rfl | rfl | rfl | rfl | rfl | rfl
  all_goals first
    | exact plT_nt rfl rfl
    | exact plT_tup (Nat.zero_le _) (fun u hu => by cases hu)
    | (refine plT_tup (Nat.le_of_ble_eq_true rfl) fun u hu => ?_
       simp only [List.mem_cons, List.not_mem_nil, or_false] at hu
       first
         | (rcases hu with rfl | rfl | rfl <;> first | exact plS_nt rfl rfl | exact plS_pair pb rfl | exact plS_pair pw rfl)
         | (rcases hu with rfl | rfl <;> first | exact plS_nt rfl rfl | exact plS_pair pb rfl | exact plS_pair pw rfl)
         | (rcases hu with rfl; first | exact plS_nt rfl rfl | exact plS_pair pb rfl | exact plS_pair pw rfl))
def things01 (w : Str) : List D := [.str w, .str (Txt.upper w), .str (w ++ w), .str "", .str "a1", .non, .int 0, .bl true, .tup [.str w], .lst [.str w], .dct [] [], .tup [.lst [.str w]], .str " "]
theorem things01_ok {w : Str} (h : w.length ≤ 4) : ∀ d ∈ things01 w, Pl d := by
  intro d hd
  simp only [things01, List.mem_cons, List.not_mem_nil, or_false] at hd
  rcases hd with rfl | rfl | rfl | rfl | rfl | rfl | rfl | rfl | rfl | rfl | rfl | rfl | rfl
  · exact pl1 (by omega)
  · exact pl1 (by have := PyProof.Rows.len_upper w; omega)
  · exact pl1 (by rw [Str.length_append]; omega)
  · exact pl1 (by decide)
  · exact pl1 (by decide)
  all_goals first | rfl | exact pl1 (by decide)
/-- constants shown -/
inductive CstEs : List Ex → List D → Prop
  | nil : CstEs [] []
  | non {j p es ds} (h : CstEs es ds) : CstEs (.Constant .none j p :: es) (.non :: ds)
  | int {i j p es ds} (h : CstEs es ds) : CstEs (.Constant (.int i) j p :: es) (.int i :: ds)
  | bl {b j p es ds} (h : CstEs es ds) : CstEs (.Constant (.bool b) j p :: es) (.bl b :: ds)
  | str {x j p es ds} (h : CstEs es ds) : CstEs (.Constant (.str x) j p :: es) (.str x :: ds)
  | dct {p es ds} (h : CstEs es ds) : CstEs (.Dict [] [] p :: es) (.dct [] [] :: ds)
  | tup {us vs k p es ds} (h1 : CstEs us vs) (hl : vs.length ≤ 1000) (h : CstEs es ds) : CstEs (.Tuple us k p :: es) (.tup vs :: ds)
  | lst {us vs p es ds} (h1 : CstEs us vs) (hl : vs.length ≤ 1000) (h : CstEs es ds) : CstEs (.List us p :: es) (.lst vs :: ds)
theorem CstEs.ax {X : Cx} {Γ : Gm} {es : List Ex} {ds : List D} (h : CstEs es ds) : AX X Γ es ds Γ := by
  have hz := big2000
  induction h with
  | nil => exact a_nil
  | non _ ih => exact a_cons e_non ih
  | int _ ih => exact a_cons e_int ih
  | bl _ ih => exact a_cons e_bl ih
  | str _ ih => exact a_cons e_str ih
  | dct _ ih => exact a_cons (e_frz e_dict0) ih
  | tup _ hl _ ih1 ih2 => exact a_cons (e_tup ih1 (by omega)) ih2
  | lst _ hl _ ih1 ih2 => exact a_cons (e_fz (e_lst ih1 (by omega))) ih2
theorem dsp1_c (es : List Ex) (p : Pos) (h : Stmt) (hs : h = (defBody s_law).getD 1 s_law) (he : (match h with | .Assign _ (.List us q) _ => some (us, q) | _ => none) = some (es, p)) : CstEs es some01 := by
  subst hs
  cases he
  have one : ∀ n : Nat, n ≤ 1000 → n ≤ 1000 := fun _ h => h
  unfold some01
  exact .non (.int (.bl (.str (.str (.lst .nil (Nat.le_of_ble_eq_true rfl) (.dct (.tup .nil (Nat.le_of_ble_eq_true rfl) (.lst (.tup (.str (.int .nil)) (Nat.le_of_ble_eq_true rfl) .nil) (Nat.le_of_ble_eq_true rfl) (.tup (.str (.int .nil)) (Nat.le_of_ble_eq_true rfl) (.tup (.tup (.str (.int .nil)) (Nat.le_of_ble_eq_true rfl) .nil) (Nat.le_of_ble_eq_true rfl) (.tup (.tup (.str (.int .nil)) (Nat.le_of_ble_eq_true rfl) .nil) (Nat.le_of_ble_eq_true rfl) (.tup (.tup (.str (.int .nil)) (Nat.le_of_ble_eq_true rfl) .nil) (Nat.le_of_ble_eq_true rfl) .nil))))))))))))
theorem dsp2_c (es : List Ex) (p : Pos) (h : Stmt) (hs : h = (defBody s_law).getD 2 s_law) (he : (match h with | .Assign _ (.BinOp _ _ (.List us q) _) _ => some (us, q) | _ => none) = some (es, p)) : CstEs es some01b := by
  subst hs
  cases he
  unfold some01b
  have pr : ∀ {x i j1 j2 p1 p2 k p es ds}, CstEs es ds → CstEs (.Tuple [.Constant (.str x) j1 p1, .Constant (.int i) j2 p2] k p :: es) (.tup [.str x, .int i] :: ds) := fun h => .tup (.str (.int .nil)) (by decide : (2 : Nat) ≤ 1000) h
  exact .tup (pr (pr .nil)) (Nat.le_of_ble_eq_true rfl) (.tup (pr (pr (pr .nil))) (Nat.le_of_ble_eq_true rfl) (.tup (pr (pr (.tup (.str (.bl .nil)) (Nat.le_of_ble_eq_true rfl) .nil))) (Nat.le_of_ble_eq_true rfl) .nil))
theorem lst_cst {X : Cx} {Γ : Gm} {es : List Ex} {ds : List D} {p : Pos} (h : CstEs es ds) (hl : ds.length ≤ 1000) : EX X Γ (.List es p) (.ow (.lst ds)) Γ := by
  have hz := big2000
  exact e_lst h.ax (by omega)
/-- things shown, some of them of the text of the name y -/
inductive VEs (y w : Str) : List Ex → List D → Prop
  | nil : VEs y w [] []
  | var {p es ds} (h : VEs y w es ds) : VEs y w (.Name y p :: es) (.str w :: ds)
  | up {p ap cp es ds} (hl : (ap.endLine == cp.line) = true) (h : VEs y w es ds) : VEs y w (.Call (.Attribute (.Name y p) "upper" ap) [] [] cp :: es) (.str (Txt.upper w) :: ds)
  | dbl {p q r es ds} (h : VEs y w es ds) : VEs y w (.BinOp (.Name y p) .Add (.Name y q) r :: es) (.str (w ++ w) :: ds)
  | tup1 {p k q es ds} (h : VEs y w es ds) : VEs y w (.Tuple [.Name y p] k q :: es) (.tup [.str w] :: ds)
  | lst1 {p q es ds} (h : VEs y w es ds) : VEs y w (.List [.Name y p] q :: es) (.lst [.str w] :: ds)
  | tl1 {p q k r es ds} (h : VEs y w es ds) : VEs y w (.Tuple [.List [.Name y p] q] k r :: es) (.tup [.lst [.str w]] :: ds)
  | non {j p es ds} (h : VEs y w es ds) : VEs y w (.Constant .none j p :: es) (.non :: ds)
  | int {i j p es ds} (h : VEs y w es ds) : VEs y w (.Constant (.int i) j p :: es) (.int i :: ds)
  | bl {b j p es ds} (h : VEs y w es ds) : VEs y w (.Constant (.bool b) j p :: es) (.bl b :: ds)
  | str {x j p es ds} (h : VEs y w es ds) : VEs y w (.Constant (.str x) j p :: es) (.str x :: ds)
  | dct {p es ds} (h : VEs y w es ds) : VEs y w (.Dict [] [] p :: es) (.dct [] [] :: ds)
theorem VEs.ax {X : Cx} {Γ : Gm} {y w : Str} {es : List Ex} {ds : List D} (h : VEs y w es ds) (hw : w.length ≤ 4) (hv : ∀ p, EX X Γ (.Name y p) (.sh (.str w)) Γ) : AX X Γ es ds Γ := by
  have hz := big2000
  induction h with
  | nil => exact a_nil
  | var _ ih => exact a_cons (hv _) ih
  | up hl _ ih => exact a_cons (e_upper (hv _) (by omega) rfl hl) ih
  | dbl _ ih => exact a_cons (e_bin (o_addS (a := w) (b := w) (by omega)) (hv _) (hv _)) ih
  | tup1 _ ih => exact a_cons (e_tup (a_cons (hv _) a_nil)) ih
  | lst1 _ ih => exact a_cons (e_fz (e_lst (a_cons (hv _) a_nil))) ih
  | tl1 _ ih => exact a_cons (e_tup (a_cons (e_fz (e_lst (a_cons (hv _) a_nil))) a_nil)) ih
  | non _ ih => exact a_cons e_non ih
  | int _ ih => exact a_cons e_int ih
  | bl _ ih => exact a_cons e_bl ih
  | str _ ih => exact a_cons e_str ih
  | dct _ ih => exact a_cons (e_frz e_dict0) ih
theorem fz13 {X : Cx} {Γ : Gm} {es : List Ex} {ds : List D} {p : Pos} (h : AX X Γ es ds Γ) (hl : ds.length ≤ 1000) : EX X Γ (.List es p) (.sh (.lst ds)) Γ := by
  have hz := big2000
  exact e_fz (e_lst h (by omega))
theorem lp_eq (w : Str) : ∃ es3 p3 t q, VEs "_law_word_here" w es3 (things01 w) ∧ (fBody (defBody s_law)).getD 7 s_law = .For (.Name "_law_thing" t) (.List es3 p3) (fBody [(fBody (defBody s_law)).getD 7 s_law]) [] q := by
  refine ⟨_, _, _, _, ?_, rfl⟩
  unfold things01
  exact .var (.up rfl (.dbl (.str (.str (.non (.int (.bl (.tup1 (.lst1 (.dct (.tl1 (.str .nil))))))))))))
set_option maxHeartbeats 2000000 in
theorem loop01 {f : Addr} {cd : Value} {A : Around} {outer : List Env} {s : Shared} {H : Hp} {E : XK} (g : Gd 9 (cxOf CX0 Pg w K mg base N_law "law" (defScope s_law) f cd A outer s H E)) (T : Bt mg) (G_is_shade : C0 Pg w K mg base "is_shade" 2 ["thing"] P_is_shade) (G_shady : C0 Pg w K mg base "_law_shady" 1 ["_law_thing"] P_shady) (c0 c1 c2 c3 c4 c5 : Sl) (x : Str) (hx : x.length ≤ 4) : True ∧ S1 (cxOf CX0 Pg w K mg base N_law "law" (defScope s_law) f cd A outer s H E) [c0, c1, c2, c3, c4, c5, .un, .un, .un, .sh (.str x), .un, .un, .un] ((fBody (defBody s_law)).getD 7 s_law) (.nx [c0, c1, c2, c3, c4, c5, .un, .un, .un, .sh (.str x), .un, .un, .un]) := by
  refine ⟨trivial, ?_⟩
  have hz := big2000
  have wok : ∀ l, l < (things01 x).length → Pl (itd (things01 x) l) := fun l hl => by
    unfold itd; rw [List.getD_eq_getElem?_getD, List.getElem?_eq_getElem hl]; exact things01_ok hx _ (List.getElem_mem hl)
  obtain ⟨es3, p3, t3, q3, h3, e3⟩ := lp_eq x
  rw [e3]
  refine s1_for (n := (things01 x).length) g (it_list (ds := things01 x) (fz13 (VEs.ax h3 hx fun p => e_var 9) (by decide : 13 ≤ 1000))) (fun l => [c0, c1, c2, c3, c4, c5, .un, .un, .un, .sh (.str x), .un, .un, .un]) (fun l => [c0, c1, c2, c3, c4, c5, .un, .un, .sh (itd (things01 x) l), .sh (.str x), .un, .un, .un]) .refl (fun l hl => g_name 8 g.nd) (fun l hl => .inl ?_)
  have hpl := wok l hl
  generalize itd (things01 x) l = d at hpl
  refine s_wk (Γ1 := [c0, c1, c2, c3, c4, c5, .un, .un, .sh d, .sh (.str x), .sh (.bl (shadeD d)), .un, .un]) ?_ (Wk.cv (.keep (.keep (.keep (.keep (.keep (.keep (.keep (.keep (.drop (.keep (.drop (.keep (.keep .nil))))))))))))))
  refine s_cons (Γ1 := [c0, c1, c2, c3, c4, c5, .un, .un, .sh d, .sh (.str x), .sh (.bl (shadeD d)), .un, .un]) (s1_set 10 g.nd (e_c0 G_is_shade g (a_cons (e_var 8) a_nil) ⟨d, hpl, rfl, rfl⟩)) ?_
  exact s_ifN (Γ1 := [c0, c1, c2, c3, c4, c5, .un, .un, .sh d, .sh (.str x), .sh (.bl (shadeD d)), .un, .un]) (t_w (w_orF (t_eq (t_not (t_val (e_callB (c_isBool (d := .bl (shadeD d)) rfl) T.isinstance b_isinstance (a_cons (e_var 10) (a_cons (e_ty T.bool b_bool) a_nil))))) rfl) (w_or1 (t_eq (t_cmp (o_neB (a := shadeD d) (b := shadeD d)) (e_var 10) (e_c0 G_shady g (a_cons (e_var 8) a_nil) ⟨d, hpl, rfl, rfl⟩)) (by rw [decide_eq_true rfl]; rfl))))) s_nil
theorem tl_eq : ∃ es1 p1 a b a2 a3 es2 p2 q2 b2, CstEs es1 some01 ∧ CstEs es2 some01b ∧ (defBody s_law).drop 1 = [.Assign [.Name "_law_some" a] (.List es1 p1) b, .Assign [.Name "_law_some" a2] (.BinOp (.Name "_law_some" a3) .Add (.List es2 p2) q2) b2, (defBody s_law).getD 3 s_law] := ⟨_, _, _, _, _, _, _, _, _, _, dsp1_c _ _ _ rfl rfl, dsp2_c _ _ _ rfl rfl, rfl⟩
set_option maxHeartbeats 2000000 in
theorem tail01 {f : Addr} {cd : Value} {A : Around} {outer : List Env} {s : Shared} {H : Hp} {E : XK} (g : Gd 9 (cxOf CX0 Pg w K mg base N_law "law" (defScope s_law) f cd A outer s H E)) (T : Bt mg) (G_right : C0 Pg w K mg base "_law_right" 9 ["_law_thing"] P_right01) (ns : List Int) : True ∧ SX (cxOf CX0 Pg w K mg base N_law "law" (defScope s_law) f cd A outer s H E) [.sh (.fls (ns.map D.int)), .un, .un, .un, .un, .un, .un, .un, .un, .un, .un, .un, .un] ((defBody s_law).drop 1) (.rt (.sh (.bl true)) [.sh (.fls (ns.map D.int)), .un, .un, .un, .un, .un, .un, .un, .un, .un, .un, .sh (.lst (some01 ++ some01b)), .un]) := by
  refine ⟨trivial, ?_⟩
  have hz := big2000
  have lastS : ∀ l, l < (some01 ++ some01b).length → PlT (itd (some01 ++ some01b) l) := fun l hl => by
    unfold itd; rw [List.getD_eq_getElem?_getD, List.getElem?_eq_getElem hl]; exact some01_ok _ (List.getElem_mem hl)
  obtain ⟨es1, p1, a, b, a2, a3, es2, p2, q2, b2, h1, h2, e⟩ := tl_eq
  rw [e]
  refine s_cons (Γ1 := [.sh (.fls (ns.map D.int)), .un, .un, .un, .un, .un, .un, .un, .un, .un, .un, .ow (.lst some01), .un]) (s1_set 11 g.nd (lst_cst h1 (by decide : 13 ≤ 1000))) ?_
  refine s_cons (Γ1 := [.sh (.fls (ns.map D.int)), .un, .un, .un, .un, .un, .un, .un, .un, .un, .un, .ow (.lst (some01 ++ some01b)), .un]) (s1_set 11 g.nd (e_bin (o_catL (ds := some01) (es := some01b) (by show 13 + 3 ≤ _; omega)) (e_cv (cv_frz (i := 11) rfl) (e_var 11)) (e_fz (lst_cst h2 (by decide : 3 ≤ 1000))))) ?_
  refine s_one (s1_ret (e_eq (e_callB (c_allR (b := fun _ => true) g.calm) T.all b_all (a_cons (e_frz (e_lc1 8 (fun _ => .bl true) g (it_list (ds := some01 ++ some01b) (e_cv (cv_frz (i := 11) rfl) (e_var 11))) (by show 16 ≤ _; omega) (blkOk_by (N := N_law) (sc := defScope s_law) (by decide +kernel)) rfl (fun l hl s1 H1 C1 cl fp => e_c0 G_right g.blk (a_cons (e_var 8) a_nil) ⟨_, lastS l hl, rfl, rfl⟩))) a_nil)) ?_))
  rfl
/-- what the for that stands first goes through -/
def fIter : List Stmt → Ex
  | (.For _ it _ _ _) :: _ => it
  | _ => .Constant .none 0 ⟨0, 0, 0, 0⟩
def bS (i : Nat) : Stmt := (fBody (defBody s_law)).getD i s_law
theorem outer_eq : ∃ t q, defBody s_law = .For (.Name "_law_k" t) (fIter (defBody s_law)) (fBody (defBody s_law)) [] q :: (defBody s_law).drop 1 := ⟨_, _, rfl⟩
theorem body_eq : fBody (defBody s_law) = [bS 0, bS 1, bS 2, bS 3, bS 4, bS 5, bS 6, bS 7] := rfl
theorem b4_eq : ∃ t q, bS 4 = .For (.Name "_law_spoil" t) (fIter [bS 4]) (fBody [bS 4]) [] q := ⟨_, _, rfl⟩
set_option maxHeartbeats 1500000 in
theorem c_law {f : Addr} {fd : FuncData} (FD : FunD K "law" "law" (defArgs s_law) (defBody s_law) (defScope s_law) [] [] f fd) (T : Bt mg) (G_pool : C0 Pg w K mg base "_law_pool" 1 ["_law_script", "_law_k"] P_pool) (G_take : C1 Pg w K mg base "_law_take" 1 ["_law_pool_here", "_law_many"] P_take) (G_stripes : Cp Pg w K mg base "_law_stripes" 3 ["_law_pool_here"] (fun ds => ds = []) post_s01) (G_bent : Cp Pg w K mg base "_law_bent" 5 ["_law_pool_here", "_law_thing", "_law_deep"] pre_bent post_bent) (G_right : C0 Pg w K mg base "_law_right" 9 ["_law_thing"] P_right01) (G_is_shade : C0 Pg w K mg base "is_shade" 2 ["thing"] P_is_shade) (G_shady : C0 Pg w K mg base "_law_shady" 1 ["_law_thing"] P_shady) :
    PL.FnOk Pg w K mg base CX0 10 f fd ["_law_script"] (spLaw K) := by
  refine law_ok (k := 9) FD sc_law (by decide) fun cd A outer s H E g ns => ?_
  obtain ⟨PS, GS, hPS⟩ := G_stripes.ex
  obtain ⟨PB, GB, hPB⟩ := G_bent.ex
  obtain ⟨J1, J2⟩ := cells_ok (a := 2) (b := 16) (n := ((ns.map D.int).length : Int)) (by decide) (by decide)
  have hz := big2000
  have lastS : ∀ l, l < (some01 ++ some01b).length → PlT (itd (some01 ++ some01b) l) := fun l hl => by
    unfold itd; rw [List.getD_eq_getElem?_getD, List.getElem?_eq_getElem hl]; exact some01_ok _ (List.getElem_mem hl)
  refine ends_rt (Γ' := [.sh (.fls (ns.map D.int)), .un, .un, .un, .un, .un, .un, .un, .un, .un, .un, .sh (.lst (some01 ++ some01b)), .un]) ?_
  obtain ⟨t0, q0, e0⟩ := outer_eq
  rw [e0]
  refine s_cons (Γ1 := [.sh (.fls (ns.map D.int)), .un, .un, .un, .un, .un, .un, .un, .un, .un, .un, .un, .un]) (s1_for g (it_range1 T.range (a_cons (e_callB (c_max2 g.calm) T.max b_max (a_cons e_int (a_cons (e_callB (c_min2 g.calm) T.min b_min (a_cons (e_callB c_lenF T.len b_len (a_cons (e_var 0) a_nil)) (a_cons e_int a_nil))) a_nil))) a_nil) (by show -2 ^ 62 ≤ cells 2 16 ((ns.map D.int).length : Int); omega) (by show cells 2 16 ((ns.map D.int).length : Int) < 2 ^ 62; omega))
    (fun _ => [.sh (.fls (ns.map D.int)), .un, .un, .un, .un, .un, .un, .un, .un, .un, .un, .un, .un])
    (fun j => [.sh (.fls (ns.map D.int)), .sh (.int (j : Nat)), .un, .un, .un, .un, .un, .un, .un, .un, .un, .un, .un]) .refl (fun j hj => g_name 1 g.nd) (fun j hj => .inl ?_)) ?_
  case refine_2 => obtain ⟨_, hT⟩ := tail01 g T G_right ns; assumption
  rw [body_eq]
  have hj' : j < 20 := by
    have h8 : cells 2 16 ((ns.map D.int).length : Int) ≤ 16 := J2
    have hjj : j < (cells 2 16 ((ns.map D.int).length : Int)).toNat := hj
    omega
  obtain ⟨n0, hn0⟩ : ∃ n0, n0 = poolV (cellV ns j) j := ⟨_, rfl⟩
  obtain ⟨_, n2, ⟨ps, p0, p9, hsm, rfl⟩, hS⟩ := hPS (qq n0 6) [] rfl
  obtain ⟨SS, hSS⟩ : ∃ SS : List D, SS = (List.range 6).map fun l => D.int (qq n0 l % 1000000000) := ⟨_, rfl⟩
  have hbent : ∀ v : Int, ∃ d n', PlT d ∧ PB (po v) [.tup (ps.map dP), .int 3] (.sh d) (po n') := fun v => by
    obtain ⟨_, n', ⟨d, h1, rfl⟩, h2⟩ := hPB v [.tup (ps.map dP), .int 3] ⟨ps, p0, p9, hsm, rfl⟩
    exact ⟨d, n', h1, h2⟩
  obtain ⟨fb, hfb⟩ : ∃ fb : Int → D, ∀ v, PlT (fb v) ∧ ∃ n', PB (po v) [.tup (ps.map dP), .int 3] (.sh (fb v)) (po n') := ⟨fun v => (hbent v).choose, fun v => by
    obtain ⟨n', h1, h2⟩ := (hbent v).choose_spec
    exact ⟨h1, n', h2⟩⟩
  obtain ⟨tt, htt⟩ : ∃ tt : Nat → List D, tt = fun l => .tup (ps.map dP) :: (List.range l).map fun i => fb (more01 (qq n0 i % 1000000000)) := ⟨_, rfl⟩
  have tt0 : tt 0 = [.tup (ps.map dP)] := by rw [htt]; rfl
  have ttS : ∀ l, tt (l + 1) = tt l ++ [fb (more01 (qq n0 l % 1000000000))] := fun l => by
    rw [htt]
    show _ :: _ = (_ :: _) ++ _
    rw [List.range_succ, List.map_append, List.cons_append]; rfl
  have ttl : ∀ l, (tt l).length = l + 1 := fun l => by rw [htt]; show ((List.range l).map _).length + 1 = _; rw [List.length_map, List.length_range]
  have hmade : PlT (.tup (ps.map dP)) := plT_tup (by rw [List.length_map]; omega) fun u hu => by
    obtain ⟨p, hm, rfl⟩ := List.mem_map.mp hu
    exact dP_S (hsm p hm)
  have ttok : ∀ l, l < (tt 6).length → PlT (itd (tt 6) l) := fun l hl => by
    have h1 : ∀ d ∈ tt 6, PlT d := fun d hd => by
      rw [htt] at hd
      rcases List.mem_cons.mp hd with rfl | hd
      · exact hmade
      · obtain ⟨i, _, rfl⟩ := List.mem_map.mp hd
        exact (hfb _).1
    unfold itd; rw [List.getD_eq_getElem?_getD, List.getElem?_eq_getElem hl]; exact h1 _ (List.getElem_mem hl)
  obtain ⟨pf, rest, hps⟩ : ∃ pf rest, ps = pf :: rest := by cases ps with | nil => cases p0 | cons a r => exact ⟨a, r, rfl⟩
  have hwl : pf.1.length ≤ 4 := (hsm pf (by rw [hps]; exact List.mem_cons_self ..)).1
  have hix : atI (ps.map dP) 0 = some (dP pf) := by rw [hps]; exact atI_nat (j := 0) rfl
  refine s_cons (Γ1 := [.sh (.fls (ns.map D.int)), .sh (.int (j : Nat)), .ow (po n0), .un, .un, .un, .un, .un, .un, .un, .un, .un, .un]) (by rw [hn0]; exact s1_set 2 g.nd (e_c0 G_pool g (a_cons (e_var 0) (a_cons (e_var 1) a_nil)) ⟨ns, j, by omega, rfl, rfl⟩)) ?_
  refine s_cons (Γ1 := [.sh (.fls (ns.map D.int)), .sh (.int (j : Nat)), .ow (po (qq n0 6)), .sh (.lst SS), .un, .un, .un, .un, .un, .un, .un, .un, .un]) ?_ ?_
  · refine s1_setLcF 3 g (lcG (n := 6) (f := fun l => .int (qq n0 l % 1000000000)) 12 (fun l => [.sh (.fls (ns.map D.int)), .sh (.int (j : Nat)), .ow (po (qq n0 l)), .un, .un, .un, .un, .un, .un, .un, .un, .un, .un]) (fun l => [.sh (.fls (ns.map D.int)), .sh (.int (j : Nat)), .ow (po (qq n0 (l + 1))), .un, .un, .un, .un, .un, .un, .un, .un, .un, .sh (.int (l : Nat))]) g (it_range1 (j := 6) T.range (a_cons e_int a_nil) (by decide) (by decide)) (by omega) (blkOk_by (N := N_law) (sc := defScope s_law) (by decide +kernel)) .refl (fun _ _ => rfl) (fun l hl s1 H1 C1 cl fp => ?_) (fun l hl => ?_)) (by rw [hSS]; exact took_all)
    · exact e_c1 2 G_take g.blk has_ow (a_cons (e_eq (e_bin (o_pow (cpow10 (by decide) (by decide))) e_int e_int) (show Rs.sh (D.int (10 ^ (9 : Int).toNat)) = .sh (.int 1000000000) by rfl)) a_nil) has_ow (tk01 (by decide) (by decide))
    · exact Wk.cv (.keep (.keep (.keep (.keep (.keep (.keep (.keep (.keep (.keep (.keep (.keep (.keep (.drop .nil)))))))))))))
  refine s_cons (Γ1 := [.sh (.fls (ns.map D.int)), .sh (.int (j : Nat)), .ow (po n2), .sh (.lst SS), .sh (.tup (ps.map dP)), .un, .un, .un, .un, .un, .un, .un, .un]) (s1_set 4 g.nd (e_c1 2 GS g has_ow a_nil has_ow hS)) ?_
  refine s_cons (Γ1 := [.sh (.fls (ns.map D.int)), .sh (.int (j : Nat)), .ow (po n2), .sh (.lst SS), .sh (.tup (ps.map dP)), .ow (.lst (tt 0)), .un, .un, .un, .un, .un, .un, .un]) (by rw [tt0]; exact s1_set 5 g.nd (e_lst (a_cons (e_var 4) a_nil))) ?_
  have sl : SS.length = 6 := by rw [hSS]; rfl
  refine s_cons (Γ1 := [.sh (.fls (ns.map D.int)), .sh (.int (j : Nat)), .ow (po n2), .sh (.lst SS), .sh (.tup (ps.map dP)), .ow (.lst (tt 6)), .un, .un, .un, .un, .un, .un, .un]) ?_ ?_
  · have e6 : ([.sh (.fls (ns.map D.int)), .sh (.int (j : Nat)), .ow (po n2), .sh (.lst SS), .sh (.tup (ps.map dP)), .ow (.lst (tt 6)), .un, .un, .un, .un, .un, .un, .un] : Gm) = (fun l => ([.sh (.fls (ns.map D.int)), .sh (.int (j : Nat)), .ow (po n2), .sh (.lst SS), .sh (.tup (ps.map dP)), .ow (.lst (tt l)), .un, .un, .un, .un, .un, .un, .un] : Gm)) SS.length := by rw [sl]
    rw [e6]
    obtain ⟨t4, q4, e4⟩ := b4_eq
    rw [e4]
    refine s1_for (n := SS.length) g (it_list (ds := SS) (e_var 3)) (fun l => [.sh (.fls (ns.map D.int)), .sh (.int (j : Nat)), .ow (po n2), .sh (.lst SS), .sh (.tup (ps.map dP)), .ow (.lst (tt l)), .un, .un, .un, .un, .un, .un, .un]) (fun l => [.sh (.fls (ns.map D.int)), .sh (.int (j : Nat)), .ow (po n2), .sh (.lst SS), .sh (.tup (ps.map dP)), .ow (.lst (tt l)), .sh (itd SS l), .un, .un, .un, .un, .un, .un]) .refl (fun l hl => g_name 6 g.nd) (fun l hl => .inl ?_)
    have hl6 : l < 6 := by omega
    have hit : itd SS l = .int (qq n0 l % 1000000000) := by
      rw [hSS]; unfold itd
      rw [List.getD_eq_getElem?_getD, List.getElem?_map, List.getElem?_range hl6]; rfl
    rw [hit, ttS]
    generalize qq n0 l % 1000000000 = v
    obtain ⟨_, n', hb⟩ := hfb (more01 v)
    refine s_wk (Γ1 := [.sh (.fls (ns.map D.int)), .sh (.int (j : Nat)), .ow (po n2), .sh (.lst SS), .sh (.tup (ps.map dP)), .ow (.lst (tt l ++ [fb (more01 v)])), .sh (.int v), .sh (.int (more01 v)), .un, .un, .un, .un, .un]) ?_ (Wk.cv (.keep (.keep (.keep (.keep (.keep (.keep (.drop (.drop (.keep (.keep (.keep (.keep (.keep .nil))))))))))))))
    refine s_cons (Γ1 := [.sh (.fls (ns.map D.int)), .sh (.int (j : Nat)), .ow (po n2), .sh (.lst SS), .sh (.tup (ps.map dP)), .ow (.lst (tt l)), .sh (.int v), .sh (.int (more01 v)), .un, .un, .un, .un, .un]) (s1_set 7 (r := .sh (.int (more01 v))) g.nd (e_eq (e_bin o_addI (e_bin (o_mod (by decide)) (e_bin (o_mulI (.inr ⟨by decide, by decide⟩)) (e_var 6) e_int) e_int) (e_bin (o_mulI (i := 1000000000000) (.inl ⟨by decide, by decide⟩)) (e_eq (e_bin (o_pow (cpow10 (by decide) (by decide))) e_int e_int) (show Rs.sh (D.int (10 ^ (12 : Int).toNat)) = .sh (.int 1000000000000) by rfl)) (e_bin o_addI (e_bin (o_mod (by decide)) (e_bin (o_mulI (.inr ⟨by decide, by decide⟩)) (e_var 6) e_int) e_int) e_int))) rfl)) ?_
    exact s_one (s1_expr (e_append (i := 5) (e_c1nA GB g (e_lst (a_cons (e_var 7) a_nil)) (a_cons (e_var 4) (a_cons e_int a_nil)) hb) ⟨_, _, has_ow, _, rfl⟩ has_ow (by rw [ttl]; omega)))
  refine s_cv (cv_frz (i := 5) (o := .lst (tt 6)) rfl) ?_
  refine s_ifN (Γ1 := [.sh (.fls (ns.map D.int)), .sh (.int (j : Nat)), .ow (po n2), .sh (.lst SS), .sh (.tup (ps.map dP)), .sh (.lst (tt 6)), .un, .un, .un, .un, .un, .un, .un]) (t_eq (t_not (t_val (e_callB (c_allR (n := (tt 6).length) (b := fun _ => true) g.calm) T.all b_all (a_cons (e_frz (e_lc1 8 (fun _ => .bl true) g (it_list (ds := tt 6) (e_var 5)) (by rw [ttl]; omega) (blkOk_by (N := N_law) (sc := defScope s_law) (by decide +kernel)) rfl (fun l hl s1 H1 C1 cl fp => e_c0 G_right g.blk (a_cons (e_var 8) a_nil) ⟨_, ttok l hl, rfl, rfl⟩))) a_nil)))) (by rw [ttl]; rfl)) ?_
  refine s_cons (Γ1 := [.sh (.fls (ns.map D.int)), .sh (.int (j : Nat)), .ow (po n2), .sh (.lst SS), .sh (.tup (ps.map dP)), .sh (.lst (tt 6)), .un, .un, .un, .sh (.str pf.1), .un, .un, .un]) (s1_set 9 g.nd (e_ix (e_ix (e_var 4) e_int (i_tup hix)) e_int (i_tup (ds := [.str pf.1, .int pf.2]) (i := 0) (d := .str pf.1) rfl))) ?_
  refine s_wk (Γ1 := [.sh (.fls (ns.map D.int)), .sh (.int (j : Nat)), .ow (po n2), .sh (.lst SS), .sh (.tup (ps.map dP)), .sh (.lst (tt 6)), .un, .un, .un, .sh (.str pf.1), .un, .un, .un]) (s_one ?_) (Wk.cv (.keep (.drop (.drop (.drop (.drop (.drop (.keep (.keep (.keep (.drop (.keep (.keep (.keep .nil))))))))))))))
  obtain ⟨_, hL⟩ := loop01 g T G_is_shade G_shady (.sh (.fls (ns.map D.int))) (.sh (.int (j : Nat))) (.ow (po n2)) (.sh (.lst SS)) (.sh (.tup (ps.map dP))) (.sh (.lst (tt 6))) pf.1 hwl
  assumption

end
end Hd




set_option Elab.async false
set_option linter.all false
set_option maxRecDepth 100000
set_option maxHeartbeats 0
namespace Hd
open PySem PySem.Spec PyProof.Rows L2 PL
structure Fx (K : PySem.W.Frag) (w : World) (mg : Str → Option Value) : Prop where
  D__wall : Df K mg "_wall" s__wall []
  D_NoStripes___init__ : Dm K (He.ga K "NoStripes") "__init__" "NoStripes.__init__" s_NoStripes___init__ []
  D_is_whole : Df K mg "is_whole" s_is_whole []
  D_is_between : Df K mg "is_between" s_is_between []
  D_is_word : Df K mg "is_word" s_is_word []
  D_is_shade : Df K mg "is_shade" s_is_shade []
  D_is_stripe : Df K mg "is_stripe" s_is_stripe []
  D_check_stripes : Df K mg "check_stripes" s_check_stripes []
  D_are_stripes : Df K mg "are_stripes" s_are_stripes []
  D_threads_of : Df K mg "threads_of" s_threads_of []
  D_merged : Df K mg "merged" s_merged []
  D_run_word : Df K mg "run_word" s_run_word []
  D_pivot_word : Df K mg "pivot_word" s_pivot_word []
  D_fold_word : Df K mg "fold_word" s_fold_word []
  D_left_word : Df K mg "left_word" s_left_word []
  D_right_word : Df K mg "right_word" s_right_word []
  D_is_manner : Df K mg "is_manner" s_is_manner []
  D_check_spot : Df K mg "check_spot" s_check_spot []
  D_least_round : Df K mg "least_round" s_least_round []
  D_least_begun : Df K mg "least_begun" s_least_begun []
  D_Row___init__ : Di K (He.ga K "Row") "Row.__init__" s_Row___init__ [.str "run", .int 0]
  D_Row___len__ : Dm K (He.ga K "Row") "__len__" "Row.__len__" s_Row___len__ []
  D_Row___eq__ : Dm K (He.ga K "Row") "__eq__" "Row.__eq__" s_Row___eq__ []
  D_Row___str__ : Dm K (He.ga K "Row") "__str__" "Row.__str__" s_Row___str__ []
  D_Row___repr__ : Dm K (He.ga K "Row") "__repr__" "Row.__repr__" s_Row___repr__ []
  D_Row_thread : Dm K (He.ga K "Row") "thread" "Row.thread" s_Row_thread []
  D_Row_at : Dm K (He.ga K "Row") "at" "Row.at" s_Row_at []
  D_Row_threads : Dm K (He.ga K "Row") "threads" "Row.threads" s_Row_threads []
  D_Row_shades : Dm K (He.ga K "Row") "shades" "Row.shades" s_Row_shades []
  D_Row_moved : Dm K (He.ga K "Row") "moved" "Row.moved" s_Row_moved []
  D_Row_turned : Dm K (He.ga K "Row") "turned" "Row.turned" s_Row_turned []
  D_Row_alike : Dm K (He.ga K "Row") "alike" "Row.alike" s_Row_alike []
  D__law_pool : Df K mg "_law_pool" s__law_pool []
  D__law_take : Df K mg "_law_take" s__law_take []
  D__law_word : Df K mg "_law_word" s__law_word []
  D__law_stripes : Df K mg "_law_stripes" s__law_stripes []
  D__law_whole : Df K mg "_law_whole" s__law_whole []
  D__law_shady : Df K mg "_law_shady" s__law_shady []
  D__law_first_bad : Df K mg "_law_first_bad" s__law_first_bad []
  D__law_odd : Df K mg "_law_odd" s__law_odd []
  D__law_bent : Df K mg "_law_bent" s__law_bent []
  D__law_refused : Df K mg "_law_refused" s__law_refused []
  D__law_sort : Df K mg "_law_sort" s__law_sort []
  D__law_right : Df K mg "_law_right" s__law_right []
  D_law : Df K mg "law" s_law []
  I_BIG : ∃ t, mg "BIG" = some (.int 1000000000000000000000000000000 t)
  I_MOST : ∃ t, mg "MOST" = some (.int 240 t)
  S_LETTERS : ∃ t, mg "LETTERS" = some (.str "abcdefghijklmnopqrstuvwxyz" t)
  C_Row : Cls K (He.ga K "Row")
  G_Row : mg "Row" = some (.ref (He.ga K "Row"))
  N_Row_kept : NoAttr K (He.ga K "Row") "kept"
  I_Row : Ic K (He.ga K "Row")
  E_Row : Nf K (He.ga K "Row")
  T : Bt mg
  R_0 : Srt K 0
  O_0 : Oxk K 0
  GK : Gk K mg
theorem fx_of {w : World} {K : PySem.W.Frag} {h : Heap} {mg : Str → Option Value} (X : K.In h) (G : h.Ns mainGlobals mg) (cc : obsM K = (He.valT fn tabs w, true)) : Fx K w mg := by
  have cT : He.SaysT fa fn tabs w K := congrArg Prod.fst cc
  have cWW : ((He.valsB K (He.ga K "MANNERS") kvs && (icl.all (PL.insB K) && (iot.all (PL.othB K) && nfl.all (PL.nfB K)))) && (rki.all (PL.srtB K) && (rxc.all (PL.xcVB K) && rxi.all (PL.oxiB K)))) = true := congrArg Prod.snd cc
  obtain ⟨cVV, cRX⟩ := He.ba cWW
  obtain ⟨cR, cXO⟩ := He.ba cRX
  obtain ⟨cX, cOx⟩ := He.ba cXO
  obtain ⟨cV, cIO⟩ := He.ba cVV
  obtain ⟨cI, cON⟩ := He.ba cIO
  obtain ⟨cO, cN⟩ := He.ba cON
  have c : He.SaysD fa fn K := cT.d
  exact {
    D__wall := by
      obtain ⟨fd, F⟩ := c.def_ 0 (d := d__wall) rfl
      exact ⟨⟨_, fd, F, He.glo_ok X G (c.fact 35 (f := .glo "_wall") rfl)⟩⟩
    D_NoStripes___init__ := by
      obtain ⟨fd, F⟩ := c.def_ 1 (d := d_NoStripes___init__) rfl
      exact ⟨⟨_, fd, F, He.meth_ok (c.fact 74 (f := .meth "NoStripes" "__init__") rfl)⟩⟩
    D_is_whole := by
      obtain ⟨fd, F⟩ := c.def_ 2 (d := d_is_whole) rfl
      exact ⟨⟨_, fd, F, He.glo_ok X G (c.fact 44 (f := .glo "is_whole") rfl)⟩⟩
    D_is_between := by
      obtain ⟨fd, F⟩ := c.def_ 3 (d := d_is_between) rfl
      exact ⟨⟨_, fd, F, He.glo_ok X G (c.fact 40 (f := .glo "is_between") rfl)⟩⟩
    D_is_word := by
      obtain ⟨fd, F⟩ := c.def_ 4 (d := d_is_word) rfl
      exact ⟨⟨_, fd, F, He.glo_ok X G (c.fact 45 (f := .glo "is_word") rfl)⟩⟩
    D_is_shade := by
      obtain ⟨fd, F⟩ := c.def_ 5 (d := d_is_shade) rfl
      exact ⟨⟨_, fd, F, He.glo_ok X G (c.fact 42 (f := .glo "is_shade") rfl)⟩⟩
    D_is_stripe := by
      obtain ⟨fd, F⟩ := c.def_ 6 (d := d_is_stripe) rfl
      exact ⟨⟨_, fd, F, He.glo_ok X G (c.fact 43 (f := .glo "is_stripe") rfl)⟩⟩
    D_check_stripes := by
      obtain ⟨fd, F⟩ := c.def_ 7 (d := d_check_stripes) rfl
      exact ⟨⟨_, fd, F, He.glo_ok X G (c.fact 38 (f := .glo "check_stripes") rfl)⟩⟩
    D_are_stripes := by
      obtain ⟨fd, F⟩ := c.def_ 8 (d := d_are_stripes) rfl
      exact ⟨⟨_, fd, F, He.glo_ok X G (c.fact 36 (f := .glo "are_stripes") rfl)⟩⟩
    D_threads_of := by
      obtain ⟨fd, F⟩ := c.def_ 9 (d := d_threads_of) rfl
      exact ⟨⟨_, fd, F, He.glo_ok X G (c.fact 54 (f := .glo "threads_of") rfl)⟩⟩
    D_merged := by
      obtain ⟨fd, F⟩ := c.def_ 10 (d := d_merged) rfl
      exact ⟨⟨_, fd, F, He.glo_ok X G (c.fact 50 (f := .glo "merged") rfl)⟩⟩
    D_run_word := by
      obtain ⟨fd, F⟩ := c.def_ 11 (d := d_run_word) rfl
      exact ⟨⟨_, fd, F, He.glo_ok X G (c.fact 53 (f := .glo "run_word") rfl)⟩⟩
    D_pivot_word := by
      obtain ⟨fd, F⟩ := c.def_ 12 (d := d_pivot_word) rfl
      exact ⟨⟨_, fd, F, He.glo_ok X G (c.fact 51 (f := .glo "pivot_word") rfl)⟩⟩
    D_fold_word := by
      obtain ⟨fd, F⟩ := c.def_ 13 (d := d_fold_word) rfl
      exact ⟨⟨_, fd, F, He.glo_ok X G (c.fact 39 (f := .glo "fold_word") rfl)⟩⟩
    D_left_word := by
      obtain ⟨fd, F⟩ := c.def_ 14 (d := d_left_word) rfl
      exact ⟨⟨_, fd, F, He.glo_ok X G (c.fact 49 (f := .glo "left_word") rfl)⟩⟩
    D_right_word := by
      obtain ⟨fd, F⟩ := c.def_ 15 (d := d_right_word) rfl
      exact ⟨⟨_, fd, F, He.glo_ok X G (c.fact 52 (f := .glo "right_word") rfl)⟩⟩
    D_is_manner := by
      obtain ⟨fd, F⟩ := c.def_ 16 (d := d_is_manner) rfl
      exact ⟨⟨_, fd, F, He.glo_ok X G (c.fact 41 (f := .glo "is_manner") rfl)⟩⟩
    D_check_spot := by
      obtain ⟨fd, F⟩ := c.def_ 17 (d := d_check_spot) rfl
      exact ⟨⟨_, fd, F, He.glo_ok X G (c.fact 37 (f := .glo "check_spot") rfl)⟩⟩
    D_least_round := by
      obtain ⟨fd, F⟩ := c.def_ 18 (d := d_least_round) rfl
      exact ⟨⟨_, fd, F, He.glo_ok X G (c.fact 48 (f := .glo "least_round") rfl)⟩⟩
    D_least_begun := by
      obtain ⟨fd, F⟩ := c.def_ 19 (d := d_least_begun) rfl
      exact ⟨⟨_, fd, F, He.glo_ok X G (c.fact 47 (f := .glo "least_begun") rfl)⟩⟩
    D_Row___init__ := by
      obtain ⟨fd, F⟩ := c.def_ 20 (d := d_Row___init__) rfl
      exact ⟨⟨_, fd, F, He.mkr_ok (c.fact 72 (f := .mkr "Row") rfl)⟩⟩
    D_Row___len__ := by
      obtain ⟨fd, F⟩ := c.def_ 21 (d := d_Row___len__) rfl
      exact ⟨⟨_, fd, F, He.meth_ok (c.fact 61 (f := .meth "Row" "__len__") rfl)⟩⟩
    D_Row___eq__ := by
      obtain ⟨fd, F⟩ := c.def_ 22 (d := d_Row___eq__) rfl
      exact ⟨⟨_, fd, F, He.meth_ok (c.fact 62 (f := .meth "Row" "__eq__") rfl)⟩⟩
    D_Row___str__ := by
      obtain ⟨fd, F⟩ := c.def_ 23 (d := d_Row___str__) rfl
      exact ⟨⟨_, fd, F, He.meth_ok (c.fact 63 (f := .meth "Row" "__str__") rfl)⟩⟩
    D_Row___repr__ := by
      obtain ⟨fd, F⟩ := c.def_ 24 (d := d_Row___repr__) rfl
      exact ⟨⟨_, fd, F, He.meth_ok (c.fact 64 (f := .meth "Row" "__repr__") rfl)⟩⟩
    D_Row_thread := by
      obtain ⟨fd, F⟩ := c.def_ 25 (d := d_Row_thread) rfl
      exact ⟨⟨_, fd, F, He.meth_ok (c.fact 65 (f := .meth "Row" "thread") rfl)⟩⟩
    D_Row_at := by
      obtain ⟨fd, F⟩ := c.def_ 26 (d := d_Row_at) rfl
      exact ⟨⟨_, fd, F, He.meth_ok (c.fact 66 (f := .meth "Row" "at") rfl)⟩⟩
    D_Row_threads := by
      obtain ⟨fd, F⟩ := c.def_ 27 (d := d_Row_threads) rfl
      exact ⟨⟨_, fd, F, He.meth_ok (c.fact 67 (f := .meth "Row" "threads") rfl)⟩⟩
    D_Row_shades := by
      obtain ⟨fd, F⟩ := c.def_ 28 (d := d_Row_shades) rfl
      exact ⟨⟨_, fd, F, He.meth_ok (c.fact 68 (f := .meth "Row" "shades") rfl)⟩⟩
    D_Row_moved := by
      obtain ⟨fd, F⟩ := c.def_ 29 (d := d_Row_moved) rfl
      exact ⟨⟨_, fd, F, He.meth_ok (c.fact 69 (f := .meth "Row" "moved") rfl)⟩⟩
    D_Row_turned := by
      obtain ⟨fd, F⟩ := c.def_ 30 (d := d_Row_turned) rfl
      exact ⟨⟨_, fd, F, He.meth_ok (c.fact 70 (f := .meth "Row" "turned") rfl)⟩⟩
    D_Row_alike := by
      obtain ⟨fd, F⟩ := c.def_ 31 (d := d_Row_alike) rfl
      exact ⟨⟨_, fd, F, He.meth_ok (c.fact 71 (f := .meth "Row" "alike") rfl)⟩⟩
    D__law_pool := by
      obtain ⟨fd, F⟩ := c.def_ 32 (d := d__law_pool) rfl
      exact ⟨⟨_, fd, F, He.glo_ok X G (c.fact 26 (f := .glo "_law_pool") rfl)⟩⟩
    D__law_take := by
      obtain ⟨fd, F⟩ := c.def_ 33 (d := d__law_take) rfl
      exact ⟨⟨_, fd, F, He.glo_ok X G (c.fact 32 (f := .glo "_law_take") rfl)⟩⟩
    D__law_word := by
      obtain ⟨fd, F⟩ := c.def_ 34 (d := d__law_word) rfl
      exact ⟨⟨_, fd, F, He.glo_ok X G (c.fact 34 (f := .glo "_law_word") rfl)⟩⟩
    D__law_stripes := by
      obtain ⟨fd, F⟩ := c.def_ 35 (d := d__law_stripes) rfl
      exact ⟨⟨_, fd, F, He.glo_ok X G (c.fact 31 (f := .glo "_law_stripes") rfl)⟩⟩
    D__law_whole := by
      obtain ⟨fd, F⟩ := c.def_ 36 (d := d__law_whole) rfl
      exact ⟨⟨_, fd, F, He.glo_ok X G (c.fact 33 (f := .glo "_law_whole") rfl)⟩⟩
    D__law_shady := by
      obtain ⟨fd, F⟩ := c.def_ 37 (d := d__law_shady) rfl
      exact ⟨⟨_, fd, F, He.glo_ok X G (c.fact 29 (f := .glo "_law_shady") rfl)⟩⟩
    D__law_first_bad := by
      obtain ⟨fd, F⟩ := c.def_ 38 (d := d__law_first_bad) rfl
      exact ⟨⟨_, fd, F, He.glo_ok X G (c.fact 24 (f := .glo "_law_first_bad") rfl)⟩⟩
    D__law_odd := by
      obtain ⟨fd, F⟩ := c.def_ 39 (d := d__law_odd) rfl
      exact ⟨⟨_, fd, F, He.glo_ok X G (c.fact 25 (f := .glo "_law_odd") rfl)⟩⟩
    D__law_bent := by
      obtain ⟨fd, F⟩ := c.def_ 40 (d := d__law_bent) rfl
      exact ⟨⟨_, fd, F, He.glo_ok X G (c.fact 23 (f := .glo "_law_bent") rfl)⟩⟩
    D__law_refused := by
      obtain ⟨fd, F⟩ := c.def_ 41 (d := d__law_refused) rfl
      exact ⟨⟨_, fd, F, He.glo_ok X G (c.fact 27 (f := .glo "_law_refused") rfl)⟩⟩
    D__law_sort := by
      obtain ⟨fd, F⟩ := c.def_ 42 (d := d__law_sort) rfl
      exact ⟨⟨_, fd, F, He.glo_ok X G (c.fact 30 (f := .glo "_law_sort") rfl)⟩⟩
    D__law_right := by
      obtain ⟨fd, F⟩ := c.def_ 43 (d := d__law_right) rfl
      exact ⟨⟨_, fd, F, He.glo_ok X G (c.fact 28 (f := .glo "_law_right") rfl)⟩⟩
    D_law := by
      obtain ⟨fd, F⟩ := c.def_ 44 (d := d_law) rfl
      exact ⟨⟨_, fd, F, He.glo_ok X G (c.fact 46 (f := .glo "law") rfl)⟩⟩
    I_BIG := He.int_ok X G (c.fact 55 (f := .int "BIG" 1000000000000000000000000000000) rfl)
    I_MOST := He.int_ok X G (c.fact 56 (f := .int "MOST" 240) rfl)
    S_LETTERS := He.str_ok X G (c.fact 57 (f := .str "LETTERS" "abcdefghijklmnopqrstuvwxyz") rfl)
    C_Row := He.cls_ok (c.fact 58 (f := .cls "Row") rfl)
    G_Row := He.glo_ok X G (c.fact 15 (f := .glo "Row") rfl)
    N_Row_kept := He.noat_ok (c.fact 59 (f := .noat "Row" "kept") rfl)
    I_Row := insB_ok (He.cls_ok (c.fact 58 (f := .cls "Row") rfl)) (List.all_eq_true.mp cI "Row" (by simp [icl]))
    E_Row := nfB_ok (insB_ok (He.cls_ok (c.fact 58 (f := .cls "Row") rfl)) (List.all_eq_true.mp cI "Row" (by simp [icl]))) (List.all_eq_true.mp cN "Row" (by simp [nfl]))
    T := fun x hx => He.free_ok X G (he_mem c (List.mem_append_right _ (List.mem_map_of_mem (show x ∈ bltN from hx))))
    R_0 := srtB_ok (List.all_eq_true.mp cR 0 (by simp [rki]))
    O_0 := oxiB_ok (List.all_eq_true.mp cOx 0 (by simp [rxi]))
    GK := ⟨fun j hj => match j, hj with | 0, _ => He.glo_ok X G (c.fact 9 (f := .glo "NoStripes") rfl) | 1, _ => He.glo_ok X G (c.fact 11 (f := .glo "NoThreads") rfl) | 2, _ => He.glo_ok X G (c.fact 2 (f := .glo "NoManner") rfl) | 3, _ => He.glo_ok X G (c.fact 20 (f := .glo "TooLong") rfl) | 4, _ => He.glo_ok X G (c.fact 10 (f := .glo "NoText") rfl) | 5, _ => He.glo_ok X G (c.fact 4 (f := .glo "NoNumber") rfl) | 6, _ => He.glo_ok X G (c.fact 0 (f := .glo "NoBox") rfl) | 7, _ => He.glo_ok X G (c.fact 21 (f := .glo "TooMany") rfl) | 8, _ => He.glo_ok X G (c.fact 12 (f := .glo "NoUndo") rfl) | 9, _ => He.glo_ok X G (c.fact 5 (f := .glo "NoOrder") rfl) | 10, _ => He.glo_ok X G (c.fact 7 (f := .glo "NoSpot") rfl) | 11, _ => He.glo_ok X G (c.fact 1 (f := .glo "NoCut") rfl) | 12, _ => He.glo_ok X G (c.fact 6 (f := .glo "NoShade") rfl) | 13, _ => He.glo_ok X G (c.fact 3 (f := .glo "NoName") rfl) | 14, _ => He.glo_ok X G (c.fact 8 (f := .glo "NoStep") rfl) | 15, _ => He.glo_ok X G (c.fact 13 (f := .glo "NoWay") rfl) | 16, _ => He.glo_ok X G (c.fact 14 (f := .glo "NoWeave") rfl) | n + 17, h => absurd h (by omega), fun j hj => match j, hj with | 0, _ => He.glo_ok X G (c.fact 19 (f := .glo "StripeError") rfl) | 1, _ => He.glo_ok X G (c.fact 17 (f := .glo "SpotError") rfl) | 2, _ => He.glo_ok X G (c.fact 16 (f := .glo "ShadeError") rfl) | 3, _ => He.glo_ok X G (c.fact 18 (f := .glo "StepError") rfl) | 4, _ => He.glo_ok X G (c.fact 22 (f := .glo "WayError") rfl) | n + 5, h => absurd h (by omega)⟩
  }
theorem facts {Pg : Program} {w : World} {K : PySem.W.Frag} {h : Heap} {mg : Str → Option Value} {f : Addr} (X : K.In h) (G : h.Ns mainGlobals mg) (hf : mg ("law" : Str) = some (.ref f)) (cc : obsM K = (He.valT fn tabs w, true)) :
    ∃ fd : FuncData, (∀ (s : Shared) (v : Value), BindsTo s fd ⟨[v], []⟩ [("_law_script", v)]) ∧ ∀ base : Heap, PL.FnOk Pg w K mg base CX0 10 f fd ["_law_script"] (spLaw K) := by
  have F := fx_of X G cc
  obtain ⟨f', fd, FD, gm⟩ := F.D_law.ex
  rw [hf] at gm
  obtain rfl : f = f' := by cases gm; rfl
  have b := FunD.bindsA (ps := ["_law_script"]) FD fun _ _ _ _ _ _ us hl => match us, hl with | [_], _ => rfl
  refine ⟨fd, fun s v => b s [v] rfl, fun base => ?_⟩
  have k1 : C0 Pg w K mg base "is_whole" 1 ["x"] P_is_whole := c_is_whole F.D_is_whole F.T
  have k2 : C0 Pg w K mg base "is_between" 2 ["x", "low", "high"] P_is_between := c_is_between F.D_is_between k1
  have k3 : C0 Pg w K mg base "is_word" 1 ["thing", "most"] P_is_word := c_is_word F.D_is_word F.T F.S_LETTERS
  have k4 : C0 Pg w K mg base "is_shade" 2 ["thing"] P_is_shade := c_is_shade F.D_is_shade k3
  have k5 : C0 Pg w K mg base "is_stripe" 3 ["thing"] P_is_stripe := c_is_stripe F.D_is_stripe F.T k4 k1
  have k6 : C0 Pg w K mg base "check_stripes" 4 ["thing"] P_check_stripes := c_check_stripes F.D_check_stripes F.T F.I_MOST k5
  have k7 : XI Pg w K mg base "NoStripes" 1 (He.ga K "NoStripes") ["number"] := c_XI0 F.D_NoStripes___init__ F.GK F.O_0
  have k8 : C0 Pg w K mg base "is_stripe" 3 ["thing"] P_stripeX := c_stripeX F.D_is_stripe F.T k4 k1
  have k9 : Ce Pg w K mg base "check_stripes" 4 ["thing"] (P_chkX (He.ga K "NoStripes")) := c_chkX F.D_check_stripes F.T F.I_MOST k7 k8
  have k10 : Ce Pg w K mg base "threads_of" 5 ["stripes"] (P_thrX (He.ga K "NoStripes")) := c_thrX F.D_threads_of k9
  have k11 : Kx Pg w K mg base "Row" (He.ga K "Row") 6 ["self", "stripes", "manner", "start"] "Row.__init__" s_Row___init__ [.str "run", .int 0] (P_rowX (He.ga K "NoStripes")) := c_rowX (He.ga K "Row") F.D_Row___init__ F.G_Row k10
  have k12 : C0 Pg w K mg base "are_stripes" 4 ["thing"] P_areS := c_areS F.D_are_stripes F.T F.I_MOST k8
  have k13 : C0 Pg w K mg base "_law_sort" 1 ["_law_caught"] (P_sort0 K) := c_sort0 F.D__law_sort F.T F.GK F.R_0
  have k14 : C1 Pg w K mg base "_law_take" 1 ["_law_pool_here", "_law_many"] P_take := c_take F.D__law_take F.T
  have k15 : C0 Pg w K mg base "_law_pool" 1 ["_law_script", "_law_k"] P_pool := c_pool F.D__law_pool F.T
  have k16 : Cp Pg w K mg base "_law_word" 2 ["_law_pool_here", "_law_most"] (fun ds => ∃ m : Int, 0 < m ∧ m ≤ 4 ∧ ds = [.int m]) post_w01 := c_word01 F.D__law_word F.T k14
  have k17 : Cp Pg w K mg base "_law_stripes" 3 ["_law_pool_here"] (fun ds => ds = []) post_s01 := c_stripes01 F.D__law_stripes F.T k14 k16
  have k18 : C0 Pg w K mg base "_law_whole" 1 ["_law_thing"] P_lwhole := c_lwhole F.D__law_whole F.T
  have k19 : C0 Pg w K mg base "_law_shady" 1 ["_law_thing"] P_shady := c_shady F.D__law_shady F.T
  have k20 : C0 Pg w K mg base "_law_first_bad" 2 ["_law_thing"] P_fb01 := c_fb01 F.D__law_first_bad F.T k19 k18
  have k21 : Cp Pg w K mg base "_law_odd" 2 ["_law_pool_here", "_law_thing"] pre_odd post_odd := c_odd01 F.D__law_odd F.T k14
  have k22 : Cp Pg w K mg base "_law_bent" 5 ["_law_pool_here", "_law_thing", "_law_deep"] pre_bent post_bent := c_bent01 F.D__law_bent F.T k14 k21
  have k23 : C0 Pg w K mg base "_law_refused" 8 ["_law_which", "_law_thing"] P_ref01 := c_ref01 (He.ga K "Row") F.D__law_refused F.T F.GK F.R_0 F.O_0 k13 k10 k11
  have k24 : C0 Pg w K mg base "_law_right" 9 ["_law_thing"] P_right01 := c_right01 F.D__law_right F.T k20 k12 k23
  exact c_law FD F.T k15 k14 k17 k22 k24 k4 k19
end Hd
open PySem PySem.W PySem.Calls PyProof.Rows
theorem PySem.Challenge.cw_stripelay_k01_stripes_of_any_kind_holds : PySem.Challenge.rw_stripelay_k01_stripes_of_any_kind.Holds := by
  w_on; o_law
  refine HandSHeadRun.head_any (r := OpenLaw.row PySem.Challenge.rw_stripelay_k01_stripes_of_any_kind) (q := view (OpenLaw.row PySem.Challenge.rw_stripelay_k01_stripes_of_any_kind).prog [62]) (H := Hd.hk) (ob := Hd.ob) (M := 30000) (loose := Hd.loose) (d := HandSHeadRun.topDef (OpenLaw.row PySem.Challenge.rw_stripelay_k01_stripes_of_any_kind).prog 62) (kwd := []) Hd.ob_eq
    (by kernel_rfl) (fun s => by kernel_rfl) Hd.run (by kernel_rfl) (by kernel_rfl) (by kernel_rfl) (by rfl) (by first | assumption | decide +kernel) (by decide +kernel) ⟨rfl, rfl, rfl, rfl, rfl, by decide +kernel⟩ ?hw ?hc
  case hw => w_witness2
  case hc =>
    refine PL.walk_ofG (l := PySem.Challenge.rw_stripelay_k01_stripes_of_any_kind) (n := 63) (k := 10) (x := "_law_script") (CX := L2.CX0) rfl (by decide) (by kernel_rfl) ⟨⟨rfl, by decide, by decide⟩, rfl⟩ ?F (fun _ _ _ _ z => z)
    intro w mg fa h Y G hmg0
    obtain ⟨K, KX, c⟩ := Y
    have hmg : mg ("law" : PySem.Str) = some (.ref fa) := by
      have e : (HandSHeadRun.topDef (OpenLaw.row PySem.Challenge.rw_stripelay_k01_stripes_of_any_kind).prog 62).name = ("law" : PySem.Str) := by kernel_rfl
      rw [← e]
      exact hmg0
    obtain ⟨fd, hb, hF⟩ := Hd.facts (Pg := (PySem.Challenge.rw_stripelay_k01_stripes_of_any_kind).prog) (w := w) KX G hmg c
    exact ⟨K, fd, Hd.spLaw K, KX, hb, fun H a ns hl _ hS => ⟨a, ns, rfl, hS, fun _ => rfl⟩, hF⟩
