import PyProof.Rows.All
import HandS.Words
import HandS.Head0
import HandS.Head1
import HandS.Head2
import HandS.HeadEnd
import HandS.HeadHook1
import HandS.HeadHook2
import HandS.HeadHook3
import Wide.All
import OpenK.AllK
import HandS.ExcInit
import HandS.ExcIs
import KE.KExcInit
import Wide.FinOn
import KE.KStateDown
import HandS.ForMost
import HandS.ForExc
import HandS.Defaults
import HandS.Exc
import HandS.MakeKw
import HandS.MakeKwOnly
import HandS.ExcOwn
import HandS.TupAny
import HandS.TupMul
import HandS.Wide
import HandS.WideBits
import HandS.IsInst
import HandS.Flow
import HandS.Style
import PyProof.EnumMake
import PyProof.Draws
import HandS.More
import HandS.NoneIn
import HandS.Codes
import HandS.SetFor
import HandS.OwnEq
import HandS.NamedTup0
import KE.KFmtOwn
import HandS.FStr
import KE.KCallOwn
import PyProof.ReprRoads
import PyProof.Rows.ReprR
import OpenK.KOps
import PyProof.EqAt
import PyProof.EqKinds
import HandS.Deep
import HandS.ExcField
import KE.KExcIs
import HandS.Zip
import HandS.Set
import HandS.SetTxt0
import HandS.TupSets
import KE.DatumOrd
import HandS.SortKw
import PyProof.SumWalkG
import HandS.Text
import PyProof.Rows.RegFStrParts
import PyProof.StrBlock
import HandS.StrMore
import HandS.Dict
import HandS.Small
import PySem.Challenge.RW_stripelay_k06_whole_one_row_by_all_its_t
set_option Elab.async false
set_option linter.all false
set_option maxRecDepth 100000
set_option maxHeartbeats 1000000
namespace Hd
open PySem PySem.Spec PyProof.Rows L2
def topS (i : Nat) : Stmt := PySem.Challenge.pw_stripelay_k06_whole_one_row_by_all_its_t.main.body.getD i (.Pass ⟨0, 0, 0, 0⟩)
abbrev s__wall : Stmt := topS 0
abbrev s_NoStripes___init__ : Stmt := inClass (topS 4) 0
abbrev s_TooLong___init__ : Stmt := inClass (topS 6) 0
abbrev s_NoSpot___init__ : Stmt := inClass (topS 7) 0
abbrev s_is_whole : Stmt := topS 12
abbrev s_is_between : Stmt := topS 13
abbrev s_is_word : Stmt := topS 14
abbrev s_is_shade : Stmt := topS 15
abbrev s_is_stripe : Stmt := topS 16
abbrev s_check_stripes : Stmt := topS 17
abbrev s_threads_of : Stmt := topS 18
abbrev s_merged : Stmt := topS 19
abbrev s_words_of : Stmt := topS 20
abbrev s_run_word : Stmt := topS 22
abbrev s_pivot_word : Stmt := topS 23
abbrev s_fold_word : Stmt := topS 24
abbrev s_left_word : Stmt := topS 25
abbrev s_right_word : Stmt := topS 26
abbrev s_is_manner : Stmt := topS 28
abbrev s_check_spot : Stmt := topS 29
abbrev s_least_round : Stmt := topS 30
abbrev s_least_begun : Stmt := topS 31
abbrev s_Row___init__ : Stmt := inClass (topS 32) 0
abbrev s_Row___len__ : Stmt := inClass (topS 32) 1
abbrev s_Row___eq__ : Stmt := inClass (topS 32) 2
abbrev s_Row___str__ : Stmt := inClass (topS 32) 3
abbrev s_Row___repr__ : Stmt := inClass (topS 32) 4
abbrev s_Row_thread : Stmt := inClass (topS 32) 5
abbrev s_Row_at : Stmt := inClass (topS 32) 6
abbrev s_Row_threads : Stmt := inClass (topS 32) 7
abbrev s_Row_shades : Stmt := inClass (topS 32) 8
abbrev s_Row_moved : Stmt := inClass (topS 32) 9
abbrev s_Row_turned : Stmt := inClass (topS 32) 10
abbrev s_Row_alike : Stmt := inClass (topS 32) 11
abbrev s_row_of_threads : Stmt := topS 33
abbrev s_show_row : Stmt := topS 35
abbrev s__law_pool : Stmt := topS 37
abbrev s__law_take : Stmt := topS 38
abbrev s__law_some_shades : Stmt := topS 39
abbrev s__law_drawn_stripes : Stmt := topS 40
abbrev s__law_threads : Stmt := topS 41
abbrev s__law_word : Stmt := topS 42
abbrev s__law_least_round : Stmt := topS 43
abbrev s__law_due : Stmt := topS 44
abbrev s__law_merged : Stmt := topS 45
abbrev s__law_split : Stmt := topS 46
abbrev s__law_from_the_end : Stmt := topS 47
abbrev s__law_tellings : Stmt := topS 48
abbrev s__law_alike : Stmt := topS 49
abbrev s__law_moved_right : Stmt := topS 50
abbrev s__law_unlike : Stmt := topS 51
abbrev s__law_others : Stmt := topS 52
abbrev s_law : Stmt := topS 53
def d__wall : He.DefD := ⟨("_wall", none), "_wall", "_wall", defArgs s__wall, defBody s__wall, defScope s__wall, [], []⟩
abbrev N__wall : List Str := ["k"]
theorem sc__wall : FnScope N__wall ["k"] (defScope s__wall) := ⟨rfl, rfl, rfl, by decide +kernel, rfl, by decide +kernel, by decide +kernel⟩
def d_NoStripes___init__ : He.DefD := ⟨("NoStripes", some "__init__"), "__init__", "NoStripes.__init__", defArgs s_NoStripes___init__, defBody s_NoStripes___init__, defScope s_NoStripes___init__, [], []⟩
abbrev N_NoStripes___init__ : List Str := ["self", "number"]
theorem sc_NoStripes___init__ : FnScope N_NoStripes___init__ ["self", "number"] (defScope s_NoStripes___init__) := ⟨rfl, rfl, rfl, by decide +kernel, rfl, by decide +kernel, by decide +kernel⟩
def d_TooLong___init__ : He.DefD := ⟨("TooLong", some "__init__"), "__init__", "TooLong.__init__", defArgs s_TooLong___init__, defBody s_TooLong___init__, defScope s_TooLong___init__, [], []⟩
abbrev N_TooLong___init__ : List Str := ["self", "long"]
theorem sc_TooLong___init__ : FnScope N_TooLong___init__ ["self", "long"] (defScope s_TooLong___init__) := ⟨rfl, rfl, rfl, by decide +kernel, rfl, by decide +kernel, by decide +kernel⟩
def d_NoSpot___init__ : He.DefD := ⟨("NoSpot", some "__init__"), "__init__", "NoSpot.__init__", defArgs s_NoSpot___init__, defBody s_NoSpot___init__, defScope s_NoSpot___init__, [], []⟩
abbrev N_NoSpot___init__ : List Str := ["self", "spot"]
theorem sc_NoSpot___init__ : FnScope N_NoSpot___init__ ["self", "spot"] (defScope s_NoSpot___init__) := ⟨rfl, rfl, rfl, by decide +kernel, rfl, by decide +kernel, by decide +kernel⟩
def d_is_whole : He.DefD := ⟨("is_whole", none), "is_whole", "is_whole", defArgs s_is_whole, defBody s_is_whole, defScope s_is_whole, [], []⟩
abbrev N_is_whole : List Str := ["x"]
theorem sc_is_whole : FnScope N_is_whole ["x"] (defScope s_is_whole) := ⟨rfl, rfl, rfl, by decide +kernel, rfl, by decide +kernel, by decide +kernel⟩
def d_is_between : He.DefD := ⟨("is_between", none), "is_between", "is_between", defArgs s_is_between, defBody s_is_between, defScope s_is_between, [], []⟩
abbrev N_is_between : List Str := ["x", "low", "high"]
theorem sc_is_between : FnScope N_is_between ["x", "low", "high"] (defScope s_is_between) := ⟨rfl, rfl, rfl, by decide +kernel, rfl, by decide +kernel, by decide +kernel⟩
def d_is_word : He.DefD := ⟨("is_word", none), "is_word", "is_word", defArgs s_is_word, defBody s_is_word, defScope s_is_word, [], []⟩
abbrev N_is_word : List Str := ["thing", "most", "sign"]
theorem sc_is_word : FnScope N_is_word ["thing", "most"] (defScope s_is_word) := ⟨rfl, rfl, rfl, by decide +kernel, rfl, by decide +kernel, by decide +kernel⟩
-- comps is_word: [[('sign', 2)]]
def d_is_shade : He.DefD := ⟨("is_shade", none), "is_shade", "is_shade", defArgs s_is_shade, defBody s_is_shade, defScope s_is_shade, [], []⟩
abbrev N_is_shade : List Str := ["thing"]
theorem sc_is_shade : FnScope N_is_shade ["thing"] (defScope s_is_shade) := ⟨rfl, rfl, rfl, by decide +kernel, rfl, by decide +kernel, by decide +kernel⟩
def d_is_stripe : He.DefD := ⟨("is_stripe", none), "is_stripe", "is_stripe", defArgs s_is_stripe, defBody s_is_stripe, defScope s_is_stripe, [], []⟩
abbrev N_is_stripe : List Str := ["thing"]
theorem sc_is_stripe : FnScope N_is_stripe ["thing"] (defScope s_is_stripe) := ⟨rfl, rfl, rfl, by decide +kernel, rfl, by decide +kernel, by decide +kernel⟩
def d_check_stripes : He.DefD := ⟨("check_stripes", none), "check_stripes", "check_stripes", defArgs s_check_stripes, defBody s_check_stripes, defScope s_check_stripes, [], []⟩
abbrev N_check_stripes : List Str := ["thing", "many", "number", "stripe"]
theorem sc_check_stripes : FnScope N_check_stripes ["thing"] (defScope s_check_stripes) := ⟨rfl, rfl, rfl, by decide +kernel, rfl, by decide +kernel, by decide +kernel⟩
def d_threads_of : He.DefD := ⟨("threads_of", none), "threads_of", "threads_of", defArgs s_threads_of, defBody s_threads_of, defScope s_threads_of, [], []⟩
abbrev N_threads_of : List Str := ["stripes", "found", "shade", "count"]
theorem sc_threads_of : FnScope N_threads_of ["stripes"] (defScope s_threads_of) := ⟨rfl, rfl, rfl, by decide +kernel, rfl, by decide +kernel, by decide +kernel⟩
def d_merged : He.DefD := ⟨("merged", none), "merged", "merged", defArgs s_merged, defBody s_merged, defScope s_merged, [], []⟩
abbrev N_merged : List Str := ["threads", "found", "shade"]
theorem sc_merged : FnScope N_merged ["threads"] (defScope s_merged) := ⟨rfl, rfl, rfl, by decide +kernel, rfl, by decide +kernel, by decide +kernel⟩
def d_words_of : He.DefD := ⟨("words_of", none), "words_of", "words_of", defArgs s_words_of, defBody s_words_of, defScope s_words_of, [], []⟩
abbrev N_words_of : List Str := ["stripes", "shade", "count"]
theorem sc_words_of : FnScope N_words_of ["stripes"] (defScope s_words_of) := ⟨rfl, rfl, rfl, by decide +kernel, rfl, by decide +kernel, by decide +kernel⟩
-- comps words_of: [[('shade', 1), ('count', 2)]]
def d_run_word : He.DefD := ⟨("run_word", none), "run_word", "run_word", defArgs s_run_word, defBody s_run_word, defScope s_run_word, [], []⟩
abbrev N_run_word : List Str := ["threads"]
theorem sc_run_word : FnScope N_run_word ["threads"] (defScope s_run_word) := ⟨rfl, rfl, rfl, by decide +kernel, rfl, by decide +kernel, by decide +kernel⟩
def d_pivot_word : He.DefD := ⟨("pivot_word", none), "pivot_word", "pivot_word", defArgs s_pivot_word, defBody s_pivot_word, defScope s_pivot_word, [], []⟩
abbrev N_pivot_word : List Str := ["threads"]
theorem sc_pivot_word : FnScope N_pivot_word ["threads"] (defScope s_pivot_word) := ⟨rfl, rfl, rfl, by decide +kernel, rfl, by decide +kernel, by decide +kernel⟩
def d_fold_word : He.DefD := ⟨("fold_word", none), "fold_word", "fold_word", defArgs s_fold_word, defBody s_fold_word, defScope s_fold_word, [], []⟩
abbrev N_fold_word : List Str := ["threads"]
theorem sc_fold_word : FnScope N_fold_word ["threads"] (defScope s_fold_word) := ⟨rfl, rfl, rfl, by decide +kernel, rfl, by decide +kernel, by decide +kernel⟩
def d_left_word : He.DefD := ⟨("left_word", none), "left_word", "left_word", defArgs s_left_word, defBody s_left_word, defScope s_left_word, [], []⟩
abbrev N_left_word : List Str := ["threads"]
theorem sc_left_word : FnScope N_left_word ["threads"] (defScope s_left_word) := ⟨rfl, rfl, rfl, by decide +kernel, rfl, by decide +kernel, by decide +kernel⟩
def d_right_word : He.DefD := ⟨("right_word", none), "right_word", "right_word", defArgs s_right_word, defBody s_right_word, defScope s_right_word, [], []⟩
abbrev N_right_word : List Str := ["threads"]
theorem sc_right_word : FnScope N_right_word ["threads"] (defScope s_right_word) := ⟨rfl, rfl, rfl, by decide +kernel, rfl, by decide +kernel, by decide +kernel⟩
def d_is_manner : He.DefD := ⟨("is_manner", none), "is_manner", "is_manner", defArgs s_is_manner, defBody s_is_manner, defScope s_is_manner, [], []⟩
abbrev N_is_manner : List Str := ["thing"]
theorem sc_is_manner : FnScope N_is_manner ["thing"] (defScope s_is_manner) := ⟨rfl, rfl, rfl, by decide +kernel, rfl, by decide +kernel, by decide +kernel⟩
def d_check_spot : He.DefD := ⟨("check_spot", none), "check_spot", "check_spot", defArgs s_check_spot, defBody s_check_spot, defScope s_check_spot, [], []⟩
abbrev N_check_spot : List Str := ["thing"]
theorem sc_check_spot : FnScope N_check_spot ["thing"] (defScope s_check_spot) := ⟨rfl, rfl, rfl, by decide +kernel, rfl, by decide +kernel, by decide +kernel⟩
def d_least_round : He.DefD := ⟨("least_round", none), "least_round", "least_round", defArgs s_least_round, defBody s_least_round, defScope s_least_round, [], []⟩
abbrev N_least_round : List Str := ["threads", "many", "size"]
theorem sc_least_round : FnScope N_least_round ["threads"] (defScope s_least_round) := ⟨rfl, rfl, rfl, by decide +kernel, rfl, by decide +kernel, by decide +kernel⟩
def d_least_begun : He.DefD := ⟨("least_begun", none), "least_begun", "least_begun", defArgs s_least_begun, defBody s_least_begun, defScope s_least_begun, [], []⟩
abbrev N_least_begun : List Str := ["threads", "at"]
theorem sc_least_begun : FnScope N_least_begun ["threads"] (defScope s_least_begun) := ⟨rfl, rfl, rfl, by decide +kernel, rfl, by decide +kernel, by decide +kernel⟩
-- comps least_begun: [[('at', 1)]]
def d_Row___init__ : He.DefD := ⟨("Row", some "__init__"), "__init__", "Row.__init__", defArgs s_Row___init__, defBody s_Row___init__, defScope s_Row___init__, [.str "run", .int 0], []⟩
abbrev N_Row___init__ : List Str := ["self", "stripes", "manner", "start", "threads", "lay", "word", "size", "spot"]
theorem sc_Row___init__ : FnScope N_Row___init__ ["self", "stripes", "manner", "start"] (defScope s_Row___init__) := ⟨rfl, rfl, rfl, by decide +kernel, rfl, by decide +kernel, by decide +kernel⟩
-- comps Row___init__: [[('spot', 8)]]
def d_Row___len__ : He.DefD := ⟨("Row", some "__len__"), "__len__", "Row.__len__", defArgs s_Row___len__, defBody s_Row___len__, defScope s_Row___len__, [], []⟩
abbrev N_Row___len__ : List Str := ["self"]
theorem sc_Row___len__ : FnScope N_Row___len__ ["self"] (defScope s_Row___len__) := ⟨rfl, rfl, rfl, by decide +kernel, rfl, by decide +kernel, by decide +kernel⟩
def d_Row___eq__ : He.DefD := ⟨("Row", some "__eq__"), "__eq__", "Row.__eq__", defArgs s_Row___eq__, defBody s_Row___eq__, defScope s_Row___eq__, [], []⟩
abbrev N_Row___eq__ : List Str := ["self", "other"]
theorem sc_Row___eq__ : FnScope N_Row___eq__ ["self", "other"] (defScope s_Row___eq__) := ⟨rfl, rfl, rfl, by decide +kernel, rfl, by decide +kernel, by decide +kernel⟩
def d_Row___str__ : He.DefD := ⟨("Row", some "__str__"), "__str__", "Row.__str__", defArgs s_Row___str__, defBody s_Row___str__, defScope s_Row___str__, [], []⟩
abbrev N_Row___str__ : List Str := ["self", "shade", "count"]
theorem sc_Row___str__ : FnScope N_Row___str__ ["self"] (defScope s_Row___str__) := ⟨rfl, rfl, rfl, by decide +kernel, rfl, by decide +kernel, by decide +kernel⟩
-- comps Row___str__: [[('shade', 1), ('count', 2)]]
def d_Row___repr__ : He.DefD := ⟨("Row", some "__repr__"), "__repr__", "Row.__repr__", defArgs s_Row___repr__, defBody s_Row___repr__, defScope s_Row___repr__, [], []⟩
abbrev N_Row___repr__ : List Str := ["self"]
theorem sc_Row___repr__ : FnScope N_Row___repr__ ["self"] (defScope s_Row___repr__) := ⟨rfl, rfl, rfl, by decide +kernel, rfl, by decide +kernel, by decide +kernel⟩
def d_Row_thread : He.DefD := ⟨("Row", some "thread"), "thread", "Row.thread", defArgs s_Row_thread, defBody s_Row_thread, defScope s_Row_thread, [], []⟩
abbrev N_Row_thread : List Str := ["self", "spot"]
theorem sc_Row_thread : FnScope N_Row_thread ["self", "spot"] (defScope s_Row_thread) := ⟨rfl, rfl, rfl, by decide +kernel, rfl, by decide +kernel, by decide +kernel⟩
def d_Row_at : He.DefD := ⟨("Row", some "at"), "at", "Row.at", defArgs s_Row_at, defBody s_Row_at, defScope s_Row_at, [], []⟩
abbrev N_Row_at : List Str := ["self", "spot"]
theorem sc_Row_at : FnScope N_Row_at ["self", "spot"] (defScope s_Row_at) := ⟨rfl, rfl, rfl, by decide +kernel, rfl, by decide +kernel, by decide +kernel⟩
def d_Row_threads : He.DefD := ⟨("Row", some "threads"), "threads", "Row.threads", defArgs s_Row_threads, defBody s_Row_threads, defScope s_Row_threads, [], []⟩
abbrev N_Row_threads : List Str := ["self"]
theorem sc_Row_threads : FnScope N_Row_threads ["self"] (defScope s_Row_threads) := ⟨rfl, rfl, rfl, by decide +kernel, rfl, by decide +kernel, by decide +kernel⟩
def d_Row_shades : He.DefD := ⟨("Row", some "shades"), "shades", "Row.shades", defArgs s_Row_shades, defBody s_Row_shades, defScope s_Row_shades, [], []⟩
abbrev N_Row_shades : List Str := ["self"]
theorem sc_Row_shades : FnScope N_Row_shades ["self"] (defScope s_Row_shades) := ⟨rfl, rfl, rfl, by decide +kernel, rfl, by decide +kernel, by decide +kernel⟩
def d_Row_moved : He.DefD := ⟨("Row", some "moved"), "moved", "Row.moved", defArgs s_Row_moved, defBody s_Row_moved, defScope s_Row_moved, [], []⟩
abbrev N_Row_moved : List Str := ["self", "by", "spot"]
theorem sc_Row_moved : FnScope N_Row_moved ["self", "by"] (defScope s_Row_moved) := ⟨rfl, rfl, rfl, by decide +kernel, rfl, by decide +kernel, by decide +kernel⟩
-- comps Row_moved: [[('spot', 2)]]
def d_Row_turned : He.DefD := ⟨("Row", some "turned"), "turned", "Row.turned", defArgs s_Row_turned, defBody s_Row_turned, defScope s_Row_turned, [], []⟩
abbrev N_Row_turned : List Str := ["self"]
theorem sc_Row_turned : FnScope N_Row_turned ["self"] (defScope s_Row_turned) := ⟨rfl, rfl, rfl, by decide +kernel, rfl, by decide +kernel, by decide +kernel⟩
def d_Row_alike : He.DefD := ⟨("Row", some "alike"), "alike", "Row.alike", defArgs s_Row_alike, defBody s_Row_alike, defScope s_Row_alike, [], []⟩
abbrev N_Row_alike : List Str := ["self", "other"]
theorem sc_Row_alike : FnScope N_Row_alike ["self", "other"] (defScope s_Row_alike) := ⟨rfl, rfl, rfl, by decide +kernel, rfl, by decide +kernel, by decide +kernel⟩
def d_row_of_threads : He.DefD := ⟨("row_of_threads", none), "row_of_threads", "row_of_threads", defArgs s_row_of_threads, defBody s_row_of_threads, defScope s_row_of_threads, [], []⟩
abbrev N_row_of_threads : List Str := ["threads", "size"]
theorem sc_row_of_threads : FnScope N_row_of_threads ["threads"] (defScope s_row_of_threads) := ⟨rfl, rfl, rfl, by decide +kernel, rfl, by decide +kernel, by decide +kernel⟩
def d_show_row : He.DefD := ⟨("show_row", none), "show_row", "show_row", defArgs s_show_row, defBody s_show_row, defScope s_show_row, [], []⟩
abbrev N_show_row : List Str := ["row"]
theorem sc_show_row : FnScope N_show_row ["row"] (defScope s_show_row) := ⟨rfl, rfl, rfl, by decide +kernel, rfl, by decide +kernel, by decide +kernel⟩
def d__law_pool : He.DefD := ⟨("_law_pool", none), "_law_pool", "_law_pool", defArgs s__law_pool, defBody s__law_pool, defScope s__law_pool, [], []⟩
abbrev N__law_pool : List Str := ["_law_script", "_law_k", "_law_cell", "_law_more", "_law_found", "_law_turn"]
theorem sc__law_pool : FnScope N__law_pool ["_law_script", "_law_k"] (defScope s__law_pool) := ⟨rfl, rfl, rfl, by decide +kernel, rfl, by decide +kernel, by decide +kernel⟩
def d__law_take : He.DefD := ⟨("_law_take", none), "_law_take", "_law_take", defArgs s__law_take, defBody s__law_take, defScope s__law_take, [], []⟩
abbrev N__law_take : List Str := ["_law_pool_here", "_law_many", "_law_digit"]
theorem sc__law_take : FnScope N__law_take ["_law_pool_here", "_law_many"] (defScope s__law_take) := ⟨rfl, rfl, rfl, by decide +kernel, rfl, by decide +kernel, by decide +kernel⟩
def d__law_some_shades : He.DefD := ⟨("_law_some_shades", none), "_law_some_shades", "_law_some_shades", defArgs s__law_some_shades, defBody s__law_some_shades, defScope s__law_some_shades, [], []⟩
abbrev N__law_some_shades : List Str := ["_law_pool_here", "_law_many", "_law_words", "_law_found", "_law_turn", "_law_size", "_law_word_here", "_law_place", "_law_letters", "_law_some", "_law_letter", "_law_one"]
theorem sc__law_some_shades : FnScope N__law_some_shades ["_law_pool_here", "_law_many"] (defScope s__law_some_shades) := ⟨rfl, rfl, rfl, by decide +kernel, rfl, by decide +kernel, by decide +kernel⟩
-- comps _law_some_shades: [[('_law_letter', 10)], [('_law_letter', 10)], [('_law_one', 11)]]
def d__law_drawn_stripes : He.DefD := ⟨("_law_drawn_stripes", none), "_law_drawn_stripes", "_law_drawn_stripes", defArgs s__law_drawn_stripes, defBody s__law_drawn_stripes, defScope s__law_drawn_stripes, [], []⟩
abbrev N__law_drawn_stripes : List Str := ["_law_pool_here", "_law_shades", "_law_most", "_law_wide", "_law_found", "_law_turn"]
theorem sc__law_drawn_stripes : FnScope N__law_drawn_stripes ["_law_pool_here", "_law_shades", "_law_most", "_law_wide"] (defScope s__law_drawn_stripes) := ⟨rfl, rfl, rfl, by decide +kernel, rfl, by decide +kernel, by decide +kernel⟩
def d__law_threads : He.DefD := ⟨("_law_threads", none), "_law_threads", "_law_threads", defArgs s__law_threads, defBody s__law_threads, defScope s__law_threads, [], []⟩
abbrev N__law_threads : List Str := ["_law_stripes", "_law_found", "_law_shade", "_law_count"]
theorem sc__law_threads : FnScope N__law_threads ["_law_stripes"] (defScope s__law_threads) := ⟨rfl, rfl, rfl, by decide +kernel, rfl, by decide +kernel, by decide +kernel⟩
def d__law_word : He.DefD := ⟨("_law_word", none), "_law_word", "_law_word", defArgs s__law_word, defBody s__law_word, defScope s__law_word, [], []⟩
abbrev N__law_word : List Str := ["_law_words", "_law_tack"]
theorem sc__law_word : FnScope N__law_word ["_law_words", "_law_tack"] (defScope s__law_word) := ⟨rfl, rfl, rfl, by decide +kernel, rfl, by decide +kernel, by decide +kernel⟩
def d__law_least_round : He.DefD := ⟨("_law_least_round", none), "_law_least_round", "_law_least_round", defArgs s__law_least_round, defBody s__law_least_round, defScope s__law_least_round, [], []⟩
abbrev N__law_least_round : List Str := ["_law_words", "_law_size"]
theorem sc__law_least_round : FnScope N__law_least_round ["_law_words"] (defScope s__law_least_round) := ⟨rfl, rfl, rfl, by decide +kernel, rfl, by decide +kernel, by decide +kernel⟩
def d__law_due : He.DefD := ⟨("_law_due", none), "_law_due", "_law_due", defArgs s__law_due, defBody s__law_due, defScope s__law_due, [], []⟩
abbrev N__law_due : List Str := ["_law_stripes", "_law_tack", "_law_begun", "_law_words", "_law_size", "_law_spot"]
theorem sc__law_due : FnScope N__law_due ["_law_stripes", "_law_tack", "_law_begun"] (defScope s__law_due) := ⟨rfl, rfl, rfl, by decide +kernel, rfl, by decide +kernel, by decide +kernel⟩
-- comps _law_due: [[('_law_spot', 5)]]
def d__law_merged : He.DefD := ⟨("_law_merged", none), "_law_merged", "_law_merged", defArgs s__law_merged, defBody s__law_merged, defScope s__law_merged, [], []⟩
abbrev N__law_merged : List Str := ["_law_words", "_law_found", "_law_shade"]
theorem sc__law_merged : FnScope N__law_merged ["_law_words"] (defScope s__law_merged) := ⟨rfl, rfl, rfl, by decide +kernel, rfl, by decide +kernel, by decide +kernel⟩
def d__law_split : He.DefD := ⟨("_law_split", none), "_law_split", "_law_split", defArgs s__law_split, defBody s__law_split, defScope s__law_split, [], []⟩
abbrev N__law_split : List Str := ["_law_pool_here", "_law_parts", "_law_found", "_law_shade", "_law_count", "_law_less", "_law_one"]
theorem sc__law_split : FnScope N__law_split ["_law_pool_here", "_law_parts"] (defScope s__law_split) := ⟨rfl, rfl, rfl, by decide +kernel, rfl, by decide +kernel, by decide +kernel⟩
-- comps _law_split: [[('_law_one', 6)]]
def d__law_from_the_end : He.DefD := ⟨("_law_from_the_end", none), "_law_from_the_end", "_law_from_the_end", defArgs s__law_from_the_end, defBody s__law_from_the_end, defScope s__law_from_the_end, [], []⟩
abbrev N__law_from_the_end : List Str := ["_law_words", "_law_tack", "_law_begun", "_law_size"]
theorem sc__law_from_the_end : FnScope N__law_from_the_end ["_law_words", "_law_tack", "_law_begun"] (defScope s__law_from_the_end) := ⟨rfl, rfl, rfl, by decide +kernel, rfl, by decide +kernel, by decide +kernel⟩
def d__law_tellings : He.DefD := ⟨("_law_tellings", none), "_law_tellings", "_law_tellings", defArgs s__law_tellings, defBody s__law_tellings, defScope s__law_tellings, [], []⟩
abbrev N__law_tellings : List Str := ["_law_pool_here", "_law_words", "_law_tack", "_law_begun", "_law_due_here", "_law_found", "_law_at", "_law_end", "_law_shade"]
theorem sc__law_tellings : FnScope N__law_tellings ["_law_pool_here", "_law_words", "_law_tack", "_law_begun", "_law_due_here"] (defScope s__law_tellings) := ⟨rfl, rfl, rfl, by decide +kernel, rfl, by decide +kernel, by decide +kernel⟩
-- comps _law_tellings: [[('_law_shade', 8)]]
def d__law_alike : He.DefD := ⟨("_law_alike", none), "_law_alike", "_law_alike", defArgs s__law_alike, defBody s__law_alike, defScope s__law_alike, [], []⟩
abbrev N__law_alike : List Str := ["_law_one", "_law_other"]
theorem sc__law_alike : FnScope N__law_alike ["_law_one", "_law_other"] (defScope s__law_alike) := ⟨rfl, rfl, rfl, by decide +kernel, rfl, by decide +kernel, by decide +kernel⟩
def d__law_moved_right : He.DefD := ⟨("_law_moved_right", none), "_law_moved_right", "_law_moved_right", defArgs s__law_moved_right, defBody s__law_moved_right, defScope s__law_moved_right, [], []⟩
abbrev N__law_moved_right : List Str := ["_law_row", "_law_by", "_law_moved"]
theorem sc__law_moved_right : FnScope N__law_moved_right ["_law_row", "_law_by"] (defScope s__law_moved_right) := ⟨rfl, rfl, rfl, by decide +kernel, rfl, by decide +kernel, by decide +kernel⟩
def d__law_unlike : He.DefD := ⟨("_law_unlike", none), "_law_unlike", "_law_unlike", defArgs s__law_unlike, defBody s__law_unlike, defScope s__law_unlike, [], []⟩
abbrev N__law_unlike : List Str := ["_law_one", "_law_other"]
theorem sc__law_unlike : FnScope N__law_unlike ["_law_one", "_law_other"] (defScope s__law_unlike) := ⟨rfl, rfl, rfl, by decide +kernel, rfl, by decide +kernel, by decide +kernel⟩
def d__law_others : He.DefD := ⟨("_law_others", none), "_law_others", "_law_others", defArgs s__law_others, defBody s__law_others, defScope s__law_others, [], []⟩
abbrev N__law_others : List Str := ["_law_due_here", "_law_shade", "_law_found", "_law_one", "_law_at"]
theorem sc__law_others : FnScope N__law_others ["_law_due_here"] (defScope s__law_others) := ⟨rfl, rfl, rfl, by decide +kernel, rfl, by decide +kernel, by decide +kernel⟩
-- comps _law_others: [[('_law_one', 3)], [('_law_at', 4)]]
def d_law : He.DefD := ⟨("law", none), "law", "law", defArgs s_law, defBody s_law, defScope s_law, [], []⟩
abbrev N_law : List Str := ["_law_script", "_law_k", "_law_pool_here", "_law_shades", "_law_parts", "_law_tack", "_law_begun", "_law_words", "_law_due_here", "_law_row", "_law_moves", "_law_thing", "_law_other", "_law_by"]
theorem sc_law : FnScope N_law ["_law_script"] (defScope s_law) := ⟨rfl, rfl, rfl, by decide +kernel, rfl, by decide +kernel, by decide +kernel⟩
-- comps law: [[('_law_other', 12)], [('_law_by', 13)], [('_law_other', 12)]]
end Hd

set_option Elab.async false
set_option linter.all false
set_option maxRecDepth 100000
set_option maxHeartbeats 1000000
/-! what the head looks at, beyond the kit's facts: plain tests, laid ahead of all rules (the run needs much memory) -/
namespace PL
open PySem PySem.Spec PyProof.Rows L2
abbrev mKey : List Value := [.type "KeyError", .type "LookupError", .type "Exception", .type "BaseException", .type "object"]
def tyNs : List String := ["NoneType", "bool", "int", "str", "tuple", "list", "dict"]
def eqB (a b : Option Bool) : Bool := decide (a = b)
def insB (K : PySem.W.Frag) (x : Str) : Bool :=
  He.eqO (PySem.W.findIn K (.ref (He.ga K x)) "__class__") (some (some (.builtin "object.__class__"))) &&
  (He.eqO (PySem.W.specialIn K (.builtin "object.__class__") "__get__") (some (some (.builtin "getset_descriptor.__get__"))) &&
  (eqB (PySem.W.takesIn K (.builtin "object.__class__")) (some true) &&
  (eqB (PySem.W.mroIn K (He.ga K x) (.type "object")) (some true) &&
  (eqB (PySem.W.kitOne K (.ref (He.ga K x)) (.ref (He.ga K x))) (some true) &&
  tyNs.all fun t => eqB (PySem.W.kitOne K (.type t) (.ref (He.ga K x))) (some false)))))
def nfB (K : PySem.W.Frag) (x : Str) : Bool := He.eqO (PySem.W.findIn K (.ref (He.ga K x)) "__ne__") (some (some (.builtin "object.__ne__"))) && tyNs.all fun t => PySem.W.notFirst K (He.ga K x) (.type t)
def othB (K : PySem.W.Frag) (p : Str × Str) : Bool := eqB (PySem.W.kitOne K (.ref (He.ga K p.1)) (.ref (He.ga K p.2))) (some false)
def knds : List Str := ["NoStripes", "NoThreads", "NoManner", "TooLong", "NoText", "NoNumber", "NoBox", "TooMany", "NoUndo", "NoOrder", "NoSpot", "NoCut", "NoShade", "NoName", "NoStep", "NoWay", "NoWeave"]
def fams : List Str := ["StripeError", "SpotError", "ShadeError", "StepError", "WayError"]
def owns : List String := ["ValueError", "IndexError", "KeyError", "ZeroDivisionError"]
def fm (i : Nat) : Nat := ([0, 0, 0, 0, 0, 0, 0, 0, 0, 0, 1, 1, 2, 2, 3, 4, 4] : List Nat).getD i 0
def lkp (i : Nat) : Bool := fm i == 1 || (fm i == 2 || fm i == 4)
abbrev knd (i : Nat) : Str := knds.getD i ""
abbrev fam (i : Nat) : Str := fams.getD i ""
abbrev ownT (i : Nat) : String := owns.getD i ""
abbrev kA (K : PySem.W.Frag) (i : Nat) : Addr := He.ga K (knd i)
def excCB (K : PySem.W.Frag) (x : Str) : Bool :=
  He.eqO (PySem.W.findIn K (.ref (He.ga K x)) "__getattribute__") (some (some (.builtin "BaseException.__getattribute__"))) &&
  (He.eqO (PySem.W.findIn K (.ref (He.ga K x)) "__getattr__") (some none) &&
  (eqB (PySem.W.subIn K (.ref (He.ga K x)) (.type "BaseException")) (some true) &&
  (PySem.W.hasDictIn K (He.ga K x) &&
  (He.eqO (PySem.W.findIn K (.ref (He.ga K x)) "__class__") (some (some (.builtin "object.__class__"))) &&
  (He.eqO (PySem.W.specialIn K (.builtin "object.__class__") "__get__") (some (some (.builtin "getset_descriptor.__get__"))) &&
  (eqB (PySem.W.takesIn K (.builtin "object.__class__")) (some true) &&
  eqB (PySem.W.mroIn K (He.ga K x) (.type "object")) (some true)))))))
def kitA (K : PySem.W.Frag) (a : Addr) (v : Value) (b : Bool) : Bool := eqB (PySem.W.kitOne K (.ref a) v) (some b)
def srtB (K : PySem.W.Frag) (i : Nat) : Bool :=
  excCB K (knd i) &&
  ((List.range 17).all (fun j => kitA K (kA K i) (.ref (kA K j)) (j == i)) &&
  ((List.range 5).all (fun j => kitA K (kA K i) (.ref (He.ga K (fam j))) (j == fm i)) &&
  ((List.range 4).all (fun j => kitA K (kA K i) (.type (ownT j)) (j == fm i)) &&
  (kitA K (kA K i) (.type "LookupError") (lkp i) &&
  (eqB (PySem.W.exmOne K (.ref (kA K i)) (.ref (He.ga K (fam (fm i))))) (some true) &&
  (List.range 5).all (fun j => eqB (PySem.W.exmOne K (.ref (kA K i)) (.ref (He.ga K (fam j)))) (some (j == fm i))))))))
def bmV : List Value := [.type "ValueError", .type "Exception", .type "BaseException", .type "object"]
def xcVB (K : PySem.W.Frag) (x : Str) : Bool :=
  PySem.W.excIn K (He.ga K x) bmV "ValueError.__new__" && (PySem.W.keepIn K (.ref (He.ga K x)) && (eqB (PySem.W.subIn K (.ref (He.ga K x)) (.type "BaseException")) (some true) && He.eqO (some (PySem.W.typeIn K (.ref (He.ga K x)))) (some (some (.type "type")))))
/-- the base of a family: whose __new__, its __init__, its mro -/
def fmBm : Nat → List Value
  | 0 => bmV
  | 1 => [.type "IndexError", .type "LookupError", .type "Exception", .type "BaseException", .type "object"]
  | 2 => mKey
  | 3 => [.type "ZeroDivisionError", .type "ArithmeticError", .type "Exception", .type "BaseException", .type "object"]
  | _ => [.type "LookupError", .type "Exception", .type "BaseException", .type "object"]
def fmNew : Nat → String
  | 0 => "ValueError.__new__" | 1 => "IndexError.__new__" | 2 => "LookupError.__new__" | 3 => "ZeroDivisionError.__new__" | _ => "LookupError.__new__"
def fmIni : Nat → String
  | 0 => "ValueError.__init__" | 1 => "IndexError.__init__" | 2 => "KeyError.__init__" | 3 => "ZeroDivisionError.__init__" | _ => "LookupError.__init__"
def cfB (a : Option PySem.W.CFound) (i : String) : Bool := match a with
  | some (.val v) => decide (v = .builtin i)
  | _ => false
/-- the fields of each kind -/
def flds : Nat → List Str
  | 0 => ["number"] | 3 => ["long"] | 4 => ["line", "word"] | 10 => ["spot"] | 11 => ["first", "last"] | 12 => ["shade"] | 13 => ["name"] | 14 => ["step"] | 15 => ["way"] | 16 => ["weave"] | _ => []
def oxiB (K : PySem.W.Frag) (i : Nat) : Bool :=
  PySem.W.excInitIn K (kA K i) (fmBm (fm i)) (fmNew (fm i)) && (PySem.W.excOver K (kA K i) (fmBm (fm i)) && (cfB (PySem.W.findCls K (.ref (He.ga K (fam (fm i)))) (.type "type") "__init__") (fmIni (fm i)) &&
  (He.eqO (PySem.W.findIn K (.ref (kA K i)) "__setattr__") (some (some (.builtin "object.__setattr__"))) && (PySem.W.hasDictIn K (kA K i) && (eqB (PySem.W.subIn K (.ref (kA K i)) (.type "BaseException")) (some true) &&
  (He.eqO (some (PySem.W.typeIn K (.ref (kA K i)))) (some (some (.type "type"))) && (PySem.W.keepIn K (.ref (kA K i)) && (He.eqO (PySem.W.specialIn K (.ref (He.ga K (fam (fm i)))) "__getattribute__") (some (some (.builtin "type.__getattribute__"))) &&
  (He.eqO (some (PySem.W.typeIn K (.ref (He.ga K (fam (fm i)))))) (some (some (.type "type"))) && (PySem.W.readsIn K (He.ga K (fam (fm i))) (.type "type") && (flds i).all fun f => He.eqO (PySem.W.findIn K (.ref (kA K i)) f) (some none)))))))))))
/-! tables of the module -/
def wvP : List (Str × Str) := [("plain", "plain_up"), ("twill", "twill_up"), ("basket", "basket_up")]
def wyP : List (Str × List Bool) := [("stay", [false, false, false]), ("mirror", [false, true, false]), ("flip", [false, false, true]), ("half", [false, true, true]), ("swap", [true, false, false]), ("right", [true, true, false]), ("left", [true, false, true]), ("cross", [true, true, true])]
def fmP : List (Str × Str) := [("take", "w"), ("undo", ""), ("turn", "ww"), ("move", "wwn"), ("each", "wwn"), ("lay", "wwww"), ("turns", "www"), ("names", ""), ("show", "w"), ("text", "w"), ("long", "w"), ("at", "wn"), ("many", "wwnn"), ("mirror", "w"), ("same", "ww"), ("between", "ww"), ("unlike", "ww"), ("dyes", "ww")]
def ddP : List (Str × Str) := [("put", "put_row"), ("take", "take_row"), ("undo", "undo_deed"), ("turn", "turn_row"), ("move", "move_row"), ("each", "each_thread"), ("lay", "lay_rows"), ("turns", "turn_by_turn"), ("names", "all_names"), ("show", "shown_row"), ("text", "text_of_row"), ("long", "round_of_row"), ("at", "thread_of_row"), ("many", "many_threads"), ("mirror", "mirror_of_row"), ("same", "same_rows"), ("between", "between_rows"), ("unlike", "unlike_rows"), ("dyes", "dyes_of_rows")]
def tupAtB (K : PySem.W.Frag) (a : Addr) (vs : List L2.V) : Bool := match K.lookup a with
  | some ⟨.type c, _, .seq its _, _⟩ => decide (c = "tuple") && (decide (its.size ≤ sizeLine) && He.relAll vs its.toList)
  | _ => false
def blsB (K : PySem.W.Frag) (d : Addr) (ws : List (Str × List Bool)) : Bool := ws.all fun q => match PySem.W.nsIn K d q.1 with
  | some (some (.ref a)) => tupAtB K a (q.2.map L2.V.bl)
  | _ => false
end PL

set_option Elab.async false
set_option linter.all false
set_option maxRecDepth 100000
set_option maxHeartbeats 1000000
namespace PL
open PySem PySem.Spec PyProof.Rows L2
/-! ### the head's run, in two halves (memory) -/
open HandSHeadRun PySem.W PySem.Calls in
def Run1 (r : OpenRow) (q : Program) (M : Nat) (loose : List PySem.Str) (w : World) : Prop :=
  ∀ os : OsState, (endF (stepQ (denQ tabQ) r.prog w) M r.prog w os).map (fun s => (looksF r.prog (boot_heap w.params) s.abs, seenQ q loose (importedModules r.prog.main.body) (fun s => xlAt q [] s && recOk r.toRowW.records s) s.abs)) = some (true, openGood q loose)
open HandSHeadRun PySem.W PySem.Calls in
def Run2 (r : OpenRow) (H : Hook) (ob : SharedT → H.α) (M : Nat) (w : World) : Prop :=
  ∀ os : OsState, (endF (stepQ (denQ tabQ) r.prog w) M r.prog w os).map ob = some (H.val w)
open HandSHeadRun PySem.W PySem.Calls in
theorem run_split {r : OpenRow} {q : Program} {H : Hook} {ob : SharedT → H.α} {M : Nat} {loose : List PySem.Str} {w : World} (h1 : Run1 r q M loose w) (h2 : Run2 r H ob M w) : RunEq r q H ob M loose w := fun os => by
  have a := h1 os
  have b := h2 os
  revert a b
  cases endF (stepQ (denQ tabQ) r.prog w) M r.prog w os with
  | none => intro a; cases a
  | some s =>
    intro a b
    have a1 := Option.some.inj a
    have b1 := Option.some.inj b
    have a2 := congrArg Prod.fst a1
    have a3 := congrArg Prod.snd a1
    exact congrArg some (Prod.ext a2 (Prod.ext a3 b1))
open HandSHeadRun PySem.W PySem.Calls in
/-- the same run, looked at by f alone -/
def RunV {α : Type} (r : OpenRow) (f : SharedT → α) (v : α) (M : Nat) (w : World) : Prop :=
  ∀ os : OsState, (endF (stepQ (denQ tabQ) r.prog w) M r.prog w os).map f = some v
open HandSHeadRun PySem.W PySem.Calls in
/-- the observed things in two halves (memory) -/
theorem run2_split {r : OpenRow} {ob : SharedT → He.AlT × Bool} {M : Nat} {w w1 : World} {fa : List He.Fa} {fn : List He.DefD} {tabs : List He.Tab} {κ : SharedT → PySem.W.Frag} {g : SharedT → Bool} (n : Nat) (hob : ∀ s, ob s = (He.obsT fa fn tabs (κ s), g s))
    (hA : RunV r (fun s => (fa.all (fun f => f.ok (κ s)), (fn.take n).all (fun d => d.ok (κ s)), (fn.take n).map fun d => He.fnW (κ s) d.at_)) (true, true, (fn.take n).map He.DefD.val) M w)
    (hB : RunV r (fun s => ((fn.drop n).all (fun d => d.ok (κ s)), (fn.drop n).map (fun d => He.fnW (κ s) d.at_), tabs.map (fun t => He.dicW (κ s) (t.1 (κ s))), g s)) (true, (fn.drop n).map He.DefD.val, tabs.map (fun t => some (He.keysIn w1.params t.2)), true) M w) : RunV r ob (He.valT fn tabs w1, true) M w := fun os => by
  have a := hA os
  have b := hB os
  revert a b
  cases endF (stepQ (denQ tabQ) r.prog w) M r.prog w os with
  | none => intro a; cases a
  | some s =>
    intro a b
    have a1 := Option.some.inj a
    have b1 := Option.some.inj b
    have x1 := congrArg Prod.fst a1
    have x2 := congrArg (fun z => z.2.1) a1
    have x3 := congrArg (fun z => z.2.2) a1
    have y1 := congrArg Prod.fst b1
    have y2 := congrArg (fun z => z.2.1) b1
    have y3 := congrArg (fun z => z.2.2.1) b1
    have y4 := congrArg (fun z => z.2.2.2) b1
    have f1 : fn.all (fun d => d.ok (κ s)) = true := calc
      fn.all (fun d => d.ok (κ s)) = (fn.take n ++ fn.drop n).all (fun d => d.ok (κ s)) := by rw [List.take_append_drop]
      _ = true := by rw [List.all_append, show (fn.take n).all (fun d => d.ok (κ s)) = true from x2, show (fn.drop n).all (fun d => d.ok (κ s)) = true from y1]; rfl
    have f2 : fn.map (fun d => He.fnW (κ s) d.at_) = fn.map He.DefD.val := calc
      fn.map (fun d => He.fnW (κ s) d.at_) = (fn.take n ++ fn.drop n).map (fun d => He.fnW (κ s) d.at_) := by rw [List.take_append_drop]
      _ = (fn.take n ++ fn.drop n).map He.DefD.val := by rw [List.map_append, List.map_append, show (fn.take n).map (fun d => He.fnW (κ s) d.at_) = (fn.take n).map He.DefD.val from x3, show (fn.drop n).map (fun d => He.fnW (κ s) d.at_) = (fn.drop n).map He.DefD.val from y2]
      _ = fn.map He.DefD.val := by rw [List.take_append_drop]
    show some (ob s) = some (He.valT fn tabs w1, true)
    rw [hob s]
    unfold He.obsT He.obsD He.valT He.valD
    rw [show fa.all (fun f => f.ok (κ s)) = true from x1, f1, f2, show tabs.map (fun t => He.dicW (κ s) (t.1 (κ s))) = tabs.map (fun t => some (He.keysIn w1.params t.2)) from y3, show g s = true from y4]
    rfl
end PL

set_option linter.all false
namespace PL
open PySem L2
def fmB (K : PySem.W.Frag) (x : Str) : Bool := He.eqO (PySem.W.findIn K (.ref (He.ga K x)) "__format__") (some (some (.builtin "object.__format__"))) && eqB (PySem.W.mroIn K (He.ga K x) (.type "object")) (some true)
def rfB (K : PySem.W.Frag) (x : Str) : Bool := He.eqO (PySem.W.findIn K (.ref (He.ga K x)) "__bool__") (some none) && tyNs.all fun t => eqB (PySem.W.subIn K (.ref (He.ga K x)) (.type t)) (some false)
def tpB (K : PySem.W.Frag) (q : Str × List Str) : Bool := tupAtB K (He.ga K q.1) (q.2.map L2.V.str)
end PL

set_option Elab.async false
set_option linter.all false
set_option maxRecDepth 100000
set_option maxHeartbeats 0
namespace Hd
open PySem PySem.Spec PyProof.Rows L2 PL
def fn : List He.DefD := [d__wall, d_is_whole, d_is_between, d_is_word, d_is_shade, d_is_stripe, d_check_stripes, d_threads_of, d_merged, d_words_of, d_run_word, d_pivot_word, d_fold_word, d_left_word, d_right_word, d_is_manner, d_check_spot, d_least_round, d_least_begun, d_Row___init__, d_Row___len__, d_Row___eq__, d_Row___str__, d_Row___repr__, d_Row_thread, d_Row_at, d_Row_threads, d_Row_shades, d_Row_moved, d_Row_turned, d_Row_alike, d_row_of_threads, d_show_row, d__law_pool, d__law_take, d__law_some_shades, d__law_drawn_stripes, d__law_threads, d__law_word, d__law_least_round, d__law_due, d__law_merged, d__law_split, d__law_from_the_end, d__law_tellings, d__law_alike, d__law_moved_right, d__law_unlike, d__law_others, d_law]
def fa0 : List He.Fa := [.glo "NoManner", .glo "NoSpot", .glo "NoStripes", .glo "Row", .glo "SpotError", .glo "StripeError", .glo "TooLong", .glo "_law_alike", .glo "_law_drawn_stripes", .glo "_law_due", .glo "_law_from_the_end", .glo "_law_least_round", .glo "_law_merged", .glo "_law_moved_right", .glo "_law_others", .glo "_law_pool", .glo "_law_some_shades", .glo "_law_split", .glo "_law_take", .glo "_law_tellings", .glo "_law_threads", .glo "_law_unlike", .glo "_law_word", .glo "_wall", .glo "check_spot", .glo "check_stripes", .glo "fold_word", .glo "is_between", .glo "is_manner", .glo "is_shade"]
def fa1 : List He.Fa := [.glo "is_stripe", .glo "is_whole", .glo "is_word", .glo "law", .glo "least_begun", .glo "least_round", .glo "left_word", .glo "merged", .glo "pivot_word", .glo "right_word", .glo "row_of_threads", .glo "run_word", .glo "show_row", .glo "threads_of", .glo "words_of", .int "BIG" 1000000000000000000000000000000, .int "MOST" 240, .str "LETTERS" "abcdefghijklmnopqrstuvwxyz", .cls "Row", .noat "Row" "kept", .meth "Row" "__init__", .meth "Row" "__len__", .meth "Row" "__eq__", .meth "Row" "__str__", .meth "Row" "__repr__", .meth "Row" "thread", .meth "Row" "at", .meth "Row" "threads", .meth "Row" "shades", .meth "Row" "moved"]
def fa2 : List He.Fa := [.meth "Row" "turned", .meth "Row" "alike", .mkr "Row", .glo "MANNERS"]
def bltN : List PySem.Str := ["isinstance", "int", "bool", "str", "tuple", "list", "dict", "set", "len", "range", "enumerate", "zip", "sum", "all", "any", "abs", "max", "min", "divmod", "sorted", "reversed", "type", "repr", "ValueError", "IndexError", "KeyError", "LookupError", "ZeroDivisionError", "Exception"]
def fa : List He.Fa := (fa0 ++ fa1 ++ fa2) ++ bltN.map He.Fa.free
def loose0 : List PySem.Str := ["BIG", "LETTERS", "MANNERS", "MOST", "NoManner", "NoSpot", "NoStripes", "Row", "SpotError", "StripeError", "TooLong", "_law_alike", "_law_drawn_stripes", "_law_due", "_law_from_the_end", "_law_least_round", "_law_merged", "_law_moved_right", "_law_others", "_law_pool", "_law_some_shades", "_law_split", "_law_take", "_law_tellings", "_law_threads", "_law_unlike", "_law_word", "_wall", "check_spot", "check_stripes"]
def loose1 : List PySem.Str := ["fold_word", "is_between", "is_manner", "is_shade", "is_stripe", "is_whole", "is_word", "least_begun", "least_round", "left_word", "merged", "pivot_word", "right_word", "row_of_threads", "run_word", "show_row", "threads_of", "words_of"]
def loose : List PySem.Str := loose0 ++ loose1
abbrev R : PySem.W.OpenRow := PySem.W.OpenLaw.row PySem.Challenge.rw_stripelay_k06_whole_one_row_by_all_its_t
def lawI : Nat := 53
def tabs : List He.Tab := [(fun K => He.ga K "MANNERS", ["run", "pivot", "fold", "left", "right"])]
def kvs : List (Str × He.Dv) := [("run", .glo "run_word"), ("pivot", .glo "pivot_word"), ("fold", .glo "fold_word"), ("left", .glo "left_word"), ("right", .glo "right_word")]
def icl : List Str := ["Row"]
def nfl : List Str := ["Row"]
def iot : List (Str × Str) := []
def rfm : List Str := []
def rtp : List (Str × List Str) := []
def rrf : List Str := ["Row"]
def obsM (K : PySem.W.Frag) : He.AlT × Bool := (He.obsT fa fn tabs K, (He.valsB K (He.ga K "MANNERS") kvs && (icl.all (PL.insB K) && (iot.all (PL.othB K) && nfl.all (PL.nfB K)))) && (rfm.all (PL.fmB K) && (rtp.all (PL.tpB K) && rrf.all (PL.rfB K))))
def hk : PySem.W.Hook where
  α := He.AlT × Bool
  obs := fun s => obsM (He.frG s.heap.get? (He.asD s.heap.get? 5 ++ [PySem.cStatics]))
  val := fun w => (He.valT fn tabs w, true)
  says := fun w h => ∃ K : PySem.W.Frag, K.In h ∧ obsM K = (He.valT fn tabs w, true)
  of := fun _ _ e => ⟨_, He.frG_in, e⟩
  keeps := fun _ _ _ ⟨K, hK, c⟩ k => ⟨K, PySem.W.Frag.In.keeps hK k, c⟩
def ob (s : PySem.W.SharedT) : He.AlT × Bool := obsM (He.frG (HandSHeadRun.getT s) (He.asD (HandSHeadRun.getT s) 5 ++ [PySem.cStatics]))
theorem ob_eq (s : PySem.W.SharedT) : ob s = hk.obs s.abs := by
  have e : HandSHeadRun.getT s = s.abs.heap.get? := funext (HandSHeadRun.getT_eq s)
  show obsM (He.frG (HandSHeadRun.getT s) (He.asD (HandSHeadRun.getT s) 5 ++ [PySem.cStatics])) = obsM (He.frG s.abs.heap.get? (He.asD s.abs.heap.get? 5 ++ [PySem.cStatics]))
  rw [e]
theorem runF1 (w : World) : PL.Run1 R (PySem.W.view R.prog [53]) 30000 loose (w.withFollow "special-get-raises" false) := by
  intro os
  kernel_rfl
def kap (s : PySem.W.SharedT) : PySem.W.Frag := He.frG (HandSHeadRun.getT s) (He.asD (HandSHeadRun.getT s) 5 ++ [PySem.cStatics])
theorem runF2a (w : World) : PL.RunV R (fun s => (fa.all (fun f => f.ok (kap s)), (fn.take 25).all (fun d => d.ok (kap s)), (fn.take 25).map fun d => He.fnW (kap s) d.at_)) (true, true, (fn.take 25).map He.DefD.val) 30000 (w.withFollow "special-get-raises" false) := by
  intro os
  kernel_rfl
theorem runF2b (w : World) : PL.RunV R (fun s => ((fn.drop 25).all (fun d => d.ok (kap s)), (fn.drop 25).map (fun d => He.fnW (kap s) d.at_), tabs.map (fun t => He.dicW (kap s) (t.1 (kap s))), (obsM (kap s)).2)) (true, (fn.drop 25).map He.DefD.val, tabs.map (fun t => some (He.keysIn (w.withFollow "special-get-raises" false).params t.2)), true) 30000 (w.withFollow "special-get-raises" false) := by
  intro os
  kernel_rfl
theorem runF2 (w : World) : PL.Run2 R hk ob 30000 (w.withFollow "special-get-raises" false) := fun os => (PL.run2_split (κ := kap) (g := fun s => (obsM (kap s)).2) 25 (fun _ => rfl) (runF2a w) (runF2b w)) os
theorem runT1 (w : World) : PL.Run1 R (PySem.W.view R.prog [53]) 30000 loose (w.withFollow "special-get-raises" true) := by
  intro os
  kernel_rfl
theorem runT2a (w : World) : PL.RunV R (fun s => (fa.all (fun f => f.ok (kap s)), (fn.take 25).all (fun d => d.ok (kap s)), (fn.take 25).map fun d => He.fnW (kap s) d.at_)) (true, true, (fn.take 25).map He.DefD.val) 30000 (w.withFollow "special-get-raises" true) := by
  intro os
  kernel_rfl
theorem runT2b (w : World) : PL.RunV R (fun s => ((fn.drop 25).all (fun d => d.ok (kap s)), (fn.drop 25).map (fun d => He.fnW (kap s) d.at_), tabs.map (fun t => He.dicW (kap s) (t.1 (kap s))), (obsM (kap s)).2)) (true, (fn.drop 25).map He.DefD.val, tabs.map (fun t => some (He.keysIn (w.withFollow "special-get-raises" true).params t.2)), true) 30000 (w.withFollow "special-get-raises" true) := by
  intro os
  kernel_rfl
theorem runT2 (w : World) : PL.Run2 R hk ob 30000 (w.withFollow "special-get-raises" true) := fun os => (PL.run2_split (κ := kap) (g := fun s => (obsM (kap s)).2) 25 (fun _ => rfl) (runT2a w) (runT2b w)) os
theorem run (w : World) : HandSHeadRun.RunEq R (PySem.W.view R.prog [53]) hk ob 30000 loose w := PySem.W.byRow2 "special-get-raises" (P := fun w => HandSHeadRun.RunEq R (PySem.W.view R.prog [53]) hk ob 30000 loose w) (fun w => PL.run_split (runF1 w) (runF2 w)) (fun w => PL.run_split (runT1 w) (runT2 w)) w
theorem he_mem {K : PySem.W.Frag} {f : He.Fa} (c : He.SaysD fa fn K) (h : f ∈ fa) : f.ok K = true := List.all_eq_true.mp (He.ba (show ((fa.all fun f => f.ok K) && fn.all fun d => d.ok K) = true from congrArg (fun z : He.AlD => z.1) c)).1 f h
end Hd

set_option Elab.async false
set_option linter.all false
set_option maxRecDepth 100000
set_option maxHeartbeats 1000000
/-! PL: a layer of heap-free rules over HandS: data D, what a value stands for (Rep), the state of a def's slots (Gm), judgements EX, TX, AX, SX. -/
namespace PL
open PySem PySem.Spec PyProof.Rows L2

/-- data: what a value stands for, whatever its addresses -/
inductive D where
  | non | bl (b : Bool) | int (i : Int) | str (x : Str)
  | tup (ds : List D) | lst (ds : List D) | fls (ds : List D)
  | obj (C : Addr) (ns : List Str) (ds : List D)
  | dct (ks : List Key) (ds : List D)
  | raw (v : V)
  | ext (φ : Addr → HO)
  | exc (C : Addr) (ns : List Str) (ds : List D)

/-- at a: an exception of the class at C, its dict d -/
def ExV (C : Addr) (d : Option Addr) (a : Addr) : HO := .ext fun h => ∃ (oe : Obj) (vs : Array Value), h.get? a = some oe ∧ Zc (.ref C) d oe ∧ oe.data = .fields vs
/-- its fields -/
def XdAt (S : Hp) (d : Option Addr) (fs : List (Str × V)) : Prop := match d with
  | none => fs = []
  | some b => S b = some (.xd fs)
theorem XdAt.mono {S S' : Hp} {d : Option Addr} {fs : List (Str × V)} (e : Same S S') (h : XdAt S d fs) : XdAt S' d fs := by
  cases d with
  | none => exact h
  | some b => exact e _ _ h
mutual
def Rep (K : PySem.W.Frag) (S : Hp) : D → V → Prop
  | .non, v => v = .non
  | .bl b, v => v = .bl b
  | .int i, v => v = .int i
  | .str x, v => v = .str x
  | .tup ds, v => ∃ a vs, v = .ref a ∧ SqT K S a vs ∧ Reps K S ds vs
  | .lst ds, v => ∃ a vs, v = .ref a ∧ S a = some (.lst vs) ∧ Reps K S ds vs
  | .fls ds, v => ∃ a vs, v = .ref a ∧ SqL K S a vs ∧ Reps K S ds vs
  | .obj C ns ds, v => ∃ a dx vs, v = .ref a ∧ S a = some (.ins C dx (ns.zip vs)) ∧ ns.length = vs.length ∧ Reps K S ds vs
  | .dct ks ds, v => ∃ a vs, v = .ref a ∧ S a = some (.dK (ks.zip vs)) ∧ ks.length = vs.length ∧ Reps K S ds vs
  | .raw u, v => v = u
  | .ext φ, v => ∃ a, v = .ref a ∧ S a = some (φ a)
  | .exc C ns ds, v => ∃ a d vs, v = .ref a ∧ S a = some (ExV C d a) ∧ XdAt S d (ns.zip vs) ∧ ns.length = vs.length ∧ Reps K S ds vs
def Reps (K : PySem.W.Frag) (S : Hp) : List D → List V → Prop
  | [], vs => vs = []
  | d :: ds, vs => ∃ v r, vs = v :: r ∧ Rep K S d v ∧ Reps K S ds r
end

theorem same_sqt {K : PySem.W.Frag} {H H' : Hp} {a : Addr} {xs : List V} (e : Same H H') (h : SqT K H a xs) : SqT K H' a xs := by
  rcases h with (h | ⟨o, h⟩) | h
  · exact .inl (.inl (e _ _ h))
  · exact .inl (.inr ⟨o, e _ _ h⟩)
  · exact .inr h

mutual
theorem Rep.mono {K : PySem.W.Frag} {S S' : Hp} (e : Same S S') : ∀ (d : D) (v : V), Rep K S d v → Rep K S' d v
  | .non, _, h => h
  | .bl _, _, h => h
  | .int _, _, h => h
  | .str _, _, h => h
  | .tup ds, _, ⟨a, vs, h1, h2, h3⟩ => ⟨a, vs, h1, same_sqt e h2, Reps.mono e ds vs h3⟩
  | .lst ds, _, ⟨a, vs, h1, h2, h3⟩ => ⟨a, vs, h1, e _ _ h2, Reps.mono e ds vs h3⟩
  | .fls ds, _, ⟨a, vs, h1, h2, h3⟩ => ⟨a, vs, h1, e.seq h2, Reps.mono e ds vs h3⟩
  | .obj C ns ds, _, ⟨a, dx, vs, h1, h2, h3, h4⟩ => ⟨a, dx, vs, h1, e _ _ h2, h3, Reps.mono e ds vs h4⟩
  | .dct ks ds, _, ⟨a, vs, h1, h2, h3, h4⟩ => ⟨a, vs, h1, e _ _ h2, h3, Reps.mono e ds vs h4⟩
  | .raw _, _, h => h
  | .ext φ, _, ⟨a, h1, h2⟩ => ⟨a, h1, e _ _ h2⟩
  | .exc C ns ds, _, ⟨a, d, vs, h1, h2, h3, h4, h5⟩ => ⟨a, d, vs, h1, e _ _ h2, h3.mono e, h4, Reps.mono e ds vs h5⟩
theorem Reps.mono {K : PySem.W.Frag} {S S' : Hp} (e : Same S S') : ∀ (ds : List D) (vs : List V), Reps K S ds vs → Reps K S' ds vs
  | [], _, h => h
  | d :: ds, _, ⟨v, r, h1, h2, h3⟩ => ⟨v, r, h1, Rep.mono e d v h2, Reps.mono e ds r h3⟩
end

section
variable {K : PySem.W.Frag} {S : Hp}
theorem Reps.length : ∀ {ds : List D} {vs : List V}, Reps K S ds vs → ds.length = vs.length
  | [], _, h => by rw [show _ = [] from h]; rfl
  | d :: ds, _, ⟨v, r, h1, _, h3⟩ => by rw [h1, List.length_cons, List.length_cons, Reps.length h3]
theorem Reps.get : ∀ {ds : List D} {vs : List V} {i : Nat} {d : D}, Reps K S ds vs → ds[i]? = some d → ∃ v, vs[i]? = some v ∧ Rep K S d v
  | [], _, _, _, _, e => by simp at e
  | d :: ds, _, 0, _, ⟨v, r, h1, h2, _⟩, e => by
    simp at e; subst e; subst h1; exact ⟨v, rfl, h2⟩
  | d :: ds, _, i + 1, _, ⟨v, r, h1, _, h3⟩, e => by
    subst h1
    obtain ⟨u, e1, e2⟩ := Reps.get (i := i) h3 (by simpa using e)
    exact ⟨u, by simpa using e1, e2⟩
theorem Reps.get' {ds : List D} {vs : List V} {i : Nat} {v : V} (h : Reps K S ds vs) (e : vs[i]? = some v) : ∃ d, ds[i]? = some d ∧ Rep K S d v := by
  have hi : i < ds.length := by
    rw [h.length]; exact (List.getElem?_eq_some_iff.mp e).1
  obtain ⟨u, e1, e2⟩ := Reps.get (i := i) (d := ds[i]) h (List.getElem?_eq_getElem hi)
  rw [e] at e1; cases e1
  exact ⟨ds[i], List.getElem?_eq_getElem hi, e2⟩
theorem Reps.of_get : ∀ {ds : List D} {vs : List V}, ds.length = vs.length → (∀ (i : Nat) d v, ds[i]? = some d → vs[i]? = some v → Rep K S d v) → Reps K S ds vs
  | [], [], _, _ => rfl
  | d :: ds, v :: vs, hl, h => ⟨v, vs, rfl, h 0 d v rfl rfl, Reps.of_get (by simpa using hl) fun i d' v' e1 e2 => h (i + 1) d' v' (by simpa using e1) (by simpa using e2)⟩
theorem Reps.append : ∀ {ds es : List D} {vs us : List V}, Reps K S ds vs → Reps K S es us → Reps K S (ds ++ es) (vs ++ us)
  | [], _, _, _, h, g => by rw [show _ = [] from h]; exact g
  | d :: ds, _, _, _, ⟨v, r, h1, h2, h3⟩, g => ⟨v, r ++ _, by rw [h1]; rfl, h2, Reps.append h3 g⟩
theorem Reps.nil : Reps K S [] [] := rfl
theorem Reps.cons {d : D} {ds : List D} {v : V} {vs : List V} (h : Rep K S d v) (g : Reps K S ds vs) : Reps K S (d :: ds) (v :: vs) := ⟨v, vs, rfl, h, g⟩
theorem Reps.one {d : D} {v : V} (h : Rep K S d v) : Reps K S [d] [v] := ⟨v, [], rfl, h, rfl⟩
theorem Reps.take {ds : List D} {vs : List V} (n : Nat) (h : Reps K S ds vs) : Reps K S (ds.take n) (vs.take n) := by
  refine Reps.of_get (by simp [h.length]) fun i d v e1 e2 => ?_
  rw [List.getElem?_take] at e1 e2
  split at e1
  · rename_i hi
    rw [if_pos hi] at e2
    obtain ⟨u, q1, q2⟩ := h.get e1
    rw [e2] at q1; cases q1; exact q2
  · cases e1
theorem Reps.drop {ds : List D} {vs : List V} (n : Nat) (h : Reps K S ds vs) : Reps K S (ds.drop n) (vs.drop n) := by
  refine Reps.of_get (by simp [h.length]) fun i d v e1 e2 => ?_
  rw [List.getElem?_drop] at e1 e2
  obtain ⟨u, q1, q2⟩ := h.get e1
  rw [e2] at q1; cases q1; exact q2
theorem Reps.set {ds : List D} {vs : List V} {i : Nat} {d : D} {v : V} (h : Reps K S ds vs) (r : Rep K S d v) : Reps K S (ds.set i d) (vs.set i v) := by
  refine Reps.of_get (by simp [h.length]) fun j d' v' e1 e2 => ?_
  rw [List.getElem?_set] at e1 e2
  split at e1
  · rename_i hi
    rw [if_pos hi] at e2
    split at e1
    · split at e2
      · cases e1; cases e2; exact r
      · cases e2
    · cases e1
  · rename_i hi
    rw [if_neg hi] at e2
    obtain ⟨u, q1, q2⟩ := h.get e1
    rw [e2] at q1; cases q1; exact q2
theorem Reps.reverse {ds : List D} {vs : List V} (h : Reps K S ds vs) : Reps K S ds.reverse vs.reverse := by
  refine Reps.of_get (by simp [h.length]) fun i d v e1 e2 => ?_
  have hi : i < ds.length := by simpa using (List.getElem?_eq_some_iff.mp e1).1
  have hi2 : i < vs.length := by rw [← h.length]; exact hi
  rw [List.getElem?_reverse hi] at e1
  rw [List.getElem?_reverse hi2] at e2
  obtain ⟨u, q1, q2⟩ := h.get e1
  rw [h.length] at q1
  rw [e2] at q1; cases q1; exact q2
theorem Reps.rep {ds : List D} {vs : List V} (h : Reps K S ds vs) : ∀ n : Nat, Reps K S (List.replicate n ds).flatten (List.replicate n vs).flatten
  | 0 => rfl
  | n + 1 => by rw [List.replicate_succ, List.replicate_succ, List.flatten_cons, List.flatten_cons]; exact h.append (h.rep n)
/-- typed lists -/
theorem Reps.ints : ∀ {ns : List Int} {vs : List V}, Reps K S (ns.map D.int) vs → vs = ns.map V.int
  | [], _, h => h
  | n :: ns, _, ⟨v, r, h1, h2, h3⟩ => by rw [h1, show v = V.int n from h2, Reps.ints h3]; rfl
theorem Reps.strs : ∀ {ns : List Str} {vs : List V}, Reps K S (ns.map D.str) vs → vs = ns.map V.str
  | [], _, h => h
  | n :: ns, _, ⟨v, r, h1, h2, h3⟩ => by rw [h1, show v = V.str n from h2, Reps.strs h3]; rfl
theorem Reps.bls : ∀ {ns : List Bool} {vs : List V}, Reps K S (ns.map D.bl) vs → vs = ns.map V.bl
  | [], _, h => h
  | n :: ns, _, ⟨v, r, h1, h2, h3⟩ => by rw [h1, show v = V.bl n from h2, Reps.bls h3]; rfl
theorem Reps.ofInts : ∀ {ns : List Int}, Reps K S (ns.map D.int) (ns.map V.int)
  | [] => rfl
  | n :: ns => ⟨.int n, _, rfl, rfl, Reps.ofInts⟩
theorem Reps.ofStrs : ∀ {ns : List Str}, Reps K S (ns.map D.str) (ns.map V.str)
  | [] => rfl
  | n :: ns => ⟨.str n, _, rfl, rfl, Reps.ofStrs⟩
theorem Reps.ofBls : ∀ {ns : List Bool}, Reps K S (ns.map D.bl) (ns.map V.bl)
  | [] => rfl
  | n :: ns => ⟨.bl n, _, rfl, rfl, Reps.ofBls⟩
end

/-- data that no heap bears -/
def Scal : D → Prop
  | .non | .bl _ | .int _ | .str _ | .raw _ => True
  | _ => False
theorem Rep.scal {K : PySem.W.Frag} {S S' : Hp} {d : D} {v : V} (h : Scal d) (r : Rep K S d v) : Rep K S' d v := by
  cases d <;> first | exact r | exact h.elim

/-! ### the state of a def's slots -/
/-- what an owned object holds -/
inductive Ob where
  | lst (ds : List D) | ins (C : Addr) (ns : List Str) (ds : List D) | dct (ks : List Key) (ds : List D)
def Ob.d : Ob → D
  | .lst ds => .lst ds
  | .ins C ns ds => .obj C ns ds
  | .dct ks ds => .dct ks ds
def ObR (K : PySem.W.Frag) (S H : Hp) (a : Addr) : Ob → Prop
  | .lst ds => ∃ vs, H a = some (.lst vs) ∧ Reps K S ds vs
  | .ins C ns ds => ∃ dx vs, H a = some (.ins C dx (ns.zip vs)) ∧ ns.length = vs.length ∧ Reps K S ds vs
  | .dct ks ds => ∃ vs, H a = some (.dK (ks.zip vs)) ∧ ks.length = vs.length ∧ Reps K S ds vs
theorem ObR.there {K : PySem.W.Frag} {S H : Hp} {a : Addr} {o : Ob} (h : ObR K S H a o) : ∃ x, H a = some x := by
  cases o with
  | lst ds => obtain ⟨vs, h, _⟩ := h; exact ⟨_, h⟩
  | ins C ns ds => obtain ⟨dx, vs, h, _⟩ := h; exact ⟨_, h⟩
  | dct ks ds => obtain ⟨vs, h, _⟩ := h; exact ⟨_, h⟩
theorem ObR.mono {K : PySem.W.Frag} {S S' H H' : Hp} {a : Addr} {o : Ob} (e : Same S S') (k : ∀ x, H a = some x → H' a = some x) (h : ObR K S H a o) : ObR K S' H' a o := by
  cases o with
  | lst ds => obtain ⟨vs, h, r⟩ := h; exact ⟨vs, k _ h, Reps.mono e _ _ r⟩
  | ins C ns ds => obtain ⟨dx, vs, h, l, r⟩ := h; exact ⟨dx, vs, k _ h, l, Reps.mono e _ _ r⟩
  | dct ks ds => obtain ⟨vs, h, l, r⟩ := h; exact ⟨vs, k _ h, l, Reps.mono e _ _ r⟩
theorem ObR.rep {K : PySem.W.Frag} {S H : Hp} {a : Addr} {o : Ob} (k : ∀ x, H a = some x → S a = some x) (h : ObR K S H a o) : Rep K S o.d (.ref a) := by
  cases o with
  | lst ds => obtain ⟨vs, h, r⟩ := h; exact ⟨a, vs, rfl, k _ h, r⟩
  | ins C ns ds => obtain ⟨dx, vs, h, l, r⟩ := h; exact ⟨a, dx, vs, rfl, k _ h, l, r⟩
  | dct ks ds => obtain ⟨vs, h, l, r⟩ := h; exact ⟨a, vs, rfl, k _ h, l, r⟩

inductive Sl where
  | un | sh (d : D) | ow (o : Ob) | pr (p : Addr) (o : Ob)
abbrev Gm := List Sl
/-- slot i owns the object at a -/
def OwnAt (Γ : Gm) (σ : L2.St) (i : Nat) (a : Addr) : Prop := ((∃ o, Γ[i]? = some (.ow o)) ∨ ∃ p o, Γ[i]? = some (.pr p o)) ∧ σ[i]? = some (some (.ref a))
def Own (Γ : Gm) (σ : L2.St) (a : Addr) : Prop := ∃ i, OwnAt Γ σ i a
/-- a def's entry: the heap, the shared part, the owned parameters -/
structure Fr where
  H0 : Hp
  S0 : Hp
  op : Addr → Prop
def SlOk (K : PySem.W.Frag) (F : Fr) (S H : Hp) (x : Option (Option V)) : Sl → Prop
  | .un => True
  | .sh d => ∃ v, x = some (some v) ∧ Rep K S d v
  | .ow o => ∃ a, x = some (some (.ref a)) ∧ S a = none ∧ (F.H0 a = none ∨ F.op a) ∧ ObR K S H a o
  | .pr p o => x = some (some (.ref p)) ∧ S p = none ∧ (F.H0 p = none ∨ F.op p) ∧ ObR K S H p o
structure RS (K : PySem.W.Frag) (F : Fr) (Γ : Gm) (σ : L2.St) (H S : Hp) : Prop where
  s0 : Same F.S0 S
  sh : Same S H
  new : ∀ b o, F.H0 b = some o → ¬ F.op b → F.S0 b = none → S b = none
  kp : ∀ b o, ¬ F.op b → F.H0 b = some o → H b = some o
  th : ∀ b o, F.H0 b = some o → ∃ o', H b = some o'
  sl : ∀ (i : Nat) s, Γ[i]? = some s → SlOk K F S H σ[i]? s
  ne : ∀ i j a, i ≠ j → OwnAt Γ σ i a → OwnAt Γ σ j a → False
  len : Γ.length = σ.length

/-- an expression's end: shared data, a new object of one's own, the object that slot i owns -/
inductive Rs where
  | sh (d : D) | ow (o : Ob) | br (i : Nat)
def RsOk (K : PySem.W.Frag) (F : Fr) (Γ : Gm) (σ : L2.St) (H S : Hp) : Rs → V → Prop
  | .sh d, v => Rep K S d v
  | .ow o, v => ∃ a, v = .ref a ∧ S a = none ∧ F.H0 a = none ∧ ObR K S H a o ∧ ¬ Own Γ σ a
  | .br i, v => ∃ a, v = .ref a ∧ OwnAt Γ σ i a

section
variable {K : PySem.W.Frag} {F : Fr} {Γ Γ' : Gm} {σ σ' : L2.St} {H H' S S' : Hp} {a : Addr} {i : Nat}
theorem RS.own (R : RS K F Γ σ H S) (h : OwnAt Γ σ i a) : S a = none ∧ (F.H0 a = none ∨ F.op a) ∧ ∃ o, ObR K S H a o := by
  obtain ⟨⟨o, e⟩ | ⟨p, o, e⟩, q⟩ := h
  · obtain ⟨b, e1, e2, e3, e4⟩ := R.sl i _ e
    rw [q] at e1; cases e1
    exact ⟨e2, e3, o, e4⟩
  · obtain ⟨e1, e2, e3, e4⟩ := R.sl i _ e
    rw [q] at e1; cases e1
    exact ⟨e2, e3, o, e4⟩
theorem RS.ownNone (R : RS K F Γ σ H S) (n : H a = none) : ¬ Own Γ σ a := fun ⟨i, h⟩ => by
  obtain ⟨_, _, o, q⟩ := R.own h
  obtain ⟨x, e⟩ := q.there
  rw [n] at e; cases e
theorem RS.h0None (R : RS K F Γ σ H S) (n : H a = none) : F.H0 a = none := by
  cases e : F.H0 a with
  | none => rfl
  | some o =>
    obtain ⟨o', q⟩ := R.th a o e
    rw [n] at q; cases q
theorem RS.sNone (R : RS K F Γ σ H S) (n : H a = none) : S a = none := by
  cases e : S a with
  | none => rfl
  | some o => rw [R.sh a o e] at n; cases n
/-- only new objects, not shared -/
theorem RS.grow (R : RS K F Γ σ H S) (h : Same H H') : RS K F Γ σ H' S := by
  refine ⟨R.s0, R.sh.trans h, R.new, fun b o n e => h b o (R.kp b o n e), ?_, ?_, R.ne, R.len⟩
  · intro b o e
    obtain ⟨o', q⟩ := R.th b o e
    exact ⟨o', h b o' q⟩
  · intro j s e
    have q := R.sl j s e
    cases s with
    | un => trivial
    | sh d => exact q
    | ow o => obtain ⟨b, e1, e2, e3, e4⟩ := q; exact ⟨b, e1, e2, e3, e4.mono (.refl _) (h b)⟩
    | pr p o => obtain ⟨e1, e2, e3, e4⟩ := q; exact ⟨e1, e2, e3, e4.mono (.refl _) (h p)⟩
/-- the shared part grows by what is new -/
theorem RS.share (R : RS K F Γ σ H S) (h1 : Same S S') (h2 : Same S' H) (h3 : ∀ b o, S' b = some o → S b = none → F.H0 b = none ∧ ¬ Own Γ σ b) : RS K F Γ σ H S' := by
  refine ⟨R.s0.trans h1, h2, ?_, R.kp, R.th, ?_, R.ne, R.len⟩
  · intro b o e n z
    have q := R.new b o e n z
    cases e1 : S' b with
    | none => rfl
    | some u =>
      have := (h3 b u e1 q).1
      rw [e] at this
      cases this
  · intro j s e
    have q := R.sl j s e
    have nn : ∀ b, OwnAt Γ σ j b → S b = none → S' b = none := fun b ow z => by
      cases e1 : S' b with
      | none => rfl
      | some u => exact ((h3 b u e1 z).2 ⟨j, ow⟩).elim
    cases s with
    | un => trivial
    | sh d => obtain ⟨v, e1, e2⟩ := q; exact ⟨v, e1, Rep.mono h1 _ _ e2⟩
    | ow o => obtain ⟨b, e1, e2, e3, e4⟩ := q; exact ⟨b, e1, nn b ⟨.inl ⟨o, e⟩, e1⟩ e2, e3, e4.mono h1 fun _ z => z⟩
    | pr p o => obtain ⟨e1, e2, e3, e4⟩ := q; exact ⟨e1, nn p ⟨.inr ⟨p, o, e⟩, e1⟩ e2, e3, e4.mono h1 fun _ z => z⟩
theorem same_upd {H : Hp} {p : Addr} {o : HO} (h : H p = none) : Same H (upd H p o) := fun b x e => by
  rw [upd_ne (ne_of_none e h)]
  exact e
/-- a new shared object -/
theorem RS.laid (R : RS K F Γ σ H S) {p : Addr} {o : HO} (n : H p = none) : RS K F Γ σ (upd H p o) (upd S p o) ∧ Same S (upd S p o) := by
  have hs := same_upd (o := o) (R.sNone n)
  refine ⟨(R.grow (same_upd (o := o) n)).share hs (fun b x e => ?_) (fun b x e z => ?_), hs⟩
  · by_cases hb : b = p
    · subst hb; rw [upd_same] at e ⊢; exact e
    · rw [upd_ne hb] at e ⊢; exact R.sh b x e
  · by_cases hb : b = p
    · subst hb; exact ⟨R.h0None n, R.ownNone n⟩
    · rw [upd_ne hb] at e; rw [e] at z; cases z
/-- rebase: the frame of this very state -/
def Fr.here (Γ : Gm) (σ : L2.St) (H S : Hp) : Fr := ⟨H, S, Own Γ σ⟩
theorem RS.rebase (R : RS K F Γ σ H S) : RS K (.here Γ σ H S) Γ σ H S := by
  refine ⟨.refl _, R.sh, fun b o _ _ z => z, fun b o _ e => e, fun b o e => ⟨o, e⟩, ?_, R.ne, R.len⟩
  intro j s e
  have q := R.sl j s e
  cases s with
  | un => trivial
  | sh d => exact q
  | ow o => obtain ⟨b, e1, e2, e3, e4⟩ := q; exact ⟨b, e1, e2, .inr ⟨j, .inl ⟨o, e⟩, e1⟩, e4⟩
  | pr p o => obtain ⟨e1, e2, e3, e4⟩ := q; exact ⟨e1, e2, .inr ⟨j, .inr ⟨p, o, e⟩, e1⟩, e4⟩
theorem RS.back (R : RS K F Γ σ H S) (R' : RS K (.here Γ σ H S) Γ' σ' H' S') : RS K F Γ' σ' H' S' := by
  have no : ∀ b o, F.H0 b = some o → ¬ F.op b → ¬ Own Γ σ b := fun b o e n ⟨i, ow⟩ => by
    rcases (R.own ow).2.1 with z | z
    · rw [e] at z; cases z
    · exact n z
  have old : ∀ b, ((Fr.here Γ σ H S).H0 b = none ∨ (Fr.here Γ σ H S).op b) → F.H0 b = none ∨ F.op b := fun b z => by
    rcases z with z | ⟨i, ow⟩
    · exact .inl (R.h0None z)
    · exact (R.own ow).2.1
  refine ⟨R.s0.trans R'.s0, R'.sh, fun b o e n z => R'.new b o (R.kp b o n e) (no b o e n) (R.new b o e n z), fun b o n e => R'.kp b o (no b o e n) (R.kp b o n e),
    fun b o e => (R.th b o e).elim fun o' q => R'.th b o' q, fun j s e => ?_, R'.ne, R'.len⟩
  have q := R'.sl j s e
  cases s with
  | un => trivial
  | sh d => exact q
  | ow o => obtain ⟨b, e1, e2, e3, e4⟩ := q; exact ⟨b, e1, e2, old b e3, e4⟩
  | pr p o => obtain ⟨e1, e2, e3, e4⟩ := q; exact ⟨e1, e2, old p e3, e4⟩
/-- forgetting -/
def Wk (Γ Γ' : Gm) : Prop := Γ'.length = Γ.length ∧ ∀ (i : Nat) s, Γ'[i]? = some s → s = .un ∨ Γ[i]? = some s
theorem RS.weak (R : RS K F Γ σ H S) (w : Wk Γ Γ') : RS K F Γ' σ H S := by
  have ow : ∀ i a, OwnAt Γ' σ i a → OwnAt Γ σ i a := fun i a ⟨h, q⟩ => by
    refine ⟨?_, q⟩
    rcases h with ⟨o, e⟩ | ⟨p, o, e⟩
    · rcases w.2 i _ e with z | z
      · cases z
      · exact .inl ⟨o, z⟩
    · rcases w.2 i _ e with z | z
      · cases z
      · exact .inr ⟨p, o, z⟩
  refine ⟨R.s0, R.sh, R.new, R.kp, R.th, fun j s e => ?_, fun i j a n x y => R.ne i j a n (ow i a x) (ow j a y), w.1.trans R.len⟩
  rcases w.2 j s e with z | z
  · subst z; trivial
  · exact R.sl j s z
theorem Wk.refl (Γ : Gm) : Wk Γ Γ := ⟨rfl, fun _ _ e => .inr e⟩
theorem Wk.trans {Γ1 Γ2 Γ3 : Gm} (a : Wk Γ1 Γ2) (b : Wk Γ2 Γ3) : Wk Γ1 Γ3 := ⟨b.1.trans a.1, fun i s e => by
  rcases b.2 i s e with z | z
  · exact .inl z
  · exact a.2 i s z⟩
end
end PL

set_option Elab.async false
set_option linter.all false
set_option maxRecDepth 100000
set_option maxHeartbeats 1000000
/-! promises of defs where no repr is under way (so that repr may be asked): Room, FnOk and the rules of calls, all over again in this sense -/
namespace PL
open PySem PySem.Spec PyProof.Rows L2
structure Room (k : Nat) (A : Around) : Prop where
  r : L2.Room k A
  gd : A.guards = some []
namespace Room
variable {j k : Nat} {A : Around}
theorem hd (x : Room k A) : A.handled = none := x.r.hd
theorem mono (x : Room k A) (h : j ≤ k) : Room j A := ⟨x.r.mono h, x.gd⟩
theorem deeper (x : Room (k + 1) A) (env : Env) : Room k (A.deeper env) := ⟨x.r.deeper env, x.gd⟩
theorem in1 (x : Room (k + 1) A) : Room k A.in1 := ⟨x.r.in1, x.gd⟩
theorem make_gd {C : Addr} {us : List Value} {kw : List (Str × Value)} : (A.under (.builtin "type.__call__" ⟨.ref C :: us, kw⟩)).guards = A.guards := by
  have h : Code.guards (.builtin "type.__call__" ⟨.ref C :: us, kw⟩) = [] := by first | rfl | simp [Code.guards, Code.isGuard, guardIds]
  unfold Around.under
  dsimp only
  rw [h]
  cases A.guards <;> rfl
theorem make (x : Room (k + 1) A) (C : Addr) (us : List Value) (kw : List (Str × Value)) : Room k (A.under (.builtin "type.__call__" ⟨.ref C :: us, kw⟩)) := ⟨x.r.make C us kw, make_gd.trans x.gd⟩
theorem depth (x : Room k A) : A.depth < recursionLimit := x.r.depth
theorem units (x : Room k A) : A.units + 64 < cLine := x.r.units
theorem units0 (x : Room k A) : A.units < cLine := x.r.units0
theorem un (x : Room k A) : A.units + 16 * k + 200 < cLine := x.r.un
theorem dp (x : Room k A) : A.depth + 3 * k + 5 < recursionLimit := x.r.dp
end Room
structure FnOk (P : Program) (w : World) (K : PySem.W.Frag) (mg : Str → Option Value) (base : Heap) (CX : CXT) (k : Nat) (f : Addr) (fd : FuncData) (ps : List Str) (sp : Sp) : Prop where
  len : ∀ vs H Q E, sp vs H Q E → vs.length = ps.length
  run : ∀ (A : Around) (outer : List Env) (s : Shared) (H : Hp) (args : Args) (us : List Value) (vs : List V) (Q : VK) (E : XK), Room k A → Env0 P w K mg base A outer s H → BindsTo s fd args (ps.zip us) → Vals vs us → sp vs H Q E → codeAny (model P w) A (.call (.ref f) args) (CR CX outer P w H s Q E) s
section
variable {P : Program} {w : World} {K : PySem.W.Frag} {mg : Str → Option Value} {base : Heap} {CX : CXT} {j k : Nat} {f : Addr} {fd : FuncData} {ps : List Str} {sp sp' : Sp}
theorem FnOk.mono (F : FnOk P w K mg base CX j f fd ps sp) (h : j ≤ k) : FnOk P w K mg base CX k f fd ps sp := ⟨F.len, fun A outer s H args us vs Q E hr => F.run A outer s H args us vs Q E (hr.mono h)⟩
theorem FnOk.imp (F : FnOk P w K mg base CX k f fd ps sp) (h : ∀ vs H Q E, sp' vs H Q E → sp vs H Q E) : FnOk P w K mg base CX k f fd ps sp' := ⟨fun vs H Q E q => F.len vs H Q E (h _ _ _ _ q), fun A outer s H args us vs Q E hr he hb hv hs => F.run A outer s H args us vs Q E hr he hb hv (h _ _ _ _ hs)⟩
theorem FnOk.of (F : L2.FnOk P w K mg base CX k f fd ps sp) : FnOk P w K mg base CX k f fd ps sp := ⟨F.len, fun A outer s H args us vs Q E hr => F.run A outer s H args us vs Q E hr.r⟩
end
/-! ### a callee runs -/
section
variable {X : Cx} {CX : CXT} {k n : Nat} {f C : Addr} {fd : FuncData} {ps ks : List Str} {sp : Sp} {dvs : List V} {ds : List Value} {E : XK} {x m : Str} {p pos apos : Pos} {e o : Expr} {es : List Expr} {kws : List Keyword} {ta : TE} {t tk : TA} {g : List Value → List Value → List Value} {gV : List V → List V → List V}
variable {pins : List (Addr × Obj)} {σ : L2.St} {H : Hp} {s : Shared} {Q : VK} {us ws : List Value} {vs zs : List V}
theorem run_any {A : Around} {args : Args} {vs0 : List V} (F : FnOk X.prog X.w X.K X.mg X.base CX k f fd ps sp) (hr : Room k A) (e0 : Env0 X.prog X.w X.K X.mg X.base A X.stack s H) (b : BindsTo s fd args (ps.zip us)) (hx : ∀ e s', CX X.stack H s E e s' → X.xe e s') (I : Inv X pins σ H s) (r : Vals vs0 us) (h : sp vs0 H Q E) :
    codeAny (model X.prog X.w) A (.call (.ref f) args) (fun r s' => match r with | .ok (.ret u) => EP X pins σ Q u s' | .ok _ => False | .error e => X.xe e s') s := by
  refine codeAny_mono (F.run A X.stack s H args us vs0 Q E hr e0 b r h) fun r s' z => ?_
  rcases r with er | fl
  · exact hx er s' z
  · cases fl with
    | ret u => exact I.after z
    | next => exact z.elim
    | brk => exact z.elim
    | cont => exact z.elim
theorem end_any {c : Sem Value} (h : wpAny (model X.prog X.w) X.A c (EP X pins σ Q) X.xe s) : wpAny (model X.prog X.w) X.A c (EP X pins σ Q) X.xe s := h
theorem run_fn (F : FnOk X.prog X.w X.K X.mg X.base CX k f fd ps sp) (hr : Room k X.A) (hb : Binds X.K fd ps ds) (hd : Vals dvs ds) (hx : Passes CX X E) (I : Inv X pins σ H s) (r : Vals vs us) (h : sp (vs ++ dvs) H Q E) : wpAny (model X.prog X.w) X.A (call (.ref f) us) (EP X pins σ Q) X.xe s := by
  have rr := r.append hd
  have hl : (us ++ ds).length = ps.length := by rw [← rr.length, F.len _ _ _ _ h]
  refine wpAny_call (codeAny_mono (run_any F hr I.env0 (hb s us I.kIn hl) (fun e s' z => hx pins σ H s e s' I z) I rr h) fun r s' z => ?_)
  rcases r with er | fl
  · exact z
  · cases fl <;> exact z
theorem run_fnS {E : L2.St → XK} (F : FnOk X.prog X.w X.K X.mg X.base CX k f fd ps sp) (hr : Room k X.A) (hb : Binds X.K fd ps []) (hx : PassesAt CX X σ (E σ)) (I : Inv X pins σ H s) (r : Vals vs us) (h : sp vs H Q (E σ)) : wpAny (model X.prog X.w) X.A (call (.ref f) us) (EP X pins σ Q) X.xe s := by
  have hl : (us ++ []).length = ps.length := by rw [List.append_nil, ← r.length, F.len _ _ _ _ h]
  have b := hb s us I.kIn hl
  rw [List.append_nil] at b
  refine wpAny_call (codeAny_mono (run_any F hr I.env0 b (fun e s' z => hx pins H s e s' I z) I r h) fun r s' z => ?_)
  rcases r with er | fl
  · exact z
  · cases fl <;> exact z
theorem run_kw (F : FnOk X.prog X.w X.K X.mg X.base CX k f fd ps sp) (hr : Room k X.A) {args : Args} {as : List Value} {av : List V} (b : BindsTo s fd ⟨us, ks.zip ws⟩ (ps.zip as)) (hx : Passes CX X E) (I : Inv X pins σ H s) (r : Vals av as) (h : sp av H Q E) : wpAny (model X.prog X.w) X.A (call (.ref f) us (ks.zip ws)) (EP X pins σ Q) X.xe s := by
  refine wpAny_call (codeAny_mono (run_any F hr I.env0 b (fun e s' z => hx pins σ H s e s' I z) I r h) fun r s' z => ?_)
  rcases r with er | fl
  · exact z
  · cases fl <;> exact z
theorem run_fnk (F : FnOk X.prog X.w X.K X.mg X.base CX k f fd ps sp) (hr : Room k X.A) (hb : KBinds X.K fd ps ks g gV) (hx : Passes CX X E) (I : Inv X pins σ H s) (r : Vals vs us) (rz : Vals zs ws) (h : sp (gV vs zs) H Q E) : wpAny (model X.prog X.w) X.A (call (.ref f) us (ks.zip ws)) (EP X pins σ Q) X.xe s := by
  have rr := hb.rel r rz
  exact run_kw F hr (args := ⟨us, ks.zip ws⟩) (hb.to s us ws I.kIn (by rw [← rr.length, F.len _ _ _ _ h])) hx I rr h
theorem run_fnN (F : FnOk X.prog X.w X.K X.mg X.base CX k f fd ps sp) (hr : Room k X.A) (hb : KBn X.K fd ps n ks g gV) (hx : Passes CX X E) (I : Inv X pins σ H s) (r : Vals vs us) (rz : Vals zs ws) (l1 : vs.length = n) (l2 : zs.length = ks.length) (h : sp (gV vs zs) H Q E) : wpAny (model X.prog X.w) X.A (call (.ref f) us (ks.zip ws)) (EP X pins σ Q) X.xe s :=
  run_kw F hr (args := ⟨us, ks.zip ws⟩) (hb.to s us ws I.kIn (r.length.symm.trans l1) (rz.length.symm.trans l2)) hx I (hb.rel r rz) h
/-- a class is called -/
theorem run_mk {av : List V} {as : List Value} {kw : List (Str × Value)} (M : Mk X.K C f) (F : FnOk X.prog X.w X.K X.mg X.base CX k f fd ps sp) (hr : Room (k + 1) X.A) (hx : Passes CX X E) (I : Inv X pins σ H s) (b : ∀ s1 : Shared, X.K.In s1.heap → BindsTo s1 fd ⟨Value.ref (s.heap.objs.size + 1) :: us, kw⟩ (ps.zip as)) (r : Vals av as)
    (h : H (s.heap.objs.size + 1) = none → H s.heap.objs.size = none → s.heap.objs.size ≠ s.heap.objs.size + 1 → sp av (upd (upd H s.heap.objs.size (.own (s.heap.objs.size + 1))) (s.heap.objs.size + 1) (.ins C s.heap.objs.size [])) (fun v H2 => v = .non ∧ Q (.ref (s.heap.objs.size + 1)) H2) E) : wpAny (model X.prog X.w) X.A (call (.ref C) us kw) (EP X pins σ Q) X.xe s := by
  have n1 := I.hok.fresh (Nat.le_succ s.heap.objs.size)
  have n2 := I.hok.fresh (Nat.le_refl s.heap.objs.size)
  have q0 := h n1 n2 (Nat.ne_of_lt (Nat.lt_succ_self _))
  have J := Inv.made (C := C) I
  refine wpAny_call (make_map (f := f) I.kIn M.makes M.init (beq_iff_eq.mp M.fn) (codeAny_mono (F.run _ X.stack _ _ ⟨Value.ref (s.heap.objs.size + 1) :: us, kw⟩ as _ _ E (hr.make C us kw) (J.env0.make C us kw) (b _ J.kIn) r q0) fun r s' z => ?_))
  rcases r with er | fl
  · exact hx pins σ _ _ er s' J z
  · cases fl with
    | ret u =>
      obtain ⟨v, H', J2, rv, rfl, q2⟩ := J.after z
      exact ⟨rv, ⟨V.ref (s.heap.objs.size + 1), H', J2, rfl, q2⟩⟩
    | next => exact z.elim
    | brk => exact z.elim
    | cont => exact z.elim
theorem run_make (M : Mk X.K C f) (F : FnOk X.prog X.w X.K X.mg X.base CX k f fd ps sp) (hr : Room (k + 1) X.A) (hb : Binds X.K fd ps ds) (hd : Vals dvs ds) (hx : Passes CX X E) (I : Inv X pins σ H s) (r : Vals vs us)
    (h : ∀ x dx, H x = none → H dx = none → dx ≠ x → sp (.ref x :: (vs ++ dvs)) (upd (upd H dx (.own x)) x (.ins C dx [])) (fun v H2 => v = .non ∧ Q (.ref x) H2) E) : wpAny (model X.prog X.w) X.A (call (.ref C) us) (EP X pins σ Q) X.xe s := by
  have rr : Vals (V.ref (s.heap.objs.size + 1) :: (vs ++ dvs)) (Value.ref (s.heap.objs.size + 1) :: (us ++ ds)) := .cons rfl (r.append hd)
  have q0 := h (s.heap.objs.size + 1) s.heap.objs.size (I.hok.fresh (Nat.le_succ _)) (I.hok.fresh (Nat.le_refl _)) (Nat.ne_of_lt (Nat.lt_succ_self _))
  have hl : (Value.ref (s.heap.objs.size + 1) :: us ++ ds).length = ps.length := by rw [← F.len _ _ _ _ q0]; exact rr.length.symm
  exact run_mk (as := Value.ref (s.heap.objs.size + 1) :: (us ++ ds)) M F hr hx I (fun s1 kx => hb s1 (Value.ref (s.heap.objs.size + 1) :: us) kx hl) rr fun a b c => h _ _ a b c
theorem run_makeN (M : Mk X.K C f) (F : FnOk X.prog X.w X.K X.mg X.base CX k f fd ps sp) (hr : Room (k + 1) X.A) (hb : KBn X.K fd ps (n + 1) ks g gV) (hx : Passes CX X E) (I : Inv X pins σ H s) (r : Vals vs us) (rz : Vals zs ws) (l1 : vs.length = n) (l2 : zs.length = ks.length)
    (h : ∀ x dx, H x = none → H dx = none → dx ≠ x → sp (gV (.ref x :: vs) zs) (upd (upd H dx (.own x)) x (.ins C dx [])) (fun v H2 => v = .non ∧ Q (.ref x) H2) E) : wpAny (model X.prog X.w) X.A (call (.ref C) us (ks.zip ws)) (EP X pins σ Q) X.xe s := by
  have r1 : Vals (V.ref (s.heap.objs.size + 1) :: vs) (Value.ref (s.heap.objs.size + 1) :: us) := .cons rfl r
  have e1 : (Value.ref (s.heap.objs.size + 1) :: us).length = n + 1 := by rw [List.length_cons, ← r.length, l1]
  exact run_mk (as := g (Value.ref (s.heap.objs.size + 1) :: us) ws) M F hr hx I (fun s1 kx => hb.to s1 (Value.ref (s.heap.objs.size + 1) :: us) ws kx e1 (rz.length.symm.trans l2)) (hb.rel r1 rz) fun a b c => h _ _ a b c
/-! ### the rules of calls -/
theorem pe_call (F : FnOk X.prog X.w X.K X.mg X.base CX k f fd ps sp) (hr : Room k X.A) (hg : Gl X x) (hm : X.mg x = some (.ref f)) (hk : PySem.W.keepIn X.K (.ref f) = true) (hb : Binds X.K fd ps ds) (hd : Vals dvs ds) (hx : Passes CX X E) (ha : PA X (e :: es) t) (hdb : (x == ("__debug__" : Str)) = false := by decide)
    (he : starEach (e :: es) X.env = (false, eval e X.env) :: starEach es X.env := by rfl) (hpl : (backTo pos (starEach es X.env)).any (·.1) = false := by rfl) : PE X (.Call (.Name x p) (e :: es) [] pos) (tCall sp dvs E t) := ⟨fun pins s σ H Q I h => by
  refine wpAny_Call_Name_kw (ld_glob I hg hm (PySem.W.callWith_K (h₀ := X.base) I.ok.mod.kin hk (thn (ha.run pos pins s σ H _ I h) fun us s1 z => ?_) he hpl) hdb)
  obtain ⟨vs, H1, I1, r, q⟩ := z
  exact ⟨I1.kIn, run_fn F hr hb hd hx I1 r q⟩⟩
theorem pe_callS {E : L2.St → XK} (F : FnOk X.prog X.w X.K X.mg X.base CX k f fd ps sp) (hr : Room k X.A) (hg : Gl X x) (hm : X.mg x = some (.ref f)) (hk : PySem.W.keepIn X.K (.ref f) = true) (hb : Binds X.K fd ps []) (hx : ∀ σ, PassesAt CX X σ (E σ)) (ha : PA X (e :: es) t) (hdb : (x == ("__debug__" : Str)) = false := by decide)
    (he : starEach (e :: es) X.env = (false, eval e X.env) :: starEach es X.env := by rfl) (hpl : (backTo pos (starEach es X.env)).any (·.1) = false := by rfl) : PE X (.Call (.Name x p) (e :: es) [] pos) (tCallS sp E t) := ⟨fun pins s σ H Q I h => by
  refine wpAny_Call_Name_kw (ld_glob I hg hm (PySem.W.callWith_K (h₀ := X.base) I.ok.mod.kin hk (thn (ha.run pos pins s σ H _ I h) fun us s1 z => ?_) he hpl) hdb)
  obtain ⟨vs, H1, I1, r, q⟩ := z
  exact ⟨I1.kIn, run_fnS F hr hb (hx σ) I1 r q⟩⟩
theorem pe_call0 (F : FnOk X.prog X.w X.K X.mg X.base CX k f fd ps sp) (hr : Room k X.A) (hg : Gl X x) (hm : X.mg x = some (.ref f)) (hk : PySem.W.keepIn X.K (.ref f) = true) (hb : Binds X.K fd ps ds) (hd : Vals dvs ds) (hx : Passes CX X E) (hdb : (x == ("__debug__" : Str)) = false := by decide) : PE X (.Call (.Name x p) [] [] pos) (tCall sp dvs E tNil) := ⟨fun pins s σ H Q I h =>
  wpAny_Call_Name_kw (ld_glob I hg hm (PySem.W.callWith_K0 I.kIn hk (run_fn (us := []) F hr hb hd hx I .nil h)) hdb)⟩
theorem pe_meth {pl : Sem Bool} (he : PE X o ta) (c : Cls X.K C) (hm : Meth X.K C m f) (F : FnOk X.prog X.w X.K X.mg X.base CX k f fd ps sp) (hr : Room k X.A) (hb : Binds X.K fd ps ds) (hd : Vals dvs ds) (hx : Passes CX X E) (ha : PA X (e :: es) t)
    (hst : starEach (e :: es) X.env = (false, eval e X.env) :: starEach es X.env := by rfl) (hpl : (backTo pos (starEach es X.env)).any (·.1) = false := by rfl)
    (ht : eval (.Call (.Attribute o m apos) (e :: es) [] pos) X.env = (do
      let ov ← eval o X.env
      standAt apos.atName
      let (f, first) ← holding [ov] (getMethod ov m pl)
      callWith pos f first (backTo pos (starEach (e :: es) X.env)) (backToKw pos (keywordEach [] X.env))) := by rfl) : PE X (.Call (.Attribute o m apos) (e :: es) [] pos) (tMeth C m sp dvs E ta t) := ⟨fun pins s σ H Q I h => by
  refine PySem.W.methodCall_KW (pl := pl) (thn (he.run pins s σ H _ I h) fun u s1 z => ?_) ht
  obtain ⟨x, H1, I1, rx, a, dx, fs, rfl, ea, l, q⟩ := z
  obtain rfl : u = Value.ref a := rx
  refine getmeth_ok I1 ea c hm l (PySem.W.callWith_K (first := [.ref a]) (h₀ := X.base) I.ok.mod.kin hm.kp (thn (ha.run pos pins s1 σ H1 _ I1 q) fun us s2 z => ?_) hst hpl)
  obtain ⟨vs, H2, I2, r, q2⟩ := z
  exact ⟨I2.kIn, run_fn (us := .ref a :: us) (vs := .ref a :: vs) F hr hb hd hx I2 (.cons rfl r) q2⟩⟩
theorem pe_meth0 {pl : Sem Bool} (he : PE X o ta) (c : Cls X.K C) (hm : Meth X.K C m f) (F : FnOk X.prog X.w X.K X.mg X.base CX k f fd ps sp) (hr : Room k X.A) (hb : Binds X.K fd ps ds) (hd : Vals dvs ds) (hx : Passes CX X E)
    (ht : eval (.Call (.Attribute o m apos) [] [] pos) X.env = (do
      let ov ← eval o X.env
      standAt apos.atName
      let (f, first) ← holding [ov] (getMethod ov m pl)
      callWith pos f first (backTo pos (starEach [] X.env)) (backToKw pos (keywordEach [] X.env))) := by rfl) : PE X (.Call (.Attribute o m apos) [] [] pos) (tMeth C m sp dvs E ta tNil) := ⟨fun pins s σ H Q I h => by
  refine PySem.W.methodCall_KW (pl := pl) (thn (he.run pins s σ H _ I h) fun u s1 z => ?_) ht
  obtain ⟨x, H1, I1, rx, a, dx, fs, rfl, ea, l, q⟩ := z
  obtain rfl : u = Value.ref a := rx
  exact getmeth_ok I1 ea c hm l (PySem.W.callWith_K0 (first := [.ref a]) I1.kIn hm.kp (run_fn (us := [.ref a]) (vs := [.ref a]) F hr hb hd hx I1 (.cons rfl .nil) q))⟩
theorem pe_make (M : Mk X.K C f) (F : FnOk X.prog X.w X.K X.mg X.base CX k f fd ps sp) (hr : Room (k + 1) X.A) (hg : Gl X x) (hm : X.mg x = some (.ref C)) (hb : Binds X.K fd ps ds) (hd : Vals dvs ds) (hx : Passes CX X E) (ha : PA X (e :: es) t) (hdb : (x == ("__debug__" : Str)) = false := by decide)
    (he : starEach (e :: es) X.env = (false, eval e X.env) :: starEach es X.env := by rfl) (hpl : (backTo pos (starEach es X.env)).any (·.1) = false := by rfl) : PE X (.Call (.Name x p) (e :: es) [] pos) (tMake C sp dvs E t) := ⟨fun pins s σ H Q I h => by
  refine wpAny_Call_Name_kw (ld_glob I hg hm (PySem.W.callWith_K (h₀ := X.base) I.ok.mod.kin M.kp (thn (ha.run pos pins s σ H _ I h) fun us s1 z => ?_) he hpl) hdb)
  obtain ⟨vs, H1, I1, r, q⟩ := z
  exact ⟨I1.kIn, run_make M F hr hb hd hx I1 r q⟩⟩
theorem pe_make0 (M : Mk X.K C f) (F : FnOk X.prog X.w X.K X.mg X.base CX k f fd ps sp) (hr : Room (k + 1) X.A) (hg : Gl X x) (hm : X.mg x = some (.ref C)) (hb : Binds X.K fd ps ds) (hd : Vals dvs ds) (hx : Passes CX X E) (hdb : (x == ("__debug__" : Str)) = false := by decide) : PE X (.Call (.Name x p) [] [] pos) (tMake C sp dvs E tNil) := ⟨fun pins s σ H Q I h =>
  wpAny_Call_Name_kw (ld_glob I hg hm (PySem.W.callWith_K0 I.kIn M.kp (run_make (us := []) M F hr hb hd hx I .nil h)) hdb)⟩
theorem pe_callN (F : FnOk X.prog X.w X.K X.mg X.base CX k f fd ps sp) (hr : Room k X.A) (hg : Gl X x) (hm : X.mg x = some (.ref f)) (hk : PySem.W.keepIn X.K (.ref f) = true) (hb : KBn X.K fd ps n ks g gV) (hx : Passes CX X E) (ha : PA X (e :: es) t) (hkw : PK X kws tk)
    (hall : (backToKw pos (keywordEach kws X.env)).all (·.1.isSome) = true := by rfl) (hks : (backToKw pos (keywordEach kws X.env)).filterMap (·.1) = ks := by rfl) (hdb : (x == ("__debug__" : Str)) = false := by decide) (he : starEach (e :: es) X.env = (false, eval e X.env) :: starEach es X.env := by rfl)
    (hpl : ((backTo pos (starEach (e :: es) X.env)).any (·.1) || (backToKw pos (keywordEach kws X.env)).any (·.1.isNone)) = false := by rfl) : PE X (.Call (.Name x p) (e :: es) kws pos) (tCallN n ks.length sp gV E t tk) := ⟨fun pins s σ H Q I h => by
  refine wpAny_Call_Name_kw (ld_glob I hg hm (PySem.W.callWith_KW (h₀ := X.base) I.ok.mod.kin hk hall (thn (ha.run pos pins s σ H _ I h) fun us s1 z => ?_) hpl he) hdb)
  obtain ⟨vs, H1, I1, r, q⟩ := z
  refine thn (hkw.run pos pins s1 σ H1 _ I1 q) fun ws s2 z => ?_
  obtain ⟨zs, H2, I2, rz, l1, l2, q2⟩ := z
  rw [hks]
  exact ⟨I2.kIn, run_fnN F hr hb hx I2 r rz l1 l2 q2⟩⟩
theorem pe_makeN (M : Mk X.K C f) (F : FnOk X.prog X.w X.K X.mg X.base CX k f fd ps sp) (hr : Room (k + 1) X.A) (hg : Gl X x) (hm : X.mg x = some (.ref C)) (hb : KBn X.K fd ps (n + 1) ks g gV) (hx : Passes CX X E) (ha : PA X (e :: es) t) (hkw : PK X kws tk)
    (hall : (backToKw pos (keywordEach kws X.env)).all (·.1.isSome) = true := by rfl) (hks : (backToKw pos (keywordEach kws X.env)).filterMap (·.1) = ks := by rfl) (hdb : (x == ("__debug__" : Str)) = false := by decide)
    (he : starEach (e :: es) X.env = (false, eval e X.env) :: starEach es X.env := by rfl) (hpl : ((backTo pos (starEach (e :: es) X.env)).any (·.1) || (backToKw pos (keywordEach kws X.env)).any (·.1.isNone)) = false := by rfl) : PE X (.Call (.Name x p) (e :: es) kws pos) (tMakeN C n ks.length sp gV E t tk) := ⟨fun pins s σ H Q I h => by
  refine wpAny_Call_Name_kw (ld_glob I hg hm (PySem.W.callWith_KW (h₀ := X.base) I.ok.mod.kin M.kp hall (thn (ha.run pos pins s σ H _ I h) fun us s1 z => ?_) hpl he) hdb)
  obtain ⟨vs, H1, I1, r, q⟩ := z
  refine thn (hkw.run pos pins s1 σ H1 _ I1 q) fun ws s2 z => ?_
  obtain ⟨zs, H2, I2, rz, l1, l2, q2⟩ := z
  rw [hks]
  exact ⟨I2.kIn, run_makeN M F hr hb hx I2 r rz l1 l2 q2⟩⟩
theorem pe_makeK0 (M : Mk X.K C f) (F : FnOk X.prog X.w X.K X.mg X.base CX k f fd ps sp) (hr : Room (k + 1) X.A) (hg : Gl X x) (hm : X.mg x = some (.ref C)) (hb : KBn X.K fd ps 1 ks g gV) (hx : Passes CX X E) (hkw : PK X kws tk)
    (hall : (backToKw pos (keywordEach kws X.env)).all (·.1.isSome) = true := by rfl) (hks : (backToKw pos (keywordEach kws X.env)).filterMap (·.1) = ks := by rfl) (hdb : (x == ("__debug__" : Str)) = false := by decide)
    (hpl : ((backTo pos (starEach [] X.env)).any (·.1) || (backToKw pos (keywordEach kws X.env)).any (·.1.isNone)) = false := by rfl) : PE X (.Call (.Name x p) [] kws pos) (tMakeK C 0 ks.length sp gV E tNil tk) := ⟨fun pins s σ H Q I h => by
  refine wpAny_Call_Name_kw (ld_glob I hg hm (PySem.W.callWith_KW0 (h₀ := X.base) I.ok.mod.kin M.kp hall (thn (hkw.run pos pins s σ H _ I h) fun ws s2 z => ?_) hpl) hdb)
  obtain ⟨zs, H2, I2, rz, l1, l2, q2⟩ := z
  rw [hks]
  exact ⟨I2.kIn, run_makeN (us := []) (vs := []) M F hr hb hx I2 .nil rz rfl l2 q2⟩⟩
end
/-! ### a def by its body -/
theorem fd_ok {P : Program} {w : World} {K : PySem.W.Frag} {mg : Str → Option Value} {base : Heap} {x qual : Str} {params : Arguments} {body : List Stmt} {scope : Scope} {dvs : List V} {kws : List (Str × V)} {f : Addr} {fd : FuncData} {CX : CXT} {N ps : List Str} {k : Nat} {sp : Sp}
    (F : FunD K x qual params body scope dvs kws f fd) (S : FnScope N ps scope) (len : ∀ vs H Q E, sp vs H Q E → vs.length = ps.length)
    (hbody : ∀ (cdv : Value) (A : Around) (outer : List Env) (s : Shared) (H : Hp) (vs : List V) (Q : VK) (E : XK), Room k (A.deeper (envOfC qual scope s.heap.objs.size f cdv)) → sp vs H Q E → ∃ t, PSs (cxOf CX P w K mg base N qual scope f cdv A outer s H E) body t ∧ t { nx := fun _ H' => Q .non H', rt := Q } (start N vs) H) : FnOk P w K mg base CX (k + 1) f fd ps sp := by
  obtain ⟨oc, od, dV, kV, doc, pm, an, cdv, ct, osl, rfl, lk, hcd, _, _⟩ := F.ex
  refine ⟨len, fun A outer s H args us vs Q E hr e0 hb r hsp => ?_⟩
  have kx : K.In s.heap := e0.mod.kin.keeps fun b o e => (e0.bs b o e).1
  have nl := e0.mod.nolimit.keeps fun b o e => (e0.bs b o e).1
  have kinds : ∀ y ∈ ps.zip us, scope.names.lookup y.1 = some .local ∨ (scope.names.lookup y.1 = some .cell ∧ ((cellsFrom (s.heap.objs.size + 1) scope.names []).lookup y.1).isSome = true) := by
    rintro ⟨n, v⟩ hy
    exact (S.par n (List.of_mem_zip hy).1).imp id fun q => ⟨q, PySem.W.cellsFrom_some _ _ _ (.inl q)⟩
  refine codeAny_call_function hr.depth (kx _ _ lk) rfl S.co S.gen rfl (PySem.W.codeRec_of kx hcd) (hb _ _ _ _ (wpAny_newFunctionEnv_cells S.kind kinds fun env he s1 z => ?_))
  subst he
  obtain ⟨t, ht, hq⟩ := hbody cdv A outer s H vs Q E (hr.deeper _) hsp
  have I := inv_start (CX := CX) (E := E) S hr.hd e0 (len _ _ _ _ hsp) r z
  refine ⟨nl.keeps z.toInCall.keep, codeAny_func (wpAny_mono (ht.run [] s1 (start N vs) H _ I hq) (fun fl s' hs => ?_) fun e s' hs => hs)⟩
  cases fl with
  | ret u =>
    obtain ⟨v, σ', H', J, rv, q⟩ := hs
    exact ⟨v, H', J.os, J.bare, J.base, J.hok, rv, q⟩
  | next =>
    obtain ⟨σ', H', J, q⟩ := hs
    exact ⟨V.non, H', J.os, J.bare, J.base, J.hok, rfl, q⟩
  | brk => exact hs.elim fun _ z => z.elim fun _ z => z.2.elim
  | cont => exact hs.elim fun _ z => z.elim fun _ z => z.2.elim
/-! ### the law at the head -/
theorem law_callG {P : Program} {w : World} {K : PySem.W.Frag} {mg mb : Str → Option Value} {CX : CXT} {k : Nat} {fa a : Addr} {fd : FuncData} {x : Str} {sp : Sp} {s1 : Shared} {vs : List Value} {ns : List Int}
    (kx : K.In s1.heap) (gn : s1.heap.Ns mainGlobals mg) (bn : s1.heap.Ns builtinsNs mb) (bb : ∀ x : Str, x ≠ "__name__" → mb x = bootBuiltins x) (nl : s1.heap.NoLimit) (gs : s1.gens = #[]) (ha : s1.heap.get? a = some { cls := .type "list", data := .seq vs.toArray }) (hi : IntsAre vs ns) (hl : ns.length ≤ sizeLine) (hr : Room k callerA)
    (F : ∀ base : Heap, FnOk P w K mg base CX k fa fd [x] sp) (hbind : ∀ (s : Shared) (u : Value), BindsTo s fd ⟨[u], []⟩ [(x, u)]) (hsp : ∀ H : Hp, Only H → SqL K H a (ns.map V.int) → sp [.ref a] H (fun v _ => v = .bl true) fun _ _ _ => False) (hCX : ∀ H e s', CX [] H s1 (fun _ _ _ => False) e s' → False) :
    codeAny (model P w) callerA (.call (.ref fa) ⟨[.ref a], []⟩) (fun r s' => r = .ok (.ret (.bool true)) ∧ OldK s1.heap s'.heap ∧ s'.os = s1.os ∧ AllBare s'.gens) s1 := by
  have core : ∀ H : Hp, Only H → SqL K H a (ns.map V.int) → HOk P w H s1.heap → (∀ b, H b ≠ none → b = a) → (H a ≠ none → K.lookup a = none) → codeAny (model P w) callerA (.call (.ref fa) ⟨[.ref a], []⟩) (fun r s' => r = .ok (.ret (.bool true)) ∧ OldK s1.heap s'.heap ∧ s'.os = s1.os ∧ AllBare s'.gens) s1 := by
    intro H hO hS hok hA hK
    have old : ∀ {b : Addr} {o : Obj}, s1.heap.get? b = some o → H b = none → (hidT s1.heap H).get? b = some o := fun e n => hidT_get e n
    have just : ∀ b, H b = none ∨ b = a := fun b => by
      by_cases q : H b = none
      · exact .inl q
      · exact .inr (hA b q)
    have nsK : ∀ {b : Addr} {m : Str → Option Value}, s1.heap.Ns b m → (hidT s1.heap H).Ns b m := fun {b m} z => by
      obtain ⟨o, es, ep, e, d, r⟩ := z
      refine ⟨o, es, ep, old e ((just b).resolve_right fun z => ?_), d, r⟩
      rw [z, ha] at e
      cases e
      cases (show Data.seq vs.toArray _ = Data.dict es ep from d)
    have kb : K.In (hidT s1.heap H) := fun b o e => by
      refine old (kx b o e) ?_
      by_cases q : H b = none
      · exact q
      · have z := hA b q
        subst z
        rw [hK q] at e
        cases e
    obtain ⟨mc, l1, l2⟩ := nl
    have e0 : Env0 P w K mg (hidT s1.heap H) callerA [] s1 H := ⟨rfl, ⟨kb, nsK gn, ⟨mb, nsK bn, bb⟩, ⟨mc, nsK l1, l2⟩⟩, fun b o e => of_hidT e, Nat.le_of_eq (hidT_size _ _), trivial, fun b hb => absurd (show b ∈ ([] : List Addr) from hb) List.not_mem_nil, hok, .of_eq gs⟩
    refine codeAny_mono ((F _).run callerA [] s1 H ⟨[.ref a], []⟩ [.ref a] [.ref a] _ _ hr e0 (hbind s1 (.ref a)) (.cons rfl .nil) (hsp H hO hS)) fun r s' h => ?_
    rcases r with e | fl
    · exact (hCX H e s' h).elim
    · cases fl with
      | next => exact h.elim
      | brk => exact h.elim
      | cont => exact h.elim
      | ret u =>
        obtain ⟨v, H', o1, o2, un, hok', rv, rfl⟩ := h
        obtain rfl : u = Value.bool true := rv
        refine ⟨rfl, OldK.of_keep fun b o e => ?_, o1, o2⟩
        rcases hO b with z | ⟨ob, xs, z⟩
        · exact un.keep b o e z (fun q => absurd (show b ∈ ([] : List Addr) from q) List.not_mem_nil) (by simp)
        · obtain ⟨e1, _⟩ := hok b _ z
          obtain ⟨e2, _⟩ := hok' b _ (un.frzs b ob _ z)
          rw [e] at e1
          cases e1
          exact e2
  have rv := vals_ints hi
  cases hk : K.lookup a with
  | some o =>
    have e := kx a o hk
    rw [ha] at e
    cases e
    refine core (fun _ => none) (fun _ => .inl rfl) (.inr ⟨_, vs.toArray, _, hk, rfl, rfl, rfl, ?_, by simpa using rv⟩) (fun b u z => nomatch (show (none : Option HO) = some u from z)) (fun b z => absurd rfl z) fun z => absurd rfl z
    rw [List.size_toArray, hi.length]; exact hl
  | none =>
    let o0 : Obj := { cls := .type "list", data := .seq vs.toArray }
    let H0 : Hp := fun b => if b = a then some (.frz o0 (.lst (ns.map V.int))) else none
    have h1 : H0 a = some (.frz o0 (.lst (ns.map V.int))) := if_pos rfl
    have h2 : ∀ {b}, b ≠ a → H0 b = none := fun h => if_neg h
    refine core H0 (fun b => ?_) (.inl (.inr ⟨o0, h1⟩)) (fun b u z => ?_) (fun b z => ?_) fun _ => hk
    · by_cases q : b = a
      · subst q; exact .inr ⟨_, _, h1⟩
      · exact .inl (h2 q)
    · by_cases q : b = a
      · subst q; rw [h1] at z; cases z
        exact ⟨ha, by rw [List.length_map]; exact hl, vs, _, rv, ha⟩
      · rw [h2 q] at z; cases z
    · by_cases q : b = a
      · exact q
      · exact absurd (h2 q) z
theorem walk_ofG {l : PySem.W.OpenLaw} {n k : Nat} {q : Program} {loose : List Str} {XP : (Str → Option Value) → Heap → Prop} {YP : World → Heap → Prop} {d : DefRec} {CX : CXT} {x : Str} (hn : l.most = some n) (hn2 : n ≤ sizeLine) (hdf : d.params.defaults = []) (hr : Room k callerA)
    (F : ∀ (w : World) (mg : Str → Option Value) (fa : Addr) (h : Heap), YP w h → h.Ns mainGlobals mg → mg d.name = some (.ref fa) → ∃ (K : PySem.W.Frag) (fd : FuncData) (sp : Sp), K.In h ∧ (∀ (s : Shared) (u : Value), BindsTo s fd ⟨[u], []⟩ [(x, u)]) ∧
        (∀ (H : Hp) (a : Addr) (ns : List Int), ns.length ≤ n → Only H → SqL K H a (ns.map V.int) → sp [.ref a] H (fun v _ => v = .bl true) fun _ _ _ => False) ∧ ∀ base : Heap, FnOk l.prog w K mg base CX k fa fd [x] sp)
    (hCX : ∀ (H : Hp) (s : Shared) (e : Value) (s' : Shared), CX [] H s (fun _ _ _ => False) e s' → False) : PySem.W.WalkO q loose XP YP l.row.toRowW d [] (fun f vs => PySem.call f vs) := by
  refine Att.attach_call hn hdf fun w s0 s1 mg mb fa o pm cd doc a vs ns G Y ho hd hcd hmg hobj hints hlen hg => ?_
  obtain ⟨K, fd, sp, kx, hb, hsp, hF⟩ := F w mg fa _ Y G.T.g hmg
  exact law_callG kx G.T.g G.T.b G.T.builtins G.T.nolimit hg hobj hints (Nat.le_trans hlen hn2) hr hF hb (fun H hO hS => hsp H a ns hlen hO hS) fun H e s' => hCX H s1 e s'
end PL

set_option Elab.async false
set_option linter.all false
set_option maxRecDepth 100000
set_option maxHeartbeats 1000000
namespace PL
open PySem PySem.Spec PyProof.Rows L2
abbrev Ex := PySem.Expr
/-! ### the greatest readings -/
section
variable {X : Cx} {e : Ex} {σ : L2.St} {H : Hp}
def WE (X : Cx) (e : Ex) : TE := fun σ H Q => ∀ pins s, Inv X pins σ H s → wpAny (model X.prog X.w) X.A (eval e X.env) (EP X pins σ Q) X.xe s
theorem we_pe : PE X e (WE X e) := ⟨fun pins s σ H Q I h => h pins s I⟩
theorem pe_we {t : TE} {Q : VK} (h : PE X e t) (q : t σ H Q) : WE X e σ H Q := fun pins s I => h.run pins s σ H Q I q
def WT (X : Cx) (e : Ex) : TT := fun σ H Q => ∀ pins s, Inv X pins σ H s → wpAny (model X.prog X.w) X.A (isTrue e X.env (eval e X.env)) (TP X pins σ Q) X.xe s
theorem wt_pt : PT X e (WT X e) := ⟨fun pins s σ H Q I h => h pins s I⟩
theorem pt_wt {t : TT} {Q : Bool → Hp → Prop} (h : PT X e t) (q : t σ H Q) : WT X e σ H Q := fun pins s I => h.run pins s σ H Q I q
def WW (X : Cx) (e : Ex) : TT := fun σ H Q => ∀ whole pins s, Inv X pins σ H s → wpAny (model X.prog X.w) X.A (isTrue e X.env whole) (TP X pins σ Q) X.xe s
theorem ww_pw : PW X e (WW X e) := ⟨fun wh pins s σ H Q I h => h wh pins s I⟩
theorem pw_ww {t : TT} {Q : Bool → Hp → Prop} (h : PW X e t) (q : t σ H Q) : WW X e σ H Q := fun wh pins s I => h.run wh pins s σ H Q I q
def WA (X : Cx) (es : List Ex) : TA := fun σ H Q => ∀ pos pins s, Inv X pins σ H s → wpAny (model X.prog X.w) X.A (spliced (backTo pos (starEach es X.env))) (AP X pins σ Q) X.xe s
theorem wa_pa {es : List Ex} : PA X es (WA X es) := ⟨fun pos pins s σ H Q I h => h pos pins s I⟩
theorem pa_wa {es : List Ex} {t : TA} {Q : List V → Hp → Prop} (h : PA X es t) (q : t σ H Q) : WA X es σ H Q := fun pos pins s I => h.run pos pins s σ H Q I q
def W1 (X : Cx) (st : Stmt) : TS := fun D σ H => ∀ pins s, Inv X pins σ H s → wpAny (model X.prog X.w) X.A (exec st X.env) (SP X pins D) X.xe s
theorem w1_ps {st : Stmt} : PS X st (W1 X st) := ⟨fun pins s σ H D I h => h pins s I⟩
theorem ps_w1 {st : Stmt} {t : TS} {D : Ends} (h : PS X st t) (q : t D σ H) : W1 X st D σ H := fun pins s I => h.run pins s σ H D I q
def WS (X : Cx) (st : List Stmt) : TS := fun D σ H => ∀ pins s, Inv X pins σ H s → wpAny (model X.prog X.w) X.A (execs st X.env) (SP X pins D) X.xe s
theorem ws_pss {st : List Stmt} : PSs X st (WS X st) := ⟨fun pins s σ H D I h => h pins s I⟩
theorem pss_ws {st : List Stmt} {t : TS} {D : Ends} (h : PSs X st t) (q : t D σ H) : WS X st D σ H := fun pins s I => h.run pins s σ H D I q
end
/-! ### judgements -/
def EX (X : Cx) (Γ : Gm) (e : Ex) (r : Rs) (Γ' : Gm) : Prop := ∀ F σ H S (Q : VK), RS X.K F Γ σ H S →
  (∀ v H' S', RS X.K F Γ' σ H' S' → Same S S' → RsOk X.K F Γ' σ H' S' r v → Q v H') → WE X e σ H Q
def TX (X : Cx) (Γ : Gm) (e : Ex) (b : Bool) (Γ' : Gm) : Prop := ∀ F σ H S (Q : Bool → Hp → Prop), RS X.K F Γ σ H S →
  (∀ H' S', RS X.K F Γ' σ H' S' → Same S S' → Q b H') → WT X e σ H Q
def WX (X : Cx) (Γ : Gm) (e : Ex) (b : Bool) (Γ' : Gm) : Prop := ∀ F σ H S (Q : Bool → Hp → Prop), RS X.K F Γ σ H S →
  (∀ H' S', RS X.K F Γ' σ H' S' → Same S S' → Q b H') → WW X e σ H Q
def AX (X : Cx) (Γ : Gm) (es : List Ex) (ds : List D) (Γ' : Gm) : Prop := ∀ F σ H S (Q : List V → Hp → Prop), RS X.K F Γ σ H S →
  (∀ vs H' S', RS X.K F Γ' σ H' S' → Same S S' → Reps X.K S' ds vs → Q vs H') → WA X es σ H Q
inductive Out where
  | nx (Γ : Gm) | rt (r : Rs) (Γ : Gm) | bk (Γ : Gm) | ct (Γ : Gm)
def OutOk (K : PySem.W.Frag) (F : Fr) (S : Hp) (D : Ends) : Out → Prop
  | .nx Γ => ∀ σ H S', RS K F Γ σ H S' → Same S S' → D.nx σ H
  | .bk Γ => ∀ σ H S', RS K F Γ σ H S' → Same S S' → D.bk σ H
  | .ct Γ => ∀ σ H S', RS K F Γ σ H S' → Same S S' → D.ct σ H
  | .rt r Γ => ∀ v σ H S', RS K F Γ σ H S' → Same S S' → RsOk K F Γ σ H S' r v → D.rt v H
def S1 (X : Cx) (Γ : Gm) (st : Stmt) (o : Out) : Prop := ∀ F σ H S D, RS X.K F Γ σ H S → OutOk X.K F S D o → W1 X st D σ H
def SX (X : Cx) (Γ : Gm) (st : List Stmt) (o : Out) : Prop := ∀ F σ H S D, RS X.K F Γ σ H S → OutOk X.K F S D o → WS X st D σ H
theorem OutOk.mono {K : PySem.W.Frag} {F : Fr} {S S' : Hp} {D : Ends} {o : Out} (e : Same S S') (h : OutOk K F S D o) : OutOk K F S' D o := by
  cases o with
  | nx Γ => exact fun σ H S'' R s => h σ H S'' R (e.trans s)
  | bk Γ => exact fun σ H S'' R s => h σ H S'' R (e.trans s)
  | ct Γ => exact fun σ H S'' R s => h σ H S'' R (e.trans s)
  | rt r Γ => exact fun v σ H S'' R s q => h v σ H S'' R (e.trans s) q
/-- a state may be seen as another -/
def Cv (K : PySem.W.Frag) (Γ Γ' : Gm) : Prop := ∀ F σ H S, RS K F Γ σ H S → ∃ S', Same S S' ∧ RS K F Γ' σ H S'
structure Gd (k : Nat) (X : Cx) : Prop where
  calm : X.calm = true
  nd : X.N.Nodup
  po : PassesOwn (model X.prog X.w) X.A X.env X.xe
  rm : Room k X.A
section
variable {X : Cx} {Γ Γ1 Γ2 Γ3 : Gm} {e a b c : Ex} {pos : Pos} {d d1 d2 : D} {r : Rs}
theorem Cv.refl {K : PySem.W.Frag} : Cv K Γ Γ := fun F σ H S R => ⟨S, .refl _, R⟩
theorem Cv.trans {K : PySem.W.Frag} (h1 : Cv K Γ Γ1) (h2 : Cv K Γ1 Γ2) : Cv K Γ Γ2 := fun F σ H S R => by
  obtain ⟨S1, e1, R1⟩ := h1 F σ H S R
  obtain ⟨S2, e2, R2⟩ := h2 F σ H S1 R1
  exact ⟨S2, e1.trans e2, R2⟩
theorem Wk.cv {K : PySem.W.Frag} (w : Wk Γ Γ1) : Cv K Γ Γ1 := fun F σ H S R => ⟨S, .refl _, R.weak w⟩
theorem e_cv (w : Cv X.K Γ Γ1) (h : EX X Γ1 e r Γ2) : EX X Γ e r Γ2 := fun F σ H S Q R q => by
  obtain ⟨S1, e1, R1⟩ := w F σ H S R
  exact h F σ H S1 Q R1 fun v H' S' R' s ok => q v H' S' R' (e1.trans s) ok
theorem s_cv {st : List Stmt} {o : Out} (w : Cv X.K Γ Γ1) (h : SX X Γ1 st o) : SX X Γ st o := fun F σ H S D R q => by
  obtain ⟨S1, e1, R1⟩ := w F σ H S R
  exact h F σ H S1 D R1 (q.mono e1)
theorem s_wk {st : List Stmt} (h : SX X Γ st (.nx Γ1)) (w : Cv X.K Γ1 Γ2) : SX X Γ st (.nx Γ2) := fun F σ H S D R q =>
  h F σ H S D R fun σ' H' S' R' s => by
    obtain ⟨S2, e2, R2⟩ := w F σ' H' S' R'
    exact q σ' H' S2 R2 (s.trans e2)
theorem s1_wk {st : Stmt} (h : S1 X Γ st (.nx Γ1)) (w : Cv X.K Γ1 Γ2) : S1 X Γ st (.nx Γ2) := fun F σ H S D R q =>
  h F σ H S D R fun σ' H' S' R' s => by
    obtain ⟨S2, e2, R2⟩ := w F σ' H' S' R'
    exact q σ' H' S2 R2 (s.trans e2)
theorem e_wk (h : EX X Γ e (.sh d) Γ1) (w : Cv X.K Γ1 Γ2) : EX X Γ e (.sh d) Γ2 := fun F σ H S Q R q =>
  h F σ H S Q R fun v H' S' R' s ok => by
    obtain ⟨S2, e2, R2⟩ := w F σ H' S' R'
    exact q v H' S2 R2 (s.trans e2) (Rep.mono e2 _ _ ok)
/-- a new object of one's own is shared -/
theorem RS.frz {K : PySem.W.Frag} {F : Fr} {Γ : Gm} {σ : L2.St} {H S : Hp} {o : Ob} {v : V} (R : RS K F Γ σ H S) (h : RsOk K F Γ σ H S (.ow o) v) : ∃ S', Same S S' ∧ RS K F Γ σ H S' ∧ Rep K S' o.d v := by
  obtain ⟨p, rfl, n, n0, ob, no⟩ := h
  obtain ⟨x, hx⟩ := ob.there
  have hs := same_upd (o := x) n
  refine ⟨upd S p x, hs, R.share hs (fun b u e => ?_) (fun b u e z => ?_), ObR.rep (H := H) (fun u q => ?_) (ob.mono hs fun _ z => z)⟩
  · by_cases hb : b = p
    · subst hb; rw [upd_same] at e; cases e; exact hx
    · rw [upd_ne hb] at e; exact R.sh b u e
  · by_cases hb : b = p
    · subst hb; exact ⟨n0, no⟩
    · rw [upd_ne hb] at e; rw [e] at z; cases z
  · rw [upd_same, ← hx, q]
theorem e_frz {o : Ob} (h : EX X Γ e (.ow o) Γ1) : EX X Γ e (.sh o.d) Γ1 := fun F σ H S Q R q =>
  h F σ H S Q R fun v H' S' R' s ok => by
    obtain ⟨S2, e2, R2, rp⟩ := R'.frz ok
    exact q v H' S2 R2 (s.trans e2) rp
/-- a slot's own object is shared from now on -/
theorem cv_frz {K : PySem.W.Frag} {i : Nat} {o : Ob} (h : Γ[i]? = some (.ow o)) : Cv K Γ (Γ.set i (.sh o.d)) := fun F σ H S R => by
  obtain ⟨p, ep, n, n0, ob⟩ := R.sl i _ h
  obtain ⟨x, hx⟩ := ob.there
  have hs := same_upd (o := x) n
  have hi : i < Γ.length := (List.getElem?_eq_some_iff.mp h).1
  have own : OwnAt Γ σ i p := ⟨.inl ⟨o, h⟩, ep⟩
  have ow : ∀ j b, OwnAt (Γ.set i (.sh o.d)) σ j b → j ≠ i ∧ OwnAt Γ σ j b := fun j b ⟨hj, q⟩ => by
    by_cases e : j = i
    · subst e
      rw [List.getElem?_set_self hi] at hj
      rcases hj with ⟨_, z⟩ | ⟨_, _, z⟩ <;> cases z
    · rw [List.getElem?_set_ne (Ne.symm e)] at hj
      exact ⟨e, hj, q⟩
  refine ⟨upd S p x, hs, R.s0.trans hs, fun b u e => ?_, fun b u e n' z => ?_, R.kp, R.th, fun j s e => ?_, fun j k b ne q1 q2 => R.ne j k b ne (ow j b q1).2 (ow k b q2).2, by rw [List.length_set]; exact R.len⟩
  · by_cases hb : b = p
    · subst hb; rw [upd_same] at e; cases e; exact hx
    · rw [upd_ne hb] at e; exact R.sh b u e
  · have hb : b ≠ p := fun hb => by
      subst hb
      rcases n0 with z1 | z1
      · rw [e] at z1; cases z1
      · exact n' z1
    rw [upd_ne hb]
    exact R.new b u e n' z
  · by_cases hj : j = i
    · subst hj
      rw [List.getElem?_set_self hi] at e
      cases e
      exact ⟨_, ep, ObR.rep (H := H) (fun u q => by rw [upd_same, ← hx, q]) (ob.mono hs fun _ z => z)⟩
    · rw [List.getElem?_set_ne (Ne.symm hj)] at e
      have q := R.sl j s e
      have nn : ∀ b, OwnAt Γ σ j b → S b = none → (upd S p x) b = none := fun b w z => by
        rw [upd_ne (fun hb : b = p => R.ne j i b hj w (by rw [hb]; exact own))]
        exact z
      cases s with
      | un => trivial
      | sh d => obtain ⟨v, e1, e2⟩ := q; exact ⟨v, e1, Rep.mono hs _ _ e2⟩
      | ow o' => obtain ⟨b, e1, e2, e3, e4⟩ := q; exact ⟨b, e1, nn b ⟨.inl ⟨o', e⟩, e1⟩ e2, e3, e4.mono hs fun _ z => z⟩
      | pr p' o' => obtain ⟨e1, e2, e3, e4⟩ := q; exact ⟨e1, nn p' ⟨.inr ⟨p', o', e⟩, e1⟩ e2, e3, e4.mono hs fun _ z => z⟩

/-! ### leaves -/
theorem e_of {t : TE} (h : PE X e t) (v : V) (hv : ∀ S, Rep X.K S d v) (ht : ∀ σ H (Q : VK), Q v H → t σ H Q) : EX X Γ e (.sh d) Γ := fun F σ H S Q R q =>
  pe_we h (ht σ H Q (q v H S R (.refl _) (hv S)))
theorem e_int {i : Int} {j} : EX X Γ (.Constant (.int i) j pos) (.sh (.int i)) Γ := e_of pe_int (.int i) (fun _ => rfl) fun _ _ _ q => q
theorem e_str {x : Str} {j} : EX X Γ (.Constant (.str x) j pos) (.sh (.str x)) Γ := e_of pe_str (.str x) (fun _ => rfl) fun _ _ _ q => q
theorem e_bl {x : Bool} {j} : EX X Γ (.Constant (.bool x) j pos) (.sh (.bl x)) Γ := e_of pe_bl (.bl x) (fun _ => rfl) fun _ _ _ q => q
theorem e_non {j} : EX X Γ (.Constant .none j pos) (.sh .non) Γ := e_of pe_non .non (fun _ => rfl) fun _ _ _ q => q
theorem e_glob {x : Str} {v : V} {u : Value} (hm : X.mg x = some u) (r : RelV v u) (hv : ∀ S, Rep X.K S d v) (hg : Gl X x := by rfl) (hd : (x == ("__debug__" : Str)) = false := by decide) : EX X Γ (.Name x pos) (.sh d) Γ :=
  e_of (pe_glob hg hm r hd) v hv fun _ _ _ q => q
theorem e_ty {x : Str} {T : String} (hm : X.mg x = none) (hv : bootBuiltins x = some (.type T)) (hg : Gl X x := by rfl) (hn : x ≠ "__name__" := by decide) (hd : (x == ("__debug__" : Str)) = false := by decide) : EX X Γ (.Name x pos) (.sh (.raw (.ty T))) Γ :=
  e_of (pe_bltn hg hm hv (v := .ty T) rfl hn hd) (.ty T) (fun _ => rfl) fun _ _ _ q => q
theorem e_var (i : Nat) {x : Str} (h : Γ[i]? = some (.sh d) := by rfl) (hN : X.N[i]? = some x := by rfl) (hv : Vis X.env.scope x := by first | exact Or.inl rfl | exact Or.inr (Or.inl rfl) | exact Or.inr (Or.inr rfl)) (hd : (x == ("__debug__" : Str)) = false := by decide)
    (hcd : (x == ("__classdict__" : Str)) = false := by decide) : EX X Γ (.Name x pos) (.sh d) Γ := fun F σ H S Q R q => by
  obtain ⟨v, e, rp⟩ := R.sl i _ h
  exact pe_we (pe_var hN hv hd hcd) ⟨v, e, q v H S R (.refl _) rp⟩
theorem e_varB (i : Nat) {x : Str} {o : Ob} (h : Γ[i]? = some (.ow o) := by rfl) (hN : X.N[i]? = some x := by rfl) (hv : Vis X.env.scope x := by first | exact Or.inl rfl | exact Or.inr (Or.inl rfl) | exact Or.inr (Or.inr rfl)) (hd : (x == ("__debug__" : Str)) = false := by decide)
    (hcd : (x == ("__classdict__" : Str)) = false := by decide) : EX X Γ (.Name x pos) (.br i) Γ := fun F σ H S Q R q => by
  obtain ⟨p, e, _⟩ := R.sl i _ h
  exact pe_we (pe_var hN hv hd hcd) ⟨_, e, q _ H S R (.refl _) ⟨p, rfl, .inl ⟨o, h⟩, e⟩⟩
theorem e_varP (i : Nat) {x : Str} {o : Ob} {p : Addr} (h : Γ[i]? = some (.pr p o) := by rfl) (hN : X.N[i]? = some x := by rfl) (hv : Vis X.env.scope x := by first | exact Or.inl rfl | exact Or.inr (Or.inl rfl) | exact Or.inr (Or.inr rfl)) (hd : (x == ("__debug__" : Str)) = false := by decide)
    (hcd : (x == ("__classdict__" : Str)) = false := by decide) : EX X Γ (.Name x pos) (.br i) Γ := fun F σ H S Q R q => by
  obtain ⟨e, _⟩ := R.sl i _ h
  exact pe_we (pe_var hN hv hd hcd) ⟨_, e, q _ H S R (.refl _) ⟨p, rfl, .inr ⟨p, o, h⟩, e⟩⟩

/-! ### operations on shared data -/
def OpS (X : Cx) (f : Value → Value → Sem Value) (d1 d2 : D) (r : Rs) : Prop := ∃ rr, OpR X f rr ∧ ∀ Γ F σ H S x y (Q : VK), RS X.K F Γ σ H S → Rep X.K S d1 x → Rep X.K S d2 y →
  (∀ v H' S', RS X.K F Γ σ H' S' → Same S S' → RsOk X.K F Γ σ H' S' r v → Q v H') → rr x y H Q
theorem e_bin {op : Operator} (ho : OpS X (binaryOp op) d1 d2 r) (h1 : EX X Γ a (.sh d1) Γ1) (h2 : EX X Γ1 b (.sh d2) Γ2) : EX X Γ (.BinOp a op b pos) r Γ2 := fun F σ H S Q R q => by
  obtain ⟨rr, hr, hq⟩ := ho
  refine pe_we (pe_op hr we_pe we_pe) (h1 F σ H S _ R fun x H1 S1 R1 s1 r1 => h2 F σ H1 S1 _ R1 fun y H2 S2 R2 s2 r2 => hq Γ2 F σ H2 S2 x y Q R2 (Rep.mono s2 _ _ r1) r2 fun v H3 S3 R3 s3 ok => q v H3 S3 R3 ((s1.trans s2).trans s3) ok)
theorem e_cmp {op : CmpOp} (ho : OpS X (compareOp op) d1 d2 r) (h1 : EX X Γ a (.sh d1) Γ1) (h2 : EX X Γ1 b (.sh d2) Γ2) (hm : behindInMarks op b = false := by first | exact nomark _ | rfl) : EX X Γ (.Compare a [op] [b] pos) r Γ2 := fun F σ H S Q R q => by
  obtain ⟨rr, hr, hq⟩ := ho
  refine pe_we (pe_cmpR hr we_pe we_pe hm) (h1 F σ H S _ R fun x H1 S1 R1 s1 r1 => h2 F σ H1 S1 _ R1 fun y H2 S2 R2 s2 r2 => hq Γ2 F σ H2 S2 x y Q R2 (Rep.mono s2 _ _ r1) r2 fun v H3 S3 R3 s3 ok => q v H3 S3 R3 ((s1.trans s2).trans s3) ok)
theorem t_cmp {op : CmpOp} {k : Bool} (ho : OpS X (compareOp op) d1 d2 (.sh (.bl k))) (h1 : EX X Γ a (.sh d1) Γ1) (h2 : EX X Γ1 b (.sh d2) Γ2) (hm : behindInMarks op b = false := by first | exact nomark _ | rfl) : TX X Γ (.Compare a [op] [b] pos) k Γ2 := fun F σ H S Q R q => by
  obtain ⟨rr, hr, hq⟩ := ho
  refine pt_wt (pt_cmpR hr we_pe we_pe hm) (h1 F σ H S _ R fun x H1 S1 R1 s1 r1 => h2 F σ H1 S1 _ R1 fun y H2 S2 R2 s2 r2 => hq Γ2 F σ H2 S2 x y _ R2 (Rep.mono s2 _ _ r1) r2 fun v H3 S3 R3 s3 ok => ⟨k, ok, q H3 S3 R3 ((s1.trans s2).trans s3)⟩)
/-- a chain whose first link fails; holds -/
theorem e_chainF {op op' : CmpOp} {r' : R2} (ho' : OpR X (compareOp op') r') (ho : OpS X (compareOp op) d1 d2 (.sh (.bl false))) (h1 : EX X Γ a (.sh d1) Γ1) (h2 : EX X Γ1 b (.sh d2) Γ2) (hm : lastMarks [op, op'] [b, c] = false := by rfl) : EX X Γ (.Compare a [op, op'] [b, c] pos) (.sh (.bl false)) Γ2 := fun F σ H S Q R q => by
  obtain ⟨rr, hr, hq⟩ := ho
  refine pe_we (pe_chain hr ho' we_pe we_pe we_pe hm) (h1 F σ H S _ R fun x H1 S1 R1 s1 r1 => h2 F σ H1 S1 _ R1 fun y H2 S2 R2 s2 r2 => hq Γ2 F σ H2 S2 x y _ R2 (Rep.mono s2 _ _ r1) r2 fun v H3 S3 R3 s3 ok => ⟨false, ok, iteF (q _ H3 S3 R3 ((s1.trans s2).trans s3) rfl)⟩)
theorem e_chainT {op op' : CmpOp} {d3 : D} (ho : OpS X (compareOp op) d1 d2 (.sh (.bl true))) (ho' : OpS X (compareOp op') d2 d3 r) (h1 : EX X Γ a (.sh d1) Γ1) (h2 : EX X Γ1 b (.sh d2) Γ2) (h3 : EX X Γ2 c (.sh d3) Γ3) (hm : lastMarks [op, op'] [b, c] = false := by rfl) : EX X Γ (.Compare a [op, op'] [b, c] pos) r Γ3 := fun F σ H S Q R q => by
  obtain ⟨rr, hr, hq⟩ := ho
  obtain ⟨rr', hr', hq'⟩ := ho'
  refine pe_we (pe_chain hr hr' we_pe we_pe we_pe hm) (h1 F σ H S _ R fun x H1 S1 R1 s1 r1 => h2 F σ H1 S1 _ R1 fun y H2 S2 R2 s2 r2 => hq Γ2 F σ H2 S2 x y _ R2 (Rep.mono s2 _ _ r1) r2 fun v H3 S3 R3 s3 ok => ⟨true, ok, iteT ?_⟩)
  exact h3 F σ H3 S3 _ R3 fun z H4 S4 R4 s4 r4 => hq' Γ3 F σ H4 S4 y z Q R4 (Rep.mono (s3.trans s4) _ _ r2) r4 fun v H5 S5 R5 s5 ok => q v H5 S5 R5 ((((s1.trans s2).trans s3).trans s4).trans s5) ok
end
end PL

set_option Elab.async false
set_option linter.all false
set_option maxRecDepth 100000
set_option maxHeartbeats 1000000
namespace PL
open PySem PySem.Spec PyProof.Rows L2
section
variable {X : Cx} {Γ Γ1 Γ2 Γ3 : Gm} {e a b c : Ex} {pos : Pos} {d d1 d2 : D} {r : Rs} {rest es : List Ex} {k k' : Bool}
/-! ### tests, and, or, not -/
theorem t_val (h : EX X Γ e (.sh (.bl k)) Γ1) (he : ∀ whole, isTrue e X.env whole = (do let v ← whole; standAt e.pos; holding [v] (truthy v)) := by intro _; rfl) : TX X Γ e k Γ1 := fun F σ H S Q R q =>
  pt_wt (pt_val we_pe he) (h F σ H S _ R fun v H' S' R' s ok => ⟨k, ok, q H' S' R' s⟩)
/-- truth of a list, a text, a number -/
def TruD : D → Bool → Prop
  | .non, k => k = false
  | .bl b, k => k = b
  | .int i, k => k = (i != 0)
  | .str x, k => x.length ≤ sizeLine ∧ k = ((x.length : Int) != 0)
  | .tup ds, k => k = !ds.isEmpty
  | .lst ds, k => k = !ds.isEmpty
  | _, _ => False
theorem isE {K : PySem.W.Frag} {S : Hp} {ds : List D} {vs : List V} (h : Reps K S ds vs) : (!ds.isEmpty) = !vs.isEmpty := by
  have e := h.length
  cases ds <;> cases vs <;> first | rfl | cases e
theorem TruD.v {K : PySem.W.Frag} {S H : Hp} {d : D} {v : V} {k : Bool} (h : TruD d k) (r : Rep K S d v) (s : Same S H) : TruV K v H k := by
  cases d with
  | non => rw [show v = .non from r]; exact h
  | bl b => rw [show v = .bl b from r]; exact h
  | int b => rw [show v = .int b from r]; exact h
  | str b => rw [show v = .str b from r]; exact h
  | tup ds => obtain ⟨p, vs, rfl, h1, h2⟩ := r; exact .inr (.inl ⟨vs, same_sqt s h1, by rw [show k = _ from h, isE h2]⟩)
  | lst ds => obtain ⟨p, vs, rfl, h1, h2⟩ := r; exact .inl ⟨vs, .inl (.inl (s _ _ h1)), by rw [show k = _ from h, isE h2]⟩
  | _ => exact h.elim
theorem t_tru (h : EX X Γ e (.sh d) Γ1) (ht : TruD d k) (he : ∀ whole, isTrue e X.env whole = (do let v ← whole; standAt e.pos; holding [v] (truthy v)) := by intro _; rfl) : TX X Γ e k Γ1 := fun F σ H S Q R q =>
  pt_wt (pt_truth we_pe he) (h F σ H S _ R fun v H' S' R' s ok => ⟨k, ht.v ok R'.sh, q H' S' R' s⟩)
theorem t_not (h : TX X Γ a k Γ1) : TX X Γ (.UnaryOp .Not a pos) (!k) Γ1 := fun F σ H S Q R q => pt_wt (pt_not wt_pt) (h F σ H S _ R q)
theorem t_w (h : WX X Γ e k Γ1) : TX X Γ e k Γ1 := fun F σ H S Q R q => pt_wt (ww_pw.pt) (h F σ H S _ R q)
theorem w_and1 (h : TX X Γ a k Γ1) : WX X Γ (.BoolOp .And [a] pos) k Γ1 := fun F σ H S Q R q => pw_ww (pw_and1 wt_pt) (h F σ H S _ R q)
theorem w_or1 (h : TX X Γ a k Γ1) : WX X Γ (.BoolOp .Or [a] pos) k Γ1 := fun F σ H S Q R q => pw_ww (pw_or1 wt_pt) (h F σ H S _ R q)
theorem w_andT (h : TX X Γ a true Γ1) (h2 : WX X Γ1 (.BoolOp .And (b :: rest) pos) k Γ2) : WX X Γ (.BoolOp .And (a :: b :: rest) pos) k Γ2 := fun F σ H S Q R q =>
  pw_ww (pw_and wt_pt ww_pw) (h F σ H S _ R fun H1 S1 R1 s1 => iteT (h2 F σ H1 S1 _ R1 fun H2 S2 R2 s2 => q H2 S2 R2 (s1.trans s2)))
theorem w_andF (h : TX X Γ a false Γ1) : WX X Γ (.BoolOp .And (a :: b :: rest) pos) false Γ1 := fun F σ H S Q R q =>
  pw_ww (pw_and wt_pt ww_pw) (h F σ H S _ R fun H1 S1 R1 s1 => iteF (q H1 S1 R1 s1))
theorem w_orF (h : TX X Γ a false Γ1) (h2 : WX X Γ1 (.BoolOp .Or (b :: rest) pos) k Γ2) : WX X Γ (.BoolOp .Or (a :: b :: rest) pos) k Γ2 := fun F σ H S Q R q =>
  pw_ww (pw_or wt_pt ww_pw) (h F σ H S _ R fun H1 S1 R1 s1 => iteF (h2 F σ H1 S1 _ R1 fun H2 S2 R2 s2 => q H2 S2 R2 (s1.trans s2)))
theorem w_orT (h : TX X Γ a true Γ1) : WX X Γ (.BoolOp .Or (a :: b :: rest) pos) true Γ1 := fun F σ H S Q R q =>
  pw_ww (pw_or wt_pt ww_pw) (h F σ H S _ R fun H1 S1 R1 s1 => iteT (q H1 S1 R1 s1))
/-- both ways, no effect -/
theorem w_and (h : TX X Γ a k Γ) (h2 : k = true → WX X Γ (.BoolOp .And (b :: rest) pos) k' Γ) : WX X Γ (.BoolOp .And (a :: b :: rest) pos) (k && k') Γ := by
  cases k with
  | true => exact w_andT h (h2 rfl)
  | false => exact w_andF h
theorem w_or (h : TX X Γ a k Γ) (h2 : k = false → WX X Γ (.BoolOp .Or (b :: rest) pos) k' Γ) : WX X Γ (.BoolOp .Or (a :: b :: rest) pos) (k || k') Γ := by
  cases k with
  | true => exact w_orT h
  | false => exact w_orF h (h2 rfl)
theorem e_not (h : EX X Γ a (.sh (.bl k)) Γ1) : EX X Γ (.UnaryOp .Not a pos) (.sh (.bl (!k))) Γ1 := fun F σ H S Q R q =>
  pe_we (pe_not we_pe) (h F σ H S _ R fun v H' S' R' s ok => ⟨k, ok, q _ H' S' R' s rfl⟩)
theorem e_one {op : BoolOp} (h : EX X Γ a r Γ1) : EX X Γ (.BoolOp op [a] pos) r Γ1 := fun F σ H S Q R q => pe_we (pe_one we_pe) (h F σ H S _ R q)
theorem e_andT (h : EX X Γ a (.sh (.bl true)) Γ1) (h2 : EX X Γ1 (.BoolOp .And (b :: rest) pos) r Γ2) : EX X Γ (.BoolOp .And (a :: b :: rest) pos) r Γ2 := fun F σ H S Q R q =>
  pe_we (pe_and we_pe we_pe) (h F σ H S _ R fun v H1 S1 R1 s1 ok => ⟨true, ok, iteT (h2 F σ H1 S1 _ R1 fun v H2 S2 R2 s2 ok => q v H2 S2 R2 (s1.trans s2) ok)⟩)
theorem e_andF (h : EX X Γ a (.sh (.bl false)) Γ1) : EX X Γ (.BoolOp .And (a :: b :: rest) pos) (.sh (.bl false)) Γ1 := fun F σ H S Q R q =>
  pe_we (pe_and we_pe we_pe) (h F σ H S _ R fun v H1 S1 R1 s1 ok => ⟨false, ok, iteF (q _ H1 S1 R1 s1 rfl)⟩)
theorem e_orF (h : EX X Γ a (.sh (.bl false)) Γ1) (h2 : EX X Γ1 (.BoolOp .Or (b :: rest) pos) r Γ2) : EX X Γ (.BoolOp .Or (a :: b :: rest) pos) r Γ2 := fun F σ H S Q R q =>
  pe_we (pe_or we_pe we_pe) (h F σ H S _ R fun v H1 S1 R1 s1 ok => ⟨false, ok, iteF (h2 F σ H1 S1 _ R1 fun v H2 S2 R2 s2 ok => q v H2 S2 R2 (s1.trans s2) ok)⟩)
theorem e_orT (h : EX X Γ a (.sh (.bl true)) Γ1) : EX X Γ (.BoolOp .Or (a :: b :: rest) pos) (.sh (.bl true)) Γ1 := fun F σ H S Q R q =>
  pe_we (pe_or we_pe we_pe) (h F σ H S _ R fun v H1 S1 R1 s1 ok => ⟨true, ok, iteT (q _ H1 S1 R1 s1 rfl)⟩)
theorem e_and (h : EX X Γ a (.sh (.bl k)) Γ) (h2 : k = true → EX X Γ (.BoolOp .And (b :: rest) pos) (.sh (.bl k')) Γ) : EX X Γ (.BoolOp .And (a :: b :: rest) pos) (.sh (.bl (k && k'))) Γ := by
  cases k with
  | true => exact e_andT h (h2 rfl)
  | false => exact e_andF h
theorem e_or (h : EX X Γ a (.sh (.bl k)) Γ) (h2 : k = false → EX X Γ (.BoolOp .Or (b :: rest) pos) (.sh (.bl k')) Γ) : EX X Γ (.BoolOp .Or (a :: b :: rest) pos) (.sh (.bl (k || k'))) Γ := by
  cases k with
  | true => exact e_orT h
  | false => exact e_orF h (h2 rfl)
theorem e_ifT (h : TX X Γ c true Γ1) (h2 : EX X Γ1 a r Γ2) : EX X Γ (.IfExp c a b pos) r Γ2 := fun F σ H S Q R q =>
  pe_we (pe_ifExp wt_pt we_pe we_pe) (h F σ H S _ R fun H1 S1 R1 s1 => iteT (h2 F σ H1 S1 _ R1 fun v H2 S2 R2 s2 ok => q v H2 S2 R2 (s1.trans s2) ok))
theorem e_ifF (h : TX X Γ c false Γ1) (h2 : EX X Γ1 b r Γ2) : EX X Γ (.IfExp c a b pos) r Γ2 := fun F σ H S Q R q =>
  pe_we (pe_ifExp wt_pt we_pe we_pe) (h F σ H S _ R fun H1 S1 R1 s1 => iteF (h2 F σ H1 S1 _ R1 fun v H2 S2 R2 s2 ok => q v H2 S2 R2 (s1.trans s2) ok))
/-! ### arguments, displays -/
theorem a_nil : AX X Γ [] [] Γ := fun F σ H S Q R q => pa_wa pa_nil (q [] H S R (.refl _) rfl)
theorem a_cons {ds : List D} (h : EX X Γ e (.sh d) Γ1) (h2 : AX X Γ1 es ds Γ2) (hs : starEach (e :: es) X.env = (false, eval e X.env) :: starEach es X.env := by rfl) : AX X Γ (e :: es) (d :: ds) Γ2 := fun F σ H S Q R q =>
  pa_wa (pa_cons we_pe wa_pa hs) (h F σ H S _ R fun v H1 S1 R1 s1 ok => h2 F σ H1 S1 _ R1 fun vs H2 S2 R2 s2 ok2 => q _ H2 S2 R2 (s1.trans s2) (.cons (Rep.mono s2 _ _ ok) ok2))
theorem e_tup {ds : List D} {x1} (h : AX X Γ es ds Γ1) (hl : ds.length ≤ sizeLine := by exact Nat.le_of_ble_eq_true rfl) : EX X Γ (.Tuple es x1 pos) (.sh (.tup ds)) Γ1 := fun F σ H S Q R q =>
  pe_we (pe_tup wa_pa) (h F σ H S _ R fun vs H1 S1 R1 s1 ok => ⟨by rw [← ok.length]; exact hl, fun p n => by
    obtain ⟨R2, s2⟩ := R1.laid (o := .tup vs) n
    exact q _ _ _ R2 (s1.trans s2) ⟨p, vs, rfl, .of upd_same, Reps.mono s2 _ _ ok⟩⟩)
theorem e_lst {ds : List D} (h : AX X Γ es ds Γ1) (hl : ds.length ≤ sizeLine := by exact Nat.le_of_ble_eq_true rfl) : EX X Γ (.List es pos) (.ow (.lst ds)) Γ1 := fun F σ H S Q R q =>
  pe_we (pe_lst wa_pa) (h F σ H S _ R fun vs H1 S1 R1 s1 ok => ⟨by rw [← ok.length]; exact hl, fun p n =>
    q _ _ _ (R1.grow (same_upd n)) s1 ⟨p, rfl, R1.sNone n, R1.h0None n, ⟨vs, upd_same, ok⟩, R1.ownNone n⟩⟩)
/-! ### built-in functions and types -/
def CallS (X : Cx) (f : Value) (ds : List D) (r : Rs) : Prop := ∃ rr, CallR X f rr ∧ ∀ Γ F σ H S vs (Q : VK), RS X.K F Γ σ H S → Reps X.K S ds vs →
  (∀ v H' S', RS X.K F Γ σ H' S' → Same S S' → RsOk X.K F Γ σ H' S' r v → Q v H') → rr vs H Q
theorem e_callB {id : String} {x : Str} {p : Pos} {ds : List D} (hc : CallS X (.builtin id) ds r) (hm : X.mg x = none) (hv : bootBuiltins x = some (.builtin id)) (ha : AX X Γ (e :: es) ds Γ1) (hg : Gl X x := by rfl) (hn : x ≠ "__name__" := by decide) (hdb : (x == ("__debug__" : Str)) = false := by decide)
    (he : starEach (e :: es) X.env = (false, eval e X.env) :: starEach es X.env := by rfl) (hpl : (backTo pos (starEach es X.env)).any (·.1) = false := by rfl) : EX X Γ (.Call (.Name x p) (e :: es) [] pos) r Γ1 := fun F σ H S Q R q => by
  obtain ⟨rr, hr, hq⟩ := hc
  exact pe_we (pe_callB hr hg hm hv wa_pa hn hdb he hpl) (ha F σ H S _ R fun vs H1 S1 R1 s1 ok => hq Γ1 F σ H1 S1 vs Q R1 ok fun v H2 S2 R2 s2 ok2 => q v H2 S2 R2 (s1.trans s2) ok2)
theorem e_callTy {T : String} {x : Str} {p : Pos} {ds : List D} (hc : CallS X (.type T) ds r) (hm : X.mg x = none) (hv : bootBuiltins x = some (.type T)) (ha : AX X Γ (e :: es) ds Γ1) (hg : Gl X x := by rfl) (hn : x ≠ "__name__" := by decide) (hdb : (x == ("__debug__" : Str)) = false := by decide)
    (he : starEach (e :: es) X.env = (false, eval e X.env) :: starEach es X.env := by rfl) (hpl : (backTo pos (starEach es X.env)).any (·.1) = false := by rfl) : EX X Γ (.Call (.Name x p) (e :: es) [] pos) r Γ1 := fun F σ H S Q R q => by
  obtain ⟨rr, hr, hq⟩ := hc
  exact pe_we (pe_callTy hr hg hm hv wa_pa hn hdb he hpl) (ha F σ H S _ R fun vs H1 S1 R1 s1 ok => hq Γ1 F σ H1 S1 vs Q R1 ok fun v H2 S2 R2 s2 ok2 => q v H2 S2 R2 (s1.trans s2) ok2)
/-! ### subscripts, slices -/
def IxS (X : Cx) (d1 d2 : D) (r : Rs) : Prop := ∃ rr, IxR X rr ∧ ∀ Γ F σ H S x y (Q : VK), RS X.K F Γ σ H S → Rep X.K S d1 x → Rep X.K S d2 y →
  (∀ v H' S', RS X.K F Γ σ H' S' → Same S S' → RsOk X.K F Γ σ H' S' r v → Q v H') → rr x y H Q
theorem e_ix (h1 : EX X Γ a (.sh d1) Γ1) (h2 : EX X Γ1 b (.sh d2) Γ2) (ho : IxS X d1 d2 r) (hs : PlainIx b := by exact fun _ _ => rfl) : EX X Γ (.Subscript a b pos) r Γ2 := fun F σ H S Q R q => by
  obtain ⟨rr, hr, hq⟩ := ho
  exact pe_we (pe_ix hr we_pe we_pe hs) (h1 F σ H S _ R fun x H1 S1 R1 s1 r1 => h2 F σ H1 S1 _ R1 fun y H2 S2 R2 s2 r2 => hq Γ2 F σ H2 S2 x y Q R2 (Rep.mono s2 _ _ r1) r2 fun v H3 S3 R3 s3 ok => q v H3 S3 R3 ((s1.trans s2).trans s3) ok)
def WP (X : Cx) (e : Option Ex) : TO := fun σ H Q => ∀ pins s, Inv X pins σ H s → wpAny (model X.prog X.w) X.A (evalPart e X.env) (fun u s' => ∃ o H', Inv X pins σ H' s' ∧ IsPart u o ∧ Q o H') X.xe s
theorem wp_po {e : Option Ex} : PO X e (WP X e) := ⟨fun pins s σ H Q I h => h pins s I⟩
theorem po_wp {e : Option Ex} {t : TO} {σ : L2.St} {H : Hp} {Q : Option Int → Hp → Prop} (h : PO X e t) (q : t σ H Q) : WP X e σ H Q := fun pins s I => h.run pins s σ H Q I q
def PX (X : Cx) (Γ : Gm) (e : Option Ex) (i : Option Int) (Γ' : Gm) : Prop := ∀ F σ H S (Q : Option Int → Hp → Prop), RS X.K F Γ σ H S →
  (∀ H' S', RS X.K F Γ' σ H' S' → Same S S' → Q i H') → WP X e σ H Q
theorem p_none : PX X Γ none none Γ := fun F σ H S Q R q => po_wp po_none (q H S R (.refl _))
theorem p_some {n : Int} (h : EX X Γ e (.sh (.int n)) Γ1) : PX X Γ (some e) (some n) Γ1 := fun F σ H S Q R q =>
  po_wp (po_some we_pe) (h F σ H S _ R fun v H' S' R' s ok => ⟨n, ok, q H' S' R' s⟩)
def SlS (X : Cx) (d : D) (lo hi : Option Int) (r : Rs) : Prop := ∃ rr, SlR X rr ∧ ∀ Γ F σ H S x (Q : VK), RS X.K F Γ σ H S → Rep X.K S d x →
  (∀ v H' S', RS X.K F Γ σ H' S' → Same S S' → RsOk X.K F Γ σ H' S' r v → Q v H') → rr x lo hi H Q
theorem e_slice {lo hi : Option Ex} {i j : Option Int} {p2 : Pos} (ho : SlS X d i j r) (h1 : EX X Γ a (.sh d) Γ1) (hl : PX X Γ1 lo i Γ2) (hh : PX X Γ2 hi j Γ3) : EX X Γ (.Subscript a (.Slice lo hi none p2) pos) r Γ3 := fun F σ H S Q R q => by
  obtain ⟨rr, hr, hq⟩ := ho
  exact pe_we (pe_slice hr we_pe wp_po wp_po) (h1 F σ H S _ R fun x H1 S1 R1 s1 r1 => hl F σ H1 S1 _ R1 fun H2 S2 R2 s2 => hh F σ H2 S2 _ R2 fun H3 S3 R3 s3 => hq Γ3 F σ H3 S3 x Q R3 (Rep.mono (s2.trans s3) _ _ r1) fun v H4 S4 R4 s4 ok => q v H4 S4 R4 (((s1.trans s2).trans s3).trans s4) ok)
/-! ### fields of shared objects -/
theorem zip_lookup {K : PySem.W.Frag} {S : Hp} {f : Str} : ∀ {ns : List Str} {ds : List D} {vs : List V}, Reps K S ds vs → (ns.zip ds).lookup f = some d → ∃ v, (ns.zip vs).lookup f = some v ∧ Rep K S d v
  | [], _, _, _, e => by cases e
  | n :: ns, [], _, _, e => by cases e
  | n :: ns, d' :: ds, _, ⟨v, r, rfl, h2, h3⟩, e => by
    rw [List.zip_cons_cons, List.lookup_cons] at e ⊢
    by_cases h : f == n
    · rw [h] at e ⊢
      cases e
      exact ⟨v, rfl, h2⟩
    · rw [Bool.eq_false_iff.mpr h] at e ⊢
      exact zip_lookup h3 e
theorem e_fld {C : Addr} {ns : List Str} {ds : List D} {f : Str} (hc : Cls X.K C) (hn : NoAttr X.K C f) (h : EX X Γ a (.sh (.obj C ns ds)) Γ1) (hl : (ns.zip ds).lookup f = some d) (hb : attributeBase a f X.env (eval a X.env) = eval a X.env := by rfl) : EX X Γ (.Attribute a f pos) (.sh d) Γ1 := fun F σ H S Q R q =>
  pe_we (pe_fld we_pe hb) (h F σ H S _ R fun v H' S' R' s ok => by
    obtain ⟨p, dx, vs, rfl, h1, h2, h3⟩ := ok
    obtain ⟨w, e1, e2⟩ := zip_lookup h3 hl
    exact ⟨p, C, dx, _, w, rfl, R'.sh _ _ h1, hc, hn, e1, q w H' S' R' s e2⟩)
/-! ### read-only: all that is owned is seen as shared -/
def Sl.ro : Sl → Sl
  | .ow o => .sh o.d
  | .pr _ o => .sh o.d
  | s => s
def ro (Γ : Gm) : Gm := Γ.map Sl.ro
theorem RS.ro {K : PySem.W.Frag} {F : Fr} {σ : L2.St} {H S : Hp} (R : RS K F Γ σ H S) : RS K ⟨H, H, fun _ => False⟩ (ro Γ) σ H H := by
  refine ⟨.refl _, .refl _, fun b o e _ z => ?_, fun b o _ e => e, fun b o e => ⟨o, e⟩, fun j s e => ?_, fun i j a n x y => ?_, by unfold PL.ro; rw [List.length_map]; exact R.len⟩
  · exact z
  · unfold PL.ro at e
    rw [List.getElem?_map] at e
    cases q : Γ[j]? with
    | none => rw [q] at e; cases e
    | some t =>
      rw [q] at e
      have e2 : t.ro = s := Option.some.inj e
      subst e2
      have w := R.sl j t q
      cases t with
      | un => trivial
      | sh d => obtain ⟨v, e1, e2⟩ := w; exact ⟨v, e1, Rep.mono R.sh _ _ e2⟩
      | ow o => obtain ⟨b, e1, _, _, e4⟩ := w; exact ⟨_, e1, ObR.rep (H := H) (fun _ z => z) (e4.mono R.sh fun _ z => z)⟩
      | pr p o => obtain ⟨e1, _, _, e4⟩ := w; exact ⟨_, e1, ObR.rep (H := H) (fun _ z => z) (e4.mono R.sh fun _ z => z)⟩
  · obtain ⟨hx, _⟩ := x
    unfold PL.ro at hx
    rw [List.getElem?_map] at hx
    cases q : Γ[i]? with
    | none => rw [q] at hx; rcases hx with ⟨_, z⟩ | ⟨_, _, z⟩ <;> cases z
    | some t =>
      rw [q] at hx
      cases t <;> rcases hx with ⟨_, z⟩ | ⟨_, _, z⟩ <;> cases z
theorem e_ro {Γ' : Gm} (h : EX X (ro Γ) e (.sh d) Γ') (hs : Scal d) : EX X Γ e (.sh d) Γ := fun F σ H S Q R q =>
  h _ σ H H Q R.ro fun v H' S' R' s ok => q v H' S (R.grow fun b o e => R'.kp b o (fun z => z) e) (.refl _) (Rep.scal hs ok)
theorem t_ro {Γ' : Gm} (h : TX X (ro Γ) e k Γ') : TX X Γ e k Γ := fun F σ H S Q R q =>
  h _ σ H H Q R.ro fun H' S' R' s => q H' S (R.grow fun b o e => R'.kp b o (fun z => z) e) (.refl _)
end
end PL

set_option Elab.async false
set_option linter.all false
set_option maxRecDepth 100000
set_option maxHeartbeats 1000000
namespace PL
open PySem PySem.Spec PyProof.Rows L2
section
variable {X : Cx} {Γ Γ1 Γ2 Γ3 : Gm} {e a b c : Ex} {pos : Pos} {d d1 d2 : D} {r : Rs} {es : List Ex} {k : Bool} {st : Stmt} {rest A B : List Stmt} {o : Out}
/-! ### storing into a slot -/
/-- what a slot holds behind x = (an expression that ends so) -/
def Rs.sl : Rs → Sl
  | .sh d => .sh d
  | .ow o => .ow o
  | .br _ => .un
def Free (Γ : Gm) (i : Nat) : Prop := ∀ p o, Γ[i]? ≠ some (.pr p o)
theorem RS.put {K : PySem.W.Frag} {F : Fr} {σ : L2.St} {H S : Hp} {i : Nat} {v : V} (R : RS K F Γ σ H S) (hi : i < Γ.length) (ok : RsOk K F Γ σ H S r v) (nb : ∀ j, r ≠ .br j) : RS K F (Γ.set i r.sl) (σ.set i (some v)) H S := by
  have hiσ : i < σ.length := by rw [← R.len]; exact hi
  have ow : ∀ j b, j ≠ i → OwnAt (Γ.set i r.sl) (σ.set i (some v)) j b → OwnAt Γ σ j b := fun j b hj ⟨h, q⟩ => by
    rw [List.getElem?_set_ne (Ne.symm hj)] at h
    rw [List.getElem?_set_ne (Ne.symm hj)] at q
    exact ⟨h, q⟩
  have own : ∀ b, OwnAt (Γ.set i r.sl) (σ.set i (some v)) i b → ¬ Own Γ σ b := fun b ⟨h, q⟩ => by
    rw [List.getElem?_set_self hi] at h
    rw [List.getElem?_set_self hiσ] at q
    cases r with
    | sh d => rcases h with ⟨_, z⟩ | ⟨_, _, z⟩ <;> cases z
    | br j => exact (nb j rfl).elim
    | ow o' =>
      obtain ⟨p, rfl, _, _, _, no⟩ := ok
      cases q
      exact no
  refine ⟨R.s0, R.sh, R.new, R.kp, R.th, fun j s e => ?_, fun j l b ne h1 h2 => ?_, by rw [List.length_set, List.length_set]; exact R.len⟩
  · by_cases hj : j = i
    · subst hj
      rw [List.getElem?_set_self hi] at e
      rw [List.getElem?_set_self hiσ]
      cases e
      cases r with
      | sh d => exact ⟨v, rfl, ok⟩
      | br j => trivial
      | ow o' =>
        obtain ⟨p, rfl, n1, n2, ob, _⟩ := ok
        exact ⟨p, rfl, n1, .inl n2, ob⟩
    · rw [List.getElem?_set_ne (Ne.symm hj)] at e
      rw [List.getElem?_set_ne (Ne.symm hj)]
      exact R.sl j s e
  · by_cases hj : j = i
    · subst hj
      exact own b h1 ⟨l, ow l b (Ne.symm ne) h2⟩
    · by_cases hl : l = i
      · subst hl
        exact own b h2 ⟨j, ow j b hj h1⟩
      · exact R.ne j l b ne (ow j b hj h1) (ow l b hl h2)
/-! ### blocks -/
theorem s_nil : SX X Γ [] (.nx Γ) := fun F σ H S D R q => pss_ws pss_nil (q σ H S R (.refl _))
theorem s_cons (h : S1 X Γ st (.nx Γ1)) (h2 : SX X Γ1 rest o) : SX X Γ (st :: rest) o := fun F σ H S D R q =>
  pss_ws (pss_cons w1_ps ws_pss) (h F σ H S _ R fun σ1 H1 S1 R1 s1 => h2 F σ1 H1 S1 D R1 (q.mono s1))
def Out.leaves : Out → Bool
  | .nx _ => false
  | _ => true
theorem OutOk.nx {K : PySem.W.Frag} {F : Fr} {S : Hp} {D : Ends} {n : L2.St → Hp → Prop} (h : OutOk K F S D o) (ho : o.leaves = true) : OutOk K F S { D with nx := n } o := by
  cases o with
  | nx Γ => cases ho
  | bk Γ => exact h
  | ct Γ => exact h
  | rt r Γ => exact h
theorem s_end (h : S1 X Γ st o) (ho : o.leaves = true := by rfl) : SX X Γ (st :: rest) o := fun F σ H S D R q =>
  pss_ws (pss_cons w1_ps ws_pss) (h F σ H S _ R (q.nx ho))
theorem s_one (h : S1 X Γ st o) : SX X Γ [st] o := fun F σ H S D R q => pss_ws (pss_one w1_ps) (h F σ H S _ R q)
theorem s1_ifT (h : TX X Γ c true Γ1) (h2 : SX X Γ1 A o) : S1 X Γ (.If c A B pos) o := fun F σ H S D R q =>
  ps_w1 (ps_if wt_pt ws_pss ws_pss) (h F σ H S _ R fun H1 S1 R1 s1 => iteT (h2 F σ H1 S1 D R1 (q.mono s1)))
theorem s1_ifF (h : TX X Γ c false Γ1) (h2 : SX X Γ1 B o) : S1 X Γ (.If c A B pos) o := fun F σ H S D R q =>
  ps_w1 (ps_if wt_pt ws_pss ws_pss) (h F σ H S _ R fun H1 S1 R1 s1 => iteF (h2 F σ H1 S1 D R1 (q.mono s1)))
theorem s_ifT (h : TX X Γ c true Γ1) (h2 : SX X Γ1 A (.nx Γ2)) (h3 : SX X Γ2 rest o) : SX X Γ (.If c A B pos :: rest) o := s_cons (s1_ifT h h2) h3
theorem s_ifTE (h : TX X Γ c true Γ1) (h2 : SX X Γ1 A o) (ho : o.leaves = true := by rfl) : SX X Γ (.If c A B pos :: rest) o := s_end (s1_ifT h h2) ho
theorem s_ifF (h : TX X Γ c false Γ1) (h2 : SX X Γ1 B (.nx Γ2)) (h3 : SX X Γ2 rest o) : SX X Γ (.If c A B pos :: rest) o := s_cons (s1_ifF h h2) h3
theorem s_ifFE (h : TX X Γ c false Γ1) (h2 : SX X Γ1 B o) (ho : o.leaves = true := by rfl) : SX X Γ (.If c A B pos :: rest) o := s_end (s1_ifF h h2) ho
theorem s_ifN (h : TX X Γ c false Γ1) (h3 : SX X Γ1 rest o) : SX X Γ (.If c A [] pos :: rest) o := s_cons (s1_ifF h s_nil) h3
theorem s1_pass : S1 X Γ (.Pass pos) (.nx Γ) := fun F σ H S D R q => ps_w1 ps_pass (q σ H S R (.refl _))
theorem s1_break : S1 X Γ (.Break pos) (.bk Γ) := fun F σ H S D R q => ps_w1 ps_break (q σ H S R (.refl _))
theorem s1_cont : S1 X Γ (.Continue pos) (.ct Γ) := fun F σ H S D R q => ps_w1 ps_continue (q σ H S R (.refl _))
theorem s1_expr (h : EX X Γ e r Γ1) (hs : swapsWith e none pos.line X.env = pure false := by rfl) : S1 X Γ (.Expr e pos) (.nx Γ1) := fun F σ H S D R q =>
  ps_w1 (ps_expr we_pe hs) (h F σ H S _ R fun v H1 S1 R1 s1 _ => q σ H1 S1 R1 s1)
theorem s1_ret (h : EX X Γ e r Γ1) : S1 X Γ (.Return (some e) pos) (.rt r Γ1) := fun F σ H S D R q =>
  ps_w1 (ps_ret we_pe) (h F σ H S _ R fun v H1 S1 R1 s1 ok => q v σ H1 S1 R1 s1 ok)
theorem s1_retN : S1 X Γ (.Return none pos) (.rt (.sh .non) Γ) := fun F σ H S D R q => ps_w1 ps_retN (q .non σ H S R (.refl _) rfl)
/-- the object that a local slot owns is handed out -/
theorem s1_retO (i : Nat) {x : Str} {ob : Ob} (h : Γ[i]? = some (.ow ob)) (hN : X.N[i]? = some x := by rfl) (hv : Vis X.env.scope x := by first | exact Or.inl rfl | exact Or.inr (Or.inl rfl) | exact Or.inr (Or.inr rfl)) (hd : (x == ("__debug__" : Str)) = false := by decide)
    (hcd : (x == ("__classdict__" : Str)) = false := by decide) {p : Pos} : S1 X Γ (.Return (some (.Name x p)) pos) (.rt (.sh ob.d) (Γ.set i (.sh ob.d))) := fun F σ H S D R q =>
  (show S1 X Γ (.Return (some (.Name x p)) pos) (.rt (.sh ob.d) (Γ.set i (.sh ob.d))) from s1_ret (e_cv (cv_frz h) (e_var i (by rw [List.getElem?_set_self (List.getElem?_eq_some_iff.mp h).1]) hN hv hd hcd))) F σ H S D R q
theorem s1_set (i : Nat) {x : Str} {pos' : Pos} (g : X.N.Nodup) (h : EX X Γ e r Γ1) (hl : i < Γ1.length := by exact Nat.le_of_ble_eq_true rfl) (nb : ∀ j, r ≠ .br j := by intro _ z; cases z) (hi : X.N[i]? = some x := by rfl) (hx : Loc X.env.scope x := by first | exact Or.inl rfl | exact Or.inr rfl)
    (hs : swapsWith e (some (.Name x pos')) pos.line X.env = pure false := by rfl) (hf : X.fn x = true ∨ X.env.scope.names.lookup x = some .local := by first | exact .inl rfl | exact .inr rfl | assumption) : S1 X Γ (.Assign [.Name x pos'] e pos) (.nx (Γ1.set i r.sl)) := fun F σ H S D R q =>
  ps_w1 (ps_set g hi hx we_pe hs hf) (h F σ H S _ R fun v H1 S1 R1 s1 ok => q _ H1 S1 (R1.put hl ok nb) s1)
/-- a target takes shared data -/
def WG (X : Cx) (tg : Ex) : TG := fun v σ H Q => ∀ pins s u, Inv X pins σ H s → RelV v u → wpAny (model X.prog X.w) X.A (assign tg X.env u) (fun _ s' => ∃ σ' H', Inv X pins σ' H' s' ∧ Q σ' H') X.xe s
theorem wg_pg {tg : Ex} : PG X tg (WG X tg) := ⟨fun pins s σ H v u Q I r h => h pins s u I r⟩
theorem pg_wg {tg : Ex} {g : TG} {v : V} {σ : L2.St} {H : Hp} {Q : L2.St → Hp → Prop} (h : PG X tg g) (q : g v σ H Q) : WG X tg v σ H Q := fun pins s u I r => h.run pins s σ H v u Q I r q
def WGs (X : Cx) (tgs : List Ex) : TGs := fun vs σ H Q => ∀ pins s us, Inv X pins σ H s → Vals vs us → wpAny (model X.prog X.w) X.A (assignInOrder ((assignEach tgs X.env).map (·.2)) us) (fun _ s' => ∃ σ' H', Inv X pins σ' H' s' ∧ Q σ' H') X.xe s
theorem wgs_pgs {tgs : List Ex} : PGs X tgs (WGs X tgs) := ⟨fun pins s σ H vs us Q I r h => h pins s us I r⟩
theorem pgs_wgs {tgs : List Ex} {g : TGs} {vs : List V} {σ : L2.St} {H : Hp} {Q : L2.St → Hp → Prop} (h : PGs X tgs g) (q : g vs σ H Q) : WGs X tgs vs σ H Q := fun pins s us I r => h.run pins s σ H vs us Q I r q
def GX (X : Cx) (tg : Ex) (Γ : Gm) (d : D) (Γ' : Gm) : Prop := ∀ F σ H S v (Q : L2.St → Hp → Prop), RS X.K F Γ σ H S → Rep X.K S d v → (∀ σ' H' S', RS X.K F Γ' σ' H' S' → Same S S' → Q σ' H') → WG X tg v σ H Q
theorem g_name (i : Nat) {x : Str} (g : X.N.Nodup) (hl : i < Γ.length := by exact Nat.le_of_ble_eq_true rfl) (hi : X.N[i]? = some x := by rfl) (hx : Loc X.env.scope x := by first | exact Or.inl rfl | exact Or.inr rfl)
    (hf : X.fn x = true ∨ X.env.scope.names.lookup x = some .local := by first | exact .inl rfl | exact .inr rfl | assumption) : GX X (.Name x pos) Γ d (Γ.set i (.sh d)) :=
  fun F σ H S v Q R ok q => pg_wg (pg_name g hi hx hf) (q _ H S (R.put (r := .sh d) hl ok (fun _ z => by cases z)) (.refl _))
def GsX (X : Cx) (tgs : List Ex) (Γ : Gm) (ds : List D) (Γ' : Gm) : Prop := ∀ F σ H S vs (Q : L2.St → Hp → Prop), RS X.K F Γ σ H S → Reps X.K S ds vs → (∀ σ' H' S', RS X.K F Γ' σ' H' S' → Same S S' → Q σ' H') → WGs X tgs vs σ H Q
theorem gs_nil : GsX X [] Γ [] Γ := fun F σ H S vs Q R ok q => pgs_wgs pgs_nil ⟨ok, q σ H S R (.refl _)⟩
end
end PL

set_option Elab.async false
set_option linter.all false
set_option maxRecDepth 100000
set_option maxHeartbeats 1000000
namespace PL
open PySem PySem.Spec PyProof.Rows L2
section
variable {X : Cx} {Γ Γ1 Γ2 Γ3 : Gm} {e a b c : Ex} {pos : Pos} {d d1 d2 : D} {r : Rs} {es : List Ex} {k : Bool} {st : Stmt} {rest A B : List Stmt} {o : Out}
theorem gs_cons {tg : Ex} {tgs : List Ex} {ds : List D} (h : GX X tg Γ d Γ1) (h2 : GsX X tgs Γ1 ds Γ2) (hs : (assignEach (tg :: tgs) X.env).map (·.2) = assign tg X.env :: (assignEach tgs X.env).map (·.2) := by rfl) : GsX X (tg :: tgs) Γ (d :: ds) Γ2 := fun F σ H S vs Q R ok k => by
  obtain ⟨v, r, rfl, o1, o2⟩ := ok
  exact pgs_wgs (pgs_cons wg_pg wgs_pgs hs) ⟨v, r, rfl, h F σ H S v _ R o1 fun σ1 H1 S1 R1 s1 => h2 F σ1 H1 S1 r Q R1 (Reps.mono s1 _ _ o2) fun σ2 H2 S2 R2 s2 => k σ2 H2 S2 R2 (s1.trans s2)⟩
theorem g_tup {tgs : List Ex} {ds : List D} {kk : Nat} (hc : X.calm = true) (h : GsX X tgs Γ ds Γ1) (hn : (assignEach tgs X.env).length = ds.length := by rfl) (hst : (assignEach tgs X.env).findIdx? (·.1) = none := by rfl) : GX X (.Tuple tgs kk pos) Γ (.tup ds) Γ1 := fun F σ H S v Q R ok k => by
  obtain ⟨p, vs, rfl, h1, h2⟩ := ok
  exact pg_wg (pg_tup hc wgs_pgs hn hst) ⟨p, vs, rfl, same_sqt R.sh h1, h2.length.symm, h F σ H S vs Q R h2 k⟩
theorem s1_asg {tg : Ex} (hg : GX X tg Γ1 d Γ2) (h : EX X Γ e (.sh d) Γ1) (hs : swapsWithSole [tg] e pos.line X.env = pure false := by rfl) (hw : swappedStores [tg] e X.env = pure none := by rfl)
    (h1 : (assignEach [tg] X.env).map (·.2) = [assign tg X.env] := by rfl) : S1 X Γ (.Assign [tg] e pos) (.nx Γ2) := fun F σ H S D R q =>
  ps_w1 (ps_asg we_pe wg_pg hs hw h1) (h F σ H S _ R fun v H1 S1 R1 s1 ok => hg F σ H1 S1 v _ R1 ok fun σ2 H2 S2 R2 s2 => q σ2 H2 S2 R2 (s1.trans s2))
/-- a, b = x, y: two local names -/
theorem s1_par (i j : Nat) {x y : Str} {px py pt : Pos} {kt k2 pt2} (g : Gd k' X) (h : AX X Γ [a, b] [d1, d2] Γ1) (hl : i < Γ1.length := by exact Nat.le_of_ble_eq_true rfl) (hl2 : j < Γ1.length := by exact Nat.le_of_ble_eq_true rfl) (hij : i ≠ j := by decide) (hi : X.N[i]? = some x := by rfl) (hj : X.N[j]? = some y := by rfl)
    (hx : X.env.scope.names.lookup x = some .local := by rfl) (hy : X.env.scope.names.lookup y = some .local := by rfl)
    (hw : swappedStores [.Tuple [.Name x px, .Name y py] kt pt] (.Tuple [a, b] k2 pt2) X.env = pure (some [x, y]) := by rfl) (hs : swapsWithSole [.Tuple [.Name x px, .Name y py] kt pt] (.Tuple [a, b] k2 pt2) pos.line X.env = pure false := by rfl) :
    S1 X Γ (.Assign [.Tuple [.Name x px, .Name y py] kt pt] (.Tuple [a, b] k2 pt2) pos) (.nx ((Γ1.set i (.sh d1)).set j (.sh d2))) := fun F σ H S D R q =>
  ps_w1 (ps_par g.calm g.nd hi hj hij hx hy wa_pa hw hs) (h F σ H S _ R fun vs H1 S1 R1 s1 ok => by
    obtain ⟨v, r, rfl, o1, w, r2, rfl, o2, o3⟩ := ok
    obtain rfl : r2 = [] := o3
    have R2 := R1.put (r := .sh d1) hl o1 (fun _ z => by cases z)
    have R3 := R2.put (r := .sh d2) (i := j) (by rw [List.length_set]; exact hl2) o2 (fun _ z => by cases z)
    exact ⟨v, w, rfl, q _ H1 S1 R3 s1⟩)
/-! ### objects of one's own are changed -/
def Sl.re : Sl → Ob → Sl
  | .pr p _, o => .pr p o
  | _, o => .ow o
theorem RS.chg {K : PySem.W.Frag} {F : Fr} {σ : L2.St} {H S : Hp} {i : Nat} {p : Addr} {s : Sl} {x : HO} {o' : Ob} (R : RS K F Γ σ H S) (own : OwnAt Γ σ i p) (hs : Γ[i]? = some s) (ob : ObR K S (upd H p x) p o') : RS K F (Γ.set i (s.re o')) σ (upd H p x) S := by
  obtain ⟨n, n0, o, ob0⟩ := R.own own
  have hi : i < Γ.length := (List.getElem?_eq_some_iff.mp hs).1
  have ow : ∀ j b, OwnAt (Γ.set i (s.re o')) σ j b → OwnAt Γ σ j b := fun j b ⟨h, q⟩ => by
    by_cases hj : j = i
    · subst hj
      exact ⟨own.1, q⟩
    · rw [List.getElem?_set_ne (Ne.symm hj)] at h
      exact ⟨h, q⟩
  refine ⟨R.s0, fun b u e => ?_, R.new, fun b u nb e => ?_, fun b u e => ?_, fun j t e => ?_, fun j l b ne h1 h2 => R.ne j l b ne (ow j b h1) (ow l b h2), by rw [List.length_set]; exact R.len⟩
  · rw [upd_ne (fun hb : b = p => by rw [hb, n] at e; cases e)]
    exact R.sh b u e
  · rw [upd_ne (fun hb : b = p => by
      rw [hb] at e nb
      rcases n0 with z | z
      · rw [e] at z; cases z
      · exact nb z)]
    exact R.kp b u nb e
  · by_cases hb : b = p
    · subst hb; exact ⟨x, upd_same⟩
    · rw [upd_ne hb]; exact R.th b u e
  · by_cases hj : j = i
    · subst hj
      rw [List.getElem?_set_self hi] at e
      cases e
      obtain ⟨hk, q⟩ := own
      rw [hs] at hk
      rcases hk with ⟨o2, z⟩ | ⟨p2, o2, z⟩
      · cases z; exact ⟨p, q, n, n0, ob⟩
      · cases z
        have w := R.sl j _ hs
        obtain ⟨w1, _⟩ := w
        rw [q] at w1; cases w1
        exact ⟨q, n, n0, ob⟩
    · rw [List.getElem?_set_ne (Ne.symm hj)] at e
      have w := R.sl j t e
      have kept : ∀ b, OwnAt Γ σ j b → ∀ u, H b = some u → (upd H p x) b = some u := fun b ob u z => by
        rw [upd_ne (fun hb : b = p => R.ne j i b hj ob (by rw [hb]; exact own))]
        exact z
      cases t with
      | un => trivial
      | sh d => exact w
      | ow o2 => obtain ⟨b, e1, e2, e3, e4⟩ := w; exact ⟨b, e1, e2, e3, e4.mono (.refl _) (kept b ⟨.inl ⟨o2, e⟩, e1⟩)⟩
      | pr p2 o2 => obtain ⟨e1, e2, e3, e4⟩ := w; exact ⟨e1, e2, e3, e4.mono (.refl _) (kept p2 ⟨.inr ⟨p2, o2, e⟩, e1⟩)⟩
/-- slot i owns o -/
def Has (Γ : Gm) (i : Nat) (s : Sl) (o : Ob) : Prop := Γ[i]? = some s ∧ (s = .ow o ∨ ∃ p, s = .pr p o)
theorem RS.has {K : PySem.W.Frag} {F : Fr} {σ : L2.St} {H S : Hp} {i : Nat} {s : Sl} {o : Ob} (R : RS K F Γ σ H S) (h : Has Γ i s o) : ∃ p, OwnAt Γ σ i p ∧ ObR K S H p o := by
  obtain ⟨e, rfl | ⟨p, rfl⟩⟩ := h
  · obtain ⟨p, q, _, _, ob⟩ := R.sl i _ e
    exact ⟨p, ⟨.inl ⟨o, e⟩, q⟩, ob⟩
  · obtain ⟨q, _, _, ob⟩ := R.sl i _ e
    exact ⟨p, ⟨.inr ⟨p, o, e⟩, q⟩, ob⟩
theorem OwnAt.eq {σ : L2.St} {i : Nat} {p q : Addr} (h : OwnAt Γ σ i p) (h2 : OwnAt Γ1 σ i q) : p = q := by
  have e := h.2.symm.trans h2.2
  cases e
  rfl
theorem has_ow {i : Nat} {o : Ob} (h : Γ[i]? = some (.ow o) := by rfl) : Has Γ i (.ow o) o := ⟨h, .inl rfl⟩
theorem has_pr {i : Nat} {o : Ob} {p : Addr} (h : Γ[i]? = some (.pr p o) := by rfl) : Has Γ i (.pr p o) o := ⟨h, .inr ⟨p, rfl⟩⟩
theorem e_append {i : Nat} {s : Sl} {x : Str} {ds : List D} {apos p : Pos} (h : EX X Γ e (.sh d) Γ1) (h0 : ∃ s0 o0, Has Γ i s0 o0 ∧ ∃ es, o0 = .lst es) (h1 : Has Γ1 i s (.lst ds)) (hz : ds.length < sizeLine) (hN : X.N[i]? = some x := by rfl) (hv : Vis X.env.scope x := by first | exact Or.inl rfl | exact Or.inr (Or.inl rfl) | exact Or.inr (Or.inr rfl)) (hd : (x == ("__debug__" : Str)) = false := by decide)
    (hcd : (x == ("__classdict__" : Str)) = false := by decide) (hbase : attributeBase (.Name x p) "append" X.env (eval (.Name x p) X.env) = eval (.Name x p) X.env := by rfl)
    (hfew : ((backTo pos (starEach [e] X.env)).all (fun x => !x.1) && (backToKw pos (keywordEach [] X.env)).all (fun x => x.1.isSome)
      && decide ([e].length + ([] : List Keyword).length + (if ([] : List Keyword).isEmpty then 0 else 1) < 30)) = true := by rfl)
    (hline : (apos.endLine == pos.line) = true := by rfl) (hs : starEach [e] X.env = (false, eval e X.env) :: starEach [] X.env := by rfl) (hplain : (backTo pos (starEach [] X.env)).any (·.1) = false := by rfl) :
    EX X Γ (.Call (.Attribute (.Name x p) "append" apos) [e] [] pos) (.sh .non) (Γ1.set i (s.re (.lst (ds ++ [d])))) := fun F σ H S Q R q => by
  obtain ⟨s0, o0, hh, es0, rfl⟩ := h0
  obtain ⟨l, own0, ob0⟩ := R.has hh
  obtain ⟨vs0, hl0, _⟩ := ob0
  refine pe_we (pe_bm PySem.F.plainAttrs_list PySem.F.slot_list_append PySem.F.type_list_append mt_append (pe_var hN hv hd hcd) (pa_cons we_pe pa_nil hs) hbase hfew hline hs hplain) ⟨_, own0.2, .inl ⟨rfl, _, .of hl0⟩, ?_⟩
  refine h F σ H S _ R fun v H1 S1 R1 s1 ok => ?_
  obtain ⟨l', own1, vs, hl, rp⟩ := R1.has h1
  obtain rfl := own0.eq own1
  refine ⟨l, vs, v, rfl, rfl, hl, by rw [← rp.length]; exact hz, q _ _ S1 (R1.chg own1 h1.1 ⟨_, upd_same, rp.append (.one ok)⟩) s1 rfl⟩
theorem e_extend {i : Nat} {s : Sl} {x : Str} {ds fs : List D} {apos p : Pos} (h : EX X Γ e (.sh (.lst fs)) Γ1) (h0 : ∃ s0 o0, Has Γ i s0 o0 ∧ ∃ es, o0 = .lst es) (h1 : Has Γ1 i s (.lst ds)) (hz : ds.length + fs.length ≤ sizeLine) (hN : X.N[i]? = some x := by rfl) (hv : Vis X.env.scope x := by first | exact Or.inl rfl | exact Or.inr (Or.inl rfl) | exact Or.inr (Or.inr rfl)) (hd : (x == ("__debug__" : Str)) = false := by decide)
    (hcd : (x == ("__classdict__" : Str)) = false := by decide) (hbase : attributeBase (.Name x p) "extend" X.env (eval (.Name x p) X.env) = eval (.Name x p) X.env := by rfl)
    (hfew : ((backTo pos (starEach [e] X.env)).all (fun x => !x.1) && (backToKw pos (keywordEach [] X.env)).all (fun x => x.1.isSome)
      && decide ([e].length + ([] : List Keyword).length + (if ([] : List Keyword).isEmpty then 0 else 1) < 30)) = true := by rfl)
    (hline : (apos.endLine == pos.line) = true := by rfl) (hs : starEach [e] X.env = (false, eval e X.env) :: starEach [] X.env := by rfl) (hplain : (backTo pos (starEach [] X.env)).any (·.1) = false := by rfl) :
    EX X Γ (.Call (.Attribute (.Name x p) "extend" apos) [e] [] pos) (.sh .non) (Γ1.set i (s.re (.lst (ds ++ fs)))) := fun F σ H S Q R q => by
  obtain ⟨s0, o0, hh, es0, rfl⟩ := h0
  obtain ⟨l, own0, ob0⟩ := R.has hh
  obtain ⟨vs0, hl0, _⟩ := ob0
  refine pe_we (pe_bm PySem.F.plainAttrs_list PySem.F.slot_list_extend PySem.F.type_list_extend mt_extend (pe_var hN hv hd hcd) (pa_cons we_pe pa_nil hs) hbase hfew hline hs hplain) ⟨_, own0.2, .inl ⟨rfl, _, .of hl0⟩, ?_⟩
  refine h F σ H S _ R fun v H1 S1 R1 s1 ok => ?_
  obtain ⟨l', own1, vs, hl, rp⟩ := R1.has h1
  obtain rfl := own0.eq own1
  obtain ⟨b, zs, rfl, hb, rz⟩ := ok
  refine ⟨l, b, vs, zs, rfl, rfl, hl, R1.sh _ _ hb, by rw [← rp.length, ← rz.length]; exact hz, q _ _ S1 (R1.chg own1 h1.1 ⟨_, upd_same, rp.append rz⟩) s1 rfl⟩
/-- o[i] = .. : o the list that slot n owns -/
theorem g_setix {n : Nat} {s : Sl} {x : Str} {ds : List D} {p : Pos} {ix : Int} {j : Nat} (h1 : Has Γ n s (.lst ds)) (hi : EX X Γ e (.sh (.int ix)) Γ) (hj : ixN ds.length ix = some j) (hN : X.N[n]? = some x := by rfl) (hv : Vis X.env.scope x := by first | exact Or.inl rfl | exact Or.inr (Or.inl rfl) | exact Or.inr (Or.inr rfl)) (hd : (x == ("__debug__" : Str)) = false := by decide)
    (hcd : (x == ("__classdict__" : Str)) = false := by decide)
    (ha : ∀ v, assign (.Subscript (.Name x p) e pos) X.env v = (do
      let ov ← holding [v] (eval (.Name x p) X.env)
      let iv ← holding [v, ov] (eval e X.env)
      standAt pos
      holding [v, ov, iv] (setItem ov iv v)
      release [v, ov, iv] []) := by intro _; rfl) : GX X (.Subscript (.Name x p) e pos) Γ d (Γ.set n (s.re (.lst (ds.set j d)))) := by
  intro F σ H S v Q R ok q
  obtain ⟨l, own, vs, hl, rp⟩ := R.has h1
  refine pg_wg (pg_sub (pe_var hN hv hd hcd) we_pe set_list ha) ⟨_, own.2, hi F σ H S _ R fun y H1 S1 R1 s1 ok1 => ?_⟩
  obtain ⟨l', own1, vs1, hl1, rp1⟩ := R1.has h1
  obtain rfl := own.eq own1
  refine ⟨l, vs1, ix, j, rfl, ok1, hl1, by rw [← rp1.length]; exact hj, q σ _ S1 (R1.chg own1 h1.1 ⟨_, upd_same, rp1.set (Rep.mono s1 _ _ ok)⟩) s1⟩
end
end PL

set_option Elab.async false
set_option linter.all false
set_option maxRecDepth 100000
set_option maxHeartbeats 1000000
namespace PL
open PySem PySem.Spec PyProof.Rows L2
/-! ### promises over data -/
structure Ret (K : PySem.W.Frag) (S H : Hp) (md : Addr → Prop) (r : Rs) (v : V) (H' S' : Hp) : Prop where
  ss : Same S S'
  sh : Same S' H'
  new : ∀ b o, H b = some o → S b = none → S' b = none
  kp : ∀ b o, ¬ md b → H b = some o → H' b = some o
  th : ∀ b o, H b = some o → ∃ o', H' b = some o'
  res : match r with
    | .sh d => Rep K S' d v
    | .ow o => ∃ a, v = .ref a ∧ H a = none ∧ S' a = none ∧ ObR K S' H' a o
    | .br _ => False
def sp0 (K : PySem.W.Frag) (P : List D → Rs → Prop) : Sp := fun vs H Q _ => ∃ S ds r, P ds r ∧ Same S H ∧ Reps K S ds vs ∧ ∀ v H' S', Ret K S H (fun _ => False) r v H' S' → Q v H'
/-- the first argument is an object that the def may change -/
def sp1 (K : PySem.W.Frag) (P : Ob → List D → Rs → Ob → Prop) : Sp := fun vs H Q _ => ∃ S o ds r o' p ws, P o ds r o' ∧ vs = .ref p :: ws ∧ Same S H ∧ S p = none ∧ ObR K S H p o ∧ Reps K S ds ws ∧
  ∀ v H' S', Ret K S H (fun b => b = p) r v H' S' → S' p = none → ObR K S' H' p o' → Q v H'
/-- the first two -/
def sp2 (K : PySem.W.Frag) (P : Ob → Ob → List D → Rs → Ob → Ob → Prop) : Sp := fun vs H Q _ => ∃ S o u ds r o' u' p q ws, P o u ds r o' u' ∧ vs = .ref p :: .ref q :: ws ∧ p ≠ q ∧ Same S H ∧ S p = none ∧ S q = none ∧ ObR K S H p o ∧ ObR K S H q u ∧ Reps K S ds ws ∧
  ∀ v H' S', Ret K S H (fun b => b = p ∨ b = q) r v H' S' → S' p = none → S' q = none → ObR K S' H' p o' → ObR K S' H' q u' → Q v H'
section
variable {Pg : Program} {w : World} {K : PySem.W.Frag} {mg : Str → Option Value} {base : Heap}
theorem ret_of {F : Fr} {Γ : Gm} {σ : L2.St} {H H' S S' : Hp} {md : Addr → Prop} {r : Rs} {v : V} (R : RS K ⟨H, S, md⟩ Γ σ H' S') (hm : ∀ b, md b → S' b = none) (nb : ∀ j, r ≠ .br j) (ok : RsOk K ⟨H, S, md⟩ Γ σ H' S' r v) : Ret K S H md r v H' S' := by
  refine ⟨R.s0, R.sh, fun b o e n => ?_, R.kp, R.th, ?_⟩
  · by_cases hb : md b
    · exact hm b hb
    · exact R.new b o e hb n
  · cases r with
    | sh d => exact ok
    | br j => exact (nb j rfl).elim
    | ow o =>
      obtain ⟨p, e, n1, n2, ob, _⟩ := ok
      exact ⟨p, e, n2, n1, ob⟩
theorem start_get {N : List Str} {vs : List V} (hl : vs.length ≤ N.length) {i : Nat} : (start N vs)[i]? = if i < vs.length then (vs[i]?).map some else if i < N.length then some none else none := by
  unfold L2.start
  by_cases h : i < vs.length
  · rw [if_pos h, List.getElem?_append_left (by simpa using h), List.getElem?_map]
  · rw [if_neg h, List.getElem?_append_right (by simpa using h), List.getElem?_replicate, List.length_map]
    by_cases h2 : i < N.length
    · rw [if_pos h2, if_pos (by omega)]
    · rw [if_neg h2, if_neg (by omega)]
theorem start_len {N : List Str} {vs : List V} (hl : vs.length ≤ N.length) : (start N vs).length = N.length := by
  unfold L2.start; rw [List.length_append, List.length_map, List.length_replicate]; omega
/-- the state at a def's entry -/
def ent (N : List Str) (ds : List D) : Gm := ds.map .sh ++ List.replicate (N.length - ds.length) .un
theorem ent_get {N : List Str} {ds : List D} {i : Nat} {s : Sl} (h : (ent N ds)[i]? = some s) : s = .un ∨ ∃ d, ds[i]? = some d ∧ s = .sh d := by
  unfold ent at h
  by_cases hi : i < ds.length
  · rw [List.getElem?_append_left (by simpa using hi), List.getElem?_map] at h
    obtain ⟨d, e1, e2⟩ := Option.map_eq_some_iff.mp h
    exact .inr ⟨d, e1, e2.symm⟩
  · rw [List.getElem?_append_right (by simpa using hi), List.getElem?_replicate] at h
    split at h
    · cases h; exact .inl rfl
    · cases h
theorem rs_start {N : List Str} {ds : List D} {vs : List V} {H S : Hp} (hs : Same S H) (r : Reps K S ds vs) (hl : vs.length ≤ N.length) : RS K ⟨H, S, fun _ => False⟩ (ent N ds) (start N vs) H S := by
  refine ⟨.refl _, hs, fun b o _ _ z => z, fun b o _ e => e, fun b o e => ⟨o, e⟩, fun i s e => ?_, fun i j a _ h _ => ?_, ?_⟩
  · rcases ent_get e with rfl | ⟨d, e1, rfl⟩
    · trivial
    · obtain ⟨v, q1, q2⟩ := r.get e1
      refine ⟨v, ?_, q2⟩
      rw [start_get hl, if_pos (List.getElem?_eq_some_iff.mp q1).1, q1]
      rfl
  · obtain ⟨⟨o, z⟩ | ⟨p, o, z⟩, _⟩ := h
    · rcases ent_get z with q | ⟨d, _, q⟩ <;> cases q
    · rcases ent_get z with q | ⟨d, _, q⟩ <;> cases q
  · rw [start_len hl]
    unfold ent
    rw [List.length_append, List.length_map, List.length_replicate, r.length]; omega
theorem rs_start1 {N : List Str} {ds : List D} {vs : List V} {H S : Hp} {p : Addr} {o : Ob} (hs : Same S H) (np : S p = none) (ob : ObR K S H p o) (r : Reps K S ds vs) (hl : vs.length + 1 ≤ N.length) : RS K ⟨H, S, fun b => b = p⟩ (.pr p o :: ent N.tail ds) (start N (.ref p :: vs)) H S := by
  have hlt : vs.length ≤ N.tail.length := by rw [List.length_tail]; omega
  have R0 := rs_start (N := N.tail) hs r hlt
  have hst : start N (.ref p :: vs) = some (.ref p) :: start N.tail vs := by
    unfold L2.start
    rw [List.map_cons, List.length_cons, List.length_tail, List.cons_append]
    congr 3
    omega
  rw [hst]
  refine ⟨.refl _, hs, fun b o _ _ z => z, fun b o _ e => e, fun b o e => ⟨o, e⟩, fun i s e => ?_, fun i j a ne h1 h2 => ?_, ?_⟩
  · cases i with
    | zero => cases e; exact ⟨rfl, np, .inr rfl, ob⟩
    | succ i =>
      have q := R0.sl i s (by simpa using e)
      rcases ent_get (show (ent N.tail ds)[i]? = some s by simpa using e) with rfl | ⟨d, _, rfl⟩
      · trivial
      · exact q
  · have no : ∀ (i : Nat) a, ¬ OwnAt (.pr p o :: ent N.tail ds) (some (.ref p) :: start N.tail vs) (i + 1) a := fun i a ⟨h, _⟩ => by
      rcases h with ⟨o, z⟩ | ⟨p, o, z⟩
      · rcases ent_get (show (ent N.tail ds)[i]? = _ by simpa using z) with q | ⟨d, _, q⟩ <;> cases q
      · rcases ent_get (show (ent N.tail ds)[i]? = _ by simpa using z) with q | ⟨d, _, q⟩ <;> cases q
    cases i with
    | succ i => exact no i a h1
    | zero =>
      cases j with
      | zero => exact ne rfl
      | succ j => exact no j a h2
  · rw [List.length_cons, List.length_cons, R0.len]
theorem rs_start2 {N : List Str} {ds : List D} {vs : List V} {H S : Hp} {p q : Addr} {o u : Ob} (hs : Same S H) (npq : p ≠ q) (np : S p = none) (nq : S q = none) (ob : ObR K S H p o) (ub : ObR K S H q u) (r : Reps K S ds vs) (hl : vs.length + 2 ≤ N.length) :
    RS K ⟨H, S, fun b => b = p ∨ b = q⟩ (.pr p o :: .pr q u :: ent N.tail.tail ds) (start N (.ref p :: .ref q :: vs)) H S := by
  have hlt : vs.length ≤ N.tail.tail.length := by rw [List.length_tail, List.length_tail]; omega
  have R0 := rs_start (N := N.tail.tail) hs r hlt
  have hst : start N (.ref p :: .ref q :: vs) = some (.ref p) :: some (.ref q) :: start N.tail.tail vs := by
    unfold L2.start
    rw [List.map_cons, List.map_cons, List.length_cons, List.length_cons, List.length_tail, List.length_tail, List.cons_append, List.cons_append]
    congr 4
    omega
  rw [hst]
  refine ⟨.refl _, hs, fun b o _ _ z => z, fun b o _ e => e, fun b o e => ⟨o, e⟩, fun i s e => ?_, fun i j a ne h1 h2 => ?_, ?_⟩
  · cases i with
    | zero => cases e; exact ⟨rfl, np, .inr (.inl rfl), ob⟩
    | succ i =>
      cases i with
      | zero => cases e; exact ⟨rfl, nq, .inr (.inr rfl), ub⟩
      | succ i =>
        have q := R0.sl i s (by simpa using e)
        rcases ent_get (show (ent N.tail.tail ds)[i]? = some s by simpa using e) with rfl | ⟨d, _, rfl⟩
        · trivial
        · exact q
  · have no : ∀ (i : Nat) a, ¬ OwnAt (.pr p o :: .pr q u :: ent N.tail.tail ds) (some (.ref p) :: some (.ref q) :: start N.tail.tail vs) (i + 2) a := fun i a ⟨h, _⟩ => by
      rcases h with ⟨o, z⟩ | ⟨p, o, z⟩
      · rcases ent_get (show (ent N.tail.tail ds)[i]? = _ by simpa using z) with q | ⟨d, _, q⟩ <;> cases q
      · rcases ent_get (show (ent N.tail.tail ds)[i]? = _ by simpa using z) with q | ⟨d, _, q⟩ <;> cases q
    have at0 : ∀ a, OwnAt (.pr p o :: .pr q u :: ent N.tail.tail ds) (some (.ref p) :: some (.ref q) :: start N.tail.tail vs) 0 a → a = p := fun a ⟨_, h⟩ => by cases h; rfl
    have at1 : ∀ a, OwnAt (.pr p o :: .pr q u :: ent N.tail.tail ds) (some (.ref p) :: some (.ref q) :: start N.tail.tail vs) 1 a → a = q := fun a ⟨_, h⟩ => by cases h; rfl
    match i, j with
    | 0, 0 => exact ne rfl
    | 0, 1 => exact npq ((at0 a h1).symm.trans (at1 a h2))
    | 1, 0 => exact npq ((at0 a h2).symm.trans (at1 a h1))
    | 1, 1 => exact ne rfl
    | i + 2, _ => exact no i a h1
    | _, j + 2 => exact no j a h2
  · rw [List.length_cons, List.length_cons, List.length_cons, List.length_cons, R0.len]
variable {x qual : Str} {params : Arguments} {body : List Stmt} {scope : Scope} {dvs : List V} {kws : List (Str × V)} {f : Addr} {fd : FuncData} {N ps : List Str} {k : Nat}
/-- the context of a def that is walked -/
abbrev cx (Pg : Program) (w : World) (K : PySem.W.Frag) (mg : Str → Option Value) (base : Heap) (N : List Str) (qual : Str) (scope : Scope) (f : Addr) (cd : Value) (A : Around) (outer : List Env) (s : Shared) (H : Hp) (E : XK) : Cx := cxOf (L2.CX Pg w) Pg w K mg base N qual scope f cd A outer s H E
theorem cx_po {cd : Value} {A : Around} {outer : List Env} {s : Shared} {H : Hp} {E : XK} : PassesOwn (model (cx Pg w K mg base N qual scope f cd A outer s H E).prog (cx Pg w K mg base N qual scope f cd A outer s H E).w) (cx Pg w K mg base N qual scope f cd A outer s H E).A (cx Pg w K mg base N qual scope f cd A outer s H E).env (cx Pg w K mg base N qual scope f cd A outer s H E).xe :=
  PassesOwn.leaving
/-- a block's end as a def's: handing back, or running out -/
def Ends1 (X : Cx) (Γ : Gm) (body : List Stmt) (r : Rs) (Γ' : Gm) : Prop := SX X Γ body (.rt r Γ') ∨ (r = .sh .non ∧ SX X Γ body (.nx Γ'))
theorem Ends1.run {X : Cx} {Γ Γ' : Gm} {r : Rs} {F : Fr} {σ : L2.St} {H S : Hp} {Q : VK} (h : Ends1 X Γ body r Γ') (R : RS X.K F Γ σ H S) (q : ∀ v σ' H' S', RS X.K F Γ' σ' H' S' → Same S S' → RsOk X.K F Γ' σ' H' S' r v → Q v H') :
    WS X body { nx := fun _ H' => Q .non H', rt := Q } σ H := by
  rcases h with h | ⟨rfl, h⟩
  · exact h F σ H S _ R q
  · exact h F σ H S _ R fun σ' H' S' R' s => q .non σ' H' S' R' s rfl
theorem fn0 {P : List D → Rs → Prop} (FD : FunD K x qual params body scope dvs kws f fd) (Sc : FnScope N ps scope) (hl : ∀ ds r, P ds r → ds.length = ps.length) (hn : ps.length ≤ N.length) (nb : ∀ ds r, P ds r → ∀ j, r ≠ .br j)
    (hb : ∀ cd A outer s H E, Gd k (cx Pg w K mg base N qual scope f cd A outer s H E) → ∀ ds r, P ds r → ∃ Γ', Ends1 (cx Pg w K mg base N qual scope f cd A outer s H E) (ent N ds) body r Γ') :
    FnOk Pg w K mg base (L2.CX Pg w) (k + 1) f fd ps (sp0 K P) := by
  refine fd_ok FD Sc (fun vs H Q E h => ?_) (fun cd A outer s H vs Q E hr h => ?_)
  · obtain ⟨S, ds, r, hp, _, rp, _⟩ := h
    rw [← rp.length]; exact hl ds r hp
  · obtain ⟨S, ds, r, hp, hs, rp, q⟩ := h
    obtain ⟨Γ', e1⟩ := hb cd A outer s H E ⟨rfl, Sc.nd, cx_po, hr⟩ ds r hp
    refine ⟨_, ws_pss, e1.run (rs_start (K := K) hs rp (by rw [← rp.length, hl ds r hp]; exact hn)) fun v σ' H' S' R' s' ok => q v H' S' (ret_of (F := ⟨H, S, fun _ => False⟩) R' (fun _ z => z.elim) (nb ds r hp) ok)⟩
theorem fn1 {P : Ob → List D → Rs → Ob → Prop} (FD : FunD K x qual params body scope dvs kws f fd) (Sc : FnScope N ps scope) (hl : ∀ o ds r o', P o ds r o' → ds.length + 1 = ps.length) (hn : ps.length ≤ N.length) (nb : ∀ o ds r o', P o ds r o' → ∀ j, r ≠ .br j)
    (hb : ∀ cd A outer s H E, Gd k (cx Pg w K mg base N qual scope f cd A outer s H E) → ∀ o ds r o', P o ds r o' → ∀ p, ∃ Γ', Ends1 (cx Pg w K mg base N qual scope f cd A outer s H E) (.pr p o :: ent N.tail ds) body r Γ' ∧ Γ'[0]? = some (.pr p o')) :
    FnOk Pg w K mg base (L2.CX Pg w) (k + 1) f fd ps (sp1 K P) := by
  refine fd_ok FD Sc (fun vs H Q E h => ?_) (fun cd A outer s H vs Q E hr h => ?_)
  · obtain ⟨S, o, ds, r, o', p, ws, hp, rfl, _, _, _, rp, _⟩ := h
    rw [List.length_cons, ← rp.length]; exact hl o ds r o' hp
  · obtain ⟨S, o, ds, r, o', p, ws, hp, rfl, hs, np, ob, rp, q⟩ := h
    obtain ⟨Γ', e1, e2⟩ := hb cd A outer s H E ⟨rfl, Sc.nd, cx_po, hr⟩ o ds r o' hp p
    refine ⟨_, ws_pss, e1.run (rs_start1 (K := K) hs np ob rp (by rw [← rp.length, hl o ds r o' hp]; exact hn)) fun v σ' H' S' R' s' ok => ?_⟩
    obtain ⟨_, n', _, ob'⟩ := R'.sl 0 _ e2
    exact q v H' S' (ret_of (F := ⟨H, S, fun b => b = p⟩) R' (fun b z => by rw [z]; exact n') (nb o ds r o' hp) ok) n' ob'
theorem fn2 {P : Ob → Ob → List D → Rs → Ob → Ob → Prop} (FD : FunD K x qual params body scope dvs kws f fd) (Sc : FnScope N ps scope) (hl : ∀ o u ds r o' u', P o u ds r o' u' → ds.length + 2 = ps.length) (hn : ps.length ≤ N.length) (nb : ∀ o u ds r o' u', P o u ds r o' u' → ∀ j, r ≠ .br j)
    (hb : ∀ cd A outer s H E, Gd k (cx Pg w K mg base N qual scope f cd A outer s H E) → ∀ o u ds r o' u', P o u ds r o' u' → ∀ p q, ∃ Γ', Ends1 (cx Pg w K mg base N qual scope f cd A outer s H E) (.pr p o :: .pr q u :: ent N.tail.tail ds) body r Γ' ∧ Γ'[0]? = some (.pr p o') ∧ Γ'[1]? = some (.pr q u')) :
    FnOk Pg w K mg base (L2.CX Pg w) (k + 1) f fd ps (sp2 K P) := by
  refine fd_ok FD Sc (fun vs H Q E h => ?_) (fun cd A outer s H vs Q E hr h => ?_)
  · obtain ⟨S, o, u, ds, r, o', u', p, q, ws, hp, rfl, _, _, _, _, _, _, rp, _⟩ := h
    rw [List.length_cons, List.length_cons, ← rp.length]; exact hl o u ds r o' u' hp
  · obtain ⟨S, o, u, ds, r, o', u', p, q, ws, hp, rfl, npq, hs, np, nq, ob, ub, rp, k⟩ := h
    obtain ⟨Γ', e1, e2, e3⟩ := hb cd A outer s H E ⟨rfl, Sc.nd, cx_po, hr⟩ o u ds r o' u' hp p q
    refine ⟨_, ws_pss, e1.run (rs_start2 (K := K) hs npq np nq ob ub rp (by rw [← rp.length, hl o u ds r o' u' hp]; exact hn)) fun v σ' H' S' R' s' ok => ?_⟩
    obtain ⟨_, n', _, ob'⟩ := R'.sl 0 _ e2
    obtain ⟨_, n2, _, ub'⟩ := R'.sl 1 _ e3
    exact k v H' S' (ret_of (F := ⟨H, S, fun b => b = p ∨ b = q⟩) R' (fun b z => z.elim (fun z => by rw [z]; exact n') fun z => by rw [z]; exact n2) (nb o u ds r o' u' hp) ok) n' n2 ob' ub'
end
/-! ### calls -/
section
variable {X : Cx} {Γ Γ1 Γ2 : Gm} {e : Ex} {es : List Ex} {p pos : Pos} {r : Rs} {ds dds : List D} {j k : Nat} {f : Addr} {fd : FuncData} {ps : List Str} {x : Str} {dvs : List V} {dv : List Value}
/-- a def's place: its name, its address -/
structure At (X : Cx) (x : Str) (f : Addr) : Prop where
  mg : X.mg x = some (.ref f)
  kp : PySem.W.keepIn X.K (.ref f) = true
theorem RS.after {K : PySem.W.Frag} {F : Fr} {σ : L2.St} {H S H' S' : Hp} {v : V} {md : Addr → Prop} {r : Rs} (R : RS K F Γ σ H S) (t : Ret K S H md r v H' S') (hmd : ∀ b, md b → Own Γ σ b ∨ F.H0 b = none) (hl : Γ1.length = Γ.length)
    (hs : ∀ (i : Nat) s, Γ1[i]? = some s → (Γ[i]? = some s ∧ ∀ b, OwnAt Γ σ i b → ¬ md b) ∨ (∃ b o', OwnAt Γ σ i b ∧ ObR K S' H' b o' ∧ ∃ s0, Γ[i]? = some s0 ∧ s = s0.re o')) : RS K F Γ1 σ H' S' ∧ RsOk K F Γ1 σ H' S' r v := by
  have ow : ∀ i b, OwnAt Γ1 σ i b → OwnAt Γ σ i b := fun i b ⟨h, q⟩ => by
    have key : ∀ s, Γ1[i]? = some s → (∃ o, s = .ow o) ∨ (∃ p o, s = .pr p o) → OwnAt Γ σ i b := fun s es hk => by
      rcases hs i s es with ⟨e, _⟩ | ⟨b', o', own, _, _⟩
      · refine ⟨?_, q⟩
        rcases hk with ⟨o, rfl⟩ | ⟨p, o, rfl⟩
        · exact .inl ⟨o, e⟩
        · exact .inr ⟨p, o, e⟩
      · exact ⟨own.1, q⟩
    rcases h with ⟨o, z⟩ | ⟨p, o, z⟩
    · exact key _ z (.inl ⟨o, rfl⟩)
    · exact key _ z (.inr ⟨p, o, rfl⟩)
  have noM : ∀ b o, F.H0 b = some o → ¬ F.op b → ¬ md b := fun b o e n hm => by
    rcases hmd b hm with ⟨i, own⟩ | z
    · rcases (R.own own).2.1 with z | z
      · rw [e] at z; cases z
      · exact n z
    · rw [e] at z; cases z
  have un : ∀ i b, OwnAt Γ σ i b → S' b = none := fun i b own => by
    obtain ⟨n, _, o, ob⟩ := R.own own
    obtain ⟨y, hy⟩ := ob.there
    exact t.new b y hy n
  have R' : RS K F Γ1 σ H' S' := by
    refine ⟨R.s0.trans t.ss, t.sh, fun b o e n z => t.new b o (R.kp b o n e) (R.new b o e n z), fun b o n e => t.kp b o (noM b o e n) (R.kp b o n e), fun b o e => (R.th b o e).elim fun o' q => t.th b o' q, fun i s es => ?_,
      fun i j b ne h1 h2 => R.ne i j b ne (ow i b h1) (ow j b h2), hl.trans R.len⟩
    rcases hs i s es with ⟨e, nm⟩ | ⟨b, o', own, ob, s0, e0, rfl⟩
    · have w := R.sl i s e
      cases s with
      | un => trivial
      | sh d => obtain ⟨v, e1, e2⟩ := w; exact ⟨v, e1, Rep.mono t.ss _ _ e2⟩
      | ow o => obtain ⟨b, e1, e2, e3, e4⟩ := w; exact ⟨b, e1, un i b ⟨.inl ⟨o, e⟩, e1⟩, e3, e4.mono t.ss fun y hy => t.kp b y (nm b ⟨.inl ⟨o, e⟩, e1⟩) hy⟩
      | pr p o => obtain ⟨e1, e2, e3, e4⟩ := w; exact ⟨e1, un i p ⟨.inr ⟨p, o, e⟩, e1⟩, e3, e4.mono t.ss fun y hy => t.kp p y (nm p ⟨.inr ⟨p, o, e⟩, e1⟩) hy⟩
    · have h1 := R.own own
      have h2 := un i b own
      obtain ⟨hk, q⟩ := own
      rw [e0] at hk
      rcases hk with ⟨o, z⟩ | ⟨p, o, z⟩
      · cases z; exact ⟨b, q, h2, h1.2.1, ob⟩
      · cases z
        obtain ⟨w1, _⟩ := R.sl i _ e0
        rw [q] at w1; cases w1
        exact ⟨q, h2, h1.2.1, ob⟩
  refine ⟨R', ?_⟩
  have rs := t.res
  cases r with
  | sh d => exact rs
  | br i => exact rs.elim
  | ow o =>
    obtain ⟨b, rfl, n, n', ob⟩ := rs
    exact ⟨b, rfl, n', R.h0None n, ob, fun ⟨i, own⟩ => R.ownNone n ⟨i, ow i b own⟩⟩
theorem RS.after0 {K : PySem.W.Frag} {F : Fr} {σ : L2.St} {H S H' S' : Hp} {v : V} {r : Rs} (R : RS K F Γ σ H S) (t : Ret K S H (fun _ => False) r v H' S') : RS K F Γ σ H' S' ∧ RsOk K F Γ σ H' S' r v :=
  R.after t (fun _ z => z.elim) rfl fun i s e => .inl ⟨e, fun _ _ z => z⟩
/-- what a call leaves the slots with (the first argument's slot holds another content) -/
theorem RS.after1 {K : PySem.W.Frag} {F : Fr} {σ : L2.St} {H S H' S' : Hp} {v : V} {r : Rs} {i : Nat} {s : Sl} {p : Addr} {o' : Ob} (R : RS K F Γ σ H S) (own : OwnAt Γ σ i p) (hs : Γ[i]? = some s) (t : Ret K S H (fun b => b = p) r v H' S') (ob : ObR K S' H' p o') : RS K F (Γ.set i (s.re o')) σ H' S' ∧ RsOk K F (Γ.set i (s.re o')) σ H' S' r v := by
  refine R.after t (fun b z => by rw [z]; exact .inl ⟨i, own⟩) List.length_set fun l u e => ?_
  have hi : i < Γ.length := (List.getElem?_eq_some_iff.mp hs).1
  by_cases hl : l = i
  · subst hl
    rw [List.getElem?_set_self hi] at e
    cases e
    exact .inr ⟨p, o', own, ob, s, hs, rfl⟩
  · rw [List.getElem?_set_ne (Ne.symm hl)] at e
    exact .inl ⟨e, fun b ob' z => R.ne l i b hl ob' (by rw [z]; exact own)⟩
theorem RS.after2 {K : PySem.W.Frag} {F : Fr} {σ : L2.St} {H S H' S' : Hp} {v : V} {r : Rs} {i m : Nat} {s s2 : Sl} {p q : Addr} {o' u' : Ob} (R : RS K F Γ σ H S) (hne : i ≠ m) (own : OwnAt Γ σ i p) (own2 : OwnAt Γ σ m q) (hs : Γ[i]? = some s) (hs2 : Γ[m]? = some s2) (t : Ret K S H (fun b => b = p ∨ b = q) r v H' S') (ob : ObR K S' H' p o') (ub : ObR K S' H' q u') :
    RS K F ((Γ.set i (s.re o')).set m (s2.re u')) σ H' S' ∧ RsOk K F ((Γ.set i (s.re o')).set m (s2.re u')) σ H' S' r v := by
  refine R.after t (fun b z => z.elim (fun z => by rw [z]; exact .inl ⟨i, own⟩) fun z => by rw [z]; exact .inl ⟨m, own2⟩) (by rw [List.length_set, List.length_set]) fun l u e => ?_
  have hi : i < Γ.length := (List.getElem?_eq_some_iff.mp hs).1
  have hm : m < Γ.length := (List.getElem?_eq_some_iff.mp hs2).1
  by_cases hl2 : l = m
  · subst hl2
    rw [List.getElem?_set_self (by rw [List.length_set]; exact hm)] at e
    cases e
    exact .inr ⟨q, u', own2, ub, s2, hs2, rfl⟩
  · rw [List.getElem?_set_ne (Ne.symm hl2)] at e
    by_cases hl : l = i
    · subst hl
      rw [List.getElem?_set_self hi] at e
      cases e
      exact .inr ⟨p, o', own, ob, s, hs, rfl⟩
    · rw [List.getElem?_set_ne (Ne.symm hl)] at e
      exact .inl ⟨e, fun b ob' z => z.elim (fun z => R.ne l i b hl ob' (by rw [z]; exact own)) fun z => R.ne l m b hl2 ob' (by rw [z]; exact own2)⟩
theorem e_call0 {P : List D → Rs → Prop} (Fo : FnOk X.prog X.w X.K X.mg X.base (L2.CX X.prog X.w) j f fd ps (sp0 X.K P)) (at_ : At X x f) (g : Gd k X) (hp : P (ds ++ dds) r) (ha : AX X Γ (e :: es) ds Γ1) (hb : Binds X.K fd ps dv) (hd : Vals dvs dv) (hdd : ∀ S, Reps X.K S dds dvs) (hk : j ≤ k := by decide) (hg : Gl X x := by rfl)
    (hdb : (x == ("__debug__" : Str)) = false := by decide) (he : starEach (e :: es) X.env = (false, eval e X.env) :: starEach es X.env := by rfl) (hpl : (backTo pos (starEach es X.env)).any (·.1) = false := by rfl) : EX X Γ (.Call (.Name x p) (e :: es) [] pos) r Γ1 := fun F σ H S Q R q =>
  pe_we (pe_call Fo (g.rm.mono hk) hg at_.mg at_.kp hb hd passL wa_pa hdb he hpl) (ha F σ H S _ R fun vs H1 S1 R1 s1 ok => ⟨S1, ds ++ dds, r, hp, R1.sh, ok.append (hdd S1), fun v H2 S2 t => by
    obtain ⟨R2, ok2⟩ := R1.after0 t
    exact q v H2 S2 R2 (s1.trans t.ss) ok2⟩)
/-- the same without arguments -/
theorem e_call00 {P : List D → Rs → Prop} (Fo : FnOk X.prog X.w X.K X.mg X.base (L2.CX X.prog X.w) j f fd ps (sp0 X.K P)) (at_ : At X x f) (g : Gd k X) (hp : P dds r) (hb : Binds X.K fd ps dv) (hd : Vals dvs dv) (hdd : ∀ S, Reps X.K S dds dvs) (hk : j ≤ k := by decide) (hg : Gl X x := by rfl)
    (hdb : (x == ("__debug__" : Str)) = false := by decide) : EX X Γ (.Call (.Name x p) [] [] pos) r Γ := fun F σ H S Q R q =>
  pe_we (pe_call0 Fo (g.rm.mono hk) hg at_.mg at_.kp hb hd passL hdb) ⟨S, dds, r, hp, R.sh, hdd S, fun v H2 S2 t => by
    obtain ⟨R2, ok2⟩ := R.after0 t
    exact q v H2 S2 R2 t.ss ok2⟩
/-- f(o, e, ..): o a name whose slot i owns an object -/
theorem e_call1 {P : Ob → List D → Rs → Ob → Prop} {y : Str} {py : Pos} {i : Nat} {s s0 : Sl} {o o0 o' : Ob} (Fo : FnOk X.prog X.w X.K X.mg X.base (L2.CX X.prog X.w) j f fd ps (sp1 X.K P)) (at_ : At X x f) (g : Gd k X) (h0 : Has Γ i s0 o0) (ha : AX X Γ es ds Γ1) (h1 : Has Γ1 i s o) (hp : P o (ds ++ dds) r o') (hb : Binds X.K fd ps dv) (hd : Vals dvs dv) (hdd : ∀ S, Reps X.K S dds dvs)
    (hk : j ≤ k := by decide) (hg : Gl X x := by rfl) (hN : X.N[i]? = some y := by rfl) (hv : Vis X.env.scope y := by first | exact Or.inl rfl | exact Or.inr (Or.inl rfl) | exact Or.inr (Or.inr rfl)) (hyd : (y == ("__debug__" : Str)) = false := by decide) (hcd : (y == ("__classdict__" : Str)) = false := by decide)
    (hdb : (x == ("__debug__" : Str)) = false := by decide) (he : starEach (.Name y py :: es) X.env = (false, eval (.Name y py) X.env) :: starEach es X.env := by rfl) (hpl : (backTo pos (starEach es X.env)).any (·.1) = false := by rfl) : EX X Γ (.Call (.Name x p) (.Name y py :: es) [] pos) r (Γ1.set i (s.re o')) := fun F σ H S Q R q => by
  obtain ⟨l, own0, _⟩ := R.has h0
  refine pe_we (pe_call Fo (g.rm.mono hk) hg at_.mg at_.kp hb hd passL (pa_cons (pe_var hN hv hyd hcd) wa_pa he) hdb he hpl) ⟨_, own0.2, ha F σ H S _ R fun vs H1 S1 R1 s1 ok => ?_⟩
  obtain ⟨l', own1, ob⟩ := R1.has h1
  obtain rfl := own0.eq own1
  refine ⟨S1, o, ds ++ dds, r, o', l, vs ++ dvs, hp, rfl, R1.sh, (R1.own own1).1, ob, ok.append (hdd S1), fun v H2 S2 t n2 ob2 => ?_⟩
  obtain ⟨R2, ok2⟩ := R1.after1 own1 h1.1 t ob2
  exact q v H2 S2 R2 (s1.trans t.ss) ok2
theorem e_call2 {P : Ob → Ob → List D → Rs → Ob → Ob → Prop} {y z : Str} {py pz : Pos} {i m : Nat} {s s0 s2 s20 : Sl} {o o0 o' u u0 u' : Ob} (Fo : FnOk X.prog X.w X.K X.mg X.base (L2.CX X.prog X.w) j f fd ps (sp2 X.K P)) (at_ : At X x f) (g : Gd k X) (hne : i ≠ m) (h0 : Has Γ i s0 o0) (h20 : Has Γ m s20 u0) (ha : AX X Γ es ds Γ1) (h1 : Has Γ1 i s o) (h2 : Has Γ1 m s2 u) (hp : P o u (ds ++ dds) r o' u') (hb : Binds X.K fd ps dv) (hd : Vals dvs dv) (hdd : ∀ S, Reps X.K S dds dvs)
    (hk : j ≤ k := by decide) (hg : Gl X x := by rfl) (hN : X.N[i]? = some y := by rfl) (hv : Vis X.env.scope y := by first | exact Or.inl rfl | exact Or.inr (Or.inl rfl) | exact Or.inr (Or.inr rfl)) (hyd : (y == ("__debug__" : Str)) = false := by decide) (hcd : (y == ("__classdict__" : Str)) = false := by decide)
    (hN2 : X.N[m]? = some z := by rfl) (hv2 : Vis X.env.scope z := by first | exact Or.inl rfl | exact Or.inr (Or.inl rfl) | exact Or.inr (Or.inr rfl)) (hyd2 : (z == ("__debug__" : Str)) = false := by decide) (hcd2 : (z == ("__classdict__" : Str)) = false := by decide)
    (hdb : (x == ("__debug__" : Str)) = false := by decide) (he : starEach (.Name y py :: .Name z pz :: es) X.env = (false, eval (.Name y py) X.env) :: starEach (.Name z pz :: es) X.env := by rfl) (he2 : starEach (.Name z pz :: es) X.env = (false, eval (.Name z pz) X.env) :: starEach es X.env := by rfl) (hpl : (backTo pos (starEach (.Name z pz :: es) X.env)).any (·.1) = false := by rfl) :
    EX X Γ (.Call (.Name x p) (.Name y py :: .Name z pz :: es) [] pos) r ((Γ1.set i (s.re o')).set m (s2.re u')) := fun F σ H S Q R q => by
  obtain ⟨l, own0, _⟩ := R.has h0
  obtain ⟨l2, own20, _⟩ := R.has h20
  refine pe_we (pe_call Fo (g.rm.mono hk) hg at_.mg at_.kp hb hd passL (pa_cons (pe_var hN hv hyd hcd) (pa_cons (pe_var hN2 hv2 hyd2 hcd2) wa_pa he2) he) hdb he hpl) ⟨_, own0.2, _, own20.2, ha F σ H S _ R fun vs H1 S1 R1 s1 ok => ?_⟩
  obtain ⟨l', own1, ob⟩ := R1.has h1
  obtain rfl := own0.eq own1
  obtain ⟨l2', own2, ub⟩ := R1.has h2
  obtain rfl := own20.eq own2
  have npq : l ≠ l2 := fun z => R1.ne i m l hne own1 (by rw [z]; exact own2)
  refine ⟨S1, o, u, ds ++ dds, r, o', u', l, l2, vs ++ dvs, hp, rfl, npq, R1.sh, (R1.own own1).1, (R1.own own2).1, ob, ub, ok.append (hdd S1), fun v H2 S2 t n2 n3 ob2 ub2 => ?_⟩
  obtain ⟨R2, ok2⟩ := R1.after2 hne own1 own2 h1.1 h2.1 t ob2 ub2
  exact q v H2 S2 R2 (s1.trans t.ss) ok2
/-- o.m(e, ..): o a shared object -/
theorem zip_none {K : PySem.W.Frag} {S : Hp} {f : Str} : ∀ {ns : List Str} {ds : List D} {vs : List V}, Reps K S ds vs → ns.length = vs.length → (ns.zip ds).lookup f = none → (ns.zip vs).lookup f = none
  | [], _, _, _, _, _ => rfl
  | n :: ns, [], _, h, l, e => by rw [show _ = [] from h] at l; cases l
  | n :: ns, d' :: ds, _, ⟨v, r, rfl, h2, h3⟩, l, e => by
    rw [List.zip_cons_cons, List.lookup_cons] at e ⊢
    by_cases h : f == n
    · rw [h] at e; cases e
    · rw [Bool.eq_false_iff.mpr h] at e ⊢
      exact zip_none h3 (by simpa using l) e
theorem e_meth0 {P : List D → Rs → Prop} {o : Ex} {m : Str} {apos : Pos} {C : Addr} {ns : List Str} {fs : List D} {pl : Sem Bool} (Fo : FnOk X.prog X.w X.K X.mg X.base (L2.CX X.prog X.w) j f fd ps (sp0 X.K P)) (c : Cls X.K C) (hm : Meth X.K C m f) (g : Gd k X) (ho : EX X Γ o (.sh (.obj C ns fs)) Γ1) (hno : (ns.zip fs).lookup m = none) (hp : P (.obj C ns fs :: dds) r) (hb : Binds X.K fd ps dv) (hd : Vals dvs dv) (hdd : ∀ S, Reps X.K S dds dvs) (hk : j ≤ k := by decide)
    (ht : eval (.Call (.Attribute o m apos) [] [] pos) X.env = (do
      let ov ← eval o X.env
      standAt apos.atName
      let (f, first) ← holding [ov] (getMethod ov m pl)
      callWith pos f first (backTo pos (starEach [] X.env)) (backToKw pos (keywordEach [] X.env))) := by rfl) : EX X Γ (.Call (.Attribute o m apos) [] [] pos) r Γ1 := fun F σ H S Q R q =>
  pe_we (pe_meth0 we_pe c hm Fo (g.rm.mono hk) hb hd passL ht) (ho F σ H S _ R fun v H1 S1 R1 s1 ok => by
    obtain ⟨a, dx, vs, rfl, h1, h2, h3⟩ := id ok
    refine ⟨a, dx, _, rfl, R1.sh _ _ h1, zip_none h3 h2 hno, S1, .obj C ns fs :: dds, r, hp, R1.sh, .cons ok (hdd S1), fun v H2 S2 t => ?_⟩
    obtain ⟨R2, ok2⟩ := R1.after0 t
    exact q v H2 S2 R2 (s1.trans t.ss) ok2)
theorem e_meth {P : List D → Rs → Prop} {o : Ex} {m : Str} {apos : Pos} {C : Addr} {ns : List Str} {fs : List D} {pl : Sem Bool} (Fo : FnOk X.prog X.w X.K X.mg X.base (L2.CX X.prog X.w) j f fd ps (sp0 X.K P)) (c : Cls X.K C) (hm : Meth X.K C m f) (g : Gd k X) (ho : EX X Γ o (.sh (.obj C ns fs)) Γ1) (hno : (ns.zip fs).lookup m = none) (ha : AX X Γ1 (e :: es) ds Γ2) (hp : P (.obj C ns fs :: (ds ++ dds)) r) (hb : Binds X.K fd ps dv) (hd : Vals dvs dv) (hdd : ∀ S, Reps X.K S dds dvs) (hk : j ≤ k := by decide)
    (hst : starEach (e :: es) X.env = (false, eval e X.env) :: starEach es X.env := by rfl) (hpl : (backTo pos (starEach es X.env)).any (·.1) = false := by rfl)
    (ht : eval (.Call (.Attribute o m apos) (e :: es) [] pos) X.env = (do
      let ov ← eval o X.env
      standAt apos.atName
      let (f, first) ← holding [ov] (getMethod ov m pl)
      callWith pos f first (backTo pos (starEach (e :: es) X.env)) (backToKw pos (keywordEach [] X.env))) := by rfl) : EX X Γ (.Call (.Attribute o m apos) (e :: es) [] pos) r Γ2 := fun F σ H S Q R q =>
  pe_we (pe_meth we_pe c hm Fo (g.rm.mono hk) hb hd passL wa_pa hst hpl ht) (ho F σ H S _ R fun v H1 S1 R1 s1 ok => by
    obtain ⟨a, dx, vs, rfl, h1, h2, h3⟩ := id ok
    refine ⟨a, dx, _, rfl, R1.sh _ _ h1, zip_none h3 h2 hno, ha F σ H1 S1 _ R1 fun us H2 S2 R2 s2 ok2 => ?_⟩
    refine ⟨S2, .obj C ns fs :: (ds ++ dds), r, hp, R2.sh, .cons (Rep.mono s2 _ _ ok) (ok2.append (hdd S2)), fun v H3 S3 t => ?_⟩
    obtain ⟨R3, ok3⟩ := R2.after0 t
    exact q v H3 S3 R3 ((s1.trans s2).trans t.ss) ok3)
/-- C(e, ..): a new object, by its __init__ -/
theorem e_make {P : Ob → List D → Rs → Ob → Prop} {C : Addr} {o' : Ob} (M : Mk X.K C f) (Fo : FnOk X.prog X.w X.K X.mg X.base (L2.CX X.prog X.w) j f fd ps (sp1 X.K P)) (hm : X.mg x = some (.ref C)) (g : Gd k X) (ha : AX X Γ (e :: es) ds Γ1) (hp : P (.ins C [] []) (ds ++ dds) (.sh .non) o') (hb : Binds X.K fd ps dv) (hd : Vals dvs dv) (hdd : ∀ S, Reps X.K S dds dvs)
    (hk : j + 1 ≤ k := by decide) (hg : Gl X x := by rfl) (hdb : (x == ("__debug__" : Str)) = false := by decide) (he : starEach (e :: es) X.env = (false, eval e X.env) :: starEach es X.env := by rfl) (hpl : (backTo pos (starEach es X.env)).any (·.1) = false := by rfl) : EX X Γ (.Call (.Name x p) (e :: es) [] pos) (.ow o') Γ1 := fun F σ H S Q R q =>
  pe_we (pe_make M Fo (g.rm.mono hk) hg hm hb hd passL wa_pa hdb he hpl) (ha F σ H S _ R fun vs H1 S1 R1 s1 ok => fun a dx na nd ne => by
    have g1 : Same H1 (upd (upd H1 dx (.own a)) a (.ins C dx [])) := (same_upd nd).trans (same_upd (by rw [upd_ne ne.symm]; exact na))
    have R2 := R1.grow g1
    refine ⟨S1, .ins C [] [], ds ++ dds, .sh .non, o', a, vs ++ dvs, hp, rfl, R2.sh, R1.sNone na, ⟨dx, [], upd_same, rfl, rfl⟩, ok.append (hdd S1), fun v H2 S2 t n2 ob2 => ⟨t.res, ?_⟩⟩
    have t' : Ret X.K S1 H1 (fun _ => False) (.ow o') (.ref a) H2 S2 := ⟨t.ss, t.sh, fun b o e n => t.new b o (g1 b o e) n, fun b o _ e => t.kp b o (fun z => by rw [z, na] at e; cases e) (g1 b o e), fun b o e => t.th b o (g1 b o e), a, rfl, na, n2, ob2⟩
    obtain ⟨R3, ok3⟩ := R1.after0 t'
    exact q (.ref a) H2 S2 R3 (s1.trans t.ss) ok3)
end
end PL

set_option Elab.async false
set_option linter.all false
set_option maxRecDepth 100000
set_option maxHeartbeats 1000000
namespace PL
open PySem PySem.Spec PyProof.Rows L2
/-- what an iterator yields: n items, the i-th one stands for it i -/
def Walk (K : PySem.W.Frag) (J : It) (n : Nat) (it : Nat → D) (S : Hp) : Prop := ∀ i H, Same S H → (i < n → J.go i H) ∧ (i = n → J.stop i H) ∧ ∀ x H', i < n → J.yld i H x H' →
  (H' = H ∧ ∀ S', Same S S' → Rep K S' (it i) x) ∨ (∃ T vs ds, x = .ref T ∧ H T = none ∧ H' = upd H T (.tup vs) ∧ it i = .tup ds ∧ ∀ S', Same S S' → Reps K S' ds vs)
section
variable {X : Cx} {Γ Γ1 Γ2 : Gm} {tg iter e a b c : Ex} {body : List Stmt} {pos p : Pos} {n k : Nat} {it : Nat → D} {ds : List D}
def IterX (X : Cx) (tg iter : Ex) (Γ : Gm) (n : Nat) (it : Nat → D) (Γ1 : Gm) : Prop := ∃ wi, PI X tg iter wi ∧ ∀ F σ H S (R' : It → Hp → Prop), RS X.K F Γ σ H S →
  (∀ J H1 S1, RS X.K F Γ1 σ H1 S1 → Same S S1 → Walk X.K J n it S1 → R' J H1) → wi σ H R'
/-- a yielded item comes into the state -/
theorem Walk.take {K : PySem.W.Frag} {J : It} {F : Fr} {σ : L2.St} {H S S0 : Hp} {i : Nat} {x : V} {H' : Hp} (w : Walk K J n it S0) (R : RS K F Γ σ H S) (s : Same S0 S) (hi : i < n) (y : J.yld i H x H') : ∃ S', Same S S' ∧ RS K F Γ σ H' S' ∧ Rep K S' (it i) x := by
  rcases (w i H (s.trans R.sh)).2.2 x H' hi y with ⟨rfl, r⟩ | ⟨T, vs, ds, rfl, nT, rfl, e, r⟩
  · exact ⟨S, .refl _, R, r S s⟩
  · obtain ⟨R1, s1⟩ := R.laid (o := .tup vs) nT
    refine ⟨_, s1, R1, ?_⟩
    rw [e]
    exact ⟨T, vs, rfl, .of upd_same, r _ (s.trans s1)⟩
/-- for: all turns -/
theorem s1_for (g : Gd k X) (hi : IterX X tg iter Γ n it Γ1) (G B : Nat → Gm) (h0 : Cv X.K Γ1 (G 0)) (hg : ∀ i, i < n → GX X tg (G i) (it i) (B i)) (hb : ∀ i, i < n → SX X (B i) body (.nx (G (i + 1))) ∨ SX X (B i) body (.ct (G (i + 1))))
    (hs : ∀ x, foldedSetIterable iter X.env x = pure x := by intro _; rfl) : S1 X Γ (.For tg iter body [] pos) (.nx (G n)) := fun F σ H S D R q => by
  obtain ⟨wi, hw, hq⟩ := hi
  refine ps_w1 (ps_for g.po g.calm hw wg_pg ws_pss hs) (hq F σ H S _ R fun J H1 S1 R1 s1 w => ?_)
  obtain ⟨S2, s2, R2⟩ := h0 F σ H1 S1 R1
  refine ⟨fun i m σ' H' => m = n - i ∧ i ≤ n ∧ ∃ S', RS X.K F (G i) σ' H' S' ∧ Same S2 S', ⟨n, rfl, Nat.zero_le _, S2, R2, .refl _⟩, ?_⟩
  rintro i m σ' H' ⟨rfl, hi, S', R', s'⟩
  have sS : Same S1 S' := s2.trans s'
  by_cases hlt : i < n
  · refine .inr ⟨(w i H' (sS.trans R'.sh)).1 hlt, fun σ2 H2 => ∃ S3, RS X.K F (G (i + 1)) σ2 H2 S3 ∧ Same S2 S3, fun σ2 H2 ⟨S3, R3, s3⟩ => ⟨n - (i + 1), by omega, rfl, hlt, S3, R3, s3⟩, fun x H2 y => ?_⟩
    obtain ⟨S3, s3, R3, rx⟩ := w.take R' sS hlt y
    refine hg i hlt F σ' H2 S3 x _ R3 rx fun σ4 H4 S4 R4 s4 => ?_
    rcases hb i hlt with hb | hb
    · exact hb F σ4 H4 S4 _ R4 fun σ5 H5 S5 R5 s5 => ⟨S5, R5, ((s'.trans s3).trans s4).trans s5⟩
    · exact hb F σ4 H4 S4 _ R4 fun σ5 H5 S5 R5 s5 => ⟨S5, R5, ((s'.trans s3).trans s4).trans s5⟩
  · obtain rfl : i = n := by omega
    exact .inl ⟨(w i H' (sS.trans R'.sh)).2.1 rfl, q σ' H' S' R' ((s1.trans s2).trans s')⟩
/-- for: left in turn m, by return or break -/
theorem s1_forX {o o' : Out} (m : Nat) (g : Gd k X) (hi : IterX X tg iter Γ n it Γ1) (G B : Nat → Gm) (h0 : Cv X.K Γ1 (G 0)) (hm : m < n) (hg : ∀ i, i ≤ m → GX X tg (G i) (it i) (B i)) (hb : ∀ i, i < m → SX X (B i) body (.nx (G (i + 1))) ∨ SX X (B i) body (.ct (G (i + 1)))) (hx : SX X (B m) body o)
    (ho : (∃ r Γ', o = .rt r Γ' ∧ o' = .rt r Γ') ∨ ∃ Γ', o = .bk Γ' ∧ o' = .nx Γ') (hs : ∀ x, foldedSetIterable iter X.env x = pure x := by intro _; rfl) : S1 X Γ (.For tg iter body [] pos) o' := fun F σ H S D R q => by
  obtain ⟨wi, hw, hq⟩ := hi
  refine ps_w1 (ps_for g.po g.calm hw wg_pg ws_pss hs) (hq F σ H S _ R fun J H1 S1 R1 s1 w => ?_)
  obtain ⟨S2, s2, R2⟩ := h0 F σ H1 S1 R1
  refine ⟨fun i t σ' H' => t = m - i ∧ i ≤ m ∧ ∃ S', RS X.K F (G i) σ' H' S' ∧ Same S2 S', ⟨m, rfl, Nat.zero_le _, S2, R2, .refl _⟩, ?_⟩
  rintro i t σ' H' ⟨rfl, hi, S', R', s'⟩
  have sS : Same S1 S' := s2.trans s'
  have hlt : i < n := by omega
  refine .inr ⟨(w i H' (sS.trans R'.sh)).1 hlt, fun σ2 H2 => i < m ∧ ∃ S3, RS X.K F (G (i + 1)) σ2 H2 S3 ∧ Same S2 S3, fun σ2 H2 ⟨him, S3, R3, s3⟩ => ⟨m - (i + 1), by omega, rfl, him, S3, R3, s3⟩, fun x H2 y => ?_⟩
  obtain ⟨S3, s3, R3, rx⟩ := w.take R' sS hlt y
  refine hg i hi F σ' H2 S3 x _ R3 rx fun σ4 H4 S4 R4 s4 => ?_
  by_cases him : i < m
  · rcases hb i him with hb | hb
    · exact hb F σ4 H4 S4 _ R4 fun σ5 H5 S5 R5 s5 => ⟨him, S5, R5, ((s'.trans s3).trans s4).trans s5⟩
    · exact hb F σ4 H4 S4 _ R4 fun σ5 H5 S5 R5 s5 => ⟨him, S5, R5, ((s'.trans s3).trans s4).trans s5⟩
  · obtain rfl : i = m := by omega
    have all : Same S S4 := ((((s1.trans s2).trans s').trans s3).trans s4)
    rcases ho with ⟨r, Γ', rfl, rfl⟩ | ⟨Γ', rfl, rfl⟩
    · exact hx F σ4 H4 S4 _ R4 fun v σ5 H5 S5 R5 s5 ok => q v σ5 H5 S5 R5 (all.trans s5) ok
    · exact hx F σ4 H4 S4 _ R4 fun σ5 H5 S5 R5 s5 => q σ5 H5 S5 R5 (all.trans s5)
/-! ### what is walked -/
theorem it_range1 {j : Int} (hm : X.mg "range" = none) (h : AX X Γ [a] [.int j] Γ1) (h1 : -(2 ^ 62) ≤ j) (h2 : j < 2 ^ 62) (hg : Gl X "range" := by rfl) (hs : starEach [a] X.env = [(false, eval a X.env)] := by rfl) : IterX X tg (.Call (.Name "range" p) [a] [] pos) Γ j.toNat (fun i => .int i) Γ1 :=
  ⟨_, pi_range1 hg hm wa_pa hs, fun F σ H S R' R q => h F σ H S _ R fun vs H1 S1 R1 s1 ok => ⟨j, by obtain ⟨v, r, rfl, rfl, e⟩ := ok; rw [show r = [] from e], h1, h2, q _ H1 S1 R1 s1 fun i H' sH => ⟨fun z => z, fun z => Nat.le_of_eq z.symm, fun x H2 hi y => .inl ⟨y.1, fun S' _ => by
    have e : x = .int (0 + (i : Nat)) := y.2
    rw [e]; show V.int _ = V.int _; rw [Int.zero_add]⟩⟩⟩⟩
theorem it_range2 {l j : Int} (hm : X.mg "range" = none) (h : AX X Γ [a, b] [.int l, .int j] Γ1) (h1 : -(2 ^ 62) ≤ l ∧ l < 2 ^ 62 ∧ -(2 ^ 62) ≤ j ∧ j < 2 ^ 62) (hg : Gl X "range" := by rfl) (hs : starEach [a, b] X.env = [(false, eval a X.env), (false, eval b X.env)] := by rfl) (hs2 : starEach [b] X.env = [(false, eval b X.env)] := by rfl) : IterX X tg (.Call (.Name "range" p) [a, b] [] pos) Γ (j - l).toNat (fun i => .int (l + (i : Nat))) Γ1 :=
  ⟨_, pi_range2 hg hm wa_pa hs hs2, fun F σ H S R' R q => h F σ H S _ R fun vs H1 S1 R1 s1 ok => ⟨l, j, by obtain ⟨v, r, rfl, rfl, w, r2, rfl, rfl, e⟩ := ok; rw [show r2 = [] from e], h1, q _ H1 S1 R1 s1 fun i H' sH => ⟨fun z => z, fun z => Nat.le_of_eq z.symm, fun x H2 hi y => .inl ⟨y.1, fun S' _ => y.2⟩⟩⟩⟩
theorem it_range3 {l j st : Int} (hm : X.mg "range" = none) (h : AX X Γ [a, b, c] [.int l, .int j, .int st] Γ1) (h1 : RgC l j st n) (hg : Gl X "range" := by rfl) (hs : starEach [a, b, c] X.env = (false, eval a X.env) :: starEach [b, c] X.env := by rfl) (hpl : (backTo pos (starEach [b, c] X.env)).any (·.1) = false := by rfl) : IterX X tg (.Call (.Name "range" p) [a, b, c] [] pos) Γ n (fun i => .int (l + (i : Nat) * st)) Γ1 :=
  ⟨_, pi_range3 hg hm wa_pa hs hpl, fun F σ H S R' R q => h F σ H S _ R fun vs H1 S1 R1 s1 ok => ⟨l, j, st, n, by obtain ⟨v, r, rfl, rfl, w, r2, rfl, rfl, w2, r3, rfl, rfl, e⟩ := ok; rw [show r3 = [] from e], h1, q _ H1 S1 R1 s1 fun i H' sH => ⟨fun z => z, fun z => Nat.le_of_eq z.symm, fun x H2 hi y => .inl ⟨y.1, fun S' _ => y.2⟩⟩⟩⟩
/-- the items of a list of data -/
def itd (ds : List D) : Nat → D := fun i => ds.getD i .non
theorem itd_rep {K : PySem.W.Frag} {S : Hp} {vs : List V} {i : Nat} {x : V} (r : Reps K S ds vs) (e : vs[i]? = some x) : Rep K S (itd ds i) x := by
  obtain ⟨d, e1, e2⟩ := r.get' e
  unfold itd
  rw [List.getD_eq_getElem?_getD, e1]
  exact e2
theorem walk_sqL {K : PySem.W.Frag} {S : Hp} {l : Addr} {vs : List V} (hs : SqL K S l vs) (r : Reps K S ds vs) (inj : ∀ H ys zs, Same S H → SqL K H l ys → SqL K H l zs → ys = zs) : Walk K (Itl K l) ds.length (itd ds) S := fun i H sH => by
  have hq := sH.seq hs
  refine ⟨fun hi => ?_, fun hi => ⟨vs, hq, by rw [← r.length, hi]; exact Nat.le_refl _⟩, fun x H' hi y => .inl ⟨y.1, fun S' sS => ?_⟩⟩
  · have h2 : i < vs.length := by rw [← r.length]; exact hi
    exact ⟨vs, vs[i], hq, List.getElem?_eq_getElem h2⟩
  · exact Rep.mono sS _ _ (itd_rep r (y.2 vs hq))
theorem it_list (h : EX X Γ e (.sh (.lst ds)) Γ1) : IterX X tg e Γ ds.length (itd ds) Γ1 :=
  ⟨_, pi_list we_pe, fun F σ H S R' R q => h F σ H S _ R fun v H1 S1 R1 s1 ok => by
    obtain ⟨l, vs, rfl, h1, h2⟩ := ok
    refine ⟨l, rfl, ⟨vs, .of (R1.sh _ _ h1)⟩, q _ H1 S1 R1 s1 fun i H' sH => ?_⟩
    have hq : SqL X.K H' l vs := .of (sH _ _ h1)
    refine ⟨fun hi => ⟨vs, vs[i]'(by rw [← h2.length]; exact hi), hq, List.getElem?_eq_getElem _⟩, fun hi => ⟨vs, hq, by rw [← h2.length, hi]; exact Nat.le_refl _⟩, fun x H2 hi y => .inl ⟨y.1, fun S' sS => Rep.mono sS _ _ (itd_rep h2 (y.2 vs hq))⟩⟩⟩
theorem it_fls (h : EX X Γ e (.sh (.fls ds)) Γ1) : IterX X tg e Γ ds.length (itd ds) Γ1 :=
  ⟨_, pi_list we_pe, fun F σ H S R' R q => h F σ H S _ R fun v H1 S1 R1 s1 ok => by
    obtain ⟨l, vs, rfl, h1, h2⟩ := ok
    refine ⟨l, rfl, ⟨vs, R1.sh.seq h1⟩, q _ H1 S1 R1 s1 fun i H' sH => ?_⟩
    have hq : SqL X.K H' l vs := sH.seq h1
    refine ⟨fun hi => ⟨vs, vs[i]'(by rw [← h2.length]; exact hi), hq, List.getElem?_eq_getElem _⟩, fun hi => ⟨vs, hq, by rw [← h2.length, hi]; exact Nat.le_refl _⟩, fun x H2 hi y => .inl ⟨y.1, fun S' sS => Rep.mono sS _ _ (itd_rep h2 (y.2 vs hq))⟩⟩⟩
theorem it_tup (h : EX X Γ e (.sh (.tup ds)) Γ1) : IterX X tg e Γ ds.length (itd ds) Γ1 :=
  ⟨_, pi_tup we_pe, fun F σ H S R' R q => h F σ H S _ R fun v H1 S1 R1 s1 ok => by
    obtain ⟨l, vs, rfl, h1, h2⟩ := ok
    refine ⟨l, rfl, ⟨vs, same_sqt R1.sh h1⟩, q _ H1 S1 R1 s1 fun i H' sH => ?_⟩
    have hq : SqT X.K H' l vs := same_sqt sH h1
    refine ⟨fun hi => ⟨vs, vs[i]'(by rw [← h2.length]; exact hi), hq, List.getElem?_eq_getElem _⟩, fun hi => ⟨vs, hq, by rw [← h2.length, hi]; exact Nat.le_refl _⟩, fun x H2 hi y => .inl ⟨y.1, fun S' sS => Rep.mono sS _ _ (itd_rep h2 (y.2 vs hq))⟩⟩⟩
def sgn (x : Str) (i : Nat) : Str := ⟨#[x.cps.getD i 0]⟩
theorem it_str {x : Str} (h : EX X Γ e (.sh (.str x)) Γ1) : IterX X tg e Γ x.cps.size (fun i => .str (sgn x i)) Γ1 :=
  ⟨_, pi_str we_pe, fun F σ H S R' R q => h F σ H S _ R fun v H1 S1 R1 s1 ok => ⟨x, ok, q _ H1 S1 R1 s1 fun i H' sH => ⟨fun z => z, fun z => Nat.le_of_eq z.symm, fun y H2 hi yl => .inl ⟨yl.1, fun S' _ => by
    obtain ⟨_, cc, e1, e2⟩ := yl
    rw [e2]
    show V.str _ = V.str _
    unfold sgn
    rw [Array.getD_eq_getD_getElem?, e1]
    rfl⟩⟩⟩⟩
end
end PL

set_option Elab.async false
set_option linter.all false
set_option maxRecDepth 100000
set_option maxHeartbeats 1000000
namespace PL
open PySem PySem.Spec PyProof.Rows L2
theorem wipe_get {σ : L2.St} {j : Nat} : ∀ {vs : List Nat}, (wipe σ vs)[j]? = if j ∈ vs then (if j < σ.length then some none else none) else σ[j]?
  | [] => by rw [if_neg (by simp)]; rfl
  | i :: vs => by
    by_cases h : j ∈ i :: vs
    · rw [if_pos h]
      cases q : (wipe σ (i :: vs))[j]? with
      | none =>
        have := List.getElem?_eq_none_iff.mp q
        rw [wipe_length] at this
        rw [if_neg (by omega)]
      | some y =>
        have hl : j < σ.length := by
          have := (List.getElem?_eq_some_iff.mp q).1
          rw [wipe_length] at this
          exact this
        rw [if_pos hl]
        cases y with
        | none => rfl
        | some v => exact absurd h (wipe_some q).2
    · rw [if_neg h]
      exact wipe_out h
theorem wipe_set {σ : L2.St} {vs : List Nat} {i : Nat} {x : Option V} (h : i ∈ vs) : wipe (σ.set i x) vs = wipe σ vs := by
  refine List.ext_getElem? fun j => ?_
  rw [wipe_get, wipe_get, List.length_set]
  by_cases hj : j ∈ vs
  · rw [if_pos hj, if_pos hj]
  · rw [if_neg hj, if_neg hj, List.getElem?_set_ne (fun e : i = j => hj (e ▸ h))]
theorem wipe_wipe {σ : L2.St} {vs : List Nat} : wipe (wipe σ vs) vs = wipe σ vs := by
  refine List.ext_getElem? fun j => ?_
  rw [wipe_get, wipe_length]
  by_cases hj : j ∈ vs
  · rw [if_pos hj, wipe_get, if_pos hj]
  · rw [if_neg hj]
section
variable {K : PySem.W.Frag} {F : Fr} {Γ : Gm} {σ : L2.St} {H S : Hp} {vs : List Nat}
def UnAt (Γ : Gm) (vs : List Nat) : Prop := ∀ i, i ∈ vs → ∀ s, Γ[i]? = some s → s = .un
theorem ownAt_wipe {i : Nat} {a : Addr} (u : UnAt Γ vs) : OwnAt Γ (wipe σ vs) i a ↔ OwnAt Γ σ i a := by
  constructor
  · rintro ⟨h, q⟩
    refine ⟨h, ?_⟩
    exact (wipe_some q).1
  · rintro ⟨h, q⟩
    refine ⟨h, ?_⟩
    have ni : i ∉ vs := fun hi => by
      rcases h with ⟨o, z⟩ | ⟨p, o, z⟩
      · cases u i hi _ z
      · cases u i hi _ z
    rw [wipe_get, if_neg ni]
    exact q
theorem RS.wipe (R : RS K F Γ σ H S) (u : UnAt Γ vs) : RS K F Γ (L2.wipe σ vs) H S := by
  refine ⟨R.s0, R.sh, R.new, R.kp, R.th, fun i s e => ?_, fun i j a n x y => R.ne i j a n ((ownAt_wipe u).mp x) ((ownAt_wipe u).mp y), by rw [wipe_length]; exact R.len⟩
  by_cases hi : i ∈ vs
  · rw [u i hi s e]; trivial
  · rw [wipe_get, if_neg hi]
    exact R.sl i s e
theorem RS.unwipe (R : RS K F Γ (L2.wipe σ vs) H S) (u : UnAt Γ vs) : RS K F Γ σ H S := by
  refine ⟨R.s0, R.sh, R.new, R.kp, R.th, fun i s e => ?_, fun i j a n x y => R.ne i j a n ((ownAt_wipe u).mpr x) ((ownAt_wipe u).mpr y), by rw [← wipe_length σ vs]; exact R.len⟩
  by_cases hi : i ∈ vs
  · rw [u i hi s e]; trivial
  · have q := R.sl i s e
    rw [wipe_get, if_neg hi] at q
    exact q
/-- an object that is neither shared nor owned is changed -/
theorem RS.other (R : RS K F Γ σ H S) {p : Addr} {x : HO} (n : S p = none) (n0 : F.H0 p = none) (no : ¬ Own Γ σ p) : RS K F Γ σ (upd H p x) S := by
  refine ⟨R.s0, fun b u e => ?_, R.new, fun b u nb e => ?_, fun b u e => ?_, fun j t e => ?_, R.ne, R.len⟩
  · rw [upd_ne (fun hb : b = p => by rw [hb, n] at e; cases e)]
    exact R.sh b u e
  · rw [upd_ne (fun hb : b = p => by rw [hb, n0] at e; cases e)]
    exact R.kp b u nb e
  · rw [upd_ne (fun hb : b = p => by rw [hb, n0] at e; cases e)]
    exact R.th b u e
  · have w := R.sl j t e
    have kept : ∀ b, OwnAt Γ σ j b → ∀ u, H b = some u → (upd H p x) b = some u := fun b ob u z => by
      rw [upd_ne (fun hb : b = p => no ⟨j, by rw [← hb]; exact ob⟩)]
      exact z
    cases t with
    | un => trivial
    | sh d => exact w
    | ow o2 => obtain ⟨b, e1, e2, e3, e4⟩ := w; exact ⟨b, e1, e2, e3, e4.mono (.refl _) (kept b ⟨.inl ⟨o2, e⟩, e1⟩)⟩
    | pr p2 o2 => obtain ⟨e1, e2, e3, e4⟩ := w; exact ⟨e1, e2, e3, e4.mono (.refl _) (kept p2 ⟨.inr ⟨p2, o2, e⟩, e1⟩)⟩
end
/-- a comprehension's block -/
abbrev bk (X : Cx) (scope : Scope) (s : Shared) (H : Hp) (C : Addr) (cl : List (Str × Addr)) (fp : List Addr) : Cx := X.blk s H scope (compEnvC scope cl C X.env) fp
theorem Gd.blk {k : Nat} {X : Cx} (g : Gd k X) {scope : Scope} {s : Shared} {H : Hp} {C : Addr} {cl : List (Str × Addr)} {fp : List Addr} : Gd k (bk X scope s H C cl fp) := ⟨g.calm, g.nd, PassesOwn.never, g.rm⟩
/-- what a comprehension's target does: its reading, the slots, the state behind it -/
structure Tgt (g : TG) (K : PySem.W.Frag) (vs : List Nat) (Γ : Gm) (d : D) (Γ' : Gm) : Prop where
  run : ∀ F σ H S v (Q : L2.St → Hp → Prop), RS K F Γ σ H S → Rep K S d v → (∀ σ', L2.wipe σ' vs = L2.wipe σ vs → RS K F Γ' σ' H S → Q σ' H) → g v σ H Q
theorem tgt_name {K : PySem.W.Frag} {vs : List Nat} {Γ : Gm} {d : D} (i : Nat) (hi : i ∈ vs) (hl : i < Γ.length) : Tgt (gName i) K vs Γ d (Γ.set i (.sh d)) :=
  ⟨fun F σ H S v Q R ok q => q _ (wipe_set hi) (R.put (r := .sh d) hl ok (fun _ z => by cases z))⟩
theorem tgt_two {K : PySem.W.Frag} {vs : List Nat} {Γ : Gm} {d1 d2 : D} (i j : Nat) (hi : i ∈ vs) (hj : j ∈ vs) (hl : i < Γ.length) (hl2 : j < Γ.length) : Tgt (gTup K 2 (gCons (gName i) (gCons (gName j) gNil))) K vs Γ (.tup [d1, d2]) ((Γ.set i (.sh d1)).set j (.sh d2)) :=
  ⟨fun F σ H S v Q R ok q => by
    obtain ⟨p, us, rfl, h1, h2⟩ := ok
    obtain ⟨v1, r1, rfl, o1, v2, r2, rfl, o2, o3⟩ := h2
    obtain rfl : r2 = [] := o3
    refine ⟨p, _, rfl, same_sqt R.sh h1, rfl, v1, _, rfl, v2, _, rfl, rfl, q _ ?_ ?_⟩
    · rw [wipe_set hj, wipe_set hi]
    · exact (R.put (r := .sh d1) hl o1 (fun _ z => by cases z)).put (r := .sh d2) (by rw [List.length_set]; exact hl2) o2 (fun _ z => by cases z)⟩
section
variable {X : Cx} {Γ Γ1 : Gm} {tg iter elt : Ex} {ifs : List Ex} {scope : Scope} {own : List (Str × Nat)} {pos : Pos} {n k : Nat} {it f : Nat → D} {t : Nat → Bool} {g : TG}
/-- the items taken up to turn j -/
def took (t : Nat → Bool) (f : Nat → D) (j : Nat) : List D := ((List.range j).filter t).map f
theorem took_succ {j : Nat} : took t f (j + 1) = if t j = true then took t f j ++ [f j] else took t f j := by
  unfold took
  rw [List.range_succ, List.filter_append, List.map_append]
  by_cases h : t j = true
  · rw [if_pos h, List.filter_cons_of_pos h]; rfl
  · rw [if_neg h, List.filter_cons_of_neg h]; exact List.append_nil _
theorem took_len {j : Nat} : (took t f j).length ≤ j := by
  unfold took
  rw [List.length_map]
  exact Nat.le_trans (List.length_filter_le _ _) (by rw [List.length_range]; exact Nat.le_refl _)
theorem lc_read {wi : TI} {tt : TT} {te : TE} {vs : List Nat} (G B Bt Be : Nat → Gm) (hn : n ≤ sizeLine)
    (hq : ∀ F σ H S (R' : It → Hp → Prop), RS X.K F Γ σ H S → (∀ J H1 S1, RS X.K F Γ1 σ H1 S1 → Same S S1 → Walk X.K J n it S1 → R' J H1) → wi σ H R') (h0 : Cv X.K Γ1 (G 0)) (hu : ∀ j, j ≤ n → UnAt (G j) vs)
    (hg : ∀ j, j < n → Tgt g X.K vs (G j) (it j) (B j))
    (ht : ∀ j, j < n → ∀ F σ H S (Q : Bool → Hp → Prop), RS X.K F (B j) σ H S → (∀ H' S', RS X.K F (Bt j) σ H' S' → Same S S' → Q (t j) H') → tt σ H Q)
    (he : ∀ j, j < n → t j = true → ∀ F σ H S (Q : VK), RS X.K F (Bt j) σ H S → (∀ v H' S', RS X.K F (Be j) σ H' S' → Same S S' → Rep X.K S' (f j) v → Q v H') → te σ H Q)
    (hT : ∀ j, j < n → t j = true → Cv X.K (Be j) (G (j + 1))) (hF : ∀ j, j < n → t j = false → Cv X.K (Bt j) (G (j + 1)))
    {F : Fr} {σ : L2.St} {H S : Hp} {Q : VK} (R : RS X.K F Γ σ H S) (q : ∀ v H' S', RS X.K F (G n) σ H' S' → Same S S' → RsOk X.K F (G n) σ H' S' (.ow (.lst (took t f n))) v → Q v H') : tLc wi g tt te vs σ H Q := by
  refine hq F σ H S _ R fun J H1 S1 R1 s1 w => ?_
  intro Dd nD
  obtain ⟨S2, s2, R2⟩ := h0 F σ H1 S1 R1
  have R3 : RS X.K F (G 0) (L2.wipe σ vs) (upd H1 Dd (.lst [])) S2 := (R2.grow (same_upd nD)).wipe (hu 0 (Nat.zero_le _))
  have nD0 : F.H0 Dd = none := R2.h0None nD
  refine ⟨fun i m H' => m = n - i ∧ i ≤ n ∧ ∃ S' acc, RS X.K F (G i) (L2.wipe σ vs) H' S' ∧ Same S2 S' ∧ H' Dd = some (.lst acc) ∧ S' Dd = none ∧ ¬ Own (G i) (L2.wipe σ vs) Dd ∧ Reps X.K S' (took t f i) acc,
    ⟨n, rfl, Nat.zero_le _, S2, [], R3, .refl _, upd_same, R2.sNone nD, fun ow => ?_, rfl⟩, ?_⟩
  · obtain ⟨i, oi⟩ := ow
    exact R2.ownNone nD ⟨i, (ownAt_wipe (hu 0 (Nat.zero_le _))).mp oi⟩
  rintro i m H' ⟨rfl, hi, S', acc, R', s', hD, nS, nO, rp⟩
  have sS : Same S1 S' := s2.trans s'
  by_cases hlt : i < n
  · refine .inr ⟨(w i H' (sS.trans R'.sh)).1 hlt, fun H2 => ∃ S3 acc', RS X.K F (G (i + 1)) (L2.wipe σ vs) H2 S3 ∧ Same S2 S3 ∧ H2 Dd = some (.lst acc') ∧ S3 Dd = none ∧ ¬ Own (G (i + 1)) (L2.wipe σ vs) Dd ∧ Reps X.K S3 (took t f (i + 1)) acc', fun H2 h => ⟨n - (i + 1), by omega, rfl, hlt, h⟩, fun x H2 y => ?_⟩
    -- the frame of this very turn: what stands at Dd is kept
    have Rb := R'.rebase
    obtain ⟨S3, s3, R4, rx⟩ := w.take Rb sS hlt y
    refine (hg i hlt).run _ _ H2 S3 x _ R4 rx fun σ4 hw4 R5 => ⟨?_, ?_⟩
    · rw [hw4, wipe_wipe]
    refine ht i hlt _ σ4 H2 S3 _ R5 fun H6 S6 R6 s6 => ?_
    have fin : ∀ {Γx : Gm} {H7 S7 : Hp}, RS X.K (.here (G i) (L2.wipe σ vs) H' S') Γx σ4 H7 S7 → Cv X.K Γx (G (i + 1)) → ∃ S8, Same S7 S8 ∧ RS X.K F (G (i + 1)) (L2.wipe σ vs) H7 S8 ∧ H7 Dd = some (.lst acc) ∧ S8 Dd = none ∧ ¬ Own (G (i + 1)) (L2.wipe σ vs) Dd := fun {Γx H7 S7} R7 cv => by
      obtain ⟨S8, s8, R8⟩ := cv _ σ4 H7 S7 R7
      have k7 : H7 Dd = some (.lst acc) := R8.kp Dd _ nO hD
      have n8 : S8 Dd = none := R8.new Dd _ hD nO nS
      have o8 : ¬ Own (G (i + 1)) σ4 Dd := fun ⟨l, ol⟩ => by
        rcases (R8.own ol).2.1 with z | z
        · have z' : H' Dd = none := z
          rw [hD] at z'; cases z'
        · exact nO z
      have R9 := R'.back R8
      have R10 : RS X.K F (G (i + 1)) (L2.wipe σ vs) H7 S8 := by
        have z := R9.wipe (vs := vs) (hu (i + 1) hlt)
        rw [hw4, wipe_wipe] at z
        exact z
      refine ⟨S8, s8, R10, k7, n8, fun ⟨l, ol⟩ => o8 ⟨l, ?_⟩⟩
      have z := (ownAt_wipe (σ := σ4) (hu (i + 1) hlt)).mp (by rw [hw4, wipe_wipe]; exact ol)
      exact z
    cases hti : t i with
    | false =>
      refine iteF ?_
      obtain ⟨S8, s8, R8, k8, n8, o8⟩ := fin R6 (hF i hlt hti)
      refine ⟨S8, acc, R8, ((s'.trans s3).trans s6).trans s8, k8, n8, o8, ?_⟩
      rw [took_succ, if_neg (by rw [hti]; decide)]
      exact Reps.mono ((s3.trans s6).trans s8) _ _ rp
    | true =>
      refine iteT (he i hlt hti _ σ4 H6 S6 _ R6 fun v H7 S7 R7 s7 rv => ?_)
      obtain ⟨S8, s8, R8, k8, n8, o8⟩ := fin R7 (hT i hlt hti)
      have al : acc.length < sizeLine := by
        rw [← rp.length]
        exact Nat.lt_of_le_of_lt took_len (Nat.lt_of_lt_of_le hlt hn)
      refine ⟨acc, k8, al, S8, acc ++ [v], R8.other n8 nD0 o8, (((s'.trans s3).trans s6).trans s7).trans s8, upd_same, n8, o8, ?_⟩
      rw [took_succ, if_pos hti]
      exact (Reps.mono (((s3.trans s6).trans s7).trans s8) _ _ rp).append (.one (Rep.mono s8 _ _ rv))
  · obtain rfl : i = n := by omega
    refine .inl ⟨(w i H' (sS.trans R'.sh)).2.1 rfl, q _ H' S' (R'.unwipe (hu i (Nat.le_refl _))) ((s1.trans s2).trans s') ⟨Dd, rfl, nS, nD0, ⟨acc, hD, rp⟩, fun ⟨l, ol⟩ => nO ⟨l, (ownAt_wipe (hu i (Nat.le_refl _))).mpr ol⟩⟩⟩
/-- what a comprehension does, turn by turn -/
structure LcX (X : Cx) (Γ : Gm) (tg iter : Ex) (ifs : List Ex) (elt : Ex) (scope : Scope) (own : List (Str × Nat)) (n : Nat) (t : Nat → Bool) (f : Nat → D) (Γ' : Gm) : Prop where
  run : ∃ (it : Nat → D) (Γ1 : Gm) (g : TG) (G B Bt Be : Nat → Gm), n ≤ sizeLine ∧ IterX X tg iter Γ n it Γ1 ∧ BlkOk X.N X.env.scope scope own ∧ Cv X.K Γ1 (G 0) ∧ (∀ j, j ≤ n → UnAt (G j) (own.map (·.2))) ∧
    (∀ s H C cl fp, PG (bk X scope s H C cl fp) tg g) ∧ (∀ j, j < n → Tgt g X.K (own.map (·.2)) (G j) (it j) (B j)) ∧
    ((ifs = [] ∧ (∀ j, t j = true) ∧ Bt = B) ∨ ∃ c, ifs = [c] ∧ ∀ j, j < n → ∀ s H C cl fp, TX (bk X scope s H C cl fp) (B j) c (t j) (Bt j)) ∧
    (∀ j, j < n → t j = true → ∀ s H C cl fp, EX (bk X scope s H C cl fp) (Bt j) elt (.sh (f j)) (Be j)) ∧ (∀ j, j < n → t j = true → Cv X.K (Be j) (G (j + 1))) ∧ (∀ j, j < n → t j = false → Cv X.K (Bt j) (G (j + 1))) ∧ Γ' = G n
def teC (X : Cx) (scope : Scope) (elt : Ex) : TE := fun σ H Q => ∀ s H' C cl fp, WE (bk X scope s H' C cl fp) elt σ H Q
def ttC (X : Cx) (scope : Scope) (c : Ex) : TT := fun σ H Q => ∀ s H' C cl fp, WT (bk X scope s H' C cl fp) c σ H Q
theorem LcX.reads {Γ' : Gm} (h : LcX X Γ tg iter ifs elt scope own n t f Γ') : ∃ wi g tt, PI X tg iter wi ∧ BlkOk X.N X.env.scope scope own ∧ (∀ s H C cl fp, PG (bk X scope s H C cl fp) tg g) ∧ (∀ s H C cl fp, PTs (bk X scope s H C cl fp) ifs tt) ∧ (∀ s H C cl fp, PE (bk X scope s H C cl fp) elt (teC X scope elt)) ∧
    ∀ F σ H S (Q : VK), RS X.K F Γ σ H S → (∀ v H' S', RS X.K F Γ' σ H' S' → Same S S' → RsOk X.K F Γ' σ H' S' (.ow (.lst (took t f n))) v → Q v H') → tLc wi g tt (teC X scope elt) (own.map (·.2)) σ H Q := by
  obtain ⟨it, Γ1, g, G, B, Bt, Be, hn, ⟨wi, hw, hq⟩, hbk, h0, hu, hpg, hg, hif, he, hT, hF, rfl⟩ := h.run
  have pe : ∀ s H C cl fp, PE (bk X scope s H C cl fp) elt (teC X scope elt) := fun s H C cl fp => ⟨fun pins s1 σ H1 Q I h => h s H C cl fp pins s1 I⟩
  have eh : ∀ j, j < n → t j = true → ∀ F σ H S (Q : VK), RS X.K F (Bt j) σ H S → (∀ v H' S', RS X.K F (Be j) σ H' S' → Same S S' → Rep X.K S' (f j) v → Q v H') → teC X scope elt σ H Q := fun j hj tj F σ H S Q R q s H' C cl fp => he j hj tj s H' C cl fp F σ H S Q R q
  rcases hif with ⟨rfl, ht, rfl⟩ | ⟨c, rfl, ht⟩
  · refine ⟨wi, g, tYes, hw, hbk, hpg, fun _ _ _ _ _ => pts_nil, pe, fun F σ H S Q R q => lc_read G Bt Bt Be hn hq h0 hu hg (fun j hj F σ H S Q R q => ?_) eh hT hF R q⟩
    have z := q H S R (.refl _)
    rw [ht j] at z
    exact z
  · exact ⟨wi, g, ttC X scope c, hw, hbk, hpg, fun s H C cl fp => pts_one ⟨fun pins s1 σ H1 Q I h => h s H C cl fp pins s1 I⟩, pe, fun F σ H S Q R q => lc_read G B Bt Be hn hq h0 hu hg (fun j hj F σ H S Q R q s H' C cl fp => ht j hj s H' C cl fp F σ H S Q R q) eh hT hF R q⟩
theorem e_lc {Γ' : Gm} (gd : Gd k X) (h : LcX X Γ tg iter ifs elt scope own n t f Γ') (hs : ∀ x, foldedSetIterable iter X.env x = pure x := by intro _; rfl) : EX X Γ (.ListComp elt [⟨tg, iter, ifs, 0⟩] scope pos) (.ow (.lst (took t f n))) Γ' := fun F σ H S Q R q => by
  obtain ⟨wi, g, tt, hw, hbk, hpg, hpt, hpe, hq⟩ := h.reads
  exact pe_we (pe_lc gd.calm gd.nd hw hbk hpg hpt hpe hs) (hq F σ H S Q R q)
theorem s1_setLc {Γ' : Gm} (i : Nat) {y : Str} {py spos : Pos} (gd : Gd k X) (h : LcX X Γ tg iter ifs elt scope own n t f Γ') (hl : i < Γ'.length := by exact Nat.le_of_ble_eq_true rfl) (hy : X.N[i]? = some y := by rfl) (hyl : X.env.scope.names.lookup y = some .local := by rfl)
    (hsw : swapsWith (.ListComp elt [⟨tg, iter, ifs, 0⟩] scope pos) (some (.Name y py)) spos.line X.env = pure true := by exact sw_true rfl rfl rfl (by decide +kernel)) (hs : ∀ x, foldedSetIterable iter X.env x = pure x := by intro _; rfl) : S1 X Γ (.Assign [.Name y py] (.ListComp elt [⟨tg, iter, ifs, 0⟩] scope pos) spos) (.nx (Γ'.set i (.ow (.lst (took t f n))))) := fun F σ H S D R q => by
  obtain ⟨wi, g, tt, hw, hbk, hpg, hpt, hpe, hq⟩ := h.reads
  exact ps_w1 (ps_setLc gd.calm gd.nd hy hyl hsw hw hbk hpg hpt hpe hs) (hq F σ H S _ R fun v H1 S1 R1 s1 ok => q _ H1 S1 (R1.put hl ok (fun _ z => by cases z)) s1)
end
end PL

set_option Elab.async false
set_option linter.all false
set_option maxRecDepth 100000
set_option maxHeartbeats 1000000
namespace PL
open PySem PySem.Spec PyProof.Rows L2
section
variable {X : Cx} {d d1 d2 : D}
theorem ops_sc {f : Value → Value → Sem Value} {rr : R2} (h : OpR X f rr) (v : V) (hv : ∀ S, Rep X.K S d v) (hd : ∀ H S x y (Q : VK), Same S H → Rep X.K S d1 x → Rep X.K S d2 y → Q v H → rr x y H Q) : OpS X f d1 d2 (.sh d) :=
  ⟨rr, h, fun Γ F σ H S x y Q R r1 r2 q => hd H S x y Q R.sh r1 r2 (q v H S R (.refl _) (hv S))⟩
variable {i j : Int} {a b : Str}
theorem o_addI : OpS X (binaryOp .Add) (.int i) (.int j) (.sh (.int (i + j))) := ops_sc op_add (.int (i + j)) (fun _ => rfl) fun H S x y Q _ r1 r2 q => ⟨i, j, r1, r2, q⟩
theorem o_subI : OpS X (binaryOp .Sub) (.int i) (.int j) (.sh (.int (i - j))) := ops_sc op_sub (.int (i - j)) (fun _ => rfl) fun H S x y Q _ r1 r2 q => ⟨i, j, r1, r2, q⟩
theorem o_mulI (hc : CMul i j) : OpS X (binaryOp .Mult) (.int i) (.int j) (.sh (.int (i * j))) := ops_sc op_mul (.int (i * j)) (fun _ => rfl) fun H S x y Q _ r1 r2 q => ⟨i, j, r1, r2, hc, q⟩
theorem o_mulW (hc : CMulW i j) : OpS X (binaryOp .Mult) (.int i) (.int j) (.sh (.int (i * j))) := ops_sc op_mulW (.int (i * j)) (fun _ => rfl) fun H S x y Q _ r1 r2 q => ⟨i, j, r1, r2, hc, q⟩
theorem o_mod (hc : 0 < j) : OpS X (binaryOp .Mod) (.int i) (.int j) (.sh (.int (i % j))) := ops_sc op_mod (.int (i % j)) (fun _ => rfl) fun H S x y Q _ r1 r2 q => ⟨i, j, r1, r2, hc, q⟩
theorem o_fdiv (hc : CDiv i j) : OpS X (binaryOp .FloorDiv) (.int i) (.int j) (.sh (.int (i / j))) := ops_sc op_fdiv (.int (i / j)) (fun _ => rfl) fun H S x y Q _ r1 r2 q => ⟨i, j, r1, r2, hc, q⟩
theorem o_fdivW (hc : CDivW i j) : OpS X (binaryOp .FloorDiv) (.int i) (.int j) (.sh (.int (i / j))) := ops_sc op_fdivW (.int (i / j)) (fun _ => rfl) fun H S x y Q _ r1 r2 q => ⟨i, j, r1, r2, hc, q⟩
theorem o_pow (hc : CPow i j) : OpS X (binaryOp .Pow) (.int i) (.int j) (.sh (.int (i ^ j.toNat))) := ops_sc op_pow (.int (i ^ j.toNat)) (fun _ => rfl) fun H S x y Q _ r1 r2 q => ⟨i, j, r1, r2, hc, q⟩
theorem o_addS (hl : a.length + b.length ≤ sizeLine) : OpS X (binaryOp .Add) (.str a) (.str b) (.sh (.str (a ++ b))) := ops_sc op_add_str (.str (a ++ b)) (fun _ => rfl) fun H S x y Q _ r1 r2 q => ⟨a, b, r1, r2, hl, q⟩
theorem o_lt : OpS X (compareOp .Lt) (.int i) (.int j) (.sh (.bl (decide (i < j)))) := ops_sc op_lt (.bl _) (fun _ => rfl) fun H S x y Q _ r1 r2 q => ⟨i, j, r1, r2, q⟩
theorem o_le : OpS X (compareOp .LtE) (.int i) (.int j) (.sh (.bl (decide (i ≤ j)))) := ops_sc op_le (.bl _) (fun _ => rfl) fun H S x y Q _ r1 r2 q => ⟨i, j, r1, r2, q⟩
theorem o_gt : OpS X (compareOp .Gt) (.int i) (.int j) (.sh (.bl (decide (j < i)))) := ops_sc op_gt (.bl _) (fun _ => rfl) fun H S x y Q _ r1 r2 q => ⟨i, j, r1, r2, q⟩
theorem o_ge : OpS X (compareOp .GtE) (.int i) (.int j) (.sh (.bl (decide (j ≤ i)))) := ops_sc op_ge (.bl _) (fun _ => rfl) fun H S x y Q _ r1 r2 q => ⟨i, j, r1, r2, q⟩
theorem o_eqI : OpS X (compareOp .Eq) (.int i) (.int j) (.sh (.bl (decide (i = j)))) := ops_sc op_eq (.bl _) (fun _ => rfl) fun H S x y Q _ r1 r2 q => by
  obtain rfl : x = .int i := r1
  obtain rfl : y = .int j := r2
  exact ⟨rfl, by simpa [V.int.injEq] using q⟩
theorem o_neI : OpS X (compareOp .NotEq) (.int i) (.int j) (.sh (.bl (!decide (i = j)))) := ops_sc op_ne (.bl _) (fun _ => rfl) fun H S x y Q _ r1 r2 q => by
  obtain rfl : x = .int i := r1
  obtain rfl : y = .int j := r2
  exact ⟨rfl, by simpa [V.int.injEq] using q⟩
theorem o_eqS : OpS X (compareOp .Eq) (.str a) (.str b) (.sh (.bl (decide (a = b)))) := ops_sc op_eq (.bl _) (fun _ => rfl) fun H S x y Q _ r1 r2 q => by
  obtain rfl : x = .str a := r1
  obtain rfl : y = .str b := r2
  exact ⟨rfl, by simpa [V.str.injEq] using q⟩
theorem o_neS : OpS X (compareOp .NotEq) (.str a) (.str b) (.sh (.bl (!decide (a = b)))) := ops_sc op_ne (.bl _) (fun _ => rfl) fun H S x y Q _ r1 r2 q => by
  obtain rfl : x = .str a := r1
  obtain rfl : y = .str b := r2
  exact ⟨rfl, by simpa [V.str.injEq] using q⟩
def isNon : D → Bool
  | .non => true
  | _ => false
theorem rep_non {K : PySem.W.Frag} {S : Hp} {v : V} (hr : ∀ u, d ≠ .raw u) (r : Rep K S d v) : decide (v = .non) = isNon d := by
  cases d with
  | non => rw [show v = .non from r]; rfl
  | bl b => rw [show v = .bl b from r]; rfl
  | int b => rw [show v = .int b from r]; rfl
  | str b => rw [show v = .str b from r]; rfl
  | raw u => exact (hr u rfl).elim
  | tup ds => obtain ⟨p, vs, rfl, _⟩ := r; rfl
  | lst ds => obtain ⟨p, vs, rfl, _⟩ := r; rfl
  | fls ds => obtain ⟨p, vs, rfl, _⟩ := r; rfl
  | obj C ns ds => obtain ⟨p, dx, vs, rfl, _⟩ := r; rfl
  | dct ks ds => obtain ⟨p, vs, rfl, _⟩ := r; rfl
  | ext φ => obtain ⟨p, rfl, _⟩ := r; rfl
  | exc _ _ _ => obtain ⟨p, _, _, rfl, _⟩ := r; rfl
theorem o_isN (hr : ∀ u, d ≠ .raw u := by intro _ z; cases z) : OpS X (compareOp .Is) d .non (.sh (.bl (isNon d))) := ops_sc op_isN (.bl _) (fun _ => rfl) fun H S x y Q _ r1 r2 q => by
  refine ⟨r2, ?_⟩
  rw [rep_non hr r1]
  exact q
theorem o_notN (hr : ∀ u, d ≠ .raw u := by intro _ z; cases z) : OpS X (compareOp .IsNot) d .non (.sh (.bl (!isNon d))) := ops_sc op_notN (.bl _) (fun _ => rfl) fun H S x y Q _ r1 r2 q => by
  refine ⟨r2, ?_⟩
  rw [rep_non hr r1]
  exact q
theorem o_inSign {c : Nat} : OpS X (compareOp .In) (.str ⟨#[c]⟩) (.str b) (.sh (.bl (decide (c ∈ b.cps.toList)))) := ops_sc op_in_sign (.bl _) (fun _ => rfl) fun H S x y Q _ r1 r2 q => ⟨c, b, r1, r2, q⟩
/-! ### sequences -/
variable {ds es : List D}
theorem o_catT (hl : ds.length + es.length ≤ sizeLine) : OpS X (binaryOp .Add) (.tup ds) (.tup es) (.sh (.tup (ds ++ es))) := ⟨_, op_catA, fun Γ F σ H S x y Q R r1 r2 q => by
  obtain ⟨p, vs, rfl, h1, h2⟩ := id r1
  obtain ⟨p', us, rfl, h3, h4⟩ := id r2
  have l1 := h2.length
  have l2 := h4.length
  refine ⟨p, p', vs, us, rfl, rfl, same_sqt R.sh h1, same_sqt R.sh h3, by omega, fun e => ?_, fun _ e => ?_, fun _ _ l n => ?_⟩
  · subst e
    obtain rfl : ds = [] := List.eq_nil_of_length_eq_zero l1
    exact q _ H S R (.refl _) r2
  · subst e
    obtain rfl : es = [] := List.eq_nil_of_length_eq_zero l2
    rw [List.append_nil] at q
    exact q _ H S R (.refl _) r1
  · obtain ⟨R2, s2⟩ := R.laid (o := .tup (vs ++ us)) n
    exact q _ _ _ R2 s2 ⟨l, _, rfl, .of upd_same, Reps.mono s2 _ _ (h2.append h4)⟩⟩
theorem o_catL (hl : ds.length + es.length ≤ sizeLine) : OpS X (binaryOp .Add) (.lst ds) (.lst es) (.ow (.lst (ds ++ es))) := ⟨_, op_cat, fun Γ F σ H S x y Q R r1 r2 q => by
  obtain ⟨p, vs, rfl, h1, h2⟩ := r1
  obtain ⟨p', us, rfl, h3, h4⟩ := r2
  refine ⟨p, p', vs, us, rfl, rfl, R.sh _ _ h1, R.sh _ _ h3, by rw [← h2.length, ← h4.length]; exact hl, fun l n => q _ _ S (R.grow (same_upd n)) (.refl _) ⟨l, rfl, R.sNone n, R.h0None n, ⟨_, upd_same, h2.append h4⟩, R.ownNone n⟩⟩⟩
theorem o_repL {k : Int} (h1 : -(2 ^ 63) ≤ k) (h2 : k < 2 ^ 63) (hl : ds.length * k.toNat ≤ sizeLine) : OpS X (binaryOp .Mult) (.lst ds) (.int k) (.ow (.lst (List.replicate k.toNat ds).flatten)) := ⟨_, op_rep, fun Γ F σ H S x y Q R r1 r2 q => by
  obtain ⟨p, vs, rfl, h3, h4⟩ := r1
  refine ⟨p, k, vs, rfl, r2, R.sh _ _ h3, h1, h2, by rw [← h4.length]; exact hl, fun l n => q _ _ S (R.grow (same_upd n)) (.refl _) ⟨l, rfl, R.sNone n, R.h0None n, ⟨_, upd_same, h4.rep _⟩, R.ownNone n⟩⟩⟩
theorem o_repT {k : Int} (h0 : ds ≠ []) (h1 : 2 ≤ k) (h2 : k ≤ 1000) (hl : ds.length ≤ 1000) : OpS X (binaryOp .Mult) (.tup ds) (.int k) (.sh (.tup (List.replicate k.toNat ds).flatten)) := ⟨_, op_repT, fun Γ F σ H S x y Q R r1 r2 q => by
  obtain ⟨p, vs, rfl, h3, h4⟩ := r1
  have hl' := h4.length
  refine ⟨p, k, vs, rfl, r2, same_sqt R.sh h3, fun e => h0 (List.eq_nil_of_length_eq_zero (by rw [hl', e]; rfl)), h1, h2, by omega, fun l n => ?_⟩
  obtain ⟨R2, s2⟩ := R.laid (o := .tup (List.replicate k.toNat vs).flatten) n
  exact q _ _ _ R2 s2 ⟨l, _, rfl, .of upd_same, Reps.mono s2 _ _ (h4.rep _)⟩⟩
/-! ### items -/
theorem Reps.atI {K : PySem.W.Frag} {S : Hp} {vs : List V} (r : Reps K S ds vs) (h : L2.atI ds i = some d) : ∃ v, L2.atI vs i = some v ∧ Rep K S d v := by
  unfold L2.atI at h ⊢
  rw [← r.length]
  cases e : ixN ds.length i with
  | none => rw [e] at h; cases h
  | some k =>
    rw [e] at h
    exact r.get h
theorem i_list (h : atI ds i = some d) : IxS X (.lst ds) (.int i) (.sh d) := ⟨_, ix_list, fun Γ F σ H S x y Q R r1 r2 q => by
  obtain ⟨p, vs, rfl, h1, h2⟩ := r1
  obtain ⟨v, e1, e2⟩ := h2.atI h
  exact ⟨p, vs, i, v, rfl, r2, .of (R.sh _ _ h1), e1, q v H S R (.refl _) e2⟩⟩
theorem i_tup (h : atI ds i = some d) : IxS X (.tup ds) (.int i) (.sh d) := ⟨_, ix_tup, fun Γ F σ H S x y Q R r1 r2 q => by
  obtain ⟨p, vs, rfl, h1, h2⟩ := r1
  obtain ⟨v, e1, e2⟩ := h2.atI h
  exact ⟨p, vs, i, v, rfl, r2, same_sqt R.sh h1, e1, q v H S R (.refl _) e2⟩⟩
theorem i_str {c : Nat} (hl : a.length ≤ sizeLine) (h : atI a.cps.toList i = some c) : IxS X (.str a) (.int i) (.sh (.str ⟨#[c]⟩)) := ⟨_, ix_str, fun Γ F σ H S x y Q R r1 r2 q => ⟨a, i, c, r1, r2, hl, h, q _ H S R (.refl _) rfl⟩⟩
/-! ### slices -/
def cutL {α : Type} (xs : List α) (lo hi : Option Int) : List α := (xs.drop (HT.sIx xs.length 0 lo)).take (HT.sIx xs.length xs.length hi - HT.sIx xs.length 0 lo)
theorem Reps.cut {K : PySem.W.Frag} {S : Hp} {vs : List V} {lo hi : Option Int} (r : Reps K S ds vs) : Reps K S (cutL ds lo hi) (cutV vs lo hi) := by
  unfold cutL cutV
  rw [r.length]
  exact (r.drop _).take _
theorem l_list {lo hi : Option Int} : SlS X (.lst ds) lo hi (.ow (.lst (cutL ds lo hi))) := ⟨_, sl_list, fun Γ F σ H S x Q R r1 q => by
  obtain ⟨p, vs, rfl, h1, h2⟩ := r1
  exact ⟨p, vs, rfl, .of (R.sh _ _ h1), fun l n => q _ _ S (R.grow (same_upd n)) (.refl _) ⟨l, rfl, R.sNone n, R.h0None n, ⟨_, upd_same, h2.cut⟩, R.ownNone n⟩⟩⟩
theorem l_fls {lo hi : Option Int} : SlS X (.fls ds) lo hi (.ow (.lst (cutL ds lo hi))) := ⟨_, sl_list, fun Γ F σ H S x Q R r1 q => by
  obtain ⟨p, vs, rfl, h1, h2⟩ := r1
  exact ⟨p, vs, rfl, R.sh.seq h1, fun l n => q _ _ S (R.grow (same_upd n)) (.refl _) ⟨l, rfl, R.sNone n, R.h0None n, ⟨_, upd_same, h2.cut⟩, R.ownNone n⟩⟩⟩
theorem cutL_all {α : Type} {xs : List α} {lo hi : Option Int} (h : HT.sIx xs.length 0 lo = 0 ∧ HT.sIx xs.length xs.length hi = xs.length) : cutL xs lo hi = xs := by
  unfold cutL
  rw [h.1, h.2]
  simp
theorem l_tup {lo hi : Option Int} : SlS X (.tup ds) lo hi (.sh (.tup (cutL ds lo hi))) := ⟨_, sl_tupA, fun Γ F σ H S x Q R r1 q => by
  obtain ⟨p, vs, rfl, h1, h2⟩ := id r1
  have hl := h2.length
  refine ⟨p, vs, rfl, same_sqt R.sh h1, fun h => ?_, fun _ l n => ?_⟩
  · rw [← hl] at h
    rw [cutL_all h] at q
    exact q _ H S R (.refl _) r1
  · obtain ⟨R2, s2⟩ := R.laid (o := .tup (cutV vs lo hi)) n
    exact q _ _ _ R2 s2 ⟨l, _, rfl, .of upd_same, Reps.mono s2 _ _ h2.cut⟩⟩
theorem l_str {lo hi : Option Int} (hl : a.length ≤ sizeLine) : SlS X (.str a) lo hi (.sh (.str (cutS a lo hi))) := ⟨_, sl_str, fun Γ F σ H S x Q R r1 q => ⟨a, r1, hl, q _ H S R (.refl _) rfl⟩⟩
/-! ### calls -/
theorem calls_sc {f : Value} {rr : List V → Hp → VK → Prop} {xs : List D} (h : CallR X f rr) (v : V) (hv : ∀ S, Rep X.K S d v) (hd : ∀ H S vs (Q : VK), Same S H → Reps X.K S xs vs → Q v H → rr vs H Q) : CallS X f xs (.sh d) :=
  ⟨rr, h, fun Γ F σ H S vs Q R r q => hd H S vs Q R.sh r (q v H S R (.refl _) (hv S))⟩
theorem reps1 {K : PySem.W.Frag} {S : Hp} {vs : List V} (r : Reps K S [d] vs) : ∃ v, vs = [v] ∧ Rep K S d v := by
  obtain ⟨v, r, rfl, o1, o2⟩ := r
  exact ⟨v, by rw [show r = [] from o2], o1⟩
theorem reps2 {K : PySem.W.Frag} {S : Hp} {vs : List V} (r : Reps K S [d1, d2] vs) : ∃ v w, vs = [v, w] ∧ Rep K S d1 v ∧ Rep K S d2 w := by
  obtain ⟨v, r, rfl, o1, w, r2, rfl, o2, o3⟩ := r
  exact ⟨v, w, by rw [show r2 = [] from o3], o1, o2⟩
theorem c_lenL : CallS X (.builtin "len") [.lst ds] (.sh (.int ds.length)) := calls_sc call_len_seq (.int ds.length) (fun _ => rfl) fun H S vs Q s r q => by
  obtain ⟨v, rfl, p, us, rfl, h1, h2⟩ := reps1 r
  exact ⟨p, us, rfl, .inl (.of (s _ _ h1)), by rw [← h2.length]; exact q⟩
theorem c_lenF : CallS X (.builtin "len") [.fls ds] (.sh (.int ds.length)) := calls_sc call_len_seq (.int ds.length) (fun _ => rfl) fun H S vs Q s r q => by
  obtain ⟨v, rfl, p, us, rfl, h1, h2⟩ := reps1 r
  exact ⟨p, us, rfl, .inl (s.seq h1), by rw [← h2.length]; exact q⟩
theorem c_lenT : CallS X (.builtin "len") [.tup ds] (.sh (.int ds.length)) := calls_sc call_len_seq (.int ds.length) (fun _ => rfl) fun H S vs Q s r q => by
  obtain ⟨v, rfl, p, us, rfl, h1, h2⟩ := reps1 r
  exact ⟨p, us, rfl, .inr (same_sqt s h1), by rw [← h2.length]; exact q⟩
theorem c_lenS (hl : a.length ≤ sizeLine) : CallS X (.builtin "len") [.str a] (.sh (.int a.length)) := calls_sc call_len_str (.int a.length) (fun _ => rfl) fun H S vs Q s r q => by
  obtain ⟨v, rfl, rfl⟩ := reps1 r
  exact ⟨a, rfl, hl, q⟩
theorem c_tupL : CallS X (.type "tuple") [.lst ds] (.sh (.tup ds)) := ⟨_, call_tuple_of, fun Γ F σ H S vs Q R r q => by
  obtain ⟨v, rfl, p, us, rfl, h1, h2⟩ := reps1 r
  refine ⟨p, us, rfl, .inl ⟨.of (R.sh _ _ h1), fun l n => ?_⟩⟩
  obtain ⟨R2, s2⟩ := R.laid (o := .tup us) n
  exact q _ _ _ R2 s2 ⟨l, us, rfl, .of upd_same, Reps.mono s2 _ _ h2⟩⟩
theorem c_tupT : CallS X (.type "tuple") [.tup ds] (.sh (.tup ds)) := ⟨_, call_tuple_of, fun Γ F σ H S vs Q R r q => by
  obtain ⟨v, rfl, rp⟩ := reps1 r
  obtain ⟨p, us, rfl, h1, h2⟩ := id rp
  exact ⟨p, us, rfl, .inr ⟨same_sqt R.sh h1, q _ H S R (.refl _) rp⟩⟩⟩
theorem c_listL : CallS X (.type "list") [.lst ds] (.ow (.lst ds)) := ⟨_, call_list_of, fun Γ F σ H S vs Q R r q => by
  obtain ⟨v, rfl, p, us, rfl, h1, h2⟩ := reps1 r
  exact ⟨p, us, rfl, .inl (.of (R.sh _ _ h1)), fun l n => q _ _ S (R.grow (same_upd n)) (.refl _) ⟨l, rfl, R.sNone n, R.h0None n, ⟨_, upd_same, h2⟩, R.ownNone n⟩⟩⟩
theorem c_listT : CallS X (.type "list") [.tup ds] (.ow (.lst ds)) := ⟨_, call_list_of, fun Γ F σ H S vs Q R r q => by
  obtain ⟨v, rfl, p, us, rfl, h1, h2⟩ := reps1 r
  exact ⟨p, us, rfl, .inr (same_sqt R.sh h1), fun l n => q _ _ S (R.grow (same_upd n)) (.refl _) ⟨l, rfl, R.sNone n, R.h0None n, ⟨_, upd_same, h2⟩, R.ownNone n⟩⟩⟩
theorem c_sum {ns : List Int} (hc : X.calm = true) : CallS X (.builtin "sum") [.lst (ns.map .int)] (.sh (.int ns.sum)) := calls_sc (cr_sum hc) (.int ns.sum) (fun _ => rfl) fun H S vs Q s r q => by
  obtain ⟨v, rfl, p, us, rfl, h1, h2⟩ := reps1 r
  rw [h2.ints] at h1
  exact ⟨p, ns, rfl, .of (s _ _ h1), q⟩
theorem c_all {ns : List Bool} (hc : X.calm = true) : CallS X (.builtin "all") [.lst (ns.map .bl)] (.sh (.bl (ns.all id))) := calls_sc (cr_all hc) (.bl _) (fun _ => rfl) fun H S vs Q s r q => by
  obtain ⟨v, rfl, p, us, rfl, h1, h2⟩ := reps1 r
  rw [h2.bls] at h1
  exact ⟨p, ns, rfl, .of (s _ _ h1), q⟩
theorem c_abs : CallS X (.builtin "abs") [.int i] (.sh (.int (if i < 0 then -i else i))) := calls_sc call_abs (.int _) (fun _ => rfl) fun H S vs Q s r q => by
  obtain ⟨v, rfl, rfl⟩ := reps1 r
  exact ⟨i, rfl, q⟩
theorem c_max2 (hc : X.calm = true) : CallS X (.builtin "max") [.int i, .int j] (.sh (.int (if j > i then j else i))) := calls_sc (call_max2 hc) (.int _) (fun _ => rfl) fun H S vs Q s r q => by
  obtain ⟨v, w, rfl, rfl, rfl⟩ := reps2 r
  exact ⟨i, j, rfl, q⟩
theorem c_min2 (hc : X.calm = true) : CallS X (.builtin "min") [.int i, .int j] (.sh (.int (if j < i then j else i))) := calls_sc (call_min2 hc) (.int _) (fun _ => rfl) fun H S vs Q s r q => by
  obtain ⟨v, w, rfl, rfl, rfl⟩ := reps2 r
  exact ⟨i, j, rfl, q⟩
theorem c_intB {k : Bool} : CallS X (.type "int") [.bl k] (.sh (.int (if k then 1 else 0))) := calls_sc call_int1 (.int _) (fun _ => rfl) fun H S vs Q s r q => by
  obtain ⟨v, rfl, rfl⟩ := reps1 r
  exact .inr ⟨k, rfl, q⟩
theorem c_divmod (hc : CDivP i j) : CallS X (.builtin "divmod") [.int i, .int j] (.sh (.tup [.int (i / j), .int (i % j)])) := ⟨_, call_divmodW, fun Γ F σ H S vs Q R r q => by
  obtain ⟨v, w, rfl, rfl, rfl⟩ := reps2 r
  refine ⟨i, j, rfl, hc, fun p n => ?_⟩
  obtain ⟨R2, s2⟩ := R.laid (o := .tup [.int (i / j), .int (i % j)]) n
  exact q _ _ _ R2 s2 ⟨p, _, rfl, .of upd_same, .cons rfl (.cons rfl .nil)⟩⟩
/-! ### isinstance -/
def D.ty : D → String
  | .non => "NoneType"
  | .bl _ => "bool"
  | .int _ => "int"
  | .str _ => "str"
  | .tup _ => "tuple"
  | .lst _ => "list"
  | .fls _ => "list"
  | .dct _ _ => "dict"
  | _ => ""
def D.plain : D → Bool
  | .non | .bl _ | .int _ | .str _ | .tup _ | .lst _ | .dct _ _ => true
  | _ => false
theorem tyx_of {K : PySem.W.Frag} {S H : Hp} {v : V} (hp : d.plain = true) (s : Same S H) (r : Rep K S d v) : TyX K H v (.type d.ty) := by
  cases d with
  | non => rw [show v = .non from r]; exact .base .non
  | bl b => rw [show v = .bl b from r]; exact .base (.bl b)
  | int b => rw [show v = .int b from r]; exact .base (.int b)
  | str b => rw [show v = .str b from r]; exact .base (.str b)
  | tup ds =>
    obtain ⟨p, vs, rfl, h1, _⟩ := r
    rcases h1 with (h1 | ⟨o, h1⟩) | ⟨o, its, n, h1, h2, _⟩
    · exact .base (.tup (s _ _ h1))
    · exact .fTuple (s _ _ h1)
    · exact .kTuple h1 h2
  | lst ds => obtain ⟨p, vs, rfl, h1, _⟩ := r; exact .base (.lst (s _ _ h1))
  | dct ks ds => obtain ⟨p, vs, rfl, h1, _⟩ := r; exact .base (.dK (s _ _ h1))
  | _ => cases hp
theorem c_isi {T : String} {k : Bool} (hk : kitB d.ty T = some k) (hp : d.plain = true := by rfl) : CallS X (.builtin "isinstance") [d, .raw (.ty T)] (.sh (.bl k)) := calls_sc call_isi (.bl k) (fun _ => rfl) fun H S vs Q s r q => by
  obtain ⟨v, w, rfl, r1, rfl⟩ := reps2 r
  exact ⟨v, .ty T, .type d.ty, .type T, k, rfl, .ty T, tyx_of hp s r1, kit_ty hk, q⟩
/-! ### == of data -/
mutual
def D.py : D → PyData
  | .non => .none
  | .bl b => .bool b
  | .int i => .int i
  | .str x => .str x
  | .tup ds => .tuple (D.pys ds)
  | .lst ds => .list (D.pys ds)
  | .fls ds => .list (D.pys ds)
  | _ => .none
def D.pys : List D → List PyData
  | [] => []
  | d :: ds => D.py d :: D.pys ds
end
mutual
def D.flat : D → Bool
  | .non | .bl _ | .int _ | .str _ => true
  | .tup ds => D.flats ds
  | .lst ds => D.flats ds
  | .fls ds => D.flats ds
  | _ => false
def D.flats : List D → Bool
  | [] => true
  | d :: ds => D.flat d && D.flats ds
end
mutual
theorem dp_of {K : PySem.W.Frag} {S H : Hp} (s : Same S H) : ∀ (d : D) (v : V), d.flat = true → Rep K S d v → Dp K H v d.py
  | .non, _, _, r => by rw [show _ = V.non from r]; exact .non
  | .bl b, _, _, r => by rw [show _ = V.bl b from r]; exact .bl b
  | .int b, _, _, r => by rw [show _ = V.int b from r]; exact .int b
  | .str b, _, _, r => by rw [show _ = V.str b from r]; exact .str b
  | .tup ds, _, h, ⟨a, vs, e, h1, h2⟩ => by rw [e]; exact .tup (same_sqt s h1) (dps_of s ds vs h h2)
  | .lst ds, _, h, ⟨a, vs, e, h1, h2⟩ => by rw [e]; exact .lst (.of (s _ _ h1)) (dps_of s ds vs h h2)
  | .fls ds, _, h, ⟨a, vs, e, h1, h2⟩ => by rw [e]; exact .lst (s.seq h1) (dps_of s ds vs h h2)
  | .obj _ _ _, _, h, _ => by cases h
  | .dct _ _, _, h, _ => by cases h
  | .raw _, _, h, _ => by cases h
  | .ext _, _, h, _ => by cases h
  | .exc _ _ _, _, h, _ => by cases h
theorem dps_of {K : PySem.W.Frag} {S H : Hp} (s : Same S H) : ∀ (ds : List D) (vs : List V), D.flats ds = true → Reps K S ds vs → DpAll K H vs (D.pys ds)
  | [], _, _, r => by rw [show _ = [] from r]; exact .nil
  | d :: ds, _, h, ⟨v, r, e, h1, h2⟩ => by
    have h' : (D.flat d && D.flats ds) = true := h
    rw [Bool.and_eq_true] at h'
    rw [e]
    exact .cons (dp_of s d v h'.1 h1) (dps_of s ds r h'.2 h2)
end
/-- data that == compares: flat, its texts well made, at most 64 deep -/
def Cmp (d : D) : Prop := d.flat = true ∧ SeqAt.shaped d.py = true
theorem o_eqD (hu : X.A.units + 64 < cLine) (h1 : Cmp d1) (h2 : Cmp d2) : OpS X (compareOp .Eq) d1 d2 (.sh (.bl (PyData.eqv d1.py d2.py))) := ops_sc (op_eqD hu) (.bl _) (fun _ => rfl) fun H S x y Q s r1 r2 q =>
  ⟨d1.py, d2.py, dp_of s _ _ h1.1 r1, dp_of s _ _ h2.1 r2, h1.2, h2.2, q⟩
theorem o_neD (hu : X.A.units + 64 < cLine) (h1 : Cmp d1) (h2 : Cmp d2) : OpS X (compareOp .NotEq) d1 d2 (.sh (.bl (!PyData.eqv d1.py d2.py))) := ops_sc (op_neD hu) (.bl _) (fun _ => rfl) fun H S x y Q s r1 r2 q =>
  ⟨d1.py, d2.py, dp_of s _ _ h1.1 r1, dp_of s _ _ h2.1 r2, h1.2, h2.2, q⟩
end
end PL

set_option Elab.async false
set_option linter.all false
set_option maxRecDepth 100000
set_option maxHeartbeats 1000000
namespace PL
open PySem PySem.Spec PyProof.Rows L2
/-- a def of the top as it stands, under its name -/
structure Df (K : PySem.W.Frag) (mg : Str → Option Value) (x : Str) (st : Stmt) (dvs : List V) : Prop where
  ex : ∃ f fd, FunD K x x (defArgs st) (defBody st) (defScope st) dvs [] f fd ∧ mg x = some (.ref f)
/-- a def that keeps a promise over data, under its name -/
structure C0 (Pg : Program) (w : World) (K : PySem.W.Frag) (mg : Str → Option Value) (base : Heap) (x : Str) (j : Nat) (ps : List Str) (P : List D → Rs → Prop) : Prop where
  ex : ∃ f fd, mg x = some (.ref f) ∧ PySem.W.keepIn K (.ref f) = true ∧ Binds K fd ps [] ∧ FnOk Pg w K mg base (L2.CX Pg w) j f fd ps (sp0 K P)
structure C1 (Pg : Program) (w : World) (K : PySem.W.Frag) (mg : Str → Option Value) (base : Heap) (x : Str) (j : Nat) (ps : List Str) (P : Ob → List D → Rs → Ob → Prop) : Prop where
  ex : ∃ f fd, mg x = some (.ref f) ∧ PySem.W.keepIn K (.ref f) = true ∧ Binds K fd ps [] ∧ FnOk Pg w K mg base (L2.CX Pg w) j f fd ps (sp1 K P)
structure C2 (Pg : Program) (w : World) (K : PySem.W.Frag) (mg : Str → Option Value) (base : Heap) (x : Str) (j : Nat) (ps : List Str) (P : Ob → Ob → List D → Rs → Ob → Ob → Prop) : Prop where
  ex : ∃ f fd, mg x = some (.ref f) ∧ PySem.W.keepIn K (.ref f) = true ∧ Binds K fd ps [] ∧ FnOk Pg w K mg base (L2.CX Pg w) j f fd ps (sp2 K P)
section
variable {Pg : Program} {w : World} {K : PySem.W.Frag} {mg : Str → Option Value} {base : Heap} {x : Str} {st : Stmt} {N ps : List Str} {k : Nat}
def BindsN (x : Str) (st : Stmt) (ps : List Str) : Prop := ∀ (kV doc pm : Value) (an : Option Addr) (cdv ct : Value) (us : List Value), us.length = ps.length → bindArgs (PySem.W.fnOf x x (defArgs st) (defBody st) (defScope st) .none kV doc pm an cdv ct) ⟨us, []⟩ = pure (ps.zip us)
theorem c0_mk {P : List D → Rs → Prop} (Dd : Df K mg x st []) (Sc : FnScope N ps (defScope st)) (bd : BindsN x st ps) (hn : ps.length ≤ N.length) (hl : ∀ ds r, P ds r → ds.length = ps.length ∧ ∀ j, r ≠ .br j)
    (hb : ∀ f cd A outer s H E, Gd k (cx Pg w K mg base N x (defScope st) f cd A outer s H E) → ∀ ds r, P ds r → ∃ Γ', Ends1 (cx Pg w K mg base N x (defScope st) f cd A outer s H E) (ent N ds) (defBody st) r Γ') : C0 Pg w K mg base x (k + 1) ps P := by
  obtain ⟨f, fd, FD, gm⟩ := Dd.ex
  exact ⟨f, fd, gm, FD.kp, FD.bindsN bd, fn0 FD Sc (fun ds r p => (hl ds r p).1) hn (fun ds r p => (hl ds r p).2) (hb f)⟩
theorem c1_mk {P : Ob → List D → Rs → Ob → Prop} (Dd : Df K mg x st []) (Sc : FnScope N ps (defScope st)) (bd : BindsN x st ps) (hn : ps.length ≤ N.length) (hl : ∀ o ds r o', P o ds r o' → ds.length + 1 = ps.length ∧ ∀ j, r ≠ .br j)
    (hb : ∀ f cd A outer s H E, Gd k (cx Pg w K mg base N x (defScope st) f cd A outer s H E) → ∀ o ds r o', P o ds r o' → ∀ p, ∃ Γ', Ends1 (cx Pg w K mg base N x (defScope st) f cd A outer s H E) (.pr p o :: ent N.tail ds) (defBody st) r Γ' ∧ Γ'[0]? = some (.pr p o')) : C1 Pg w K mg base x (k + 1) ps P := by
  obtain ⟨f, fd, FD, gm⟩ := Dd.ex
  exact ⟨f, fd, gm, FD.kp, FD.bindsN bd, fn1 FD Sc (fun o ds r o' p => (hl o ds r o' p).1) hn (fun o ds r o' p => (hl o ds r o' p).2) (hb f)⟩
theorem c2_mk {P : Ob → Ob → List D → Rs → Ob → Ob → Prop} (Dd : Df K mg x st []) (Sc : FnScope N ps (defScope st)) (bd : BindsN x st ps) (hn : ps.length ≤ N.length) (hl : ∀ o u ds r o' u', P o u ds r o' u' → ds.length + 2 = ps.length ∧ ∀ j, r ≠ .br j)
    (hb : ∀ f cd A outer s H E, Gd k (cx Pg w K mg base N x (defScope st) f cd A outer s H E) → ∀ o u ds r o' u', P o u ds r o' u' → ∀ p q, ∃ Γ', Ends1 (cx Pg w K mg base N x (defScope st) f cd A outer s H E) (.pr p o :: .pr q u :: ent N.tail.tail ds) (defBody st) r Γ' ∧ Γ'[0]? = some (.pr p o') ∧ Γ'[1]? = some (.pr q u')) : C2 Pg w K mg base x (k + 1) ps P := by
  obtain ⟨f, fd, FD, gm⟩ := Dd.ex
  exact ⟨f, fd, gm, FD.kp, FD.bindsN bd, fn2 FD Sc (fun o u ds r o' u' p => (hl o u ds r o' u' p).1) hn (fun o u ds r o' u' p => (hl o u ds r o' u' p).2) (hb f)⟩
end
section
variable {X : Cx} {Γ Γ1 : Gm} {e : Ex} {es : List Ex} {p pos : Pos} {r : Rs} {ds : List D} {j k : Nat} {ps : List Str} {x : Str}
theorem e_c0 {P : List D → Rs → Prop} (G : C0 X.prog X.w X.K X.mg X.base x j ps P) (g : Gd k X) (ha : AX X Γ (e :: es) ds Γ1) (hp : P ds r) (hk : j ≤ k := by decide) (hg : Gl X x := by rfl)
    (hdb : (x == ("__debug__" : Str)) = false := by decide) (he : starEach (e :: es) X.env = (false, eval e X.env) :: starEach es X.env := by rfl) (hpl : (backTo pos (starEach es X.env)).any (·.1) = false := by rfl) : EX X Γ (.Call (.Name x p) (e :: es) [] pos) r Γ1 := by
  obtain ⟨f, fd, gm, kp, b, F⟩ := G.ex
  exact e_call0 (dds := []) F ⟨gm, kp⟩ g (by rw [List.append_nil]; exact hp) ha b .nil (fun _ => rfl) hk hg hdb he hpl
theorem e_c1 {P : Ob → List D → Rs → Ob → Prop} {y : Str} {py : Pos} {s s0 : Sl} {o o0 o' : Ob} (i : Nat) (G : C1 X.prog X.w X.K X.mg X.base x j ps P) (g : Gd k X) (h0 : Has Γ i s0 o0) (ha : AX X Γ es ds Γ1) (h1 : Has Γ1 i s o) (hp : P o ds r o')
    (hk : j ≤ k := by decide) (hg : Gl X x := by rfl) (hN : X.N[i]? = some y := by rfl) (hv : Vis X.env.scope y := by first | exact Or.inl rfl | exact Or.inr (Or.inl rfl) | exact Or.inr (Or.inr rfl)) (hyd : (y == ("__debug__" : Str)) = false := by decide) (hcd : (y == ("__classdict__" : Str)) = false := by decide)
    (hdb : (x == ("__debug__" : Str)) = false := by decide) (he : starEach (.Name y py :: es) X.env = (false, eval (.Name y py) X.env) :: starEach es X.env := by rfl) (hpl : (backTo pos (starEach es X.env)).any (·.1) = false := by rfl) : EX X Γ (.Call (.Name x p) (.Name y py :: es) [] pos) r (Γ1.set i (s.re o')) := by
  obtain ⟨f, fd, gm, kp, b, F⟩ := G.ex
  exact e_call1 (dds := []) F ⟨gm, kp⟩ g h0 ha h1 (by rw [List.append_nil]; exact hp) b .nil (fun _ => rfl) hk hg hN hv hyd hcd hdb he hpl
end
end PL

set_option Elab.async false
set_option linter.all false
set_option maxRecDepth 100000
set_option maxHeartbeats 4000000
namespace PL
open PySem PySem.Spec PyProof.Rows L2 HT
/-- t[lo:hi:-1] -/
def pickB {α : Type} (xs : List α) (lo hi : Option Int) : List α :=
  (List.range (Builtin.Slice.slicePlaces (Builtin.Slice.sliceAdjust lo hi (-1) (xs.length : Int)).1 (Builtin.Slice.sliceAdjust lo hi (-1) (xs.length : Int)).2 (-1))).filterMap fun (k : Nat) => xs[((Builtin.Slice.sliceAdjust lo hi (-1) (xs.length : Int)).1 + (k : Int) * (-1)).toNat]?
section
variable {prog : Program} {w : World} {A : Around} {E : Value → Shared → Prop} {s : Shared}
theorem sliceApplied_back {sl : Addr} {vl vu vs : Value} {lo hi : Option Int} {n : Nat} {Q : Int × Int × Nat → Shared → Prop} (hs : s.heap.IsSliceOf sl vl vu vs) (pl : IsPart vl lo) (pu : IsPart vu hi) (ps : IsPart vs (some (-1)))
    (h : Q ((Builtin.Slice.sliceAdjust lo hi (-1) (n : Int)).1, -1, Builtin.Slice.slicePlaces (Builtin.Slice.sliceAdjust lo hi (-1) (n : Int)).1 (Builtin.Slice.sliceAdjust lo hi (-1) (n : Int)).2 (-1)) s) : wpAny (model prog w) A (Builtin.Slice.sliceApplied (.ref sl) (pure (n : Int))) Q E s := by
  obtain ⟨os, hos, hcs, hds⟩ := id hs
  unfold Builtin.Slice.sliceApplied Builtin.Slice.sliceFields
  refine wpAny_bind (wpAny_bind (wpAny_field hos hds (x := vl) rfl (wpAny_bind (wpAny_field hos hds (x := vu) rfl (wpAny_bind (wpAny_field hos hds (x := vs) rfl (wpAny_pure ?_)))))))
  refine wpAny_bind (slicePart_ ps ?_)
  show wpAny _ _ (if ((-1 : Int) == 0) = true then _ else _) _ _ s
  rw [if_neg (by decide)]
  refine wpAny_bind (slicePart_ pl (wpAny_bind (slicePart_ pu (wpAny_bind (wpAny_pure ?_)))))
  exact wpAny_pure h
theorem getItem_tuple_back {t sl : Addr} {items : Array Value} {vl vu vs : Value} {lo hi : Option Int} {Q : Value → Shared → Prop} (ht : IsTup s.heap t items) (hs : s.heap.IsSliceOf sl vl vu vs) (pl : IsPart vl lo) (pu : IsPart vu hi) (ps : IsPart vs (some (-1)))
    (hz : (pickB items.toList lo hi).length ≤ sizeLine) (h : Q (.ref s.heap.objs.size) { s with heap := s.heap.push { cls := .type "tuple", data := .seq (pickB items.toList lo hi).toArray } }) : wpAny (model prog w) A (getItem (.ref t) (.ref sl)) Q E s := by
  have htake : sizeOk (.seq (pickB items.toList lo hi).toArray) := by
    show (pickB items.toList lo hi).toArray.size ≤ sizeLine
    rw [List.size_toArray]
    exact hz
  obtain ⟨os, hos, hcs, hds⟩ := id hs
  have hTs : s.TypeIs (.ref sl) "slice" := ⟨os, hos, hcs⟩
  have epk : ((List.range (Builtin.Slice.slicePlaces (Builtin.Slice.sliceAdjust lo hi (-1) (items.size : Int)).1 (Builtin.Slice.sliceAdjust lo hi (-1) (items.size : Int)).2 (-1))).filterMap fun (k : Nat) => items[((Builtin.Slice.sliceAdjust lo hi (-1) (items.size : Int)).1 + (k : Int) * (-1)).toNat]?) = pickB items.toList lo hi := by
    unfold pickB
    rw [Array.length_toList]
    congr 1
    funext k
    rw [Array.getElem?_toList]
  unfold getItem
  try with_reducible refine wpAny_holding ?_
  first | refine wpAny_bind (wpAny_pure ?_) | skip
  refine wpAny_bind (wpAny_sequenceKey ht.typeIs (by decide) ?_)
  refine wpAny_bind (wpAny_callSpecial?_slot (name := Str.ofString "__getitem__") ht.typeIs PyProof.Rows.slot_tuple_getitem
    (wpAny_call_entry PyProof.Rows.slot_tuple_getitem ht.typeIs entry_tuple_getitem ?_ (args_tuple_getitem _ _)))
  show wpAny _ _ (Builtin.Tuple.tupleItemsOf (.ref t) >>= _) _ _ s
  refine wpAny_bind (tupleItemsOf_ ht ?_)
  refine wpAny_bind (wpAny_typeOf hTs ?_)
  rw [if_pos (by decide)]
  refine wpAny_bind (sliceApplied_back hs pl pu ps ?_)
  generalize Builtin.Slice.sliceAdjust lo hi (-1) (items.size : Int) = pq at epk ⊢
  generalize hcnt : Builtin.Slice.slicePlaces pq.1 pq.2 (-1) = cnt at epk ⊢
  show wpAny _ _ (if (pq.1 == 0 && (-1 : Int) == 1 && cnt == items.size) = true then _ else _) _ _ s
  rw [if_neg (by simp), epk]
  first
    | exact wpAny_bind (m := Builtin.Tuple.tupleExact _) (wpAny_newObj_type (wpAny_pure ⟨_, rfl, wpAny_pure h⟩) htake)
    | exact wpAny_bind (m := Builtin.Tuple.tupleExact _) (wpAny_newObj_type (wpAny_bind (wpAny_pure (wpAny_pure ⟨_, rfl, wpAny_pure h⟩))) htake)
    | exact wpAny_bind (wpAny_bind (m := Builtin.Tuple.tupleExact _) (wpAny_newObj_type (wpAny_pure (wpAny_pure ⟨_, rfl, wpAny_pure h⟩)) htake))
    | exact wpAny_bind (wpAny_bind (m := Builtin.Tuple.tupleExact _) (wpAny_newObj_type (wpAny_pure ⟨_, rfl, wpAny_pure h⟩) htake))
end
theorem pickB_len {α : Type} (xs : List α) (lo hi : Option Int) : (pickB xs lo hi).length ≤ xs.length := by
  unfold pickB
  refine Nat.le_trans (List.length_filterMap_le _ _) ?_
  rw [List.length_range]
  unfold Builtin.Slice.slicePlaces Builtin.Slice.sliceAdjust
  have h1 : (-1 : Int) < 0 := by decide
  have h2 : ¬ ((-1 : Int) > 0) := by decide
  simp only [h1, h2, if_true, if_false]
  have e : (- -1 : Int) = 1 := by decide
  rw [e]
  simp only [Int.ediv_one]
  cases lo <;> cases hi <;> simp only [] <;> (repeat split) <;> omega
theorem fm_some {α : Type} {xs : List α} {g : Nat → Nat} {k : Nat} {l : List Nat} {x : α} (h : xs[g k]? = some x) : (k :: l).filterMap (fun k => xs[g k]?) = x :: l.filterMap (fun k => xs[g k]?) := List.filterMap_cons_some (f := fun k => xs[g k]?) h
theorem fm_none {α : Type} {xs : List α} {g : Nat → Nat} {k : Nat} {l : List Nat} (h : xs[g k]? = none) : (k :: l).filterMap (fun k => xs[g k]?) = l.filterMap (fun k => xs[g k]?) := List.filterMap_cons_none (f := fun k => xs[g k]?) h
theorem filterMap_rep {K : PySem.W.Frag} {S : Hp} {ds : List D} {vs : List V} (r : Reps K S ds vs) (g : Nat → Nat) : ∀ l : List Nat, Reps K S (l.filterMap fun k => ds[g k]?) (l.filterMap fun k => vs[g k]?)
  | [] => rfl
  | k :: l => by
    cases e1 : ds[g k]? with
    | none =>
      have e2 : vs[g k]? = none := by
        rw [List.getElem?_eq_none_iff] at e1 ⊢
        rw [← r.length]; exact e1
      rw [fm_none e1, fm_none e2]
      exact filterMap_rep r g l
    | some d =>
      obtain ⟨v, e2, q2⟩ := r.get e1
      rw [fm_some e1, fm_some e2]
      exact .cons q2 (filterMap_rep r g l)
theorem Reps.pickB {K : PySem.W.Frag} {S : Hp} {ds : List D} {vs : List V} {lo hi : Option Int} (r : Reps K S ds vs) : Reps K S (PL.pickB ds lo hi) (PL.pickB vs lo hi) := by
  unfold PL.pickB
  rw [r.length]
  exact filterMap_rep r _ _
theorem vals_filterMap {vs : List V} {us : List Value} (r : Vals vs us) (g : Nat → Nat) : ∀ l : List Nat, Vals (l.filterMap fun k => vs[g k]?) (l.filterMap fun k => us[g k]?)
  | [] => .nil
  | k :: l => by
    cases e1 : vs[g k]? with
    | none => rw [fm_none e1, fm_none (r.none_of e1)]; exact vals_filterMap r g l
    | some v =>
      obtain ⟨u, e2, ru⟩ := r.get e1
      rw [fm_some e1, fm_some e2]
      exact .cons ru (vals_filterMap r g l)
theorem vals_pickB {vs : List V} {us : List Value} {lo hi : Option Int} (r : Vals vs us) : Vals (pickB vs lo hi) (pickB us lo hi) := by
  unfold pickB
  rw [r.length]
  exact vals_filterMap r _ _
section
variable {X : Cx} {Γ Γ1 Γ2 Γ3 : Gm} {a : Ex} {lo hi : Option Ex} {i j : Option Int} {ds : List D} {k : Nat} {p1 p2 p3 pos : Pos}
/-- t[lo:hi:-1] of a tuple -/
theorem pe_backT {te : TE} {tl th : TO} (he : PE X a te) (hl : PO X lo tl) (hh : PO X hi th) : PE X (.Subscript a (.Slice lo hi (some (.UnaryOp .USub (.Constant (.int 1) k p1) p2)) p3) pos)
    (fun σ H Q => te σ H fun x H1 => tl σ H1 fun l H2 => th σ H2 fun u H3 => ∃ t xs, x = .ref t ∧ SqT X.K H3 t xs ∧ ∀ p, H3 p = none → Q (.ref p) (upd H3 p (.tup (pickB xs l u)))) := by
  refine ⟨fun pins s σ H Q I h => ?_⟩
  refine Subscript_ (thn (he.run pins s σ H _ I h) fun v s1 ⟨x, H1, I1, r1, q1⟩ => ?_)
  have hst : PO X (some (.UnaryOp .USub (.Constant (.int 1) k p1) p2)) (tPart (tUn (rU fun i => .int (-i)) (tC (.int 1)))) := po_some (pe_un un_neg pe_int)
  refine wpAny_Slice (thn (hl.run pins s1 σ H1 _ I1 q1) fun vl s2 ⟨l, H2, I2, pl, q2⟩ => thn (hh.run pins s2 σ H2 _ I2 q2) fun vu s3 ⟨u, H3, I3, pu, q3⟩ => ?_)
  refine thn (hst.run pins s3 σ H3 (fun o H4 => o = some (-1) ∧ H4 = H3) I3 ⟨1, rfl, -1, rfl, rfl, rfl⟩) fun vs s4 ⟨o, H4, I4, ps, eo, e4⟩ => ?_
  subst eo e4
  obtain ⟨t, xs, rfl, hx, q⟩ := q3
  cases r1
  have I5 : Inv X pins σ H4 { s4 with heap := s4.heap.push { cls := .type "slice", data := .fields #[vl, vu, vs] } } := I4.kept (t' := s4.toks) fun b ob q => Heap.get?_push_of_some _ q
  obtain ⟨its, r, ht, hz⟩ := I5.tuple hx
  have hlen := r.length
  show wpAny (model X.prog X.w) X.A (subscriptTail a (.Slice lo hi (some (.UnaryOp .USub (.Constant (.int 1) k p1) p2)) p3) (.ref t) (.ref s4.heap.objs.size)) (EP X pins σ Q) X.xe { s4 with heap := s4.heap.push { cls := .type "slice", data := .fields #[vl, vu, vs] } }
  refine tail_any (ops := [.ref t, .ref s4.heap.objs.size]) ht.typeIs (PyProof.Rows.slot_tuple_getitem.lookup) ?_ (by with_unfolding_all rfl)
  have hz2 : (pickB its.toArray.toList l u).length ≤ sizeLine := by
    refine Nat.le_trans (pickB_len _ _ _) ?_
    show its.length ≤ sizeLine
    omega
  refine getItem_tuple_back ht (Heap.IsSliceOf.new _ vl vu vs) pl pu ps hz2 ?_
  refine ⟨.ref _, _, I5.laid (t' := s4.toks) (o := .tup (pickB xs l u)) (fun b ob q => Heap.get?_push_of_some _ q) (Nat.le_refl _) ?_, rfl, q _ (I5.hok.fresh (Nat.le_refl _))⟩
  exact ⟨Nat.le_trans (pickB_len _ _ _) hz, _, vals_pickB r, IsTup.new _ _⟩
theorem e_backT (h : EX X Γ a (.sh (.tup ds)) Γ1) (hl : PX X Γ1 lo i Γ2) (hh : PX X Γ2 hi j Γ3) : EX X Γ (.Subscript a (.Slice lo hi (some (.UnaryOp .USub (.Constant (.int 1) k p1) p2)) p3) pos) (.sh (.tup (pickB ds i j))) Γ3 := fun F σ H S Q R q =>
  pe_we (pe_backT we_pe wp_po wp_po) (h F σ H S _ R fun x H1 S1 R1 s1 r1 => hl F σ H1 S1 _ R1 fun H2 S2 R2 s2 => hh F σ H2 S2 _ R2 fun H3 S3 R3 s3 => by
    obtain ⟨t, vs, rfl, h1, h2⟩ := r1
    refine ⟨t, vs, rfl, same_sqt ((s2.trans s3).trans R3.sh) h1, fun p n => ?_⟩
    obtain ⟨R4, s4⟩ := R3.laid (o := .tup (pickB vs i j)) n
    exact q _ _ _ R4 (((s1.trans s2).trans s3).trans s4) ⟨p, _, rfl, .of upd_same, Reps.mono ((s2.trans s3).trans s4) _ _ h2.pickB⟩)
theorem e_revL (h : EX X Γ a (.sh (.lst ds)) Γ1) : EX X Γ (.Subscript a (.Slice none none (some (.UnaryOp .USub (.Constant (.int 1) k p1) p2)) p3) pos) (.ow (.lst ds.reverse)) Γ1 := fun F σ H S Q R q =>
  pe_we (pe_revL we_pe) (h F σ H S _ R fun x H1 S1 R1 s1 r1 => by
    obtain ⟨t, vs, rfl, h1, h2⟩ := r1
    exact ⟨t, vs, rfl, .of (R1.sh _ _ h1), fun p n => q _ _ S1 (R1.grow (same_upd n)) s1 ⟨p, rfl, R1.sNone n, R1.h0None n, ⟨_, upd_same, h2.reverse⟩, R1.ownNone n⟩⟩)
end
/-! ### the three forms -/
theorem pick_down {α : Type} (xs : List α) : ∀ (n s : Nat), s < xs.length → n ≤ s + 1 → ((List.range n).filterMap fun k => xs[s - k]?) = ((xs.take (s + 1)).drop (s + 1 - n)).reverse
  | 0, s, _, _ => by simp
  | n + 1, s, hs, hn => by
    rw [List.range_succ, List.filterMap_append, pick_down xs n s hs (by omega)]
    have hk : s - n < xs.length := by omega
    have e : [n].filterMap (fun k => xs[s - k]?) = [xs[s - n]] := by
      exact fm_some (g := fun k => s - k) (l := []) (List.getElem?_eq_getElem hk)
    have hd : s + 1 - (n + 1) = s - n := by omega
    have hd2 : s + 1 - n = (s - n) + 1 := by omega
    rw [e, hd, hd2]
    have hl : s - n < (xs.take (s + 1)).length := by rw [List.length_take]; omega
    rw [← List.getElem_cons_drop hl, List.reverse_cons]
    congr 2
    rw [List.getElem_take]
theorem pickB_eq {α : Type} (xs : List α) (lo hi : Option Int) (s n : Nat) (h1 : (Builtin.Slice.sliceAdjust lo hi (-1) (xs.length : Int)).1 = (s : Int)) (h2 : (Builtin.Slice.sliceAdjust lo hi (-1) (xs.length : Int)).2 = (s : Int) - n) (hs : s < xs.length) (hn : n ≤ s + 1) : pickB xs lo hi = ((xs.take (s + 1)).drop (s + 1 - n)).reverse := by
  unfold pickB
  rw [h1, h2]
  have e : Builtin.Slice.slicePlaces (s : Int) ((s : Int) - n) (-1) = n := by
    unfold Builtin.Slice.slicePlaces
    have h2 : ¬ ((-1 : Int) > 0) := by decide
    have e : (- -1 : Int) = 1 := by decide
    simp only [h2, if_false, e, Int.ediv_one]
    split <;> omega
  rw [e, ← pick_down xs n s hs hn]
  have hf : (fun (k : Nat) => xs[((s : Int) + (k : Int) * (-1)).toNat]?) = fun k => xs[s - k]? := by
    funext k
    rw [show ((s : Int) + (k : Int) * (-1)).toNat = s - k by omega]
  rw [hf]
theorem pickB_all {α : Type} (xs : List α) : pickB xs none none = xs.reverse := by
  cases xs with
  | nil => rfl
  | cons x r =>
    rw [pickB_eq (x :: r) none none r.length (r.length + 1) (by unfold Builtin.Slice.sliceAdjust; simp) (by unfold Builtin.Slice.sliceAdjust; simp; omega) (by simp) (by omega)]
    simp
theorem pickB_from {α : Type} (xs : List α) (i : Nat) (h : i < xs.length) : pickB xs (some (i : Int)) none = (xs.take (i + 1)).reverse := by
  rw [pickB_eq xs _ none i (i + 1) (by unfold Builtin.Slice.sliceAdjust; simp; omega) (by unfold Builtin.Slice.sliceAdjust; simp; omega) h (by omega)]
  simp
theorem pickB_to {α : Type} (xs : List α) (i : Nat) (h : i < xs.length) : pickB xs none (some (i : Int)) = (xs.drop (i + 1)).reverse := by
  rw [pickB_eq xs none _ (xs.length - 1) (xs.length - 1 - i) (by unfold Builtin.Slice.sliceAdjust; simp; omega) (by unfold Builtin.Slice.sliceAdjust; simp; omega) (by omega) (by omega)]
  rw [show xs.length - 1 + 1 = xs.length by omega, List.take_length, show xs.length - (xs.length - 1 - i) = i + 1 by omega]
end PL

set_option Elab.async false
set_option linter.all false
set_option maxRecDepth 100000
set_option maxHeartbeats 4000000
/-! enumerate of a tuple -/
namespace PL
open PySem PySem.Spec PyProof.Rows L2
open PySem.AutoSeq1 (wpAny_loadPart')
section
variable {prog : Program} {w : World} {A : Around} {E : Value → Shared → Prop} {s : Shared}
theorem nextOf_tuple_item {it t : Addr} {i : Nat} {items : Array Value} {x : Value} {Q : Value → Shared → Prop} (hit : s.heap.IsTupleIter it t i)
    (ht : s.heap.IsTuple t items) (hx : items[i]? = some x)
    (hQ : ∀ h', h'.IsTupleIter it t (i + 1) → Heap.SameBut it s.heap h' → Q x { s with heap := h' }) :
    wpAny (model prog w) A (Builtin.SmallTypes.nextOf (.ref it)) Q E s := by
  obtain ⟨o, ho, hc, hd⟩ := id hit
  obtain ⟨ol, hol, _, nl, hdl⟩ := ht
  unfold Builtin.SmallTypes.nextOf
  refine wpAny_bind (wpAny_callSpecial?_slot (name := Str.ofString "__next__") hit.typeIs F.slot_tuple_iterator_next
    (wpAny_call_entry F.slot_tuple_iterator_next hit.typeIs F.entry_tuple_iterator_next ?_ (F.args_tuple_iterator_next_1 _)))
  show wpAny _ _ (field (.ref it) 0 >>= _) _ _ s
  refine wpAny_bind (wpAny_field ho hd (x := .ref t) rfl ?_)
  show wpAny _ _ (if (Value.ref t == Value.none) = true then _ else _) _ _ s
  rw [if_neg (show ¬ ((Value.ref t == Value.none) = true) from Bool.false_ne_true)]
  show wpAny _ _ (field (.ref it) 1 >>= _) _ _ s
  refine wpAny_bind (wpAny_field ho hd (x := .int i 0) rfl ?_)
  show wpAny _ _ (seqItems? (.ref t) >>= _) _ _ s
  refine wpAny_bind (wpAny_seqItems hol hdl ?_)
  simp only [Int.toNat_natCast, hx]
  refine wpAny_bind (wpAny_setField ho hd (by simp) (wpAny_pure ⟨x, rfl, wpAny_pure (hQ _ ?_ (Heap.SameBut.update ..))⟩))
  exact ⟨_, Heap.get?_update_self _ ho (Obj.isFreed_of_fields (Obj.data_mapFields hd _)), (Obj.cls_mapFields ..).trans hc, by
    rw [Obj.data_mapFields hd]; simp [rawInt]⟩
theorem nextOf_tuple_end {it t : Addr} {i : Nat} {items : Array Value} {Q : Value → Shared → Prop} (hh : A.handled = none)
    (hit : s.heap.IsTupleIter it t i) (ht : s.heap.IsTuple t items) (hx : items[i]? = none)
    (hE : ∀ h' e, Heap.ExtBut it s.heap h' → (∃ o, h'.get? e = some o ∧ o.cls = .type "StopIteration") → E (.ref e) { s with heap := h' }) : wpAny (model prog w) A (Builtin.SmallTypes.nextOf (.ref it)) Q E s := by
  obtain ⟨o, ho, hc, hd⟩ := id hit
  obtain ⟨ol, hol, _, nl, hdl⟩ := ht
  unfold Builtin.SmallTypes.nextOf
  refine wpAny_bind (wpAny_callSpecial?_slot (name := Str.ofString "__next__") hit.typeIs F.slot_tuple_iterator_next
    (wpAny_call_entry F.slot_tuple_iterator_next hit.typeIs F.entry_tuple_iterator_next ?_ (F.args_tuple_iterator_next_1 _)))
  show wpAny _ _ (field (.ref it) 0 >>= _) _ _ s
  refine wpAny_bind (wpAny_field ho hd (x := .ref t) rfl ?_)
  show wpAny _ _ (if (Value.ref t == Value.none) = true then _ else _) _ _ s
  rw [if_neg (show ¬ ((Value.ref t == Value.none) = true) from Bool.false_ne_true)]
  show wpAny _ _ (field (.ref it) 1 >>= _) _ _ s
  refine wpAny_bind (wpAny_field ho hd (x := .int i 0) rfl ?_)
  show wpAny _ _ (seqItems? (.ref t) >>= _) _ _ s
  refine wpAny_bind (wpAny_seqItems hol hdl ?_)
  simp only [Int.toNat_natCast, hx]
  refine wpAny_bind (wpAny_rule (wpAny_bind (wpAny_setField ho hd (by simp) ?_)))
  first
    | show wpAny _ _ (newExc (.type "StopIteration") [] >>= _) _ _ _
    | refine wpAny_bind (wpAny_letGo ?_)
  refine wpAny_bind ?_
  simp only [newExc, newTuple]
  refine wpAny_bind (wpAny_newObj_type ?_ (by size_fits))
  refine wpAny_bind (m := firstArgMember _ _) (wpAny_of_eq (a := Value.none) (by first | rfl | (simp only [firstArgMember]; rfl)) ?_)
  refine wpAny_newObj_type ?_ (by size_fits)
  simp only [raiseNew]
  refine wpAny_bind (wpAny_handled ?_)
  first | rw [show A.in1.handled = none from hh] | rw [hh]
  refine wpAny_bind (wpAny_pure (wpAny_throw ?_))
  exact hE _ _ (((Heap.SameBut.update ..).extBut.push _).push _) ⟨_, Heap.get?_push_size _ rfl, rfl⟩
end
theorem IsTupleIter_at {h h' : Heap} {a t : Addr} {i : Nat} (x : h.IsTupleIter a t i) (k : ∀ o, h.get? a = some o → h'.get? a = some o) : h'.IsTupleIter a t i := let ⟨o, ho, r⟩ := x; ⟨o, k o ho, r⟩
theorem IsTuple_at {h h' : Heap} {a : Addr} {items : Array Value} (x : h.IsTuple a items) (k : ∀ o, h.get? a = some o → h'.get? a = some o) : h'.IsTuple a items := let ⟨o, ho, r⟩ := x; ⟨o, k o ho, r⟩
theorem draws_tuple {prog : Program} {w : World} {A : Around} (hh : A.handled = none) (it l : Addr) (hne : l ≠ it) (items : Array Value) :
    Draws prog w A it [it, l] items.size (fun i v => items[i]? = some v) (fun i h => h.IsTupleIter it l i ∧ h.IsTuple l items) where
  live := fun _ _ st => let ⟨o, ho, _⟩ := st.1; ⟨o, ho⟩
  frame := fun _ _ _ st hk => ⟨IsTupleIter_at st.1 fun o e => hk it (by simp) o e, IsTuple_at st.2 fun o e => hk l (by simp) o e⟩
  item := fun i s Q E hi st hQ => by
    refine nextOf_tuple_item st.1 st.2 (x := items[i]) (by simp [hi]) fun h' hit' hs' => ?_
    exact hQ _ h' s.toks (by simp [hi]) ⟨hit', st.2.extBut hs'.extBut hne⟩ hs'
  done := fun s Q E st hE => nextOf_tuple_end hh st.1 st.2 (by simp) hE
theorem meets_enumerate_newT (l : Addr) (items : Array Value) (n : Nat) (dct : Option Addr) (sl : Array (Option Value)) :
    Meets (Builtin.«enumerate.__new__» ⟨[.type "enumerate", .ref l], []⟩) (fun _ R s => s.heap.get? l = some { cls := .type "tuple", dict := dct, data := .seq items n, slots := sl } ∧
      R (.ok (.ret (.ref (s.heap.push { cls := .type "tuple_iterator", data := .fields #[.ref l, .int 0 0] }).objs.size)))
        { s with heap := (s.heap.push { cls := .type "tuple_iterator", data := .fields #[.ref l, .int 0 0] }).push { cls := .type "enumerate", data := .fields #[.none, .bool false, .ref s.heap.objs.size, rawInt 0, .none, .none] } }) :=
  .of_wp fun prog w A R s h => by
    obtain ⟨hp, g, d, tk, os⟩ := s; obtain ⟨hl, h⟩ := h
    have hsub := sub_enumerate
    have hL : Heap.IsTuple (Shared.heap ⟨hp, g, d, tk, os⟩) l items := ⟨_, hl, rfl, n, rfl⟩
    wp_walk using wpAny_loadPart' hl
    refine wpAny_stack_any fun st => wpAny_pure ?_
    split
    · rename_i c _ _ _ _ _
      cases (c == Value.type "enumerate")
      · wp_walk using wpAny_loadPart' hl, wpAny_pyIter_tuple hL
        exact ⟨_, rfl, h⟩
      · wp_walk using wpAny_loadPart' hl, wpAny_pyIter_tuple hL
        exact ⟨_, rfl, h⟩
    · wp_walk using wpAny_loadPart' hl, wpAny_pyIter_tuple hL
      exact ⟨_, rfl, h⟩
section
variable {prog : Program} {w : World} {A : Around} {E : Value → Shared → Prop} {s : Shared}
theorem call_enumerate_tuple {l : Addr} {items : Array Value} {Q : Value → Shared → Prop} (hL : s.heap.IsTuple l items)
    (h : ∀ h', IsEnum h' (s.heap.objs.size + 1) s.heap.objs.size 0 .none → h'.IsTupleIter s.heap.objs.size l 0 → h'.objs.size = s.heap.objs.size + 2 →
      (∀ b o, s.heap.get? b = some o → h'.get? b = some o) → Q (.ref (s.heap.objs.size + 1)) { s with heap := h' }) :
    wpAny (model prog w) A (call (.type "enumerate") [.ref l]) Q E s := by
  obtain ⟨⟨c, dct, dt, sl⟩, hl, hc, n, hd⟩ := hL
  replace hc : c = .type "tuple" := hc
  replace hd : dt = .seq items n := hd
  subst hc hd
  refine callType_new F.called_enumerate (by decide) (F.typeCall_enumerate_1 _) (F.newCall_enumerate_1 _) (fun obj => F.args_object_init_2 obj _) F.entry_enumerate_new
    (meets_enumerate_newT l items n dct sl) ⟨hl, ?_⟩
  have hz : (s.heap.push { cls := .type "tuple_iterator", data := .fields #[.ref l, .int 0 0] }).objs.size = s.heap.objs.size + 1 := Heap.size_push ..
  show _ ∧ _
  rw [hz]
  have he : IsEnum ((s.heap.push { cls := .type "tuple_iterator", data := .fields #[.ref l, .int 0 0] }).push
      { cls := .type "enumerate", data := .fields #[.none, .bool false, .ref s.heap.objs.size, rawInt 0, .none, .none] }) (s.heap.objs.size + 1) s.heap.objs.size 0 .none := by
    have := Heap.get?_push_size (s.heap.push { cls := .type "tuple_iterator", data := .fields #[.ref l, .int 0 0] })
      (o := { cls := .type "enumerate", data := .fields #[.none, .bool false, .ref s.heap.objs.size, rawInt 0, .none, .none] }) rfl
    rw [hz] at this; exact this
  refine ⟨⟨_, he, rfl⟩, h _ he ⟨_, Heap.get?_push_of_some _ (Heap.get?_push_size _ rfl), rfl, rfl⟩ (by rw [Heap.size_push, hz]) fun b o x => Heap.get?_push_of_some _ (Heap.get?_push_of_some _ x)⟩
end
/-- the tuple at a, each item in a new pair -/
def IteT (K : PySem.W.Frag) (a : Addr) : It :=
  ⟨fun i H => ∃ (xs : List V) (x : V), SqT K H a xs ∧ xs[i]? = some x, fun i H v H' => ∃ T x, v = .ref T ∧ H T = none ∧ H' = upd H T (.tup [.int (i : Nat), x]) ∧ ∀ xs, SqT K H a xs → xs[i]? = some x, fun i H => ∃ xs : List V, SqT K H a xs ∧ xs.length = i⟩
theorem isTuple_of {h : Heap} {a : Addr} {its : Array Value} (p : IsTup h a its) : h.IsTuple a its := let ⟨o, h1, h2, n, h3⟩ := p; ⟨o, h1, h2, n, h3⟩
theorem turn_enumT {P : Program} {w : World} {K : PySem.W.Frag} {elts : List Ex} {kk : Nat} {tpos : Pos} (a e it : Addr) :
    Turn P w K (.Tuple elts kk tpos) (IteT K a) [e, it] e (fun i h => (∃ old, IsEnum h e it ((i : Nat) : Int) old) ∧ h.IsTupleIter it a i ∧ e ≠ it) where
  mem := by simp
  obj := fun i h st b hb => by
    obtain ⟨⟨old, he⟩, ⟨o, ho, hc, hd⟩, _⟩ := st
    have e' : b = e ∨ b = it := by simpa using hb
    rcases e' with z | z
    · rw [z]; exact ⟨_, he, fun v q => nomatch q⟩
    · rw [z]; exact ⟨o, ho, fun v q => by rw [hd] at q; cases q⟩
  keep := fun i h h' st k => let ⟨⟨old, he⟩, hi, hne⟩ := st; ⟨⟨old, k e (by simp) _ he⟩, IsTupleIter_at hi fun o q => k it (by simp) o q, hne⟩
  item := by
    intro X hP hw hK hc i pins s σ H E I hf st hg
    subst hP hw hK
    obtain ⟨⟨old, he⟩, hit, hne⟩ := st
    obtain ⟨xs, x, hq, hx⟩ := hg
    obtain ⟨its, rv, p, hz⟩ := I.tuple hq
    obtain ⟨u, hu, ru⟩ := rv.get hx
    have hel : e < s.heap.objs.size := Heap.lt_size he
    have hil : it < s.heap.objs.size := by obtain ⟨_, q, _⟩ := hit; exact Heap.lt_size q
    have hT0 : s.heap.IsTuple a its.toArray := isTuple_of p
    have hai : a ≠ it := fun z => by
      obtain ⟨o1, q1, q2, _⟩ := hT0
      obtain ⟨o2, q3, q4, _⟩ := hit
      rw [z, q3] at q1; cases q1; rw [q2] at q4; exact absurd (Value.type.inj q4) (by decide)
    have hae : e ≠ a := fun z => by
      obtain ⟨o1, q1, q2, _⟩ := hT0
      rw [← z] at q1
      rw [show s.heap.get? e = some _ from he] at q1; cases q1; exact absurd (Value.type.inj q2) (by decide)
    have hi : i < its.toArray.size := by rw [List.size_toArray]; exact (List.getElem?_eq_some_iff.mp hu).1
    refine wpAny_pyNext_enum_itemD (draws_tuple (A := X.A.in1) (I.ok.hd hc) it a hai its.toArray) he ⟨hit, hT0⟩ hi hne (by simp [hae, hne]) fun y h' tk hP' ho hit' hT hsz hk => ?_
    have eu : y = u := by
      have q : its.toArray[i]? = some y := hP'
      rw [List.getElem?_toArray, hu] at q
      exact (Option.some.inj q).symm
    subst eu
    refine ⟨_, rfl, wpAny_letOwnedTupleGo_enum (s := { s with heap := h', toks := tk + 1 }) ho fun h'' he' sb => ?_⟩
    have hT2 : h''.get? s.heap.objs.size = some { cls := .type "tuple", data := .seq #[.int i tk, y] } := (sb.2 _ (Nat.ne_of_gt hel)).trans hT
    have new : ObjOk X.prog X.w (upd H s.heap.objs.size (.tup [.int (i : Nat), x])) h'' s.heap.objs.size (.tup [.int (i : Nat), x]) :=
      ⟨by show 2 ≤ sizeLine; decide, [.int i tk, y], .cons ⟨_, rfl⟩ (.cons ru .nil), ⟨_, hT2, rfl, _, rfl⟩⟩
    have I1 : Inv X pins σ (upd H s.heap.objs.size (.tup [.int (i : Nat), x])) { s with heap := h'', toks := tk + 1 } :=
      I.turnedNew (ch := [e, it]) (fun b ob hb q => (sb.2 b (fun z => hb (by simp [z]))).trans (hk b ob (fun z => hb (by simp [z])) (fun z => hb (by simp [z])) q)) hf (Nat.le_refl _) new
    refine ⟨.ref s.heap.objs.size, _, I1, rfl, ⟨_, x, rfl, I.hok.fresh (Nat.le_refl _), rfl, fun ys hy => by rw [I.tuple_inj hy hq]; exact hx⟩, ⟨⟨y, ?_⟩, IsTupleIter_at hit'.1 fun o q => (sb.2 it (Ne.symm hne)).trans q, hne⟩, fun b hb => ?_⟩
    · have e1 : ((i + 1 : Nat) : Int) = (i : Int) + 1 := by omega
      rw [e1]; exact he'
    · have hb' : b < s.heap.objs.size := by
        have e' : b = e ∨ b = it := by simpa using hb
        rcases e' with z | z
        · rw [z]; exact hel
        · rw [z]; exact hil
      rw [upd_ne (Nat.ne_of_lt hb')]
      exact (hf b hb).1
  done := by
    intro X hP hw hK hc i pins s σ H E I hf st hg
    subst hP hw hK
    obtain ⟨⟨old, he⟩, hit, hne⟩ := st
    obtain ⟨xs, hq, hx⟩ := hg
    obtain ⟨its, rv, p, hz⟩ := I.tuple hq
    obtain ⟨f0, f1, f2, f3, f4, f5⟩ := hf it (by simp)
    have hl := rv.length
    have hT0 : s.heap.IsTuple a its.toArray := isTuple_of p
    have hai : a ≠ it := fun z => by
      obtain ⟨o1, q1, q2, _⟩ := hT0
      obtain ⟨o2, q3, q4, _⟩ := hit
      rw [z, q3] at q1; cases q1; rw [q2] at q4; exact absurd (Value.type.inj q4) (by decide)
    have hn : its.toArray.size = i := by rw [List.size_toArray]; omega
    refine wpAny_pyNext_enum_endD (draws_tuple (A := X.A.in1) (I.ok.hd hc) it a hai its.toArray) he (by rw [hn]; exact ⟨hit, hT0⟩) fun h' eb => ⟨rfl, I.turned (t' := s.toks) (fun b o hb q => eb b o hb q) f0 f1 f3 f4 f5⟩
  self := fun A i s Q E st h => let ⟨⟨_, he⟩, _⟩ := st; wpAny_pyIter_enum he h
theorem pi_enumT {X : Cx} {e : Ex} {ta : TA} {p pos tpos : Pos} {elts : List Ex} {kk : Nat} (hg : Gl X "enumerate") (hm : X.mg "enumerate" = none) (ha : PA X [e] ta) (hs : starEach [e] X.env = [(false, eval e X.env)] := by rfl) :
    PI X (.Tuple elts kk tpos) (.Call (.Name "enumerate" p) [e] [] pos) (fun σ H R => ta σ H fun vs H1 => ∃ a xs, vs = [.ref a] ∧ SqT X.K H1 a xs ∧ R (IteT X.K a) H1) := by
  refine ⟨fun pins s σ H R I h => ?_⟩
  refine Call_ (ld_blt I hg hm boot_enumerate (PyProof.Rows.callWith_type1 (thn (ha.run pos pins s σ H _ I h) fun us s1 ⟨vs, H1, I1, r1, q1⟩ => ?_) hs rfl))
  obtain ⟨a, xs, ex, hq, q⟩ := q1
  subst ex
  cases r1 with
  | cons r rr =>
    cases rr
    cases r
    obtain ⟨its, rv, p', hz⟩ := I1.tuple hq
    refine call_enumerate_tuple (isTuple_of p') fun h' he hit hsz hk => wpAny_pyIter_enum he ?_
    have I2 : Inv X pins σ H1 { s1 with heap := h' } := I1.kept (t' := s1.toks) hk
    refine ⟨s1.heap.objs.size + 1, [s1.heap.objs.size + 1, s1.heap.objs.size], _, _, H1, rfl, I2, turn_enumT a (s1.heap.objs.size + 1) s1.heap.objs.size, ⟨⟨.none, he⟩, hit, Nat.succ_ne_self _⟩, fun b hb => ?_, q⟩
    have e' : b = s1.heap.objs.size + 1 ∨ b = s1.heap.objs.size := by simpa using hb
    have hle : s1.heap.objs.size ≤ b := by
      rcases e' with z | z
      · rw [z]; exact Nat.le_add_right _ _
      · rw [z]; exact Nat.le_refl _
    exact I1.fpOk hle (I1.hok.fresh hle)
section
variable {X : Cx} {Γ Γ1 : Gm} {e : Ex} {p pos tpos : Pos} {elts : List Ex} {kk : Nat} {ds : List D}
def itE (ds : List D) : Nat → D := fun i => .tup [.int (i : Nat), itd ds i]
theorem it_enumT (hm : X.mg "enumerate" = none) (h : AX X Γ [e] [.tup ds] Γ1) (hg : Gl X "enumerate" := by rfl) (hs : starEach [e] X.env = [(false, eval e X.env)] := by rfl) : IterX X (.Tuple elts kk tpos) (.Call (.Name "enumerate" p) [e] [] pos) Γ ds.length (itE ds) Γ1 :=
  ⟨_, pi_enumT hg hm wa_pa hs, fun F σ H S R' R q => h F σ H S _ R fun vs H1 S1 R1 s1 ok => by
    obtain ⟨v, rfl, l, us, rfl, h1, h2⟩ := reps1 ok
    refine ⟨l, us, rfl, same_sqt R1.sh h1, q _ H1 S1 R1 s1 fun i H' sH => ?_⟩
    have hq : SqT X.K H' l us := same_sqt sH h1
    refine ⟨fun hi => ⟨us, us[i]'(by rw [← h2.length]; exact hi), hq, List.getElem?_eq_getElem _⟩, fun hi => ⟨us, hq, by rw [← h2.length]; exact hi.symm⟩, fun x H2 hi y => ?_⟩
    obtain ⟨T, z, rfl, nT, rfl, hz⟩ := y
    exact .inr ⟨T, _, _, rfl, nT, rfl, rfl, fun S' sS => .cons rfl (.cons (Rep.mono sS _ _ (itd_rep h2 (hz us hq))) .nil)⟩⟩
theorem it_enumL (hm : X.mg "enumerate" = none) (h : AX X Γ [e] [.lst ds] Γ1) (hg : Gl X "enumerate" := by rfl) (hs : starEach [e] X.env = [(false, eval e X.env)] := by rfl) : IterX X (.Tuple elts kk tpos) (.Call (.Name "enumerate" p) [e] [] pos) Γ ds.length (itE ds) Γ1 :=
  ⟨_, pi_enum hg hm wa_pa hs, fun F σ H S R' R q => h F σ H S _ R fun vs H1 S1 R1 s1 ok => by
    obtain ⟨v, rfl, l, us, rfl, h1, h2⟩ := reps1 ok
    refine ⟨l, us, rfl, .of (R1.sh _ _ h1), q _ H1 S1 R1 s1 fun i H' sH => ?_⟩
    have hq : SqL X.K H' l us := .of (sH _ _ h1)
    refine ⟨fun hi => ⟨us, us[i]'(by rw [← h2.length]; exact hi), hq, List.getElem?_eq_getElem _⟩, fun hi => ⟨us, hq, by rw [← h2.length, hi]; exact Nat.le_refl _⟩, fun x H2 hi y => ?_⟩
    obtain ⟨T, z, rfl, nT, rfl, hz⟩ := y
    exact .inr ⟨T, _, _, rfl, nT, rfl, rfl, fun S' sS => .cons rfl (.cons (Rep.mono sS _ _ (itd_rep h2 (hz us hq))) .nil)⟩⟩
end
end PL

set_option Elab.async false
set_option linter.all false
set_option maxRecDepth 100000
set_option maxHeartbeats 4000000
namespace PL
open PySem PySem.Spec PyProof.Rows L2
/-! ### names of built-ins that stand free -/
def bltNames : List Str := ["isinstance", "int", "bool", "str", "tuple", "list", "dict", "set", "len", "range", "enumerate", "zip", "sum", "all", "any", "abs", "max", "min", "divmod", "sorted", "reversed", "type", "repr", "ValueError", "IndexError", "KeyError", "LookupError", "ZeroDivisionError", "Exception"]
def Bt (mg : Str → Option Value) : Prop := ∀ x ∈ bltNames, mg x = none
theorem b_isinstance : bootBuiltins "isinstance" = some (.builtin "isinstance") := by decide +kernel
theorem b_len : bootBuiltins "len" = some (.builtin "len") := by decide +kernel
theorem b_sum : bootBuiltins "sum" = some (.builtin "sum") := by decide +kernel
theorem b_all : bootBuiltins "all" = some (.builtin "all") := by decide +kernel
theorem b_any : bootBuiltins "any" = some (.builtin "any") := by decide +kernel
theorem b_abs : bootBuiltins "abs" = some (.builtin "abs") := by decide +kernel
theorem b_max : bootBuiltins "max" = some (.builtin "max") := by decide +kernel
theorem b_min : bootBuiltins "min" = some (.builtin "min") := by decide +kernel
theorem b_divmod : bootBuiltins "divmod" = some (.builtin "divmod") := by decide +kernel
theorem b_sorted : bootBuiltins "sorted" = some (.builtin "sorted") := by decide +kernel
theorem b_int : bootBuiltins "int" = some (.type "int") := by decide +kernel
theorem b_bool : bootBuiltins "bool" = some (.type "bool") := by decide +kernel
theorem b_str : bootBuiltins "str" = some (.type "str") := by decide +kernel
theorem b_tuple : bootBuiltins "tuple" = some (.type "tuple") := by decide +kernel
theorem b_list : bootBuiltins "list" = some (.type "list") := by decide +kernel
theorem b_dict : bootBuiltins "dict" = some (.type "dict") := by decide +kernel
theorem b_set : bootBuiltins "set" = some (.type "set") := by decide +kernel
section
variable {mg : Str → Option Value} (T : Bt mg)
include T
theorem Bt.isinstance : mg "isinstance" = none := T _ (by decide)
theorem Bt.int : mg "int" = none := T _ (by decide)
theorem Bt.bool : mg "bool" = none := T _ (by decide)
theorem Bt.str : mg "str" = none := T _ (by decide)
theorem Bt.tuple : mg "tuple" = none := T _ (by decide)
theorem Bt.list : mg "list" = none := T _ (by decide)
theorem Bt.dict : mg "dict" = none := T _ (by decide)
theorem Bt.set : mg "set" = none := T _ (by decide)
theorem Bt.len : mg "len" = none := T _ (by decide)
theorem Bt.range : mg "range" = none := T _ (by decide)
theorem Bt.enumerate : mg "enumerate" = none := T _ (by decide)
theorem Bt.sum : mg "sum" = none := T _ (by decide)
theorem Bt.all : mg "all" = none := T _ (by decide)
theorem Bt.any : mg "any" = none := T _ (by decide)
theorem Bt.abs : mg "abs" = none := T _ (by decide)
theorem Bt.max : mg "max" = none := T _ (by decide)
theorem Bt.min : mg "min" = none := T _ (by decide)
theorem Bt.divmod : mg "divmod" = none := T _ (by decide)
theorem Bt.sorted : mg "sorted" = none := T _ (by decide)
end
section
variable {X : Cx} {Γ Γ1 Γ2 Γ3 : Gm} {e a b c : Ex} {pos : Pos} {d d1 d2 d3 : D} {r : Rs} {es : List Ex} {k : Nat} {bb : Bool}
theorem e_neg {i : Int} (h : EX X Γ a (.sh (.int i)) Γ1) : EX X Γ (.UnaryOp .USub a pos) (.sh (.int (-i))) Γ1 := fun F σ H S Q R q =>
  pe_we (pe_un un_neg we_pe) (h F σ H S _ R fun v H1 S1 R1 s1 ok => ⟨i, ok, q _ H1 S1 R1 s1 rfl⟩)
/-! ### a chain as a test -/
theorem t_chainF {op op' : CmpOp} {r' : R2} (ho' : OpR X (compareOp op') r') (ho : OpS X (compareOp op) d1 d2 (.sh (.bl false))) (h1 : EX X Γ a (.sh d1) Γ1) (h2 : EX X Γ1 b (.sh d2) Γ2) (hm : lastMarks [op, op'] [b, c] = false := by rfl) : TX X Γ (.Compare a [op, op'] [b, c] pos) false Γ2 := fun F σ H S Q R q => by
  obtain ⟨rr, hr, hq⟩ := ho
  refine pt_wt (pt_chain hr ho' we_pe we_pe we_pe hm) (h1 F σ H S _ R fun x H1 S1 R1 s1 r1 => h2 F σ H1 S1 _ R1 fun y H2 S2 R2 s2 r2 => hq Γ2 F σ H2 S2 x y _ R2 (Rep.mono s2 _ _ r1) r2 fun v H3 S3 R3 s3 ok => ⟨false, ok, iteF ⟨false, rfl, q H3 S3 R3 ((s1.trans s2).trans s3)⟩⟩)
theorem t_chainT {op op' : CmpOp} (ho : OpS X (compareOp op) d1 d2 (.sh (.bl true))) (ho' : OpS X (compareOp op') d2 d3 (.sh (.bl bb))) (h1 : EX X Γ a (.sh d1) Γ1) (h2 : EX X Γ1 b (.sh d2) Γ2) (h3 : EX X Γ2 c (.sh d3) Γ3) (hm : lastMarks [op, op'] [b, c] = false := by rfl) : TX X Γ (.Compare a [op, op'] [b, c] pos) bb Γ3 := fun F σ H S Q R q => by
  obtain ⟨rr, hr, hq⟩ := ho
  obtain ⟨rr', hr', hq'⟩ := ho'
  refine pt_wt (pt_chain hr hr' we_pe we_pe we_pe hm) (h1 F σ H S _ R fun x H1 S1 R1 s1 r1 => h2 F σ H1 S1 _ R1 fun y H2 S2 R2 s2 r2 => hq Γ2 F σ H2 S2 x y _ R2 (Rep.mono s2 _ _ r1) r2 fun v H3 S3 R3 s3 ok => ⟨true, ok, iteT ?_⟩)
  exact h3 F σ H3 S3 _ R3 fun z H4 S4 R4 s4 r4 => hq' Γ3 F σ H4 S4 y z _ R4 (Rep.mono (s3.trans s4) _ _ r2) r4 fun v H5 S5 R5 s5 ok => ⟨bb, ok, q H5 S5 R5 ((((s1.trans s2).trans s3).trans s4).trans s5)⟩
/-- two ints' chain, both links <= -/
theorem e_chainI {i j l : Int} (h1 : EX X Γ a (.sh (.int i)) Γ) (h2 : EX X Γ b (.sh (.int j)) Γ) (h3 : EX X Γ c (.sh (.int l)) Γ) (hm : lastMarks [.LtE, .LtE] [b, c] = false := by rfl) : EX X Γ (.Compare a [.LtE, .LtE] [b, c] pos) (.sh (.bl (decide (i ≤ j) && decide (j ≤ l)))) Γ := by
  by_cases h : i ≤ j
  · rw [decide_eq_true h, Bool.true_and]
    exact e_chainT (by have z := o_le (X := X) (i := i) (j := j); rw [decide_eq_true h] at z; exact z) o_le h1 h2 h3 hm
  · rw [decide_eq_false h, Bool.false_and]
    exact e_chainF op_le (by have z := o_le (X := X) (i := i) (j := j); rw [decide_eq_false h] at z; exact z) h1 h2 hm
/-! ### x += e -/
def InpS (X : Cx) (op : Operator) (d1 d2 d : D) : Prop := ∃ rr, PIp X op rr ∧ ∀ Γ F σ H S x y (Q : VK), RS X.K F Γ σ H S → Rep X.K S d1 x → Rep X.K S d2 y → (∀ v H' S', RS X.K F Γ σ H' S' → Same S S' → Rep X.K S' d v → Q v H') → rr x y H Q
theorem ip_addI {i j : Int} : InpS X .Add (.int i) (.int j) (.int (i + j)) := ⟨_, ip_add, fun Γ F σ H S x y Q R r1 r2 q => ⟨i, j, r1, r2, q _ H S R (.refl _) rfl⟩⟩
theorem s1_aug (i : Nat) {x : Str} {op : Operator} {pos' : Pos} (g : X.N.Nodup) (hp : InpS X op d1 d2 d) (h0 : Γ[i]? = some (.sh d1)) (h : EX X Γ e (.sh d2) Γ1) (hl : i < Γ1.length := by exact Nat.le_of_ble_eq_true rfl) (hi : X.N[i]? = some x := by rfl) (hx : Loc X.env.scope x := by first | exact Or.inl rfl | exact Or.inr rfl)
    (hf : X.fn x = true ∨ X.env.scope.names.lookup x = some .local := by first | exact .inl rfl | exact .inr rfl | assumption) : S1 X Γ (.AugAssign (.Name x pos') op e pos) (.nx (Γ1.set i (.sh d))) := fun F σ H S D R q => by
  obtain ⟨rr, hr, hq⟩ := hp
  obtain ⟨v0, e0, r0⟩ := R.sl i _ h0
  refine ps_w1 (ps_aug g hi hx we_pe hr hf) ⟨v0, e0, h F σ H S _ R fun y H1 S1 R1 s1 r1 => hq Γ1 F σ H1 S1 v0 y _ R1 (Rep.mono s1 _ _ r0) r1 fun z H2 S2 R2 s2 r2 => q _ H2 S2 (R2.put (r := .sh d) hl r2 (fun _ z => by cases z)) (s1.trans s2)⟩
/-! ### o.f = e: a new field of the object that slot n owns -/
theorem putF_new {f : Str} {v : V} : ∀ {ns : List Str} {vs : List V}, ns.length = vs.length → f ∉ ns → putF f v (ns.zip vs) = (ns ++ [f]).zip (vs ++ [v])
  | [], [], _, _ => rfl
  | n :: ns, u :: vs, hl, hn => by
    have h1 : n ≠ f := fun e => hn (by rw [e]; exact List.mem_cons_self ..)
    show putF f v ((n, u) :: ns.zip vs) = (n, u) :: (ns ++ [f]).zip (vs ++ [v])
    rw [← putF_new (f := f) (v := v) (ns := ns) (vs := vs) (by simpa using hl) fun h => hn (List.mem_cons_of_mem _ h)]
    show (if n = f then (n, v) :: ns.zip vs else (n, u) :: putF f v (ns.zip vs)) = _
    rw [if_neg h1]
theorem s1_fld {n : Nat} {s : Sl} {C : Addr} {ns : List Str} {ds : List D} {x f : Str} {p pos' : Pos} (hc : Cls X.K C) (hna : NoAttr X.K C f) (h : EX X Γ e (.sh d) Γ1) (h1 : Has Γ1 n s (.ins C ns ds)) (hf : f ∉ ns) (hz : ns.length < 1000) (hN : X.N[n]? = some x := by rfl) (hv : Vis X.env.scope x := by first | exact Or.inl rfl | exact Or.inr (Or.inl rfl) | exact Or.inr (Or.inr rfl)) (hd : (x == ("__debug__" : Str)) = false := by decide)
    (hcd : (x == ("__classdict__" : Str)) = false := by decide) (hs : swapsWith e (some (.Attribute (.Name x p) f pos')) pos.line X.env = pure false := by rfl) : S1 X Γ (.Assign [.Attribute (.Name x p) f pos'] e pos) (.nx (Γ1.set n (s.re (.ins C (ns ++ [f]) (ds ++ [d]))))) := fun F σ H S D R q =>
  ps_w1 (ps_fld (pe_var hN hv hd hcd) we_pe hs) (h F σ H S _ R fun y H1 S1 R1 s1 ok => by
    obtain ⟨l, own, dx, vs, hl, hlen, rp⟩ := R1.has h1
    refine ⟨_, own.2, l, C, dx, _, rfl, hl, hc, hna, ?_, q σ _ S1 (R1.chg own h1.1 ⟨dx, vs ++ [y], ?_, ?_, rp.append (.one ok)⟩) s1⟩
    · rw [List.length_zip]; omega
    · rw [upd_same, putF_new hlen hf]
    · rw [List.length_append, List.length_append, hlen]; rfl)
/-! ### a call of the def that a slot holds -/
theorem pe_callSlot {CX : CXT} {j : Nat} {f : Addr} {fd : FuncData} {ps : List Str} {sp : Sp} {E : XK} {i : Nat} {x : Str} {p : Pos} {t : TA} (F : FnOk X.prog X.w X.K X.mg X.base CX j f fd ps sp) (hr : Room j X.A) (hk : PySem.W.keepIn X.K (.ref f) = true) (hb : Binds X.K fd ps []) (hx : Passes CX X E) (hN : X.N[i]? = some x) (hv : Vis X.env.scope x) (hd : (x == ("__debug__" : Str)) = false) (hcd : (x == ("__classdict__" : Str)) = false)
    (ha : PA X (e :: es) t) (he : starEach (e :: es) X.env = (false, eval e X.env) :: starEach es X.env := by rfl) (hpl : (backTo pos (starEach es X.env)).any (·.1) = false := by rfl) :
    PE X (.Call (.Name x p) (e :: es) [] pos) (fun σ H Q => σ[i]? = some (some (.ref f)) ∧ t σ H fun vs H1 => sp vs H1 Q E) := by
  refine ⟨fun pins s σ H Q I h => ?_⟩
  refine wpAny_Call_Name_kw (thn ((pe_var hN hv hd hcd).run pins s σ H (fun v H' => v = .ref f ∧ H' = H) I ⟨_, h.1, rfl, rfl⟩) fun u s1 ⟨v, H1, I1, rv, ev, eH⟩ => ?_)
  subst ev eH
  obtain rfl : u = Value.ref f := rv
  refine PySem.W.callWith_K (h₀ := X.base) I.ok.mod.kin hk (thn (ha.run pos pins s1 σ H1 _ I1 h.2) fun us s2 ⟨vs, H2, I2, r, q⟩ => ⟨I2.kIn, ?_⟩) he hpl
  exact run_fn (dvs := []) (ds := []) F hr hb .nil hx I2 r (by rw [List.append_nil]; exact q)
theorem e_callSlot {P : List D → Rs → Prop} {j : Nat} {f : Addr} {fd : FuncData} {ps : List Str} {i : Nat} {x : Str} {p : Pos} {ds : List D} (Fo : FnOk X.prog X.w X.K X.mg X.base (L2.CX X.prog X.w) j f fd ps (sp0 X.K P)) (hkp : PySem.W.keepIn X.K (.ref f) = true) (hb : Binds X.K fd ps []) (g : Gd k X) (h0 : Γ[i]? = some (.sh (.raw (.ref f)))) (hp : P ds r) (ha : AX X Γ (e :: es) ds Γ1) (hk : j ≤ k := by decide)
    (hN : X.N[i]? = some x := by rfl) (hv : Vis X.env.scope x := by first | exact Or.inl rfl | exact Or.inr (Or.inl rfl) | exact Or.inr (Or.inr rfl)) (hd : (x == ("__debug__" : Str)) = false := by decide) (hcd : (x == ("__classdict__" : Str)) = false := by decide)
    (he : starEach (e :: es) X.env = (false, eval e X.env) :: starEach es X.env := by rfl) (hpl : (backTo pos (starEach es X.env)).any (·.1) = false := by rfl) : EX X Γ (.Call (.Name x p) (e :: es) [] pos) r Γ1 := fun F σ H S Q R q => by
  obtain ⟨v0, e0, rfl⟩ := R.sl i _ h0
  exact pe_we (pe_callSlot (E := E0) Fo (g.rm.mono hk) hkp hb passL hN hv hd hcd wa_pa he hpl) ⟨e0, ha F σ H S _ R fun vs H1 S1 R1 s1 ok => ⟨S1, ds, r, hp, R1.sh, ok, fun v H2 S2 t => by
    obtain ⟨R2, ok2⟩ := R1.after0 t
    exact q v H2 S2 R2 (s1.trans t.ss) ok2⟩⟩
/-! ### a table of the top with text keys -/
theorem o_inK {dd : Addr} {es' : Array DictEntry} {n : Nat} {z : Str} {u : Option Value} (D : KDict X.K X.w dd es' n) (h : PySem.W.nsIn X.K dd z = some u) : OpS X (compareOp .In) (.str z) (.raw (.ref dd)) (.sh (.bl u.isSome)) :=
  ops_sc (op_in_kd D) (.bl _) (fun _ => rfl) fun H S x y Q _ r1 r2 q => ⟨z, u, r1, r2, h, q⟩
theorem i_K {dd : Addr} {z : Str} {v : V} (h : KDct X.K X.w dd z v) (hv : ∀ S, Rep X.K S d v) : IxS X (.raw (.ref dd)) (.str z) (.sh d) := ⟨_, ix_kdict, fun Γ F σ H S x y Q R r1 r2 q => ⟨dd, z, v, r1, r2, h, q v H S R (.refl _) (hv S)⟩⟩
/-! ### while -/
theorem WT_mono {σ : L2.St} {H : Hp} {Q Q' : Bool → Hp → Prop} (h : ∀ b H1, Q b H1 → Q' b H1) (w : WT X c σ H Q) : WT X c σ H Q' := fun pins s I => thn (w pins s I) fun b s' ⟨H1, I1, q⟩ => ⟨H1, I1, h b H1 q⟩
theorem s1_while (g : Gd k X) {body : List Stmt} (n : Nat) (G B : Nat → Gm) (hc : ∀ i, i < n → TX X (G i) c true (B i)) (hb : ∀ i, i < n → SX X (B i) body (.nx (G (i + 1))) ∨ SX X (B i) body (.ct (G (i + 1)))) (he : TX X (G n) c false Γ1) : S1 X (G 0) (.While c body [] pos) (.nx Γ1) := fun F σ H S D R q => by
  refine ps_w1 (ps_while g.po wt_pt ws_pss) ⟨fun m σ' H' => ∃ i, i ≤ n ∧ m = n - i ∧ ∃ S', RS X.K F (G i) σ' H' S' ∧ Same S S', ⟨n, 0, Nat.zero_le _, rfl, S, R, .refl _⟩, ?_⟩
  rintro m σ' H' ⟨i, hi, rfl, S', R', s'⟩
  by_cases hlt : i < n
  · refine hc i hlt F σ' H' S' _ R' fun H2 S2 R2 s2 => ?_
    refine ⟨fun σ3 H3 => ∃ S3, RS X.K F (G (i + 1)) σ3 H3 S3 ∧ Same S S3, fun σ3 H3 ⟨S3, R3, s3⟩ => ⟨n - (i + 1), by omega, i + 1, hlt, rfl, S3, R3, s3⟩, ?_⟩
    rcases hb i hlt with hb | hb
    · exact hb F σ' H2 S2 _ R2 fun σ3 H3 S3 R3 s3 => ⟨S3, R3, (s'.trans s2).trans s3⟩
    · exact hb F σ' H2 S2 _ R2 fun σ3 H3 S3 R3 s3 => ⟨S3, R3, (s'.trans s2).trans s3⟩
  · obtain rfl : i = n := by omega
    exact he F σ' H' S' _ R' fun H2 S2 R2 s2 => q σ' H2 S2 R2 (s'.trans s2)
end
/-! ### isinstance of plain data -/
def isInt : D → Bool
  | .int _ | .bl _ => true
  | _ => false
def isBool : D → Bool
  | .bl _ => true
  | _ => false
def isStr : D → Bool
  | .str _ => true
  | _ => false
def isTup : D → Bool
  | .tup _ => true
  | _ => false
def isLst : D → Bool
  | .lst _ => true
  | _ => false
theorem kit_tys : ∀ t ∈ ["NoneType", "bool", "int", "str", "tuple", "list", "dict"], kitB t "int" = some (t == "int" || t == "bool") ∧ kitB t "bool" = some (t == "bool") ∧ kitB t "str" = some (t == "str") ∧ kitB t "tuple" = some (t == "tuple") ∧ kitB t "list" = some (t == "list") := by decide +kernel
section
variable {X : Cx} {d : D}
theorem ty_mem (hp : d.plain = true) : d.ty ∈ ["NoneType", "bool", "int", "str", "tuple", "list", "dict"] := by
  cases d <;> first | cases hp; done | simp [D.ty]
theorem c_isInt (hp : d.plain = true) : CallS X (.builtin "isinstance") [d, .raw (.ty "int")] (.sh (.bl (isInt d))) := by
  have h := (kit_tys d.ty (ty_mem hp)).1
  have e : (d.ty == "int" || d.ty == "bool") = isInt d := by cases d <;> first | rfl | cases hp
  rw [e] at h
  exact c_isi h hp
theorem c_isBool (hp : d.plain = true) : CallS X (.builtin "isinstance") [d, .raw (.ty "bool")] (.sh (.bl (isBool d))) := by
  have h := (kit_tys d.ty (ty_mem hp)).2.1
  have e : (d.ty == "bool") = isBool d := by cases d <;> first | rfl | cases hp
  rw [e] at h
  exact c_isi h hp
theorem c_isStr (hp : d.plain = true) : CallS X (.builtin "isinstance") [d, .raw (.ty "str")] (.sh (.bl (isStr d))) := by
  have h := (kit_tys d.ty (ty_mem hp)).2.2.1
  have e : (d.ty == "str") = isStr d := by cases d <;> first | rfl | cases hp
  rw [e] at h
  exact c_isi h hp
theorem c_isTup (hp : d.plain = true) : CallS X (.builtin "isinstance") [d, .raw (.ty "tuple")] (.sh (.bl (isTup d))) := by
  have h := (kit_tys d.ty (ty_mem hp)).2.2.2.1
  have e : (d.ty == "tuple") = isTup d := by cases d <;> first | rfl | cases hp
  rw [e] at h
  exact c_isi h hp
theorem c_isLst (hp : d.plain = true) : CallS X (.builtin "isinstance") [d, .raw (.ty "list")] (.sh (.bl (isLst d))) := by
  have h := (kit_tys d.ty (ty_mem hp)).2.2.2.2
  have e : (d.ty == "list") = isLst d := by cases d <;> first | rfl | cases hp
  rw [e] at h
  exact c_isi h hp
end
theorem ends_rt {X : Cx} {Γ Γ' : Gm} {body : List Stmt} {r : Rs} (h : SX X Γ body (.rt r Γ')) : ∃ Γ', Ends1 X Γ body r Γ' := ⟨Γ', .inl h⟩
theorem ends_nx {X : Cx} {Γ Γ' : Gm} {body : List Stmt} (h : SX X Γ body (.nx Γ')) : ∃ Γ', Ends1 X Γ body (.sh .non) Γ' := ⟨Γ', .inr ⟨rfl, h⟩⟩
end PL

set_option Elab.async false
set_option linter.all false
set_option maxRecDepth 100000
set_option maxHeartbeats 4000000
namespace PL
open PySem PySem.Spec PyProof.Rows L2
theorem Wk.nil : Wk [] [] := .refl _
theorem Wk.keep {s : Sl} {Γ Γ' : Gm} (h : Wk Γ Γ') : Wk (s :: Γ) (s :: Γ') := ⟨by rw [List.length_cons, List.length_cons, h.1], fun i t e => by
  cases i with
  | zero => exact .inr e
  | succ i => exact h.2 i t (by simpa using e)⟩
theorem Wk.drop {s : Sl} {Γ Γ' : Gm} (h : Wk Γ Γ') : Wk (s :: Γ) (.un :: Γ') := ⟨by rw [List.length_cons, List.length_cons, h.1], fun i t e => by
  cases i with
  | zero => cases e; exact .inl rfl
  | succ i => exact h.2 i t (by simpa using e)⟩
theorem took_all {f : Nat → D} {n : Nat} : took (fun _ => true) f n = (List.range n).map f := by
  unfold took
  rw [List.filter_eq_self.mpr fun _ _ => rfl]
section
variable {X : Cx} {Γ Γ1 : Gm} {iter elt c : Ex} {scope : Scope} {pos px : Pos} {n k : Nat} {it f : Nat → D} {t : Nat → Bool} {x : Str}
theorem unAt1 {i : Nat} (h : Γ[i]? = some .un) : UnAt Γ [i] := fun j hj s e => by
  rw [List.mem_singleton.mp hj, h] at e
  exact (Option.some.inj e).symm
/-- a block that changes slots by turns: its target is one name -/
theorem lcG (i : Nat) (G : Nat → Gm) (Be : Nat → Gm) (gd : Gd k X) (hI : IterX X (.Name x px) iter Γ n it Γ1) (hn : n ≤ sizeLine) (ok : BlkOk X.N X.env.scope scope [(x, i)]) (h0 : Cv X.K Γ1 (G 0)) (hu : ∀ j, j ≤ n → (G j)[i]? = some .un)
    (he : ∀ j, j < n → ∀ s H C cl fp, EX (bk X scope s H C cl fp) ((G j).set i (.sh (it j))) elt (.sh (f j)) (Be j)) (hT : ∀ j, j < n → Cv X.K (Be j) (G (j + 1))) (hi : X.N[i]? = some x := by rfl) (hx : ∀ s H C cl fp, Loc (bk X scope s H C cl fp).env.scope x := by exact fun _ _ _ _ _ => Or.inl rfl)
    (hf : ∀ s H C cl fp, (bk X scope s H C cl fp).fn x = true ∨ (bk X scope s H C cl fp).env.scope.names.lookup x = some .local := by exact fun _ _ _ _ _ => Or.inr rfl) : LcX X Γ (.Name x px) iter [] elt scope [(x, i)] n (fun _ => true) f (G n) :=
  ⟨it, Γ1, gName i, G, fun j => (G j).set i (.sh (it j)), fun j => (G j).set i (.sh (it j)), Be, hn, hI, ok, h0, fun j hj => unAt1 (hu j hj), fun s H C cl fp => pg_name gd.nd hi (hx s H C cl fp) (hf s H C cl fp),
    fun j hj => tgt_name i (List.mem_singleton.mpr rfl) (List.getElem?_eq_some_iff.mp (hu j (Nat.le_of_lt hj))).1, .inl ⟨rfl, fun _ => rfl, rfl⟩, fun j hj _ => he j hj, fun j hj _ => hT j hj, fun _ _ z => Bool.noConfusion z, rfl⟩
theorem cv_reset {K : PySem.W.Frag} {i : Nat} {d : D} (h : Γ[i]? = some .un) : Cv K (Γ.set i (.sh d)) Γ := Wk.cv ⟨by rw [List.length_set], fun j s e => by
  by_cases hj : j = i
  · subst hj; rw [h] at e; exact .inl (Option.some.inj e).symm
  · rw [List.getElem?_set_ne (Ne.symm hj)]; exact .inr e⟩
/-- a block without effect -/
theorem e_lc1 (i : Nat) (f : Nat → D) (gd : Gd k X) (hI : IterX X (.Name x px) iter Γ n it Γ1) (hn : n ≤ sizeLine) (ok : BlkOk X.N X.env.scope scope [(x, i)]) (hu : Γ1[i]? = some .un)
    (he : ∀ j, j < n → ∀ s H C cl fp, EX (bk X scope s H C cl fp) (Γ1.set i (.sh (it j))) elt (.sh (f j)) (Γ1.set i (.sh (it j)))) (hs : ∀ x, foldedSetIterable iter X.env x = pure x := by intro _; rfl) (hi : X.N[i]? = some x := by rfl) (hx : ∀ s H C cl fp, Loc (bk X scope s H C cl fp).env.scope x := by exact fun _ _ _ _ _ => Or.inl rfl)
    (hf : ∀ s H C cl fp, (bk X scope s H C cl fp).fn x = true ∨ (bk X scope s H C cl fp).env.scope.names.lookup x = some .local := by exact fun _ _ _ _ _ => Or.inr rfl) : EX X Γ (.ListComp elt [⟨.Name x px, iter, [], 0⟩] scope pos) (.ow (.lst ((List.range n).map f))) Γ1 := by
  rw [← took_all]
  exact e_lc gd (lcG i (fun _ => Γ1) (fun j => Γ1.set i (.sh (it j))) gd hI hn ok .refl (fun _ _ => hu) he (fun j _ => cv_reset hu) hi hx hf) hs
/-- .. with a test, without effect -/
theorem lcIf (i : Nat) (gd : Gd k X) (hI : IterX X (.Name x px) iter Γ n it Γ1) (hn : n ≤ sizeLine) (ok : BlkOk X.N X.env.scope scope [(x, i)]) (hu : Γ1[i]? = some .un)
    (ht : ∀ j, j < n → ∀ s H C cl fp, TX (bk X scope s H C cl fp) (Γ1.set i (.sh (it j))) c (t j) (Γ1.set i (.sh (it j))))
    (he : ∀ j, j < n → t j = true → ∀ s H C cl fp, EX (bk X scope s H C cl fp) (Γ1.set i (.sh (it j))) elt (.sh (f j)) (Γ1.set i (.sh (it j)))) (hi : X.N[i]? = some x := by rfl) (hx : ∀ s H C cl fp, Loc (bk X scope s H C cl fp).env.scope x := by exact fun _ _ _ _ _ => Or.inl rfl)
    (hf : ∀ s H C cl fp, (bk X scope s H C cl fp).fn x = true ∨ (bk X scope s H C cl fp).env.scope.names.lookup x = some .local := by exact fun _ _ _ _ _ => Or.inr rfl) : LcX X Γ (.Name x px) iter [c] elt scope [(x, i)] n t f Γ1 :=
  ⟨it, Γ1, gName i, fun _ => Γ1, fun j => Γ1.set i (.sh (it j)), fun j => Γ1.set i (.sh (it j)), fun j => Γ1.set i (.sh (it j)), hn, hI, ok, .refl, fun j hj => unAt1 hu, fun s H C cl fp => pg_name gd.nd hi (hx s H C cl fp) (hf s H C cl fp),
    fun j hj => tgt_name i (List.mem_singleton.mpr rfl) (List.getElem?_eq_some_iff.mp hu).1, .inr ⟨c, rfl, ht⟩, he, fun j hj _ => cv_reset hu, fun j hj _ => cv_reset hu, rfl⟩
/-! ### for x in ..: if c: return e -/
theorem s1_findN (i : Nat) (gd : Gd k X) {tb : List Stmt} {ep : Pos} (hI : IterX X (.Name x px) iter Γ n it Γ1) (hu : Γ1[i]? = some .un) (ht : ∀ j, j < n → TX X (Γ1.set i (.sh (it j))) c false (Γ1.set i (.sh (it j)))) (hs : ∀ x, foldedSetIterable iter X.env x = pure x := by intro _; rfl) (hi : X.N[i]? = some x := by rfl) (hx : Loc X.env.scope x := by first | exact Or.inl rfl | exact Or.inr rfl)
    (hf : X.fn x = true ∨ X.env.scope.names.lookup x = some .local := by first | exact .inl rfl | exact .inr rfl | assumption) : S1 X Γ (.For (.Name x px) iter [.If c tb [] ep] [] pos) (.nx Γ1) :=
  s1_for gd hI (fun _ => Γ1) (fun j => Γ1.set i (.sh (it j))) .refl (fun j hj => g_name i gd.nd (List.getElem?_eq_some_iff.mp hu).1 hi hx hf) (fun j hj => .inl (s_wk (s_ifN (ht j hj) s_nil) (cv_reset hu))) hs
theorem s1_findS (i m : Nat) (gd : Gd k X) {tb : List Stmt} {ep : Pos} {r : Rs} {Γ2 : Gm} (hI : IterX X (.Name x px) iter Γ n it Γ1) (hu : Γ1[i]? = some .un) (hm : m < n) (ht : ∀ j, j < m → TX X (Γ1.set i (.sh (it j))) c false (Γ1.set i (.sh (it j)))) (hT : TX X (Γ1.set i (.sh (it m))) c true (Γ1.set i (.sh (it m))))
    (hr : SX X (Γ1.set i (.sh (it m))) tb (.rt r Γ2)) (hs : ∀ x, foldedSetIterable iter X.env x = pure x := by intro _; rfl) (hi : X.N[i]? = some x := by rfl) (hx : Loc X.env.scope x := by first | exact Or.inl rfl | exact Or.inr rfl)
    (hf : X.fn x = true ∨ X.env.scope.names.lookup x = some .local := by first | exact .inl rfl | exact .inr rfl | assumption) : S1 X Γ (.For (.Name x px) iter [.If c tb [] ep] [] pos) (.rt r Γ2) :=
  s1_forX m gd hI (fun _ => Γ1) (fun j => Γ1.set i (.sh (it j))) .refl hm (fun j hj => g_name i gd.nd (List.getElem?_eq_some_iff.mp hu).1 hi hx hf) (fun j hj => .inl (s_wk (s_ifN (ht j hj) s_nil) (cv_reset hu))) (s_ifTE hT hr) (.inl ⟨r, Γ2, rfl, rfl⟩) hs
/-- the first place at which something holds -/
theorem first_or {n : Nat} (t : Nat → Bool) : (∃ m, m < n ∧ t m = true ∧ ∀ j, j < m → t j = false) ∨ ∀ j, j < n → t j = false := by
  induction n with
  | zero => exact .inr fun j hj => absurd hj (Nat.not_lt_zero _)
  | succ n ih =>
    rcases ih with ⟨m, h1, h2, h3⟩ | h
    · exact .inl ⟨m, Nat.lt_succ_of_lt h1, h2, h3⟩
    · cases e : t n with
      | true => exact .inl ⟨n, Nat.lt_succ_self _, e, h⟩
      | false =>
        refine .inr fun j hj => ?_
        rcases Nat.lt_succ_iff_lt_or_eq.mp hj with z | z
        · exact h j z
        · rw [z]; exact e
theorem find_firstX {t : Nat → Bool} {n m : Nat} (hm : m < n) (h : t m = true) (hf : ∀ j, j < m → t j = false) : (List.range n).find? t = some m := by
  rw [List.find?_range_eq_some]
  exact ⟨h, List.mem_range.mpr hm, fun j hj => by rw [hf j hj]; rfl⟩
theorem find_noneX {t : Nat → Bool} {n : Nat} (hf : ∀ j, j < n → t j = false) : (List.range n).find? t = none := by
  rw [List.find?_eq_none]
  intro x hx
  rw [hf x (List.mem_range.mp hx)]; decide
/-- for x in ..: if c: return e; then the rest -/
theorem s_search (i : Nat) (t : Nat → Bool) (r : Nat → Rs) (r0 : Rs) (gd : Gd k X) {tb rest : List Stmt} {ep : Pos} (hI : IterX X (.Name x px) iter Γ n it Γ1) (hu : Γ1[i]? = some .un) (ht : ∀ j, j < n → TX X (Γ1.set i (.sh (it j))) c (t j) (Γ1.set i (.sh (it j))))
    (hr : ∀ j, j < n → t j = true → ∃ Γ2, SX X (Γ1.set i (.sh (it j))) tb (.rt (r j) Γ2)) (h0 : ∃ Γ2, SX X Γ1 rest (.rt r0 Γ2)) (hs : ∀ x, foldedSetIterable iter X.env x = pure x := by intro _; rfl) (hi : X.N[i]? = some x := by rfl) (hx : Loc X.env.scope x := by first | exact Or.inl rfl | exact Or.inr rfl)
    (hf : X.fn x = true ∨ X.env.scope.names.lookup x = some .local := by first | exact .inl rfl | exact .inr rfl | assumption) : ∃ Γ2, SX X Γ (.For (.Name x px) iter [.If c tb [] ep] [] pos :: rest) (.rt (((List.range n).find? t).elim r0 r) Γ2) := by
  rcases first_or (n := n) t with ⟨m, hm, h1, h2⟩ | h2
  · obtain ⟨Γ2, h⟩ := hr m hm h1
    refine ⟨Γ2, ?_⟩
    rw [find_firstX hm h1 h2]
    exact s_end (s1_findS i m gd hI hu hm (fun j hj => h2 j hj ▸ ht j (Nat.lt_trans hj hm)) (h1 ▸ ht m hm) h hs hi hx hf)
  · obtain ⟨Γ2, h⟩ := h0
    refine ⟨Γ2, ?_⟩
    rw [find_noneX h2]
    exact s_cons (s1_findN i gd hI hu (fun j hj => h2 j hj ▸ ht j hj) hs hi hx hf) h
theorem e_fz {ds : List D} (h : EX X Γ elt (.ow (.lst ds)) Γ1) : EX X Γ elt (.sh (.lst ds)) Γ1 := e_frz h
theorem e_fo {C : Addr} {ns : List Str} {ds : List D} (h : EX X Γ elt (.ow (.ins C ns ds)) Γ1) : EX X Γ elt (.sh (.obj C ns ds)) Γ1 := e_frz h
theorem e_globS {x z : Str} {t : Tok} (hm : X.mg x = some (.str z t)) (hg : Gl X x := by rfl) (hd : (x == ("__debug__" : Str)) = false := by decide) : EX X Γ (.Name x pos) (.sh (.str z)) Γ := e_glob (v := .str z) hm ⟨_, rfl⟩ (fun _ => rfl) hg hd
theorem e_globI {x : Str} {z : Int} {t : Tok} (hm : X.mg x = some (.int z t)) (hg : Gl X x := by rfl) (hd : (x == ("__debug__" : Str)) = false := by decide) : EX X Γ (.Name x pos) (.sh (.int z)) Γ := e_glob (v := .int z) hm ⟨_, rfl⟩ (fun _ => rfl) hg hd
theorem e_globR {x : Str} {a : Addr} (hm : X.mg x = some (.ref a)) (hg : Gl X x := by rfl) (hd : (x == ("__debug__" : Str)) = false := by decide) : EX X Γ (.Name x pos) (.sh (.raw (.ref a))) Γ := e_glob (v := .ref a) hm rfl (fun _ => rfl) hg hd
theorem ends_ex {Γ : Gm} {body : List Stmt} {r : Rs} (h : ∃ Γ', SX X Γ body (.rt r Γ')) : ∃ Γ', Ends1 X Γ body r Γ' := h.elim fun Γ' h => ⟨Γ', .inl h⟩
theorem s_consE {Γ : Gm} {st : Stmt} {body : List Stmt} {r : Rs} (h1 : S1 X Γ st (.nx Γ1)) (h : ∃ Γ', SX X Γ1 body (.rt r Γ')) : ∃ Γ', SX X Γ (st :: body) (.rt r Γ') := h.elim fun Γ' h => ⟨Γ', s_cons h1 h⟩
theorem s_ex {Γ Γ' : Gm} {body : List Stmt} {r : Rs} (h : SX X Γ body (.rt r Γ')) : ∃ Γ', SX X Γ body (.rt r Γ') := ⟨Γ', h⟩
theorem ends_eq {Γ : Gm} {body : List Stmt} {r r' : Rs} (h : ∃ Γ', Ends1 X Γ body r Γ') (e : r = r') : ∃ Γ', Ends1 X Γ body r' Γ' := e ▸ h
theorem e_eq {r r' : Rs} (h : EX X Γ elt r Γ1) (e : r = r') : EX X Γ elt r' Γ1 := e ▸ h
theorem t_eq {b b' : Bool} (h : TX X Γ elt b Γ1) (e : b = b') : TX X Γ elt b' Γ1 := e ▸ h
end
end PL

set_option Elab.async false
set_option linter.all false
set_option maxRecDepth 100000
set_option maxHeartbeats 4000000
namespace PL
open PySem PySem.Spec PyProof.Rows L2
/-! ### texts, tuples and lists of texts, stripes, as data -/
abbrev dT (xs : List Str) : D := .tup (xs.map .str)
abbrev dL (xs : List Str) : D := .lst (xs.map .str)
abbrev dP (p : Str × Int) : D := .tup [.str p.1, .int p.2]
abbrev dS (ps : List (Str × Int)) : D := .tup (ps.map dP)
theorem itd_map {α : Type} (g : α → D) (xs : List α) (i : Nat) (h : i < xs.length) : itd (xs.map g) i = g xs[i] := by
  unfold itd
  rw [List.getD_eq_getElem?_getD, List.getElem?_map, List.getElem?_eq_getElem h]
  rfl
/-! ### comparing -/
theorem strs_flat : ∀ xs : List Str, D.flats (xs.map .str) = true
  | [] => rfl
  | x :: xs => strs_flat xs
theorem pairs_flat : ∀ ps : List (Str × Int), D.flats (ps.map dP) = true
  | [] => rfl
  | p :: ps => pairs_flat ps
theorem ints_flat : ∀ xs : List Int, D.flats (xs.map .int) = true
  | [] => rfl
  | x :: xs => ints_flat xs
theorem strs_py : ∀ xs : List Str, D.pys (xs.map .str) = xs.map .str
  | [] => rfl
  | x :: xs => by show D.py (.str x) :: D.pys (xs.map .str) = _; rw [strs_py xs]; rfl
theorem pairs_py : ∀ ps : List (Str × Int), D.pys (ps.map dP) = ps.map fun p => .tuple [.str p.1, .int p.2]
  | [] => rfl
  | x :: xs => by show D.py (dP x) :: D.pys (xs.map dP) = _; rw [pairs_py xs]; rfl
theorem ints_py : ∀ xs : List Int, D.pys (xs.map .int) = xs.map .int
  | [] => rfl
  | x :: xs => by show D.py (.int x) :: D.pys (xs.map .int) = _; rw [ints_py xs]; rfl
def okS (x : Str) : Prop := PyData.strOk x = true
theorem lay_strs : ∀ xs : List Str, (∀ x ∈ xs, okS x) → PyData.canLayAll0 (xs.map .str) = true ∧ PyData.depthAll (xs.map .str) = 0
  | [], _ => ⟨rfl, rfl⟩
  | x :: xs, h => by
    obtain ⟨h1, h2⟩ := lay_strs xs fun y hy => h y (List.mem_cons_of_mem _ hy)
    refine ⟨?_, ?_⟩
    · show (PyData.strOk x && PyData.canLayAll0 (xs.map .str)) = true
      rw [h1, show PyData.strOk x = true from h x (List.mem_cons_self ..)]; rfl
    · show max 0 (PyData.depthAll (xs.map .str)) = 0
      rw [h2]; rfl
theorem lay_ints : ∀ xs : List Int, PyData.canLayAll0 (xs.map .int) = true ∧ PyData.depthAll (xs.map .int) = 0
  | [] => ⟨rfl, rfl⟩
  | x :: xs => by
    obtain ⟨h1, h2⟩ := lay_ints xs
    refine ⟨h1, ?_⟩
    show max 0 (PyData.depthAll (xs.map .int)) = 0
    rw [h2]; rfl
theorem lay_pairs : ∀ ps : List (Str × Int), (∀ p ∈ ps, okS p.1) → PyData.canLayAll0 (ps.map fun p => .tuple [.str p.1, .int p.2]) = true ∧ PyData.depthAll (ps.map fun p => .tuple [.str p.1, .int p.2]) ≤ 1
  | [], _ => ⟨rfl, Nat.zero_le _⟩
  | x :: xs, h => by
    obtain ⟨h1, h2⟩ := lay_pairs xs fun y hy => h y (List.mem_cons_of_mem _ hy)
    refine ⟨?_, ?_⟩
    · show ((PyData.strOk x.1 && (true && true)) && PyData.canLayAll0 (xs.map fun p => .tuple [.str p.1, .int p.2])) = true
      rw [h1, show PyData.strOk x.1 = true from h x (List.mem_cons_self ..)]; rfl
    · show max 1 (PyData.depthAll (xs.map fun p => .tuple [.str p.1, .int p.2])) ≤ 1
      omega
theorem shaped_of {d : PyData} (h1 : d.canLay0 = true) (h2 : d.depth ≤ 64) : SeqAt.shaped d = true := by
  unfold SeqAt.shaped
  rw [h1, decide_eq_true h2]; rfl
theorem cmp_dT {xs : List Str} (h : ∀ x ∈ xs, okS x) : Cmp (dT xs) := by
  refine ⟨strs_flat xs, ?_⟩
  show SeqAt.shaped (.tuple (D.pys (xs.map .str))) = true
  rw [strs_py]
  obtain ⟨h1, h2⟩ := lay_strs xs h
  exact shaped_of h1 (by show PyData.depthAll _ + 1 ≤ 64; rw [h2]; decide)
theorem cmp_dL {xs : List Str} (h : ∀ x ∈ xs, okS x) : Cmp (dL xs) := by
  refine ⟨strs_flat xs, ?_⟩
  show SeqAt.shaped (.list (D.pys (xs.map .str))) = true
  rw [strs_py]
  obtain ⟨h1, h2⟩ := lay_strs xs h
  exact shaped_of h1 (by show PyData.depthAll _ + 1 ≤ 64; rw [h2]; decide)
theorem cmp_dS {ps : List (Str × Int)} (h : ∀ p ∈ ps, okS p.1) : Cmp (dS ps) := by
  refine ⟨pairs_flat ps, ?_⟩
  show SeqAt.shaped (.tuple (D.pys (ps.map dP))) = true
  rw [pairs_py]
  obtain ⟨h1, h2⟩ := lay_pairs ps h
  exact shaped_of h1 (by show PyData.depthAll _ + 1 ≤ 64; omega)
theorem cmp_dSl {ps : List (Str × Int)} (h : ∀ p ∈ ps, okS p.1) : Cmp (.lst (ps.map dP)) := by
  refine ⟨pairs_flat ps, ?_⟩
  show SeqAt.shaped (.list (D.pys (ps.map dP))) = true
  rw [pairs_py]
  obtain ⟨h1, h2⟩ := lay_pairs ps h
  exact shaped_of h1 (by show PyData.depthAll _ + 1 ≤ 64; omega)
theorem cmp_t0 : Cmp (.tup []) := ⟨rfl, rfl⟩
theorem cmp_l0 : Cmp (.lst []) := ⟨rfl, rfl⟩
theorem eqvAll_strs : ∀ xs ys : List Str, PyData.eqvAll (xs.map .str) (ys.map .str) = decide (xs = ys)
  | [], [] => rfl
  | [], y :: ys => rfl
  | x :: xs, [] => rfl
  | x :: xs, y :: ys => by
    show ((x == y) && PyData.eqvAll (xs.map .str) (ys.map .str)) = _
    rw [eqvAll_strs xs ys]
    by_cases h : x = y
    · subst h
      rw [beq_self_eq_true, Bool.true_and]
      by_cases h2 : xs = ys
      · subst h2; simp
      · rw [decide_eq_false h2, decide_eq_false (fun e => h2 (List.cons.inj e).2)]
    · rw [beq_eq_false_iff_ne.mpr h, Bool.false_and, decide_eq_false (fun e => h (List.cons.inj e).1)]
theorem eqv_dT (xs ys : List Str) : PyData.eqv (dT xs).py (dT ys).py = decide (xs = ys) := by
  show PyData.eqvAll (D.pys (xs.map .str)) (D.pys (ys.map .str)) = _
  rw [strs_py, strs_py, eqvAll_strs]
theorem eqv_dL (xs ys : List Str) : PyData.eqv (dL xs).py (dL ys).py = decide (xs = ys) := by
  show PyData.eqvAll (D.pys (xs.map .str)) (D.pys (ys.map .str)) = _
  rw [strs_py, strs_py, eqvAll_strs]
section
variable {X : Cx}
theorem o_eqT {xs ys : List Str} (hu : X.A.units + 64 < cLine) (h1 : ∀ x ∈ xs, okS x) (h2 : ∀ x ∈ ys, okS x) : OpS X (compareOp .Eq) (dT xs) (dT ys) (.sh (.bl (decide (xs = ys)))) := by
  have h := o_eqD hu (cmp_dT h1) (cmp_dT h2)
  rw [eqv_dT] at h
  exact h
theorem o_neT {xs ys : List Str} (hu : X.A.units + 64 < cLine) (h1 : ∀ x ∈ xs, okS x) (h2 : ∀ x ∈ ys, okS x) : OpS X (compareOp .NotEq) (dT xs) (dT ys) (.sh (.bl (!decide (xs = ys)))) := by
  have h := o_neD hu (cmp_dT h1) (cmp_dT h2)
  rw [eqv_dT] at h
  exact h
theorem o_eqL {xs ys : List Str} (hu : X.A.units + 64 < cLine) (h1 : ∀ x ∈ xs, okS x) (h2 : ∀ x ∈ ys, okS x) : OpS X (compareOp .Eq) (dL xs) (dL ys) (.sh (.bl (decide (xs = ys)))) := by
  have h := o_eqD hu (cmp_dL h1) (cmp_dL h2)
  rw [eqv_dL] at h
  exact h
theorem o_neL {xs ys : List Str} (hu : X.A.units + 64 < cLine) (h1 : ∀ x ∈ xs, okS x) (h2 : ∀ x ∈ ys, okS x) : OpS X (compareOp .NotEq) (dL xs) (dL ys) (.sh (.bl (!decide (xs = ys)))) := by
  have h := o_neD hu (cmp_dL h1) (cmp_dL h2)
  rw [eqv_dL] at h
  exact h
/-- t == (): of a tuple of data that are compared -/
theorem o_eqT0 {ds : List D} (hu : X.A.units + 64 < cLine) (h1 : Cmp (.tup ds)) : OpS X (compareOp .Eq) (.tup ds) (.tup []) (.sh (.bl ds.isEmpty)) := by
  have h := o_eqD hu h1 cmp_t0
  rw [show PyData.eqv (D.tup ds).py (D.tup []).py = ds.isEmpty by cases ds <;> rfl] at h
  exact h
theorem o_neL0 {ds : List D} (hu : X.A.units + 64 < cLine) (h1 : Cmp (.lst ds)) : OpS X (compareOp .NotEq) (.lst ds) (.lst []) (.sh (.bl (!ds.isEmpty))) := by
  have h := o_neD hu h1 cmp_l0
  rw [show PyData.eqv (D.lst ds).py (D.lst []).py = ds.isEmpty by cases ds <;> rfl] at h
  exact h
/-! ### x in a list of texts -/
theorem flat_strs (xs : List Str) : (xs.map V.str).all flatV = true := by
  rw [List.all_eq_true]
  intro v hv
  obtain ⟨x, _, rfl⟩ := List.mem_map.mp hv
  rfl
theorem inV_strs (x : Str) : ∀ xs : List Str, inV (.str x) (xs.map V.str) = decide (x ∈ xs)
  | [] => rfl
  | y :: ys => by
    show ((y == x) || inV (.str x) (ys.map V.str)) = _
    rw [inV_strs x ys]
    by_cases h : y = x
    · subst h; simp
    · have h2 : x ≠ y := fun e => h e.symm
      rw [beq_eq_false_iff_ne.mpr h, Bool.false_or]
      simp [h2]
theorem o_inL {x : Str} {xs : List Str} : OpS X (compareOp .In) (.str x) (dL xs) (.sh (.bl (decide (x ∈ xs)))) := ops_sc op_in_seq (.bl _) (fun _ => rfl) fun H S v y Q s r1 r2 q => by
  obtain ⟨p, vs, rfl, h1, h2⟩ := r2
  rw [h2.strs] at h1
  obtain rfl : v = .str x := r1
  refine ⟨p, _, rfl, .inl (.of (s _ _ h1)), rfl, flat_strs xs, ?_⟩
  rw [if_neg (by decide), inV_strs]
  exact q
theorem o_ninL {x : Str} {xs : List Str} : OpS X (compareOp .NotIn) (.str x) (dL xs) (.sh (.bl (!decide (x ∈ xs)))) := ops_sc op_notIn_seq (.bl _) (fun _ => rfl) fun H S v y Q s r1 r2 q => by
  obtain ⟨p, vs, rfl, h1, h2⟩ := r2
  rw [h2.strs] at h1
  obtain rfl : v = .str x := r1
  refine ⟨p, _, rfl, .inl (.of (s _ _ h1)), rfl, flat_strs xs, ?_⟩
  rw [if_pos rfl, inV_strs]
  exact q
/-! ### typed items and slices -/
theorem atI_map {α β : Type} (g : α → β) (xs : List α) (i : Int) : atI (xs.map g) i = (atI xs i).map g := by
  unfold atI
  rw [List.length_map]
  cases ixN xs.length i with
  | none => rfl
  | some j => show (xs.map g)[j]? = _; rw [List.getElem?_map]; rfl
theorem i_dT {xs : List Str} {i : Int} {x : Str} (h : atI xs i = some x) : IxS X (dT xs) (.int i) (.sh (.str x)) := i_tup (by rw [atI_map, h]; rfl)
theorem i_dL {xs : List Str} {i : Int} {x : Str} (h : atI xs i = some x) : IxS X (dL xs) (.int i) (.sh (.str x)) := i_list (by rw [atI_map, h]; rfl)
theorem cut_map {α β : Type} (g : α → β) (xs : List α) (lo hi : Option Int) : cutL (xs.map g) lo hi = (cutL xs lo hi).map g := by
  unfold cutL
  rw [List.length_map, List.map_take, List.map_drop]
theorem l_dT {xs : List Str} {lo hi : Option Int} : SlS X (dT xs) lo hi (.sh (dT (cutL xs lo hi))) := by
  have h := l_tup (X := X) (ds := xs.map .str) (lo := lo) (hi := hi)
  rw [cut_map] at h
  exact h
theorem l_dL {xs : List Str} {lo hi : Option Int} : SlS X (dL xs) lo hi (.ow (.lst ((cutL xs lo hi).map .str))) := by
  have h := l_list (X := X) (ds := xs.map .str) (lo := lo) (hi := hi)
  rw [cut_map] at h
  exact h
theorem o_dTcat {xs ys : List Str} (hl : xs.length + ys.length ≤ sizeLine) : OpS X (binaryOp .Add) (dT xs) (dT ys) (.sh (dT (xs ++ ys))) := by
  have h := o_catT (X := X) (ds := xs.map .str) (es := ys.map .str) (by simpa using hl)
  rw [← List.map_append] at h
  exact h
theorem o_dLcat {xs ys : List Str} (hl : xs.length + ys.length ≤ sizeLine) : OpS X (binaryOp .Add) (dL xs) (dL ys) (.ow (.lst ((xs ++ ys).map .str))) := by
  have h := o_catL (X := X) (ds := xs.map .str) (es := ys.map .str) (by simpa using hl)
  rw [← List.map_append] at h
  exact h
theorem pickB_map {α β : Type} (g : α → β) (xs : List α) (lo hi : Option Int) : pickB (xs.map g) lo hi = (pickB xs lo hi).map g := by
  unfold pickB
  rw [List.length_map, List.map_filterMap]
  congr 1
  funext k
  rw [List.getElem?_map]
variable {Γ Γ1 Γ2 Γ3 : Gm} {a : Ex} {lo hi : Option Ex} {i j : Option Int} {k : Nat} {p1 p2 p3 pos : Pos}
theorem e_backD {xs : List Str} (h : EX X Γ a (.sh (dT xs)) Γ1) (hl : PX X Γ1 lo i Γ2) (hh : PX X Γ2 hi j Γ3) : EX X Γ (.Subscript a (.Slice lo hi (some (.UnaryOp .USub (.Constant (.int 1) k p1) p2)) p3) pos) (.sh (dT (pickB xs i j))) Γ3 := by
  have z := e_backT (k := k) (p1 := p1) (p2 := p2) (p3 := p3) (pos := pos) h hl hh
  rw [pickB_map] at z
  exact z
theorem e_revD {xs : List Str} (h : EX X Γ a (.sh (dL xs)) Γ1) : EX X Γ (.Subscript a (.Slice none none (some (.UnaryOp .USub (.Constant (.int 1) k p1) p2)) p3) pos) (.ow (.lst (xs.reverse.map .str))) Γ1 := by
  have z := e_revL (k := k) (p1 := p1) (p2 := p2) (p3 := p3) (pos := pos) h
  rw [← List.map_reverse] at z
  exact z
end
/-! ### slices of the usual forms -/
theorem cut_from {α : Type} (xs : List α) (k : Nat) : cutL xs (some (k : Int)) none = xs.drop k := by
  unfold cutL
  rw [HT.sIx_nat, HT.sIx_none]
  by_cases h : k ≤ xs.length
  · rw [Nat.min_eq_left h, List.take_of_length_le (by rw [List.length_drop]; omega)]
  · rw [Nat.min_eq_right (by omega), List.drop_of_length_le (Nat.le_refl _), List.drop_of_length_le (by omega), List.take_nil]
theorem cut_to {α : Type} (xs : List α) (k : Nat) : cutL xs none (some (k : Int)) = xs.take k := by
  unfold cutL
  rw [HT.sIx_nat, HT.sIx_none, List.drop_zero, Nat.sub_zero]
  by_cases h : k ≤ xs.length
  · rw [Nat.min_eq_left h]
  · rw [Nat.min_eq_right (by omega), List.take_of_length_le (Nat.le_refl _), List.take_of_length_le (by omega)]
theorem sIx_m1 (n d : Nat) : HT.sIx n d (some (-1)) = n - 1 := by
  show (if (-1 : Int) < 0 then (-1 + (n : Int)).toNat else min (-1 : Int).toNat n) = n - 1
  rw [if_pos (by decide)]; omega
theorem cut_init {α : Type} (xs : List α) : cutL xs none (some (-1)) = xs.dropLast := by
  unfold cutL
  rw [sIx_m1, HT.sIx_none, List.drop_zero, Nat.sub_zero, List.dropLast_eq_take]
theorem cut_mid {α : Type} (xs : List α) : cutL xs (some 1) (some (-1)) = (xs.drop 1).dropLast := by
  unfold cutL
  rw [sIx_m1, show HT.sIx xs.length 0 (some 1) = min 1 xs.length from HT.sIx_nat xs.length 0 1, List.dropLast_eq_take, List.length_drop]
  cases xs with
  | nil => rfl
  | cons x r => rw [show min 1 (x :: r).length = 1 by rw [List.length_cons]; omega]
theorem cut_1 {α : Type} (xs : List α) : cutL xs (some 1) none = xs.drop 1 := cut_from xs 1
end PL

set_option Elab.async false
set_option linter.all false
set_option maxRecDepth 100000
set_option maxHeartbeats 4000000
/-! plain functions that say what the program's defs compute -/
namespace PL
open PySem PySem.Spec PyProof.Rows L2
def letters : Str := "abcdefghijklmnopqrstuvwxyz"
def wholeB : D → Bool
  | .int _ => true
  | _ => false
def wordB (x : Str) (most : Int) : Bool := decide ((1 : Int) ≤ x.length) && decide ((x.length : Int) ≤ most) && (List.range x.cps.size).all fun i => decide (x.cps.getD i 0 ∈ letters.cps.toList)
def wordD (most : Int) : D → Bool
  | .str x => wordB x most
  | _ => false
/-- plain data whose texts are of a size that the machine knows -/
def Pl : D → Prop
  | .str x => x.length ≤ sizeLine
  | d => d.plain = true
theorem Pl.plain {d : D} (h : Pl d) : d.plain = true := by cases d <;> first | rfl | exact h
abbrev shadeD (d : D) : Bool := wordD 3 d
abbrev shadeB (x : Str) : Bool := wordB x 3
/-- a good stripe -/
def okStripe (p : Str × Int) : Prop := shadeB p.1 = true ∧ 0 < p.2
theorem shade_len {x : Str} (h : shadeB x = true) : 1 ≤ x.length ∧ x.length ≤ 3 := by
  have h1 : (decide ((1 : Int) ≤ x.length) && decide ((x.length : Int) ≤ 3)) = true := (Bool.and_eq_true_iff.mp h).1
  have h2 := of_decide_eq_true (Bool.and_eq_true_iff.mp h1).1
  have h3 := of_decide_eq_true (Bool.and_eq_true_iff.mp h1).2
  omega
theorem shade_pl {x : Str} (h : shadeB x = true) : Pl (.str x) := by
  have := (shade_len h).2
  show x.length ≤ sizeLine
  have : (3 : Nat) ≤ sizeLine := by decide
  omega
theorem letters_small : ∀ c ∈ letters.cps.toList, c < 1114112 := by decide +kernel
theorem shade_ok {x : Str} (h : shadeB x = true) : okS x := by
  have h1 := (Bool.and_eq_true_iff.mp h).2
  rw [List.all_eq_true] at h1
  show x.cps.all (· < 0x110000) = true
  rw [Array.all_eq_true]
  intro i hi
  have h2 := of_decide_eq_true (h1 i (List.mem_range.mpr hi))
  have h3 := letters_small _ h2
  rw [Array.getD_eq_getD_getElem?, Array.getElem?_eq_getElem hi] at h3
  exact decide_eq_true h3
def Shs (ts : List Str) : Prop := ∀ t ∈ ts, shadeB t = true
theorem Shs.ok {ts : List Str} (h : Shs ts) : ∀ t ∈ ts, okS t := fun t ht => shade_ok (h t ht)
def tot (ps : List (Str × Int)) : Int := (ps.map (·.2)).sum
structure OkSt (ps : List (Str × Int)) : Prop where
  ne : ps ≠ []
  ok : ∀ p ∈ ps, okStripe p
  le : tot ps ≤ 240
def thr (ps : List (Str × Int)) : List Str := ps.flatMap fun p => List.replicate p.2.toNat p.1
theorem tot_nonneg : ∀ {ps : List (Str × Int)}, (∀ p ∈ ps, 0 < p.2) → 0 ≤ tot ps
  | [], _ => Int.le_refl _
  | p :: ps, h => by
    have h1 := h p (List.mem_cons_self ..)
    have h2 := tot_nonneg fun q hq => h q (List.mem_cons_of_mem _ hq)
    show 0 ≤ ((p :: ps).map (·.2)).sum
    rw [List.map_cons, List.sum_cons]
    unfold tot at h2
    omega
theorem tot_take {ps : List (Str × Int)} (h : ∀ p ∈ ps, 0 < p.2) (j : Nat) : tot (ps.take j) ≤ tot ps := by
  have h2 := tot_nonneg (ps := ps.drop j) fun q hq => h q (List.mem_of_mem_drop hq)
  have e : tot ps = tot (ps.take j) + tot (ps.drop j) := by
    unfold tot
    rw [← List.sum_append, ← List.map_append, List.take_append_drop]
  omega
theorem tot_succ {ps : List (Str × Int)} {j : Nat} (h : j < ps.length) : tot (ps.take (j + 1)) = tot (ps.take j) + ps[j].2 := by
  unfold tot
  rw [List.take_succ_eq_append_getElem h, List.map_append, List.sum_append]
  simp
theorem thr_len : ∀ {ps : List (Str × Int)}, (∀ p ∈ ps, 0 < p.2) → ((thr ps).length : Int) = tot ps
  | [], _ => rfl
  | p :: ps, h => by
    have h1 := h p (List.mem_cons_self ..)
    have h2 := thr_len fun q hq => h q (List.mem_cons_of_mem _ hq)
    show (((p :: ps).flatMap fun p => List.replicate p.2.toNat p.1).length : Int) = ((p :: ps).map (·.2)).sum
    rw [List.flatMap_cons, List.length_append, List.length_replicate, List.map_cons, List.sum_cons]
    unfold thr tot at h2
    omega
theorem thr_succ {ps : List (Str × Int)} {j : Nat} (h : j < ps.length) : thr (ps.take (j + 1)) = thr (ps.take j) ++ List.replicate (ps[j].2).toNat ps[j].1 := by
  unfold thr
  rw [List.take_succ_eq_append_getElem h, List.flatMap_append]
  simp
theorem thr_shs {ps : List (Str × Int)} (h : ∀ p ∈ ps, okStripe p) : Shs (thr ps) := fun t ht => by
  obtain ⟨p, hp, hm⟩ := List.mem_flatMap.mp ht
  rw [List.mem_replicate] at hm
  rw [hm.2]; exact (h p hp).1
/-! ### merging -/
def mrgStep (acc : List (Str × Int)) (s : Str) : List (Str × Int) := match acc.getLast? with
  | some (t, n) => if t = s then acc.dropLast ++ [(s, n + 1)] else acc ++ [(s, 1)]
  | none => [(s, 1)]
def mrg (ts : List Str) : List (Str × Int) := ts.foldl mrgStep []
theorem mrg_snoc (ts : List Str) (s : Str) : mrg (ts ++ [s]) = mrgStep (mrg ts) s := by unfold mrg; rw [List.foldl_append]; rfl
/-! ### the least round -/
def perAt (ts : List Str) (k : Nat) : Bool := decide (ts.length % k = 0) && decide (ts.drop k = ts.take (ts.length - k))
def lr (ts : List Str) : Nat := (((List.range (ts.length - 1)).find? fun i => perAt ts (i + 1)).map (· + 1)).getD ts.length
theorem find_first {t : Nat → Bool} {n m : Nat} (hm : m < n) (h : t m = true) (hf : ∀ j, j < m → t j = false) : (List.range n).find? t = some m := by
  rw [List.find?_range_eq_some]
  exact ⟨h, List.mem_range.mpr hm, fun j hj => by rw [hf j hj]; rfl⟩
theorem find_none' {t : Nat → Bool} {n : Nat} (hf : ∀ j, j < n → t j = false) : (List.range n).find? t = none := by
  rw [List.find?_eq_none]
  intro x hx
  rw [hf x (List.mem_range.mp hx)]; decide
def pivotW (ts : List Str) : List Str := ts ++ ((ts.drop 1).dropLast).reverse
def foldW (ts : List Str) : List Str := ts ++ ts.reverse
def leftW (ts : List Str) : List Str := ts ++ (ts.drop 1).reverse
def rightW (ts : List Str) : List Str := ts ++ ts.dropLast.reverse
inductive Mnr where | run | pivot | fold | left | right
def Mnr.s : Mnr → Str
  | .run => "run" | .pivot => "pivot" | .fold => "fold" | .left => "left" | .right => "right"
def Mnr.f : Mnr → Str
  | .run => "run_word" | .pivot => "pivot_word" | .fold => "fold_word" | .left => "left_word" | .right => "right_word"
def layW : Mnr → List Str → List Str
  | .run => id | .pivot => pivotW | .fold => foldW | .left => leftW | .right => rightW
theorem layW_len (m : Mnr) (ts : List Str) : (layW m ts).length ≤ 2 * ts.length := by
  cases m <;> simp [layW, pivotW, foldW, leftW, rightW] <;> omega
theorem layW_shs (m : Mnr) {ts : List Str} (h : Shs ts) : Shs (layW m ts) := by
  intro t ht
  have key : t ∈ ts := by
    cases m with
    | run => exact ht
    | pivot =>
      rcases List.mem_append.mp ht with z | z
      · exact z
      · exact List.mem_of_mem_drop (List.dropLast_subset _ (List.mem_reverse.mp z))
    | fold =>
      rcases List.mem_append.mp ht with z | z
      · exact z
      · exact List.mem_reverse.mp z
    | left =>
      rcases List.mem_append.mp ht with z | z
      · exact z
      · exact List.mem_of_mem_drop (List.mem_reverse.mp z)
    | right =>
      rcases List.mem_append.mp ht with z | z
      · exact z
      · exact List.dropLast_subset _ (List.mem_reverse.mp z)
  exact h t key
theorem layW_pos (m : Mnr) {ts : List Str} (h : 0 < ts.length) : 0 < (layW m ts).length := by
  cases m <;> simp [layW, pivotW, foldW, leftW, rightW] <;> omega
/-- a round's threads -/
def spin (wd : List Str) (n : Nat) (st : Int) : List Str := (List.range n).map fun (i : Nat) => wd.getD (((i : Int) + st) % (n : Int)).toNat default
def rowK (ps : List (Str × Int)) (m : Mnr) (st : Int) : List Str := spin (layW m (thr ps)) (lr (layW m (thr ps))) st
theorem lr_pos {ts : List Str} (h : 0 < ts.length) : 0 < lr ts := by
  unfold lr
  cases e : (List.range (ts.length - 1)).find? fun i => perAt ts (i + 1) with
  | none => exact h
  | some m => exact Nat.succ_pos _
theorem lr_le (ts : List Str) : lr ts ≤ ts.length := by
  unfold lr
  cases e : (List.range (ts.length - 1)).find? fun i => perAt ts (i + 1) with
  | none => exact Nat.le_refl _
  | some m =>
    have := List.mem_range.mp (List.mem_of_find?_eq_some e)
    show m + 1 ≤ ts.length
    omega
end PL

set_option Elab.async false
set_option linter.all false
set_option maxRecDepth 100000
set_option maxHeartbeats 1000000
/-! methods, constructors with defaults, calls by keywords -/
namespace PL
open PySem PySem.Spec PyProof.Rows L2
/-- a class's method as it stands -/
structure Dm (K : PySem.W.Frag) (C : Addr) (m qual : Str) (st : Stmt) (dvs : List V) : Prop where
  ex : ∃ f fd, FunD K m qual (defArgs st) (defBody st) (defScope st) dvs [] f fd ∧ Meth K C m f
structure M0 (Pg : Program) (w : World) (K : PySem.W.Frag) (mg : Str → Option Value) (base : Heap) (C : Addr) (m : Str) (j : Nat) (ps : List Str) (P : List D → Rs → Prop) : Prop where
  ex : ∃ f fd, Meth K C m f ∧ Binds K fd ps [] ∧ FnOk Pg w K mg base (L2.CX Pg w) j f fd ps (sp0 K P)
def BindsM (m qual : Str) (st : Stmt) (ps : List Str) : Prop := ∀ (kV doc pm : Value) (an : Option Addr) (cdv ct : Value) (us : List Value), us.length = ps.length → bindArgs (PySem.W.fnOf m qual (defArgs st) (defBody st) (defScope st) .none kV doc pm an cdv ct) ⟨us, []⟩ = pure (ps.zip us)
section
variable {Pg : Program} {w : World} {K : PySem.W.Frag} {mg : Str → Option Value} {base : Heap} {C : Addr} {m qual : Str} {st : Stmt} {N ps : List Str} {k : Nat}
theorem m0_mk {P : List D → Rs → Prop} (Dd : Dm K C m qual st []) (Sc : FnScope N ps (defScope st)) (bd : BindsM m qual st ps) (hn : ps.length ≤ N.length) (hl : ∀ ds r, P ds r → ds.length = ps.length ∧ ∀ j, r ≠ .br j)
    (hb : ∀ f cd A outer s H E, Gd k (cx Pg w K mg base N qual (defScope st) f cd A outer s H E) → ∀ ds r, P ds r → ∃ Γ', Ends1 (cx Pg w K mg base N qual (defScope st) f cd A outer s H E) (ent N ds) (defBody st) r Γ') : M0 Pg w K mg base C m (k + 1) ps P := by
  obtain ⟨f, fd, FD, gm⟩ := Dd.ex
  exact ⟨f, fd, gm, FD.bindsN bd, fn0 FD Sc (fun ds r p => (hl ds r p).1) hn (fun ds r p => (hl ds r p).2) (hb f)⟩
/-- a class's __init__ as it stands; its last n parameters have defaults -/
structure Di (K : PySem.W.Frag) (C : Addr) (qual : Str) (st : Stmt) (dvs : List V) : Prop where
  ex : ∃ f fd, FunD K "__init__" qual (defArgs st) (defBody st) (defScope st) dvs [] f fd ∧ Mk K C f
/-- a class that is called: values for all parameters, or so few that dds fill up -/
structure K1 (Pg : Program) (w : World) (K : PySem.W.Frag) (mg : Str → Option Value) (base : Heap) (x : Str) (C : Addr) (j : Nat) (ps : List Str) (dvss : List (List V)) (P : Ob → List D → Rs → Ob → Prop) : Prop where
  ex : ∃ f fd, mg x = some (.ref C) ∧ Mk K C f ∧ FnOk Pg w K mg base (L2.CX Pg w) j f fd ps (sp1 K P) ∧ ∀ dvs ∈ dvss, ∃ dv, Vals dvs dv ∧ Binds K fd ps dv
end
section
variable {X : Cx} {Γ Γ1 Γ2 : Gm} {e o : Ex} {es : List Ex} {p pos apos : Pos} {r : Rs} {ds dds : List D} {j k : Nat} {ps : List Str} {x m : Str} {C : Addr} {ns : List Str} {fs : List D} {pl : Sem Bool}
theorem e_m00 {P : List D → Rs → Prop} (G : M0 X.prog X.w X.K X.mg X.base C m j ps P) (c : Cls X.K C) (g : Gd k X) (ho : EX X Γ o (.sh (.obj C ns fs)) Γ1) (hp : P [.obj C ns fs] r) (hno : (ns.zip fs).lookup m = none := by rfl) (hk : j ≤ k := by decide)
    (ht : eval (.Call (.Attribute o m apos) [] [] pos) X.env = (do
      let ov ← eval o X.env
      standAt apos.atName
      let (f, first) ← holding [ov] (getMethod ov m pl)
      callWith pos f first (backTo pos (starEach [] X.env)) (backToKw pos (keywordEach [] X.env))) := by rfl) : EX X Γ (.Call (.Attribute o m apos) [] [] pos) r Γ1 := by
  obtain ⟨f, fd, hm, b, F⟩ := G.ex
  exact e_meth0 (dds := []) F c hm g ho hno hp b .nil (fun _ => rfl) hk ht
theorem e_m0 {P : List D → Rs → Prop} (G : M0 X.prog X.w X.K X.mg X.base C m j ps P) (c : Cls X.K C) (g : Gd k X) (ho : EX X Γ o (.sh (.obj C ns fs)) Γ1) (ha : AX X Γ1 (e :: es) ds Γ2) (hp : P (.obj C ns fs :: ds) r) (hno : (ns.zip fs).lookup m = none := by rfl) (hk : j ≤ k := by decide)
    (hst : starEach (e :: es) X.env = (false, eval e X.env) :: starEach es X.env := by rfl) (hpl : (backTo pos (starEach es X.env)).any (·.1) = false := by rfl)
    (ht : eval (.Call (.Attribute o m apos) (e :: es) [] pos) X.env = (do
      let ov ← eval o X.env
      standAt apos.atName
      let (f, first) ← holding [ov] (getMethod ov m pl)
      callWith pos f first (backTo pos (starEach (e :: es) X.env)) (backToKw pos (keywordEach [] X.env))) := by rfl) : EX X Γ (.Call (.Attribute o m apos) (e :: es) [] pos) r Γ2 := by
  obtain ⟨f, fd, hm, b, F⟩ := G.ex
  exact e_meth (dds := []) F c hm g ho hno ha (by rw [List.append_nil]; exact hp) b .nil (fun _ => rfl) hk hst hpl ht
theorem e_k1 {P : Ob → List D → Rs → Ob → Prop} {o' : Ob} {dvss : List (List V)} (dvs : List V) (G : K1 X.prog X.w X.K X.mg X.base x C j ps dvss P) (g : Gd k X) (ha : AX X Γ (e :: es) ds Γ1) (hp : P (.ins C [] []) (ds ++ dds) (.sh .non) o') (hdd : ∀ S, Reps X.K S dds dvs) (hmem : dvs ∈ dvss := by decide)
    (hk : j + 1 ≤ k := by decide) (hg : Gl X x := by rfl) (hdb : (x == ("__debug__" : Str)) = false := by decide) (he : starEach (e :: es) X.env = (false, eval e X.env) :: starEach es X.env := by rfl) (hpl : (backTo pos (starEach es X.env)).any (·.1) = false := by rfl) : EX X Γ (.Call (.Name x p) (e :: es) [] pos) (.ow o') Γ1 := by
  obtain ⟨f, fd, hm, M, F, hb⟩ := G.ex
  obtain ⟨dv, v, b⟩ := hb dvs hmem
  exact e_make M F hm g ha hp b v hdd hk hg hdb he hpl
/-! ### f(e), e a new object that f may change -/
theorem e_c1n {P : Ob → List D → Rs → Ob → Prop} {ob o' : Ob} (G : C1 X.prog X.w X.K X.mg X.base x j ps P) (g : Gd k X) (h : EX X Γ e (.ow ob) Γ1) (hp : P ob [] r o') (hk : j ≤ k := by decide) (hg : Gl X x := by rfl)
    (hdb : (x == ("__debug__" : Str)) = false := by decide) (he : starEach [e] X.env = (false, eval e X.env) :: starEach [] X.env := by rfl) (hpl : (backTo pos (starEach [] X.env)).any (·.1) = false := by rfl) : EX X Γ (.Call (.Name x p) [e] [] pos) r Γ1 := fun F σ H S Q R q => by
  obtain ⟨f, fd, gm, kp, b, Fo⟩ := G.ex
  refine pe_we (pe_call Fo (g.rm.mono hk) hg gm kp b .nil passL (pa_cons we_pe pa_nil he) hdb he hpl) (h F σ H S _ R fun v H1 S1 R1 s1 ok => ?_)
  obtain ⟨a, rfl, n1, n2, obr, no⟩ := ok
  refine ⟨S1, ob, [], r, o', a, [], hp, rfl, R1.sh, n1, obr, rfl, fun v H2 S2 t n3 ob3 => ?_⟩
  obtain ⟨R2, ok2⟩ := R1.after t (fun b z => .inr (by rw [z]; exact n2)) rfl fun i s es => .inl ⟨es, fun b ow z => no ⟨i, by rw [← z]; exact ow⟩⟩
  exact q v H2 S2 R2 (s1.trans t.ss) ok2
/-! ### f(k = v) -/
theorem pe_callK0 {CX : CXT} {f : Addr} {fd : FuncData} {ks : List Str} {sp : Sp} {E : XK} {kws : List Keyword} {tk : TA} {gg : List Value → List Value → List Value} {gV : List V → List V → List V} (F : FnOk X.prog X.w X.K X.mg X.base CX j f fd ps sp) (hr : Room j X.A) (hg : Gl X x) (hm : X.mg x = some (.ref f)) (hk : PySem.W.keepIn X.K (.ref f) = true) (hb : KBinds X.K fd ps ks gg gV) (hx : Passes CX X E)
    (hkw : PK X kws tk) (hall : (backToKw pos (keywordEach kws X.env)).all (·.1.isSome) = true := by rfl) (hks : (backToKw pos (keywordEach kws X.env)).filterMap (·.1) = ks := by rfl)
    (hdb : (x == ("__debug__" : Str)) = false := by decide)
    (hpl : ((backTo pos (starEach [] X.env)).any (·.1) || (backToKw pos (keywordEach kws X.env)).any (·.1.isNone)) = false := by rfl) :
    PE X (.Call (.Name x p) [] kws pos) (fun σ H Q => tk σ H fun zs H2 => sp (gV [] zs) H2 Q E) := by
  refine ⟨fun pins s σ H Q I h => ?_⟩
  refine wpAny_Call_Name_kw (ld_glob I hg hm ?_ hdb)
  refine PySem.W.callWith_KW0 (h₀ := X.base) I.ok.mod.kin hk hall (thn (hkw.run pos pins s σ H _ I h) fun ws s2 ⟨zs, H2, I2, rz, q2⟩ => ⟨I2.kIn, ?_⟩) hpl
  rw [hks]
  exact run_fnk F hr hb hx I2 .nil rz q2
/-- a def that is called by one keyword -/
structure C0k (Pg : Program) (w : World) (K : PySem.W.Frag) (mg : Str → Option Value) (base : Heap) (x : Str) (j : Nat) (ps : List Str) (P : List D → Rs → Prop) : Prop where
  ex : ∃ f fd, mg x = some (.ref f) ∧ PySem.W.keepIn K (.ref f) = true ∧ KBinds K fd ps ps (fun us ws => us ++ ws) (fun vs zs => vs ++ zs) ∧ FnOk Pg w K mg base (L2.CX Pg w) j f fd ps (sp0 K P)
theorem c0k_mk {Pg : Program} {w : World} {K : PySem.W.Frag} {mg : Str → Option Value} {base : Heap} {x : Str} {st : Stmt} {N ps : List Str} {k : Nat} {P : List D → Rs → Prop} (Dd : Df K mg x st []) (Sc : FnScope N ps (defScope st)) (bd : BindsN x st ps)
    (bk : ∀ (kV doc pm : Value) (an : Option Addr) (cdv ct : Value) (us ws : List Value), (us ++ ws).length = ps.length → bindArgs (PySem.W.fnOf x x (defArgs st) (defBody st) (defScope st) .none kV doc pm an cdv ct) ⟨us, ps.zip ws⟩ = pure (ps.zip (us ++ ws))) (hn : ps.length ≤ N.length) (hl : ∀ ds r, P ds r → ds.length = ps.length ∧ ∀ j, r ≠ .br j)
    (hb : ∀ f cd A outer s H E, Gd k (cx Pg w K mg base N x (defScope st) f cd A outer s H E) → ∀ ds r, P ds r → ∃ Γ', Ends1 (cx Pg w K mg base N x (defScope st) f cd A outer s H E) (ent N ds) (defBody st) r Γ') : C0 Pg w K mg base x (k + 1) ps P ∧ C0k Pg w K mg base x (k + 1) ps P := by
  obtain ⟨f, fd, FD, gm⟩ := Dd.ex
  have F := fn0 FD Sc (fun ds r p => (hl ds r p).1) hn (fun ds r p => (hl ds r p).2) (hb f)
  refine ⟨⟨f, fd, gm, FD.kp, FD.bindsN bd, F⟩, ⟨f, fd, gm, FD.kp, ⟨fun s us ws X hlen => ?_, fun r1 r2 => r1.append r2⟩, F⟩⟩
  obtain ⟨oc, od, dV, kV, doc, pm, an, cdv, ct, osl, rfl, lk, hcd, hD, hK⟩ := FD.ex
  rcases hD with ⟨_, rfl⟩ | ⟨e, _⟩
  · exact .of_eq (bk kV doc pm an cdv ct us ws hlen)
  · exact absurd rfl e
theorem e_c0k1 {P : List D → Rs → Prop} {y : Str} {kpos : Pos} {d : D} (G : C0k X.prog X.w X.K X.mg X.base x j [y] P) (g : Gd k X) (ha : EX X Γ e (.sh d) Γ1) (hp : P [d] r) (hk : j ≤ k := by decide) (hg : Gl X x := by rfl)
    (hdb : (x == ("__debug__" : Str)) = false := by decide) (hall : (backToKw pos (keywordEach [⟨some y, e, kpos⟩] X.env)).all (·.1.isSome) = true := by rfl) (hks : (backToKw pos (keywordEach [⟨some y, e, kpos⟩] X.env)).filterMap (·.1) = [y] := by rfl)
    (hpl : ((backTo pos (starEach [] X.env)).any (·.1) || (backToKw pos (keywordEach [⟨some y, e, kpos⟩] X.env)).any (·.1.isNone)) = false := by rfl) : EX X Γ (.Call (.Name x p) [] [⟨some y, e, kpos⟩] pos) r Γ1 := fun F σ H S Q R q => by
  obtain ⟨f, fd, gm, kp, b, Fo⟩ := G.ex
  refine pe_we (pe_callK0 (E := E0) Fo (g.rm.mono hk) hg gm kp b passL (pk_cons we_pe pk_nil) hall hks hdb hpl) ?_
  refine ha F σ H S _ R fun v H1 S1 R1 s1 ok => ⟨S1, [d], r, hp, R1.sh, .one ok, fun v H2 S2 t => ?_⟩
  obtain ⟨R2, ok2⟩ := R1.after0 t
  exact q v H2 S2 R2 (s1.trans t.ss) ok2
end
end PL

set_option Elab.async false
set_option linter.all false
set_option maxRecDepth 100000
set_option maxHeartbeats 1000000
namespace PL
open PySem PySem.Spec PyProof.Rows L2
section
variable {X : Cx} {Γ Γ1 : Gm} {iter elt : Ex} {scope : Scope} {pos px py tp : Pos} {n k kk : Nat} {it f a b : Nat → D} {x y : Str}
theorem cv_reset2 {K : PySem.W.Frag} {i j : Nat} {d e : D} (h : Γ[i]? = some .un) (h2 : Γ[j]? = some .un) : Cv K ((Γ.set i (.sh d)).set j (.sh e)) Γ := Wk.cv ⟨by rw [List.length_set, List.length_set], fun l s q => by
  by_cases hl : l = j
  · subst hl; rw [h2] at q; exact .inl (Option.some.inj q).symm
  · rw [List.getElem?_set_ne (Ne.symm hl)]
    by_cases hl2 : l = i
    · subst hl2; rw [h] at q; exact .inl (Option.some.inj q).symm
    · rw [List.getElem?_set_ne (Ne.symm hl2)]; exact .inr q⟩
/-- [e for x, y in ..], no test, no effect -/
theorem lc2 (i j : Nat) (gd : Gd k X) (hI : IterX X (.Tuple [.Name x px, .Name y py] kk tp) iter Γ n it Γ1) (hit : ∀ l, l < n → it l = .tup [a l, b l]) (hn : n ≤ sizeLine) (ok : BlkOk X.N X.env.scope scope [(x, i), (y, j)]) (hu : Γ1[i]? = some .un) (hv : Γ1[j]? = some .un)
    (he : ∀ l, l < n → ∀ s H C cl fp, EX (bk X scope s H C cl fp) ((Γ1.set i (.sh (a l))).set j (.sh (b l))) elt (.sh (f l)) ((Γ1.set i (.sh (a l))).set j (.sh (b l)))) (hi : X.N[i]? = some x := by rfl) (hj : X.N[j]? = some y := by rfl) (hx : ∀ s H C cl fp, Loc (bk X scope s H C cl fp).env.scope x := by exact fun _ _ _ _ _ => Or.inl rfl) (hy : ∀ s H C cl fp, Loc (bk X scope s H C cl fp).env.scope y := by exact fun _ _ _ _ _ => Or.inl rfl)
    (hf : ∀ s H C cl fp, (bk X scope s H C cl fp).fn x = true ∨ (bk X scope s H C cl fp).env.scope.names.lookup x = some .local := by exact fun _ _ _ _ _ => Or.inr rfl) (hf2 : ∀ s H C cl fp, (bk X scope s H C cl fp).fn y = true ∨ (bk X scope s H C cl fp).env.scope.names.lookup y = some .local := by exact fun _ _ _ _ _ => Or.inr rfl)
    (h1 : ∀ s H C cl fp, (assignEach [.Name x px, .Name y py] (bk X scope s H C cl fp).env).map (·.2) = assign (.Name x px) (bk X scope s H C cl fp).env :: (assignEach [.Name y py] (bk X scope s H C cl fp).env).map (·.2) := by intros; rfl)
    (h2 : ∀ s H C cl fp, (assignEach [.Name y py] (bk X scope s H C cl fp).env).map (·.2) = assign (.Name y py) (bk X scope s H C cl fp).env :: (assignEach [] (bk X scope s H C cl fp).env).map (·.2) := by intros; rfl)
    (h3 : ∀ s H C cl fp, (assignEach [.Name x px, .Name y py] (bk X scope s H C cl fp).env).length = 2 := by intros; rfl) (h4 : ∀ s H C cl fp, (assignEach [.Name x px, .Name y py] (bk X scope s H C cl fp).env).findIdx? (·.1) = none := by intros; rfl) :
    LcX X Γ (.Tuple [.Name x px, .Name y py] kk tp) iter [] elt scope [(x, i), (y, j)] n (fun _ => true) f Γ1 :=
  ⟨it, Γ1, gTup X.K 2 (gCons (gName i) (gCons (gName j) gNil)), fun _ => Γ1, fun l => (Γ1.set i (.sh (a l))).set j (.sh (b l)), fun l => (Γ1.set i (.sh (a l))).set j (.sh (b l)), fun l => (Γ1.set i (.sh (a l))).set j (.sh (b l)), hn, hI, ok, .refl,
    fun l hl z hz s e => by
      rcases List.mem_cons.mp hz with rfl | hz
      · rw [hu] at e; exact (Option.some.inj e).symm
      · rw [List.mem_singleton.mp hz, hv] at e; exact (Option.some.inj e).symm,
    fun s H C cl fp => pg_tup gd.calm (pgs_cons (pg_name gd.nd hi (hx s H C cl fp) (hf s H C cl fp)) (pgs_cons (pg_name gd.nd hj (hy s H C cl fp) (hf2 s H C cl fp)) pgs_nil (h2 s H C cl fp)) (h1 s H C cl fp)) (h3 s H C cl fp) (h4 s H C cl fp),
    fun l hl => by
      rw [hit l hl]
      exact tgt_two i j (.head _) (.tail _ (.head _)) (List.getElem?_eq_some_iff.mp hu).1 (List.getElem?_eq_some_iff.mp hv).1,
    .inl ⟨rfl, fun _ => rfl, rfl⟩, fun l hl _ => he l hl, fun l hl _ => cv_reset2 hu hv, fun _ _ z => Bool.noConfusion z, rfl⟩
theorem e_lc2 (i j : Nat) (gd : Gd k X) (h : LcX X Γ (.Tuple [.Name x px, .Name y py] kk tp) iter [] elt scope [(x, i), (y, j)] n (fun _ => true) f Γ1) (hs : ∀ x, foldedSetIterable iter X.env x = pure x := by intro _; rfl) : EX X Γ (.ListComp elt [⟨.Tuple [.Name x px, .Name y py] kk tp, iter, [], 0⟩] scope pos) (.ow (.lst ((List.range n).map f))) Γ1 := by
  rw [← took_all]
  exact e_lc gd h hs
/-- x in [ints] -/
theorem inV_ints (x : Int) : ∀ xs : List Int, inV (.int x) (xs.map V.int) = decide (x ∈ xs)
  | [] => rfl
  | y :: ys => by
    show ((y == x) || inV (.int x) (ys.map V.int)) = _
    rw [inV_ints x ys]
    by_cases h : y = x
    · subst h; simp
    · have h2 : x ≠ y := fun e => h e.symm
      rw [beq_eq_false_iff_ne.mpr h, Bool.false_or]
      simp [h2]
theorem flat_intsV (xs : List Int) : (xs.map V.int).all flatV = true := by
  rw [List.all_eq_true]
  intro v hv
  obtain ⟨x, _, rfl⟩ := List.mem_map.mp hv
  rfl
theorem o_inI {x : Int} {xs : List Int} : OpS X (compareOp .In) (.int x) (.lst (xs.map .int)) (.sh (.bl (decide (x ∈ xs)))) := ops_sc op_in_seq (.bl _) (fun _ => rfl) fun H S v y Q s r1 r2 q => by
  obtain ⟨p, vs, rfl, h1, h2⟩ := r2
  rw [h2.ints] at h1
  obtain rfl : v = .int x := r1
  refine ⟨p, _, rfl, .inl (.of (s _ _ h1)), rfl, flat_intsV xs, ?_⟩
  rw [if_neg (by decide), inV_ints]
  exact q
theorem o_ninI {x : Int} {xs : List Int} : OpS X (compareOp .NotIn) (.int x) (.lst (xs.map .int)) (.sh (.bl (!decide (x ∈ xs)))) := ops_sc op_notIn_seq (.bl _) (fun _ => rfl) fun H S v y Q s r1 r2 q => by
  obtain ⟨p, vs, rfl, h1, h2⟩ := r2
  rw [h2.ints] at h1
  obtain rfl : v = .int x := r1
  refine ⟨p, _, rfl, .inl (.of (s _ _ h1)), rfl, flat_intsV xs, ?_⟩
  rw [if_pos rfl, inV_ints]
  exact q
end
end PL

set_option Elab.async false
set_option linter.all false
set_option maxRecDepth 100000
set_option maxHeartbeats 1000000
namespace PL
open PySem PySem.Spec PyProof.Rows L2
section
variable {X : Cx} {Γ Γ1 Γ2 : Gm} {iter elt tg : Ex} {ifs : List Ex} {scope : Scope} {pos px py tp : Pos} {n k kk : Nat} {it f a b : Nat → D} {t : Nat → Bool} {x y : Str} {own : List (Str × Nat)}
theorem s1_eq {st : Stmt} (h : S1 X Γ st (.nx Γ1)) (e : Γ1 = Γ2) : S1 X Γ st (.nx Γ2) := e ▸ h
theorem lc1 (i : Nat) (f : Nat → D) (gd : Gd k X) (hI : IterX X (.Name x px) iter Γ n it Γ1) (hn : n ≤ sizeLine) (ok : BlkOk X.N X.env.scope scope [(x, i)]) (hu : Γ1[i]? = some .un)
    (he : ∀ j, j < n → ∀ s H C cl fp, EX (bk X scope s H C cl fp) (Γ1.set i (.sh (it j))) elt (.sh (f j)) (Γ1.set i (.sh (it j)))) (hi : X.N[i]? = some x := by rfl) (hx : ∀ s H C cl fp, Loc (bk X scope s H C cl fp).env.scope x := by exact fun _ _ _ _ _ => Or.inl rfl)
    (hf : ∀ s H C cl fp, (bk X scope s H C cl fp).fn x = true ∨ (bk X scope s H C cl fp).env.scope.names.lookup x = some .local := by exact fun _ _ _ _ _ => Or.inr rfl) : LcX X Γ (.Name x px) iter [] elt scope [(x, i)] n (fun _ => true) f Γ1 :=
  lcG i (fun _ => Γ1) (fun j => Γ1.set i (.sh (it j))) gd hI hn ok .refl (fun _ _ => hu) he (fun j _ => cv_reset hu) hi hx hf
/-- y = [..], never changed again -/
theorem s1_setLcF {Γ' : Gm} (i : Nat) {y : Str} {py spos : Pos} {L : List D} (gd : Gd k X) (h : LcX X Γ tg iter ifs elt scope own n t f Γ') (eL : took t f n = L) (hl : i < Γ'.length := by exact Nat.le_of_ble_eq_true rfl) (hy : X.N[i]? = some y := by rfl) (hyl : X.env.scope.names.lookup y = some .local := by rfl)
    (hsw : swapsWith (.ListComp elt [⟨tg, iter, ifs, 0⟩] scope pos) (some (.Name y py)) spos.line X.env = pure true := by exact sw_true rfl rfl rfl (by decide +kernel)) (hs : ∀ x, foldedSetIterable iter X.env x = pure x := by intro _; rfl) : S1 X Γ (.Assign [.Name y py] (.ListComp elt [⟨tg, iter, ifs, 0⟩] scope pos) spos) (.nx (Γ'.set i (.sh (.lst L)))) := by
  have h1 := s1_setLc (py := py) (spos := spos) (pos := pos) i gd h hl hy hyl hsw hs
  have h2 : (Γ'.set i (.ow (.lst (took t f n))))[i]? = some (.ow (.lst (took t f n))) := List.getElem?_set_self hl
  have h3 := s1_wk h1 (cv_frz h2)
  rw [List.set_set, eL] at h3
  exact h3
end
end PL

set_option Elab.async false
set_option linter.all false
set_option maxRecDepth 100000
set_option maxHeartbeats 1000000
/-! f(e, e'), both new objects that f may change -/
namespace PL
open PySem PySem.Spec PyProof.Rows L2
section
variable {X : Cx} {Γ Γ1 Γ2 : Gm} {e e' : Ex} {p pos : Pos} {r : Rs} {j k : Nat} {ps : List Str} {x : Str}
/-- what was made ahead stays while e' is walked: the frame of this very state keeps it -/
theorem e_c2n {P : Ob → Ob → List D → Rs → Ob → Ob → Prop} {o o' u u' : Ob} (G : C2 X.prog X.w X.K X.mg X.base x j ps P) (g : Gd k X) (h : EX X Γ e (.ow o) Γ1) (h' : EX X Γ1 e' (.ow u) Γ2) (hp : P o u [] r o' u') (hk : j ≤ k := by decide) (hg : Gl X x := by rfl)
    (hdb : (x == ("__debug__" : Str)) = false := by decide) (he : starEach [e, e'] X.env = (false, eval e X.env) :: starEach [e'] X.env := by rfl) (he2 : starEach [e'] X.env = (false, eval e' X.env) :: starEach [] X.env := by rfl) (hpl : (backTo pos (starEach [e'] X.env)).any (·.1) = false := by rfl) : EX X Γ (.Call (.Name x p) [e, e'] [] pos) r Γ2 := fun F σ H S Q R q => by
  obtain ⟨f, fd, gm, kp, b, Fo⟩ := G.ex
  refine pe_we (pe_call Fo (g.rm.mono hk) hg gm kp b .nil passL (pa_cons we_pe (pa_cons we_pe pa_nil he2) he) hdb he hpl) (h F σ H S _ R fun v H1 S1 R1 s1 ok => ?_)
  obtain ⟨a, rfl, n1, n2, obr, no⟩ := ok
  have Rb := R1.rebase
  obtain ⟨y, hy⟩ := obr.there
  refine h' _ σ H1 S1 _ Rb fun v2 H2 S2 R2 s2 ok2 => ?_
  obtain ⟨a2, rfl, m1, m2, obr2, no2⟩ := ok2
  have ka : H2 a = some y := R2.kp a y no hy
  have na : S2 a = none := R2.new a y hy no n1
  have R3 := R1.back R2
  have nea : a ≠ a2 := fun z => by
    have m2' : H1 a2 = none := m2
    rw [← z, hy] at m2'; cases m2'
  have noa : ¬ Own Γ2 σ a := fun ⟨i, ow⟩ => by
    rcases (R2.own ow).2.1 with z | z
    · have z' : H1 a = none := z
      rw [hy] at z'; cases z'
    · exact no z
  have ob1 : ObR X.K S2 H2 a o := obr.mono s2 fun z hz => by rw [hy] at hz; cases hz; exact ka
  refine ⟨S2, o, u, [], r, o', u', a, a2, [], hp, rfl, nea, R3.sh, na, m1, ob1, obr2, rfl, fun v H4 S4 t n3 n4 ob3 ub3 => ?_⟩
  have h0a2 : F.H0 a2 = none := R1.h0None m2
  obtain ⟨R4, ok4⟩ := R3.after t (fun b z => .inr (z.elim (fun z => by rw [z]; exact n2) fun z => by rw [z]; exact h0a2)) rfl fun i s es => .inl ⟨es, fun b ow z => z.elim (fun z => noa ⟨i, by rw [← z]; exact ow⟩) fun z => no2 ⟨i, by rw [← z]; exact ow⟩⟩
  exact q v H4 S4 R4 ((s1.trans s2).trans t.ss) ok4
end
end PL

set_option Elab.async false
set_option linter.all false
set_option maxRecDepth 100000
set_option maxHeartbeats 1000000
/-! calls with keywords, of defs and of classes, with defaults -/
namespace PL
open PySem PySem.Spec PyProof.Rows L2
section
variable {X : Cx} {Γ Γ1 Γ2 : Gm} {e : Ex} {es : List Ex} {p pos kpos : Pos} {r : Rs} {ds zs as : List D} {d : D} {j k n : Nat} {ps ks : List Str} {x y : Str} {C : Addr} {kws : List Keyword} {σ : L2.St} {H : Hp}
def WK (X : Cx) (kws : List Keyword) : TA := fun σ H Q => ∀ pos pins s, Inv X pins σ H s → wpAny (model X.prog X.w) X.A (evalAll ((backToKw pos (keywordEach kws X.env)).map (·.2))) (AP X pins σ Q) X.xe s
theorem wk_pk : PK X kws (WK X kws) := ⟨fun pos pins s σ H Q I h => h pos pins s I⟩
theorem pk_wk {t : TA} {Q : List V → Hp → Prop} (h : PK X kws t) (q : t σ H Q) : WK X kws σ H Q := fun pos pins s I => h.run pos pins s σ H Q I q
/-- the keywords' values -/
def KX (X : Cx) (Γ : Gm) (kws : List Keyword) (zs : List D) (Γ' : Gm) : Prop := ∀ F σ H S (Q : List V → Hp → Prop), RS X.K F Γ σ H S → (∀ vs H' S', RS X.K F Γ' σ H' S' → Same S S' → Reps X.K S' zs vs → Q vs H') → WK X kws σ H Q
theorem k_nil : KX X Γ [] [] Γ := fun F σ H S Q R q => pk_wk pk_nil (q [] H S R (.refl _) rfl)
theorem k_cons (h : EX X Γ e (.sh d) Γ1) (h2 : KX X Γ1 kws zs Γ2) : KX X Γ (⟨some y, e, kpos⟩ :: kws) (d :: zs) Γ2 := fun F σ H S Q R q =>
  pk_wk (pk_cons we_pe wk_pk) (h F σ H S _ R fun v H1 S1 R1 s1 ok => h2 F σ H1 S1 _ R1 fun vs H2 S2 R2 s2 ok2 => q _ H2 S2 R2 (s1.trans s2) (.cons (Rep.mono s2 _ _ ok) ok2))
/-- a list by its places: 0 .. the positional ones, then the defaults, then the keywords' ones -/
def pickL {α : Type} (is : List Nat) (us its ws : List α) : List α := is.filterMap fun i => (us ++ (its ++ ws))[i]?
theorem paired_get {α β : Type} {R : α → β → Prop} : ∀ {xs : List α} {ys : List β} (i : Nat), Paired R xs ys → (xs[i]? = none ∧ ys[i]? = none) ∨ ∃ x y, xs[i]? = some x ∧ ys[i]? = some y ∧ R x y
  | _, _, i, .nil => .inl ⟨by simp, by simp⟩
  | _, _, 0, .cons h t => .inr ⟨_, _, rfl, rfl, h⟩
  | _, _, i + 1, .cons h t => by
    rcases paired_get i t with ⟨a, b⟩ | ⟨x, y, a, b, c⟩
    · exact .inl ⟨by simpa using a, by simpa using b⟩
    · exact .inr ⟨x, y, by simpa using a, by simpa using b, c⟩
theorem paired_app {α β : Type} {R : α → β → Prop} : ∀ {xs zs : List α} {ys ws : List β}, Paired R xs ys → Paired R zs ws → Paired R (xs ++ zs) (ys ++ ws)
  | _, _, _, _, .nil, h => h
  | _, _, _, _, .cons a t, h => .cons a (paired_app t h)
theorem paired_pick {α β : Type} {R : α → β → Prop} {us its ws : List α} {us' its' ws' : List β} (h1 : Paired R us us') (h2 : Paired R its its') (h3 : Paired R ws ws') : ∀ is : List Nat, Paired R (pickL is us its ws) (pickL is us' its' ws')
  | [] => .nil
  | i :: is => by
    unfold pickL
    rw [List.filterMap_cons, List.filterMap_cons]
    have h := paired_get i (paired_app h1 (paired_app h2 h3))
    rcases h with ⟨a, b⟩ | ⟨x, y, a, b, c⟩
    · rw [a, b]; exact paired_pick h1 h2 h3 is
    · rw [a, b]; exact .cons c (paired_pick h1 h2 h3 is)
theorem pick_shift {α : Type} {a : α} {vs ds zs : List α} {is : List Nat} (h0 : 0 ∉ is) : pickL (0 :: is) (a :: vs) ds zs = a :: pickL (is.map (· - 1)) vs ds zs := by
  unfold pickL
  rw [List.filterMap_cons]
  show a :: _ = _
  congr 1
  rw [List.filterMap_map]
  induction is with
  | nil => rfl
  | cons i is ih =>
    have h1 := fun z => h0 (List.mem_cons_of_mem i z)
    rw [List.filterMap_cons, List.filterMap_cons, ih h1]
    cases i with
    | zero => exact absurd (List.mem_cons_self ..) h0
    | succ i => rfl
/-- a def (of defaults dvs) called with n values and the keywords ks; is: the places -/
structure KwB (K : PySem.W.Frag) (fd : FuncData) (ps : List Str) (n : Nat) (ks : List Str) (dvs : List V) (is : List Nat) : Prop where
  ex : ∃ its : List Value, KBn K fd ps n ks (fun us ws => pickL is us its ws) (fun vs zs => pickL is vs dvs zs)
theorem kwb_d {K : PySem.W.Frag} {x qual : Str} {params : Arguments} {body : List Stmt} {scope : Scope} {dvs : List V} {f : Addr} {fd : FuncData} {ps : List Str} (F : FunD K x qual params body scope dvs [] f fd) (n : Nat) (ks : List Str) (is : List Nat) (hd : dvs ≠ [])
    (h : ∀ (T : Addr) (kV doc pm : Value) (an : Option Addr) (cdv ct : Value) (us its ws : List Value), us.length = n → its.length = dvs.length → ws.length = ks.length →
      ∃ k, bindArgs (PySem.W.fnOf x qual params body scope (.ref T) kV doc pm an cdv ct) ⟨us, ks.zip ws⟩ = seqItems? (.ref T) >>= k ∧ k (some its.toArray) = pure (ps.zip (pickL is us its ws))) : KwB K fd ps n ks dvs is :=
  ⟨F.kbindsD n ks (fun us its ws => pickL is us its ws) hd (fun a b c => paired_pick a b c is) h⟩
theorem kwb_0 {K : PySem.W.Frag} {x qual : Str} {params : Arguments} {body : List Stmt} {scope : Scope} {f : Addr} {fd : FuncData} {ps : List Str} (F : FunD K x qual params body scope [] [] f fd) (n : Nat) (ks : List Str) (is : List Nat)
    (h : ∀ (kV doc pm : Value) (an : Option Addr) (cdv ct : Value) (us ws : List Value), us.length = n → ws.length = ks.length → bindArgs (PySem.W.fnOf x qual params body scope .none kV doc pm an cdv ct) ⟨us, ks.zip ws⟩ = pure (ps.zip (pickL is us [] ws))) : KwB K fd ps n ks [] is := by
  obtain ⟨oc, od, dV, kV, doc, pm, an, cdv, ct, osl, rfl, lk, hcd, hD, hK⟩ := F.ex
  rcases hD with ⟨_, rfl⟩ | ⟨e, _⟩
  · exact ⟨[], ⟨fun s us ws X l1 l2 => .of_eq (h kV doc pm an cdv ct us ws l1 l2), fun r1 r2 => paired_pick r1 .nil r2 is⟩⟩
  · exact absurd rfl e
theorem Reps.pick {K : PySem.W.Frag} {S : Hp} {ds fs zs : List D} {vs us ws : List V} (h1 : Reps K S ds vs) (h2 : Reps K S fs us) (h3 : Reps K S zs ws) : ∀ is : List Nat, Reps K S (pickL is ds fs zs) (pickL is vs us ws)
  | [] => rfl
  | i :: is => by
    have ih := Reps.pick h1 h2 h3 is
    have h := h1.append (h2.append h3)
    unfold pickL
    rw [List.filterMap_cons, List.filterMap_cons]
    cases e : (ds ++ (fs ++ zs))[i]? with
    | none =>
      have e2 : (vs ++ (us ++ ws))[i]? = none := by
        rw [List.getElem?_eq_none_iff, ← h.length]
        exact List.getElem?_eq_none_iff.mp e
      rw [e2]; exact ih
    | some q =>
      obtain ⟨v, e2, rv⟩ := h.get e
      rw [e2]
      exact .cons rv ih
/-! ### defs -/
/-- f(e, .., k = v, ..) -/
theorem e_kw {P : List D → Rs → Prop} {f : Addr} {fd : FuncData} {dvs : List V} {fs : List D} {is : List Nat} (Fo : FnOk X.prog X.w X.K X.mg X.base (L2.CX X.prog X.w) j f fd ps (sp0 X.K P)) (at_ : At X x f) (B : KwB X.K fd ps ds.length ks dvs is) (g : Gd k X) (hfs : ∀ S, Reps X.K S fs dvs) (ha : AX X Γ (e :: es) ds Γ1) (hkw : KX X Γ1 kws zs Γ2) (hp : P (pickL is ds fs zs) r) (hz : zs.length = ks.length := by rfl)
    (hk : j ≤ k := by decide) (hg : Gl X x := by rfl) (hall : (backToKw pos (keywordEach kws X.env)).all (·.1.isSome) = true := by rfl) (hks : (backToKw pos (keywordEach kws X.env)).filterMap (·.1) = ks := by rfl)
    (hdb : (x == ("__debug__" : Str)) = false := by decide) (he : starEach (e :: es) X.env = (false, eval e X.env) :: starEach es X.env := by rfl)
    (hpl : ((backTo pos (starEach (e :: es) X.env)).any (·.1) || (backToKw pos (keywordEach kws X.env)).any (·.1.isNone)) = false := by rfl) : EX X Γ (.Call (.Name x p) (e :: es) kws pos) r Γ2 := fun F σ H S Q R q => by
  obtain ⟨its, hb⟩ := B.ex
  refine pe_we (pe_callN (E := E0) Fo (g.rm.mono hk) hg at_.mg at_.kp hb passL wa_pa wk_pk hall hks hdb he hpl) ?_
  refine ha F σ H S _ R fun vs H1 S1 R1 s1 ok => hkw F σ H1 S1 _ R1 fun us H2 S2 R2 s2 ok2 => ?_
  refine ⟨ok.length.symm, ok2.length.symm.trans hz, S2, _, r, hp, R2.sh, Reps.pick (Reps.mono s2 _ _ ok) (hfs S2) ok2 is, fun v H3 S3 t => ?_⟩
  obtain ⟨R3, ok3⟩ := R2.after0 t
  exact q v H3 S3 R3 ((s1.trans s2).trans t.ss) ok3
/-- f(k = v, ..) -/
theorem e_kw0 {P : List D → Rs → Prop} {f : Addr} {fd : FuncData} {dvs : List V} {fs : List D} {is : List Nat} (Fo : FnOk X.prog X.w X.K X.mg X.base (L2.CX X.prog X.w) j f fd ps (sp0 X.K P)) (at_ : At X x f) (B : KwB X.K fd ps 0 ks dvs is) (g : Gd k X) (hfs : ∀ S, Reps X.K S fs dvs) (hkw : KX X Γ kws zs Γ1) (hp : P (pickL is [] fs zs) r) (hz : zs.length = ks.length := by rfl)
    (hk : j ≤ k := by decide) (hg : Gl X x := by rfl) (hall : (backToKw pos (keywordEach kws X.env)).all (·.1.isSome) = true := by rfl) (hks : (backToKw pos (keywordEach kws X.env)).filterMap (·.1) = ks := by rfl)
    (hdb : (x == ("__debug__" : Str)) = false := by decide) (hpl : ((backTo pos (starEach [] X.env)).any (·.1) || (backToKw pos (keywordEach kws X.env)).any (·.1.isNone)) = false := by rfl) : EX X Γ (.Call (.Name x p) [] kws pos) r Γ1 := fun F σ H S Q R q => by
  obtain ⟨its, hb⟩ := B.ex
  have pe : PE X (.Call (.Name x p) [] kws pos) (fun σ H Q => WK X kws σ H fun zs H2 => zs.length = ks.length ∧ sp0 X.K P (pickL is [] dvs zs) H2 Q E0) := by
    refine ⟨fun pins s σ H Q I h => wpAny_Call_Name_kw (ld_glob I hg at_.mg ?_ hdb)⟩
    refine PySem.W.callWith_KW0 (h₀ := X.base) I.ok.mod.kin at_.kp hall (thn (wk_pk.run pos pins s σ H _ I h) fun ws s2 ⟨zs, H2, I2, rz, l2, q2⟩ => ⟨I2.kIn, ?_⟩) hpl
    rw [hks]
    exact run_fnN Fo (g.rm.mono hk) hb passL I2 .nil rz rfl l2 q2
  refine pe_we pe (hkw F σ H S _ R fun us H2 S2 R2 s2 ok2 => ⟨ok2.length.symm.trans hz, S2, _, r, hp, R2.sh, Reps.pick (ds := []) (vs := []) rfl (hfs S2) ok2 is, fun v H3 S3 t => ?_⟩)
  obtain ⟨R3, ok3⟩ := R2.after0 t
  exact q v H3 S3 R3 (s2.trans t.ss) ok3
/-! ### classes -/
theorem make_rd {P : Ob → List D → Rs → Ob → Prop} {o' : Ob} {F : Fr} {S H : Hp} {Q : VK} {as : List D} {ws : List V} {a dx : Addr} (R1 : RS X.K F Γ σ H S) (hp : P (.ins C [] []) as (.sh .non) o') (rp : Reps X.K S as ws) (na : H a = none) (nd : H dx = none) (ne : dx ≠ a)
    (q : ∀ v H' S', RS X.K F Γ σ H' S' → Same S S' → RsOk X.K F Γ σ H' S' (.ow o') v → Q v H') : sp1 X.K P (.ref a :: ws) (upd (upd H dx (.own a)) a (.ins C dx [])) (fun v H3 => v = .non ∧ Q (.ref a) H3) E0 := by
  have g1 : Same H (upd (upd H dx (.own a)) a (.ins C dx [])) := (same_upd nd).trans (same_upd (by rw [upd_ne ne.symm]; exact na))
  have R2 := R1.grow g1
  refine ⟨S, .ins C [] [], as, .sh .non, o', a, ws, hp, rfl, R2.sh, R1.sNone na, ⟨dx, [], upd_same, rfl, rfl⟩, rp, fun v H2 S2 t n2 ob2 => ⟨t.res, ?_⟩⟩
  have t' : Ret X.K S H (fun _ => False) (.ow o') (.ref a) H2 S2 := ⟨t.ss, t.sh, fun b o e n => t.new b o (g1 b o e) n, fun b o _ e => t.kp b o (fun z => by rw [z, na] at e; cases e) (g1 b o e), fun b o e => t.th b o (g1 b o e), a, rfl, na, n2, ob2⟩
  obtain ⟨R3, ok3⟩ := R1.after0 t'
  exact q (.ref a) H2 S2 R3 t.ss ok3
/-- C(e, .., k = v, ..); the places: 0 is the new object -/
theorem e_mkw {P : Ob → List D → Rs → Ob → Prop} {o' : Ob} {f : Addr} {fd : FuncData} {dvs : List V} {fs : List D} {is : List Nat} (M : Mk X.K C f) (Fo : FnOk X.prog X.w X.K X.mg X.base (L2.CX X.prog X.w) j f fd ps (sp1 X.K P)) (hm : X.mg x = some (.ref C)) (B : KwB X.K fd ps (ds.length + 1) ks dvs (0 :: is)) (h0 : 0 ∉ is) (g : Gd k X) (hfs : ∀ S, Reps X.K S fs dvs) (ha : AX X Γ (e :: es) ds Γ1) (hkw : KX X Γ1 kws zs Γ2) (hp : P (.ins C [] []) (pickL (is.map (· - 1)) ds fs zs) (.sh .non) o') (hz : zs.length = ks.length := by rfl)
    (hk : j + 1 ≤ k := by decide) (hg : Gl X x := by rfl) (hall : (backToKw pos (keywordEach kws X.env)).all (·.1.isSome) = true := by rfl) (hks : (backToKw pos (keywordEach kws X.env)).filterMap (·.1) = ks := by rfl)
    (hdb : (x == ("__debug__" : Str)) = false := by decide) (he : starEach (e :: es) X.env = (false, eval e X.env) :: starEach es X.env := by rfl)
    (hpl : ((backTo pos (starEach (e :: es) X.env)).any (·.1) || (backToKw pos (keywordEach kws X.env)).any (·.1.isNone)) = false := by rfl) : EX X Γ (.Call (.Name x p) (e :: es) kws pos) (.ow o') Γ2 := fun F σ H S Q R q => by
  obtain ⟨its, hb⟩ := B.ex
  refine pe_we (pe_makeN (E := E0) M Fo (g.rm.mono hk) hg hm hb passL wa_pa wk_pk hall hks hdb he hpl) ?_
  refine ha F σ H S _ R fun vs H1 S1 R1 s1 ok => hkw F σ H1 S1 _ R1 fun us H2 S2 R2 s2 ok2 => ⟨ok.length.symm, ok2.length.symm.trans hz, fun a dx na nd ne => ?_⟩
  show sp1 X.K P (pickL (0 :: is) (V.ref a :: vs) dvs us) _ _ _
  rw [pick_shift h0]
  exact make_rd R2 hp (Reps.pick (Reps.mono s2 _ _ ok) (hfs S2) ok2 _) na nd ne fun v H3 S3 R3 s3 ok3 => q v H3 S3 R3 ((s1.trans s2).trans s3) ok3
theorem e_mkw0 {P : Ob → List D → Rs → Ob → Prop} {o' : Ob} {f : Addr} {fd : FuncData} {dvs : List V} {fs : List D} {is : List Nat} (M : Mk X.K C f) (Fo : FnOk X.prog X.w X.K X.mg X.base (L2.CX X.prog X.w) j f fd ps (sp1 X.K P)) (hm : X.mg x = some (.ref C)) (B : KwB X.K fd ps 1 ks dvs (0 :: is)) (h0 : 0 ∉ is) (g : Gd k X) (hfs : ∀ S, Reps X.K S fs dvs) (hkw : KX X Γ kws zs Γ1) (hp : P (.ins C [] []) (pickL (is.map (· - 1)) [] fs zs) (.sh .non) o') (hz : zs.length = ks.length := by rfl)
    (hk : j + 1 ≤ k := by decide) (hg : Gl X x := by rfl) (hall : (backToKw pos (keywordEach kws X.env)).all (·.1.isSome) = true := by rfl) (hks : (backToKw pos (keywordEach kws X.env)).filterMap (·.1) = ks := by rfl)
    (hdb : (x == ("__debug__" : Str)) = false := by decide) (hpl : ((backTo pos (starEach [] X.env)).any (·.1) || (backToKw pos (keywordEach kws X.env)).any (·.1.isNone)) = false := by rfl) : EX X Γ (.Call (.Name x p) [] kws pos) (.ow o') Γ1 := fun F σ H S Q R q => by
  obtain ⟨its, hb⟩ := B.ex
  refine pe_we (pe_makeK0 (E := E0) M Fo (g.rm.mono hk) hg hm hb passL wk_pk hall hks hdb hpl) ?_
  refine hkw F σ H S _ R fun us H2 S2 R2 s2 ok2 => ⟨rfl, ok2.length.symm.trans hz, fun a dx na nd ne => ?_⟩
  show sp1 X.K P (pickL (0 :: is) (V.ref a :: []) dvs us) _ _ _
  rw [pick_shift h0]
  exact make_rd R2 hp (Reps.pick (ds := []) (vs := []) rfl (hfs S2) ok2 _) na nd ne fun v H3 S3 R3 s3 ok3 => q v H3 S3 R3 (s2.trans s3) ok3
end
end PL

set_option Elab.async false
set_option linter.all false
set_option maxRecDepth 100000
set_option maxHeartbeats 1000000
/-! defs with defaults: the def itself is kept, so that each call binds as it is written -/
namespace PL
open PySem PySem.Spec PyProof.Rows L2
structure Cd (Pg : Program) (w : World) (K : PySem.W.Frag) (mg : Str → Option Value) (base : Heap) (x : Str) (j : Nat) (ps : List Str) (st : Stmt) (dvs : List V) (P : List D → Rs → Prop) : Prop where
  ex : ∃ f fd, mg x = some (.ref f) ∧ FunD K x x (defArgs st) (defBody st) (defScope st) dvs [] f fd ∧ FnOk Pg w K mg base (L2.CX Pg w) j f fd ps (sp0 K P)
section
variable {Pg : Program} {w : World} {K : PySem.W.Frag} {mg : Str → Option Value} {base : Heap} {x : Str} {st : Stmt} {N ps : List Str} {k : Nat} {dvs : List V}
theorem cd_mk {P : List D → Rs → Prop} (Dd : Df K mg x st dvs) (Sc : FnScope N ps (defScope st)) (hn : ps.length ≤ N.length) (hl : ∀ ds r, P ds r → ds.length = ps.length ∧ ∀ j, r ≠ .br j)
    (hb : ∀ f cd A outer s H E, Gd k (cx Pg w K mg base N x (defScope st) f cd A outer s H E) → ∀ ds r, P ds r → ∃ Γ', Ends1 (cx Pg w K mg base N x (defScope st) f cd A outer s H E) (ent N ds) (defBody st) r Γ') : Cd Pg w K mg base x (k + 1) ps st dvs P := by
  obtain ⟨f, fd, FD, gm⟩ := Dd.ex
  exact ⟨f, fd, gm, FD, fn0 FD Sc (fun ds r p => (hl ds r p).1) hn (fun ds r p => (hl ds r p).2) (hb f)⟩
end
section
variable {X : Cx} {Γ Γ1 Γ2 : Gm} {e : Ex} {es : List Ex} {p pos : Pos} {r : Rs} {ds zs fs : List D} {j k : Nat} {ps ks : List Str} {x : Str} {st : Stmt} {dvs : List V} {kws : List Keyword} {P : List D → Rs → Prop}
/-- f(e, ..): the defaults from the i-th on fill up -/
theorem e_cd (i : Nat) (G : Cd X.prog X.w X.K X.mg X.base x j ps st dvs P) (hb : ∀ f fd, FunD X.K x x (defArgs st) (defBody st) (defScope st) dvs [] f fd → ∃ dv, Vals (dvs.drop i) dv ∧ Binds X.K fd ps dv) (g : Gd k X) (ha : AX X Γ (e :: es) ds Γ1) (hfs : ∀ S, Reps X.K S fs (dvs.drop i)) (hp : P (ds ++ fs) r)
    (hk : j ≤ k := by decide) (hg : Gl X x := by rfl) (hdb : (x == ("__debug__" : Str)) = false := by decide) (he : starEach (e :: es) X.env = (false, eval e X.env) :: starEach es X.env := by rfl) (hpl : (backTo pos (starEach es X.env)).any (·.1) = false := by rfl) : EX X Γ (.Call (.Name x p) (e :: es) [] pos) r Γ1 := by
  obtain ⟨f, fd, gm, FD, F⟩ := G.ex
  obtain ⟨dv, hv, b⟩ := hb f fd FD
  exact e_call0 (dds := fs) F ⟨gm, FD.kp⟩ g hp ha b hv hfs hk hg hdb he hpl
/-- f(e, .., k = v, ..) -/
theorem e_cdk (is : List Nat) (G : Cd X.prog X.w X.K X.mg X.base x j ps st dvs P) (hb : ∀ f fd, FunD X.K x x (defArgs st) (defBody st) (defScope st) dvs [] f fd → KwB X.K fd ps ds.length ks dvs is) (g : Gd k X) (hfs : ∀ S, Reps X.K S fs dvs) (ha : AX X Γ (e :: es) ds Γ1) (hkw : KX X Γ1 kws zs Γ2) (hp : P (pickL is ds fs zs) r) (hz : zs.length = ks.length := by rfl)
    (hk : j ≤ k := by decide) (hg : Gl X x := by rfl) (hall : (backToKw pos (keywordEach kws X.env)).all (·.1.isSome) = true := by rfl) (hks : (backToKw pos (keywordEach kws X.env)).filterMap (·.1) = ks := by rfl)
    (hdb : (x == ("__debug__" : Str)) = false := by decide) (he : starEach (e :: es) X.env = (false, eval e X.env) :: starEach es X.env := by rfl)
    (hpl : ((backTo pos (starEach (e :: es) X.env)).any (·.1) || (backToKw pos (keywordEach kws X.env)).any (·.1.isNone)) = false := by rfl) : EX X Γ (.Call (.Name x p) (e :: es) kws pos) r Γ2 := by
  obtain ⟨f, fd, gm, FD, F⟩ := G.ex
  exact e_kw F ⟨gm, FD.kp⟩ (hb f fd FD) g hfs ha hkw hp hz hk hg hall hks hdb he hpl
theorem e_cdk0 (is : List Nat) (G : Cd X.prog X.w X.K X.mg X.base x j ps st dvs P) (hb : ∀ f fd, FunD X.K x x (defArgs st) (defBody st) (defScope st) dvs [] f fd → KwB X.K fd ps 0 ks dvs is) (g : Gd k X) (hfs : ∀ S, Reps X.K S fs dvs) (hkw : KX X Γ kws zs Γ1) (hp : P (pickL is [] fs zs) r) (hz : zs.length = ks.length := by rfl)
    (hk : j ≤ k := by decide) (hg : Gl X x := by rfl) (hall : (backToKw pos (keywordEach kws X.env)).all (·.1.isSome) = true := by rfl) (hks : (backToKw pos (keywordEach kws X.env)).filterMap (·.1) = ks := by rfl)
    (hdb : (x == ("__debug__" : Str)) = false := by decide) (hpl : ((backTo pos (starEach [] X.env)).any (·.1) || (backToKw pos (keywordEach kws X.env)).any (·.1.isNone)) = false := by rfl) : EX X Γ (.Call (.Name x p) [] kws pos) r Γ1 := by
  obtain ⟨f, fd, gm, FD, F⟩ := G.ex
  exact e_kw0 F ⟨gm, FD.kp⟩ (hb f fd FD) g hfs hkw hp hz hk hg hall hks hdb hpl
end
end PL

set_option Elab.async false
set_option linter.all false
set_option maxRecDepth 100000
set_option maxHeartbeats 1000000
/-! PL, further: contracts by what comes out (Cp: a def that draws from a pool), items of owned lists, a list unpacked, isinstance of own classes. -/
namespace PL
open PySem PySem.Spec PyProof.Rows L2
theorem Cd.c0 {Pg : Program} {w : World} {K : PySem.W.Frag} {mg : Str → Option Value} {base : Heap} {x : Str} {st : Stmt} {ps : List Str} {j : Nat} {P : List D → Rs → Prop} (G : Cd Pg w K mg base x j ps st [] P) (bd : BindsN x st ps) : C0 Pg w K mg base x j ps P := by
  obtain ⟨f, fd, gm, FD, Fo⟩ := G.ex
  exact ⟨f, fd, gm, FD.kp, FD.bindsN bd, Fo⟩
/-- a pool -/
abbrev po (n : Int) : Ob := .lst [.int n]
structure Cp (Pg : Program) (w : World) (K : PySem.W.Frag) (mg : Str → Option Value) (base : Heap) (x : Str) (j : Nat) (ps : List Str) (Pre : List D → Prop) (Post : List D → Rs → Prop) : Prop where
  ex : ∃ P, C1 Pg w K mg base x j ps P ∧ ∀ n ds, Pre ds → ∃ r n', Post ds r ∧ P (po n) ds r (po n')
theorem cp_mk {Pg : Program} {w : World} {K : PySem.W.Frag} {mg : Str → Option Value} {base : Heap} {x : Str} {st : Stmt} {N ps : List Str} {k : Nat} {Pre : List D → Prop} {Post : List D → Rs → Prop} (Dd : Df K mg x st []) (Sc : FnScope N ps (defScope st)) (bd : BindsN x st ps) (hn : ps.length ≤ N.length) (hl : ∀ ds, Pre ds → ds.length + 1 = ps.length)
    (hb : ∀ n ds, Pre ds → ∃ r n', Post ds r ∧ (∀ j, r ≠ .br j) ∧ ∀ f cd A outer s H E, Gd k (cx Pg w K mg base N x (defScope st) f cd A outer s H E) → ∀ p, ∃ Γ', Ends1 (cx Pg w K mg base N x (defScope st) f cd A outer s H E) (.pr p (po n) :: ent N.tail ds) (defBody st) r Γ' ∧ Γ'[0]? = some (.pr p (po n'))) : Cp Pg w K mg base x (k + 1) ps Pre Post := by
  refine ⟨fun o ds r o' => ds.length + 1 = ps.length ∧ (∀ j, r ≠ .br j) ∧ ∀ f cd A outer s H E, Gd k (cx Pg w K mg base N x (defScope st) f cd A outer s H E) → ∀ p, ∃ Γ', Ends1 (cx Pg w K mg base N x (defScope st) f cd A outer s H E) (.pr p o :: ent N.tail ds) (defBody st) r Γ' ∧ Γ'[0]? = some (.pr p o'), ?_, fun n ds pre => ?_⟩
  · exact c1_mk Dd Sc bd hn (fun o ds r o' h => ⟨h.1, h.2.1⟩) fun f cd A outer s H E g o ds r o' h p => h.2.2 f cd A outer s H E g p
  · obtain ⟨r, n', h1, h2, h3⟩ := hb n ds pre
    exact ⟨r, n', h1, hl ds pre, h2, h3⟩
/-- the same of two pools -/
structure Cq (Pg : Program) (w : World) (K : PySem.W.Frag) (mg : Str → Option Value) (base : Heap) (x : Str) (j : Nat) (ps : List Str) (Pre : List D → Prop) (Post : List D → Rs → Prop) : Prop where
  ex : ∃ P, C2 Pg w K mg base x j ps P ∧ ∀ n m ds, Pre ds → ∃ r n' m', Post ds r ∧ P (po n) (po m) ds r (po n') (po m')
theorem cq_mk {Pg : Program} {w : World} {K : PySem.W.Frag} {mg : Str → Option Value} {base : Heap} {x : Str} {st : Stmt} {N ps : List Str} {k : Nat} {Pre : List D → Prop} {Post : List D → Rs → Prop} (Dd : Df K mg x st []) (Sc : FnScope N ps (defScope st)) (bd : BindsN x st ps) (hn : ps.length ≤ N.length) (hl : ∀ ds, Pre ds → ds.length + 2 = ps.length)
    (hb : ∀ n m ds, Pre ds → ∃ r n' m', Post ds r ∧ (∀ j, r ≠ .br j) ∧ ∀ f cd A outer s H E, Gd k (cx Pg w K mg base N x (defScope st) f cd A outer s H E) → ∀ p q, ∃ Γ', Ends1 (cx Pg w K mg base N x (defScope st) f cd A outer s H E) (.pr p (po n) :: .pr q (po m) :: ent N.tail.tail ds) (defBody st) r Γ' ∧ Γ'[0]? = some (.pr p (po n')) ∧ Γ'[1]? = some (.pr q (po m'))) : Cq Pg w K mg base x (k + 1) ps Pre Post := by
  refine ⟨fun o u ds r o' u' => ds.length + 2 = ps.length ∧ (∀ j, r ≠ .br j) ∧ ∀ f cd A outer s H E, Gd k (cx Pg w K mg base N x (defScope st) f cd A outer s H E) → ∀ p q, ∃ Γ', Ends1 (cx Pg w K mg base N x (defScope st) f cd A outer s H E) (.pr p o :: .pr q u :: ent N.tail.tail ds) (defBody st) r Γ' ∧ Γ'[0]? = some (.pr p o') ∧ Γ'[1]? = some (.pr q u'), ?_, fun n m ds pre => ?_⟩
  · exact c2_mk Dd Sc bd hn (fun o u ds r o' u' h => ⟨h.1, h.2.1⟩) fun f cd A outer s H E g o u ds r o' u' h p q => h.2.2 f cd A outer s H E g p q
  · obtain ⟨r, n', m', h1, h2, h3⟩ := hb n m ds pre
    exact ⟨r, n', m', h1, hl ds pre, h2, h3⟩
/-- turns, one behind another, each with what the one before left -/
theorem seq_ex {α : Type} (I : α → Prop) (T : Nat → α → α → Prop) (a : α) (h0 : I a) (hs : ∀ i a, I a → ∃ b, T i a b ∧ I b) : ∃ s : Nat → α, s 0 = a ∧ ∀ i, I (s i) ∧ T i (s i) (s (i + 1)) := by
  have h : ∀ i (x : {a // I a}), ∃ y : {a // I a}, T i x.1 y.1 := fun i x => let ⟨b, h1, h2⟩ := hs i x.1 x.2; ⟨⟨b, h2⟩, h1⟩
  let f : Nat → {a // I a} := Nat.rec ⟨a, h0⟩ fun i x => Classical.choose (h i x)
  exact ⟨fun i => (f i).1, rfl, fun i => ⟨(f i).2, Classical.choose_spec (h i (f i))⟩⟩
section
variable {X : Cx} {Γ Γ1 Γ2 : Gm} {a b : Ex} {pos : Pos} {d : D} {ds : List D} {i : Int} {n : Nat} {s : Sl}
/-- xs[i], xs a list of one's own -/
theorem e_ixO (h1 : EX X Γ a (.br n) Γ1) (h2 : EX X Γ1 b (.sh (.int i)) Γ2) (hs : Has Γ2 n s (.lst ds)) (ha : atI ds i = some d) (hp : PlainIx b := by exact fun _ _ => rfl) : EX X Γ (.Subscript a b pos) (.sh d) Γ2 := fun F σ H S Q R q => by
  refine pe_we (pe_ix ix_list we_pe we_pe hp) (h1 F σ H S _ R fun x H1 S1 R1 s1 r1 => h2 F σ H1 S1 _ R1 fun y H2 S2 R2 s2 r2 => ?_)
  obtain ⟨p, rfl, own1⟩ := r1
  obtain ⟨p', own2, vs, hl, rp⟩ := R2.has hs
  obtain rfl := own1.eq own2
  obtain ⟨v, e1, e2⟩ := rp.atI ha
  exact ⟨p, vs, i, v, rfl, r2, .of hl, e1, q v H2 S2 R2 (s1.trans s2) e2⟩
/-- a, b, .. = a list -/
theorem g_lst {tgs : List Ex} {kk : Nat} (hc : X.calm = true) (h : GsX X tgs Γ ds Γ1) (hn : (assignEach tgs X.env).length = ds.length := by rfl) (hst : (assignEach tgs X.env).findIdx? (·.1) = none := by rfl) : GX X (.Tuple tgs kk pos) Γ (.lst ds) Γ1 := fun F σ H S v Q R ok k => by
  obtain ⟨p, vs, rfl, h1, h2⟩ := ok
  exact pg_wg (pg_unl hc wgs_pgs hn hst) ⟨p, vs, rfl, .of (R.sh _ _ h1), h2.length.symm, h F σ H S vs Q R h2 k⟩
/-- isinstance of own classes -/
structure Ic (K : PySem.W.Frag) (C : Addr) : Prop where
  ins : C8.InsC K C
  no : ∀ t ∈ ["NoneType", "bool", "int", "str", "tuple", "list", "dict"], PySem.W.kitOne K (.type t) (.ref C) = some false
theorem c_isC {C : Addr} {ns : List Str} {fs : List D} (c : Ic X.K C) : CallS X (.builtin "isinstance") [.obj C ns fs, .raw (.ref C)] (.sh (.bl true)) := calls_sc (C8.call_isC c.ins) (.bl true) (fun _ => rfl) fun H S vs Q s r q => by
  obtain ⟨v, w, rfl, r1, r2⟩ := reps2 r
  obtain ⟨p, dx, us, rfl, h1, _, _⟩ := r1
  obtain rfl : w = V.ref C := r2
  exact ⟨p, dx, _, rfl, s _ _ h1, q⟩
theorem c_isNo {C : Addr} (c : Ic X.K C) (hp : d.plain = true) : CallS X (.builtin "isinstance") [d, .raw (.ref C)] (.sh (.bl false)) := calls_sc call_isi (.bl false) (fun _ => rfl) fun H S vs Q s r q => by
  obtain ⟨v, w, rfl, r1, r2⟩ := reps2 r
  obtain rfl : w = V.ref C := r2
  exact ⟨v, _, _, _, false, rfl, .own C, tyx_of hp s r1, c.no _ (ty_mem hp), q⟩
theorem c_isOth {C C' : Addr} {ns : List Str} {fs : List D} (c : Ic X.K C) (hk : PySem.W.kitOne X.K (.ref C) (.ref C') = some false) : CallS X (.builtin "isinstance") [.obj C ns fs, .raw (.ref C')] (.sh (.bl false)) := calls_sc call_isi (.bl false) (fun _ => rfl) fun H S vs Q s r q => by
  obtain ⟨v, w, rfl, r1, r2⟩ := reps2 r
  obtain ⟨p, dx, us, rfl, h1, _, _⟩ := r1
  obtain rfl : w = V.ref C' := r2
  exact ⟨_, _, _, _, false, rfl, .own C', .base (.ins (s _ _ h1) c.ins.cl c.ins.ha c.ins.hn c.ins.htk c.ins.hm), hk, q⟩
end
end PL

set_option Elab.async false
set_option linter.all false
set_option maxRecDepth 100000
set_option maxHeartbeats 1000000
namespace PL
open PySem PySem.Spec PyProof.Rows L2
section
variable {X : Cx} {Γ Γ1 Γ2 : Gm} {a b : Ex} {pos : Pos} {k' : Nat}
/-- two new objects at once -/
theorem e_two {Q : VK} {e e' : Ex} {o u : Ob} {F : Fr} {σ : L2.St} {H S : Hp} (R : RS X.K F Γ σ H S) (h : EX X Γ e (.ow o) Γ1) (h' : EX X Γ1 e' (.ow u) Γ2) {Q2 : V → V → Hp → Prop}
    (q : ∀ v v2 H2 S2, RS X.K F Γ2 σ H2 S2 → Same S S2 → RsOk X.K F Γ2 σ H2 S2 (.ow o) v → RsOk X.K F Γ2 σ H2 S2 (.ow u) v2 → v ≠ v2 → Q2 v v2 H2) : WE X e σ H fun v H1 => WE X e' σ H1 fun v2 H2 => Q2 v v2 H2 := by
  refine h F σ H S _ R fun v H1 S1 R1 s1 ok => ?_
  obtain ⟨a, rfl, n1, n2, obr, no⟩ := ok
  have Rb := R1.rebase
  obtain ⟨y, hy⟩ := obr.there
  refine h' _ σ H1 S1 _ Rb fun v2 H2 S2 R2 s2 ok2 => ?_
  obtain ⟨a2, rfl, m1, m2, obr2, no2⟩ := ok2
  have ka : H2 a = some y := R2.kp a y no hy
  have na : S2 a = none := R2.new a y hy no n1
  have R3 := R1.back R2
  have nea : a ≠ a2 := fun z => by
    have m2' : H1 a2 = none := m2
    rw [← z, hy] at m2'; cases m2'
  have noa : ¬ Own Γ2 σ a := fun ⟨i, ow⟩ => by
    rcases (R2.own ow).2.1 with z | z
    · have z' : H1 a = none := z
      rw [hy] at z'; cases z'
    · exact no z
  have ob1 : ObR X.K S2 H2 a o := obr.mono s2 fun z hz => by rw [hy] at hz; cases hz; exact ka
  have h0a2 : F.H0 a2 = none := R1.h0None m2
  exact q _ _ H2 S2 R3 (s1.trans s2) ⟨a, rfl, na, n2, ob1, noa⟩ ⟨a2, rfl, m1, h0a2, obr2, no2⟩ (fun z => nea (by cases z; rfl))
/-- a, b = x, y: two local names, two new objects -/
theorem s1_par2 (i j : Nat) {x y : Str} {px py pt : Pos} {kt k2 pt2} {o u : Ob} (g : Gd k' X) (h : EX X Γ a (.ow o) Γ1) (h' : EX X Γ1 b (.ow u) Γ2) (hl : i < Γ2.length := by exact Nat.le_of_ble_eq_true rfl) (hl2 : j < Γ2.length := by exact Nat.le_of_ble_eq_true rfl) (hij : i ≠ j := by decide) (hi : X.N[i]? = some x := by rfl) (hj : X.N[j]? = some y := by rfl)
    (hx : X.env.scope.names.lookup x = some .local := by rfl) (hy : X.env.scope.names.lookup y = some .local := by rfl)
    (hw : swappedStores [.Tuple [.Name x px, .Name y py] kt pt] (.Tuple [a, b] k2 pt2) X.env = pure (some [x, y]) := by rfl) (hs : swapsWithSole [.Tuple [.Name x px, .Name y py] kt pt] (.Tuple [a, b] k2 pt2) pos.line X.env = pure false := by rfl)
    (he : starEach [a, b] X.env = (false, eval a X.env) :: starEach [b] X.env := by rfl) (he2 : starEach [b] X.env = (false, eval b X.env) :: starEach [] X.env := by rfl) :
    S1 X Γ (.Assign [.Tuple [.Name x px, .Name y py] kt pt] (.Tuple [a, b] k2 pt2) pos) (.nx ((Γ2.set i (.ow o)).set j (.ow u))) := fun F σ H S D R q => by
  refine ps_w1 (ps_par g.calm g.nd hi hj hij hx hy (pa_cons we_pe (pa_cons we_pe pa_nil he2) he) hw hs) (e_two (Q := fun _ _ => True) R h h' fun v v2 H2 S2 R2 s2 ok1 ok2 ne => ?_)
  have R3 := R2.put (i := i) hl ok1 (fun _ z => by cases z)
  refine ⟨v, v2, rfl, q _ H2 S2 (R3.put (r := .ow u) (i := j) (by rw [List.length_set]; exact hl2) ?_ (fun _ z => by cases z)) s2⟩
  obtain ⟨a1, rfl, _⟩ := ok1
  obtain ⟨a2, rfl, m1, m2, ob2, no2⟩ := ok2
  refine ⟨a2, rfl, m1, m2, ob2, fun ⟨l, ow⟩ => ?_⟩
  by_cases hli : l = i
  · subst hli
    have hlσ : l < σ.length := by rw [← R2.len]; exact hl
    have q2 := ow.2
    rw [List.getElem?_set_self hlσ] at q2
    exact ne (by cases q2; rfl)
  · refine no2 ⟨l, ?_⟩
    obtain ⟨p1, p2⟩ := ow
    rw [List.getElem?_set_ne (Ne.symm hli)] at p2
    simp only [Rs.sl, List.getElem?_set_ne (Ne.symm hli)] at p1
    exact ⟨p1, p2⟩
end
section
variable {X : Cx}
theorem tups_flat : ∀ tss : List (List Str), D.flats (tss.map dT) = true
  | [] => rfl
  | ts :: tss => by
    show (D.flats (ts.map .str) && D.flats (tss.map dT)) = true
    rw [strs_flat, tups_flat tss]; rfl
theorem tups_py : ∀ tss : List (List Str), D.pys (tss.map dT) = tss.map fun ts => .tuple (ts.map .str)
  | [] => rfl
  | ts :: tss => by
    show PyData.tuple (D.pys (ts.map .str)) :: D.pys (tss.map dT) = _
    rw [strs_py, tups_py tss]; rfl
theorem lay_tups : ∀ tss : List (List Str), (∀ ts ∈ tss, ∀ x ∈ ts, okS x) → PyData.canLayAll0 (tss.map fun ts => .tuple (ts.map .str)) = true ∧ PyData.depthAll (tss.map fun ts => .tuple (ts.map .str)) ≤ 1
  | [], _ => ⟨rfl, Nat.zero_le _⟩
  | ts :: tss, h => by
    obtain ⟨h1, h2⟩ := lay_tups tss fun y hy => h y (List.mem_cons_of_mem _ hy)
    obtain ⟨g1, g2⟩ := lay_strs ts (h ts (List.mem_cons_self ..))
    refine ⟨?_, ?_⟩
    · show (PyData.canLayAll0 (ts.map .str) && PyData.canLayAll0 (tss.map fun ts => .tuple (ts.map .str))) = true
      rw [g1, h1]; rfl
    · show max (PyData.depthAll (ts.map .str) + 1) (PyData.depthAll (tss.map fun ts => .tuple (ts.map .str))) ≤ 1
      rw [g2]; omega
theorem cmp_dTs {tss : List (List Str)} (h : ∀ ts ∈ tss, ∀ x ∈ ts, okS x) : Cmp (.lst (tss.map dT)) := by
  refine ⟨tups_flat tss, ?_⟩
  show SeqAt.shaped (.list (D.pys (tss.map dT))) = true
  rw [tups_py]
  obtain ⟨h1, h2⟩ := lay_tups tss h
  exact shaped_of h1 (by show PyData.depthAll _ + 1 ≤ 64; omega)
theorem o_neSelf {d : D} (hu : X.A.units + 64 < cLine) (h : Cmp d) : OpS X (compareOp .NotEq) d d (.sh (.bl false)) := by
  have h1 := o_neD hu h h
  have e : PyData.eqv d.py d.py = true := by
    have h2 := h.2
    unfold SeqAt.shaped at h2
    exact SeqAt.eqv_refl _ (Bool.and_eq_true_iff.mp h2).1
  rw [e] at h1
  exact h1
end
end PL
namespace PL
open PySem
/-- the body of the for that stands first -/
def fBody : List Stmt → List Stmt
  | (.For _ _ b _ _) :: _ => b
  | _ => []
end PL

set_option Elab.async false
set_option linter.all false
set_option maxRecDepth 100000
set_option maxHeartbeats 1000000
/-! a list of texts: how often a text stands in it -/
namespace PL
open PySem PySem.Spec PyProof.Rows L2
def eqx (k : Str) (v : Value) : Bool := match v with
  | .str x _ => x.cps.toList == k.cps.toList
  | _ => false
theorem eqx_gives {k : Str} {t : Tok} : ∀ {us : List Value} {xs : List Str}, StrsAre us xs → ∀ y ∈ us, MeetsSeq.EqGives y (.str k t) (eqx k y)
  | _, _, .nil => fun y hy => by cases hy
  | _, _, .cons x t' h => fun y hy => (List.mem_cons.mp hy).elim (fun e => by rw [e]; exact SeqRoads2.EqGives.str x k t' t) fun e => eqx_gives h y e
theorem eqx_count {k : Str} : ∀ {us : List Value} {xs : List Str}, StrsAre us xs → us.countP (eqx k) = xs.count k
  | _, _, .nil => rfl
  | _, _, .cons x t h => by
    rw [List.countP_cons, List.count_cons, eqx_count h]
    have e : eqx k (.str x t) = (x == k) := by
      show (x.cps.toList == k.cps.toList) = (x == k)
      by_cases z : x = k
      · rw [z, beq_self_eq_true, beq_self_eq_true]
      · rw [beq_eq_false_iff_ne.mpr z, beq_eq_false_iff_ne]
        intro q
        apply z
        cases x; cases k
        simp only [Str.mk.injEq]
        exact Array.toList_inj.mp q
    rw [e]
def rCntS (K : PySem.W.Frag) : V → List V → Hp → VK → Prop := fun x xs H Q => ∃ (p : Addr) (ts : List Str) (k : Str), x = .ref p ∧ xs = [.str k] ∧ SqL K H p (ts.map V.str) ∧ Q (.int (ts.count k : Nat)) H
section
variable {X : Cx}
theorem mt_cntS : MtR X "list.count" (rCntS X.K) := by
  intro pins s σ H x xs v us Q I rx rxs h
  obtain ⟨p, ts, k, rfl, rfl, hs, q⟩ := h
  cases rx
  obtain ⟨u, rfl, t, rfl⟩ := rxs.one
  obtain ⟨its, rv, ⟨⟨cls, dd, data, sl⟩, n, ho, hc, hdn, hd⟩, hlen⟩ := I.list hs
  simp only at hc hd
  subst hc hd
  have hi := rv.strs
  refine call_meets PySem.F.slot_list_count ⟨_, ho, rfl⟩ PySem.F.entry_list_count (PySem.F.args_list_count_2 _ _) (SeqAt.list_countAt p its.toArray n dd sl (.str k t) (eqx k)) ⟨ho, fun y hy => (eqx_gives hi y (by simpa using hy)).at _ _, ?_⟩
  refine ⟨.int (ts.count k : Nat), H, I.tok _, ⟨s.toks, ?_⟩, q⟩
  show Value.int ((its.toArray.toList.countP (eqx k) : Nat) : Int) s.toks = Value.int ((ts.count k : Nat) : Int) s.toks
  rw [show its.toArray.toList.countP (eqx k) = ts.count k from eqx_count hi]
variable {Γ Γ1 Γ2 : Gm} {e o : Ex} {pos apos : Pos} {ts : List Str} {k : Str}
/-- o.count(e) -/
theorem e_count (ho : EX X Γ o (.sh (dL ts)) Γ1) (he : EX X Γ1 e (.sh (.str k)) Γ2) (hbase : attributeBase o "count" X.env (eval o X.env) = eval o X.env := by rfl)
    (hfew : ((backTo pos (starEach [e] X.env)).all (fun x => !x.1) && (backToKw pos (keywordEach [] X.env)).all (fun x => x.1.isSome)
      && decide ([e].length + ([] : List Keyword).length + (if ([] : List Keyword).isEmpty then 0 else 1) < 30)) = true := by rfl)
    (hline : (apos.endLine == pos.line) = true := by rfl) (hs : starEach [e] X.env = (false, eval e X.env) :: starEach [] X.env := by rfl) (hplain : (backTo pos (starEach [] X.env)).any (·.1) = false := by rfl) : EX X Γ (.Call (.Attribute o "count" apos) [e] [] pos) (.sh (.int (ts.count k : Nat))) Γ2 := fun F σ H S Q R q => by
  refine pe_we (pe_bm PySem.F.plainAttrs_list PySem.F.slot_list_count PySem.F.type_list_count mt_cntS we_pe (pa_cons we_pe pa_nil hs) hbase hfew hline hs hplain) (ho F σ H S _ R fun v H1 S1 R1 s1 ok => ?_)
  obtain ⟨a, vs, rfl, h1, h2⟩ := ok
  rw [h2.strs] at h1
  refine ⟨.inl ⟨rfl, _, .of (R1.sh _ _ h1)⟩, he F σ H1 S1 _ R1 fun u H2 S2 R2 s2 ok2 => ?_⟩
  exact ⟨a, ts, k, rfl, by rw [show u = V.str k from ok2], .of (R2.sh _ _ (s2 _ _ h1)), q _ H2 S2 R2 (s1.trans s2) rfl⟩
end
end PL

set_option Elab.async false
set_option linter.all false
set_option maxRecDepth 100000
set_option maxHeartbeats 1000000
/-! len(o), o an instance whose class has its own __len__ -/
namespace PL
open PySem PySem.Spec PyProof.Rows L2
section
variable {X : Cx} {n : Nat}
def rLenO (C : Addr) (sp : Sp) (E : XK) : List V → Hp → VK → Prop := fun vs H Q => ∃ (a dx : Addr) (fs : List (Str × V)), vs = [.ref a] ∧ H a = some (.ins C dx fs) ∧ sp [.ref a] H (fun v H' => ∃ z : Nat, v = .int z ∧ (z : Int) < 2 ^ 62 ∧ Q (.int z) H') E
theorem cr_lenO {CX : CXT} {C f : Addr} {fd : FuncData} {ps : List Str} {sp : Sp} {E : XK} (F : FnOk X.prog X.w X.K X.mg X.base CX n f fd ps sp) (hm : Meth X.K C "__len__" f) (hb : Binds X.K fd ps []) (hx : Passes CX X E) (hr : Room (n + 1) X.A) : CallR X (.builtin "len") (rLenO C sp E) := by
  intro pins s σ H vs us Q I r h
  obtain ⟨a, dx, fs, rfl, ha, hsp⟩ := h
  rw [Vals.ref1 r]
  obtain ⟨mA, J, _⟩ := ins_get I.hok ha
  obtain ⟨od, J, _⟩ := J.look
  have sp0 : PySem.W.Looks (model X.prog X.w) s.heap (specialOf (.ref a) "__len__") (some (.ref f)) := J.type.andThen (PySem.W.looks_findIn I.kIn hm.at_)
  have bn := PySem.W.bind_fn (M := model X.prog X.w) (h := s.heap) I.kIn (f := f) (.ref a) (beq_iff_eq.mp hm.fn)
  refine Calls.call_function_entry kind_len plain_len entry_len (args_len1 _) ?_
  unfold Builtin.«len»
  refine wpAny_bind (m := oneArg "len" _) (wpAny_pure ?_)
  refine wpAny_bind (m := callSpecial? (.ref a) (PySem.Str.ofString "__len__")) ?_
  simp only [callSpecial?]
  refine wpAny_bind (sp0.here ?_)
  refine wpAny_holding (wpAny_bind (bn.here (wpAny_bind ?_)))
  have e0 : Env0 X.prog X.w X.K X.mg X.base X.A.in1 X.stack s H := by
    have e := I.env0
    exact ⟨e.frames, e.mod, e.bs, e.bsz, e.funs, e.frf, e.hok, e.bare⟩
  have hl := F.len _ _ _ _ hsp
  refine wpAny_call (codeAny_mono (F.run X.A.in1 X.stack s H ⟨[.ref a], []⟩ [.ref a] [.ref a] _ E hr.in1 e0 (by
    have := hb s [.ref a] I.kIn (by simpa using hl)
    simpa using this) (.cons rfl .nil) hsp) fun r s' hq => ?_)
  cases r with
  | error e => exact hx pins σ H s e s' I hq
  | ok fl =>
    cases fl with
    | ret u =>
      obtain ⟨v, H', I', rv, z, rfl, hz, q⟩ := I.after hq
      obtain ⟨t, rfl⟩ := rv
      refine wpAny_pure ?_
      refine wpAny_bind (wpAny_holding (wpAny_pure ?_))
      refine wpAny_bind (wpAny_letGo ?_)
      show wpAny _ _ (if ((z : Nat) : Int) < 0 then _ else _) _ _ _
      rw [if_neg (by omega)]
      show wpAny _ _ (if ((z : Nat) : Int) ≥ 2 ^ 63 then _ else _) _ _ _
      rw [if_neg (by omega)]
      exact wpAny_bind (wpAny_mkInt (wpAny_pure ⟨_, rfl, .int z, H', I'.tok _, ⟨_, rfl⟩, q⟩))
    | next => exact False.elim hq
    | brk => exact False.elim hq
    | cont => exact False.elim hq
theorem c_lenO {P : List D → Rs → Prop} {C : Addr} {ns ps : List Str} {fs : List D} {j k z : Nat} (G : M0 X.prog X.w X.K X.mg X.base C "__len__" j ps P) (g : Gd k X) (hp : P [.obj C ns fs] (.sh (.int (z : Nat)))) (hz : (z : Int) < 2 ^ 62) (hk : j + 1 ≤ k := by decide) : CallS X (.builtin "len") [.obj C ns fs] (.sh (.int (z : Nat))) := by
  obtain ⟨f, fd, hm, b, Fo⟩ := G.ex
  refine ⟨_, cr_lenO (E := E0) Fo hm b passL (g.rm.mono hk), fun Γ F σ H S vs Q R r q => ?_⟩
  obtain ⟨v, rfl, rp⟩ := reps1 r
  obtain ⟨a, dx, ws, rfl, h1, h2, h3⟩ := id rp
  refine ⟨a, dx, _, rfl, R.sh _ _ h1, S, [_], .sh (.int (z : Nat)), hp, R.sh, .one rp, fun v H' S' t => ⟨z, t.res, hz, ?_⟩⟩
  obtain ⟨R2, ok2⟩ := R.after0 t
  exact q _ H' S' R2 t.ss rfl
end
end PL

set_option Elab.async false
set_option linter.all false
set_option maxRecDepth 100000
set_option maxHeartbeats 1000000
/-! == and != by an own __eq__ -/
namespace PL
open PySem PySem.Spec PyProof.Rows L2
section
variable {prog : Program} {w : World} {A : Around} {E : Value → Shared → Prop} {s : Shared} {K : PySem.W.Frag} {x C L f : Addr} {h₀ : Heap} {m : Str → Option Value} {ox : Obj} {od : Option Obj} {name : Str} {b tb : Value}
open PySem.W
/-- a special method that is a slot of object -/
theorem ifBound_B {M : Model} {id : String} {args : List Value} {Q : Option Value → Shared → Prop} (X : K.In s.heap) (I : InstAt s.heap x ox C od) (hs : findIn K (.ref C) name = some (some (.builtin id))) (hb : ∀ self, bindSpecial (.builtin id) self = pure (.builtin id, [self]))
    (h : wpAny M A (call (.builtin id) (.ref x :: args)) (fun v => Q (some v)) E s) : wpAny M A (callSpecialIfBound? (.ref x) name args) Q E s := by
  simp only [callSpecialIfBound?, bindSpecialIfBound?]
  refine wpAny_holding (wpAny_bind (wpAny_bind (wpAny_bind (I.type.here ((looks_findIn X hs).here ?_)))))
  refine wpAny_bind (wpAny_askSetting (wpAny_ite ?_))
  have fin : wpAny M A (call (.builtin id) ([.ref x] ++ args) >>= fun v => pure (some v)) Q E s := wpAny_bind (wpAny_mono h (fun v s' h' => wpAny_pure h') fun _ _ h' => h')
  split
  · exact wpAny_bind ((Looks.of_pure (hb _)).here (wpAny_pure (by exact fin)))
  · exact wpAny_tryCatch (wpAny_bind ((Looks.of_pure (hb _)).here (wpAny_pure (by exact fin))))
theorem cmp_KNe {Q : Value → Shared → Prop} (hu : A.units + 1 < cLine) (F : PyProof.Rows.Fr h₀ L s.heap m) (X₀ : K.In h₀) (I : InstAt s.heap x ox C od) (hb : Looks (model prog w) s.heap (typeOf b) tb) (hn : notFirst K C tb = true)
    (hs : findIn K (.ref C) "__ne__" = some (some (.builtin "object.__ne__"))) (hm : mroIn K C (.type "object") = some true) (he : findIn K (.ref C) "__eq__" = some (some (.ref f))) (hf : isFn K (.ref f) = true)
    (h : wpAny (model prog w) A.in1 (call (.ref f) [.ref x, b]) (fun v s' => ∃ k, v = .bool k ∧ Q (.bool (!k)) s') E s) : wpAny (model prog w) A (richCompare .NotEq (.ref x) b) Q E s := by
  have X := X₀.keeps F.keep
  have one : wpAny (model prog w) A (tryCompare (.ref x) "__ne__" b) (fun r s' => ∃ v, r = some v ∧ Q v s') E s := by
    unfold tryCompare
    refine wpAny_bind (ifBound_B X I hs PySem.F.slot_object_ne.bind (wpAny_call (codeAny_call_builtin PySem.F.slot_object_ne.plain PySem.F.cmpEntry_ne (check_slot (i := "object.__ne__") (owner := "object") (n := "__ne__") PySem.F.cmpKind_ne PySem.F.cmpSplit_ne (I.type.andThen (looks_mroIn X hm)) (PySem.F.cmpArgs_ne _ _) ?_))))
    unfold Builtin.«object.__ne__»
    refine wpAny_bind (m := slotArgs "__ne__" 1 _) (wpAny_pure ?_)
    refine wpAny_bind (m := cRoomFor _ _) (wpAny_cRoomFor (by exact hu) ?_)
    refine wpAny_bind (m := callSpecialIfBound? (.ref x) (Str.ofString "__eq__") [b]) (ifBound_K X I he hf (wpAny_mono h (fun v s' hv => ?_) fun _ _ e => e))
    obtain ⟨k, rfl, q⟩ := hv
    refine wpAny_bind (m := truthy (.bool k)) (wpAny_truthy_bool (wpAny_pure ?_))
    exact wpAny_pure ⟨_, rfl, q⟩
  unfold richCompare
  simp only [oneThing_ref]
  refine wpAny_holding (wpAny_bind (wpAny_cRoomFor (Nat.lt_of_succ_lt hu) ?_))
  refine wpAny_bind (I.type.here (wpAny_bind (hb.here ?_)))
  split
  · rename_i q
    have e : subIn K tb (.ref C) = some false := by
      rcases Bool.or_eq_true_iff.mp hn with e | e
      · rw [beq_iff_eq.mp e] at q; simp at q
      · exact beq_iff_eq.mp e
    refine wpAny_bind ((looks_subIn X e).here ?_)
    simp only [Bool.false_eq_true, if_false]
    refine wpAny_bind (wpAny_mono one (fun r s' z => ?_) fun _ _ e => e)
    obtain ⟨v, rfl, hq⟩ := z
    exact wpAny_pure hq
  · refine wpAny_bind (wpAny_pure ?_)
    simp only [Bool.false_eq_true, if_false]
    refine wpAny_bind (wpAny_mono one (fun r s' z => ?_) fun _ _ e => e)
    obtain ⟨v, rfl, hq⟩ := z
    exact wpAny_pure hq
end
section
variable {X : Cx} {n : Nat}
def rOwnEq (K : PySem.W.Frag) (C : Addr) (sp : Sp) (E : XK) (neg : Bool) : R2 := fun x y H Q => ∃ (a dx : Addr) (fs : List (Str × V)) (t : Value), x = .ref a ∧ H a = some (.ins C dx fs) ∧ TyX K H y t ∧ PySem.W.notFirst K C t = true ∧ sp [.ref a, y] H (fun v H' => ∃ k, v = .bl k ∧ Q (.bl (neg != k)) H') E
theorem run_own {CX : CXT} {f : Addr} {fd : FuncData} {ps : List Str} {sp : Sp} {E : XK} {A : Around} {σ : L2.St} {H : Hp} {pins : List (Addr × Obj)} {s : Shared} {a : Addr} {y : V} {u : Value} {R : V → Hp → Prop} (F : FnOk X.prog X.w X.K X.mg X.base CX n f fd ps sp) (hb : Binds X.K fd ps []) (hx : Passes CX X E) (hr : Room n A) (hA : A.frames = X.A.frames) (I : Inv X pins σ H s) (ry : RelV y u) (hsp : sp [.ref a, y] H (fun v H' => R v H') E) :
    wpAny (model X.prog X.w) A (call (.ref f) [.ref a, u]) (fun w s' => ∃ v H', Inv X pins σ H' s' ∧ RelV v w ∧ R v H') X.xe s := by
  have e0 : Env0 X.prog X.w X.K X.mg X.base A X.stack s H := by
    have e := I.env0
    exact ⟨by rw [hA]; exact e.frames, e.mod, e.bs, e.bsz, e.funs, e.frf, e.hok, e.bare⟩
  have hl := F.len _ _ _ _ hsp
  refine wpAny_call (codeAny_mono (F.run A X.stack s H ⟨[.ref a, u], []⟩ [.ref a, u] [.ref a, y] _ E hr e0 (by
    have := hb s [.ref a, u] I.kIn (by simpa using hl)
    simpa using this) (.cons rfl (.cons ry .nil)) hsp) fun r s' hq => ?_)
  cases r with
  | error e => exact hx pins σ H s e s' I hq
  | ok fl =>
    cases fl with
    | ret w =>
      obtain ⟨z, H', I', rz, q⟩ := I.after hq
      exact ⟨z, H', I', rz, q⟩
    | next => exact False.elim hq
    | brk => exact False.elim hq
    | cont => exact False.elim hq
theorem op_ownEq {CX : CXT} {C f : Addr} {fd : FuncData} {ps : List Str} {sp : Sp} {E : XK} (F : FnOk X.prog X.w X.K X.mg X.base CX n f fd ps sp) (hm : Meth X.K C "__eq__" f) (hb : Binds X.K fd ps []) (hx : Passes CX X E) (hr : Room n X.A) : OpR X (compareOp .Eq) (rOwnEq X.K C sp E false) := by
  intro pins s σ H x y v u Q I rx ry h
  obtain ⟨a, dx, fs, t, rfl, ha, ty, hn, hsp⟩ := h
  cases rx
  obtain ⟨mA, J, _⟩ := ins_get I.hok ha
  obtain ⟨od, J, _⟩ := J.look
  obtain ⟨m, hF⟩ := I.fr
  obtain ⟨P, Z, p, _⟩ := kit_of I ry ty
  show wpAny (model X.prog X.w) X.A (richCompare .Eq (.ref a) u) (EP X pins σ Q) X.xe s
  refine PySem.W.cmp_K (op := .Eq) (tb := t) hr.units0 hF I.ok.mod.kin J (Z.ty _ _ I.kIn p) hn hm.at_ hm.fn ?_
  refine wpAny_mono (run_own F hb hx hr rfl I ry hsp) (fun r s' z => ?_) fun _ _ e => e
  obtain ⟨z, H', I', rz, k, rfl, q⟩ := z
  cases rz
  exact ⟨.bl k, H', I', rfl, by simpa using q⟩
theorem op_ownNe {CX : CXT} {C f : Addr} {fd : FuncData} {ps : List Str} {sp : Sp} {E : XK} (F : FnOk X.prog X.w X.K X.mg X.base CX n f fd ps sp) (hm : Meth X.K C "__eq__" f) (hne : PySem.W.findIn X.K (.ref C) "__ne__" = some (some (.builtin "object.__ne__"))) (hob : PySem.W.mroIn X.K C (.type "object") = some true) (hb : Binds X.K fd ps []) (hx : Passes CX X E) (hr : Room (n + 1) X.A) : OpR X (compareOp .NotEq) (rOwnEq X.K C sp E true) := by
  intro pins s σ H x y v u Q I rx ry h
  obtain ⟨a, dx, fs, t, rfl, ha, ty, hn, hsp⟩ := h
  cases rx
  obtain ⟨mA, J, _⟩ := ins_get I.hok ha
  obtain ⟨od, J, _⟩ := J.look
  obtain ⟨m, hF⟩ := I.fr
  obtain ⟨P, Z, p, _⟩ := kit_of I ry ty
  show wpAny (model X.prog X.w) X.A (richCompare .NotEq (.ref a) u) (EP X pins σ Q) X.xe s
  refine cmp_KNe (tb := t) hr.in1.units0 hF I.ok.mod.kin J (Z.ty _ _ I.kIn p) hn hne hob hm.at_ hm.fn ?_
  refine wpAny_mono (run_own (A := X.A.in1) F hb hx hr.in1 rfl I ry hsp) (fun r s' z => ?_) fun _ _ e => e
  obtain ⟨z, H', I', rz, k, rfl, q⟩ := z
  cases rz
  exact ⟨k, rfl, .bl (!k), H', I', rfl, by simpa using q⟩
end
section
variable {X : Cx}
/-- what == asks of the right one's class -/
structure Nf (K : PySem.W.Frag) (C : Addr) : Prop where
  ic : Ic K C
  ty : ∀ t ∈ ["NoneType", "bool", "int", "str", "tuple", "list", "dict"], PySem.W.notFirst K C (.type t) = true
  ne : PySem.W.findIn K (.ref C) "__ne__" = some (some (.builtin "object.__ne__"))
theorem Nf.me {K : PySem.W.Frag} {C : Addr} : PySem.W.notFirst K C (.ref C) = true := by
  unfold PySem.W.notFirst
  rw [beq_self_eq_true]; rfl
theorem o_own {P : List D → Rs → Prop} {C : Addr} {ns ps : List Str} {fs : List D} {d : D} {j k : Nat} {b : Bool} (G : M0 X.prog X.w X.K X.mg X.base C "__eq__" j ps P) (c : Nf X.K C) (g : Gd k X) (hd : (∃ ns' fs', d = .obj C ns' fs') ∨ d.plain = true) (hp : P [.obj C ns fs, d] (.sh (.bl b))) (hk : j ≤ k := by decide) : OpS X (compareOp .Eq) (.obj C ns fs) d (.sh (.bl b)) := by
  obtain ⟨f, fd, hm, hb, Fo⟩ := G.ex
  refine ⟨_, op_ownEq Fo hm hb passL (g.rm.mono hk), fun Γ F σ H S x y Q R r1 r2 q => ?_⟩
  have rr := Reps.cons r1 (.one r2)
  obtain ⟨p, dx, us, rfl, h1, h2, h3⟩ := r1
  have ht : ∃ t, TyX X.K H y t ∧ PySem.W.notFirst X.K C t = true := by
    rcases hd with ⟨ns', fs', rfl⟩ | hd
    · obtain ⟨p', dx', us', rfl, h1', _, _⟩ := r2
      exact ⟨_, .base (.ins (R.sh _ _ h1') c.ic.ins.cl c.ic.ins.ha c.ic.ins.hn c.ic.ins.htk c.ic.ins.hm), Nf.me⟩
    · exact ⟨_, tyx_of hd R.sh r2, c.ty _ (ty_mem hd)⟩
  obtain ⟨t, ht, hn⟩ := ht
  refine ⟨p, dx, _, t, rfl, R.sh _ _ h1, ht, hn, S, [.obj C ns fs, d], _, hp, R.sh, rr, fun v H' S' t => ?_⟩
  obtain ⟨R', ok⟩ := R.after0 t
  rw [show v = V.bl b from ok]
  exact ⟨b, rfl, by simpa using q _ H' S' R' t.ss rfl⟩
theorem o_ownNe {P : List D → Rs → Prop} {C : Addr} {ns ps : List Str} {fs : List D} {d : D} {j k : Nat} {b : Bool} (G : M0 X.prog X.w X.K X.mg X.base C "__eq__" j ps P) (c : Nf X.K C) (g : Gd k X) (hd : (∃ ns' fs', d = .obj C ns' fs') ∨ d.plain = true) (hp : P [.obj C ns fs, d] (.sh (.bl b))) (hk : j + 1 ≤ k := by decide) : OpS X (compareOp .NotEq) (.obj C ns fs) d (.sh (.bl (!b))) := by
  obtain ⟨f, fd, hm, hb, Fo⟩ := G.ex
  refine ⟨_, op_ownNe Fo hm c.ne c.ic.ins.hm hb passL (g.rm.mono hk), fun Γ F σ H S x y Q R r1 r2 q => ?_⟩
  have rr := Reps.cons r1 (.one r2)
  obtain ⟨p, dx, us, rfl, h1, h2, h3⟩ := r1
  have ht : ∃ t, TyX X.K H y t ∧ PySem.W.notFirst X.K C t = true := by
    rcases hd with ⟨ns', fs', rfl⟩ | hd
    · obtain ⟨p', dx', us', rfl, h1', _, _⟩ := r2
      exact ⟨_, .base (.ins (R.sh _ _ h1') c.ic.ins.cl c.ic.ins.ha c.ic.ins.hn c.ic.ins.htk c.ic.ins.hm), Nf.me⟩
    · exact ⟨_, tyx_of hd R.sh r2, c.ty _ (ty_mem hd)⟩
  obtain ⟨t, ht, hn⟩ := ht
  refine ⟨p, dx, _, t, rfl, R.sh _ _ h1, ht, hn, S, [.obj C ns fs, d], _, hp, R.sh, rr, fun v H' S' t => ?_⟩
  obtain ⟨R', ok⟩ := R.after0 t
  rw [show v = V.bl b from ok]
  exact ⟨b, rfl, by simpa using q _ H' S' R' t.ss rfl⟩
end
end PL

set_option Elab.async false
set_option linter.all false
set_option maxRecDepth 100000
set_option maxHeartbeats 1000000
/-! what the head tells of own classes for isinstance -/
namespace PL
open PySem PySem.Spec PyProof.Rows L2
theorem insB_ok {K : PySem.W.Frag} {x : Str} (c : Cls K (He.ga K x)) (h : insB K x = true) : Ic K (He.ga K x) := by
  unfold insB at h
  obtain ⟨h1, h⟩ := He.ba h
  obtain ⟨h2, h⟩ := He.ba h
  obtain ⟨h3, h⟩ := He.ba h
  obtain ⟨h4, h⟩ := He.ba h
  obtain ⟨h5, h6⟩ := He.ba h
  exact ⟨⟨c, He.eqO_ok h1, He.eqO_ok h2, of_decide_eq_true h3, of_decide_eq_true h4, of_decide_eq_true h5⟩, fun t ht => of_decide_eq_true (List.all_eq_true.mp h6 t ht)⟩
theorem nfB_ok {K : PySem.W.Frag} {x : Str} (c : Ic K (He.ga K x)) (h : nfB K x = true) : Nf K (He.ga K x) := by
  obtain ⟨h1, h2⟩ := He.ba h
  exact ⟨c, fun t ht => List.all_eq_true.mp h2 t ht, He.eqO_ok h1⟩
theorem othB_ok {K : PySem.W.Frag} {p : Str × Str} (h : othB K p = true) : PySem.W.kitOne K (.ref (He.ga K p.1)) (.ref (He.ga K p.2)) = some false := of_decide_eq_true h
end PL

set_option Elab.async false
set_option linter.all false
set_option maxRecDepth 100000
set_option maxHeartbeats 1000000
/-! texts: f-strings, join, str(o) by an own __str__ -/
namespace PL
open PySem PySem.Spec PyProof.Rows L2
section
variable {X : Cx} {Γ Γ1 Γ2 Γ3 : Gm} {a b c e o : Ex} {pos : Pos} {x y z : Str} {i : Int}
theorem e_fmtS (h : EX X Γ e (.sh (.str x)) Γ1) (hz : x.length ≤ sizeLine) : EX X Γ (.FormattedValue e (-1) none pos) (.sh (.str x)) Γ1 := fun F σ H S Q R q =>
  pe_we (pe_fmt we_pe) (h F σ H S _ R fun v H1 S1 R1 s1 ok => .inl ⟨x, ok, hz, q _ H1 S1 R1 s1 rfl⟩)
theorem e_fmtI (h : EX X Γ e (.sh (.int i)) Γ1) (hz : i.natAbs.log2 < 1920) : EX X Γ (.FormattedValue e (-1) none pos) (.sh (.str (toString i))) Γ1 := fun F σ H S Q R q =>
  pe_we (pe_fmt we_pe) (h F σ H S _ R fun v H1 S1 R1 s1 ok => .inr ⟨i, ok, hz, q _ H1 S1 R1 s1 rfl⟩)
theorem e_js2 (h1 : EX X Γ a (.sh (.str x)) Γ1) (h2 : EX X Γ1 b (.sh (.str y)) Γ2) (hz1 : (Str.empty ++ x).length ≤ sizeLine) (hz2 : (Str.empty ++ x ++ y).length ≤ sizeLine) : EX X Γ (.JoinedStr [a, b] pos) (.sh (.str (Str.empty ++ x ++ y))) Γ2 := fun F σ H S Q R q =>
  pe_we (pe_joined (.cons we_pe (.cons we_pe .nil))) (h1 F σ H S _ R fun v H1 S1 R1 s1 ok1 => ⟨x, ok1, hz1, h2 F σ H1 S1 _ R1 fun v H2 S2 R2 s2 ok2 => ⟨y, ok2, hz2, q _ H2 S2 R2 (s1.trans s2) rfl⟩⟩)
theorem e_js3 (h1 : EX X Γ a (.sh (.str x)) Γ1) (h2 : EX X Γ1 b (.sh (.str y)) Γ2) (h3 : EX X Γ2 c (.sh (.str z)) Γ3) (hz1 : (Str.empty ++ x).length ≤ sizeLine) (hz2 : (Str.empty ++ x ++ y).length ≤ sizeLine) (hz3 : (Str.empty ++ x ++ y ++ z).length ≤ sizeLine) : EX X Γ (.JoinedStr [a, b, c] pos) (.sh (.str (Str.empty ++ x ++ y ++ z))) Γ3 := fun F σ H S Q R q =>
  pe_we (pe_joined (.cons we_pe (.cons we_pe (.cons we_pe .nil)))) (h1 F σ H S _ R fun v H1 S1 R1 s1 ok1 => ⟨x, ok1, hz1, h2 F σ H1 S1 _ R1 fun v H2 S2 R2 s2 ok2 => ⟨y, ok2, hz2, h3 F σ H2 S2 _ R2 fun v H3 S3 R3 s3 ok3 => ⟨z, ok3, hz3, q _ H3 S3 R3 ((s1.trans s2).trans s3) rfl⟩⟩⟩)
theorem e_join {ys : List Str} {apos : Pos} (ho : EX X Γ o (.sh (.str x)) Γ1) (he : EX X Γ1 e (.sh (dL ys)) Γ2) (hz : (ys.map (·.length)).sum + ys.length * x.length ≤ 16777216) (hs : starEach [e] X.env = [(false, eval e X.env)] := by rfl) (hbase : attributeBase o "join" X.env (eval o X.env) = eval o X.env := by rfl) (hline : (apos.endLine == pos.line) = true := by rfl) :
    EX X Γ (.Call (.Attribute o "join" apos) [e] [] pos) (.sh (.str (Txt.join x ys))) Γ2 := fun F σ H S Q R q => by
  refine pe_we (pe_join we_pe we_pe hs hbase hline) (ho F σ H S _ R fun v H1 S1 R1 s1 ok1 => ?_)
  obtain rfl : v = .str x := ok1
  refine ⟨⟨_, rfl⟩, he F σ H1 S1 _ R1 fun v H2 S2 R2 s2 ok2 => ?_⟩
  obtain ⟨p, vs, rfl, h1, h2⟩ := ok2
  rw [h2.strs] at h1
  exact ⟨x, p, ys, rfl, rfl, .inl (.of (R2.sh _ _ h1)), hz, q _ H2 S2 R2 (s1.trans s2) rfl⟩
end
section
variable {X : Cx} {n : Nat}
theorem run_own1 {CX : CXT} {f : Addr} {fd : FuncData} {ps : List Str} {sp : Sp} {E : XK} {A : Around} {σ : L2.St} {H : Hp} {pins : List (Addr × Obj)} {s : Shared} {a : Addr} {R : V → Hp → Prop} (F : FnOk X.prog X.w X.K X.mg X.base CX n f fd ps sp) (hb : Binds X.K fd ps []) (hx : Passes CX X E) (hr : Room n A) (hA : A.frames = X.A.frames) (I : Inv X pins σ H s) (hsp : sp [.ref a] H (fun v H' => R v H') E) :
    wpAny (model X.prog X.w) A (call (.ref f) [.ref a]) (fun w s' => ∃ v H', Inv X pins σ H' s' ∧ RelV v w ∧ R v H') X.xe s := by
  have e0 : Env0 X.prog X.w X.K X.mg X.base A X.stack s H := by
    have e := I.env0
    exact ⟨by rw [hA]; exact e.frames, e.mod, e.bs, e.bsz, e.funs, e.frf, e.hok, e.bare⟩
  have hl := F.len _ _ _ _ hsp
  refine wpAny_call (codeAny_mono (F.run A X.stack s H ⟨[.ref a], []⟩ [.ref a] [.ref a] _ E hr e0 (by
    have := hb s [.ref a] I.kIn (by simpa using hl)
    simpa using this) (.cons rfl .nil) hsp) fun r s' hq => ?_)
  cases r with
  | error e => exact hx pins σ H s e s' I hq
  | ok fl =>
    cases fl with
    | ret w =>
      obtain ⟨z, H', I', rz, q⟩ := I.after hq
      exact ⟨z, H', I', rz, q⟩
    | next => exact False.elim hq
    | brk => exact False.elim hq
    | cont => exact False.elim hq
def rStrO (C : Addr) (sp : Sp) (E : XK) : List V → Hp → VK → Prop := fun vs H Q => ∃ (a dx : Addr) (fs : List (Str × V)), vs = [.ref a] ∧ H a = some (.ins C dx fs) ∧ sp [.ref a] H (fun v H' => ∃ y : Str, v = .str y ∧ Q (.str y) H') E
theorem cr_strO {CX : CXT} {C f : Addr} {fd : FuncData} {ps : List Str} {sp : Sp} {E : XK} (F : FnOk X.prog X.w X.K X.mg X.base CX n f fd ps sp) (hm : Meth X.K C "__str__" f) (hb : Binds X.K fd ps []) (hx : Passes CX X E) (hr : Room (n + 2) X.A) : CallR X (.type "str") (rStrO C sp E) := by
  intro pins s σ H vs us Q I r h
  obtain ⟨a, dx, fs, rfl, ha, hsp⟩ := h
  rw [Vals.ref1 r]
  obtain ⟨mA, J, _⟩ := ins_get I.hok ha
  obtain ⟨od, J, _⟩ := J.look
  refine PySem.W.kso_call hr.in1.in1.units0 I.kIn J hm.at_ hm.fn ?_
  refine wpAny_mono (run_own1 (A := X.A.in1.in1) F hb hx hr.in1.in1 rfl I hsp) (fun w s' z => ?_) fun _ _ e => e
  obtain ⟨v, H', I', rv, y, rfl, q⟩ := z
  obtain ⟨t, rfl⟩ := rv
  exact ⟨.str y, H', I', ⟨t, rfl⟩, q⟩
theorem c_strO {P : List D → Rs → Prop} {C : Addr} {ns ps : List Str} {fs : List D} {j k : Nat} {y : Str} (G : M0 X.prog X.w X.K X.mg X.base C "__str__" j ps P) (g : Gd k X) (hp : P [.obj C ns fs] (.sh (.str y))) (hk : j + 2 ≤ k := by decide) : CallS X (.type "str") [.obj C ns fs] (.sh (.str y)) := by
  obtain ⟨f, fd, hm, b, Fo⟩ := G.ex
  refine ⟨_, cr_strO (E := E0) Fo hm b passL (g.rm.mono hk), fun Γ F σ H S vs Q R r q => ?_⟩
  obtain ⟨v, rfl, rp⟩ := reps1 r
  obtain ⟨a, dx, ws, rfl, h1, h2, h3⟩ := id rp
  refine ⟨a, dx, _, rfl, R.sh _ _ h1, S, [_], .sh (.str y), hp, R.sh, .one rp, fun v H' S' t => ⟨y, t.res, ?_⟩⟩
  obtain ⟨R2, ok2⟩ := R.after0 t
  exact q _ H' S' R2 t.ss rfl
end
end PL

set_option Elab.async false
set_option linter.all false
set_option maxRecDepth 100000
set_option maxHeartbeats 1000000
/-! repr: of plain data, of an object with an own __repr__; the fields !r and plain of f-strings -/
namespace PL
open PySem PySem.Spec PyProof.Rows L2
/-- data that repr shows -/
structure Shw (d : D) : Prop where
  fl : d.flat = true
  sh : d.py.showable = true
  nd : d.py.hasDict = false
  dp : d.py.depth ≤ 60
  sz : d.py.shown.length ≤ sizeLine
/-- data that are objects of their own -/
def D.box : D → Bool
  | .tup _ | .lst _ | .fls _ => true
  | _ => false
theorem box_ref {K : PySem.W.Frag} {S : Hp} {d : D} {v : V} (h : d.box = true) (r : Rep K S d v) : ∃ a : Addr, v = .ref a := by
  cases d <;> first | (cases h) | skip
  all_goals
    obtain ⟨a, _, e, _⟩ := r
    exact ⟨a, e⟩
section
variable {X : Cx} {n : Nat}
def rReprD (K : PySem.W.Frag) : List V → Hp → VK → Prop := fun vs H Q => ∃ (a : Addr) (d : PyData), vs = [.ref a] ∧ Dp K H (.ref a) d ∧ d.showable = true ∧ d.hasDict = false ∧ d.depth ≤ 60 ∧ d.shown.length ≤ sizeLine ∧ Q (.str d.shown) H
theorem cr_reprD (hg : X.A.guards = some []) (hu : X.A.units + 64 < cLine) : CallR X (.builtin "repr") (rReprD X.K) := by
  intro pins s σ H vs us Q I r h
  obtain ⟨a, d, rfl, hd, h1, h2, h3, h4, q⟩ := h
  rw [Vals.ref1 r]
  obtain ⟨as, rd⟩ := Dp.reads I d (.ref a) (.ref a) hd rfl
  exact repr_of_reads' rd h1 (PyData.noDict_hsm h2) hg (by omega) (fun _ _ e => e) (fun h' u tk hk => ⟨.str _, H, I.kept hk, ⟨u, rfl⟩, q⟩) h4
theorem c_repr {d : D} {k : Nat} (g : Gd k X) (h : Shw d) (hb : d.box = true := by rfl) : CallS X (.builtin "repr") [d] (.sh (.str d.py.shown)) := calls_sc (cr_reprD g.rm.gd g.rm.units) (.str _) (fun _ => rfl) fun H S vs Q s r q => by
  obtain ⟨v, rfl, rp⟩ := reps1 r
  obtain ⟨a, rfl⟩ := box_ref hb rp
  exact ⟨a, d.py, rfl, dp_of s _ _ h.fl rp, h.sh, h.nd, h.dp, h.sz, q⟩
/-- {x!r}: plain data -/
def tFmtRD (K : PySem.W.Frag) (te : TE) : TE := fun σ H Q => te σ H fun x H1 => ∃ (a : Addr) (d : PyData), x = .ref a ∧ Dp K H1 (.ref a) d ∧ d.showable = true ∧ d.hasDict = false ∧ d.depth ≤ 60 ∧ d.shown.length ≤ sizeLine ∧ Q (.str d.shown) H1
theorem pe_fmtRD {e : Expr} {te : TE} {pos : Pos} (hg : X.A.guards = some []) (hu : X.A.units + 64 < cLine) (he : PE X e te) : PE X (.FormattedValue e 114 none pos) (tFmtRD X.K te) := by
  refine ⟨fun pins s σ H Q I h => ?_⟩
  refine wpAny_FormattedValue_repr (thn (he.run pins s σ H _ I h) fun v s1 hv => ?_)
  obtain ⟨x, H1, I1, r1, a, d, rfl, hd, h1, h2, h3, h4, q⟩ := hv
  obtain rfl : v = .ref a := r1
  obtain ⟨as, rd⟩ := Dp.reads I1 d (.ref a) (.ref a) hd rfl
  exact pyReprObj_of_reads rd h1 (PyData.noDict_hsm h2) hg (by omega) (fun _ _ e => e) (fun h' u tk hk => wpAny_formatField_str ⟨.str _, H1, I1.kept hk, ⟨u, rfl⟩, q⟩ ⟨.str _, H1, I1.kept hk, ⟨_, rfl⟩, q⟩ h4) h4
theorem e_fmtR {Γ Γ1 : Gm} {e : Ex} {pos : Pos} {d : D} {k : Nat} (g : Gd k X) (h : EX X Γ e (.sh d) Γ1) (hs : Shw d) (hb : d.box = true := by rfl) : EX X Γ (.FormattedValue e 114 none pos) (.sh (.str d.py.shown)) Γ1 := fun F σ H S Q R q =>
  pe_we (pe_fmtRD g.rm.gd g.rm.units we_pe) (h F σ H S _ R fun v H1 S1 R1 s1 ok => by
    obtain ⟨a, rfl⟩ := box_ref hb ok
    exact ⟨a, d.py, rfl, dp_of R1.sh _ _ hs.fl ok, hs.sh, hs.nd, hs.dp, hs.sz, q _ H1 S1 R1 s1 rfl⟩)
theorem cr_reprO {CX : CXT} {C f : Addr} {fd : FuncData} {ps : List Str} {sp : Sp} {E : XK} (F : FnOk X.prog X.w X.K X.mg X.base CX n f fd ps sp) (hm : Meth X.K C "__repr__" f) (hb : Binds X.K fd ps []) (hx : Passes CX X E) (hr : Room (n + 1) X.A) : CallR X (.builtin "repr") (rStrO C sp E) := by
  intro pins s σ H vs us Q I r h
  obtain ⟨a, dx, fs, rfl, ha, hsp⟩ := h
  rw [Vals.ref1 r]
  obtain ⟨mA, J, _⟩ := ins_get I.hok ha
  obtain ⟨od, J, _⟩ := J.look
  obtain ⟨m, fr⟩ := I.fr
  refine PySem.W.repr_K hr.in1.units0 fr I.ok.mod.kin J hm.at_ hm.fn ?_
  refine wpAny_mono (run_own1 (A := X.A.in1) F hb hx hr.in1 rfl I hsp) (fun w s' z => ?_) fun _ _ e => e
  obtain ⟨v, H', I', rv, y, rfl, q⟩ := z
  obtain ⟨t, rfl⟩ := rv
  exact ⟨.str y, H', I', ⟨t, rfl⟩, q⟩
theorem c_reprO {P : List D → Rs → Prop} {C : Addr} {ns ps : List Str} {fs : List D} {j k : Nat} {y : Str} (G : M0 X.prog X.w X.K X.mg X.base C "__repr__" j ps P) (g : Gd k X) (hp : P [.obj C ns fs] (.sh (.str y))) (hk : j + 1 ≤ k := by decide) : CallS X (.builtin "repr") [.obj C ns fs] (.sh (.str y)) := by
  obtain ⟨f, fd, hm, b, Fo⟩ := G.ex
  refine ⟨_, cr_reprO (E := E0) Fo hm b passL (g.rm.mono hk), fun Γ F σ H S vs Q R r q => ?_⟩
  obtain ⟨v, rfl, rp⟩ := reps1 r
  obtain ⟨a, dx, ws, rfl, h1, h2, h3⟩ := id rp
  refine ⟨a, dx, _, rfl, R.sh _ _ h1, S, [_], .sh (.str y), hp, R.sh, .one rp, fun v H' S' t => ⟨y, t.res, ?_⟩⟩
  obtain ⟨R2, ok2⟩ := R.after0 t
  exact q _ H' S' R2 t.ss rfl
end
end PL

set_option Elab.async false
set_option linter.all false
set_option maxRecDepth 100000
set_option maxHeartbeats 2000000
/-! {x} and {x!r} of objects of own classes -/
namespace PySem.W
open PySem PySem.Spec PyProof.Rows
section
variable {prog : Program} {w : World} {A : Around} {E : Value → Shared → Prop} {s : Shared} {K : Frag} {x C f : Addr} {ox : Obj} {od : Option Obj}
theorem pyRepr_own {Q : Value → Shared → Prop} (hu : A.units < cLine) (X₀ : K.In s.heap) (I : InstAt s.heap x ox C od) (hs : findIn K (.ref C) "__repr__" = some (some (.ref f))) (hf : isFn K (.ref f) = true)
    (h : wpAny (model prog w) A (call (.ref f) [.ref x]) (StrBack Q) E s) : wpAny (model prog w) A (pyReprObj (.ref x)) (fun v s' => ∃ y u, v = .str y u ∧ Q v s') E s := by
  unfold pyReprObj
  refine wpAny_bind (wpAny_cRoomFor hu ?_)
  refine wpAny_bind (wpAny_bind (I.type.here ((looks_findIn X₀ hs).here ?_)))
  show wpAny _ _ (if (some (Value.ref f)).isNone = true then _ else _) _ _ _
  rw [if_neg (by simp)]
  refine wpAny_bind (m := callSpecialIfBound? (.ref x) (Str.ofString "__repr__") _) (ifBound_K X₀ I hs hf (wpAny_mono h (fun r s' hr => ?_) fun _ _ y => y))
  cases r <;> first | exact hr.elim | skip
  refine wpAny_bind (wpAny_isInstance (typeIs_str _ _ _) isSubtype_str_str ?_)
  first
    | exact wpAny_pure ⟨_, _, rfl, hr⟩
    | (rw [if_pos rfl]; exact wpAny_pure ⟨_, _, rfl, hr⟩)
    | (simp only [if_true]; exact wpAny_pure ⟨_, _, rfl, hr⟩)
end
end PySem.W
namespace PL
open PySem PySem.Spec PyProof.Rows L2
/-- a class without a __format__ of its own -/
structure Fm (K : PySem.W.Frag) (C : Addr) : Prop where
  fm : PySem.W.findIn K (.ref C) "__format__" = some (some (.builtin "object.__format__"))
  ob : PySem.W.mroIn K C (.type "object") = some true
section
variable {X : Cx} {n : Nat}
def rObjO (C : Addr) (sp : Sp) (E : XK) (te : TE) : TE := fun σ H Q => te σ H fun x H1 => ∃ (a dx : Addr) (fs : List (Str × V)), x = .ref a ∧ H1 a = some (.ins C dx fs) ∧ sp [.ref a] H1 (fun v H' => ∃ y : Str, v = .str y ∧ y.length ≤ sizeLine ∧ Q (.str y) H') E
theorem pe_fmtO {CX : CXT} {C f : Addr} {fd : FuncData} {ps : List Str} {sp : Sp} {E : XK} {e : Expr} {te : TE} {pos : Pos} (F : FnOk X.prog X.w X.K X.mg X.base CX n f fd ps sp) (hm : Meth X.K C "__str__" f) (fm : Fm X.K C) (hb : Binds X.K fd ps []) (hx : Passes CX X E) (hr : Room (n + 1) X.A) (he : PE X e te) : PE X (.FormattedValue e (-1) none pos) (rObjO C sp E te) := by
  refine ⟨fun pins s σ H Q I h => wpAny_FormattedValue_plain (thn (he.run pins s σ H _ I h) fun v s1 hv => ?_)⟩
  obtain ⟨x, H1, I1, r1, a, dx, fs, rfl, ha, hsp⟩ := hv
  cases r1
  obtain ⟨mA, J, _⟩ := ins_get I1.hok ha
  obtain ⟨od, J, _⟩ := J.look
  refine PySem.W.kfo_fieldS hr.in1.units0 I1.kIn J fm.fm fm.ob hm.at_ hm.fn ?_
  refine wpAny_mono (run_own1 (A := X.A.in1) F hb hx hr.in1 rfl (I1.tok _) hsp) (fun w s' z => ?_) fun _ _ e => e
  obtain ⟨v, H', I', rv, y, rfl, _, q⟩ := z
  obtain ⟨t, rfl⟩ := rv
  exact ⟨.str y, H', I', ⟨t, rfl⟩, q⟩
theorem pe_fmtRO {CX : CXT} {C f : Addr} {fd : FuncData} {ps : List Str} {sp : Sp} {E : XK} {e : Expr} {te : TE} {pos : Pos} (F : FnOk X.prog X.w X.K X.mg X.base CX n f fd ps sp) (hm : Meth X.K C "__repr__" f) (hb : Binds X.K fd ps []) (hx : Passes CX X E) (hr : Room n X.A) (he : PE X e te) : PE X (.FormattedValue e 114 none pos) (rObjO C sp E te) := by
  refine ⟨fun pins s σ H Q I h => wpAny_FormattedValue_repr (thn (he.run pins s σ H _ I h) fun v s1 hv => ?_)⟩
  obtain ⟨x, H1, I1, r1, a, dx, fs, rfl, ha, hsp⟩ := hv
  cases r1
  obtain ⟨mA, J, _⟩ := ins_get I1.hok ha
  obtain ⟨od, J, _⟩ := J.look
  refine wpAny_mono (PySem.W.pyRepr_own (Q := fun v s' => ∃ y t, v = .str y t ∧ y.length ≤ sizeLine ∧ ∃ H', Inv X pins σ H' s' ∧ Q (.str y) H') hr.units0 I1.kIn J hm.at_ hm.fn (wpAny_mono (run_own1 (A := X.A) F hb hx hr rfl I1 hsp) (fun w s' z => ?_) fun _ _ e => e)) (fun v s2 z => ?_) fun _ _ e => e
  · obtain ⟨v, H', I', rv, y, rfl, hz, q⟩ := z
    obtain ⟨t, rfl⟩ := rv
    exact ⟨y, t, rfl, hz, H', I', q⟩
  · obtain ⟨_, _, rfl, y, t, e1, hz, H', I', q⟩ := z
    cases e1
    exact wpAny_formatField_str ⟨.str _, H', I', ⟨_, rfl⟩, q⟩ ⟨.str _, H', I'.tok _, ⟨_, rfl⟩, q⟩ hz
theorem e_fmtO {P : List D → Rs → Prop} {C : Addr} {ns ps : List Str} {fs : List D} {j k : Nat} {y : Str} {Γ Γ1 : Gm} {e : Ex} {pos : Pos} (G : M0 X.prog X.w X.K X.mg X.base C "__str__" j ps P) (fm : Fm X.K C) (g : Gd k X) (h : EX X Γ e (.sh (.obj C ns fs)) Γ1) (hp : P [.obj C ns fs] (.sh (.str y))) (hz : y.length ≤ sizeLine) (hk : j + 1 ≤ k := by decide) : EX X Γ (.FormattedValue e (-1) none pos) (.sh (.str y)) Γ1 := fun F σ H S Q R q => by
  obtain ⟨f, fd, hm, b, Fo⟩ := G.ex
  refine pe_we (pe_fmtO (E := E0) Fo hm fm b passL (g.rm.mono hk) we_pe) (h F σ H S _ R fun v H1 S1 R1 s1 rp => ?_)
  obtain ⟨a, dx, ws, rfl, h1, h2, h3⟩ := id rp
  refine ⟨a, dx, _, rfl, R1.sh _ _ h1, S1, [_], .sh (.str y), hp, R1.sh, .one rp, fun v H' S' t => ⟨y, t.res, hz, ?_⟩⟩
  obtain ⟨R2, ok2⟩ := R1.after0 t
  exact q _ H' S' R2 (s1.trans t.ss) rfl
theorem e_fmtRO {P : List D → Rs → Prop} {C : Addr} {ns ps : List Str} {fs : List D} {j k : Nat} {y : Str} {Γ Γ1 : Gm} {e : Ex} {pos : Pos} (G : M0 X.prog X.w X.K X.mg X.base C "__repr__" j ps P) (g : Gd k X) (h : EX X Γ e (.sh (.obj C ns fs)) Γ1) (hp : P [.obj C ns fs] (.sh (.str y))) (hz : y.length ≤ sizeLine) (hk : j ≤ k := by decide) : EX X Γ (.FormattedValue e 114 none pos) (.sh (.str y)) Γ1 := fun F σ H S Q R q => by
  obtain ⟨f, fd, hm, b, Fo⟩ := G.ex
  refine pe_we (pe_fmtRO (E := E0) Fo hm b passL (g.rm.mono hk) we_pe) (h F σ H S _ R fun v H1 S1 R1 s1 rp => ?_)
  obtain ⟨a, dx, ws, rfl, h1, h2, h3⟩ := id rp
  refine ⟨a, dx, _, rfl, R1.sh _ _ h1, S1, [_], .sh (.str y), hp, R1.sh, .one rp, fun v H' S' t => ⟨y, t.res, hz, ?_⟩⟩
  obtain ⟨R2, ok2⟩ := R1.after0 t
  exact q _ H' S' R2 (s1.trans t.ss) rfl
end
end PL

set_option linter.all false
namespace PL
open PySem L2
theorem fmB_ok {K : PySem.W.Frag} {x : Str} (h : fmB K x = true) : Fm K (He.ga K x) := by
  obtain ⟨h1, h2⟩ := He.ba h
  exact ⟨He.eqO_ok h1, of_decide_eq_true h2⟩
end PL

set_option Elab.async false
set_option linter.all false
set_option maxRecDepth 100000
set_option maxHeartbeats 1000000
namespace PL
open PySem PySem.Spec PyProof.Rows L2
theorem isStr_eq {x z : Str} {t : Tok} (h : (Value.str x t).isStr z = true) : z = x := by
  rw [← Value.isStrByCps_eq] at h
  have h2 : (x.cps.size == z.cps.size && x.cps.toList == z.cps.toList) = true := h
  have h3 := (Bool.and_eq_true_iff.mp h2).2
  exact (TL.ext_tl (eq_of_beq h3)).symm
theorem keys_no {P : Params} {z : Str} : ∀ {l : List DictEntry} {ks : List Str}, l.map He.keyOf = He.keysIn P ks → z ∉ ks → l.find? (·.key.isStr z) = none ∧ l.any (·.refKey) = false
  | [], _, _, _ => ⟨rfl, rfl⟩
  | e :: r, [], h, _ => by cases h
  | e :: r, k :: ks, h, hz => by
    have h1 : He.keyOf e :: r.map He.keyOf = some (k, PyData.keyHash P k) :: He.keysIn P ks := h
    injection h1 with h2 h3
    obtain ⟨i1, i2⟩ := keys_no h3 fun q => hz (List.mem_cons_of_mem _ q)
    unfold He.keyOf at h2
    split at h2
    · rename_i x t q
      have h4 := Option.some.inj h2
      obtain ⟨h5, h6⟩ := Prod.mk.inj h4
      have hk : z ≠ x := fun w => hz (by rw [w, h5]; exact List.mem_cons_self)
      have e1 : e.key.isStr z = false := by
        rw [q]
        cases w : (Value.str x t).isStr z with
        | false => rfl
        | true => exact absurd (isStr_eq w) hk
      have e2 : e.refKey = false := by unfold DictEntry.refKey; rw [q]
      refine ⟨?_, ?_⟩
      · rw [List.find?_cons, e1]; exact i1
      · rw [List.any_cons, e2, i2]; rfl
    · cases h2
theorem dicW_no {K : PySem.W.Frag} {P : Params} {a : Addr} {ks : List Str} (h : He.dicW K a = some (He.keysIn P ks)) {z : Str} (hz : z ∉ ks) : PySem.W.nsIn K a z = some none := by
  unfold He.dicW at h
  unfold PySem.W.nsIn
  cases q : K.lookup a with
  | none =>
    rw [q] at h
    cases h
  | some o =>
    obtain ⟨oc, od, dt, osl⟩ := o
    rw [q] at h
    cases oc with
    | type c =>
      cases od with
      | none =>
        cases dt with
        | dict es n =>
          have h1 : (match decide (c = "dict") && (osl.isEmpty && !(a == sysModules)) with
            | true => some (es.toList.map He.keyOf)
            | false => none) = some (He.keysIn P ks) := h
          cases z : decide (c = "dict") && (osl.isEmpty && !(a == sysModules)) with
          | false =>
            rw [z] at h1
            cases h1
          | true =>
            rw [z] at h1
            obtain ⟨i1, i2⟩ := keys_no (Option.some.inj h1) hz
            simp only [i1, i2]
            rfl
        | _ => cases h
      | some b => cases dt <;> cases h
    | _ => cases od <;> cases dt <;> cases h
end PL

set_option Elab.async false
set_option linter.all false
set_option maxRecDepth 100000
set_option maxHeartbeats 1000000
/-! written dicts of the module: tables whose keys are texts -/
namespace PL
open PySem PySem.Spec PyProof.Rows L2
/-- the table by the name x: its pairs in order; R: what stands for a pair's second part -/
def KT (K : PySem.W.Frag) (w : World) (mg : Str → Option Value) (x : Str) {β : Type} (ps : List (Str × β)) (R : β → Value → Prop) : Prop := ∃ d es n, mg x = some (.ref d) ∧ KDict K w d es n ∧ He.dicW K d = some (He.keysIn w.params (ps.map (·.1))) ∧ (∀ q ∈ ps, ∃ u, PySem.W.nsIn K d q.1 = some (some u) ∧ R q.2 u) ∧ ∀ z, z ∉ ps.map (·.1) → PySem.W.nsIn K d z = some none
theorem kt_of {K : PySem.W.Frag} {w : World} {h : Heap} {mg : Str → Option Value} {fa : List He.Fa} {fn : List He.DefD} {tabs : List He.Tab} {x : Str} {β : Type} {ps : List (Str × β)} {R : β → Value → Prop} (X : K.In h) (G : h.Ns mainGlobals mg) (cT : He.SaysT fa fn tabs w K) (i : Nat) (hi : tabs[i]? = some (fun K => He.ga K x, ps.map (·.1))) (gM : (He.Fa.glo x).ok K = true) (hv : ∀ q ∈ ps, ∃ u, PySem.W.nsIn K (He.ga K x) q.1 = some (some u) ∧ R q.2 u) : KT K w mg x ps R := by
  obtain ⟨es, n, kd⟩ := cT.tab i hi
  have e : tabs.map (fun t => He.dicW K (t.1 K)) = tabs.map fun t => some (He.keysIn w.params t.2) := congrArg (fun z : He.AlT => z.2) cT
  have e2 : (tabs.map fun t => He.dicW K (t.1 K))[i]? = (tabs.map fun t => some (He.keysIn w.params t.2))[i]? := by rw [e]
  rw [List.getElem?_map, List.getElem?_map, hi] at e2
  have e0 : He.dicW K (He.ga K x) = some (He.keysIn w.params (ps.map (·.1))) := Option.some.inj e2
  exact ⟨He.ga K x, es, n, He.glo_ok X G gM, kd, e0, hv, fun z hz => dicW_no e0 hz⟩
/-- the def by a name; a text; a tuple of truths -/
def RDef (mg : Str → Option Value) (y : Str) (u : Value) : Prop := ∃ a, u = .ref a ∧ mg y = some (.ref a)
def RStr (y : Str) (u : Value) : Prop := ∃ t, u = .str y t
def RBls (K : PySem.W.Frag) (bs : List Bool) (u : Value) : Prop := ∃ a, u = .ref a ∧ ∀ H, SqT K H a (bs.map V.bl)
theorem kt_def {K : PySem.W.Frag} {h : Heap} {mg : Str → Option Value} {d : Addr} {ps : List (Str × Str)} (X : K.In h) (G : h.Ns mainGlobals mg) (hv : He.valsB K d (ps.map fun q => (q.1, He.Dv.glo q.2)) = true) (hg : ∀ q ∈ ps, (He.Fa.glo q.2).ok K = true) : ∀ q ∈ ps, ∃ u, PySem.W.nsIn K d q.1 = some (some u) ∧ RDef mg q.2 u := fun q hq => by
  obtain ⟨u, h1, h2⟩ := He.valsB_ok hv (List.mem_map_of_mem hq)
  exact ⟨u, h1, _, h2, He.glo_ok X G (hg q hq)⟩
theorem kt_str {K : PySem.W.Frag} {d : Addr} {ps : List (Str × Str)} (hv : He.valsB K d (ps.map fun q => (q.1, He.Dv.str q.2)) = true) : ∀ q ∈ ps, ∃ u, PySem.W.nsIn K d q.1 = some (some u) ∧ RStr q.2 u := fun q hq => by
  obtain ⟨u, h1, h2⟩ := He.valsB_ok hv (List.mem_map_of_mem hq)
  obtain ⟨t, h3⟩ := h2
  exact ⟨u, h1, t, h3⟩
theorem tupAtB_ok {K : PySem.W.Frag} {a : Addr} {vs : List V} (h : tupAtB K a vs = true) (H : Hp) : SqT K H a vs := by
  unfold tupAtB at h
  cases q : K.lookup a with
  | none =>
    rw [q] at h
    cases h
  | some o =>
    obtain ⟨oc, od, dt, osl⟩ := o
    rw [q] at h
    cases oc with
    | type c =>
      cases dt with
      | seq its n =>
        obtain ⟨h1, h2⟩ := He.ba (show (decide (c = "tuple") && (decide (its.size ≤ sizeLine) && He.relAll vs its.toList)) = true from h)
        obtain ⟨h3, h4⟩ := He.ba h2
        exact .inr ⟨_, its, n, q, congrArg Value.type (of_decide_eq_true h1), rfl, of_decide_eq_true h3, He.relAll_ok h4⟩
      | _ => cases h
    | _ => cases dt <;> cases h
theorem blsB_ok {K : PySem.W.Frag} {d : Addr} {ws : List (Str × List Bool)} (h : blsB K d ws = true) {q : Str × List Bool} (hq : q ∈ ws) : ∃ u, PySem.W.nsIn K d q.1 = some (some u) ∧ RBls K q.2 u := by
  have h2 := List.all_eq_true.mp h q hq
  cases e : PySem.W.nsIn K d q.1 with
  | none =>
    rw [e] at h2
    cases h2
  | some r =>
    rw [e] at h2
    cases r with
    | none => cases h2
    | some u =>
      cases u with
      | ref a => exact ⟨_, rfl, a, rfl, tupAtB_ok h2⟩
      | _ => cases h2
section
variable {X : Cx} {Γ : Gm} {pos : Pos} {k : Nat}
theorem o_ninK {dd : Addr} {es' : Array DictEntry} {n : Nat} {z : Str} {u : Option Value} (D : KDict X.K X.w dd es' n) (h : PySem.W.nsIn X.K dd z = some u) : OpS X (compareOp .NotIn) (.str z) (.raw (.ref dd)) (.sh (.bl (!u.isSome))) :=
  ops_sc (op_notIn_kd D) (.bl _) (fun _ => rfl) fun H S x y Q _ r1 r2 q => ⟨z, u, r1, r2, h, q⟩
end
end PL

set_option linter.all false
set_option maxRecDepth 100000
/-! a tuple of texts by its name -/
namespace PL
open PySem PySem.Spec PyProof.Rows L2
structure Tp (K : PySem.W.Frag) (mg : Str → Option Value) (x : Str) (ws : List Str) : Prop where
  ex : ∃ a, mg x = some (.ref a) ∧ ∀ S, Rep K S (dT ws) (.ref a)
theorem reps_strs {K : PySem.W.Frag} {S : Hp} : ∀ ws : List Str, Reps K S (ws.map D.str) (ws.map V.str)
  | [] => .nil
  | _ :: ws => .cons rfl (reps_strs ws)
theorem tpB_ok {K : PySem.W.Frag} {h : Heap} {mg : Str → Option Value} {x : Str} {ws : List Str} (X : K.In h) (G : h.Ns mainGlobals mg) (gM : (He.Fa.glo x).ok K = true) (hb : tupAtB K (He.ga K x) (ws.map V.str) = true) : Tp K mg x ws :=
  ⟨He.ga K x, He.glo_ok X G gM, fun S => ⟨He.ga K x, _, rfl, tupAtB_ok hb S, reps_strs ws⟩⟩
theorem e_tp {X : Cx} {Γ : Gm} {x : Str} {ws : List Str} {pos : Pos} (h : Tp X.K X.mg x ws) (hg : Gl X x := by rfl) (hd : (x == ("__debug__" : Str)) = false := by decide) : EX X Γ (.Name x pos) (.sh (dT ws)) Γ := by
  obtain ⟨a, hm, hr⟩ := h.ex
  exact e_glob (v := .ref a) (d := dT ws) hm rfl hr hg hd
end PL

set_option Elab.async false
set_option linter.all false
set_option maxRecDepth 100000
set_option maxHeartbeats 2000000
/-! None == x, 1 == x, "t" == x, where x is an object of a class with its own __eq__; x in [..] -/
namespace PL
open PySem PySem.Spec PyProof.Rows L2
/-- what the reflected == asks of the right one's class -/
structure Rf (K : PySem.W.Frag) (C : Addr) : Prop where
  ty : ∀ t ∈ ["NoneType", "bool", "int", "str", "tuple", "list", "dict"], PySem.W.subIn K (.ref C) (.type t) = some false
  nb : PySem.W.findIn K (.ref C) "__bool__" = some none
theorem int_eq_declines_inst (b : Int) (u : Tok) (l C dx : Addr) : Meets (Builtin.«int.__eq__» ⟨[.int b u, .ref l], []⟩) (fun _ R s => s.heap.get? l = some (PySem.W.instObj C dx) ∧ R (.ok (.ret .notImplemented)) s) :=
  .of_wp fun prog w A R s h => by obtain ⟨hp, g, d, tk, os⟩ := s; obtain ⟨hl, h⟩ := h; wp_walk using wpAny_loadPart' hl, wpAny_load hl; exact ⟨_, rfl, h⟩
theorem str_eq_declines_inst (b : Str) (u : Tok) (l C dx : Addr) : Meets (Builtin.«str.__eq__» ⟨[.str b u, .ref l], []⟩) (fun _ R s => s.heap.get? l = some (PySem.W.instObj C dx) ∧ R (.ok (.ret .notImplemented)) s) :=
  .of_wp fun prog w A R s h => by obtain ⟨hp, g, d, tk, os⟩ := s; obtain ⟨hl, h⟩ := h; wp_walk using wpAny_loadPart' hl, wpAny_load hl; exact ⟨_, rfl, h⟩
section
variable {prog : Program} {w : World} {A : Around} {E : Value → Shared → Prop} {s : Shared} {K : PySem.W.Frag} {x C L f : Addr} {h₀ : Heap} {m : Str → Option Value} {ox : Obj} {od : Option Obj} {u : Value} {T id : String}
theorem cmp_KR {Q : Value → Shared → Prop} (hu : A.units < cLine) (F : PyProof.Rows.Fr h₀ L s.heap m) (X₀ : K.In h₀) (I : PySem.W.InstAt s.heap x ox C od) (tu : s.TypeIs u T) (hsub : PySem.W.subIn K (.ref C) (.type T) = some false) (h1 : Slot T (cmpInfo .Eq).2.1 id)
    (left : ∀ Q' : Value → Shared → Prop, Q' .notImplemented s → wpAny (model prog w) A (call (.builtin id) [u, .ref x]) Q' E s)
    (hs : PySem.W.findIn K (.ref C) (cmpInfo .Eq).2.2 = some (some (.ref f))) (hf : PySem.W.isFn K (.ref f) = true)
    (h : wpAny (model prog w) A (call (.ref f) [.ref x, u]) (PySem.W.CmpBack Q) E s) : wpAny (model prog w) A (richCompare .Eq u (.ref x)) Q E s := by
  have X := X₀.keeps F.keep
  have one : wpAny (model prog w) A (tryCompare (.ref x) (cmpInfo .Eq).2.2 u) (fun r s' => ∃ v, r = some v ∧ Q v s') E s := by
    unfold tryCompare
    refine wpAny_bind (PySem.W.ifBound_K X I hs hf (wpAny_mono h (fun v s' hv => ?_) fun _ _ e => e))
    cases v <;> first | exact hv.elim | exact wpAny_pure ⟨_, rfl, hv⟩
  rcases hi : cmpInfo CmpOp.Eq with ⟨sym, f', r⟩
  rw [hi] at h1 one
  simp only [richCompare, hi, tu.oneThing_none]
  refine wpAny_holding (wpAny_bind (wpAny_cRoomFor hu ?_))
  refine wpAny_bind (wpAny_typeOf tu (wpAny_bind (I.type.here ?_)))
  rw [if_pos (by simp)]
  refine wpAny_bind ((PySem.W.looks_subIn X hsub).here ?_)
  simp only [Bool.false_eq_true, if_false, Bool.not_false, if_true]
  refine wpAny_bind (m := tryCompare u _ (.ref x)) (wpAny_tryCompare_declines tu h1 (left _ ⟨rfl, ?_⟩))
  refine wpAny_bind (m := tryCompare (.ref x) _ u) (wpAny_mono one (fun r s' z => ?_) fun _ _ e => e)
  obtain ⟨v, rfl, hq⟩ := z
  exact wpAny_pure hq
end
section
variable {X : Cx} {n : Nat}
/-- one item against x, the object at a -/
def ItemOk (X : Cx) (C : Addr) (sp : Sp) (E : XK) (P : Hp → Prop) (a : Addr) (H : Hp) (y : V) (b : Bool) : Prop :=
  (∃ p dx fs t, y = .ref p ∧ H p = some (.ins C dx fs) ∧ TyX X.K H (.ref a) t ∧ PySem.W.notFirst X.K C t = true ∧ (∀ (pins : List (Addr × Obj)) (σ : L2.St) (s : Shared), Inv X pins σ H s → p = a → b = true) ∧ sp [.ref p, .ref a] H (fun v H' => v = .bl b ∧ P H') E) ∨
  ((y = .non ∨ (∃ i, y = .int i) ∨ ∃ z, y = .str z) ∧ sp [.ref a, y] H (fun v H' => v = .bl b ∧ P H') E)
theorem eqB_own {CX : CXT} {C f : Addr} {fd : FuncData} {ps : List Str} {sp : Sp} {E : XK} {A : Around} {P : Hp → Prop} {a dx : Addr} {fs : List (Str × V)} {y : V} {u : Value} {b : Bool} {pins : List (Addr × Obj)} {σ : L2.St} {H : Hp} {s : Shared} (Fo : FnOk X.prog X.w X.K X.mg X.base CX n f fd ps sp) (hm : Meth X.K C "__eq__" f) (hrf : Rf X.K C) (hb : Binds X.K fd ps []) (hx : Passes CX X E) (hr : Room n A) (hA : A.frames = X.A.frames) (I : Inv X pins σ H s) (hP : P H) (ha : H a = some (.ins C dx fs)) (ry : RelV y u) (h : ItemOk X C sp E P a H y b) :
    wpAny (model X.prog X.w) A (eqBool u (.ref a)) (fun k s' => k = b ∧ ∃ H', Inv X pins σ H' s' ∧ P H') X.xe s := by
  obtain ⟨m, hF⟩ := I.fr
  unfold eqBool
  refine wpAny_holding ?_
  rcases h with ⟨p, dxp, fsp, t, rfl, hp, ty, hn, hpa, hsp⟩ | ⟨hy, hsp⟩
  · obtain rfl : u = .ref p := ry
    refine wpAny_ite_split (fun hab => ?_) (fun _ => ?_)
    · have e : p = a := by
        have := eq_of_beq hab
        cases this; rfl
      exact wpAny_bind (wpAny_rule (wpAny_pure ⟨(hpa pins σ s I e).symm, H, I, hP⟩))
    · obtain ⟨mA, J, _⟩ := ins_get I.hok hp
      obtain ⟨od, J, _⟩ := J.look
      obtain ⟨P', Z, p', _⟩ := kit_of I (show RelV (.ref a) (.ref a) from rfl) ty
      refine wpAny_bind (PySem.W.cmp_K (op := .Eq) (tb := t) hr.units0 hF I.ok.mod.kin J (Z.ty _ _ I.kIn p') hn hm.at_ hm.fn ?_)
      refine wpAny_mono (run_own Fo hb hx hr hA I (show RelV (.ref a) (.ref a) from rfl) hsp) (fun r s' z => ?_) fun _ _ e => e
      obtain ⟨z, H', I', rz, rfl, q⟩ := z
      cases rz
      exact wpAny_truthy_bool ⟨rfl, H', I', q⟩
  · obtain ⟨mA, J, _⟩ := ins_get I.hok ha
    obtain ⟨od, J, _⟩ := J.look
    have hob : s.heap.get? a = some (PySem.W.instObj C dx) := by
      obtain ⟨_, _, _, ob, _⟩ := (show ObjOk X.prog X.w H s.heap a (.ins C dx fs) from I.hok a _ ha)
      exact ob
    have fin : ∀ {T id : String} (tu : s.TypeIs u T) (_ : PySem.W.subIn X.K (.ref C) (.type T) = some false) (_ : Slot T (cmpInfo .Eq).2.1 id) (_ : ∀ Q' : Value → Shared → Prop, Q' .notImplemented s → wpAny (model X.prog X.w) A (call (.builtin id) [u, .ref a]) Q' X.xe s), wpAny (model X.prog X.w) A (richCompare .Eq u (.ref a)) (fun v s' => ∃ k, v = .bool k ∧ (k = b ∧ ∃ H', Inv X pins σ H' s' ∧ P H')) X.xe s := fun tu hs h1 left => by
      refine cmp_KR hr.units0 hF I.ok.mod.kin J tu hs h1 left hm.at_ hm.fn ?_
      refine wpAny_mono (run_own Fo hb hx hr hA I ry hsp) (fun r s' z => ?_) fun _ _ e => e
      obtain ⟨z, H', I', rz, rfl, q⟩ := z
      cases rz
      exact ⟨b, rfl, rfl, H', I', q⟩
    rcases hy with rfl | ⟨i, rfl⟩ | ⟨z, rfl⟩
    · obtain rfl : u = .none := ry
      refine wpAny_ite_split (fun hab => absurd (eq_of_beq hab) nofun) (fun _ => ?_)
      refine wpAny_bind (wpAny_mono (fin (T := "NoneType") rfl (hrf.ty _ (by decide)) F.slot_NoneType_eq (fun _ hq => call_gives F.slot_NoneType_eq rfl F.entry_NoneType_eq (F.args_NoneType_eq_2 _ _) (SeqAt.NoneType___eq___none_ref_0 a) hq)) (fun v s' ⟨k, e, q⟩ => ?_) fun _ _ e => e)
      subst e
      exact wpAny_truthy_bool q
    · obtain ⟨t, rfl⟩ := ry
      refine wpAny_ite_split (fun hab => absurd (eq_of_beq hab) nofun) (fun _ => ?_)
      refine wpAny_bind (wpAny_mono (fin (T := "int") rfl (hrf.ty _ (by decide)) F.slot_int_eq (fun _ hq => call_meets F.slot_int_eq rfl F.entry_int_eq (F.args_int_eq_2 _ _) (int_eq_declines_inst i t a C dx) ⟨hob, hq⟩)) (fun v s' ⟨k, e, q⟩ => ?_) fun _ _ e => e)
      subst e
      exact wpAny_truthy_bool q
    · obtain ⟨t, rfl⟩ := ry
      refine wpAny_ite_split (fun hab => absurd (eq_of_beq hab) nofun) (fun _ => ?_)
      refine wpAny_bind (wpAny_mono (fin (T := "str") rfl (hrf.ty _ (by decide)) F.slot_str_eq (fun _ hq => call_meets F.slot_str_eq rfl F.entry_str_eq (F.args_str_eq_2 _ _) (str_eq_declines_inst z t a C dx) ⟨hob, hq⟩)) (fun v s' ⟨k, e, q⟩ => ?_) fun _ _ e => e)
      subst e
      exact wpAny_truthy_bool q
end
section
variable {X : Cx} {n : Nat}
def JJ (X : Cx) (pins : List (Addr × Obj)) (σ : L2.St) (P : Hp → Prop) (s : Shared) : Prop := ∃ H, Inv X pins σ H s ∧ P H
/-- the items stay, each answers -/
def ItemsOk (X : Cx) (C : Addr) (sp : Sp) (E : XK) (P : Hp → Prop) (a l : Addr) (vs : List V) (bs : List Bool) : Prop := vs.length = bs.length ∧ ∀ H, P H → (∃ dx fs, H a = some (.ins C dx fs)) ∧ H l = some (.lst vs) ∧ ∀ (i : Nat) v b, vs[i]? = some v → bs[i]? = some b → ItemOk X C sp E P a H v b
theorem own_loop {CX : CXT} {C f : Addr} {fd : FuncData} {ps : List Str} {sp : Sp} {E : XK} {P : Hp → Prop} {a l : Addr} {vs : List V} {bs : List Bool} {pins : List (Addr × Obj)} {σ : L2.St} {R : Result → Shared → Prop} (Fo : FnOk X.prog X.w X.K X.mg X.base CX n f fd ps sp) (hm : Meth X.K C "__eq__" f) (hrf : Rf X.K C) (hb : Binds X.K fd ps []) (hx : Passes CX X E) (hr : Room (n + 1) X.A) (hi : ItemsOk X C sp E P a l vs bs) (hE : ∀ e s', X.xe e s' → R (.error e) s') (k : Nat) :
    ∀ i : Nat, vs.length - i = k → ∀ s : Shared, JJ X pins σ P s → (∀ s', JJ X pins σ P s' → R (.ok (.ret (.bool ((bs.drop i).any id)))) s') →
      wpAny (model X.prog X.w) X.A.in1 (Builtin.«list.__contains__.loop» ⟨[.ref l, .ref a, rawInt i], []⟩) (fun fin s' => match fin with | .done f => R (.ok f) s' | .again c' => c'.quiet = true ∧ codeAny (model X.prog X.w) X.A c' R s') (fun e s' => R (.error e) s') s := by
  obtain ⟨hlen, hi⟩ := hi
  induction k with
  | zero =>
    intro i hk s hJ hR
    obtain ⟨H, I, hP⟩ := id hJ
    obtain ⟨_, hl, _⟩ := hi H hP
    obtain ⟨_, its, m, rv, e⟩ := (show ObjOk X.prog X.w H s.heap l (.lst vs) from I.hok l _ hl)
    have hR' := hR s hJ
    obtain ⟨hp, g, d, tk, os⟩ := s
    wp_walk using AutoSeq1.wpAny_loadPart' e
    have hll := rv.length
    have hn : its.toArray[((i : Nat) : Int).toNat]? = none := by simp; omega
    have hd : bs.drop i = [] := by simp; omega
    rw [hd] at hR'
    rw [hn]
    wp_walk
    exact hR'
  | succ k ih =>
    intro i hk s hJ hR
    obtain ⟨H, I, hP⟩ := id hJ
    obtain ⟨⟨dx, fs, ha⟩, hl, hit⟩ := hi H hP
    obtain ⟨_, its, m, rv, e⟩ := (show ObjOk X.prog X.w H s.heap l (.lst vs) from I.hok l _ hl)
    have hll := rv.length
    have hlt : i < vs.length := by omega
    have hlt3 : i < bs.length := by omega
    obtain ⟨y, hy, ry⟩ := rv.get (List.getElem?_eq_getElem hlt)
    have hb1 := eqB_own (A := X.A.in1) Fo hm hrf hb hx hr.in1 rfl I hP ha ry (hit i _ _ (List.getElem?_eq_getElem hlt) (List.getElem?_eq_getElem hlt3))
    have hd : bs.drop i = bs[i] :: bs.drop (i + 1) := by rw [List.drop_eq_getElem_cons hlt3]
    rw [hd] at hR
    simp only [List.any_cons, id] at hR
    generalize bs[i] = b at hb1 hR
    have hn : its.toArray[((i : Nat) : Int).toNat]? = some y := by simpa using hy
    obtain ⟨hp, g, d, tk, os⟩ := s
    wp_walk using AutoSeq1.wpAny_loadPart' e
    rw [hn]
    refine wpAny_bind (wpAny_mono hb1 (fun b' s' ⟨e1, hJ'⟩ => ?_) fun e s' he => hE e s' he)
    subst e1
    cases b' with
    | true =>
      have := hR s' hJ'
      obtain ⟨hp', g', d', tk', os'⟩ := s'
      wp_walk
      exact this
    | false =>
      have hc : ((i : Int) + 1) = ((i + 1 : Nat) : Int) := by push_cast; rfl
      have ih' := ih (i + 1) (by omega) s' hJ' (fun s2 hJ2 => by simpa using hR s2 hJ2)
      obtain ⟨hp', g', d', tk', os'⟩ := s'
      wp_walk
      rw [hc]
      exact ⟨plainId_quiet MeetsSeq.plain_contains_loop _, codeAny_builtin MeetsSeq.entry_contains_loop (by
        rw [Around.under_plainId MeetsSeq.plain_contains_loop _]
        exact ih')⟩
def rInOwn (X : Cx) (C : Addr) (sp : Sp) (E : XK) (neg : Bool) : R2 := fun x y H Q => ∃ (a l : Addr) (vs : List V) (bs : List Bool) (P : Hp → Prop), x = .ref a ∧ y = .ref l ∧ P H ∧ ItemsOk X C sp E P a l vs bs ∧ ∀ H', P H' → Q (.bl (neg != bs.any id)) H'
theorem own_meets {CX : CXT} {C f : Addr} {fd : FuncData} {ps : List Str} {sp : Sp} {E : XK} {P : Hp → Prop} {a l : Addr} {vs : List V} {bs : List Bool} {pins : List (Addr × Obj)} {σ : L2.St} (Fo : FnOk X.prog X.w X.K X.mg X.base CX n f fd ps sp) (hm : Meth X.K C "__eq__" f) (hrf : Rf X.K C) (hb : Binds X.K fd ps []) (hx : Passes CX X E) (hr : Room (n + 1) X.A) (hi : ItemsOk X C sp E P a l vs bs) :
    MeetsIn X.prog X.w (Builtin.«list.__contains__» ⟨[.ref l, .ref a], []⟩) (fun A R s => A = X.A ∧ JJ X pins σ P s ∧ (∀ s', JJ X pins σ P s' → R (.ok (.ret (.bool (bs.any id)))) s') ∧ ∀ e s', X.xe e s' → R (.error e) s') := by
  intro A R s h
  obtain ⟨rfl, hJ, hR, hE⟩ := h
  have lp := own_loop Fo hm hrf hb hx hr hi hE vs.length 0 rfl s hJ (fun s' hJ' => by simpa using hR s' hJ')
  obtain ⟨H, I, hP⟩ := id hJ
  obtain ⟨_, hl, _⟩ := hi.2 H hP
  obtain ⟨_, its, m, rv, e⟩ := (show ObjOk X.prog X.w H s.heap l (.lst vs) from I.hok l _ hl)
  obtain ⟨hp, g, d, tk, os⟩ := s
  wp_walk using AutoSeq1.wpAny_loadPart' e
  exact ⟨plainId_quiet MeetsSeq.plain_contains_loop _, codeAny_builtin MeetsSeq.entry_contains_loop (by
    rw [Around.under_plainId MeetsSeq.plain_contains_loop _]
    exact lp)⟩
theorem op_inOwn {CX : CXT} {C f : Addr} {fd : FuncData} {ps : List Str} {sp : Sp} {E : XK} (Fo : FnOk X.prog X.w X.K X.mg X.base CX n f fd ps sp) (hm : Meth X.K C "__eq__" f) (hrf : Rf X.K C) (hb : Binds X.K fd ps []) (hx : Passes CX X E) (hr : Room (n + 1) X.A) : OpR X (compareOp .In) (rInOwn X C sp E false) := by
  intro pins s σ H x y v u Q I rx ry h
  obtain ⟨a, l, vs, bs, P, rfl, rfl, hP, hi, hQ⟩ := h
  obtain rfl : v = .ref a := rx
  obtain rfl : u = .ref l := ry
  obtain ⟨_, hl, _⟩ := hi.2 H hP
  obtain ⟨_, its, m, rv, e⟩ := (show ObjOk X.prog X.w H s.heap l (.lst vs) from I.hok l _ hl)
  show wpAny _ X.A (do return .bool (← contains (.ref l) (.ref a))) (EP X pins σ Q) X.xe s
  refine wpAny_bind (wpAny_contains_slot ⟨_, e, rfl⟩ F.slot_list_contains (wpAny_mono (call_meetsIn (Q := fun v s' => v = .bool (bs.any id) ∧ JJ X pins σ P s') F.slot_list_contains ⟨_, e, rfl⟩ F.entry_list_contains (F.args_list_contains_2 _ _) (own_meets (pins := pins) (σ := σ) Fo hm hrf hb hx hr hi) ⟨rfl, ⟨H, I, hP⟩, fun s' hJ => ⟨rfl, hJ⟩, fun e s' he => he⟩) (fun v s' hv => ?_) fun _ _ e => e))
  obtain ⟨rfl, H', I', hP'⟩ := hv
  exact wpAny_truthy_bool (wpAny_pure ⟨.bl _, H', I', rfl, by simpa using hQ H' hP'⟩)
theorem op_ninOwn {CX : CXT} {C f : Addr} {fd : FuncData} {ps : List Str} {sp : Sp} {E : XK} (Fo : FnOk X.prog X.w X.K X.mg X.base CX n f fd ps sp) (hm : Meth X.K C "__eq__" f) (hrf : Rf X.K C) (hb : Binds X.K fd ps []) (hx : Passes CX X E) (hr : Room (n + 1) X.A) : OpR X (compareOp .NotIn) (rInOwn X C sp E true) := by
  intro pins s σ H x y v u Q I rx ry h
  obtain ⟨a, l, vs, bs, P, rfl, rfl, hP, hi, hQ⟩ := h
  obtain rfl : v = .ref a := rx
  obtain rfl : u = .ref l := ry
  obtain ⟨_, hl, _⟩ := hi.2 H hP
  obtain ⟨_, its, m, rv, e⟩ := (show ObjOk X.prog X.w H s.heap l (.lst vs) from I.hok l _ hl)
  show wpAny _ X.A (do return .bool (!(← contains (.ref l) (.ref a)))) (EP X pins σ Q) X.xe s
  refine wpAny_bind (wpAny_contains_slot ⟨_, e, rfl⟩ F.slot_list_contains (wpAny_mono (call_meetsIn (Q := fun v s' => v = .bool (bs.any id) ∧ JJ X pins σ P s') F.slot_list_contains ⟨_, e, rfl⟩ F.entry_list_contains (F.args_list_contains_2 _ _) (own_meets (pins := pins) (σ := σ) Fo hm hrf hb hx hr hi) ⟨rfl, ⟨H, I, hP⟩, fun s' hJ => ⟨rfl, hJ⟩, fun e s' he => he⟩) (fun v s' hv => ?_) fun _ _ e => e))
  obtain ⟨rfl, H', I', hP'⟩ := hv
  exact wpAny_truthy_bool (wpAny_pure ⟨.bl _, H', I', rfl, by simpa using hQ H' hP'⟩)
end
/-! ### over data -/
section
variable {X : Cx}
/-- an item of the list: of x's class, or None, a number, a text -/
def ItD (X : Cx) (P : List D → Rs → Prop) (C : Addr) (x d : D) (b : Bool) : Prop :=
  (∃ ns fs, d = .obj C ns fs ∧ P [d, x] (.sh (.bl b)) ∧ ∀ (pins : List (Addr × Obj)) (σ : L2.St) (H : Hp) (s : Shared) (v : V), Inv X pins σ H s → Rep X.K H d v → Rep X.K H x v → b = true) ∨
  ((d = .non ∨ (∃ i, d = .int i) ∨ ∃ z, d = .str z) ∧ P [x, d] (.sh (.bl b)))
theorem itemsOk_of {P0 : List D → Rs → Prop} {C : Addr} {ns : List Str} {fs ds : List D} {bs : List Bool} {F : Fr} {Γ : Gm} {σ : L2.St} {S : Hp} {a l : Addr} {vs : List V} (c : Nf X.K C) (hlen : ds.length = bs.length) (hit : ∀ (i : Nat) d b, ds[i]? = some d → bs[i]? = some b → ItD X P0 C (.obj C ns fs) d b) (r1 : Rep X.K S (.obj C ns fs) (.ref a)) (r2 : S l = some (.lst vs)) (r3 : Reps X.K S ds vs) : ItemsOk X C (sp0 X.K P0) E0 (fun H' => ∃ S', RS X.K F Γ σ H' S' ∧ Same S S') a l vs bs := by
  refine ⟨r3.length.symm.trans hlen, fun H' ⟨S', R', ss⟩ => ?_⟩
  obtain ⟨p0, dx0, us0, e0, h1, h2, h3⟩ := id (Rep.mono ss _ _ r1)
  cases e0
  refine ⟨⟨_, _, R'.sh _ _ h1⟩, R'.sh _ _ (ss _ _ r2), fun i v b hv hb => ?_⟩
  obtain ⟨d, hd, rd⟩ := r3.get' hv
  have rx := Rep.mono ss _ _ r1
  have rd' := Rep.mono ss _ _ rd
  rcases hit i d b hd hb with ⟨ns', fs', rfl, hp, hsame⟩ | ⟨hk, hp⟩
  · obtain ⟨p, dxp, us', rfl, q1, q2, q3⟩ := id rd'
    refine .inl ⟨p, dxp, _, _, rfl, R'.sh _ _ q1, .base (.ins (R'.sh _ _ h1) c.ic.ins.cl c.ic.ins.ha c.ic.ins.hn c.ic.ins.htk c.ic.ins.hm), Nf.me, fun pins σ' s I e => ?_, ?_⟩
    · subst e
      exact hsame pins σ' H' s _ I (Rep.mono R'.sh _ _ rd') (Rep.mono R'.sh _ _ rx)
    · exact ⟨S', [_, _], _, hp, R'.sh, .cons rd' (.one rx), fun v' H2 S2 t => by
        obtain ⟨R2, ok⟩ := R'.after0 t
        exact ⟨ok, S2, R2, ss.trans t.ss⟩⟩
  · refine .inr ⟨?_, S', [_, _], _, hp, R'.sh, .cons rx (.one rd'), fun v' H2 S2 t => by
      obtain ⟨R2, ok⟩ := R'.after0 t
      exact ⟨ok, S2, R2, ss.trans t.ss⟩⟩
    rcases hk with rfl | ⟨j, rfl⟩ | ⟨z, rfl⟩
    · exact .inl rd'
    · exact .inr (.inl ⟨j, rd'⟩)
    · exact .inr (.inr ⟨z, rd'⟩)
theorem o_inOwn {P : List D → Rs → Prop} {C : Addr} {ns ps : List Str} {fs ds : List D} {bs : List Bool} {j k : Nat} (G : M0 X.prog X.w X.K X.mg X.base C "__eq__" j ps P) (c : Nf X.K C) (hrf : Rf X.K C) (g : Gd k X) (hlen : ds.length = bs.length) (hit : ∀ (i : Nat) d b, ds[i]? = some d → bs[i]? = some b → ItD X P C (.obj C ns fs) d b) (hk : j + 1 ≤ k := by decide) : OpS X (compareOp .In) (.obj C ns fs) (.lst ds) (.sh (.bl (bs.any id))) := by
  obtain ⟨f, fd, hm, hb, Fo⟩ := G.ex
  refine ⟨_, op_inOwn Fo hm hrf hb passL (g.rm.mono hk), fun Γ F σ H S x y Q R r1 r2 q => ?_⟩
  obtain ⟨a, dx, us, rfl, h1, h2, h3⟩ := id r1
  obtain ⟨l, vs, rfl, q1, q2⟩ := r2
  exact ⟨a, l, vs, bs, _, rfl, rfl, ⟨S, R, .refl _⟩, itemsOk_of (F := F) (Γ := Γ) (σ := σ) c hlen hit r1 q1 q2, fun H' ⟨S', R', ss⟩ => by simpa using q _ H' S' R' ss rfl⟩
theorem o_ninOwn {P : List D → Rs → Prop} {C : Addr} {ns ps : List Str} {fs ds : List D} {bs : List Bool} {j k : Nat} (G : M0 X.prog X.w X.K X.mg X.base C "__eq__" j ps P) (c : Nf X.K C) (hrf : Rf X.K C) (g : Gd k X) (hlen : ds.length = bs.length) (hit : ∀ (i : Nat) d b, ds[i]? = some d → bs[i]? = some b → ItD X P C (.obj C ns fs) d b) (hk : j + 1 ≤ k := by decide) : OpS X (compareOp .NotIn) (.obj C ns fs) (.lst ds) (.sh (.bl (!bs.any id))) := by
  obtain ⟨f, fd, hm, hb, Fo⟩ := G.ex
  refine ⟨_, op_ninOwn Fo hm hrf hb passL (g.rm.mono hk), fun Γ F σ H S x y Q R r1 r2 q => ?_⟩
  obtain ⟨a, dx, us, rfl, h1, h2, h3⟩ := id r1
  obtain ⟨l, vs, rfl, q1, q2⟩ := r2
  exact ⟨a, l, vs, bs, _, rfl, rfl, ⟨S, R, .refl _⟩, itemsOk_of (F := F) (Γ := Γ) (σ := σ) c hlen hit r1 q1 q2, fun H' ⟨S', R', ss⟩ => by simpa using q _ H' S' R' ss rfl⟩
/-- what stands for two plain data is the same data -/
theorem rep_py {d e : D} {pins : List (Addr × Obj)} {σ : L2.St} {H : Hp} {s : Shared} {v : V} (I : Inv X pins σ H s) (h1 : Cmp d) (h2 : Cmp e) (r1 : Rep X.K H d v) (r2 : Rep X.K H e v) (hv : ∃ u, RelV v u) : d.py = e.py := by
  obtain ⟨u, ru⟩ := hv
  obtain ⟨as, q1⟩ := Dp.reads I d.py v u (dp_of (Same.refl _) _ _ h1.1 r1) ru
  obtain ⟨bs, q2⟩ := Dp.reads I e.py v u (dp_of (Same.refl _) _ _ h2.1 r2) ru
  rw [← SeqAt.readOf_eq (SeqAt.canLay_of_shaped h1.2) q1, ← SeqAt.readOf_eq (SeqAt.canLay_of_shaped h2.2) q2]
end
end PL

set_option linter.all false
namespace PL
open PySem L2
theorem rfB_ok {K : PySem.W.Frag} {x : Str} (h : rfB K x = true) : Rf K (He.ga K x) := by
  obtain ⟨h1, h2⟩ := He.ba h
  exact ⟨fun t ht => of_decide_eq_true (List.all_eq_true.mp h2 t ht), He.eqO_ok h1⟩
end PL

set_option Elab.async false
set_option linter.all false
set_option maxRecDepth 100000
set_option maxHeartbeats 1000000
namespace Hd
open PySem PySem.Spec PyProof.Rows L2 PL
section
variable {Pg : Program} {w : World} {K : PySem.W.Frag} {mg : Str → Option Value} {base : Heap}
def P_is_whole : List D → Rs → Prop := fun ds r => ∃ d, d.plain = true ∧ ds = [d] ∧ r = .sh (.bl (wholeB d))
theorem c_is_whole (Dd : Df K mg "is_whole" s_is_whole []) (T : Bt mg) : C0 Pg w K mg base "is_whole" 1 ["x"] P_is_whole := by
  refine c0_mk (k := 0) Dd sc_is_whole (fun _ _ _ _ _ _ us hl => match us, hl with | [_], _ => rfl) (by decide) (fun ds r => ?_) (fun f cd A outer s H E g ds r => ?_)
  · rintro ⟨d, hp, rfl, rfl⟩
    exact ⟨rfl, fun _ z => by cases z⟩
  · rintro ⟨d, hp, rfl, rfl⟩
    have h : ∃ Γ', Ends1 (cx Pg w K mg base N_is_whole "is_whole" (defScope s_is_whole) f cd A outer s H E) (ent N_is_whole [d]) (defBody s_is_whole) (.sh (.bl (isInt d && !isBool d))) Γ' :=
      ends_rt (s_one (s1_ret (e_and (e_callB (c_isInt hp) T.isinstance b_isinstance (a_cons (e_var 0) (a_cons (e_ty T.int b_int) a_nil))) fun _ => e_one (e_not (e_callB (c_isBool hp) T.isinstance b_isinstance (a_cons (e_var 0) (a_cons (e_ty T.bool b_bool) a_nil)))))))
    have e : (isInt d && !isBool d) = wholeB d := by cases d <;> first | rfl | cases hp
    rw [e] at h
    exact h
def P_is_between : List D → Rs → Prop := fun ds r => ∃ d lo hi, d.plain = true ∧ ds = [d, .int lo, .int hi] ∧ r = .sh (.bl (match d with | .int i => decide (lo ≤ i) && decide (i ≤ hi) | _ => false))
theorem c_is_between (Dd : Df K mg "is_between" s_is_between []) (G_is_whole : C0 Pg w K mg base "is_whole" 1 ["x"] P_is_whole) : C0 Pg w K mg base "is_between" 2 ["x", "low", "high"] P_is_between := by
  refine c0_mk (k := 1) Dd sc_is_between (fun _ _ _ _ _ _ us hl => match us, hl with | [_, _, _], _ => rfl) (by decide) (fun ds r => ?_) (fun f cd A outer s H E g ds r => ?_)
  · rintro ⟨d, lo, hi, hp, rfl, rfl⟩
    exact ⟨rfl, fun _ z => by cases z⟩
  · rintro ⟨d, lo, hi, hp, rfl, rfl⟩
    cases d with
    | int i => exact ends_rt (s_one (s1_ret (e_andT (e_c0 G_is_whole g (a_cons (e_var 0) a_nil) ⟨_, hp, rfl, rfl⟩) (e_one (e_chainI (e_var 1) (e_var 0) (e_var 2))))))
    | obj _ _ _ => cases hp
    | raw _ => cases hp
    | ext _ => cases hp
    | exc _ _ _ => cases hp
    | fls _ => cases hp
    | _ => exact ends_rt (s_one (s1_ret (e_andF (e_c0 G_is_whole g (a_cons (e_var 0) a_nil) ⟨_, hp, rfl, rfl⟩))))
def P_is_word : List D → Rs → Prop := fun ds r => ∃ d most, Pl d ∧ ds = [d, .int most] ∧ r = .sh (.bl (wordD most d))
theorem c_allR {X : Cx} {n : Nat} {b : Nat → Bool} (hc : X.calm = true) : CallS X (.builtin "all") [.lst ((List.range n).map fun j => .bl (b j))] (.sh (.bl ((List.range n).all b))) := by
  have h := c_all (X := X) (ns := (List.range n).map b) hc
  rw [List.map_map] at h
  rw [show ((List.range n).map b).all id = (List.range n).all b by rw [List.all_map]; rfl] at h
  exact h
theorem c_is_word (Dd : Df K mg "is_word" s_is_word []) (T : Bt mg) (G_L : ∃ t, mg "LETTERS" = some (.str letters t)) : C0 Pg w K mg base "is_word" 1 ["thing", "most"] P_is_word := by
  obtain ⟨tL, gL⟩ := G_L
  refine c0_mk (k := 0) Dd sc_is_word (fun _ _ _ _ _ _ us hl => match us, hl with | [_, _], _ => rfl) (by decide) (fun ds r => ?_) (fun f cd A outer s H E g ds r => ?_)
  · rintro ⟨d, most, hp, rfl, rfl⟩
    exact ⟨rfl, fun _ z => by cases z⟩
  · rintro ⟨d, most, hp, rfl, rfl⟩
    cases d with
    | str x =>
      refine ends_eq (ends_rt (s_one (s1_ret (e_andT (e_callB (c_isStr rfl) T.isinstance b_isinstance (a_cons (e_var 0) (a_cons (e_ty T.str b_str) a_nil)))
        (e_and (e_chainI e_int (e_callB (c_lenS hp) T.len b_len (a_cons (e_var 0) a_nil)) (e_var 1)) fun _ => e_one
          (e_callB (c_allR g.calm) T.all b_all (a_cons (e_frz (e_lc1 2 (fun j => .bl (decide (x.cps.getD j 0 ∈ letters.cps.toList))) g (it_str (e_var 0)) hp (blkOk_by (N := N_is_word) (sc := defScope s_is_word) (by decide +kernel)) rfl
            (fun j hj s1 H1 C cl fp => e_cmp o_inSign (e_var 2) (e_globS gL)))) a_nil))))))) ?_
      rfl
    | obj _ _ _ => cases hp
    | raw _ => cases hp
    | ext _ => cases hp
    | exc _ _ _ => cases hp
    | fls _ => cases hp
    | _ => exact ends_rt (s_one (s1_ret (e_andF (e_callB (c_isStr rfl) T.isinstance b_isinstance (a_cons (e_var 0) (a_cons (e_ty T.str b_str) a_nil))))))
def P_is_shade : List D → Rs → Prop := fun ds r => ∃ d, Pl d ∧ ds = [d] ∧ r = .sh (.bl (shadeD d))
theorem c_is_shade (Dd : Df K mg "is_shade" s_is_shade []) (G_is_word : C0 Pg w K mg base "is_word" 1 ["thing", "most"] P_is_word) : C0 Pg w K mg base "is_shade" 2 ["thing"] P_is_shade := by
  refine c0_mk (k := 1) Dd sc_is_shade (fun _ _ _ _ _ _ us hl => match us, hl with | [_], _ => rfl) (by decide) (fun ds r => ?_) (fun f cd A outer s H E g ds r => ?_)
  · rintro ⟨d, hp, rfl, rfl⟩
    exact ⟨rfl, fun _ z => by cases z⟩
  · rintro ⟨d, hp, rfl, rfl⟩
    exact ends_rt (s_one (s1_ret (e_c0 G_is_word g (a_cons (e_var 0) (a_cons e_int a_nil)) ⟨_, _, hp, rfl, rfl⟩)))
def P_is_stripe : List D → Rs → Prop := fun ds r => ∃ p, okStripe p ∧ ds = [dP p] ∧ r = .sh (.bl true)
theorem c_is_stripe (Dd : Df K mg "is_stripe" s_is_stripe []) (T : Bt mg) (G_is_shade : C0 Pg w K mg base "is_shade" 2 ["thing"] P_is_shade) (G_is_whole : C0 Pg w K mg base "is_whole" 1 ["x"] P_is_whole) : C0 Pg w K mg base "is_stripe" 3 ["thing"] P_is_stripe := by
  refine c0_mk (k := 2) Dd sc_is_stripe (fun _ _ _ _ _ _ us hl => match us, hl with | [_], _ => rfl) (by decide) (fun ds r => ?_) (fun f cd A outer s H E g ds r => ?_)
  · rintro ⟨p, hp, rfl, rfl⟩
    exact ⟨rfl, fun _ z => by cases z⟩
  · rintro ⟨p, hp, rfl, rfl⟩
    refine ends_eq (ends_rt (s_ifN (t_eq (t_w (w_or (t_not (t_val (e_callB (c_isTup rfl) T.isinstance b_isinstance (a_cons (e_var 0) (a_cons (e_ty T.tuple b_tuple) a_nil))))) fun h => (w_or1 (t_cmp o_neI (e_callB c_lenT T.len b_len (a_cons (e_var 0) a_nil)) e_int)))) rfl)
      (s_one (s1_ret (e_and (e_c0 G_is_shade g (a_cons (e_ix (e_var 0) e_int (i_tup (d := .str p.1) rfl)) a_nil) ⟨_, shade_pl hp.1, rfl, rfl⟩) fun h => (e_and (e_c0 G_is_whole g (a_cons (e_ix (e_var 0) e_int (i_tup (d := .int p.2) rfl)) a_nil) ⟨_, rfl, rfl, rfl⟩) fun h => (e_one (e_cmp o_gt (e_ix (e_var 0) e_int (i_tup (d := .int p.2) rfl)) e_int)))))))) ?_
    have h1 : shadeD (.str p.1) = true := hp.1
    rw [h1, decide_eq_true hp.2]
    rfl
def P_check_stripes : List D → Rs → Prop := fun ds r => ∃ ps, OkSt ps ∧ ds = [dS ps] ∧ r = .sh .non
theorem c_check_stripes (Dd : Df K mg "check_stripes" s_check_stripes []) (T : Bt mg) (G_M : ∃ t, mg "MOST" = some (.int 240 t)) (G_is_stripe : C0 Pg w K mg base "is_stripe" 3 ["thing"] P_is_stripe) : C0 Pg w K mg base "check_stripes" 4 ["thing"] P_check_stripes := by
  obtain ⟨tM, gM⟩ := G_M
  refine c0_mk (k := 3) Dd sc_check_stripes (fun _ _ _ _ _ _ us hl => match us, hl with | [_], _ => rfl) (by decide) (fun ds r => ?_) (fun f cd A outer s H E g ds r => ?_)
  · rintro ⟨ps, hp, rfl, rfl⟩
    exact ⟨rfl, fun _ z => by cases z⟩
  · rintro ⟨ps, hp, rfl, rfl⟩
    have hpos : ∀ p ∈ ps, 0 < p.2 := fun p h => (hp.ok p h).2
    refine ends_nx (s_ifN (t_eq (t_w (w_or (t_not (t_val (e_callB (c_isTup rfl) T.isinstance b_isinstance (a_cons (e_var 0) (a_cons (e_ty T.tuple b_tuple) a_nil))))) fun h => (w_or1 (t_cmp (o_eqT0 g.rm.units (cmp_dS fun p h => shade_ok (hp.ok p h).1)) (e_var 0) (e_tup a_nil))))) ?_)
      (s_cons (s1_set 1 g.nd e_int) (s_cons (s1_for g (it_enumT T.enumerate (a_cons (e_var 0) a_nil)) (fun j => [.sh (dS ps), .sh (.int (tot (ps.take j))), .un, .un]) (fun j => [.sh (dS ps), .sh (.int (tot (ps.take j))), .sh (.int (j : Nat)), .sh (itd (ps.map dP) j)]) .refl
        (fun j hj => g_tup g.calm (gs_cons (g_name 2 g.nd) (gs_cons (g_name 3 g.nd) gs_nil))) (fun j hj => .inl ?_)) s_nil)))
    · have : ps.isEmpty = false := by cases ps with | nil => exact absurd rfl hp.ne | cons x r => rfl
      show (!true || (ps.map dP).isEmpty) = false
      rw [List.isEmpty_map, this]; rfl
    · have hj' : j < ps.length := by simpa using hj
      rw [itd_map dP ps j hj']
      have ok := hp.ok _ (List.getElem_mem hj')
      have le := Int.le_trans (tot_take hpos (j + 1)) hp.le
      rw [tot_succ hj'] at le
      refine s_wk (s_ifN (t_eq (t_not (t_val (e_c0 G_is_stripe g (a_cons (e_var 3) a_nil) ⟨_, ok, rfl, rfl⟩))) rfl) (s_cons (s1_aug 1 g.nd ip_addI rfl (e_ix (e_var 3) e_int (i_tup (d := .int ps[j].2) rfl))) (s_ifN (t_eq (t_cmp o_gt (e_var 1) (e_globI gM)) (decide_eq_false (by omega))) s_nil))) ?_
      rw [tot_succ hj']
      exact Wk.cv ⟨rfl, fun i s e => by
        match i, e with
        | 0, e => exact .inr e
        | 1, e => exact .inr e
        | 2, e => cases e; exact .inl rfl
        | 3, e => cases e; exact .inl rfl⟩
end
end Hd

set_option Elab.async false
set_option linter.all false
set_option maxRecDepth 100000
set_option maxHeartbeats 1000000
namespace Hd
open PySem PySem.Spec PyProof.Rows L2 PL
section
variable {Pg : Program} {w : World} {K : PySem.W.Frag} {mg : Str → Option Value} {base : Heap}
def P_threads_of : List D → Rs → Prop := fun ds r => ∃ ps, OkSt ps ∧ ds = [dS ps] ∧ r = .sh (dT (thr ps))
theorem big240 : (240 : Nat) < sizeLine := by decide
theorem c_threads_of (Dd : Df K mg "threads_of" s_threads_of []) (T : Bt mg) (G_check_stripes : C0 Pg w K mg base "check_stripes" 4 ["thing"] P_check_stripes) : C0 Pg w K mg base "threads_of" 5 ["stripes"] P_threads_of := by
  refine c0_mk (k := 4) Dd sc_threads_of (fun _ _ _ _ _ _ us hl => match us, hl with | [_], _ => rfl) (by decide) (fun ds r => ?_) (fun f cd A outer s H E g ds r => ?_)
  · rintro ⟨ps, hp, rfl, rfl⟩
    exact ⟨rfl, fun _ z => by cases z⟩
  · rintro ⟨ps, hp, rfl, rfl⟩
    have hpos : ∀ p ∈ ps, 0 < p.2 := fun p h => (hp.ok p h).2
    refine ends_eq (ends_rt (s_cons (s1_expr (e_c0 G_check_stripes g (a_cons (e_var 0) a_nil) ⟨ps, hp, rfl, rfl⟩)) (s_cons (s1_set 1 g.nd (e_lst a_nil)) (s_cons (s1_for g (it_tup (e_var 0)) (fun j => [.sh (dS ps), .ow (.lst ((thr (ps.take j)).map .str)), .un, .un]) (fun j => [.sh (dS ps), .ow (.lst ((thr (ps.take j)).map .str)), .sh (.str (ps.getD j default).1), .sh (.int (ps.getD j default).2)]) .refl (fun j hj => ?_) (fun j hj => .inl ?_))
      (s_one (s1_ret (e_callTy c_tupL T.tuple b_tuple (a_cons (e_cv (cv_frz (i := 1) rfl) (e_var 1)) a_nil)))))))) ?_
    · have hj' : j < ps.length := by simpa using hj
      rw [itd_map dP ps j hj', List.getD_eq_getElem?_getD, List.getElem?_eq_getElem hj']
      exact g_tup g.calm (gs_cons (g_name 2 g.nd) (gs_cons (g_name 3 g.nd) gs_nil))
    · have hj' : j < ps.length := by simpa using hj
      rw [List.getD_eq_getElem?_getD, List.getElem?_eq_getElem hj']
      have le := Int.le_trans (tot_take hpos (j + 1)) hp.le
      have hl := thr_len (ps := ps.take (j + 1)) fun p h => hpos p (List.mem_of_mem_take h)
      have hl2 := hl
      rw [thr_succ hj', List.length_append, List.length_replicate] at hl2
      have pj := hpos _ (List.getElem_mem hj')
      have b := big240
      refine s_wk (s_one (s1_expr (e_extend (i := 1) (e_fz (e_bin (o_repL (ds := [.str ps[j].1]) (k := ps[j].2) (by omega) (by omega) (by show 1 * _ ≤ _; omega)) (e_fz (e_lst (a_cons (e_var 2) a_nil))) (e_var 3))) ⟨_, _, has_ow, _, rfl⟩ has_ow ?_))) ?_
      · rw [List.length_map]
        show _ + (List.replicate _ [D.str ps[j].1]).flatten.length ≤ _
        rw [PyProof.Rows.lm_len_rep_flat]
        show _ + _ * 1 ≤ _
        omega
      · have e : (thr (ps.take j)).map D.str ++ (List.replicate (ps[j].2).toNat [D.str ps[j].1]).flatten = (thr (ps.take (j + 1))).map .str := by
          rw [thr_succ hj', List.map_append, List.map_replicate]
          congr 1
          generalize (ps[j].2).toNat = n
          induction n with
          | zero => rfl
          | succ n ih => rw [List.replicate_succ, List.replicate_succ, List.flatten_cons, ih]; rfl
        show Cv K [.sh (dS ps), .ow (.lst ((thr (ps.take j)).map .str ++ (List.replicate (ps[j].2).toNat [D.str ps[j].1]).flatten)), .sh (.str ps[j].1), .sh (.int ps[j].2)] _
        rw [e]
        exact Wk.cv (.keep (.keep (.drop (.drop .nil))))
    · show Rs.sh (.tup ((thr (ps.take (ps.map dP).length)).map .str)) = _
      rw [List.length_map, List.take_length]
def P_merged : List D → Rs → Prop := fun ds r => ∃ ts, (∀ t ∈ ts, okS t) ∧ ts.length ≤ 1000 ∧ ds = [dT ts] ∧ r = .sh (dS (mrg ts))
theorem mrg_len (ts : List Str) : ∀ acc : List (Str × Int), (ts.foldl mrgStep acc).length ≤ acc.length + ts.length := by
  induction ts with
  | nil => intro acc; exact Nat.le_refl _
  | cons s ts ih =>
    intro acc
    refine Nat.le_trans (ih (mrgStep acc s)) ?_
    have : (mrgStep acc s).length ≤ acc.length + 1 := by
      unfold mrgStep
      split
      · split
        · rename_i h _
          have : acc ≠ [] := fun z => by rw [z] at h; cases h
          have := List.length_pos_iff.mpr this
          rw [List.length_append, List.length_dropLast]
          show acc.length - 1 + 1 ≤ _
          omega
        · simp
      · simp
    rw [List.length_cons]; omega
theorem mrg_mem (P : Str → Prop) : ∀ ts : List Str, (∀ t ∈ ts, P t) → ∀ p ∈ mrg ts, P p.1 := by
  intro ts
  suffices h : ∀ acc : List (Str × Int), (∀ p ∈ acc, P p.1) → (∀ t ∈ ts, P t) → ∀ p ∈ ts.foldl mrgStep acc, P p.1 from h [] (fun _ z => by cases z)
  induction ts with
  | nil => intro acc h _; exact h
  | cons s ts ih =>
    intro acc h ht
    refine ih _ (fun p hp => ?_) fun t z => ht t (List.mem_cons_of_mem _ z)
    have hs := ht s (List.mem_cons_self ..)
    unfold mrgStep at hp
    split at hp
    · split at hp
      · rcases List.mem_append.mp hp with z | z
        · exact h p (List.dropLast_subset _ z)
        · rw [List.mem_singleton.mp z]; exact hs
      · rcases List.mem_append.mp hp with z | z
        · exact h p z
        · rw [List.mem_singleton.mp z]; exact hs
    · rw [List.mem_singleton.mp hp]; exact hs
theorem dropLast_set {α : Type} (xs : List α) (y : α) (h : xs ≠ []) : xs.set (xs.length - 1) y = xs.dropLast ++ [y] := by
  have e := List.dropLast_concat_getLast h
  have hl := List.length_pos_iff.mpr h
  rw [← e]
  rw [List.set_append_right _ _ (by simp)]
  simp
theorem c_merged (Dd : Df K mg "merged" s_merged []) (T : Bt mg) : C0 Pg w K mg base "merged" 1 ["threads"] P_merged := by
  refine c0_mk (k := 0) Dd sc_merged (fun _ _ _ _ _ _ us hl => match us, hl with | [_], _ => rfl) (by decide) (fun ds r => ?_) (fun f cd A outer s H E g ds r => ?_)
  · rintro ⟨ts, ho, hp, rfl, rfl⟩
    exact ⟨rfl, fun _ z => by cases z⟩
  · rintro ⟨ts, ho, hp, rfl, rfl⟩
    refine ends_eq (ends_rt (s_cons (s1_set 1 g.nd (e_lst a_nil)) (s_cons (s1_for g (it_tup (e_var 0)) (fun j => [.sh (dT ts), .ow (.lst ((mrg (ts.take j)).map dP)), .un]) (fun j => [.sh (dT ts), .ow (.lst ((mrg (ts.take j)).map dP)), .sh (.str (ts.getD j default))]) .refl (fun j hj => ?_) (fun j hj => .inl ?_))
      (s_one (s1_ret (e_callTy c_tupL T.tuple b_tuple (a_cons (e_cv (cv_frz (i := 1) rfl) (e_var 1)) a_nil))))))) ?_
    · have hj' : j < ts.length := by simpa using hj
      rw [itd_map D.str ts j hj', List.getD_eq_getElem?_getD, List.getElem?_eq_getElem hj']
      exact g_name 2 g.nd
    · have hj' : j < ts.length := by simpa using hj
      rw [List.getD_eq_getElem?_getD, List.getElem?_eq_getElem hj', List.take_succ_eq_append_getElem hj', mrg_snoc]
      have hlen : (mrg (ts.take j)).length ≤ 1000 := by
        have := mrg_len (ts.take j) []
        unfold mrg
        rw [List.length_take] at this
        simp only [List.length_nil] at this
        omega
      have hok : ∀ p ∈ mrg (ts.take j), okS p.1 := mrg_mem okS _ fun t z => ho t (List.mem_of_mem_take z)
      generalize mrg (ts.take j) = ms at hlen hok
      have b : (1000 : Nat) < sizeLine := by decide
      show SX _ [.sh (dT ts), .ow (.lst (ms.map dP)), .sh (.str ts[j])] _ _
      cases hms : ms.getLast? with
      | none =>
        have e : ms = [] := by simpa using hms
        subst e
        refine s_wk (s_one (s1_ifF (t_eq (t_w (w_andF (t_ro (t_eq (t_cmp (o_neL0 g.rm.units cmp_l0) (e_var 1) (e_fz (e_lst a_nil))) rfl)))) rfl) (s_one (s1_expr (e_append (i := 1) (e_tup (a_cons (e_var 2) (a_cons e_int a_nil))) ⟨_, _, has_ow, _, rfl⟩ has_ow (by show 0 < sizeLine; decide)))))) ?_
        show Cv K [.sh (dT ts), .ow (.lst [.tup [.str ts[j], .int 1]]), .sh (.str ts[j])] _
        exact Wk.cv (.keep (.keep (.drop .nil)))
      | some p =>
        obtain ⟨t, n⟩ := p
        have hne : ms ≠ [] := fun z => by rw [z] at hms; cases hms
        have hlast : atI ms (-1) = some (t, n) := by
          have e := List.dropLast_concat_getLast hne
          have e2 : ms.getLast hne = (t, n) := by
            rw [List.getLast?_eq_getLast hne] at hms
            exact Option.some.inj hms
          rw [e2] at e
          rw [← e]
          exact atI_last _ _
        have hl2 : atI (ms.map dP) (-1) = some (dP (t, n)) := by rw [atI_map, hlast]; rfl
        have hlp := List.length_pos_iff.mpr hne
        have hem : (ms.map dP).isEmpty = false := by
          cases ms with
          | nil => exact absurd rfl hne
          | cons x r => rfl
        have hcm : Cmp (.lst (ms.map dP)) := cmp_dSl hok
        by_cases htj : t = ts[j]
        · have hix : ixN (ms.map dP).length (-1) = some (ms.length - 1) := by
            unfold ixN
            rw [List.length_map, if_neg (by decide), if_pos (by omega)]
            congr 1
            omega
          refine s_wk (s_one (s1_ifT (t_eq (t_ro (t_eq (t_w (w_andT (t_eq (t_cmp (o_neL0 g.rm.units hcm) (e_var 1) (e_fz (e_lst a_nil))) (by rw [hem]; rfl)) (w_and1 (t_cmp o_eqS (e_ix (e_ix (e_var 1) (e_neg e_int) (i_list hl2)) e_int (i_tup (d := .str t) rfl)) (e_var 2))))) rfl)) (decide_eq_true htj)) (s_one (s1_asg (g_setix (n := 1) has_ow (e_neg e_int) hix) (e_tup (a_cons (e_var 2) (a_cons (e_bin o_addI (e_ro (e_ix (e_ix (e_var 1) (e_neg e_int) (i_list hl2)) e_int (i_tup (d := .int n) rfl)) trivial) e_int) a_nil))))))) ?_
          have e : (ms.map dP).set (ms.length - 1) (.tup [.str ts[j], .int (n + 1)]) = (mrgStep ms ts[j]).map dP := by
            unfold mrgStep
            rw [hms]
            show _ = (if t = ts[j] then ms.dropLast ++ [(ts[j], n + 1)] else _).map dP
            rw [if_pos htj, ← dropLast_set ms _ hne, List.map_set]
          show Cv K [.sh (dT ts), .ow (.lst ((ms.map dP).set (ms.length - 1) (.tup [.str ts[j], .int (n + 1)]))), .sh (.str ts[j])] _
          rw [e]
          exact Wk.cv (.keep (.keep (.drop .nil)))
        · refine s_wk (s_one (s1_ifF (t_eq (t_ro (t_eq (t_w (w_andT (t_eq (t_cmp (o_neL0 g.rm.units hcm) (e_var 1) (e_fz (e_lst a_nil))) (by rw [hem]; rfl)) (w_and1 (t_cmp o_eqS (e_ix (e_ix (e_var 1) (e_neg e_int) (i_list hl2)) e_int (i_tup (d := .str t) rfl)) (e_var 2))))) rfl)) (decide_eq_false htj)) (s_one (s1_expr (e_append (i := 1) (e_tup (a_cons (e_var 2) (a_cons e_int a_nil))) ⟨_, _, has_ow, _, rfl⟩ has_ow (by rw [List.length_map]; omega)))))) ?_
          have e : ms.map dP ++ [.tup [.str ts[j], .int 1]] = (mrgStep ms ts[j]).map dP := by
            unfold mrgStep
            rw [hms]
            show _ = (if t = ts[j] then ms.dropLast ++ [(ts[j], n + 1)] else ms ++ [(ts[j], 1)]).map dP
            rw [if_neg htj, List.map_append]
            rfl
          show Cv K [.sh (dT ts), .ow (.lst (ms.map dP ++ [.tup [.str ts[j], .int 1]])), .sh (.str ts[j])] _
          rw [e]
          exact Wk.cv (.keep (.keep (.drop .nil)))
    · show Rs.sh (.tup ((mrg (ts.take (ts.map D.str).length)).map dP)) = _
      rw [List.length_map, List.take_length]
end
end Hd

set_option Elab.async false
set_option linter.all false
set_option maxRecDepth 100000
set_option maxHeartbeats 1000000
namespace Hd
open PySem PySem.Spec PyProof.Rows L2 PL
section
variable {Pg : Program} {w : World} {K : PySem.W.Frag} {mg : Str → Option Value} {base : Heap}
def Mn (K : PySem.W.Frag) (w : World) (mg : Str → Option Value) : Prop := ∃ dM es n, mg "MANNERS" = some (.ref dM) ∧ KDict K w dM es n ∧ ∀ m : Mnr, ∃ f, PySem.W.nsIn K dM m.s = some (some (.ref f)) ∧ mg m.f = some (.ref f)
def P_lay (m : Mnr) : List D → Rs → Prop := fun ds r => ∃ ts, ts.length ≤ 1000 ∧ ds = [dT ts] ∧ r = .sh (dT (layW m ts))
theorem big2000 : (2000 : Nat) < sizeLine := by decide
theorem c_run_word (Dd : Df K mg "run_word" s_run_word []) : C0 Pg w K mg base "run_word" 1 ["threads"] (P_lay .run) := by
  refine c0_mk (k := 0) Dd sc_run_word (fun _ _ _ _ _ _ us hl => match us, hl with | [_], _ => rfl) (by decide) (fun ds r => ?_) (fun f cd A outer s H E g ds r => ?_)
  · rintro ⟨ts, hp, rfl, rfl⟩
    exact ⟨rfl, fun _ z => by cases z⟩
  · rintro ⟨ts, hp, rfl, rfl⟩
    exact ends_rt (s_one (s1_ret (e_var 0)))
theorem c_pivot_word (Dd : Df K mg "pivot_word" s_pivot_word []) : C0 Pg w K mg base "pivot_word" 1 ["threads"] (P_lay .pivot) := by
  refine c0_mk (k := 0) Dd sc_pivot_word (fun _ _ _ _ _ _ us hl => match us, hl with | [_], _ => rfl) (by decide) (fun ds r => ?_) (fun f cd A outer s H E g ds r => ?_)
  · rintro ⟨ts, hp, rfl, rfl⟩
    exact ⟨rfl, fun _ z => by cases z⟩
  · rintro ⟨ts, hp, rfl, rfl⟩
    refine ends_eq (ends_rt (s_one (s1_ret (e_bin (o_dTcat ?_) (e_var 0) (e_backD (e_slice l_dT (e_var 0) (p_some e_int) (p_some (e_neg e_int))) p_none p_none))))) ?_
    · have := pickB_len (cutL ts (some 1) (some (-1))) none none
      rw [show (some (-1 : Int)) = some (-1) from rfl, cut_mid] at this
      rw [cut_mid]
      have h2 : ((ts.drop 1).dropLast).length ≤ ts.length := by simp; omega
      have := big2000
      omega
    · rw [cut_mid, pickB_all]; rfl
theorem c_fold_word (Dd : Df K mg "fold_word" s_fold_word []) : C0 Pg w K mg base "fold_word" 1 ["threads"] (P_lay .fold) := by
  refine c0_mk (k := 0) Dd sc_fold_word (fun _ _ _ _ _ _ us hl => match us, hl with | [_], _ => rfl) (by decide) (fun ds r => ?_) (fun f cd A outer s H E g ds r => ?_)
  · rintro ⟨ts, hp, rfl, rfl⟩
    exact ⟨rfl, fun _ z => by cases z⟩
  · rintro ⟨ts, hp, rfl, rfl⟩
    refine ends_eq (ends_rt (s_one (s1_ret (e_bin (o_dTcat ?_) (e_var 0) (e_backD (e_var 0) p_none p_none))))) ?_
    · rw [pickB_all, List.length_reverse]
      have := big2000
      omega
    · rw [pickB_all]; rfl
theorem c_left_word (Dd : Df K mg "left_word" s_left_word []) : C0 Pg w K mg base "left_word" 1 ["threads"] (P_lay .left) := by
  refine c0_mk (k := 0) Dd sc_left_word (fun _ _ _ _ _ _ us hl => match us, hl with | [_], _ => rfl) (by decide) (fun ds r => ?_) (fun f cd A outer s H E g ds r => ?_)
  · rintro ⟨ts, hp, rfl, rfl⟩
    exact ⟨rfl, fun _ z => by cases z⟩
  · rintro ⟨ts, hp, rfl, rfl⟩
    refine ends_eq (ends_rt (s_one (s1_ret (e_bin (o_dTcat ?_) (e_var 0) (e_backD (e_slice l_dT (e_var 0) (p_some e_int) p_none) p_none p_none))))) ?_
    · rw [pickB_all, cut_1, List.length_reverse, List.length_drop]
      have := big2000
      omega
    · rw [pickB_all, cut_1]; rfl
theorem c_right_word (Dd : Df K mg "right_word" s_right_word []) : C0 Pg w K mg base "right_word" 1 ["threads"] (P_lay .right) := by
  refine c0_mk (k := 0) Dd sc_right_word (fun _ _ _ _ _ _ us hl => match us, hl with | [_], _ => rfl) (by decide) (fun ds r => ?_) (fun f cd A outer s H E g ds r => ?_)
  · rintro ⟨ts, hp, rfl, rfl⟩
    exact ⟨rfl, fun _ z => by cases z⟩
  · rintro ⟨ts, hp, rfl, rfl⟩
    refine ends_eq (ends_rt (s_one (s1_ret (e_bin (o_dTcat ?_) (e_var 0) (e_backD (e_slice l_dT (e_var 0) p_none (p_some (e_neg e_int))) p_none p_none))))) ?_
    · rw [pickB_all, cut_init, List.length_reverse, List.length_dropLast]
      have := big2000
      omega
    · rw [pickB_all, cut_init]; rfl
def P_is_manner : List D → Rs → Prop := fun ds r => ∃ m : Mnr, ds = [.str m.s] ∧ r = .sh (.bl true)
theorem c_is_manner (Dd : Df K mg "is_manner" s_is_manner []) (T : Bt mg) (M : Mn K w mg) : C0 Pg w K mg base "is_manner" 1 ["thing"] P_is_manner := by
  obtain ⟨dM, es, n, gM, kd, hm⟩ := M
  refine c0_mk (k := 0) Dd sc_is_manner (fun _ _ _ _ _ _ us hl => match us, hl with | [_], _ => rfl) (by decide) (fun ds r => ?_) (fun f cd A outer s H E g ds r => ?_)
  · rintro ⟨m, rfl, rfl⟩
    exact ⟨rfl, fun _ z => by cases z⟩
  · rintro ⟨m, rfl, rfl⟩
    obtain ⟨fm, h1, _⟩ := hm m
    exact ends_rt (s_one (s1_ret (e_andT (e_callB (c_isStr rfl) T.isinstance b_isinstance (a_cons (e_var 0) (a_cons (e_ty T.str b_str) a_nil))) (e_one (e_cmp (o_inK (u := some (.ref fm)) kd h1) (e_var 0) (e_globR gM))))))
abbrev BIG : Int := 1000000000000000000000000000000
def Spot (n : Int) : Prop := -BIG ≤ n ∧ n ≤ BIG
def P_check_spot : List D → Rs → Prop := fun ds r => ∃ n, Spot n ∧ ds = [.int n] ∧ r = .sh .non
theorem c_check_spot (Dd : Df K mg "check_spot" s_check_spot []) (G_B : ∃ t, mg "BIG" = some (.int BIG t)) (G_is_between : C0 Pg w K mg base "is_between" 2 ["x", "low", "high"] P_is_between) : C0 Pg w K mg base "check_spot" 3 ["thing"] P_check_spot := by
  obtain ⟨tB, gB⟩ := G_B
  refine c0_mk (k := 2) Dd sc_check_spot (fun _ _ _ _ _ _ us hl => match us, hl with | [_], _ => rfl) (by decide) (fun ds r => ?_) (fun f cd A outer s H E g ds r => ?_)
  · rintro ⟨n, hp, rfl, rfl⟩
    exact ⟨rfl, fun _ z => by cases z⟩
  · rintro ⟨n, hp, rfl, rfl⟩
    refine ends_nx (s_ifN (t_eq (t_not (t_val (e_c0 G_is_between g (a_cons (e_var 0) (a_cons (e_bin o_subI e_int (e_globI gB)) (a_cons (e_globI gB) a_nil))) ⟨_, _, _, rfl, rfl, rfl⟩))) ?_) s_nil)
    obtain ⟨h1, h2⟩ := hp
    show (!(decide (0 - BIG ≤ n) && decide (n ≤ BIG))) = false
    rw [decide_eq_true (by omega), decide_eq_true h2]; rfl
def P_least_round : List D → Rs → Prop := fun ds r => ∃ ts, (∀ t ∈ ts, okS t) ∧ ts.length ≤ 200000 ∧ ds = [dT ts] ∧ r = .sh (.int (lr ts))
theorem c_least_round (Dd : Df K mg "least_round" s_least_round []) (T : Bt mg) : C0 Pg w K mg base "least_round" 1 ["threads"] P_least_round := by
  refine c0_mk (k := 0) Dd sc_least_round (fun _ _ _ _ _ _ us hl => match us, hl with | [_], _ => rfl) (by decide) (fun ds r => ?_) (fun f cd A outer s H E g ds r => ?_)
  · rintro ⟨ts, ho, hp, rfl, rfl⟩
    exact ⟨rfl, fun _ z => by cases z⟩
  · rintro ⟨ts, ho, hp, rfl, rfl⟩
    have hn : ((ts.map D.str).length : Int) = (ts.length : Int) := by rw [List.length_map]
    have hcnt : (((ts.map D.str).length : Int) - 1).toNat = ts.length - 1 := by rw [hn]; omega
    refine ends_eq (ends_ex (s_consE (s1_set 1 g.nd (e_callB c_lenT T.len b_len (a_cons (e_var 0) a_nil)))
      (s_search 2 (fun i => perAt ts (i + 1)) (fun i => .sh (.int (1 + (i : Nat)))) (.sh (.int (ts.map D.str).length)) g (it_range2 T.range (a_cons e_int (a_cons (e_var 1) a_nil)) (by rw [hn]; omega)) rfl (fun j hj => ?_) (fun j hj _ => s_ex (s_one (s1_ret (e_var 2)))) (s_ex (s_one (s1_ret (e_var 1))))))) ?_
    · rw [hcnt] at hj
      refine t_eq (t_w (w_and (t_cmp o_eqI (e_bin (o_mod (j := 1 + ((j : Nat) : Int)) (by omega)) (e_var 1) (e_var 2)) e_int) fun h => (w_and1 (t_cmp (o_eqT g.rm.units ?_ ?_) (e_slice l_dT (e_var 0) (p_some (e_var 2)) p_none) (e_slice l_dT (e_var 0) p_none (p_some (e_bin o_subI (e_var 1) (e_var 2)))))))) ?_
      · intro x hx
        have e1 : ((1 : Int) + (j : Nat)) = ((j + 1 : Nat) : Int) := by omega
        rw [e1, cut_from] at hx
        exact ho x (List.mem_of_mem_drop hx)
      · intro x hx
        have e1 : ((ts.map D.str).length : Int) - (1 + (j : Nat)) = ((ts.length - (j + 1) : Nat) : Int) := by rw [hn]; omega
        rw [e1, cut_to] at hx
        exact ho x (List.mem_of_mem_take hx)
      · have e1 : ((1 : Int) + (j : Nat)) = ((j + 1 : Nat) : Int) := by omega
        have e2 : ((ts.map D.str).length : Int) - ((j + 1 : Nat) : Int) = ((ts.length - (j + 1) : Nat) : Int) := by rw [hn]; omega
        unfold perAt
        rw [e1, e2, cut_from, cut_to, hn]
        congr 1
        by_cases hz : ts.length % (j + 1) = 0
        · rw [decide_eq_true hz, decide_eq_true (by omega)]
        · rw [decide_eq_false hz, decide_eq_false (by omega)]
    · unfold lr
      rw [hcnt]
      cases e : (List.range (ts.length - 1)).find? fun i => perAt ts (i + 1) with
      | none =>
        show Rs.sh (.int ((ts.map D.str).length : Int)) = .sh (.int (ts.length : Int))
        rw [hn]
      | some m =>
        show Rs.sh (.int (1 + (m : Nat))) = .sh (.int ((m + 1 : Nat) : Int))
        rw [show (1 : Int) + (m : Nat) = ((m + 1 : Nat) : Int) by omega]
end
end Hd

set_option Elab.async false
set_option linter.all false
set_option maxRecDepth 100000
set_option maxHeartbeats 1000000
namespace Hd
open PySem PySem.Spec PyProof.Rows L2 PL
section
variable {Pg : Program} {w : World} {K : PySem.W.Frag} {mg : Str → Option Value} {base : Heap}
abbrev dR (C : Addr) (ts : List Str) : D := .obj C ["kept"] [dT ts]
abbrev oR (C : Addr) (ts : List Str) : Ob := .ins C ["kept"] [dT ts]
def P_init (C : Addr) : Ob → List D → Rs → Ob → Prop := fun o ds r o' => ∃ ps m st, OkSt ps ∧ Spot st ∧ lr (layW m (thr ps)) ≤ 240 ∧ o = .ins C [] [] ∧ ds = [dS ps, .str m.s, .int st] ∧ r = .sh .non ∧ o' = oR C (rowK ps m st)
theorem atI_ok {α : Type} {xs : List α} {i : Int} {d : α} (h0 : 0 ≤ i) (h1 : i < xs.length) : atI xs i = some (xs.getD i.toNat d) := by
  unfold atI ixN
  rw [if_pos h0, if_pos (by omega)]
  show xs[i.toNat]? = _
  rw [List.getD_eq_getElem?_getD, List.getElem?_eq_getElem (by omega)]
  rfl
theorem _root_.PL.OkSt.pos {ps : List (Str × Int)} (h : OkSt ps) : ∀ p ∈ ps, 0 < p.2 := fun p hp => (h.ok p hp).2
theorem _root_.PL.OkSt.len {ps : List (Str × Int)} (h : OkSt ps) : 0 < (thr ps).length ∧ (thr ps).length ≤ 240 := by
  have h1 := thr_len h.pos
  have h2 := h.le
  cases ps with
  | nil => exact absurd rfl h.ne
  | cons p r =>
    have h3 := h.pos p (List.mem_cons_self ..)
    have h4 := tot_nonneg (ps := r) fun q hq => h.pos q (List.mem_cons_of_mem _ hq)
    have h5 : tot (p :: r) = p.2 + tot r := by unfold tot; rw [List.map_cons, List.sum_cons]
    omega
theorem c_RowX (C : Addr) (Dd : Di K C "Row.__init__" s_Row___init__ [.str "run", .int 0]) (T : Bt mg) (M : Mn K w mg) (gC : mg "Row" = some (.ref C)) (hC : Cls K C) (hN : NoAttr K C "kept") (G_M : ∃ t, mg "MOST" = some (.int 240 t))
    (G_threads_of : C0 Pg w K mg base "threads_of" 5 ["stripes"] P_threads_of) (G_is_manner : C0 Pg w K mg base "is_manner" 1 ["thing"] P_is_manner) (G_check_spot : C0 Pg w K mg base "check_spot" 3 ["thing"] P_check_spot)
    (G_lay : ∀ m : Mnr, C0 Pg w K mg base m.f 1 ["threads"] (P_lay m)) (G_least_round : C0 Pg w K mg base "least_round" 1 ["threads"] P_least_round) : ∃ f fd, mg "Row" = some (.ref C) ∧ Mk K C f ∧ PL.FnOk Pg w K mg base (L2.CX Pg w) 6 f fd ["self", "stripes", "manner", "start"] (sp1 K (P_init C)) ∧ (∀ dvs ∈ [[], [.str "run", .int 0]], ∃ dv, Vals dvs dv ∧ Binds K fd ["self", "stripes", "manner", "start"] dv) ∧ FunD K "__init__" "Row.__init__" (defArgs s_Row___init__) (defBody s_Row___init__) (defScope s_Row___init__) [.str "run", .int 0] [] f fd := by
  obtain ⟨f, fd, FD, gm⟩ := Dd.ex
  obtain ⟨tM, gM⟩ := G_M
  obtain ⟨dM, es, n, gMn, kd, hm⟩ := M
  refine ⟨f, fd, gC, gm, fn1 (k := 5) FD sc_Row___init__ ?_ (by decide) ?_ (fun cd A outer s H E g o ds r o' => ?_), ?_, FD⟩
  · rintro o ds r o' ⟨ps, m, st, _, _, _, rfl, rfl, rfl, rfl⟩; rfl
  · rintro o ds r o' ⟨ps, m, st, _, _, _, rfl, rfl, rfl, rfl⟩ _ z; cases z
  · rintro ⟨ps, m, st, hp, hs, hl, rfl, rfl, rfl, rfl⟩ p
    obtain ⟨fm, h1, h2⟩ := hm m
    obtain ⟨f2, fd2, q1, q2, q3, q4⟩ := (G_lay m).ex
    rw [h2] at q1
    obtain rfl : fm = f2 := by cases q1; rfl
    have hlen := hp.len
    have hlw := layW_len m (thr ps)
    have hpw := layW_pos m hlen.1
    have hshs := layW_shs m (thr_shs hp.ok)
    have hb := big2000
    have hlr := lr_pos hpw
    have hle := lr_le (layW m (thr ps))
    refine ⟨_, .inr ⟨rfl, s_cons (s1_set 4 g.nd (e_c0 G_threads_of g (a_cons (e_var 1) a_nil) ⟨ps, hp, rfl, rfl⟩)) (s_ifN (t_eq (t_not (t_val (e_c0 G_is_manner g (a_cons (e_var 2) a_nil) ⟨m, rfl, rfl⟩))) rfl)
      (s_cons (s1_expr (e_c0 G_check_spot g (a_cons (e_var 3) a_nil) ⟨st, hs, rfl, rfl⟩))
      (s_cons (s1_set 5 g.nd (e_ix (e_globR gMn) (e_var 2) (i_K (d := .raw (.ref fm)) (v := .ref fm) ⟨es, n, _, kd.at_, kd.lit, h1, rfl⟩ fun _ => rfl)))
      (s_cons (s1_set 6 g.nd (e_callSlot (i := 5) q4 q2 q3 g rfl ⟨thr ps, by omega, rfl, rfl⟩ (a_cons (e_var 4) a_nil)))
      (s_cons (s1_set 7 g.nd (e_c0 G_least_round g (a_cons (e_var 6) a_nil) ⟨layW m (thr ps), hshs.ok, by omega, rfl, rfl⟩))
      (s_ifN (t_eq (t_cmp o_gt (e_var 7) (e_globI gM)) (decide_eq_false (by omega)))
      (s_one (s1_fld (n := 0) (s := .pr p (.ins C [] [])) hC hN (e_eq (e_callTy c_tupL T.tuple b_tuple (a_cons (e_fz (e_lc1 8 (fun j => .str ((layW m (thr ps)).getD (((j : Int) + st) % (lr (layW m (thr ps)) : Int)).toNat default)) g (it_range1 T.range (a_cons (e_var 7) a_nil) (by omega) (by omega)) (by omega) (blkOk_by (N := N_Row___init__) (sc := defScope s_Row___init__) (by decide +kernel)) rfl (fun j hj s1 H1 C cl fp => ?_))) a_nil)) ?_) has_pr (by decide) (by decide)))))))))⟩, rfl⟩
    · refine e_ix (e_var 6) (e_bin (o_mod (j := (lr (layW m (thr ps)) : Int)) (by omega)) (e_bin o_addI (e_var 8) (e_var 3)) (e_var 7)) (i_dT (atI_ok ?_ ?_))
      · exact Int.emod_nonneg _ (by omega)
      · have := Int.emod_lt_of_pos ((j : Int) + st) (b := (lr (layW m (thr ps)) : Int)) (by omega)
        omega
    · show Rs.sh (.tup _) = Rs.sh (.tup ((spin _ _ _).map D.str))
      unfold spin
      rw [List.map_map]
      rfl
  · intro dvs hd
    rcases List.mem_cons.mp hd with rfl | hd
    · obtain ⟨dv, v, b⟩ := FD.binds1 4 2 (by decide) rfl (ps := ["self", "stripes", "manner", "start"]) (fun T kV doc pm an cdv ct us its hu hi => match us, its, hu, hi with | [_, _, _, _], [_, _], _, _ => ⟨_, rfl, rfl⟩)
      exact ⟨dv, v, b⟩
    · rw [List.mem_singleton.mp hd]
      obtain ⟨dv, v, b⟩ := FD.binds1 2 0 (by decide) rfl (ps := ["self", "stripes", "manner", "start"]) (fun T kV doc pm an cdv ct us its hu hi => match us, its, hu, hi with | [_, _], [_, _], _, _ => ⟨_, rfl, rfl⟩)
      exact ⟨dv, v, b⟩
theorem c_Row (C : Addr) (h : ∃ f fd, mg "Row" = some (.ref C) ∧ Mk K C f ∧ PL.FnOk Pg w K mg base (L2.CX Pg w) 6 f fd ["self", "stripes", "manner", "start"] (sp1 K (P_init C)) ∧ (∀ dvs ∈ [[], [.str "run", .int 0]], ∃ dv, Vals dvs dv ∧ Binds K fd ["self", "stripes", "manner", "start"] dv) ∧ FunD K "__init__" "Row.__init__" (defArgs s_Row___init__) (defBody s_Row___init__) (defScope s_Row___init__) [.str "run", .int 0] [] f fd) :
    K1 Pg w K mg base "Row" C 6 ["self", "stripes", "manner", "start"] [[], [.str "run", .int 0]] (P_init C) := by
  obtain ⟨f, fd, h1, h2, h3, h4, _⟩ := h
  exact ⟨f, fd, h1, h2, h3, h4⟩
end
end Hd

set_option Elab.async false
set_option linter.all false
/-! periods of rounds, mirrors of rounds: plain lists -/
namespace PL
open PySem
def cyc (ts : List Str) (i : Int) : Str := ts.getD (i % (ts.length : Int)).toNat default
def Per (c : Int → Str) (k : Int) : Prop := ∀ i, c (i + k) = c i
section
variable {c : Int → Str} {a b : Int}
theorem Per.add (h : Per c a) (g : Per c b) : Per c (a + b) := fun i => by rw [← Int.add_assoc, g, h]
theorem Per.neg (h : Per c a) : Per c (-a) := fun i => by
  have z := h (i + -a)
  rw [show i + -a + a = i by omega] at z
  exact z.symm
theorem Per.zero : Per c 0 := fun i => by rw [Int.add_zero]
theorem Per.mulN (h : Per c a) : ∀ n : Nat, Per c (a * (n : Int))
  | 0 => by rw [show a * ((0 : Nat) : Int) = 0 from Int.mul_zero a]; exact .zero
  | n + 1 => by
    rw [show a * ((n + 1 : Nat) : Int) = a * (n : Int) + a by rw [Int.natCast_succ, Int.mul_add, Int.mul_one]]
    exact (h.mulN n).add h
theorem Per.mul (h : Per c a) (z : Int) : Per c (a * z) := by
  rcases Int.le_total 0 z with hz | hz
  · have e : z = ((z.toNat : Nat) : Int) := by omega
    rw [e]; exact h.mulN _
  · have e : a * z = -(a * (((-z).toNat : Nat) : Int)) := by
      rw [show (((-z).toNat : Nat) : Int) = -z by omega, Int.mul_neg, Int.neg_neg]
    rw [e]; exact (h.mulN _).neg
theorem Per.mod (h : Per c a) (g : Per c b) : Per c (b % a) := by
  rw [Int.emod_def, Int.sub_eq_add_neg]
  exact g.add (h.mul _).neg
theorem Per.gcd : ∀ m n : Nat, Per c (m : Int) → Per c (n : Int) → Per c ((Nat.gcd m n : Nat) : Int) := by
  intro m n
  induction m, n using Nat.gcd.induction with
  | H0 n => intro _ h; rw [Nat.gcd_zero_left]; exact h
  | H1 m n hm ih =>
    intro h1 h2
    rw [Nat.gcd_rec]
    refine ih ?_ h1
    rw [Int.natCast_emod]
    exact h1.mod h2
end
section
variable {ts : List Str}
theorem cyc_per : Per (cyc ts) ts.length := fun i => by unfold cyc; rw [Int.add_emod_right]
theorem cyc_nat {j : Nat} (h : j < ts.length) : cyc ts (j : Int) = ts.getD j default := by
  unfold cyc
  rw [Int.emod_eq_of_lt (by omega) (by omega)]
  rfl
theorem cyc_mod (i : Int) : cyc ts (i % (ts.length : Int)) = cyc ts i := by unfold cyc; rw [Int.emod_emod]
theorem ext_getD {xs ys : List Str} (hl : xs.length = ys.length) (h : ∀ j, j < xs.length → xs.getD j default = ys.getD j default) : xs = ys := by
  apply List.ext_getElem hl
  intro i h1 h2
  have z := h i h1
  rw [List.getD_eq_getElem?_getD, List.getElem?_eq_getElem h1, List.getD_eq_getElem?_getD, List.getElem?_eq_getElem h2] at z
  exact z
theorem ext_cyc {xs ys : List Str} (hl : xs.length = ys.length) (h : ∀ i, cyc xs i = cyc ys i) : xs = ys := ext_getD hl fun j hj => by
  rw [← cyc_nat hj, ← cyc_nat (by omega : j < ys.length)]
  exact h _
theorem getD_drop (k j : Nat) : (ts.drop k).getD j default = ts.getD (k + j) default := by
  rw [List.getD_eq_getElem?_getD, List.getElem?_drop, ← List.getD_eq_getElem?_getD]
theorem getD_take {k j : Nat} (h : j < k) : (ts.take k).getD j default = ts.getD j default := by
  rw [List.getD_eq_getElem?_getD, List.getElem?_take, if_pos h, ← List.getD_eq_getElem?_getD]
theorem per_root {k : Nat} (hk : 0 < k) (h : ∀ j, j + k < ts.length → ts.getD (j + k) default = ts.getD j default) : ∀ j, j < ts.length → ts.getD j default = ts.getD (j % k) default := by
  intro j
  induction j using Nat.strongRecOn with
  | ind j ih =>
    intro hj
    by_cases hlt : j < k
    · rw [Nat.mod_eq_of_lt hlt]
    · have e := h (j - k) (by omega)
      rw [show j - k + k = j by omega] at e
      rw [e, ih (j - k) (by omega) (by omega)]
      congr 1
      rw [Nat.mod_eq_sub_mod (by omega : j ≥ k)]
theorem perAt_iff {k : Nat} (hk : 0 < k) (hn : 0 < ts.length) : perAt ts k = true ↔ ts.length % k = 0 ∧ Per (cyc ts) (k : Int) := by
  unfold perAt
  rw [Bool.and_eq_true, decide_eq_true_iff, decide_eq_true_iff]
  refine and_congr_right fun hd => ⟨fun h i => ?_, fun h => ?_⟩
  · have key : ∀ j, j + k < ts.length → ts.getD (j + k) default = ts.getD j default := fun j hj => by
      have z := congrArg (fun l => l.getD j default) h
      rw [getD_drop, getD_take (by omega)] at z
      rw [Nat.add_comm]; exact z
    have root := per_root hk key
    rw [← cyc_mod (i + k), ← cyc_mod i]
    have a1 := Int.emod_nonneg (i + k) (b := (ts.length : Int)) (by omega)
    have a2 := Int.emod_lt_of_pos (i + k) (b := (ts.length : Int)) (by omega)
    have b1 := Int.emod_nonneg i (b := (ts.length : Int)) (by omega)
    have b2 := Int.emod_lt_of_pos i (b := (ts.length : Int)) (by omega)
    have e1 : (i + k) % (ts.length : Int) = ((((i + k) % (ts.length : Int)).toNat : Nat) : Int) := by omega
    have e2 : i % (ts.length : Int) = (((i % (ts.length : Int)).toNat : Nat) : Int) := by omega
    rw [e1, e2, cyc_nat (by omega), cyc_nat (by omega), root _ (by omega), root (i % (ts.length : Int)).toNat (by omega)]
    congr 1
    have hdv : (k : Int) ∣ (ts.length : Int) := Int.natCast_dvd_natCast.mpr (Nat.dvd_of_mod_eq_zero hd)
    have m1 : (i + k) % (ts.length : Int) % (k : Int) = i % (ts.length : Int) % (k : Int) := by
      rw [Int.emod_emod_of_dvd _ hdv, Int.emod_emod_of_dvd _ hdv, Int.add_emod_right]
    have m2 : ((((i + k) % (ts.length : Int)).toNat % k : Nat) : Int) = (((i % (ts.length : Int)).toNat % k : Nat) : Int) := by
      rw [Int.natCast_emod, Int.natCast_emod, ← e1, ← e2, m1]
    exact Int.ofNat_inj.mp m2
  · refine ext_getD (by rw [List.length_drop, List.length_take]; omega) fun j hj => ?_
    rw [List.length_drop] at hj
    rw [getD_drop, getD_take (by omega), ← cyc_nat (by omega), ← cyc_nat (by omega : j < ts.length), Int.natCast_add, Int.add_comm]
    exact h _
theorem lr_spec (hn : 0 < ts.length) : ts.length % lr ts = 0 ∧ Per (cyc ts) (lr ts) ∧ ∀ k, 0 < k → k < lr ts → ts.length % k = 0 → ¬ Per (cyc ts) (k : Int) := by
  unfold lr
  rcases first_or (n := ts.length - 1) fun i => perAt ts (i + 1) with ⟨m, hm, h1, h2⟩ | h2
  · rw [find_first hm h1 h2]
    have z := (perAt_iff (Nat.succ_pos m) hn).mp h1
    refine ⟨z.1, z.2, fun k hk hlt hd hp => ?_⟩
    have hlt' : k < m + 1 := hlt
    have w := h2 (k - 1) (by omega)
    rw [show k - 1 + 1 = k by omega, (perAt_iff hk hn).mpr ⟨hd, hp⟩] at w
    cases w
  · rw [find_none' h2]
    refine ⟨Nat.mod_self _, cyc_per, fun k hk hlt hd hp => ?_⟩
    have hlt' : k < ts.length := hlt
    have w := h2 (k - 1) (by omega)
    rw [show k - 1 + 1 = k by omega, (perAt_iff hk hn).mpr ⟨hd, hp⟩] at w
    cases w
theorem per_iff (hn : 0 < ts.length) (k : Int) : Per (cyc ts) k ↔ (lr ts : Int) ∣ k := by
  obtain ⟨h1, h2, h3⟩ := lr_spec hn
  refine ⟨fun h => ?_, fun ⟨z, e⟩ => by rw [e]; exact h2.mul z⟩
  have hL := lr_pos hn
  have r := h2.mod h
  have r1 := Int.emod_nonneg k (b := (lr ts : Int)) (by omega)
  have r2 := Int.emod_lt_of_pos k (b := (lr ts : Int)) (by omega)
  by_cases hz : k % (lr ts : Int) = 0
  · exact Int.dvd_of_emod_eq_zero hz
  · exfalso
    have e : k % (lr ts : Int) = (((k % (lr ts : Int)).toNat : Nat) : Int) := by omega
    generalize (k % (lr ts : Int)).toNat = m at e
    rw [e] at r r1 r2 hz
    have hm : 0 < m := by omega
    have g := r.gcd m ts.length cyc_per
    have gle : Nat.gcd m ts.length ≤ m := Nat.gcd_le_left _ hm
    have gpos : 0 < Nat.gcd m ts.length := Nat.gcd_pos_of_pos_left _ hm
    exact h3 _ gpos (by omega) (Nat.mod_eq_zero_of_dvd (Nat.gcd_dvd_right _ _)) g
theorem lr_congr {xs ys : List Str} (hx : 0 < xs.length) (hy : 0 < ys.length) (h : ∀ k, Per (cyc xs) k ↔ Per (cyc ys) k) : lr xs = lr ys := by
  apply Nat.dvd_antisymm
  · apply Int.natCast_dvd_natCast.mp
    rw [← per_iff hx, h, per_iff hy]
    exact Int.dvd_refl _
  · apply Int.natCast_dvd_natCast.mp
    rw [← per_iff hy, ← h, per_iff hx]
    exact Int.dvd_refl _
end
/-! ### turning a round on -/
theorem spin_len (wd : List Str) (n : Nat) (st : Int) : (spin wd n st).length = n := by unfold spin; rw [List.length_map, List.length_range]
theorem spin_getD {wd : List Str} {n : Nat} {st : Int} {j : Nat} (h : j < n) : (spin wd n st).getD j default = wd.getD (((j : Int) + st) % (n : Int)).toNat default := by
  unfold spin
  rw [List.getD_eq_getElem?_getD, List.getElem?_map, List.getElem?_range h]
  rfl
theorem cyc_spin {wd : List Str} {n : Nat} {st : Int} (hn : 0 < n) (hle : n ≤ wd.length) (hp : Per (cyc wd) n) (i : Int) : cyc (spin wd n st) i = cyc wd (i + st) := by
  have a1 := Int.emod_nonneg i (b := (n : Int)) (by omega)
  have a2 := Int.emod_lt_of_pos i (b := (n : Int)) (by omega)
  unfold cyc
  rw [spin_len, spin_getD (by omega)]
  rw [show (((i % (n : Int)).toNat : Nat) : Int) = i % (n : Int) by omega]
  have b1 := Int.emod_nonneg (i % (n : Int) + st) (b := (n : Int)) (by omega)
  have b2 := Int.emod_lt_of_pos (i % (n : Int) + st) (b := (n : Int)) (by omega)
  have e : (i % (n : Int) + st) % (n : Int) = ((((i % (n : Int) + st) % (n : Int)).toNat : Nat) : Int) := by omega
  rw [← cyc_nat (ts := wd) (by omega), ← e, Int.emod_add_emod]
  show _ = cyc wd (i + st)
  rw [Int.emod_def, Int.sub_eq_add_neg]
  exact (hp.mul _).neg _
def Prim (ts : List Str) : Prop := 0 < ts.length ∧ lr ts = ts.length
theorem per_shift {c c' : Int → Str} {st : Int} (h : ∀ i, c' i = c (i + st)) (k : Int) : Per c' k ↔ Per c k := by
  refine ⟨fun p i => ?_, fun p i => ?_⟩
  · have z := p (i - st)
    rw [h, h, show i - st + k + st = i + k by omega, show i - st + st = i by omega] at z
    exact z
  · rw [h, h, show i + k + st = i + st + k by omega]
    exact p _
theorem per_turn {c c' : Int → Str} (h : ∀ i, c' i = c (-i)) (k : Int) : Per c' k ↔ Per c k := by
  refine ⟨fun p i => ?_, fun p i => ?_⟩
  · have z := p.neg (-i)
    rw [h, h, show -(-i + -k) = i + k by omega, Int.neg_neg] at z
    exact z
  · rw [h, h, show -(i + k) = -i + -k by omega]
    exact p.neg _
theorem spin_prim {wd : List Str} (hw : 0 < wd.length) (st : Int) : Prim (spin wd (lr wd) st) := by
  have hp := lr_pos hw
  have hs := lr_spec hw
  refine ⟨by rw [spin_len]; exact hp, ?_⟩
  rw [spin_len]
  exact lr_congr (by rw [spin_len]; exact hp) hw (per_shift (cyc_spin hp (lr_le _) hs.2.1))
theorem spin_take {wd : List Str} (hw : 0 < wd.length) : spin wd (lr wd) 0 = wd.take (lr wd) := by
  have hle := lr_le wd
  refine ext_getD (by rw [spin_len, List.length_take]; omega) fun j hj => ?_
  rw [spin_len] at hj
  rw [spin_getD hj, getD_take hj, Int.add_zero, Int.emod_eq_of_lt (by omega) (by omega)]
  rfl
theorem take_prim {wd : List Str} (hw : 0 < wd.length) : Prim (wd.take (lr wd)) := by rw [← spin_take hw]; exact spin_prim hw 0
/-! ### mirrors -/
def mirW (ts : List Str) (a : Nat) : List Str := (ts.take (a + 1)).reverse ++ (ts.drop (a + 1)).reverse
def mirAt (ts : List Str) (a : Nat) : Bool := decide (ts = mirW ts a)
def mir (ts : List Str) : Option Nat := (List.range ts.length).find? (mirAt ts)
def MirF (c : Int → Str) (a : Int) : Prop := ∀ i, c i = c (a - i)
theorem mirW_len (ts : List Str) (a : Nat) : (mirW ts a).length = ts.length := by
  unfold mirW
  rw [List.length_append, List.length_reverse, List.length_reverse, List.length_take, List.length_drop]; omega
theorem getD_rev (xs : List Str) {j : Nat} (h : j < xs.length) : xs.reverse.getD j default = xs.getD (xs.length - 1 - j) default := by
  rw [List.getD_eq_getElem?_getD, List.getElem?_reverse h, ← List.getD_eq_getElem?_getD]
theorem mirW_getD {ts : List Str} {a j : Nat} (ha : a < ts.length) (hj : j < ts.length) : (mirW ts a).getD j default = cyc ts ((a : Int) - (j : Int)) := by
  have hl : (ts.take (a + 1)).reverse.length = a + 1 := by rw [List.length_reverse, List.length_take]; omega
  unfold mirW
  rw [List.getD_eq_getElem?_getD]
  by_cases hja : j ≤ a
  · rw [List.getElem?_append_left (by omega), ← List.getD_eq_getElem?_getD, getD_rev _ (by rw [List.length_take]; omega), List.length_take, getD_take (by omega), ← cyc_nat (by omega)]
    congr 1
    omega
  · rw [List.getElem?_append_right (by omega), ← List.getD_eq_getElem?_getD, hl, getD_rev _ (by rw [List.length_drop]; omega), List.length_drop, getD_drop, ← cyc_nat (by omega), ← cyc_per ((a : Int) - (j : Int))]
    congr 1
    omega
theorem mirAt_iff {ts : List Str} {a : Nat} (ha : a < ts.length) : mirAt ts a = true ↔ MirF (cyc ts) (a : Int) := by
  unfold mirAt
  rw [decide_eq_true_iff]
  refine ⟨fun h i => ?_, fun h => ?_⟩
  · have b1 := Int.emod_nonneg i (b := (ts.length : Int)) (by omega)
    have b2 := Int.emod_lt_of_pos i (b := (ts.length : Int)) (by omega)
    have e : i % (ts.length : Int) = (((i % (ts.length : Int)).toNat : Nat) : Int) := by omega
    have z := congrArg (fun l => l.getD (i % (ts.length : Int)).toNat default) h
    rw [mirW_getD ha (by omega), ← e] at z
    show ts.getD (i % (ts.length : Int)).toNat default = _
    rw [z, Int.emod_def, show (a : Int) - (i - (ts.length : Int) * (i / (ts.length : Int))) = (a - i) + (ts.length : Int) * (i / (ts.length : Int)) by omega]
    exact cyc_per.mul _ _
  · refine ext_getD (mirW_len ts a).symm fun j hj => ?_
    rw [mirW_getD ha hj, ← cyc_nat hj]
    exact h _
theorem mir_uniq {ts : List Str} (hp : Prim ts) {a b : Int} (ha : MirF (cyc ts) a) (hb : MirF (cyc ts) b) : (ts.length : Int) ∣ a - b := by
  rw [← hp.2, ← per_iff hp.1]
  intro i
  rw [ha (i + (a - b)), show a - (i + (a - b)) = b - i by omega]
  exact (hb i).symm
theorem mir_some {ts : List Str} (hp : Prim ts) {a : Nat} (ha : a < ts.length) (h : MirF (cyc ts) (a : Int)) : mir ts = some a := by
  refine find_first ha ((mirAt_iff ha).mpr h) fun j hj => ?_
  cases e : mirAt ts j with
  | false => rfl
  | true =>
    have z := mir_uniq hp h ((mirAt_iff (by omega)).mp e)
    obtain ⟨q, hq⟩ := z
    exfalso
    have : 0 < q := by
      rcases Int.lt_or_le 0 q with hq0 | hq0
      · exact hq0
      · have := Int.mul_le_mul_of_nonneg_left hq0 (by omega : (0 : Int) ≤ (ts.length : Int))
        omega
    have := Int.mul_le_mul_of_nonneg_left (by omega : (1 : Int) ≤ q) (by omega : (0 : Int) ≤ (ts.length : Int))
    omega
theorem mir_none {ts : List Str} (h : ∀ a, ¬ MirF (cyc ts) a) : mir ts = none := find_none' fun j hj => by
  cases e : mirAt ts j with
  | false => rfl
  | true => exact (h _ ((mirAt_iff hj).mp e)).elim
theorem mir_get {ts : List Str} {a : Nat} (h : mir ts = some a) : a < ts.length ∧ MirF (cyc ts) (a : Int) := by
  have h1 := List.mem_range.mp (List.mem_of_find?_eq_some h)
  have h2 := List.find?_some h
  exact ⟨h1, (mirAt_iff h1).mp h2⟩
theorem mirF_per {c : Int → Str} {a k : Int} (h : MirF c a) (p : Per c k) : MirF c (a + k) := fun i => by
  rw [show a + k - i = (a - i) + k by omega, p]
  exact h i
theorem mir_has {ts : List Str} (hn : 0 < ts.length) {a : Int} (h : MirF (cyc ts) a) : mir ts ≠ none := by
  intro e
  have b1 := Int.emod_nonneg a (b := (ts.length : Int)) (by omega)
  have b2 := Int.emod_lt_of_pos a (b := (ts.length : Int)) (by omega)
  have z : MirF (cyc ts) (a % (ts.length : Int)) := by
    rw [Int.emod_def, Int.sub_eq_add_neg]
    exact mirF_per h (cyc_per.mul _).neg
  have w := List.find?_eq_none.mp e (a % (ts.length : Int)).toNat (List.mem_range.mpr (by omega))
  apply w
  rw [mirAt_iff (by omega), show (((a % (ts.length : Int)).toNat : Nat) : Int) = a % (ts.length : Int) by omega]
  exact z
theorem mir_tr {ts us : List Str} (hu : Prim us) (hl : us.length = ts.length) (g : Int → Int) (h1 : ∀ a, MirF (cyc ts) a → MirF (cyc us) (g a)) (h2 : ∀ b, MirF (cyc us) b → ∃ a, MirF (cyc ts) a) : mir us = (mir ts).map fun (a : Nat) => (g (a : Int) % (ts.length : Int)).toNat := by
  cases e : mir ts with
  | none =>
    refine mir_none fun b hb => ?_
    obtain ⟨a, ha⟩ := h2 b hb
    exact mir_has (by rw [← hl]; exact hu.1) ha e
  | some a =>
    obtain ⟨q1, q2⟩ := mir_get e
    have b1 := Int.emod_nonneg (g a) (b := (ts.length : Int)) (by omega)
    have b2 := Int.emod_lt_of_pos (g a) (b := (ts.length : Int)) (by omega)
    show mir us = some (g (a : Int) % (ts.length : Int)).toNat
    refine mir_some hu (by omega) ?_
    rw [show (((g a % (ts.length : Int)).toNat : Nat) : Int) = g a % (ts.length : Int) by omega, Int.emod_def, Int.sub_eq_add_neg, ← hl]
    exact mirF_per (h1 _ q2) (cyc_per.mul _).neg
/-- moved by -/
def movL (ts : List Str) (by_ : Int) : List Str := (List.range ts.length).map fun (j : Nat) => cyc ts ((j : Int) - by_)
def turL (ts : List Str) : List Str := (List.range ts.length).map fun (j : Nat) => cyc ts (0 - (j : Int))
theorem map_getD {n j : Nat} {f : Nat → Str} (h : j < n) : ((List.range n).map f).getD j default = f j := by
  rw [List.getD_eq_getElem?_getD, List.getElem?_map, List.getElem?_range h]
  rfl
theorem movL_len (ts : List Str) (b : Int) : (movL ts b).length = ts.length := by unfold movL; rw [List.length_map, List.length_range]
theorem turL_len (ts : List Str) : (turL ts).length = ts.length := by unfold turL; rw [List.length_map, List.length_range]
theorem movL_cyc {ts : List Str} (hn : 0 < ts.length) (b i : Int) : cyc (movL ts b) i = cyc ts (i + -b) := by
  have b1 := Int.emod_nonneg i (b := (ts.length : Int)) (by omega)
  have b2 := Int.emod_lt_of_pos i (b := (ts.length : Int)) (by omega)
  have e : cyc (movL ts b) i = (movL ts b).getD (i % (ts.length : Int)).toNat default := by unfold cyc; rw [movL_len]
  rw [e]
  unfold movL
  rw [map_getD (by omega), show (((i % (ts.length : Int)).toNat : Nat) : Int) = i % (ts.length : Int) by omega, Int.emod_def, show i - (ts.length : Int) * (i / (ts.length : Int)) - b = (i + -b) + -((ts.length : Int) * (i / (ts.length : Int))) by omega]
  exact (cyc_per.mul _).neg _
theorem turL_cyc {ts : List Str} (hn : 0 < ts.length) (i : Int) : cyc (turL ts) i = cyc ts (-i) := by
  have b1 := Int.emod_nonneg i (b := (ts.length : Int)) (by omega)
  have b2 := Int.emod_lt_of_pos i (b := (ts.length : Int)) (by omega)
  have e : cyc (turL ts) i = (turL ts).getD (i % (ts.length : Int)).toNat default := by unfold cyc; rw [turL_len]
  rw [e]
  unfold turL
  rw [map_getD (by omega), show (((i % (ts.length : Int)).toNat : Nat) : Int) = i % (ts.length : Int) by omega, Int.emod_def, show 0 - (i - (ts.length : Int) * (i / (ts.length : Int))) = -i + ((ts.length : Int) * (i / (ts.length : Int))) by omega]
  exact (cyc_per.mul _) _
theorem movL_prim {ts : List Str} (h : Prim ts) (b : Int) : Prim (movL ts b) := by
  refine ⟨by rw [movL_len]; exact h.1, ?_⟩
  rw [movL_len, ← h.2]
  exact lr_congr (by rw [movL_len]; exact h.1) h.1 (per_shift (movL_cyc h.1 b))
theorem turL_prim {ts : List Str} (h : Prim ts) : Prim (turL ts) := by
  refine ⟨by rw [turL_len]; exact h.1, ?_⟩
  rw [turL_len, ← h.2]
  exact lr_congr (by rw [turL_len]; exact h.1) h.1 (per_turn (turL_cyc h.1))
theorem mir_mov {ts : List Str} (h : Prim ts) (b : Int) : mir (movL ts b) = (mir ts).map fun (a : Nat) => (((a : Int) + 2 * b) % (ts.length : Int)).toNat := by
  refine mir_tr (movL_prim h b) (movL_len ts b) (fun a => a + 2 * b) (fun a ha i => ?_) (fun a ha => ⟨a - 2 * b, fun i => ?_⟩)
  · rw [movL_cyc h.1, movL_cyc h.1, ha]
    congr 1
    omega
  · have z := ha (i + b)
    rw [movL_cyc h.1, movL_cyc h.1, show i + b + -b = i by omega] at z
    rw [z]
    congr 1
    omega
theorem mir_tur {ts : List Str} (h : Prim ts) : mir (turL ts) = (mir ts).map fun (a : Nat) => ((0 - (a : Int)) % (ts.length : Int)).toNat := by
  refine mir_tr (turL_prim h) (turL_len ts) (fun a => 0 - a) (fun a ha i => ?_) (fun a ha => ⟨0 - a, fun i => ?_⟩)
  · rw [turL_cyc h.1, turL_cyc h.1, ha]
    congr 1
    omega
  · have z := ha (-i)
    rw [turL_cyc h.1, turL_cyc h.1, Int.neg_neg] at z
    rw [z]
    congr 1
    omega
end PL

set_option Elab.async false
set_option linter.all false
set_option maxRecDepth 100000
set_option maxHeartbeats 1000000
/-! rows as functions of spots: the row of a list of threads, rows made of rows -/
namespace PL
open PySem
/-- the row that a list of threads, over and over, is -/
def mkR (W : List Str) : List Str := W.take (lr W)
theorem mkR_prim {W : List Str} (h : 0 < W.length) : Prim (mkR W) := take_prim h
theorem mkR_cyc {W : List Str} (h : 0 < W.length) (i : Int) : cyc (mkR W) i = cyc W i := by
  unfold mkR
  rw [← spin_take h, cyc_spin (lr_pos h) (lr_le W) (lr_spec h).2.1, Int.add_zero]
theorem mkR_le (W : List Str) : (mkR W).length ≤ W.length := by
  unfold mkR; rw [List.length_take]; omega
theorem mkR_mem {W : List Str} {k : Str} (h : k ∈ mkR W) : k ∈ W := List.mem_of_mem_take h
theorem mkR_shs {W : List Str} (h : Shs W) : Shs (mkR W) := fun t ht => h t (mkR_mem ht)
theorem prim_ext {xs ys : List Str} (hx : Prim xs) (hy : Prim ys) (h : ∀ i, cyc xs i = cyc ys i) : xs = ys := by
  have e : cyc xs = cyc ys := funext h
  have hl : xs.length = ys.length := by
    rw [← hx.2, ← hy.2]
    exact lr_congr hx.1 hy.1 fun k => by rw [e]
  exact ext_cyc hl h
theorem mkR_of {xs : List Str} (h : Prim xs) : mkR xs = xs := by
  unfold mkR; rw [h.2, List.take_length]
/-- threads told by a function of that period -/
theorem cyc_fun {n : Nat} (hn : 0 < n) {f : Int → Str} (hp : Per f n) (i : Int) : cyc ((List.range n).map fun (j : Nat) => f (j : Int)) i = f i := by
  have hl : ((List.range n).map fun (j : Nat) => f (j : Int)).length = n := by rw [List.length_map, List.length_range]
  have h0 := Int.emod_nonneg i (b := (n : Int)) (by omega)
  have h1 := Int.emod_lt_of_pos i (b := (n : Int)) (by omega)
  unfold cyc
  rw [hl, map_getD (by omega)]
  rw [show (((i % (n : Int)).toNat : Nat) : Int) = i % (n : Int) by omega, Int.emod_def]
  have := (hp.mul (i / (n : Int))).neg i
  rw [← this]; congr 1
/-- each so many threads -/
def eaL (ts : List Str) (s : Int) : List Str := (List.range ts.length).map fun (j : Nat) => cyc ts ((j : Int) * s)
theorem eaL_len (ts : List Str) (s : Int) : (eaL ts s).length = ts.length := by unfold eaL; rw [List.length_map, List.length_range]
theorem eaL_cyc {ts : List Str} (h : 0 < ts.length) (s i : Int) : cyc (eaL ts s) i = cyc ts (i * s) :=
  cyc_fun (f := fun i => cyc ts (i * s)) h (fun i => by
    show cyc ts ((i + (ts.length : Int)) * s) = cyc ts (i * s)
    rw [Int.add_mul]; exact (cyc_per (ts := ts)).mul s _) i
def eaR (ts : List Str) (s : Int) : List Str := mkR (eaL ts s)
theorem eaR_cyc {ts : List Str} (h : 0 < ts.length) (s i : Int) : cyc (eaR ts s) i = cyc ts (i * s) := by
  unfold eaR; rw [mkR_cyc (by rw [eaL_len]; exact h), eaL_cyc h]
theorem eaR_prim {ts : List Str} (h : 0 < ts.length) (s : Int) : Prim (eaR ts s) := mkR_prim (by rw [eaL_len]; exact h)
theorem eaR_le (ts : List Str) (s : Int) : (eaR ts s).length ≤ ts.length := by
  have := mkR_le (eaL ts s); rw [eaL_len] at this; exact this
theorem cyc_mem' {ts : List Str} (h : 0 < ts.length) (i : Int) : cyc ts i ∈ ts := by
  have h0 := Int.emod_nonneg i (b := (ts.length : Int)) (by omega)
  have h1 := Int.emod_lt_of_pos i (b := (ts.length : Int)) (by omega)
  unfold cyc
  rw [List.getD_eq_getElem?_getD, List.getElem?_eq_getElem (by omega)]
  exact List.getElem_mem _
theorem eaL_mem {ts : List Str} (h : 0 < ts.length) {s : Int} {k : Str} (hk : k ∈ eaL ts s) : k ∈ ts := by
  obtain ⟨j, _, rfl⟩ := List.mem_map.mp hk
  exact cyc_mem' h _
theorem eaR_mem {ts : List Str} (h : 0 < ts.length) {s : Int} {k : Str} (hk : k ∈ eaR ts s) : k ∈ ts := eaL_mem h (mkR_mem hk)
/-- a row laid over another one -/
def ldF (c d : Int → Str) (h : Str) (i : Int) : Str := if c i = h then d i else c i
def ldL (ts us : List Str) (h : Str) (n : Nat) : List Str := (List.range n).map fun (j : Nat) => ldF (cyc ts) (cyc us) h (j : Int)
theorem per_dvd {c : Int → Str} {n m : Nat} (h : Per c n) (hd : n ∣ m) : Per c m := by
  obtain ⟨q, rfl⟩ := hd
  rw [Int.natCast_mul]
  exact h.mulN q
theorem ldL_cyc {ts us : List Str} {h : Str} {n : Nat} (hn : 0 < n) (h1 : ts.length ∣ n) (h2 : us.length ∣ n) (i : Int) : cyc (ldL ts us h n) i = ldF (cyc ts) (cyc us) h i :=
  cyc_fun (f := ldF (cyc ts) (cyc us) h) hn (fun i => by
    unfold ldF
    rw [per_dvd (cyc_per (ts := ts)) h1 i, per_dvd (cyc_per (ts := us)) h2 i]) i
theorem ldL_len (ts us : List Str) (h : Str) (n : Nat) : (ldL ts us h n).length = n := by unfold ldL; rw [List.length_map, List.length_range]
theorem ldL_mem {ts us : List Str} {h : Str} {n : Nat} (h0 : 0 < ts.length) (h1 : 0 < us.length) {k : Str} (hk : k ∈ ldL ts us h n) : k ∈ ts ∨ k ∈ us := by
  obtain ⟨j, _, rfl⟩ := List.mem_map.mp hk
  show ldF _ _ _ _ ∈ ts ∨ ldF _ _ _ _ ∈ us
  unfold ldF
  split
  · exact .inr (cyc_mem' h1 _)
  · exact .inl (cyc_mem' h0 _)
/-- two rows by turns -/
def btF (c d : Int → Str) (i : Int) : Str := if i % 2 = 0 then c (i / 2) else d (i / 2)
def btL (ts us : List Str) : Nat → List Str
  | 0 => []
  | n + 1 => btL ts us n ++ [cyc ts (n : Int), cyc us (n : Int)]
theorem btL_eq (ts us : List Str) : ∀ n, btL ts us n = (List.range (2 * n)).map fun (j : Nat) => btF (cyc ts) (cyc us) (j : Int)
  | 0 => rfl
  | n + 1 => by
    rw [show 2 * (n + 1) = 2 * n + 1 + 1 by omega, List.range_succ, List.range_succ, List.map_append, List.map_append, ← btL_eq ts us n]
    show _ ++ [cyc ts (n : Int), cyc us (n : Int)] = _ ++ [btF _ _ ((2 * n : Nat) : Int)] ++ [btF _ _ ((2 * n + 1 : Nat) : Int)]
    unfold btF
    rw [if_pos (by omega), if_neg (by omega), show (((2 * n : Nat) : Int)) / 2 = (n : Int) by omega, show (((2 * n + 1 : Nat) : Int)) / 2 = (n : Int) by omega, List.append_assoc]
    rfl
theorem btL_len (ts us : List Str) (n : Nat) : (btL ts us n).length = 2 * n := by rw [btL_eq, List.length_map, List.length_range]
theorem btL_cyc {ts us : List Str} {n : Nat} (hn : 0 < n) (h1 : ts.length ∣ n) (h2 : us.length ∣ n) (i : Int) : cyc (btL ts us n) i = btF (cyc ts) (cyc us) i := by
  rw [btL_eq]
  refine cyc_fun (f := btF (cyc ts) (cyc us)) (by omega) (fun i => ?_) i
  unfold btF
  rw [show (i + ((2 * n : Nat) : Int)) % 2 = i % 2 by omega, show (i + ((2 * n : Nat) : Int)) / 2 = i / 2 + (n : Int) by omega, per_dvd (cyc_per (ts := ts)) h1 _, per_dvd (cyc_per (ts := us)) h2 _]
theorem btL_mem {ts us : List Str} (h0 : 0 < ts.length) (h1 : 0 < us.length) {k : Str} : ∀ {n : Nat}, k ∈ btL ts us n → k ∈ ts ∨ k ∈ us
  | 0, h => by cases h
  | n + 1, h => by
    rcases List.mem_append.mp h with z | z
    · exact btL_mem h0 h1 z
    · rcases List.mem_cons.mp z with rfl | z
      · exact .inl (cyc_mem' h0 _)
      · rw [List.mem_singleton.mp z]; exact .inr (cyc_mem' h1 _)
/-- the common multiple as it is reckoned -/
def lcmN (a b : Nat) : Nat := a / Nat.gcd a b * b
theorem lcmN_ok {a b : Nat} (ha : 0 < a) (hb : 0 < b) : a ∣ lcmN a b ∧ b ∣ lcmN a b ∧ 0 < lcmN a b ∧ lcmN a b ≤ a * b := by
  have hg := Nat.gcd_pos_of_pos_left b ha
  have h1 := Nat.gcd_dvd_left a b
  have h2 := Nat.gcd_dvd_right a b
  have hq : 0 < a / Nat.gcd a b := Nat.div_pos (Nat.le_of_dvd ha h1) hg
  unfold lcmN
  refine ⟨?_, Nat.dvd_mul_left _ _, Nat.mul_pos hq hb, Nat.mul_le_mul_right _ (Nat.div_le_self _ _)⟩
  obtain ⟨q, hq'⟩ := h2
  generalize Nat.gcd a b = g at *
  obtain ⟨p, rfl⟩ := h1
  rw [Nat.mul_div_cancel_left _ hg]
  exact ⟨q, by rw [hq', ← Nat.mul_assoc, Nat.mul_comm p g]⟩
theorem euclid_ex : ∀ (b a : Nat), ∃ (n : Nat) (s : Nat → Nat × Nat), s 0 = (a, b) ∧ (∀ i, i < n → 0 < (s i).2 ∧ s (i + 1) = ((s i).2, (s i).1 % (s i).2)) ∧ (s n).2 = 0 ∧ (s n).1 = Nat.gcd a b := by
  intro b
  induction b using Nat.strongRecOn with
  | _ b ih =>
    intro a
    rcases Nat.eq_zero_or_pos b with rfl | hb
    · exact ⟨0, fun _ => (a, 0), rfl, fun i hi => absurd hi (by omega), rfl, (Nat.gcd_zero_right a).symm⟩
    · obtain ⟨n, s, h0, h1, h2, h3⟩ := ih (a % b) (Nat.mod_lt _ hb) b
      refine ⟨n + 1, fun i => match i with | 0 => (a, b) | i + 1 => s i, rfl, fun i hi => ?_, h2, ?_⟩
      · cases i with
        | zero => exact ⟨hb, h0⟩
        | succ i => exact h1 i (by omega)
      · show (s n).1 = _
        rw [h3, Nat.gcd_comm a b, Nat.gcd_rec b a, Nat.gcd_comm]
end PL

set_option Elab.async false
set_option linter.all false
set_option maxRecDepth 100000
set_option maxHeartbeats 1000000
/-! contracts by what comes out: a pool of any shape (Cr), no pool (Ce) -/
namespace PL
open PySem PySem.Spec PyProof.Rows L2
structure Cr (IsP : Ob → Prop) (Pg : Program) (w : World) (K : PySem.W.Frag) (mg : Str → Option Value) (base : Heap) (x : Str) (j : Nat) (ps : List Str) (Pre : List D → Prop) (Post : List D → Rs → Prop) : Prop where
  ex : ∃ P, C1 Pg w K mg base x j ps P ∧ ∀ o ds, IsP o → Pre ds → ∃ r o', IsP o' ∧ Post ds r ∧ P o ds r o'
section
variable {Pg : Program} {w : World} {K : PySem.W.Frag} {mg : Str → Option Value} {base : Heap} {x : Str} {st : Stmt} {N ps : List Str} {k : Nat} {Pre : List D → Prop} {Post : List D → Rs → Prop} {IsP : Ob → Prop}
theorem cr_mk (Dd : Df K mg x st []) (Sc : FnScope N ps (defScope st)) (bd : BindsN x st ps) (hn : ps.length ≤ N.length) (hl : ∀ ds, Pre ds → ds.length + 1 = ps.length)
    (hb : ∀ o ds, IsP o → Pre ds → ∃ r o', IsP o' ∧ Post ds r ∧ (∀ j, r ≠ .br j) ∧ ∀ f cd A outer s H E, Gd k (cx Pg w K mg base N x (defScope st) f cd A outer s H E) → ∀ p, ∃ Γ', Ends1 (cx Pg w K mg base N x (defScope st) f cd A outer s H E) (.pr p o :: ent N.tail ds) (defBody st) r Γ' ∧ Γ'[0]? = some (.pr p o')) : Cr IsP Pg w K mg base x (k + 1) ps Pre Post := by
  refine ⟨fun o ds r o' => ds.length + 1 = ps.length ∧ (∀ j, r ≠ .br j) ∧ ∀ f cd A outer s H E, Gd k (cx Pg w K mg base N x (defScope st) f cd A outer s H E) → ∀ p, ∃ Γ', Ends1 (cx Pg w K mg base N x (defScope st) f cd A outer s H E) (.pr p o :: ent N.tail ds) (defBody st) r Γ' ∧ Γ'[0]? = some (.pr p o'), ?_, fun o ds ip pre => ?_⟩
  · exact c1_mk Dd Sc bd hn (fun o ds r o' h => ⟨h.1, h.2.1⟩) fun f cd A outer s H E g o ds r o' h p => h.2.2 f cd A outer s H E g p
  · obtain ⟨r, o', h0, h1, h2, h3⟩ := hb o ds ip pre
    exact ⟨r, o', h0, h1, hl ds pre, h2, h3⟩
end
section
variable {X : Cx} {Γ Γ1 Γ2 : Gm} {e : Ex} {es : List Ex} {p pos : Pos} {r : Rs} {ds : List D} {j k : Nat} {ps : List Str} {x : Str}
/-- f(e, ..), e a new object -/
theorem e_c1nA {P : Ob → List D → Rs → Ob → Prop} {ob o' : Ob} (G : C1 X.prog X.w X.K X.mg X.base x j ps P) (g : Gd k X) (h : EX X Γ e (.ow ob) Γ1) (ha : AX X Γ1 es ds Γ2) (hp : P ob ds r o') (hk : j ≤ k := by decide) (hg : Gl X x := by rfl)
    (hdb : (x == ("__debug__" : Str)) = false := by decide) (he : starEach (e :: es) X.env = (false, eval e X.env) :: starEach es X.env := by rfl) (hpl : (backTo pos (starEach es X.env)).any (·.1) = false := by rfl) : EX X Γ (.Call (.Name x p) (e :: es) [] pos) r Γ2 := fun F σ H S Q R q => by
  obtain ⟨f, fd, gm, kp, b, Fo⟩ := G.ex
  refine pe_we (pe_call Fo (g.rm.mono hk) hg gm kp b .nil passL (pa_cons we_pe wa_pa he) hdb he hpl) (h F σ H S _ R fun v H1 S1 R1 s1 ok => ?_)
  obtain ⟨a, rfl, n1, n2, obr, no⟩ := ok
  have Rb := R1.rebase
  obtain ⟨y, hy⟩ := obr.there
  refine ha _ σ H1 S1 _ Rb fun vs H2 S2 R2 s2 ok2 => ?_
  have ka : H2 a = some y := R2.kp a y no hy
  have na : S2 a = none := R2.new a y hy no n1
  have R3 := R1.back R2
  have noa : ¬ Own Γ2 σ a := fun ⟨i, ow⟩ => by
    rcases (R2.own ow).2.1 with z | z
    · have z' : H1 a = none := z
      rw [hy] at z'; cases z'
    · exact no z
  have ob1 : ObR X.K S2 H2 a ob := obr.mono s2 fun z hz => by rw [hy] at hz; cases hz; exact ka
  refine ⟨S2, ob, ds, r, o', a, vs, hp, by rw [List.append_nil], R3.sh, na, ob1, ok2, fun v H4 S4 t n3 ob3 => ?_⟩
  obtain ⟨R4, ok4⟩ := R3.after t (fun b z => .inr (by rw [z]; exact n2)) rfl fun i s es => .inl ⟨es, fun b ow z => noa ⟨i, by rw [← z]; exact ow⟩⟩
  exact q v H4 S4 R4 ((s1.trans s2).trans t.ss) ok4
theorem o_eqB {a b : Bool} : OpS X (compareOp .Eq) (.bl a) (.bl b) (.sh (.bl (decide (a = b)))) := ops_sc op_eq (.bl _) (fun _ => rfl) fun H S x y Q _ r1 r2 q => by
  obtain rfl : x = V.bl a := r1
  obtain rfl : y = V.bl b := r2
  refine ⟨rfl, ?_⟩
  rw [show decide (V.bl a = V.bl b) = decide (a = b) by cases a <;> cases b <;> rfl]
  exact q
theorem o_neB {a b : Bool} : OpS X (compareOp .NotEq) (.bl a) (.bl b) (.sh (.bl (!decide (a = b)))) := ops_sc op_ne (.bl _) (fun _ => rfl) fun H S x y Q _ r1 r2 q => by
  obtain rfl : x = V.bl a := r1
  obtain rfl : y = V.bl b := r2
  refine ⟨rfl, ?_⟩
  rw [show decide (V.bl a = V.bl b) = decide (a = b) by cases a <;> cases b <;> rfl]
  exact q
/-- xs[e] = .., xs a list of one's own, e may change what is owned -/
theorem g_setixM {n : Nat} {s s0 : Sl} {o0 : Ob} {x : Str} {p : Pos} {ix : Int} {i : Nat} {d : D} (h0 : Has Γ n s0 o0) (hi : EX X Γ e (.sh (.int ix)) Γ1) (h1 : Has Γ1 n s (.lst ds)) (hj : ixN ds.length ix = some i) (hN : X.N[n]? = some x := by rfl) (hv : Vis X.env.scope x := by first | exact Or.inl rfl | exact Or.inr (Or.inl rfl) | exact Or.inr (Or.inr rfl)) (hd : (x == ("__debug__" : Str)) = false := by decide)
    (hcd : (x == ("__classdict__" : Str)) = false := by decide)
    (ha : ∀ v, assign (.Subscript (.Name x p) e pos) X.env v = (do
      let ov ← holding [v] (eval (.Name x p) X.env)
      let iv ← holding [v, ov] (eval e X.env)
      standAt pos
      holding [v, ov, iv] (setItem ov iv v)
      release [v, ov, iv] []) := by intro _; rfl) : GX X (.Subscript (.Name x p) e pos) Γ d (Γ1.set n (s.re (.lst (ds.set i d)))) := by
  intro F σ H S v Q R ok q
  obtain ⟨l, own, _⟩ := R.has h0
  refine pg_wg (pg_sub (pe_var hN hv hd hcd) we_pe set_list ha) ⟨_, own.2, hi F σ H S _ R fun y H1 S1 R1 s1 ok1 => ?_⟩
  obtain ⟨l', own1, vs1, hl1, rp1⟩ := R1.has h1
  obtain rfl := own.eq own1
  refine ⟨l, vs1, ix, i, rfl, ok1, hl1, by rw [← rp1.length]; exact hj, q σ _ S1 (R1.chg own1 h1.1 ⟨_, upd_same, rp1.set (Rep.mono s1 _ _ ok)⟩) s1⟩
theorem s1_setLcO {tg iter elt : Ex} {ifs : List Ex} {scope : Scope} {own : List (Str × Nat)} {n : Nat} {t : Nat → Bool} {f : Nat → D} {Γ' : Gm} (i : Nat) {y : Str} {py spos : Pos} {L : List D} (gd : Gd k X) (h : LcX X Γ tg iter ifs elt scope own n t f Γ') (eL : took t f n = L) (hl : i < Γ'.length := by exact Nat.le_of_ble_eq_true rfl) (hy : X.N[i]? = some y := by rfl) (hyl : X.env.scope.names.lookup y = some .local := by rfl)
    (hsw : swapsWith (.ListComp elt [⟨tg, iter, ifs, 0⟩] scope pos) (some (.Name y py)) spos.line X.env = pure true := by exact sw_true rfl rfl rfl (by decide +kernel)) (hs : ∀ x, foldedSetIterable iter X.env x = pure x := by intro _; rfl) : S1 X Γ (.Assign [.Name y py] (.ListComp elt [⟨tg, iter, ifs, 0⟩] scope pos) spos) (.nx (Γ'.set i (.ow (.lst L)))) := by
  subst eL
  exact s1_setLc (py := py) (spos := spos) (pos := pos) i gd h hl hy hyl hsw hs
end
end PL

set_option Elab.async false
set_option linter.all false
set_option maxRecDepth 100000
set_option maxHeartbeats 2000000
/-! a caught exception that is kept: it stands as an object of its own behind the try -/
namespace PL
open PySem PySem.Spec PyProof.Rows L2
abbrev dX (C : Addr) : D := .exc C [] []
theorem exv_ok {P : Program} {w : World} {H : Hp} {h : Heap} {a C : Addr} {d : Option Addr} {oe : Obj} {vs : Array Value} (e : h.get? a = some oe) (z : Zc (.ref C) d oe) (f : oe.data = .fields vs) : ObjOk P w H h a (ExV C d a) :=
  ⟨⟨oe, vs, e, z, f⟩, ⟨_, e⟩, fun h1 h2 q k => by
    obtain ⟨o1, v1, e1, z1, d1⟩ := q
    exact ⟨o1, v1, k _ e1, z1, d1⟩⟩
theorem exv_at {P : Program} {w : World} {H : Hp} {h : Heap} {a C : Addr} {d : Option Addr} (hok : HOk P w H h) (e : H a = some (ExV C d a)) : ∃ (oe : Obj) (vs : Array Value), h.get? a = some oe ∧ Zc (.ref C) d oe ∧ oe.data = .fields vs := by
  obtain ⟨q, _⟩ := (show ObjOk P w H h a (ExV C d a) from hok a _ e)
  exact q
section
variable {X : Cx} {pins : List (Addr × Obj)} {σ : L2.St} {H : Hp} {s : Shared}
/-- an object that was made since, and stands apart from all that is known, is known from now on -/
theorem inv_track {a : Addr} {o : HO} (I : Inv X pins σ H s) (n0 : X.s_0.heap.get? a = none) (na : H a = none) (nL : a ≠ X.env.locals) (nC : ∀ x c, X.env.cells.lookup x = some c → c ≠ a) (nP : ∀ p ∈ X.pn ++ pins, p.1 ≠ a) (new : ObjOk X.prog X.w (upd H a o) s.heap a o) : Inv X pins σ (upd H a o) s := by
  have st : ∀ b u, H b = some u → (upd H a o) b = some u := fun b u e => by
    rw [upd_ne (ne_of_none e na)]; exact e
  refine ⟨I.ok, I.os, I.bare, ⟨I.base.keep, I.base.slot, fun b ob e n x => ?_, I.base.there, fun b xs e => st b _ (I.base.tups b xs e), fun b ob u e => st b _ (I.base.frzs b ob u e), fun b ps e => ?_⟩, I.loc, I.cell, ?_, fun x c e => ?_, fun p hp => ?_, fun b u e => ?_, I.len⟩
  · have hb : b ≠ a := fun z => by rw [z, n0] at e; cases e
    rw [upd_ne hb]
    exact I.base.free b ob e n x
  · obtain ⟨more, q⟩ := I.base.tbls b ps e
    exact ⟨more, st b _ q⟩
  · rw [upd_ne (Ne.symm nL)]; exact I.free
  · rw [upd_ne (nC x c e)]; exact I.freeC x c e
  · obtain ⟨p1, p2, p3, p4, p5⟩ := I.pin p hp
    exact ⟨p1, by rw [upd_ne (nP p hp)]; exact p2, p3, p4, p5⟩
  · by_cases hb : b = a
    · subst hb
      rw [upd_same] at e
      cases e
      exact new
    · rw [upd_ne hb] at e
      exact (I.hok b u e).stay (fun _ _ _ r => r) (fun c q => st c _ q) fun c xs q => st c _ q
end
/-- what 'except x as n: y = n' wishes of an exception of the body: slot i is n's, slot m is y's -/
def wKept (K : PySem.W.Frag) (c : Value) (i m : Nat) (D : Ends) : L2.WX := fun cls d σ H =>
  ∃ C : Addr, cls = .ref C ∧ PySem.W.exmOne K (.ref C) c = some true ∧ ∀ a, H a = none → D.nx (((σ.set i (some (.ref a))).set m (some (.ref a))).set i none) (upd H a (ExV C d a))
section
variable {X : Cx} {x n y : Str} {c : Value} {i m : Nat} {body : List Stmt} {np pos pos' py pn' spos : Pos} {tb : L2.WX → TS}
theorem ps_try_kept (h1 : X.stack = X.env :: X.outer) (h2 : X.env.frame = some X.env.locals) (h3 : X.N.Nodup) (h4 : X.N[i]? = some n) (h5 : X.env.kindOf n = some .local) (h6 : X.N[m]? = some y) (h7 : X.env.scope.names.lookup y = some .local) (h8 : X.ex = []) (him : i ≠ m) (hn0 : (n == ("__debug__" : Str)) = false) (hn1 : (n == ("__classdict__" : Str)) = false) (hc : Names X x c)
    (hb : ∀ (W : L2.WX) (pn : List (Addr × Obj)) (xe : Value → Shared → Prop), Takes (X.tr pn xe) W → PassesOwn (model X.prog X.w) X.A X.env xe → PSs (X.tr pn xe) body (tb W))
    (hs2 : swapsWith (.Name n pn') (some (.Name y py)) spos.line X.env = pure false := by rfl) :
    PS X (.Try body [.ExceptHandler (some (.Name x np)) (some n) [.Assign [.Name y py] (.Name n pn') spos] pos'] [] [] pos) (fun D σ H => tb (wKept X.K c i m D) D σ H) := by
  refine ⟨fun pins s σ H D I h => wpAny_Try_except ?_⟩
  have k0 := I.ok
  have k1 : X.A.frames = some (X.env :: X.outer) := by rw [k0.frames, h1]
  let up1 : Value → Shared → Prop := fun e s₁ => wpAny (model X.prog X.w) X.A (noteFrame e X.env) (fun _ s₂ => wpAny (model X.prog X.w) X.A (setFlight e none) (fun _ s₃ => wpAny (model X.prog X.w) X.A (handleBy e X.env [.ExceptHandler (some (.Name x np)) (some n) [.Assign [.Name y py] (.Name n pn') spos] pos']) (SP X pins D) X.xe s₃) X.xe s₂) X.xe s₁
  have ctch : Takes (X.tr (X.pn ++ pins) up1) (wKept X.K c i m D) := by
    rintro u s1 ⟨a, B, sI, _, σ1, H1, cls, d, rfl, J0, nb, up, sky, na, os, ag, C, rfl, hm, hD⟩
    have J : Inv X pins σ1 H1 sI := J0.ofTry k0
    rw [show (X.tr (X.pn ++ pins) up1).stack = X.env :: X.outer from h1] at sky
    show wpAny (model X.prog X.w) X.A (noteFrame (.ref a) X.env) _ _ _
    refine Sky.land Zc.steady k1 h2 sky fun g1 f1 u1 => ?_
    have L1 : Inv X pins σ1 H1 { s1 with heap := g1 } := J.landed nb f1.1 (up.trans u1) os ag
    obtain ⟨oe, vs, q1, q2, q3⟩ := f1.there
    have apart : ∀ {g : Heap} {o : Obj} {ws : Array Value}, g.FunFrames B (X.env :: X.outer) → g.get? a = some o → o.data = .fields ws → a ∉ frs (X.env :: X.outer) := fun ff e dd hm => by
      obtain ⟨_, o', e', nf⟩ := ff.mem hm
      rw [e] at e'; cases e'
      exact nf _ dd
    have nfr := apart f1.2.2.1 q1 q3
    have nL : a ≠ X.env.locals := fun z => nfr (List.mem_filterMap.mpr ⟨X.env, List.mem_cons_self, by rw [h2, z]⟩)
    have nF : a ∉ X.fs := fun hm => by
      obtain ⟨e, he, q⟩ := List.mem_filterMap.mp hm
      exact nfr (List.mem_filterMap.mpr ⟨e, List.mem_cons_of_mem _ he, q⟩)
    have nI : sI.heap.get? a = none := by
      cases e : sI.heap.get? a with
      | none => rfl
      | some o =>
        have := nb a o e (by rw [h1]; exact nfr)
        rw [f1.2.1] at this; cases this
    have n0 : X.s_0.heap.get? a = none := by
      cases e : X.s_0.heap.get? a with
      | none => rfl
      | some o =>
        obtain ⟨o', q⟩ := J.base.there a o e (by rw [h8]; exact List.not_mem_nil)
        rw [nI] at q; cases q
    have T1 := L1.suite q1 q3 na nL nF
    refine wpAny_handleBy_cons (codeAny_handlers_test ?_) (by intro q; cases q)
    have look : PySem.W.Looks (model X.prog X.w) g1 (typeOf (.ref a)) (.ref C) := fun A Q E s k q => wpAny_typeOf_ref (k _ _ q1) (by rw [q2.1]; exact q)
    have mat := PySem.W.exm_one (M := model X.prog X.w) L1.kIn look hm
    have name : ∀ {Q : Value → Shared → Prop} {E : Value → Shared → Prop}, Q c { s1 with heap := g1 } → wpAny (model X.prog X.w) (X.A.mark (some (.ref a))) (eval (.Name x np) X.env) Q E { s1 with heap := g1 } := fun {Q E} q => by
      obtain ⟨w1, w2, w3 | ⟨w3, w4, w5⟩⟩ := hc
      · exact ld_glob (X := X.suite a ((a, oe) :: (X.pn ++ pins))) T1 w1 w3 q w2
      · exact ld_blt (X := X.suite a ((a, oe) :: (X.pn ++ pins))) T1 w1 w3 w4 q w5 w2
    refine name (mat.here (codeAny_handlers_suite_as (HandSPX.lands_againZ f1 fun g2 f2 u2 => ?_)))
    have L2' : Inv X pins σ1 H1 { s1 with heap := g2 } := J.landed nb f2.1 ((up.trans u1).trans u2) os ag
    obtain ⟨oe2, vs2, r1, r2, r3⟩ := f2.there
    have T2 := L2'.suite r1 r3 na nL nF
    refine store_ok (X := X.suite a ((a, oe2) :: (X.pn ++ pins))) (v := .ref a) T2 h3 h4 (.inl h5) rfl (fun s3 T3 => ?_) (.inr h5)
    have sr := (pss_one (ps_set (X := X.suite a ((a, oe2) :: (X.pn ++ pins))) (pos' := py) (pos := spos) h3 h6 (.inl h7) (pe_var (pos := pn') h4 (.inl h5) hn0 hn1) hs2 (.inr h7))).run [] s3 _ H1 { nx := fun σ' H' => σ' = ((σ1.set i (some (.ref a))).set m (some (.ref a))) ∧ H' = H1, rt := fun _ _ => False } T3 ⟨.ref a, by rw [List.getElem?_set_self (by rw [J.len]; exact (List.getElem?_eq_some_iff.mp h4).1)], rfl, rfl⟩
    refine wpAny_mono sr (fun f s4 q => ?_) fun _ _ z => False.elim z
    cases f with
    | brk => exact (q.elim fun _ q => q.elim fun _ q => q.2).elim
    | cont => exact (q.elim fun _ q => q.elim fun _ q => q.2).elim
    | ret u => exact (q.elim fun _ q => q.elim fun _ q => q.elim fun _ q => q.2.2).elim
    | next =>
      obtain ⟨σ4, H4, T4, rfl, rfl⟩ := q
      refine gone_ok (X := X.suite a ((a, oe2) :: (X.pn ++ pins))) T4 h3 h4 h5 fun s5 T5 => ?_
      obtain ⟨t1, _⟩ := T5.pin (a, oe2) (List.mem_append.mpr (.inl List.mem_cons_self))
      have J5 := T5.unsuite k0
      exact ⟨_, _, inv_track J5 n0 na nL (fun z cc e q => by
        obtain ⟨v, w⟩ := J.cell z cc e
        obtain ⟨oc, hoc, _⟩ := w
        rw [q, nI] at hoc; cases hoc) (fun p hp q => by
        have w := (J.pin p hp).1
        rw [q, nI] at w; cases w) (exv_ok t1 r2 r3), hD a na⟩
  have run := (hb (wKept X.K c i m D) (X.pn ++ pins) up1 ctch PassesOwn.looking).run [] s σ H D (I.toTry _) h
  refine wpAny_mono run (fun f s1 q => ?_) fun _ _ q => q
  cases f with
  | next =>
    obtain ⟨σ1, H1, J, w⟩ := q
    exact wpAny_execs_nil ⟨σ1, H1, J.ofTry k0, w⟩
  | brk => exact q.elim fun σ1 q => q.elim fun H1 q => ⟨σ1, H1, q.1.ofTry k0, q.2⟩
  | cont => exact q.elim fun σ1 q => q.elim fun H1 q => ⟨σ1, H1, q.1.ofTry k0, q.2⟩
  | ret u =>
    obtain ⟨v, σ1, H1, J, r, w⟩ := q
    exact ⟨v, σ1, H1, J.ofTry k0, r, w⟩
end
end PL

set_option Elab.async false
set_option linter.all false
set_option maxRecDepth 100000
set_option maxHeartbeats 2000000
/-! exceptions over data: what raises (ER, S1R, SR), defs that may raise (Ce), try .. except X as n: y = n -/
namespace PL
open PySem PySem.Spec PyProof.Rows L2
/-- an exception as data: its class, its fields -/
structure Xp where
  C : Addr
  ns : List Str := []
  ds : List D := []
instance : Coe Addr Xp := ⟨fun C => ⟨C, [], []⟩⟩
def Xp.d (x : Xp) : D := .exc x.C x.ns x.ds
def XdOk (K : PySem.W.Frag) (S : Hp) (x : Xp) (d : Option Addr) : Prop := ∃ vs, XdAt S d (x.ns.zip vs) ∧ x.ns.length = vs.length ∧ Reps K S x.ds vs
/-- e raises this exception -/
def ER (X : Cx) (Γ : Gm) (e : Ex) (x : Xp) (Γ' : Gm) : Prop := ∀ F σ H S (Q : VK) (W : L2.WX), RS X.K F Γ σ H S → Takes X W → (∀ H' S' d, RS X.K F Γ' σ H' S' → Same S S' → XdOk X.K S' x d → W (.ref x.C) d σ H') → WE X e σ H Q
def S1R (X : Cx) (Γ : Gm) (st : Stmt) (x : Xp) (Γ' : Gm) : Prop := ∀ F σ H S (D : Ends) (W : L2.WX), RS X.K F Γ σ H S → Takes X W → (∀ σ' H' S' d, RS X.K F Γ' σ' H' S' → Same S S' → XdOk X.K S' x d → W (.ref x.C) d σ' H') → W1 X st D σ H
def SR (X : Cx) (Γ : Gm) (st : List Stmt) (x : Xp) (Γ' : Gm) : Prop := ∀ F σ H S (D : Ends) (W : L2.WX), RS X.K F Γ σ H S → Takes X W → (∀ σ' H' S' d, RS X.K F Γ' σ' H' S' → Same S S' → XdOk X.K S' x d → W (.ref x.C) d σ' H') → WS X st D σ H
section
variable {X : Cx} {Γ Γ1 Γ2 : Gm} {e c : Ex} {st : Stmt} {rest A B : List Stmt} {pos : Pos} {C : Xp} {k : Nat} {r : Rs}
theorem sr_hd (h : S1R X Γ st C Γ1) : SR X Γ (st :: rest) C Γ1 := fun F σ H S D W R tk q => pss_ws (pss_cons w1_ps ws_pss) (h F σ H S _ W R tk q)
theorem sr_cons (h : S1 X Γ st (.nx Γ1)) (h2 : SR X Γ1 rest C Γ2) : SR X Γ (st :: rest) C Γ2 := fun F σ H S D W R tk q =>
  pss_ws (pss_cons w1_ps ws_pss) (h F σ H S _ R fun σ1 H1 S1 R1 s1 => h2 F σ1 H1 S1 D W R1 tk fun σ2 H2 S2 d R2 s2 => q σ2 H2 S2 d R2 (s1.trans s2))
theorem s1r_ifT (h : TX X Γ c true Γ1) (h2 : SR X Γ1 A C Γ2) : S1R X Γ (.If c A B pos) C Γ2 := fun F σ H S D W R tk q =>
  ps_w1 (ps_if wt_pt ws_pss ws_pss) (h F σ H S _ R fun H1 S1 R1 s1 => iteT (h2 F σ H1 S1 D W R1 tk fun σ2 H2 S2 d R2 s2 => q σ2 H2 S2 d R2 (s1.trans s2)))
theorem s1r_ifF (h : TX X Γ c false Γ1) (h2 : SR X Γ1 B C Γ2) : S1R X Γ (.If c A B pos) C Γ2 := fun F σ H S D W R tk q =>
  ps_w1 (ps_if wt_pt ws_pss ws_pss) (h F σ H S _ R fun H1 S1 R1 s1 => iteF (h2 F σ H1 S1 D W R1 tk fun σ2 H2 S2 d R2 s2 => q σ2 H2 S2 d R2 (s1.trans s2)))
theorem s1r_expr (h : ER X Γ e C Γ1) (hs : swapsWith e none pos.line X.env = pure false := by rfl) : S1R X Γ (.Expr e pos) C Γ1 := fun F σ H S D W R tk q =>
  ps_w1 (ps_expr we_pe hs) (h F σ H S _ W R tk fun H1 S1 d R1 s1 => q σ H1 S1 d R1 s1)
theorem s1r_ret (h : ER X Γ e C Γ1) : S1R X Γ (.Return (some e) pos) C Γ1 := fun F σ H S D W R tk q =>
  ps_w1 (ps_ret we_pe) (h F σ H S _ W R tk fun H1 S1 d R1 s1 => q σ H1 S1 d R1 s1)
/-- a class of the program under a class of Python's own, without own __init__ -/
structure Xc (K : PySem.W.Frag) (mg : Str → Option Value) (x : Str) (C : Addr) : Prop where
  ex : ∃ (B newId initId : String) (bm : List Value), ExcBaseFacts B newId initId bm ∧ PySem.W.excIn K C bm newId = true
  gl : mg x = some (.ref C)
  kp : PySem.W.keepIn K (.ref C) = true
  sb : PySem.W.subIn K (.ref C) (.type "BaseException") = some true
  ty : PySem.W.typeIn K (.ref C) = some (.type "type")
theorem s1r_raise {x z : Str} {j : Nat} {C : Addr} {p p2 p3 : Pos} (g : Gd k X) (c : Xc X.K X.mg x C) (hg : Gl X x := by rfl) (hd : (x == ("__debug__" : Str)) = false := by decide) : S1R X Γ (.Raise (some (.Call (.Name x p) [.Constant (.str z) j p2] [] p3)) none pos) (C : Xp) Γ := fun F σ H S D W R tk q => by
  obtain ⟨B, newId, initId, bm, fb, xi⟩ := c.ex
  exact ps_w1 (ps_raise g.calm tk (pmk_own fb xi c.gl c.kp (raises_own c.sb c.ty) hg hd)) (q σ H S none R (.refl _) ⟨[], rfl, rfl, rfl⟩)
end
/-! ### defs that may raise -/
inductive Rx where
  | ok (r : Rs) | ex (x : Xp)
def spE (K : PySem.W.Frag) (P : List D → Rx → Prop) : Sp := fun vs H Q E => ∃ S ds o, P ds o ∧ Same S H ∧ Reps K S ds vs ∧ match o with
  | .ok r => ∀ v H' S', Ret K S H (fun _ => False) r v H' S' → Q v H'
  | .ex x => ∀ H' S' d, Ret K S H (fun _ => False) (.sh .non) .non H' S' → XdOk K S' x d → E (.ref x.C) d H'
structure Ce (Pg : Program) (w : World) (K : PySem.W.Frag) (mg : Str → Option Value) (base : Heap) (x : Str) (j : Nat) (ps : List Str) (P : List D → Rx → Prop) : Prop where
  ex : ∃ f fd, mg x = some (.ref f) ∧ PySem.W.keepIn K (.ref f) = true ∧ Binds K fd ps [] ∧ FnOk Pg w K mg base (L2.CX Pg w) j f fd ps (spE K P)
section
variable {Pg : Program} {w : World} {K : PySem.W.Frag} {mg : Str → Option Value} {base : Heap} {x : Str} {st : Stmt} {N ps : List Str} {k : Nat}
/-- how a def's body ends -/
def EndsX (X : Cx) (Γ : Gm) (body : List Stmt) : Rx → Prop
  | .ok r => ∃ Γ', Ends1 X Γ body r Γ'
  | .ex C => ∃ Γ', SR X Γ body C Γ'
theorem ce_mk {P : List D → Rx → Prop} (Dd : Df K mg x st []) (Sc : FnScope N ps (defScope st)) (bd : BindsN x st ps) (hn : ps.length ≤ N.length) (hl : ∀ ds o, P ds o → ds.length = ps.length ∧ ∀ j, o ≠ .ok (.br j))
    (hb : ∀ f cd A outer s H E, Gd k (cx Pg w K mg base N x (defScope st) f cd A outer s H E) → ∀ ds o, P ds o → EndsX (cx Pg w K mg base N x (defScope st) f cd A outer s H E) (ent N ds) (defBody st) o) : Ce Pg w K mg base x (k + 1) ps P := by
  obtain ⟨f, fd, FD, gm⟩ := Dd.ex
  refine ⟨f, fd, gm, FD.kp, FD.bindsN bd, fd_ok FD Sc (fun vs H Q E h => ?_) (fun cd A outer s H vs Q E hr h => ?_)⟩
  · obtain ⟨S, ds, o, hp, _, rp, _⟩ := h
    rw [← rp.length]; exact (hl ds o hp).1
  · obtain ⟨S, ds, o, hp, hs, rp, q⟩ := h
    have e1 := hb f cd A outer s H E ⟨rfl, Sc.nd, cx_po, hr⟩ ds o hp
    have R0 := rs_start (K := K) (N := N) hs rp (by rw [← rp.length, (hl ds o hp).1]; exact hn)
    cases o with
    | ok r =>
      obtain ⟨Γ', e1⟩ := e1
      exact ⟨_, ws_pss, e1.run R0 fun v σ' H' S' R' s' ok => q v H' S' (ret_of (F := ⟨H, S, fun _ => False⟩) R' (fun _ z => z.elim) (fun j z => (hl ds _ hp).2 j (by rw [z])) ok)⟩
    | ex C =>
      obtain ⟨Γ', e1⟩ := e1
      refine ⟨_, ws_pss, e1 _ _ _ _ _ (fun cls d _ H => E cls d H) R0 (takes_of rfl rfl rfl rfl) fun σ' H' S' d R' s' => q H' S' d (ret_of (F := ⟨H, S, fun _ => False⟩) R' (fun _ z => z.elim) (fun _ z => by cases z) rfl)⟩
end
section
variable {X : Cx} {Γ Γ1 : Gm} {e : Ex} {es : List Ex} {p pos : Pos} {r : Rs} {ds : List D} {j k : Nat} {ps : List Str} {x : Str} {C : Xp} {P : List D → Rx → Prop}
theorem e_ce (G : Ce X.prog X.w X.K X.mg X.base x j ps P) (g : Gd k X) (ha : AX X Γ (e :: es) ds Γ1) (hp : P ds (.ok r)) (hk : j ≤ k := by decide) (hg : Gl X x := by rfl)
    (hdb : (x == ("__debug__" : Str)) = false := by decide) (he : starEach (e :: es) X.env = (false, eval e X.env) :: starEach es X.env := by rfl) (hpl : (backTo pos (starEach es X.env)).any (·.1) = false := by rfl) : EX X Γ (.Call (.Name x p) (e :: es) [] pos) r Γ1 := fun F σ H S Q R q => by
  obtain ⟨f, fd, gm, kp, b, Fo⟩ := G.ex
  refine pe_we (pe_call Fo (g.rm.mono hk) hg gm kp b .nil passL wa_pa hdb he hpl) (ha F σ H S _ R fun vs H1 S1 R1 s1 ok => ?_)
  rw [List.append_nil]
  exact ⟨S1, ds, .ok r, hp, R1.sh, ok, fun v H2 S2 t => by
    obtain ⟨R2, ok2⟩ := R1.after0 t
    exact q v H2 S2 R2 (s1.trans t.ss) ok2⟩
theorem er_ce (G : Ce X.prog X.w X.K X.mg X.base x j ps P) (g : Gd k X) (ha : AX X Γ (e :: es) ds Γ1) (hp : P ds (.ex C)) (hk : j ≤ k := by decide) (hg : Gl X x := by rfl)
    (hdb : (x == ("__debug__" : Str)) = false := by decide) (he : starEach (e :: es) X.env = (false, eval e X.env) :: starEach es X.env := by rfl) (hpl : (backTo pos (starEach es X.env)).any (·.1) = false := by rfl) : ER X Γ (.Call (.Name x p) (e :: es) [] pos) C Γ1 := fun F σ H S Q W R tk q => by
  obtain ⟨f, fd, gm, kp, b, Fo⟩ := G.ex
  refine pe_we (pe_callS (E := L2.WE W) Fo (g.rm.mono hk) hg gm kp b (fun σ => passAt tk σ) wa_pa hdb he hpl) (ha F σ H S _ R fun vs H1 S1 R1 s1 ok => ?_)
  exact ⟨S1, ds, .ex C, hp, R1.sh, ok, fun H2 S2 d t => q H2 S2 d (R1.after0 t).1 (s1.trans t.ss)⟩
end
/-! ### try: body / except x as n: y = n -/
section
variable {X : Cx} {Γ Γ1 : Gm} {x n y : Str} {C : Xp} {CB : Addr} {body : List Stmt} {np pos pos' py pn' spos : Pos} {k : Nat}
theorem Gd.tr (g : Gd k X) {pn : List (Addr × Obj)} {xe : Value → Shared → Prop} (po : PassesOwn (model X.prog X.w) X.A X.env xe) : Gd k (X.tr pn xe) := ⟨g.calm, g.nd, po, g.rm⟩
theorem set_thrice {σ : L2.St} {i m : Nat} {u v : Option V} (h : i ≠ m) : ((σ.set i u).set m v).set i none = (σ.set m v).set i none := by
  rw [List.set_comm _ _ h, List.set_set]
/-- .. that raises an exception of the class at C, which the clause takes -/
theorem s1_tryK (i m : Nat) (g : Gd k X) (gB : X.mg x = some (.ref CB)) (hm : PySem.W.exmOne X.K (.ref C.C) (.ref CB) = some true) (hb : ∀ pn xe, Gd k (X.tr pn xe) → SR (X.tr pn xe) Γ body C Γ1) (hu : Γ1[i]? = some .un) (hl : m < Γ1.length := by exact Nat.le_of_ble_eq_true rfl) (him : i ≠ m := by decide)
    (h1 : X.stack = X.env :: X.outer := by rfl) (h2 : X.env.frame = some X.env.locals := by rfl) (h4 : X.N[i]? = some n := by rfl) (h5 : X.env.kindOf n = some .local := by rfl) (h6 : X.N[m]? = some y := by rfl) (h7 : X.env.scope.names.lookup y = some .local := by rfl) (h8 : X.ex = [] := by rfl) (hn0 : (n == ("__debug__" : Str)) = false := by decide) (hn1 : (n == ("__classdict__" : Str)) = false := by decide)
    (hg : Gl X x := by rfl) (hdb : (x == ("__debug__" : Str)) = false := by decide) (hs2 : swapsWith (.Name n pn') (some (.Name y py)) spos.line X.env = pure false := by rfl) :
    S1 X Γ (.Try body [.ExceptHandler (some (.Name x np)) (some n) [.Assign [.Name y py] (.Name n pn') spos] pos'] [] [] pos) (.nx (Γ1.set m (.sh C.d))) := fun F σ H S D R q => by
  refine ps_w1 (ps_try_kept (tb := fun W D σ H => ∀ pn xe, Takes (X.tr pn xe) W → PassesOwn (model X.prog X.w) X.A X.env xe → WS (X.tr pn xe) body D σ H) h1 h2 g.nd h4 h5 h6 h7 h8 him hn0 hn1 ⟨hg, hdb, .inl gB⟩ (fun W pn xe tk po => ⟨fun pins s σ H D I h => h pn xe tk po pins s I⟩) hs2) ?_
  intro pn xe tk po
  refine hb pn xe (g.tr po) F σ H S D _ R tk fun σ' H' S' dd R' s' xo => ⟨C.C, rfl, hm, fun a na => ?_⟩
  obtain ⟨R2, s2⟩ := RS.laid (o := ExV C.C dd a) R' na
  obtain ⟨vs, xa, xl, xr⟩ := xo
  have R3 := R2.put (r := .sh C.d) (v := .ref a) (i := m) hl ⟨a, dd, vs, rfl, upd_same, xa.mono s2, xl, Reps.mono s2 _ _ xr⟩ (fun _ z => by cases z)
  have hu2 : (Γ1.set m (.sh C.d))[i]? = some .un := by rw [List.getElem?_set_ne (Ne.symm him)]; exact hu
  have R4 := RS.wipe R3 (unAt1 hu2)
  rw [set_thrice him]
  exact q _ _ _ R4 (s'.trans s2)
/-- .. that raises nothing -/
theorem s1_tryN {hd : ExceptHandler} (g : Gd k X) (hb : Gd k X.nox → SX X.nox Γ body (.nx Γ1)) : S1 X Γ (.Try body [hd] [] [] pos) (.nx Γ1) := fun F σ H S D R q => by
  exact ps_w1 (ps_try_thru0 ws_pss) (hb ⟨g.calm, g.nd, PassesOwn.never, g.rm⟩ F σ H S D R q)
end
/-! ### isinstance of what was caught; its fields -/
section
variable {X : Cx} {C CB : Addr} {b : Bool} {ns : List Str} {fs : List D}
def XdThere (H : Hp) (d : Option Addr) : Prop := ∀ b, d = some b → ∃ fs, H b = some (.xd fs)
theorem exv_inst {pins : List (Addr × Obj)} {σ : L2.St} {H : Hp} {s : Shared} {a C : Addr} {d : Option Addr} (I : Inv X pins σ H s) (h : H a = some (ExV C d a)) (hd : XdThere H d) : ∃ ox od, PySem.W.InstAt s.heap a ox C od := by
  obtain ⟨⟨oc, od, oda, osl⟩, vs, e1, ⟨z1, z2⟩, e3⟩ := exv_at I.hok h
  dsimp only at z1 z2 e3
  subst z1 z2 e3
  cases od with
  | none => exact ⟨_, none, e1, rfl, rfl, trivial⟩
  | some b =>
    obtain ⟨fs, hb⟩ := hd b rfl
    obtain ⟨u, hu⟩ := objOk_get (I.hok b _ hb)
    exact ⟨_, some u, e1, rfl, rfl, hu⟩
def rIsX (K : PySem.W.Frag) (C : Addr) : List V → Hp → VK → Prop := fun xs H Q => ∃ (a : Addr) (d : Option Addr) (v : V) (u : Value) (t : Bool), xs = [.ref a, v] ∧ H a = some (ExV C d a) ∧ XdThere H d ∧ (∀ z, RelV v z → z = u) ∧ PySem.W.kitOne K (.ref C) u = some t ∧ Q (.bl t) H
theorem call_isX (c : ExcC X.K C) : CallR X (.builtin "isinstance") (rIsX X.K C) := by
  rintro pins s σ H xs us Q I r ⟨a, d, v, u, t, rfl, ha, hd, hv, hk, q⟩
  cases r with
  | cons r1 r2 =>
    cases r2 with
    | cons r3 r4 =>
      cases r4
      cases r1
      obtain rfl := hv _ r3
      obtain ⟨ox, od, J⟩ := exv_inst I ha hd
      have hcl : (PySem.W.clsIn X.K C).isSome = true := by
        obtain ⟨cd, hc, _⟩ := PySem.W.any_some c.hd
        rw [hc]; rfl
      exact PySem.W.kia_one (PySem.W.kitx_exc hcl c.hg c.hk c.hs c.ha c.hn c.ht c.hm) I.kIn J hk (fun z => nomatch z) fun tk => ⟨.bl t, H, I.kept (t' := tk) fun _ _ z => z, rfl, q⟩
theorem xd_there {S H : Hp} {d : Option Addr} {fs : List (Str × V)} (s : Same S H) (h : XdAt S d fs) : XdThere H d := fun b e => by
  subst e
  exact ⟨fs, s _ _ h⟩
theorem c_isXo (c : ExcC X.K C) (hk : PySem.W.kitOne X.K (.ref C) (.ref CB) = some b) : CallS X (.builtin "isinstance") [.exc C ns fs, .raw (.ref CB)] (.sh (.bl b)) := calls_sc (call_isX c) (.bl b) (fun _ => rfl) fun H S vs Q s r q => by
  obtain ⟨v, _, rfl, ⟨a, d, ws, rfl, h1, h2, _⟩, u, _, rfl, rfl, rfl⟩ := r
  exact ⟨a, d, .ref CB, .ref CB, b, rfl, s _ _ h1, xd_there s h2, fun z rz => by cases rz; rfl, hk, q⟩
theorem c_isXt {T : String} (c : ExcC X.K C) (hk : PySem.W.kitOne X.K (.ref C) (.type T) = some b) : CallS X (.builtin "isinstance") [.exc C ns fs, .raw (.ty T)] (.sh (.bl b)) := calls_sc (call_isX c) (.bl b) (fun _ => rfl) fun H S vs Q s r q => by
  obtain ⟨v, _, rfl, ⟨a, d, ws, rfl, h1, h2, _⟩, u, _, rfl, rfl, rfl⟩ := r
  exact ⟨a, d, .ty T, .type T, b, rfl, s _ _ h1, xd_there s h2, fun z rz => by cases rz; rfl, hk, q⟩
/-- a field of a kept exception -/
def tXg (C : Addr) (f : Str) (te : TE) : TE := fun σ H Q => te σ H fun x H1 => ∃ (a b : Addr) (fs : List (Str × V)) (v : V), x = .ref a ∧ H1 a = some (ExV C (some b) a) ∧ H1 b = some (.xd fs) ∧ fs.lookup f = some v ∧ Q v H1
theorem pe_xg {e : Ex} {te : TE} {pos : Pos} {f : Str} (c : ExcC X.K C) (hno : PySem.W.findIn X.K (.ref C) f = some none) (he : PE X e te) (hb : attributeBase e f X.env (eval e X.env) = eval e X.env := by rfl) : PE X (.Attribute e f pos) (tXg C f te) := ⟨fun pins s σ H Q I h => by
  refine attr_of hb (thn (he.run pins s σ H _ I h) fun u s1 hh => ?_)
  obtain ⟨x, H1, I1, rx, a, b, fs, v, rfl, ha, hbx, l, q⟩ := hh
  obtain rfl : u = Value.ref a := rx
  obtain ⟨oe, vs, e1, hz, hd⟩ := exv_at I1.hok ha
  obtain ⟨mA, hns, hr⟩ := (show ObjOk X.prog X.w H1 s1.heap b (.xd fs) from I1.hok b _ hbx)
  obtain ⟨od, ho, hl⟩ := lookIn_ns hns
  obtain ⟨u, hu, ru⟩ := RelO.some_of (v := v) (o := mA f) (by rw [← l]; exact hr f)
  have J : PySem.W.InstAt s1.heap a oe C (some od) := ⟨e1, hz.1, by unfold PySem.W.notCls; rw [hd] <;> rfl, by rw [hz.2]; exact ho⟩
  exact HandSPX.exc_get I1.kIn J c.hg c.hk c.hs (PySem.W.findObj_own c.hd hno rfl (by rw [hl, hu])) (handed_of ru) ⟨v, H1, I1.tok _, ru, q⟩⟩
theorem e_xg {Γ Γ1 : Gm} {e : Ex} {pos : Pos} {f : Str} {d : D} (c : ExcC X.K C) (hno : PySem.W.findIn X.K (.ref C) f = some none) (h : EX X Γ e (.sh (.exc C ns fs)) Γ1) (hl : (ns.zip fs).lookup f = some d) (hb : attributeBase e f X.env (eval e X.env) = eval e X.env := by rfl) : EX X Γ (.Attribute e f pos) (.sh d) Γ1 := fun F σ H S Q R q =>
  pe_we (pe_xg c hno we_pe hb) (h F σ H S _ R fun v H' S' R' s ok => by
    obtain ⟨a, dd, vs, rfl, h1, h2, h3, h4⟩ := ok
    obtain ⟨w, e1, e2⟩ := zip_lookup h4 hl
    cases dd with
    | none => rw [show ns.zip vs = [] from h2] at e1; cases e1
    | some b => exact ⟨a, b, _, w, rfl, R'.sh _ _ h1, R'.sh _ _ h2, e1, q w H' S' R' s e2⟩)
end
end PL

set_option Elab.async false
set_option linter.all false
set_option maxRecDepth 100000
set_option maxHeartbeats 1000000
/-! defs with defaults that may raise; what a contract with refusals says where none comes -/
namespace PL
open PySem PySem.Spec PyProof.Rows L2
theorem spE_ok {K : PySem.W.Frag} {P : List D → Rx → Prop} {vs : List V} {H : Hp} {Q : VK} {E : XK} (h : sp0 K (fun ds r => P ds (.ok r)) vs H Q E) : spE K P vs H Q E := by
  obtain ⟨S, ds, r, hp, h1, h2, h3⟩ := h
  exact ⟨S, ds, .ok r, hp, h1, h2, h3⟩
section
variable {Pg : Program} {w : World} {K : PySem.W.Frag} {mg : Str → Option Value} {base : Heap} {x : Str} {st : Stmt} {N ps : List Str} {j k : Nat} {dvs : List V} {P : List D → Rx → Prop}
/-- a def that may raise, where it does not -/
theorem Ce.c0 (G : Ce Pg w K mg base x j ps P) : C0 Pg w K mg base x j ps (fun ds r => P ds (.ok r)) := by
  obtain ⟨f, fd, gm, kp, b, F⟩ := G.ex
  exact ⟨f, fd, gm, kp, b, F.imp fun _ _ _ _ h => spE_ok h⟩
end
structure Ced (Pg : Program) (w : World) (K : PySem.W.Frag) (mg : Str → Option Value) (base : Heap) (x : Str) (j : Nat) (ps : List Str) (st : Stmt) (dvs : List V) (P : List D → Rx → Prop) : Prop where
  ex : ∃ f fd, mg x = some (.ref f) ∧ FunD K x x (defArgs st) (defBody st) (defScope st) dvs [] f fd ∧ FnOk Pg w K mg base (L2.CX Pg w) j f fd ps (spE K P)
section
variable {Pg : Program} {w : World} {K : PySem.W.Frag} {mg : Str → Option Value} {base : Heap} {x : Str} {st : Stmt} {N ps : List Str} {j k : Nat} {dvs : List V} {P : List D → Rx → Prop} {f : Addr} {fd : FuncData}
theorem ced_mk (Dd : Df K mg x st dvs) (Sc : FnScope N ps (defScope st)) (hn : ps.length ≤ N.length) (hl : ∀ ds o, P ds o → ds.length = ps.length ∧ ∀ j, o ≠ .ok (.br j))
    (hb : ∀ f cd A outer s H E, Gd k (cx Pg w K mg base N x (defScope st) f cd A outer s H E) → ∀ ds o, P ds o → EndsX (cx Pg w K mg base N x (defScope st) f cd A outer s H E) (ent N ds) (defBody st) o) : Ced Pg w K mg base x (k + 1) ps st dvs P := by
  obtain ⟨f, fd, FD, gm⟩ := Dd.ex
  refine ⟨f, fd, gm, FD, fd_ok FD Sc (fun vs H Q E h => ?_) (fun cd A outer s H vs Q E hr h => ?_)⟩
  · obtain ⟨S, ds, o, hp, _, rp, _⟩ := h
    rw [← rp.length]; exact (hl ds o hp).1
  · obtain ⟨S, ds, o, hp, hs, rp, q⟩ := h
    have e1 := hb f cd A outer s H E ⟨rfl, Sc.nd, cx_po, hr⟩ ds o hp
    have R0 := rs_start (K := K) (N := N) hs rp (by rw [← rp.length, (hl ds o hp).1]; exact hn)
    cases o with
    | ok r =>
      obtain ⟨Γ', e1⟩ := e1
      exact ⟨_, ws_pss, e1.run R0 fun v σ' H' S' R' s' ok => q v H' S' (ret_of (F := ⟨H, S, fun _ => False⟩) R' (fun _ z => z.elim) (fun j z => (hl ds _ hp).2 j (by rw [z])) ok)⟩
    | ex C =>
      obtain ⟨Γ', e1⟩ := e1
      refine ⟨_, ws_pss, e1 _ _ _ _ _ (fun cls d _ H => E cls d H) R0 (takes_of rfl rfl rfl rfl) fun σ' H' S' dd R' s' => q H' S' dd (ret_of (F := ⟨H, S, fun _ => False⟩) R' (fun _ z => z.elim) (fun _ z => by cases z) rfl)⟩
/-- calls that do not raise, with defaults and keywords: by the rules of Cd -/
theorem Ced.cd (G : Ced Pg w K mg base x j ps st dvs P) : Cd Pg w K mg base x j ps st dvs (fun ds r => P ds (.ok r)) := by
  obtain ⟨f, fd, gm, FD, F⟩ := G.ex
  exact ⟨f, fd, gm, FD, F.imp fun _ _ _ _ h => spE_ok h⟩
/-- calls with all arguments given -/
theorem Ced.ce (G : Ced Pg w K mg base x j ps st dvs P) (hb : ∀ f fd, FunD K x x (defArgs st) (defBody st) (defScope st) dvs [] f fd → ∃ dv, Vals [] dv ∧ Binds K fd ps dv) : Ce Pg w K mg base x j ps P := by
  obtain ⟨f, fd, gm, FD, F⟩ := G.ex
  obtain ⟨dv, hv, b⟩ := hb f fd FD
  cases hv
  exact ⟨f, fd, gm, FD.kp, b, F⟩
/-! ### the object that a local slot owns is handed out as it is -/
theorem ret_br {Γ : Gm} {σ : L2.St} {H H' S S' : Hp} {ob : Ob} {i : Nat} {v : V} (R : RS K ⟨H, S, fun _ => False⟩ Γ σ H' S') (h : Γ[i]? = some (.ow ob)) (ok : RsOk K ⟨H, S, fun _ => False⟩ Γ σ H' S' (.br i) v) : Ret K S H (fun _ => False) (.ow ob) v H' S' := by
  obtain ⟨a, rfl, hi⟩ := ok
  obtain ⟨b, e1, e2, e3, e4⟩ := R.sl i _ h
  have e5 := hi.2
  rw [e1] at e5
  cases e5
  refine ⟨R.s0, R.sh, fun b o e n => R.new b o e (fun z => z) n, R.kp, R.th, ?_⟩
  exact ⟨_, rfl, e3.resolve_right (fun z => z), e2, e4⟩
/-- how a def's body ends: in a result, or in a local's own object -/
def EndsW (X : Cx) (Γ : Gm) (body : List Stmt) (r : Rs) : Prop := (∃ Γ', Ends1 X Γ body r Γ') ∨ ∃ ob i Γ', r = .ow ob ∧ Γ'[i]? = some (.ow ob) ∧ Ends1 X Γ body (.br i) Γ'
def EndsXW (X : Cx) (Γ : Gm) (body : List Stmt) : Rx → Prop
  | .ok r => EndsW X Γ body r
  | .ex C => EndsX X Γ body (.ex C)
theorem fnW (FD : FunD K x x (defArgs st) (defBody st) (defScope st) dvs [] f fd) (Sc : FnScope N ps (defScope st)) (hn : ps.length ≤ N.length) (hl : ∀ ds o, P ds o → ds.length = ps.length ∧ ∀ j, o ≠ .ok (.br j))
    (hb : ∀ cd A outer s H E, Gd k (cx Pg w K mg base N x (defScope st) f cd A outer s H E) → ∀ ds o, P ds o → EndsXW (cx Pg w K mg base N x (defScope st) f cd A outer s H E) (ent N ds) (defBody st) o) : FnOk Pg w K mg base (L2.CX Pg w) (k + 1) f fd ps (spE K P) := by
  refine fd_ok FD Sc (fun vs H Q E h => ?_) (fun cd A outer s H vs Q E hr h => ?_)
  · obtain ⟨S, ds, o, hp, _, rp, _⟩ := h
    rw [← rp.length]; exact (hl ds o hp).1
  · obtain ⟨S, ds, o, hp, hs, rp, q⟩ := h
    have e1 := hb cd A outer s H E ⟨rfl, Sc.nd, cx_po, hr⟩ ds o hp
    have R0 := rs_start (K := K) (N := N) hs rp (by rw [← rp.length, (hl ds o hp).1]; exact hn)
    cases o with
    | ok r =>
      rcases e1 with ⟨Γ', e1⟩ | ⟨ob, i, Γ', rfl, e2, e1⟩
      · exact ⟨_, ws_pss, e1.run R0 fun v σ' H' S' R' s' ok => q v H' S' (ret_of (F := ⟨H, S, fun _ => False⟩) R' (fun _ z => z.elim) (fun j z => (hl ds _ hp).2 j (by rw [z])) ok)⟩
      · exact ⟨_, ws_pss, e1.run R0 fun v σ' H' S' R' s' ok => q v H' S' (ret_br R' e2 ok)⟩
    | ex C =>
      obtain ⟨Γ', e1⟩ := e1
      refine ⟨_, ws_pss, e1 _ _ _ _ _ (fun cls d _ H => E cls d H) R0 (takes_of rfl rfl rfl rfl) fun σ' H' S' dd R' s' => q H' S' dd (ret_of (F := ⟨H, S, fun _ => False⟩) R' (fun _ z => z.elim) (fun _ z => by cases z) rfl)⟩
theorem cedW_mk (Dd : Df K mg x st dvs) (Sc : FnScope N ps (defScope st)) (hn : ps.length ≤ N.length) (hl : ∀ ds o, P ds o → ds.length = ps.length ∧ ∀ j, o ≠ .ok (.br j))
    (hb : ∀ f cd A outer s H E, Gd k (cx Pg w K mg base N x (defScope st) f cd A outer s H E) → ∀ ds o, P ds o → EndsXW (cx Pg w K mg base N x (defScope st) f cd A outer s H E) (ent N ds) (defBody st) o) : Ced Pg w K mg base x (k + 1) ps st dvs P := by
  obtain ⟨f, fd, FD, gm⟩ := Dd.ex
  exact ⟨f, fd, gm, FD, fnW FD Sc hn hl (hb f)⟩
theorem ceW_mk (Dd : Df K mg x st []) (Sc : FnScope N ps (defScope st)) (bd : BindsN x st ps) (hn : ps.length ≤ N.length) (hl : ∀ ds o, P ds o → ds.length = ps.length ∧ ∀ j, o ≠ .ok (.br j))
    (hb : ∀ f cd A outer s H E, Gd k (cx Pg w K mg base N x (defScope st) f cd A outer s H E) → ∀ ds o, P ds o → EndsXW (cx Pg w K mg base N x (defScope st) f cd A outer s H E) (ent N ds) (defBody st) o) : Ce Pg w K mg base x (k + 1) ps P := by
  obtain ⟨f, fd, FD, gm⟩ := Dd.ex
  exact ⟨f, fd, gm, FD.kp, FD.bindsN bd, fnW FD Sc hn hl (hb f)⟩
end
end PL

set_option Elab.async false
set_option linter.all false
set_option maxRecDepth 100000
set_option maxHeartbeats 1000000
/-! loops that look for the first turn that returns -/
namespace PL
open PySem PySem.Spec PyProof.Rows L2
section
variable {X : Cx} {Γ Γ1 Γ2 : Gm} {iter c : Ex} {pos px : Pos} {n k : Nat} {it : Nat → D} {x : Str} {body : List Stmt}
/-- statements that return r where b, and else go on -/
def Fin (X : Cx) (Γ : Gm) (body : List Stmt) (b : Bool) (r : Rs) (Γ1 : Gm) : Prop := match b with
  | true => ∃ Γ', SX X Γ body (.rt r Γ')
  | false => SX X Γ body (.nx Γ1)
def Fin1 (X : Cx) (Γ : Gm) (st : Stmt) (b : Bool) (r : Rs) (Γ1 : Gm) : Prop := match b with
  | true => ∃ Γ', S1 X Γ st (.rt r Γ')
  | false => S1 X Γ st (.nx Γ1)
theorem fin_for (i : Nat) (t : Nat → Bool) {r : Rs} (gd : Gd k X) (hI : IterX X (.Name x px) iter Γ n it Γ1) (hl : i < Γ1.length) (hb : ∀ j, j < n → Fin X (Γ1.set i (.sh (it j))) body (t j) r Γ1) (hs : ∀ x, foldedSetIterable iter X.env x = pure x := by intro _; rfl) (hi : X.N[i]? = some x := by rfl) (hx : Loc X.env.scope x := by first | exact Or.inl rfl | exact Or.inr rfl)
    (hf : X.fn x = true ∨ X.env.scope.names.lookup x = some .local := by first | exact .inl rfl | exact .inr rfl | assumption) : Fin1 X Γ (.For (.Name x px) iter body [] pos) ((List.range n).any t) r Γ1 := by
  rcases first_or (n := n) t with ⟨m, hm, h1, h2⟩ | h2
  · have e : (List.range n).any t = true := List.any_eq_true.mpr ⟨m, List.mem_range.mpr hm, h1⟩
    rw [e]
    have hm' := hb m hm
    rw [h1] at hm'
    obtain ⟨Γ', hm'⟩ := hm'
    refine ⟨Γ', s1_forX m gd hI (fun _ => Γ1) (fun j => Γ1.set i (.sh (it j))) .refl hm (fun j hj => g_name i gd.nd hl hi hx hf) (fun j hj => .inl ?_) hm' (.inl ⟨r, Γ', rfl, rfl⟩) hs⟩
    have := hb j (Nat.lt_trans hj hm)
    rw [h2 j hj] at this
    exact this
  · have e : (List.range n).any t = false := by
      rw [List.any_eq_false]
      intro j hj
      rw [h2 j (List.mem_range.mp hj)]; decide
    rw [e]
    refine s1_for gd hI (fun _ => Γ1) (fun j => Γ1.set i (.sh (it j))) .refl (fun j hj => g_name i gd.nd hl hi hx hf) (fun j hj => .inl ?_) hs
    have := hb j hj
    rw [h2 j hj] at this
    exact this
/-- the same with the first turn's own answer, and the rest after it -/
theorem s_scan (i : Nat) (t : Nat → Bool) (r : Nat → Rs) (r0 : Rs) (gd : Gd k X) {rest : List Stmt} (hI : IterX X (.Name x px) iter Γ n it Γ1) (hl : i < Γ1.length) (hb : ∀ j, j < n → Fin X (Γ1.set i (.sh (it j))) body (t j) (r j) Γ1) (h0 : ∃ Γ2, SX X Γ1 rest (.rt r0 Γ2)) (hs : ∀ x, foldedSetIterable iter X.env x = pure x := by intro _; rfl) (hi : X.N[i]? = some x := by rfl) (hx : Loc X.env.scope x := by first | exact Or.inl rfl | exact Or.inr rfl)
    (hf : X.fn x = true ∨ X.env.scope.names.lookup x = some .local := by first | exact .inl rfl | exact .inr rfl | assumption) : ∃ Γ2, SX X Γ (.For (.Name x px) iter body [] pos :: rest) (.rt (((List.range n).find? t).elim r0 r) Γ2) := by
  rcases first_or (n := n) t with ⟨m, hm, h1, h2⟩ | h2
  · have hm' := hb m hm
    rw [h1] at hm'
    obtain ⟨Γ', hm'⟩ := hm'
    refine ⟨Γ', ?_⟩
    rw [find_firstX hm h1 h2]
    refine s_end (s1_forX m gd hI (fun _ => Γ1) (fun j => Γ1.set i (.sh (it j))) .refl hm (fun j hj => g_name i gd.nd hl hi hx hf) (fun j hj => .inl ?_) hm' (.inl ⟨_, Γ', rfl, rfl⟩) hs)
    have := hb j (Nat.lt_trans hj hm)
    rw [h2 j hj] at this
    exact this
  · obtain ⟨Γ2, h⟩ := h0
    refine ⟨Γ2, ?_⟩
    rw [find_noneX h2]
    refine s_cons (s1_for gd hI (fun _ => Γ1) (fun j => Γ1.set i (.sh (it j))) .refl (fun j hj => g_name i gd.nd hl hi hx hf) (fun j hj => .inl ?_) hs) h
    have := hb j hj
    rw [h2 j hj] at this
    exact this
theorem fin_one {st : Stmt} {b : Bool} {r : Rs} (h : Fin1 X Γ st b r Γ1) : Fin X Γ [st] b r Γ1 := by
  cases b with
  | true => exact h.elim fun Γ' h => ⟨Γ', s_end h⟩
  | false => exact s_one h
theorem fin_cons {st : Stmt} {b : Bool} {r : Rs} (h1 : S1 X Γ st (.nx Γ1)) (h : Fin X Γ1 body b r Γ2) : Fin X Γ (st :: body) b r Γ2 := by
  cases b with
  | true => exact h.elim fun Γ' h => ⟨Γ', s_cons h1 h⟩
  | false => exact s_cons h1 h
theorem fin_wk {b : Bool} {r : Rs} (h : Fin X Γ body b r Γ1) (c : Cv X.K Γ1 Γ2) : Fin X Γ body b r Γ2 := by
  cases b with
  | true => exact h
  | false => exact s_wk h c
/-- if c: return e -/
theorem fin_if {tb : List Stmt} {b : Bool} {r : Rs} (ht : TX X Γ c b Γ1) (h : b = true → ∃ Γ', SX X Γ1 tb (.rt r Γ')) : Fin X Γ [.If c tb [] pos] b r Γ1 := by
  cases b with
  | true => exact (h rfl).elim fun Γ' h => ⟨Γ', s_ifTE ht h⟩
  | false => exact s_ifN ht s_nil
end
end PL
namespace PL
theorem fin_wk1 {X : L2.Cx} {Γ Γ1 Γ2 : Gm} {st : PySem.Stmt} {b : Bool} {r : Rs} (h : Fin1 X Γ st b r Γ1) (c : Cv X.K Γ1 Γ2) : Fin1 X Γ st b r Γ2 := by
  cases b with
  | true => exact h
  | false => exact s1_wk h c
end PL
namespace PL
open PySem PySem.Spec PyProof.Rows L2
theorem s1_ifX {X : L2.Cx} {Γ Γ1 Γ2 : Gm} {c : Ex} {tb : List PySem.Stmt} {pos : Pos} {b : Bool} (ht : TX X Γ c b Γ1) (hT : b = true → SX X Γ1 tb (.nx Γ2)) (hF : b = false → SX X Γ1 [] (.nx Γ2)) : S1 X Γ (.If c tb [] pos) (.nx Γ2) := by
  cases b with
  | true => exact s1_ifT ht (hT rfl)
  | false => exact s1_ifF ht (hF rfl)
end PL
namespace PL
open PySem PySem.Spec PyProof.Rows L2
theorem s_ifNE {X : L2.Cx} {Γ Γ1 : Gm} {c : Ex} {tb rest : List PySem.Stmt} {pos : Pos} {r : Rs} (ht : TX X Γ c false Γ1) (h : ∃ Γ', SX X Γ1 rest (.rt r Γ')) : ∃ Γ', SX X Γ (.If c tb [] pos :: rest) (.rt r Γ') := h.elim fun Γ' h => ⟨Γ', s_ifN ht h⟩
end PL

set_option Elab.async false
set_option linter.all false
set_option maxRecDepth 100000
set_option maxHeartbeats 1000000
/-! rules in the order of a walk, with states laid out slot by slot -/
namespace PL
open PySem PySem.Spec PyProof.Rows L2
inductive SetAt : Gm → Nat → Sl → Gm → Prop
  | z {s s' : Sl} {l : Gm} : SetAt (s' :: l) 0 s (s :: l)
  | s {a s : Sl} {l l' : Gm} {i : Nat} : SetAt l i s l' → SetAt (a :: l) (i + 1) s (a :: l')
theorem SetAt.eq {Γ Γ' : Gm} {i : Nat} {s : Sl} (h : SetAt Γ i s Γ') : Γ.set i s = Γ' := by
  induction h with
  | z => rfl
  | s h ih => rw [List.set_cons_succ, ih]
theorem SetAt.lt {Γ Γ' : Gm} {i : Nat} {s : Sl} (h : SetAt Γ i s Γ') : i < Γ.length := by
  induction h with
  | z => exact Nat.succ_pos _
  | s h ih => exact Nat.succ_lt_succ ih
inductive Shd : Rs → D → Prop
  | sh {d : D} : Shd (.sh d) d
  | lst {ds : List D} : Shd (.ow (.lst ds)) (.lst ds)
  | ins {C : Addr} {ns : List Str} {ds : List D} : Shd (.ow (.ins C ns ds)) (.obj C ns ds)
  | dct {ks : List Key} {ds : List D} : Shd (.ow (.dct ks ds)) (.dct ks ds)
inductive Slr : Rs → Sl → Prop
  | sh {d : D} : Slr (.sh d) (.sh d)
  | ow {o : Ob} : Slr (.ow o) (.ow o)
inductive Rea : Sl → Ob → Sl → Prop
  | ow {o o' : Ob} : Rea (.ow o) o' (.ow o')
  | pr {p : Addr} {o o' : Ob} : Rea (.pr p o) o' (.pr p o')
theorem Rea.eq {s s' : Sl} {o' : Ob} (h : Rea s o' s') : s.re o' = s' := by cases h <;> rfl
theorem Slr.eq {r : Rs} {s : Sl} (h : Slr r s) : r.sl = s := by cases h <;> rfl
theorem Slr.nb {r : Rs} {s : Sl} (h : Slr r s) : ∀ j, r ≠ .br j := by intro j z; subst z; cases h
section
variable {X : Cx} {Γ Γ1 Γ2 Γ3 Γ4 : Gm} {e a b c : Ex} {es : List Ex} {p pos : Pos} {r r1 r2 : Rs} {d d1 d2 d3 : D} {ds : List D} {j k : Nat} {ps : List Str} {x : Str} {s s' : Sl}
theorem x_sh (h : EX X Γ e r Γ1) (s : Shd r d) : EX X Γ e (.sh d) Γ1 := by
  cases s with
  | sh => exact h
  | lst => exact e_frz h
  | ins => exact e_frz h
  | dct => exact e_frz h
theorem x_cons (h : EX X Γ e r Γ1) (s : Shd r d) (h2 : AX X Γ1 es ds Γ2) (he : starEach (e :: es) X.env = (false, eval e X.env) :: starEach es X.env := by rfl) : AX X Γ (e :: es) (d :: ds) Γ2 := a_cons (x_sh h s) h2 he
theorem x_bin {op : Operator} (h1 : EX X Γ a (.sh d1) Γ1) (h2 : EX X Γ1 b (.sh d2) Γ2) (ho : OpS X (binaryOp op) d1 d2 r) : EX X Γ (.BinOp a op b pos) r Γ2 := e_bin ho h1 h2
theorem x_cmp {op : CmpOp} (h1 : EX X Γ a (.sh d1) Γ1) (h2 : EX X Γ1 b (.sh d2) Γ2) (ho : OpS X (compareOp op) d1 d2 r) (hm : behindInMarks op b = false := by rfl) : EX X Γ (.Compare a [op] [b] pos) r Γ2 := e_cmp ho h1 h2 hm
theorem y_cmp {op : CmpOp} {k : Bool} (h1 : EX X Γ a (.sh d1) Γ1) (h2 : EX X Γ1 b (.sh d2) Γ2) (ho : OpS X (compareOp op) d1 d2 (.sh (.bl k))) (hm : behindInMarks op b = false := by rfl) : TX X Γ (.Compare a [op] [b] pos) k Γ2 := t_cmp ho h1 h2 hm
theorem x_callB {id : String} (hm : X.mg x = none) (hv : bootBuiltins x = some (.builtin id)) (ha : AX X Γ (e :: es) ds Γ1) (hc : CallS X (.builtin id) ds r) (hg : Gl X x := by rfl) (hn : x ≠ "__name__" := by decide) (hdb : (x == ("__debug__" : Str)) = false := by decide) (he : starEach (e :: es) X.env = (false, eval e X.env) :: starEach es X.env := by rfl) (hpl : (backTo pos (starEach es X.env)).any (·.1) = false := by rfl) : EX X Γ (.Call (.Name x p) (e :: es) [] pos) r Γ1 := e_callB hc hm hv ha hg hn hdb he hpl
theorem x_callTy {T : String} (hm : X.mg x = none) (hv : bootBuiltins x = some (.type T)) (ha : AX X Γ (e :: es) ds Γ1) (hc : CallS X (.type T) ds r) (hg : Gl X x := by rfl) (hn : x ≠ "__name__" := by decide) (hdb : (x == ("__debug__" : Str)) = false := by decide) (he : starEach (e :: es) X.env = (false, eval e X.env) :: starEach es X.env := by rfl) (hpl : (backTo pos (starEach es X.env)).any (·.1) = false := by rfl) : EX X Γ (.Call (.Name x p) (e :: es) [] pos) r Γ1 := e_callTy hc hm hv ha hg hn hdb he hpl
theorem x_slice {lo hi : Option Ex} {i j : Option Int} {p2 : Pos} (h1 : EX X Γ a (.sh d) Γ1) (hl : PX X Γ1 lo i Γ2) (hh : PX X Γ2 hi j Γ3) (ho : SlS X d i j r) : EX X Γ (.Subscript a (.Slice lo hi none p2) pos) r Γ3 := e_slice ho h1 hl hh
theorem x_c1 {P : Ob → List D → Rs → Ob → Prop} {y : Str} {py : Pos} {s0 : Sl} {o o0 o' : Ob} (i : Nat) (G : C1 X.prog X.w X.K X.mg X.base x j ps P) (g : Gd k X) (h0 : Has Γ i s0 o0) (ha : AX X Γ es ds Γ1) (h1 : Has Γ1 i s o) (hp : P o ds r o') (hr : Rea s o' s') (ht : SetAt Γ1 i s' Γ2)
    (hk : j ≤ k := by decide) (hg : Gl X x := by rfl) (hN : X.N[i]? = some y := by rfl) (hv : Vis X.env.scope y := by first | exact Or.inl rfl | exact Or.inr (Or.inl rfl) | exact Or.inr (Or.inr rfl)) (hyd : (y == ("__debug__" : Str)) = false := by decide) (hcd : (y == ("__classdict__" : Str)) = false := by decide)
    (hdb : (x == ("__debug__" : Str)) = false := by decide) (he : starEach (.Name y py :: es) X.env = (false, eval (.Name y py) X.env) :: starEach es X.env := by rfl) (hpl : (backTo pos (starEach es X.env)).any (·.1) = false := by rfl) : EX X Γ (.Call (.Name x p) (.Name y py :: es) [] pos) r Γ2 := by
  have h := e_c1 (pos := pos) (p := p) i G g h0 ha h1 hp hk hg hN hv hyd hcd hdb he hpl
  rw [hr.eq, ht.eq] at h
  exact h
theorem z_set (i : Nat) {pos' : Pos} (nd : X.N.Nodup) (h : EX X Γ e r Γ1) (hr : Slr r s) (ht : SetAt Γ1 i s Γ2) (hi : X.N[i]? = some x := by rfl) (hx : Loc X.env.scope x := by first | exact Or.inl rfl | exact Or.inr rfl)
    (hs : swapsWith e (some (.Name x pos')) pos.line X.env = pure false := by rfl) (hf : X.fn x = true ∨ X.env.scope.names.lookup x = some .local := by first | exact .inl rfl | exact .inr rfl | assumption) : S1 X Γ (.Assign [.Name x pos'] e pos) (.nx Γ2) := by
  have q := s1_set (pos := pos) (pos' := pos') i nd h ht.lt hr.nb hi hx hs hf
  rw [hr.eq, ht.eq] at q
  exact q
theorem z_aug (i : Nat) {op : Operator} {pos' : Pos} (nd : X.N.Nodup) (h0 : Γ[i]? = some (.sh d1)) (h : EX X Γ e (.sh d2) Γ1) (hp : InpS X op d1 d2 d) (ht : SetAt Γ1 i (.sh d) Γ2) (hi : X.N[i]? = some x := by rfl) (hx : Loc X.env.scope x := by first | exact Or.inl rfl | exact Or.inr rfl)
    (hf : X.fn x = true ∨ X.env.scope.names.lookup x = some .local := by first | exact .inl rfl | exact .inr rfl | assumption) : S1 X Γ (.AugAssign (.Name x pos') op e pos) (.nx Γ2) := by
  have q := s1_aug (pos := pos) (pos' := pos') i nd hp h0 h ht.lt hi hx hf
  rw [ht.eq] at q
  exact q
theorem z_g (i : Nat) (nd : X.N.Nodup) (ht : SetAt Γ i (.sh d) Γ1) (hi : X.N[i]? = some x := by rfl) (hx : Loc X.env.scope x := by first | exact Or.inl rfl | exact Or.inr rfl) (hf : X.fn x = true ∨ X.env.scope.names.lookup x = some .local := by first | exact .inl rfl | exact .inr rfl | assumption) : GX X (.Name x pos) Γ d Γ1 := by
  have h := g_name (pos := pos) (d := d) (Γ := Γ) i nd ht.lt hi hx hf
  rw [ht.eq] at h
  exact h
theorem z_wk {st : List Stmt} (h : SX X Γ st (.nx Γ1)) (w : Wk Γ1 Γ2) : SX X Γ st (.nx Γ2) := s_wk h w.cv
theorem s_ifs {A B rest : List Stmt} {o : Out} (h : TX X Γ c true Γ1) (h2 : SX X Γ1 A (.nx Γ2)) (h3 : SX X Γ2 rest o) : SX X Γ (.If c A B pos :: rest) o := s_ifT h h2 h3
end
end PL
namespace PL
open PySem PySem.Spec PyProof.Rows L2
section
variable {X : Cx} {Γ Γ1 Γ2 : Gm} {e : Ex} {r : Rs} {s s' : Sl} {o' : Ob} {i : Nat}
theorem x_re (h : EX X Γ e r (Γ1.set i (s.re o'))) (hr : Rea s o' s') (ht : SetAt Γ1 i s' Γ2) : EX X Γ e r Γ2 := by
  rw [hr.eq, ht.eq] at h; exact h
theorem z_end {st : Stmt} {o : Out} (h : S1 X Γ st o) (ho : o.leaves = true := by rfl) {rest : List Stmt} : SX X Γ (st :: rest) o := s_end h ho
end
end PL
namespace PL
open PySem PySem.Spec PyProof.Rows L2
theorem s1_asgW {X : Cx} {Γ Γ1 Γ2 : Gm} {e tg : Ex} {d : D} {pos : Pos} (h : EX X Γ e (.sh d) Γ1) (hg : GX X tg Γ1 d Γ2) (hs : swapsWithSole [tg] e pos.line X.env = pure false := by rfl) (hw : swappedStores [tg] e X.env = pure none := by rfl) (h1 : (assignEach [tg] X.env).map (·.2) = [assign tg X.env] := by rfl) : S1 X Γ (.Assign [tg] e pos) (.nx Γ2) := s1_asg hg h hs hw h1
end PL
namespace PL
open PySem PySem.Spec PyProof.Rows L2
theorem end1 {X : Cx} {Γ Γ' : Gm} {body : List Stmt} {r : Rs} {s : Sl} {i : Nat} (h : SX X Γ body (.rt r Γ')) (e : Γ'[i]? = some s) : ∃ Γ', Ends1 X Γ body r Γ' ∧ Γ'[i]? = some s := ⟨Γ', .inl h, e⟩
end PL

set_option Elab.async false
set_option linter.all false
set_option maxRecDepth 100000
set_option maxHeartbeats 2000000
/-! t * 1 is t itself -/
namespace PL
open PySem PySem.Spec PyProof.Rows L2
open AutoSeq1 (wpAny_loadPart')
theorem tuple_mul1 (l : Addr) (items : Array Value) (n : Nat) (dd : Option Addr) (sl : Array (Option Value)) (u : Tok) : Meets (Builtin.«tuple.__mul__» ⟨[.ref l, .int 1 u], []⟩) (fun _ R s => s.heap.get? l = some { cls := .type "tuple", dict := dd, data := .seq items n, slots := sl } ∧ R (.ok (.ret (Value.ref l))) s) :=
  .of_wp fun prog w A R s h => by
    obtain ⟨hp, g, d, tk, os⟩ := s
    obtain ⟨hl, h⟩ := h
    have f1 := AutoSeq1.idx_int
    have c1 : (items.isEmpty || (1 : Int) == 1) = true := by simp
    wp_walk using wpAny_loadPart' hl
    exact ⟨_, rfl, h⟩
def rRep1 (K : PySem.W.Frag) : R2 := fun x y H Q => ∃ l xs, x = .ref l ∧ y = .int 1 ∧ SqT K H l xs ∧ Q (.ref l) H
section
variable {X : Cx} {ds : List D}
theorem op_rep1 : OpR X (binaryOp .Mult) (rRep1 X.K) := by
  intro pins s σ H x y v u Q I rx ry h
  obtain ⟨l, xs, rfl, rfl, hT, q⟩ := h
  cases rx
  obtain ⟨t, rfl⟩ := ry
  obtain ⟨its, r, ⟨⟨cls, dd, data, sl⟩, ho, hc, n, hd⟩, hs⟩ := I.tuple hT
  simp only at hc hd
  subst hc hd
  exact wpAny_binaryOp_repeat_ref (T := "tuple") (U := "int") (by decide) ⟨_, ho, rfl⟩ (fun s' => typeIs_int s' 1 t) noFill_tuple_mul F.fills_int_mul F.slot_int_rmul repeat_tuple F.slot_int_index.lookup
    (call_meets F.slot_int_rmul (typeIs_int s 1 t) F.entry_int_rmul (F.args_int_rmul_2 _ _) (int_rmul_tuple 1 t l its.toArray n dd sl) ⟨ho, rfl, ⟨_, ho, rfl⟩, call_meets F.slot_tuple_mul ⟨_, ho, rfl⟩ F.entry_tuple_mul (F.args_tuple_mul_2 _ _) (tuple_mul1 l its.toArray n dd sl t) ⟨ho, .ref l, H, I, rfl, q⟩⟩)
theorem o_rep1 : OpS X (binaryOp .Mult) (.tup ds) (.int 1) (.sh (.tup ds)) := ⟨_, op_rep1, fun Γ F σ H S x y Q R r1 r2 q => by
  obtain ⟨p, vs, rfl, h3, h4⟩ := id r1
  exact ⟨p, vs, rfl, r2, same_sqt R.sh h3, q _ H S R (.refl _) r1⟩⟩
end
end PL

set_option Elab.async false
set_option linter.all false
set_option maxRecDepth 100000
set_option maxHeartbeats 2000000
/-! t * 0 is an empty tuple; () * k is () itself -/
namespace PL
open PySem PySem.Spec PyProof.Rows L2
open AutoSeq1 (wpAny_loadPart')
theorem tuple_mul0 (l : Addr) (items : Array Value) (n : Nat) (dd : Option Addr) (sl : Array (Option Value)) (u : Tok) (hi : items.isEmpty = false) : Meets (Builtin.«tuple.__mul__» ⟨[.ref l, .int 0 u], []⟩) (fun _ R s => s.heap.get? l = some { cls := .type "tuple", dict := dd, data := .seq items n, slots := sl } ∧
      R (.ok (.ret (Value.ref s.heap.objs.size))) { s with heap := s.heap.push { cls := Value.type "tuple", data := Data.seq #[] }, toks := s.toks }) :=
  .of_wp fun prog w A R s h => by
    obtain ⟨hp, g, d, tk, os⟩ := s
    obtain ⟨hl, h⟩ := h
    have f1 := AutoSeq1.idx_int
    have c1 : (items.isEmpty || (0 : Int) == 1) = false := by rw [hi]; rfl
    have c2 : (decide ((0 : Int) ≤ 0) || items.isEmpty) = true := rfl
    wp_walk using wpAny_loadPart' hl
    repeat (first
      | (refine wpAny_ite_false (decide_eq_false (by rw [c1]; exact Bool.false_ne_true)) ?_; wp_walk using wpAny_loadPart' hl)
      | (refine wpAny_ite_true (decide_eq_true c2) ?_; wp_walk using wpAny_loadPart' hl))
    exact ⟨_, rfl, h⟩
theorem tuple_mulE (l : Addr) (n : Nat) (dd : Option Addr) (sl : Array (Option Value)) (x : Int) (u : Tok) (c0 : (decide (x < -(2 ^ 63)) || decide (x ≥ 2 ^ 63)) = false) : Meets (Builtin.«tuple.__mul__» ⟨[.ref l, .int x u], []⟩) (fun _ R s => s.heap.get? l = some { cls := .type "tuple", dict := dd, data := .seq #[] n, slots := sl } ∧ R (.ok (.ret (Value.ref l))) s) :=
  .of_wp fun prog w A R s h => by
    obtain ⟨hp, g, d, tk, os⟩ := s
    obtain ⟨hl, h⟩ := h
    have f1 := AutoSeq1.idx_int
    wp_walk using wpAny_loadPart' hl
    repeat (first
      | (refine wpAny_ite_false (decide_eq_false (by rw [c0]; exact Bool.false_ne_true)) ?_; wp_walk using wpAny_loadPart' hl))
    exact ⟨_, rfl, h⟩
def rRep0 (K : PySem.W.Frag) : R2 := fun x y H Q => ∃ l xs, x = .ref l ∧ y = .int 0 ∧ SqT K H l xs ∧ xs ≠ [] ∧ ∀ p, H p = none → Q (.ref p) (upd H p (.tup []))
def rRepE (K : PySem.W.Frag) : R2 := fun x y H Q => ∃ l k, x = .ref l ∧ y = .int k ∧ -(2 ^ 63) ≤ k ∧ k < 2 ^ 63 ∧ SqT K H l [] ∧ Q (.ref l) H
section
variable {X : Cx} {ds : List D}
theorem op_rep0 : OpR X (binaryOp .Mult) (rRep0 X.K) := by
  intro pins s σ H x y v u Q I rx ry h
  obtain ⟨l, xs, rfl, rfl, hT, hne, q⟩ := h
  cases rx
  obtain ⟨t, rfl⟩ := ry
  obtain ⟨its, r, ⟨⟨cls, dd, data, sl⟩, ho, hc, n, hd⟩, hs⟩ := I.tuple hT
  simp only at hc hd
  subst hc hd
  have hi : its.toArray.isEmpty = false := by
    cases its with
    | nil => exact absurd (List.eq_nil_of_length_eq_zero (by rw [r.length]; rfl)) hne
    | cons a b => rfl
  exact wpAny_binaryOp_repeat_ref (T := "tuple") (U := "int") (by decide) ⟨_, ho, rfl⟩ (fun s' => typeIs_int s' 0 t) noFill_tuple_mul F.fills_int_mul F.slot_int_rmul repeat_tuple F.slot_int_index.lookup
    (call_meets F.slot_int_rmul (typeIs_int s 0 t) F.entry_int_rmul (F.args_int_rmul_2 _ _) (int_rmul_tuple 0 t l its.toArray n dd sl) ⟨ho, rfl, ⟨_, ho, rfl⟩, call_meets F.slot_tuple_mul ⟨_, ho, rfl⟩ F.entry_tuple_mul (F.args_tuple_mul_2 _ _) (tuple_mul0 l its.toArray n dd sl t hi) ⟨ho, .ref s.heap.objs.size, _, I.laid (t' := s.toks) (o := .tup []) (fun b ob q => Heap.get?_push_of_some _ q) (Nat.le_refl _) ⟨Nat.zero_le _, _, .nil, IsTup.new _ _⟩, rfl, q _ (I.hok.fresh (Nat.le_refl _))⟩⟩)
theorem op_repE : OpR X (binaryOp .Mult) (rRepE X.K) := by
  intro pins s σ H x y v u Q I rx ry h
  obtain ⟨l, k, rfl, rfl, k0, k1, hT, q⟩ := h
  cases rx
  obtain ⟨t, rfl⟩ := ry
  obtain ⟨its, r, ⟨⟨cls, dd, data, sl⟩, ho, hc, n, hd⟩, hs⟩ := I.tuple hT
  simp only at hc hd
  subst hc hd
  cases r
  have c0 : (decide (k < -(2 ^ 63)) || decide (k ≥ 2 ^ 63)) = false := by
    rw [decide_eq_false (by omega), decide_eq_false (by omega)] <;> rfl
  exact wpAny_binaryOp_repeat_ref (T := "tuple") (U := "int") (by decide) ⟨_, ho, rfl⟩ (fun s' => typeIs_int s' k t) noFill_tuple_mul F.fills_int_mul F.slot_int_rmul repeat_tuple F.slot_int_index.lookup
    (call_meets F.slot_int_rmul (typeIs_int s k t) F.entry_int_rmul (F.args_int_rmul_2 _ _) (int_rmul_tuple k t l #[] n dd sl) ⟨ho, rfl, ⟨_, ho, rfl⟩, call_meets F.slot_tuple_mul ⟨_, ho, rfl⟩ F.entry_tuple_mul (F.args_tuple_mul_2 _ _) (tuple_mulE l n dd sl k t c0) ⟨ho, .ref l, H, I, rfl, q⟩⟩)
theorem o_rep0 (h : ds ≠ []) : OpS X (binaryOp .Mult) (.tup ds) (.int 0) (.sh (.tup [])) := ⟨_, op_rep0, fun Γ F σ H S x y Q R r1 r2 q => by
  obtain ⟨p, vs, rfl, h3, h4⟩ := id r1
  refine ⟨p, vs, rfl, r2, same_sqt R.sh h3, fun e => h (List.eq_nil_of_length_eq_zero (by rw [h4.length, e]; rfl)), fun l n => ?_⟩
  obtain ⟨R2, s2⟩ := R.laid (o := .tup []) n
  exact q _ _ _ R2 s2 ⟨l, _, rfl, .of upd_same, rfl⟩⟩
theorem o_repE {k : Int} (k0 : -(2 ^ 63) ≤ k) (k1 : k < 2 ^ 63) : OpS X (binaryOp .Mult) (.tup []) (.int k) (.sh (.tup [])) := ⟨_, op_repE, fun Γ F σ H S x y Q R r1 r2 q => by
  obtain ⟨p, vs, rfl, h3, h4⟩ := id r1
  obtain rfl : vs = [] := h4
  exact ⟨p, k, rfl, r2, k0, k1, same_sqt R.sh h3, q _ H S R (.refl _) r1⟩⟩
end
end PL

set_option Elab.async false
set_option linter.all false
set_option maxRecDepth 100000
set_option maxHeartbeats 1000000
namespace PL
open PySem PySem.Spec PyProof.Rows L2
section
variable {X : Cx} {Γ Γ1 Γ2 Γ3 Γ4 : Gm} {e a b : Ex} {pos : Pos} {k' : Nat} {d : D}
theorem e_clear {i : Nat} {s : Sl} {x : Str} {ds : List D} {apos p : Pos} (h1 : Has Γ i s (.lst ds)) (hN : X.N[i]? = some x := by rfl) (hv : Vis X.env.scope x := by first | exact Or.inl rfl | exact Or.inr (Or.inl rfl) | exact Or.inr (Or.inr rfl)) (hd : (x == ("__debug__" : Str)) = false := by decide)
    (hcd : (x == ("__classdict__" : Str)) = false := by decide) (hbase : attributeBase (.Name x p) "clear" X.env (eval (.Name x p) X.env) = eval (.Name x p) X.env := by rfl) (hline : (apos.endLine == pos.line) = true := by rfl) :
    EX X Γ (.Call (.Attribute (.Name x p) "clear" apos) [] [] pos) (.sh .non) (Γ.set i (s.re (.lst []))) := fun F σ H S Q R q => by
  obtain ⟨l, own1, vs, hl, rp⟩ := R.has h1
  refine pe_we (pe_bm0 PySem.F.plainAttrs_list PySem.F.slot_list_clear PySem.F.type_list_clear mt_clear (pe_var hN hv hd hcd) hbase hline) ⟨_, own1.2, .inl ⟨rfl, _, .of hl⟩, ?_⟩
  exact ⟨l, vs, rfl, rfl, hl, q _ _ S (R.chg own1 h1.1 ⟨_, upd_same, .nil⟩) (.refl _) rfl⟩
/-- a, b = x, y: shared data, and a new object -/
theorem s1_parSO (i j : Nat) {x y : Str} {px py pt : Pos} {kt k2 pt2} {u : Ob} (g : Gd k' X) (h : EX X Γ a (.sh d) Γ1) (h' : EX X Γ1 b (.ow u) Γ2) (t1 : SetAt Γ2 i (.sh d) Γ3) (t2 : SetAt Γ3 j (.ow u) Γ4) (hij : i ≠ j := by decide) (hi : X.N[i]? = some x := by rfl) (hj : X.N[j]? = some y := by rfl)
    (hx : X.env.scope.names.lookup x = some .local := by rfl) (hy : X.env.scope.names.lookup y = some .local := by rfl)
    (hw : swappedStores [.Tuple [.Name x px, .Name y py] kt pt] (.Tuple [a, b] k2 pt2) X.env = pure (some [x, y]) := by rfl) (hs : swapsWithSole [.Tuple [.Name x px, .Name y py] kt pt] (.Tuple [a, b] k2 pt2) pos.line X.env = pure false := by rfl)
    (he : starEach [a, b] X.env = (false, eval a X.env) :: starEach [b] X.env := by rfl) (he2 : starEach [b] X.env = (false, eval b X.env) :: starEach [] X.env := by rfl) :
    S1 X Γ (.Assign [.Tuple [.Name x px, .Name y py] kt pt] (.Tuple [a, b] k2 pt2) pos) (.nx Γ4) := fun F σ H S D R q => by
  refine ps_w1 (ps_par g.calm g.nd hi hj hij hx hy (pa_cons we_pe (pa_cons we_pe pa_nil he2) he) hw hs) ?_
  refine h F σ H S _ R fun v H1 S1 R1 s1 ok1 => ?_
  refine h' F σ H1 S1 _ R1 fun v2 H2 S2 R2 s2 ok2 => ?_
  have ok1' : RsOk X.K F Γ2 σ H2 S2 (.sh d) v := Rep.mono s2 _ _ ok1
  have hl := t1.lt
  have R3 := R2.put (i := i) hl ok1' (fun _ z => by cases z)
  have e3 : Γ2.set i (Rs.sh d).sl = Γ3 := t1.eq
  rw [e3] at R3
  have R4 := R3.put (r := .ow u) (v := v2) (i := j) t2.lt ?_ (fun _ z => by cases z)
  · have e4 : Γ3.set j (Rs.ow u).sl = Γ4 := t2.eq
    rw [e4] at R4
    exact ⟨v, v2, rfl, q _ H2 S2 R4 (s1.trans s2)⟩
  · obtain ⟨a2, rfl, m1, m2, ob2, no2⟩ := ok2
    refine ⟨a2, rfl, m1, m2, ob2, fun ⟨l, ow⟩ => ?_⟩
    by_cases hli : l = i
    · subst hli
      rw [← e3] at ow
      have p1 := ow.1
      rw [List.getElem?_set_self hl] at p1
      rcases p1 with ⟨o, z⟩ | ⟨p, o, z⟩ <;> cases z
    · refine no2 ⟨l, ?_⟩
      obtain ⟨p1, p2⟩ := ow
      rw [← e3] at p1
      rw [List.getElem?_set_ne (Ne.symm hli)] at p1 p2
      exact ⟨p1, p2⟩
/-- a, b = x, y: shared data both -/
theorem s1_parSS (i j : Nat) {x y : Str} {px py pt : Pos} {kt k2 pt2} {d2 : D} (g : Gd k' X) (h : AX X Γ [a, b] [d, d2] Γ2) (t1 : SetAt Γ2 i (.sh d) Γ3) (t2 : SetAt Γ3 j (.sh d2) Γ4) (hij : i ≠ j := by decide) (hi : X.N[i]? = some x := by rfl) (hj : X.N[j]? = some y := by rfl)
    (hx : X.env.scope.names.lookup x = some .local := by rfl) (hy : X.env.scope.names.lookup y = some .local := by rfl)
    (hw : swappedStores [.Tuple [.Name x px, .Name y py] kt pt] (.Tuple [a, b] k2 pt2) X.env = pure (some [x, y]) := by rfl) (hs : swapsWithSole [.Tuple [.Name x px, .Name y py] kt pt] (.Tuple [a, b] k2 pt2) pos.line X.env = pure false := by rfl) :
    S1 X Γ (.Assign [.Tuple [.Name x px, .Name y py] kt pt] (.Tuple [a, b] k2 pt2) pos) (.nx Γ4) := by
  have l2 := t2.lt
  have q := s1_par (pos := pos) (px := px) (py := py) (pt := pt) (kt := kt) (k2 := k2) (pt2 := pt2) i j g h t1.lt (by rw [← t1.eq, List.length_set] at l2; exact l2) hij hi hj hx hy hw hs
  rw [t1.eq, t2.eq] at q
  exact q
end
/-! cuts by whole numbers -/
theorem cut_toI {α : Type} (xs : List α) {k : Int} (h : 0 ≤ k) : cutL xs none (some k) = xs.take k.toNat := by
  have := cut_to xs k.toNat
  rwa [show ((k.toNat : Nat) : Int) = k by omega] at this
theorem cut_fromI {α : Type} (xs : List α) {k : Int} (h : 0 ≤ k) : cutL xs (some k) none = xs.drop k.toNat := by
  have := cut_from xs k.toNat
  rwa [show ((k.toNat : Nat) : Int) = k by omega] at this
end PL

set_option Elab.async false
set_option linter.all false
set_option maxRecDepth 100000
set_option maxHeartbeats 1000000
/-! isinstance(x, (tuple, list)); == of empty dicts -/
namespace PL
open PySem PySem.Spec PyProof.Rows L2
section
variable {X : Cx} {d : D}
def rIsS (K : PySem.W.Frag) : List V → Hp → VK → Prop := fun xs H Q => ∃ (x : V) (tp : Addr) (cs : List V) (t : Value) (us : List Value) (b : Bool), xs = [x, .ref tp] ∧ SqT K H tp cs ∧ Paired ClsV cs us ∧ TyX K H x t ∧ PySem.W.kitAny K t us = some b ∧ Q (.bl b) H
theorem call_isS : CallR X (.builtin "isinstance") (rIsS X.K) := by
  rintro pins s σ H xs us Q I r ⟨x, tp, cs, t, ws, b, rfl, hT, k, ty, e, q⟩
  obtain ⟨u1, u2, rfl, r1, r2⟩ := vals2 r
  obtain rfl : u2 = Value.ref tp := r2
  obtain ⟨P, Z, p, hx⟩ := kit_of I r1 ty
  have key : ∃ (o : Obj) (its : List Value), s.heap.get? tp = some o ∧ o.cls = .type "tuple" ∧ (∃ n, o.data = .seq its.toArray n) ∧ Vals cs its := by
    rcases hT with (h | ⟨o, h⟩) | ⟨o, its, n, h1, h2, h3, _, h4⟩
    · obtain ⟨_, its, rv, o, h1, h2, n, h3⟩ := (show ObjOk X.prog X.w H s.heap tp (.tup cs) from I.hok tp _ h)
      exact ⟨o, its, h1, h2, ⟨n, h3⟩, rv⟩
    · obtain ⟨h0, _, its, rv, o', h1, h2, n, h3⟩ := (show ObjOk X.prog X.w H s.heap tp (.frz o (.tup cs)) from I.hok tp _ h)
      exact ⟨o', its, h1, h2, ⟨n, h3⟩, rv⟩
    · exact ⟨o, its.toList, I.kIn _ _ h1, h2, ⟨n, h3⟩, h4⟩
  obtain ⟨⟨oc, od, dt, sl⟩, its, h1, h2, ⟨n, h3⟩, rv⟩ := key
  have e3 := ClsV.all k rv
  subst e3
  dsimp only at h2 h3
  subst h2 h3
  exact PySem.W.kia_tup Z I.kIn p h1 e hx fun tk => ⟨.bl b, H, I.tok tk, rfl, q⟩
theorem c_isTL (hp : d.plain = true) : CallS X (.builtin "isinstance") [d, .tup [.raw (.ty "tuple"), .raw (.ty "list")]] (.sh (.bl (isTup d || isLst d))) := calls_sc call_isS (.bl _) (fun _ => rfl) fun H S vs Q s r q => by
  obtain ⟨v, _, rfl, r1, u, _, rfl, ⟨a, ws, rfl, h1, h2⟩, rfl⟩ := r
  obtain ⟨v1, _, rfl, rfl, v2, _, rfl, rfl, rfl⟩ := h2
  have k := kit_tys d.ty (ty_mem hp)
  have e1 : (d.ty == "tuple") = isTup d := by cases d <;> first | rfl | cases hp
  have e2 : (d.ty == "list") = isLst d := by cases d <;> first | rfl | cases hp
  rw [e1, e2] at k
  refine ⟨v, a, _, .type d.ty, [.type "tuple", .type "list"], isTup d || isLst d, rfl, same_sqt s h1, .cons (.ty _) (.cons (.ty _) .nil), tyx_of hp s r1, kitAny_cons (kit_ty k.2.2.2.1) (fun h => ?_) (fun h => by rw [h]; rfl), q⟩
  rw [h, Bool.false_or]
  exact kitAny_cons (kit_ty k.2.2.2.2) (fun h => by rw [h]; exact kitAny_nil) (fun h => h)
theorem o_eqDct0 (hu : X.A.units + 64 < cLine) : OpS X (compareOp .Eq) (.dct [] []) (.dct [] []) (.sh (.bl true)) := ops_sc (op_eq_dict (by omega)) (.bl true) (fun _ => rfl) fun H S x y Q s r1 r2 q => by
  obtain ⟨a, vs, rfl, h1, _, h2⟩ := r1
  obtain ⟨b, ws, rfl, g1, _, g2⟩ := r2
  exact ⟨a, b, [], rfl, rfl, s _ _ h1, s _ _ g1, by simp, by simp, q⟩
end
section
variable {X : Cx} {Γ Γ1 : Gm} {e e2 : Ex} {p pos tpos : Pos} {elts : List Ex} {kk : Nat} {ds es : List D}
def itZ (ds es : List D) : Nat → D := fun i => .tup [itd ds i, itd es i]
theorem it_zipT (hm : X.mg "zip" = none) (h : AX X Γ [e, e2] [.tup ds, .tup es] Γ1) (hl : ds.length = es.length) (hg : Gl X "zip" := by rfl) (hs : starEach [e, e2] X.env = (false, eval e X.env) :: starEach [e2] X.env := by rfl) (hpl : (backTo pos (starEach [e2] X.env)).any (·.1) = false := by rfl) : IterX X (.Tuple elts kk tpos) (.Call (.Name "zip" p) [e, e2] [] pos) Γ ds.length (itZ ds es) Γ1 :=
  ⟨_, RZ.pi_zipA hg hm wa_pa hs hpl, fun F σ H S R' R q => h F σ H S _ R fun vs H1 S1 R1 s1 ok => by
    obtain ⟨v, w, rfl, ⟨a, us, rfl, h1, h2⟩, b, ws, rfl, g1, g2⟩ := reps2 ok
    refine ⟨a, b, us, ws, rfl, .inr ⟨same_sqt R1.sh h1, same_sqt R1.sh g1, q _ H1 S1 R1 s1 fun i H' sH => ?_⟩⟩
    have hq : SqT X.K H' a us := same_sqt sH h1
    have hr : SqT X.K H' b ws := same_sqt sH g1
    refine ⟨fun hi => ⟨us, ws, us[i]'(by rw [← h2.length]; exact hi), ws[i]'(by rw [← g2.length, ← hl]; exact hi), hq, hr, List.getElem?_eq_getElem _, List.getElem?_eq_getElem _⟩, fun hi => ⟨us, ws, hq, hr, .inl (by rw [← h2.length, hi]; exact Nat.le_refl _)⟩, fun x H2 hi y => ?_⟩
    obtain ⟨T, z, z2, rfl, nT, rfl, hz⟩ := y
    have y1 := hz.1 us hq
    have y2 := hz.2 ws hr
    exact .inr ⟨T, _, _, rfl, nT, rfl, rfl, fun S' sS => .cons (Rep.mono sS _ _ (itd_rep h2 y1)) (.cons (Rep.mono sS _ _ (itd_rep g2 y2)) .nil)⟩⟩
theorem it_zipL (hm : X.mg "zip" = none) (h : AX X Γ [e, e2] [.lst ds, .lst es] Γ1) (hl : ds.length = es.length) (hg : Gl X "zip" := by rfl) (hs : starEach [e, e2] X.env = (false, eval e X.env) :: starEach [e2] X.env := by rfl) (hpl : (backTo pos (starEach [e2] X.env)).any (·.1) = false := by rfl) : IterX X (.Tuple elts kk tpos) (.Call (.Name "zip" p) [e, e2] [] pos) Γ ds.length (itZ ds es) Γ1 :=
  ⟨_, RZ.pi_zipA hg hm wa_pa hs hpl, fun F σ H S R' R q => h F σ H S _ R fun vs H1 S1 R1 s1 ok => by
    obtain ⟨v, w, rfl, ⟨a, us, rfl, h1, h2⟩, b, ws, rfl, g1, g2⟩ := reps2 ok
    refine ⟨a, b, us, ws, rfl, .inl ⟨.of (R1.sh _ _ h1), .of (R1.sh _ _ g1), q _ H1 S1 R1 s1 fun i H' sH => ?_⟩⟩
    have hq : SqL X.K H' a us := .of (sH _ _ h1)
    have hr : SqL X.K H' b ws := .of (sH _ _ g1)
    refine ⟨fun hi => ⟨us, ws, us[i]'(by rw [← h2.length]; exact hi), ws[i]'(by rw [← g2.length, ← hl]; exact hi), hq, hr, List.getElem?_eq_getElem _, List.getElem?_eq_getElem _⟩, fun hi => ⟨us, ws, hq, hr, .inl (by rw [← h2.length, hi]; exact Nat.le_refl _)⟩, fun x H2 hi y => ?_⟩
    obtain ⟨T, z, z2, rfl, nT, rfl, hz⟩ := y
    have y1 := hz.1 us hq
    have y2 := hz.2 ws hr
    exact .inr ⟨T, _, _, rfl, nT, rfl, rfl, fun S' sS => .cons (Rep.mono sS _ _ (itd_rep h2 y1)) (.cons (Rep.mono sS _ _ (itd_rep g2 y2)) .nil)⟩⟩
end
end PL

set_option Elab.async false
set_option linter.all false
set_option maxRecDepth 100000
set_option maxHeartbeats 1000000
/-! calls by keywords that raise; repr of any plain data, and of {} -/
namespace PL
open PySem PySem.Spec PyProof.Rows L2
section
variable {X : Cx} {CX : CXT} {k n : Nat} {f C : Addr} {fd : FuncData} {ps ks : List Str} {sp : Sp} {x : Str} {p pos : Pos} {e : Expr} {es : List Expr} {kws : List Keyword} {t tk : TA} {g : List Value → List Value → List Value} {gV : List V → List V → List V}
theorem run_fnNS {pins : List (Addr × Obj)} {σ : L2.St} {H : Hp} {s : Shared} {Q : VK} {us ws : List Value} {vs zs : List V} {E : L2.St → XK} (F : FnOk X.prog X.w X.K X.mg X.base CX k f fd ps sp) (hr : Room k X.A) (hb : KBn X.K fd ps n ks g gV) (hx : PassesAt CX X σ (E σ)) (I : Inv X pins σ H s) (r : Vals vs us) (rz : Vals zs ws) (l1 : vs.length = n) (l2 : zs.length = ks.length) (h : sp (gV vs zs) H Q (E σ)) : wpAny (model X.prog X.w) X.A (call (.ref f) us (ks.zip ws)) (EP X pins σ Q) X.xe s := by
  have b := hb.to s us ws I.kIn (r.length.symm.trans l1) (rz.length.symm.trans l2)
  have rr := hb.rel r rz
  refine wpAny_call (codeAny_mono (run_any F hr I.env0 (args := ⟨us, ks.zip ws⟩) b (fun e s' z => hx pins H s e s' I z) I rr h) fun r s' z => ?_)
  rcases r with er | fl
  · exact z
  · cases fl <;> exact z
def tCallNS (n m : Nat) (sp : Sp) (gV : List V → List V → List V) (E : L2.St → XK) (t tk : TA) : TE := fun σ H Q => t σ H fun vs H1 => tk σ H1 fun zs H2 => vs.length = n ∧ zs.length = m ∧ sp (gV vs zs) H2 Q (E σ)
theorem pe_callNS {E : L2.St → XK} (F : FnOk X.prog X.w X.K X.mg X.base CX k f fd ps sp) (hr : Room k X.A) (hg : Gl X x) (hm : X.mg x = some (.ref f)) (hk : PySem.W.keepIn X.K (.ref f) = true) (hb : KBn X.K fd ps n ks g gV) (hx : ∀ σ, PassesAt CX X σ (E σ)) (ha : PA X (e :: es) t) (hkw : PK X kws tk)
    (hall : (backToKw pos (keywordEach kws X.env)).all (·.1.isSome) = true := by rfl) (hks : (backToKw pos (keywordEach kws X.env)).filterMap (·.1) = ks := by rfl) (hdb : (x == ("__debug__" : Str)) = false := by decide) (he : starEach (e :: es) X.env = (false, eval e X.env) :: starEach es X.env := by rfl)
    (hpl : ((backTo pos (starEach (e :: es) X.env)).any (·.1) || (backToKw pos (keywordEach kws X.env)).any (·.1.isNone)) = false := by rfl) : PE X (.Call (.Name x p) (e :: es) kws pos) (tCallNS n ks.length sp gV E t tk) := ⟨fun pins s σ H Q I h => by
  refine wpAny_Call_Name_kw (ld_glob I hg hm (PySem.W.callWith_KW (h₀ := X.base) I.ok.mod.kin hk hall (thn (ha.run pos pins s σ H _ I h) fun us s1 z => ?_) hpl he) hdb)
  obtain ⟨vs, H1, I1, r, q⟩ := z
  refine thn (hkw.run pos pins s1 σ H1 _ I1 q) fun ws s2 z => ?_
  obtain ⟨zs, H2, I2, rz, l1, l2, q2⟩ := z
  rw [hks]
  exact ⟨I2.kIn, run_fnNS F hr hb (hx σ) I2 r rz l1 l2 q2⟩⟩
theorem pe_callDS {E : L2.St → XK} {ds : List Value} {dvs : List V} (F : FnOk X.prog X.w X.K X.mg X.base CX k f fd ps sp) (hr : Room k X.A) (hg : Gl X x) (hm : X.mg x = some (.ref f)) (hk : PySem.W.keepIn X.K (.ref f) = true) (hb : Binds X.K fd ps ds) (hd : Vals dvs ds) (hx : ∀ σ, PassesAt CX X σ (E σ)) (ha : PA X (e :: es) t) (hdb : (x == ("__debug__" : Str)) = false := by decide)
    (he : starEach (e :: es) X.env = (false, eval e X.env) :: starEach es X.env := by rfl) (hpl : (backTo pos (starEach es X.env)).any (·.1) = false := by rfl) : PE X (.Call (.Name x p) (e :: es) [] pos) (fun σ H Q => t σ H fun vs H1 => sp (vs ++ dvs) H1 Q (E σ)) := ⟨fun pins s σ H Q I h => by
  refine wpAny_Call_Name_kw (ld_glob I hg hm (PySem.W.callWith_K (h₀ := X.base) I.ok.mod.kin hk (thn (ha.run pos pins s σ H _ I h) fun us s1 z => ?_) he hpl) hdb)
  obtain ⟨vs, H1, I1, r, q⟩ := z
  have rr := r.append hd
  have hl : (us ++ ds).length = ps.length := by rw [← rr.length, F.len _ _ _ _ q]
  refine ⟨I1.kIn, wpAny_call (codeAny_mono (run_any F hr I1.env0 (hb s1 us I1.kIn hl) (fun e s' z => hx σ pins H1 s1 e s' I1 z) I1 rr q) fun r s' z => ?_)⟩
  rcases r with er | fl
  · exact z
  · cases fl <;> exact z⟩
end
section
variable {X : Cx} {Γ Γ1 Γ2 : Gm} {e : Ex} {es : List Ex} {p pos : Pos} {ds zs fs : List D} {j k : Nat} {ps ks : List Str} {x : Str} {st : Stmt} {dvs : List V} {kws : List Keyword} {P : List D → Rx → Prop} {C : Xp}
/-- f(a, .., k = v, ..) raises -/
theorem er_cedk (is : List Nat) (G : Ced X.prog X.w X.K X.mg X.base x j ps st dvs P) (hb : ∀ f fd, FunD X.K x x (defArgs st) (defBody st) (defScope st) dvs [] f fd → KwB X.K fd ps ds.length ks dvs is) (g : Gd k X) (hfs : ∀ S, Reps X.K S fs dvs) (ha : AX X Γ (e :: es) ds Γ1) (hkw : KX X Γ1 kws zs Γ2) (hp : P (pickL is ds fs zs) (.ex C)) (hz : zs.length = ks.length := by rfl)
    (hk : j ≤ k := by decide) (hg : Gl X x := by rfl) (hall : (backToKw pos (keywordEach kws X.env)).all (·.1.isSome) = true := by rfl) (hks : (backToKw pos (keywordEach kws X.env)).filterMap (·.1) = ks := by rfl)
    (hdb : (x == ("__debug__" : Str)) = false := by decide) (he : starEach (e :: es) X.env = (false, eval e X.env) :: starEach es X.env := by rfl)
    (hpl : ((backTo pos (starEach (e :: es) X.env)).any (·.1) || (backToKw pos (keywordEach kws X.env)).any (·.1.isNone)) = false := by rfl) : ER X Γ (.Call (.Name x p) (e :: es) kws pos) C Γ2 := fun F σ H S Q W R tk q => by
  obtain ⟨f, fd, gm, FD, Fo⟩ := G.ex
  obtain ⟨its, hB⟩ := (hb f fd FD).ex
  refine pe_we (pe_callNS (E := L2.WE W) Fo (g.rm.mono hk) hg gm FD.kp hB (fun σ => passAt tk σ) wa_pa wk_pk hall hks hdb he hpl) ?_
  refine ha F σ H S _ R fun vs H1 S1 R1 s1 ok => hkw F σ H1 S1 _ R1 fun us H2 S2 R2 s2 ok2 => ?_
  exact ⟨ok.length.symm, ok2.length.symm.trans hz, S2, _, .ex C, hp, R2.sh, Reps.pick (Reps.mono s2 _ _ ok) (hfs S2) ok2 is, fun H3 S3 d t => q H3 S3 d (R2.after0 t).1 ((s1.trans s2).trans t.ss)⟩
/-- f(a, ..) with its last defaults raises -/
theorem er_ced (i : Nat) (G : Ced X.prog X.w X.K X.mg X.base x j ps st dvs P) (hb : ∀ f fd, FunD X.K x x (defArgs st) (defBody st) (defScope st) dvs [] f fd → ∃ dv, Vals (dvs.drop i) dv ∧ Binds X.K fd ps dv) (g : Gd k X) (ha : AX X Γ (e :: es) ds Γ1) (hfs : ∀ S, Reps X.K S fs (dvs.drop i)) (hp : P (ds ++ fs) (.ex C))
    (hk : j ≤ k := by decide) (hg : Gl X x := by rfl) (hdb : (x == ("__debug__" : Str)) = false := by decide) (he : starEach (e :: es) X.env = (false, eval e X.env) :: starEach es X.env := by rfl) (hpl : (backTo pos (starEach es X.env)).any (·.1) = false := by rfl) : ER X Γ (.Call (.Name x p) (e :: es) [] pos) C Γ1 := fun F σ H S Q W R tk q => by
  obtain ⟨f, fd, gm, FD, Fo⟩ := G.ex
  obtain ⟨dv, hd, hB⟩ := hb f fd FD
  refine pe_we (pe_callDS (E := L2.WE W) Fo (g.rm.mono hk) hg gm FD.kp hB hd (fun σ => passAt tk σ) wa_pa hdb he hpl) (ha F σ H S _ R fun vs H1 S1 R1 s1 ok => ?_)
  exact ⟨S1, ds ++ fs, .ex C, hp, R1.sh, ok.append (hfs S1), fun H2 S2 d t => q H2 S2 d (R1.after0 t).1 (s1.trans t.ss)⟩
/-- x = e, where e raises -/
theorem s1r_set (i : Nat) {y : Str} {pos' : Pos} (g : X.N.Nodup) (h : ER X Γ e C Γ1) (hi : X.N[i]? = some y := by rfl) (hx : Loc X.env.scope y := by first | exact Or.inl rfl | exact Or.inr rfl)
    (hs : swapsWith e (some (.Name y pos')) pos.line X.env = pure false := by rfl) (hf : X.fn y = true ∨ X.env.scope.names.lookup y = some .local := by first | exact .inl rfl | exact .inr rfl | assumption) : S1R X Γ (.Assign [.Name y pos'] e pos) C Γ1 := fun F σ H S D W R tk q =>
  ps_w1 (ps_set g hi hx we_pe hs hf) (h F σ H S _ W R tk fun H1 S1 d R1 s1 => q σ H1 S1 d R1 s1)
end
/-! ### repr -/
theorem b_repr : bootBuiltins "repr" = some (.builtin "repr") := by decide +kernel
theorem Bt.repr {mg : Str → Option Value} (T : Bt mg) : mg "repr" = none := T _ (by decide)
def rpD : D → Str
  | .dct _ _ => "{}"
  | d => d.py.shown
def RpO (d : D) : Prop := d = .dct [] [] ∨ Shw d
section
variable {X : Cx}
def rReprP (K : PySem.W.Frag) : List V → Hp → VK → Prop := fun vs H Q => (∃ (v : V) (d : PyData), vs = [v] ∧ Dp K H v d ∧ d.showable = true ∧ d.hasDict = false ∧ d.depth ≤ 60 ∧ d.shown.length ≤ sizeLine ∧ Q (.str d.shown) H) ∨ ∃ a, vs = [.ref a] ∧ H a = some (.dK []) ∧ Q (.str "{}") H
theorem cr_reprP (hg : X.A.guards = some []) (hu : X.A.units + 64 < cLine) : CallR X (.builtin "repr") (rReprP X.K) := by
  intro pins s σ H vs us Q I r h
  rcases h with ⟨v, d, rfl, hd, h1, h2, h3, h4, q⟩ | ⟨a, rfl, ha, q⟩
  · obtain ⟨u, rfl, ru⟩ : ∃ u, us = [u] ∧ RelV v u := by
      cases us with
      | nil => cases r
      | cons u us =>
        cases r with
        | cons r1 r2 => cases r2; exact ⟨u, rfl, r1⟩
    obtain ⟨as, rd⟩ := Dp.reads I d v u hd ru
    have I2 : ∀ t : Tok, Inv X pins σ H { s with toks := t } := fun t => I.kept (h' := s.heap) (fun _ _ e => e)
    have top : ∀ a : Addr, u = .ref a → wpAny (model X.prog X.w) X.A (call (.builtin "repr") [u]) (EP X pins σ Q) X.xe s := fun a e => by
      subst e
      exact repr_of_reads' rd h1 (PyData.noDict_hsm h2) hg (by omega) (fun _ _ e => e) (fun h' u tk hk => ⟨.str _, H, I.kept hk, ⟨u, rfl⟩, q⟩) h4
    cases rd with
    | none => exact P.repr_of_none ⟨.str _, H, I2 _, ⟨_, rfl⟩, q⟩
    | bool b => exact P.repr_of_bool ⟨.str _, H, I2 _, ⟨_, rfl⟩, by cases b <;> exact q⟩
    | int i t => exact P.repr_of_int (of_decide_eq_true h1) ⟨.str _, H, I2 _, ⟨_, rfl⟩, q⟩
    | str x t => exact P.repr_of_str ⟨.str _, H, I2 _, ⟨_, rfl⟩, q⟩ h4
    | list _ _ _ _ => exact top _ rfl
    | tuple _ _ _ _ => exact top _ rfl
    | dict _ _ _ _ _ => exact top _ rfl
  · rw [Vals.ref1 r]
    obtain ⟨_, ys, vs, rv, o, es, ep, e1, e2, e3, e4, e5, _⟩ := (show ObjOk X.prog X.w H s.heap a (.dK []) from I.hok a _ ha)
    obtain rfl : vs = [] := by cases rv; rfl
    have hes : es.toList = [] := by cases hq : es.toList with
      | nil => rfl
      | cons x y => rw [hq] at e5; cases e5
    have rd : Reads s.heap (.ref a) (.dict []) [a] := Reads.dict (as := []) (bs := []) e1 e2.1 e3 (by rw [hes]; exact .nil) (by rw [hes]; exact .nil)
    exact repr_of_reads' rd rfl (fun _ hm => by rw [List.mem_singleton.mp hm] at ys; simp at ys) hg (by show X.A.units + (PyData.depth (.dict []) + 1) < cLine; simp [PyData.depth, PyData.depthKv]; omega) (fun _ _ e => e) (fun h' u tk hk => ⟨.str _, H, I.kept hk, ⟨u, rfl⟩, q⟩) (by decide)
theorem c_reprP {d : D} {k : Nat} (g : Gd k X) (h : RpO d) : CallS X (.builtin "repr") [d] (.sh (.str (rpD d))) := calls_sc (cr_reprP g.rm.gd g.rm.units) (.str _) (fun _ => rfl) fun H S vs Q s r q => by
  obtain ⟨v, rfl, rp⟩ := reps1 r
  rcases h with rfl | h
  · obtain ⟨a, us, rfl, h1, hl, h2⟩ := rp
    obtain rfl : us = [] := h2
    exact .inr ⟨a, rfl, s _ _ h1, q⟩
  · have e : rpD d = d.py.shown := by
      cases d <;> first | rfl | (have := h.fl; cases this)
    rw [e] at q
    exact .inl ⟨v, d.py, rfl, dp_of s _ _ h.fl rp, h.sh, h.nd, h.dp, h.sz, q⟩
end
end PL
namespace PL
open PySem PySem.Spec PyProof.Rows L2
/-! ### written displays, member by member (for with_reducible) -/
def noStar : Expr → Bool
  | .Starred _ _ => false
  | _ => true
theorem st_ok {e : Expr} {es : List Expr} {env : Env} (h : noStar e = true) : starEach (e :: es) env = (false, eval e env) :: starEach es env := by
  cases e <;> first | rfl | cases h
theorem a_conT {X : Cx} {Γ Γ1 Γ2 : Gm} {e : Expr} {es : List Expr} {d : D} {ds : List D} (hs : noStar e = true) (h : EX X Γ e (.sh d) Γ1) (h2 : AX X Γ1 es ds Γ2) : AX X Γ (e :: es) (d :: ds) Γ2 := a_cons h h2 (st_ok hs)
end PL

set_option Elab.async false
set_option linter.all false
set_option maxRecDepth 100000
set_option maxHeartbeats 1000000
/-! methods that may raise; methods called by keywords -/
namespace PL
open PySem PySem.Spec PyProof.Rows L2
structure Med (Pg : Program) (w : World) (K : PySem.W.Frag) (mg : Str → Option Value) (base : Heap) (C : Addr) (m : Str) (qual : Str) (j : Nat) (ps : List Str) (st : Stmt) (P : List D → Rx → Prop) : Prop where
  ex : ∃ f fd, FunD K m qual (defArgs st) (defBody st) (defScope st) [] [] f fd ∧ Meth K C m f ∧ FnOk Pg w K mg base (L2.CX Pg w) j f fd ps (spE K P)
section
variable {Pg : Program} {w : World} {K : PySem.W.Frag} {mg : Str → Option Value} {base : Heap} {C : Addr} {m qual : Str} {st : Stmt} {N ps : List Str} {j k : Nat} {P : List D → Rx → Prop}
theorem med_mk (Dd : Dm K C m qual st []) (Sc : FnScope N ps (defScope st)) (hn : ps.length ≤ N.length) (hl : ∀ ds o, P ds o → ds.length = ps.length ∧ ∀ j, o ≠ .ok (.br j))
    (hb : ∀ f cd A outer s H E, Gd k (cx Pg w K mg base N qual (defScope st) f cd A outer s H E) → ∀ ds o, P ds o → EndsX (cx Pg w K mg base N qual (defScope st) f cd A outer s H E) (ent N ds) (defBody st) o) : Med Pg w K mg base C m qual (k + 1) ps st P := by
  obtain ⟨f, fd, FD, gm⟩ := Dd.ex
  refine ⟨f, fd, FD, gm, fd_ok FD Sc (fun vs H Q E h => ?_) (fun cd A outer s H vs Q E hr h => ?_)⟩
  · obtain ⟨S, ds, o, hp, _, rp, _⟩ := h
    rw [← rp.length]; exact (hl ds o hp).1
  · obtain ⟨S, ds, o, hp, hs, rp, q⟩ := h
    have e1 := hb f cd A outer s H E ⟨rfl, Sc.nd, cx_po, hr⟩ ds o hp
    have R0 := rs_start (K := K) (N := N) hs rp (by rw [← rp.length, (hl ds o hp).1]; exact hn)
    cases o with
    | ok r =>
      obtain ⟨Γ', e1⟩ := e1
      exact ⟨_, ws_pss, e1.run R0 fun v σ' H' S' R' s' ok => q v H' S' (ret_of (F := ⟨H, S, fun _ => False⟩) R' (fun _ z => z.elim) (fun j z => (hl ds _ hp).2 j (by rw [z])) ok)⟩
    | ex C =>
      obtain ⟨Γ', e1⟩ := e1
      refine ⟨_, ws_pss, e1 _ _ _ _ _ (fun cls d _ H => E cls d H) R0 (takes_of rfl rfl rfl rfl) fun σ' H' S' dd R' s' => q H' S' dd (ret_of (F := ⟨H, S, fun _ => False⟩) R' (fun _ z => z.elim) (fun _ z => by cases z) rfl)⟩
theorem M0.of {P P' : List D → Rs → Prop} (G : M0 Pg w K mg base C m j ps P) (h : ∀ ds r, P' ds r → P ds r) : M0 Pg w K mg base C m j ps P' := by
  obtain ⟨f, fd, gm, b, F⟩ := G.ex
  exact ⟨f, fd, gm, b, F.imp fun _ _ _ _ ⟨S, ds, r, hp, rest⟩ => ⟨S, ds, r, h ds r hp, rest⟩⟩
/-- where it does not raise -/
theorem Med.m0 (G : Med Pg w K mg base C m qual j ps st P) (bd : BindsM m qual st ps) : M0 Pg w K mg base C m j ps (fun ds r => P ds (.ok r)) := by
  obtain ⟨f, fd, FD, gm, F⟩ := G.ex
  exact ⟨f, fd, gm, FD.bindsN bd, F.imp fun _ _ _ _ h => spE_ok h⟩
end
section
variable {X : Cx} {CX : CXT} {k n : Nat} {f C : Addr} {fd : FuncData} {ps ks : List Str} {sp : Sp} {m : Str} {pos apos : Pos} {o e : Expr} {es : List Expr} {kws : List Keyword} {ta : TE} {t tk : TA} {g : List Value → List Value → List Value} {gV : List V → List V → List V}
theorem pe_methS {pl : Sem Bool} {E : L2.St → XK} (he : PE X o ta) (c : Cls X.K C) (hm : Meth X.K C m f) (F : FnOk X.prog X.w X.K X.mg X.base CX k f fd ps sp) (hr : Room k X.A) (hb : Binds X.K fd ps []) (hx : ∀ σ, PassesAt CX X σ (E σ)) (ha : PA X (e :: es) t)
    (hst : starEach (e :: es) X.env = (false, eval e X.env) :: starEach es X.env := by rfl) (hpl : (backTo pos (starEach es X.env)).any (·.1) = false := by rfl)
    (ht : eval (.Call (.Attribute o m apos) (e :: es) [] pos) X.env = (do
      let ov ← eval o X.env
      standAt apos.atName
      let (f, first) ← holding [ov] (getMethod ov m pl)
      callWith pos f first (backTo pos (starEach (e :: es) X.env)) (backToKw pos (keywordEach [] X.env))) := by rfl) : PE X (.Call (.Attribute o m apos) (e :: es) [] pos) (fun σ H Q => ta σ H fun x H1 => ∃ a dx fs, x = .ref a ∧ H1 a = some (.ins C dx fs) ∧ fs.lookup m = none ∧ t σ H1 fun vs H2 => sp (x :: vs) H2 Q (E σ)) := ⟨fun pins s σ H Q I h => by
  refine PySem.W.methodCall_KW (pl := pl) (thn (he.run pins s σ H _ I h) fun u s1 z => ?_) ht
  obtain ⟨x, H1, I1, rx, a, dx, fs, rfl, ea, l, q⟩ := z
  obtain rfl : u = Value.ref a := rx
  refine getmeth_ok I1 ea c hm l (PySem.W.callWith_K (first := [.ref a]) (h₀ := X.base) I.ok.mod.kin hm.kp (thn (ha.run pos pins s1 σ H1 _ I1 q) fun us s2 z => ?_) hst hpl)
  obtain ⟨vs, H2, I2, r, q2⟩ := z
  exact ⟨I2.kIn, run_fnS (us := .ref a :: us) (vs := .ref a :: vs) F hr hb (hx σ) I2 (.cons rfl r) q2⟩⟩
theorem pe_methK {pl : Sem Bool} {E : XK} (he : PE X o ta) (c : Cls X.K C) (hm : Meth X.K C m f) (F : FnOk X.prog X.w X.K X.mg X.base CX k f fd ps sp) (hr : Room k X.A) (hb : KBn X.K fd ps 1 ks g gV) (hx : Passes CX X E) (hkw : PK X kws tk)
    (hall : (backToKw pos (keywordEach kws X.env)).all (·.1.isSome) = true := by rfl) (hks : (backToKw pos (keywordEach kws X.env)).filterMap (·.1) = ks := by rfl)
    (hpl : ((backTo pos (starEach [] X.env)).any (·.1) || (backToKw pos (keywordEach kws X.env)).any (·.1.isNone)) = false := by rfl)
    (ht : eval (.Call (.Attribute o m apos) [] kws pos) X.env = (do
      let ov ← eval o X.env
      standAt apos.atName
      let (f, first) ← holding [ov] (getMethod ov m pl)
      callWith pos f first (backTo pos (starEach [] X.env)) (backToKw pos (keywordEach kws X.env))) := by rfl) : PE X (.Call (.Attribute o m apos) [] kws pos) (fun σ H Q => ta σ H fun x H1 => ∃ a dx fs, x = .ref a ∧ H1 a = some (.ins C dx fs) ∧ fs.lookup m = none ∧ tk σ H1 fun zs H2 => zs.length = ks.length ∧ sp (gV [x] zs) H2 Q E) := ⟨fun pins s σ H Q I h => by
  refine PySem.W.methodCall_KW (pl := pl) (thn (he.run pins s σ H _ I h) fun u s1 z => ?_) ht
  obtain ⟨x, H1, I1, rx, a, dx, fs, rfl, ea, l, q⟩ := z
  obtain rfl : u = Value.ref a := rx
  refine getmeth_ok I1 ea c hm l (PySem.W.callWith_KW0 (first := [.ref a]) (h₀ := X.base) I.ok.mod.kin hm.kp hall (thn (hkw.run pos pins s1 σ H1 _ I1 q) fun ws s2 z => ?_) hpl)
  obtain ⟨zs, H2, I2, rz, l2, q2⟩ := z
  rw [hks]
  exact ⟨I2.kIn, run_fnN (us := [.ref a]) (vs := [.ref a]) F hr hb hx I2 (.cons rfl .nil) rz rfl l2 q2⟩⟩
end
section
variable {X : Cx} {Γ Γ1 Γ2 : Gm} {o e : Ex} {es : List Ex} {pos apos : Pos} {r : Rs} {ds zs : List D} {j k : Nat} {ps ks : List Str} {m qual : Str} {st : Stmt} {kws : List Keyword} {P : List D → Rx → Prop} {C : Addr} {Cx' : Xp} {ns : List Str} {fs : List D} {pl : Sem Bool}
/-- o.m(e, ..) raises -/
theorem er_m0 (G : Med X.prog X.w X.K X.mg X.base C m qual j ps st P) (bd : BindsM m qual st ps) (c : Cls X.K C) (g : Gd k X) (ho : EX X Γ o (.sh (.obj C ns fs)) Γ1) (ha : AX X Γ1 (e :: es) ds Γ2) (hp : P (.obj C ns fs :: ds) (.ex Cx')) (hno : (ns.zip fs).lookup m = none := by rfl) (hk : j ≤ k := by decide)
    (hst : starEach (e :: es) X.env = (false, eval e X.env) :: starEach es X.env := by rfl) (hpl : (backTo pos (starEach es X.env)).any (·.1) = false := by rfl)
    (ht : eval (.Call (.Attribute o m apos) (e :: es) [] pos) X.env = (do
      let ov ← eval o X.env
      standAt apos.atName
      let (f, first) ← holding [ov] (getMethod ov m pl)
      callWith pos f first (backTo pos (starEach (e :: es) X.env)) (backToKw pos (keywordEach [] X.env))) := by rfl) : ER X Γ (.Call (.Attribute o m apos) (e :: es) [] pos) Cx' Γ2 := fun F σ H S Q W R tk q => by
  obtain ⟨f, fd, FD, hm, Fo⟩ := G.ex
  refine pe_we (pe_methS (E := L2.WE W) we_pe c hm Fo (g.rm.mono hk) (FD.bindsN bd) (fun σ => passAt tk σ) wa_pa hst hpl ht) (ho F σ H S _ R fun v H1 S1 R1 s1 ok => ?_)
  obtain ⟨a, dx, vs, rfl, h1, h2, h3⟩ := id ok
  refine ⟨a, dx, _, rfl, R1.sh _ _ h1, zip_none h3 h2 hno, ha F σ H1 S1 _ R1 fun us H2 S2 R2 s2 ok2 => ?_⟩
  exact ⟨S2, .obj C ns fs :: ds, .ex Cx', hp, R2.sh, .cons (Rep.mono s2 _ _ ok) ok2, fun H3 S3 d t => q H3 S3 d (R2.after0 t).1 ((s1.trans s2).trans t.ss)⟩
/-- o.m(k = v, ..) -/
theorem e_mk0 (is : List Nat) (G : Med X.prog X.w X.K X.mg X.base C m qual j ps st P) (hb : ∀ f fd, FunD X.K m qual (defArgs st) (defBody st) (defScope st) [] [] f fd → KwB X.K fd ps 1 ks [] is) (c : Cls X.K C) (g : Gd k X) (ho : EX X Γ o (.sh (.obj C ns fs)) Γ1) (hkw : KX X Γ1 kws zs Γ2) (hp : P (pickL is [.obj C ns fs] [] zs) (.ok r)) (hno : (ns.zip fs).lookup m = none := by rfl) (hz : zs.length = ks.length := by rfl) (hk : j ≤ k := by decide)
    (hall : (backToKw pos (keywordEach kws X.env)).all (·.1.isSome) = true := by rfl) (hks : (backToKw pos (keywordEach kws X.env)).filterMap (·.1) = ks := by rfl)
    (hpl : ((backTo pos (starEach [] X.env)).any (·.1) || (backToKw pos (keywordEach kws X.env)).any (·.1.isNone)) = false := by rfl)
    (ht : eval (.Call (.Attribute o m apos) [] kws pos) X.env = (do
      let ov ← eval o X.env
      standAt apos.atName
      let (f, first) ← holding [ov] (getMethod ov m pl)
      callWith pos f first (backTo pos (starEach [] X.env)) (backToKw pos (keywordEach kws X.env))) := by rfl) : EX X Γ (.Call (.Attribute o m apos) [] kws pos) r Γ2 := fun F σ H S Q R q => by
  obtain ⟨f, fd, FD, hm, Fo⟩ := G.ex
  obtain ⟨its, hB⟩ := (hb f fd FD).ex
  have F0 : FnOk X.prog X.w X.K X.mg X.base (L2.CX X.prog X.w) j f fd ps (sp0 X.K fun ds r => P ds (.ok r)) := Fo.imp fun _ _ _ _ h => spE_ok h
  refine pe_we (pe_methK (E := E0) we_pe c hm F0 (g.rm.mono hk) hB passL wk_pk hall hks hpl ht) (ho F σ H S _ R fun v H1 S1 R1 s1 ok => ?_)
  obtain ⟨a, dx, vs, rfl, h1, h2, h3⟩ := id ok
  refine ⟨a, dx, _, rfl, R1.sh _ _ h1, zip_none h3 h2 hno, hkw F σ H1 S1 _ R1 fun us H2 S2 R2 s2 ok2 => ?_⟩
  refine ⟨ok2.length.symm.trans hz, S2, _, r, hp, R2.sh, Reps.pick (ds := [.obj C ns fs]) (fs := []) (vs := [.ref a]) (us := []) (.cons (Rep.mono s2 _ _ ok) .nil) .nil ok2 is, fun v H3 S3 t => ?_⟩
  obtain ⟨R3, ok3⟩ := R2.after0 t
  exact q v H3 S3 R3 ((s1.trans s2).trans t.ss) ok3
end
end PL

set_option Elab.async false
set_option linter.all false
set_option maxRecDepth 100000
set_option maxHeartbeats 1000000
namespace Hd
open PySem PySem.Spec PyProof.Rows L2 PL
section
variable {Pg : Program} {w : World} {K : PySem.W.Frag} {mg : Str → Option Value} {base : Heap}
/-! ### merging keeps the threads -/
theorem mrgStep_thr (acc : List (Str × Int)) (s : Str) (h : ∀ p ∈ acc, 0 < p.2) : thr (mrgStep acc s) = thr acc ++ [s] ∧ ∀ p ∈ mrgStep acc s, 0 < p.2 := by
  unfold mrgStep
  cases e : acc.getLast? with
  | none =>
    have : acc = [] := by simpa using e
    subst this
    refine ⟨rfl, fun p hp => ?_⟩
    rw [List.mem_singleton.mp hp]; exact Int.zero_lt_one
  | some q =>
    obtain ⟨t, n⟩ := q
    have hne : acc ≠ [] := fun z => by rw [z] at e; cases e
    have e1 := List.dropLast_concat_getLast hne
    have e2 : acc.getLast hne = (t, n) := by
      rw [List.getLast?_eq_getLast hne] at e
      exact Option.some.inj e
    rw [e2] at e1
    have hn : 0 < n := h (t, n) (by rw [← e1]; simp)
    show thr (if t = s then acc.dropLast ++ [(s, n + 1)] else acc ++ [(s, 1)]) = _ ∧ ∀ p ∈ (if t = s then acc.dropLast ++ [(s, n + 1)] else acc ++ [(s, 1)]), 0 < p.2
    by_cases hts : t = s
    · rw [if_pos hts]
      refine ⟨?_, fun p hp => ?_⟩
      · subst hts
        have z : thr acc = thr (acc.dropLast ++ [(t, n)]) := by rw [e1]
        rw [z]
        unfold thr
        rw [List.flatMap_append, List.flatMap_append, List.append_assoc]
        congr 1
        show List.replicate (n + 1).toNat t ++ [] = (List.replicate n.toNat t ++ []) ++ [t]
        rw [List.append_nil, List.append_nil, show (n + 1).toNat = n.toNat + 1 by omega, List.replicate_succ']
      · rcases List.mem_append.mp hp with z | z
        · exact h p (List.dropLast_subset _ z)
        · rw [List.mem_singleton.mp z]
          show 0 < n + 1
          omega
    · rw [if_neg hts]
      refine ⟨?_, fun p hp => ?_⟩
      · unfold thr
        rw [List.flatMap_append]
        rfl
      · rcases List.mem_append.mp hp with z | z
        · exact h p z
        · rw [List.mem_singleton.mp z]; exact Int.zero_lt_one
theorem mrg_thr (ts : List Str) : thr (mrg ts) = ts ∧ ∀ p ∈ mrg ts, 0 < p.2 := by
  suffices h : ∀ (acc : List (Str × Int)), (∀ p ∈ acc, 0 < p.2) → thr (ts.foldl mrgStep acc) = thr acc ++ ts ∧ ∀ p ∈ ts.foldl mrgStep acc, 0 < p.2 from h [] (fun _ z => by cases z)
  induction ts with
  | nil => intro acc h; exact ⟨by rw [List.append_nil]; rfl, h⟩
  | cons s ts ih =>
    intro acc h
    obtain ⟨h1, h2⟩ := mrgStep_thr acc s h
    obtain ⟨h3, h4⟩ := ih _ h2
    refine ⟨?_, h4⟩
    rw [List.foldl_cons, h3, h1, List.append_assoc]
    rfl
theorem mrg_ok {ts : List Str} (hs : Shs ts) (h0 : 0 < ts.length) (hl : ts.length ≤ 240) : OkSt (mrg ts) := by
  obtain ⟨h1, h2⟩ := mrg_thr ts
  refine ⟨fun e => ?_, fun p hp => ⟨mrg_mem (fun t => shadeB t = true) ts hs p hp, h2 p hp⟩, ?_⟩
  · rw [e] at h1
    rw [← h1] at h0
    exact absurd h0 (by decide)
  · have z := thr_len h2
    rw [h1] at z
    omega
theorem row_mrg {ts : List Str} (h0 : 0 < ts.length) : rowK (mrg ts) .run 0 = ts.take (lr ts) := by
  unfold rowK
  show spin (thr (mrg ts)) (lr (thr (mrg ts))) 0 = _
  rw [(mrg_thr ts).1]
  exact spin_take h0
/-! ### the methods -/
def P_thread (C : Addr) : List D → Rs → Prop := fun ds r => ∃ ts i, 0 < ts.length ∧ ds = [dR C ts, .int i] ∧ r = .sh (.str (cyc ts i))
theorem c_thread (C : Addr) (Dd : Dm K C "thread" "Row.thread" s_Row_thread []) (T : Bt mg) (hC : Cls K C) (hN : NoAttr K C "kept") : M0 Pg w K mg base C "thread" 1 ["self", "spot"] (P_thread C) := by
  refine m0_mk (k := 0) Dd sc_Row_thread (fun _ _ _ _ _ _ us hl => match us, hl with | [_, _], _ => rfl) (by decide) (fun ds r => ?_) (fun f cd A outer s H E g ds r => ?_)
  · rintro ⟨ts, i, hp, rfl, rfl⟩
    exact ⟨rfl, fun _ z => by cases z⟩
  · rintro ⟨ts, i, hp, rfl, rfl⟩
    have hn : ((ts.map D.str).length : Int) = (ts.length : Int) := by rw [List.length_map]
    refine ends_rt (s_one (s1_ret (e_ix (e_fld hC hN (e_var 0) rfl) (e_bin (o_mod (j := ((ts.map D.str).length : Int)) (by omega)) (e_var 1) (e_callB c_lenT T.len b_len (a_cons (e_fld hC hN (e_var 0) rfl) a_nil))) (i_dT ?_))))
    unfold cyc
    rw [hn]
    exact atI_ok (Int.emod_nonneg _ (by omega)) (Int.emod_lt_of_pos _ (by omega))
def P_threads (C : Addr) : List D → Rs → Prop := fun ds r => ∃ ts, ds = [dR C ts] ∧ r = .sh (dT ts)
theorem c_threads (C : Addr) (Dd : Dm K C "threads" "Row.threads" s_Row_threads []) (hC : Cls K C) (hN : NoAttr K C "kept") : M0 Pg w K mg base C "threads" 1 ["self"] (P_threads C) := by
  refine m0_mk (k := 0) Dd sc_Row_threads (fun _ _ _ _ _ _ us hl => match us, hl with | [_], _ => rfl) (by decide) (fun ds r => ?_) (fun f cd A outer s H E g ds r => ?_)
  · rintro ⟨ts, rfl, rfl⟩
    exact ⟨rfl, fun _ z => by cases z⟩
  · rintro ⟨ts, rfl, rfl⟩
    exact ends_rt (s_one (s1_ret (e_fld hC hN (e_var 0) rfl)))
theorem cyc_mem {ts : List Str} (h : 0 < ts.length) (i : Int) : cyc ts i ∈ ts := by
  have b1 := Int.emod_nonneg i (b := (ts.length : Int)) (by omega)
  have b2 := Int.emod_lt_of_pos i (b := (ts.length : Int)) (by omega)
  unfold cyc
  rw [List.getD_eq_getElem?_getD, List.getElem?_eq_getElem (by omega)]
  exact List.getElem_mem _
def P_row_of (C : Addr) : List D → Rs → Prop := fun ds r => ∃ ts, Shs ts ∧ 0 < ts.length ∧ ts.length ≤ 200000 ∧ lr ts ≤ 240 ∧ ds = [dT ts] ∧ r = .ow (oR C (ts.take (lr ts)))
theorem c_row_of (C : Addr) (Dd : Df K mg "row_of_threads" s_row_of_threads []) (G_M : ∃ t, mg "MOST" = some (.int 240 t)) (G_least_round : C0 Pg w K mg base "least_round" 1 ["threads"] P_least_round) (G_merged : C0 Pg w K mg base "merged" 1 ["threads"] P_merged)
    (G_Row : K1 Pg w K mg base "Row" C 6 ["self", "stripes", "manner", "start"] [[], [.str "run", .int 0]] (P_init C)) : C0 Pg w K mg base "row_of_threads" 8 ["threads"] (P_row_of C) := by
  obtain ⟨tM, gM⟩ := G_M
  refine c0_mk (k := 7) Dd sc_row_of_threads (fun _ _ _ _ _ _ us hl => match us, hl with | [_], _ => rfl) (by decide) (fun ds r => ?_) (fun f cd A outer s H E g ds r => ?_)
  · rintro ⟨ts, hs, h0, h1, h2, rfl, rfl⟩
    exact ⟨rfl, fun _ z => by cases z⟩
  · rintro ⟨ts, hs, h0, h1, h2, rfl, rfl⟩
    have hle := lr_le ts
    have hlp := lr_pos h0
    have hsk : Shs (ts.take (lr ts)) := fun t ht => hs t (List.mem_of_mem_take ht)
    have hlk : (ts.take (lr ts)).length = lr ts := by rw [List.length_take]; omega
    have hpr := take_prim h0
    have hok := mrg_ok hsk (by omega) (by omega)
    refine ends_eq (ends_rt (s_cons (s1_set 1 g.nd (e_c0 G_least_round g (a_cons (e_var 0) a_nil) ⟨ts, hs.ok, h1, rfl, rfl⟩)) (s_ifN (t_eq (t_cmp o_gt (e_var 1) (e_globI gM)) (decide_eq_false (by omega)))
      (s_one (s1_ret (e_k1 (dds := [.str "run", .int 0]) [.str "run", .int 0] G_Row g (a_cons (e_c0 G_merged g (a_cons (e_slice l_dT (e_var 0) p_none (p_some (e_var 1))) a_nil) ⟨cutL ts none (some (lr ts : Int)), ?_, ?_, rfl, rfl⟩) a_nil) ⟨mrg (ts.take (lr ts)), .run, 0, hok, ?_, ?_, rfl, ?_, rfl, rfl⟩ (fun S => .cons rfl (.cons rfl .nil)) (by simp))))))) ?_
    · rw [cut_to]; exact hsk.ok
    · rw [cut_to]; omega
    · exact ⟨by decide, by decide⟩
    · show lr (thr (mrg _)) ≤ 240
      rw [(mrg_thr _).1, hpr.2]; omega
    · rw [cut_to]; rfl
    · rw [row_mrg (by omega), hpr.2, List.take_length]
def P_moved (C : Addr) : List D → Rs → Prop := fun ds r => ∃ ts b, Shs ts ∧ Prim ts ∧ ts.length ≤ 240 ∧ Spot b ∧ ds = [dR C ts, .int b] ∧ r = .ow (oR C (movL ts b))
theorem c_moved (C : Addr) (Dd : Dm K C "moved" "Row.moved" s_Row_moved []) (T : Bt mg) (hC : Cls K C) (hN : NoAttr K C "kept") (G_check_spot : C0 Pg w K mg base "check_spot" 3 ["thing"] P_check_spot) (G_thread : M0 Pg w K mg base C "thread" 1 ["self", "spot"] (P_thread C))
    (G_row_of_threads : C0 Pg w K mg base "row_of_threads" 8 ["threads"] (P_row_of C)) : M0 Pg w K mg base C "moved" 9 ["self", "by"] (P_moved C) := by
  refine m0_mk (k := 8) Dd sc_Row_moved (fun _ _ _ _ _ _ us hl => match us, hl with | [_, _], _ => rfl) (by decide) (fun ds r => ?_) (fun f cd A outer s H E g ds r => ?_)
  · rintro ⟨ts, b, hs, hp, hl, hb, rfl, rfl⟩
    exact ⟨rfl, fun _ z => by cases z⟩
  · rintro ⟨ts, b, hs, hp, hl, hb, rfl, rfl⟩
    have hn : (ts.map D.str).length = ts.length := by rw [List.length_map]
    have hz := big2000
    have h0 := hp.1
    have hm := movL_prim hp b
    have hml := movL_len ts b
    refine ends_eq (ends_rt (s_cons (s1_expr (e_c0 G_check_spot g (a_cons (e_var 1) a_nil) ⟨b, hb, rfl, rfl⟩))
      (s_one (s1_ret (e_c0 G_row_of_threads g (a_cons (e_callTy c_tupL T.tuple b_tuple (a_cons (e_fz (e_lc1 2 (fun j => .str (cyc ts ((j : Int) - b))) g (it_range1 T.range (a_cons (e_callB c_lenT T.len b_len (a_cons (e_fld hC hN (e_var 0) rfl) a_nil)) a_nil) (by omega) (by omega)) (by omega) (blkOk_by (N := N_Row_moved) (sc := defScope s_Row_moved) (by decide +kernel)) rfl
        (fun j hj s1 H1 C1 cl fp => e_m0 G_thread hC (Gd.blk g) (e_var 0) (a_cons (e_bin o_subI (e_var 2) (e_var 1)) a_nil) ⟨ts, _, h0, rfl, rfl⟩))) a_nil)) a_nil) ⟨movL ts b, ?_, ?_, ?_, ?_, ?_, rfl⟩))))) ?_
    · intro t ht
      obtain ⟨j, _, rfl⟩ := List.mem_map.mp ht
      exact hs _ (cyc_mem h0 _)
    · omega
    · omega
    · rw [hm.2]; omega
    · show [D.tup ((List.range ((ts.map D.str).length : Int).toNat).map fun (j : Nat) => D.str (cyc ts ((j : Int) - b)))] = [D.tup ((movL ts b).map D.str)]
      unfold movL
      rw [List.map_map, hn]
      rfl
    · rw [hm.2, List.take_length]
end
end Hd

set_option Elab.async false
set_option linter.all false
set_option maxRecDepth 100000
set_option maxHeartbeats 1000000
namespace Hd
open PySem PySem.Spec PyProof.Rows L2 PL
section
variable {Pg : Program} {w : World} {K : PySem.W.Frag} {mg : Str → Option Value} {base : Heap}
/-! ### amounts -/
def P_len (C : Addr) : List D → Rs → Prop := fun ds r => ∃ ts, ds = [dR C ts] ∧ r = .sh (.int (ts.length : Nat))
theorem c_len (C : Addr) (Dd : Dm K C "__len__" "Row.__len__" s_Row___len__ []) (T : Bt mg) (hC : Cls K C) (hN : NoAttr K C "kept") : M0 Pg w K mg base C "__len__" 1 ["self"] (P_len C) := by
  refine m0_mk (k := 0) Dd sc_Row___len__ (fun _ _ _ _ _ _ us hl => match us, hl with | [_], _ => rfl) (by decide) (fun ds r => ?_) (fun f cd A outer s H E g ds r => ?_)
  · rintro ⟨ts, rfl, rfl⟩
    exact ⟨rfl, fun _ z => by cases z⟩
  · rintro ⟨ts, rfl, rfl⟩
    refine ends_eq (ends_rt (s_one (s1_ret (e_callB c_lenT T.len b_len (a_cons (e_fld hC hN (e_var 0) rfl) a_nil))))) ?_
    rw [List.length_map]
end
end Hd

set_option Elab.async false
set_option linter.all false
set_option maxRecDepth 100000
set_option maxHeartbeats 1000000
namespace Hd
open PySem PySem.Spec PyProof.Rows L2 PL
section
variable {Pg : Program} {w : World} {K : PySem.W.Frag} {mg : Str → Option Value} {base : Heap}
/-! ### Row.alike -/
def P_alike (C : Addr) : List D → Rs → Prop := fun ds r => ∃ ts us, Shs ts ∧ Shs us ∧ ds = [dR C ts, dR C us] ∧ r = .sh (.bl (decide (ts = us)))
theorem c_alike (C : Addr) (Dd : Dm K C "alike" "Row.alike" s_Row_alike []) (T : Bt mg) (hC : Cls K C) (hN : NoAttr K C "kept") (hI : Ic K C) (G_Row : mg "Row" = some (.ref C)) : M0 Pg w K mg base C "alike" 1 ["self", "other"] (P_alike C) := by
  refine m0_mk (k := 0) Dd sc_Row_alike (fun _ _ _ _ _ _ us hl => match us, hl with | [_, _], _ => rfl) (by decide) (fun ds r => ?_) (fun f cd A outer s H E g ds r => ?_)
  · rintro ⟨ts, us, h1, h2, rfl, rfl⟩
    exact ⟨rfl, fun _ z => by cases z⟩
  · rintro ⟨ts, us, h1, h2, rfl, rfl⟩
    exact ends_rt (s_one (s1_ret (e_eq (e_and (e_callB (c_isC hI) T.isinstance b_isinstance (a_cons (e_var 1) (a_cons (e_globR G_Row) a_nil))) fun _ => e_one (e_cmp (o_eqT g.rm.units h1.ok h2.ok) (e_fld hC hN (e_var 0) rfl) (e_fld hC hN (e_var 1) rfl))) rfl)))
end
end Hd

set_option Elab.async false
set_option linter.all false
/-! the law's own drawing of shades and stripes, as plain functions -/
namespace PL
open PySem PySem.Spec PyProof.Rows L2
/-! ### the pool -/
def poolStep (s : Int × Int) (t : Nat) : Int × Int :=
  ((s.1 % 999999999989 * 69621 + 40503 * (t : Int) + 271) % 999999999989,
   s.2 * 10 ^ (11 : Int).toNat + (s.1 % 999999999989 * 69621 + 40503 * (t : Int) + 271) % 999999999989 * ((s.1 % 999999999989 * 69621 + 40503 * (t : Int) + 271) % 999999999989 % 65537 + 3) % 99999999977)
def poolIt (s0 : Int × Int) : Nat → Int × Int
  | 0 => s0
  | t + 1 => poolStep (poolIt s0 t) t
abbrev e64 : Int := 10 ^ (64 : Int).toNat
def cellV (ns : List Int) (k : Nat) : Int := (cutL ns (some (k : Int)) (some ((k : Int) + 1))).sum
def poolV (c : Int) (k : Nat) : Int := if c < 0 ∨ 10 ^ (18 : Int).toNat ≤ c then (if c < 0 then -c else c) % (e64 * e64 * e64 * e64 * e64 * e64) else (poolIt (c * 48271 + 977 * (k : Int) * (k : Int) + 13, 0) 27).2
/-! ### shades -/
def sgnI (d : Int) : Str := ⟨#[letters.cps.toList.getD d.toNat 0]⟩
def wIt (n : Int) : Nat → Str × Int
  | 0 => ("", n)
  | k + 1 => ((wIt n k).1 ++ sgnI ((wIt n k).2 % 26), (wIt n k).2 / 26)
def lwords : List Str := ["run", "row", "fold", "left", "warp", "weft", "none", "put"]
def wordA (n : Int) : Str × Int := wIt (n / 3) (1 + n % 3).toNat
def wordOf (n : Int) : Str × Int := if (wordA n).2 % 8 = 7 then (cutS (lwords.getD ((wordA n).2 / 8 % 8).toNat default) none (some 3), (wordA n).2 / 8 / 8) else ((wordA n).1, (wordA n).2 / 8)
abbrev letAt (j : Nat) : Str := sgn letters j
def someOf (w : Str) : List Str := [w] ++ (List.range letters.cps.size).map (fun j => cutS w none (some 1) ++ letAt j) ++ (List.range letters.cps.size).map (fun j => letAt j ++ letAt j)
def pick (found : List Str) (w : Str) : Str := ((someOf w).filter fun x => !decide (x ∈ found)).headD default
def shIt (n : Int) : Nat → List Str × Int
  | 0 => ([], n)
  | k + 1 => ((shIt n k).1 ++ [pick (shIt n k).1 (wordOf (shIt n k).2).1], (wordOf (shIt n k).2).2)
/-! ### facts -/
def okW (lo hi : Nat) (x : Str) : Prop := lo ≤ x.cps.size ∧ x.cps.size ≤ hi ∧ ∀ c ∈ x.cps.toList, c ∈ letters.cps.toList
theorem okW_shade {x : Str} (h : okW 1 3 x) : shadeB x = true := by
  obtain ⟨h1, h2, h3⟩ := h
  show ((decide ((1 : Int) ≤ x.cps.size) && decide ((x.cps.size : Int) ≤ 3)) && (List.range x.cps.size).all fun i => decide (x.cps.getD i 0 ∈ letters.cps.toList)) = true
  rw [decide_eq_true (by omega), decide_eq_true (by omega), Bool.true_and, Bool.true_and, List.all_eq_true]
  intro i hi
  have hi' := List.mem_range.mp hi
  apply decide_eq_true
  apply h3
  rw [Array.getD_eq_getD_getElem?, Array.getElem?_eq_getElem hi']
  exact Array.getElem_mem_toList hi'
theorem shade_okW {x : Str} (h : shadeB x = true) : okW 1 3 x := by
  have hl := shade_len h
  have h1 := (Bool.and_eq_true_iff.mp h).2
  rw [List.all_eq_true] at h1
  refine ⟨hl.1, hl.2, fun c hc => ?_⟩
  obtain ⟨i, hi, rfl⟩ := Array.mem_iff_getElem.mp (Array.mem_toList_iff.mp hc)
  have h2 := of_decide_eq_true (h1 i (List.mem_range.mpr hi))
  rw [Array.getD_eq_getD_getElem?, Array.getElem?_eq_getElem hi] at h2
  exact h2
theorem okW_append {a b c d : Nat} {x y : Str} (h : okW a b x) (g : okW c d y) : okW (a + c) (b + d) (x ++ y) := by
  obtain ⟨h1, h2, h3⟩ := h
  obtain ⟨g1, g2, g3⟩ := g
  have e : (x ++ y).cps = x.cps ++ y.cps := rfl
  refine ⟨?_, ?_, fun c hc => ?_⟩
  · rw [e, Array.size_append]; omega
  · rw [e, Array.size_append]; omega
  · rw [e, Array.toList_append] at hc
    rcases List.mem_append.mp hc with z | z
    · exact h3 c z
    · exact g3 c z
theorem letters_len : letters.cps.toList.length = 26 := by decide +kernel
theorem letters_size : letters.cps.size = 26 := by decide +kernel
theorem sgnI_ok {d : Int} (h0 : 0 ≤ d) (h1 : d < 26) : okW 1 1 (sgnI d) := by
  refine ⟨Nat.le_refl _, Nat.le_refl _, fun c hc => ?_⟩
  have e : c = letters.cps.toList.getD d.toNat 0 := List.mem_singleton.mp hc
  rw [e, List.getD_eq_getElem?_getD, List.getElem?_eq_getElem (by rw [letters_len]; omega)]
  exact List.getElem_mem _
theorem letAt_ok {j : Nat} (h : j < letters.cps.size) : okW 1 1 (letAt j) := by
  refine ⟨Nat.le_refl _, Nat.le_refl _, fun c hc => ?_⟩
  have e : c = letters.cps.getD j 0 := List.mem_singleton.mp hc
  rw [e, Array.getD_eq_getD_getElem?, Array.getElem?_eq_getElem h]
  exact Array.getElem_mem_toList _
theorem wIt_ok (n : Int) : ∀ k, okW k k (wIt n k).1
  | 0 => ⟨Nat.le_refl _, Nat.le_refl _, fun c hc => by cases hc⟩
  | k + 1 => okW_append (wIt_ok n k) (sgnI_ok (Int.emod_nonneg _ (by decide)) (Int.emod_lt_of_pos _ (by decide)))
theorem lwords_ok : ∀ j : _root_.Fin 8, shadeB (cutS (lwords.getD j.val default) none (some 3)) = true ∧ (lwords.getD j.val default).length ≤ 10 := by decide +kernel
theorem lwords_at {d : Int} (h0 : 0 ≤ d) (h1 : d < 8) : shadeB (cutS (lwords.getD d.toNat default) none (some 3)) = true ∧ (lwords.getD d.toNat default).length ≤ 10 := lwords_ok ⟨d.toNat, by omega⟩
theorem wordOf_ok (n : Int) : okW 1 3 (wordOf n).1 := by
  unfold wordOf
  split
  · exact shade_okW (lwords_at (Int.emod_nonneg _ (by decide)) (Int.emod_lt_of_pos _ (by decide))).1
  · have h := wIt_ok (n / 3) (1 + n % 3).toNat
    have a := Int.emod_nonneg n (b := 3) (by decide)
    have b := Int.emod_lt_of_pos n (b := 3) (by decide)
    exact ⟨Nat.le_trans (by omega) h.1, Nat.le_trans h.2.1 (by omega), h.2.2⟩
theorem cut1_ok {w : Str} (h : okW 1 3 w) : okW 1 1 (cutS w none (some 1)) := by
  obtain ⟨h1, h2, h3⟩ := h
  have e : (cutS w none (some 1)).cps.toList = w.cps.toList.take 1 := by
    show ((w.cps.toList.drop (HT.sIx w.length 0 none)).take (HT.sIx w.length w.length (some ((1 : Nat) : Int)) - HT.sIx w.length 0 none)) = _
    rw [HT.sIx_nat, HT.sIx_none, List.drop_zero, Nat.sub_zero]
    rw [show min 1 w.length = 1 from Nat.min_eq_left h1]
  have sz : (cutS w none (some 1)).cps.size = 1 := by
    rw [← Array.length_toList, e, List.length_take, Array.length_toList]; omega
  refine ⟨by omega, by omega, fun c hc => ?_⟩
  rw [e] at hc
  exact h3 c (List.mem_of_mem_take hc)
theorem someOf_ok {w : Str} (h : okW 1 3 w) : ∀ x ∈ someOf w, okW 1 3 x := by
  intro x hx
  unfold someOf at hx
  rcases List.mem_append.mp hx with hx | hx
  · rcases List.mem_append.mp hx with hx | hx
    · rw [List.mem_singleton.mp hx]; exact h
    · obtain ⟨j, hj, rfl⟩ := List.mem_map.mp hx
      have z := okW_append (cut1_ok h) (letAt_ok (List.mem_range.mp hj))
      exact ⟨Nat.le_trans (by decide) z.1, Nat.le_trans z.2.1 (by decide), z.2.2⟩
  · obtain ⟨j, hj, rfl⟩ := List.mem_map.mp hx
    have z := okW_append (letAt_ok (List.mem_range.mp hj)) (letAt_ok (List.mem_range.mp hj))
    exact ⟨Nat.le_trans (by decide) z.1, Nat.le_trans z.2.1 (by decide), z.2.2⟩
theorem nodup_le {α : Type} [DecidableEq α] : ∀ (xs ys : List α), xs.Nodup → (∀ x ∈ xs, x ∈ ys) → xs.length ≤ ys.length
  | [], _, _, _ => Nat.zero_le _
  | x :: r, ys, hn, h => by
    obtain ⟨h1, h2⟩ := List.nodup_cons.mp hn
    have hx := h x (List.mem_cons_self ..)
    have z := nodup_le r (ys.erase x) h2 fun y hy => (List.mem_erase_of_ne (fun e : y = x => h1 (e ▸ hy))).mpr (h y (List.mem_cons_of_mem _ hy))
    rw [List.length_erase_of_mem hx] at z
    have := List.length_pos_of_mem hx
    rw [List.length_cons]; omega
theorem dbl_nodup : ((List.range letters.cps.size).map fun j => letAt j ++ letAt j).Nodup := by decide +kernel
theorem some_ne {found : List Str} (hf : found.length < 26) (w : Str) : ((someOf w).filter fun x => !decide (x ∈ found)) ≠ [] := by
  intro e
  rw [List.filter_eq_nil_iff] at e
  have z := nodup_le _ found dbl_nodup fun x hx => by
    have q := e x (List.mem_append_right _ hx)
    simpa using q
  rw [List.length_map, List.length_range, letters_size] at z
  omega
theorem pick_at {found : List Str} (hf : found.length < 26) (w : Str) : atI ((someOf w).filter fun x => !decide (x ∈ found)) 0 = some (pick found w) := by
  have z := some_ne hf w
  unfold pick
  cases e : (someOf w).filter fun x => !decide (x ∈ found) with
  | nil => exact absurd e z
  | cons x r =>
    show atI (x :: r) 0 = some x
    unfold atI ixN
    rw [if_pos (Int.le_refl 0), List.length_cons, if_pos (by omega)]
    rfl
theorem pick_ok {found : List Str} (hf : found.length < 26) {w : Str} (h : okW 1 3 w) : okW 1 3 (pick found w) := by
  have z := some_ne hf w
  unfold pick
  cases e : (someOf w).filter fun x => !decide (x ∈ found) with
  | nil => exact absurd e z
  | cons x r =>
    have q : x ∈ (someOf w).filter fun x => !decide (x ∈ found) := by rw [e]; exact List.mem_cons_self ..
    exact someOf_ok h x (List.mem_filter.mp q).1
theorem shIt_ok (n : Int) : ∀ k, k ≤ 20 → (shIt n k).1.length = k ∧ ∀ x ∈ (shIt n k).1, okW 1 3 x
  | 0, _ => ⟨rfl, fun x hx => by cases hx⟩
  | k + 1, hk => by
    obtain ⟨h1, h2⟩ := shIt_ok n k (by omega)
    refine ⟨?_, fun x hx => ?_⟩
    · show ((shIt n k).1 ++ [_]).length = _
      rw [List.length_append, h1]; rfl
    · rcases List.mem_append.mp hx with z | z
      · exact h2 x z
      · rw [List.mem_singleton.mp z]
        exact pick_ok (by omega) (wordOf_ok _)
/-! ### stripes -/
def drIt (sh : List Str) (wide n : Int) : Nat → List (Str × Int) × Int
  | 0 => ([], n)
  | k + 1 => ((drIt sh wide n k).1 ++ [(sh.getD ((drIt sh wide n k).2 % (sh.length : Int)).toNat default, 1 + (drIt sh wide n k).2 / (sh.length : Int) % wide)], (drIt sh wide n k).2 / (sh.length : Int) / wide)
theorem drIt_ok {sh : List Str} {wide : Int} (n : Int) (h0 : 0 < sh.length) (hw : 0 < wide) : ∀ k, (drIt sh wide n k).1.length = k ∧ ∀ p ∈ (drIt sh wide n k).1, p.1 ∈ sh ∧ 1 ≤ p.2 ∧ p.2 ≤ wide
  | 0 => ⟨rfl, fun x hx => by cases hx⟩
  | k + 1 => by
    obtain ⟨h1, h2⟩ := drIt_ok n h0 hw k
    refine ⟨?_, fun x hx => ?_⟩
    · show ((drIt sh wide n k).1 ++ [_]).length = _
      rw [List.length_append, h1]; rfl
    · rcases List.mem_append.mp hx with z | z
      · exact h2 x z
      · rw [List.mem_singleton.mp z]
        have a := Int.emod_nonneg (drIt sh wide n k).2 (b := (sh.length : Int)) (by omega)
        have b := Int.emod_lt_of_pos (drIt sh wide n k).2 (b := (sh.length : Int)) (by omega)
        have c := Int.emod_nonneg ((drIt sh wide n k).2 / (sh.length : Int)) (b := wide) (by omega)
        have d := Int.emod_lt_of_pos ((drIt sh wide n k).2 / (sh.length : Int)) (b := wide) (by omega)
        refine ⟨?_, ?_, ?_⟩
        · show sh.getD _ default ∈ sh
          rw [List.getD_eq_getElem?_getD, List.getElem?_eq_getElem (by omega)]
          exact List.getElem_mem _
        · show (1 : Int) ≤ 1 + _
          omega
        · show 1 + _ ≤ wide
          omega
theorem tot_le {ps : List (Str × Int)} {wide : Int} (h : ∀ p ∈ ps, p.2 ≤ wide) : tot ps ≤ (ps.length : Int) * wide := by
  induction ps with
  | nil => rw [show ((([] : List (Str × Int)).length : Nat) : Int) = 0 from rfl, Int.zero_mul]; exact Int.le_refl _
  | cons p r ih =>
    have z := ih fun q hq => h q (List.mem_cons_of_mem _ hq)
    have e : tot (p :: r) = p.2 + tot r := by unfold tot; rw [List.map_cons, List.sum_cons]
    have hp := h p (List.mem_cons_self ..)
    rw [e, List.length_cons, Int.natCast_succ, Int.add_mul, Int.one_mul]
    omega
theorem tot_app (ps qs : List (Str × Int)) : tot (ps ++ qs) = tot ps + tot qs := by unfold tot; rw [List.map_append, List.sum_append]
theorem thr_app (ps qs : List (Str × Int)) : thr (ps ++ qs) = thr ps ++ thr qs := by unfold thr; rw [List.flatMap_append]
/-! ### what is laid -/
structure Laid where
  ps : List (Str × Int)
  m : Mnr
  st : Int
  n : Int
def mnrs : List Mnr := [.run, .pivot, .fold, .left, .right]
def shN (n : Int) : Nat := [1, 2, 2, 3, 4].getD (n % 5).toNat 0
def shs (n : Int) : List Str × Int := shIt (n / 5) (shN n)
def mostOf (b : Bool) : Int := if b then 12 else 4
def wideOf (b : Bool) : Int := if b then 20 else 3
def drawn (sh : List Str) (most wide n : Int) : List (Str × Int) × Int := drIt sh wide (n / most) (1 + n % most).toNat
abbrev e30 : Int := 10 ^ (30 : Int).toNat
def stOf (n : Int) : Int := if n / 30 / 30 / e30 % 4 = 0 then 0 else if n / 30 / 30 / e30 % 4 = 1 then n % 30 else if n / 30 / 30 / e30 % 4 = 2 then 0 - n / 30 % 30 else n / 30 / 30 % e30
def stN (n : Int) : Int := n / 30 / 30 / e30 / 4
end PL

set_option Elab.async false
set_option linter.all false
set_option maxRecDepth 100000
set_option maxHeartbeats 1000000
namespace Hd
open PySem PySem.Spec PyProof.Rows L2 PL
section
variable {Pg : Program} {w : World} {K : PySem.W.Frag} {mg : Str → Option Value} {base : Heap}
/-! ### the law's own helpers -/
def P_take : Ob → List D → Rs → Ob → Prop := fun o ds r o' => ∃ n m : Int, 0 < m ∧ m ≤ 10 ^ 40 ∧ o = .lst [.int n] ∧ ds = [.int m] ∧ r = .sh (.int (n % m)) ∧ o' = .lst [.int (n / m)]
theorem cdivp_small {n m : Int} (h0 : 0 < m) (h1 : m ≤ 10 ^ 40) : CDivP n m := by
  refine ⟨h0, ?_⟩
  show (decide ((if m == 0 then 0 else m.natAbs.log2 / 30 + 1) > 300) && decide ((if n == 0 then 0 else n.natAbs.log2 / 30 + 1) > (if m == 0 then 0 else m.natAbs.log2 / 30 + 1) + 150)) = false
  rw [if_neg (show ¬ (m == 0) = true by simpa using (show m ≠ 0 by omega))]
  have h2 : m.natAbs.log2 < 200 := by
    rw [Nat.log2_lt (by omega)]
    have : (10 : Int) ^ 40 < 2 ^ 200 := by decide +kernel
    have e : ((2 : Nat) ^ 200 : Nat) = ((2 : Int) ^ 200) := by decide +kernel
    omega
  rw [decide_eq_false (by omega)]
  rfl
theorem c_take (Dd : Df K mg "_law_take" s__law_take []) (T : Bt mg) : C1 Pg w K mg base "_law_take" 1 ["_law_pool_here", "_law_many"] P_take := by
  refine c1_mk (k := 0) Dd sc__law_take (fun _ _ _ _ _ _ us hl => match us, hl with | [_, _], _ => rfl) (by decide) (fun o ds r o' => ?_) (fun f cd A outer s H E g o ds r o' => ?_)
  · rintro ⟨n, m, h0, h1, rfl, rfl, rfl, rfl⟩
    exact ⟨rfl, fun _ z => by cases z⟩
  · rintro ⟨n, m, h0, h1, rfl, rfl, rfl, rfl⟩ p
    refine ⟨_, .inl (s_cons (s1_asg (g_tup g.calm (gs_cons (g_setix (n := 0) (s := .pr p (.lst [.int n])) (ix := 0) (j := 0) has_pr e_int rfl) (gs_cons (g_name 2 g.nd) gs_nil))) (e_callB (c_divmod (cdivp_small h0 h1)) T.divmod b_divmod (a_cons (e_ro (e_ix (e_var 0) e_int (i_list (d := .int n) rfl)) trivial) (a_cons (e_var 1) a_nil)))) (s_one (s1_ret (e_var 2)))), rfl⟩
def P_pool : List D → Rs → Prop := fun ds r => ∃ ns k, k < 1000 ∧ ds = [.fls (ns.map D.int), .int (k : Nat)] ∧ r = .ow (.lst [.int (poolV (cellV ns k) k)])
theorem cpow10 {j : Int} (h0 : 0 ≤ j) (h1 : j ≤ 1000) : CPow 10 j := ⟨h0, by omega, by decide⟩
theorem c_pool (Dd : Df K mg "_law_pool" s__law_pool []) (T : Bt mg) : C0 Pg w K mg base "_law_pool" 1 ["_law_script", "_law_k"] P_pool := by
  refine c0_mk (k := 0) Dd sc__law_pool (fun _ _ _ _ _ _ us hl => match us, hl with | [_, _], _ => rfl) (by decide) (fun ds r => ?_) (fun f cd A outer s H E g ds r => ?_)
  · rintro ⟨ns, k, hk, rfl, rfl⟩
    exact ⟨rfl, fun _ z => by cases z⟩
  · rintro ⟨ns, k, hk, rfl, rfl⟩
    have key : ∀ c, c = cellV ns k → D.int ((cutL ns (some (k : Int)) (some ((k : Int) + 1))).sum) = .int c := fun c e => by rw [e]; rfl
    generalize hc : cellV ns k = c at key
    have key := key c rfl
    by_cases h : c < 0 ∨ 10 ^ (18 : Int).toNat ≤ c
    · refine ends_eq (ends_rt (s_cons (s1_set 2 g.nd (e_eq (e_callB (c_sum (ns := cutL ns (some (k : Int)) (some ((k : Int) + 1))) g.calm) T.sum b_sum (a_cons (e_fz (e_eq (e_slice l_fls (e_var 0) (p_some (e_var 1)) (p_some (e_bin o_addI (e_var 1) e_int))) (by rw [cut_map]))) a_nil)) (congrArg Rs.sh key)))
        (s_ifTE (t_eq (t_w (w_or (t_cmp o_lt (e_var 2) e_int) fun h => (w_or1 (t_cmp o_ge (e_var 2) (e_bin (o_pow (cpow10 (by decide) (by decide))) e_int e_int))))) ?_)
          (s_one (s1_ret (e_lst (a_cons (e_bin (o_mod ?_) (e_callB c_abs T.abs b_abs (a_cons (e_var 2) a_nil)) (e_bin (o_mulW ?_) (e_bin (o_mulW ?_) (e_bin (o_mulW ?_) (e_bin (o_mulW ?_) (e_bin (o_mulW ?_) (e_bin (o_pow (cpow10 (by decide) (by decide))) e_int e_int) (e_bin (o_pow (cpow10 (by decide) (by decide))) e_int e_int)) (e_bin (o_pow (cpow10 (by decide) (by decide))) e_int e_int)) (e_bin (o_pow (cpow10 (by decide) (by decide))) e_int e_int)) (e_bin (o_pow (cpow10 (by decide) (by decide))) e_int e_int)) (e_bin (o_pow (cpow10 (by decide) (by decide))) e_int e_int))) a_nil))))))) ?_
      · show (decide (c < 0) || decide (10 ^ (18 : Int).toNat ≤ c)) = true
        rcases h with h | h
        · rw [decide_eq_true h]; rfl
        · rw [decide_eq_true h, Bool.or_true]
      · decide +kernel
      · unfold CMulW; decide +kernel
      · unfold CMulW; decide +kernel
      · unfold CMulW; decide +kernel
      · unfold CMulW; decide +kernel
      · unfold CMulW; decide +kernel
      · unfold poolV
        rw [if_pos h]
    · have h1 : ¬ c < 0 := fun z => h (.inl z)
      have h2 : ¬ 10 ^ (18 : Int).toNat ≤ c := fun z => h (.inr z)
      refine ends_eq (ends_rt (s_cons (s1_set 2 g.nd (e_eq (e_callB (c_sum (ns := cutL ns (some (k : Int)) (some ((k : Int) + 1))) g.calm) T.sum b_sum (a_cons (e_fz (e_eq (e_slice l_fls (e_var 0) (p_some (e_var 1)) (p_some (e_bin o_addI (e_var 1) e_int))) (by rw [cut_map]))) a_nil)) (congrArg Rs.sh key)))
        (s_ifN (t_eq (t_w (w_or (t_cmp o_lt (e_var 2) e_int) fun h => (w_or1 (t_cmp o_ge (e_var 2) (e_bin (o_pow (cpow10 (by decide) (by decide))) e_int e_int))))) ?_)
        (s_cons (s1_set 3 g.nd (e_bin o_addI (e_bin o_addI (e_bin (o_mulI (.inr (by decide))) (e_var 2) e_int) (e_bin (o_mulI (i := 977 * (k : Int)) (j := (k : Int)) (.inr (by omega))) (e_bin (o_mulI (.inl (by decide))) e_int (e_var 1)) (e_var 1))) e_int))
        (s_cons (s1_set 4 g.nd e_int)
        (s_cons (s1_for g (it_range1 T.range (a_cons e_int a_nil) (by decide) (by decide)) (fun j => [.sh (.fls (ns.map D.int)), .sh (.int (k : Nat)), .sh (.int c), .sh (.int (poolIt (c * 48271 + 977 * (k : Int) * (k : Int) + 13, 0) j).1), .sh (.int (poolIt (c * 48271 + 977 * (k : Int) * (k : Int) + 13, 0) j).2), .un])
            (fun j => [.sh (.fls (ns.map D.int)), .sh (.int (k : Nat)), .sh (.int c), .sh (.int (poolIt (c * 48271 + 977 * (k : Int) * (k : Int) + 13, 0) j).1), .sh (.int (poolIt (c * 48271 + 977 * (k : Int) * (k : Int) + 13, 0) j).2), .sh (.int (j : Nat))]) .refl (fun j hj => g_name 5 g.nd) (fun j hj => .inl ?_))
        (s_one (s1_ret (e_lst (a_cons (e_var 4) a_nil)))))))))) ?_
      · show (decide (c < 0) || decide (10 ^ (18 : Int).toNat ≤ c)) = false
        rw [decide_eq_false h1, decide_eq_false h2]; rfl
      · have e : poolIt (c * 48271 + 977 * (k : Int) * (k : Int) + 13, 0) (j + 1) = poolStep (poolIt (c * 48271 + 977 * (k : Int) * (k : Int) + 13, 0) j) j := rfl
        rw [e]
        generalize poolIt (c * 48271 + 977 * (k : Int) * (k : Int) + 13, 0) j = q
        have h65 := Int.emod_nonneg ((q.1 % 999999999989 * 69621 + 40503 * (j : Int) + 271) % 999999999989) (b := 65537) (by decide)
        have h66 := Int.emod_lt_of_pos ((q.1 % 999999999989 * 69621 + 40503 * (j : Int) + 271) % 999999999989) (b := 65537) (by decide)
        refine s_wk (s_cons (s1_set 3 g.nd (e_bin (o_mod (by decide)) (e_bin o_addI (e_bin o_addI (e_bin (o_mulI (.inr (by decide))) (e_bin (o_mod (by decide)) (e_var 3) e_int) e_int) (e_bin (o_mulI (.inl (by decide))) e_int (e_var 5))) e_int) e_int))
          (s_one (s1_set 4 g.nd (e_bin o_addI (e_bin (o_mulI (.inr (by decide))) (e_var 4) (e_bin (o_pow (cpow10 (by decide) (by decide))) e_int e_int)) (e_bin (o_mod (by decide)) (e_bin (o_mulI (i := (q.1 % 999999999989 * 69621 + 40503 * (j : Int) + 271) % 999999999989) (j := (q.1 % 999999999989 * 69621 + 40503 * (j : Int) + 271) % 999999999989 % 65537 + 3) (.inr (by omega))) (e_var 3) (e_bin o_addI (e_bin (o_mod (by decide)) (e_var 3) e_int) e_int)) e_int))))) ?_
        exact Wk.cv (.keep (.keep (.keep (.keep (.keep (.drop .nil))))))
      · unfold poolV
        rw [if_neg h]
        rfl
end
end Hd

set_option Elab.async false
set_option linter.all false
set_option maxRecDepth 100000
set_option maxHeartbeats 1000000
namespace Hd
open PySem PySem.Spec PyProof.Rows L2 PL
section
variable {Pg : Program} {w : World} {K : PySem.W.Frag} {mg : Str → Option Value} {base : Heap}
theorem took_filter (p : Str → Bool) (xs : List Str) : took (fun j => p (xs.getD j default)) (itd (xs.map D.str)) (xs.map D.str).length = (xs.filter p).map D.str := by
  have e : xs = (List.range xs.length).map fun j => xs.getD j default := by
    refine ext_getD (by rw [List.length_map, List.length_range]) fun j hj => ?_
    rw [map_getD hj]
  unfold took
  conv => rhs; rw [e]
  rw [List.length_map, List.filter_map, List.map_map]
  apply List.map_congr_left
  intro j hj
  have hj' := List.mem_range.mp (List.mem_filter.mp hj).1
  rw [itd_map D.str xs j hj', Function.comp_apply, List.getD_eq_getElem?_getD, List.getElem?_eq_getElem hj']
  rfl
def P_shades : Ob → List D → Rs → Ob → Prop := fun o ds r o' => ∃ n k, k ≤ 20 ∧ o = .lst [.int n] ∧ ds = [.int (k : Nat)] ∧ r = .sh (dL (shIt n k).1) ∧ o' = .lst [.int (shIt n k).2]
theorem atI_sgn {d : Int} (h0 : 0 ≤ d) (h1 : d < 26) : atI letters.cps.toList d = some (letters.cps.toList.getD d.toNat 0) := atI_ok h0 (by rw [letters_len]; exact h1)
theorem small_str {x : Str} {lo hi : Nat} (h : okW lo hi x) (hh : hi ≤ 100) : x.length ≤ 100 := Nat.le_trans h.2.1 hh
theorem line100 : (200 : Nat) < sizeLine := by decide
theorem someOf_len (w : Str) : (someOf w).length ≤ 100 := by
  unfold someOf
  rw [List.length_append, List.length_append, List.length_map, List.length_map, List.length_range, letters_size]
  show 1 + 26 + 26 ≤ 100
  decide
theorem c_shades (Dd : Df K mg "_law_some_shades" s__law_some_shades []) (T : Bt mg) (G_take : C1 Pg w K mg base "_law_take" 1 ["_law_pool_here", "_law_many"] P_take) : C1 Pg w K mg base "_law_some_shades" 2 ["_law_pool_here", "_law_many"] P_shades := by
  refine c1_mk (k := 1) Dd sc__law_some_shades (fun _ _ _ _ _ _ us hl => match us, hl with | [_, _], _ => rfl) (by decide) (fun o ds r o' => ?_) (fun f cd A outer s H E g o ds r o' => ?_)
  · rintro ⟨n, k, hk, rfl, rfl, rfl, rfl⟩
    exact ⟨rfl, fun _ z => by cases z⟩
  · rintro ⟨n, k, hk, rfl, rfl, rfl, rfl⟩ p
    have hz := line100
    refine ⟨_, .inl (s_cons (s1_set 2 g.nd (e_fz (e_lst (a_cons e_str (a_cons e_str (a_cons e_str (a_cons e_str (a_cons e_str (a_cons e_str (a_cons e_str (a_cons e_str a_nil))))))))))) (s_cons (s1_set 3 g.nd (e_lst a_nil))
      (s_cons (s1_for g (it_range1 (j := (k : Int)) T.range (a_cons (e_var 1) a_nil) (by omega) (by omega)) (fun j => [.pr p (.lst [.int (shIt n j).2]), .sh (.int (k : Nat)), .sh (dL lwords), .ow (.lst ((shIt n j).1.map .str)), .un, .un, .un, .un, .un, .un, .un, .un])
        (fun j => [.pr p (.lst [.int (shIt n j).2]), .sh (.int (k : Nat)), .sh (dL lwords), .ow (.lst ((shIt n j).1.map .str)), .sh (.int (j : Nat)), .un, .un, .un, .un, .un, .un, .un]) .refl (fun j hj => g_name 4 g.nd) (fun j hj => .inl ?_))
      (s_one (s1_retO 3 (ob := .lst ((shIt n k).1.map .str)) rfl))))), rfl⟩
    have hj' : j < 20 := by omega
    obtain ⟨hlen, hfs⟩ := shIt_ok n j (by omega)
    have e : shIt n (j + 1) = ((shIt n j).1 ++ [pick (shIt n j).1 (wordOf (shIt n j).2).1], (wordOf (shIt n j).2).2) := rfl
    rw [e]
    generalize (shIt n j).1 = fs at hlen hfs
    generalize (shIt n j).2 = q
    have hok := wordOf_ok q
    have hwa : wordA q = wIt (q / 3) (1 + q % 3).toNat := rfl
    have b3 := Int.emod_nonneg q (b := 3) (by decide)
    have b4 := Int.emod_lt_of_pos q (b := 3) (by decide)
    refine s_cons (s1_asg (g_tup g.calm (gs_cons (g_name 5 g.nd) (gs_cons (g_name 6 g.nd) gs_nil))) (e_tup (a_cons (e_bin o_addI e_int (e_c1 0 G_take g has_pr (a_cons e_int a_nil) has_pr ⟨q, 3, by decide, by decide, rfl, rfl, rfl, rfl⟩)) (a_cons e_str a_nil)))) ?_
    refine s_cons (s1_for g (it_range1 (j := 1 + q % 3) T.range (a_cons (e_var 5) a_nil) (by omega) (by omega)) (fun i => [.pr p (.lst [.int (wIt (q / 3) i).2]), .sh (.int (k : Nat)), .sh (dL lwords), .ow (.lst (fs.map .str)), .sh (.int (j : Nat)), .sh (.int (1 + q % 3)), .sh (.str (wIt (q / 3) i).1), .un, .un, .un, .un, .un])
        (fun i => [.pr p (.lst [.int (wIt (q / 3) i).2]), .sh (.int (k : Nat)), .sh (dL lwords), .ow (.lst (fs.map .str)), .sh (.int (j : Nat)), .sh (.int (1 + q % 3)), .sh (.str (wIt (q / 3) i).1), .sh (.int (i : Nat)), .un, .un, .un, .un]) .refl (fun i hi => g_name 7 g.nd) (fun i hi => .inl ?_)) ?_
    · have ei : wIt (q / 3) (i + 1) = ((wIt (q / 3) i).1 ++ sgnI ((wIt (q / 3) i).2 % 26), (wIt (q / 3) i).2 / 26) := rfl
      rw [ei]
      have ho := wIt_ok (q / 3) i
      generalize (wIt (q / 3) i).1 = x at ho
      generalize (wIt (q / 3) i).2 = y
      have b1 := Int.emod_nonneg y (b := 26) (by decide)
      have b2 := Int.emod_lt_of_pos y (b := 26) (by decide)
      have l1 : x.length ≤ 100 := small_str ho (by omega)
      refine s_wk (s_one (s1_set 6 g.nd (e_bin (o_addS (a := x) (b := sgnI (y % 26)) (by show x.length + 1 ≤ _; omega)) (e_var 6) (e_ix e_str (e_c1 0 G_take g has_pr (a_cons e_int a_nil) has_pr ⟨y, 26, by decide, by decide, rfl, rfl, rfl, rfl⟩) (i_str (a := letters) (by show letters.cps.size ≤ _; rw [letters_size]; omega) (atI_sgn b1 b2)))))) ?_
      exact Wk.cv (.keep (.keep (.keep (.keep (.keep (.keep (.keep (.drop (.keep (.keep (.keep (.keep .nil))))))))))))
    · rw [← hwa]
      have hw3 : okW 1 3 (wordA q).1 := by
        have h := wIt_ok (q / 3) (1 + q % 3).toNat
        exact ⟨Nat.le_trans (by omega) h.1, Nat.le_trans h.2.1 (by omega), h.2.2⟩
      refine s_cons (Γ1 := [.pr p (.lst [.int (wordOf q).2]), .sh (.int (k : Nat)), .sh (dL lwords), .ow (.lst (fs.map .str)), .sh (.int (j : Nat)), .sh (.int (1 + q % 3)), .sh (.str (wordOf q).1), .un, .un, .un, .un, .un]) ?_ ?_
      · have c1 := Int.emod_nonneg ((wordA q).2 / 8) (b := 8) (by decide)
        have c2 := Int.emod_lt_of_pos ((wordA q).2 / 8) (b := 8) (by decide)
        by_cases h7 : (wordA q).2 % 8 = 7
        · have e7 : wordOf q = (cutS (lwords.getD ((wordA q).2 / 8 % 8).toNat default) none (some 3), (wordA q).2 / 8 / 8) := by unfold wordOf; rw [if_pos h7]
          rw [e7]
          exact s1_ifT (t_eq (t_cmp o_eqI (e_c1 0 G_take g has_pr (a_cons e_int a_nil) has_pr ⟨_, 8, by decide, by decide, rfl, rfl, rfl, rfl⟩) e_int) (decide_eq_true h7)) (s_one (s1_set 6 g.nd (e_slice (l_str (Nat.le_trans (lwords_at c1 c2).2 (by omega))) (e_ix (e_var 2) (e_c1 0 G_take g has_pr (a_cons e_int a_nil) has_pr ⟨_, 8, by decide, by decide, rfl, rfl, rfl, rfl⟩) (i_dL (atI_ok (d := default) c1 (by exact c2)))) p_none (p_some e_int))))
        · have e7 : wordOf q = ((wordA q).1, (wordA q).2 / 8) := by unfold wordOf; rw [if_neg h7]
          rw [e7]
          exact s1_ifF (t_eq (t_cmp o_eqI (e_c1 0 G_take g has_pr (a_cons e_int a_nil) has_pr ⟨_, 8, by decide, by decide, rfl, rfl, rfl, rfl⟩) e_int) (decide_eq_false h7)) s_nil
      · generalize (wordOf q).1 = v at hok
        generalize (wordOf q).2 = u
        have lv := small_str hok (by decide)
        have lc : (cutS v none (some 1)).length ≤ 100 := small_str (cut1_ok hok) (by decide)
        have ls := letters_size
        have hsl := someOf_len v
        refine s_wk (s_cons (s1_set 8 g.nd e_str) (s_cons (s1_set 9 (r := .sh (dL (someOf v))) g.nd (e_fz (e_bin (o_dLcat (xs := [v] ++ (List.range letters.cps.size).map (fun j => cutS v none (some 1) ++ letAt j)) (ys := (List.range letters.cps.size).map fun j => letAt j ++ letAt j) ?_)
          (e_fz (e_bin (o_dLcat (xs := [v]) (ys := (List.range letters.cps.size).map (fun j => cutS v none (some 1) ++ letAt j)) ?_) (e_fz (e_lst (a_cons (e_var 6) a_nil)))
            (e_fz (e_eq (e_lc1 10 (fun j => .str (cutS v none (some 1) ++ letAt j)) g (it_str (x := letters) (e_var 8)) (by omega) (blkOk_by (N := N__law_some_shades) (sc := defScope s__law_some_shades) (by decide +kernel)) rfl
              (fun j hj s1 H1 C1 cl fp => e_bin (o_addS (by show _ + 1 ≤ _; omega)) (e_slice (l_str (by omega)) (e_var 6) p_none (p_some e_int)) (e_var 10))) (by rw [List.map_map]; rfl)))))
            (e_fz (e_eq (e_lc1 10 (fun j => .str (letAt j ++ letAt j)) g (it_str (x := letters) (e_var 8)) (by omega) (blkOk_by (N := N__law_some_shades) (sc := defScope s__law_some_shades) (by decide +kernel)) rfl
              (fun j hj s1 H1 C1 cl fp => e_bin (o_addS (by show 1 + 1 ≤ _; omega)) (e_var 10) (e_var 10))) (by rw [List.map_map]; rfl))))))
          (s_one (s1_expr (e_append (i := 3) (e_ix (e_fz (e_eq (e_lc g (lcIf (t := fun j => !decide ((someOf v).getD j default ∈ fs)) (f := itd ((someOf v).map D.str)) 11 g (it_list (ds := (someOf v).map D.str) (e_var 9)) ?_ (blkOk_by (N := N__law_some_shades) (sc := defScope s__law_some_shades) (by decide +kernel)) rfl (fun j hj s1 H1 C1 cl fp => ?_) (fun j hj _ s1 H1 C1 cl fp => e_var 11))) (congrArg (fun l => Rs.ow (Ob.lst l)) (took_filter (fun x => !decide (x ∈ fs)) (someOf v))))) e_int (i_dL (pick_at (by omega) v))) ⟨_, _, has_ow, _, rfl⟩ has_ow ?_))))) ?_
        · rw [List.length_append, List.length_map, List.length_map, List.length_range, ls]
          show 1 + 26 + 26 ≤ _
          omega
        · rw [List.length_map, List.length_range, ls]
          show 1 + 26 ≤ _
          omega
        · rw [List.length_map]; omega
        · have hj2 : j < (someOf v).length := by simpa using hj
          rw [itd_map D.str (someOf v) j hj2, List.getD_eq_getElem?_getD, List.getElem?_eq_getElem hj2]
          exact t_ro (t_cmp o_ninL (e_var 11) (e_var 3))
        · rw [List.length_map]; omega
        · show Cv K [.pr p (.lst [.int u]), .sh (.int (k : Nat)), .sh (dL lwords), .ow (.lst (fs.map .str ++ [.str (pick fs v)])), .sh (.int (j : Nat)), .sh (.int (1 + q % 3)), .sh (.str v), .un, .sh (.str letters), .sh (dL (someOf v)), .un, .un] _
          rw [List.map_append]
          exact Wk.cv (.keep (.keep (.keep (.keep (.drop (.drop (.drop (.keep (.drop (.drop (.keep (.keep .nil))))))))))))
end
end Hd

set_option Elab.async false
set_option linter.all false
namespace PL
open PySem PySem.Spec PyProof.Rows L2
def lawW (m : Mnr) (ts : List Str) : List Str := if ts.length = 1 then ts else layW m ts
/-! ### the law's least round -/
theorem flat_getD (xs : List Str) : ∀ (q j : Nat), j < q * xs.length → (List.replicate q xs).flatten.getD j default = xs.getD (j % xs.length) default
  | 0, j, h => by rw [Nat.zero_mul] at h; exact absurd h (Nat.not_lt_zero _)
  | q + 1, j, h => by
    rw [List.replicate_succ, List.flatten_cons, List.getD_eq_getElem?_getD]
    by_cases hj : j < xs.length
    · rw [List.getElem?_append_left hj, Nat.mod_eq_of_lt hj, ← List.getD_eq_getElem?_getD]
    · rw [List.getElem?_append_right (by omega), ← List.getD_eq_getElem?_getD, flat_getD xs q (j - xs.length) (by rw [Nat.succ_mul] at h; omega), ← Nat.mod_eq_sub_mod (by omega : j ≥ xs.length)]
theorem flat_len (xs : List Str) (q : Nat) : (List.replicate q xs).flatten.length = q * xs.length := by rw [lm_len_rep_flat]
theorem rep_per {ts : List Str} {k : Nat} (hk : 0 < k) (hkn : k ≤ ts.length) (hd : ts.length % k = 0) : (List.replicate (ts.length / k) (ts.take k)).flatten = ts ↔ ts.drop k = ts.take (ts.length - k) := by
  have hl : (ts.take k).length = k := by rw [List.length_take]; omega
  have hq : ts.length / k * k = ts.length := Nat.div_mul_cancel (Nat.dvd_of_mod_eq_zero hd)
  constructor
  · intro h
    refine ext_getD (by rw [List.length_drop, List.length_take]; omega) fun j hj => ?_
    rw [List.length_drop] at hj
    have root : ∀ i, i < ts.length → ts.getD i default = ts.getD (i % k) default := fun i hi => by
      have z := congrArg (fun l => List.getD l i default) h
      have w : (List.replicate (ts.length / k) (ts.take k)).flatten.getD i default = ts.getD i default := z
      rw [← w, flat_getD _ _ _ (by rw [hl]; omega), hl, getD_take (Nat.mod_lt _ hk)]
    rw [getD_drop, getD_take (by omega), root _ (by omega), root j (by omega), Nat.add_mod_left]
  · intro h
    have key : ∀ j, j + k < ts.length → ts.getD (j + k) default = ts.getD j default := fun j hj => by
      have z := congrArg (fun l => List.getD l j default) h
      have w : (ts.drop k).getD j default = (ts.take (ts.length - k)).getD j default := z
      rw [getD_drop, getD_take (by omega)] at w
      rw [Nat.add_comm]; exact w
    refine ext_getD (by rw [flat_len, hl]; exact hq) fun j hj => ?_
    rw [flat_len, hl, hq] at hj
    rw [flat_getD _ _ _ (by rw [hl]; omega), hl, getD_take (Nat.mod_lt _ hk), ← per_root hk key j hj]
/-! ### what is due -/
theorem lawW_len (m : Mnr) {ts : List Str} (h : 0 < ts.length) : 0 < (lawW m ts).length := by
  unfold lawW
  split
  · exact h
  · exact layW_pos m h
theorem lawW_le (m : Mnr) (ts : List Str) : (lawW m ts).length ≤ 2 * ts.length := by
  unfold lawW
  split
  · omega
  · exact layW_len m ts
theorem lawW_shs (m : Mnr) {ts : List Str} (h : Shs ts) : Shs (lawW m ts) := by
  unfold lawW
  split
  · exact h
  · exact layW_shs m h
def dueL (wd : List Str) (st : Int) : List Str := (List.range (lr wd)).map fun (j : Nat) => cyc wd ((j : Int) + st)
theorem dueL_len (wd : List Str) (st : Int) : (dueL wd st).length = lr wd := by unfold dueL; rw [List.length_map, List.length_range]
theorem due_spin {wd : List Str} (h : 0 < wd.length) (st : Int) : dueL wd st = spin wd (lr wd) st := by
  have hp := lr_pos h
  refine ext_getD (by rw [dueL_len, spin_len]) fun j hj => ?_
  rw [dueL_len] at hj
  have e : (dueL wd st).getD j default = cyc wd ((j : Int) + st) := by unfold dueL; rw [map_getD hj]
  rw [e, ← cyc_spin hp (lr_le wd) (lr_spec h).2.1, cyc_nat (by rw [spin_len]; exact hj)]
theorem lr_one (t : Str) : lr [t] = 1 := rfl
theorem lr_two (t : Str) : lr [t, t] = 1 := by
  unfold lr
  have : (List.range ([t, t].length - 1)).find? (fun i => perAt [t, t] (i + 1)) = some 0 := find_first (by show (0 : Nat) < 1; omega) (by unfold perAt; simp) (fun j hj => absurd hj (Nat.not_lt_zero _))
  rw [this]; rfl
theorem due_row (m : Mnr) {ts : List Str} (h : 0 < ts.length) (st : Int) : dueL (lawW m ts) st = spin (layW m ts) (lr (layW m ts)) st := by
  by_cases h1 : ts.length = 1
  · obtain ⟨t, rfl⟩ : ∃ t, ts = [t] := List.length_eq_one_iff.mp h1
    have e : lawW m [t] = [t] := rfl
    rw [e]
    have one : dueL [t] st = [t] := by
      refine ext_getD (by rw [dueL_len]; rfl) fun j hj => ?_
      have hj' : j < 1 := by rw [dueL_len] at hj; exact hj
      have e1 : (dueL [t] st).getD j default = cyc [t] ((j : Int) + st) := by unfold dueL; rw [map_getD (show j < lr [t] from hj')]
      rw [e1]
      unfold cyc
      rw [show ((j : Int) + st) % (([t].length : Nat) : Int) = 0 from Int.emod_one _, show j = 0 by omega]
      rfl
    have hs : ∀ wd : List Str, lr wd = 1 → wd.getD 0 default = t → spin wd (lr wd) st = [t] := fun wd hl hw => by
      rw [hl]
      refine ext_getD (by rw [spin_len]; rfl) fun j hj => ?_
      rw [spin_len] at hj
      rw [spin_getD hj, show ((j : Int) + st) % ((1 : Nat) : Int) = 0 from Int.emod_one _, show j = 0 by omega]
      exact hw
    rw [one]
    cases m with
    | run => exact (hs [t] rfl rfl).symm
    | pivot => exact (hs [t] rfl rfl).symm
    | fold => exact (hs [t, t] (lr_two t) rfl).symm
    | left => exact (hs [t] rfl rfl).symm
    | right => exact (hs [t] rfl rfl).symm
  · have e : lawW m ts = layW m ts := by unfold lawW; rw [if_neg h1]
    rw [e]
    exact due_spin (layW_pos m h) st
/-! ### what is laid -/
def laidOf (b : Bool) (n : Int) : Laid :=
  let sh := shs n
  let dr := drawn sh.1 (mostOf b) (wideOf b) sh.2
  let n2 := dr.2 / 5
  if 120 < (thr dr.1).length then ⟨dr.1, .run, stOf n2, stN n2⟩
  else if n2 % 4 = 1 then ⟨dr.1 ++ dr.1, .run, stOf (n2 / 4), stN (n2 / 4)⟩
  else ⟨dr.1, mnrs.getD (dr.2 % 5).toNat .run, stOf (n2 / 4), stN (n2 / 4)⟩
theorem shN_le {n : Int} : shN n ≤ 4 ∧ 0 < shN n := by
  unfold shN
  have a := Int.emod_nonneg n (b := 5) (by decide)
  have b := Int.emod_lt_of_pos n (b := 5) (by decide)
  have h : ∀ j : _root_.Fin 5, ([1, 2, 2, 3, 4] : List Nat).getD j.val 0 ≤ 4 ∧ 0 < ([1, 2, 2, 3, 4] : List Nat).getD j.val 0 := by decide
  exact h ⟨(n % 5).toNat, by omega⟩
theorem shs_ok (n : Int) : 0 < (shs n).1.length ∧ (shs n).1.length ≤ 4 ∧ ∀ x ∈ (shs n).1, okW 1 3 x := by
  obtain ⟨h1, h2⟩ := shIt_ok (n / 5) (shN n) (Nat.le_trans shN_le.1 (by decide))
  have h3 := shN_le (n := n)
  unfold shs
  exact ⟨by omega, by omega, h2⟩
theorem drawn_ok {sh : List Str} {most wide : Int} (n : Int) (h0 : 0 < sh.length) (hm : 0 < most) (hw : 0 < wide) (hs : ∀ x ∈ sh, okW 1 3 x) (hb : most * wide ≤ 240) : OkSt (drawn sh most wide n).1 := by
  have a := Int.emod_nonneg n (b := most) (by omega)
  have b := Int.emod_lt_of_pos n (b := most) (by omega)
  obtain ⟨h1, h2⟩ := drIt_ok (n / most) h0 hw (1 + n % most).toNat
  unfold drawn
  refine ⟨fun e => ?_, fun p hp => ⟨okW_shade (hs _ (h2 p hp).1), by have := (h2 p hp).2.1; omega⟩, ?_⟩
  · rw [e] at h1
    have : 0 = (1 + n % most).toNat := h1
    omega
  · refine Int.le_trans (tot_le fun p hp => (h2 p hp).2.2) (Int.le_trans ?_ hb)
    rw [h1]
    exact Int.mul_le_mul_of_nonneg_right (by omega) (by omega)
theorem mw_ok (b : Bool) : 0 < mostOf b ∧ 0 < wideOf b ∧ mostOf b * wideOf b ≤ 240 ∧ mostOf b ≤ 1000 ∧ wideOf b ≤ 1000 := by cases b <;> decide
theorem stOf_ok (n : Int) : -e30 ≤ stOf n ∧ stOf n ≤ e30 := by
  have h30 : (30 : Int) ≤ e30 := by decide +kernel
  have h0 : (0 : Int) < e30 := by decide +kernel
  have a := Int.emod_nonneg n (b := 30) (by decide)
  have b := Int.emod_lt_of_pos n (b := 30) (by decide)
  have c := Int.emod_nonneg (n / 30) (b := 30) (by decide)
  have d := Int.emod_lt_of_pos (n / 30) (b := 30) (by decide)
  have e := Int.emod_nonneg (n / 30 / 30) (b := e30) (by omega)
  have f := Int.emod_lt_of_pos (n / 30 / 30) (b := e30) (by omega)
  unfold stOf
  generalize e30 = z at *
  split
  · omega
  · split
    · omega
    · split <;> omega
structure LaidOk (L : Laid) : Prop where
  ps : OkSt L.ps
  st : -e30 ≤ L.st ∧ L.st ≤ e30
  le : (layW L.m (thr L.ps)).length ≤ 240
theorem dr_ok (b : Bool) (n : Int) : OkSt (drawn (shs n).1 (mostOf b) (wideOf b) (shs n).2).1 := drawn_ok (shs n).2 (shs_ok n).1 (mw_ok b).1 (mw_ok b).2.1 (shs_ok n).2.2 (mw_ok b).2.2.1
theorem thr_le {ps : List (Str × Int)} (h : OkSt ps) : (thr ps).length ≤ 240 := by
  have h1 := thr_len fun p hp => (h.ok p hp).2
  have h2 := h.le
  omega
theorem laid_ok (b : Bool) (n : Int) : LaidOk (laidOf b n) := by
  have hd := dr_ok b n
  unfold laidOf
  simp only
  generalize drawn (shs n).1 (mostOf b) (wideOf b) (shs n).2 = dr at hd
  split
  · exact ⟨hd, stOf_ok _, thr_le hd⟩
  · rename_i h120
    split
    · have ht := thr_len fun p hp => (hd.ok p hp).2
      refine ⟨⟨fun e => hd.ne (List.append_eq_nil_iff.mp e).1, fun p hp => ?_, ?_⟩, stOf_ok _, ?_⟩
      · rcases List.mem_append.mp hp with z | z <;> exact hd.ok p z
      · show tot (dr.1 ++ dr.1) ≤ 240
        rw [tot_app]; omega
      · show (thr (dr.1 ++ dr.1)).length ≤ 240
        rw [thr_app, List.length_append]; omega
    · refine ⟨hd, stOf_ok _, Nat.le_trans (layW_len _ _) ?_⟩
      show 2 * (thr dr.1).length ≤ 240
      omega
end PL

set_option Elab.async false
set_option linter.all false
set_option maxRecDepth 100000
set_option maxHeartbeats 1000000
namespace Hd
open PySem PySem.Spec PyProof.Rows L2 PL
section
variable {Pg : Program} {w : World} {K : PySem.W.Frag} {mg : Str → Option Value} {base : Heap}
def P_drawn : Ob → List D → Rs → Ob → Prop := fun o ds r o' => ∃ n sh most wide, 0 < sh.length ∧ sh.length ≤ 100 ∧ 0 < most ∧ most ≤ 1000 ∧ 0 < wide ∧ wide ≤ 1000 ∧ o = .lst [.int n] ∧ ds = [dL sh, .int most, .int wide] ∧ r = .sh (dS (drawn sh most wide n).1) ∧ o' = .lst [.int (drawn sh most wide n).2]
theorem big1010 : (1010 : Nat) < sizeLine := by decide
theorem le1000 {m : Int} (h : m ≤ 1000) : m ≤ 10 ^ 40 := Int.le_trans h (by decide +kernel)
theorem c_drawn (Dd : Df K mg "_law_drawn_stripes" s__law_drawn_stripes []) (T : Bt mg) (G_take : C1 Pg w K mg base "_law_take" 1 ["_law_pool_here", "_law_many"] P_take) : C1 Pg w K mg base "_law_drawn_stripes" 2 ["_law_pool_here", "_law_shades", "_law_most", "_law_wide"] P_drawn := by
  refine c1_mk (k := 1) Dd sc__law_drawn_stripes (fun _ _ _ _ _ _ us hl => match us, hl with | [_, _, _, _], _ => rfl) (by decide) (fun o ds r o' => ?_) (fun f cd A outer s H E g o ds r o' => ?_)
  · rintro ⟨n, sh, most, wide, h0, h1, h2, h3, h4, h5, rfl, rfl, rfl, rfl⟩
    exact ⟨rfl, fun _ z => by cases z⟩
  · rintro ⟨n, sh, most, wide, h0, h1, h2, h3, h4, h5, rfl, rfl, rfl, rfl⟩ p
    have b1 := Int.emod_nonneg n (b := most) (by omega)
    have b2 := Int.emod_lt_of_pos n (b := most) (by omega)
    have hz := big1010
    have hm := le1000 h3
    have hw := le1000 h5
    have hs := le1000 (m := (sh.length : Int)) (by omega)
    have hsl : (((sh.map D.str).length : Nat) : Int) = (sh.length : Int) := by rw [List.length_map]
    unfold drawn
    refine ⟨_, .inl (s_cons (s1_set 4 g.nd (e_lst a_nil)) (s_cons (s1_for g (it_range1 (j := 1 + n % most) T.range (a_cons (e_bin o_addI e_int (e_c1 0 G_take g has_pr (a_cons (e_var 2) a_nil) has_pr ⟨n, most, h2, hm, rfl, rfl, rfl, rfl⟩)) a_nil) (by omega) (by omega))
        (fun j => [.pr p (.lst [.int (drIt sh wide (n / most) j).2]), .sh (dL sh), .sh (.int most), .sh (.int wide), .ow (.lst ((drIt sh wide (n / most) j).1.map dP)), .un])
        (fun j => [.pr p (.lst [.int (drIt sh wide (n / most) j).2]), .sh (dL sh), .sh (.int most), .sh (.int wide), .ow (.lst ((drIt sh wide (n / most) j).1.map dP)), .sh (.int (j : Nat))]) .refl (fun j hj => g_name 5 g.nd) (fun j hj => .inl ?_))
      (s_one (s1_ret (e_callTy c_tupL T.tuple b_tuple (a_cons (e_cv (cv_frz (i := 4) rfl) (e_var 4)) a_nil)))))), rfl⟩
    obtain ⟨hlen, _⟩ := drIt_ok (n / most) h0 h4 j
    have e : drIt sh wide (n / most) (j + 1) = ((drIt sh wide (n / most) j).1 ++ [(sh.getD ((drIt sh wide (n / most) j).2 % (sh.length : Int)).toNat default, 1 + (drIt sh wide (n / most) j).2 / (sh.length : Int) % wide)], (drIt sh wide (n / most) j).2 / (sh.length : Int) / wide) := rfl
    rw [e]
    generalize (drIt sh wide (n / most) j).1 = fs at hlen
    generalize (drIt sh wide (n / most) j).2 = q
    have c1 := Int.emod_nonneg q (b := (sh.length : Int)) (by omega)
    have c2 := Int.emod_lt_of_pos q (b := (sh.length : Int)) (by omega)
    refine s_wk (s_one (s1_expr (e_append (i := 4) (e_tup (a_cons (e_ix (e_var 1) (e_c1 0 G_take g has_pr (a_cons (e_eq (e_callB c_lenL T.len b_len (a_cons (e_var 1) a_nil)) (congrArg (fun z => Rs.sh (D.int z)) hsl)) a_nil) has_pr ⟨q, (sh.length : Int), by omega, hs, rfl, rfl, rfl, rfl⟩) (i_dL (atI_ok (d := default) c1 c2))) (a_cons (e_bin o_addI e_int (e_c1 0 G_take g has_pr (a_cons (e_var 3) a_nil) has_pr ⟨_, wide, h4, hw, rfl, rfl, rfl, rfl⟩)) a_nil))) ⟨_, _, has_ow, _, rfl⟩ has_ow ?_))) ?_
    · rw [List.length_map]; omega
    · show Cv K [.pr p (.lst [.int (q / (sh.length : Int) / wide)]), .sh (dL sh), .sh (.int most), .sh (.int wide), .ow (.lst (fs.map dP ++ [dP (sh.getD (q % (sh.length : Int)).toNat default, 1 + q / (sh.length : Int) % wide)])), .sh (.int (j : Nat))] _
      rw [List.map_append]
      exact Wk.cv (.keep (.keep (.keep (.keep (.keep (.drop .nil))))))
def P_lthreads : List D → Rs → Prop := fun ds r => ∃ ps, OkSt ps ∧ ds = [dS ps] ∧ r = .sh (dL (thr ps))
theorem c_lthreads (Dd : Df K mg "_law_threads" s__law_threads []) : C0 Pg w K mg base "_law_threads" 1 ["_law_stripes"] P_lthreads := by
  refine c0_mk (k := 0) Dd sc__law_threads (fun _ _ _ _ _ _ us hl => match us, hl with | [_], _ => rfl) (by decide) (fun ds r => ?_) (fun f cd A outer s H E g ds r => ?_)
  · rintro ⟨ps, hp, rfl, rfl⟩
    exact ⟨rfl, fun _ z => by cases z⟩
  · rintro ⟨ps, hp, rfl, rfl⟩
    have hpos := hp.pos
    refine ends_eq (ends_rt (s_cons (s1_set 1 g.nd (e_lst a_nil)) (s_cons (s1_for g (it_tup (e_var 0)) (fun j => [.sh (dS ps), .ow (.lst ((thr (ps.take j)).map .str)), .un, .un]) (fun j => [.sh (dS ps), .ow (.lst ((thr (ps.take j)).map .str)), .sh (.str (ps.getD j default).1), .sh (.int (ps.getD j default).2)]) .refl (fun j hj => ?_) (fun j hj => .inl ?_))
      (s_one (s1_retO 1 (ob := .lst ((thr (ps.take (ps.map dP).length)).map .str)) rfl))))) ?_
    · have hj' : j < ps.length := by simpa using hj
      rw [itd_map dP ps j hj', List.getD_eq_getElem?_getD, List.getElem?_eq_getElem hj']
      exact g_tup g.calm (gs_cons (g_name 2 g.nd) (gs_cons (g_name 3 g.nd) gs_nil))
    · have hj' : j < ps.length := by simpa using hj
      rw [List.getD_eq_getElem?_getD, List.getElem?_eq_getElem hj']
      have le := Int.le_trans (tot_take hpos (j + 1)) hp.le
      have hl := thr_len (ps := ps.take (j + 1)) fun p h => hpos p (List.mem_of_mem_take h)
      have hl2 := hl
      rw [thr_succ hj', List.length_append, List.length_replicate] at hl2
      have pj := hpos _ (List.getElem_mem hj')
      have b := big240
      refine s_wk (s_one (s1_expr (e_extend (i := 1) (e_fz (e_bin (o_repL (ds := [.str ps[j].1]) (k := ps[j].2) (by omega) (by omega) (by show 1 * _ ≤ _; omega)) (e_fz (e_lst (a_cons (e_var 2) a_nil))) (e_var 3))) ⟨_, _, has_ow, _, rfl⟩ has_ow ?_))) ?_
      · rw [List.length_map]
        show _ + (List.replicate _ [D.str ps[j].1]).flatten.length ≤ _
        rw [PyProof.Rows.lm_len_rep_flat]
        show _ + _ * 1 ≤ _
        omega
      · have e : (thr (ps.take j)).map D.str ++ (List.replicate (ps[j].2).toNat [D.str ps[j].1]).flatten = (thr (ps.take (j + 1))).map .str := by
          rw [thr_succ hj', List.map_append, List.map_replicate]
          congr 1
          generalize (ps[j].2).toNat = n
          induction n with
          | zero => rfl
          | succ n ih => rw [List.replicate_succ, List.replicate_succ, List.flatten_cons, ih]; rfl
        show Cv K [.sh (dS ps), .ow (.lst ((thr (ps.take j)).map .str ++ (List.replicate (ps[j].2).toNat [D.str ps[j].1]).flatten)), .sh (.str ps[j].1), .sh (.int ps[j].2)] _
        rw [e]
        exact Wk.cv (.keep (.keep (.drop (.drop .nil))))
    · show Rs.sh (.lst ((thr (ps.take (ps.map dP).length)).map .str)) = _
      rw [List.length_map, List.take_length]
end
end Hd

set_option Elab.async false
set_option linter.all false
set_option maxRecDepth 100000
set_option maxHeartbeats 1000000
namespace Hd
open PySem PySem.Spec PyProof.Rows L2 PL
section
variable {Pg : Program} {w : World} {K : PySem.W.Frag} {mg : Str → Option Value} {base : Heap}
def P_word : List D → Rs → Prop := fun ds r => ∃ m ts, ts.length ≤ 1000 ∧ ds = [dL ts, .str (Mnr.s m)] ∧ r = .sh (dL (lawW m ts))
theorem s_run : ∀ m : Mnr, (decide (m.s = "run") = match m with | .run => true | _ => false) ∧ (decide (m.s = "pivot") = match m with | .pivot => true | _ => false) ∧ (decide (m.s = "fold") = match m with | .fold => true | _ => false) ∧ (decide (m.s = "left") = match m with | .left => true | _ => false) := by
  intro m
  cases m <;> decide +kernel
theorem c_word (Dd : Df K mg "_law_word" s__law_word []) (T : Bt mg) : C0 Pg w K mg base "_law_word" 1 ["_law_words", "_law_tack"] P_word := by
  refine c0_mk (k := 0) Dd sc__law_word (fun _ _ _ _ _ _ us hl => match us, hl with | [_, _], _ => rfl) (by decide) (fun ds r => ?_) (fun f cd A outer s H E g ds r => ?_)
  · rintro ⟨m, ts, hl, rfl, rfl⟩
    exact ⟨rfl, fun _ z => by cases z⟩
  · rintro ⟨m, ts, hl, rfl, rfl⟩
    have hz := big2000
    have hn : (((ts.map D.str).length : Nat) : Int) = (ts.length : Int) := by rw [List.length_map]
    by_cases h1 : ts.length = 1
    · refine ends_eq (ends_rt (s_ifTE (t_eq (t_w (w_or (t_cmp o_eqI (e_callB c_lenL T.len b_len (a_cons (e_var 0) a_nil)) e_int) fun h => (w_or1 (t_cmp o_eqS (e_var 1) e_str)))) ?_) (s_one (s1_ret (e_fz (e_callTy c_listL T.list b_list (a_cons (e_var 0) a_nil))))))) ?_
      · rw [decide_eq_true (show (((ts.map D.str).length : Nat) : Int) = 1 by omega), Bool.true_or]
      · unfold lawW; rw [if_pos h1]
    · have e : lawW m ts = layW m ts := by unfold lawW; rw [if_neg h1]
      rw [e]
      have hne : decide ((((ts.map D.str).length : Nat) : Int) = 1) = false := decide_eq_false (by omega)
      obtain ⟨q1, q2, q3, q4⟩ := s_run m
      cases m with
      | run =>
        refine ends_rt (s_ifTE (t_eq (t_w (w_or (t_cmp o_eqI (e_callB c_lenL T.len b_len (a_cons (e_var 0) a_nil)) e_int) fun h => (w_or1 (t_cmp o_eqS (e_var 1) e_str)))) ?_) (s_one (s1_ret (e_fz (e_callTy c_listL T.list b_list (a_cons (e_var 0) a_nil))))))
        rw [hne]; exact q1
      | pivot =>
        refine ends_eq (ends_rt (s_ifN (t_eq (t_w (w_or (t_cmp o_eqI (e_callB c_lenL T.len b_len (a_cons (e_var 0) a_nil)) e_int) fun h => (w_or1 (t_cmp o_eqS (e_var 1) e_str)))) ?_)
          (s_ifTE (t_eq (t_cmp o_eqS (e_var 1) e_str) q2) (s_one (s1_ret (e_fz (e_bin (o_dLcat (xs := ts) (ys := (cutL ts (some 1) (some (-1))).reverse) ?_) (e_var 0) (e_fz (e_revD (e_fz (e_slice l_dL (e_var 0) (p_some e_int) (p_some (e_neg e_int)))))))))))))  ?_
        · rw [hne]; exact q1
        · rw [cut_mid, List.length_reverse, List.length_dropLast, List.length_drop]; omega
        · rw [cut_mid]; rfl
      | fold =>
        refine ends_eq (ends_rt (s_ifN (t_eq (t_w (w_or (t_cmp o_eqI (e_callB c_lenL T.len b_len (a_cons (e_var 0) a_nil)) e_int) fun h => (w_or1 (t_cmp o_eqS (e_var 1) e_str)))) ?_)
          (s_ifN (t_eq (t_cmp o_eqS (e_var 1) e_str) q2) (s_ifTE (t_eq (t_cmp o_eqS (e_var 1) e_str) q3) (s_one (s1_ret (e_fz (e_bin (o_dLcat (xs := ts) (ys := ts.reverse) ?_) (e_var 0) (e_fz (e_revD (e_var 0))))))))))) ?_
        · rw [hne]; exact q1
        · rw [List.length_reverse]; omega
        · rfl
      | left =>
        refine ends_eq (ends_rt (s_ifN (t_eq (t_w (w_or (t_cmp o_eqI (e_callB c_lenL T.len b_len (a_cons (e_var 0) a_nil)) e_int) fun h => (w_or1 (t_cmp o_eqS (e_var 1) e_str)))) ?_)
          (s_ifN (t_eq (t_cmp o_eqS (e_var 1) e_str) q2) (s_ifN (t_eq (t_cmp o_eqS (e_var 1) e_str) q3) (s_ifTE (t_eq (t_cmp o_eqS (e_var 1) e_str) q4) (s_one (s1_ret (e_fz (e_bin (o_dLcat (xs := ts) (ys := (cutL ts (some 1) none).reverse) ?_) (e_var 0) (e_fz (e_revD (e_fz (e_slice l_dL (e_var 0) (p_some e_int) p_none)))))))))))))  ?_
        · rw [hne]; exact q1
        · rw [cut_1, List.length_reverse, List.length_drop]; omega
        · rw [cut_1]; rfl
      | right =>
        refine ends_eq (ends_rt (s_ifN (t_eq (t_w (w_or (t_cmp o_eqI (e_callB c_lenL T.len b_len (a_cons (e_var 0) a_nil)) e_int) fun h => (w_or1 (t_cmp o_eqS (e_var 1) e_str)))) ?_)
          (s_ifN (t_eq (t_cmp o_eqS (e_var 1) e_str) q2) (s_ifN (t_eq (t_cmp o_eqS (e_var 1) e_str) q3) (s_ifN (t_eq (t_cmp o_eqS (e_var 1) e_str) q4) (s_one (s1_ret (e_fz (e_bin (o_dLcat (xs := ts) (ys := (cutL ts none (some (-1))).reverse) ?_) (e_var 0) (e_fz (e_revD (e_fz (e_slice l_dL (e_var 0) p_none (p_some (e_neg e_int)))))))))))))) ) ?_
        · rw [hne]; exact q1
        · rw [cut_init, List.length_reverse, List.length_dropLast]; omega
        · rw [cut_init]; rfl
def P_lleast : List D → Rs → Prop := fun ds r => ∃ ts, Shs ts ∧ 0 < ts.length ∧ ts.length ≤ 3000 ∧ ds = [dL ts] ∧ r = .sh (.int (lr ts))
theorem o_repS {X : Cx} {xs : List Str} {k : Int} (h1 : 0 ≤ k) (h2 : k ≤ 3000) (hl : xs.length ≤ 3000) : OpS X (binaryOp .Mult) (dL xs) (.int k) (.ow (.lst (((List.replicate k.toNat xs).flatten).map .str))) := by
  have hb : xs.length * k.toNat ≤ 3000 * 3000 := Nat.mul_le_mul hl (by omega)
  have hs : 3000 * 3000 ≤ sizeLine := by decide
  have h := o_repL (X := X) (ds := xs.map D.str) (k := k) (by omega) (by omega) (by rw [List.length_map]; omega)
  rw [show (List.replicate k.toNat (xs.map D.str)).flatten = ((List.replicate k.toNat xs).flatten).map .str by rw [List.map_flatten, List.map_replicate]] at h
  exact h
theorem c_lleast (Dd : Df K mg "_law_least_round" s__law_least_round []) (T : Bt mg) : C0 Pg w K mg base "_law_least_round" 1 ["_law_words"] P_lleast := by
  refine c0_mk (k := 0) Dd sc__law_least_round (fun _ _ _ _ _ _ us hl => match us, hl with | [_], _ => rfl) (by decide) (fun ds r => ?_) (fun f cd A outer s H E g ds r => ?_)
  · rintro ⟨ts, hs, h0, hl, rfl, rfl⟩
    exact ⟨rfl, fun _ z => by cases z⟩
  · rintro ⟨ts, hs, h0, hl, rfl, rfl⟩
    have hn : ((ts.map D.str).length : Int) = (ts.length : Int) := by rw [List.length_map]
    have hcnt : (((ts.map D.str).length : Int) - 1).toNat = ts.length - 1 := by rw [hn]; omega
    refine ends_eq (ends_ex (s_search 1 (fun i => perAt ts (i + 1)) (fun i => .sh (.int (1 + (i : Nat)))) (.sh (.int (ts.map D.str).length)) g (it_range2 T.range (a_cons e_int (a_cons (e_callB c_lenL T.len b_len (a_cons (e_var 0) a_nil)) a_nil)) (by rw [hn]; omega)) rfl (fun j hj => ?_) (fun j hj _ => s_ex (s_one (s1_ret (e_var 1)))) (s_ex (s_one (s1_ret (e_callB c_lenL T.len b_len (a_cons (e_var 0) a_nil))))))) ?_
    · rw [hcnt] at hj
      have e1 : ((1 : Int) + (j : Nat)) = ((j + 1 : Nat) : Int) := by omega
      have hq : ((ts.map D.str).length : Int) / (1 + (j : Nat)) = ((ts.length / (j + 1) : Nat) : Int) := by rw [hn, e1]; rfl
      have hq1 : ts.length / (j + 1) ≤ ts.length := Nat.div_le_self _ _
      have hcut : cutL ts none (some (1 + ((j : Nat) : Int))) = ts.take (j + 1) := by rw [e1, cut_to]
      have htk : (ts.take (j + 1)).length ≤ 3000 := by rw [List.length_take]; omega
      have hsub : ∀ x ∈ (List.replicate (((ts.map D.str).length : Int) / (1 + (j : Nat))).toNat (cutL ts none (some (1 + ((j : Nat) : Int))))).flatten, okS x := by
        intro x hx
        obtain ⟨l, h1, h2⟩ := List.mem_flatten.mp hx
        rw [List.mem_replicate] at h1
        rw [h1.2, hcut] at h2
        exact hs.ok x (List.mem_of_mem_take h2)
      refine t_eq (t_w (w_and (t_cmp o_eqI (e_bin (o_mod (j := 1 + ((j : Nat) : Int)) (by omega)) (e_callB c_lenL T.len b_len (a_cons (e_var 0) a_nil)) (e_var 1)) e_int) fun h => (w_and1 (t_cmp (o_eqL g.rm.units hsub hs.ok) (e_fz (e_bin (o_repS (k := ((ts.map D.str).length : Int) / (1 + (j : Nat))) (by rw [hq]; exact Int.natCast_nonneg _) (by rw [hq]; exact Int.ofNat_le.mpr (Nat.le_trans hq1 hl)) (by rw [hcut]; exact htk)) (e_fz (e_slice l_dL (e_var 0) p_none (p_some (e_var 1)))) (e_bin (o_fdiv ⟨by omega, by omega⟩) (e_callB c_lenL T.len b_len (a_cons (e_var 0) a_nil)) (e_var 1)))) (e_var 0))))) ?_
      unfold perAt
      rw [hcut, hq, hn, e1]
      by_cases hd : ts.length % (j + 1) = 0
      · rw [decide_eq_true hd, decide_eq_true (by omega), Bool.true_and, Bool.true_and]
        exact decide_eq_decide.mpr (rep_per (Nat.succ_pos j) (by omega) hd)
      · rw [decide_eq_false hd, decide_eq_false (by omega)]; rfl
    · unfold lr
      rw [hcnt]
      cases e : (List.range (ts.length - 1)).find? fun i => perAt ts (i + 1) with
      | none =>
        show Rs.sh (.int ((ts.map D.str).length : Int)) = .sh (.int (ts.length : Int))
        rw [hn]
      | some m =>
        show Rs.sh (.int (1 + (m : Nat))) = .sh (.int ((m + 1 : Nat) : Int))
        rw [show (1 : Int) + (m : Nat) = ((m + 1 : Nat) : Int) by omega]
def P_due : List D → Rs → Prop := fun ds r => ∃ ps m st, OkSt ps ∧ ds = [dS ps, .str (Mnr.s m), .int st] ∧ r = .sh (dL (rowK ps m st))
theorem c_due (Dd : Df K mg "_law_due" s__law_due []) (T : Bt mg) (G_lthreads : C0 Pg w K mg base "_law_threads" 1 ["_law_stripes"] P_lthreads) (G_word : C0 Pg w K mg base "_law_word" 1 ["_law_words", "_law_tack"] P_word) (G_lleast : C0 Pg w K mg base "_law_least_round" 1 ["_law_words"] P_lleast) : C0 Pg w K mg base "_law_due" 2 ["_law_stripes", "_law_tack", "_law_begun"] P_due := by
  refine c0_mk (k := 1) Dd sc__law_due (fun _ _ _ _ _ _ us hl => match us, hl with | [_, _, _], _ => rfl) (by decide) (fun ds r => ?_) (fun f cd A outer s H E g ds r => ?_)
  · rintro ⟨ps, m, st, hp, rfl, rfl⟩
    exact ⟨rfl, fun _ z => by cases z⟩
  · rintro ⟨ps, m, st, hp, rfl, rfl⟩
    have hlen := hp.len
    have h1 := lawW_len m hlen.1
    have h2 := lawW_le m (thr ps)
    have h3 := lawW_shs m (thr_shs hp.ok)
    have hz := big2000
    have hlr := lr_le (lawW m (thr ps))
    have key := due_row m hlen.1 st
    refine ends_eq (ends_rt (s_cons (s1_set 3 g.nd (e_c0 G_word g (a_cons (e_c0 G_lthreads g (a_cons (e_var 0) a_nil) ⟨ps, hp, rfl, rfl⟩) (a_cons (e_var 1) a_nil)) ⟨m, thr ps, by omega, rfl, rfl⟩)) (s_cons (s1_set 4 g.nd (e_c0 G_lleast g (a_cons (e_var 3) a_nil) ⟨lawW m (thr ps), h3, h1, by omega, rfl, rfl⟩))
      (s_one (s1_ret (e_fz (e_lc1 5 (fun j => .str (cyc (lawW m (thr ps)) ((j : Int) + st))) g (it_range1 (j := (lr (lawW m (thr ps)) : Int)) T.range (a_cons (e_var 4) a_nil) (by omega) (by omega)) (by omega) (blkOk_by (N := N__law_due) (sc := defScope s__law_due) (by decide +kernel)) rfl (fun j hj s1 H1 C cl fp => ?_)))))))) ?_
    · have hn : (((lawW m (thr ps)).map D.str).length : Int) = ((lawW m (thr ps)).length : Int) := by rw [List.length_map]
      refine e_ix (e_var 3) (e_bin (o_mod (j := (((lawW m (thr ps)).map D.str).length : Int)) (by omega)) (e_bin o_addI (e_var 5) (e_var 2)) (e_callB c_lenL T.len b_len (a_cons (e_var 3) a_nil))) (i_dL ?_)
      unfold cyc
      rw [hn]
      exact atI_ok (Int.emod_nonneg _ (by omega)) (Int.emod_lt_of_pos _ (by omega))
    · unfold rowK
      rw [← key]
      unfold dueL
      show Rs.sh (.lst _) = Rs.sh (.lst (List.map D.str _))
      rw [List.map_map]
      rfl
end
end Hd

set_option Elab.async false
set_option linter.all false
set_option maxRecDepth 100000
set_option maxHeartbeats 3200000
/-! sets of texts, made of a list or a tuple and told by sorted -/
namespace PL
open PySem PySem.Spec PyProof.Rows L2 PySem.Froz
/-- the set of texts at a: l its members -/
structure TxS (P : Program) (w : World) (h : Heap) (a : Addr) (l : List Str) : Prop where
  ex : ∃ D : SD, h.get? a = some (sObj "set" D) ∧ TxOk P w D l ∧ Ris D.2.2.place.toList ∧ (w.params.followText "set-order" = true ∨ D.2.2.led = true)
  nd : l.Nodup
  few : l.length < 64
theorem add_ris {h : Int} {v : Value} {D : SD} (r : Ris D.2.2.place.toList) : Ris (addTx h v D).2.2.place.toList ∧ (addTx h v D).2.2.led = D.2.2.led := by
  obtain ⟨es, ep, t⟩ := D
  have r1 := layNew_ris t es h v r
  have l1 := layNew_led t es h v
  unfold addTx
  dsimp only
  generalize layNew t es h v = Z at r1 l1
  obtain ⟨e1, t1, wd, gv⟩ := Z
  dsimp only at r1 l1 ⊢
  have key : ∀ t2 : SetTable, Ris t2.place.toList → t2.led = t.led → Ris (tailTx ep e1 t2 wd).2.2.place.toList ∧ (tailTx ep e1 t2 wd).2.2.led = t.led := fun t2 q1 q2 => by
    unfold tailTx
    split
    · exact ⟨relayAll_ris t2 e1 _, (relayAll_led t2 e1 _).trans q2⟩
    · exact ⟨q1, q2⟩
  split
  · exact key _ r1 l1
  · exact key _ r1 l1
section
variable {P : Program} {w : World} {A : Around} {E : Value → Shared → Prop} {s : Shared} {a : Addr} {l : List Str}
theorem TxS.keep {h h' : Heap} (T : TxS P w h a l) (k : ∀ o, h.get? a = some o → h'.get? a = some o) : TxS P w h' a l := by
  obtain ⟨⟨D, h1, h2⟩, h3, h4⟩ := T
  exact ⟨⟨D, k _ h1, h2⟩, h3, h4⟩
theorem tx_add {k : Str} {u : Tok} {Q : Bool → Shared → Prop} (T : TxS P w s.heap a l) (hb : l.length + 1 < 64) (h1 : k ∈ l → Q false s)
    (h2 : k ∉ l → ∀ h', Heap.SameBut a s.heap h' → TxS P w h' a (k :: l) → Q true { s with heap := h' }) : wpAny (model P w) A (setAddHashed a (.str k u) (hashStr w k)) Q E s := by
  obtain ⟨⟨D, o1, F, r1, l1⟩, nd, few⟩ := T
  have sb : (64 : Nat) < scanBound := by decide
  by_cases hk : k ∈ l
  · have q := h1 hk
    obtain ⟨e, he, hi⟩ := (F.mem k).mp hk
    obtain ⟨es, ep, t⟩ := D
    have z1 : es.size < scanBound := by have := F.sz; dsimp only at this; omega
    have fit : t.fits es.size = true := F.fit
    have el : ElemsOf (strKind P w) es.toList := F.el
    have dd : (sObj "set" (es, ep, t)).data = .set es ep t := rfl
    unfold setAddHashed setAddHashedIn
    refine wpAny_holding (wpAny_bind (wpAny_setState_of o1 dd fit ?_))
    dsimp only
    rw [byScan_of rfl z1 el]
    simp only [↓reduceIte]
    unfold setAddByScan
    refine wpAny_bind (wpAny_bind (wpAny_rule (wpAny_bind (wpAny_setScan_of (knd := strKind P w) (k := k) (is_str k u) o1 dd fit el ?_))))
    cases c : List.findIdx? (fun e => (strKind P w).is k e.2) es.toList with
    | none =>
      have z := List.findIdx?_eq_none_iff.mp c e he
      rw [hi] at z
      cases z
    | some j =>
      dsimp only
      exact wpAny_pure (wpAny_pure q)
  · refine add_x o1 F hk (by omega) (h2 hk _ (Heap.SameBut.update s.heap a _) ?_)
    obtain ⟨r2, l2⟩ := add_ris (h := hashStr w k) (v := .str k u) r1
    exact ⟨⟨_, get_upd _ o1 rfl, add_ok u F, r2, by rw [l2]; exact l1⟩, List.nodup_cons.mpr ⟨hk, nd⟩, hb⟩
end
section
variable {P : Program} {w : World} {A : Around} {E : Value → Shared → Prop} {s : Shared}
/-- the texts that were met so far -/
theorem tx_loop {I : Addr} {fp wr : List Addr} {G : Array GenState → Array GenState → Prop} {n : Nat} {Pv : Nat → Value → Prop} {St : Nat → Shared → Prop} {R : Result → Shared → Prop}
    (W : WalksS P w A.in1 I fp wr G n Pv St) (S : Addr) (nf : S ∉ fp) (xs : List Str) (hn : n = xs.length) (hfew : ∀ l : List Str, l.Nodup → (∀ k ∈ l, k ∈ xs) → l.length < 63) (hval : ∀ i v, Pv i v → ∃ t, v = .str (xs.getD i default) t) :
    ∀ (m i : Nat) (s : Shared), n - i = m → i ≤ n → St i s → (∃ l, TxS P w s.heap S l ∧ ∀ k, k ∈ l ↔ k ∈ xs.take i) →
      (∀ s' l, Moved (S :: wr) G s s' → TxS P w s'.heap S l → (∀ k, k ∈ l ↔ k ∈ xs) → R (.ok (.ret .none)) s') →
      codeAny (model P w) A (.builtin "set.update.loop" ⟨[.ref S, .ref I], []⟩) R s := by
  have nw : S ∉ wr := fun h => nf (W.sub _ h)
  have up : ∀ b ∈ wr, b ∈ S :: wr := fun b z => .tail _ z
  intro m
  induction m with
  | zero =>
    intro i s hm hi st ⟨l, T, hl⟩ hR
    obtain rfl : i = n := by omega
    refine codeAny_builtin F.entry_set_update_loop ?_
    rw [Around.under_plainId F.plain_set_update_loop _]
    show wpAny _ A.in1 (pyNext (.ref I) >>= _) _ _ s
    refine wpAny_bind (W.done s _ _ st fun s' mv => wpAny_pure (hR s' l (mv.mono up) (T.keep fun o e => mv.heap S o nw e) fun k => ?_))
    rw [hl k, hn, List.take_length]
  | succ m ih =>
    intro i s hm hi st ⟨l, T, hl⟩ hR
    have lt : i < n := by omega
    refine codeAny_builtin F.entry_set_update_loop ?_
    rw [Around.under_plainId F.plain_set_update_loop _]
    show wpAny _ A.in1 (pyNext (.ref I) >>= _) _ _ s
    refine wpAny_bind (W.item i s _ _ lt st fun v s' pv st' mv => ?_)
    obtain ⟨t, rfl⟩ := hval i v pv
    have T' : TxS P w s'.heap S l := T.keep fun o e => mv.heap S o nw e
    have hsub : ∀ k ∈ l, k ∈ xs := fun k z => List.mem_of_mem_take ((hl k).mp z)
    have ll := hfew l T.nd hsub
    have tk : xs.take (i + 1) = xs.take i ++ [xs.getD i default] := by
      rw [List.take_succ_eq_append_getElem (by omega : i < xs.length), List.getD_eq_getElem?_getD, List.getElem?_eq_getElem (by omega : i < xs.length)]
      rfl
    show wpAny _ A.in1 (holding [Value.str (xs.getD i default) t] (setAdd S (.str (xs.getD i default) t)) >>= _) _ _ s'
    refine wpAny_bind (wpAny_holding ?_)
    unfold setAdd
    refine wpAny_holding (wpAny_bind ((strKind P w).pyHash (k := xs.getD i default) (is_str _ _) ?_))
    have go : ∀ (h' : Heap) (l' : List Str), Heap.SameBut S s'.heap h' → TxS P w h' S l' → (∀ k, k ∈ l' ↔ k ∈ xs.take (i + 1)) → codeAny (model P w) A (.builtin "set.update.loop" ⟨[.ref S, .ref I], []⟩) R { s' with heap := h', toks := s'.toks + 1 } := fun h' l' sb T2 hl' => by
      refine ih (i + 1) _ (by omega) lt (W.frame _ s' _ _ st' (Nat.le_succ _) fun b hb o e => ?_) ⟨l', T2, hl'⟩ fun s2 l2 mv2 T3 hl2 => hR s2 l2 (Moved.trans W.gtrans ((mv.mono up).then_heap (Nat.le_succ _) fun b o hb e => ?_) mv2) T3 hl2
      · rw [sb.2 b (fun h : b = S => nf (by rw [← h]; exact hb))]; exact e
      · rw [sb.2 b (fun h : b = S => hb (by rw [h]; exact .head _))]; exact e
    refine tx_add (s := { s' with toks := s'.toks + 1 }) T' (by omega) (fun hk => ?_) (fun hk h' sb T2 => ?_)
    · refine wpAny_pure ⟨plainId_quiet F.plain_set_update_loop _, go s'.heap l (Heap.SameBut.refl S s'.heap) T' fun k => ?_⟩
      rw [hl k, tk, List.mem_append, List.mem_singleton]
      exact ⟨.inl, fun z => z.elim id fun e => by rw [e]; exact (hl _).mp hk⟩
    · refine wpAny_pure ⟨plainId_quiet F.plain_set_update_loop _, go h' _ sb T2 fun k => ?_⟩
      rw [List.mem_cons, hl k, tk, List.mem_append, List.mem_singleton]
      exact or_comm
end
def emp (w : World) : Obj := { cls := .type "set", dict := none, data := .set #[] 0 (.fresh 0 0 (!w.params.followText "set-order")) }
theorem emp_tx {P : Program} {w : World} {h : Heap} {a : Addr} (ho : h.get? a = some (emp w)) : TxS P w h a [] := by
  refine ⟨⟨(#[], 0, .fresh 0 0 (!w.params.followText "set-order")), ho, TxOk.nil rfl, List.Pairwise.nil, ?_⟩, .nil, by decide⟩
  show _ ∨ (!w.params.followText "set-order") = true
  cases w.params.followText "set-order"
  · exact .inr rfl
  · exact .inl rfl
theorem sub_tuple_set : isSubtype (.type "tuple") (.type "set") = pure false := by rw [isSubtype_type]; kernel_rfl
theorem sub_tuple_frozenset : isSubtype (.type "tuple") (.type "frozenset") = pure false := by rw [isSubtype_type]; kernel_rfl
section
variable {P : Program} {w : World} {A : Around} {E : Value → Shared → Prop} {s : Shared}
theorem call_set_listS {l : Addr} {items : Array Value} (xs : List Str) {Q : Value → Shared → Prop} (hh : A.handled = none) (hl : s.heap.IsList l items) (hz : items.size = xs.length) (hi : ∀ (i : Nat) (v : Value), items[i]? = some v → ∃ t, v = Value.str (xs.getD i default) t) (hfew : ∀ l : List Str, l.Nodup → (∀ k ∈ l, k ∈ xs) → l.length < 63)
    (h : ∀ (h' : Heap) (tk : Nat) l, TxS P w h' s.heap.objs.size l → (∀ k, k ∈ l ↔ k ∈ xs) → (∀ b o, s.heap.get? b = some o → h'.get? b = some o) → Q (.ref s.heap.objs.size) { s with heap := h', toks := tk }) : wpAny (model P w) A (call (.type "set") [.ref l]) Q E s := by
  obtain ⟨c, tl, hmro⟩ := F.called_set.mro
  have m1 := F.called_set.made
  have m2 := F.called_set.sub
  refine wpAny_call (codeAny_of_tree ?_)
  show wpAny _ _ (callAny (.type "set") _) _ _ _
  refine wpAny_pure ⟨Code.quiet_builtin _ (by decide +kernel), codeAny_builtin F.entry_type_call ?_⟩
  rw [Around.under_plain (weight_type_call_type "set" [.ref l] []) rfl]
  have m3 := F.called_set.notType
  have m4 := F.called_set.canCreate
  have m5 := F.typeCall_set_1 (.ref l)
  repeat (any_goals (first | assumption | wp_step))
  refine codeAny_mono (code_set_led1 (.ref l) (E := E) (Q₁ := fun obj s₁ => obj = .ref s.heap.objs.size ∧ s₁ = { s with heap := s.heap.push (emp w) }) ⟨rfl, rfl⟩) fun r s₁ hr => ?_
  cases r with
  | error e => exact hr
  | ok fl =>
    cases fl with
    | ret obj =>
      obtain ⟨rfl, rfl⟩ := hr
      have oS : (s.heap.push (emp w)).get? s.heap.objs.size = some (emp w) := Heap.get?_push_size _ rfl
      have hT : Shared.TypeIs { s with heap := s.heap.push (emp w) } (.ref s.heap.objs.size) "set" := ⟨_, oS, rfl⟩
      have m6 := F.called_set.init.lookup
      have m7 := F.called_set.init.bind (.ref s.heap.objs.size)
      repeat (any_goals (first | assumption | wp_step))
      refine codeAny_mono (codeAny_call_builtin (R := wants (fun r s₂ => r = .none ∧ ∃ h' tk l, s₂ = { s with heap := h', toks := tk } ∧ TxS P w h' s.heap.objs.size l ∧ (∀ k, k ∈ l ↔ k ∈ xs) ∧ (∀ b o, s.heap.get? b = some o → h'.get? b = some o)) E) F.called_set.init.plain F.entry_set_init (check_set_init_1 hT ?_)) fun r₂ s₂ hr₂ => ?_
      · obtain ⟨ol, hol, hcl, nl, hdl⟩ := hl
        obtain ⟨ocls, odict, odata, oslots⟩ := ol
        simp only at hcl hdl
        subst hcl; subst hdl
        have ol1 : (s.heap.push (emp w)).get? l = some { cls := .type "list", dict := odict, data := .seq items nl, slots := oslots } := Heap.get?_push_of_some _ hol
        have n1 := F.sub_list_set
        have n2 := F.sub_list_frozenset
        have n3 : (Value.type "list" == Value.type "dict") = false := by decide
        have il : (s.heap.push (emp w)).IsList l items := ⟨_, ol1, rfl, nl, rfl⟩
        unfold Builtin.«set.__init__» noKeywords Builtin.Frozenset.updateFrom
        generalize hPI : pyIter = PI
        wp_walk
        subst hPI
        refine wpAny_pyIter_list il ?_
        refine wpAny_bind (wpAny_runValue ?_)
        have lS : l < s.heap.objs.size := Heap.lt_size hol
        have h3 : A.in1.in1.in1.handled = none := by simp [hh]
        have z1 : (s.heap.push (emp w)).objs.size = s.heap.objs.size + 1 := Heap.size_push ..
        have nI : l ≠ (s.heap.push (emp w)).objs.size := by rw [z1]; exact Nat.ne_of_lt (Nat.lt_succ_of_lt lS)
        have nS : s.heap.objs.size ∉ [(s.heap.push (emp w)).objs.size, l] := by
          rw [z1]; simp only [List.mem_cons, List.not_mem_nil, or_false, not_or]
          exact ⟨Nat.ne_of_lt (Nat.lt_succ_self _), Nat.ne_of_gt lS⟩
        refine tx_loop ((Walks.list h3 _ l nI items).toS) s.heap.objs.size nS xs hz hfew hi (items.size - 0) 0 _ (by omega) (Nat.zero_le _) ⟨⟨_, Heap.get?_push_size _ rfl, rfl, rfl⟩, (il.push _)⟩ ⟨[], emp_tx (Heap.get?_push_of_some _ oS), fun k => by simp⟩ fun s' l' mv T hl' => ?_
        obtain ⟨h', g2, d', tk', os'⟩ := s'
        have eg : g2 = s.gens := mv.gens
        have ed : d' = s.drawn := mv.drawn
        have eo : os' = s.os := mv.os
        subst eg; subst ed; subst eo
        show wpAny _ _ _ _ _ _
        refine wpAny_pure ?_
        show wpAny _ _ (ret Value.none) _ _ _
        refine wpAny_pure ⟨rfl, h', tk', l', rfl, T, hl', fun b o e => ?_⟩
        have bl := Heap.lt_size e
        refine mv.heap b o ?_ (Heap.get?_push_of_some _ (Heap.get?_push_of_some _ e))
        simp only [List.mem_cons, List.not_mem_nil, or_false, not_or]
        exact ⟨Nat.ne_of_lt bl, by rw [z1]; exact Nat.ne_of_lt (Nat.lt_succ_of_lt bl)⟩
      · cases r₂ with
        | error e => exact hr₂
        | ok fl₂ =>
          cases fl₂ with
          | ret r =>
            obtain ⟨rfl, h', tk, l', rfl, T, hl', hk'⟩ := hr₂
            repeat (any_goals (first | assumption | wp_step))
            exact h _ _ _ T hl' hk'
          | _ => exact hr₂.elim
    | _ => exact hr.elim
theorem call_set_tupleS {l : Addr} {items : Array Value} (xs : List Str) {Q : Value → Shared → Prop} (hh : A.handled = none) (hl : s.heap.IsTuple l items) (hz : items.size = xs.length) (hi : ∀ (i : Nat) (v : Value), items[i]? = some v → ∃ t, v = Value.str (xs.getD i default) t) (hfew : ∀ l : List Str, l.Nodup → (∀ k ∈ l, k ∈ xs) → l.length < 63)
    (h : ∀ (h' : Heap) (tk : Nat) l, TxS P w h' s.heap.objs.size l → (∀ k, k ∈ l ↔ k ∈ xs) → (∀ b o, s.heap.get? b = some o → h'.get? b = some o) → Q (.ref s.heap.objs.size) { s with heap := h', toks := tk }) : wpAny (model P w) A (call (.type "set") [.ref l]) Q E s := by
  obtain ⟨c, tl, hmro⟩ := F.called_set.mro
  have m1 := F.called_set.made
  have m2 := F.called_set.sub
  refine wpAny_call (codeAny_of_tree ?_)
  show wpAny _ _ (callAny (.type "set") _) _ _ _
  refine wpAny_pure ⟨Code.quiet_builtin _ (by decide +kernel), codeAny_builtin F.entry_type_call ?_⟩
  rw [Around.under_plain (weight_type_call_type "set" [.ref l] []) rfl]
  have m3 := F.called_set.notType
  have m4 := F.called_set.canCreate
  have m5 := F.typeCall_set_1 (.ref l)
  repeat (any_goals (first | assumption | wp_step))
  refine codeAny_mono (code_set_led1 (.ref l) (E := E) (Q₁ := fun obj s₁ => obj = .ref s.heap.objs.size ∧ s₁ = { s with heap := s.heap.push (emp w) }) ⟨rfl, rfl⟩) fun r s₁ hr => ?_
  cases r with
  | error e => exact hr
  | ok fl =>
    cases fl with
    | ret obj =>
      obtain ⟨rfl, rfl⟩ := hr
      have oS : (s.heap.push (emp w)).get? s.heap.objs.size = some (emp w) := Heap.get?_push_size _ rfl
      have hT : Shared.TypeIs { s with heap := s.heap.push (emp w) } (.ref s.heap.objs.size) "set" := ⟨_, oS, rfl⟩
      have m6 := F.called_set.init.lookup
      have m7 := F.called_set.init.bind (.ref s.heap.objs.size)
      repeat (any_goals (first | assumption | wp_step))
      refine codeAny_mono (codeAny_call_builtin (R := wants (fun r s₂ => r = .none ∧ ∃ h' tk l, s₂ = { s with heap := h', toks := tk } ∧ TxS P w h' s.heap.objs.size l ∧ (∀ k, k ∈ l ↔ k ∈ xs) ∧ (∀ b o, s.heap.get? b = some o → h'.get? b = some o)) E) F.called_set.init.plain F.entry_set_init (check_set_init_1 hT ?_)) fun r₂ s₂ hr₂ => ?_
      · obtain ⟨ol, hol, hcl, nl, hdl⟩ := hl
        obtain ⟨ocls, odict, odata, oslots⟩ := ol
        simp only at hcl hdl
        subst hcl; subst hdl
        have ol1 : (s.heap.push (emp w)).get? l = some { cls := .type "tuple", dict := odict, data := .seq items nl, slots := oslots } := Heap.get?_push_of_some _ hol
        have n1 := sub_tuple_set
        have n2 := sub_tuple_frozenset
        have n3 : (Value.type "tuple" == Value.type "dict") = false := by decide
        have il : (s.heap.push (emp w)).IsTuple l items := ⟨_, ol1, rfl, nl, rfl⟩
        unfold Builtin.«set.__init__» noKeywords Builtin.Frozenset.updateFrom
        generalize hPI : pyIter = PI
        wp_walk
        subst hPI
        refine wpAny_pyIter_tuple il ?_
        refine wpAny_bind (wpAny_runValue ?_)
        have lS : l < s.heap.objs.size := Heap.lt_size hol
        have h3 : A.in1.in1.in1.handled = none := by simp [hh]
        have z1 : (s.heap.push (emp w)).objs.size = s.heap.objs.size + 1 := Heap.size_push ..
        have nI : l ≠ (s.heap.push (emp w)).objs.size := by rw [z1]; exact Nat.ne_of_lt (Nat.lt_succ_of_lt lS)
        have nS : s.heap.objs.size ∉ [(s.heap.push (emp w)).objs.size, l] := by
          rw [z1]; simp only [List.mem_cons, List.not_mem_nil, or_false, not_or]
          exact ⟨Nat.ne_of_lt (Nat.lt_succ_self _), Nat.ne_of_gt lS⟩
        refine tx_loop ((Walks.tuple h3 _ l nI items).toS) s.heap.objs.size nS xs hz hfew hi (items.size - 0) 0 _ (by omega) (Nat.zero_le _) ⟨⟨_, Heap.get?_push_size _ rfl, rfl, rfl⟩, (il.push _)⟩ ⟨[], emp_tx (Heap.get?_push_of_some _ oS), fun k => by simp⟩ fun s' l' mv T hl' => ?_
        obtain ⟨h', g2, d', tk', os'⟩ := s'
        have eg : g2 = s.gens := mv.gens
        have ed : d' = s.drawn := mv.drawn
        have eo : os' = s.os := mv.os
        subst eg; subst ed; subst eo
        show wpAny _ _ _ _ _ _
        refine wpAny_pure ?_
        show wpAny _ _ (ret Value.none) _ _ _
        refine wpAny_pure ⟨rfl, h', tk', l', rfl, T, hl', fun b o e => ?_⟩
        have bl := Heap.lt_size e
        refine mv.heap b o ?_ (Heap.get?_push_of_some _ (Heap.get?_push_of_some _ e))
        simp only [List.mem_cons, List.not_mem_nil, or_false, not_or]
        exact ⟨Nat.ne_of_lt bl, by rw [z1]; exact Nat.ne_of_lt (Nat.lt_succ_of_lt bl)⟩
      · cases r₂ with
        | error e => exact hr₂
        | ok fl₂ =>
          cases fl₂ with
          | ret r =>
            obtain ⟨rfl, h', tk, l', rfl, T, hl', hk'⟩ := hr₂
            repeat (any_goals (first | assumption | wp_step))
            exact h _ _ _ T hl' hk'
          | _ => exact hr₂.elim
    | _ => exact hr.elim
end
end PL

set_option Elab.async false
set_option linter.all false
set_option maxRecDepth 100000
set_option maxHeartbeats 3200000
namespace PL
open PySem PySem.Spec PyProof.Rows L2 PySem.Froz
/-! ### sorted(set of texts) -/
theorem perm_of_sub {α : Type} [DecidableEq α] : ∀ (l ks : List α), l.Nodup → (∀ x ∈ l, x ∈ ks) → ks.length = l.length → ks.Perm l
  | [], ks, _, _, hl => by rw [List.eq_nil_of_length_eq_zero hl]
  | x :: l, ks, nd, hs, hl => by
    obtain ⟨n1, n2⟩ := List.nodup_cons.mp nd
    have hx := hs x (.head _)
    refine (List.perm_cons_erase hx).trans (.cons x (perm_of_sub l (ks.erase x) n2 (fun y hy => ?_) ?_))
    · exact (List.mem_erase_of_ne (fun e : y = x => n1 (e ▸ hy))).mpr (hs y (.tail _ hy))
    · rw [List.length_erase_of_mem hx, hl, List.length_cons]; rfl
theorem is_str_of {P : Program} {w : World} {k : Str} {v : Value} (h : (PySem.strKind P w).is k v = true) : ∃ t, v = .str k t := by
  have h' : Value.isStrOf k v = true := h
  cases v with
  | str x t =>
    have e : x = k := by simpa [Value.isStrOf] using h'
    exact ⟨t, by rw [e]⟩
  | _ => cases h'
section
variable {P : Program} {w : World} {A : Around} {E : Value → Shared → Prop} {s : Shared} {a : Addr} {l : List Str}
theorem sorted_tx {Q : Value → Shared → Prop} (T : TxS P w s.heap a l) (hh : A.handled = none)
    (hQ : ∀ s' p (out : Array Value) (c : Nat) (ys : List Str), (∀ b o, s.heap.get? b = some o → s'.heap.get? b = some o) → s'.gens = s.gens → s'.os = s.os → s.heap.objs.size ≤ p → s'.heap.get? p = some (seqObj "list" out c) → StrsAre out.toList ys → ys.Perm l → sortedS ys = true → Q (.ref p) s') :
    wpAny (model P w) A (call (.builtin "sorted") [.ref a]) Q E s := by
  obtain ⟨⟨⟨es, ep, t⟩, o1, F, r1, l1⟩, nd, few⟩ := T
  have sz : es.size = l.length := F.sz
  have sb : (64 : Nat) < scanBound := by decide
  have el : ElemsOf (PySem.strKind P w) es.toList := F.el
  refine Calls.call_function_entry kind_sorted plain_sorted entry_sorted (args_sorted1 _) ?_
  unfold Builtin.«sorted»
  refine wpAny_bind (m := checkCount "sorted" 1 1 _) (wpAny_pure (wpAny_bind (collect_set (A := A.in1) hh ⟨_, o1, rfl, rfl⟩ F.fit (by show es.size < scanBound; omega) r1 l1 fun s1 vs k1 hz g1 o2 pm => ?_)))
  have vl : vs.length = l.length := by rw [pm.length_eq, List.length_map, Array.length_toList]; exact sz
  have all : ∀ v ∈ vs, ∃ x tk, v = Value.str x tk := fun v hv => by
    obtain ⟨e, he, rfl⟩ := List.mem_map.mp (pm.mem_iff.mp hv)
    obtain ⟨⟨k, hk, _⟩, _⟩ := el e he
    obtain ⟨tk, z⟩ := is_str_of hk
    exact ⟨k, tk, z⟩
  have hS := strsAre_map vs all
  have pl : (vs.map strOf).Perm l := by
    refine perm_of_sub l _ nd (fun x hx => ?_) (by rw [List.length_map]; exact vl)
    obtain ⟨e, he, hi⟩ := (F.mem x).mp hx
    obtain ⟨tk, z⟩ := is_str_of hi
    refine List.mem_map.mpr ⟨e.2, pm.mem_iff.mpr (List.mem_map.mpr ⟨e, he, rfl⟩), ?_⟩
    rw [z]; rfl
  refine wpAny_bind (wpAny_newList ?_ (by rw [vl, sizeLine_eq]; omega))
  have oL : (s1.heap.push (seqObj "list" vs.toArray 0)).get? s1.heap.objs.size = some (seqObj "list" vs.toArray 0) := Heap.get?_push_size _ rfl
  refine wpAny_bind (wpAny_holding (wpAny_call_entry slot_list_sort ⟨_, oL, rfl⟩ entry_list_sort (list_sort_treeK strKind_oneLt oL hS.keysOf (fun v₁ v₂ rest e => keyKind_strs (by rw [← e]; exact hS)) (by rw [vl]; exact few) fun st' hp hs => ⟨_, rfl, ?_⟩) (args_list_sort _)))
  obtain ⟨ys, y1, y2, y3⟩ := sorted_out_str hS hp hs
  obtain ⟨c, hc⟩ := sortedHeap_at (vs := vs) (out := (arrOf st').map (·.2)) oL
  refine wpAny_pure ⟨_, rfl, hQ _ s1.heap.objs.size _ c ys (fun b u e => ?_) g1 o2 hz hc y1 (y2.trans pl) y3⟩
  have q := k1 b u e
  have lt := Heap.lt_size q
  show (sortedHeap (s1.heap.push (seqObj "list" vs.toArray 0)) s1.heap.objs.size vs _).get? b = some u
  rw [sortedHeap_old (Nat.ne_of_lt lt) (by rw [size_push']; exact Nat.lt_succ_of_lt lt)]
  exact Heap.get?_push_of_some _ q
end
/-! ### one order -/
theorem sorted_pw : ∀ (ys : List Str), sortedS ys = true → ys.Pairwise fun x y => x.cps.toList ≤ y.cps.toList := by
  have step : ∀ (ys : List Str) (p : Str), risingS p ys = true → (p :: ys).Pairwise fun x y => x.cps.toList ≤ y.cps.toList := by
    intro ys
    induction ys with
    | nil => intro p _; exact List.pairwise_singleton _ _
    | cons x r ih =>
      intro p h
      obtain ⟨h1, h2⟩ := Bool.and_eq_true_iff.mp (show (!ltCps x.cps.toList p.cps.toList && risingS x r) = true from h)
      have le : p.cps.toList ≤ x.cps.toList := by
        rw [ltCps_eq] at h1
        have := of_decide_eq_false (by simpa using h1 : decide (x.cps.toList < p.cps.toList) = false)
        exact this
      have pw := ih x h2
      refine List.pairwise_cons.mpr ⟨fun y hy => ?_, pw⟩
      rcases List.mem_cons.mp hy with rfl | hy
      · exact le
      · exact List.le_trans le ((List.pairwise_cons.mp pw).1 y hy)
  intro ys h
  cases ys with
  | nil => exact .nil
  | cons x r => exact step r x h
theorem cps_inj {x y : Str} (h : x.cps.toList = y.cps.toList) : x = y := by
  cases x; cases y
  simp only [Str.mk.injEq]
  exact Array.toList_inj.mp h
theorem sorted_uniq : ∀ (xs ys : List Str), sortedS xs = true → sortedS ys = true → xs.Perm ys → xs = ys := by
  have go : ∀ (xs ys : List Str), (xs.Pairwise fun x y => x.cps.toList ≤ y.cps.toList) → (ys.Pairwise fun x y => x.cps.toList ≤ y.cps.toList) → xs.Perm ys → xs = ys := by
    intro xs
    induction xs with
    | nil => intro ys _ _ p; exact (List.nil_perm.mp p).symm
    | cons x r ih =>
      intro ys h1 h2 p
      cases ys with
      | nil => exact absurd p.length_eq (by simp)
      | cons y q =>
        obtain ⟨a1, a2⟩ := List.pairwise_cons.mp h1
        obtain ⟨b1, b2⟩ := List.pairwise_cons.mp h2
        have e : x = y := by
          have m1 : y ∈ x :: r := p.mem_iff.mpr (.head _)
          have m2 : x ∈ y :: q := p.mem_iff.mp (.head _)
          rcases List.mem_cons.mp m1 with z | z
          · exact z.symm
          · rcases List.mem_cons.mp m2 with z2 | z2
            · exact z2
            · exact cps_inj (List.le_antisymm (a1 y z) (b1 x z2))
        subst e
        rw [ih q a2 b2 (List.Perm.cons_inv p)]
  exact fun xs ys h1 h2 p => go xs ys (sorted_pw xs h1) (sorted_pw ys h2) p
/-- the texts, each once, rising -/
def IsSrt (xs ys : List Str) : Prop := ys.Nodup ∧ sortedS ys = true ∧ ∀ k, k ∈ ys ↔ k ∈ xs
theorem srt_uniq {xs ys zs : List Str} (h : IsSrt xs ys) (g : IsSrt xs zs) : ys = zs :=
  sorted_uniq ys zs h.2.1 g.2.1 ((List.perm_ext_iff_of_nodup h.1 g.1).mpr fun k => (h.2.2 k).trans (g.2.2 k).symm)
open Classical in
noncomputable def srtS (xs : List Str) : List Str := if h : ∃ ys, IsSrt xs ys then h.choose else []
theorem srtS_eq {xs ys : List Str} (h : IsSrt xs ys) : srtS xs = ys := by
  unfold srtS
  have e : ∃ ys, IsSrt xs ys := ⟨ys, h⟩
  rw [dif_pos e]
  exact srt_uniq e.choose_spec h
theorem srtS_congr {xs zs : List Str} (h : ∀ k, k ∈ xs ↔ k ∈ zs) : srtS xs = srtS zs := by
  have e : IsSrt xs = IsSrt zs := by
    funext ys
    exact propext ⟨fun q => ⟨q.1, q.2.1, fun k => (q.2.2 k).trans (h k)⟩, fun q => ⟨q.1, q.2.1, fun k => (q.2.2 k).trans (h k).symm⟩⟩
  unfold srtS
  rw [e]
/-! ### the rules -/
def TxO (P : Program) (w : World) (a : Addr) (l : List Str) : HO := .ext fun h => TxS P w h a l
theorem txO_new {P : Program} {w : World} {H : Hp} {h : Heap} {a : Addr} {l : List Str} (T : TxS P w h a l) : ObjOk P w H h a (TxO P w a l) := by
  have ⟨D, ho, r⟩ := T.ex
  exact ⟨T, ⟨_, ho⟩, fun h1 h2 p k => TxS.keep p fun o e => k o e⟩
def rSetS (K : PySem.W.Frag) (P : Program) (w : World) : List V → Hp → VK → Prop := fun vs H Q => ∃ (a : Addr) (xs : List Str), vs = [V.ref a] ∧ (SqL K H a (xs.map V.str) ∨ SqT K H a (xs.map V.str)) ∧ (∀ l : List Str, l.Nodup → (∀ k ∈ l, k ∈ xs) → l.length < 63) ∧
  ∀ p l, H p = none → l.Nodup → (∀ k, k ∈ l ↔ k ∈ xs) → Q (.ref p) (upd H p (TxO P w p l))
section
variable {X : Cx}
theorem strs_at {xs : List Str} {its : List Value} (rv : Vals (xs.map V.str) its) (i : Nat) (v : Value) (hv : its.toArray[i]? = some v) : ∃ t, v = Value.str (xs.getD i default) t := by
  have hS := rv.strs
  have h1 : its[i]? = some v := by simpa using hv
  clear hv
  induction hS generalizing i with
  | nil => simp at h1
  | cons y t h ih =>
    cases i with
    | zero => exact ⟨t, by simpa using h1.symm⟩
    | succ i =>
      have h2 := rv
      cases h2 with
      | cons r1 r2 => exact ih r2 i (by simpa using h1)
theorem cr_setS (hc : X.calm = true) : CallR X (.type "set") (rSetS X.K X.prog X.w) := by
  intro pins s σ H vs us Q I r h
  obtain ⟨a, xs, rfl, hs, hf, q⟩ := h
  rw [Vals.ref1 r]
  have hn : H s.heap.objs.size = none := I.hok.fresh (Nat.le_refl _)
  have fin : ∀ (h' : Heap) (tk : Nat) l, TxS X.prog X.w h' s.heap.objs.size l → (∀ k, k ∈ l ↔ k ∈ xs) → (∀ b o, s.heap.get? b = some o → h'.get? b = some o) → EP X pins σ Q (.ref s.heap.objs.size) { s with heap := h', toks := tk } := fun h' tk l T hl k =>
    ⟨.ref s.heap.objs.size, upd H s.heap.objs.size (TxO X.prog X.w s.heap.objs.size l), I.laid (t' := tk) k (Nat.le_refl _) (txO_new T), rfl, q _ l hn T.nd hl⟩
  rcases hs with hs | hs
  · obtain ⟨its, rv, pl, hz⟩ := I.list hs
    have lz : its.toArray.size = xs.length := by rw [List.size_toArray, ← rv.length, List.length_map]
    exact call_set_listS xs (I.ok.hd hc) pl.isList lz (strs_at rv) hf fin
  · obtain ⟨its, rv, pl, hz⟩ := I.tuple hs
    have lz : its.toArray.size = xs.length := by rw [List.size_toArray, ← rv.length, List.length_map]
    exact call_set_tupleS xs (I.ok.hd hc) (show s.heap.IsTuple a its.toArray from pl) lz (strs_at rv) hf fin
def rSortTx (P : Program) (w : World) : List V → Hp → VK → Prop := fun vs H Q => ∃ (a : Addr) (l : List Str), vs = [V.ref a] ∧ H a = some (TxO P w a l) ∧ ∀ (ys : List Str) (p : Addr), ys.Perm l → sortedS ys = true → H p = none → Q (.ref p) (upd H p (.lst (ys.map V.str)))
theorem cr_sortTx (hc : X.calm = true) : CallR X (.builtin "sorted") (rSortTx X.prog X.w) := by
  intro pins s σ H vs us Q I r h
  obtain ⟨a, l, rfl, ha, q⟩ := h
  have T : TxS X.prog X.w s.heap a l := (I.hok a _ ha).1
  rw [Vals.ref1 r]
  refine sorted_tx T (I.ok.hd hc) fun s' p out c ys k g o hp hg hout pm st => ?_
  have hlen : (ys.map V.str).length ≤ sizeLine := by rw [List.length_map, pm.length_eq, sizeLine_eq]; have := T.few; omega
  have hn : H p = none := I.hok.fresh hp
  have J : Inv X pins σ (upd H p (.lst (ys.map V.str))) { s with heap := s'.heap, gens := s'.gens, drawn := s'.drawn, toks := s'.toks } :=
    I.call (ch := []) (Un.laid k hp hn) (I.hok.laid k hp ⟨hlen, out.toList, c, vals_of_strs hout, hg⟩) (by rw [g]; exact I.bare) (fun _ z => nomatch z)
  have e : s' = { s with heap := s'.heap, gens := s'.gens, drawn := s'.drawn, toks := s'.toks } := by
    cases s'; cases s; cases o; rfl
  rw [e]
  exact ⟨.ref p, _, J, rfl, q ys p pm st hn⟩
variable {Γ Γ1 : Gm} {e : Ex} {p1 p2 q1 q2 : Pos} {d : D} {xs : List Str} {k : Nat}
theorem b_sorted' : bootBuiltins "sorted" = some (.builtin "sorted") := b_sorted
/-- sorted(set(e)), e a list or a tuple of texts -/
theorem e_sortSet (gS : X.mg "set" = none) (gT : X.mg "sorted" = none) (g : Gd k X) (h : EX X Γ e (.sh d) Γ1) (hd : d = dL xs ∨ d = dT xs) (hf : ∀ l : List Str, l.Nodup → (∀ k ∈ l, k ∈ xs) → l.length < 63) (hg1 : Gl X "sorted" := by rfl) (hg2 : Gl X "set" := by rfl)
    (he : starEach [e] X.env = (false, eval e X.env) :: starEach [] X.env := by rfl) (he2 : starEach [.Call (.Name "set" p2) [e] [] q2] X.env = (false, eval (.Call (.Name "set" p2) [e] [] q2) X.env) :: starEach [] X.env := by rfl)
    (hp1 : (backTo q2 (starEach [] X.env)).any (·.1) = false := by rfl) (hp2 : (backTo q1 (starEach [] X.env)).any (·.1) = false := by rfl) : EX X Γ (.Call (.Name "sorted" p1) [.Call (.Name "set" p2) [e] [] q2] [] q1) (.ow (.lst ((srtS xs).map .str))) Γ1 := fun F σ H S Q R q => by
  refine pe_we (pe_callB (cr_sortTx g.calm) hg1 gT b_sorted (pa_cons (pe_callTy (cr_setS g.calm) hg2 gS b_set (pa_cons we_pe pa_nil he) (by decide) (by decide) he hp1) pa_nil he2) (by decide) (by decide) he2 hp2) ?_
  refine h F σ H S _ R fun v H1 S1 R1 s1 ok => ?_
  have hv : ∃ a, v = .ref a ∧ (SqL X.K H1 a (xs.map V.str) ∨ SqT X.K H1 a (xs.map V.str)) := by
    rcases hd with rfl | rfl
    · obtain ⟨a, vs, rfl, h1, h2⟩ := ok
      rw [h2.strs] at h1
      exact ⟨a, rfl, .inl (.of (R1.sh _ _ h1))⟩
    · obtain ⟨a, vs, rfl, h1, h2⟩ := ok
      rw [h2.strs] at h1
      exact ⟨a, rfl, .inr (same_sqt R1.sh h1)⟩
  obtain ⟨a, rfl, hs⟩ := hv
  refine ⟨a, xs, rfl, hs, hf, fun p l np nd hl => ?_⟩
  refine ⟨p, l, rfl, upd_same, fun ys z pm st nz => ?_⟩
  have R2 : RS X.K F Γ1 σ (upd H1 p (TxO X.prog X.w p l)) S1 := R1.grow (same_upd np)
  have es : srtS xs = ys := srtS_eq ⟨pm.nodup_iff.mpr nd, st, fun k => pm.mem_iff.trans (hl k)⟩
  rw [es] at q
  exact q _ _ S1 (R2.grow (same_upd nz)) s1 ⟨z, rfl, R2.sNone nz, R2.h0None nz, ⟨_, upd_same, Reps.ofStrs⟩, R2.ownNone nz⟩
end
end PL

set_option Elab.async false
set_option linter.all false
namespace PL
open PySem PySem.Spec PyProof.Rows L2
structure Made where
  ps : List (Str × Int)
  m : Mnr
  n : Int
def way03 (n : Int) : Int := (shIt (n / 4) (1 + n % 4).toNat).2 % 8
def most03 (w : Int) : Int := ([4, 4, 4, 8, 3, 3, 1, 12] : List Int).getD w.toNat 0
def wide03 (w : Int) : Int := ([3, 3, 6, 3, 2, 2, 30, 18] : List Int).getD w.toNat 0
def mn6 : List Mnr := [.run, .run, .pivot, .fold, .left, .right]
def dr03 (n : Int) : List (Str × Int) × Int := drawn (shIt (n / 4) (1 + n % 4).toNat).1 (most03 (way03 n)) (wide03 (way03 n)) ((shIt (n / 4) (1 + n % 4).toNat).2 / 8)
def pn03 (n : Int) : List (Str × Int) × Int := if way03 n = 4 ∨ way03 n = 5 then ((List.replicate (2 + (dr03 n).2 % 2).toNat (dr03 n).1).flatten, (dr03 n).2 / 2) else dr03 n
def made03 (n : Int) : Made := ⟨(pn03 n).1, if 120 < tot (pn03 n).1 then .run else mn6.getD ((pn03 n).2 % 6).toNat .run, (pn03 n).2 / 6⟩
theorem way_tab : ∀ j : _root_.Fin 8, 0 < most03 (j.val : Int) ∧ most03 (j.val : Int) ≤ 12 ∧ 0 < wide03 (j.val : Int) ∧ wide03 (j.val : Int) ≤ 30 ∧ most03 (j.val : Int) * wide03 (j.val : Int) ≤ 240 ∧ ((j.val = 4 ∨ j.val = 5) → most03 (j.val : Int) * wide03 (j.val : Int) ≤ 6 ∧ most03 (j.val : Int) ≤ 3) := by decide +kernel
theorem way_ok {w : Int} (h0 : 0 ≤ w) (h1 : w < 8) : 0 < most03 w ∧ most03 w ≤ 12 ∧ 0 < wide03 w ∧ wide03 w ≤ 30 ∧ most03 w * wide03 w ≤ 240 ∧ ((w = 4 ∨ w = 5) → most03 w * wide03 w ≤ 6 ∧ most03 w ≤ 3) := by
  have h := way_tab ⟨w.toNat, by omega⟩
  have e : ((w.toNat : Nat) : Int) = w := by omega
  dsimp only at h
  rw [e] at h
  obtain ⟨a, b, c, d, e1, f⟩ := h
  exact ⟨a, b, c, d, e1, fun z => f (by omega)⟩
theorem way_in (n : Int) : 0 ≤ way03 n ∧ way03 n < 8 := ⟨Int.emod_nonneg _ (by decide), Int.emod_lt_of_pos _ (by decide)⟩
theorem sh4 (n : Int) : 0 < (shIt (n / 4) (1 + n % 4).toNat).1.length ∧ (shIt (n / 4) (1 + n % 4).toNat).1.length ≤ 4 ∧ ∀ x ∈ (shIt (n / 4) (1 + n % 4).toNat).1, okW 1 3 x := by
  have a := Int.emod_nonneg n (b := 4) (by decide)
  have b := Int.emod_lt_of_pos n (b := 4) (by decide)
  obtain ⟨h1, h2⟩ := shIt_ok (n / 4) (1 + n % 4).toNat (by omega)
  exact ⟨by omega, by omega, h2⟩
theorem drawn_small {sh : List Str} {most wide : Int} (n : Int) (h0 : 0 < sh.length) (hm : 0 < most) (hw : 0 < wide) : ((drawn sh most wide n).1.length : Int) ≤ most ∧ tot (drawn sh most wide n).1 ≤ most * wide := by
  have a := Int.emod_nonneg n (b := most) (by omega)
  have b := Int.emod_lt_of_pos n (b := most) (by omega)
  obtain ⟨h1, h2⟩ := drIt_ok (n / most) h0 hw (1 + n % most).toNat
  unfold drawn
  refine ⟨by rw [h1]; omega, Int.le_trans (tot_le fun p hp => (h2 p hp).2.2) ?_⟩
  rw [h1]
  exact Int.mul_le_mul_of_nonneg_right (by omega) (by omega)
theorem dr03_ok (n : Int) : OkSt (dr03 n).1 ∧ (dr03 n).1.length ≤ 12 ∧ (way03 n = 4 ∨ way03 n = 5 → tot (dr03 n).1 ≤ 6 ∧ (dr03 n).1.length ≤ 3) := by
  obtain ⟨s1, s2, s3⟩ := sh4 n
  obtain ⟨w0, w1⟩ := way_in n
  obtain ⟨a, b, c, d, e, f⟩ := way_ok w0 w1
  obtain ⟨g1, g2⟩ := drawn_small (sh := (shIt (n / 4) (1 + n % 4).toNat).1) ((shIt (n / 4) (1 + n % 4).toNat).2 / 8) s1 a c
  refine ⟨drawn_ok _ s1 a c s3 e, ?_, fun z => ?_⟩
  · show (drawn _ _ _ _).1.length ≤ 12
    omega
  · obtain ⟨f1, f2⟩ := f z
    exact ⟨Int.le_trans g2 f1, by show (drawn _ _ _ _).1.length ≤ 3; omega⟩
theorem rep_tot (ps : List (Str × Int)) : ∀ k, tot (List.replicate k ps).flatten = (k : Int) * tot ps
  | 0 => by rw [show (((0 : Nat)) : Int) = 0 from rfl, Int.zero_mul]; rfl
  | k + 1 => by rw [List.replicate_succ, List.flatten_cons, tot_app, rep_tot ps k, Int.natCast_succ, Int.add_mul, Int.one_mul]; omega
theorem pn03_ok (n : Int) : OkSt (pn03 n).1 ∧ (pn03 n).1.length ≤ 12 := by
  obtain ⟨h1, h2, h3⟩ := dr03_ok n
  unfold pn03
  split
  · rename_i hw
    obtain ⟨h4, h5⟩ := h3 hw
    have a := Int.emod_nonneg (dr03 n).2 (b := 2) (by decide)
    have b := Int.emod_lt_of_pos (dr03 n).2 (b := 2) (by decide)
    have hk : (2 + (dr03 n).2 % 2).toNat = 2 ∨ (2 + (dr03 n).2 % 2).toNat = 3 := by omega
    generalize (2 + (dr03 n).2 % 2).toNat = k at hk
    have hmem : ∀ p ∈ (List.replicate k (dr03 n).1).flatten, p ∈ (dr03 n).1 := fun p hp => by
      obtain ⟨l, hl, hp⟩ := List.mem_flatten.mp hp
      rw [(List.mem_replicate.mp hl).2] at hp
      exact hp
    refine ⟨⟨fun e => ?_, fun p hp => h1.ok p (hmem p hp), ?_⟩, ?_⟩
    · have := congrArg List.length e
      rw [lm_len_rep_flat] at this
      have h0 := List.length_pos_iff.mpr h1.ne
      rcases hk with rfl | rfl <;> simp at this <;> omega
    · show tot (List.replicate k (dr03 n).1).flatten ≤ 240
      rw [rep_tot]
      rcases hk with rfl | rfl <;> omega
    · show (List.replicate k (dr03 n).1).flatten.length ≤ 12
      rw [lm_len_rep_flat]
      rcases hk with rfl | rfl <;> omega
  · exact ⟨h1, h2⟩
structure MadeOk (M : Made) : Prop where
  ps : OkSt M.ps
  few : M.ps.length ≤ 12
  le : (layW M.m (thr M.ps)).length ≤ 240
theorem made_ok (n : Int) : MadeOk (made03 n) := by
  obtain ⟨h1, h2⟩ := pn03_ok n
  have ht := thr_len fun p hp => (h1.ok p hp).2
  refine ⟨h1, h2, ?_⟩
  show (layW (if 120 < tot (pn03 n).1 then .run else mn6.getD ((pn03 n).2 % 6).toNat .run) (thr (pn03 n).1)).length ≤ 240
  split
  · exact thr_le h1
  · refine Nat.le_trans (layW_len _ _) ?_
    omega
/-! ### spots -/
def spL (n : Int) : List Int := [0, 1, -1, e30, 0 - e30, n % 300 - 150, n / 300 % e30, 0 - n / 300 / e30 % e30] ++ [n / 300 / e30 / e30 % 40, e30 - n / 300 / e30 / e30 / 40 % 300]
def spN (n : Int) : Int := n / 300 / e30 / e30 / 40 / 300
theorem spL_ok (n : Int) : ∀ z ∈ spL n, -e30 ≤ z ∧ z ≤ e30 := by
  have h30 : (1000 : Int) ≤ e30 := by decide +kernel
  have a1 := Int.emod_nonneg n (b := 300) (by decide)
  have a2 := Int.emod_lt_of_pos n (b := 300) (by decide)
  have b1 := Int.emod_nonneg (n / 300) (b := e30) (by omega)
  have b2 := Int.emod_lt_of_pos (n / 300) (b := e30) (by omega)
  have c1 := Int.emod_nonneg (n / 300 / e30) (b := e30) (by omega)
  have c2 := Int.emod_lt_of_pos (n / 300 / e30) (b := e30) (by omega)
  have d1 := Int.emod_nonneg (n / 300 / e30 / e30) (b := 40) (by decide)
  have d2 := Int.emod_lt_of_pos (n / 300 / e30 / e30) (b := 40) (by decide)
  have f1 := Int.emod_nonneg (n / 300 / e30 / e30 / 40) (b := 300) (by decide)
  have f2 := Int.emod_lt_of_pos (n / 300 / e30 / e30 / 40) (b := 300) (by decide)
  intro z hz
  unfold spL at hz
  generalize e30 = q at *
  simp only [List.cons_append, List.nil_append, List.mem_cons, List.not_mem_nil, or_false] at hz
  rcases hz with rfl | rfl | rfl | rfl | rfl | rfl | rfl | rfl | rfl | rfl <;> omega
/-! ### the members of a round -/
theorem layW_mem (m : Mnr) {ts : List Str} {t : Str} (ht : t ∈ layW m ts) : t ∈ ts := by
  cases m with
  | run => exact ht
  | pivot => exact (List.mem_append.mp ht).elim id fun z => List.mem_of_mem_drop (List.dropLast_subset _ (List.mem_reverse.mp z))
  | fold => exact (List.mem_append.mp ht).elim id fun z => List.mem_reverse.mp z
  | left => exact (List.mem_append.mp ht).elim id fun z => List.mem_of_mem_drop (List.mem_reverse.mp z)
  | right => exact (List.mem_append.mp ht).elim id fun z => List.dropLast_subset _ (List.mem_reverse.mp z)
theorem lawW_mem (m : Mnr) {ts : List Str} {t : Str} (ht : t ∈ lawW m ts) : t ∈ ts := by
  unfold lawW at ht
  split at ht
  · exact ht
  · exact layW_mem m ht
theorem thr_mem {ps : List (Str × Int)} {t : Str} (h : t ∈ thr ps) : t ∈ ps.map (·.1) := by
  obtain ⟨p, hp, hm⟩ := List.mem_flatMap.mp h
  rw [(List.mem_replicate.mp hm).2]
  exact List.mem_map_of_mem hp
theorem cycmem {ts : List Str} (h : 0 < ts.length) (i : Int) : cyc ts i ∈ ts := by
  have b1 := Int.emod_nonneg i (b := (ts.length : Int)) (by omega)
  have b2 := Int.emod_lt_of_pos i (b := (ts.length : Int)) (by omega)
  unfold cyc
  rw [List.getD_eq_getElem?_getD, List.getElem?_eq_getElem (by omega)]
  exact List.getElem_mem _
theorem due_cyc {wd : List Str} (h : 0 < wd.length) (st i : Int) : cyc (dueL wd st) i = cyc wd (i + st) := by
  rw [due_spin h]
  exact cyc_spin (lr_pos h) (lr_le wd) (lr_spec h).2.1 i
theorem due_mem {wd : List Str} (h : 0 < wd.length) (st : Int) (k : Str) : k ∈ dueL wd st ↔ k ∈ wd := by
  have hd : 0 < (dueL wd st).length := by rw [dueL_len]; exact lr_pos h
  constructor
  · intro hk
    obtain ⟨j, _, rfl⟩ := List.mem_map.mp hk
    exact cycmem h _
  · intro hk
    obtain ⟨i, hi, rfl⟩ := List.mem_iff_getElem.mp hk
    have e : wd[i] = cyc (dueL wd st) ((i : Int) - st) := by
      rw [due_cyc h, show (i : Int) - st + st = (i : Int) by omega, cyc_nat hi, List.getD_eq_getElem?_getD, List.getElem?_eq_getElem hi]
      rfl
    rw [e]
    exact cycmem hd _
end PL

set_option Elab.async false
set_option linter.all false
/-! a row as k14, k15 and k16 draw it -/
namespace PL
open PySem PySem.Spec PyProof.Rows L2
def sh15 (n : Int) : List Str × Int := shIt (n / 8 / 4) (1 + n / 8 % 4).toNat
def most15 (b : Bool) : Int := if b then 7 else 4
def wide15 (b : Bool) : Int := if b then 8 else 3
def dr15 (n : Int) : List (Str × Int) × Int := drawn (sh15 n).1 (most15 (decide (n % 8 = 7))) (wide15 (decide (n % 8 = 7))) ((sh15 n).2 / 6)
def ps15 (n : Int) : List (Str × Int) := (List.replicate (1 + (dr15 n).2 % 4 / 3).toNat (dr15 n).1).flatten
def m15 (n : Int) : Mnr := mn6.getD ((sh15 n).2 % 6).toNat .run
abbrev e31 : Int := 2 * 10 ^ (30 : Int).toNat + 1
def st15 (n : Int) : Int := if n / 20 / e31 % 4 / 3 = 0 then n % 20 - 9 else n / 20 % e31 - e30
theorem sh15_ok (n : Int) : 0 < (sh15 n).1.length ∧ (sh15 n).1.length ≤ 4 ∧ ∀ x ∈ (sh15 n).1, okW 1 3 x := sh4 (n / 8)
theorem mw15 (b : Bool) : 0 < most15 b ∧ 0 < wide15 b ∧ most15 b * wide15 b ≤ 56 ∧ most15 b ≤ 7 ∧ wide15 b ≤ 8 := by cases b <;> decide
theorem dr15_ok (n : Int) : OkSt (dr15 n).1 ∧ (dr15 n).1.length ≤ 7 ∧ tot (dr15 n).1 ≤ 56 := by
  obtain ⟨s1, s2, s3⟩ := sh15_ok n
  obtain ⟨a, b, c, d, e⟩ := mw15 (decide (n % 8 = 7))
  obtain ⟨g1, g2⟩ := drawn_small (sh := (sh15 n).1) ((sh15 n).2 / 6) s1 a b
  refine ⟨drawn_ok _ s1 a b s3 (by omega), ?_, Int.le_trans g2 c⟩
  show (drawn _ _ _ _).1.length ≤ 7
  omega
theorem ps15_ok (n : Int) : OkSt (ps15 n) ∧ (ps15 n).length ≤ 14 ∧ tot (ps15 n) ≤ 112 := by
  obtain ⟨h1, h2, h3⟩ := dr15_ok n
  have a := Int.emod_nonneg (dr15 n).2 (b := 4) (by decide)
  have b := Int.emod_lt_of_pos (dr15 n).2 (b := 4) (by decide)
  have hk : (1 + (dr15 n).2 % 4 / 3).toNat = 1 ∨ (1 + (dr15 n).2 % 4 / 3).toNat = 2 := by omega
  unfold ps15
  generalize (1 + (dr15 n).2 % 4 / 3).toNat = k at hk
  have h0 := List.length_pos_iff.mpr h1.ne
  have ht : tot (List.replicate k (dr15 n).1).flatten ≤ 112 := by
    rw [rep_tot]
    have := tot_nonneg fun p hp => (h1.ok p hp).2
    rcases hk with rfl | rfl <;> omega
  refine ⟨⟨fun e => ?_, fun p hp => ?_, by omega⟩, ?_, ht⟩
  · have := congrArg List.length e
    rw [lm_len_rep_flat, List.length_nil] at this
    rcases hk with rfl | rfl <;> omega
  · obtain ⟨l, hl, hp⟩ := List.mem_flatten.mp hp
    rw [(List.mem_replicate.mp hl).2] at hp
    exact h1.ok p hp
  · rw [lm_len_rep_flat]
    rcases hk with rfl | rfl <;> omega
def n5 (n : Int) : Int := (dr15 n).2 / 4
def n6 (n : Int) : Int := n5 n / 20 / e31 / 4
def by15 (n : Int) : Int := n6 n / 4 % 60 - 30
def base15 (n : Int) : List Str := rowK (ps15 n) (m15 n) (st15 (n5 n))
def rw15 (n : Int) : List Str := if n6 n % 4 = 1 then movL (base15 n) (by15 n) else if n6 n % 4 = 2 then turL (base15 n) else base15 n
def nn15 (n : Int) : Int := n6 n / 4 / 60
theorem st15_ok (n : Int) : -e30 ≤ st15 n ∧ st15 n ≤ e30 := by
  have h30 : (1000 : Int) ≤ e30 := by decide +kernel
  have h31 : e31 = 2 * e30 + 1 := rfl
  have a1 := Int.emod_nonneg n (b := 20) (by decide)
  have a2 := Int.emod_lt_of_pos n (b := 20) (by decide)
  have b1 := Int.emod_nonneg (n / 20) (b := e31) (by omega)
  have b2 := Int.emod_lt_of_pos (n / 20) (b := e31) (by omega)
  unfold st15
  generalize e31 = q at *
  generalize e30 = z at *
  split <;> omega
theorem rowK_ok {ps : List (Str × Int)} (hp : OkSt ps) (m : Mnr) (st : Int) (hl : (layW m (thr ps)).length ≤ 240) : Prim (rowK ps m st) ∧ Shs (rowK ps m st) ∧ (rowK ps m st).length ≤ 240 ∧ ∀ k ∈ rowK ps m st, k ∈ ps.map (·.1) := by
  have h1 := thr_len fun p hp' => (hp.ok p hp').2
  have h0 : 0 < (thr ps).length := by
    rcases Nat.eq_zero_or_pos (thr ps).length with z | z
    · exfalso
      cases ps with
      | nil => exact hp.ne rfl
      | cons p r =>
        have h3 := (hp.ok p (List.mem_cons_self ..)).2
        have h4 := tot_nonneg (ps := r) fun q hq => (hp.ok q (List.mem_cons_of_mem _ hq)).2
        have h5 : tot (p :: r) = p.2 + tot r := by unfold tot; rw [List.map_cons, List.sum_cons]
        omega
    · exact z
  have w0 := layW_pos m h0
  have hlr := lr_le (layW m (thr ps))
  have hd : rowK ps m st = dueL (layW m (thr ps)) st := (due_spin w0 st).symm
  refine ⟨spin_prim w0 st, fun t ht => ?_, ?_, fun k hk => ?_⟩
  · rw [hd, due_mem w0] at ht
    exact layW_shs m (thr_shs hp.ok) t ht
  · show (spin _ _ _).length ≤ 240
    rw [spin_len]; omega
  · rw [hd, due_mem w0] at hk
    exact thr_mem (layW_mem m hk)
end PL

set_option Elab.async false
set_option linter.all false
set_option maxRecDepth 100000
set_option maxHeartbeats 1000000
/-! min of a list of tuples of texts -/
namespace PL
open PySem PySem.Spec PyProof.Rows L2
abbrev tupS (ts : List Str) : PySem.W.Tup Str := ⟨ts⟩
def minT (x : List Str) (xs : List (List Str)) : List Str := (PySem.W.minOf (tupS x) (xs.map tupS)).items
def ltT (xs ys : List Str) : Bool := PySem.W.listLt xs ys
theorem py_tup (ts : List Str) : (dT ts).py = PySem.W.Datum.toD (tupS ts) := by
  show PyData.tuple (D.pys (ts.map .str)) = _
  rw [strs_py]; rfl
theorem min_py (x : List Str) (xs : List (List Str)) : PySem.W.minD (dT x).py (xs.map fun t => (dT t).py) = (dT (minT x xs)).py := by
  rw [py_tup, py_tup, show (xs.map fun t => (dT t).py) = (xs.map tupS).map PySem.W.Datum.toD from ?_, PySem.W.minD_map]
  · rfl
  · rw [List.map_map]
    apply List.map_congr_left
    intro t _
    exact py_tup t
/-! ### the order -/
theorem lt_irrefl : ∀ xs : List Str, ltT xs xs = false
  | [] => rfl
  | x :: xs => by
    show (if x = x then PySem.W.listLt xs xs else _) = false
    rw [if_pos rfl]; exact lt_irrefl xs
theorem lt_total : ∀ xs ys : List Str, ltT xs ys = false → ltT ys xs = false → xs = ys
  | [], [], _, _ => rfl
  | [], _ :: _, h, _ => by cases h
  | _ :: _, [], _, h => by cases h
  | x :: xs, y :: ys, h1, h2 => by
    have h1' : (if x = y then ltT xs ys else decide (x.cps.toList < y.cps.toList)) = false := h1
    have h2' : (if y = x then ltT ys xs else decide (y.cps.toList < x.cps.toList)) = false := h2
    by_cases e : x = y
    · rw [if_pos e] at h1'
      rw [if_pos e.symm] at h2'
      rw [e, lt_total xs ys h1' h2']
    · rw [if_neg e] at h1'
      rw [if_neg (Ne.symm e)] at h2'
      have a1 := of_decide_eq_false h1'
      have a2 := of_decide_eq_false h2'
      exact absurd (cps_inj (List.le_antisymm (List.not_lt.mp a2) (List.not_lt.mp a1))) e
theorem lt_trans : ∀ xs ys zs : List Str, ltT xs ys = true → ltT ys zs = true → ltT xs zs = true
  | _, [], [], _, h => by cases h
  | [], [], _ :: _, h, _ => by cases h
  | _ :: _, [], _ :: _, h, _ => by cases h
  | [], _ :: _, [], _, h => by cases h
  | _ :: _, _ :: _, [], _, h => by cases h
  | [], _ :: _, _ :: _, _, _ => rfl
  | x :: xs, y :: ys, z :: zs, h1, h2 => by
    have h1' : (if x = y then ltT xs ys else decide (x.cps.toList < y.cps.toList)) = true := h1
    have h2' : (if y = z then ltT ys zs else decide (y.cps.toList < z.cps.toList)) = true := h2
    show (if x = z then ltT xs zs else decide (x.cps.toList < z.cps.toList)) = true
    by_cases e1 : x = y
    · subst e1
      rw [if_pos rfl] at h1'
      by_cases e2 : x = z
      · rw [if_pos e2] at h2' ⊢
        exact lt_trans xs ys zs h1' h2'
      · rw [if_neg e2] at h2' ⊢; exact h2'
    · rw [if_neg e1] at h1'
      have a1 := of_decide_eq_true h1'
      by_cases e2 : y = z
      · subst e2
        rw [if_neg e1]; exact h1'
      · rw [if_neg e2] at h2'
        have a2 := of_decide_eq_true h2'
        have a3 := List.lt_trans a1 a2
        have e3 : x ≠ z := fun e => by subst e; exact List.lt_irrefl _ a3
        rw [if_neg e3]; exact decide_eq_true a3
theorem minT_nil (x : List Str) : minT x [] = x := rfl
theorem minT_cons (x y : List Str) (ys : List (List Str)) : minT x (y :: ys) = minT (if ltT y x = true then y else x) ys := by
  unfold minT PySem.W.minOf
  rw [List.map_cons, List.foldl_cons]
  congr 2
  show (if PySem.W.listLt y x = true then tupS y else tupS x) = tupS (if ltT y x = true then y else x)
  unfold ltT
  split <;> rfl
theorem minT_mem : ∀ (ys : List (List Str)) (x : List Str), minT x ys ∈ x :: ys
  | [], x => List.mem_cons_self ..
  | y :: ys, x => by
    rw [minT_cons]
    have h := minT_mem ys (if ltT y x = true then y else x)
    rcases List.mem_cons.mp h with z | z
    · rw [z]
      split
      · exact List.mem_cons_of_mem _ (List.mem_cons_self ..)
      · exact List.mem_cons_self ..
    · exact List.mem_cons_of_mem _ (List.mem_cons_of_mem _ z)
theorem minT_le : ∀ (ys : List (List Str)) (x z : List Str), z ∈ x :: ys → ltT z (minT x ys) = false
  | [], x, z, h => by
    rw [List.mem_singleton.mp h]; exact lt_irrefl x
  | y :: ys, x, z, h => by
    rw [minT_cons]
    have ih := fun z => minT_le ys (if ltT y x = true then y else x) z
    have hstep : ∀ a b : List Str, ltT a b = false → ∀ c, ltT b c = false → ltT a c = false := fun a b h1 c h2 => by
      cases e : ltT a c with
      | false => rfl
      | true =>
        cases e2 : ltT c b with
        | true => rw [lt_trans a c b e e2] at h1; cases h1
        | false =>
          rw [lt_total b c h2 e2] at h1
          rw [h1] at e; cases e
    rcases List.mem_cons.mp h with rfl | h
    · by_cases c : ltT y z = true
      · rw [if_pos c] at ih ⊢
        have h1 := ih y (List.mem_cons_self ..)
        refine hstep z y ?_ _ h1
        cases e : ltT z y with
        | false => rfl
        | true => have := lt_trans z y z e c; rw [lt_irrefl] at this; cases this
      · rw [if_neg c] at ih ⊢
        exact ih z (List.mem_cons_self ..)
    · rcases List.mem_cons.mp h with rfl | h
      · by_cases c : ltT z x = true
        · rw [if_pos c] at ih ⊢
          exact ih z (List.mem_cons_self ..)
        · rw [if_neg c] at ih ⊢
          have h1 := ih x (List.mem_cons_self ..)
          exact hstep z x (by cases e : ltT z x with | false => rfl | true => exact absurd e c) _ h1
      · exact ih z (List.mem_cons_of_mem _ h)
/-- the least hangs on which there are alone -/
theorem minT_same {x y : List Str} {xs ys : List (List Str)} (h : ∀ t, t ∈ x :: xs ↔ t ∈ y :: ys) : minT x xs = minT y ys :=
  lt_total _ _ (minT_le ys y _ ((h _).mp (minT_mem xs x))) (minT_le xs x _ ((h _).mpr (minT_mem ys y)))
/-! ### the rule -/
section
variable {X : Cx}
def rMinTs (K : PySem.W.Frag) : List V → Hp → VK → Prop := fun vs H Q => ∃ (a : Addr) (us : List V) (x : List Str) (xs : List (List Str)), vs = [.ref a] ∧ SqL K H a us ∧ DpAll K H us ((x :: xs).map fun t => (dT t).py) ∧ ∀ (i : Nat) v, us[i]? = some v → (x :: xs)[i]? = some (minT x xs) → Q v H
theorem tup_inj {a b : List Str} (h : (dT a).py = (dT b).py) : a = b := by
  have h1 : PyData.tuple (D.pys (a.map .str)) = PyData.tuple (D.pys (b.map .str)) := h
  rw [strs_py, strs_py] at h1
  injection h1 with h1
  exact List.map_inj_right (fun _ _ z => by injection z) |>.mp h1
theorem depth_tups : ∀ tss : List (List Str), PyData.depthAll (tss.map fun t => (dT t).py) ≤ 1
  | [] => Nat.zero_le _
  | t :: tss => by
    have h := depth_tups tss
    have h2 : PyData.depthAll (D.pys (t.map .str)) = 0 := by
      rw [strs_py]
      clear h
      induction t with
      | nil => rfl
      | cons a t ih => show max 0 (PyData.depthAll _) = 0; rw [ih]; rfl
    show max (PyData.depthAll (D.pys (t.map .str)) + 1) _ ≤ 1
    rw [h2]
    exact Nat.max_le.mpr ⟨Nat.le_refl _, h⟩
theorem cr_minTs (hc : X.calm = true) (hu : X.A.units + 64 < cLine) : CallR X (.builtin "min") (rMinTs X.K) := by
  intro pins s σ H vs us Q I r h
  obtain ⟨a, ws, x, xs, rfl, hs, hd, q⟩ := h
  obtain ⟨its, rv, hl, _⟩ := I.list hs
  rw [Vals.ref1 r]
  obtain ⟨as, rs⟩ := Dp.readsAll I _ ws its hd rv
  have al : PySem.W.AlikeAll ((x :: xs).map fun t => (dT t).py) := by
    have e : ((x :: xs).map fun t => (dT t).py) = ((x :: xs).map tupS).map PySem.W.Datum.toD := by
      rw [List.map_map]
      exact List.map_congr_left fun t _ => py_tup t
    rw [e]
    exact PySem.W.alikeAll_datum _
  have hdp := depth_tups (x :: xs)
  refine PySem.W.min_list_data (x := (dT x).py) (xs := xs.map fun t => (dT t).py) (I.ok.hd hc) hl.isList (by simpa using rs) al (by have : PyData.depthAll ((dT x).py :: xs.map fun t => (dT t).py) ≤ 1 := hdp; omega) fun i v h' tk bs hi hrd hk => ?_
  have I' := I.kept (t' := tk) (h' := h') fun b o e => hk b o e
  have hi' : its[i]? = some v := by simpa using hi
  have hlt : i < its.length := (List.getElem?_eq_some_iff.mp hi').1
  have hlw : ws.length = its.length := rv.length
  have hwi : ws[i]? = some ws[i] := List.getElem?_eq_getElem (by omega)
  obtain ⟨u, hu1, hu2⟩ := rv.get hwi
  rw [hi'] at hu1
  cases hu1
  refine ⟨ws[i], H, I', hu2, q i _ hwi ?_⟩
  obtain ⟨bs2, r2, hi2, _, _⟩ := PySem.W.readsAll_atA (vs := its.toArray) (xs := (x :: xs).map fun t => (dT t).py) (by simpa using rs) i v (by simpa using hi)
  have r2' := PySem.W.reads_keeps hk r2
  rw [min_py] at hrd
  have hi3 : i < (x :: xs).length := by simpa using hi2
  rw [List.getD_eq_getElem?_getD, List.getElem?_map, List.getElem?_eq_getElem hi3] at r2'
  have r3 : Reads h' v (dT ((x :: xs)[i])).py bs2 := r2'
  have e := PySem.W.alike_unique _ _ v _ _ (by rw [py_tup, py_tup]; exact PySem.W.DatumOrd.alike _ _) r3 hrd
  rw [List.getElem?_eq_getElem hi3, tup_inj e]
/-- min(xs), xs tuples of texts -/
theorem c_minTs {x : List Str} {xs : List (List Str)} (hc : X.calm = true) (hu : X.A.units + 64 < cLine) : CallS X (.builtin "min") [.lst ((x :: xs).map dT)] (.sh (dT (minT x xs))) := ⟨_, cr_minTs hc hu, fun Γ F σ H S vs Q R r q => by
  obtain ⟨v, rfl, rp⟩ := reps1 r
  obtain ⟨p, us, rfl, h1, h2⟩ := rp
  have hd : DpAll X.K H us ((x :: xs).map fun t => (dT t).py) := by
    have z := dps_of (K := X.K) (H := H) R.sh ((x :: xs).map dT) us (tups_flat _) h2
    have e : D.pys ((x :: xs).map dT) = (x :: xs).map fun t => (dT t).py := by
      rw [tups_py]
      apply List.map_congr_left
      intro t _
      show _ = PyData.tuple (D.pys (t.map .str))
      rw [strs_py]
    rw [e] at z; exact z
  refine ⟨p, us, x, xs, rfl, .of (R.sh _ _ h1), hd, fun i v hi hm => ?_⟩
  obtain ⟨d, hd1, hd2⟩ := h2.get' hi
  rw [List.getElem?_map, hm] at hd1
  cases hd1
  exact q v H S R (.refl _) hd2⟩
end
end PL

set_option Elab.async false
set_option linter.all false
set_option maxRecDepth 100000
set_option maxHeartbeats 1000000
/-! rows that are one: rotations, the least beginning, moves -/
namespace PL
open PySem
def rot (ts : List Str) (k : Nat) : List Str := ts.drop k ++ ts.take k
theorem rot_len (ts : List Str) {k : Nat} (h : k ≤ ts.length) : (rot ts k).length = ts.length := by
  unfold rot; rw [List.length_append, List.length_drop, List.length_take]; omega
theorem rot_getD {ts : List Str} {k j : Nat} (hk : k < ts.length) (hj : j < ts.length) : (rot ts k).getD j default = cyc ts ((j : Int) + (k : Int)) := by
  unfold rot cyc
  by_cases h : j < ts.length - k
  · rw [show ((j : Int) + (k : Int)) % (ts.length : Int) = ((k + j : Nat) : Int) by rw [Int.emod_eq_of_lt (by omega) (by omega)]; omega]
    rw [List.getD_eq_getElem?_getD, List.getElem?_append_left (by rw [List.length_drop]; exact h), List.getElem?_drop, List.getD_eq_getElem?_getD]
    rfl
  · rw [show ((j : Int) + (k : Int)) % (ts.length : Int) = ((j - (ts.length - k) : Nat) : Int) by
      rw [← Int.sub_emod_right, Int.emod_eq_of_lt (by omega) (by omega)]; omega]
    rw [List.getD_eq_getElem?_getD, List.getElem?_append_right (by rw [List.length_drop]; omega), List.length_drop, List.getElem?_take, if_pos (by omega), List.getD_eq_getElem?_getD]
    rfl
theorem rot_mov {ts : List Str} {k : Nat} (hk : k < ts.length) : rot ts k = movL ts (-(k : Int)) := by
  refine ext_getD (by rw [rot_len ts (by omega), movL_len]) fun j hj => ?_
  rw [rot_len ts (by omega)] at hj
  rw [rot_getD hk hj]
  unfold movL
  rw [map_getD hj]; congr 1; omega
theorem rot_cyc {ts : List Str} {k : Nat} (hk : k < ts.length) (i : Int) : cyc (rot ts k) i = cyc ts (i + (k : Int)) := by
  rw [rot_mov hk, movL_cyc (by omega)]; congr 1; omega
/-- the least of all beginnings -/
def lb (ts : List Str) : List Str := minT (rot ts 0) ((List.range (ts.length - 1)).map fun k => rot ts (k + 1))
theorem lb_all {ts : List Str} (h : 0 < ts.length) : rot ts 0 :: ((List.range (ts.length - 1)).map fun k => rot ts (k + 1)) = (List.range ts.length).map (rot ts) := by
  obtain ⟨n, hn⟩ : ∃ n, ts.length = n + 1 := ⟨ts.length - 1, by omega⟩
  rw [hn, List.range_succ_eq_map, List.map_cons, List.map_map]
  rfl
theorem lb_mem {ts : List Str} (h : 0 < ts.length) : ∃ k, k < ts.length ∧ lb ts = rot ts k := by
  have h1 := minT_mem ((List.range (ts.length - 1)).map fun k => rot ts (k + 1)) (rot ts 0)
  rw [lb_all h] at h1
  obtain ⟨k, hk, e⟩ := List.mem_map.mp h1
  exact ⟨k, List.mem_range.mp hk, e.symm⟩
theorem lb_len {ts : List Str} (h : 0 < ts.length) : (lb ts).length = ts.length := by
  obtain ⟨k, hk, e⟩ := lb_mem h
  rw [e, rot_len ts (by omega)]
/-- one row is the other, moved -/
def One (xs ys : List Str) : Prop := ∃ b : Int, ∀ i, cyc ys i = cyc xs (i + -b)
theorem One.refl (xs : List Str) : One xs xs := ⟨0, fun i => by rw [Int.neg_zero, Int.add_zero]⟩
theorem One.symm {xs ys : List Str} (h : One xs ys) : One ys xs := by
  obtain ⟨b, h⟩ := h
  exact ⟨-b, fun i => by rw [h]; congr 1; omega⟩
theorem One.trans {xs ys zs : List Str} (h : One xs ys) (g : One ys zs) : One xs zs := by
  obtain ⟨b, h⟩ := h
  obtain ⟨c, g⟩ := g
  exact ⟨b + c, fun i => by rw [g, h]; congr 1; omega⟩
theorem One.len {xs ys : List Str} (hx : Prim xs) (hy : Prim ys) (h : One xs ys) : xs.length = ys.length := by
  obtain ⟨b, h⟩ := h
  rw [← hx.2, ← hy.2]
  refine lr_congr hx.1 hy.1 fun k => ?_
  exact (per_shift (c := cyc xs) (c' := cyc ys) (st := -b) h k).symm
theorem One.mem {xs ys : List Str} (hx : 0 < xs.length) (hy : 0 < ys.length) (h : One xs ys) {k : Str} (hk : k ∈ ys) : k ∈ xs := by
  obtain ⟨b, h⟩ := h
  obtain ⟨j, hj, rfl⟩ := List.mem_iff_getElem.mp hk
  have := h (j : Int)
  rw [cyc_nat hj, List.getD_eq_getElem?_getD, List.getElem?_eq_getElem hj] at this
  show ys[j] ∈ xs
  have e : ys[j] = cyc xs ((j : Int) + -b) := this
  rw [e]; exact cyc_mem' hx _
theorem lb_iff {xs ys : List Str} (hx : Prim xs) (hy : Prim ys) : lb xs = lb ys ↔ One xs ys := by
  constructor
  · intro h
    obtain ⟨k, hk, e1⟩ := lb_mem hx.1
    obtain ⟨j, hj, e2⟩ := lb_mem hy.1
    rw [e1, e2] at h
    refine ⟨(j : Int) - (k : Int), fun i => ?_⟩
    have h1 := rot_cyc hk (i + -(j : Int))
    have h2 := rot_cyc hj (i + -(j : Int))
    rw [h, h2] at h1
    rw [show i + -(j : Int) + (j : Int) = i by omega] at h1
    rw [h1]; congr 1; omega
  · intro h
    have hl := h.len hx hy
    have key : ∀ {xs ys : List Str}, 0 < xs.length → xs.length = ys.length → One xs ys → ∀ t, t ∈ (List.range ys.length).map (rot ys) → t ∈ (List.range xs.length).map (rot xs) := by
      intro xs ys hp hl h t ht
      obtain ⟨b, h⟩ := h
      obtain ⟨j, hj, rfl⟩ := List.mem_map.mp ht
      have hj := List.mem_range.mp hj
      have q0 := Int.emod_nonneg ((j : Int) + -b) (b := (xs.length : Int)) (by omega)
      have q1 := Int.emod_lt_of_pos ((j : Int) + -b) (b := (xs.length : Int)) (by omega)
      refine List.mem_map.mpr ⟨(((j : Int) + -b) % (xs.length : Int)).toNat, List.mem_range.mpr (by omega), ?_⟩
      refine ext_cyc (by rw [rot_len _ (by omega), rot_len _ (by omega)]; exact hl) fun i => ?_
      rw [rot_cyc (by omega), rot_cyc hj, h, show (((((j : Int) + -b) % (xs.length : Int)).toNat : Nat) : Int) = ((j : Int) + -b) % (xs.length : Int) by omega, Int.emod_def]
      have := ((cyc_per (ts := xs)).mul (((j : Int) + -b) / (xs.length : Int))).neg (i + ((j : Int) + -b))
      rw [show i + (j : Int) + -b = i + ((j : Int) + -b) by omega, ← this]; congr 1; omega
    unfold lb
    apply minT_same
    intro t
    rw [lb_all hx.1, lb_all hy.1]
    exact ⟨key hy.1 hl.symm h.symm t, key hx.1 hl h t⟩
/-- the least move -/
def mbF (xs ys : List Str) : Option Nat := if xs.length = ys.length then (List.range xs.length).find? fun b => decide (xs = rot ys b) else none
theorem mb_at {xs ys : List Str} (hl : xs.length = ys.length) {b : Nat} (hb : b < xs.length) : xs = rot ys b ↔ ∀ i, cyc ys i = cyc xs (i + -(b : Int)) := by
  constructor
  · intro h i
    have := rot_cyc (ts := ys) (k := b) (by omega) (i + -(b : Int))
    rw [← h] at this
    rw [this]; congr 1; omega
  · intro h
    refine ext_cyc (by rw [rot_len _ (by omega)]; exact hl) fun i => ?_
    rw [rot_cyc (by omega), h]; congr 1; omega
theorem mb_some {xs ys : List Str} {b : Nat} (h : mbF xs ys = some b) : xs.length = ys.length ∧ b < xs.length ∧ (∀ i, cyc ys i = cyc xs (i + -(b : Int))) := by
  unfold mbF at h
  split at h
  · rename_i hl
    have h1 := List.mem_range.mp (List.mem_of_find?_eq_some h)
    have h2 : decide (xs = rot ys b) = true := List.find?_some (p := fun b => decide (xs = rot ys b)) h
    exact ⟨hl, h1, (mb_at hl h1).mp (of_decide_eq_true h2)⟩
  · cases h
theorem mb_none {xs ys : List Str} (hx : Prim xs) (hy : Prim ys) (h : mbF xs ys = none) : ¬ One xs ys := by
  intro ho
  have hl := ho.len hx hy
  have hp := hx.1
  obtain ⟨b, hb⟩ := ho
  unfold mbF at h
  rw [if_pos hl] at h
  have q0 := Int.emod_nonneg b (b := (xs.length : Int)) (by omega)
  have q1 := Int.emod_lt_of_pos b (b := (xs.length : Int)) (by omega)
  have := List.find?_eq_none.mp h (b % (xs.length : Int)).toNat (List.mem_range.mpr (by omega))
  apply this
  apply decide_eq_true
  refine (mb_at hl (by omega)).mpr fun i => ?_
  rw [hb, show (((b % (xs.length : Int)).toNat : Nat) : Int) = b % (xs.length : Int) by omega, Int.emod_def]
  have := (cyc_per (ts := xs)).mul (b / (xs.length : Int)) (i + -b)
  rw [← this]; congr 1; omega
theorem mb_iff {xs ys : List Str} (hx : Prim xs) (hy : Prim ys) : (mbF xs ys).isSome = decide (lb xs = lb ys) := by
  cases h : mbF xs ys with
  | none => rw [decide_eq_false fun e => mb_none hx hy h ((lb_iff hx hy).mp e)]; rfl
  | some b => rw [decide_eq_true ((lb_iff hx hy).mpr ⟨_, (mb_some h).2.2⟩)]; rfl
theorem mb_uniq {xs ys : List Str} (hx : Prim xs) {a b : Int} (ha : ∀ i, cyc ys i = cyc xs (i + -a)) (hb : ∀ i, cyc ys i = cyc xs (i + -b)) : (xs.length : Int) ∣ a - b := by
  rw [← hx.2]
  refine (per_iff hx.1 _).mp fun i => ?_
  have h1 := ha (i + a)
  have h2 := hb (i + a)
  rw [h1] at h2
  rw [show i + a + -a = i by omega] at h2
  rw [h2]; congr 1; omega
end PL

set_option Elab.async false
set_option linter.all false
set_option maxRecDepth 100000
set_option maxHeartbeats 1000000
/-! the fewest threads that tell a row -/
namespace PL
open PySem
/-- so many threads from a spot on -/
def seg (ts : List Str) (b : Int) (s : Nat) : List Str := (List.range s).map fun (j : Nat) => cyc ts (b + (j : Int))
theorem seg_len (ts : List Str) (b : Int) (s : Nat) : (seg ts b s).length = s := by unfold seg; rw [List.length_map, List.length_range]
theorem seg_getD {ts : List Str} {b : Int} {s j : Nat} (h : j < s) : (seg ts b s).getD j default = cyc ts (b + (j : Int)) := by unfold seg; rw [map_getD h]
/-- the thread at j of a word told by a manner -/
theorem getD_app {xs ys : List Str} {j : Nat} : (xs ++ ys).getD j default = if j < xs.length then xs.getD j default else ys.getD (j - xs.length) default := by
  rw [List.getD_eq_getElem?_getD]
  split
  · rename_i h
    rw [List.getElem?_append_left h, List.getD_eq_getElem?_getD]
  · rename_i h
    rw [List.getElem?_append_right (by omega), List.getD_eq_getElem?_getD]
theorem getD_dropLast {xs : List Str} {j : Nat} (h : j < xs.length - 1) : xs.dropLast.getD j default = xs.getD j default := by
  rw [List.getD_eq_getElem?_getD, List.getD_eq_getElem?_getD, List.getElem?_dropLast, if_pos h]
theorem pivot_getD {xs : List Str} {j : Nat} (h1 : xs.length ≤ j) (h2 : j < 2 * xs.length - 2) : (pivotW xs).getD j default = xs.getD (2 * xs.length - 2 - j) default := by
  unfold pivotW
  rw [getD_app, if_neg (by omega)]
  have hl : ((xs.drop 1).dropLast).length = xs.length - 2 := by rw [List.length_dropLast, List.length_drop]; omega
  rw [getD_rev _ (by omega), hl, getD_dropLast (by rw [List.length_drop]; omega), getD_drop]
  congr 1; omega
theorem fold_getD {xs : List Str} {j : Nat} (h1 : xs.length ≤ j) (h2 : j < 2 * xs.length) : (foldW xs).getD j default = xs.getD (2 * xs.length - 1 - j) default := by
  unfold foldW
  rw [getD_app, if_neg (by omega), getD_rev _ (by omega)]
  congr 1; omega
theorem left_getD {xs : List Str} {j : Nat} (h1 : xs.length ≤ j) (h2 : j < 2 * xs.length - 1) : (leftW xs).getD j default = xs.getD (2 * xs.length - 1 - j) default := by
  unfold leftW
  have hl : (xs.drop 1).length = xs.length - 1 := by rw [List.length_drop]
  rw [getD_app, if_neg (by omega), getD_rev _ (by omega), hl, getD_drop]
  congr 1; omega
theorem right_getD {xs : List Str} {j : Nat} (h1 : xs.length ≤ j) (h2 : j < 2 * xs.length - 1) : (rightW xs).getD j default = xs.getD (2 * xs.length - 2 - j) default := by
  unfold rightW
  have hl : xs.dropLast.length = xs.length - 1 := List.length_dropLast
  rw [getD_app, if_neg (by omega), getD_rev _ (by omega), hl, getD_dropLast (by omega)]
  congr 1; omega
theorem pivot_len (xs : List Str) (h : 2 ≤ xs.length) : (pivotW xs).length = 2 * xs.length - 2 := by
  unfold pivotW; rw [List.length_append, List.length_reverse, List.length_dropLast, List.length_drop]; omega
theorem fold_len (xs : List Str) : (foldW xs).length = 2 * xs.length := by
  unfold foldW; rw [List.length_append, List.length_reverse]; omega
theorem left_len (xs : List Str) (h : 1 ≤ xs.length) : (leftW xs).length = 2 * xs.length - 1 := by
  unfold leftW; rw [List.length_append, List.length_reverse, List.length_drop]; omega
theorem right_len (xs : List Str) (h : 1 ≤ xs.length) : (rightW xs).length = 2 * xs.length - 1 := by
  unfold rightW; rw [List.length_append, List.length_reverse, List.length_dropLast]; omega
/-- a list whose round is the mirrored one: about a -/
theorem mir_list {W : List Str} (hW : 0 < W.length) {a : Int} (h : ∀ j : Nat, j < W.length → W.getD j default = cyc W (a - (j : Int))) : MirF (cyc W) a := by
  intro i
  have q0 := Int.emod_nonneg i (b := (W.length : Int)) (by omega)
  have q1 := Int.emod_lt_of_pos i (b := (W.length : Int)) (by omega)
  have e := h (i % (W.length : Int)).toNat (by omega)
  have e1 : cyc W i = W.getD (i % (W.length : Int)).toNat default := rfl
  rw [e1, e, show (((i % (W.length : Int)).toNat : Nat) : Int) = i % (W.length : Int) by omega, Int.emod_def]
  have := (cyc_per (ts := W)).mul (i / (W.length : Int)) (a - i)
  rw [← this]; congr 1; omega
theorem cyc_at {W : List Str} {i : Int} {j : Nat} (hj : j < W.length) (z : Int) (e : i = (j : Int) + (W.length : Int) * z) : cyc W i = W.getD j default := by
  rw [e, (cyc_per (ts := W)).mul z, cyc_nat hj]
/-- the words of the four mirrored manners -/
theorem pivot_mir {xs : List Str} (h : 2 ≤ xs.length) : MirF (cyc (pivotW xs)) 0 := by
  have hl := pivot_len xs h
  refine mir_list (by omega) fun j hj => ?_
  by_cases h0 : j = 0
  · subst h0; exact (cyc_at (W := pivotW xs) (j := 0) (by omega) 0 (by omega)).symm
  · rw [cyc_at (W := pivotW xs) (j := (pivotW xs).length - j) (by omega) (-1) (by omega)]
    by_cases h1 : j < xs.length
    · by_cases h2 : (pivotW xs).length - j < xs.length
      · have : j = xs.length - 1 := by omega
        congr 1; omega
      · rw [pivot_getD (j := (pivotW xs).length - j) (by omega) (by omega)]
        unfold pivotW
        rw [getD_app, if_pos h1]
        congr 1
        show j = 2 * xs.length - 2 - ((pivotW xs).length - j)
        omega
    · rw [pivot_getD (by omega) (by omega)]
      have : (pivotW xs).length - j = 2 * xs.length - 2 - j := by omega
      rw [this]
      unfold pivotW
      rw [getD_app, if_pos (by omega)]
theorem fold_mir {xs : List Str} (h : 1 ≤ xs.length) : MirF (cyc (foldW xs)) (-1) := by
  have hl := fold_len xs
  refine mir_list (by omega) fun j hj => ?_
  rw [cyc_at (W := foldW xs) (j := (foldW xs).length - 1 - j) (by omega) (-1) (by omega)]
  by_cases h1 : j < xs.length
  · rw [fold_getD (j := (foldW xs).length - 1 - j) (by omega) (by omega)]
    unfold foldW
    rw [getD_app, if_pos h1]
    congr 1
    show j = 2 * xs.length - 1 - ((foldW xs).length - 1 - j)
    omega
  · rw [fold_getD (by omega) (by omega)]
    have : (foldW xs).length - 1 - j = 2 * xs.length - 1 - j := by omega
    rw [this]
    unfold foldW
    rw [getD_app, if_pos (by omega)]
theorem left_mir {xs : List Str} (h : 1 ≤ xs.length) : MirF (cyc (leftW xs)) 0 := by
  have hl := left_len xs h
  refine mir_list (by omega) fun j hj => ?_
  by_cases h0 : j = 0
  · subst h0; exact (cyc_at (W := leftW xs) (j := 0) (by omega) 0 (by omega)).symm
  · rw [cyc_at (W := leftW xs) (j := (leftW xs).length - j) (by omega) (-1) (by omega)]
    by_cases h1 : j < xs.length
    · rw [left_getD (j := (leftW xs).length - j) (by omega) (by omega)]
      unfold leftW
      rw [getD_app, if_pos h1]
      congr 1
      show j = 2 * xs.length - 1 - ((leftW xs).length - j)
      omega
    · rw [left_getD (by omega) (by omega)]
      have : (leftW xs).length - j = 2 * xs.length - 1 - j := by omega
      rw [this]
      unfold leftW
      rw [getD_app, if_pos (by omega)]
theorem right_mir {xs : List Str} (h : 1 ≤ xs.length) : MirF (cyc (rightW xs)) (-1) := by
  have hl := right_len xs h
  refine mir_list (by omega) fun j hj => ?_
  rw [cyc_at (W := rightW xs) (j := (rightW xs).length - 1 - j) (by omega) (-1) (by omega)]
  by_cases h1 : j < xs.length
  · by_cases h2 : (rightW xs).length - 1 - j < xs.length
    · have : j = xs.length - 1 := by omega
      congr 1; omega
    · rw [right_getD (j := (rightW xs).length - 1 - j) (by omega) (by omega)]
      unfold rightW
      rw [getD_app, if_pos h1]
      congr 1
      show j = 2 * xs.length - 2 - ((rightW xs).length - 1 - j)
      omega
  · rw [right_getD (by omega) (by omega)]
    have : (rightW xs).length - 1 - j = 2 * xs.length - 2 - j := by omega
    rw [this]
    unfold rightW
    rw [getD_app, if_pos (by omega)]
/-- how few threads a mirrored row can be told by -/
def byL (ts : List Str) : Nat := match mir ts with
  | none => ts.length
  | some a => if ts.length % 2 = 1 then (ts.length + 1) / 2 else min ts.length (ts.length / 2 + 1 - a % 2)
/-- a word that lays the row, by the law's look over a round of both -/
def Lays (ts W : List Str) (st : Int) : Prop := ∀ i : Nat, i < ts.length + W.length → cyc ts (i : Int) = cyc W ((i : Int) + st)
theorem lays_per {ts W : List Str} (hp : Prim ts) (hW : 0 < W.length) {st : Int} (h : Lays ts W st) : (ts.length : Int) ∣ (W.length : Int) ∧ ∀ i, cyc ts i = cyc W (i + st) := by
  have h0 := hp.1
  have hper : Per (cyc ts) (W.length : Int) := fun i => by
    have q0 := Int.emod_nonneg i (b := (ts.length : Int)) (by omega)
    have q1 := Int.emod_lt_of_pos i (b := (ts.length : Int)) (by omega)
    have e1 := h (i % (ts.length : Int)).toNat (by omega)
    have e2 := h ((i % (ts.length : Int)).toNat + W.length) (by omega)
    rw [show (((i % (ts.length : Int)).toNat : Nat) : Int) = i % (ts.length : Int) by omega] at e1
    rw [show (((i % (ts.length : Int)).toNat + W.length : Nat) : Int) = i % (ts.length : Int) + (W.length : Int) by omega] at e2
    have e3 : cyc W (i % (ts.length : Int) + (W.length : Int) + st) = cyc W (i % (ts.length : Int) + st) := by
      have := cyc_per (ts := W) (i % (ts.length : Int) + st)
      rw [← this]; congr 1; omega
    rw [e3, ← e1] at e2
    rw [cyc_mod] at e2
    rw [← e2, Int.emod_def]
    have := ((cyc_per (ts := ts)).mul (i / (ts.length : Int))).neg (i + (W.length : Int))
    rw [← this]; congr 1; omega
  have hd : (ts.length : Int) ∣ (W.length : Int) := by
    have := (per_iff h0 (W.length : Int)).mp hper
    rw [hp.2] at this; exact this
  refine ⟨hd, fun i => ?_⟩
  have hpW : ∀ k, cyc W (k + (W.length : Int)) = cyc W k := cyc_per (ts := W)
  have q0 := Int.emod_nonneg i (b := (W.length : Int)) (by omega)
  have q1 := Int.emod_lt_of_pos i (b := (W.length : Int)) (by omega)
  have e1 := h (i % (W.length : Int)).toNat (by omega)
  rw [show (((i % (W.length : Int)).toNat : Nat) : Int) = i % (W.length : Int) by omega, Int.emod_def] at e1
  have a1 := (hper.mul (i / (W.length : Int))).neg i
  have a2 := ((cyc_per (ts := W)).mul (i / (W.length : Int))).neg (i + st)
  rw [← a1, ← a2, show i + st + -((W.length : Int) * (i / (W.length : Int))) = i - (W.length : Int) * (i / (W.length : Int)) + st by omega]
  exact e1
theorem mirF_shift {c d : Int → Str} {st a : Int} (h : ∀ i, c i = d (i + st)) (m : MirF d a) : MirF c (a - 2 * st) := fun i => by
  rw [h, h, m]; congr 1; omega
theorem mir_par {ts : List Str} (hp : Prim ts) {a : Nat} (h : mir ts = some a) {b : Int} (hb : MirF (cyc ts) b) (he : ts.length % 2 = 0) : b % 2 = ((a % 2 : Nat) : Int) := by
  have hd := mir_uniq hp (mir_get h).2 hb
  obtain ⟨q, hq⟩ := hd
  obtain ⟨m, hm⟩ : ∃ m : Nat, ts.length = 2 * m := ⟨ts.length / 2, by omega⟩
  rw [hm] at hq
  have : (a : Int) - b = 2 * ((m : Int) * q) := by rw [hq, Int.natCast_mul, Int.mul_assoc]; rfl
  omega
theorem mir_ex {ts : List Str} (hn : 0 < ts.length) {b : Int} (hb : MirF (cyc ts) b) : ∃ a, mir ts = some a := by
  cases e : mir ts with
  | none => exact absurd e (mir_has hn hb)
  | some a => exact ⟨a, rfl⟩
/-- told by fewer threads than a round, it is told by just so many -/
theorem lays_few {ts told : List Str} (hp : Prim ts) (ht : 0 < told.length) (hlt : told.length < ts.length) {m : Mnr} {st : Int} (h : Lays ts (lawW m told) st) : told.length = byL ts := by
  have h0 := hp.1
  have hW := lawW_len m ht
  obtain ⟨hd, hall⟩ := lays_per hp hW h
  have hle := Int.le_of_dvd (by omega) hd
  unfold lawW at hd hall hle
  by_cases h1 : told.length = 1
  · rw [if_pos h1] at hle; omega
  rw [if_neg h1] at hd hall hle
  -- the only multiple of a round below two rounds
  have key : ∀ L : Nat, (ts.length : Int) ∣ (L : Int) → 0 < L → L < 2 * ts.length → L = ts.length := fun L hd hL hL2 => by
    obtain ⟨q, hq⟩ := hd
    have hq1 : q = 1 := by
      rcases (by omega : q ≤ 0 ∨ q = 1 ∨ 2 ≤ q) with z | z | z
      · have : (ts.length : Int) * q ≤ 0 := Int.mul_nonpos_of_nonneg_of_nonpos (by omega) z
        omega
      · exact z
      · have : (ts.length : Int) * 2 ≤ (ts.length : Int) * q := Int.mul_le_mul_of_nonneg_left z (by omega)
        omega
    rw [hq1] at hq; omega
  cases m with
  | run =>
    have : (layW .run told).length = told.length := rfl
    omega
  | pivot =>
    have hl := pivot_len told (by omega)
    have hl' : (layW .pivot told).length = 2 * told.length - 2 := hl
    rw [hl'] at hd hle
    have e := key _ hd (by omega) (by omega)
    have hm := mirF_shift hall (pivot_mir (xs := told) (by omega))
    obtain ⟨a, ha⟩ := mir_ex h0 hm
    have hpar := mir_par hp ha hm (by omega)
    unfold byL
    rw [ha]
    show told.length = if ts.length % 2 = 1 then _ else _
    rw [if_neg (by omega), show a % 2 = 0 by omega]
    omega
  | fold =>
    have hl' : (layW .fold told).length = 2 * told.length := fold_len told
    rw [hl'] at hd hle
    have e := key _ hd (by omega) (by omega)
    have hm := mirF_shift hall (fold_mir (xs := told) (by omega))
    obtain ⟨a, ha⟩ := mir_ex h0 hm
    have hpar := mir_par hp ha hm (by omega)
    unfold byL
    rw [ha]
    show told.length = if ts.length % 2 = 1 then _ else _
    rw [if_neg (by omega), show a % 2 = 1 by omega]
    omega
  | left =>
    have hl' : (layW .left told).length = 2 * told.length - 1 := left_len told (by omega)
    rw [hl'] at hd hle
    have e := key _ hd (by omega) (by omega)
    have hm := mirF_shift hall (left_mir (xs := told) (by omega))
    obtain ⟨a, ha⟩ := mir_ex h0 hm
    unfold byL
    rw [ha]
    show told.length = if ts.length % 2 = 1 then _ else _
    rw [if_pos (by omega)]
    omega
  | right =>
    have hl' : (layW .right told).length = 2 * told.length - 1 := right_len told (by omega)
    rw [hl'] at hd hle
    have e := key _ hd (by omega) (by omega)
    have hm := mirF_shift hall (right_mir (xs := told) (by omega))
    obtain ⟨a, ha⟩ := mir_ex h0 hm
    unfold byL
    rw [ha]
    show told.length = if ts.length % 2 = 1 then _ else _
    rw [if_pos (by omega)]
    omega
/-- half of a mirrored round: manner, first spot, how many -/
def halfM (n a : Nat) : Mnr := if n % 2 = 1 then .left else if a % 2 = 0 then .pivot else .fold
def halfF (n a : Nat) : Nat := if n % 2 = 1 then (a + n * (a % 2)) / 2 else if a % 2 = 0 then a / 2 else (a + 1) / 2
def halfS (n a : Nat) : Nat := if n % 2 = 1 then (n + 1) / 2 else if a % 2 = 0 then n / 2 + 1 else n / 2
theorem half_lays {ts : List Str} (hpr : Prim ts) {a : Nat} (ha : MirF (cyc ts) (a : Int)) (hs : halfS ts.length a < ts.length) : (lawW (halfM ts.length a) (seg ts (halfF ts.length a) (halfS ts.length a))).length = ts.length ∧ ∀ j : Nat, j < ts.length → (lawW (halfM ts.length a) (seg ts (halfF ts.length a) (halfS ts.length a))).getD j default = cyc ts ((halfF ts.length a : Nat) + (j : Int)) := by
  have hn := hpr.1
  have hp := cyc_per (ts := ts)
  unfold halfM halfF halfS at *
  by_cases h1 : ts.length % 2 = 1
  · rw [if_pos h1] at hs ⊢
    rw [if_pos h1, if_pos h1]
    have hsl := seg_len ts ((((a + ts.length * (a % 2)) / 2 : Nat) : Int)) ((ts.length + 1) / 2)
    have hne : ¬ (seg ts ((((a + ts.length * (a % 2)) / 2 : Nat) : Int)) ((ts.length + 1) / 2)).length = 1 := by omega
    unfold lawW
    rw [if_neg hne]
    show (leftW _).length = _ ∧ ∀ j : Nat, j < ts.length → (leftW _).getD j default = _
    have hll := left_len (seg ts ((((a + ts.length * (a % 2)) / 2 : Nat) : Int)) ((ts.length + 1) / 2)) (by omega)
    refine ⟨by omega, fun j hj => ?_⟩
    by_cases h2 : j < (ts.length + 1) / 2
    · unfold leftW
      rw [getD_app, if_pos (by omega), seg_getD h2]
    · rw [left_getD (by omega) (by omega), hsl, seg_getD (by omega)]
      -- mirrored
      rw [ha ((((a + ts.length * (a % 2)) / 2 : Nat) : Int) + (j : Int))]
      have hk : ∃ z : Int, (((a + ts.length * (a % 2)) / 2 : Nat) : Int) + ((2 * ((ts.length + 1) / 2) - 1 - j : Nat) : Int) = (a : Int) - ((((a + ts.length * (a % 2)) / 2 : Nat) : Int) + (j : Int)) + (ts.length : Int) * z := by
        rcases (by omega : a % 2 = 0 ∨ a % 2 = 1) with e | e
        · rw [e, Nat.mul_zero]
          exact ⟨1, by omega⟩
        · rw [e, Nat.mul_one]
          exact ⟨2, by omega⟩
      obtain ⟨z, hz⟩ := hk
      rw [hz]; exact hp.mul z _
  · rw [if_neg h1] at hs ⊢
    rw [if_neg h1, if_neg h1]
    by_cases h2 : a % 2 = 0
    · rw [if_pos h2] at hs ⊢
      rw [if_pos h2, if_pos h2]
      have hsl := seg_len ts (((a / 2 : Nat) : Int)) (ts.length / 2 + 1)
      have hne : ¬ (seg ts (((a / 2 : Nat) : Int)) (ts.length / 2 + 1)).length = 1 := by omega
      unfold lawW
      rw [if_neg hne]
      show (pivotW _).length = _ ∧ ∀ j : Nat, j < ts.length → (pivotW _).getD j default = _
      have hll := pivot_len (seg ts (((a / 2 : Nat) : Int)) (ts.length / 2 + 1)) (by omega)
      refine ⟨by omega, fun j hj => ?_⟩
      by_cases h3 : j < ts.length / 2 + 1
      · unfold pivotW
        rw [getD_app, if_pos (by omega), seg_getD h3]
      · rw [pivot_getD (by omega) (by omega), hsl, seg_getD (by omega), ha (((a / 2 : Nat) : Int) + (j : Int))]
        rw [show ((a / 2 : Nat) : Int) + ((2 * (ts.length / 2 + 1) - 2 - j : Nat) : Int) = (a : Int) - (((a / 2 : Nat) : Int) + (j : Int)) + (ts.length : Int) * 1 by omega]
        exact hp.mul 1 _
    · rw [if_neg h2] at hs ⊢
      rw [if_neg h2, if_neg h2]
      have hsl := seg_len ts ((((a + 1) / 2 : Nat) : Int)) (ts.length / 2)
      unfold lawW
      by_cases hone : (seg ts ((((a + 1) / 2 : Nat) : Int)) (ts.length / 2)).length = 1
      · -- two threads: turned about between them they are the same, so a round of one
        rw [if_pos hone]
        exfalso
        have h2l : ts.length = 2 := by omega
        have hp1 : Per (cyc ts) 1 := fun i => by
          have e := ha (i + 1)
          rw [e]
          -- a - (i + 1) and i are as far as the parity of a tells
          have hk : ∃ z : Int, (a : Int) - (i + 1) = i + 1 - 1 + (ts.length : Int) * z ∨ (a : Int) - (i + 1) = i + (ts.length : Int) * z := by
            rw [h2l]
            exact ⟨((a : Int) - 1) / 2 - i, .inr (by omega)⟩
          obtain ⟨z, hz | hz⟩ := hk
          · rw [hz, show i + 1 - 1 + (ts.length : Int) * z = i + (ts.length : Int) * z by omega]; exact hp.mul z _
          · rw [hz]; exact hp.mul z _
        have := (per_iff hn 1).mp hp1
        rw [hpr.2, h2l] at this
        have := Int.le_of_dvd (by decide) this
        omega
      · rw [if_neg hone]
        show (foldW _).length = _ ∧ ∀ j : Nat, j < ts.length → (foldW _).getD j default = _
        have hll := fold_len (seg ts ((((a + 1) / 2 : Nat) : Int)) (ts.length / 2))
        refine ⟨by omega, fun j hj => ?_⟩
        by_cases h3 : j < ts.length / 2
        · unfold foldW
          rw [getD_app, if_pos (by omega), seg_getD h3]
        · rw [fold_getD (by omega) (by omega), hsl, seg_getD (by omega), ha ((((a + 1) / 2 : Nat) : Int) + (j : Int))]
          rw [show (((a + 1) / 2 : Nat) : Int) + ((2 * (ts.length / 2) - 1 - j : Nat) : Int) = (a : Int) - ((((a + 1) / 2 : Nat) : Int) + (j : Int)) + (ts.length : Int) * 1 by omega]
          exact hp.mul 1 _
theorem half_byL {ts : List Str} {a : Nat} (ha : mir ts = some a) (hl : a < ts.length) : byL ts = min ts.length (halfS ts.length a) := by
  unfold byL halfS
  rw [ha]
  show (if ts.length % 2 = 1 then _ else _) = _
  by_cases h1 : ts.length % 2 = 1
  · rw [if_pos h1, if_pos h1]; omega
  · rw [if_neg h1, if_neg h1]
    by_cases h2 : a % 2 = 0
    · rw [if_pos h2, h2]
      omega
    · rw [if_neg h2, show a % 2 = 1 by omega]
      omega
/-- the telling by half a round lays the row -/
theorem half_cyc {ts : List Str} (hpr : Prim ts) {a : Nat} (ha : MirF (cyc ts) (a : Int)) (hs : halfS ts.length a < ts.length) (i : Int) : cyc (lawW (halfM ts.length a) (seg ts (halfF ts.length a) (halfS ts.length a))) i = cyc ts ((halfF ts.length a : Nat) + i) := by
  obtain ⟨h1, h2⟩ := half_lays hpr ha hs
  have hn := hpr.1
  generalize lawW (halfM ts.length a) (seg ts (halfF ts.length a) (halfS ts.length a)) = W at h1 h2
  have q0 := Int.emod_nonneg i (b := (W.length : Int)) (by omega)
  have q1 := Int.emod_lt_of_pos i (b := (W.length : Int)) (by omega)
  have e := h2 (i % (W.length : Int)).toNat (by omega)
  have e1 : cyc W i = W.getD (i % (W.length : Int)).toNat default := rfl
  rw [e1, e, show (((i % (W.length : Int)).toNat : Nat) : Int) = i % (W.length : Int) by omega, h1, Int.emod_def]
  have := ((cyc_per (ts := ts)).mul (i / (ts.length : Int))).neg ((halfF ts.length a : Nat) + i)
  rw [← this]; congr 1; omega
def laysB (ts W : List Str) (st : Int) : Bool := (List.range (ts.length + W.length)).all fun (i : Nat) => decide (cyc ts (i : Int) = cyc W ((i : Int) + st))
theorem laysB_iff {ts W : List Str} {st : Int} : laysB ts W st = true ↔ Lays ts W st := by
  unfold laysB Lays
  rw [List.all_eq_true]
  constructor
  · intro h i hi
    exact of_decide_eq_true (h i (List.mem_range.mpr hi))
  · intro h i hi
    exact decide_eq_true (h i (List.mem_range.mp hi))
def mn5 : List Mnr := [.run, .pivot, .fold, .left, .right]
def fwW (ts : List Str) (s b : Nat) : Bool := mn5.any fun m => laysB ts (lawW m (seg ts (b : Int) s)) ((0 - (b : Int)) % (ts.length : Int))
def fwB (ts : List Str) (s : Nat) : Bool := (List.range ts.length).any (fwW ts s)
def fewestF (ts : List Str) : Nat := ((List.range (ts.length - 1)).find? fun s => fwB ts (s + 1)).elim ts.length (· + 1)
theorem seg_mod (ts : List Str) (b : Int) (s : Nat) : seg ts (b % (ts.length : Int)) s = seg ts b s := by
  unfold seg
  apply List.map_congr_left
  intro j _
  rw [Int.emod_def]
  have := ((cyc_per (ts := ts)).mul (b / (ts.length : Int))).neg (b + (j : Int))
  rw [← this]; congr 1; omega
theorem mem5 (m : Mnr) : m ∈ mn5 := by cases m <;> simp [mn5]
theorem fewest_eq {ts : List Str} (hp : Prim ts) : fewestF ts = byL ts := by
  have hn := hp.1
  unfold fewestF
  cases e : (List.range (ts.length - 1)).find? fun s => fwB ts (s + 1) with
  | some s =>
    have h1 := List.mem_range.mp (List.mem_of_find?_eq_some e)
    have h2 : fwB ts (s + 1) = true := List.find?_some (p := fun s => fwB ts (s + 1)) e
    obtain ⟨b, hb, h3⟩ := List.any_eq_true.mp h2
    obtain ⟨m, _, h4⟩ := List.any_eq_true.mp h3
    have := lays_few hp (told := seg ts (b : Int) (s + 1)) (by rw [seg_len]; omega) (by rw [seg_len]; omega) (laysB_iff.mp h4)
    rw [seg_len] at this
    exact this
  | none =>
    show ts.length = byL ts
    have hle : byL ts ≤ ts.length := by
      unfold byL
      split
      · exact Nat.le_refl _
      · split <;> omega
    rcases Nat.lt_or_ge (byL ts) ts.length with hlt | hge
    · exfalso
      cases ha : mir ts with
      | none =>
        have hb : byL ts = ts.length := by unfold byL; rw [ha]
        omega
      | some a =>
        obtain ⟨ha1, ha2⟩ := mir_get ha
        have hb := half_byL ha ha1
        have hs : halfS ts.length a < ts.length := by omega
        have hs0 : 0 < halfS ts.length a := by unfold halfS; split <;> (try split) <;> omega
        have hcyc := half_cyc hp ha2 hs
        have hf := List.find?_eq_none.mp e (halfS ts.length a - 1) (List.mem_range.mpr (by omega))
        apply hf
        rw [show halfS ts.length a - 1 + 1 = halfS ts.length a by omega]
        have q0 := Int.emod_nonneg ((halfF ts.length a : Nat) : Int) (b := (ts.length : Int)) (by omega)
        have q1 := Int.emod_lt_of_pos ((halfF ts.length a : Nat) : Int) (b := (ts.length : Int)) (by omega)
        refine List.any_eq_true.mpr ⟨(((halfF ts.length a : Nat) : Int) % (ts.length : Int)).toNat, List.mem_range.mpr (by omega), ?_⟩
        refine List.any_eq_true.mpr ⟨halfM ts.length a, mem5 _, laysB_iff.mpr fun i hi => ?_⟩
        rw [show (((((halfF ts.length a : Nat) : Int) % (ts.length : Int)).toNat : Nat) : Int) = ((halfF ts.length a : Nat) : Int) % (ts.length : Int) by omega, seg_mod, hcyc]
        rw [Int.emod_def (0 - _), Int.emod_def]
        generalize ((halfF ts.length a : Nat) : Int) / (ts.length : Int) = z
        generalize (0 - (((halfF ts.length a : Nat) : Int) - (ts.length : Int) * z)) / (ts.length : Int) = y
        have := (cyc_per (ts := ts)).mul (z - y) (i : Int)
        rw [← this, Int.mul_sub]; congr 1; omega
    · omega
end PL

set_option Elab.async false
set_option linter.all false
set_option maxRecDepth 100000
set_option maxHeartbeats 1000000
namespace PL
open PySem
/-- the telling that the program finds: manner, first spot, how many threads -/
def tell (ts : List Str) : Mnr × Nat × Nat := match mir ts with
  | none => (.run, 0, ts.length)
  | some a => if halfS ts.length a < ts.length then (halfM ts.length a, halfF ts.length a, halfS ts.length a) else (.run, 0, ts.length)
def toldL (ts : List Str) : List Str := seg ts ((tell ts).2.1 : Nat) (tell ts).2.2
def tellSt (ts : List Str) : Int := (0 - ((tell ts).2.1 : Nat)) % (ts.length : Int)
theorem told_len {ts : List Str} : (toldL ts).length = byL ts := by
  unfold toldL
  rw [seg_len]
  unfold tell
  cases ha : mir ts with
  | none => unfold byL; rw [ha]
  | some a =>
    have h1 := (mir_get ha).1
    have h2 := half_byL ha h1
    show (if halfS ts.length a < ts.length then _ else _ : Mnr × Nat × Nat).2.2 = _
    rw [h2]
    split
    · show halfS ts.length a = _; omega
    · show ts.length = _; omega
theorem byL_pos {ts : List Str} (h : 0 < ts.length) : 0 < byL ts ∧ byL ts ≤ ts.length := by
  unfold byL
  split
  · exact ⟨h, Nat.le_refl _⟩
  · rename_i a ha
    have := (mir_get ha).1
    split
    · omega
    · omega
theorem lawW_run (xs : List Str) : lawW .run xs = xs := by unfold lawW; split <;> rfl
theorem seg_whole {ts : List Str} : seg ts ((0 : Nat) : Int) ts.length = ts := by
  unfold seg
  apply List.ext_getElem
  · rw [List.length_map, List.length_range]
  · intro j h1 h2
    rw [List.getElem_map, List.getElem_range, show (((0 : Nat) : Int) + (j : Int)) = (j : Int) by omega, cyc_nat h2, List.getD_eq_getElem?_getD, List.getElem?_eq_getElem h2]
    rfl
theorem told_cyc {ts : List Str} (hp : Prim ts) (i : Int) : cyc (lawW (tell ts).1 (toldL ts)) i = cyc ts (((tell ts).2.1 : Nat) + i) := by
  unfold toldL tell
  cases ha : mir ts with
  | none =>
    show cyc (lawW .run (seg ts ((0 : Nat) : Int) ts.length)) i = cyc ts (((0 : Nat) : Int) + i)
    rw [lawW_run, seg_whole]; congr 1; omega
  | some a =>
    show cyc (lawW (if halfS ts.length a < ts.length then _ else _ : Mnr × Nat × Nat).1 (seg ts ((if halfS ts.length a < ts.length then _ else _ : Mnr × Nat × Nat).2.1 : Nat) (if halfS ts.length a < ts.length then _ else _ : Mnr × Nat × Nat).2.2)) i = cyc ts (((if halfS ts.length a < ts.length then _ else _ : Mnr × Nat × Nat).2.1 : Nat) + i)
    by_cases h : halfS ts.length a < ts.length
    · rw [if_pos h]
      exact half_cyc hp (mir_get ha).2 h i
    · rw [if_neg h]
      show cyc (lawW .run (seg ts ((0 : Nat) : Int) ts.length)) i = cyc ts (((0 : Nat) : Int) + i)
      rw [lawW_run, seg_whole]; congr 1; omega
theorem told_all {ts : List Str} (hp : Prim ts) (i : Int) : cyc (lawW (tell ts).1 (toldL ts)) (i + tellSt ts) = cyc ts i := by
  rw [told_cyc hp]
  unfold tellSt
  rw [Int.emod_def]
  have := (cyc_per (ts := ts)).mul (-((0 - ((tell ts).2.1 : Nat)) / (ts.length : Int))) i
  rw [← this, Int.mul_neg]; congr 1; omega
theorem told_lays {ts : List Str} (hp : Prim ts) : laysB ts (lawW (tell ts).1 (toldL ts)) (tellSt ts) = true := laysB_iff.mpr fun i _ => (told_all hp i).symm
theorem told_pos {ts : List Str} (hp : Prim ts) : 0 < (toldL ts).length ∧ (toldL ts).length ≤ ts.length := by rw [told_len]; exact byL_pos hp.1
theorem told_row {ts : List Str} (hp : Prim ts) : spin (layW (tell ts).1 (toldL ts)) (lr (layW (tell ts).1 (toldL ts))) (tellSt ts) = ts := by
  have h0 := (told_pos hp).1
  apply prim_ext (spin_prim (layW_pos _ h0) _) hp
  intro i
  rw [← due_row _ h0, due_cyc (lawW_len _ h0), told_all hp]
theorem cyc_memM {ts : List Str} (h : 0 < ts.length) (i : Int) : cyc ts i ∈ ts := by
  have b1 := Int.emod_nonneg i (b := (ts.length : Int)) (by omega)
  have b2 := Int.emod_lt_of_pos i (b := (ts.length : Int)) (by omega)
  unfold cyc
  rw [List.getD_eq_getElem?_getD, List.getElem?_eq_getElem (by omega)]
  exact List.getElem_mem _
theorem told_mem {ts : List Str} (h : 0 < ts.length) : ∀ t ∈ toldL ts, t ∈ ts := fun t ht => by
  obtain ⟨j, _, rfl⟩ := List.mem_map.mp ht
  exact cyc_memM h _
theorem tellSt_ok {ts : List Str} (h : 0 < ts.length) : 0 ≤ tellSt ts ∧ tellSt ts < (ts.length : Int) := ⟨Int.emod_nonneg _ (by omega), Int.emod_lt_of_pos _ (by omega)⟩
theorem mir_head {ts : List Str} : ((List.range ts.length).filter (mirAt ts)).head? = mir ts := List.head?_filter ..
end PL

set_option Elab.async false
set_option linter.all false
set_option maxRecDepth 100000
set_option maxHeartbeats 1000000
/-! rows told otherwise: begun elsewhere, mirrored -/
namespace PL
open PySem
theorem rowK_mk {ps : List (Str × Int)} {m : Mnr} {st : Int} {ts : List Str} (hW : 0 < (layW m (thr ps)).length) (h0 : 0 < ts.length) (h : ∀ i, cyc (layW m (thr ps)) (i + st) = cyc ts i) : rowK ps m st = mkR ts := by
  refine prim_ext (spin_prim hW st) (mkR_prim h0) fun i => ?_
  rw [mkR_cyc h0]
  have := cyc_spin (st := st) (lr_pos hW) (lr_le _) (lr_spec hW).2.1 i
  unfold rowK
  rw [this, h]
theorem rowK_lr {ps : List (Str × Int)} {m : Mnr} {st : Int} {ts : List Str} (h : rowK ps m st = mkR ts) : lr (layW m (thr ps)) ≤ ts.length := by
  have h1 := congrArg List.length h
  unfold rowK at h1
  rw [spin_len] at h1
  rw [h1]
  exact mkR_le ts
theorem per_mul {ts : List Str} (z : Int) (i : Int) : cyc ts (i + (ts.length : Int) * z) = cyc ts i := (cyc_per (ts := ts)).mul z i
/-- by half a mirrored round -/
theorem half_cyc2 {ts : List Str} (h0 : 0 < ts.length) {a : Nat} (hal : a < ts.length) (ha : MirF (cyc ts) (a : Int)) : (layW (halfM ts.length a) (seg ts (halfF ts.length a : Nat) (halfS ts.length a))).length = ts.length ∧ ∀ i, cyc (layW (halfM ts.length a) (seg ts (halfF ts.length a : Nat) (halfS ts.length a))) i = cyc ts ((halfF ts.length a : Nat) + i) := by
  have fin : ∀ W : List Str, W.length = ts.length → (∀ j : Nat, j < ts.length → W.getD j default = cyc ts ((halfF ts.length a : Nat) + (j : Int))) → ∀ i, cyc W i = cyc ts ((halfF ts.length a : Nat) + i) := by
    intro W hl hW i
    have e1 : 0 ≤ i % (ts.length : Int) := Int.emod_nonneg _ (by omega)
    have e2 : i % (ts.length : Int) < ts.length := Int.emod_lt_of_pos _ (by omega)
    have e3 := Int.emod_add_mul_ediv i (ts.length : Int)
    unfold cyc
    rw [hl, hW _ (by omega)]
    show cyc ts _ = cyc ts _
    rw [show ((halfF ts.length a : Nat) : Int) + (((i % (ts.length : Int)).toNat : Nat) : Int) = ((halfF ts.length a : Nat) : Int) + i + (ts.length : Int) * (-(i / (ts.length : Int))) by rw [Int.mul_neg]; omega]
    exact per_mul _ _
  unfold halfM halfS
  by_cases c1 : ts.length % 2 = 1
  · rw [if_pos c1, if_pos c1]
    have hF : 2 * (halfF ts.length a : Nat) = a + ts.length * (a % 2) := by
      unfold halfF
      rw [if_pos c1]
      rcases (by omega : a % 2 = 0 ∨ a % 2 = 1) with z | z
      · rw [z]; omega
      · rw [z]; omega
    have hs : (seg ts (halfF ts.length a : Nat) ((ts.length + 1) / 2)).length = (ts.length + 1) / 2 := seg_len _ _ _
    have hl : (leftW (seg ts (halfF ts.length a : Nat) ((ts.length + 1) / 2))).length = ts.length := by rw [left_len _ (by rw [hs]; omega), hs]; omega
    refine ⟨hl, fin _ hl fun j hj => ?_⟩
    by_cases hjs : j < (ts.length + 1) / 2
    · show List.getD ((_ : List Str) ++ (_ : List Str)) j default = _
      rw [getD_app, if_pos (by rw [hs]; exact hjs), seg_getD hjs]
    · show (leftW _).getD j default = _
      rw [left_getD (by rw [hs]; omega) (by rw [hs]; omega), hs, seg_getD (by omega), ha]
      rcases (by omega : a % 2 = 0 ∨ a % 2 = 1) with z | z
      · rw [z, Nat.mul_zero] at hF
        rw [show (a : Int) - (((halfF ts.length a : Nat) : Int) + ((2 * ((ts.length + 1) / 2) - 1 - j : Nat) : Int)) = ((halfF ts.length a : Nat) : Int) + j + (ts.length : Int) * (-1) by omega]
        exact per_mul _ _
      · rw [z, Nat.mul_one] at hF
        rw [show (a : Int) - (((halfF ts.length a : Nat) : Int) + ((2 * ((ts.length + 1) / 2) - 1 - j : Nat) : Int)) = ((halfF ts.length a : Nat) : Int) + j + (ts.length : Int) * (-2) by omega]
        exact per_mul _ _
  · rw [if_neg c1, if_neg c1]
    by_cases c2 : a % 2 = 0
    · rw [if_pos c2, if_pos c2]
      have hF : 2 * (halfF ts.length a : Nat) = a := by
        unfold halfF
        rw [if_neg c1, if_pos c2]; omega
      have hs : (seg ts (halfF ts.length a : Nat) (ts.length / 2 + 1)).length = ts.length / 2 + 1 := seg_len _ _ _
      have hl : (pivotW (seg ts (halfF ts.length a : Nat) (ts.length / 2 + 1))).length = ts.length := by rw [pivot_len _ (by rw [hs]; omega), hs]; omega
      refine ⟨hl, fin _ hl fun j hj => ?_⟩
      by_cases hjs : j < ts.length / 2 + 1
      · show List.getD ((_ : List Str) ++ (_ : List Str)) j default = _
        rw [getD_app, if_pos (by rw [hs]; exact hjs), seg_getD hjs]
      · show (pivotW _).getD j default = _
        rw [pivot_getD (by rw [hs]; omega) (by rw [hs]; omega), hs, seg_getD (by omega), ha]
        rw [show (a : Int) - (((halfF ts.length a : Nat) : Int) + ((2 * (ts.length / 2 + 1) - 2 - j : Nat) : Int)) = ((halfF ts.length a : Nat) : Int) + j + (ts.length : Int) * (-1) by omega]
        exact per_mul _ _
    · rw [if_neg c2, if_neg c2]
      have hF : 2 * (halfF ts.length a : Nat) = a + 1 := by
        unfold halfF
        rw [if_neg c1, if_neg c2]; omega
      have hs : (seg ts (halfF ts.length a : Nat) (ts.length / 2)).length = ts.length / 2 := seg_len _ _ _
      have hl : (foldW (seg ts (halfF ts.length a : Nat) (ts.length / 2))).length = ts.length := by rw [fold_len, hs]; omega
      refine ⟨hl, fin _ hl fun j hj => ?_⟩
      by_cases hjs : j < ts.length / 2
      · show List.getD ((_ : List Str) ++ (_ : List Str)) j default = _
        rw [getD_app, if_pos (by rw [hs]; exact hjs), seg_getD hjs]
      · show (foldW _).getD j default = _
        rw [fold_getD (by rw [hs]; omega) (by rw [hs]; omega), hs, seg_getD (by omega), ha]
        rw [show (a : Int) - (((halfF ts.length a : Nat) : Int) + ((2 * (ts.length / 2) - 1 - j : Nat) : Int)) = ((halfF ts.length a : Nat) : Int) + j + (ts.length : Int) * (-1) by omega]
        exact per_mul _ _
end PL

set_option Elab.async false
set_option linter.all false
set_option maxRecDepth 100000
set_option maxHeartbeats 1000000
namespace Hd
open PySem PySem.Spec PyProof.Rows L2 PL
section
variable {Pg : Program} {w : World} {K : PySem.W.Frag} {mg : Str → Option Value} {base : Heap}
def Few (ts : List Str) : Prop := ∀ l : List Str, l.Nodup → (∀ k ∈ l, k ∈ ts) → l.length < 63
theorem few_of {ts zs : List Str} (h : ∀ k ∈ ts, k ∈ zs) (hz : zs.length < 63) : Few ts := fun l nd hl => Nat.lt_of_le_of_lt (nodup_le l zs nd fun k hk => h k (hl k hk)) hz
structure Rok (m : Nat) (ts : List Str) : Prop where
  prim : Prim ts
  shs : Shs ts
  len : ts.length ≤ m
theorem Rok.pos {m : Nat} {ts : List Str} (h : Rok m ts) : 0 < ts.length := h.prim.1
theorem Rok.few {m : Nat} {ts : List Str} (h : Rok m ts) (hm : m < 63) : Few ts := few_of (zs := ts) (fun k hk => hk) (by have := h.len; omega)
theorem Rok.mono {m n : Nat} {ts : List Str} (h : Rok m ts) (hm : m ≤ n) : Rok n ts := ⟨h.prim, h.shs, Nat.le_trans h.len hm⟩
theorem mov_ok {m : Nat} {ts : List Str} (h : Rok m ts) (a : Int) : Rok m (movL ts a) := ⟨movL_prim h.prim a, fun t ht => by
  obtain ⟨j, _, rfl⟩ := List.mem_map.mp ht
  exact h.shs _ (cyc_mem' h.pos _), by rw [movL_len]; exact h.len⟩
theorem tur_ok {m : Nat} {ts : List Str} (h : Rok m ts) : Rok m (turL ts) := ⟨turL_prim h.prim, fun t ht => by
  obtain ⟨j, _, rfl⟩ := List.mem_map.mp ht
  exact h.shs _ (cyc_mem' h.pos _), by rw [turL_len]; exact h.len⟩
theorem mk_ok {m : Nat} {ws : List Str} (h0 : 0 < ws.length) (hs : Shs ws) (hl : ws.length ≤ m) : Rok m (mkR ws) := ⟨mkR_prim h0, mkR_shs hs, Nat.le_trans (mkR_le ws) hl⟩
theorem tk {n m : Int} (h0 : 0 < m) (h1 : m ≤ 1000) : P_take (.lst [.int n]) [.int m] (.sh (.int (n % m))) (.lst [.int (n / m)]) := ⟨n, m, h0, Int.le_trans h1 (by decide), rfl, rfl, rfl, rfl⟩
theorem sh_ex (n k : Int) (h0 : 0 ≤ k) (h1 : k ≤ 20) : ∃ (sh : List Str) (n' : Int), (sh.length : Int) = k ∧ (∀ x ∈ sh, okW 1 3 x) ∧ P_shades (.lst [.int n]) [.int k] (.sh (dL sh)) (.lst [.int n']) := by
  obtain ⟨a, b⟩ := shIt_ok n k.toNat (by omega)
  exact ⟨(shIt n k.toNat).1, (shIt n k.toNat).2, by omega, b, n, k.toNat, by omega, rfl, by rw [show ((k.toNat : Nat) : Int) = k by omega], rfl, rfl⟩
theorem drIt_in {sh : List Str} {wide : Int} (n : Int) (h0 : 0 < sh.length) (hw : 0 < wide) (k : Nat) : ∀ p ∈ (drIt sh wide n k).1, p.1 ∈ sh := fun p hp => ((drIt_ok n h0 hw k).2 p hp).1
theorem dr_ex (n : Int) {sh : List Str} {most wide : Int} (h0 : 0 < sh.length) (h1 : sh.length ≤ 100) (hm : 0 < most) (hm1 : most ≤ 240) (hw : 0 < wide) (hw1 : wide ≤ 240) (hs : ∀ x ∈ sh, okW 1 3 x) (hb : most * wide ≤ 240) : ∃ (ps : List (Str × Int)) (n' : Int), OkSt ps ∧ tot ps ≤ most * wide ∧ ps.length ≤ most.toNat ∧ (∀ p ∈ ps, p.1 ∈ sh) ∧ P_drawn (.lst [.int n]) [dL sh, .int most, .int wide] (.sh (dS ps)) (.lst [.int n']) := by
  have hk := drIt_ok (n / most) h0 hw (1 + n % most).toNat
  have c1 := Int.emod_nonneg n (b := most) (by omega)
  have c2 := Int.emod_lt_of_pos n (b := most) hm
  refine ⟨(drawn sh most wide n).1, (drawn sh most wide n).2, drawn_ok n h0 hm hw hs hb, ?_, ?_, ?_, n, sh, most, wide, h0, h1, hm, by omega, hw, by omega, rfl, rfl, rfl, rfl⟩
  · have t1 := tot_le (ps := (drawn sh most wide n).1) (wide := wide) fun p hp => (hk.2 p hp).2.2
    have t2 : ((drawn sh most wide n).1.length : Int) ≤ most := by
      show ((drIt sh wide (n / most) (1 + n % most).toNat).1.length : Int) ≤ most
      rw [hk.1]; omega
    exact Int.le_trans t1 (Int.mul_le_mul_of_nonneg_right t2 (by omega))
  · show (drIt sh wide (n / most) (1 + n % most).toNat).1.length ≤ _
    rw [hk.1]; omega
  · exact fun p hp => (hk.2 p hp).1
theorem thr1 : ∀ ws : List Str, thr (ws.map fun w => (w, (1 : Int))) = ws
  | [] => rfl
  | w :: ws => by
    show List.replicate (1 : Int).toNat w ++ thr (ws.map fun w => (w, (1 : Int))) = _
    rw [thr1 ws]; rfl
theorem tot1 : ∀ ws : List Str, tot (ws.map fun w => (w, (1 : Int))) = (ws.length : Int)
  | [] => rfl
  | w :: ws => by
    have h := tot1 ws
    unfold tot at h ⊢
    rw [List.map_cons, List.map_cons, List.sum_cons, h, List.length_cons]
    omega
theorem ok1 {ws : List Str} (h0 : 0 < ws.length) (hl : ws.length ≤ 240) (hs : Shs ws) : OkSt (ws.map fun w => (w, (1 : Int))) := by
  refine ⟨fun z => ?_, fun p hp => ?_, ?_⟩
  · rw [List.map_eq_nil_iff] at z; rw [z] at h0; exact absurd h0 (by decide)
  · obtain ⟨w, hw, rfl⟩ := List.mem_map.mp hp
    exact ⟨hs w hw, by show (0 : Int) < 1; decide⟩
  · rw [tot1]; omega
theorem range_getD {α : Type} (ws : List Str) (g : Str → α) : ((List.range ws.length).map fun (j : Nat) => g (ws.getD j default)) = ws.map g := by
  apply List.ext_getElem?
  intro i
  rw [List.getElem?_map, List.getElem?_map]
  by_cases h : i < ws.length
  · rw [List.getElem?_range h, List.getElem?_eq_getElem h]
    show some (g (ws.getD i default)) = _
    rw [List.getD_eq_getElem?_getD, List.getElem?_eq_getElem h]; rfl
  · rw [List.getElem?_eq_none (by simpa using h), List.getElem?_eq_none (by simpa using h)]; rfl
end
end Hd

set_option Elab.async false
set_option linter.all false
set_option maxRecDepth 100000
set_option maxHeartbeats 1000000
/-! PlBack: xs[lo:hi:-1] of a list -/
namespace PL
open PySem PySem.Spec PyProof.Rows L2 HT
theorem pick_eq (its : List Value) (lo hi : Option Int) : slicePick its.toArray lo hi (some (-1)) = (pickB its lo hi).toArray := by
  have hb : (sliceBounds lo hi (some (-1)) its.toArray.size).1 = (Builtin.Slice.sliceAdjust lo hi (-1) (its.length : Int)).1 ∧ (sliceBounds lo hi (some (-1)) its.toArray.size).2.1 = (Builtin.Slice.sliceAdjust lo hi (-1) (its.length : Int)).2 ∧ (sliceBounds lo hi (some (-1)) its.toArray.size).2.2 = -1 := by
    rw [List.size_toArray]
    have g1 : ¬ ((-1 : Int) > 0) := by decide
    have g2 : (-1 : Int) < 0 := by decide
    refine ⟨?_, ?_, rfl⟩
    · cases lo with
      | none => show (if (-1 : Int) > 0 then (0 : Int) else (its.length : Int) - 1) = (if (-1 : Int) < 0 then (if (-1 : Int) < 0 then (its.length : Int) - 1 else its.length) else (if (-1 : Int) < 0 then (-1 : Int) else 0)); rw [if_neg g1, if_pos g2, if_pos g2]
      | some i =>
        show (if (-1 : Int) > 0 then max 0 (min (if i < 0 then i + its.length else i) (its.length : Int)) else max (-1) (min (if i < 0 then i + its.length else i) ((its.length : Int) - 1))) = (if i < 0 then max (i + its.length) (if (-1 : Int) < 0 then (-1 : Int) else 0) else min i (if (-1 : Int) < 0 then (its.length : Int) - 1 else its.length))
        rw [if_neg g1, if_pos g2, if_pos g2]
        split <;> omega
    · cases hi with
      | none => show (if (-1 : Int) > 0 then (its.length : Int) else -1) = (if (-1 : Int) < 0 then (if (-1 : Int) < 0 then (-1 : Int) else 0) else (if (-1 : Int) < 0 then (its.length : Int) - 1 else its.length)); rw [if_neg g1, if_pos g2, if_pos g2]
      | some i =>
        show (if (-1 : Int) > 0 then max 0 (min (if i < 0 then i + its.length else i) (its.length : Int)) else max (-1) (min (if i < 0 then i + its.length else i) ((its.length : Int) - 1))) = (if i < 0 then max (i + its.length) (if (-1 : Int) < 0 then (-1 : Int) else 0) else min i (if (-1 : Int) < 0 then (its.length : Int) - 1 else its.length))
        rw [if_neg g1, if_pos g2, if_pos g2]
        split <;> omega
  unfold slicePick pickB
  rw [hb.1, hb.2.1, hb.2.2]
  generalize Builtin.Slice.sliceAdjust lo hi (-1) (its.length : Int) = pq
  unfold sliceRange Builtin.Slice.slicePlaces
  have g1 : ¬ ((-1 : Int) > 0) := by decide
  simp only [if_neg g1]
  have e : (if pq.1 > pq.2 then (pq.1 - pq.2 - -1 - 1) / (- -1) else (0 : Int)) = (if pq.1 > pq.2 then (pq.1 - pq.2 - 1) / (- -1) + 1 else 0) := by
    split
    · rw [show (- -1 : Int) = 1 from rfl, Int.ediv_one, Int.ediv_one]; omega
    · rfl
  rw [e, List.filterMap_map]
  congr 2
  funext k
  show its.toArray[(pq.1 + -1 * (k : Int)).toNat]? = its[(pq.1 + (k : Int) * (-1)).toNat]?
  rw [Int.mul_comm, List.getElem?_toArray]
section
variable {X : Cx} {Γ Γ1 Γ2 Γ3 : Gm} {a : Ex} {lo hi : Option Ex} {i j : Option Int} {ds : List D} {k : Nat} {p1 p2 p3 pos : Pos}
theorem pe_backL {te : TE} {tl th : TO} (he : PE X a te) (hl : PO X lo tl) (hh : PO X hi th) : PE X (.Subscript a (.Slice lo hi (some (.UnaryOp .USub (.Constant (.int 1) k p1) p2)) p3) pos)
    (fun σ H Q => te σ H fun x H1 => tl σ H1 fun l H2 => th σ H2 fun u H3 => ∃ t xs, x = .ref t ∧ SqL X.K H3 t xs ∧ ∀ p, H3 p = none → Q (.ref p) (upd H3 p (.lst (pickB xs l u)))) := by
  refine ⟨fun pins s σ H Q I h => ?_⟩
  refine Subscript_ (thn (he.run pins s σ H _ I h) fun v s1 ⟨x, H1, I1, r1, q1⟩ => ?_)
  have hst : PO X (some (.UnaryOp .USub (.Constant (.int 1) k p1) p2)) (tPart (tUn (rU fun i => .int (-i)) (tC (.int 1)))) := po_some (pe_un un_neg pe_int)
  refine wpAny_Slice (thn (hl.run pins s1 σ H1 _ I1 q1) fun vl s2 ⟨l, H2, I2, pl, q2⟩ => thn (hh.run pins s2 σ H2 _ I2 q2) fun vu s3 ⟨u, H3, I3, pu, q3⟩ => ?_)
  refine thn (hst.run pins s3 σ H3 (fun o H4 => o = some (-1) ∧ H4 = H3) I3 ⟨1, rfl, -1, rfl, rfl, rfl⟩) fun vs s4 ⟨o, H4, I4, ps, eo, e4⟩ => ?_
  subst eo e4
  obtain ⟨t, xs, rfl, hx, q⟩ := q3
  cases r1
  have I5 : Inv X pins σ H4 { s4 with heap := s4.heap.push { cls := .type "slice", data := .fields #[vl, vu, vs] } } := I4.kept (t' := s4.toks) fun b ob q => Heap.get?_push_of_some _ q
  obtain ⟨its, r, ht, hz⟩ := I5.list hx
  have hlen := r.length
  show wpAny (model X.prog X.w) X.A (subscriptTail a (.Slice lo hi (some (.UnaryOp .USub (.Constant (.int 1) k p1) p2)) p3) (.ref t) (.ref s4.heap.objs.size)) (EP X pins σ Q) X.xe { s4 with heap := s4.heap.push { cls := .type "slice", data := .fields #[vl, vu, vs] } }
  refine tail_any (ops := [.ref t, .ref s4.heap.objs.size]) ht.isList.typeIs (PySem.slot_list_getitem.lookup) ?_ (by with_unfolding_all rfl)
  refine wpAny_getItem_list_slice ht.isList (Heap.IsSliceOf.new _ vl vu vs) pl pu ps (by decide) ?_ (by rw [List.size_toArray]; omega)
  rw [pick_eq]
  refine ⟨.ref _, _, I5.laid (t' := s4.toks) (o := .lst (pickB xs l u)) (fun b ob q => Heap.get?_push_of_some _ q) (Nat.le_refl _) ?_, rfl, q _ (I5.hok.fresh (Nat.le_refl _))⟩
  exact ⟨Nat.le_trans (pickB_len _ _ _) hz, _, 0, vals_pickB r, Heap.get?_push_size _ rfl⟩
theorem e_backL (h : EX X Γ a (.sh (.lst ds)) Γ1) (hl : PX X Γ1 lo i Γ2) (hh : PX X Γ2 hi j Γ3) : EX X Γ (.Subscript a (.Slice lo hi (some (.UnaryOp .USub (.Constant (.int 1) k p1) p2)) p3) pos) (.ow (.lst (pickB ds i j))) Γ3 := fun F σ H S Q R q => by
  refine pe_we (pe_backL we_pe wp_po wp_po) (h F σ H S _ R fun x H1 S1 R1 s1 r1 => hl F σ H1 S1 _ R1 fun H2 S2 R2 s2 => hh F σ H2 S2 _ R2 fun H3 S3 R3 s3 => ?_)
  obtain ⟨t, vs, rfl, h1, h2⟩ := r1
  have s13 : Same S1 S3 := s2.trans s3
  exact ⟨t, vs, rfl, .of (R3.sh _ _ (s13 _ _ h1)), fun p n => q _ _ S3 (R3.grow (same_upd n)) (s1.trans s13) ⟨p, rfl, R3.sNone n, R3.h0None n, ⟨_, upd_same, (Reps.mono s13 _ _ h2).pickB⟩, R3.ownNone n⟩⟩
theorem e_backLD {xs : List Str} (h : EX X Γ a (.sh (dL xs)) Γ1) (hl : PX X Γ1 lo i Γ2) (hh : PX X Γ2 hi j Γ3) : EX X Γ (.Subscript a (.Slice lo hi (some (.UnaryOp .USub (.Constant (.int 1) k p1) p2)) p3) pos) (.ow (.lst ((pickB xs i j).map .str))) Γ3 := by
  have e := e_backL h hl hh (pos := pos) (p1 := p1) (p2 := p2) (p3 := p3) (k := k)
  rw [pickB_map] at e
  exact e
end
end PL

set_option Elab.async false
set_option linter.all false
set_option maxRecDepth 100000
set_option maxHeartbeats 1000000
/-! PlSum: sum(xs, start=v) of whole numbers -/
namespace PL
open PySem PySem.Spec PyProof.Rows L2
/-- the same walk, counted from 1 -/
theorem walks_shift {prog : Program} {w : World} {A : Around} {I : Addr} {fp wr : List Addr} {n : Nat} {P : Nat → Value → Prop} {St : Nat → Heap → Prop} (W : Walks prog w A I fp wr n P St) :
    Walks prog w A I fp wr (n + 1) (fun i v => ∃ j, i = j + 1 ∧ P j v) (fun i h => ∃ j, i = j + 1 ∧ St j h) where
  sub := W.sub
  frame := fun i h h' ⟨j, e, st⟩ hk => ⟨j, e, W.frame j h h' st hk⟩
  item := fun i s Q E hi ⟨j, e, st⟩ hQ => W.item j s Q E (by omega) st fun v h' tk hP st' hk => hQ v h' tk ⟨j, e, hP⟩ ⟨j + 1, by omega, st'⟩ hk
  done := fun s Q E ⟨j, e, st⟩ hQ => W.done s Q E ((show n = j from by omega) ▸ st) hQ
  self := fun i s Q E ⟨j, e, st⟩ hQ => W.self j s Q E st hQ
theorem args_sumS (a v : Value) : argsOk "sum" ⟨[a], [(Str.ofString "start", v)]⟩ := by unfold argsOk; kernel_rfl
section
variable {prog : Program} {w : World} {A : Around} {E : Value → Shared → Prop} {s : Shared} {l : Addr} {xs : Array (Int × Tok)}
theorem call_function_treeK {id : String} {b : Builtin} {args : Args} {Q : Value → Shared → Prop} (hk : builtinKind id = none) (hp : plainId id = true)
    (hb : entryFor table id = some b) (ha : argsOk id args)
    (hc : wpAny (model prog w) A.in1 (b args) (fun fin s' => match fin with
      | .done f => (match (Except.ok f : Result) with | .ok (.ret v) => Q v s' | .ok _ => False | .error e => E e s')
      | .again c' => c'.quiet = true ∧ codeAny (model prog w) A c' (fun r s' => match r with | .ok (.ret v) => Q v s' | .ok _ => False | .error e => E e s') s') E s) :
    wpAny (model prog w) A (call (.builtin id) args.pos args.kw) Q E s := by
  refine wpAny_call (codeAny_call_builtin hp hb ?_)
  simp only [checkBuiltinCall, hk]
  cases hsig : Manifest.signature? id with
  | none => exact wpAny_pure hc
  | some sig =>
    simp only [argsOk, hsig] at ha
    have h2 : Bind.checkArgs id sig args = pure () := ha
    show wpAny _ A.in1 (Bind.checkArgs id sig args) _ _ s
    rw [h2]; exact wpAny_pure hc
theorem sum_start {Q : Value → Shared → Prop} {i0 : Int} {t0 : Tok} (hh : A.handled = none) (hl : s.heap.IsList l (intItems xs))
    (h : ∀ h' tk t', (∀ b o, s.heap.get? b = some o → h'.get? b = some o) → Q (.int (i0 + preSum (numAt xs) xs.size) t') { s with heap := h', toks := tk }) :
    wpAny (model prog w) A (call (.builtin "sum") [.ref l] [(Str.ofString "start", .int i0 t0)]) Q E s := by
  refine call_function_treeK (args := ⟨[.ref l], [(Str.ofString "start", .int i0 t0)]⟩) F.kind_sum F.plain_sum F.entry_sum (args_sumS _ _) ?_
  unfold Builtin.«sum»
  simp only [List.length_cons, List.length_nil]
  rw [if_neg (by decide)]
  refine wpAny_bind (wpAny_of_eq (show Builtin.Builtins.bindParams "sum" ["start"] 0 ⟨[], [(Str.ofString "start", .int i0 t0)]⟩ = pure [some (.int i0 t0)] from by rfl) ?_)
  refine wpAny_bind (iter_intList hl fun s₂ e st hfp hlI => ?_)
  subst e
  simp only
  have pS : ∀ n, preSum (fun i => match i with | 0 => i0 | j + 1 => numAt xs j) (n + 1) = i0 + preSum (numAt xs) n := by
    intro n
    induction n with
    | zero => show (0 : Int) + i0 = i0 + 0; omega
    | succ n ih => show preSum _ (n + 1) + numAt xs n = i0 + (preSum (numAt xs) n + numAt xs n); rw [ih]; omega
  have W := walks_shift (Walks.list (prog := prog) (w := w) (A := A.in1) hh s.heap.objs.size l hlI (intItems xs))
  have hval : ∀ i v, (∃ j, i = j + 1 ∧ (intItems xs)[j]? = some v) → ∃ t, v = Value.int (match i with | 0 => i0 | j + 1 => numAt xs j) t := by
    rintro i v ⟨j, rfl, e⟩
    exact intItems_at e
  have fin : ∀ (tk : Nat) (t1 : Tok) (stage : Int), (stage = 0 ∨ stage = 2) → wpAny (model prog w) A.in1 (do
      forIn [("str", "strings", "''"), ("bytes", "bytes", "b''"), ("bytearray", "bytearray", "b''")] PUnit.unit
          fun x __s => do
          let __do_lift ← isInstance (Value.int i0 t1) (Value.type x.fst)
          if __do_lift = true then do
              rule "sum.start-refused"
              raiseErrorMade "TypeError"
                  (toString "sum() can't sum " ++ toString x.2.fst ++ toString " [use " ++ toString x.2.snd ++
                    toString ".join(seq) instead]")
              pure (ForInStep.yield PUnit.unit)
            else pure (ForInStep.yield PUnit.unit)
      let __do_lift ← newList [Value.int i0 t1]
      again (Code.builtin "sum.loop" { pos := [Value.ref s.heap.objs.size, __do_lift, rawInt stage, rawInt 0] }))
    (fun fin s' =>
      match fin with
      | Fin.done f =>
        match Except.ok f with
        | Except.ok (Flow.ret v) => Q v s'
        | Except.ok a => False
        | Except.error e => E e s'
      | Fin.again c' =>
        c'.quiet = true ∧
          codeAny (model prog w) A c'
            (fun r s' =>
              match r with
              | Except.ok (Flow.ret v) => Q v s'
              | Except.ok a => False
              | Except.error e => E e s')
            s')
    E
    { heap := s.heap.push { cls := Value.type "list_iterator", data := Data.fields #[Value.ref l, Value.int 0 0] }, gens := s.gens, drawn := s.drawn, toks := tk, os := s.os } := by
    intro tk t1 stage hst
    simp only [List.forIn_cons, List.forIn_nil]
    refine wpAny_bind (wpAny_bind (wpAny_bind (wpAny_isInstance (T := "int") (b := false) (typeIs_int _ _ _) PySem.sub_int_str ?_)))
    simp only [Bool.false_eq_true, if_false]
    refine wpAny_pure (wpAny_bind (wpAny_bind (wpAny_isInstance (T := "int") (b := false) (typeIs_int _ _ _) PySem.sub_int_bytes ?_)))
    simp only [Bool.false_eq_true, if_false]
    refine wpAny_pure (wpAny_bind (wpAny_bind (wpAny_isInstance (T := "int") (b := false) (typeIs_int _ _ _) PySem.sub_int_bytearray ?_)))
    simp only [Bool.false_eq_true, if_false]
    refine wpAny_pure (wpAny_pure ?_)
    refine wpAny_bind (wpAny_newObj_type ?_)
    have hSf : (s.heap.push { cls := Value.type "list_iterator", data := Data.fields #[Value.ref l, Value.int 0 0] }).objs.size ∉ [s.heap.objs.size, l] := fun hm => Nat.lt_irrefl _ (hfp _ hm)
    refine wpAny_pure ⟨plainId_quiet F.plain_sum_loop _, codeAny_sum_loopG W _ hval _ hSf (intItems xs).size 1 _ t1 0 stage hst (by omega) (by omega)
      (W.frame _ _ _ ⟨0, rfl, st⟩ fun b _ o e => Heap.get?_push_of_some _ e) ?_ fun h' tk t' hk => ?_⟩
    · rw [pS 0, show i0 + preSum (numAt xs) 0 = i0 from Int.add_zero _]
      exact Heap.get?_push_size _ rfl
    · rw [pS]
      have hz : (intItems xs).size = xs.size := by simp [intItems]
      rw [hz]
      refine h h' tk t' fun b o e => ?_
      have hb : b < s.heap.objs.size := Heap.lt_size e
      refine hk b o (fun z => ?_) (fun z => ?_) (Heap.get?_push_of_some _ (Heap.get?_push_of_some _ e))
      · rw [List.mem_singleton.mp z] at hb
        exact Nat.lt_irrefl _ hb
      · rw [z, Heap.size_push] at hb
        exact Nat.lt_irrefl _ (Nat.lt_of_succ_lt hb)
  split
  · refine wpAny_bind (wpAny_rule ?_)
    refine wpAny_bind (wpAny_mkInt ?_)
    exact wpAny_bind (wpAny_pure (fin _ _ 0 (.inl rfl)))
  · exact wpAny_bind (wpAny_pure (fin _ _ 2 (.inr rfl)))
end
def rSumS (K : PySem.W.Frag) : List V → List V → Hp → VK → Prop := fun vs zs H Q => ∃ (a : Addr) (ns : List Int) (i0 : Int), vs = [V.ref a] ∧ zs = [.int i0] ∧ SqL K H a (ns.map V.int) ∧ Q (.int (i0 + ns.sum)) H
section
variable {X : Cx}
theorem cr_sumS (hc : X.calm = true) : CallRK X (.builtin "sum") [Str.ofString "start"] (rSumS X.K) := by
  intro pins s σ H vs zs us ws Q I r rz h
  obtain ⟨a, ns, i0, rfl, rfl, hs, q⟩ := h
  obtain ⟨its, rv, hl, _⟩ := I.list hs
  rw [Vals.ref1 r]
  cases rz with
  | cons r1 t1 =>
    cases t1
    obtain ⟨t0, rfl⟩ := r1
    have hi := rv.ints
    obtain ⟨xs, e⟩ := hi.allInts.items
    have hn : numsOf (intItems xs).toList = ns := by rw [← e]; exact hi.numsOf
    rw [nums_intItems] at hn
    have hl' := hl.isList
    rw [e] at hl'
    refine sum_start (I.ok.hd hc) hl' fun h' tk t' hk => ⟨.int _, H, I.kept hk, ⟨_, rfl⟩, ?_⟩
    rw [preSum_eq, List.take_of_length_le (by simp), hn]
    exact q
variable {Γ Γ1 Γ2 : Gm} {e : Ex} {ev : Ex} {p pos kpos : Pos} {ns : List Int} {i0 : Int} {k : Nat}
theorem e_sumS (hm : X.mg "sum" = none) (g : Gd k X) (ha : EX X Γ e (.sh (.lst (ns.map .int))) Γ1) (hv : EX X Γ1 ev (.sh (.int i0)) Γ2) (hg : Gl X "sum" := by rfl)
    (hs : starEach [e] X.env = (false, eval e X.env) :: starEach [] X.env := by rfl)
    (he : backTo pos (starEach [e] X.env) = (false, eval e X.env) :: backTo pos (starEach [] X.env) := by rfl) (hpl : (backTo pos (starEach [e] X.env)).any (·.1) = false := by rfl)
    (hall : (backToKw pos (keywordEach [⟨some "start", ev, kpos⟩] X.env)).all (·.1.isSome) = true := by rfl) (hnone : (backToKw pos (keywordEach [⟨some "start", ev, kpos⟩] X.env)).any (·.1.isNone) = false := by rfl) (hks : (backToKw pos (keywordEach [⟨some "start", ev, kpos⟩] X.env)).filterMap (·.1) = [Str.ofString "start"] := by rfl) :
    EX X Γ (.Call (.Name "sum" p) [e] [⟨some "start", ev, kpos⟩] pos) (.sh (.int (i0 + ns.sum))) Γ2 := fun F σ H S Q R q => by
  refine pe_we (pe_callBK (cr_sumS g.calm) hg hm b_sum (pa_cons we_pe pa_nil hs) (pk_cons we_pe pk_nil) (by decide) (by decide) he hpl hall hnone hks) ?_
  refine ha F σ H S _ R fun v H1 S1 R1 s1 ok => hv F σ H1 S1 _ R1 fun v2 H2 S2 R2 s2 ok2 => ?_
  obtain ⟨a, vs, rfl, h1, h2⟩ := ok
  obtain rfl : v2 = .int i0 := ok2
  rw [h2.ints] at h1
  exact ⟨a, ns, i0, rfl, rfl, .of (R2.sh _ _ (s2 _ _ h1)), q _ _ S2 R2 (s1.trans s2) rfl⟩
end
end PL

set_option Elab.async false
set_option linter.all false
set_option maxRecDepth 100000
set_option maxHeartbeats 1000000
namespace Hd
open PySem PySem.Spec PyProof.Rows L2 PL
section
variable {Pg : Program} {w : World} {K : PySem.W.Frag} {mg : Str → Option Value} {base : Heap}
/-! ### k06: rows told in other ways (plain) -/
theorem prim_ext {xs ys : List Str} (hx : Prim xs) (hy : Prim ys) (h : ∀ i, cyc xs i = cyc ys i) : xs = ys := by
  refine ext_cyc ?_ h
  rw [← hx.2, ← hy.2]
  refine lr_congr hx.1 hy.1 fun k => ⟨fun p i => ?_, fun p i => ?_⟩
  · rw [← h, ← h]; exact p i
  · rw [h, h]; exact p i
theorem lay_pos {m : Mnr} {X : List Str} (h : 0 < X.length) : 0 < (layW m X).length := by
  cases m <;> simp [layW, pivotW, foldW, leftW, rightW] <;> omega
theorem row_gen {qs : List (Str × Int)} {m : Mnr} {st : Int} {W : List Str} (hq : OkSt qs) (hl : (layW m (thr qs)).length ≤ 240) (hW : Prim W) (h : ∀ i, cyc (layW m (thr qs)) (i + st) = cyc W i) : rowK qs m st = W := by
  obtain ⟨r1, r2, r3, _⟩ := rowK_ok hq m st hl
  refine prim_ext r1 hW fun i => ?_
  have h0 : 0 < (layW m (thr qs)).length := by
    have := r1.1
    rcases Nat.eq_zero_or_pos (layW m (thr qs)).length with z | z
    · exfalso
      have e : rowK qs m st = [] := by
        unfold rowK
        rw [List.length_eq_zero_iff.mp z]; rfl
      rw [e] at this; exact absurd this (by decide)
    · exact z
  show cyc (spin _ _ _) i = _
  rw [cyc_spin (lr_pos h0) (lr_le _) (lr_spec h0).2.1, h]
theorem init_gen (C : Addr) {qs : List (Str × Int)} {m : Mnr} {st : Int} {W : List Str} (hq : OkSt qs) (hl : (layW m (thr qs)).length ≤ 240) (hs : Spot st) (hW : Prim W) (h : ∀ i, cyc (layW m (thr qs)) (i + st) = cyc W i) : P_init C (.ins C [] []) [dS qs, .str m.s, .int st] (.sh .non) (oR C W) :=
  ⟨qs, m, st, hq, hs, Nat.le_trans (lr_le _) hl, rfl, rfl, rfl, by rw [row_gen hq hl hW h]⟩
theorem rep_cyc {W : List Str} (h0 : 0 < W.length) {k : Nat} (hk : 0 < k) (i : Int) : cyc (List.replicate k W).flatten i = cyc W i := by
  have hl0 : ∀ k : Nat, ((List.replicate k W).flatten).length = k * W.length := fun k => by
    induction k with
    | zero => rw [Nat.zero_mul]; rfl
    | succ k ih => rw [List.replicate_succ, List.flatten_cons, List.length_append, ih, Nat.succ_mul]; omega
  have hl := hl0 k
  unfold cyc
  have hn : (0 : Int) < W.length := by omega
  have hkn : 0 < k * W.length := Nat.mul_pos hk h0
  have a0 := Int.emod_nonneg i (b := ((k * W.length : Nat) : Int)) (by omega)
  have a1 := Int.emod_lt_of_pos i (b := ((k * W.length : Nat) : Int)) (by omega)
  rw [hl, flat_getD W k _ (by omega)]
  congr 1
  have : ((i % ((k * W.length : Nat) : Int)).toNat % W.length : Nat) = (i % (W.length : Int)).toNat := by
    have e : ((i % ((k * W.length : Nat) : Int)) % (W.length : Int)) = i % (W.length : Int) := Int.emod_emod_of_dvd i ⟨(k : Int), by push_cast; rw [Int.mul_comm]⟩
    have b0 := Int.emod_nonneg i (b := (W.length : Int)) (by omega)
    have e2 : (((i % ((k * W.length : Nat) : Int)).toNat % W.length : Nat) : Int) = i % (W.length : Int) := by
      rw [← e, Int.natCast_emod, Int.toNat_of_nonneg a0]
    omega
  exact this
theorem cyc_one (a : Str) (i : Int) : cyc [a] i = a := by
  unfold cyc
  have e : (([a] : List Str).length : Int) = 1 := rfl
  have h0 := Int.emod_nonneg i (b := 1) (by decide)
  have h1 := Int.emod_lt_of_pos i (b := 1) (by decide)
  rw [e, show (i % 1).toNat = 0 by omega]; rfl
theorem law_cyc (m : Mnr) {X : List Str} (h0 : 0 < X.length) (i : Int) : cyc (lawW m X) i = cyc (layW m X) i := by
  unfold lawW
  split
  · next h1 =>
    obtain ⟨a, rfl⟩ := List.length_eq_one_iff.mp h1
    cases m
    · rfl
    · rfl
    · show cyc [a] i = cyc ((List.replicate 2 [a]).flatten) i
      rw [rep_cyc (W := [a]) Nat.zero_lt_one (by decide)]
    · rfl
    · rfl
  · rfl
theorem tell_again (m : Mnr) {X : List Str} (h0 : 0 < X.length) (st i : Int) : cyc (layW m X) (i + (st + ((lawW m X).length : Int))) = cyc (layW m X) (i + st) := by
  rw [← law_cyc m h0, ← law_cyc m h0, ← Int.add_assoc]
  exact cyc_per _
def endM : Mnr → Mnr
  | .left => .right | .right => .left | m => m
def endK (m : Mnr) (n : Nat) : Nat := match m with
  | .fold | .left => n
  | _ => n - 1
theorem end_rot {m : Mnr} (hm : m ≠ .run) {X : List Str} (h0 : 0 < X.length) (hl : endK m X.length < (layW m X).length) : layW (endM m) X.reverse = rot (layW m X) (endK m X.length) := by
  cases m with
  | run => exact absurd rfl hm
  | fold =>
    show X.reverse ++ X.reverse.reverse = (X ++ X.reverse).drop X.length ++ (X ++ X.reverse).take X.length
    rw [List.reverse_reverse, List.drop_left, List.take_left]
  | left =>
    show X.reverse ++ X.reverse.dropLast.reverse = (X ++ (X.drop 1).reverse).drop X.length ++ (X ++ (X.drop 1).reverse).take X.length
    rw [List.drop_left, List.take_left]
    cases X with
    | nil => exact absurd h0 (by decide)
    | cons a t => simp
  | right =>
    show X.reverse ++ (X.reverse.drop 1).reverse = (X ++ X.dropLast.reverse).drop (X.length - 1) ++ (X ++ X.dropLast.reverse).take (X.length - 1)
    obtain ⟨t, b, rfl⟩ : ∃ t b, X = t ++ [b] := ⟨X.dropLast, X.getLast (List.length_pos_iff.mp h0), (List.dropLast_concat_getLast _).symm⟩
    simp
  | pivot =>
    show X.reverse ++ ((X.reverse.drop 1).dropLast).reverse = (X ++ ((X.drop 1).dropLast).reverse).drop (X.length - 1) ++ (X ++ ((X.drop 1).dropLast).reverse).take (X.length - 1)
    cases X with
    | nil => exact absurd h0 (by decide)
    | cons a t =>
      by_cases ht : t = []
      · subst ht; rfl
      · obtain ⟨u, b, rfl⟩ : ∃ u b, t = u ++ [b] := ⟨t.dropLast, t.getLast ht, (List.dropLast_concat_getLast _).symm⟩
        simp
theorem end_cyc {m : Mnr} (hm : m ≠ .run) {X : List Str} (h0 : 0 < X.length) (st i : Int) : cyc (layW (endM m) X.reverse) (i + (st - (endK m X.length : Int))) = cyc (layW m X) (i + st) := by
  by_cases hl : endK m X.length < (layW m X).length
  · rw [end_rot hm h0 hl, rot_cyc hl]
    congr 1; omega
  · have h1 : X.length = 1 ∧ m = .left := by
      cases m with
      | run => exact absurd rfl hm
      | pivot => exact absurd (show X.length - 1 < (X ++ ((X.drop 1).dropLast).reverse).length by rw [List.length_append]; omega) hl
      | fold => exact absurd (show X.length < (X ++ X.reverse).length by rw [List.length_append, List.length_reverse]; omega) hl
      | right => exact absurd (show X.length - 1 < (X ++ X.dropLast.reverse).length by rw [List.length_append]; omega) hl
      | left =>
        have hl : ¬ X.length < (X ++ (X.drop 1).reverse).length := hl
        rw [List.length_append, List.length_reverse, List.length_drop] at hl
        exact ⟨by omega, rfl⟩
    obtain ⟨h1, rfl⟩ := h1
    obtain ⟨a, rfl⟩ := List.length_eq_one_iff.mp h1
    show cyc [a] _ = cyc [a] _
    rw [cyc_one, cyc_one]
theorem lb_memq {ts : List Str} (h : 0 < ts.length) (q : Str) : q ∈ lb ts ↔ q ∈ ts := by
  obtain ⟨k, hk, e⟩ := lb_mem h
  rw [e]
  unfold rot
  rw [List.mem_append]
  constructor
  · rintro (z | z)
    · exact List.mem_of_mem_drop z
    · exact List.mem_of_mem_take z
  · intro z
    rw [← List.take_append_drop k ts, List.mem_append] at z
    exact z.symm
theorem mkR_memq {us : List Str} {q : Str} (h : q ∈ us) : q ∈ mkR us := by
  obtain ⟨j, hj, rfl⟩ := List.getElem_of_mem h
  have h0 : 0 < us.length := by omega
  have e : us[j] = cyc (mkR us) (j : Int) := by
    rw [mkR_cyc h0, cyc_nat hj, List.getD_eq_getElem?_getD, List.getElem?_eq_getElem hj]; rfl
  rw [e]
  exact cyc_mem (mkR_prim h0).1 _
theorem lb_ne {ts us : List Str} (h : 0 < ts.length) {q : Str} (h1 : q ∈ us) (h2 : q ∉ ts) : lb ts ≠ lb (mkR us) := fun e => by
  have z := (lb_memq (mkR_prim (W := us) (List.length_pos_of_mem h1)).1 q).mpr (mkR_memq h1)
  rw [← e] at z
  exact h2 ((lb_memq h q).mp z)
theorem mov_same {ts : List Str} (h : Prim ts) (b : Int) : decide (movL ts b = ts) = decide (b % (ts.length : Int) = 0) := by
  refine decide_eq_decide.mpr ⟨fun e => ?_, fun e => ?_⟩
  · have p : Per (cyc ts) (-b) := fun i => by rw [← movL_cyc h.1, e]
    have := (per_iff h.1 (-b)).mp p
    rw [h.2] at this
    exact Int.emod_eq_zero_of_dvd (Int.dvd_neg.mp this)
  · refine ext_cyc (movL_len ts b) fun i => ?_
    rw [movL_cyc h.1]
    have p : Per (cyc ts) (-b) := (per_iff h.1 (-b)).mpr (by rw [h.2]; exact Int.dvd_neg.mpr (Int.dvd_of_emod_eq_zero e))
    exact p i
end
end Hd

set_option Elab.async false
set_option linter.all false
set_option maxRecDepth 100000
set_option maxHeartbeats 1000000
namespace Hd
open PySem PySem.Spec PyProof.Rows L2 PL
section
variable {Pg : Program} {w : World} {K : PySem.W.Frag} {mg : Str → Option Value} {base : Heap}
/-! ### Row by keywords -/
structure RowKw (Pg : Program) (w : World) (K : PySem.W.Frag) (mg : Str → Option Value) (base : Heap) (C : Addr) : Prop where
  ex : ∃ f fd, mg "Row" = some (.ref C) ∧ Mk K C f ∧ PL.FnOk Pg w K mg base (L2.CX Pg w) 6 f fd ["self", "stripes", "manner", "start"] (sp1 K (P_init C)) ∧
    KwB K fd ["self", "stripes", "manner", "start"] 1 ["start", "stripes", "manner"] [.str "run", .int 0] [0, 4, 5, 3] ∧ KwB K fd ["self", "stripes", "manner", "start"] 2 ["manner"] [.str "run", .int 0] [0, 1, 4, 3] ∧
    KwB K fd ["self", "stripes", "manner", "start"] 2 ["start"] [.str "run", .int 0] [0, 1, 2, 4] ∧ KwB K fd ["self", "stripes", "manner", "start"] 2 ["manner", "start"] [.str "run", .int 0] [0, 1, 4, 5]
theorem c_RowKw (C : Addr) (h : ∃ f fd, mg "Row" = some (.ref C) ∧ Mk K C f ∧ PL.FnOk Pg w K mg base (L2.CX Pg w) 6 f fd ["self", "stripes", "manner", "start"] (sp1 K (P_init C)) ∧ (∀ dvs ∈ [[], [.str "run", .int 0]], ∃ dv, Vals dvs dv ∧ Binds K fd ["self", "stripes", "manner", "start"] dv) ∧ FunD K "__init__" "Row.__init__" (defArgs s_Row___init__) (defBody s_Row___init__) (defScope s_Row___init__) [.str "run", .int 0] [] f fd) :
    RowKw Pg w K mg base C := by
  obtain ⟨f, fd, h1, h2, h3, _, FD⟩ := h
  refine ⟨f, fd, h1, h2, h3, ?_, ?_, ?_, ?_⟩
  · exact kwb_d FD 1 _ _ (by decide) fun T kV doc pm an cdv ct us its ws l1 l2 l3 => match us, its, ws, l1, l2, l3 with | [_], [_, _], [_, _, _], _, _, _ => ⟨_, rfl, rfl⟩
  · exact kwb_d FD 2 _ _ (by decide) fun T kV doc pm an cdv ct us its ws l1 l2 l3 => match us, its, ws, l1, l2, l3 with | [_, _], [_, _], [_], _, _, _ => ⟨_, rfl, rfl⟩
  · exact kwb_d FD 2 _ _ (by decide) fun T kV doc pm an cdv ct us its ws l1 l2 l3 => match us, its, ws, l1, l2, l3 with | [_, _], [_, _], [_], _, _, _ => ⟨_, rfl, rfl⟩
  · exact kwb_d FD 2 _ _ (by decide) fun T kV doc pm an cdv ct us its ws l1 l2 l3 => match us, its, ws, l1, l2, l3 with | [_, _], [_, _], [_, _], _, _, _ => ⟨_, rfl, rfl⟩
end
end Hd

set_option Elab.async false
set_option linter.all false
set_option maxRecDepth 100000
set_option maxHeartbeats 1000000
/-! the text of stripes tells them -/
namespace PL
open PySem
def wordP (p : Str × Int) : Str := Str.empty ++ p.1 ++ (toString p.2 : Str)
def textS (ps : List (Str × Int)) : Str := Txt.join " " (ps.map wordP)
abbrev cdl (x : Str) : List Nat := x.cps.toList
theorem cd_app (x y : Str) : cdl (x ++ y) = cdl x ++ cdl y := by
  show (x.cps ++ y.cps).toList = _
  rw [Array.toList_append]
def isLet (c : Nat) : Bool := decide (97 ≤ c) && decide (c ≤ 122)
def isDig (c : Nat) : Bool := decide (48 ≤ c) && decide (c ≤ 57)
def numOf (cs : List Nat) : Nat := cs.foldl (fun a c => a * 10 + (c - 48)) 0
theorem dig_ok : ∀ n : _root_.Fin 241, (cdl (toString ((n.val : Nat) : Int) : Str)).all isDig = true ∧ numOf (cdl (toString ((n.val : Nat) : Int) : Str)) = n.val ∧ (toString ((n.val : Nat) : Int) : Str).length ≤ 3 := by decide +kernel
theorem letters_let : ∀ c ∈ letters.cps.toList, isLet c = true := by decide +kernel
structure Wok (p : Str × Int) : Prop where
  let_ : (cdl p.1).all isLet = true
  ne : 0 < (cdl p.1).length
  lo : 0 ≤ p.2
  hi : p.2 ≤ 240
theorem Wok.dig {p : Str × Int} (h : Wok p) : (cdl (toString p.2 : Str)).all isDig = true ∧ (numOf (cdl (toString p.2 : Str)) : Int) = p.2 ∧ (toString p.2 : Str).length ≤ 3 := by
  have h1 := h.lo
  have h2 := h.hi
  have := dig_ok ⟨p.2.toNat, by omega⟩
  have e : ((p.2.toNat : Nat) : Int) = p.2 := by omega
  simp only [e] at this
  exact ⟨this.1, by rw [this.2.1]; exact e, this.2.2⟩
theorem word_cd (p : Str × Int) : cdl (wordP p) = cdl p.1 ++ cdl (toString p.2 : Str) := by
  unfold wordP
  rw [cd_app, cd_app]
  show [] ++ cdl p.1 ++ _ = _
  rw [List.nil_append]
theorem split_ld : ∀ (a b c d : List Nat), a.all isLet = true → c.all isLet = true → b.all isDig = true → d.all isDig = true → a ++ b = c ++ d → a = c ∧ b = d
  | [], b, [], d, _, _, _, _, h => ⟨rfl, h⟩
  | x :: a, b, y :: c, d, h1, h2, h3, h4, h => by
    rw [List.cons_append, List.cons_append] at h
    injection h with e1 e2
    have h1' := (Bool.and_eq_true_iff.mp (show (isLet x && a.all isLet) = true from h1)).2
    have h2' := (Bool.and_eq_true_iff.mp (show (isLet y && c.all isLet) = true from h2)).2
    obtain ⟨r1, r2⟩ := split_ld a b c d h1' h2' h3 h4 e2
    rw [e1, r1]; exact ⟨rfl, r2⟩
  | [], b, y :: c, d, _, h2, h3, _, h => by
    exfalso
    have hy := (Bool.and_eq_true_iff.mp (show (isLet y && c.all isLet) = true from h2)).1
    rw [List.nil_append] at h
    rw [h] at h3
    have hd := (Bool.and_eq_true_iff.mp (show (isDig y && (c ++ d).all isDig) = true from h3)).1
    simp only [isLet, isDig, Bool.and_eq_true, decide_eq_true_eq] at hy hd
    omega
  | x :: a, b, [], d, h1, _, _, h4, h => by
    exfalso
    have hy := (Bool.and_eq_true_iff.mp (show (isLet x && a.all isLet) = true from h1)).1
    rw [List.nil_append] at h
    rw [← h] at h4
    have hd := (Bool.and_eq_true_iff.mp (show (isDig x && (a ++ b).all isDig) = true from h4)).1
    simp only [isLet, isDig, Bool.and_eq_true, decide_eq_true_eq] at hy hd
    omega
theorem cd_inj {x y : Str} (h : cdl x = cdl y) : x = y := cps_inj h
theorem word_inj {p q : Str × Int} (hp : Wok p) (hq : Wok q) (h : cdl (wordP p) = cdl (wordP q)) : p = q := by
  rw [word_cd, word_cd] at h
  obtain ⟨e1, e2⟩ := split_ld _ _ _ _ hp.let_ hq.let_ hp.dig.1 hq.dig.1 h
  have e3 := hp.dig.2.1
  rw [e2, hq.dig.2.1] at e3
  obtain ⟨x, n⟩ := p
  obtain ⟨y, m⟩ := q
  simp only at e1 e3
  rw [cd_inj e1, e3]
theorem word_no {p : Str × Int} (hp : Wok p) : 32 ∉ cdl (wordP p) := by
  rw [word_cd]
  intro h
  rcases List.mem_append.mp h with z | z
  · have := List.all_eq_true.mp hp.let_ 32 z
    exact absurd this (by decide)
  · have := List.all_eq_true.mp hp.dig.1 32 z
    exact absurd this (by decide)
theorem word_ne {p : Str × Int} (hp : Wok p) : cdl (wordP p) ≠ [] := by
  rw [word_cd]
  have := hp.ne
  intro h
  have h2 := congrArg List.length h
  rw [List.length_append] at h2
  simp only [List.length_nil] at h2
  omega
/-- words parted by a sign that none has -/
def joinC (c : Nat) : List (List Nat) → List Nat
  | [] => []
  | [w] => w
  | w :: v :: r => w ++ (c :: joinC c (v :: r))
theorem cut_first : ∀ (c : Nat) (a b x y : List Nat), c ∉ a → c ∉ b → a ++ c :: x = b ++ c :: y → a = b ∧ x = y
  | c, [], [], x, y, _, _, h => by
    rw [List.nil_append, List.nil_append] at h
    injection h with _ h
    exact ⟨rfl, h⟩
  | c, u :: a, v :: b, x, y, h1, h2, h => by
    rw [List.cons_append, List.cons_append] at h
    injection h with e1 e2
    obtain ⟨r1, r2⟩ := cut_first c a b x y (fun z => h1 (List.mem_cons_of_mem _ z)) (fun z => h2 (List.mem_cons_of_mem _ z)) e2
    rw [e1, r1]; exact ⟨rfl, r2⟩
  | c, [], v :: b, x, y, _, h2, h => by
    rw [List.nil_append, List.cons_append] at h
    injection h with e _
    exact absurd (List.mem_cons.mpr (.inl e)) h2
  | c, u :: a, [], x, y, h1, _, h => by
    rw [List.nil_append, List.cons_append] at h
    injection h with e _
    exact absurd (List.mem_cons.mpr (.inl e.symm)) h1
theorem joinC_inj (c : Nat) : ∀ (ws vs : List (List Nat)), (∀ w ∈ ws, c ∉ w ∧ w ≠ []) → (∀ w ∈ vs, c ∉ w ∧ w ≠ []) → joinC c ws = joinC c vs → ws = vs
  | [], [], _, _, _ => rfl
  | [], [v], _, h2, h => absurd h.symm (h2 v (List.mem_cons_self ..)).2
  | [], v :: z :: r, _, h2, h => by
    exfalso
    have : ([] : List Nat) = v ++ (c :: joinC c (z :: r)) := h
    have h3 := congrArg List.length this
    rw [List.length_append, List.length_cons] at h3
    simp only [List.length_nil] at h3
    omega
  | [w], [], h1, _, h => absurd h (h1 w (List.mem_cons_self ..)).2
  | w :: z :: r, [], h1, _, h => by
    exfalso
    have : w ++ (c :: joinC c (z :: r)) = ([] : List Nat) := h
    have h3 := congrArg List.length this
    rw [List.length_append, List.length_cons] at h3
    simp only [List.length_nil] at h3
    omega
  | [w], [v], _, _, h => by rw [show w = v from h]
  | [w], v :: z :: r, h1, _, h => by
    exfalso
    have h' : w = v ++ (c :: joinC c (z :: r)) := h
    apply (h1 w (List.mem_cons_self ..)).1
    rw [h']; simp
  | w :: z :: r, [v], _, h2, h => by
    exfalso
    have h' : w ++ (c :: joinC c (z :: r)) = v := h
    apply (h2 v (List.mem_cons_self ..)).1
    rw [← h']; simp
  | w :: z :: r, v :: y :: q, h1, h2, h => by
    have h' : w ++ (c :: joinC c (z :: r)) = v ++ (c :: joinC c (y :: q)) := h
    obtain ⟨e1, e2⟩ := cut_first c _ _ _ _ (h1 w (List.mem_cons_self ..)).1 (h2 v (List.mem_cons_self ..)).1 h'
    have e3 := joinC_inj c (z :: r) (y :: q) (fun w hw => h1 w (List.mem_cons_of_mem _ hw)) (fun w hw => h2 w (List.mem_cons_of_mem _ hw)) e2
    rw [e1, e3]
theorem text_cd : ∀ ps : List (Str × Int), cdl (textS ps) = joinC 32 (ps.map fun p => cdl (wordP p)) := by
  intro ps
  unfold textS
  rw [show Txt.join " " (ps.map wordP) = Str.join " " (ps.map wordP) from StrLaws.glued_eq_join _ _]
  induction ps with
  | nil => rfl
  | cons p ps ih =>
    cases ps with
    | nil => rfl
    | cons q r =>
      show cdl (wordP p ++ " " ++ Str.join " " ((q :: r).map wordP)) = cdl (wordP p) ++ (32 :: joinC 32 ((q :: r).map fun p => cdl (wordP p)))
      rw [cd_app, cd_app, ih, List.append_assoc]
      congr 1
theorem text_inj {ps qs : List (Str × Int)} (hp : ∀ p ∈ ps, Wok p) (hq : ∀ p ∈ qs, Wok p) (h : textS ps = textS qs) : ps = qs := by
  have h1 := congrArg cdl h
  rw [text_cd, text_cd] at h1
  have h2 := joinC_inj 32 _ _ (fun w hw => by
    obtain ⟨p, hp', rfl⟩ := List.mem_map.mp hw
    exact ⟨word_no (hp p hp'), word_ne (hp p hp')⟩) (fun w hw => by
    obtain ⟨p, hp', rfl⟩ := List.mem_map.mp hw
    exact ⟨word_no (hq p hp'), word_ne (hq p hp')⟩) h1
  clear h h1
  induction ps generalizing qs with
  | nil => cases qs with
    | nil => rfl
    | cons q r => cases h2
  | cons p ps ih =>
    cases qs with
    | nil => cases h2
    | cons q r =>
      rw [List.map_cons, List.map_cons] at h2
      injection h2 with e1 e2
      rw [word_inj (hp p (List.mem_cons_self ..)) (hq q (List.mem_cons_self ..)) e1, ih (fun x hx => hp x (List.mem_cons_of_mem _ hx)) (fun x hx => hq x (List.mem_cons_of_mem _ hx)) e2]
end PL

set_option Elab.async false
set_option linter.all false
set_option maxRecDepth 100000
set_option maxHeartbeats 1000000
namespace Hd
open PySem PySem.Spec PyProof.Rows L2 PL
section
variable {Pg : Program} {w : World} {K : PySem.W.Frag} {mg : Str → Option Value} {base : Heap}
/-! ### least_begun, ==, str -/
def P_lb : List D → Rs → Prop := fun ds r => ∃ ts, 0 < ts.length ∧ ts.length ≤ 1000 ∧ ds = [dT ts] ∧ r = .sh (dT (lb ts))
theorem c_least_begun (Dd : Df K mg "least_begun" s_least_begun []) (T : Bt mg) : C0 Pg w K mg base "least_begun" 1 ["threads"] P_lb := by
  refine c0_mk (k := 0) Dd sc_least_begun (fun _ _ _ _ _ _ us hl => match us, hl with | [_], _ => rfl) (by decide) (fun ds r => ?_) (fun f cd A outer s H E g ds r => ?_)
  · rintro ⟨ts, h0, hl, rfl, rfl⟩
    exact ⟨rfl, fun _ z => by cases z⟩
  · rintro ⟨ts, h0, hl, rfl, rfl⟩
    have hz := big2000
    have hn : (ts.map D.str).length = ts.length := List.length_map _
    have hall : (List.range (((ts.map D.str).length : Int)).toNat).map (fun (j : Nat) => dT (rot ts j)) = (rot ts 0 :: ((List.range (ts.length - 1)).map fun k => rot ts (k + 1))).map dT := by
      rw [lb_all h0, List.map_map, hn]; rfl
    refine ends_rt (s_one (s1_ret (e_callB (c_minTs (x := rot ts 0) (xs := (List.range (ts.length - 1)).map fun k => rot ts (k + 1)) g.calm g.rm.units) T.min b_min (a_cons (e_fz (e_eq (e_lc1 1 (fun j => dT (rot ts j)) g (it_range1 T.range (a_cons (e_callB c_lenT T.len b_len (a_cons (e_var 0) a_nil)) a_nil) (by omega) (by omega)) (by omega) (blkOk_by (N := N_least_begun) (sc := defScope s_least_begun) (by decide +kernel)) rfl (fun j hj s1 H1 C1 cl fp => ?_)) (congrArg (fun z => Rs.ow (Ob.lst z)) hall))) a_nil))))
    have hj' : j < ts.length := by omega
    exact e_eq (e_bin (o_dTcat (xs := cutL ts (some (j : Int)) none) (ys := cutL ts none (some (j : Int))) (by rw [cut_from, cut_to, List.length_drop, List.length_take]; omega)) (e_slice l_dT (e_var 0) (p_some (e_var 1)) p_none) (e_slice l_dT (e_var 0) p_none (p_some (e_var 1)))) (by rw [cut_from, cut_to]; rfl)
def P_eqR (C : Addr) : List D → Rs → Prop := fun ds r => ∃ ts, Rok 240 ts ∧ ((∃ us, Rok 240 us ∧ ds = [dR C ts, dR C us] ∧ r = .sh (.bl (decide (lb ts = lb us)))) ∨ ∃ d, d.plain = true ∧ ds = [dR C ts, d] ∧ r = .sh (.bl false))
theorem lb_shs {m : Nat} {ts : List Str} (h : Rok m ts) : Shs (lb ts) := fun t ht => by
  obtain ⟨k, hk, e⟩ := lb_mem h.pos
  rw [e, rot_mov hk] at ht
  exact (mov_ok h _).shs t ht
theorem c_eqR (C : Addr) (Dd : Dm K C "__eq__" "Row.__eq__" s_Row___eq__ []) (T : Bt mg) (hC : Cls K C) (hN : NoAttr K C "kept") (hI : Ic K C) (G_Row : mg "Row" = some (.ref C)) (G_least_begun : C0 Pg w K mg base "least_begun" 1 ["threads"] P_lb) : M0 Pg w K mg base C "__eq__" 2 ["self", "other"] (P_eqR C) := by
  refine m0_mk (k := 1) Dd sc_Row___eq__ (fun _ _ _ _ _ _ us hl => match us, hl with | [_, _], _ => rfl) (by decide) (fun ds r => ?_) (fun f cd A outer s H E g ds r => ?_)
  · rintro ⟨ts, h, ⟨us, h', rfl, rfl⟩ | ⟨d, hd, rfl, rfl⟩⟩
    · exact ⟨rfl, fun _ z => by cases z⟩
    · exact ⟨rfl, fun _ z => by cases z⟩
  · rintro ⟨ts, h, ⟨us, h', rfl, rfl⟩ | ⟨d, hd, rfl, rfl⟩⟩
    · have l1 := h.len
      have l2 := h'.len
      exact ends_rt (s_one (s1_ret (e_eq (e_and (e_callB (c_isC hI) T.isinstance b_isinstance (a_cons (e_var 1) (a_cons (e_globR G_Row) a_nil))) fun _ => e_one (e_cmp (o_eqT g.rm.units (lb_shs h).ok (lb_shs h').ok) (e_c0 G_least_begun g (a_cons (e_fld hC hN (e_var 0) rfl) a_nil) ⟨ts, h.pos, by omega, rfl, rfl⟩) (e_c0 G_least_begun g (a_cons (e_fld hC hN (e_var 1) rfl) a_nil) ⟨us, h'.pos, by omega, rfl, rfl⟩))) rfl)))
    · exact ends_rt (s_one (s1_ret (e_andF (e_callB (c_isNo hI hd) T.isinstance b_isinstance (a_cons (e_var 1) (a_cons (e_globR G_Row) a_nil))))))
def P_strR (C : Addr) : List D → Rs → Prop := fun ds r => ∃ ts, Rok 240 ts ∧ ds = [dR C ts] ∧ r = .sh (.str (textS (mrg (lb ts))))
theorem shade_sig {x : Str} (h : shadeB x = true) : (cdl x).all isLet = true ∧ 0 < (cdl x).length ∧ x.length ≤ 3 := by
  obtain ⟨h1, h2, h3⟩ := shade_okW h
  refine ⟨List.all_eq_true.mpr fun c hc => letters_let c (h3 c hc), ?_, h2⟩
  show 0 < x.cps.toList.length
  rw [Array.length_toList]; omega
theorem mrg_wok {ts : List Str} (hs : Shs ts) (h0 : 0 < ts.length) (hl : ts.length ≤ 240) : ∀ p ∈ mrg ts, Wok p := by
  intro p hp
  have ho := mrg_ok hs h0 hl
  have h1 := ho.ok p hp
  have hle : p.2 ≤ tot (mrg ts) := by
    have key : ∀ (qs : List (Str × Int)), (∀ q ∈ qs, 0 < q.2) → p ∈ qs → p.2 ≤ tot qs := by
      intro qs
      induction qs with
      | nil => intro _ h; cases h
      | cons q qs ih =>
        intro hq h
        have e : tot (q :: qs) = q.2 + tot qs := by unfold tot; rw [List.map_cons, List.sum_cons]
        have hn : 0 ≤ tot qs := tot_nonneg fun r hr => hq r (List.mem_cons_of_mem _ hr)
        have hq0 := hq q (List.mem_cons_self ..)
        rw [e]
        rcases List.mem_cons.mp h with rfl | h
        · omega
        · have := ih (fun r hr => hq r (List.mem_cons_of_mem _ hr)) h
          omega
    exact key _ (fun q hq => (ho.ok q hq).2) hp
  have h240 := ho.le
  obtain ⟨a, b, _⟩ := shade_sig h1.1
  exact ⟨a, b, by have := h1.2; omega, by omega⟩
theorem word_len {p : Str × Int} (hp : Wok p) (h3 : p.1.length ≤ 3) : (wordP p).length ≤ 6 := by
  unfold wordP
  rw [Str.length_append, Str.length_append]
  have := hp.dig.2.2
  have e : Str.empty.length = 0 := rfl
  omega
theorem c_strR (C : Addr) (Dd : Dm K C "__str__" "Row.__str__" s_Row___str__ []) (T : Bt mg) (hC : Cls K C) (hN : NoAttr K C "kept") (G_least_begun : C0 Pg w K mg base "least_begun" 1 ["threads"] P_lb) (G_merged : C0 Pg w K mg base "merged" 1 ["threads"] P_merged) : M0 Pg w K mg base C "__str__" 2 ["self"] (P_strR C) := by
  refine m0_mk (k := 1) Dd sc_Row___str__ (fun _ _ _ _ _ _ us hl => match us, hl with | [_], _ => rfl) (by decide) (fun ds r => ?_) (fun f cd A outer s H E g ds r => ?_)
  · rintro ⟨ts, h, rfl, rfl⟩
    exact ⟨rfl, fun _ z => by cases z⟩
  · rintro ⟨ts, h, rfl, rfl⟩
    have l1 := h.len
    have hz := big2000
    have hls := lb_shs h
    have hll := lb_len h.pos
    have hp0 := h.pos
    have hwk := mrg_wok hls (by omega) (by omega)
    have hml : (mrg (lb ts)).length ≤ 240 := by
      have := mrg_len (lb ts) []
      unfold mrg
      simp only [List.length_nil] at this
      omega
    have hsh : ∀ p ∈ mrg (lb ts), p.1.length ≤ 3 := fun p hp => (shade_sig (mrg_mem (fun t => shadeB t = true) (lb ts) hls p hp)).2.2
    have hlb : P_lb [dT ts] (.sh (dT (lb ts))) := ⟨ts, hp0, by omega, rfl, rfl⟩
    have hmg : P_merged [dT (lb ts)] (.sh (dS (mrg (lb ts)))) := ⟨lb ts, hls.ok, by omega, rfl, rfl⟩
    unfold textS
    generalize mrg (lb ts) = ps at hwk hml hsh hmg
    have hn : (ps.map dP).length = ps.length := List.length_map _
    have hall : (List.range (ps.map dP).length).map (fun (l : Nat) => D.str (wordP (ps.getD l default))) = (ps.map wordP).map D.str := by
      rw [hn, List.map_map]
      apply List.ext_getElem?
      intro i
      rw [List.getElem?_map, List.getElem?_map]
      by_cases hi : i < ps.length
      · rw [List.getElem?_range hi, List.getElem?_eq_getElem hi]
        show some (D.str (wordP (ps.getD i default))) = _
        rw [List.getD_eq_getElem?_getD, List.getElem?_eq_getElem hi]; rfl
      · rw [List.getElem?_eq_none (by simpa using hi), List.getElem?_eq_none (by simpa using hi)]; rfl
    refine ends_rt (s_one (s1_ret (e_join (x := " ") (ys := ps.map wordP) e_str (e_fz (e_eq (e_lc2 1 2 g (lc2 (a := fun l => .str (ps.getD l default).1) (b := fun l => .int (ps.getD l default).2) (f := fun l => .str (wordP (ps.getD l default))) 1 2 g (it_tup (e_c0 G_merged g (a_cons (e_c0 G_least_begun g (a_cons (e_fld hC hN (e_var 0) rfl) a_nil) hlb) a_nil) hmg)) (fun l hl => ?_) (by omega) (blkOk_by (N := N_Row___str__) (sc := defScope s_Row___str__) (by decide +kernel)) rfl rfl (fun l hl s1 H1 C1 cl fp => ?_))) (congrArg (fun z => Rs.ow (Ob.lst z)) hall))) ?_)))
    · have hl' : l < ps.length := by omega
      rw [itd_map dP ps l hl', List.getD_eq_getElem?_getD, List.getElem?_eq_getElem hl']; rfl
    · have hl' : l < ps.length := by omega
      have hmem : ps.getD l default ∈ ps := by
        rw [List.getD_eq_getElem?_getD, List.getElem?_eq_getElem hl']; exact List.getElem_mem _
      have w1 := hwk _ hmem
      have w2 := hsh _ hmem
      have w3 := word_len w1 w2
      have w4 : (wordP (ps.getD l default)).length = 0 + (ps.getD l default).1.length + (toString (ps.getD l default).2 : Str).length := by
        unfold wordP; rw [Str.length_append, Str.length_append]; rfl
      have hlog : (ps.getD l default).2.natAbs.log2 < 1920 := by
        have h1 := w1.lo
        have h2 := w1.hi
        rcases Nat.eq_zero_or_pos (ps.getD l default).2.natAbs with z | z
        · rw [z]; decide
        · rw [Nat.log2_lt (by omega)]
          exact Nat.lt_of_lt_of_le (show _ < 2 ^ 8 by omega) (Nat.pow_le_pow_right (by decide) (by decide))
      exact e_js2 (e_fmtS (e_var 1) (by omega)) (e_fmtI (e_var 2) hlog) (by rw [Str.length_append]; show 0 + _ ≤ _; omega) (by show (wordP _).length ≤ _; omega)
    · have hsum : ∀ ws : List Str, (∀ x ∈ ws, x.length ≤ 6) → (ws.map (·.length)).sum ≤ 6 * ws.length := by
        intro ws
        induction ws with
        | nil => intro _; exact Nat.le_refl _
        | cons x ws ih =>
          intro h
          have h1 := h x (List.mem_cons_self ..)
          have h2 := ih fun y hy => h y (List.mem_cons_of_mem _ hy)
          rw [List.map_cons, List.sum_cons, List.length_cons]
          omega
      have := hsum (ps.map wordP) fun x hx => by
        obtain ⟨p, hp, rfl⟩ := List.mem_map.mp hx
        exact word_len (hwk p hp) (hsh p hp)
      rw [List.length_map] at this ⊢
      show _ + ps.length * 1 ≤ _
      omega
theorem str_iff {m : Nat} (hm : m ≤ 240) {xs ys : List Str} (hx : Rok m xs) (hy : Rok m ys) : textS (mrg (lb xs)) = textS (mrg (lb ys)) ↔ lb xs = lb ys := by
  constructor
  · intro h
    have l1 := hx.len
    have l2 := hy.len
    have p1 := lb_len hx.pos
    have p2 := lb_len hy.pos
    have q1 := hx.pos
    have q2 := hy.pos
    have e := text_inj (mrg_wok (lb_shs hx) (by omega) (by omega)) (mrg_wok (lb_shs hy) (by omega) (by omega)) h
    have e1 := (mrg_thr (lb xs)).1
    rw [e, (mrg_thr (lb ys)).1] at e1
    exact e1.symm
  · intro h; rw [h]
end
end Hd

set_option Elab.async false
set_option linter.all false
set_option maxRecDepth 100000
set_option maxHeartbeats 1000000
/-! stripes are data that repr shows -/
namespace PL
open PySem
abbrev prY (p : Str × Int) : PyData := .tuple [.str p.1, .int p.2]
structure Sml (p : Str × Int) : Prop where
  sh : shadeB p.1 = true
  lo : 0 < p.2
  hi : p.2 ≤ 240
theorem Sml.log {p : Str × Int} (h : Sml p) : p.2.natAbs.log2 < 8 := by
  have h1 := h.lo
  have h2 := h.hi
  rw [Nat.log2_lt (by omega)]
  omega
theorem Sml.txt {p : Str × Int} (h : Sml p) : (toString p.2 : Str).length ≤ 3 := by
  have h1 := h.lo
  have h2 := h.hi
  have := dig_ok ⟨p.2.toNat, by omega⟩
  have e : ((p.2.toNat : Nat) : Int) = p.2 := by omega
  simp only [e] at this
  exact this.2.2
theorem sml_all : ∀ ps : List (Str × Int), (∀ p ∈ ps, Sml p) → PyData.showableAll (ps.map prY) = true ∧ PyData.hasDictAll (ps.map prY) = false ∧ PyData.weightAll (ps.map prY) ≤ ps.length * 14 ∧ PyData.intsShortAll 13 (ps.map prY) = true
  | [], _ => ⟨rfl, rfl, Nat.le_refl _, rfl⟩
  | p :: ps, h => by
    obtain ⟨a, b, c, d⟩ := sml_all ps fun q hq => h q (List.mem_cons_of_mem _ hq)
    have hp := h p List.mem_cons_self
    have hl := hp.log
    have ht := hp.txt
    have hs := (shade_len hp.sh).2
    refine ⟨?_, ?_, ?_, ?_⟩
    · show ((true && (decide (p.2.natAbs.log2 < 1920) && true)) && PyData.showableAll (ps.map prY)) = true
      rw [a, decide_eq_true (by omega)]; rfl
    · show ((false || (false || false)) || PyData.hasDictAll (ps.map prY)) = false
      rw [b]; rfl
    · show ((p.1.cps.size + 1 + ((if p.2 == 0 then 0 else p.2.natAbs.log2 + 1) + 1 + 0)) + 1 + PyData.weightAll (ps.map prY)) ≤ (ps.length + 1) * 14
      have h3 : p.1.cps.size ≤ 3 := hs
      split <;> omega
    · show ((true && (decide ((toString p.2 : Str).length ≤ 13) && true)) && PyData.intsShortAll 13 (ps.map prY)) = true
      rw [d, decide_eq_true (by omega)]; rfl
theorem shw_dS {ps : List (Str × Int)} (h : ∀ p ∈ ps, Sml p) (hl : ps.length ≤ 240) : Shw (dS ps) ∧ (dS ps).py.shown.length ≤ 15728653 := by
  obtain ⟨a, b, c, d⟩ := sml_all ps h
  obtain ⟨l1, l2⟩ := lay_pairs ps fun p hp => shade_ok (h p hp).sh
  have e : (dS ps).py = .tuple (ps.map prY) := by
    show PyData.tuple (D.pys (ps.map dP)) = _
    rw [pairs_py]
  have lay : PyData.layable0 (.tuple (ps.map prY)) = true := by
    show (PyData.canLayAll0 (ps.map prY) && decide (PyData.depthAll (ps.map prY) + 1 ≤ 64) && decide (PyData.weightAll (ps.map prY) ≤ 2 ^ 20)) = true
    have p20 : (2 : Nat) ^ 20 = 1048576 := by decide
    have l2' : PyData.depthAll (ps.map prY) ≤ 1 := l2
    have l1' : PyData.canLayAll0 (ps.map prY) = true := l1
    rw [l1', decide_eq_true (show PyData.depthAll (ps.map prY) + 1 ≤ 64 by omega), decide_eq_true (show PyData.weightAll (ps.map prY) ≤ 2 ^ 20 by omega)]; rfl
  have hs := PyProof.Rows.shown_le13 lay d
  refine ⟨⟨pairs_flat ps, by rw [e]; exact a, by rw [e]; exact b, by rw [e]; show PyData.depthAll (ps.map prY) + 1 ≤ 60; have : PyData.depthAll (ps.map prY) ≤ 1 := l2; omega, by rw [e]; exact Nat.le_trans hs (by decide)⟩, by rw [e]; exact hs⟩
end PL

set_option Elab.async false
set_option linter.all false
set_option maxRecDepth 100000
set_option maxHeartbeats 1000000
/-! what words of a row's text tell, as lists of signs -/
namespace PL
open PySem TL
abbrev figs : Str := "0123456789"
theorem figs_cd : cdl figs = [48, 49, 50, 51, 52, 53, 54, 55, 56, 57] := by decide +kernel
theorem fig_iff (c : Nat) : c ∈ cdl figs ↔ 48 ≤ c ∧ c ≤ 57 := by
  rw [figs_cd]
  simp only [List.mem_cons, List.not_mem_nil, or_false]
  omega
theorem numL_dig {n c : Nat} (h : c ∈ numL n) : 48 ≤ c ∧ c ≤ 57 := by
  by_cases z : c < 48 ∨ 57 < c
  · exact absurd h (numL_free z)
  · omega
theorem numL_head : ∀ {n : Nat} {c : Nat} {r : List Nat}, numL n = c :: r → 0 < n → c ≠ 48 := by
  intro n
  induction n using Nat.strongRecOn with
  | _ n ih =>
    intro c r h h0
    by_cases hn : n < 10
    · rw [numL_lt hn] at h
      injection h with h1 _
      omega
    · rw [numL_step (by omega)] at h
      cases q : numL (n / 10) with
      | nil => exact absurd q (numL_ne _)
      | cons a b =>
        rw [q] at h
        injection h with h1 _
        rw [← h1]
        exact ih (n / 10) (by omega) q (by omega)
theorem neg_cd (n : Nat) (h : 0 < n) : cdl (Str.ofString (toString (-(n : Int)))) = 45 :: numL n := by
  obtain ⟨m, rfl⟩ : ∃ m, n = m + 1 := ⟨n - 1, by omega⟩
  have e : toString (-((m + 1 : Nat) : Int)) = "-" ++ toString ((m + 1 : Nat) : Int) := rfl
  rw [e]
  show TL.tl (Str.ofString ("-" ++ toString ((m + 1 : Nat) : Int))) = _
  rw [tl_ofString, String.toList_append, List.map_append, ← tl_ofString (toString ((m + 1 : Nat) : Int)), tl_num]
  rfl
theorem pos_cd (n : Nat) : cdl (Str.ofString (toString (n : Int))) = numL n := tl_num n
/-! ### words -/
theorem str_ne {x y : Str} (h : cdl x ≠ cdl y) : x ≠ y := fun e => h (by rw [e])
theorem len_cd (x : Str) : x.length = (cdl x).length := by show x.cps.size = x.cps.toList.length; simp
theorem takeW_rev {p : Nat → Bool} : ∀ {a b : List Nat}, (∀ c ∈ b, p c = true) → (∀ c r, a = c :: r → p c = false) → (b ++ a).takeWhile p = b
  | a, [], _, h => by
    cases a with
    | nil => rfl
    | cons c r => rw [List.nil_append, List.takeWhile_cons, h c r rfl]; rfl
  | a, c :: b, hb, h => by
    rw [List.cons_append, List.takeWhile_cons, hb c List.mem_cons_self]
    show c :: (b ++ a).takeWhile p = _
    rw [takeW_rev (fun d hd => hb d (List.mem_cons_of_mem _ hd)) h]
theorem figs_has (c : Nat) : figs.cps.contains c = decide (48 ≤ c ∧ c ≤ 57) := by
  rw [Bool.eq_iff_iff, decide_eq_true_iff, ← fig_iff, Array.contains_iff_mem, Array.mem_toList_iff]
/-- the word without the figures at its end -/
theorem rstrip_cd {w : Str} {a b : List Nat} (h : cdl w = a ++ b) (hb : ∀ c ∈ b, 48 ≤ c ∧ c ≤ 57) (ha : ∀ c ∈ a, ¬ (48 ≤ c ∧ c ≤ 57)) : cdl (Txt.rstripChars w figs) = a := by
  have hl : w.length = a.length + b.length := by rw [len_cd, h, List.length_append]
  have e1 : ((w.cps.toList.drop 0).reverse.takeWhile figs.cps.contains) = b.reverse := by
    rw [List.drop_zero, show w.cps.toList = a ++ b from h, List.reverse_append]
    refine takeW_rev (fun c hc => ?_) (fun c r e => ?_)
    · rw [figs_has]; exact decide_eq_true (hb c (List.mem_reverse.mp hc))
    · rw [figs_has]; exact decide_eq_false (ha c (List.mem_reverse.mp (by rw [e]; exact List.mem_cons_self)))
  unfold Txt.rstripChars
  rw [PyProof.Rows.stripBy_eq]
  show tl (Builtin.Str.strSub w 0 (w.length - ((w.cps.toList.drop 0).reverse.takeWhile figs.cps.contains).length)) = a
  rw [e1, tl_strSub, List.length_reverse, hl, Nat.add_sub_cancel, Nat.sub_zero, List.drop_zero]
  show (cdl w).take a.length = a
  rw [h, List.take_left']
  rfl
theorem cut_cd (w : Str) (k : Nat) : cdl (L2.cutS w (some (k : Int)) none) = (cdl w).drop k := by
  have h := cut_from (cdl w) k
  unfold cutL at h
  rw [← len_cd] at h
  exact h
theorem cut_cd1 (w : Str) : cdl (L2.cutS w (some 1) none) = (cdl w).drop 1 := cut_cd w 1
theorem cut_cdt (w : Str) (k : Nat) : cdl (L2.cutS w none (some (k : Int))) = (cdl w).take k := by
  have h := cut_to (cdl w) k
  unfold cutL at h
  rw [← len_cd] at h
  exact h
/-- what a word of figures tells -/
def rnB (cs : List Nat) : Bool := !cs.isEmpty && cs.all isDig && (decide (cs.head? ≠ some 48) || decide (cs = [48]))
def rnO (cs : List Nat) : Option Nat := if rnB cs = true then some (NumText.digitsVal cs) else none
theorem rnO_num (n : Nat) : rnO (numL n) = some n := by
  have h : rnB (numL n) = true := by
    have h1 : (numL n).isEmpty = false := by
      cases q : numL n with
      | nil => exact absurd q (numL_ne n)
      | cons a b => rfl
    have h2 : (numL n).all isDig = true := List.all_eq_true.mpr fun c hc => by
      have := numL_dig hc
      unfold isDig
      rw [decide_eq_true this.1, decide_eq_true this.2]; rfl
    have h3 : (decide ((numL n).head? ≠ some 48) || decide (numL n = [48])) = true := by
      by_cases h0 : n = 0
      · subst h0
        rw [show numL 0 = [48] from numL_lt (by decide)]; rfl
      · cases q : numL n with
        | nil => exact absurd q (numL_ne n)
        | cons a b =>
          have := numL_head q (by omega)
          rw [decide_eq_true (show (a :: b).head? ≠ some 48 from fun z => this (Option.some.inj z))]; rfl
    unfold rnB
    rw [h1, h2, h3]; rfl
  unfold rnO
  rw [if_pos h, numL_val]
theorem rnO_no {cs : List Nat} {c : Nat} (h : c ∈ cs) (hc : ¬ (48 ≤ c ∧ c ≤ 57)) : rnO cs = none := by
  have h2 : cs.all isDig = false := by
    cases q : cs.all isDig with
    | false => rfl
    | true =>
      have := List.all_eq_true.mp q c h
      simp only [isDig, Bool.and_eq_true, decide_eq_true_eq] at this
      exact absurd this hc
  unfold rnO rnB
  rw [h2, Bool.and_false, Bool.false_and, if_neg (by decide)]
theorem all_cd (x : Str) (L : List Nat) : (List.range x.cps.size).all (fun j => decide (x.cps.getD j 0 ∈ L)) = (cdl x).all (fun c => decide (c ∈ L)) := by
  rw [Bool.eq_iff_iff, List.all_eq_true, List.all_eq_true]
  constructor
  · intro h c hc
    obtain ⟨j, hj, e⟩ := List.mem_iff_getElem.mp hc
    have hj' : j < x.cps.size := by simpa using hj
    have := h j (List.mem_range.mpr hj')
    rw [show x.cps.getD j 0 = c from by rw [← e]; simp [Array.getD, hj']] at this
    exact this
  · intro h j hj
    have hj' := List.mem_range.mp hj
    refine h _ ?_
    simp only [Array.getD, hj', dite_true]
    exact Array.getElem_mem_toList hj'
theorem all_fig (x : Str) : (List.range x.cps.size).all (fun j => decide (x.cps.getD j 0 ∈ figs.cps.toList)) = (cdl x).all isDig := by
  rw [all_cd]
  congr 1
  funext c
  unfold isDig
  rw [Bool.eq_iff_iff, decide_eq_true_iff, Bool.and_eq_true_iff, decide_eq_true_iff, decide_eq_true_iff]
  exact fig_iff c
def optI : Option Nat → D
  | none => .non
  | some n => .int (n : Nat)
end PL

set_option Elab.async false
set_option linter.all false
set_option maxRecDepth 100000
set_option maxHeartbeats 1000000
/-! texts of four parts -/
namespace PL
open PySem PySem.Spec PyProof.Rows L2
variable {X : Cx} {Γ Γ1 Γ2 Γ3 Γ4 : Gm} {a b c d : Ex} {pos : Pos} {x y z u : Str}
theorem e_js4 (h1 : EX X Γ a (.sh (.str x)) Γ1) (h2 : EX X Γ1 b (.sh (.str y)) Γ2) (h3 : EX X Γ2 c (.sh (.str z)) Γ3) (h4 : EX X Γ3 d (.sh (.str u)) Γ4) (hz : x.length + y.length + z.length + u.length ≤ sizeLine) : EX X Γ (.JoinedStr [a, b, c, d] pos) (.sh (.str (Str.empty ++ x ++ y ++ z ++ u))) Γ4 := by
  have e0 : Str.empty.length = 0 := rfl
  have l1 : (Str.empty ++ x).length = x.length := by rw [Str.length_append, e0, Nat.zero_add]
  have l2 : (Str.empty ++ x ++ y).length = x.length + y.length := by rw [Str.length_append, l1]
  have l3 : (Str.empty ++ x ++ y ++ z).length = x.length + y.length + z.length := by rw [Str.length_append, l2]
  have l4 : (Str.empty ++ x ++ y ++ z ++ u).length = x.length + y.length + z.length + u.length := by rw [Str.length_append, l3]
  exact fun F σ H S Q R q =>
    pe_we (pe_joined (.cons we_pe (.cons we_pe (.cons we_pe (.cons we_pe .nil))))) (h1 F σ H S _ R fun v H1 S1 R1 s1 ok1 => ⟨x, ok1, by omega, h2 F σ H1 S1 _ R1 fun v H2 S2 R2 s2 ok2 => ⟨y, ok2, by omega, h3 F σ H2 S2 _ R2 fun v H3 S3 R3 s3 ok3 => ⟨z, ok3, by omega, h4 F σ H3 S3 _ R3 fun v H4 S4 R4 s4 ok4 => ⟨u, ok4, by omega, q _ H4 S4 R4 (((s1.trans s2).trans s3).trans s4) rfl⟩⟩⟩⟩)
end PL

set_option Elab.async false
set_option linter.all false
set_option maxRecDepth 100000
set_option maxHeartbeats 1000000
namespace Hd
open PySem PySem.Spec PyProof.Rows L2 PL
section
variable {Pg : Program} {w : World} {K : PySem.W.Frag} {mg : Str → Option Value} {base : Heap}
def reprT (ts : List Str) : Str := Str.empty ++ "Row(" ++ (dS (mrg ts)).py.shown ++ ")"
def P_reprR (C : Addr) : List D → Rs → Prop := fun ds r => ∃ ts, Rok 240 ts ∧ ds = [dR C ts] ∧ r = .sh (.str (reprT ts))
theorem mrg_sml {ts : List Str} (h : Rok 240 ts) : (∀ p ∈ mrg ts, Sml p) ∧ (mrg ts).length ≤ 240 := by
  have ho := mrg_ok h.shs h.pos h.len
  have key : ∀ ps : List (Str × Int), (∀ p ∈ ps, 0 < p.2) → (ps.length : Int) ≤ tot ps ∧ ∀ p ∈ ps, p.2 ≤ tot ps := by
    intro ps
    induction ps with
    | nil => intro _; exact ⟨Int.le_refl _, fun p hp => by cases hp⟩
    | cons p r ih =>
      intro hp
      have h1 := hp p List.mem_cons_self
      obtain ⟨h2, h3⟩ := ih fun q hq => hp q (List.mem_cons_of_mem _ hq)
      have h4 := tot_nonneg fun q hq => hp q (List.mem_cons_of_mem _ hq)
      have e : tot (p :: r) = p.2 + tot r := by unfold tot; rw [List.map_cons, List.sum_cons]
      rw [e, List.length_cons]
      refine ⟨by omega, fun q hq => ?_⟩
      rcases List.mem_cons.mp hq with rfl | hq
      · omega
      · have := h3 q hq; omega
  obtain ⟨k1, k2⟩ := key (mrg ts) fun p hp => (ho.ok p hp).2
  have := ho.le
  exact ⟨fun p hp => ⟨(ho.ok p hp).1, (ho.ok p hp).2, by have := k2 p hp; omega⟩, by omega⟩
theorem c_reprR (C : Addr) (Dd : Dm K C "__repr__" "Row.__repr__" s_Row___repr__ []) (T : Bt mg) (hC : Cls K C) (hN : NoAttr K C "kept") (G_merged : C0 Pg w K mg base "merged" 1 ["threads"] P_merged) : M0 Pg w K mg base C "__repr__" 2 ["self"] (P_reprR C) := by
  refine m0_mk (k := 1) Dd sc_Row___repr__ (fun _ _ _ _ _ _ us hl => match us, hl with | [_], _ => rfl) (by decide) (fun ds r => ?_) (fun f cd A outer s H E g ds r => ?_)
  · rintro ⟨ts, _, rfl, rfl⟩
    exact ⟨rfl, fun _ z => by cases z⟩
  · rintro ⟨ts, h, rfl, rfl⟩
    obtain ⟨m1, m2⟩ := mrg_sml h
    obtain ⟨sw, sl⟩ := shw_dS m1 m2
    have hl := h.len
    have big : (15728700 : Nat) ≤ sizeLine := by decide
    have l1 : (Str.empty ++ ("Row(" : Str)).length = 4 := rfl
    have l2 : (Str.empty ++ ("Row(" : Str) ++ (dS (mrg ts)).py.shown).length = 4 + (dS (mrg ts)).py.shown.length := by
      rw [len_cd, cd_app, List.length_append, ← len_cd, ← len_cd, l1]
    have l3 : (Str.empty ++ ("Row(" : Str) ++ (dS (mrg ts)).py.shown ++ (")" : Str)).length = 4 + (dS (mrg ts)).py.shown.length + 1 := by
      rw [len_cd, cd_app, List.length_append, ← len_cd, l2]; rfl
    exact ends_rt (s_one (s1_ret (e_js3 e_str (e_fmtR g (e_c0 G_merged g (a_cons (e_fld hC hN (e_var 0) rfl) a_nil) ⟨ts, h.shs.ok, by omega, rfl, rfl⟩) sw) e_str (by rw [l1]; omega) (by rw [l2]; omega) (by rw [l3]; omega))))
/-! ### rows as texts -/
def P_wof : List D → Rs → Prop := fun ds r => ∃ ts, Rok 240 ts ∧ ds = [dS (mrg ts)] ∧ r = .sh (.str (textS (mrg ts)))
theorem c_wof (Dd : Df K mg "words_of" s_words_of []) (T : Bt mg) : C0 Pg w K mg base "words_of" 1 ["stripes"] P_wof := by
  refine c0_mk (k := 0) Dd sc_words_of (fun _ _ _ _ _ _ us hl => match us, hl with | [_], _ => rfl) (by decide) (fun ds r => ?_) (fun f cd A outer s H E g ds r => ?_)
  · rintro ⟨ts, _, rfl, rfl⟩
    exact ⟨rfl, fun _ z => by cases z⟩
  · rintro ⟨ts, hR, rfl, rfl⟩
    have hls := hR.shs
    have h0 := hR.pos
    have hl := hR.len
    have hz := big2000
    have hwk := mrg_wok hls h0 hl
    have hml : (mrg ts).length ≤ 240 := (mrg_sml hR).2
    have hsh : ∀ p ∈ mrg ts, p.1.length ≤ 3 := fun p hp => (shade_sig (mrg_mem (fun t => shadeB t = true) ts hls p hp)).2.2
    unfold textS
    generalize mrg ts = ps at hwk hml hsh
    have hn : (ps.map dP).length = ps.length := List.length_map _
    have hall : (List.range (ps.map dP).length).map (fun (l : Nat) => D.str (wordP (ps.getD l default))) = (ps.map wordP).map D.str := by
      rw [hn, List.map_map]
      apply List.ext_getElem?
      intro i
      rw [List.getElem?_map, List.getElem?_map]
      by_cases hi : i < ps.length
      · rw [List.getElem?_range hi, List.getElem?_eq_getElem hi]
        show some (D.str (wordP (ps.getD i default))) = _
        rw [List.getD_eq_getElem?_getD, List.getElem?_eq_getElem hi]; rfl
      · rw [List.getElem?_eq_none (by simpa using hi), List.getElem?_eq_none (by simpa using hi)]; rfl
    refine ends_rt (s_one (s1_ret (e_join (x := " ") (ys := ps.map wordP) e_str (e_fz (e_eq (e_lc2 1 2 g (lc2 (a := fun l => .str (ps.getD l default).1) (b := fun l => .int (ps.getD l default).2) (f := fun l => .str (wordP (ps.getD l default))) 1 2 g (it_tup (ds := ps.map dP) (e_var 0)) (fun l hl => ?_) (by omega) (blkOk_by (N := N_words_of) (sc := defScope s_words_of) (by decide +kernel)) rfl rfl (fun l hl s1 H1 C1 cl fp => ?_))) (congrArg (fun z => Rs.ow (Ob.lst z)) hall))) ?_)))
    · have hl' : l < ps.length := by omega
      rw [itd_map dP ps l hl', List.getD_eq_getElem?_getD, List.getElem?_eq_getElem hl']; rfl
    · have hl' : l < ps.length := by omega
      have hmem : ps.getD l default ∈ ps := by
        rw [List.getD_eq_getElem?_getD, List.getElem?_eq_getElem hl']; exact List.getElem_mem _
      have w1 := hwk _ hmem
      have w2 := hsh _ hmem
      have w3 := word_len w1 w2
      have w4 : (wordP (ps.getD l default)).length = 0 + (ps.getD l default).1.length + (toString (ps.getD l default).2 : Str).length := by
        unfold wordP; rw [Str.length_append, Str.length_append]; rfl
      have hlog : (ps.getD l default).2.natAbs.log2 < 1920 := by
        have h1 := w1.lo
        have h2 := w1.hi
        rcases Nat.eq_zero_or_pos (ps.getD l default).2.natAbs with z | z
        · rw [z]; decide
        · rw [Nat.log2_lt (by omega)]
          exact Nat.lt_of_lt_of_le (show _ < 2 ^ 8 by omega) (Nat.pow_le_pow_right (by decide) (by decide))
      exact e_js2 (e_fmtS (e_var 1) (by omega)) (e_fmtI (e_var 2) hlog) (by rw [Str.length_append]; show 0 + _ ≤ _; omega) (by show (wordP _).length ≤ _; omega)
    · have hsum : ∀ ws : List Str, (∀ x ∈ ws, x.length ≤ 6) → (ws.map (·.length)).sum ≤ 6 * ws.length := by
        intro ws
        induction ws with
        | nil => intro _; exact Nat.le_refl _
        | cons x ws ih =>
          intro h
          have h1 := h x (List.mem_cons_self ..)
          have h2 := ih fun y hy => h y (List.mem_cons_of_mem _ hy)
          rw [List.map_cons, List.sum_cons, List.length_cons]
          omega
      have := hsum (ps.map wordP) fun x hx => by
        obtain ⟨p, hp, rfl⟩ := List.mem_map.mp hx
        exact word_len (hwk p hp) (hsh p hp)
      rw [List.length_map] at this ⊢
      show _ + ps.length * 1 ≤ _
      omega
def P_srow (C : Addr) : List D → Rs → Prop := fun ds r => ∃ ts, Rok 240 ts ∧ ds = [dR C ts] ∧ r = .sh (.str (textS (mrg ts)))
theorem c_srow (C : Addr) (Dd : Df K mg "show_row" s_show_row []) (hC : Cls K C) (G_threads : M0 Pg w K mg base C "threads" 1 ["self"] (P_threads C)) (G_merged : C0 Pg w K mg base "merged" 1 ["threads"] P_merged) (G_wof : C0 Pg w K mg base "words_of" 1 ["stripes"] P_wof) : C0 Pg w K mg base "show_row" 2 ["row"] (P_srow C) := by
  refine c0_mk (k := 1) Dd sc_show_row (fun _ _ _ _ _ _ us hl => match us, hl with | [_], _ => rfl) (by decide) (fun ds r => ?_) (fun f cd A outer s H E g ds r => ?_)
  · rintro ⟨ts, _, rfl, rfl⟩
    exact ⟨rfl, fun _ z => by cases z⟩
  · rintro ⟨ts, h, rfl, rfl⟩
    exact ends_rt (s_one (s1_ret (e_c0 G_wof g (a_cons (e_c0 G_merged g (a_cons (e_m00 G_threads hC g (e_var 0) ⟨ts, rfl, rfl⟩) a_nil) ⟨ts, h.shs.ok, Nat.le_trans h.len (by decide), rfl, rfl⟩) a_nil) ⟨ts, h, rfl, rfl⟩)))
end
end Hd

set_option Elab.async false
set_option linter.all false
set_option maxRecDepth 100000
set_option maxHeartbeats 2000000
/-! lists of any items, each with its own ==: x in xs, x not in xs, xs.count(x) -/
namespace PL
open PySem PySem.Spec PyProof.Rows L2
theorem kit_sub {K : PySem.W.Frag} {A B : Addr} (h : PySem.W.kitOne K (.ref A) (.ref B) = some false) : PySem.W.notFirst K B (.ref A) = true := by
  unfold PySem.W.kitOne at h
  split at h
  · cases h
  · unfold PySem.W.kitCls at h
    split at h
    · rename_i C0 e
      cases e
      split at h
      · unfold PySem.W.notFirst
        rw [h]
        simp
      · cases h
    · rename_i e; cases e
    · rename_i h1 h2; exact absurd rfl (h1 _)
section
variable {X : Cx} {n : Nat}
/-- an item y against the value z -/
def EqI (X : Cx) (A : Around) (pins : List (Addr × Obj)) (σ : L2.St) (P : Hp → Prop) (z : Value) (y : V) (b : Bool) : Prop := ∀ (s : Shared) (u : Value), JJ X pins σ P s → RelV y u → wpAny (model X.prog X.w) A (eqBool u z) (fun k s' => k = b ∧ JJ X pins σ P s') X.xe s
def ItsG (X : Cx) (pins : List (Addr × Obj)) (σ : L2.St) (P : Hp → Prop) (z : Value) (l : Addr) (vs : List V) (bs : List Bool) : Prop := vs.length = bs.length ∧ (∀ H, P H → H l = some (.lst vs)) ∧ ∀ (i : Nat) v b, vs[i]? = some v → bs[i]? = some b → EqI X X.A.in1 pins σ P z v b
theorem g_loop {P : Hp → Prop} {z : Value} {l : Addr} {vs : List V} {bs : List Bool} {pins : List (Addr × Obj)} {σ : L2.St} {R : Result → Shared → Prop} (hi : ItsG X pins σ P z l vs bs) (hE : ∀ e s', X.xe e s' → R (.error e) s') (k : Nat) :
    ∀ i : Nat, vs.length - i = k → ∀ s : Shared, JJ X pins σ P s → (∀ s', JJ X pins σ P s' → R (.ok (.ret (.bool ((bs.drop i).any id)))) s') →
      wpAny (model X.prog X.w) X.A.in1 (Builtin.«list.__contains__.loop» ⟨[.ref l, z, rawInt i], []⟩) (fun fin s' => match fin with | .done f => R (.ok f) s' | .again c' => c'.quiet = true ∧ codeAny (model X.prog X.w) X.A c' R s') (fun e s' => R (.error e) s') s := by
  obtain ⟨hlen, hl0, hit⟩ := hi
  induction k with
  | zero =>
    intro i hk s hJ hR
    obtain ⟨H, I, hP⟩ := id hJ
    have hl := hl0 H hP
    obtain ⟨_, its, m, rv, e⟩ := (show ObjOk X.prog X.w H s.heap l (.lst vs) from I.hok l _ hl)
    have hR' := hR s hJ
    obtain ⟨hp, g, d, tk, os⟩ := s
    wp_walk using AutoSeq1.wpAny_loadPart' e
    have hll := rv.length
    have hn : its.toArray[((i : Nat) : Int).toNat]? = none := by simp; omega
    have hd : bs.drop i = [] := by simp; omega
    rw [hd] at hR'
    rw [hn]
    wp_walk
    exact hR'
  | succ k ih =>
    intro i hk s hJ hR
    obtain ⟨H, I, hP⟩ := id hJ
    have hl := hl0 H hP
    obtain ⟨_, its, m, rv, e⟩ := (show ObjOk X.prog X.w H s.heap l (.lst vs) from I.hok l _ hl)
    have hll := rv.length
    have hlt : i < vs.length := by omega
    have hlt3 : i < bs.length := by omega
    obtain ⟨y, hy, ry⟩ := rv.get (List.getElem?_eq_getElem hlt)
    have hb1 := hit i _ _ (List.getElem?_eq_getElem hlt) (List.getElem?_eq_getElem hlt3) s y hJ ry
    have hd : bs.drop i = bs[i] :: bs.drop (i + 1) := by rw [List.drop_eq_getElem_cons hlt3]
    rw [hd] at hR
    simp only [List.any_cons, id] at hR
    generalize bs[i] = b at hb1 hR
    have hn : its.toArray[((i : Nat) : Int).toNat]? = some y := by simpa using hy
    obtain ⟨hp, g, d, tk, os⟩ := s
    wp_walk using AutoSeq1.wpAny_loadPart' e
    rw [hn]
    refine wpAny_bind (wpAny_mono hb1 (fun b' s' ⟨e1, hJ'⟩ => ?_) fun e s' he => hE e s' he)
    subst e1
    cases b' with
    | true =>
      have := hR s' hJ'
      obtain ⟨hp', g', d', tk', os'⟩ := s'
      wp_walk
      exact this
    | false =>
      have hc : ((i : Int) + 1) = ((i + 1 : Nat) : Int) := by push_cast; rfl
      have ih' := ih (i + 1) (by omega) s' hJ' (fun s2 hJ2 => by simpa using hR s2 hJ2)
      obtain ⟨hp', g', d', tk', os'⟩ := s'
      wp_walk
      rw [hc]
      exact ⟨plainId_quiet MeetsSeq.plain_contains_loop _, codeAny_builtin MeetsSeq.entry_contains_loop (by
        rw [Around.under_plainId MeetsSeq.plain_contains_loop _]
        exact ih')⟩
theorem gc_loop {P : Hp → Prop} {z : Value} {l : Addr} {vs : List V} {bs : List Bool} {pins : List (Addr × Obj)} {σ : L2.St} {R : Result → Shared → Prop} (hi : ItsG X pins σ P z l vs bs) (hE : ∀ e s', X.xe e s' → R (.error e) s') (k : Nat) :
    ∀ (i : Nat) (fo : Int), vs.length - i = k → ∀ s : Shared, JJ X pins σ P s → (∀ s', JJ X pins σ P s' → R (.ok (.ret (.int (fo + ((bs.drop i).countP id : Nat)) s'.toks))) { s' with toks := s'.toks + 1 }) →
      wpAny (model X.prog X.w) X.A.in1 (Builtin.«list.count.loop» ⟨[.ref l, z, rawInt i, rawInt fo], []⟩) (fun fin s' => match fin with | .done f => R (.ok f) s' | .again c' => c'.quiet = true ∧ codeAny (model X.prog X.w) X.A c' R s') (fun e s' => R (.error e) s') s := by
  obtain ⟨hlen, hl0, hit⟩ := hi
  induction k with
  | zero =>
    intro i fo hk s hJ hR
    obtain ⟨H, I, hP⟩ := id hJ
    have hl := hl0 H hP
    obtain ⟨_, its, m, rv, e⟩ := (show ObjOk X.prog X.w H s.heap l (.lst vs) from I.hok l _ hl)
    have hR' := hR s hJ
    obtain ⟨hp, g, d, tk, os⟩ := s
    wp_walk using AutoSeq1.wpAny_loadPart' e
    have hll := rv.length
    have hn : its.toArray[((i : Nat) : Int).toNat]? = none := by simp; omega
    have hd : bs.drop i = [] := by simp; omega
    rw [hd] at hR'
    rw [hn]
    wp_walk
    simpa using hR'
  | succ k ih =>
    intro i fo hk s hJ hR
    obtain ⟨H, I, hP⟩ := id hJ
    have hl := hl0 H hP
    obtain ⟨_, its, m, rv, e⟩ := (show ObjOk X.prog X.w H s.heap l (.lst vs) from I.hok l _ hl)
    have hll := rv.length
    have hlt : i < vs.length := by omega
    have hlt3 : i < bs.length := by omega
    obtain ⟨y, hy, ry⟩ := rv.get (List.getElem?_eq_getElem hlt)
    have hb1 := hit i _ _ (List.getElem?_eq_getElem hlt) (List.getElem?_eq_getElem hlt3) s y hJ ry
    have hd : bs.drop i = bs[i] :: bs.drop (i + 1) := by rw [List.drop_eq_getElem_cons hlt3]
    rw [hd] at hR
    generalize bs[i] = b at hb1 hR
    have hn : its.toArray[((i : Nat) : Int).toNat]? = some y := by simpa using hy
    obtain ⟨hp, g, d, tk, os⟩ := s
    wp_walk using AutoSeq1.wpAny_loadPart' e
    rw [hn]
    refine wpAny_bind (wpAny_mono hb1 (fun b' s' ⟨e1, hJ'⟩ => ?_) fun e s' he => hE e s' he)
    subst e1
    have hc : ((i : Int) + 1) = ((i + 1 : Nat) : Int) := by push_cast; rfl
    have ih' := ih (i + 1) (if b' = true then fo + 1 else fo) (by omega) s' hJ' (fun s2 hJ2 => by
      have := hR s2 hJ2
      rw [List.countP_cons] at this
      cases b' with
      | true =>
        simp only [id, if_true] at this ⊢
        rw [show fo + 1 + ((List.countP id (List.drop (i + 1) bs) : Nat) : Int) = fo + ((List.countP id (List.drop (i + 1) bs) + 1 : Nat) : Int) by push_cast; omega]
        exact this
      | false =>
        simp only [id, Bool.false_eq_true, if_false, Nat.add_zero] at this ⊢
        exact this)
    obtain ⟨hp', g', d', tk', os'⟩ := s'
    wp_walk
    rw [hc]
    exact ⟨plainId_quiet MeetsSeq.plain_count_loop _, codeAny_builtin MeetsSeq.entry_count_loop (by
      rw [Around.under_plainId MeetsSeq.plain_count_loop _]
      exact ih')⟩
theorem g_meets {P : Hp → Prop} {z : Value} {l : Addr} {vs : List V} {bs : List Bool} {pins : List (Addr × Obj)} {σ : L2.St} (hi : ItsG X pins σ P z l vs bs) :
    MeetsIn X.prog X.w (Builtin.«list.__contains__» ⟨[.ref l, z], []⟩) (fun A R s => A = X.A ∧ JJ X pins σ P s ∧ (∀ s', JJ X pins σ P s' → R (.ok (.ret (.bool (bs.any id)))) s') ∧ ∀ e s', X.xe e s' → R (.error e) s') := by
  intro A R s h
  obtain ⟨rfl, hJ, hR, hE⟩ := h
  have lp := g_loop hi hE vs.length 0 rfl s hJ (fun s' hJ' => by simpa using hR s' hJ')
  obtain ⟨H, I, hP⟩ := id hJ
  have hl := hi.2.1 H hP
  obtain ⟨_, its, m, rv, e⟩ := (show ObjOk X.prog X.w H s.heap l (.lst vs) from I.hok l _ hl)
  obtain ⟨hp, g, d, tk, os⟩ := s
  wp_walk using AutoSeq1.wpAny_loadPart' e
  exact ⟨plainId_quiet MeetsSeq.plain_contains_loop _, codeAny_builtin MeetsSeq.entry_contains_loop (by
    rw [Around.under_plainId MeetsSeq.plain_contains_loop _]
    exact lp)⟩
theorem gc_meets {P : Hp → Prop} {z : Value} {l : Addr} {vs : List V} {bs : List Bool} {pins : List (Addr × Obj)} {σ : L2.St} (hi : ItsG X pins σ P z l vs bs) :
    MeetsIn X.prog X.w (Builtin.«list.count» ⟨[.ref l, z], []⟩) (fun A R s => A = X.A ∧ JJ X pins σ P s ∧ (∀ s', JJ X pins σ P s' → R (.ok (.ret (.int (bs.countP id : Nat) s'.toks))) { s' with toks := s'.toks + 1 }) ∧ ∀ e s', X.xe e s' → R (.error e) s') := by
  intro A R s h
  obtain ⟨rfl, hJ, hR, hE⟩ := h
  have lp := gc_loop hi hE vs.length 0 0 rfl s hJ (fun s' hJ' => by simpa using hR s' hJ')
  obtain ⟨H, I, hP⟩ := id hJ
  have hl := hi.2.1 H hP
  obtain ⟨_, its, m, rv, e⟩ := (show ObjOk X.prog X.w H s.heap l (.lst vs) from I.hok l _ hl)
  obtain ⟨hp, g, d, tk, os⟩ := s
  wp_walk using AutoSeq1.wpAny_loadPart' e
  exact ⟨plainId_quiet MeetsSeq.plain_count_loop _, codeAny_builtin MeetsSeq.entry_count_loop (by
    rw [Around.under_plainId MeetsSeq.plain_count_loop _]
    exact lp)⟩
def rInG (X : Cx) (neg : Bool) : R2 := fun x y H Q => ∃ (l : Addr) (vs : List V) (bs : List Bool) (P : Hp → Prop), y = .ref l ∧ P H ∧ (∀ pins σ z, RelV x z → ItsG X pins σ P z l vs bs) ∧ ∀ H', P H' → Q (.bl (neg != bs.any id)) H'
theorem op_inG : OpR X (compareOp .In) (rInG X false) := by
  intro pins s σ H x y v u Q I rx ry h
  obtain ⟨l, vs, bs, P, rfl, hP, hi, hQ⟩ := h
  obtain rfl : u = .ref l := ry
  have hi := hi pins σ v rx
  have hl := hi.2.1 H hP
  obtain ⟨_, its, m, rv, e⟩ := (show ObjOk X.prog X.w H s.heap l (.lst vs) from I.hok l _ hl)
  show wpAny _ X.A (do return .bool (← contains (.ref l) v)) (EP X pins σ Q) X.xe s
  refine wpAny_bind (wpAny_contains_slot ⟨_, e, rfl⟩ F.slot_list_contains (wpAny_mono (call_meetsIn (Q := fun v s' => v = .bool (bs.any id) ∧ JJ X pins σ P s') F.slot_list_contains ⟨_, e, rfl⟩ F.entry_list_contains (F.args_list_contains_2 _ _) (g_meets hi) ⟨rfl, ⟨H, I, hP⟩, fun s' hJ => ⟨rfl, hJ⟩, fun e s' he => he⟩) (fun v s' hv => ?_) fun _ _ e => e))
  obtain ⟨rfl, H', I', hP'⟩ := hv
  exact wpAny_truthy_bool (wpAny_pure ⟨.bl _, H', I', rfl, by simpa using hQ H' hP'⟩)
theorem op_ninG : OpR X (compareOp .NotIn) (rInG X true) := by
  intro pins s σ H x y v u Q I rx ry h
  obtain ⟨l, vs, bs, P, rfl, hP, hi, hQ⟩ := h
  obtain rfl : u = .ref l := ry
  have hi := hi pins σ v rx
  have hl := hi.2.1 H hP
  obtain ⟨_, its, m, rv, e⟩ := (show ObjOk X.prog X.w H s.heap l (.lst vs) from I.hok l _ hl)
  show wpAny _ X.A (do return .bool (!(← contains (.ref l) v))) (EP X pins σ Q) X.xe s
  refine wpAny_bind (wpAny_contains_slot ⟨_, e, rfl⟩ F.slot_list_contains (wpAny_mono (call_meetsIn (Q := fun v s' => v = .bool (bs.any id) ∧ JJ X pins σ P s') F.slot_list_contains ⟨_, e, rfl⟩ F.entry_list_contains (F.args_list_contains_2 _ _) (g_meets hi) ⟨rfl, ⟨H, I, hP⟩, fun s' hJ => ⟨rfl, hJ⟩, fun e s' he => he⟩) (fun v s' hv => ?_) fun _ _ e => e))
  obtain ⟨rfl, H', I', hP'⟩ := hv
  exact wpAny_truthy_bool (wpAny_pure ⟨.bl _, H', I', rfl, by simpa using hQ H' hP'⟩)
def rCntG (X : Cx) : V → List V → Hp → VK → Prop := fun x xs H Q => ∃ (l : Addr) (y : V) (vs : List V) (bs : List Bool) (P : Hp → Prop), x = .ref l ∧ xs = [y] ∧ P H ∧ (∀ pins σ z, RelV y z → ItsG X pins σ P z l vs bs) ∧ ∀ H', P H' → Q (.int (bs.countP id : Nat)) H'
theorem mt_cntG : MtR X "list.count" (rCntG X) := by
  intro pins s σ H x xs v us Q I rx rxs h
  obtain ⟨l, y, vs, bs, P, rfl, rfl, hP, hi, hQ⟩ := h
  cases rx
  cases rxs with
  | cons ry rt =>
    rename_i uy ut
    cases rt
    have hi := hi pins σ uy ry
    have hl := hi.2.1 H hP
    obtain ⟨_, its, m, rv, e⟩ := (show ObjOk X.prog X.w H s.heap l (.lst vs) from I.hok l _ hl)
    refine call_meetsIn PySem.F.slot_list_count ⟨_, e, rfl⟩ PySem.F.entry_list_count (PySem.F.args_list_count_2 _ _) (gc_meets (pins := pins) (σ := σ) hi) ⟨rfl, ⟨H, I, hP⟩, fun s' ⟨H', I', hP'⟩ => ?_, fun e s' he => he⟩
    exact ⟨.int (bs.countP id : Nat), H', I'.tok _, ⟨s'.toks, rfl⟩, hQ H' hP'⟩
end
/-! ### over data -/
section
variable {X : Cx}
/-- an item d against x -/
def EqG (X : Cx) (x d : D) (b : Bool) : Prop := ∀ (F : Fr) (Γ : Gm) (σ0 : L2.St) (S : Hp) (v w : V) (z : Value) (pins : List (Addr × Obj)) (σ : L2.St), Rep X.K S d v → Rep X.K S x w → RelV w z → EqI X X.A.in1 pins σ (fun H' => ∃ S', RS X.K F Γ σ0 H' S' ∧ Same S S') z v b
/-- what the right one may be -/
def Rgt (K : PySem.W.Frag) (C : Addr) (x : D) : Prop := (∃ ns fs, x = .obj C ns fs) ∨ x.plain = true ∨ ∃ C' ns fs, x = .obj C' ns fs ∧ Ic K C' ∧ PySem.W.kitOne K (.ref C') (.ref C) = some false
theorem Rgt.ty {C : Addr} {x : D} {S H : Hp} {w : V} (c : Nf X.K C) (h : Rgt X.K C x) (s : Same S H) (r : Rep X.K S x w) : ∃ t, TyX X.K H w t ∧ PySem.W.notFirst X.K C t = true := by
  rcases h with ⟨ns', fs', rfl⟩ | hd | ⟨C', ns', fs', rfl, ic, hk⟩
  · obtain ⟨p', dx', us', rfl, h1', _, _⟩ := r
    exact ⟨_, .base (.ins (s _ _ h1') c.ic.ins.cl c.ic.ins.ha c.ic.ins.hn c.ic.ins.htk c.ic.ins.hm), Nf.me⟩
  · exact ⟨_, tyx_of hd s r, c.ty _ (ty_mem hd)⟩
  · obtain ⟨p', dx', us', rfl, h1', _, _⟩ := r
    exact ⟨_, .base (.ins (s _ _ h1') ic.ins.cl ic.ins.ha ic.ins.hn ic.ins.htk ic.ins.hm), kit_sub hk⟩
theorem eqg_own {P : List D → Rs → Prop} {C : Addr} {ns ps : List Str} {fs : List D} {x : D} {b : Bool} {j k : Nat} (G : M0 X.prog X.w X.K X.mg X.base C "__eq__" j ps P) (c : Nf X.K C) (g : Gd k X) (hx : Rgt X.K C x) (hp : P [.obj C ns fs, x] (.sh (.bl b))) (hsame : ∀ (pins : List (Addr × Obj)) (σ : L2.St) (H : Hp) (s : Shared) (v : V), Inv X pins σ H s → Rep X.K H (.obj C ns fs) v → Rep X.K H x v → b = true) (hk : j + 1 ≤ k := by decide) : EqG X x (.obj C ns fs) b := by
  intro F Γ σ0 S v w z pins σ r1 r2 rz s u hJ ru
  obtain ⟨f, fd, hm, hb, Fo⟩ := G.ex
  obtain ⟨H, I, S', R', ss⟩ := hJ
  have r1' := Rep.mono (ss.trans R'.sh) _ _ r1
  have r2' := Rep.mono (ss.trans R'.sh) _ _ r2
  obtain ⟨p, dx, us, rfl, h1, h2, h3⟩ := id r1'
  obtain rfl : u = .ref p := ru
  obtain ⟨t, ht, hn⟩ := Rgt.ty c hx (ss.trans R'.sh) r2
  obtain ⟨m, hF⟩ := I.fr
  have hr := (g.rm.mono hk).in1
  unfold eqBool
  refine wpAny_holding ?_
  refine wpAny_ite_split (fun hab => ?_) (fun _ => ?_)
  · have e : (Value.ref p) = z := eq_of_beq hab
    have ew : w = .ref p := by
      rw [← e] at rz
      cases w <;> first | (cases rz; rfl) | (obtain ⟨_, q⟩ := rz; cases q) | cases rz | exact rz.elim
    subst ew
    exact wpAny_bind (wpAny_rule (wpAny_pure ⟨(hsame pins σ H s _ I r1' r2').symm, H, I, S', R', ss⟩))
  · obtain ⟨mA, J, _⟩ := ins_get I.hok h1
    obtain ⟨od, J, _⟩ := J.look
    obtain ⟨P', Z, p', _⟩ := kit_of I rz ht
    refine wpAny_bind (PySem.W.cmp_K (op := .Eq) (tb := t) hr.units0 hF I.ok.mod.kin J (Z.ty _ _ I.kIn p') hn hm.at_ hm.fn ?_)
    refine wpAny_mono (run_own (A := X.A.in1) (sp := sp0 X.K P) (R := fun v H' => v = .bl b ∧ ∃ S', RS X.K F Γ σ0 H' S' ∧ Same S S') Fo hb passL hr rfl I rz ⟨S', [_, _], _, hp, R'.sh, .cons (Rep.mono ss _ _ r1) (.one (Rep.mono ss _ _ r2)), fun v' H2 S2 t => ?_⟩) (fun r s' z' => ?_) fun _ _ e => e
    · obtain ⟨R2, ok⟩ := R'.after0 t
      exact ⟨ok, S2, R2, ss.trans t.ss⟩
    · obtain ⟨z', H', I', rz', rfl, q⟩ := z'
      cases rz'
      exact wpAny_truthy_bool ⟨rfl, H', I', q⟩
theorem eqg_refl {P : List D → Rs → Prop} {C : Addr} {ns ps : List Str} {fs : List D} {d : D} {b : Bool} {j k : Nat} (G : M0 X.prog X.w X.K X.mg X.base C "__eq__" j ps P) (c : Nf X.K C) (hrf : Rf X.K C) (g : Gd k X) (hd : d = .non ∨ (∃ i, d = .int i) ∨ ∃ z, d = .str z) (hp : P [.obj C ns fs, d] (.sh (.bl b))) (hk : j + 1 ≤ k := by decide) : EqG X (.obj C ns fs) d b := by
  intro F Γ σ0 S v w z pins σ r1 r2 rz s u hJ ru
  obtain ⟨f, fd, hm, hb, Fo⟩ := G.ex
  obtain ⟨H, I, S', R', ss⟩ := hJ
  have r1' := Rep.mono ss _ _ r1
  have r2' := Rep.mono ss _ _ r2
  obtain ⟨p, dx, us, rfl, h1, h2, h3⟩ := id (Rep.mono R'.sh _ _ r2')
  obtain rfl : z = .ref p := rz
  refine eqB_own (A := X.A.in1) (sp := sp0 X.K P) (P := fun H' => ∃ S', RS X.K F Γ σ0 H' S' ∧ Same S S') (n := j) Fo hm hrf hb passL ((g.rm.mono hk).in1) rfl I ⟨S', R', ss⟩ h1 ru (.inr ⟨?_, S', [_, _], _, hp, R'.sh, .cons r2' (.one r1'), fun v' H2 S2 t => ?_⟩)
  · rcases hd with rfl | ⟨i, rfl⟩ | ⟨z, rfl⟩
    · exact .inl r1
    · exact .inr (.inl ⟨i, r1⟩)
    · exact .inr (.inr ⟨z, r1⟩)
  · obtain ⟨R2, ok⟩ := R'.after0 t
    exact ⟨ok, S2, R2, ss.trans t.ss⟩
theorem itsg_of {x : D} {ds : List D} {bs : List Bool} {F : Fr} {Γ : Gm} {σ0 : L2.St} {S : Hp} {l : Addr} {vs : List V} {w : V} (hlen : ds.length = bs.length) (hit : ∀ (i : Nat) d b, ds[i]? = some d → bs[i]? = some b → EqG X x d b) (r1 : Rep X.K S x w) (r2 : S l = some (.lst vs)) (r3 : Reps X.K S ds vs) (pins : List (Addr × Obj)) (σ : L2.St) (z : Value) (rz : RelV w z) : ItsG X pins σ (fun H' => ∃ S', RS X.K F Γ σ0 H' S' ∧ Same S S') z l vs bs := by
  refine ⟨r3.length.symm.trans hlen, fun H' ⟨S', R', ss⟩ => R'.sh _ _ (ss _ _ r2), fun i v b hv hb => ?_⟩
  obtain ⟨d, hd, rd⟩ := r3.get' hv
  exact hit i d b hd hb F Γ σ0 S v w z pins σ rd r1 rz
theorem o_inG {x : D} {ds : List D} {bs : List Bool} (hlen : ds.length = bs.length) (hit : ∀ (i : Nat) d b, ds[i]? = some d → bs[i]? = some b → EqG X x d b) : OpS X (compareOp .In) x (.lst ds) (.sh (.bl (bs.any id))) := by
  refine ⟨_, op_inG, fun Γ F σ H S x y Q R r1 r2 q => ?_⟩
  obtain ⟨l, vs, rfl, q1, q2⟩ := r2
  exact ⟨l, vs, bs, _, rfl, ⟨S, R, .refl _⟩, itsg_of (F := F) (Γ := Γ) (σ0 := σ) hlen hit r1 q1 q2, fun H' ⟨S', R', ss⟩ => by simpa using q _ H' S' R' ss rfl⟩
theorem o_ninG {x : D} {ds : List D} {bs : List Bool} (hlen : ds.length = bs.length) (hit : ∀ (i : Nat) d b, ds[i]? = some d → bs[i]? = some b → EqG X x d b) : OpS X (compareOp .NotIn) x (.lst ds) (.sh (.bl (!bs.any id))) := by
  refine ⟨_, op_ninG, fun Γ F σ H S x y Q R r1 r2 q => ?_⟩
  obtain ⟨l, vs, rfl, q1, q2⟩ := r2
  exact ⟨l, vs, bs, _, rfl, ⟨S, R, .refl _⟩, itsg_of (F := F) (Γ := Γ) (σ0 := σ) hlen hit r1 q1 q2, fun H' ⟨S', R', ss⟩ => by simpa using q _ H' S' R' ss rfl⟩
variable {Γ Γ1 Γ2 : Gm} {e o : Ex} {pos apos : Pos}
theorem e_cntG {x : D} {ds : List D} {bs : List Bool} (hlen : ds.length = bs.length) (hit : ∀ (i : Nat) d b, ds[i]? = some d → bs[i]? = some b → EqG X x d b) (ho : EX X Γ o (.sh (.lst ds)) Γ1) (he : EX X Γ1 e (.sh x) Γ2) (hbase : attributeBase o "count" X.env (eval o X.env) = eval o X.env := by rfl)
    (hfew : ((backTo pos (starEach [e] X.env)).all (fun x => !x.1) && (backToKw pos (keywordEach [] X.env)).all (fun x => x.1.isSome)
      && decide ([e].length + ([] : List Keyword).length + (if ([] : List Keyword).isEmpty then 0 else 1) < 30)) = true := by rfl)
    (hline : (apos.endLine == pos.line) = true := by rfl) (hs : starEach [e] X.env = (false, eval e X.env) :: starEach [] X.env := by rfl) (hplain : (backTo pos (starEach [] X.env)).any (·.1) = false := by rfl) : EX X Γ (.Call (.Attribute o "count" apos) [e] [] pos) (.sh (.int (bs.countP id : Nat))) Γ2 := fun F σ H S Q R q => by
  refine pe_we (pe_bm PySem.F.plainAttrs_list PySem.F.slot_list_count PySem.F.type_list_count mt_cntG we_pe (pa_cons we_pe pa_nil hs) hbase hfew hline hs hplain) (ho F σ H S _ R fun v H1 S1 R1 s1 ok => ?_)
  obtain ⟨a, vs, rfl, h1, h2⟩ := ok
  refine ⟨.inl ⟨rfl, _, .of (R1.sh _ _ h1)⟩, he F σ H1 S1 _ R1 fun u H2 S2 R2 s2 ok2 => ?_⟩
  exact ⟨a, u, vs, bs, _, rfl, rfl, ⟨S2, R2, .refl _⟩, itsg_of (F := F) (Γ := Γ2) (σ0 := σ) hlen hit ok2 (s2 _ _ h1) (Reps.mono s2 _ _ h2), fun H' ⟨S', R', ss⟩ => q _ H' S' R' ((s1.trans s2).trans ss) rfl⟩
/-- own == x, x of any other class, too -/
theorem o_ownG {P : List D → Rs → Prop} {C : Addr} {ns ps : List Str} {fs : List D} {d : D} {j k : Nat} {b : Bool} (G : M0 X.prog X.w X.K X.mg X.base C "__eq__" j ps P) (c : Nf X.K C) (g : Gd k X) (hd : Rgt X.K C d) (hp : P [.obj C ns fs, d] (.sh (.bl b))) (hk : j ≤ k := by decide) : OpS X (compareOp .Eq) (.obj C ns fs) d (.sh (.bl b)) := by
  obtain ⟨f, fd, hm, hb, Fo⟩ := G.ex
  refine ⟨_, op_ownEq Fo hm hb passL (g.rm.mono hk), fun Γ F σ H S x y Q R r1 r2 q => ?_⟩
  have rr := Reps.cons r1 (.one r2)
  obtain ⟨p, dx, us, rfl, h1, h2, h3⟩ := r1
  obtain ⟨t, ht, hn⟩ := Rgt.ty c hd R.sh r2
  refine ⟨p, dx, _, t, rfl, R.sh _ _ h1, ht, hn, S, [.obj C ns fs, d], _, hp, R.sh, rr, fun v H' S' t => ?_⟩
  obtain ⟨R', ok⟩ := R.after0 t
  rw [show v = V.bl b from ok]
  exact ⟨b, rfl, by simpa using q _ H' S' R' t.ss rfl⟩
theorem o_ownNeG {P : List D → Rs → Prop} {C : Addr} {ns ps : List Str} {fs : List D} {d : D} {j k : Nat} {b : Bool} (G : M0 X.prog X.w X.K X.mg X.base C "__eq__" j ps P) (c : Nf X.K C) (g : Gd k X) (hd : Rgt X.K C d) (hp : P [.obj C ns fs, d] (.sh (.bl b))) (hk : j + 1 ≤ k := by decide) : OpS X (compareOp .NotEq) (.obj C ns fs) d (.sh (.bl (!b))) := by
  obtain ⟨f, fd, hm, hb, Fo⟩ := G.ex
  refine ⟨_, op_ownNe Fo hm c.ne c.ic.ins.hm hb passL (g.rm.mono hk), fun Γ F σ H S x y Q R r1 r2 q => ?_⟩
  have rr := Reps.cons r1 (.one r2)
  obtain ⟨p, dx, us, rfl, h1, h2, h3⟩ := r1
  obtain ⟨t, ht, hn⟩ := Rgt.ty c hd R.sh r2
  refine ⟨p, dx, _, t, rfl, R.sh _ _ h1, ht, hn, S, [.obj C ns fs, d], _, hp, R.sh, rr, fun v H' S' t => ?_⟩
  obtain ⟨R', ok⟩ := R.after0 t
  rw [show v = V.bl b from ok]
  exact ⟨b, rfl, by simpa using q _ H' S' R' t.ss rfl⟩
/-! a pair whose first, or second, item raises -/
theorem er_tup1 {e : Ex} {es : List Ex} {C' : Xp} {x1} (h : ER X Γ e C' Γ1) (hs : starEach (e :: es) X.env = (false, eval e X.env) :: starEach es X.env := by rfl) : ER X Γ (.Tuple (e :: es) x1 pos) C' Γ1 := fun F σ H S Q W R tk q =>
  pe_we (pe_tup (pa_cons we_pe wa_pa hs)) (h F σ H S _ W R tk q)
theorem er_tup2 {e e2 : Ex} {es : List Ex} {d : D} {C' : Xp} {x1} (h0 : EX X Γ e (.sh d) Γ1) (h : ER X Γ1 e2 C' Γ2) (hs : starEach (e :: e2 :: es) X.env = (false, eval e X.env) :: starEach (e2 :: es) X.env := by rfl) (hs2 : starEach (e2 :: es) X.env = (false, eval e2 X.env) :: starEach es X.env := by rfl) : ER X Γ (.Tuple (e :: e2 :: es) x1 pos) C' Γ2 := fun F σ H S Q W R tk q =>
  pe_we (pe_tup (pa_cons we_pe (pa_cons we_pe wa_pa hs2) hs)) (h0 F σ H S _ R fun v H1 S1 R1 s1 ok => h F σ H1 S1 _ W R1 tk fun H2 S2 dd R2 s2 xo => q H2 S2 dd R2 (s1.trans s2) xo)
theorem e_js5 {Γ3 Γ4 Γ5 : Gm} {a b c d e : Ex} {x y z u v : Str} (h1 : EX X Γ a (.sh (.str x)) Γ1) (h2 : EX X Γ1 b (.sh (.str y)) Γ2) (h3 : EX X Γ2 c (.sh (.str z)) Γ3) (h4 : EX X Γ3 d (.sh (.str u)) Γ4) (h5 : EX X Γ4 e (.sh (.str v)) Γ5) (hz : x.length + y.length + z.length + u.length + v.length ≤ sizeLine) : EX X Γ (.JoinedStr [a, b, c, d, e] pos) (.sh (.str (Str.empty ++ x ++ y ++ z ++ u ++ v))) Γ5 := by
  have e0 : Str.empty.length = 0 := rfl
  have l1 : (Str.empty ++ x).length = x.length := by rw [Str.length_append, e0, Nat.zero_add]
  have l2 : (Str.empty ++ x ++ y).length = x.length + y.length := by rw [Str.length_append, l1]
  have l3 : (Str.empty ++ x ++ y ++ z).length = x.length + y.length + z.length := by rw [Str.length_append, l2]
  have l4 : (Str.empty ++ x ++ y ++ z ++ u).length = x.length + y.length + z.length + u.length := by rw [Str.length_append, l3]
  have l5 : (Str.empty ++ x ++ y ++ z ++ u ++ v).length = x.length + y.length + z.length + u.length + v.length := by rw [Str.length_append, l4]
  exact fun F σ H S Q R q =>
    pe_we (pe_joined (.cons we_pe (.cons we_pe (.cons we_pe (.cons we_pe (.cons we_pe .nil)))))) (h1 F σ H S _ R fun w1 H1 S1 R1 s1 ok1 => ⟨x, ok1, by omega, h2 F σ H1 S1 _ R1 fun w2 H2 S2 R2 s2 ok2 => ⟨y, ok2, by omega, h3 F σ H2 S2 _ R2 fun w3 H3 S3 R3 s3 ok3 => ⟨z, ok3, by omega, h4 F σ H3 S3 _ R3 fun w4 H4 S4 R4 s4 ok4 => ⟨u, ok4, by omega, h5 F σ H4 S4 _ R4 fun w5 H5 S5 R5 s5 ok5 => ⟨v, ok5, by omega, q _ H5 S5 R5 ((((s1.trans s2).trans s3).trans s4).trans s5) rfl⟩⟩⟩⟩⟩)
end
end PL

set_option Elab.async false
set_option linter.all false
set_option maxRecDepth 100000
set_option maxHeartbeats 2000000
/-! d == x for all plain d, x of a class with its own __eq__; d in [x], [x].count(x) -/
namespace PL
open PySem PySem.Spec PyProof.Rows L2
theorem bool_eq_declines_inst (b : Bool) (l C dx : Addr) : Meets (Builtin.«int.__eq__» ⟨[.bool b, .ref l], []⟩) (fun _ R s => s.heap.get? l = some (PySem.W.instObj C dx) ∧ R (.ok (.ret .notImplemented)) s) :=
  .of_wp fun prog w A R s h => by obtain ⟨hp, g, d, tk, os⟩ := s; obtain ⟨hl, h⟩ := h; wp_walk using wpAny_loadPart' hl, wpAny_load hl; exact ⟨_, rfl, h⟩
section
variable {prog : Program} {w : World} {h₀ : Heap} {l x C dx : Addr}
theorem list_declines (L : PySem.W.Looks (model prog w) h₀ (isSubtype (.ref C) (.type "list")) false) : MeetsIn prog w (Builtin.«list.__eq__» ⟨[.ref l, .ref x], []⟩) (fun _ R s => (∀ b o, h₀.get? b = some o → s.heap.get? b = some o) ∧ s.TypeIs (.ref l) "list" ∧ s.heap.get? x = some (PySem.W.instObj C dx) ∧ R (.ok (.ret .notImplemented)) s) :=
  .of_wp fun A R s h => by
    obtain ⟨hk, ⟨ob, ho, hc⟩, hx, h⟩ := h
    obtain ⟨hp, g, d, tk, os⟩ := s
    repeat (any_goals (first | assumption | (with_reducible refine L _ _ _ _ hk ?_) | (with_reducible refine wpAny_loadPart' hx ?_) | (with_reducible refine wpAny_loadPart' ho ?_) | wp_step))
    refine L _ _ _ _ hk ?_
    repeat (any_goals (first | assumption | (with_reducible refine wpAny_loadPart' hx ?_) | (with_reducible refine wpAny_loadPart' ho ?_) | wp_step))
    exact ⟨_, rfl, h⟩
theorem tuple_declines (L : PySem.W.Looks (model prog w) h₀ (isSubtype (.ref C) (.type "tuple")) false) : MeetsIn prog w (Builtin.«tuple.__eq__» ⟨[.ref l, .ref x], []⟩) (fun _ R s => (∀ b o, h₀.get? b = some o → s.heap.get? b = some o) ∧ s.TypeIs (.ref l) "tuple" ∧ s.heap.get? x = some (PySem.W.instObj C dx) ∧ R (.ok (.ret .notImplemented)) s) :=
  .of_wp fun A R s h => by
    obtain ⟨hk, ⟨ob, ho, hc⟩, hx, h⟩ := h
    obtain ⟨hp, g, d, tk, os⟩ := s
    repeat (any_goals (first | assumption | (with_reducible refine L _ _ _ _ hk ?_) | (with_reducible refine wpAny_loadPart' hx ?_) | (with_reducible refine wpAny_loadPart' ho ?_) | wp_step))
    refine L _ _ _ _ hk ?_
    repeat (any_goals (first | assumption | (with_reducible refine wpAny_loadPart' hx ?_) | (with_reducible refine wpAny_loadPart' ho ?_) | wp_step))
    exact ⟨_, rfl, h⟩
theorem dict_declines (L : PySem.W.Looks (model prog w) h₀ (isSubtype (.ref C) (.type "dict")) false) : MeetsIn prog w (Builtin.«dict.__eq__» ⟨[.ref l, .ref x], []⟩) (fun _ R s => (∀ b o, h₀.get? b = some o → s.heap.get? b = some o) ∧ s.TypeIs (.ref l) "dict" ∧ s.heap.get? x = some (PySem.W.instObj C dx) ∧ R (.ok (.ret .notImplemented)) s) :=
  .of_wp fun A R s h => by
    obtain ⟨hk, ⟨ob, ho, hc⟩, hx, h⟩ := h
    obtain ⟨hp, g, d, tk, os⟩ := s
    repeat (any_goals (first | assumption | (with_reducible refine L _ _ _ _ hk ?_) | (with_reducible refine wpAny_loadPart' hx ?_) | (with_reducible refine wpAny_loadPart' ho ?_) | wp_step))
    refine L _ _ _ _ hk ?_
    repeat (any_goals (first | assumption | (with_reducible refine wpAny_loadPart' hx ?_) | (with_reducible refine wpAny_loadPart' ho ?_) | wp_step))
    exact ⟨_, rfl, h⟩
end
end PL
namespace PL
open PySem PySem.Spec PyProof.Rows L2
section
variable {X : Cx} {n : Nat}
theorem typeIs_plain {pins : List (Addr × Obj)} {σ : L2.St} {H : Hp} {s : Shared} {d : D} {v : V} {u : Value} (I : Inv X pins σ H s) (hp : d.plain = true) (r : Rep X.K H d v) (rv : RelV v u) : s.TypeIs u d.ty := by
  cases d with
  | non => rw [show v = .non from r] at rv; obtain rfl : u = .none := rv; rfl
  | bl b => rw [show v = .bl b from r] at rv; obtain rfl : u = .bool b := rv; rfl
  | int b => rw [show v = .int b from r] at rv; obtain ⟨t, rfl⟩ := rv; rfl
  | str b => rw [show v = .str b from r] at rv; obtain ⟨t, rfl⟩ := rv; rfl
  | tup ds =>
    obtain ⟨p, vs, rfl, h1, _⟩ := r
    obtain rfl : u = .ref p := rv
    rcases h1 with (h1 | ⟨o, h1⟩) | ⟨o, its, n, h1, h2, _⟩
    · obtain ⟨_, its, _, it⟩ := (show ObjOk X.prog X.w H s.heap p (.tup vs) from I.hok p _ h1)
      exact it.typeIs
    · obtain ⟨_, _, _, _, o, h1, h2, _⟩ := (show ObjOk X.prog X.w H s.heap p (.frz o (.tup vs)) from I.hok p _ h1)
      exact ⟨o, h1, h2⟩
    · exact ⟨o, I.kIn p o h1, h2⟩
  | lst ds =>
    obtain ⟨p, vs, rfl, h1, _⟩ := r
    obtain rfl : u = .ref p := rv
    obtain ⟨_, its, m, _, e⟩ := (show ObjOk X.prog X.w H s.heap p (.lst vs) from I.hok p _ h1)
    exact ⟨_, e, rfl⟩
  | dct ks ds =>
    obtain ⟨p, vs, rfl, h1, _⟩ := r
    obtain rfl : u = .ref p := rv
    obtain ⟨_, _, vs', _, o, es, ep, e1, e2, _⟩ := (show ObjOk X.prog X.w H s.heap p (.dK (ks.zip vs)) from I.hok p _ h1)
    exact ⟨o, e1, e2.1⟩
  | _ => cases hp
def rBack (K : PySem.W.Frag) (C : Addr) (sp : Sp) (E : XK) : R2 := fun x y H Q => ∃ (a dx : Addr) (fs : List (Str × V)) (d : D), y = .ref a ∧ H a = some (.ins C dx fs) ∧ d.plain = true ∧ Rep K H d x ∧ sp [.ref a, x] H (fun v H' => ∃ k, v = .bl k ∧ Q (.bl k) H') E
theorem op_backEq {CX : CXT} {C f : Addr} {fd : FuncData} {ps : List Str} {sp : Sp} {E : XK} (Fo : FnOk X.prog X.w X.K X.mg X.base CX n f fd ps sp) (hm : Meth X.K C "__eq__" f) (hrf : Rf X.K C) (hb : Binds X.K fd ps []) (hx : Passes CX X E) (hr : Room n X.A) : OpR X (compareOp .Eq) (rBack X.K C sp E) := by
  intro pins s σ H x y u v Q I rx ry h
  obtain ⟨a, dx, fs, d, rfl, ha, hd, rd, hsp⟩ := h
  obtain rfl : v = .ref a := ry
  obtain ⟨mA, J, _⟩ := ins_get I.hok ha
  obtain ⟨od, J, _⟩ := J.look
  obtain ⟨m, hF⟩ := I.fr
  have hob : s.heap.get? a = some (PySem.W.instObj C dx) := by
    obtain ⟨_, _, _, ob, _⟩ := (show ObjOk X.prog X.w H s.heap a (.ins C dx fs) from I.hok a _ ha)
    exact ob
  have tu := typeIs_plain I hd rd rx
  have LK : ∀ T : String, PySem.W.subIn X.K (.ref C) (.type T) = some false → PySem.W.Looks (model X.prog X.w) s.heap (isSubtype (.ref C) (.type T)) false := fun T e => PySem.W.looks_subIn I.kIn e
  show wpAny (model X.prog X.w) X.A (richCompare .Eq u (.ref a)) (EP X pins σ Q) X.xe s
  have fin : ∀ {T id : String} (tu : s.TypeIs u T) (_ : PySem.W.subIn X.K (.ref C) (.type T) = some false) (_ : Slot T (cmpInfo .Eq).2.1 id) (_ : ∀ Q' : Value → Shared → Prop, Q' .notImplemented s → wpAny (model X.prog X.w) X.A (call (.builtin id) [u, .ref a]) Q' X.xe s), wpAny (model X.prog X.w) X.A (richCompare .Eq u (.ref a)) (EP X pins σ Q) X.xe s := fun tu hs h1 left => by
    refine cmp_KR hr.units0 hF I.ok.mod.kin J tu hs h1 left hm.at_ hm.fn ?_
    refine wpAny_mono (run_own Fo hb hx hr rfl I rx hsp) (fun r s' z => ?_) fun _ _ e => e
    obtain ⟨z, H', I', rz, k, rfl, q⟩ := z
    cases rz
    exact ⟨.bl k, H', I', rfl, q⟩
  cases d with
  | non =>
    rw [show x = .non from rd] at rx
    obtain rfl : u = .none := rx
    exact fin (T := "NoneType") rfl (hrf.ty _ (by decide)) F.slot_NoneType_eq (fun _ hq => call_gives F.slot_NoneType_eq rfl F.entry_NoneType_eq (F.args_NoneType_eq_2 _ _) (SeqAt.NoneType___eq___none_ref_0 a) hq)
  | int i =>
    rw [show x = .int i from rd] at rx
    obtain ⟨t, rfl⟩ := rx
    exact fin (T := "int") rfl (hrf.ty _ (by decide)) F.slot_int_eq (fun _ hq => call_meets F.slot_int_eq rfl F.entry_int_eq (F.args_int_eq_2 _ _) (int_eq_declines_inst i t a C dx) ⟨hob, hq⟩)
  | str i =>
    rw [show x = .str i from rd] at rx
    obtain ⟨t, rfl⟩ := rx
    exact fin (T := "str") rfl (hrf.ty _ (by decide)) F.slot_str_eq (fun _ hq => call_meets F.slot_str_eq rfl F.entry_str_eq (F.args_str_eq_2 _ _) (str_eq_declines_inst i t a C dx) ⟨hob, hq⟩)
  | bl b =>
    rw [show x = .bl b from rd] at rx
    obtain rfl : u = .bool b := rx
    exact fin (T := "bool") rfl (hrf.ty _ (by decide)) F.slot_bool_eq (fun _ hq => call_meets F.slot_bool_eq rfl F.entry_int_eq (F.args_int_eq_2 _ _) (bool_eq_declines_inst b a C dx) ⟨hob, hq⟩)
  | tup ds =>
    obtain ⟨p, vs, rfl, _⟩ := rd
    obtain rfl : u = .ref p := rx
    exact fin (T := "tuple") tu (hrf.ty _ (by decide)) F.slot_tuple_eq (fun _ hq => call_meetsIn F.slot_tuple_eq tu F.entry_tuple_eq (F.args_tuple_eq_2 _ _) (tuple_declines (C := C) (dx := dx) (LK _ (hrf.ty _ (by decide)))) ⟨fun _ _ h => h, tu, hob, hq⟩)
  | lst ds =>
    obtain ⟨p, vs, rfl, _⟩ := rd
    obtain rfl : u = .ref p := rx
    exact fin (T := "list") tu (hrf.ty _ (by decide)) F.slot_list_eq (fun _ hq => call_meetsIn F.slot_list_eq tu F.entry_list_eq (F.args_list_eq_2 _ _) (list_declines (C := C) (dx := dx) (LK _ (hrf.ty _ (by decide)))) ⟨fun _ _ h => h, tu, hob, hq⟩)
  | dct ks ds =>
    obtain ⟨p, vs, rfl, _⟩ := rd
    obtain rfl : u = .ref p := rx
    exact fin (T := "dict") tu (hrf.ty _ (by decide)) F.slot_dict_eq (fun _ hq => call_meetsIn F.slot_dict_eq tu F.entry_dict_eq (F.args_dict_eq_2 _ _) (dict_declines (C := C) (dx := dx) (LK _ (hrf.ty _ (by decide)))) ⟨fun _ _ h => h, tu, hob, hq⟩)
  | _ => cases hd
/-- plain == own: the own == is asked -/
theorem o_backOwn {P : List D → Rs → Prop} {C : Addr} {ns ps : List Str} {fs : List D} {d : D} {j k : Nat} {b : Bool} (G : M0 X.prog X.w X.K X.mg X.base C "__eq__" j ps P) (hrf : Rf X.K C) (g : Gd k X) (hd : d.plain = true) (hp : P [.obj C ns fs, d] (.sh (.bl b))) (hk : j ≤ k := by decide) : OpS X (compareOp .Eq) d (.obj C ns fs) (.sh (.bl b)) := by
  obtain ⟨f, fd, hm, hb, Fo⟩ := G.ex
  refine ⟨_, op_backEq Fo hm hrf hb passL (g.rm.mono hk), fun Γ F σ H S x y Q R r1 r2 q => ?_⟩
  obtain ⟨p, dx, us, rfl, h1, h2, h3⟩ := id r2
  refine ⟨p, dx, _, d, rfl, R.sh _ _ h1, hd, Rep.mono R.sh _ _ r1, S, [.obj C ns fs, d], _, hp, R.sh, .cons r2 (.one r1), fun v H' S' t => ?_⟩
  obtain ⟨R', ok⟩ := R.after0 t
  rw [show v = V.bl b from ok]
  exact ⟨b, rfl, by simpa using q _ H' S' R' t.ss rfl⟩
end
end PL

set_option Elab.async false
set_option linter.all false
set_option maxRecDepth 100000
set_option maxHeartbeats 1000000
/-! xs.count(b), xs.index(b) of lists of truths -/
namespace PL
open PySem PySem.Spec PyProof.Rows L2
theorem eqU_count {y : V} : ∀ {ys : List V} {us : List Value}, Vals ys us → ys.all flatV = true → us.countP (eqU y) = ys.countP (fun z => eqV z y)
  | _, _, .nil, _ => rfl
  | _, _, .cons r t, f => by
    have f1 := Bool.and_eq_true_iff.mp (show (flatV _ && _) = true from f)
    rw [List.countP_cons, List.countP_cons, eqU_count t f1.2, eqU_of r f1.1]
theorem cnt_bls (k : Bool) : ∀ bs : List Bool, (bs.map V.bl).countP (fun z => eqV z (.bl k)) = bs.count k
  | [] => rfl
  | b :: bs => by
    rw [List.map_cons, List.countP_cons, List.count_cons, cnt_bls k bs]
    cases b <;> cases k <;> rfl
theorem flatB_all (bs : List Bool) : (bs.map V.bl).all flatV = true := by
  rw [List.all_eq_true]
  intro v hv
  obtain ⟨x, _, rfl⟩ := List.mem_map.mp hv
  rfl
def rCntB (K : PySem.W.Frag) : V → List V → Hp → VK → Prop := fun x xs H Q => ∃ (p : Addr) (bs : List Bool) (k : Bool), x = .ref p ∧ xs = [.bl k] ∧ SqL K H p (bs.map V.bl) ∧ Q (.int (bs.count k : Nat)) H
section
variable {X : Cx}
theorem mt_cntB : MtR X "list.count" (rCntB X.K) := by
  intro pins s σ H x xs v us Q I rx rxs h
  obtain ⟨p, bs, k, rfl, rfl, hs, q⟩ := h
  cases rx
  cases rxs with
  | cons ry rt =>
    rename_i uy ut
    cases rt
    obtain ⟨its, rv, ⟨⟨cls, dd, data, sl⟩, n, ho, hc, hdn, hd⟩, hlen⟩ := I.list hs
    simp only at hc hd
    subst hc hd
    have fl := flatB_all bs
    refine call_meets PySem.F.slot_list_count ⟨_, ho, rfl⟩ PySem.F.entry_list_count (PySem.F.args_list_count_2 _ _) (SeqAt.list_countAt p its.toArray n dd sl uy (eqU (.bl k))) ⟨ho, fun y hy => mem_eqAt ry rfl rv fl y (by simpa using hy), ?_⟩
    refine ⟨.int (bs.count k : Nat), H, I.tok _, ⟨s.toks, ?_⟩, q⟩
    show Value.int ((its.toArray.toList.countP (eqU (.bl k)) : Nat) : Int) s.toks = Value.int ((bs.count k : Nat) : Int) s.toks
    rw [show its.toArray.toList.countP (eqU (.bl k)) = bs.count k from (eqU_count rv fl).trans (cnt_bls k bs)]
variable {Γ Γ1 Γ2 : Gm} {e o : Ex} {pos apos : Pos} {bs : List Bool} {k : Bool}
theorem e_cntB (ho : EX X Γ o (.sh (.lst (bs.map .bl))) Γ1) (he : EX X Γ1 e (.sh (.bl k)) Γ2) (hbase : attributeBase o "count" X.env (eval o X.env) = eval o X.env := by rfl)
    (hfew : ((backTo pos (starEach [e] X.env)).all (fun x => !x.1) && (backToKw pos (keywordEach [] X.env)).all (fun x => x.1.isSome)
      && decide ([e].length + ([] : List Keyword).length + (if ([] : List Keyword).isEmpty then 0 else 1) < 30)) = true := by rfl)
    (hline : (apos.endLine == pos.line) = true := by rfl) (hs : starEach [e] X.env = (false, eval e X.env) :: starEach [] X.env := by rfl) (hplain : (backTo pos (starEach [] X.env)).any (·.1) = false := by rfl) : EX X Γ (.Call (.Attribute o "count" apos) [e] [] pos) (.sh (.int (bs.count k : Nat))) Γ2 := fun F σ H S Q R q => by
  refine pe_we (pe_bm PySem.F.plainAttrs_list PySem.F.slot_list_count PySem.F.type_list_count mt_cntB we_pe (pa_cons we_pe pa_nil hs) hbase hfew hline hs hplain) (ho F σ H S _ R fun v H1 S1 R1 s1 ok => ?_)
  obtain ⟨a, vs, rfl, h1, h2⟩ := ok
  rw [h2.bls] at h1
  refine ⟨.inl ⟨rfl, _, .of (R1.sh _ _ h1)⟩, he F σ H1 S1 _ R1 fun u H2 S2 R2 s2 ok2 => ?_⟩
  exact ⟨a, bs, k, rfl, by rw [show u = V.bl k from ok2], .of (R2.sh _ _ (s2 _ _ h1)), q _ H2 S2 R2 (s1.trans s2) rfl⟩
theorem e_idxB {j : Nat} (hj : bs[j]? = some k) (hf : ∀ m, m < j → bs[m]? ≠ some k) (ho : EX X Γ o (.sh (.lst (bs.map .bl))) Γ1) (he : EX X Γ1 e (.sh (.bl k)) Γ2) (hbase : attributeBase o "index" X.env (eval o X.env) = eval o X.env := by rfl)
    (hfew : ((backTo pos (starEach [e] X.env)).all (fun x => !x.1) && (backToKw pos (keywordEach [] X.env)).all (fun x => x.1.isSome)
      && decide ([e].length + ([] : List Keyword).length + (if ([] : List Keyword).isEmpty then 0 else 1) < 30)) = true := by rfl)
    (hline : (apos.endLine == pos.line) = true := by rfl) (hs : starEach [e] X.env = (false, eval e X.env) :: starEach [] X.env := by rfl) (hplain : (backTo pos (starEach [] X.env)).any (·.1) = false := by rfl) : EX X Γ (.Call (.Attribute o "index" apos) [e] [] pos) (.sh (.int (j : Nat))) Γ2 := fun F σ H S Q R q => by
  refine pe_we (pe_bm PySem.F.plainAttrs_list PySem.F.slot_list_index PySem.F.type_list_index mt_index we_pe (pa_cons we_pe pa_nil hs) hbase hfew hline hs hplain) (ho F σ H S _ R fun v H1 S1 R1 s1 ok => ?_)
  obtain ⟨a, vs, rfl, h1, h2⟩ := ok
  rw [h2.bls] at h1
  refine ⟨.inl ⟨rfl, _, .of (R1.sh _ _ h1)⟩, he F σ H1 S1 _ R1 fun u H2 S2 R2 s2 ok2 => ?_⟩
  refine ⟨a, bs.map V.bl, .bl k, j, .bl k, rfl, by rw [show u = V.bl k from ok2], .of (R2.sh _ _ (s2 _ _ h1)), rfl, flatB_all bs, by rw [List.getElem?_map, hj]; rfl, by cases k <;> rfl, fun m z hm hz => ?_, q _ H2 S2 R2 (s1.trans s2) rfl⟩
  rw [List.getElem?_map] at hz
  obtain ⟨b, hb, rfl⟩ := Option.map_eq_some_iff.mp hz
  have : b ≠ k := fun z => hf m hm (by rw [hb, z])
  cases b <;> cases k <;> first | rfl | exact absurd rfl this
end
end PL

set_option Elab.async false
set_option linter.all false
set_option maxRecDepth 100000
set_option maxHeartbeats 1000000
/-! xs.index(x): items that are plain data of any depth -/
namespace PL
open PySem PySem.Spec PyProof.Rows L2
section
variable {X : Cx} {Γ Γ1 Γ2 : Gm} {e o : Ex} {pos apos : Pos} {ds : List D} {d : D} {k : Nat}
theorem e_idxD {j : Nat} {z : D} (g : Gd k X) (h1 : Cmp (.lst ds)) (h2 : Cmp d) (hj : ds[j]? = some z) (hz : PyData.eqv z.py d.py = true) (hf : ∀ (m : Nat) (z' : D), m < j → ds[m]? = some z' → PyData.eqv z'.py d.py = false) (ho : EX X Γ o (.sh (.lst ds)) Γ1) (he : EX X Γ1 e (.sh d) Γ2) (hbase : attributeBase o "index" X.env (eval o X.env) = eval o X.env := by rfl)
    (hfew : ((backTo pos (starEach [e] X.env)).all (fun x => !x.1) && (backToKw pos (keywordEach [] X.env)).all (fun x => x.1.isSome)
      && decide ([e].length + ([] : List Keyword).length + (if ([] : List Keyword).isEmpty then 0 else 1) < 30)) = true := by rfl)
    (hline : (apos.endLine == pos.line) = true := by rfl) (hs : starEach [e] X.env = (false, eval e X.env) :: starEach [] X.env := by rfl) (hplain : (backTo pos (starEach [] X.env)).any (·.1) = false := by rfl) : EX X Γ (.Call (.Attribute o "index" apos) [e] [] pos) (.sh (.int (j : Nat))) Γ2 := fun F σ H S Q R q => by
  have hu : X.A.units + 65 < cLine := by have := g.rm.un; omega
  have hpy : (D.lst ds).py = .list (ds.map D.py) := by
    have : ∀ ds : List D, D.pys ds = ds.map D.py := fun ds => by
      induction ds with
      | nil => rfl
      | cons a r ih => show a.py :: D.pys r = _; rw [ih]; rfl
    show PyData.list (D.pys ds) = _
    rw [this]
  refine pe_we (pe_bm PySem.F.plainAttrs_list PySem.F.slot_list_index PySem.F.type_list_index (mt_indexD hu) we_pe (pa_cons we_pe pa_nil hs) hbase hfew hline hs hplain) (ho F σ H S _ R fun v H1 S1 R1 s1 ok => ?_)
  obtain ⟨a, vs, rfl, q1, q2⟩ := id ok
  refine ⟨.inl ⟨rfl, _, .of (R1.sh _ _ q1)⟩, he F σ H1 S1 _ R1 fun u H2 S2 R2 s2 ok2 => ?_⟩
  have r1 := dp_of R2.sh _ _ h1.1 (Rep.mono s2 _ _ ok)
  have r2 := dp_of R2.sh _ _ h2.1 ok2
  have c1 := h1.2
  rw [hpy] at r1 c1
  refine ⟨a, u, d.py, ds.map D.py, j, z.py, rfl, rfl, r1, r2, c1, h2.2, by rw [List.getElem?_map, hj]; rfl, hz, fun m z' hm hz' => ?_, q _ H2 S2 R2 (s1.trans s2) rfl⟩
  rw [List.getElem?_map] at hz'
  obtain ⟨b, hb, rfl⟩ := Option.map_eq_some_iff.mp hz'
  exact hf m b hm hb
end
end PL

set_option Elab.async false
set_option linter.all false
set_option maxRecDepth 100000
set_option maxHeartbeats 1000000
/-! min of a list of lists of texts; x in xs, items plain data of any depth -/
namespace PL
open PySem PySem.Spec PyProof.Rows L2
theorem py_lst (ts : List Str) : (dL ts).py = PySem.W.Datum.toD ts := by
  show PyData.list (D.pys (ts.map .str)) = _
  rw [strs_py]; rfl
theorem minL_eq : ∀ (xs : List (List Str)) (x : List Str), PySem.W.minOf x xs = minT x xs
  | [], _ => rfl
  | y :: ys, x => by
    rw [minT_cons, ← minL_eq ys]; rfl
theorem minL_py (x : List Str) (xs : List (List Str)) : PySem.W.minD (dL x).py (xs.map fun t => (dL t).py) = (dL (minT x xs)).py := by
  rw [py_lst, py_lst, show (xs.map fun t => (dL t).py) = xs.map PySem.W.Datum.toD from List.map_congr_left fun t _ => py_lst t, PySem.W.minD_map, minL_eq]
theorem pys_map : ∀ ds : List D, D.pys ds = ds.map D.py
  | [] => rfl
  | d :: ds => by show d.py :: D.pys ds = _; rw [pys_map ds]; rfl
theorem lsts_flat : ∀ tss : List (List Str), D.flats (tss.map dL) = true
  | [] => rfl
  | t :: tss => by
    show ((dL t).flat && D.flats (tss.map dL)) = true
    rw [lsts_flat tss, Bool.and_true]
    exact strs_flat t
theorem lst_inj {a b : List Str} (h : (dL a).py = (dL b).py) : a = b := by
  have h1 : PyData.list (D.pys (a.map .str)) = PyData.list (D.pys (b.map .str)) := h
  rw [strs_py, strs_py] at h1
  injection h1 with h1
  exact List.map_inj_right (fun _ _ z => by injection z) |>.mp h1
theorem depth_lsts : ∀ tss : List (List Str), PyData.depthAll (tss.map fun t => (dL t).py) ≤ 1
  | [] => Nat.zero_le _
  | t :: tss => by
    have h := depth_lsts tss
    have h2 : PyData.depthAll (D.pys (t.map .str)) = 0 := by
      rw [strs_py]
      clear h
      induction t with
      | nil => rfl
      | cons a t ih => show max 0 (PyData.depthAll _) = 0; rw [ih]; rfl
    show max (PyData.depthAll (D.pys (t.map .str)) + 1) _ ≤ 1
    rw [h2]
    exact Nat.max_le.mpr ⟨Nat.le_refl _, h⟩
section
variable {X : Cx}
def rMinLs (K : PySem.W.Frag) : List V → Hp → VK → Prop := fun vs H Q => ∃ (a : Addr) (us : List V) (x : List Str) (xs : List (List Str)), vs = [.ref a] ∧ SqL K H a us ∧ DpAll K H us ((x :: xs).map fun t => (dL t).py) ∧ ∀ (i : Nat) v, us[i]? = some v → (x :: xs)[i]? = some (minT x xs) → Q v H
theorem cr_minLs (hc : X.calm = true) (hu : X.A.units + 64 < cLine) : CallR X (.builtin "min") (rMinLs X.K) := by
  intro pins s σ H vs us Q I r h
  obtain ⟨a, ws, x, xs, rfl, hs, hd, q⟩ := h
  obtain ⟨its, rv, hl, _⟩ := I.list hs
  rw [Vals.ref1 r]
  obtain ⟨as, rs⟩ := Dp.readsAll I _ ws its hd rv
  have al : PySem.W.AlikeAll ((x :: xs).map fun t => (dL t).py) := by
    have e : ((x :: xs).map fun t => (dL t).py) = (x :: xs).map PySem.W.Datum.toD := List.map_congr_left fun t _ => py_lst t
    rw [e]
    exact PySem.W.alikeAll_datum _
  have hdp := depth_lsts (x :: xs)
  refine PySem.W.min_list_data (x := (dL x).py) (xs := xs.map fun t => (dL t).py) (I.ok.hd hc) hl.isList (by simpa using rs) al (by have : PyData.depthAll ((dL x).py :: xs.map fun t => (dL t).py) ≤ 1 := hdp; omega) fun i v h' tk bs hi hrd hk => ?_
  have I' := I.kept (t' := tk) (h' := h') fun b o e => hk b o e
  have hi' : its[i]? = some v := by simpa using hi
  have hlt : i < its.length := (List.getElem?_eq_some_iff.mp hi').1
  have hlw : ws.length = its.length := rv.length
  have hwi : ws[i]? = some ws[i] := List.getElem?_eq_getElem (by omega)
  obtain ⟨u, hu1, hu2⟩ := rv.get hwi
  rw [hi'] at hu1
  cases hu1
  refine ⟨ws[i], H, I', hu2, q i _ hwi ?_⟩
  obtain ⟨bs2, r2, hi2, _, _⟩ := PySem.W.readsAll_atA (vs := its.toArray) (xs := (x :: xs).map fun t => (dL t).py) (by simpa using rs) i v (by simpa using hi)
  have r2' := PySem.W.reads_keeps hk r2
  rw [minL_py] at hrd
  have hi3 : i < (x :: xs).length := by simpa using hi2
  rw [List.getD_eq_getElem?_getD, List.getElem?_map, List.getElem?_eq_getElem hi3] at r2'
  have r3 : Reads h' v (dL ((x :: xs)[i])).py bs2 := r2'
  have e := PySem.W.alike_unique _ _ v _ _ (by rw [py_lst, py_lst]; exact PySem.W.DatumOrd.alike _ _) r3 hrd
  rw [List.getElem?_eq_getElem hi3, lst_inj e]
/-- min(xs), xs lists of texts -/
theorem c_minLs {x : List Str} {xs : List (List Str)} (hc : X.calm = true) (hu : X.A.units + 64 < cLine) : CallS X (.builtin "min") [.lst ((x :: xs).map dL)] (.sh (dL (minT x xs))) := ⟨_, cr_minLs hc hu, fun Γ F σ H S vs Q R r q => by
  obtain ⟨v, rfl, rp⟩ := reps1 r
  obtain ⟨p, us, rfl, h1, h2⟩ := rp
  have hd : DpAll X.K H us ((x :: xs).map fun t => (dL t).py) := by
    have z := dps_of (K := X.K) (H := H) R.sh ((x :: xs).map dL) us (lsts_flat _) h2
    rw [pys_map, List.map_map] at z; exact z
  refine ⟨p, us, x, xs, rfl, .of (R.sh _ _ h1), hd, fun i v hi hm => ?_⟩
  obtain ⟨d, hd1, hd2⟩ := h2.get' hi
  rw [List.getElem?_map, hm] at hd1
  cases hd1
  exact q v H S R (.refl _) hd2⟩
/-- x in xs -/
theorem o_inD {ds : List D} {d : D} {k : Nat} (g : Gd k X) (h1 : Cmp (.lst ds)) (h2 : Cmp d) : OpS X (compareOp .In) d (.lst ds) (.sh (.bl (ds.any fun z => PyData.eqv z.py d.py))) := ops_sc (op_inD (by have := g.rm.un; omega)) (.bl _) (fun _ => rfl) fun H S x y Q s r1 r2 q => by
  have e : (D.lst ds).py = .list (ds.map D.py) := by show PyData.list (D.pys ds) = _; rw [pys_map]
  have a2 := dp_of s _ _ h1.1 r2
  have b2 := h1.2
  rw [e] at a2 b2
  refine ⟨d.py, ds.map D.py, dp_of s _ _ h2.1 r1, a2, h2.2, b2, ?_⟩
  rw [List.any_map]
  exact q
end
end PL

set_option Elab.async false
set_option linter.all false
set_option maxRecDepth 100000
set_option maxHeartbeats 1000000
/-! PlTxt: rstrip, split, int(text), str(int) -/
namespace PL
open PySem PySem.Spec PyProof.Rows L2
section
variable {X : Cx} {Γ Γ1 Γ2 : Gm} {e o : Ex} {pos apos : Pos} {x y : Str} {i : Int}
theorem e_rstrip (ho : EX X Γ o (.sh (.str x)) Γ1) (he : EX X Γ1 e (.sh (.str y)) Γ2) (hz : x.length ≤ sizeLine) (hs : starEach [e] X.env = [(false, eval e X.env)] := by rfl) (hbase : attributeBase o "rstrip" X.env (eval o X.env) = eval o X.env := by rfl) (hline : (apos.endLine == pos.line) = true := by rfl) :
    EX X Γ (.Call (.Attribute o "rstrip" apos) [e] [] pos) (.sh (.str (Txt.rstripChars x y))) Γ2 := fun F σ H S Q R q => by
  refine pe_we (pe_m1 PySem.F.slot_str_rstrip PySem.F.type_str_rstrip mt_rstripChars we_pe we_pe hs hbase hline) (ho F σ H S _ R fun v H1 S1 R1 s1 ok1 => ?_)
  obtain rfl : v = .str x := ok1
  refine ⟨⟨_, rfl⟩, he F σ H1 S1 _ R1 fun v H2 S2 R2 s2 ok2 => ?_⟩
  obtain rfl : v = .str y := ok2
  exact ⟨x, y, rfl, rfl, hz, q _ H2 S2 R2 (s1.trans s2) rfl⟩
theorem e_split (ho : EX X Γ o (.sh (.str x)) Γ1) (he : EX X Γ1 e (.sh (.str y)) Γ2) (h0 : (y.length == 0) = false) (hz : x.length + 2 ≤ sizeLine) (hs : starEach [e] X.env = [(false, eval e X.env)] := by rfl) (hbase : attributeBase o "split" X.env (eval o X.env) = eval o X.env := by rfl) (hline : (apos.endLine == pos.line) = true := by rfl) :
    EX X Γ (.Call (.Attribute o "split" apos) [e] [] pos) (.ow (.lst ((Txt.split x y).map .str))) Γ2 := fun F σ H S Q R q => by
  refine pe_we (pe_split we_pe we_pe hs hbase hline) (ho F σ H S _ R fun v H1 S1 R1 s1 ok1 => ?_)
  obtain rfl : v = .str x := ok1
  refine ⟨⟨_, rfl⟩, he F σ H1 S1 _ R1 fun v H2 S2 R2 s2 ok2 => ?_⟩
  obtain rfl : v = .str y := ok2
  refine ⟨x, y, rfl, rfl, h0, hz, fun p n => q _ _ S2 (R2.grow (same_upd n)) (s1.trans s2) ⟨p, rfl, R2.sNone n, R2.h0None n, ⟨_, upd_same, Reps.ofStrs⟩, R2.ownNone n⟩⟩
theorem c_intS (h : intText? x = some i) (hl : x.length ≤ 640) : CallS X (.type "int") [.str x] (.sh (.int i)) := ⟨_, call_int_str, fun Γ F σ H S vs Q R r q => by
  obtain ⟨v, rfl, rfl⟩ := reps1 r
  exact ⟨x, i, rfl, h, hl, q _ H S R (.refl _) rfl⟩⟩
theorem c_strI (h : i.natAbs.log2 < 1920) : CallS X (.type "str") [.int i] (.sh (.str (toString i))) := ⟨_, call_str_int, fun Γ F σ H S vs Q R r q => by
  obtain ⟨v, rfl, rfl⟩ := reps1 r
  exact ⟨i, rfl, h, q _ H S R (.refl _) rfl⟩⟩
end
end PL

set_option linter.all false
/-! what merging gives: the fewest stripes -/
namespace PL
open PySem PySem.Spec PyProof.Rows L2
def Unl (xs : List Str) : Prop := ∀ j, j + 1 < xs.length → xs.getD j default ≠ xs.getD (j + 1) default
structure MInv (ts : List Str) (acc : List (Str × Int)) : Prop where
  th : thr acc = ts
  pos : ∀ p ∈ acc, 0 < p.2
  mem : ∀ p ∈ acc, p.1 ∈ ts
  unl : Unl (acc.map (·.1))
theorem thr_appM (a b : List (Str × Int)) : thr (a ++ b) = thr a ++ thr b := by unfold thr; rw [List.flatMap_append]
theorem unl_snoc {xs : List Str} {t s : Str} (h : Unl (xs ++ [t])) (hn : t ≠ s) : Unl (xs ++ [t] ++ [s]) := by
  intro j hj
  rw [List.length_append, List.length_append] at hj
  have hj' : j + 1 < xs.length + 1 + 1 := hj
  by_cases h1 : j + 1 < xs.length + 1
  · have := h j (by rw [List.length_append]; exact h1)
    have g : ∀ i, i < xs.length + 1 → (xs ++ [t] ++ [s]).getD i default = (xs ++ [t]).getD i default := fun i hi => by
      rw [List.getD_eq_getElem?_getD, List.getElem?_append_left (l₁ := xs ++ [t]) (by rw [List.length_append]; exact hi), ← List.getD_eq_getElem?_getD]
    rw [g _ (Nat.lt_of_succ_lt h1), g _ h1]
    exact this
  · have e : j = xs.length := by omega
    subst e
    rw [List.getD_eq_getElem?_getD, List.getD_eq_getElem?_getD, List.getElem?_append_left (by rw [List.length_append]; exact Nat.lt_succ_self _), List.getElem?_append_right (Nat.le_refl _), List.getElem?_append_right (by rw [List.length_append]; exact Nat.le_refl _), List.length_append]
    simpa using hn
theorem unl_one (s : Str) : Unl [s] := fun j hj => absurd hj (by simp)
theorem minv_step {ts : List Str} {acc : List (Str × Int)} (h : MInv ts acc) (s : Str) : MInv (ts ++ [s]) (mrgStep acc s) := by
  unfold mrgStep
  cases e : acc.getLast? with
  | none =>
    have e0 : acc = [] := List.getLast?_eq_none_iff.mp e
    subst e0
    have ht : ts = [] := h.th.symm
    subst ht
    refine ⟨rfl, fun p hp => ?_, fun p hp => ?_, unl_one s⟩
    · rw [List.mem_singleton.mp hp]; exact (by decide : (0 : Int) < 1)
    · rw [List.mem_singleton.mp hp]; exact List.mem_singleton.mpr rfl
  | some q =>
    obtain ⟨t, n⟩ := q
    obtain ⟨b, rfl⟩ := List.getLast?_eq_some_iff.mp e
    have hn := h.pos (t, n) (List.mem_append_right _ (List.mem_singleton.mpr rfl))
    have hn' : 0 < n := hn
    show MInv _ (if t = s then (b ++ [(t, n)]).dropLast ++ [(s, n + 1)] else (b ++ [(t, n)]) ++ [(s, 1)])
    split
    · rename_i hts
      subst hts
      rw [List.dropLast_concat]
      refine ⟨?_, fun p hp => ?_, fun p hp => ?_, ?_⟩
      · have h1 := h.th
        rw [thr_appM] at h1 ⊢
        have e1 : thr [(t, n)] = List.replicate n.toNat t := by unfold thr; simp
        have e2 : thr [(t, n + 1)] = List.replicate n.toNat t ++ [t] := by
          unfold thr
          have e3 : (n + 1).toNat = n.toNat + 1 := by omega
          simp only [List.flatMap_cons, List.flatMap_nil, List.append_nil, e3]
          rw [List.replicate_succ']
        rw [e2, ← List.append_assoc, ← e1, h1]
      · rcases List.mem_append.mp hp with z | z
        · exact h.pos p (List.mem_append_left _ z)
        · rw [List.mem_singleton.mp z]; show 0 < n + 1; omega
      · rcases List.mem_append.mp hp with z | z
        · exact List.mem_append_left _ (h.mem p (List.mem_append_left _ z))
        · rw [List.mem_singleton.mp z]; exact List.mem_append_right _ (List.mem_singleton.mpr rfl)
      · have := h.unl
        rw [List.map_append] at this ⊢
        exact this
    · rename_i hts
      refine ⟨?_, fun p hp => ?_, fun p hp => ?_, ?_⟩
      · rw [thr_appM, h.th]; rfl
      · rcases List.mem_append.mp hp with z | z
        · exact h.pos p z
        · rw [List.mem_singleton.mp z]; exact (by decide : (0 : Int) < 1)
      · rcases List.mem_append.mp hp with z | z
        · exact List.mem_append_left _ (h.mem p z)
        · rw [List.mem_singleton.mp z]; exact List.mem_append_right _ (List.mem_singleton.mpr rfl)
      · have := h.unl
        rw [List.map_append] at this ⊢
        rw [List.map_append]
        exact unl_snoc this hts
theorem minv_fold : ∀ (l : List Str) {ts : List Str} {acc : List (Str × Int)}, MInv ts acc → MInv (ts ++ l) (l.foldl mrgStep acc)
  | [], ts, acc, h => by rw [List.append_nil]; exact h
  | s :: l, ts, acc, h => by
    have := minv_fold l (minv_step h s)
    rw [List.append_assoc] at this
    exact this
theorem mrg_inv (ts : List Str) : MInv ts (mrg ts) := by
  have h0 : MInv [] [] := { th := rfl, pos := fun p hp => absurd hp List.not_mem_nil, mem := fun p hp => absurd hp List.not_mem_nil, unl := fun j hj => absurd hj (Nat.not_lt_zero _) }
  have := minv_fold ts h0
  exact this
theorem mrg_ok {ts : List Str} (hs : Shs ts) (h0 : 0 < ts.length) (hl : ts.length ≤ 240) : OkSt (mrg ts) := by
  have hi := mrg_inv ts
  have hlen := thr_len hi.pos
  rw [hi.th] at hlen
  have hle : tot (mrg ts) ≤ 240 := by omega
  refine ⟨fun e => ?_, fun p hp => ?_, hle⟩
  · have := hi.th
    rw [e] at this
    rw [← this] at h0
    exact absurd h0 (by decide)
  · have h1 := hi.pos p hp
    refine ⟨hs _ (hi.mem p hp), ?_⟩
    obtain ⟨j, hj, rfl⟩ := List.getElem_of_mem hp
    have h2 := tot_take hi.pos (j + 1)
    rw [tot_succ hj] at h2
    have h3 := tot_nonneg (ps := (mrg ts).take j) fun q hq => hi.pos q (List.mem_of_mem_take hq)
    omega
theorem mrg_lenT (ts : List Str) : (mrg ts).length ≤ ts.length := by
  have key : ∀ ps : List (Str × Int), (∀ p ∈ ps, 0 < p.2) → ps.length ≤ (thr ps).length := by
    intro ps
    induction ps with
    | nil => intro _; exact Nat.le_refl _
    | cons p ps ih =>
      intro h
      have h1 := h p (List.mem_cons_self ..)
      have h2 := ih fun q hq => h q (List.mem_cons_of_mem _ hq)
      show ps.length + 1 ≤ ((p :: ps).flatMap fun p => List.replicate p.2.toNat p.1).length
      rw [List.flatMap_cons, List.length_append, List.length_replicate]
      unfold thr at h2
      omega
  have := key _ (mrg_inv ts).pos
  rw [(mrg_inv ts).th] at this
  exact this
end PL

set_option Elab.async false
set_option linter.all false
set_option maxRecDepth 100000
set_option maxHeartbeats 1000000
/-! written displays that hold no names -/
namespace PL
open PySem PySem.Spec PyProof.Rows L2
mutual
def valD : Ex → Option D
  | .Constant (.str x) _ _ => some (.str x)
  | .Constant (.int i) _ _ => some (.int i)
  | .Constant (.bool b) _ _ => some (.bl b)
  | .Constant .none _ _ => some .non
  | .Tuple es _ _ => (valsD es).map .tup
  | .List es _ => (valsD es).map .lst
  | .Dict [] [] _ => some (.dct [] [])
  | _ => none
def valsD : List Ex → Option (List D)
  | [] => some []
  | e :: es => match valD e, valsD es with
    | some d, some ds => some (d :: ds)
    | _, _ => none
end
section
variable {X : Cx} {Γ : Gm} {k : Nat}
theorem e_dict0 {pos : Pos} : EX X Γ (.Dict [] [] pos) (.ow (.dct [] [])) Γ := fun F σ H S Q R q =>
  pe_we pe_dnewK fun p np => q (.ref p) _ S (R.grow (same_upd np)) (.refl _) ⟨p, rfl, R.sNone np, R.h0None np, ⟨[], upd_same, rfl, rfl⟩, R.ownNone np⟩
theorem star_val {e : Ex} {d : D} (h : valD e = some d) (es : List Ex) : starEach (e :: es) X.env = (false, eval e X.env) :: starEach es X.env := by
  unfold valD at h
  split at h <;> first | rfl | cases h
theorem lst_small {α : Type} {n : Nat} (h : n ≤ 1000) : n ≤ sizeLine := Nat.le_trans h (by decide)
def sml : List D → Bool
  | ds => decide (ds.length ≤ 1000)
mutual
def smlD : D → Bool
  | .tup ds => decide (ds.length ≤ 1000) && smlsD ds
  | .lst ds => decide (ds.length ≤ 1000) && smlsD ds
  | _ => true
def smlsD : List D → Bool
  | [] => true
  | d :: ds => smlD d && smlsD ds
end
mutual
theorem e_val : ∀ {e : Ex} {d : D}, valD e = some d → smlD d = true → EX X Γ e (.sh d) Γ
  | .Constant (.str x) _ _, _, h, _ => by cases h; exact e_str
  | .Constant (.int i) _ _, _, h, _ => by cases h; exact e_int
  | .Constant (.bool b) _ _, _, h, _ => by cases h; exact e_bl
  | .Constant .none _ _, _, h, _ => by cases h; exact e_non
  | .Tuple es _ _, _, h, s => by
    have h' : (valsD es).map D.tup = some _ := h
    obtain ⟨ds, e1, rfl⟩ := Option.map_eq_some_iff.mp h'
    obtain ⟨s1, s2⟩ := Bool.and_eq_true_iff.mp (show (decide (ds.length ≤ 1000) && smlsD ds) = true from s)
    exact e_tup (a_val e1 s2) (lst_small (α := D) (of_decide_eq_true s1))
  | .List es _, _, h, s => by
    have h' : (valsD es).map D.lst = some _ := h
    obtain ⟨ds, e1, rfl⟩ := Option.map_eq_some_iff.mp h'
    obtain ⟨s1, s2⟩ := Bool.and_eq_true_iff.mp (show (decide (ds.length ≤ 1000) && smlsD ds) = true from s)
    exact e_fz (e_lst (a_val e1 s2) (lst_small (α := D) (of_decide_eq_true s1)))
  | .Dict [] [] _, _, h, _ => by cases h; exact e_frz e_dict0
theorem a_val : ∀ {es : List Ex} {ds : List D}, valsD es = some ds → smlsD ds = true → AX X Γ es ds Γ
  | [], _, h, _ => by cases h; exact a_nil
  | e :: es, _, h, s => by
    have h' : (match valD e, valsD es with | some d, some ds => some (d :: ds) | _, _ => none) = some _ := h
    cases h1 : valD e with
    | none => rw [h1] at h'; cases h'
    | some d =>
      cases h2 : valsD es with
      | none => rw [h1, h2] at h'; cases h'
      | some ds =>
        rw [h1, h2] at h'
        cases h'
        obtain ⟨s1, s2⟩ := Bool.and_eq_true_iff.mp (show (smlD d && smlsD ds) = true from s)
        exact a_cons (e_val h1 s1) (a_val h2 s2) (star_val h1 es)
end
theorem s_setV (i : Nat) {x : Str} {e : Ex} {d : D} {pos pos' : Pos} {rest : List Stmt} {o : Out} (hv : valD e = some d) (gd : Gd k X) (h2 : SX X (Γ.set i (.sh d)) rest o) (hd : smlD d = true := by rfl) (hl : i < Γ.length := by exact Nat.le_of_ble_eq_true rfl) (hi : X.N[i]? = some x := by rfl) (hx : Loc X.env.scope x := by first | exact Or.inl rfl | exact Or.inr rfl)
    (hs : swapsWith e (some (.Name x pos')) pos.line X.env = pure false := by rfl) (hf : X.fn x = true ∨ X.env.scope.names.lookup x = some .local := by first | exact .inl rfl | exact .inr rfl | assumption) : SX X Γ (.Assign [.Name x pos'] e pos :: rest) o :=
  s_cons (s1_set i gd.nd (e_val hv hd) hl (fun _ z => by cases z) hi hx hs hf) h2
/-- x = a written display -/
def asgV : Stmt → Option (Str × D)
  | .Assign [.Name x _] e _ => (valD e).map fun d => (x, d)
  | _ => none
theorem sw_val {e : Ex} {d : D} (h : valD e = some d) {t : Option Ex} {l : Nat} {env : Env} : swapsWith e t l env = pure false := by
  unfold valD at h
  split at h <;> first | rfl | cases h
theorem s_asgV (i : Nat) {x : Str} {st : Stmt} {d : D} {rest : List Stmt} {o : Out} (hv : asgV st = some (x, d)) (hd : smlD d = true) (gd : Gd k X) (hl : i < Γ.length) (hi : X.N[i]? = some x) (hx : X.env.scope.names.lookup x = some .local) (h2 : SX X (Γ.set i (.sh d)) rest o) : SX X Γ (st :: rest) o := by
  unfold asgV at hv
  split at hv
  · obtain ⟨d', e1, e2⟩ := Option.map_eq_some_iff.mp hv
    cases e2
    exact s_cons (s1_set i gd.nd (e_val e1 hd) hl (fun _ z => by cases z) hi (.inl hx) (sw_val e1) (.inr hx)) h2
  · cases hv
end
end PL

set_option Elab.async false
set_option linter.all false
set_option maxRecDepth 100000
set_option maxHeartbeats 1000000
/-! written displays whose members may be sums, differences and powers of ten -/
namespace PL
open PySem PySem.Spec PyProof.Rows L2
def cI : Ex → Option Int
  | .Constant (.int i) _ _ => some i
  | .BinOp a .Add b _ => match cI a, cI b with
    | some i, some j => some (i + j)
    | _, _ => none
  | .BinOp a .Sub b _ => match cI a, cI b with
    | some i, some j => some (i - j)
    | _, _ => none
  | .BinOp a .Pow b _ => match cI a, cI b with
    | some i, some j => if i = 10 ∧ 0 ≤ j ∧ j ≤ 1000 then some (i ^ j.toNat) else none
    | _, _ => none
  | _ => none
mutual
def valX : Ex → Option D
  | .Constant (.str x) _ _ => some (.str x)
  | .Constant (.bool b) _ _ => some (.bl b)
  | .Constant .none _ _ => some .non
  | .Constant (.int i) _ _ => some (.int i)
  | .BinOp a op b p => (cI (.BinOp a op b p)).map .int
  | .Tuple es _ _ => (valsX es).map .tup
  | .List es _ => (valsX es).map .lst
  | .Dict [] [] _ => some (.dct [] [])
  | _ => none
def valsX : List Ex → Option (List D)
  | [] => some []
  | e :: es => match valX e, valsX es with
    | some d, some ds => some (d :: ds)
    | _, _ => none
end
section
variable {X : Cx} {Γ : Gm} {k : Nat}
theorem e_cI : ∀ {e : Ex} {i : Int}, cI e = some i → EX X Γ e (.sh (.int i)) Γ
  | .Constant (.int i) _ _, _, h => by cases h; exact e_int
  | .BinOp a .Add b _, _, h => by
    have h' : (match cI a, cI b with | some i, some j => some (i + j) | _, _ => none) = some _ := h
    split at h'
    · next i j e1 e2 => cases h'; exact e_bin o_addI (e_cI e1) (e_cI e2)
    · cases h'
  | .BinOp a .Sub b _, _, h => by
    have h' : (match cI a, cI b with | some i, some j => some (i - j) | _, _ => none) = some _ := h
    split at h'
    · next i j e1 e2 => cases h'; exact e_bin o_subI (e_cI e1) (e_cI e2)
    · cases h'
  | .BinOp a .Pow b _, _, h => by
    have h' : (match cI a, cI b with | some i, some j => if i = 10 ∧ 0 ≤ j ∧ j ≤ 1000 then some (i ^ j.toNat) else none | _, _ => none) = some _ := h
    split at h'
    · next i j e1 e2 =>
      split at h'
      · next q => 
        obtain ⟨q1, q2, q3⟩ := q
        cases h'
        subst q1
        exact e_bin (o_pow ⟨q2, by omega, by decide⟩) (e_cI e1) (e_cI e2)
      · cases h'
    · cases h'
theorem star_valX {e : Ex} {d : D} (h : valX e = some d) (es : List Ex) : starEach (e :: es) X.env = (false, eval e X.env) :: starEach es X.env := by
  unfold valX at h
  split at h <;> first | rfl | cases h
mutual
theorem e_valX : ∀ {e : Ex} {d : D}, valX e = some d → smlD d = true → EX X Γ e (.sh d) Γ
  | .Constant (.str x) _ _, _, h, _ => by cases h; exact e_str
  | .Constant (.int i) _ _, _, h, _ => by cases h; exact e_int
  | .Constant (.bool b) _ _, _, h, _ => by cases h; exact e_bl
  | .Constant .none _ _, _, h, _ => by cases h; exact e_non
  | .BinOp a op b p, _, h, _ => by
    have h' : (cI (.BinOp a op b p)).map D.int = some _ := h
    obtain ⟨i, e1, rfl⟩ := Option.map_eq_some_iff.mp h'
    exact e_cI e1
  | .Tuple es _ _, _, h, s => by
    have h' : (valsX es).map D.tup = some _ := h
    obtain ⟨ds, e1, rfl⟩ := Option.map_eq_some_iff.mp h'
    obtain ⟨s1, s2⟩ := Bool.and_eq_true_iff.mp (show (decide (ds.length ≤ 1000) && smlsD ds) = true from s)
    exact e_tup (a_valX e1 s2) (lst_small (α := D) (of_decide_eq_true s1))
  | .List es _, _, h, s => by
    have h' : (valsX es).map D.lst = some _ := h
    obtain ⟨ds, e1, rfl⟩ := Option.map_eq_some_iff.mp h'
    obtain ⟨s1, s2⟩ := Bool.and_eq_true_iff.mp (show (decide (ds.length ≤ 1000) && smlsD ds) = true from s)
    exact e_fz (e_lst (a_valX e1 s2) (lst_small (α := D) (of_decide_eq_true s1)))
  | .Dict [] [] _, _, h, _ => by cases h; exact e_frz e_dict0
theorem a_valX : ∀ {es : List Ex} {ds : List D}, valsX es = some ds → smlsD ds = true → AX X Γ es ds Γ
  | [], _, h, _ => by cases h; exact a_nil
  | e :: es, _, h, s => by
    have h' : (match valX e, valsX es with | some d, some ds => some (d :: ds) | _, _ => none) = some _ := h
    cases h1 : valX e with
    | none => rw [h1] at h'; cases h'
    | some d =>
      cases h2 : valsX es with
      | none => rw [h1, h2] at h'; cases h'
      | some ds =>
        rw [h1, h2] at h'
        cases h'
        obtain ⟨s1, s2⟩ := Bool.and_eq_true_iff.mp (show (smlD d && smlsD ds) = true from s)
        exact a_cons (e_valX h1 s1) (a_valX h2 s2) (star_valX h1 es)
end
def asgX : Stmt → Option (Str × D)
  | .Assign [.Name x _] e _ => (valX e).map fun d => (x, d)
  | _ => none
theorem sw_valX {e : Ex} {d : D} (h : valX e = some d) {t : Option Ex} {l : Nat} {env : Env} (hb : ∀ a op b p, e ≠ .BinOp a op b p) : swapsWith e t l env = pure false := by
  unfold valX at h
  split at h <;> first | rfl | cases h | exact absurd rfl (hb _ _ _ _)
def isBin : Ex → Bool
  | .BinOp _ _ _ _ => true
  | _ => false
def asgB : Stmt → Bool
  | .Assign _ e _ => isBin e
  | _ => true
theorem s_asgX (i : Nat) {x : Str} {st : Stmt} {d : D} {rest : List Stmt} {o : Out} (hv : asgX st = some (x, d)) (hb : asgB st = false) (hd : smlD d = true) (gd : Gd k X) (hl : i < Γ.length) (hi : X.N[i]? = some x) (hx : X.env.scope.names.lookup x = some .local) (h2 : SX X (Γ.set i (.sh d)) rest o) : SX X Γ (st :: rest) o := by
  unfold asgX at hv
  split at hv
  · obtain ⟨d', e1, e2⟩ := Option.map_eq_some_iff.mp hv
    cases e2
    refine s_cons (s1_set i gd.nd (e_valX e1 hd) hl (fun _ z => by cases z) hi (.inl hx) (sw_valX e1 fun a op b p z => ?_) (.inr hx)) h2
    subst z
    cases hb
  · cases hv
/-- the same, of a name that a comprehension captures -/
theorem s_asgC (i : Nat) {x : Str} {st : Stmt} {d : D} {rest : List Stmt} {o : Out} (hv : asgX st = some (x, d)) (hb : asgB st = false) (hd : smlD d = true) (gd : Gd k X) (hl : i < Γ.length) (hi : X.N[i]? = some x) (hx : Loc X.env.scope x) (hf : X.fn x = true ∨ X.env.scope.names.lookup x = some .local) (h2 : SX X (Γ.set i (.sh d)) rest o) : SX X Γ (st :: rest) o := by
  unfold asgX at hv
  split at hv
  · obtain ⟨d', e1, e2⟩ := Option.map_eq_some_iff.mp hv
    cases e2
    refine s_cons (s1_set i gd.nd (e_valX e1 hd) hl (fun _ z => by cases z) hi hx (sw_valX e1 fun a op b p z => ?_) hf) h2
    subst z
    cases hb
  · cases hv
end
end PL

set_option Elab.async false
set_option linter.all false
set_option maxRecDepth 100000
set_option maxHeartbeats 1000000
namespace Hd
open PySem PySem.Spec PyProof.Rows L2 PL
section
variable {Pg : Program} {w : World} {K : PySem.W.Frag} {mg : Str → Option Value} {base : Heap}
/-! ### k06: stripes merged, in two; a row from its other end -/
def P_sof : List D → Rs → Prop := fun ds r => ∃ ts, (∀ t ∈ ts, okS t) ∧ ts.length ≤ 1000 ∧ (ds = [dL ts] ∨ ds = [dT ts]) ∧ r = .sh (dS (mrg ts))
theorem c_sof (Dd : Df K mg "_law_merged" s__law_merged []) (T : Bt mg) : C0 Pg w K mg base "_law_merged" 1 ["_law_words"] P_sof := by
  refine c0_mk (k := 0) Dd sc__law_merged (fun _ _ _ _ _ _ us hl => match us, hl with | [_], _ => rfl) (by decide) (fun ds r => ?_) (fun f cd A outer s H E g ds r => ?_)
  · rintro ⟨ts, ho, hp, rfl | rfl, rfl⟩ <;> exact ⟨rfl, fun _ z => by cases z⟩
  · rintro ⟨ts, ho, hp, rfl | rfl, rfl⟩
    · refine ends_eq (ends_rt (s_cons (s1_set 1 g.nd (e_lst a_nil)) (s_cons (s1_for g (it_list (e_var 0)) (fun j => [.sh (dL ts), .ow (.lst ((mrg (ts.take j)).map dP)), .un]) (fun j => [.sh (dL ts), .ow (.lst ((mrg (ts.take j)).map dP)), .sh (.str (ts.getD j default))]) .refl (fun j hj => ?_) (fun j hj => .inl ?_))
        (s_one (s1_ret (e_callTy c_tupL T.tuple b_tuple (a_cons (e_cv (cv_frz (i := 1) rfl) (e_var 1)) a_nil))))))) ?_
      · have hj' : j < ts.length := by simpa using hj
        rw [itd_map D.str ts j hj', List.getD_eq_getElem?_getD, List.getElem?_eq_getElem hj']
        exact g_name 2 g.nd
      · have hj' : j < ts.length := by simpa using hj
        rw [List.getD_eq_getElem?_getD, List.getElem?_eq_getElem hj', List.take_succ_eq_append_getElem hj', mrg_snoc]
        have hlen : (mrg (ts.take j)).length ≤ 1000 := by
          have := mrg_len (ts.take j) []
          unfold mrg
          rw [List.length_take] at this
          simp only [List.length_nil] at this
          omega
        have hok : ∀ p ∈ mrg (ts.take j), okS p.1 := mrg_mem okS _ fun t z => ho t (List.mem_of_mem_take z)
        generalize mrg (ts.take j) = ms at hlen hok
        have b : (1000 : Nat) < sizeLine := by decide
        show SX _ [.sh (dL ts), .ow (.lst (ms.map dP)), .sh (.str ts[j])] _ _
        cases hms : ms.getLast? with
        | none =>
          have e : ms = [] := by simpa using hms
          subst e
          refine s_wk (s_one (s1_ifF (t_eq (t_w (w_andF (t_ro (t_eq (t_cmp (o_neL0 g.rm.units cmp_l0) (e_var 1) (e_fz (e_lst a_nil))) rfl)))) rfl) (s_one (s1_expr (e_append (i := 1) (e_tup (a_cons (e_var 2) (a_cons e_int a_nil))) ⟨_, _, has_ow, _, rfl⟩ has_ow (by show 0 < sizeLine; decide)))))) ?_
          show Cv K [.sh (dL ts), .ow (.lst [.tup [.str ts[j], .int 1]]), .sh (.str ts[j])] _
          exact Wk.cv (.keep (.keep (.drop .nil)))
        | some p =>
          obtain ⟨t, n⟩ := p
          have hne : ms ≠ [] := fun z => by rw [z] at hms; cases hms
          have hlast : atI ms (-1) = some (t, n) := by
            have e := List.dropLast_concat_getLast hne
            have e2 : ms.getLast hne = (t, n) := by
              rw [List.getLast?_eq_getLast hne] at hms
              exact Option.some.inj hms
            rw [e2] at e
            rw [← e]
            exact atI_last _ _
          have hl2 : atI (ms.map dP) (-1) = some (dP (t, n)) := by rw [atI_map, hlast]; rfl
          have hlp := List.length_pos_iff.mpr hne
          have hem : (ms.map dP).isEmpty = false := by
            cases ms with
            | nil => exact absurd rfl hne
            | cons x r => rfl
          have hcm : Cmp (.lst (ms.map dP)) := cmp_dSl hok
          by_cases htj : t = ts[j]
          · have hix : ixN (ms.map dP).length (-1) = some (ms.length - 1) := by
              unfold ixN
              rw [List.length_map, if_neg (by decide), if_pos (by omega)]
              congr 1
              omega
            refine s_wk (s_one (s1_ifT (t_eq (t_ro (t_eq (t_w (w_andT (t_eq (t_cmp (o_neL0 g.rm.units hcm) (e_var 1) (e_fz (e_lst a_nil))) (by rw [hem]; rfl)) (w_and1 (t_cmp o_eqS (e_ix (e_ix (e_var 1) (e_neg e_int) (i_list hl2)) e_int (i_tup (d := .str t) rfl)) (e_var 2))))) rfl)) (decide_eq_true htj)) (s_one (s1_asg (g_setix (n := 1) has_ow (e_neg e_int) hix) (e_tup (a_cons (e_var 2) (a_cons (e_bin o_addI (e_ro (e_ix (e_ix (e_var 1) (e_neg e_int) (i_list hl2)) e_int (i_tup (d := .int n) rfl)) trivial) e_int) a_nil))))))) ?_
            have e : (ms.map dP).set (ms.length - 1) (.tup [.str ts[j], .int (n + 1)]) = (mrgStep ms ts[j]).map dP := by
              unfold mrgStep
              rw [hms]
              show _ = (if t = ts[j] then ms.dropLast ++ [(ts[j], n + 1)] else _).map dP
              rw [if_pos htj, ← dropLast_set ms _ hne, List.map_set]
            show Cv K [.sh (dL ts), .ow (.lst ((ms.map dP).set (ms.length - 1) (.tup [.str ts[j], .int (n + 1)]))), .sh (.str ts[j])] _
            rw [e]
            exact Wk.cv (.keep (.keep (.drop .nil)))
          · refine s_wk (s_one (s1_ifF (t_eq (t_ro (t_eq (t_w (w_andT (t_eq (t_cmp (o_neL0 g.rm.units hcm) (e_var 1) (e_fz (e_lst a_nil))) (by rw [hem]; rfl)) (w_and1 (t_cmp o_eqS (e_ix (e_ix (e_var 1) (e_neg e_int) (i_list hl2)) e_int (i_tup (d := .str t) rfl)) (e_var 2))))) rfl)) (decide_eq_false htj)) (s_one (s1_expr (e_append (i := 1) (e_tup (a_cons (e_var 2) (a_cons e_int a_nil))) ⟨_, _, has_ow, _, rfl⟩ has_ow (by rw [List.length_map]; omega)))))) ?_
            have e : ms.map dP ++ [.tup [.str ts[j], .int 1]] = (mrgStep ms ts[j]).map dP := by
              unfold mrgStep
              rw [hms]
              show _ = (if t = ts[j] then ms.dropLast ++ [(ts[j], n + 1)] else ms ++ [(ts[j], 1)]).map dP
              rw [if_neg htj, List.map_append]
              rfl
            show Cv K [.sh (dL ts), .ow (.lst (ms.map dP ++ [.tup [.str ts[j], .int 1]])), .sh (.str ts[j])] _
            rw [e]
            exact Wk.cv (.keep (.keep (.drop .nil)))
      · show Rs.sh (.tup ((mrg (ts.take (ts.map D.str).length)).map dP)) = _
        rw [List.length_map, List.take_length]
    · refine ends_eq (ends_rt (s_cons (s1_set 1 g.nd (e_lst a_nil)) (s_cons (s1_for g (it_tup (e_var 0)) (fun j => [.sh (dT ts), .ow (.lst ((mrg (ts.take j)).map dP)), .un]) (fun j => [.sh (dT ts), .ow (.lst ((mrg (ts.take j)).map dP)), .sh (.str (ts.getD j default))]) .refl (fun j hj => ?_) (fun j hj => .inl ?_))
        (s_one (s1_ret (e_callTy c_tupL T.tuple b_tuple (a_cons (e_cv (cv_frz (i := 1) rfl) (e_var 1)) a_nil))))))) ?_
      · have hj' : j < ts.length := by simpa using hj
        rw [itd_map D.str ts j hj', List.getD_eq_getElem?_getD, List.getElem?_eq_getElem hj']
        exact g_name 2 g.nd
      · have hj' : j < ts.length := by simpa using hj
        rw [List.getD_eq_getElem?_getD, List.getElem?_eq_getElem hj', List.take_succ_eq_append_getElem hj', mrg_snoc]
        have hlen : (mrg (ts.take j)).length ≤ 1000 := by
          have := mrg_len (ts.take j) []
          unfold mrg
          rw [List.length_take] at this
          simp only [List.length_nil] at this
          omega
        have hok : ∀ p ∈ mrg (ts.take j), okS p.1 := mrg_mem okS _ fun t z => ho t (List.mem_of_mem_take z)
        generalize mrg (ts.take j) = ms at hlen hok
        have b : (1000 : Nat) < sizeLine := by decide
        show SX _ [.sh (dT ts), .ow (.lst (ms.map dP)), .sh (.str ts[j])] _ _
        cases hms : ms.getLast? with
        | none =>
          have e : ms = [] := by simpa using hms
          subst e
          refine s_wk (s_one (s1_ifF (t_eq (t_w (w_andF (t_ro (t_eq (t_cmp (o_neL0 g.rm.units cmp_l0) (e_var 1) (e_fz (e_lst a_nil))) rfl)))) rfl) (s_one (s1_expr (e_append (i := 1) (e_tup (a_cons (e_var 2) (a_cons e_int a_nil))) ⟨_, _, has_ow, _, rfl⟩ has_ow (by show 0 < sizeLine; decide)))))) ?_
          show Cv K [.sh (dT ts), .ow (.lst [.tup [.str ts[j], .int 1]]), .sh (.str ts[j])] _
          exact Wk.cv (.keep (.keep (.drop .nil)))
        | some p =>
          obtain ⟨t, n⟩ := p
          have hne : ms ≠ [] := fun z => by rw [z] at hms; cases hms
          have hlast : atI ms (-1) = some (t, n) := by
            have e := List.dropLast_concat_getLast hne
            have e2 : ms.getLast hne = (t, n) := by
              rw [List.getLast?_eq_getLast hne] at hms
              exact Option.some.inj hms
            rw [e2] at e
            rw [← e]
            exact atI_last _ _
          have hl2 : atI (ms.map dP) (-1) = some (dP (t, n)) := by rw [atI_map, hlast]; rfl
          have hlp := List.length_pos_iff.mpr hne
          have hem : (ms.map dP).isEmpty = false := by
            cases ms with
            | nil => exact absurd rfl hne
            | cons x r => rfl
          have hcm : Cmp (.lst (ms.map dP)) := cmp_dSl hok
          by_cases htj : t = ts[j]
          · have hix : ixN (ms.map dP).length (-1) = some (ms.length - 1) := by
              unfold ixN
              rw [List.length_map, if_neg (by decide), if_pos (by omega)]
              congr 1
              omega
            refine s_wk (s_one (s1_ifT (t_eq (t_ro (t_eq (t_w (w_andT (t_eq (t_cmp (o_neL0 g.rm.units hcm) (e_var 1) (e_fz (e_lst a_nil))) (by rw [hem]; rfl)) (w_and1 (t_cmp o_eqS (e_ix (e_ix (e_var 1) (e_neg e_int) (i_list hl2)) e_int (i_tup (d := .str t) rfl)) (e_var 2))))) rfl)) (decide_eq_true htj)) (s_one (s1_asg (g_setix (n := 1) has_ow (e_neg e_int) hix) (e_tup (a_cons (e_var 2) (a_cons (e_bin o_addI (e_ro (e_ix (e_ix (e_var 1) (e_neg e_int) (i_list hl2)) e_int (i_tup (d := .int n) rfl)) trivial) e_int) a_nil))))))) ?_
            have e : (ms.map dP).set (ms.length - 1) (.tup [.str ts[j], .int (n + 1)]) = (mrgStep ms ts[j]).map dP := by
              unfold mrgStep
              rw [hms]
              show _ = (if t = ts[j] then ms.dropLast ++ [(ts[j], n + 1)] else _).map dP
              rw [if_pos htj, ← dropLast_set ms _ hne, List.map_set]
            show Cv K [.sh (dT ts), .ow (.lst ((ms.map dP).set (ms.length - 1) (.tup [.str ts[j], .int (n + 1)]))), .sh (.str ts[j])] _
            rw [e]
            exact Wk.cv (.keep (.keep (.drop .nil)))
          · refine s_wk (s_one (s1_ifF (t_eq (t_ro (t_eq (t_w (w_andT (t_eq (t_cmp (o_neL0 g.rm.units hcm) (e_var 1) (e_fz (e_lst a_nil))) (by rw [hem]; rfl)) (w_and1 (t_cmp o_eqS (e_ix (e_ix (e_var 1) (e_neg e_int) (i_list hl2)) e_int (i_tup (d := .str t) rfl)) (e_var 2))))) rfl)) (decide_eq_false htj)) (s_one (s1_expr (e_append (i := 1) (e_tup (a_cons (e_var 2) (a_cons e_int a_nil))) ⟨_, _, has_ow, _, rfl⟩ has_ow (by rw [List.length_map]; omega)))))) ?_
            have e : ms.map dP ++ [.tup [.str ts[j], .int 1]] = (mrgStep ms ts[j]).map dP := by
              unfold mrgStep
              rw [hms]
              show _ = (if t = ts[j] then ms.dropLast ++ [(ts[j], n + 1)] else ms ++ [(ts[j], 1)]).map dP
              rw [if_neg htj, List.map_append]
              rfl
            show Cv K [.sh (dT ts), .ow (.lst (ms.map dP ++ [.tup [.str ts[j], .int 1]])), .sh (.str ts[j])] _
            rw [e]
            exact Wk.cv (.keep (.keep (.drop .nil)))
      · show Rs.sh (.tup ((mrg (ts.take (ts.map D.str).length)).map dP)) = _
        rw [List.length_map, List.take_length]
def sp1 (x : Str) (c l : Int) : List (Str × Int) := (if 0 < l then [(x, l)] else []) ++ [(x, c - l)]
def spS (a : List (Str × Int) × Int) (p : Str × Int) : List (Str × Int) × Int := (a.1 ++ sp1 p.1 p.2 (a.2 % p.2), a.2 / p.2)
def spL (ps : List (Str × Int)) (n : Int) : List (Str × Int) × Int := ps.foldl spS ([], n)
theorem sp1_ok {p : Str × Int} (h : okStripe p) (l : Int) (h0 : 0 ≤ l) (h1 : l < p.2) : (∀ q ∈ sp1 p.1 p.2 l, okStripe q) ∧ thr (sp1 p.1 p.2 l) = thr [p] ∧ tot (sp1 p.1 p.2 l) = p.2 ∧ (sp1 p.1 p.2 l).length ≤ 2 := by
  obtain ⟨x, c⟩ := p
  have hc : 0 < c := h.2
  have h1 : l < c := h1
  unfold sp1
  by_cases hl : 0 < l
  · rw [if_pos hl]
    refine ⟨fun q hq => ?_, ?_, ?_, Nat.le_refl _⟩
    · rcases List.mem_cons.mp hq with rfl | hq
      · exact ⟨h.1, hl⟩
      · rw [List.mem_singleton.mp hq]; exact ⟨h.1, by show 0 < c - l; omega⟩
    · show List.replicate l.toNat x ++ (List.replicate (c - l).toNat x ++ []) = List.replicate c.toNat x ++ []
      rw [List.append_nil, List.append_nil, List.replicate_append_replicate]
      congr 1; omega
    · show l + ((c - l) + 0) = c
      omega
  · rw [if_neg hl]
    have e : l = 0 := by omega
    subst e
    refine ⟨fun q hq => ?_, ?_, ?_, by show 1 ≤ 2; decide⟩
    · rw [List.mem_singleton.mp hq]; exact ⟨h.1, by show 0 < c - 0; omega⟩
    · show List.replicate (c - 0).toNat x ++ [] = List.replicate c.toNat x ++ []
      rw [Int.sub_zero]
    · show (c - 0) + 0 = c
      omega
theorem thr_app (a b : List (Str × Int)) : thr (a ++ b) = thr a ++ thr b := List.flatMap_append
theorem tot_app (a b : List (Str × Int)) : tot (a ++ b) = tot a + tot b := by unfold tot; rw [List.map_append, List.sum_append]
theorem spF_ok : ∀ (ps : List (Str × Int)) (a : List (Str × Int) × Int), (∀ p ∈ ps, okStripe p) → (∀ q ∈ a.1, okStripe q) → (∀ q ∈ (ps.foldl spS a).1, okStripe q) ∧ thr (ps.foldl spS a).1 = thr a.1 ++ thr ps ∧ tot (ps.foldl spS a).1 = tot a.1 + tot ps ∧ (ps.foldl spS a).1.length ≤ a.1.length + 2 * ps.length
  | [], a, _, h => ⟨h, by show thr a.1 = thr a.1 ++ []; rw [List.append_nil], by show tot a.1 = tot a.1 + 0; omega, by show a.1.length ≤ a.1.length + 0; omega⟩
  | p :: ps, a, hp, h => by
    have h2 := hp p List.mem_cons_self
    obtain ⟨k1, k2, k3, k4⟩ := sp1_ok h2 (a.2 % p.2) (Int.emod_nonneg _ (by have := h2.2; omega)) (Int.emod_lt_of_pos _ h2.2)
    obtain ⟨r1, r2, r3, r4⟩ := spF_ok ps (spS a p) (fun q hq => hp q (List.mem_cons_of_mem _ hq)) (fun q hq => (List.mem_append.mp hq).elim (h q) (k1 q))
    refine ⟨r1, ?_, ?_, ?_⟩
    · show thr (ps.foldl spS (spS a p)).1 = _
      rw [r2]
      show thr (a.1 ++ sp1 p.1 p.2 (a.2 % p.2)) ++ thr ps = thr a.1 ++ thr ([p] ++ ps)
      rw [thr_app, k2, thr_app, List.append_assoc]
    · show tot (ps.foldl spS (spS a p)).1 = _
      rw [r3]
      show tot (a.1 ++ sp1 p.1 p.2 (a.2 % p.2)) + tot ps = tot a.1 + tot ([p] ++ ps)
      rw [tot_app, k3, tot_app]
      show tot a.1 + p.2 + tot ps = tot a.1 + ((p.2 + 0) + tot ps)
      omega
    · show (ps.foldl spS (spS a p)).1.length ≤ _
      have : (spS a p).1.length ≤ a.1.length + 2 := by
        show (a.1 ++ sp1 p.1 p.2 (a.2 % p.2)).length ≤ _
        rw [List.length_append]; omega
      rw [List.length_cons]; omega
theorem spL_ok {ps : List (Str × Int)} (h : OkSt ps) (n : Int) : OkSt (spL ps n).1 ∧ thr (spL ps n).1 = thr ps := by
  obtain ⟨r1, r2, r3, _⟩ := spF_ok ps ([], n) h.ok (fun q hq => by cases hq)
  have e2 : thr (spL ps n).1 = thr ps := r2.trans (List.nil_append _)
  have h3 := h.le
  refine ⟨⟨fun z => ?_, r1, ?_⟩, e2⟩
  · rw [z] at e2
    obtain ⟨p, r, hp⟩ := List.exists_cons_of_ne_nil h.ne
    have h4 := (h.ok p (by rw [hp]; exact List.mem_cons_self)).2
    rw [hp] at e2
    have e3 : ([] : List Str) = List.replicate p.2.toNat p.1 ++ thr r := e2
    have := congrArg List.length e3
    rw [List.length_append, List.length_replicate] at this
    simp only [List.length_nil] at this
    omega
  · have e3 : tot (spL ps n).1 = tot [] + tot ps := r3
    have e4 : tot ([] : List (Str × Int)) = 0 := rfl
    omega
theorem spL_snoc (ps : List (Str × Int)) (n : Int) {j : Nat} (hj : j < ps.length) : spL (ps.take (j + 1)) n = spS (spL (ps.take j) n) ps[j] := by
  unfold spL
  rw [List.take_succ_eq_append_getElem hj, List.foldl_append]; rfl
theorem ok_few {ps : List (Str × Int)} (h : OkSt ps) : ps.length ≤ 240 ∧ ∀ p ∈ ps, p.2 ≤ 240 := by
  have key : ∀ ps : List (Str × Int), (∀ p ∈ ps, 0 < p.2) → (ps.length : Int) ≤ tot ps ∧ ∀ p ∈ ps, p.2 ≤ tot ps := by
    intro ps
    induction ps with
    | nil => intro _; exact ⟨Int.le_refl _, fun p hp => by cases hp⟩
    | cons p r ih =>
      intro hp
      have h1 := hp p List.mem_cons_self
      obtain ⟨h2, h3⟩ := ih fun q hq => hp q (List.mem_cons_of_mem _ hq)
      have h4 := tot_nonneg fun q hq => hp q (List.mem_cons_of_mem _ hq)
      have e : tot (p :: r) = p.2 + tot r := by unfold tot; rw [List.map_cons, List.sum_cons]
      rw [e, List.length_cons]
      refine ⟨by omega, fun q hq => ?_⟩
      rcases List.mem_cons.mp hq with rfl | hq
      · omega
      · have := h3 q hq; omega
  obtain ⟨k1, k2⟩ := key ps fun p hp => (h.ok p hp).2
  have := h.le
  exact ⟨by omega, fun p hp => by have := k2 p hp; omega⟩
def pre_spl : List D → Prop := fun ds => ∃ ps, OkSt ps ∧ ds = [dS ps]
def post_spl : List D → Rs → Prop := fun ds r => ∃ ps qs, ds = [dS ps] ∧ OkSt qs ∧ thr qs = thr ps ∧ r = .sh (dS qs)
theorem tk06 {n m : Int} (h0 : 0 < m) (h1 : m ≤ 10 ^ 40) : P_take (po n) [.int m] (.sh (.int (n % m))) (po (n / m)) := ⟨n, m, h0, h1, rfl, rfl, rfl, rfl⟩
theorem c_spl06 (Dd : Df K mg "_law_split" s__law_split []) (T : Bt mg) (G_take : C1 Pg w K mg base "_law_take" 1 ["_law_pool_here", "_law_many"] P_take) : Cp Pg w K mg base "_law_split" 2 ["_law_pool_here", "_law_parts"] pre_spl post_spl := by
  refine cp_mk (k := 1) Dd sc__law_split (fun _ _ _ _ _ _ us hl => match us, hl with | [_, _], _ => rfl) (by decide) (fun ds ⟨_, _, h⟩ => by rw [h]; rfl) (fun n ds h => ?_)
  obtain ⟨ps, hps, rfl⟩ := h
  have hz := big2000
  obtain ⟨f1, f2⟩ := ok_few hps
  obtain ⟨q1, q2⟩ := spL_ok hps n
  have big : (10 : Int) ^ 40 ≥ 240 := by decide +kernel
  refine ⟨.sh (dS (spL ps n).1), (spL ps n).2, ⟨ps, _, rfl, q1, q2, rfl⟩, (fun _ z => by cases z), fun f cd A outer s H E g p => ⟨[.pr p (po (spL ps n).2), .sh (dS ps), .sh (.lst ((spL ps n).1.map dP)), .un, .un, .un, .un], .inl ?_, rfl⟩⟩
  refine s_cons (Γ1 := [.pr p (po n), .sh (dS ps), .sh (.lst []), .un, .un, .un, .un]) (s1_set 2 g.nd (e_fz (e_lst a_nil))) ?_
  refine s_cons (Γ1 := [.pr p (po (spL ps n).2), .sh (dS ps), .sh (.lst ((spL ps n).1.map dP)), .un, .un, .un, .un]) ?_ (s_one (s1_ret (e_callTy c_tupL T.tuple b_tuple (a_cons (e_var 2) a_nil))))
  have hend : ps.take (ps.map dP).length = ps := by rw [List.length_map, List.take_length]
  have e0 : spL (ps.take 0) n = ([], n) := rfl
  refine s1_eq (s1_for (Γ1 := [.pr p (po n), .sh (dS ps), .sh (.lst []), .un, .un, .un, .un]) g (it_tup (ds := ps.map dP) (e_var 1)) (fun j => [.pr p (po (spL (ps.take j) n).2), .sh (dS ps), .sh (.lst ((spL (ps.take j) n).1.map dP)), .un, .un, .un, .un]) (fun j => [.pr p (po (spL (ps.take j) n).2), .sh (dS ps), .sh (.lst ((spL (ps.take j) n).1.map dP)), .sh (.str (ps.getD j default).1), .sh (.int (ps.getD j default).2), .un, .un]) .refl (fun j hj => ?_) (fun j hj => .inl ?_)) (by rw [hend])
  · have hj' : j < ps.length := by simpa using hj
    rw [itd_map dP ps j hj', List.getD_eq_getElem?_getD, List.getElem?_eq_getElem hj']
    exact g_tup g.calm (gs_cons (g_name 3 g.nd) (gs_cons (g_name 4 g.nd) gs_nil))
  · have hj' : j < ps.length := by simpa using hj
    have ep : ps.getD j default = ps[j] := by rw [List.getD_eq_getElem?_getD, List.getElem?_eq_getElem hj']; rfl
    rw [spL_snoc ps n hj', ep]
    have hok := hps.ok _ (List.getElem_mem hj')
    have hc4 := f2 _ (List.getElem_mem hj')
    have hAl : (spL (ps.take j) n).1.length ≤ 480 := by
      obtain ⟨_, _, _, r4⟩ := spF_ok (ps.take j) ([], n) (fun q hq => hps.ok q (List.mem_of_mem_take hq)) (fun q hq => by cases hq)
      rw [List.length_take] at r4
      have r4' : (spL (ps.take j) n).1.length ≤ 0 + 2 * min j ps.length := r4
      omega
    generalize spL (ps.take j) n = a at hAl ⊢
    obtain ⟨as, m⟩ := a
    obtain ⟨⟨x, c⟩, hxc⟩ : ∃ q, q = ps[j] := ⟨_, rfl⟩
    rw [← hxc] at hok hc4 ⊢
    have hc : 0 < c := hok.2
    have hc4 : c ≤ 240 := hc4
    have hAl : as.length ≤ 480 := hAl
    obtain ⟨l, hl⟩ : ∃ l, l = m % c := ⟨_, rfl⟩
    have l0 := Int.emod_nonneg m (b := c) (by omega)
    have l1 := Int.emod_lt_of_pos m hc
    have htk : took (fun j => decide (0 < ([l, c - l] : List Int).getD j 0)) (fun j => .tup [.str x, .int (([l, c - l] : List Int).getD j 0)]) 2 = (sp1 x c l).map dP := by
      rw [took_succ, took_succ]
      have h2 : decide (0 < ([l, c - l] : List Int).getD 1 0) = true := decide_eq_true (by show 0 < c - l; omega)
      rw [h2, if_pos rfl]
      unfold sp1
      by_cases h3 : 0 < l
      · rw [show decide (0 < ([l, c - l] : List Int).getD 0 0) = true from decide_eq_true h3, if_pos rfl, if_pos h3]; rfl
      · rw [show decide (0 < ([l, c - l] : List Int).getD 0 0) = false from decide_eq_false h3, if_neg (by decide), if_neg h3]; rfl
    have hE : as.map dP ++ (sp1 x c l).map dP = (as ++ sp1 x c l).map dP := (List.map_append).symm
    have hit : ∀ i, i < 2 → itd [D.int l, .int (c - l)] i = .int (([l, c - l] : List Int).getD i 0) := fun i hi => by
      rcases (by omega : i = 0 ∨ i = 1) with rfl | rfl <;> rfl
    have hEl : ((sp1 x c l).map dP).length ≤ 2 := by
      rw [List.length_map]
      exact (sp1_ok (p := (x, c)) hok l (by omega) (by omega)).2.2.2
    show SX _ [.pr p (po m), .sh (dS ps), .sh (.lst (as.map dP)), .sh (.str x), .sh (.int c), .un, .un] _ (.nx [.pr p (po (m / c)), .sh (dS ps), .sh (.lst ((as ++ sp1 x c (m % c)).map dP)), .un, .un, .un, .un])
    rw [← hl]
    refine s_wk (Γ1 := [.pr p (po (m / c)), .sh (dS ps), .sh (.lst ((as ++ sp1 x c l).map dP)), .sh (.str x), .sh (.int c), .sh (.int l), .un]) ?_ (Wk.cv (.keep (.keep (.keep (.drop (.drop (.drop (.keep .nil))))))))
    refine s_cons (Γ1 := [.pr p (po (m / c)), .sh (dS ps), .sh (.lst (as.map dP)), .sh (.str x), .sh (.int c), .sh (.int l), .un]) (by rw [hl]; exact s1_set 5 g.nd (e_c1 0 G_take g has_pr (a_cons (e_var 4) a_nil) has_pr (tk06 hc (by omega)))) ?_
    refine s_one (s1_set 2 g.nd (e_fz (e_eq (e_bin (o_catL (ds := as.map dP) (es := (sp1 x c l).map dP) (by rw [List.length_map]; omega)) (e_var 2) (e_fz (e_eq (e_lc g (lcIf (n := 2) (t := fun j => decide (0 < ([l, c - l] : List Int).getD j 0)) (f := fun j => .tup [.str x, .int (([l, c - l] : List Int).getD j 0)]) 6 g (it_list (ds := [D.int l, .int (c - l)]) (e_fz (e_lst (a_cons (e_var 5) (a_cons (e_bin o_subI (e_var 4) (e_var 5)) a_nil))))) (by show 2 ≤ _; omega) (blkOk_by (N := N__law_split) (sc := defScope s__law_split) (by decide +kernel)) rfl (fun i hi s1 H1 C1 cl fp => ?_) (fun i hi _ s1 H1 C1 cl fp => ?_))) (congrArg (fun z => Rs.ow (Ob.lst z)) htk)))) (congrArg (fun z => Rs.ow (Ob.lst z)) hE))))
    · rw [hit i hi]
      exact t_cmp o_gt (e_var 6) e_int
    · rw [hit i hi]
      exact e_tup (a_cons (e_var 3) (a_cons (e_var 6) a_nil))
def P_end06 : List D → Rs → Prop := fun ds r => ∃ X m st, m ≠ Mnr.run ∧ 0 < X.length ∧ X.length ≤ 200 ∧ ds = [dL X, .str (Mnr.s m), .int st] ∧ r = .sh (.tup [dL X.reverse, .str (endM m).s, .int (st - (endK m X.length : Int))])
theorem c_end06 (Dd : Df K mg "_law_from_the_end" s__law_from_the_end []) (T : Bt mg) : C0 Pg w K mg base "_law_from_the_end" 1 ["_law_words", "_law_tack", "_law_begun"] P_end06 := by
  refine c0_mk (k := 0) Dd sc__law_from_the_end (fun _ _ _ _ _ _ us hl => match us, hl with | [_, _, _], _ => rfl) (by decide) (fun ds r => ?_) (fun f cd A outer s H E g ds r => ?_)
  · rintro ⟨X, m, st, _, _, _, rfl, rfl⟩
    exact ⟨rfl, fun _ z => by cases z⟩
  · rintro ⟨X, m, st, hm, h0, hl, rfl, rfl⟩
    have hz := big2000
    refine ⟨[.sh (dL X), .sh (.str (Mnr.s m)), .sh (.int st), .sh (.int (X.length : Int))], .inl ?_⟩
    refine s_cons (Γ1 := [.sh (dL X), .sh (.str (Mnr.s m)), .sh (.int st), .sh (.int (X.length : Int))]) (s1_set (r := .sh (.int (X.length : Int))) 3 g.nd (e_eq (e_callB (c_lenL (ds := X.map D.str)) T.len b_len (a_cons (e_var 0) a_nil)) (by rw [List.length_map]))) ?_
    cases m with
    | run => exact absurd rfl hm
    | pivot => exact s_ifTE (t_eq (t_cmp o_eqS (e_var 1) e_str) (by decide)) (s_one (s1_ret (e_tup (a_cons (e_fz (e_revD (e_var 0))) (a_cons e_str (a_cons (e_eq (e_bin o_addI (e_bin o_subI (e_var 2) (e_var 3)) e_int) (congrArg (fun z => Rs.sh (D.int z)) (show st - (X.length : Int) + 1 = st - (((X.length - 1 : Nat)) : Int) by omega))) a_nil))))))
    | fold => exact s_ifN (t_eq (t_cmp o_eqS (e_var 1) e_str) (by decide)) (s_ifTE (t_eq (t_cmp o_eqS (e_var 1) e_str) (by decide)) (s_one (s1_ret (e_tup (a_cons (e_fz (e_revD (e_var 0))) (a_cons e_str (a_cons (e_bin o_subI (e_var 2) (e_var 3)) a_nil)))))))
    | left => exact s_ifN (t_eq (t_cmp o_eqS (e_var 1) e_str) (by decide)) (s_ifN (t_eq (t_cmp o_eqS (e_var 1) e_str) (by decide)) (s_ifTE (t_eq (t_cmp o_eqS (e_var 1) e_str) (by decide)) (s_one (s1_ret (e_tup (a_cons (e_fz (e_revD (e_var 0))) (a_cons e_str (a_cons (e_bin o_subI (e_var 2) (e_var 3)) a_nil))))))))
    | right => exact s_ifN (t_eq (t_cmp o_eqS (e_var 1) e_str) (by decide)) (s_ifN (t_eq (t_cmp o_eqS (e_var 1) e_str) (by decide)) (s_ifN (t_eq (t_cmp o_eqS (e_var 1) e_str) (by decide)) (s_one (s1_ret (e_tup (a_cons (e_fz (e_revD (e_var 0))) (a_cons e_str (a_cons (e_eq (e_bin o_addI (e_bin o_subI (e_var 2) (e_var 3)) e_int) (congrArg (fun z => Rs.sh (D.int z)) (show st - (X.length : Int) + 1 = st - (((X.length - 1 : Nat)) : Int) by omega))) a_nil))))))))
end
end Hd

set_option Elab.async false
set_option linter.all false
set_option maxRecDepth 100000
set_option maxHeartbeats 2000000
/-! bool(o), o an instance whose class has its own __len__ and no __bool__ -/
namespace PL
open PySem PySem.Spec PyProof.Rows L2
section
variable {X : Cx} {n : Nat}
theorem len_body {CX : CXT} {C f : Addr} {fd : FuncData} {ps : List Str} {sp : Sp} {E : XK} {B : Around} {a dx : Addr} {fs : List (Str × V)} {pins : List (Addr × Obj)} {σ : L2.St} {H : Hp} {s : Shared} {P : Nat → Hp → Prop} (F : FnOk X.prog X.w X.K X.mg X.base CX n f fd ps sp) (hm : Meth X.K C "__len__" f) (hb : Binds X.K fd ps []) (hx : Passes CX X E) (hr : Room n B) (hA : B.frames = X.A.frames) (I : Inv X pins σ H s) (ha : H a = some (.ins C dx fs)) (hsp : sp [.ref a] H (fun v H' => ∃ z : Nat, v = .int z ∧ (z : Int) < 2 ^ 62 ∧ P z H') E) :
    wpAny (model X.prog X.w) B (Builtin.«len» ⟨[.ref a], []⟩) (fun fin s' => ∃ (z : Nat) (t : Tok) (H' : Hp), fin = .done (.ret (.int (z : Nat) t)) ∧ Inv X pins σ H' s' ∧ P z H') X.xe s := by
  obtain ⟨mA, J, _⟩ := ins_get I.hok ha
  obtain ⟨od, J, _⟩ := J.look
  have sp0 : PySem.W.Looks (model X.prog X.w) s.heap (specialOf (.ref a) "__len__") (some (.ref f)) := J.type.andThen (PySem.W.looks_findIn I.kIn hm.at_)
  have bn := PySem.W.bind_fn (M := model X.prog X.w) (h := s.heap) I.kIn (f := f) (.ref a) (beq_iff_eq.mp hm.fn)
  unfold Builtin.«len»
  refine wpAny_bind (m := oneArg "len" _) (wpAny_pure ?_)
  refine wpAny_bind (m := callSpecial? (.ref a) (PySem.Str.ofString "__len__")) ?_
  simp only [callSpecial?]
  refine wpAny_bind (sp0.here ?_)
  refine wpAny_holding (wpAny_bind (bn.here (wpAny_bind ?_)))
  have e0 : Env0 X.prog X.w X.K X.mg X.base B X.stack s H := by
    have e := I.env0
    exact ⟨by rw [hA]; exact e.frames, e.mod, e.bs, e.bsz, e.funs, e.frf, e.hok, e.bare⟩
  have hl := F.len _ _ _ _ hsp
  refine wpAny_call (codeAny_mono (F.run B X.stack s H ⟨[.ref a], []⟩ [.ref a] [.ref a] _ E hr e0 (by
    have := hb s [.ref a] I.kIn (by simpa using hl)
    simpa using this) (.cons rfl .nil) hsp) fun r s' hq => ?_)
  cases r with
  | error e => exact hx pins σ H s e s' I hq
  | ok fl =>
    cases fl with
    | ret u =>
      obtain ⟨v, H', I', rv, z, rfl, hz, q⟩ := I.after hq
      obtain ⟨t, rfl⟩ := rv
      refine wpAny_pure ?_
      refine wpAny_bind (wpAny_holding (wpAny_pure ?_))
      refine wpAny_bind (wpAny_letGo ?_)
      show wpAny _ _ (if ((z : Nat) : Int) < 0 then _ else _) _ _ _
      rw [if_neg (by omega)]
      show wpAny _ _ (if ((z : Nat) : Int) ≥ 2 ^ 63 then _ else _) _ _ _
      rw [if_neg (by omega)]
      exact wpAny_bind (wpAny_mkInt (wpAny_pure ⟨z, _, H', rfl, I'.tok _, q⟩))
    | next => exact False.elim hq
    | brk => exact False.elim hq
    | cont => exact False.elim hq
theorem truthyO {CX : CXT} {C f : Addr} {fd : FuncData} {ps : List Str} {sp : Sp} {E : XK} {B : Around} {a dx : Addr} {fs : List (Str × V)} {pins : List (Addr × Obj)} {σ : L2.St} {H : Hp} {s : Shared} {P : Nat → Hp → Prop} (Fo : FnOk X.prog X.w X.K X.mg X.base CX n f fd ps sp) (hm : Meth X.K C "__len__" f) (hnb : PySem.W.findIn X.K (.ref C) "__bool__" = some none) (hb : Binds X.K fd ps []) (hx : Passes CX X E) (hr : Room (n + 1) B) (hA : B.frames = X.A.frames) (I : Inv X pins σ H s) (ha : H a = some (.ins C dx fs)) (hsp : sp [.ref a] H (fun v H' => ∃ z : Nat, v = .int z ∧ (z : Int) < 2 ^ 62 ∧ P z H') E) :
    wpAny (model X.prog X.w) B (truthy (.ref a)) (fun b s' => ∃ (z : Nat) (H' : Hp), b = decide (z ≠ 0) ∧ Inv X pins σ H' s' ∧ P z H') X.xe s := by
  obtain ⟨mA, J, _⟩ := ins_get I.hok ha
  obtain ⟨od, J, _⟩ := J.look
  unfold truthy
  refine wpAny_bind (m := callSpecial? (.ref a) (Str.ofString "__bool__")) (wpAny_bind (wpAny_bind (J.type.here ((PySem.W.looks_findIn I.kIn hnb).here (wpAny_pure ?_)))))
  refine wpAny_bind (wpAny_bind (J.type.here ((PySem.W.looks_findIn I.kIn hm.at_).here ?_)))
  simp only [Option.isNone, Bool.false_eq_true, if_false]
  refine wpAny_bind (wpAny_mono (wpAny_runValue (Q := fun v s' => ∃ (z : Nat) (t : Tok) (H' : Hp), v = .int (z : Nat) t ∧ Inv X pins σ H' s' ∧ P z H') (codeAny_builtin entry_len ?_)) (fun r s' h' => ?_) fun _ _ e => e)
  · rw [Around.under_plainId plain_len _]
    exact wpAny_mono (len_body (B := B.in1) Fo hm hb hx hr.in1 hA I ha hsp) (fun fin s' h' => by obtain ⟨z, t, H', rfl, q⟩ := h'; exact ⟨z, t, H', rfl, q⟩) fun _ _ e => e
  · obtain ⟨z, t, H', rfl, I', q⟩ := h'
    refine wpAny_pure ⟨z, H', ?_, I', q⟩
    cases z with
    | zero => rfl
    | succ z => show (((z + 1 : Nat) : Int) != 0) = _; rw [decide_eq_true (by omega)]; exact bne_iff_ne.mpr (by omega)
theorem boolO_meets {CX : CXT} {C f : Addr} {fd : FuncData} {ps : List Str} {sp : Sp} {E : XK} {a dx : Addr} {fs : List (Str × V)} {pins : List (Addr × Obj)} {σ : L2.St} {P : Nat → Hp → Prop} (Fo : FnOk X.prog X.w X.K X.mg X.base CX n f fd ps sp) (hm : Meth X.K C "__len__" f) (hnb : PySem.W.findIn X.K (.ref C) "__bool__" = some none) (hb : Binds X.K fd ps []) (hx : Passes CX X E) (hr : Room (n + 3) X.A) :
    MeetsIn X.prog X.w (Builtin.«bool.__new__» ⟨[.type "bool", .ref a], []⟩) (fun A R s => A = X.A.in1 ∧ (∃ H, Inv X pins σ H s ∧ H a = some (.ins C dx fs) ∧ sp [.ref a] H (fun v H' => ∃ z : Nat, v = .int z ∧ (z : Int) < 2 ^ 62 ∧ P z H') E) ∧ (∀ (z : Nat) (H' : Hp) s', Inv X pins σ H' s' → P z H' → R (.ok (.ret (.bool (decide (z ≠ 0))))) s') ∧ ∀ e s', X.xe e s' → R (.error e) s') :=
  .of_wp fun A R s h => by
    obtain ⟨rfl, ⟨H, I, ha, hsp⟩, hR, hE⟩ := h
    have ht := truthyO (B := X.A.in1.in1) Fo hm hnb hb hx hr.in1.in1 rfl I ha hsp
    obtain ⟨hp, g, d, tk, os⟩ := s
    have f1 := F.conv_sub_bool
    repeat (any_goals (first | assumption | (with_reducible refine wpAny_mono ht (fun b s' hb => ?_) (fun e s' he => hE e s' he)) | wp_step))
    obtain ⟨z, H', rfl, I', q⟩ := hb
    repeat (any_goals (first | assumption | wp_step))
    exact ⟨_, rfl, hR z H' _ I' q⟩
def rBoolO (C : Addr) (sp : Sp) (E : XK) : List V → Hp → VK → Prop := fun vs H Q => ∃ (a dx : Addr) (fs : List (Str × V)), vs = [.ref a] ∧ H a = some (.ins C dx fs) ∧ sp [.ref a] H (fun v H' => ∃ z : Nat, v = .int z ∧ (z : Int) < 2 ^ 62 ∧ Q (.bl (decide (z ≠ 0))) H') E
theorem cr_boolO {CX : CXT} {C f : Addr} {fd : FuncData} {ps : List Str} {sp : Sp} {E : XK} (Fo : FnOk X.prog X.w X.K X.mg X.base CX n f fd ps sp) (hm : Meth X.K C "__len__" f) (hnb : PySem.W.findIn X.K (.ref C) "__bool__" = some none) (hb : Binds X.K fd ps []) (hx : Passes CX X E) (hr : Room (n + 3) X.A) : CallR X (.type "bool") (rBoolO C sp E) := by
  intro pins s σ H vs us Q I r h
  obtain ⟨a, dx, fs, rfl, ha, hsp⟩ := h
  rw [Vals.ref1 r]
  exact callType_newIn F.called_bool F.newNe_bool (F.typeCall_bool_1 _) (F.newCall_bool_1 _) (fun obj => F.args_object_init_2 obj _) F.entry_bool_new (boolO_meets (pins := pins) (σ := σ) (P := fun z H' => Q (.bl (decide (z ≠ 0))) H') Fo hm hnb hb hx hr) ⟨rfl, ⟨H, I, ha, hsp⟩, fun z H' s' I' q => ⟨rfl, .bl _, H', I', rfl, q⟩, fun e s' he => he⟩
theorem c_boolO {P : List D → Rs → Prop} {C : Addr} {ns ps : List Str} {fs : List D} {j k z : Nat} (G : M0 X.prog X.w X.K X.mg X.base C "__len__" j ps P) (hrf : Rf X.K C) (g : Gd k X) (hp : P [.obj C ns fs] (.sh (.int (z : Nat)))) (hz : (z : Int) < 2 ^ 62) (hk : j + 3 ≤ k := by decide) : CallS X (.type "bool") [.obj C ns fs] (.sh (.bl (decide (z ≠ 0)))) := by
  obtain ⟨f, fd, hm, b, Fo⟩ := G.ex
  refine ⟨_, cr_boolO (E := E0) Fo hm hrf.nb b passL (g.rm.mono hk), fun Γ F σ H S vs Q R r q => ?_⟩
  obtain ⟨v, rfl, rp⟩ := reps1 r
  obtain ⟨a, dx, ws, rfl, h1, h2, h3⟩ := id rp
  refine ⟨a, dx, _, rfl, R.sh _ _ h1, S, [_], .sh (.int (z : Nat)), hp, R.sh, .one rp, fun v H' S' t => ⟨z, t.res, hz, ?_⟩⟩
  obtain ⟨R2, ok2⟩ := R.after0 t
  exact q _ H' S' R2 t.ss rfl
end
end PL

set_option Elab.async false
set_option linter.all false
set_option maxRecDepth 100000
set_option maxHeartbeats 2000000
/-! b is not c of truths; bool(o) where o's class has neither __bool__ nor __len__ -/
namespace PL
open PySem PySem.Spec PyProof.Rows L2
section
variable {X : Cx} {n : Nat}
theorem op_isntB : OpR X (compareOp .IsNot) (fun x y H Q => ∃ a b, x = .bl a ∧ y = .bl b ∧ Q (.bl (!decide (a = b))) H) := by
  intro pins s σ H x y v u Q I rx ry h
  obtain ⟨a, b, rfl, rfl, q⟩ := h
  cases (show v = Value.bool a from rx)
  cases (show u = Value.bool b from ry)
  by_cases e : a = b
  · subst e
    exact wpAny_isNot_self rfl ⟨.bl false, H, I, rfl, by simpa using q⟩
  · exact wpAny_isNot_other rfl (fun z => e (Value.bool.inj z)) ⟨.bl true, H, I, rfl, by simpa [e] using q⟩
theorem o_isntB {a b : Bool} : OpS X (compareOp .IsNot) (.bl a) (.bl b) (.sh (.bl (!decide (a = b)))) := ops_sc op_isntB (.bl _) (fun _ => rfl) fun H S x y Q _ r1 r2 q => by
  obtain rfl : x = .bl a := r1
  obtain rfl : y = .bl b := r2
  exact ⟨a, b, rfl, rfl, q⟩
theorem truthyP {C a dx : Addr} {B : Around} {fs : List (Str × V)} {pins : List (Addr × Obj)} {σ : L2.St} {H : Hp} {s : Shared} {Q : Bool → Shared → Prop} (hnb : NoAttr X.K C "__bool__") (hnl : NoAttr X.K C "__len__") (I : Inv X pins σ H s) (ha : H a = some (.ins C dx fs)) (q : Q true s) :
    wpAny (model X.prog X.w) B (truthy (.ref a)) Q X.xe s := by
  obtain ⟨mA, J, _⟩ := ins_get I.hok ha
  obtain ⟨od, J, _⟩ := J.look
  unfold truthy
  refine wpAny_bind (m := callSpecial? (.ref a) (Str.ofString "__bool__")) (wpAny_bind (wpAny_bind (J.type.here ((PySem.W.looks_findIn I.kIn hnb).here (wpAny_pure ?_)))))
  refine wpAny_bind (wpAny_bind (J.type.here ((PySem.W.looks_findIn I.kIn hnl).here ?_)))
  simp only [Option.isNone, if_true]
  exact wpAny_pure q
theorem boolP_meets {C a dx : Addr} {fs : List (Str × V)} {pins : List (Addr × Obj)} {σ : L2.St} (hnb : NoAttr X.K C "__bool__") (hnl : NoAttr X.K C "__len__") :
    MeetsIn X.prog X.w (Builtin.«bool.__new__» ⟨[.type "bool", .ref a], []⟩) (fun A R s => A = X.A.in1 ∧ (∃ H, Inv X pins σ H s ∧ H a = some (.ins C dx fs)) ∧ R (.ok (.ret (.bool true))) s ∧ ∀ e s', X.xe e s' → R (.error e) s') :=
  .of_wp fun A R s h => by
    obtain ⟨rfl, ⟨H, I, ha⟩, hR, hE⟩ := h
    have ht : wpAny (model X.prog X.w) X.A.in1.in1 (truthy (.ref a)) (fun b s' => b = true ∧ s' = s) X.xe s := truthyP hnb hnl I ha ⟨rfl, rfl⟩
    obtain ⟨hp, g, d, tk, os⟩ := s
    have f1 := F.conv_sub_bool
    repeat (any_goals (first | assumption | (with_reducible refine wpAny_mono ht (fun b s' hb => ?_) (fun e s' he => hE e s' he)) | wp_step))
    obtain ⟨rfl, rfl⟩ := hb
    repeat (any_goals (first | assumption | wp_step))
    exact ⟨_, rfl, hR⟩
def rBoolP (C : Addr) : List V → Hp → VK → Prop := fun vs H Q => ∃ (a dx : Addr) (fs : List (Str × V)), vs = [.ref a] ∧ H a = some (.ins C dx fs) ∧ Q (.bl true) H
theorem cr_boolP {C : Addr} (hnb : NoAttr X.K C "__bool__") (hnl : NoAttr X.K C "__len__") : CallR X (.type "bool") (rBoolP C) := by
  intro pins s σ H vs us Q I r h
  obtain ⟨a, dx, fs, rfl, ha, hq⟩ := h
  rw [Vals.ref1 r]
  exact callType_newIn F.called_bool F.newNe_bool (F.typeCall_bool_1 _) (F.newCall_bool_1 _) (fun obj => F.args_object_init_2 obj _) F.entry_bool_new (boolP_meets (pins := pins) (σ := σ) hnb hnl) ⟨rfl, ⟨H, I, ha⟩, ⟨rfl, .bl _, H, I, rfl, hq⟩, fun e s' he => he⟩
theorem c_boolP {C : Addr} {ns : List Str} {fs : List D} (hnb : NoAttr X.K C "__bool__") (hnl : NoAttr X.K C "__len__") : CallS X (.type "bool") [.obj C ns fs] (.sh (.bl true)) := calls_sc (cr_boolP hnb hnl) (.bl true) (fun _ => rfl) fun H S vs Q s r q => by
  obtain ⟨v, rfl, rp⟩ := reps1 r
  obtain ⟨a, dx, ws, rfl, h1, h2, h3⟩ := id rp
  exact ⟨a, dx, _, rfl, s _ _ h1, q⟩
end
end PL

set_option Elab.async false
set_option linter.all false
set_option maxRecDepth 100000
set_option maxHeartbeats 1000000
namespace Hd
open PySem PySem.Spec PyProof.Rows L2 PL
section
variable {Pg : Program} {w : World} {K : PySem.W.Frag} {mg : Str → Option Value} {base : Heap}
/-! ### k06: alike, moved, unlike, others -/
theorem same_dR {X : Cx} {C : Addr} {xs ys : List Str} (hx : ∀ x ∈ xs, okS x) (hy : ∀ x ∈ ys, okS x) {pins : List (Addr × Obj)} {σ : L2.St} {H : Hp} {s : Shared} {v : V} (I : Inv X pins σ H s) (r1 : Rep X.K H (dR C xs) v) (r2 : Rep X.K H (dR C ys) v) : xs = ys := by
  obtain ⟨a, dx, ws, rfl, h1, h2, h3⟩ := r1
  obtain ⟨a', dx', ws', e, h1', h2', h3'⟩ := r2
  cases e
  obtain ⟨w, r, rfl, q1, q2⟩ := h3
  obtain ⟨w', r', rfl, q1', q2'⟩ := h3'
  rw [h1] at h1'
  have e2 : w = w' := by
    have e3 : HO.ins C dx ((["kept"] : List Str).zip (w :: r)) = HO.ins C dx' ((["kept"] : List Str).zip (w' :: r')) := Option.some.inj h1'
    injection e3 with _ _ e4
    have e5 : [(("kept" : Str), w)] = [(("kept" : Str), w')] := e4
    injection e5 with e6 _
    injection e6
  subst e2
  have hw : ∃ u, RelV w u := by
    obtain ⟨p, us, rfl, _⟩ := q1
    exact ⟨.ref p, rfl⟩
  exact tup_inj (rep_py I (cmp_dT hx) (cmp_dT hy) q1 q1' hw)
theorem lb_mov {ts : List Str} (h : Prim ts) (b : Int) : lb ts = lb (movL ts b) := (lb_iff h (movL_prim h b)).mpr ⟨b, fun i => movL_cyc h.1 b i⟩
def P_alk06 (C : Addr) : List D → Rs → Prop := fun ds r => ∃ ts, Rok 240 ts ∧ ds = [dR C ts, dR C ts] ∧ r = .sh (.bl true)
theorem c_alk06 (C : Addr) (Dd : Df K mg "_law_alike" s__law_alike []) (T : Bt mg) (hC : Cls K C) (hE : Nf K C) (G_eq : M0 Pg w K mg base C "__eq__" 2 ["self", "other"] (P_eqR C)) (G_alike : M0 Pg w K mg base C "alike" 1 ["self", "other"] (P_alike C)) (G_len : M0 Pg w K mg base C "__len__" 1 ["self"] (P_len C)) (G_strR : M0 Pg w K mg base C "__str__" 2 ["self"] (P_strR C)) (G_repr : M0 Pg w K mg base C "__repr__" 2 ["self"] (P_reprR C)) (G_threads : M0 Pg w K mg base C "threads" 1 ["self"] (P_threads C)) (G_srow : C0 Pg w K mg base "show_row" 2 ["row"] (P_srow C)) : C0 Pg w K mg base "_law_alike" 5 ["_law_one", "_law_other"] (P_alk06 C) := by
  refine c0_mk (k := 4) Dd sc__law_alike (fun _ _ _ _ _ _ us hl => match us, hl with | [_, _], _ => rfl) (by decide) (fun ds r => ?_) (fun f cd A outer s H E g ds r => ?_)
  · rintro ⟨ts, _, rfl, rfl⟩
    exact ⟨rfl, fun _ z => by cases z⟩
  · rintro ⟨ts, h, rfl, rfl⟩
    have hl := h.len
    have o1 : ∀ x ∈ ts, okS x := h.shs.ok
    have pe : P_eqR C [dR C ts, dR C ts] (.sh (.bl true)) := ⟨ts, h, .inl ⟨ts, h, rfl, by rw [decide_eq_true rfl]⟩⟩
    have ps : P_strR C [dR C ts] (.sh (.str (textS (mrg (lb ts))))) := ⟨ts, h, rfl, rfl⟩
    have pr : P_reprR C [dR C ts] (.sh (.str (reprT ts))) := ⟨ts, h, rfl, rfl⟩
    have psr : P_srow C [dR C ts] (.sh (.str (textS (mrg ts)))) := ⟨ts, h, rfl, rfl⟩
    have hit : ∀ (i : Nat) d b, [dR C ts][i]? = some d → [true][i]? = some b → EqG (cx Pg w K mg base N__law_alike "_law_alike" (defScope s__law_alike) f cd A outer s H E) (dR C ts) d b := fun i d b e1 e2 => by
      rcases (by
        have := (List.getElem?_eq_some_iff.mp e1).1
        simp at this
        omega : i = 0) with rfl
      cases e1; cases e2
      exact eqg_own G_eq hE g (.inl ⟨_, _, rfl⟩) pe fun pins σ H s v I r1 r2 => rfl
    apply ends_rt
    refine s_ifN (t_w (w_orF (t_eq (t_cmp (o_ownNe G_eq hE g (.inl ⟨_, _, rfl⟩) pe) (e_var 0) (e_var 1)) rfl) (w_orF (t_eq (t_not (t_cmp (o_own G_eq hE g (.inl ⟨_, _, rfl⟩) pe) (e_var 0) (e_var 1))) rfl) (w_orF (t_eq (t_not (t_val (e_m0 G_alike hC g (e_var 0) (a_cons (e_var 1) a_nil) ⟨ts, ts, h.shs, h.shs, rfl, rfl⟩))) (by rw [decide_eq_true rfl]; rfl)) (w_orF (t_eq (t_cmp (o_ninG (bs := [true]) rfl hit) (e_var 0) (e_fz (e_lst (a_cons (e_var 1) a_nil)))) rfl) (w_or1 (t_eq (t_cmp o_neI (e_cntG (bs := [true]) rfl hit (e_fz (e_lst (a_cons (e_var 1) a_nil))) (e_var 0)) e_int) (by decide)))))))) ?_
    refine s_ifN (t_w (w_orF (t_eq (t_cmp o_neI (e_callB (c_lenO G_len g (z := ts.length) ⟨ts, rfl, rfl⟩ (by omega)) T.len b_len (a_cons (e_var 0) a_nil)) (e_callB (c_lenO G_len g (z := ts.length) ⟨ts, rfl, rfl⟩ (by omega)) T.len b_len (a_cons (e_var 1) a_nil))) (by rw [decide_eq_true rfl]; rfl)) (w_orF (t_eq (t_cmp o_neS (e_callTy (c_strO G_strR g ps) T.str b_str (a_cons (e_var 0) a_nil)) (e_callTy (c_strO G_strR g ps) T.str b_str (a_cons (e_var 1) a_nil))) (by rw [decide_eq_true rfl]; rfl)) (w_or1 (t_eq (t_cmp o_neS (e_callB (c_reprO G_repr g pr) T.repr b_repr (a_cons (e_var 0) a_nil)) (e_callB (c_reprO G_repr g pr) T.repr b_repr (a_cons (e_var 1) a_nil))) (by rw [decide_eq_true rfl]; rfl)))))) ?_
    exact s_one (s1_ret (e_andT (e_eq (e_cmp (o_eqT (xs := ts) (ys := ts) g.rm.units o1 o1) (e_m00 G_threads hC g (e_var 0) ⟨ts, rfl, rfl⟩) (e_m00 G_threads hC g (e_var 1) ⟨ts, rfl, rfl⟩)) (by rw [decide_eq_true rfl])) (e_one (e_eq (e_cmp o_eqS (e_c0 G_srow g (a_cons (e_var 0) a_nil) psr) (e_c0 G_srow g (a_cons (e_var 1) a_nil) psr)) (by rw [decide_eq_true rfl])))))
def P_mvr06 (C : Addr) : List D → Rs → Prop := fun ds r => ∃ ts b, Rok 240 ts ∧ Spot b ∧ ds = [dR C ts, .int b] ∧ r = .sh (.bl true)
theorem c_mvr06 (C : Addr) (Dd : Df K mg "_law_moved_right" s__law_moved_right []) (T : Bt mg) (hC : Cls K C) (hE : Nf K C) (G_eq : M0 Pg w K mg base C "__eq__" 2 ["self", "other"] (P_eqR C)) (G_alike : M0 Pg w K mg base C "alike" 1 ["self", "other"] (P_alike C)) (G_len : M0 Pg w K mg base C "__len__" 1 ["self"] (P_len C)) (G_strR : M0 Pg w K mg base C "__str__" 2 ["self"] (P_strR C)) (G_moved : M0 Pg w K mg base C "moved" 9 ["self", "by"] (P_moved C)) : C0 Pg w K mg base "_law_moved_right" 10 ["_law_row", "_law_by"] (P_mvr06 C) := by
  refine c0_mk (k := 9) Dd sc__law_moved_right (fun _ _ _ _ _ _ us hl => match us, hl with | [_, _], _ => rfl) (by decide) (fun ds r => ?_) (fun f cd A outer s H E g ds r => ?_)
  · rintro ⟨ts, b, _, _, rfl, rfl⟩
    exact ⟨rfl, fun _ z => by cases z⟩
  · rintro ⟨ts, b, h, hb, rfl, rfl⟩
    have hl := h.len
    have h0 := h.pos
    have hm := mov_ok h b
    have hml := movL_len ts b
    have elb := lb_mov h.prim b
    have ems := mov_same h.prim b
    have pm : P_moved C [dR C ts, .int b] (.ow (oR C (movL ts b))) := ⟨ts, b, h.shs, h.prim, h.len, hb, rfl, rfl⟩
    obtain ⟨V, hV⟩ : ∃ V, V = movL ts b := ⟨_, rfl⟩
    rw [← hV] at hm hml elb ems pm
    have pe : P_eqR C [dR C V, dR C ts] (.sh (.bl true)) := ⟨V, hm, .inl ⟨ts, h, rfl, by rw [elb, decide_eq_true rfl]⟩⟩
    have ps1 : P_strR C [dR C V] (.sh (.str (textS (mrg (lb V))))) := ⟨V, hm, rfl, rfl⟩
    have ps2 : P_strR C [dR C ts] (.sh (.str (textS (mrg (lb V))))) := ⟨ts, h, rfl, by rw [elb]⟩
    have hit : ∀ (i : Nat) d b, [dR C V][i]? = some d → [true][i]? = some b → EqG (cx Pg w K mg base N__law_moved_right "_law_moved_right" (defScope s__law_moved_right) f cd A outer s H E) (dR C ts) d b := fun i d b e1 e2 => by
      rcases (by
        have := (List.getElem?_eq_some_iff.mp e1).1
        simp at this
        omega : i = 0) with rfl
      cases e1; cases e2
      exact eqg_own G_eq hE g (.inl ⟨_, _, rfl⟩) pe fun pins σ H s v I r1 r2 => rfl
    apply ends_rt
    refine s_cons (Γ1 := [.sh (dR C ts), .sh (.int b), .sh (dR C V)]) (s1_set 2 g.nd (e_fo (e_m0 G_moved hC g (e_var 0) (a_cons (e_var 1) a_nil) pm))) ?_
    refine s_ifN (t_w (w_orF (t_eq (t_cmp (o_ownNe G_eq hE g (.inl ⟨_, _, rfl⟩) pe) (e_var 2) (e_var 0)) rfl) (w_orF (t_eq (t_cmp o_neS (e_callTy (c_strO G_strR g ps1) T.str b_str (a_cons (e_var 2) a_nil)) (e_callTy (c_strO G_strR g ps2) T.str b_str (a_cons (e_var 0) a_nil))) (by rw [decide_eq_true rfl]; rfl)) (w_orF (t_eq (t_cmp o_neI (e_callB (c_lenO G_len g (z := V.length) ⟨V, rfl, rfl⟩ (by omega)) T.len b_len (a_cons (e_var 2) a_nil)) (e_callB (c_lenO G_len g (z := ts.length) ⟨ts, rfl, rfl⟩ (by omega)) T.len b_len (a_cons (e_var 0) a_nil))) (by rw [hml, decide_eq_true rfl]; rfl)) (w_or1 (t_eq (t_cmp (o_ninG (bs := [true]) rfl hit) (e_var 0) (e_fz (e_lst (a_cons (e_var 2) a_nil)))) rfl)))))) ?_
    exact s_one (s1_ret (e_eq (e_cmp o_eqB (e_m0 G_alike hC g (e_var 2) (a_cons (e_var 0) a_nil) ⟨V, ts, hm.shs, h.shs, rfl, rfl⟩) (e_cmp o_eqI (e_bin (o_mod (j := (ts.length : Int)) (by omega)) (e_var 1) (e_callB (c_lenO G_len g (z := ts.length) ⟨ts, rfl, rfl⟩ (by omega)) T.len b_len (a_cons (e_var 0) a_nil))) e_int)) (by rw [ems, decide_eq_true rfl])))
def P_unl06 (C : Addr) : List D → Rs → Prop := fun ds r => ∃ ts us, Rok 240 ts ∧ Rok 240 us ∧ lb ts ≠ lb us ∧ ds = [dR C ts, dR C us] ∧ r = .sh (.bl true)
theorem c_unl06 (C : Addr) (Dd : Df K mg "_law_unlike" s__law_unlike []) (T : Bt mg) (hC : Cls K C) (hE : Nf K C) (G_eq : M0 Pg w K mg base C "__eq__" 2 ["self", "other"] (P_eqR C)) (G_alike : M0 Pg w K mg base C "alike" 1 ["self", "other"] (P_alike C)) (G_strR : M0 Pg w K mg base C "__str__" 2 ["self"] (P_strR C)) : C0 Pg w K mg base "_law_unlike" 5 ["_law_one", "_law_other"] (P_unl06 C) := by
  refine c0_mk (k := 4) Dd sc__law_unlike (fun _ _ _ _ _ _ us hl => match us, hl with | [_, _], _ => rfl) (by decide) (fun ds r => ?_) (fun f cd A outer s H E g ds r => ?_)
  · rintro ⟨ts, us, _, _, _, rfl, rfl⟩
    exact ⟨rfl, fun _ z => by cases z⟩
  · rintro ⟨ts, us, h, h', hne, rfl, rfl⟩
    have o1 : ∀ x ∈ ts, okS x := h.shs.ok
    have o2 : ∀ x ∈ us, okS x := h'.shs.ok
    have pe : P_eqR C [dR C ts, dR C us] (.sh (.bl false)) := ⟨ts, h, .inl ⟨us, h', rfl, by rw [decide_eq_false hne]⟩⟩
    have ps1 : P_strR C [dR C ts] (.sh (.str (textS (mrg (lb ts))))) := ⟨ts, h, rfl, rfl⟩
    have ps2 : P_strR C [dR C us] (.sh (.str (textS (mrg (lb us))))) := ⟨us, h', rfl, rfl⟩
    have hst : decide (textS (mrg (lb ts)) = textS (mrg (lb us))) = false := decide_eq_false fun e => hne ((str_iff (Nat.le_refl _) h h').mp e)
    have htu : decide (ts = us) = false := decide_eq_false fun e => hne (by rw [e])
    have hit : ∀ (i : Nat) d b, [dR C ts][i]? = some d → [false][i]? = some b → EqG (cx Pg w K mg base N__law_unlike "_law_unlike" (defScope s__law_unlike) f cd A outer s H E) (dR C us) d b := fun i d b e1 e2 => by
      rcases (by
        have := (List.getElem?_eq_some_iff.mp e1).1
        simp at this
        omega : i = 0) with rfl
      cases e1; cases e2
      exact eqg_own G_eq hE g (.inl ⟨_, _, rfl⟩) pe fun pins σ H s v I r1 r2 => (hne (by rw [same_dR o1 o2 I r1 r2])).elim
    exact ends_rt (s_one (s1_ret (e_andT (e_cmp (o_ownNe G_eq hE g (.inl ⟨_, _, rfl⟩) pe) (e_var 0) (e_var 1)) (e_andT (e_not (e_cmp (o_own G_eq hE g (.inl ⟨_, _, rfl⟩) pe) (e_var 0) (e_var 1))) (e_andT (e_cmp (o_ninG (bs := [false]) rfl hit) (e_var 1) (e_fz (e_lst (a_cons (e_var 0) a_nil)))) (e_andT (e_eq (e_cmp o_neS (e_callTy (c_strO G_strR g ps1) T.str b_str (a_cons (e_var 0) a_nil)) (e_callTy (c_strO G_strR g ps2) T.str b_str (a_cons (e_var 1) a_nil))) (by rw [hst]; rfl)) (e_one (e_eq (e_not (e_m0 G_alike hC g (e_var 0) (a_cons (e_var 1) a_nil) ⟨ts, us, h.shs, h'.shs, rfl, rfl⟩)) (by rw [htu]; rfl)))))))))
end
end Hd

set_option Elab.async false
set_option linter.all false
set_option maxRecDepth 100000
set_option maxHeartbeats 1000000
namespace Hd
open PySem PySem.Spec PyProof.Rows L2 PL
section
variable {Pg : Program} {w : World} {K : PySem.W.Frag} {mg : Str → Option Value} {base : Heap}
/-! ### k06: the same row told in other ways -/
theorem dP_inj : ∀ {a b : List (Str × Int)}, a.map dP = b.map dP → a = b
  | [], [], _ => rfl
  | [], _ :: _, h => by cases h
  | _ :: _, [], h => by cases h
  | (x, i) :: a, (y, j) :: b, h => by
    injection h with h1 h2
    injection h1 with h3
    injection h3 with h4 h5
    injection h4 with h6
    injection h5 with h7 _
    injection h7 with h8
    obtain rfl : x = y := h6
    obtain rfl : i = j := h8
    rw [dP_inj h2]
theorem dS_inj {a b : List (Str × Int)} (h : [dS a] = [dS b]) : a = b := by
  injection h with h1 _
  injection h1 with h2
  exact dP_inj h2
theorem rotS6 {ts : List Str} (k : Nat) : cutL ts (some (k : Int)) none ++ cutL ts none (some (k : Int)) = rot ts k := by rw [cut_from, cut_to]; rfl
theorem rot_shs6 {ts : List Str} (h : Shs ts) (k : Nat) : Shs (rot ts k) := fun t ht => by
  rcases List.mem_append.mp ht with z | z
  · exact h t (List.mem_of_mem_drop z)
  · exact h t (List.mem_of_mem_take z)
def pre_tell : List D → Prop := fun ds => ∃ ps m st, OkSt ps ∧ tot ps ≤ 18 ∧ -20 ≤ st ∧ st ≤ 20 ∧ ds = [dL (thr ps), .str (Mnr.s m), .int st, dL (rowK ps m st)]
def post_tell (C : Addr) : List D → Rs → Prop := fun ds r => ∃ a b c W k, ds = [a, b, c, dL W] ∧ k ≤ 7 ∧ r = .sh (.lst (List.replicate k (dR C W)))
set_option maxHeartbeats 8000000 in
theorem c_tell06 (C : Addr) (Dd : Df K mg "_law_tellings" s__law_tellings []) (T : Bt mg) (G_take : C1 Pg w K mg base "_law_take" 1 ["_law_pool_here", "_law_many"] P_take) (G_sof : C0 Pg w K mg base "_law_merged" 1 ["_law_words"] P_sof) (G_spl : Cp Pg w K mg base "_law_split" 2 ["_law_pool_here", "_law_parts"] pre_spl post_spl) (G_end : C0 Pg w K mg base "_law_from_the_end" 1 ["_law_words", "_law_tack", "_law_begun"] P_end06) (G_word : C0 Pg w K mg base "_law_word" 1 ["_law_words", "_law_tack"] P_word) (G_Row : K1 Pg w K mg base "Row" C 6 ["self", "stripes", "manner", "start"] [[], [.str "run", .int 0]] (P_init C)) (G_kw : RowKw Pg w K mg base C) : Cp Pg w K mg base "_law_tellings" 8 ["_law_pool_here", "_law_words", "_law_tack", "_law_begun", "_law_due_here"] pre_tell (post_tell C) := by
  obtain ⟨PS, GS, hPS⟩ := G_spl.ex
  obtain ⟨fR, fdR, k1, k2, k3, _, _, kC, _⟩ := G_kw.ex
  refine cp_mk (k := 7) Dd sc__law_tellings (fun _ _ _ _ _ _ us hl => match us, hl with | [_, _, _, _, _], _ => rfl) (by decide) (fun ds ⟨_, _, _, _, _, _, _, h⟩ => by rw [h]; rfl) (fun n ds h => ?_)
  obtain ⟨ps, m, st, hps, htot, hs0, hs1, rfl⟩ := h
  have hz := big2000
  have hB : BIG = 1000000000000000000000000000000 := rfl
  have big : (10 : Int) ^ 40 ≥ 240 := by decide +kernel
  have hXl : (thr ps).length ≤ 18 := by
    have h1 := thr_len fun p hp => (hps.ok p hp).2
    omega
  have hX0 : 0 < (thr ps).length := by
    obtain ⟨q, r, hq⟩ := List.exists_cons_of_ne_nil hps.ne
    have h4 := (hps.ok q (by rw [hq]; exact List.mem_cons_self)).2
    rw [hq]
    show 0 < (List.replicate q.2.toNat q.1 ++ thr r).length
    rw [List.length_append, List.length_replicate]; omega
  have hXs : Shs (thr ps) := fun t ht => by
    obtain ⟨q, hq, hr⟩ := List.mem_flatMap.mp ht
    rw [List.eq_of_mem_replicate hr]
    exact (hps.ok q hq).1
  have hlay : (layW m (thr ps)).length ≤ 36 := by
    have := layW_len m (thr ps)
    omega
  obtain ⟨r1, r2, r3, _⟩ := rowK_ok hps m st (by omega)
  have hl0 := lay_pos (m := m) hX0
  have hcyc : ∀ i, cyc (layW m (thr ps)) (i + st) = cyc (rowK ps m st) i := fun i => by
    show _ = cyc (spin _ _ _) i
    rw [cyc_spin (lr_pos hl0) (lr_le _) (lr_spec hl0).2.1]
  have r4 : (rowK ps m st).length ≤ 36 := by
    have := lr_le (layW m (thr ps))
    show (spin _ _ _).length ≤ 36
    rw [spin_len]; omega
  have hlw := lawW_le m (thr ps)
  have ht6 := fun i => tell_again m hX0 st i
  have he6 := fun (hm : m ≠ Mnr.run) i => end_cyc hm hX0 st i
  obtain ⟨W, hW⟩ : ∃ W, W = rowK ps m st := ⟨_, rfl⟩
  rw [← hW] at r1 r2 r4 hcyc ⊢
  obtain ⟨X, hX⟩ : ∃ X, X = thr ps := ⟨_, rfl⟩
  rw [← hX] at hXl hX0 hXs hlay hlw hcyc ht6 he6 ⊢
  clear hW hX r3 hl0
  have w0 := r1.1
  have oW : ∀ x ∈ W, okS x := r2.ok
  have oX : ∀ x ∈ X, okS x := hXs.ok
  have gen : ∀ (Y : List Str) (m' : Mnr) (st' : Int), Shs Y → 0 < Y.length → Y.length ≤ 120 → Spot st' → (∀ i, cyc (layW m' Y) (i + st') = cyc W i) → ∀ qs, OkSt qs → thr qs = Y → P_init C (.ins C [] []) [dS qs, .str m'.s, .int st'] (.sh .non) (oR C W) := fun Y m' st' hs h0 hl sp hc qs hq ht => by
    have hll := layW_len m' Y
    exact init_gen C hq (by rw [ht]; omega) sp r1 (by rw [ht]; exact hc)
  have sp0 : Spot 0 := ⟨by decide, by decide⟩
  have id0 : ∀ i, cyc (layW .run W) (i + 0) = cyc W i := fun i => by rw [Int.add_zero]; rfl
  have okW := mrg_ok r2 w0 (by omega)
  have okX := mrg_ok hXs hX0 (by omega)
  have pin1 := gen W .run 0 r2 w0 (by omega) sp0 id0 (W.map fun x => (x, (1 : Int))) (ok1 w0 (by omega) r2) (thr1 W)
  have pin2 := gen W .run 0 r2 w0 (by omega) sp0 id0 (mrg W) okW (mrg_thr W).1
  obtain ⟨_, n1, ⟨ps1, qs1, e1, hq1, ht1, rfl⟩, hS1⟩ := hPS n [dS (mrg W)] ⟨mrg W, okW, rfl⟩
  rw [← dS_inj e1, (mrg_thr W).1] at ht1
  have pin3 := gen W .run 0 r2 w0 (by omega) sp0 id0 qs1 hq1 ht1
  have b0 := Int.emod_nonneg n1 (b := 2) (by decide)
  have b1 := Int.emod_lt_of_pos n1 (b := 2) (by decide)
  obtain ⟨kk, hkk⟩ : ∃ kk : Nat, kk = (2 + n1 % 2).toNat := ⟨_, rfl⟩
  obtain ⟨Z, hZ⟩ : ∃ Z, Z = (List.replicate kk W).flatten := ⟨_, rfl⟩
  have hZs : Shs Z := fun t ht => by
    rw [hZ] at ht
    obtain ⟨l, hl, htl⟩ := List.mem_flatten.mp ht
    rw [List.eq_of_mem_replicate hl] at htl
    exact r2 t htl
  have hZl : Z.length = kk * W.length := by
    rw [hZ]
    clear hZ hZs hkk
    induction kk with
    | zero => rw [Nat.zero_mul]; rfl
    | succ k ih => rw [List.replicate_succ, List.flatten_cons, List.length_append, ih, Nat.succ_mul]; omega
  have hZ3 : Z.length ≤ 108 := by
    rw [hZl]
    exact Nat.le_trans (Nat.mul_le_mul (show kk ≤ 3 by omega) r4) (by decide)
  have hZ0 : 0 < Z.length := by
    rw [hZl]
    exact Nat.mul_pos (by omega) w0
  have pin4 := gen Z .run 0 hZs hZ0 (by omega) sp0 (fun i => by
    rw [Int.add_zero]
    show cyc Z i = _
    rw [hZ, rep_cyc w0 (by omega)]) (mrg Z) (mrg_ok hZs hZ0 (by omega)) (mrg_thr Z).1
  obtain ⟨n2, hn2⟩ : ∃ n2, n2 = n1 / 2 := ⟨_, rfl⟩
  have c0 := Int.emod_nonneg n2 (b := (W.length : Int)) (by omega)
  have c1 := Int.emod_lt_of_pos n2 (b := (W.length : Int)) (by omega)
  obtain ⟨at', hat⟩ : ∃ k : Nat, (k : Int) = n2 % (W.length : Int) := ⟨(n2 % (W.length : Int)).toNat, by omega⟩
  have hal : at' < W.length := by omega
  obtain ⟨n3, hn3⟩ : ∃ n3, n3 = n2 / (W.length : Int) := ⟨_, rfl⟩
  have hRl : (rot W at').length = W.length := rot_len W (by omega)
  have pin5 := gen (rot W at') .run (0 - (at' : Int)) (rot_shs6 r2 at') (by omega) (by omega) ⟨by omega, by omega⟩ (fun i => by
    show cyc (rot W at') _ = _
    rw [rot_cyc hal]; congr 1; omega) (mrg (rot W at')) (mrg_ok (rot_shs6 r2 at') (by omega) (by omega)) (mrg_thr _).1
  obtain ⟨_, n4, ⟨ps2, qs2, e2, hq2, ht2, rfl⟩, hS2⟩ := hPS n3 [dS (mrg X)] ⟨mrg X, okX, rfl⟩
  rw [← dS_inj e2, (mrg_thr X).1] at ht2
  have pin6 := gen X m (st + ((lawW m X).length : Int)) hXs hX0 (by omega) ⟨by omega, by omega⟩ (fun i => (ht6 i).trans (hcyc i)) qs2 hq2 ht2
  have hXr : Shs X.reverse := fun t ht => hXs t (List.mem_reverse.mp ht)
  have hXrl : X.reverse.length = X.length := List.length_reverse
  have hek : endK m X.length ≤ X.length := by cases m <;> simp [endK]
  have pin7 : m ≠ Mnr.run → P_init C (.ins C [] []) [dS (mrg X.reverse), .str (endM m).s, .int (st - (endK m X.length : Int))] (.sh .non) (oR C W) := fun hm => gen X.reverse (endM m) _ hXr (by omega) (by omega) ⟨by omega, by omega⟩ (fun i => (he6 hm i).trans (hcyc i)) (mrg X.reverse) (mrg_ok hXr (by omega) (by omega)) (mrg_thr _).1
  have psW : P_sof [dL W] (.sh (dS (mrg W))) := ⟨W, oW, by omega, .inl rfl, rfl⟩
  have psX : P_sof [dL X] (.sh (dS (mrg X))) := ⟨X, oX, by omega, .inl rfl, rfl⟩
  have psZ : P_sof [dL Z] (.sh (dS (mrg Z))) := ⟨Z, hZs.ok, by omega, .inl rfl, rfl⟩
  have psR : P_sof [dL (rot W at')] (.sh (dS (mrg (rot W at')))) := ⟨_, (rot_shs6 r2 at').ok, by omega, .inl rfl, rfl⟩
  have psE : P_sof [dL X.reverse] (.sh (dS (mrg X.reverse))) := ⟨_, hXr.ok, by omega, .inl rfl, rfl⟩
  have pw : P_word [dL X, .str (Mnr.s m)] (.sh (dL (lawW m X))) := ⟨m, X, by omega, rfl, rfl⟩
  have hones : (List.range (W.map D.str).length).map (fun j => dP (W.getD j default, (1 : Int))) = (W.map fun x => (x, (1 : Int))).map dP := by
    rw [List.length_map, List.map_map]; exact range_getD W (fun x => dP (x, (1 : Int)))
  have dv : ∀ S, Reps K S [D.str "run", .int 0] [V.str "run", .int 0] := fun S => .cons rfl (.cons rfl .nil)
  have hZe : ((List.replicate (2 + n1 % 2).toNat W).flatten).map D.str = Z.map D.str := by rw [hZ, hkk]
  have pre : ∀ f cd A outer s H E, Gd 7 (cx Pg w K mg base N__law_tellings "_law_tellings" (defScope s__law_tellings) f cd A outer s H E) → ∀ p (q : Out), SX (cx Pg w K mg base N__law_tellings "_law_tellings" (defScope s__law_tellings) f cd A outer s H E) [.pr p (po n4), .sh (dL X), .sh (.str (Mnr.s m)), .sh (.int st), .sh (dL W), .ow (.lst [dR C W, dR C W, dR C W, dR C W, dR C W, dR C W]), .sh (.int (at' : Nat)), .un, .un] ((defBody s__law_tellings).drop 6) q → SX (cx Pg w K mg base N__law_tellings "_law_tellings" (defScope s__law_tellings) f cd A outer s H E) [.pr p (po n), .sh (dL X), .sh (.str (Mnr.s m)), .sh (.int st), .sh (dL W), .un, .un, .un, .un] (defBody s__law_tellings) q := by
    intro f cd A outer s H E g p q hh
    refine s_cons (Γ1 := [.pr p (po n), .sh (dL X), .sh (.str (Mnr.s m)), .sh (.int st), .sh (dL W), .ow (.lst [dR C W, dR C W]), .un, .un, .un]) ?_ ?_
    · refine s1_set 5 g.nd (e_lst (a_cons (e_fo (e_k1 (ds := [dS (W.map fun x => (x, (1 : Int)))]) (dds := [.str "run", .int 0]) [.str "run", .int 0] G_Row g (a_cons (e_callTy c_tupL T.tuple b_tuple (a_cons (e_fz (e_eq (e_lc1 8 (fun j => dP (W.getD j default, (1 : Int))) g (it_list (ds := W.map D.str) (e_var 4)) (by rw [List.length_map]; omega) (blkOk_by (N := N__law_tellings) (sc := defScope s__law_tellings) (by decide +kernel)) rfl (fun j hj s1 H1 C1 cl fp => ?_)) (congrArg (fun z => Rs.ow (Ob.lst z)) hones))) a_nil)) a_nil) pin1 (fun S => .cons rfl (.cons rfl .nil)) (by simp))) (a_cons (e_fo (e_k1 (ds := [dS (mrg W), .str Mnr.run.s, .int 0]) (dds := []) [] G_Row g (a_cons (e_c0 G_sof g (a_cons (e_var 4) a_nil) psW) (a_cons e_str (a_cons e_int a_nil))) pin2 (fun S => .nil) (by simp))) a_nil)))
      have hj' : j < W.length := by rw [List.length_map] at hj; exact hj
      rw [itd_map D.str W j hj', List.getD_eq_getElem?_getD, List.getElem?_eq_getElem hj']
      exact e_tup (a_cons (e_var 8) (a_cons e_int a_nil))
    refine s_cons (Γ1 := [.pr p (po n1), .sh (dL X), .sh (.str (Mnr.s m)), .sh (.int st), .sh (dL W), .ow (.lst [dR C W, dR C W, dR C W]), .un, .un, .un]) (s1_eq (s1_expr (e_append (i := 5) (e_fo (e_k1 (ds := [dS qs1]) (dds := [.str "run", .int 0]) [.str "run", .int 0] G_Row g (a_cons (e_c1 0 GS g has_pr (a_cons (e_c0 G_sof g (a_cons (e_var 4) a_nil) psW) a_nil) has_pr hS1) a_nil) pin3 (fun S => .cons rfl (.cons rfl .nil)) (by simp))) ⟨_, _, has_ow, _, rfl⟩ has_ow (by show 2 < sizeLine; omega))) rfl) ?_
    refine s_cons (Γ1 := [.pr p (po n2), .sh (dL X), .sh (.str (Mnr.s m)), .sh (.int st), .sh (dL W), .ow (.lst [dR C W, dR C W, dR C W, dR C W]), .un, .un, .un]) (s1_eq (s1_expr (e_append (i := 5) (e_fo (e_k1 (ds := [dS (mrg Z)]) (dds := [.str "run", .int 0]) [.str "run", .int 0] G_Row g (a_cons (e_c0 G_sof g (a_cons (e_fz (e_eq (e_bin (o_repS (xs := W) (k := 2 + n1 % 2) (by omega) (by omega) (by omega)) (e_var 4) (e_bin o_addI e_int (e_c1 0 G_take g has_pr (a_cons e_int a_nil) has_pr (by rw [hn2]; exact tk06 (by decide) (by decide) : P_take (po n1) [.int 2] (.sh (.int (n1 % 2))) (po n2))))) (congrArg (fun z => Rs.ow (Ob.lst z)) hZe))) a_nil) psZ) a_nil) pin4 (fun S => .cons rfl (.cons rfl .nil)) (by simp))) ⟨_, _, has_ow, _, rfl⟩ has_ow (by show 3 < sizeLine; omega))) rfl) ?_
    refine s_cons (Γ1 := [.pr p (po n3), .sh (dL X), .sh (.str (Mnr.s m)), .sh (.int st), .sh (dL W), .ow (.lst [dR C W, dR C W, dR C W, dR C W]), .sh (.int (at' : Nat)), .un, .un]) (by rw [hn3, hat]; exact s1_set 6 g.nd (e_c1 0 G_take g has_pr (a_cons (e_eq (e_callB (c_lenL (ds := W.map D.str)) T.len b_len (a_cons (e_var 4) a_nil)) (by rw [List.length_map])) a_nil) has_pr (tk06 (m := (W.length : Int)) (by omega) (by omega)))) ?_
    refine s_cons (Γ1 := [.pr p (po n3), .sh (dL X), .sh (.str (Mnr.s m)), .sh (.int st), .sh (dL W), .ow (.lst [dR C W, dR C W, dR C W, dR C W, dR C W]), .sh (.int (at' : Nat)), .un, .un]) (s1_eq (s1_expr (e_append (i := 5) (e_fo (e_mkw (ds := [dS (mrg (rot W at'))]) (fs := [.str "run", .int 0]) k2 k3 k1 kC (by decide) g dv (a_cons (e_c0 G_sof g (a_cons (e_fz (e_eq (e_bin (o_dLcat (xs := cutL W (some (at' : Int)) none) (ys := cutL W none (some (at' : Int))) (by rw [cut_from, cut_to, List.length_drop, List.length_take]; omega)) (e_fz (e_slice l_dL (e_var 4) (p_some (e_var 6)) p_none)) (e_fz (e_slice l_dL (e_var 4) p_none (p_some (e_var 6))))) (by rw [rotS6]))) a_nil) psR) a_nil) (k_cons (e_bin o_subI e_int (e_var 6)) k_nil) pin5)) ⟨_, _, has_ow, _, rfl⟩ has_ow (by show 4 < sizeLine; omega))) rfl) ?_
    exact s_cons (Γ1 := [.pr p (po n4), .sh (dL X), .sh (.str (Mnr.s m)), .sh (.int st), .sh (dL W), .ow (.lst [dR C W, dR C W, dR C W, dR C W, dR C W, dR C W]), .sh (.int (at' : Nat)), .un, .un]) (s1_eq (s1_expr (e_append (i := 5) (e_fo (e_k1 (ds := [dS qs2, .str (Mnr.s m), .int (st + ((lawW m X).length : Int))]) (dds := []) [] G_Row g (a_cons (e_c1 0 GS g has_pr (a_cons (e_c0 G_sof g (a_cons (e_var 1) a_nil) psX) a_nil) has_pr hS2) (a_cons (e_var 2) (a_cons (e_bin o_addI (e_var 3) (e_eq (e_callB (c_lenL (ds := (lawW m X).map D.str)) T.len b_len (a_cons (e_c0 G_word g (a_cons (e_var 1) (a_cons (e_var 2) a_nil)) pw) a_nil)) (by rw [List.length_map]))) a_nil))) pin6 (fun S => .nil) (by simp))) ⟨_, _, has_ow, _, rfl⟩ has_ow (by show 5 < sizeLine; omega))) rfl) hh
  by_cases hm : m = Mnr.run
  · subst hm
    refine ⟨.sh (.lst (List.replicate 6 (dR C W))), n4, ⟨_, _, _, W, 6, rfl, by decide, rfl⟩, (fun _ z => by cases z), fun f cd A outer s H E g p => ⟨[.pr p (po n4), .sh (dL X), .sh (.str (Mnr.s .run)), .sh (.int st), .sh (dL W), .sh (.lst [dR C W, dR C W, dR C W, dR C W, dR C W, dR C W]), .sh (.int (at' : Nat)), .un, .un], .inl (pre f cd A outer s H E g p _ ?_), rfl⟩⟩
    exact s_ifN (t_eq (t_cmp o_neS (e_var 2) e_str) (by decide)) (s_one (s1_ret (e_cv (cv_frz (i := 5) rfl) (e_var 5))))
  · have hne : decide (Mnr.s m = "run") = false := decide_eq_false (by cases m <;> first | exact absurd rfl hm | decide)
    refine ⟨.sh (.lst (List.replicate 7 (dR C W))), n4, ⟨_, _, _, W, 7, rfl, by decide, rfl⟩, (fun _ z => by cases z), fun f cd A outer s H E g p => ⟨[.pr p (po n4), .sh (dL X), .sh (.str (Mnr.s m)), .sh (.int st), .sh (dL W), .sh (.lst [dR C W, dR C W, dR C W, dR C W, dR C W, dR C W, dR C W]), .sh (.int (at' : Nat)), .sh (.tup [dL X.reverse, .str (endM m).s, .int (st - (endK m X.length : Int))]), .un], .inl (pre f cd A outer s H E g p _ ?_), rfl⟩⟩
    refine s_cons (Γ1 := [.pr p (po n4), .sh (dL X), .sh (.str (Mnr.s m)), .sh (.int st), .sh (dL W), .ow (.lst [dR C W, dR C W, dR C W, dR C W, dR C W, dR C W, dR C W]), .sh (.int (at' : Nat)), .sh (.tup [dL X.reverse, .str (endM m).s, .int (st - (endK m X.length : Int))]), .un]) (s1_ifT (t_eq (t_cmp o_neS (e_var 2) e_str) (by rw [hne]; rfl)) ?_) (s_one (s1_ret (e_cv (cv_frz (i := 5) rfl) (e_var 5))))
    refine s_cons (Γ1 := [.pr p (po n4), .sh (dL X), .sh (.str (Mnr.s m)), .sh (.int st), .sh (dL W), .ow (.lst [dR C W, dR C W, dR C W, dR C W, dR C W, dR C W]), .sh (.int (at' : Nat)), .sh (.tup [dL X.reverse, .str (endM m).s, .int (st - (endK m X.length : Int))]), .un]) (s1_set 7 g.nd (e_c0 G_end g (a_cons (e_var 1) (a_cons (e_var 2) (a_cons (e_var 3) a_nil))) ⟨X, m, st, hm, hX0, by omega, rfl, rfl⟩)) ?_
    exact s_one (s1_eq (s1_expr (e_append (i := 5) (e_fo (e_k1 (ds := [dS (mrg X.reverse), .str (endM m).s, .int (st - (endK m X.length : Int))]) (dds := []) [] G_Row g (a_cons (e_c0 G_sof g (a_cons (e_ix (e_var 7) e_int (i_tup (d := dL X.reverse) rfl)) a_nil) psE) (a_cons (e_ix (e_var 7) e_int (i_tup (d := .str (endM m).s) rfl)) (a_cons (e_ix (e_var 7) e_int (i_tup (d := .int (st - (endK m X.length : Int))) rfl)) a_nil))) (pin7 hm) (fun S => .nil) (by simp))) ⟨_, _, has_ow, _, rfl⟩ has_ow (by show 6 < sizeLine; omega))) rfl)
end
end Hd

set_option Elab.async false
set_option linter.all false
set_option maxRecDepth 100000
set_option maxHeartbeats 1000000
namespace Hd
open PySem PySem.Spec PyProof.Rows L2 PL
section
variable {Pg : Program} {w : World} {K : PySem.W.Frag} {mg : Str → Option Value} {base : Heap}
def spLaw (K : PySem.W.Frag) : Sp := fun vs H Q _ => ∃ (a : Addr) (ns : List Int), vs = [.ref a] ∧ SqL K H a (ns.map V.int) ∧ ∀ H', Q (.bl true) H'
theorem law_ok {qual : Str} {params : Arguments} {body : List Stmt} {scope : Scope} {dvs : List V} {kws : List (Str × V)} {f : Addr} {fd : FuncData} {x p : Str} {N : List Str} {k : Nat} (FD : FunD K x qual params body scope dvs kws f fd) (Sc : FnScope N [p] scope) (hn : 1 ≤ N.length)
    (hb : ∀ cd A outer s H E, Gd k (cxOf CX0 Pg w K mg base N qual scope f cd A outer s H E) → ∀ ns : List Int, ∃ Γ', Ends1 (cxOf CX0 Pg w K mg base N qual scope f cd A outer s H E) (ent N [.fls (ns.map D.int)]) body (.sh (.bl true)) Γ') : PL.FnOk Pg w K mg base CX0 (k + 1) f fd [p] (spLaw K) := by
  refine fd_ok FD Sc (fun vs H Q E h => ?_) (fun cd A outer s H vs Q E hr h => ?_)
  · obtain ⟨a, ns, rfl, _⟩ := h; rfl
  · obtain ⟨a, ns, rfl, hS, q⟩ := h
    obtain ⟨Γ', e1⟩ := hb cd A outer s H E ⟨rfl, Sc.nd, PassesOwn.leaving, hr⟩ ns
    have hr0 : Reps K H [D.fls (ns.map D.int)] [V.ref a] := .one ⟨a, _, rfl, hS, Reps.ofInts⟩
    refine ⟨_, ws_pss, e1.run (rs_start (K := K) (S := H) (.refl _) hr0 hn) fun v σ' H' S' R' s' ok => ?_⟩
    rw [show v = V.bl true from ok]
    exact q H'
theorem rg2 {J : Int} (h0 : 1 ≤ J) (h1 : J ≤ 20) : RgC 0 J 2 ((J + 1) / 2).toNat := by
  have key : ∀ j : _root_.Fin 20, RgC 0 ((j.val : Int) + 1) 2 (((j.val : Int) + 1 + 1) / 2).toNat := by
    intro j
    refine ⟨by decide, by decide, ?_, ?_⟩
    · revert j; decide +kernel
    · revert j; decide +kernel
  have := key ⟨(J - 1).toNat, by omega⟩
  rw [show (((J - 1).toNat : Nat) : Int) + 1 = J by omega] at this
  exact this
/-- how many cells are gone through: at least a, at most b -/
def cells (a b n : Int) : Int := if (if b < n then b else n) > a then (if b < n then b else n) else a
theorem cells_ok {a b n : Int} (h : 0 ≤ a) (hab : a ≤ b) : a ≤ cells a b n ∧ cells a b n ≤ b := by
  unfold cells
  split <;> (try split) <;> omega
/-! ### k06: rows that are not this one; the law -/
theorem sub_len6 {α : Type} [DecidableEq α] : ∀ {xs ys : List α}, xs.Nodup → (∀ x ∈ xs, x ∈ ys) → xs.length ≤ ys.length
  | [], _, _, _ => Nat.zero_le _
  | x :: xs, ys, hn, h => by
    obtain ⟨h1, h2⟩ := List.nodup_cons.mp hn
    have hx := h x (List.mem_cons_self ..)
    have h3 := sub_len6 (xs := xs) (ys := ys.erase x) h2 fun y hy => by
      refine (List.mem_erase_of_ne ?_).mpr (h y (List.mem_cons_of_mem _ hy))
      intro e; subst e; exact h1 hy
    have h4 := List.length_erase_of_mem hx
    have h5 : 0 < ys.length := List.length_pos_of_mem hx
    rw [List.length_cons]; omega
def cand06 : List Str := ["q", "qq", "zzz", "k", "kk"]
theorem cand_ok {W sh : List Str} (h : sh.length ≤ 4) (hw : ∀ x ∈ W, x ∈ sh) : ∃ x rest, (cand06.filter fun y => !decide (y ∈ W)) = x :: rest ∧ shadeB x = true ∧ x ∉ W := by
  cases e : cand06.filter fun y => !decide (y ∈ W) with
  | nil =>
    have h1 : ∀ x ∈ cand06, x ∈ sh := fun x hx => by
      have h2 : ¬ x ∈ cand06.filter fun y => !decide (y ∈ W) := by rw [e]; exact List.not_mem_nil
      rw [List.mem_filter] at h2
      by_cases h3 : x ∈ W
      · exact hw x h3
      · exact absurd ⟨hx, by rw [decide_eq_false h3]; rfl⟩ h2
    have h4 := sub_len6 (xs := cand06) (ys := sh) (by decide) h1
    have h5 : cand06.length = 5 := rfl
    omega
  | cons x rest =>
    have hm := List.mem_filter.mp (show x ∈ cand06.filter fun y => !decide (y ∈ W) by rw [e]; exact List.mem_cons_self ..)
    have : ∀ y ∈ cand06, shadeB y = true := by decide +kernel
    exact ⟨x, rest, rfl, this x hm.1, of_decide_eq_false (by simpa using hm.2)⟩
def oth06 (W : List Str) (q : Str) : List (List Str) := ((List.range W.length).map fun k => W.take k ++ [q] ++ W.drop (k + 1)) ++ [W ++ [q]]
theorem oth_ok {W : List Str} {q : Str} (hs : Shs W) (hq : shadeB q = true) {us : List Str} (h : us ∈ oth06 W q) : Shs us ∧ q ∈ us ∧ 0 < us.length ∧ us.length ≤ W.length + 1 := by
  rcases List.mem_append.mp h with z | z
  · obtain ⟨k, hk, rfl⟩ := List.mem_map.mp z
    have hk := List.mem_range.mp hk
    refine ⟨fun t ht => ?_, by simp, by rw [List.length_append, List.length_append, List.length_singleton]; omega, ?_⟩
    · rcases List.mem_append.mp ht with z | z
      · rcases List.mem_append.mp z with z | z
        · exact hs t (List.mem_of_mem_take z)
        · rw [List.mem_singleton.mp z]; exact hq
      · exact hs t (List.mem_of_mem_drop z)
    · rw [List.length_append, List.length_append, List.length_take, List.length_drop, List.length_singleton]; omega
  · rw [List.mem_singleton.mp z]
    refine ⟨fun t ht => ?_, by simp, by simp, by rw [List.length_append]; exact Nat.le_refl _⟩
    rcases List.mem_append.mp ht with z | z
    · exact hs t z
    · rw [List.mem_singleton.mp z]; exact hq
def P_oth06 : List D → Rs → Prop := fun ds r => ∃ W q rest, 0 < W.length ∧ W.length ≤ 100 ∧ (cand06.filter fun y => !decide (y ∈ W)) = q :: rest ∧ ds = [dL W] ∧ r = .ow (.lst ((oth06 W q).map dL))
theorem c_oth06 (Dd : Df K mg "_law_others" s__law_others []) (T : Bt mg) : C0 Pg w K mg base "_law_others" 1 ["_law_due_here"] P_oth06 := by
  refine c0_mk (k := 0) Dd sc__law_others (fun _ _ _ _ _ _ us hl => match us, hl with | [_], _ => rfl) (by decide) (fun ds r => ?_) (fun f cd A outer s H E g ds r => ?_)
  · rintro ⟨W, q, rest, _, _, _, rfl, rfl⟩
    exact ⟨rfl, fun _ z => by cases z⟩
  · rintro ⟨W, q, rest, h0, hl, hzf, rfl, rfl⟩
    have hz := big2000
    obtain ⟨R, hR⟩ : ∃ R : List (List Str), R = (List.range W.length).map fun k => W.take k ++ [q] ++ W.drop (k + 1) := ⟨_, rfl⟩
    have hRl : R.length = W.length := by rw [hR, List.length_map, List.length_range]
    have hrows : (List.range (((W.map D.str).length : Int)).toNat).map (fun (j : Nat) => dL (W.take j ++ [q] ++ W.drop (j + 1))) = R.map dL := by
      rw [hR, List.map_map, List.length_map]; rfl
    have hres : R.map dL ++ [dL (W ++ [q])] = (oth06 W q).map dL := by
      unfold oth06
      rw [List.map_append, ← hR]; rfl
    apply ends_rt
    refine s_cons (Γ1 := [.sh (dL W), .sh (.str q), .un, .un, .un]) ?_ ?_
    · refine s1_set 1 g.nd (e_ix (e_fz (e_eq (e_lc g (lcIf (t := fun j => !decide (cand06.getD j default ∈ W)) (f := itd (cand06.map D.str)) 3 g (it_list (ds := cand06.map D.str) (e_fz (e_lst (a_cons e_str (a_cons e_str (a_cons e_str (a_cons e_str (a_cons e_str a_nil)))))))) (by show 5 ≤ _; omega) (blkOk_by (N := N__law_others) (sc := defScope s__law_others) (by decide +kernel)) rfl (fun j hj s1 H1 C1 cl fp => ?_) (fun j hj _ s1 H1 C1 cl fp => e_var 3))) (congrArg (fun l => Rs.ow (Ob.lst l)) ((took_filter (fun x => !decide (x ∈ W)) cand06).trans (by rw [hzf]))))) e_int (i_list (atI_nat (j := 0) rfl)))
      have hj' : j < cand06.length := hj
      refine t_cmp (o_ninL (x := cand06.getD j default)) (e_eq (e_var 3) ?_) (e_var 0)
      rw [itd_map D.str cand06 j hj', List.getD_eq_getElem?_getD, List.getElem?_eq_getElem hj']; rfl
    refine s_cons (Γ1 := [.sh (dL W), .sh (.str q), .sh (.lst (R.map dL)), .un, .un]) ?_ ?_
    · refine s1_setLcF 2 g (lc1 4 (fun j => dL (W.take j ++ [q] ++ W.drop (j + 1))) g (it_range1 T.range (a_cons (e_callB c_lenL T.len b_len (a_cons (e_var 0) a_nil)) a_nil) (by rw [List.length_map]; omega) (by rw [List.length_map]; omega)) (by rw [List.length_map]; omega) (blkOk_by (N := N__law_others) (sc := defScope s__law_others) (by decide +kernel)) rfl (fun j hj s1 H1 C1 cl fp => ?_)) (took_all.trans hrows)
      have hj' : j < W.length := by rw [List.length_map] at hj; omega
      have c1 : cutL W none (some (j : Int)) = W.take j := cut_to W j
      have c2 : cutL W (some ((j : Int) + 1)) none = W.drop (j + 1) := cut_from W (j + 1)
      refine e_fz (e_eq (e_bin (o_dLcat (xs := W.take j ++ [q]) (ys := cutL W (some ((j : Int) + 1)) none) ?_) (e_fz (e_eq (e_bin (o_dLcat (xs := cutL W none (some (j : Int))) (ys := [q]) ?_) (e_fz (e_slice l_dL (e_var 0) p_none (p_some (e_var 4)))) (e_fz (e_lst (a_cons (e_var 1) a_nil)))) (by rw [c1]))) (e_fz (e_slice l_dL (e_var 0) (p_some (e_bin o_addI (e_var 4) e_int)) p_none))) (by rw [c2]))
      · rw [c2, List.length_append, List.length_take, List.length_drop, List.length_singleton]; omega
      · rw [c1, List.length_take, List.length_singleton]; omega
    exact s_one (s1_ret (e_eq (e_bin (o_catL (ds := R.map dL) (es := [dL (W ++ [q])]) (by rw [List.length_map, List.length_singleton]; omega)) (e_var 2) (e_fz (e_lst (a_cons (e_fz (e_bin (o_dLcat (xs := W) (ys := [q]) (by rw [List.length_singleton]; omega)) (e_var 0) (e_fz (e_lst (a_cons (e_var 1) a_nil))))) a_nil)))) (congrArg (fun l => Rs.ow (Ob.lst l)) hres)))
theorem dL_inj {a b : List Str} (h : dL a = dL b) : a = b := by
  have h2 : a.map D.str = b.map D.str := by injection h
  exact (List.map_inj_right fun x y e => by injection e).mp h2
theorem allT (n : Nat) : (List.range n).map (fun (_ : Nat) => D.bl true) = (List.replicate n true).map D.bl := by
  apply List.ext_getElem?
  intro i
  rw [List.getElem?_map, List.getElem?_map]
  by_cases h : i < n
  · rw [List.getElem?_range h, List.getElem?_replicate, if_pos h]; rfl
  · rw [List.getElem?_eq_none (by simpa using h), List.getElem?_replicate, if_neg h]; rfl
theorem allT2 (n : Nat) : (List.replicate n true).all id = true := by
  rw [List.all_eq_true]
  intro x hx
  rw [List.eq_of_mem_replicate hx]; rfl
theorem not_plain {X : Cx} {C : Addr} {ns : List Str} {fs : List D} {d : D} (hd : d.plain = true) {pins : List (Addr × Obj)} {σ : L2.St} {H : Hp} {s : Shared} {v : V} (I : Inv X pins σ H s) (r1 : Rep X.K H (.obj C ns fs) v) (r2 : Rep X.K H d v) : False := by
  obtain ⟨a, dx, ws, rfl, h1, _, _⟩ := r1
  have t := typeIs_plain (u := .ref a) I hd r2 rfl
  obtain ⟨o, ho, hc⟩ := t
  obtain ⟨_, _, _, ob, _⟩ := (show ObjOk X.prog X.w H s.heap a (.ins C dx _) from I.hok a _ h1)
  rw [ob] at ho
  cases ho
  cases hc
set_option maxHeartbeats 8000000 in
theorem c_law (C : Addr) {f : Addr} {fd : FuncData} (FD : FunD K "law" "law" (defArgs s_law) (defBody s_law) (defScope s_law) [] [] f fd) (T : Bt mg) (hC : Cls K C) (hE : Nf K C) (hrf : Rf K C) (G_pool : C0 Pg w K mg base "_law_pool" 1 ["_law_script", "_law_k"] P_pool) (G_take : C1 Pg w K mg base "_law_take" 1 ["_law_pool_here", "_law_many"] P_take) (G_shades : C1 Pg w K mg base "_law_some_shades" 2 ["_law_pool_here", "_law_many"] P_shades) (G_drawn : C1 Pg w K mg base "_law_drawn_stripes" 2 ["_law_pool_here", "_law_shades", "_law_most", "_law_wide"] P_drawn) (G_lthreads : C0 Pg w K mg base "_law_threads" 1 ["_law_stripes"] P_lthreads) (G_due : C0 Pg w K mg base "_law_due" 2 ["_law_stripes", "_law_tack", "_law_begun"] P_due) (G_Row : K1 Pg w K mg base "Row" C 6 ["self", "stripes", "manner", "start"] [[], [.str "run", .int 0]] (P_init C)) (G_threads : M0 Pg w K mg base C "threads" 1 ["self"] (P_threads C)) (G_tell : Cp Pg w K mg base "_law_tellings" 8 ["_law_pool_here", "_law_words", "_law_tack", "_law_begun", "_law_due_here"] pre_tell (post_tell C)) (G_alk : C0 Pg w K mg base "_law_alike" 5 ["_law_one", "_law_other"] (P_alk06 C)) (G_mvr : C0 Pg w K mg base "_law_moved_right" 10 ["_law_row", "_law_by"] (P_mvr06 C)) (G_unl : C0 Pg w K mg base "_law_unlike" 5 ["_law_one", "_law_other"] (P_unl06 C)) (G_oth : C0 Pg w K mg base "_law_others" 1 ["_law_due_here"] P_oth06) (G_sof : C0 Pg w K mg base "_law_merged" 1 ["_law_words"] P_sof) (G_eq : M0 Pg w K mg base C "__eq__" 2 ["self", "other"] (P_eqR C)) (G_strR : M0 Pg w K mg base C "__str__" 2 ["self"] (P_strR C)) (G_repr : M0 Pg w K mg base C "__repr__" 2 ["self"] (P_reprR C)) :
    PL.FnOk Pg w K mg base CX0 11 f fd ["_law_script"] (spLaw K) := by
  refine law_ok (k := 10) FD sc_law (by decide) fun cd A outer s H E g ns => ?_
  obtain ⟨PT, GT, hPT⟩ := G_tell.ex
  have hz := big2000
  have hB : BIG = 1000000000000000000000000000000 := rfl
  have e30 : (10 : Int) ^ (30 : Int).toNat = BIG := by decide +kernel
  have big40 : BIG ≤ 10 ^ 40 := by decide +kernel
  apply ends_rt
  refine s_cons (Γ1 := [.sh (.fls (ns.map D.int)), .un, .un, .un, .un, .un, .un, .un, .un, .un, .un, .un, .un, .un]) ?_ (s_one (s1_ret e_bl))
  refine s1_for g (it_range1 T.range (a_cons (e_callB (c_max2 g.calm) T.max b_max (a_cons e_int (a_cons (e_callB (c_min2 g.calm) T.min b_min (a_cons (e_callB c_lenF T.len b_len (a_cons (e_var 0) a_nil)) (a_cons e_int a_nil))) a_nil))) a_nil) (by omega) (by omega)) (fun _ => [.sh (.fls (ns.map D.int)), .un, .un, .un, .un, .un, .un, .un, .un, .un, .un, .un, .un, .un]) (fun j => [.sh (.fls (ns.map D.int)), .sh (.int (j : Nat)), .un, .un, .un, .un, .un, .un, .un, .un, .un, .un, .un, .un]) .refl (fun j hj => g_name 1 g.nd) (fun j hj => .inl ?_)
  have hj' : j < 5 := by omega
  obtain ⟨n, hn⟩ : ∃ n, n = poolV (cellV ns j) j := ⟨_, rfl⟩
  have a0 := Int.emod_nonneg n (b := 4) (by decide)
  have a1 := Int.emod_lt_of_pos n (b := 4) (by decide)
  obtain ⟨sh, n1, hsl, hsh, psh⟩ := sh_ex (n / 4) (1 + n % 4) (by omega) (by omega)
  have b0 := Int.emod_nonneg n1 (b := 3) (by decide)
  have b1 := Int.emod_lt_of_pos n1 (b := 3) (by decide)
  obtain ⟨mo, hmo, mo0, mo1⟩ : ∃ mo : Int, atI [D.int 2, .int 3, .int 6] (n1 % 3) = some (.int mo) ∧ 0 < mo ∧ mo ≤ 6 := by
    rcases (by omega : n1 % 3 = 0 ∨ n1 % 3 = 1 ∨ n1 % 3 = 2) with e | e | e <;> rw [e]
    · exact ⟨2, rfl, by decide, by decide⟩
    · exact ⟨3, rfl, by decide, by decide⟩
    · exact ⟨6, rfl, by decide, by decide⟩
  obtain ⟨ps, n2, hps, htot, hpl, hpin, pdr⟩ := dr_ex (n1 / 3) (sh := sh) (most := mo) (wide := 3) (by omega) (by omega) mo0 (by omega) (by decide) (by decide) hsh (by omega)
  have c0 := Int.emod_nonneg n2 (b := 5) (by decide)
  have c1 := Int.emod_lt_of_pos n2 (b := 5) (by decide)
  obtain ⟨m, hm⟩ : ∃ m : Mnr, atI [D.str "run", .str "pivot", .str "fold", .str "left", .str "right"] (n2 % 5) = some (.str m.s) := by
    rcases (by omega : n2 % 5 = 0 ∨ n2 % 5 = 1 ∨ n2 % 5 = 2 ∨ n2 % 5 = 3 ∨ n2 % 5 = 4) with e | e | e | e | e <;> rw [e]
    · exact ⟨.run, rfl⟩
    · exact ⟨.pivot, rfl⟩
    · exact ⟨.fold, rfl⟩
    · exact ⟨.left, rfl⟩
    · exact ⟨.right, rfl⟩
  obtain ⟨n3, hn3⟩ : ∃ n3, n3 = n2 / 5 := ⟨_, rfl⟩
  have d0 := Int.emod_nonneg n3 (b := 41) (by decide)
  have d1 := Int.emod_lt_of_pos n3 (b := 41) (by decide)
  obtain ⟨st, hst⟩ : ∃ st, st = n3 % 41 - 20 := ⟨_, rfl⟩
  obtain ⟨n4, hn4⟩ : ∃ n4, n4 = n3 / 41 := ⟨_, rfl⟩
  have hXl : (thr ps).length ≤ 18 := by
    have h1 := thr_len fun p hp => (hps.ok p hp).2
    omega
  have hlay : (layW m (thr ps)).length ≤ 36 := by
    have := layW_len m (thr ps)
    omega
  obtain ⟨r1, r2, _, r5⟩ := rowK_ok hps m st (by omega)
  have r4 : (rowK ps m st).length ≤ 36 := by
    have := lr_le (layW m (thr ps))
    show (spin _ _ _).length ≤ 36
    rw [spin_len]; omega
  have hsub : ∀ x ∈ rowK ps m st, x ∈ sh := fun x hx => by
    obtain ⟨q, hq, rfl⟩ := List.mem_map.mp (r5 x hx)
    exact hpin q hq
  obtain ⟨_, n5, ⟨ta, tb, tc, tW, kk, et, hkk, rfl⟩, hT⟩ := hPT n4 [dL (thr ps), .str (Mnr.s m), .int st, dL (rowK ps m st)] ⟨ps, m, st, hps, by omega, by omega, by omega, rfl⟩
  have etW : tW = rowK ps m st := by
    injection et with _ et
    injection et with _ et
    injection et with _ et
    injection et with et _
    exact (dL_inj et).symm
  rw [etW] at hT
  clear etW et
  have pin : P_init C (.ins C [] []) [dS ps, .str m.s, .int st] (.sh .non) (oR C (rowK ps m st)) := ⟨ps, m, st, hps, ⟨by omega, by omega⟩, Nat.le_trans (lr_le _) (by omega), rfl, rfl, rfl, rfl⟩
  have pdu : P_due [dS ps, .str (Mnr.s m), .int st] (.sh (dL (rowK ps m st))) := ⟨ps, m, st, hps, rfl, rfl⟩
  have plt : P_lthreads [dS ps] (.sh (dL (thr ps))) := ⟨ps, hps, rfl, rfl⟩
  obtain ⟨W, hW⟩ : ∃ W, W = rowK ps m st := ⟨_, rfl⟩
  rw [← hW] at r1 r2 r4 hsub hT pin pdu
  clear hW r5
  have rW : Rok 240 W := ⟨r1, r2, by omega⟩
  have w0 := r1.1
  have oW : ∀ x ∈ W, okS x := r2.ok
  obtain ⟨q, rest, hq, hqs, hqn⟩ := cand_ok (W := W) (sh := sh) (by omega) hsub
  obtain ⟨O, hO⟩ : ∃ O, O = oth06 W q := ⟨_, rfl⟩
  have po6 : P_oth06 [dL W] (.ow (.lst (O.map dL))) := ⟨W, q, rest, w0, by omega, hq, rfl, by rw [hO]⟩
  have hOk : ∀ us ∈ O, Shs us ∧ q ∈ us ∧ 0 < us.length ∧ us.length ≤ W.length + 1 := fun us hu => oth_ok r2 hqs (by rw [← hO]; exact hu)
  have hOl : O.length = W.length + 1 := by
    rw [hO]; unfold oth06
    rw [List.length_append, List.length_map, List.length_range]; rfl
  have f0 := Int.emod_nonneg n5 (b := BIG) (by decide)
  have f1 := Int.emod_lt_of_pos n5 (b := BIG) (by decide)
  obtain ⟨n6, hn6⟩ : ∃ n6, n6 = n5 / BIG := ⟨_, rfl⟩
  obtain ⟨L, hL⟩ : ∃ L : List Int, L = [0, 1, -1, (W.length : Int), 0 - 2 * (W.length : Int), n5 % BIG, (W.length : Int) + 1] := ⟨_, rfl⟩
  have hLl : L.length = 7 := by rw [hL]; rfl
  have hLm : L.map D.int = [.int 0, .int 1, .int (-1), .int (W.length : Int), .int (0 - 2 * (W.length : Int)), .int (n5 % BIG), .int ((W.length : Int) + 1)] := by rw [hL]; rfl
  have hLs : ∀ b ∈ L, Spot b := fun b hb => by
    rw [hL] at hb
    simp only [List.mem_cons, List.not_mem_nil, or_false] at hb
    rcases hb with rfl | rfl | rfl | rfl | rfl | rfl | rfl <;> exact ⟨by omega, by omega⟩
  have ps1 : P_strR C [dR C W] (.sh (.str (textS (mrg (lb W))))) := ⟨W, rW, rfl, rfl⟩
  have pr1 : P_reprR C [dR C W] (.sh (.str (reprT W))) := ⟨W, rW, rfl, rfl⟩
  have pn : ∀ d : D, d.plain = true → P_eqR C [dR C W, d] (.sh (.bl false)) := fun d hd => ⟨W, rW, .inr ⟨d, hd, rfl, rfl⟩⟩
  obtain ⟨LT, hLT⟩ : ∃ LT : List D, LT = [.non, .int 0, .bl true, .str "b8", .str (textS (mrg (lb W))), dT W, dL W, .lst [], .dct [] [], .str (reprT W)] := ⟨_, rfl⟩
  have hLp : ∀ d ∈ LT, d.plain = true := fun d hd => by
    rw [hLT] at hd
    simp only [List.mem_cons, List.not_mem_nil, or_false] at hd
    rcases hd with rfl | rfl | rfl | rfl | rfl | rfl | rfl | rfl | rfl | rfl <;> rfl
  refine s_wk (Γ1 := [.sh (.fls (ns.map D.int)), .sh (.int (j : Nat)), .ow (po n6), .sh (dL sh), .sh (dS ps), .sh (.str (Mnr.s m)), .sh (.int st), .sh (dL (thr ps)), .sh (dL W), .sh (dR C W), .sh (.lst (L.map D.int)), .un, .un, .un]) ?_ (Wk.cv (.keep (.drop (.drop (.drop (.drop (.drop (.drop (.drop (.drop (.drop (.drop (.drop (.drop (.drop .nil)))))))))))))))
  refine s_cons (Γ1 := [.sh (.fls (ns.map D.int)), .sh (.int (j : Nat)), .ow (po n), .un, .un, .un, .un, .un, .un, .un, .un, .un, .un, .un]) (by rw [hn]; exact s1_set 2 g.nd (e_c0 G_pool g (a_cons (e_var 0) (a_cons (e_var 1) a_nil)) ⟨ns, j, by omega, rfl, rfl⟩)) ?_
  refine s_cons (Γ1 := [.sh (.fls (ns.map D.int)), .sh (.int (j : Nat)), .ow (po n1), .sh (dL sh), .un, .un, .un, .un, .un, .un, .un, .un, .un, .un]) (s1_set 3 g.nd (e_c1 2 G_shades g has_ow (a_cons (e_bin o_addI e_int (e_c1 2 G_take g has_ow (a_cons e_int a_nil) has_ow (tk06 (by decide) (by decide)))) a_nil) has_ow psh)) ?_
  refine s_cons (Γ1 := [.sh (.fls (ns.map D.int)), .sh (.int (j : Nat)), .ow (po n2), .sh (dL sh), .sh (dS ps), .un, .un, .un, .un, .un, .un, .un, .un, .un]) (s1_set 4 g.nd (e_c1 2 G_drawn g has_ow (a_cons (e_var 3) (a_cons (e_ix (e_fz (e_lst (a_cons e_int (a_cons e_int (a_cons e_int a_nil))))) (e_c1 2 G_take g has_ow (a_cons e_int a_nil) has_ow (tk06 (by decide) (by decide))) (i_list hmo)) (a_cons e_int a_nil))) has_ow pdr)) ?_
  refine s_cons (Γ1 := [.sh (.fls (ns.map D.int)), .sh (.int (j : Nat)), .ow (po n3), .sh (dL sh), .sh (dS ps), .sh (.str (Mnr.s m)), .un, .un, .un, .un, .un, .un, .un, .un]) (by rw [hn3]; exact s1_set 5 g.nd (e_ix (e_fz (e_lst (a_cons e_str (a_cons e_str (a_cons e_str (a_cons e_str (a_cons e_str a_nil))))))) (e_c1 2 G_take g has_ow (a_cons e_int a_nil) has_ow (tk06 (by decide) (by decide))) (i_list hm))) ?_
  refine s_cons (Γ1 := [.sh (.fls (ns.map D.int)), .sh (.int (j : Nat)), .ow (po n4), .sh (dL sh), .sh (dS ps), .sh (.str (Mnr.s m)), .sh (.int st), .un, .un, .un, .un, .un, .un, .un]) (by rw [hn4, hst]; exact s1_set 6 g.nd (e_bin o_subI (e_c1 2 G_take g has_ow (a_cons e_int a_nil) has_ow (tk06 (by decide) (by decide))) e_int)) ?_
  refine s_cons (Γ1 := [.sh (.fls (ns.map D.int)), .sh (.int (j : Nat)), .ow (po n4), .sh (dL sh), .sh (dS ps), .sh (.str (Mnr.s m)), .sh (.int st), .sh (dL (thr ps)), .sh (dL W), .un, .un, .un, .un, .un]) (s1_par 7 8 g (a_cons (e_c0 G_lthreads g (a_cons (e_var 4) a_nil) plt) (a_cons (e_c0 G_due g (a_cons (e_var 4) (a_cons (e_var 5) (a_cons (e_var 6) a_nil))) pdu) a_nil))) ?_
  refine s_cons (Γ1 := [.sh (.fls (ns.map D.int)), .sh (.int (j : Nat)), .ow (po n4), .sh (dL sh), .sh (dS ps), .sh (.str (Mnr.s m)), .sh (.int st), .sh (dL (thr ps)), .sh (dL W), .sh (dR C W), .un, .un, .un, .un]) (s1_set 9 g.nd (e_fo (e_k1 (dds := []) [] G_Row g (a_cons (e_var 4) (a_cons (e_var 5) (a_cons (e_var 6) a_nil))) pin (fun S => .nil) (by simp)))) ?_
  refine s_ifN (t_eq (t_cmp (o_neT (xs := W) (ys := W) g.rm.units oW oW) (e_m00 G_threads hC g (e_var 9) ⟨W, rfl, rfl⟩) (e_callTy (c_tupL (ds := W.map D.str)) T.tuple b_tuple (a_cons (e_var 8) a_nil))) (by rw [decide_eq_true rfl]; rfl)) ?_
  refine s_cons (Γ1 := [.sh (.fls (ns.map D.int)), .sh (.int (j : Nat)), .ow (po n5), .sh (dL sh), .sh (dS ps), .sh (.str (Mnr.s m)), .sh (.int st), .sh (dL (thr ps)), .sh (dL W), .sh (dR C W), .un, .un, .un, .un]) ?_ ?_
  · have hrl : (List.replicate kk (dR C W)).length = kk := List.length_replicate
    refine s1_ifF (t_eq (t_not (t_val (e_callB (c_all (ns := List.replicate (List.replicate kk (dR C W)).length true) g.calm) T.all b_all (a_cons (e_fz (e_eq (e_lc1 12 (fun _ => .bl true) g (it_list (ds := List.replicate kk (dR C W)) (e_c1 2 GT g has_ow (a_cons (e_var 7) (a_cons (e_var 5) (a_cons (e_var 6) (a_cons (e_var 8) a_nil)))) has_ow hT)) (by omega) (blkOk_by (N := N_law) (sc := defScope s_law) (by decide +kernel)) rfl (fun i hi s1 H1 C1 cl fp => ?_)) (congrArg (fun z => Rs.ow (Ob.lst z)) (allT (List.replicate kk (dR C W)).length)))) a_nil)))) (by rw [allT2]; rfl)) s_nil
    have e : itd (List.replicate kk (dR C W)) i = dR C W := by
      unfold itd
      rw [List.getD_eq_getElem?_getD, List.getElem?_replicate, if_pos (by omega)]; rfl
    rw [e]
    exact e_c0 G_alk g.blk (a_cons (e_var 9) (a_cons (e_var 12) a_nil)) ⟨W, rW, rfl, rfl⟩
  refine s_cons (Γ1 := [.sh (.fls (ns.map D.int)), .sh (.int (j : Nat)), .ow (po n6), .sh (dL sh), .sh (dS ps), .sh (.str (Mnr.s m)), .sh (.int st), .sh (dL (thr ps)), .sh (dL W), .sh (dR C W), .sh (.lst (L.map D.int)), .un, .un, .un]) (s1_set 10 (r := .sh (.lst (L.map D.int))) g.nd (e_eq (e_fz (e_lst (a_cons e_int (a_cons e_int (a_cons (e_neg e_int) (a_cons (e_eq (e_callB (c_lenL (ds := W.map D.str)) T.len b_len (a_cons (e_var 8) a_nil)) (by rw [List.length_map])) (a_cons (e_bin o_subI e_int (e_bin (o_mulI (i := 2) (j := (W.length : Int)) (.inl (by decide))) e_int (e_eq (e_callB (c_lenL (ds := W.map D.str)) T.len b_len (a_cons (e_var 8) a_nil)) (by rw [List.length_map])))) (a_cons (e_c1 2 G_take g has_ow (a_cons (e_eq (e_bin (o_pow ⟨by decide, by decide, by decide⟩) e_int e_int) (congrArg (fun z => Rs.sh (D.int z)) e30)) a_nil) has_ow (by rw [hn6]; exact tk06 (by decide) big40 : P_take (po n5) [.int BIG] (.sh (.int (n5 % BIG))) (po n6))) (a_cons (e_bin o_addI (e_eq (e_callB (c_lenL (ds := W.map D.str)) T.len b_len (a_cons (e_var 8) a_nil)) (by rw [List.length_map])) e_int) a_nil))))))))) (by rw [hLm]))) ?_
  refine s_ifN (t_eq (t_not (t_val (e_callB (c_all (ns := List.replicate (L.map D.int).length true) g.calm) T.all b_all (a_cons (e_fz (e_eq (e_lc1 13 (fun _ => .bl true) g (it_list (ds := L.map D.int) (e_var 10)) (by rw [List.length_map]; omega) (blkOk_by (N := N_law) (sc := defScope s_law) (by decide +kernel)) rfl (fun i hi s1 H1 C1 cl fp => ?_)) (congrArg (fun z => Rs.ow (Ob.lst z)) (allT (L.map D.int).length)))) a_nil)))) (by rw [allT2]; rfl)) ?_
  · have hi' : i < L.length := by rw [List.length_map] at hi; exact hi
    rw [itd_map D.int L i hi']
    exact e_c0 G_mvr g.blk (a_cons (e_var 9) (a_cons (e_var 13) a_nil)) ⟨W, L[i], rW, hLs _ (List.getElem_mem hi'), rfl, rfl⟩
  refine s_ifN (t_eq (t_not (t_val (e_callB (c_all (ns := List.replicate (O.map dL).length true) g.calm) T.all b_all (a_cons (e_fz (e_eq (e_lc1 12 (fun _ => .bl true) g (it_list (ds := O.map dL) (e_fz (e_c0 G_oth g (a_cons (e_var 8) a_nil) po6))) (by rw [List.length_map]; omega) (blkOk_by (N := N_law) (sc := defScope s_law) (by decide +kernel)) rfl (fun i hi s1 H1 C1 cl fp => ?_)) (congrArg (fun z => Rs.ow (Ob.lst z)) (allT (O.map dL).length)))) a_nil)))) (by rw [allT2]; rfl)) ?_
  · have hi' : i < O.length := by rw [List.length_map] at hi; exact hi
    rw [itd_map dL O i hi']
    obtain ⟨us, hus⟩ : ∃ us, us = O[i] := ⟨_, rfl⟩
    rw [← hus]
    obtain ⟨u1, u2, u3, u4⟩ := hOk us (by rw [hus]; exact List.getElem_mem hi')
    have rU : Rok 240 (mkR us) := mk_ok u3 u1 (by omega)
    have okU := mrg_ok u1 u3 (by omega)
    have pu : P_init C (.ins C [] []) ([dS (mrg us)] ++ [.str "run", .int 0]) (.sh .non) (oR C (mkR us)) := init_gen C (m := .run) (st := 0) okU (by show (thr (mrg us)).length ≤ 240; rw [(mrg_thr us).1]; omega) ⟨by decide, by decide⟩ rU.prim fun i => by
      show cyc (thr (mrg us)) (i + 0) = _
      rw [(mrg_thr us).1, mkR_cyc u3, Int.add_zero]
    exact e_c0 G_unl g.blk (a_cons (e_var 9) (a_cons (e_fo (e_k1 (dds := [.str "run", .int 0]) [.str "run", .int 0] G_Row g.blk (a_cons (e_c0 G_sof g.blk (a_cons (e_var 12) a_nil) ⟨us, u1.ok, by omega, .inl rfl, rfl⟩) a_nil) pu (fun S => .cons rfl (.cons rfl .nil)) (by simp))) a_nil)) ⟨W, mkR us, rW, rU, lb_ne w0 u2 hqn, rfl, rfl⟩
  refine s_one ?_
  refine s1_for (n := LT.length) (it := itd LT) (Γ1 := [.sh (.fls (ns.map D.int)), .sh (.int (j : Nat)), .ow (po n6), .sh (dL sh), .sh (dS ps), .sh (.str (Mnr.s m)), .sh (.int st), .sh (dL (thr ps)), .sh (dL W), .sh (dR C W), .sh (.lst (L.map D.int)), .un, .un, .un]) g (it_list (ds := LT) (e_eq (e_fz (e_lst (a_cons e_non (a_cons e_int (a_cons e_bl (a_cons e_str (a_cons (e_callTy (c_strO G_strR g ps1) T.str b_str (a_cons (e_var 9) a_nil)) (a_cons (e_callTy (c_tupL (ds := W.map D.str)) T.tuple b_tuple (a_cons (e_var 8) a_nil)) (a_cons (e_var 8) (a_cons (e_fz (e_lst a_nil)) (a_cons (e_frz e_dict0) (a_cons (e_callB (c_reprO G_repr g pr1) T.repr b_repr (a_cons (e_var 9) a_nil)) a_nil)))))))))))) (by rw [hLT]; rfl))) (fun _ => [.sh (.fls (ns.map D.int)), .sh (.int (j : Nat)), .ow (po n6), .sh (dL sh), .sh (dS ps), .sh (.str (Mnr.s m)), .sh (.int st), .sh (dL (thr ps)), .sh (dL W), .sh (dR C W), .sh (.lst (L.map D.int)), .un, .un, .un]) (fun i => [.sh (.fls (ns.map D.int)), .sh (.int (j : Nat)), .ow (po n6), .sh (dL sh), .sh (dS ps), .sh (.str (Mnr.s m)), .sh (.int st), .sh (dL (thr ps)), .sh (dL W), .sh (dR C W), .sh (.lst (L.map D.int)), .sh (itd LT i), .un, .un]) .refl (fun i hi => g_name 11 g.nd) (fun i hi => .inl ?_)
  have hi' : i < LT.length := hi
  have hd : (itd LT i).plain = true := hLp _ (by unfold itd; rw [List.getD_eq_getElem?_getD, List.getElem?_eq_getElem hi']; exact List.getElem_mem hi')
  generalize itd LT i = d at hd
  have hit : ∀ (i : Nat) e b, [dR C W][i]? = some e → [false][i]? = some b → EqG (cxOf CX0 Pg w K mg base N_law "law" (defScope s_law) f cd A outer s H E) d e b := fun i e b e1 e2 => by
    rcases (by
      have := (List.getElem?_eq_some_iff.mp e1).1
      simp at this
      omega : i = 0) with rfl
    cases e1; cases e2
    exact eqg_own G_eq hE g (.inr (.inl hd)) (pn d hd) fun pins σ H s v I r1 r2 => (not_plain hd I r1 r2).elim
  refine s_wk (Γ1 := [.sh (.fls (ns.map D.int)), .sh (.int (j : Nat)), .ow (po n6), .sh (dL sh), .sh (dS ps), .sh (.str (Mnr.s m)), .sh (.int st), .sh (dL (thr ps)), .sh (dL W), .sh (dR C W), .sh (.lst (L.map D.int)), .sh d, .un, .un]) ?_ (Wk.cv (.keep (.keep (.keep (.keep (.keep (.keep (.keep (.keep (.keep (.keep (.keep (.drop (.keep (.keep .nil)))))))))))))))
  exact s_ifN (t_w (w_orF (t_cmp (o_own G_eq hE g (.inr hd) (pn d hd)) (e_var 9) (e_var 11)) (w_orF (t_cmp (o_backOwn G_eq hrf g hd (pn d hd)) (e_var 11) (e_var 9)) (w_orF (t_eq (t_not (t_cmp (o_ownNe G_eq hE g (.inr hd) (pn d hd)) (e_var 9) (e_var 11))) rfl) (w_or1 (t_eq (t_cmp (o_inG (bs := [false]) rfl hit) (e_var 11) (e_fz (e_lst (a_cons (e_var 9) a_nil)))) rfl)))))) s_nil
end
end Hd




set_option Elab.async false
set_option linter.all false
set_option maxRecDepth 100000
set_option maxHeartbeats 0
namespace Hd
open PySem PySem.Spec PyProof.Rows L2 PL
structure Fx (K : PySem.W.Frag) (w : World) (mg : Str → Option Value) : Prop where
  D__wall : Df K mg "_wall" s__wall []
  D_is_whole : Df K mg "is_whole" s_is_whole []
  D_is_between : Df K mg "is_between" s_is_between []
  D_is_word : Df K mg "is_word" s_is_word []
  D_is_shade : Df K mg "is_shade" s_is_shade []
  D_is_stripe : Df K mg "is_stripe" s_is_stripe []
  D_check_stripes : Df K mg "check_stripes" s_check_stripes []
  D_threads_of : Df K mg "threads_of" s_threads_of []
  D_merged : Df K mg "merged" s_merged []
  D_words_of : Df K mg "words_of" s_words_of []
  D_run_word : Df K mg "run_word" s_run_word []
  D_pivot_word : Df K mg "pivot_word" s_pivot_word []
  D_fold_word : Df K mg "fold_word" s_fold_word []
  D_left_word : Df K mg "left_word" s_left_word []
  D_right_word : Df K mg "right_word" s_right_word []
  D_is_manner : Df K mg "is_manner" s_is_manner []
  D_check_spot : Df K mg "check_spot" s_check_spot []
  D_least_round : Df K mg "least_round" s_least_round []
  D_least_begun : Df K mg "least_begun" s_least_begun []
  D_Row___init__ : Di K (He.ga K "Row") "Row.__init__" s_Row___init__ [.str "run", .int 0]
  D_Row___len__ : Dm K (He.ga K "Row") "__len__" "Row.__len__" s_Row___len__ []
  D_Row___eq__ : Dm K (He.ga K "Row") "__eq__" "Row.__eq__" s_Row___eq__ []
  D_Row___str__ : Dm K (He.ga K "Row") "__str__" "Row.__str__" s_Row___str__ []
  D_Row___repr__ : Dm K (He.ga K "Row") "__repr__" "Row.__repr__" s_Row___repr__ []
  D_Row_thread : Dm K (He.ga K "Row") "thread" "Row.thread" s_Row_thread []
  D_Row_at : Dm K (He.ga K "Row") "at" "Row.at" s_Row_at []
  D_Row_threads : Dm K (He.ga K "Row") "threads" "Row.threads" s_Row_threads []
  D_Row_shades : Dm K (He.ga K "Row") "shades" "Row.shades" s_Row_shades []
  D_Row_moved : Dm K (He.ga K "Row") "moved" "Row.moved" s_Row_moved []
  D_Row_turned : Dm K (He.ga K "Row") "turned" "Row.turned" s_Row_turned []
  D_Row_alike : Dm K (He.ga K "Row") "alike" "Row.alike" s_Row_alike []
  D_row_of_threads : Df K mg "row_of_threads" s_row_of_threads []
  D_show_row : Df K mg "show_row" s_show_row []
  D__law_pool : Df K mg "_law_pool" s__law_pool []
  D__law_take : Df K mg "_law_take" s__law_take []
  D__law_some_shades : Df K mg "_law_some_shades" s__law_some_shades []
  D__law_drawn_stripes : Df K mg "_law_drawn_stripes" s__law_drawn_stripes []
  D__law_threads : Df K mg "_law_threads" s__law_threads []
  D__law_word : Df K mg "_law_word" s__law_word []
  D__law_least_round : Df K mg "_law_least_round" s__law_least_round []
  D__law_due : Df K mg "_law_due" s__law_due []
  D__law_merged : Df K mg "_law_merged" s__law_merged []
  D__law_split : Df K mg "_law_split" s__law_split []
  D__law_from_the_end : Df K mg "_law_from_the_end" s__law_from_the_end []
  D__law_tellings : Df K mg "_law_tellings" s__law_tellings []
  D__law_alike : Df K mg "_law_alike" s__law_alike []
  D__law_moved_right : Df K mg "_law_moved_right" s__law_moved_right []
  D__law_unlike : Df K mg "_law_unlike" s__law_unlike []
  D__law_others : Df K mg "_law_others" s__law_others []
  D_law : Df K mg "law" s_law []
  I_BIG : ∃ t, mg "BIG" = some (.int 1000000000000000000000000000000 t)
  I_MOST : ∃ t, mg "MOST" = some (.int 240 t)
  S_LETTERS : ∃ t, mg "LETTERS" = some (.str "abcdefghijklmnopqrstuvwxyz" t)
  C_Row : Cls K (He.ga K "Row")
  G_Row : mg "Row" = some (.ref (He.ga K "Row"))
  N_Row_kept : NoAttr K (He.ga K "Row") "kept"
  I_Row : Ic K (He.ga K "Row")
  E_Row : Nf K (He.ga K "Row")
  T : Bt mg
  M : Mn K w mg
  RF_Row : Rf K (He.ga K "Row")
theorem mn_of {w : World} {K : PySem.W.Frag} {h : Heap} {mg : Str → Option Value} (X : K.In h) (G : h.Ns mainGlobals mg) (c : He.SaysD fa fn K) (cT : He.SaysT fa fn tabs w K) (cV : He.valsB K (He.ga K "MANNERS") kvs = true) (gM : (He.Fa.glo "MANNERS").ok K = true)
    (g1 : (He.Fa.glo "run_word").ok K = true) (g2 : (He.Fa.glo "pivot_word").ok K = true) (g3 : (He.Fa.glo "fold_word").ok K = true) (g4 : (He.Fa.glo "left_word").ok K = true) (g5 : (He.Fa.glo "right_word").ok K = true) : Mn K w mg := by
  obtain ⟨es, n, kd⟩ := cT.tab 0 (t := (fun K => He.ga K "MANNERS", ["run", "pivot", "fold", "left", "right"])) rfl
  have key : ∀ (x y : Str), (x, He.Dv.glo y) ∈ kvs → PySem.W.nsIn K (He.ga K "MANNERS") x = some (some (.ref (He.ga K y))) := fun x y hm => by
    obtain ⟨u, h1, h2⟩ := He.valsB_ok cV hm
    rw [h1, show u = Value.ref (He.ga K y) from h2]
  refine ⟨He.ga K "MANNERS", es, n, He.glo_ok X G gM, kd, fun m => ?_⟩
  cases m with
  | run => exact ⟨_, key "run" "run_word" (by simp [kvs]), He.glo_ok X G g1⟩
  | pivot => exact ⟨_, key "pivot" "pivot_word" (by simp [kvs]), He.glo_ok X G g2⟩
  | fold => exact ⟨_, key "fold" "fold_word" (by simp [kvs]), He.glo_ok X G g3⟩
  | left => exact ⟨_, key "left" "left_word" (by simp [kvs]), He.glo_ok X G g4⟩
  | right => exact ⟨_, key "right" "right_word" (by simp [kvs]), He.glo_ok X G g5⟩
theorem fx_of {w : World} {K : PySem.W.Frag} {h : Heap} {mg : Str → Option Value} (X : K.In h) (G : h.Ns mainGlobals mg) (cc : obsM K = (He.valT fn tabs w, true)) : Fx K w mg := by
  have cT : He.SaysT fa fn tabs w K := congrArg Prod.fst cc
  have cWF : ((He.valsB K (He.ga K "MANNERS") kvs && (icl.all (PL.insB K) && (iot.all (PL.othB K) && nfl.all (PL.nfB K)))) && (rfm.all (PL.fmB K) && (rtp.all (PL.tpB K) && rrf.all (PL.rfB K)))) = true := congrArg Prod.snd cc
  obtain ⟨cWW, cFT⟩ := He.ba cWF
  obtain ⟨cFm, cTp0⟩ := He.ba cFT
  obtain ⟨cTp, cRf⟩ := He.ba cTp0
  have cVV := cWW
  obtain ⟨cV, cIO⟩ := He.ba cVV
  obtain ⟨cI, cON⟩ := He.ba cIO
  obtain ⟨cO, cN⟩ := He.ba cON
  have c : He.SaysD fa fn K := cT.d
  exact {
    D__wall := by
      obtain ⟨fd, F⟩ := c.def_ 0 (d := d__wall) rfl
      exact ⟨⟨_, fd, F, He.glo_ok X G (c.fact 23 (f := .glo "_wall") rfl)⟩⟩
    D_is_whole := by
      obtain ⟨fd, F⟩ := c.def_ 1 (d := d_is_whole) rfl
      exact ⟨⟨_, fd, F, He.glo_ok X G (c.fact 31 (f := .glo "is_whole") rfl)⟩⟩
    D_is_between := by
      obtain ⟨fd, F⟩ := c.def_ 2 (d := d_is_between) rfl
      exact ⟨⟨_, fd, F, He.glo_ok X G (c.fact 27 (f := .glo "is_between") rfl)⟩⟩
    D_is_word := by
      obtain ⟨fd, F⟩ := c.def_ 3 (d := d_is_word) rfl
      exact ⟨⟨_, fd, F, He.glo_ok X G (c.fact 32 (f := .glo "is_word") rfl)⟩⟩
    D_is_shade := by
      obtain ⟨fd, F⟩ := c.def_ 4 (d := d_is_shade) rfl
      exact ⟨⟨_, fd, F, He.glo_ok X G (c.fact 29 (f := .glo "is_shade") rfl)⟩⟩
    D_is_stripe := by
      obtain ⟨fd, F⟩ := c.def_ 5 (d := d_is_stripe) rfl
      exact ⟨⟨_, fd, F, He.glo_ok X G (c.fact 30 (f := .glo "is_stripe") rfl)⟩⟩
    D_check_stripes := by
      obtain ⟨fd, F⟩ := c.def_ 6 (d := d_check_stripes) rfl
      exact ⟨⟨_, fd, F, He.glo_ok X G (c.fact 25 (f := .glo "check_stripes") rfl)⟩⟩
    D_threads_of := by
      obtain ⟨fd, F⟩ := c.def_ 7 (d := d_threads_of) rfl
      exact ⟨⟨_, fd, F, He.glo_ok X G (c.fact 43 (f := .glo "threads_of") rfl)⟩⟩
    D_merged := by
      obtain ⟨fd, F⟩ := c.def_ 8 (d := d_merged) rfl
      exact ⟨⟨_, fd, F, He.glo_ok X G (c.fact 37 (f := .glo "merged") rfl)⟩⟩
    D_words_of := by
      obtain ⟨fd, F⟩ := c.def_ 9 (d := d_words_of) rfl
      exact ⟨⟨_, fd, F, He.glo_ok X G (c.fact 44 (f := .glo "words_of") rfl)⟩⟩
    D_run_word := by
      obtain ⟨fd, F⟩ := c.def_ 10 (d := d_run_word) rfl
      exact ⟨⟨_, fd, F, He.glo_ok X G (c.fact 41 (f := .glo "run_word") rfl)⟩⟩
    D_pivot_word := by
      obtain ⟨fd, F⟩ := c.def_ 11 (d := d_pivot_word) rfl
      exact ⟨⟨_, fd, F, He.glo_ok X G (c.fact 38 (f := .glo "pivot_word") rfl)⟩⟩
    D_fold_word := by
      obtain ⟨fd, F⟩ := c.def_ 12 (d := d_fold_word) rfl
      exact ⟨⟨_, fd, F, He.glo_ok X G (c.fact 26 (f := .glo "fold_word") rfl)⟩⟩
    D_left_word := by
      obtain ⟨fd, F⟩ := c.def_ 13 (d := d_left_word) rfl
      exact ⟨⟨_, fd, F, He.glo_ok X G (c.fact 36 (f := .glo "left_word") rfl)⟩⟩
    D_right_word := by
      obtain ⟨fd, F⟩ := c.def_ 14 (d := d_right_word) rfl
      exact ⟨⟨_, fd, F, He.glo_ok X G (c.fact 39 (f := .glo "right_word") rfl)⟩⟩
    D_is_manner := by
      obtain ⟨fd, F⟩ := c.def_ 15 (d := d_is_manner) rfl
      exact ⟨⟨_, fd, F, He.glo_ok X G (c.fact 28 (f := .glo "is_manner") rfl)⟩⟩
    D_check_spot := by
      obtain ⟨fd, F⟩ := c.def_ 16 (d := d_check_spot) rfl
      exact ⟨⟨_, fd, F, He.glo_ok X G (c.fact 24 (f := .glo "check_spot") rfl)⟩⟩
    D_least_round := by
      obtain ⟨fd, F⟩ := c.def_ 17 (d := d_least_round) rfl
      exact ⟨⟨_, fd, F, He.glo_ok X G (c.fact 35 (f := .glo "least_round") rfl)⟩⟩
    D_least_begun := by
      obtain ⟨fd, F⟩ := c.def_ 18 (d := d_least_begun) rfl
      exact ⟨⟨_, fd, F, He.glo_ok X G (c.fact 34 (f := .glo "least_begun") rfl)⟩⟩
    D_Row___init__ := by
      obtain ⟨fd, F⟩ := c.def_ 19 (d := d_Row___init__) rfl
      exact ⟨⟨_, fd, F, He.mkr_ok (c.fact 62 (f := .mkr "Row") rfl)⟩⟩
    D_Row___len__ := by
      obtain ⟨fd, F⟩ := c.def_ 20 (d := d_Row___len__) rfl
      exact ⟨⟨_, fd, F, He.meth_ok (c.fact 51 (f := .meth "Row" "__len__") rfl)⟩⟩
    D_Row___eq__ := by
      obtain ⟨fd, F⟩ := c.def_ 21 (d := d_Row___eq__) rfl
      exact ⟨⟨_, fd, F, He.meth_ok (c.fact 52 (f := .meth "Row" "__eq__") rfl)⟩⟩
    D_Row___str__ := by
      obtain ⟨fd, F⟩ := c.def_ 22 (d := d_Row___str__) rfl
      exact ⟨⟨_, fd, F, He.meth_ok (c.fact 53 (f := .meth "Row" "__str__") rfl)⟩⟩
    D_Row___repr__ := by
      obtain ⟨fd, F⟩ := c.def_ 23 (d := d_Row___repr__) rfl
      exact ⟨⟨_, fd, F, He.meth_ok (c.fact 54 (f := .meth "Row" "__repr__") rfl)⟩⟩
    D_Row_thread := by
      obtain ⟨fd, F⟩ := c.def_ 24 (d := d_Row_thread) rfl
      exact ⟨⟨_, fd, F, He.meth_ok (c.fact 55 (f := .meth "Row" "thread") rfl)⟩⟩
    D_Row_at := by
      obtain ⟨fd, F⟩ := c.def_ 25 (d := d_Row_at) rfl
      exact ⟨⟨_, fd, F, He.meth_ok (c.fact 56 (f := .meth "Row" "at") rfl)⟩⟩
    D_Row_threads := by
      obtain ⟨fd, F⟩ := c.def_ 26 (d := d_Row_threads) rfl
      exact ⟨⟨_, fd, F, He.meth_ok (c.fact 57 (f := .meth "Row" "threads") rfl)⟩⟩
    D_Row_shades := by
      obtain ⟨fd, F⟩ := c.def_ 27 (d := d_Row_shades) rfl
      exact ⟨⟨_, fd, F, He.meth_ok (c.fact 58 (f := .meth "Row" "shades") rfl)⟩⟩
    D_Row_moved := by
      obtain ⟨fd, F⟩ := c.def_ 28 (d := d_Row_moved) rfl
      exact ⟨⟨_, fd, F, He.meth_ok (c.fact 59 (f := .meth "Row" "moved") rfl)⟩⟩
    D_Row_turned := by
      obtain ⟨fd, F⟩ := c.def_ 29 (d := d_Row_turned) rfl
      exact ⟨⟨_, fd, F, He.meth_ok (c.fact 60 (f := .meth "Row" "turned") rfl)⟩⟩
    D_Row_alike := by
      obtain ⟨fd, F⟩ := c.def_ 30 (d := d_Row_alike) rfl
      exact ⟨⟨_, fd, F, He.meth_ok (c.fact 61 (f := .meth "Row" "alike") rfl)⟩⟩
    D_row_of_threads := by
      obtain ⟨fd, F⟩ := c.def_ 31 (d := d_row_of_threads) rfl
      exact ⟨⟨_, fd, F, He.glo_ok X G (c.fact 40 (f := .glo "row_of_threads") rfl)⟩⟩
    D_show_row := by
      obtain ⟨fd, F⟩ := c.def_ 32 (d := d_show_row) rfl
      exact ⟨⟨_, fd, F, He.glo_ok X G (c.fact 42 (f := .glo "show_row") rfl)⟩⟩
    D__law_pool := by
      obtain ⟨fd, F⟩ := c.def_ 33 (d := d__law_pool) rfl
      exact ⟨⟨_, fd, F, He.glo_ok X G (c.fact 15 (f := .glo "_law_pool") rfl)⟩⟩
    D__law_take := by
      obtain ⟨fd, F⟩ := c.def_ 34 (d := d__law_take) rfl
      exact ⟨⟨_, fd, F, He.glo_ok X G (c.fact 18 (f := .glo "_law_take") rfl)⟩⟩
    D__law_some_shades := by
      obtain ⟨fd, F⟩ := c.def_ 35 (d := d__law_some_shades) rfl
      exact ⟨⟨_, fd, F, He.glo_ok X G (c.fact 16 (f := .glo "_law_some_shades") rfl)⟩⟩
    D__law_drawn_stripes := by
      obtain ⟨fd, F⟩ := c.def_ 36 (d := d__law_drawn_stripes) rfl
      exact ⟨⟨_, fd, F, He.glo_ok X G (c.fact 8 (f := .glo "_law_drawn_stripes") rfl)⟩⟩
    D__law_threads := by
      obtain ⟨fd, F⟩ := c.def_ 37 (d := d__law_threads) rfl
      exact ⟨⟨_, fd, F, He.glo_ok X G (c.fact 20 (f := .glo "_law_threads") rfl)⟩⟩
    D__law_word := by
      obtain ⟨fd, F⟩ := c.def_ 38 (d := d__law_word) rfl
      exact ⟨⟨_, fd, F, He.glo_ok X G (c.fact 22 (f := .glo "_law_word") rfl)⟩⟩
    D__law_least_round := by
      obtain ⟨fd, F⟩ := c.def_ 39 (d := d__law_least_round) rfl
      exact ⟨⟨_, fd, F, He.glo_ok X G (c.fact 11 (f := .glo "_law_least_round") rfl)⟩⟩
    D__law_due := by
      obtain ⟨fd, F⟩ := c.def_ 40 (d := d__law_due) rfl
      exact ⟨⟨_, fd, F, He.glo_ok X G (c.fact 9 (f := .glo "_law_due") rfl)⟩⟩
    D__law_merged := by
      obtain ⟨fd, F⟩ := c.def_ 41 (d := d__law_merged) rfl
      exact ⟨⟨_, fd, F, He.glo_ok X G (c.fact 12 (f := .glo "_law_merged") rfl)⟩⟩
    D__law_split := by
      obtain ⟨fd, F⟩ := c.def_ 42 (d := d__law_split) rfl
      exact ⟨⟨_, fd, F, He.glo_ok X G (c.fact 17 (f := .glo "_law_split") rfl)⟩⟩
    D__law_from_the_end := by
      obtain ⟨fd, F⟩ := c.def_ 43 (d := d__law_from_the_end) rfl
      exact ⟨⟨_, fd, F, He.glo_ok X G (c.fact 10 (f := .glo "_law_from_the_end") rfl)⟩⟩
    D__law_tellings := by
      obtain ⟨fd, F⟩ := c.def_ 44 (d := d__law_tellings) rfl
      exact ⟨⟨_, fd, F, He.glo_ok X G (c.fact 19 (f := .glo "_law_tellings") rfl)⟩⟩
    D__law_alike := by
      obtain ⟨fd, F⟩ := c.def_ 45 (d := d__law_alike) rfl
      exact ⟨⟨_, fd, F, He.glo_ok X G (c.fact 7 (f := .glo "_law_alike") rfl)⟩⟩
    D__law_moved_right := by
      obtain ⟨fd, F⟩ := c.def_ 46 (d := d__law_moved_right) rfl
      exact ⟨⟨_, fd, F, He.glo_ok X G (c.fact 13 (f := .glo "_law_moved_right") rfl)⟩⟩
    D__law_unlike := by
      obtain ⟨fd, F⟩ := c.def_ 47 (d := d__law_unlike) rfl
      exact ⟨⟨_, fd, F, He.glo_ok X G (c.fact 21 (f := .glo "_law_unlike") rfl)⟩⟩
    D__law_others := by
      obtain ⟨fd, F⟩ := c.def_ 48 (d := d__law_others) rfl
      exact ⟨⟨_, fd, F, He.glo_ok X G (c.fact 14 (f := .glo "_law_others") rfl)⟩⟩
    D_law := by
      obtain ⟨fd, F⟩ := c.def_ 49 (d := d_law) rfl
      exact ⟨⟨_, fd, F, He.glo_ok X G (c.fact 33 (f := .glo "law") rfl)⟩⟩
    I_BIG := He.int_ok X G (c.fact 45 (f := .int "BIG" 1000000000000000000000000000000) rfl)
    I_MOST := He.int_ok X G (c.fact 46 (f := .int "MOST" 240) rfl)
    S_LETTERS := He.str_ok X G (c.fact 47 (f := .str "LETTERS" "abcdefghijklmnopqrstuvwxyz") rfl)
    C_Row := He.cls_ok (c.fact 48 (f := .cls "Row") rfl)
    G_Row := He.glo_ok X G (c.fact 3 (f := .glo "Row") rfl)
    N_Row_kept := He.noat_ok (c.fact 49 (f := .noat "Row" "kept") rfl)
    I_Row := insB_ok (He.cls_ok (c.fact 48 (f := .cls "Row") rfl)) (List.all_eq_true.mp cI "Row" (by simp [icl]))
    E_Row := nfB_ok (insB_ok (He.cls_ok (c.fact 48 (f := .cls "Row") rfl)) (List.all_eq_true.mp cI "Row" (by simp [icl]))) (List.all_eq_true.mp cN "Row" (by simp [nfl]))
    T := fun x hx => He.free_ok X G (he_mem c (List.mem_append_right _ (List.mem_map_of_mem (show x ∈ bltN from hx))))
    M := mn_of X G c cT cV (c.fact 63 (f := .glo "MANNERS") rfl) (c.fact 41 (f := .glo "run_word") rfl) (c.fact 38 (f := .glo "pivot_word") rfl) (c.fact 26 (f := .glo "fold_word") rfl) (c.fact 36 (f := .glo "left_word") rfl) (c.fact 39 (f := .glo "right_word") rfl)
    RF_Row := rfB_ok (List.all_eq_true.mp cRf "Row" (by simp [rrf]))
  }
theorem facts {Pg : Program} {w : World} {K : PySem.W.Frag} {h : Heap} {mg : Str → Option Value} {f : Addr} (X : K.In h) (G : h.Ns mainGlobals mg) (hf : mg ("law" : Str) = some (.ref f)) (cc : obsM K = (He.valT fn tabs w, true)) :
    ∃ fd : FuncData, (∀ (s : Shared) (v : Value), BindsTo s fd ⟨[v], []⟩ [("_law_script", v)]) ∧ ∀ base : Heap, PL.FnOk Pg w K mg base CX0 11 f fd ["_law_script"] (spLaw K) := by
  have F := fx_of X G cc
  obtain ⟨f', fd, FD, gm⟩ := F.D_law.ex
  rw [hf] at gm
  obtain rfl : f = f' := by cases gm; rfl
  have b := FunD.bindsA (ps := ["_law_script"]) FD fun _ _ _ _ _ _ us hl => match us, hl with | [_], _ => rfl
  refine ⟨fd, fun s v => b s [v] rfl, fun base => ?_⟩
  have k1 : C0 Pg w K mg base "is_whole" 1 ["x"] P_is_whole := c_is_whole F.D_is_whole F.T
  have k2 : C0 Pg w K mg base "is_between" 2 ["x", "low", "high"] P_is_between := c_is_between F.D_is_between k1
  have k3 : C0 Pg w K mg base "is_word" 1 ["thing", "most"] P_is_word := c_is_word F.D_is_word F.T F.S_LETTERS
  have k4 : C0 Pg w K mg base "is_shade" 2 ["thing"] P_is_shade := c_is_shade F.D_is_shade k3
  have k5 : C0 Pg w K mg base "is_stripe" 3 ["thing"] P_is_stripe := c_is_stripe F.D_is_stripe F.T k4 k1
  have k6 : C0 Pg w K mg base "check_stripes" 4 ["thing"] P_check_stripes := c_check_stripes F.D_check_stripes F.T F.I_MOST k5
  have k7 : C0 Pg w K mg base "threads_of" 5 ["stripes"] P_threads_of := c_threads_of F.D_threads_of F.T k6
  have k8 : C0 Pg w K mg base "merged" 1 ["threads"] P_merged := c_merged F.D_merged F.T
  have kL : ∀ m : Mnr, C0 Pg w K mg base m.f 1 ["threads"] (P_lay m) := fun m => by
    cases m with
    | run => exact c_run_word F.D_run_word
    | pivot => exact c_pivot_word F.D_pivot_word
    | fold => exact c_fold_word F.D_fold_word
    | left => exact c_left_word F.D_left_word
    | right => exact c_right_word F.D_right_word
  have k14 : C0 Pg w K mg base "is_manner" 1 ["thing"] P_is_manner := c_is_manner F.D_is_manner F.T F.M
  have k15 : C0 Pg w K mg base "check_spot" 3 ["thing"] P_check_spot := c_check_spot F.D_check_spot F.I_BIG k2
  have k16 : C0 Pg w K mg base "least_round" 1 ["threads"] P_least_round := c_least_round F.D_least_round F.T
  have kX := c_RowX (Pg := Pg) (base := base) (He.ga K "Row") F.D_Row___init__ F.T F.M F.G_Row F.C_Row F.N_Row_kept F.I_MOST k7 k14 k15 kL k16
  have k18 := c_Row (Pg := Pg) (base := base) (He.ga K "Row") kX
  have k19 : M0 Pg w K mg base (He.ga K "Row") "thread" 1 ["self", "spot"] (P_thread (He.ga K "Row")) := c_thread (He.ga K "Row") F.D_Row_thread F.T F.C_Row F.N_Row_kept
  have k20 : M0 Pg w K mg base (He.ga K "Row") "threads" 1 ["self"] (P_threads (He.ga K "Row")) := c_threads (He.ga K "Row") F.D_Row_threads F.C_Row F.N_Row_kept
  have k21 : C0 Pg w K mg base "row_of_threads" 8 ["threads"] (P_row_of (He.ga K "Row")) := c_row_of (He.ga K "Row") F.D_row_of_threads F.I_MOST k16 k8 k18
  have k22 : M0 Pg w K mg base (He.ga K "Row") "moved" 9 ["self", "by"] (P_moved (He.ga K "Row")) := c_moved (He.ga K "Row") F.D_Row_moved F.T F.C_Row F.N_Row_kept k15 k19 k21
  have k23 : M0 Pg w K mg base (He.ga K "Row") "__len__" 1 ["self"] (P_len (He.ga K "Row")) := c_len (He.ga K "Row") F.D_Row___len__ F.T F.C_Row F.N_Row_kept
  have k24 : M0 Pg w K mg base (He.ga K "Row") "alike" 1 ["self", "other"] (P_alike (He.ga K "Row")) := c_alike (He.ga K "Row") F.D_Row_alike F.T F.C_Row F.N_Row_kept F.I_Row F.G_Row
  have k25 := c_RowKw (Pg := Pg) (base := base) (He.ga K "Row") kX
  have k26 : C1 Pg w K mg base "_law_take" 1 ["_law_pool_here", "_law_many"] P_take := c_take F.D__law_take F.T
  have k27 : C0 Pg w K mg base "_law_pool" 1 ["_law_script", "_law_k"] P_pool := c_pool F.D__law_pool F.T
  have k28 : C1 Pg w K mg base "_law_some_shades" 2 ["_law_pool_here", "_law_many"] P_shades := c_shades F.D__law_some_shades F.T k26
  have k29 : C1 Pg w K mg base "_law_drawn_stripes" 2 ["_law_pool_here", "_law_shades", "_law_most", "_law_wide"] P_drawn := c_drawn F.D__law_drawn_stripes F.T k26
  have k30 : C0 Pg w K mg base "_law_threads" 1 ["_law_stripes"] P_lthreads := c_lthreads F.D__law_threads
  have k31 : C0 Pg w K mg base "_law_word" 1 ["_law_words", "_law_tack"] P_word := c_word F.D__law_word F.T
  have k32 : C0 Pg w K mg base "_law_least_round" 1 ["_law_words"] P_lleast := c_lleast F.D__law_least_round F.T
  have k33 : C0 Pg w K mg base "_law_due" 2 ["_law_stripes", "_law_tack", "_law_begun"] P_due := c_due F.D__law_due F.T k30 k31 k32
  have k34 : C0 Pg w K mg base "least_begun" 1 ["threads"] P_lb := c_least_begun F.D_least_begun F.T
  have k35 : M0 Pg w K mg base (He.ga K "Row") "__eq__" 2 ["self", "other"] (P_eqR (He.ga K "Row")) := c_eqR (He.ga K "Row") F.D_Row___eq__ F.T F.C_Row F.N_Row_kept F.I_Row F.G_Row k34
  have k36 : M0 Pg w K mg base (He.ga K "Row") "__str__" 2 ["self"] (P_strR (He.ga K "Row")) := c_strR (He.ga K "Row") F.D_Row___str__ F.T F.C_Row F.N_Row_kept k34 k8
  have k37 : M0 Pg w K mg base (He.ga K "Row") "__repr__" 2 ["self"] (P_reprR (He.ga K "Row")) := c_reprR (He.ga K "Row") F.D_Row___repr__ F.T F.C_Row F.N_Row_kept k8
  have k38 : C0 Pg w K mg base "words_of" 1 ["stripes"] P_wof := c_wof F.D_words_of F.T
  have k39 : C0 Pg w K mg base "show_row" 2 ["row"] (P_srow (He.ga K "Row")) := c_srow (He.ga K "Row") F.D_show_row F.C_Row k20 k8 k38
  have k40 : C0 Pg w K mg base "_law_merged" 1 ["_law_words"] P_sof := c_sof F.D__law_merged F.T
  have k41 : Cp Pg w K mg base "_law_split" 2 ["_law_pool_here", "_law_parts"] pre_spl post_spl := c_spl06 F.D__law_split F.T k26
  have k42 : C0 Pg w K mg base "_law_from_the_end" 1 ["_law_words", "_law_tack", "_law_begun"] P_end06 := c_end06 F.D__law_from_the_end F.T
  have k43 : Cp Pg w K mg base "_law_tellings" 8 ["_law_pool_here", "_law_words", "_law_tack", "_law_begun", "_law_due_here"] pre_tell (post_tell (He.ga K "Row")) := c_tell06 (He.ga K "Row") F.D__law_tellings F.T k26 k40 k41 k42 k31 k18 k25
  have k44 : C0 Pg w K mg base "_law_alike" 5 ["_law_one", "_law_other"] (P_alk06 (He.ga K "Row")) := c_alk06 (He.ga K "Row") F.D__law_alike F.T F.C_Row F.E_Row k35 k24 k23 k36 k37 k20 k39
  have k45 : C0 Pg w K mg base "_law_moved_right" 10 ["_law_row", "_law_by"] (P_mvr06 (He.ga K "Row")) := c_mvr06 (He.ga K "Row") F.D__law_moved_right F.T F.C_Row F.E_Row k35 k24 k23 k36 k22
  have k46 : C0 Pg w K mg base "_law_unlike" 5 ["_law_one", "_law_other"] (P_unl06 (He.ga K "Row")) := c_unl06 (He.ga K "Row") F.D__law_unlike F.T F.C_Row F.E_Row k35 k24 k36
  have k47 : C0 Pg w K mg base "_law_others" 1 ["_law_due_here"] P_oth06 := c_oth06 F.D__law_others F.T
  exact c_law (He.ga K "Row") FD F.T F.C_Row F.E_Row F.RF_Row k27 k26 k28 k29 k30 k33 k18 k20 k43 k44 k45 k46 k47 k40 k35 k36 k37
end Hd
open PySem PySem.W PySem.Calls PyProof.Rows
theorem PySem.Challenge.cw_stripelay_k06_whole_one_row_by_all_its_t_holds : PySem.Challenge.rw_stripelay_k06_whole_one_row_by_all_its_t.Holds := by
  w_on; o_law
  refine HandSHeadRun.head_any (r := OpenLaw.row PySem.Challenge.rw_stripelay_k06_whole_one_row_by_all_its_t) (q := view (OpenLaw.row PySem.Challenge.rw_stripelay_k06_whole_one_row_by_all_its_t).prog [53]) (H := Hd.hk) (ob := Hd.ob) (M := 30000) (loose := Hd.loose) (d := HandSHeadRun.topDef (OpenLaw.row PySem.Challenge.rw_stripelay_k06_whole_one_row_by_all_its_t).prog 53) (kwd := []) Hd.ob_eq
    (by kernel_rfl) (fun s => by kernel_rfl) Hd.run (by kernel_rfl) (by kernel_rfl) (by kernel_rfl) (by rfl) (by first | assumption | decide +kernel) (by decide +kernel) ⟨rfl, rfl, rfl, rfl, rfl, by decide +kernel⟩ ?hw ?hc
  case hw => w_witness2
  case hc =>
    refine PL.walk_ofG (l := PySem.Challenge.rw_stripelay_k06_whole_one_row_by_all_its_t) (n := 63) (k := 11) (x := "_law_script") (CX := L2.CX0) rfl (by decide) (by kernel_rfl) ⟨⟨rfl, by decide, by decide⟩, rfl⟩ ?F (fun _ _ _ _ z => z)
    intro w mg fa h Y G hmg0
    obtain ⟨K, KX, c⟩ := Y
    have hmg : mg ("law" : PySem.Str) = some (.ref fa) := by
      have e : (HandSHeadRun.topDef (OpenLaw.row PySem.Challenge.rw_stripelay_k06_whole_one_row_by_all_its_t).prog 53).name = ("law" : PySem.Str) := by kernel_rfl
      rw [← e]
      exact hmg0
    obtain ⟨fd, hb, hF⟩ := Hd.facts (Pg := (PySem.Challenge.rw_stripelay_k06_whole_one_row_by_all_its_t).prog) (w := w) KX G hmg c
    exact ⟨K, fd, Hd.spLaw K, KX, hb, fun H a ns hl _ hS => ⟨a, ns, rfl, hS, fun _ => rfl⟩, hF⟩
