import PyProof.Rows.All
import Wide.All
import OpenK.AllK
import Wide.FinOn
import PyProof.EqAt
import PyProof.EqKinds
import PyProof.TupleCall
import KE.KOwnIter
import KE.KExcSuper
import KE.KMinKey
import HandS.ForMost
import HandS.ForExc
import HandS.Slots
import HandS.SlotsOwn
import HandS.IterVal
import HandS.IsInst
import HandS.Conv
import HandS.Style
import HandS.Deep
import HandS.SortRule
import HandS.Sort
import HandS.Wide
import HandS.ClsMeth
import HandS.Defaults
import HandS.MakeKw
import HandS.MakeKwOnly
import HandS.ExcInit
import HandS.ExcIs
import HandS.ExcField
import HandS.ExcSuper
import HandS.TryMany
import HandS.HotCalls
import HandS.Lambda
import HandS.EndTab
import HandS.Head0
import HandS.Head1
import HandS.Head2
import HandS.HeadEnd
import HandS.HeadHook1
import HandS.HeadHook2
import HandS.HeadHook3
import HandS.HeadHook4
import HandS.HeadNt
import HandS.HeadWalk
import PySem.Challenge.RW_heaprows_k07_whole_refused
import KE.KExcIs
import KE.GoesMore
import HandS.Star
set_option Elab.async false
set_option linter.all false
set_option maxRecDepth 100000
set_option maxHeartbeats 0
/-! the text by places; what the head tells of it -/
namespace K7
open PySem PySem.Spec PyProof.Rows L2
/-- the i-th statement of the top -/
def top (i : Nat) : Stmt := PySem.Challenge.pw_heaprows_k07_whole_refused.main.body.getD i (.Pass ⟨0, 0, 0, 0⟩)
abbrev s_is_number : Stmt := top 14
abbrev s_is_key : Stmt := top 15
abbrev s_check_arms : Stmt := top 16
abbrev s_check_row : Stmt := top 17
abbrev s_Tree_init : Stmt := inClass (top 18) 1
abbrev s_Tree_of : Stmt := inClass (top 18) 2
abbrev s_Tree_contains : Stmt := inClass (top 18) 4
abbrev s_Tree_iter : Stmt := inClass (top 18) 5
abbrev s_Tree_getitem : Stmt := inClass (top 18) 6
abbrev s_Tree_check_place : Stmt := inClass (top 18) 8
abbrev s_Tree_parent : Stmt := inClass (top 18) 9
abbrev s_Tree_way_to : Stmt := inClass (top 18) 10
abbrev s_Tree_depth : Stmt := inClass (top 18) 11
abbrev s_Tree_subtree : Stmt := inClass (top 18) 12
abbrev s_Tree_size : Stmt := inClass (top 18) 13
abbrev s_Tree_height : Stmt := inClass (top 18) 14
abbrev s_check_heap : Stmt := top 20
abbrev s_faults_in : Stmt := top 21
abbrev s_falls_in : Stmt := top 22
abbrev s_is_heap : Stmt := top 23
abbrev s_faults : Stmt := top 24
abbrev s_falls : Stmt := top 25
abbrev s_ranks : Stmt := top 26
abbrev s_Sift_init : Stmt := inClass (top 28) 1
abbrev s_moved : Stmt := top 29
abbrev s_first_least : Stmt := top 30
abbrev s_way_up : Stmt := top 31
abbrev s_way_down : Stmt := top 32
abbrev s_way_of_hole : Stmt := top 33
abbrev s_lifted : Stmt := top 34
abbrev s_sunk : Stmt := top 35
abbrev s_sift_up : Stmt := top 36
abbrev s_sift_down : Stmt := top 37
abbrev s_Built_init : Stmt := inClass (top 39) 1
abbrev s_parents_of : Stmt := top 40
abbrev s_built : Stmt := top 41
abbrev s_without_last : Stmt := top 42
abbrev s_taken : Stmt := top 43
abbrev s_taken_by_hole : Stmt := top 44
abbrev s_check_full : Stmt := top 45
abbrev s_push : Stmt := top 46
abbrev s_take : Stmt := top 47
abbrev s_take_by_hole : Stmt := top 48
abbrev s_put_for : Stmt := top 49
abbrev s_build : Stmt := top 50
abbrev s_law_number : Stmt := top 52
abbrev s_law_take : Stmt := top 53
abbrev s_law_pick : Stmt := top 54
abbrev s_law_parent : Stmt := top 55
abbrev s_law_arms : Stmt := top 56
abbrev s_law_keys : Stmt := top 57
abbrev s_law_heap : Stmt := top 58
abbrev s_law_is_number : Stmt := top 59
abbrev s_law_odd : Stmt := top 60
abbrev s_law_row_word : Stmt := top 61
abbrev s_law_heap_word : Stmt := top 62
abbrev s_law_arms_word : Stmt := top 63
abbrev s_law_first_word : Stmt := top 64
abbrev s_law_told : Stmt := top 65
abbrev s_law_trees_right : Stmt := top 66
abbrev s_law_rows_right : Stmt := top 67
abbrev s_law_heaps_right : Stmt := top 68
abbrev s_law : Stmt := top 69
abbrev s_BadRow_init : Stmt := inClass (top 2) 0
abbrev s_NotHeap_init : Stmt := inClass (top 3) 0
section
variable (K : PySem.W.Frag)
open He
abbrev a_is_number : Addr := ga K "is_number"
abbrev a_is_key : Addr := ga K "is_key"
abbrev a_check_arms : Addr := ga K "check_arms"
abbrev a_check_row : Addr := ga K "check_row"
abbrev a_Tree_init : Addr := ma K (ga K "Tree") "__init__"
abbrev a_Tree_of : Addr := He5.wf K (ga K "Tree") "classmethod" "of"
abbrev a_Tree_contains : Addr := ma K (ga K "Tree") "__contains__"
abbrev a_Tree_iter : Addr := ma K (ga K "Tree") "__iter__"
abbrev a_Tree_getitem : Addr := ma K (ga K "Tree") "__getitem__"
abbrev a_Tree_check_place : Addr := ma K (ga K "Tree") "check_place"
abbrev a_Tree_parent : Addr := ma K (ga K "Tree") "parent"
abbrev a_Tree_way_to : Addr := ma K (ga K "Tree") "way_to"
abbrev a_Tree_depth : Addr := ma K (ga K "Tree") "depth"
abbrev a_Tree_subtree : Addr := ma K (ga K "Tree") "subtree"
abbrev a_Tree_size : Addr := ma K (ga K "Tree") "size"
abbrev a_Tree_height : Addr := ma K (ga K "Tree") "height"
abbrev a_check_heap : Addr := ga K "check_heap"
abbrev a_faults_in : Addr := ga K "faults_in"
abbrev a_falls_in : Addr := ga K "falls_in"
abbrev a_is_heap : Addr := ga K "is_heap"
abbrev a_faults : Addr := ga K "faults"
abbrev a_falls : Addr := ga K "falls"
abbrev a_ranks : Addr := ga K "ranks"
abbrev a_Sift_init : Addr := ma K (ga K "Sift") "__init__"
abbrev a_moved : Addr := ga K "moved"
abbrev a_first_least : Addr := ga K "first_least"
abbrev a_way_up : Addr := ga K "way_up"
abbrev a_way_down : Addr := ga K "way_down"
abbrev a_way_of_hole : Addr := ga K "way_of_hole"
abbrev a_lifted : Addr := ga K "lifted"
abbrev a_sunk : Addr := ga K "sunk"
abbrev a_sift_up : Addr := ga K "sift_up"
abbrev a_sift_down : Addr := ga K "sift_down"
abbrev a_Built_init : Addr := ma K (ga K "Built") "__init__"
abbrev a_parents_of : Addr := ga K "parents_of"
abbrev a_built : Addr := ga K "built"
abbrev a_without_last : Addr := ga K "without_last"
abbrev a_taken : Addr := ga K "taken"
abbrev a_taken_by_hole : Addr := ga K "taken_by_hole"
abbrev a_check_full : Addr := ga K "check_full"
abbrev a_push : Addr := ga K "push"
abbrev a_take : Addr := ga K "take"
abbrev a_take_by_hole : Addr := ga K "take_by_hole"
abbrev a_put_for : Addr := ga K "put_for"
abbrev a_build : Addr := ga K "build"
abbrev a_law_number : Addr := ga K "_law_number"
abbrev a_law_take : Addr := ga K "_law_take"
abbrev a_law_pick : Addr := ga K "_law_pick"
abbrev a_law_parent : Addr := ga K "_law_parent"
abbrev a_law_arms : Addr := ga K "_law_arms"
abbrev a_law_keys : Addr := ga K "_law_keys"
abbrev a_law_heap : Addr := ga K "_law_heap"
abbrev a_law_is_number : Addr := ga K "_law_is_number"
abbrev a_law_odd : Addr := ga K "_law_odd"
abbrev a_law_row_word : Addr := ga K "_law_row_word"
abbrev a_law_heap_word : Addr := ga K "_law_heap_word"
abbrev a_law_arms_word : Addr := ga K "_law_arms_word"
abbrev a_law_first_word : Addr := ga K "_law_first_word"
abbrev a_law_told : Addr := ga K "_law_told"
abbrev a_law_trees_right : Addr := ga K "_law_trees_right"
abbrev a_law_rows_right : Addr := ga K "_law_rows_right"
abbrev a_law_heaps_right : Addr := ga K "_law_heaps_right"
abbrev a_law : Addr := ga K "law"
abbrev a_HeapError : Addr := ga K "HeapError"
abbrev a_BadRow : Addr := ga K "BadRow"
abbrev a_NotHeap : Addr := ga K "NotHeap"
abbrev a_BadArms : Addr := ga K "BadArms"
abbrev a_BadMany : Addr := ga K "BadMany"
abbrev a_BadPlace : Addr := ga K "BadPlace"
abbrev a_BadKey : Addr := ga K "BadKey"
abbrev a_Empty : Addr := ga K "Empty"
abbrev a_Full : Addr := ga K "Full"
abbrev a_Tree : Addr := ga K "Tree"
abbrev a_Sift : Addr := ga K "Sift"
abbrev a_Built : Addr := ga K "Built"
abbrev a_BadRow_init : Addr := ma K (ga K "BadRow") "__init__"
abbrev a_NotHeap_init : Addr := ma K (ga K "NotHeap") "__init__"
end
open He
/-- the defs -/
def d_is_number : He5.DefA := ⟨fun K => a_is_number K, "is_number", "is_number", defArgs s_is_number, defBody s_is_number, defScope s_is_number, [], []⟩
def d_is_key : He5.DefA := ⟨fun K => a_is_key K, "is_key", "is_key", defArgs s_is_key, defBody s_is_key, defScope s_is_key, [], []⟩
def d_check_arms : He5.DefA := ⟨fun K => a_check_arms K, "check_arms", "check_arms", defArgs s_check_arms, defBody s_check_arms, defScope s_check_arms, [], []⟩
def d_check_row : He5.DefA := ⟨fun K => a_check_row K, "check_row", "check_row", defArgs s_check_row, defBody s_check_row, defScope s_check_row, [], []⟩
def d_Tree_init : He5.DefA := ⟨fun K => a_Tree_init K, "__init__", "Tree.__init__", defArgs s_Tree_init, defBody s_Tree_init, defScope s_Tree_init, [], [("arms", .int 2)]⟩
def d_Tree_of : He5.DefA := ⟨fun K => a_Tree_of K, "of", "Tree.of", defArgs s_Tree_of, defBody s_Tree_of, defScope s_Tree_of, [], [("arms", .int 2)]⟩
def d_Tree_contains : He5.DefA := ⟨fun K => a_Tree_contains K, "__contains__", "Tree.__contains__", defArgs s_Tree_contains, defBody s_Tree_contains, defScope s_Tree_contains, [], []⟩
def d_Tree_iter : He5.DefA := ⟨fun K => a_Tree_iter K, "__iter__", "Tree.__iter__", defArgs s_Tree_iter, defBody s_Tree_iter, defScope s_Tree_iter, [], []⟩
def d_Tree_getitem : He5.DefA := ⟨fun K => a_Tree_getitem K, "__getitem__", "Tree.__getitem__", defArgs s_Tree_getitem, defBody s_Tree_getitem, defScope s_Tree_getitem, [], []⟩
def d_Tree_check_place : He5.DefA := ⟨fun K => a_Tree_check_place K, "check_place", "Tree.check_place", defArgs s_Tree_check_place, defBody s_Tree_check_place, defScope s_Tree_check_place, [], []⟩
def d_Tree_parent : He5.DefA := ⟨fun K => a_Tree_parent K, "parent", "Tree.parent", defArgs s_Tree_parent, defBody s_Tree_parent, defScope s_Tree_parent, [], []⟩
def d_Tree_way_to : He5.DefA := ⟨fun K => a_Tree_way_to K, "way_to", "Tree.way_to", defArgs s_Tree_way_to, defBody s_Tree_way_to, defScope s_Tree_way_to, [], []⟩
def d_Tree_depth : He5.DefA := ⟨fun K => a_Tree_depth K, "depth", "Tree.depth", defArgs s_Tree_depth, defBody s_Tree_depth, defScope s_Tree_depth, [], []⟩
def d_Tree_subtree : He5.DefA := ⟨fun K => a_Tree_subtree K, "subtree", "Tree.subtree", defArgs s_Tree_subtree, defBody s_Tree_subtree, defScope s_Tree_subtree, [], []⟩
def d_Tree_size : He5.DefA := ⟨fun K => a_Tree_size K, "size", "Tree.size", defArgs s_Tree_size, defBody s_Tree_size, defScope s_Tree_size, [], []⟩
def d_Tree_height : He5.DefA := ⟨fun K => a_Tree_height K, "height", "Tree.height", defArgs s_Tree_height, defBody s_Tree_height, defScope s_Tree_height, [], []⟩
def d_check_heap : He5.DefA := ⟨fun K => a_check_heap K, "check_heap", "check_heap", defArgs s_check_heap, defBody s_check_heap, defScope s_check_heap, [], []⟩
def d_faults_in : He5.DefA := ⟨fun K => a_faults_in K, "faults_in", "faults_in", defArgs s_faults_in, defBody s_faults_in, defScope s_faults_in, [], []⟩
def d_falls_in : He5.DefA := ⟨fun K => a_falls_in K, "falls_in", "falls_in", defArgs s_falls_in, defBody s_falls_in, defScope s_falls_in, [], []⟩
def d_is_heap : He5.DefA := ⟨fun K => a_is_heap K, "is_heap", "is_heap", defArgs s_is_heap, defBody s_is_heap, defScope s_is_heap, [], [("arms", .int 2)]⟩
def d_faults : He5.DefA := ⟨fun K => a_faults K, "faults", "faults", defArgs s_faults, defBody s_faults, defScope s_faults, [], [("arms", .int 2)]⟩
def d_falls : He5.DefA := ⟨fun K => a_falls K, "falls", "falls", defArgs s_falls, defBody s_falls, defScope s_falls, [], [("arms", .int 2)]⟩
def d_ranks : He5.DefA := ⟨fun K => a_ranks K, "ranks", "ranks", defArgs s_ranks, defBody s_ranks, defScope s_ranks, [], []⟩
def d_Sift_init : He5.DefA := ⟨fun K => a_Sift_init K, "__init__", "Sift.__init__", defArgs s_Sift_init, defBody s_Sift_init, defScope s_Sift_init, [], []⟩
def d_moved : He5.DefA := ⟨fun K => a_moved K, "moved", "moved", defArgs s_moved, defBody s_moved, defScope s_moved, [], []⟩
def d_first_least : He5.DefA := ⟨fun K => a_first_least K, "first_least", "first_least", defArgs s_first_least, defBody s_first_least, defScope s_first_least, [], []⟩
def d_way_up : He5.DefA := ⟨fun K => a_way_up K, "way_up", "way_up", defArgs s_way_up, defBody s_way_up, defScope s_way_up, [], []⟩
def d_way_down : He5.DefA := ⟨fun K => a_way_down K, "way_down", "way_down", defArgs s_way_down, defBody s_way_down, defScope s_way_down, [], []⟩
def d_way_of_hole : He5.DefA := ⟨fun K => a_way_of_hole K, "way_of_hole", "way_of_hole", defArgs s_way_of_hole, defBody s_way_of_hole, defScope s_way_of_hole, [], []⟩
def d_lifted : He5.DefA := ⟨fun K => a_lifted K, "lifted", "lifted", defArgs s_lifted, defBody s_lifted, defScope s_lifted, [], []⟩
def d_sunk : He5.DefA := ⟨fun K => a_sunk K, "sunk", "sunk", defArgs s_sunk, defBody s_sunk, defScope s_sunk, [], []⟩
def d_sift_up : He5.DefA := ⟨fun K => a_sift_up K, "sift_up", "sift_up", defArgs s_sift_up, defBody s_sift_up, defScope s_sift_up, [], [("arms", .int 2)]⟩
def d_sift_down : He5.DefA := ⟨fun K => a_sift_down K, "sift_down", "sift_down", defArgs s_sift_down, defBody s_sift_down, defScope s_sift_down, [], [("arms", .int 2)]⟩
def d_Built_init : He5.DefA := ⟨fun K => a_Built_init K, "__init__", "Built.__init__", defArgs s_Built_init, defBody s_Built_init, defScope s_Built_init, [], []⟩
def d_parents_of : He5.DefA := ⟨fun K => a_parents_of K, "parents_of", "parents_of", defArgs s_parents_of, defBody s_parents_of, defScope s_parents_of, [], []⟩
def d_built : He5.DefA := ⟨fun K => a_built K, "built", "built", defArgs s_built, defBody s_built, defScope s_built, [], []⟩
def d_without_last : He5.DefA := ⟨fun K => a_without_last K, "without_last", "without_last", defArgs s_without_last, defBody s_without_last, defScope s_without_last, [], []⟩
def d_taken : He5.DefA := ⟨fun K => a_taken K, "taken", "taken", defArgs s_taken, defBody s_taken, defScope s_taken, [], []⟩
def d_taken_by_hole : He5.DefA := ⟨fun K => a_taken_by_hole K, "taken_by_hole", "taken_by_hole", defArgs s_taken_by_hole, defBody s_taken_by_hole, defScope s_taken_by_hole, [], []⟩
def d_check_full : He5.DefA := ⟨fun K => a_check_full K, "check_full", "check_full", defArgs s_check_full, defBody s_check_full, defScope s_check_full, [], []⟩
def d_push : He5.DefA := ⟨fun K => a_push K, "push", "push", defArgs s_push, defBody s_push, defScope s_push, [], [("arms", .int 2)]⟩
def d_take : He5.DefA := ⟨fun K => a_take K, "take", "take", defArgs s_take, defBody s_take, defScope s_take, [], [("arms", .int 2)]⟩
def d_take_by_hole : He5.DefA := ⟨fun K => a_take_by_hole K, "take_by_hole", "take_by_hole", defArgs s_take_by_hole, defBody s_take_by_hole, defScope s_take_by_hole, [], [("arms", .int 2)]⟩
def d_put_for : He5.DefA := ⟨fun K => a_put_for K, "put_for", "put_for", defArgs s_put_for, defBody s_put_for, defScope s_put_for, [], [("arms", .int 2)]⟩
def d_build : He5.DefA := ⟨fun K => a_build K, "build", "build", defArgs s_build, defBody s_build, defScope s_build, [], [("arms", .int 2)]⟩
def d_law_number : He5.DefA := ⟨fun K => a_law_number K, "_law_number", "_law_number", defArgs s_law_number, defBody s_law_number, defScope s_law_number, [], []⟩
def d_law_take : He5.DefA := ⟨fun K => a_law_take K, "_law_take", "_law_take", defArgs s_law_take, defBody s_law_take, defScope s_law_take, [], []⟩
def d_law_pick : He5.DefA := ⟨fun K => a_law_pick K, "_law_pick", "_law_pick", defArgs s_law_pick, defBody s_law_pick, defScope s_law_pick, [], []⟩
def d_law_parent : He5.DefA := ⟨fun K => a_law_parent K, "_law_parent", "_law_parent", defArgs s_law_parent, defBody s_law_parent, defScope s_law_parent, [], []⟩
def d_law_arms : He5.DefA := ⟨fun K => a_law_arms K, "_law_arms", "_law_arms", defArgs s_law_arms, defBody s_law_arms, defScope s_law_arms, [], []⟩
def d_law_keys : He5.DefA := ⟨fun K => a_law_keys K, "_law_keys", "_law_keys", defArgs s_law_keys, defBody s_law_keys, defScope s_law_keys, [], []⟩
def d_law_heap : He5.DefA := ⟨fun K => a_law_heap K, "_law_heap", "_law_heap", defArgs s_law_heap, defBody s_law_heap, defScope s_law_heap, [], []⟩
def d_law_is_number : He5.DefA := ⟨fun K => a_law_is_number K, "_law_is_number", "_law_is_number", defArgs s_law_is_number, defBody s_law_is_number, defScope s_law_is_number, [], []⟩
def d_law_odd : He5.DefA := ⟨fun K => a_law_odd K, "_law_odd", "_law_odd", defArgs s_law_odd, defBody s_law_odd, defScope s_law_odd, [], []⟩
def d_law_row_word : He5.DefA := ⟨fun K => a_law_row_word K, "_law_row_word", "_law_row_word", defArgs s_law_row_word, defBody s_law_row_word, defScope s_law_row_word, [], []⟩
def d_law_heap_word : He5.DefA := ⟨fun K => a_law_heap_word K, "_law_heap_word", "_law_heap_word", defArgs s_law_heap_word, defBody s_law_heap_word, defScope s_law_heap_word, [], []⟩
def d_law_arms_word : He5.DefA := ⟨fun K => a_law_arms_word K, "_law_arms_word", "_law_arms_word", defArgs s_law_arms_word, defBody s_law_arms_word, defScope s_law_arms_word, [], []⟩
def d_law_first_word : He5.DefA := ⟨fun K => a_law_first_word K, "_law_first_word", "_law_first_word", defArgs s_law_first_word, defBody s_law_first_word, defScope s_law_first_word, [], []⟩
def d_law_told : He5.DefA := ⟨fun K => a_law_told K, "_law_told", "_law_told", defArgs s_law_told, defBody s_law_told, defScope s_law_told, [], []⟩
def d_law_trees_right : He5.DefA := ⟨fun K => a_law_trees_right K, "_law_trees_right", "_law_trees_right", defArgs s_law_trees_right, defBody s_law_trees_right, defScope s_law_trees_right, [], []⟩
def d_law_rows_right : He5.DefA := ⟨fun K => a_law_rows_right K, "_law_rows_right", "_law_rows_right", defArgs s_law_rows_right, defBody s_law_rows_right, defScope s_law_rows_right, [], []⟩
def d_law_heaps_right : He5.DefA := ⟨fun K => a_law_heaps_right K, "_law_heaps_right", "_law_heaps_right", defArgs s_law_heaps_right, defBody s_law_heaps_right, defScope s_law_heaps_right, [], []⟩
def d_law : He5.DefA := ⟨fun K => a_law K, "law", "law", defArgs s_law, defBody s_law, defScope s_law, [], []⟩
def fn0 : List He5.DefA := [d_is_number, d_is_key, d_check_arms, d_check_row, d_Tree_init, d_Tree_of, d_Tree_contains, d_Tree_iter, d_Tree_getitem, d_Tree_check_place, d_Tree_parent, d_Tree_way_to]
def fn1 : List He5.DefA := [d_Tree_depth, d_Tree_subtree, d_Tree_size, d_Tree_height, d_check_heap, d_faults_in, d_falls_in, d_is_heap, d_faults, d_falls, d_ranks, d_Sift_init]
def fn2 : List He5.DefA := [d_moved, d_first_least, d_way_up, d_way_down, d_way_of_hole, d_lifted, d_sunk, d_sift_up, d_sift_down, d_Built_init, d_parents_of, d_built]
def fn3 : List He5.DefA := [d_without_last, d_taken, d_taken_by_hole, d_check_full, d_push, d_take, d_take_by_hole, d_put_for, d_build, d_law_number, d_law_take, d_law_pick]
def fn4 : List He5.DefA := [d_law_parent, d_law_arms, d_law_keys, d_law_heap, d_law_is_number, d_law_odd, d_law_row_word, d_law_heap_word, d_law_arms_word, d_law_first_word, d_law_told, d_law_trees_right]
def fn5 : List He5.DefA := [d_law_rows_right, d_law_heaps_right, d_law]
def fn : List He5.DefA := fn0 ++ (fn1 ++ (fn2 ++ (fn3 ++ (fn4 ++ (fn5)))))
def loose0 : List PySem.Str := ["HeapError", "BadRow", "NotHeap", "BadArms", "BadMany", "BadPlace", "BadKey", "Empty", "Full", "MOST_ARMS", "MOST_PLACES", "MOST_KEY", "is_number", "is_key", "check_arms", "check_row", "Tree", "check_heap", "faults_in", "falls_in", "is_heap", "faults", "falls", "ranks", "Sift", "moved", "first_least", "way_up", "way_down", "way_of_hole"]
def loose1 : List PySem.Str := ["lifted", "sunk", "sift_up", "sift_down", "Built", "parents_of", "built", "without_last", "taken", "taken_by_hole", "check_full", "push", "take", "take_by_hole", "put_for", "build", "_law_number", "_law_take", "_law_pick", "_law_parent", "_law_arms", "_law_keys", "_law_heap", "_law_is_number", "_law_odd", "_law_row_word", "_law_heap_word", "_law_arms_word", "_law_first_word", "_law_told"]
def loose2 : List PySem.Str := ["_law_trees_right", "_law_rows_right", "_law_heaps_right"]
def loose : List PySem.Str := loose0 ++ loose1 ++ loose2
/-! ### facts as Bools -/
section
variable {K : PySem.W.Frag} {C : Addr}
def sclB (K : PySem.W.Frag) (C : Addr) : Bool := PySem.W.plainGet K C Str.empty && (PySem.W.isClsIn K C && (PySem.W.plainOver K C && eqO (PySem.W.findIn K (.ref C) "__setattr__") (some (some (.builtin "object.__setattr__")))))
theorem sclB_ok (h : sclB K C = true) : SlX.SCls K C := by
  obtain ⟨h1, h⟩ := ba h
  obtain ⟨h2, h⟩ := ba h
  obtain ⟨h3, h4⟩ := ba h
  exact ⟨h1, h2, h3, eqO_ok h4⟩
def slotB (K : PySem.W.Frag) (C : Addr) (f : Str) (i : Nat) : Bool := eqO (PySem.W.findIn K (.ref C) f) (some (some (.ref (ma K C f)))) && (eqO (PySem.W.specialIn K (.ref (ma K C f)) "__get__") (some (some (.builtin "member_descriptor.__get__"))) &&
  (decide (PySem.W.takesIn K (.ref (ma K C f)) = some true) && (decide (PySem.W.typeIn K (.ref (ma K C f)) = some (.type "member_descriptor")) && (decide (PySem.W.slotIn K (ma K C f) C = some i) && decide (i < 1000)))))
theorem slotB_ok {f : Str} {i : Nat} (h : slotB K C f i = true) : SlX.Slot1 K C f (ma K C f) i := by
  obtain ⟨h1, h⟩ := ba h
  obtain ⟨h2, h⟩ := ba h
  obtain ⟨h3, h⟩ := ba h
  obtain ⟨h4, h⟩ := ba h
  obtain ⟨h5, h6⟩ := ba h
  exact ⟨eqO_ok h1, eqO_ok h2, of_decide_eq_true h3, of_decide_eq_true h4, of_decide_eq_true h5, of_decide_eq_true h6⟩
def cmB (K : PySem.W.Frag) (C : Addr) (m : Str) : Bool := PySem.W.readsIn K C (.type "type") && (eqO (PySem.W.specialIn K (.ref C) "__getattribute__") (some (some (.builtin "type.__getattribute__"))) &&
  (He5.wrapB K C "classmethod" "classmethod.__get__" m && PySem.W.fnIn K (He5.wf K C "classmethod" m)))
theorem cmB_ok {m : Str} (h : cmB K C m = true) : ClX.CRead K C (.type "type") ∧ ClX.CMet K C (.type "type") m (ma K C m) (He5.wf K C "classmethod" m) := by
  obtain ⟨h1, h⟩ := ba h
  obtain ⟨h2, h⟩ := ba h
  obtain ⟨h3, h4⟩ := ba h
  exact ⟨⟨h1, eqO_ok h2⟩, He5.cmet_of h3 h4⟩
def excCB (K : PySem.W.Frag) (D : Addr) : Bool := eqO (PySem.W.findIn K (.ref D) "__getattribute__") (some (some (.builtin "BaseException.__getattribute__"))) && (eqO (PySem.W.findIn K (.ref D) "__getattr__") (some none) &&
  (decide (PySem.W.subIn K (.ref D) (.type "BaseException") = some true) && (PySem.W.hasDictIn K D && (eqO (PySem.W.findIn K (.ref D) "__class__") (some (some (.builtin "object.__class__"))) &&
  (eqO (PySem.W.specialIn K (.builtin "object.__class__") "__get__") (some (some (.builtin "getset_descriptor.__get__"))) && (decide (PySem.W.takesIn K (.builtin "object.__class__") = some true) && decide (PySem.W.mroIn K D (.type "object") = some true)))))))
theorem excCB_ok {D : Addr} (h : excCB K D = true) : ExcC K D := by
  obtain ⟨h1, h⟩ := ba h
  obtain ⟨h2, h⟩ := ba h
  obtain ⟨h3, h⟩ := ba h
  obtain ⟨h4, h⟩ := ba h
  obtain ⟨h5, h⟩ := ba h
  obtain ⟨h6, h⟩ := ba h
  obtain ⟨h7, h8⟩ := ba h
  exact ⟨eqO_ok h1, eqO_ok h2, of_decide_eq_true h3, h4, eqO_ok h5, eqO_ok h6, of_decide_eq_true h7, of_decide_eq_true h8⟩
/-- the class object of an exception over ValueError -/
def vecB (K : PySem.W.Frag) (C : Addr) : Bool := match K.lookup C with
  | some ⟨.type tn, dd, .cls cd, sl⟩ => decide (tn = "type") && (cd.hasDict && (!cd.hasDel && (PySem.HandSPX.refsVE (cd.mro.drop 1) && (decide (cd.mro.head? = some (.ref C)) && (match sl.toList with
    | [_, _, _, _, some v, _] => decide (v = .builtin "ValueError.__new__")
    | _ => false)))))
  | _ => false
def oexB (K : PySem.W.Frag) (C : Addr) : Bool := vecB K C && (eqO (PySem.W.findIn K (.ref C) "__setattr__") (some (some (.builtin "object.__setattr__"))) && (decide (PySem.W.subIn K (.ref C) (.type "BaseException") = some true) &&
  (decide (PySem.W.typeIn K (.ref C) = some (.type "type")) && PySem.W.keepIn K (.ref C))))
end
theorem vecB_ok {K : PySem.W.Frag} {C : Addr} (h : vecB K C = true) : ∃ nm q N bs bm sn sub ab col dd k0 k1 k2 k3 k5, K.lookup C = some (excClassObj nm q C N bs bm true sn sub ab col dd k0 k1 k2 k3 k5 "ValueError.__new__") ∧ PySem.HandSPX.refsVE bm = true := by
  unfold vecB at h
  split at h
  · rename_i tn dd cd sl hl
    obtain ⟨h1, h⟩ := ba h
    obtain ⟨h2, h⟩ := ba h
    obtain ⟨h3, h⟩ := ba h
    obtain ⟨h4, h⟩ := ba h
    obtain ⟨h5, h6⟩ := ba h
    obtain ⟨nm, bs, mro, N, q, hd, sn, sub, ab, col, del⟩ := cd
    cases mro with
    | nil => exact absurd (of_decide_eq_true h5) (by simp)
    | cons c bm =>
      have e5 : c = .ref C := by simpa using of_decide_eq_true h5
      subst e5
      have e2 : hd = true := h2
      subst e2
      have e3 : del = false := by
        have h3' : (!del) = true := h3
        simpa using h3'
      subst e3
      have e1 : tn = "type" := of_decide_eq_true h1
      subst e1
      obtain ⟨l⟩ := sl
      dsimp only at h6
      match l, h6, hl with
      | [k0, k1, k2, k3, some v, k5], h6, hl =>
        have e6 : v = .builtin "ValueError.__new__" := of_decide_eq_true h6
        subst e6
        exact ⟨nm, q, N, bs, bm, sn, sub, ab, col, dd, k0, k1, k2, k3, k5, hl, h4⟩
  · cases h
theorem oexB_ok {K : PySem.W.Frag} {C : Addr} (h : oexB K C = true) : OexC K C := by
  obtain ⟨h1, h⟩ := ba h
  obtain ⟨h2, h⟩ := ba h
  obtain ⟨h3, h⟩ := ba h
  obtain ⟨h4, h5⟩ := ba h
  exact ⟨vecB_ok h1, eqO_ok h2, of_decide_eq_true h3, of_decide_eq_true h4, h5⟩
/-! ### a def with a closure of one cell, the class's own -/
abbrev FnS : Type := Option (Str × Str × Arguments × FuncBody × Scope × Addr × List Str × Addr)
def fnS (K : PySem.W.Frag) (a : Addr) : FnS := match K.lookup a with
  | some ⟨_, _, .func fd, _⟩ => some (fd.name, fd.qualname, fd.params, fd.body, fd.scope, fd.globals, fd.closure.map (·.1), fd.builtins)
  | _ => none
def supB (K : PySem.W.Frag) (a C : Addr) (q file : Str) : Bool := match K.lookup a with
  | some ⟨_, _, .func fd, _⟩ => (PySem.W.codeIn K fd.code q && (match fd.defaults with
    | .none => true
    | _ => false)) && ((match fd.closure with
    | [(_, cc)] => (match K.lookup cc with
      | some ⟨_, _, .cell (some (.ref D)), _⟩ => decide (D = C)
      | _ => false)
    | _ => false) && (match fd.code with
    | .ref c => (match K.lookup c with
      | some ⟨_, _, .fields vs, _⟩ => (match (vs[2]? : Option Value) with
        | some (Value.str f _) => decide (f = file)
        | _ => false)
      | _ => false)
    | _ => false))
  | _ => false
structure SupD (K : PySem.W.Frag) (st : Stmt) (q file : Str) (a C : Addr) : Prop where
  ex : ∃ (oc : Value) (od : Option Addr) (kV doc pm : Value) (an : Option Addr) (c cc : Addr) (ct : Value) (osl : Array (Option Value)) (c1 : Value) (d1 : Option Addr) (s1 : Array (Option Value)) (c2 : Value) (d2 : Option Addr) (vs : Array Value) (s2 : Array (Option Value)) (tf : Tok),
    K.lookup a = some ⟨oc, od, .func (PySem.W.fnX "__init__" q (defArgs st) (defBody st) (defScope st) [("__class__", cc)] .none kV doc pm an (.ref c) ct), osl⟩ ∧ PySem.W.codeIn K (.ref c) q = true ∧
    K.lookup cc = some ⟨c1, d1, .cell (some (.ref C)), s1⟩ ∧ K.lookup c = some ⟨c2, d2, .fields vs, s2⟩ ∧ vs[2]? = some (.str file tf)
def valS (st : Stmt) (q : Str) : FnS := some ("__init__", q, defArgs st, .stmts (defBody st), defScope st, mainGlobals, ["__class__"], builtinsNs)
theorem supD_of {K : PySem.W.Frag} {st : Stmt} {q file : Str} {a C : Addr} (e : fnS K a = valS st q) (h : supB K a C q file = true) : SupD K st q file a C := by
  unfold fnS at e
  unfold supB at h
  cases hk : K.lookup a with
  | none => rw [hk] at h; cases h
  | some o =>
    obtain ⟨oc, od, dt, osl⟩ := o
    rw [hk] at h e
    cases dt with
    | func fd =>
      obtain ⟨n1, n2, n3, n4, n5, n6, n7, n8, n9, n10, n11, n12, n13, n14, n15⟩ := fd
      have e2 : (some (n1, n2, n3, n4, n5, n6, n7.map (·.1), n15) : FnS) = some (("__init__" : Str), q, defArgs st, FuncBody.stmts (defBody st), defScope st, mainGlobals, (["__class__"] : List Str), builtinsNs) := e
      simp only [Option.some.injEq, Prod.mk.injEq] at e2
      obtain ⟨h1, h2, h3, h4, h5, h6, h7, h8⟩ := e2
      subst h1 h2 h3 h4 h5 h6 h8
      obtain ⟨k0, k2⟩ := ba h
      obtain ⟨k1, k5⟩ := ba k0
      obtain ⟨k3, k4⟩ := ba k2
      dsimp only at k1 k3 k4 k5
      have e8 : n8 = .none := by
        cases n8 with
        | none => rfl
        | _ => cases k5
      subst e8
      split at k3
      · rename_i nn cc
        split at k3
        · rename_i c1 d1 D s1 hc
          have eD : D = C := of_decide_eq_true k3
          subst eD
          split at k4
          · rename_i c
            split at k4
            · rename_i c2 d2 vs s2 hv
              split at k4
              · rename_i f tf hf
                have ef : f = file := of_decide_eq_true k4
                subst ef
                have en : nn = "__class__" := by simpa using h7
                subst en
                exact ⟨_, _, _, _, _, _, _, _, _, _, _, _, _, _, _, _, _, _, hk, k1, hc, hv, hf⟩
              · cases k4
            · cases k4
          · cases k4
        · cases k3
      · cases k3
    | _ => cases h
def tf : List He.Defn := [("first_least", none), ("_law_trees_right", none), ("_law_rows_right", none), ("_law_heaps_right", none)]
def fct0 (K : PySem.W.Frag) : List Bool := [((Fa.glo "HeapError").ok K),
  ((Fa.glo "BadRow").ok K),
  ((Fa.glo "NotHeap").ok K),
  ((Fa.glo "BadArms").ok K),
  ((Fa.glo "BadMany").ok K),
  ((Fa.glo "BadPlace").ok K),
  ((Fa.glo "BadKey").ok K),
  ((Fa.glo "Empty").ok K),
  ((Fa.glo "Full").ok K),
  ((Fa.int "MOST_ARMS" 4).ok K),
  ((Fa.int "MOST_PLACES" 12).ok K),
  ((Fa.int "MOST_KEY" 1000000000).ok K),
  ((Fa.glo "is_number").ok K),
  ((Fa.glo "is_key").ok K),
  ((Fa.glo "check_arms").ok K),
  ((Fa.glo "check_row").ok K),
  ((Fa.glo "Tree").ok K),
  ((Fa.glo "check_heap").ok K),
  ((Fa.glo "faults_in").ok K),
  ((Fa.glo "falls_in").ok K),
  ((Fa.glo "is_heap").ok K),
  ((Fa.glo "faults").ok K),
  ((Fa.glo "falls").ok K),
  ((Fa.glo "ranks").ok K),
  ((Fa.glo "Sift").ok K),
  ((Fa.glo "moved").ok K),
  ((Fa.glo "first_least").ok K),
  ((Fa.glo "way_up").ok K),
  ((Fa.glo "way_down").ok K),
  ((Fa.glo "way_of_hole").ok K)]
def fct1 (K : PySem.W.Frag) : List Bool := [((Fa.glo "lifted").ok K),
  ((Fa.glo "sunk").ok K),
  ((Fa.glo "sift_up").ok K),
  ((Fa.glo "sift_down").ok K),
  ((Fa.glo "Built").ok K),
  ((Fa.glo "parents_of").ok K),
  ((Fa.glo "built").ok K),
  ((Fa.glo "without_last").ok K),
  ((Fa.glo "taken").ok K),
  ((Fa.glo "taken_by_hole").ok K),
  ((Fa.glo "check_full").ok K),
  ((Fa.glo "push").ok K),
  ((Fa.glo "take").ok K),
  ((Fa.glo "take_by_hole").ok K),
  ((Fa.glo "put_for").ok K),
  ((Fa.glo "build").ok K),
  ((Fa.glo "_law_number").ok K),
  ((Fa.glo "_law_take").ok K),
  ((Fa.glo "_law_pick").ok K),
  ((Fa.glo "_law_parent").ok K),
  ((Fa.glo "_law_arms").ok K),
  ((Fa.glo "_law_keys").ok K),
  ((Fa.glo "_law_heap").ok K),
  ((Fa.glo "_law_is_number").ok K),
  ((Fa.glo "_law_odd").ok K),
  ((Fa.glo "_law_row_word").ok K),
  ((Fa.glo "_law_heap_word").ok K),
  ((Fa.glo "_law_arms_word").ok K),
  ((Fa.glo "_law_first_word").ok K),
  ((Fa.glo "_law_told").ok K)]
def fct2 (K : PySem.W.Frag) : List Bool := [((Fa.glo "_law_trees_right").ok K),
  ((Fa.glo "_law_rows_right").ok K),
  ((Fa.glo "_law_heaps_right").ok K),
  ((Fa.glo "law").ok K),
  ((Fa.free "len").ok K),
  ((Fa.free "isinstance").ok K),
  ((Fa.free "int").ok K),
  ((Fa.free "bool").ok K),
  ((Fa.free "list").ok K),
  ((Fa.free "tuple").ok K),
  ((Fa.free "enumerate").ok K),
  ((Fa.free "range").ok K),
  ((Fa.free "min").ok K),
  ((Fa.free "max").ok K),
  ((Fa.free "sorted").ok K),
  ((Fa.free "iter").ok K),
  ((Fa.free "super").ok K),
  ((Fa.free "sum").ok K),
  ((Fa.free "all").ok K),
  ((Fa.free "any").ok K),
  ((Fa.free "zip").ok K),
  ((Fa.free "ValueError").ok K),
  (sclB K (a_Tree K)),
  ((Fa.mkr "Tree").ok K),
  (slotB K (a_Tree K) "many" 1),
  (slotB K (a_Tree K) "arms" 0),
  (slotB K (a_Tree K) "places" 2),
  (sclB K (a_Sift K)),
  ((Fa.mkr "Sift").ok K),
  (slotB K (a_Sift K) "row" 1)]
def fct3 (K : PySem.W.Frag) : List Bool := [(slotB K (a_Sift K) "way" 2),
  (slotB K (a_Sift K) "looks" 0),
  (sclB K (a_Built K)),
  ((Fa.mkr "Built").ok K),
  (slotB K (a_Built K) "row" 2),
  (slotB K (a_Built K) "stops" 3),
  (slotB K (a_Built K) "changes" 0),
  (slotB K (a_Built K) "looks" 1),
  ((Fa.meth "Tree" "check_place").ok K),
  ((Fa.meth "Tree" "parent").ok K),
  ((Fa.meth "Tree" "way_to").ok K),
  ((Fa.meth "Tree" "depth").ok K),
  ((Fa.meth "Tree" "subtree").ok K),
  ((Fa.meth "Tree" "size").ok K),
  ((Fa.meth "Tree" "height").ok K),
  (eqO (PySem.W.findIn K (.ref (a_Tree K)) "__contains__") (some (some (.ref (a_Tree_contains K))))),
  (PySem.W.isFn K (.ref (a_Tree_contains K))),
  (eqO (PySem.W.findIn K (.ref (a_Tree K)) "__getitem__") (some (some (.ref (a_Tree_getitem K))))),
  (PySem.W.isFn K (.ref (a_Tree_getitem K))),
  (eqO (PySem.W.findIn K (.ref (a_Tree K)) "__iter__") (some (some (.ref (a_Tree_iter K))))),
  (PySem.W.isFn K (.ref (a_Tree_iter K))),
  (PySem.W.fnIn K (a_Tree_getitem K)),
  (cmB K (a_Tree K) "of"),
  (PySem.W.makesIn K (a_Tree K)),
  ((Fa.exc "BadArms").ok K),
  ((Fa.exc "BadMany").ok K),
  ((Fa.exc "BadPlace").ok K),
  ((Fa.exc "BadKey").ok K),
  ((Fa.exc "Empty").ok K),
  ((Fa.exc "Full").ok K)]
def fct4 (K : PySem.W.Frag) : List Bool := [((Fa.exc "HeapError").ok K),
  (decide (PySem.W.exmOne K (.ref (a_BadArms K)) (.ref (a_BadRow K)) = some false)),
  (decide (PySem.W.exmOne K (.ref (a_BadArms K)) (.ref (a_NotHeap K)) = some false)),
  (decide (PySem.W.exmOne K (.ref (a_BadArms K)) (.ref (a_HeapError K)) = some true)),
  (excCB K (a_BadArms K)),
  (decide (PySem.W.exmOne K (.ref (a_BadMany K)) (.ref (a_BadRow K)) = some false)),
  (decide (PySem.W.exmOne K (.ref (a_BadMany K)) (.ref (a_NotHeap K)) = some false)),
  (decide (PySem.W.exmOne K (.ref (a_BadMany K)) (.ref (a_HeapError K)) = some true)),
  (excCB K (a_BadMany K)),
  (decide (PySem.W.exmOne K (.ref (a_BadPlace K)) (.ref (a_BadRow K)) = some false)),
  (decide (PySem.W.exmOne K (.ref (a_BadPlace K)) (.ref (a_NotHeap K)) = some false)),
  (decide (PySem.W.exmOne K (.ref (a_BadPlace K)) (.ref (a_HeapError K)) = some true)),
  (excCB K (a_BadPlace K)),
  (decide (PySem.W.exmOne K (.ref (a_BadKey K)) (.ref (a_BadRow K)) = some false)),
  (decide (PySem.W.exmOne K (.ref (a_BadKey K)) (.ref (a_NotHeap K)) = some false)),
  (decide (PySem.W.exmOne K (.ref (a_BadKey K)) (.ref (a_HeapError K)) = some true)),
  (excCB K (a_BadKey K)),
  (decide (PySem.W.exmOne K (.ref (a_Empty K)) (.ref (a_BadRow K)) = some false)),
  (decide (PySem.W.exmOne K (.ref (a_Empty K)) (.ref (a_NotHeap K)) = some false)),
  (decide (PySem.W.exmOne K (.ref (a_Empty K)) (.ref (a_HeapError K)) = some true)),
  (excCB K (a_Empty K)),
  (decide (PySem.W.exmOne K (.ref (a_Full K)) (.ref (a_BadRow K)) = some false)),
  (decide (PySem.W.exmOne K (.ref (a_Full K)) (.ref (a_NotHeap K)) = some false)),
  (decide (PySem.W.exmOne K (.ref (a_Full K)) (.ref (a_HeapError K)) = some true)),
  (excCB K (a_Full K)),
  (decide (PySem.W.exmOne K (.ref (a_BadRow K)) (.ref (a_BadRow K)) = some true)),
  (decide (PySem.W.exmOne K (.ref (a_BadRow K)) (.ref (a_NotHeap K)) = some false)),
  (decide (PySem.W.exmOne K (.ref (a_BadRow K)) (.ref (a_HeapError K)) = some true)),
  (excCB K (a_BadRow K)),
  (decide (PySem.W.exmOne K (.ref (a_NotHeap K)) (.ref (a_BadRow K)) = some false))]
def fct5 (K : PySem.W.Frag) : List Bool := [(decide (PySem.W.exmOne K (.ref (a_NotHeap K)) (.ref (a_NotHeap K)) = some true)),
  (decide (PySem.W.exmOne K (.ref (a_NotHeap K)) (.ref (a_HeapError K)) = some true)),
  (excCB K (a_NotHeap K)),
  (decide (PySem.W.kitOne K (.ref (a_BadArms K)) (.ref (a_BadArms K)) = some true)),
  (decide (PySem.W.kitOne K (.ref (a_BadArms K)) (.ref (a_BadMany K)) = some false)),
  (decide (PySem.W.kitOne K (.ref (a_BadArms K)) (.ref (a_BadPlace K)) = some false)),
  (decide (PySem.W.kitOne K (.ref (a_BadArms K)) (.ref (a_BadKey K)) = some false)),
  (decide (PySem.W.kitOne K (.ref (a_BadArms K)) (.ref (a_Empty K)) = some false)),
  (decide (PySem.W.kitOne K (.ref (a_BadArms K)) (.ref (a_Full K)) = some false)),
  (decide (PySem.W.kitOne K (.ref (a_BadArms K)) (.type "ValueError") = some true)),
  (decide (PySem.W.kitOne K (.ref (a_BadMany K)) (.ref (a_BadArms K)) = some false)),
  (decide (PySem.W.kitOne K (.ref (a_BadMany K)) (.ref (a_BadMany K)) = some true)),
  (decide (PySem.W.kitOne K (.ref (a_BadMany K)) (.ref (a_BadPlace K)) = some false)),
  (decide (PySem.W.kitOne K (.ref (a_BadMany K)) (.ref (a_BadKey K)) = some false)),
  (decide (PySem.W.kitOne K (.ref (a_BadMany K)) (.ref (a_Empty K)) = some false)),
  (decide (PySem.W.kitOne K (.ref (a_BadMany K)) (.ref (a_Full K)) = some false)),
  (decide (PySem.W.kitOne K (.ref (a_BadMany K)) (.type "ValueError") = some true)),
  (decide (PySem.W.kitOne K (.ref (a_BadPlace K)) (.ref (a_BadArms K)) = some false)),
  (decide (PySem.W.kitOne K (.ref (a_BadPlace K)) (.ref (a_BadMany K)) = some false)),
  (decide (PySem.W.kitOne K (.ref (a_BadPlace K)) (.ref (a_BadPlace K)) = some true)),
  (decide (PySem.W.kitOne K (.ref (a_BadPlace K)) (.ref (a_BadKey K)) = some false)),
  (decide (PySem.W.kitOne K (.ref (a_BadPlace K)) (.ref (a_Empty K)) = some false)),
  (decide (PySem.W.kitOne K (.ref (a_BadPlace K)) (.ref (a_Full K)) = some false)),
  (decide (PySem.W.kitOne K (.ref (a_BadPlace K)) (.type "ValueError") = some true)),
  (decide (PySem.W.kitOne K (.ref (a_BadKey K)) (.ref (a_BadArms K)) = some false)),
  (decide (PySem.W.kitOne K (.ref (a_BadKey K)) (.ref (a_BadMany K)) = some false)),
  (decide (PySem.W.kitOne K (.ref (a_BadKey K)) (.ref (a_BadPlace K)) = some false)),
  (decide (PySem.W.kitOne K (.ref (a_BadKey K)) (.ref (a_BadKey K)) = some true)),
  (decide (PySem.W.kitOne K (.ref (a_BadKey K)) (.ref (a_Empty K)) = some false)),
  (decide (PySem.W.kitOne K (.ref (a_BadKey K)) (.ref (a_Full K)) = some false))]
def fct6 (K : PySem.W.Frag) : List Bool := [(decide (PySem.W.kitOne K (.ref (a_BadKey K)) (.type "ValueError") = some true)),
  (decide (PySem.W.kitOne K (.ref (a_Empty K)) (.ref (a_BadArms K)) = some false)),
  (decide (PySem.W.kitOne K (.ref (a_Empty K)) (.ref (a_BadMany K)) = some false)),
  (decide (PySem.W.kitOne K (.ref (a_Empty K)) (.ref (a_BadPlace K)) = some false)),
  (decide (PySem.W.kitOne K (.ref (a_Empty K)) (.ref (a_BadKey K)) = some false)),
  (decide (PySem.W.kitOne K (.ref (a_Empty K)) (.ref (a_Empty K)) = some true)),
  (decide (PySem.W.kitOne K (.ref (a_Empty K)) (.ref (a_Full K)) = some false)),
  (decide (PySem.W.kitOne K (.ref (a_Empty K)) (.type "ValueError") = some true)),
  (decide (PySem.W.kitOne K (.ref (a_Full K)) (.ref (a_BadArms K)) = some false)),
  (decide (PySem.W.kitOne K (.ref (a_Full K)) (.ref (a_BadMany K)) = some false)),
  (decide (PySem.W.kitOne K (.ref (a_Full K)) (.ref (a_BadPlace K)) = some false)),
  (decide (PySem.W.kitOne K (.ref (a_Full K)) (.ref (a_BadKey K)) = some false)),
  (decide (PySem.W.kitOne K (.ref (a_Full K)) (.ref (a_Empty K)) = some false)),
  (decide (PySem.W.kitOne K (.ref (a_Full K)) (.ref (a_Full K)) = some true)),
  (decide (PySem.W.kitOne K (.ref (a_Full K)) (.type "ValueError") = some true)),
  (decide (PySem.W.kitOne K (.ref (a_BadRow K)) (.ref (a_HeapError K)) = some true)),
  (oexB K (a_BadRow K)),
  (xfB K (a_BadRow K)),
  (eqO (PySem.W.findIn K (.ref (a_BadRow K)) "index") (some none)),
  (eqO (PySem.W.findIn K (.ref (a_BadRow K)) "__init__") (some (some (.ref (a_BadRow_init K))))),
  (decide (PySem.W.typeIn K (.ref (a_BadRow_init K)) = some (.type "function"))),
  (decide (PySem.W.ks_superIn K (a_BadRow K) (a_BadRow K) "__init__" = some (some (.builtin "ValueError.__init__")))),
  (decide (PySem.W.subIn K (.ref (a_BadRow K)) (.type "ValueError") = some true)),
  (decide (PySem.W.mroIn K (a_BadRow K) (.ref (a_BadRow K)) = some true)),
  (PySem.W.excInitIn K (a_BadRow K) veBase "ValueError.__new__"),
  (decide (PySem.W.kitOne K (.ref (a_NotHeap K)) (.ref (a_HeapError K)) = some true)),
  (oexB K (a_NotHeap K)),
  (xfB K (a_NotHeap K)),
  (eqO (PySem.W.findIn K (.ref (a_NotHeap K)) "place") (some none)),
  (eqO (PySem.W.findIn K (.ref (a_NotHeap K)) "__init__") (some (some (.ref (a_NotHeap_init K)))))]
def fct7 (K : PySem.W.Frag) : List Bool := [(decide (PySem.W.typeIn K (.ref (a_NotHeap_init K)) = some (.type "function"))),
  (decide (PySem.W.ks_superIn K (a_NotHeap K) (a_NotHeap K) "__init__" = some (some (.builtin "ValueError.__init__")))),
  (decide (PySem.W.subIn K (.ref (a_NotHeap K)) (.type "ValueError") = some true)),
  (decide (PySem.W.mroIn K (a_NotHeap K) (.ref (a_NotHeap K)) = some true)),
  (PySem.W.excInitIn K (a_NotHeap K) veBase "ValueError.__new__"),
  (eqO (PySem.W.nsIn K cStatics "thirdparty.any") (some none)),
  (eqO (PySem.W.nsIn K mainGlobals "super") (some none)),
  (decide ((tf.map fun p => (cT K p).2).Nodup))]
def kfB (K : PySem.W.Frag) : Bool := (fct0 K).all id && ((fct1 K).all id && ((fct2 K).all id && ((fct3 K).all id && ((fct4 K).all id && ((fct5 K).all id && ((fct6 K).all id && ((fct7 K).all id)))))))
theorem all_at {l : List Bool} (h : l.all id = true) (i : Nat) {b : Bool} (e : l[i]? = some b) : b = true := List.all_eq_true.mp h b (List.mem_of_getElem? e)
def file : Str := "/claim/cut.py"
abbrev Al : Type := Bool × (List He5.FnW × List FnS)
def asK (g : Addr → Option Obj) : List Addr := He.asD g 6 ++ [cStatics]
def obsK (g : Addr → Option Obj) (K : PySem.W.Frag) : Al := (kfB K && ((fn.all fun d => d.ok K) && (tabsB g tf K && (supB K (a_BadRow_init K) (a_BadRow K) "BadRow.__init__" file && supB K (a_NotHeap_init K) (a_NotHeap K) "NotHeap.__init__" file))),
  (fn.map fun d => He5.fnA K (d.at_ K), [fnS K (a_BadRow_init K), fnS K (a_NotHeap_init K)]))
def valK : Al := (true, (fn.map He5.DefA.val, [valS s_BadRow_init "BadRow.__init__", valS s_NotHeap_init "NotHeap.__init__"]))
def obsG (g : Addr → Option Obj) : Al := obsK g (frT g (asK g))
structure Says (h : Heap) (K : PySem.W.Frag) : Prop where
  kf : kfB K = true
  ok : ∀ d ∈ fn, d.ok K = true
  val : fn.map (fun d => He5.fnA K (d.at_ K)) = fn.map He5.DefA.val
  sup1 : SupD K s_BadRow_init "BadRow.__init__" file (a_BadRow_init K) (a_BadRow K)
  sup2 : SupD K s_NotHeap_init "NotHeap.__init__" file (a_NotHeap_init K) (a_NotHeap K)
  hd : ∀ p ∈ tf, PySem.W.codeHdIn K (cT K p).1 (cT K p).2 = true
  out : ∀ p ∈ tf, K.lookup (cT K p).2 = none
  empty : ∀ p ∈ tf, h.get? (cT K p).2 = some { cls := .none, data := .fields #[] }
theorem says_K {K : PySem.W.Frag} {g : Addr → Option Obj} (e : obsK g K = valK) : kfB K = true ∧ (∀ d ∈ fn, d.ok K = true) ∧ fn.map (fun d => He5.fnA K (d.at_ K)) = fn.map He5.DefA.val ∧
    SupD K s_BadRow_init "BadRow.__init__" file (a_BadRow_init K) (a_BadRow K) ∧ SupD K s_NotHeap_init "NotHeap.__init__" file (a_NotHeap_init K) (a_NotHeap K) ∧ tabsB g tf K = true := by
  have e1 : (obsK g K).1 = valK.1 := congrArg (fun z : Al => z.1) e
  have e2 : (obsK g K).2.1 = valK.2.1 := congrArg (fun z : Al => z.2.1) e
  have e3 : (obsK g K).2.2 = valK.2.2 := congrArg (fun z : Al => z.2.2) e
  clear e
  unfold obsK valK at e1 e2 e3
  dsimp only at e1 e2 e3
  obtain ⟨h1, h2⟩ := ba e1
  obtain ⟨h3, h4⟩ := ba h2
  obtain ⟨h5, h6⟩ := ba h4
  obtain ⟨h7, h8⟩ := ba h6
  injection e3 with e4 e5
  injection e5 with e6 _
  exact ⟨h1, fun d hd => List.all_eq_true.mp h3 d hd, e2, supD_of e4 h7, supD_of e6 h8, h5⟩
theorem says_of {h : Heap} (e : obsG h.get? = valK) : Says h (frT h.get? (asK h.get?)) := by
  obtain ⟨h1, h3, e2, s1, s2, h5⟩ := says_K e
  have key : ∀ p ∈ tf, PySem.W.codeHdIn (frT h.get? (asK h.get?)) (cT (frT h.get? (asK h.get?)) p).1 (cT (frT h.get? (asK h.get?)) p).2 = true ∧ ∃ o, h.get? (cT (frT h.get? (asK h.get?)) p).2 = some o ∧ emptyTab o = true := fun p hp => by
    obtain ⟨k3, k4⟩ := ba (List.all_eq_true.mp h5 p hp)
    refine ⟨k3, ?_⟩
    cases q : h.get? (cT (frT h.get? (asK h.get?)) p).2 with
    | none => rw [q] at k4; cases k4
    | some o => rw [q] at k4; exact ⟨o, rfl, k4⟩
  exact ⟨h1, h3, e2, s1, s2, fun p hp => (key p hp).1, fun p hp => by
    obtain ⟨_, o, q, z⟩ := key p hp
    exact frT_none q z, fun p hp => by
    obtain ⟨_, o, q, z⟩ := key p hp
    rw [q, emptyTab_eq z]⟩
def hk : PySem.W.Hook where
  α := Al
  obs := fun s => obsG s.heap.get?
  val := fun _ => valK
  says := fun _ h => ∃ K : PySem.W.Frag, K.In h ∧ Says h K
  of := fun _ _ e => ⟨_, frT_in, says_of e⟩
  keeps := fun _ _ _ ⟨K, hK, c⟩ k => ⟨K, PySem.W.Frag.In.keeps hK k, ⟨c.kf, c.ok, c.val, c.sup1, c.sup2, c.hd, c.out, fun p hp => k _ _ (c.empty p hp)⟩⟩
/-- what stands behind the top -/
structure TX (K : PySem.W.Frag) (mg : Str → Option Value) (base : Heap) : Prop where
  kin : K.In base
  glob : base.Ns mainGlobals mg
  g_HeapError : mg "HeapError" = some (.ref (ga K "HeapError"))
  g_BadRow : mg "BadRow" = some (.ref (ga K "BadRow"))
  g_NotHeap : mg "NotHeap" = some (.ref (ga K "NotHeap"))
  g_BadArms : mg "BadArms" = some (.ref (ga K "BadArms"))
  g_BadMany : mg "BadMany" = some (.ref (ga K "BadMany"))
  g_BadPlace : mg "BadPlace" = some (.ref (ga K "BadPlace"))
  g_BadKey : mg "BadKey" = some (.ref (ga K "BadKey"))
  g_Empty : mg "Empty" = some (.ref (ga K "Empty"))
  g_Full : mg "Full" = some (.ref (ga K "Full"))
  g_MOST_ARMS : ∃ t, mg "MOST_ARMS" = some (.int 4 t)
  g_MOST_PLACES : ∃ t, mg "MOST_PLACES" = some (.int 12 t)
  g_MOST_KEY : ∃ t, mg "MOST_KEY" = some (.int 1000000000 t)
  g_is_number : mg "is_number" = some (.ref (ga K "is_number"))
  g_is_key : mg "is_key" = some (.ref (ga K "is_key"))
  g_check_arms : mg "check_arms" = some (.ref (ga K "check_arms"))
  g_check_row : mg "check_row" = some (.ref (ga K "check_row"))
  g_Tree : mg "Tree" = some (.ref (ga K "Tree"))
  g_check_heap : mg "check_heap" = some (.ref (ga K "check_heap"))
  g_faults_in : mg "faults_in" = some (.ref (ga K "faults_in"))
  g_falls_in : mg "falls_in" = some (.ref (ga K "falls_in"))
  g_is_heap : mg "is_heap" = some (.ref (ga K "is_heap"))
  g_faults : mg "faults" = some (.ref (ga K "faults"))
  g_falls : mg "falls" = some (.ref (ga K "falls"))
  g_ranks : mg "ranks" = some (.ref (ga K "ranks"))
  g_Sift : mg "Sift" = some (.ref (ga K "Sift"))
  g_moved : mg "moved" = some (.ref (ga K "moved"))
  g_first_least : mg "first_least" = some (.ref (ga K "first_least"))
  g_way_up : mg "way_up" = some (.ref (ga K "way_up"))
  g_way_down : mg "way_down" = some (.ref (ga K "way_down"))
  g_way_of_hole : mg "way_of_hole" = some (.ref (ga K "way_of_hole"))
  g_lifted : mg "lifted" = some (.ref (ga K "lifted"))
  g_sunk : mg "sunk" = some (.ref (ga K "sunk"))
  g_sift_up : mg "sift_up" = some (.ref (ga K "sift_up"))
  g_sift_down : mg "sift_down" = some (.ref (ga K "sift_down"))
  g_Built : mg "Built" = some (.ref (ga K "Built"))
  g_parents_of : mg "parents_of" = some (.ref (ga K "parents_of"))
  g_built : mg "built" = some (.ref (ga K "built"))
  g_without_last : mg "without_last" = some (.ref (ga K "without_last"))
  g_taken : mg "taken" = some (.ref (ga K "taken"))
  g_taken_by_hole : mg "taken_by_hole" = some (.ref (ga K "taken_by_hole"))
  g_check_full : mg "check_full" = some (.ref (ga K "check_full"))
  g_push : mg "push" = some (.ref (ga K "push"))
  g_take : mg "take" = some (.ref (ga K "take"))
  g_take_by_hole : mg "take_by_hole" = some (.ref (ga K "take_by_hole"))
  g_put_for : mg "put_for" = some (.ref (ga K "put_for"))
  g_build : mg "build" = some (.ref (ga K "build"))
  g_law_number : mg "_law_number" = some (.ref (ga K "_law_number"))
  g_law_take : mg "_law_take" = some (.ref (ga K "_law_take"))
  g_law_pick : mg "_law_pick" = some (.ref (ga K "_law_pick"))
  g_law_parent : mg "_law_parent" = some (.ref (ga K "_law_parent"))
  g_law_arms : mg "_law_arms" = some (.ref (ga K "_law_arms"))
  g_law_keys : mg "_law_keys" = some (.ref (ga K "_law_keys"))
  g_law_heap : mg "_law_heap" = some (.ref (ga K "_law_heap"))
  g_law_is_number : mg "_law_is_number" = some (.ref (ga K "_law_is_number"))
  g_law_odd : mg "_law_odd" = some (.ref (ga K "_law_odd"))
  g_law_row_word : mg "_law_row_word" = some (.ref (ga K "_law_row_word"))
  g_law_heap_word : mg "_law_heap_word" = some (.ref (ga K "_law_heap_word"))
  g_law_arms_word : mg "_law_arms_word" = some (.ref (ga K "_law_arms_word"))
  g_law_first_word : mg "_law_first_word" = some (.ref (ga K "_law_first_word"))
  g_law_told : mg "_law_told" = some (.ref (ga K "_law_told"))
  g_law_trees_right : mg "_law_trees_right" = some (.ref (ga K "_law_trees_right"))
  g_law_rows_right : mg "_law_rows_right" = some (.ref (ga K "_law_rows_right"))
  g_law_heaps_right : mg "_law_heaps_right" = some (.ref (ga K "_law_heaps_right"))
  g_law : mg "law" = some (.ref (ga K "law"))
  n_len : mg "len" = none
  n_isinstance : mg "isinstance" = none
  n_int : mg "int" = none
  n_bool : mg "bool" = none
  n_list : mg "list" = none
  n_tuple : mg "tuple" = none
  n_enumerate : mg "enumerate" = none
  n_range : mg "range" = none
  n_min : mg "min" = none
  n_max : mg "max" = none
  n_sorted : mg "sorted" = none
  n_iter : mg "iter" = none
  n_super : mg "super" = none
  n_sum : mg "sum" = none
  n_all : mg "all" = none
  n_any : mg "any" = none
  n_zip : mg "zip" = none
  n_ValueError : mg "ValueError" = none
  c_Tree : SlX.SCls K (a_Tree K)
  m_Tree : Mk K (a_Tree K) (a_Tree_init K)
  s_Tree_many : SlX.Slot1 K (a_Tree K) "many" (ma K (a_Tree K) "many") 1
  s_Tree_arms : SlX.Slot1 K (a_Tree K) "arms" (ma K (a_Tree K) "arms") 0
  s_Tree_places : SlX.Slot1 K (a_Tree K) "places" (ma K (a_Tree K) "places") 2
  c_Sift : SlX.SCls K (a_Sift K)
  m_Sift : Mk K (a_Sift K) (a_Sift_init K)
  s_Sift_row : SlX.Slot1 K (a_Sift K) "row" (ma K (a_Sift K) "row") 1
  s_Sift_way : SlX.Slot1 K (a_Sift K) "way" (ma K (a_Sift K) "way") 2
  s_Sift_looks : SlX.Slot1 K (a_Sift K) "looks" (ma K (a_Sift K) "looks") 0
  c_Built : SlX.SCls K (a_Built K)
  m_Built : Mk K (a_Built K) (a_Built_init K)
  s_Built_row : SlX.Slot1 K (a_Built K) "row" (ma K (a_Built K) "row") 2
  s_Built_stops : SlX.Slot1 K (a_Built K) "stops" (ma K (a_Built K) "stops") 3
  s_Built_changes : SlX.Slot1 K (a_Built K) "changes" (ma K (a_Built K) "changes") 0
  s_Built_looks : SlX.Slot1 K (a_Built K) "looks" (ma K (a_Built K) "looks") 1
  t_check_place : Meth K (a_Tree K) "check_place" (a_Tree_check_place K)
  t_parent : Meth K (a_Tree K) "parent" (a_Tree_parent K)
  t_way_to : Meth K (a_Tree K) "way_to" (a_Tree_way_to K)
  t_depth : Meth K (a_Tree K) "depth" (a_Tree_depth K)
  t_subtree : Meth K (a_Tree K) "subtree" (a_Tree_subtree K)
  t_size : Meth K (a_Tree K) "size" (a_Tree_size K)
  t_height : Meth K (a_Tree K) "height" (a_Tree_height K)
  d_contains : PySem.W.findIn K (.ref (a_Tree K)) "__contains__" = some (some (.ref (a_Tree_contains K)))
  df_contains : PySem.W.isFn K (.ref (a_Tree_contains K)) = true
  d_getitem : PySem.W.findIn K (.ref (a_Tree K)) "__getitem__" = some (some (.ref (a_Tree_getitem K)))
  df_getitem : PySem.W.isFn K (.ref (a_Tree_getitem K)) = true
  d_iter : PySem.W.findIn K (.ref (a_Tree K)) "__iter__" = some (some (.ref (a_Tree_iter K)))
  df_iter : PySem.W.isFn K (.ref (a_Tree_iter K)) = true
  dn_getitem : PySem.W.fnIn K (a_Tree_getitem K) = true
  cm_of : ClX.CRead K (a_Tree K) (.type "type") ∧ ClX.CMet K (a_Tree K) (.type "type") "of" (ma K (a_Tree K) "of") (a_Tree_of K)
  k_Tree : PySem.W.makesIn K (a_Tree K) = true
  x_BadArms : PySem.W.excIn K (ga K "BadArms") veBase "ValueError.__new__" = true ∧ PySem.W.keepIn K (.ref (ga K "BadArms")) = true ∧ PySem.W.subIn K (.ref (ga K "BadArms")) (.type "BaseException") = some true ∧ PySem.W.typeIn K (.ref (ga K "BadArms")) = some (.type "type")
  x_BadMany : PySem.W.excIn K (ga K "BadMany") veBase "ValueError.__new__" = true ∧ PySem.W.keepIn K (.ref (ga K "BadMany")) = true ∧ PySem.W.subIn K (.ref (ga K "BadMany")) (.type "BaseException") = some true ∧ PySem.W.typeIn K (.ref (ga K "BadMany")) = some (.type "type")
  x_BadPlace : PySem.W.excIn K (ga K "BadPlace") veBase "ValueError.__new__" = true ∧ PySem.W.keepIn K (.ref (ga K "BadPlace")) = true ∧ PySem.W.subIn K (.ref (ga K "BadPlace")) (.type "BaseException") = some true ∧ PySem.W.typeIn K (.ref (ga K "BadPlace")) = some (.type "type")
  x_BadKey : PySem.W.excIn K (ga K "BadKey") veBase "ValueError.__new__" = true ∧ PySem.W.keepIn K (.ref (ga K "BadKey")) = true ∧ PySem.W.subIn K (.ref (ga K "BadKey")) (.type "BaseException") = some true ∧ PySem.W.typeIn K (.ref (ga K "BadKey")) = some (.type "type")
  x_Empty : PySem.W.excIn K (ga K "Empty") veBase "ValueError.__new__" = true ∧ PySem.W.keepIn K (.ref (ga K "Empty")) = true ∧ PySem.W.subIn K (.ref (ga K "Empty")) (.type "BaseException") = some true ∧ PySem.W.typeIn K (.ref (ga K "Empty")) = some (.type "type")
  x_Full : PySem.W.excIn K (ga K "Full") veBase "ValueError.__new__" = true ∧ PySem.W.keepIn K (.ref (ga K "Full")) = true ∧ PySem.W.subIn K (.ref (ga K "Full")) (.type "BaseException") = some true ∧ PySem.W.typeIn K (.ref (ga K "Full")) = some (.type "type")
  x_HeapError : PySem.W.excIn K (ga K "HeapError") veBase "ValueError.__new__" = true ∧ PySem.W.keepIn K (.ref (ga K "HeapError")) = true ∧ PySem.W.subIn K (.ref (ga K "HeapError")) (.type "BaseException") = some true ∧ PySem.W.typeIn K (.ref (ga K "HeapError")) = some (.type "type")
  e_BadArms_BadRow : PySem.W.exmOne K (.ref (a_BadArms K)) (.ref (a_BadRow K)) = some false
  e_BadArms_NotHeap : PySem.W.exmOne K (.ref (a_BadArms K)) (.ref (a_NotHeap K)) = some false
  e_BadArms_HeapError : PySem.W.exmOne K (.ref (a_BadArms K)) (.ref (a_HeapError K)) = some true
  ec_BadArms : ExcC K (a_BadArms K)
  e_BadMany_BadRow : PySem.W.exmOne K (.ref (a_BadMany K)) (.ref (a_BadRow K)) = some false
  e_BadMany_NotHeap : PySem.W.exmOne K (.ref (a_BadMany K)) (.ref (a_NotHeap K)) = some false
  e_BadMany_HeapError : PySem.W.exmOne K (.ref (a_BadMany K)) (.ref (a_HeapError K)) = some true
  ec_BadMany : ExcC K (a_BadMany K)
  e_BadPlace_BadRow : PySem.W.exmOne K (.ref (a_BadPlace K)) (.ref (a_BadRow K)) = some false
  e_BadPlace_NotHeap : PySem.W.exmOne K (.ref (a_BadPlace K)) (.ref (a_NotHeap K)) = some false
  e_BadPlace_HeapError : PySem.W.exmOne K (.ref (a_BadPlace K)) (.ref (a_HeapError K)) = some true
  ec_BadPlace : ExcC K (a_BadPlace K)
  e_BadKey_BadRow : PySem.W.exmOne K (.ref (a_BadKey K)) (.ref (a_BadRow K)) = some false
  e_BadKey_NotHeap : PySem.W.exmOne K (.ref (a_BadKey K)) (.ref (a_NotHeap K)) = some false
  e_BadKey_HeapError : PySem.W.exmOne K (.ref (a_BadKey K)) (.ref (a_HeapError K)) = some true
  ec_BadKey : ExcC K (a_BadKey K)
  e_Empty_BadRow : PySem.W.exmOne K (.ref (a_Empty K)) (.ref (a_BadRow K)) = some false
  e_Empty_NotHeap : PySem.W.exmOne K (.ref (a_Empty K)) (.ref (a_NotHeap K)) = some false
  e_Empty_HeapError : PySem.W.exmOne K (.ref (a_Empty K)) (.ref (a_HeapError K)) = some true
  ec_Empty : ExcC K (a_Empty K)
  e_Full_BadRow : PySem.W.exmOne K (.ref (a_Full K)) (.ref (a_BadRow K)) = some false
  e_Full_NotHeap : PySem.W.exmOne K (.ref (a_Full K)) (.ref (a_NotHeap K)) = some false
  e_Full_HeapError : PySem.W.exmOne K (.ref (a_Full K)) (.ref (a_HeapError K)) = some true
  ec_Full : ExcC K (a_Full K)
  e_BadRow_BadRow : PySem.W.exmOne K (.ref (a_BadRow K)) (.ref (a_BadRow K)) = some true
  e_BadRow_NotHeap : PySem.W.exmOne K (.ref (a_BadRow K)) (.ref (a_NotHeap K)) = some false
  e_BadRow_HeapError : PySem.W.exmOne K (.ref (a_BadRow K)) (.ref (a_HeapError K)) = some true
  ec_BadRow : ExcC K (a_BadRow K)
  e_NotHeap_BadRow : PySem.W.exmOne K (.ref (a_NotHeap K)) (.ref (a_BadRow K)) = some false
  e_NotHeap_NotHeap : PySem.W.exmOne K (.ref (a_NotHeap K)) (.ref (a_NotHeap K)) = some true
  e_NotHeap_HeapError : PySem.W.exmOne K (.ref (a_NotHeap K)) (.ref (a_HeapError K)) = some true
  ec_NotHeap : ExcC K (a_NotHeap K)
  k_BadArms_BadArms : PySem.W.kitOne K (.ref (a_BadArms K)) (.ref (a_BadArms K)) = some true
  k_BadArms_BadMany : PySem.W.kitOne K (.ref (a_BadArms K)) (.ref (a_BadMany K)) = some false
  k_BadArms_BadPlace : PySem.W.kitOne K (.ref (a_BadArms K)) (.ref (a_BadPlace K)) = some false
  k_BadArms_BadKey : PySem.W.kitOne K (.ref (a_BadArms K)) (.ref (a_BadKey K)) = some false
  k_BadArms_Empty : PySem.W.kitOne K (.ref (a_BadArms K)) (.ref (a_Empty K)) = some false
  k_BadArms_Full : PySem.W.kitOne K (.ref (a_BadArms K)) (.ref (a_Full K)) = some false
  kv_BadArms : PySem.W.kitOne K (.ref (a_BadArms K)) (.type "ValueError") = some true
  k_BadMany_BadArms : PySem.W.kitOne K (.ref (a_BadMany K)) (.ref (a_BadArms K)) = some false
  k_BadMany_BadMany : PySem.W.kitOne K (.ref (a_BadMany K)) (.ref (a_BadMany K)) = some true
  k_BadMany_BadPlace : PySem.W.kitOne K (.ref (a_BadMany K)) (.ref (a_BadPlace K)) = some false
  k_BadMany_BadKey : PySem.W.kitOne K (.ref (a_BadMany K)) (.ref (a_BadKey K)) = some false
  k_BadMany_Empty : PySem.W.kitOne K (.ref (a_BadMany K)) (.ref (a_Empty K)) = some false
  k_BadMany_Full : PySem.W.kitOne K (.ref (a_BadMany K)) (.ref (a_Full K)) = some false
  kv_BadMany : PySem.W.kitOne K (.ref (a_BadMany K)) (.type "ValueError") = some true
  k_BadPlace_BadArms : PySem.W.kitOne K (.ref (a_BadPlace K)) (.ref (a_BadArms K)) = some false
  k_BadPlace_BadMany : PySem.W.kitOne K (.ref (a_BadPlace K)) (.ref (a_BadMany K)) = some false
  k_BadPlace_BadPlace : PySem.W.kitOne K (.ref (a_BadPlace K)) (.ref (a_BadPlace K)) = some true
  k_BadPlace_BadKey : PySem.W.kitOne K (.ref (a_BadPlace K)) (.ref (a_BadKey K)) = some false
  k_BadPlace_Empty : PySem.W.kitOne K (.ref (a_BadPlace K)) (.ref (a_Empty K)) = some false
  k_BadPlace_Full : PySem.W.kitOne K (.ref (a_BadPlace K)) (.ref (a_Full K)) = some false
  kv_BadPlace : PySem.W.kitOne K (.ref (a_BadPlace K)) (.type "ValueError") = some true
  k_BadKey_BadArms : PySem.W.kitOne K (.ref (a_BadKey K)) (.ref (a_BadArms K)) = some false
  k_BadKey_BadMany : PySem.W.kitOne K (.ref (a_BadKey K)) (.ref (a_BadMany K)) = some false
  k_BadKey_BadPlace : PySem.W.kitOne K (.ref (a_BadKey K)) (.ref (a_BadPlace K)) = some false
  k_BadKey_BadKey : PySem.W.kitOne K (.ref (a_BadKey K)) (.ref (a_BadKey K)) = some true
  k_BadKey_Empty : PySem.W.kitOne K (.ref (a_BadKey K)) (.ref (a_Empty K)) = some false
  k_BadKey_Full : PySem.W.kitOne K (.ref (a_BadKey K)) (.ref (a_Full K)) = some false
  kv_BadKey : PySem.W.kitOne K (.ref (a_BadKey K)) (.type "ValueError") = some true
  k_Empty_BadArms : PySem.W.kitOne K (.ref (a_Empty K)) (.ref (a_BadArms K)) = some false
  k_Empty_BadMany : PySem.W.kitOne K (.ref (a_Empty K)) (.ref (a_BadMany K)) = some false
  k_Empty_BadPlace : PySem.W.kitOne K (.ref (a_Empty K)) (.ref (a_BadPlace K)) = some false
  k_Empty_BadKey : PySem.W.kitOne K (.ref (a_Empty K)) (.ref (a_BadKey K)) = some false
  k_Empty_Empty : PySem.W.kitOne K (.ref (a_Empty K)) (.ref (a_Empty K)) = some true
  k_Empty_Full : PySem.W.kitOne K (.ref (a_Empty K)) (.ref (a_Full K)) = some false
  kv_Empty : PySem.W.kitOne K (.ref (a_Empty K)) (.type "ValueError") = some true
  k_Full_BadArms : PySem.W.kitOne K (.ref (a_Full K)) (.ref (a_BadArms K)) = some false
  k_Full_BadMany : PySem.W.kitOne K (.ref (a_Full K)) (.ref (a_BadMany K)) = some false
  k_Full_BadPlace : PySem.W.kitOne K (.ref (a_Full K)) (.ref (a_BadPlace K)) = some false
  k_Full_BadKey : PySem.W.kitOne K (.ref (a_Full K)) (.ref (a_BadKey K)) = some false
  k_Full_Empty : PySem.W.kitOne K (.ref (a_Full K)) (.ref (a_Empty K)) = some false
  k_Full_Full : PySem.W.kitOne K (.ref (a_Full K)) (.ref (a_Full K)) = some true
  kv_Full : PySem.W.kitOne K (.ref (a_Full K)) (.type "ValueError") = some true
  k_BadRow : PySem.W.kitOne K (.ref (a_BadRow K)) (.ref (a_HeapError K)) = some true
  o_BadRow : OexC K (a_BadRow K)
  xf_BadRow : XfC K (a_BadRow K)
  no_BadRow : PySem.W.findIn K (.ref (a_BadRow K)) "index" = some none
  in_BadRow : PySem.W.findIn K (.ref (a_BadRow K)) "__init__" = some (some (.ref (a_BadRow_init K)))
  ty_BadRow : PySem.W.typeIn K (.ref (a_BadRow_init K)) = some (.type "function")
  sp_BadRow : PySem.W.ks_superIn K (a_BadRow K) (a_BadRow K) "__init__" = some (some (.builtin "ValueError.__init__"))
  sb_BadRow : PySem.W.subIn K (.ref (a_BadRow K)) (.type "ValueError") = some true
  mr_BadRow : PySem.W.mroIn K (a_BadRow K) (.ref (a_BadRow K)) = some true
  ei_BadRow : PySem.W.excInitIn K (a_BadRow K) veBase "ValueError.__new__" = true
  k_NotHeap : PySem.W.kitOne K (.ref (a_NotHeap K)) (.ref (a_HeapError K)) = some true
  o_NotHeap : OexC K (a_NotHeap K)
  xf_NotHeap : XfC K (a_NotHeap K)
  no_NotHeap : PySem.W.findIn K (.ref (a_NotHeap K)) "place" = some none
  in_NotHeap : PySem.W.findIn K (.ref (a_NotHeap K)) "__init__" = some (some (.ref (a_NotHeap_init K)))
  ty_NotHeap : PySem.W.typeIn K (.ref (a_NotHeap_init K)) = some (.type "function")
  sp_NotHeap : PySem.W.ks_superIn K (a_NotHeap K) (a_NotHeap K) "__init__" = some (some (.builtin "ValueError.__init__"))
  sb_NotHeap : PySem.W.subIn K (.ref (a_NotHeap K)) (.type "ValueError") = some true
  mr_NotHeap : PySem.W.mroIn K (a_NotHeap K) (.ref (a_NotHeap K)) = some true
  ei_NotHeap : PySem.W.excInitIn K (a_NotHeap K) veBase "ValueError.__new__" = true
  st_any : PySem.W.nsIn K cStatics "thirdparty.any" = some none
  n_super2 : PySem.W.nsIn K mainGlobals "super" = some none
  tabs_nd : (tf.map fun p => (cT K p).2).Nodup
  f_is_number : ∃ fd, FunD K "is_number" "is_number" (defArgs s_is_number) (defBody s_is_number) (defScope s_is_number) [] [] (a_is_number K) fd
  f_is_key : ∃ fd, FunD K "is_key" "is_key" (defArgs s_is_key) (defBody s_is_key) (defScope s_is_key) [] [] (a_is_key K) fd
  f_check_arms : ∃ fd, FunD K "check_arms" "check_arms" (defArgs s_check_arms) (defBody s_check_arms) (defScope s_check_arms) [] [] (a_check_arms K) fd
  f_check_row : ∃ fd, FunD K "check_row" "check_row" (defArgs s_check_row) (defBody s_check_row) (defScope s_check_row) [] [] (a_check_row K) fd
  f_Tree_init : ∃ fd, FunD K "__init__" "Tree.__init__" (defArgs s_Tree_init) (defBody s_Tree_init) (defScope s_Tree_init) [] [("arms", .int 2)] (a_Tree_init K) fd
  f_Tree_of : ∃ fd, FunD K "of" "Tree.of" (defArgs s_Tree_of) (defBody s_Tree_of) (defScope s_Tree_of) [] [("arms", .int 2)] (a_Tree_of K) fd
  f_Tree_contains : ∃ fd, FunD K "__contains__" "Tree.__contains__" (defArgs s_Tree_contains) (defBody s_Tree_contains) (defScope s_Tree_contains) [] [] (a_Tree_contains K) fd
  f_Tree_iter : ∃ fd, FunD K "__iter__" "Tree.__iter__" (defArgs s_Tree_iter) (defBody s_Tree_iter) (defScope s_Tree_iter) [] [] (a_Tree_iter K) fd
  f_Tree_getitem : ∃ fd, FunD K "__getitem__" "Tree.__getitem__" (defArgs s_Tree_getitem) (defBody s_Tree_getitem) (defScope s_Tree_getitem) [] [] (a_Tree_getitem K) fd
  f_Tree_check_place : ∃ fd, FunD K "check_place" "Tree.check_place" (defArgs s_Tree_check_place) (defBody s_Tree_check_place) (defScope s_Tree_check_place) [] [] (a_Tree_check_place K) fd
  f_Tree_parent : ∃ fd, FunD K "parent" "Tree.parent" (defArgs s_Tree_parent) (defBody s_Tree_parent) (defScope s_Tree_parent) [] [] (a_Tree_parent K) fd
  f_Tree_way_to : ∃ fd, FunD K "way_to" "Tree.way_to" (defArgs s_Tree_way_to) (defBody s_Tree_way_to) (defScope s_Tree_way_to) [] [] (a_Tree_way_to K) fd
  f_Tree_depth : ∃ fd, FunD K "depth" "Tree.depth" (defArgs s_Tree_depth) (defBody s_Tree_depth) (defScope s_Tree_depth) [] [] (a_Tree_depth K) fd
  f_Tree_subtree : ∃ fd, FunD K "subtree" "Tree.subtree" (defArgs s_Tree_subtree) (defBody s_Tree_subtree) (defScope s_Tree_subtree) [] [] (a_Tree_subtree K) fd
  f_Tree_size : ∃ fd, FunD K "size" "Tree.size" (defArgs s_Tree_size) (defBody s_Tree_size) (defScope s_Tree_size) [] [] (a_Tree_size K) fd
  f_Tree_height : ∃ fd, FunD K "height" "Tree.height" (defArgs s_Tree_height) (defBody s_Tree_height) (defScope s_Tree_height) [] [] (a_Tree_height K) fd
  f_check_heap : ∃ fd, FunD K "check_heap" "check_heap" (defArgs s_check_heap) (defBody s_check_heap) (defScope s_check_heap) [] [] (a_check_heap K) fd
  f_faults_in : ∃ fd, FunD K "faults_in" "faults_in" (defArgs s_faults_in) (defBody s_faults_in) (defScope s_faults_in) [] [] (a_faults_in K) fd
  f_falls_in : ∃ fd, FunD K "falls_in" "falls_in" (defArgs s_falls_in) (defBody s_falls_in) (defScope s_falls_in) [] [] (a_falls_in K) fd
  f_is_heap : ∃ fd, FunD K "is_heap" "is_heap" (defArgs s_is_heap) (defBody s_is_heap) (defScope s_is_heap) [] [("arms", .int 2)] (a_is_heap K) fd
  f_faults : ∃ fd, FunD K "faults" "faults" (defArgs s_faults) (defBody s_faults) (defScope s_faults) [] [("arms", .int 2)] (a_faults K) fd
  f_falls : ∃ fd, FunD K "falls" "falls" (defArgs s_falls) (defBody s_falls) (defScope s_falls) [] [("arms", .int 2)] (a_falls K) fd
  f_ranks : ∃ fd, FunD K "ranks" "ranks" (defArgs s_ranks) (defBody s_ranks) (defScope s_ranks) [] [] (a_ranks K) fd
  f_Sift_init : ∃ fd, FunD K "__init__" "Sift.__init__" (defArgs s_Sift_init) (defBody s_Sift_init) (defScope s_Sift_init) [] [] (a_Sift_init K) fd
  f_moved : ∃ fd, FunD K "moved" "moved" (defArgs s_moved) (defBody s_moved) (defScope s_moved) [] [] (a_moved K) fd
  f_first_least : ∃ fd, FunD K "first_least" "first_least" (defArgs s_first_least) (defBody s_first_least) (defScope s_first_least) [] [] (a_first_least K) fd
  f_way_up : ∃ fd, FunD K "way_up" "way_up" (defArgs s_way_up) (defBody s_way_up) (defScope s_way_up) [] [] (a_way_up K) fd
  f_way_down : ∃ fd, FunD K "way_down" "way_down" (defArgs s_way_down) (defBody s_way_down) (defScope s_way_down) [] [] (a_way_down K) fd
  f_way_of_hole : ∃ fd, FunD K "way_of_hole" "way_of_hole" (defArgs s_way_of_hole) (defBody s_way_of_hole) (defScope s_way_of_hole) [] [] (a_way_of_hole K) fd
  f_lifted : ∃ fd, FunD K "lifted" "lifted" (defArgs s_lifted) (defBody s_lifted) (defScope s_lifted) [] [] (a_lifted K) fd
  f_sunk : ∃ fd, FunD K "sunk" "sunk" (defArgs s_sunk) (defBody s_sunk) (defScope s_sunk) [] [] (a_sunk K) fd
  f_sift_up : ∃ fd, FunD K "sift_up" "sift_up" (defArgs s_sift_up) (defBody s_sift_up) (defScope s_sift_up) [] [("arms", .int 2)] (a_sift_up K) fd
  f_sift_down : ∃ fd, FunD K "sift_down" "sift_down" (defArgs s_sift_down) (defBody s_sift_down) (defScope s_sift_down) [] [("arms", .int 2)] (a_sift_down K) fd
  f_Built_init : ∃ fd, FunD K "__init__" "Built.__init__" (defArgs s_Built_init) (defBody s_Built_init) (defScope s_Built_init) [] [] (a_Built_init K) fd
  f_parents_of : ∃ fd, FunD K "parents_of" "parents_of" (defArgs s_parents_of) (defBody s_parents_of) (defScope s_parents_of) [] [] (a_parents_of K) fd
  f_built : ∃ fd, FunD K "built" "built" (defArgs s_built) (defBody s_built) (defScope s_built) [] [] (a_built K) fd
  f_without_last : ∃ fd, FunD K "without_last" "without_last" (defArgs s_without_last) (defBody s_without_last) (defScope s_without_last) [] [] (a_without_last K) fd
  f_taken : ∃ fd, FunD K "taken" "taken" (defArgs s_taken) (defBody s_taken) (defScope s_taken) [] [] (a_taken K) fd
  f_taken_by_hole : ∃ fd, FunD K "taken_by_hole" "taken_by_hole" (defArgs s_taken_by_hole) (defBody s_taken_by_hole) (defScope s_taken_by_hole) [] [] (a_taken_by_hole K) fd
  f_check_full : ∃ fd, FunD K "check_full" "check_full" (defArgs s_check_full) (defBody s_check_full) (defScope s_check_full) [] [] (a_check_full K) fd
  f_push : ∃ fd, FunD K "push" "push" (defArgs s_push) (defBody s_push) (defScope s_push) [] [("arms", .int 2)] (a_push K) fd
  f_take : ∃ fd, FunD K "take" "take" (defArgs s_take) (defBody s_take) (defScope s_take) [] [("arms", .int 2)] (a_take K) fd
  f_take_by_hole : ∃ fd, FunD K "take_by_hole" "take_by_hole" (defArgs s_take_by_hole) (defBody s_take_by_hole) (defScope s_take_by_hole) [] [("arms", .int 2)] (a_take_by_hole K) fd
  f_put_for : ∃ fd, FunD K "put_for" "put_for" (defArgs s_put_for) (defBody s_put_for) (defScope s_put_for) [] [("arms", .int 2)] (a_put_for K) fd
  f_build : ∃ fd, FunD K "build" "build" (defArgs s_build) (defBody s_build) (defScope s_build) [] [("arms", .int 2)] (a_build K) fd
  f_law_number : ∃ fd, FunD K "_law_number" "_law_number" (defArgs s_law_number) (defBody s_law_number) (defScope s_law_number) [] [] (a_law_number K) fd
  f_law_take : ∃ fd, FunD K "_law_take" "_law_take" (defArgs s_law_take) (defBody s_law_take) (defScope s_law_take) [] [] (a_law_take K) fd
  f_law_pick : ∃ fd, FunD K "_law_pick" "_law_pick" (defArgs s_law_pick) (defBody s_law_pick) (defScope s_law_pick) [] [] (a_law_pick K) fd
  f_law_parent : ∃ fd, FunD K "_law_parent" "_law_parent" (defArgs s_law_parent) (defBody s_law_parent) (defScope s_law_parent) [] [] (a_law_parent K) fd
  f_law_arms : ∃ fd, FunD K "_law_arms" "_law_arms" (defArgs s_law_arms) (defBody s_law_arms) (defScope s_law_arms) [] [] (a_law_arms K) fd
  f_law_keys : ∃ fd, FunD K "_law_keys" "_law_keys" (defArgs s_law_keys) (defBody s_law_keys) (defScope s_law_keys) [] [] (a_law_keys K) fd
  f_law_heap : ∃ fd, FunD K "_law_heap" "_law_heap" (defArgs s_law_heap) (defBody s_law_heap) (defScope s_law_heap) [] [] (a_law_heap K) fd
  f_law_is_number : ∃ fd, FunD K "_law_is_number" "_law_is_number" (defArgs s_law_is_number) (defBody s_law_is_number) (defScope s_law_is_number) [] [] (a_law_is_number K) fd
  f_law_odd : ∃ fd, FunD K "_law_odd" "_law_odd" (defArgs s_law_odd) (defBody s_law_odd) (defScope s_law_odd) [] [] (a_law_odd K) fd
  f_law_row_word : ∃ fd, FunD K "_law_row_word" "_law_row_word" (defArgs s_law_row_word) (defBody s_law_row_word) (defScope s_law_row_word) [] [] (a_law_row_word K) fd
  f_law_heap_word : ∃ fd, FunD K "_law_heap_word" "_law_heap_word" (defArgs s_law_heap_word) (defBody s_law_heap_word) (defScope s_law_heap_word) [] [] (a_law_heap_word K) fd
  f_law_arms_word : ∃ fd, FunD K "_law_arms_word" "_law_arms_word" (defArgs s_law_arms_word) (defBody s_law_arms_word) (defScope s_law_arms_word) [] [] (a_law_arms_word K) fd
  f_law_first_word : ∃ fd, FunD K "_law_first_word" "_law_first_word" (defArgs s_law_first_word) (defBody s_law_first_word) (defScope s_law_first_word) [] [] (a_law_first_word K) fd
  f_law_told : ∃ fd, FunD K "_law_told" "_law_told" (defArgs s_law_told) (defBody s_law_told) (defScope s_law_told) [] [] (a_law_told K) fd
  f_law_trees_right : ∃ fd, FunD K "_law_trees_right" "_law_trees_right" (defArgs s_law_trees_right) (defBody s_law_trees_right) (defScope s_law_trees_right) [] [] (a_law_trees_right K) fd
  f_law_rows_right : ∃ fd, FunD K "_law_rows_right" "_law_rows_right" (defArgs s_law_rows_right) (defBody s_law_rows_right) (defScope s_law_rows_right) [] [] (a_law_rows_right K) fd
  f_law_heaps_right : ∃ fd, FunD K "_law_heaps_right" "_law_heaps_right" (defArgs s_law_heaps_right) (defBody s_law_heaps_right) (defScope s_law_heaps_right) [] [] (a_law_heaps_right K) fd
  f_law : ∃ fd, FunD K "law" "law" (defArgs s_law) (defBody s_law) (defScope s_law) [] [] (a_law K) fd
  f_BadRow_init : SupD K s_BadRow_init "BadRow.__init__" file (a_BadRow_init K) (a_BadRow K)
  f_NotHeap_init : SupD K s_NotHeap_init "NotHeap.__init__" file (a_NotHeap_init K) (a_NotHeap K)
  tab : ∀ p ∈ tf, LamX.TabB base mg (cT K p).1 (cT K p).2
theorem funD_at {K : PySem.W.Frag} (hv : fn.map (fun d => He5.fnA K (d.at_ K)) = fn.map He5.DefA.val) (ho : ∀ d ∈ fn, d.ok K = true) (i : Nat) {d : He5.DefA} (h : fn[i]? = some d) : ∃ fd, FunD K d.name d.qual d.params d.body d.scope (d.dvs K) (d.kws K) (d.at_ K) fd := by
  have e2 : (fn.map fun d => He5.fnA K (d.at_ K))[i]? = (fn.map He5.DefA.val)[i]? := by rw [hv]
  rw [List.getElem?_map, List.getElem?_map, h] at e2
  exact He5.DefA.funD (Option.some.inj e2) (ho d (List.mem_of_getElem? h))
theorem tx_of {K : PySem.W.Frag} {mg : Str → Option Value} {base h : Heap} (S : Says h K) (kin : K.In base) (glob : base.Ns mainGlobals mg) (tab : ∀ p ∈ tf, LamX.TabB base mg (cT K p).1 (cT K p).2) : TX K mg base := by
  have h0 := S.kf
  obtain ⟨c0, h1⟩ := ba h0
  obtain ⟨c1, h2⟩ := ba h1
  obtain ⟨c2, h3⟩ := ba h2
  obtain ⟨c3, h4⟩ := ba h3
  obtain ⟨c4, h5⟩ := ba h4
  obtain ⟨c5, h6⟩ := ba h5
  obtain ⟨c6, h7⟩ := ba h6
  have c7 := h7
  constructor
  case kin => exact kin
  case glob => exact glob
  case tab => exact tab
  case f_BadRow_init => exact S.sup1
  case f_NotHeap_init => exact S.sup2
  case g_HeapError => have h := all_at c0 0 rfl; exact glo_ok kin glob h
  case g_BadRow => have h := all_at c0 1 rfl; exact glo_ok kin glob h
  case g_NotHeap => have h := all_at c0 2 rfl; exact glo_ok kin glob h
  case g_BadArms => have h := all_at c0 3 rfl; exact glo_ok kin glob h
  case g_BadMany => have h := all_at c0 4 rfl; exact glo_ok kin glob h
  case g_BadPlace => have h := all_at c0 5 rfl; exact glo_ok kin glob h
  case g_BadKey => have h := all_at c0 6 rfl; exact glo_ok kin glob h
  case g_Empty => have h := all_at c0 7 rfl; exact glo_ok kin glob h
  case g_Full => have h := all_at c0 8 rfl; exact glo_ok kin glob h
  case g_MOST_ARMS => have h := all_at c0 9 rfl; exact int_ok kin glob h
  case g_MOST_PLACES => have h := all_at c0 10 rfl; exact int_ok kin glob h
  case g_MOST_KEY => have h := all_at c0 11 rfl; exact int_ok kin glob h
  case g_is_number => have h := all_at c0 12 rfl; exact glo_ok kin glob h
  case g_is_key => have h := all_at c0 13 rfl; exact glo_ok kin glob h
  case g_check_arms => have h := all_at c0 14 rfl; exact glo_ok kin glob h
  case g_check_row => have h := all_at c0 15 rfl; exact glo_ok kin glob h
  case g_Tree => have h := all_at c0 16 rfl; exact glo_ok kin glob h
  case g_check_heap => have h := all_at c0 17 rfl; exact glo_ok kin glob h
  case g_faults_in => have h := all_at c0 18 rfl; exact glo_ok kin glob h
  case g_falls_in => have h := all_at c0 19 rfl; exact glo_ok kin glob h
  case g_is_heap => have h := all_at c0 20 rfl; exact glo_ok kin glob h
  case g_faults => have h := all_at c0 21 rfl; exact glo_ok kin glob h
  case g_falls => have h := all_at c0 22 rfl; exact glo_ok kin glob h
  case g_ranks => have h := all_at c0 23 rfl; exact glo_ok kin glob h
  case g_Sift => have h := all_at c0 24 rfl; exact glo_ok kin glob h
  case g_moved => have h := all_at c0 25 rfl; exact glo_ok kin glob h
  case g_first_least => have h := all_at c0 26 rfl; exact glo_ok kin glob h
  case g_way_up => have h := all_at c0 27 rfl; exact glo_ok kin glob h
  case g_way_down => have h := all_at c0 28 rfl; exact glo_ok kin glob h
  case g_way_of_hole => have h := all_at c0 29 rfl; exact glo_ok kin glob h
  case g_lifted => have h := all_at c1 0 rfl; exact glo_ok kin glob h
  case g_sunk => have h := all_at c1 1 rfl; exact glo_ok kin glob h
  case g_sift_up => have h := all_at c1 2 rfl; exact glo_ok kin glob h
  case g_sift_down => have h := all_at c1 3 rfl; exact glo_ok kin glob h
  case g_Built => have h := all_at c1 4 rfl; exact glo_ok kin glob h
  case g_parents_of => have h := all_at c1 5 rfl; exact glo_ok kin glob h
  case g_built => have h := all_at c1 6 rfl; exact glo_ok kin glob h
  case g_without_last => have h := all_at c1 7 rfl; exact glo_ok kin glob h
  case g_taken => have h := all_at c1 8 rfl; exact glo_ok kin glob h
  case g_taken_by_hole => have h := all_at c1 9 rfl; exact glo_ok kin glob h
  case g_check_full => have h := all_at c1 10 rfl; exact glo_ok kin glob h
  case g_push => have h := all_at c1 11 rfl; exact glo_ok kin glob h
  case g_take => have h := all_at c1 12 rfl; exact glo_ok kin glob h
  case g_take_by_hole => have h := all_at c1 13 rfl; exact glo_ok kin glob h
  case g_put_for => have h := all_at c1 14 rfl; exact glo_ok kin glob h
  case g_build => have h := all_at c1 15 rfl; exact glo_ok kin glob h
  case g_law_number => have h := all_at c1 16 rfl; exact glo_ok kin glob h
  case g_law_take => have h := all_at c1 17 rfl; exact glo_ok kin glob h
  case g_law_pick => have h := all_at c1 18 rfl; exact glo_ok kin glob h
  case g_law_parent => have h := all_at c1 19 rfl; exact glo_ok kin glob h
  case g_law_arms => have h := all_at c1 20 rfl; exact glo_ok kin glob h
  case g_law_keys => have h := all_at c1 21 rfl; exact glo_ok kin glob h
  case g_law_heap => have h := all_at c1 22 rfl; exact glo_ok kin glob h
  case g_law_is_number => have h := all_at c1 23 rfl; exact glo_ok kin glob h
  case g_law_odd => have h := all_at c1 24 rfl; exact glo_ok kin glob h
  case g_law_row_word => have h := all_at c1 25 rfl; exact glo_ok kin glob h
  case g_law_heap_word => have h := all_at c1 26 rfl; exact glo_ok kin glob h
  case g_law_arms_word => have h := all_at c1 27 rfl; exact glo_ok kin glob h
  case g_law_first_word => have h := all_at c1 28 rfl; exact glo_ok kin glob h
  case g_law_told => have h := all_at c1 29 rfl; exact glo_ok kin glob h
  case g_law_trees_right => have h := all_at c2 0 rfl; exact glo_ok kin glob h
  case g_law_rows_right => have h := all_at c2 1 rfl; exact glo_ok kin glob h
  case g_law_heaps_right => have h := all_at c2 2 rfl; exact glo_ok kin glob h
  case g_law => have h := all_at c2 3 rfl; exact glo_ok kin glob h
  case n_len => have h := all_at c2 4 rfl; exact free_ok kin glob h
  case n_isinstance => have h := all_at c2 5 rfl; exact free_ok kin glob h
  case n_int => have h := all_at c2 6 rfl; exact free_ok kin glob h
  case n_bool => have h := all_at c2 7 rfl; exact free_ok kin glob h
  case n_list => have h := all_at c2 8 rfl; exact free_ok kin glob h
  case n_tuple => have h := all_at c2 9 rfl; exact free_ok kin glob h
  case n_enumerate => have h := all_at c2 10 rfl; exact free_ok kin glob h
  case n_range => have h := all_at c2 11 rfl; exact free_ok kin glob h
  case n_min => have h := all_at c2 12 rfl; exact free_ok kin glob h
  case n_max => have h := all_at c2 13 rfl; exact free_ok kin glob h
  case n_sorted => have h := all_at c2 14 rfl; exact free_ok kin glob h
  case n_iter => have h := all_at c2 15 rfl; exact free_ok kin glob h
  case n_super => have h := all_at c2 16 rfl; exact free_ok kin glob h
  case n_sum => have h := all_at c2 17 rfl; exact free_ok kin glob h
  case n_all => have h := all_at c2 18 rfl; exact free_ok kin glob h
  case n_any => have h := all_at c2 19 rfl; exact free_ok kin glob h
  case n_zip => have h := all_at c2 20 rfl; exact free_ok kin glob h
  case n_ValueError => have h := all_at c2 21 rfl; exact free_ok kin glob h
  case c_Tree => have h := all_at c2 22 rfl; exact sclB_ok h
  case m_Tree => have h := all_at c2 23 rfl; exact mkr_ok (x := "Tree") h
  case s_Tree_many => have h := all_at c2 24 rfl; exact slotB_ok h
  case s_Tree_arms => have h := all_at c2 25 rfl; exact slotB_ok h
  case s_Tree_places => have h := all_at c2 26 rfl; exact slotB_ok h
  case c_Sift => have h := all_at c2 27 rfl; exact sclB_ok h
  case m_Sift => have h := all_at c2 28 rfl; exact mkr_ok (x := "Sift") h
  case s_Sift_row => have h := all_at c2 29 rfl; exact slotB_ok h
  case s_Sift_way => have h := all_at c3 0 rfl; exact slotB_ok h
  case s_Sift_looks => have h := all_at c3 1 rfl; exact slotB_ok h
  case c_Built => have h := all_at c3 2 rfl; exact sclB_ok h
  case m_Built => have h := all_at c3 3 rfl; exact mkr_ok (x := "Built") h
  case s_Built_row => have h := all_at c3 4 rfl; exact slotB_ok h
  case s_Built_stops => have h := all_at c3 5 rfl; exact slotB_ok h
  case s_Built_changes => have h := all_at c3 6 rfl; exact slotB_ok h
  case s_Built_looks => have h := all_at c3 7 rfl; exact slotB_ok h
  case t_check_place => have h := all_at c3 8 rfl; exact meth_ok (x := "Tree") (m := "check_place") h
  case t_parent => have h := all_at c3 9 rfl; exact meth_ok (x := "Tree") (m := "parent") h
  case t_way_to => have h := all_at c3 10 rfl; exact meth_ok (x := "Tree") (m := "way_to") h
  case t_depth => have h := all_at c3 11 rfl; exact meth_ok (x := "Tree") (m := "depth") h
  case t_subtree => have h := all_at c3 12 rfl; exact meth_ok (x := "Tree") (m := "subtree") h
  case t_size => have h := all_at c3 13 rfl; exact meth_ok (x := "Tree") (m := "size") h
  case t_height => have h := all_at c3 14 rfl; exact meth_ok (x := "Tree") (m := "height") h
  case d_contains => have h := all_at c3 15 rfl; exact eqO_ok h
  case df_contains => have h := all_at c3 16 rfl; exact h
  case d_getitem => have h := all_at c3 17 rfl; exact eqO_ok h
  case df_getitem => have h := all_at c3 18 rfl; exact h
  case d_iter => have h := all_at c3 19 rfl; exact eqO_ok h
  case df_iter => have h := all_at c3 20 rfl; exact h
  case dn_getitem => have h := all_at c3 21 rfl; exact h
  case cm_of => have h := all_at c3 22 rfl; exact cmB_ok h
  case k_Tree => have h := all_at c3 23 rfl; exact h
  case x_BadArms => have h := all_at c3 24 rfl; exact exc_ok (x := "BadArms") h
  case x_BadMany => have h := all_at c3 25 rfl; exact exc_ok (x := "BadMany") h
  case x_BadPlace => have h := all_at c3 26 rfl; exact exc_ok (x := "BadPlace") h
  case x_BadKey => have h := all_at c3 27 rfl; exact exc_ok (x := "BadKey") h
  case x_Empty => have h := all_at c3 28 rfl; exact exc_ok (x := "Empty") h
  case x_Full => have h := all_at c3 29 rfl; exact exc_ok (x := "Full") h
  case x_HeapError => have h := all_at c4 0 rfl; exact exc_ok (x := "HeapError") h
  case e_BadArms_BadRow => have h := all_at c4 1 rfl; exact of_decide_eq_true h
  case e_BadArms_NotHeap => have h := all_at c4 2 rfl; exact of_decide_eq_true h
  case e_BadArms_HeapError => have h := all_at c4 3 rfl; exact of_decide_eq_true h
  case ec_BadArms => have h := all_at c4 4 rfl; exact excCB_ok h
  case e_BadMany_BadRow => have h := all_at c4 5 rfl; exact of_decide_eq_true h
  case e_BadMany_NotHeap => have h := all_at c4 6 rfl; exact of_decide_eq_true h
  case e_BadMany_HeapError => have h := all_at c4 7 rfl; exact of_decide_eq_true h
  case ec_BadMany => have h := all_at c4 8 rfl; exact excCB_ok h
  case e_BadPlace_BadRow => have h := all_at c4 9 rfl; exact of_decide_eq_true h
  case e_BadPlace_NotHeap => have h := all_at c4 10 rfl; exact of_decide_eq_true h
  case e_BadPlace_HeapError => have h := all_at c4 11 rfl; exact of_decide_eq_true h
  case ec_BadPlace => have h := all_at c4 12 rfl; exact excCB_ok h
  case e_BadKey_BadRow => have h := all_at c4 13 rfl; exact of_decide_eq_true h
  case e_BadKey_NotHeap => have h := all_at c4 14 rfl; exact of_decide_eq_true h
  case e_BadKey_HeapError => have h := all_at c4 15 rfl; exact of_decide_eq_true h
  case ec_BadKey => have h := all_at c4 16 rfl; exact excCB_ok h
  case e_Empty_BadRow => have h := all_at c4 17 rfl; exact of_decide_eq_true h
  case e_Empty_NotHeap => have h := all_at c4 18 rfl; exact of_decide_eq_true h
  case e_Empty_HeapError => have h := all_at c4 19 rfl; exact of_decide_eq_true h
  case ec_Empty => have h := all_at c4 20 rfl; exact excCB_ok h
  case e_Full_BadRow => have h := all_at c4 21 rfl; exact of_decide_eq_true h
  case e_Full_NotHeap => have h := all_at c4 22 rfl; exact of_decide_eq_true h
  case e_Full_HeapError => have h := all_at c4 23 rfl; exact of_decide_eq_true h
  case ec_Full => have h := all_at c4 24 rfl; exact excCB_ok h
  case e_BadRow_BadRow => have h := all_at c4 25 rfl; exact of_decide_eq_true h
  case e_BadRow_NotHeap => have h := all_at c4 26 rfl; exact of_decide_eq_true h
  case e_BadRow_HeapError => have h := all_at c4 27 rfl; exact of_decide_eq_true h
  case ec_BadRow => have h := all_at c4 28 rfl; exact excCB_ok h
  case e_NotHeap_BadRow => have h := all_at c4 29 rfl; exact of_decide_eq_true h
  case e_NotHeap_NotHeap => have h := all_at c5 0 rfl; exact of_decide_eq_true h
  case e_NotHeap_HeapError => have h := all_at c5 1 rfl; exact of_decide_eq_true h
  case ec_NotHeap => have h := all_at c5 2 rfl; exact excCB_ok h
  case k_BadArms_BadArms => have h := all_at c5 3 rfl; exact of_decide_eq_true h
  case k_BadArms_BadMany => have h := all_at c5 4 rfl; exact of_decide_eq_true h
  case k_BadArms_BadPlace => have h := all_at c5 5 rfl; exact of_decide_eq_true h
  case k_BadArms_BadKey => have h := all_at c5 6 rfl; exact of_decide_eq_true h
  case k_BadArms_Empty => have h := all_at c5 7 rfl; exact of_decide_eq_true h
  case k_BadArms_Full => have h := all_at c5 8 rfl; exact of_decide_eq_true h
  case kv_BadArms => have h := all_at c5 9 rfl; exact of_decide_eq_true h
  case k_BadMany_BadArms => have h := all_at c5 10 rfl; exact of_decide_eq_true h
  case k_BadMany_BadMany => have h := all_at c5 11 rfl; exact of_decide_eq_true h
  case k_BadMany_BadPlace => have h := all_at c5 12 rfl; exact of_decide_eq_true h
  case k_BadMany_BadKey => have h := all_at c5 13 rfl; exact of_decide_eq_true h
  case k_BadMany_Empty => have h := all_at c5 14 rfl; exact of_decide_eq_true h
  case k_BadMany_Full => have h := all_at c5 15 rfl; exact of_decide_eq_true h
  case kv_BadMany => have h := all_at c5 16 rfl; exact of_decide_eq_true h
  case k_BadPlace_BadArms => have h := all_at c5 17 rfl; exact of_decide_eq_true h
  case k_BadPlace_BadMany => have h := all_at c5 18 rfl; exact of_decide_eq_true h
  case k_BadPlace_BadPlace => have h := all_at c5 19 rfl; exact of_decide_eq_true h
  case k_BadPlace_BadKey => have h := all_at c5 20 rfl; exact of_decide_eq_true h
  case k_BadPlace_Empty => have h := all_at c5 21 rfl; exact of_decide_eq_true h
  case k_BadPlace_Full => have h := all_at c5 22 rfl; exact of_decide_eq_true h
  case kv_BadPlace => have h := all_at c5 23 rfl; exact of_decide_eq_true h
  case k_BadKey_BadArms => have h := all_at c5 24 rfl; exact of_decide_eq_true h
  case k_BadKey_BadMany => have h := all_at c5 25 rfl; exact of_decide_eq_true h
  case k_BadKey_BadPlace => have h := all_at c5 26 rfl; exact of_decide_eq_true h
  case k_BadKey_BadKey => have h := all_at c5 27 rfl; exact of_decide_eq_true h
  case k_BadKey_Empty => have h := all_at c5 28 rfl; exact of_decide_eq_true h
  case k_BadKey_Full => have h := all_at c5 29 rfl; exact of_decide_eq_true h
  case kv_BadKey => have h := all_at c6 0 rfl; exact of_decide_eq_true h
  case k_Empty_BadArms => have h := all_at c6 1 rfl; exact of_decide_eq_true h
  case k_Empty_BadMany => have h := all_at c6 2 rfl; exact of_decide_eq_true h
  case k_Empty_BadPlace => have h := all_at c6 3 rfl; exact of_decide_eq_true h
  case k_Empty_BadKey => have h := all_at c6 4 rfl; exact of_decide_eq_true h
  case k_Empty_Empty => have h := all_at c6 5 rfl; exact of_decide_eq_true h
  case k_Empty_Full => have h := all_at c6 6 rfl; exact of_decide_eq_true h
  case kv_Empty => have h := all_at c6 7 rfl; exact of_decide_eq_true h
  case k_Full_BadArms => have h := all_at c6 8 rfl; exact of_decide_eq_true h
  case k_Full_BadMany => have h := all_at c6 9 rfl; exact of_decide_eq_true h
  case k_Full_BadPlace => have h := all_at c6 10 rfl; exact of_decide_eq_true h
  case k_Full_BadKey => have h := all_at c6 11 rfl; exact of_decide_eq_true h
  case k_Full_Empty => have h := all_at c6 12 rfl; exact of_decide_eq_true h
  case k_Full_Full => have h := all_at c6 13 rfl; exact of_decide_eq_true h
  case kv_Full => have h := all_at c6 14 rfl; exact of_decide_eq_true h
  case k_BadRow => have h := all_at c6 15 rfl; exact of_decide_eq_true h
  case o_BadRow => have h := all_at c6 16 rfl; exact oexB_ok h
  case xf_BadRow => have h := all_at c6 17 rfl; exact xfB_ok h
  case no_BadRow => have h := all_at c6 18 rfl; exact eqO_ok h
  case in_BadRow => have h := all_at c6 19 rfl; exact eqO_ok h
  case ty_BadRow => have h := all_at c6 20 rfl; exact of_decide_eq_true h
  case sp_BadRow => have h := all_at c6 21 rfl; exact of_decide_eq_true h
  case sb_BadRow => have h := all_at c6 22 rfl; exact of_decide_eq_true h
  case mr_BadRow => have h := all_at c6 23 rfl; exact of_decide_eq_true h
  case ei_BadRow => have h := all_at c6 24 rfl; exact h
  case k_NotHeap => have h := all_at c6 25 rfl; exact of_decide_eq_true h
  case o_NotHeap => have h := all_at c6 26 rfl; exact oexB_ok h
  case xf_NotHeap => have h := all_at c6 27 rfl; exact xfB_ok h
  case no_NotHeap => have h := all_at c6 28 rfl; exact eqO_ok h
  case in_NotHeap => have h := all_at c6 29 rfl; exact eqO_ok h
  case ty_NotHeap => have h := all_at c7 0 rfl; exact of_decide_eq_true h
  case sp_NotHeap => have h := all_at c7 1 rfl; exact of_decide_eq_true h
  case sb_NotHeap => have h := all_at c7 2 rfl; exact of_decide_eq_true h
  case mr_NotHeap => have h := all_at c7 3 rfl; exact of_decide_eq_true h
  case ei_NotHeap => have h := all_at c7 4 rfl; exact h
  case st_any => have h := all_at c7 5 rfl; exact eqO_ok h
  case n_super2 => have h := all_at c7 6 rfl; exact eqO_ok h
  case tabs_nd => have h := all_at c7 7 rfl; exact of_decide_eq_true h
  case f_is_number => have h := funD_at (d := d_is_number) S.val S.ok 0 rfl; exact h
  case f_is_key => have h := funD_at (d := d_is_key) S.val S.ok 1 rfl; exact h
  case f_check_arms => have h := funD_at (d := d_check_arms) S.val S.ok 2 rfl; exact h
  case f_check_row => have h := funD_at (d := d_check_row) S.val S.ok 3 rfl; exact h
  case f_Tree_init => have h := funD_at (d := d_Tree_init) S.val S.ok 4 rfl; exact h
  case f_Tree_of => have h := funD_at (d := d_Tree_of) S.val S.ok 5 rfl; exact h
  case f_Tree_contains => have h := funD_at (d := d_Tree_contains) S.val S.ok 6 rfl; exact h
  case f_Tree_iter => have h := funD_at (d := d_Tree_iter) S.val S.ok 7 rfl; exact h
  case f_Tree_getitem => have h := funD_at (d := d_Tree_getitem) S.val S.ok 8 rfl; exact h
  case f_Tree_check_place => have h := funD_at (d := d_Tree_check_place) S.val S.ok 9 rfl; exact h
  case f_Tree_parent => have h := funD_at (d := d_Tree_parent) S.val S.ok 10 rfl; exact h
  case f_Tree_way_to => have h := funD_at (d := d_Tree_way_to) S.val S.ok 11 rfl; exact h
  case f_Tree_depth => have h := funD_at (d := d_Tree_depth) S.val S.ok 12 rfl; exact h
  case f_Tree_subtree => have h := funD_at (d := d_Tree_subtree) S.val S.ok 13 rfl; exact h
  case f_Tree_size => have h := funD_at (d := d_Tree_size) S.val S.ok 14 rfl; exact h
  case f_Tree_height => have h := funD_at (d := d_Tree_height) S.val S.ok 15 rfl; exact h
  case f_check_heap => have h := funD_at (d := d_check_heap) S.val S.ok 16 rfl; exact h
  case f_faults_in => have h := funD_at (d := d_faults_in) S.val S.ok 17 rfl; exact h
  case f_falls_in => have h := funD_at (d := d_falls_in) S.val S.ok 18 rfl; exact h
  case f_is_heap => have h := funD_at (d := d_is_heap) S.val S.ok 19 rfl; exact h
  case f_faults => have h := funD_at (d := d_faults) S.val S.ok 20 rfl; exact h
  case f_falls => have h := funD_at (d := d_falls) S.val S.ok 21 rfl; exact h
  case f_ranks => have h := funD_at (d := d_ranks) S.val S.ok 22 rfl; exact h
  case f_Sift_init => have h := funD_at (d := d_Sift_init) S.val S.ok 23 rfl; exact h
  case f_moved => have h := funD_at (d := d_moved) S.val S.ok 24 rfl; exact h
  case f_first_least => have h := funD_at (d := d_first_least) S.val S.ok 25 rfl; exact h
  case f_way_up => have h := funD_at (d := d_way_up) S.val S.ok 26 rfl; exact h
  case f_way_down => have h := funD_at (d := d_way_down) S.val S.ok 27 rfl; exact h
  case f_way_of_hole => have h := funD_at (d := d_way_of_hole) S.val S.ok 28 rfl; exact h
  case f_lifted => have h := funD_at (d := d_lifted) S.val S.ok 29 rfl; exact h
  case f_sunk => have h := funD_at (d := d_sunk) S.val S.ok 30 rfl; exact h
  case f_sift_up => have h := funD_at (d := d_sift_up) S.val S.ok 31 rfl; exact h
  case f_sift_down => have h := funD_at (d := d_sift_down) S.val S.ok 32 rfl; exact h
  case f_Built_init => have h := funD_at (d := d_Built_init) S.val S.ok 33 rfl; exact h
  case f_parents_of => have h := funD_at (d := d_parents_of) S.val S.ok 34 rfl; exact h
  case f_built => have h := funD_at (d := d_built) S.val S.ok 35 rfl; exact h
  case f_without_last => have h := funD_at (d := d_without_last) S.val S.ok 36 rfl; exact h
  case f_taken => have h := funD_at (d := d_taken) S.val S.ok 37 rfl; exact h
  case f_taken_by_hole => have h := funD_at (d := d_taken_by_hole) S.val S.ok 38 rfl; exact h
  case f_check_full => have h := funD_at (d := d_check_full) S.val S.ok 39 rfl; exact h
  case f_push => have h := funD_at (d := d_push) S.val S.ok 40 rfl; exact h
  case f_take => have h := funD_at (d := d_take) S.val S.ok 41 rfl; exact h
  case f_take_by_hole => have h := funD_at (d := d_take_by_hole) S.val S.ok 42 rfl; exact h
  case f_put_for => have h := funD_at (d := d_put_for) S.val S.ok 43 rfl; exact h
  case f_build => have h := funD_at (d := d_build) S.val S.ok 44 rfl; exact h
  case f_law_number => have h := funD_at (d := d_law_number) S.val S.ok 45 rfl; exact h
  case f_law_take => have h := funD_at (d := d_law_take) S.val S.ok 46 rfl; exact h
  case f_law_pick => have h := funD_at (d := d_law_pick) S.val S.ok 47 rfl; exact h
  case f_law_parent => have h := funD_at (d := d_law_parent) S.val S.ok 48 rfl; exact h
  case f_law_arms => have h := funD_at (d := d_law_arms) S.val S.ok 49 rfl; exact h
  case f_law_keys => have h := funD_at (d := d_law_keys) S.val S.ok 50 rfl; exact h
  case f_law_heap => have h := funD_at (d := d_law_heap) S.val S.ok 51 rfl; exact h
  case f_law_is_number => have h := funD_at (d := d_law_is_number) S.val S.ok 52 rfl; exact h
  case f_law_odd => have h := funD_at (d := d_law_odd) S.val S.ok 53 rfl; exact h
  case f_law_row_word => have h := funD_at (d := d_law_row_word) S.val S.ok 54 rfl; exact h
  case f_law_heap_word => have h := funD_at (d := d_law_heap_word) S.val S.ok 55 rfl; exact h
  case f_law_arms_word => have h := funD_at (d := d_law_arms_word) S.val S.ok 56 rfl; exact h
  case f_law_first_word => have h := funD_at (d := d_law_first_word) S.val S.ok 57 rfl; exact h
  case f_law_told => have h := funD_at (d := d_law_told) S.val S.ok 58 rfl; exact h
  case f_law_trees_right => have h := funD_at (d := d_law_trees_right) S.val S.ok 59 rfl; exact h
  case f_law_rows_right => have h := funD_at (d := d_law_rows_right) S.val S.ok 60 rfl; exact h
  case f_law_heaps_right => have h := funD_at (d := d_law_heaps_right) S.val S.ok 61 rfl; exact h
  case f_law => have h := funD_at (d := d_law) S.val S.ok 62 rfl; exact h
end K7
/-! the head's run, looked at in parts (less memory each) -/
namespace K7
open PySem PySem.Spec PyProof.Rows L2 He
abbrev R07 : PySem.W.OpenRow := PySem.W.OpenLaw.row PySem.Challenge.rw_heaprows_k07_whole_refused
def ob07 (s : PySem.W.SharedT) : Al := obsG (HandSHeadRun.getT s)
theorem ob07_eq (s : PySem.W.SharedT) : ob07 s = hk.obs s.abs := by
  have e : HandSHeadRun.getT s = s.abs.heap.get? := funext (HandSHeadRun.getT_eq s)
  unfold ob07
  rw [e] <;> rfl
noncomputable abbrev end07 (w : World) (os : OsState) : Option PySem.W.SharedT := HandSHeadRun.endF (HandSHeadRun.stepQ (HandSHeadRun.denQ HandSHeadRun.tabQ) R07.prog w) 20000 R07.prog w os
def part1 (K : PySem.W.Frag) : Bool := (fct0 K).all id && ((fct1 K).all id && ((fct2 K).all id && (fct3 K).all id))
def part2 (K : PySem.W.Frag) : Bool := (fct4 K).all id && ((fct5 K).all id && ((fct6 K).all id && (fct7 K).all id))
def part3 (g : Addr → Option Obj) (K : PySem.W.Frag) : Al := ((fn.all fun d => d.ok K) && (tabsB g tf K && (supB K (a_BadRow_init K) (a_BadRow K) "BadRow.__init__" file && supB K (a_NotHeap_init K) (a_NotHeap K) "NotHeap.__init__" file)),
  (fn.map fun d => He5.fnA K (d.at_ K), [fnS K (a_BadRow_init K), fnS K (a_NotHeap_init K)]))
def look1 (s : PySem.W.SharedT) : Bool := part1 (frT (HandSHeadRun.getT s) (asK (HandSHeadRun.getT s)))
def look2 (s : PySem.W.SharedT) : Bool := part2 (frT (HandSHeadRun.getT s) (asK (HandSHeadRun.getT s)))
def look3 (s : PySem.W.SharedT) : Al := part3 (HandSHeadRun.getT s) (frT (HandSHeadRun.getT s) (asK (HandSHeadRun.getT s)))
theorem obsK_in (g : Addr → Option Obj) (K : PySem.W.Frag) : obsK g K = (kfB K && (part3 g K).1, (part3 g K).2) := by
  unfold obsK part3
  dsimp only
theorem kf_in {K : PySem.W.Frag} (h1 : part1 K = true) (h2 : part2 K = true) : kfB K = true := by
  unfold part1 at h1
  unfold part2 at h2
  unfold kfB
  generalize (fct0 K).all id = b0 at *
  generalize (fct1 K).all id = b1 at *
  generalize (fct2 K).all id = b2 at *
  generalize (fct3 K).all id = b3 at *
  generalize (fct4 K).all id = b4 at *
  generalize (fct5 K).all id = b5 at *
  generalize (fct6 K).all id = b6 at *
  generalize (fct7 K).all id = b7 at *
  cases b0 <;> cases b1 <;> cases b2 <;> cases b3 <;> first | (cases h1; done) | exact h2
theorem pair_t {v : Al} {b : Bool} (hb : b = true) (h : v.1 = true) : (b && v.1, v.2) = v := by
  obtain ⟨a, c⟩ := v
  subst hb
  cases h
  rfl
theorem looks_ok (s : PySem.W.SharedT) (h1 : look1 s = true) (h2 : look2 s = true) (h3 : look3 s = valK) : ob07 s = valK := by
  unfold look1 at h1
  unfold look2 at h2
  unfold look3 at h3
  unfold ob07 obsG
  generalize HandSHeadRun.getT s = g at *
  generalize frT g (asK g) = K at *
  rw [obsK_in, h3]
  exact pair_t (kf_in h1 h2) rfl
theorem joinR {S C : Type} {e : Option S} {f1 : S → Bool} {f2 : S → C} {ob : S → Al} {l1 l2 : S → Bool} {l3 : S → Al} {c : C} {v : Al} (h0 : e.map (fun s => (f1 s, f2 s)) = some (true, c)) (h1 : e.map l1 = some true) (h2 : e.map l2 = some true) (h3 : e.map l3 = some v)
    (ok : ∀ s, l1 s = true → l2 s = true → l3 s = v → ob s = v) : e.map (fun s => (f1 s, f2 s, ob s)) = some (true, c, v) := by
  cases e with
  | none => cases h0
  | some s =>
    have a : (f1 s, f2 s) = (true, c) := Option.some.inj h0
    have a1 : f1 s = true := congrArg Prod.fst a
    have a2 : f2 s = c := congrArg Prod.snd a
    have z := ok s (Option.some.inj h1) (Option.some.inj h2) (Option.some.inj h3)
    show some (f1 s, f2 s, ob s) = _
    rw [a1, a2, z]
section
open PySem PySem.W PySem.Calls PyProof.Rows HandSHeadRun
theorem run0 (w : World) (os : OsState) : (end07 w os).map (fun s => (looksF R07.prog (boot_heap w.params) s.abs, seenQ (PySem.W.view R07.prog [69]) loose (importedModules R07.prog.main.body) (fun s => xlAt (PySem.W.view R07.prog [69]) [] s && recOk R07.toRowW.records s) s.abs)) = some (true, openGood (PySem.W.view R07.prog [69]) loose) := by
  kernel_rfl
end
theorem run1 (w : World) (os : OsState) : (end07 w os).map look1 = some true := by
  kernel_rfl
theorem run2 (w : World) (os : OsState) : (end07 w os).map look2 = some true := by
  kernel_rfl
theorem run3 (w : World) (os : OsState) : (end07 w os).map look3 = some valK := by
  kernel_rfl
theorem run07 (w : World) : HandSHeadRun.RunEq R07 (PySem.W.view R07.prog [69]) hk ob07 20000 loose w := fun os => joinR (v := valK) (run0 w os) (run1 w os) (run2 w os) (run3 w os) looks_ok
end K7
/-! own __contains__, __getitem__, __iter__ of slotted instances -/
namespace K7
open PySem PySem.Spec PyProof.Rows L2
section
variable {X : Cx} {CX : CXT} {C g : Addr} {n : Nat} {sp : Sp} {E : XK}
/-- x not in o, o's own __contains__ at g -/
def rNotOwn (C : Addr) (sp : Sp) (E : XK) : R2 := fun x y H Q => ∃ a dx vs, y = V.ref a ∧ SlX.Slt H a C dx vs ∧ sp [.ref a, x] H (fun z H' => ∃ b, z = .bl b ∧ Q (.bl (!b)) H') E
theorem op_notOwn (hs : PySem.W.findIn X.K (.ref C) "__contains__" = some (some (.ref g))) (hf : PySem.W.isFn X.K (.ref g) = true)
    (F : FnR X.prog X.w X.K X.mg X.base CX n g sp) (hr : Room n X.A) (hx : Passes CX X E) : OpR X (compareOp .NotIn) (rNotOwn C sp E) := by
  intro pins s σ H x y v u Q I rx ry h
  obtain ⟨a, dx, vs, rfl, ha, q⟩ := h
  cases (show u = Value.ref a from ry)
  obtain ⟨sl, od, _, J, _⟩ := SlX.slt_inst I ha
  obtain ⟨m, hF⟩ := I.fr
  refine PySem.W.notIn_K hF I.ok.mod.kin J hs hf ?_
  refine wpAny_mono (wpAny_call (run_fnR (us := [.ref a, v]) (vs := [.ref a, x]) F hr hx I (.cons rfl (.cons rx .nil)) q)) (fun w s' z => ?_) fun _ _ x => x
  obtain ⟨z', H', I', rz, b, eb, qz⟩ := z
  subst eb
  cases (show w = Value.bool b from rz)
  exact wpAny_truthy_bool ⟨.bl (!b), H', I', rfl, qz⟩
/-- o[i], o's own __getitem__ at g -/
def rIxOwn (C : Addr) (sp : Sp) (E : XK) : R2 := fun x y H Q => ∃ a dx vs, x = V.ref a ∧ SlX.Slt H a C dx vs ∧ sp [.ref a, y] H Q E
theorem pe_ixOwn {a b : Expr} {ta tb : TE} {pos : Pos} (hs : PySem.W.findIn X.K (.ref C) "__getitem__" = some (some (.ref g))) (hf : PySem.W.fnIn X.K g = true) (hfn : PySem.W.isFn X.K (.ref g) = true)
    (F : FnR X.prog X.w X.K X.mg X.base CX n g sp) (hr : Room (n + 1) X.A) (hx : Passes CX X E) (ha : PE X a ta) (hb : PE X b tb)
    (hsl : ∀ o i, subscripted b true o i = runValue (.builtin "lifetime.subscript" ⟨[o, i], []⟩) := by intros; rfl) : PE X (.Subscript a b pos) (tOp (rIxOwn C sp E) ta tb) := by
  refine ⟨fun pins s σ H Q I h => ?_⟩
  refine Subscript_ (binT ha hb I h fun v u s2 x y H2 I2 rx ry q => ?_)
  obtain ⟨o, dx, vs, rfl, ho, q⟩ := q
  cases (show v = Value.ref o from rx)
  obtain ⟨sl, od, _, J, _⟩ := SlX.slt_inst I2 ho
  obtain ⟨m, hF⟩ := I2.fr
  exact PySem.W.sub_K hF I2.ok.mod.kin J hs hf hfn (wpAny_call (SlX.run_at (us := [.ref o, u]) (ws := [.ref o, y]) F hr.in1 I2.env0.in1 hx I2 (.cons rfl (.cons ry .nil)) q)) (hsl _ _)
end
/-! ### iter(t), t a tuple -/
/-- at it an iterator over the tuple at p, at its start -/
def ItU (p it : Addr) : HO := .ext fun h => h.IsTupleIter it p 0
theorem itU_ok {P : Program} {w : World} {H : Hp} {h : Heap} {p it : Addr} (e : h.IsTupleIter it p 0) : ObjOk P w H h it (ItU p it) := by
  obtain ⟨o, ho, h1, h2⟩ := id e
  exact ⟨e, ⟨o, ho⟩, fun h1 h2 z k => by
    obtain ⟨o, ho, h1, h2⟩ := z
    exact ⟨o, k _ ho, h1, h2⟩⟩
def rIterT (K : PySem.W.Frag) (n : Nat) : List V → Hp → VK → Prop := fun xs H Q => ∃ (l : Addr) (zs : List V), xs = [.ref l] ∧ SqT K H l zs ∧ ∀ it, H it = none → n ≤ it → Q (.ref it) (upd H it (ItU l it))
section
variable {X : Cx}
theorem call_iterT : CallR X (.builtin "iter") (rIterT X.K X.s_0.heap.objs.size) := by
  intro pins s σ H xs us Q I r h
  obtain ⟨l, zs, rfl, hq, q⟩ := h
  obtain ⟨u, rfl, ru⟩ := vals1 r
  cases ru
  obtain ⟨its, rv, pl, hz⟩ := I.tuple hq
  refine Calls.call_function_entry (by decide +kernel) (by decide +kernel) PySem.W.kdk_entry_iter (PySem.W.kdk_args_iter _) ?_
  unfold Builtin.«iter»
  refine wpAny_bind (m := someArgs "iter" 1 2 _) (wpAny_of_eq (a := [Value.ref l]) (by first | rfl | kernel_rfl!) ?_)
  show wpAny _ _ (pyIter (.ref l) >>= _) _ _ _
  refine wpAny_bind (wpAny_pyIter_tuple pl ?_)
  refine wpAny_pure ⟨_, rfl, ?_⟩
  exact ⟨.ref s.heap.objs.size, _, I.laid (t' := s.toks) (fun b u e => Heap.get?_push_of_some _ e) (Nat.le_refl _) (itU_ok ⟨_, Heap.get?_push_size _ rfl, rfl, rfl⟩), rfl, q _ (I.hok.fresh (Nat.le_refl _)) I.sz⟩
end
end K7
/-! trees as they stand; the walk over a tree -/
namespace K7
open PySem PySem.Spec PyProof.Rows L2
/-- the ints 0 .. m - 1 -/
def rg (m : Nat) : List V := (List.range m).map fun i => V.int (i : Nat)
theorem rg_length (m : Nat) : (rg m).length = m := by simp [rg]
theorem rg_get {m i : Nat} (h : i < m) : (rg m)[i]? = some (V.int (i : Nat)) := by simp [rg, h]
/-- at a a Tree of m places and r arms -/
def TreeAt (K : PySem.W.Frag) (H : Hp) (a : Addr) (m r : Nat) : Prop :=
  ∃ dx p, H a = some (SlX.SlO a (a_Tree K) dx [some (.int r), some (.int m), some (.ref p)]) ∧ H dx = some (.xd []) ∧ SqT K H p (rg m) ∧ m ≤ 12 ∧ 1 ≤ r ∧ r ≤ 4
theorem TreeAt.slt {K : PySem.W.Frag} {H : Hp} {a : Addr} {m r : Nat} (t : TreeAt K H a m r) : ∃ dx p, SlX.Slt H a (a_Tree K) dx [some (.int r), some (.int m), some (.ref p)] ∧ SqT K H p (rg m) := by
  obtain ⟨dx, p, h1, h2, h3, _⟩ := t
  exact ⟨dx, p, .inr ⟨h1, h2⟩, h3⟩
theorem sc_iter : FnScope ["self"] ["self"] (defScope s_Tree_iter) := ⟨rfl, rfl, rfl, by decide +kernel, rfl, by decide +kernel, by decide +kernel⟩
/-- for x in e, e a tree -/
def iTree (K : PySem.W.Frag) (tl : TE) : TI := fun σ H R => tl σ H fun x H1 => ∃ a m r, x = V.ref a ∧ TreeAt K H1 a m r ∧ (∀ p, SqT K H1 p (rg m) → R (Itt K p) H1)
section
variable {X : Cx}
theorem pi_tree {tg e : Expr} {te : TE} (T : TX X.K X.mg X.base) (hr : Room 2 X.A) (he : PE X e te) : PI X tg e (iTree X.K te) := by
  refine ⟨fun pins s σ H R I h => ?_⟩
  refine thn (he.run pins s σ H _ I h) fun v s1 ⟨x, H1, I1, r1, q1⟩ => ?_
  obtain ⟨a, m, r, rfl, hT, q⟩ := q1
  cases (show v = Value.ref a from r1)
  obtain ⟨dx, p, hsl, hp⟩ := hT.slt
  obtain ⟨sl, od, _, J, _⟩ := SlX.slt_inst I1 hsl
  obtain ⟨mm, hF⟩ := I1.fr
  obtain ⟨fd, F⟩ := T.f_Tree_iter
  have hb := FunD.bindsN (ps := ["self"]) F fun _ _ _ _ _ _ us hl => match us, hl with | [_], _ => rfl
  obtain ⟨oc, od', dV, kV, doc, pm, an, cdv, ct, osl, rfl, lk, hcd, _, _⟩ := F.ex
  refine PySem.W.owit_iter hF I1.ok.mod.kin J T.d_iter T.df_iter (wpAny_call (codeAny_mono (LamX.run_ofS (CX := CX0) (N := ["self"]) (ps := ["self"]) (us := [.ref a]) (vs := [.ref a]) (E := E0)
    (Q := fun z H' => ∃ it, z = .ref it ∧ H1 it = none ∧ s1.heap.objs.size ≤ it ∧ H' = upd H1 it (ItU p it)) lk hcd sc_iter hr I1.env0 (hb s1 [.ref a] I1.kIn rfl) (.cons rfl .nil) rfl fun hr' => ⟨_, PSs.nox (pss_one (ps_ret
      (pe_callB call_iterT rfl T.n_iter (by decide +kernel) (pa_cons (SlX.pe_sl (pv 0)) pa_nil)))), ?_⟩) fun rr s2 hq => ?_))
  · exact ⟨_, rfl, a, _, dx, _, _, 2, _, rfl, hsl, T.c_Tree, T.s_Tree_places, rfl, p, _, rfl, hp, fun it h1 h2 => ⟨it, rfl, h1, h2, rfl⟩⟩
  · cases rr with
    | error e => exact (show False from hq).elim
    | ok fl =>
      cases fl with
      | ret u =>
        obtain ⟨z, H', I2, rz, it, ez, n1, n2, eH⟩ := I1.after hq
        subst ez eH
        cases (show u = Value.ref it from rz)
        obtain ⟨h0, _, _⟩ := I2.hok it _ (upd_same)
        have h0 : s2.heap.IsTupleIter it p 0 := h0
        refine wpAny_specialOf h0.typeIs PySem.F.slot_tuple_iterator_next.lookup ?_
        have I3 := ItX.inv_drop I2 (a := it) upd_same
        rw [ItX.dropH_upd n1] at I3
        have hf := ItX.inv_fp I2 (a := it) upd_same (Nat.le_trans I1.sz n2)
        rw [ItX.dropH_upd n1] at hf
        refine ⟨it, [it], _, _, H1, rfl, I3, turn_tuple p it, h0, fun b hb => ?_, q p hp⟩
        have e : b = it := by simpa using hb
        rw [e]
        exact hf
      | next => exact False.elim hq
      | brk => exact False.elim hq
      | cont => exact False.elim hq
end
end K7
/-! an own exception whose __init__ calls super's, over ValueError -/
namespace K7
open PySem PySem.Spec PySem.W PySem.Calls PyProof.Rows PySem.HandSPX
abbrev biA (f : Str) (p1 p2 : Pos) : Arguments := { posonlyargs := [], args := [{ arg := "self", annotation := none, pos := p1 }, { arg := f, annotation := none, pos := p2 }], vararg := none, kwonlyargs := [], kw_defaults := [], kwarg := none, defaults := [] }
abbrev biB (f : Str) (q1 q2 q3 q4 q5 q6 q7 q8 q9 q10 : Pos) : List Stmt :=
  [.Expr (.Call (.Attribute (.Call (.Name "super" q1) [] [] q2) "__init__" q3) [.Name f q4] [] q5) q6, .Assign [.Attribute (.Name "self" q7) f q8] (.Name f q9) q10]
abbrev biS (f : Str) : Scope := { kind := .function, names := [(PySem.Str.ofString "self", .local), (f, .local), (PySem.Str.ofString "__class__", .free), (PySem.Str.ofString "super", .globalImplicit)], isGenerator := false, isCoroutine := false, more := [] }
/-- the def reads so -/
structure BiT (f : Str) (st : Stmt) : Prop where
  ex : ∃ p1 p2 q1 q2 q3 q4 q5 q6 q7 q8 q9 q10, L2.defArgs st = biA f p1 p2 ∧ L2.defBody st = biB f q1 q2 q3 q4 q5 q6 q7 q8 q9 q10 ∧ L2.defScope st = biS f ∧
    ∀ env : Env, ∃ pl : Sem Bool, eval (.Call (.Attribute (.Call (.Name "super" q1) [] [] q2) "__init__" q3) [.Name f q4] [] q5) env = (do
      let ov ← attributeBase (.Call (.Name "super" q1) [] [] q2) "__init__" env (eval (.Call (.Name "super" q1) [] [] q2) env)
      standAt q3.atName
      let (g, first) ← holding [ov] (getMethod ov "__init__" pl)
      callWith q5 g first (backTo q5 (starEach [.Name f q4] env)) [])
  bind : ∀ (q : Str) (p1 p2 : Pos) (body : List Stmt) (cc : Addr) (kV doc pm : Value) (an : Option Addr) (cdv ct x v : Value), bindArgs (fnX "__init__" q (biA f p1 p2) body (biS f) [("__class__", cc)] .none kV doc pm an cdv ct) ⟨[x, v], []⟩ = pure [(("self" : Str), x), (f, v)]
  kf : (biS f).names.lookup f = some .local
  ks : (biS f).names.lookup ("self" : Str) = some NameKind.local
  kc : (biS f).names.lookup ("__class__" : Str) = some NameKind.free
  kp : (biS f).names.lookup ("super" : Str) = some NameKind.globalImplicit
  ne : (f == ("self" : Str)) = false
  db : (f == ("__debug__" : Str)) = false
/-- what __init__ leaves of a fresh exception at x -/
structure BadEnd (h h' : Heap) (x C dx : Addr) (f : Str) (v : Value) : Prop where
  keep : ∀ b o, b ≠ x → h.get? b = some o → h'.get? b = some o
  obj : ∃ t1 : Addr, h'.get? x = some { cls := .ref C, dict := some dx, data := .fields #[.ref t1, .none, .none, .none, .bool false, .none] }
  dbig : h.objs.size ≤ dx
  dne : dx ≠ x
  ns : h'.Ns1 dx (fun y => if y = f then some v else none)
section
variable {prog : Program} {w : World} {A : Around} {E : Value → Shared → Prop} {R : Result → Shared → Prop} {s : Shared} {K : Frag} {mg : Str → Option Value} {C fI : Addr} {st : Stmt} {q f file : Str}
theorem bad_init (S : SupD K st q file fI C) (B : BiT f st) 
    (hO : L2.OexC K C) (hsp : ks_superIn K C C "__init__" = some (some (.builtin "ValueError.__init__"))) (hsb : subIn K (.ref C) (.type "ValueError") = some true) (hmr : mroIn K C (.ref C) = some true)
    (hei : excInitIn K C He.veBase "ValueError.__new__" = true) (hno : findIn K (.ref C) f = some none) (hany : nsIn K cStatics "thirdparty.any" = some none)
    (hfile : ((prog.main.file : Str) == file) = true) (htop : (prog.main.scope.names.lookup ("super" : Str)).isSome = false)
    {x t0 : Addr} {v : Value} (X : K.In s.heap) (G : s.heap.Ns mainGlobals mg) (gs : mg "super" = none) (Bl : ∃ mb, s.heap.Ns builtinsNs mb ∧ ∀ x : Str, x ≠ "__name__" → mb x = bootBuiltins x) (hlim : s.heap.NoLimit)
    (hx : s.heap.get? x = some (excO C t0)) (nK : K.lookup x = none) (hroom : A.depth < recursionLimit)
    (hq : ∀ h' tk dx, BadEnd s.heap h' x C dx f v → R (.ok (.ret .none)) { s with heap := h', toks := tk }) :
    codeAny (model prog w) A (.call (.ref fI) ⟨[.ref x, v], []⟩) R s := by
  obtain ⟨p1, p2, q1, q2, q3, q4, q5, q6, q7, q8, q9, q10, eA, eB, eS, eM⟩ := B.ex
  obtain ⟨oc, od, kV, doc, pm, an, c, cc, ct, osl, c1, d1, s1, c2, d2, vs, s2, tf, lk, hcd, hcc, hc, hvs⟩ := S.ex
  rw [eA, eB, eS] at lk
  obtain ⟨nm, qn, N, bs, bm, sn, sub, ab, col, dd, k0, k1, k2, k3, k5, hC, hbm⟩ := hO.cls
  have hcl : clsIn K C = some { name := nm, bases := bs, mro := .ref C :: bm, ns := N, qualname := qn, hasDict := true, slotNames := sn, subclasses := sub, abstract := ab, collection := col, hasDel := false } := by unfold clsIn; rw [hC] <;> rfl
  refine ks_codeAny_call_defAt (binds := [("self", .ref x), (f, v)]) hroom (X _ _ lk) rfl hlim (codeRec_of X hcd) rfl (BindsTo.of_eq (B.bind _ _ _ _ _ _ _ _ _ _ _ _ _)) (fun y hy => ?_) (fun y hy => ?_) (fun h₀ hns kp => ?_) rfl rfl rfl
  · have hy : y ∈ [(PySem.Str.ofString "self", NameKind.local), (f, .local), (PySem.Str.ofString "__class__", .free), (PySem.Str.ofString "super", .globalImplicit)] := hy
    simp only [List.mem_cons, List.not_mem_nil, or_false] at hy
    rcases hy with e | e | e | e <;> rw [e] <;> exact fun z => nomatch z
  · simp only [List.mem_cons, List.not_mem_nil, or_false] at hy
    rcases hy with e | e <;> rw [e]
    · exact B.ks
    · exact B.kf
  · have X₀ : K.In h₀ := X.keeps kp
    have hx₀ := kp _ _ hx
    have I₀ : InstAt h₀ x (excO C t0) C none := ⟨hx₀, rfl, rfl, trivial⟩
    have hL : s.heap.objs.size ≠ x := Nat.ne_of_gt (Heap.lt_size hx)
    refine ks_wpAt_execs_cons (ks_wpAt_Expr_any ?_)
    obtain ⟨pl, eP⟩ := eM (ksEnv q (biS f) s.heap.objs.size fI (.ref c) cc)
    refine ks_wpAt_MethodCall ?_ eP
    refine ks_wpAt_super_base (env := ksEnv q (biS f) s.heap.objs.size fI (.ref c) cc) B.kp B.kc (by decide) rfl (X₀ _ _ lk) rfl rfl rfl (X₀ _ _ hc) rfl hvs hfile htop ?_
    · obtain ⟨mb, hb1, hb2⟩ := Bl
      refine ks_loadName_global rfl B.kp (loadGlobal_builtin (env := ksEnv q (biS f) s.heap.objs.size fI (.ref c) cc) (G.keeps kp) gs (hb1.keeps kp) ((hb2 _ (by decide +kernel)).trans (by first | boot_by_name | rfl | kernel_rfl)) ⟨rfl, ?_⟩)
      refine wpAny_loadName_free rfl B.kc rfl ⟨_, X₀ _ _ hcc, rfl⟩ ?_
      have lkS : ([(("self" : Str), Value.ref x), (f, v)] : List (Str × Value)).reverse.lookup ("self" : Str) = some (Value.ref x) := by
        have e : (("self" : Str) == f) = false := by
          have z := B.ne
          rw [beq_eq_false_iff_ne] at z ⊢
          exact Ne.symm z
        show List.lookup ("self" : Str) [(f, v), (("self" : Str), Value.ref x)] = _
        rw [List.lookup_cons, e, List.lookup_cons_self]
      have lkF : ([(("self" : Str), Value.ref x), (f, v)] : List (Str × Value)).reverse.lookup f = some v := by
        show List.lookup f [(f, v), (("self" : Str), Value.ref x)] = _
        rw [List.lookup_cons_self]
      refine wpAny_loadName_local rfl B.ks hns lkS ?_
      refine ks_wpAny_isType_cls (X₀ _ _ hC) rfl ⟨rfl, ?_⟩
      refine ks_wpAny_call_super (X₀ _ _ hC) rfl hx₀ rfl (fun c z => nomatch z) (looks_mroIn X₀ hmr) (fun h1 e1 kp1 => ?_)
      have X₁ : K.In h1 := X₀.keeps kp1
      have I₁ : InstAt h1 x (excO C t0) C none := ⟨kp1 _ _ hx₀, rfl, rfl, trivial⟩
      unfold ks_superIn at hsp
      rw [hcl] at hsp
      refine kxs_getMethod kxs_ValueError e1 (looks_opaque X₁ hany) (l₀ := .ref C :: bm) (fun A Q E s k q => wpAny_bind ((looks_clsIn X₁ hcl) A _ E s k (wpAny_pure q))) rfl X₁ hsp (I₁.type.andThen (looks_subIn X₁ hsb)) (ks_ne X₁ I₁ hcl) (by decide) ?_
      have kp2 : ∀ b o, h₀.get? b = some o → (h1.push (kxs_mw "ValueError.__init__" x)).get? b = some o := fun b o e => Heap.get?_push_of_some _ (kp1 b o e)
      have hx2 := kp2 _ _ hx₀
      have hu2 : (h1.push (kxs_mw "ValueError.__init__" x)).get? h1.objs.size = some (kxs_mw "ValueError.__init__" x) := Heap.get?_push_size _ rfl
      have hns2 : (h1.push (kxs_mw "ValueError.__init__" x)).Ns s.heap.objs.size (fun y => ([(("self" : Str), Value.ref x), (f, v)] : List (Str × Value)).reverse.lookup y) := hns.keeps kp2
      refine kxs_callWith (i := "ValueError.__init__") (x := x) rfl (evalArgs_plain ?_)
      refine spliced_cons (wpAny_Name (wpAny_loadName_local rfl B.kf hns2 lkF ?_) B.db) 
      refine spliced_nil ⟨hu2, ?_⟩
      refine wpAny_call (codeAny_of_tree ?_)
      show wpAny _ _ (callAny (.ref _) ⟨[v], []⟩) _ _ _
      simp only [callAny]
      refine wpAny_bind (wpAny_load hu2 ?_)
      simp only [kxs_mw, show (Value.type "method-wrapper" == Value.type "method" || Value.type "method-wrapper" == Value.type "builtin_function_or_method" || Value.type "method-wrapper" == Value.type "method-wrapper") = true by decide, if_true]
      refine KFB.if_so (by decide) ?_
      obtain ⟨nm', N', qn', bs', bm', hdct', sn', sub', ab', col', dd', k0', k1', k2', k3', k5', hC', hT'⟩ := excInit_of (X.keeps fun b o e => kp2 b o (kp b o e)) hei
      refine wpAny_bind (check_bound_init F.excBase_ValueError.toExcCallFacts hC' hx2 rfl ?_)
      refine wpAny_bind (wpAny_pure (wpAny_pure ?_))
      refine ⟨plainId_quiet F.excBase_ValueError.init.plain _, codeAny_builtin F.excBase_ValueError.initEntry ?_⟩
      refine exc_init_tree (cls := .ref C) (t0 := t0) (dv := none) (c2 := .none) (c3 := .none) (b4 := .bool false) hx2 (by rw [sizeLine_eq]; exact (by decide : 1 ≤ 16777216)) fun h3 kp3 hx3 _ => ?_
      have nxL : x ≠ s.heap.objs.size := Ne.symm hL
      have hns3 : h3.Ns s.heap.objs.size (fun y => ([(("self" : Str), Value.ref x), (f, v)] : List (Str × Value)).reverse.lookup y) := by
        obtain ⟨oL, es, ep, hoL, r⟩ := hns2
        exact ⟨oL, es, ep, kp3 _ _ hL hoL, r⟩
      have X₃ : K.In h3 := fun a o e => kp3 a o (fun z => by rw [z, nK] at e; cases e) (kp2 a o (X₀ a o e))
      refine wpAt_of_wpAny (wpAny_execs_cons (plainObj_wpAny_Assign_Attribute ?_))
      refine wpAny_Name (wpAny_loadName_local rfl B.kf hns3 lkF ?_) B.db
      refine wpAny_Name (wpAny_loadName_local rfl B.ks hns3 lkS ?_) (by decide)
      refine set_plain X₃ (ox := excO C _) (od := none) ⟨hx3, rfl, rfl, trivial⟩ hO.sa ?_
      refine exc_osa X₃ hx3 hcl (show refsVE (.ref C :: bm) = true from hbm) rfl hno (fun h4 tk4 dx k4 dn dne hx4 hn4 => ?_)
      refine wpAny_execs_nil (hq h4 tk4 dx ⟨fun b o hb e => k4 b o hb (kp3 b o hb (kp2 b o (kp b o e))), ⟨_, hx4⟩, ?_, dne, hn4⟩)
      exact Nat.le_of_lt (Nat.lt_of_lt_of_le hns3.lt dn)
/-- a made one -/
structure BadMade (h h' : Heap) (e C d : Addr) (f : Str) (v : Value) : Prop where
  keep : ∀ b o, h.get? b = some o → h'.get? b = some o
  new : h.objs.size ≤ e
  obj : ∃ oe vs, h'.get? e = some oe ∧ oe.cls = .ref C ∧ oe.dict = some d ∧ oe.data = .fields vs ∧ vs[1]? = some .none
  dbig : h.objs.size ≤ d
  dne : d ≠ e
  ns : h'.Ns1 d (fun y => if y = f then some v else none)
/-- what of the text such a class must have -/
structure BadC (prog : Program) (K : Frag) (C fI : Addr) (f : Str) : Prop where
  ex : ∃ st q file, SupD K st q file fI C ∧ BiT f st ∧ ((prog.main.file : Str) == file) = true
  o : L2.OexC K C
  sp : ks_superIn K C C "__init__" = some (some (.builtin "ValueError.__init__"))
  sb : subIn K (.ref C) (.type "ValueError") = some true
  mr : mroIn K C (.ref C) = some true
  ei : excInitIn K C He.veBase "ValueError.__new__" = true
  no : findIn K (.ref C) f = some none
  any : nsIn K cStatics "thirdparty.any" = some none
  top : (prog.main.scope.names.lookup ("super" : Str)).isSome = false
  ini : findIn K (.ref C) "__init__" = some (some (.ref fI))
  ty : typeIn K (.ref fI) = some (.type "function")
theorem bad_made {C fI : Addr} {f : Str} (T : BadC prog K C fI f) {v : Value} (X : K.In s.heap) (G : s.heap.Ns mainGlobals mg) (gs : mg "super" = none) (Bl : ∃ mb, s.heap.Ns builtinsNs mb ∧ ∀ x : Str, x ≠ "__name__" → mb x = bootBuiltins x) (hlim : s.heap.NoLimit)
    (hroom : A.depth + 1 < recursionLimit) (hq : ∀ h' tk e d, BadMade s.heap h' e C d f v → R (.ok (.ret (.ref e))) { s with heap := h', toks := tk }) : codeAny (model prog w) A (.call (.ref C) ⟨[v], []⟩) R s := by
  obtain ⟨nm, q, N, bs, bm, sn, sub, ab, col, dd, k0, k1, k2, k3, k5, hC, hbm⟩ := T.o.cls
  obtain ⟨st, q', file, S, B, hfile⟩ := T.ex
  obtain ⟨hp, g, dr, tk, os⟩ := s
  have k : ∀ b o, hp.get? b = some o → ((hp.push (kdv_tup [v])).push (excO C hp.objs.size)).get? b = some o := fun b o e => Heap.get?_push_of_some _ (Heap.get?_push_of_some _ e)
  have hget : ((hp.push (kdv_tup [v])).push (excO C hp.objs.size)).get? (hp.objs.size + 1) = some (excO C hp.objs.size) := by heap_get
  have hnx : K.lookup (hp.objs.size + 1) = none := by
    cases e : K.lookup (hp.objs.size + 1) with
    | none => rfl
    | some o =>
      have z : hp.get? (hp.objs.size + 1) = some o := X _ _ e
      exact absurd (Nat.lt_of_succ_lt (Heap.lt_size z)) (Nat.lt_irrefl _)
  obtain ⟨mb, hb1, hb2⟩ := Bl
  refine call_own F.excBase_ValueError (fun X => refsVE_contains X bm hbm) (X _ _ hC) (looks_findIn X T.ini) (fun self => bind_fn X self T.ty) (by rw [sizeLine_eq]; exact (by decide : 1 ≤ 16777216)) ?_
  refine bad_init (s := ⟨(hp.push (kdv_tup [v])).push (excO C hp.objs.size), g, dr, tk, os⟩) S B T.o T.sp T.sb T.mr T.ei T.no T.any hfile T.top (X.keeps k) (G.keeps k) gs ⟨mb, hb1.keeps k, hb2⟩ (hlim.keeps k) hget hnx ?_ fun h' tk' dx ⟨k', ⟨t1, hx⟩, dn, dne, hns⟩ => ?_
  · show A.depth + 1 < recursionLimit
    exact hroom
  · have old : ∀ b o, hp.get? b = some o → h'.get? b = some o := fun b o e => k' b o (Nat.ne_of_lt (Nat.lt_succ_of_lt (Heap.lt_size e))) (k b o e)
    have z : hp.objs.size + 1 + 1 ≤ dx := by
      first
        | (simpa only [Heap.size_push] using dn)
        | exact dn
        | (have q := dn; rw [Heap.size_push, Heap.size_push] at q; exact q)
    exact ⟨rfl, hq h' tk' (hp.objs.size + 1) dx ⟨old, Nat.le_succ _, ⟨_, _, hx, rfl, rfl, rfl, rfl⟩, Nat.le_trans (Nat.le_trans (Nat.le_succ _) (Nat.le_succ _)) z, dne, hns⟩⟩
end
end K7
namespace K7
open PySem PySem.Spec PyProof.Rows L2
theorem relO_bad {v : V} {v' : Value} {g : Str} (r : RelV v v') (f : Str) : RelO (List.lookup f [(g, v)]) (if f = g then some v' else none) := by
  by_cases hw : f = g
  · subst hw
    rw [if_pos rfl, List.lookup_cons_self]
    exact r
  · have qw : (f == g) = false := by simpa using hw
    rw [if_neg hw, List.lookup_cons, qw]
    trivial
section
variable {X : Cx} {C fI : Addr} {f : Str}
/-- X(e) of such a class -/
def tMkBad (C : Addr) (f : Str) (ta : TA) : L2.St → Hp → XK → Prop := fun σ H Q => ta σ H fun vs H1 => ∃ v, vs = [v] ∧ ∀ d, H1 d = none → Q (.ref C) (some d) (upd H1 d (.xd [(f, v)]))
theorem pmk_bad {x : Str} {a : Expr} {ta : TA} {p pos : Pos} {k : Nat} (T : BadC X.prog X.K C fI f) (gC : X.mg x = some (.ref C)) (gs : X.mg "super" = none) (hr : Room k X.A) (ha : PA X [a] ta) (hg : Gl X x) (hdb : (x == ("__debug__" : Str)) = false := by decide)
    (he : starEach (a :: []) X.env = (false, eval a X.env) :: starEach [] X.env := by rfl) (hpl : (backTo pos (starEach [] X.env)).any (·.1) = false := by rfl) :
    PMk X (.Call (.Name x p) [a] [] pos) (tMkBad C f ta) := by
  intro pins s σ H Q I h
  refine wpAny_Call_Name_kw (ld_glob I hg gC ?_ hdb)
  refine PySem.W.callWith_K (h₀ := X.base) I.ok.mod.kin T.o.kC (thn (ha.run pos pins s σ H _ I h) fun us s1 hh => ?_) he hpl
  obtain ⟨vs, H1, I1, r1, v, ev, q1⟩ := hh
  subst ev
  refine ⟨I1.kIn, ?_⟩
  obtain ⟨v', rfl, rv⟩ := r1.one
  show wpAny _ _ (call (.ref C) [v']) _ _ _
  have hlim := I1.nolimit
  have hG : s1.heap.Ns mainGlobals X.mg := I1.mod.glob.keeps I1.bk
  obtain ⟨mb, hb1, hb2⟩ := I1.mod.blt
  have hB : ∃ mb, s1.heap.Ns builtinsNs mb ∧ ∀ x : Str, x ≠ "__name__" → mb x = bootBuiltins x := ⟨mb, hb1.keeps I1.bk, hb2⟩
  obtain ⟨hp, g, dr, tk, os⟩ := s1
  refine wpAny_call (bad_made T I1.kIn hG gs hB hlim (by have := hr.dp; omega) fun h' tk' e d M => ?_)
  show MkP X pins σ Q (.ref e) ⟨h', g, dr, tk', os⟩
  obtain ⟨oe, fv, hoe, hc, hd, hdat, h1⟩ := M.obj
  have hns := M.ns
  obtain ⟨G', g1, g2⟩ := restrict h' fun b => decide (b ≠ e)
  have gk : ∀ b, b ≠ e → G'.get? b = h'.get? b := fun b hb => g1 b (decide_eq_true hb)
  have ge : G'.get? e = none := g2 e (by simp)
  have old : ∀ b o, hp.get? b = some o → G'.get? b = some o := fun b o q => (gk b (Nat.ne_of_lt (Nat.lt_of_lt_of_le (Heap.lt_size q) M.new))).trans (M.keep b o q)
  have ob : ObjOk X.prog X.w (upd H1 d (.xd [(f, v)])) G' d (.xd [(f, v)]) :=
    ⟨_, hns.at (fun o q => (gk d M.dne).trans q), fun g => relO_bad rv g⟩
  have J : Inv X pins σ (upd H1 d (.xd [(f, v)])) ⟨G', g, dr, tk', os⟩ := I1.laid (t' := tk') old M.dbig ob
  refine ⟨e, oe, fv, ⟨G', g, dr, tk', os⟩, _, .ref C, some d, rfl, J, fun b o q => ?_, ge, hoe, ⟨hc, hd⟩, hdat, h1, ?_, rfl, I1.bare, raises_own T.o.exC T.o.tyC, q1 d (I1.hok.fresh M.dbig)⟩
  · by_cases hb : b = e
    · have q' : G'.get? b = some o := q
      rw [hb, ge] at q'; cases q'
    · exact (gk b hb).symm.trans q
  · rw [upd_ne (Ne.symm M.dne)]
    exact I1.hok.fresh M.new
end
theorem bit_row : BiT "index" s_BadRow_init := ⟨⟨_, _, _, _, _, _, _, _, _, _, _, _, rfl, rfl, rfl, fun _ => ⟨_, rfl⟩⟩, fun _ _ _ _ _ _ _ _ _ _ _ _ _ => (by first | rfl | with_unfolding_all rfl | kernel_rfl), by decide +kernel, by decide +kernel, by decide +kernel, by decide +kernel, by decide +kernel, by decide +kernel⟩
theorem bit_heap : BiT "place" s_NotHeap_init := ⟨⟨_, _, _, _, _, _, _, _, _, _, _, _, rfl, rfl, rfl, fun _ => ⟨_, rfl⟩⟩, fun _ _ _ _ _ _ _ _ _ _ _ _ _ => (by first | rfl | with_unfolding_all rfl | kernel_rfl), by decide +kernel, by decide +kernel, by decide +kernel, by decide +kernel, by decide +kernel, by decide +kernel⟩
abbrev Pr : Program := PySem.Challenge.pw_heaprows_k07_whole_refused
theorem pr_file : ((Pr.main.file : Str) == file) = true := by decide +kernel
theorem pr_top : (Pr.main.scope.names.lookup ("super" : Str)).isSome = false := by decide +kernel
theorem bad_row {K : PySem.W.Frag} {mg : Str → Option Value} {base : Heap} (T : TX K mg base) : BadC Pr K (a_BadRow K) (a_BadRow_init K) "index" :=
  ⟨⟨_, _, _, T.f_BadRow_init, bit_row, pr_file⟩, T.o_BadRow, T.sp_BadRow, T.sb_BadRow, T.mr_BadRow, T.ei_BadRow, T.no_BadRow, T.st_any, pr_top, T.in_BadRow, T.ty_BadRow⟩
theorem bad_heap {K : PySem.W.Frag} {mg : Str → Option Value} {base : Heap} (T : TX K mg base) : BadC Pr K (a_NotHeap K) (a_NotHeap_init K) "place" :=
  ⟨⟨_, _, _, T.f_NotHeap_init, bit_heap, pr_file⟩, T.o_NotHeap, T.sp_NotHeap, T.sb_NotHeap, T.mr_NotHeap, T.ei_NotHeap, T.no_NotHeap, T.st_any, pr_top, T.in_NotHeap, T.ty_NotHeap⟩
end K7
/-! several clauses 'except x as n'; isinstance of a caught error with or without fields; count of flat items -/
namespace K7
open PySem PySem.Spec PyProof.Rows L2
/-- a clause: its class, its suite's reading -/
abbrev Cl : Type := Value × (Addr → Value → Option Addr → TS)
/-- behind a suite the name in slot i is gone -/
def gone (i : Nat) (D : Ends) : Ends :=
  { nx := fun σ H => D.nx (σ.set i none) H, rt := D.rt, bk := fun σ H => D.bk (σ.set i none) H, ct := fun σ H => D.ct (σ.set i none) H }
def wMAs (K : PySem.W.Frag) (i : Nat) (Wout : WX) (D : Ends) : List Cl → WX
  | [] => Wout
  | (c, ts) :: r => fun cls d σ H => ∃ b, PySem.W.exmOne K cls c = some b ∧ (b = true → ∀ a, H a = none → ts a cls d (gone i D) (σ.set i (some (.ref a))) H) ∧ (b = false → wMAs K i Wout D r cls d σ H)
inductive HdsAs (X : Cx) (n : Str) : List ExceptHandler → List Cl → Prop
  | nil : HdsAs X n [] []
  | cons {x : Str} {c : Value} {ts : Addr → Value → Option Addr → TS} {b₀ : Stmt} {suite : List Stmt} {np pos' : Pos} {hds : List ExceptHandler} {l : List Cl} (hc : Names X x c)
      (hsu : ∀ (a : Addr) (oe : Obj) (cls : Value) (d : Option Addr) (pn : List (Addr × Obj)), Zc cls d oe → (∃ vs, oe.data = .fields vs) → PSs (X.suite a ((a, oe) :: pn)) (b₀ :: suite) (ts a cls d))
      (r : HdsAs X n hds l) : HdsAs X n (.ExceptHandler (some (.Name x np)) (some n) (b₀ :: suite) pos' :: hds) ((c, ts) :: l)
section
variable {X : Cx} {n : Str} {i : Nat} {body : List Stmt} {h₀ : ExceptHandler} {hds : List ExceptHandler} {l : List Cl} {pos : Pos} {tb : WX → TS} {Wout : WX}
theorem ps_try_mas (hs : X.stack = X.env :: X.outer) (hf : X.env.frame = some X.env.locals) (hN : X.N.Nodup) (hi : X.N[i]? = some n) (hln : X.env.kindOf n = some .local) (tk : Takes X Wout)
    (hb : ∀ (W : WX) (pn : List (Addr × Obj)) (xe : Value → Shared → Prop), Takes (X.tr pn xe) W → PassesOwn (model X.prog X.w) X.A X.env xe → PSs (X.tr pn xe) body (tb W))
    (hh : HdsAs X n (h₀ :: hds) l) : PS X (.Try body (h₀ :: hds) [] [] pos) (fun D σ H => tb (wMAs X.K i Wout D l) D σ H) := by
  refine ⟨fun pins s σ H D I h => ?_⟩
  have ok := I.ok
  have hfr : X.A.frames = some (X.env :: X.outer) := by rw [ok.frames, hs]
  refine wpAny_Try_except ?_
  let xe' : Value → Shared → Prop := fun e s₁ => wpAny (model X.prog X.w) X.A (noteFrame e X.env) (fun _ s₂ =>
    wpAny (model X.prog X.w) X.A (setFlight e none) (fun _ s₃ => wpAny (model X.prog X.w) X.A (handleBy e X.env (h₀ :: hds)) (SP X pins D) X.xe s₃) X.xe s₂) X.xe s₁
  refine wpAny_mono ((hb (wMAs X.K i Wout D l) (X.pn ++ pins) xe' (fun u s' xx => ?_) PassesOwn.looking).run [] s σ H D (I.toTry _) h) (fun f s1 hsp => ?_) (fun e s1 he => he)
  · obtain ⟨a, B, sI, pins', σ', H', cls, d, rfl, J', nb, up, sky, na, os, ag, w⟩ := xx
    have J : Inv X pins σ' H' sI := J'.ofTry ok
    have sky' : Sky B (X.env :: X.outer) a (Zc cls d) X.env.locals s'.heap := by
      rw [← hs]
      exact sky
    show wpAny (model X.prog X.w) X.A (noteFrame (.ref a) X.env) _ _ _
    refine Sky.land Zc.steady hfr hf sky' fun h3 fl3 up3 => ?_
    have J3 : Inv X pins σ' H' { s' with heap := h3 } := J.landed nb fl3.1 (up.trans up3) os ag
    obtain ⟨oe3, vs3, he3, hz3, hd3⟩ := fl3.there
    have nfr : a ∉ frs (X.env :: X.outer) := fun hm => by
      obtain ⟨_, o', e', hnf⟩ := fl3.2.2.1.mem hm
      rw [he3] at e'
      cases e'
      exact hnf _ hd3
    have nL : a ≠ X.env.locals := fun z => nfr (List.mem_filterMap.mpr ⟨X.env, List.mem_cons_self, by rw [hf, z]⟩)
    have nF : a ∉ X.fs := fun hm => by
      obtain ⟨e, he, q⟩ := List.mem_filterMap.mp hm
      exact nfr (List.mem_filterMap.mpr ⟨e, List.mem_cons_of_mem _ he, q⟩)
    have S3 := J3.suite he3 hd3 na nL nF
    have go : ∀ {hds' : List ExceptHandler} {l' : List Cl}, HdsAs X n hds' l' → wMAs X.K i Wout D l' cls d σ' H' →
        wpAny (model X.prog X.w) X.A (handleBy (.ref a) X.env hds') (SP X pins D) X.xe { s' with heap := h3 } := by
      intro hds' l' hk
      induction hk with
      | nil =>
        intro w
        refine wpAny_handleBy_nil ?_
        obtain ⟨k1, k2, k3, oe, vs, T, oT, ts', he, hz, hd, h1, hr⟩ := id fl3
        unfold PySem.passOn
        refine wpAny_bind (wpAny_field he hd h1 ?_)
        rw [if_neg (show ¬ ((Value.ref T == Value.none) = true) from by simp)]
        have fin : wpAny (model X.prog X.w) X.A (setFlight (.ref a) X.env.frame)
            (fun _ s4 => wpAny (model X.prog X.w) X.A (throw (.ref a) : Sem Flow) (SP X pins D) X.xe s4) X.xe { s' with heap := h3 } := by
          rw [hf]
          refine HandSPX.setFlight_upZ fl3 fun h4 hh4 up4 => wpAny_throw (tk _ _ ?_)
          exact ⟨a, B, sI, pins, σ', H', cls, d, rfl, J, nb, (up.trans up3).trans up4, .inr (.inr (by rw [hs]; exact hh4)), na, os, ag, w⟩
        first
          | exact wpAny_bind (wpAny_pure (wpAny_bind fin))
          | exact wpAny_bind fin
      | @cons x c ts b₀ suite np pos' hds2 l2 hc hsu r ih =>
        intro w
        obtain ⟨b, hb1, hyes, hno⟩ := w
        refine wpAny_handleBy_cons (codeAny_handlers_test ?_) (by intro q; cases q)
        have LT : PySem.W.Looks (model X.prog X.w) h3 (typeOf (.ref a)) cls := fun A Q E s k q => wpAny_typeOf_ref (k _ _ he3) (by rw [hz3.1]; exact q)
        have LM := PySem.W.exm_one (M := model X.prog X.w) (J3.kIn) LT hb1
        have test : ∀ {Q : Value → Shared → Prop} {E : Value → Shared → Prop}, Q c { s' with heap := h3 } →
            wpAny (model X.prog X.w) (X.A.mark (some (.ref a))) (eval (.Name x np) X.env) Q E { s' with heap := h3 } := fun {Q E} q => by
          obtain ⟨hg, hdbg, hm | ⟨hm, hv, hnn⟩⟩ := hc
          · exact ld_glob (X := X.suite a ((a, oe3) :: (X.pn ++ pins))) S3 hg hm q hdbg
          · exact ld_blt (X := X.suite a ((a, oe3) :: (X.pn ++ pins))) S3 hg hm hv q hnn hdbg
        refine test (LM.here ?_)
        cases b with
        | true =>
          refine codeAny_handlers_suite_as ?_
          refine HandSPX.lands_againZ fl3 fun h4 fl4 up4 => ?_
          have J4 : Inv X pins σ' H' { s' with heap := h4 } := J.landed nb fl4.1 ((up.trans up3).trans up4) os ag
          obtain ⟨oe4, vs4, he4, hz4, hd4⟩ := fl4.there
          have S4 := J4.suite he4 hd4 na nL nF
          refine store_ok (X := X.suite a ((a, oe4) :: (X.pn ++ pins))) (v := .ref a) S4 hN hi (.inl hln) rfl (fun s5 S5 => ?_) (.inr hln)
          refine wpAny_mono ((hsu a oe4 cls d (X.pn ++ pins) hz4 ⟨_, hd4⟩).run [] s5 _ H' _ S5 (hyes rfl a na)) (fun f s6 hsp => ?_) (fun _ _ z => False.elim z)
          have end_ : ∀ {σ6 : L2.St} {H6 : Hp} {Q : Shared → Prop}, Inv (X.suite a ((a, oe4) :: (X.pn ++ pins))) [] σ6 H6 s6 → (∀ s7, Inv X pins (σ6.set i none) H6 s7 → Q s7) →
              wpAny (model X.prog X.w) X.A (do bindName X.env n .none; unbindBehindTheSuite X.env n pos') (fun _ s7 => Q s7) X.xe s6 := fun {σ6 H6 Q} S6 hq => gone_ok (S6.unsuite ok) hN hi hln hq
          cases f with
          | next =>
            obtain ⟨σ6, H6, S6, q6⟩ := hsp
            exact end_ S6 fun s7 J7 => ⟨_, _, J7, q6⟩
          | brk =>
            obtain ⟨σ6, H6, S6, q6⟩ := hsp
            exact end_ S6 fun s7 J7 => ⟨_, _, J7, q6⟩
          | cont =>
            obtain ⟨σ6, H6, S6, q6⟩ := hsp
            exact end_ S6 fun s7 J7 => ⟨_, _, J7, q6⟩
          | ret u =>
            obtain ⟨v6, σ6, H6, S6, r6, q6⟩ := hsp
            exact end_ S6 fun s7 J7 => ⟨_, _, _, J7, r6, q6⟩
        | false =>
          show wpAny _ X.A (handleBy (.ref a) X.env hds2) _ _ _
          exact ih (hno rfl)
    exact go hh w
  · cases f with
    | next =>
      obtain ⟨σ', H', J', q⟩ := hsp
      exact wpAny_execs_nil ⟨σ', H', J'.ofTry ok, q⟩
    | brk =>
      obtain ⟨σ', H', J', q⟩ := hsp
      exact ⟨σ', H', J'.ofTry ok, q⟩
    | cont =>
      obtain ⟨σ', H', J', q⟩ := hsp
      exact ⟨σ', H', J'.ofTry ok, q⟩
    | ret u =>
      obtain ⟨v, σ', H', J', r, q⟩ := hsp
      exact ⟨v, σ', H', J'.ofTry ok, r, q⟩
end
/-- isinstance(e, c), e the exception that the suite holds, with or without a dict -/
def rIsA (K : PySem.W.Frag) (cls : Value) (d : Option Addr) (a : Addr) : List V → Hp → VK → Prop := fun xs H Q => ∃ (D : Addr) (c : V) (cv : Value) (b : Bool), cls = .ref D ∧ ExcC K D ∧ (d = none ∨ ∃ dd fs, d = some dd ∧ H dd = some (.xd fs)) ∧
  xs = [.ref a, c] ∧ (∀ u, RelV c u → u = cv) ∧ PySem.W.kitOne K (.ref D) cv = some b ∧ Q (.bl b) H
theorem call_isA {X : Cx} {a : Addr} {cls : Value} {d : Option Addr} {oe : Obj} {pn : List (Addr × Obj)} (hz : Zc cls d oe) (hf : ∃ vs, oe.data = .fields vs) : CallR (X.suite a ((a, oe) :: pn)) (.builtin "isinstance") (rIsA X.K cls d a) := by
  intro pins s σ H xs us Q I r h
  obtain ⟨D, c, cv, b, rfl, C, hd, rfl, hcv, e, q⟩ := h
  obtain ⟨u1, u2, rfl, r1, r2⟩ := r.two
  cases (show u1 = Value.ref a from r1)
  cases hcv _ r2
  obtain ⟨hget, _⟩ := I.pin (a, oe) (List.mem_append.mpr (.inl List.mem_cons_self))
  obtain ⟨vs, hv⟩ := hf
  have hcl : (PySem.W.clsIn X.K D).isSome = true := by
    obtain ⟨cd, hc, _⟩ := PySem.W.any_some C.hd
    rw [hc] <;> rfl
  have J : ∃ od, PySem.W.InstAt s.heap a oe D od := by
    obtain ⟨oc, od, oda, osl⟩ := oe
    obtain ⟨h1, h2⟩ := hz
    dsimp only at h1 h2 hv
    subst h1 h2 hv
    rcases hd with e | ⟨dd, fs, e, hx⟩
    · subst e
      exact ⟨none, hget, rfl, rfl, trivial⟩
    · subst e
      obtain ⟨mA, hns, _⟩ := I.hok dd _ hx
      obtain ⟨ox, ho, _⟩ := lookIn_ns hns
      exact ⟨some ox, hget, rfl, rfl, ho⟩
  obtain ⟨od, J⟩ := J
  exact PySem.W.kia_one (PySem.W.kitx_exc hcl C.hg C.hk C.hs C.ha C.hn C.ht C.hm) I.kIn J e (fun z => nomatch z) fun tk => ⟨.bl b, H, I.kept (t' := tk) fun _ _ z => z, rfl, q⟩
/-! ### xs.count(y), flat items -/
def rCntF (K : PySem.W.Frag) : V → List V → Hp → VK → Prop := fun x xs H Q => ∃ (p : Addr) (ys : List V) (y : V), x = .ref p ∧ xs = [y] ∧ SqL K H p ys ∧ flatV y = true ∧ ys.all flatV = true ∧ Q (.int ((ys.countP fun z => eqV z y : Nat) : Int)) H
theorem countP_eqU {x : V} : ∀ {xs : List V} {us : List Value}, Vals xs us → xs.all flatV = true → us.countP (eqU x) = xs.countP fun z => eqV z x
  | _, _, .nil, _ => rfl
  | _, _, .cons r t, f => by
    simp only [List.all_cons, Bool.and_eq_true] at f
    rw [List.countP_cons, List.countP_cons, eqU_of r f.1, countP_eqU t f.2]
theorem mt_countF {X : Cx} : MtR X "list.count" (rCntF X.K) := by
  intro pins s σ H x xs v us Q I rx rxs h
  obtain ⟨p, ys, y, rfl, rfl, hs, fy, fys, q⟩ := h
  cases rx
  obtain ⟨u, rfl, ru⟩ := rxs.one
  obtain ⟨its, rv, ⟨⟨cls, dd, data, sl⟩, n, ho, hc, hdn, hd⟩, hlen⟩ := I.list hs
  simp only at hc hd
  subst hc hd
  refine call_meets PySem.F.slot_list_count ⟨_, ho, rfl⟩ PySem.F.entry_list_count (PySem.F.args_list_count_2 _ _)
    (SeqAt.list_countAt p its.toArray n dd sl u (eqU y)) ⟨ho, fun z hz => mem_eqAt ru fy rv fys z (by simpa using hz), ?_⟩
  have ec : its.toArray.toList.countP (eqU y) = ys.countP fun z => eqV z y := countP_eqU rv fys
  refine ⟨.int ((ys.countP fun z => eqV z y : Nat) : Int), H, I.tok _, ⟨s.toks, ?_⟩, q⟩
  show Value.int ((its.toArray.toList.countP (eqU y) : Nat) : Int) s.toks = _
  rw [ec]
end K7
/-! a lambda of one parameter, handed on and called -/
namespace K7
open PySem PySem.Spec PyProof.Rows L2
open LamX (Tabs TabS TabB ExtN CodeO lamEnv)
/-- one parameter a, no other name of its own; captured ones and globals; N: the maker's names -/
structure Lam1 (N : List Str) (sc scope : Scope) (a : Str) : Prop where
  kind : scope.kind = .function
  co : scope.isCoroutine = false
  gen : scope.isGenerator = false
  loc : ∀ y ∈ scope.names, y.2 = .local → y.1 = a
  par : scope.names.lookup a = some .local
  cel : ∀ y ∈ scope.names, y.2 ≠ .cell
  free : ∀ y ∈ scope.names, y.2 = .free → sc.names.lookup y.1 = some .cell ∨ sc.names.lookup y.1 = some .free
  out : a ∉ N
def lam1B (N : List Str) (sc scope : Scope) (a : Str) : Bool :=
  decide (scope.kind = .function) && (!scope.isCoroutine && (!scope.isGenerator && ((scope.names.all fun y => !decide (y.2 = .local) || decide (y.1 = a)) && (decide (scope.names.lookup a = some .local) && ((scope.names.all fun y => !decide (y.2 = .cell)) &&
  ((scope.names.all fun y => !decide (y.2 = .free) || (decide (sc.names.lookup y.1 = some .cell) || decide (sc.names.lookup y.1 = some .free))) && decide (a ∉ N)))))))
theorem lam1_by {N : List Str} {sc scope : Scope} {a : Str} (h : lam1B N sc scope a = true) : Lam1 N sc scope a := by
  unfold lam1B at h
  simp only [Bool.and_eq_true, Bool.or_eq_true, Bool.not_eq_true', decide_eq_true_eq, decide_eq_false_iff_not, List.all_eq_true] at h
  obtain ⟨h1, h2, h3, h4, h5, h6, h7, h8⟩ := h
  exact ⟨h1, h2, h3, fun y hy e => (h4 y hy).elim (fun z => absurd e z) id, h5, h6, fun y hy e => (h7 y hy).elim (fun z => absurd e z) id, h8⟩
section
variable {N : List Str} {sc scope : Scope} {a : Str}
theorem Lam1.has {X : Cx} (L : Lam1 N X.env.scope scope a) (ok : X.Ok) : ∀ y ∈ scope.names, y.2 = .free → ∃ c, X.env.cells.lookup y.1 = some c := fun y hy e => by
  rcases L.free y hy e with k | k
  · exact ok.has _ (.inl k)
  · exact ok.has _ (.inr k)
end
/-- the context of the lambda's body, entered at s from the frames outer: the maker's names, then the parameter -/
def lamCx1 (X : Cx) (A : Around) (outer : List Env) (s : Shared) (H : Hp) (E : XK) (scope : Scope) (a : Str) (f c' : Addr) : Cx where
  prog := X.prog
  w := X.w
  K := X.K
  mg := X.mg
  base := X.base
  A := A.deeper (lamEnv X scope s.heap.objs.size f c')
  N := X.N ++ [a]
  s_0 := s
  H_0 := H
  env := lamEnv X scope s.heap.objs.size f c'
  outer := outer
  stack := lamEnv X scope s.heap.objs.size f c' :: outer
  ex := []
  fn := fun _ => false
  calm := true
  pn := []
  xe := fun e s' => wpAny (model X.prog X.w) (A.deeper (lamEnv X scope s.heap.objs.size f c')) (leaving (lamEnv X scope s.heap.objs.size f c') e)
    (fun _ s'' => L2.CX X.prog X.w outer H s E e s'') (fun e' s'' => L2.CX X.prog X.w outer H s E e' s'') s'
section
variable {X : Cx} {pins : List (Addr × Obj)} {σ : L2.St} {H HZ : Hp} {s s1 : Shared}
theorem lam_start1 {A : Around} {outer : List Env} {E : XK} {scope : Scope} {a : Str} {f c' : Addr} {h₁ : Heap} {tk : Nat} {v : V} {u : Value} (I : Inv X pins σ H s) (L : Lam1 X.N X.env.scope scope a) (e0 : Env0 X.prog X.w X.K X.mg X.base A outer s1 HZ) (hd : A.handled = none)
    (un : Un (frs X.stack) [] H HZ s.heap s1.heap) (rv : RelV v u) (hns : h₁.Ns s1.heap.objs.size fun y => ([(a, u)] : List (Str × Value)).reverse.lookup y) (kp : ∀ b o, s1.heap.get? b = some o → h₁.get? b = some o) :
    Inv (lamCx1 X A outer s1 HZ E scope a f c') [] (σ ++ [some v]) HZ { s1 with heap := h₁, toks := tk } := by
  have hfree := L.has I.ok
  have cm : ∀ {y c}, (cloFrom X.env.cells scope.names []).lookup y = some c → X.env.cells.lookup y = some c := fun {y c} e => by
    rcases cloFrom_mem (PySem.mem_of_lookup e) with hm | ⟨h1, h2⟩
    · cases hm
    · obtain ⟨c1, hc⟩ := hfree _ h1 rfl
      have hc : X.env.cells.lookup y = some c1 := hc
      have e2 : c = c1 := by
        rw [h2, hc] <;> rfl
      rw [e2]
      exact hc
  have look : ∀ {y}, scope.names.lookup y = some .free → ∃ c, (cloFrom X.env.cells scope.names []).lookup y = some c := fun {y} hl => by
    have hy : (y, NameKind.free) ∈ scope.names := PySem.mem_of_lookup hl
    exact mem_lookup (cloFrom_has (cells := X.env.cells) (acc := []) hy)
  have cellK : ∀ {c : Addr} {v : Option Value}, H c = none → s.heap.IsCell c v → h₁.IsCell c v := fun {c v} n ⟨o, ho, hd⟩ => by
    obtain ⟨sl, q⟩ := un.any ho n (by simp)
    exact ⟨_, kp _ _ q, hd⟩
  have noA : ∀ b : Addr, b ∉ (lamCx1 X A outer s1 HZ E scope a f c').ex := fun b z => absurd (show b ∈ ([] : List Addr) from z) (by simp)
  refine ⟨⟨e0.mod, L.kind, rfl, rfl, Nat.le_refl _, fun y z c e1 e2 => I.ok.inj y z c (cm e1) (cm e2), fun y hy => ?_, fun y c z _ => ?_, fun _ => hd, Around.frames_deeper e0.frames, .inr ⟨rfl, rfl⟩, fun b z => absurd z (noA b), e0.bs, e0.bsz, fun b _ _ => noA b,
      fun b z => absurd z (noA b), e0.funs, e0.frf⟩,
    rfl, e0.bare, Un.kept kp, ⟨_, hns, fun i y v' e1 e2 e3 => ?_⟩, fun y c e => ?_, e0.hok.fresh (Nat.le_refl _), fun y c e => ?_, fun q hq => absurd (show q ∈ ([] : List (Addr × Obj)) ++ [] from hq) (by simp), e0.hok.kept kp, ?_⟩
  · have hy : scope.names.lookup y = some .cell ∨ scope.names.lookup y = some .free := hy
    rcases hy with hy | hy
    · exact absurd rfl (L.cel _ (PySem.mem_of_lookup hy))
    · exact look hy
  · have z : false = true := z
    cases z
  · have e3 : Vis scope y := e3
    have e1 : (X.N ++ [a])[i]? = some y := e1
    by_cases hi : i < X.N.length
    · rw [List.getElem?_append_left hi] at e1
      rw [List.getElem?_append_left (by rw [I.len]; exact hi)] at e2
      have hin : y ∈ X.N := List.mem_of_getElem? e1
      rcases e3 with k | k | k
      · have z := L.loc _ (PySem.mem_of_lookup k) rfl
        exact absurd (show a ∈ X.N by rw [← z]; exact hin) L.out
      · exact absurd rfl (L.cel _ (PySem.mem_of_lookup k))
      · obtain ⟨m, hn, hl⟩ := I.loc
        have hvis : Vis X.env.scope y := (L.free _ (PySem.mem_of_lookup k) rfl).elim (fun k => .inr (.inl k)) (fun k => .inr (.inr k))
        obtain ⟨w', r, q⟩ := hl i y v' e1 e2 hvis
        obtain ⟨c2, h2⟩ := look k
        refine ⟨w', r, .inr ⟨.inr k, c2, h2, ?_⟩⟩
        have c1 := cm h2
        rcases q with ⟨k', _⟩ | ⟨_, c3, e', z⟩
        · have k' : X.env.scope.names.lookup y = some .local := k'
          rcases L.free _ (PySem.mem_of_lookup k) rfl with k2 | k2 <;> rw [show X.env.scope.names.lookup y = _ from k2] at k' <;> cases k'
        · rw [c1] at e'
          cases e'
          exact cellK (I.freeC y _ c1) z
    · have hge : X.N.length ≤ i := Nat.le_of_not_lt hi
      rw [List.getElem?_append_right hge] at e1
      rw [List.getElem?_append_right (by rw [I.len]; exact hge), I.len] at e2
      cases hk : i - X.N.length with
      | zero =>
        rw [hk] at e1 e2
        have ey : a = y := by simpa using e1
        have ev : v = v' := by simpa using e2
        subst ey ev
        exact ⟨u, rv, .inl ⟨L.par, by simp⟩⟩
      | succ k =>
        rw [hk] at e1
        simp at e1
  · obtain ⟨w', z⟩ := I.cell y c (cm e)
    exact ⟨w', cellK (I.freeC y c (cm e)) z⟩
  · obtain ⟨v, o, ho, hd⟩ := I.cell y c (cm e)
    exact un.free c o ho (I.freeC y c (cm e)) (by simp)
  · show (σ ++ [some v]).length = (X.N ++ [a]).length
    rw [List.length_append, List.length_append, I.len] <;> rfl
/-- the lambda at f runs, called with one value, from any state that has grown out of the maker's -/
theorem lam_run {A : Around} {outer : List Env} {E : XK} {Q : VK} {scope : Scope} {a : Str} {f c' : Addr} {pm ctv : Value} {params : Arguments} {body : Expr} {k : Nat} {tb : TE} {v : V} {u : Value}
    (I : Inv X pins σ H s) (L : Lam1 X.N X.env.scope scope a) (e0 : Env0 X.prog X.w X.K X.mg X.base A outer s1 HZ) (un : Un (frs X.stack) [] H HZ s.heap s1.heap) (hr : Room (k + 1) A)
    (hf : s1.heap.get? f = some (PySem.W.kla_obj "<lambda>" (X.env.qual ++ "<lambda>") params body scope (cloFrom X.env.cells scope.names []) pm c' ctv)) (hco : HZ c' = some (CodeO c' (X.env.qual ++ "<lambda>")))
    (hbind : bindArgs (PySem.W.kla_fn "<lambda>" (X.env.qual ++ "<lambda>") params body scope (cloFrom X.env.cells scope.names []) pm (.ref c') ctv) ⟨[u], []⟩ = pure [(a, u)]) (rv : RelV v u)
    (hbody : PE (lamCx1 X A outer s1 HZ E scope a f c') body tb) (ht : tb (σ ++ [some v]) HZ Q) :
    codeAny (model X.prog X.w) A (.call (.ref f) ⟨[u], []⟩) (CR (L2.CX X.prog X.w) outer X.prog X.w HZ s1 Q E) s1 := by
  obtain ⟨⟨oc, vs, t, hoc, hdc, hvc⟩, _, _⟩ := e0.hok c' _ hco
  have lim : s1.heap.NoLimit := e0.mod.nolimit.keeps fun b o e => (e0.bs b o e).1
  refine PySem.W.kla_callFunE hr.depth hf rfl L.co L.gen rfl ⟨c', oc, vs, t, rfl, hoc, hdc, hvc⟩ ?_
  rw [hbind]
  refine wpAny_pure (wpAny_newFunctionEnv L.cel (fun y hy => ?_) (fun h₁ hns hsb => ⟨lim.fresh _ hsb, ?_⟩) L.kind)
  · have e : y = (a, u) := by simpa using hy
    rw [e]
    exact L.par
  · show codeAny _ _ (.expr body (lamEnv X scope s1.heap.objs.size f c')) _ _
    have kp : ∀ b o, s1.heap.get? b = some o → h₁.get? b = some o := fun b o e => hsb.extBut b o (Nat.ne_of_lt (Heap.lt_size e)) (Heap.get?_push_of_some _ e)
    have J : Inv (lamCx1 X A outer s1 HZ E scope a f c') [] (σ ++ [some v]) HZ { s1 with heap := h₁, toks := s1.toks + ([(a, u)] : List (Str × Value)).length } := lam_start1 I L e0 hr.hd un rv hns kp
    refine PySem.W.kla_codeExpr (wpAny_mono (hbody.run [] _ _ HZ Q J ht) (fun v s' hq => ?_) fun e s' hq => hq)
    obtain ⟨w', H', J', rv, q⟩ := hq
    exact ⟨w', H', J'.os, J'.bare, J'.base, J'.hok, rv, q⟩
end
end K7
/-! the law's own def that tells with which word a door refuses -/
namespace K7
open PySem PySem.Spec PyProof.Rows L2
open LamX (Tabs TabS TabB ExtN CodeO lamEnv)
abbrev NT : List Str := ["call", "error", "found"]
/-- the word of an error, and its number -/
inductive ErrW (K : PySem.W.Frag) : Value → Option Addr → Hp → Str → V → Prop
  | row {dd : Addr} {H : Hp} {v : V} (h : H dd = some (.xd [("index", v)])) : ErrW K (.ref (a_BadRow K)) (some dd) H "row" v
  | heap {dd : Addr} {H : Hp} {v : V} (h : H dd = some (.xd [("place", v)])) : ErrW K (.ref (a_NotHeap K)) (some dd) H "heap" v
  | wide {H : Hp} : ErrW K (.ref (a_BadArms K)) none H "wide" (.int 0)
  | many {H : Hp} : ErrW K (.ref (a_BadMany K)) none H "many" (.int 0)
  | place {H : Hp} : ErrW K (.ref (a_BadPlace K)) none H "place" (.int 0)
  | key {H : Hp} : ErrW K (.ref (a_BadKey K)) none H "key" (.int 0)
  | empty {H : Hp} : ErrW K (.ref (a_Empty K)) none H "empty" (.int 0)
  | full {H : Hp} : ErrW K (.ref (a_Full K)) none H "full" (.int 0)
/-- a new pair of a word and a number is handed back -/
def Told (H : Hp) (w : Str) (v : V) (Q : VK) : Prop := ∀ p H', Same H H' → H p = none → H' p = some (.tup [.str w, v]) → Q (.ref p) H'
/-- what the last row makes -/
def TNone (H : Hp) (Q : VK) : Prop := ([V.str "none", V.int 0] : List V).length ≤ sizeLine ∧ ∀ p, H p = none → Q (.ref p) (upd H p (.tup [.str "none", .int 0]))
def tTT (K : PySem.W.Frag) (tl : XK → Hp → VK → Prop) (H : Hp) (Q : VK) : Prop :=
  tl (fun cls d H' => ∃ w v, ErrW K cls d H' w v ∧ Told H' w v Q) H fun _ H' => TNone H' Q
theorem same_new {H : Hp} {p : Addr} {o : HO} (h : H p = none) : Same H (upd H p o) := fun b u e => by
  rw [upd_ne (ne_of_none e h)]
  exact e
theorem told_new {H H1 : Hp} {w : Str} {v : V} {Q : VK} (t : Told H w v Q) (e : Same H H1) (p : Addr) (hp : H1 p = none) : Q (.ref p) (upd H1 p (.tup [.str w, v])) :=
  t p _ (e.trans (same_new hp)) (e.free hp) upd_same
theorem sc_told : FnScope NT ["call"] (defScope s_law_told) := ⟨rfl, rfl, rfl, by decide +kernel, rfl, by decide +kernel, by decide +kernel⟩
abbrev cxT (P : Program) (w : World) (K : PySem.W.Frag) (mg : Str → Option Value) (base : Heap) (g : Addr) (cdg : Value) (A : Around) (outer : List Env) (s : Shared) (H : Hp) : Cx :=
  (cxOf CX0 P w K mg base NT "_law_told" (defScope s_law_told) g cdg A outer s H E0).nox
section
variable {P : Program} {w : World} {K : PySem.W.Frag} {mg : Str → Option Value} {base : Heap} {g : Addr} {cdg : Value} {A : Around} {outer : List Env} {s : Shared} {H : Hp}
/-- isinstance(error, X) in a suite -/
def tIs (K : PySem.W.Frag) (cls : Value) (d : Option Addr) (a : Addr) (c : V) : TE := tCB (rIsA K cls d a) (tCons (tVar 1) (tCons (tC c) tNil))
def tSui1 (K : PySem.W.Frag) (C : Addr) (f : Str) (wd : Str) (a : Addr) (cls : Value) (d : Option Addr) : TS :=
  tRet (tIf (tB (tIs K cls d a (.ref (a_HeapError K)))) (tTup (tCons (tC (.str wd)) (tCons (tXf a cls d C f (tVar 1)) tNil))) (tTup (tCons (tC (.str "unclear")) (tCons (tC (.int 0)) tNil))))
def tSui3 (K : PySem.W.Frag) (a : Addr) (cls : Value) (d : Option Addr) : TS :=
  tSeq (tAsg (tLst (tCons (tIs K cls d a (.ref (a_BadArms K))) (tCons (tIs K cls d a (.ref (a_BadMany K))) (tCons (tIs K cls d a (.ref (a_BadPlace K))) tNil)))) (gName 2))
  (tSeq (tAsg (tOp rCat (tVar 2) (tLst (tCons (tIs K cls d a (.ref (a_BadKey K))) (tCons (tIs K cls d a (.ref (a_Empty K))) tNil)))) (gName 2))
  (tSeq (tAsg (tOp rCat (tVar 2) (tLst (tCons (tIs K cls d a (.ref (a_Full K))) tNil))) (gName 2))
  (tSeq (tIfS (tOr (tTest (tOp rNe (tBM K "list" (rCntF K) (tVar 2) (tCons (tC (.bl true)) tNil)) (tC (.int 1)))) (tNot (tB (tIs K cls d a (.ty "ValueError"))))) (tRet (tTup (tCons (tC (.str "unclear")) (tCons (tC (.int 0)) tNil)))) tNext)
  (tRet (tTup (tCons (tOp (rIxL K) (tLst (tCons (tC (.str "wide")) (tCons (tC (.str "many")) (tCons (tC (.str "place")) (tCons (tC (.str "key")) (tCons (tC (.str "empty")) (tCons (tC (.str "full")) tNil)))))))
    (tBM K "list" (rIndex K) (tVar 2) (tCons (tC (.bl true)) tNil))) (tCons (tC (.int 0)) tNil)))))))
theorem set1 {σ : L2.St} {x : V} (h : σ.length = 3) : (σ.set 1 (some x))[1]? = some (some x) := List.getElem?_set_self (by omega)
theorem sz2 : 2 ≤ sizeLine := by decide
theorem sui1_ok {C : Addr} {f wd : Str} {dd a : Addr} {v : V} {σ : L2.St} {H : Hp} {D : Ends} (hl : σ.length = 3) (EC : ExcC K C) (hk : PySem.W.kitOne K (.ref C) (.ref (a_HeapError K)) = some true) (h : H dd = some (.xd [(f, v)])) (t : Told H wd v D.rt) :
    tSui1 K C f wd a (.ref C) (some dd) (gone 1 D) (σ.set 1 (some (.ref a))) H := by
  refine ⟨.ref a, set1 hl, C, _, _, true, rfl, EC, .inr ⟨dd, _, rfl, h⟩, rfl, fun u r => r, hk, true, rfl, ?_⟩
  refine iteT ⟨.ref a, set1 hl, rfl, rfl, dd, _, v, rfl, h, List.lookup_cons_self, sz2, fun p hp => ?_⟩
  exact told_new t (Same.refl _) p hp
/-- found, six answers, the j-th alone true -/
theorem six : ∀ (bs : List Bool) (j : Nat), bs.length = 6 → bs[j]? = some true → (bs.countP id = 1) → (bs.map V.bl).countP (fun z => eqV z (.bl true)) = 1 ∧ ∀ (m : Nat) (z : V), m < j → (bs.map V.bl)[m]? = some z → eqV z (.bl true) = false := by
  intro bs j _ hj hc
  refine ⟨?_, fun m z hm hz => ?_⟩
  · rw [List.countP_map]
    have e : ((fun z => eqV z (V.bl true)) ∘ V.bl) = id := by
      funext b
      cases b <;> rfl
    rw [e]
    exact hc
  · rw [List.getElem?_map] at hz
    cases hb : bs[m]? with
    | none => rw [hb] at hz; cases hz
    | some b =>
      rw [hb] at hz
      have ez : V.bl b = z := Option.some.inj hz
      subst ez
      cases b with
      | false => rfl
      | true =>
        exfalso
        obtain ⟨h1, e1⟩ := List.getElem?_eq_some_iff.mp hb
        obtain ⟨h2, e2⟩ := List.getElem?_eq_some_iff.mp hj
        have h3 : bs = bs.take j ++ bs.drop j := (List.take_append_drop j bs).symm
        rw [h3, List.countP_append] at hc
        have p1 : 0 < (bs.take j).countP id := List.countP_pos_iff.mpr ⟨true, by
          rw [List.mem_take_iff_getElem]
          exact ⟨m, by omega, e1⟩, rfl⟩
        have p2 : 0 < (bs.drop j).countP id := List.countP_pos_iff.mpr ⟨true, by
          rw [List.mem_drop_iff_getElem]
          exact ⟨0, by omega, by simpa using e2⟩, rfl⟩
        omega
theorem told_none {H : Hp} {Q : VK} (t : Told H "none" (.int 0) Q) : TNone H Q := ⟨sz2, fun p hp => told_new t (Same.refl _) p hp⟩
def wds : List Str := ["wide", "many", "place", "key", "empty", "full"]
theorem sui3_ok (T : TX K mg base) {C a : Addr} {wd : Str} {σ : L2.St} {H : Hp} {D : Ends} {b0 b1 b2 b3 b4 b5 : Bool} {j : Nat} (hl : σ.length = 3) (EC : ExcC K C)
    (k0 : PySem.W.kitOne K (.ref C) (.ref (a_BadArms K)) = some b0) (k1 : PySem.W.kitOne K (.ref C) (.ref (a_BadMany K)) = some b1) (k2 : PySem.W.kitOne K (.ref C) (.ref (a_BadPlace K)) = some b2)
    (k3 : PySem.W.kitOne K (.ref C) (.ref (a_BadKey K)) = some b3) (k4 : PySem.W.kitOne K (.ref C) (.ref (a_Empty K)) = some b4) (k5 : PySem.W.kitOne K (.ref C) (.ref (a_Full K)) = some b5)
    (kv : PySem.W.kitOne K (.ref C) (.type "ValueError") = some true) (hj : [b0, b1, b2, b3, b4, b5][j]? = some true) (hc : [b0, b1, b2, b3, b4, b5].countP id = 1) (hw : wds[j]? = some wd) (t : Told H wd (.int 0) D.rt) :
    tSui3 K a (.ref C) none (gone 1 D) (σ.set 1 (some (.ref a))) H := by
  obtain ⟨c1, c2⟩ := six [b0, b1, b2, b3, b4, b5] j rfl hj hc
  have s1 := set1 (x := .ref a) hl
  have s2 : ∀ x : V, ((σ.set 1 (some (.ref a))).set 2 (some x))[1]? = some (some (.ref a)) := fun x => by
    rw [List.getElem?_set_ne (by decide)]
    exact s1
  have s3 : ∀ x : V, ((σ.set 1 (some (.ref a))).set 2 (some x))[2]? = some (some x) := fun x => List.getElem?_set_self (by rw [List.length_set]; omega)
  refine ⟨_, s1, C, _, _, b0, rfl, EC, .inl rfl, rfl, fun u r => r, k0, ?_⟩
  refine ⟨_, s1, C, _, _, b1, rfl, EC, .inl rfl, rfl, fun u r => r, k1, ?_⟩
  refine ⟨_, s1, C, _, _, b2, rfl, EC, .inl rfl, rfl, fun u r => r, k2, ?_⟩
  refine ⟨(by decide : 3 ≤ sizeLine), fun l1 hl1 => ?_⟩
  refine ⟨_, s3 _, ?_⟩
  refine ⟨_, s2 _, C, _, _, b3, rfl, EC, .inl rfl, rfl, fun u r => r, k3, ?_⟩
  refine ⟨_, s2 _, C, _, _, b4, rfl, EC, .inl rfl, rfl, fun u r => r, k4, ?_⟩
  refine ⟨sz2, fun l2 hl2 => ?_⟩
  have n12 : l1 ≠ l2 := fun z => by
    rw [z] at hl2
    rw [upd_same] at hl2
    cases hl2
  refine ⟨l1, l2, [.bl b0, .bl b1, .bl b2], [.bl b3, .bl b4], rfl, rfl, by rw [upd_ne n12, upd_same], upd_same, (by decide : 3 + 2 ≤ sizeLine), fun l3 hl3 => ?_⟩
  have s2' : ∀ x y : V, (((σ.set 1 (some (.ref a))).set 2 (some x)).set 2 (some y))[1]? = some (some (.ref a)) := fun x y => by
    rw [List.getElem?_set_ne (by decide)]
    exact s2 x
  have s3' : ∀ x y : V, (((σ.set 1 (some (.ref a))).set 2 (some x)).set 2 (some y))[2]? = some (some y) := fun x y => List.getElem?_set_self (by rw [List.length_set, List.length_set]; omega)
  refine ⟨_, s3' _ _, ?_⟩
  refine ⟨_, s2' _ _, C, _, _, b5, rfl, EC, .inl rfl, rfl, fun u r => r, k5, ?_⟩
  refine ⟨(by decide : 1 ≤ sizeLine), fun l4 hl4 => ?_⟩
  have n34 : l3 ≠ l4 := fun z => by
    rw [z] at hl3
    rw [z, upd_same] at hl4
    cases hl4
  refine ⟨l3, l4, [.bl b0, .bl b1, .bl b2, .bl b3, .bl b4], [.bl b5], rfl, rfl, by rw [upd_ne n34, upd_same] <;> rfl, upd_same, (by decide : 5 + 1 ≤ sizeLine), fun l5 hl5 => ?_⟩
  have s2'' : ∀ x y z : V, ((((σ.set 1 (some (.ref a))).set 2 (some x)).set 2 (some y)).set 2 (some z))[1]? = some (some (.ref a)) := fun x y z => by
    rw [List.getElem?_set_ne (by decide)]
    exact s2' x y
  have s3'' : ∀ x y z : V, ((((σ.set 1 (some (.ref a))).set 2 (some x)).set 2 (some y)).set 2 (some z))[2]? = some (some z) := fun x y z => List.getElem?_set_self (by rw [List.length_set, List.length_set, List.length_set]; omega)
  have hfl : (([V.bl b0, V.bl b1, V.bl b2, V.bl b3, V.bl b4] : List V) ++ [V.bl b5]).all flatV = true := rfl
  have c1' : (!decide (V.int (((([V.bl b0, V.bl b1, V.bl b2, V.bl b3, V.bl b4] ++ [V.bl b5]).countP fun z => eqV z (V.bl true) : Nat)) : Int) = V.int 1)) = false := by
    have e : ([V.bl b0, V.bl b1, V.bl b2, V.bl b3, V.bl b4] ++ [V.bl b5]).countP (fun z => eqV z (V.bl true)) = 1 := c1
    rw [e]
    rfl
  refine ⟨_, s3'' _ _ _, .inl ⟨rfl, _, SqL.of upd_same⟩, l5, _, .bl true, rfl, rfl, SqL.of upd_same, rfl, hfl, rfl, _, rfl, ?_⟩
  rw [c1']
  refine iteF ⟨_, s2'' _ _ _, C, _, _, true, rfl, EC, .inl rfl, rfl, fun u r => r, kv, true, rfl, ?_⟩
  refine iteF ?_
  refine ⟨(by decide : 6 ≤ sizeLine), fun l6 hl6 => ?_⟩
  have n56 : l5 ≠ l6 := fun z => by
    rw [← z, upd_same] at hl6
    cases hl6
  have h5 : ∀ o, upd (upd (upd (upd (upd (upd H l1 (.lst [.bl b0, .bl b1, .bl b2])) l2 (.lst [.bl b3, .bl b4])) l3 (.lst ([.bl b0, .bl b1, .bl b2] ++ [.bl b3, .bl b4]))) l4 (.lst [.bl b5])) l5 (.lst ([.bl b0, .bl b1, .bl b2, .bl b3, .bl b4] ++ [.bl b5]))) l6 o l5 = some (.lst ([.bl b0, .bl b1, .bl b2, .bl b3, .bl b4] ++ [.bl b5])) := fun o => by
    rw [upd_ne n56, upd_same]
  refine ⟨_, s3'' _ _ _, .inl ⟨rfl, _, SqL.of (h5 _)⟩, l5, _, .bl true, j, .bl true, rfl, rfl, SqL.of (h5 _), rfl, hfl, ?_, rfl, c2, ?_⟩
  · show ([b0, b1, b2, b3, b4, b5].map V.bl)[j]? = some (V.bl true)
    rw [List.getElem?_map, hj]
    rfl
  · refine ⟨l6, _, (j : Int), .str wd, rfl, rfl, SqL.of upd_same, atI_nat ?_, sz2, fun p hp => ?_⟩
    · show (wds.map V.str)[j]? = some (V.str wd)
      rw [List.getElem?_map, hw]
      rfl
    · refine told_new t ?_ p hp
      exact (same_new hl1).trans ((same_new hl2).trans ((same_new hl3).trans ((same_new hl4).trans ((same_new hl5).trans (same_new hl6)))))
theorem told_gives (T : TX K mg base) {f : Addr} {tl : XK → Hp → VK → Prop} {G : L2.St → Hp → Prop}
    (hact : ∀ (W : WX) (pn : List (Addr × Obj)) (xe : Value → Shared → Prop) (E : XK) (p1 p2 p3 : Pos) (j : Nat), Takes ((cxT P w K mg base g cdg A outer s H).tr pn xe) W → (∀ cls d σ' H', σ'.length = 3 → E cls d H' → W cls d σ' H') →
      PE ((cxT P w K mg base g cdg A outer s H).tr pn xe) (.Call (.Name "call" p1) [.Constant (.int 0) j p2] [] p3) (fun σ H Q => G σ H ∧ tl E H Q))
    {Q : VK} (hG : G (start NT [.ref f]) H) (hT : tTT K tl H Q) :
    ∃ t, PSs (cxT P w K mg base g cdg A outer s H) (defBody s_law_told) t ∧ t { nx := fun _ H' => Q .non H', rt := Q } (start NT [.ref f]) H := by
  refine ⟨_, pss_cons (ps_try_mas (X := cxT P w K mg base g cdg A outer s H) (i := 1) (n := "error") (Wout := fun _ _ _ _ => False)
      (l := [(.ref (a_BadRow K), tSui1 K (a_BadRow K) "index" "row"), (.ref (a_NotHeap K), tSui1 K (a_NotHeap K) "place" "heap"), (.ref (a_HeapError K), tSui3 K)])
      (tb := fun W D σ H => ∃ E : XK, (∀ cls d σ' H', σ'.length = 3 → E cls d H' → W cls d σ' H') ∧ G σ H ∧ tl E H fun _ H1 => D.nx σ H1)
      rfl rfl sc_told.nd rfl rfl takes0 (fun W pn xe tk _ => ?_)
      (.cons ⟨rfl, by decide, .inl T.g_BadRow⟩ (fun a oe cls d pn hz hf => pss_one (ps_ret (pe_ifExp (pt_val (pe_callB (call_isA hz hf) rfl T.n_isinstance (by decide +kernel) (pa_cons (pv 1) (pa_cons (pe_glob rfl T.g_HeapError rfl) pa_nil))))
          (pe_tup (pa_cons pe_str (pa_cons (pe_xf T.xf_BadRow T.no_BadRow hz hf (pv 1)) pa_nil))) (pe_tup (pa_cons pe_str (pa_cons pe_int pa_nil))))))
        (.cons ⟨rfl, by decide, .inl T.g_NotHeap⟩ (fun a oe cls d pn hz hf => pss_one (ps_ret (pe_ifExp (pt_val (pe_callB (call_isA hz hf) rfl T.n_isinstance (by decide +kernel) (pa_cons (pv 1) (pa_cons (pe_glob rfl T.g_HeapError rfl) pa_nil))))
            (pe_tup (pa_cons pe_str (pa_cons (pe_xf T.xf_NotHeap T.no_NotHeap hz hf (pv 1)) pa_nil))) (pe_tup (pa_cons pe_str (pa_cons pe_int pa_nil))))))
          (.cons ⟨rfl, by decide, .inl T.g_HeapError⟩ (fun a oe cls d pn hz hf => ?_) .nil))))
    (pss_one (ps_ret (pe_tup (pa_cons pe_str (pa_cons pe_int pa_nil))))), ?_⟩
  · refine ⟨fun pins s' σ H' D I h' => ?_⟩
    obtain ⟨E, hW, h1, h2⟩ := h'
    exact (pss_one (ps_expr (hact W pn xe E _ _ _ _ tk hW))).run pins s' σ H' D I ⟨h1, h2⟩
  · exact pss_cons (ps_set (i := 2) sc_told.nd rfl (.inl rfl) (pe_lst (pa_cons (pe_callB (call_isA hz hf) rfl T.n_isinstance (by decide +kernel) (pa_cons (pv 1) (pa_cons (pe_glob rfl T.g_BadArms rfl) pa_nil)))
        (pa_cons (pe_callB (call_isA hz hf) rfl T.n_isinstance (by decide +kernel) (pa_cons (pv 1) (pa_cons (pe_glob rfl T.g_BadMany rfl) pa_nil)))
        (pa_cons (pe_callB (call_isA hz hf) rfl T.n_isinstance (by decide +kernel) (pa_cons (pv 1) (pa_cons (pe_glob rfl T.g_BadPlace rfl) pa_nil))) pa_nil)))) (hf := .inr rfl))
      (pss_cons (ps_set (i := 2) sc_told.nd rfl (.inl rfl) (pe_op op_cat (pv 2) (pe_lst (pa_cons (pe_callB (call_isA hz hf) rfl T.n_isinstance (by decide +kernel) (pa_cons (pv 1) (pa_cons (pe_glob rfl T.g_BadKey rfl) pa_nil)))
        (pa_cons (pe_callB (call_isA hz hf) rfl T.n_isinstance (by decide +kernel) (pa_cons (pv 1) (pa_cons (pe_glob rfl T.g_Empty rfl) pa_nil))) pa_nil)))) (hf := .inr rfl))
      (pss_cons (ps_set (i := 2) sc_told.nd rfl (.inl rfl) (pe_op op_cat (pv 2) (pe_lst (pa_cons (pe_callB (call_isA hz hf) rfl T.n_isinstance (by decide +kernel) (pa_cons (pv 1) (pa_cons (pe_glob rfl T.g_Full rfl) pa_nil))) pa_nil))) (hf := .inr rfl))
      (pss_cons (ps_if (PW.pt (pw_or (pt_cmpR op_ne (pe_bm PySem.F.plainAttrs_list PySem.F.slot_list_count PySem.F.type_list_count mt_countF (pv 2) (pa_cons pe_bl pa_nil)) pe_int (nomark _))
          (pw_or1 (pt_not (pt_val (pe_callB (call_isA hz hf) rfl T.n_isinstance (by decide +kernel) (pa_cons (pv 1) (pa_cons (pe_bltn (v := .ty "ValueError") rfl T.n_ValueError (by decide +kernel) rfl) pa_nil))))))))
          (pss_one (ps_ret (pe_tup (pa_cons pe_str (pa_cons pe_int pa_nil))))) pss_nil)
      (pss_one (ps_ret (pe_tup (pa_cons (pe_ix ix_list (pe_lst (pa_cons pe_str (pa_cons pe_str (pa_cons pe_str (pa_cons pe_str (pa_cons pe_str (pa_cons pe_str pa_nil)))))))
          (pe_bm PySem.F.plainAttrs_list PySem.F.slot_list_index PySem.F.type_list_index mt_index (pv 2) (pa_cons pe_bl pa_nil)) (fun _ _ => rfl)) (pa_cons pe_int pa_nil))))))))
  · refine ⟨fun cls d H' => ∃ w v, ErrW K cls d H' w v ∧ Told H' w v Q, fun cls d σ' H' hl e => ?_, hG, ?_⟩
    · obtain ⟨wd, v, e, t⟩ := e
      cases e with
      | row h => exact ⟨true, T.e_BadRow_BadRow, fun _ a na => sui1_ok hl T.ec_BadRow T.k_BadRow h t, (fun q => nomatch q)⟩
      | heap h => exact ⟨false, T.e_NotHeap_BadRow, (fun q => nomatch q), fun _ => ⟨true, T.e_NotHeap_NotHeap, fun _ a na => sui1_ok hl T.ec_NotHeap T.k_NotHeap h t, (fun q => nomatch q)⟩⟩
      | wide => exact ⟨false, T.e_BadArms_BadRow, (fun q => nomatch q), fun _ => ⟨false, T.e_BadArms_NotHeap, (fun q => nomatch q), fun _ => ⟨true, T.e_BadArms_HeapError, fun _ a na =>
          sui3_ok (j := 0) T hl T.ec_BadArms T.k_BadArms_BadArms T.k_BadArms_BadMany T.k_BadArms_BadPlace T.k_BadArms_BadKey T.k_BadArms_Empty T.k_BadArms_Full T.kv_BadArms rfl rfl rfl t, (fun q => nomatch q)⟩⟩⟩
      | many => exact ⟨false, T.e_BadMany_BadRow, (fun q => nomatch q), fun _ => ⟨false, T.e_BadMany_NotHeap, (fun q => nomatch q), fun _ => ⟨true, T.e_BadMany_HeapError, fun _ a na =>
          sui3_ok (j := 1) T hl T.ec_BadMany T.k_BadMany_BadArms T.k_BadMany_BadMany T.k_BadMany_BadPlace T.k_BadMany_BadKey T.k_BadMany_Empty T.k_BadMany_Full T.kv_BadMany rfl rfl rfl t, (fun q => nomatch q)⟩⟩⟩
      | place => exact ⟨false, T.e_BadPlace_BadRow, (fun q => nomatch q), fun _ => ⟨false, T.e_BadPlace_NotHeap, (fun q => nomatch q), fun _ => ⟨true, T.e_BadPlace_HeapError, fun _ a na =>
          sui3_ok (j := 2) T hl T.ec_BadPlace T.k_BadPlace_BadArms T.k_BadPlace_BadMany T.k_BadPlace_BadPlace T.k_BadPlace_BadKey T.k_BadPlace_Empty T.k_BadPlace_Full T.kv_BadPlace rfl rfl rfl t, (fun q => nomatch q)⟩⟩⟩
      | key => exact ⟨false, T.e_BadKey_BadRow, (fun q => nomatch q), fun _ => ⟨false, T.e_BadKey_NotHeap, (fun q => nomatch q), fun _ => ⟨true, T.e_BadKey_HeapError, fun _ a na =>
          sui3_ok (j := 3) T hl T.ec_BadKey T.k_BadKey_BadArms T.k_BadKey_BadMany T.k_BadKey_BadPlace T.k_BadKey_BadKey T.k_BadKey_Empty T.k_BadKey_Full T.kv_BadKey rfl rfl rfl t, (fun q => nomatch q)⟩⟩⟩
      | empty => exact ⟨false, T.e_Empty_BadRow, (fun q => nomatch q), fun _ => ⟨false, T.e_Empty_NotHeap, (fun q => nomatch q), fun _ => ⟨true, T.e_Empty_HeapError, fun _ a na =>
          sui3_ok (j := 4) T hl T.ec_Empty T.k_Empty_BadArms T.k_Empty_BadMany T.k_Empty_BadPlace T.k_Empty_BadKey T.k_Empty_Empty T.k_Empty_Full T.kv_Empty rfl rfl rfl t, (fun q => nomatch q)⟩⟩⟩
      | full => exact ⟨false, T.e_Full_BadRow, (fun q => nomatch q), fun _ => ⟨false, T.e_Full_NotHeap, (fun q => nomatch q), fun _ => ⟨true, T.e_Full_HeapError, fun _ a na =>
          sui3_ok (j := 5) T hl T.ec_Full T.k_Full_BadArms T.k_Full_BadMany T.k_Full_BadPlace T.k_Full_BadKey T.k_Full_Empty T.k_Full_Full T.kv_Full rfl rfl rfl t, (fun q => nomatch q)⟩⟩⟩
    · exact hT
end
end K7
/-! _law_told(lambda a: ..) -/
namespace K7
open PySem PySem.Spec PyProof.Rows L2
open LamX (Tabs TabS TabB ExtN CodeO lamEnv)
/-- the reading: a lambda is made, then its body's reading t is asked behind the maker's slots and the 0 -/
def tToldL (K : PySem.W.Frag) (TT : List (Addr × Str)) (t : XK → TE) : TE := fun σ H Q => Tabs TT H ∧ ∀ H1, ExtN H H1 → Tabs TT H1 → tTT K (fun E H' Q' => t E (σ ++ [some (.int 0)]) H' Q') H1 Q
section
variable {X : Cx}
theorem pe_told (T : TX X.K X.mg X.base) {TT : List (Addr × Str)} {a : Str} {c P : Addr} {k : Nat} {params : Arguments} {body : Expr} {scope : Scope} {t : XK → TE} {p lpos pos : Pos} (hg : Gl X "_law_told")
    (TB : TabB X.base X.mg c P) (hcode : X.env.code = .ref c) (hmT : (P, X.env.qual ++ "<lambda>") ∈ TT) (hu : ∀ p ∈ TT, p.1 = P → p.2 = X.env.qual ++ "<lambda>") (hr : Room (k + 2) X.A) (L : Lam1 X.N X.env.scope scope a) (hdef : defaultsOf params X.env = ([], []))
    (hbind : ∀ (q : Str) (cl : List (Str × Addr)) (pm cv ctv u : Value), bindArgs (PySem.W.kla_fn "<lambda>" q params body scope cl pm cv ctv) ⟨[u], []⟩ = pure [(a, u)])
    (hbody : ∀ (A : Around) (outer : List Env) (s : Shared) (H : Hp) (E : XK) (f c' : Addr), Room k (A.deeper (lamEnv X scope s.heap.objs.size f c')) → PE (lamCx1 X A outer s H E scope a f c') body (t E)) :
    PE X (.Call (.Name "_law_told" p) [.Lambda params body scope lpos] [] pos) (tToldL X.K TT t) := by
  refine ⟨fun pins s σ H Q I h => ?_⟩
  obtain ⟨hT, h⟩ := h
  obtain ⟨fd, F⟩ := T.f_law_told
  have hb := FunD.bindsN (ps := ["call"]) F fun _ _ _ _ _ _ us hl => match us, hl with | [_], _ => rfl
  have kp := F.kp
  obtain ⟨oc, od', dV, kV, doc, pm, an, cdv, ct, osl, rfl, lk, hcd, _, _⟩ := F.ex
  refine wpAny_Call_Name_kw (ld_glob I hg T.g_law_told ?_ (by decide))
  refine PySem.W.callWith_K (h₀ := X.base) I.ok.mod.kin kp ?_ (by rfl) (by rfl)
  show wpAny _ _ (spliced ((false, eval (.Lambda params body scope lpos) X.env) :: backTo pos (starEach [] X.env))) _ _ s
  refine Calls.spliced_cons (LamX.lam_make2 I TB hcode hmT hu hT hdef (L.has I.ok) fun f c' pm' ctv H1 s' I1 eN T1 hf hfn hfr hco => ?_)
  refine Calls.spliced_nil ⟨I1.kIn, ?_⟩
  have rc : codeAny (model X.prog X.w) X.A (.call (.ref (a_law_told X.K)) ⟨[.ref f], []⟩) (CR CX0 X.stack X.prog X.w H1 s' Q E0) s' := by
    refine LamX.run_ofS (N := NT) (ps := ["call"]) (us := [.ref f]) (vs := [.ref f]) lk hcd sc_told hr I1.env0 (hb s' [.ref f] I1.kIn rfl) (.cons rfl .nil) rfl fun hr' => ?_
    have hact : ∀ (W : WX) (pn : List (Addr × Obj)) (xe : Value → Shared → Prop) (E : XK) (p1 p2 p3 : Pos) (j : Nat), Takes ((cxT X.prog X.w X.K X.mg X.base (a_law_told X.K) cdv X.A X.stack s' H1).tr pn xe) W → (∀ cls d σ' H', σ'.length = 3 → E cls d H' → W cls d σ' H') →
        PE ((cxT X.prog X.w X.K X.mg X.base (a_law_told X.K) cdv X.A X.stack s' H1).tr pn xe) (.Call (.Name "call" p1) [.Constant (.int 0) j p2] [] p3)
          (fun σZ HZ Q => (σZ[0]? = some (some (.ref f)) ∧ HZ c' = some (CodeO c' (X.env.qual ++ "<lambda>"))) ∧ t E (σ ++ [some (.int 0)]) HZ Q) := by
      intro W pn xe E p1 p2 p3 j tk hW
      refine ⟨fun pinsZ sZ σZ HZ Q IZ h => ?_⟩
      obtain ⟨⟨hs, hc⟩, ht⟩ := h
      refine wpAny_Call_Name_kw (thn ((pv (pos := p1) 0 (x := "call")).run pinsZ sZ σZ HZ (fun v H1 => v = .ref f ∧ H1 = HZ) IZ ⟨.ref f, hs, rfl, rfl⟩) fun u s1 ⟨v, H1', I2, r1, q1⟩ => ?_)
      obtain ⟨ev, eH⟩ := q1
      subst ev eH
      cases (show u = Value.ref f from r1)
      have of1 : ∀ {sx : Shared} {Hx : Hp}, Inv ((cxT X.prog X.w X.K X.mg X.base (a_law_told X.K) cdv X.A X.stack s' H1).tr pn xe) pinsZ σZ Hx sx →
          sx.heap.get? f = some (PySem.W.kla_obj "<lambda>" (X.env.qual ++ "<lambda>") params body scope (cloFrom X.env.cells scope.names []) pm' c' ctv) := fun Ix => Ix.base.keep f _ hf hfn hfr (fun z => nomatch (show f ∈ ([] : List Addr) from z))
      refine PySem.W.callWith_F ⟨_, _, _, _, of1 I2⟩ ?_
      refine thn ((pa_cons (pe_int (i := 0) (j := j) (pos := p2)) pa_nil).run _ pinsZ s1 σZ H1' (fun vs H2 => vs = [.int 0] ∧ H2 = H1') I2 ⟨rfl, rfl⟩) fun us0 s2 ⟨vs, H2, I3, r3, ev, eH⟩ => ?_
      subst ev eH
      obtain ⟨u0, rfl, r4⟩ := r3.one
      refine ⟨⟨_, _, _, _, of1 I3⟩, ?_⟩
      have rc2 := lam_run (E := E) (Q := Q) (v := .int 0) (u := u0) I1 L I3.env0 I3.base hr' (of1 I3) hc (hbind _ _ _ _ _ _) r4 (hbody _ _ s2 H2 E f c' (hr'.deeper _)) ht
      refine wpAny_call (codeAny_mono rc2 fun r s3 hq => ?_)
      cases r with
      | error e => exact tk _ _ (XE.of_call (W := W) I3 (fun cls d H' e => hW cls d σZ H' I3.len e) hq)
      | ok fl =>
        cases fl with
        | ret u => exact I3.after hq
        | next => exact False.elim hq
        | brk => exact False.elim hq
        | cont => exact False.elim hq
    obtain ⟨t', ht', hq'⟩ := told_gives (P := X.prog) (w := X.w) (g := a_law_told X.K) (cdg := cdv) (A := X.A) (outer := X.stack) (s := s') (H := H1) T (f := f) (tl := fun E H' Q' => t E (σ ++ [some (.int 0)]) H' Q')
      (G := fun σZ HZ => σZ[0]? = some (some (.ref f)) ∧ HZ c' = some (CodeO c' (X.env.qual ++ "<lambda>"))) hact ⟨rfl, hco⟩ (h H1 eN T1)
    exact ⟨t', ht'.nox, hq'⟩
  refine wpAny_call (codeAny_mono rc fun r s2 hq => ?_)
  cases r with
  | error e => exact (show False from hq).elim
  | ok fl =>
    cases fl with
    | ret u => exact I1.after hq
    | next => exact False.elim hq
    | brk => exact False.elim hq
    | cont => exact False.elim hq
end
end K7
/-! min(t, key=lambda a: ..), t a tuple of ints, the key a pair of ints: one of the items -/
namespace K7
open PySem PySem.Spec PyProof.Rows L2
open LamX (Tabs TabS TabB ExtN CodeO lamEnv)
theorem min_argsOk (a v : Value) : argsOk "min" ⟨[a], [(Str.ofString "key", v)]⟩ := by unfold argsOk; kernel_rfl
section
variable {X : Cx} {pins : List (Addr × Obj)} {σ : L2.St} {p f : Addr} {ns : List Int} {of : Obj} {TT : List (Addr × Str)} {Hb : Hp} {it S : Addr} {Q : VK}
theorem unpin1 {q : Addr × Obj} {H : Hp} {s : Shared} (I : Inv X (q :: pins) σ H s) : Inv X pins σ H s :=
  I.pins_of fun r hr => I.pin r (List.mem_append_right _ (List.mem_cons_of_mem _ hr))
/-- a pair of ints -/
def IsPr (H : Hp) (v : V) : Prop := ∃ t a b, v = .ref t ∧ H t = some (.tup [.int a, .int b])
theorem IsPr.same {H H' : Hp} {v : V} (h : IsPr H v) (e : Same H H') : IsPr H' v := by
  obtain ⟨t, a, b, e1, e2⟩ := h
  exact ⟨t, a, b, e1, e _ _ e2⟩
/-- the key's call, from the loop -/
def KeyOk (X : Cx) (pins : List (Addr × Obj)) (σ : L2.St) (f : Addr) (of : Obj) (TT : List (Addr × Str)) (Hb : Hp) (ns : List Int) : Prop :=
  ∀ (n : Int) (u : Value) (H : Hp) (s : Shared), n ∈ ns → RelV (.int n) u → ExtN Hb H → Tabs TT H → Inv X ((f, of) :: pins) σ H s →
    codeAny (model X.prog X.w) X.A.in1 (.call (.ref f) ⟨[u], []⟩) (CR (L2.CX X.prog X.w) X.stack X.prog X.w H s (fun v H' => IsPr H' v ∧ Same H H') E0) s
/-- where the loop stands: the lambda at f, its iterator at it, the best so far at S -/
structure MnSt (X : Cx) (pins : List (Addr × Obj)) (σ : L2.St) (p : Addr) (ns : List Int) (f : Addr) (of : Obj) (TT : List (Addr × Str)) (Hb : Hp) (it S : Addr) (i : Nat) (H : Hp) (s : Shared) : Prop where
  inv : Inv X ((f, of) :: pins) σ H s
  ext : ExtN Hb H
  tab : Tabs TT H
  its : s.heap.IsTupleIter it p i
  fp : FpOk X ((f, of) :: pins) H it
  best : (i = 0 ∧ H S = some (.lst [])) ∨ (0 < i ∧ ∃ b v, H S = some (.lst [.int b, v]) ∧ b ∈ ns ∧ IsPr H v)
theorem extN_t {K : PySem.W.Frag} {H H' : Hp} {a : Addr} {xs : List V} (e : ExtN H H') (h : SqT K H a xs) : SqT K H' a xs := by
  rcases h with (h | ⟨o, h⟩) | h
  · exact .inl (.inl (e _ _ h fun ps z => nomatch z))
  · exact .inl (.inr ⟨o, e _ _ h fun ps z => nomatch z⟩)
  · exact .inr h
theorem extN_l {K : PySem.W.Frag} {H H' : Hp} {a : Addr} {xs : List V} (e : ExtN H H') (h : SqL K H a xs) : SqL K H' a xs := by
  rcases h with (h | ⟨o, h⟩) | h
  · exact .inl (.inl (e _ _ h fun ps z => nomatch z))
  · exact .inl (.inr ⟨o, e _ _ h fun ps z => nomatch z⟩)
  · exact .inr h
theorem extN_mut {H H' : Hp} {S : Addr} {o : HO} (e : ExtN H H') (h : H S = none) : ExtN H (upd H' S o) := fun b u hb n => by
  rw [upd_ne (ne_of_none hb h)]
  exact e b u hb n
theorem tabs_upd {TT : List (Addr × Str)} {H : Hp} {S : Addr} {o : HO} {xs : List V} (t : Tabs TT H) (h : H S = some (.lst xs)) : Tabs TT (upd H S o) := fun q hq => by
  obtain ⟨ps, h1, h2, h3⟩ := t q hq
  refine ⟨ps, by rw [upd_ne (ne_of h1 h (by intro z; cases z))]; exact h1, h2, fun pos cv hc => ?_⟩
  obtain ⟨c, e1, e2⟩ := h3 pos cv hc
  refine ⟨c, e1, ?_⟩
  rw [upd_ne (ne_of e2 h (by intro z; unfold CodeO at z; cases z))]
  exact e2
theorem isPr_upd {H : Hp} {S : Addr} {o : HO} {xs : List V} {v : V} (t : IsPr H v) (h : H S = some (.lst xs)) : IsPr (upd H S o) v := by
  obtain ⟨q, a, b, e1, e2⟩ := t
  exact ⟨q, a, b, e1, by rw [upd_ne (ne_of e2 h (by intro z; cases z))]; exact e2⟩
theorem fp_upd {H : Hp} {S : Addr} {o : HO} {xs : List V} (h : FpOk X pins H it) (hS : H S = some (.lst xs)) : FpOk X pins (upd H S o) it := by
  obtain ⟨h1, h2⟩ := h
  exact ⟨by rw [upd_ne (Ne.symm (ne_of_none hS h1))]; exact h1, h2⟩
/-- the loop -/
theorem mn_loop {R : Result → Shared → Prop} (hA : X.A.handled = none) (hu : X.A.in1.units < cLine) (hp : SqT X.K Hb p (ns.map V.int)) (hS : Hb S = none) (hne : 0 < ns.length) (key : KeyOk X pins σ f of TT Hb ns)
    (hR : ∀ n u H s, n ∈ ns → RelV (.int n) u → ExtN Hb H → Tabs TT H → Inv X ((f, of) :: pins) σ H s → R (.ok (.ret u)) s) :
    ∀ (r i : Nat) (H : Hp) (s : Shared), ns.length - i = r → i ≤ ns.length → MnSt X pins σ p ns f of TT Hb it S i H s → codeAny (model X.prog X.w) X.A (.builtin "min.loop" ⟨[.ref it, .ref f, .ref S], []⟩) R s := by
  have hname : (toString "min" ++ toString ".loop" : String) = "min.loop" := by decide
  intro r
  induction r with
  | zero =>
    intro i H s hr hi M
    have ei : i = ns.length := by omega
    obtain ⟨I, ext, tab, hit, fp, best⟩ := M
    rcases best with ⟨e0, _⟩ | ⟨_, b, v, hb, bm, pr⟩
    · omega
    obtain ⟨its, rv, pt, hz⟩ := I.tuple (extN_t ext hp)
    have hlen := rv.length
    obtain ⟨bs, n, rb, ho, _⟩ := I.lst hb
    obtain ⟨ub, uv, rfl, r1, r2⟩ := Vals.two rb
    have hne2 : p ≠ it := fun z => by
      obtain ⟨o, e1, c1, _⟩ := pt
      obtain ⟨o', e2, c2, _⟩ := hit
      rw [z, e2] at e1
      cases e1
      rw [c2] at c1
      exact absurd (Value.type.inj c1) (by decide)
    have W := Walks.tuple (prog := X.prog) (w := X.w) (A := X.A.in1) hA it p hne2 its.toArray
    refine codeAny_builtin PySem.F.entry_min_loop ?_
    rw [Around.under_plainId PySem.F.plain_min_loop _]
    show wpAny _ X.A.in1 (seqItems? (.ref S) >>= _) _ _ _
    refine wpAny_bind (wpAny_seqItems ho rfl ?_)
    show wpAny _ X.A.in1 (tryCatch (pyNext (.ref it)) _ >>= _) _ _ _
    have e2 : its.toArray.size = i := by
      rw [List.size_toArray, ei]
      simpa using hlen.symm
    refine wpAny_bind (wpAny_tryCatch (W.done _ _ _ ⟨by rw [e2]; exact hit, pt⟩ fun h' tk' hk' => ?_))
    have I2 : Inv X ((f, of) :: pins) σ H { s with heap := h', toks := tk' } := I.turned (it := it) (fun b o hb' e => hk' b o (fun z => hb' (List.mem_singleton.mp z)) e) fp.1 fp.2.1 fp.2.2.2.1 fp.2.2.2.2.1 fp.2.2.2.2.2
    have ho2 : h'.get? S = some { cls := .type "list", data := .seq [ub, uv].toArray n } := hk' S _ (fun z => by
      have z := List.mem_singleton.mp z
      have q := fp.1
      rw [← z, hb] at q
      cases q) ho
    show wpAny _ X.A.in1 (updateSeq S (fun _ => #[]) >>= _) _ _ _
    refine wpAny_bind (wpAny_updateSeq ho2 rfl (wpAny_bind (wpAny_letGo (wpAny_pure ?_))))
    have I3 := I2.lset (ys := []) (its' := []) (f := fun _ => #[]) (t' := tk') hb ho2 rfl .nil (Nat.zero_le _)
    exact hR b ub _ _ bm r1 (extN_mut ext hS) (tabs_upd tab hb) I3
  | succ r ih =>
    intro i H s hr hi M
    have hlt : i < ns.length := by omega
    obtain ⟨I, ext, tab, hit, fp, best⟩ := M
    obtain ⟨its, rv, pt, hz⟩ := I.tuple (extN_t ext hp)
    have hlen := rv.length
    have hne2 : p ≠ it := fun z => by
      obtain ⟨o, e1, c1, _⟩ := pt
      obtain ⟨o', e2, c2, _⟩ := hit
      rw [z, e2] at e1
      cases e1
      rw [c2] at c1
      exact absurd (Value.type.inj c1) (by decide)
    have hSn : ∃ ys, H S = some (.lst ys) := by
      rcases best with ⟨_, e⟩ | ⟨_, b, v, e, _⟩
      · exact ⟨_, e⟩
      · exact ⟨_, e⟩
    have nSit : S ≠ it := by
      obtain ⟨ys, e⟩ := hSn
      exact ne_of_none e fp.1
    have W := Walks.tuple (prog := X.prog) (w := X.w) (A := X.A.in1) hA it p hne2 its.toArray
    have nfs : it ∉ frs X.stack := fun z => (List.mem_cons.mp (I.stkSub it z)).elim fp.2.1 fp.2.2.1
    obtain ⟨n, hn⟩ : ∃ n, ns[i]? = some n := ⟨_, List.getElem?_eq_getElem hlt⟩
    have hmem : n ∈ ns := List.mem_of_getElem? hn
    obtain ⟨v0, hv0, rv0⟩ := rv.get (show (ns.map V.int)[i]? = some (V.int n) by rw [List.getElem?_map, hn]; rfl)
    have turn : ∀ (its0 : Option (Array Value)) (K : Option (Array Value) → Except Value (Option Value) → Sem Unit), True := fun _ _ => trivial
    have go : ∀ (h' : Heap) (tk' : Nat), (h'.IsTupleIter it p (i + 1)) → (∀ b o, b ∉ [it] → s.heap.get? b = some o → h'.get? b = some o) → ∀ (QQ : Value → Shared → Prop),
        (∀ (x kv : Value) (v' : V) (H3 : Hp) (s3 : Shared), Inv X ((f, of) :: pins) σ H3 s3 → RelV v' x → IsPr H3 v' → Same H H3 → s3.heap.IsTupleIter it p (i + 1) → FpOk X ((f, of) :: pins) H3 it → QQ x s3) →
        wpAny (model X.prog X.w) X.A.in1 (call (.ref f) [v0]) QQ (fun _ _ => False) { s with heap := h', toks := tk' } := by
      intro h' tk' hit' hk' QQ hQQ
      have I2 : Inv X ((f, of) :: pins) σ H { s with heap := h', toks := tk' } := I.turned (it := it) (fun b o hb' e => hk' b o (fun z => hb' (List.mem_singleton.mp z)) e) fp.1 fp.2.1 fp.2.2.2.1 fp.2.2.2.2.1 fp.2.2.2.2.2
      refine wpAny_call (codeAny_mono (key n v0 H _ hmem rv0 ext tab I2) fun rr s'' hq => ?_)
      cases rr with
      | error e =>
        obtain ⟨a, B, H', cls, d, _, _, _, _, _, _, _, hE⟩ := (show L2.CX X.prog X.w X.stack H _ E0 e s'' from hq)
        exact (show False from hE).elim
      | ok fl =>
        cases fl with
        | ret x =>
          obtain ⟨kv, H3, osz, bare, un, hok, rk, pr, sm⟩ := (show CE X.stack X.prog X.w H _ _ x s'' from hq)
          obtain ⟨v3, H4, I3, rk3, e1, e2⟩ := I2.after (Q := fun v H' => v = kv ∧ H' = H3) ⟨kv, H3, osz, bare, un, hok, rk, rfl, rfl⟩
          subst e1 e2
          obtain ⟨oI, e, c, d⟩ := id hit'
          refine hQQ x x v3 H4 s'' I3 rk pr sm ⟨oI, un.keep it oI e fp.1 nfs (by simp), c, d⟩ ⟨un.free it oI e fp.1 (by simp), fp.2⟩
        | next => exact False.elim hq
        | brk => exact False.elim hq
        | cont => exact False.elim hq
    have hsz : its.toArray.size = ns.length := by
      rw [List.size_toArray]
      simpa using hlen.symm
    -- the end of a turn: the list S holds n and its key now
    have put : ∀ (x : Value) (v' : V) (H3 : Hp) (s3 : Shared) (bs : List Value) (m : Nat), Inv X ((f, of) :: pins) σ H3 s3 → RelV v' x → IsPr H3 v' → Same H H3 → s3.heap.IsTupleIter it p (i + 1) → FpOk X ((f, of) :: pins) H3 it →
        (∃ ys, H3 S = some (.lst ys)) → s3.heap.get? S = some { cls := .type "list", data := .seq bs.toArray m } →
        codeAny (model X.prog X.w) X.A (.builtin "min.loop" ⟨[.ref it, .ref f, .ref S], []⟩) R { s3 with heap := s3.heap.update S (Obj.mapSeq fun _ => #[v0, x]) } := by
      intro x v' H3 s3 bs m I3 rk pr sm hit3 fp3 hS3 ho3
      obtain ⟨ys, hS3⟩ := hS3
      have I4 := I3.lset (ys := [.int n, v']) (its' := [v0, x]) (f := fun _ => #[v0, x]) (t' := s3.toks) hS3 ho3 rfl (.cons rv0 (.cons rk .nil)) (show 2 ≤ sizeLine by decide)
      refine ih (i + 1) (upd H3 S (.lst [.int n, v'])) _ (by omega) hlt ⟨I4, extN_mut (ext.trans (.of sm)) hS, tabs_upd (tab.ext sm) hS3, ?_, fp_upd fp3 hS3, .inr ⟨by omega, n, v', upd_same, hmem, isPr_upd pr hS3⟩⟩
      obtain ⟨oI, e, c, d⟩ := id hit3
      exact ⟨oI, (Heap.get?_update_other s3.heap _ nSit).trans e, c, d⟩
    refine codeAny_builtin PySem.F.entry_min_loop ?_
    rw [Around.under_plainId PySem.F.plain_min_loop _]
    show wpAny _ X.A.in1 (seqItems? (.ref S) >>= _) _ _ _
    rcases best with ⟨e0, hb⟩ | ⟨_, b, kb, hb, bm, pr⟩
    · obtain ⟨bs, m, rb, ho, _⟩ := I.lst hb
      cases rb
      refine wpAny_bind (wpAny_seqItems ho rfl ?_)
      show wpAny _ X.A.in1 (tryCatch (pyNext (.ref it)) _ >>= _) _ _ _
      refine wpAny_bind (wpAny_tryCatch (W.item i _ _ _ (by rw [hsz]; exact hlt) ⟨hit, pt⟩ fun v h' tk' hP hst' hk' => ?_))
      have ev : v0 = v := Option.some.inj (hv0.symm.trans (by simpa using hP))
      subst ev
      show wpAny _ X.A.in1 (tryCatch (holding [v0] (call (.ref f) [v0])) _ >>= _) _ _ _
      refine wpAny_bind (wpAny_tryCatch (wpAny_holding (wpAny_mono (go h' tk' hst'.1 hk' _ fun x _ v' H3 s3 I3 rk pr sm hit3 fp3 => ?_) (fun _ _ hF => hF) fun _ _ hF => hF.elim)))
      obtain ⟨bs, m, rb, ho3, hz3⟩ := I3.lst (sm _ _ hb)
      show wpAny _ X.A.in1 (updateSeq S (fun _ => #[v0, x]) >>= _) _ _ _
      refine wpAny_bind ?_
      refine wpAny_updateSeq ho3 rfl ?_ (hz := by rw [List.size_toArray, ← rb.length]; exact hz3)
      rw [hname]
      exact wpAny_pure ⟨plainId_quiet PySem.F.plain_min_loop _, put x v' H3 s3 bs m I3 rk pr sm hit3 fp3 ⟨_, sm _ _ hb⟩ ho3⟩
    · obtain ⟨bs, m, rb, ho, _⟩ := I.lst hb
      obtain ⟨ub, uv, rfl, r1, r2⟩ := Vals.two rb
      refine wpAny_bind (wpAny_seqItems ho rfl ?_)
      show wpAny _ X.A.in1 (tryCatch (pyNext (.ref it)) _ >>= _) _ _ _
      refine wpAny_bind (wpAny_tryCatch (W.item i _ _ _ (by rw [hsz]; exact hlt) ⟨hit, pt⟩ fun v h' tk' hP hst' hk' => ?_))
      have ev : v0 = v := Option.some.inj (hv0.symm.trans (by simpa using hP))
      subst ev
      show wpAny _ X.A.in1 (tryCatch (holding [v0] (call (.ref f) [v0])) _ >>= _) _ _ _
      refine wpAny_bind (wpAny_tryCatch (wpAny_holding (wpAny_mono (go h' tk' hst'.1 hk' _ fun x _ v' H3 s3 I3 rk pr3 sm hit3 fp3 => ?_) (fun _ _ hF => hF) fun _ _ hF => hF.elim)))
      have pr' := pr.same sm
      obtain ⟨t1, a1, b1, e1, q1⟩ := pr3
      obtain ⟨t2, a2, b2, e2, q2⟩ := pr'
      subst e1 e2
      cases (show x = Value.ref t1 from rk)
      cases (show uv = Value.ref t2 from r2)
      obtain ⟨j1, rr1, p1, _⟩ := I3.tuple (SqT.of (K := X.K) q1)
      obtain ⟨j2, rr2, p2, _⟩ := I3.tuple (SqT.of (K := X.K) q2)
      have i1 : IntsAre j1.toArray.toList [a1, b1] := intsAre_of rr1
      have i2 : IntsAre j2.toArray.toList [a2, b2] := intsAre_of rr2
      show wpAny _ X.A.in1 (tryCatch (holding [v0, .ref t1] (compareOp .Lt (.ref t1) (.ref t2) >>= _)) _ >>= _) _ _ _
      refine wpAny_bind (wpAny_tryCatch (wpAny_holding (wpAny_bind (HT.lt_tupInts p1 p2 i1 i2 ?_ ?_))))
      · exact hu
      refine wpAny_bind (wpAny_holding (wpAny_truthy_bool ?_))
      refine wpAny_bind (wpAny_letGo (wpAny_pure ?_))
      by_cases hlt2 : HT.lexLt [a1, b1] [a2, b2] = true
      · rw [hlt2]
        obtain ⟨bs, m, rb, ho3, hz3⟩ := I3.lst (sm _ _ hb)
        refine wpAny_bind ?_
        refine wpAny_updateSeq ho3 rfl (wpAny_bind (wpAny_letGo ?_)) (hz := by rw [List.size_toArray, ← rb.length]; exact hz3)
        rw [hname]
        exact wpAny_pure ⟨plainId_quiet PySem.F.plain_min_loop _, put _ _ H3 s3 bs m I3 rk ⟨t1, a1, b1, rfl, q1⟩ sm hit3 fp3 ⟨_, sm _ _ hb⟩ ho3⟩
      · rw [Bool.eq_false_iff.mpr hlt2]
        refine wpAny_bind (wpAny_letGo ?_)
        rw [hname]
        exact wpAny_pure ⟨plainId_quiet PySem.F.plain_min_loop _, ih (i + 1) H3 s3 (by omega) hlt ⟨I3, ext.trans (.of sm), tab.ext sm, hit3, fp3, .inr ⟨by omega, b, _, sm _ _ hb, bm, ⟨t2, a2, b2, rfl, q2⟩⟩⟩⟩
end
end K7
/-! min(e, key=lambda a: ..) as an expression -/
namespace K7
open PySem PySem.Spec PyProof.Rows L2
open LamX (Tabs TabS TabB ExtN CodeO lamEnv)
/-- the reading: te makes a tuple of ints, the key of each is a pair; an item comes back -/
def tMinKey (K : PySem.W.Frag) (TT : List (Addr × Str)) (te tb : TE) : TE := fun σ H Q => te σ H fun x H1 => ∃ (p : Addr) (ns : List Int), x = .ref p ∧ SqT K H1 p (ns.map V.int) ∧ 0 < ns.length ∧ Tabs TT H1 ∧
  ∀ n ∈ ns, ∀ H2, ExtN H1 H2 → Tabs TT H2 → tb (σ ++ [some (.int n)]) H2 (fun v H' => IsPr H' v ∧ Same H2 H') ∧ Q (.int n) H2
section
variable {X : Cx}
theorem pe_minKey {TT : List (Addr × Str)} {a : Str} {c P : Addr} {k : Nat} {e : Expr} {params : Arguments} {body : Expr} {scope : Scope} {te tb : TE} {p lpos pos kpos : Pos} (hg : Gl X "min") (hm : X.mg "min" = none)
    (TB : TabB X.base X.mg c P) (hcode : X.env.code = .ref c) (hmT : (P, X.env.qual ++ "<lambda>") ∈ TT) (hu : ∀ p ∈ TT, p.1 = P → p.2 = X.env.qual ++ "<lambda>") (hr : Room (k + 2) X.A) (hst : X.stack = X.env :: X.outer ∧ X.env.frame = some X.env.locals)
    (L : Lam1 X.N X.env.scope scope a) (hdef : defaultsOf params X.env = ([], []))
    (hbind : ∀ (q : Str) (cl : List (Str × Addr)) (pm cv ctv u : Value), bindArgs (PySem.W.kla_fn "<lambda>" q params body scope cl pm cv ctv) ⟨[u], []⟩ = pure [(a, u)])
    (he : PE X e te) (hbody : ∀ (s : Shared) (H : Hp) (f c' : Addr), Room k (X.A.in1.deeper (lamEnv X scope s.heap.objs.size f c')) → PE (lamCx1 X X.A.in1 X.stack s H E0 scope a f c') body tb)
    (hse : backTo pos (starEach [e] X.env) = (false, eval e X.env) :: backTo pos (starEach [] X.env) := by rfl) (hpl : (backTo pos (starEach [e] X.env)).any (·.1) = false := by rfl)
    (hkw : backToKw pos (keywordEach [⟨some "key", .Lambda params body scope lpos, kpos⟩] X.env) = [(some ("key" : Str), do let v ← eval (.Lambda params body scope lpos) X.env; standAt pos; pure v)] := by rfl) :
    PE X (.Call (.Name "min" p) [e] [⟨some "key", .Lambda params body scope lpos, kpos⟩] pos) (tMinKey X.K TT te tb) := by
  refine ⟨fun pins s σ H Q I h => ?_⟩
  refine wpAny_Call_Name_kw (ld_blt (u := .builtin "min") I hg hm (by decide +kernel) ?_ (by decide) (by decide))
  refine PyProof.Rows.callWith_kw (s := s) ?_ hse hpl (by rw [hkw]; rfl) (by rw [hkw]; rfl)
  rw [hse]
  refine Calls.spliced_cons (thn (he.run pins s σ H _ I h) fun v0 s1 ⟨x, H1, I1, r1, q1⟩ => ?_)
  obtain ⟨pt, ns, ex, hp, hne, hT, hb⟩ := q1
  subst ex
  cases (show v0 = Value.ref pt from r1)
  refine Calls.spliced_nil ?_
  rw [hkw]
  refine wpAny_evalAll_cons (wpAny_bind (LamX.lam_make2 I1 TB hcode hmT hu hT hdef (L.has I.ok) fun f c' pm' ctv H2 s2 I2 eN T2 hf hfn hfr hco => wpAny_bind (wpAny_standAt (wpAny_pure ?_))))
  refine wpAny_evalAll_nil ?_
  show wpAny _ _ (call (.builtin "min") [.ref pt] [(Str.ofString "key", .ref f)]) _ _ s2
  have nfs : f ≠ X.env.locals ∧ f ∉ X.fs := by
    have e : frs X.stack = X.env.locals :: X.fs := by
      rw [hst.1]
      show List.filterMap _ (X.env :: X.outer) = _
      rw [List.filterMap_cons, hst.2]
      rfl
    rw [e] at hfr
    exact ⟨fun z => hfr (by rw [z]; exact List.mem_cons_self), fun z => hfr (List.mem_cons_of_mem _ z)⟩
  have I3 : Inv X ((f, _) :: pins) σ H2 s2 := I2.pins_of fun q hq => by
    rcases List.mem_cons.mp hq with e | hq
    · rw [e]
      exact ⟨hf, hfn, nfs.1, nfs.2, fun v z => nomatch z⟩
    · exact I2.pin q (List.mem_append_right _ hq)
  have hname : (toString "min" ++ toString ".loop" : String) = "min.loop" := by decide
  have hp2 := extN_t eN hp
  obtain ⟨its, rv, ht, hz⟩ := I3.tuple hp2
  refine PyProof.Rows.kmk_tree PySem.F.kind_min PySem.F.plain_min PySem.F.entry_min (min_argsOk _ _) ?_
  show wpAny _ X.A.in1 (Builtin.Builtins.bindParams "min" ["key", "default"] 0 ⟨[], [(Str.ofString "key", .ref f)]⟩ >>= _) _ _ s2
  refine wpAny_bind (wpAny_of_eq (show Builtin.Builtins.bindParams "min" ["key", "default"] 0 ⟨[], [(Str.ofString "key", .ref f)]⟩ = pure [some (.ref f), none] from rfl) ?_)
  refine wpAny_bind (wpAny_pure ?_)
  refine wpAny_bind (wpAny_pyIter_tuple ht ?_)
  refine wpAny_bind (wpAny_newList ?_ (Nat.zero_le _))
  rw [hname]
  have hsz : (s2.heap.push { cls := .type "tuple_iterator", data := .fields #[.ref pt, .int 0 0] }).objs.size = s2.heap.objs.size + 1 := size_push' ..
  have I4 : Inv X ((f, _) :: pins) σ H2 { s2 with heap := s2.heap.push { cls := .type "tuple_iterator", data := .fields #[.ref pt, .int 0 0] } } := I3.kept (t' := s2.toks) fun b u e => Heap.get?_push_of_some _ e
  have nS : H2 (s2.heap.push { cls := .type "tuple_iterator", data := .fields #[.ref pt, .int 0 0] }).objs.size = none := I4.fresh
  have nIt : H2 s2.heap.objs.size = none := I3.fresh
  have I5 := I4.lnew (ys := []) (its := []) (t' := s2.toks) .nil (Nat.zero_le _)
  have gI : ((s2.heap.push { cls := .type "tuple_iterator", data := .fields #[.ref pt, .int 0 0] }).push (seqObj "list" #[] 0)).get? s2.heap.objs.size = some { cls := .type "tuple_iterator", data := .fields #[.ref pt, .int 0 0] } :=
    Heap.get?_push_of_some _ (Heap.get?_push_size _ rfl)
  have eT : Tabs TT (upd H2 (s2.heap.push { cls := .type "tuple_iterator", data := .fields #[.ref pt, .int 0 0] }).objs.size (.lst [])) := T2.ext (same_new nS)
  refine wpAny_pure ⟨plainId_quiet PySem.F.plain_min_loop _, ?_⟩
  refine mn_loop (Hb := H2) (p := pt) (ns := ns) (TT := TT) (pins := pins) (σ := σ) (f := f) hr.hd (hr.in1).units0 hp2 nS hne ?_ ?_ ns.length 0 _ _ (by simp) (Nat.zero_le _) ⟨I5, ExtN.of (same_new nS), eT, ⟨_, gI, rfl, rfl⟩, ?_, .inl ⟨rfl, upd_same⟩⟩
  · intro n u HH ss hn ru ex tt II
    obtain ⟨q1, q2⟩ := hb n hn HH (eN.trans ex) tt
    have g : ss.heap.get? f = some (PySem.W.kla_obj "<lambda>" (X.env.qual ++ "<lambda>") params body scope (cloFrom X.env.cells scope.names []) pm' c' ctv) := (II.pin (f, _) (List.mem_append_right _ List.mem_cons_self)).1
    exact lam_run (E := E0) (v := .int n) (u := u) (unpin1 II) L II.env0.in1 Un.refl hr.in1 g (ex _ _ hco fun ps z => by unfold CodeO at z; cases z) (hbind _ _ _ _ _ _) ru (hbody ss HH f c' (hr.in1.deeper _)) q1
  · intro n u HH ss hn ru ex tt II
    exact ⟨.int n, HH, unpin1 II, ru, (hb n hn HH (eN.trans ex) tt).2⟩
  · exact I3.fpOk (Nat.le_refl _) (by rw [upd_ne (by rw [hsz]; exact Nat.ne_of_lt (Nat.lt_succ_self _))]; exact nIt)
end
end K7
/-! calls: by name, with keywords, of classmethods; what an odd value is -/
namespace K7
open PySem PySem.Spec PyProof.Rows L2
open LamX (Tabs TabS TabB ExtN CodeO lamEnv)
abbrev LC (w : World) : CXT := L2.CX Pr w
section
variable {w : World} {K : PySem.W.Frag} {mg : Str → Option Value} {base : Heap}
/-- the promise of a def without defaults, by its body -/
theorem fnr_of {x qual : Str} {params : Arguments} {body : List Stmt} {scope : Scope} {f : Addr} {fd : FuncData} {N ps : List Str} {k : Nat} {sp : Sp} (F : FunD K x qual params body scope [] [] f fd)
    (h : ∀ (kV doc pm : Value) (an : Option Addr) (cdv ct : Value) (us : List Value), us.length = ps.length → bindArgs (PySem.W.fnOf x qual params body scope .none kV doc pm an cdv ct) ⟨us, []⟩ = pure (ps.zip us))
    (S : FnScope N ps scope) (len : ∀ vs H Q E, sp vs H Q E → vs.length = ps.length)
    (hbody : ∀ (cdv : Value) (A : Around) (outer : List Env) (s : Shared) (H : Hp) (vs : List V) (Q : VK) (E : XK), Room k (A.deeper (envOfC qual scope s.heap.objs.size f cdv)) → sp vs H Q E →
      ∃ t, PSs (cxOf (LC w) Pr w K mg base N qual scope f cdv A outer s H E) body t ∧ t { nx := fun _ H' => Q .non H', rt := Q } (start N vs) H) : FnR Pr w K mg base (LC w) (k + 1) f sp :=
  ((FunD.ok (CX := LC w) F S len hbody).raw (F.bindsN h) .nil).imp fun vs H Q E q => by rw [List.append_nil]; exact q
/-- a promise with keywords: the values in the parameters' order -/
def FnK (P : Program) (w : World) (K : PySem.W.Frag) (mg : Str → Option Value) (base : Heap) (CX : CXT) (k : Nat) (f : Addr) (n : Nat) (ks : List Str) (sp : Sp) : Prop :=
  ∀ (A : Around) (outer : List Env) (s : Shared) (H : Hp) (us ws : List Value) (vs zs : List V) (Q : VK) (E : XK), Room k A → Env0 P w K mg base A outer s H → Vals vs us → Vals zs ws → vs.length = n → zs.length = ks.length → sp (vs ++ zs) H Q E →
    codeAny (model P w) A (.call (.ref f) ⟨us, ks.zip ws⟩) (CR CX outer P w H s Q E) s
theorem fnk_of {x qual : Str} {params : Arguments} {body : List Stmt} {scope : Scope} {f : Addr} {fd : FuncData} {N ps ks : List Str} {n k : Nat} {sp : Sp} {kws : List (Str × V)} (F : FunD K x qual params body scope [] kws f fd) (hk : kws ≠ [])
    (h : ∀ (D : Addr) (doc pm : Value) (an : Option Addr) (cdv ct : Value) (us ws : List Value), us.length = n → ws.length = ks.length → bindArgs (PySem.W.fnOf x qual params body scope .none (.ref D) doc pm an cdv ct) ⟨us, ks.zip ws⟩ = pure (ps.zip (us ++ ws)))
    (S : FnScope N ps scope) (len : ∀ vs H Q E, sp vs H Q E → vs.length = ps.length)
    (hbody : ∀ (cdv : Value) (A : Around) (outer : List Env) (s : Shared) (H : Hp) (vs : List V) (Q : VK) (E : XK), Room k (A.deeper (envOfC qual scope s.heap.objs.size f cdv)) → sp vs H Q E →
      ∃ t, PSs (cxOf (LC w) Pr w K mg base N qual scope f cdv A outer s H E) body t ∧ t { nx := fun _ H' => Q .non H', rt := Q } (start N vs) H) :
    (∃ mv : List Value, KBn K fd ps n ks (fun us ws => us ++ ws) (fun vs zs => vs ++ zs)) ∧ FnOk Pr w K mg base (LC w) (k + 1) f fd ps sp ∧ FnK Pr w K mg base (LC w) (k + 1) f n ks sp := by
  obtain ⟨mv, B⟩ := F.kbinds0 n ks [] (fun us _ ws => us ++ ws) hk (fun q hq => absurd hq (by simp)) (fun a _ c => a.append c) fun D doc pm an cdv ct us mv ws l1 l2 l3 => by
    have e : mv = [] := List.length_eq_zero_iff.mp l2
    subst e
    exact h D doc pm an cdv ct us ws l1 l3
  have O := FunD.ok (CX := LC w) F S len hbody
  refine ⟨⟨mv, B⟩, O, fun A outer s H us ws vs zs Q E hr e0 r rz l1 l2 hs => ?_⟩
  exact O.run A outer s H ⟨us, ks.zip ws⟩ (us ++ ws) (vs ++ zs) Q E hr e0 (B.to s us ws (e0.mod.kin.keeps fun b o e => (e0.bs b o e).1) (r.length.symm.trans l1) (rz.length.symm.trans l2)) (r.append rz) hs
end
section
variable {X : Cx} {CX : CXT} {k : Nat} {g C : Addr} {sp : Sp} {E : XK} {x : Str} {p pos : Pos} {e : Expr} {es : List Expr} {t : TA}
def tCl (sp : Sp) (E : XK) (t : TA) : TE := fun σ H Q => t σ H fun vs H1 => sp vs H1 Q E
/-- f(e, ..), f a def of the module at g -/
theorem pe_cl (F : FnR X.prog X.w X.K X.mg X.base CX k g sp) (hr : Room k X.A) (hg : Gl X x) (hm : X.mg x = some (.ref g)) (hk : PySem.W.keepIn X.K (.ref g) = true) (hx : Passes CX X E) (ha : PA X (e :: es) t) (hdb : (x == ("__debug__" : Str)) = false := by decide)
    (he : starEach (e :: es) X.env = (false, eval e X.env) :: starEach es X.env := by rfl) (hpl : (backTo pos (starEach es X.env)).any (·.1) = false := by rfl) : PE X (.Call (.Name x p) (e :: es) [] pos) (tCl sp E t) := by
  refine ⟨fun pins s σ H Q I h => ?_⟩
  refine wpAny_Call_Name_kw (ld_glob I hg hm ?_ hdb)
  refine PySem.W.callWith_K (h₀ := X.base) I.ok.mod.kin hk (thn (ha.run pos pins s σ H _ I h) fun us s1 ⟨vs, H1, I1, r, q⟩ => ⟨I1.kIn, ?_⟩) he hpl
  exact wpAny_call (run_fnR F hr hx I1 r q)
/-- the callee runs, called with keywords -/
theorem run_fnK {pins : List (Addr × Obj)} {σ : L2.St} {H : Hp} {s : Shared} {n : Nat} {ks : List Str} {Q : VK} {us ws : List Value} {vs zs : List V} (F : FnK X.prog X.w X.K X.mg X.base CX k g n ks sp) (hr : Room k X.A) (hx : Passes CX X E) (I : Inv X pins σ H s)
    (r : Vals vs us) (rz : Vals zs ws) (l1 : vs.length = n) (l2 : zs.length = ks.length) (h : sp (vs ++ zs) H Q E) :
    codeAny (model X.prog X.w) X.A (.call (.ref g) ⟨us, ks.zip ws⟩) (fun r s' => match r with | .ok (.ret v) => EP X pins σ Q v s' | .ok _ => False | .error e => X.xe e s') s := by
  refine codeAny_mono (F X.A X.stack s H us ws vs zs Q E hr I.env0 r rz l1 l2 h) fun r s' hq => ?_
  cases r with
  | error e => exact hx pins σ H s e s' I hq
  | ok fl =>
    cases fl with
    | ret u => exact I.after hq
    | next => exact False.elim hq
    | brk => exact False.elim hq
    | cont => exact False.elim hq
def tClK (n m : Nat) (sp : Sp) (E : XK) (t tk : TA) : TE := fun σ H Q => t σ H fun vs H1 => tk σ H1 fun zs H2 => vs.length = n ∧ zs.length = m ∧ sp (vs ++ zs) H2 Q E
variable {n : Nat} {ks : List Str} {kws : List Keyword} {tk : TA}
/-- f(e, .., k = v) -/
theorem pe_clK (F : FnK X.prog X.w X.K X.mg X.base CX k g n ks sp) (hr : Room k X.A) (hg : Gl X x) (hm : X.mg x = some (.ref g)) (hk : PySem.W.keepIn X.K (.ref g) = true) (hx : Passes CX X E) (ha : PA X (e :: es) t) (hkw : PK X kws tk)
    (hall : (backToKw pos (keywordEach kws X.env)).all (·.1.isSome) = true := by rfl) (hks : (backToKw pos (keywordEach kws X.env)).filterMap (·.1) = ks := by rfl) (hdb : (x == ("__debug__" : Str)) = false := by decide)
    (he : starEach (e :: es) X.env = (false, eval e X.env) :: starEach es X.env := by rfl) (hpl : ((backTo pos (starEach (e :: es) X.env)).any (·.1) || (backToKw pos (keywordEach kws X.env)).any (·.1.isNone)) = false := by rfl) :
    PE X (.Call (.Name x p) (e :: es) kws pos) (tClK n ks.length sp E t tk) := by
  refine ⟨fun pins s σ H Q I h => ?_⟩
  refine wpAny_Call_Name_kw (ld_glob I hg hm ?_ hdb)
  refine PySem.W.callWith_KW (h₀ := X.base) I.ok.mod.kin hk hall (thn (ha.run pos pins s σ H _ I h) fun us s1 ⟨vs, H1, I1, r, q⟩ => ?_) hpl he
  refine thn (hkw.run pos pins s1 σ H1 _ I1 q) fun ws s2 ⟨zs, H2, I2, rz, l1, l2, q2⟩ => ⟨I2.kIn, ?_⟩
  rw [hks]
  exact wpAny_call (run_fnK F hr hx I2 r rz l1 l2 q2)
/-- x(e, .., k = v), x a local name that holds the class at C -/
def tMakeKV (C : Addr) (n m : Nat) (sp : Sp) (E : XK) (te : TE) (t tk : TA) : TE := fun σ H Q => te σ H fun y H0 => y = .ref C ∧ t σ H0 fun vs H1 => tk σ H1 fun zs H2 => vs.length = n ∧ zs.length = m ∧ ∀ x dx, H2 x = none → H2 dx = none → dx ≠ x →
  sp ((.ref x :: vs) ++ zs) (upd (upd H2 dx (.own x)) x (.ins C dx [])) (fun v H3 => v = .non ∧ Q (.ref x) H3) E
theorem pe_makeKV {f : Addr} {fd : FuncData} {ps : List Str} {te : TE} (M : Mk X.K C f) (F : FnOk X.prog X.w X.K X.mg X.base CX k f fd ps sp) (hr : Room (k + 1) X.A) (hn : PE X (.Name x p) te) (hb : KBn X.K fd ps (n + 1) ks (fun us ws => us ++ ws) (fun vs zs => vs ++ zs)) (hx : Passes CX X E)
    (ha : PA X (e :: es) t) (hkw : PK X kws tk) (hall : (backToKw pos (keywordEach kws X.env)).all (·.1.isSome) = true := by rfl) (hks : (backToKw pos (keywordEach kws X.env)).filterMap (·.1) = ks := by rfl)
    (he : starEach (e :: es) X.env = (false, eval e X.env) :: starEach es X.env := by rfl) (hpl : ((backTo pos (starEach (e :: es) X.env)).any (·.1) || (backToKw pos (keywordEach kws X.env)).any (·.1.isNone)) = false := by rfl) :
    PE X (.Call (.Name x p) (e :: es) kws pos) (tMakeKV C n ks.length sp E te t tk) := by
  refine ⟨fun pins s σ H Q I h => ?_⟩
  refine wpAny_Call_Name_kw (thn (hn.run pins s σ H _ I h) fun u s0 ⟨y, H0, I0, ry, ey, q0⟩ => ?_)
  subst ey
  cases (show u = Value.ref C from ry)
  refine PySem.W.callWith_KW (h₀ := X.base) I.ok.mod.kin M.kp hall (thn (ha.run pos pins s0 σ H0 _ I0 q0) fun us s1 ⟨vs, H1, I1, r, q⟩ => ?_) hpl he
  refine thn (hkw.run pos pins s1 σ H1 _ I1 q) fun ws s2 ⟨zs, H2, I2, rz, l1, l2, q2⟩ => ⟨I2.kIn, ?_⟩
  rw [hks]
  exact run_makeK M F hr hb hx I2 r rz l1 l2 q2
/-- C.m(e, .., k = v), m a classmethod of the class at C -/
def tCMethK (C : Addr) (n m : Nat) (sp : Sp) (E : XK) (te : TE) (t tk : TA) : TE := fun σ H Q => te σ H fun y H0 => y = .ref C ∧ t σ H0 fun vs H1 => tk σ H1 fun zs H2 => vs.length = n ∧ zs.length = m ∧ sp ((.ref C :: vs) ++ zs) H2 Q E
theorem pe_cmethK {q' f' : Addr} {mc : Value} {m : Str} {o : Expr} {to : TE} {apos : Pos} {pl : Sem Bool} (he : PE X o to) (r : ClX.CRead X.K C mc) (c : ClX.CMet X.K C mc m q' f') (F : FnK X.prog X.w X.K X.mg X.base CX k f' (n + 1) ks sp) (hr : Room k X.A) (hx : Passes CX X E)
    (ha : PA X (e :: es) t) (hkw : PK X kws tk) (hall : (backToKw pos (keywordEach kws X.env)).all (·.1.isSome) = true := by rfl) (hks : (backToKw pos (keywordEach kws X.env)).filterMap (·.1) = ks := by rfl)
    (hst : starEach (e :: es) X.env = (false, eval e X.env) :: starEach es X.env := by rfl) (hpl : ((backTo pos (starEach (e :: es) X.env)).any (·.1) || (backToKw pos (keywordEach kws X.env)).any (·.1.isNone)) = false := by rfl)
    (ht : eval (.Call (.Attribute o m apos) (e :: es) kws pos) X.env = (do
      let ov ← eval o X.env
      standAt apos.atName
      let (f, first) ← holding [ov] (getMethod ov m pl)
      callWith pos f first (backTo pos (starEach (e :: es) X.env)) (backToKw pos (keywordEach kws X.env))) := by rfl) :
    PE X (.Call (.Attribute o m apos) (e :: es) kws pos) (tCMethK C n ks.length sp E to t tk) := by
  refine ⟨fun pins s σ H Q I h => ?_⟩
  refine PySem.W.methodCall_KW (pl := pl) (thn (he.run pins s σ H _ I h) fun u s1 ⟨y, H0, I1, rx, ex, q⟩ => ?_) ht
  subst ex
  obtain rfl : u = Value.ref C := rx
  refine ClX.getmethcm_ok I1 r c fun s2 I2 => ?_
  refine PySem.W.callWith_of hpl (PySem.W.keeps_M c.fi) (PyProof.Rows.evalArgs_kw2 hall (thn (ha.run pos _ s2 σ H0 _ I2 q) fun us s3 ⟨vs, H1, I3, rv, q2⟩ => thn (hkw.run pos _ s3 σ H1 _ I3 q2) fun ws s4 ⟨zs, H2, I4, rz, l1, l2, q3⟩ => ⟨⟨ClX.pin_at I4, I4.kIn⟩, ?_⟩) hst)
  rw [hks]
  refine wpAny_mono (wpAny_call (PySem.W.method_call (ClX.pin_at I4) (run_fnK (us := .ref C :: us) (vs := .ref C :: vs) F hr hx I4 (.cons rfl rv) rz (by rw [List.length_cons, l1]) l2 q3))) (fun v s5 hv => ClX.unpinE hv) fun _ _ x => x
end
/-! ### what an odd value is -/
inductive KV
  | non | bl (b : Bool) | int (n : Int) | str (s : Str) | lst (xs : List V) | tup (xs : List V) | dct
/-- a number, a text, True, False, None -/
def flat1 : V → Bool
  | .non => true
  | .bl _ => true
  | .int _ => true
  | .str _ => true
  | _ => false
inductive Kd (K : PySem.W.Frag) (H : Hp) : V → KV → Prop
  | non : Kd K H .non .non
  | bl (b : Bool) : Kd K H (.bl b) (.bl b)
  | int (n : Int) : Kd K H (.int n) (.int n)
  | str (s : Str) : Kd K H (.str s) (.str s)
  | lst {a : Addr} {xs : List V} (h : H a = some (.lst xs)) (f : xs.all flat1 = true) : Kd K H (.ref a) (.lst xs)
  | tup {a : Addr} {xs : List V} (h : SqT K H a xs) (f : xs.all flat1 = true) : Kd K H (.ref a) (.tup xs)
  | dct {a : Addr} {kvs : List (Key × V)} (h : H a = some (.dK kvs)) : Kd K H (.ref a) .dct
theorem Kd.ext {K : PySem.W.Frag} {H H' : Hp} {x : V} {k : KV} (h : Kd K H x k) (e : ExtN H H') : Kd K H' x k := by
  cases h with
  | non => exact .non
  | bl b => exact .bl b
  | int n => exact .int n
  | str s => exact .str s
  | lst h f => exact .lst (e _ _ h fun ps z => nomatch z) f
  | tup h f => exact .tup (extN_t e h) f
  | dct h => exact .dct (e _ _ h fun ps z => nomatch z)
def tyK : KV → String
  | .non => "NoneType" | .bl _ => "bool" | .int _ => "int" | .str _ => "str" | .lst _ => "list" | .tup _ => "tuple" | .dct => "dict"
theorem sqT_ty {K : PySem.W.Frag} {H : Hp} {a : Addr} {xs : List V} (h : SqT K H a xs) : TyX K H (.ref a) (.type "tuple") := by
  rcases h with (h | ⟨o, h⟩) | ⟨o, its, n, hk, hc, hs, hz, r⟩
  · exact .base (.tup h)
  · exact .fTuple h
  · exact .kTuple hk hc
theorem Kd.ty {K : PySem.W.Frag} {H : Hp} {x : V} {k : KV} (h : Kd K H x k) : TyX K H x (.type (tyK k)) := by
  cases h with
  | non => exact .base .non
  | bl b => exact .base (.bl b)
  | int n => exact .base (.int n)
  | str s => exact .base (.str s)
  | lst h f => exact .base (.lst h)
  | tup h f => exact sqT_ty h
  | dct h => exact .base (.dK h)
def isI : KV → Bool
  | .int _ => true | .bl _ => true | _ => false
def isB : KV → Bool
  | .bl _ => true | _ => false
def isS : KV → Bool
  | .lst _ => true | .tup _ => true | _ => false
theorem kitI {K : PySem.W.Frag} (k : KV) : PySem.W.kitOne K (.type (tyK k)) (.type "int") = some (isI k) := by
  cases k with
  | non => exact kit_ty (by decide +kernel : kitB "NoneType" "int" = some false)
  | bl _ => exact kit_ty (by decide +kernel : kitB "bool" "int" = some true)
  | int _ => exact kit_ty (by decide +kernel : kitB "int" "int" = some true)
  | str _ => exact kit_ty (by decide +kernel : kitB "str" "int" = some false)
  | lst _ => exact kit_ty (by decide +kernel : kitB "list" "int" = some false)
  | tup _ => exact kit_ty (by decide +kernel : kitB "tuple" "int" = some false)
  | dct => exact kit_ty (by decide +kernel : kitB "dict" "int" = some false)
theorem kitBo {K : PySem.W.Frag} (k : KV) : PySem.W.kitOne K (.type (tyK k)) (.type "bool") = some (isB k) := by
  cases k with
  | non => exact kit_ty (by decide +kernel : kitB "NoneType" "bool" = some false)
  | bl _ => exact kit_ty (by decide +kernel : kitB "bool" "bool" = some true)
  | int _ => exact kit_ty (by decide +kernel : kitB "int" "bool" = some false)
  | str _ => exact kit_ty (by decide +kernel : kitB "str" "bool" = some false)
  | lst _ => exact kit_ty (by decide +kernel : kitB "list" "bool" = some false)
  | tup _ => exact kit_ty (by decide +kernel : kitB "tuple" "bool" = some false)
  | dct => exact kit_ty (by decide +kernel : kitB "dict" "bool" = some false)
theorem kitL {K : PySem.W.Frag} (k : KV) : PySem.W.kitAny K (.type (tyK k)) [.type "list", .type "tuple"] = some (isS k) := by
  cases k with
  | non => exact kitAny_cons (kit_ty (by decide +kernel : kitB "NoneType" "list" = some false)) (fun _ => kitAny_cons (kit_ty (by decide +kernel : kitB "NoneType" "tuple" = some false)) (fun _ => kitAny_nil) (fun h => nomatch h)) (fun h => nomatch h)
  | bl _ => exact kitAny_cons (kit_ty (by decide +kernel : kitB "bool" "list" = some false)) (fun _ => kitAny_cons (kit_ty (by decide +kernel : kitB "bool" "tuple" = some false)) (fun _ => kitAny_nil) (fun h => nomatch h)) (fun h => nomatch h)
  | int _ => exact kitAny_cons (kit_ty (by decide +kernel : kitB "int" "list" = some false)) (fun _ => kitAny_cons (kit_ty (by decide +kernel : kitB "int" "tuple" = some false)) (fun _ => kitAny_nil) (fun h => nomatch h)) (fun h => nomatch h)
  | str _ => exact kitAny_cons (kit_ty (by decide +kernel : kitB "str" "list" = some false)) (fun _ => kitAny_cons (kit_ty (by decide +kernel : kitB "str" "tuple" = some false)) (fun _ => kitAny_nil) (fun h => nomatch h)) (fun h => nomatch h)
  | lst _ => exact kitAny_cons (kit_ty (by decide +kernel : kitB "list" "list" = some true)) (fun h => nomatch h) (fun _ => rfl)
  | tup _ => exact kitAny_cons (kit_ty (by decide +kernel : kitB "tuple" "list" = some false)) (fun _ => kitAny_cons (kit_ty (by decide +kernel : kitB "tuple" "tuple" = some true)) (fun h => nomatch h) (fun _ => rfl)) (fun h => nomatch h)
  | dct => exact kitAny_cons (kit_ty (by decide +kernel : kitB "dict" "list" = some false)) (fun _ => kitAny_cons (kit_ty (by decide +kernel : kitB "dict" "tuple" = some false)) (fun _ => kitAny_nil) (fun h => nomatch h)) (fun h => nomatch h)
/-- an integer within bounds -/
def isN (k : KV) (lo hi : Int) : Bool := match k with
  | .int n => decide (lo ≤ n) && decide (n ≤ hi)
  | _ => false
end K7
/-! is_number, is_key, check_arms, check_row -/
namespace K7
open PySem PySem.Spec PyProof.Rows L2
open LamX (Tabs TabS TabB ExtN CodeO lamEnv)
section
variable {w : World} {K : PySem.W.Frag} {mg : Str → Option Value} {base : Heap}
theorem kpF {x qual : Str} {params : Arguments} {body : List Stmt} {scope : Scope} {dvs : List V} {kws : List (Str × V)} {f : Addr} (h : ∃ fd, FunD K x qual params body scope dvs kws f fd) : PySem.W.keepIn K (.ref f) = true := by
  obtain ⟨fd, F⟩ := h
  exact F.kp
theorem pe_gi {X : Cx} {x : Str} {n : Int} {pos : Pos} (h : ∃ t, X.mg x = some (.int n t)) (hg : Gl X x) (hd : (x == ("__debug__" : Str)) = false := by decide) : PE X (.Name x pos) (tC (.int n)) := by
  obtain ⟨t, e⟩ := h
  exact pe_glob hg e ⟨t, rfl⟩ hd
/-- what leaves a def at its top -/
theorem pX {A : Around} {outer : List Env} {s : Shared} {H : Hp} {E : XK} {N : List Str} {q : Str} {sc : Scope} {f : Addr} {cd : Value} : Passes (LC w) (cxOf (LC w) Pr w K mg base N q sc f cd A outer s H E) E := passes_call (takes_of rfl rfl rfl rfl) fun _ _ _ _ h => h
theorem sc_is_number : FnScope ["thing", "low", "high"] ["thing", "low", "high"] (defScope s_is_number) := ⟨rfl, rfl, rfl, by decide +kernel, rfl, by decide +kernel, by decide +kernel⟩
def spNum : PySem.W.Frag → Sp := fun K vs H Q E => ∃ x k lo hi, vs = [x, V.int lo, V.int hi] ∧ Kd K H x k ∧ Q (.bl (isN k lo hi)) H
theorem F_is_number (T : TX K mg base) : FnR Pr w K mg base (LC w) 1 (a_is_number K) (spNum K) := by
  obtain ⟨fd, F⟩ := T.f_is_number
  refine fnr_of (ps := ["thing", "low", "high"]) (N := ["thing", "low", "high"]) F (fun _ _ _ _ _ _ us hl => match us, hl with | [_, _, _], _ => rfl) sc_is_number (fun vs H Q E h => by obtain ⟨x, k, lo, hi, rfl, _⟩ := h; rfl) fun cdv A outer s H vs Q E hr h => ?_
  obtain ⟨x, k, lo, hi, rfl, hk, hq⟩ := h
  refine ⟨_, pss_one (ps_ret (pe_and (pe_callB call_isi rfl T.n_isinstance (by decide +kernel) (pa_cons (pv 0) (pa_cons (pe_bltn (v := .ty "int") rfl T.n_int (by decide +kernel) rfl) pa_nil)))
    (pe_and (pe_not (pe_callB call_isi rfl T.n_isinstance (by decide +kernel) (pa_cons (pv 0) (pa_cons (pe_bltn (v := .ty "bool") rfl T.n_bool (by decide +kernel) rfl) pa_nil))))
    (pe_one (pe_chain op_le op_le (pv 1) (pv 0) (pv 2)))))), ?_⟩
  refine ⟨_, rfl, _, _, _, _, _, rfl, .ty "int", hk.ty, kitI k, _, rfl, ?_⟩
  cases hk with
  | int n =>
    refine iteT ⟨_, rfl, _, _, _, _, _, rfl, .ty "bool", (Kd.int (K := K) n).ty, kitBo (.int n), _, rfl, _, rfl, iteT ?_⟩
    refine ⟨_, rfl, _, rfl, _, _, rfl, rfl, _, rfl, ?_⟩
    by_cases h1 : lo ≤ n
    · have e : isN (.int n) lo hi = decide (n ≤ hi) := by simp [isN, h1]
      rw [if_pos (decide_eq_true h1)]
      rw [e] at hq
      exact ⟨_, rfl, _, _, rfl, rfl, hq⟩
    · have e : isN (.int n) lo hi = false := by simp [isN, h1]
      rw [if_neg (by simpa using h1)]
      rw [e] at hq
      exact hq
  | bl b => exact iteT ⟨_, rfl, _, _, _, _, _, rfl, .ty "bool", (Kd.bl (K := K) b).ty, kitBo (.bl b), _, rfl, _, rfl, iteF hq⟩
  | non => exact iteF hq
  | str s => exact iteF hq
  | lst h f => exact iteF hq
  | tup h f => exact iteF hq
  | dct h => exact iteF hq
theorem sc_is_key : FnScope ["thing"] ["thing"] (defScope s_is_key) := ⟨rfl, rfl, rfl, by decide +kernel, rfl, by decide +kernel, by decide +kernel⟩
def spKey : PySem.W.Frag → Sp := fun K vs H Q E => ∃ x k, vs = [x] ∧ Kd K H x k ∧ Q (.bl (isN k (-1000000000) 1000000000)) H
theorem F_is_key (T : TX K mg base) : FnR Pr w K mg base (LC w) 2 (a_is_key K) (spKey K) := by
  obtain ⟨fd, F⟩ := T.f_is_key
  refine fnr_of (ps := ["thing"]) (N := ["thing"]) F (fun _ _ _ _ _ _ us hl => match us, hl with | [_], _ => rfl) sc_is_key (fun vs H Q E h => by obtain ⟨x, k, rfl, _⟩ := h; rfl) fun cdv A outer s H vs Q E hr h => ?_
  obtain ⟨x, k, rfl, hk, hq⟩ := h
  refine ⟨_, pss_one (ps_ret (pe_cl (F_is_number T) hr rfl T.g_is_number (kpF T.f_is_number) pX (pa_cons (pv 0) (pa_cons (pe_un un_neg (pe_gi T.g_MOST_KEY rfl)) (pa_cons (pe_gi T.g_MOST_KEY rfl) pa_nil))))), ?_⟩
  exact ⟨_, rfl, _, rfl, _, _, _, _, rfl, hk, hq⟩
end
end K7
/-! enumerate of a tuple or a list -/
namespace K7
open PySem PySem.Spec PyProof.Rows L2
open LamX (Tabs TabS TabB ExtN CodeO lamEnv)
theorem meets_enumT (t : Addr) (items : Array Value) :
    Meets (Builtin.«enumerate.__new__» ⟨[.type "enumerate", .ref t], []⟩) (fun _ R s => s.heap.IsTuple t items ∧
      R (.ok (.ret (.ref (s.heap.push { cls := .type "tuple_iterator", data := .fields #[.ref t, .int 0 0] }).objs.size)))
        { s with heap := (s.heap.push { cls := .type "tuple_iterator", data := .fields #[.ref t, .int 0 0] }).push { cls := .type "enumerate", data := .fields #[.none, .bool false, .ref s.heap.objs.size, rawInt 0, .none, .none] } }) :=
  .of_wp fun prog w A R s h => by
    obtain ⟨hp, g, d, tk, os⟩ := s
    obtain ⟨hL, h⟩ := h
    have hsub := sub_enumerate
    have q1 : ∀ {A' : Around} {E : Value → Shared → Prop} {Q : Value → Shared → Prop}, Q (.ref hp.objs.size) ⟨hp.push { cls := .type "tuple_iterator", data := .fields #[.ref t, .int 0 0] }, g, d, tk, os⟩ → wpAny (model prog w) A' (pyIter (.ref t)) Q E ⟨hp, g, d, tk, os⟩ :=
      fun q => wpAny_pyIter_tuple hL q
    wp_walk using q1
    refine wpAny_stack_any fun st => wpAny_pure ?_
    split
    · rename_i c _ _ _ _ _
      cases (c == Value.type "enumerate")
      · wp_walk using q1
        exact ⟨_, rfl, h⟩
      · wp_walk using q1
        exact ⟨_, rfl, h⟩
    · wp_walk using q1
      exact ⟨_, rfl, h⟩
theorem call_enumT {prog : Program} {w : World} {A : Around} {E : Value → Shared → Prop} {s : Shared} {t : Addr} {items : Array Value} {Q : Value → Shared → Prop} (hL : s.heap.IsTuple t items)
    (h : ∀ h', IsEnum h' (s.heap.objs.size + 1) s.heap.objs.size 0 .none → h'.IsTupleIter s.heap.objs.size t 0 → h'.objs.size = s.heap.objs.size + 2 →
      (∀ b o, s.heap.get? b = some o → h'.get? b = some o) → Q (.ref (s.heap.objs.size + 1)) { s with heap := h' }) :
    wpAny (model prog w) A (call (.type "enumerate") [.ref t]) Q E s := by
  refine callType_new F.called_enumerate (by decide) (F.typeCall_enumerate_1 _) (F.newCall_enumerate_1 _) (fun obj => F.args_object_init_2 obj _) F.entry_enumerate_new
    (meets_enumT t items) ⟨hL, ?_⟩
  have hz : (s.heap.push { cls := .type "tuple_iterator", data := .fields #[.ref t, .int 0 0] }).objs.size = s.heap.objs.size + 1 := Heap.size_push ..
  show _ ∧ _
  rw [hz]
  have he : IsEnum ((s.heap.push { cls := .type "tuple_iterator", data := .fields #[.ref t, .int 0 0] }).push
      { cls := .type "enumerate", data := .fields #[.none, .bool false, .ref s.heap.objs.size, rawInt 0, .none, .none] }) (s.heap.objs.size + 1) s.heap.objs.size 0 .none := by
    have := Heap.get?_push_size (s.heap.push { cls := .type "tuple_iterator", data := .fields #[.ref t, .int 0 0] })
      (o := { cls := .type "enumerate", data := .fields #[.none, .bool false, .ref s.heap.objs.size, rawInt 0, .none, .none] }) rfl
    rw [hz] at this; exact this
  refine ⟨⟨_, he, rfl⟩, h _ he ⟨_, Heap.get?_push_of_some _ (Heap.get?_push_size _ rfl), rfl, rfl⟩ (by rw [Heap.size_push, hz]) fun b o x => Heap.get?_push_of_some _ (Heap.get?_push_of_some _ x)⟩
/-- the tuple at a, each item in a new pair -/
def IteT (K : PySem.W.Frag) (a : Addr) : It :=
  ⟨fun i H => ∃ (xs : List V) (x : V), SqT K H a xs ∧ xs[i]? = some x, fun i H v H' => ∃ T x, v = .ref T ∧ H T = none ∧ H' = upd H T (.tup [.int (i : Nat), x]) ∧ ∀ xs, SqT K H a xs → xs[i]? = some x, fun i H => ∃ xs : List V, SqT K H a xs ∧ xs.length = i⟩
theorem tup_ne {h : Heap} {t b : Addr} {items : Array Value} {o : Obj} (p : h.IsTuple t items) (e : h.get? b = some o) (c : ∀ n, o.data ≠ .seq items n) : t ≠ b := fun z => by
  obtain ⟨o1, e1, _, n, d⟩ := p
  rw [z, e] at e1
  cases e1
  exact c n d
theorem turn_enumT {P : Program} {w : World} {K : PySem.W.Frag} {elts : List Expr} {kk : Nat} {tpos : Pos} (a e it : Addr) :
    Turn P w K (.Tuple elts kk tpos) (IteT K a) [e, it] e (fun i h => (∃ old, IsEnum h e it ((i : Nat) : Int) old) ∧ h.IsTupleIter it a i ∧ e ≠ it) where
  mem := by simp
  obj := fun i h st b hb => by
    obtain ⟨⟨old, he⟩, ⟨o, ho, hc, hd⟩, _⟩ := st
    have e' : b = e ∨ b = it := by simpa using hb
    rcases e' with z | z
    · rw [z]; exact ⟨_, he, fun v q => nomatch q⟩
    · rw [z]; exact ⟨o, ho, fun v q => by rw [hd] at q; cases q⟩
  keep := fun i h h' st k => let ⟨⟨old, he⟩, hi, hne⟩ := st; ⟨⟨old, k e (by simp) _ he⟩, hi.at fun o q => k it (by simp) o q, hne⟩
  item := by
    intro X hP hw hK hc i pins s σ H E I hf st hg
    subst hP hw hK
    obtain ⟨⟨old, he⟩, hit, hne⟩ := st
    obtain ⟨xs, x, hq, hx⟩ := hg
    obtain ⟨its, rv, p, hz⟩ := I.tuple hq
    obtain ⟨u, hu, ru⟩ := rv.get hx
    have hel : e < s.heap.objs.size := Heap.lt_size he
    have hil : it < s.heap.objs.size := by obtain ⟨_, q, _⟩ := hit; exact Heap.lt_size q
    have nae : a ≠ e := tup_ne p he fun n z => nomatch z
    have nai : a ≠ it := by
      obtain ⟨o, ho, _, hd⟩ := id hit
      exact tup_ne p ho fun n z => by rw [hd] at z; cases z
    have hlt : i < its.toArray.size := by
      obtain ⟨q, _⟩ := List.getElem?_eq_some_iff.mp hu
      simpa using q
    refine wpAny_pyNext_enum_itemD (Draws.tuple (A := X.A.in1) (I.ok.hd hc) it a nai its.toArray) he ⟨hit, p⟩ hlt hne (by simp [hne, Ne.symm nae]) fun x' h' tk hPx ho hst' hT hsz hk => ?_
    have ex : x' = u := by
      have z : its[i]? = some x' := by simpa using hPx
      rw [hu] at z
      exact (Option.some.inj z).symm
    subst ex
    refine ⟨_, rfl, wpAny_letOwnedTupleGo_enum (s := { s with heap := h', toks := tk + 1 }) ho fun h'' he' sb => ?_⟩
    have hT2 : h''.get? s.heap.objs.size = some { cls := .type "tuple", data := .seq #[.int i tk, x'] } := (sb.2 _ (Nat.ne_of_gt hel)).trans hT
    have new : ObjOk X.prog X.w (upd H s.heap.objs.size (.tup [.int (i : Nat), x])) h'' s.heap.objs.size (.tup [.int (i : Nat), x]) :=
      ⟨by show 2 ≤ sizeLine; decide, [.int i tk, x'], .cons ⟨_, rfl⟩ (.cons ru .nil), ⟨_, hT2, rfl, _, rfl⟩⟩
    have I1 : Inv X pins σ (upd H s.heap.objs.size (.tup [.int (i : Nat), x])) { s with heap := h'', toks := tk + 1 } :=
      I.turnedNew (ch := [e, it]) (fun b ob hb q => (sb.2 b (fun z => hb (by simp [z]))).trans (hk b ob (fun z => hb (by simp [z])) (fun z => hb (by simp [z])) q)) hf (Nat.le_refl _) new
    refine ⟨.ref s.heap.objs.size, _, I1, rfl, ⟨_, x, rfl, I.hok.fresh (Nat.le_refl _), rfl, fun ys hy => by rw [I.tuple_inj hy hq]; exact hx⟩, ⟨⟨x', ?_⟩, hst'.1.at fun o q => (sb.2 it (Ne.symm hne)).trans q, hne⟩, fun b hb => ?_⟩
    · have e1 : ((i + 1 : Nat) : Int) = (i : Int) + 1 := by omega
      rw [e1]; exact he'
    · have hb' : b < s.heap.objs.size := by
        have e' : b = e ∨ b = it := by simpa using hb
        rcases e' with z | z
        · rw [z]; exact hel
        · rw [z]; exact hil
      rw [upd_ne (Nat.ne_of_lt hb')]
      exact (hf b hb).1
  done := by
    intro X hP hw hK hc i pins s σ H E I hf st hg
    subst hP hw hK
    obtain ⟨⟨old, he⟩, hit, hne⟩ := st
    obtain ⟨xs, hq, hx⟩ := hg
    obtain ⟨its, rv, p, hz⟩ := I.tuple hq
    obtain ⟨f0, f1, f2, f3, f4, f5⟩ := hf it (by simp)
    have hl := rv.length
    have nai : a ≠ it := by
      obtain ⟨o, ho, _, hd⟩ := id hit
      exact tup_ne p ho fun n z => by rw [hd] at z; cases z
    have ei : its.toArray.size = i := by
      rw [List.size_toArray, ← hl]
      exact hx
    have D := Draws.tuple (prog := X.prog) (w := X.w) (A := X.A.in1) (I.ok.hd hc) it a nai its.toArray
    refine wpAny_pyNext_enum_endD D he ?_ fun h' eb => ⟨rfl, I.turned (t' := s.toks) (fun b o hb q => eb b o hb q) f0 f1 f3 f4 f5⟩
    rw [ei]
    exact ⟨hit, p⟩
  self := fun A i s Q E st h => let ⟨⟨_, he⟩, _⟩ := st; wpAny_pyIter_enum he h
/-- enumerate(e), e a list or a tuple -/
def iEnumS (K : PySem.W.Frag) (ta : TA) : TI := fun σ H R => ta σ H fun vs H1 => ∃ a xs, vs = [.ref a] ∧ ((SqL K H1 a xs ∧ R (Ite K a) H1) ∨ (SqT K H1 a xs ∧ R (IteT K a) H1))
theorem pi_enumS {X : Cx} {e : Expr} {ta : TA} {p pos tpos : Pos} {elts : List Expr} {kk : Nat} (hg : Gl X "enumerate") (hm : X.mg "enumerate" = none) (ha : PA X [e] ta) (hs : starEach [e] X.env = [(false, eval e X.env)] := by rfl) :
    PI X (.Tuple elts kk tpos) (.Call (.Name "enumerate" p) [e] [] pos) (iEnumS X.K ta) := by
  refine ⟨fun pins s σ H R I h => ?_⟩
  refine Call_ (ld_blt I hg hm boot_enumerate (PyProof.Rows.callWith_type1 (thn (ha.run pos pins s σ H _ I h) fun us s1 ⟨vs, H1, I1, r1, q1⟩ => ?_) hs rfl))
  obtain ⟨a, xs, ex, q⟩ := q1
  subst ex
  cases r1 with
  | cons r rr =>
    cases rr
    cases r
    have fr : ∀ b, b ∈ [s1.heap.objs.size + 1, s1.heap.objs.size] → FpOk X pins H1 b := fun b hb => by
      have e' : b = s1.heap.objs.size + 1 ∨ b = s1.heap.objs.size := by simpa using hb
      have hle : s1.heap.objs.size ≤ b := by
        rcases e' with z | z
        · rw [z]; exact Nat.le_add_right _ _
        · rw [z]; exact Nat.le_refl _
      exact I1.fpOk hle (I1.hok.fresh hle)
    rcases q with ⟨hq, q⟩ | ⟨hq, q⟩
    · obtain ⟨its, rv, p', hz⟩ := I1.list hq
      refine call_enumerate_list p'.isList fun h' he hit hsz hk => wpAny_pyIter_enum he ?_
      have I2 : Inv X pins σ H1 { s1 with heap := h' } := I1.kept (t' := s1.toks) hk
      exact ⟨s1.heap.objs.size + 1, [s1.heap.objs.size + 1, s1.heap.objs.size], _, _, H1, rfl, I2, turn_enum a (s1.heap.objs.size + 1) s1.heap.objs.size, ⟨⟨.none, he⟩, hit, Nat.succ_ne_self _⟩, fr, q⟩
    · obtain ⟨its, rv, p', hz⟩ := I1.tuple hq
      refine call_enumT p' fun h' he hit hsz hk => wpAny_pyIter_enum he ?_
      have I2 : Inv X pins σ H1 { s1 with heap := h' } := I1.kept (t' := s1.toks) hk
      exact ⟨s1.heap.objs.size + 1, [s1.heap.objs.size + 1, s1.heap.objs.size], _, _, H1, rfl, I2, turn_enumT a (s1.heap.objs.size + 1) s1.heap.objs.size, ⟨⟨.none, he⟩, hit, Nat.succ_ne_self _⟩, fr, q⟩
/-! ### loops and comprehensions by an invariant of n turns -/
section
variable {J : It} {n : Nat} {g : TG} {tb : TS} {D : Ends} {σ : L2.St} {H : Hp}
theorem forJ (Pv : Nat → L2.St → Hp → Prop) (h0 : Pv 0 σ H) (hgo : ∀ i σ H, i < n → Pv i σ H → J.go i H) (hst : ∀ σ H, Pv n σ H → J.stop n H)
    (hs : ∀ i σ H v H', i < n → Pv i σ H → J.yld i H v H' → g v σ H' fun σ2 H2 => tb { D with nx := Pv (i + 1), ct := Pv (i + 1), bk := D.nx } σ2 H2) (hd : ∀ σ H, Pv n σ H → D.nx σ H) :
    ∃ W : Nat → Nat → L2.St → Hp → Prop, (∃ m, W 0 m σ H) ∧ ∀ i m σ H, W i m σ H →
      (J.stop i H ∧ D.nx σ H) ∨ (J.go i H ∧ ∃ N : L2.St → Hp → Prop, (∀ σ' H', N σ' H' → ∃ m', m' < m ∧ W (i + 1) m' σ' H') ∧ ∀ x H', J.yld i H x H' → g x σ H' fun σ2 H2 => tb { D with nx := N, ct := N, bk := D.nx } σ2 H2) := by
  refine ⟨fun i m σ H => m = n - i ∧ i ≤ n ∧ Pv i σ H, ⟨n, by simp, Nat.zero_le _, h0⟩, ?_⟩
  rintro i m σ H ⟨rfl, hi, p⟩
  by_cases hlt : i < n
  · exact .inr ⟨hgo i σ H hlt p, Pv (i + 1), fun σ' H' p' => ⟨n - (i + 1), by omega, rfl, hlt, p'⟩, fun x H' y => hs i σ H x H' hlt p y⟩
  · have e : i = n := by omega
    subst e
    exact .inl ⟨hst σ H p, hd σ H p⟩
variable {tt : TT} {te : TE} {vs : List Nat} {H1 : Hp} {Dd : Addr} {Qd : Hp → Prop}
theorem lcJ (Pv : Nat → Hp → Prop) (h0 : Pv 0 (upd H1 Dd (.lst []))) (hgo : ∀ i H, i < n → Pv i H → J.go i H) (hst : ∀ H, Pv n H → J.stop n H)
    (hs : ∀ i H x H', i < n → Pv i H → J.yld i H x H' → g x (wipe σ vs) H' fun σ2 H2 => wipe σ2 vs = wipe σ vs ∧ tt σ2 H2 fun b H3 =>
      if b = true then te σ2 H3 fun y H4 => ∃ acc, H4 Dd = some (.lst acc) ∧ acc.length < sizeLine ∧ Pv (i + 1) (upd H4 Dd (.lst (acc ++ [y]))) else Pv (i + 1) H3) (hd : ∀ H, Pv n H → Qd H) :
    ∃ W : Nat → Nat → Hp → Prop, (∃ m, W 0 m (upd H1 Dd (.lst []))) ∧ ∀ i m H, W i m H →
      (J.stop i H ∧ Qd H) ∨ (J.go i H ∧ ∃ Nx : Hp → Prop, (∀ H', Nx H' → ∃ m', m' < m ∧ W (i + 1) m' H') ∧ ∀ x H', J.yld i H x H' → g x (wipe σ vs) H' fun σ2 H2 => wipe σ2 vs = wipe σ vs ∧ tt σ2 H2 fun b H3 =>
        if b = true then te σ2 H3 fun y H4 => ∃ acc, H4 Dd = some (.lst acc) ∧ acc.length < sizeLine ∧ Nx (upd H4 Dd (.lst (acc ++ [y]))) else Nx H3) := by
  refine ⟨fun i m H => m = n - i ∧ i ≤ n ∧ Pv i H, ⟨n, by simp, Nat.zero_le _, h0⟩, ?_⟩
  rintro i m H ⟨rfl, hi, p⟩
  by_cases hlt : i < n
  · exact .inr ⟨hgo i H hlt p, Pv (i + 1), fun H' p' => ⟨n - (i + 1), by omega, rfl, hlt, p'⟩, fun x H' y => hs i H x H' hlt p y⟩
  · have e : i = n := by omega
    subst e
    exact .inl ⟨hst H p, hd H p⟩
end
section
variable {K : PySem.W.Frag} {a : Addr} {xs : List V} {g : TG} {tb : TS} {D : Ends} {σ : L2.St} {H : Hp}
/-- a list or a tuple -/
def SqS (K : PySem.W.Frag) (H : Hp) (a : Addr) (xs : List V) : Prop := SqL K H a xs ∨ SqT K H a xs
theorem SqS.ext {H' : Hp} (h : SqS K H a xs) (e : ExtN H H') : SqS K H' a xs := h.elim (fun h => .inl (extN_l e h)) fun h => .inr (extN_t e h)
theorem SqL.lst_eq {K : PySem.W.Frag} {H : Hp} {a : Addr} {xs : List V} (h : H a = some (.lst xs)) : SqS K H a xs := .inl (SqL.of h)
/-- for i, x in enumerate(row) -/
theorem for_enumS (hk : SqS K H a xs) (Pv : Nat → L2.St → Hp → Prop) (h0 : Pv 0 σ H) (hl : ∀ i σ H', Pv i σ H' → ExtN H H')
    (hs : ∀ (i : Nat) (x : V) (T : Addr) σ H, xs[i]? = some x → Pv i σ H → H T = none → g (.ref T) σ (upd H T (.tup [.int (i : Nat), x])) fun σ2 H2 => tb { D with nx := Pv (i + 1), ct := Pv (i + 1), bk := D.nx } σ2 H2) (hd : ∀ σ H, Pv xs.length σ H → D.nx σ H) :
    ∃ a' xs', ([V.ref a] : List V) = [.ref a'] ∧ ((SqL K H a' xs' ∧ (fun J H1 => ∃ W : Nat → Nat → L2.St → Hp → Prop, (∃ m, W 0 m σ H1) ∧ ∀ i m σ H, W i m σ H →
      (J.stop i H ∧ D.nx σ H) ∨ (J.go i H ∧ ∃ N : L2.St → Hp → Prop, (∀ σ' H', N σ' H' → ∃ m', m' < m ∧ W (i + 1) m' σ' H') ∧ ∀ x H', J.yld i H x H' → g x σ H' fun σ2 H2 => tb { D with nx := N, ct := N, bk := D.nx } σ2 H2)) (Ite K a') H) ∨
      (SqT K H a' xs' ∧ (fun J H1 => ∃ W : Nat → Nat → L2.St → Hp → Prop, (∃ m, W 0 m σ H1) ∧ ∀ i m σ H, W i m σ H →
      (J.stop i H ∧ D.nx σ H) ∨ (J.go i H ∧ ∃ N : L2.St → Hp → Prop, (∀ σ' H', N σ' H' → ∃ m', m' < m ∧ W (i + 1) m' σ' H') ∧ ∀ x H', J.yld i H x H' → g x σ H' fun σ2 H2 => tb { D with nx := N, ct := N, bk := D.nx } σ2 H2)) (IteT K a') H)) := by
  refine ⟨a, xs, rfl, ?_⟩
  rcases hk with hk | hk
  · refine .inl ⟨hk, forJ (n := xs.length) Pv h0 (fun i σ H' hi p => ⟨xs, xs[i], extN_l (hl i σ H' p) hk, by simp [hi]⟩) (fun σ H' p => ⟨xs, extN_l (hl _ σ H' p) hk, Nat.le_refl _⟩) (fun i σ H' v H2 hi p y => ?_) hd⟩
    obtain ⟨T, x, rfl, hT, rfl, hx⟩ := y
    exact hs i x T σ H' (hx xs (extN_l (hl i σ H' p) hk)) p hT
  · refine .inr ⟨hk, forJ (n := xs.length) Pv h0 (fun i σ H' hi p => ⟨xs, xs[i], extN_t (hl i σ H' p) hk, by simp [hi]⟩) (fun σ H' p => ⟨xs, extN_t (hl _ σ H' p) hk, rfl⟩) (fun i σ H' v H2 hi p y => ?_) hd⟩
    obtain ⟨T, x, rfl, hT, rfl, hx⟩ := y
    exact hs i x T σ H' (hx xs (extN_t (hl i σ H' p) hk)) p hT
end
end K7
/-! check_arms, check_row -/
namespace K7
open PySem PySem.Spec PyProof.Rows L2
open LamX (Tabs TabS TabB ExtN CodeO lamEnv)
def rowOf : KV → Option (List V)
  | .lst xs => some xs
  | .tup xs => some xs
  | _ => none
def isKV : V → Bool
  | .int n => decide (-1000000000 ≤ n) && decide (n ≤ 1000000000)
  | _ => false
/-- what check_row tells: None, or the first index that is no key -/
def rowErr (k : KV) : Option V := match rowOf k with
  | none => some .non
  | some xs => if 12 < xs.length then some .non else (xs.findIdx? fun x => !isKV x).map fun i => V.int (i : Nat)
theorem kd_flat {K : PySem.W.Frag} {H : Hp} {x : V} (h : flat1 x = true) : ∃ k, Kd K H x k ∧ isN k (-1000000000) 1000000000 = isKV x := by
  cases x with
  | non => exact ⟨_, .non, rfl⟩
  | bl b => exact ⟨_, .bl b, rfl⟩
  | int n => exact ⟨_, .int n, rfl⟩
  | str s => exact ⟨_, .str s, rfl⟩
  | _ => cases h
theorem Kd.sq {K : PySem.W.Frag} {H : Hp} {x : V} {k : KV} {xs : List V} (h : Kd K H x k) (e : rowOf k = some xs) : ∃ a, x = .ref a ∧ SqS K H a xs ∧ xs.all flat1 = true := by
  cases h <;> cases e
  case lst h f => exact ⟨_, rfl, .inl (SqL.of h), f⟩
  case tup h f => exact ⟨_, rfl, .inr h, f⟩
theorem isS_row (k : KV) : isS k = (rowOf k).isSome := by cases k <;> rfl
section
variable {w : World} {K : PySem.W.Frag} {mg : Str → Option Value} {base : Heap}
theorem sc_check_arms : FnScope ["arms"] ["arms"] (defScope s_check_arms) := ⟨rfl, rfl, rfl, by decide +kernel, rfl, by decide +kernel, by decide +kernel⟩
def spArms (K : PySem.W.Frag) : Sp := fun vs H Q E => ∃ x k, vs = [x] ∧ Kd K H x k ∧ (isN k 1 4 = true → Q .non H) ∧ (isN k 1 4 = false → E (.ref (a_BadArms K)) none H)
theorem F_check_arms (T : TX K mg base) : FnR Pr w K mg base (LC w) 2 (a_check_arms K) (spArms K) := by
  obtain ⟨fd, F⟩ := T.f_check_arms
  refine fnr_of (ps := ["arms"]) (N := ["arms"]) F (fun _ _ _ _ _ _ us hl => match us, hl with | [_], _ => rfl) sc_check_arms (fun vs H Q E h => by obtain ⟨x, k, rfl, _⟩ := h; rfl) fun cdv A outer s H vs Q E hr h => ?_
  obtain ⟨x, k, rfl, hk, h1, h2⟩ := h
  refine ⟨_, pss_one (ps_if (pt_not (pt_val (pe_cl (F_is_number T) hr rfl T.g_is_number (kpF T.f_is_number) pX (pa_cons (pv 0) (pa_cons pe_int (pa_cons (pe_gi T.g_MOST_ARMS rfl) pa_nil))))))
    (pss_one (ps_raise rfl (takes_of rfl rfl rfl rfl) (pmk_own PySem.F.excBase_ValueError T.x_BadArms.1 T.g_BadArms T.x_BadArms.2.1 (raises_own T.x_BadArms.2.2.1 T.x_BadArms.2.2.2) rfl))) pss_nil), ?_⟩
  refine ⟨_, rfl, _, _, _, _, rfl, hk, _, rfl, ?_⟩
  cases e : isN k 1 4 with
  | true => exact iteF (h1 e)
  | false => exact iteT (h2 e)
theorem sc_check_row : FnScope ["row", "index", "key"] ["row"] (defScope s_check_row) := ⟨rfl, rfl, rfl, by decide +kernel, rfl, by decide +kernel, by decide +kernel⟩
def spRow (K : PySem.W.Frag) : Sp := fun vs H Q E => ∃ x k, vs = [x] ∧ Kd K H x k ∧ (rowErr k = none → ∀ H', Same H H' → Q .non H') ∧
  (∀ v, rowErr k = some v → ∀ H' d, Same H H' → H' d = some (.xd [("index", v)]) → E (.ref (a_BadRow K)) (some d) H')
theorem F_check_row (T : TX K mg base) : FnR Pr w K mg base (LC w) 4 (a_check_row K) (spRow K) := by
  obtain ⟨fd, F⟩ := T.f_check_row
  refine fnr_of (ps := ["row"]) (N := ["row", "index", "key"]) F (fun _ _ _ _ _ _ us hl => match us, hl with | [_], _ => rfl) sc_check_row (fun vs H Q E h => by obtain ⟨x, k, rfl, _⟩ := h; rfl) fun cdv A outer s H vs Q E hr h => ?_
  obtain ⟨x, k, rfl, hk, h1, h2⟩ := h
  refine ⟨_, pss_cons (ps_if (PW.pt (pw_or (pt_not (pt_val (pe_callB call_isiT rfl T.n_isinstance (by decide +kernel) (pa_cons (pv 0) (pa_cons (pe_tup (pa_cons (pe_bltn (v := .ty "list") rfl T.n_list (by decide +kernel) rfl) (pa_cons (pe_bltn (v := .ty "tuple") rfl T.n_tuple (by decide +kernel) rfl) pa_nil))) pa_nil)))))
      (pw_or1 (pt_cmpR op_gt (pe_callB call_len_seq rfl T.n_len PySem.boot_len (pa_cons (pv 0) pa_nil)) (pe_gi T.g_MOST_PLACES rfl) (nomark _)))))
      (pss_one (ps_raise rfl (takes_of rfl rfl rfl rfl) (pmk_bad (bad_row T) T.g_BadRow T.n_super hr (pa_cons pe_non pa_nil) rfl))) pss_nil)
    (pss_one (ps_for (passes_of rfl) rfl (pi_enumS rfl T.n_enumerate (pa_cons (pv 0) pa_nil)) (pg_tup rfl (pgs_cons (pg_name (i := 1) sc_check_row.nd rfl (.inl rfl)) (pgs_cons (pg_name (i := 2) sc_check_row.nd rfl (.inl rfl)) pgs_nil)))
      (pss_one (ps_if (pt_not (pt_val (pe_cl (F_is_key T) (hr.mono (by decide)) rfl T.g_is_key (kpF T.f_is_key) pX (pa_cons (pv 2) pa_nil))))
        (pss_one (ps_raise rfl (takes_of rfl rfl rfl rfl) (pmk_bad (bad_row T) T.g_BadRow T.n_super hr (pa_cons (pv 1) pa_nil) rfl))) pss_nil)))), ?_⟩
  refine ⟨_, rfl, sz2, fun tp htp => ⟨_, tp, _, _, _, _, rfl, upd_same, .cons (.ty "list") (.cons (.ty "tuple") .nil), (hk.ext (.of (same_new htp))).ty, kitL k, _, rfl, ?_⟩⟩
  cases e : rowOf k with
  | none =>
    have hs : isS k = false := by rw [isS_row, e]; rfl
    have he : rowErr k = some .non := by simp [rowErr, e]
    rw [hs]
    exact iteT (iteT ⟨.non, rfl, fun d hd => h2 .non he _ d ((same_new htp).trans (same_new hd)) upd_same⟩)
  | some xs =>
    have hs : isS k = true := by rw [isS_row, e]; rfl
    obtain ⟨a, rfl, hq, hf⟩ := hk.sq e
    rw [hs]
    refine iteF ⟨_, rfl, a, xs, rfl, hq.ext (.of (same_new htp)), _, _, rfl, rfl, _, rfl, ?_⟩
    by_cases hl : 12 < xs.length
    · have he : rowErr k = some .non := by simp [rowErr, e, hl]
      rw [decide_eq_true (show ((12 : Int) < (xs.length : Int)) by omega)]
      exact iteT ⟨.non, rfl, fun d hd => h2 .non he _ d ((same_new htp).trans (same_new hd)) upd_same⟩
    · rw [decide_eq_false (show ¬ ((12 : Int) < (xs.length : Int)) by omega)]
      have he : rowErr k = (xs.findIdx? fun x => !isKV x).map fun i => V.int (i : Nat) := by simp [rowErr, e, hl]
      have s0 : Same H (upd H tp (.tup [.ty "list", .ty "tuple"])) := same_new htp
      have hq0 := hq.ext (.of s0)
      generalize upd H tp (.tup [.ty "list", .ty "tuple"]) = H0 at s0 hq0
      refine iteF ⟨_, rfl, for_enumS hq0 (fun i σ H' => Same H0 H' ∧ σ.length = 3 ∧ i ≤ xs.length ∧ ∀ (j : Nat) y, j < i → xs[j]? = some y → isKV y = true) ⟨Same.refl _, rfl, Nat.zero_le _, fun j y z => absurd z (Nat.not_lt_zero _)⟩ (fun i σ H' p => .of p.1) ?_ ?_⟩
      · intro i x T σ H' hx p hT
        obtain ⟨sm, hl3, _, hall⟩ := p
        have hi : i < xs.length := (List.getElem?_eq_some_iff.mp hx).1
        obtain ⟨kx, hkx, ekx⟩ := kd_flat (K := K) (H := upd H' T (.tup [.int (i : Nat), x])) (List.all_eq_true.mp hf x (List.mem_of_getElem? hx))
        refine ⟨T, _, rfl, SqT.of upd_same, rfl, _, _, rfl, _, _, rfl, rfl, ?_⟩
        have g2 : ((σ.set 1 (some (V.int (i : Nat)))).set 2 (some x))[2]? = some (some x) := List.getElem?_set_self (by rw [List.length_set]; omega)
        have g1 : ((σ.set 1 (some (V.int (i : Nat)))).set 2 (some x))[1]? = some (some (V.int (i : Nat))) := by
          rw [List.getElem?_set_ne (by decide)]
          exact List.getElem?_set_self (by omega)
        refine ⟨_, g2, x, kx, rfl, hkx, _, rfl, ?_⟩
        rw [ekx]
        have s1 : Same H0 (upd H' T (.tup [.int (i : Nat), x])) := sm.trans (same_new hT)
        cases ex : isKV x with
        | true => exact iteF ⟨s1, by rw [List.length_set, List.length_set]; exact hl3, hi, fun j y hj hy => by
            by_cases ej : j < i
            · exact hall j y ej hy
            · have z : j = i := by omega
              rw [z, hx] at hy
              cases hy
              exact ex⟩
        | false =>
          refine iteT ⟨_, g1, _, rfl, fun d hd => h2 (.int (i : Nat)) ?_ _ d (s0.trans (s1.trans (same_new hd))) upd_same⟩
          rw [he, List.findIdx?_eq_some_iff_getElem.mpr ⟨hi, ?_, fun j hj => ?_⟩]
          · rfl
          · rw [List.getElem?_eq_getElem hi] at hx
            cases hx
            simp [ex]
          · have hj2 : j < xs.length := by omega
            simp [hall j xs[j] hj (List.getElem?_eq_getElem hj2)]
      · intro σ H' p
        obtain ⟨sm, hl3, _, hall⟩ := p
        refine h1 ?_ H' (s0.trans sm)
        rw [he, List.findIdx?_eq_none_iff.mpr ?_]
        · rfl
        · intro x hx
          obtain ⟨j, hj, ej⟩ := List.getElem_of_mem hx
          simp [hall j x hj (by rw [List.getElem?_eq_getElem hj, ej])]
end
end K7
/-! class Tree: made, of *)-/
namespace K7
open PySem PySem.Spec PyProof.Rows L2
open LamX (Tabs TabS TabB ExtN CodeO lamEnv)
def rgI (a b : Int) : List Int := (List.range (b - a).toNat).map fun i => a + (i : Nat)
theorem rgV_I (a b : Int) : rgV a b = (rgI a b).map V.int := by
  unfold rgV rgI
  rw [List.map_map]
  rfl
theorem rgI_mem {a b n : Int} (h : n ∈ rgI a b) : a ≤ n ∧ n < b := by
  unfold rgI at h
  obtain ⟨i, hi, e⟩ := List.mem_map.mp h
  have := List.mem_range.mp hi
  omega
theorem rgV_rg (m : Nat) : rgV 0 (m : Int) = rg m := by
  unfold rgV rg
  have e : (((m : Nat) : Int) - 0).toNat = m := by omega
  rw [e]
  refine List.map_congr_left fun i _ => ?_
  rw [Int.zero_add]
theorem isN_int {k : KV} {lo hi : Int} (h : isN k lo hi = true) : ∃ n, k = .int n ∧ lo ≤ n ∧ n ≤ hi := by
  cases k with
  | int n =>
    simp [isN] at h
    exact ⟨n, rfl, h.1, h.2⟩
  | _ => cases h
theorem Kd.int_eq {K : PySem.W.Frag} {H : Hp} {x : V} {n : Int} (h : Kd K H x (.int n)) : x = .int n := by
  cases h
  rfl
section
variable {w : World} {K : PySem.W.Frag} {mg : Str → Option Value} {base : Heap}
theorem sc_Tree_init : FnScope ["self", "many", "arms"] ["self", "many", "arms"] (defScope s_Tree_init) := ⟨rfl, rfl, rfl, by decide +kernel, rfl, by decide +kernel, by decide +kernel⟩
/-- all but the new instance and its dict stay -/
def Keep2 (a dx : Addr) (H H' : Hp) : Prop := ∀ b o, b ≠ a → b ≠ dx → H b = some o → H' b = some o
def spTreeInit (K : PySem.W.Frag) : Sp := fun vs H Q E => ∃ a dx x y kx ky, vs = [V.ref a, x, y] ∧ H a = some (.ins (a_Tree K) dx []) ∧ dx ≠ a ∧ Kd K H x kx ∧ Kd K H y ky ∧ (isN ky 1 4 = false → E (.ref (a_BadArms K)) none H) ∧
  (isN ky 1 4 = true → isN kx 0 12 = false → E (.ref (a_BadMany K)) none H) ∧ (isN ky 1 4 = true → isN kx 0 12 = true → ∀ m r : Nat, kx = .int m → ky = .int r → ∀ H', Keep2 a dx H H' → TreeAt K H' a m r → Q .non H')
theorem F_Tree_init (T : TX K mg base) : ∃ fd, (∃ mv : List Value, KBn K fd ["self", "many", "arms"] 2 ["arms"] (fun us ws => us ++ ws) (fun vs zs => vs ++ zs)) ∧ FnOk Pr w K mg base (LC w) 3 (a_Tree_init K) fd ["self", "many", "arms"] (spTreeInit K) := by
  obtain ⟨fd, F⟩ := T.f_Tree_init
  refine ⟨fd, ?_⟩
  have z := fnk_of (w := w) (mg := mg) (base := base) (ps := ["self", "many", "arms"]) (N := ["self", "many", "arms"]) (ks := ["arms"]) (n := 2) (k := 2) (sp := spTreeInit K) F (by simp) (fun _ _ _ _ _ _ us ws l1 l2 => match us, ws, l1, l2 with | [_, _], [_], _, _ => rfl) sc_Tree_init
    (fun vs H Q E h => by obtain ⟨a, dx, x, y, kx, ky, rfl, _⟩ := h; rfl) fun cdv A outer s H vs Q E hr h => ?_
  · exact ⟨z.1, z.2.1⟩
  obtain ⟨a, dx, x, y, kx, ky, rfl, ha, nd, hx, hy, h1, h2, h3⟩ := h
  refine ⟨_, pss_cons (ps_expr (pe_cl (F_check_arms T) hr rfl T.g_check_arms (kpF T.f_check_arms) pX (pa_cons (pv 2) pa_nil)))
    (pss_cons (ps_if (pt_not (pt_val (pe_cl (F_is_number T) (hr.mono (by decide)) rfl T.g_is_number (kpF T.f_is_number) pX (pa_cons (pv 1) (pa_cons pe_int (pa_cons (pe_gi T.g_MOST_PLACES rfl) pa_nil))))))
      (pss_one (ps_raise rfl (takes_of rfl rfl rfl rfl) (pmk_own PySem.F.excBase_ValueError T.x_BadMany.1 T.g_BadMany T.x_BadMany.2.1 (raises_own T.x_BadMany.2.2.1 T.x_BadMany.2.2.2) rfl))) pss_nil)
    (pss_cons (SlX.ps_sl (pv 0) (pv 1)) (pss_cons (SlX.ps_sl (pv 0) (pv 2)) (pss_one (SlX.ps_sl (pv 0) (pe_tupRg rfl rfl T.n_tuple (prg_1 rfl T.n_range (pv 1)))))))), ?_⟩
  refine ⟨_, rfl, y, ky, rfl, hy, fun e1 => ?_, fun e1 => h1 e1⟩
  refine ⟨_, rfl, x, kx, _, _, rfl, hx, _, rfl, ?_⟩
  cases e2 : isN kx 0 12 with
  | false => exact iteT (h2 e1 e2)
  | true =>
    refine iteF ?_
    obtain ⟨m, rfl, m1, m2⟩ := isN_int e2
    obtain ⟨r, rfl, r1, r2⟩ := isN_int e1
    obtain ⟨m, rfl⟩ := Int.eq_ofNat_of_zero_le m1
    obtain ⟨r, rfl⟩ := Int.eq_ofNat_of_zero_le (show 0 ≤ r by omega)
    cases hx.int_eq
    cases hy.int_eq
    refine ⟨_, rfl, _, rfl, a, a_Tree K, dx, _, [], 1, rfl, .inl ⟨ha, rfl⟩, T.c_Tree, T.s_Tree_many, ?_⟩
    refine ⟨_, rfl, _, rfl, a, a_Tree K, dx, _, _, 0, rfl, SlX.slH_slt nd, T.c_Tree, T.s_Tree_arms, ?_⟩
    rw [SlX.slH_twice nd]
    have e12 : SlX.putS 0 (V.int (r : Int)) (SlX.putS 1 (V.int (m : Int)) []) = [some (V.int (r : Int)), some (V.int (m : Int))] := rfl
    rw [e12]
    refine ⟨_, rfl, _, rfl, RgOk.of_le (by decide) (by omega) (by decide) m1, fun q hq => ?_⟩
    rw [rgV_rg]
    have na : SlX.slH H a (a_Tree K) dx [some (V.int (r : Int)), some (V.int (m : Int))] a = some (SlX.SlO a (a_Tree K) dx [some (V.int (r : Int)), some (V.int (m : Int))]) := upd_same
    have ndx : SlX.slH H a (a_Tree K) dx [some (V.int (r : Int)), some (V.int (m : Int))] dx = some (.xd []) := by
      unfold SlX.slH
      rw [upd_ne nd, upd_same]
    have qa : a ≠ q := ne_of_none na hq
    have qd : dx ≠ q := ne_of_none ndx hq
    refine ⟨_, rfl, a, a_Tree K, dx, _, [some (.int r), some (.int m)], 2, rfl, .inr ⟨by rw [upd_ne qa]; exact na, by rw [upd_ne qd]; exact ndx⟩, T.c_Tree, T.s_Tree_places, ?_⟩
    refine h3 e1 e2 m r rfl rfl _ (fun b o ba bd hb => ?_) ⟨dx, q, upd_same, ?_, .of ?_, by omega, by omega, by omega⟩
    · have e : SlX.slH H a (a_Tree K) dx [some (V.int (r : Int)), some (V.int (m : Int))] b = some o := by rw [SlX.slH_ne ba bd, hb]
      rw [SlX.slH_ne ba bd, upd_ne (ne_of_none e hq), e]
    · unfold SlX.slH
      rw [upd_ne nd, upd_same]
    · rw [SlX.slH_ne (Ne.symm qa) (Ne.symm qd), upd_same]
/-- a Tree is made, of the instance's and its dict's addresses -/
theorem keep_made {x dx C : Addr} {H H' : Hp} (hx : H x = none) (hd : H dx = none) (k : Keep2 x dx (upd (upd H dx (.own x)) x (.ins C dx [])) H') : Same H H' := fun b o e => by
  have b1 := ne_of_none e hx
  have b2 := ne_of_none e hd
  exact k b o b1 b2 (by rw [upd_ne b1, upd_ne b2]; exact e)
theorem same_made {x dx C : Addr} {H : Hp} (hx : H x = none) (hd : H dx = none) : Same H (upd (upd H dx (.own x)) x (.ins C dx [])) := fun b o e => by
  have b1 := ne_of_none e hx
  have b2 := ne_of_none e hd
  rw [upd_ne b1, upd_ne b2]
  exact e
/-- what making a Tree promises -/
def spMkTree (K : PySem.W.Frag) (x y : V) (H : Hp) (Q : VK) (E : XK) : Prop := ∃ kx ky, Kd K H x kx ∧ Kd K H y ky ∧ (isN ky 1 4 = false → ∀ H', Same H H' → E (.ref (a_BadArms K)) none H') ∧
  (isN ky 1 4 = true → isN kx 0 12 = false → ∀ H', Same H H' → E (.ref (a_BadMany K)) none H') ∧ (isN ky 1 4 = true → isN kx 0 12 = true → ∀ m r : Nat, kx = .int m → ky = .int r → ∀ a H', Same H H' → TreeAt K H' a m r → Q (.ref a) H')
theorem mkTree_ok {x y : V} {H : Hp} {Q : VK} {E : XK} (h : spMkTree K x y H Q E) (a dx : Addr) (ha : H a = none) (hd : H dx = none) (nd : dx ≠ a) :
    spTreeInit K [V.ref a, x, y] (upd (upd H dx (.own a)) a (.ins (a_Tree K) dx [])) (fun v H3 => v = .non ∧ Q (.ref a) H3) E := by
  obtain ⟨kx, ky, hx, hy, h1, h2, h3⟩ := h
  have sm := same_made (C := a_Tree K) ha hd
  exact ⟨a, dx, x, y, kx, ky, rfl, upd_same, nd, hx.ext (.of sm), hy.ext (.of sm), fun e => h1 e _ sm, fun e1 e2 => h2 e1 e2 _ sm, fun e1 e2 m r em er H' k t => ⟨rfl, h3 e1 e2 m r em er a H' (keep_made ha hd k) t⟩⟩
end
section
variable {X : Cx} {w : World} {E : XK} {e : Expr} {es : List Expr} {t tk : TA} {p pos : Pos} {kws : List Keyword}
/-- Tree(e, arms=r) -/
theorem pe_mkTree (hP : X.prog = Pr) (T : TX X.K X.mg X.base) (hr : Room 4 X.A) (hg : Gl X "Tree") (hx : Passes (LC X.w) X E) (ha : PA X (e :: es) t) (hkw : PK X kws tk)
    (hall : (backToKw pos (keywordEach kws X.env)).all (·.1.isSome) = true := by rfl) (hks : (backToKw pos (keywordEach kws X.env)).filterMap (·.1) = [("arms" : Str)] := by rfl)
    (he : starEach (e :: es) X.env = (false, eval e X.env) :: starEach es X.env := by rfl) (hpl : ((backTo pos (starEach (e :: es) X.env)).any (·.1) || (backToKw pos (keywordEach kws X.env)).any (·.1.isNone)) = false := by rfl) :
    PE X (.Call (.Name "Tree" p) (e :: es) kws pos) (tMakeK (a_Tree X.K) 1 1 (spTreeInit X.K) (fun vs zs => vs ++ zs) E t tk) := by
  obtain ⟨fd, ⟨mv, B⟩, O⟩ := F_Tree_init (w := X.w) T
  have O' : FnOk X.prog X.w X.K X.mg X.base (LC X.w) 3 (a_Tree_init X.K) fd ["self", "many", "arms"] (spTreeInit X.K) := by rw [hP]; exact O
  exact pe_makeK (p := p) (n := 1) T.m_Tree O' hr hg T.g_Tree B hx ha hkw hall hks (by decide) he hpl
end
section
variable {w : World} {K : PySem.W.Frag} {mg : Str → Option Value} {base : Heap}
theorem sc_Tree_of : FnScope ["cls", "row", "arms"] ["cls", "row", "arms"] (defScope s_Tree_of) := ⟨rfl, rfl, rfl, by decide +kernel, rfl, by decide +kernel, by decide +kernel⟩
/-- Tree.of(row, arms=r): the refusals alone -/
def spOf (K : PySem.W.Frag) : Sp := fun vs H Q E => ∃ x y kx ky, vs = [V.ref (a_Tree K), x, y] ∧ Kd K H x kx ∧ Kd K H y ky ∧ (isN ky 1 4 = false → ∀ H', Same H H' → E (.ref (a_BadArms K)) none H') ∧
  (isN ky 1 4 = true → ∀ v, rowErr kx = some v → ∀ H' d, Same H H' → H' d = some (.xd [("index", v)]) → E (.ref (a_BadRow K)) (some d) H') ∧ (isN ky 1 4 = true → rowErr kx = none → ∀ v H', Same H H' → Q v H')
theorem rowErr_none {k : KV} (h : rowErr k = none) : ∃ xs, rowOf k = some xs ∧ xs.length ≤ 12 ∧ ∀ x ∈ xs, isKV x = true := by
  unfold rowErr at h
  cases e : rowOf k with
  | none => rw [e] at h; cases h
  | some xs =>
    rw [e] at h
    dsimp only at h
    by_cases hl : 12 < xs.length
    · rw [if_pos hl] at h
      cases h
    · rw [if_neg hl] at h
      refine ⟨xs, rfl, by omega, fun x hx => ?_⟩
      have z := List.findIdx?_eq_none_iff.mp (Option.map_eq_none_iff.mp h) x hx
      simpa using z
theorem F_Tree_of (T : TX K mg base) : FnK Pr w K mg base (LC w) 6 (a_Tree_of K) 2 ["arms"] (spOf K) := by
  obtain ⟨fd, F⟩ := T.f_Tree_of
  refine (fnk_of (w := w) (mg := mg) (base := base) (ps := ["cls", "row", "arms"]) (N := ["cls", "row", "arms"]) (ks := ["arms"]) (n := 2) (k := 5) (sp := spOf K) F (by simp) (fun _ _ _ _ _ _ us ws l1 l2 => match us, ws, l1, l2 with | [_, _], [_], _, _ => rfl) sc_Tree_of
    (fun vs H Q E h => by obtain ⟨x, y, kx, ky, rfl, _⟩ := h; rfl) fun cdv A outer s H vs Q E hr h => ?_).2.2
  obtain ⟨x, y, kx, ky, rfl, hx, hy, h1, h2, h3⟩ := h
  obtain ⟨fi, ⟨mv, B⟩, O⟩ := F_Tree_init (w := w) T
  refine ⟨_, pss_cons (ps_expr (pe_cl (F_check_arms T) (hr.mono (by decide)) rfl T.g_check_arms (kpF T.f_check_arms) pX (pa_cons (pv 2) pa_nil)))
    (pss_cons (ps_expr (pe_cl (F_check_row T) (hr.mono (by decide)) rfl T.g_check_row (kpF T.f_check_row) pX (pa_cons (pv 1) pa_nil)))
    (pss_one (ps_ret (pe_makeKV (n := 1) T.m_Tree O (hr.mono (by decide)) (pv 0) B pX (pa_cons (pe_callB call_len_seq rfl T.n_len PySem.boot_len (pa_cons (pv 1) pa_nil)) pa_nil) (pk_cons (pv 2) pk_nil))))), ?_⟩
  refine ⟨_, rfl, y, ky, rfl, hy, fun e1 => ?_, fun e1 => h1 e1 H (Same.refl H)⟩
  refine ⟨_, rfl, x, kx, rfl, hx, fun e2 H2 s2 => ?_, fun v ev H2 d s2 hd => h2 e1 v ev H2 d s2 hd⟩
  obtain ⟨xs, ex, hl, _⟩ := rowErr_none e2
  obtain ⟨a, rfl, hq, _⟩ := hx.sq ex
  obtain ⟨r, rfl, r1, r2⟩ := isN_int e1
  obtain ⟨r, rfl⟩ := Int.eq_ofNat_of_zero_le (show 0 ≤ r by omega)
  cases hy.int_eq
  refine ⟨_, rfl, rfl, _, rfl, a, xs, rfl, hq.ext (.of s2), _, rfl, rfl, rfl, fun a' dx ha hd nd => mkTree_ok ⟨_, _, .int _, .int _, fun z => ?_, fun _ z => ?_, fun _ _ m r' em er a2 H' sm t => h3 e1 e2 _ H' (s2.trans sm)⟩ a' dx ha hd nd⟩
  · exact absurd (z.symm.trans e1) (by simp)
  · simp [isN] at z
    omega
end
end K7
/-! a Tree's own defs -/
namespace K7
open PySem PySem.Spec PyProof.Rows L2
open LamX (Tabs TabS TabB ExtN CodeO lamEnv)
/-- the places under p -/
def kids (m r : Nat) (p : Int) : List Int := rgI ((r : Int) * p + 1) (min ((r : Int) * p + 1 + r) m)
theorem kids_mem {m r : Nat} {p n : Int} (hr : 1 ≤ r) (hp : 0 ≤ p) (h : n ∈ kids m r p) : p < n ∧ n < m := by
  obtain ⟨h1, h2⟩ := rgI_mem h
  have h3 : (1 : Int) * p ≤ (r : Int) * p := Int.mul_le_mul_of_nonneg_right (by omega) hp
  omega
theorem TreeAt.ext {K : PySem.W.Frag} {H H' : Hp} {a : Addr} {m r : Nat} (t : TreeAt K H a m r) (e : ExtN H H') : TreeAt K H' a m r := by
  obtain ⟨dx, p, h1, h2, h3, h4⟩ := t
  exact ⟨dx, p, e _ _ h1 (fun ps z => by unfold SlX.SlO at z; cases z), e _ _ h2 (fun ps z => nomatch z), extN_t e h3, h4⟩
section
variable {w : World} {K : PySem.W.Frag} {mg : Str → Option Value} {base : Heap}
theorem sc_contains : FnScope ["self", "thing"] ["self", "thing"] (defScope s_Tree_contains) := ⟨rfl, rfl, rfl, by decide +kernel, rfl, by decide +kernel, by decide +kernel⟩
def spCont (K : PySem.W.Frag) : Sp := fun vs H Q E => ∃ a x k m r, vs = [V.ref a, x] ∧ TreeAt K H a m r ∧ Kd K H x k ∧ Q (.bl (isN k 0 ((m : Int) - 1))) H
theorem F_contains (T : TX K mg base) : FnR Pr w K mg base (LC w) 2 (a_Tree_contains K) (spCont K) := by
  obtain ⟨fd, F⟩ := T.f_Tree_contains
  refine fnr_of (ps := ["self", "thing"]) (N := ["self", "thing"]) F (fun _ _ _ _ _ _ us hl => match us, hl with | [_, _], _ => rfl) sc_contains (fun vs H Q E h => by obtain ⟨a, x, k, m, r, rfl, _⟩ := h; rfl) fun cdv A outer s H vs Q E hr h => ?_
  obtain ⟨a, x, k, m, r, rfl, ht, hk, hq⟩ := h
  refine ⟨_, pss_one (ps_ret (pe_cl (F_is_number T) hr rfl T.g_is_number (kpF T.f_is_number) pX (pa_cons (pv 1) (pa_cons pe_int (pa_cons (pe_op op_sub (SlX.pe_sl (pv 0)) pe_int) pa_nil))))), ?_⟩
  obtain ⟨dx, p, hs, hp⟩ := ht.slt
  exact ⟨_, rfl, _, rfl, a, a_Tree K, dx, _, _, 1, _, rfl, hs, T.c_Tree, T.s_Tree_many, rfl, _, _, rfl, rfl, _, _, _, _, rfl, hk, hq⟩
theorem sc_check_place : FnScope ["self", "place"] ["self", "place"] (defScope s_Tree_check_place) := ⟨rfl, rfl, rfl, by decide +kernel, rfl, by decide +kernel, by decide +kernel⟩
def spPlace (K : PySem.W.Frag) : Sp := fun vs H Q E => ∃ a x k m r, vs = [V.ref a, x] ∧ TreeAt K H a m r ∧ Kd K H x k ∧ (isN k 0 ((m : Int) - 1) = true → Q .non H) ∧ (isN k 0 ((m : Int) - 1) = false → E (.ref (a_BadPlace K)) none H)
theorem F_check_place (T : TX K mg base) : FnR Pr w K mg base (LC w) 3 (a_Tree_check_place K) (spPlace K) := by
  obtain ⟨fd, F⟩ := T.f_Tree_check_place
  refine fnr_of (ps := ["self", "place"]) (N := ["self", "place"]) F (fun _ _ _ _ _ _ us hl => match us, hl with | [_, _], _ => rfl) sc_check_place (fun vs H Q E h => by obtain ⟨a, x, k, m, r, rfl, _⟩ := h; rfl) fun cdv A outer s H vs Q E hr h => ?_
  obtain ⟨a, x, k, m, r, rfl, ht, hk, h1, h2⟩ := h
  refine ⟨_, pss_one (ps_if (pt_cmpR (op_notOwn T.d_contains T.df_contains (F_contains T) hr pX) (pv 1) (pv 0) rfl)
    (pss_one (ps_raise rfl (takes_of rfl rfl rfl rfl) (pmk_own PySem.F.excBase_ValueError T.x_BadPlace.1 T.g_BadPlace T.x_BadPlace.2.1 (raises_own T.x_BadPlace.2.2.1 T.x_BadPlace.2.2.2) rfl))) pss_nil), ?_⟩
  obtain ⟨dx, p, hs, hp⟩ := ht.slt
  refine ⟨_, rfl, _, rfl, a, dx, _, rfl, hs, a, x, k, m, r, rfl, ht, hk, _, rfl, _, rfl, ?_⟩
  cases e : isN k 0 ((m : Int) - 1) with
  | true => exact iteF (h1 e)
  | false => exact iteT (h2 e)
theorem sc_getitem : FnScope ["self", "place", "first"] ["self", "place"] (defScope s_Tree_getitem) := ⟨rfl, rfl, rfl, by decide +kernel, rfl, by decide +kernel, by decide +kernel⟩
def spGet (K : PySem.W.Frag) : Sp := fun vs H Q E => ∃ a x k m r, vs = [V.ref a, x] ∧ TreeAt K H a m r ∧ Kd K H x k ∧ (∀ n : Int, k = .int n → 0 ≤ n → n < m → ∀ t H', Same H H' → SqT K H' t ((kids m r n).map V.int) → Q (.ref t) H') ∧
  (isN k 0 ((m : Int) - 1) = false → E (.ref (a_BadPlace K)) none H)
theorem F_getitem (T : TX K mg base) : FnR Pr w K mg base (LC w) 4 (a_Tree_getitem K) (spGet K) := by
  obtain ⟨fd, F⟩ := T.f_Tree_getitem
  refine fnr_of (ps := ["self", "place"]) (N := ["self", "place", "first"]) F (fun _ _ _ _ _ _ us hl => match us, hl with | [_, _], _ => rfl) sc_getitem (fun vs H Q E h => by obtain ⟨a, x, k, m, r, rfl, _⟩ := h; rfl) fun cdv A outer s H vs Q E hr h => ?_
  obtain ⟨a, x, k, m, r, rfl, ht, hk, h1, h2⟩ := h
  refine ⟨_, pss_cons (ps_expr (SlX.pe_methSl (pv 0) T.c_Tree T.t_check_place (F_check_place T) hr pX (pa_cons (pv 1) pa_nil)))
    (pss_cons (ps_set (i := 2) sc_getitem.nd rfl (.inl rfl) (pe_op op_add (pe_op op_mul (SlX.pe_sl (pv 0)) (pv 1)) pe_int))
    (pss_one (ps_ret (pe_tupRg rfl rfl T.n_tuple (prg_2 rfl T.n_range (pv 2) (pe_callB (call_min2 rfl) rfl T.n_min (by decide +kernel) (pa_cons (pe_op op_add (pv 2) (SlX.pe_sl (pv 0))) (pa_cons (SlX.pe_sl (pv 0)) pa_nil)))))))), ?_⟩
  obtain ⟨dx, p, hs, hp⟩ := ht.slt
  refine ⟨_, rfl, a, dx, _, rfl, hs, _, rfl, a, x, k, m, r, rfl, ht, hk, fun e => ?_, h2⟩
  obtain ⟨n, rfl, n1, n2⟩ := isN_int e
  cases hk.int_eq
  obtain ⟨_, _, _, _, _, hm, hr1, hr2⟩ := ht
  refine ⟨_, rfl, a, a_Tree K, dx, _, _, 0, _, rfl, hs, T.c_Tree, T.s_Tree_arms, rfl, _, rfl, _, _, rfl, rfl, .inl ⟨by omega, by omega⟩, _, _, rfl, rfl, ?_⟩
  refine ⟨_, rfl, _, rfl, _, rfl, a, a_Tree K, dx, _, _, 0, _, rfl, hs, T.c_Tree, T.s_Tree_arms, rfl, _, _, rfl, rfl, _, rfl, a, a_Tree K, dx, _, _, 1, _, rfl, hs, T.c_Tree, T.s_Tree_many, rfl, _, _, rfl, _, _, rfl, rfl, ?_⟩
  have e1 : (if (m : Int) < (r : Int) * n + 1 + r then (m : Int) else (r : Int) * n + 1 + r) = min ((r : Int) * n + 1 + r) m := by omega
  rw [e1]
  have b0 : 0 ≤ (r : Int) * n := Int.mul_nonneg (by omega) n1
  have b1 : (r : Int) * n ≤ 4 * 12 := by
    have : (r : Int) * n ≤ 4 * n := Int.mul_le_mul_of_nonneg_right (by omega) n1
    omega
  refine ⟨RgOk.of_le (by omega) (by omega) (by omega) (by omega), fun q hq => ?_⟩
  rw [rgV_I]
  exact h1 n rfl n1 (by omega) q _ (same_new hq) (.of upd_same)
theorem sc_parent : FnScope ["self", "place"] ["self", "place"] (defScope s_Tree_parent) := ⟨rfl, rfl, rfl, by decide +kernel, rfl, by decide +kernel, by decide +kernel⟩
def spPar (K : PySem.W.Frag) : Sp := fun vs H Q E => ∃ a x k m r, vs = [V.ref a, x] ∧ TreeAt K H a m r ∧ Kd K H x k ∧ (∀ n : Int, k = .int n → 0 ≤ n → n < m → Q (if 0 < n then .int ((n - 1).fdiv r) else .non) H) ∧
  (isN k 0 ((m : Int) - 1) = false → E (.ref (a_BadPlace K)) none H)
theorem F_parent (T : TX K mg base) : FnR Pr w K mg base (LC w) 4 (a_Tree_parent K) (spPar K) := by
  obtain ⟨fd, F⟩ := T.f_Tree_parent
  refine fnr_of (ps := ["self", "place"]) (N := ["self", "place"]) F (fun _ _ _ _ _ _ us hl => match us, hl with | [_, _], _ => rfl) sc_parent (fun vs H Q E h => by obtain ⟨a, x, k, m, r, rfl, _⟩ := h; rfl) fun cdv A outer s H vs Q E hr h => ?_
  obtain ⟨a, x, k, m, r, rfl, ht, hk, h1, h2⟩ := h
  refine ⟨_, pss_cons (ps_expr (SlX.pe_methSl (pv 0) T.c_Tree T.t_check_place (F_check_place T) hr pX (pa_cons (pv 1) pa_nil)))
    (pss_one (ps_ret (pe_ifExp (pt_cmpR op_gt (pv 1) pe_int (nomark _)) (pe_op op_fdivN (pe_op op_sub (pv 1) pe_int) (SlX.pe_sl (pv 0))) pe_non))), ?_⟩
  obtain ⟨dx, p, hs, hp⟩ := ht.slt
  refine ⟨_, rfl, a, dx, _, rfl, hs, _, rfl, a, x, k, m, r, rfl, ht, hk, fun e => ?_, h2⟩
  obtain ⟨n, rfl, n1, n2⟩ := isN_int e
  cases hk.int_eq
  obtain ⟨_, _, _, _, _, hm, hr1, hr2⟩ := ht
  have q := h1 n rfl n1 (by omega)
  refine ⟨_, rfl, _, _, rfl, rfl, _, rfl, ?_⟩
  by_cases hn : 0 < n
  · rw [decide_eq_true hn]
    rw [if_pos hn] at q
    exact iteT ⟨_, rfl, _, _, rfl, rfl, _, rfl, a, a_Tree K, dx, _, _, 0, _, rfl, hs, T.c_Tree, T.s_Tree_arms, rfl, _, _, rfl, rfl, ⟨by omega, by omega⟩, q⟩
  · rw [decide_eq_false hn]
    rw [if_neg hn] at q
    exact iteF q
end
end K7
/-! words: == of rows of ints, walks by an invariant of the heap *)-/
namespace K7
open PySem PySem.Spec PyProof.Rows L2
open LamX (Tabs TabS TabB ExtN CodeO lamEnv)
section
variable {K : PySem.W.Frag} {H : Hp}
theorem dp_ints (ns : List Int) : DpAll K H (ns.map V.int) (ns.map PyData.int) := by
  induction ns with
  | nil => exact .nil
  | cons n ns ih => exact .cons (.int n) ih
theorem lay_ints (ns : List Int) : PyData.canLayAll0 (ns.map PyData.int) = true := by
  induction ns with
  | nil => rw [List.map_nil, PyData.canLayAll0]
  | cons n ns ih => rw [List.map_cons, PyData.canLayAll0, ih, PyData.canLay0] <;> rfl
theorem dep_ints (ns : List Int) : PyData.depthAll (ns.map PyData.int) = 0 := by
  induction ns with
  | nil => rw [List.map_nil, PyData.depthAll]
  | cons n ns ih => rw [List.map_cons, PyData.depthAll, ih, PyData.depth] <;> rfl
theorem shp_l (ns : List Int) : SeqAt.shaped (.list (ns.map PyData.int)) = true := by
  unfold SeqAt.shaped
  rw [PyData.canLay0, lay_ints, PyData.depth, dep_ints] <;> rfl
theorem shp_t (ns : List Int) : SeqAt.shaped (.tuple (ns.map PyData.int)) = true := by
  unfold SeqAt.shaped
  rw [PyData.canLay0, lay_ints, PyData.depth, dep_ints] <;> rfl
theorem eqv_ints : ∀ ns ms : List Int, PyData.eqvAll (ns.map PyData.int) (ms.map PyData.int) = decide (ns = ms)
  | [], [] => by rw [List.map_nil, PyData.eqvAll]; rfl
  | [], m :: ms => by rw [List.map_nil, List.map_cons, PyData.eqvAll]; exact (decide_eq_false (by simp)).symm; all_goals simp
  | n :: ns, [] => by rw [List.map_nil, List.map_cons, PyData.eqvAll]; exact (decide_eq_false (by simp)).symm; all_goals simp
  | n :: ns, m :: ms => by
    rw [List.map_cons, List.map_cons, PyData.eqvAll, eqv_ints ns ms, PyData.eqv]
    by_cases h : n = m <;> by_cases h2 : ns = ms <;> simp [h, h2]
theorem eqv_il (ns ms : List Int) : PyData.eqv (.list (ns.map PyData.int)) (.list (ms.map PyData.int)) = decide (ns = ms) := by rw [PyData.eqv]; exact eqv_ints ns ms
theorem eqv_it (ns ms : List Int) : PyData.eqv (.tuple (ns.map PyData.int)) (.tuple (ms.map PyData.int)) = decide (ns = ms) := by rw [PyData.eqv]; exact eqv_ints ns ms
theorem neL {a b : Addr} {ns ms : List Int} {Q : VK} (ha : SqL K H a (ns.map V.int)) (hb : SqL K H b (ms.map V.int)) (q : Q (.bl (!decide (ns = ms))) H) : rNeD K (.ref a) (.ref b) H Q :=
  ⟨_, _, .lst ha (dp_ints ns), .lst hb (dp_ints ms), shp_l ns, shp_l ms, by rw [eqv_il]; exact q⟩
theorem eqL {a b : Addr} {ns ms : List Int} {Q : VK} (ha : SqL K H a (ns.map V.int)) (hb : SqL K H b (ms.map V.int)) (q : Q (.bl (decide (ns = ms))) H) : rEqD K (.ref a) (.ref b) H Q :=
  ⟨_, _, .lst ha (dp_ints ns), .lst hb (dp_ints ms), shp_l ns, shp_l ms, by rw [eqv_il]; exact q⟩
theorem neT {a b : Addr} {ns ms : List Int} {Q : VK} (ha : SqT K H a (ns.map V.int)) (hb : SqT K H b (ms.map V.int)) (q : Q (.bl (!decide (ns = ms))) H) : rNeD K (.ref a) (.ref b) H Q :=
  ⟨_, _, .tup ha (dp_ints ns), .tup hb (dp_ints ms), shp_t ns, shp_t ms, by rw [eqv_it]; exact q⟩
end
/-- a walk by an invariant of the heap -/
theorem itJ {J : It} {n : Nat} {H0 : Hp} {Qd : Hp → Prop} {G : V → Hp → (Hp → Prop) → Prop} (Pv : Nat → Hp → Prop) (h0 : Pv 0 H0) (hgo : ∀ i H, i < n → Pv i H → J.go i H) (hst : ∀ H, Pv n H → J.stop n H)
    (hs : ∀ i H x H', i < n → Pv i H → J.yld i H x H' → G x H' (Pv (i + 1))) (hd : ∀ H, Pv n H → Qd H) :
    ∃ W : Nat → Nat → Hp → Prop, (∃ m, W 0 m H0) ∧ ∀ i m H, W i m H → (J.stop i H ∧ Qd H) ∨ (J.go i H ∧ ∃ Nx : Hp → Prop, (∀ H', Nx H' → ∃ m', m' < m ∧ W (i + 1) m' H') ∧ ∀ x H', J.yld i H x H' → G x H' Nx) := by
  refine ⟨fun i m H => m = n - i ∧ i ≤ n ∧ Pv i H, ⟨n, by simp, Nat.zero_le _, h0⟩, ?_⟩
  rintro i m H ⟨rfl, hi, p⟩
  by_cases hlt : i < n
  · exact .inr ⟨hgo i H hlt p, Pv (i + 1), fun H' p' => ⟨n - (i + 1), by omega, rfl, hlt, p'⟩, fun x H' y => hs i H x H' hlt p y⟩
  · have e : i = n := by omega
    subst e
    exact .inl ⟨hst H p, hd H p⟩
/-- .. over a tuple, a list that stand still -/
theorem itT {K : PySem.W.Frag} {a : Addr} {xs : List V} {H0 : Hp} {Qd : Hp → Prop} {G : V → Hp → (Hp → Prop) → Prop} (Pv : Nat → Hp → Prop) (h0 : Pv 0 H0) (hl : ∀ i H, i ≤ xs.length → Pv i H → SqT K H a xs)
    (hs : ∀ i x H, xs[i]? = some x → Pv i H → G x H (Pv (i + 1))) (hd : ∀ H, Pv xs.length H → Qd H) :
    ∃ W : Nat → Nat → Hp → Prop, (∃ m, W 0 m H0) ∧ ∀ i m H, W i m H → ((Itt K a).stop i H ∧ Qd H) ∨ ((Itt K a).go i H ∧ ∃ Nx : Hp → Prop, (∀ H', Nx H' → ∃ m', m' < m ∧ W (i + 1) m' H') ∧ ∀ x H', (Itt K a).yld i H x H' → G x H' Nx) :=
  itJ (n := xs.length) Pv h0 (fun i H hi p => ⟨xs, xs[i], hl i H (Nat.le_of_lt hi) p, by simp [hi]⟩) (fun H p => ⟨xs, hl _ H (Nat.le_refl _) p, Nat.le_refl _⟩) (fun i H x H' hi p y => by
    obtain ⟨e, y⟩ := y
    subst e
    exact hs i x _ (y xs (hl i _ (Nat.le_of_lt hi) p)) p) hd
theorem itL {K : PySem.W.Frag} {a : Addr} {xs : List V} {H0 : Hp} {Qd : Hp → Prop} {G : V → Hp → (Hp → Prop) → Prop} (Pv : Nat → Hp → Prop) (h0 : Pv 0 H0) (hl : ∀ i H, i ≤ xs.length → Pv i H → SqL K H a xs)
    (hs : ∀ i x H, xs[i]? = some x → Pv i H → G x H (Pv (i + 1))) (hd : ∀ H, Pv xs.length H → Qd H) :
    ∃ W : Nat → Nat → Hp → Prop, (∃ m, W 0 m H0) ∧ ∀ i m H, W i m H → ((Itl K a).stop i H ∧ Qd H) ∨ ((Itl K a).go i H ∧ ∃ Nx : Hp → Prop, (∀ H', Nx H' → ∃ m', m' < m ∧ W (i + 1) m' H') ∧ ∀ x H', (Itl K a).yld i H x H' → G x H' Nx) :=
  itJ (n := xs.length) Pv h0 (fun i H hi p => ⟨xs, xs[i], hl i H (Nat.le_of_lt hi) p, by simp [hi]⟩) (fun H p => ⟨xs, hl _ H (Nat.le_refl _) p, Nat.le_refl _⟩) (fun i H x H' hi p y => by
    obtain ⟨e, y⟩ := y
    subst e
    exact hs i x _ (y xs (hl i _ (Nat.le_of_lt hi) p)) p) hd
section
variable {w : World} {K : PySem.W.Frag} {mg : Str → Option Value} {base : Heap}
theorem sc_way_to : FnScope ["self", "place", "found"] ["self", "place"] (defScope s_Tree_way_to) := ⟨rfl, rfl, rfl, by decide +kernel, rfl, by decide +kernel, by decide +kernel⟩
/-- a way: some ints -/
def spWay (K : PySem.W.Frag) : Sp := fun vs H Q E => ∃ a x k m r, vs = [V.ref a, x] ∧ TreeAt K H a m r ∧ Kd K H x k ∧ (∀ n : Int, k = .int n → 0 ≤ n → n < m → ∀ t H' (ns : List Int), Same H H' → SqT K H' t (ns.map V.int) → Q (.ref t) H') ∧
  (isN k 0 ((m : Int) - 1) = false → E (.ref (a_BadPlace K)) none H)
theorem F_way_to (T : TX K mg base) : FnR Pr w K mg base (LC w) 4 (a_Tree_way_to K) (spWay K) := by
  obtain ⟨fd, F⟩ := T.f_Tree_way_to
  refine fnr_of (ps := ["self", "place"]) (N := ["self", "place", "found"]) F (fun _ _ _ _ _ _ us hl => match us, hl with | [_, _], _ => rfl) sc_way_to (fun vs H Q E h => by obtain ⟨a, x, k, m, r, rfl, _⟩ := h; rfl) fun cdv A outer s H vs Q E hr h => ?_
  obtain ⟨a, x, k, m, r, rfl, ht, hk, h1, h2⟩ := h
  refine ⟨_, pss_cons (ps_expr (SlX.pe_methSl (pv 0) T.c_Tree T.t_check_place (F_check_place T) hr pX (pa_cons (pv 1) pa_nil)))
    (pss_cons (ps_set (i := 2) sc_way_to.nd rfl (.inl rfl) (pe_lst (pa_cons (pv 1) pa_nil)))
    (pss_cons (ps_while (passes_of rfl) (pt_cmpR op_gt (pe_ix ix_list (pv 2) (pe_un un_neg pe_int) (fun _ _ => rfl)) pe_int (nomark _))
      (pss_one (ps_expr (pe_bm PySem.F.plainAttrs_list PySem.F.slot_list_append PySem.F.type_list_append mt_append (pv 2) (pa_cons (pe_op op_fdivN (pe_op op_sub (pe_ix ix_list (pv 2) (pe_un un_neg pe_int) (fun _ _ => rfl)) pe_int) (SlX.pe_sl (pv 0))) pa_nil)))))
    (pss_one (ps_ret (pe_callTy call_tuple_of rfl T.n_tuple (by decide +kernel) (pa_cons (pe_revL (pv 2)) pa_nil)))))), ?_⟩
  obtain ⟨dx, p, hs, hp⟩ := ht.slt
  refine ⟨_, rfl, a, dx, _, rfl, hs, _, rfl, a, x, k, m, r, rfl, ht, hk, fun e => ?_, h2⟩
  obtain ⟨n, rfl, n1, n2⟩ := isN_int e
  cases hk.int_eq
  have hm : m ≤ 12 := by obtain ⟨_, _, _, _, _, hm, _⟩ := ht; exact hm
  refine ⟨_, rfl, (by decide : 1 ≤ sizeLine), fun l hl => ?_⟩
  refine ⟨fun M σ H' => σ = [some (V.ref a), some (V.int n), some (V.ref l)] ∧ Same H H' ∧ ∃ (ws : List Int) (q : Int), H' l = some (.lst (ws.map V.int ++ [V.int q])) ∧ 0 ≤ q ∧ (ws.length : Int) + q ≤ 12 ∧ M = q.toNat, ⟨n.toNat, rfl, same_new hl, [], n, upd_same, n1, by simp; omega, rfl⟩, ?_⟩
  rintro M σ H' ⟨rfl, sm, ws, q, hq, q0, ql, eM⟩
  have ht' := ht.ext (.of sm)
  obtain ⟨dx', p', hs', hp'⟩ := ht'.slt
  refine ⟨_, rfl, _, rfl, l, _, _, _, rfl, rfl, SqL.of hq, atI_last _ _, _, _, rfl, rfl, _, rfl, ?_⟩
  by_cases hgt : 0 < q
  · rw [decide_eq_true hgt]
    refine iteT ⟨fun σ' H'' => ∃ m', m' < M ∧ _, fun _ _ z => z, ?_⟩
    refine ⟨_, rfl, .inl ⟨rfl, _, SqL.of hq⟩, _, rfl, _, rfl, l, _, _, _, rfl, rfl, SqL.of hq, atI_last _ _, _, _, rfl, rfl, _, rfl, a, a_Tree K, dx', _, _, 0, _, rfl, hs', T.c_Tree, T.s_Tree_arms, rfl, _, _, rfl, rfl, ⟨by obtain ⟨_, _, _, _, _, _, r1, r2⟩ := ht; omega, by obtain ⟨_, _, _, _, _, _, r1, r2⟩ := ht; omega⟩, ?_⟩
    obtain ⟨_, _, _, _, _, _, r1, r2⟩ := ht
    have f1 : 0 ≤ (q - 1).fdiv r := Int.fdiv_nonneg (by omega) (by omega)
    have f2 : (q - 1).fdiv r ≤ q - 1 := by
      rw [Int.fdiv_eq_ediv_of_nonneg _ (by omega)]
      exact Int.ediv_le_self _ (by omega)
    refine ⟨l, _, _, rfl, rfl, hq, ?_, ((q - 1).fdiv r).toNat, by omega, rfl, fun b o e => ?_, ws ++ [q], (q - 1).fdiv r, ?_, f1, by simp; omega, rfl⟩
    · simp
      have : sizeLine = 16777216 := sizeLine_eq
      omega
    · rw [upd_ne (fun z => by rw [z, hl] at e; cases e)]
      exact sm b o e
    · rw [upd_same]
      simp
  · rw [decide_eq_false hgt]
    refine iteF ⟨_, rfl, l, _, rfl, SqL.of hq, fun p1 hp1 => ⟨p1, _, rfl, .inl ⟨SqL.of upd_same, fun t' ht' => ?_⟩⟩⟩
    refine h1 n rfl n1 (by omega) t' _ (ws ++ [q]).reverse (sm.trans ((same_new hp1).trans (same_new ht'))) (.of ?_)
    rw [upd_same]
    simp
end
end K7
/-! a Tree's depth, subtree, size, height -/
namespace K7
open PySem PySem.Spec PyProof.Rows L2
open LamX (Tabs TabS TabB ExtN CodeO lamEnv)
/-- all but the object at D stay -/
def ButD (D : Addr) (H H' : Hp) : Prop := ∀ c o, c ≠ D → H c = some o → H' c = some o
theorem ButD.refl {D : Addr} {H : Hp} : ButD D H H := fun _ _ _ e => e
theorem ButD.trans {D : Addr} {H H1 H2 : Hp} (a : ButD D H H1) (b : ButD D H1 H2) : ButD D H H2 := fun c o n e => b c o n (a c o n e)
theorem ButD.upd {D : Addr} {H : Hp} {o : HO} : ButD D H (upd H D o) := fun c u n e => by rw [upd_ne n]; exact e
theorem ButD.of {D : Addr} {H H' : Hp} (s : Same H H') : ButD D H H' := fun c o _ e => s c o e
/-- .. D new since H -/
theorem ButD.same {D : Addr} {H H1 H2 : Hp} (hD : H D = none) (s : Same H H1) (b : ButD D H1 H2) : Same H H2 := fun c o e => b c o (fun z => by rw [z, hD] at e; cases e) (s c o e)
theorem ButD.sqT {K : PySem.W.Frag} {D t : Addr} {H H' : Hp} {xs ys : List V} (b : ButD D H H') (hD : H D = some (.lst ys)) (h : SqT K H t xs) : SqT K H' t xs := by
  rcases h with (h | ⟨o, h⟩) | h
  · exact .inl (.inl (b _ _ (ne_of h hD (by intro z; cases z)) h))
  · exact .inl (.inr ⟨o, b _ _ (ne_of h hD (by intro z; cases z)) h⟩)
  · exact .inr h
theorem asc_len : ∀ (l : List Int) (lo hi : Int), l.Pairwise (· < ·) → (∀ x ∈ l, lo ≤ x ∧ x < hi) → l.length ≤ (hi - lo).toNat
  | [], _, _, _, _ => Nat.zero_le _
  | x :: l, lo, hi, p, h => by
    rw [List.pairwise_cons] at p
    have h1 := h x List.mem_cons_self
    have h2 := asc_len l (x + 1) hi p.2 fun y hy => ⟨by have := p.1 y hy; omega, (h y (List.mem_cons_of_mem _ hy)).2⟩
    rw [List.length_cons]
    omega
theorem kids_get {m r : Nat} {p c : Int} {j : Nat} (h : (kids m r p)[j]? = some c) : c = (r : Int) * p + 1 + j := by
  unfold kids rgI at h
  rw [List.getElem?_map] at h
  obtain ⟨i, hi, e⟩ := Option.map_eq_some_iff.mp h
  obtain ⟨_, e2⟩ := List.getElem?_eq_some_iff.mp hi
  rw [List.getElem_range] at e2
  omega
theorem kids_len {m r : Nat} {p : Int} : (kids m r p).length ≤ r := by
  unfold kids rgI
  rw [List.length_map, List.length_range]
  omega
section
variable {w : World} {K : PySem.W.Frag} {mg : Str → Option Value} {base : Heap}
/-- an int -/
def spI (K : PySem.W.Frag) : Sp := fun vs H Q E => ∃ a x k m r, vs = [V.ref a, x] ∧ TreeAt K H a m r ∧ Kd K H x k ∧ (∀ n : Int, k = .int n → 0 ≤ n → n < m → ∀ (d : Int) H', Same H H' → Q (.int d) H') ∧
  (isN k 0 ((m : Int) - 1) = false → E (.ref (a_BadPlace K)) none H)
theorem sc_depth : FnScope ["self", "place"] ["self", "place"] (defScope s_Tree_depth) := ⟨rfl, rfl, rfl, by decide +kernel, rfl, by decide +kernel, by decide +kernel⟩
theorem F_depth (T : TX K mg base) : FnR Pr w K mg base (LC w) 5 (a_Tree_depth K) (spI K) := by
  obtain ⟨fd, F⟩ := T.f_Tree_depth
  refine fnr_of (ps := ["self", "place"]) (N := ["self", "place"]) F (fun _ _ _ _ _ _ us hl => match us, hl with | [_, _], _ => rfl) sc_depth (fun vs H Q E h => by obtain ⟨a, x, k, m, r, rfl, _⟩ := h; rfl) fun cdv A outer s H vs Q E hr h => ?_
  obtain ⟨a, x, k, m, r, rfl, ht, hk, h1, h2⟩ := h
  refine ⟨_, pss_one (ps_ret (pe_op op_sub (pe_callB call_len_seq rfl T.n_len PySem.boot_len (pa_cons (SlX.pe_methSl (pv 0) T.c_Tree T.t_way_to (F_way_to T) hr pX (pa_cons (pv 1) pa_nil)) pa_nil)) pe_int)), ?_⟩
  obtain ⟨dx, p, hs, hp⟩ := ht.slt
  exact ⟨_, rfl, a, dx, _, rfl, hs, _, rfl, a, x, k, m, r, rfl, ht, hk, fun n e n0 nm t H' ns sm hT => ⟨t, _, rfl, .inr hT, _, _, rfl, rfl, h1 n e n0 nm _ H' sm⟩, h2⟩
theorem sc_subtree : FnScope ["self", "place", "found", "front", "one", "child"] ["self", "place"] (defScope s_Tree_subtree) := ⟨rfl, rfl, rfl, by decide +kernel, rfl, by decide +kernel, by decide +kernel⟩
/-- places of the tree, at least one -/
def spSub (K : PySem.W.Frag) : Sp := fun vs H Q E => ∃ a x k m r, vs = [V.ref a, x] ∧ TreeAt K H a m r ∧ Kd K H x k ∧ (∀ n : Int, k = .int n → 0 ≤ n → n < m → ∀ t H' (ns : List Int), Same H H' → SqT K H' t (ns.map V.int) → ns ≠ [] → (∀ i ∈ ns, 0 ≤ i ∧ i < m) → ns.length ≤ 144 → Q (.ref t) H') ∧
  (isN k 0 ((m : Int) - 1) = false → E (.ref (a_BadPlace K)) none H)
theorem F_subtree (T : TX K mg base) : FnR Pr w K mg base (LC w) 6 (a_Tree_subtree K) (spSub K) := by
  obtain ⟨fd, F⟩ := T.f_Tree_subtree
  refine fnr_of (ps := ["self", "place"]) (N := ["self", "place", "found", "front", "one", "child"]) F (fun _ _ _ _ _ _ us hl => match us, hl with | [_, _], _ => rfl) sc_subtree (fun vs H Q E h => by obtain ⟨a, x, k, m, r, rfl, _⟩ := h; rfl) fun cdv A outer s H vs Q E hr h => ?_
  obtain ⟨a, x, k, m, r, rfl, ht, hk, h1, h2⟩ := h
  refine ⟨_, pss_cons (ps_expr (SlX.pe_methSl (pv 0) T.c_Tree T.t_check_place (F_check_place T) (hr.mono (by decide)) pX (pa_cons (pv 1) pa_nil)))
    (pss_cons (ps_par (i := 2) (j := 3) rfl sc_subtree.nd rfl rfl (by decide) rfl rfl (pa_cons (pe_lst pa_nil) (pa_cons (pe_lst (pa_cons (pv 1) pa_nil)) pa_nil)) rfl)
    (pss_cons (ps_while (passes_of rfl) (pt_cmpR (op_neD hr.units) (pv 3) (pe_lst pa_nil) (nomark _))
      (pss_cons (ps_expr (pe_bm PySem.F.plainAttrs_list PySem.F.slot_list_extend PySem.F.type_list_extend mt_extend (pv 2) (pa_cons (pv 3) pa_nil)))
      (pss_one (ps_setLc2 (i := 3) (own := [("one", 4), ("child", 5)]) (vs1 := [5]) (g := gName 4) (g1 := gName 5) (tt := tYes) (tt1 := tYes) (wi1 := iTup K (tOp (rIxOwn (a_Tree K) (spGet K) E0) (tVar 0) (tVar 4))) rfl sc_subtree.nd rfl rfl (sw_true rfl rfl rfl (by decide +kernel)) (pi_list (pv 3)) (blkOk_by (own := [("one", 4), ("child", 5)]) (N := ["self", "place", "found", "front", "one", "child"]) (sc := defScope s_Tree_subtree) (by decide +kernel)) (by decide)
        (fun _ _ _ _ _ => pg_name (i := 4) sc_subtree.nd rfl (Or.inl rfl)) (fun _ _ _ _ _ => pts_nil) (fun _ _ _ _ _ => pi_tup (pe_ixOwn (E := E0) T.d_getitem T.dn_getitem T.df_getitem (F_getitem T) hr passL (pv 0) (pv 4))) (fun _ _ _ _ _ => pg_name (i := 5) sc_subtree.nd rfl (Or.inl rfl)) (fun _ _ _ _ _ => pts_nil) (fun _ _ _ _ _ => pv 5)))))
    (pss_one (ps_ret (pe_callTy call_tuple_of rfl T.n_tuple (by decide +kernel) (pa_cons (pv 2) pa_nil)))))), ?_⟩
  obtain ⟨dx, p, hs, hp⟩ := ht.slt
  refine ⟨_, rfl, a, dx, _, rfl, hs, _, rfl, a, x, k, m, r, rfl, ht, hk, fun e => ?_, h2⟩
  obtain ⟨n, rfl, n1, n2⟩ := isN_int e
  cases hk.int_eq
  refine ⟨(by decide : 0 ≤ sizeLine), fun lf hlf => ⟨_, rfl, (by decide : 1 ≤ sizeLine), fun fr hfr => ⟨_, _, rfl, ?_⟩⟩⟩
  have hm : m ≤ 12 ∧ 1 ≤ r ∧ r ≤ 4 := by obtain ⟨_, _, _, _, _, z⟩ := ht; exact z
  have nlf : lf ≠ fr := fun z => by
    rw [← z, upd_same] at hfr
    cases hfr
  have p0 : sizeLine = 4 ^ 12 := sizeLine_eq
  refine ⟨fun M σ H' => ∃ (fr : Addr) (fs gs : List Int) (b : Nat), σ = [some (V.ref a), some (V.int n), some (V.ref lf), some (V.ref fr), none, none] ∧ Same H H' ∧ lf ≠ fr ∧ H' lf = some (.lst (fs.map V.int)) ∧ H' fr = some (.lst (gs.map V.int)) ∧
    (∀ i ∈ fs, 0 ≤ i ∧ i < (m : Int)) ∧ (∀ i ∈ gs, (b : Int) ≤ i ∧ i < (m : Int)) ∧ fs.length ≤ 12 * b ∧ gs.Pairwise (· < ·) ∧ (fs ≠ [] ∨ gs ≠ []) ∧ b ≤ 12 ∧ M = 12 - b, ⟨12, fr, [], [n], 0, rfl, ?_, nlf, ?_, upd_same, ?_, ?_, ?_, ?_, .inr (by simp), by omega, rfl⟩, ?_⟩
  · exact (same_new hlf).trans (same_new hfr)
  · rw [upd_ne nlf, upd_same]
    rfl
  · intro i hi
    cases hi
  · intro i hi
    rw [List.mem_singleton.mp hi]
    omega
  · simp
  · simp
  rintro M σ H' ⟨fr, fs, gs, b, rfl, sm, nfr, hf, hg, vf, vg, lf1, asc, ne, b12, rfl⟩
  have lg1 : gs.length ≤ 12 := by
    have := asc_len gs b m asc vg
    omega
  refine ⟨_, rfl, (by decide : 0 ≤ sizeLine), fun q hq => neL (ms := []) (SqL.of (by rw [upd_ne (ne_of_none hg hq)]; exact hg)) (SqL.of upd_same) ⟨_, rfl, ?_⟩⟩
  have smq : Same H (upd H' q (.lst [])) := sm.trans (same_new hq)
  have hf1 : upd H' q (.lst []) lf = some (.lst (fs.map V.int)) := by rw [upd_ne (ne_of_none hf hq)]; exact hf
  have hg1 : upd H' q (.lst []) fr = some (.lst (gs.map V.int)) := by rw [upd_ne (ne_of_none hg hq)]; exact hg
  generalize upd H' q (.lst []) = H1 at smq hf1 hg1
  by_cases hgs : gs = []
  · subst hgs
    refine iteF ⟨_, rfl, lf, _, rfl, .inl ⟨SqL.of hf1, fun t ht2 => ?_⟩⟩
    exact h1 n rfl n1 (by omega) t _ fs (smq.trans (same_new ht2)) (.of upd_same) (ne.elim id fun z => absurd rfl z) vf (by omega)
  · rw [decide_eq_false hgs]
    have hb : b < 12 := by
      cases gs with
      | nil => exact absurd rfl hgs
      | cons g gs =>
        have := vg g List.mem_cons_self
        omega
    refine iteT ⟨fun σ' H'' => ∃ m', m' < 12 - b ∧ _, fun _ _ z => z, ?_⟩
    refine ⟨_, rfl, .inl ⟨rfl, _, SqL.of hf1⟩, _, rfl, lf, fr, _, _, rfl, rfl, hf1, hg1, by rw [List.length_map, List.length_map, p0]; omega, ?_⟩
    have sm2 : Same H (upd H1 lf (.lst (fs.map V.int ++ gs.map V.int))) := fun c o ec => by
      rw [upd_ne (fun z => by rw [z, hlf] at ec; cases ec)]
      exact smq c o ec
    have hf2 : upd H1 lf (.lst (fs.map V.int ++ gs.map V.int)) lf = some (.lst ((fs ++ gs).map V.int)) := by rw [upd_same, List.map_append]
    have hg2 : upd H1 lf (.lst (fs.map V.int ++ gs.map V.int)) fr = some (.lst (gs.map V.int)) := by rw [upd_ne (Ne.symm nfr)]; exact hg1
    generalize upd H1 lf (.lst (fs.map V.int ++ gs.map V.int)) = H2 at sm2 hf2 hg2
    refine ⟨_, rfl, fr, rfl, ⟨_, SqL.of hg2⟩, fun D hD => ?_⟩
    have sm3 : Same H2 (upd H2 D (.lst [])) := same_new hD
    refine itL (xs := gs.map V.int) (fun i H3 => Same H2 H3 ∧ ∃ acc : List Int, H3 D = some (.lst (acc.map V.int)) ∧ acc.Pairwise (· < ·) ∧ (∀ c ∈ acc, ∀ i' g', i ≤ i' → gs[i']? = some g' → c ≤ (r : Int) * g') ∧ ∀ c ∈ acc, ((b + 1 : Nat) : Int) ≤ c ∧ c < (m : Int))
      ⟨sm3, [], upd_same, .nil, (fun c hc => nomatch hc), fun c hc => nomatch hc⟩ (fun i H3 _ p => SqL.of (p.1 _ _ hg2)) ?_ ?_
    · intro i x H3 hx p
      obtain ⟨s3, acc, hacc, pacc, lacc, vacc⟩ := p
      rw [List.getElem?_map] at hx
      cases eg : gs[i]? with
      | none => rw [eg] at hx; cases hx
      | some g =>
        rw [eg] at hx
        cases hx
        have hi : i < gs.length := (List.getElem?_eq_some_iff.mp eg).1
        have hgb := vg g (List.mem_of_getElem? eg)
        have ht3 := ht.ext (.of (sm2.trans s3))
        obtain ⟨dx3, p3, hs3, _⟩ := ht3.slt
        refine ⟨rfl, _, rfl, _, rfl, a, dx3, _, rfl, hs3, a, .int g, .int g, m, r, rfl, ht3, .int g, fun n' e' n0 nm t H5 s5 ht5 => ⟨t, rfl, ⟨_, ht5⟩, ?_⟩, fun z => ?_⟩
        · cases e'
          have hD5 := s5 _ _ hacc
          refine itT (xs := (kids m r g).map V.int) (fun j H6 => ButD D H5 H6 ∧ ∃ acc' : List Int, H6 D = some (.lst (acc'.map V.int)) ∧ acc'.Pairwise (· < ·) ∧ (∀ c ∈ acc', c < (r : Int) * g + 1 + j) ∧ ∀ c ∈ acc', ((b + 1 : Nat) : Int) ≤ c ∧ c < (m : Int))
            ⟨ButD.refl, acc, hD5, pacc, (fun c hc => by have := lacc c hc i g (Nat.le_refl _) eg; omega), vacc⟩ (fun j H6 _ p => p.1.sqT hD5 ht5) ?_ ?_
          · intro j y H6 hy p6
            obtain ⟨s6, acc', hacc', pacc', lacc', vacc'⟩ := p6
            rw [List.getElem?_map] at hy
            cases ec : (kids m r g)[j]? with
            | none => rw [ec] at hy; cases hy
            | some c =>
              rw [ec] at hy
              cases hy
              have hce := kids_get ec
              have hc := kids_mem hm.2.1 n0 (List.mem_of_getElem? ec)
              have hlen := asc_len acc' _ _ pacc' vacc'
              refine ⟨rfl, _, rfl, _, hacc', ?_, s6.trans .upd, acc' ++ [c], ?_, ?_, ?_, ?_⟩
              · rw [List.length_map, p0]
                omega
              · rw [upd_same, List.map_append]
                rfl
              · rw [List.pairwise_append]
                refine ⟨pacc', List.pairwise_singleton _ _, fun d hd e he => ?_⟩
                rw [List.mem_singleton.mp he, hce]
                exact lacc' d hd
              · intro d hd
                rcases List.mem_append.mp hd with hd | hd
                · have := lacc' d hd
                  omega
                · rw [List.mem_singleton.mp hd]
                  omega
              · intro d hd
                rcases List.mem_append.mp hd with hd | hd
                · exact vacc' d hd
                · rw [List.mem_singleton.mp hd]
                  omega
          · intro H6 p6
            obtain ⟨s6, acc', hacc', pacc', lacc', vacc'⟩ := p6
            have kl := kids_len (m := m) (r := r) (p := g)
            rw [List.length_map] at lacc'
            refine ⟨ButD.same hD (s3.trans s5) s6, acc', hacc', pacc', fun c hc i' g' hi' eg' => ?_, vacc'⟩
            have h6 := lacc' c hc
            have hi2 : i' < gs.length := (List.getElem?_eq_some_iff.mp eg').1
            have hlt : g < g' := by
              have e1 := (List.getElem?_eq_some_iff.mp eg).2
              have e2 := (List.getElem?_eq_some_iff.mp eg').2
              rw [← e1, ← e2]
              exact List.pairwise_iff_getElem.mp asc i i' hi hi2 hi'
            have : (r : Int) * (g + 1) ≤ (r : Int) * g' := Int.mul_le_mul_of_nonneg_left (by omega) (by omega)
            rw [Int.mul_add, Int.mul_one] at this
            omega
        · have : isN (.int g) 0 ((m : Int) - 1) = true := by
            simp [isN]
            omega
          rw [this] at z
          cases z
    · intro H3 p
      obtain ⟨s3, acc, hacc, pacc, lacc, vacc⟩ := p
      refine ⟨12 - (b + 1), by omega, D, fs ++ gs, acc, b + 1, rfl, sm2.trans s3, fun z => ?_, s3 _ _ hf2, hacc, ?_, vacc, by rw [List.length_append]; omega, pacc, ?_, by omega, rfl⟩
      · rw [← z, hf2] at hD
        cases hD
      · intro c hc
        rcases List.mem_append.mp hc with hc | hc
        · exact vf c hc
        · have := vg c hc
          omega
      · left
        intro z
        have := (List.append_eq_nil_iff.mp z).2
        exact hgs this
end
end K7
/-! a Tree's size, height; faults *)-/
namespace K7
open PySem PySem.Spec PyProof.Rows L2
open LamX (Tabs TabS TabB ExtN CodeO lamEnv)
section
variable {w : World} {K : PySem.W.Frag} {mg : Str → Option Value} {base : Heap}
theorem sc_size : FnScope ["self", "place"] ["self", "place"] (defScope s_Tree_size) := ⟨rfl, rfl, rfl, by decide +kernel, rfl, by decide +kernel, by decide +kernel⟩
theorem F_size (T : TX K mg base) : FnR Pr w K mg base (LC w) 7 (a_Tree_size K) (spI K) := by
  obtain ⟨fd, F⟩ := T.f_Tree_size
  refine fnr_of (ps := ["self", "place"]) (N := ["self", "place"]) F (fun _ _ _ _ _ _ us hl => match us, hl with | [_, _], _ => rfl) sc_size (fun vs H Q E h => by obtain ⟨a, x, k, m, r, rfl, _⟩ := h; rfl) fun cdv A outer s H vs Q E hr h => ?_
  obtain ⟨a, x, k, m, r, rfl, ht, hk, h1, h2⟩ := h
  refine ⟨_, pss_one (ps_ret (pe_callB call_len_seq rfl T.n_len PySem.boot_len (pa_cons (SlX.pe_methSl (pv 0) T.c_Tree T.t_subtree (F_subtree T) hr pX (pa_cons (pv 1) pa_nil)) pa_nil))), ?_⟩
  obtain ⟨dx, p, hs, hp⟩ := ht.slt
  exact ⟨_, rfl, a, dx, _, rfl, hs, _, rfl, a, x, k, m, r, rfl, ht, hk, fun n e n0 nm t H' ns sm hT _ _ _ => ⟨t, _, rfl, .inr hT, h1 n e n0 nm _ H' sm⟩, h2⟩
theorem sc_height : FnScope ["self", "place", "one"] ["self", "place"] (defScope s_Tree_height) := ⟨rfl, rfl, rfl, by decide +kernel, rfl, by decide +kernel, by decide +kernel⟩
theorem F_height (T : TX K mg base) : FnR Pr w K mg base (LC w) 7 (a_Tree_height K) (spI K) := by
  obtain ⟨fd, F⟩ := T.f_Tree_height
  refine fnr_of (ps := ["self", "place"]) (N := ["self", "place", "one"]) F (fun _ _ _ _ _ _ us hl => match us, hl with | [_, _], _ => rfl) sc_height (fun vs H Q E h => by obtain ⟨a, x, k, m, r, rfl, _⟩ := h; rfl) fun cdv A outer s H vs Q E hr h => ?_
  obtain ⟨a, x, k, m, r, rfl, ht, hk, h1, h2⟩ := h
  refine ⟨_, pss_one (ps_ret (pe_op op_sub (pe_callB (cr_max rfl) rfl T.n_max (by decide +kernel) (pa_cons
      (pe_lc (own := [("one", 2)]) (g := gName 2) (tt := tYes) (te := SlX.tMethSl (a_Tree K) (spI K) E0 (tVar 0) (tCons (tVar 2) tNil)) rfl sc_height.nd (pi_tup (SlX.pe_methSl (pv 0) T.c_Tree T.t_subtree (F_subtree T) hr pX (pa_cons (pv 1) pa_nil)))
        (blkOk_by (own := [("one", 2)]) (N := ["self", "place", "one"]) (sc := defScope s_Tree_height) (by decide +kernel)) (fun _ _ _ _ _ => pg_name (i := 2) sc_height.nd rfl (Or.inl rfl)) (fun _ _ _ _ _ => pts_nil)
        (fun _ _ _ _ _ => SlX.pe_methSl (pv 0) T.c_Tree T.t_depth (F_depth T) (hr.mono (by decide)) passL (pa_cons (pv 2) pa_nil))) pa_nil))
    (SlX.pe_methSl (pv 0) T.c_Tree T.t_depth (F_depth T) (hr.mono (by decide)) pX (pa_cons (pv 1) pa_nil)))), ?_⟩
  obtain ⟨dx, p, hs, hp⟩ := ht.slt
  refine ⟨_, rfl, a, dx, _, rfl, hs, _, rfl, a, x, k, m, r, rfl, ht, hk, fun n e n0 nm t H1 ns s1 hT ne vn ln => ⟨t, rfl, ⟨_, hT⟩, fun D hD => ?_⟩, h2⟩
  subst e
  cases hk.int_eq
  have p0 : sizeLine = 4 ^ 12 := sizeLine_eq
  refine itT (xs := ns.map V.int) (fun i H3 => Same H1 H3 ∧ ∃ acc : List Int, H3 D = some (.lst (acc.map V.int)) ∧ acc.length = i) ⟨same_new hD, [], upd_same, rfl⟩ (fun i H3 _ p => extN_t (.of p.1) hT) ?_ ?_
  · intro i x H3 hx p
    obtain ⟨s3, acc, hacc, lacc⟩ := p
    rw [List.getElem?_map] at hx
    cases eg : ns[i]? with
    | none => rw [eg] at hx; cases hx
    | some g =>
      rw [eg] at hx
      cases hx
      have hi : i < ns.length := (List.getElem?_eq_some_iff.mp eg).1
      have hgb := vn g (List.mem_of_getElem? eg)
      have ht3 := ht.ext (.of (s1.trans s3))
      obtain ⟨dx3, p3, hs3, _⟩ := ht3.slt
      refine ⟨rfl, _, rfl, a, dx3, _, rfl, hs3, _, rfl, a, .int g, .int g, m, r, rfl, ht3, .int g, fun n' e' n0' nm' d H5 s5 => ⟨_, s5 _ _ hacc, ?_, fun c o ec => ?_, acc ++ [d], ?_, ?_⟩, fun z => ?_⟩
      · rw [List.length_map, p0]
        omega
      · have q := s5 _ _ (s3 _ _ ec)
        rw [upd_ne (fun z => by rw [z, hD] at ec; cases ec)]
        exact q
      · rw [upd_same, List.map_append]
        rfl
      · simp
        omega
      · have : isN (.int g) 0 ((m : Int) - 1) = true := by
          simp [isN]
          omega
        rw [this] at z
        cases z
  · intro H3 p
    obtain ⟨s3, acc, hacc, lacc⟩ := p
    rw [List.length_map] at lacc
    have ht3 := ht.ext (.of (s1.trans s3))
    obtain ⟨dx3, p3, hs3, _⟩ := ht3.slt
    refine ⟨D, acc, rfl, SqL.of hacc, ?_, fun mx _ _ => ⟨_, rfl, a, dx3, _, rfl, hs3, _, rfl, a, .int n, .int n, m, r, rfl, ht3, .int n, fun n' e' n0' nm' d H5 s5 => ⟨_, _, rfl, rfl, h1 n rfl n0 nm _ H5 (s1.trans (s3.trans s5))⟩, fun z => ?_⟩⟩
    · rw [lacc]
      cases ns with
      | nil => exact absurd rfl ne
      | cons _ _ => simp
    · have : isN (.int n) 0 ((m : Int) - 1) = true := by
        simp [isN]
        omega
      rw [this] at z
      cases z
end
end K7
/-! faults and falls *)-/
namespace K7
open PySem PySem.Spec PyProof.Rows L2
open LamX (Tabs TabS TabB ExtN CodeO lamEnv)
theorem rIx_S {K : PySem.W.Frag} {H : Hp} {a : Addr} {xs : List V} {i : Int} {v : V} {Q : VK} (h : SqS K H a xs) (e : atI xs i = some v) (q : Q v H) : rIx K (.ref a) (.int i) H Q := by
  rcases h with h | h
  · exact .inl ⟨a, xs, i, v, rfl, rfl, h, e, q⟩
  · exact .inr (.inl ⟨a, xs, i, v, rfl, rfl, h, e, q⟩)
theorem at_ints {ns : List Int} {i : Nat} (h : i < ns.length) : atI (ns.map V.int) (i : Nat) = some (V.int (ns.getD i 0)) := by
  refine atI_nat ?_
  rw [List.getElem?_map, List.getElem?_eq_getElem h]
  simp [List.getD, h]
/-- the parent of p -/
def par (r : Nat) (p : Int) : Int := (p - 1).fdiv (r : Int)
theorem par_lt {r : Nat} {p : Int} (hr : 1 ≤ r) (hp : 0 < p) : 0 ≤ par r p ∧ par r p < p := by
  unfold par
  have h1 : 0 ≤ (p - 1).fdiv r := Int.fdiv_nonneg (by omega) (by omega)
  have h2 : (p - 1).fdiv r ≤ p - 1 := by
    rw [Int.fdiv_eq_ediv_of_nonneg _ (by omega)]
    exact Int.ediv_le_self _ (by omega)
  omega
/-- a fault at p -/
def fB (r : Nat) (ns : List Int) (p : Nat) : Bool := decide (0 < p) && decide (ns.getD p 0 < ns.getD (par r (p : Nat)).toNat 0)
def faultsI (r : Nat) (ns : List Int) (i : Nat) : List Int := ((List.range i).filter (fB r ns)).map fun p : Nat => (p : Int)
theorem faultsI_succ (r : Nat) (ns : List Int) (i : Nat) : faultsI r ns (i + 1) = if fB r ns i = true then faultsI r ns i ++ [(i : Int)] else faultsI r ns i := by
  unfold faultsI
  rw [List.range_succ, List.filter_append, List.map_append]
  cases h : fB r ns i <;> simp [h]
theorem faultsI_len (r : Nat) (ns : List Int) (i : Nat) : (faultsI r ns i).length ≤ i := by
  unfold faultsI
  rw [List.length_map]
  have := List.length_filter_le (fB r ns) (List.range i)
  rw [List.length_range] at this
  exact this
section
variable {w : World} {K : PySem.W.Frag} {mg : Str → Option Value} {base : Heap}
theorem sc_faults_in : FnScope ["row", "tree", "place"] ["row", "tree"] (defScope s_faults_in) := ⟨rfl, rfl, rfl, by decide +kernel, rfl, by decide +kernel, by decide +kernel⟩
def spFIn (K : PySem.W.Frag) : Sp := fun vs H Q E => ∃ a t ns r, vs = [V.ref a, V.ref t] ∧ SqS K H a (ns.map V.int) ∧ TreeAt K H t ns.length r ∧ ∀ l H', Same H H' → H' l = some (.lst ((faultsI r ns ns.length).map V.int)) → Q (.ref l) H'
theorem F_faults_in (T : TX K mg base) : FnR Pr w K mg base (LC w) 5 (a_faults_in K) (spFIn K) := by
  obtain ⟨fd, F⟩ := T.f_faults_in
  refine fnr_of (ps := ["row", "tree"]) (N := ["row", "tree", "place"]) F (fun _ _ _ _ _ _ us hl => match us, hl with | [_, _], _ => rfl) sc_faults_in (fun vs H Q E h => by obtain ⟨a, t, ns, r, rfl, _⟩ := h; rfl) fun cdv A outer s H vs Q E hr h => ?_
  obtain ⟨a, t, ns, r, rfl, hq, ht, h1⟩ := h
  refine ⟨_, pss_one (ps_ret (pe_lc (own := [("place", 2)]) (g := gName 2) (tt := tAnd (tTest (tOp (rI0 fun i j => V.bl (decide (j < i))) (tVar 2) (tC (.int 0)))) (tTest (tOp (rI0 fun i j => V.bl (decide (i < j))) (tOp (rIx K) (tVar 0) (tVar 2)) (tOp (rIx K) (tVar 0) (SlX.tMethSl (a_Tree K) (spPar K) E0 (tVar 1) (tCons (tVar 2) tNil))))))
      rfl sc_faults_in.nd (pi_tree T (hr.mono (by decide)) (pv 1))
      (blkOk_by (own := [("place", 2)]) (N := ["row", "tree", "place"]) (sc := defScope s_faults_in) (by decide +kernel)) (fun _ _ _ _ _ => pg_name (i := 2) sc_faults_in.nd rfl (Or.inl rfl))
      (fun _ _ _ _ _ => pts_one (PW.pt (pw_and (pt_cmpR op_gt (pv 2) pe_int (nomark _)) (pw_and1 (pt_cmpR op_lt (pe_ix ix_seq (pv 0) (pv 2) (fun _ _ => rfl)) (pe_ix ix_seq (pv 0) (SlX.pe_methSl (pv 1) T.c_Tree T.t_parent (F_parent T) hr passL (pa_cons (pv 2) pa_nil)) (fun _ _ => rfl)) (nomark _))))))
      (fun _ _ _ _ _ => pv 2))), ?_⟩
  have p0 : sizeLine = 4 ^ 12 := sizeLine_eq
  have hm : ns.length ≤ 12 ∧ 1 ≤ r ∧ r ≤ 4 := by obtain ⟨_, _, _, _, _, z⟩ := ht; exact z
  refine ⟨_, rfl, t, ns.length, r, rfl, ht, fun p hp D hD => itT (xs := rg ns.length) (fun i H3 => Same H H3 ∧ H3 D = some (.lst ((faultsI r ns i).map V.int))) ⟨same_new hD, upd_same⟩ (fun i H3 _ q => extN_t (.of q.1) hp) ?_ ?_⟩
  · intro i x H3 hx q
    obtain ⟨s3, hacc⟩ := q
    have hi : i < ns.length := by
      have := (List.getElem?_eq_some_iff.mp hx).1
      rwa [rg_length] at this
    rw [rg_get hi] at hx
    cases hx
    have ht3 := ht.ext (.of s3)
    have hq3 := hq.ext (.of s3)
    obtain ⟨dx3, p3, hs3, _⟩ := ht3.slt
    refine ⟨rfl, _, rfl, _, _, rfl, rfl, _, rfl, ?_⟩
    have fs := faultsI_succ r ns i
    by_cases h0 : 0 < i
    · have e0 : decide ((0 : Int) < ((i : Nat) : Int)) = true := decide_eq_true (by omega)
      rw [e0]
      have hp' := par_lt (r := r) (p := (i : Int)) hm.2.1 (by omega)
      obtain ⟨j, ej⟩ := Int.eq_ofNat_of_zero_le hp'.1
      have ej' : ((i : Int) - 1).fdiv (r : Int) = (j : Nat) := ej
      refine iteT ⟨_, rfl, _, rfl, rIx_S hq3 (at_ints hi) ⟨_, rfl, _, rfl, t, dx3, _, rfl, hs3, _, rfl, t, .int i, .int i, ns.length, r, rfl, ht3, .int i, fun n' e' n0 nm => ?_, fun z => ?_⟩⟩
      · cases e'
        rw [if_pos (show (0 : Int) < ((i : Nat) : Int) by omega), ej']
        have hj : j < ns.length := by omega
        refine rIx_S hq3 (at_ints hj) ⟨_, _, rfl, rfl, _, rfl, ?_⟩
        have ef : fB r ns i = decide (ns.getD i 0 < ns.getD j 0) := by
          unfold fB
          rw [ej, decide_eq_true h0]
          rfl
        rw [← ef]
        cases hb : fB r ns i with
        | true =>
          refine iteT ⟨_, rfl, _, hacc, ?_, fun c o ec => ?_, ?_⟩
          · have := faultsI_len r ns i
            rw [List.length_map, p0]
            omega
          · rw [upd_ne (fun z => by rw [z, hD] at ec; cases ec)]
            exact s3 _ _ ec
          · rw [upd_same, fs, if_pos hb, List.map_append]
            rfl
        | false =>
          refine iteF ⟨s3, ?_⟩
          rw [hacc, fs, if_neg (by rw [hb]; exact Bool.false_ne_true)]
      · have : isN (.int i) 0 ((ns.length : Int) - 1) = true := by
          simp [isN]
          omega
        rw [this] at z
        cases z
    · have e0 : decide ((0 : Int) < ((i : Nat) : Int)) = false := decide_eq_false (by omega)
      rw [e0]
      have ef : fB r ns i = false := by
        unfold fB
        rw [decide_eq_false h0]
        rfl
      refine iteF (iteF ⟨s3, ?_⟩)
      rw [hacc, fs, if_neg (by rw [ef]; exact Bool.false_ne_true)]
  · intro H3 q
    obtain ⟨s3, hacc⟩ := q
    rw [rg_length] at hacc
    exact h1 D H3 s3 hacc
end
end K7
/-! the doors of rows *)-/
namespace K7
open PySem PySem.Spec PyProof.Rows L2
open LamX (Tabs TabS TabB ExtN CodeO lamEnv)
theorem ml (ns : List Int) : (((ns.map V.int).length : Nat) : Int) = ((ns.length : Nat) : Int) := by rw [List.length_map]
structure RowOk (kx ky : KV) (ns : List Int) (r : Nat) : Prop where
  row : rowOf kx = some (ns.map V.int)
  len : ns.length ≤ 12
  key : ∀ n ∈ ns, -1000000000 ≤ n ∧ n ≤ 1000000000
  arm : ky = .int r
  r1 : 1 ≤ r
  r4 : r ≤ 4
theorem keys_ints : ∀ xs : List V, (∀ x ∈ xs, isKV x = true) → ∃ ns : List Int, xs = ns.map V.int ∧ ∀ n ∈ ns, -1000000000 ≤ n ∧ n ≤ 1000000000
  | [], _ => ⟨[], rfl, fun _ h => nomatch h⟩
  | x :: xs, h => by
    obtain ⟨ns, e, hn⟩ := keys_ints xs fun y hy => h y (List.mem_cons_of_mem _ hy)
    have hx := h x List.mem_cons_self
    cases x with
    | int n =>
      simp [isKV] at hx
      refine ⟨n :: ns, by rw [e]; rfl, fun m hm => ?_⟩
      rcases List.mem_cons.mp hm with rfl | hm
      · exact hx
      · exact hn m hm
    | _ => cases hx
theorem rowOk_of {kx ky : KV} (h1 : isN ky 1 4 = true) (h2 : rowErr kx = none) : ∃ ns r, RowOk kx ky ns r := by
  obtain ⟨xs, ex, hl, hk⟩ := rowErr_none h2
  obtain ⟨ns, rfl, hn⟩ := keys_ints xs hk
  obtain ⟨r, rfl, r1, r2⟩ := isN_int h1
  obtain ⟨r, rfl⟩ := Int.eq_ofNat_of_zero_le (show 0 ≤ r by omega)
  rw [List.length_map] at hl
  exact ⟨ns, r, ex, hl, hn, rfl, by omega, by omega⟩
/-- the refusals of arms and of a row -/
def preR (K : PySem.W.Frag) (kx ky : KV) (H : Hp) (E : XK) : Prop := (isN ky 1 4 = false → ∀ H', Same H H' → E (.ref (a_BadArms K)) none H') ∧
  (isN ky 1 4 = true → ∀ v, rowErr kx = some v → ∀ H' d, Same H H' → H' d = some (.xd [("index", v)]) → E (.ref (a_BadRow K)) (some d) H')
theorem mkTree_good {K : PySem.W.Frag} {n : Int} {m r : Nat} {H : Hp} {Q : VK} {E : XK} (e : n = m) (hm : m ≤ 12) (r1 : 1 ≤ r) (r4 : r ≤ 4) (h : ∀ a H', Same H H' → TreeAt K H' a m r → Q (.ref a) H') : spMkTree K (.int n) (.int r) H Q E := by
  subst e
  refine ⟨_, _, .int _, .int _, fun z => ?_, fun _ z => ?_, fun _ _ m' r' em er a2 H' sm t => ?_⟩
  · simp [isN] at z
    omega
  · simp [isN] at z
    omega
  · have e1 : m = m' := by injection em with em; omega
    have e2 : r = r' := by injection er with er; omega
    subst e1 e2
    exact h a2 H' sm t
theorem mkTree_g {K : PySem.W.Frag} {n : Int} {m r : Nat} {H : Hp} {E : XK} {a dx : Addr} {P : Hp → Prop} (ha : H a = none) (hd : H dx = none) (nd : dx ≠ a) (e : n = m) (hm : m ≤ 12) (r1 : 1 ≤ r) (r4 : r ≤ 4) (h : ∀ H', Same H H' → TreeAt K H' a m r → P H') :
    spTreeInit K [V.ref a, .int n, .int r] (upd (upd H dx (.own a)) a (.ins (a_Tree K) dx [])) (fun v H3 => v = .non ∧ P H3) E :=
  mkTree_ok (Q := fun x H3 => x = .ref a → P H3) (mkTree_good e hm r1 r4 fun a2 H' s t e2 => by cases e2; exact h H' s t) a dx ha hd nd |> fun z => by
    obtain ⟨a', dx', x, y, kx, ky, e1, h1, h2, h3, h4, h5, h6, h7⟩ := z
    exact ⟨a', dx', x, y, kx, ky, e1, h1, h2, h3, h4, h5, h6, fun u1 u2 m' r' u3 u4 H' k t => ⟨rfl, (h7 u1 u2 m' r' u3 u4 H' k t).2 rfl⟩⟩
section
variable {w : World} {K : PySem.W.Frag} {mg : Str → Option Value} {base : Heap}
theorem sc_check_heap : FnScope ["row", "arms", "found"] ["row", "arms"] (defScope s_check_heap) := ⟨rfl, rfl, rfl, by decide +kernel, rfl, by decide +kernel, by decide +kernel⟩
/-- a heap or not -/
def spHeap (K : PySem.W.Frag) : Sp := fun vs H Q E => ∃ x y kx ky, vs = [x, y] ∧ Kd K H x kx ∧ Kd K H y ky ∧ preR K kx ky H E ∧ (∀ ns r, RowOk kx ky ns r → (faultsI r ns ns.length = [] → ∀ H', Same H H' → Q .non H') ∧
  (∀ p rest, faultsI r ns ns.length = p :: rest → ∀ H' d, Same H H' → H' d = some (.xd [("place", V.int p)]) → E (.ref (a_NotHeap K)) (some d) H'))
theorem F_check_heap (T : TX K mg base) : FnR Pr w K mg base (LC w) 6 (a_check_heap K) (spHeap K) := by
  obtain ⟨fd, F⟩ := T.f_check_heap
  refine fnr_of (ps := ["row", "arms"]) (N := ["row", "arms", "found"]) F (fun _ _ _ _ _ _ us hl => match us, hl with | [_, _], _ => rfl) sc_check_heap (fun vs H Q E h => by obtain ⟨x, y, kx, ky, rfl, _⟩ := h; rfl) fun cdv A outer s H vs Q E hr h => ?_
  obtain ⟨x, y, kx, ky, rfl, hx, hy, ⟨pA, pR⟩, h1⟩ := h
  refine ⟨_, pss_cons (ps_expr (pe_cl (F_check_arms T) (hr.mono (by decide)) rfl T.g_check_arms (kpF T.f_check_arms) pX (pa_cons (pv 1) pa_nil)))
    (pss_cons (ps_expr (pe_cl (F_check_row T) (hr.mono (by decide)) rfl T.g_check_row (kpF T.f_check_row) pX (pa_cons (pv 0) pa_nil)))
    (pss_cons (ps_set (i := 2) sc_check_heap.nd rfl (.inl rfl) (pe_cl (F_faults_in T) hr rfl T.g_faults_in (kpF T.f_faults_in) pX (pa_cons (pv 0) (pa_cons
      (pe_mkTree rfl T (hr.mono (by decide)) rfl pX (pa_cons (pe_callB call_len_seq rfl T.n_len PySem.boot_len (pa_cons (pv 0) pa_nil)) pa_nil) (pk_cons (pv 1) pk_nil)) pa_nil))))
    (pss_one (ps_if (pt_cmpR (op_neD hr.units) (pv 2) (pe_lst pa_nil) (nomark _)) (pss_one (ps_raise rfl (takes_of rfl rfl rfl rfl) (pmk_bad (bad_heap T) T.g_NotHeap T.n_super hr (pa_cons (pe_ix ix_list (pv 2) pe_int (fun _ _ => rfl)) pa_nil) rfl))) pss_nil)))), ?_⟩
  refine ⟨_, rfl, y, ky, rfl, hy, fun e1 => ?_, fun e1 => pA e1 H (Same.refl H)⟩
  refine ⟨_, rfl, x, kx, rfl, hx, fun e2 H2 s2 => ?_, fun v ev H2 d s2 hd => pR e1 v ev H2 d s2 hd⟩
  obtain ⟨ns, r, R⟩ := rowOk_of e1 e2
  obtain ⟨a, rfl, hq, _⟩ := hx.sq R.row
  have ey := R.arm
  subst ey
  cases hy.int_eq
  refine ⟨_, rfl, _, rfl, a, _, rfl, hq.ext (.of s2), _, rfl, rfl, rfl, fun t dx ha hd nd => mkTree_g ha hd nd (ml ns) R.len R.r1 R.r4 fun H3 s3 ht => ?_⟩
  have s23 := s2.trans s3
  refine ⟨a, t, ns, r, rfl, hq.ext (.of s23), ht, fun l H4 s4 hl => ?_⟩
  have s234 := s23.trans s4
  refine ⟨_, rfl, (by decide : 0 ≤ sizeLine), fun q hq => neL (ms := []) (SqL.of (by rw [upd_ne (ne_of_none hl hq)]; exact hl)) (SqL.of upd_same) ⟨_, rfl, ?_⟩⟩
  obtain ⟨g1, g2⟩ := h1 ns r R
  have s5 := s234.trans (same_new (o := .lst []) hq)
  have hl5 : upd H4 q (.lst []) l = some (.lst ((faultsI r ns ns.length).map V.int)) := by rw [upd_ne (ne_of_none hl hq)]; exact hl
  cases ef : faultsI r ns ns.length with
  | nil => exact iteF (g1 ef _ s5)
  | cons p rest =>
    rw [ef] at hl5
    refine iteT ⟨_, rfl, l, _, _, _, rfl, rfl, SqL.of hl5, atI_nat (j := 0) rfl, _, rfl, fun d hd => g2 p rest ef _ d (s5.trans (same_new hd)) upd_same⟩
theorem sc_faults : FnScope ["row", "arms"] ["row", "arms"] (defScope s_faults) := ⟨rfl, rfl, rfl, by decide +kernel, rfl, by decide +kernel, by decide +kernel⟩
def spFaults (K : PySem.W.Frag) : Sp := fun vs H Q E => ∃ x y kx ky, vs = [x, y] ∧ Kd K H x kx ∧ Kd K H y ky ∧ preR K kx ky H E ∧ (∀ ns r, RowOk kx ky ns r → ∀ l H', Same H H' → H' l = some (.lst ((faultsI r ns ns.length).map V.int)) → Q (.ref l) H')
theorem F_faults (T : TX K mg base) : FnK Pr w K mg base (LC w) 6 (a_faults K) 1 ["arms"] (spFaults K) := by
  obtain ⟨fd, F⟩ := T.f_faults
  refine (fnk_of (w := w) (mg := mg) (base := base) (ps := ["row", "arms"]) (N := ["row", "arms"]) (ks := ["arms"]) (n := 1) (k := 5) (sp := spFaults K) F (by simp) (fun _ _ _ _ _ _ us ws l1 l2 => match us, ws, l1, l2 with | [_], [_], _, _ => rfl) sc_faults
    (fun vs H Q E h => by obtain ⟨x, y, kx, ky, rfl, _⟩ := h; rfl) fun cdv A outer s H vs Q E hr h => ?_).2.2
  obtain ⟨x, y, kx, ky, rfl, hx, hy, ⟨pA, pR⟩, h1⟩ := h
  refine ⟨_, pss_cons (ps_expr (pe_cl (F_check_arms T) (hr.mono (by decide)) rfl T.g_check_arms (kpF T.f_check_arms) pX (pa_cons (pv 1) pa_nil)))
    (pss_cons (ps_expr (pe_cl (F_check_row T) (hr.mono (by decide)) rfl T.g_check_row (kpF T.f_check_row) pX (pa_cons (pv 0) pa_nil)))
    (pss_one (ps_ret (pe_cl (F_faults_in T) hr rfl T.g_faults_in (kpF T.f_faults_in) pX (pa_cons (pv 0) (pa_cons
      (pe_mkTree rfl T (hr.mono (by decide)) rfl pX (pa_cons (pe_callB call_len_seq rfl T.n_len PySem.boot_len (pa_cons (pv 0) pa_nil)) pa_nil) (pk_cons (pv 1) pk_nil)) pa_nil)))))), ?_⟩
  refine ⟨_, rfl, y, ky, rfl, hy, fun e1 => ?_, fun e1 => pA e1 H (Same.refl H)⟩
  refine ⟨_, rfl, x, kx, rfl, hx, fun e2 H2 s2 => ?_, fun v ev H2 d s2 hd => pR e1 v ev H2 d s2 hd⟩
  obtain ⟨ns, r, R⟩ := rowOk_of e1 e2
  obtain ⟨a, rfl, hq, _⟩ := hx.sq R.row
  have ey := R.arm
  subst ey
  cases hy.int_eq
  refine ⟨_, rfl, _, rfl, a, _, rfl, hq.ext (.of s2), _, rfl, rfl, rfl, fun t dx ha hd nd => mkTree_g ha hd nd (ml ns) R.len R.r1 R.r4 fun H3 s3 ht => ?_⟩
  exact ⟨a, t, ns, r, rfl, hq.ext (.of (s2.trans s3)), ht, fun l H4 s4 hl => h1 ns r R l H4 ((s2.trans s3).trans s4) hl⟩
/-- a door that refuses arms and rows, and else answers -/
def spDoor (K : PySem.W.Frag) : Sp := fun vs H Q E => ∃ x y kx ky, vs = [x, y] ∧ Kd K H x kx ∧ Kd K H y ky ∧ preR K kx ky H E ∧ (∀ ns r, RowOk kx ky ns r → ∀ v H', Same H H' → Q v H')
theorem sc_is_heap : FnScope ["row", "arms"] ["row", "arms"] (defScope s_is_heap) := ⟨rfl, rfl, rfl, by decide +kernel, rfl, by decide +kernel, by decide +kernel⟩
theorem F_is_heap (T : TX K mg base) : FnK Pr w K mg base (LC w) 7 (a_is_heap K) 1 ["arms"] (spDoor K) := by
  obtain ⟨fd, F⟩ := T.f_is_heap
  refine (fnk_of (w := w) (mg := mg) (base := base) (ps := ["row", "arms"]) (N := ["row", "arms"]) (ks := ["arms"]) (n := 1) (k := 6) (sp := spDoor K) F (by simp) (fun _ _ _ _ _ _ us ws l1 l2 => match us, ws, l1, l2 with | [_], [_], _, _ => rfl) sc_is_heap
    (fun vs H Q E h => by obtain ⟨x, y, kx, ky, rfl, _⟩ := h; rfl) fun cdv A outer s H vs Q E hr h => ?_).2.2
  obtain ⟨x, y, kx, ky, rfl, hx, hy, ⟨pA, pR⟩, h1⟩ := h
  refine ⟨_, pss_one (ps_ret (pe_cmpR (op_eqD hr.units) (pe_clK (F_faults T) hr rfl T.g_faults (kpF T.f_faults) pX (pa_cons (pv 0) pa_nil) (pk_cons (pv 1) pk_nil)) (pe_lst pa_nil) (nomark _))), ?_⟩
  refine ⟨_, rfl, _, rfl, rfl, rfl, x, y, kx, ky, rfl, hx, hy, ⟨pA, pR⟩, fun ns r R l H2 s2 hl => ?_⟩
  refine ⟨(by decide : 0 ≤ sizeLine), fun q hq => eqL (ms := []) (SqL.of (by rw [upd_ne (ne_of_none hl hq)]; exact hl)) (SqL.of upd_same) ?_⟩
  exact h1 ns r R _ _ (s2.trans (same_new hq))
end
end K7
/-! falls, ranks *)-/
namespace K7
open PySem PySem.Spec PyProof.Rows L2
open LamX (Tabs TabS TabB ExtN CodeO lamEnv)
section
variable {w : World} {K : PySem.W.Frag} {mg : Str → Option Value} {base : Heap}
theorem sc_falls_in : FnScope ["row", "tree", "one", "other"] ["row", "tree"] (defScope s_falls_in) := ⟨rfl, rfl, rfl, by decide +kernel, rfl, by decide +kernel, by decide +kernel⟩
def spFallIn (K : PySem.W.Frag) : Sp := fun vs H Q E => ∃ (a t : Addr) (ns : List Int) (r : Nat), vs = [V.ref a, V.ref t] ∧ SqS K H a (ns.map V.int) ∧ TreeAt K H t ns.length r ∧ ∀ v H', Same H H' → Q v H'
theorem F_falls_in (T : TX K mg base) : FnR Pr w K mg base (LC w) 7 (a_falls_in K) (spFallIn K) := by
  obtain ⟨fd, F⟩ := T.f_falls_in
  refine fnr_of (ps := ["row", "tree"]) (N := ["row", "tree", "one", "other"]) F (fun _ _ _ _ _ _ us hl => match us, hl with | [_, _], _ => rfl) sc_falls_in (fun vs H Q E h => by obtain ⟨a, t, ns, r, rfl, _⟩ := h; rfl) fun cdv A outer s H vs Q E hr h => ?_
  obtain ⟨a, t, ns, r, rfl, hq, ht, h1⟩ := h
  refine ⟨_, pss_one (ps_ret (pe_lc2 (own := [("one", 2), ("other", 3)]) (vs1 := [3]) (g := gName 2) (g1 := gName 3) (tt := tYes) (tt1 := tTest (tOp (rI0 fun i j => V.bl (decide (i < j))) (tOp (rIx K) (tVar 0) (tVar 3)) (tOp (rIx K) (tVar 0) (tVar 2))))
      (wi1 := iTup K (SlX.tMethSl (a_Tree K) (spSub K) E0 (tVar 1) (tCons (tVar 2) tNil))) (te := tTup (tCons (tVar 2) (tCons (tVar 3) tNil)))
      rfl sc_falls_in.nd (pi_tree T (hr.mono (by decide)) (pv 1))
      (blkOk_by (own := [("one", 2), ("other", 3)]) (N := ["row", "tree", "one", "other"]) (sc := defScope s_falls_in) (by decide +kernel)) (by decide)
      (fun _ _ _ _ _ => pg_name (i := 2) sc_falls_in.nd rfl (Or.inl rfl)) (fun _ _ _ _ _ => pts_nil)
      (fun _ _ _ _ _ => pi_tup (SlX.pe_methSl (pv 1) T.c_Tree T.t_subtree (F_subtree T) hr passL (pa_cons (pv 2) pa_nil))) (fun _ _ _ _ _ => pg_name (i := 3) sc_falls_in.nd rfl (Or.inl rfl))
      (fun _ _ _ _ _ => pts_one (pt_cmpR op_lt (pe_ix ix_seq (pv 0) (pv 3) (fun _ _ => rfl)) (pe_ix ix_seq (pv 0) (pv 2) (fun _ _ => rfl)) (nomark _)))
      (fun _ _ _ _ _ => pe_tup (pa_cons (pv 2) (pa_cons (pv 3) pa_nil))))), ?_⟩
  have p0 : sizeLine = 4 ^ 12 := sizeLine_eq
  have hm : ns.length ≤ 12 ∧ 1 ≤ r ∧ r ≤ 4 := by obtain ⟨_, _, _, _, _, z⟩ := ht; exact z
  refine ⟨_, rfl, t, ns.length, r, rfl, ht, fun p hp D hD => itT (xs := rg ns.length) (fun i H3 => Same H H3 ∧ ∃ acc : List V, H3 D = some (.lst acc) ∧ acc.length ≤ 144 * i) ⟨same_new hD, [], upd_same, by simp⟩ (fun i H3 _ q => extN_t (.of q.1) hp) ?_ ?_⟩
  · intro i x H3 hx q
    obtain ⟨s3, acc, hacc, lacc⟩ := q
    have hi : i < ns.length := by
      have := (List.getElem?_eq_some_iff.mp hx).1
      rwa [rg_length] at this
    rw [rg_get hi] at hx
    cases hx
    have ht3 := ht.ext (.of s3)
    obtain ⟨dx3, p3, hs3, _⟩ := ht3.slt
    refine ⟨rfl, _, rfl, t, dx3, _, rfl, hs3, _, rfl, t, .int i, .int i, ns.length, r, rfl, ht3, .int i, fun n' e' n0 nm t5 H5 ms s5 ht5 ne vm lm => ⟨t5, rfl, ⟨_, ht5⟩, ?_⟩, fun z => ?_⟩
    · cases e'
      have hD5 := s5 _ _ hacc
      refine itT (xs := ms.map V.int) (fun j H6 => ButD D H5 H6 ∧ ∃ acc' : List V, H6 D = some (.lst acc') ∧ acc'.length ≤ 144 * i + j) ⟨ButD.refl, acc, hD5, lacc⟩ (fun j H6 _ p => p.1.sqT hD5 ht5) ?_ ?_
      · intro j y H6 hy p6
        obtain ⟨s6, acc', hacc', lacc'⟩ := p6
        rw [List.getElem?_map] at hy
        cases ec : ms[j]? with
        | none => rw [ec] at hy; cases hy
        | some c =>
          rw [ec] at hy
          cases hy
          have hc := vm c (List.mem_of_getElem? ec)
          have hj : j < ms.length := (List.getElem?_eq_some_iff.mp ec).1
          have hq6 : SqS K H6 a (ns.map V.int) := hq.ext (.of (ButD.same hD (s3.trans s5) s6))
          obtain ⟨cn, rfl⟩ := Int.eq_ofNat_of_zero_le hc.1
          refine ⟨rfl, _, rfl, _, rfl, rIx_S hq6 (at_ints (by omega)) ⟨_, rfl, _, rfl, rIx_S hq6 (at_ints hi) ⟨_, _, rfl, rfl, _, rfl, ?_⟩⟩⟩
          by_cases hb : ns.getD cn 0 < ns.getD i 0
          · rw [decide_eq_true hb]
            refine iteT ⟨_, rfl, _, rfl, sz2, fun q hq => ⟨_, (same_new hq) _ _ hacc', ?_, (s6.trans (.of (same_new hq))).trans .upd, _, upd_same, ?_⟩⟩
            · rw [p0]
              omega
            · rw [List.length_append]
              simp
              omega
          · rw [decide_eq_false hb]
            exact iteF ⟨s6, acc', hacc', by omega⟩
      · intro H6 p6
        obtain ⟨s6, acc', hacc', lacc'⟩ := p6
        rw [List.length_map] at lacc'
        exact ⟨ButD.same hD (s3.trans s5) s6, acc', hacc', by omega⟩
    · have : isN (.int i) 0 ((ns.length : Int) - 1) = true := by
        simp [isN]
        omega
      rw [this] at z
      cases z
  · intro H3 q
    exact h1 _ H3 q.1
theorem sc_falls : FnScope ["row", "arms"] ["row", "arms"] (defScope s_falls) := ⟨rfl, rfl, rfl, by decide +kernel, rfl, by decide +kernel, by decide +kernel⟩
theorem F_falls (T : TX K mg base) : FnK Pr w K mg base (LC w) 8 (a_falls K) 1 ["arms"] (spDoor K) := by
  obtain ⟨fd, F⟩ := T.f_falls
  refine (fnk_of (w := w) (mg := mg) (base := base) (ps := ["row", "arms"]) (N := ["row", "arms"]) (ks := ["arms"]) (n := 1) (k := 7) (sp := spDoor K) F (by simp) (fun _ _ _ _ _ _ us ws l1 l2 => match us, ws, l1, l2 with | [_], [_], _, _ => rfl) sc_falls
    (fun vs H Q E h => by obtain ⟨x, y, kx, ky, rfl, _⟩ := h; rfl) fun cdv A outer s H vs Q E hr h => ?_).2.2
  obtain ⟨x, y, kx, ky, rfl, hx, hy, ⟨pA, pR⟩, h1⟩ := h
  refine ⟨_, pss_cons (ps_expr (pe_cl (F_check_arms T) (hr.mono (by decide)) rfl T.g_check_arms (kpF T.f_check_arms) pX (pa_cons (pv 1) pa_nil)))
    (pss_cons (ps_expr (pe_cl (F_check_row T) (hr.mono (by decide)) rfl T.g_check_row (kpF T.f_check_row) pX (pa_cons (pv 0) pa_nil)))
    (pss_one (ps_ret (pe_cl (F_falls_in T) hr rfl T.g_falls_in (kpF T.f_falls_in) pX (pa_cons (pv 0) (pa_cons
      (pe_mkTree rfl T (hr.mono (by decide)) rfl pX (pa_cons (pe_callB call_len_seq rfl T.n_len PySem.boot_len (pa_cons (pv 0) pa_nil)) pa_nil) (pk_cons (pv 1) pk_nil)) pa_nil)))))), ?_⟩
  refine ⟨_, rfl, y, ky, rfl, hy, fun e1 => ?_, fun e1 => pA e1 H (Same.refl H)⟩
  refine ⟨_, rfl, x, kx, rfl, hx, fun e2 H2 s2 => ?_, fun v ev H2 d s2 hd => pR e1 v ev H2 d s2 hd⟩
  obtain ⟨ns, r, R⟩ := rowOk_of e1 e2
  obtain ⟨a, rfl, hq, _⟩ := hx.sq R.row
  have ey := R.arm
  subst ey
  cases hy.int_eq
  refine ⟨_, rfl, _, rfl, a, _, rfl, hq.ext (.of s2), _, rfl, rfl, rfl, fun t dx ha hd nd => mkTree_g ha hd nd (ml ns) R.len R.r1 R.r4 fun H3 s3 ht => ?_⟩
  exact ⟨a, t, ns, r, rfl, hq.ext (.of (s2.trans s3)), ht, fun v H4 s4 => h1 ns r R v H4 ((s2.trans s3).trans s4)⟩
end
end K7
/-! ranks *)-/
namespace K7
open PySem PySem.Spec PyProof.Rows L2
open LamX (Tabs TabS TabB ExtN CodeO lamEnv)
/-- J walks enumerate(row) -/
structure EnJ (K : PySem.W.Frag) (xs : List V) (H : Hp) (J : It) : Prop where
  go : ∀ i H', i < xs.length → ExtN H H' → J.go i H'
  stop : ∀ H', ExtN H H' → J.stop xs.length H'
  yld : ∀ i H' v H2, i < xs.length → ExtN H H' → J.yld i H' v H2 → ∃ T x, v = .ref T ∧ H' T = none ∧ H2 = upd H' T (.tup [.int (i : Nat), x]) ∧ xs[i]? = some x
theorem en_L {K : PySem.W.Frag} {H : Hp} {a : Addr} {xs : List V} (hk : SqL K H a xs) : EnJ K xs H (Ite K a) :=
  ⟨fun i H' hi e => ⟨xs, xs[i], extN_l e hk, by simp [hi]⟩, fun H' e => ⟨xs, extN_l e hk, Nat.le_refl _⟩, fun i H' v H2 hi e y => by
    obtain ⟨T, x, rfl, hT, rfl, hx⟩ := y
    exact ⟨T, x, rfl, hT, rfl, hx xs (extN_l e hk)⟩⟩
theorem en_T {K : PySem.W.Frag} {H : Hp} {a : Addr} {xs : List V} (hk : SqT K H a xs) : EnJ K xs H (IteT K a) :=
  ⟨fun i H' hi e => ⟨xs, xs[i], extN_t e hk, by simp [hi]⟩, fun H' e => ⟨xs, extN_t e hk, rfl⟩, fun i H' v H2 hi e y => by
    obtain ⟨T, x, rfl, hT, rfl, hx⟩ := y
    exact ⟨T, x, rfl, hT, rfl, hx xs (extN_t e hk)⟩⟩
abbrev prI (z : Int × Int) : PyData := .tuple [.int z.1, .int z.2]
theorem dp_prs {K : PySem.W.Frag} {H : Hp} : ∀ ys : List V, (∀ y ∈ ys, ∃ t a b, y = V.ref t ∧ H t = some (.tup [.int a, .int b])) →
    ∃ zs : List (Int × Int), DpAll K H ys (zs.map prI) ∧ ∀ t a b, V.ref t ∈ ys → H t = some (.tup [.int a, .int b]) → (a, b) ∈ zs
  | [], _ => ⟨[], .nil, fun _ _ _ h => nomatch h⟩
  | y :: ys, h => by
    obtain ⟨zs, hz, hm⟩ := dp_prs ys fun y hy => h y (List.mem_cons_of_mem _ hy)
    obtain ⟨t, a, b, rfl, ht⟩ := h y List.mem_cons_self
    refine ⟨(a, b) :: zs, .cons (.tup (SqT.of ht) (.cons (.int a) (.cons (.int b) .nil))) hz, fun t' a' b' hmem ht' => ?_⟩
    rcases List.mem_cons.mp hmem with e | hmem
    · cases e
      rw [ht] at ht'
      cases ht'
      exact List.mem_cons_self
    · exact List.mem_cons_of_mem _ (hm t' a' b' hmem ht')
theorem shp_pr (z : Int × Int) : SeqAt.shaped (prI z) = true := shp_t [z.1, z.2]
theorem lay_prs (zs : List (Int × Int)) : PyData.canLayAll0 (zs.map prI) = true := by
  induction zs with
  | nil => rw [List.map_nil, PyData.canLayAll0]
  | cons z zs ih =>
    have h : (prI z).canLay0 = true := by
      show PyData.canLay0 (.tuple ([z.1, z.2].map PyData.int)) = true
      rw [PyData.canLay0, lay_ints]
    rw [List.map_cons, PyData.canLayAll0, ih, h] <;> rfl
theorem dep_prs (zs : List (Int × Int)) : PyData.depthAll (zs.map prI) ≤ 1 := by
  induction zs with
  | nil => rw [List.map_nil, PyData.depthAll]; exact Nat.zero_le _
  | cons z zs ih =>
    have h : (prI z).depth ≤ 1 := by
      show PyData.depth (.tuple ([z.1, z.2].map PyData.int)) ≤ 1
      rw [PyData.depth, dep_ints]
      exact Nat.le_refl _
    rw [List.map_cons, PyData.depthAll]
    omega
theorem shp_prs (zs : List (Int × Int)) : SeqAt.shaped (.list (zs.map prI)) = true := by
  unfold SeqAt.shaped
  have h := dep_prs zs
  rw [PyData.canLay0, lay_prs, PyData.depth]
  have : decide (1 + PyData.depthAll (zs.map prI) ≤ 64) = true := decide_eq_true (by omega)
  rw [show PyData.depthAll (zs.map prI) + 1 = 1 + PyData.depthAll (zs.map prI) by omega, this]
  rfl
theorem eqv_pr (z : Int × Int) : PyData.eqv (prI z) (prI z) = true := by
  have h := eqv_it [z.1, z.2] [z.1, z.2]
  rw [decide_eq_true rfl] at h
  exact h
/-- the first place of a pair that is there -/
theorem first_pr {zs : List (Int × Int)} {z : Int × Int} (h : z ∈ zs) : ∃ (j : Nat) (d : PyData), (zs.map prI)[j]? = some d ∧ PyData.eqv d (prI z) = true ∧ ∀ (m : Nat) (d' : PyData), m < j → (zs.map prI)[m]? = some d' → PyData.eqv d' (prI z) = false := by
  have hex : ∃ d ∈ zs.map prI, PyData.eqv d (prI z) = true := ⟨prI z, List.mem_map.mpr ⟨z, h, rfl⟩, eqv_pr z⟩
  have hlt : (zs.map prI).findIdx (fun d => PyData.eqv d (prI z)) < (zs.map prI).length := List.findIdx_lt_length_of_exists hex
  refine ⟨_, _, List.getElem?_eq_getElem hlt, List.findIdx_getElem (w := hlt), fun m d' hm hd' => ?_⟩
  obtain ⟨h2, e2⟩ := List.getElem?_eq_some_iff.mp hd'
  have := List.not_of_lt_findIdx hm
  rw [e2] at this
  simpa using this
section
variable {w : World} {K : PySem.W.Frag} {mg : Str → Option Value} {base : Heap}
theorem sc_ranks : FnScope ["row", "order", "key", "place"] ["row"] (defScope s_ranks) := ⟨rfl, rfl, rfl, by decide +kernel, rfl, by decide +kernel, by decide +kernel⟩
def spRanks (K : PySem.W.Frag) : Sp := fun vs H Q E => ∃ x kx, vs = [x] ∧ Kd K H x kx ∧ (∀ v, rowErr kx = some v → ∀ H' d, Same H H' → H' d = some (.xd [("index", v)]) → E (.ref (a_BadRow K)) (some d) H') ∧ (rowErr kx = none → ∀ v H', Same H H' → Q v H')
theorem F_ranks (T : TX K mg base) : FnR Pr w K mg base (LC w) 5 (a_ranks K) (spRanks K) := by
  obtain ⟨fd, F⟩ := T.f_ranks
  refine fnr_of (ps := ["row"]) (N := ["row", "order", "key", "place"]) F (fun _ _ _ _ _ _ us hl => match us, hl with | [_], _ => rfl) sc_ranks (fun vs H Q E h => by obtain ⟨x, kx, rfl, _⟩ := h; rfl) fun cdv A outer s H vs Q E hr h => ?_
  obtain ⟨x, kx, rfl, hx, pR, h1⟩ := h
  have hu65 : (A.deeper (envOfC "ranks" (defScope s_ranks) s.heap.objs.size (a_ranks K) cdv)).units + 65 < cLine := by have := hr.un; omega
  refine ⟨_, pss_cons (ps_expr (pe_cl (F_check_row T) (hr.mono (by decide)) rfl T.g_check_row (kpF T.f_check_row) pX (pa_cons (pv 0) pa_nil)))
    (pss_cons (ps_set (i := 1) sc_ranks.nd rfl (Or.inr rfl) (pe_callB cr_sortedP rfl T.n_sorted (by decide +kernel) (pa_cons
      (pe_lc (own := [("key", 2), ("place", 3)]) (g := gTup K 2 (gCons (gName 3) (gCons (gName 2) gNil))) (tt := tYes) (te := tTup (tCons (tVar 2) (tCons (tVar 3) tNil))) rfl sc_ranks.nd (pi_enumS rfl T.n_enumerate (pa_cons (pv 0) pa_nil))
        (blkOk_by (own := [("key", 2), ("place", 3)]) (N := ["row", "order", "key", "place"]) (sc := defScope s_ranks) (by decide +kernel))
        (fun _ _ _ _ _ => pg_tup rfl (pgs_cons (pg_name (i := 3) sc_ranks.nd rfl (Or.inl rfl)) (pgs_cons (pg_name (i := 2) sc_ranks.nd rfl (Or.inl rfl)) pgs_nil))) (fun _ _ _ _ _ => pts_nil) (fun _ _ _ _ _ => pe_tup (pa_cons (pv 2) (pa_cons (pv 3) pa_nil)))) pa_nil)))
    (pss_one (ps_ret (pe_callTy call_tuple_of rfl T.n_tuple (by decide +kernel) (pa_cons
      (pe_lc (own := [("key", 2), ("place", 3)]) (g := gTup K 2 (gCons (gName 3) (gCons (gName 2) gNil))) (tt := tYes) (te := tBM K "list" (rIndexD K) (tVar 1) (tCons (tTup (tCons (tVar 2) (tCons (tVar 3) tNil))) tNil)) rfl sc_ranks.nd (pi_enumS rfl T.n_enumerate (pa_cons (pv 0) pa_nil))
        (blkOk_by (own := [("key", 2), ("place", 3)]) (N := ["row", "order", "key", "place"]) (sc := defScope s_ranks) (by decide +kernel))
        (fun _ _ _ _ _ => pg_tup rfl (pgs_cons (pg_name (i := 3) sc_ranks.nd rfl (Or.inl rfl)) (pgs_cons (pg_name (i := 2) sc_ranks.nd rfl (Or.inl rfl)) pgs_nil))) (fun _ _ _ _ _ => pts_nil)
        (fun _ _ _ _ _ => pe_bm PySem.F.plainAttrs_list PySem.F.slot_list_index PySem.F.type_list_index (mt_indexD hu65) (pv 1) (pa_cons (pe_tup (pa_cons (pv 2) (pa_cons (pv 3) pa_nil))) pa_nil))) pa_nil))))), ?_⟩
  refine ⟨_, rfl, x, kx, rfl, hx, fun e2 H2 s2 => ?_, fun v ev H2 d s2 hd => pR v ev H2 d s2 hd⟩
  obtain ⟨xs, ex, hl, hkey⟩ := rowErr_none e2
  obtain ⟨ns, rfl, _⟩ := keys_ints xs hkey
  obtain ⟨a, rfl, hq, _⟩ := hx.sq ex
  rw [List.length_map] at hl
  have hq2 := hq.ext (.of s2)
  have p0 : sizeLine = 4 ^ 12 := sizeLine_eq
  refine ⟨_, rfl, a, ns.map V.int, rfl, ?_⟩
  have two : ∀ H', ExtN H2 H' → ∀ {P1 P2 : Prop}, (∀ J, EnJ K (ns.map V.int) H' J → (J = Ite K a → P1) ∧ (J = IteT K a → P2)) → (SqL K H' a (ns.map V.int) ∧ P1) ∨ (SqT K H' a (ns.map V.int) ∧ P2) := fun H' e P1 P2 h => by
    rcases hq2.ext e with hk | hk
    · exact .inl ⟨hk, (h _ (en_L hk)).1 rfl⟩
    · exact .inr ⟨hk, (h _ (en_T hk)).2 rfl⟩
  refine two H2 (.refl _) fun J EJ => ⟨fun eJ => ?_, fun eJ => ?_⟩
  all_goals
    intro D hD
    subst eJ
    refine itJ (n := (ns.map V.int).length) (fun i H3 => Same H2 H3 ∧ ∃ ts : List Addr, H3 D = some (.lst (ts.map V.ref)) ∧ ts.length = i ∧ ∀ (j : Nat) t, ts[j]? = some t → H3 t = some (.tup [.int (ns.getD j 0), .int (j : Nat)])) ⟨same_new hD, [], upd_same, rfl, fun j t e => by simp at e⟩ (fun i H3 hi p => EJ.go i H3 hi (.of p.1)) (fun H3 p => EJ.stop H3 (.of p.1)) ?_ ?_
    · intro i H3 v H4 hi p y
      obtain ⟨s3, ts, hts, lts, hall⟩ := p
      obtain ⟨T0, x0, rfl, hT, rfl, hx0⟩ := EJ.yld i H3 v H4 hi (.of s3) y
      rw [List.length_map] at hi
      rw [List.getElem?_map, List.getElem?_eq_getElem hi] at hx0
      cases hx0
      refine ⟨T0, _, rfl, SqT.of upd_same, rfl, _, _, rfl, _, _, rfl, rfl, ?_⟩
      refine ⟨rfl, _, rfl, _, rfl, sz2, fun q hq => ?_⟩
      have s4 := (same_new (o := .tup [.int (i : Nat), .int ns[i]]) hT).trans (same_new (o := .tup [.int ns[i], .int (i : Nat)]) hq)
      have hD4 := s4 _ _ hts
      have hDq : D ≠ q := ne_of_none ((same_new (o := .tup [.int (i : Nat), .int ns[i]]) hT) _ _ hts) hq
      refine ⟨_, hD4, ?_, fun c o ec => ?_, ts ++ [q], ?_, ?_, fun j t ht => ?_⟩
      · rw [List.length_map, p0]
        omega
      · rw [upd_ne (fun z => by rw [z, hD] at ec; cases ec)]
        exact s4 _ _ (s3 _ _ ec)
      · rw [upd_same, List.map_append]
        rfl
      · simp
        omega
      · have gD : ns.getD i 0 = ns[i] := by simp [List.getD, hi]
        by_cases hj : j < ts.length
        · rw [List.getElem?_append_left hj] at ht
          have h3 := hall j t ht
          rw [upd_ne (fun z => by rw [z, hts] at h3; cases h3)]
          exact s4 _ _ h3
        · rw [List.getElem?_append_right (by omega)] at ht
          have ej : j - ts.length = 0 := by
            cases e : j - ts.length with
            | zero => rfl
            | succ m => rw [e] at ht; simp at ht
          rw [ej] at ht
          cases ht
          have e2 : j = i := by omega
          rw [upd_ne (Ne.symm hDq), upd_same, e2, gD]
    · intro H3 p
      obtain ⟨s3, ts, hts, lts, hall⟩ := p
      rw [List.length_map] at lts
      refine ⟨D, ts.map V.ref, rfl, SqL.of hts, fun z hz => ?_, fun ys o perm ho => ?_⟩
      · obtain ⟨t, ht, rfl⟩ := List.mem_map.mp hz
        obtain ⟨j, hj, ej⟩ := List.getElem_of_mem ht
        exact ⟨t, _, _, rfl, hall j t (by rw [List.getElem?_eq_getElem hj, ej])⟩
      have s5 : Same H2 (upd H3 o (.lst ys)) := s3.trans (same_new ho)
      have ho5 : upd H3 o (.lst ys) o = some (.lst ys) := upd_same
      have s35 : Same H3 (upd H3 o (.lst ys)) := same_new ho
      have hys : ∀ y ∈ ys, ∃ t a b, y = V.ref t ∧ upd H3 o (.lst ys) t = some (.tup [.int a, .int b]) := fun y hy => by
        obtain ⟨t, ht, rfl⟩ := List.mem_map.mp (perm.mem_iff.mp hy)
        obtain ⟨j, hj, ej⟩ := List.getElem_of_mem ht
        exact ⟨t, _, _, rfl, s35 _ _ (hall j t (by rw [List.getElem?_eq_getElem hj, ej]))⟩
      have hin : ∀ (j : Nat) t, ts[j]? = some t → V.ref t ∈ ys ∧ upd H3 o (.lst ys) t = some (.tup [.int (ns.getD j 0), .int (j : Nat)]) := fun j t e => ⟨perm.mem_iff.mpr (List.mem_map.mpr ⟨t, List.mem_of_getElem? e, rfl⟩), s35 _ _ (hall j t e)⟩
      generalize upd H3 o (.lst ys) = H5 at s5 ho5 hys hin
      refine ⟨_, rfl, a, ns.map V.int, rfl, ?_⟩
      refine two H5 (.of s5) fun J2 EJ2 => ⟨fun eJ2 => ?_, fun eJ2 => ?_⟩
      all_goals
        intro D2 hD2
        subst eJ2
        refine itJ (n := (ns.map V.int).length) (fun i H6 => Same H5 H6 ∧ ∃ acc : List Int, H6 D2 = some (.lst (acc.map V.int)) ∧ acc.length = i) ⟨same_new hD2, [], upd_same, rfl⟩ (fun i H6 hi p => EJ2.go i H6 hi (.of p.1)) (fun H6 p => EJ2.stop H6 (.of p.1)) ?_ ?_
        · intro i H6 v H7 hi p y
          obtain ⟨s6, acc, hacc, lacc⟩ := p
          obtain ⟨T0, x0, rfl, hT, rfl, hx0⟩ := EJ2.yld i H6 v H7 hi (.of s6) y
          rw [List.length_map] at hi
          rw [List.getElem?_map, List.getElem?_eq_getElem hi] at hx0
          cases hx0
          refine ⟨T0, _, rfl, SqT.of upd_same, rfl, _, _, rfl, _, _, rfl, rfl, ?_⟩
          have s7 := (same_new (o := .tup [.int (i : Nat), .int ns[i]]) hT)
          have ho7 := s7 _ _ (s6 _ _ ho5)
          refine ⟨rfl, _, rfl, .inl ⟨rfl, _, SqL.of ho7⟩, _, rfl, _, rfl, sz2, fun q hq => ?_⟩
          have s8 := s7.trans (same_new (o := .tup [.int ns[i], .int (i : Nat)]) hq)
          have ho8 := s8 _ _ (s6 _ _ ho5)
          obtain ⟨zs, hz, hzm⟩ := dp_prs (K := K) (H := upd (upd H6 T0 (.tup [.int (i : Nat), .int ns[i]])) q (.tup [.int ns[i], .int (i : Nat)])) ys fun y hy => by
            obtain ⟨t, a, b, e1, e2⟩ := hys y hy
            exact ⟨t, a, b, e1, s8 _ _ (s6 _ _ e2)⟩
          have hit : i < ts.length := by omega
          have gD : ns.getD i 0 = ns[i] := by simp [List.getD, hi]
          obtain ⟨m1, m2⟩ := hin i ts[i] (List.getElem?_eq_getElem hit)
          have mem := hzm _ _ _ m1 (s8 _ _ (s6 _ _ m2))
          rw [gD] at mem
          obtain ⟨j, d, d1, d2, d3⟩ := first_pr mem
          refine ⟨o, .ref q, prI (ns[i], (i : Int)), zs.map prI, j, d, rfl, rfl, .lst (SqL.of ho8) hz, .tup (SqT.of upd_same) (.cons (.int _) (.cons (.int _) .nil)), shp_prs zs, shp_pr _, d1, d2, d3, ?_⟩
          refine ⟨_, s8 _ _ hacc, ?_, fun c u ec => ?_, acc ++ [(j : Int)], ?_, ?_⟩
          · rw [List.length_map, p0]
            omega
          · rw [upd_ne (fun z => by rw [z, hD2] at ec; cases ec)]
            exact s8 _ _ (s6 _ _ ec)
          · rw [upd_same, List.map_append]
            rfl
          · simp
            omega
        · intro H6 p
          obtain ⟨s6, acc, hacc, lacc⟩ := p
          exact ⟨D2, _, rfl, .inl ⟨SqL.of hacc, fun l hl => h1 e2 _ _ (((s2.trans s5).trans s6).trans (same_new hl))⟩⟩
end
end K7
/-! the tables of the lambdas; first_least *)-/
namespace K7
open PySem PySem.Spec PyProof.Rows L2 He
open LamX (Tabs TabS TabB ExtN CodeO lamEnv)
abbrev qlam (x : Str) : Str := (x ++ ".<locals>.") ++ "<lambda>"
def TT (K : PySem.W.Frag) : List (Addr × Str) := tf.map fun p => ((cT K p).2, qlam p.1)
theorem tt_u {K : PySem.W.Frag} (nd : (tf.map fun p => (cT K p).2).Nodup) {p : He.Defn} (hp : p ∈ tf) : ∀ z ∈ TT K, z.1 = (cT K p).2 → z.2 = qlam p.1 := by
  have inj : ∀ (l : List He.Defn), (l.map fun p => (cT K p).2).Nodup → ∀ p ∈ l, ∀ p' ∈ l, (cT K p').2 = (cT K p).2 → p' = p := by
    intro l
    induction l with
    | nil => intro _ p hp; cases hp
    | cons x l ih =>
      intro nd p hp p' hp' e
      rw [List.map_cons, List.nodup_cons] at nd
      rcases List.mem_cons.mp hp with rfl | hp1
      · rcases List.mem_cons.mp hp' with rfl | hp2
        · rfl
        · exact absurd (List.mem_map.mpr ⟨p', hp2, e⟩) nd.1
      · rcases List.mem_cons.mp hp' with rfl | hp2
        · exact absurd (List.mem_map.mpr ⟨p, hp1, e.symm⟩) nd.1
        · exact ih nd.2 p hp1 p' hp2 e
  intro z hz e
  obtain ⟨p', hp', rfl⟩ := List.mem_map.mp hz
  rw [inj tf nd p hp p' hp' e]
theorem tt_m {K : PySem.W.Frag} {p : He.Defn} (hp : p ∈ tf) : ((cT K p).2, qlam p.1) ∈ TT K := List.mem_map.mpr ⟨p, hp, rfl⟩
section
variable {w : World} {K : PySem.W.Frag} {mg : Str → Option Value} {base : Heap}
/-- as fnr_of, with the code object's address -/
theorem fnr_ofC {p : He.Defn} {x qual : Str} {params : Arguments} {body : List Stmt} {scope : Scope} {f : Addr} {fd : FuncData} {N ps : List Str} {k : Nat} {sp : Sp} (F : FunD K x qual params body scope [] [] f fd) (hp : He.fAd K p = f)
    (h : ∀ (kV doc pm : Value) (an : Option Addr) (cdv ct : Value) (us : List Value), us.length = ps.length → bindArgs (PySem.W.fnOf x qual params body scope .none kV doc pm an cdv ct) ⟨us, []⟩ = pure (ps.zip us))
    (S : FnScope N ps scope) (len : ∀ vs H Q E, sp vs H Q E → vs.length = ps.length)
    (hbody : ∀ (cdv : Value) (A : Around) (outer : List Env) (s : Shared) (H : Hp) (vs : List V) (Q : VK) (E : XK), cdv = .ref (cT K p).1 → Room k (A.deeper (envOfC qual scope s.heap.objs.size f cdv)) → sp vs H Q E →
      ∃ t, PSs (cxOf (LC w) Pr w K mg base N qual scope f cdv A outer s H E) body t ∧ t { nx := fun _ H' => Q .non H', rt := Q } (start N vs) H) : FnR Pr w K mg base (LC w) (k + 1) f sp := by
  have hb := F.bindsA h
  obtain ⟨oc, od, dV, kV, doc, pm, an, cdv, ct, osl, rfl, lk, hcd, _, _⟩ := F.ex
  intro A outer s H us vs Q E hr e0 r hs
  have l1 := len _ _ _ _ hs
  have l2 : us.length = ps.length := by rw [← r.length, l1]
  obtain ⟨c, ec⟩ := He.codeIn_ref hcd
  have lk' := lk
  rw [← hp] at lk'
  have e2 : cdv = .ref (cT K p).1 := by
    have := He.codeOf_eq lk' ec
    rw [ec]
    show Value.ref c = .ref (He.codeOf K p)
    rw [this]
  exact LamX.run_ofS (CX := LC w) lk hcd S hr e0 (hb s us l2) r l1 fun hr' => hbody cdv A outer s H vs Q E e2 hr' hs
theorem sc_first_least : FnScope ["row", "places"] ["row", "places"] (defScope s_first_least) := ⟨rfl, rfl, rfl, by decide +kernel, rfl, by decide +kernel, by decide +kernel⟩
def spFL (K : PySem.W.Frag) : Sp := fun vs H Q E => ∃ (a t : Addr) (ns ks : List Int), vs = [V.ref a, V.ref t] ∧ SqS K H a (ns.map V.int) ∧ SqT K H t (ks.map V.int) ∧ ks ≠ [] ∧ (∀ k ∈ ks, 0 ≤ k ∧ k < (ns.length : Int)) ∧ Tabs (TT K) H ∧
  ∀ k ∈ ks, ∀ H', ExtN H H' → Tabs (TT K) H' → Q (.int k) H'
theorem F_first_least (T : TX K mg base) : FnR Pr w K mg base (LC w) 4 (a_first_least K) (spFL K) := by
  obtain ⟨fd, F⟩ := T.f_first_least
  refine fnr_ofC (p := ("first_least", none)) (ps := ["row", "places"]) (N := ["row", "places"]) F rfl (fun _ _ _ _ _ _ us hl => match us, hl with | [_, _], _ => rfl) sc_first_least (fun vs H Q E h => by obtain ⟨a, t, ns, ks, rfl, _⟩ := h; rfl) fun cdv A outer s H vs Q E hc hr h => ?_
  obtain ⟨a, t, ns, ks, rfl, hq, ht, hne, hk, hT, h1⟩ := h
  refine ⟨_, pss_one (ps_ret (pe_minKey (TT := TT K) (a := "place") (k := 1) (tb := tTup (tCons (tOp (rIx K) (tVar 0) (tVar 2)) (tCons (tVar 2) tNil))) rfl T.n_min (T.tab ("first_least", none) (by decide)) hc (tt_m (p := ("first_least", none)) (by decide)) (tt_u T.tabs_nd (p := ("first_least", none)) (by decide)) hr ⟨rfl, rfl⟩
    (lam1_by (N := ["row", "places"]) (sc := defScope s_first_least) (by decide +kernel)) rfl (fun _ _ _ _ _ _ => rfl) (pv 1) (fun s H f c' hr' => pe_tup (pa_cons (pe_ix ix_seq (pv 0) (pv 2) (fun _ _ => rfl)) (pa_cons (pv 2) pa_nil))))), ?_⟩
  refine ⟨_, rfl, t, ks, rfl, ht, List.length_pos_iff.mpr hne, hT, fun n hn H2 e T2 => ⟨?_, h1 n hn H2 e T2⟩⟩
  have hn2 := hk n hn
  obtain ⟨j, rfl⟩ := Int.eq_ofNat_of_zero_le hn2.1
  exact ⟨_, rfl, _, rfl, rIx_S (hq.ext e) (at_ints (by omega)) ⟨_, rfl, sz2, fun p hp => ⟨⟨p, _, _, rfl, upd_same⟩, same_new hp⟩⟩⟩
end
end K7
/-! Sift, moved *)-/
namespace K7
open PySem PySem.Spec PyProof.Rows L2 He
open LamX (Tabs TabS TabB ExtN CodeO lamEnv)
theorem ixN_nat {n j : Nat} (h : j < n) : ixN n (j : Int) = some j := by
  unfold ixN
  simp
  omega
theorem at_last {ws : List Int} (h : ws ≠ []) : ∃ q ∈ ws, ∃ us, ws = us ++ [q] ∧ atI (ws.map V.int) (-1) = some (V.int q) := by
  obtain ⟨us, q, e⟩ : ∃ us q, ws = us ++ [q] := by
    rcases List.eq_nil_or_concat ws with e | ⟨us, q, e⟩
    · exact absurd e h
    · exact ⟨us, q, by rw [e, List.concat_eq_append]⟩
  subst e
  refine ⟨q, by simp, us, rfl, ?_⟩
  rw [List.map_append]
  exact atI_last _ _
/-- tuple(x), x a list or a tuple -/
def rTup (K : PySem.W.Frag) : List V → Hp → VK → Prop := fun xs H Q => ∃ p ys, xs = [.ref p] ∧ SqS K H p ys ∧ ∀ t H', Same H H' → SqT K H' t ys → Q (.ref t) H'
theorem call_tupS {X : Cx} : CallR X (.type "tuple") (rTup X.K) := fun pins s σ H xs us Q I r h => call_tuple_of pins s σ H xs us Q I r (by
  obtain ⟨p, ys, rfl, h, q⟩ := h
  rcases h with h | h
  · exact ⟨p, ys, rfl, .inl ⟨h, fun l hl => q l _ (same_new hl) (.of upd_same)⟩⟩
  · exact ⟨p, ys, rfl, .inr ⟨h, q p H (Same.refl H) h⟩⟩)
theorem sqT_keep2 {K : PySem.W.Frag} {H H' : Hp} {a dx t : Addr} {xs : List V} {oa od : HO} (k : Keep2 a dx H H') (ha : H a = some oa) (hd : H dx = some od) (n1 : ∀ ys, oa ≠ .tup ys) (n2 : ∀ o ys, oa ≠ .frz o (.tup ys)) (n3 : ∀ ys, od ≠ .tup ys) (n4 : ∀ o ys, od ≠ .frz o (.tup ys)) (h : SqT K H t xs) : SqT K H' t xs := by
  rcases h with (h | ⟨o, h⟩) | h
  · exact .inl (.inl (k _ _ (fun z => n1 xs (Option.some.inj (ha.symm.trans (by rw [← z]; exact h)))) (fun z => n3 xs (Option.some.inj (hd.symm.trans (by rw [← z]; exact h)))) h))
  · exact .inl (.inr ⟨o, k _ _ (fun z => n2 o xs (Option.some.inj (ha.symm.trans (by rw [← z]; exact h)))) (fun z => n4 o xs (Option.some.inj (hd.symm.trans (by rw [← z]; exact h)))) h⟩)
  · exact .inr h
theorem keep_slH {H : Hp} {a C dx : Addr} {vs : List (Option V)} : Keep2 a dx H (SlX.slH H a C dx vs) := fun b o h1 h2 e => by rw [SlX.slH_ne h1 h2]; exact e
theorem Keep2.trans {a dx : Addr} {H H1 H2 : Hp} (x : Keep2 a dx H H1) (y : Keep2 a dx H1 H2) : Keep2 a dx H H2 := fun b o h1 h2 e => y b o h1 h2 (x b o h1 h2 e)
theorem Keep2.of {a dx : Addr} {H H1 : Hp} (s : Same H H1) : Keep2 a dx H H1 := fun b o _ _ e => s b o e
theorem slO_nt {a C dx : Addr} {vs : List (Option V)} : (∀ ys, SlX.SlO a C dx vs ≠ .tup ys) ∧ ∀ o ys, SlX.SlO a C dx vs ≠ .frz o (.tup ys) := ⟨(fun ys z => by unfold SlX.SlO at z; cases z), (fun o ys z => by unfold SlX.SlO at z; cases z)⟩
/-- at a Sift: its row, its way -/
def SiftAt (K : PySem.W.Frag) (H : Hp) (a : Addr) (ns ws : List Int) : Prop :=
  ∃ dx l rt wt, H a = some (SlX.SlO a (a_Sift K) dx [some (.int l), some (.ref rt), some (.ref wt)]) ∧ H dx = some (.xd []) ∧ SqT K H rt (ns.map V.int) ∧ SqT K H wt (ws.map V.int)
section
variable {w : World} {K : PySem.W.Frag} {mg : Str → Option Value} {base : Heap}
theorem sc_Sift_init : FnScope ["self", "row", "way", "looks"] ["self", "row", "way", "looks"] (defScope s_Sift_init) := ⟨rfl, rfl, rfl, by decide +kernel, rfl, by decide +kernel, by decide +kernel⟩
def spSiftInit (K : PySem.W.Frag) : Sp := fun vs H Q E => ∃ (a dx b c : Addr) (l : Int) (ns ws : List Int), vs = [V.ref a, V.ref b, V.ref c, V.int l] ∧ H a = some (.ins (a_Sift K) dx []) ∧ H dx = some (.own a) ∧ dx ≠ a ∧ SqS K H b (ns.map V.int) ∧ SqS K H c (ws.map V.int) ∧
  ∀ H', Keep2 a dx H H' → SiftAt K H' a ns ws → Q .non H'
theorem F_Sift_init (T : TX K mg base) : FnR Pr w K mg base (LC w) 1 (a_Sift_init K) (spSiftInit K) := by
  obtain ⟨fd, F⟩ := T.f_Sift_init
  refine fnr_of (ps := ["self", "row", "way", "looks"]) (N := ["self", "row", "way", "looks"]) F (fun _ _ _ _ _ _ us hl => match us, hl with | [_, _, _, _], _ => rfl) sc_Sift_init (fun vs H Q E h => by obtain ⟨a, dx, b, c, l, ns, ws, rfl, _⟩ := h; rfl) fun cdv A outer s H vs Q E hr h => ?_
  obtain ⟨a, dx, b, c, l, ns, ws, rfl, ha, hd, nd, hb, hc, h1⟩ := h
  refine ⟨_, pss_cons (SlX.ps_sl (pv 0) (pe_callTy call_tupS rfl T.n_tuple (by decide +kernel) (pa_cons (pv 1) pa_nil)))
    (pss_cons (SlX.ps_sl (pv 0) (pe_callTy call_tupS rfl T.n_tuple (by decide +kernel) (pa_cons (pv 2) pa_nil))) (pss_one (SlX.ps_sl (pv 0) (pv 3)))), ?_⟩
  refine ⟨_, rfl, b, _, rfl, hb, fun t1 H1 s1 ht1 => ⟨_, rfl, a, a_Sift K, dx, _, [], 1, rfl, .inl ⟨s1 _ _ ha, rfl⟩, T.c_Sift, T.s_Sift_row, ?_⟩⟩
  have k1 : Keep2 a dx H1 (SlX.slH H1 a (a_Sift K) dx (SlX.putS 1 (.ref t1) [])) := keep_slH
  have ht1' := sqT_keep2 k1 (s1 _ _ ha) (s1 _ _ hd) (fun ys z => nomatch z) (fun o ys z => nomatch z) (fun ys z => nomatch z) (fun o ys z => nomatch z) ht1
  have hc1 : SqS K (SlX.slH H1 a (a_Sift K) dx (SlX.putS 1 (.ref t1) [])) c (ws.map V.int) := by
    rcases hc.ext (.of s1) with hc | hc
    · refine .inl ?_
      rcases hc with (hc | ⟨o, hc⟩) | hc
      · exact .inl (.inl (k1 _ _ (ne_of hc (s1 _ _ ha) (by intro z; cases z)) (ne_of hc (s1 _ _ hd) (by intro z; cases z)) hc))
      · exact .inl (.inr ⟨o, k1 _ _ (ne_of hc (s1 _ _ ha) (by intro z; cases z)) (ne_of hc (s1 _ _ hd) (by intro z; cases z)) hc⟩)
      · exact .inr hc
    · exact .inr (sqT_keep2 k1 (s1 _ _ ha) (s1 _ _ hd) (fun ys z => nomatch z) (fun o ys z => nomatch z) (fun ys z => nomatch z) (fun o ys z => nomatch z) hc)
  have sl1 := SlX.slH_slt (H := H1) (C := a_Sift K) (vs := SlX.putS 1 (.ref t1) []) nd
  have k01 : Keep2 a dx H (SlX.slH H1 a (a_Sift K) dx (SlX.putS 1 (.ref t1) [])) := (Keep2.of s1).trans k1
  generalize SlX.slH H1 a (a_Sift K) dx (SlX.putS 1 (.ref t1) []) = H2 at ht1' hc1 sl1 k01
  refine ⟨_, rfl, c, _, rfl, hc1, fun t2 H3 s3 ht2 => ?_⟩
  have sl3 : SlX.Slt H3 a (a_Sift K) dx (SlX.putS 1 (.ref t1) []) := by
    rcases sl1 with ⟨_, z⟩ | ⟨z1, z2⟩
    · cases z
    · exact .inr ⟨s3 _ _ z1, s3 _ _ z2⟩
  obtain ⟨z1, z2⟩ : H3 a = some (SlX.SlO a (a_Sift K) dx (SlX.putS 1 (.ref t1) [])) ∧ H3 dx = some (.xd []) := by
    rcases sl1 with ⟨_, z⟩ | ⟨z1, z2⟩
    · cases z
    · exact ⟨s3 _ _ z1, s3 _ _ z2⟩
  refine ⟨_, rfl, a, a_Sift K, dx, _, _, 2, rfl, sl3, T.c_Sift, T.s_Sift_way, ?_⟩
  refine ⟨_, rfl, _, rfl, a, a_Sift K, dx, _, _, 0, rfl, SlX.slH_slt nd, T.c_Sift, T.s_Sift_looks, ?_⟩
  rw [SlX.slH_twice nd]
  have e3 : SlX.putS 0 (V.int l) (SlX.putS 2 (V.ref t2) (SlX.putS 1 (V.ref t1) [])) = [some (V.int l), some (V.ref t1), some (V.ref t2)] := rfl
  rw [e3]
  have k4 : Keep2 a dx H3 (SlX.slH H3 a (a_Sift K) dx [some (V.int l), some (V.ref t1), some (V.ref t2)]) := keep_slH
  refine h1 _ ((k01.trans (.of s3)).trans k4) ⟨dx, l, t1, t2, upd_same, ?_, ?_, ?_⟩
  · unfold SlX.slH
    rw [upd_ne nd, upd_same]
  · exact sqT_keep2 k4 z1 z2 slO_nt.1 slO_nt.2 (fun ys z => nomatch z) (fun o ys z => nomatch z) (extN_t (.of s3) ht1')
  · exact sqT_keep2 k4 z1 z2 slO_nt.1 slO_nt.2 (fun ys z => nomatch z) (fun o ys z => nomatch z) ht2
end
end K7
/-! moved *)-/
namespace K7
open PySem PySem.Spec PyProof.Rows L2 He
open LamX (Tabs TabS TabB ExtN CodeO lamEnv)
theorem ButD.sqL {K : PySem.W.Frag} {D t : Addr} {H H' : Hp} {xs : List V} (b : ButD D H H') (n : t ≠ D) (h : SqL K H t xs) : SqL K H' t xs := by
  rcases h with (h | ⟨o, h⟩) | h
  · exact .inl (.inl (b _ _ n h))
  · exact .inl (.inr ⟨o, b _ _ n h⟩)
  · exact .inr h
theorem ButD.sqS {K : PySem.W.Frag} {D t : Addr} {H H' : Hp} {xs ys : List V} (b : ButD D H H') (hD : H D = some (.lst ys)) (n : t ≠ D) (h : SqS K H t xs) : SqS K H' t xs := by
  rcases h with h | h
  · exact .inl (b.sqL n h)
  · exact .inr (b.sqT hD h)
theorem cut_drop (ns : List Int) : cutV (ns.map V.int) (some 1) none = (ns.drop 1).map V.int := by
  unfold cutV
  rw [show (some (1 : Int)) = some ((1 : Nat) : Int) from rfl, HT.sIx_nat, HT.sIx_none, List.length_map, ← List.map_drop]
  rw [List.take_of_length_le (by simp)]
  rcases Nat.eq_zero_or_pos ns.length with h | h
  · have : ns = [] := List.length_eq_zero_iff.mp h
    subst this
    rfl
  · rw [Nat.min_eq_left h]
section
variable {w : World} {K : PySem.W.Frag} {mg : Str → Option Value} {base : Heap}
theorem sc_moved : FnScope ["row", "way", "found", "key", "here", "there"] ["row", "way"] (defScope s_moved) := ⟨rfl, rfl, rfl, by decide +kernel, rfl, by decide +kernel, by decide +kernel⟩
def spMoved (K : PySem.W.Frag) : Sp := fun vs H Q E => ∃ (a y : Addr) (ns ws : List Int), vs = [V.ref a, V.ref y] ∧ SqS K H a (ns.map V.int) ∧ H y = some (.lst (ws.map V.int)) ∧ ws ≠ [] ∧ (∀ q ∈ ws, 0 ≤ q ∧ q < (ns.length : Int)) ∧ ws.length ≤ 100 ∧
  ∀ l H' (ms : List Int), Same H H' → H' l = some (.lst (ms.map V.int)) → ms.length = ns.length → Q (.ref l) H'
theorem F_moved (T : TX K mg base) : FnR Pr w K mg base (LC w) 1 (a_moved K) (spMoved K) := by
  obtain ⟨fd, F⟩ := T.f_moved
  refine fnr_of (ps := ["row", "way"]) (N := ["row", "way", "found", "key", "here", "there"]) F (fun _ _ _ _ _ _ us hl => match us, hl with | [_, _], _ => rfl) sc_moved (fun vs H Q E h => by obtain ⟨a, y, ns, ws, rfl, _⟩ := h; rfl) fun cdv A outer s H vs Q E hr h => ?_
  obtain ⟨a, y, ns, ws, rfl, ha, hy, ne, hw, wl, h1⟩ := h
  refine ⟨_, pss_cons (ps_par (i := 2) (j := 3) rfl sc_moved.nd rfl rfl (by decide) rfl rfl (pa_cons (pe_callTy call_list_of rfl T.n_list (by decide +kernel) (pa_cons (pv 0) pa_nil)) (pa_cons (pe_ix ix_seq (pv 0) (pe_ix ix_list (pv 1) pe_int (fun _ _ => rfl)) (fun _ _ => rfl)) pa_nil)) rfl)
    (pss_cons (ps_for (passes_of rfl) rfl (pi_zip rfl T.n_zip (pa_cons (pv 1) (pa_cons (pe_slice sl_list (pv 1) (po_some pe_int) po_none) pa_nil))) (pg_tup rfl (pgs_cons (pg_name (i := 4) sc_moved.nd rfl (.inl rfl)) (pgs_cons (pg_name (i := 5) sc_moved.nd rfl (.inl rfl)) pgs_nil)))
      (pss_one (ps_asg (pe_ix ix_seq (pv 0) (pv 5) (fun _ _ => rfl)) (pg_sub (pv 2) (pv 4) set_list))))
    (pss_cons (ps_asg (pv 3) (pg_sub (pv 2) (pe_ix ix_list (pv 1) (pe_un un_neg pe_int) (fun _ _ => rfl)) set_list))
    (pss_one (ps_ret (pv 2))))), ?_⟩
  obtain ⟨w0, wr, rfl⟩ : ∃ w0 wr, ws = w0 :: wr := by
    cases ws with
    | nil => exact absurd rfl ne
    | cons w0 wr => exact ⟨w0, wr, rfl⟩
  have hw0 := hw w0 List.mem_cons_self
  obtain ⟨j0, rfl⟩ := Int.eq_ofNat_of_zero_le hw0.1
  have p0 : sizeLine = 4 ^ 12 := sizeLine_eq
  refine ⟨_, rfl, a, _, rfl, ha, fun l hl => ?_⟩
  have s1 : Same H (upd H l (.lst (ns.map V.int))) := same_new hl
  have hy1 := s1 _ _ hy
  have hl1 : upd H l (.lst (ns.map V.int)) l = some (.lst (ns.map V.int)) := upd_same
  have nyl : y ≠ l := ne_of_none hy hl
  refine ⟨_, rfl, _, rfl, y, _, (0 : Int), _, rfl, rfl, SqL.of hy1, atI_nat (j := 0) rfl, rIx_S (ha.ext (.of s1)) (at_ints (show j0 < ns.length by omega)) ⟨_, _, rfl, ?_⟩⟩
  refine ⟨_, rfl, _, rfl, 1, rfl, y, _, rfl, SqL.of hy1, fun q hq => ?_⟩
  rw [cut_drop]
  have s2 : Same H (upd (upd H l (.lst (ns.map V.int))) q (.lst ((((j0 : Int) :: wr).drop 1).map V.int))) := s1.trans (same_new hq)
  have nql : q ≠ l := fun z => by
    rw [z, hl1] at hq
    cases hq
  have hl2 : upd (upd H l (.lst (ns.map V.int))) q (.lst ((((j0 : Int) :: wr).drop 1).map V.int)) l = some (.lst (ns.map V.int)) := by rw [upd_ne (Ne.symm nql)]; exact hl1
  have hq2 : upd (upd H l (.lst (ns.map V.int))) q (.lst ((((j0 : Int) :: wr).drop 1).map V.int)) q = some (.lst ((((j0 : Int) :: wr).drop 1).map V.int)) := upd_same
  generalize upd (upd H l (.lst (ns.map V.int))) q (.lst ((((j0 : Int) :: wr).drop 1).map V.int)) = H2 at s2 hl2 hq2
  refine ⟨y, q, _, _, rfl, SqL.of (s2 _ _ hy), SqL.of hq2, ?_⟩
  refine forJ (n := wr.length) (fun i σ H' => (∃ o4 o5, σ = [some (V.ref a), some (V.ref y), some (V.ref l), some (V.int (ns.getD j0 0)), o4, o5]) ∧ ButD l H2 H' ∧ ∃ ms : List Int, H' l = some (.lst (ms.map V.int)) ∧ ms.length = ns.length) ⟨⟨_, _, rfl⟩, ButD.refl, ns, hl2, rfl⟩ ?_ ?_ ?_ ?_
  · intro i σ H' hi p
    have e : H' q = _ := p.2.1 _ _ nql hq2
    have ey : H' y = _ := (ButD.same hl s2 p.2.1) _ _ hy
    exact ⟨_, _, _, _, SqL.of ey, SqL.of e, List.getElem?_eq_getElem (by simp; omega), List.getElem?_eq_getElem (by simp; omega)⟩
  · intro σ H' p
    have e : H' q = _ := p.2.1 _ _ nql hq2
    have ey : H' y = _ := (ButD.same hl s2 p.2.1) _ _ hy
    exact ⟨_, _, SqL.of ey, SqL.of e, .inr (by simp)⟩
  · rintro i σ H' v H3 hi ⟨⟨o4, o5, rfl⟩, b, ms, hms, lms⟩ yl
    obtain ⟨T0, x1, x2, rfl, hT, rfl, f1, f2⟩ := yl
    have e : H' q = _ := b _ _ nql hq2
    have ey : H' y = _ := (ButD.same hl s2 b) _ _ hy
    have g1 := f1 _ (SqL.of ey)
    have g2 := f2 _ (SqL.of e)
    rw [List.getElem?_map] at g1 g2
    obtain ⟨h1', eh1, rfl⟩ := Option.map_eq_some_iff.mp g1
    obtain ⟨h2', eh2, rfl⟩ := Option.map_eq_some_iff.mp g2
    have m1 := hw h1' (List.mem_of_getElem? eh1)
    have m2 := hw h2' (List.mem_cons_of_mem _ (by simpa using List.mem_of_getElem? eh2))
    obtain ⟨c1, rfl⟩ := Int.eq_ofNat_of_zero_le m1.1
    obtain ⟨c2, rfl⟩ := Int.eq_ofNat_of_zero_le m2.1
    have sT := same_new (o := .tup [.int (c1 : Int), .int (c2 : Int)]) hT
    have ha3 := ha.ext (.of ((ButD.same hl s2 b).trans sT))
    refine ⟨T0, _, rfl, SqT.of upd_same, rfl, _, _, rfl, _, _, rfl, rfl, ?_⟩
    refine ⟨_, rfl, _, rfl, rIx_S ha3 (at_ints (show c2 < ns.length by omega)) ⟨_, rfl, _, rfl, l, _, _, c1, rfl, rfl, sT _ _ hms, ?_, ⟨_, _, rfl⟩, (b.trans (.of sT)).trans .upd, ms.set c1 (ns.getD c2 0), ?_, ?_⟩⟩
    · rw [List.length_map]
      exact ixN_nat (by omega)
    · rw [upd_same, List.map_set]
    · rw [List.length_set]
      exact lms
  · rintro σ H' ⟨⟨o4, o5, rfl⟩, b, ms, hms, lms⟩
    have ey : H' y = _ := (ButD.same hl s2 b) _ _ hy
    obtain ⟨qq, hqm, us, _, eat⟩ := at_last ne
    have m1 := hw qq hqm
    obtain ⟨c1, rfl⟩ := Int.eq_ofNat_of_zero_le m1.1
    refine ⟨_, rfl, _, rfl, _, rfl, _, rfl, y, _, _, _, rfl, rfl, SqL.of ey, eat, l, _, _, c1, rfl, rfl, hms, ?_, _, rfl, ?_⟩
    · rw [List.length_map]
      exact ixN_nat (by omega)
    · refine h1 l _ (ms.set c1 (ns.getD j0 0)) (ButD.same hl s2 (b.trans .upd)) ?_ ?_
      · rw [upd_same, List.map_set]
      · rw [List.length_set]
        exact lms
end
end K7
/-! way_up, way_down, way_of_hole *)-/
namespace K7
open PySem PySem.Spec PyProof.Rows L2 He
open LamX (Tabs TabS TabB ExtN CodeO lamEnv)
/-- all but the list at D and the tables stay -/
def ButN (D : Addr) (H H' : Hp) : Prop := ∀ c o, c ≠ D → H c = some o → (∀ ps, o ≠ .tbl ps) → H' c = some o
theorem ButN.refl {D : Addr} {H : Hp} : ButN D H H := fun _ _ _ e _ => e
theorem ButN.trans {D : Addr} {H H1 H2 : Hp} (a : ButN D H H1) (b : ButN D H1 H2) : ButN D H H2 := fun c o n e t => b c o n (a c o n e t) t
theorem ButN.upd {D : Addr} {H : Hp} {o : HO} : ButN D H (upd H D o) := fun c u n e _ => by rw [upd_ne n]; exact e
theorem ButN.of {D : Addr} {H H' : Hp} (s : ExtN H H') : ButN D H H' := fun c o _ e t => s c o e t
theorem ButN.ext {D : Addr} {H H1 H2 : Hp} (hD : H D = none) (s : ExtN H H1) (b : ButN D H1 H2) : ExtN H H2 := fun c o e t => b c o (fun z => by rw [z, hD] at e; cases e) (s c o e t) t
section
variable {w : World} {K : PySem.W.Frag} {mg : Str → Option Value} {base : Heap}
theorem sc_way_up : FnScope ["row", "tree", "place", "key", "way", "looks", "parent"] ["row", "tree", "place"] (defScope s_way_up) := ⟨rfl, rfl, rfl, by decide +kernel, rfl, by decide +kernel, by decide +kernel⟩
/-- a way and how many looks -/
def spWUp (K : PySem.W.Frag) : Sp := fun vs H Q E => ∃ (a t : Addr) (p : Int) (ns : List Int) (r : Nat), vs = [V.ref a, V.ref t, V.int p] ∧ SqS K H a (ns.map V.int) ∧ TreeAt K H t ns.length r ∧ 0 ≤ p ∧ p < (ns.length : Int) ∧ Tabs (TT K) H ∧
  ∀ tp y l (ws : List Int) H', ExtN H H' → Tabs (TT K) H' → H' tp = some (.tup [V.ref y, V.int l]) → H' y = some (.lst (ws.map V.int)) → ws ≠ [] → (∀ q ∈ ws, 0 ≤ q ∧ q < (ns.length : Int)) → ws.length ≤ 100 → Q (.ref tp) H'
theorem F_way_up (T : TX K mg base) : FnR Pr w K mg base (LC w) 5 (a_way_up K) (spWUp K) := by
  obtain ⟨fd, F⟩ := T.f_way_up
  refine fnr_of (ps := ["row", "tree", "place"]) (N := ["row", "tree", "place", "key", "way", "looks", "parent"]) F (fun _ _ _ _ _ _ us hl => match us, hl with | [_, _, _], _ => rfl) sc_way_up (fun vs H Q E h => by obtain ⟨a, t, p, ns, r, rfl, _⟩ := h; rfl) fun cdv A outer s H vs Q E hr h => ?_
  obtain ⟨a, t, p, ns, r, rfl, ha, ht, p0, p1, hT, h1⟩ := h
  refine ⟨_, pss_cons (ps_par3 (i := 3) (j := 4) (l := 5) rfl sc_way_up.nd rfl rfl rfl (by decide) (by decide) (by decide) rfl rfl rfl (pa_cons (pe_ix ix_seq (pv 0) (pv 2) (fun _ _ => rfl)) (pa_cons (pe_lst (pa_cons (pv 2) pa_nil)) (pa_cons pe_int pa_nil))) rfl)
    (pss_cons (ps_while (passes_of rfl) (pt_cmpR op_gt (pe_ix ix_list (pv 4) (pe_un un_neg pe_int) (fun _ _ => rfl)) pe_int (nomark _))
      (pss_cons (ps_set (i := 6) sc_way_up.nd rfl (.inl rfl) (SlX.pe_methSl (pv 1) T.c_Tree T.t_parent (F_parent T) hr pX (pa_cons (pe_ix ix_list (pv 4) (pe_un un_neg pe_int) (fun _ _ => rfl)) pa_nil)))
      (pss_cons (ps_aug (i := 5) sc_way_up.nd rfl (.inl rfl) pe_int ip_add)
      (pss_cons (ps_if (pt_cmpR op_le (pe_ix ix_seq (pv 0) (pv 6) (fun _ _ => rfl)) (pv 3) (nomark _)) (pss_one ps_break) pss_nil)
      (pss_one (ps_expr (pe_bm PySem.F.plainAttrs_list PySem.F.slot_list_append PySem.F.type_list_append mt_append (pv 4) (pa_cons (pv 6) pa_nil))))))))
    (pss_one (ps_ret (pe_tup (pa_cons (pv 4) (pa_cons (pv 5) pa_nil)))))), ?_⟩
  obtain ⟨j0, rfl⟩ := Int.eq_ofNat_of_zero_le p0
  have q0 : sizeLine = 4 ^ 12 := sizeLine_eq
  have hm : ns.length ≤ 12 ∧ 1 ≤ r ∧ r ≤ 4 := by obtain ⟨_, _, _, _, _, z⟩ := ht; exact z
  refine ⟨_, rfl, _, rfl, rIx_S ha (at_ints (show j0 < ns.length by omega)) ⟨_, rfl, (by decide : 1 ≤ sizeLine), fun y hy => ⟨_, _, _, rfl, ?_⟩⟩⟩
  have fin : ∀ (l : Int) (o6 : Option V) (ws : List Int) H', ButN y (upd H y (.lst [V.int (j0 : Int)])) H' → Tabs (TT K) H' → H' y = some (.lst (ws.map V.int)) → ws ≠ [] → (∀ q ∈ ws, 0 ≤ q ∧ q < (ns.length : Int)) → ws.length ≤ 100 →
      tRet (tTup (tCons (tVar 4) (tCons (tVar 5) tNil))) { nx := fun _ H' => Q .non H', rt := Q } [some (V.ref a), some (V.ref t), some (V.int (j0 : Int)), some (V.int (ns.getD j0 0)), some (V.ref y), some (V.int l), o6] H' := by
    intro l o6 ws H' b tT hyl ne hv hl
    refine ⟨_, rfl, _, rfl, sz2, fun tp htp => h1 tp y l ws _ ?_ (tT.ext (same_new htp)) upd_same ?_ ne hv hl⟩
    · exact (ButN.ext hy (.of (same_new hy)) b).trans (.of (same_new htp))
    · rw [upd_ne (ne_of_none hyl htp)]
      exact hyl
  refine ⟨fun M σ H' => ∃ (l : Int) (o6 : Option V) (us : List Int) (q : Int), σ = [some (V.ref a), some (V.ref t), some (V.int (j0 : Int)), some (V.int (ns.getD j0 0)), some (V.ref y), some (V.int l), o6] ∧ ButN y (upd H y (.lst [V.int (j0 : Int)])) H' ∧ Tabs (TT K) H' ∧
    H' y = some (.lst (us.map V.int ++ [V.int q])) ∧ (∀ c ∈ us ++ [q], 0 ≤ c ∧ c < (ns.length : Int)) ∧ (us.length : Int) + q ≤ 12 ∧ M = q.toNat, ⟨j0, 0, _, [], (j0 : Int), rfl, ButN.refl, hT.ext (same_new hy), upd_same, ?_, by simp; omega, by simp⟩, ?_⟩
  · intro c hc
    simp at hc
    subst hc
    exact ⟨p0, p1⟩
  · rintro M σ H' ⟨l, o6, us, q, rfl, b, tT, hyl, hv, hl, rfl⟩
    have eN := ButN.ext hy (.of (same_new hy)) b
    have ha' := ha.ext eN
    have ht' := ht.ext eN
    obtain ⟨dx', p', hs', _⟩ := ht'.slt
    have hq := hv q (by simp)
    refine ⟨_, rfl, _, rfl, y, _, _, _, rfl, rfl, SqL.of hyl, atI_last _ _, _, _, rfl, rfl, _, rfl, ?_⟩
    have e1 : us.map V.int ++ [V.int q] = (us ++ [q]).map V.int := by simp
    by_cases hgt : 0 < q
    · rw [decide_eq_true hgt]
      refine iteT ⟨fun σ' H'' => ∃ m', m' < q.toNat ∧ _, fun _ _ z => z, ?_⟩
      refine ⟨_, rfl, t, dx', _, rfl, hs', _, rfl, _, rfl, y, _, _, _, rfl, rfl, SqL.of hyl, atI_last _ _, t, .int q, .int q, ns.length, r, rfl, ht', .int q, fun n' e' n0 nm => ?_, fun z => ?_⟩
      · cases e'
        rw [if_pos hgt]
        have hp' := par_lt (r := r) (p := q) hm.2.1 hgt
        obtain ⟨j, ej⟩ := Int.eq_ofNat_of_zero_le hp'.1
        have ej' : (q - 1).fdiv (r : Int) = (j : Nat) := ej
        rw [ej']
        have hj : j < ns.length := by omega
        refine ⟨_, rfl, _, _, rfl, rfl, ?_⟩
        refine ⟨_, rfl, _, rfl, rIx_S ha' (at_ints hj) ⟨_, rfl, _, _, rfl, rfl, _, rfl, ?_⟩⟩
        by_cases hle : ns.getD j 0 ≤ ns.getD j0 0
        · rw [decide_eq_true hle]
          refine iteT (fin _ _ (us ++ [q]) H' b tT (by rw [hyl, e1]) (by simp) hv ?_)
          rw [List.length_append]
          simp
          omega
        · rw [decide_eq_false hle]
          refine iteF ⟨_, rfl, .inl ⟨rfl, _, SqL.of hyl⟩, _, rfl, y, _, _, rfl, rfl, hyl, ?_, j, by omega, _, _, us ++ [q], (j : Int), rfl, b.trans .upd, ?_, ?_, ?_, ?_, by simp⟩
          · simp
            omega
          · exact tabs_upd tT hyl
          · rw [upd_same, e1]
          · intro c hc
            rcases List.mem_append.mp hc with hc | hc
            · exact hv c hc
            · rw [List.mem_singleton.mp hc]
              omega
          · rw [List.length_append]
            simp
            omega
      · have : isN (.int q) 0 ((ns.length : Int) - 1) = true := by
          simp [isN]
          omega
        rw [this] at z
        cases z
    · rw [decide_eq_false hgt]
      refine iteF (fin l o6 (us ++ [q]) H' b tT (by rw [hyl, e1]) (by simp) hv ?_)
      rw [List.length_append]
      simp
      omega
end
end K7
/-! way_down, way_of_hole *)-/
namespace K7
open PySem PySem.Spec PyProof.Rows L2 He
open LamX (Tabs TabS TabB ExtN CodeO lamEnv)
section
variable {w : World} {K : PySem.W.Frag} {mg : Str → Option Value} {base : Heap}
theorem sc_way_down : FnScope ["row", "tree", "place", "key", "way", "looks", "children", "least"] ["row", "tree", "place"] (defScope s_way_down) := ⟨rfl, rfl, rfl, by decide +kernel, rfl, by decide +kernel, by decide +kernel⟩
theorem F_way_down (T : TX K mg base) : FnR Pr w K mg base (LC w) 6 (a_way_down K) (spWUp K) := by
  obtain ⟨fd, F⟩ := T.f_way_down
  refine fnr_of (ps := ["row", "tree", "place"]) (N := ["row", "tree", "place", "key", "way", "looks", "children", "least"]) F (fun _ _ _ _ _ _ us hl => match us, hl with | [_, _, _], _ => rfl) sc_way_down (fun vs H Q E h => by obtain ⟨a, t, p, ns, r, rfl, _⟩ := h; rfl) fun cdv A outer s H vs Q E hr h => ?_
  obtain ⟨a, t, p, ns, r, rfl, ha, ht, p0, p1, hT, h1⟩ := h
  refine ⟨_, pss_cons (ps_par3 (i := 3) (j := 4) (l := 5) rfl sc_way_down.nd rfl rfl rfl (by decide) (by decide) (by decide) rfl rfl rfl (pa_cons (pe_ix ix_seq (pv 0) (pv 2) (fun _ _ => rfl)) (pa_cons (pe_lst (pa_cons (pv 2) pa_nil)) (pa_cons pe_int pa_nil))) rfl)
    (pss_cons (ps_while (passes_of rfl) (pt_cmpR (op_neD hr.units) (pe_ixOwn (E := E) T.d_getitem T.dn_getitem T.df_getitem (F_getitem T) hr pX (pv 1) (pe_ix ix_list (pv 4) (pe_un un_neg pe_int) (fun _ _ => rfl))) (pe_tup pa_nil) (nomark _))
      (pss_cons (ps_set (i := 6) sc_way_down.nd rfl (.inl rfl) (pe_ixOwn (E := E) T.d_getitem T.dn_getitem T.df_getitem (F_getitem T) hr pX (pv 1) (pe_ix ix_list (pv 4) (pe_un un_neg pe_int) (fun _ _ => rfl))))
      (pss_cons (ps_aug (i := 5) sc_way_down.nd rfl (.inl rfl) (pe_callB call_len_seq rfl T.n_len PySem.boot_len (pa_cons (pv 6) pa_nil)) ip_add)
      (pss_cons (ps_set (i := 7) sc_way_down.nd rfl (.inl rfl) (pe_cl (F_first_least T) (hr.mono (by decide)) rfl T.g_first_least (kpF T.f_first_least) pX (pa_cons (pv 0) (pa_cons (pv 6) pa_nil))))
      (pss_cons (ps_if (pt_cmpR op_le (pv 3) (pe_ix ix_seq (pv 0) (pv 7) (fun _ _ => rfl)) (nomark _)) (pss_one ps_break) pss_nil)
      (pss_one (ps_expr (pe_bm PySem.F.plainAttrs_list PySem.F.slot_list_append PySem.F.type_list_append mt_append (pv 4) (pa_cons (pv 7) pa_nil)))))))))
    (pss_one (ps_ret (pe_tup (pa_cons (pv 4) (pa_cons (pv 5) pa_nil)))))), ?_⟩
  obtain ⟨j0, rfl⟩ := Int.eq_ofNat_of_zero_le p0
  have q0 : sizeLine = 4 ^ 12 := sizeLine_eq
  have hm : ns.length ≤ 12 ∧ 1 ≤ r ∧ r ≤ 4 := by obtain ⟨_, _, _, _, _, z⟩ := ht; exact z
  refine ⟨_, rfl, _, rfl, rIx_S ha (at_ints (show j0 < ns.length by omega)) ⟨_, rfl, (by decide : 1 ≤ sizeLine), fun y hy => ⟨_, _, _, rfl, ?_⟩⟩⟩
  have fin : ∀ (l : Int) (o6 o7 : Option V) (ws : List Int) H', ButN y (upd H y (.lst [V.int (j0 : Int)])) H' → Tabs (TT K) H' → H' y = some (.lst (ws.map V.int)) → ws ≠ [] → (∀ q ∈ ws, 0 ≤ q ∧ q < (ns.length : Int)) → ws.length ≤ 100 →
      tRet (tTup (tCons (tVar 4) (tCons (tVar 5) tNil))) { nx := fun _ H' => Q .non H', rt := Q } [some (V.ref a), some (V.ref t), some (V.int (j0 : Int)), some (V.int (ns.getD j0 0)), some (V.ref y), some (V.int l), o6, o7] H' := by
    intro l o6 o7 ws H' b tT hyl ne hv hl
    refine ⟨_, rfl, _, rfl, sz2, fun tp htp => h1 tp y l ws _ ?_ (tT.ext (same_new htp)) upd_same ?_ ne hv hl⟩
    · exact (ButN.ext hy (.of (same_new hy)) b).trans (.of (same_new htp))
    · rw [upd_ne (ne_of_none hyl htp)]
      exact hyl
  refine ⟨fun M σ H' => ∃ (l : Int) (o6 o7 : Option V) (us : List Int) (q : Int), σ = [some (V.ref a), some (V.ref t), some (V.int (j0 : Int)), some (V.int (ns.getD j0 0)), some (V.ref y), some (V.int l), o6, o7] ∧ ButN y (upd H y (.lst [V.int (j0 : Int)])) H' ∧ Tabs (TT K) H' ∧
    H' y = some (.lst (us.map V.int ++ [V.int q])) ∧ (∀ c ∈ us ++ [q], 0 ≤ c ∧ c < (ns.length : Int)) ∧ (us.length : Int) ≤ q ∧ M = (12 - q).toNat, ⟨(12 - (j0 : Int)).toNat, 0, _, _, [], (j0 : Int), rfl, ButN.refl, hT.ext (same_new hy), upd_same, ?_, by simp, rfl⟩, ?_⟩
  · intro c hc
    simp at hc
    subst hc
    exact ⟨p0, p1⟩
  · rintro M σ H' ⟨l, o6, o7, us, q, rfl, b, tT, hyl, hv, hl, rfl⟩
    have eN := ButN.ext hy (.of (same_new hy)) b
    have ht' := ht.ext eN
    obtain ⟨dx', p', hs', _⟩ := ht'.slt
    have hq := hv q (by simp)
    have isq : isN (.int q) 0 ((ns.length : Int) - 1) = true := by
      simp [isN]
      omega
    refine ⟨_, rfl, _, rfl, _, rfl, y, _, _, _, rfl, rfl, SqL.of hyl, atI_last _ _, t, dx', _, rfl, hs', t, .int q, .int q, ns.length, r, rfl, ht', .int q, fun n' e' n0 nm t5 H5 s5 ht5 => ?_, fun z => by rw [isq] at z; cases z⟩
    cases e'
    refine ⟨(by decide : 0 ≤ sizeLine), fun t6 ht6 => neT (ms := []) (extN_t (.of (same_new ht6)) ht5) (.of upd_same) ⟨_, rfl, ?_⟩⟩
    have s6 := s5.trans (same_new (o := .tup []) ht6)
    have b6 := b.trans (.of (.of s6))
    have tT6 := tT.ext s6
    have hyl6 := s6 _ _ hyl
    have ht6' := ht'.ext (.of s6)
    generalize upd H5 t6 (.tup []) = H6 at s6 b6 tT6 hyl6 ht6'
    have e1 : us.map V.int ++ [V.int q] = (us ++ [q]).map V.int := by simp
    by_cases hk : kids ns.length r q = []
    · rw [decide_eq_true hk]
      refine iteF (fin l o6 o7 (us ++ [q]) H6 b6 tT6 (by rw [hyl6, e1]) (by simp) hv ?_)
      rw [List.length_append]
      simp
      omega
    · rw [decide_eq_false hk]
      obtain ⟨dx7, p7, hs7, _⟩ := ht6'.slt
      refine iteT ⟨fun σ' H'' => ∃ m', m' < (12 - q).toNat ∧ _, fun _ _ z => z, ?_⟩
      refine ⟨_, rfl, _, rfl, _, rfl, y, _, _, _, rfl, rfl, SqL.of hyl6, atI_last _ _, t, dx7, _, rfl, hs7, t, .int q, .int q, ns.length, r, rfl, ht6', .int q, fun n' e' n0 nm t8 H8 s8 ht8 => ?_, fun z => by rw [isq] at z; cases z⟩
      cases e'
      have b8 := b6.trans (.of (.of s8))
      have tT8 := tT6.ext s8
      have hyl8 := s8 _ _ hyl6
      have ha8 := ha.ext (ButN.ext hy (.of (same_new hy)) b8)
      refine ⟨_, rfl, _, rfl, t8, _, rfl, .inr ht8, _, _, rfl, rfl, ?_⟩
      refine ⟨_, rfl, _, rfl, a, t8, ns, kids ns.length r q, rfl, ha8, ht8, hk, fun c hc => ?_, tT8, fun c hc H9 e9 tT9 => ?_⟩
      · have := kids_mem hm.2.1 hq.1 hc
        omega
      · have hkc := kids_mem hm.2.1 hq.1 hc
        obtain ⟨j, rfl⟩ := Int.eq_ofNat_of_zero_le (show 0 ≤ c by omega)
        have b9 := b8.trans (.of e9)
        have hyl9 := e9 _ _ hyl8 fun ps z => nomatch z
        have ha9 := ha8.ext e9
        refine ⟨_, rfl, _, rfl, _, rfl, rIx_S ha9 (at_ints (show j < ns.length by omega)) ⟨_, _, rfl, rfl, _, rfl, ?_⟩⟩
        by_cases hle : ns.getD j0 0 ≤ ns.getD j 0
        · rw [decide_eq_true hle]
          refine iteT (fin _ _ _ (us ++ [q]) H9 b9 tT9 (by rw [hyl9, e1]) (by simp) hv ?_)
          rw [List.length_append]
          simp
          omega
        · rw [decide_eq_false hle]
          refine iteF ⟨_, rfl, .inl ⟨rfl, _, SqL.of hyl9⟩, _, rfl, y, _, _, rfl, rfl, hyl9, ?_, (12 - (j : Int)).toNat, by omega, _, _, _, us ++ [q], (j : Int), rfl, b9.trans .upd, ?_, ?_, ?_, ?_, rfl⟩
          · simp
            omega
          · exact tabs_upd tT9 hyl9
          · rw [upd_same, e1]
          · intro c hc
            rcases List.mem_append.mp hc with hc | hc
            · exact hv c hc
            · rw [List.mem_singleton.mp hc]
              omega
          · rw [List.length_append]
            simp
            omega
theorem sc_way_of_hole : FnScope ["row", "tree", "way", "looks"] ["row", "tree"] (defScope s_way_of_hole) := ⟨rfl, rfl, rfl, by decide +kernel, rfl, by decide +kernel, by decide +kernel⟩
def spHole (K : PySem.W.Frag) : Sp := fun vs H Q E => ∃ (a t : Addr) (ns : List Int) (r : Nat), vs = [V.ref a, V.ref t] ∧ SqS K H a (ns.map V.int) ∧ TreeAt K H t ns.length r ∧ 0 < ns.length ∧ Tabs (TT K) H ∧
  ∀ tp y l (ws : List Int) H', ExtN H H' → Tabs (TT K) H' → H' tp = some (.tup [V.ref y, V.int l]) → H' y = some (.lst (ws.map V.int)) → ws ≠ [] → (∀ q ∈ ws, 0 ≤ q ∧ q < (ns.length : Int)) → ws.length ≤ 100 → Q (.ref tp) H'
theorem F_way_of_hole (T : TX K mg base) : FnR Pr w K mg base (LC w) 6 (a_way_of_hole K) (spHole K) := by
  obtain ⟨fd, F⟩ := T.f_way_of_hole
  refine fnr_of (ps := ["row", "tree"]) (N := ["row", "tree", "way", "looks"]) F (fun _ _ _ _ _ _ us hl => match us, hl with | [_, _], _ => rfl) sc_way_of_hole (fun vs H Q E h => by obtain ⟨a, t, ns, r, rfl, _⟩ := h; rfl) fun cdv A outer s H vs Q E hr h => ?_
  obtain ⟨a, t, ns, r, rfl, ha, ht, p0, hT, h1⟩ := h
  refine ⟨_, pss_cons (ps_par (i := 2) (j := 3) rfl sc_way_of_hole.nd rfl rfl (by decide) rfl rfl (pa_cons (pe_lst (pa_cons pe_int pa_nil)) (pa_cons pe_int pa_nil)) rfl)
    (pss_cons (ps_while (passes_of rfl) (pt_cmpR (op_neD hr.units) (pe_ixOwn (E := E) T.d_getitem T.dn_getitem T.df_getitem (F_getitem T) hr pX (pv 1) (pe_ix ix_list (pv 2) (pe_un un_neg pe_int) (fun _ _ => rfl))) (pe_tup pa_nil) (nomark _))
      (pss_cons (ps_aug (i := 3) sc_way_of_hole.nd rfl (.inl rfl) (pe_op op_sub (pe_callB call_len_seq rfl T.n_len PySem.boot_len (pa_cons (pe_ixOwn (E := E) T.d_getitem T.dn_getitem T.df_getitem (F_getitem T) hr pX (pv 1) (pe_ix ix_list (pv 2) (pe_un un_neg pe_int) (fun _ _ => rfl))) pa_nil)) pe_int) ip_add)
      (pss_one (ps_expr (pe_bm PySem.F.plainAttrs_list PySem.F.slot_list_append PySem.F.type_list_append mt_append (pv 2) (pa_cons (pe_cl (F_first_least T) (hr.mono (by decide)) rfl T.g_first_least (kpF T.f_first_least) pX (pa_cons (pv 0) (pa_cons
        (pe_ixOwn (E := E) T.d_getitem T.dn_getitem T.df_getitem (F_getitem T) hr pX (pv 1) (pe_ix ix_list (pv 2) (pe_un un_neg pe_int) (fun _ _ => rfl))) pa_nil))) pa_nil))))))
    (pss_one (ps_ret (pe_tup (pa_cons (pv 2) (pa_cons (pv 3) pa_nil)))))), ?_⟩
  have q0 : sizeLine = 4 ^ 12 := sizeLine_eq
  have hm : ns.length ≤ 12 ∧ 1 ≤ r ∧ r ≤ 4 := by obtain ⟨_, _, _, _, _, z⟩ := ht; exact z
  refine ⟨(by decide : 1 ≤ sizeLine), fun y hy => ⟨_, _, rfl, ?_⟩⟩
  refine ⟨fun M σ H' => ∃ (l : Int) (us : List Int) (q : Int), σ = [some (V.ref a), some (V.ref t), some (V.ref y), some (V.int l)] ∧ ButN y (upd H y (.lst [V.int 0])) H' ∧ Tabs (TT K) H' ∧
    H' y = some (.lst (us.map V.int ++ [V.int q])) ∧ (∀ c ∈ us ++ [q], 0 ≤ c ∧ c < (ns.length : Int)) ∧ (us.length : Int) ≤ q ∧ M = (12 - q).toNat, ⟨12, 0, [], 0, rfl, ButN.refl, hT.ext (same_new hy), upd_same, ?_, by simp, rfl⟩, ?_⟩
  · intro c hc
    simp at hc
    subst hc
    omega
  · rintro M σ H' ⟨l, us, q, rfl, b, tT, hyl, hv, hl, rfl⟩
    have eN := ButN.ext hy (.of (same_new hy)) b
    have ht' := ht.ext eN
    obtain ⟨dx', p', hs', _⟩ := ht'.slt
    have hq := hv q (by simp)
    have isq : isN (.int q) 0 ((ns.length : Int) - 1) = true := by
      simp [isN]
      omega
    refine ⟨_, rfl, _, rfl, _, rfl, y, _, _, _, rfl, rfl, SqL.of hyl, atI_last _ _, t, dx', _, rfl, hs', t, .int q, .int q, ns.length, r, rfl, ht', .int q, fun n' e' n0 nm t5 H5 s5 ht5 => ?_, fun z => by rw [isq] at z; cases z⟩
    cases e'
    refine ⟨(by decide : 0 ≤ sizeLine), fun t6 ht6 => neT (ms := []) (extN_t (.of (same_new ht6)) ht5) (.of upd_same) ⟨_, rfl, ?_⟩⟩
    have s6 := s5.trans (same_new (o := .tup []) ht6)
    have b6 := b.trans (.of (.of s6))
    have tT6 := tT.ext s6
    have hyl6 := s6 _ _ hyl
    have ht6' := ht'.ext (.of s6)
    generalize upd H5 t6 (.tup []) = H6 at s6 b6 tT6 hyl6 ht6'
    have e1 : us.map V.int ++ [V.int q] = (us ++ [q]).map V.int := by simp
    by_cases hk : kids ns.length r q = []
    · rw [decide_eq_true hk]
      refine iteF ⟨_, rfl, _, rfl, sz2, fun tp htp => h1 tp y l (us ++ [q]) _ ?_ (tT6.ext (same_new htp)) upd_same ?_ (by simp) hv ?_⟩
      · exact (ButN.ext hy (.of (same_new hy)) b6).trans (.of (same_new htp))
      · rw [upd_ne (ne_of_none hyl6 htp), ← e1]
        exact hyl6
      · rw [List.length_append]
        simp
        omega
    · rw [decide_eq_false hk]
      obtain ⟨dx7, p7, hs7, _⟩ := ht6'.slt
      refine iteT ⟨fun σ' H'' => ∃ m', m' < (12 - q).toNat ∧ _, fun _ _ z => z, ?_⟩
      refine ⟨_, rfl, _, rfl, _, rfl, _, rfl, y, _, _, _, rfl, rfl, SqL.of hyl6, atI_last _ _, t, dx7, _, rfl, hs7, t, .int q, .int q, ns.length, r, rfl, ht6', .int q, fun n' e' n0 nm t8 H8 s8 ht8 => ?_, fun z => by rw [isq] at z; cases z⟩
      cases e'
      have b8 := b6.trans (.of (.of s8))
      have tT8 := tT6.ext s8
      have hyl8 := s8 _ _ hyl6
      have ht8' := ht6'.ext (.of s8)
      obtain ⟨dx8, p8, hs8, _⟩ := ht8'.slt
      refine ⟨t8, _, rfl, .inr ht8, _, _, rfl, rfl, _, _, rfl, rfl, ?_⟩
      refine ⟨_, rfl, .inl ⟨rfl, _, SqL.of hyl8⟩, _, rfl, _, rfl, _, rfl, _, rfl, y, _, _, _, rfl, rfl, SqL.of hyl8, atI_last _ _, t, dx8, _, rfl, hs8, t, .int q, .int q, ns.length, r, rfl, ht8', .int q, fun n' e' n0 nm t9 H9 s9 ht9 => ?_, fun z => by rw [isq] at z; cases z⟩
      cases e'
      have b9 := b8.trans (.of (.of s9))
      have tT9 := tT8.ext s9
      have hyl9 := s9 _ _ hyl8
      have ha9 := ha.ext (ButN.ext hy (.of (same_new hy)) b9)
      refine ⟨a, t9, ns, kids ns.length r q, rfl, ha9, ht9, hk, fun c hc => ?_, tT9, fun c hc H10 e10 tT10 => ?_⟩
      · have := kids_mem hm.2.1 hq.1 hc
        omega
      · have hkc := kids_mem hm.2.1 hq.1 hc
        have b10 := b9.trans (.of e10)
        have hyl10 := e10 _ _ hyl9 fun ps z => nomatch z
        refine ⟨y, _, _, rfl, rfl, hyl10, ?_, (12 - c).toNat, by omega, _, us ++ [q], c, rfl, b10.trans .upd, ?_, ?_, ?_, ?_, rfl⟩
        · simp
          omega
        · exact tabs_upd tT10 hyl10
        · rw [upd_same, e1]
        · intro d hd
          rcases List.mem_append.mp hd with hd | hd
          · exact hv d hd
          · rw [List.mem_singleton.mp hd]
            omega
        · rw [List.length_append]
          simp
          omega
end
end K7
/-! lifted, sunk, the sifts' doors *)-/
namespace K7
open PySem PySem.Spec PyProof.Rows L2 He
open LamX (Tabs TabS TabB ExtN CodeO lamEnv)
theorem mkSift_g {K : PySem.W.Frag} {H : Hp} {a dx b c : Addr} {l : Int} {ns ws : List Int} {E : XK} {P : Hp → Prop} (ha : H a = none) (hd : H dx = none) (nd : dx ≠ a) (hb : SqS K H b (ns.map V.int)) (hc : SqS K H c (ws.map V.int)) (h : ∀ H', Same H H' → SiftAt K H' a ns ws → P H') :
    spSiftInit K [V.ref a, V.ref b, V.ref c, V.int l] (upd (upd H dx (.own a)) a (.ins (a_Sift K) dx [])) (fun v H3 => v = .non ∧ P H3) E := by
  have sm := same_made (C := a_Sift K) ha hd
  exact ⟨a, dx, b, c, l, ns, ws, rfl, upd_same, by rw [upd_ne nd, upd_same], nd, hb.ext (.of sm), hc.ext (.of sm), fun H' k t => ⟨rfl, h H' (keep_made ha hd k) t⟩⟩
section
variable {w : World} {K : PySem.W.Frag} {mg : Str → Option Value} {base : Heap}
def spLift (K : PySem.W.Frag) : Sp := fun vs H Q E => ∃ (a t : Addr) (p : Int) (ns : List Int) (r : Nat), vs = [V.ref a, V.ref t, V.int p] ∧ SqS K H a (ns.map V.int) ∧ TreeAt K H t ns.length r ∧ 0 ≤ p ∧ p < (ns.length : Int) ∧ Tabs (TT K) H ∧
  ∀ s (ms ws : List Int) H', ExtN H H' → Tabs (TT K) H' → SiftAt K H' s ms ws → ms.length = ns.length → ws ≠ [] → Q (.ref s) H'
theorem sc_lifted : FnScope ["row", "tree", "place", "way", "looks"] ["row", "tree", "place"] (defScope s_lifted) := ⟨rfl, rfl, rfl, by decide +kernel, rfl, by decide +kernel, by decide +kernel⟩
theorem F_lifted (T : TX K mg base) : FnR Pr w K mg base (LC w) 6 (a_lifted K) (spLift K) := by
  obtain ⟨fd, F⟩ := T.f_lifted
  refine fnr_of (ps := ["row", "tree", "place"]) (N := ["row", "tree", "place", "way", "looks"]) F (fun _ _ _ _ _ _ us hl => match us, hl with | [_, _, _], _ => rfl) sc_lifted (fun vs H Q E h => by obtain ⟨a, t, p, ns, r, rfl, _⟩ := h; rfl) fun cdv A outer s H vs Q E hr h => ?_
  obtain ⟨a, t, p, ns, r, rfl, ha, ht, p0, p1, hT, h1⟩ := h
  refine ⟨_, pss_cons (ps_asg (pe_cl (F_way_up T) hr rfl T.g_way_up (kpF T.f_way_up) pX (pa_cons (pv 0) (pa_cons (pv 1) (pa_cons (pv 2) pa_nil)))) (pg_tup rfl (pgs_cons (pg_name (i := 3) sc_lifted.nd rfl (.inl rfl)) (pgs_cons (pg_name (i := 4) sc_lifted.nd rfl (.inl rfl)) pgs_nil))))
    (pss_one (ps_ret (StX.pe_makeR T.m_Sift (F_Sift_init T) (hr.mono (by decide)) rfl T.g_Sift pX (pa_cons (pe_cl (F_moved T) (hr.mono (by decide)) rfl T.g_moved (kpF T.f_moved) pX (pa_cons (pv 0) (pa_cons (pv 3) pa_nil))) (pa_cons (pv 3) (pa_cons (pv 4) pa_nil)))))), ?_⟩
  refine ⟨_, rfl, _, rfl, _, rfl, a, t, p, ns, r, rfl, ha, ht, p0, p1, hT, fun tp y l ws H2 e2 tT2 htp hy ne hv hl => ?_⟩
  refine ⟨tp, _, rfl, SqT.of htp, rfl, _, _, rfl, _, _, rfl, rfl, ?_⟩
  refine ⟨_, rfl, _, rfl, a, y, ns, ws, rfl, ha.ext e2, hy, ne, hv, hl, fun l3 H3 ms s3 hl3 lms => ?_⟩
  refine ⟨_, rfl, _, rfl, fun x dx hx hd nd => mkSift_g (ns := ms) (ws := ws) hx hd nd (.inl (SqL.of hl3)) (.inl (SqL.of (s3 _ _ hy))) fun H4 s4 hs => ?_⟩
  exact h1 x ms ws H4 (e2.trans (.of (s3.trans s4))) (tT2.ext (s3.trans s4)) hs lms ne
theorem sc_sunk : FnScope ["row", "tree", "place", "way", "looks"] ["row", "tree", "place"] (defScope s_sunk) := ⟨rfl, rfl, rfl, by decide +kernel, rfl, by decide +kernel, by decide +kernel⟩
theorem F_sunk (T : TX K mg base) : FnR Pr w K mg base (LC w) 7 (a_sunk K) (spLift K) := by
  obtain ⟨fd, F⟩ := T.f_sunk
  refine fnr_of (ps := ["row", "tree", "place"]) (N := ["row", "tree", "place", "way", "looks"]) F (fun _ _ _ _ _ _ us hl => match us, hl with | [_, _, _], _ => rfl) sc_sunk (fun vs H Q E h => by obtain ⟨a, t, p, ns, r, rfl, _⟩ := h; rfl) fun cdv A outer s H vs Q E hr h => ?_
  obtain ⟨a, t, p, ns, r, rfl, ha, ht, p0, p1, hT, h1⟩ := h
  refine ⟨_, pss_cons (ps_asg (pe_cl (F_way_down T) hr rfl T.g_way_down (kpF T.f_way_down) pX (pa_cons (pv 0) (pa_cons (pv 1) (pa_cons (pv 2) pa_nil)))) (pg_tup rfl (pgs_cons (pg_name (i := 3) sc_sunk.nd rfl (.inl rfl)) (pgs_cons (pg_name (i := 4) sc_sunk.nd rfl (.inl rfl)) pgs_nil))))
    (pss_one (ps_ret (StX.pe_makeR T.m_Sift (F_Sift_init T) (hr.mono (by decide)) rfl T.g_Sift pX (pa_cons (pe_cl (F_moved T) (hr.mono (by decide)) rfl T.g_moved (kpF T.f_moved) pX (pa_cons (pv 0) (pa_cons (pv 3) pa_nil))) (pa_cons (pv 3) (pa_cons (pv 4) pa_nil)))))), ?_⟩
  refine ⟨_, rfl, _, rfl, _, rfl, a, t, p, ns, r, rfl, ha, ht, p0, p1, hT, fun tp y l ws H2 e2 tT2 htp hy ne hv hl => ?_⟩
  refine ⟨tp, _, rfl, SqT.of htp, rfl, _, _, rfl, _, _, rfl, rfl, ?_⟩
  refine ⟨_, rfl, _, rfl, a, y, ns, ws, rfl, ha.ext e2, hy, ne, hv, hl, fun l3 H3 ms s3 hl3 lms => ?_⟩
  refine ⟨_, rfl, _, rfl, fun x dx hx hd nd => mkSift_g (ns := ms) (ws := ws) hx hd nd (.inl (SqL.of hl3)) (.inl (SqL.of (s3 _ _ hy))) fun H4 s4 hs => ?_⟩
  exact h1 x ms ws H4 (e2.trans (.of (s3.trans s4))) (tT2.ext (s3.trans s4)) hs lms ne
/-- the refusals of a row, arms and a place, and of several the first -/
def spSift (K : PySem.W.Frag) : Sp := fun vs H Q E => ∃ x z y kx kz ky, vs = [x, z, y] ∧ Kd K H x kx ∧ Kd K H z kz ∧ Kd K H y ky ∧ Tabs (TT K) H ∧ preR K kx ky H E ∧ (∀ ns r, RowOk kx ky ns r → (isN kz 0 ((ns.length : Int) - 1) = false → ∀ H', Same H H' → E (.ref (a_BadPlace K)) none H') ∧
  (isN kz 0 ((ns.length : Int) - 1) = true → ∀ v H', ExtN H H' → Tabs (TT K) H' → Q v H'))
theorem sc_sift_up : FnScope ["row", "place", "arms", "tree"] ["row", "place", "arms"] (defScope s_sift_up) := ⟨rfl, rfl, rfl, by decide +kernel, rfl, by decide +kernel, by decide +kernel⟩
theorem F_sift_up (T : TX K mg base) : FnK Pr w K mg base (LC w) 8 (a_sift_up K) 2 ["arms"] (spSift K) := by
  obtain ⟨fd, F⟩ := T.f_sift_up
  refine (fnk_of (w := w) (mg := mg) (base := base) (ps := ["row", "place", "arms"]) (N := ["row", "place", "arms", "tree"]) (ks := ["arms"]) (n := 2) (k := 7) (sp := spSift K) F (by simp) (fun _ _ _ _ _ _ us ws l1 l2 => match us, ws, l1, l2 with | [_, _], [_], _, _ => rfl) sc_sift_up
    (fun vs H Q E h => by obtain ⟨x, z, y, kx, kz, ky, rfl, _⟩ := h; rfl) fun cdv A outer s H vs Q E hr h => ?_).2.2
  obtain ⟨x, z, y, kx, kz, ky, rfl, hx, hz, hy, hT, ⟨pA, pR⟩, h1⟩ := h
  refine ⟨_, pss_cons (ps_expr (pe_cl (F_check_arms T) (hr.mono (by decide)) rfl T.g_check_arms (kpF T.f_check_arms) pX (pa_cons (pv 2) pa_nil)))
    (pss_cons (ps_expr (pe_cl (F_check_row T) (hr.mono (by decide)) rfl T.g_check_row (kpF T.f_check_row) pX (pa_cons (pv 0) pa_nil)))
    (pss_cons (ps_set (i := 3) sc_sift_up.nd rfl (.inl rfl) (pe_mkTree rfl T (hr.mono (by decide)) rfl pX (pa_cons (pe_callB call_len_seq rfl T.n_len PySem.boot_len (pa_cons (pv 0) pa_nil)) pa_nil) (pk_cons (pv 2) pk_nil)))
    (pss_cons (ps_expr (SlX.pe_methSl (pv 3) T.c_Tree T.t_check_place (F_check_place T) (hr.mono (by decide)) pX (pa_cons (pv 1) pa_nil)))
    (pss_one (ps_ret (pe_cl (F_lifted T) (hr.mono (by decide)) rfl T.g_lifted (kpF T.f_lifted) pX (pa_cons (pv 0) (pa_cons (pv 3) (pa_cons (pv 1) pa_nil))))))))), ?_⟩
  refine ⟨_, rfl, y, ky, rfl, hy, fun e1 => ?_, fun e1 => pA e1 H (Same.refl H)⟩
  refine ⟨_, rfl, x, kx, rfl, hx, fun e2 H2 s2 => ?_, fun v ev H2 d s2 hd => pR e1 v ev H2 d s2 hd⟩
  obtain ⟨ns, r, R⟩ := rowOk_of e1 e2
  obtain ⟨a, rfl, hq, _⟩ := hx.sq R.row
  have ey := R.arm
  subst ey
  cases hy.int_eq
  refine ⟨_, rfl, a, _, rfl, hq.ext (.of s2), _, rfl, rfl, rfl, fun t dx ha hd nd => mkTree_g ha hd nd (ml ns) R.len R.r1 R.r4 fun H3 s3 ht => ?_⟩
  obtain ⟨dx3, p3, hs3, _⟩ := ht.slt
  have s23 := s2.trans s3
  obtain ⟨g1, g2⟩ := h1 ns r R
  refine ⟨_, rfl, t, dx3, _, rfl, hs3, _, rfl, t, z, kz, ns.length, r, rfl, ht, hz.ext (.of s23), fun ez => ?_, fun ez => g1 ez H3 s23⟩
  obtain ⟨n, rfl, n1, n2⟩ := isN_int ez
  cases hz.int_eq
  exact ⟨_, rfl, _, rfl, _, rfl, a, t, n, ns, r, rfl, hq.ext (.of s23), ht, n1, by omega, hT.ext s23, fun sx ms ws H4 e4 tT4 _ _ _ => g2 ez _ H4 (ExtN.trans (.of s23) e4) tT4⟩
theorem sc_sift_down : FnScope ["row", "place", "arms", "tree"] ["row", "place", "arms"] (defScope s_sift_down) := ⟨rfl, rfl, rfl, by decide +kernel, rfl, by decide +kernel, by decide +kernel⟩
theorem F_sift_down (T : TX K mg base) : FnK Pr w K mg base (LC w) 8 (a_sift_down K) 2 ["arms"] (spSift K) := by
  obtain ⟨fd, F⟩ := T.f_sift_down
  refine (fnk_of (w := w) (mg := mg) (base := base) (ps := ["row", "place", "arms"]) (N := ["row", "place", "arms", "tree"]) (ks := ["arms"]) (n := 2) (k := 7) (sp := spSift K) F (by simp) (fun _ _ _ _ _ _ us ws l1 l2 => match us, ws, l1, l2 with | [_, _], [_], _, _ => rfl) sc_sift_down
    (fun vs H Q E h => by obtain ⟨x, z, y, kx, kz, ky, rfl, _⟩ := h; rfl) fun cdv A outer s H vs Q E hr h => ?_).2.2
  obtain ⟨x, z, y, kx, kz, ky, rfl, hx, hz, hy, hT, ⟨pA, pR⟩, h1⟩ := h
  refine ⟨_, pss_cons (ps_expr (pe_cl (F_check_arms T) (hr.mono (by decide)) rfl T.g_check_arms (kpF T.f_check_arms) pX (pa_cons (pv 2) pa_nil)))
    (pss_cons (ps_expr (pe_cl (F_check_row T) (hr.mono (by decide)) rfl T.g_check_row (kpF T.f_check_row) pX (pa_cons (pv 0) pa_nil)))
    (pss_cons (ps_set (i := 3) sc_sift_down.nd rfl (.inl rfl) (pe_mkTree rfl T (hr.mono (by decide)) rfl pX (pa_cons (pe_callB call_len_seq rfl T.n_len PySem.boot_len (pa_cons (pv 0) pa_nil)) pa_nil) (pk_cons (pv 2) pk_nil)))
    (pss_cons (ps_expr (SlX.pe_methSl (pv 3) T.c_Tree T.t_check_place (F_check_place T) (hr.mono (by decide)) pX (pa_cons (pv 1) pa_nil)))
    (pss_one (ps_ret (pe_cl (F_sunk T) (hr.mono (by decide)) rfl T.g_sunk (kpF T.f_sunk) pX (pa_cons (pv 0) (pa_cons (pv 3) (pa_cons (pv 1) pa_nil))))))))), ?_⟩
  refine ⟨_, rfl, y, ky, rfl, hy, fun e1 => ?_, fun e1 => pA e1 H (Same.refl H)⟩
  refine ⟨_, rfl, x, kx, rfl, hx, fun e2 H2 s2 => ?_, fun v ev H2 d s2 hd => pR e1 v ev H2 d s2 hd⟩
  obtain ⟨ns, r, R⟩ := rowOk_of e1 e2
  obtain ⟨a, rfl, hq, _⟩ := hx.sq R.row
  have ey := R.arm
  subst ey
  cases hy.int_eq
  refine ⟨_, rfl, a, _, rfl, hq.ext (.of s2), _, rfl, rfl, rfl, fun t dx ha hd nd => mkTree_g ha hd nd (ml ns) R.len R.r1 R.r4 fun H3 s3 ht => ?_⟩
  obtain ⟨dx3, p3, hs3, _⟩ := ht.slt
  have s23 := s2.trans s3
  obtain ⟨g1, g2⟩ := h1 ns r R
  refine ⟨_, rfl, t, dx3, _, rfl, hs3, _, rfl, t, z, kz, ns.length, r, rfl, ht, hz.ext (.of s23), fun ez => ?_, fun ez => g1 ez H3 s23⟩
  obtain ⟨n, rfl, n1, n2⟩ := isN_int ez
  cases hz.int_eq
  exact ⟨_, rfl, _, rfl, _, rfl, a, t, n, ns, r, rfl, hq.ext (.of s23), ht, n1, by omega, hT.ext s23, fun sx ms ws H4 e4 tT4 _ _ _ => g2 ez _ H4 (ExtN.trans (.of s23) e4) tT4⟩
end
end K7
/-! Built, parents_of, built, build -/
namespace K7
open PySem PySem.Spec PyProof.Rows L2 He
open LamX (Tabs TabS TabB ExtN CodeO lamEnv)
theorem sqS_keep2 {K : PySem.W.Frag} {H H' : Hp} {a dx t : Addr} {xs : List V} {oa od : HO} (k : Keep2 a dx H H') (ha : H a = some oa) (hd : H dx = some od) (n1 : ∀ ys, oa ≠ .tup ys) (n2 : ∀ o u, oa ≠ .frz o u) (n3 : ∀ ys, od ≠ .tup ys) (n4 : ∀ o u, od ≠ .frz o u) (n5 : ∀ ys, oa ≠ .lst ys) (n6 : ∀ ys, od ≠ .lst ys)
    (h : SqS K H t xs) : SqS K H' t xs := by
  rcases h with h | h
  · refine .inl ?_
    rcases h with (h | ⟨o, h⟩) | h
    · exact .inl (.inl (k _ _ (fun z => n5 xs (Option.some.inj (ha.symm.trans (by rw [← z]; exact h)))) (fun z => n6 xs (Option.some.inj (hd.symm.trans (by rw [← z]; exact h)))) h))
    · exact .inl (.inr ⟨o, k _ _ (fun z => n2 o _ (Option.some.inj (ha.symm.trans (by rw [← z]; exact h)))) (fun z => n4 o _ (Option.some.inj (hd.symm.trans (by rw [← z]; exact h)))) h⟩)
    · exact .inr h
  · exact .inr (sqT_keep2 k ha hd n1 (fun o ys => n2 o _) n3 (fun o ys => n4 o _) h)
theorem ButN.sqT {K : PySem.W.Frag} {D t : Addr} {H H' : Hp} {xs ys : List V} (b : ButN D H H') (hD : H D = some (.lst ys)) (h : SqT K H t xs) : SqT K H' t xs := by
  rcases h with (h | ⟨o, h⟩) | h
  · exact .inl (.inl (b _ _ (ne_of h hD (by intro z; cases z)) h fun ps z => nomatch z))
  · exact .inl (.inr ⟨o, b _ _ (ne_of h hD (by intro z; cases z)) h fun ps z => nomatch z⟩)
  · exact .inr h
theorem SiftAt.but {K : PySem.W.Frag} {D s : Addr} {H H' : Hp} {ms ws : List Int} {ys : List V} (h : SiftAt K H s ms ws) (b : ButN D H H') (hD : H D = some (.lst ys)) : SiftAt K H' s ms ws := by
  obtain ⟨dx, l, rt, wt, h1, h2, h3, h4⟩ := h
  exact ⟨dx, l, rt, wt, b _ _ (ne_of h1 hD (by intro z; unfold SlX.SlO at z; cases z)) h1 (fun ps z => by unfold SlX.SlO at z; cases z), b _ _ (ne_of h2 hD (by intro z; cases z)) h2 (fun ps z => nomatch z), b.sqT hD h3, b.sqT hD h4⟩
section
variable {w : World} {K : PySem.W.Frag} {mg : Str → Option Value} {base : Heap}
theorem sc_Built_init : FnScope ["self", "row", "stops", "changes", "looks"] ["self", "row", "stops", "changes", "looks"] (defScope s_Built_init) := ⟨rfl, rfl, rfl, by decide +kernel, rfl, by decide +kernel, by decide +kernel⟩
def spBuiltInit (K : PySem.W.Frag) : Sp := fun vs H Q E => ∃ (a dx b c : Addr) (x y : V) (xs ys : List V), vs = [V.ref a, V.ref b, V.ref c, x, y] ∧ H a = some (.ins (a_Built K) dx []) ∧ H dx = some (.own a) ∧ dx ≠ a ∧ SqS K H b xs ∧ SqS K H c ys ∧ ∀ H', Keep2 a dx H H' → Q .non H'
theorem F_Built_init (T : TX K mg base) : FnR Pr w K mg base (LC w) 1 (a_Built_init K) (spBuiltInit K) := by
  obtain ⟨fd, F⟩ := T.f_Built_init
  refine fnr_of (ps := ["self", "row", "stops", "changes", "looks"]) (N := ["self", "row", "stops", "changes", "looks"]) F (fun _ _ _ _ _ _ us hl => match us, hl with | [_, _, _, _, _], _ => rfl) sc_Built_init (fun vs H Q E h => by obtain ⟨a, dx, b, c, x, y, xs, ys, rfl, _⟩ := h; rfl) fun cdv A outer s H vs Q E hr h => ?_
  obtain ⟨a, dx, b, c, x, y, xs, ys, rfl, ha, hd, nd, hb, hc, h1⟩ := h
  refine ⟨_, pss_cons (SlX.ps_sl (pv 0) (pe_callTy call_tupS rfl T.n_tuple (by decide +kernel) (pa_cons (pv 1) pa_nil)))
    (pss_cons (SlX.ps_sl (pv 0) (pe_callTy call_tupS rfl T.n_tuple (by decide +kernel) (pa_cons (pv 2) pa_nil))) (pss_cons (SlX.ps_sl (pv 0) (pv 3)) (pss_one (SlX.ps_sl (pv 0) (pv 4))))), ?_⟩
  refine ⟨_, rfl, b, _, rfl, hb, fun t1 H1 s1 ht1 => ⟨_, rfl, a, a_Built K, dx, _, [], 2, rfl, .inl ⟨s1 _ _ ha, rfl⟩, T.c_Built, T.s_Built_row, ?_⟩⟩
  have k1 : Keep2 a dx H1 (SlX.slH H1 a (a_Built K) dx (SlX.putS 2 (.ref t1) [])) := keep_slH
  have hc1 := sqS_keep2 k1 (s1 _ _ ha) (s1 _ _ hd) (fun ys z => nomatch z) (fun o ys z => nomatch z) (fun ys z => nomatch z) (fun o ys z => nomatch z) (fun ys z => nomatch z) (fun ys z => nomatch z) (hc.ext (.of s1))
  have k01 : Keep2 a dx H (SlX.slH H1 a (a_Built K) dx (SlX.putS 2 (.ref t1) [])) := (Keep2.of s1).trans k1
  obtain ⟨z1, z2⟩ : SlX.slH H1 a (a_Built K) dx (SlX.putS 2 (.ref t1) []) a = some (SlX.SlO a (a_Built K) dx (SlX.putS 2 (.ref t1) [])) ∧ SlX.slH H1 a (a_Built K) dx (SlX.putS 2 (.ref t1) []) dx = some (.xd []) := by
    refine ⟨upd_same, ?_⟩
    unfold SlX.slH
    rw [upd_ne nd, upd_same]
  generalize SlX.slH H1 a (a_Built K) dx (SlX.putS 2 (.ref t1) []) = H2 at hc1 k01 z1 z2
  refine ⟨_, rfl, c, _, rfl, hc1, fun t2 H3 s3 ht2 => ?_⟩
  refine ⟨_, rfl, a, a_Built K, dx, _, _, 3, rfl, .inr ⟨s3 _ _ z1, s3 _ _ z2⟩, T.c_Built, T.s_Built_stops, ?_⟩
  refine ⟨_, rfl, _, rfl, a, a_Built K, dx, _, _, 0, rfl, SlX.slH_slt nd, T.c_Built, T.s_Built_changes, ?_⟩
  rw [SlX.slH_twice nd]
  refine ⟨_, rfl, _, rfl, a, a_Built K, dx, _, _, 1, rfl, SlX.slH_slt nd, T.c_Built, T.s_Built_looks, ?_⟩
  rw [SlX.slH_twice nd]
  exact h1 _ ((k01.trans (.of s3)).trans keep_slH)
theorem mkBuilt_g {H : Hp} {a dx b c : Addr} {x y : V} {xs ys : List V} {E : XK} {P : Hp → Prop} (ha : H a = none) (hd : H dx = none) (nd : dx ≠ a) (hb : SqS K H b xs) (hc : SqS K H c ys) (h : ∀ H', Same H H' → P H') :
    spBuiltInit K [V.ref a, V.ref b, V.ref c, x, y] (upd (upd H dx (.own a)) a (.ins (a_Built K) dx [])) (fun v H3 => v = .non ∧ P H3) E := by
  have sm := same_made (C := a_Built K) ha hd
  exact ⟨a, dx, b, c, x, y, xs, ys, rfl, upd_same, by rw [upd_ne nd, upd_same], nd, hb.ext (.of sm), hc.ext (.of sm), fun H' k => ⟨rfl, h H' (keep_made ha hd k)⟩⟩
theorem sc_parents_of : FnScope ["tree", "place"] ["tree"] (defScope s_parents_of) := ⟨rfl, rfl, rfl, by decide +kernel, rfl, by decide +kernel, by decide +kernel⟩
def spPars (K : PySem.W.Frag) : Sp := fun vs H Q E => ∃ (t : Addr) (m r : Nat), vs = [V.ref t] ∧ TreeAt K H t m r ∧ ∀ l (ps : List Int) H', Same H H' → H l = none → H' l = some (.lst (ps.map V.int)) → (∀ p ∈ ps, 0 ≤ p ∧ p < (m : Int)) → ps.length ≤ 12 → Q (.ref l) H'
theorem F_parents_of (T : TX K mg base) : FnR Pr w K mg base (LC w) 6 (a_parents_of K) (spPars K) := by
  obtain ⟨fd, F⟩ := T.f_parents_of
  refine fnr_of (ps := ["tree"]) (N := ["tree", "place"]) F (fun _ _ _ _ _ _ us hl => match us, hl with | [_], _ => rfl) sc_parents_of (fun vs H Q E h => by obtain ⟨t, m, r, rfl, _⟩ := h; rfl) fun cdv A outer s H vs Q E hr h => ?_
  obtain ⟨t, m, r, rfl, ht, h1⟩ := h
  refine ⟨_, pss_one (ps_ret (pe_revL (pe_lc (own := [("place", 1)]) (g := gName 1) (tt := tTest (tOp (rNeD K) (tOp (rIxOwn (a_Tree K) (spGet K) E0) (tVar 0) (tVar 1)) (tTup tNil))) rfl sc_parents_of.nd (pi_tree T (hr.mono (by decide)) (pv 0))
      (blkOk_by (own := [("place", 1)]) (N := ["tree", "place"]) (sc := defScope s_parents_of) (by decide +kernel)) (fun _ _ _ _ _ => pg_name (i := 1) sc_parents_of.nd rfl (Or.inl rfl))
      (fun _ _ _ _ _ => pts_one (pt_cmpR (op_neD hr.units) (pe_ixOwn (E := E0) T.d_getitem T.dn_getitem T.df_getitem (F_getitem T) hr passL (pv 0) (pv 1)) (pe_tup pa_nil) (nomark _))) (fun _ _ _ _ _ => pv 1)))), ?_⟩
  have p0 : sizeLine = 4 ^ 12 := sizeLine_eq
  have hm : m ≤ 12 ∧ 1 ≤ r ∧ r ≤ 4 := by obtain ⟨_, _, _, _, _, z⟩ := ht; exact z
  refine ⟨_, rfl, t, m, r, rfl, ht, fun p hp D hD => itT (xs := rg m) (fun i H3 => Same H H3 ∧ ∃ acc : List Int, H3 D = some (.lst (acc.map V.int)) ∧ acc.length ≤ i ∧ ∀ c ∈ acc, 0 ≤ c ∧ c < (m : Int)) ⟨same_new hD, [], upd_same, by simp, fun c hc => nomatch hc⟩ (fun i H3 _ q => extN_t (.of q.1) hp) ?_ ?_⟩
  · intro i x H3 hx q
    obtain ⟨s3, acc, hacc, lacc, vacc⟩ := q
    have hi : i < m := by
      have := (List.getElem?_eq_some_iff.mp hx).1
      rwa [rg_length] at this
    rw [rg_get hi] at hx
    cases hx
    have ht3 := ht.ext (.of s3)
    obtain ⟨dx3, p3, hs3, _⟩ := ht3.slt
    have isq : isN (.int i) 0 ((m : Int) - 1) = true := by
      simp [isN]
      omega
    refine ⟨rfl, _, rfl, _, rfl, t, dx3, _, rfl, hs3, t, .int i, .int i, m, r, rfl, ht3, .int i, fun n' e' n0 nm t5 H5 s5 ht5 => ?_, fun z => by rw [isq] at z; cases z⟩
    cases e'
    refine ⟨(by decide : 0 ≤ sizeLine), fun t6 ht6 => neT (ms := []) (extN_t (.of (same_new ht6)) ht5) (.of upd_same) ⟨_, rfl, ?_⟩⟩
    have s6 := s5.trans (same_new (o := .tup []) ht6)
    have h6 := s6 _ _ hacc
    generalize upd H5 t6 (.tup []) = H6 at s6 h6
    by_cases hk : kids m r (i : Int) = []
    · rw [decide_eq_true hk]
      exact iteF ⟨s3.trans s6, acc, h6, by omega, vacc⟩
    · rw [decide_eq_false hk]
      refine iteT ⟨_, rfl, _, h6, ?_, fun c o ec => ?_, acc ++ [(i : Int)], ?_, ?_, ?_⟩
      · rw [List.length_map, p0]
        omega
      · rw [upd_ne (fun z => by rw [z, hD] at ec; cases ec)]
        exact s6 _ _ (s3 _ _ ec)
      · rw [upd_same, List.map_append]
        rfl
      · rw [List.length_append]
        simp
        omega
      · intro c hc
        rcases List.mem_append.mp hc with hc | hc
        · exact vacc c hc
        · rw [List.mem_singleton.mp hc]
          omega
  · intro H3 q
    obtain ⟨s3, acc, hacc, lacc, vacc⟩ := q
    rw [rg_length] at lacc
    refine ⟨D, _, rfl, SqL.of hacc, fun l hl => h1 l acc.reverse _ (s3.trans (same_new hl)) (s3.free hl) ?_ (fun c hc => vacc c (List.mem_reverse.mp hc)) ?_⟩
    · rw [upd_same, List.map_reverse]
    · rw [List.length_reverse]
      omega
theorem sc_built : FnScope ["row", "tree", "stops", "changes", "looks", "place", "found"] ["row", "tree"] (defScope s_built) := ⟨rfl, rfl, rfl, by decide +kernel, rfl, by decide +kernel, by decide +kernel⟩
def spBuilt (K : PySem.W.Frag) : Sp := fun vs H Q E => ∃ (a t : Addr) (ns : List Int) (r : Nat), vs = [V.ref a, V.ref t] ∧ SqS K H a (ns.map V.int) ∧ TreeAt K H t ns.length r ∧ Tabs (TT K) H ∧ ∀ v H', ExtN H H' → Tabs (TT K) H' → Q v H'
theorem F_built (T : TX K mg base) : FnR Pr w K mg base (LC w) 9 (a_built K) (spBuilt K) := by
  obtain ⟨fd, F⟩ := T.f_built
  refine fnr_of (ps := ["row", "tree"]) (N := ["row", "tree", "stops", "changes", "looks", "place", "found"]) F (fun _ _ _ _ _ _ us hl => match us, hl with | [_, _], _ => rfl) sc_built (fun vs H Q E h => by obtain ⟨a, t, ns, r, rfl, _⟩ := h; rfl) fun cdv A outer s H vs Q E hr h => ?_
  obtain ⟨a, t, ns, r, rfl, ha, ht, hT, h1⟩ := h
  refine ⟨_, pss_cons (ps_par3 (i := 2) (j := 3) (l := 4) rfl sc_built.nd rfl rfl rfl (by decide) (by decide) (by decide) rfl rfl rfl (pa_cons (pe_lst pa_nil) (pa_cons pe_int (pa_cons pe_int pa_nil))) rfl)
    (pss_cons (ps_for (passes_of rfl) rfl (pi_list (pe_cl (F_parents_of T) (hr.mono (by decide)) rfl T.g_parents_of (kpF T.f_parents_of) pX (pa_cons (pv 1) pa_nil))) (pg_name (i := 5) sc_built.nd rfl (.inl rfl))
      (pss_cons (ps_set (i := 6) sc_built.nd rfl (.inl rfl) (pe_cl (F_sunk T) (hr.mono (by decide)) rfl T.g_sunk (kpF T.f_sunk) pX (pa_cons (pv 0) (pa_cons (pv 1) (pa_cons (pv 5) pa_nil)))))
      (pss_cons (ps_par (i := 0) (j := 4) rfl sc_built.nd rfl rfl (by decide) rfl rfl (pa_cons (SlX.pe_sl (pv 6)) (pa_cons (pe_op op_add (pv 4) (SlX.pe_sl (pv 6))) pa_nil)) rfl)
      (pss_cons (ps_expr (pe_bm PySem.F.plainAttrs_list PySem.F.slot_list_append PySem.F.type_list_append mt_append (pv 2) (pa_cons (pe_tup (pa_cons (pv 5) (pa_cons (pe_ix ix_tup (SlX.pe_sl (pv 6)) (pe_un un_neg pe_int) (fun _ _ => rfl)) pa_nil))) pa_nil)))
      (pss_one (ps_aug (i := 3) sc_built.nd rfl (.inl rfl) (pe_op op_sub (pe_callB call_len_seq rfl T.n_len PySem.boot_len (pa_cons (SlX.pe_sl (pv 6)) pa_nil)) pe_int) ip_add))))))
    (pss_one (ps_ret (StX.pe_makeR T.m_Built (F_Built_init T) (hr.mono (by decide)) rfl T.g_Built pX (pa_cons (pv 0) (pa_cons (pv 2) (pa_cons (pv 3) (pa_cons (pv 4) pa_nil)))))))), ?_⟩
  have p0 : sizeLine = 4 ^ 12 := sizeLine_eq
  refine ⟨(by decide : 0 ≤ sizeLine), fun st hst => ⟨_, _, _, rfl, ?_⟩⟩
  have s1 : Same H (upd H st (.lst [])) := same_new hst
  refine ⟨_, rfl, t, ns.length, r, rfl, ht.ext (.of s1), fun l ps H2 s2 hln hl vp lp => ⟨l, rfl, ⟨_, SqL.of hl⟩, ?_⟩⟩
  have hst2 : H2 st = some (.lst []) := s2 _ _ upd_same
  have nls : l ≠ st := fun z => by
    rw [z, upd_same] at hln
    cases hln
  have s12 := s1.trans s2
  refine for_list (xs := ps.map V.int) (fun i σ H' => (∃ (rw : Addr) (c lk : Int) (o5 o6 : Option V), σ = [some (V.ref rw), some (V.ref t), some (V.ref st), some (V.int c), some (V.int lk), o5, o6] ∧ ∃ ms : List Int, SqS K H' rw (ms.map V.int) ∧ ms.length = ns.length) ∧ ButN st H2 H' ∧ Tabs (TT K) H' ∧ ∃ xs : List V, H' st = some (.lst xs) ∧ xs.length ≤ i)
    ⟨⟨a, 0, 0, _, _, rfl, ns, ha.ext (.of s12), rfl⟩, ButN.refl, hT.ext s12, [], hst2, by simp⟩ (fun i σ H' _ p => SqL.of (p.2.1 _ _ nls hl fun ps z => nomatch z)) ?_ ?_
  · rintro i x σ H' hx ⟨⟨rw, c, lk, o5, o6, rfl, ms, hrw, lms⟩, b, tT, xs, hxs, lxs⟩
    rw [List.getElem?_map] at hx
    obtain ⟨p, ep, rfl⟩ := Option.map_eq_some_iff.mp hx
    have hi : i < ps.length := (List.getElem?_eq_some_iff.mp ep).1
    have vp' := vp p (List.mem_of_getElem? ep)
    have eN := ButN.ext hst (.of s12) b
    have ht' := ht.ext eN
    rw [← lms] at ht'
    refine ⟨_, rfl, _, rfl, _, rfl, rw, t, p, ms, r, rfl, hrw, ht', vp'.1, by omega, tT, fun sx ms' ws H5 e5 tT5 hs lms' ne => ?_⟩
    have b5 := b.trans (.of e5)
    have hxs5 := e5 _ _ hxs fun ps z => nomatch z
    obtain ⟨dx5, l5, rt, wt, g1, g2, g3, g4⟩ := id hs
    refine ⟨_, rfl, sx, a_Sift K, dx5, _, _, 1, _, rfl, .inr ⟨g1, g2⟩, T.c_Sift, T.s_Sift_row, rfl, _, rfl, _, rfl, sx, a_Sift K, dx5, _, _, 0, _, rfl, .inr ⟨g1, g2⟩, T.c_Sift, T.s_Sift_looks, rfl, _, _, rfl, rfl, _, _, rfl, ?_⟩
    obtain ⟨qq, hqm, us, _, eat⟩ := at_last ne
    refine ⟨_, rfl, .inl ⟨rfl, _, SqL.of hxs5⟩, _, rfl, _, rfl, sx, a_Sift K, dx5, _, _, 2, _, rfl, .inr ⟨g1, g2⟩, T.c_Sift, T.s_Sift_way, rfl, _, rfl, wt, _, _, _, rfl, rfl, g4, eat, sz2, fun q hq => ?_⟩
    have sq := same_new (o := .tup [V.int p, V.int qq]) hq
    have hxs6 := sq _ _ hxs5
    refine ⟨st, _, _, rfl, rfl, hxs6, by rw [p0]; omega, ?_⟩
    have b7 : ButN st H5 (upd (upd H5 q (.tup [V.int p, V.int qq])) st (.lst (xs ++ [V.ref q]))) := (ButN.of (.of sq)).trans .upd
    have hs7 := hs.but b7 hxs5
    have tT7 : Tabs (TT K) (upd (upd H5 q (.tup [V.int p, V.int qq])) st (.lst (xs ++ [V.ref q]))) := tabs_upd (tT5.ext sq) hxs6
    obtain ⟨dx7, l7, rt7, wt7, k1, k2, k3, k4⟩ := hs7
    refine ⟨_, rfl, _, rfl, sx, a_Sift K, dx7, _, _, 2, _, rfl, .inr ⟨k1, k2⟩, T.c_Sift, T.s_Sift_way, rfl, wt7, _, rfl, .inr k4, _, _, rfl, rfl, _, _, rfl, rfl, ?_⟩
    exact ⟨⟨rt, _, _, _, _, rfl, ms', .inr (b7.sqT hxs5 g3), by omega⟩, b5.trans b7, tT7, _, upd_same, by rw [List.length_append]; simp; omega⟩
  · rintro σ H' ⟨⟨rw, c, lk, o5, o6, rfl, ms, hrw, lms⟩, b, tT, xs, hxs, lxs⟩
    refine ⟨_, rfl, _, rfl, _, rfl, _, rfl, fun x dx hx hd nd => mkBuilt_g hx hd nd hrw (.inl (SqL.of hxs)) fun H4 s4 => ?_⟩
    exact h1 _ _ ((ButN.ext hst (.of s12) b).trans (.of s4)) (tT.ext s4)
theorem sc_build : FnScope ["row", "arms"] ["row", "arms"] (defScope s_build) := ⟨rfl, rfl, rfl, by decide +kernel, rfl, by decide +kernel, by decide +kernel⟩
/-- as spDoor, where lambdas may be made -/
def spDoorN (K : PySem.W.Frag) : Sp := fun vs H Q E => ∃ x y kx ky, vs = [x, y] ∧ Kd K H x kx ∧ Kd K H y ky ∧ Tabs (TT K) H ∧ preR K kx ky H E ∧ (∀ ns r, RowOk kx ky ns r → ∀ v H', ExtN H H' → Tabs (TT K) H' → Q v H')
theorem F_build (T : TX K mg base) : FnK Pr w K mg base (LC w) 10 (a_build K) 1 ["arms"] (spDoorN K) := by
  obtain ⟨fd, F⟩ := T.f_build
  refine (fnk_of (w := w) (mg := mg) (base := base) (ps := ["row", "arms"]) (N := ["row", "arms"]) (ks := ["arms"]) (n := 1) (k := 9) (sp := spDoorN K) F (by simp) (fun _ _ _ _ _ _ us ws l1 l2 => match us, ws, l1, l2 with | [_], [_], _, _ => rfl) sc_build
    (fun vs H Q E h => by obtain ⟨x, y, kx, ky, rfl, _⟩ := h; rfl) fun cdv A outer s H vs Q E hr h => ?_).2.2
  obtain ⟨x, y, kx, ky, rfl, hx, hy, hT, ⟨pA, pR⟩, h1⟩ := h
  refine ⟨_, pss_cons (ps_expr (pe_cl (F_check_arms T) (hr.mono (by decide)) rfl T.g_check_arms (kpF T.f_check_arms) pX (pa_cons (pv 1) pa_nil)))
    (pss_cons (ps_expr (pe_cl (F_check_row T) (hr.mono (by decide)) rfl T.g_check_row (kpF T.f_check_row) pX (pa_cons (pv 0) pa_nil)))
    (pss_one (ps_ret (pe_cl (F_built T) hr rfl T.g_built (kpF T.f_built) pX (pa_cons (pv 0) (pa_cons
      (pe_mkTree rfl T (hr.mono (by decide)) rfl pX (pa_cons (pe_callB call_len_seq rfl T.n_len PySem.boot_len (pa_cons (pv 0) pa_nil)) pa_nil) (pk_cons (pv 1) pk_nil)) pa_nil)))))), ?_⟩
  refine ⟨_, rfl, y, ky, rfl, hy, fun e1 => ?_, fun e1 => pA e1 H (Same.refl H)⟩
  refine ⟨_, rfl, x, kx, rfl, hx, fun e2 H2 s2 => ?_, fun v ev H2 d s2 hd => pR e1 v ev H2 d s2 hd⟩
  obtain ⟨ns, r, R⟩ := rowOk_of e1 e2
  obtain ⟨a, rfl, hq, _⟩ := hx.sq R.row
  have ey := R.arm
  subst ey
  cases hy.int_eq
  refine ⟨_, rfl, _, rfl, a, _, rfl, hq.ext (.of s2), _, rfl, rfl, rfl, fun t dx ha hd nd => mkTree_g ha hd nd (ml ns) R.len R.r1 R.r4 fun H3 s3 ht => ?_⟩
  exact ⟨a, t, ns, r, rfl, hq.ext (.of (s2.trans s3)), ht, hT.ext (s2.trans s3), fun v H4 e4 tT4 => h1 ns r R v H4 (ExtN.trans (.of (s2.trans s3)) e4) tT4⟩
end
end K7
/-! without_last, taken, taken_by_hole -/
namespace K7
open PySem PySem.Spec PyProof.Rows L2 He
open LamX (Tabs TabS TabB ExtN CodeO lamEnv)
/-- x[lo:hi], x a list or a tuple, not the whole -/
def rSlS (K : PySem.W.Frag) : V → Option Int → Option Int → Hp → VK → Prop := fun x lo hi H Q => ∃ a xs, x = .ref a ∧ SqS K H a xs ∧ ¬ (HT.sIx xs.length 0 lo = 0 ∧ HT.sIx xs.length xs.length hi = xs.length) ∧ ∀ p H', Same H H' → SqS K H' p (cutV xs lo hi) → Q (.ref p) H'
theorem sl_S {X : Cx} : SlR X (rSlS X.K) := fun pins s σ H x v vl vu lo hi sl Q I rx hs pl pu h => (SlR.or (sl_list (X := X)) sl_tup) pins s σ H x v vl vu lo hi sl Q I rx hs pl pu (by
  obtain ⟨a, xs, rfl, h, nw, q⟩ := h
  rcases h with h | h
  · exact .inl ⟨a, xs, rfl, h, fun p hp => q p _ (same_new hp) (.inl (.of upd_same))⟩
  · exact .inr ⟨a, xs, rfl, h, nw, fun p hp => q p _ (same_new hp) (.inr (.of upd_same))⟩)
theorem cut_mid {ns : List Int} (h : 1 < ns.length) : cutV (ns.map V.int) (some 1) (some (-1)) = ((ns.drop 1).take (ns.length - 2)).map V.int ∧ HT.sIx (ns.map V.int).length 0 (some 1) ≠ 0 := by
  have e1 : HT.sIx (ns.map V.int).length 0 (some 1) = 1 := by
    rw [show (some (1 : Int)) = some ((1 : Nat) : Int) from rfl, HT.sIx_nat, List.length_map]
    omega
  have e2 : HT.sIx (ns.map V.int).length (ns.map V.int).length (some (-1)) = ns.length - 1 := by
    show (if (-1 : Int) < 0 then ((-1 : Int) + ((ns.map V.int).length : Int)).toNat else min (-1 : Int).toNat (ns.map V.int).length) = _
    rw [if_pos (by decide), List.length_map]
    omega
  refine ⟨?_, by rw [e1]; decide⟩
  unfold cutV
  rw [e1, e2, ← List.map_drop, ← List.map_take]
  rfl
theorem cut_one {ns : List Int} (h : 0 < ns.length) : cutV (ns.map V.int) (some 1) none = (ns.drop 1).map V.int ∧ HT.sIx (ns.map V.int).length 0 (some 1) ≠ 0 := by
  refine ⟨cut_drop ns, ?_⟩
  rw [show (some (1 : Int)) = some ((1 : Nat) : Int) from rfl, HT.sIx_nat, List.length_map]
  omega
section
variable {w : World} {K : PySem.W.Frag} {mg : Str → Option Value} {base : Heap}
theorem sc_without_last : FnScope ["row"] ["row"] (defScope s_without_last) := ⟨rfl, rfl, rfl, by decide +kernel, rfl, by decide +kernel, by decide +kernel⟩
def spWLast (K : PySem.W.Frag) : Sp := fun vs H Q E => ∃ (a : Addr) (ns : List Int), vs = [V.ref a] ∧ SqS K H a (ns.map V.int) ∧ ns.length ≤ 12 ∧ ∀ l (ms : List Int) H', Same H H' → H' l = some (.lst (ms.map V.int)) → ms.length ≤ 12 → Q (.ref l) H'
theorem F_without_last (T : TX K mg base) : FnR Pr w K mg base (LC w) 1 (a_without_last K) (spWLast K) := by
  obtain ⟨fd, F⟩ := T.f_without_last
  refine fnr_of (ps := ["row"]) (N := ["row"]) F (fun _ _ _ _ _ _ us hl => match us, hl with | [_], _ => rfl) sc_without_last (fun vs H Q E h => by obtain ⟨a, ns, rfl, _⟩ := h; rfl) fun cdv A outer s H vs Q E hr h => ?_
  obtain ⟨a, ns, rfl, ha, hl, h1⟩ := h
  refine ⟨_, pss_one (ps_ret (pe_ifExp (pt_cmpR op_gt (pe_callB call_len_seq rfl T.n_len PySem.boot_len (pa_cons (pv 0) pa_nil)) pe_int (nomark _))
    (pe_lst (pa_cons (pe_ix ix_seq (pv 0) (pe_un un_neg pe_int) (fun _ _ => rfl)) (StX.pa_star (pe_slice sl_S (pv 0) (po_some pe_int) (po_some (pe_un un_neg pe_int))) pa_nil))) (pe_lst pa_nil))), ?_⟩
  have p0 : sizeLine = 4 ^ 12 := sizeLine_eq
  refine ⟨_, rfl, a, _, rfl, ha, _, _, rfl, rfl, _, rfl, ?_⟩
  by_cases hn : 1 < ns.length
  · rw [decide_eq_true (show (1 : Int) < (((ns.map V.int).length : Nat) : Int) by rw [List.length_map]; omega)]
    obtain ⟨q, hq, us, _, eat⟩ := at_last (ws := ns) (by intro z; rw [z] at hn; simp at hn)
    obtain ⟨c1, c2⟩ := cut_mid hn
    refine iteT ⟨_, rfl, _, rfl, rIx_S ha eat ⟨_, rfl, _, rfl, _, rfl, _, rfl, a, _, rfl, ha, fun z => c2 z.1, fun p H1 s1 hp => ?_⟩⟩
    rw [c1] at hp
    refine ⟨p, _, rfl, hp.symm, ?_, fun l hl => ?_⟩
    · simp
      omega
    · refine h1 l (q :: ((ns.drop 1).take (ns.length - 2))) _ (s1.trans (same_new hl)) ?_ ?_
      · rw [upd_same]
        simp
      · simp
        omega
  · rw [decide_eq_false (show ¬ (1 : Int) < (((ns.map V.int).length : Nat) : Int) by rw [List.length_map]; omega)]
    exact iteF ⟨(by decide : 0 ≤ sizeLine), fun l hl => h1 l [] _ (same_new hl) upd_same (by simp)⟩
theorem sc_taken : FnScope ["row", "arms", "rest"] ["row", "arms"] (defScope s_taken) := ⟨rfl, rfl, rfl, by decide +kernel, rfl, by decide +kernel, by decide +kernel⟩
def spTaken (K : PySem.W.Frag) : Sp := fun vs H Q E => ∃ (a : Addr) (ns : List Int) (r : Nat), vs = [V.ref a, V.int (r : Int)] ∧ SqS K H a (ns.map V.int) ∧ ns.length ≤ 12 ∧ 1 ≤ r ∧ r ≤ 4 ∧ Tabs (TT K) H ∧ ∀ v H', ExtN H H' → Tabs (TT K) H' → Q v H'
theorem F_taken (T : TX K mg base) : FnR Pr w K mg base (LC w) 8 (a_taken K) (spTaken K) := by
  obtain ⟨fd, F⟩ := T.f_taken
  refine fnr_of (ps := ["row", "arms"]) (N := ["row", "arms", "rest"]) F (fun _ _ _ _ _ _ us hl => match us, hl with | [_, _], _ => rfl) sc_taken (fun vs H Q E h => by obtain ⟨a, ns, r, rfl, _⟩ := h; rfl) fun cdv A outer s H vs Q E hr h => ?_
  obtain ⟨a, ns, r, rfl, ha, hl, r1, r4, hT, h1⟩ := h
  refine ⟨_, pss_cons (ps_set (i := 2) sc_taken.nd rfl (.inl rfl) (pe_cl (F_without_last T) (hr.mono (by decide)) rfl T.g_without_last (kpF T.f_without_last) pX (pa_cons (pv 0) pa_nil)))
    (pss_one (ps_ret (pe_ifExp (pt_cmpR (op_neD hr.units) (pv 2) (pe_lst pa_nil) (nomark _))
      (pe_cl (F_sunk T) hr rfl T.g_sunk (kpF T.f_sunk) pX (pa_cons (pv 2) (pa_cons (pe_mkTree rfl T (hr.mono (by decide)) rfl pX (pa_cons (pe_callB call_len_seq rfl T.n_len PySem.boot_len (pa_cons (pv 2) pa_nil)) pa_nil) (pk_cons (pv 1) pk_nil)) (pa_cons pe_int pa_nil))))
      (StX.pe_makeR T.m_Sift (F_Sift_init T) (hr.mono (by decide)) rfl T.g_Sift pX (pa_cons (pe_tup pa_nil) (pa_cons (pe_tup pa_nil) (pa_cons pe_int pa_nil))))))), ?_⟩
  refine ⟨_, rfl, a, ns, rfl, ha, hl, fun l ms H1 s1 hms lms => ?_⟩
  refine ⟨_, rfl, (by decide : 0 ≤ sizeLine), fun q hq => neL (ms := []) (SqL.of (by rw [upd_ne (ne_of_none hms hq)]; exact hms)) (SqL.of upd_same) ⟨_, rfl, ?_⟩⟩
  have s2 := s1.trans (same_new (o := .lst []) hq)
  have hms2 : upd H1 q (.lst []) l = some (.lst (ms.map V.int)) := by rw [upd_ne (ne_of_none hms hq)]; exact hms
  generalize upd H1 q (.lst []) = H2 at s2 hms2
  by_cases hm : ms = []
  · subst hm
    refine iteF ⟨(by decide : 0 ≤ sizeLine), fun t1 h1' => ⟨(by decide : 0 ≤ sizeLine), fun t2 h2' => fun x dx hx hd nd => mkSift_g (ns := []) (ws := []) hx hd nd (.inr (.of ?_)) (.inr (.of upd_same)) fun H4 s4 _ => ?_⟩⟩
    · rw [upd_ne (fun z => by rw [z, upd_same] at h2'; cases h2')]
      exact upd_same
    · have s5 := s2.trans ((same_new h1').trans ((same_new h2').trans s4))
      exact h1 _ _ (.of s5) (hT.ext s5)
  · rw [decide_eq_false hm]
    refine iteT ⟨_, rfl, _, rfl, l, _, rfl, .inl (SqL.of hms2), _, rfl, rfl, rfl, fun t dx ha hd nd => mkTree_g ha hd nd (ml ms) lms r1 r4 fun H3 s3 ht => ?_⟩
    have s23 := s2.trans s3
    refine ⟨l, t, 0, ms, r, rfl, .inl (SqL.of (s3 _ _ hms2)), ht, by decide, ?_, hT.ext s23, fun sx ms' ws H4 e4 tT4 _ _ _ => h1 _ _ (ExtN.trans (.of s23) e4) tT4⟩
    cases ms with
    | nil => exact absurd rfl hm
    | cons _ _ => simp
theorem sc_taken_by_hole : FnScope ["row", "arms", "rest", "tree", "way", "looks", "late", "up", "more"] ["row", "arms"] (defScope s_taken_by_hole) := ⟨rfl, rfl, rfl, by decide +kernel, rfl, by decide +kernel, by decide +kernel⟩
theorem F_taken_by_hole (T : TX K mg base) : FnR Pr w K mg base (LC w) 8 (a_taken_by_hole K) (spTaken K) := by
  obtain ⟨fd, F⟩ := T.f_taken_by_hole
  refine fnr_of (ps := ["row", "arms"]) (N := ["row", "arms", "rest", "tree", "way", "looks", "late", "up", "more"]) F (fun _ _ _ _ _ _ us hl => match us, hl with | [_, _], _ => rfl) sc_taken_by_hole (fun vs H Q E h => by obtain ⟨a, ns, r, rfl, _⟩ := h; rfl) fun cdv A outer s H vs Q E hr h => ?_
  obtain ⟨a, ns, r, rfl, ha, hl, r1, r4, hT, h1⟩ := h
  refine ⟨_, pss_cons (ps_set (i := 2) sc_taken_by_hole.nd rfl (.inl rfl) (pe_cl (F_without_last T) (hr.mono (by decide)) rfl T.g_without_last (kpF T.f_without_last) pX (pa_cons (pv 0) pa_nil)))
    (pss_cons (ps_if (pt_cmpR (op_eqD hr.units) (pv 2) (pe_lst pa_nil) (nomark _)) (pss_one (ps_ret (StX.pe_makeR T.m_Sift (F_Sift_init T) (hr.mono (by decide)) rfl T.g_Sift pX (pa_cons (pe_tup pa_nil) (pa_cons (pe_tup pa_nil) (pa_cons pe_int pa_nil)))))) pss_nil)
    (pss_cons (ps_set (i := 3) sc_taken_by_hole.nd rfl (.inl rfl) (pe_mkTree rfl T (hr.mono (by decide)) rfl pX (pa_cons (pe_callB call_len_seq rfl T.n_len PySem.boot_len (pa_cons (pv 2) pa_nil)) pa_nil) (pk_cons (pv 1) pk_nil)))
    (pss_cons (ps_asg (pe_cl (F_way_of_hole T) (hr.mono (by decide)) rfl T.g_way_of_hole (kpF T.f_way_of_hole) pX (pa_cons (pv 2) (pa_cons (pv 3) pa_nil))) (pg_tup rfl (pgs_cons (pg_name (i := 4) sc_taken_by_hole.nd rfl (.inl rfl)) (pgs_cons (pg_name (i := 5) sc_taken_by_hole.nd rfl (.inl rfl)) pgs_nil))))
    (pss_cons (ps_set (i := 6) sc_taken_by_hole.nd rfl (.inl rfl) (pe_cl (F_moved T) (hr.mono (by decide)) rfl T.g_moved (kpF T.f_moved) pX (pa_cons (pv 2) (pa_cons (pv 4) pa_nil))))
    (pss_cons (ps_asg (pe_cl (F_way_up T) (hr.mono (by decide)) rfl T.g_way_up (kpF T.f_way_up) pX (pa_cons (pv 6) (pa_cons (pv 3) (pa_cons (pe_ix ix_list (pv 4) (pe_un un_neg pe_int) (fun _ _ => rfl)) pa_nil)))) (pg_tup rfl (pgs_cons (pg_name (i := 7) sc_taken_by_hole.nd rfl (.inl rfl)) (pgs_cons (pg_name (i := 8) sc_taken_by_hole.nd rfl (.inl rfl)) pgs_nil))))
    (pss_one (ps_ret (StX.pe_makeR T.m_Sift (F_Sift_init T) (hr.mono (by decide)) rfl T.g_Sift pX (pa_cons (pe_cl (F_moved T) (hr.mono (by decide)) rfl T.g_moved (kpF T.f_moved) pX (pa_cons (pv 6) (pa_cons (pv 7) pa_nil))) (pa_cons (pv 7) (pa_cons (pe_op op_add (pv 5) (pv 8)) pa_nil))))))))))), ?_⟩
  refine ⟨_, rfl, a, ns, rfl, ha, hl, fun l ms H1 s1 hms lms => ?_⟩
  refine ⟨_, rfl, (by decide : 0 ≤ sizeLine), fun q hq => eqL (ms := []) (SqL.of (by rw [upd_ne (ne_of_none hms hq)]; exact hms)) (SqL.of upd_same) ⟨_, rfl, ?_⟩⟩
  have s2 := s1.trans (same_new (o := .lst []) hq)
  have hms2 : upd H1 q (.lst []) l = some (.lst (ms.map V.int)) := by rw [upd_ne (ne_of_none hms hq)]; exact hms
  generalize upd H1 q (.lst []) = H2 at s2 hms2
  by_cases hm : ms = []
  · subst hm
    refine iteT ⟨(by decide : 0 ≤ sizeLine), fun t1 h1' => ⟨(by decide : 0 ≤ sizeLine), fun t2 h2' => fun x dx hx hd nd => mkSift_g (ns := []) (ws := []) hx hd nd (.inr (.of ?_)) (.inr (.of upd_same)) fun H4 s4 _ => ?_⟩⟩
    · rw [upd_ne (fun z => by rw [z, upd_same] at h2'; cases h2')]
      exact upd_same
    · have s5 := s2.trans ((same_new h1').trans ((same_new h2').trans s4))
      exact h1 _ _ (.of s5) (hT.ext s5)
  · rw [decide_eq_false hm]
    have hpos : 0 < ms.length := by
      cases ms with
      | nil => exact absurd rfl hm
      | cons _ _ => simp
    refine iteF ⟨_, rfl, l, _, rfl, .inl (SqL.of hms2), _, rfl, rfl, rfl, fun t dx ha hd nd => mkTree_g ha hd nd (ml ms) lms r1 r4 fun H3 s3 ht => ?_⟩
    have s23 := s2.trans s3
    have hms3 := s3 _ _ hms2
    refine ⟨_, rfl, _, rfl, l, t, ms, r, rfl, .inl (SqL.of hms3), ht, hpos, hT.ext s23, fun tp y lk ws H4 e4 tT4 htp hy ne hv hwl => ?_⟩
    refine ⟨tp, _, rfl, SqT.of htp, rfl, _, _, rfl, _, _, rfl, rfl, ?_⟩
    have hms4 := e4 _ _ hms3 fun ps z => nomatch z
    refine ⟨_, rfl, _, rfl, l, y, ms, ws, rfl, .inl (SqL.of hms4), hy, ne, hv, hwl, fun l5 H5 ls s5 hl5 ll => ?_⟩
    have ht5 := (ht.ext e4).ext (.of s5)
    rw [← ll] at ht5
    obtain ⟨qq, hqm, us, _, eat⟩ := at_last ne
    have hqv := hv qq hqm
    refine ⟨_, rfl, _, rfl, _, rfl, _, rfl, y, _, _, _, rfl, rfl, SqL.of (s5 _ _ hy), eat, l5, t, qq, ls, r, rfl, .inl (SqL.of hl5), ht5, hqv.1, by omega, tT4.ext s5, fun tp6 y6 lk6 ws6 H6 e6 tT6 htp6 hy6 ne6 hv6 hwl6 => ?_⟩
    refine ⟨tp6, _, rfl, SqT.of htp6, rfl, _, _, rfl, _, _, rfl, rfl, ?_⟩
    have hl6 := e6 _ _ hl5 fun ps z => nomatch z
    refine ⟨_, rfl, _, rfl, l5, y6, ls, ws6, rfl, .inl (SqL.of hl6), hy6, ne6, hv6, hwl6, fun l7 H7 ls7 s7 hl7 ll7 => ?_⟩
    refine ⟨_, rfl, _, rfl, _, rfl, _, _, rfl, rfl, fun x dx hx hd nd => mkSift_g (ns := ls7) (ws := ws6) hx hd nd (.inl (SqL.of hl7)) (.inl (SqL.of (s7 _ _ hy6))) fun H8 s8 _ => ?_⟩
    exact h1 _ _ ((((ExtN.of s23).trans e4).trans (.of s5)).trans (e6.trans (.of (s7.trans s8)))) (tT6.ext (s7.trans s8))
end
end K7
/-! the doors of heaps -/
namespace K7
open PySem PySem.Spec PyProof.Rows L2 He
open LamX (Tabs TabS TabB ExtN CodeO lamEnv)
/-- the refusals of arms, of a row, of what is no heap -/
def preH (K : PySem.W.Frag) (kx ky : KV) (H : Hp) (E : XK) : Prop := preR K kx ky H E ∧ ∀ ns r, RowOk kx ky ns r → ∀ p rest, faultsI r ns ns.length = p :: rest → ∀ H' d, Same H H' → H' d = some (.xd [("place", V.int p)]) → E (.ref (a_NotHeap K)) (some d) H'
structure HeapOk (kx ky : KV) (ns : List Int) (r : Nat) : Prop extends RowOk kx ky ns r where
  ok : faultsI r ns ns.length = []
abbrev isKey (k : KV) : Bool := isN k (-1000000000) 1000000000
section
variable {w : World} {K : PySem.W.Frag} {mg : Str → Option Value} {base : Heap}
theorem heap_in {x y : V} {kx ky : KV} {H : Hp} {Q : VK} {E : XK} (hx : Kd K H x kx) (hy : Kd K H y ky) (p : preH K kx ky H E) (h : ∀ ns r, HeapOk kx ky ns r → ∀ H', Same H H' → Q .non H') : spHeap K [x, y] H Q E :=
  ⟨x, y, kx, ky, rfl, hx, hy, p.1, fun ns r R => ⟨fun e H' s => h ns r ⟨R, e⟩ H' s, fun q rest e H' d s hd => p.2 ns r R q rest e H' d s hd⟩⟩
theorem sc_check_full : FnScope ["row", "key", "arms"] ["row", "key", "arms"] (defScope s_check_full) := ⟨rfl, rfl, rfl, by decide +kernel, rfl, by decide +kernel, by decide +kernel⟩
def spFull (K : PySem.W.Frag) : Sp := fun vs H Q E => ∃ x z y kx kz ky, vs = [x, z, y] ∧ Kd K H x kx ∧ Kd K H z kz ∧ Kd K H y ky ∧ preH K kx ky H E ∧ ∀ ns r, HeapOk kx ky ns r → (isKey kz = false → ∀ H', Same H H' → E (.ref (a_BadKey K)) none H') ∧ (isKey kz = true → ∀ H', Same H H' → Q .non H')
theorem F_check_full (T : TX K mg base) : FnR Pr w K mg base (LC w) 7 (a_check_full K) (spFull K) := by
  obtain ⟨fd, F⟩ := T.f_check_full
  refine fnr_of (ps := ["row", "key", "arms"]) (N := ["row", "key", "arms"]) F (fun _ _ _ _ _ _ us hl => match us, hl with | [_, _, _], _ => rfl) sc_check_full (fun vs H Q E h => by obtain ⟨x, z, y, kx, kz, ky, rfl, _⟩ := h; rfl) fun cdv A outer s H vs Q E hr h => ?_
  obtain ⟨x, z, y, kx, kz, ky, rfl, hx, hz, hy, p, h1⟩ := h
  refine ⟨_, pss_cons (ps_expr (pe_cl (F_check_heap T) hr rfl T.g_check_heap (kpF T.f_check_heap) pX (pa_cons (pv 0) (pa_cons (pv 2) pa_nil))))
    (pss_one (ps_if (pt_not (pt_val (pe_cl (F_is_key T) (hr.mono (by decide)) rfl T.g_is_key (kpF T.f_is_key) pX (pa_cons (pv 1) pa_nil))))
      (pss_one (ps_raise rfl (takes_of rfl rfl rfl rfl) (pmk_own PySem.F.excBase_ValueError T.x_BadKey.1 T.g_BadKey T.x_BadKey.2.1 (raises_own T.x_BadKey.2.2.1 T.x_BadKey.2.2.2) rfl))) pss_nil)), ?_⟩
  refine ⟨_, rfl, _, rfl, x, y, kx, ky, rfl, hx, hy, p.1, fun ns r R => ⟨fun ef H2 s2 => ?_, fun q rest ef H' d sd hd => p.2 ns r R q rest ef H' d sd hd⟩⟩
  obtain ⟨g1, g2⟩ := h1 ns r ⟨R, ef⟩
  refine ⟨_, rfl, z, kz, rfl, hz.ext (.of s2), _, rfl, ?_⟩
  cases e : isKey kz with
  | true =>
    rw [show isN kz (-1000000000) 1000000000 = true from e]
    exact iteF (g2 e H2 s2)
  | false =>
    rw [show isN kz (-1000000000) 1000000000 = false from e]
    exact iteT (g1 e H2 s2)
theorem sc_push : FnScope ["row", "key", "arms"] ["row", "key", "arms"] (defScope s_push) := ⟨rfl, rfl, rfl, by decide +kernel, rfl, by decide +kernel, by decide +kernel⟩
def sp_push (K : PySem.W.Frag) : Sp := fun vs H Q E => ∃ x z y kx kz ky, vs = [x, z, y] ∧ Kd K H x kx ∧ Kd K H z kz ∧ Kd K H y ky ∧ Tabs (TT K) H ∧ preH K kx ky H E ∧ ∀ ns r, HeapOk kx ky ns r → (isKey kz = false → ∀ H', Same H H' → E (.ref (a_BadKey K)) none H') ∧
  (isKey kz = true → (ns.length = 12 → ∀ H', Same H H' → E (.ref (a_Full K)) none H') ∧ (¬ ns.length = 12 → ∀ v H', ExtN H H' → Tabs (TT K) H' → Q v H'))
theorem F_push (T : TX K mg base) : FnK Pr w K mg base (LC w) 9 (a_push K) 2 ["arms"] (sp_push K) := by
  obtain ⟨fd, F⟩ := T.f_push
  refine (fnk_of (w := w) (mg := mg) (base := base) (ps := ["row", "key", "arms"]) (N := ["row", "key", "arms"]) (ks := ["arms"]) (n := 2) (k := 8) (sp := sp_push K) F (by simp) (fun _ _ _ _ _ _ us ws l1 l2 => match us, ws, l1, l2 with | [_, _], [_], _, _ => rfl) sc_push
    (fun vs H Q E h => by obtain ⟨x, z, y, kx, kz, ky, rfl, _⟩ := h; rfl) fun cdv A outer s H vs Q E hr h => ?_).2.2
  obtain ⟨x, z, y, kx, kz, ky, rfl, hx, hz, hy, hT, p, h1⟩ := h
  refine ⟨_, pss_cons (ps_expr (pe_cl (F_check_full T) (hr.mono (by decide)) rfl T.g_check_full (kpF T.f_check_full) pX (pa_cons (pv 0) (pa_cons (pv 1) (pa_cons (pv 2) pa_nil)))))
    (pss_cons (ps_if (pt_cmpR op_eq (pe_callB call_len_seq rfl T.n_len PySem.boot_len (pa_cons (pv 0) pa_nil)) (pe_gi T.g_MOST_PLACES rfl) (nomark _))
      (pss_one (ps_raise rfl (takes_of rfl rfl rfl rfl) (pmk_own PySem.F.excBase_ValueError T.x_Full.1 T.g_Full T.x_Full.2.1 (raises_own T.x_Full.2.2.1 T.x_Full.2.2.2) rfl))) pss_nil)
    (pss_one (ps_ret (pe_cl (F_lifted T) (hr.mono (by decide)) rfl T.g_lifted (kpF T.f_lifted) pX (pa_cons (pe_lst (StX.pa_star (pv 0) (pa_cons (pv 1) pa_nil))) (pa_cons (pe_mkTree rfl T (hr.mono (by decide)) rfl pX (pa_cons (pe_op op_add (pe_callB call_len_seq rfl T.n_len PySem.boot_len (pa_cons (pv 0) pa_nil)) pe_int) pa_nil) (pk_cons (pv 2) pk_nil))
      (pa_cons (pe_callB call_len_seq rfl T.n_len PySem.boot_len (pa_cons (pv 0) pa_nil)) pa_nil))))))), ?_⟩
  refine ⟨_, rfl, _, rfl, _, rfl, x, z, y, kx, kz, ky, rfl, hx, hz, hy, p, fun ns r R => ⟨(h1 ns r R).1, fun ek H2 s2 => ?_⟩⟩
  obtain ⟨g1, g2⟩ := (h1 ns r R).2 ek
  obtain ⟨a, rfl, hq, _⟩ := hx.sq R.row
  have ey := R.arm
  subst ey
  cases hy.int_eq
  have hq2 := hq.ext (.of s2)
  refine ⟨_, rfl, a, _, rfl, hq2, rfl, _, rfl, ?_⟩
  have e12 : (V.int (((ns.map V.int).length : Nat) : Int) = V.int 12) = (ns.length = 12) := by
    rw [List.length_map]
    refine propext ⟨fun z => by injection z with z; omega, fun z => by rw [z]; rfl⟩
  by_cases h12 : ns.length = 12
  · have : decide (V.int (((ns.map V.int).length : Nat) : Int) = V.int 12) = true := decide_eq_true (by rw [e12]; exact h12)
    rw [this]
    exact iteT (g1 h12 H2 s2)
  · have : decide (V.int (((ns.map V.int).length : Nat) : Int) = V.int 12) = false := decide_eq_false (by rw [e12]; exact h12)
    rw [this]
    refine iteF ?_
    obtain ⟨kn, rfl, k1, k2⟩ := isN_int ek
    cases hz.int_eq
    have hlen := R.len
    have p0 : sizeLine = 4 ^ 12 := sizeLine_eq
    refine ⟨_, rfl, a, _, rfl, hq2.symm, _, rfl, ?_, fun l hl => ?_⟩
    · rw [List.length_append, List.length_map]
      simp
      omega
    have s3 : Same H2 (upd H2 l (.lst (ns.map V.int ++ [V.int kn]))) := same_new hl
    have hl3 : upd H2 l (.lst (ns.map V.int ++ [V.int kn])) l = some (.lst ((ns ++ [kn]).map V.int)) := by rw [upd_same, List.map_append]; rfl
    generalize upd H2 l (.lst (ns.map V.int ++ [V.int kn])) = H3 at s3 hl3
    have hq3 := hq2.ext (.of s3)
    refine ⟨_, rfl, a, _, rfl, hq3, _, _, rfl, rfl, _, rfl, rfl, rfl, fun t dx ha hd nd => mkTree_g ha hd nd (m := (ns ++ [kn]).length) (by rw [List.length_map, List.length_append]; rfl) (by rw [List.length_append]; simp; omega) R.r1 R.r4 fun H4 s4 ht => ?_⟩
    refine ⟨_, rfl, a, _, rfl, hq3.ext (.of s4), l, t, _, ns ++ [kn], r, rfl, .inl (SqL.of (s4 _ _ hl3)), ht, by omega, by rw [List.length_map, List.length_append]; simp; omega, hT.ext ((s2.trans s3).trans s4), fun sx ms' ws H5 e5 tT5 _ _ _ => g2 h12 _ _ (ExtN.trans (.of ((s2.trans s3).trans s4)) e5) tT5⟩
theorem sc_put_for : FnScope ["row", "key", "arms"] ["row", "key", "arms"] (defScope s_put_for) := ⟨rfl, rfl, rfl, by decide +kernel, rfl, by decide +kernel, by decide +kernel⟩
def sp_put_for (K : PySem.W.Frag) : Sp := fun vs H Q E => ∃ x z y kx kz ky, vs = [x, z, y] ∧ Kd K H x kx ∧ Kd K H z kz ∧ Kd K H y ky ∧ Tabs (TT K) H ∧ preH K kx ky H E ∧ ∀ ns r, HeapOk kx ky ns r → (isKey kz = false → ∀ H', Same H H' → E (.ref (a_BadKey K)) none H') ∧
  (isKey kz = true → (ns.length = 0 → ∀ H', Same H H' → E (.ref (a_Empty K)) none H') ∧ (¬ ns.length = 0 → ∀ v H', ExtN H H' → Tabs (TT K) H' → Q v H'))
theorem F_put_for (T : TX K mg base) : FnK Pr w K mg base (LC w) 9 (a_put_for K) 2 ["arms"] (sp_put_for K) := by
  obtain ⟨fd, F⟩ := T.f_put_for
  refine (fnk_of (w := w) (mg := mg) (base := base) (ps := ["row", "key", "arms"]) (N := ["row", "key", "arms"]) (ks := ["arms"]) (n := 2) (k := 8) (sp := sp_put_for K) F (by simp) (fun _ _ _ _ _ _ us ws l1 l2 => match us, ws, l1, l2 with | [_, _], [_], _, _ => rfl) sc_put_for
    (fun vs H Q E h => by obtain ⟨x, z, y, kx, kz, ky, rfl, _⟩ := h; rfl) fun cdv A outer s H vs Q E hr h => ?_).2.2
  obtain ⟨x, z, y, kx, kz, ky, rfl, hx, hz, hy, hT, p, h1⟩ := h
  refine ⟨_, pss_cons (ps_expr (pe_cl (F_check_full T) (hr.mono (by decide)) rfl T.g_check_full (kpF T.f_check_full) pX (pa_cons (pv 0) (pa_cons (pv 1) (pa_cons (pv 2) pa_nil)))))
    (pss_cons (ps_if (pt_cmpR op_eq (pe_callB call_len_seq rfl T.n_len PySem.boot_len (pa_cons (pv 0) pa_nil)) pe_int (nomark _))
      (pss_one (ps_raise rfl (takes_of rfl rfl rfl rfl) (pmk_own PySem.F.excBase_ValueError T.x_Empty.1 T.g_Empty T.x_Empty.2.1 (raises_own T.x_Empty.2.2.1 T.x_Empty.2.2.2) rfl))) pss_nil)
    (pss_one (ps_ret (pe_tup (pa_cons (pe_ix ix_seq (pv 0) pe_int (fun _ _ => rfl)) (pa_cons (pe_cl (F_sunk T) (hr.mono (by decide)) rfl T.g_sunk (kpF T.f_sunk) pX (pa_cons (pe_lst (pa_cons (pv 1) (StX.pa_star (pe_slice sl_S (pv 0) (po_some pe_int) po_none) pa_nil))) (pa_cons
      (pe_mkTree rfl T (hr.mono (by decide)) rfl pX (pa_cons (pe_callB call_len_seq rfl T.n_len PySem.boot_len (pa_cons (pv 0) pa_nil)) pa_nil) (pk_cons (pv 2) pk_nil)) (pa_cons pe_int pa_nil)))) pa_nil)))))), ?_⟩
  refine ⟨_, rfl, _, rfl, _, rfl, x, z, y, kx, kz, ky, rfl, hx, hz, hy, p, fun ns r R => ⟨(h1 ns r R).1, fun ek H2 s2 => ?_⟩⟩
  obtain ⟨g1, g2⟩ := (h1 ns r R).2 ek
  obtain ⟨a, rfl, hq, _⟩ := hx.sq R.row
  have ey := R.arm
  subst ey
  cases hy.int_eq
  have hq2 := hq.ext (.of s2)
  refine ⟨_, rfl, a, _, rfl, hq2, rfl, _, rfl, ?_⟩
  have e12 : (V.int (((ns.map V.int).length : Nat) : Int) = V.int 0) = (ns.length = 0) := by
    rw [List.length_map]
    refine propext ⟨fun z => by injection z with z; omega, fun z => by rw [z]; rfl⟩
  by_cases h12 : ns.length = 0
  · have : decide (V.int (((ns.map V.int).length : Nat) : Int) = V.int 0) = true := decide_eq_true (by rw [e12]; exact h12)
    rw [this]
    exact iteT (g1 h12 H2 s2)
  · have : decide (V.int (((ns.map V.int).length : Nat) : Int) = V.int 0) = false := decide_eq_false (by rw [e12]; exact h12)
    rw [this]
    refine iteF ?_
    obtain ⟨kn, rfl, k1, k2⟩ := isN_int ek
    cases hz.int_eq
    have hlen := R.len
    have p0 : sizeLine = 4 ^ 12 := sizeLine_eq
    have hpos : 0 < ns.length := by omega
    obtain ⟨c1, c2⟩ := cut_one hpos
    refine ⟨_, rfl, rIx_S hq2 (at_ints (i := 0) hpos) ⟨_, rfl, _, rfl, 1, rfl, a, _, rfl, hq2, fun z => c2 z.1, fun p3 H3 s3 hp3 => ?_⟩⟩
    rw [c1] at hp3
    refine ⟨p3, _, rfl, hp3.symm, ?_, fun l hl => ?_⟩
    · simp
      omega
    have s4 : Same H3 (upd H3 l (.lst (V.int kn :: ((ns.drop 1).map V.int ++ [])))) := same_new hl
    have hl4 : upd H3 l (.lst (V.int kn :: ((ns.drop 1).map V.int ++ []))) l = some (.lst ((kn :: ns.drop 1).map V.int)) := by rw [upd_same]; simp
    generalize upd H3 l (.lst (V.int kn :: ((ns.drop 1).map V.int ++ []))) = H4 at s4 hl4
    have s24 := s3.trans s4
    have el : (kn :: ns.drop 1).length = ns.length := by simp; omega
    refine ⟨_, rfl, a, _, rfl, hq2.ext (.of s24), _, rfl, rfl, rfl, fun t dx ha hd nd => mkTree_g ha hd nd (m := (kn :: ns.drop 1).length) (by rw [el]; exact ml ns) (by omega) R.r1 R.r4 fun H5 s5 ht => ?_⟩
    refine ⟨l, t, 0, kn :: ns.drop 1, r, rfl, .inl (SqL.of (s5 _ _ hl4)), ht, by decide, by rw [el]; omega, hT.ext ((s2.trans s24).trans s5), fun sx ms' ws H6 e6 tT6 _ _ _ => ?_⟩
    refine ⟨sz2, fun tp htp => g2 h12 _ _ ((ExtN.trans (.of ((s2.trans s24).trans s5)) e6).trans (.of (same_new htp))) (tT6.ext (same_new htp))⟩
def sp_take (K : PySem.W.Frag) : Sp := fun vs H Q E => ∃ x y kx ky, vs = [x, y] ∧ Kd K H x kx ∧ Kd K H y ky ∧ Tabs (TT K) H ∧ preH K kx ky H E ∧ ∀ ns r, HeapOk kx ky ns r → (ns.length = 0 → ∀ H', Same H H' → E (.ref (a_Empty K)) none H') ∧ (¬ ns.length = 0 → ∀ v H', ExtN H H' → Tabs (TT K) H' → Q v H')
theorem sc_take : FnScope ["row", "arms"] ["row", "arms"] (defScope s_take) := ⟨rfl, rfl, rfl, by decide +kernel, rfl, by decide +kernel, by decide +kernel⟩
theorem F_take (T : TX K mg base) : FnK Pr w K mg base (LC w) 9 (a_take K) 1 ["arms"] (sp_take K) := by
  obtain ⟨fd, F⟩ := T.f_take
  refine (fnk_of (w := w) (mg := mg) (base := base) (ps := ["row", "arms"]) (N := ["row", "arms"]) (ks := ["arms"]) (n := 1) (k := 8) (sp := sp_take K) F (by simp) (fun _ _ _ _ _ _ us ws l1 l2 => match us, ws, l1, l2 with | [_], [_], _, _ => rfl) sc_take
    (fun vs H Q E h => by obtain ⟨x, y, kx, ky, rfl, _⟩ := h; rfl) fun cdv A outer s H vs Q E hr h => ?_).2.2
  obtain ⟨x, y, kx, ky, rfl, hx, hy, hT, p, h1⟩ := h
  refine ⟨_, pss_cons (ps_expr (pe_cl (F_check_heap T) (hr.mono (by decide)) rfl T.g_check_heap (kpF T.f_check_heap) pX (pa_cons (pv 0) (pa_cons (pv 1) pa_nil))))
    (pss_cons (ps_if (pt_cmpR op_eq (pe_callB call_len_seq rfl T.n_len PySem.boot_len (pa_cons (pv 0) pa_nil)) pe_int (nomark _))
      (pss_one (ps_raise rfl (takes_of rfl rfl rfl rfl) (pmk_own PySem.F.excBase_ValueError T.x_Empty.1 T.g_Empty T.x_Empty.2.1 (raises_own T.x_Empty.2.2.1 T.x_Empty.2.2.2) rfl))) pss_nil)
    (pss_one (ps_ret (pe_tup (pa_cons (pe_ix ix_seq (pv 0) pe_int (fun _ _ => rfl)) (pa_cons (pe_cl (F_taken T) hr rfl T.g_taken (kpF T.f_taken) pX (pa_cons (pv 0) (pa_cons (pv 1) pa_nil))) pa_nil)))))), ?_⟩
  refine ⟨_, rfl, _, rfl, x, y, kx, ky, rfl, hx, hy, p.1, fun ns r R => ⟨fun ef H2 s2 => ?_, fun q rest ef H' d sd hd => p.2 ns r R q rest ef H' d sd hd⟩⟩
  obtain ⟨g1, g2⟩ := h1 ns r ⟨R, ef⟩
  obtain ⟨a, rfl, hq, _⟩ := hx.sq R.row
  have ey := R.arm
  subst ey
  cases hy.int_eq
  have hq2 := hq.ext (.of s2)
  refine ⟨_, rfl, a, _, rfl, hq2, rfl, _, rfl, ?_⟩
  have e12 : (V.int (((ns.map V.int).length : Nat) : Int) = V.int 0) = (ns.length = 0) := by
    rw [List.length_map]
    refine propext ⟨fun z => by injection z with z; omega, fun z => by rw [z]; rfl⟩
  by_cases h12 : ns.length = 0
  · have : decide (V.int (((ns.map V.int).length : Nat) : Int) = V.int 0) = true := decide_eq_true (by rw [e12]; exact h12)
    rw [this]
    exact iteT (g1 h12 H2 s2)
  · have : decide (V.int (((ns.map V.int).length : Nat) : Int) = V.int 0) = false := decide_eq_false (by rw [e12]; exact h12)
    rw [this]
    refine iteF ⟨_, rfl, rIx_S hq2 (at_ints (i := 0) (by omega)) ⟨_, rfl, _, rfl, a, ns, r, rfl, hq2, R.len, R.r1, R.r4, hT.ext s2, fun v H3 e3 tT3 => ⟨sz2, fun tp htp => g2 h12 _ _ ((ExtN.trans (.of s2) e3).trans (.of (same_new htp))) (tT3.ext (same_new htp))⟩⟩⟩
theorem sc_take_by_hole : FnScope ["row", "arms"] ["row", "arms"] (defScope s_take_by_hole) := ⟨rfl, rfl, rfl, by decide +kernel, rfl, by decide +kernel, by decide +kernel⟩
theorem F_take_by_hole (T : TX K mg base) : FnK Pr w K mg base (LC w) 9 (a_take_by_hole K) 1 ["arms"] (sp_take K) := by
  obtain ⟨fd, F⟩ := T.f_take_by_hole
  refine (fnk_of (w := w) (mg := mg) (base := base) (ps := ["row", "arms"]) (N := ["row", "arms"]) (ks := ["arms"]) (n := 1) (k := 8) (sp := sp_take K) F (by simp) (fun _ _ _ _ _ _ us ws l1 l2 => match us, ws, l1, l2 with | [_], [_], _, _ => rfl) sc_take_by_hole
    (fun vs H Q E h => by obtain ⟨x, y, kx, ky, rfl, _⟩ := h; rfl) fun cdv A outer s H vs Q E hr h => ?_).2.2
  obtain ⟨x, y, kx, ky, rfl, hx, hy, hT, p, h1⟩ := h
  refine ⟨_, pss_cons (ps_expr (pe_cl (F_check_heap T) (hr.mono (by decide)) rfl T.g_check_heap (kpF T.f_check_heap) pX (pa_cons (pv 0) (pa_cons (pv 1) pa_nil))))
    (pss_cons (ps_if (pt_cmpR op_eq (pe_callB call_len_seq rfl T.n_len PySem.boot_len (pa_cons (pv 0) pa_nil)) pe_int (nomark _))
      (pss_one (ps_raise rfl (takes_of rfl rfl rfl rfl) (pmk_own PySem.F.excBase_ValueError T.x_Empty.1 T.g_Empty T.x_Empty.2.1 (raises_own T.x_Empty.2.2.1 T.x_Empty.2.2.2) rfl))) pss_nil)
    (pss_one (ps_ret (pe_tup (pa_cons (pe_ix ix_seq (pv 0) pe_int (fun _ _ => rfl)) (pa_cons (pe_cl (F_taken_by_hole T) hr rfl T.g_taken_by_hole (kpF T.f_taken_by_hole) pX (pa_cons (pv 0) (pa_cons (pv 1) pa_nil))) pa_nil)))))), ?_⟩
  refine ⟨_, rfl, _, rfl, x, y, kx, ky, rfl, hx, hy, p.1, fun ns r R => ⟨fun ef H2 s2 => ?_, fun q rest ef H' d sd hd => p.2 ns r R q rest ef H' d sd hd⟩⟩
  obtain ⟨g1, g2⟩ := h1 ns r ⟨R, ef⟩
  obtain ⟨a, rfl, hq, _⟩ := hx.sq R.row
  have ey := R.arm
  subst ey
  cases hy.int_eq
  have hq2 := hq.ext (.of s2)
  refine ⟨_, rfl, a, _, rfl, hq2, rfl, _, rfl, ?_⟩
  have e12 : (V.int (((ns.map V.int).length : Nat) : Int) = V.int 0) = (ns.length = 0) := by
    rw [List.length_map]
    refine propext ⟨fun z => by injection z with z; omega, fun z => by rw [z]; rfl⟩
  by_cases h12 : ns.length = 0
  · have : decide (V.int (((ns.map V.int).length : Nat) : Int) = V.int 0) = true := decide_eq_true (by rw [e12]; exact h12)
    rw [this]
    exact iteT (g1 h12 H2 s2)
  · have : decide (V.int (((ns.map V.int).length : Nat) : Int) = V.int 0) = false := decide_eq_false (by rw [e12]; exact h12)
    rw [this]
    refine iteF ⟨_, rfl, rIx_S hq2 (at_ints (i := 0) (by omega)) ⟨_, rfl, _, rfl, a, ns, r, rfl, hq2, R.len, R.r1, R.r4, hT.ext s2, fun v H3 e3 tT3 => ⟨sz2, fun tp htp => g2 h12 _ _ ((ExtN.trans (.of s2) e3).trans (.of (same_new htp))) (tT3.ext (same_new htp))⟩⟩⟩
end
end K7
/-! the law's draws -/
namespace K7
open PySem PySem.Spec PyProof.Rows L2 He
open LamX (Tabs TabS TabB ExtN CodeO lamEnv)
theorem cut_top (ss : List Int) (k : Nat) : cutV (ss.map V.int) none (some (k : Int)) = (ss.take k).map V.int := by
  unfold cutV
  rw [HT.sIx_none, HT.sIx_nat, List.length_map, List.drop_zero, Nat.sub_zero, ← List.map_take]
  congr 1
  rcases Nat.le_total k ss.length with h | h
  · rw [Nat.min_eq_left h]
  · rw [Nat.min_eq_right h, List.take_of_length_le (Nat.le_refl _), List.take_of_length_le h]
section
variable {w : World} {K : PySem.W.Frag} {mg : Str → Option Value} {base : Heap}
theorem sc_law_number : FnScope ["script", "index", "cells", "cell", "low", "high", "total", "blend"] ["script", "index"] (defScope s_law_number) := ⟨rfl, rfl, rfl, by decide +kernel, rfl, by decide +kernel, by decide +kernel⟩
/-- some int -/
def spNumb (K : PySem.W.Frag) : Sp := fun vs H Q E => ∃ (sc : Addr) (ss : List Int) (n : Int), vs = [V.ref sc, V.int n] ∧ SqL K H sc (ss.map V.int) ∧ ∀ z H', Same H H' → Q (.int z) H'
theorem F_law_number (T : TX K mg base) : FnR Pr w K mg base (LC w) 1 (a_law_number K) (spNumb K) := by
  obtain ⟨fd, F⟩ := T.f_law_number
  refine fnr_of (ps := ["script", "index"]) (N := ["script", "index", "cells", "cell", "low", "high", "total", "blend"]) F (fun _ _ _ _ _ _ us hl => match us, hl with | [_, _], _ => rfl) sc_law_number (fun vs H Q E h => by obtain ⟨sc, ss, n, rfl, _⟩ := h; rfl) fun cdv A outer s H vs Q E hr h => ?_
  obtain ⟨sc, ss, n, rfl, hs, h1⟩ := h
  refine ⟨_, pss_cons (ps_set (i := 2) sc_law_number.nd rfl (.inl rfl) (pe_ifExp (pt_cmpR (op_neD hr.units) (pv 0) (pe_lst pa_nil) (nomark _)) (pe_slice sl_list (pv 0) po_none (po_some pe_int)) (pe_lst (pa_cons pe_int pa_nil))))
    (pss_cons (ps_set (i := 3) sc_law_number.nd rfl (.inl rfl) (pe_op op_add (pe_ix ix_list (pv 2) (pe_op op_mod (pe_callTy call_int1 rfl T.n_int (by decide +kernel) (pa_cons (pv 1) pa_nil)) (pe_callB call_len_seq rfl T.n_len PySem.boot_len (pa_cons (pv 2) pa_nil))) (fun _ _ => rfl))
      (pe_op op_mul pe_int (pe_op op_fdivN (pv 1) (pe_callB call_len_seq rfl T.n_len PySem.boot_len (pa_cons (pv 2) pa_nil))))))
    (pss_cons (ps_par (i := 4) (j := 5) rfl sc_law_number.nd rfl rfl (by decide) rfl rfl (pa_cons (pe_op op_mod (pe_callTy call_int1 rfl T.n_int (by decide +kernel) (pa_cons (pv 3) pa_nil)) pe_int)
      (pa_cons (pe_op op_mod (pe_callTy call_int1 rfl T.n_int (by decide +kernel) (pa_cons (pe_op op_fdivN (pv 3) pe_int) pa_nil)) pe_int) pa_nil)) rfl)
    (pss_cons (ps_set (i := 6) sc_law_number.nd rfl (.inl rfl) (pe_op op_mod (pe_callTy call_int1 rfl T.n_int (by decide +kernel) (pa_cons (pe_callB (cr_sum rfl) rfl T.n_sum (by decide +kernel) (pa_cons (pv 2) pa_nil)) pa_nil)) pe_int))
    (pss_cons (ps_set (i := 7) sc_law_number.nd rfl (.inl rfl) (pe_op op_mod (pe_callTy call_int1 rfl T.n_int (by decide +kernel) (pa_cons (pe_op op_add (pe_op op_add (pe_op op_mul (pe_op op_add (pv 4) (pe_op op_mul pe_int (pv 1))) pe_int) (pe_op op_mul pe_int (pv 5))) (pv 6)) pa_nil)) pe_int))
    (pss_one (ps_ret (pe_op op_add (pe_op op_mul (pe_op op_mod (pe_callTy call_int1 rfl T.n_int (by decide +kernel) (pa_cons (pe_op op_mul (pv 7) (pe_op op_add (pe_op op_add (pv 7) (pe_op op_mul pe_int (pv 1))) pe_int)) pa_nil)) pe_int) pe_int) (pv 5)))))))), ?_⟩
  refine ⟨_, rfl, (by decide : 0 ≤ sizeLine), fun q hq => neL (ms := []) (extN_l (.of (same_new hq)) hs) (SqL.of upd_same) ⟨_, rfl, ?_⟩⟩
  have s1 : Same H (upd H q (.lst [])) := same_new hq
  have hs1 := extN_l (.of s1) hs
  generalize upd H q (.lst []) = H1 at s1 hs1
  by_cases hss : ss = []
  rw [decide_eq_true hss]
  refine iteF ⟨(by decide : 1 ≤ sizeLine), fun c hc => ?_⟩
  have s2 := s1.trans (same_new (o := .lst [.int 5]) hc)
  have hc2 : upd H1 c (.lst [.int 5]) c = some (.lst (([5] : List Int).map V.int)) := upd_same
  have ne : ([5] : List Int) ≠ [] := by simp
  have cl : ([5] : List Int).length ≤ 100 := by simp
  generalize upd H1 c (.lst [.int 5]) = H2 at s2 hc2
  generalize ([5] : List Int) = cs at hc2 ne cl
  rotate_left
  rw [decide_eq_false hss]
  refine iteT ⟨_, rfl, 63, rfl, sc, _, rfl, hs1, fun c hc => ?_⟩
  have e63 := cut_top ss 63
  rw [show (some (63 : Int)) = some ((63 : Nat) : Int) from rfl, e63]
  have s2 := s1.trans (same_new (o := .lst ((ss.take 63).map V.int)) hc)
  have hc2 : upd H1 c (.lst ((ss.take 63).map V.int)) c = some (.lst ((ss.take 63).map V.int)) := upd_same
  have ne : ss.take 63 ≠ [] := by
    intro z
    cases ss with
    | nil => exact hss rfl
    | cons _ _ => simp at z
  have cl : (ss.take 63).length ≤ 100 := Nat.le_trans (List.length_take_le _ _) (by decide)
  generalize upd H1 c (.lst ((ss.take 63).map V.int)) = H2 at s2 hc2
  generalize ss.take 63 = cs at hc2 ne cl
  rotate_left
  all_goals
    have hpos : 0 < cs.length := List.length_pos_iff.mpr ne
    have hl : (((cs.map V.int).length : Nat) : Int) = (cs.length : Int) := ml cs
    have hc3 := SqL.of (K := K) hc2
    have m0 : 0 ≤ n % (((cs.map V.int).length : Nat) : Int) := Int.emod_nonneg _ (by omega)
    have m1 : n % (((cs.map V.int).length : Nat) : Int) < (cs.length : Int) := by
      have := Int.emod_lt_of_pos n (show 0 < (((cs.map V.int).length : Nat) : Int) by omega)
      omega
    obtain ⟨j, ej⟩ := Int.eq_ofNat_of_zero_le m0
    have ej' : n % (((cs.map V.int).length : Nat) : Int) = ((j : Nat) : Int) := ej
    refine ⟨_, rfl, _, rfl, .inl ⟨_, rfl, _, rfl, c, _, rfl, .inl hc3, _, _, rfl, rfl, by omega, c, _, _, .int (cs.getD j 0), rfl, rfl, hc3, (by rw [ej']; exact at_ints (by omega)), ?_⟩⟩
    refine ⟨_, rfl, _, rfl, c, _, rfl, .inl hc3, _, _, rfl, rfl, ⟨by omega, by omega⟩, _, _, rfl, rfl, .inl ⟨by decide, by decide⟩, _, _, rfl, rfl, ?_⟩
    refine ⟨_, rfl, .inl ⟨_, rfl, _, _, rfl, rfl, (by decide : (0 : Int) < 1000003), _, rfl, _, _, rfl, rfl, ⟨by decide, by decide⟩, .inl ⟨_, rfl, _, _, rfl, rfl, (by decide : (0 : Int) < 999983), _, _, rfl, ?_⟩⟩⟩
    refine ⟨_, rfl, c, cs, rfl, hc3, .inl ⟨_, rfl, _, _, rfl, rfl, (by decide : (0 : Int) < 65521), ?_⟩⟩
    refine ⟨_, rfl, _, rfl, _, _, rfl, rfl, .inl ⟨by decide, by decide⟩, _, _, rfl, rfl, _, _, rfl, rfl, .inr ⟨by decide, by decide⟩, _, rfl, _, _, rfl, rfl, .inl ⟨by decide, by decide⟩, _, _, rfl, rfl, _, rfl, _, _, rfl, rfl, .inl ⟨_, rfl, _, _, rfl, rfl, (by decide : (0 : Int) < 2147483647), ?_⟩⟩
    have em : ∀ z : Int, -(2 ^ 64) < z % 2147483647 ∧ z % 2147483647 < 2 ^ 64 := fun z => by
      have h1 := Int.emod_nonneg z (show (2147483647 : Int) ≠ 0 by decide)
      have h2 := Int.emod_lt_of_pos z (show (0 : Int) < 2147483647 by decide)
      omega
    refine ⟨_, rfl, _, rfl, _, rfl, _, _, rfl, rfl, .inl ⟨by decide, by decide⟩, _, _, rfl, rfl, _, _, rfl, rfl, _, _, rfl, rfl, .inl (em _), .inl ⟨_, rfl, _, _, rfl, rfl, (by decide : (0 : Int) < 2147483629), _, _, rfl, rfl, .inr ⟨by decide, by decide⟩, _, rfl, _, _, rfl, rfl, h1 _ H2 s2⟩⟩
end
end K7
/-! the law's draws: take, pick, arms, keys -/
namespace K7
open PySem PySem.Spec PyProof.Rows L2 He
open LamX (Tabs TabS TabB ExtN CodeO lamEnv)
/-- at d a draw over the script at sc -/
def DrawAt (K : PySem.W.Frag) (H : Hp) (d sc : Addr) (ss : List Int) : Prop := (∃ n, H d = some (.lst [V.ref sc, V.int n])) ∧ ∀ H', ButN d H H' → SqL K H' sc (ss.map V.int)
/-- what may change: the draw, the tables -/
def Lw (K : PySem.W.Frag) (d : Addr) (H H' : Hp) : Prop := ButN d H H' ∧ (Tabs (TT K) H → Tabs (TT K) H')
section
variable {K : PySem.W.Frag} {d sc : Addr} {ss : List Int} {H H1 H2 : Hp}
theorem Lw.refl : Lw K d H H := ⟨ButN.refl, id⟩
theorem Lw.trans (a : Lw K d H H1) (b : Lw K d H1 H2) : Lw K d H H2 := ⟨a.1.trans b.1, fun t => b.2 (a.2 t)⟩
theorem Lw.of (s : Same H H1) : Lw K d H H1 := ⟨.of (.of s), fun t => t.ext s⟩
theorem Lw.ofN (s : ExtN H H1) (t : Tabs (TT K) H1) : Lw K d H H1 := ⟨.of s, fun _ => t⟩
theorem DrawAt.same (h : DrawAt K H d sc ss) (e : ExtN H H1) : DrawAt K H1 d sc ss := by
  obtain ⟨⟨n, h1⟩, h2⟩ := h
  exact ⟨⟨n, e _ _ h1 fun ps z => nomatch z⟩, fun H' b => h2 H' ((ButN.of e).trans b)⟩
theorem DrawAt.put (h : DrawAt K H d sc ss) (n : Int) : DrawAt K (upd H d (.lst [V.ref sc, V.int n])) d sc ss := ⟨⟨n, upd_same⟩, fun H' b => h.2 H' (ButN.upd.trans b)⟩
/-- a list of ours that is not the draw -/
theorem Lw.lst {l : Addr} {xs : List V} (a : Lw K d H H1) (n : l ≠ d) (h : H l = some (.lst xs)) : H1 l = some (.lst xs) := a.1 _ _ n h fun ps z => nomatch z
end
section
variable {w : World} {K : PySem.W.Frag} {mg : Str → Option Value} {base : Heap}
theorem sc_law_take : FnScope ["draw", "many"] ["draw", "many"] (defScope s_law_take) := ⟨rfl, rfl, rfl, by decide +kernel, rfl, by decide +kernel, by decide +kernel⟩
def spTk (K : PySem.W.Frag) : Sp := fun vs H Q E => ∃ (d sc : Addr) (ss : List Int) (m : Int), vs = [V.ref d, V.int m] ∧ DrawAt K H d sc ss ∧ 0 < m ∧ ∀ z H', 0 ≤ z → z < m → Lw K d H H' → DrawAt K H' d sc ss → Q (.int z) H'
theorem F_law_take (T : TX K mg base) : FnR Pr w K mg base (LC w) 2 (a_law_take K) (spTk K) := by
  obtain ⟨fd, F⟩ := T.f_law_take
  refine fnr_of (ps := ["draw", "many"]) (N := ["draw", "many"]) F (fun _ _ _ _ _ _ us hl => match us, hl with | [_, _], _ => rfl) sc_law_take (fun vs H Q E h => by obtain ⟨d, sc, ss, m, rfl, _⟩ := h; rfl) fun cdv A outer s H vs Q E hr h => ?_
  obtain ⟨d, sc, ss, m, rfl, hd, hm, h1⟩ := h
  refine ⟨_, pss_cons (ps_asg (pe_op op_add (pe_ix ix_list (pv 0) pe_int (fun _ _ => rfl)) pe_int) (pg_sub (pv 0) pe_int set_list))
    (pss_one (ps_ret (pe_op op_mod (pe_callTy call_int1 rfl T.n_int (by decide +kernel) (pa_cons (pe_cl (F_law_number T) hr rfl T.g_law_number (kpF T.f_law_number) pX (pa_cons (pe_ix ix_list (pv 0) pe_int (fun _ _ => rfl))
      (pa_cons (pe_callTy call_int1 rfl T.n_int (by decide +kernel) (pa_cons (pe_ix ix_list (pv 0) pe_int (fun _ _ => rfl)) pa_nil)) pa_nil))) pa_nil)) (pv 1)))), ?_⟩
  obtain ⟨n, hn⟩ := hd.1
  refine ⟨_, rfl, d, _, (1 : Int), .int n, rfl, rfl, SqL.of hn, atI_nat (j := 1) rfl, _, _, rfl, rfl, _, rfl, d, _, (1 : Int), 1, rfl, rfl, hn, rfl, ?_⟩
  have hd2 := hd.put (n + 1)
  have lw2 : Lw K d H (upd H d (.lst [V.ref sc, V.int (n + 1)])) := ⟨.upd, fun t => tabs_upd t hn⟩
  obtain ⟨n2, hn2⟩ := hd2.1
  have hs2 := hd2.2 _ ButN.refl
  rw [show ([V.ref sc, V.int n].set 1 ((fun i j => V.int (i + j)) n 1)) = [V.ref sc, V.int (n + 1)] from rfl]
  generalize upd H d (.lst [V.ref sc, V.int (n + 1)]) = H2 at hd2 lw2 hn2 hs2
  refine ⟨_, rfl, d, _, (0 : Int), .ref sc, rfl, rfl, SqL.of hn2, atI_nat (j := 0) rfl, _, rfl, d, _, (1 : Int), .int n2, rfl, rfl, SqL.of hn2, atI_nat (j := 1) rfl, .inl ⟨_, rfl, sc, ss, n2, rfl, hs2, fun z H3 s3 => .inl ⟨_, rfl, _, rfl, _, _, rfl, rfl, hm, ?_⟩⟩⟩
  exact h1 _ H3 (Int.emod_nonneg _ (by omega)) (Int.emod_lt_of_pos _ hm) (lw2.trans (.of s3)) (hd2.same (.of s3))
theorem sc_law_pick : FnScope ["draw", "things"] ["draw", "things"] (defScope s_law_pick) := ⟨rfl, rfl, rfl, by decide +kernel, rfl, by decide +kernel, by decide +kernel⟩
def spPk (K : PySem.W.Frag) : Sp := fun vs H Q E => ∃ (d sc l : Addr) (ss : List Int) (xs : List V), vs = [V.ref d, V.ref l] ∧ DrawAt K H d sc ss ∧ H l = some (.lst xs) ∧ l ≠ d ∧ xs ≠ [] ∧ ∀ x H', x ∈ xs → Lw K d H H' → DrawAt K H' d sc ss → Q x H'
theorem F_law_pick (T : TX K mg base) : FnR Pr w K mg base (LC w) 3 (a_law_pick K) (spPk K) := by
  obtain ⟨fd, F⟩ := T.f_law_pick
  refine fnr_of (ps := ["draw", "things"]) (N := ["draw", "things"]) F (fun _ _ _ _ _ _ us hl => match us, hl with | [_, _], _ => rfl) sc_law_pick (fun vs H Q E h => by obtain ⟨d, sc, l, ss, xs, rfl, _⟩ := h; rfl) fun cdv A outer s H vs Q E hr h => ?_
  obtain ⟨d, sc, l, ss, xs, rfl, hd, hl, nl, ne, h1⟩ := h
  refine ⟨_, pss_one (ps_ret (pe_ix ix_list (pv 1) (pe_cl (F_law_take T) hr rfl T.g_law_take (kpF T.f_law_take) pX (pa_cons (pv 0) (pa_cons (pe_callB call_len_seq rfl T.n_len PySem.boot_len (pa_cons (pv 1) pa_nil)) pa_nil))) (fun _ _ => rfl))), ?_⟩
  have hpos : 0 < xs.length := List.length_pos_iff.mpr ne
  refine ⟨_, rfl, _, rfl, _, rfl, l, xs, rfl, .inl (SqL.of hl), d, sc, ss, _, rfl, hd, by omega, fun z H2 z0 z1 lw hd2 => ?_⟩
  obtain ⟨j, rfl⟩ := Int.eq_ofNat_of_zero_le z0
  have hj : j < xs.length := by omega
  exact ⟨l, xs, _, xs[j], rfl, rfl, SqL.of (lw.lst nl hl), atI_nat (List.getElem?_eq_getElem hj), h1 _ H2 (List.getElem_mem hj) lw hd2⟩
theorem sc_law_parent : FnScope ["wide", "place"] ["wide", "place"] (defScope s_law_parent) := ⟨rfl, rfl, rfl, by decide +kernel, rfl, by decide +kernel, by decide +kernel⟩
def spLPar (K : PySem.W.Frag) : Sp := fun vs H Q E => ∃ (r : Nat) (p : Int), vs = [V.int (r : Int), V.int p] ∧ 1 ≤ r ∧ r ≤ 4 ∧ Q (.int (par r p)) H
theorem F_law_parent (T : TX K mg base) : FnR Pr w K mg base (LC w) 1 (a_law_parent K) (spLPar K) := by
  obtain ⟨fd, F⟩ := T.f_law_parent
  refine fnr_of (ps := ["wide", "place"]) (N := ["wide", "place"]) F (fun _ _ _ _ _ _ us hl => match us, hl with | [_, _], _ => rfl) sc_law_parent (fun vs H Q E h => by obtain ⟨r, p, rfl, _⟩ := h; rfl) fun cdv A outer s H vs Q E hr h => ?_
  obtain ⟨r, p, rfl, r1, r4, h1⟩ := h
  refine ⟨_, pss_one (ps_ret (pe_op op_fdivN (pe_callTy call_int1 rfl T.n_int (by decide +kernel) (pa_cons (pe_op op_sub (pv 1) pe_int) pa_nil)) (pv 0))), ?_⟩
  exact ⟨_, rfl, _, _, rfl, rfl, .inl ⟨_, rfl, _, rfl, _, _, rfl, rfl, ⟨by omega, by omega⟩, h1⟩⟩
theorem sc_law_arms : FnScope ["draw"] ["draw"] (defScope s_law_arms) := ⟨rfl, rfl, rfl, by decide +kernel, rfl, by decide +kernel, by decide +kernel⟩
def spLArm (K : PySem.W.Frag) : Sp := fun vs H Q E => ∃ (d sc : Addr) (ss : List Int), vs = [V.ref d] ∧ DrawAt K H d sc ss ∧ ∀ (r : Nat) H', 1 ≤ r → r ≤ 4 → Lw K d H H' → DrawAt K H' d sc ss → Q (.int (r : Int)) H'
theorem F_law_arms (T : TX K mg base) : FnR Pr w K mg base (LC w) 4 (a_law_arms K) (spLArm K) := by
  obtain ⟨fd, F⟩ := T.f_law_arms
  refine fnr_of (ps := ["draw"]) (N := ["draw"]) F (fun _ _ _ _ _ _ us hl => match us, hl with | [_], _ => rfl) sc_law_arms (fun vs H Q E h => by obtain ⟨d, sc, ss, rfl, _⟩ := h; rfl) fun cdv A outer s H vs Q E hr h => ?_
  obtain ⟨d, sc, ss, rfl, hd, h1⟩ := h
  refine ⟨_, pss_one (ps_ret (pe_cl (F_law_pick T) hr rfl T.g_law_pick (kpF T.f_law_pick) pX (pa_cons (pv 0) (pa_cons (pe_lst (pa_cons pe_int (pa_cons pe_int (pa_cons pe_int (pa_cons pe_int (pa_cons pe_int (pa_cons pe_int pa_nil))))))) pa_nil)))), ?_⟩
  refine ⟨_, rfl, (by decide : 6 ≤ sizeLine), fun l hl => ⟨d, sc, l, ss, _, rfl, hd.same (.of (same_new hl)), upd_same, ?_, by simp, fun x H2 hx lw hd2 => ?_⟩⟩
  · obtain ⟨n, hn⟩ := hd.1
    exact Ne.symm (ne_of_none hn hl)
  · have lw' := (Lw.of (K := K) (d := d) (same_new hl)).trans lw
    simp only [List.mem_cons, List.not_mem_nil, or_false] at hx
    rcases hx with e | e | e | e | e | e <;> rw [e]
    · exact h1 2 H2 (by decide) (by decide) lw' hd2
    · exact h1 2 H2 (by decide) (by decide) lw' hd2
    · exact h1 2 H2 (by decide) (by decide) lw' hd2
    · exact h1 3 H2 (by decide) (by decide) lw' hd2
    · exact h1 1 H2 (by decide) (by decide) lw' hd2
    · exact h1 4 H2 (by decide) (by decide) lw' hd2
end
end K7
/-! the law's keys and heaps -/
namespace K7
open PySem PySem.Spec PyProof.Rows L2 He
open LamX (Tabs TabS TabB ExtN CodeO lamEnv)
theorem DrawAt.lw {K : PySem.W.Frag} {d sc : Addr} {ss : List Int} {H H1 : Hp} (h : DrawAt K H d sc ss) (b : ButN d H H1) (n : ∃ n, H1 d = some (.lst [V.ref sc, V.int n])) : DrawAt K H1 d sc ss := ⟨n, fun H' b' => h.2 H' (b.trans b')⟩
section
variable {w : World} {K : PySem.W.Frag} {mg : Str → Option Value} {base : Heap}
theorem sc_law_keys : FnScope ["draw", "most", "span", "turn"] ["draw", "most", "span"] (defScope s_law_keys) := ⟨rfl, rfl, rfl, by decide +kernel, rfl, by decide +kernel, by decide +kernel⟩
def spLKeys (K : PySem.W.Frag) : Sp := fun vs H Q E => ∃ (d sc : Addr) (ss : List Int), vs = [V.ref d, V.int 12, V.int 9] ∧ DrawAt K H d sc ss ∧ ∀ l (ns : List Int) H', H' l = some (.lst (ns.map V.int)) → ns.length ≤ 12 → Lw K d H H' → DrawAt K H' d sc ss → Q (.ref l) H'
theorem F_law_keys (T : TX K mg base) : FnR Pr w K mg base (LC w) 3 (a_law_keys K) (spLKeys K) := by
  obtain ⟨fd, F⟩ := T.f_law_keys
  refine fnr_of (ps := ["draw", "most", "span"]) (N := ["draw", "most", "span", "turn"]) F (fun _ _ _ _ _ _ us hl => match us, hl with | [_, _, _], _ => rfl) sc_law_keys (fun vs H Q E h => by obtain ⟨d, sc, ss, rfl, _⟩ := h; rfl) fun cdv A outer s H vs Q E hr h => ?_
  obtain ⟨d, sc, ss, rfl, hd, h1⟩ := h
  refine ⟨_, pss_one (ps_ret (pe_lc (own := [("turn", 3)]) (g := gName 3) (tt := tYes) (te := tOp (rI0 fun i j => V.int (i - j)) (tCl (spTk K) E0 (tCons (tVar 0) (tCons (tVar 2) tNil))) (tCB (fun xs H Q => (∃ i, xs = [V.int i] ∧ Q (V.int i) H) ∨ ∃ k, xs = [V.bl k] ∧ Q (V.int (if k = true then 1 else 0)) H) (tCons (tOp (rI CDivN fun i j => V.int (i.fdiv j)) (tVar 2) (tC (.int 2))) tNil)))
      rfl sc_law_keys.nd (pi_range1 rfl T.n_range (pa_cons (pe_cl (F_law_take T) hr rfl T.g_law_take (kpF T.f_law_take) pX (pa_cons (pv 0) (pa_cons (pe_op op_add (pv 1) pe_int) pa_nil))) pa_nil))
      (blkOk_by (own := [("turn", 3)]) (N := ["draw", "most", "span", "turn"]) (sc := defScope s_law_keys) (by decide +kernel)) (fun _ _ _ _ _ => pg_name (i := 3) sc_law_keys.nd rfl (Or.inl rfl)) (fun _ _ _ _ _ => pts_nil)
      (fun _ _ _ _ _ => pe_op op_sub (pe_cl (F_law_take T) hr rfl T.g_law_take (kpF T.f_law_take) passL (pa_cons (pv 0) (pa_cons (pv 2) pa_nil))) (pe_callTy call_int1 rfl T.n_int (by decide +kernel) (pa_cons (pe_op op_fdivN (pv 2) pe_int) pa_nil))))), ?_⟩
  have p0 : sizeLine = 4 ^ 12 := sizeLine_eq
  refine ⟨_, rfl, _, rfl, _, _, rfl, rfl, d, sc, ss, _, rfl, hd, by decide, fun z H1 z0 z1 lw1 hd1 => ⟨z, rfl, by omega, by omega, fun D hD => ?_⟩⟩
  obtain ⟨n1, hn1⟩ := hd1.1
  have nD : d ≠ D := ne_of_none hn1 hD
  refine itJ (n := z.toNat) (fun i H3 => Lw K d H1 H3 ∧ (∃ n, H3 d = some (.lst [V.ref sc, V.int n])) ∧ ∃ acc : List Int, H3 D = some (.lst (acc.map V.int)) ∧ acc.length = i) ⟨.of (same_new hD), ⟨n1, by rw [upd_ne nD]; exact hn1⟩, [], upd_same, rfl⟩ (fun i H3 hi _ => hi) (fun H3 _ => Nat.le_refl _) ?_ ?_
  · rintro i H3 v H4 hi ⟨lw3, hd3, acc, hacc, lacc⟩ ⟨rfl, rfl⟩
    refine ⟨rfl, _, rfl, _, rfl, d, sc, ss, _, rfl, hd1.lw lw3.1 hd3, by decide, fun z2 H5 z20 z21 lw5 hd5 => ⟨_, rfl, _, _, rfl, rfl, ⟨by decide, by decide⟩, .inl ⟨_, rfl, _, _, rfl, rfl, _, lw5.lst (Ne.symm nD) hacc, ?_, ?_, ?_, acc ++ [z2 - Int.fdiv 9 2], ?_, ?_⟩⟩⟩
    · rw [List.length_map, p0]
      omega
    · have lw35 := lw3.trans lw5
      refine ⟨fun c o nc ec nt => ?_, fun t => tabs_upd (lw35.2 t) (lw5.lst (Ne.symm nD) hacc)⟩
      rw [upd_ne (fun z => by rw [z, hD] at ec; cases ec)]
      exact lw35.1 c o nc ec nt
    · obtain ⟨n5, hn5⟩ := hd5.1
      exact ⟨n5, by rw [upd_ne nD]; exact hn5⟩
    · rw [upd_same, List.map_append]
      rfl
    · simp
      omega
  · rintro H3 ⟨lw3, hd3, acc, hacc, lacc⟩
    exact h1 D acc H3 hacc (by omega) (lw1.trans lw3) (hd1.lw lw3.1 hd3)
theorem sc_law_heap : FnScope ["keys", "wide", "row", "key", "place", "lap", "above"] ["keys", "wide"] (defScope s_law_heap) := ⟨rfl, rfl, rfl, by decide +kernel, rfl, by decide +kernel, by decide +kernel⟩
def spLHp (K : PySem.W.Frag) : Sp := fun vs H Q E => ∃ (kl : Addr) (ns : List Int) (r : Nat), vs = [V.ref kl, V.int (r : Int)] ∧ H kl = some (.lst (ns.map V.int)) ∧ ns.length ≤ 12 ∧ 1 ≤ r ∧ r ≤ 4 ∧ ∀ l (ms : List Int) H', Same H H' → H' l = some (.lst (ms.map V.int)) → ms.length = ns.length → Q (.ref l) H'
theorem F_law_heap (T : TX K mg base) : FnR Pr w K mg base (LC w) 2 (a_law_heap K) (spLHp K) := by
  obtain ⟨fd, F⟩ := T.f_law_heap
  refine fnr_of (ps := ["keys", "wide"]) (N := ["keys", "wide", "row", "key", "place", "lap", "above"]) F (fun _ _ _ _ _ _ us hl => match us, hl with | [_, _], _ => rfl) sc_law_heap (fun vs H Q E h => by obtain ⟨kl, ns, r, rfl, _⟩ := h; rfl) fun cdv A outer s H vs Q E hr h => ?_
  obtain ⟨kl, ns, r, rfl, hk, nl, r1, r4, h1⟩ := h
  refine ⟨_, pss_cons (ps_set (i := 2) sc_law_heap.nd rfl (.inl rfl) (pe_lst pa_nil))
    (pss_cons (ps_for (passes_of rfl) rfl (pi_list (pv 0)) (pg_name (i := 3) sc_law_heap.nd rfl (.inl rfl))
      (pss_cons (ps_expr (pe_bm PySem.F.plainAttrs_list PySem.F.slot_list_append PySem.F.type_list_append mt_append (pv 2) (pa_cons (pv 3) pa_nil)))
      (pss_cons (ps_set (i := 4) sc_law_heap.nd rfl (.inl rfl) (pe_op op_sub (pe_callB call_len_seq rfl T.n_len PySem.boot_len (pa_cons (pv 2) pa_nil)) pe_int))
      (pss_one (ps_for (passes_of rfl) rfl (pi_range1 rfl T.n_range (pa_cons pe_int pa_nil)) (pg_name (i := 5) sc_law_heap.nd rfl (.inl rfl))
        (pss_cons (ps_if (PW.pt (pw_or (pt_cmpR op_eq (pv 4) pe_int (nomark _)) (pw_or1 (pt_cmpR op_le (pe_ix ix_list (pv 2) (pe_cl (F_law_parent T) hr rfl T.g_law_parent (kpF T.f_law_parent) pX (pa_cons (pv 1) (pa_cons (pv 4) pa_nil))) (fun _ _ => rfl)) (pe_ix ix_list (pv 2) (pv 4) (fun _ _ => rfl)) (nomark _))))) (pss_one ps_break) pss_nil)
        (pss_cons (ps_set (i := 6) sc_law_heap.nd rfl (.inl rfl) (pe_cl (F_law_parent T) hr rfl T.g_law_parent (kpF T.f_law_parent) pX (pa_cons (pv 1) (pa_cons (pv 4) pa_nil))))
        (pss_cons (ps_asg (pe_tup (pa_cons (pe_ix ix_list (pv 2) (pv 6) (fun _ _ => rfl)) (pa_cons (pe_ix ix_list (pv 2) (pv 4) (fun _ _ => rfl)) pa_nil))) (pg_tup rfl (pgs_cons (pg_sub (pv 2) (pv 4) set_list) (pgs_cons (pg_sub (pv 2) (pv 6) set_list) pgs_nil))))
        (pss_one (ps_set (i := 4) sc_law_heap.nd rfl (.inl rfl) (pv 6)))))))))))
    (pss_one (ps_ret (pv 2)))), ?_⟩
  have p0 : sizeLine = 4 ^ 12 := sizeLine_eq
  refine ⟨(by decide : 0 ≤ sizeLine), fun l hl => ?_⟩
  have nkl : kl ≠ l := ne_of_none hk hl
  have s1 : Same H (upd H l (.lst [])) := same_new hl
  have hl1 : upd H l (.lst []) l = some (.lst []) := upd_same
  have hk1 := s1 _ _ hk
  refine ⟨_, rfl, kl, rfl, ⟨_, SqL.of hk1⟩, ?_⟩
  generalize upd H l (.lst []) = H1 at s1 hl1 hk1
  refine for_list (xs := ns.map V.int) (fun i σ H' => (∃ o3 o4 o5 o6, σ = [some (V.ref kl), some (V.int (r : Int)), some (V.ref l), o3, o4, o5, o6]) ∧ ButD l H1 H' ∧ ∃ ms : List Int, H' l = some (.lst (ms.map V.int)) ∧ ms.length = i) ⟨⟨_, _, _, _, rfl⟩, ButD.refl, [], hl1, rfl⟩ (fun i σ H' _ p => SqL.of (p.2.1 _ _ nkl hk1)) ?_ ?_
  · rintro i x σ H' hx ⟨⟨o3, o4, o5, o6, rfl⟩, b, ms, hms, lms⟩
    rw [List.getElem?_map] at hx
    obtain ⟨k, ek, rfl⟩ := Option.map_eq_some_iff.mp hx
    have hi : i < ns.length := (List.getElem?_eq_some_iff.mp ek).1
    refine ⟨_, rfl, .inl ⟨rfl, _, SqL.of hms⟩, _, rfl, l, _, _, rfl, rfl, hms, by rw [List.length_map, p0]; omega, ?_⟩
    have hms2 : upd H' l (.lst (ms.map V.int ++ [V.int k])) l = some (.lst ((ms ++ [k]).map V.int)) := by rw [upd_same, List.map_append]; rfl
    have b2 : ButD l H1 (upd H' l (.lst (ms.map V.int ++ [V.int k]))) := b.trans .upd
    generalize upd H' l (.lst (ms.map V.int ++ [V.int k])) = H2 at hms2 b2
    refine ⟨_, rfl, l, _, rfl, .inl (SqL.of hms2), _, _, rfl, rfl, ?_⟩
    have e1 : (((((ms ++ [k]).map V.int).length : Nat) : Int) - 1) = ((i : Nat) : Int) := by rw [List.length_map, List.length_append]; simp; omega
    refine ⟨20, rfl, by decide, by decide, ?_⟩
    refine forJ (n := 20) (fun j σ H' => (∃ (p : Nat) (o3 o5 o6 : Option V), σ = [some (V.ref kl), some (V.int (r : Int)), some (V.ref l), o3, some (V.int (p : Int)), o5, o6] ∧ p ≤ i) ∧ ButD l H1 H' ∧ ∃ ms : List Int, H' l = some (.lst (ms.map V.int)) ∧ ms.length = i + 1) ⟨⟨i, _, _, _, by rw [← e1]; rfl, Nat.le_refl _⟩, b2, ms ++ [k], hms2, by simp; omega⟩ (fun j σ H' hj _ => hj) (fun σ H' _ => Nat.le_refl _) ?_ ?_
    · rintro j σ H3 v H4 hj ⟨⟨p, o3, o5, o6, rfl, hp⟩, b3, ms3, hms3, lms3⟩ ⟨rfl, rfl⟩
      have hat : ∀ q : Nat, q ≤ i → atI (ms3.map V.int) (q : Int) = some (V.int (ms3.getD q 0)) := fun q hq => at_ints (by omega)
      refine ⟨_, rfl, rfl, _, rfl, ?_⟩
      by_cases h0 : p = 0
      · subst h0
        exact iteT (iteT ⟨⟨_, _, _, _, rfl⟩, b3, ms3, hms3, lms3⟩)
      · have hne : decide (V.int ((p : Nat) : Int) = V.int 0) = false := decide_eq_false (by intro z; injection z with z; omega)
        rw [hne]
        have hp' := par_lt (r := r) (p := (p : Int)) r1 (by omega)
        obtain ⟨q, eq⟩ := Int.eq_ofNat_of_zero_le hp'.1
        have eq' : par r ((p : Nat) : Int) = ((q : Nat) : Int) := eq
        have hqp : q < p := by omega
        refine iteF ⟨_, rfl, _, rfl, _, rfl, r, (p : Int), rfl, r1, r4, ?_⟩
        rw [eq']
        refine ⟨l, _, _, _, rfl, rfl, SqL.of hms3, hat q (by omega), _, rfl, _, rfl, l, _, _, _, rfl, rfl, SqL.of hms3, hat p hp, _, _, rfl, rfl, _, rfl, ?_⟩
        by_cases hle : ms3.getD q 0 ≤ ms3.getD p 0
        · rw [decide_eq_true hle]
          exact iteT ⟨⟨_, _, _, _, rfl⟩, b3, ms3, hms3, lms3⟩
        · rw [decide_eq_false hle]
          refine iteF ⟨_, rfl, _, rfl, r, (p : Int), rfl, r1, r4, ?_⟩
          rw [eq']
          refine ⟨_, rfl, _, rfl, l, _, _, _, rfl, rfl, SqL.of hms3, hat q (by omega), _, rfl, _, rfl, l, _, _, _, rfl, rfl, SqL.of hms3, hat p hp, sz2, fun T0 hT => ?_⟩
          have sT := same_new (o := .tup [V.int (ms3.getD q 0), V.int (ms3.getD p 0)]) hT
          refine ⟨T0, _, rfl, SqT.of upd_same, rfl, _, _, rfl, _, rfl, _, rfl, l, _, _, p, rfl, rfl, sT _ _ hms3, by rw [List.length_map]; exact ixN_nat (by omega), _, _, rfl, _, rfl, _, rfl, l, _, _, q, rfl, rfl, upd_same, by rw [List.length_set, List.length_map]; exact ixN_nat (by omega), rfl, _, rfl, ?_⟩
          refine ⟨⟨q, _, _, _, rfl, by omega⟩, ((b3.trans (.of sT)).trans .upd).trans .upd, (ms3.set p (ms3.getD q 0)).set q (ms3.getD p 0), ?_, ?_⟩
          · rw [upd_same, List.map_set, List.map_set]
          · rw [List.length_set, List.length_set]
            exact lms3
    · rintro σ H3 ⟨⟨p, o3, o5, o6, rfl, hp⟩, b3, ms3, hms3, lms3⟩
      exact ⟨⟨_, _, _, _, rfl⟩, b3, ms3, hms3, lms3⟩
  · rintro σ H' ⟨⟨o3, o4, o5, o6, rfl⟩, b, ms, hms, lms⟩
    rw [List.length_map] at lms
    exact ⟨_, rfl, h1 l ms H' (ButD.same hl s1 b) hms lms⟩
end
end K7
/-! the law's words -/
namespace K7
open PySem PySem.Spec PyProof.Rows L2 He
open LamX (Tabs TabS TabB ExtN CodeO lamEnv)
abbrev Wd : Type := Str × V
abbrev noW : Wd := ("none", .int 0)
/-- a number or None -/
def payB : V → Bool
  | .non => true
  | .int _ => true
  | _ => false
def payD : V → PyData
  | .int i => .int i
  | _ => .none
/-- a word that can stand -/
def okW (p : Wd) : Bool := PyData.strOk p.1 && payB p.2
def wD (p : Wd) : PyData := .tuple [.str p.1, payD p.2]
theorem shp_w {p : Wd} (h : okW p = true) : SeqAt.shaped (wD p) = true := by
  obtain ⟨w, v⟩ := p
  unfold okW at h
  simp only [Bool.and_eq_true] at h
  have h1 : PyData.strOk w = true := h.1
  unfold SeqAt.shaped wD
  cases v with
  | non => simp [PyData.canLay0, PyData.canLayAll0, PyData.depth, PyData.depthAll, payD, h1]
  | int i => simp [PyData.canLay0, PyData.canLayAll0, PyData.depth, PyData.depthAll, payD, h1]
  | _ => cases h.2
theorem eqv_w {p q : Wd} (hp : okW p = true) (hq : okW q = true) : PyData.eqv (wD p) (wD q) = decide (p = q) := by
  obtain ⟨w, v⟩ := p
  obtain ⟨w', v'⟩ := q
  unfold okW at hp hq
  simp only [Bool.and_eq_true] at hp hq
  unfold wD
  cases v with
  | non => cases v' with
    | non =>
      simp [PyData.eqv, PyData.eqvAll, payD]
      by_cases e : w = w' <;> simp [e]
    | int i => simp [PyData.eqv, PyData.eqvAll, payD]
    | _ => cases hq.2
  | int i => cases v' with
    | non => simp [PyData.eqv, PyData.eqvAll, payD]
    | int j =>
      simp [PyData.eqv, PyData.eqvAll, payD]
      by_cases e : w = w' <;> by_cases e2 : i = j <;> simp [e, e2]
    | _ => cases hq.2
  | _ => cases hp.2
theorem dp_w {K : PySem.W.Frag} {H : Hp} {t : Addr} {p : Wd} (h : H t = some (.tup [.str p.1, p.2])) (ok : okW p = true) : Dp K H (.ref t) (wD p) := by
  obtain ⟨w, v⟩ := p
  unfold okW at ok
  simp only [Bool.and_eq_true] at ok
  refine .tup (SqT.of h) (.cons (.str w) (.cons ?_ .nil))
  cases v with
  | non => exact .non
  | int i => exact .int i
  | _ => cases ok.2
theorem neW {K : PySem.W.Frag} {H : Hp} {a b : Addr} {p q : Wd} {Q : VK} (ha : H a = some (.tup [.str p.1, p.2])) (hb : H b = some (.tup [.str q.1, q.2])) (hp : okW p = true) (hq : okW q = true) (z : Q (.bl (!decide (p = q))) H) : rNeD K (.ref a) (.ref b) H Q :=
  ⟨_, _, dp_w ha hp, dp_w hb hq, shp_w hp, shp_w hq, by rw [eqv_w hp hq]; exact z⟩
theorem eqW {K : PySem.W.Frag} {H : Hp} {a b : Addr} {p q : Wd} {Q : VK} (ha : H a = some (.tup [.str p.1, p.2])) (hb : H b = some (.tup [.str q.1, q.2])) (hp : okW p = true) (hq : okW q = true) (z : Q (.bl (decide (p = q))) H) : rEqD K (.ref a) (.ref b) H Q :=
  ⟨_, _, dp_w ha hp, dp_w hb hq, shp_w hp, shp_w hq, by rw [eqv_w hp hq]; exact z⟩
/-- a word comes back -/
def Wq (H : Hp) (p : Wd) (Q : VK) : Prop := ∀ t H', Same H H' → H' t = some (.tup [.str p.1, p.2]) → Q (.ref t) H'
theorem Wq.new {H H1 : Hp} {p : Wd} {Q : VK} (h : Wq H p Q) (s : Same H H1) : ∀ t, H1 t = none → Q (.ref t) (upd H1 t (.tup [.str p.1, p.2])) := fun t ht => h t _ (s.trans (same_new ht)) upd_same
/-- the word of a row -/
def rowW (k : KV) : Wd := match rowErr k with
  | none => noW
  | some v => ("row", v)
/-- the word of a heap's keys -/
def heapWI (r : Nat) (ns : List Int) : Wd := match faultsI r ns ns.length with
  | [] => noW
  | p :: _ => ("heap", .int p)
def armsW (k : KV) : Wd := if isN k 1 4 = true then noW else ("wide", .int 0)
def firstW : List Wd → Wd
  | [] => noW
  | p :: ps => if p = noW then firstW ps else p
theorem rowErr_pay {k : KV} {v : V} (h : rowErr k = some v) : payB v = true := by
  unfold rowErr at h
  cases e : rowOf k with
  | none =>
    rw [e] at h
    cases h
    rfl
  | some xs =>
    rw [e] at h
    dsimp only at h
    by_cases hl : 12 < xs.length
    · rw [if_pos hl] at h
      cases h
      rfl
    · rw [if_neg hl] at h
      obtain ⟨i, _, rfl⟩ := Option.map_eq_some_iff.mp h
      rfl
theorem ok_no : okW noW = true := by decide +kernel
theorem ok_row (k : KV) : okW (rowW k) = true := by
  unfold rowW
  cases e : rowErr k with
  | none => exact ok_no
  | some v =>
    show (PyData.strOk "row" && payB v) = true
    rw [rowErr_pay e, show PyData.strOk "row" = true by decide +kernel] <;> rfl
theorem ok_heap (r : Nat) (ns : List Int) : okW (heapWI r ns) = true := by
  unfold heapWI
  cases faultsI r ns ns.length with
  | nil => exact ok_no
  | cons p _ =>
    show (PyData.strOk "heap" && true) = true
    rw [show PyData.strOk "heap" = true by decide +kernel] <;> rfl
theorem ok_arms (k : KV) : okW (armsW k) = true := by
  unfold armsW
  by_cases h : isN k 1 4 = true
  · rw [if_pos h]
    exact ok_no
  · rw [if_neg h]
    decide +kernel
theorem ok_first : ∀ ps : List Wd, (∀ p ∈ ps, okW p = true) → okW (firstW ps) = true
  | [], _ => ok_no
  | p :: ps, h => by
    unfold firstW
    by_cases e : p = noW
    · rw [if_pos e]
      exact ok_first ps fun q hq => h q (List.mem_cons_of_mem _ hq)
    · rw [if_neg e]
      exact h p List.mem_cons_self
section
variable {w : World} {K : PySem.W.Frag} {mg : Str → Option Value} {base : Heap}
theorem sc_law_is_number : FnScope ["thing", "low", "high"] ["thing", "low", "high"] (defScope s_law_is_number) := ⟨rfl, rfl, rfl, by decide +kernel, rfl, by decide +kernel, by decide +kernel⟩
theorem F_law_is_number (T : TX K mg base) : FnR Pr w K mg base (LC w) 1 (a_law_is_number K) (spNum K) := by
  obtain ⟨fd, F⟩ := T.f_law_is_number
  refine fnr_of (ps := ["thing", "low", "high"]) (N := ["thing", "low", "high"]) F (fun _ _ _ _ _ _ us hl => match us, hl with | [_, _, _], _ => rfl) sc_law_is_number (fun vs H Q E h => by obtain ⟨x, k, lo, hi, rfl, _⟩ := h; rfl) fun cdv A outer s H vs Q E hr h => ?_
  obtain ⟨x, k, lo, hi, rfl, hk, hq⟩ := h
  refine ⟨_, pss_cons (ps_if (pt_not (pt_val (pe_callB call_isi rfl T.n_isinstance (by decide +kernel) (pa_cons (pv 0) (pa_cons (pe_bltn (v := .ty "int") rfl T.n_int (by decide +kernel) rfl) pa_nil))))) (pss_one (ps_ret pe_bl)) pss_nil)
    (pss_cons (ps_if (pt_val (pe_callB call_isi rfl T.n_isinstance (by decide +kernel) (pa_cons (pv 0) (pa_cons (pe_bltn (v := .ty "bool") rfl T.n_bool (by decide +kernel) rfl) pa_nil)))) (pss_one (ps_ret pe_bl)) pss_nil)
    (pss_one (ps_ret (pe_chain op_le op_le (pv 1) (pv 0) (pv 2))))), ?_⟩
  refine ⟨_, rfl, _, _, _, _, _, rfl, .ty "int", hk.ty, kitI k, _, rfl, ?_⟩
  cases hk with
  | int n =>
    refine iteF ⟨_, rfl, _, _, _, _, _, rfl, .ty "bool", (Kd.int (K := K) n).ty, kitBo (.int n), _, rfl, iteF ?_⟩
    refine ⟨_, rfl, _, rfl, _, _, rfl, rfl, _, rfl, ?_⟩
    by_cases h1 : lo ≤ n
    · have e : isN (.int n) lo hi = decide (n ≤ hi) := by simp [isN, h1]
      rw [if_pos (decide_eq_true h1)]
      rw [e] at hq
      exact ⟨_, rfl, _, _, rfl, rfl, hq⟩
    · have e : isN (.int n) lo hi = false := by simp [isN, h1]
      rw [if_neg (by simpa using h1)]
      rw [e] at hq
      exact hq
  | bl b => exact iteF ⟨_, rfl, _, _, _, _, _, rfl, .ty "bool", (Kd.bl (K := K) b).ty, kitBo (.bl b), _, rfl, iteT hq⟩
  | non => exact iteT hq
  | str s => exact iteT hq
  | lst h f => exact iteT hq
  | tup h f => exact iteT hq
  | dct h => exact iteT hq
theorem sc_law_arms_word : FnScope ["wide"] ["wide"] (defScope s_law_arms_word) := ⟨rfl, rfl, rfl, by decide +kernel, rfl, by decide +kernel, by decide +kernel⟩
def spAW (K : PySem.W.Frag) : Sp := fun vs H Q E => ∃ x k, vs = [x] ∧ Kd K H x k ∧ Wq H (armsW k) Q
theorem F_law_arms_word (T : TX K mg base) : FnR Pr w K mg base (LC w) 2 (a_law_arms_word K) (spAW K) := by
  obtain ⟨fd, F⟩ := T.f_law_arms_word
  refine fnr_of (ps := ["wide"]) (N := ["wide"]) F (fun _ _ _ _ _ _ us hl => match us, hl with | [_], _ => rfl) sc_law_arms_word (fun vs H Q E h => by obtain ⟨x, k, rfl, _⟩ := h; rfl) fun cdv A outer s H vs Q E hr h => ?_
  obtain ⟨x, k, rfl, hk, hq⟩ := h
  refine ⟨_, pss_one (ps_ret (pe_ifExp (pt_val (pe_cl (F_law_is_number T) hr rfl T.g_law_is_number (kpF T.f_law_is_number) pX (pa_cons (pv 0) (pa_cons pe_int (pa_cons pe_int pa_nil))))) (pe_tup (pa_cons pe_str (pa_cons pe_int pa_nil))) (pe_tup (pa_cons pe_str (pa_cons pe_int pa_nil))))), ?_⟩
  refine ⟨_, rfl, x, k, 1, 4, rfl, hk, _, rfl, ?_⟩
  unfold armsW at hq
  cases e : isN k 1 4 with
  | true =>
    rw [if_pos e] at hq
    exact iteT ⟨sz2, hq.new (.refl _)⟩
  | false =>
    rw [if_neg (by rw [e]; exact Bool.false_ne_true)] at hq
    exact iteF ⟨sz2, hq.new (.refl _)⟩
theorem sc_law_row_word : FnScope ["row", "index", "key"] ["row"] (defScope s_law_row_word) := ⟨rfl, rfl, rfl, by decide +kernel, rfl, by decide +kernel, by decide +kernel⟩
def spRW (K : PySem.W.Frag) : Sp := fun vs H Q E => ∃ x k, vs = [x] ∧ Kd K H x k ∧ Wq H (rowW k) Q
theorem F_law_row_word (T : TX K mg base) : FnR Pr w K mg base (LC w) 2 (a_law_row_word K) (spRW K) := by
  obtain ⟨fd, F⟩ := T.f_law_row_word
  refine fnr_of (ps := ["row"]) (N := ["row", "index", "key"]) F (fun _ _ _ _ _ _ us hl => match us, hl with | [_], _ => rfl) sc_law_row_word (fun vs H Q E h => by obtain ⟨x, k, rfl, _⟩ := h; rfl) fun cdv A outer s H vs Q E hr h => ?_
  obtain ⟨x, k, rfl, hk, hW⟩ := h
  refine ⟨_, pss_cons (ps_if (PW.pt (pw_or (pt_not (pt_val (pe_callB call_isiT rfl T.n_isinstance (by decide +kernel) (pa_cons (pv 0) (pa_cons (pe_tup (pa_cons (pe_bltn (v := .ty "list") rfl T.n_list (by decide +kernel) rfl) (pa_cons (pe_bltn (v := .ty "tuple") rfl T.n_tuple (by decide +kernel) rfl) pa_nil))) pa_nil)))))
      (pw_or1 (pt_cmpR op_gt (pe_callB call_len_seq rfl T.n_len PySem.boot_len (pa_cons (pv 0) pa_nil)) pe_int (nomark _)))))
      (pss_one (ps_ret (pe_tup (pa_cons pe_str (pa_cons pe_non pa_nil))))) pss_nil)
    (pss_cons (ps_for (passes_of rfl) rfl (pi_enumS rfl T.n_enumerate (pa_cons (pv 0) pa_nil)) (pg_tup rfl (pgs_cons (pg_name (i := 1) sc_law_row_word.nd rfl (.inl rfl)) (pgs_cons (pg_name (i := 2) sc_law_row_word.nd rfl (.inl rfl)) pgs_nil)))
      (pss_one (ps_if (pt_not (pt_val (pe_cl (F_law_is_number T) hr rfl T.g_law_is_number (kpF T.f_law_is_number) pX (pa_cons (pv 2) (pa_cons (pe_un un_neg (pe_op op_pow pe_int pe_int)) (pa_cons (pe_op op_pow pe_int pe_int) pa_nil))))))
        (pss_one (ps_ret (pe_tup (pa_cons pe_str (pa_cons (pv 1) pa_nil))))) pss_nil)))
    (pss_one (ps_ret (pe_tup (pa_cons pe_str (pa_cons pe_int pa_nil)))))), ?_⟩
  refine ⟨_, rfl, sz2, fun tp htp => ⟨_, tp, _, _, _, _, rfl, upd_same, .cons (.ty "list") (.cons (.ty "tuple") .nil), (hk.ext (.of (same_new htp))).ty, kitL k, _, rfl, ?_⟩⟩
  have pw : (10 : Int) ^ (9 : Int).toNat = 1000000000 := by decide
  cases e : rowOf k with
  | none =>
    have hs : isS k = false := by rw [isS_row, e]; rfl
    have he : rowErr k = some .non := by simp [rowErr, e]
    rw [hs]
    unfold rowW at hW
    rw [he] at hW
    exact iteT (iteT ⟨sz2, hW.new (same_new htp)⟩)
  | some xs =>
    have hs : isS k = true := by rw [isS_row, e]; rfl
    obtain ⟨a, rfl, hq, hf⟩ := hk.sq e
    rw [hs]
    refine iteF ⟨_, rfl, a, xs, rfl, hq.ext (.of (same_new htp)), _, _, rfl, rfl, _, rfl, ?_⟩
    by_cases hl : 12 < xs.length
    · have he : rowErr k = some .non := by simp [rowErr, e, hl]
      rw [decide_eq_true (show ((12 : Int) < (xs.length : Int)) by omega)]
      unfold rowW at hW
      rw [he] at hW
      exact iteT ⟨sz2, hW.new (same_new htp)⟩
    · rw [decide_eq_false (show ¬ ((12 : Int) < (xs.length : Int)) by omega)]
      have he : rowErr k = (xs.findIdx? fun x => !isKV x).map fun i => V.int (i : Nat) := by simp [rowErr, e, hl]
      have s0 : Same H (upd H tp (.tup [.ty "list", .ty "tuple"])) := same_new htp
      have hq0 := hq.ext (.of s0)
      generalize upd H tp (.tup [.ty "list", .ty "tuple"]) = H0 at s0 hq0
      refine iteF ⟨_, rfl, for_enumS hq0 (fun i σ H' => Same H0 H' ∧ σ.length = 3 ∧ i ≤ xs.length ∧ ∀ (j : Nat) y, j < i → xs[j]? = some y → isKV y = true) ⟨Same.refl _, rfl, Nat.zero_le _, fun j y z => absurd z (Nat.not_lt_zero _)⟩ (fun i σ H' p => .of p.1) ?_ ?_⟩
      · intro i x T0 σ H' hx p hT
        obtain ⟨sm, hl3, _, hall⟩ := p
        have hi : i < xs.length := (List.getElem?_eq_some_iff.mp hx).1
        obtain ⟨kx, hkx, ekx⟩ := kd_flat (K := K) (H := upd H' T0 (.tup [.int (i : Nat), x])) (List.all_eq_true.mp hf x (List.mem_of_getElem? hx))
        refine ⟨T0, _, rfl, SqT.of upd_same, rfl, _, _, rfl, _, _, rfl, rfl, ?_⟩
        have g2 : ((σ.set 1 (some (V.int (i : Nat)))).set 2 (some x))[2]? = some (some x) := List.getElem?_set_self (by rw [List.length_set]; omega)
        have g1 : ((σ.set 1 (some (V.int (i : Nat)))).set 2 (some x))[1]? = some (some (V.int (i : Nat))) := by
          rw [List.getElem?_set_ne (by decide)]
          exact List.getElem?_set_self (by omega)
        refine ⟨_, g2, _, _, rfl, rfl, ⟨by decide, by decide, by decide⟩, _, rfl, _, _, rfl, rfl, ⟨by decide, by decide, by decide⟩, x, kx, _, _, rfl, hkx, _, rfl, ?_⟩
        rw [pw, ekx]
        have s1 : Same H0 (upd H' T0 (.tup [.int (i : Nat), x])) := sm.trans (same_new hT)
        cases ex : isKV x with
        | true => exact iteF ⟨s1, by rw [List.length_set, List.length_set]; exact hl3, hi, fun j y hj hy => by
            by_cases ej : j < i
            · exact hall j y ej hy
            · have z : j = i := by omega
              rw [z, hx] at hy
              cases hy
              exact ex⟩
        | false =>
          have ew : rowErr k = some (V.int (i : Nat)) := by
            rw [he, List.findIdx?_eq_some_iff_getElem.mpr ⟨hi, ?_, fun j hj => ?_⟩]
            · rfl
            · rw [List.getElem?_eq_getElem hi] at hx
              cases hx
              simp [ex]
            · have hj2 : j < xs.length := by omega
              simp [hall j xs[j] hj (List.getElem?_eq_getElem hj2)]
          unfold rowW at hW
          rw [ew] at hW
          exact iteT ⟨_, g1, sz2, hW.new (s0.trans s1)⟩
      · intro σ H' p
        obtain ⟨sm, hl3, _, hall⟩ := p
        have ew : rowErr k = none := by
          rw [he, List.findIdx?_eq_none_iff.mpr ?_]
          · rfl
          · intro x hx
            obtain ⟨j, hj, ej⟩ := List.getElem_of_mem hx
            simp [hall j x hj (by rw [List.getElem?_eq_getElem hj, ej])]
        unfold rowW at hW
        rw [ew] at hW
        exact ⟨sz2, hW.new (s0.trans sm)⟩
end
end K7
/-! the law's heap word, the first word -/
namespace K7
open PySem PySem.Spec PyProof.Rows L2 He
open LamX (Tabs TabS TabB ExtN CodeO lamEnv)
theorem faultsI_first {r : Nat} {ns : List Int} {p : Nat} (h0 : faultsI r ns p = []) (hp : fB r ns p = true) : ∀ n, p < n → ∃ rest, faultsI r ns n = (p : Int) :: rest
  | 0, h => absurd h (Nat.not_lt_zero _)
  | n + 1, h => by
    rw [faultsI_succ]
    by_cases e : p = n
    · subst e
      rw [if_pos hp, h0]
      exact ⟨[], rfl⟩
    · obtain ⟨rest, er⟩ := faultsI_first h0 hp n (by omega)
      by_cases hb : fB r ns n = true
      · rw [if_pos hb, er]
        exact ⟨_, rfl⟩
      · rw [if_neg hb]
        exact ⟨_, er⟩
section
variable {w : World} {K : PySem.W.Frag} {mg : Str → Option Value} {base : Heap}
theorem sc_law_heap_word : FnScope ["row", "wide", "place"] ["row", "wide"] (defScope s_law_heap_word) := ⟨rfl, rfl, rfl, by decide +kernel, rfl, by decide +kernel, by decide +kernel⟩
def spHW (K : PySem.W.Frag) : Sp := fun vs H Q E => ∃ (x : V) (k : KV) (r : Nat), vs = [x, V.int (r : Int)] ∧ Kd K H x k ∧ 1 ≤ r ∧ r ≤ 4 ∧ (∀ v, rowErr k = some v → Wq H ("row", v) Q) ∧ (rowErr k = none → ∀ ns : List Int, rowOf k = some (ns.map V.int) → Wq H (heapWI r ns) Q)
theorem F_law_heap_word (T : TX K mg base) : FnR Pr w K mg base (LC w) 3 (a_law_heap_word K) (spHW K) := by
  obtain ⟨fd, F⟩ := T.f_law_heap_word
  refine fnr_of (ps := ["row", "wide"]) (N := ["row", "wide", "place"]) F (fun _ _ _ _ _ _ us hl => match us, hl with | [_, _], _ => rfl) sc_law_heap_word (fun vs H Q E h => by obtain ⟨x, k, r, rfl, _⟩ := h; rfl) fun cdv A outer s H vs Q E hr h => ?_
  obtain ⟨x, k, r, rfl, hk, r1, r4, h1, h2⟩ := h
  refine ⟨_, pss_cons (ps_if (pt_cmpR (op_neD hr.units) (pe_cl (F_law_row_word T) hr rfl T.g_law_row_word (kpF T.f_law_row_word) pX (pa_cons (pv 0) pa_nil)) (pe_tup (pa_cons pe_str (pa_cons pe_int pa_nil))) (nomark _)) (pss_one (ps_ret (pe_cl (F_law_row_word T) hr rfl T.g_law_row_word (kpF T.f_law_row_word) pX (pa_cons (pv 0) pa_nil)))) pss_nil)
    (pss_cons (ps_for (passes_of rfl) rfl (pi_range2 rfl T.n_range (pa_cons pe_int (pa_cons (pe_callB call_len_seq rfl T.n_len PySem.boot_len (pa_cons (pv 0) pa_nil)) pa_nil))) (pg_name (i := 2) sc_law_heap_word.nd rfl (.inl rfl))
      (pss_one (ps_if (pt_cmpR op_lt (pe_ix ix_seq (pv 0) (pv 2) (fun _ _ => rfl)) (pe_ix ix_seq (pv 0) (pe_cl (F_law_parent T) (hr.mono (by decide)) rfl T.g_law_parent (kpF T.f_law_parent) pX (pa_cons (pv 1) (pa_cons (pv 2) pa_nil))) (fun _ _ => rfl)) (nomark _)) (pss_one (ps_ret (pe_tup (pa_cons pe_str (pa_cons (pv 2) pa_nil))))) pss_nil)))
    (pss_one (ps_ret (pe_tup (pa_cons pe_str (pa_cons pe_int pa_nil)))))), ?_⟩
  refine ⟨_, rfl, x, k, rfl, hk, fun t1 H1 s1 ht1 => ⟨sz2, fun t2 ht2 => neW (q := noW) (by rw [upd_ne (ne_of_none ht1 ht2)]; exact ht1) upd_same (ok_row k) ok_no ⟨_, rfl, ?_⟩⟩⟩
  have s2 := s1.trans (same_new (o := .tup [.str "none", .int 0]) ht2)
  generalize upd H1 t2 (.tup [.str "none", .int 0]) = H2 at s2
  cases he : rowErr k with
  | some v =>
    have ew : rowW k = (("row" : Str), v) := by unfold rowW; rw [he]
    rw [ew, decide_eq_false (show ¬ ((("row" : Str), v) : Wd) = noW by intro z; exact absurd (show ("row" : Str) = "none" from congrArg Prod.fst z) (by decide +kernel))]
    refine iteT ⟨_, rfl, x, k, rfl, hk.ext (.of s2), fun t3 H3 s3 ht3 => ?_⟩
    rw [ew] at ht3
    exact h1 v he t3 H3 (s2.trans s3) ht3
  | none =>
    have ew : rowW k = noW := by unfold rowW; rw [he]
    rw [ew, decide_eq_true (rfl : noW = noW)]
    obtain ⟨xs, ex, hl, hkey⟩ := rowErr_none he
    obtain ⟨ns, rfl, _⟩ := keys_ints xs hkey
    obtain ⟨a, rfl, hq, _⟩ := hk.sq ex
    have hW := h2 he ns ex
    rw [List.length_map] at hl
    have hq2 := hq.ext (.of s2)
    refine iteF ⟨_, rfl, a, _, rfl, hq2, 1, _, rfl, ⟨by decide, by decide, by omega, by rw [List.length_map]; omega⟩, ?_⟩
    have en : ((((ns.map V.int).length : Nat) : Int) - 1).toNat = ns.length - 1 := by rw [List.length_map]; omega
    rw [en]
    have f1 : faultsI r ns 1 = [] := rfl
    refine forJ (n := ns.length - 1) (fun i σ H' => (∃ o2, σ = [some (V.ref a), some (V.int (r : Int)), o2]) ∧ Same H2 H' ∧ faultsI r ns (i + 1) = []) ⟨⟨_, rfl⟩, Same.refl _, f1⟩ (fun i σ H' hi _ => hi) (fun σ H' _ => Nat.le_refl _) ?_ ?_
    · rintro i σ H3 v H4 hi ⟨⟨o2, rfl⟩, s3, hf⟩ ⟨rfl, rfl⟩
      have hq3 := hq2.ext (.of s3)
      have ei : (1 : Int) + ((i : Nat) : Int) = ((i + 1 : Nat) : Int) := by omega
      rw [ei]
      have hp' := par_lt (r := r) (p := ((i + 1 : Nat) : Int)) r1 (by omega)
      obtain ⟨q, eq⟩ := Int.eq_ofNat_of_zero_le hp'.1
      have eq' : par r ((i + 1 : Nat) : Int) = ((q : Nat) : Int) := eq
      refine ⟨_, rfl, _, rfl, rIx_S hq3 (at_ints (i := i + 1) (by omega)) ⟨_, rfl, _, rfl, _, rfl, r, _, rfl, r1, r4, ?_⟩⟩
      rw [eq']
      refine rIx_S hq3 (at_ints (show q < ns.length by omega)) ⟨_, _, rfl, rfl, _, rfl, ?_⟩
      have ef : fB r ns (i + 1) = decide (ns.getD (i + 1) 0 < ns.getD q 0) := by
        unfold fB
        rw [eq', decide_eq_true (Nat.succ_pos i)]
        rfl
      rw [← ef]
      cases hb : fB r ns (i + 1) with
      | true =>
        obtain ⟨rest, er⟩ := faultsI_first hf hb ns.length (by omega)
        have ew2 : heapWI r ns = (("heap" : Str), V.int ((i + 1 : Nat) : Int)) := by unfold heapWI; rw [er]
        rw [ew2] at hW
        exact iteT ⟨_, rfl, sz2, hW.new (s2.trans s3)⟩
      | false =>
        refine iteF ⟨⟨_, rfl⟩, s3, ?_⟩
        rw [faultsI_succ, if_neg (by rw [hb]; exact Bool.false_ne_true)]
        exact hf
    · rintro σ H3 ⟨⟨o2, rfl⟩, s3, hf⟩
      have ew2 : heapWI r ns = noW := by
        have : faultsI r ns ns.length = [] := by
          cases ns with
          | nil => rfl
          | cons n ns => exact hf
        unfold heapWI
        rw [this]
      rw [ew2] at hW
      exact ⟨sz2, hW.new (s2.trans s3)⟩
theorem sc_law_first_word : FnScope ["words", "word"] ["words"] (defScope s_law_first_word) := ⟨rfl, rfl, rfl, by decide +kernel, rfl, by decide +kernel, by decide +kernel⟩
/-- words stand at ts -/
inductive WdsAt (H : Hp) : List Addr → List Wd → Prop
  | nil : WdsAt H [] []
  | cons {t : Addr} {p : Wd} {ts : List Addr} {ps : List Wd} (h : H t = some (.tup [.str p.1, p.2])) (ok : okW p = true) (r : WdsAt H ts ps) : WdsAt H (t :: ts) (p :: ps)
theorem WdsAt.len {H : Hp} {ts : List Addr} {ps : List Wd} (h : WdsAt H ts ps) : ts.length = ps.length := by
  induction h with
  | nil => rfl
  | cons _ _ _ ih => simp [ih]
theorem WdsAt.get {H : Hp} {ts : List Addr} {ps : List Wd} (h : WdsAt H ts ps) : ∀ (i : Nat) t, ts[i]? = some t → ∃ p, ps[i]? = some p ∧ H t = some (.tup [.str p.1, p.2]) ∧ okW p = true := by
  induction h with
  | nil => intro i t e; simp at e
  | cons h ok _ ih =>
    intro i t e
    cases i with
    | zero =>
      cases e
      exact ⟨_, rfl, h, ok⟩
    | succ i => exact ih i t e
theorem firstW_at : ∀ (ps : List Wd) (j : Nat) (p : Wd), ps[j]? = some p → p ≠ noW → (∀ j' < j, ps[j']? = some noW) → firstW ps = p
  | [], j, p, h, _, _ => by simp at h
  | q :: ps, 0, p, h, hp, _ => by
    cases h
    unfold firstW
    rw [if_neg hp]
  | q :: ps, j + 1, p, h, hp, ha => by
    have e := ha 0 (Nat.succ_pos j)
    cases e
    unfold firstW
    rw [if_pos rfl]
    exact firstW_at ps j p h hp fun j' hj' => ha (j' + 1) (by omega)
theorem firstW_no : ∀ (ps : List Wd), (∀ (j : Nat) p, ps[j]? = some p → p = noW) → firstW ps = noW
  | [], _ => rfl
  | q :: ps, h => by
    unfold firstW
    rw [if_pos (h 0 q rfl)]
    exact firstW_no ps fun j p e => h (j + 1) p e
def spFW (K : PySem.W.Frag) : Sp := fun vs H Q E => ∃ (l : Addr) (ts : List Addr) (ps : List Wd), vs = [V.ref l] ∧ H l = some (.lst (ts.map V.ref)) ∧ WdsAt H ts ps ∧ ts.length ≤ 10 ∧ Wq H (firstW ps) Q
theorem F_law_first_word (T : TX K mg base) : FnR Pr w K mg base (LC w) 1 (a_law_first_word K) (spFW K) := by
  obtain ⟨fd, F⟩ := T.f_law_first_word
  refine fnr_of (ps := ["words"]) (N := ["words", "word"]) F (fun _ _ _ _ _ _ us hl => match us, hl with | [_], _ => rfl) sc_law_first_word (fun vs H Q E h => by obtain ⟨l, ts, ps, rfl, _⟩ := h; rfl) fun cdv A outer s H vs Q E hr h => ?_
  obtain ⟨l, ts, ps, rfl, hl, hw, ll, hW⟩ := h
  refine ⟨_, pss_one (ps_ret (pe_ix ix_list (pe_op op_cat (pe_lc (own := [("word", 1)]) (g := gName 1) (tt := tTest (tOp (rNeD K) (tVar 1) (tTup (tCons (tC (.str "none")) (tCons (tC (.int 0)) tNil))))) rfl sc_law_first_word.nd (pi_list (pv 0))
      (blkOk_by (own := [("word", 1)]) (N := ["words", "word"]) (sc := defScope s_law_first_word) (by decide +kernel)) (fun _ _ _ _ _ => pg_name (i := 1) sc_law_first_word.nd rfl (Or.inl rfl))
      (fun _ _ _ _ _ => pts_one (pt_cmpR (op_neD hr.units) (pv 1) (pe_tup (pa_cons pe_str (pa_cons pe_int pa_nil))) (nomark _))) (fun _ _ _ _ _ => pv 1))
    (pe_lst (pa_cons (pe_tup (pa_cons pe_str (pa_cons pe_int pa_nil))) pa_nil))) pe_int (fun _ _ => rfl))), ?_⟩
  have p0 : sizeLine = 4 ^ 12 := sizeLine_eq
  refine ⟨_, rfl, l, rfl, ⟨_, SqL.of hl⟩, fun D hD => itL (xs := ts.map V.ref) (fun i H3 => Same H H3 ∧ ∃ us : List Addr, H3 D = some (.lst (us.map V.ref)) ∧ us.length ≤ i ∧ (us = [] → ∀ (j : Nat) p, j < i → ps[j]? = some p → p = noW) ∧
    (∀ u rest, us = u :: rest → ∃ (j : Nat) (p : Wd), H u = some (.tup [.str p.1, p.2]) ∧ ps[j]? = some p ∧ p ≠ noW ∧ ∀ j' < j, ps[j']? = some noW)) ⟨same_new hD, [], upd_same, by simp, (fun _ j p hj => absurd hj (Nat.not_lt_zero _)), fun u rest e => nomatch e⟩ (fun i H3 _ p => SqL.of (p.1 _ _ hl)) ?_ ?_⟩
  · rintro i x H3 hx ⟨s3, us, hus, lus, hn, hf⟩
    rw [List.getElem?_map] at hx
    obtain ⟨t, et, rfl⟩ := Option.map_eq_some_iff.mp hx
    obtain ⟨p, ep, hp, okp⟩ := hw.get i t et
    have hi : i < ts.length := (List.getElem?_eq_some_iff.mp et).1
    refine ⟨rfl, _, rfl, sz2, fun t2 ht2 => neW (q := noW) (by rw [upd_ne (ne_of_none (s3 _ _ hp) ht2)]; exact s3 _ _ hp) upd_same okp ok_no ⟨_, rfl, ?_⟩⟩
    have s4 := s3.trans (same_new (o := .tup [.str "none", .int 0]) ht2)
    have hus4 := (same_new (o := .tup [.str "none", .int 0]) ht2) _ _ hus
    generalize upd H3 t2 (.tup [.str "none", .int 0]) = H4 at s4 hus4
    by_cases e : p = noW
    · rw [decide_eq_true e]
      refine iteF ⟨s4, us, hus4, by omega, fun eu j q hj hq => ?_, hf⟩
      by_cases ej : j = i
      · rw [ej, ep] at hq
        cases hq
        exact e
      · exact hn eu j q (by omega) hq
    · rw [decide_eq_false e]
      refine iteT ⟨_, rfl, _, hus4, ?_, fun c o ec => ?_, us ++ [t], ?_, ?_, ?_, ?_⟩
      · rw [List.length_map, p0]
        omega
      · rw [upd_ne (fun z => by rw [z, hD] at ec; cases ec)]
        exact s4 _ _ ec
      · rw [upd_same, List.map_append]
        rfl
      · simp
        omega
      · intro z
        simp at z
      · intro u rest eu
        cases us with
        | nil =>
          cases eu
          refine ⟨i, p, hp, ep, e, fun j' hj' => ?_⟩
          have hl2 : j' < ps.length := by rw [← hw.len]; omega
          rw [List.getElem?_eq_getElem hl2]
          exact congrArg some (hn rfl j' _ hj' (List.getElem?_eq_getElem hl2))
        | cons u2 us2 =>
          cases eu
          exact hf u us2 rfl
  · rintro H3 ⟨s3, us, hus, lus, hn, hf⟩
    rw [List.length_map] at lus hn
    refine ⟨sz2, fun t2 ht2 => ⟨(by decide : 1 ≤ sizeLine), fun l2 hl2 => ?_⟩⟩
    have s4 := (same_new (o := .tup [.str "none", .int 0]) ht2)
    have s5 := (same_new (o := .lst [V.ref t2]) hl2)
    have ht25 := s5 _ _ (upd_same (H := H3) (a := t2) (o := .tup [.str "none", .int 0]))
    have hus5 := s5 _ _ (s4 _ _ hus)
    have s35 : Same H (upd (upd H3 t2 (.tup [.str "none", .int 0])) l2 (.lst [V.ref t2])) := s3.trans (s4.trans s5)
    have hl25 : upd (upd H3 t2 (.tup [.str "none", .int 0])) l2 (.lst [V.ref t2]) l2 = some (.lst [V.ref t2]) := upd_same
    generalize upd (upd H3 t2 (.tup [.str "none", .int 0])) l2 (.lst [V.ref t2]) = H5 at ht25 hus5 s35 hl25
    refine ⟨D, l2, _, _, rfl, rfl, hus5, hl25, ?_, fun l3 hl3 => ?_⟩
    · rw [List.length_map, p0]
      simp
      omega
    have s6 := s35.trans (same_new (o := .lst (us.map V.ref ++ [V.ref t2])) hl3)
    cases us with
    | nil =>
      have ew : firstW ps = noW := firstW_no ps fun j p ep => hn rfl j p (by rw [hw.len]; exact (List.getElem?_eq_some_iff.mp ep).1) ep
      rw [ew] at hW
      refine ⟨l3, _, (0 : Int), .ref t2, rfl, rfl, SqL.of upd_same, atI_nat (j := 0) rfl, ?_⟩
      exact hW t2 _ s6 ((same_new hl3) _ _ ht25)
    | cons u rest =>
      obtain ⟨j, p, hp, ep, np, ha⟩ := hf u rest rfl
      have ew : firstW ps = p := firstW_at ps j p ep np ha
      rw [ew] at hW
      refine ⟨l3, _, (0 : Int), .ref u, rfl, rfl, SqL.of upd_same, atI_nat (j := 0) rfl, ?_⟩
      exact hW u _ s6 (s6 _ _ hp)
end
end K7
/-! the law's odd values -/
namespace K7
open PySem PySem.Spec PyProof.Rows L2 He
open LamX (Tabs TabS TabB ExtN CodeO lamEnv)
theorem Kd.lw {K : PySem.W.Frag} {d sc : Addr} {ss : List Int} {H H' : Hp} {x : V} {k : KV} (h : Kd K H x k) (hd : DrawAt K H d sc ss) (b : ButN d H H') : Kd K H' x k := by
  obtain ⟨n, hn⟩ := hd.1
  cases h with
  | non => exact .non
  | bl b => exact .bl b
  | int n => exact .int n
  | str s => exact .str s
  | lst h f =>
    refine .lst (b _ _ (fun z => ?_) h fun ps z => nomatch z) f
    rw [z, hn] at h
    cases h
    cases f
  | tup h f => exact .tup (b.sqT hn h) f
  | dct h => exact .dct (b _ _ (ne_of h hn (by intro z; cases z)) h fun ps z => nomatch z)
def AllK (K : PySem.W.Frag) (H : Hp) (xs : List V) : Prop := ∀ x ∈ xs, ∃ k, Kd K H x k
theorem AllK.nil {K : PySem.W.Frag} {H : Hp} : AllK K H [] := fun x h => nomatch h
theorem AllK.cons {K : PySem.W.Frag} {H : Hp} {x : V} {xs : List V} {k : KV} (h : Kd K H x k) (r : AllK K H xs) : AllK K H (x :: xs) := fun y hy => by
  rcases List.mem_cons.mp hy with e | hy
  · rw [e]
    exact ⟨k, h⟩
  · exact r y hy
theorem AllK.app {K : PySem.W.Frag} {H : Hp} {xs ys : List V} (a : AllK K H xs) (b : AllK K H ys) : AllK K H (xs ++ ys) := fun y hy => (List.mem_append.mp hy).elim (a y) (b y)
theorem AllK.ext {K : PySem.W.Frag} {H H' : Hp} {xs : List V} (a : AllK K H xs) (s : Same H H') : AllK K H' xs := fun y hy => by
  obtain ⟨k, h⟩ := a y hy
  exact ⟨k, h.ext (.of s)⟩
section
variable {w : World} {K : PySem.W.Frag} {mg : Str → Option Value} {base : Heap}
theorem sc_law_odd : FnScope ["draw", "things"] ["draw"] (defScope s_law_odd) := ⟨rfl, rfl, rfl, by decide +kernel, rfl, by decide +kernel, by decide +kernel⟩
def spOdd (K : PySem.W.Frag) : Sp := fun vs H Q E => ∃ (d sc : Addr) (ss : List Int), vs = [V.ref d] ∧ DrawAt K H d sc ss ∧ ∀ x k H', Kd K H' x k → Lw K d H H' → DrawAt K H' d sc ss → Q x H'
theorem F_law_odd (T : TX K mg base) : FnR Pr w K mg base (LC w) 4 (a_law_odd K) (spOdd K) := by
  obtain ⟨fd, F⟩ := T.f_law_odd
  refine fnr_of (ps := ["draw"]) (N := ["draw", "things"]) F (fun _ _ _ _ _ _ us hl => match us, hl with | [_], _ => rfl) sc_law_odd (fun vs H Q E h => by obtain ⟨d, sc, ss, rfl, _⟩ := h; rfl) fun cdv A outer s H vs Q E hr h => ?_
  obtain ⟨d, sc, ss, rfl, hd, h1⟩ := h
  refine ⟨_, pss_cons (ps_set (i := 1) sc_law_odd.nd rfl (.inl rfl) (pe_lst (pa_cons pe_non (pa_cons pe_bl (pa_cons pe_bl (pa_cons pe_str (pa_cons pe_str (pa_cons (pe_tup pa_nil) (pa_cons (pe_lst pa_nil) (pa_cons pe_dnewK (pa_cons (pe_un un_neg pe_int) pa_nil)))))))))))
    (pss_cons (ps_set (i := 1) sc_law_odd.nd rfl (.inl rfl) (pe_op op_cat (pv 1) (pe_lst (pa_cons pe_int (pa_cons pe_int (pa_cons pe_int (pa_cons (pe_op op_pow pe_int pe_int) (pa_cons (pe_op op_add (pe_op op_pow pe_int pe_int) pe_int) (pa_cons (pe_op op_sub (pe_un un_neg (pe_op op_pow pe_int pe_int)) pe_int) (pa_cons (pe_op op_pow pe_int pe_int) (pa_cons (pe_tup (pa_cons pe_int pa_nil)) pa_nil)))))))))))
    (pss_one (ps_ret (pe_cl (F_law_pick T) hr rfl T.g_law_pick (kpF T.f_law_pick) pX (pa_cons (pv 0) (pa_cons (pe_op op_cat (pv 1) (pe_lst (pa_cons (pe_lst (pa_cons pe_int (pa_cons pe_non pa_nil))) (pa_cons (pe_lst (pa_cons pe_int (pa_cons pe_bl pa_nil))) (pa_cons (pe_tup (pa_cons pe_int (pa_cons (pe_op op_pow pe_int pe_int) pa_nil)))
      (pa_cons (pe_op op_rep (pe_lst (pa_cons pe_int pa_nil)) pe_int) (pa_cons (pe_lst (pa_cons pe_int (pa_cons pe_int pa_nil))) (pa_cons (pe_lst (pa_cons pe_int (pa_cons pe_int (pa_cons pe_int pa_nil)))) (pa_cons (pe_lst (pa_cons pe_str pa_nil)) (pa_cons (pe_disp (pps_cons pe_int pe_int pps_nil) (by rfl) (by rfl) (fun z => by cases z) (by decide)) pa_nil)))))))))) pa_nil)))))), ?_⟩
  have pw : CPow 10 9 := ⟨by decide, by decide, by decide⟩
  have pw10 : CPow 10 10 := ⟨by decide, by decide, by decide⟩
  have pw30 : CPow 10 30 := ⟨by decide, by decide, by decide⟩
  refine ⟨(by decide : 0 ≤ sizeLine), fun t0 ht0 => ⟨(by decide : 0 ≤ sizeLine), fun l0 hl0 => fun d0 hd0 => ⟨_, rfl, (by decide : 9 ≤ sizeLine), fun p hp => ?_⟩⟩⟩
  have a1 : AllK K (upd H t0 (.tup [])) [.ref t0] := .cons (.tup (SqT.of upd_same) rfl) .nil
  have a2 : AllK K (upd (upd H t0 (.tup [])) l0 (.lst [])) [.ref t0, .ref l0] := (a1.ext (same_new hl0)).app (.cons (.lst upd_same rfl) .nil)
  have a3 : AllK K (upd (upd (upd H t0 (.tup [])) l0 (.lst [])) d0 (.dK [])) [.ref t0, .ref l0, .ref d0] := (a2.ext (same_new hd0)).app (.cons (.dct upd_same) .nil)
  have s3 : Same H (upd (upd (upd H t0 (.tup [])) l0 (.lst [])) d0 (.dK [])) := (same_new ht0).trans ((same_new hl0).trans (same_new hd0))
  generalize upd (upd (upd H t0 (.tup [])) l0 (.lst [])) d0 (.dK []) = H3 at a3 s3 hp
  have s4 := s3.trans (same_new (o := .lst [.non, .bl true, .bl false, .str "", .str "2", .ref t0, .ref l0, .ref d0, .int (-1)]) hp)
  have a4 : AllK K (upd H3 p (.lst [.non, .bl true, .bl false, .str "", .str "2", .ref t0, .ref l0, .ref d0, .int (-1)])) [.non, .bl true, .bl false, .str "", .str "2", .ref t0, .ref l0, .ref d0, .int (-1)] :=
    .cons .non (.cons (.bl _) (.cons (.bl _) (.cons (.str _) (.cons (.str _) ((a3.ext (same_new hp)).app (.cons (.int _) .nil))))))
  have hp4 : upd H3 p (.lst [.non, .bl true, .bl false, .str "", .str "2", .ref t0, .ref l0, .ref d0, .int (-1)]) p = some (.lst [.non, .bl true, .bl false, .str "", .str "2", .ref t0, .ref l0, .ref d0, .int (-1)]) := upd_same
  have n1 : ([.non, .bl true, .bl false, .str "", .str "2", .ref t0, .ref l0, .ref d0, .int (-1)] : List V).length = 9 := rfl
  generalize upd H3 p (.lst [.non, .bl true, .bl false, .str "", .str "2", .ref t0, .ref l0, .ref d0, .int (-1)]) = H4 at s4 a4 hp4
  generalize ([.non, .bl true, .bl false, .str "", .str "2", .ref t0, .ref l0, .ref d0, .int (-1)] : List V) = x1 at a4 hp4 n1
  refine ⟨_, rfl, _, _, rfl, rfl, pw, _, _, rfl, rfl, pw, _, _, rfl, rfl, _, _, rfl, rfl, pw, _, rfl, _, _, rfl, rfl, _, _, rfl, rfl, pw30, (by decide : 1 ≤ sizeLine), fun t1 ht1 => ⟨(by decide : 8 ≤ sizeLine), fun p2 hp2 => ?_⟩⟩
  have b1 : Kd K (upd H4 t1 (.tup [.int 1])) (.ref t1) (.tup [.int 1]) := .tup (SqT.of upd_same) rfl
  have s5 := s4.trans (same_new (o := .tup [.int 1]) ht1)
  have a5 := a4.ext (same_new (o := .tup [.int 1]) ht1)
  have hp5 := (same_new (o := .tup [.int 1]) ht1) _ _ hp4
  generalize upd H4 t1 (.tup [.int 1]) = H5 at b1 s5 a5 hp5 hp2
  have q2 : ∀ v1 v2 v3 v4 : Int, AllK K (upd H5 p2 (.lst [.int 0, .int 5, .int 13, .int v1, .int v2, .int v3, .int v4, .ref t1])) [.int 0, .int 5, .int 13, .int v1, .int v2, .int v3, .int v4, .ref t1] := fun v1 v2 v3 v4 =>
    .cons (.int _) (.cons (.int _) (.cons (.int _) (.cons (.int _) (.cons (.int _) (.cons (.int _) (.cons (.int _) (.cons (b1.ext (.of (same_new hp2))) .nil)))))))
  have q3 := q2 ((10 : Int) ^ (9 : Int).toNat) ((10 : Int) ^ (9 : Int).toNat + 1) (-(10 : Int) ^ (9 : Int).toNat - 1) ((10 : Int) ^ (30 : Int).toNat)
  clear q2
  refine ⟨p, p2, x1, _, rfl, rfl, (same_new hp2) _ _ hp5, upd_same, ?_, fun p3 hp3 => ?_⟩
  · rw [n1]
    exact (by decide : 9 + 8 ≤ sizeLine)
  have s6 := s5.trans (same_new (o := .lst [.int 0, .int 5, .int 13, .int ((10 : Int) ^ (9 : Int).toNat), .int ((10 : Int) ^ (9 : Int).toNat + 1), .int (-(10 : Int) ^ (9 : Int).toNat - 1), .int ((10 : Int) ^ (30 : Int).toNat), .ref t1]) hp2)
  have a6 := (a5.ext (same_new hp2)).app q3
  have n2 : ([.int 0, .int 5, .int 13, .int ((10 : Int) ^ (9 : Int).toNat), .int ((10 : Int) ^ (9 : Int).toNat + 1), .int (-(10 : Int) ^ (9 : Int).toNat - 1), .int ((10 : Int) ^ (30 : Int).toNat), .ref t1] : List V).length = 8 := rfl
  dsimp only at hp3 ⊢
  generalize ([.int 0, .int 5, .int 13, .int ((10 : Int) ^ (9 : Int).toNat), .int ((10 : Int) ^ (9 : Int).toNat + 1), .int (-(10 : Int) ^ (9 : Int).toNat - 1), .int ((10 : Int) ^ (30 : Int).toNat), .ref t1] : List V) = x2 at hp3 s6 a6 n2 q3 ⊢
  generalize upd H5 p2 (.lst x2) = H6 at hp3 s6 a6 q3 ⊢
  have s7 := s6.trans (same_new (o := .lst (x1 ++ x2)) hp3)
  have a7 := a6.ext (same_new (o := .lst (x1 ++ x2)) hp3)
  have hp7 : upd H6 p3 (.lst (x1 ++ x2)) p3 = some (.lst (x1 ++ x2)) := upd_same
  have n7 : (x1 ++ x2).length = 17 := by rw [List.length_append, n1, n2]
  generalize upd H6 p3 (.lst (x1 ++ x2)) = H7 at s7 a7 hp7 ⊢
  generalize x1 ++ x2 = x7 at a7 hp7 n7
  refine ⟨_, rfl, _, rfl, (by decide : 2 ≤ sizeLine), fun c1 hc1 => ?_⟩
  have r0 : AllK K H7 [] := .nil
  have e1 := same_new (o := .lst [.int 1, .non]) hc1
  have r1 := (r0.ext e1).app (.cons (x := .ref c1) (.lst upd_same rfl) .nil)
  have s8 := s7.trans e1
  have a8 := a7.ext e1
  have hp8 := e1 _ _ hp7
  generalize upd H7 c1 (.lst [.int 1, .non]) = H8 at r1 s8 a8 hp8 ⊢
  refine ⟨(by decide : 2 ≤ sizeLine), fun c2 hc2 => ?_⟩
  have e2 := same_new (o := .lst [.int 1, .bl true]) hc2
  have r2 := (r1.ext e2).app (.cons (x := .ref c2) (.lst upd_same rfl) .nil)
  have s9 := s8.trans e2
  have a9 := a8.ext e2
  have hp9 := e2 _ _ hp8
  generalize upd H8 c2 (.lst [.int 1, .bl true]) = H9 at r2 s9 a9 hp9 ⊢
  refine ⟨_, _, rfl, rfl, pw10, (by decide : 2 ≤ sizeLine), fun c3 hc3 => ?_⟩
  dsimp only
  have e3 := same_new (o := .tup [.int 0, .int ((10 : Int) ^ (10 : Int).toNat)]) hc3
  have r3 := (r2.ext e3).app (.cons (x := .ref c3) (.tup (SqT.of upd_same) rfl) .nil)
  have s10 := s9.trans e3
  have a10 := a9.ext e3
  have hp10 := e3 _ _ hp9
  generalize upd H9 c3 (.tup [.int 0, .int ((10 : Int) ^ (10 : Int).toNat)]) = H10 at r3 s10 a10 hp10 ⊢
  refine ⟨(by decide : 1 ≤ sizeLine), fun c4 hc4 => ?_⟩
  have e4 := same_new (o := .lst [.int 0]) hc4
  have r4 := r3.ext e4
  have s11 := s10.trans e4
  have a11 := a10.ext e4
  have hp11 := e4 _ _ hp10
  have h4 : upd H10 c4 (.lst [.int 0]) c4 = some (.lst [.int 0]) := upd_same
  generalize upd H10 c4 (.lst [.int 0]) = H11 at r4 s11 a11 hp11 h4 ⊢
  refine ⟨c4, 13, _, rfl, rfl, h4, by decide, by decide, (by decide : 1 * 13 ≤ sizeLine), fun c5 hc5 => ?_⟩
  have e5 := same_new (o := .lst (List.replicate (13 : Int).toNat [V.int 0]).flatten) hc5
  have r5 := (r4.ext e5).app (.cons (x := .ref c5) (.lst upd_same (by decide)) .nil)
  have s12 := s11.trans e5
  have a12 := a11.ext e5
  have hp12 := e5 _ _ hp11
  generalize upd H11 c5 (.lst (List.replicate (13 : Int).toNat [V.int 0]).flatten) = H12 at r5 s12 a12 hp12 ⊢
  refine ⟨(by decide : 2 ≤ sizeLine), fun c6 hc6 => ?_⟩
  have e6 := same_new (o := .lst [.int 3, .int 1]) hc6
  have r6 := (r5.ext e6).app (.cons (x := .ref c6) (.lst upd_same rfl) .nil)
  have s13 := s12.trans e6
  have a13 := a12.ext e6
  have hp13 := e6 _ _ hp12
  generalize upd H12 c6 (.lst [.int 3, .int 1]) = H13 at r6 s13 a13 hp13 ⊢
  refine ⟨(by decide : 3 ≤ sizeLine), fun c7 hc7 => ?_⟩
  have e7 := same_new (o := .lst [.int 2, .int 2, .int 1]) hc7
  have r7 := (r6.ext e7).app (.cons (x := .ref c7) (.lst upd_same rfl) .nil)
  have s14 := s13.trans e7
  have a14 := a13.ext e7
  have hp14 := e7 _ _ hp13
  generalize upd H13 c7 (.lst [.int 2, .int 2, .int 1]) = H14 at r7 s14 a14 hp14 ⊢
  refine ⟨(by decide : 1 ≤ sizeLine), fun c8 hc8 => ?_⟩
  have e8 := same_new (o := .lst [.str "a"]) hc8
  have r8 := (r7.ext e8).app (.cons (x := .ref c8) (.lst upd_same rfl) .nil)
  have s15 := s14.trans e8
  have a15 := a14.ext e8
  have hp15 := e8 _ _ hp14
  generalize upd H14 c8 (.lst [.str "a"]) = H15 at r8 s15 a15 hp15 ⊢
  refine fun c9 hc9 => ⟨upd_same, [(Sum.inl 1, V.int 2)], rfl, by decide, ?_⟩
  have e9 : Same H15 (upd (upd H15 c9 (.dK [])) c9 (.dK (mergeK [] [(Sum.inl 1, V.int 2)]))) := fun b o e => by
    have n := ne_of_none e hc9
    rw [upd_ne n, upd_ne n]
    exact e
  have r9 := (r8.ext e9).app (.cons (x := .ref c9) (.dct upd_same) .nil)
  have s16 := s15.trans e9
  have a16 := a15.ext e9
  have hp16 := e9 _ _ hp15
  generalize upd (upd H15 c9 (.dK [])) c9 (.dK (mergeK [] [(Sum.inl 1, V.int 2)])) = H16 at r9 s16 a16 hp16 ⊢
  refine ⟨(by decide : 8 ≤ sizeLine), fun c10 hc10 => ?_⟩
  have r9' : AllK K H16 [.ref c1, .ref c2, .ref c3, .ref c5, .ref c6, .ref c7, .ref c8, .ref c9] := r9
  have e10 := same_new (o := .lst [.ref c1, .ref c2, .ref c3, .ref c5, .ref c6, .ref c7, .ref c8, .ref c9]) hc10
  have h10 : upd H16 c10 (.lst [.ref c1, .ref c2, .ref c3, .ref c5, .ref c6, .ref c7, .ref c8, .ref c9]) c10 = some (.lst [.ref c1, .ref c2, .ref c3, .ref c5, .ref c6, .ref c7, .ref c8, .ref c9]) := upd_same
  have r10 := r9'.ext e10
  have s17 := s16.trans e10
  have a17 := a16.ext e10
  have hp17 := e10 _ _ hp16
  have n10 : ([.ref c1, .ref c2, .ref c3, .ref c5, .ref c6, .ref c7, .ref c8, .ref c9] : List V).length = 8 := rfl
  generalize upd H16 c10 (.lst [.ref c1, .ref c2, .ref c3, .ref c5, .ref c6, .ref c7, .ref c8, .ref c9]) = H17 at h10 r10 s17 a17 hp17 ⊢
  generalize ([.ref c1, .ref c2, .ref c3, .ref c5, .ref c6, .ref c7, .ref c8, .ref c9] : List V) = x10 at h10 r10 n10
  refine ⟨p3, c10, x7, x10, rfl, rfl, hp17, h10, ?_, fun q hq => ?_⟩
  · rw [n7, n10]
    exact (by decide : 17 + 8 ≤ sizeLine)
  have e11 := same_new (o := .lst (x7 ++ x10)) hq
  have s18 := s17.trans e11
  have a18 := (a17.app r10).ext e11
  have hd18 := hd.same (.of s18)
  refine ⟨d, sc, q, ss, x7 ++ x10, rfl, hd18, upd_same, ?_, ?_, fun x H19 hx lw hd19 => ?_⟩
  · obtain ⟨n, hn⟩ := hd.1
    exact Ne.symm (ne_of_none (s17 _ _ hn) hq)
  · intro z
    have := congrArg List.length z
    rw [List.length_append, n7] at this
    simp at this
  · obtain ⟨k, hk⟩ := a18 x hx
    exact h1 x k H19 (hk.lw hd18 lw.1) ((Lw.of s18).trans lw) hd19
end
end K7
/-! what is told of a door -/
namespace K7
open PySem PySem.Spec PyProof.Rows L2 He
open LamX (Tabs TabS TabB ExtN CodeO lamEnv)
/-- the wish of an error that a door lets out -/
def EQ (K : PySem.W.Frag) (Q : VK) : XK := fun cls d H' => ∃ w v, ErrW K cls d H' w v ∧ Told H' w v Q
/-- a word comes back, where lambdas may be made -/
def Rs (K : PySem.W.Frag) (H : Hp) (p : Wd) (Q : VK) : Prop := ∀ t H', ExtN H H' → Tabs (TT K) H' → H' t = some (.tup [.str p.1, p.2]) → Q (.ref t) H'
section
variable {K : PySem.W.Frag} {H : Hp} {Q : VK} {p : Wd}
theorem Rs.told {w : Str} {v : V} (h : Rs K H (w, v) Q) {H1 : Hp} (e : ExtN H H1) (tT : Tabs (TT K) H1) : Told H1 w v Q := fun t H' s _ ht => h t H' (e.trans (.of s)) (tT.ext s) ht
theorem Rs.fine (h : Rs K H noW Q) {H1 : Hp} (e : ExtN H H1) (tT : Tabs (TT K) H1) : TNone H1 Q := told_none (h.told e tT)
theorem Rs.ext {H1 : Hp} (h : Rs K H p Q) (e : ExtN H H1) : Rs K H1 p Q := fun t H' e' tT ht => h t H' (e.trans e') tT ht
theorem Rs.wide (h : Rs K H (("wide" : Str), .int 0) Q) (tT : Tabs (TT K) H) : ∀ H', Same H H' → EQ K Q (.ref (a_BadArms K)) none H' := fun H' s => ⟨_, _, .wide, h.told (.of s) (tT.ext s)⟩
theorem Rs.many (h : Rs K H (("many" : Str), .int 0) Q) (tT : Tabs (TT K) H) : ∀ H', Same H H' → EQ K Q (.ref (a_BadMany K)) none H' := fun H' s => ⟨_, _, .many, h.told (.of s) (tT.ext s)⟩
theorem Rs.place (h : Rs K H (("place" : Str), .int 0) Q) (tT : Tabs (TT K) H) : ∀ H', Same H H' → EQ K Q (.ref (a_BadPlace K)) none H' := fun H' s => ⟨_, _, .place, h.told (.of s) (tT.ext s)⟩
theorem Rs.key (h : Rs K H (("key" : Str), .int 0) Q) (tT : Tabs (TT K) H) : ∀ H', Same H H' → EQ K Q (.ref (a_BadKey K)) none H' := fun H' s => ⟨_, _, .key, h.told (.of s) (tT.ext s)⟩
theorem Rs.empty (h : Rs K H (("empty" : Str), .int 0) Q) (tT : Tabs (TT K) H) : ∀ H', Same H H' → EQ K Q (.ref (a_Empty K)) none H' := fun H' s => ⟨_, _, .empty, h.told (.of s) (tT.ext s)⟩
theorem Rs.full (h : Rs K H (("full" : Str), .int 0) Q) (tT : Tabs (TT K) H) : ∀ H', Same H H' → EQ K Q (.ref (a_Full K)) none H' := fun H' s => ⟨_, _, .full, h.told (.of s) (tT.ext s)⟩
theorem Rs.row {v : V} (h : Rs K H (("row" : Str), v) Q) (tT : Tabs (TT K) H) : ∀ H' d, Same H H' → H' d = some (.xd [("index", v)]) → EQ K Q (.ref (a_BadRow K)) (some d) H' := fun H' d s hd => ⟨_, _, .row hd, h.told (.of s) (tT.ext s)⟩
theorem Rs.heap {v : V} (h : Rs K H (("heap" : Str), v) Q) (tT : Tabs (TT K) H) : ∀ H' d, Same H H' → H' d = some (.xd [("place", v)]) → EQ K Q (.ref (a_NotHeap K)) (some d) H' := fun H' d s hd => ⟨_, _, .heap hd, h.told (.of s) (tT.ext s)⟩
end
/-! ### the doors' words -/
def manyW (k : KV) : Wd := if isN k 0 12 = true then noW else (("many" : Str), .int 0)
def keyW (k : KV) : Wd := if isKey k = true then noW else (("key" : Str), .int 0)
theorem ne_wide : ((("wide" : Str), V.int 0) : Wd) ≠ noW := fun z => absurd (show ("wide" : Str) = "none" from congrArg Prod.fst z) (by decide +kernel)
theorem ne_many : ((("many" : Str), V.int 0) : Wd) ≠ noW := fun z => absurd (show ("many" : Str) = "none" from congrArg Prod.fst z) (by decide +kernel)
theorem ne_place : ((("place" : Str), V.int 0) : Wd) ≠ noW := fun z => absurd (show ("place" : Str) = "none" from congrArg Prod.fst z) (by decide +kernel)
theorem ne_key : ((("key" : Str), V.int 0) : Wd) ≠ noW := fun z => absurd (show ("key" : Str) = "none" from congrArg Prod.fst z) (by decide +kernel)
theorem ne_row {v : V} : ((("row" : Str), v) : Wd) ≠ noW := fun z => absurd (show ("row" : Str) = "none" from congrArg Prod.fst z) (by decide +kernel)
theorem ne_heap {v : V} : ((("heap" : Str), v) : Wd) ≠ noW := fun z => absurd (show ("heap" : Str) = "none" from congrArg Prod.fst z) (by decide +kernel)
theorem ne_full : ((("full" : Str), V.int 0) : Wd) ≠ noW := fun z => absurd (show ("full" : Str) = "none" from congrArg Prod.fst z) (by decide +kernel)
theorem ne_empty : ((("empty" : Str), V.int 0) : Wd) ≠ noW := fun z => absurd (show ("empty" : Str) = "none" from congrArg Prod.fst z) (by decide +kernel)
theorem armsW_t {k : KV} (h : isN k 1 4 = true) : armsW k = noW := if_pos h
theorem armsW_f {k : KV} (h : isN k 1 4 = false) : armsW k = (("wide" : Str), .int 0) := if_neg (by rw [h]; exact Bool.false_ne_true)
theorem manyW_t {k : KV} (h : isN k 0 12 = true) : manyW k = noW := if_pos h
theorem manyW_f {k : KV} (h : isN k 0 12 = false) : manyW k = (("many" : Str), .int 0) := if_neg (by rw [h]; exact Bool.false_ne_true)
theorem keyW_t {k : KV} (h : isKey k = true) : keyW k = noW := if_pos h
theorem keyW_f {k : KV} (h : isKey k = false) : keyW k = (("key" : Str), .int 0) := if_neg (by rw [h]; exact Bool.false_ne_true)
theorem rowW_s {k : KV} {v : V} (h : rowErr k = some v) : rowW k = (("row" : Str), v) := by unfold rowW; rw [h]
theorem rowW_n {k : KV} (h : rowErr k = none) : rowW k = noW := by unfold rowW; rw [h]
theorem first_in {p : Wd} {ps : List Wd} (h : p ≠ noW) : firstW (p :: ps) = p := by unfold firstW; rw [if_neg h]
theorem first_no {ps : List Wd} : firstW (noW :: ps) = firstW ps := by
  show (if noW = noW then firstW ps else noW) = firstW ps
  rw [if_pos rfl]
theorem ok_many (k : KV) : okW (manyW k) = true := by
  cases h : isN k 0 12 with
  | true => rw [manyW_t h]; exact ok_no
  | false => rw [manyW_f h]; decide +kernel
theorem ok_key (k : KV) : okW (keyW k) = true := by
  cases h : isKey k with
  | true => rw [keyW_t h]; exact ok_no
  | false => rw [keyW_f h]; decide +kernel
section
variable {K : PySem.W.Frag} {H : Hp} {Q : VK}
/-- making a Tree is told -/
theorem told_mk {x y : V} {kx ky : KV} (hx : Kd K H x kx) (hy : Kd K H y ky) (tT : Tabs (TT K) H) (h : Rs K H (firstW [armsW ky, manyW kx]) Q) : spMkTree K x y H (fun _ H' => TNone H' Q) (EQ K Q) := by
  refine ⟨kx, ky, hx, hy, fun e => ?_, fun e1 e2 => ?_, fun e1 e2 m r em er a H' s t => ?_⟩
  · rw [armsW_f e, first_in ne_wide] at h
    exact h.wide tT
  · rw [armsW_t e1, manyW_f e2, first_no, first_in ne_many] at h
    exact h.many tT
  · rw [armsW_t e1, manyW_t e2, first_no, first_no] at h
    exact Rs.fine h (.of s) (tT.ext s)
theorem told_preR {kx ky : KV} {ps : List Wd} (tT : Tabs (TT K) H) (h : Rs K H (firstW (armsW ky :: rowW kx :: ps)) Q) : preR K kx ky H (EQ K Q) := by
  refine ⟨fun e => ?_, fun e v ev => ?_⟩
  · rw [armsW_f e, first_in ne_wide] at h
    exact h.wide tT
  · rw [armsW_t e, rowW_s ev, first_no, first_in ne_row] at h
    exact h.row tT
theorem rowOk_pre {kx ky : KV} {ns : List Int} {r : Nat} (R : RowOk kx ky ns r) : isN ky 1 4 = true ∧ rowErr kx = none := by
  constructor
  · rw [R.arm]
    have h1 := R.r1
    have h4 := R.r4
    simp [isN]
    omega
  · unfold rowErr
    rw [R.row]
    dsimp only
    rw [if_neg (by rw [List.length_map]; have := R.len; omega), List.findIdx?_eq_none_iff.mpr ?_]
    · rfl
    · intro x hx
      obtain ⟨n, hn, rfl⟩ := List.mem_map.mp hx
      have := R.key n hn
      simp [isKV]
      omega
theorem told_rows {kx ky : KV} {ns : List Int} {r : Nat} {ps : List Wd} (R : RowOk kx ky ns r) (h : Rs K H (firstW (armsW ky :: rowW kx :: ps)) Q) : Rs K H (firstW ps) Q := by
  obtain ⟨e1, e2⟩ := rowOk_pre R
  rw [armsW_t e1, rowW_n e2, first_no, first_no] at h
  exact h
end
section
variable {X : Cx} {A : Around} {outer : List Env} {s : Shared} {H : Hp} {E : XK} {scope : Scope} {a : Str} {f c' : Addr}
theorem pLam : Passes (L2.CX X.prog X.w) (lamCx1 X A outer s H E scope a f c') E := passes_call (takes_of rfl rfl rfl rfl) fun _ _ _ _ h => h
end
end K7
/-! trees are refused as they should be -/
namespace K7
open PySem PySem.Spec PyProof.Rows L2 He
open LamX (Tabs TabS TabB ExtN CodeO lamEnv)
theorem tTT_by {K : PySem.W.Frag} {tl : XK → Hp → VK → Prop} {H : Hp} {Q : VK} (p : Wd) (h1 : ∀ Q', Rs K H p Q' → tTT K tl H Q') (h2 : Rs K H p Q) : tTT K tl H Q := h1 Q h2
/-- the word of a place -/
def pW (k : KV) (m : Int) : Wd := if isN k 0 (m - 1) = true then noW else (("place" : Str), .int 0)
theorem pW_t {k : KV} {m : Int} (h : isN k 0 (m - 1) = true) : pW k m = noW := if_pos h
theorem pW_f {k : KV} {m : Int} (h : isN k 0 (m - 1) = false) : pW k m = (("place" : Str), .int 0) := if_neg (by rw [h]; exact Bool.false_ne_true)
theorem ok_pW (k : KV) (m : Int) : okW (pW k m) = true := by
  cases h : isN k 0 (m - 1) with
  | true => rw [pW_t h]; exact ok_no
  | false => rw [pW_f h]; decide +kernel
theorem pW_fine {K : PySem.W.Frag} {H : Hp} {Q : VK} {k : KV} {m : Int} {n : Int} (h : Rs K H (pW k m) Q) (e : k = .int n) (n0 : 0 ≤ n) (nm : n < m) {H' : Hp} (s : Same H H') (tT : Tabs (TT K) H) : TNone H' Q := by
  subst e
  rw [pW_t (by simp [isN]; omega)] at h
  exact h.fine (.of s) (tT.ext s)
theorem pW_bad {K : PySem.W.Frag} {H : Hp} {Q : VK} {k : KV} {m : Int} (h : Rs K H (pW k m) Q) (tT : Tabs (TT K) H) (e : isN k 0 (m - 1) = false) : ∃ w v, ErrW K (.ref (a_BadPlace K)) none H w v ∧ Told H w v Q := by
  rw [pW_f e] at h
  exact h.place tT H (Same.refl H)
theorem rd_ifw {c : Bool} {σ : L2.St} {H : Hp} {Q : VK} {a b : Str} {v u : V} (p : Wd) (hp : p = if c = true then (a, v) else (b, u)) (h : ∀ t, H t = none → Q (.ref t) (upd H t (.tup [.str p.1, p.2]))) :
    if c = true then tTup (tCons (tC (.str a)) (tCons (tC v) tNil)) σ H Q else tTup (tCons (tC (.str b)) (tCons (tC u) tNil)) σ H Q := by
  subst hp
  cases c with
  | true => exact iteT ⟨sz2, fun t ht => h t ht⟩
  | false => exact iteF ⟨sz2, fun t ht => h t ht⟩
theorem first2_no {p q : Wd} (h : firstW [p, q] = noW) : p = noW ∧ q = noW := by
  by_cases e : p = noW
  · rw [e, first_no] at h
    by_cases e2 : q = noW
    · exact ⟨e, e2⟩
    · rw [first_in e2] at h
      exact absurd h e2
  · rw [first_in e] at h
    exact absurd h e
theorem armsW_i {k : KV} (h : armsW k = noW) : isN k 1 4 = true := by
  cases e : isN k 1 4 with
  | true => rfl
  | false => rw [armsW_f e] at h; exact absurd h ne_wide
theorem manyW_i {k : KV} (h : manyW k = noW) : isN k 0 12 = true := by
  cases e : isN k 0 12 with
  | true => rfl
  | false => rw [manyW_f e] at h; exact absurd h ne_many
/-- n words p in a list -/
def FoundAt (H : Hp) (l : Addr) (p : Wd) (n : Nat) : Prop := ∃ ts : List Addr, H l = some (.lst (ts.map V.ref)) ∧ ts.length = n ∧ ∀ t ∈ ts, H t = some (.tup [.str p.1, p.2])
theorem FoundAt.ext {H H' : Hp} {l : Addr} {p : Wd} {n : Nat} (f : FoundAt H l p n) (e : ExtN H H') : FoundAt H' l p n := by
  obtain ⟨ts, h1, h2, h3⟩ := f
  exact ⟨ts, e _ _ h1 (fun ps z => nomatch z), h2, fun t ht => e _ _ (h3 t ht) fun ps z => nomatch z⟩
section
variable {w : World} {K : PySem.W.Frag} {mg : Str → Option Value} {base : Heap}
theorem sc_law_trees_right : FnScope ["many", "wide", "place", "good", "tree", "due", "found", "word"] ["many", "wide", "place"] (defScope s_law_trees_right) := ⟨rfl, rfl, rfl, by decide +kernel, rfl, by decide +kernel, by decide +kernel⟩
/-- the law's own check is passed -/
def spRight (K : PySem.W.Frag) : Sp := fun vs H Q E => ∃ x y z kx ky kz, vs = [x, y, z] ∧ Kd K H x kx ∧ Kd K H y ky ∧ Kd K H z kz ∧ Tabs (TT K) H ∧ ∀ H', ExtN H H' → Tabs (TT K) H' → Q (.bl true) H'
theorem F_law_trees_right (T : TX K mg base) : FnR Pr w K mg base (LC w) 16 (a_law_trees_right K) (spRight K) := by
  obtain ⟨fd, F⟩ := T.f_law_trees_right
  refine fnr_ofC (p := ("_law_trees_right", none)) (ps := ["many", "wide", "place"]) (N := ["many", "wide", "place", "good", "tree", "due", "found", "word"]) F rfl (fun _ _ _ _ _ _ us hl => match us, hl with | [_, _, _], _ => rfl) sc_law_trees_right (fun vs H Q E h => by obtain ⟨x, y, z, kx, ky, kz, rfl, _⟩ := h; rfl) fun cdv A outer s H vs Q E hc hr h => ?_
  obtain ⟨x, y, z, kx, ky, kz, rfl, hx, hy, hz, hT, h1⟩ := h
  have mem : (("_law_trees_right", none) : He.Defn) ∈ tf := by decide
  refine ⟨_, pss_cons (ps_set (i := 3) sc_law_trees_right.nd rfl (.inl rfl) (pe_ifExp (pt_val (pe_cl (F_law_is_number T) (hr.mono (by decide)) rfl T.g_law_is_number (kpF T.f_law_is_number) pX (pa_cons (pv 0) (pa_cons pe_int (pa_cons pe_int pa_nil))))) (pe_tup (pa_cons pe_str (pa_cons pe_int pa_nil))) (pe_tup (pa_cons pe_str (pa_cons pe_int pa_nil)))))
    (pss_cons (ps_if (pt_cmpR (op_neD hr.units) (pe_told (TT := TT K) (a := "ka") (k := 12) (t := fun E => tMakeK (a_Tree K) 1 1 (spTreeInit K) (fun vs zs => vs ++ zs) E (tCons (tVar 0) tNil) (tCons (tVar 1) tNil)) T rfl (T.tab _ mem) hc (tt_m mem) (tt_u T.tabs_nd mem) (hr.mono (by decide)) (lam1_by (N := ["many", "wide", "place", "good", "tree", "due", "found", "word"]) (sc := defScope s_law_trees_right) (by decide +kernel)) rfl (fun _ _ _ _ _ _ => rfl) (fun A outer s H E f c' hr' => (pe_mkTree rfl T (hr'.mono (by decide)) rfl pLam (pa_cons (pv 0) pa_nil) (pk_cons (pv 1) pk_nil)))) (pe_cl (F_law_first_word T) (hr.mono (by decide)) rfl T.g_law_first_word (kpF T.f_law_first_word) pX (pa_cons (pe_lst (pa_cons (pe_cl (F_law_arms_word T) (hr.mono (by decide)) rfl T.g_law_arms_word (kpF T.f_law_arms_word) pX (pa_cons (pv 1) pa_nil)) (pa_cons (pv 3) pa_nil))) pa_nil)) (nomark _)) (pss_one (ps_ret pe_bl)) pss_nil)
    (pss_cons (ps_if (pt_cmpR (op_neD hr.units) (pe_cl (F_law_first_word T) (hr.mono (by decide)) rfl T.g_law_first_word (kpF T.f_law_first_word) pX (pa_cons (pe_lst (pa_cons (pe_cl (F_law_arms_word T) (hr.mono (by decide)) rfl T.g_law_arms_word (kpF T.f_law_arms_word) pX (pa_cons (pv 1) pa_nil)) (pa_cons (pv 3) pa_nil))) pa_nil)) (pe_tup (pa_cons pe_str (pa_cons pe_int pa_nil))) (nomark _)) (pss_one (ps_ret pe_bl)) pss_nil)
    (pss_cons (ps_asg (pe_tup (pa_cons (pe_mkTree rfl T (hr.mono (by decide)) rfl pX (pa_cons (pv 0) pa_nil) (pk_cons (pv 1) pk_nil)) (pa_cons (pe_ifExp (pt_val (pe_cl (F_law_is_number T) (hr.mono (by decide)) rfl T.g_law_is_number (kpF T.f_law_is_number) pX (pa_cons (pv 2) (pa_cons pe_int (pa_cons (pe_op op_sub (pv 0) pe_int) pa_nil))))) (pe_tup (pa_cons pe_str (pa_cons pe_int pa_nil))) (pe_tup (pa_cons pe_str (pa_cons pe_int pa_nil)))) pa_nil))) (pg_tup rfl (pgs_cons (pg_name (i := 4) sc_law_trees_right.nd rfl (.inr rfl)) (pgs_cons (pg_name (i := 5) sc_law_trees_right.nd rfl (.inr rfl)) pgs_nil))))
    (pss_cons (ps_set (i := 6) sc_law_trees_right.nd rfl (.inl rfl) (pe_lst (pa_cons (pe_told (TT := TT K) (a := "ka") (k := 12) (t := fun E => tOp (rIxOwn (a_Tree K) (spGet K) E) (tVar 4) (tVar 2)) T rfl (T.tab _ mem) hc (tt_m mem) (tt_u T.tabs_nd mem) (hr.mono (by decide)) (lam1_by (N := ["many", "wide", "place", "good", "tree", "due", "found", "word"]) (sc := defScope s_law_trees_right) (by decide +kernel)) rfl (fun _ _ _ _ _ _ => rfl) (fun A outer s H E f c' hr' => pe_ixOwn T.d_getitem T.dn_getitem T.df_getitem (F_getitem T) (hr'.mono (by decide)) pLam (pv 4) (pv 2))) (pa_cons (pe_told (TT := TT K) (a := "kb") (k := 12) (t := fun E => SlX.tMethSl (a_Tree K) (spPar K) E (tVar 4) (tCons (tVar 2) tNil)) T rfl (T.tab _ mem) hc (tt_m mem) (tt_u T.tabs_nd mem) (hr.mono (by decide)) (lam1_by (N := ["many", "wide", "place", "good", "tree", "due", "found", "word"]) (sc := defScope s_law_trees_right) (by decide +kernel)) rfl (fun _ _ _ _ _ _ => rfl) (fun A outer s H E f c' hr' => SlX.pe_methSl (pv 4) T.c_Tree T.t_parent (F_parent T) (hr'.mono (by decide)) pLam (pa_cons (pv 2) pa_nil))) pa_nil))))
    (pss_cons (ps_set (i := 6) sc_law_trees_right.nd rfl (.inl rfl) (pe_op op_cat (pv 6) (pe_lst (pa_cons (pe_told (TT := TT K) (a := "ka") (k := 12) (t := fun E => SlX.tMethSl (a_Tree K) (spWay K) E (tVar 4) (tCons (tVar 2) tNil)) T rfl (T.tab _ mem) hc (tt_m mem) (tt_u T.tabs_nd mem) (hr.mono (by decide)) (lam1_by (N := ["many", "wide", "place", "good", "tree", "due", "found", "word"]) (sc := defScope s_law_trees_right) (by decide +kernel)) rfl (fun _ _ _ _ _ _ => rfl) (fun A outer s H E f c' hr' => SlX.pe_methSl (pv 4) T.c_Tree T.t_way_to (F_way_to T) (hr'.mono (by decide)) pLam (pa_cons (pv 2) pa_nil))) pa_nil))))
    (pss_cons (ps_set (i := 6) sc_law_trees_right.nd rfl (.inl rfl) (pe_op op_cat (pv 6) (pe_lst (pa_cons (pe_told (TT := TT K) (a := "kb") (k := 12) (t := fun E => SlX.tMethSl (a_Tree K) (spI K) E (tVar 4) (tCons (tVar 2) tNil)) T rfl (T.tab _ mem) hc (tt_m mem) (tt_u T.tabs_nd mem) (hr.mono (by decide)) (lam1_by (N := ["many", "wide", "place", "good", "tree", "due", "found", "word"]) (sc := defScope s_law_trees_right) (by decide +kernel)) rfl (fun _ _ _ _ _ _ => rfl) (fun A outer s H E f c' hr' => SlX.pe_methSl (pv 4) T.c_Tree T.t_depth (F_depth T) (hr'.mono (by decide)) pLam (pa_cons (pv 2) pa_nil))) pa_nil))))
    (pss_cons (ps_set (i := 6) sc_law_trees_right.nd rfl (.inl rfl) (pe_op op_cat (pv 6) (pe_lst (pa_cons (pe_told (TT := TT K) (a := "ka") (k := 12) (t := fun E => SlX.tMethSl (a_Tree K) (spI K) E (tVar 4) (tCons (tVar 2) tNil)) T rfl (T.tab _ mem) hc (tt_m mem) (tt_u T.tabs_nd mem) (hr.mono (by decide)) (lam1_by (N := ["many", "wide", "place", "good", "tree", "due", "found", "word"]) (sc := defScope s_law_trees_right) (by decide +kernel)) rfl (fun _ _ _ _ _ _ => rfl) (fun A outer s H E f c' hr' => SlX.pe_methSl (pv 4) T.c_Tree T.t_size (F_size T) (hr'.mono (by decide)) pLam (pa_cons (pv 2) pa_nil))) pa_nil))))
    (pss_cons (ps_set (i := 6) sc_law_trees_right.nd rfl (.inl rfl) (pe_op op_cat (pv 6) (pe_lst (pa_cons (pe_told (TT := TT K) (a := "kb") (k := 12) (t := fun E => SlX.tMethSl (a_Tree K) (spI K) E (tVar 4) (tCons (tVar 2) tNil)) T rfl (T.tab _ mem) hc (tt_m mem) (tt_u T.tabs_nd mem) (hr.mono (by decide)) (lam1_by (N := ["many", "wide", "place", "good", "tree", "due", "found", "word"]) (sc := defScope s_law_trees_right) (by decide +kernel)) rfl (fun _ _ _ _ _ _ => rfl) (fun A outer s H E f c' hr' => SlX.pe_methSl (pv 4) T.c_Tree T.t_height (F_height T) (hr'.mono (by decide)) pLam (pa_cons (pv 2) pa_nil))) pa_nil))))
    (pss_one (ps_ret (pe_callB (cr_all rfl) rfl T.n_all (by decide +kernel) (pa_cons (pe_lc (own := [("word", 7)]) (g := gName 7) (tt := tYes) (te := tOp (rEqD K) (tVar 7) (tVar 5)) rfl sc_law_trees_right.nd (pi_list (pe_op op_cat (pv 6) (pe_lst (pa_cons (pe_told (TT := TT K) (a := "ka") (k := 12) (t := fun E => SlX.tMethSl (a_Tree K) (spSub K) E (tVar 4) (tCons (tVar 2) tNil)) T rfl (T.tab _ mem) hc (tt_m mem) (tt_u T.tabs_nd mem) (hr.mono (by decide)) (lam1_by (N := ["many", "wide", "place", "good", "tree", "due", "found", "word"]) (sc := defScope s_law_trees_right) (by decide +kernel)) rfl (fun _ _ _ _ _ _ => rfl) (fun A outer s H E f c' hr' => SlX.pe_methSl (pv 4) T.c_Tree T.t_subtree (F_subtree T) (hr'.mono (by decide)) pLam (pa_cons (pv 2) pa_nil))) pa_nil)))) (blkOk_by (own := [("word", 7)]) (N := ["many", "wide", "place", "good", "tree", "due", "found", "word"]) (sc := defScope s_law_trees_right) (by decide +kernel)) (fun _ _ _ _ _ => pg_name (i := 7) sc_law_trees_right.nd rfl (Or.inl rfl)) (fun _ _ _ _ _ => pts_nil) (fun _ _ _ _ _ => pe_cmpR (op_eqD hr.units) (pv 7) (pv 5) (nomark _))) pa_nil)))))))))))), ?_⟩
  refine ⟨_, rfl, x, kx, 0, 12, rfl, hx, _, rfl, rd_ifw (manyW kx) rfl fun g hg => ?_⟩
  have s1 := same_new (o := .tup [.str (manyW kx).1, (manyW kx).2]) hg
  have wg : upd H g (.tup [.str (manyW kx).1, (manyW kx).2]) g = some (.tup [.str (manyW kx).1, (manyW kx).2]) := upd_same
  generalize upd H g (.tup [.str (manyW kx).1, (manyW kx).2]) = H1 at s1 wg ⊢
  have eA : ExtN H H1 := .of s1
  have hx1 := hx.ext eA
  have hy1 := hy.ext eA
  have hz1 := hz.ext eA
  have T1 := hT.ext s1
  refine ⟨T1, fun H2 e2 T2 => tTT_by (firstW [armsW ky, manyW kx]) (fun Q' h => ?_) fun t1 H3 e3 T3 w1 => ?_⟩
  · exact ⟨_, rfl, _, rfl, rfl, rfl, fun a dx ha hd nd => mkTree_ok (told_mk (Q := Q') (hx1.ext e2) (hy1.ext e2) T2 h) a dx ha hd nd⟩
  have wg3 := e3 _ _ (e2 _ _ wg fun ps z => nomatch z) fun ps z => nomatch z
  have e13 := e2.trans e3
  refine ⟨_, rfl, y, ky, rfl, hy1.ext e13, fun ta H4 s4 wa => ⟨_, rfl, sz2, fun l hl => ⟨l, [ta, g], [armsW ky, manyW kx], rfl, upd_same, .cons ((same_new hl) _ _ wa) (ok_arms ky) (.cons ((same_new hl) _ _ (s4 _ _ wg3)) (ok_many kx) .nil), by simp, fun t2 H5 s5 w2 => ?_⟩⟩⟩
  have ok2 : okW (firstW [armsW ky, manyW kx]) = true := ok_first _ fun p hp => by
    simp only [List.mem_cons, List.not_mem_nil, or_false] at hp
    rcases hp with e | e <;> rw [e]
    · exact ok_arms ky
    · exact ok_many kx
  have s35 : Same H3 H5 := s4.trans ((same_new hl).trans s5)
  refine neW (s35 _ _ w1) w2 ok2 ok2 ⟨_, rfl, ?_⟩
  rw [decide_eq_true (rfl : firstW [armsW ky, manyW kx] = firstW [armsW ky, manyW kx])]
  have e15 : ExtN H1 H5 := e13.trans (.of s35)
  have T5 := T3.ext s35
  have wg5 := s35 _ _ wg3
  clear wg3 s35 w2 w1 wa s4 s5
  refine iteF ⟨_, rfl, y, ky, rfl, hy1.ext e15, fun tb H6 s6 wb => ⟨_, rfl, sz2, fun l6 hl6 => ⟨l6, [tb, g], [armsW ky, manyW kx], rfl, upd_same, .cons ((same_new hl6) _ _ wb) (ok_arms ky) (.cons ((same_new hl6) _ _ (s6 _ _ wg5)) (ok_many kx) .nil), by simp, fun t7 H7 s7 w7 => ⟨sz2, fun t8 ht8 => neW (q := noW) ((same_new ht8) _ _ w7) upd_same ok2 ok_no ⟨_, rfl, ?_⟩⟩⟩⟩⟩
  have s58 : Same H5 (upd H7 t8 (.tup [.str "none", .int 0])) := s6.trans ((same_new hl6).trans (s7.trans (same_new ht8)))
  generalize upd H7 t8 (.tup [.str "none", .int 0]) = H8 at s58 ⊢
  have e18 : ExtN H1 H8 := e15.trans (.of s58)
  have T8 := T5.ext s58
  by_cases hn : ¬ firstW [armsW ky, manyW kx] = noW
  · rw [decide_eq_false hn]
    exact iteT (h1 H8 (eA.trans e18) T8)
  have hn := Decidable.not_not.mp hn
  rw [decide_eq_true hn]
  obtain ⟨n1, n2⟩ := first2_no hn
  obtain ⟨r, rfl, r1, r4⟩ := isN_int (armsW_i n1)
  obtain ⟨m, rfl, m0, m12⟩ := isN_int (manyW_i n2)
  obtain ⟨r, rfl⟩ := Int.eq_ofNat_of_zero_le (show 0 ≤ r by omega)
  obtain ⟨m, rfl⟩ := Int.eq_ofNat_of_zero_le m0
  cases hx.int_eq
  cases hy.int_eq
  have hz8 := hz1.ext e18
  have e08 := eA.trans e18
  clear e18 e15 e13 wg5 wg hx1 hy1 hz1 e2 e3 s1 s58
  refine iteF ⟨_, rfl, _, rfl, rfl, rfl, fun tr dx ha hd nd => mkTree_g ha hd nd (m := m) rfl (by omega) (by omega) (by omega) fun H9 s9 tr9 => ?_⟩
  refine ⟨_, rfl, _, rfl, _, _, rfl, rfl, z, kz, 0, _, rfl, hz8.ext (.of s9), _, rfl, rd_ifw (pW kz m) rfl fun du hdu => ⟨sz2, fun tp htp => ⟨tp, _, rfl, SqT.of upd_same, rfl, _, _, rfl, _, _, rfl, rfl, ?_⟩⟩⟩
  have s9b := (same_new (o := .tup [.str (pW kz m).1, (pW kz m).2]) hdu).trans (same_new (o := .tup [.ref tr, .ref du]) htp)
  have wd : upd (upd H9 du (.tup [.str (pW kz m).1, (pW kz m).2])) tp (.tup [.ref tr, .ref du]) du = some (.tup [.str (pW kz m).1, (pW kz m).2]) := (same_new (o := .tup [.ref tr, .ref du]) htp) _ _ upd_same
  generalize upd (upd H9 du (.tup [.str (pW kz m).1, (pW kz m).2])) tp (.tup [.ref tr, .ref du]) = J0 at s9b wd ⊢
  have eJ0 : ExtN H J0 := e08.trans (.of (s9.trans s9b))
  have TJ0 := T8.ext (s9.trans s9b)
  have trJ0 := tr9.ext (.of s9b)
  have hzJ0 := hz8.ext (.of (s9.trans s9b))
  clear s9 s9b tr9 hz8 e08 T8 hdu htp
  refine ⟨TJ0, fun Jd ed Td => tTT_by (pW kz m) (fun Q' h => ?_) fun t50 J1 e1 TJ1 wt50 => ?_⟩
  · have trd := trJ0.ext ed
    have hzd := hzJ0.ext ed
    obtain ⟨dxd, _, hsd, _⟩ := trd.slt
    exact ⟨_, rfl, _, rfl, tr, dxd, _, rfl, hsd, tr, z, kz, m, r, rfl, trd, hzd, fun n' e' n0 nm t' H' s' _ => pW_fine h e' n0 nm s' Td, pW_bad h Td⟩
  have ee1 := ed.trans e1
  have eJ1 := eJ0.trans ee1
  have trJ1 := trJ0.ext ee1
  have hzJ1 := hzJ0.ext ee1
  have wd := ee1 _ _ wd fun ps z => nomatch z
  clear ee1 e1 ed Td
  refine ⟨TJ1, fun Jd ed Td => tTT_by (pW kz m) (fun Q' h => ?_) fun t51 J2 e2 TJ2 wt51 => ?_⟩
  · have trd := trJ1.ext ed
    have hzd := hzJ1.ext ed
    obtain ⟨dxd, _, hsd, _⟩ := trd.slt
    exact ⟨_, rfl, tr, dxd, _, rfl, hsd, _, rfl, tr, z, kz, m, r, rfl, trd, hzd, fun n' e' n0 nm => pW_fine h e' n0 nm (Same.refl _) Td, pW_bad h Td⟩
  have ee2 := ed.trans e2
  have eJ2 := eJ1.trans ee2
  have trJ2 := trJ1.ext ee2
  have hzJ2 := hzJ1.ext ee2
  have wd := ee2 _ _ wd fun ps z => nomatch z
  have wt50 := ee2 _ _ wt50 fun ps z => nomatch z
  clear ee2 e2 ed Td
  refine ⟨sz2, fun f0 hf0 => ?_⟩
  have sf := same_new (o := .lst [.ref t50, .ref t51]) hf0
  have F0 : FoundAt (upd J2 f0 (.lst [.ref t50, .ref t51])) f0 (pW kz m) 2 := ⟨[t50, t51], upd_same, rfl, fun t ht => by
    simp only [List.mem_cons, List.not_mem_nil, or_false] at ht
    rcases ht with e | e <;> rw [e]
    · exact sf _ _ wt50
    · exact sf _ _ wt51⟩
  generalize upd J2 f0 (.lst [.ref t50, .ref t51]) = J3 at sf F0 ⊢
  have eJ3 := eJ2.trans (.of sf)
  have TJ3 := TJ2.ext sf
  have trJ3 := trJ2.ext (.of sf)
  have hzJ3 := hzJ2.ext (.of sf)
  have wd := sf _ _ wd
  clear sf wt50 wt51 hf0
  refine ⟨_, rfl, ⟨TJ3, fun Jd ed Td => tTT_by (pW kz m) (fun Q' h => ?_) fun t52 J4 e4 TJ4 wt52 => ?_⟩⟩
  · have trd := trJ3.ext ed
    have hzd := hzJ3.ext ed
    obtain ⟨dxd, _, hsd, _⟩ := trd.slt
    exact ⟨_, rfl, tr, dxd, _, rfl, hsd, _, rfl, tr, z, kz, m, r, rfl, trd, hzd, fun n' e' n0 nm t' H' ns s' _ => pW_fine h e' n0 nm s' Td, pW_bad h Td⟩
  have ee4 := ed.trans e4
  have eJ4 := eJ3.trans ee4
  have trJ4 := trJ3.ext ee4
  have hzJ4 := hzJ3.ext ee4
  have wd := ee4 _ _ wd fun ps z => nomatch z
  have F0 := F0.ext ee4
  clear ee4 e4 ed Td
  obtain ⟨ts, hts, lts, wts⟩ := F0
  refine ⟨(by decide : 1 ≤ sizeLine), fun q hq => ⟨f0, q, _, _, rfl, rfl, (same_new hq) _ _ hts, upd_same, by rw [List.length_map, lts]; exact (by decide : 2 + 1 ≤ sizeLine), fun f2 hf2 => ?_⟩⟩
  have sf := (same_new (o := .lst [.ref t52]) hq).trans (same_new (o := .lst (ts.map V.ref ++ [V.ref t52])) hf2)
  have F0 : FoundAt (upd (upd J4 q (.lst [.ref t52])) f2 (.lst (ts.map V.ref ++ [V.ref t52]))) f2 (pW kz m) 3 := ⟨ts ++ [t52], by rw [upd_same, List.map_append]; rfl, by simp [lts], fun t ht => by
    rcases List.mem_append.mp ht with ht | ht
    · exact sf _ _ (wts t ht)
    · rw [List.mem_singleton.mp ht]
      exact sf _ _ wt52⟩
  generalize upd (upd J4 q (.lst [.ref t52])) f2 (.lst (ts.map V.ref ++ [V.ref t52])) = J5 at sf F0 ⊢
  have eJ5 := eJ4.trans (.of sf)
  have TJ5 := TJ4.ext sf
  have trJ5 := trJ4.ext (.of sf)
  have hzJ5 := hzJ4.ext (.of sf)
  have wd := sf _ _ wd
  clear sf hts lts wts hq hf2 wt52
  refine ⟨_, rfl, ⟨TJ5, fun Jd ed Td => tTT_by (pW kz m) (fun Q' h => ?_) fun t53 J6 e6 TJ6 wt53 => ?_⟩⟩
  · have trd := trJ5.ext ed
    have hzd := hzJ5.ext ed
    obtain ⟨dxd, _, hsd, _⟩ := trd.slt
    exact ⟨_, rfl, tr, dxd, _, rfl, hsd, _, rfl, tr, z, kz, m, r, rfl, trd, hzd, fun n' e' n0 nm d' H' s' => pW_fine h e' n0 nm s' Td, pW_bad h Td⟩
  have ee6 := ed.trans e6
  have eJ6 := eJ5.trans ee6
  have trJ6 := trJ5.ext ee6
  have hzJ6 := hzJ5.ext ee6
  have wd := ee6 _ _ wd fun ps z => nomatch z
  have F0 := F0.ext ee6
  clear ee6 e6 ed Td
  obtain ⟨ts, hts, lts, wts⟩ := F0
  refine ⟨(by decide : 1 ≤ sizeLine), fun q hq => ⟨f2, q, _, _, rfl, rfl, (same_new hq) _ _ hts, upd_same, by rw [List.length_map, lts]; exact (by decide : 3 + 1 ≤ sizeLine), fun f3 hf3 => ?_⟩⟩
  have sf := (same_new (o := .lst [.ref t53]) hq).trans (same_new (o := .lst (ts.map V.ref ++ [V.ref t53])) hf3)
  have F0 : FoundAt (upd (upd J6 q (.lst [.ref t53])) f3 (.lst (ts.map V.ref ++ [V.ref t53]))) f3 (pW kz m) 4 := ⟨ts ++ [t53], by rw [upd_same, List.map_append]; rfl, by simp [lts], fun t ht => by
    rcases List.mem_append.mp ht with ht | ht
    · exact sf _ _ (wts t ht)
    · rw [List.mem_singleton.mp ht]
      exact sf _ _ wt53⟩
  generalize upd (upd J6 q (.lst [.ref t53])) f3 (.lst (ts.map V.ref ++ [V.ref t53])) = J7 at sf F0 ⊢
  have eJ7 := eJ6.trans (.of sf)
  have TJ7 := TJ6.ext sf
  have trJ7 := trJ6.ext (.of sf)
  have hzJ7 := hzJ6.ext (.of sf)
  have wd := sf _ _ wd
  clear sf hts lts wts hq hf3 wt53
  refine ⟨_, rfl, ⟨TJ7, fun Jd ed Td => tTT_by (pW kz m) (fun Q' h => ?_) fun t54 J8 e8 TJ8 wt54 => ?_⟩⟩
  · have trd := trJ7.ext ed
    have hzd := hzJ7.ext ed
    obtain ⟨dxd, _, hsd, _⟩ := trd.slt
    exact ⟨_, rfl, tr, dxd, _, rfl, hsd, _, rfl, tr, z, kz, m, r, rfl, trd, hzd, fun n' e' n0 nm d' H' s' => pW_fine h e' n0 nm s' Td, pW_bad h Td⟩
  have ee8 := ed.trans e8
  have eJ8 := eJ7.trans ee8
  have trJ8 := trJ7.ext ee8
  have hzJ8 := hzJ7.ext ee8
  have wd := ee8 _ _ wd fun ps z => nomatch z
  have F0 := F0.ext ee8
  clear ee8 e8 ed Td
  obtain ⟨ts, hts, lts, wts⟩ := F0
  refine ⟨(by decide : 1 ≤ sizeLine), fun q hq => ⟨f3, q, _, _, rfl, rfl, (same_new hq) _ _ hts, upd_same, by rw [List.length_map, lts]; exact (by decide : 4 + 1 ≤ sizeLine), fun f4 hf4 => ?_⟩⟩
  have sf := (same_new (o := .lst [.ref t54]) hq).trans (same_new (o := .lst (ts.map V.ref ++ [V.ref t54])) hf4)
  have F0 : FoundAt (upd (upd J8 q (.lst [.ref t54])) f4 (.lst (ts.map V.ref ++ [V.ref t54]))) f4 (pW kz m) 5 := ⟨ts ++ [t54], by rw [upd_same, List.map_append]; rfl, by simp [lts], fun t ht => by
    rcases List.mem_append.mp ht with ht | ht
    · exact sf _ _ (wts t ht)
    · rw [List.mem_singleton.mp ht]
      exact sf _ _ wt54⟩
  generalize upd (upd J8 q (.lst [.ref t54])) f4 (.lst (ts.map V.ref ++ [V.ref t54])) = J9 at sf F0 ⊢
  have eJ9 := eJ8.trans (.of sf)
  have TJ9 := TJ8.ext sf
  have trJ9 := trJ8.ext (.of sf)
  have hzJ9 := hzJ8.ext (.of sf)
  have wd := sf _ _ wd
  clear sf hts lts wts hq hf4 wt54
  refine ⟨_, rfl, ⟨TJ9, fun Jd ed Td => tTT_by (pW kz m) (fun Q' h => ?_) fun t55 J10 e10 TJ10 wt55 => ?_⟩⟩
  · have trd := trJ9.ext ed
    have hzd := hzJ9.ext ed
    obtain ⟨dxd, _, hsd, _⟩ := trd.slt
    exact ⟨_, rfl, tr, dxd, _, rfl, hsd, _, rfl, tr, z, kz, m, r, rfl, trd, hzd, fun n' e' n0 nm d' H' s' => pW_fine h e' n0 nm s' Td, pW_bad h Td⟩
  have ee10 := ed.trans e10
  have eJ10 := eJ9.trans ee10
  have trJ10 := trJ9.ext ee10
  have hzJ10 := hzJ9.ext ee10
  have wd := ee10 _ _ wd fun ps z => nomatch z
  have F0 := F0.ext ee10
  clear ee10 e10 ed Td
  obtain ⟨ts, hts, lts, wts⟩ := F0
  refine ⟨(by decide : 1 ≤ sizeLine), fun q hq => ⟨f4, q, _, _, rfl, rfl, (same_new hq) _ _ hts, upd_same, by rw [List.length_map, lts]; exact (by decide : 5 + 1 ≤ sizeLine), fun f5 hf5 => ?_⟩⟩
  have sf := (same_new (o := .lst [.ref t55]) hq).trans (same_new (o := .lst (ts.map V.ref ++ [V.ref t55])) hf5)
  have F0 : FoundAt (upd (upd J10 q (.lst [.ref t55])) f5 (.lst (ts.map V.ref ++ [V.ref t55]))) f5 (pW kz m) 6 := ⟨ts ++ [t55], by rw [upd_same, List.map_append]; rfl, by simp [lts], fun t ht => by
    rcases List.mem_append.mp ht with ht | ht
    · exact sf _ _ (wts t ht)
    · rw [List.mem_singleton.mp ht]
      exact sf _ _ wt55⟩
  generalize upd (upd J10 q (.lst [.ref t55])) f5 (.lst (ts.map V.ref ++ [V.ref t55])) = J11 at sf F0 ⊢
  have eJ11 := eJ10.trans (.of sf)
  have TJ11 := TJ10.ext sf
  have trJ11 := trJ10.ext (.of sf)
  have hzJ11 := hzJ10.ext (.of sf)
  have wd := sf _ _ wd
  clear sf hts lts wts hq hf5 wt55
  refine ⟨_, rfl, ⟨TJ11, fun Jd ed Td => tTT_by (pW kz m) (fun Q' h => ?_) fun t56 J12 e12 TJ12 wt56 => ?_⟩⟩
  · have trd := trJ11.ext ed
    have hzd := hzJ11.ext ed
    obtain ⟨dxd, _, hsd, _⟩ := trd.slt
    exact ⟨_, rfl, tr, dxd, _, rfl, hsd, _, rfl, tr, z, kz, m, r, rfl, trd, hzd, fun n' e' n0 nm t' H' ns s' _ _ _ _ => pW_fine h e' n0 nm s' Td, pW_bad h Td⟩
  have ee12 := ed.trans e12
  have eJ12 := eJ11.trans ee12
  have trJ12 := trJ11.ext ee12
  have hzJ12 := hzJ11.ext ee12
  have wd := ee12 _ _ wd fun ps z => nomatch z
  have F0 := F0.ext ee12
  clear ee12 e12 ed Td
  obtain ⟨ts, hts, lts, wts⟩ := F0
  refine ⟨(by decide : 1 ≤ sizeLine), fun q hq => ⟨f5, q, _, _, rfl, rfl, (same_new hq) _ _ hts, upd_same, by rw [List.length_map, lts]; exact (by decide : 6 + 1 ≤ sizeLine), fun f6 hf6 => ?_⟩⟩
  have sf := (same_new (o := .lst [.ref t56]) hq).trans (same_new (o := .lst (ts.map V.ref ++ [V.ref t56])) hf6)
  have F0 : FoundAt (upd (upd J12 q (.lst [.ref t56])) f6 (.lst (ts.map V.ref ++ [V.ref t56]))) f6 (pW kz m) 7 := ⟨ts ++ [t56], by rw [upd_same, List.map_append]; rfl, by simp [lts], fun t ht => by
    rcases List.mem_append.mp ht with ht | ht
    · exact sf _ _ (wts t ht)
    · rw [List.mem_singleton.mp ht]
      exact sf _ _ wt56⟩
  generalize upd (upd J12 q (.lst [.ref t56])) f6 (.lst (ts.map V.ref ++ [V.ref t56])) = J13 at sf F0 ⊢
  have eJ13 := eJ12.trans (.of sf)
  have TJ13 := TJ12.ext sf
  have trJ13 := trJ12.ext (.of sf)
  have hzJ13 := hzJ12.ext (.of sf)
  have wd := sf _ _ wd
  clear sf hts lts wts hq hf6 wt56
  obtain ⟨ts, hts, lts, wts⟩ := F0
  have okp := ok_pW kz m
  refine ⟨f6, rfl, ⟨_, SqL.of hts⟩, fun D hD => ?_⟩
  refine itL (xs := ts.map V.ref) (fun i H3 => Same J13 H3 ∧ H3 D = some (.lst ((List.replicate i true).map V.bl))) ⟨same_new hD, upd_same⟩ (fun i H3 _ p => SqL.of (p.1 _ _ hts)) ?_ ?_
  · rintro i v H3 hv ⟨s3, hacc⟩
    rw [List.getElem?_map] at hv
    obtain ⟨t, et, rfl⟩ := Option.map_eq_some_iff.mp hv
    have hi : i < ts.length := (List.getElem?_eq_some_iff.mp et).1
    refine ⟨rfl, _, rfl, _, rfl, eqW (s3 _ _ (wts t (List.mem_of_getElem? et))) (s3 _ _ wd) okp okp ⟨_, hacc, ?_, fun c o ec => ?_, ?_⟩⟩
    · rw [List.length_map, List.length_replicate]
      have : sizeLine = 16777216 := sizeLine_eq
      omega
    · rw [upd_ne (fun z => by rw [z, hD] at ec; cases ec)]
      exact s3 _ _ ec
    · rw [upd_same, decide_eq_true (rfl : pW kz m = pW kz m), List.replicate_succ', List.map_append]
      rfl
  · rintro H3 ⟨s3, hacc⟩
    refine ⟨D, _, rfl, SqL.of hacc, ?_⟩
    rw [show ((List.replicate (ts.map V.ref).length true).all id) = true by simp]
    exact h1 H3 (eJ13.trans (.of s3)) (TJ13.ext s3)
end
end K7
/-! rows are refused as they should be -/
namespace K7
open PySem PySem.Spec PyProof.Rows L2 He
open LamX (Tabs TabS TabB ExtN CodeO lamEnv)
theorem rowW_i {k : KV} (h : rowW k = noW) : rowErr k = none := by
  cases e : rowErr k with
  | none => rfl
  | some v => rw [rowW_s e] at h; exact absurd h ne_row
def lenOf (k : KV) : Int := match rowOf k with
  | some xs => ((xs.length : Nat) : Int)
  | none => 0
/-- the word of a sift's door -/
def sW (kx ky kz : KV) : Wd := if firstW [armsW ky, rowW kx] = noW then pW kz (lenOf kx) else firstW [armsW ky, rowW kx]
theorem sW_pre {K : PySem.W.Frag} {H : Hp} {Q : VK} {kx ky kz : KV} (tT : Tabs (TT K) H) (h : Rs K H (sW kx ky kz) Q) : preR K kx ky H (EQ K Q) := by
  refine ⟨fun e => ?_, fun e v ev => ?_⟩
  · have : firstW [armsW ky, rowW kx] = (("wide" : Str), .int 0) := by rw [armsW_f e, first_in ne_wide]
    unfold sW at h
    rw [this, if_neg ne_wide] at h
    exact h.wide tT
  · have : firstW [armsW ky, rowW kx] = (("row" : Str), v) := by rw [armsW_t e, rowW_s ev, first_no, first_in ne_row]
    unfold sW at h
    rw [this, if_neg ne_row] at h
    exact h.row tT
theorem sW_ok {K : PySem.W.Frag} {H : Hp} {Q : VK} {kx ky kz : KV} {ns : List Int} {r : Nat} (R : RowOk kx ky ns r) (h : Rs K H (sW kx ky kz) Q) : Rs K H (pW kz (ns.length : Int)) Q := by
  obtain ⟨e1, e2⟩ := rowOk_pre R
  have e3 : firstW [armsW ky, rowW kx] = noW := by rw [armsW_t e1, rowW_n e2, first_no, first_no]; rfl
  have e4 : lenOf kx = (ns.length : Int) := by
    unfold lenOf
    rw [R.row]
    exact ml ns
  unfold sW at h
  rw [if_pos e3, e4] at h
  exact h
theorem sW_place {K : PySem.W.Frag} {H : Hp} {Q : VK} {kx ky kz : KV} {ns : List Int} {r : Nat} (R : RowOk kx ky ns r) (e : isN kz 0 ((ns.length : Int) - 1) = false) (h : Rs K H (sW kx ky kz) Q) : Rs K H (("place" : Str), .int 0) Q := by
  have := sW_ok R h
  rw [pW_f e] at this
  exact this
theorem sW_fine {K : PySem.W.Frag} {H : Hp} {Q : VK} {kx ky kz : KV} {ns : List Int} {r : Nat} (R : RowOk kx ky ns r) (e : isN kz 0 ((ns.length : Int) - 1) = true) (h : Rs K H (sW kx ky kz) Q) : Rs K H noW Q := by
  have := sW_ok R h
  rw [pW_t e] at this
  exact this
section
variable {w : World} {K : PySem.W.Frag} {mg : Str → Option Value} {base : Heap}
theorem sc_law_rows_right : FnScope ["row", "wide", "place", "due", "found", "word"] ["row", "wide", "place"] (defScope s_law_rows_right) := ⟨rfl, rfl, rfl, by decide +kernel, rfl, by decide +kernel, by decide +kernel⟩
theorem F_law_rows_right (T : TX K mg base) : FnR Pr w K mg base (LC w) 16 (a_law_rows_right K) (spRight K) := by
  obtain ⟨fd, F⟩ := T.f_law_rows_right
  refine fnr_ofC (p := ("_law_rows_right", none)) (ps := ["row", "wide", "place"]) (N := ["row", "wide", "place", "due", "found", "word"]) F rfl (fun _ _ _ _ _ _ us hl => match us, hl with | [_, _, _], _ => rfl) sc_law_rows_right (fun vs H Q E h => by obtain ⟨x, y, z, kx, ky, kz, rfl, _⟩ := h; rfl) fun cdv A outer s H vs Q E hc hr h => ?_
  obtain ⟨x, y, z, kx, ky, kz, rfl, hx, hy, hz, hT, h1⟩ := h
  have mem : (("_law_rows_right", none) : He.Defn) ∈ tf := by decide
  refine ⟨_, pss_cons (ps_set (i := 3) sc_law_rows_right.nd rfl (.inr rfl) (pe_cl (F_law_first_word T) (hr.mono (by decide)) rfl T.g_law_first_word (kpF T.f_law_first_word) pX (pa_cons (pe_lst (pa_cons (pe_cl (F_law_arms_word T) (hr.mono (by decide)) rfl T.g_law_arms_word (kpF T.f_law_arms_word) pX (pa_cons (pv 1) pa_nil)) (pa_cons (pe_cl (F_law_row_word T) (hr.mono (by decide)) rfl T.g_law_row_word (kpF T.f_law_row_word) pX (pa_cons (pv 0) pa_nil)) pa_nil))) pa_nil)))
    (pss_cons (ps_set (i := 4) sc_law_rows_right.nd rfl (.inl rfl) (pe_lst (pa_cons (pe_told (TT := TT K) (a := "ka") (k := 12) (t := fun E => tCMethK (a_Tree K) 1 1 (spOf K) E (tC (.ref (a_Tree K))) (tCons (tVar 0) tNil) (tCons (tVar 1) tNil)) T rfl (T.tab _ mem) hc (tt_m mem) (tt_u T.tabs_nd mem) (hr.mono (by decide)) (lam1_by (N := ["row", "wide", "place", "due", "found", "word"]) (sc := defScope s_law_rows_right) (by decide +kernel)) rfl (fun _ _ _ _ _ _ => rfl) (fun A outer s H E f c' hr' => pe_cmethK (ks := [("arms" : Str)]) (pe_glob rfl T.g_Tree rfl) T.cm_of.1 T.cm_of.2 (F_Tree_of T) (hr'.mono (by decide)) pLam (pa_cons (pv 0) pa_nil) (pk_cons (pv 1) pk_nil))) pa_nil)))
    (pss_cons (ps_set (i := 4) sc_law_rows_right.nd rfl (.inl rfl) (pe_op op_cat (pv 4) (pe_lst (pa_cons (pe_told (TT := TT K) (a := "kb") (k := 12) (t := fun E => tClK 1 1 (spDoor K) E (tCons (tVar 0) tNil) (tCons (tVar 1) tNil)) T rfl (T.tab _ mem) hc (tt_m mem) (tt_u T.tabs_nd mem) (hr.mono (by decide)) (lam1_by (N := ["row", "wide", "place", "due", "found", "word"]) (sc := defScope s_law_rows_right) (by decide +kernel)) rfl (fun _ _ _ _ _ _ => rfl) (fun A outer s H E f c' hr' => pe_clK (ks := [("arms" : Str)]) (F_is_heap T) (hr'.mono (by decide)) rfl T.g_is_heap (kpF T.f_is_heap) pLam (pa_cons (pv 0) pa_nil) (pk_cons (pv 1) pk_nil))) pa_nil))))
    (pss_cons (ps_set (i := 4) sc_law_rows_right.nd rfl (.inl rfl) (pe_op op_cat (pv 4) (pe_lst (pa_cons (pe_told (TT := TT K) (a := "ka") (k := 12) (t := fun E => tClK 1 1 (spFaults K) E (tCons (tVar 0) tNil) (tCons (tVar 1) tNil)) T rfl (T.tab _ mem) hc (tt_m mem) (tt_u T.tabs_nd mem) (hr.mono (by decide)) (lam1_by (N := ["row", "wide", "place", "due", "found", "word"]) (sc := defScope s_law_rows_right) (by decide +kernel)) rfl (fun _ _ _ _ _ _ => rfl) (fun A outer s H E f c' hr' => pe_clK (ks := [("arms" : Str)]) (F_faults T) (hr'.mono (by decide)) rfl T.g_faults (kpF T.f_faults) pLam (pa_cons (pv 0) pa_nil) (pk_cons (pv 1) pk_nil))) pa_nil))))
    (pss_cons (ps_set (i := 4) sc_law_rows_right.nd rfl (.inl rfl) (pe_op op_cat (pv 4) (pe_lst (pa_cons (pe_told (TT := TT K) (a := "kb") (k := 12) (t := fun E => tClK 1 1 (spDoor K) E (tCons (tVar 0) tNil) (tCons (tVar 1) tNil)) T rfl (T.tab _ mem) hc (tt_m mem) (tt_u T.tabs_nd mem) (hr.mono (by decide)) (lam1_by (N := ["row", "wide", "place", "due", "found", "word"]) (sc := defScope s_law_rows_right) (by decide +kernel)) rfl (fun _ _ _ _ _ _ => rfl) (fun A outer s H E f c' hr' => pe_clK (ks := [("arms" : Str)]) (F_falls T) (hr'.mono (by decide)) rfl T.g_falls (kpF T.f_falls) pLam (pa_cons (pv 0) pa_nil) (pk_cons (pv 1) pk_nil))) pa_nil))))
    (pss_cons (ps_expr (pe_bm PySem.F.plainAttrs_list PySem.F.slot_list_append PySem.F.type_list_append mt_append (pv 4) (pa_cons (pe_told (TT := TT K) (a := "ka") (k := 12) (t := fun E => tClK 1 1 (spDoorN K) E (tCons (tVar 0) tNil) (tCons (tVar 1) tNil)) T rfl (T.tab _ mem) hc (tt_m mem) (tt_u T.tabs_nd mem) (hr.mono (by decide)) (lam1_by (N := ["row", "wide", "place", "due", "found", "word"]) (sc := defScope s_law_rows_right) (by decide +kernel)) rfl (fun _ _ _ _ _ _ => rfl) (fun A outer s H E f c' hr' => pe_clK (ks := [("arms" : Str)]) (F_build T) (hr'.mono (by decide)) rfl T.g_build (kpF T.f_build) pLam (pa_cons (pv 0) pa_nil) (pk_cons (pv 1) pk_nil))) pa_nil)))
    (pss_cons (ps_if (pt_val (pe_callB (cr_any rfl) rfl T.n_any (by decide +kernel) (pa_cons (pe_lc (own := [("word", 5)]) (g := gName 5) (tt := tYes) (te := tOp (rNeD K) (tVar 5) (tVar 3)) rfl sc_law_rows_right.nd (pi_list (pv 4)) (blkOk_by (own := [("word", 5)]) (N := ["row", "wide", "place", "due", "found", "word"]) (sc := defScope s_law_rows_right) (by decide +kernel)) (fun _ _ _ _ _ => pg_name (i := 5) sc_law_rows_right.nd rfl (Or.inl rfl)) (fun _ _ _ _ _ => pts_nil) (fun _ _ _ _ _ => pe_cmpR (op_neD hr.units) (pv 5) (pv 3) (nomark _))) pa_nil))) (pss_one (ps_ret pe_bl)) pss_nil)
    (pss_cons (ps_if (pt_cmpR (op_neD hr.units) (pe_told (TT := TT K) (a := "ka") (k := 12) (t := fun E => tCl (spRanks K) E (tCons (tVar 0) tNil)) T rfl (T.tab _ mem) hc (tt_m mem) (tt_u T.tabs_nd mem) (hr.mono (by decide)) (lam1_by (N := ["row", "wide", "place", "due", "found", "word"]) (sc := defScope s_law_rows_right) (by decide +kernel)) rfl (fun _ _ _ _ _ _ => rfl) (fun A outer s H E f c' hr' => pe_cl (F_ranks T) (hr'.mono (by decide)) rfl T.g_ranks (kpF T.f_ranks) pLam (pa_cons (pv 0) pa_nil))) (pe_cl (F_law_row_word T) (hr.mono (by decide)) rfl T.g_law_row_word (kpF T.f_law_row_word) pX (pa_cons (pv 0) pa_nil)) (nomark _)) (pss_one (ps_ret pe_bl)) pss_nil)
    (pss_cons (ps_if (PW.pt (pw_and (pt_cmpR (op_eqD hr.units) (pv 3) (pe_tup (pa_cons pe_str (pa_cons pe_int pa_nil))) (nomark _)) (pw_and1 (pt_not (pt_val (pe_cl (F_law_is_number T) (hr.mono (by decide)) rfl T.g_law_is_number (kpF T.f_law_is_number) pX (pa_cons (pv 2) (pa_cons pe_int (pa_cons (pe_op op_sub (pe_callB call_len_seq rfl T.n_len PySem.boot_len (pa_cons (pv 0) pa_nil)) pe_int) pa_nil))))))))) (pss_one (ps_set (i := 3) sc_law_rows_right.nd rfl (.inr rfl) (pe_tup (pa_cons pe_str (pa_cons pe_int pa_nil))))) pss_nil)
    (pss_cons (ps_if (pt_cmpR (op_neD hr.units) (pe_told (TT := TT K) (a := "ka") (k := 12) (t := fun E => tClK 2 1 (spSift K) E (tCons (tVar 0) (tCons (tVar 2) tNil)) (tCons (tVar 1) tNil)) T rfl (T.tab _ mem) hc (tt_m mem) (tt_u T.tabs_nd mem) (hr.mono (by decide)) (lam1_by (N := ["row", "wide", "place", "due", "found", "word"]) (sc := defScope s_law_rows_right) (by decide +kernel)) rfl (fun _ _ _ _ _ _ => rfl) (fun A outer s H E f c' hr' => pe_clK (ks := [("arms" : Str)]) (F_sift_up T) (hr'.mono (by decide)) rfl T.g_sift_up (kpF T.f_sift_up) pLam (pa_cons (pv 0) (pa_cons (pv 2) pa_nil)) (pk_cons (pv 1) pk_nil))) (pv 3) (nomark _)) (pss_one (ps_ret pe_bl)) pss_nil)
    (pss_one (ps_ret (pe_cmpR (op_eqD hr.units) (pe_told (TT := TT K) (a := "ka") (k := 12) (t := fun E => tClK 2 1 (spSift K) E (tCons (tVar 0) (tCons (tVar 2) tNil)) (tCons (tVar 1) tNil)) T rfl (T.tab _ mem) hc (tt_m mem) (tt_u T.tabs_nd mem) (hr.mono (by decide)) (lam1_by (N := ["row", "wide", "place", "due", "found", "word"]) (sc := defScope s_law_rows_right) (by decide +kernel)) rfl (fun _ _ _ _ _ _ => rfl) (fun A outer s H E f c' hr' => pe_clK (ks := [("arms" : Str)]) (F_sift_down T) (hr'.mono (by decide)) rfl T.g_sift_down (kpF T.f_sift_down) pLam (pa_cons (pv 0) (pa_cons (pv 2) pa_nil)) (pk_cons (pv 1) pk_nil))) (pv 3) (nomark _))))))))))))), ?_⟩
  refine ⟨_, rfl, y, ky, rfl, hy, fun ta H1 s1 wa => ⟨_, rfl, x, kx, rfl, hx.ext (.of s1), fun tb H2 s2 wb => ⟨sz2, fun l hl => ⟨l, [ta, tb], [armsW ky, rowW kx], rfl, upd_same, .cons ((same_new hl) _ _ (s2 _ _ wa)) (ok_arms ky) (.cons ((same_new hl) _ _ wb) (ok_row kx) .nil), by simp, fun du J0 s3 wd => ?_⟩⟩⟩⟩
  have s03 : Same H J0 := s1.trans (s2.trans ((same_new hl).trans s3))
  have okD : okW (firstW [armsW ky, rowW kx]) = true := ok_first _ fun p hp => by
    simp only [List.mem_cons, List.not_mem_nil, or_false] at hp
    rcases hp with e | e <;> rw [e]
    · exact ok_arms ky
    · exact ok_row kx
  have eJ0 : ExtN H J0 := .of s03
  have TJ0 := hT.ext s03
  clear s1 s2 s3 s03 wa wb hl
  refine ⟨TJ0, fun Jd ed Td => tTT_by (firstW [armsW ky, rowW kx]) (fun Q' h => ?_) fun t50 J1 e1 TJ1 wt50 => ?_⟩
  · have hxd := hx.ext (eJ0.trans ed)
    have hyd := hy.ext (eJ0.trans ed)
    have hzd := hz.ext (eJ0.trans ed)
    refine ⟨rfl, _, rfl, _, rfl, rfl, rfl, x, y, kx, ky, rfl, hxd, hyd, (told_preR (ps := []) Td h).1, (told_preR (ps := []) Td h).2, fun e1 e2 v H' s' => ?_⟩
    obtain ⟨ns, r, R⟩ := rowOk_of e1 e2
    exact Rs.fine (told_rows (ps := []) R h) (.of s') (Td.ext s')
  have ee1 := ed.trans e1
  have eJ1 := eJ0.trans ee1
  have wd := ee1 _ _ wd fun ps z => nomatch z
  clear ee1 e1 ed Td
  refine ⟨(by decide : 1 ≤ sizeLine), fun f0 hf0 => ?_⟩
  have sf := same_new (o := .lst [.ref t50]) hf0
  have F0 : FoundAt (upd J1 f0 (.lst [.ref t50])) f0 (firstW [armsW ky, rowW kx]) 1 := ⟨[t50], upd_same, rfl, fun t ht => by
    rw [List.mem_singleton.mp ht]
    exact sf _ _ wt50⟩
  generalize upd J1 f0 (.lst [.ref t50]) = J2 at sf F0 ⊢
  have eJ2 := eJ1.trans (.of sf)
  have TJ2 := TJ1.ext sf
  have wd := sf _ _ wd
  clear sf wt50 hf0
  refine ⟨_, rfl, ⟨TJ2, fun Jd ed Td => tTT_by (firstW [armsW ky, rowW kx]) (fun Q' h => ?_) fun t51 J3 e3 TJ3 wt51 => ?_⟩⟩
  · have hxd := hx.ext (eJ2.trans ed)
    have hyd := hy.ext (eJ2.trans ed)
    have hzd := hz.ext (eJ2.trans ed)
    exact ⟨_, rfl, _, rfl, rfl, rfl, x, y, kx, ky, rfl, hxd, hyd, told_preR (ps := []) Td h, fun ns r R v H' s' => Rs.fine (told_rows (ps := []) R h) (.of s') (Td.ext s')⟩
  have ee3 := ed.trans e3
  have eJ3 := eJ2.trans ee3
  have wd := ee3 _ _ wd fun ps z => nomatch z
  have F0 := F0.ext ee3
  clear ee3 e3 ed Td
  obtain ⟨ts, hts, lts, wts⟩ := F0
  refine ⟨(by decide : 1 ≤ sizeLine), fun q hq => ⟨f0, q, _, _, rfl, rfl, (same_new hq) _ _ hts, upd_same, by rw [List.length_map, lts]; exact (by decide : 1 + 1 ≤ sizeLine), fun f1 hf1 => ?_⟩⟩
  have sf := (same_new (o := .lst [.ref t51]) hq).trans (same_new (o := .lst (ts.map V.ref ++ [V.ref t51])) hf1)
  have F0 : FoundAt (upd (upd J3 q (.lst [.ref t51])) f1 (.lst (ts.map V.ref ++ [V.ref t51]))) f1 (firstW [armsW ky, rowW kx]) 2 := ⟨ts ++ [t51], by rw [upd_same, List.map_append]; rfl, by simp [lts], fun t ht => by
    rcases List.mem_append.mp ht with ht | ht
    · exact sf _ _ (wts t ht)
    · rw [List.mem_singleton.mp ht]
      exact sf _ _ wt51⟩
  generalize upd (upd J3 q (.lst [.ref t51])) f1 (.lst (ts.map V.ref ++ [V.ref t51])) = J4 at sf F0 ⊢
  have eJ4 := eJ3.trans (.of sf)
  have TJ4 := TJ3.ext sf
  have wd := sf _ _ wd
  clear sf hts lts wts hq hf1 wt51
  refine ⟨_, rfl, ⟨TJ4, fun Jd ed Td => tTT_by (firstW [armsW ky, rowW kx]) (fun Q' h => ?_) fun t52 J5 e5 TJ5 wt52 => ?_⟩⟩
  · have hxd := hx.ext (eJ4.trans ed)
    have hyd := hy.ext (eJ4.trans ed)
    have hzd := hz.ext (eJ4.trans ed)
    exact ⟨_, rfl, _, rfl, rfl, rfl, x, y, kx, ky, rfl, hxd, hyd, told_preR (ps := []) Td h, fun ns r R l' H' s' _ => Rs.fine (told_rows (ps := []) R h) (.of s') (Td.ext s')⟩
  have ee5 := ed.trans e5
  have eJ5 := eJ4.trans ee5
  have wd := ee5 _ _ wd fun ps z => nomatch z
  have F0 := F0.ext ee5
  clear ee5 e5 ed Td
  obtain ⟨ts, hts, lts, wts⟩ := F0
  refine ⟨(by decide : 1 ≤ sizeLine), fun q hq => ⟨f1, q, _, _, rfl, rfl, (same_new hq) _ _ hts, upd_same, by rw [List.length_map, lts]; exact (by decide : 2 + 1 ≤ sizeLine), fun f2 hf2 => ?_⟩⟩
  have sf := (same_new (o := .lst [.ref t52]) hq).trans (same_new (o := .lst (ts.map V.ref ++ [V.ref t52])) hf2)
  have F0 : FoundAt (upd (upd J5 q (.lst [.ref t52])) f2 (.lst (ts.map V.ref ++ [V.ref t52]))) f2 (firstW [armsW ky, rowW kx]) 3 := ⟨ts ++ [t52], by rw [upd_same, List.map_append]; rfl, by simp [lts], fun t ht => by
    rcases List.mem_append.mp ht with ht | ht
    · exact sf _ _ (wts t ht)
    · rw [List.mem_singleton.mp ht]
      exact sf _ _ wt52⟩
  generalize upd (upd J5 q (.lst [.ref t52])) f2 (.lst (ts.map V.ref ++ [V.ref t52])) = J6 at sf F0 ⊢
  have eJ6 := eJ5.trans (.of sf)
  have TJ6 := TJ5.ext sf
  have wd := sf _ _ wd
  clear sf hts lts wts hq hf2 wt52
  refine ⟨_, rfl, ⟨TJ6, fun Jd ed Td => tTT_by (firstW [armsW ky, rowW kx]) (fun Q' h => ?_) fun t53 J7 e7 TJ7 wt53 => ?_⟩⟩
  · have hxd := hx.ext (eJ6.trans ed)
    have hyd := hy.ext (eJ6.trans ed)
    have hzd := hz.ext (eJ6.trans ed)
    exact ⟨_, rfl, _, rfl, rfl, rfl, x, y, kx, ky, rfl, hxd, hyd, told_preR (ps := []) Td h, fun ns r R v H' s' => Rs.fine (told_rows (ps := []) R h) (.of s') (Td.ext s')⟩
  have ee7 := ed.trans e7
  have eJ7 := eJ6.trans ee7
  have wd := ee7 _ _ wd fun ps z => nomatch z
  have F0 := F0.ext ee7
  clear ee7 e7 ed Td
  obtain ⟨ts, hts, lts, wts⟩ := F0
  refine ⟨(by decide : 1 ≤ sizeLine), fun q hq => ⟨f2, q, _, _, rfl, rfl, (same_new hq) _ _ hts, upd_same, by rw [List.length_map, lts]; exact (by decide : 3 + 1 ≤ sizeLine), fun f3 hf3 => ?_⟩⟩
  have nf : ∀ c o, H c = some o → (∀ ps, o ≠ .tbl ps) → c ≠ f3 := fun c o ec nt => ne_of_none (eJ7 c o ec nt) ((same_new hq).free hf3)
  have sf := (same_new (o := .lst [.ref t53]) hq).trans (same_new (o := .lst (ts.map V.ref ++ [V.ref t53])) hf3)
  have F0 : FoundAt (upd (upd J7 q (.lst [.ref t53])) f3 (.lst (ts.map V.ref ++ [V.ref t53]))) f3 (firstW [armsW ky, rowW kx]) 4 := ⟨ts ++ [t53], by rw [upd_same, List.map_append]; rfl, by simp [lts], fun t ht => by
    rcases List.mem_append.mp ht with ht | ht
    · exact sf _ _ (wts t ht)
    · rw [List.mem_singleton.mp ht]
      exact sf _ _ wt53⟩
  generalize upd (upd J7 q (.lst [.ref t53])) f3 (.lst (ts.map V.ref ++ [V.ref t53])) = J8 at sf F0 ⊢
  have eJ8 := eJ7.trans (.of sf)
  have TJ8 := TJ7.ext sf
  have wd := sf _ _ wd
  clear sf hts lts wts hq hf3 wt53
  obtain ⟨ts, hts, lts, wts⟩ := F0
  refine ⟨_, rfl, .inl ⟨rfl, _, SqL.of hts⟩, ⟨TJ8, fun Jd ed Td => tTT_by (firstW [armsW ky, rowW kx]) (fun Q' h => ?_) fun t54 J9 e9 TJ9 wt54 => ?_⟩⟩
  · have hxd := hx.ext (eJ8.trans ed)
    have hyd := hy.ext (eJ8.trans ed)
    have hzd := hz.ext (eJ8.trans ed)
    exact ⟨_, rfl, _, rfl, rfl, rfl, x, y, kx, ky, rfl, hxd, hyd, Td, told_preR (ps := []) Td h, fun ns r R v H' e' t' => Rs.fine (told_rows (ps := []) R h) e' t'⟩
  have ee9 := ed.trans e9
  have eJ9 := eJ8.trans ee9
  have wd := ee9 _ _ wd fun ps z => nomatch z
  have hts := ee9 _ _ hts fun ps z => nomatch z
  have wts : ∀ t ∈ ts, _ := fun t ht => ee9 _ _ (wts t ht) fun ps z => nomatch z
  clear ee9 e9 ed Td
  refine ⟨f3, _, _, rfl, rfl, hts, by rw [List.length_map, lts]; exact (by decide : 4 < sizeLine), ?_⟩
  have F0 : FoundAt (upd J9 f3 (.lst (ts.map V.ref ++ [V.ref t54]))) f3 (firstW [armsW ky, rowW kx]) 5 := ⟨ts ++ [t54], by rw [upd_same, List.map_append]; rfl, by simp [lts], fun t ht => by
    have w2 : J9 t = some (.tup [.str (firstW [armsW ky, rowW kx]).1, (firstW [armsW ky, rowW kx]).2]) := by
      rcases List.mem_append.mp ht with ht | ht
      · exact wts t ht
      · rw [List.mem_singleton.mp ht]
        exact wt54
    rw [upd_ne (ne_of w2 hts (by intro z; cases z))]
    exact w2⟩
  have wd : upd J9 f3 (.lst (ts.map V.ref ++ [V.ref t54])) du = some (.tup [.str (firstW [armsW ky, rowW kx]).1, (firstW [armsW ky, rowW kx]).2]) := by
    rw [upd_ne (ne_of wd hts (by intro z; cases z))]
    exact wd
  have eJ10 : ExtN H (upd J9 f3 (.lst (ts.map V.ref ++ [V.ref t54]))) := fun c o ec nt => by
    rw [upd_ne (nf c o ec nt)]
    exact eJ9 c o ec nt
  have TJ10 : Tabs (TT K) (upd J9 f3 (.lst (ts.map V.ref ++ [V.ref t54]))) := tabs_upd TJ9 hts
  generalize upd J9 f3 (.lst (ts.map V.ref ++ [V.ref t54])) = J10 at F0 wd eJ10 TJ10 ⊢
  clear hts lts wts wt54 nf
  obtain ⟨ts, hts, lts, wts⟩ := F0
  refine ⟨_, rfl, f3, rfl, ⟨_, SqL.of hts⟩, fun D hD => itL (xs := ts.map V.ref) (fun i H3 => Same J10 H3 ∧ H3 D = some (.lst ((List.replicate i false).map V.bl))) ⟨same_new hD, upd_same⟩ (fun i H3 _ p => SqL.of (p.1 _ _ hts)) ?_ ?_⟩
  · rintro i v H3 hv ⟨s3, hacc⟩
    rw [List.getElem?_map] at hv
    obtain ⟨t, et, rfl⟩ := Option.map_eq_some_iff.mp hv
    have hi : i < ts.length := (List.getElem?_eq_some_iff.mp et).1
    refine ⟨rfl, _, rfl, _, rfl, neW (s3 _ _ (wts t (List.mem_of_getElem? et))) (s3 _ _ wd) okD okD ⟨_, hacc, ?_, fun c o ec => ?_, ?_⟩⟩
    · rw [List.length_map, List.length_replicate]
      have : sizeLine = 16777216 := sizeLine_eq
      omega
    · rw [upd_ne (fun z => by rw [z, hD] at ec; cases ec)]
      exact s3 _ _ ec
    · rw [upd_same, decide_eq_true (rfl : (firstW [armsW ky, rowW kx]) = (firstW [armsW ky, rowW kx])), List.replicate_succ', List.map_append]
      rfl
  rintro J11 ⟨s3, hacc⟩
  refine ⟨D, _, rfl, SqL.of hacc, _, rfl, ?_⟩
  rw [show ((List.replicate (ts.map V.ref).length false).any id) = false by simp]
  have eJ11 := eJ10.trans (.of s3)
  have TJ11 := TJ10.ext s3
  have wd := s3 _ _ wd
  clear s3 hacc hD hts lts wts
  refine iteF ⟨TJ11, fun Jd ed Td => tTT_by (rowW kx) (fun Q' h => ?_) fun t55 J12 e12 TJ12 wt55 => ?_⟩
  · have hxd := hx.ext (eJ11.trans ed)
    have hyd := hy.ext (eJ11.trans ed)
    have hzd := hz.ext (eJ11.trans ed)
    refine ⟨_, rfl, x, kx, rfl, hxd, fun v ev => ?_, fun e2 v H' s' => ?_⟩
    · rw [rowW_s ev] at h
      exact h.row Td
    · rw [rowW_n e2] at h
      exact Rs.fine h (.of s') (Td.ext s')
  have ee12 := ed.trans e12
  have eJ12 := eJ11.trans ee12
  have wd := ee12 _ _ wd fun ps z => nomatch z
  clear ee12 e12 ed Td
  refine ⟨_, rfl, x, kx, rfl, hx.ext eJ12, fun tr J13 s3 wr => neW (s3 _ _ wt55) wr (ok_row kx) (ok_row kx) ⟨_, rfl, ?_⟩⟩
  rw [decide_eq_true (rfl : rowW kx = rowW kx)]
  have eJ13 := eJ12.trans (.of s3)
  have TJ13 := TJ12.ext s3
  have wd := s3 _ _ wd
  clear s3 wr wt55
  refine iteF ⟨_, rfl, sz2, fun t8 ht8 => eqW (q := noW) ((same_new ht8) _ _ wd) upd_same okD ok_no ⟨_, rfl, ?_⟩⟩
  have s3 := same_new (o := .tup [.str "none", .int 0]) ht8
  have eJ14 := eJ13.trans (.of s3)
  have TJ14 := TJ13.ext s3
  have wd := s3 _ _ wd
  generalize upd J13 t8 (.tup [.str "none", .int 0]) = J14 at wd eJ14 TJ14 ⊢
  clear s3 ht8
  have alt : ∃ W : Wd, W = sW kx ky kz := ⟨_, rfl⟩
  obtain ⟨W, eW⟩ := alt
  have okW' : okW W = true := by
    rw [eW]
    unfold sW
    by_cases hn : (firstW [armsW ky, rowW kx]) = noW
    · rw [if_pos hn]
      exact ok_pW _ _
    · rw [if_neg hn]
      exact okD
  rcases Decidable.em ((firstW [armsW ky, rowW kx]) = noW) with hn | hn
  rotate_left
  rw [decide_eq_false hn]
  have wd' : J14 du = some (.tup [.str W.1, W.2]) := by
    rw [eW]
    unfold sW
    rw [if_neg hn]
    exact wd
  refine iteF (iteF ?_)
  have eZ := eJ14
  have TZ := TJ14
  generalize J14 = Z at eZ TZ wd' ⊢
  generalize du = dz at wd' ⊢
  clear wd
  rotate_left
  rw [decide_eq_true hn]
  obtain ⟨n1, n2⟩ := first2_no hn
  obtain ⟨ns, r, R⟩ := rowOk_of (armsW_i n1) (rowW_i n2)
  obtain ⟨a, rfl, hqa, _⟩ := hx.sq R.row
  have eln : (((ns.map V.int).length : Nat) : Int) = lenOf kx := by
    unfold lenOf
    rw [R.row]
  refine iteT ⟨_, rfl, _, rfl, a, _, rfl, hqa.ext eJ14, _, _, rfl, rfl, z, kz, 0, _, rfl, hz.ext eJ14, _, rfl, ?_⟩
  rw [eln]
  rcases Bool.eq_false_or_eq_true (isN kz 0 (lenOf kx - 1)) with ez | ez
  rw [ez]
  have wd' : J14 du = some (.tup [.str W.1, W.2]) := by
    rw [eW]
    unfold sW
    rw [if_pos hn, pW_t ez]
    rw [hn] at wd
    exact wd
  refine iteF ?_
  have eZ := eJ14
  have TZ := TJ14
  generalize J14 = Z at eZ TZ wd' ⊢
  generalize du = dz at wd' ⊢
  clear wd
  rotate_left
  rw [ez]
  refine iteT ⟨sz2, fun dz hdz => ?_⟩
  have wd' : upd J14 dz (.tup [.str "place", .int 0]) dz = some (.tup [.str W.1, W.2]) := by
    rw [eW]
    unfold sW
    rw [if_pos hn, pW_f ez]
    exact upd_same
  have s3 := same_new (o := .tup [.str "place", .int 0]) hdz
  have eZ := eJ14.trans (.of s3)
  have TZ := TJ14.ext s3
  generalize upd J14 dz (.tup [.str "place", .int 0]) = Z at eZ TZ wd' ⊢
  clear wd s3
  rotate_left
  all_goals
    refine ⟨TZ, fun Jd ed Td => tTT_by (sW kx ky kz) (fun Q' h => ?_) fun t56 Y eY TY w56 => ?_⟩
    · rw [show (sW kx ky kz) = sW kx ky kz from rfl] at h
      refine ⟨_, rfl, _, rfl, _, rfl, rfl, rfl, _, z, y, kx, kz, ky, rfl, hx.ext (eZ.trans ed), hz.ext (eZ.trans ed), hy.ext (eZ.trans ed), Td, sW_pre Td h, fun ns r R => ⟨fun ez => ?_, fun ez v H' e' t' => ?_⟩⟩
      · exact (sW_place R ez h).place Td
      · exact Rs.fine (sW_fine R ez h) e' t'
    have wd'' := eY _ _ (ed _ _ wd' fun ps z => nomatch z) fun ps z => nomatch z
    rw [← eW] at w56
    refine ⟨_, rfl, neW w56 wd'' okW' okW' ⟨_, rfl, ?_⟩⟩
    rw [decide_eq_true (rfl : W = W)]
    have eYY := (eZ.trans ed).trans eY
    refine iteF ⟨TY, fun Je ef Te => tTT_by (sW kx ky kz) (fun Q' h => ?_) fun t57 X eX TX w57 => ?_⟩
    · rw [show (sW kx ky kz) = sW kx ky kz from rfl] at h
      refine ⟨_, rfl, _, rfl, _, rfl, rfl, rfl, _, z, y, kx, kz, ky, rfl, hx.ext (eYY.trans ef), hz.ext (eYY.trans ef), hy.ext (eYY.trans ef), Te, sW_pre Te h, fun ns r R => ⟨fun ez => ?_, fun ez v H' e' t' => ?_⟩⟩
      · exact (sW_place R ez h).place Te
      · exact Rs.fine (sW_fine R ez h) e' t'
    rw [← eW] at w57
    refine ⟨_, rfl, eqW w57 (eX _ _ (ef _ _ wd'' fun ps z => nomatch z) fun ps z => nomatch z) okW' okW' ?_⟩
    rw [decide_eq_true (rfl : W = W)]
    exact h1 X ((eYY.trans ef).trans eX) TX
end
end K7
/-! heaps are refused as they should be -/
namespace K7
open PySem PySem.Spec PyProof.Rows L2 He
open LamX (Tabs TabS TabB ExtN CodeO lamEnv)
theorem sz3 : 3 ≤ sizeLine := by decide
def toI : V → Int
  | .int n => n
  | _ => 0
theorem toI_map (ns : List Int) : (ns.map V.int).map toI = ns := by
  rw [List.map_map]
  exact (List.map_congr_left fun n _ => rfl).trans (List.map_id ns)
def intsOf (k : KV) : List Int := match rowOf k with
  | some xs => xs.map toI
  | none => []
def armOf : KV → Nat
  | .int n => n.toNat
  | _ => 0
/-- the word of a heap and its arms -/
def HD (kx ky : KV) : Wd := if armsW ky = noW then (match rowErr kx with
  | some v => (("row" : Str), v)
  | none => heapWI (armOf ky) (intsOf kx)) else armsW ky
theorem HD_arms {kx ky : KV} (h : ¬ armsW ky = noW) : HD kx ky = armsW ky := if_neg h
theorem HD_row {kx ky : KV} {v : V} (h : armsW ky = noW) (e : rowErr kx = some v) : HD kx ky = (("row" : Str), v) := by
  unfold HD
  rw [if_pos h, e]
theorem HD_heap {kx : KV} {r : Nat} {ns : List Int} (h : armsW (.int (r : Int)) = noW) (e : rowErr kx = none) (er : rowOf kx = some (ns.map V.int)) : HD kx (.int (r : Int)) = heapWI r ns := by
  unfold HD
  rw [if_pos h, e]
  unfold intsOf armOf
  rw [er]
  dsimp only
  rw [toI_map, Int.toNat_natCast]
theorem HD_ok {kx ky : KV} {ns : List Int} {r : Nat} (R : RowOk kx ky ns r) : HD kx ky = heapWI r ns := by
  obtain ⟨e1, e2⟩ := rowOk_pre R
  have ea := R.arm
  subst ea
  exact HD_heap (armsW_t e1) e2 R.row
theorem HD_no {kx ky : KV} (h : HD kx ky = noW) : ∃ ns r, HeapOk kx ky ns r := by
  by_cases ha : armsW ky = noW
  · cases he : rowErr kx with
    | some v => rw [HD_row ha he] at h; exact absurd h ne_row
    | none =>
      obtain ⟨ns, r, R⟩ := rowOk_of (armsW_i ha) he
      refine ⟨ns, r, R, ?_⟩
      rw [HD_ok R] at h
      unfold heapWI at h
      cases ef : faultsI r ns ns.length with
      | nil => rfl
      | cons p rest => rw [ef] at h; exact absurd h ne_heap
  · rw [HD_arms ha] at h
    exact absurd h ha
theorem HD_t {kx ky : KV} {ns : List Int} {r : Nat} (R : HeapOk kx ky ns r) : HD kx ky = noW := by
  rw [HD_ok R.toRowOk]
  unfold heapWI
  rw [R.ok]
theorem ok_HD (kx ky : KV) : okW (HD kx ky) = true := by
  unfold HD
  by_cases h : armsW ky = noW
  · rw [if_pos h]
    cases e : rowErr kx with
    | some v =>
      have := ok_row kx
      rw [rowW_s e] at this
      exact this
    | none => exact ok_heap _ _
  · rw [if_neg h]
    exact ok_arms ky
theorem lenOf_eq {kx ky : KV} {ns : List Int} {r : Nat} (R : RowOk kx ky ns r) : lenOf kx = (ns.length : Int) := by
  unfold lenOf
  rw [R.row]
  exact ml ns
def fullW (kx ky : KV) : Wd := if HD kx ky = noW ∧ lenOf kx = 12 then (("full" : Str), .int 0) else noW
def emptyW (kx ky : KV) : Wd := if HD kx ky = noW ∧ lenOf kx = 0 then (("empty" : Str), .int 0) else noW
theorem fullW_t {kx ky : KV} {ns : List Int} {r : Nat} (R : HeapOk kx ky ns r) (h : ns.length = 12) : fullW kx ky = (("full" : Str), .int 0) := if_pos ⟨HD_t R, by rw [lenOf_eq R.toRowOk, h]; rfl⟩
theorem fullW_f {kx ky : KV} {ns : List Int} {r : Nat} (R : HeapOk kx ky ns r) (h : ¬ ns.length = 12) : fullW kx ky = noW := if_neg fun z => h (by have := z.2; rw [lenOf_eq R.toRowOk] at this; omega)
theorem fullW_n {kx ky : KV} (h : ¬ HD kx ky = noW) : fullW kx ky = noW := if_neg fun z => h z.1
theorem emptyW_t {kx ky : KV} {ns : List Int} {r : Nat} (R : HeapOk kx ky ns r) (h : ns.length = 0) : emptyW kx ky = (("empty" : Str), .int 0) := if_pos ⟨HD_t R, by rw [lenOf_eq R.toRowOk, h]; rfl⟩
theorem emptyW_f {kx ky : KV} {ns : List Int} {r : Nat} (R : HeapOk kx ky ns r) (h : ¬ ns.length = 0) : emptyW kx ky = noW := if_neg fun z => h (by have := z.2; rw [lenOf_eq R.toRowOk] at this; omega)
theorem emptyW_n {kx ky : KV} (h : ¬ HD kx ky = noW) : emptyW kx ky = noW := if_neg fun z => h z.1
theorem ok_full (kx ky : KV) : okW (fullW kx ky) = true := by
  by_cases h : HD kx ky = noW ∧ lenOf kx = 12
  · rw [show fullW kx ky = _ from if_pos h]; decide +kernel
  · rw [show fullW kx ky = _ from if_neg h]; exact ok_no
theorem ok_empty (kx ky : KV) : okW (emptyW kx ky) = true := by
  by_cases h : HD kx ky = noW ∧ lenOf kx = 0
  · rw [show emptyW kx ky = _ from if_pos h]; decide +kernel
  · rw [show emptyW kx ky = _ from if_neg h]; exact ok_no
theorem told_preH {K : PySem.W.Frag} {H : Hp} {Q : VK} {kx ky : KV} {ps : List Wd} (tT : Tabs (TT K) H) (h : Rs K H (firstW (HD kx ky :: ps)) Q) : preH K kx ky H (EQ K Q) := by
  refine ⟨⟨fun e => ?_, fun e v ev => ?_⟩, fun ns r R p rest ef => ?_⟩
  · have : HD kx ky = (("wide" : Str), .int 0) := by rw [HD_arms (by rw [armsW_f e]; exact ne_wide), armsW_f e]
    rw [this, first_in ne_wide] at h
    exact h.wide tT
  · rw [HD_row (armsW_t e) ev, first_in ne_row] at h
    exact h.row tT
  · have : HD kx ky = (("heap" : Str), .int p) := by
      rw [HD_ok R]
      unfold heapWI
      rw [ef]
    rw [this, first_in ne_heap] at h
    exact h.heap tT
theorem told_heap {K : PySem.W.Frag} {H : Hp} {Q : VK} {kx ky : KV} {ns : List Int} {r : Nat} {ps : List Wd} (R : HeapOk kx ky ns r) (h : Rs K H (firstW (HD kx ky :: ps)) Q) : Rs K H (firstW ps) Q := by
  rw [HD_t R, first_no] at h
  exact h
section
variable {w : World} {K : PySem.W.Frag} {mg : Str → Option Value} {base : Heap}
theorem sc_law_heaps_right : FnScope ["row", "wide", "key", "due", "good", "full", "empty", "found", "word"] ["row", "wide", "key"] (defScope s_law_heaps_right) := ⟨rfl, rfl, rfl, by decide +kernel, rfl, by decide +kernel, by decide +kernel⟩
theorem F_law_heaps_right (T : TX K mg base) : FnR Pr w K mg base (LC w) 16 (a_law_heaps_right K) (spRight K) := by
  obtain ⟨fd, F⟩ := T.f_law_heaps_right
  refine fnr_ofC (p := ("_law_heaps_right", none)) (ps := ["row", "wide", "key"]) (N := ["row", "wide", "key", "due", "good", "full", "empty", "found", "word"]) F rfl (fun _ _ _ _ _ _ us hl => match us, hl with | [_, _, _], _ => rfl) sc_law_heaps_right (fun vs H Q E h => by obtain ⟨x, y, z, kx, ky, kz, rfl, _⟩ := h; rfl) fun cdv A outer s H vs Q E hc hr h => ?_
  obtain ⟨x, y, z, kx, ky, kz, rfl, hx, hy, hz, hT, h1⟩ := h
  have mem : (("_law_heaps_right", none) : He.Defn) ∈ tf := by decide
  obtain ⟨tA, hA, rA⟩ : ∃ t, PSs (cxOf (LC w) Pr w K mg base ["row", "wide", "key", "due", "good", "full", "empty", "found", "word"] "_law_heaps_right" (defScope s_law_heaps_right) (a_law_heaps_right K) cdv A outer s H E) ((defBody s_law_heaps_right).drop 4) t ∧ ∀ (du g fu em : Addr) (Z : Hp), ExtN H Z → Tabs (TT K) Z → Z du = some (.tup [.str (HD kx ky).1, (HD kx ky).2]) → Z g = some (.tup [.str (keyW kz).1, (keyW kz).2]) → Z fu = some (.tup [.str (fullW kx ky).1, (fullW kx ky).2]) → Z em = some (.tup [.str (emptyW kx ky).1, (emptyW kx ky).2]) → t { nx := fun _ H' => Q .non H', rt := Q } [some x, some y, some z, some (.ref du), some (.ref g), some (.ref fu), some (.ref em), none, none] Z := by
    refine ⟨_, pss_cons (ps_if (pt_cmpR (op_neD hr.units) (pe_told (TT := TT K) (a := "ka") (k := 12) (t := fun E => tClK 2 1 (sp_push K) E (tCons (tVar 0) (tCons (tVar 2) tNil)) (tCons (tVar 1) tNil)) T rfl (T.tab _ mem) hc (tt_m mem) (tt_u T.tabs_nd mem) (hr.mono (by decide)) (lam1_by (N := ["row", "wide", "key", "due", "good", "full", "empty", "found", "word"]) (sc := defScope s_law_heaps_right) (by decide +kernel)) rfl (fun _ _ _ _ _ _ => rfl) (fun A outer s H E f c' hr' => pe_clK (ks := [("arms" : Str)]) (F_push T) (hr'.mono (by decide)) rfl T.g_push (kpF T.f_push) pLam (pa_cons (pv 0) (pa_cons (pv 2) pa_nil)) (pk_cons (pv 1) pk_nil))) (pe_cl (F_law_first_word T) (hr.mono (by decide)) rfl T.g_law_first_word (kpF T.f_law_first_word) pX (pa_cons (pe_lst (pa_cons (pv 3) (pa_cons (pv 4) (pa_cons (pv 5) pa_nil)))) pa_nil)) (nomark _)) (pss_one (ps_ret pe_bl)) pss_nil)
    (pss_cons (ps_if (pt_cmpR (op_neD hr.units) (pe_told (TT := TT K) (a := "ka") (k := 12) (t := fun E => tClK 2 1 (sp_put_for K) E (tCons (tVar 0) (tCons (tVar 2) tNil)) (tCons (tVar 1) tNil)) T rfl (T.tab _ mem) hc (tt_m mem) (tt_u T.tabs_nd mem) (hr.mono (by decide)) (lam1_by (N := ["row", "wide", "key", "due", "good", "full", "empty", "found", "word"]) (sc := defScope s_law_heaps_right) (by decide +kernel)) rfl (fun _ _ _ _ _ _ => rfl) (fun A outer s H E f c' hr' => pe_clK (ks := [("arms" : Str)]) (F_put_for T) (hr'.mono (by decide)) rfl T.g_put_for (kpF T.f_put_for) pLam (pa_cons (pv 0) (pa_cons (pv 2) pa_nil)) (pk_cons (pv 1) pk_nil))) (pe_cl (F_law_first_word T) (hr.mono (by decide)) rfl T.g_law_first_word (kpF T.f_law_first_word) pX (pa_cons (pe_lst (pa_cons (pv 3) (pa_cons (pv 4) (pa_cons (pv 6) pa_nil)))) pa_nil)) (nomark _)) (pss_one (ps_ret pe_bl)) pss_nil)
    (pss_cons (ps_set (i := 7) sc_law_heaps_right.nd rfl (.inl rfl) (pe_lst (pa_cons (pe_told (TT := TT K) (a := "ka") (k := 12) (t := fun E => tClK 1 1 (sp_take K) E (tCons (tVar 0) tNil) (tCons (tVar 1) tNil)) T rfl (T.tab _ mem) hc (tt_m mem) (tt_u T.tabs_nd mem) (hr.mono (by decide)) (lam1_by (N := ["row", "wide", "key", "due", "good", "full", "empty", "found", "word"]) (sc := defScope s_law_heaps_right) (by decide +kernel)) rfl (fun _ _ _ _ _ _ => rfl) (fun A outer s H E f c' hr' => pe_clK (ks := [("arms" : Str)]) (F_take T) (hr'.mono (by decide)) rfl T.g_take (kpF T.f_take) pLam (pa_cons (pv 0) pa_nil) (pk_cons (pv 1) pk_nil))) pa_nil)))
    (pss_cons (ps_set (i := 7) sc_law_heaps_right.nd rfl (.inl rfl) (pe_op op_cat (pv 7) (pe_lst (pa_cons (pe_told (TT := TT K) (a := "kb") (k := 12) (t := fun E => tClK 1 1 (sp_take K) E (tCons (tVar 0) tNil) (tCons (tVar 1) tNil)) T rfl (T.tab _ mem) hc (tt_m mem) (tt_u T.tabs_nd mem) (hr.mono (by decide)) (lam1_by (N := ["row", "wide", "key", "due", "good", "full", "empty", "found", "word"]) (sc := defScope s_law_heaps_right) (by decide +kernel)) rfl (fun _ _ _ _ _ _ => rfl) (fun A outer s H E f c' hr' => pe_clK (ks := [("arms" : Str)]) (F_take_by_hole T) (hr'.mono (by decide)) rfl T.g_take_by_hole (kpF T.f_take_by_hole) pLam (pa_cons (pv 0) pa_nil) (pk_cons (pv 1) pk_nil))) pa_nil))))
    (pss_one (ps_ret (pe_callB (cr_all rfl) rfl T.n_all (by decide +kernel) (pa_cons (pe_lc (own := [("word", 8)]) (g := gName 8) (tt := tYes) (te := tOp (rEqD K) (tVar 8) (tCl (spFW K) E0 (tCons (tLst (tCons (tVar 3) (tCons (tVar 6) tNil))) tNil))) rfl sc_law_heaps_right.nd (pi_list (pv 7)) (blkOk_by (own := [("word", 8)]) (N := ["row", "wide", "key", "due", "good", "full", "empty", "found", "word"]) (sc := defScope s_law_heaps_right) (by decide +kernel)) (fun _ _ _ _ _ => pg_name (i := 8) sc_law_heaps_right.nd rfl (Or.inl rfl)) (fun _ _ _ _ _ => pts_nil) (fun _ _ _ _ _ => pe_cmpR (op_eqD hr.units) (pv 8) (pe_cl (F_law_first_word T) (hr.mono (by decide)) rfl T.g_law_first_word (kpF T.f_law_first_word) passL (pa_cons (pe_lst (pa_cons (pv 3) (pa_cons (pv 6) pa_nil))) pa_nil)) (nomark _))) pa_nil))))))), fun du g fu em Z eZ TZ wd wg wf we => ?_⟩
    refine ⟨TZ, fun Jd ed Td => tTT_by (firstW [(HD kx ky), (keyW kz), (fullW kx ky)]) (fun Q' h => ?_) fun t0 Z0 e0 TZ0 w0 => ?_⟩
    · have hxd := hx.ext (eZ.trans ed)
      have hyd := hy.ext (eZ.trans ed)
      have hzd := hz.ext (eZ.trans ed)
      refine ⟨_, rfl, _, rfl, _, rfl, rfl, rfl, x, z, y, kx, kz, ky, rfl, hxd, hzd, hyd, Td, told_preH Td h, fun ns r R => ?_⟩
      have h := told_heap R h
      refine ⟨fun ek => ?_, fun ek => ⟨fun el => ?_, fun el v H' e' t' => ?_⟩⟩
      · rw [keyW_f ek, first_in ne_key] at h
        exact h.key Td
      · rw [keyW_t ek, first_no, fullW_t R el, first_in ne_full] at h
        exact h.full Td
      · rw [keyW_t ek, first_no, fullW_f R el, first_no] at h
        exact Rs.fine h e' t'
    have ee := ed.trans e0
    have eZ0 := eZ.trans ee
    have wd := ee _ _ wd fun ps z => nomatch z
    have wg := ee _ _ wg fun ps z => nomatch z
    have wf := ee _ _ wf fun ps z => nomatch z
    have we := ee _ _ we fun ps z => nomatch z
    refine ⟨_, rfl, _, rfl, _, rfl, sz3, fun l hl => ⟨l, [du, g, fu], [(HD kx ky), (keyW kz), (fullW kx ky)], rfl, upd_same, .cons ((same_new hl) _ _ wd) (ok_HD kx ky) (.cons ((same_new hl) _ _ wg) (ok_key kz) (.cons ((same_new hl) _ _ wf) (ok_full kx ky) .nil)), by simp, fun tf0 Z1 sf wf0 => ?_⟩⟩
    have sf := (same_new hl).trans sf
    have okp : okW (firstW [(HD kx ky), (keyW kz), (fullW kx ky)]) = true := ok_first _ fun p hp => by
      simp only [List.mem_cons, List.not_mem_nil, or_false] at hp
      rcases hp with e | e | e <;> rw [e]
      · exact (ok_HD kx ky)
      · exact (ok_key kz)
      · exact (ok_full kx ky)
    refine neW (sf _ _ w0) wf0 okp okp ⟨_, rfl, ?_⟩
    rw [decide_eq_true (rfl : firstW [(HD kx ky), (keyW kz), (fullW kx ky)] = firstW [(HD kx ky), (keyW kz), (fullW kx ky)])]
    have eZ1 := eZ0.trans (.of sf)
    have TZ1 := TZ0.ext sf
    have wd := sf _ _ wd
    have wg := sf _ _ wg
    have wf := sf _ _ wf
    have we := sf _ _ we
    refine iteF ?_
    refine ⟨TZ1, fun Jd ed Td => tTT_by (firstW [(HD kx ky), (keyW kz), (emptyW kx ky)]) (fun Q' h => ?_) fun t1 Z2 e1 TZ2 w1 => ?_⟩
    · have hxd := hx.ext (eZ1.trans ed)
      have hyd := hy.ext (eZ1.trans ed)
      have hzd := hz.ext (eZ1.trans ed)
      refine ⟨_, rfl, _, rfl, _, rfl, rfl, rfl, x, z, y, kx, kz, ky, rfl, hxd, hzd, hyd, Td, told_preH Td h, fun ns r R => ?_⟩
      have h := told_heap R h
      refine ⟨fun ek => ?_, fun ek => ⟨fun el => ?_, fun el v H' e' t' => ?_⟩⟩
      · rw [keyW_f ek, first_in ne_key] at h
        exact h.key Td
      · rw [keyW_t ek, first_no, emptyW_t R el, first_in ne_empty] at h
        exact h.empty Td
      · rw [keyW_t ek, first_no, emptyW_f R el, first_no] at h
        exact Rs.fine h e' t'
    have ee := ed.trans e1
    have eZ2 := eZ1.trans ee
    have wd := ee _ _ wd fun ps z => nomatch z
    have wg := ee _ _ wg fun ps z => nomatch z
    have wf := ee _ _ wf fun ps z => nomatch z
    have we := ee _ _ we fun ps z => nomatch z
    refine ⟨_, rfl, _, rfl, _, rfl, sz3, fun l hl => ⟨l, [du, g, em], [(HD kx ky), (keyW kz), (emptyW kx ky)], rfl, upd_same, .cons ((same_new hl) _ _ wd) (ok_HD kx ky) (.cons ((same_new hl) _ _ wg) (ok_key kz) (.cons ((same_new hl) _ _ we) (ok_empty kx ky) .nil)), by simp, fun tf1 Z3 sf wf1 => ?_⟩⟩
    have sf := (same_new hl).trans sf
    have okp : okW (firstW [(HD kx ky), (keyW kz), (emptyW kx ky)]) = true := ok_first _ fun p hp => by
      simp only [List.mem_cons, List.not_mem_nil, or_false] at hp
      rcases hp with e | e | e <;> rw [e]
      · exact (ok_HD kx ky)
      · exact (ok_key kz)
      · exact (ok_empty kx ky)
    refine neW (sf _ _ w1) wf1 okp okp ⟨_, rfl, ?_⟩
    rw [decide_eq_true (rfl : firstW [(HD kx ky), (keyW kz), (emptyW kx ky)] = firstW [(HD kx ky), (keyW kz), (emptyW kx ky)])]
    have eZ3 := eZ2.trans (.of sf)
    have TZ3 := TZ2.ext sf
    have wd := sf _ _ wd
    have wg := sf _ _ wg
    have wf := sf _ _ wf
    have we := sf _ _ we
    refine iteF ?_
    refine ⟨TZ3, fun Jd ed Td => tTT_by (firstW [(HD kx ky), (emptyW kx ky)]) (fun Q' h => ?_) fun t2 Z4 e2 TZ4 w2 => ?_⟩
    · have hxd := hx.ext (eZ3.trans ed)
      have hyd := hy.ext (eZ3.trans ed)
      have hzd := hz.ext (eZ3.trans ed)
      refine ⟨_, rfl, _, rfl, rfl, rfl, x, y, kx, ky, rfl, hxd, hyd, Td, told_preH Td h, fun ns r R => ?_⟩
      have h := told_heap R h
      refine ⟨fun el => ?_, fun el v H' e' t' => ?_⟩
      · rw [emptyW_t R el, first_in ne_empty] at h
        exact h.empty Td
      · rw [emptyW_f R el, first_no] at h
        exact Rs.fine h e' t'
    have ee := ed.trans e2
    have eZ4 := eZ3.trans ee
    have wd := ee _ _ wd fun ps z => nomatch z
    have wg := ee _ _ wg fun ps z => nomatch z
    have wf := ee _ _ wf fun ps z => nomatch z
    have we := ee _ _ we fun ps z => nomatch z
    refine ⟨(by decide : 1 ≤ sizeLine), fun f0 hf0 => ?_⟩
    have sf := same_new (o := .lst [.ref t2]) hf0
    have F0 : FoundAt (upd Z4 f0 (.lst [.ref t2])) f0 (firstW [(HD kx ky), (emptyW kx ky)]) 1 := ⟨[t2], upd_same, rfl, fun t ht => by
      rw [List.mem_singleton.mp ht]
      exact sf _ _ w2⟩
    have eZ5 := eZ4.trans (.of sf)
    have TZ5 := TZ4.ext sf
    have wd := sf _ _ wd
    have wg := sf _ _ wg
    have wf := sf _ _ wf
    have we := sf _ _ we
    generalize upd Z4 f0 (.lst [.ref t2]) = Z5 at F0 eZ5 TZ5 wd wg wf we ⊢
    refine ⟨_, rfl, ?_⟩
    refine ⟨TZ5, fun Jd ed Td => tTT_by (firstW [(HD kx ky), (emptyW kx ky)]) (fun Q' h => ?_) fun t3 Z6 e3 TZ6 w3 => ?_⟩
    · have hxd := hx.ext (eZ5.trans ed)
      have hyd := hy.ext (eZ5.trans ed)
      have hzd := hz.ext (eZ5.trans ed)
      refine ⟨_, rfl, _, rfl, rfl, rfl, x, y, kx, ky, rfl, hxd, hyd, Td, told_preH Td h, fun ns r R => ?_⟩
      have h := told_heap R h
      refine ⟨fun el => ?_, fun el v H' e' t' => ?_⟩
      · rw [emptyW_t R el, first_in ne_empty] at h
        exact h.empty Td
      · rw [emptyW_f R el, first_no] at h
        exact Rs.fine h e' t'
    have ee := ed.trans e3
    have eZ6 := eZ5.trans ee
    have wd := ee _ _ wd fun ps z => nomatch z
    have wg := ee _ _ wg fun ps z => nomatch z
    have wf := ee _ _ wf fun ps z => nomatch z
    have we := ee _ _ we fun ps z => nomatch z
    have F0 := F0.ext ee
    obtain ⟨ts, hts, lts, wts⟩ := F0
    refine ⟨(by decide : 1 ≤ sizeLine), fun q hq => ⟨f0, q, _, _, rfl, rfl, (same_new hq) _ _ hts, upd_same, by rw [List.length_map, lts]; exact (by decide : 1 + 1 ≤ sizeLine), fun f1 hf1 => ?_⟩⟩
    have sf := (same_new (o := .lst [.ref t3]) hq).trans (same_new (o := .lst (ts.map V.ref ++ [V.ref t3])) hf1)
    have hts1 : upd (upd Z6 q (.lst [.ref t3])) f1 (.lst (ts.map V.ref ++ [V.ref t3])) f1 = some (.lst ((ts ++ [t3]).map V.ref)) := by rw [upd_same, List.map_append]; rfl
    have wts1 : ∀ t ∈ ts ++ [t3], upd (upd Z6 q (.lst [.ref t3])) f1 (.lst (ts.map V.ref ++ [V.ref t3])) t = some (.tup [.str (firstW [(HD kx ky), (emptyW kx ky)]).1, (firstW [(HD kx ky), (emptyW kx ky)]).2]) := fun t ht => by
      rcases List.mem_append.mp ht with ht | ht
      · exact sf _ _ (wts t ht)
      · rw [List.mem_singleton.mp ht]
        exact sf _ _ w3
    have lts1 : (ts ++ [t3]).length = 2 := by simp [lts]
    have eZ7 := eZ6.trans (.of sf)
    have TZ7 := TZ6.ext sf
    have wd := sf _ _ wd
    have we := sf _ _ we
    generalize upd (upd Z6 q (.lst [.ref t3])) f1 (.lst (ts.map V.ref ++ [V.ref t3])) = Z7 at hts1 wts1 eZ7 TZ7 wd we ⊢
    generalize ts ++ [t3] = us at hts1 wts1 lts1
    have okp : okW (firstW [(HD kx ky), (emptyW kx ky)]) = true := ok_first _ fun p hp => by
      simp only [List.mem_cons, List.not_mem_nil, or_false] at hp
      rcases hp with e | e <;> rw [e]
      · exact (ok_HD kx ky)
      · exact (ok_empty kx ky)
    refine ⟨_, rfl, f1, rfl, ⟨_, SqL.of hts1⟩, fun D hD => itL (xs := us.map V.ref) (fun i H3 => Same Z7 H3 ∧ H3 D = some (.lst ((List.replicate i true).map V.bl))) ⟨same_new hD, upd_same⟩ (fun i H3 _ p => SqL.of (p.1 _ _ hts1)) ?_ ?_⟩
    · rintro i v H3 hv ⟨s3, hacc⟩
      rw [List.getElem?_map] at hv
      obtain ⟨t, et, rfl⟩ := Option.map_eq_some_iff.mp hv
      have hi : i < us.length := (List.getElem?_eq_some_iff.mp et).1
      refine ⟨rfl, _, rfl, _, rfl, _, rfl, sz2, fun l hl => ⟨l, [du, em], [(HD kx ky), (emptyW kx ky)], rfl, upd_same, .cons ((same_new hl) _ _ (s3 _ _ wd)) (ok_HD kx ky) (.cons ((same_new hl) _ _ (s3 _ _ we)) (ok_empty kx ky) .nil), by simp, fun tq H4 sq wq => ?_⟩⟩
      have s4 := (same_new hl).trans sq
      refine eqW (s4 _ _ (s3 _ _ (wts1 t (List.mem_of_getElem? et)))) wq okp okp ⟨_, s4 _ _ hacc, ?_, fun c o ec => ?_, ?_⟩
      · rw [List.length_map, List.length_replicate]
        have : sizeLine = 16777216 := sizeLine_eq
        omega
      · rw [upd_ne (fun z => by rw [z, hD] at ec; cases ec)]
        exact s4 _ _ (s3 _ _ ec)
      · rw [upd_same, decide_eq_true (rfl : firstW [(HD kx ky), (emptyW kx ky)] = firstW [(HD kx ky), (emptyW kx ky)]), List.replicate_succ', List.map_append]
        rfl
    · rintro H3 ⟨s3, hacc⟩
      refine ⟨D, _, rfl, SqL.of hacc, ?_⟩
      rw [show ((List.replicate (us.map V.ref).length true).all id) = true by simp]
      exact h1 H3 (eZ7.trans (.of s3)) (TZ7.ext s3)
  obtain ⟨tB, hB, rB⟩ : ∃ t, PSs (cxOf (LC w) Pr w K mg base ["row", "wide", "key", "due", "good", "full", "empty", "found", "word"] "_law_heaps_right" (defScope s_law_heaps_right) (a_law_heaps_right K) cdv A outer s H E) ((defBody s_law_heaps_right).drop 3) t ∧ ∀ (du g fu : Addr) (Z : Hp), ExtN H Z → Tabs (TT K) Z → Z du = some (.tup [.str (HD kx ky).1, (HD kx ky).2]) → Z g = some (.tup [.str (keyW kz).1, (keyW kz).2]) → Z fu = some (.tup [.str (fullW kx ky).1, (fullW kx ky).2]) → t { nx := fun _ H' => Q .non H', rt := Q } [some x, some y, some z, some (.ref du), some (.ref g), some (.ref fu), none, none, none] Z := by
    refine ⟨_, pss_cons (ps_set (i := 6) sc_law_heaps_right.nd rfl (.inr rfl) (pe_ifExp (PW.pt (pw_and (pt_cmpR (op_eqD hr.units) (pv 3) (pe_tup (pa_cons pe_str (pa_cons pe_int pa_nil))) (nomark _)) (pw_and1 (pt_cmpR op_eq (pe_callB call_len_seq rfl T.n_len PySem.boot_len (pa_cons (pv 0) pa_nil)) pe_int (nomark _))))) (pe_tup (pa_cons pe_str (pa_cons pe_int pa_nil))) (pe_tup (pa_cons pe_str (pa_cons pe_int pa_nil))))) hA, fun du g fu Z eZ TZ wd wg wf => ?_⟩
    refine ⟨_, rfl, sz2, fun t8 ht8 => eqW (q := noW) ((same_new ht8) _ _ wd) upd_same (ok_HD kx ky) ok_no ⟨_, rfl, ?_⟩⟩
    have sf := same_new (o := .tup [.str "none", .int 0]) ht8
    have eZ := eZ.trans (.of sf)
    have TZ := TZ.ext sf
    have wd := sf _ _ wd
    have wg := sf _ _ wg
    have wf := sf _ _ wf
    generalize upd Z t8 (.tup [.str "none", .int 0]) = Z1 at eZ TZ wd wg wf ⊢
    by_cases hn : HD kx ky = noW
    · rw [decide_eq_true hn]
      obtain ⟨ns, r, R⟩ := HD_no hn
      obtain ⟨a, eax, hqa, _⟩ := hx.sq R.row
      have eln := lenOf_eq R.toRowOk
      refine iteT ⟨_, rfl, a, ns.map V.int, by rw [eax], hqa.ext eZ, rfl, _, rfl, ?_⟩
      have e12 : (V.int (((ns.map V.int).length : Nat) : Int) = V.int 0) = (ns.length = 0) := by
        rw [List.length_map]
        refine propext ⟨fun z => by injection z with z; omega, fun z => by rw [z]; rfl⟩
      by_cases h12 : ns.length = 0
      · rw [show decide (V.int (((ns.map V.int).length : Nat) : Int) = V.int 0) = true from decide_eq_true (by rw [e12]; exact h12)]
        refine iteT ⟨sz2, fun t ht => ?_⟩
        have sn := same_new (o := .tup [.str "empty", .int 0]) ht
        exact rA du g fu t _ (eZ.trans (.of sn)) (TZ.ext sn) (sn _ _ wd) (sn _ _ wg) (sn _ _ wf) (by rw [emptyW_t R h12]; exact upd_same)
      · rw [show decide (V.int (((ns.map V.int).length : Nat) : Int) = V.int 0) = false from decide_eq_false (by rw [e12]; exact h12)]
        refine iteF ⟨sz2, fun t ht => ?_⟩
        have sn := same_new (o := .tup [.str "none", .int 0]) ht
        exact rA du g fu t _ (eZ.trans (.of sn)) (TZ.ext sn) (sn _ _ wd) (sn _ _ wg) (sn _ _ wf) (by rw [emptyW_f R h12]; exact upd_same)
    · rw [decide_eq_false hn]
      refine iteF (iteF ⟨sz2, fun t ht => ?_⟩)
      have sn := same_new (o := .tup [.str "none", .int 0]) ht
      exact rA du g fu t _ (eZ.trans (.of sn)) (TZ.ext sn) (sn _ _ wd) (sn _ _ wg) (sn _ _ wf) (by rw [emptyW_n hn]; exact upd_same)
  obtain ⟨tC, hC, rC⟩ : ∃ t, PSs (cxOf (LC w) Pr w K mg base ["row", "wide", "key", "due", "good", "full", "empty", "found", "word"] "_law_heaps_right" (defScope s_law_heaps_right) (a_law_heaps_right K) cdv A outer s H E) ((defBody s_law_heaps_right).drop 2) t ∧ ∀ (du g : Addr) (Z : Hp), ExtN H Z → Tabs (TT K) Z → Z du = some (.tup [.str (HD kx ky).1, (HD kx ky).2]) → Z g = some (.tup [.str (keyW kz).1, (keyW kz).2]) → t { nx := fun _ H' => Q .non H', rt := Q } [some x, some y, some z, some (.ref du), some (.ref g), none, none, none, none] Z := by
    refine ⟨_, pss_cons (ps_set (i := 5) sc_law_heaps_right.nd rfl (.inl rfl) (pe_ifExp (PW.pt (pw_and (pt_cmpR (op_eqD hr.units) (pv 3) (pe_tup (pa_cons pe_str (pa_cons pe_int pa_nil))) (nomark _)) (pw_and1 (pt_cmpR op_eq (pe_callB call_len_seq rfl T.n_len PySem.boot_len (pa_cons (pv 0) pa_nil)) pe_int (nomark _))))) (pe_tup (pa_cons pe_str (pa_cons pe_int pa_nil))) (pe_tup (pa_cons pe_str (pa_cons pe_int pa_nil))))) hB, fun du g Z eZ TZ wd wg => ?_⟩
    refine ⟨_, rfl, sz2, fun t8 ht8 => eqW (q := noW) ((same_new ht8) _ _ wd) upd_same (ok_HD kx ky) ok_no ⟨_, rfl, ?_⟩⟩
    have sf := same_new (o := .tup [.str "none", .int 0]) ht8
    have eZ := eZ.trans (.of sf)
    have TZ := TZ.ext sf
    have wd := sf _ _ wd
    have wg := sf _ _ wg
    generalize upd Z t8 (.tup [.str "none", .int 0]) = Z1 at eZ TZ wd wg ⊢
    by_cases hn : HD kx ky = noW
    · rw [decide_eq_true hn]
      obtain ⟨ns, r, R⟩ := HD_no hn
      obtain ⟨a, eax, hqa, _⟩ := hx.sq R.row
      have eln := lenOf_eq R.toRowOk
      refine iteT ⟨_, rfl, a, ns.map V.int, by rw [eax], hqa.ext eZ, rfl, _, rfl, ?_⟩
      have e12 : (V.int (((ns.map V.int).length : Nat) : Int) = V.int 12) = (ns.length = 12) := by
        rw [List.length_map]
        refine propext ⟨fun z => by injection z with z; omega, fun z => by rw [z]; rfl⟩
      by_cases h12 : ns.length = 12
      · rw [show decide (V.int (((ns.map V.int).length : Nat) : Int) = V.int 12) = true from decide_eq_true (by rw [e12]; exact h12)]
        refine iteT ⟨sz2, fun t ht => ?_⟩
        have sn := same_new (o := .tup [.str "full", .int 0]) ht
        exact rB du g t _ (eZ.trans (.of sn)) (TZ.ext sn) (sn _ _ wd) (sn _ _ wg) (by rw [fullW_t R h12]; exact upd_same)
      · rw [show decide (V.int (((ns.map V.int).length : Nat) : Int) = V.int 12) = false from decide_eq_false (by rw [e12]; exact h12)]
        refine iteF ⟨sz2, fun t ht => ?_⟩
        have sn := same_new (o := .tup [.str "none", .int 0]) ht
        exact rB du g t _ (eZ.trans (.of sn)) (TZ.ext sn) (sn _ _ wd) (sn _ _ wg) (by rw [fullW_f R h12]; exact upd_same)
    · rw [decide_eq_false hn]
      refine iteF (iteF ⟨sz2, fun t ht => ?_⟩)
      have sn := same_new (o := .tup [.str "none", .int 0]) ht
      exact rB du g t _ (eZ.trans (.of sn)) (TZ.ext sn) (sn _ _ wd) (sn _ _ wg) (by rw [fullW_n hn]; exact upd_same)
  obtain ⟨tD, hD, rD⟩ : ∃ t, PSs (cxOf (LC w) Pr w K mg base ["row", "wide", "key", "due", "good", "full", "empty", "found", "word"] "_law_heaps_right" (defScope s_law_heaps_right) (a_law_heaps_right K) cdv A outer s H E) ((defBody s_law_heaps_right).drop 1) t ∧ ∀ (du : Addr) (Z : Hp), ExtN H Z → Tabs (TT K) Z → Z du = some (.tup [.str (HD kx ky).1, (HD kx ky).2]) → t { nx := fun _ H' => Q .non H', rt := Q } [some x, some y, some z, some (.ref du), none, none, none, none, none] Z := by
    refine ⟨_, pss_cons (ps_set (i := 4) sc_law_heaps_right.nd rfl (.inl rfl) (pe_ifExp (pt_val (pe_cl (F_law_is_number T) (hr.mono (by decide)) rfl T.g_law_is_number (kpF T.f_law_is_number) pX (pa_cons (pv 2) (pa_cons (pe_un un_neg (pe_op op_pow pe_int pe_int)) (pa_cons (pe_op op_pow pe_int pe_int) pa_nil))))) (pe_tup (pa_cons pe_str (pa_cons pe_int pa_nil))) (pe_tup (pa_cons pe_str (pa_cons pe_int pa_nil))))) hC, fun du Z eZ TZ wd => ?_⟩
    have pw : CPow 10 9 := ⟨by decide, by decide, by decide⟩
    have ew : (10 : Int) ^ (9 : Int).toNat = 1000000000 := by decide
    refine ⟨_, rfl, _, _, rfl, rfl, pw, _, rfl, _, _, rfl, rfl, pw, z, kz, _, _, rfl, hz.ext eZ, _, rfl, ?_⟩
    rw [ew]
    refine rd_ifw (keyW kz) rfl fun t ht => ?_
    have sn := same_new (o := .tup [.str (keyW kz).1, (keyW kz).2]) ht
    exact rC du t _ (eZ.trans (.of sn)) (TZ.ext sn) (sn _ _ wd) upd_same
  refine ⟨_, pss_cons (ps_set (i := 3) sc_law_heaps_right.nd rfl (.inr rfl) (pe_ifExp (pt_cmpR (op_neD hr.units) (pe_cl (F_law_arms_word T) (hr.mono (by decide)) rfl T.g_law_arms_word (kpF T.f_law_arms_word) pX (pa_cons (pv 1) pa_nil)) (pe_tup (pa_cons pe_str (pa_cons pe_int pa_nil))) (nomark _)) (pe_cl (F_law_arms_word T) (hr.mono (by decide)) rfl T.g_law_arms_word (kpF T.f_law_arms_word) pX (pa_cons (pv 1) pa_nil)) (pe_cl (F_law_heap_word T) (hr.mono (by decide)) rfl T.g_law_heap_word (kpF T.f_law_heap_word) pX (pa_cons (pv 0) (pa_cons (pv 1) pa_nil))))) hD, ?_⟩
  refine ⟨_, rfl, y, ky, rfl, hy, fun t1 J1 s1 w1 => ⟨sz2, fun t2 ht2 => neW (q := noW) ((same_new ht2) _ _ w1) upd_same (ok_arms ky) ok_no ⟨_, rfl, ?_⟩⟩⟩
  have s2 := s1.trans (same_new (o := .tup [.str "none", .int 0]) ht2)
  generalize upd J1 t2 (.tup [.str "none", .int 0]) = J2 at s2 ⊢
  by_cases hn : armsW ky = noW
  · rw [decide_eq_true hn]
    have e1 := armsW_i hn
    obtain ⟨r, rfl, r1, r4⟩ := isN_int e1
    obtain ⟨r, rfl⟩ := Int.eq_ofNat_of_zero_le (show 0 ≤ r by omega)
    cases hy.int_eq
    refine iteF ⟨_, rfl, _, rfl, x, kx, r, rfl, hx.ext (.of s2), by omega, by omega, fun v ev du J3 s3 wd => ?_, fun en ns er du J3 s3 wd => ?_⟩
    · refine rD du J3 (.of (s2.trans s3)) (hT.ext (s2.trans s3)) ?_
      rw [HD_row hn ev]
      exact wd
    · refine rD du J3 (.of (s2.trans s3)) (hT.ext (s2.trans s3)) ?_
      rw [HD_heap hn en er]
      exact wd
  · rw [decide_eq_false hn]
    refine iteT ⟨_, rfl, y, ky, rfl, hy.ext (.of s2), fun du J3 s3 wd => ?_⟩
    refine rD du J3 (.of (s2.trans s3)) (hT.ext (s2.trans s3)) ?_
    rw [HD_arms hn]
    exact wd
end
end K7
/-! law -/
namespace K7
open PySem PySem.Spec PyProof.Rows L2 He
open LamX (Tabs TabS TabB ExtN CodeO lamEnv)
def lBody : List Stmt := match defBody s_law with
  | [_, .For _ _ b _ _, _] => b
  | _ => []
theorem all_ints : ∀ ns : List Int, (ns.map V.int).all flat1 = true
  | [] => rfl
  | n :: ns => all_ints ns
theorem draw_sq {K : PySem.W.Frag} {H H' : Hp} {d sc : Addr} {xs : List V} {o : HO} (h : SqL K H sc xs) (n : H d = none) (b : ButN d (upd H d o) H') : SqL K H' sc xs := by
  rcases h with (h | ⟨z, h⟩) | h
  · exact .inl (.inl (b _ _ (ne_of_none h n) (by rw [upd_ne (ne_of_none h n)]; exact h) fun ps z => nomatch z))
  · exact .inl (.inr ⟨z, b _ _ (ne_of_none h n) (by rw [upd_ne (ne_of_none h n)]; exact h) fun ps z => nomatch z⟩)
  · exact .inr h
/-- the loop's names, the spot not yet drawn -/
def Pre (K : PySem.W.Frag) (d sc : Addr) (ss : List Int) (σ : L2.St) (Z : Hp) : Prop := ∃ (tn : Option V) (xw xm xp xk xr xh : V) (o9 : Option V), σ = [some (.ref sc), some (.ref d), tn, some xw, some xm, some xp, some xk, some xr, some xh, o9] ∧ DrawAt K Z d sc ss ∧ Tabs (TT K) Z ∧
  (∃ k, Kd K Z xw k) ∧ (∃ k, Kd K Z xm k) ∧ (∃ k, Kd K Z xp k) ∧ (∃ k, Kd K Z xk k) ∧ (∃ k, Kd K Z xr k) ∧ ∃ k, Kd K Z xh k
/-- the loop's names -/
def Full (K : PySem.W.Frag) (d sc : Addr) (ss : List Int) (σ : L2.St) (Z : Hp) : Prop := ∃ (tn : Option V) (xw xm xp xk xr xh : V) (sp : Int), σ = [some (.ref sc), some (.ref d), tn, some xw, some xm, some xp, some xk, some xr, some xh, some (.int sp)] ∧ DrawAt K Z d sc ss ∧ Tabs (TT K) Z ∧
  (∃ k, Kd K Z xw k) ∧ (∃ k, Kd K Z xm k) ∧ (∃ k, Kd K Z xp k) ∧ (∃ k, Kd K Z xk k) ∧ (∃ k, Kd K Z xr k) ∧ ∃ k, Kd K Z xh k
/-- between two turns -/
def Turn (K : PySem.W.Frag) (d sc : Addr) (ss : List Int) (σ : L2.St) (Z : Hp) : Prop := ∃ o2 o3 o4 o5 o6 o7 o8 o9 : Option V, σ = [some (.ref sc), some (.ref d), o2, o3, o4, o5, o6, o7, o8, o9] ∧ DrawAt K Z d sc ss ∧ Tabs (TT K) Z
section
variable {w : World} {K : PySem.W.Frag} {mg : Str → Option Value} {base : Heap}
theorem sc_law : FnScope ["script", "draw", "turn", "wide", "many", "place", "key", "row", "heap", "spot"] ["script"] (defScope s_law) := ⟨rfl, rfl, rfl, by decide +kernel, rfl, by decide +kernel, by decide +kernel⟩
/-- the law says yes -/
def spLaw (K : PySem.W.Frag) : Sp := fun vs H Q E => ∃ (sc : Addr) (ss : List Int), vs = [V.ref sc] ∧ SqL K H sc (ss.map V.int) ∧ Tabs (TT K) H ∧ ∀ H', Q (.bl true) H'
theorem ok_law {fd : FuncData} (T : TX K mg base) (F : FunD K "law" "law" (defArgs s_law) (defBody s_law) (defScope s_law) [] [] (a_law K) fd) : FnOk Pr w K mg base (LC w) 17 (a_law K) fd ["script"] (spLaw K) := by
  refine FunD.ok (CX := LC w) F sc_law (fun vs H Q E h => by obtain ⟨sc, ss, rfl, _⟩ := h; rfl) fun cdv A outer s H vs Q E hr h => ?_
  obtain ⟨sc, ss, rfl, hS, hT, h1⟩ := h
  obtain ⟨t11, h11, r11⟩ : ∃ t, PSs (cxOf (LC w) Pr w K mg base ["script", "draw", "turn", "wide", "many", "place", "key", "row", "heap", "spot"] "law" (defScope s_law) (a_law K) cdv A outer s H E) (lBody.drop 11) t ∧ ∀ (d : Addr) D, (∀ σ Z, Full K d sc ss σ Z → D.nx σ Z) → ∀ σ Z, Full K d sc ss σ Z → t D σ Z := by
    refine ⟨_, pss_one (ps_if (pt_not (pt_val (pe_cl (F_law_heaps_right T) (hr.mono (by decide)) rfl T.g_law_heaps_right (kpF T.f_law_heaps_right) pX (pa_cons (pv 8) (pa_cons (pv 3) (pa_cons (pv 6) pa_nil)))))) (pss_one (ps_ret pe_bl)) pss_nil), fun d D hD σ Z f => ?_⟩
    obtain ⟨tn, xw, xm, xp, xk, xr, xh, sp, rfl, hd, tT, aw, am, ap, ak, ar, ah⟩ := f
    obtain ⟨kh, qh⟩ := ah
    obtain ⟨kw, qw⟩ := aw
    obtain ⟨kk, qk⟩ := ak
    refine ⟨_, rfl, _, rfl, _, rfl, xh, xw, xk, kh, kw, kk, rfl, qh, qw, qk, tT, fun H1 e1 T1 => ⟨_, rfl, iteF ?_⟩⟩
    exact hD _ _ ⟨tn, xw, xm, xp, xk, xr, xh, sp, rfl, hd.same e1, T1, ⟨kw, qw.ext e1⟩, am.imp (fun _ q => q.ext e1), ap.imp (fun _ q => q.ext e1), ⟨kk, qk.ext e1⟩, ar.imp (fun _ q => q.ext e1), ⟨kh, qh.ext e1⟩⟩
  obtain ⟨t10, h10, r10⟩ : ∃ t, PSs (cxOf (LC w) Pr w K mg base ["script", "draw", "turn", "wide", "many", "place", "key", "row", "heap", "spot"] "law" (defScope s_law) (a_law K) cdv A outer s H E) (lBody.drop 10) t ∧ ∀ (d : Addr) D, (∀ σ Z, Full K d sc ss σ Z → D.nx σ Z) → ∀ σ Z, Full K d sc ss σ Z → t D σ Z := by
    refine ⟨_, pss_cons (ps_if (PW.pt (pw_or (pt_not (pt_val (pe_cl (F_law_trees_right T) (hr.mono (by decide)) rfl T.g_law_trees_right (kpF T.f_law_trees_right) pX (pa_cons (pv 4) (pa_cons (pv 3) (pa_cons (pv 5) pa_nil)))))) (pw_or1 (pt_not (pt_val (pe_cl (F_law_rows_right T) (hr.mono (by decide)) rfl T.g_law_rows_right (kpF T.f_law_rows_right) pX (pa_cons (pv 7) (pa_cons (pv 3) (pa_cons (pv 5) pa_nil))))))))) (pss_one (ps_ret pe_bl)) pss_nil) h11, fun d D hD σ Z f => ?_⟩
    obtain ⟨tn, xw, xm, xp, xk, xr, xh, sp, rfl, hd, tT, aw, am, ap, ak, ar, ah⟩ := f
    obtain ⟨km, qm⟩ := am
    obtain ⟨kw, qw⟩ := aw
    obtain ⟨kp, qp⟩ := ap
    obtain ⟨kr, qr⟩ := ar
    refine ⟨_, rfl, _, rfl, _, rfl, xm, xw, xp, km, kw, kp, rfl, qm, qw, qp, tT, fun H1 e1 T1 => ⟨_, rfl, iteF ?_⟩⟩
    refine ⟨_, rfl, _, rfl, _, rfl, xr, xw, xp, kr, kw, kp, rfl, qr.ext e1, qw.ext e1, qp.ext e1, T1, fun H2 e2 T2 => ⟨_, rfl, iteF ?_⟩⟩
    have e := e1.trans e2
    exact r11 d D hD _ _ ⟨tn, xw, xm, xp, xk, xr, xh, sp, rfl, hd.same e, T2, ⟨kw, qw.ext e⟩, ⟨km, qm.ext e⟩, ⟨kp, qp.ext e⟩, ak.imp (fun _ q => q.ext e), ⟨kr, qr.ext e⟩, ah.imp (fun _ q => q.ext e)⟩
  obtain ⟨t9, h9, r9⟩ : ∃ t, PSs (cxOf (LC w) Pr w K mg base ["script", "draw", "turn", "wide", "many", "place", "key", "row", "heap", "spot"] "law" (defScope s_law) (a_law K) cdv A outer s H E) (lBody.drop 9) t ∧ ∀ (d : Addr) D, (∀ σ Z, Full K d sc ss σ Z → D.nx σ Z) → ∀ σ Z, Full K d sc ss σ Z → t D σ Z := by
    refine ⟨_, pss_cons (ps_set (i := 6) sc_law.nd rfl (.inl rfl) (pe_ifExp (pt_cmpR op_in_seq (pv 9) (pe_tup (pa_cons pe_int (pa_cons pe_int (pa_cons pe_int pa_nil)))) rfl) (pe_cl (F_law_odd T) (hr.mono (by decide)) rfl T.g_law_odd (kpF T.f_law_odd) pX (pa_cons (pv 1) pa_nil)) (pv 6))) h10, fun d D hD σ Z f => ?_⟩
    obtain ⟨tn, xw, xm, xp, xk, xr, xh, sp, rfl, hd, tT, aw, am, ap, ak, ar, ah⟩ := f
    refine ⟨_, rfl, (by decide : 3 ≤ sizeLine), fun tq ht => ⟨tq, _, rfl, .inr (SqT.of upd_same), rfl, rfl, _, rfl, ?_⟩⟩
    have e := ExtN.of (same_new (o := .tup [.int 5, .int 6, .int 7]) ht)
    have T1 := tT.ext (same_new (o := .tup [.int 5, .int 6, .int 7]) ht)
    have hd1 := hd.same e
    generalize upd Z tq (.tup [.int 5, .int 6, .int 7]) = Z1 at e T1 hd1 ⊢
    generalize (if false = true then _ else _ : Bool) = bb
    cases bb with
    | true =>
      refine iteT ⟨_, rfl, d, sc, ss, rfl, hd1, fun y ky Z2 qx lw hd2 => r10 d D hD _ _ ?_⟩
      exact ⟨tn, xw, xm, xp, y, xr, xh, sp, rfl, hd2, lw.2 T1, aw.imp (fun _ q => (q.ext e).lw hd1 lw.1), am.imp (fun _ q => (q.ext e).lw hd1 lw.1), ap.imp (fun _ q => (q.ext e).lw hd1 lw.1), ⟨_, qx⟩, ar.imp (fun _ q => (q.ext e).lw hd1 lw.1), ah.imp (fun _ q => (q.ext e).lw hd1 lw.1)⟩
    | false =>
      refine iteF ⟨_, rfl, r10 d D hD _ _ ?_⟩
      exact ⟨tn, xw, xm, xp, xk, xr, xh, sp, rfl, hd1, T1, aw.imp (fun _ q => q.ext e), am.imp (fun _ q => q.ext e), ap.imp (fun _ q => q.ext e), ak.imp (fun _ q => q.ext e), ar.imp (fun _ q => q.ext e), ah.imp (fun _ q => q.ext e)⟩
  obtain ⟨t8, h8, r8⟩ : ∃ t, PSs (cxOf (LC w) Pr w K mg base ["script", "draw", "turn", "wide", "many", "place", "key", "row", "heap", "spot"] "law" (defScope s_law) (a_law K) cdv A outer s H E) (lBody.drop 8) t ∧ ∀ (d : Addr) D, (∀ σ Z, Full K d sc ss σ Z → D.nx σ Z) → ∀ σ Z, Full K d sc ss σ Z → t D σ Z := by
    refine ⟨_, pss_cons (ps_set (i := 8) sc_law.nd rfl (.inl rfl) (pe_ifExp (pt_cmpR op_in_seq (pv 9) (pe_tup (pa_cons pe_int (pa_cons pe_int pa_nil))) rfl) (pe_cl (F_law_odd T) (hr.mono (by decide)) rfl T.g_law_odd (kpF T.f_law_odd) pX (pa_cons (pv 1) pa_nil)) (pe_ifExp (pt_cmpR op_eq (pv 9) pe_int (nomark _)) (pv 7) (pv 8)))) h9, fun d D hD σ Z f => ?_⟩
    obtain ⟨tn, xw, xm, xp, xk, xr, xh, sp, rfl, hd, tT, aw, am, ap, ak, ar, ah⟩ := f
    refine ⟨_, rfl, sz2, fun tq ht => ⟨tq, _, rfl, .inr (SqT.of upd_same), rfl, rfl, _, rfl, ?_⟩⟩
    have e := ExtN.of (same_new (o := .tup [.int 5, .int 9]) ht)
    have T1 := tT.ext (same_new (o := .tup [.int 5, .int 9]) ht)
    have hd1 := hd.same e
    generalize upd Z tq (.tup [.int 5, .int 9]) = Z1 at e T1 hd1 ⊢
    generalize (if false = true then _ else _ : Bool) = bb
    cases bb with
    | true =>
      refine iteT ⟨_, rfl, d, sc, ss, rfl, hd1, fun y ky Z2 qx lw hd2 => r9 d D hD _ _ ?_⟩
      exact ⟨tn, xw, xm, xp, xk, xr, y, sp, rfl, hd2, lw.2 T1, aw.imp (fun _ q => (q.ext e).lw hd1 lw.1), am.imp (fun _ q => (q.ext e).lw hd1 lw.1), ap.imp (fun _ q => (q.ext e).lw hd1 lw.1), ak.imp (fun _ q => (q.ext e).lw hd1 lw.1), ar.imp (fun _ q => (q.ext e).lw hd1 lw.1), ⟨_, qx⟩⟩
    | false =>
      refine iteF ⟨_, rfl, rfl, _, rfl, ?_⟩
      cases decide (V.int sp = V.int 6) with
      | true =>
        refine iteT ⟨_, rfl, r9 d D hD _ _ ?_⟩
        exact ⟨tn, xw, xm, xp, xk, xr, xr, sp, rfl, hd1, T1, aw.imp (fun _ q => q.ext e), am.imp (fun _ q => q.ext e), ap.imp (fun _ q => q.ext e), ak.imp (fun _ q => q.ext e), ar.imp (fun _ q => q.ext e), ar.imp (fun _ q => q.ext e)⟩
      | false =>
        refine iteF ⟨_, rfl, r9 d D hD _ _ ?_⟩
        exact ⟨tn, xw, xm, xp, xk, xr, xh, sp, rfl, hd1, T1, aw.imp (fun _ q => q.ext e), am.imp (fun _ q => q.ext e), ap.imp (fun _ q => q.ext e), ak.imp (fun _ q => q.ext e), ar.imp (fun _ q => q.ext e), ah.imp (fun _ q => q.ext e)⟩
  obtain ⟨t7, h7, r7⟩ : ∃ t, PSs (cxOf (LC w) Pr w K mg base ["script", "draw", "turn", "wide", "many", "place", "key", "row", "heap", "spot"] "law" (defScope s_law) (a_law K) cdv A outer s H E) (lBody.drop 7) t ∧ ∀ (d : Addr) D, (∀ σ Z, Full K d sc ss σ Z → D.nx σ Z) → ∀ σ Z, Full K d sc ss σ Z → t D σ Z := by
    refine ⟨_, pss_cons (ps_set (i := 7) sc_law.nd rfl (.inl rfl) (pe_ifExp (pt_cmpR op_in_seq (pv 9) (pe_tup (pa_cons pe_int (pa_cons pe_int pa_nil))) rfl) (pe_cl (F_law_odd T) (hr.mono (by decide)) rfl T.g_law_odd (kpF T.f_law_odd) pX (pa_cons (pv 1) pa_nil)) (pv 7))) h8, fun d D hD σ Z f => ?_⟩
    obtain ⟨tn, xw, xm, xp, xk, xr, xh, sp, rfl, hd, tT, aw, am, ap, ak, ar, ah⟩ := f
    refine ⟨_, rfl, (by decide : 2 ≤ sizeLine), fun tq ht => ⟨tq, _, rfl, .inr (SqT.of upd_same), rfl, rfl, _, rfl, ?_⟩⟩
    have e := ExtN.of (same_new (o := .tup [.int 4, .int 8]) ht)
    have T1 := tT.ext (same_new (o := .tup [.int 4, .int 8]) ht)
    have hd1 := hd.same e
    generalize upd Z tq (.tup [.int 4, .int 8]) = Z1 at e T1 hd1 ⊢
    generalize (if false = true then _ else _ : Bool) = bb
    cases bb with
    | true =>
      refine iteT ⟨_, rfl, d, sc, ss, rfl, hd1, fun y ky Z2 qx lw hd2 => r8 d D hD _ _ ?_⟩
      exact ⟨tn, xw, xm, xp, xk, y, xh, sp, rfl, hd2, lw.2 T1, aw.imp (fun _ q => (q.ext e).lw hd1 lw.1), am.imp (fun _ q => (q.ext e).lw hd1 lw.1), ap.imp (fun _ q => (q.ext e).lw hd1 lw.1), ak.imp (fun _ q => (q.ext e).lw hd1 lw.1), ⟨_, qx⟩, ah.imp (fun _ q => (q.ext e).lw hd1 lw.1)⟩
    | false =>
      refine iteF ⟨_, rfl, r8 d D hD _ _ ?_⟩
      exact ⟨tn, xw, xm, xp, xk, xr, xh, sp, rfl, hd1, T1, aw.imp (fun _ q => q.ext e), am.imp (fun _ q => q.ext e), ap.imp (fun _ q => q.ext e), ak.imp (fun _ q => q.ext e), ar.imp (fun _ q => q.ext e), ah.imp (fun _ q => q.ext e)⟩
  obtain ⟨t6, h6, r6⟩ : ∃ t, PSs (cxOf (LC w) Pr w K mg base ["script", "draw", "turn", "wide", "many", "place", "key", "row", "heap", "spot"] "law" (defScope s_law) (a_law K) cdv A outer s H E) (lBody.drop 6) t ∧ ∀ (d : Addr) D, (∀ σ Z, Full K d sc ss σ Z → D.nx σ Z) → ∀ σ Z, Full K d sc ss σ Z → t D σ Z := by
    refine ⟨_, pss_cons (ps_set (i := 5) sc_law.nd rfl (.inl rfl) (pe_ifExp (pt_cmpR op_in_seq (pv 9) (pe_tup (pa_cons pe_int (pa_cons pe_int (pa_cons pe_int pa_nil)))) rfl) (pe_cl (F_law_odd T) (hr.mono (by decide)) rfl T.g_law_odd (kpF T.f_law_odd) pX (pa_cons (pv 1) pa_nil)) (pv 5))) h7, fun d D hD σ Z f => ?_⟩
    obtain ⟨tn, xw, xm, xp, xk, xr, xh, sp, rfl, hd, tT, aw, am, ap, ak, ar, ah⟩ := f
    refine ⟨_, rfl, (by decide : 3 ≤ sizeLine), fun tq ht => ⟨tq, _, rfl, .inr (SqT.of upd_same), rfl, rfl, _, rfl, ?_⟩⟩
    have e := ExtN.of (same_new (o := .tup [.int 2, .int 3, .int 9]) ht)
    have T1 := tT.ext (same_new (o := .tup [.int 2, .int 3, .int 9]) ht)
    have hd1 := hd.same e
    generalize upd Z tq (.tup [.int 2, .int 3, .int 9]) = Z1 at e T1 hd1 ⊢
    generalize (if false = true then _ else _ : Bool) = bb
    cases bb with
    | true =>
      refine iteT ⟨_, rfl, d, sc, ss, rfl, hd1, fun y ky Z2 qx lw hd2 => r7 d D hD _ _ ?_⟩
      exact ⟨tn, xw, xm, y, xk, xr, xh, sp, rfl, hd2, lw.2 T1, aw.imp (fun _ q => (q.ext e).lw hd1 lw.1), am.imp (fun _ q => (q.ext e).lw hd1 lw.1), ⟨_, qx⟩, ak.imp (fun _ q => (q.ext e).lw hd1 lw.1), ar.imp (fun _ q => (q.ext e).lw hd1 lw.1), ah.imp (fun _ q => (q.ext e).lw hd1 lw.1)⟩
    | false =>
      refine iteF ⟨_, rfl, r7 d D hD _ _ ?_⟩
      exact ⟨tn, xw, xm, xp, xk, xr, xh, sp, rfl, hd1, T1, aw.imp (fun _ q => q.ext e), am.imp (fun _ q => q.ext e), ap.imp (fun _ q => q.ext e), ak.imp (fun _ q => q.ext e), ar.imp (fun _ q => q.ext e), ah.imp (fun _ q => q.ext e)⟩
  obtain ⟨t5, h5, r5⟩ : ∃ t, PSs (cxOf (LC w) Pr w K mg base ["script", "draw", "turn", "wide", "many", "place", "key", "row", "heap", "spot"] "law" (defScope s_law) (a_law K) cdv A outer s H E) (lBody.drop 5) t ∧ ∀ (d : Addr) D, (∀ σ Z, Full K d sc ss σ Z → D.nx σ Z) → ∀ σ Z, Full K d sc ss σ Z → t D σ Z := by
    refine ⟨_, pss_cons (ps_set (i := 4) sc_law.nd rfl (.inl rfl) (pe_ifExp (pt_cmpR op_in_seq (pv 9) (pe_tup (pa_cons pe_int (pa_cons pe_int pa_nil))) rfl) (pe_cl (F_law_odd T) (hr.mono (by decide)) rfl T.g_law_odd (kpF T.f_law_odd) pX (pa_cons (pv 1) pa_nil)) (pv 4))) h6, fun d D hD σ Z f => ?_⟩
    obtain ⟨tn, xw, xm, xp, xk, xr, xh, sp, rfl, hd, tT, aw, am, ap, ak, ar, ah⟩ := f
    refine ⟨_, rfl, (by decide : 2 ≤ sizeLine), fun tq ht => ⟨tq, _, rfl, .inr (SqT.of upd_same), rfl, rfl, _, rfl, ?_⟩⟩
    have e := ExtN.of (same_new (o := .tup [.int 1, .int 8]) ht)
    have T1 := tT.ext (same_new (o := .tup [.int 1, .int 8]) ht)
    have hd1 := hd.same e
    generalize upd Z tq (.tup [.int 1, .int 8]) = Z1 at e T1 hd1 ⊢
    generalize (if false = true then _ else _ : Bool) = bb
    cases bb with
    | true =>
      refine iteT ⟨_, rfl, d, sc, ss, rfl, hd1, fun y ky Z2 qx lw hd2 => r6 d D hD _ _ ?_⟩
      exact ⟨tn, xw, y, xp, xk, xr, xh, sp, rfl, hd2, lw.2 T1, aw.imp (fun _ q => (q.ext e).lw hd1 lw.1), ⟨_, qx⟩, ap.imp (fun _ q => (q.ext e).lw hd1 lw.1), ak.imp (fun _ q => (q.ext e).lw hd1 lw.1), ar.imp (fun _ q => (q.ext e).lw hd1 lw.1), ah.imp (fun _ q => (q.ext e).lw hd1 lw.1)⟩
    | false =>
      refine iteF ⟨_, rfl, r6 d D hD _ _ ?_⟩
      exact ⟨tn, xw, xm, xp, xk, xr, xh, sp, rfl, hd1, T1, aw.imp (fun _ q => q.ext e), am.imp (fun _ q => q.ext e), ap.imp (fun _ q => q.ext e), ak.imp (fun _ q => q.ext e), ar.imp (fun _ q => q.ext e), ah.imp (fun _ q => q.ext e)⟩
  obtain ⟨t4, h4, r4⟩ : ∃ t, PSs (cxOf (LC w) Pr w K mg base ["script", "draw", "turn", "wide", "many", "place", "key", "row", "heap", "spot"] "law" (defScope s_law) (a_law K) cdv A outer s H E) (lBody.drop 4) t ∧ ∀ (d : Addr) D, (∀ σ Z, Full K d sc ss σ Z → D.nx σ Z) → ∀ σ Z, Full K d sc ss σ Z → t D σ Z := by
    refine ⟨_, pss_cons (ps_set (i := 3) sc_law.nd rfl (.inl rfl) (pe_ifExp (pt_cmpR op_in_seq (pv 9) (pe_tup (pa_cons pe_int (pa_cons pe_int (pa_cons pe_int pa_nil)))) rfl) (pe_cl (F_law_odd T) (hr.mono (by decide)) rfl T.g_law_odd (kpF T.f_law_odd) pX (pa_cons (pv 1) pa_nil)) (pv 3))) h5, fun d D hD σ Z f => ?_⟩
    obtain ⟨tn, xw, xm, xp, xk, xr, xh, sp, rfl, hd, tT, aw, am, ap, ak, ar, ah⟩ := f
    refine ⟨_, rfl, (by decide : 3 ≤ sizeLine), fun tq ht => ⟨tq, _, rfl, .inr (SqT.of upd_same), rfl, rfl, _, rfl, ?_⟩⟩
    have e := ExtN.of (same_new (o := .tup [.int 0, .int 8, .int 9]) ht)
    have T1 := tT.ext (same_new (o := .tup [.int 0, .int 8, .int 9]) ht)
    have hd1 := hd.same e
    generalize upd Z tq (.tup [.int 0, .int 8, .int 9]) = Z1 at e T1 hd1 ⊢
    generalize (if false = true then _ else _ : Bool) = bb
    cases bb with
    | true =>
      refine iteT ⟨_, rfl, d, sc, ss, rfl, hd1, fun y ky Z2 qx lw hd2 => r5 d D hD _ _ ?_⟩
      exact ⟨tn, y, xm, xp, xk, xr, xh, sp, rfl, hd2, lw.2 T1, ⟨_, qx⟩, am.imp (fun _ q => (q.ext e).lw hd1 lw.1), ap.imp (fun _ q => (q.ext e).lw hd1 lw.1), ak.imp (fun _ q => (q.ext e).lw hd1 lw.1), ar.imp (fun _ q => (q.ext e).lw hd1 lw.1), ah.imp (fun _ q => (q.ext e).lw hd1 lw.1)⟩
    | false =>
      refine iteF ⟨_, rfl, r5 d D hD _ _ ?_⟩
      exact ⟨tn, xw, xm, xp, xk, xr, xh, sp, rfl, hd1, T1, aw.imp (fun _ q => q.ext e), am.imp (fun _ q => q.ext e), ap.imp (fun _ q => q.ext e), ak.imp (fun _ q => q.ext e), ar.imp (fun _ q => q.ext e), ah.imp (fun _ q => q.ext e)⟩
  obtain ⟨t3, h3, r3⟩ : ∃ t, PSs (cxOf (LC w) Pr w K mg base ["script", "draw", "turn", "wide", "many", "place", "key", "row", "heap", "spot"] "law" (defScope s_law) (a_law K) cdv A outer s H E) (lBody.drop 3) t ∧ ∀ (d : Addr) D, (∀ σ Z, Full K d sc ss σ Z → D.nx σ Z) → ∀ σ Z, Pre K d sc ss σ Z → t D σ Z := by
    refine ⟨_, pss_cons (ps_set (i := 9) sc_law.nd rfl (.inl rfl) (pe_cl (F_law_take T) (hr.mono (by decide)) rfl T.g_law_take (kpF T.f_law_take) pX (pa_cons (pv 1) (pa_cons pe_int pa_nil)))) h4, fun d D hD σ Z f => ?_⟩
    obtain ⟨tn, xw, xm, xp, xk, xr, xh, o9, rfl, hd, tT, aw, am, ap, ak, ar, ah⟩ := f
    refine ⟨_, rfl, d, sc, ss, 10, rfl, hd, by decide, fun z Z1 _ _ lw hd1 => r4 d D hD _ _ ?_⟩
    exact ⟨tn, xw, xm, xp, xk, xr, xh, z, rfl, hd1, lw.2 tT, aw.imp (fun _ q => q.lw hd lw.1), am.imp (fun _ q => q.lw hd lw.1), ap.imp (fun _ q => q.lw hd lw.1), ak.imp (fun _ q => q.lw hd lw.1), ar.imp (fun _ q => q.lw hd lw.1), ah.imp (fun _ q => q.lw hd lw.1)⟩
  refine ⟨_, pss_cons (ps_set (i := 1) sc_law.nd rfl (.inl rfl) (pe_lst (pa_cons (pv 0) (pa_cons pe_int pa_nil))))
    (pss_cons (ps_for (passes_of rfl) rfl (pi_range1 rfl T.n_range (pa_cons pe_int pa_nil)) (pg_name (i := 2) sc_law.nd rfl (.inl rfl))
      (pss_cons (ps_par3 (i := 3) (j := 4) (l := 5) rfl sc_law.nd rfl rfl rfl (by decide) (by decide) (by decide) rfl rfl rfl (pa_cons (pe_cl (F_law_arms T) (hr.mono (by decide)) rfl T.g_law_arms (kpF T.f_law_arms) pX (pa_cons (pv 1) pa_nil)) (pa_cons (pe_cl (F_law_take T) (hr.mono (by decide)) rfl T.g_law_take (kpF T.f_law_take) pX (pa_cons (pv 1) (pa_cons pe_int pa_nil))) (pa_cons (pe_cl (F_law_take T) (hr.mono (by decide)) rfl T.g_law_take (kpF T.f_law_take) pX (pa_cons (pv 1) (pa_cons pe_int pa_nil))) pa_nil))) rfl)
      (pss_cons (ps_par (i := 6) (j := 7) rfl sc_law.nd rfl rfl (by decide) rfl rfl (pa_cons (pe_cl (F_law_take T) (hr.mono (by decide)) rfl T.g_law_take (kpF T.f_law_take) pX (pa_cons (pv 1) (pa_cons pe_int pa_nil))) (pa_cons (pe_cl (F_law_keys T) (hr.mono (by decide)) rfl T.g_law_keys (kpF T.f_law_keys) pX (pa_cons (pv 1) (pa_cons pe_int (pa_cons pe_int pa_nil)))) pa_nil)) rfl)
      (pss_cons (ps_set (i := 8) sc_law.nd rfl (.inl rfl) (pe_ifExp (pt_cmpR op_gt (pe_cl (F_law_take T) (hr.mono (by decide)) rfl T.g_law_take (kpF T.f_law_take) pX (pa_cons (pv 1) (pa_cons pe_int pa_nil))) pe_int (nomark _)) (pe_cl (F_law_heap T) (hr.mono (by decide)) rfl T.g_law_heap (kpF T.f_law_heap) pX (pa_cons (pv 7) (pa_cons (pv 3) pa_nil))) (pe_callB cr_sorted rfl T.n_sorted (by decide +kernel) (pa_cons (pe_op op_rep (pe_lst (pa_cons pe_int pa_nil)) pe_int) pa_nil)))) h3))))
    (pss_one (ps_ret pe_bl))), ?_⟩
  refine ⟨_, rfl, sz2, fun d hd0 => ?_⟩
  have s0 := same_new (o := .lst [.ref sc, .int 0]) hd0
  have D0 : DrawAt K (upd H d (.lst [.ref sc, .int 0])) d sc ss := ⟨⟨0, upd_same⟩, fun H' b => draw_sq hS hd0 b⟩
  have T0 := hT.ext s0
  generalize upd H d (.lst [.ref sc, .int 0]) = H0 at D0 T0 ⊢
  refine ⟨6, rfl, by decide, by decide, ?_⟩
  refine forJ (n := 6) (fun i σ Z => Turn K d sc ss σ Z) ⟨_, _, _, _, _, _, _, _, rfl, D0, T0⟩ (fun i σ Z hi _ => hi) (fun σ Z _ => Nat.le_refl _) ?_ ?_
  · rintro i σ Z v Z' hi ⟨o2, o3, o4, o5, o6, o7, o8, o9, rfl, hd, tT⟩ ⟨rfl, rfl⟩
    refine ⟨_, rfl, d, sc, ss, rfl, hd, fun r H1 r1 r4 lw1 hd1 => ⟨_, rfl, d, sc, ss, 13, rfl, hd1, by decide, fun z1 H2 _ _ lw2 hd2 => ⟨_, rfl, d, sc, ss, 13, rfl, hd2, by decide, fun z2 H3 _ _ lw3 hd3 => ⟨_, _, _, rfl, ?_⟩⟩⟩⟩
    refine ⟨_, rfl, d, sc, ss, 9, rfl, hd3, by decide, fun z3 H4 _ _ lw4 hd4 => ⟨_, rfl, d, sc, ss, rfl, hd4, fun l ns H5 hl ln lw5 hd5 => ⟨_, _, rfl, ?_⟩⟩⟩
    refine ⟨_, rfl, d, sc, ss, 4, rfl, hd5, by decide, fun z4 H6 _ _ lw6 hd6 => ⟨_, _, rfl, rfl, _, rfl, ?_⟩⟩
    have T6 := lw6.2 (lw5.2 (lw4.2 (lw3.2 (lw2.2 (lw1.2 tT)))))
    have nl : l ≠ d := fun z => by
      obtain ⟨n, hn⟩ := hd5.1
      rw [z, hn] at hl
      cases ns with
      | nil => cases hl
      | cons n ns => cases hl
    have hl6 := lw6.lst nl hl
    have go : ∀ (x : V) (kx : KV) (Y : Hp), Kd K Y x kx → Same H6 Y → Pre K d sc ss [some (.ref sc), some (.ref d), some (.int (0 + (i : Int))), some (.int (r : Int)), some (.int z1), some (.int z2), some (.int z3), some (.ref l), some x, o9] Y := fun x kx Y qx s =>
      ⟨_, _, _, _, _, _, _, _, rfl, hd6.same (.of s), T6.ext s, ⟨_, .int _⟩, ⟨_, .int _⟩, ⟨_, .int _⟩, ⟨_, .int _⟩, ⟨_, .lst (s _ _ hl6) (all_ints ns)⟩, ⟨kx, qx⟩⟩
    have hDn : ∀ σ Z, Full K d sc ss σ Z → Turn K d sc ss σ Z := fun σ Z f => by
      obtain ⟨tn, xw, xm, xp, xk, xr, xh, sp, rfl, hd, tT, _⟩ := f
      exact ⟨_, _, _, _, _, _, _, _, rfl, hd, tT⟩
    by_cases hz : (0 : Int) < z4
    · rw [decide_eq_true hz]
      refine iteT ⟨_, rfl, _, rfl, l, ns, r, rfl, hl6, ln, r1, r4, fun hp ms H7 s7 hms lms => r3 d _ hDn _ _ (go (.ref hp) _ H7 (.lst hms (all_ints ms)) s7)⟩
    · rw [decide_eq_false hz]
      refine iteF ⟨(by decide : 1 ≤ sizeLine), fun c4 hc4 => ⟨c4, 12, _, rfl, rfl, upd_same, by decide, by decide, (by decide : 1 * 12 ≤ sizeLine), fun c5 hc5 => ⟨c5, List.replicate 12 4, rfl, SqL.of upd_same, by decide, fun ms hp _ _ hq => ?_⟩⟩⟩
      exact r3 d _ hDn _ _ (go (.ref hp) _ _ (.lst upd_same (all_ints ms)) ((same_new hc4).trans ((same_new hc5).trans (same_new hq))))
  · rintro σ Z ⟨o2, o3, o4, o5, o6, o7, o8, o9, rfl, hd, tT⟩
    exact h1 Z
end
end K7
/-! the end -/
namespace K7
open PySem PySem.Spec PyProof.Rows L2 He
theorem law_at {w : World} {K : PySem.W.Frag} {mg : Str → Option Value} {fa : Addr} {h : Heap} (kin : K.In h) (S : Says h K) (G : h.Ns mainGlobals mg) (hmg : mg ("law" : Str) = some (.ref fa)) :
    LamX.LawAtS PySem.Challenge.rw_heaprows_k07_whole_refused w K (LC w) 17 63 "script" mg fa h := by
  obtain ⟨fd, F⟩ := funD_at (d := d_law) S.val S.ok 62 rfl
  obtain ⟨c0, h1⟩ := ba S.kf
  obtain ⟨c1, h2⟩ := ba h1
  obtain ⟨c2, h3⟩ := ba h2
  have e : mg "law" = some (.ref (ga K "law")) := by have h := all_at c2 3 rfl; exact glo_ok kin G h
  have e := hmg.symm.trans e
  cases e
  have b := FunD.bindsA (ps := ["script"]) F fun _ _ _ _ _ _ us hl => match us, hl with | [_], _ => rfl
  refine ⟨fd, tf.map (cT K), spLaw K, fun p hp => ?_, fun p hp => ?_, fun p hp => ?_, fun s u => b s [u] rfl, fun H a ns hl _ hT hS => ⟨a, ns, rfl, hS, fun p hp => ?_, fun _ => rfl⟩, fun base kin' glob tab => ok_law (tx_of S kin' glob fun p hp => tab _ (List.mem_map_of_mem hp)) F⟩
  · obtain ⟨q, hq, rfl⟩ := List.mem_map.mp hp
    exact S.empty q hq
  · obtain ⟨q, hq, rfl⟩ := List.mem_map.mp hp
    exact S.out q hq
  · obtain ⟨q, hq, rfl⟩ := List.mem_map.mp hp
    exact PySem.W.codeHd_of_K kin (S.hd q hq)
  · obtain ⟨q, hq, rfl⟩ := List.mem_map.mp hp
    exact LamX.TabS.nil (hT (cT K q) (List.mem_map_of_mem hq))
end K7
open PySem PySem.W PySem.Calls PyProof.Rows
theorem PySem.Challenge.cw_heaprows_k07_whole_refused_holds : PySem.Challenge.rw_heaprows_k07_whole_refused.Holds := by
  w_on; o_law
  refine HandSHeadRun.head_any (r := OpenLaw.row PySem.Challenge.rw_heaprows_k07_whole_refused) (q := view (OpenLaw.row PySem.Challenge.rw_heaprows_k07_whole_refused).prog [69]) (H := K7.hk) (ob := K7.ob07) (M := 20000) (loose := K7.loose) (d := HandSHeadRun.topDef (OpenLaw.row PySem.Challenge.rw_heaprows_k07_whole_refused).prog 69) (kwd := []) K7.ob07_eq
    (by kernel_rfl) (fun s => by kernel_rfl) K7.run07 (by kernel_rfl) (by kernel_rfl) (by kernel_rfl) (by rfl) (by first | assumption | decide +kernel) (by decide +kernel) ⟨rfl, rfl, rfl, rfl, rfl, by decide +kernel⟩ ?hw ?hc
  case hw => w_witness2
  case hc =>
    refine LamX.walk_ofTsE (l := PySem.Challenge.rw_heaprows_k07_whole_refused) (n := 63) (k := 17) (x := "script") (CX := K7.LC) rfl (by decide) (by kernel_rfl) ⟨rfl, by decide, by decide⟩ ?F (fun w H s e s' z => by
      obtain ⟨_, _, _, _, _, _, _, _, _, _, _, _, z⟩ := z
      exact z)
    intro w mg fa h Y G hmg0
    obtain ⟨K, KX, S⟩ := Y
    have hmg : mg ("law" : PySem.Str) = some (.ref fa) := by
      have e : (HandSHeadRun.topDef (OpenLaw.row PySem.Challenge.rw_heaprows_k07_whole_refused).prog 69).name = ("law" : PySem.Str) := by kernel_rfl
      rw [← e]
      exact hmg0
    exact ⟨K, KX, K7.law_at KX S G hmg⟩
