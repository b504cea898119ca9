import PyProof.Rows.All
import Wide.All
import OpenK.AllK
import Wide.FinOn
import HandS.ForMost
import HandS.Evl
import HandS.Steps
import HandS.Zip
import HandS.Walk
import HandS.Conv
import HandS.IsInst
import HandS.TupLen
import HandS.Defaults
import HandS.WordsExc
import HandS.Deep
import HandS.ExcField
import HandS.ExcIs
import HandS.HotCalls
import KE.KExcIs
import KE.KExcSuper
import HandS.ExcSuper
import HandS.HeadHook1
import HandS.HeadHook2
import KE.KStateDown
import HandS.More
import HandS.Head0
import HandS.Head1
import HandS.Head2
import HandS.HeadEnd
import PySem.Challenge.RW_mustersums_k75_whole_leftovers
set_option Elab.async false
set_option linter.all false
set_option maxRecDepth 100000
set_option maxHeartbeats 0
set_option autoImplicit false
/-! ## the head -/
namespace M
open PySem PySem.Spec PyProof.Rows L2
def top (i : Nat) : Stmt := PySem.Challenge.pw_mustersums_k75_whole_leftovers.main.body.getD i (.Pass ⟨0, 0, 0, 0⟩)

abbrev s__law_begin : Stmt := (top 28)
abbrev s__law_draw : Stmt := (top 29)
abbrev s__law_rare : Stmt := (top 32)
abbrev s__law_pick : Stmt := (top 30)
abbrev s__law_pool : Stmt := (top 34)
abbrev s__law_pop : Stmt := (top 31)
abbrev s__law_shuffled : Stmt := (top 33)
abbrev s__law_listed : Stmt := (top 47)
abbrev s__law_heap : Stmt := (top 41)
abbrev s__law_some_kinds : Stmt := (top 67)
abbrev s__law_size_of_crowd : Stmt := (top 64)
abbrev s_times_all : Stmt := (top 14)
abbrev s_at_most : Stmt := (top 15)
abbrev s_can_do : Stmt := (top 17)
abbrev s_moved_by : Stmt := (top 18)
abbrev s_Search_links_of : Stmt := (inClass (top 20) 1)
abbrev s_Search___init__ : Stmt := (inClass (top 20) 0)
abbrev s_count_in : Stmt := (top 23)
abbrev s_most_at : Stmt := (top 24)
abbrev s_least_left : Stmt := (top 25)
abbrev s_Search_steps_to : Stmt := (inClass (top 20) 2)
abbrev s_Search_first_run : Stmt := (inClass (top 20) 3)
abbrev s_best_run : Stmt := (top 26)
abbrev s__law_refused : Stmt := (top 75)
abbrev s__law_is_int : Stmt := (top 35)
abbrev s__law_is_ints : Stmt := (top 36)
abbrev s__law_ring_steps : Stmt := (top 73)
abbrev s__law_times : Stmt := (top 39)
abbrev s__law_under : Stmt := (top 40)
abbrev s__law_can : Stmt := (top 58)
abbrev s__law_minus : Stmt := (top 38)
abbrev s__law_change : Stmt := (top 57)
abbrev s__law_plus : Stmt := (top 37)
abbrev s__law_after : Stmt := (top 59)
abbrev s__law_run_end : Stmt := (top 60)
abbrev s__law_inside : Stmt := (top 68)
abbrev s__law_ring_right : Stmt := (top 76)
abbrev s__law_deed : Stmt := (top 42)
abbrev s__law_rule : Stmt := (top 43)
abbrev s__law_heap_task : Stmt := (top 48)
abbrev s__law_group_task : Stmt := (top 49)
abbrev s__law_chain_task : Stmt := (top 50)
abbrev s__law_random_task : Stmt := (top 51)
abbrev s__law_to_and_fro_task : Stmt := (top 52)
abbrev s__law_turned : Stmt := (top 45)
abbrev s__law_turned_rule : Stmt := (top 46)
abbrev s__law_mixed_rule : Stmt := (top 44)
abbrev s__law_reversed_rule : Stmt := (top 55)
abbrev s__law_reversed : Stmt := (top 56)
abbrev s__law_mixed_task : Stmt := (top 54)
abbrev s__law_task : Stmt := (top 53)
abbrev s__law_world : Stmt := (top 66)
abbrev s__law_top : Stmt := (top 65)
abbrev s__law_reach : Stmt := (top 61)
abbrev s__law_most_right : Stmt := (top 70)
abbrev s__law_links : Stmt := (top 62)
abbrev s__law_steps_to : Stmt := (top 63)
abbrev s__law_best : Stmt := (top 69)
abbrev s__law_all_right : Stmt := (top 71)
abbrev s__law_far_right : Stmt := (top 72)
abbrev s_law : Stmt := (top 77)

abbrev s__law_is_too_many : Stmt := (top 74)
abbrev s_TooMany___init__ : Stmt := (inClass (top 10) 0)

abbrev iA : Arguments := { posonlyargs := [], args := [{ arg := "self", annotation := none, pos := ⟨43, 17, 43, 21⟩ }, { arg := "part", annotation := none, pos := ⟨43, 23, 43, 27⟩ }], vararg := none, kwonlyargs := [], kw_defaults := [], kwarg := none, defaults := [] }
abbrev iB1 : Stmt := .Expr (.Call (.Attribute (.Call (.Name "super" ⟨44, 8, 44, 13⟩) [] [] ⟨44, 8, 44, 15⟩) "__init__" ⟨44, 8, 44, 24⟩) [.Constant (.str "too many") 0 ⟨44, 25, 44, 35⟩] [] ⟨44, 8, 44, 36⟩) ⟨44, 8, 44, 36⟩
abbrev iB2 : Stmt := .Assign [.Attribute (.Name "self" ⟨45, 8, 45, 12⟩) "part" ⟨45, 8, 45, 17⟩] (.Name "part" ⟨45, 20, 45, 24⟩) ⟨45, 8, 45, 24⟩
abbrev iB : List Stmt := [iB1, iB2]
abbrev iS : Scope := { kind := .function, names := [(PySem.Str.ofString "self", .local), (PySem.Str.ofString "part", .local), (PySem.Str.ofString "__class__", .free), (PySem.Str.ofString "super", .globalImplicit)], isGenerator := false, isCoroutine := false, more := [] }
def isNames : List Str := ["BadText", "BadName", "Twice", "Unknown", "BadSize", "NotEnough", "TooLarge", "NoMuster", "Unlike"]
def d__law_begin : He.DefD := ⟨("_law_begin", none), "_law_begin", "_law_begin", defArgs s__law_begin, defBody s__law_begin, defScope s__law_begin, [], []⟩
def d__law_draw : He.DefD := ⟨("_law_draw", none), "_law_draw", "_law_draw", defArgs s__law_draw, defBody s__law_draw, defScope s__law_draw, [], []⟩
def d__law_rare : He.DefD := ⟨("_law_rare", none), "_law_rare", "_law_rare", defArgs s__law_rare, defBody s__law_rare, defScope s__law_rare, [], []⟩
def d__law_pick : He.DefD := ⟨("_law_pick", none), "_law_pick", "_law_pick", defArgs s__law_pick, defBody s__law_pick, defScope s__law_pick, [], []⟩
def d__law_pool : He.DefD := ⟨("_law_pool", none), "_law_pool", "_law_pool", defArgs s__law_pool, defBody s__law_pool, defScope s__law_pool, [], []⟩
def d__law_pop : He.DefD := ⟨("_law_pop", none), "_law_pop", "_law_pop", defArgs s__law_pop, defBody s__law_pop, defScope s__law_pop, [], []⟩
def d__law_shuffled : He.DefD := ⟨("_law_shuffled", none), "_law_shuffled", "_law_shuffled", defArgs s__law_shuffled, defBody s__law_shuffled, defScope s__law_shuffled, [], []⟩
def d__law_listed : He.DefD := ⟨("_law_listed", none), "_law_listed", "_law_listed", defArgs s__law_listed, defBody s__law_listed, defScope s__law_listed, [], []⟩
def d__law_heap : He.DefD := ⟨("_law_heap", none), "_law_heap", "_law_heap", defArgs s__law_heap, defBody s__law_heap, defScope s__law_heap, [], []⟩
def d__law_some_kinds : He.DefD := ⟨("_law_some_kinds", none), "_law_some_kinds", "_law_some_kinds", defArgs s__law_some_kinds, defBody s__law_some_kinds, defScope s__law_some_kinds, [], []⟩
def d__law_size_of_crowd : He.DefD := ⟨("_law_size_of_crowd", none), "_law_size_of_crowd", "_law_size_of_crowd", defArgs s__law_size_of_crowd, defBody s__law_size_of_crowd, defScope s__law_size_of_crowd, [], []⟩
def d_times_all : He.DefD := ⟨("times_all", none), "times_all", "times_all", defArgs s_times_all, defBody s_times_all, defScope s_times_all, [], []⟩
def d_at_most : He.DefD := ⟨("at_most", none), "at_most", "at_most", defArgs s_at_most, defBody s_at_most, defScope s_at_most, [], []⟩
def d_can_do : He.DefD := ⟨("can_do", none), "can_do", "can_do", defArgs s_can_do, defBody s_can_do, defScope s_can_do, [], []⟩
def d_moved_by : He.DefD := ⟨("moved_by", none), "moved_by", "moved_by", defArgs s_moved_by, defBody s_moved_by, defScope s_moved_by, [], []⟩
def d_Search_links_of : He.DefD := ⟨("Search", some "links_of"), "links_of", "Search.links_of", defArgs s_Search_links_of, defBody s_Search_links_of, defScope s_Search_links_of, [], []⟩
def d_Search___init__ : He.DefD := ⟨("Search", some "__init__"), "__init__", "Search.__init__", defArgs s_Search___init__, defBody s_Search___init__, defScope s_Search___init__, [], []⟩
def d_count_in : He.DefD := ⟨("count_in", none), "count_in", "count_in", defArgs s_count_in, defBody s_count_in, defScope s_count_in, [], []⟩
def d_most_at : He.DefD := ⟨("most_at", none), "most_at", "most_at", defArgs s_most_at, defBody s_most_at, defScope s_most_at, [], []⟩
def d_least_left : He.DefD := ⟨("least_left", none), "least_left", "least_left", defArgs s_least_left, defBody s_least_left, defScope s_least_left, [], []⟩
def d_Search_steps_to : He.DefD := ⟨("Search", some "steps_to"), "steps_to", "Search.steps_to", defArgs s_Search_steps_to, defBody s_Search_steps_to, defScope s_Search_steps_to, [], []⟩
def d_Search_first_run : He.DefD := ⟨("Search", some "first_run"), "first_run", "Search.first_run", defArgs s_Search_first_run, defBody s_Search_first_run, defScope s_Search_first_run, [], []⟩
def d_best_run : He.DefD := ⟨("best_run", none), "best_run", "best_run", defArgs s_best_run, defBody s_best_run, defScope s_best_run, [], []⟩
def d__law_refused : He.DefD := ⟨("_law_refused", none), "_law_refused", "_law_refused", defArgs s__law_refused, defBody s__law_refused, defScope s__law_refused, [], []⟩
def d__law_is_int : He.DefD := ⟨("_law_is_int", none), "_law_is_int", "_law_is_int", defArgs s__law_is_int, defBody s__law_is_int, defScope s__law_is_int, [], []⟩
def d__law_is_ints : He.DefD := ⟨("_law_is_ints", none), "_law_is_ints", "_law_is_ints", defArgs s__law_is_ints, defBody s__law_is_ints, defScope s__law_is_ints, [], []⟩
def d__law_ring_steps : He.DefD := ⟨("_law_ring_steps", none), "_law_ring_steps", "_law_ring_steps", defArgs s__law_ring_steps, defBody s__law_ring_steps, defScope s__law_ring_steps, [], []⟩
def d__law_times : He.DefD := ⟨("_law_times", none), "_law_times", "_law_times", defArgs s__law_times, defBody s__law_times, defScope s__law_times, [], []⟩
def d__law_under : He.DefD := ⟨("_law_under", none), "_law_under", "_law_under", defArgs s__law_under, defBody s__law_under, defScope s__law_under, [], []⟩
def d__law_can : He.DefD := ⟨("_law_can", none), "_law_can", "_law_can", defArgs s__law_can, defBody s__law_can, defScope s__law_can, [], []⟩
def d__law_minus : He.DefD := ⟨("_law_minus", none), "_law_minus", "_law_minus", defArgs s__law_minus, defBody s__law_minus, defScope s__law_minus, [], []⟩
def d__law_change : He.DefD := ⟨("_law_change", none), "_law_change", "_law_change", defArgs s__law_change, defBody s__law_change, defScope s__law_change, [], []⟩
def d__law_plus : He.DefD := ⟨("_law_plus", none), "_law_plus", "_law_plus", defArgs s__law_plus, defBody s__law_plus, defScope s__law_plus, [], []⟩
def d__law_after : He.DefD := ⟨("_law_after", none), "_law_after", "_law_after", defArgs s__law_after, defBody s__law_after, defScope s__law_after, [], []⟩
def d__law_run_end : He.DefD := ⟨("_law_run_end", none), "_law_run_end", "_law_run_end", defArgs s__law_run_end, defBody s__law_run_end, defScope s__law_run_end, [], []⟩
def d__law_inside : He.DefD := ⟨("_law_inside", none), "_law_inside", "_law_inside", defArgs s__law_inside, defBody s__law_inside, defScope s__law_inside, [], []⟩
def d__law_ring_right : He.DefD := ⟨("_law_ring_right", none), "_law_ring_right", "_law_ring_right", defArgs s__law_ring_right, defBody s__law_ring_right, defScope s__law_ring_right, [], []⟩
def d__law_deed : He.DefD := ⟨("_law_deed", none), "_law_deed", "_law_deed", defArgs s__law_deed, defBody s__law_deed, defScope s__law_deed, [], []⟩
def d__law_rule : He.DefD := ⟨("_law_rule", none), "_law_rule", "_law_rule", defArgs s__law_rule, defBody s__law_rule, defScope s__law_rule, [], []⟩
def d__law_heap_task : He.DefD := ⟨("_law_heap_task", none), "_law_heap_task", "_law_heap_task", defArgs s__law_heap_task, defBody s__law_heap_task, defScope s__law_heap_task, [], []⟩
def d__law_group_task : He.DefD := ⟨("_law_group_task", none), "_law_group_task", "_law_group_task", defArgs s__law_group_task, defBody s__law_group_task, defScope s__law_group_task, [], []⟩
def d__law_chain_task : He.DefD := ⟨("_law_chain_task", none), "_law_chain_task", "_law_chain_task", defArgs s__law_chain_task, defBody s__law_chain_task, defScope s__law_chain_task, [], []⟩
def d__law_random_task : He.DefD := ⟨("_law_random_task", none), "_law_random_task", "_law_random_task", defArgs s__law_random_task, defBody s__law_random_task, defScope s__law_random_task, [], []⟩
def d__law_to_and_fro_task : He.DefD := ⟨("_law_to_and_fro_task", none), "_law_to_and_fro_task", "_law_to_and_fro_task", defArgs s__law_to_and_fro_task, defBody s__law_to_and_fro_task, defScope s__law_to_and_fro_task, [], []⟩
def d__law_turned : He.DefD := ⟨("_law_turned", none), "_law_turned", "_law_turned", defArgs s__law_turned, defBody s__law_turned, defScope s__law_turned, [], []⟩
def d__law_turned_rule : He.DefD := ⟨("_law_turned_rule", none), "_law_turned_rule", "_law_turned_rule", defArgs s__law_turned_rule, defBody s__law_turned_rule, defScope s__law_turned_rule, [], []⟩
def d__law_mixed_rule : He.DefD := ⟨("_law_mixed_rule", none), "_law_mixed_rule", "_law_mixed_rule", defArgs s__law_mixed_rule, defBody s__law_mixed_rule, defScope s__law_mixed_rule, [], []⟩
def d__law_reversed_rule : He.DefD := ⟨("_law_reversed_rule", none), "_law_reversed_rule", "_law_reversed_rule", defArgs s__law_reversed_rule, defBody s__law_reversed_rule, defScope s__law_reversed_rule, [], []⟩
def d__law_reversed : He.DefD := ⟨("_law_reversed", none), "_law_reversed", "_law_reversed", defArgs s__law_reversed, defBody s__law_reversed, defScope s__law_reversed, [], []⟩
def d__law_mixed_task : He.DefD := ⟨("_law_mixed_task", none), "_law_mixed_task", "_law_mixed_task", defArgs s__law_mixed_task, defBody s__law_mixed_task, defScope s__law_mixed_task, [], []⟩
def d__law_task : He.DefD := ⟨("_law_task", none), "_law_task", "_law_task", defArgs s__law_task, defBody s__law_task, defScope s__law_task, [], []⟩
def d__law_world : He.DefD := ⟨("_law_world", none), "_law_world", "_law_world", defArgs s__law_world, defBody s__law_world, defScope s__law_world, [], []⟩
def d__law_top : He.DefD := ⟨("_law_top", none), "_law_top", "_law_top", defArgs s__law_top, defBody s__law_top, defScope s__law_top, [], []⟩
def d__law_reach : He.DefD := ⟨("_law_reach", none), "_law_reach", "_law_reach", defArgs s__law_reach, defBody s__law_reach, defScope s__law_reach, [], []⟩
def d__law_most_right : He.DefD := ⟨("_law_most_right", none), "_law_most_right", "_law_most_right", defArgs s__law_most_right, defBody s__law_most_right, defScope s__law_most_right, [], []⟩
def d__law_links : He.DefD := ⟨("_law_links", none), "_law_links", "_law_links", defArgs s__law_links, defBody s__law_links, defScope s__law_links, [], []⟩
def d__law_steps_to : He.DefD := ⟨("_law_steps_to", none), "_law_steps_to", "_law_steps_to", defArgs s__law_steps_to, defBody s__law_steps_to, defScope s__law_steps_to, [], []⟩
def d__law_best : He.DefD := ⟨("_law_best", none), "_law_best", "_law_best", defArgs s__law_best, defBody s__law_best, defScope s__law_best, [], []⟩
def d__law_all_right : He.DefD := ⟨("_law_all_right", none), "_law_all_right", "_law_all_right", defArgs s__law_all_right, defBody s__law_all_right, defScope s__law_all_right, [], []⟩
def d__law_far_right : He.DefD := ⟨("_law_far_right", none), "_law_far_right", "_law_far_right", defArgs s__law_far_right, defBody s__law_far_right, defScope s__law_far_right, [], []⟩
def d_law : He.DefD := ⟨("law", none), "law", "law", defArgs s_law, defBody s_law, defScope s_law, [], []⟩
def d__law_is_too_many : He.DefD := ⟨("_law_is_too_many", none), "_law_is_too_many", "_law_is_too_many", defArgs s__law_is_too_many, defBody s__law_is_too_many, defScope s__law_is_too_many, [], []⟩

def fnL0 : List He.DefD := [d__law_begin, d__law_draw, d__law_rare, d__law_pick, d__law_pool, d__law_pop, d__law_shuffled, d__law_listed, d__law_heap, d__law_some_kinds, d__law_size_of_crowd, d_times_all, d_at_most, d_can_do, d_moved_by, d_Search_links_of, d_Search___init__, d_count_in, d_most_at, d_least_left, d_Search_steps_to, d_Search_first_run, d_best_run, d__law_refused, d__law_is_int, d__law_is_ints, d__law_ring_steps, d__law_times, d__law_under, d__law_can]
def fnL1 : List He.DefD := [d__law_minus, d__law_change, d__law_plus, d__law_after, d__law_run_end, d__law_inside, d__law_ring_right, d__law_deed, d__law_rule, d__law_heap_task, d__law_group_task, d__law_chain_task, d__law_random_task, d__law_to_and_fro_task, d__law_turned, d__law_turned_rule, d__law_mixed_rule, d__law_reversed_rule, d__law_reversed, d__law_mixed_task, d__law_task, d__law_world, d__law_top, d__law_reach, d__law_most_right, d__law_links, d__law_steps_to, d__law_best, d__law_all_right, d__law_far_right]
def fnL2 : List He.DefD := [d_law, d__law_is_too_many]
def fnL : List He.DefD := fnL0 ++ fnL1 ++ fnL2

def faL0 : List He.Fa := [.free "len", .free "sum", .free "max", .free "min", .free "all", .free "any", .free "abs", .free "range", .free "zip", .free "sorted", .free "isinstance", .free "int", .free "bool", .free "tuple", .free "list", .free "super", .glo "_law_begin", .glo "_law_draw", .glo "_law_rare", .glo "_law_pick", .glo "_law_pool", .glo "_law_pop", .glo "_law_shuffled", .glo "_law_listed", .glo "_law_heap", .glo "_law_some_kinds", .glo "_law_size_of_crowd", .glo "times_all", .glo "at_most", .glo "can_do"]
def faL1 : List He.Fa := [.glo "moved_by", .glo "count_in", .glo "most_at", .glo "least_left", .glo "best_run", .glo "_law_refused", .glo "_law_is_int", .glo "_law_is_ints", .glo "_law_ring_steps", .glo "_law_times", .glo "_law_under", .glo "_law_can", .glo "_law_minus", .glo "_law_change", .glo "_law_plus", .glo "_law_after", .glo "_law_run_end", .glo "_law_inside", .glo "_law_ring_right", .glo "_law_deed", .glo "_law_rule", .glo "_law_heap_task", .glo "_law_group_task", .glo "_law_chain_task", .glo "_law_random_task", .glo "_law_to_and_fro_task", .glo "_law_turned", .glo "_law_turned_rule", .glo "_law_mixed_rule", .glo "_law_reversed_rule"]
def faL2 : List He.Fa := [.glo "_law_reversed", .glo "_law_mixed_task", .glo "_law_task", .glo "_law_world", .glo "_law_top", .glo "_law_reach", .glo "_law_most_right", .glo "_law_links", .glo "_law_steps_to", .glo "_law_best", .glo "_law_all_right", .glo "_law_far_right", .glo "law", .glo "_law_is_too_many", .glo "Search", .glo "TooMany", .glo "MusterError", .glo "LimitError", .glo "BadText", .glo "BadName", .glo "Twice", .glo "Unknown", .glo "BadSize", .glo "NotEnough", .glo "TooLarge", .glo "NoMuster", .glo "Unlike", .int "MOST_STANDINGS" 3000, .cls "Search", .noat "Search" "rule"]
def faL3 : List He.Fa := [.noat "Search" "listed", .noat "Search" "places", .noat "Search" "links", .noat "Search" "came", .meth "Search" "links_of", .meth "Search" "steps_to", .meth "Search" "first_run", .mkr "Search", .exm "TooMany" "MusterError" true, .keep "TooMany", .noat "TooMany" "part"]
def faL : List He.Fa := faL0 ++ faL1 ++ faL2 ++ faL3

def loose0 : List Str := ["MusterError", "BadText", "BadName", "Twice", "Unknown", "BadSize", "NotEnough", "LimitError", "TooLarge", "TooMany", "NoMuster", "Unlike", "times_all", "at_most", "can_do", "moved_by", "Search", "MOST_STANDINGS", "count_in", "most_at", "least_left", "best_run", "_law_begin", "_law_draw", "_law_pick", "_law_pop", "_law_rare", "_law_shuffled", "_law_pool", "_law_is_int"]
def loose1 : List Str := ["_law_is_ints", "_law_plus", "_law_minus", "_law_times", "_law_under", "_law_heap", "_law_deed", "_law_rule", "_law_mixed_rule", "_law_turned", "_law_turned_rule", "_law_listed", "_law_heap_task", "_law_group_task", "_law_chain_task", "_law_random_task", "_law_to_and_fro_task", "_law_task", "_law_mixed_task", "_law_reversed_rule", "_law_reversed", "_law_change", "_law_can", "_law_after", "_law_run_end", "_law_reach", "_law_links", "_law_steps_to", "_law_size_of_crowd", "_law_top"]
def loose2 : List Str := ["_law_world", "_law_some_kinds", "_law_inside", "_law_best", "_law_most_right", "_law_all_right", "_law_far_right", "_law_ring_steps", "_law_is_too_many", "_law_refused", "_law_ring_right"]
def loose : List Str := loose0 ++ loose1 ++ loose2

/-! ### what more is asked of TooMany -/
def clsB (K : PySem.W.Frag) (C : Addr) : Bool := match K.lookup C with
  | some ⟨.type "type", _, .cls cd, sl⟩ => (match cd.mro, sl.toList with
    | .ref C' :: bm, [_, _, _, _, some (.builtin n), _] => C' == C && (n == "ValueError.__new__" && (!cd.hasDel && (cd.hasDict && HandSPX.refsVE bm)))
    | _, _ => false)
  | _ => false
theorem clsB_ok {K : PySem.W.Frag} {C : Addr} (q : clsB K C = true) : ∃ nm q N bs bm sn sub ab col dd k0 k1 k2 k3 k5, K.lookup C = some (excClassObj nm q C N bs bm true sn sub ab col dd k0 k1 k2 k3 k5 "ValueError.__new__") ∧ HandSPX.refsVE bm = true := by
  unfold clsB at q
  split at q
  · rename_i dd cd sl ho
    split at q
    · rename_i C' bm k0 k1 k2 k3 n k5 hm hs
      obtain ⟨q1, q⟩ := He.ba q
      obtain ⟨q2, q⟩ := He.ba q
      obtain ⟨q3, q⟩ := He.ba q
      obtain ⟨q4, q5⟩ := He.ba q
      obtain ⟨nm, bs, mro, ns, qn, hd, sn, sb, ab, col, del⟩ := cd
      have e1 : C' = C := by simpa using q1
      have e2 : n = "ValueError.__new__" := by simpa using q2
      have e3 : del = false := by simpa using q3
      have e4 : hd = true := q4
      have e5 : mro = .ref C' :: bm := hm
      have e6 : sl = #[k0, k1, k2, k3, some (.builtin n), k5] := by
        obtain ⟨l⟩ := sl
        have : l = [k0, k1, k2, k3, some (.builtin n), k5] := hs
        rw [this]
      subst e1 e2 e3 e4 e5 e6
      exact ⟨_, _, _, _, _, _, _, _, _, _, _, _, _, _, _, ho, q5⟩
    · cases q
  · cases q
abbrev fIa (K : PySem.W.Frag) : Addr := He.ma K (He.ga K "TooMany") "__init__"
abbrev FnT : Type := Option (Str × Str × Arguments × FuncBody × Scope × Addr × Addr)
def fnT (K : PySem.W.Frag) : FnT := match K.lookup (fIa K) with
  | some ⟨_, _, .func fd, _⟩ => some (fd.name, fd.qualname, fd.params, fd.body, fd.scope, fd.globals, fd.builtins)
  | _ => none
def valT : FnT := some (("__init__" : Str), ("TooMany.__init__" : Str), iA, FuncBody.stmts iB, iS, mainGlobals, builtinsNs)
def celB (K : PySem.W.Frag) (cc : Addr) : Bool := match K.lookup cc with
  | some ⟨_, _, .cell (some (.ref D)), _⟩ => D == He.ga K "TooMany"
  | _ => false
def cdB (file : Str) (K : PySem.W.Frag) (cda : Addr) : Bool := match K.lookup cda with
  | some ⟨_, _, .fields vs, _⟩ => (match (vs[2]? : Option Value) with
    | some (Value.str f _) => file == f
    | _ => false)
  | _ => false
def initC (file : Str) (K : PySem.W.Frag) : List (Str × Addr) → Value → Value → Value → Bool
  | [(nm, cc)], .none, .none, .ref cda => nm == "__class__" && (celB K cc && (PySem.W.codeIn K (.ref cda) "TooMany.__init__" && cdB file K cda))
  | _, _, _, _ => false
theorem initC_ok {file : Str} {K : PySem.W.Frag} {cl : List (Str × Addr)} {d kd cd : Value} (q : initC file K cl d kd cd = true) : ∃ cc cda, cl = [(("__class__" : Str), cc)] ∧ d = .none ∧ kd = .none ∧ cd = .ref cda ∧ celB K cc = true ∧ PySem.W.codeIn K (.ref cda) "TooMany.__init__" = true ∧ cdB file K cda = true := by
  unfold initC at q
  split at q
  · rename_i nm cc cda
    obtain ⟨q1, q⟩ := He.ba q
    obtain ⟨q2, q⟩ := He.ba q
    obtain ⟨q3, q4⟩ := He.ba q
    have e1 : nm = "__class__" := by simpa using q1
    subst e1
    exact ⟨cc, cda, rfl, rfl, rfl, rfl, q2, q3, q4⟩
  · cases q
def initB (file : Str) (K : PySem.W.Frag) : Bool := match K.lookup (fIa K) with
  | some ⟨_, _, .func fd, _⟩ => initC file K fd.closure fd.defaults fd.kwdefaults fd.code
  | _ => false
theorem cdB_ok {file : Str} {K : PySem.W.Frag} {cda : Addr} (q : cdB file K cda = true) : ∃ ccl cdd vs ccs f tf, K.lookup cda = some ⟨ccl, cdd, .fields vs, ccs⟩ ∧ (vs[2]? : Option Value) = some (.str f tf) ∧ (file == f) = true := by
  unfold cdB at q
  split at q
  · rename_i ccl cdd vs ccs ho
    split at q
    · rename_i f tf hv
      exact ⟨ccl, cdd, vs, ccs, f, tf, ho, hv, q⟩
    · cases q
  · cases q
theorem celB_ok {K : PySem.W.Frag} {cc : Addr} (q : celB K cc = true) : ∃ cl cld csl, K.lookup cc = some ⟨cl, cld, .cell (some (.ref (He.ga K "TooMany"))), csl⟩ := by
  unfold celB at q
  split at q
  · rename_i cl cld D csl ho
    have e := beq_iff_eq.mp q
    subst e
    exact ⟨cl, cld, csl, ho⟩
  · cases q
theorem init_ok {file : Str} {K : PySem.W.Frag} (q : initB file K = true) (t : fnT K = valT) : ∃ cc cda, (∃ (oc : Value) (od : Option Addr) (doc pm : Value) (an : Option Addr) (ct : Value) (osl : Array (Option Value)),
    K.lookup (fIa K) = some ⟨oc, od, .func (PySem.W.ksFn "__init__" "TooMany.__init__" iA iB iS .none .none doc pm an (.ref cda) ct cc), osl⟩ ∧ PySem.W.codeIn K (.ref cda) "TooMany.__init__" = true) ∧
    (∃ ccl cdd vs ccs f tf, K.lookup cda = some ⟨ccl, cdd, .fields vs, ccs⟩ ∧ (vs[2]? : Option Value) = some (.str f tf) ∧ (file == f) = true) ∧ ∃ cl cld csl, K.lookup cc = some ⟨cl, cld, .cell (some (.ref (He.ga K "TooMany"))), csl⟩ := by
  unfold initB at q
  unfold fnT at t
  cases e : K.lookup (fIa K) with
  | none => rw [e] at q; cases q
  | some o =>
    obtain ⟨oc, od, dt, osl⟩ := o
    rw [e] at q t
    cases dt with
    | func fd =>
      obtain ⟨n1, n2, n3, n4, n5, n6, n7, n8, n9, n10, n11, n12, n13, n14, n15⟩ := fd
      have q' : initC file K n7 n8 n9 n13 = true := q
      obtain ⟨cc, cda, rfl, rfl, rfl, rfl, q2, q3, q4⟩ := initC_ok q'
      have e2 : (some (n1, n2, n3, n4, n5, n6, n15) : FnT) = (some (("__init__" : Str), ("TooMany.__init__" : Str), iA, FuncBody.stmts iB, iS, mainGlobals, builtinsNs) : FnT) := t
      simp only [Option.some.injEq, Prod.mk.injEq] at e2
      obtain ⟨h1, h2, h3, h4, h5, h6, h7⟩ := e2
      subst h1 h2 h3 h4 h5 h6 h7
      exact ⟨cc, cda, ⟨_, _, _, _, _, _, _, rfl, q3⟩, cdB_ok q4, celB_ok q2⟩
    | _ => cases q
def fiB (K : PySem.W.Frag) (v : Value) (n : Str) (a : Value) : Bool := He.eqO (PySem.W.findIn K v n) (some (some a))
def finB (K : PySem.W.Frag) (v : Value) (n : Str) : Bool := He.eqO (PySem.W.findIn K v n) (some none)
def obB (x : Option Bool) (b : Bool) : Bool := decide (x = some b)
def exB (file : Str) (K : PySem.W.Frag) : Bool :=
  clsB K (He.ga K "TooMany") && (fiB K (.ref (He.ga K "TooMany")) "__setattr__" (.builtin "object.__setattr__") && (fiB K (.ref (He.ga K "TooMany")) "__init__" (.ref (fIa K)) && (decide (PySem.W.typeIn K (.ref (fIa K)) = some (.type "function")) &&
  (obB (PySem.W.subIn K (.ref (He.ga K "TooMany")) (.type "BaseException")) true && (decide (PySem.W.typeIn K (.ref (He.ga K "TooMany")) = some (.type "type")) && (initB file K && (He.eqO (PySem.W.nsIn K cStatics "thirdparty.any") (some none) &&
  (He.eqO (PySem.W.ks_superIn K (He.ga K "TooMany") (He.ga K "TooMany") "__init__") (some (some (.builtin "ValueError.__init__"))) && (obB (PySem.W.subIn K (.ref (He.ga K "TooMany")) (.type "ValueError")) true && (obB (PySem.W.mroIn K (He.ga K "TooMany") (.ref (He.ga K "TooMany"))) true &&
  ((PySem.W.clsIn K (He.ga K "TooMany")).isSome && (fiB K (.ref (He.ga K "TooMany")) "__getattribute__" (.builtin "BaseException.__getattribute__") && (finB K (.ref (He.ga K "TooMany")) "__getattr__" && (PySem.W.hasDictIn K (He.ga K "TooMany") && (fiB K (.ref (He.ga K "TooMany")) "__class__" (.builtin "object.__class__") &&
  (decide (PySem.W.specialIn K (.builtin "object.__class__") "__get__" = some (some (.builtin "getset_descriptor.__get__"))) && (obB (PySem.W.takesIn K (.builtin "object.__class__")) true && (obB (PySem.W.mroIn K (He.ga K "TooMany") (.type "object")) true &&
  (obB (PySem.W.kitAny K (.ref (He.ga K "TooMany")) (isNames.map fun x => .ref (He.ga K x))) false && (obB (PySem.W.kitOne K (.ref (He.ga K "TooMany")) (.ref (He.ga K "TooMany"))) true && obB (PySem.W.kitOne K (.ref (He.ga K "TooMany")) (.ref (He.ga K "LimitError"))) true))))))))))))))))))))
abbrev AlX : Type := He.AlD × FnT
def obsX (file : Str) (K : PySem.W.Frag) : AlX := ((((He.obsD faL fnL K).1 && exB file K), (He.obsD faL fnL K).2), fnT K)
def valX : AlX := (He.valD fnL, valT)
structure SaysX (file : Str) (K : PySem.W.Frag) : Prop where
  d : He.SaysD faL fnL K
  e : exB file K = true
  t : fnT K = valT
theorem says_of {file : Str} {K : PySem.W.Frag} (h : obsX file K = valX) : SaysX file K := by
  have h1 : (((He.obsD faL fnL K).1 && exB file K), (He.obsD faL fnL K).2) = He.valD fnL := congrArg (fun z : AlX => z.1) h
  have h2 : fnT K = valT := congrArg (fun z : AlX => z.2) h
  have h3 : ((He.obsD faL fnL K).1 && exB file K) = true := congrArg (fun z : He.AlD => z.1) h1
  have h4 : (He.obsD faL fnL K).2 = fnL.map He.DefD.val := congrArg (fun z : He.AlD => z.2) h1
  obtain ⟨h5, h6⟩ := He.ba h3
  exact ⟨Prod.ext h5 h4, h6, h2⟩
def grX (g : Addr → Option Obj) : PySem.W.Frag := He.frG g (He.asD g 6 ++ [cStatics])
def hookX (file : Str) : PySem.W.Hook where
  α := AlX
  obs := fun s => obsX file (grX s.heap.get?)
  val := fun _ => valX
  says := fun _ h => ∃ K : PySem.W.Frag, K.In h ∧ SaysX file K
  of := fun _ _ e => ⟨_, He.frG_in, says_of e⟩
  keeps := fun _ _ _ ⟨K, hK, c⟩ k => ⟨K, PySem.W.Frag.In.keeps hK k, c⟩
abbrev Rw : PySem.W.OpenRow := PySem.W.OpenLaw.row PySem.Challenge.rw_mustersums_k75_whole_leftovers
abbrev fileR : Str := Rw.prog.main.file
abbrev hk : PySem.W.Hook := hookX fileR
def ob (s : PySem.W.SharedT) : AlX := obsX fileR (grX (HandSHeadRun.getT s))
theorem ob_eq (s : PySem.W.SharedT) : ob s = hk.obs s.abs := by
  have e : HandSHeadRun.getT s = s.abs.heap.get? := funext (HandSHeadRun.getT_eq s)
  show obsX fileR (grX (HandSHeadRun.getT s)) = obsX fileR (grX s.abs.heap.get?)
  rw [e]
theorem run (w : World) : HandSHeadRun.RunEq Rw (PySem.W.view Rw.prog [77]) hk ob 8000 loose w := by
  intro os
  kernel_rfl
end M
/-! ## Fw1 -/
/-! The frame of our proofs: what a reading evaluates to, with data by representation predicates. -/
namespace M
open PySem L2 Evl

/-! ### representation of data in the abstract heap -/
abbrev Rp (α : Type) := Hp → V → α → Prop
/-- tuples stay -/
def Tp (H H' : Hp) : Prop := ∀ a xs, H a = some (.tup xs) → H' a = some (.tup xs)
theorem Tp.refl (H : Hp) : Tp H H := fun _ _ h => h
theorem Tp.trans {H H1 H2 : Hp} (a : Tp H H1) (b : Tp H1 H2) : Tp H H2 := fun x xs h => b x xs (a x xs h)
theorem Ex.tp {H H' : Hp} (e : Ex H H') : Tp H H' := fun a xs h => e a _ h
class Mon {α : Type} (r : Rp α) : Prop where
  mon : ∀ {H H' : Hp} {v : V} {x : α}, Tp H H' → r H v x → r H' v x
def rI : Rp Int := fun _ v n => v = .int n
def rB : Rp Bool := fun _ v b => v = .bl b
def rS : Rp Str := fun _ v s => v = .str s
def rV : Rp V := fun _ v w => v = w
def rO {α : Type} (r : Rp α) : Rp (Option α) := fun H v o => match o with
  | none => v = .non
  | some x => r H v x
def rT {α : Type} (r : Rp α) : Rp (List α) := fun H v xs => ∃ a vs, v = .ref a ∧ H a = some (.tup vs) ∧ Paired (r H) vs xs
def rP {α β : Type} (r : Rp α) (s : Rp β) : Rp (α × β) := fun H v x => ∃ a v1 v2, v = .ref a ∧ H a = some (.tup [v1, v2]) ∧ r H v1 x.1 ∧ s H v2 x.2
def rP3 {α β γ : Type} (r : Rp α) (s : Rp β) (t : Rp γ) : Rp (α × β × γ) := fun H v x => ∃ a v1 v2 v3, v = .ref a ∧ H a = some (.tup [v1, v2, v3]) ∧ r H v1 x.1 ∧ s H v2 x.2.1 ∧ t H v3 x.2.2
/-- a list at v, its items -/
def rL {α : Type} (r : Rp α) : Rp (List α) := fun H v xs => ∃ a vs, v = .ref a ∧ H a = some (.lst vs) ∧ Paired (r H) vs xs
instance : Mon rI := ⟨fun _ h => h⟩
instance : Mon rB := ⟨fun _ h => h⟩
instance : Mon rS := ⟨fun _ h => h⟩
instance : Mon rV := ⟨fun _ h => h⟩
instance {α : Type} {r : Rp α} [Mon r] : Mon (rO r) := ⟨fun {H H' v x} t h => by
  cases x with
  | none => exact h
  | some y => exact Mon.mon (r := r) t h⟩
instance {α : Type} {r : Rp α} [Mon r] : Mon (rT r) := ⟨fun t ⟨a, vs, e, h, p⟩ => ⟨a, vs, e, t _ _ h, Paired.mapP p fun _ _ q => Mon.mon t q⟩⟩
instance {α β : Type} {r : Rp α} {s : Rp β} [Mon r] [Mon s] : Mon (rP r s) := ⟨fun t ⟨a, v1, v2, e, h, p, q⟩ => ⟨a, v1, v2, e, t _ _ h, Mon.mon t p, Mon.mon t q⟩⟩
instance {α β γ : Type} {r : Rp α} {s : Rp β} {u : Rp γ} [Mon r] [Mon s] [Mon u] : Mon (rP3 r s u) := ⟨fun t ⟨a, v1, v2, v3, e, h, p, q, z⟩ => ⟨a, v1, v2, v3, e, t _ _ h, Mon.mon t p, Mon.mon t q, Mon.mon t z⟩⟩
/-- kept where all objects are kept -/
class MX {α : Type} (r : Rp α) : Prop where
  mx : ∀ {H H' : Hp} {v : V} {x : α}, Ex H H' → r H v x → r H' v x
instance (priority := low) {α : Type} {r : Rp α} [Mon r] : MX r := ⟨fun e h => Mon.mon (Ex.tp e) h⟩
theorem mon {α : Type} {r : Rp α} [MX r] {H H' : Hp} {v : V} {x : α} (e : Ex H H') (h : r H v x) : r H' v x := MX.mx e h
theorem mons {α : Type} {r : Rp α} [MX r] {H H' : Hp} {vs : List V} {xs : List α} (e : Ex H H') (h : Paired (r H) vs xs) : Paired (r H') vs xs := Paired.mapP h fun _ _ q => MX.mx e q
theorem monT {α : Type} {r : Rp α} [Mon r] {H H' : Hp} {vs : List V} {xs : List α} (e : Tp H H') (h : Paired (r H) vs xs) : Paired (r H') vs xs := Paired.mapP h fun _ _ q => Mon.mon e q
instance {α : Type} {r : Rp α} [MX r] : MX (rO r) := ⟨fun {H H' v x} t h => by
  cases x with
  | none => exact h
  | some y => exact MX.mx (r := r) t h⟩
instance {α : Type} {r : Rp α} [MX r] : MX (rT r) := ⟨fun t ⟨a, vs, e, h, p⟩ => ⟨a, vs, e, t _ _ h, mons t p⟩⟩
instance {α β : Type} {r : Rp α} {s : Rp β} [MX r] [MX s] : MX (rP r s) := ⟨fun t ⟨a, v1, v2, e, h, p, q⟩ => ⟨a, v1, v2, e, t _ _ h, mon t p, mon t q⟩⟩
instance {α β γ : Type} {r : Rp α} {s : Rp β} {u : Rp γ} [MX r] [MX s] [MX u] : MX (rP3 r s u) := ⟨fun t ⟨a, v1, v2, v3, e, h, p, q, z⟩ => ⟨a, v1, v2, v3, e, t _ _ h, mon t p, mon t q, mon t z⟩⟩
instance {α : Type} {r : Rp α} [MX r] : MX (rL r) := ⟨fun e ⟨a, vs, q, h, p⟩ => ⟨a, vs, q, e _ _ h, mons e p⟩⟩
theorem rs_int {H : Hp} : ∀ {vs : List V} {ns : List Int}, Paired (rI H) vs ns → vs = ns.map V.int
  | _, _, .nil => rfl
  | _, _, .cons h t => by rw [List.map_cons, ← rs_int t]; cases h; rfl
theorem rs_bool {H : Hp} : ∀ {vs : List V} {ns : List Bool}, Paired (rB H) vs ns → vs = ns.map V.bl
  | _, _, .nil => rfl
  | _, _, .cons h t => by rw [List.map_cons, ← rs_bool t]; cases h; rfl
theorem int_rs {H : Hp} : ∀ (ns : List Int), Paired (rI H) (ns.map V.int) ns
  | [] => .nil
  | _ :: ns => .cons rfl (int_rs ns)
theorem str_rs {H : Hp} : ∀ (ns : List Str), Paired (rS H) (ns.map V.str) ns
  | [] => .nil
  | _ :: ns => .cons rfl (str_rs ns)
theorem p_get {α β : Type} {F : α → β → Prop} : ∀ {l : List α} {m : List β} {i : Nat} {y : β}, Paired F l m → m[i]? = some y → ∃ x, l[i]? = some x ∧ F x y
  | _, _, _, _, .nil, h => by simp at h
  | _, _, 0, _, .cons h _, e => by simp at e; subst e; exact ⟨_, rfl, h⟩
  | _, _, i + 1, _, .cons _ t, e => by
    obtain ⟨x, e1, q⟩ := p_get (i := i) t (by simpa using e)
    exact ⟨x, by simpa using e1, q⟩
theorem p_get' {α β : Type} {F : α → β → Prop} : ∀ {l : List α} {m : List β} {i : Nat} {x : α}, Paired F l m → l[i]? = some x → ∃ y, m[i]? = some y ∧ F x y
  | _, _, _, _, .nil, h => by simp at h
  | _, _, 0, _, .cons h _, e => by simp at e; subst e; exact ⟨_, rfl, h⟩
  | _, _, i + 1, _, .cons _ t, e => by
    obtain ⟨x, e1, q⟩ := p_get' (i := i) t (by simpa using e)
    exact ⟨x, by simpa using e1, q⟩
theorem p_app {α β : Type} {F : α → β → Prop} : ∀ {l l' : List α} {m m' : List β}, Paired F l m → Paired F l' m' → Paired F (l ++ l') (m ++ m')
  | _, _, _, _, .nil, h => h
  | _, _, _, _, .cons h t, h' => .cons h (p_app t h')
theorem p_set {α β : Type} {F : α → β → Prop} {x : α} {y : β} (r : F x y) : ∀ {l : List α} {m : List β} (i : Nat), Paired F l m → Paired F (l.set i x) (m.set i y)
  | _, _, _, .nil => .nil
  | _, _, 0, .cons _ t => .cons r t
  | _, _, i + 1, .cons q t => .cons q (p_set r i t)
theorem p_erase {α β : Type} {F : α → β → Prop} : ∀ {l : List α} {m : List β} (i : Nat), Paired F l m → Paired F (l.eraseIdx i) (m.eraseIdx i)
  | _, _, _, .nil => .nil
  | _, _, 0, .cons _ t => t
  | _, _, i + 1, .cons q t => .cons q (p_erase i t)

/-! ### what evaluates to what, leaving all that is known -/
def EvP (te : TE) (σ : L2.St) (H : Hp) (P : V → Hp → Prop) : Prop := ∀ H1, Ex H H1 → ∀ Q : VK, (∀ v H2, Ex H1 H2 → P v H2 → Q v H2) → te σ H1 Q
def EvAP (ta : TA) (σ : L2.St) (H : Hp) (P : List V → Hp → Prop) : Prop := ∀ H1, Ex H H1 → ∀ Q : List V → Hp → Prop, (∀ v H2, Ex H1 H2 → P v H2 → Q v H2) → ta σ H1 Q
/-- it evaluates to what stands for x -/
abbrev Ed {α : Type} (te : TE) (σ : L2.St) (H : Hp) (r : Rp α) (x : α) : Prop := EvP te σ H fun v H' => r H' v x
/-- a fresh list of what stands for xs -/
def FL {α : Type} (r : Rp α) (H : Hp) (xs : List α) : V → Hp → Prop := fun v H' => ∃ p vs, v = .ref p ∧ H p = none ∧ H' p = some (.lst vs) ∧ Paired (r H') vs xs
abbrev El {α : Type} (te : TE) (σ : L2.St) (H : Hp) (r : Rp α) (xs : List α) : Prop := EvP te σ H (FL r H xs)

section
variable {K : PySem.W.Frag} {σ : L2.St} {H H' : Hp} {ta tb te tx : TE} {t u : TT} {P P1 P2 : V → Hp → Prop} {α β : Type} {r : Rp α} {s : Rp β}
theorem EvP.run (h : EvP te σ H P) {Q : VK} (k : ∀ v H1, Ex H H1 → P v H1 → Q v H1) : te σ H Q := h H (Ex.refl H) Q k
theorem EvP.mono (e : Ex H H') (h : EvP te σ H P) : EvP te σ H' P := fun H1 a Q q => h H1 (e.trans a) Q q
theorem EvP.imp (h : EvP te σ H P) (k : ∀ v H1, Ex H H1 → P v H1 → P1 v H1) : EvP te σ H P1 := fun H1 a Q q => h H1 a Q fun v H2 e p => q v H2 e (k v H2 (a.trans e) p)
theorem ev_v {v : V} {i : Nat} (h : σ[i]? = some (some v)) : EvP (tVar i) σ H fun w H' => w = v := fun H1 _ _ q => ⟨v, h, q v H1 (Ex.refl H1) rfl⟩
theorem ed_var [MX r] {i : Nat} {v : V} {x : α} (h : σ[i]? = some (some v)) (hr : r H v x) : Ed (tVar i) σ H r x := fun H1 e _ q => ⟨v, h, q v H1 (Ex.refl H1) (mon e hr)⟩
theorem ed_c [MX r] {v : V} {x : α} (hr : r H v x) : Ed (tC v) σ H r x := fun H1 e _ q => q v H1 (Ex.refl H1) (mon e hr)
theorem ed_int {n : Int} : Ed (tC (.int n)) σ H rI n := fun H1 _ _ q => q _ H1 (Ex.refl H1) rfl
theorem ed_bl {b : Bool} : Ed (tC (.bl b)) σ H rB b := fun H1 _ _ q => q _ H1 (Ex.refl H1) rfl
theorem ed_str {z : Str} : Ed (tC (.str z)) σ H rS z := fun H1 _ _ q => q _ H1 (Ex.refl H1) rfl
theorem ed_non {x : Option α} (h : x = none) : Ed (tC .non) σ H (rO r) x := fun H1 _ _ q => q _ H1 (Ex.refl H1) (by rw [h]; rfl)
theorem Ed.to {x y : α} (h : Ed te σ H r x) (e : x = y) : Ed te σ H r y := e ▸ h
/-- two operands, then an operation on values -/
theorem ev_op {o : R2} (ha : EvP ta σ H P1) (hb : EvP tb σ H P2) (hr : ∀ v w H1, Ex H H1 → P2 w H1 → (∃ H0, Ex H0 H1 ∧ P1 v H0) → ∀ Q : VK, (∀ z H2, Ex H1 H2 → P z H2 → Q z H2) → o v w H1 Q) : EvP (tOp o ta tb) σ H P := fun H1 e Q q =>
  ha H1 e _ fun v H2 e2 p1 => hb H2 (e.trans e2) _ fun w H3 e3 p2 => hr v w H3 ((e.trans e2).trans e3) p2 ⟨H2, e3, p1⟩ Q fun z H4 e4 p => q z H4 ((e2.trans e3).trans e4) p
/-- the usual form: both operands data -/
theorem ed_op {o : R2} [MX r] {x : α} {y : β} (ha : Ed ta σ H r x) (hb : Ed tb σ H s y) (hr : ∀ v w H1, Ex H H1 → r H1 v x → s H1 w y → ∀ Q : VK, (∀ z H2, Ex H1 H2 → P z H2 → Q z H2) → o v w H1 Q) : EvP (tOp o ta tb) σ H P :=
  ev_op ha hb fun v w H1 e p2 ⟨_, e0, p1⟩ Q q => hr v w H1 e (mon e0 p1) p2 Q q
/-- int operations -/
abbrev oAdd : R2 := rI0 fun i j => .int (i + j)
abbrev oSub : R2 := rI0 fun i j => .int (i - j)
abbrev oMul : R2 := L2.rI CMul fun i j => .int (i * j)
abbrev oDiv : R2 := L2.rI CDiv fun i j => .int (i / j)
abbrev oMod : R2 := L2.rI (fun _ j => 0 < j) fun i j => .int (i % j)
abbrev oPow : R2 := L2.rI CPow fun i j => .int (i ^ j.toNat)
abbrev oShl : R2 := L2.rI CPow fun i j => .int (i * 2 ^ j.toNat)
abbrev oLt : R2 := rI0 fun i j => .bl (decide (i < j))
abbrev oLe : R2 := rI0 fun i j => .bl (decide (i ≤ j))
abbrev oGt : R2 := rI0 fun i j => .bl (decide (j < i))
abbrev oGe : R2 := rI0 fun i j => .bl (decide (j ≤ i))
variable {i j : Int}
theorem ed_I0 {g : Int → Int → V} {γ : Type} {q : Rp γ} {z : γ} (ha : Ed ta σ H rI i) (hb : Ed tb σ H rI j) (hz : ∀ H, q H (g i j) z) : Ed (tOp (rI0 g) ta tb) σ H q z :=
  ed_op ha hb fun v w H1 _ p1 p2 Q k => ⟨i, j, p1, p2, k _ H1 (Ex.refl H1) (hz H1)⟩
theorem ed_I {C : Int → Int → Prop} {g : Int → Int → V} {γ : Type} {q : Rp γ} {z : γ} (ha : Ed ta σ H rI i) (hb : Ed tb σ H rI j) (hc : C i j) (hz : ∀ H, q H (g i j) z) : Ed (tOp (L2.rI C g) ta tb) σ H q z :=
  ed_op ha hb fun v w H1 _ p1 p2 Q k => ⟨i, j, p1, p2, hc, k _ H1 (Ex.refl H1) (hz H1)⟩
theorem ed_add (ha : Ed ta σ H rI i) (hb : Ed tb σ H rI j) : Ed (tOp oAdd ta tb) σ H rI (i + j) := ed_I0 ha hb fun _ => rfl
theorem ed_sub (ha : Ed ta σ H rI i) (hb : Ed tb σ H rI j) : Ed (tOp oSub ta tb) σ H rI (i - j) := ed_I0 ha hb fun _ => rfl
theorem ed_mul (ha : Ed ta σ H rI i) (hb : Ed tb σ H rI j) (hc : CMul i j) : Ed (tOp oMul ta tb) σ H rI (i * j) := ed_I ha hb hc fun _ => rfl
theorem ed_div (ha : Ed ta σ H rI i) (hb : Ed tb σ H rI j) (hc : 0 < j ∧ j < 1073741824) : Ed (tOp oDiv ta tb) σ H rI (i / j) := ed_I ha hb hc fun _ => rfl
theorem ed_mod (ha : Ed ta σ H rI i) (hb : Ed tb σ H rI j) (hc : 0 < j) : Ed (tOp oMod ta tb) σ H rI (i % j) := ed_I ha hb hc fun _ => rfl
theorem ed_lt (ha : Ed ta σ H rI i) (hb : Ed tb σ H rI j) : Ed (tOp oLt ta tb) σ H rB (decide (i < j)) := ed_I0 ha hb fun _ => rfl
theorem ed_le (ha : Ed ta σ H rI i) (hb : Ed tb σ H rI j) : Ed (tOp oLe ta tb) σ H rB (decide (i ≤ j)) := ed_I0 ha hb fun _ => rfl
theorem ed_gt (ha : Ed ta σ H rI i) (hb : Ed tb σ H rI j) : Ed (tOp oGt ta tb) σ H rB (decide (j < i)) := ed_I0 ha hb fun _ => rfl
theorem ed_ge (ha : Ed ta σ H rI i) (hb : Ed tb σ H rI j) : Ed (tOp oGe ta tb) σ H rB (decide (j ≤ i)) := ed_I0 ha hb fun _ => rfl
theorem ed_neg (ha : Ed ta σ H rI i) : Ed (tUn (rU fun i => .int (-i)) ta) σ H rI (-i) := fun H1 e Q q => ha H1 e _ fun v H2 e2 p => ⟨i, p, q _ H2 e2 rfl⟩
theorem ed_eqI (ha : Ed ta σ H rI i) (hb : Ed tb σ H rI j) : Ed (tOp rEq ta tb) σ H rB (decide (i = j)) :=
  ed_op ha hb fun v w H1 _ p1 p2 Q k => by
    cases p1; cases p2
    refine ⟨rfl, ?_⟩
    have e : decide (V.int i = V.int j) = decide (i = j) := by rw [dec_int, Bool.beq_eq_decide_eq]
    rw [e]
    exact k _ H1 (Ex.refl H1) rfl
theorem ed_neI (ha : Ed ta σ H rI i) (hb : Ed tb σ H rI j) : Ed (tOp rNe ta tb) σ H rB (!decide (i = j)) :=
  ed_op ha hb fun v w H1 _ p1 p2 Q k => by
    cases p1; cases p2
    refine ⟨rfl, ?_⟩
    have e : decide (V.int i = V.int j) = decide (i = j) := by rw [dec_int, Bool.beq_eq_decide_eq]
    rw [e]
    exact k _ H1 (Ex.refl H1) rfl
/-! ### subscripts -/
theorem ed_ixT [MX r] {xs : List α} {y : α} {k : Nat} (ha : Ed ta σ H (rT r) xs) (hb : Ed tb σ H rI (k : Int)) (hy : xs[k]? = some y) : Ed (tOp (rIxT K) ta tb) σ H r y :=
  ed_op ha hb fun v w H1 _ p1 p2 Q q => by
    obtain ⟨a, vs, rfl, hv, pr⟩ := p1
    obtain ⟨z, hz, rz⟩ := p_get pr hy
    exact ⟨a, vs, k, z, rfl, p2, SqT.of hv, atI_nat hz, q z H1 (Ex.refl H1) rz⟩
theorem ed_ixL [MX r] {xs : List α} {y : α} {k : Nat} (ha : Ed ta σ H (rL r) xs) (hb : Ed tb σ H rI (k : Int)) (hy : xs[k]? = some y) : Ed (tOp (rIxL K) ta tb) σ H r y :=
  ev_op ha hb fun v w H1 _ p2 ⟨_, e0, p1⟩ Q q => by
    obtain ⟨a, vs, rfl, hv, pr⟩ := mon e0 p1
    obtain ⟨z, hz, rz⟩ := p_get pr hy
    exact ⟨a, vs, k, z, rfl, p2, SqL.of hv, atI_nat hz, q z H1 (Ex.refl H1) rz⟩
theorem ed_p1 [MX r] [MX s] {x : α × β} (ha : Ed ta σ H (rP r s) x) : Ed (tOp (rIxT K) ta (tC (.int 0))) σ H r x.1 :=
  ed_op ha (ed_int (n := 0)) fun v w H1 _ p1 p2 Q q => by
    obtain ⟨a, v1, v2, rfl, hv, q1, q2⟩ := p1
    exact ⟨a, _, 0, v1, rfl, p2, SqT.of hv, rfl, q _ H1 (Ex.refl H1) q1⟩
theorem ed_p2 [MX r] [MX s] {x : α × β} (ha : Ed ta σ H (rP r s) x) : Ed (tOp (rIxT K) ta (tC (.int 1))) σ H s x.2 :=
  ed_op ha (ed_int (n := 1)) fun v w H1 _ p1 p2 Q q => by
    obtain ⟨a, v1, v2, rfl, hv, q1, q2⟩ := p1
    exact ⟨a, _, 1, v2, rfl, p2, SqT.of hv, rfl, q _ H1 (Ex.refl H1) q2⟩
variable {γ : Type} {c : Rp γ}
theorem ed_t1 [MX r] [MX s] [MX c] {x : α × β × γ} (ha : Ed ta σ H (rP3 r s c) x) : Ed (tOp (rIxT K) ta (tC (.int 0))) σ H r x.1 :=
  ed_op ha (ed_int (n := 0)) fun v w H1 _ p1 p2 Q q => by
    obtain ⟨a, v1, v2, v3, rfl, hv, q1, q2, q3⟩ := p1
    exact ⟨a, _, 0, v1, rfl, p2, SqT.of hv, rfl, q _ H1 (Ex.refl H1) q1⟩
theorem ed_t2 [MX r] [MX s] [MX c] {x : α × β × γ} (ha : Ed ta σ H (rP3 r s c) x) : Ed (tOp (rIxT K) ta (tC (.int 1))) σ H s x.2.1 :=
  ed_op ha (ed_int (n := 1)) fun v w H1 _ p1 p2 Q q => by
    obtain ⟨a, v1, v2, v3, rfl, hv, q1, q2, q3⟩ := p1
    exact ⟨a, _, 1, v2, rfl, p2, SqT.of hv, rfl, q _ H1 (Ex.refl H1) q2⟩
theorem ed_t3 [MX r] [MX s] [MX c] {x : α × β × γ} (ha : Ed ta σ H (rP3 r s c) x) : Ed (tOp (rIxT K) ta (tC (.int 2))) σ H c x.2.2 :=
  ed_op ha (ed_int (n := 2)) fun v w H1 _ p1 p2 Q q => by
    obtain ⟨a, v1, v2, v3, rfl, hv, q1, q2, q3⟩ := p1
    exact ⟨a, _, 2, v3, rfl, p2, SqT.of hv, rfl, q _ H1 (Ex.refl H1) q3⟩
/-! ### displays -/
theorem ea_nil' : EvAP tNil σ H fun vs _ => vs = [] := fun H1 _ _ q => q [] H1 (Ex.refl H1) rfl
theorem ea_cons' {tr : TA} {PA : List V → Hp → Prop} (ha : EvP te σ H P) (hr : EvAP tr σ H PA) : EvAP (tCons te tr) σ H fun vs H' => ∃ v ws H0, vs = v :: ws ∧ Ex H0 H' ∧ P v H0 ∧ PA ws H' := fun H1 e Q q =>
  ha H1 e _ fun v H2 e2 p => hr H2 (e.trans e2) _ fun ws H3 e3 pr => q _ H3 (e2.trans e3) ⟨v, ws, H2, rfl, e3, p, pr⟩
theorem ed_pair [MX r] [MX s] {x : α} {y : β} (ha : Ed ta σ H r x) (hb : Ed tb σ H s y) : Ed (tTup (tCons ta (tCons tb tNil))) σ H (rP r s) (x, y) := fun H1 e Q q =>
  ha H1 e _ fun v H2 e2 p => hb H2 (e.trans e2) _ fun w H3 e3 p2 => ⟨by show 2 ≤ sizeLine; decide, fun a hn =>
    q _ _ ((e2.trans e3).trans (Ex.new hn)) ⟨a, v, w, rfl, upd_same, mon (e3.trans (Ex.new hn)) p, mon (Ex.new hn) p2⟩⟩
theorem ed_trip [MX r] [MX s] [MX c] {x : α} {y : β} {z : γ} (ha : Ed ta σ H r x) (hb : Ed tb σ H s y) (hc : Ed tx σ H c z) : Ed (tTup (tCons ta (tCons tb (tCons tx tNil)))) σ H (rP3 r s c) (x, y, z) := fun H1 e Q q =>
  ha H1 e _ fun v H2 e2 p => hb H2 (e.trans e2) _ fun w H3 e3 p2 => hc H3 ((e.trans e2).trans e3) _ fun u H4 e4 p3 => ⟨by show 3 ≤ sizeLine; decide, fun a hn =>
    q _ _ (((e2.trans e3).trans e4).trans (Ex.new hn)) ⟨a, v, w, u, rfl, upd_same, mon ((e3.trans e4).trans (Ex.new hn)) p, mon (e4.trans (Ex.new hn)) p2, mon (Ex.new hn) p3⟩⟩
/-- items of a display, all of one kind -/
def EvAs (ta : TA) (σ : L2.St) (H : Hp) (r : Rp α) (xs : List α) : Prop := EvAP ta σ H fun vs H' => Paired (r H') vs xs
theorem es_nil : EvAs tNil σ H r [] := fun H1 _ _ q => q [] H1 (Ex.refl H1) .nil
theorem es_cons [MX r] {x : α} {xs : List α} {tr : TA} (ha : Ed te σ H r x) (hr : EvAs tr σ H r xs) : EvAs (tCons te tr) σ H r (x :: xs) := fun H1 e _ q =>
  ha H1 e _ fun v H2 e2 p => hr H2 (e.trans e2) _ fun ws H3 e3 pr => q _ H3 (e2.trans e3) (.cons (mon e3 p) pr)
theorem ed_tup [MX r] {ta : TA} {xs : List α} (ha : EvAs ta σ H r xs) (hz : xs.length ≤ 100000) : Ed (tTup ta) σ H (rT r) xs := fun H1 e Q q =>
  ha H1 e _ fun vs H2 e2 p => ⟨by rw [Paired.length p]; exact sz_of hz, fun a hn => q _ _ (e2.trans (Ex.new hn)) ⟨a, vs, rfl, upd_same, mons (Ex.new hn) p⟩⟩
theorem el_lst [MX r] {ta : TA} {xs : List α} (ha : EvAs ta σ H r xs) (hz : xs.length ≤ 100000) : El (tLst ta) σ H r xs := fun H1 e Q q =>
  ha H1 e _ fun vs H2 e2 p => ⟨by rw [Paired.length p]; exact sz_of hz, fun a hn => q _ _ (e2.trans (Ex.new hn)) ⟨a, vs, rfl, fresh_back (e.trans e2) hn, upd_same, mons (Ex.new hn) p⟩⟩
theorem El.ed [MX r] {xs : List α} (h : El te σ H r xs) : Ed te σ H (rL r) xs := h.imp fun v H1 _ ⟨p, vs, e, _, h1, h2⟩ => ⟨p, vs, e, h1, h2⟩
/-! ### built-ins -/
theorem ed_lenT {xs : List α} (ha : Ed te σ H (rT r) xs) : Ed (tCB (rLenS K) (tCons te tNil)) σ H rI (xs.length : Int) := fun H1 e Q q =>
  ha H1 e _ fun v H2 e2 ⟨a, vs, ev, hv, pr⟩ => ⟨a, vs, by rw [ev], Or.inr (SqT.of hv), q _ H2 e2 (by show V.int _ = V.int _; rw [Paired.length pr])⟩
theorem ed_lenL {xs : List α} (ha : Ed te σ H (rL r) xs) : Ed (tCB (rLenS K) (tCons te tNil)) σ H rI (xs.length : Int) := fun H1 e Q q =>
  ha H1 e _ fun v H2 e2 ⟨a, vs, ev, hv, pr⟩ => ⟨a, vs, by rw [ev], Or.inl (SqL.of hv), q _ H2 e2 (by show V.int _ = V.int _; rw [Paired.length pr])⟩
theorem ed_sum {xs : List Int} (ha : Ed te σ H (rL rI) xs) : Ed (tCB (rSum K) (tCons te tNil)) σ H rI xs.sum := fun H1 e Q q =>
  ha H1 e _ fun v H2 e2 ⟨a, vs, ev, hv, pr⟩ => ⟨a, xs, by rw [ev], by rw [← rs_int pr]; exact SqL.of hv, q _ H2 e2 rfl⟩
theorem ed_all {xs : List Bool} (ha : Ed te σ H (rL rB) xs) : Ed (tCB (rAll K) (tCons te tNil)) σ H rB (xs.all id) := fun H1 e Q q =>
  ha H1 e _ fun v H2 e2 ⟨a, vs, ev, hv, pr⟩ => ⟨a, xs, by rw [ev], by rw [← rs_bool pr]; exact SqL.of hv, q _ H2 e2 rfl⟩
theorem ed_any {xs : List Bool} (ha : Ed te σ H (rL rB) xs) : Ed (tCB (rAny K) (tCons te tNil)) σ H rB (xs.any id) := fun H1 e Q q =>
  ha H1 e _ fun v H2 e2 ⟨a, vs, ev, hv, pr⟩ => ⟨a, xs, by rw [ev], by rw [← rs_bool pr]; exact SqL.of hv, q _ H2 e2 rfl⟩
/-- the greatest -/
def lmax : List Int → Int
  | [] => 0
  | [x] => x
  | x :: y :: r => max x (lmax (y :: r))
theorem lmax_mem : ∀ {xs : List Int}, xs ≠ [] → lmax xs ∈ xs
  | [], h => (h rfl).elim
  | [x], _ => by simp [lmax]
  | x :: y :: r, _ => by
    have ih := lmax_mem (xs := y :: r) (by simp)
    unfold lmax
    by_cases h : x ≤ lmax (y :: r)
    · rw [Int.max_eq_right h]; exact List.mem_cons_of_mem _ ih
    · rw [Int.max_eq_left (by omega)]; exact List.mem_cons_self
theorem lmax_le : ∀ {xs : List Int}, ∀ y ∈ xs, y ≤ lmax xs
  | [], y, h => by cases h
  | [x], y, h => by simp at h; subst h; exact Int.le_refl _
  | x :: z :: r, y, h => by
    have ih := lmax_le (xs := z :: r)
    unfold lmax
    rcases List.mem_cons.mp h with e | e
    · subst e; exact Int.le_max_left _ _
    · exact Int.le_trans (ih y e) (Int.le_max_right _ _)
theorem lmax_eq {xs : List Int} {m : Int} (hm : m ∈ xs) (h : ∀ y ∈ xs, y ≤ m) : m = lmax xs :=
  Int.le_antisymm (lmax_le m hm) (h _ (lmax_mem (by intro e; rw [e] at hm; cases hm)))
theorem ed_max {xs : List Int} (ha : Ed te σ H (rL rI) xs) (h0 : 0 < xs.length) : Ed (tCB (L2.rMax K) (tCons te tNil)) σ H rI (lmax xs) := fun H1 e Q q =>
  ha H1 e _ fun v H2 e2 ⟨a, vs, ev, hv, pr⟩ => ⟨a, xs, by rw [ev], by rw [← rs_int pr]; exact SqL.of hv, h0, fun m hm hle => q _ H2 e2 (by rw [lmax_eq hm hle]; rfl)⟩
def rTupOf (K : PySem.W.Frag) : List V → Hp → VK → Prop := fun xs H Q => ∃ p ys, xs = [.ref p] ∧ ((SqL K H p ys ∧ ∀ l, H l = none → Q (.ref l) (upd H l (.tup ys))) ∨ (SqT K H p ys ∧ Q (.ref p) H))
theorem ed_tupL [MX r] {xs : List α} (ha : Ed te σ H (rL r) xs) : Ed (tCB (rTupOf K) (tCons te tNil)) σ H (rT r) xs := fun H1 e Q q =>
  ha H1 e _ fun v H2 e2 ⟨a, vs, ev, hv, pr⟩ => ⟨a, vs, by rw [ev], Or.inl ⟨SqL.of hv, fun l hl => q _ _ (e2.trans (Ex.new hl)) ⟨l, vs, rfl, upd_same, mons (Ex.new hl) pr⟩⟩⟩
theorem el_listT [MX r] {xs : List α} (ha : Ed te σ H (rT r) xs) : El (tCB (rListS K) (tCons te tNil)) σ H r xs := fun H1 e Q q =>
  ha H1 e _ fun v H2 e2 ⟨a, vs, ev, hv, pr⟩ => ⟨a, vs, by rw [ev], Or.inr (SqT.of hv), fun l hl => q _ _ (e2.trans (Ex.new hl)) ⟨l, vs, rfl, fresh_back (e.trans e2) hl, upd_same, mons (Ex.new hl) pr⟩⟩
theorem el_listL [MX r] {xs : List α} (ha : Ed te σ H (rL r) xs) : El (tCB (rListS K) (tCons te tNil)) σ H r xs := fun H1 e Q q =>
  ha H1 e _ fun v H2 e2 ⟨a, vs, ev, hv, pr⟩ => ⟨a, vs, by rw [ev], Or.inl (SqL.of hv), fun l hl => q _ _ (e2.trans (Ex.new hl)) ⟨l, vs, rfl, fresh_back (e.trans e2) hl, upd_same, mons (Ex.new hl) pr⟩⟩
end
end M
/-! ## Fw2 -/
/-! Comprehensions, statements, calls, promises. -/
namespace M
open PySem L2 Evl
section
variable {K : PySem.W.Frag} {σ : L2.St} {H H' : Hp} {ta tb te tx tl : TE} {t u : TT} {P P1 P2 : V → Hp → Prop} {α β γ : Type} {r : Rp α} {s : Rp β} {q : Rp γ}
/-! ### tests -/
theorem et_test' {b : Bool} (h : Ed te σ H rB b) : EvT (tTest te) σ H b := fun H1 e _ q => h H1 e _ fun v H2 e2 p => ⟨b, p, q H2 e2⟩
theorem et_B' {b : Bool} (h : Ed te σ H rB b) : EvT (tB te) σ H b := fun H1 e _ q => h H1 e _ fun v H2 e2 p => ⟨b, p, q H2 e2⟩
theorem EvT.run {b : Bool} (h : EvT t σ H b) {Q : Bool → Hp → Prop} (k : ∀ H1, Ex H H1 → Q b H1) : t σ H Q := h H (Ex.refl H) Q k
theorem et_yes : EvT tYes σ H true := fun H1 _ _ q => q H1 (Ex.refl H1)
theorem EvT.to {b c : Bool} (h : EvT t σ H b) (e : b = c) : EvT t σ H c := e ▸ h
theorem ed_andV {a b : Bool} (h1 : Ed ta σ H rB a) (h2 : a = true → Ed tb σ H rB b) : Ed (tAndV ta tb) σ H rB (a && b) := fun H1 e Q q => h1 H1 e _ fun v H2 e2 p => ⟨a, p, by
  cases a with
  | true => exact h2 rfl H2 (e.trans e2) Q fun w H3 e3 p => q w H3 (e2.trans e3) p
  | false => exact q _ H2 e2 rfl⟩
theorem ed_orV {a b : Bool} (h1 : Ed ta σ H rB a) (h2 : a = false → Ed tb σ H rB b) : Ed (tOrV ta tb) σ H rB (a || b) := fun H1 e Q q => h1 H1 e _ fun v H2 e2 p => ⟨a, p, by
  cases a with
  | true => exact q _ H2 e2 rfl
  | false => exact h2 rfl H2 (e.trans e2) Q fun w H3 e3 p => q w H3 (e2.trans e3) p⟩
theorem ed_notV {a : Bool} (h1 : Ed ta σ H rB a) : Ed (tNotV ta) σ H rB (!a) := fun H1 e _ q => h1 H1 e _ fun v H2 e2 p => ⟨a, p, q _ H2 e2 rfl⟩
/-! ### comprehensions -/
theorem filt_succ {β : Type} {xs : List β} {f : β → Bool} {i : Nat} {x : β} (h : xs[i]? = some x) : (xs.take (i + 1)).filter f = (xs.take i).filter f ++ (if f x then [x] else []) := by
  rw [List.take_add_one, h, List.filter_append]
  cases hp : f x <;> simp [hp]
theorem tp_lst {H : Hp} {D : Addr} {vs ws : List V} (h : H D = some (.lst vs)) : Tp H (upd H D (.lst ws)) := fun a xs e => by
  rw [upd_ne (ne_of e h (by intro z; cases z))]
  exact e
/-- the word of a comprehension's turns -/
def Cv (r : Rp α) (H : Hp) (D : Addr) (xs : List β) (f : β → Bool) (g : β → α) (i : Nat) (H' : Hp) : Prop := H D = none ∧ Ex H H' ∧ ∃ vs, H' D = some (.lst vs) ∧ Paired (r H') vs (((xs.take i).filter f).map g)
theorem cv_start {D : Addr} {xs : List β} {f : β → Bool} {g : β → α} (h : H D = none) : Cv r H D xs f g 0 (upd H D (.lst [])) := ⟨h, Ex.new h, [], upd_same, .nil⟩
theorem cv_turn [Mon r] {D : Addr} {xs : List β} {f : β → Bool} {g : β → α} {i : Nat} {x : β} {σ2 : L2.St} (p : Cv r H D xs f g i H') (hx : xs[i]? = some x) (hi : i < 50000)
    (ht : EvT t σ2 H (f x)) (he : f x = true → Ed te σ2 H r (g x)) :
    t σ2 H' fun b H3 => if b = true then te σ2 H3 fun y H4 => ∃ acc, H4 D = some (.lst acc) ∧ acc.length < sizeLine ∧ Cv r H D xs f g (i + 1) (upd H4 D (.lst (acc ++ [y]))) else Cv r H D xs f g (i + 1) H3 := by
  obtain ⟨p1, p2, vs, p3, p4⟩ := p
  refine ht H' p2 _ fun H3 e3 => ?_
  have hf := filt_succ (f := f) hx
  cases hfx : f x with
  | true =>
    rw [hfx] at hf
    refine he hfx H3 (p2.trans e3) _ fun y H4 e4 py => ⟨vs, e4 _ _ (e3 _ _ p3), ?_, p1, Ex.mut ((p2.trans e3).trans e4) p1, _, upd_same, ?_⟩
    · have h1 := Paired.length p4
      rw [List.length_map] at h1
      have h2 := List.length_filter_le f (xs.take i)
      have h3 := List.length_take_le i xs
      exact sz_lt (by omega)
    · rw [hf, List.map_append]
      exact monT (tp_lst (e4 _ _ (e3 _ _ p3))) (p_app (mons (e3.trans e4) p4) (.cons py .nil))
  | false =>
    rw [hfx] at hf
    refine ⟨p1, p2.trans e3, vs, e3 _ _ p3, ?_⟩
    rw [hf]
    simpa using mons e3 p4
theorem cv_end [Mon r] {H0 H1 : Hp} {D : Addr} {xs : List β} {f : β → Bool} {g : β → α} {n : Nat} (hn : n = xs.length) (e : Ex H0 H1) (p : Cv r H1 D xs f g n H') : Ex H1 H' ∧ FL r H0 ((xs.filter f).map g) (.ref D) H' := by
  subst hn
  obtain ⟨p1, p2, vs, p3, p4⟩ := p
  rw [List.take_length] at p4
  exact ⟨p2, D, vs, rfl, fresh_back e p1, p3, p4⟩
abbrev wp' (σ : L2.St) (j : Nat) (v : V) (vs : List Nat) : L2.St := (wipe σ vs).set j (some v)
/-- over a tuple, a list -/
theorem el_lcT [Mon r] [MX s] {xs : List β} {j : Nat} {vs : List Nat} (f : β → Bool) (g : β → α) (ha : Ed tl σ H (rT s) xs) (hz : xs.length ≤ 40000) (hw : ∀ x, wipe (wp' σ j x vs) vs = wipe σ vs)
    (ht : ∀ (i : Nat) (x : β) (v : V) H1, Ex H H1 → xs[i]? = some x → s H1 v x → EvT t (wp' σ j v vs) H1 (f x)) (he : ∀ (i : Nat) (x : β) (v : V) H1, Ex H H1 → xs[i]? = some x → s H1 v x → f x = true → Ed te (wp' σ j v vs) H1 r (g x)) :
    El (tLc (iTup K tl) (gName j) t te vs) σ H r ((xs.filter f).map g) := fun H0 e Q q => ha H0 e _ fun v0 H1 e1 ⟨a, us, ev, hv, pr⟩ => ⟨a, ev, ⟨us, SqT.of hv⟩, fun D hD =>
  have hl := Paired.length pr
  lc_tup (xs := us) (Cv r H1 D xs f g) (cv_start hD) (fun i H' _ p => SqT.of (p.2.1 _ _ hv)) (fun i w H' hi p => by
    obtain ⟨x, hx, sx⟩ := p_get' pr hi
    have hlt := (List.getElem?_eq_some_iff.mp hi).1
    exact ⟨hw w, cv_turn p hx (by omega) (ht i x w H1 (e.trans e1) hx sx) (fun hf => he i x w H1 (e.trans e1) hx sx hf)⟩)
    (fun H' p => by
      obtain ⟨p1, p2⟩ := cv_end hl (e.trans e1) p
      exact q _ H' (e1.trans p1) p2)⟩
theorem el_lcL [Mon r] [MX s] {xs : List β} {j : Nat} {vs : List Nat} (f : β → Bool) (g : β → α) (ha : Ed tl σ H (rL s) xs) (hz : xs.length ≤ 40000) (hw : ∀ x, wipe (wp' σ j x vs) vs = wipe σ vs)
    (ht : ∀ (i : Nat) (x : β) (v : V) H1, Ex H H1 → xs[i]? = some x → s H1 v x → EvT t (wp' σ j v vs) H1 (f x)) (he : ∀ (i : Nat) (x : β) (v : V) H1, Ex H H1 → xs[i]? = some x → s H1 v x → f x = true → Ed te (wp' σ j v vs) H1 r (g x)) :
    El (tLc (iList K tl) (gName j) t te vs) σ H r ((xs.filter f).map g) := fun H0 e Q q => ha H0 e _ fun v0 H1 e1 ⟨a, us, ev, hv, pr⟩ => ⟨a, ev, ⟨us, SqL.of hv⟩, fun D hD =>
  have hl := Paired.length pr
  lc_list (xs := us) (Cv r H1 D xs f g) (cv_start hD) (fun i H' _ p => SqL.of (p.2.1 _ _ hv)) (fun i w H' hi p => by
    obtain ⟨x, hx, sx⟩ := p_get' pr hi
    have hlt := (List.getElem?_eq_some_iff.mp hi).1
    exact ⟨hw w, cv_turn p hx (by omega) (ht i x w H1 (e.trans e1) hx sx) (fun hf => he i x w H1 (e.trans e1) hx sx hf)⟩)
    (fun H' p => by
      obtain ⟨p1, p2⟩ := cv_end hl (e.trans e1) p
      exact q _ H' (e1.trans p1) p2)⟩
/-- over range(n) -/
theorem el_lcR [Mon r] {n : Nat} {j : Nat} {vs : List Nat} (f : Nat → Bool) (g : Nat → α) (ha : Ed tl σ H rI (n : Int)) (hz : n ≤ 40000) (hw : ∀ x, wipe (wp' σ j x vs) vs = wipe σ vs)
    (ht : ∀ (i : Nat) H1, Ex H H1 → i < n → EvT t (wp' σ j (.int i) vs) H1 (f i)) (he : ∀ (i : Nat) H1, Ex H H1 → i < n → f i = true → Ed te (wp' σ j (.int i) vs) H1 r (g i)) :
    El (tLc (iRng1 (tCons tl tNil)) (gName j) t te vs) σ H r (((List.range n).filter f).map g) := fun H0 e Q q => ha H0 e _ fun v0 H1 e1 ev => ⟨(n : Int), by rw [ev], by omega, by omega, fun D hD =>
  lc_range (lo := 0) (n := (n : Int).toNat) (Cv r H1 D (List.range n) f g) (cv_start hD) (fun i H' hi p => by
    have hi' : i < n := by omega
    have hx : (List.range n)[i]? = some i := by rw [List.getElem?_range hi']
    have e0 : (0 : Int) + (i : Int) = (i : Int) := Int.zero_add _
    show wipe (wp' σ j (.int ((0 : Int) + (i : Int))) vs) vs = wipe σ vs ∧ t (wp' σ j (.int ((0 : Int) + (i : Int))) vs) H' _
    rw [e0]
    exact ⟨hw _, cv_turn p hx (by omega) (ht i H1 (e.trans e1) hi') (fun hf => he i H1 (e.trans e1) hi' hf)⟩)
    (fun H' p => by
      obtain ⟨p1, p2⟩ := cv_end (by rw [List.length_range, Int.toNat_natCast]) (e.trans e1) p
      exact q _ H' (e1.trans p1) p2)⟩
/-- over range(lo, hi) -/
theorem el_lcR2 [Mon r] {lo hi : Int} {n : Nat} {j : Nat} {vs : List Nat} (f : Int → Bool) (g : Int → α) (ha : Ed tl σ H rI lo) (hb : Ed tb σ H rI hi) (hn : (hi - lo).toNat = n) (hlo : -100000 ≤ lo ∧ lo ≤ 100000 ∧ -100000 ≤ hi ∧ hi ≤ 100000) (hz : n ≤ 40000) (hw : ∀ x, wipe (wp' σ j x vs) vs = wipe σ vs)
    (ht : ∀ (i : Nat) H1, Ex H H1 → i < n → EvT t (wp' σ j (.int (lo + i)) vs) H1 (f (lo + i))) (he : ∀ (i : Nat) H1, Ex H H1 → i < n → f (lo + i) = true → Ed te (wp' σ j (.int (lo + i)) vs) H1 r (g (lo + i))) :
    El (tLc (iRng2 (tCons tl (tCons tb tNil))) (gName j) t te vs) σ H r (((((List.range n).map fun (i : Nat) => lo + (i : Int))).filter f).map g) := fun H0 e Q q => ha H0 e _ fun v0 H1 e1 ev => hb H1 (e.trans e1) _ fun w0 H2 e2 ew =>
  ⟨lo, hi, by rw [ev, ew], ⟨by omega, by omega, by omega, by omega⟩, fun D hD =>
  lc_range (lo := lo) (n := (hi - lo).toNat) (Cv r H2 D ((List.range n).map fun (i : Nat) => lo + (i : Int)) f g) (cv_start hD) (fun i H' hi p => by
    have hi' : i < n := by omega
    have hx : ((List.range n).map fun (i : Nat) => lo + (i : Int))[i]? = some (lo + (i : Int)) := by rw [List.getElem?_map, List.getElem?_range hi']; rfl
    exact ⟨hw _, cv_turn p hx (by omega) (ht i H2 ((e.trans e1).trans e2) hi') (fun hf => he i H2 ((e.trans e1).trans e2) hi' hf)⟩)
    (fun H' p => by
      obtain ⟨p1, p2⟩ := cv_end (by rw [List.length_map, List.length_range, hn]) ((e.trans e1).trans e2) p
      exact q _ H' ((e1.trans e2).trans p1) p2)⟩
end
end M
/-! ## Fw3 -/
/-! Rules that the layer lacks; calls of a def by its promise; statements. -/
namespace M
open PySem L2 Evl PyProof.Rows
/-! ### xs[i] op= e -/
theorem get_listP {X : Cx} : PGet X (rIxL X.K) := by
  intro pins s σ H x y v u Q I rx ry h
  obtain ⟨p, xs, i, z, rfl, rfl, hq, he, q⟩ := h
  cases rx
  obtain ⟨t, rfl⟩ := ry
  obtain ⟨its, r, pl, hz⟩ := I.list hq
  obtain ⟨j, h1, h2, h3, h4, h5⟩ := atI_get he
  obtain ⟨w, ew, rw'⟩ := r.get h2
  have hl := r.length
  have hn := line63
  have fin : EP X pins σ Q w s := ⟨z, H, I, rw', q⟩
  by_cases h0 : 0 ≤ i
  · have hj : i.toNat = j := by
      rw [seqIndex_of h0 h5] at h1
      exact Option.some.inj h1
    exact wpAny_getItem_list pl.isList h0 (by omega) (by rw [hj]; simpa using ew) fin
  · have hj : (i + (its.toArray.size : Int)).toNat = j := by
      rw [seqIndex_neg (by omega) h4] at h1
      rw [List.size_toArray, ← hl]
      exact Option.some.inj h1
    exact wpAny_getItem_list_neg pl.isList (by omega) (by rw [List.size_toArray] <;> omega) (by omega) (by rw [hj]; simpa using ew) fin
/-! ### {k: v}, k a tuple -/
def tDispT (tk tv : TE) : TE := fun σ H Q => ∀ p, H p = none → tk σ (upd H p (.dT [])) fun x H1 => tv σ H1 fun y H2 => ∃ (k : List Key) (b : Addr) (y' : V), [(x, y)] = [(V.ref b, y')] ∧ H2 p = some (.dT []) ∧ H2 b = some (.tup (k.map kV)) ∧ Q (.ref p) (upd H2 p (.dT [(k, y')]))
theorem pe_dispT {X : Cx} {pos : Pos} {k v : Expr} {tk tv : TE} (hu : X.A.units + 1 < cLine) (hk : PE X k tk) (hv : PE X v tv) : PE X (.Dict [some k] [v] pos) (tDispT tk tv) := by
  refine ⟨fun pins s σ H Q I q => ?_⟩
  have hn := I.hok.fresh (Nat.le_refl s.heap.objs.size)
  have I1 := I.laid (a := s.heap.objs.size) (o := .dT []) (h' := s.heap.push { cls := .type "dict", data := .dict #[] }) (t' := s.toks) (fun _ _ q => Heap.get?_push_of_some _ q) (Nat.le_refl _) (dt_empty s.heap I.big)
  refine wpAny_Dict_any rfl rfl (by intro z; cases z) (by show 1 ≤ 15; decide) (thn ((pps_cons hk hv pps_nil).run pins _ σ _ (fun ps H2 => ∃ (k : List Key) (b : Addr) (y' : V), ps = [(V.ref b, y')] ∧ H2 s.heap.objs.size = some (.dT []) ∧ H2 b = some (.tup (k.map kV)) ∧ Q (.ref s.heap.objs.size) (upd H2 s.heap.objs.size (.dT [(k, y')]))) I1 (q _ hn)) fun ws s2 ⟨ps, H2, I2, rel, k, b, y, ep, e, eb, q2⟩ => ?_)
  subst ep
  cases rel with
  | @cons _ pq _ rest r0 tl =>
    cases tl
    obtain ⟨u, r⟩ := pq
    obtain ⟨r1, r2⟩ := r0
    cases (show u = Value.ref b from r1)
    obtain ⟨z, hd, xs, rel, dd⟩ := dt_of I2.hok e
    cases rel
    unfold storeAll
    rw [List.forIn_cons]
    refine wpAny_bind (wpAny_bind (wpAny_dictSet_heap (knd := tupleKind (mixKind X.prog X.w)) (hsz := Nat.zero_le _) (show X.A.units < cLine by omega) (key_of I2.hok eb) dd fun h' dd' hs => wpAny_pure ?_))
    show wpAny _ _ (forIn [] PUnit.unit _) _ _ _
    rw [List.forIn_nil]
    refine wpAny_pure ?_
    obtain ⟨q', es, ep, hq, h2, h3, h4, _, h5⟩ := dd'
    refine ⟨.ref s.heap.objs.size, _, d_write I2 (by rw [e]; exact True.intro) hs ⟨q', hq⟩ (ob := .dT (putK [] k y)) ⟨by show 1 ≤ sizeLine; decide, hd, _, ((KT.put (H := H2) (kvs := []) (xs := []) (.nil) k eb r2)).keeps fun c ys ec => ?_, q', es, ep, hq, h2, h3, h4, h5⟩, rfl, q2⟩
    rw [upd_ne (ne_of ec e (fun z => nomatch z))]
    exact ec
end M
/-! ## Fw4 -/
/-! Calls of a def by its promise; promises of defs that change nothing; zips; statements. -/
namespace M
open PySem L2 Evl PyProof.Rows
/-! ### a def of the text, as it stands and as it is called -/
abbrev FnP (K : PySem.W.Frag) (x : Str) (st : Stmt) (f : Addr) (fd : FuncData) : Prop := FunD K x x (defArgs st) (defBody st) (defScope st) [] [] f fd
structure Cal (P : Program) (w : World) (K : PySem.W.Frag) (mg : Str → Option Value) (base : Heap) (k : Nat) (x : Str) (ps : List Str) (sp : Sp) : Prop where
  ex : ∃ f fd, FnOk P w K mg base CX0 k f fd ps sp ∧ mg x = some (.ref f) ∧ PySem.W.keepIn K (.ref f) = true ∧ Binds K fd ps []
structure DefAt (K : PySem.W.Frag) (mg : Str → Option Value) (x : Str) (st : Stmt) (ps : List Str) : Prop where
  ex : ∃ f fd, FnP K x st f fd ∧ mg x = some (.ref f) ∧ Binds K fd ps []
/-- the context of a def's body -/
abbrev CXd (P : Program) (w : World) (K : PySem.W.Frag) (mg : Str → Option Value) (base : Heap) (N : List Str) (x : Str) (st : Stmt) (f : Addr) (cdv : Value) (A : Around) (outer : List Env) (s : Shared) (H : Hp) (E : XK) : Cx := (cxOf CX0 P w K mg base N x (defScope st) f cdv A outer s H E).nox
theorem cal_mk {P : Program} {w : World} {K : PySem.W.Frag} {mg : Str → Option Value} {base : Heap} {x : Str} {st : Stmt} {N ps : List Str} {k : Nat} {sp : Sp} {t : TS} (D : DefAt K mg x st ps) (S : FnScope N ps (defScope st))
    (len : ∀ vs H Q E, sp vs H Q E → vs.length = ps.length)
    (der : ∀ f cdv A outer s H E, Room k (A.deeper (envOfC x (defScope st) s.heap.objs.size f cdv)) → PSs (CXd P w K mg base N x st f cdv A outer s H E) (defBody st) t)
    (pure : ∀ vs H Q E, sp vs H Q E → t { nx := fun _ H' => Q .non H', rt := Q } (start N vs) H) : Cal P w K mg base (k + 1) x ps sp := by
  obtain ⟨f, fd, F, hm, hb⟩ := D.ex
  exact ⟨f, fd, F.ok S len (fun cdv A outer s H vs Q E hr h => ⟨t, PSs.nox (der f cdv A outer s H E hr), pure vs H Q E h⟩), hm, F.kp, hb⟩
theorem pe_callC {X : Cx} {k : Nat} {ps : List Str} {sp : Sp} {x : Str} {p pos : Pos} {e : Expr} {es : List Expr} {t : TA} (c : Cal X.prog X.w X.K X.mg X.base k x ps sp) (hr : Room k X.A) (hg : Gl X x) (ha : PA X (e :: es) t)
    (hd : (x == ("__debug__" : Str)) = false := by decide) (hs : starEach (e :: es) X.env = (false, eval e X.env) :: starEach es X.env := by rfl) (hp : ((backTo pos (starEach es X.env)).any fun x => x.fst) = false := by rfl) :
    PE X (.Call (.Name x p) (e :: es) [] pos) (tCall sp [] E0 t) := by
  obtain ⟨f, fd, F, hm, hk, hb⟩ := c.ex
  exact pe_call F hr hg hm hk hb .nil pass0 ha hd hs hp
theorem pe_callC0 {X : Cx} {k : Nat} {ps : List Str} {sp : Sp} {x : Str} {p pos : Pos} (c : Cal X.prog X.w X.K X.mg X.base k x ps sp) (hr : Room k X.A) (hg : Gl X x)
    (hd : (x == ("__debug__" : Str)) = false := by decide) :
    PE X (.Call (.Name x p) [] [] pos) (tCall sp [] E0 tNil) := by
  obtain ⟨f, fd, F, hm, hk, hb⟩ := c.ex
  exact pe_call0 F hr hg hm hk hb .nil pass0 hd
theorem Cal.mono {P : Program} {w : World} {K : PySem.W.Frag} {mg : Str → Option Value} {base : Heap} {j k : Nat} {x : Str} {ps : List Str} {sp : Sp} (c : Cal P w K mg base j x ps sp) (h : j ≤ k) : Cal P w K mg base k x ps sp := by
  obtain ⟨f, fd, F, r⟩ := c.ex
  exact ⟨f, fd, F.mono h, r⟩
/-! ### promises of defs that change nothing -/
abbrev Post (α : Type) := α → Hp → V → Hp → Prop
section
variable {α β γ δ ε ζ : Type}
def sp1 (r : Rp α) (pre : α → Prop) (post : Post α) : Sp := fun vs H Q _ => ∃ v x, vs = [v] ∧ r H v x ∧ pre x ∧ ∀ w H', Ex H H' → post x H w H' → Q w H'
def sp2 (r : Rp α) (s : Rp β) (pre : α → β → Prop) (post : α → Post β) : Sp := fun vs H Q _ => ∃ v1 v2 x y, vs = [v1, v2] ∧ r H v1 x ∧ s H v2 y ∧ pre x y ∧ ∀ w H', Ex H H' → post x y H w H' → Q w H'
def sp3 (r : Rp α) (s : Rp β) (t : Rp γ) (pre : α → β → γ → Prop) (post : α → β → Post γ) : Sp := fun vs H Q _ => ∃ v1 v2 v3 x y z, vs = [v1, v2, v3] ∧ r H v1 x ∧ s H v2 y ∧ t H v3 z ∧ pre x y z ∧ ∀ w H', Ex H H' → post x y z H w H' → Q w H'
def sp4 (r : Rp α) (s : Rp β) (t : Rp γ) (u : Rp δ) (pre : α → β → γ → δ → Prop) (post : α → β → γ → Post δ) : Sp := fun vs H Q _ => ∃ v1 v2 v3 v4 x y z a, vs = [v1, v2, v3, v4] ∧ r H v1 x ∧ s H v2 y ∧ t H v3 z ∧ u H v4 a ∧ pre x y z a ∧ ∀ w H', Ex H H' → post x y z a H w H' → Q w H'
def sp5 (r : Rp α) (s : Rp β) (t : Rp γ) (u : Rp δ) (c : Rp ε) (pre : α → β → γ → δ → ε → Prop) (post : α → β → γ → δ → Post ε) : Sp := fun vs H Q _ => ∃ v1 v2 v3 v4 v5 x y z a b, vs = [v1, v2, v3, v4, v5] ∧ r H v1 x ∧ s H v2 y ∧ t H v3 z ∧ u H v4 a ∧ c H v5 b ∧ pre x y z a b ∧ ∀ w H', Ex H H' → post x y z a b H w H' → Q w H'
def pd (q : Rp β) (b : β) : Hp → V → Hp → Prop := fun _ w H' => q H' w b
def pl (q : Rp β) (b : List β) : Hp → V → Hp → Prop := fun H w H' => FL q H b w H'
theorem sp1_len {r : Rp α} {pre : α → Prop} {post : Post α} {vs : List V} {H : Hp} {Q : VK} {E : XK} (h : sp1 r pre post vs H Q E) : vs.length = 1 := by obtain ⟨_, _, rfl, _⟩ := h; rfl
theorem sp2_len {r : Rp α} {s : Rp β} {pre : α → β → Prop} {post : α → Post β} {vs : List V} {H : Hp} {Q : VK} {E : XK} (h : sp2 r s pre post vs H Q E) : vs.length = 2 := by obtain ⟨_, _, _, _, rfl, _⟩ := h; rfl
theorem sp3_len {r : Rp α} {s : Rp β} {t : Rp γ} {pre : α → β → γ → Prop} {post : α → β → Post γ} {vs : List V} {H : Hp} {Q : VK} {E : XK} (h : sp3 r s t pre post vs H Q E) : vs.length = 3 := by obtain ⟨_, _, _, _, _, _, rfl, _⟩ := h; rfl
theorem sp4_len {r : Rp α} {s : Rp β} {t : Rp γ} {u : Rp δ} {pre : α → β → γ → δ → Prop} {post : α → β → γ → Post δ} {vs : List V} {H : Hp} {Q : VK} {E : XK} (h : sp4 r s t u pre post vs H Q E) : vs.length = 4 := by obtain ⟨_, _, _, _, _, _, _, _, rfl, _⟩ := h; rfl
theorem sp5_len {r : Rp α} {s : Rp β} {t : Rp γ} {u : Rp δ} {c : Rp ε} {pre : α → β → γ → δ → ε → Prop} {post : α → β → γ → δ → Post ε} {vs : List V} {H : Hp} {Q : VK} {E : XK} (h : sp5 r s t u c pre post vs H Q E) : vs.length = 5 := by obtain ⟨_, _, _, _, _, _, _, _, _, _, rfl, _⟩ := h; rfl
variable {K : PySem.W.Frag} {σ : L2.St} {H H' : Hp} {ta tb tc td te tx tl : TE} {P : V → Hp → Prop} {r : Rp α} {s : Rp β} {t : Rp γ} {u : Rp δ} {c : Rp ε} {E : XK}
theorem ev_call1 [MX r] {pre : α → Prop} {post : Post α} {x : α} (ha : Ed ta σ H r x) (hp : pre x) (hq : ∀ H1 H2 w, Ex H H1 → Ex H1 H2 → post x H1 w H2 → P w H2) : EvP (tCall (sp1 r pre post) [] E (tCons ta tNil)) σ H P := fun H0 e Q q =>
  ha H0 e _ fun v H1 e1 p1 => ⟨v, x, rfl, p1, hp, fun w H2 e2 p => q w H2 (e1.trans e2) (hq H1 H2 w (e.trans e1) e2 p)⟩
theorem ev_call2 [MX r] [MX s] {pre : α → β → Prop} {post : α → Post β} {x : α} {y : β} (ha : Ed ta σ H r x) (hb : Ed tb σ H s y) (hp : pre x y) (hq : ∀ H1 H2 w, Ex H H1 → Ex H1 H2 → post x y H1 w H2 → P w H2) : EvP (tCall (sp2 r s pre post) [] E (tCons ta (tCons tb tNil))) σ H P := fun H0 e Q q =>
  ha H0 e _ fun v H1 e1 p1 => hb H1 (e.trans e1) _ fun v2 H2 e2 p2 => ⟨v, v2, x, y, rfl, mon e2 p1, p2, hp, fun w H3 e3 p => q w H3 ((e1.trans e2).trans e3) (hq H2 H3 w ((e.trans e1).trans e2) e3 p)⟩
theorem ev_call3 [MX r] [MX s] [MX t] {pre : α → β → γ → Prop} {post : α → β → Post γ} {x : α} {y : β} {z : γ} (ha : Ed ta σ H r x) (hb : Ed tb σ H s y) (hc : Ed tc σ H t z) (hp : pre x y z) (hq : ∀ H1 H2 w, Ex H H1 → Ex H1 H2 → post x y z H1 w H2 → P w H2) :
    EvP (tCall (sp3 r s t pre post) [] E (tCons ta (tCons tb (tCons tc tNil)))) σ H P := fun H0 e Q q =>
  ha H0 e _ fun v H1 e1 p1 => hb H1 (e.trans e1) _ fun v2 H2 e2 p2 => hc H2 ((e.trans e1).trans e2) _ fun v3 H3 e3 p3 => ⟨v, v2, v3, x, y, z, rfl, mon (e2.trans e3) p1, mon e3 p2, p3, hp, fun w H4 e4 p => q w H4 (((e1.trans e2).trans e3).trans e4) (hq H3 H4 w (((e.trans e1).trans e2).trans e3) e4 p)⟩
theorem ev_call4 [MX r] [MX s] [MX t] [MX u] {pre : α → β → γ → δ → Prop} {post : α → β → γ → Post δ} {x : α} {y : β} {z : γ} {a : δ} (ha : Ed ta σ H r x) (hb : Ed tb σ H s y) (hc : Ed tc σ H t z) (hd : Ed td σ H u a) (hp : pre x y z a) (hq : ∀ H1 H2 w, Ex H H1 → Ex H1 H2 → post x y z a H1 w H2 → P w H2) :
    EvP (tCall (sp4 r s t u pre post) [] E (tCons ta (tCons tb (tCons tc (tCons td tNil))))) σ H P := fun H0 e Q q =>
  ha H0 e _ fun v H1 e1 p1 => hb H1 (e.trans e1) _ fun v2 H2 e2 p2 => hc H2 ((e.trans e1).trans e2) _ fun v3 H3 e3 p3 => hd H3 (((e.trans e1).trans e2).trans e3) _ fun v4 H4 e4 p4 =>
    ⟨v, v2, v3, v4, x, y, z, a, rfl, mon ((e2.trans e3).trans e4) p1, mon (e3.trans e4) p2, mon e4 p3, p4, hp, fun w H5 e5 p => q w H5 ((((e1.trans e2).trans e3).trans e4).trans e5) (hq H4 H5 w ((((e.trans e1).trans e2).trans e3).trans e4) e5 p)⟩
theorem ev_call5 [MX r] [MX s] [MX t] [MX u] [MX c] {pre : α → β → γ → δ → ε → Prop} {post : α → β → γ → δ → Post ε} {x : α} {y : β} {z : γ} {a : δ} {b : ε} (ha : Ed ta σ H r x) (hb : Ed tb σ H s y) (hc : Ed tc σ H t z) (hd : Ed td σ H u a) (he : Ed te σ H c b) (hp : pre x y z a b) (hq : ∀ H1 H2 w, Ex H H1 → Ex H1 H2 → post x y z a b H1 w H2 → P w H2) :
    EvP (tCall (sp5 r s t u c pre post) [] E (tCons ta (tCons tb (tCons tc (tCons td (tCons te tNil)))))) σ H P := fun H0 e Q q =>
  ha H0 e _ fun v H1 e1 p1 => hb H1 (e.trans e1) _ fun v2 H2 e2 p2 => hc H2 ((e.trans e1).trans e2) _ fun v3 H3 e3 p3 => hd H3 (((e.trans e1).trans e2).trans e3) _ fun v4 H4 e4 p4 => he H4 ((((e.trans e1).trans e2).trans e3).trans e4) _ fun v5 H5 e5 p5 =>
    ⟨v, v2, v3, v4, v5, x, y, z, a, b, rfl, mon (((e2.trans e3).trans e4).trans e5) p1, mon ((e3.trans e4).trans e5) p2, mon (e4.trans e5) p3, mon e5 p4, p5, hp, fun w H6 e6 p => q w H6 (((((e1.trans e2).trans e3).trans e4).trans e5).trans e6) (hq H5 H6 w (((((e.trans e1).trans e2).trans e3).trans e4).trans e5) e6 p)⟩
/-- what hq is for data, for a fresh list -/
theorem hq_d {q : Rp β} {b : β} {H : Hp} : ∀ H1 H2 w, Ex H H1 → Ex H1 H2 → pd q b H1 w H2 → q H2 w b := fun _ _ _ _ _ h => h
theorem hq_l {q : Rp β} {b : List β} {H : Hp} : ∀ H1 H2 w, Ex H H1 → Ex H1 H2 → pl q b H1 w H2 → FL q H b w H2 := fun _ _ _ e _ ⟨p, vs, h1, h2, h3, h4⟩ => ⟨p, vs, h1, fresh_back e h2, h3, h4⟩
theorem filt_all {α : Type} (xs : List α) : xs.filter (fun _ => true) = xs := List.filter_eq_self.mpr fun _ _ => rfl
/-! ### comprehensions over zip(t, u), over triples -/
theorem el_lcZ [Mon t] [MX r] [MX s] {xs : List α} {ys : List β} {j k : Nat} {vs : List Nat} (g : α × β → γ) (ha : Ed ta σ H (rT r) xs) (hb : Ed tb σ H (rT s) ys) (hl : xs.length = ys.length) (hz : xs.length ≤ 40000)
    (hw : ∀ x y, wipe (((wipe σ vs).set j (some x)).set k (some y)) vs = wipe σ vs)
    (he : ∀ (i : Nat) (x : α) (y : β) (v w : V) H1, Ex H H1 → xs[i]? = some x → ys[i]? = some y → r H1 v x → s H1 w y → Ed te (((wipe σ vs).set j (some v)).set k (some w)) H1 t (g (x, y))) :
    El (tLc (RZ.iZipA K (tCons ta (tCons tb tNil))) (gTup K 2 (gCons (gName j) (gCons (gName k) gNil))) tYes te vs) σ H t ((xs.zip ys).map g) := fun H0 e Q q => ha H0 e _ fun v0 H1 e1 ⟨a, us, ev, hv, pr⟩ => hb H1 (e.trans e1) _ fun w0 H2 e2 ⟨b, ws, ew, hw0, pr2⟩ =>
  ⟨a, b, us, ws, by rw [ev, ew], Or.inr ⟨SqT.of (e2 _ _ hv), SqT.of hw0, fun D hD => by
  have l1 := Paired.length pr
  have l2 := Paired.length pr2
  refine ⟨fun i m H' => m = xs.length - i ∧ i ≤ xs.length ∧ Cv t H2 D (xs.zip ys) (fun _ => true) g i H', ⟨xs.length, by simp, Nat.zero_le _, cv_start hD⟩, ?_⟩
  rintro i m H' ⟨rfl, hi, p⟩
  have k1 : SqT K H' a us := SqT.of (p.2.1 _ _ (e2 _ _ hv))
  have k2 : SqT K H' b ws := SqT.of (p.2.1 _ _ hw0)
  by_cases hlt : i < xs.length
  · obtain ⟨v, hvi⟩ : ∃ v, us[i]? = some v := ⟨us[i]'(by omega), by simp⟩
    obtain ⟨w, hwi⟩ : ∃ w, ws[i]? = some w := ⟨ws[i]'(by omega), by simp⟩
    refine .inr ⟨⟨us, ws, v, w, k1, k2, hvi, hwi⟩, Cv t H2 D (xs.zip ys) (fun _ => true) g (i + 1), fun H' p' => ⟨xs.length - (i + 1), by omega, rfl, hlt, p'⟩, fun x H'' y => ?_⟩
    obtain ⟨T, x1, y1, rfl, hT, rfl, h1, h2⟩ := y
    have e1' := h1 us k1
    have e2' := h2 ws k2
    rw [hvi] at e1'; cases e1'
    rw [hwi] at e2'; cases e2'
    refine ⟨T, [v, w], rfl, SqT.of upd_same, rfl, v, [w], rfl, w, [], rfl, rfl, hw v w, ?_⟩
    obtain ⟨x, hx, rx⟩ := p_get' pr hvi
    obtain ⟨y, hy, ry⟩ := p_get' pr2 hwi
    have hxy : (xs.zip ys)[i]? = some (x, y) := by rw [List.getElem?_zip_eq_some]; exact ⟨hx, hy⟩
    have p' : Cv t H2 D (xs.zip ys) (fun _ => true) g i (upd H' T (.tup [v, w])) := by
      obtain ⟨p1, p2, zs, p3, p4⟩ := p
      exact ⟨p1, p2.trans (Ex.new hT), zs, Ex.new hT _ _ p3, mons (Ex.new hT) p4⟩
    exact cv_turn p' hxy (by omega) et_yes fun _ => he i x y v w H2 ((e.trans e1).trans e2) hx hy (mon e2 rx) ry
  · have ei : i = xs.length := by omega
    subst ei
    obtain ⟨p1, p2⟩ := cv_end (by rw [List.length_zip]; omega) ((e.trans e1).trans e2) p
    refine .inl ⟨⟨us, ws, k1, k2, .inl (by omega)⟩, q _ H' ((e1.trans e2).trans p1) ?_⟩
    rw [filt_all] at p2
    exact p2⟩⟩
end
end M
/-! ## Fw5 -/
/-! Names for the readings that the printed texts use; the built-ins of the module. -/
namespace M
open PySem L2 Evl PyProof.Rows
structure Bi (mg : Str → Option Value) : Prop where
  len : mg "len" = none
  sum : mg "sum" = none
  max : mg "max" = none
  min : mg "min" = none
  all : mg "all" = none
  any : mg "any" = none
  abs : mg "abs" = none
  range : mg "range" = none
  zip : mg "zip" = none
  sorted : mg "sorted" = none
  isinstance : mg "isinstance" = none
  int_ : mg "int" = none
  bool_ : mg "bool" = none
  tuple_ : mg "tuple" = none
  list_ : mg "list" = none
abbrev oCatS : R2 := fun x y H Q => ∃ i j, x = .str i ∧ y = .str j ∧ i.length + j.length ≤ sizeLine ∧ Q (.str (i ++ j)) H
abbrev rAbs : List V → Hp → VK → Prop := fun xs H Q => ∃ i, xs = [.int i] ∧ Q (.int (if i < 0 then -i else i)) H
abbrev rInt1 : List V → Hp → VK → Prop := fun xs H Q => (∃ i, xs = [.int i] ∧ Q (.int i) H) ∨ ∃ k, xs = [.bl k] ∧ Q (.int (if k then 1 else 0)) H
abbrev rMin2 : List V → Hp → VK → Prop := fun xs H Q => ∃ i j, xs = [.int i, .int j] ∧ Q (.int (if j < i then j else i)) H
abbrev rSplit : V → List V → Hp → VK → Prop := fun x xs H Q => ∃ a b, x = .str a ∧ xs = [.str b] ∧ (b.length == 0) = false ∧ a.length + 2 ≤ sizeLine ∧ rNewStrs (Txt.split a b) H Q
theorem hr65 {k : Nat} {A : Around} (hr : Room (k + 1) A) : A.units + 65 < cLine := by have := hr.un; omega
section
variable {K : PySem.W.Frag} {σ : L2.St} {H H' : Hp} {ta tb tc td te tx tl : TE}
theorem ed_abs {i : Int} (ha : Ed te σ H rI i) : Ed (tCB rAbs (tCons te tNil)) σ H rI (if i < 0 then -i else i) := fun H1 e Q q => ha H1 e _ fun v H2 e2 p => ⟨i, by rw [p], q _ H2 e2 rfl⟩
theorem ed_int1 {i : Int} (ha : Ed te σ H rI i) : Ed (tCB rInt1 (tCons te tNil)) σ H rI i := fun H1 e Q q => ha H1 e _ fun v H2 e2 p => .inl ⟨i, by rw [p], q _ H2 e2 rfl⟩
theorem ed_int1B {b : Bool} (ha : Ed te σ H rB b) : Ed (tCB rInt1 (tCons te tNil)) σ H rI (if b then 1 else 0) := fun H1 e Q q => ha H1 e _ fun v H2 e2 p => .inr ⟨b, by rw [p], q _ H2 e2 rfl⟩
theorem ed_max2 {i j : Int} (ha : Ed ta σ H rI i) (hb : Ed tb σ H rI j) : Ed (tCB Evl.rMax2 (tCons ta (tCons tb tNil))) σ H rI (if j > i then j else i) := fun H1 e Q q =>
  ha H1 e _ fun v H2 e2 p => hb H2 (e.trans e2) _ fun w H3 e3 p2 => ⟨i, j, by rw [p, p2], q _ H3 (e2.trans e3) rfl⟩
theorem ed_min2 {i j : Int} (ha : Ed ta σ H rI i) (hb : Ed tb σ H rI j) : Ed (tCB rMin2 (tCons ta (tCons tb tNil))) σ H rI (if j < i then j else i) := fun H1 e Q q =>
  ha H1 e _ fun v H2 e2 p => hb H2 (e.trans e2) _ fun w H3 e3 p2 => ⟨i, j, by rw [p, p2], q _ H3 (e2.trans e3) rfl⟩
theorem rgV_nat (n : Nat) : rgV 0 (n : Int) = ((List.range n).map fun (i : Nat) => V.int (i : Int)) := by
  unfold rgV
  have e : ((n : Int) - 0).toNat = n := by omega
  rw [e]
  exact List.map_congr_left fun i _ => by rw [Int.zero_add]
theorem rg_rs {H : Hp} (n : Nat) : Paired (rI H) (rgV 0 (n : Int)) ((List.range n).map fun (i : Nat) => (i : Int)) := by
  rw [rgV_nat]
  have h := int_rs (H := H) ((List.range n).map fun (i : Nat) => (i : Int))
  rw [List.map_map] at h
  exact h
theorem el_listR {n : Nat} (ha : Ed te σ H rI (n : Int)) (hn : n ≤ 100000) : El (tLstRg (tRg1 te)) σ H rI ((List.range n).map fun (i : Nat) => (i : Int)) := fun H1 e Q q =>
  ha H1 e _ fun v H2 e2 p => ⟨n, p, RgOk.of_le (by omega) (by omega) (by omega) (by omega), fun l hl => q _ _ (e2.trans (Ex.new hl)) ⟨l, _, rfl, fresh_back (e.trans e2) hl, upd_same, rg_rs n⟩⟩
/-- x is an int, not a bool -/
theorem ed_isI {n : Int} (ha : Ed te σ H rI n) : Ed (tCB (rIsi K) (tCons te (tCons (tC (.ty "int")) tNil))) σ H rB true := fun H1 e Q q =>
  ha H1 e _ fun v H2 e2 p => ⟨v, .ty "int", .type "int", .type "int", true, rfl, .ty _, by rw [p]; exact .base (.int _), kit_ty (by decide +kernel), q _ H2 e2 rfl⟩
theorem ed_isB {n : Int} (ha : Ed te σ H rI n) : Ed (tCB (rIsi K) (tCons te (tCons (tC (.ty "bool")) tNil))) σ H rB false := fun H1 e Q q =>
  ha H1 e _ fun v H2 e2 p => ⟨v, .ty "bool", .type "int", .type "bool", false, rfl, .ty _, by rw [p]; exact .base (.int _), kit_ty (by decide +kernel), q _ H2 e2 rfl⟩
theorem ed_isT {α : Type} {r : Rp α} {xs : List α} (ha : Ed te σ H (rT r) xs) : Ed (tCB (rIsi K) (tCons te (tCons (tC (.ty "tuple")) tNil))) σ H rB true := fun H1 e Q q =>
  ha H1 e _ fun v H2 e2 ⟨a, vs, ev, hv, pr⟩ => ⟨v, .ty "tuple", .type "tuple", .type "tuple", true, rfl, .ty _, by rw [ev]; exact .base (.tup hv), kit_ty (by decide +kernel), q _ H2 e2 rfl⟩
end
end M
/-! ## Fw6 -/
/-! Comprehensions without a test; numbers from 0 on; vectors, rules. -/
namespace M
open PySem L2 Evl PyProof.Rows
def rN : Rp Nat := fun _ v n => v = .int (n : Int)
instance : Mon rN := ⟨fun _ h => h⟩
theorem nat_rs {H : Hp} : ∀ (ns : List Nat), Paired (rN H) (ns.map fun (n : Nat) => V.int (n : Int)) ns
  | [] => .nil
  | _ :: ns => .cons rfl (nat_rs ns)
section
variable {K : PySem.W.Frag} {σ : L2.St} {H H' : Hp} {ta tb te tx tl : TE} {α β γ : Type} {r : Rp α} {s : Rp β} {q : Rp γ}
theorem el_mapT [Mon r] [MX s] {xs : List β} {j : Nat} {vs : List Nat} (g : β → α) (ha : Ed tl σ H (rT s) xs) (hz : xs.length ≤ 40000) (hw : ∀ x, wipe (wp' σ j x vs) vs = wipe σ vs)
    (he : ∀ (i : Nat) (x : β) (v : V) H1, Ex H H1 → xs[i]? = some x → s H1 v x → Ed te (wp' σ j v vs) H1 r (g x)) : El (tLc (iTup K tl) (gName j) tYes te vs) σ H r (xs.map g) := by
  have h := el_lcT (K := K) (fun _ => true) g ha hz hw (fun _ _ _ _ _ _ _ => et_yes) (fun i x v H1 e hx sx _ => he i x v H1 e hx sx)
  rw [filt_all] at h
  exact h
theorem el_mapL [Mon r] [MX s] {xs : List β} {j : Nat} {vs : List Nat} (g : β → α) (ha : Ed tl σ H (rL s) xs) (hz : xs.length ≤ 40000) (hw : ∀ x, wipe (wp' σ j x vs) vs = wipe σ vs)
    (he : ∀ (i : Nat) (x : β) (v : V) H1, Ex H H1 → xs[i]? = some x → s H1 v x → Ed te (wp' σ j v vs) H1 r (g x)) : El (tLc (iList K tl) (gName j) tYes te vs) σ H r (xs.map g) := by
  have h := el_lcL (K := K) (fun _ => true) g ha hz hw (fun _ _ _ _ _ _ _ => et_yes) (fun i x v H1 e hx sx _ => he i x v H1 e hx sx)
  rw [filt_all] at h
  exact h
theorem el_mapR [Mon r] {n : Nat} {j : Nat} {vs : List Nat} (g : Nat → α) (ha : Ed tl σ H rI (n : Int)) (hz : n ≤ 40000) (hw : ∀ x, wipe (wp' σ j x vs) vs = wipe σ vs)
    (he : ∀ (i : Nat) H1, Ex H H1 → i < n → Ed te (wp' σ j (.int i) vs) H1 r (g i)) : El (tLc (iRng1 (tCons tl tNil)) (gName j) tYes te vs) σ H r ((List.range n).map g) := by
  have h := el_lcR (fun _ => true) g ha hz hw (fun _ _ _ _ => et_yes) (fun i H1 e hi _ => he i H1 e hi)
  rw [filt_all] at h
  exact h
theorem FL.eq {xs ys : List α} {v : V} (h : FL r H xs v H') (e : xs = ys) : FL r H ys v H' := e ▸ h
theorem El.to {xs ys : List α} (h : El te σ H r xs) (e : xs = ys) : El te σ H r ys := e ▸ h
/-- the end of a def: what is returned -/
theorem ret_d {x : α} {D : Ends} (h : Ed te σ H r x) {Q : VK} (k : ∀ w H', Ex H H' → r H' w x → Q w H') (hD : D.rt = Q) : tRet te D σ H := by
  show te σ H D.rt
  rw [hD]
  exact h.run k
end
theorem ed_nat {σ : L2.St} {H : Hp} {te : TE} {i : Int} {n : Nat} (h : Ed te σ H rI i) (e : i = (n : Int)) : Ed te σ H rN n := by
  subst e
  exact h
/-! ### data -/
abbrev Vec := List Int
abbrev Deed := Str × Vec × Vec
abbrev Rule := List Str × List Deed
abbrev Task := Rule × Vec × Vec
abbrev rVec : Rp Vec := rT rI
abbrev rDeed : Rp Deed := rP3 rS rVec rVec
abbrev rRule : Rp Rule := rP (rT rS) (rT rDeed)
abbrev rTask : Rp Task := rP3 rRule rVec rVec
/-- the k-th entry -/
def at0 (x : Vec) (k : Nat) : Int := x.getD k 0
theorem at0_get {x : Vec} {k : Nat} (h : k < x.length) : x[k]? = some (at0 x k) := by
  unfold at0
  rw [List.getD_eq_getElem?_getD, List.getElem?_eq_getElem h]
  rfl
def noDeed : Deed := (Str.empty, [], [])
def deedOf (R : Rule) (k : Nat) : Deed := R.2.getD k noDeed
def takesOf (R : Rule) (k : Nat) : Vec := (deedOf R k).2.1
def givesOf (R : Rule) (k : Nat) : Vec := (deedOf R k).2.2
theorem deed_get {R : Rule} {k : Nat} (h : k < R.2.length) : R.2[k]? = some (deedOf R k) := by
  unfold deedOf
  rw [List.getD_eq_getElem?_getD, List.getElem?_eq_getElem h]
  rfl
def underB (x y : Vec) : Bool := ((x.zip y).map fun p => decide (p.1 ≤ p.2)).all id
def canB (R : Rule) (s : Vec) (k : Nat) : Bool := underB (takesOf R k) s
def moveV (R : Rule) (s : Vec) (k : Nat) : Vec := (List.range s.length).map fun i => at0 s i - at0 (takesOf R k) i + at0 (givesOf R k) i
def plusV (x y : Vec) : Vec := (x.zip y).map fun p => p.1 + p.2
def minusV (x y : Vec) : Vec := (x.zip y).map fun p => p.1 - p.2
def timesV (n : Int) (x : Vec) : Vec := x.map fun e => n * e
def insideV (s ks : Vec) : Int := (ks.map fun k => at0 s k.toNat).sum
/-- the deeds of a rule over m kinds: lengths -/
def LenR (m : Nat) (R : Rule) : Prop := ∀ k, k < R.2.length → (takesOf R k).length = m ∧ (givesOf R k).length = m
end M
/-! ## Fw7 -/
/-! Statements in a row; loops. -/
namespace M
open PySem L2 Evl PyProof.Rows
section
variable {K : PySem.W.Frag} {σ : L2.St} {H H' : Hp} {ta tb te tx tl : TE} {t u : TT} {P : V → Hp → Prop} {α β γ : Type} {r : Rp α} {s : Rp β} {q : Rp γ} {D : Ends} {tu tw tz : TS} {g : TG}
theorem r_asg {i : Nat} (h : EvP te σ H P) (k : ∀ v H1, Ex H H1 → P v H1 → tz D (σ.set i (some v)) H1) : tSeq (tAsg te (gName i)) tz D σ H := h.run k
theorem r_asgN {i : Nat} (h : EvP te σ H P) (k : ∀ v H1, Ex H H1 → P v H1 → D.nx (σ.set i (some v)) H1) : tAsg te (gName i) D σ H := h.run k
theorem r_drop (h : EvP te σ H P) (k : ∀ v H1, Ex H H1 → P v H1 → tz D σ H1) : tSeq (tDrop te) tz D σ H := h.run k
theorem r_aug {i : Nat} {f : Int → Int → Int} {a b : Int} (hx : σ[i]? = some (some (.int a))) (h : Ed te σ H rI b) (k : ∀ H1, Ex H H1 → tz D (σ.set i (some (.int (f a b)))) H1) : tSeq (tAug i te (ipI f)) tz D σ H :=
  ⟨.int a, hx, h.run fun v H1 e p => ⟨a, b, rfl, p, k H1 e⟩⟩
theorem r_augN {i : Nat} {f : Int → Int → Int} {a b : Int} (hx : σ[i]? = some (some (.int a))) (h : Ed te σ H rI b) (k : ∀ H1, Ex H H1 → D.nx (σ.set i (some (.int (f a b)))) H1) : tAug i te (ipI f) D σ H :=
  ⟨.int a, hx, h.run fun v H1 e p => ⟨a, b, rfl, p, k H1 e⟩⟩
theorem r_if {b : Bool} (h : EvT t σ H b) (h1 : b = true → ∀ H1, Ex H H1 → tu { D with nx := tz D } σ H1) (h2 : b = false → ∀ H1, Ex H H1 → tw { D with nx := tz D } σ H1) : tSeq (tIfS t tu tw) tz D σ H := s_if (D := { D with nx := tz D }) h h1 h2
theorem r_ifN {b : Bool} (h : EvT t σ H b) (h1 : b = true → ∀ H1, Ex H H1 → tu D σ H1) (h2 : b = false → ∀ H1, Ex H H1 → tw D σ H1) : tIfS t tu tw D σ H := s_if h h1 h2
/-- for i in range(n) -/
theorem r_forN {n : Nat} {j : Nat} (h : Ed tl σ H rI (n : Int)) (hn : n ≤ 100000) (Pv : Nat → L2.St → Hp → Prop) (h0 : ∀ H1, Ex H H1 → Pv 0 σ H1)
    (hs : ∀ (i : Nat) σ' H', i < n → Pv i σ' H' → tu { D with nx := Pv (i + 1), ct := Pv (i + 1), bk := tz D } (σ'.set j (some (.int (i : Int)))) H') (hd : ∀ σ' H', Pv n σ' H' → tz D σ' H') : tSeq (tFor (iRng1 (tCons tl tNil)) (gName j) tu) tz D σ H :=
  h.run fun v H1 e p => ⟨(n : Int), by rw [p], by omega, by omega, for_range (lo := 0) (n := (n : Int).toNat) Pv (h0 H1 e) (fun i σ' H' hi p => by
    have e0 : (0 : Int) + (i : Int) = (i : Int) := Int.zero_add _
    show tu { D with nx := Pv (i + 1), ct := Pv (i + 1), bk := tz D } (σ'.set j (some (.int ((0 : Int) + (i : Int))))) H'
    rw [e0]
    exact hs i σ' H' (by omega) p) (fun σ' H' p => hd σ' H' (by have e1 : (n : Int).toNat = n := Int.toNat_natCast n; rwa [e1] at p))⟩
/-- for x in t (a tuple), in l (a list that stands still) -/
theorem r_forT [Mon r] {xs : List α} {j : Nat} (h : Ed tl σ H (rT r) xs) (k : ∀ H1, Ex H H1 → ∃ Pv : Nat → L2.St → Hp → Prop, Pv 0 σ H1 ∧ (∀ i σ' H', Pv i σ' H' → Tp H1 H') ∧
    (∀ (i : Nat) (x : α) (v : V) σ' H', xs[i]? = some x → r H' v x → Pv i σ' H' → tu { D with nx := Pv (i + 1), ct := Pv (i + 1), bk := tz D } (σ'.set j (some v)) H') ∧ (∀ σ' H', Pv xs.length σ' H' → tz D σ' H')) :
    tSeq (tFor (iTup K tl) (gName j) tu) tz D σ H :=
  h.run fun v H1 e ⟨a, us, ev, hv, pr⟩ => ⟨a, ev, ⟨us, SqT.of hv⟩, by
    obtain ⟨Pv, h0, hl, hs, hd⟩ := k H1 e
    have hlen := Paired.length pr
    refine for_tup (xs := us) Pv h0 (fun i σ' H' hi p => SqT.of (hl i σ' H' p _ _ hv)) (fun i w σ' H' hi p => ?_) (fun σ' H' p => hd σ' H' (by rwa [hlen] at p))
    obtain ⟨x, hx, sx⟩ := p_get' pr hi
    exact hs i x w σ' H' hx (Mon.mon (hl i σ' H' p) sx) p⟩
theorem r_forL [Mon r] {xs : List α} {j : Nat} (h : Ed tl σ H (rL r) xs) (k : ∀ H1 a us, Ex H H1 → H1 a = some (.lst us) → Paired (r H1) us xs → ∃ Pv : Nat → L2.St → Hp → Prop, Pv 0 σ H1 ∧ (∀ i σ' H', Pv i σ' H' → H' a = some (.lst us) ∧ Tp H1 H') ∧
    (∀ (i : Nat) (x : α) (v : V) σ' H', xs[i]? = some x → r H' v x → Pv i σ' H' → tu { D with nx := Pv (i + 1), ct := Pv (i + 1), bk := tz D } (σ'.set j (some v)) H') ∧ (∀ σ' H', Pv xs.length σ' H' → tz D σ' H')) :
    tSeq (tFor (iList K tl) (gName j) tu) tz D σ H :=
  h.run fun v H1 e ⟨a, us, ev, hv, pr⟩ => ⟨a, ev, ⟨us, SqL.of hv⟩, by
    obtain ⟨Pv, h0, hl, hs, hd⟩ := k H1 a us e hv pr
    have hlen := Paired.length pr
    refine for_list (xs := us) Pv h0 (fun i σ' H' hi p => SqL.of (hl i σ' H' p).1) (fun i w σ' H' hi p => ?_) (fun σ' H' p => hd σ' H' (by rwa [hlen] at p))
    obtain ⟨x, hx, sx⟩ := p_get' pr hi
    exact hs i x w σ' H' hx (Mon.mon (hl i σ' H' p).2 sx) p⟩
/-- for x in the list at a -/
theorem r_forLa {a : Addr} {us : List V} {j : Nat} (h : EvP tl σ H fun w _ => w = .ref a) (hx : H a = some (.lst us)) (Pv : Nat → L2.St → Hp → Prop) (h0 : ∀ H1, Ex H H1 → Pv 0 σ H1) (hl : ∀ i σ' H', Pv i σ' H' → H' a = some (.lst us))
    (hs : ∀ (i : Nat) (v : V) σ' H', us[i]? = some v → Pv i σ' H' → tu { D with nx := Pv (i + 1), ct := Pv (i + 1), bk := tz D } (σ'.set j (some v)) H') (hd : ∀ σ' H', Pv us.length σ' H' → tz D σ' H') : tSeq (tFor (iList K tl) (gName j) tu) tz D σ H :=
  h.run fun v H1 e ev => ⟨a, ev, ⟨us, SqL.of (e _ _ hx)⟩, for_list (xs := us) Pv (h0 H1 e) (fun i σ' H' _ p => SqL.of (hl i σ' H' p)) (fun i w σ' H' hi p => hs i w σ' H' hi p) hd⟩
/-- while -/
theorem r_while (W : Nat → L2.St → Hp → Prop) (m0 : Nat) (h0 : W m0 σ H)
    (hs : ∀ m σ' H', W m σ' H' → ∃ b, EvT t σ' H' b ∧ (b = true → ∀ H1, Ex H' H1 → ∃ N : L2.St → Hp → Prop, (∀ σ2 H2, N σ2 H2 → ∃ m', m' < m ∧ W m' σ2 H2) ∧ tu { D with nx := N, ct := N, bk := tz D } σ' H1) ∧ (b = false → ∀ H1, Ex H' H1 → tz D σ' H1)) : tSeq (tWhile t tu) tz D σ H :=
  s_while (D := { D with nx := tz D }) W m0 h0 hs
theorem r_ret (h : EvP te σ H P) (k : ∀ v H1, Ex H H1 → P v H1 → D.rt v H1) : tRet te D σ H := h.run k
end
end M
/-! ## P1 -/
/-! The small defs that change nothing. -/
namespace M
open PySem L2 Evl PyProof.Rows
def sp_times_all : Sp := sp2 rI rVec (fun n x => -(2^64) < n ∧ n < 2^64 ∧ x.length ≤ 1000) (fun n x => pd rVec (timesV n x))
def sp_at_most : Sp := sp2 rVec rVec (fun x y => x.length = y.length ∧ x.length ≤ 1000) (fun x y => pd rB (underB x y))
def sp_can_do : Sp := sp3 rRule rVec rN (fun R s k => k < R.2.length ∧ LenR s.length R ∧ s.length ≤ 1000) (fun R s k => pd rB (canB R s k))
def sp_moved_by : Sp := sp3 rRule rVec rN (fun R s k => k < R.2.length ∧ LenR s.length R ∧ s.length ≤ 1000) (fun R s k => pd rVec (moveV R s k))
def sp_count_in : Sp := sp2 rVec rVec (fun s ks => (∀ k ∈ ks, 0 ≤ k ∧ k < (s.length : Int)) ∧ ks.length ≤ 1000) (fun s ks => pd rI (insideV s ks))
/-! times_all: slots times 0, row 1, entry 2 -/
def N_times_all : List Str := ["times", "row", "entry"]
def t_times_all (K : PySem.W.Frag) : TS :=
  (tRet (tCB (rTupOf K) (tCons (tLc (iTup K (tVar 1)) (gName 2) tYes (tOp oMul (tVar 0) (tVar 2)) [2]) tNil)))
/-! at_most: slots one 0, other 1, left 2, right 3 -/
def N_at_most : List Str := ["one", "other", "left", "right"]
def t_at_most (K : PySem.W.Frag) : TS :=
  (tRet (tCB (rAll K) (tCons (tLc (RZ.iZipA K (tCons (tVar 0) (tCons (tVar 1) tNil))) (gTup K 2 (gCons (gName 2) (gCons (gName 3) gNil))) tYes (tOp oLe (tVar 2) (tVar 3)) [2, 3]) tNil)))
/-! can_do: slots rule 0, standing 1, deed 2 -/
def N_can_do : List Str := ["rule", "standing", "deed"]
def t_can_do (K : PySem.W.Frag) : TS :=
  (tRet (tCall sp_at_most [] E0 (tCons (tOp (rIxT K) (tOp (rIxT K) (tOp (rIxT K) (tVar 0) (tC (.int 1))) (tVar 2)) (tC (.int 1))) (tCons (tVar 1) tNil))))
/-! moved_by: slots rule 0, standing 1, deed 2, name 3, takes 4, gives 5, kind 6 -/
def N_moved_by : List Str := ["rule", "standing", "deed", "name", "takes", "gives", "kind"]
def t_moved_by (K : PySem.W.Frag) : TS :=
  (tSeq (tAsg (tOp (rIxT K) (tOp (rIxT K) (tVar 0) (tC (.int 1))) (tVar 2)) (gTup K 3 (gCons (gName 3) (gCons (gName 4) (gCons (gName 5) gNil)))))
  (tRet (tCB (rTupOf K) (tCons (tLc (iRng1 (tCons (tCB (rLenS K) (tCons (tVar 1) tNil)) tNil)) (gName 6) tYes (tOp oAdd (tOp oSub (tOp (rIxT K) (tVar 1) (tVar 6)) (tOp (rIxT K) (tVar 4) (tVar 6))) (tOp (rIxT K) (tVar 5) (tVar 6))) [6]) tNil))))
/-! count_in: slots standing 0, kinds 1, kind 2 -/
def N_count_in : List Str := ["standing", "kinds", "kind"]
def t_count_in (K : PySem.W.Frag) : TS :=
  (tRet (tCB (rSum K) (tCons (tLc (iTup K (tVar 1)) (gName 2) tYes (tOp (rIxT K) (tVar 0) (tVar 2)) [2]) tNil)))
section
variable {K : PySem.W.Frag} {vs : List V} {H : Hp} {Q : VK} {E : XK}
theorem pure_times_all (h : sp_times_all vs H Q E) : t_times_all K { nx := fun _ H' => Q .non H', rt := Q } (start N_times_all vs) H := by
  obtain ⟨v1, v2, n, x, rfl, r1, r2, ⟨p1, p2, p3⟩, k⟩ := h
  refine ret_d (r := rVec) (x := timesV n x) (ed_tupL (El.ed (el_mapT (fun e => n * e) (ed_var rfl r2) (by omega) (fun _ => rfl) ?_))) k rfl
  intro i e v H1 ex hi hv
  exact ed_mul (ed_var rfl (mon ex r1)) (ed_var rfl hv) (.inl ⟨p1, p2⟩)
theorem pure_at_most (h : sp_at_most vs H Q E) : t_at_most K { nx := fun _ H' => Q .non H', rt := Q } (start N_at_most vs) H := by
  obtain ⟨v1, v2, x, y, rfl, r1, r2, ⟨p1, p2⟩, k⟩ := h
  refine ret_d (r := rB) (x := underB x y) (ed_all (El.ed (el_lcZ (fun p => decide (p.1 ≤ p.2)) (ed_var rfl r1) (ed_var rfl r2) p1 (by omega) (fun _ _ => rfl) ?_))) k rfl
  intro i a b v w H1 ex hx hy ra rb
  exact ed_le (ed_var rfl ra) (ed_var rfl rb)
theorem pure_can_do (h : sp_can_do vs H Q E) : t_can_do K { nx := fun _ H' => Q .non H', rt := Q } (start N_can_do vs) H := by
  obtain ⟨v1, v2, v3, R, s, t, rfl, r1, r2, r3, ⟨p1, p2, p3⟩, k⟩ := h
  refine ret_d (r := rB) (x := canB R s t) (ev_call2 (x := takesOf R t) (y := s) ?_ (ed_var rfl r2) ⟨(p2 t p1).1, by rw [(p2 t p1).1]; exact p3⟩ hq_d) k rfl
  exact ed_t2 (ed_ixT (ed_p2 (ed_var rfl r1)) (ed_var (r := rI) rfl r3) (deed_get p1))
theorem pure_moved_by (h : sp_moved_by vs H Q E) : t_moved_by K { nx := fun _ H' => Q .non H', rt := Q } (start N_moved_by vs) H := by
  obtain ⟨v1, v2, v3, R, s, t, rfl, r1, r2, r3, ⟨p1, p2, p3⟩, k⟩ := h
  obtain ⟨q1, q2⟩ := p2 t p1
  refine (ed_ixT (r := rDeed) (y := deedOf R t) (ed_p2 (ed_var rfl r1)) (ed_var (r := rI) rfl r3) (deed_get p1)).run fun v H1 e1 rd => ?_
  obtain ⟨a, w1, w2, w3, rfl, hv, s1, s2, s3⟩ := rd
  refine ⟨a, _, rfl, SqT.of hv, rfl, w1, _, rfl, w2, _, rfl, w3, [], rfl, rfl, ?_⟩
  refine ret_d (r := rVec) (x := moveV R s t) (ed_tupL (El.ed (el_mapR (fun i => at0 s i - at0 (takesOf R t) i + at0 (givesOf R t) i) (ed_lenT (r := rI) (xs := s) (ed_var rfl (mon e1 r2))) (by omega) (fun _ => rfl) ?_))) (fun w H' e => k w H' (e1.trans e)) rfl
  intro i H2 e2 hi
  have g1 : (takesOf R t)[i]? = some (at0 (takesOf R t) i) := at0_get (by omega)
  have g2 : (givesOf R t)[i]? = some (at0 (givesOf R t) i) := at0_get (by omega)
  exact ed_add (ed_sub (ed_ixT (r := rI) (ed_var rfl (mon (e1.trans e2) r2)) (ed_var (r := rI) rfl rfl) (at0_get hi)) (ed_ixT (r := rI) (xs := takesOf R t) (ed_var rfl (mon e2 s2)) (ed_var (r := rI) rfl rfl) g1)) (ed_ixT (r := rI) (xs := givesOf R t) (ed_var rfl (mon e2 s3)) (ed_var (r := rI) rfl rfl) g2)
theorem pure_count_in (h : sp_count_in vs H Q E) : t_count_in K { nx := fun _ H' => Q .non H', rt := Q } (start N_count_in vs) H := by
  obtain ⟨v1, v2, s, ks, rfl, r1, r2, ⟨p1, p2⟩, k⟩ := h
  refine ret_d (r := rI) (x := insideV s ks) (ed_sum (El.ed (el_mapT (fun k => at0 s k.toNat) (ed_var rfl r2) (by omega) (fun _ => rfl) ?_))) k rfl
  intro i e v H1 ex hi hv
  obtain ⟨h0, h1⟩ := p1 e (List.mem_of_getElem? hi)
  have e0 : ((e.toNat : Nat) : Int) = e := by omega
  refine ed_ixT (r := rI) (k := e.toNat) (ed_var rfl (mon ex r1)) ?_ (at0_get (by omega))
  rw [e0]
  exact ed_var rfl hv
end
end M
/-! ## P2 -/
/-! The small defs of the law that change nothing. -/
namespace M
open PySem L2 Evl PyProof.Rows
section
variable {K : PySem.W.Frag} {σ : L2.St} {H H' : Hp} {ta tb te tx tl : TE} {α β γ δ : Type} {r : Rp α} {s : Rp β} {q : Rp γ} {u : Rp δ}
/-- over a tuple of triples, the target three names -/
theorem el_mapT3 [Mon u] [MX r] [MX s] [MX q] {xs : List (α × β × γ)} {i1 i2 i3 : Nat} {vs : List Nat} (g : α × β × γ → δ) (ha : Ed tl σ H (rT (rP3 r s q)) xs) (hz : xs.length ≤ 40000)
    (hw : ∀ x y z, wipe ((((wipe σ vs).set i1 (some x)).set i2 (some y)).set i3 (some z)) vs = wipe σ vs)
    (he : ∀ (i : Nat) (x : α × β × γ) (v1 v2 v3 : V) H1, Ex H H1 → xs[i]? = some x → r H1 v1 x.1 → s H1 v2 x.2.1 → q H1 v3 x.2.2 → Ed te ((((wipe σ vs).set i1 (some v1)).set i2 (some v2)).set i3 (some v3)) H1 u (g x)) :
    El (tLc (iTup K tl) (gTup K 3 (gCons (gName i1) (gCons (gName i2) (gCons (gName i3) gNil)))) tYes te vs) σ H u (xs.map g) := fun H0 e Q q => ha H0 e _ fun v0 H1 e1 ⟨a, us, ev, hv, pr⟩ => ⟨a, ev, ⟨us, SqT.of hv⟩, fun D hD =>
  have hl := Paired.length pr
  lc_tup (xs := us) (Cv u H1 D xs (fun _ => true) g) (cv_start hD) (fun i H' _ p => SqT.of (p.2.1 _ _ hv)) (fun i w H' hi p => by
    obtain ⟨x, hx, a3, v1, v2, v3, rfl, h3, sx1, sx2, sx3⟩ := p_get' pr hi
    have hlt := (List.getElem?_eq_some_iff.mp hi).1
    exact ⟨a3, [v1, v2, v3], rfl, SqT.of (p.2.1 _ _ h3), rfl, v1, _, rfl, v2, _, rfl, v3, [], rfl, rfl, hw v1 v2 v3, cv_turn p hx (by omega) et_yes fun _ => he i x v1 v2 v3 H1 (e.trans e1) hx sx1 sx2 sx3⟩)
    (fun H' p => by
      obtain ⟨p1, p2⟩ := cv_end hl (e.trans e1) p
      rw [filt_all] at p2
      exact q _ H' (e1.trans p1) p2)⟩
end
/-! ### mirrors -/
def revR (R : Rule) : Rule := (R.1, R.2.map fun d => (d.1, d.2.2, d.2.1))
def revT (t : Task) : Task := (revR t.1, t.2.2, t.2.1)
def changeV (R : Rule) (k : Nat) : Vec := minusV (givesOf R k) (takesOf R k)
def afterV (R : Rule) (s : Vec) (k : Nat) : Vec := plusV s (changeV R k)
def crowdStep (size : Int) (num : Int) (a : Nat) : Int := num * (size + (a : Int) + 1) / ((a : Int) + 1)
def crowdN (start : Vec) (n : Int) : Int := (List.range (start.length - 1)).foldl (crowdStep (n * start.sum)) 1
def runEnd (R : Rule) : Vec → List Int → Option Vec
  | s, [] => some s
  | s, t :: ts => if 0 ≤ t ∧ t < (R.2.length : Int) ∧ canB R s t.toNat = true then runEnd R (afterV R s t.toNat) ts else none
def ringWay (m : Nat) (ks : List Int) (k : Nat) : List Nat := (List.range m).filter fun st => ks.contains (((k : Int) + (st : Int)) % (m : Int))
def ringSteps (s : Vec) (ks : List Int) : Int := ((List.range s.length).map fun k => at0 s k * (((ringWay s.length ks k).getD 0 0 : Nat) : Int)).sum
/-! ### promises -/
def sp__law_is_int : Sp := sp1 rI (fun _ => True) (fun _ => pd rB true)
def sp__law_is_ints : Sp := sp1 rVec (fun x => x.length ≤ 40000) (fun _ => pd rB true)
def sp__law_plus : Sp := sp2 rVec rVec (fun x y => x.length = y.length ∧ x.length ≤ 1000) (fun x y => pd rVec (plusV x y))
def sp__law_minus : Sp := sp2 rVec rVec (fun x y => x.length = y.length ∧ x.length ≤ 1000) (fun x y => pd rVec (minusV x y))
def sp__law_times : Sp := sp2 rI rVec (fun n x => -(2^64) < n ∧ n < 2^64 ∧ x.length ≤ 1000) (fun n x => pd rVec (timesV n x))
def sp__law_under : Sp := sp2 rVec rVec (fun x y => x.length = y.length ∧ x.length ≤ 1000) (fun x y => pd rB (underB x y))
def sp__law_inside : Sp := sp2 rVec rVec (fun s ks => (∀ k ∈ ks, 0 ≤ k ∧ k < (s.length : Int)) ∧ ks.length ≤ 1000) (fun s ks => pd rI (insideV s ks))
def sp__law_reversed_rule : Sp := sp1 rRule (fun R => R.2.length ≤ 1000) (fun R => pd rRule (revR R))
def sp__law_reversed : Sp := sp1 rTask (fun t => t.1.2.length ≤ 1000) (fun t => pd rTask (revT t))
def sp__law_change : Sp := sp2 rRule rN (fun R k => k < R.2.length ∧ ∃ m, m ≤ 1000 ∧ LenR m R) (fun R k => pd rVec (changeV R k))
def sp__law_can : Sp := sp3 rRule rVec rN (fun R s k => k < R.2.length ∧ LenR s.length R ∧ s.length ≤ 1000) (fun R s k => pd rB (canB R s k))
def sp__law_after : Sp := sp3 rRule rVec rN (fun R s k => k < R.2.length ∧ LenR s.length R ∧ s.length ≤ 1000) (fun R s k => pd rVec (afterV R s k))
def sp__law_run_end : Sp := sp3 rRule rVec rVec (fun R s run => LenR s.length R ∧ s.length ≤ 1000 ∧ R.2.length ≤ 1000 ∧ run.length ≤ 40000) (fun R s run => pd (rO rVec) (runEnd R s run))
def sp__law_size_of_crowd : Sp := sp2 rTask rN (fun t n => 1 ≤ t.2.1.length ∧ t.2.1.length ≤ 1000 ∧ n ≤ 1000 ∧ 0 ≤ t.2.1.sum ∧ t.2.1.sum ≤ 1000) (fun t n => pd rI (crowdN t.2.1 n))
def sp__law_top : Sp := sp3 rTask rN rI (fun t most _ => 1 ≤ t.2.1.length ∧ t.2.1.length ≤ 1000 ∧ most ≤ 900 ∧ 0 ≤ t.2.1.sum ∧ t.2.1.sum ≤ 1000)
  (fun t most room _ v _ => ∃ k : Nat, v = .int (k : Int) ∧ k ≤ most ∧ (∀ j : Nat, j < k → crowdN t.2.1 ((j + 1 : Nat) : Int) ≤ room) ∧ (k = most ∨ room < crowdN t.2.1 ((k + 1 : Nat) : Int)))
def sp__law_ring_steps : Sp := sp2 rVec rVec (fun s ks => s.length ≤ 100 ∧ ks.length ≤ 100 ∧ (∀ k, k < s.length → ringWay s.length ks k ≠ []) ∧ ∀ e ∈ s, 0 ≤ e ∧ e ≤ 100000) (fun s ks => pd rI (ringSteps s ks))
/-! _law_is_int: slots thing 0 -/
def N__law_is_int : List Str := ["thing"]
def t__law_is_int (K : PySem.W.Frag) : TS :=
  (tRet (tAndV (tCB (rIsi K) (tCons (tVar 0) (tCons (tC (.ty "int")) tNil))) (tNotV (tCB (rIsi K) (tCons (tVar 0) (tCons (tC (.ty "bool")) tNil))))))
/-! _law_is_ints: slots row 0, part 1 -/
def N__law_is_ints : List Str := ["row", "part"]
def t__law_is_ints (K : PySem.W.Frag) : TS :=
  (tRet (tAndV (tCB (rIsi K) (tCons (tVar 0) (tCons (tC (.ty "tuple")) tNil))) (tCB (rAll K) (tCons (tLc (iTup K (tVar 0)) (gName 1) tYes (tCall sp__law_is_int [] E0 (tCons (tVar 1) tNil)) [1]) tNil))))
/-! _law_plus: slots one 0, other 1, left 2, right 3 -/
def N__law_plus : List Str := ["one", "other", "left", "right"]
def t__law_plus (K : PySem.W.Frag) : TS :=
  (tRet (tCB (rTupOf K) (tCons (tLc (RZ.iZipA K (tCons (tVar 0) (tCons (tVar 1) tNil))) (gTup K 2 (gCons (gName 2) (gCons (gName 3) gNil))) tYes (tOp oAdd (tVar 2) (tVar 3)) [2, 3]) tNil)))
/-! _law_minus: slots one 0, other 1, left 2, right 3 -/
def N__law_minus : List Str := ["one", "other", "left", "right"]
def t__law_minus (K : PySem.W.Frag) : TS :=
  (tRet (tCB (rTupOf K) (tCons (tLc (RZ.iZipA K (tCons (tVar 0) (tCons (tVar 1) tNil))) (gTup K 2 (gCons (gName 2) (gCons (gName 3) gNil))) tYes (tOp oSub (tVar 2) (tVar 3)) [2, 3]) tNil)))
/-! _law_times: slots n 0, row 1, part 2 -/
def N__law_times : List Str := ["n", "row", "part"]
def t__law_times (K : PySem.W.Frag) : TS :=
  (tRet (tCB (rTupOf K) (tCons (tLc (iTup K (tVar 1)) (gName 2) tYes (tOp oMul (tVar 0) (tVar 2)) [2]) tNil)))
/-! _law_under: slots one 0, other 1, left 2, right 3 -/
def N__law_under : List Str := ["one", "other", "left", "right"]
def t__law_under (K : PySem.W.Frag) : TS :=
  (tRet (tCB (rAll K) (tCons (tLc (RZ.iZipA K (tCons (tVar 0) (tCons (tVar 1) tNil))) (gTup K 2 (gCons (gName 2) (gCons (gName 3) gNil))) tYes (tOp oLe (tVar 2) (tVar 3)) [2, 3]) tNil)))
/-! _law_inside: slots standing 0, kinds 1, kind 2 -/
def N__law_inside : List Str := ["standing", "kinds", "kind"]
def t__law_inside (K : PySem.W.Frag) : TS :=
  (tRet (tCB (rSum K) (tCons (tLc (iTup K (tVar 1)) (gName 2) tYes (tOp (rIxT K) (tVar 0) (tVar 2)) [2]) tNil)))
/-! _law_reversed_rule: slots rule 0, name 1, takes 2, gives 3 -/
def N__law_reversed_rule : List Str := ["rule", "name", "takes", "gives"]
def t__law_reversed_rule (K : PySem.W.Frag) : TS :=
  (tRet (tTup (tCons (tOp (rIxT K) (tVar 0) (tC (.int 0))) (tCons (tCB (rTupOf K) (tCons (tLc (iTup K (tOp (rIxT K) (tVar 0) (tC (.int 1)))) (gTup K 3 (gCons (gName 1) (gCons (gName 2) (gCons (gName 3) gNil)))) tYes (tTup (tCons (tVar 1) (tCons (tVar 3) (tCons (tVar 2) tNil)))) [1, 2, 3]) tNil)) tNil))))
/-! _law_reversed: slots task 0 -/
def N__law_reversed : List Str := ["task"]
def t__law_reversed (K : PySem.W.Frag) : TS :=
  (tRet (tTup (tCons (tCall sp__law_reversed_rule [] E0 (tCons (tOp (rIxT K) (tVar 0) (tC (.int 0))) tNil)) (tCons (tOp (rIxT K) (tVar 0) (tC (.int 2))) (tCons (tOp (rIxT K) (tVar 0) (tC (.int 1))) tNil)))))
/-! _law_change: slots rule 0, t 1 -/
def N__law_change : List Str := ["rule", "t"]
def t__law_change (K : PySem.W.Frag) : TS :=
  (tRet (tCall sp__law_minus [] E0 (tCons (tOp (rIxT K) (tOp (rIxT K) (tOp (rIxT K) (tVar 0) (tC (.int 1))) (tVar 1)) (tC (.int 2))) (tCons (tOp (rIxT K) (tOp (rIxT K) (tOp (rIxT K) (tVar 0) (tC (.int 1))) (tVar 1)) (tC (.int 1))) tNil))))
/-! _law_can: slots rule 0, standing 1, t 2 -/
def N__law_can : List Str := ["rule", "standing", "t"]
def t__law_can (K : PySem.W.Frag) : TS :=
  (tRet (tCall sp__law_under [] E0 (tCons (tOp (rIxT K) (tOp (rIxT K) (tOp (rIxT K) (tVar 0) (tC (.int 1))) (tVar 2)) (tC (.int 1))) (tCons (tVar 1) tNil))))
/-! _law_after: slots rule 0, standing 1, t 2 -/
def N__law_after : List Str := ["rule", "standing", "t"]
def t__law_after (K : PySem.W.Frag) : TS :=
  (tRet (tCall sp__law_plus [] E0 (tCons (tVar 1) (tCons (tCall sp__law_change [] E0 (tCons (tVar 0) (tCons (tVar 2) tNil))) tNil))))
/-! _law_run_end: slots rule 0, standing 1, run 2, place 3, t 4 -/
def N__law_run_end : List Str := ["rule", "standing", "run", "place", "t"]
def t__law_run_end (K : PySem.W.Frag) : TS :=
  (tSeq (tAsg (tVar 1) (gName 3))
  (tSeq (tFor (iTup K (tVar 2)) (gName 4) (tSeq (tIfS (tOr (tNot (tB (tCall sp__law_is_int [] E0 (tCons (tVar 4) tNil)))) (tOr (tNot (tTest (tChain oLe oLt (tC (.int 0)) (tVar 4) (tCB (rLenS K) (tCons (tOp (rIxT K) (tVar 0) (tC (.int 1))) tNil))))) (tNot (tB (tCall sp__law_can [] E0 (tCons (tVar 0) (tCons (tVar 3) (tCons (tVar 4) tNil)))))))) (tRet (tC .non)) tNext)
  (tAsg (tCall sp__law_after [] E0 (tCons (tVar 0) (tCons (tVar 3) (tCons (tVar 4) tNil)))) (gName 3))))
  (tRet (tVar 3))))
/-! _law_size_of_crowd: slots task 0, n 1, number 2, size 3, at 4 -/
def N__law_size_of_crowd : List Str := ["task", "n", "number", "size", "at"]
def t__law_size_of_crowd (K : PySem.W.Frag) : TS :=
  (tSeq (tAsg (tC (.int 1)) (gName 2))
  (tSeq (tAsg (tOp oMul (tVar 1) (tCB (rSum K) (tCons (tCB (rListS K) (tCons (tOp (rIxT K) (tVar 0) (tC (.int 1))) tNil)) tNil))) (gName 3))
  (tSeq (tFor (iRng1 (tCons (tOp oSub (tCB (rLenS K) (tCons (tOp (rIxT K) (tVar 0) (tC (.int 1))) tNil)) (tC (.int 1))) tNil)) (gName 4) (tAsg (tOp oDiv (tOp oMul (tVar 2) (tOp oAdd (tOp oAdd (tVar 3) (tVar 4)) (tC (.int 1)))) (tOp oAdd (tVar 4) (tC (.int 1)))) (gName 2)))
  (tRet (tVar 2)))))
/-! _law_top: slots task 0, most 1, room 2, top 3 -/
def N__law_top : List Str := ["task", "most", "room", "top"]
def t__law_top (K : PySem.W.Frag) : TS :=
  (tSeq (tAsg (tC (.int 0)) (gName 3))
  (tSeq (tWhile (tAnd (tTest (tOp oLt (tVar 3) (tVar 1))) (tTest (tOp oLe (tCall sp__law_size_of_crowd [] E0 (tCons (tVar 0) (tCons (tOp oAdd (tVar 3) (tC (.int 1))) tNil))) (tVar 2)))) (tAug 3 (tC (.int 1)) (ipI fun i j => i + j)))
  (tRet (tVar 3))))
/-! _law_ring_steps: slots start 0, kinds 1, many 2, total 3, kind 4, ways 5, step 6 -/
def N__law_ring_steps : List Str := ["start", "kinds", "many", "total", "kind", "ways", "step"]
def t__law_ring_steps (K : PySem.W.Frag) : TS :=
  (tSeq (tAsg (tCB (rLenS K) (tCons (tVar 0) tNil)) (gName 2))
  (tSeq (tAsg (tC (.int 0)) (gName 3))
  (tSeq (tFor (iRng1 (tCons (tVar 2) tNil)) (gName 4) (tSeq (tAsg (tLc (iRng1 (tCons (tVar 2) tNil)) (gName 6) (tTest (tOp (rIn K false) (tOp oMod (tCB rInt1 (tCons (tOp oAdd (tVar 4) (tVar 6)) tNil)) (tVar 2)) (tVar 1))) (tVar 6) [6]) (gName 5))
  (tAug 3 (tOp oMul (tOp (rIxT K) (tVar 0) (tVar 4)) (tOp (rIxL K) (tVar 5) (tC (.int 0)))) (ipI fun i j => i + j))))
  (tRet (tVar 3)))))
section
variable {K : PySem.W.Frag} {vs : List V} {H : Hp} {Q : VK} {E : XK}
theorem pure__law_is_int (h : sp__law_is_int vs H Q E) : t__law_is_int K { nx := fun _ H' => Q .non H', rt := Q } (start N__law_is_int vs) H := by
  obtain ⟨v1, n, rfl, r1, _, k⟩ := h
  exact ret_d (r := rB) (x := true) ((ed_andV (a := true) (b := true) (ed_isI (ed_var rfl r1)) fun _ => (ed_notV (a := false) (ed_isB (ed_var rfl r1))))) k rfl
theorem pure__law_is_ints (h : sp__law_is_ints vs H Q E) : t__law_is_ints K { nx := fun _ H' => Q .non H', rt := Q } (start N__law_is_ints vs) H := by
  obtain ⟨v1, x, rfl, r1, p, k⟩ := h
  have h0 : (x.map fun _ => true).all id = true := by simp
  refine ret_d (r := rB) (x := true) (ed_andV (a := true) (b := true) (ed_isT (ed_var rfl r1)) fun _ => Ed.to (ed_all (El.ed (el_mapT (fun _ => true) (ed_var rfl r1) p (fun _ => rfl) ?_))) h0) k rfl
  intro i e v H1 ex hi hv
  exact ev_call1 (x := e) (ed_var rfl hv) trivial hq_d
theorem pure__law_plus (h : sp__law_plus vs H Q E) : t__law_plus K { nx := fun _ H' => Q .non H', rt := Q } (start N__law_plus vs) H := by
  obtain ⟨v1, v2, x, y, rfl, r1, r2, ⟨p1, p2⟩, k⟩ := h
  refine ret_d (r := rVec) (x := plusV x y) (ed_tupL (El.ed (el_lcZ (fun p => p.1 + p.2) (ed_var rfl r1) (ed_var rfl r2) p1 (by omega) (fun _ _ => rfl) ?_))) k rfl
  intro i a b v w H1 ex hx hy ra rb
  exact ed_add (ed_var rfl ra) (ed_var rfl rb)
theorem pure__law_minus (h : sp__law_minus vs H Q E) : t__law_minus K { nx := fun _ H' => Q .non H', rt := Q } (start N__law_minus vs) H := by
  obtain ⟨v1, v2, x, y, rfl, r1, r2, ⟨p1, p2⟩, k⟩ := h
  refine ret_d (r := rVec) (x := minusV x y) (ed_tupL (El.ed (el_lcZ (fun p => p.1 - p.2) (ed_var rfl r1) (ed_var rfl r2) p1 (by omega) (fun _ _ => rfl) ?_))) k rfl
  intro i a b v w H1 ex hx hy ra rb
  exact ed_sub (ed_var rfl ra) (ed_var rfl rb)
theorem pure__law_times (h : sp__law_times vs H Q E) : t__law_times K { nx := fun _ H' => Q .non H', rt := Q } (start N__law_times vs) H := by
  obtain ⟨v1, v2, n, x, rfl, r1, r2, ⟨p1, p2, p3⟩, k⟩ := h
  refine ret_d (r := rVec) (x := timesV n x) (ed_tupL (El.ed (el_mapT (fun e => n * e) (ed_var rfl r2) (by omega) (fun _ => rfl) ?_))) k rfl
  intro i e v H1 ex hi hv
  exact ed_mul (ed_var rfl (mon ex r1)) (ed_var rfl hv) (.inl ⟨p1, p2⟩)
theorem pure__law_under (h : sp__law_under vs H Q E) : t__law_under K { nx := fun _ H' => Q .non H', rt := Q } (start N__law_under vs) H := by
  obtain ⟨v1, v2, x, y, rfl, r1, r2, ⟨p1, p2⟩, k⟩ := h
  refine ret_d (r := rB) (x := underB x y) (ed_all (El.ed (el_lcZ (fun p => decide (p.1 ≤ p.2)) (ed_var rfl r1) (ed_var rfl r2) p1 (by omega) (fun _ _ => rfl) ?_))) k rfl
  intro i a b v w H1 ex hx hy ra rb
  exact ed_le (ed_var rfl ra) (ed_var rfl rb)
theorem pure__law_inside (h : sp__law_inside vs H Q E) : t__law_inside K { nx := fun _ H' => Q .non H', rt := Q } (start N__law_inside vs) H := by
  obtain ⟨v1, v2, s, ks, rfl, r1, r2, ⟨p1, p2⟩, k⟩ := h
  refine ret_d (r := rI) (x := insideV s ks) (ed_sum (El.ed (el_mapT (fun k => at0 s k.toNat) (ed_var rfl r2) (by omega) (fun _ => rfl) ?_))) k rfl
  intro i e v H1 ex hi hv
  obtain ⟨h0, h1⟩ := p1 e (List.mem_of_getElem? hi)
  have e0 : ((e.toNat : Nat) : Int) = e := by omega
  refine ed_ixT (r := rI) (k := e.toNat) (ed_var rfl (mon ex r1)) ?_ (at0_get (by omega))
  rw [e0]
  exact ed_var rfl hv
theorem pure__law_reversed_rule (h : sp__law_reversed_rule vs H Q E) : t__law_reversed_rule K { nx := fun _ H' => Q .non H', rt := Q } (start N__law_reversed_rule vs) H := by
  obtain ⟨v1, R, rfl, r1, p, k⟩ := h
  refine ret_d (r := rRule) (x := revR R) (ed_pair (ed_p1 (ed_var rfl r1)) (ed_tupL (El.ed (el_mapT3 (r := rS) (s := rVec) (q := rVec) (fun d => (d.1, d.2.2, d.2.1)) (ed_p2 (ed_var rfl r1)) (by omega) (fun _ _ _ => rfl) ?_)))) k rfl
  intro i x w1 w2 w3 H1 ex hi s1 s2 s3
  exact ed_trip (ed_var rfl s1) (ed_var rfl s3) (ed_var rfl s2)
theorem pure__law_reversed (h : sp__law_reversed vs H Q E) : t__law_reversed K { nx := fun _ H' => Q .non H', rt := Q } (start N__law_reversed vs) H := by
  obtain ⟨v1, t, rfl, r1, p, k⟩ := h
  exact ret_d (r := rTask) (x := revT t) (ed_trip (ev_call1 (x := t.1) (ed_t1 (ed_var rfl r1)) p hq_d) (ed_t3 (ed_var rfl r1)) (ed_t2 (ed_var rfl r1))) k rfl
theorem pure__law_change (h : sp__law_change vs H Q E) : t__law_change K { nx := fun _ H' => Q .non H', rt := Q } (start N__law_change vs) H := by
  obtain ⟨v1, v2, R, t, rfl, r1, r2, ⟨p1, m, pm, p2⟩, k⟩ := h
  obtain ⟨q1, q2⟩ := p2 t p1
  have hd : Ed (tOp (rIxT K) (tOp (rIxT K) (tVar 0) (tC (.int 1))) (tVar 1)) (start N__law_change [v1, v2]) H rDeed (deedOf R t) := ed_ixT (ed_p2 (ed_var rfl r1)) (ed_var (r := rI) rfl r2) (deed_get p1)
  exact ret_d (r := rVec) (x := changeV R t) (ev_call2 (x := givesOf R t) (y := takesOf R t) (ed_t3 hd) (ed_t2 hd) ⟨by rw [q1, q2], by rw [q2]; exact pm⟩ hq_d) k rfl
theorem pure__law_can (h : sp__law_can vs H Q E) : t__law_can K { nx := fun _ H' => Q .non H', rt := Q } (start N__law_can vs) H := by
  obtain ⟨v1, v2, v3, R, s, t, rfl, r1, r2, r3, ⟨p1, p2, p3⟩, k⟩ := h
  refine ret_d (r := rB) (x := canB R s t) (ev_call2 (x := takesOf R t) (y := s) ?_ (ed_var rfl r2) ⟨(p2 t p1).1, by rw [(p2 t p1).1]; exact p3⟩ hq_d) k rfl
  exact ed_t2 (ed_ixT (ed_p2 (ed_var rfl r1)) (ed_var (r := rI) rfl r3) (deed_get p1))
theorem pure__law_after (h : sp__law_after vs H Q E) : t__law_after K { nx := fun _ H' => Q .non H', rt := Q } (start N__law_after vs) H := by
  obtain ⟨v1, v2, v3, R, s, t, rfl, r1, r2, r3, ⟨p1, p2, p3⟩, k⟩ := h
  obtain ⟨q1, q2⟩ := p2 t p1
  refine ret_d (r := rVec) (x := afterV R s t) (ev_call2 (x := s) (y := changeV R t) (ed_var rfl r2) (ev_call2 (x := R) (y := t) (ed_var rfl r1) (ed_var rfl r3) ⟨p1, _, p3, p2⟩ hq_d) ⟨?_, p3⟩ hq_d) k rfl
  unfold changeV minusV
  rw [List.length_map, List.length_zip, q1, q2]
  omega
end
end M
/-! ## P3 -/
/-! Small defs with a loop. -/
namespace M
open PySem L2 Evl PyProof.Rows
section
variable {K : PySem.W.Frag} {σ : L2.St} {H H' : Hp} {ta tb tc te tx tl : TE}
theorem et_chain {i j k : Int} (ha : Ed ta σ H rI i) (hb : Ed tb σ H rI j) (hc : Ed tc σ H rI k) : EvT (tTest (tChain oLe oLt ta tb tc)) σ H (decide (i ≤ j) && decide (j < k)) := fun H1 e Q q =>
  ha H1 e _ fun x H2 e2 p1 => hb H2 (e.trans e2) _ fun y H3 e3 p2 => ⟨i, j, p1, p2, _, rfl, by
    by_cases h : i ≤ j
    · rw [if_pos (decide_eq_true h)]
      refine hc H3 ((e.trans e2).trans e3) _ fun z H4 e4 p3 => ⟨j, k, p2, p3, _, rfl, ?_⟩
      have := q H4 ((e2.trans e3).trans e4)
      rw [decide_eq_true h, Bool.true_and] at this
      exact this
    · rw [if_neg (by rw [decide_eq_false h]; exact Bool.false_ne_true)]
      refine ⟨false, rfl, ?_⟩
      have := q H3 (e2.trans e3)
      rw [decide_eq_false h, Bool.false_and] at this
      exact this⟩
theorem ed_inT {x : Int} {xs : List Int} (ha : Ed ta σ H rI x) (hb : Ed tb σ H rVec xs) : Ed (tOp (rIn K false) ta tb) σ H rB (xs.contains x) :=
  ed_op ha hb fun v w H1 _ p1 p2 Q k => by
    obtain ⟨a, vs, rfl, hv, pr⟩ := p2
    cases p1
    have e := rs_int pr
    subst e
    refine ⟨a, _, rfl, Or.inr (SqT.of hv), rfl, ?_, ?_⟩
    · rw [List.all_map]; exact List.all_eq_true.mpr fun _ _ => rfl
    · show Q (.bl (if false = true then _ else inV (V.int x) (xs.map V.int))) H1
      rw [if_neg Bool.false_ne_true]
      refine k _ H1 (Ex.refl H1) ?_
      show V.bl _ = V.bl _
      congr 1
      unfold inV
      rw [List.any_map, Bool.eq_iff_iff, List.any_eq_true, List.contains_iff_mem]
      constructor
      · rintro ⟨y, hy, h⟩
        have h' : (y == x) = true := h
        have : y = x := by simpa using h'
        rw [← this]; exact hy
      · intro h
        exact ⟨x, h, by show (x == x) = true; simp⟩
end
section
variable {K : PySem.W.Frag} {vs : List V} {H : Hp} {Q : VK} {E : XK}
theorem afterV_len {R : Rule} {s : Vec} {k : Nat} (h : LenR s.length R) (hk : k < R.2.length) : (afterV R s k).length = s.length := by
  obtain ⟨q1, q2⟩ := h k hk
  unfold afterV plusV changeV minusV
  rw [List.length_map, List.length_zip, List.length_map, List.length_zip, q1, q2]
  omega
theorem pure__law_run_end (h : sp__law_run_end vs H Q E) : t__law_run_end K { nx := fun _ H' => Q .non H', rt := Q } (start N__law_run_end vs) H := by
  obtain ⟨v1, v2, v3, R, s, run, rfl, r1, r2, r3, ⟨p1, p2, p3, p4⟩, k⟩ := h
  refine r_asg (ed_var (r := rVec) (x := s) rfl r2) fun w0 H1 e1 rw0 => ?_
  refine r_forT (r := rI) (xs := run) (ed_var rfl (mon e1 r3)) fun H2 e2 => ⟨fun i σ H' => Ex H2 H' ∧ ∃ pv tv pl, σ = [some v1, some v2, some v3, some pv, tv] ∧ rVec H' pv pl ∧ pl.length = s.length ∧ runEnd R s run = runEnd R pl (run.drop i),
    ⟨Ex.refl _, w0, none, s, rfl, mon e2 rw0, rfl, by rw [List.drop_zero]⟩, fun i σ H' p => Ex.tp p.1, ?_, ?_⟩
  · rintro i t tv σ H' hi rt ⟨e, pv, tv', pl, rfl, rpl, hlen, hrun⟩
    cases rt
    have e3 : Ex H H' := (e1.trans e2).trans e
    have hdrop : run.drop i = t :: run.drop (i + 1) := (List.drop_eq_getElem_cons (List.getElem?_eq_some_iff.mp hi).1).trans (by rw [(List.getElem?_eq_some_iff.mp hi).2])
    have hR : Ed (tVar 0) [some v1, some v2, some v3, some pv, some (V.int t)] H' rRule R := ed_var rfl (mon e3 r1)
    have hT : Ed (tVar 4) [some v1, some v2, some v3, some pv, some (V.int t)] H' rI t := ed_var rfl rfl
    have hP : Ed (tVar 3) [some v1, some v2, some v3, some pv, some (V.int t)] H' rVec pl := ed_var rfl rpl
    have hLen : LenR pl.length R := by rw [hlen]; exact p1
    by_cases hc : 0 ≤ t ∧ t < (R.2.length : Int)
    · have et : ((t.toNat : Nat) : Int) = t := by omega
      have hTn : Ed (tVar 4) [some v1, some v2, some v3, some pv, some (V.int t)] H' rN t.toNat := ed_var rfl (by show V.int t = V.int _; rw [et])
      refine r_if (b := !canB R pl t.toNat) (EvT.to (et_or (a := false) (et_not (a := true) (et_B' (ev_call1 (x := t) hT trivial hq_d))) fun _ => et_or (a := false) (b := !canB R pl t.toNat) (EvT.to (et_not (et_chain (ed_int (n := 0)) hT (ed_lenT (ed_p2 hR)))) (by rw [decide_eq_true hc.1, decide_eq_true hc.2]; rfl)) fun _ => et_not (et_B' (ev_call3 (x := R) (y := pl) (z := t.toNat) hR hP hTn ⟨by omega, hLen, by omega⟩ hq_d))) (by rfl)) ?_ ?_
      · intro hb H3 e4
        have hcan : canB R pl t.toNat = false := by simpa using hb
        refine r_ret (ed_non (r := rVec) (x := runEnd R s run) ?_) fun w H4 e5 p => k w H4 ((e3.trans e4).trans e5) p
        rw [hrun, hdrop]
        show (if _ then _ else none) = none
        rw [if_neg (by rw [hcan]; simp)]
      · intro hb H3 e4
        have hcan : canB R pl t.toNat = true := by simpa using hb
        refine r_asgN (ev_call3 (P := fun w H5 => rVec H5 w (afterV R pl t.toNat)) (x := R) (y := pl) (z := t.toNat) (hR.mono e4) (hP.mono e4) (hTn.mono e4) ⟨by omega, hLen, by omega⟩ hq_d) fun w H4 e5 p => ⟨(e.trans e4).trans e5, w, _, afterV R pl t.toNat, rfl, p, ?_, ?_⟩
        · rw [afterV_len hLen (by omega), hlen]
        · rw [hrun, hdrop]
          show (if _ then _ else none) = _
          rw [if_pos ⟨hc.1, hc.2, hcan⟩]
    · have hcd : (decide ((0 : Int) ≤ t) && decide (t < (R.2.length : Int))) = false := by
        rw [← Bool.not_eq_true, Bool.and_eq_true, decide_eq_true_eq, decide_eq_true_eq]; exact hc
      refine r_if (b := true) (EvT.to (et_or (a := false) (et_not (a := true) (et_B' (ev_call1 (x := t) hT trivial hq_d))) fun _ => et_or (a := true) (b := true) (EvT.to (et_not (et_chain (ed_int (n := 0)) hT (ed_lenT (ed_p2 hR)))) (by rw [hcd]; rfl)) fun z => by cases z) (by rfl)) ?_ (fun z => by cases z)
      intro _ H3 e4
      refine r_ret (ed_non (r := rVec) (x := runEnd R s run) ?_) fun w H4 e5 p => k w H4 ((e3.trans e4).trans e5) p
      rw [hrun, hdrop]
      show (if _ then _ else none) = none
      rw [if_neg (by rintro ⟨a, b, _⟩; exact hc ⟨a, b⟩)]
  · rintro σ H' ⟨e, pv, tv', pl, rfl, rpl, hlen, hrun⟩
    refine r_ret (ed_var (r := rO rVec) (x := runEnd R s run) rfl ?_) fun w H4 e5 p => k w H4 (((e1.trans e2).trans e).trans e5) p
    rw [hrun, List.drop_length]
    exact rpl
theorem pure__law_size_of_crowd (h : sp__law_size_of_crowd vs H Q E) : t__law_size_of_crowd K { nx := fun _ H' => Q .non H', rt := Q } (start N__law_size_of_crowd vs) H := by
  obtain ⟨v1, v2, t, n, rfl, r1, r2, ⟨p1, p2, p3, p4, p5⟩, k⟩ := h
  refine r_asg (ed_int (n := 1)) fun w0 H1 e1 rw0 => ?_
  cases rw0
  have hst : ∀ σ H', σ[0]? = some (some v1) → Ex H H' → Ed (tOp (rIxT K) (tVar 0) (tC (.int 1))) σ H' rVec t.2.1 := fun σ H' hs e => ed_t2 (ed_var hs (mon e r1))
  refine r_asg (ed_mul (ed_var (r := rI) (x := (n : Int)) rfl r2) (ed_sum (El.ed (el_listT (hst _ _ rfl e1)))) (.inl ⟨by omega, by omega⟩)) fun w1 H2 e2 rw1 => ?_
  cases rw1
  have hb : ((n : Int) * t.2.1.sum) ≤ 1000 * 1000 := Int.mul_le_mul (by omega) p5 p4 (by omega)
  have hb0 : 0 ≤ ((n : Int) * t.2.1.sum) := Int.mul_nonneg (by omega) p4
  have hl : ((t.2.1.length : Int) - 1) = ((t.2.1.length - 1 : Nat) : Int) := by omega
  refine r_forN (n := t.2.1.length - 1) (Ed.to (ed_sub (ed_lenT (hst _ _ rfl (e1.trans e2))) (ed_int (n := 1))) hl) (by omega)
    (fun i σ H' => Ex H H' ∧ ∃ av, σ = [some v1, some v2, some (.int ((List.range i).foldl (crowdStep (n * t.2.1.sum)) 1)), some (.int (n * t.2.1.sum)), av]) (fun H3 e3 => ⟨(e1.trans e2).trans e3, none, rfl⟩) ?_ ?_
  · rintro i σ H3 hi ⟨e3, av, rfl⟩
    refine r_asgN (ed_div (ed_mul (ed_var (r := rI) rfl rfl) (ed_add (ed_add (ed_var (r := rI) (x := (n : Int) * t.2.1.sum) rfl rfl) (ed_var (r := rI) (x := (i : Int)) rfl rfl)) (ed_int (n := 1))) (.inr ⟨by omega, by omega⟩)) (ed_add (ed_var (r := rI) (x := (i : Int)) rfl rfl) (ed_int (n := 1))) ⟨by omega, by omega⟩) fun w4 H4 e4 rw4 => ?_
    cases rw4
    refine ⟨e3.trans e4, some (.int i), ?_⟩
    rw [List.range_succ, List.foldl_append]
    rfl
  · rintro σ H3 ⟨e3, av, rfl⟩
    exact r_ret (ed_var (r := rI) (x := crowdN t.2.1 n) rfl rfl) fun w H4 e4 p => k w H4 (e3.trans e4) p
theorem pure__law_top (h : sp__law_top vs H Q E) : t__law_top K { nx := fun _ H' => Q .non H', rt := Q } (start N__law_top vs) H := by
  obtain ⟨v1, v2, v3, t, most, room, rfl, r1, r2, r3, ⟨p1, p2, p3, p4, p5⟩, k⟩ := h
  cases r2; cases r3
  refine r_asg (ed_int (n := 0)) fun w0 H1 e1 rw0 => ?_
  cases rw0
  refine r_while (fun m σ H' => Ex H H' ∧ ∃ i : Nat, i ≤ most ∧ m = most - i ∧ σ = [some v1, some (.int most), some (.int room), some (.int i)] ∧ ∀ j : Nat, j < i → crowdN t.2.1 ((j + 1 : Nat) : Int) ≤ room) most ⟨e1, 0, Nat.zero_le _, rfl, rfl, fun j hj => absurd hj (Nat.not_lt_zero j)⟩ ?_
  rintro m σ H2 ⟨e2, i, hi, rfl, rfl, hall⟩
  have hV : Ed (tVar 3) [some v1, some (.int most), some (.int room), some (.int (i : Int))] H2 rI (i : Int) := ed_var rfl rfl
  have hM : Ed (tVar 1) [some v1, some (.int most), some (.int room), some (.int (i : Int))] H2 rI (most : Int) := ed_var rfl rfl
  have e1' : ((i : Int) + 1) = ((i + 1 : Nat) : Int) := by omega
  refine ⟨decide ((i : Int) < most) && decide (crowdN t.2.1 ((i + 1 : Nat) : Int) ≤ room), ?_, ?_, ?_⟩
  · refine et_and (et_test' (ed_lt hV hM)) fun hlt => ?_
    have hlt' : (i : Int) < most := of_decide_eq_true hlt
    exact et_test' (ed_le (ev_call2 (x := t) (y := i + 1) (ed_var rfl (mon e2 r1)) (ed_nat (ed_add hV (ed_int (n := 1))) e1') ⟨p1, p2, by omega, p4, p5⟩ hq_d) (ed_var rfl rfl))
  · intro hb H3 e3
    rw [Bool.and_eq_true, decide_eq_true_eq, decide_eq_true_eq] at hb
    refine ⟨fun σ' H' => Ex H H' ∧ σ' = [some v1, some (.int most), some (.int room), some (.int ((i : Int) + 1))], ?_, ?_⟩
    · rintro σ' H' ⟨e4, rfl⟩
      refine ⟨most - (i + 1), by omega, e4, i + 1, by omega, rfl, by rw [e1'], fun j hj => ?_⟩
      by_cases hji : j = i
      · subst hji; exact hb.2
      · exact hall j (by omega)
    · exact r_augN rfl (ed_int (n := 1)) fun H4 e4 => ⟨(e2.trans e3).trans e4, rfl⟩
  · intro hb H3 e3
    refine r_ret (ed_var (r := rI) (x := (i : Int)) rfl rfl) fun w H4 e4 p => ?_
    refine k w H4 ((e2.trans e3).trans e4) ⟨i, p, hi, hall, ?_⟩
    rw [Bool.and_eq_false_iff, decide_eq_false_iff_not, decide_eq_false_iff_not] at hb
    rcases hb with hb | hb
    · left; omega
    · right; omega
theorem pure__law_ring_steps (h : sp__law_ring_steps vs H Q E) : t__law_ring_steps K { nx := fun _ H' => Q .non H', rt := Q } (start N__law_ring_steps vs) H := by
  obtain ⟨v1, v2, s, ks, rfl, r1, r2, ⟨p1, p2, p3, p4⟩, k⟩ := h
  refine r_asg (ed_lenT (r := rI) (xs := s) (ed_var rfl r1)) fun w0 H1 e1 rw0 => ?_
  cases rw0
  refine r_asg (ed_int (n := 0)) fun w0 H2 e2 rw0 => ?_
  cases rw0
  refine r_forN (n := s.length) (ed_var rfl rfl) (by omega) (fun i σ H' => Ex H H' ∧ ∃ a b c, σ = [some v1, some v2, some (.int s.length), some (.int (((List.range i).map fun k => at0 s k * (((ringWay s.length ks k).getD 0 0 : Nat) : Int)).sum)), a, b, c])
    (fun H3 e3 => ⟨(e1.trans e2).trans e3, none, none, none, rfl⟩) ?_ ?_
  · rintro i σ H3 hi ⟨e3, a, b, c, rfl⟩
    have hne := p3 i hi
    refine r_asg (El.ed (el_lcR (r := rN) (n := s.length) (fun st => ks.contains (((i : Int) + (st : Int)) % (s.length : Int))) (fun st => st) (ed_var rfl rfl) (by omega) (fun _ => rfl) ?_ ?_)) fun w4 H4 e4 rw4 => ?_
    · intro st H4 e4 hst
      exact et_test' (ed_inT (ed_mod (ed_int1 (ed_add (ed_var (r := rI) (x := (i : Int)) rfl rfl) (ed_var (r := rI) (x := (st : Int)) rfl rfl))) (ed_var (r := rI) (x := (s.length : Int)) rfl rfl) (by omega)) (ed_var rfl (mon (e3.trans e4) r2)))
    · intro st H4 e4 hst _
      exact ed_var rfl rfl
    · rw [List.map_id'] at rw4
      have hw0 : (ringWay s.length ks i)[0]? = some ((ringWay s.length ks i).getD 0 0) := by
        cases hr : ringWay s.length ks i with
        | nil => exact (hne hr).elim
        | cons x xs => rfl
      have hm := p4 (at0 s i) (List.mem_of_getElem? (at0_get hi))
      refine r_augN rfl (ed_mul (ed_ixT (r := rI) (xs := s) (k := i) (ed_var rfl (mon (e3.trans e4) r1)) (ed_var (r := rI) rfl rfl) (at0_get hi)) (ed_ixL (r := rN) (xs := ringWay s.length ks i) (k := 0) (ed_var rfl rw4) (ed_int (n := 0)) hw0) (.inl ⟨by omega, by omega⟩)) fun H5 e5 => ?_
      refine ⟨(e3.trans e4).trans e5, some (.int i), some w4, c, ?_⟩
      rw [List.range_succ, List.map_append, List.sum_append]
      simp
  · rintro σ H3 ⟨e3, a, b, c, rfl⟩
    exact r_ret (ed_var (r := rI) (x := ringSteps s ks) rfl rfl) fun w H4 e4 p => k w H4 (e3.trans e4) p
end
end M
/-! ## P4 -/
/-! Draws: the state at d, its cells at c. -/
namespace M
open PySem L2 Evl PyProof.Rows
structure Dr (d c : Addr) (H : Hp) : Prop where
  ne : d ≠ c
  st : ∃ a1 a2 a3 a4 : Int, H d = some (.lst [.ref c, .int a1, .int a2, .int a3, .int a4]) ∧ 0 ≤ a1
  ce : ∃ cells : List Int, H c = some (.lst (cells.map V.int))
theorem Dr.ex {d c : Addr} {H H' : Hp} (h : Dr d c H) (e : Ex H H') : Dr d c H' := by
  obtain ⟨ne, ⟨a1, a2, a3, a4, h1, h2⟩, cells, h3⟩ := h
  exact ⟨ne, ⟨a1, a2, a3, a4, e _ _ h1, h2⟩, cells, e _ _ h3⟩
/-- all is kept but what stands at the addresses of l -/
def Sm (l : List Addr) (H H' : Hp) : Prop := ∀ b o, b ∉ l → H b = some o → H' b = some o
theorem Sm.refl (l : List Addr) (H : Hp) : Sm l H H := fun _ _ _ h => h
theorem Sm.trans {l : List Addr} {H H1 H2 : Hp} (a : Sm l H H1) (b : Sm l H1 H2) : Sm l H H2 := fun x o n h => b x o n (a x o n h)
theorem Ex.sm {l : List Addr} {H H' : Hp} (e : Ex H H') : Sm l H H' := fun x o _ h => e x o h
theorem Sm.more {l l' : List Addr} {H H' : Hp} (a : Sm l H H') (h : ∀ x ∈ l, x ∈ l') : Sm l' H H' := fun x o n q => a x o (fun z => n (h x z)) q
theorem Sm.upd {l : List Addr} {H H' : Hp} {a : Addr} {o : HO} (s : Sm l H H') (h : a ∈ l) : Sm l H (upd H' a o) := fun x u n q => by
  rw [upd_ne (fun z => n (by rw [z]; exact h))]
  exact s x u n q
/-- a thing that H does not know may change -/
theorem Sm.new {l : List Addr} {H H' : Hp} {a : Addr} {o : HO} (s : Sm l H H') (h : H a = none) : Sm l H (L2.upd H' a o) := fun x u n q => by
  rw [upd_ne (ne_of_none q h)]
  exact s x u n q
/-- what the list forgets is new to H -/
theorem Sm.less {d l : Addr} {H H' : Hp} (s : Sm [d, l] H H') (h : H l = none) : Sm [d] H H' := fun x u n q => s x u (fun z => by
  rcases List.mem_cons.mp z with z | z
  · exact n (by rw [z]; exact List.mem_cons_self)
  · rcases List.mem_cons.mp z with z | z
    · rw [z, h] at q; cases q
    · cases z) q
def IsLst (H : Hp) (a : Addr) : Prop := ∃ xs, H a = some (.lst xs)
theorem Sm.tp {l : List Addr} {H H' : Hp} (s : Sm l H H') (h : ∀ a ∈ l, IsLst H a) : Tp H H' := fun a xs q => s a _ (fun z => by
  obtain ⟨ys, e⟩ := h a z
  rw [e] at q; cases q) q
theorem Dr.lst {d c : Addr} {H : Hp} (h : Dr d c H) : IsLst H d := by
  obtain ⟨_, ⟨a1, a2, a3, a4, h1, _⟩, _⟩ := h
  exact ⟨_, h1⟩
theorem Dr.lstc {d c : Addr} {H : Hp} (h : Dr d c H) : IsLst H c := by
  obtain ⟨_, _, cells, h1⟩ := h
  exact ⟨_, h1⟩
theorem Dr.tp {d c : Addr} {H H' : Hp} (h : Dr d c H) (s : Sm [d] H H') : Tp H H' := s.tp fun a z => by
  rw [List.mem_singleton.mp z]; exact h.lst
theorem Dr.tp2 {d c l : Addr} {H H' : Hp} (h : Dr d c H) (hl : IsLst H l) (s : Sm [d, l] H H') : Tp H H' := s.tp fun a z => by
  rcases List.mem_cons.mp z with z | z
  · rw [z]; exact h.lst
  · rw [List.mem_singleton.mp z]; exact hl
/-- a change at another address -/
theorem Dr.other {d c a : Addr} {H : Hp} {o : HO} (h : Dr d c H) (hd : a ≠ d) (hc : a ≠ c) : Dr d c (upd H a o) := by
  obtain ⟨ne, ⟨a1, a2, a3, a4, h1, h2⟩, cells, h3⟩ := h
  exact ⟨ne, ⟨a1, a2, a3, a4, by rw [upd_ne hd.symm]; exact h1, h2⟩, cells, by rw [upd_ne hc.symm]; exact h3⟩
theorem Dr.new {d c a : Addr} {H : Hp} {o : HO} (h : Dr d c H) (hn : H a = none) : Dr d c (upd H a o) := h.ex (Ex.new hn)
theorem Dr.ned {d c a : Addr} {H : Hp} (h : Dr d c H) (hn : H a = none) : a ≠ d ∧ a ≠ c := by
  obtain ⟨xs, h1⟩ := h.lst
  obtain ⟨ys, h2⟩ := h.lstc
  exact ⟨(ne_of_none h1 hn).symm, (ne_of_none h2 hn).symm⟩
theorem rv_refl {H : Hp} : ∀ ys : List V, Paired (rV H) ys ys
  | [] => .nil
  | _ :: ys => .cons rfl (rv_refl ys)
/-- what follows a draw -/
def QD (d c : Addr) (H : Hp) (Q : VK) (P : V → Hp → Prop) : Prop := ∀ v H', Sm [d] H H' → Dr d c H' → P v H' → Q v H'
def DrawnTo (n : Int) : V → Hp → Prop := fun v _ => ∃ r : Nat, v = .int (r : Int) ∧ (r : Int) < n
def sp__law_draw : Sp := fun vs H Q _ => ∃ d c n, vs = [.ref d, .int n] ∧ 1 ≤ n ∧ n < 1073741824 ∧ Dr d c H ∧ QD d c H Q (DrawnTo n)
def sp__law_rare : Sp := fun vs H Q _ => ∃ d c n, vs = [.ref d, .int n] ∧ 1 ≤ n ∧ n < 1073741824 ∧ Dr d c H ∧ QD d c H Q (fun v _ => ∃ b, v = .bl b)
def sp__law_pick : Sp := fun vs H Q _ => ∃ d c a xs, vs = [.ref d, .ref a] ∧ a ≠ d ∧ (H a = some (.lst xs) ∨ H a = some (.tup xs)) ∧ 0 < xs.length ∧ xs.length < 1073741824 ∧ Dr d c H ∧ QD d c H Q (fun v _ => v ∈ xs)
def sp__law_pop : Sp := fun vs H Q _ => ∃ d c l xs, vs = [.ref d, .ref l] ∧ l ≠ d ∧ l ≠ c ∧ H l = some (.lst xs) ∧ 0 < xs.length ∧ xs.length < 1073741824 ∧ Dr d c H ∧
  ∀ k v H', Sm [d, l] H H' → Dr d c H' → xs[k]? = some v → H' l = some (.lst (xs.eraseIdx k)) → Q v H'
def sp__law_shuffled : Sp := fun vs H Q _ => ∃ d c a xs, vs = [.ref d, .ref a] ∧ H a = some (.lst xs) ∧ xs.length ≤ 1000 ∧ Dr d c H ∧ QD d c H Q (fun v H' => ∃ p ys, v = .ref p ∧ H p = none ∧ H' p = some (.lst ys) ∧ ys.Perm xs)
/-! _law_draw: slots d 0, many 1, whole 2, size 3, cell 4 -/
def N__law_draw : List Str := ["d", "many", "whole", "size", "cell"]
def t__law_draw (K : PySem.W.Frag) : TS :=
  (tSeq (tIfS (tTest (tOp oGt (tOp (rIxL K) (tVar 0) (tC (.int 2))) (tC (.int 0)))) (tSeq (tAsg (tOp (rIxL K) (tVar 0) (tC (.int 2))) (gName 2))
  (tSeq (tAsg (tOp oDiv (tVar 2) (tVar 1)) (gSub (tVar 0) (tC (.int 2)) rSetL))
  (tRet (tOp oMod (tCB rInt1 (tCons (tVar 2) tNil)) (tVar 1))))) tNext)
  (tSeq (tAsg (tC (.int 0)) (gName 3))
  (tSeq (tIfS (tTest (tOp oLt (tOp (rIxL K) (tVar 0) (tC (.int 1))) (tCB (rLenS K) (tCons (tOp (rIxL K) (tVar 0) (tC (.int 0))) tNil)))) (tSeq (tAsg (tOp (rIxL K) (tOp (rIxL K) (tVar 0) (tC (.int 0))) (tOp (rIxL K) (tVar 0) (tC (.int 1)))) (gName 4))
  (tAsg (tOp oAdd (tOp oMul (tC (.int 2)) (tCB rAbs (tCons (tVar 4) tNil))) (tCB rInt1 (tCons (tOp oLt (tVar 4) (tC (.int 0))) tNil))) (gName 3))) tNext)
  (tSeq (tAugS (tVar 0) (tC (.int 1)) (tC (.int 1)) (rIxL K) (ipI fun i j => i + j) rSetL)
  (tSeq (tIfS (tTest (tOp oGe (tVar 3) (tOp oMul (tC (.int 2)) (tOp oPow (tC (.int 10)) (tC (.int 18)))))) (tSeq (tAsg (tOp oMod (tCB rInt1 (tCons (tOp oDiv (tVar 3) (tC (.int 2))) tNil)) (tOp oShl (tC (.int 1)) (tC (.int 6000)))) (gName 2))
  (tSeq (tAsg (tOp oDiv (tVar 2) (tVar 1)) (gSub (tVar 0) (tC (.int 2)) rSetL))
  (tRet (tOp oMod (tCB rInt1 (tCons (tVar 2) tNil)) (tVar 1))))) tNext)
  (tSeq (tAsg (tOp oMod (tCB rInt1 (tCons (tOp oAdd (tOp oAdd (tOp oAdd (tOp oMul (tOp (rIxL K) (tVar 0) (tC (.int 3))) (tC (.int 48271))) (tOp oMul (tOp oMod (tCB rInt1 (tCons (tVar 3) tNil)) (tC (.int 2147483629))) (tC (.int 16807)))) (tOp oMul (tOp (rIxL K) (tVar 0) (tC (.int 1))) (tC (.int 69621)))) (tC (.int 11))) tNil)) (tC (.int 2147483647))) (gSub (tVar 0) (tC (.int 3)) rSetL))
  (tRet (tOp oMod (tCB rInt1 (tCons (tOp oDiv (tOp (rIxL K) (tVar 0) (tC (.int 3))) (tC (.int 16))) tNil)) (tVar 1)))))))))
/-! _law_rare: slots d 0, many 1 -/
def N__law_rare : List Str := ["d", "many"]
def t__law_rare (K : PySem.W.Frag) : TS :=
  (tRet (tOp rEq (tCall sp__law_draw [] E0 (tCons (tVar 0) (tCons (tVar 1) tNil))) (tOp oDiv (tVar 1) (tC (.int 2)))))
/-! _law_pick: slots d 0, row 1 -/
def N__law_pick : List Str := ["d", "row"]
def t__law_pick (K : PySem.W.Frag) : TS :=
  (tRet (tOp (rIx K) (tVar 1) (tCall sp__law_draw [] E0 (tCons (tVar 0) (tCons (tCB (rLenS K) (tCons (tVar 1) tNil)) tNil)))))
/-! _law_pop: slots d 0, row 1 -/
def N__law_pop : List Str := ["d", "row"]
def t__law_pop (K : PySem.W.Frag) : TS :=
  (tRet (tBM K "list" rPopAt (tVar 1) (tCons (tCall sp__law_draw [] E0 (tCons (tVar 0) (tCons (tCB (rLenS K) (tCons (tVar 1) tNil)) tNil))) tNil)))
/-! _law_shuffled: slots d 0, row 1, left 2, blended 3, k 4 -/
def N__law_shuffled : List Str := ["d", "row", "left", "blended", "k"]
def t__law_shuffled (K : PySem.W.Frag) : TS :=
  (tSeq (tAsg (tCB (rListS K) (tCons (tVar 1) tNil)) (gName 2))
  (tSeq (tAsg (tLst tNil) (gName 3))
  (tSeq (tFor (iRng1 (tCons (tCB (rLenS K) (tCons (tVar 2) tNil)) tNil)) (gName 4) (tDrop (tBM K "list" rAppend (tVar 3) (tCons (tBM K "list" rPopAt (tVar 2) (tCons (tCall sp__law_draw [] E0 (tCons (tVar 0) (tCons (tCB (rLenS K) (tCons (tVar 2) tNil)) tNil))) tNil)) tNil))))
  (tRet (tVar 3)))))
section
variable {K : PySem.W.Frag} {vs : List V} {H : Hp} {Q : VK} {E : XK} {σ : L2.St} {ta tb tc te : TE} {tz : TS} {D : Ends}
theorem r_setL {l : Addr} {xs : List V} {j : Nat} {P : V → Hp → Prop} (hl : H l = some (.lst xs)) (h : EvP te σ H P) (ho : EvP ta σ H fun w _ => w = .ref l) (hi : Ed tb σ H rI (j : Int)) (hj : j < xs.length)
    (k : ∀ v H0 H1, Ex H H0 → Ex H0 H1 → P v H0 → tz D σ (upd H1 l (.lst (xs.set j v)))) : tSeq (tAsg te (gSub ta tb rSetL)) tz D σ H :=
  h.run fun v H1 e1 p => (ho.mono e1).run fun w H2 e2 p2 => (hi.mono (e1.trans e2)).run fun i H3 e3 p3 => ⟨l, xs, (j : Int), j, p2, p3, ((e1.trans e2).trans e3) _ _ hl, ixN_nat hj, k v H1 H3 e1 (e2.trans e3) p⟩
theorem r_augS {l : Addr} {xs : List V} {j : Nat} {f : Int → Int → Int} {a b : Int} (hl : H l = some (.lst xs)) (ho : EvP ta σ H fun w _ => w = .ref l) (hi : Ed tb σ H rI (j : Int)) (hx : xs[j]? = some (.int a)) (h : Ed te σ H rI b)
    (k : ∀ H1, Ex H H1 → tz D σ (upd H1 l (.lst (xs.set j (.int (f a b)))))) : tSeq (tAugS ta tb te (rIxL K) (ipI f) rSetL) tz D σ H :=
  ho.run fun w H1 e1 p1 => (hi.mono e1).run fun i H2 e2 p2 => ⟨l, xs, (j : Int), .int a, p1, p2, SqL.of ((e1.trans e2) _ _ hl), atI_nat hx, (h.mono (e1.trans e2)).run fun y H3 e3 p3 => ⟨a, b, rfl, p3, l, xs, (j : Int), j, p1, p2, ((e1.trans e2).trans e3) _ _ hl, ixN_nat (List.getElem?_eq_some_iff.mp hx).1, k H3 ((e1.trans e2).trans e3)⟩⟩
/-- the number that is drawn -/
theorem drawn_mod {x n : Int} (hn : 0 < n) : ∃ r : Nat, (V.int (x % n)) = .int (r : Int) ∧ (r : Int) < n := by
  refine ⟨(x % n).toNat, ?_, ?_⟩
  · congr 1
    exact (Int.toNat_of_nonneg (Int.emod_nonneg x (by omega))).symm
  · rw [Int.toNat_of_nonneg (Int.emod_nonneg x (by omega))]
    exact Int.emod_lt_of_pos x hn
theorem pure__law_draw (h : sp__law_draw vs H Q E) : t__law_draw K { nx := fun _ H' => Q .non H', rt := Q } (start N__law_draw vs) H := by
  obtain ⟨d, c, n, rfl, n1, n2, hD, k⟩ := h
  obtain ⟨ne, ⟨a1, a2, a3, a4, hd, h0⟩, cells, hc⟩ := id hD
  have vd : ∀ (l : L2.St) H1, l[0]? = some (some (V.ref d)) → EvP (tVar 0) l H1 fun w _ => w = .ref d := fun l H1 h => ev_v h
  have ix : ∀ (l : L2.St) H1 ys (j : Nat) (a : Int), l[0]? = some (some (V.ref d)) → H1 d = some (.lst ys) → ys[j]? = some (V.int a) → Ed (tOp (rIxL K) (tVar 0) (tC (.int (j : Int)))) l H1 rI a := fun l H1 ys j a h e hy =>
    ed_ixL (r := rV) (xs := ys) (y := V.int a) (k := j) (ed_var h ⟨d, ys, rfl, e, rv_refl ys⟩) (ed_int (n := (j : Int))) hy
  have fin : ∀ (x : Int) H1, Sm [d] H H1 → Dr d c H1 → Q (.int (x % n)) H1 := fun x H1 s1 d1 => k _ H1 s1 d1 (drawn_mod (by omega))
  have hm : ∀ (l : L2.St) H1, l[1]? = some (some (V.int n)) → Ed (tVar 1) l H1 rI n := fun l H1 h => ed_var h rfl
  -- what follows behind the first two ifs
  have rest : ∀ (sz : Int) (cv : Option V) H1, Ex H H1 → (tSeq (tAugS (tVar 0) (tC (.int 1)) (tC (.int 1)) (rIxL K) (ipI fun i j => i + j) rSetL)
      (tSeq (tIfS (tTest (tOp oGe (tVar 3) (tOp oMul (tC (.int 2)) (tOp oPow (tC (.int 10)) (tC (.int 18)))))) (tSeq (tAsg (tOp oMod (tCB rInt1 (tCons (tOp oDiv (tVar 3) (tC (.int 2))) tNil)) (tOp oShl (tC (.int 1)) (tC (.int 6000)))) (gName 2))
      (tSeq (tAsg (tOp oDiv (tVar 2) (tVar 1)) (gSub (tVar 0) (tC (.int 2)) rSetL))
      (tRet (tOp oMod (tCB rInt1 (tCons (tVar 2) tNil)) (tVar 1))))) tNext)
      (tSeq (tAsg (tOp oMod (tCB rInt1 (tCons (tOp oAdd (tOp oAdd (tOp oAdd (tOp oMul (tOp (rIxL K) (tVar 0) (tC (.int 3))) (tC (.int 48271))) (tOp oMul (tOp oMod (tCB rInt1 (tCons (tVar 3) tNil)) (tC (.int 2147483629))) (tC (.int 16807)))) (tOp oMul (tOp (rIxL K) (tVar 0) (tC (.int 1))) (tC (.int 69621)))) (tC (.int 11))) tNil)) (tC (.int 2147483647))) (gSub (tVar 0) (tC (.int 3)) rSetL))
      (tRet (tOp oMod (tCB rInt1 (tCons (tOp oDiv (tOp (rIxL K) (tVar 0) (tC (.int 3))) (tC (.int 16))) tNil)) (tVar 1)))))) { nx := fun _ H' => Q .non H', rt := Q } [some (.ref d), some (.int n), none, some (.int sz), cv] H1 := by
    intro sz cv H1 e1
    refine r_augS (l := d) (xs := [.ref c, .int a1, .int a2, .int a3, .int a4]) (j := 1) (a := a1) (b := 1) (e1 _ _ hd) (vd _ _ rfl) (ed_int (n := 1)) rfl (ed_int (n := 1)) fun H2 e2 => ?_
    have s2 : Sm [d] H (upd H2 d (.lst [.ref c, .int (a1 + 1), .int a2, .int a3, .int a4])) := (Ex.sm (e1.trans e2)).upd List.mem_cons_self
    have d2 : Dr d c (upd H2 d (.lst [.ref c, .int (a1 + 1), .int a2, .int a3, .int a4])) := ⟨ne, ⟨a1 + 1, a2, a3, a4, upd_same, by omega⟩, cells, by rw [upd_ne ne.symm]; exact e2 _ _ (e1 _ _ hc)⟩
    have hd2 : (upd H2 d (.lst [.ref c, .int (a1 + 1), .int a2, .int a3, .int a4])) d = some (.lst [.ref c, .int (a1 + 1), .int a2, .int a3, .int a4]) := upd_same
    show (tSeq _ _) _ _ (upd H2 d (.lst [.ref c, .int (a1 + 1), .int a2, .int a3, .int a4]))
    generalize hH3 : upd H2 d (.lst [.ref c, .int (a1 + 1), .int a2, .int a3, .int a4]) = H3 at s2 d2 hd2 ⊢
    have hsz : ∀ (l : L2.St) H', l[3]? = some (some (V.int sz)) → Ed (tVar 3) l H' rI sz := fun l H' h => ed_var h rfl
    refine r_if (et_test' (ed_ge (hsz _ _ rfl) (ed_mul (ed_int (n := 2)) (ed_I (g := fun i j => .int (i ^ j.toNat)) (z := (10 : Int) ^ (18 : Int).toNat) (ed_int (n := 10)) (ed_int (n := 18)) ⟨by decide, by decide, by decide⟩ fun _ => rfl) (.inl ⟨by decide, by decide⟩)))) ?_ ?_
    · intro _ H4 e4
      have hp : (0 : Int) < (1 : Int) * 2 ^ (6000 : Int).toNat := by
        rw [Int.one_mul]; exact Int.pow_pos (by decide)
      refine r_asg (ed_mod (ed_int1 (ed_div (hsz _ _ rfl) (ed_int (n := 2)) ⟨by decide, by decide⟩)) (ed_I (g := fun i j => .int (i * 2 ^ j.toNat)) (z := (1 : Int) * 2 ^ (6000 : Int).toNat) (ed_int (n := 1)) (ed_int (n := 6000)) ⟨by decide, by decide, by decide⟩ fun _ => rfl) hp) fun w H5 e5 rw5 => ?_
      generalize (sz / 2 % ((1 : Int) * 2 ^ (6000 : Int).toNat)) = wh at rw5
      cases rw5
      refine r_setL (l := d) (xs := [.ref c, .int (a1 + 1), .int a2, .int a3, .int a4]) (j := 2) ((e4.trans e5) _ _ hd2) (ed_div (ed_var (r := rI) (x := wh) rfl rfl) (hm _ _ rfl) ⟨by omega, n2⟩) (vd _ _ rfl) (ed_int (n := 2)) (by show 2 < 5; decide) fun v H6 H7 e6 e7 p6 => ?_
      cases p6
      have e47 := ((e4.trans e5).trans e6).trans e7
      have s7 : Sm [d] H (upd H7 d (.lst ([V.ref c, .int (a1 + 1), .int a2, .int a3, .int a4].set 2 (.int (wh / n))))) := (s2.trans (Ex.sm e47)).upd List.mem_cons_self
      have d7 : Dr d c (upd H7 d (.lst ([V.ref c, .int (a1 + 1), .int a2, .int a3, .int a4].set 2 (.int (wh / n))))) := by
        obtain ⟨_, _, cells', hc'⟩ := d2.ex e47
        exact ⟨ne, ⟨a1 + 1, wh / n, a3, a4, upd_same, by omega⟩, cells', by rw [upd_ne ne.symm]; exact hc'⟩
      exact r_ret (ed_mod (ed_int1 (ed_var (r := rI) (x := wh) rfl rfl)) (hm _ _ rfl) (by omega)) fun w H8 e8 p8 => by
        cases p8
        exact fin wh H8 (s7.trans (Ex.sm e8)) (d7.ex e8)
    · intro _ H4 e4
      have hd4 := e4 _ _ hd2
      refine r_setL (l := d) (xs := [.ref c, .int (a1 + 1), .int a2, .int a3, .int a4]) (j := 3) hd4 (ed_mod (ed_int1 (ed_add (ed_add (ed_add (ed_mul (ix _ _ _ 3 a3 rfl hd4 rfl) (ed_int (n := 48271)) (.inr ⟨by decide, by decide⟩)) (ed_mul (ed_mod (ed_int1 (hsz _ _ rfl)) (ed_int (n := 2147483629)) (by decide)) (ed_int (n := 16807)) (.inr ⟨by decide, by decide⟩))) (ed_mul (ix _ _ _ 1 (a1 + 1) rfl hd4 rfl) (ed_int (n := 69621)) (.inr ⟨by decide, by decide⟩))) (ed_int (n := 11)))) (ed_int (n := 2147483647)) (by decide)) (vd _ _ rfl) (ed_int (n := 3)) (by show 3 < 5; decide) fun v H6 H7 e6 e7 p6 => ?_
      generalize ((a3 * 48271 + sz % 2147483629 * 16807 + (a1 + 1) * 69621 + 11) % 2147483647) = wh at p6
      cases p6
      have e47 := (e4.trans e6).trans e7
      have hd7 : (upd H7 d (.lst ([V.ref c, .int (a1 + 1), .int a2, .int a3, .int a4].set 3 (.int wh)))) d = some (.lst [V.ref c, .int (a1 + 1), .int a2, .int wh, .int a4]) := upd_same
      have s7 : Sm [d] H (upd H7 d (.lst ([V.ref c, .int (a1 + 1), .int a2, .int a3, .int a4].set 3 (.int wh)))) := (s2.trans (Ex.sm e47)).upd List.mem_cons_self
      have d7 : Dr d c (upd H7 d (.lst ([V.ref c, .int (a1 + 1), .int a2, .int a3, .int a4].set 3 (.int wh)))) := by
        obtain ⟨_, _, cells', hc'⟩ := d2.ex e47
        exact ⟨ne, ⟨a1 + 1, a2, wh, a4, upd_same, by omega⟩, cells', by rw [upd_ne ne.symm]; exact hc'⟩
      exact r_ret (ed_mod (ed_int1 (ed_div (ix _ _ _ 3 wh rfl hd7 rfl) (ed_int (n := 16)) ⟨by decide, by decide⟩)) (hm _ _ rfl) (by omega)) fun w H8 e8 p8 => by
        cases p8
        exact fin (wh / 16) H8 (s7.trans (Ex.sm e8)) (d7.ex e8)
  refine r_if (et_test' (ed_gt (ix _ _ _ 2 a2 rfl hd rfl) (ed_int (n := 0)))) ?_ ?_
  · intro _ H1 e1
    refine r_asg (ix _ _ _ 2 a2 rfl (e1 _ _ hd) rfl) fun w H2 e2 rw2 => ?_
    cases rw2
    refine r_setL (l := d) (xs := [.ref c, .int a1, .int a2, .int a3, .int a4]) (j := 2) ((e1.trans e2) _ _ hd) (ed_div (ed_var (r := rI) (x := a2) rfl rfl) (hm _ _ rfl) ⟨by omega, n2⟩) (vd _ _ rfl) (ed_int (n := 2)) (by show 2 < 5; decide) fun v H6 H7 e6 e7 p6 => ?_
    cases p6
    have e07 := ((e1.trans e2).trans e6).trans e7
    have s7 : Sm [d] H (upd H7 d (.lst ([V.ref c, .int a1, .int a2, .int a3, .int a4].set 2 (.int (a2 / n))))) := (Ex.sm e07).upd List.mem_cons_self
    have d7 : Dr d c (upd H7 d (.lst ([V.ref c, .int a1, .int a2, .int a3, .int a4].set 2 (.int (a2 / n))))) := ⟨ne, ⟨a1, a2 / n, a3, a4, upd_same, h0⟩, cells, by rw [upd_ne ne.symm]; exact e07 _ _ hc⟩
    exact r_ret (ed_mod (ed_int1 (ed_var (r := rI) (x := a2) rfl rfl)) (hm _ _ rfl) (by omega)) fun w H8 e8 p8 => by
      cases p8
      exact fin a2 H8 (s7.trans (Ex.sm e8)) (d7.ex e8)
  · intro _ H1 e1
    refine r_asg (ed_int (n := 0)) fun w H2 e2 rw2 => ?_
    cases rw2
    have e12 := e1.trans e2
    have hcells : ∀ (l : L2.St) H', l[0]? = some (some (V.ref d)) → Ex H H' → Ed (tOp (rIxL K) (tVar 0) (tC (.int 0))) l H' (rL rI) cells := fun l H' h e =>
      EvP.imp (ed_ixL (r := rV) (xs := [V.ref c, .int a1, .int a2, .int a3, .int a4]) (y := V.ref c) (k := 0) (ed_var h ⟨d, _, rfl, e _ _ hd, rv_refl _⟩) (ed_int (n := 0)) rfl) fun v H1 e' p => ⟨c, cells.map V.int, p, (e.trans e') _ _ hc, int_rs cells⟩
    refine r_if (et_test' (ed_lt (ix _ _ _ 1 a1 rfl (e12 _ _ hd) rfl) (ed_lenL (hcells _ _ rfl e12)))) ?_ ?_
    · intro hlt H3 e3
      have hlt' := of_decide_eq_true hlt
      have e13 := e12.trans e3
      have ha1 : ((a1.toNat : Nat) : Int) = a1 := by omega
      refine r_asg (ed_ixL (r := rI) (xs := cells) (y := at0 cells a1.toNat) (k := a1.toNat) (hcells _ _ rfl e13) (by rw [ha1]; exact ix _ _ _ 1 a1 rfl (e13 _ _ hd) rfl) (at0_get (by omega))) fun w H4 e4 rw4 => ?_
      generalize at0 cells a1.toNat = cl at rw4
      cases rw4
      refine r_asgN (ed_add (ed_mul (ed_int (n := 2)) (ed_abs (ed_var (r := rI) (x := cl) rfl rfl)) (.inl ⟨by decide, by decide⟩)) (ed_int1B (ed_lt (ed_var (r := rI) (x := cl) rfl rfl) (ed_int (n := 0))))) fun w H5 e5 rw5 => ?_
      cases rw5
      exact rest _ (some (.int cl)) H5 ((e13.trans e4).trans e5)
    · intro _ H3 e3
      exact rest 0 none H3 (e12.trans e3)
theorem pure__law_rare (h : sp__law_rare vs H Q E) : t__law_rare K { nx := fun _ H' => Q .non H', rt := Q } (start N__law_rare vs) H := by
  obtain ⟨d, c, n, rfl, n1, n2, hD, k⟩ := h
  refine ⟨_, rfl, _, rfl, d, c, n, rfl, n1, n2, hD, fun v H1 s1 d1 ⟨r, hr, hlt⟩ => ?_⟩
  subst hr
  refine (ed_div (ed_var (r := rI) (x := n) rfl rfl) (ed_int (n := 2)) ⟨by decide, by decide⟩).run fun w H2 e2 p2 => ?_
  cases p2
  exact ⟨rfl, k _ H2 (s1.trans (Ex.sm e2)) (d1.ex e2) ⟨_, rfl⟩⟩
theorem pure__law_pick (h : sp__law_pick vs H Q E) : t__law_pick K { nx := fun _ H' => Q .non H', rt := Q } (start N__law_pick vs) H := by
  obtain ⟨d, c, a, xs, rfl, hne, hx, l0, l1, hD, k⟩ := h
  refine ⟨_, rfl, _, rfl, _, rfl, a, xs, rfl, ?_, d, c, (xs.length : Int), rfl, by omega, by omega, hD, fun v H1 s1 d1 ⟨r, hr, hlt⟩ => ?_⟩
  · rcases hx with h | h
    · exact .inl (SqL.of h)
    · exact .inr (SqT.of h)
  · subst hr
    have hr' : xs[r]? = some (xs[r]'(by omega)) := List.getElem?_eq_getElem _
    have na : a ∉ [d] := fun z => hne (List.mem_singleton.mp z)
    have fin := k (xs[r]'(by omega)) H1 s1 d1 (List.getElem_mem _)
    rcases hx with h | h
    · exact .inl ⟨a, xs, (r : Int), _, rfl, rfl, SqL.of (s1 _ _ na h), atI_nat hr', fin⟩
    · exact .inr (.inl ⟨a, xs, (r : Int), _, rfl, rfl, SqT.of (s1 _ _ na h), atI_nat hr', fin⟩)
theorem pure__law_pop (h : sp__law_pop vs H Q E) : t__law_pop K { nx := fun _ H' => Q .non H', rt := Q } (start N__law_pop vs) H := by
  obtain ⟨d, c, l, xs, rfl, hne, hnc, hx, l0, l1, hD, k⟩ := h
  refine ⟨_, rfl, .inl ⟨rfl, _, SqL.of hx⟩, _, rfl, _, rfl, l, xs, rfl, .inl (SqL.of hx), d, c, (xs.length : Int), rfl, by omega, by omega, hD, fun v H1 s1 d1 ⟨r, hr, hlt⟩ => ?_⟩
  subst hr
  have nl : l ∉ [d] := fun z => hne (List.mem_singleton.mp z)
  have hx1 := s1 _ _ nl hx
  have hr' : xs[r]? = some (xs[r]'(by omega)) := List.getElem?_eq_getElem _
  refine ⟨l, xs, (r : Int), r, _, rfl, rfl, hx1, by omega, by omega, ?_, hr', ?_⟩
  · rw [seqIndex_of (by omega) (by omega)]; rfl
  · exact k r _ _ ((s1.more fun x hx => List.mem_cons.mpr (.inl (List.mem_singleton.mp hx))).upd (by simp)) (d1.other hne hnc) hr' upd_same
end
end M
/-! ## P5 -/
/-! Shuffles, heaps, turned things. -/
namespace M
open PySem L2 Evl PyProof.Rows
theorem rv_eq {H : Hp} : ∀ {vs ys : List V}, Paired (rV H) vs ys → vs = ys
  | _, _, .nil => rfl
  | _, _, .cons h t => by rw [rv_eq t]; cases h; rfl
theorem erase_perm {α : Type} : ∀ {l : List α} {r : Nat} (h : r < l.length), ([l[r]] ++ l.eraseIdx r).Perm l
  | a :: l, 0, _ => List.Perm.refl _
  | a :: l, r + 1, h => by
    have ih := erase_perm (l := l) (r := r) (by simpa using h)
    rw [List.eraseIdx_cons_succ, List.getElem_cons_succ]
    refine List.Perm.trans ?_ (List.Perm.cons a ih)
    exact List.Perm.swap a _ _
/-! ### vectors -/
theorem sum_set : ∀ {x : Vec} {j : Nat} {v : Int}, j < x.length → (x.set j v).sum = x.sum - at0 x j + v
  | [], j, v, h => by simp at h
  | a :: x, 0, v, h => by
    rw [List.set_cons_zero, List.sum_cons, List.sum_cons]
    show v + x.sum = a + x.sum - a + v
    omega
  | a :: x, j + 1, v, h => by
    have ih := sum_set (x := x) (j := j) (v := v) (by simpa using h)
    rw [List.set_cons_succ, List.sum_cons, List.sum_cons, ih]
    show a + (x.sum - at0 x j + v) = a + x.sum - at0 x j + v
    omega
theorem at0_set {x : Vec} {j i : Nat} {v : Int} (hj : j < x.length) : at0 (x.set j v) i = if i = j then v else at0 x i := by
  unfold at0
  rw [List.getD_eq_getElem?_getD, List.getD_eq_getElem?_getD, List.getElem?_set]
  by_cases h : i = j
  · subst h; rw [if_pos rfl, if_pos rfl, if_pos hj]; rfl
  · rw [if_neg (fun z => h z.symm), if_neg h]
/-- m counts of so many members -/
structure Hv (m : Nat) (sz : Int) (x : Vec) : Prop where
  len : x.length = m
  nn : ∀ e ∈ x, 0 ≤ e
  sum : x.sum = sz
theorem at0_nn {x : Vec} (h : ∀ e ∈ x, 0 ≤ e) (j : Nat) : 0 ≤ at0 x j := by
  by_cases hj : j < x.length
  · exact h _ (List.mem_of_getElem? (at0_get hj))
  · unfold at0
    rw [List.getD_eq_getElem?_getD, List.getElem?_eq_none (by omega)]
    exact Int.le_refl _
theorem Hv.add {m : Nat} {sz a : Int} {x : Vec} {j : Nat} (h : Hv m sz x) (hj : j < m) (ha : 0 ≤ at0 x j + a) : Hv m (sz + a) (x.set j (at0 x j + a)) := by
  refine ⟨by rw [List.length_set]; exact h.len, fun e he => ?_, ?_⟩
  · rcases List.mem_or_eq_of_mem_set he with z | z
    · exact h.nn e z
    · rw [z]; exact ha
  · rw [sum_set (by rw [h.len]; exact hj), h.sum]; omega
theorem set_int (x : Vec) (j : Nat) (v : Int) : (x.map V.int).set j (.int v) = (x.set j v).map V.int := by rw [List.map_set]
theorem hv_zero (m : Nat) : Hv m 0 ((List.range m).map fun _ => (0 : Int)) := by
  refine ⟨by simp, fun e he => ?_, ?_⟩
  · obtain ⟨_, _, rfl⟩ := List.mem_map.mp he; exact Int.le_refl _
  · induction m with
    | zero => rfl
    | succ n ih => rw [List.range_succ, List.map_append, List.sum_append, ih]; rfl
theorem get_int {x : Vec} {j : Nat} (h : j < x.length) : (x.map V.int)[j]? = some (.int (at0 x j)) := by
  rw [List.getElem?_map, at0_get h]; rfl
def sp__law_heap : Sp := fun vs H Q _ => ∃ d c, ∃ (m n : Nat), vs = [.ref d, .int m, .int n] ∧ 1 ≤ m ∧ m ≤ 1000 ∧ n ≤ 1000 ∧ Dr d c H ∧ QD d c H Q (fun v H' => ∃ x, rVec H' v x ∧ Hv m n x)
def sp__law_turned : Sp := fun vs H Q _ => ∃ a b, ∃ (us : List V) (ks : List Nat), vs = [.ref a, .ref b] ∧ H a = some (.tup us) ∧ H b = some (.lst (ks.map fun (k : Nat) => V.int (k : Int))) ∧ ks.length ≤ 1000 ∧ (∀ k ∈ ks, k < us.length) ∧
  ∀ w H', Ex H H' → (∃ p, w = .ref p ∧ H' p = some (.tup (ks.map fun k => us.getD k .non))) → Q w H'
def sp__law_listed : Sp := fun vs H Q _ => ∃ (m : Nat) (a : Addr) (ks : List Nat), vs = [.int m, .ref a] ∧ H a = some (.lst (ks.map fun (k : Nat) => V.int (k : Int))) ∧ m ≤ 1000 ∧ ks.length ≤ 1000 ∧ (∀ k ∈ ks, k < m) ∧
  ∀ w H', Ex H H' → (∃ x, rVec H' w x ∧ Hv m ks.length x ∧ ∀ j, at0 x j = ((ks.count j : Nat) : Int)) → Q w H'
/-! _law_heap: slots d 0, many 1, size 2, counts 3, member 4, kind 5 -/
def N__law_heap : List Str := ["d", "many", "size", "counts", "member", "kind"]
def t__law_heap (K : PySem.W.Frag) : TS :=
  (tSeq (tAsg (tLc (iRng1 (tCons (tVar 1) tNil)) (gName 5) tYes (tC (.int 0)) [5]) (gName 3))
  (tSeq (tFor (iRng1 (tCons (tVar 2) tNil)) (gName 4) (tAugS (tVar 3) (tCall sp__law_draw [] E0 (tCons (tVar 0) (tCons (tVar 1) tNil))) (tC (.int 1)) (rIxL K) (ipI fun i j => i + j) rSetL))
  (tRet (tCB (rTupOf K) (tCons (tVar 3) tNil)))))
/-! _law_turned: slots standing 0, order 1, kind 2 -/
def N__law_turned : List Str := ["standing", "order", "kind"]
def t__law_turned (K : PySem.W.Frag) : TS :=
  (tRet (tCB (rTupOf K) (tCons (tLc (iList K (tVar 1)) (gName 2) tYes (tOp (rIxT K) (tVar 0) (tVar 2)) [2]) tNil)))
/-! _law_listed: slots many 0, places 1, kind 2, counts 3 -/
def N__law_listed : List Str := ["many", "places", "kind", "counts"]
def t__law_listed (K : PySem.W.Frag) : TS :=
  (tSeq (tAsg (tLc (iRng1 (tCons (tVar 0) tNil)) (gName 2) tYes (tC (.int 0)) [2]) (gName 3))
  (tSeq (tFor (iList K (tVar 1)) (gName 2) (tAugS (tVar 3) (tVar 2) (tC (.int 1)) (rIxL K) (ipI fun i j => i + j) rSetL))
  (tRet (tCB (rTupOf K) (tCons (tVar 3) tNil)))))
def poolStrs (z : Nat → Str) : List Str := Txt.split (z 0 ++ z 1 ++ z 2) " "
def PoolOk (z : Nat → Str) : Prop := (z 0).length + (z 1).length + (z 2).length ≤ 1000 ∧ 40 ≤ (poolStrs z).length ∧ (poolStrs z).length ≤ 1000
def spPool : Sp := fun vs H Q _ => vs = [] ∧ ∀ p H' (ss : List Str), H p = none → Ex H H' → H' p = some (.lst (ss.map V.str)) → 40 ≤ ss.length → ss.length ≤ 1000 → Q (.ref p) H'
abbrev sp__law_pool : Sp := spPool
/-! _law_pool: slots text 0 -/
def N__law_pool : List Str := ["text"]
def t__law_pool (K : PySem.W.Frag) (z : Nat → Str) : TS :=
  (tSeq (tAsg (tC (.str (z 0))) (gName 0))
  (tSeq (tAsg (tOp oCatS (tVar 0) (tC (.str (z 1)))) (gName 0))
  (tRet (tM1 rSplit (tOp oCatS (tVar 0) (tC (.str (z 2)))) (tC (.str " "))))))
section
variable {K : PySem.W.Frag} {vs : List V} {H : Hp} {Q : VK} {E : XK} {σ : L2.St} {ta tb tc te : TE} {tz : TS} {D : Ends}
theorem str_len_app (a b : Str) : (a ++ b).length = a.length + b.length := Str.length_append a b
theorem pure__law_pool {z : Nat → Str} (hz : PoolOk z) (h : sp__law_pool vs H Q E) : t__law_pool K z { nx := fun _ H' => Q .non H', rt := Q } (start N__law_pool vs) H := by
  obtain ⟨rfl, k⟩ := h
  obtain ⟨h1, h2, h3⟩ := hz
  have s1 : ∀ n, n ≤ 1000 → n + 2 ≤ sizeLine := fun n h => Nat.le_trans (Nat.add_le_add_right h 2) (by decide)
  have s2 : ∀ n, n ≤ 1000 → n ≤ sizeLine := fun n h => Nat.le_trans h (by decide)
  have l1 : (z 0 ++ z 1).length = (z 0).length + (z 1).length := str_len_app _ _
  have l2 : (z 0 ++ z 1 ++ z 2).length = (z 0).length + (z 1).length + (z 2).length := by rw [str_len_app, l1]
  refine ⟨_, rfl, _, _, rfl, rfl, s2 _ (by omega), ?_⟩
  refine ⟨_, rfl, _, _, rfl, rfl, s2 _ (by omega), ⟨_, rfl⟩, _, _, rfl, rfl, by decide +kernel, s1 _ (by omega), fun p hp => ?_⟩
  exact k p _ (poolStrs z) hp (Ex.new hp) upd_same h2 h3
theorem pure__law_shuffled (h : sp__law_shuffled vs H Q E) : t__law_shuffled K { nx := fun _ H' => Q .non H', rt := Q } (start N__law_shuffled vs) H := by
  obtain ⟨d, c, a, xs, rfl, ha, hl, hD, k⟩ := h
  refine r_asg (el_listL (r := rV) (xs := xs) (ed_var rfl ⟨a, xs, rfl, ha, rv_refl xs⟩)) fun v H1 e1 ⟨p, ls, hv, np, hp, pr⟩ => ?_
  subst hv
  obtain rfl : ls = xs := rv_eq pr
  refine r_asg (el_lst (r := rV) (xs := []) es_nil (Nat.zero_le _)) fun v H2 e2 ⟨b, us, hv, nb, hb, pr⟩ => ?_
  subst hv
  obtain rfl : us = [] := rv_eq pr
  have hp2 := e2 _ _ hp
  have npb : p ≠ b := ne_of_none hp nb
  have nb0 : H b = none := fresh_back e1 nb
  obtain ⟨pd, pc⟩ := hD.ned np
  obtain ⟨bd, bc⟩ := hD.ned nb0
  refine r_forN (n := ls.length) (ed_lenL (r := rV) (xs := ls) (ed_var rfl ⟨p, ls, rfl, hp2, rv_refl ls⟩)) (by omega)
    (fun i σ H' => Sm [d] H H' ∧ Dr d c H' ∧ ∃ kv l1 l2, σ = [some (.ref d), some (.ref a), some (.ref p), some (.ref b), kv] ∧ H' p = some (.lst l1) ∧ H' b = some (.lst l2) ∧ l1.length + i = ls.length ∧ (l2 ++ l1).Perm ls)
    (fun H3 e3 => ⟨Ex.sm ((e1.trans e2).trans e3), hD.ex ((e1.trans e2).trans e3), none, ls, [], rfl, e3 _ _ hp2, e3 _ _ hb, rfl, List.Perm.refl _⟩) ?_ ?_
  · rintro i σ H3 hi ⟨s3, d3, kv, l1, l2, rfl, hp3, hb3, hlen, hperm⟩
    have hz2 : l2.length ≤ ls.length := by
      have := hperm.length_eq
      rw [List.length_append] at this
      omega
    refine ⟨_, rfl, .inl ⟨rfl, _, SqL.of hb3⟩, _, rfl, .inl ⟨rfl, _, SqL.of hp3⟩, _, rfl, _, rfl, p, l1, rfl, .inl (SqL.of hp3), d, c, (l1.length : Int), rfl, by omega, by omega, d3, fun v H4 s4 d4 ⟨r, hr, hlt⟩ => ?_⟩
    subst hr
    have hp4 := s4 _ _ (by simp [pd]) hp3
    have hb4 := s4 _ _ (by simp [bd]) hb3
    have hr' : l1[r]? = some (l1[r]'(by omega)) := List.getElem?_eq_getElem _
    refine ⟨p, l1, (r : Int), r, _, rfl, rfl, hp4, by omega, by omega, by rw [seqIndex_of (by omega) (by omega)]; rfl, hr', ?_⟩
    refine ⟨b, l2, _, rfl, rfl, by rw [upd_ne npb.symm]; exact hb4, sz_lt (by omega), ?_⟩
    refine ⟨((s3.trans s4).new np).new nb0, (d4.other pd pc).other bd bc, _, l1.eraseIdx r, l2 ++ [l1[r]'(by omega)], rfl, by rw [upd_ne npb]; exact upd_same, upd_same, ?_, ?_⟩
    · rw [List.length_eraseIdx, if_pos (by omega)]; omega
    · refine List.Perm.trans ?_ hperm
      rw [List.append_assoc]
      refine List.Perm.append_left l2 ?_
      exact erase_perm (by omega)
  · rintro σ H3 ⟨s3, d3, kv, l1, l2, rfl, hp3, hb3, hlen, hperm⟩
    have h0 : l1 = [] := List.eq_nil_of_length_eq_zero (by omega)
    rw [h0, List.append_nil] at hperm
    exact ⟨_, rfl, k _ H3 s3 d3 ⟨b, l2, rfl, nb0, hb3, hperm⟩⟩
theorem pure__law_heap (h : sp__law_heap vs H Q E) : t__law_heap K { nx := fun _ H' => Q .non H', rt := Q } (start N__law_heap vs) H := by
  obtain ⟨d, c, m, n, rfl, m1, m2, n2, hD, k⟩ := h
  refine r_asg (el_mapR (r := rI) (n := m) (fun _ => 0) (ed_var rfl rfl) (by omega) (fun _ => rfl) fun i H1 e hi => ed_int (n := 0)) fun v H1 e1 ⟨l, us, hv, nl, hl, pr⟩ => ?_
  subst hv
  have hus := rs_int pr
  subst hus
  obtain ⟨ld, lc⟩ := hD.ned nl
  refine r_forN (n := n) (ed_var rfl rfl) (by omega) (fun i σ H' => Sm [d] H H' ∧ Dr d c H' ∧ ∃ mv kv x, σ = [some (.ref d), some (.int m), some (.int n), some (.ref l), mv, kv] ∧ H' l = some (.lst (x.map V.int)) ∧ Hv m i x)
    (fun H2 e2 => ⟨Ex.sm (e1.trans e2), hD.ex (e1.trans e2), none, none, _, rfl, e2 _ _ hl, hv_zero m⟩) ?_ ?_
  · rintro i σ H2 hi ⟨s2, d2, mv, kv, x, rfl, hl2, hx⟩
    refine ⟨_, rfl, _, rfl, _, rfl, d, c, (m : Int), rfl, by omega, by omega, d2, fun v H3 s3 d3 ⟨r, hr, hlt⟩ => ?_⟩
    subst hr
    have hl3 := s3 _ _ (by simp [ld]) hl2
    have hr : r < x.length := by rw [hx.len]; omega
    refine ⟨l, _, (r : Int), _, rfl, rfl, SqL.of hl3, atI_nat (get_int hr), at0 x r, 1, rfl, rfl, l, _, (r : Int), r, rfl, rfl, hl3, ixN_nat (by rw [List.length_map]; exact hr), ?_⟩
    refine ⟨(s2.trans s3).new nl, d3.other ld lc, some (.int i), kv, x.set r (at0 x r + 1), rfl, by rw [upd_same, set_int], ?_⟩
    have := hx.add (j := r) (a := 1) (by omega) (by have := at0_nn hx.nn r; omega)
    exact this
  · rintro σ H2 ⟨s2, d2, mv, kv, x, rfl, hl2, hx⟩
    exact r_ret (ed_tupL (r := rI) (xs := x) (ed_var rfl ⟨l, _, rfl, hl2, int_rs x⟩)) fun w H3 e3 p3 => k w H3 (s2.trans (Ex.sm e3)) (d2.ex e3) ⟨x, p3, hx⟩
theorem pure__law_turned (h : sp__law_turned vs H Q E) : t__law_turned K { nx := fun _ H' => Q .non H', rt := Q } (start N__law_turned vs) H := by
  obtain ⟨a, b, us, ks, rfl, ha, hb, hz, hk, k⟩ := h
  refine r_ret (ed_tupL (El.ed (el_mapL (r := rV) (s := rN) (xs := ks) (fun k => us.getD k .non) (ed_var rfl ⟨b, _, rfl, hb, nat_rs ks⟩) (by omega) (fun _ => rfl) ?_))) fun w H1 e1 ⟨p, ws, hw, hp, pr⟩ => k w H1 e1 ⟨p, hw, by rw [hp, rv_eq pr]⟩
  intro i x v H1 e1 hi hv
  have hx := hk x (List.mem_of_getElem? hi)
  refine ed_ixT (r := rV) (xs := us) (k := x) (ed_var rfl ⟨a, us, rfl, e1 _ _ ha, rv_refl us⟩) (ed_var (r := rI) rfl hv) ?_
  rw [List.getD_eq_getElem?_getD, List.getElem?_eq_getElem hx]
  rfl
theorem pure__law_listed (h : sp__law_listed vs H Q E) : t__law_listed K { nx := fun _ H' => Q .non H', rt := Q } (start N__law_listed vs) H := by
  obtain ⟨m, a, ks, rfl, ha, hm, hz, hk, k⟩ := h
  refine r_asg (el_mapR (r := rI) (n := m) (fun _ => 0) (ed_var rfl rfl) (by omega) (fun _ => rfl) fun i H1 e hi => ed_int (n := 0)) fun v H1 e1 ⟨l, us, hv, nl, hl, pr⟩ => ?_
  subst hv
  have hus := rs_int pr
  subst hus
  have nal : a ≠ l := ne_of_none ha nl
  refine r_forLa (a := a) (us := ks.map fun (k : Nat) => V.int (k : Int)) (ev_v rfl) (e1 _ _ ha) (fun i σ H' => Ex H H' ∧ ∃ kv x, σ = [some (.int m), some (.ref a), kv, some (.ref l)] ∧ H' l = some (.lst (x.map V.int)) ∧ Hv m i x ∧ ∀ j, at0 x j = (((ks.take i).count j : Nat) : Int))
    (fun H2 e2 => ⟨e1.trans e2, none, _, rfl, e2 _ _ hl, hv_zero m, fun j => ?_⟩) (fun i σ H' p => p.1 _ _ ha) ?_ ?_
  · rw [List.take_zero, List.count_nil]
    unfold at0
    rw [List.getD_eq_getElem?_getD, List.getElem?_map]
    cases (List.range m)[j]? <;> rfl
  · rintro i v σ H2 hi ⟨e2, kv, x, rfl, hl2, hx, hcnt⟩
    rw [List.getElem?_map] at hi
    obtain ⟨y, hy, hv⟩ : ∃ y, ks[i]? = some y ∧ v = .int (y : Int) := by
      cases hk : ks[i]? with
      | none => rw [hk] at hi; cases hi
      | some y => rw [hk] at hi; exact ⟨y, rfl, (Option.some.inj hi).symm⟩
    subst hv
    have hym := hk y (List.mem_of_getElem? hy)
    have hr : y < x.length := by rw [hx.len]; omega
    refine ⟨_, rfl, _, rfl, l, _, (y : Int), _, rfl, rfl, SqL.of hl2, atI_nat (get_int hr), at0 x y, 1, rfl, rfl, l, _, (y : Int), y, rfl, rfl, hl2, ixN_nat (by rw [List.length_map]; exact hr), ?_⟩
    refine ⟨Ex.mut e2 nl, some (.int y), x.set y (at0 x y + 1), rfl, by rw [upd_same, set_int], ?_, fun j => ?_⟩
    · have := hx.add (j := y) (a := 1) (by omega) (by have := at0_nn hx.nn y; omega)
      exact this
    · rw [at0_set hr, List.take_add_one, hy, List.count_append, hcnt y, hcnt j]
      by_cases hj : j = y
      · subst hj; rw [if_pos rfl]; simp
      · rw [if_neg hj]
        have : List.count j (some y).toList = 0 := by
          show List.count j [y] = 0
          rw [List.count_cons_of_ne (fun z => hj z.symm)]
          rfl
        rw [this]; rfl
  · rintro σ H2 ⟨e2, kv, x, rfl, hl2, hx, hcnt⟩
    rw [List.length_map] at hx hcnt
    rw [List.take_length] at hcnt
    exact r_ret (ed_tupL (r := rI) (xs := x) (ed_var rfl ⟨l, _, rfl, hl2, int_rs x⟩)) fun w H3 e3 p3 => k w H3 (e2.trans e3) ⟨x, p3, hx, hcnt⟩
end
end M
/-! ## P6 -/
/-! Drawn deeds, rules, tasks. -/
namespace M
open PySem L2 Evl PyProof.Rows
def WfD (m : Nat) (dd : Deed) : Prop := ∃ sz : Int, 1 ≤ sz ∧ sz ≤ 3 ∧ Hv m sz dd.2.1 ∧ Hv m sz dd.2.2
structure WfR (m : Nat) (R : Rule) : Prop where
  kinds : R.1.length = m
  few : R.2.length ≤ 8
  deeds : ∀ dd ∈ R.2, WfD m dd
structure WfT (m : Nat) (t : Task) : Prop where
  rule : WfR m t.1
  start : ∃ sz : Int, 1 ≤ sz ∧ sz ≤ 6 ∧ Hv m sz t.2.1
  goal : ∃ sz : Int, 1 ≤ sz ∧ sz ≤ 6 ∧ Hv m sz t.2.2
/-- a list of at least q names -/
def NL (l : Addr) (H : Hp) (q : Nat) : Prop := ∃ ws : List Str, H l = some (.lst (ws.map V.str)) ∧ q ≤ ws.length ∧ ws.length ≤ 1000
theorem NL.lst {l : Addr} {H : Hp} {q : Nat} (h : NL l H q) : IsLst H l := let ⟨_, h1, _⟩ := h; ⟨_, h1⟩
theorem NL.ex {l : Addr} {H H' : Hp} {q : Nat} (h : NL l H q) (e : Ex H H') : NL l H' q := let ⟨ws, h1, h2⟩ := h; ⟨ws, e _ _ h1, h2⟩
theorem NL.less {l : Addr} {H : Hp} {q q' : Nat} (h : NL l H q) (e : q' ≤ q) : NL l H q' := let ⟨ws, h1, h2, h3⟩ := h; ⟨ws, h1, Nat.le_trans e h2, h3⟩
theorem erase_map {α β : Type} (f : α → β) : ∀ (l : List α) (k : Nat), (l.map f).eraseIdx k = (l.eraseIdx k).map f
  | [], _ => rfl
  | _ :: _, 0 => rfl
  | a :: l, k + 1 => by rw [List.map_cons, List.eraseIdx_cons_succ, List.eraseIdx_cons_succ, List.map_cons, erase_map f l k]
theorem pop_str {d c l : Addr} {H : Hp} {q : Nat} {Q : VK} {E : XK} (hd : l ≠ d) (hc : l ≠ c) (hD : Dr d c H) (hN : NL l H (q + 1)) (k : ∀ (s : Str) H', Sm [d, l] H H' → Dr d c H' → NL l H' q → Q (.str s) H') : sp__law_pop [.ref d, .ref l] H Q E := by
  obtain ⟨ws, h1, h2, h3⟩ := hN
  refine ⟨d, c, l, _, rfl, hd, hc, h1, by rw [List.length_map]; omega, by rw [List.length_map]; omega, hD, fun i v H' s' d' hv he => ?_⟩
  rw [List.getElem?_map] at hv
  cases hw : ws[i]? with
  | none => rw [hw] at hv; cases hv
  | some s =>
    rw [hw] at hv
    cases hv
    have hi := (List.getElem?_eq_some_iff.mp hw).1
    refine k s H' s' d' ⟨ws.eraseIdx i, by rw [he, erase_map], ?_, ?_⟩
    · rw [List.length_eraseIdx, if_pos hi]; omega
    · rw [List.length_eraseIdx, if_pos hi]; omega
theorem wp_ne {σ : L2.St} {i j : Nat} {v : V} (h : i ≠ j) : (wp' σ j v [j])[i]? = σ[i]? := by
  show ((σ.set j none).set j (some v))[i]? = σ[i]?
  rw [List.getElem?_set_ne (Ne.symm h), List.getElem?_set_ne (Ne.symm h)]
theorem wp_wipe {σ : L2.St} {j : Nat} {v : V} : wipe (wp' σ j v [j]) [j] = wipe σ [j] := by
  show (((σ.set j none).set j (some v)).set j none) = σ.set j none
  rw [List.set_set, List.set_set]
section
variable {K : PySem.W.Frag} {σ : L2.St} {H : Hp} {ta tb tl te : TE} {Q : VK}
/-- [_law_pop(d, names) for j in range(n)] -/
theorem lc_pops {d c l : Addr} {id il j n q : Nat} (hid : σ[id]? = some (some (.ref d))) (hil : σ[il]? = some (some (.ref l))) (nd : id ≠ j) (nl : il ≠ j) (hl : Ed tl σ H rI (n : Int)) (hn : n ≤ 100) (ne : l ≠ d) (nc : l ≠ c) (hD : Dr d c H) (hN : NL l H (n + q))
    (k : ∀ D H' (ss : List Str), Sm [d, l] H H' → Dr d c H' → NL l H' q → H D = none → H' D = some (.lst (ss.map V.str)) → ss.length = n → Q (.ref D) H') :
    tLc (iRng1 (tCons tl tNil)) (gName j) tYes (tCall sp__law_pop [] E0 (tCons (tVar id) (tCons (tVar il) tNil))) [j] σ H Q :=
  hl.run fun v H1 e1 ev => ⟨(n : Int), by rw [ev], by omega, by omega, fun D hD0 => lc_range (lo := 0) (n := (n : Int).toNat)
    (fun i H' => Sm [d, l] H H' ∧ Dr d c H' ∧ NL l H' (n - i + q) ∧ ∃ ss : List Str, H' D = some (.lst (ss.map V.str)) ∧ ss.length = i)
    ⟨Ex.sm (e1.trans (Ex.new hD0)), hD.ex (e1.trans (Ex.new hD0)), (hN.ex (e1.trans (Ex.new hD0))).less (by omega), [], upd_same, rfl⟩
    (fun i H' hi ⟨s1, d1, n1, ss, hs, hlen⟩ => ⟨wp_wipe, by
      have hi' : i < n := by omega
      unfold tYes
      refine iteT ?_
      refine ⟨_, (wp_ne nd).trans hid, _, (wp_ne nl).trans hil, pop_str (E := E0) (q := n - (i + 1) + q) ne nc d1 (n1.less (by omega)) fun s H2 s2 d2 n2 => ?_⟩
      have hD1 : D ≠ d ∧ D ≠ c := (hD.ex e1).ned hD0
      have hDl : D ≠ l := by
        obtain ⟨xs, h⟩ := hN.lst
        exact (ne_of_none (e1 _ _ h) hD0).symm
      have hs2 := s2 _ _ (by simp [hD1.1, hDl]) hs
      refine ⟨_, hs2, sz_lt (by rw [List.length_map]; omega), (s1.trans s2).new (fresh_back e1 hD0), d2.other hD1.1 hD1.2, ?_, ss ++ [s], by rw [upd_same, List.map_append]; rfl, by rw [List.length_append, hlen]; rfl⟩
      obtain ⟨ws, w1, w2⟩ := n2
      exact ⟨ws, by rw [upd_ne hDl.symm]; exact w1, w2⟩⟩)
    (fun H' ⟨s1, d1, n1, ss, hs, hlen⟩ => k D H' ss s1 d1 (n1.less (by omega)) (fresh_back e1 hD0) hs (by omega))⟩
end
def sp__law_deed : Sp := fun vs H Q _ => ∃ d c, ∃ (z : Str) (m : Nat), vs = [.ref d, .str z, .int m] ∧ 1 ≤ m ∧ m ≤ 100 ∧ Dr d c H ∧ QD d c H Q (fun v H' => ∃ dd, rDeed H' v dd ∧ WfD m dd)
def sp__law_rule : Sp := fun vs H Q _ => ∃ d c, ∃ (m n : Nat), vs = [.ref d, .int m, .int n] ∧ 1 ≤ m ∧ m ≤ 6 ∧ n ≤ 8 ∧ Dr d c H ∧ QD d c H Q (fun v H' => ∃ R, rRule H' v R ∧ WfR m R)
/-! _law_deed: slots d 0, name 1, many 2, size 3, way 4, takes 5, gives 6, kind 7, other 8, at 9 -/
def N__law_deed : List Str := ["d", "name", "many", "size", "way", "takes", "gives", "kind", "other", "at"]
def t__law_deed (K : PySem.W.Frag) : TS :=
  (tSeq (tAsg (tC (.int 2)) (gName 3))
  (tSeq (tAsg (tCall sp__law_draw [] E0 (tCons (tVar 0) (tCons (tC (.int 8)) tNil))) (gName 4))
  (tSeq (tIfS (tTest (tOp rEq (tVar 4) (tC (.int 3)))) (tAsg (tC (.int 1)) (gName 3)) tNext)
  (tSeq (tIfS (tTest (tOp rEq (tVar 4) (tC (.int 5)))) (tAsg (tC (.int 3)) (gName 3)) tNext)
  (tSeq (tAsg (tCall sp__law_heap [] E0 (tCons (tVar 0) (tCons (tVar 2) (tCons (tVar 3) tNil)))) (gName 5))
  (tSeq (tAsg (tCall sp__law_heap [] E0 (tCons (tVar 0) (tCons (tVar 2) (tCons (tVar 3) tNil)))) (gName 6))
  (tSeq (tIfS (tTest (tOp rEq (tCall sp__law_draw [] E0 (tCons (tVar 0) (tCons (tC (.int 4)) tNil))) (tC (.int 1)))) (tSeq (tAsg (tOp (rIxL K) (tLc (iRng1 (tCons (tVar 2) tNil)) (gName 9) (tTest (tOp oGt (tOp (rIxT K) (tVar 5) (tVar 9)) (tC (.int 0)))) (tVar 9) [9]) (tC (.int 0))) (gName 7))
  (tSeq (tAsg (tCB (rListS K) (tCons (tVar 5) tNil)) (gName 8))
  (tSeq (tAugS (tVar 8) (tVar 7) (tC (.int 1)) (rIxL K) (ipI fun i j => i - j) rSetL)
  (tSeq (tAugS (tVar 8) (tCall sp__law_draw [] E0 (tCons (tVar 0) (tCons (tVar 2) tNil))) (tC (.int 1)) (rIxL K) (ipI fun i j => i + j) rSetL)
  (tAsg (tCB (rTupOf K) (tCons (tVar 8) tNil)) (gName 6)))))) tNext)
  (tRet (tTup (tCons (tVar 1) (tCons (tVar 5) (tCons (tVar 6) tNil))))))))))))
/-! _law_rule: slots d 0, many 1, deeds 2, names 3, kinds 4, rows 5, t 6, kind 7 -/
def N__law_rule : List Str := ["d", "many", "deeds", "names", "kinds", "rows", "t", "kind"]
def t__law_rule (K : PySem.W.Frag) : TS :=
  (tSeq (tAsg (tCall sp__law_pool [] E0 tNil) (gName 3))
  (tSeq (tAsg (tCB (rTupOf K) (tCons (tLc (iRng1 (tCons (tVar 1) tNil)) (gName 7) tYes (tCall sp__law_pop [] E0 (tCons (tVar 0) (tCons (tVar 3) tNil))) [7]) tNil)) (gName 4))
  (tSeq (tIfS (tTest (tOp rEq (tCall sp__law_draw [] E0 (tCons (tVar 0) (tCons (tC (.int 3)) tNil))) (tC (.int 1)))) (tAsg (tCall sp__law_pool [] E0 tNil) (gName 3)) tNext)
  (tSeq (tAsg (tLc (iRng1 (tCons (tVar 2) tNil)) (gName 6) tYes (tCall sp__law_deed [] E0 (tCons (tVar 0) (tCons (tCall sp__law_pop [] E0 (tCons (tVar 0) (tCons (tVar 3) tNil))) (tCons (tVar 1) tNil)))) [6]) (gName 5))
  (tRet (tTup (tCons (tVar 4) (tCons (tCB (rTupOf K) (tCons (tVar 5) tNil)) tNil))))))))
section
variable {K : PySem.W.Frag} {vs : List V} {H : Hp} {Q : VK} {E : XK}
theorem Hv.pos {m : Nat} {sz : Int} {x : Vec} (h : Hv m sz x) (hs : 1 ≤ sz) : ∃ j, j < m ∧ 0 < at0 x j := by
  have key : ∀ (y : Vec), (∀ e ∈ y, 0 ≤ e) → 1 ≤ y.sum → ∃ j, j < y.length ∧ 0 < at0 y j := by
    intro y
    induction y with
    | nil => intro _ h; simp at h
    | cons a y ih =>
      intro hn hs
      by_cases ha : 0 < a
      · exact ⟨0, by simp, ha⟩
      · have h0 : a = 0 := by have := hn a List.mem_cons_self; omega
        rw [List.sum_cons, h0] at hs
        obtain ⟨j, h1, h2⟩ := ih (fun e he => hn e (List.mem_cons_of_mem _ he)) (by omega)
        exact ⟨j + 1, by simp; exact h1, h2⟩
  obtain ⟨j, h1, h2⟩ := key x h.nn (by rw [h.sum]; exact hs)
  exact ⟨j, by rw [← h.len]; exact h1, h2⟩
theorem pure__law_deed (h : sp__law_deed vs H Q E) : t__law_deed K { nx := fun _ H' => Q .non H', rt := Q } (start N__law_deed vs) H := by
  obtain ⟨d, c, z, m, rfl, m1, m2, hD, k⟩ := h
  refine r_asg (ed_int (n := 2)) fun v H1 e1 p1 => ?_
  cases p1
  refine ⟨_, rfl, d, c, 8, rfl, by decide, by decide, hD.ex e1, fun v H2 s2 d2 ⟨r, hr, hlt⟩ => ?_⟩
  subst hr
  -- the size
  have rest : ∀ (n : Nat) H3, 1 ≤ n → n ≤ 3 → Sm [d] H H3 → Dr d c H3 → (tSeq (tAsg (tCall sp__law_heap [] E0 (tCons (tVar 0) (tCons (tVar 2) (tCons (tVar 3) tNil)))) (gName 5))
      (tSeq (tAsg (tCall sp__law_heap [] E0 (tCons (tVar 0) (tCons (tVar 2) (tCons (tVar 3) tNil)))) (gName 6))
      (tSeq (tIfS (tTest (tOp rEq (tCall sp__law_draw [] E0 (tCons (tVar 0) (tCons (tC (.int 4)) tNil))) (tC (.int 1)))) (tSeq (tAsg (tOp (rIxL K) (tLc (iRng1 (tCons (tVar 2) tNil)) (gName 9) (tTest (tOp oGt (tOp (rIxT K) (tVar 5) (tVar 9)) (tC (.int 0)))) (tVar 9) [9]) (tC (.int 0))) (gName 7))
      (tSeq (tAsg (tCB (rListS K) (tCons (tVar 5) tNil)) (gName 8))
      (tSeq (tAugS (tVar 8) (tVar 7) (tC (.int 1)) (rIxL K) (ipI fun i j => i - j) rSetL)
      (tSeq (tAugS (tVar 8) (tCall sp__law_draw [] E0 (tCons (tVar 0) (tCons (tVar 2) tNil))) (tC (.int 1)) (rIxL K) (ipI fun i j => i + j) rSetL)
      (tAsg (tCB (rTupOf K) (tCons (tVar 8) tNil)) (gName 6)))))) tNext)
      (tRet (tTup (tCons (tVar 1) (tCons (tVar 5) (tCons (tVar 6) tNil)))))))) { nx := fun _ H' => Q .non H', rt := Q } [some (.ref d), some (.str z), some (.int m), some (.int n), some (.int r), none, none, none, none, none] H3 := by
    intro n H3 n1 n3 s3 d3
    refine ⟨_, rfl, _, rfl, _, rfl, d, c, m, n, rfl, m1, by omega, by omega, d3, fun v4 H4 s4 d4 ⟨x, hx, hvx⟩ => ?_⟩
    refine ⟨_, rfl, _, rfl, _, rfl, d, c, m, n, rfl, m1, by omega, by omega, d4, fun v5 H5 s5 d5 ⟨y, hy, hvy⟩ => ?_⟩
    have hx5 : rVec H5 v4 x := Mon.mon (d4.tp s5) hx
    have s05 := (s3.trans s4).trans s5
    refine ⟨_, rfl, d, c, 4, rfl, by decide, by decide, d5, fun v6 H6 s6 d6 ⟨r6, hr6, hlt6⟩ => ?_⟩
    subst hr6
    have hx6 : rVec H6 v4 x := Mon.mon (d5.tp s6) hx5
    have hy6 : rVec H6 v5 y := Mon.mon (d5.tp s6) hy
    have s06 := s05.trans s6
    have hfin : ∀ (σ : L2.St) y' w H7, Sm [d] H H7 → Dr d c H7 → rVec H7 v4 x → rVec H7 w y' → Hv m n y' → σ[1]? = some (some (.str z)) → σ[5]? = some (some v4) → σ[6]? = some (some w) →
        tRet (tTup (tCons (tVar 1) (tCons (tVar 5) (tCons (tVar 6) tNil)))) { nx := fun _ H' => Q .non H', rt := Q } σ H7 := by
      intro σ y' w H7 s7 d7 hx7 hy7 hv7 h1 h5 h6
      exact r_ret (ed_trip (r := rS) (s := rVec) (c := rVec) (x := z) (y := x) (z := y') (ed_var h1 rfl) (ed_var h5 hx7) (ed_var h6 hy7)) fun w' H8 e8 p8 => k w' H8 (s7.trans (Ex.sm e8)) (d7.ex e8) ⟨_, p8, n, by omega, by omega, hvx, hv7⟩
    refine ⟨rfl, ?_⟩
    refine ⟨_, rfl, ?_⟩
    refine ite2 (fun _ => ?_) (fun _ => ?_)
    · -- one member goes elsewhere
      obtain ⟨j0, hj0, hj1⟩ := hvx.pos (by omega)
      have hne : ((List.range m).filter fun i => decide (0 < at0 x i)) ≠ [] := by
        intro h0
        have : j0 ∈ ((List.range m).filter fun i => decide (0 < at0 x i)) := List.mem_filter.mpr ⟨List.mem_range.mpr hj0, decide_eq_true hj1⟩
        rw [h0] at this; cases this
      obtain ⟨j, js, hjs⟩ : ∃ j js, ((List.range m).filter fun i => decide (0 < at0 x i)) = j :: js := List.exists_cons_of_ne_nil hne
      have hjm : j < m ∧ 0 < at0 x j := by
        have : j ∈ ((List.range m).filter fun i => decide (0 < at0 x i)) := by rw [hjs]; exact List.mem_cons_self
        obtain ⟨a, b⟩ := List.mem_filter.mp this
        exact ⟨List.mem_range.mp a, of_decide_eq_true b⟩
      refine r_asg (ed_ixL (r := rN) (xs := j :: js) (y := j) (k := 0) (El.ed (El.to (el_lcR (r := rN) (n := m) (fun i => decide (0 < at0 x i)) (fun i => i) (ed_var rfl rfl) (by omega) (fun _ => rfl) (fun i H7 e7 hi => et_test' (ed_gt (ed_ixT (r := rI) (xs := x) (k := i) (ed_var rfl (mon e7 hx6)) (ed_var (r := rI) rfl rfl) (at0_get (by rw [hvx.len]; exact hi))) (ed_int (n := 0)))) (fun i H7 e7 hi _ => ed_var rfl rfl)) (by rw [List.map_id', hjs]))) (ed_int (n := 0)) rfl) fun w H7 e7 p7 => ?_
      cases p7
      refine r_asg (el_listT (r := rI) (xs := x) (ed_var rfl (mon e7 hx6))) fun w H8 e8 ⟨p, us, hw, np, hp, pr⟩ => ?_
      subst hw
      have hus := rs_int pr
      subst hus
      have e68 := e7.trans e8
      refine r_augS (l := p) (xs := x.map V.int) (j := j) (a := at0 x j) (b := 1) hp (ev_v rfl) (ed_var (r := rI) rfl rfl) (get_int (by rw [hvx.len]; exact hjm.1)) (ed_int (n := 1)) fun H9 e9 => ?_
      have np6 : H6 p = none := fresh_back e7 np
      obtain ⟨pd, pc⟩ := d6.ned np6
      have hx1 : Hv m (n - 1) (x.set j (at0 x j - 1)) := by
        have := hvx.add (j := j) (a := -1) hjm.1 (by omega)
        exact this
      rw [set_int]
      have s9 : Sm [d] H6 (upd H9 p (.lst ((x.set j (at0 x j - 1)).map V.int))) := (Ex.sm (e68.trans e9)).new np6
      have d9 := (d6.ex (e68.trans e9)).other (o := .lst ((x.set j (at0 x j - 1)).map V.int)) pd pc
      refine ⟨_, rfl, _, rfl, _, rfl, d, c, (m : Int), rfl, by omega, by omega, d9, fun v H10 s10 d10 ⟨q, hq, hqlt⟩ => ?_⟩
      subst hq
      have hp10 := s10 p _ (by simp [pd]) upd_same
      have hql : q < (x.set j (at0 x j - 1)).length := by rw [hx1.len]; omega
      refine ⟨p, _, (q : Int), _, rfl, rfl, SqL.of hp10, atI_nat (get_int hql), at0 (x.set j (at0 x j - 1)) q, 1, rfl, rfl, p, _, (q : Int), q, rfl, rfl, hp10, ixN_nat (by rw [List.length_map]; exact hql), ?_⟩
      rw [set_int]
      have hx2 : Hv m n ((x.set j (at0 x j - 1)).set q (at0 (x.set j (at0 x j - 1)) q + 1)) := by
        have := hx1.add (j := q) (a := 1) (by omega) (by have := at0_nn hx1.nn q; omega)
        have e : (n : Int) - 1 + 1 = n := by omega
        rw [e] at this
        exact this
      have s610 : Sm [d] H6 H10 := s9.trans s10
      have s611 := s610.new (o := .lst (((x.set j (at0 x j - 1)).set q (at0 (x.set j (at0 x j - 1)) q + 1)).map V.int)) np6
      have d11 := d10.other (o := .lst (((x.set j (at0 x j - 1)).set q (at0 (x.set j (at0 x j - 1)) q + 1)).map V.int)) pd pc
      refine r_asgN (ed_tupL (r := rI) (xs := (x.set j (at0 x j - 1)).set q (at0 (x.set j (at0 x j - 1)) q + 1)) (ed_var rfl ⟨p, _, rfl, upd_same, int_rs _⟩)) fun w H12 e12 p12 => ?_
      exact hfin _ _ w H12 ((s06.trans s611).trans (Ex.sm e12)) (d11.ex e12) (mon e12 (Mon.mon (d6.tp s611) hx6)) p12 hx2 rfl rfl rfl
    · exact hfin _ y v5 H6 s06 d6 hx6 hy6 hvy rfl rfl rfl
  have s02 : Sm [d] H H2 := (Ex.sm e1).trans s2
  have hway : ∀ (l : L2.St) H', l[4]? = some (some (V.int (r : Int))) → Ed (tVar 4) l H' rI (r : Int) := fun l H' h => ed_var h rfl
  refine r_if (et_test' (ed_eqI (hway _ _ rfl) (ed_int (n := 3)))) ?_ ?_
  · intro hb H3 e3
    have hr3 : (r : Int) = 3 := of_decide_eq_true hb
    refine r_asgN (ed_int (n := 1)) fun v H4 e4 p4 => ?_
    cases p4
    refine r_if (b := false) (EvT.to (et_test' (ed_eqI (hway _ _ rfl) (ed_int (n := 5)))) (by rw [hr3]; rfl)) (fun z => by cases z) fun _ H5 e5 => ?_
    have e25 := (e3.trans e4).trans e5
    exact rest 1 H5 (by omega) (by omega) (s02.trans (Ex.sm e25)) (d2.ex e25)
  · intro hb H3 e3
    refine r_if (et_test' (ed_eqI (hway _ _ rfl) (ed_int (n := 5)))) ?_ ?_
    · intro _ H4 e4
      refine r_asgN (ed_int (n := 3)) fun v H5 e5 p5 => ?_
      cases p5
      have e25 := (e3.trans e4).trans e5
      exact rest 3 H5 (by omega) (by omega) (s02.trans (Ex.sm e25)) (d2.ex e25)
    · intro _ H4 e4
      have e25 := e3.trans e4
      exact rest 2 H4 (by omega) (by omega) (s02.trans (Ex.sm e25)) (d2.ex e25)
end
end M
/-! ## P7 -/
/-! Rules and tasks that are put together row by row. -/
namespace M
open PySem L2 Evl PyProof.Rows
theorem rn_eq {H : Hp} : ∀ {vs : List V} {ks : List Nat}, Paired (rN H) vs ks → vs = ks.map fun (k : Nat) => V.int (k : Int)
  | _, _, .nil => rfl
  | _, _, .cons h t => by rw [List.map_cons, ← rn_eq t]; cases h; rfl
/-- what stands still while rows are put together: the names at l, the rows at rw -/
structure BSt (d c l rw : Addr) (H0 Hb : Hp) : Prop where
  s0 : Sm [d] H0 Hb
  d0 : Dr d c H0
  db : Dr d c Hb
  l0 : H0 l = none
  r0 : H0 rw = none
  lr : l ≠ rw
  ll : IsLst Hb l
  rl : IsLst Hb rw
structure Bld (m : Nat) (d c l rw : Addr) (Hb H : Hp) (q n : Nat) : Prop where
  sm : Sm [d, l, rw] Hb H
  dr : Dr d c H
  nl : NL l H q
  ro : ∃ us rows, H rw = some (.lst us) ∧ Paired (rDeed H) us rows ∧ rows.length = n ∧ ∀ dd ∈ rows, WfD m dd
section
variable {m : Nat} {d c l rw : Addr} {H0 Hb H : Hp} {q n : Nat}
theorem BSt.out (b : BSt d c l rw H0 Hb) {H' : Hp} (s : Sm [d, l, rw] Hb H') : Sm [d] H0 H' := fun x u nx q => by
  refine s x u (fun z => ?_) (b.s0 x u nx q)
  rcases List.mem_cons.mp z with z | z
  · exact nx (by rw [z]; exact List.mem_cons_self)
  · rcases List.mem_cons.mp z with z | z
    · rw [z, b.l0] at q; cases q
    · rw [List.mem_singleton.mp z, b.r0] at q; cases q
theorem BSt.tp (b : BSt d c l rw H0 Hb) {H' : Hp} (s : Sm [d, l, rw] Hb H') : Tp Hb H' := s.tp fun a z => by
  rcases List.mem_cons.mp z with z | z
  · rw [z]; exact b.db.lst
  · rcases List.mem_cons.mp z with z | z
    · rw [z]; exact b.ll
    · rw [List.mem_singleton.mp z]; exact b.rl
theorem BSt.ne (b : BSt d c l rw H0 Hb) : l ≠ d ∧ l ≠ c ∧ rw ≠ d ∧ rw ≠ c := ⟨(b.d0.ned b.l0).1, (b.d0.ned b.l0).2, (b.d0.ned b.r0).1, (b.d0.ned b.r0).2⟩
theorem Bld.ex (h : Bld m d c l rw Hb H q n) {H' : Hp} (e : Ex H H') : Bld m d c l rw Hb H' q n := by
  obtain ⟨sm, dr, nl, us, rows, h1, h2, h3⟩ := h
  exact ⟨sm.trans (Ex.sm e), dr.ex e, nl.ex e, us, rows, e _ _ h1, mons e h2, h3⟩
/-- d has changed, and what is new -/
theorem Bld.drawn (h : Bld m d c l rw Hb H q n) (b : BSt d c l rw H0 Hb) {H' : Hp} (s : Sm [d] H H') (dr : Dr d c H') : Bld m d c l rw Hb H' q n := by
  obtain ⟨sm, dr0, ⟨ws, w1, w2⟩, us, rows, h1, h2, h3⟩ := h
  obtain ⟨n1, n2, n3, n4⟩ := b.ne
  exact ⟨sm.trans (s.more fun x hx => by rw [List.mem_singleton.mp hx]; exact List.mem_cons_self), dr, ⟨ws, s _ _ (by simp [n1]) w1, w2⟩, us, rows, s _ _ (by simp [n3]) h1, monT (dr0.tp s) h2, h3⟩
theorem Bld.popped (h : Bld m d c l rw Hb H (q + 1) n) (b : BSt d c l rw H0 Hb) {H' : Hp} (s : Sm [d, l] H H') (dr : Dr d c H') (nl : NL l H' q) : Bld m d c l rw Hb H' q n := by
  obtain ⟨sm, dr0, n0, us, rows, h1, h2, h3⟩ := h
  obtain ⟨n1, n2, n3, n4⟩ := b.ne
  refine ⟨sm.trans (s.more fun x hx => ?_), dr, nl, us, rows, s _ _ (by simp [n3, b.lr.symm]) h1, monT (dr0.tp2 n0.lst s) h2, h3⟩
  rcases List.mem_cons.mp hx with z | z
  · rw [z]; simp
  · rw [List.mem_singleton.mp z]; simp
theorem Bld.app (h : Bld m d c l rw Hb H q n) (b : BSt d c l rw H0 Hb) {w : V} {dd : Deed} {us : List V} (hu : H rw = some (.lst us)) (hw : rDeed H w dd) (hd : WfD m dd) : Bld m d c l rw Hb (upd H rw (.lst (us ++ [w]))) q (n + 1) := by
  obtain ⟨sm, dr, ⟨ws, w1, w2⟩, us', rows, h1, h2, h3, h4⟩ := h
  rw [hu] at h1
  cases h1
  obtain ⟨n1, n2, n3, n4⟩ := b.ne
  have tp : Tp H (upd H rw (.lst (us ++ [w]))) := tp_lst hu
  refine ⟨sm.upd (by simp), dr.other n3 n4, ⟨ws, by rw [upd_ne b.lr]; exact w1, w2⟩, us ++ [w], rows ++ [dd], upd_same, p_app (monT tp h2) (.cons (Mon.mon tp hw) .nil), by rw [List.length_append, h3]; rfl, fun x hx => ?_⟩
  rcases List.mem_append.mp hx with z | z
  · exact h4 x z
  · rw [List.mem_singleton.mp z]; exact hd
theorem Bld.len (h : Bld m d c l rw Hb H q n) {us : List V} (hu : H rw = some (.lst us)) : us.length = n := by
  obtain ⟨_, _, _, us', rows, h1, h2, h3, _⟩ := h
  rw [hu] at h1
  cases h1
  rw [Paired.length h2, h3]
end
section
variable {K : PySem.W.Frag} {σ : L2.St} {H : Hp} {ta tb tA tB tl tm te : TE} {Q : VK} {m : Nat} {d c l rw : Addr} {H0 Hb : Hp} {q n : Nat} {D : Ends} {tz : TS}
/-- rows.append((_law_pop(d, names), A, B)) -/
theorem bld_row {id il ir : Nat} {P : Hp → Prop} {PA PB : Vec → Prop} (b : BSt d c l rw H0 Hb) (h : Bld m d c l rw Hb H (q + 1) n) (hn : n ≤ 100) (hid : σ[id]? = some (some (.ref d))) (hil : σ[il]? = some (some (.ref l))) (hir : σ[ir]? = some (some (.ref rw)))
    (hA : ∀ H1, Sm [d, l] H H1 → EvP tA σ H1 (fun v H' => ∃ x, rVec H' v x ∧ PA x)) (hB : ∀ H1, Sm [d, l] H H1 → EvP tB σ H1 (fun v H' => ∃ x, rVec H' v x ∧ PB x)) (hw : ∀ z x y, PA x → PB y → WfD m (z, x, y))
    (k : ∀ H', Bld m d c l rw Hb H' q (n + 1) → Sm [d, l, rw] H H' → tz D σ H') :
    tSeq (tDrop (tBM K "list" rAppend (tVar ir) (tCons (tTup (tCons (tCall sp__law_pop [] E0 (tCons (tVar id) (tCons (tVar il) tNil))) (tCons tA (tCons tB tNil)))) tNil))) tz D σ H := by
  obtain ⟨us, rows, hu, _⟩ := h.ro
  obtain ⟨n1, n2, n3, n4⟩ := b.ne
  refine ⟨_, hir, .inl ⟨rfl, _, SqL.of hu⟩, _, hid, _, hil, pop_str (E := E0) (q := q) n1 n2 h.dr h.nl fun z H1 s1 d1 nl1 => ?_⟩
  have b1 := h.popped b s1 d1 nl1
  refine (hA H1 s1).run fun va H2 e2 ⟨x, hx, px⟩ => ?_
  refine (hB H2 (s1.trans (Ex.sm e2))).run fun vb H3 e3 ⟨y, hy, py⟩ => ?_
  refine ⟨by show 3 ≤ sizeLine; decide, fun p np => ?_⟩
  have b4 := b1.ex ((e2.trans e3).trans (Ex.new (o := .tup [.str z, va, vb]) np))
  have hu1 := s1 _ _ (by simp [n3, b.lr.symm]) hu
  have hu4 := ((e2.trans e3).trans (Ex.new (o := .tup [.str z, va, vb]) np)) _ _ hu1
  have hw4 : rDeed (upd H3 p (.tup [.str z, va, vb])) (.ref p) (z, x, y) := ⟨p, _, _, _, rfl, upd_same, rfl, mon (e3.trans (Ex.new np)) hx, mon (Ex.new np) hy⟩
  refine ⟨rw, us, .ref p, rfl, rfl, hu4, sz_lt (by rw [b1.len hu1]; omega), ?_⟩
  refine k _ (b4.app b hu4 hw4 (hw z x y px py)) ?_
  refine Sm.upd ?_ (by simp)
  exact ((s1.trans (Ex.sm ((e2.trans e3).trans (Ex.new np)))).more fun a ha => by
    rcases List.mem_cons.mp ha with z | z
    · rw [z]; simp
    · rw [List.mem_singleton.mp z]; simp)
theorem bld_rowN {id il ir : Nat} {PA PB : Vec → Prop} (b : BSt d c l rw H0 Hb) (h : Bld m d c l rw Hb H (q + 1) n) (hn : n ≤ 100) (hid : σ[id]? = some (some (.ref d))) (hil : σ[il]? = some (some (.ref l))) (hir : σ[ir]? = some (some (.ref rw)))
    (hA : ∀ H1, Sm [d, l] H H1 → EvP tA σ H1 (fun v H' => ∃ x, rVec H' v x ∧ PA x)) (hB : ∀ H1, Sm [d, l] H H1 → EvP tB σ H1 (fun v H' => ∃ x, rVec H' v x ∧ PB x)) (hw : ∀ z x y, PA x → PB y → WfD m (z, x, y))
    (k : ∀ H', Bld m d c l rw Hb H' q (n + 1) → Sm [d, l, rw] H H' → D.nx σ H') :
    tDrop (tBM K "list" rAppend (tVar ir) (tCons (tTup (tCons (tCall sp__law_pop [] E0 (tCons (tVar id) (tCons (tVar il) tNil))) (tCons tA (tCons tB tNil)))) tNil)) D σ H :=
  bld_row (tz := fun D σ H => D.nx σ H) (P := fun _ => True) b h hn hid hil hir hA hB hw k
theorem ev_listed {ks : List Nat} (hm : Ed tm σ H rI (m : Int)) (hl : El tl σ H rN ks) (h1 : m ≤ 1000) (h2 : ks.length ≤ 1000) (h3 : ∀ k ∈ ks, k < m) :
    EvP (tCall sp__law_listed [] E0 (tCons tm (tCons tl tNil))) σ H (fun v H' => ∃ x, rVec H' v x ∧ Hv m ks.length x ∧ ∀ j, at0 x j = ((ks.count j : Nat) : Int)) := fun H1 e Q k =>
  hm H1 e _ fun v H2 e2 p => hl H2 (e.trans e2) _ fun w H3 e3 ⟨a, us, hw, na, ha, pr⟩ => by
    subst hw
    have hv : v = .int (m : Int) := p
    subst hv
    refine ⟨m, a, ks, rfl, ?_, h1, h2, h3, fun w H4 e4 hx => k w H4 ((e2.trans e3).trans e4) hx⟩
    rw [ha]
    congr 2
    exact rn_eq pr
/-- the rows, as a tuple -/
theorem ed_rows {ir : Nat} (h : Bld m d c l rw Hb H q n) (hir : σ[ir]? = some (some (.ref rw))) : EvP (tCB (rTupOf K) (tCons (tVar ir) tNil)) σ H (fun v H' => ∃ rows, rT rDeed H' v rows ∧ rows.length = n ∧ ∀ dd ∈ rows, WfD m dd) := by
  obtain ⟨_, _, _, us, rows, h1, h2, h3, h4⟩ := h
  exact (ed_tupL (r := rDeed) (xs := rows) (ed_var hir ⟨rw, us, rfl, h1, h2⟩)).imp fun v H1 e p => ⟨rows, p, h3, h4⟩
end
section
variable {K : PySem.W.Frag} {vs : List V} {H : Hp} {Q : VK} {E : XK}
theorem str_rT {H : Hp} {p : Addr} {ss : List Str} (h : H p = some (.tup (ss.map V.str))) : rT rS H (.ref p) ss := ⟨p, _, rfl, h, str_rs ss⟩
theorem r_pool {σ : L2.St} {i : Nat} {D : Ends} {tz : TS} (k : ∀ l H1, H l = none → Ex H H1 → NL l H1 40 → tz D (σ.set i (some (.ref l))) H1) : tSeq (tAsg (tCall sp__law_pool [] E0 tNil) (gName i)) tz D σ H :=
  ⟨rfl, fun l H1 ss nl e1 hl hs1 hs2 => k l H1 nl e1 ⟨ss, hl, hs1, hs2⟩⟩
/-- kinds = tuple([_law_pop(d, names) for j in range(n)]) -/
theorem r_kinds {σ : L2.St} {d c l : Addr} {id il ik j n q : Nat} {tl : TE} {D : Ends} {tz : TS} (hid : σ[id]? = some (some (.ref d))) (hil : σ[il]? = some (some (.ref l))) (nd : id ≠ j) (nl : il ≠ j) (hl : Ed tl σ H rI (n : Int)) (hn : n ≤ 100) (ne : l ≠ d) (nc : l ≠ c) (hD : Dr d c H) (hN : NL l H (n + q))
    (k : ∀ p H' (ks : List Str), Sm [d, l] H H' → Dr d c H' → NL l H' q → rT rS H' (.ref p) ks → ks.length = n → tz D (σ.set ik (some (.ref p))) H') :
    tSeq (tAsg (tCB (rTupOf K) (tCons (tLc (iRng1 (tCons tl tNil)) (gName j) tYes (tCall sp__law_pop [] E0 (tCons (tVar id) (tCons (tVar il) tNil))) [j]) tNil)) (gName ik)) tz D σ H := by
  show tLc (iRng1 (tCons tl tNil)) (gName j) tYes (tCall sp__law_pop [] E0 (tCons (tVar id) (tCons (tVar il) tNil))) [j] σ H (fun x H1 => rTupOf K [x] H1 fun w H2 => tz D (σ.set ik (some w)) H2)
  exact lc_pops hid hil nd nl hl hn ne nc hD hN fun Dl H2 ks s2 d2 nl2 nD hDl hks => ⟨Dl, _, rfl, .inl ⟨SqL.of hDl, fun p np => k p _ ks (s2.trans (Ex.sm (Ex.new np))) (d2.new np) (nl2.ex (Ex.new np)) (str_rT upd_same) hks⟩⟩
theorem pure__law_rule (h : sp__law_rule vs H Q E) : t__law_rule K { nx := fun _ H' => Q .non H', rt := Q } (start N__law_rule vs) H := by
  obtain ⟨d, c, m, n, rfl, m1, m6, n8, hD, k⟩ := h
  refine r_pool fun l H1 nl e1 nl1 => ?_
  obtain ⟨ld, lc⟩ := hD.ned nl
  have d1 := hD.ex e1
  refine r_kinds (d := d) (c := c) (l := l) (n := m) (q := n + 1) rfl rfl (by decide) (by decide) (ed_var rfl rfl) (by omega) ld lc d1 (nl1.less (by omega)) fun p H2 ks s2 d2 nl2 hk2 hks => ?_
  have s02 : Sm [d] H H2 := ((Ex.sm e1).trans s2).less nl
  have rest : ∀ l' H3, H l' = none → Sm [d] H H3 → Dr d c H3 → NL l' H3 (n + 1) → rT rS H3 (.ref p) ks → (tSeq (tAsg (tLc (iRng1 (tCons (tVar 2) tNil)) (gName 6) tYes (tCall sp__law_deed [] E0 (tCons (tVar 0) (tCons (tCall sp__law_pop [] E0 (tCons (tVar 0) (tCons (tVar 3) tNil))) (tCons (tVar 1) tNil)))) [6]) (gName 5))
      (tRet (tTup (tCons (tVar 4) (tCons (tCB (rTupOf K) (tCons (tVar 5) tNil)) tNil))))) { nx := fun _ H' => Q .non H', rt := Q } [some (.ref d), some (.int m), some (.int n), some (.ref l'), some (.ref p), none, none, none] H3 := by
    intro l' H3 nl' s3 d3 nl3 hk3
    obtain ⟨ld', lc'⟩ := hD.ned nl'
    refine ⟨_, rfl, (n : Int), rfl, by omega, by omega, fun D nD3 => ?_⟩
    obtain ⟨Dd, Dc⟩ := d3.ned nD3
    have Dl' : D ≠ l' := by
      obtain ⟨xs, h⟩ := nl3.lst
      exact (ne_of_none h nD3).symm
    refine lc_range (lo := 0) (n := (n : Int).toNat) (fun i H' => Sm [d, l'] H3 H' ∧ Dr d c H' ∧ NL l' H' (n - i + 1) ∧ ∃ us rows, H' D = some (.lst us) ∧ Paired (rDeed H') us rows ∧ rows.length = i ∧ ∀ dd ∈ rows, WfD m dd)
      ⟨Ex.sm (Ex.new nD3), d3.new nD3, (nl3.ex (Ex.new nD3)).less (by omega), [], [], upd_same, .nil, rfl, fun _ h => by cases h⟩ ?_ ?_
    · rintro i H4 hi ⟨s4, d4, nl4, us, rows, hus, pr, hlen, hwf⟩
      have hi' : i < n := by omega
      refine ⟨rfl, ?_⟩
      unfold tYes
      refine iteT ?_
      refine ⟨_, rfl, _, rfl, _, rfl, pop_str (E := E0) (q := n - (i + 1) + 1) ld' lc' d4 (nl4.less (by omega)) fun z H5 s5 d5 nl5 => ?_⟩
      refine ⟨_, rfl, d, c, z, m, rfl, m1, by omega, d5, fun w H6 s6 d6 ⟨dd, hdd, wdd⟩ => ?_⟩
      have hus5 := s5 _ _ (by simp [Dd, Dl']) hus
      have hus6 := s6 _ _ (by simp [Dd]) hus5
      have pr6 := monT (d5.tp s6) (monT (d4.tp2 nl4.lst s5) pr)
      have tpu : Tp H6 (upd H6 D (.lst (us ++ [w]))) := tp_lst hus6
      have hl := Paired.length pr
      refine ⟨us, hus6, sz_lt (by omega), ?_, d6.other Dd Dc, ?_, us ++ [w], rows ++ [dd], upd_same, p_app (monT tpu pr6) (.cons (Mon.mon tpu hdd) .nil), by rw [List.length_append, hlen]; rfl, fun x hx => ?_⟩
      · exact ((s4.trans s5).trans (s6.more fun x hx => by rw [List.mem_singleton.mp hx]; simp)).new nD3
      · obtain ⟨ws, w1, w2⟩ := nl5
        exact ⟨ws, by rw [upd_ne Dl'.symm]; exact s6 _ _ (by simp [ld']) w1, w2⟩
      · rcases List.mem_append.mp hx with z | z
        · exact hwf x z
        · rw [List.mem_singleton.mp z]; exact wdd
    · rintro H4 ⟨s4, d4, nl4, us, rows, hus, pr, hlen, hwf⟩
      have s04 : Sm [d] H H4 := fun x u nx q => s4 x u (fun z => by
        rcases List.mem_cons.mp z with z | z
        · exact nx (by rw [z]; exact List.mem_cons_self)
        · rw [List.mem_singleton.mp z, nl'] at q; cases q) (s3 x u nx q)
      have tp4 : Tp H3 H4 := d3.tp2 nl3.lst s4
      refine r_ret (ed_pair (r := rT rS) (s := rT rDeed) (x := ks) (y := rows) (ed_var rfl (Mon.mon tp4 hk3)) (ed_tupL (ed_var rfl ⟨D, us, rfl, hus, pr⟩))) fun w H5 e5 p5 => k w H5 (s04.trans (Ex.sm e5)) (d4.ex e5) ⟨(ks, rows), p5, hks, by show rows.length ≤ 8; omega, hwf⟩
  refine ⟨_, rfl, d, c, 3, rfl, by decide, by decide, d2, fun v H4 s4 d4 ⟨r, hr, hlt⟩ => ?_⟩
  subst hr
  have hk4 : rT rS H4 (.ref p) ks := Mon.mon (d2.tp s4) hk2
  have s04 := s02.trans s4
  refine ⟨rfl, ?_⟩
  refine ⟨_, rfl, ?_⟩
  refine ite2 (fun _ => ?_) (fun _ => ?_)
  · refine ⟨rfl, fun l' H5 ss' nl' e5 hl' hs1' hs2' => ?_⟩
    refine rest l' H5 (by
      cases hq : H l' with
      | none => rfl
      | some o =>
        by_cases hz : l' = d
        · obtain ⟨xs, h4⟩ := d4.lst
          rw [hz, h4] at nl'; cases nl'
        · have := s04 _ _ (by simp [hz]) hq
          rw [this] at nl'; cases nl') (s04.trans (Ex.sm e5)) (d4.ex e5) ⟨ss', hl', by omega, hs2'⟩ (mon e5 hk4)
  · refine rest l H4 nl s04 d4 ?_ hk4
    obtain ⟨ws, w1, w2⟩ := nl2
    exact ⟨ws, s4 _ _ (by simp [ld]) w1, w2⟩
end
end M
/-! ## P8 -/
/-! Mixed rules and tasks; drawn tasks. -/
namespace M
open PySem L2 Evl PyProof.Rows
theorem rs_str {H : Hp} : ∀ {vs : List V} {ns : List Str}, Paired (rS H) vs ns → vs = ns.map V.str
  | _, _, .nil => rfl
  | _, _, .cons h t => by rw [List.map_cons, ← rs_str t]; cases h; rfl
theorem perm_ints {n : Nat} {ys : List V} (h : ys.Perm ((List.range n).map (V.int ∘ fun (i : Nat) => (i : Int)))) : ∃ ks : List Nat, ys = ks.map (fun (k : Nat) => V.int (k : Int)) ∧ ks.Perm (List.range n) := by
  have f0 : ∀ y ∈ ys, y = V.int (((match y with | .int i => i.toNat | _ => 0 : Nat)) : Int) := fun y hy => by
    obtain ⟨i, _, rfl⟩ := List.mem_map.mp (h.mem_iff.mp hy)
    show V.int (i : Int) = V.int (((i : Int).toNat : Nat) : Int)
    rw [Int.toNat_natCast]
  refine ⟨ys.map fun y => match y with | .int i => i.toNat | _ => 0, ?_, ?_⟩
  · rw [List.map_map]
    conv => lhs; rw [← List.map_id ys]
    exact List.map_congr_left fun y hy => f0 y hy
  · have := h.map fun y => match y with | .int i => i.toNat | _ => 0
    rw [List.map_map] at this
    refine this.trans (List.Perm.of_eq ?_)
    conv => rhs; rw [← List.map_id (List.range n)]
    exact List.map_congr_left fun i _ => Int.toNat_natCast i
def turnV (ks : List Nat) (x : Vec) : Vec := ks.map (at0 x)
theorem perm_sum : ∀ {x y : List Int}, x.Perm y → x.sum = y.sum := by
  intro x y h
  induction h with
  | nil => rfl
  | cons a _ ih => rw [List.sum_cons, List.sum_cons, ih]
  | swap a b l => rw [List.sum_cons, List.sum_cons, List.sum_cons, List.sum_cons]; omega
  | trans _ _ h1 h2 => rw [h1, h2]
theorem range_at0 (x : Vec) : (List.range x.length).map (at0 x) = x := by
  apply List.ext_getElem?
  intro i
  rw [List.getElem?_map]
  by_cases h : i < x.length
  · rw [List.getElem?_range h, at0_get h]; rfl
  · rw [List.getElem?_eq_none (by rw [List.length_range]; omega), List.getElem?_eq_none (by omega)]; rfl
theorem turn_perm {ks : List Nat} {x : Vec} (h : ks.Perm (List.range x.length)) : (turnV ks x).Perm x := by
  have := h.map (at0 x)
  rw [range_at0] at this
  exact this
theorem Hv.turn {m : Nat} {sz : Int} {ks : List Nat} {x : Vec} (h : Hv m sz x) (p : ks.Perm (List.range m)) : Hv m sz (turnV ks x) := by
  have q : (turnV ks x).Perm x := turn_perm (by rw [h.len]; exact p)
  exact ⟨by rw [q.length_eq, h.len], fun e he => h.nn e (q.mem_iff.mp he), by rw [perm_sum q, h.sum]⟩
theorem WfD.rev {m : Nat} {dd : Deed} (h : WfD m dd) : WfD m (dd.1, dd.2.2, dd.2.1) := by
  obtain ⟨sz, a, b, p, q⟩ := h
  exact ⟨sz, a, b, q, p⟩
theorem WfR.rev {m : Nat} {R : Rule} (h : WfR m R) : WfR m (revR R) := ⟨h.kinds, by show (R.2.map _).length ≤ 8; rw [List.length_map]; exact h.few, fun dd hd => by
  obtain ⟨d0, h1, rfl⟩ := List.mem_map.mp hd
  exact (h.deeds d0 h1).rev⟩
theorem WfT.rev {m : Nat} {t : Task} (h : WfT m t) : WfT m (revT t) := ⟨h.rule.rev, h.goal, h.start⟩
def sp__law_turned_rule : Sp := fun vs H Q _ => ∃ v1, ∃ (R : Rule) (a : Addr) (ks : List Nat) (b : Addr) (js : List Nat) (m : Nat), vs = [v1, .ref a, .ref b] ∧ rRule H v1 R ∧ WfR m R ∧ m ≤ 100 ∧ H a = some (.lst (ks.map fun (k : Nat) => V.int (k : Int))) ∧ ks.Perm (List.range m) ∧ H b = some (.lst (js.map fun (k : Nat) => V.int (k : Int))) ∧ js.Perm (List.range R.2.length) ∧
  ∀ w H', Ex H H' → (∃ R', rRule H' w R' ∧ WfR m R') → Q w H'
def MixedR (m : Nat) : V → Hp → Prop := fun v H' => ∃ p v1 v3, ∃ (R : Rule) (a : Addr) (ks : List Nat), v = .ref p ∧ H' p = some (.tup [v1, .ref a, v3]) ∧ rRule H' v1 R ∧ WfR m R ∧ H' a = some (.lst (ks.map fun (k : Nat) => V.int (k : Int))) ∧ ks.Perm (List.range m)
def sp__law_mixed_rule : Sp := fun vs H Q _ => ∃ d c v1, ∃ (R : Rule) (m : Nat), vs = [.ref d, v1] ∧ rRule H v1 R ∧ WfR m R ∧ m ≤ 100 ∧ Dr d c H ∧ QD d c H Q (MixedR m)
def DrTask (m : Nat) : V → Hp → Prop := fun v H' => ∃ t, rTask H' v t ∧ WfT m t
def sp__law_mixed_task : Sp := fun vs H Q _ => ∃ d c v1, ∃ (t : Task) (m : Nat), vs = [.ref d, v1] ∧ rTask H v1 t ∧ WfT m t ∧ m ≤ 100 ∧ Dr d c H ∧ QD d c H Q (DrTask m)
/-! _law_turned_rule: slots rule 0, order 1, places 2, rows 3, t 4, name 5, takes 6, gives 7 -/
def N__law_turned_rule : List Str := ["rule", "order", "places", "rows", "t", "name", "takes", "gives"]
def t__law_turned_rule (K : PySem.W.Frag) : TS :=
  (tSeq (tAsg (tLst tNil) (gName 3))
  (tSeq (tFor (iList K (tVar 2)) (gName 4) (tSeq (tAsg (tOp (rIxT K) (tOp (rIxT K) (tVar 0) (tC (.int 1))) (tVar 4)) (gTup K 3 (gCons (gName 5) (gCons (gName 6) (gCons (gName 7) gNil)))))
  (tDrop (tBM K "list" rAppend (tVar 3) (tCons (tTup (tCons (tVar 5) (tCons (tCall sp__law_turned [] E0 (tCons (tVar 6) (tCons (tVar 1) tNil))) (tCons (tCall sp__law_turned [] E0 (tCons (tVar 7) (tCons (tVar 1) tNil))) tNil)))) tNil)))))
  (tRet (tTup (tCons (tCall sp__law_turned [] E0 (tCons (tOp (rIxT K) (tVar 0) (tC (.int 0))) (tCons (tVar 1) tNil))) (tCons (tCB (rTupOf K) (tCons (tVar 3) tNil)) tNil))))))
/-! _law_mixed_rule: slots d 0, rule 1, order 2, places 3 -/
def N__law_mixed_rule : List Str := ["d", "rule", "order", "places"]
def t__law_mixed_rule (K : PySem.W.Frag) : TS :=
  (tSeq (tAsg (tCall sp__law_shuffled [] E0 (tCons (tVar 0) (tCons (tLstRg (tRg1 (tCB (rLenS K) (tCons (tOp (rIxT K) (tVar 1) (tC (.int 0))) tNil)))) tNil))) (gName 2))
  (tSeq (tAsg (tCall sp__law_shuffled [] E0 (tCons (tVar 0) (tCons (tLstRg (tRg1 (tCB (rLenS K) (tCons (tOp (rIxT K) (tVar 1) (tC (.int 1))) tNil)))) tNil))) (gName 3))
  (tRet (tTup (tCons (tCall sp__law_turned_rule [] E0 (tCons (tVar 1) (tCons (tVar 2) (tCons (tVar 3) tNil)))) (tCons (tVar 2) (tCons (tVar 3) tNil)))))))
/-! _law_mixed_task: slots d 0, task 1, rule 2, order 3, places 4, blended 5 -/
def N__law_mixed_task : List Str := ["d", "task", "rule", "order", "places", "blended"]
def t__law_mixed_task (K : PySem.W.Frag) : TS :=
  (tSeq (tAsg (tCall sp__law_mixed_rule [] E0 (tCons (tVar 0) (tCons (tOp (rIxT K) (tVar 1) (tC (.int 0))) tNil))) (gTup K 3 (gCons (gName 2) (gCons (gName 3) (gCons (gName 4) gNil)))))
  (tSeq (tAsg (tTup (tCons (tVar 2) (tCons (tCall sp__law_turned [] E0 (tCons (tOp (rIxT K) (tVar 1) (tC (.int 1))) (tCons (tVar 3) tNil))) (tCons (tCall sp__law_turned [] E0 (tCons (tOp (rIxT K) (tVar 1) (tC (.int 2))) (tCons (tVar 3) tNil))) tNil)))) (gName 5))
  (tSeq (tIfS (tTest (tOp rEq (tCall sp__law_draw [] E0 (tCons (tVar 0) (tCons (tC (.int 4)) tNil))) (tC (.int 1)))) (tRet (tCall sp__law_reversed [] E0 (tCons (tVar 5) tNil))) tNext)
  (tRet (tVar 5)))))
section
variable {K : PySem.W.Frag} {σ : L2.St} {H : Hp} {ta tb te : TE} {Q : VK}
theorem ev_turnV {x : Vec} {ks : List Nat} {b : Addr} (ha : Ed ta σ H rVec x) (hb : EvP tb σ H fun w _ => w = .ref b) (hk : H b = some (.lst (ks.map fun (k : Nat) => V.int (k : Int)))) (hz : ks.length ≤ 1000) (hl : ∀ k ∈ ks, k < x.length) :
    EvP (tCall sp__law_turned [] E0 (tCons ta (tCons tb tNil))) σ H (fun v H' => rVec H' v (turnV ks x)) := fun H1 e Q q =>
  ha H1 e _ fun v H2 e2 ⟨a, us, ev, hv, pr⟩ => hb H2 (e.trans e2) _ fun w H3 e3 ew => by
    have hus := rs_int pr
    subst hus ev ew
    refine ⟨a, b, x.map V.int, ks, rfl, e3 _ _ hv, ((e.trans e2).trans e3) _ _ hk, hz, fun k hk => by rw [List.length_map]; exact hl k hk, fun w H4 e4 ⟨p, hw, hp⟩ => q w H4 ((e2.trans e3).trans e4) ⟨p, _, hw, hp, ?_⟩⟩
    have hmap : (ks.map fun k => (x.map V.int).getD k .non) = (turnV ks x).map V.int := by
      unfold turnV
      rw [List.map_map]
      refine List.map_congr_left fun k hk => ?_
      have := hl k hk
      rw [List.getD_eq_getElem?_getD, get_int this]
      rfl
    rw [hmap]
    exact int_rs _
theorem ev_turnS {x : List Str} {ks : List Nat} {b : Addr} (ha : Ed ta σ H (rT rS) x) (hb : EvP tb σ H fun w _ => w = .ref b) (hk : H b = some (.lst (ks.map fun (k : Nat) => V.int (k : Int)))) (hz : ks.length ≤ 1000) (hl : ∀ k ∈ ks, k < x.length) :
    EvP (tCall sp__law_turned [] E0 (tCons ta (tCons tb tNil))) σ H (fun v H' => rT rS H' v (ks.map fun k => x.getD k Str.empty)) := fun H1 e Q q =>
  ha H1 e _ fun v H2 e2 ⟨a, us, ev, hv, pr⟩ => hb H2 (e.trans e2) _ fun w H3 e3 ew => by
    have hus := rs_str pr
    subst hus ev ew
    refine ⟨a, b, x.map V.str, ks, rfl, e3 _ _ hv, ((e.trans e2).trans e3) _ _ hk, hz, fun k hk => by rw [List.length_map]; exact hl k hk, fun w H4 e4 ⟨p, hw, hp⟩ => q w H4 ((e2.trans e3).trans e4) ⟨p, _, hw, hp, ?_⟩⟩
    have hmap : (ks.map fun k => (x.map V.str).getD k .non) = (ks.map fun k => x.getD k Str.empty).map V.str := by
      rw [List.map_map]
      refine List.map_congr_left fun k hk => ?_
      have := hl k hk
      rw [List.getD_eq_getElem?_getD, List.getElem?_map, List.getElem?_eq_getElem this]
      show _ = V.str (x.getD k Str.empty)
      rw [List.getD_eq_getElem?_getD, List.getElem?_eq_getElem this]
      rfl
    rw [hmap]
    exact str_rs _
theorem perm_lt {ks : List Nat} {m : Nat} (p : ks.Perm (List.range m)) : ∀ k ∈ ks, k < m := fun k hk => List.mem_range.mp (p.mem_iff.mp hk)
theorem perm_len {ks : List Nat} {m : Nat} (p : ks.Perm (List.range m)) : ks.length = m := by rw [p.length_eq, List.length_range]
end
section
variable {K : PySem.W.Frag} {vs : List V} {H : Hp} {Q : VK} {E : XK}
theorem pure__law_turned_rule (h : sp__law_turned_rule vs H Q E) : t__law_turned_rule K { nx := fun _ H' => Q .non H', rt := Q } (start N__law_turned_rule vs) H := by
  obtain ⟨v1, R, a, ks, b, js, m, rfl, r1, wf, hm, ha, pk, hb, pj, k⟩ := h
  have lk := perm_len pk
  have lj := perm_len pj
  have few := wf.few
  refine r_asg (el_lst (r := rDeed) (xs := []) es_nil (Nat.zero_le _)) fun v H1 e1 ⟨l, us, hv, nl, hl, pr⟩ => ?_
  subst hv
  have hus : us = [] := by cases pr; rfl
  subst hus
  have nla : a ≠ l := ne_of_none ha nl
  have nlb : b ≠ l := ne_of_none hb nl
  have dlen : ∀ dd ∈ R.2, dd.2.1.length = m ∧ dd.2.2.length = m := fun dd hd => by
    obtain ⟨sz, _, _, p, q⟩ := wf.deeds dd hd
    exact ⟨p.len, q.len⟩
  refine r_forLa (a := b) (us := js.map fun (k : Nat) => V.int (k : Int)) (ev_v rfl) (e1 _ _ hb) (fun i σ H' => Ex H H' ∧ ∃ tv nv kv gv us rows, σ = [some v1, some (.ref a), some (.ref b), some (.ref l), tv, nv, kv, gv] ∧ H' l = some (.lst us) ∧ Paired (rDeed H') us rows ∧ rows.length = i ∧ ∀ dd ∈ rows, WfD m dd)
    (fun H2 e2 => ⟨e1.trans e2, none, none, none, none, [], [], rfl, e2 _ _ hl, .nil, rfl, fun _ h => by cases h⟩) (fun i σ H' p => p.1 _ _ hb) ?_ ?_
  · rintro i v σ H2 hi ⟨e2, tv, nv, kv, gv, us, rows, rfl, hl2, pr, hlen, hwf⟩
    rw [List.getElem?_map] at hi
    obtain ⟨j, hj, hv⟩ : ∃ j, js[i]? = some j ∧ v = .int (j : Int) := by
      cases hq : js[i]? with
      | none => rw [hq] at hi; cases hi
      | some y => rw [hq] at hi; exact ⟨y, rfl, (Option.some.inj hi).symm⟩
    subst hv
    have hjn := perm_lt pj j (List.mem_of_getElem? hj)
    have hin : i < js.length := (List.getElem?_eq_some_iff.mp hj).1
    refine (ed_ixT (r := rDeed) (y := deedOf R j) (ed_p2 (ed_var rfl (mon e2 r1))) (ed_var (r := rI) rfl rfl) (deed_get hjn)).run fun v H3 e3 rd => ?_
    obtain ⟨q, w1, w2, w3, rfl, hv, s1, s2, s3⟩ := rd
    have hmem : deedOf R j ∈ R.2 := List.mem_of_getElem? (deed_get hjn)
    obtain ⟨l1, l2⟩ := dlen _ hmem
    refine ⟨q, _, rfl, SqT.of hv, rfl, w1, _, rfl, w2, _, rfl, w3, [], rfl, rfl, ?_⟩
    have hl3 := e3 _ _ hl2
    refine ⟨_, rfl, .inl ⟨rfl, _, SqL.of hl3⟩, ?_⟩
    refine (ed_trip (r := rS) (s := rVec) (c := rVec) (x := (deedOf R j).1) (y := turnV ks (deedOf R j).2.1) (z := turnV ks (deedOf R j).2.2) (ed_var rfl s1) (ev_turnV (ed_var rfl s2) (ev_v rfl) ((e2.trans e3) _ _ ha) (by omega) (fun k hk => by rw [l1]; exact perm_lt pk k hk)) (ev_turnV (ed_var rfl s3) (ev_v rfl) ((e2.trans e3) _ _ ha) (by omega) (fun k hk => by rw [l2]; exact perm_lt pk k hk))).run fun w H4 e4 p4 => ?_
    have hl4 := e4 _ _ hl3
    have ul : us.length = i := by rw [Paired.length pr, hlen]
    have tpu : Tp H4 (upd H4 l (.lst (us ++ [w]))) := tp_lst hl4
    refine ⟨l, us, w, rfl, rfl, hl4, sz_lt (by omega), Ex.mut ((e2.trans e3).trans e4) nl, some (.int j), some w1, some w2, some w3, us ++ [w], rows ++ [((deedOf R j).1, turnV ks (deedOf R j).2.1, turnV ks (deedOf R j).2.2)], rfl, upd_same, p_app (monT tpu (mons (e3.trans e4) pr)) (.cons (Mon.mon tpu p4) .nil), by rw [List.length_append, hlen]; rfl, fun x hx => ?_⟩
    rcases List.mem_append.mp hx with z | z
    · exact hwf x z
    · rw [List.mem_singleton.mp z]
      obtain ⟨sz, q1, q2, q3, q4⟩ := wf.deeds _ hmem
      exact ⟨sz, q1, q2, q3.turn pk, q4.turn pk⟩
  · rintro σ H2 ⟨e2, tv, nv, kv, gv, us, rows, rfl, hl2, pr, hlen, hwf⟩
    rw [List.length_map] at hlen
    refine r_ret (ed_pair (r := rT rS) (s := rT rDeed) (x := ks.map fun k => R.1.getD k Str.empty) (y := rows) (ev_turnS (ed_p1 (ed_var rfl (mon e2 r1))) (ev_v rfl) (e2 _ _ ha) (by omega) (fun k hk => by rw [wf.kinds]; exact perm_lt pk k hk)) (ed_tupL (ed_var rfl ⟨l, us, rfl, hl2, pr⟩))) fun w H3 e3 p3 => k w H3 (e2.trans e3) ⟨_, p3, by show (ks.map _).length = m; rw [List.length_map, lk], by show rows.length ≤ 8; omega, hwf⟩
theorem pure__law_mixed_rule (h : sp__law_mixed_rule vs H Q E) : t__law_mixed_rule K { nx := fun _ H' => Q .non H', rt := Q } (start N__law_mixed_rule vs) H := by
  obtain ⟨d, c, v1, R, m, rfl, r1, wf, hm, hD, k⟩ := h
  have few := wf.few
  have lm := wf.kinds
  refine ⟨_, rfl, ?_⟩
  refine (el_listR (n := R.1.length) (ed_lenT (r := rS) (ed_p1 (ed_var (i := 1) rfl r1))) (by omega)).run fun v H1 e1 ⟨p, us, hv, np, hp, pr⟩ => ?_
  subst hv
  have hus := rs_int pr
  rw [List.map_map] at hus
  subst hus
  refine ⟨d, c, p, _, rfl, hp, by rw [List.length_map, List.length_range]; omega, hD.ex e1, fun v H2 s2 d2 ⟨a, ys, hv, na, ha, pa⟩ => ?_⟩
  subst hv
  obtain ⟨ks, hks, pk⟩ := perm_ints pa
  subst hks
  have s02 : Sm [d] H H2 := (Ex.sm e1).trans s2
  refine ⟨_, rfl, ?_⟩
  refine (el_listR (n := R.2.length) (ed_lenT (r := rDeed) (ed_p2 (ed_var (i := 1) rfl (Mon.mon (hD.tp s02) r1)))) (by omega)).run fun v H3 e3 ⟨p3, us, hv, np3, hp3, pr⟩ => ?_
  subst hv
  have hus := rs_int pr
  rw [List.map_map] at hus
  subst hus
  refine ⟨d, c, p3, _, rfl, hp3, by rw [List.length_map, List.length_range]; omega, d2.ex e3, fun v H4 s4 d4 ⟨b, ys, hv, nb, hb, pb⟩ => ?_⟩
  subst hv
  obtain ⟨js, hjs, pj⟩ := perm_ints pb
  subst hjs
  obtain ⟨ad, ac⟩ := (hD.ex e1).ned na
  have ha4 := s4 _ _ (by simp [ad]) (e3 _ _ ha)
  have s24 : Sm [d] H2 H4 := (Ex.sm e3).trans s4
  have s04 := s02.trans s24
  have r4 : rRule H4 v1 R := Mon.mon (hD.tp s04) r1
  refine ⟨_, rfl, _, rfl, _, rfl, v1, R, a, ks, b, js, m, rfl, r4, wf, hm, ha4, by rw [lm] at pk; exact pk, hb, pj, fun w H5 e5 ⟨R', rR, wR⟩ => ?_⟩
  refine ⟨_, rfl, _, rfl, by show 3 ≤ sizeLine; decide, fun q nq => ?_⟩
  have e56 := Ex.new (o := .tup [w, .ref a, .ref b]) nq
  exact k _ _ (s04.trans (Ex.sm (e5.trans e56))) (d4.ex (e5.trans e56)) ⟨q, w, .ref b, R', a, ks, rfl, upd_same, mon e56 rR, wR, (e5.trans e56) _ _ ha4, by rw [lm] at pk; exact pk⟩
theorem pure__law_mixed_task (h : sp__law_mixed_task vs H Q E) : t__law_mixed_task K { nx := fun _ H' => Q .non H', rt := Q } (start N__law_mixed_task vs) H := by
  obtain ⟨d, c, v1, t, m, rfl, r1, wf, hm, hD, k⟩ := h
  obtain ⟨wr, ⟨z1, a1, b1, hs⟩, ⟨z2, a2, b2, hg⟩⟩ := id wf
  refine ⟨_, rfl, ?_⟩
  refine (ed_t1 (r := rRule) (s := rVec) (c := rVec) (x := t) (ed_var (i := 1) rfl r1)).run fun v H1 e1 p1 => ?_
  refine ⟨d, c, v, t.1, m, rfl, p1, wr, hm, hD.ex e1, fun v H2 s2 d2 ⟨p, w1, w3, R, a, ks, hv, hp, rR, wR, ha, pk⟩ => ?_⟩
  subst hv
  have s02 : Sm [d] H H2 := (Ex.sm e1).trans s2
  have r2 : rTask H2 v1 t := Mon.mon (hD.tp s02) r1
  have lk := perm_len pk
  refine ⟨p, _, rfl, SqT.of hp, rfl, w1, _, rfl, .ref a, _, rfl, w3, [], rfl, rfl, ?_⟩
  refine r_asg (ed_trip (r := rRule) (s := rVec) (c := rVec) (x := R) (y := turnV ks t.2.1) (z := turnV ks t.2.2) (ed_var rfl rR) (ev_turnV (ed_t2 (r := rRule) (s := rVec) (c := rVec) (x := t) (ed_var (i := 1) rfl r2)) (ev_v rfl) ha (by omega) (fun k hk => by rw [hs.len]; exact perm_lt pk k hk)) (ev_turnV (ed_t3 (r := rRule) (s := rVec) (c := rVec) (x := t) (ed_var (i := 1) rfl r2)) (ev_v rfl) ha (by omega) (fun k hk => by rw [hg.len]; exact perm_lt pk k hk))) fun w H3 e3 p3 => ?_
  have wt : WfT m (R, turnV ks t.2.1, turnV ks t.2.2) := ⟨wR, ⟨z1, a1, b1, hs.turn pk⟩, ⟨z2, a2, b2, hg.turn pk⟩⟩
  have s03 := s02.trans (Ex.sm e3)
  refine ⟨_, rfl, d, c, 4, rfl, by decide, by decide, d2.ex e3, fun v H4 s4 d4 ⟨r, hr, hlt⟩ => ?_⟩
  subst hr
  have p4 : rTask H4 w (R, turnV ks t.2.1, turnV ks t.2.2) := Mon.mon ((d2.ex e3).tp s4) p3
  have s04 := s03.trans s4
  refine ⟨rfl, ?_⟩
  refine ⟨_, rfl, ?_⟩
  refine ite2 (fun _ => ?_) (fun _ => ?_)
  · exact r_ret (ev_call1 (P := fun v H' => rTask H' v (revT (R, turnV ks t.2.1, turnV ks t.2.2))) (x := (R, turnV ks t.2.1, turnV ks t.2.2)) (ed_var rfl p4) (by show R.2.length ≤ 1000; have := wR.few; omega) hq_d) fun w' H5 e5 p5 => k w' H5 (s04.trans (Ex.sm e5)) (d4.ex e5) ⟨_, p5, wt.rev⟩
  · exact r_ret (ed_var (r := rTask) (x := (R, turnV ks t.2.1, turnV ks t.2.2)) rfl p4) fun w' H5 e5 p5 => k w' H5 (s04.trans (Ex.sm e5)) (d4.ex e5) ⟨_, p5, wt⟩
end
end M
/-! ## P9 -/
/-! Drawn tasks of each kind. -/
namespace M
open PySem L2 Evl PyProof.Rows
def DrTaskE : V → Hp → Prop := fun v H' => ∃ m, 1 ≤ m ∧ m ≤ 6 ∧ DrTask m v H'
def sp__law_heap_task : Sp := fun vs H Q _ => ∃ d c a, ∃ (ns : List Int), vs = [.ref d, .ref a] ∧ a ≠ d ∧ H a = some (.lst (ns.map V.int)) ∧ 1 ≤ ns.length ∧ ns.length ≤ 3 ∧ (∀ n ∈ ns, 1 ≤ n ∧ n ≤ 5) ∧ Dr d c H ∧ QD d c H Q DrTaskE
def sp__law_group_task : Sp := fun vs H Q _ => ∃ d c a, ∃ (ns : List Int), vs = [.ref d, .ref a] ∧ a ≠ d ∧ H a = some (.lst (ns.map V.int)) ∧ ns.length ≤ 3 ∧ (∀ n ∈ ns, 1 ≤ n ∧ n ≤ 3) ∧ Dr d c H ∧ QD d c H Q DrTaskE
def sp__law_chain_task : Sp := fun vs H Q _ => ∃ d c, ∃ (m : Nat), vs = [.ref d, .int m] ∧ 1 ≤ m ∧ m ≤ 6 ∧ Dr d c H ∧ QD d c H Q DrTaskE
def sp__law_random_task : Sp := fun vs H Q _ => ∃ d c, vs = [.ref d] ∧ Dr d c H ∧ QD d c H Q DrTaskE
def sp__law_to_and_fro_task : Sp := fun vs H Q _ => ∃ d c, vs = [.ref d] ∧ Dr d c H ∧ QD d c H Q DrTaskE
def sp__law_task : Sp := fun vs H Q _ => ∃ d c, vs = [.ref d] ∧ Dr d c H ∧ QD d c H Q DrTaskE
/-- a squad -/
def Sq (m : Nat) (x : Vec) : Prop := ∃ sz : Int, 1 ≤ sz ∧ sz ≤ 6 ∧ Hv m sz x
/-! _law_heap_task: slots d 0, numbers 1, heaps 2, many 3, names 4, kinds 5, idle 6, end 7, rows 8, at 9, number 10, kind 11 -/
def N__law_heap_task : List Str := ["d", "numbers", "heaps", "many", "names", "kinds", "idle", "end", "rows", "at", "number", "kind"]
def t__law_heap_task (K : PySem.W.Frag) : TS :=
  (tSeq (tAsg (tCB rMax2 (tCons (tC (.int 1)) (tCons (tOp oSub (tCB (L2.rMax K) (tCons (tCB (rListS K) (tCons (tVar 1) tNil)) tNil)) (tC (.int 1))) tNil))) (gName 2))
  (tSeq (tAsg (tOp oAdd (tVar 2) (tC (.int 2))) (gName 3))
  (tSeq (tAsg (tCall sp__law_pool [] E0 tNil) (gName 4))
  (tSeq (tAsg (tCB (rTupOf K) (tCons (tLc (iRng1 (tCons (tVar 3) tNil)) (gName 11) tYes (tCall sp__law_pop [] E0 (tCons (tVar 0) (tCons (tVar 4) tNil))) [11]) tNil)) (gName 5))
  (tSeq (tPar 6 7 (tCons (tOp oSub (tVar 3) (tC (.int 2))) (tCons (tOp oSub (tVar 3) (tC (.int 1))) tNil)))
  (tSeq (tAsg (tLst tNil) (gName 8))
  (tSeq (tFor (iRng1 (tCons (tOp oSub (tVar 2) (tC (.int 1))) tNil)) (gName 9) (tDrop (tBM K "list" rAppend (tVar 8) (tCons (tTup (tCons (tCall sp__law_pop [] E0 (tCons (tVar 0) (tCons (tVar 4) tNil))) (tCons (tCall sp__law_listed [] E0 (tCons (tVar 3) (tCons (tLst (tCons (tVar 9) (tCons (tC (.int 0)) tNil))) tNil))) (tCons (tCall sp__law_listed [] E0 (tCons (tVar 3) (tCons (tLst (tCons (tOp oAdd (tVar 9) (tC (.int 1))) (tCons (tVar 6) tNil))) tNil))) tNil)))) tNil))))
  (tSeq (tFor (iList K (tVar 1)) (gName 10) (tIfS (tTest (tOp rEq (tVar 10) (tC (.int 1)))) (tDrop (tBM K "list" rAppend (tVar 8) (tCons (tTup (tCons (tCall sp__law_pop [] E0 (tCons (tVar 0) (tCons (tVar 4) tNil))) (tCons (tCall sp__law_listed [] E0 (tCons (tVar 3) (tCons (tLst (tCons (tC (.int 0)) tNil)) tNil))) (tCons (tCall sp__law_listed [] E0 (tCons (tVar 3) (tCons (tLst (tCons (tVar 7) tNil)) tNil))) tNil)))) tNil))) (tDrop (tBM K "list" rAppend (tVar 8) (tCons (tTup (tCons (tCall sp__law_pop [] E0 (tCons (tVar 0) (tCons (tVar 4) tNil))) (tCons (tCall sp__law_listed [] E0 (tCons (tVar 3) (tCons (tLst (tCons (tOp oSub (tVar 10) (tC (.int 2))) (tCons (tC (.int 0)) tNil))) tNil))) (tCons (tCall sp__law_listed [] E0 (tCons (tVar 3) (tCons (tLst (tCons (tVar 7) (tCons (tVar 6) tNil))) tNil))) tNil)))) tNil)))))
  (tSeq (tDrop (tBM K "list" rAppend (tVar 8) (tCons (tTup (tCons (tCall sp__law_pop [] E0 (tCons (tVar 0) (tCons (tVar 4) tNil))) (tCons (tCall sp__law_listed [] E0 (tCons (tVar 3) (tCons (tLst (tCons (tVar 6) (tCons (tVar 7) tNil))) tNil))) (tCons (tCall sp__law_listed [] E0 (tCons (tVar 3) (tCons (tLst (tCons (tVar 7) (tCons (tVar 7) tNil))) tNil))) tNil)))) tNil)))
  (tRet (tTup (tCons (tTup (tCons (tVar 5) (tCons (tCB (rTupOf K) (tCons (tVar 8) tNil)) tNil))) (tCons (tCall sp__law_listed [] E0 (tCons (tVar 3) (tCons (tLst (tCons (tC (.int 0)) tNil)) tNil))) (tCons (tCall sp__law_listed [] E0 (tCons (tVar 3) (tCons (tLst (tCons (tVar 7) tNil)) tNil))) tNil))))))))))))))
/-! _law_group_task: slots d 0, sizes 1, names 2, kinds 3, rows 4, size 5, kind 6 -/
def N__law_group_task : List Str := ["d", "sizes", "names", "kinds", "rows", "size", "kind"]
def t__law_group_task (K : PySem.W.Frag) : TS :=
  (tSeq (tAsg (tCall sp__law_pool [] E0 tNil) (gName 2))
  (tSeq (tAsg (tCB (rTupOf K) (tCons (tLc (iRng1 (tCons (tC (.int 3)) tNil)) (gName 6) tYes (tCall sp__law_pop [] E0 (tCons (tVar 0) (tCons (tVar 2) tNil))) [6]) tNil)) (gName 3))
  (tSeq (tAsg (tLst tNil) (gName 4))
  (tSeq (tFor (iList K (tVar 1)) (gName 5) (tDrop (tBM K "list" rAppend (tVar 4) (tCons (tTup (tCons (tCall sp__law_pop [] E0 (tCons (tVar 0) (tCons (tVar 2) tNil))) (tCons (tTup (tCons (tVar 5) (tCons (tC (.int 0)) (tCons (tC (.int 0)) tNil)))) (tCons (tTup (tCons (tC (.int 0)) (tCons (tVar 5) (tCons (tC (.int 0)) tNil)))) tNil)))) tNil))))
  (tSeq (tIfS (tTest (tOp rEq (tCall sp__law_draw [] E0 (tCons (tVar 0) (tCons (tC (.int 2)) tNil))) (tC (.int 1)))) (tDrop (tBM K "list" rAppend (tVar 4) (tCons (tTup (tCons (tCall sp__law_pop [] E0 (tCons (tVar 0) (tCons (tVar 2) tNil))) (tCons (tTup (tCons (tC (.int 0)) (tCons (tC (.int 2)) (tCons (tC (.int 0)) tNil)))) (tCons (tTup (tCons (tC (.int 1)) (tCons (tC (.int 0)) (tCons (tC (.int 1)) tNil)))) tNil)))) tNil))) tNext)
  (tRet (tTup (tCons (tTup (tCons (tVar 3) (tCons (tCB (rTupOf K) (tCons (tVar 4) tNil)) tNil))) (tCons (tTup (tCons (tC (.int 1)) (tCons (tC (.int 0)) (tCons (tC (.int 0)) tNil)))) (tCons (tTup (tCons (tC (.int 0)) (tCons (tC (.int 1)) (tCons (tC (.int 0)) tNil)))) tNil))))))))))
/-! _law_chain_task: slots d 0, many 1, names 2, kinds 3, rows 4, at 5, size 6, going 7, takes 8, gives 9, helper 10, kind 11 -/
def N__law_chain_task : List Str := ["d", "many", "names", "kinds", "rows", "at", "size", "going", "takes", "gives", "helper", "kind"]
def t__law_chain_task (K : PySem.W.Frag) : TS :=
  (tSeq (tAsg (tCall sp__law_pool [] E0 tNil) (gName 2))
  (tSeq (tAsg (tCB (rTupOf K) (tCons (tLc (iRng1 (tCons (tVar 1) tNil)) (gName 11) tYes (tCall sp__law_pop [] E0 (tCons (tVar 0) (tCons (tVar 2) tNil))) [11]) tNil)) (gName 3))
  (tSeq (tAsg (tLst tNil) (gName 4))
  (tSeq (tFor (iRng1 (tCons (tOp oSub (tVar 1) (tC (.int 1))) tNil)) (gName 5) (tSeq (tAsg (tOp oAdd (tC (.int 1)) (tCall sp__law_draw [] E0 (tCons (tVar 0) (tCons (tC (.int 3)) tNil)))) (gName 6))
  (tSeq (tAsg (tOp oAdd (tC (.int 1)) (tCall sp__law_draw [] E0 (tCons (tVar 0) (tCons (tVar 6) tNil)))) (gName 7))
  (tSeq (tAsg (tLc (iRng1 (tCons (tVar 1) tNil)) (gName 11) tYes (tC (.int 0)) [11]) (gName 8))
  (tSeq (tAsg (tLc (iRng1 (tCons (tVar 1) tNil)) (gName 11) tYes (tC (.int 0)) [11]) (gName 9))
  (tSeq (tAsg (tVar 7) (gSub (tVar 8) (tVar 5) rSetL))
  (tSeq (tAsg (tVar 7) (gSub (tVar 9) (tOp oAdd (tVar 5) (tC (.int 1))) rSetL))
  (tSeq (tIfS (tTest (tOp oGt (tVar 6) (tVar 7))) (tSeq (tAsg (tCall sp__law_draw [] E0 (tCons (tVar 0) (tCons (tVar 1) tNil))) (gName 10))
  (tSeq (tAugS (tVar 8) (tVar 10) (tOp oSub (tVar 6) (tVar 7)) (rIxL K) (ipI fun i j => i + j) rSetL)
  (tAugS (tVar 9) (tVar 10) (tOp oSub (tVar 6) (tVar 7)) (rIxL K) (ipI fun i j => i + j) rSetL))) tNext)
  (tDrop (tBM K "list" rAppend (tVar 4) (tCons (tTup (tCons (tCall sp__law_pop [] E0 (tCons (tVar 0) (tCons (tVar 2) tNil))) (tCons (tCB (rTupOf K) (tCons (tVar 8) tNil)) (tCons (tCB (rTupOf K) (tCons (tVar 9) tNil)) tNil)))) tNil)))))))))))
  (tSeq (tIfS (tTest (tOp rEq (tCall sp__law_draw [] E0 (tCons (tVar 0) (tCons (tC (.int 2)) tNil))) (tC (.int 1)))) (tDrop (tBM K "list" rAppend (tVar 4) (tCons (tCall sp__law_deed [] E0 (tCons (tVar 0) (tCons (tCall sp__law_pop [] E0 (tCons (tVar 0) (tCons (tVar 2) tNil))) (tCons (tVar 1) tNil)))) tNil))) tNext)
  (tRet (tTup (tCons (tTup (tCons (tVar 3) (tCons (tCB (rTupOf K) (tCons (tVar 4) tNil)) tNil))) (tCons (tCall sp__law_listed [] E0 (tCons (tVar 1) (tCons (tLst (tCons (tC (.int 0)) tNil)) tNil))) (tCons (tCall sp__law_listed [] E0 (tCons (tVar 1) (tCons (tLst (tCons (tOp oSub (tVar 1) (tC (.int 1))) tNil)) tNil))) tNil))))))))))
/-! _law_random_task: slots d 0, many 1, rule 2, size 3 -/
def N__law_random_task : List Str := ["d", "many", "rule", "size"]
def t__law_random_task (K : PySem.W.Frag) : TS :=
  (tSeq (tAsg (tOp oAdd (tC (.int 2)) (tCall sp__law_draw [] E0 (tCons (tVar 0) (tCons (tC (.int 3)) tNil)))) (gName 1))
  (tSeq (tAsg (tCall sp__law_rule [] E0 (tCons (tVar 0) (tCons (tVar 1) (tCons (tCall sp__law_draw [] E0 (tCons (tVar 0) (tCons (tC (.int 6)) tNil))) tNil)))) (gName 2))
  (tSeq (tAsg (tOp oAdd (tC (.int 1)) (tCall sp__law_draw [] E0 (tCons (tVar 0) (tCons (tC (.int 2)) tNil)))) (gName 3))
  (tRet (tTup (tCons (tVar 2) (tCons (tCall sp__law_heap [] E0 (tCons (tVar 0) (tCons (tVar 1) (tCons (tVar 3) tNil)))) (tCons (tCall sp__law_heap [] E0 (tCons (tVar 0) (tCons (tVar 1) (tCons (tVar 3) tNil)))) tNil))))))))
/-! _law_to_and_fro_task: slots d 0, rule 1, start 2, goal 3, name 4, takes 5, gives 6 -/
def N__law_to_and_fro_task : List Str := ["d", "rule", "start", "goal", "name", "takes", "gives"]
def t__law_to_and_fro_task (K : PySem.W.Frag) : TS :=
  (tSeq (tAsg (tCall sp__law_random_task [] E0 (tCons (tVar 0) tNil)) (gTup K 3 (gCons (gName 1) (gCons (gName 2) (gCons (gName 3) gNil)))))
  (tSeq (tIfS (tTest (tOp rEq (tCB (rLenS K) (tCons (tOp (rIxT K) (tVar 1) (tC (.int 1))) tNil)) (tC (.int 0)))) (tRet (tTup (tCons (tVar 1) (tCons (tVar 2) (tCons (tVar 2) tNil))))) tNext)
  (tSeq (tAsg (tCall sp__law_pick [] E0 (tCons (tVar 0) (tCons (tOp (rIxT K) (tVar 1) (tC (.int 1))) tNil))) (gTup K 3 (gCons (gName 4) (gCons (gName 5) (gCons (gName 6) gNil)))))
  (tRet (tTup (tCons (tVar 1) (tCons (tVar 5) (tCons (tVar 6) tNil))))))))
/-! _law_task: slots d 0, way 1, task 2 -/
def N__law_task : List Str := ["d", "way", "task"]
def t__law_task (K : PySem.W.Frag) : TS :=
  (tSeq (tAsg (tCall sp__law_draw [] E0 (tCons (tVar 0) (tCons (tC (.int 8)) tNil))) (gName 1))
  (tSeq (tIfS (tTest (tOp rEq (tVar 1) (tC (.int 0)))) (tAsg (tCall sp__law_heap_task [] E0 (tCons (tVar 0) (tCons (tLst (tCons (tC (.int 2)) (tCons (tC (.int 3)) tNil))) tNil))) (gName 2)) (tIfS (tTest (tOp rEq (tVar 1) (tC (.int 1)))) (tAsg (tCall sp__law_group_task [] E0 (tCons (tVar 0) (tCons (tLst (tCons (tOp oAdd (tC (.int 2)) (tCall sp__law_draw [] E0 (tCons (tVar 0) (tCons (tC (.int 2)) tNil)))) tNil)) tNil))) (gName 2)) (tIfS (tTest (tOp rEq (tVar 1) (tC (.int 2)))) (tAsg (tCall sp__law_chain_task [] E0 (tCons (tVar 0) (tCons (tOp oAdd (tC (.int 2)) (tCall sp__law_draw [] E0 (tCons (tVar 0) (tCons (tC (.int 3)) tNil)))) tNil))) (gName 2)) (tIfS (tTest (tOp rEq (tVar 1) (tC (.int 3)))) (tAsg (tCall sp__law_to_and_fro_task [] E0 (tCons (tVar 0) tNil)) (gName 2)) (tIfS (tTest (tOp rEq (tVar 1) (tC (.int 4)))) (tAsg (tCall sp__law_group_task [] E0 (tCons (tVar 0) (tCons (tLst (tCons (tC (.int 2)) (tCons (tC (.int 3)) tNil))) tNil))) (gName 2)) (tIfS (tTest (tOp rEq (tVar 1) (tC (.int 5)))) (tAsg (tCall sp__law_heap_task [] E0 (tCons (tVar 0) (tCons (tLst (tCons (tCall sp__law_pick [] E0 (tCons (tVar 0) (tCons (tLst (tCons (tC (.int 1)) (tCons (tC (.int 2)) (tCons (tC (.int 3)) (tCons (tC (.int 4)) tNil))))) tNil))) tNil)) tNil))) (gName 2)) (tAsg (tCall sp__law_random_task [] E0 (tCons (tVar 0) tNil)) (gName 2))))))))
  (tRet (tCall sp__law_mixed_task [] E0 (tCons (tVar 0) (tCons (tVar 2) tNil))))))
section
variable {K : PySem.W.Frag} {σ : L2.St} {H : Hp} {tk tr ta tb tm tl te : TE} {Q : VK} {m : Nat} {D : Ends}
theorem r_retTask {ks : List Str} (hk : Ed tk σ H (rT rS) ks) (hr : EvP tr σ H (fun v H' => ∃ rows, rT rDeed H' v rows ∧ rows.length ≤ 8 ∧ ∀ dd ∈ rows, WfD m dd)) (ha : EvP ta σ H (fun v H' => ∃ x, rVec H' v x ∧ Sq m x)) (hb : EvP tb σ H (fun v H' => ∃ x, rVec H' v x ∧ Sq m x)) (hks : ks.length = m)
    (k : ∀ w H', Ex H H' → DrTask m w H' → D.rt w H') : tRet (tTup (tCons (tTup (tCons tk (tCons tr tNil))) (tCons ta (tCons tb tNil)))) D σ H :=
  hk.run fun v1 H1 e1 p1 => (hr.mono e1).run fun v2 H2 e2 ⟨rows, p2, l2, w2⟩ => ⟨by show 2 ≤ sizeLine; decide, fun q nq => by
    have e3 := Ex.new (o := .tup [v1, v2]) nq
    refine (ha.mono ((e1.trans e2).trans e3)).run fun v3 H3 e4 ⟨x, p3, s3⟩ => (hb.mono (((e1.trans e2).trans e3).trans e4)).run fun v4 H4 e5 ⟨y, p4, s4⟩ => ⟨by show 3 ≤ sizeLine; decide, fun q2 nq2 => ?_⟩
    have e6 := Ex.new (o := .tup [.ref q, v3, v4]) nq2
    refine k _ _ (((((e1.trans e2).trans e3).trans e4).trans e5).trans e6) ⟨((ks, rows), x, y), ⟨q2, _, _, _, rfl, upd_same, ⟨q, v1, v2, rfl, ((e4.trans e5).trans e6) _ _ upd_same, mon ((((e2.trans e3).trans e4).trans e5).trans e6) p1, mon (((e3.trans e4).trans e5).trans e6) p2⟩, mon (e5.trans e6) p3, mon e6 p4⟩, ⟨hks, l2, w2⟩, s3, s4⟩⟩
theorem ev_listedS {ks : List Nat} (hm : Ed tm σ H rI (m : Int)) (hl : El tl σ H rN ks) (h1 : m ≤ 1000) (h0 : 1 ≤ ks.length) (h2 : ks.length ≤ 6) (h3 : ∀ k ∈ ks, k < m) :
    EvP (tCall sp__law_listed [] E0 (tCons tm (tCons tl tNil))) σ H (fun v H' => ∃ x, rVec H' v x ∧ Sq m x) :=
  (ev_listed hm hl h1 (by omega) h3).imp fun v H1 e ⟨x, hx, hv, _⟩ => ⟨x, hx, ks.length, by omega, by omega, hv⟩
theorem ev_listedH {ks : List Nat} (n : Nat) (hm : Ed tm σ H rI (m : Int)) (hl : El tl σ H rN ks) (h1 : m ≤ 1000) (h2 : ks.length = n) (hn : n ≤ 3) (h3 : ∀ k ∈ ks, k < m) :
    EvP (tCall sp__law_listed [] E0 (tCons tm (tCons tl tNil))) σ H (fun v H' => ∃ x, rVec H' v x ∧ Hv m n x) :=
  (ev_listed hm hl h1 (by omega) h3).imp fun v H1 e ⟨x, hx, hv, _⟩ => ⟨x, hx, by rw [h2] at hv; exact hv⟩
theorem el_1 {t1 : TE} {i : Nat} (h : Ed t1 σ H rN i) : El (tLst (tCons t1 tNil)) σ H rN [i] := el_lst (es_cons h es_nil) (by simp)
theorem el_2 {t1 t2 : TE} {i j : Nat} (h : Ed t1 σ H rN i) (h' : Ed t2 σ H rN j) : El (tLst (tCons t1 (tCons t2 tNil))) σ H rN [i, j] := el_lst (es_cons h (es_cons h' es_nil)) (by simp)
theorem mem_1 {i m : Nat} (h : i < m) : ∀ k ∈ [i], k < m := fun k hk => by rw [List.mem_singleton.mp hk]; exact h
theorem mem_2 {i j m : Nat} (h : i < m) (h' : j < m) : ∀ k ∈ [i, j], k < m := fun k hk => by
  rcases List.mem_cons.mp hk with z | z
  · rw [z]; exact h
  · rw [List.mem_singleton.mp z]; exact h'
theorem ed_n {n : Nat} : Ed (tC (.int (n : Int))) σ H rN n := fun H1 _ _ q => q _ H1 (Ex.refl H1) rfl
end
section
variable {K : PySem.W.Frag} {vs : List V} {H : Hp} {Q : VK} {E : XK}
/-- where the rows begin: a new empty list -/
theorem r_rows {σ : L2.St} {i : Nat} {D : Ends} {tz : TS} (k : ∀ rw H1, H rw = none → Ex H H1 → H1 rw = some (.lst []) → tz D (σ.set i (some (.ref rw))) H1) : tSeq (tAsg (tLst tNil) (gName i)) tz D σ H :=
  r_asg (el_lst (r := rV) (xs := []) es_nil (Nat.zero_le _)) fun v H1 e1 ⟨b, us, hv, nb, hb, pr⟩ => by
    subst hv
    obtain rfl : us = [] := rv_eq pr
    exact k b H1 nb e1 hb
theorem pure__law_heap_task (h : sp__law_heap_task vs H Q E) : t__law_heap_task K { nx := fun _ H' => Q .non H', rt := Q } (start N__law_heap_task vs) H := by
  obtain ⟨d, c, a, ns, rfl, had, ha, n1, n3, hns, hD, k⟩ := h
  obtain ⟨hp, hp1, hp2, hp3⟩ : ∃ hp : Nat, ((if lmax ns - 1 > 1 then lmax ns - 1 else 1 : Int) = (hp : Int)) ∧ 1 ≤ hp ∧ hp ≤ 4 ∧ ∀ n ∈ ns, n ≤ (hp : Int) + 1 := by
    have hm := lmax_mem (xs := ns) (by intro e; rw [e] at n1; simp at n1)
    have hb := hns _ hm
    refine ⟨(if lmax ns - 1 > 1 then lmax ns - 1 else 1 : Int).toNat, ?_, ?_, ?_, fun n hn => ?_⟩
    · split <;> omega
    · split <;> omega
    · split <;> omega
    · have := lmax_le n hn
      split <;> omega
  obtain ⟨hp4, hp5⟩ := hp3
  refine r_asg (ed_max2 (ed_int (n := 1)) (ed_sub (ed_max (El.ed (el_listL (r := rI) (xs := ns) (ed_var rfl ⟨a, _, rfl, ha, int_rs ns⟩))) (by omega)) (ed_int (n := 1)))) fun v H1 e1 p1 => ?_
  rw [hp1] at p1
  cases p1
  refine r_asg (ed_add (ed_var (r := rI) (x := (hp : Int)) rfl rfl) (ed_int (n := 2))) fun v H2 e2 p2 => ?_
  have em : (hp : Int) + 2 = ((hp + 2 : Nat) : Int) := by omega
  rw [em] at p2
  cases p2
  generalize hm : hp + 2 = m at *
  have e02 := e1.trans e2
  refine r_pool fun l H3 nl e3 nl3 => ?_
  have nl0 : H l = none := fresh_back e02 nl
  obtain ⟨ld, lc⟩ := hD.ned nl0
  have e03 := e02.trans e3
  refine r_kinds (d := d) (c := c) (l := l) (n := m) (q := 20) rfl rfl (by decide) (by decide) (ed_var rfl rfl) (by omega) ld lc (hD.ex e03) (nl3.less (by omega)) fun p H4 ks s4 d4 nl4 hk4 hks => ?_
  have s04 : Sm [d] H H4 := ((Ex.sm e03).trans s4).less nl0
  refine (ed_sub (ed_var (r := rI) (i := 3) (x := (m : Int)) rfl rfl) (ed_int (n := 2))).run fun v H5 e5 p5 => ?_
  refine (ed_sub (ed_var (r := rI) (i := 3) (x := (m : Int)) rfl rfl) (ed_int (n := 1))).run fun w H6 e6 p6 => ?_
  have ei : (m : Int) - 2 = ((hp : Nat) : Int) := by omega
  have ee : (m : Int) - 1 = ((hp + 1 : Nat) : Int) := by omega
  rw [ei] at p5
  rw [ee] at p6
  cases p5; cases p6
  refine ⟨_, _, rfl, ?_⟩
  refine r_rows fun rw H7 nr e7 hr7 => ?_
  have e46 := e5.trans e6
  have e47 := e46.trans e7
  have s06 : Sm [d] H H6 := s04.trans (Ex.sm e46)
  have nr0 : H rw = none := by
    cases hq : H rw with
    | none => rfl
    | some o =>
      exfalso
      by_cases hz : rw = d
      · obtain ⟨xs, h4⟩ := (d4.ex e46).lst
        rw [hz, h4] at nr; cases nr
      · rw [s06 _ _ (by simp [hz]) hq] at nr; cases nr
  have lr : l ≠ rw := by
    obtain ⟨xs, h4⟩ := (nl4.ex e46).lst
    exact ne_of_none h4 nr
  have B : BSt d c l rw H H7 := ⟨s04.trans (Ex.sm e47), hD, d4.ex e47, nl0, nr0, lr, (nl4.ex e47).lst, ⟨_, hr7⟩⟩
  have b0 : Bld m d c l rw H7 H7 20 0 := ⟨Sm.refl _ _, d4.ex e47, nl4.ex e47, [], [], hr7, .nil, rfl, fun _ h => by cases h⟩
  have hk7 : rT rS H7 (.ref p) ks := mon e47 hk4
  have ha7 : H7 a = some (.lst (ns.map V.int)) := e47 _ _ (s04 _ _ (by simp [had]) ha)
  have al : a ≠ l := ne_of_none ha nl0
  have ar : a ≠ rw := ne_of_none ha nr0
  have hM : ∀ (σ : L2.St) H', σ[3]? = some (some (V.int (m : Int))) → Ed (tVar 3) σ H' rI (m : Int) := fun σ H' h => ed_var h rfl
  have hI : ∀ (σ : L2.St) H', σ[6]? = some (some (V.int (hp : Int))) → Ed (tVar 6) σ H' rN hp := fun σ H' h => ed_var h rfl
  have hE : ∀ (σ : L2.St) H', σ[7]? = some (some (V.int ((hp + 1 : Nat) : Int))) → Ed (tVar 7) σ H' rN (hp + 1) := fun σ H' h => ed_var h rfl
  -- for at in range(heaps - 1)
  refine r_forN (n := hp - 1) (Ed.to (ed_sub (ed_var (r := rI) (x := (hp : Int)) rfl rfl) (ed_int (n := 1))) (by omega)) (by omega)
    (fun i σ H' => ∃ av, σ = [some (.ref d), some (.ref a), some (.int hp), some (.int m), some (.ref l), some (.ref p), some (.int hp), some (.int ((hp + 1 : Nat) : Int)), some (.ref rw), av, none, none] ∧ Bld m d c l rw H7 H' (20 - i) i)
    (fun H8 e8 => ⟨none, rfl, b0.ex e8⟩) ?_ ?_
  · rintro i σ H8 hi ⟨av, rfl, b8⟩
    have hA : ∀ (σ : L2.St) H', σ[9]? = some (some (V.int (i : Int))) → Ed (tVar 9) σ H' rN i := fun σ H' h => ed_var h rfl
    refine bld_rowN (q := 20 - (i + 1)) B (by rw [show 20 - (i + 1) + 1 = 20 - i by omega]; exact b8) (by omega) rfl rfl rfl (PA := Hv m 2) (PB := Hv m 2) (fun H9 _ => ev_listedH 2 (hM _ _ rfl) (el_2 (hA _ _ rfl) (ed_n (n := 0))) (by omega) rfl (by decide) (mem_2 (by omega) (by omega)))
      (fun H9 _ => ev_listedH 2 (hM _ _ rfl) (el_2 (ed_nat (ed_add (ed_var (r := rI) (x := (i : Int)) rfl rfl) (ed_int (n := 1))) (by omega) (n := i + 1)) (hI _ _ rfl)) (by omega) rfl (by decide) (mem_2 (by omega) (by omega))) (fun z x y hx hy => ⟨2, by decide, by decide, hx, hy⟩) fun H9 b9 _ => ⟨_, rfl, b9⟩
  · rintro σ H8 ⟨av, rfl, b8⟩
    -- for number in numbers
    have keepA : ∀ H' q n, Bld m d c l rw H7 H' q n → H' a = some (.lst (ns.map V.int)) := fun H' q n b => b.sm _ _ (by simp [had, al, ar]) ha7
    refine r_forLa (a := a) (us := ns.map V.int) (ev_v rfl) (keepA _ _ _ b8) (fun i σ H' => ∃ av bv, σ = [some (.ref d), some (.ref a), some (.int hp), some (.int m), some (.ref l), some (.ref p), some (.int hp), some (.int ((hp + 1 : Nat) : Int)), some (.ref rw), av, bv, none] ∧ i ≤ ns.length ∧ Bld m d c l rw H7 H' (20 - (hp - 1) - i) (hp - 1 + i))
      (fun H9 e9 => ⟨av, none, rfl, Nat.zero_le _, b8.ex e9⟩) (fun i σ H' ⟨_, _, _, _, b⟩ => keepA _ _ _ b) ?_ ?_
    · rintro i v σ H9 hi ⟨av, bv, rfl, hil, b9⟩
      rw [List.getElem?_map] at hi
      obtain ⟨n, hn, hv⟩ : ∃ n, ns[i]? = some n ∧ v = .int n := by
        cases hq : ns[i]? with
        | none => rw [hq] at hi; cases hi
        | some y => rw [hq] at hi; exact ⟨y, rfl, (Option.some.inj hi).symm⟩
      subst hv
      have hmem := List.mem_of_getElem? hn
      have hilt : i < ns.length := (List.getElem?_eq_some_iff.mp hn).1
      have hb := hns n hmem
      have hb2 := hp5 n hmem
      have hN : ∀ (σ : L2.St) H', σ[10]? = some (some (V.int n)) → Ed (tVar 10) σ H' rI n := fun σ H' h => ed_var h rfl
      refine r_ifN (et_test' (ed_eqI (hN _ _ rfl) (ed_int (n := 1)))) ?_ ?_
      · intro _ H10 e10
        refine bld_rowN (q := 20 - (hp - 1) - (i + 1)) (n := hp - 1 + i) B (by rw [show 20 - (hp - 1) - (i + 1) + 1 = 20 - (hp - 1) - i by omega]; exact b9.ex e10) (by omega) rfl rfl rfl (PA := Hv m 1) (PB := Hv m 1) (fun H9 _ => ev_listedH 1 (hM _ _ rfl) (el_1 (ed_n (n := 0))) (by omega) rfl (by decide) (mem_1 (by omega)))
          (fun H9 _ => ev_listedH 1 (hM _ _ rfl) (el_1 (hE _ _ rfl)) (by omega) rfl (by decide) (mem_1 (by omega))) (fun z x y hx hy => ⟨1, by decide, by decide, hx, hy⟩) fun H9 b9 _ => ⟨_, _, rfl, by omega, b9⟩
      · intro hne H10 e10
        have hn1 : ¬ n = 1 := of_decide_eq_false hne
        refine bld_rowN (q := 20 - (hp - 1) - (i + 1)) (n := hp - 1 + i) B (by rw [show 20 - (hp - 1) - (i + 1) + 1 = 20 - (hp - 1) - i by omega]; exact b9.ex e10) (by omega) rfl rfl rfl (PA := Hv m 2) (PB := Hv m 2) (fun H9 _ => ev_listedH 2 (hM _ _ rfl) (el_2 (ed_nat (ed_sub (hN _ _ rfl) (ed_int (n := 2))) (n := (n - 2).toNat) (by omega)) (ed_n (n := 0))) (by omega) rfl (by decide) (mem_2 (by omega) (by omega)))
          (fun H9 _ => ev_listedH 2 (hM _ _ rfl) (el_2 (hE _ _ rfl) (hI _ _ rfl)) (by omega) rfl (by decide) (mem_2 (by omega) (by omega))) (fun z x y hx hy => ⟨2, by decide, by decide, hx, hy⟩) fun H9 b9 _ => ⟨_, _, rfl, by omega, b9⟩
    · rintro σ H9 ⟨av, bv, rfl, hil, b9⟩
      rw [List.length_map] at b9
      refine bld_row (P := fun _ => True) (q := 20 - (hp - 1) - (ns.length + 1)) (n := hp - 1 + ns.length) B (by rw [show 20 - (hp - 1) - (ns.length + 1) + 1 = 20 - (hp - 1) - ns.length by omega]; exact b9) (by omega) rfl rfl rfl (PA := Hv m 2) (PB := Hv m 2) (fun H9 _ => ev_listedH 2 (hM _ _ rfl) (el_2 (hI _ _ rfl) (hE _ _ rfl)) (by omega) rfl (by decide) (mem_2 (by omega) (by omega)))
          (fun H9 _ => ev_listedH 2 (hM _ _ rfl) (el_2 (hE _ _ rfl) (hE _ _ rfl)) (by omega) rfl (by decide) (mem_2 (by omega) (by omega))) (fun z x y hx hy => ⟨2, by decide, by decide, hx, hy⟩) fun H10 b10 _ => ?_
      have hk10 : rT rS H10 (.ref p) ks := Mon.mon (B.tp b10.sm) hk7
      refine r_retTask (m := m) (ks := ks) (ed_var rfl hk10) ((ed_rows b10 rfl).imp fun v H' e ⟨rows, h1, h2, h3⟩ => ⟨rows, h1, by omega, h3⟩) (ev_listedS (hM _ _ rfl) (el_1 (ed_n (n := 0))) (by omega) (by simp) (by simp) (mem_1 (by omega))) (ev_listedS (hM _ _ rfl) (el_1 (hE _ _ rfl)) (by omega) (by simp) (by simp) (mem_1 (by omega))) hks fun w H11 e11 hw => ?_
      exact k w H11 ((B.out b10.sm).trans (Ex.sm e11)) (b10.dr.ex e11) ⟨m, by omega, by omega, hw⟩
end
end M
/-! ## P10 -/
/-! Drawn tasks, further. -/
namespace M
open PySem L2 Evl PyProof.Rows
section
variable {K : PySem.W.Frag} {vs : List V} {H : Hp} {Q : VK} {E : XK}
/-- the beginning that all of these have in common: names at l, kinds at p, rows at rw -/
theorem bst_mk {d c l rw : Addr} {H0 H1 H2 H3 : Hp} {q : Nat} (hD : Dr d c H0) (s2 : Sm [d] H0 H2) (d2 : Dr d c H2) (nl0 : H0 l = none) (nl2 : NL l H2 q) (nr : H2 rw = none) (e3 : Ex H2 H3) (hr : H3 rw = some (.lst [])) :
    BSt d c l rw H0 H3 := by
  have nr0 : H0 rw = none := by
    cases hq : H0 rw with
    | none => rfl
    | some o =>
      exfalso
      by_cases hz : rw = d
      · obtain ⟨xs, h4⟩ := d2.lst
        rw [hz, h4] at nr; cases nr
      · rw [s2 _ _ (by simp [hz]) hq] at nr; cases nr
  have lr : l ≠ rw := by
    obtain ⟨xs, h4⟩ := nl2.lst
    exact ne_of_none h4 nr
  exact ⟨s2.trans (Ex.sm e3), hD, d2.ex e3, nl0, nr0, lr, (nl2.ex e3).lst, ⟨_, hr⟩⟩
theorem bld_mk {m : Nat} {d c l rw : Addr} {H2 H3 : Hp} {q : Nat} (d2 : Dr d c H2) (nl2 : NL l H2 q) (e3 : Ex H2 H3) (hr : H3 rw = some (.lst [])) : Bld m d c l rw H3 H3 q 0 :=
  ⟨Sm.refl _ _, d2.ex e3, nl2.ex e3, [], [], hr, .nil, rfl, fun _ h => by cases h⟩
theorem Bld.other {m : Nat} {d c l rw a : Addr} {Hb H' : Hp} {q n : Nat} {xs ys : List V} (h : Bld m d c l rw Hb H' q n) (hb : Hb a = none) (ha : H' a = some (.lst xs)) (n1 : a ≠ d) (n2 : a ≠ c) (n3 : a ≠ l) (n4 : a ≠ rw) : Bld m d c l rw Hb (upd H' a (.lst ys)) q n := by
  obtain ⟨sm, dr, ⟨ws, w1, w2⟩, us, rows, h1, h2, h3⟩ := h
  exact ⟨sm.new hb, dr.other n1 n2, ⟨ws, by rw [upd_ne n3.symm]; exact w1, w2⟩, us, rows, by rw [upd_ne n4.symm]; exact h1, monT (tp_lst ha) h2, h3⟩
theorem at0_zero (m j : Nat) : at0 ((List.range m).map fun _ => (0 : Int)) j = 0 := by
  unfold at0
  rw [List.getD_eq_getElem?_getD, List.getElem?_map]
  cases (List.range m)[j]? <;> rfl
/-- rows.append(_law_deed(d, _law_pop(d, names), many)) -/
theorem bld_deedN {σ : L2.St} {D : Ends} {m q n : Nat} {d c l rw : Addr} {H0 Hb H' : Hp} {id il ir im : Nat} (b : BSt d c l rw H0 Hb) (h : Bld m d c l rw Hb H' (q + 1) n) (m1 : 1 ≤ m) (m6 : m ≤ 100) (hn : n ≤ 100) (hid : σ[id]? = some (some (.ref d))) (hil : σ[il]? = some (some (.ref l))) (hir : σ[ir]? = some (some (.ref rw))) (him : σ[im]? = some (some (.int (m : Int))))
    (k : ∀ H1, Bld m d c l rw Hb H1 q (n + 1) → D.nx σ H1) :
    tDrop (tBM K "list" rAppend (tVar ir) (tCons (tCall sp__law_deed [] E0 (tCons (tVar id) (tCons (tCall sp__law_pop [] E0 (tCons (tVar id) (tCons (tVar il) tNil))) (tCons (tVar im) tNil)))) tNil)) D σ H' := by
  obtain ⟨us, rows, hu, _⟩ := h.ro
  obtain ⟨n1, n2, n3, n4⟩ := b.ne
  refine ⟨_, hir, .inl ⟨rfl, _, SqL.of hu⟩, _, hid, _, hid, _, hil, pop_str (E := E0) (q := q) n1 n2 h.dr h.nl fun z H1 s1 d1 nl1 => ?_⟩
  have b1 := h.popped b s1 d1 nl1
  refine ⟨_, him, d, c, z, m, rfl, m1, m6, d1, fun w H2 s2 d2 ⟨dd, hdd, wdd⟩ => ?_⟩
  have b2 := b1.drawn b s2 d2
  have hu2 := s2 _ _ (by simp [n3]) (s1 _ _ (by simp [n3, b.lr.symm]) hu)
  exact ⟨rw, us, w, rfl, rfl, hu2, sz_lt (by rw [b2.len hu2]; omega), k _ (b2.app b hu2 hdd wdd)⟩
theorem ev_vec3 {σ : L2.St} {H : Hp} {a b c : TE} {x y z : Int} (ha : Ed a σ H rI x) (hb : Ed b σ H rI y) (hc : Ed c σ H rI z) : Ed (tTup (tCons a (tCons b (tCons c tNil)))) σ H rVec [x, y, z] := ed_tup (es_cons ha (es_cons hb (es_cons hc es_nil))) (by simp)
theorem hv3 {x y z s : Int} (hx : 0 ≤ x) (hy : 0 ≤ y) (hz : 0 ≤ z) (hs : x + y + z = s) : Hv 3 s [x, y, z] := ⟨rfl, fun e he => by
  simp only [List.mem_cons, List.not_mem_nil, or_false] at he
  rcases he with rfl | rfl | rfl <;> assumption, by simp; omega⟩
theorem pure__law_group_task (h : sp__law_group_task vs H Q E) : t__law_group_task K { nx := fun _ H' => Q .non H', rt := Q } (start N__law_group_task vs) H := by
  obtain ⟨d, c, a, ns, rfl, had, ha, n3, hns, hD, k⟩ := h
  refine r_pool fun l H3 nl e3 nl3 => ?_
  obtain ⟨ld, lc⟩ := hD.ned nl
  refine r_kinds (d := d) (c := c) (l := l) (n := 3) (q := 20) rfl rfl (by decide) (by decide) (ed_int (n := 3)) (by omega) ld lc (hD.ex e3) (nl3.less (by omega)) fun p H4 ks s4 d4 nl4 hk4 hks => ?_
  have s04 : Sm [d] H H4 := ((Ex.sm e3).trans s4).less nl
  refine r_rows fun rw H7 nr e7 hr7 => ?_
  have B : BSt d c l rw H H7 := bst_mk (H1 := H) hD s04 d4 nl nl4 nr e7 hr7
  have b0 : Bld 3 d c l rw H7 H7 20 0 := bld_mk d4 nl4 e7 hr7
  have hk7 : rT rS H7 (.ref p) ks := mon e7 hk4
  have ha7 : H7 a = some (.lst (ns.map V.int)) := e7 _ _ (s04 _ _ (by simp [had]) ha)
  have al : a ≠ l := ne_of_none ha nl
  have ar : a ≠ rw := ne_of_none ha B.r0
  have keepA : ∀ H' q n, Bld 3 d c l rw H7 H' q n → H' a = some (.lst (ns.map V.int)) := fun H' q n b => b.sm _ _ (by simp [had, al, ar]) ha7
  refine r_forLa (a := a) (us := ns.map V.int) (ev_v rfl) ha7 (fun i σ H' => ∃ av, σ = [some (.ref d), some (.ref a), some (.ref l), some (.ref p), some (.ref rw), av, none] ∧ i ≤ ns.length ∧ Bld 3 d c l rw H7 H' (20 - i) i)
    (fun H9 e9 => ⟨none, rfl, Nat.zero_le _, b0.ex e9⟩) (fun i σ H' ⟨_, _, _, b⟩ => keepA _ _ _ b) ?_ ?_
  · rintro i v σ H9 hi ⟨av, rfl, hil, b9⟩
    rw [List.getElem?_map] at hi
    obtain ⟨n, hn, hv⟩ : ∃ n, ns[i]? = some n ∧ v = .int n := by
      cases hq : ns[i]? with
      | none => rw [hq] at hi; cases hi
      | some y => rw [hq] at hi; exact ⟨y, rfl, (Option.some.inj hi).symm⟩
    subst hv
    have hilt : i < ns.length := (List.getElem?_eq_some_iff.mp hn).1
    have hb := hns n (List.mem_of_getElem? hn)
    refine bld_rowN (q := 20 - (i + 1)) (n := i) B (by rw [show 20 - (i + 1) + 1 = 20 - i by omega]; exact b9) (by omega) rfl rfl rfl (PA := fun x => Hv 3 n x) (PB := fun x => Hv 3 n x) (fun H9 _ => (ev_vec3 (ed_var (r := rI) (x := n) rfl rfl) (ed_int (n := 0)) (ed_int (n := 0))).imp fun v _ _ h => ⟨_, h, hv3 (by omega) (by omega) (by omega) (by omega)⟩)
      (fun H9 _ => (ev_vec3 (ed_int (n := 0)) (ed_var (r := rI) (x := n) rfl rfl) (ed_int (n := 0))).imp fun v _ _ h => ⟨_, h, hv3 (by omega) (by omega) (by omega) (by omega)⟩) (fun z x y hx hy => ⟨n, by omega, by omega, hx, hy⟩) fun H9 b9 _ => ⟨_, rfl, by omega, b9⟩
  · rintro σ H9 ⟨av, rfl, hil, b9⟩
    rw [List.length_map] at b9
    have fin : ∀ H' q n, n ≤ 8 → Bld 3 d c l rw H7 H' q n → tRet (tTup (tCons (tTup (tCons (tVar 3) (tCons (tCB (rTupOf K) (tCons (tVar 4) tNil)) tNil))) (tCons (tTup (tCons (tC (.int 1)) (tCons (tC (.int 0)) (tCons (tC (.int 0)) tNil)))) (tCons (tTup (tCons (tC (.int 0)) (tCons (tC (.int 1)) (tCons (tC (.int 0)) tNil)))) tNil)))) { nx := fun _ H' => Q .non H', rt := Q } [some (.ref d), some (.ref a), some (.ref l), some (.ref p), some (.ref rw), av, none] H' := by
      intro H' q n hn b
      refine r_retTask (m := 3) (ks := ks) (ed_var rfl (Mon.mon (B.tp b.sm) hk7)) ((ed_rows b rfl).imp fun v H' e ⟨rows, h1, h2, h3⟩ => ⟨rows, h1, by omega, h3⟩) ((ev_vec3 (ed_int (n := 1)) (ed_int (n := 0)) (ed_int (n := 0))).imp fun v _ _ h => ⟨_, h, 1, by decide, by decide, hv3 (by decide) (by decide) (by decide) rfl⟩)
        ((ev_vec3 (ed_int (n := 0)) (ed_int (n := 1)) (ed_int (n := 0))).imp fun v _ _ h => ⟨_, h, 1, by decide, by decide, hv3 (by decide) (by decide) (by decide) rfl⟩) hks fun w H11 e11 hw => ?_
      exact k w H11 ((B.out b.sm).trans (Ex.sm e11)) (b.dr.ex e11) ⟨3, by omega, by omega, hw⟩
    refine ⟨_, rfl, d, c, 2, rfl, by decide, by decide, b9.dr, fun v H10 s10 d10 ⟨r, hr, hlt⟩ => ?_⟩
    subst hr
    have b10 := b9.drawn B s10 d10
    refine ⟨rfl, ?_⟩
    refine ⟨_, rfl, ?_⟩
    refine ite2 (fun _ => ?_) (fun _ => ?_)
    · refine bld_rowN (q := 20 - (ns.length + 1)) (n := ns.length) B (by rw [show 20 - (ns.length + 1) + 1 = 20 - ns.length by omega]; exact b10) (by omega) rfl rfl rfl (PA := fun x => Hv 3 2 x) (PB := fun x => Hv 3 2 x) (fun H9 _ => (ev_vec3 (ed_int (n := 0)) (ed_int (n := 2)) (ed_int (n := 0))).imp fun v _ _ h => ⟨_, h, hv3 (by decide) (by decide) (by decide) rfl⟩)
        (fun H9 _ => (ev_vec3 (ed_int (n := 1)) (ed_int (n := 0)) (ed_int (n := 1))).imp fun v _ _ h => ⟨_, h, hv3 (by decide) (by decide) (by decide) rfl⟩) (fun z x y hx hy => ⟨2, by decide, by decide, hx, hy⟩) fun H11 b11 _ => fin _ _ _ (by omega) b11
    · exact fin _ _ _ (by omega) b10
theorem pure__law_chain_task (h : sp__law_chain_task vs H Q E) : t__law_chain_task K { nx := fun _ H' => Q .non H', rt := Q } (start N__law_chain_task vs) H := by
  obtain ⟨d, c, m, rfl, m1, m6, hD, k⟩ := h
  refine r_pool fun l H3 nl e3 nl3 => ?_
  obtain ⟨ld, lc⟩ := hD.ned nl
  refine r_kinds (d := d) (c := c) (l := l) (n := m) (q := 20) rfl rfl (by decide) (by decide) (ed_var rfl rfl) (by omega) ld lc (hD.ex e3) (nl3.less (by omega)) fun p H4 ks s4 d4 nl4 hk4 hks => ?_
  have s04 : Sm [d] H H4 := ((Ex.sm e3).trans s4).less nl
  refine r_rows fun rw H7 nr e7 hr7 => ?_
  have B : BSt d c l rw H H7 := bst_mk (H1 := H) hD s04 d4 nl nl4 nr e7 hr7
  have b0 : Bld m d c l rw H7 H7 20 0 := bld_mk d4 nl4 e7 hr7
  have hk7 : rT rS H7 (.ref p) ks := mon e7 hk4
  obtain ⟨_, _, rd, rc⟩ := B.ne
  refine r_forN (n := m - 1) (Ed.to (ed_sub (ed_var (r := rI) (x := (m : Int)) rfl rfl) (ed_int (n := 1))) (by omega)) (by omega)
    (fun i σ H' => ∃ x5 x6 x7 x8 x9 x10, σ = [some (.ref d), some (.int m), some (.ref l), some (.ref p), some (.ref rw), x5, x6, x7, x8, x9, x10, none] ∧ Bld m d c l rw H7 H' (20 - i) i)
    (fun H8 e8 => ⟨none, none, none, none, none, none, rfl, b0.ex e8⟩) ?_ ?_
  · rintro i σ H8 hi ⟨x5, x6, x7, x8, x9, x10, rfl, b8⟩
    have him : i < m := by omega
    -- size = 1 + draw(3)
    refine ⟨_, rfl, d, c, 3, rfl, by decide, by decide, b8.dr, fun v H9 s9 d9 ⟨sz, hsz, hlt⟩ => ?_⟩
    subst hsz
    have b9 := b8.drawn B s9 d9
    refine ⟨_, _, rfl, rfl, ?_⟩
    -- going = 1 + draw(size)
    refine ⟨_, rfl, _, rfl, d, c, 1 + (sz : Int), rfl, by omega, by omega, b9.dr, fun v H10 s10 d10 ⟨go, hgo, hlt2⟩ => ?_⟩
    subst hgo
    have b10 := b9.drawn B s10 d10
    refine ⟨_, _, rfl, rfl, ?_⟩
    refine r_asg (el_mapR (r := rI) (n := m) (fun _ => 0) (ed_var rfl rfl) (by omega) (fun _ => rfl) fun i H1 e hi => ed_int (n := 0)) fun v H11 e11 ⟨tk, us, hv, ntk, htk, pr⟩ => ?_
    subst hv
    have hus := rs_int pr
    subst hus
    refine r_asg (el_mapR (r := rI) (n := m) (fun _ => 0) (ed_var rfl rfl) (by omega) (fun _ => rfl) fun i H1 e hi => ed_int (n := 0)) fun v H12 e12 ⟨gk, us, hv, ngk, hgk, pr⟩ => ?_
    subst hv
    have hus := rs_int pr
    subst hus
    have b12 := b10.ex (e11.trans e12)
    have ntg : tk ≠ gk := ne_of_none htk ngk
    have z0 := hv_zero m
    have zz0 := at0_zero m
    generalize hzz : (List.range m).map (fun _ => (0 : Int)) = zz at *
    obtain ⟨tkd, tkc⟩ := b10.dr.ned ntk
    obtain ⟨gkd, gkc⟩ := (b10.dr.ex e11).ned ngk
    have tkl : tk ≠ l := by
      obtain ⟨xs, h⟩ := b10.nl.lst
      exact (ne_of_none h ntk).symm
    have gkl : gk ≠ l := by
      obtain ⟨xs, h⟩ := (b10.nl.ex e11).lst
      exact (ne_of_none h ngk).symm
    obtain ⟨us0, rows0, hu0, _⟩ := b10.ro
    have tkr : tk ≠ rw := (ne_of_none hu0 ntk).symm
    have gkr : gk ≠ rw := (ne_of_none (e11 _ _ hu0) ngk).symm
    have tk7 : H7 tk = none := by
      cases hq : H7 tk with
      | none => rfl
      | some o => rw [b10.sm _ _ (by simp [tkd, tkl, tkr]) hq] at ntk; cases ntk
    have gk7 : H7 gk = none := by
      cases hq : H7 gk with
      | none => rfl
      | some o => rw [e11 _ _ (b10.sm _ _ (by simp [gkd, gkl, gkr]) hq)] at ngk; cases ngk
    have hgo : (1 : Int) + (go : Int) ≤ 1 + (sz : Int) := by omega
    -- the row
    have rest : ∀ bk ct x10 tx gx H', H' tk = some (.lst (tx.map V.int)) → H' gk = some (.lst (gx.map V.int)) → Hv m (1 + (sz : Int)) tx → Hv m (1 + (sz : Int)) gx → Bld m d c l rw H7 H' (20 - i) i →
        tDrop (tBM K "list" rAppend (tVar 4) (tCons (tTup (tCons (tCall sp__law_pop [] E0 (tCons (tVar 0) (tCons (tVar 2) tNil))) (tCons (tCB (rTupOf K) (tCons (tVar 8) tNil)) (tCons (tCB (rTupOf K) (tCons (tVar 9) tNil)) tNil)))) tNil))
          { nx := fun σ H' => ∃ x5 x6 x7 x8 x9 x10, σ = [some (.ref d), some (.int m), some (.ref l), some (.ref p), some (.ref rw), x5, x6, x7, x8, x9, x10, none] ∧ Bld m d c l rw H7 H' (20 - (i + 1)) (i + 1),
            rt := Q, bk := bk, ct := ct } [some (.ref d), some (.int m), some (.ref l), some (.ref p), some (.ref rw), some (.int i), some (.int (1 + (sz : Int))), some (.int (1 + (go : Int))), some (.ref tk), some (.ref gk), x10, none] H' := by
      intro bk ct x10 tx gx H' ht hg vt vg b
      refine bld_rowN (q := 20 - (i + 1)) (n := i) B (by rw [show 20 - (i + 1) + 1 = 20 - i by omega]; exact b) (by omega) rfl rfl rfl (PA := fun x => Hv m (1 + (sz : Int)) x) (PB := fun x => Hv m (1 + (sz : Int)) x)
        (fun H9 s9 => (ed_tupL (r := rI) (xs := tx) (ed_var rfl ⟨tk, _, rfl, s9 _ _ (by simp [tkd, tkl]) ht, int_rs tx⟩)).imp fun v _ _ h => ⟨_, h, vt⟩)
        (fun H9 s9 => (ed_tupL (r := rI) (xs := gx) (ed_var rfl ⟨gk, _, rfl, s9 _ _ (by simp [gkd, gkl]) hg, int_rs gx⟩)).imp fun v _ _ h => ⟨_, h, vg⟩) (fun z x y hx hy => ⟨1 + (sz : Int), by omega, by omega, hx, hy⟩) fun H11 b11 _ => ⟨_, _, _, _, _, _, rfl, b11⟩
    have hlt2' : (go : Int) < 1 + (sz : Int) := hlt2
    refine r_setL (l := tk) (xs := zz.map V.int) (j := i) (e12 _ _ htk) (ed_var (r := rI) (x := 1 + (go : Int)) rfl rfl) (ev_v rfl) (ed_var (r := rI) rfl rfl) (by rw [List.length_map, z0.len]; exact him) fun v H13 H14 e13 e14 p13 => ?_
    cases p13
    rw [set_int]
    have t1 : Hv m (1 + (go : Int)) (zz.set i (1 + (go : Int))) := by
      have := z0.add (j := i) (a := 1 + (go : Int)) him (by rw [zz0]; omega)
      rw [zz0, Int.zero_add] at this
      exact this
    have e24 := e13.trans e14
    have b14 := (b12.ex e24).other (ys := (zz.set i (1 + (go : Int))).map V.int) tk7 (e24 _ _ (e12 _ _ htk)) tkd tkc tkl tkr
    have hg14 : (upd H14 tk (.lst ((zz.set i (1 + (go : Int))).map V.int))) gk = some (.lst (zz.map V.int)) := by rw [upd_ne ntg.symm]; exact e24 _ _ hgk
    have ht14 : (upd H14 tk (.lst ((zz.set i (1 + (go : Int))).map V.int))) tk = some (.lst ((zz.set i (1 + (go : Int))).map V.int)) := upd_same
    generalize hH15 : upd H14 tk (.lst ((zz.set i (1 + (go : Int))).map V.int)) = H15 at b14 hg14 ht14 ⊢
    refine r_setL (l := gk) (xs := zz.map V.int) (j := i + 1) hg14 (ed_var (r := rI) (x := 1 + (go : Int)) rfl rfl) (ev_v rfl) (Ed.to (ed_add (ed_var (r := rI) (x := (i : Int)) rfl rfl) (ed_int (n := 1))) (by omega)) (by rw [List.length_map, z0.len]; omega) fun v H16 H17 e16 e17 p16 => ?_
    cases p16
    rw [set_int]
    have g1 : Hv m (1 + (go : Int)) (zz.set (i + 1) (1 + (go : Int))) := by
      have := z0.add (j := i + 1) (a := 1 + (go : Int)) (by omega) (by rw [zz0]; omega)
      rw [zz0, Int.zero_add] at this
      exact this
    have e57 := e16.trans e17
    have b17 := (b14.ex e57).other (ys := (zz.set (i + 1) (1 + (go : Int))).map V.int) gk7 (e57 _ _ hg14) gkd gkc gkl gkr
    have ht17 : (upd H17 gk (.lst ((zz.set (i + 1) (1 + (go : Int))).map V.int))) tk = some (.lst ((zz.set i (1 + (go : Int))).map V.int)) := by rw [upd_ne ntg]; exact e57 _ _ ht14
    have hg17 : (upd H17 gk (.lst ((zz.set (i + 1) (1 + (go : Int))).map V.int))) gk = some (.lst ((zz.set (i + 1) (1 + (go : Int))).map V.int)) := upd_same
    generalize hH18 : upd H17 gk (.lst ((zz.set (i + 1) (1 + (go : Int))).map V.int)) = H18 at b17 hg17 ht17 ⊢
    generalize htx : zz.set i (1 + (go : Int)) = tx at t1 ht17
    generalize hgx : zz.set (i + 1) (1 + (go : Int)) = gx at g1 hg17
    have hS : ∀ (σ : L2.St) H', σ[6]? = some (some (V.int (1 + (sz : Int)))) → Ed (tVar 6) σ H' rI (1 + (sz : Int)) := fun σ H' h => ed_var h rfl
    have hG : ∀ (σ : L2.St) H', σ[7]? = some (some (V.int (1 + (go : Int)))) → Ed (tVar 7) σ H' rI (1 + (go : Int)) := fun σ H' h => ed_var h rfl
    refine r_if (et_test' (ed_gt (hS _ _ rfl) (hG _ _ rfl))) ?_ ?_
    · intro hlt3 H19 e19
      have hlt3' : (1 : Int) + go < 1 + sz := of_decide_eq_true hlt3
      have b19 := b17.ex e19
      refine ⟨_, rfl, _, rfl, d, c, (m : Int), rfl, by omega, by omega, b19.dr, fun v H20 s20 d20 ⟨hh, hhh, hhlt⟩ => ?_⟩
      subst hhh
      have b20 := b19.drawn B s20 d20
      have ht20 := s20 _ _ (by simp [tkd]) (e19 _ _ ht17)
      have hg20 := s20 _ _ (by simp [gkd]) (e19 _ _ hg17)
      have hhm : hh < m := by omega
      have nz : (1 : Int) + (go : Int) + ((1 + (sz : Int)) - (1 + (go : Int))) = 1 + (sz : Int) := by omega
      refine r_augS (l := tk) (xs := tx.map V.int) (j := hh) (a := at0 tx hh) (b := (1 + (sz : Int)) - (1 + (go : Int))) ht20 (ev_v rfl) (ed_var (r := rI) rfl rfl) (get_int (by rw [t1.len]; exact hhm)) (ed_sub (hS _ _ rfl) (hG _ _ rfl)) fun H21 e21 => ?_
      rw [set_int]
      have t2 : Hv m (1 + (sz : Int)) (tx.set hh (at0 tx hh + ((1 + (sz : Int)) - (1 + (go : Int))))) := by
        have := t1.add (j := hh) (a := (1 + (sz : Int)) - (1 + (go : Int))) hhm (by have := at0_nn t1.nn hh; omega)
        rw [nz] at this
        exact this
      have b21 := (b20.ex e21).other (ys := (tx.set hh (at0 tx hh + ((1 + (sz : Int)) - (1 + (go : Int))))).map V.int) tk7 (e21 _ _ ht20) tkd tkc tkl tkr
      have ht21 : (upd H21 tk (.lst ((tx.set hh (at0 tx hh + ((1 + (sz : Int)) - (1 + (go : Int))))).map V.int))) tk = _ := upd_same
      have hg21 : (upd H21 tk (.lst ((tx.set hh (at0 tx hh + ((1 + (sz : Int)) - (1 + (go : Int))))).map V.int))) gk = some (.lst (gx.map V.int)) := by rw [upd_ne ntg.symm]; exact e21 _ _ hg20
      generalize hH22 : upd H21 tk (.lst ((tx.set hh (at0 tx hh + ((1 + (sz : Int)) - (1 + (go : Int))))).map V.int)) = H22 at b21 hg21 ht21 ⊢
      refine (ev_v (v := V.ref gk) (σ := [some (.ref d), some (.int m), some (.ref l), some (.ref p), some (.ref rw), some (.int i), some (.int (1 + (sz : Int))), some (.int (1 + (go : Int))), some (.ref tk), some (.ref gk), some (.int hh), none]) rfl).run fun w H23 e23 hw => ?_
      subst hw
      refine ⟨_, rfl, gk, _, (hh : Int), _, rfl, rfl, SqL.of (e23 _ _ hg21), atI_nat (get_int (j := hh) (by rw [g1.len]; exact hhm)), ?_⟩
      refine (ed_sub (hS _ _ rfl) (hG _ _ rfl)).run fun y H24 e24' py => ?_
      cases py
      refine ⟨at0 gx hh, _, rfl, rfl, gk, _, (hh : Int), hh, rfl, rfl, (e23.trans e24') _ _ hg21, ixN_nat (by rw [List.length_map, g1.len]; exact hhm), ?_⟩
      rw [set_int]
      have g2 : Hv m (1 + (sz : Int)) (gx.set hh (at0 gx hh + ((1 + (sz : Int)) - (1 + (go : Int))))) := by
        have := g1.add (j := hh) (a := (1 + (sz : Int)) - (1 + (go : Int))) hhm (by have := at0_nn g1.nn hh; omega)
        rw [nz] at this
        exact this
      have b25 := (b21.ex (e23.trans e24')).other (ys := (gx.set hh (at0 gx hh + ((1 + (sz : Int)) - (1 + (go : Int))))).map V.int) gk7 ((e23.trans e24') _ _ hg21) gkd gkc gkl gkr
      exact rest _ _ (some (.int hh)) _ _ _ (by rw [upd_ne ntg]; exact (e23.trans e24') _ _ ht21) upd_same t2 g2 b25
    · intro hlt3 H19 e19
      have hge : ¬ (1 : Int) + go < 1 + sz := of_decide_eq_false hlt3
      have heq : (1 : Int) + (go : Int) = 1 + (sz : Int) := by omega
      rw [heq] at t1 g1
      exact rest _ _ x10 tx gx H19 (e19 _ _ ht17) (e19 _ _ hg17) t1 g1 (b17.ex e19)
  · rintro σ H8 ⟨x5, x6, x7, x8, x9, x10, rfl, b8⟩
    have fin : ∀ H' q n, n ≤ 8 → Bld m d c l rw H7 H' q n → tRet (tTup (tCons (tTup (tCons (tVar 3) (tCons (tCB (rTupOf K) (tCons (tVar 4) tNil)) tNil))) (tCons (tCall sp__law_listed [] E0 (tCons (tVar 1) (tCons (tLst (tCons (tC (.int 0)) tNil)) tNil))) (tCons (tCall sp__law_listed [] E0 (tCons (tVar 1) (tCons (tLst (tCons (tOp oSub (tVar 1) (tC (.int 1))) tNil)) tNil))) tNil))))
        { nx := fun _ H' => Q .non H', rt := Q } [some (.ref d), some (.int m), some (.ref l), some (.ref p), some (.ref rw), x5, x6, x7, x8, x9, x10, none] H' := by
      intro H' q n hn b
      have hM : ∀ (σ : L2.St) H', σ[1]? = some (some (V.int (m : Int))) → Ed (tVar 1) σ H' rI (m : Int) := fun σ H' h => ed_var h rfl
      refine r_retTask (m := m) (ks := ks) (ed_var rfl (Mon.mon (B.tp b.sm) hk7)) ((ed_rows b rfl).imp fun v H' e ⟨rows, h1, h2, h3⟩ => ⟨rows, h1, by omega, h3⟩) (ev_listedS (hM _ _ rfl) (el_1 (ed_n (n := 0))) (by omega) (by simp) (by simp) (mem_1 (by omega)))
        (ev_listedS (hM _ _ rfl) (el_1 (ed_nat (ed_sub (hM _ _ rfl) (ed_int (n := 1))) (n := m - 1) (by omega))) (by omega) (by simp) (by simp) (mem_1 (by omega))) hks fun w H11 e11 hw => ?_
      exact k w H11 ((B.out b.sm).trans (Ex.sm e11)) (b.dr.ex e11) ⟨m, by omega, by omega, hw⟩
    refine ⟨_, rfl, d, c, 2, rfl, by decide, by decide, b8.dr, fun v H10 s10 d10 ⟨r, hr, hlt⟩ => ?_⟩
    subst hr
    have b10 := b8.drawn B s10 d10
    refine ⟨rfl, ?_⟩
    refine ⟨_, rfl, ?_⟩
    refine ite2 (fun _ => ?_) (fun _ => ?_)
    · exact bld_deedN (q := 20 - m) (n := m - 1) B (by rw [show 20 - m + 1 = 20 - (m - 1) by omega]; exact b10) m1 (by omega) (by omega) rfl rfl rfl rfl fun H11 b11 => fin _ _ _ (by omega) b11
    · exact fin _ _ _ (by omega) b10
end
end M
/-! ## P11 -/
/-! The drawn task; the world; lots of kinds. -/
namespace M
open PySem L2 Evl PyProof.Rows
def sp__law_world : Sp := fun vs H Q _ => ∃ d c, vs = [.ref d] ∧ Dr d c H ∧ QD d c H Q (fun v H' => ∃ p v1, ∃ (t : Task) (room : Nat) (m : Nat), v = .ref p ∧ H' p = some (.tup [v1, .int room]) ∧ 1 ≤ m ∧ m ≤ 6 ∧ room ≤ 130 ∧ rTask H' v1 t ∧ WfT m t)
/-- an ascending lot of kinds, not empty -/
structure Lot (m : Nat) (ks : List Int) : Prop where
  ne : ks ≠ []
  lt : ∀ k ∈ ks, 0 ≤ k ∧ k < (m : Int)
  up : ks.Pairwise (· < ·)
def sp__law_some_kinds : Sp := fun vs H Q _ => ∃ d c, ∃ (m : Nat), vs = [.ref d, .int m] ∧ 1 ≤ m ∧ m ≤ 6 ∧ Dr d c H ∧ QD d c H Q (fun v H' => ∃ ks, rVec H' v ks ∧ Lot m ks)
def sp__law_begin (K : PySem.W.Frag) : Sp := fun vs H Q _ => ∃ a, ∃ (ns : List Int), vs = [.ref a] ∧ SqL K H a (ns.map V.int) ∧ ns.length ≤ 63 ∧ ∀ d c H', Ex H H' → H d = none → H c = none → Dr d c H' → Q (.ref d) H'
/-! _law_world: slots d 0, way 1, rule 2, start 3, many 4 -/
def N__law_world : List Str := ["d", "way", "rule", "start", "many"]
def t__law_world (K : PySem.W.Frag) : TS :=
  (tSeq (tAsg (tCall sp__law_draw [] E0 (tCons (tVar 0) (tCons (tC (.int 8)) tNil))) (gName 1))
  (tSeq (tIfS (tTest (tOp rEq (tVar 1) (tC (.int 3)))) (tSeq (tAsg (tCall sp__law_rule [] E0 (tCons (tVar 0) (tCons (tC (.int 6)) (tCons (tC (.int 8)) tNil)))) (gName 2))
  (tSeq (tAsg (tCall sp__law_heap [] E0 (tCons (tVar 0) (tCons (tC (.int 6)) (tCons (tOp oAdd (tC (.int 1)) (tCall sp__law_draw [] E0 (tCons (tVar 0) (tCons (tC (.int 4)) tNil)))) tNil)))) (gName 3))
  (tRet (tTup (tCons (tTup (tCons (tVar 2) (tCons (tVar 3) (tCons (tCall sp__law_heap [] E0 (tCons (tVar 0) (tCons (tC (.int 6)) (tCons (tC (.int 2)) tNil)))) tNil)))) (tCons (tC (.int 130)) tNil)))))) tNext)
  (tSeq (tIfS (tTest (tOp rEq (tVar 1) (tC (.int 5)))) (tSeq (tAsg (tOp oAdd (tC (.int 1)) (tCall sp__law_draw [] E0 (tCons (tVar 0) (tCons (tC (.int 4)) tNil)))) (gName 4))
  (tSeq (tAsg (tCall sp__law_rule [] E0 (tCons (tVar 0) (tCons (tVar 4) (tCons (tCall sp__law_draw [] E0 (tCons (tVar 0) (tCons (tC (.int 9)) tNil))) tNil)))) (gName 2))
  (tSeq (tAsg (tCall sp__law_heap [] E0 (tCons (tVar 0) (tCons (tVar 4) (tCons (tOp oAdd (tC (.int 1)) (tCall sp__law_draw [] E0 (tCons (tVar 0) (tCons (tC (.int 6)) tNil)))) tNil)))) (gName 3))
  (tRet (tTup (tCons (tTup (tCons (tVar 2) (tCons (tVar 3) (tCons (tVar 3) tNil)))) (tCons (tC (.int 90)) tNil))))))) tNext)
  (tRet (tTup (tCons (tCall sp__law_task [] E0 (tCons (tVar 0) tNil)) (tCons (tC (.int 60)) tNil)))))))
/-! _law_some_kinds: slots d 0, many 1, kinds 2 -/
def N__law_some_kinds : List Str := ["d", "many", "kinds"]
def t__law_some_kinds (K : PySem.W.Frag) : TS :=
  (tSeq (tAsg (tCall sp__law_shuffled [] E0 (tCons (tVar 0) (tCons (tLstRg (tRg1 (tVar 1))) tNil))) (gName 2))
  (tRet (tCB (rTupOf K) (tCons (tCB (rSorted K) (tCons (tSl (rSlL K) (tVar 2) tNoPart (tPart (tOp oAdd (tC (.int 1)) (tCall sp__law_draw [] E0 (tCons (tVar 0) (tCons (tVar 1) tNil)))))) tNil)) tNil))))
/-! _law_begin: slots script 0, cell 1 -/
def N__law_begin : List Str := ["script", "cell"]
def t__law_begin (K : PySem.W.Frag) : TS :=
  (tRet (tLst (tCons (tLc (iList K (tVar 0)) (gName 1) tYes (tCB rInt1 (tCons (tVar 1) tNil)) [1]) (tCons (tC (.int 0)) (tCons (tC (.int 0)) (tCons (tC (.int 7)) (tCons (tC (.int 3)) tNil)))))))
section
variable {K : PySem.W.Frag} {vs : List V} {H : Hp} {Q : VK} {E : XK}
/-- x = 1 + _law_draw(d, n) and its like: the number drawn, as an operand -/
theorem draw_run {σ : L2.St} {d c : Addr} {H' : Hp} {R : VK} {tn : TE} {id : Nat} {n : Int} (hid : σ[id]? = some (some (.ref d))) (hn : EvP tn σ H' fun v _ => v = .int n) (n1 : 1 ≤ n) (n2 : n < 1073741824) (hD : Dr d c H')
    (k : ∀ (r : Nat) H1, (r : Int) < n → Sm [d] H' H1 → Dr d c H1 → R (.int r) H1) : tCall sp__law_draw [] E0 (tCons (tVar id) (tCons tn tNil)) σ H' R :=
  ⟨_, hid, hn.run fun v H1 e1 hv => by
    subst hv
    exact ⟨d, c, n, rfl, n1, n2, hD.ex e1, fun v H2 s2 d2 ⟨r, hr, hlt⟩ => by
      subst hr
      exact k r H2 hlt ((Ex.sm e1).trans s2) d2⟩⟩
theorem draw_add {σ : L2.St} {d c : Addr} {H' : Hp} {R : VK} {tn : TE} {id : Nat} {n a : Int} (k0 : Nat) (ha : a = (k0 : Int)) (hid : σ[id]? = some (some (.ref d))) (hn : EvP tn σ H' fun v _ => v = .int n) (n1 : 1 ≤ n) (n2 : n < 1073741824) (hD : Dr d c H')
    (k : ∀ (r : Nat) H1, (r : Int) < n → Sm [d] H' H1 → Dr d c H1 → R (.int ((k0 + r : Nat) : Int)) H1) : tOp oAdd (tC (.int a)) (tCall sp__law_draw [] E0 (tCons (tVar id) (tCons tn tNil))) σ H' R :=
  draw_run hid hn n1 n2 hD fun r H1 hr s1 d1 => ⟨_, _, rfl, rfl, by
    have := k r H1 hr s1 d1
    rw [show ((k0 + r : Nat) : Int) = a + (r : Int) by omega] at this
    exact this⟩
theorem ec {σ : L2.St} {H' : Hp} {n : Int} : EvP (tC (.int n)) σ H' fun v _ => v = .int n := fun H1 _ _ q => q _ H1 (Ex.refl H1) rfl
theorem evi {σ : L2.St} {H' : Hp} {i : Nat} {n : Int} (h : σ[i]? = some (some (.int n))) : EvP (tVar i) σ H' fun v _ => v = .int n := ev_v h
theorem pure__law_random_task (h : sp__law_random_task vs H Q E) : t__law_random_task K { nx := fun _ H' => Q .non H', rt := Q } (start N__law_random_task vs) H := by
  obtain ⟨d, c, rfl, hD, k⟩ := h
  refine draw_add (n := 3) 2 rfl rfl ec (by decide) (by decide) hD fun r H1 hr s1 d1 => ?_
  generalize hm : 2 + r = m
  refine ⟨_, rfl, _, rfl, draw_run (n := 6) rfl ec (by decide) (by decide) d1 fun q H2 hq s2 d2 => ?_⟩
  refine ⟨d, c, m, q, rfl, by omega, by omega, by omega, d2, fun v H3 s3 d3 ⟨R, hR, wR⟩ => ?_⟩
  refine draw_add (n := 2) 1 rfl rfl ec (by decide) (by decide) d3 fun z H4 hz s4 d4 => ?_
  refine ⟨_, rfl, _, rfl, _, rfl, _, rfl, d, c, m, 1 + z, rfl, by omega, by omega, by omega, d4, fun v5 H5 s5 d5 ⟨x, hx, vx⟩ => ?_⟩
  refine ⟨_, rfl, _, rfl, _, rfl, d, c, m, 1 + z, rfl, by omega, by omega, by omega, d5, fun v6 H6 s6 d6 ⟨y, hy, vy⟩ => ?_⟩
  refine ⟨by show 3 ≤ sizeLine; decide, fun p np => ?_⟩
  have e7 := Ex.new (o := .tup [v, v5, v6]) np
  have s36 := (s4.trans s5).trans s6
  refine k _ _ (((((s1.trans s2).trans s3).trans s36)).trans (Ex.sm e7)) (d6.ex e7) ⟨m, by omega, by omega, (R, x, y), ⟨p, v, v5, v6, rfl, upd_same, mon e7 (Mon.mon (d3.tp s36) hR), mon e7 (Mon.mon (d5.tp s6) hx), mon e7 hy⟩, wR, ⟨_, by omega, by omega, vx⟩, ⟨_, by omega, by omega, vy⟩⟩
theorem pure__law_to_and_fro_task (h : sp__law_to_and_fro_task vs H Q E) : t__law_to_and_fro_task K { nx := fun _ H' => Q .non H', rt := Q } (start N__law_to_and_fro_task vs) H := by
  obtain ⟨d, c, rfl, hD, k⟩ := h
  refine ⟨_, rfl, d, c, rfl, hD, fun v H1 s1 d1 ⟨m, m1, m6, t, ht, wt⟩ => ?_⟩
  obtain ⟨p, w1, w2, w3, rfl, hp, r1, r2, r3⟩ := ht
  refine ⟨p, _, rfl, SqT.of hp, rfl, w1, _, rfl, w2, _, rfl, w3, [], rfl, rfl, ?_⟩
  have fin : ∀ (σ : L2.St) i j a b x y H2, Sm [d] H1 H2 → Dr d c H2 → σ[1]? = some (some w1) → σ[i]? = some (some a) → σ[j]? = some (some b) → rVec H2 a x → rVec H2 b y → Sq m x → Sq m y →
      tRet (tTup (tCons (tVar 1) (tCons (tVar i) (tCons (tVar j) tNil)))) { nx := fun _ H' => Q .non H', rt := Q } σ H2 := by
    intro σ i j a b x y H2 s2 d2 h1 hi hj ha hb hx hy
    exact r_ret (ed_trip (r := rRule) (s := rVec) (c := rVec) (x := t.1) (y := x) (z := y) (ed_var h1 (Mon.mon (d1.tp s2) r1)) (ed_var hi ha) (ed_var hj hb)) fun w' H5 e5 p5 => k w' H5 ((s1.trans s2).trans (Ex.sm e5)) (d2.ex e5) ⟨m, m1, m6, _, p5, wt.rule, hx, hy⟩
  refine r_if (et_test' (ed_eqI (ed_lenT (r := rDeed) (ed_p2 (ed_var (i := 1) rfl r1))) (ed_int (n := 0)))) ?_ ?_
  · intro _ H2 e2
    exact fin _ 2 2 w2 w2 _ _ H2 (Ex.sm e2) (d1.ex e2) rfl rfl rfl (mon e2 r2) (mon e2 r2) wt.start wt.start
  · intro hne H2 e2
    have hn0 : ¬ ((t.1.2.length : Int) = 0) := of_decide_eq_false hne
    refine ⟨_, rfl, ?_⟩
    refine (ed_p2 (r := rT rS) (s := rT rDeed) (x := t.1) (ed_var (i := 1) rfl (mon e2 r1))).run fun v H3 e3 p3 => ?_
    obtain ⟨a, us, hv, ha, pr⟩ := p3
    subst hv
    have d3 := d1.ex (e2.trans e3)
    have hl := Paired.length pr
    have few := wt.rule.few
    have nad : a ≠ d := by
      obtain ⟨xs, h⟩ := d3.lst
      exact ne_of ha h (by intro z; cases z)
    refine ⟨d, c, a, us, rfl, nad, .inr ha, by omega, by omega, d3, fun v H4 s4 d4 hmem => ?_⟩
    obtain ⟨i, hi⟩ := List.getElem?_of_mem hmem
    obtain ⟨dd, hdd, rd⟩ := p_get' pr hi
    have rd4 : rDeed H4 v dd := Mon.mon (d3.tp s4) rd
    obtain ⟨q, u1, u2, u3, rfl, hq, g1, g2, g3⟩ := rd4
    refine ⟨q, _, rfl, SqT.of hq, rfl, u1, _, rfl, u2, _, rfl, u3, [], rfl, rfl, ?_⟩
    obtain ⟨sz, z1, z3, q1, q2⟩ := wt.rule.deeds dd (List.mem_of_getElem? hdd)
    exact fin _ 5 6 u2 u3 _ _ H4 ((Ex.sm (e2.trans e3)).trans s4) d4 rfl rfl rfl g2 g3 ⟨sz, z1, by omega, q1⟩ ⟨sz, z1, by omega, q2⟩
theorem pure__law_task (h : sp__law_task vs H Q E) : t__law_task K { nx := fun _ H' => Q .non H', rt := Q } (start N__law_task vs) H := by
  obtain ⟨d, c, rfl, hD, k⟩ := h
  refine draw_run (n := 8) rfl ec (by decide) (by decide) hD fun r H1 hr s1 d1 => ?_
  have fin : ∀ v H2, Sm [d] H1 H2 → Dr d c H2 → DrTaskE v H2 → tRet (tCall sp__law_mixed_task [] E0 (tCons (tVar 0) (tCons (tVar 2) tNil))) { nx := fun _ H' => Q .non H', rt := Q } [some (.ref d), some (.int r), some v] H2 := by
    rintro v H2 s2 d2 ⟨m, m1, m6, t, ht, wt⟩
    exact ⟨_, rfl, _, rfl, d, c, v, t, m, rfl, ht, wt, by omega, d2, fun w H3 s3 d3 ⟨t', ht', wt'⟩ => k w H3 ((s1.trans s2).trans s3) d3 ⟨m, m1, m6, t', ht', wt'⟩⟩
  have hW : ∀ (σ : L2.St) H', σ[1]? = some (some (V.int (r : Int))) → Ed (tVar 1) σ H' rI (r : Int) := fun σ H' h => ed_var h rfl
  have heap : ∀ (tl : TE) (ns : List Int) H2, Ex H1 H2 → 1 ≤ ns.length → ns.length ≤ 3 → (∀ n ∈ ns, 1 ≤ n ∧ n ≤ 5) → El tl [some (.ref d), some (.int r), none] H2 rI ns → (tAsg (tCall sp__law_heap_task [] E0 (tCons (tVar 0) (tCons tl tNil))) (gName 2))
      { nx := tRet (tCall sp__law_mixed_task [] E0 (tCons (tVar 0) (tCons (tVar 2) tNil))) { nx := fun _ H' => Q .non H', rt := Q }, rt := Q } [some (.ref d), some (.int r), none] H2 := by
    intro tl ns H2 e2 l1 l3 hns hl
    refine ⟨_, rfl, hl.run fun v H3 e3 ⟨a, us, hv, na, ha, pr⟩ => ?_⟩
    subst hv
    rw [rs_int pr] at ha
    exact ⟨d, c, a, ns, rfl, ((d1.ex e2).ned na).1, ha, l1, l3, hns, d1.ex (e2.trans e3), fun v H4 s4 d4 hv => fin v H4 ((Ex.sm (e2.trans e3)).trans s4) d4 hv⟩
  have el2 : ∀ (σ : L2.St) H2 (x y : Int), El (tLst (tCons (tC (.int x)) (tCons (tC (.int y)) tNil))) σ H2 rI [x, y] := fun σ H2 x y => el_lst (es_cons (ed_int (n := x)) (es_cons (ed_int (n := y)) es_nil)) (by simp)
  refine r_if (et_test' (ed_eqI (hW _ _ rfl) (ed_int (n := 0)))) ?_ ?_
  · intro _ H2 e2
    exact heap _ [2, 3] H2 e2 (by decide) (by decide) (by decide) (el2 _ _ _ _)
  intro _ H2 e2
  refine r_ifN (et_test' (ed_eqI (hW _ _ rfl) (ed_int (n := 1)))) ?_ ?_
  · intro _ H3 e3
    have e13 := e2.trans e3
    refine ⟨_, rfl, draw_run (n := 2) rfl ec (by decide) (by decide) (d1.ex e13) fun z H4 hz s4 d4 => ?_⟩
    refine ⟨_, _, rfl, rfl, by show 1 ≤ sizeLine; decide, fun a na => ?_⟩
    have e5 := Ex.new (o := .lst [.int (2 + (z : Int))]) na
    refine ⟨d, c, a, [2 + (z : Int)], rfl, (d4.ned na).1, upd_same, by simp, fun n hn => by rw [List.mem_singleton.mp hn]; omega, d4.ex e5, fun v H6 s6 d6 hv => ?_⟩
    exact fin v H6 (((Ex.sm e13).trans (s4.trans (Ex.sm e5))).trans s6) d6 hv
  intro _ H3 e3
  have e13 := e2.trans e3
  refine r_ifN (et_test' (ed_eqI (hW _ _ rfl) (ed_int (n := 2)))) ?_ ?_
  · intro _ H4 e4
    have e14 := e13.trans e4
    refine ⟨_, rfl, draw_add (n := 3) 2 rfl rfl ec (by decide) (by decide) (d1.ex e14) fun z H5 hz s5 d5 => ?_⟩
    exact ⟨d, c, 2 + z, rfl, by omega, by omega, d5, fun v H6 s6 d6 hv => fin v H6 (((Ex.sm e14).trans s5).trans s6) d6 hv⟩
  intro _ H4 e4
  have e14 := e13.trans e4
  refine r_ifN (et_test' (ed_eqI (hW _ _ rfl) (ed_int (n := 3)))) ?_ ?_
  · intro _ H5 e5
    exact ⟨_, rfl, d, c, rfl, d1.ex (e14.trans e5), fun v H6 s6 d6 hv => fin v H6 ((Ex.sm (e14.trans e5)).trans s6) d6 hv⟩
  intro _ H5 e5
  have e15 := e14.trans e5
  refine r_ifN (et_test' (ed_eqI (hW _ _ rfl) (ed_int (n := 4)))) ?_ ?_
  · intro _ H6 e6
    have e16 := e15.trans e6
    refine ⟨_, rfl, (el2 _ _ 2 3).run fun v H7 e7 ⟨a, us, hv, na, ha, pr⟩ => ?_⟩
    subst hv
    rw [rs_int pr] at ha
    exact ⟨d, c, a, [2, 3], rfl, ((d1.ex e16).ned na).1, ha, by decide, by decide, d1.ex (e16.trans e7), fun v H8 s8 d8 hv => fin v H8 ((Ex.sm (e16.trans e7)).trans s8) d8 hv⟩
  intro _ H6 e6
  have e16 := e15.trans e6
  refine r_ifN (et_test' (ed_eqI (hW _ _ rfl) (ed_int (n := 5)))) ?_ ?_
  · intro _ H7 e7
    have e17 := e16.trans e7
    refine ⟨_, rfl, _, rfl, (el_lst (r := rI) (xs := [1, 2, 3, 4]) (es_cons (ed_int (n := 1)) (es_cons (ed_int (n := 2)) (es_cons (ed_int (n := 3)) (es_cons (ed_int (n := 4)) es_nil)))) (by simp)).run fun v H8 e8 ⟨a, us, hv, na, ha, pr⟩ => ?_⟩
    subst hv
    rw [rs_int pr] at ha
    have d8 := d1.ex (e17.trans e8)
    refine ⟨d, c, a, _, rfl, ((d1.ex e17).ned na).1, .inl ha, by decide, by decide, d8, fun v H9 s9 d9 hv => ?_⟩
    obtain ⟨n, hn, hv'⟩ := List.mem_map.mp hv
    subst hv'
    refine ⟨by show 1 ≤ sizeLine; decide, fun b nb => ?_⟩
    have e10 := Ex.new (o := .lst [.int n]) nb
    have hn4 : 1 ≤ n ∧ n ≤ 5 := by
      simp only [List.mem_cons, List.not_mem_nil, or_false] at hn
      rcases hn with rfl | rfl | rfl | rfl <;> decide
    refine ⟨d, c, b, [n], rfl, (d9.ned nb).1, upd_same, by simp, by simp, fun x hx => by rw [List.mem_singleton.mp hx]; exact hn4, d9.ex e10, fun v H11 s11 d11 hv => ?_⟩
    exact fin v H11 (((Ex.sm (e17.trans e8)).trans (s9.trans (Ex.sm e10))).trans s11) d11 hv
  intro _ H7 e7
  have e17 := e16.trans e7
  exact ⟨_, rfl, d, c, rfl, d1.ex e17, fun v H8 s8 d8 hv => fin v H8 ((Ex.sm e17).trans s8) d8 hv⟩
end
end M
/-! ## P12 -/
/-! The world, lots of kinds, the beginning. -/
namespace M
open PySem L2 Evl PyProof.Rows
section
variable {K : PySem.W.Frag} {vs : List V} {H : Hp} {Q : VK} {E : XK}
theorem pure__law_world (h : sp__law_world vs H Q E) : t__law_world K { nx := fun _ H' => Q .non H', rt := Q } (start N__law_world vs) H := by
  obtain ⟨d, c, rfl, hD, k⟩ := h
  refine draw_run (n := 8) rfl ec (by decide) (by decide) hD fun r H1 hr s1 d1 => ?_
  have hW : ∀ (σ : L2.St) H', σ[1]? = some (some (V.int (r : Int))) → Ed (tVar 1) σ H' rI (r : Int) := fun σ H' h => ed_var h rfl
  -- the end: a tuple of the task and the room
  have fin : ∀ w (t : Task) (room m : Nat) H2, Sm [d] H H2 → Dr d c H2 → rTask H2 w t → WfT m t → 1 ≤ m → m ≤ 6 → room ≤ 130 → ∀ q, H2 q = none → Q (.ref q) (upd H2 q (.tup [w, .int room])) := by
    intro w t room m H2 s2 d2 ht wt m1 m6 hr q nq
    have e := Ex.new (o := .tup [w, .int room]) nq
    exact k _ _ (s2.trans (Ex.sm e)) (d2.ex e) ⟨q, w, t, room, m, rfl, upd_same, m1, m6, hr, mon e ht, wt⟩
  refine r_if (et_test' (ed_eqI (hW _ _ rfl) (ed_int (n := 3)))) ?_ ?_
  · intro _ H2 e2
    have d2 := d1.ex e2
    have s2 := s1.trans (Ex.sm e2)
    refine ⟨_, rfl, d, c, 6, 8, rfl, by decide, by decide, by decide, d2, fun v H3 s3 d3 ⟨R, hR, wR⟩ => ?_⟩
    refine ⟨_, rfl, draw_add (n := 4) 1 rfl rfl ec (by decide) (by decide) d3 fun z H4 hz s4 d4 => ?_⟩
    refine ⟨d, c, 6, 1 + z, rfl, by decide, by decide, by omega, d4, fun v5 H5 s5 d5 ⟨x, hx, vx⟩ => ?_⟩
    refine ⟨_, rfl, _, rfl, _, rfl, d, c, 6, 2, rfl, by decide, by decide, by decide, d5, fun v6 H6 s6 d6 ⟨y, hy, vy⟩ => ?_⟩
    refine ⟨by show 3 ≤ sizeLine; decide, fun p np => ⟨by show 2 ≤ sizeLine; decide, fun q nq => ?_⟩⟩
    have e7 := Ex.new (o := .tup [v, v5, v6]) np
    have s36 := (s4.trans s5).trans s6
    refine fin _ (R, x, y) 130 6 _ (((s2.trans s3).trans s36).trans (Ex.sm e7)) (d6.ex e7) ⟨p, v, v5, v6, rfl, upd_same, mon e7 (Mon.mon (d3.tp s36) hR), mon e7 (Mon.mon (d5.tp s6) hx), mon e7 hy⟩ ⟨wR, ⟨_, by omega, by omega, vx⟩, ⟨_, by omega, by omega, vy⟩⟩ (by decide) (by decide) (by decide) q nq
  intro _ H2 e2
  refine r_if (et_test' (ed_eqI (hW _ _ rfl) (ed_int (n := 5)))) ?_ ?_
  · intro _ H3 e3
    have d3 := d1.ex (e2.trans e3)
    have s3 := s1.trans (Ex.sm (e2.trans e3))
    refine draw_add (n := 4) 1 rfl rfl ec (by decide) (by decide) d3 fun z H4 hz s4 d4 => ?_
    generalize hm : 1 + z = m
    refine ⟨_, rfl, _, rfl, draw_run (n := 9) rfl ec (by decide) (by decide) d4 fun q H5 hq s5 d5 => ?_⟩
    refine ⟨d, c, m, q, rfl, by omega, by omega, by omega, d5, fun v H6 s6 d6 ⟨R, hR, wR⟩ => ?_⟩
    refine ⟨_, rfl, _, rfl, draw_add (n := 6) 1 rfl rfl ec (by decide) (by decide) d6 fun y H7 hy s7 d7 => ?_⟩
    refine ⟨d, c, m, 1 + y, rfl, by omega, by omega, by omega, d7, fun v8 H8 s8 d8 ⟨x, hx, vx⟩ => ?_⟩
    refine ⟨_, rfl, _, rfl, _, rfl, by show 3 ≤ sizeLine; decide, fun p np => ⟨by show 2 ≤ sizeLine; decide, fun q nq => ?_⟩⟩
    have e9 := Ex.new (o := .tup [v, v8, v8]) np
    have s68 := s7.trans s8
    refine fin _ (R, x, x) 90 m _ (((((s3.trans s4).trans s5).trans s6).trans s68).trans (Ex.sm e9)) (d8.ex e9) ⟨p, v, v8, v8, rfl, upd_same, mon e9 (Mon.mon (d6.tp s68) hR), mon e9 hx, mon e9 hx⟩ ⟨wR, ⟨_, by omega, by omega, vx⟩, ⟨_, by omega, by omega, vx⟩⟩ (by omega) (by omega) (by decide) q nq
  intro _ H3 e3
  have e23 := e2.trans e3
  refine ⟨_, rfl, d, c, rfl, d1.ex e23, fun v H4 s4 d4 ⟨m, m1, m6, t, ht, wt⟩ => ⟨by show 2 ≤ sizeLine; decide, fun q nq => ?_⟩⟩
  exact fin v t 60 m H4 ((s1.trans (Ex.sm e23)).trans s4) d4 ht wt m1 m6 (by decide) q nq
theorem lot_mk {m : Nat} {ns xs : List Int} {ys : List Nat} (hp : ns.Perm xs) (hs : ns.Pairwise (· ≤ ·)) (hx : xs = ys.map fun (k : Nat) => (k : Int)) (hy : ys.Nodup) (hl : ∀ k ∈ ys, k < m) (hn : ys ≠ []) : Lot m ns := by
  have hmem : ∀ k ∈ ns, ∃ y ∈ ys, k = (y : Int) := fun k hk => by
    have := hp.mem_iff.mp hk
    rw [hx] at this
    obtain ⟨y, h1, h2⟩ := List.mem_map.mp this
    exact ⟨y, h1, h2.symm⟩
  have hnd : ns.Nodup := by
    rw [hp.nodup_iff, hx]
    exact List.Pairwise.map _ (fun a b h e => h (by omega)) hy
  refine ⟨fun e => ?_, fun k hk => ?_, ?_⟩
  · subst e
    have := hp.length_eq
    rw [hx, List.length_map] at this
    exact hn (List.eq_nil_of_length_eq_zero this.symm)
  · obtain ⟨y, h1, rfl⟩ := hmem k hk
    have := hl y h1
    omega
  · exact (hs.and hnd).imp fun ⟨h1, h2⟩ => by omega
theorem pure__law_some_kinds (h : sp__law_some_kinds vs H Q E) : t__law_some_kinds K { nx := fun _ H' => Q .non H', rt := Q } (start N__law_some_kinds vs) H := by
  obtain ⟨d, c, m, rfl, m1, m6, hD, k⟩ := h
  refine ⟨_, rfl, ?_⟩
  refine (el_listR (n := m) (ed_var (i := 1) rfl rfl) (by omega)).run fun v H1 e1 ⟨p, us, hv, np, hp, pr⟩ => ?_
  subst hv
  have hus := rs_int pr
  rw [List.map_map] at hus
  subst hus
  refine ⟨d, c, p, _, rfl, hp, by rw [List.length_map, List.length_range]; omega, hD.ex e1, fun v H2 s2 d2 ⟨a, ys, hv, na, ha, pa⟩ => ?_⟩
  subst hv
  obtain ⟨ks, hks, pk⟩ := perm_ints pa
  subst hks
  have lk := perm_len pk
  refine ⟨_, rfl, draw_add (n := (m : Int)) 1 rfl rfl (evi rfl) (by omega) (by omega) d2 fun r H3 hr s3 d3 => ?_⟩
  have had : a ≠ d := ((hD.ex e1).ned na).1
  have ha3 := s3 _ _ (by simp [had]) ha
  refine ⟨_, rfl, a, _, rfl, SqL.of ha3, fun q nq => ?_⟩
  have hcut : cutV (ks.map fun (k : Nat) => V.int (k : Int)) none (some ((1 + r : Nat) : Int)) = (((ks.take (1 + r)).map fun (k : Nat) => (k : Int))).map V.int := by
    unfold cutV
    rw [HT.sIx_none, HT.sIx_nat, List.length_map, lk, List.drop_zero, Nat.sub_zero, Nat.min_eq_left (by omega), ← List.map_take, List.map_map]
    rfl
  rw [hcut]
  refine ⟨q, _, rfl, SqL.of upd_same, by rw [List.length_map, List.length_take]; omega, fun ns q2 hperm hsort nq2 => ?_⟩
  refine ⟨q2, _, rfl, .inl ⟨SqL.of upd_same, fun q3 nq3 => ?_⟩⟩
  have e34 := ((Ex.new (o := .lst ((((ks.take (1 + r)).map fun (k : Nat) => (k : Int))).map V.int)) nq).trans (Ex.new (o := .lst (ns.map V.int)) nq2)).trans (Ex.new (o := .tup (ns.map V.int)) nq3)
  refine k _ _ (((Ex.sm e1).trans (s2.trans s3)).trans (Ex.sm e34)) (d3.ex e34) ⟨ns, ⟨q3, _, rfl, upd_same, int_rs ns⟩, lot_mk hperm hsort rfl ?_ (fun y hy => perm_lt pk y (List.mem_of_mem_take hy)) ?_⟩
  · exact (pk.nodup_iff.mpr List.nodup_range).sublist (List.take_sublist _ _)
  · intro h0
    have := congrArg List.length h0
    rw [List.length_take, List.length_nil] at this
    omega
theorem pure__law_begin (h : sp__law_begin K vs H Q E) : t__law_begin K { nx := fun _ H' => Q .non H', rt := Q } (start N__law_begin vs) H := by
  obtain ⟨a, ns, rfl, hS, h63, k⟩ := h
  refine ⟨_, rfl, a, rfl, ⟨_, hS⟩, fun D hD => lc_list (xs := ns.map V.int) (Cv rI H D ns (fun _ => true) (fun n => n)) (cv_start hD) (fun i H' _ p => ex_l p.2.1 hS) (fun i w H' hi p => ?_) (fun H' p => ?_)⟩
  · rw [List.getElem?_map] at hi
    obtain ⟨n, hn, hv⟩ : ∃ n, ns[i]? = some n ∧ w = .int n := by
      cases hq : ns[i]? with
      | none => rw [hq] at hi; cases hi
      | some y => rw [hq] at hi; exact ⟨y, rfl, (Option.some.inj hi).symm⟩
    subst hv
    have hlt := (List.getElem?_eq_some_iff.mp hn).1
    exact ⟨rfl, cv_turn p hn (by omega) et_yes fun _ => ed_int1 (ed_var rfl rfl)⟩
  · obtain ⟨p1, p2⟩ := cv_end (H0 := H) (by rw [List.length_map]) (Ex.refl H) p
    rw [filt_all, List.map_id'] at p2
    obtain ⟨D', us, hD', nD, hus, pr⟩ := p2
    cases hD'
    rw [rs_int pr] at hus
    refine ⟨by show 5 ≤ sizeLine; decide, fun d nd => ?_⟩
    have e := Ex.new (o := .lst [.ref D, .int 0, .int 0, .int 7, .int 3]) nd
    exact k d D _ (p1.trans e) (fresh_back p1 nd) hD ⟨(ne_of_none hus nd).symm, ⟨0, 0, 7, 3, upd_same, by decide⟩, ns, e _ _ hus⟩
end
end M
/-! ## Ma1 -/
/-! A search of all that can be come to: the mathematics. -/
namespace M
section
variable {α : Type}
/-- by so many steps -/
inductive Walk (nx : α → List α) : Nat → α → α → Prop
  | nil {x : α} : Walk nx 0 x x
  | snoc {n : Nat} {x y z : α} : Walk nx n x y → z ∈ nx y → Walk nx (n + 1) x z
theorem Walk.trans {nx : α → List α} {n k : Nat} {x y z : α} (a : Walk nx n x y) (b : Walk nx k y z) : Walk nx (n + k) x z := by
  revert a
  induction b with
  | nil => intro a; exact a
  | snoc _ h ih => intro a; exact .snoc (ih a) h
theorem Walk.cons {nx : α → List α} {n : Nat} {x y z : α} (h : y ∈ nx x) (b : Walk nx n y z) : Walk nx (n + 1) x z := by
  have := Walk.trans (Walk.snoc Walk.nil h) b
  rw [Nat.add_comm] at this
  exact this
/-- the state of a search at k: levels lv beside the list -/
structure Bst (nx : α → List α) (s : α) (k : Nat) (L : List α) (lv : List Nat) : Prop where
  nd : L.Nodup
  hd : L[0]? = some s
  len : lv.length = L.length
  kl : k ≤ L.length
  l0 : lv[0]? = some 0
  up : lv.Pairwise (· ≤ ·)
  at_ : ∀ (i : Nat) (x : α) (d : Nat), L[i]? = some x → lv[i]? = some d → Walk nx d s x
  top : ∀ (e : Nat), lv[k]? = some e → ∀ d ∈ lv, d ≤ e + 1
  done : ∀ (i : Nat) (x : α) (e : Nat), i < k → L[i]? = some x → lv[i]? = some e → ∀ y ∈ nx x, ∃ (j : Nat) (d : Nat), L[j]? = some y ∧ lv[j]? = some d ∧ d ≤ e + 1
/-- the list while the row of x (at k, of level e) is put in: what is in, what of the row has been met -/
structure Brow (nx : α → List α) (s : α) (k e : Nat) (L : List α) (lv : List Nat) : Prop where
  nd : L.Nodup
  hd : L[0]? = some s
  len : lv.length = L.length
  l0 : lv[0]? = some 0
  up : lv.Pairwise (· ≤ ·)
  at_ : ∀ (i : Nat) (x : α) (d : Nat), L[i]? = some x → lv[i]? = some d → Walk nx d s x
  top : ∀ d ∈ lv, d ≤ e + 1
/-- what a search that ends tells -/
structure Found (nx : α → List α) (s : α) (L : List α) : Prop where
  nd : L.Nodup
  hd : L[0]? = some s
  closed : ∀ x ∈ L, ∀ y ∈ nx x, y ∈ L
  come : ∀ x ∈ L, ∃ n, Walk nx n s x
  /-- things found earlier are not farther -/
  order : ∀ (i j : Nat) (x y : α) (n : Nat), i ≤ j → L[i]? = some x → L[j]? = some y → Walk nx n s y → ∃ k, k ≤ n ∧ Walk nx k s x
end
section
variable {α : Type} [DecidableEq α]
/-- what is not in the list yet is put behind it; none beyond the most -/
def addAll (most : Nat) : List α → List α → Option (List α)
  | [], L => some L
  | y :: ys, L => if y ∈ L then addAll most ys L else if most ≤ L.length then none else addAll most ys (L ++ [y])
def bfs (most : Nat) (nx : α → List α) : Nat → Nat → List α → Option (List α)
  | 0, _, _ => none
  | f + 1, k, L => match L[k]? with
    | none => some L
    | some x => match addAll most (nx x) L with
      | none => none
      | some L' => bfs most nx f (k + 1) L'
def search (most : Nat) (nx : α → List α) (s : α) : Option (List α) := bfs most nx (most + 1) 0 [s]
theorem addAll_len {most : Nat} : ∀ {ys L L' : List α}, addAll most ys L = some L' → L.length ≤ most → L'.length ≤ most
  | [], L, L', h, hl => by cases h; exact hl
  | y :: ys, L, L', h, hl => by
    unfold addAll at h
    by_cases hy : y ∈ L
    · rw [if_pos hy] at h; exact addAll_len h hl
    · rw [if_neg hy] at h
      by_cases hm : most ≤ L.length
      · rw [if_pos hm] at h; cases h
      · rw [if_neg hm] at h
        exact addAll_len h (by rw [List.length_append]; simp; omega)
theorem addAll_pre {most : Nat} : ∀ {ys L L' : List α}, addAll most ys L = some L' → ∃ M, L' = L ++ M
  | [], L, L', h => by cases h; exact ⟨[], by simp⟩
  | y :: ys, L, L', h => by
    unfold addAll at h
    by_cases hy : y ∈ L
    · rw [if_pos hy] at h; exact addAll_pre h
    · rw [if_neg hy] at h
      by_cases hm : most ≤ L.length
      · rw [if_pos hm] at h; cases h
      · rw [if_neg hm] at h
        obtain ⟨M, e⟩ := addAll_pre h
        exact ⟨y :: M, by rw [e, List.append_assoc]; rfl⟩
theorem addAll_nodup {most : Nat} : ∀ {ys L L' : List α}, addAll most ys L = some L' → L.Nodup → L'.Nodup
  | [], L, L', h, hl => by cases h; exact hl
  | y :: ys, L, L', h, hl => by
    unfold addAll at h
    by_cases hy : y ∈ L
    · rw [if_pos hy] at h; exact addAll_nodup h hl
    · rw [if_neg hy] at h
      by_cases hm : most ≤ L.length
      · rw [if_pos hm] at h; cases h
      · rw [if_neg hm] at h
        refine addAll_nodup h ?_
        rw [List.nodup_append]
        exact ⟨hl, by simp, fun a ha b hb e => hy (by rw [List.mem_singleton.mp hb] at e; rw [← e]; exact ha)⟩
theorem addAll_mem {most : Nat} : ∀ {ys L L' : List α}, addAll most ys L = some L' → ∀ y, y ∈ L' ↔ y ∈ L ∨ y ∈ ys
  | [], L, L', h, y => by cases h; simp
  | x :: ys, L, L', h, y => by
    unfold addAll at h
    by_cases hy : x ∈ L
    · rw [if_pos hy] at h
      rw [addAll_mem h y]
      constructor
      · rintro (h | h)
        · exact .inl h
        · exact .inr (List.mem_cons_of_mem _ h)
      · rintro (h | h)
        · exact .inl h
        · rcases List.mem_cons.mp h with e | e
          · rw [e]; exact .inl hy
          · exact .inr e
    · rw [if_neg hy] at h
      by_cases hm : most ≤ L.length
      · rw [if_pos hm] at h; cases h
      · rw [if_neg hm] at h
        rw [addAll_mem h y]
        simp only [List.mem_append, List.mem_cons, List.not_mem_nil, or_false]
        constructor
        · rintro ((h | h) | h)
          · exact .inl h
          · exact .inr (.inl h)
          · exact .inr (.inr h)
        · rintro (h | h | h)
          · exact .inl (.inl h)
          · exact .inl (.inr h)
          · exact .inr h
/-- too many: so many different things, each in the list or come to -/
theorem addAll_none {most : Nat} : ∀ {ys L : List α}, addAll most ys L = none → L.Nodup → ∃ M : List α, M.Nodup ∧ most < M.length ∧ ∀ y ∈ M, y ∈ L ∨ y ∈ ys
  | [], L, h, hl => by cases h
  | x :: ys, L, h, hl => by
    unfold addAll at h
    by_cases hy : x ∈ L
    · rw [if_pos hy] at h
      obtain ⟨M, h1, h2, h3⟩ := addAll_none h hl
      exact ⟨M, h1, h2, fun y hy => (h3 y hy).imp id (List.mem_cons_of_mem _)⟩
    · rw [if_neg hy] at h
      have hnd : (L ++ [x]).Nodup := by
        rw [List.nodup_append]
        exact ⟨hl, by simp, fun a ha b hb e => hy (by rw [List.mem_singleton.mp hb] at e; rw [← e]; exact ha)⟩
      by_cases hm : most ≤ L.length
      · exact ⟨L ++ [x], hnd, by rw [List.length_append]; simp; omega, fun y hy => by
          rcases List.mem_append.mp hy with h | h
          · exact .inl h
          · rw [List.mem_singleton.mp h]; exact .inr List.mem_cons_self⟩
      · rw [if_neg hm] at h
        obtain ⟨M, h1, h2, h3⟩ := addAll_none h hnd
        exact ⟨M, h1, h2, fun y hy => by
          rcases h3 y hy with h | h
          · rcases List.mem_append.mp h with h | h
            · exact .inl h
            · rw [List.mem_singleton.mp h]; exact .inr List.mem_cons_self
          · exact .inr (List.mem_cons_of_mem _ h)⟩
theorem Bst.start (nx : α → List α) (s : α) : Bst nx s 0 [s] [0] := by
  refine ⟨by simp, rfl, rfl, Nat.zero_le _, rfl, by simp, fun i x d h1 h2 => ?_, fun e h d hd => by simp at hd; omega, fun i x e h => by omega⟩
  cases i with
  | zero => cases h1; cases h2; exact .nil
  | succ i => simp at h1
theorem getElem?_append_some {β : Type} {l m : List β} {i : Nat} {x : β} (h : l[i]? = some x) : (l ++ m)[i]? = some x := by
  rw [List.getElem?_append_left (List.getElem?_eq_some_iff.mp h).1]; exact h
theorem addAll_row {most : Nat} {nx : α → List α} {s x : α} {k e : Nat} (hx : Walk nx e s x) : ∀ {ys L L' : List α} {lv : List Nat}, addAll most ys L = some L' → Brow nx s k e L lv → (∀ y ∈ ys, y ∈ nx x) →
    ∃ mv, Brow nx s k e L' (lv ++ mv)
  | [], L, L', lv, h, b, hy => by cases h; exact ⟨[], by rw [List.append_nil]; exact b⟩
  | y :: ys, L, L', lv, h, b, hys => by
    unfold addAll at h
    by_cases hy : y ∈ L
    · rw [if_pos hy] at h
      exact addAll_row hx h b fun z hz => hys z (List.mem_cons_of_mem _ hz)
    · rw [if_neg hy] at h
      by_cases hm : most ≤ L.length
      · rw [if_pos hm] at h; cases h
      · rw [if_neg hm] at h
        obtain ⟨nd, hd, len, l0, up, at_, top⟩ := b
        have b' : Brow nx s k e (L ++ [y]) (lv ++ [e + 1]) := by
          refine ⟨?_, getElem?_append_some hd, by rw [List.length_append, List.length_append, len]; rfl, getElem?_append_some l0, ?_, fun i z d h1 h2 => ?_, fun d hd => ?_⟩
          · rw [List.nodup_append]
            exact ⟨nd, by simp, fun a ha b hb e => hy (by rw [List.mem_singleton.mp hb] at e; rw [← e]; exact ha)⟩
          · rw [List.pairwise_append]
            exact ⟨up, by simp, fun a ha b hb => by rw [List.mem_singleton.mp hb]; exact top a ha⟩
          · by_cases hi : i < L.length
            · rw [List.getElem?_append_left hi] at h1
              rw [List.getElem?_append_left (by omega)] at h2
              exact at_ i z d h1 h2
            · rw [List.getElem?_append_right (by omega)] at h1
              rw [List.getElem?_append_right (by omega), len] at h2
              cases hq : i - L.length with
              | zero =>
                rw [hq] at h1 h2
                cases h1; cases h2
                exact .snoc hx (hys y List.mem_cons_self)
              | succ q => rw [hq] at h1; simp at h1
          · rcases List.mem_append.mp hd with h | h
            · exact top d h
            · rw [List.mem_singleton.mp h]; exact Nat.le_refl _
        obtain ⟨mv, h1⟩ := addAll_row hx h b' fun z hz => hys z (List.mem_cons_of_mem _ hz)
        exact ⟨(e + 1) :: mv, by rw [List.append_assoc] at h1; exact h1⟩
theorem Bst.step {most : Nat} {nx : α → List α} {s x : α} {k : Nat} {L L' : List α} {lv : List Nat} (b : Bst nx s k L lv) (hx : L[k]? = some x) (h : addAll most (nx x) L = some L') : ∃ lv', Bst nx s (k + 1) L' lv' := by
  have hk := (List.getElem?_eq_some_iff.mp hx).1
  obtain ⟨e, he⟩ : ∃ e, lv[k]? = some e := ⟨lv[k]'(by rw [b.len]; exact hk), List.getElem?_eq_getElem _⟩
  obtain ⟨mv, r⟩ := addAll_row (k := k) (b.at_ k x e hx he) h ⟨b.nd, b.hd, b.len, b.l0, b.up, b.at_, b.top e he⟩ fun y hy => hy
  obtain ⟨M, hM⟩ := addAll_pre h
  have mem := addAll_mem h
  refine ⟨lv ++ mv, r.nd, r.hd, r.len, ?_, r.l0, r.up, r.at_, fun e' he' d hd => ?_, fun i z d hi hz hd y hy => ?_⟩
  · rw [hM, List.length_append]; omega
  · -- the level at k + 1 is not below that at k
    have h1 := r.top d hd
    have hle : e ≤ e' := by
      have hpw := List.pairwise_iff_getElem.mp r.up
      obtain ⟨hl1, e1⟩ := List.getElem?_eq_some_iff.mp (getElem?_append_some (m := mv) he)
      obtain ⟨hl2, e2⟩ := List.getElem?_eq_some_iff.mp he'
      have := hpw k (k + 1) hl1 hl2 (by omega)
      rw [e1, e2] at this
      exact this
    omega
  · by_cases hik : i = k
    · subst hik
      have hz' : L'[i]? = some x := by rw [hM]; exact getElem?_append_some hx
      rw [hz'] at hz
      cases hz
      have hd' := getElem?_append_some (m := mv) he
      rw [hd'] at hd
      cases hd
      have hy' : y ∈ L' := (mem y).mpr (.inr hy)
      obtain ⟨j, hj⟩ := List.getElem?_of_mem hy'
      have hjl := (List.getElem?_eq_some_iff.mp hj).1
      refine ⟨j, (lv ++ mv)[j]'(by rw [r.len]; exact hjl), hj, List.getElem?_eq_getElem _, r.top _ (List.getElem_mem _)⟩
    · have hik' : i < k := by omega
      have hil : i < L.length := by omega
      have hzL : L[i]? = some z := by
        rw [hM, List.getElem?_append_left hil] at hz; exact hz
      have hdL : lv[i]? = some d := by
        rw [List.getElem?_append_left (by rw [b.len]; exact hil)] at hd; exact hd
      obtain ⟨j, d', h1, h2, h3⟩ := b.done i z d hik' hzL hdL y hy
      exact ⟨j, d', by rw [hM]; exact getElem?_append_some h1, getElem?_append_some h2, h3⟩
theorem Bst.least {nx : α → List α} {s : α} {k : Nat} {L : List α} {lv : List Nat} (b : Bst nx s k L lv) (hk : k = L.length) (n : Nat) (y : α) (w : Walk nx n s y) : ∃ (j d : Nat), L[j]? = some y ∧ lv[j]? = some d ∧ d ≤ n := by
  induction w with
  | nil => exact ⟨0, 0, b.hd, b.l0, Nat.le_refl _⟩
  | snoc _ hz ih2 =>
    obtain ⟨j, d, h1, h2, h3⟩ := ih2 b
    obtain ⟨j2, d2, q1, q2, q3⟩ := b.done j _ d (by rw [hk]; exact (List.getElem?_eq_some_iff.mp h1).1) h1 h2 _ hz
    exact ⟨j2, d2, q1, q2, by omega⟩
theorem bfs_found {most : Nat} {nx : α → List α} {s : α} : ∀ {f k : Nat} {L L' : List α} {lv : List Nat}, bfs most nx f k L = some L' → Bst nx s k L lv → Found nx s L' := by
  intro f
  induction f with
  | zero => intro k L L' lv h; cases h
  | succ f ih =>
    intro k L L' lv h b
    unfold bfs at h
    cases hx : L[k]? with
    | none =>
      rw [hx] at h
      cases h
      have hk : k = L.length := Nat.le_antisymm b.kl (List.getElem?_eq_none_iff.mp hx)
      have lvl : ∀ i x, L[i]? = some x → ∃ d, lv[i]? = some d := fun i x h => ⟨lv[i]'(by rw [b.len]; exact (List.getElem?_eq_some_iff.mp h).1), List.getElem?_eq_getElem _⟩
      have closed : ∀ x ∈ L, ∀ y ∈ nx x, y ∈ L := fun x hx y hy => by
        obtain ⟨i, hi⟩ := List.getElem?_of_mem hx
        obtain ⟨d, hd⟩ := lvl i x hi
        obtain ⟨j, _, hj, _⟩ := b.done i x d (by rw [hk]; exact (List.getElem?_eq_some_iff.mp hi).1) hi hd y hy
        exact List.mem_of_getElem? hj
      have least := b.least hk
      refine ⟨b.nd, b.hd, closed, fun x hx => ?_, fun i j x y n hij hi hj w => ?_⟩
      · obtain ⟨i, hi⟩ := List.getElem?_of_mem hx
        obtain ⟨d, hd⟩ := lvl i x hi
        exact ⟨d, b.at_ i x d hi hd⟩
      · obtain ⟨di, hdi⟩ := lvl i x hi
        obtain ⟨j2, d2, q1, q2, q3⟩ := least n y w
        have hjj : j2 = j := by
          obtain ⟨a1, b1⟩ := List.getElem?_eq_some_iff.mp q1
          obtain ⟨a2, b2⟩ := List.getElem?_eq_some_iff.mp hj
          exact (List.getElem_inj b.nd).mp (b1.trans b2.symm)
        subst hjj
        refine ⟨di, ?_, b.at_ i x di hi hdi⟩
        rcases Nat.lt_or_eq_of_le hij with h | h
        · have hpw := List.pairwise_iff_getElem.mp b.up
          obtain ⟨hl1, e1⟩ := List.getElem?_eq_some_iff.mp hdi
          obtain ⟨hl2, e2⟩ := List.getElem?_eq_some_iff.mp q2
          have := hpw i j2 hl1 hl2 h
          rw [e1, e2] at this
          omega
        · subst h
          rw [hdi] at q2
          cases q2
          exact q3
    | some x =>
      rw [hx] at h
      cases ha : addAll most (nx x) L with
      | none => simp only [ha] at h; cases h
      | some L2 =>
        simp only [ha] at h
        obtain ⟨lv', b'⟩ := b.step hx ha
        exact ih h b'
theorem search_found {most : Nat} {nx : α → List α} {s : α} {L : List α} (h : search most nx s = some L) : Found nx s L := bfs_found h (Bst.start nx s)
theorem bfs_len {most : Nat} {nx : α → List α} : ∀ {f k : Nat} {L L' : List α}, bfs most nx f k L = some L' → L.length ≤ most → L'.length ≤ most := by
  intro f
  induction f with
  | zero => intro k L L' h; cases h
  | succ f ih =>
    intro k L L' h hl
    unfold bfs at h
    cases hx : L[k]? with
    | none => rw [hx] at h; cases h; exact hl
    | some x =>
      rw [hx] at h
      cases ha : addAll most (nx x) L with
      | none => simp only [ha] at h; cases h
      | some L2 =>
        simp only [ha] at h
        exact ih h (addAll_len ha hl)
theorem search_len {most : Nat} {nx : α → List α} {s : α} {L : List α} (h : search most nx s = some L) (hm : 1 ≤ most) : L.length ≤ most := bfs_len h hm
theorem Found.all {nx : α → List α} {s : α} {L : List α} (f : Found nx s L) {n : Nat} {y : α} (w : Walk nx n s y) : y ∈ L := by
  induction w with
  | nil => exact List.mem_of_getElem? f.hd
  | snoc _ hz ih => exact f.closed _ (ih f) _ hz
theorem nodup_sub : ∀ {M L : List α}, M.Nodup → (∀ x ∈ M, x ∈ L) → M.length ≤ L.length
  | [], L, _, _ => Nat.zero_le _
  | x :: M, L, h, hs => by
    have hx := hs x List.mem_cons_self
    have h1 : M.length ≤ (L.erase x).length := nodup_sub (List.nodup_cons.mp h).2 fun y hy => by
      have hne : y ≠ x := fun e => (List.nodup_cons.mp h).1 (by rw [← e]; exact hy)
      exact (List.mem_erase_of_ne hne).mpr (hs y (List.mem_cons_of_mem _ hy))
    have h2 := List.length_erase_of_mem hx
    have h3 : 0 < L.length := List.length_pos_of_mem hx
    rw [List.length_cons]
    omega
/-- a search ends unless there are too many -/
theorem bfs_some {most : Nat} {nx : α → List α} {s : α} (hb : ∀ M : List α, M.Nodup → (∀ y ∈ M, ∃ n, Walk nx n s y) → M.length ≤ most) : ∀ {f k : Nat} {L : List α} {lv : List Nat}, Bst nx s k L lv → L.length ≤ most → most < f + k → ∃ L', bfs most nx f k L = some L' := by
  intro f
  induction f with
  | zero => intro k L lv b hl hf; have := b.kl; omega
  | succ f ih =>
    intro k L lv b hl hf
    unfold bfs
    cases hx : L[k]? with
    | none => exact ⟨L, rfl⟩
    | some x =>
      have hk := (List.getElem?_eq_some_iff.mp hx).1
      cases ha : addAll most (nx x) L with
      | none =>
        exfalso
        obtain ⟨M, h1, h2, h3⟩ := addAll_none ha b.nd
        have lvl : ∀ i x, L[i]? = some x → ∃ d, lv[i]? = some d := fun i x h => ⟨lv[i]'(by rw [b.len]; exact (List.getElem?_eq_some_iff.mp h).1), List.getElem?_eq_getElem _⟩
        have := hb M h1 fun y hy => by
          rcases h3 y hy with h | h
          · obtain ⟨i, hi⟩ := List.getElem?_of_mem h
            obtain ⟨d, hd⟩ := lvl i y hi
            exact ⟨d, b.at_ i y d hi hd⟩
          · obtain ⟨d, hd⟩ := lvl k x hx
            exact ⟨d + 1, .snoc (b.at_ k x d hx hd) h⟩
        omega
      | some L2 =>
        obtain ⟨lv', b'⟩ := b.step hx ha
        simp only [ha]
        exact ih b' (addAll_len ha hl) (by omega)
theorem search_some {most : Nat} {nx : α → List α} {s : α} (hm : 1 ≤ most) (hb : ∀ M : List α, M.Nodup → (∀ y ∈ M, ∃ n, Walk nx n s y) → M.length ≤ most) : ∃ L, search most nx s = some L :=
  bfs_some hb (Bst.start nx s) hm (by omega)
/-- and none if there are -/
theorem search_none {most : Nat} {nx : α → List α} {s : α} (hm : 1 ≤ most) {M : List α} (h1 : M.Nodup) (h2 : ∀ y ∈ M, ∃ n, Walk nx n s y) (h3 : most < M.length) : search most nx s = none := by
  cases h : search most nx s with
  | none => rfl
  | some L =>
    exfalso
    have f := search_found h
    have hl := search_len h hm
    have := nodup_sub h1 fun y hy => let ⟨n, w⟩ := h2 y hy; f.all w
    omega
end
end M
/-! ## Ma2 -/
/-! Steps to a goal, from behind; the run by the steps: the mathematics. -/
namespace M
section
variable {α : Type}
def Dist (nx : α → List α) (s y : α) (d : Nat) : Prop := Walk nx d s y ∧ ∀ k, Walk nx k s y → d ≤ k
theorem Dist.uniq {nx : α → List α} {s y : α} {d e : Nat} (a : Dist nx s y d) (b : Dist nx s y e) : d = e := Nat.le_antisymm (a.2 _ b.1) (b.2 _ a.1)
theorem Walk.congr {nx nx' : α → List α} (h : ∀ x y, y ∈ nx x → y ∈ nx' x) {n : Nat} {x y : α} (w : Walk nx n x y) : Walk nx' n x y := by
  induction w with
  | nil => exact .nil
  | snoc _ hz ih => exact .snoc ih (h _ _ hz)
theorem Walk.zero {nx : α → List α} {x y : α} (w : Walk nx 0 x y) : x = y := by cases w; rfl
theorem Walk.last {nx : α → List α} {n : Nat} {x z : α} (w : Walk nx (n + 1) x z) : ∃ y, Walk nx n x y ∧ z ∈ nx y := by
  cases w with
  | snoc h hz => exact ⟨_, h, hz⟩
theorem Dist.zero {nx : α → List α} {s : α} : Dist nx s s 0 := ⟨.nil, fun _ _ => Nat.zero_le _⟩
/-- the last step of a shortest way -/
theorem Dist.last {nx : α → List α} {s y : α} {d : Nat} (h : Dist nx s y (d + 1)) : ∃ x, Dist nx s x d ∧ y ∈ nx x := by
  obtain ⟨x, w, hy⟩ := h.1.last
  exact ⟨x, ⟨w, fun k wk => by have := h.2 _ (Walk.snoc wk hy); omega⟩, hy⟩
theorem walk_dist {nx : α → List α} {s y : α} : ∀ {n : Nat}, Walk nx n s y → ∃ d, Dist nx s y d := by
  have key : ∀ N n, n ≤ N → Walk nx n s y → ∃ d, Dist nx s y d := by
    intro N
    induction N with
    | zero => intro n hn w; exact ⟨n, w, fun k _ => by omega⟩
    | succ N ih =>
      intro n hn w
      by_cases h : ∃ k, k < n ∧ Walk nx k s y
      · obtain ⟨k, hk, wk⟩ := h
        exact ih k (by omega) wk
      · exact ⟨n, w, fun k wk => by
          by_cases hk : k < n
          · exact (h ⟨k, hk, wk⟩).elim
          · omega⟩
  intro n w
  exact key n n (Nat.le_refl _) w
end
/-! ### links -/
abbrev Links := List (List (Nat × Nat))
/-- from where a link leads to j -/
def preL (LS : Links) (j : Nat) : List Nat := (List.range LS.length).filter fun a => (LS.getD a []).any fun p => p.2 == j
theorem mem_preL {LS : Links} {j a : Nat} : a ∈ preL LS j ↔ a < LS.length ∧ ∃ t, (t, j) ∈ LS.getD a [] := by
  unfold preL
  rw [List.mem_filter, List.mem_range, List.any_eq_true]
  constructor
  · rintro ⟨h, ⟨t, k⟩, hm, he⟩
    have : k = j := by simpa using he
    subst this
    exact ⟨h, t, hm⟩
  · rintro ⟨h, t, hm⟩
    exact ⟨h, (t, j), hm, by simp⟩
abbrev Steps := List (Option Nat)
structure StOk (LS : Links) (g : Nat) (st : Steps) : Prop where
  len : st.length = LS.length
  dist : ∀ i, i < LS.length → ∀ d, st[i]? = some (some d) ↔ Dist (preL LS) g i d
theorem StOk.uniq {LS : Links} {g : Nat} {st st' : Steps} (a : StOk LS g st) (b : StOk LS g st') : st = st' := by
  apply List.ext_getElem?
  intro i
  by_cases hi : i < LS.length
  · have h1 : ∃ o, st[i]? = some o := ⟨st[i]'(by rw [a.len]; exact hi), List.getElem?_eq_getElem _⟩
    have h2 : ∃ o, st'[i]? = some o := ⟨st'[i]'(by rw [b.len]; exact hi), List.getElem?_eq_getElem _⟩
    obtain ⟨o, h1⟩ := h1
    obtain ⟨o', h2⟩ := h2
    rw [h1, h2]
    cases o with
    | some d => rw [(b.dist i hi d).mpr ((a.dist i hi d).mp h1)] at h2; exact h2
    | none =>
      cases o' with
      | none => rfl
      | some d => rw [(a.dist i hi d).mpr ((b.dist i hi d).mp h2)] at h1; cases h1
  · rw [List.getElem?_eq_none (by rw [a.len]; omega), List.getElem?_eq_none (by rw [b.len]; omega)]
/-- a link one step nearer -/
def nearer (st : Steps) (d : Nat) (p : Nat × Nat) : Bool := st[p.2]? == some (some d)
def runOf (LS : Links) (st : Steps) : Nat → Nat → List Nat
  | 0, _ => []
  | d + 1, here => match (LS.getD here []).find? (nearer st d) with
    | some p => p.1 :: runOf LS st d p.2
    | none => []
/-- all links lead to a place -/
def LkOk (LS : Links) : Prop := ∀ i, ∀ p ∈ LS.getD i [], p.2 < LS.length
theorem StOk.near {LS : Links} {g : Nat} {st : Steps} (a : StOk LS g st) (hl : LkOk LS) {i d : Nat} (hi : i < LS.length) (h : st[i]? = some (some (d + 1))) :
    ∃ p, (LS.getD i []).find? (nearer st d) = some p ∧ p ∈ LS.getD i [] ∧ p.2 < LS.length ∧ st[p.2]? = some (some d) := by
  obtain ⟨x, hx, hm⟩ := ((a.dist i hi _).mp h).last
  obtain ⟨_, t, ht⟩ := mem_preL.mp hm
  have hxl := hl i _ ht
  have hs := (a.dist x hxl d).mpr hx
  cases hf : (LS.getD i []).find? (nearer st d) with
  | none =>
    have := List.find?_eq_none.mp hf _ ht
    exact (this (by unfold nearer; rw [hs]; simp)).elim
  | some p =>
    have hp := List.find?_some hf
    have hpm := List.mem_of_find?_eq_some hf
    refine ⟨p, rfl, hpm, hl i _ hpm, ?_⟩
    unfold nearer at hp
    simpa using hp
theorem StOk.goal {LS : Links} {g : Nat} {st : Steps} (a : StOk LS g st) {i : Nat} (hi : i < LS.length) (h : st[i]? = some (some 0)) : i = g := ((a.dist i hi 0).mp h).1.zero.symm
theorem runOf_len {LS : Links} {g : Nat} {st : Steps} (a : StOk LS g st) (hl : LkOk LS) : ∀ {d here : Nat}, here < LS.length → st[here]? = some (some d) → (runOf LS st d here).length = d
  | 0, _, _, _ => rfl
  | d + 1, here, hh, hs => by
    obtain ⟨p, h1, _, h3, h4⟩ := a.near hl hh hs
    show (match (LS.getD here []).find? (nearer st d) with
    | some p => p.1 :: runOf LS st d p.2
    | none => []).length = _
    rw [h1]
    show (p.1 :: runOf LS st d p.2).length = _
    rw [List.length_cons, runOf_len a hl h3 h4]
theorem runOf_succ {LS : Links} {g : Nat} {st : Steps} (a : StOk LS g st) (hl : LkOk LS) {d here : Nat} (hh : here < LS.length) (hs : st[here]? = some (some (d + 1))) :
    ∃ p, (LS.getD here []).find? (nearer st d) = some p ∧ p ∈ LS.getD here [] ∧ p.2 < LS.length ∧ st[p.2]? = some (some d) ∧ runOf LS st (d + 1) here = p.1 :: runOf LS st d p.2 := by
  obtain ⟨p, h1, h2, h3, h4⟩ := a.near hl hh hs
  refine ⟨p, h1, h2, h3, h4, ?_⟩
  show (match (LS.getD here []).find? (nearer st d) with
    | some p => p.1 :: runOf LS st d p.2
    | none => []) = _
  rw [h1]
/-- steps are fewer than the places -/
theorem dist_lt {LS : Links} {g : Nat} (hl : LkOk LS) : ∀ {d i : Nat}, i < LS.length → Dist (preL LS) g i d → d < LS.length := by
  have key : ∀ {d i : Nat}, Dist (preL LS) g i d → i < LS.length → ∃ l : List Nat, l.length = d + 1 ∧ (∀ x ∈ l, x < LS.length ∧ ∃ e, e ≤ d ∧ Dist (preL LS) g x e) ∧ l.Nodup := by
    intro d
    induction d with
    | zero => intro i h hi; exact ⟨[i], rfl, fun x hx => by rw [List.mem_singleton.mp hx]; exact ⟨hi, 0, Nat.le_refl _, h⟩, by simp⟩
    | succ d ih =>
      intro i h hi
      obtain ⟨x, hx, hm⟩ := h.last
      obtain ⟨_, t, ht⟩ := mem_preL.mp hm
      obtain ⟨l, h1, h2, h3⟩ := ih hx (hl i _ ht)
      refine ⟨i :: l, by rw [List.length_cons, h1], fun y hy => ?_, List.nodup_cons.mpr ⟨fun hm => ?_, h3⟩⟩
      · rcases List.mem_cons.mp hy with e | e
        · rw [e]; exact ⟨hi, d + 1, Nat.le_refl _, h⟩
        · obtain ⟨q1, e, q2, q3⟩ := h2 y e
          exact ⟨q1, e, by omega, q3⟩
      · obtain ⟨_, e, q2, q3⟩ := h2 i hm
        have := q3.uniq h
        omega
  intro d i hi h
  obtain ⟨l, h1, h2, h3⟩ := key h hi
  have := nodup_sub (L := List.range LS.length) h3 fun x hx => List.mem_range.mpr (h2 x hx).1
  rw [h1, List.length_range] at this
  omega
/-! ### the search from behind, as the code goes -/
/-- what the lists of the places behind tell -/
def BkOk (LS : Links) (B : List (List Nat)) : Prop := B.length = LS.length ∧ ∀ j a, j < LS.length → (a ∈ B.getD j [] ↔ a ∈ preL LS j)
/-- the list st tells the levels of the found ones -/
structure Lv (n : Nat) (L : List Nat) (lv : List Nat) (st : Steps) : Prop where
  len : st.length = n
  lt : ∀ i ∈ L, i < n
  at_ : ∀ (p i d : Nat), L[p]? = some i → lv[p]? = some d → st[i]? = some (some d)
  no : ∀ i, i < n → i ∉ L → st[i]? = some none
theorem Lv.start {n g : Nat} (hg : g < n) : Lv n [g] [0] ((List.replicate n none).set g (some 0)) := by
  refine ⟨by simp, fun i hi => by rw [List.mem_singleton.mp hi]; exact hg, fun p i d h1 h2 => ?_, fun i hi hn => ?_⟩
  · cases p with
    | zero => cases h1; cases h2; rw [List.getElem?_set_self (by simpa using hg)]
    | succ p => simp at h1
  · have hne : g ≠ i := fun e => hn (by rw [e]; simp)
    rw [List.getElem?_set_ne hne, List.getElem?_replicate, if_pos hi]
theorem Lv.add {n : Nat} {L lv : List Nat} {st : Steps} (h : Lv n L lv st) (hl : lv.length = L.length) {y e : Nat} (hy : y < n) (hn : y ∉ L) : Lv n (L ++ [y]) (lv ++ [e]) (st.set y (some e)) := by
  have hys : y < st.length := by rw [h.len]; exact hy
  refine ⟨by rw [List.length_set]; exact h.len, fun i hi => ?_, fun p i d h1 h2 => ?_, fun i hi hni => ?_⟩
  · rcases List.mem_append.mp hi with q | q
    · exact h.lt i q
    · rw [List.mem_singleton.mp q]; exact hy
  · by_cases hp : p < L.length
    · rw [List.getElem?_append_left hp] at h1
      rw [List.getElem?_append_left (by omega)] at h2
      have hne : y ≠ i := fun q => hn (by rw [q]; exact List.mem_of_getElem? h1)
      rw [List.getElem?_set_ne hne]
      exact h.at_ p i d h1 h2
    · rw [List.getElem?_append_right (by omega)] at h1
      rw [List.getElem?_append_right (by omega), hl] at h2
      cases hq : p - L.length with
      | zero =>
        rw [hq] at h1 h2
        cases h1; cases h2
        rw [List.getElem?_set_self hys]
      | succ q => rw [hq] at h1; simp at h1
  · have hne : y ≠ i := fun q => hni (by rw [q]; simp)
    rw [List.getElem?_set_ne hne]
    exact h.no i hi fun q => hni (List.mem_append_left _ q)
/-- a search's row: one more -/
theorem Brow.add {α : Type} {nx : α → List α} {s x y : α} {k e : Nat} {L : List α} {lv : List Nat} (b : Brow nx s k e L lv) (hx : Walk nx e s x) (hy : y ∉ L) (hm : y ∈ nx x) : Brow nx s k e (L ++ [y]) (lv ++ [e + 1]) := by
  obtain ⟨nd, hd, len, l0, up, at_, top⟩ := b
  refine ⟨?_, getElem?_append_some hd, by rw [List.length_append, List.length_append, len]; rfl, getElem?_append_some l0, ?_, fun i z d h1 h2 => ?_, fun d hd => ?_⟩
  · rw [List.nodup_append]
    exact ⟨nd, by simp, fun a ha b hb e => hy (by rw [List.mem_singleton.mp hb] at e; rw [← e]; exact ha)⟩
  · rw [List.pairwise_append]
    exact ⟨up, by simp, fun a ha b hb => by rw [List.mem_singleton.mp hb]; exact top a ha⟩
  · by_cases hi : i < L.length
    · rw [List.getElem?_append_left hi] at h1
      rw [List.getElem?_append_left (by omega)] at h2
      exact at_ i z d h1 h2
    · rw [List.getElem?_append_right (by omega)] at h1
      rw [List.getElem?_append_right (by omega), len] at h2
      cases hq : i - L.length with
      | zero =>
        rw [hq] at h1 h2
        cases h1; cases h2
        exact .snoc hx hm
      | succ q => rw [hq] at h1; simp at h1
  · rcases List.mem_append.mp hd with h | h
    · exact top d h
    · rw [List.mem_singleton.mp h]; exact Nat.le_refl _
theorem Bst.row {α : Type} {nx : α → List α} {s : α} {k e : Nat} {L : List α} {lv : List Nat} (b : Bst nx s k L lv) (he : lv[k]? = some e) : Brow nx s k e L lv := ⟨b.nd, b.hd, b.len, b.l0, b.up, b.at_, b.top e he⟩
theorem Bst.fin {α : Type} {nx : α → List α} {s x : α} {k e : Nat} {L M : List α} {lv mv : List Nat} (b : Bst nx s k L lv) (hx : L[k]? = some x) (he : lv[k]? = some e) (r : Brow nx s k e (L ++ M) (lv ++ mv)) (mem : ∀ y ∈ nx x, y ∈ L ++ M) : Bst nx s (k + 1) (L ++ M) (lv ++ mv) := by
  have hk := (List.getElem?_eq_some_iff.mp hx).1
  refine ⟨r.nd, r.hd, r.len, ?_, r.l0, r.up, r.at_, fun e' he' d hd => ?_, fun i z d hi hz hd y hy => ?_⟩
  · rw [List.length_append]; omega
  · have h1 := r.top d hd
    have hle : e ≤ e' := by
      have hpw := List.pairwise_iff_getElem.mp r.up
      obtain ⟨hl1, e1⟩ := List.getElem?_eq_some_iff.mp (getElem?_append_some (m := mv) he)
      obtain ⟨hl2, e2⟩ := List.getElem?_eq_some_iff.mp he'
      have := hpw k (k + 1) hl1 hl2 (by omega)
      rw [e1, e2] at this
      exact this
    omega
  · by_cases hik : i = k
    · subst hik
      have hz' : (L ++ M)[i]? = some x := getElem?_append_some hx
      rw [hz'] at hz
      cases hz
      have hd' := getElem?_append_some (m := mv) he
      rw [hd'] at hd
      cases hd
      obtain ⟨j, hj⟩ := List.getElem?_of_mem (mem y hy)
      have hjl := (List.getElem?_eq_some_iff.mp hj).1
      refine ⟨j, (lv ++ mv)[j]'(by rw [r.len]; exact hjl), hj, List.getElem?_eq_getElem _, r.top _ (List.getElem_mem _)⟩
    · have hik' : i < k := by omega
      have hil : i < L.length := by omega
      have hzL : L[i]? = some z := by
        rw [List.getElem?_append_left hil] at hz; exact hz
      have hdL : lv[i]? = some d := by
        rw [List.getElem?_append_left (by rw [b.len]; exact hil)] at hd; exact hd
      obtain ⟨j, d', h1, h2, h3⟩ := b.done i z d hik' hzL hdL y hy
      exact ⟨j, d', getElem?_append_some h1, getElem?_append_some h2, h3⟩
/-- the end of the search from behind -/
theorem st_end {LS : Links} {B : List (List Nat)} {g : Nat} {L lv : List Nat} {st : Steps} (hB : BkOk LS B) (hg : g < LS.length) (b : Bst (fun j => B.getD j []) g L.length L lv) (h : Lv LS.length L lv st) : StOk LS g st := by
  have hw : ∀ (n i : Nat), Walk (preL LS) n g i → i < LS.length ∧ Walk (fun j => B.getD j []) n g i := by
    intro n i w
    induction w with
    | nil => exact ⟨hg, .nil⟩
    | snoc _ hz ih =>
      obtain ⟨q1, q2⟩ := ih hg b
      exact ⟨(mem_preL.mp hz).1, .snoc q2 ((hB.2 _ _ q1).mpr hz)⟩
  have hw' : ∀ (n i : Nat), Walk (fun j => B.getD j []) n g i → i < LS.length ∧ Walk (preL LS) n g i := by
    intro n i w
    induction w with
    | nil => exact ⟨hg, .nil⟩
    | snoc _ hz ih =>
      obtain ⟨q1, q2⟩ := ih hg b hw
      have := (hB.2 _ _ q1).mp hz
      exact ⟨(mem_preL.mp this).1, .snoc q2 this⟩
  refine ⟨h.len, fun i hi d => ?_⟩
  constructor
  · intro hs
    by_cases hm : i ∈ L
    · obtain ⟨p, hp⟩ := List.getElem?_of_mem hm
      have hpl := (List.getElem?_eq_some_iff.mp hp).1
      obtain ⟨e, he⟩ : ∃ e, lv[p]? = some e := ⟨lv[p]'(by rw [b.len]; exact hpl), List.getElem?_eq_getElem _⟩
      have := h.at_ p i e hp he
      rw [hs] at this
      cases this
      refine ⟨(hw' _ _ (b.at_ p i d hp he)).2, fun k wk => ?_⟩
      obtain ⟨j, d', h1, h2, h3⟩ := b.least rfl k i (hw _ _ wk).2
      have hjp : j = p := by
        obtain ⟨a1, b1⟩ := List.getElem?_eq_some_iff.mp h1
        obtain ⟨a2, b2⟩ := List.getElem?_eq_some_iff.mp hp
        exact (List.getElem_inj b.nd).mp (b1.trans b2.symm)
      subst hjp
      rw [he] at h2
      cases h2
      exact h3
    · rw [h.no i hi hm] at hs
      cases hs
  · intro hd
    obtain ⟨j, d', h1, h2, h3⟩ := b.least rfl d i (hw _ _ hd.1).2
    have hd' := (hw' _ _ (b.at_ j i d' h1 h2)).2
    have : d' = d := Nat.le_antisymm h3 (hd.2 _ hd')
    subst this
    exact h.at_ j i d' h1 h2
end M
/-! ## Ma3 -/
/-! Standings: how many there are; moves; sums: the mathematics. -/
namespace M
/-! ### the number of standings -/
def bin : Nat → Nat → Nat
  | 0, _ => 1
  | k + 1, 0 => 1
  | k + 1, n + 1 => bin (k + 1) n + bin k (n + 1)
theorem bin_00 (n : Nat) : bin 0 n = 1 := by unfold bin; rfl
theorem bin_s0 (k : Nat) : bin (k + 1) 0 = 1 := by unfold bin; rfl
theorem bin_k0 (k : Nat) : bin k 0 = 1 := by cases k with
  | zero => exact bin_00 0
  | succ k => exact bin_s0 k
theorem bin_ss (k n : Nat) : bin (k + 1) (n + 1) = bin (k + 1) n + bin k (n + 1) := by rw [bin]
theorem bin_law : ∀ k, (∀ n, (n + 1) * bin k (n + 1) = (n + k + 1) * bin k n) ∧ (∀ n, bin (k + 1) n * (k + 1) = bin k n * (n + k + 1))
  | 0 => by
    have s2 : ∀ n, (n + 1) * bin 0 (n + 1) = (n + 0 + 1) * bin 0 n := fun n => by rw [bin_00, bin_00]
    refine ⟨s2, fun n => ?_⟩
    induction n with
    | zero => rw [bin_s0, bin_00]
    | succ n ih =>
      rw [bin_ss, bin_00] at *
      omega
  | k + 1 => by
    obtain ⟨s2, s1⟩ := bin_law k
    have s2' : ∀ n, (n + 1) * bin (k + 1) (n + 1) = (n + (k + 1) + 1) * bin (k + 1) n := fun n => by
      rw [bin_ss, Nat.mul_add, s2, Nat.mul_comm (n + k + 1), ← s1, Nat.mul_comm (bin (k + 1) n) (k + 1), ← Nat.add_mul]
      congr 1
      omega
    refine ⟨s2', fun n => ?_⟩
    induction n with
    | zero => rw [bin_s0, bin_s0]; omega
    | succ n ih =>
      have h := s2' n
      have e1 : bin (k + 1 + 1) (n + 1) * (k + 1 + 1) = bin (k + 1) n * (n + (k + 1) + 1) + bin (k + 1) (n + 1) * (k + 1 + 1) := by rw [bin_ss, Nat.add_mul, ih]
      rw [e1, Nat.mul_comm (bin (k + 1) n), ← h, Nat.mul_comm (n + 1), ← Nat.mul_add]
      congr 1
      try omega
theorem crowd_bin (N : Nat) : ∀ k : Nat, (List.range k).foldl (crowdStep (N : Int)) 1 = (bin k N : Int)
  | 0 => by rw [bin_00]; rfl
  | k + 1 => by
    rw [List.range_succ, List.foldl_append, crowd_bin N k]
    show ((bin k N : Int) * ((N : Int) + (k : Int) + 1)) / ((k : Int) + 1) = _
    have h := (bin_law k).2 N
    have h' : ((bin k N : Int) * ((N : Int) + (k : Int) + 1)) = (bin (k + 1) N : Int) * ((k : Int) + 1) := by
      have := congrArg (fun x : Nat => (x : Int)) h
      simp only [Int.natCast_mul, Int.natCast_add, Int.natCast_one] at this
      rw [this]
    rw [h']
    exact Int.mul_ediv_cancel _ (by omega)
def incHd : Vec → Vec
  | [] => []
  | x :: xs => (x + 1) :: xs
/-- all standings of k + 1 kinds and n members -/
def allV : Nat → Nat → List Vec
  | 0, n => [[(n : Int)]]
  | k + 1, 0 => (allV k 0).map (0 :: ·)
  | k + 1, n + 1 => (allV (k + 1) n).map incHd ++ (allV k (n + 1)).map (0 :: ·)
theorem allV_0 (n : Nat) : allV 0 n = [[(n : Int)]] := by unfold allV; rfl
theorem allV_s0 (k : Nat) : allV (k + 1) 0 = (allV k 0).map (0 :: ·) := by rw [allV]
theorem allV_ss (k n : Nat) : allV (k + 1) (n + 1) = (allV (k + 1) n).map incHd ++ (allV k (n + 1)).map (0 :: ·) := by rw [allV]
theorem allV_len : ∀ k n, (allV k n).length = bin k n := by
  intro k
  induction k with
  | zero => intro n; rw [allV_0, bin_00]; rfl
  | succ k ih =>
    intro n
    induction n with
    | zero => rw [allV_s0, List.length_map, ih, bin_s0, bin_k0]
    | succ n ihn => rw [allV_ss, List.length_append, List.length_map, List.length_map, ihn, ih, bin_ss]
theorem hv_zero_all : ∀ {x : Vec} {m : Nat}, Hv m 0 x → x = List.replicate m 0
  | [], m, h => by rw [← h.len]; rfl
  | a :: x, m, h => by
    have h1 := h.nn a List.mem_cons_self
    have h2 : 0 ≤ x.sum := sum_nn fun e he => h.nn e (List.mem_cons_of_mem _ he)
    have h3 := h.sum
    rw [List.sum_cons] at h3
    have h4 := h.len
    have ha : a = 0 := by omega
    subst ha
    have h5 : x.sum = 0 := by omega
    have := hv_zero_all (x := x) (m := x.length) ⟨rfl, fun e he => h.nn e (List.mem_cons_of_mem _ he), h5⟩
    rw [List.length_cons] at h4
    rw [← h4, List.replicate_succ, ← this]
where sum_nn : ∀ {x : Vec}, (∀ e ∈ x, 0 ≤ e) → 0 ≤ x.sum
  | [], _ => by simp
  | a :: x, h => by
    have := sum_nn fun e he => h e (List.mem_cons_of_mem _ he)
    have := h a List.mem_cons_self
    rw [List.sum_cons]
    omega
theorem sum_nn {x : Vec} (h : ∀ e ∈ x, 0 ≤ e) : 0 ≤ x.sum := hv_zero_all.sum_nn h
theorem hv_hd {m : Nat} {N : Int} {x : Vec} (h : Hv (m + 1) N x) : ∃ a y, x = a :: y ∧ 0 ≤ a ∧ Hv m (N - a) y := by
  cases x with
  | nil => have := h.len; simp at this
  | cons a y =>
    have h1 := h.len
    have h2 := h.sum
    rw [List.sum_cons] at h2
    exact ⟨a, y, rfl, h.nn a List.mem_cons_self, by simpa using h1, fun e he => h.nn e (List.mem_cons_of_mem _ he), by omega⟩
theorem hv_cons {m : Nat} {N a : Int} {y : Vec} (ha : 0 ≤ a) (h : Hv m N y) : Hv (m + 1) (N + a) (a :: y) :=
  ⟨by rw [List.length_cons, h.len], fun e he => by
    rcases List.mem_cons.mp he with q | q
    · rw [q]; exact ha
    · exact h.nn e q, by rw [List.sum_cons, h.sum]; omega⟩
theorem allV_mem : ∀ k n (x : Vec), x ∈ allV k n ↔ Hv (k + 1) (n : Int) x := by
  intro k
  induction k with
  | zero =>
    intro n x
    rw [allV_0, List.mem_singleton]
    constructor
    · rintro rfl
      exact ⟨rfl, fun e he => by rw [List.mem_singleton.mp he]; omega, by simp⟩
    · intro h
      obtain ⟨a, y, rfl, ha, hy⟩ := hv_hd h
      have hl := hy.len
      have : y = [] := List.length_eq_zero_iff.mp hl
      subst this
      have := hy.sum
      simp at this
      have : a = n := by omega
      rw [this]
  | succ k ih =>
    intro n
    induction n with
    | zero =>
      intro x
      rw [allV_s0, List.mem_map]
      constructor
      · rintro ⟨y, hy, rfl⟩
        have := hv_cons (Int.le_refl 0) ((ih 0 y).mp hy)
        simpa using this
      · intro h
        obtain ⟨a, y, rfl, ha, hy⟩ := hv_hd h
        have h0 := sum_nn hy.nn
        have := hy.sum
        have : a = 0 := by omega
        subst this
        exact ⟨y, (ih 0 y).mpr (by simpa using hy), rfl⟩
    | succ n ihn =>
      intro x
      rw [allV_ss, List.mem_append, List.mem_map, List.mem_map]
      constructor
      · rintro (⟨y, hy, rfl⟩ | ⟨y, hy, rfl⟩)
        · obtain ⟨a, z, rfl, ha, hz⟩ := hv_hd ((ihn y).mp hy)
          have := hv_cons (a := a + 1) (by omega) hz
          have e : ((n : Int) - a) + (a + 1) = ((n + 1 : Nat) : Int) := by omega
          rw [e] at this
          exact this
        · have := hv_cons (Int.le_refl 0) ((ih (n + 1) y).mp hy)
          rw [Int.add_zero] at this
          exact this
      · intro h
        obtain ⟨a, y, rfl, ha, hy⟩ := hv_hd h
        by_cases h0 : a = 0
        · subst h0
          rw [Int.sub_zero] at hy
          exact .inr ⟨y, (ih (n + 1) y).mpr hy, rfl⟩
        · left
          refine ⟨(a - 1) :: y, (ihn _).mpr ?_, ?_⟩
          · have := hv_cons (a := a - 1) (by omega) hy
            have e : (((n + 1 : Nat) : Int) - a) + (a - 1) = (n : Int) := by omega
            rw [e] at this
            exact this
          · show (a - 1 + 1) :: y = a :: y
            rw [Int.sub_add_cancel]
theorem allV_nodup : ∀ k n, (allV k n).Nodup := by
  intro k
  induction k with
  | zero => intro n; rw [allV_0]; simp
  | succ k ih =>
    have zc : ∀ l : List Vec, l.Nodup → (l.map (0 :: ·)).Nodup := fun l h => by
      rw [List.nodup_iff_pairwise_ne] at *
      rw [List.pairwise_map]
      exact h.imp fun hne e => hne (List.cons.inj e).2
    intro n
    induction n with
    | zero => rw [allV_s0]; exact zc _ (ih 0)
    | succ n ihn =>
      rw [allV_ss, List.nodup_append]
      refine ⟨?_, zc _ (ih _), ?_⟩
      · rw [List.nodup_iff_pairwise_ne, List.pairwise_map]
        refine List.Pairwise.imp_of_mem ?_ (List.nodup_iff_pairwise_ne.mp ihn)
        intro a b ha hb hne e
        obtain ⟨x, y, rfl, _, _⟩ := hv_hd ((allV_mem _ _ a).mp ha)
        obtain ⟨x', y', rfl, _, _⟩ := hv_hd ((allV_mem _ _ b).mp hb)
        have e' : (x + 1) :: y = (x' + 1) :: y' := e
        obtain ⟨e1, e2⟩ := List.cons.inj e'
        exact hne (by rw [e2]; congr 1; omega)
      · intro a ha b hb e
        subst e
        obtain ⟨y, hy, rfl⟩ := List.mem_map.mp ha
        obtain ⟨z, hz, e⟩ := List.mem_map.mp hb
        obtain ⟨x, y', rfl, hx, _⟩ := hv_hd ((allV_mem _ _ y).mp hy)
        have e' : (0 : Int) :: z = (x + 1) :: y' := e
        have := (List.cons.inj e').1
        omega
/-- different standings of one size: not more than the crowd tells -/
theorem crowd_most {m N : Nat} (hm : 1 ≤ m) {M : List Vec} (hn : M.Nodup) (h : ∀ x ∈ M, Hv m (N : Int) x) : M.length ≤ bin (m - 1) N := by
  rw [← allV_len]
  refine nodup_sub hn fun x hx => (allV_mem _ _ x).mpr ?_
  have e : m - 1 + 1 = m := by omega
  rw [e]
  exact h x hx
theorem crowdN_eq {start : Vec} {n N : Nat} (h : (n : Int) * start.sum = (N : Int)) : crowdN start (n : Int) = (bin (start.length - 1) N : Int) := by
  unfold crowdN
  rw [h, crowd_bin]
end M
/-! ## Ma4 -/
/-! Moves of a rule; their searches: the mathematics. -/
namespace M
def nxV (R : Rule) (s : Vec) : List Vec := ((List.range R.2.length).filter (canB R s)).map (moveV R s)
theorem mem_nxV {R : Rule} {s y : Vec} : y ∈ nxV R s ↔ ∃ t, t < R.2.length ∧ canB R s t = true ∧ moveV R s t = y := by
  unfold nxV
  rw [List.mem_map]
  constructor
  · rintro ⟨t, ht, e⟩
    rw [List.mem_filter, List.mem_range] at ht
    exact ⟨t, ht.1, ht.2, e⟩
  · rintro ⟨t, h1, h2, e⟩
    exact ⟨t, by rw [List.mem_filter, List.mem_range]; exact ⟨h1, h2⟩, e⟩
theorem at0_lt {x : Vec} {i : Nat} (h : i < x.length) : x[i]'h = at0 x i := by
  have := at0_get h
  rw [List.getElem?_eq_getElem h] at this
  exact Option.some.inj this
theorem at0_ge {x : Vec} {i : Nat} (h : x.length ≤ i) : at0 x i = 0 := by
  unfold at0
  rw [List.getD_eq_getElem?_getD, List.getElem?_eq_none h]
  rfl
theorem vec_ext {x y : Vec} (hl : x.length = y.length) (h : ∀ i, i < x.length → at0 x i = at0 y i) : x = y := by
  apply List.ext_getElem hl
  intro i h1 h2
  rw [at0_lt h1, at0_lt h2, h i h1]
theorem at0_map_range {m : Nat} {f : Nat → Int} {i : Nat} (h : i < m) : at0 ((List.range m).map f) i = f i := by
  have : i < ((List.range m).map f).length := by rw [List.length_map, List.length_range]; exact h
  rw [← at0_lt this, List.getElem_map, List.getElem_range]
theorem sum_at0 : ∀ (x : Vec), ((List.range x.length).map (at0 x)).sum = x.sum
  | [] => by simp
  | a :: x => by
    rw [List.length_cons, List.range_succ_eq_map, List.map_cons, List.sum_cons, List.sum_cons, List.map_map]
    have : (at0 (a :: x) ∘ Nat.succ) = at0 x := by funext i; unfold at0; simp
    rw [this, sum_at0 x]
    rfl
theorem sum_at0' {x : Vec} {m : Nat} (h : x.length = m) : ((List.range m).map (at0 x)).sum = x.sum := by rw [← h]; exact sum_at0 x
theorem sum_map_add {β : Type} (f g : β → Int) : ∀ l : List β, (l.map fun i => f i + g i).sum = (l.map f).sum + (l.map g).sum
  | [] => by simp
  | a :: l => by rw [List.map_cons, List.map_cons, List.map_cons, List.sum_cons, List.sum_cons, List.sum_cons, sum_map_add f g l]; omega
theorem sum_map_sub {β : Type} (f g : β → Int) : ∀ l : List β, (l.map fun i => f i - g i).sum = (l.map f).sum - (l.map g).sum
  | [] => by simp
  | a :: l => by rw [List.map_cons, List.map_cons, List.map_cons, List.sum_cons, List.sum_cons, List.sum_cons, sum_map_sub f g l]; omega
theorem sum_map_le {β : Type} (f g : β → Int) : ∀ l : List β, (∀ i ∈ l, f i ≤ g i) → (l.map f).sum ≤ (l.map g).sum
  | [], _ => by simp
  | a :: l, h => by
    rw [List.map_cons, List.map_cons, List.sum_cons, List.sum_cons]
    have := sum_map_le f g l fun i hi => h i (List.mem_cons_of_mem _ hi)
    have := h a List.mem_cons_self
    omega
theorem underB_iff {x y : Vec} (hl : x.length = y.length) : underB x y = true ↔ ∀ i, i < x.length → at0 x i ≤ at0 y i := by
  unfold underB
  rw [List.all_eq_true]
  constructor
  · intro h i hi
    have hz : i < (x.zip y).length := by rw [List.length_zip]; omega
    have := h (decide ((x.zip y)[i].1 ≤ (x.zip y)[i].2)) (List.mem_map.mpr ⟨_, List.getElem_mem hz, rfl⟩)
    rw [List.getElem_zip] at this
    have := of_decide_eq_true (show decide (x[i] ≤ y[i]) = true from this)
    rw [at0_lt hi, at0_lt (by omega)] at this
    exact this
  · intro h b hb
    obtain ⟨p, hp, e⟩ := List.mem_map.mp hb
    obtain ⟨i, hi, e2⟩ := List.getElem_of_mem hp
    subst e
    have hi' : i < x.length := by rw [List.length_zip] at hi; omega
    rw [List.getElem_zip] at e2
    rw [← e2]
    show decide (x[i] ≤ y[i]'(by omega)) = true
    rw [at0_lt hi', at0_lt (show i < y.length by omega)]
    exact decide_eq_true (h i hi')
theorem plusV_len {x y : Vec} (h : x.length = y.length) : (plusV x y).length = x.length := by
  unfold plusV
  rw [List.length_map, List.length_zip]
  omega
theorem at0_plusV {x y : Vec} (h : x.length = y.length) (i : Nat) : at0 (plusV x y) i = at0 x i + at0 y i := by
  by_cases hi : i < x.length
  · have h1 : i < ((x.zip y).map fun p => p.1 + p.2).length := by rw [List.length_map, List.length_zip]; omega
    show at0 ((x.zip y).map fun p => p.1 + p.2) i = _
    rw [← at0_lt h1, List.getElem_map, List.getElem_zip, at0_lt hi, at0_lt (show i < y.length by omega)]
  · rw [at0_ge (by rw [plusV_len h]; omega), at0_ge (by omega), at0_ge (by omega)]
    rfl
theorem minusV_len {x y : Vec} (h : x.length = y.length) : (minusV x y).length = x.length := by
  unfold minusV
  rw [List.length_map, List.length_zip]
  omega
theorem at0_minusV {x y : Vec} (h : x.length = y.length) (i : Nat) : at0 (minusV x y) i = at0 x i - at0 y i := by
  by_cases hi : i < x.length
  · have h1 : i < ((x.zip y).map fun p => p.1 - p.2).length := by rw [List.length_map, List.length_zip]; omega
    show at0 ((x.zip y).map fun p => p.1 - p.2) i = _
    rw [← at0_lt h1, List.getElem_map, List.getElem_zip, at0_lt hi, at0_lt (show i < y.length by omega)]
  · rw [at0_ge (by rw [minusV_len h]; omega), at0_ge (by omega), at0_ge (by omega)]
    rfl
theorem timesV_len {n : Int} {x : Vec} : (timesV n x).length = x.length := List.length_map _
theorem at0_timesV (n : Int) (x : Vec) (i : Nat) : at0 (timesV n x) i = n * at0 x i := by
  by_cases hi : i < x.length
  · have h1 : i < (x.map fun e => n * e).length := by rw [List.length_map]; exact hi
    show at0 (x.map fun e => n * e) i = _
    rw [← at0_lt h1, List.getElem_map, at0_lt hi]
  · rw [at0_ge (by rw [timesV_len]; omega), at0_ge (by omega)]
    simp
theorem timesV_sum (n : Int) : ∀ x : Vec, (timesV n x).sum = n * x.sum
  | [] => by unfold timesV; simp
  | a :: x => by
    have := timesV_sum n x
    unfold timesV at *
    rw [List.map_cons, List.sum_cons, List.sum_cons, this, Int.mul_add]
theorem timesV_add (a b : Int) (x : Vec) : timesV (a + b) x = plusV (timesV a x) (timesV b x) := by
  have hl : (timesV a x).length = (timesV b x).length := by rw [timesV_len, timesV_len]
  refine vec_ext (by rw [plusV_len hl, timesV_len, timesV_len]) fun i hi => ?_
  rw [at0_plusV hl, at0_timesV, at0_timesV, at0_timesV, Int.add_mul]
theorem hv_times {m : Nat} {sz n : Int} {x : Vec} (h : Hv m sz x) (hn : 0 ≤ n) : Hv m (n * sz) (timesV n x) :=
  ⟨by rw [timesV_len]; exact h.len, fun e he => by
    obtain ⟨y, hy, e⟩ := List.mem_map.mp he
    subst e
    exact Int.mul_nonneg hn (h.nn y hy), by rw [timesV_sum, h.sum]⟩
theorem hv_nn {m : Nat} {sz : Int} {x : Vec} (h : Hv m sz x) (i : Nat) : 0 ≤ at0 x i := at0_nn h.nn i
theorem hv_of {m : Nat} {x : Vec} (hl : x.length = m) (h : ∀ i, i < m → 0 ≤ at0 x i) : Hv m x.sum x := ⟨hl, fun e he => by
  obtain ⟨i, hi, e2⟩ := List.getElem_of_mem he
  rw [← e2, at0_lt hi]
  exact h i (by omega), rfl⟩
theorem hv_plus {m : Nat} {a b : Int} {x y : Vec} (hx : Hv m a x) (hy : Hv m b y) : Hv m (a + b) (plusV x y) := by
  have hl : x.length = y.length := by rw [hx.len, hy.len]
  have h1 := hv_of (m := m) (x := plusV x y) (by rw [plusV_len hl]; exact hx.len) fun i hi => by
    rw [at0_plusV hl]
    have := hv_nn hx i
    have := hv_nn hy i
    omega
  refine ⟨h1.len, h1.nn, ?_⟩
  have e : (plusV x y).sum = ((List.range m).map fun i => at0 x i + at0 y i).sum := by
    rw [← sum_at0' h1.len]
    congr 1
    exact List.map_congr_left fun i hi => at0_plusV hl i
  rw [e, sum_map_add, sum_at0' hx.len, sum_at0' hy.len, hx.sum, hy.sum]
/-! ### a rule whose deeds keep the number of members -/
theorem wfr_deed {m : Nat} {R : Rule} (h : WfR m R) {k : Nat} (hk : k < R.2.length) : ∃ sz, Hv m sz (takesOf R k) ∧ Hv m sz (givesOf R k) := by
  obtain ⟨sz, _, _, h1, h2⟩ := h.deeds (deedOf R k) (List.mem_of_getElem? (deed_get hk))
  exact ⟨sz, h1, h2⟩
theorem wfr_len {m : Nat} {R : Rule} (h : WfR m R) : LenR m R := fun k hk => by
  obtain ⟨sz, h1, h2⟩ := wfr_deed h hk
  exact ⟨h1.len, h2.len⟩
theorem canB_iff {m : Nat} {R : Rule} (h : WfR m R) {s : Vec} (hs : s.length = m) {k : Nat} (hk : k < R.2.length) : canB R s k = true ↔ ∀ i, i < m → at0 (takesOf R k) i ≤ at0 s i := by
  have hl := (wfr_len h k hk).1
  unfold canB
  rw [underB_iff (by rw [hl, hs]), hl]
theorem moveV_len {R : Rule} {s : Vec} {k : Nat} : (moveV R s k).length = s.length := by
  unfold moveV
  rw [List.length_map, List.length_range]
theorem at0_moveV {R : Rule} {s : Vec} {k i : Nat} (h : i < s.length) : at0 (moveV R s k) i = at0 s i - at0 (takesOf R k) i + at0 (givesOf R k) i := by
  unfold moveV
  rw [at0_map_range h]
theorem hv_move {m : Nat} {N : Int} {R : Rule} (h : WfR m R) {s : Vec} (hs : Hv m N s) {k : Nat} (hk : k < R.2.length) (hc : canB R s k = true) : Hv m N (moveV R s k) := by
  obtain ⟨sz, h1, h2⟩ := wfr_deed h hk
  have hcan := (canB_iff h hs.len hk).mp hc
  have hm := hv_of (m := m) (x := moveV R s k) (by rw [moveV_len]; exact hs.len) fun i hi => by
    rw [at0_moveV (by rw [hs.len]; exact hi)]
    have := hcan i hi
    have := hv_nn h2 i
    omega
  refine ⟨hm.len, hm.nn, ?_⟩
  have e : (moveV R s k).sum = ((List.range m).map fun i => (at0 s i - at0 (takesOf R k) i) + at0 (givesOf R k) i).sum := by
    unfold moveV
    rw [hs.len]
  rw [e, sum_map_add, sum_map_sub, sum_at0' hs.len, sum_at0' h1.len, sum_at0' h2.len, hs.sum, h1.sum, h2.sum]
  omega
theorem after_eq_move {m : Nat} {R : Rule} (h : LenR m R) {s : Vec} (hs : s.length = m) {k : Nat} (hk : k < R.2.length) : afterV R s k = moveV R s k := by
  obtain ⟨q1, q2⟩ := h k hk
  have l1 : (changeV R k).length = m := by unfold changeV; rw [minusV_len (by rw [q1, q2]), q2]
  refine vec_ext (by unfold afterV; rw [plusV_len (by rw [hs, l1]), moveV_len]) fun i hi => ?_
  have hi' : i < s.length := by
    unfold afterV at hi
    rw [plusV_len (by rw [hs, l1])] at hi
    exact hi
  rw [at0_moveV hi']
  unfold afterV changeV
  rw [at0_plusV (by rw [minusV_len (by rw [q1, q2]), q2, hs]), at0_minusV (by rw [q1, q2])]
  omega
theorem hv_walk {m : Nat} {N : Int} {R : Rule} (h : WfR m R) {s y : Vec} {n : Nat} (hs : Hv m N s) (w : Walk (nxV R) n s y) : Hv m N y := by
  induction w with
  | nil => exact hs
  | snoc _ hz ih =>
    obtain ⟨t, h1, h2, h3⟩ := mem_nxV.mp hz
    rw [← h3]
    exact hv_move h (ih hs) h1 h2
/-- with more members beside -/
theorem walk_beside {m : Nat} {N B : Int} {R : Rule} (h : WfR m R) {s y z : Vec} {n : Nat} (hs : Hv m N s) (hz : Hv m B z) (w : Walk (nxV R) n s y) : Walk (nxV R) n (plusV s z) (plusV y z) := by
  induction w with
  | nil => exact .nil
  | snoc w hz' ih =>
    rename_i n x p q
    obtain ⟨t, h1, h2, h3⟩ := mem_nxV.mp hz'
    have hp := hv_walk h hs w
    have hl : p.length = z.length := by rw [hp.len, hz.len]
    refine .snoc (ih hs) (mem_nxV.mpr ⟨t, h1, ?_, ?_⟩)
    · rw [canB_iff h (by rw [plusV_len hl]; exact hp.len) h1]
      intro i hi
      have := (canB_iff h hp.len h1).mp h2 i hi
      have := hv_nn hz i
      rw [at0_plusV hl]
      omega
    · rw [← h3]
      have hl2 : (moveV R p t).length = z.length := by rw [moveV_len]; exact hl
      refine vec_ext (by rw [moveV_len, plusV_len hl, plusV_len hl2, moveV_len]) fun i hi => ?_
      rw [moveV_len] at hi
      have hi' : i < p.length := by rw [plusV_len hl] at hi; exact hi
      rw [at0_moveV hi, at0_plusV hl, at0_plusV hl2, at0_moveV hi']
      omega
theorem plusV_comm {x y : Vec} (h : x.length = y.length) : plusV x y = plusV y x := by
  refine vec_ext (by rw [plusV_len h, plusV_len h.symm, h]) fun i _ => ?_
  rw [at0_plusV h, at0_plusV h.symm, Int.add_comm]
theorem insideV_plus {x y ks : Vec} (h : x.length = y.length) : insideV (plusV x y) ks = insideV x ks + insideV y ks := by
  unfold insideV
  rw [← sum_map_add]
  congr 1
  exact List.map_congr_left fun k _ => at0_plusV h _
/-! ### the search of a rule -/
def reach (R : Rule) (s : Vec) (most : Nat) : Option (List Vec) := search most (nxV R) s
/-- it ends where the crowd is not too large -/
theorem reach_some {m N most : Nat} {R : Rule} (h : WfR m R) {s : Vec} (hs : Hv m (N : Int) s) (hm : 1 ≤ m) (hb : bin (m - 1) N ≤ most) (h1 : 1 ≤ most) : ∃ L, reach R s most = some L := by
  refine search_some h1 fun M hn hM => Nat.le_trans (crowd_most hm hn fun y hy => ?_) hb
  obtain ⟨n, w⟩ := hM y hy
  exact hv_walk h hs w
structure Rch (R : Rule) (m : Nat) (N : Int) (s : Vec) (L : List Vec) : Prop where
  wf : WfR m R
  hs : Hv m N s
  fd : Found (nxV R) s L
theorem Rch.hv {R : Rule} {m : Nat} {N : Int} {s : Vec} {L : List Vec} (r : Rch R m N s L) {x : Vec} (hx : x ∈ L) : Hv m N x := by
  obtain ⟨n, w⟩ := r.fd.come x hx
  exact hv_walk r.wf r.hs w
theorem Rch.pos {R : Rule} {m : Nat} {N : Int} {s : Vec} {L : List Vec} (r : Rch R m N s L) : 0 < L.length := (List.getElem?_eq_some_iff.mp r.fd.hd).1
def linkRow (R : Rule) (L : List Vec) (here : Vec) : List (Nat × Nat) := ((List.range R.2.length).filter (canB R here)).map fun t => (t, L.idxOf (moveV R here t))
def linksV (R : Rule) (L : List Vec) : Links := L.map (linkRow R L)
theorem linksV_len {R : Rule} {L : List Vec} : (linksV R L).length = L.length := List.length_map _
theorem linksV_at {R : Rule} {L : List Vec} {i : Nat} {x : Vec} (h : L[i]? = some x) : (linksV R L).getD i [] = linkRow R L x := by
  unfold linksV
  rw [List.getD_eq_getElem?_getD, List.getElem?_map, h]
  rfl
theorem mem_linkRow {R : Rule} {L : List Vec} {x : Vec} {p : Nat × Nat} : p ∈ linkRow R L x ↔ p.1 < R.2.length ∧ canB R x p.1 = true ∧ p.2 = L.idxOf (moveV R x p.1) := by
  unfold linkRow
  rw [List.mem_map]
  constructor
  · rintro ⟨t, ht, rfl⟩
    rw [List.mem_filter, List.mem_range] at ht
    exact ⟨ht.1, ht.2, rfl⟩
  · rintro ⟨h1, h2, h3⟩
    exact ⟨p.1, by rw [List.mem_filter, List.mem_range]; exact ⟨h1, h2⟩, by rw [← h3]⟩
theorem idx_get {L : List Vec} {x : Vec} (h : x ∈ L) : L[L.idxOf x]? = some x := by
  have hl := List.idxOf_lt_length_of_mem h
  rw [List.getElem?_eq_getElem hl, List.getElem_idxOf]
theorem Rch.link {R : Rule} {m : Nat} {N : Int} {s : Vec} {L : List Vec} (r : Rch R m N s L) {i : Nat} {x : Vec} (hx : L[i]? = some x) {p : Nat × Nat} (hp : p ∈ (linksV R L).getD i []) :
    p.1 < R.2.length ∧ canB R x p.1 = true ∧ p.2 < L.length ∧ L[p.2]? = some (moveV R x p.1) := by
  rw [linksV_at hx] at hp
  obtain ⟨h1, h2, h3⟩ := mem_linkRow.mp hp
  have hm : moveV R x p.1 ∈ L := r.fd.closed x (List.mem_of_getElem? hx) _ (mem_nxV.mpr ⟨_, h1, h2, rfl⟩)
  exact ⟨h1, h2, by rw [h3]; exact List.idxOf_lt_length_of_mem hm, by rw [h3]; exact idx_get hm⟩
theorem Rch.lk {R : Rule} {m : Nat} {N : Int} {s : Vec} {L : List Vec} (r : Rch R m N s L) : LkOk (linksV R L) := fun i p hp => by
  rw [linksV_len]
  by_cases hi : i < L.length
  · exact (r.link (List.getElem?_eq_getElem hi) hp).2.2.1
  · rw [List.getD_eq_getElem?_getD, List.getElem?_eq_none (by rw [linksV_len]; omega)] at hp
    cases hp
/-- ways over the places and over the standings -/
theorem Rch.walk1 {R : Rule} {m : Nat} {N : Int} {s : Vec} {L : List Vec} (r : Rch R m N s L) {g : Nat} {y : Vec} (hg : L[g]? = some y) {n i : Nat} (w : Walk (preL (linksV R L)) n g i) : ∃ x, L[i]? = some x ∧ Walk (nxV R) n x y := by
  induction w with
  | nil => exact ⟨y, hg, .nil⟩
  | snoc _ hz ih =>
    obtain ⟨x, h1, h2⟩ := ih hg
    obtain ⟨h3, t, ht⟩ := mem_preL.mp hz
    rw [linksV_len] at h3
    have hx := List.getElem?_eq_getElem h3
    obtain ⟨q1, q2, q3, q4⟩ := r.link hx ht
    have q4' : L[_]? = some (moveV R _ t) := q4
    rw [h1] at q4'
    refine ⟨_, hx, Walk.cons (mem_nxV.mpr ⟨t, q1, q2, ?_⟩) h2⟩
    exact (Option.some.inj q4').symm
theorem Walk.head {α : Type} {nx : α → List α} {n : Nat} {x z : α} (w : Walk nx (n + 1) x z) : ∃ y, y ∈ nx x ∧ Walk nx n y z := by
  induction n generalizing z with
  | zero =>
    obtain ⟨y, h, hz⟩ := w.last
    have := h.zero
    subst this
    exact ⟨z, hz, .nil⟩
  | succ n ih =>
    obtain ⟨y, h, hz⟩ := w.last
    obtain ⟨q, h1, h2⟩ := ih h
    exact ⟨q, h1, .snoc h2 hz⟩
theorem Rch.walk2 {R : Rule} {m : Nat} {N : Int} {s : Vec} {L : List Vec} (r : Rch R m N s L) {g : Nat} {y : Vec} (hg : L[g]? = some y) : ∀ {n i : Nat} {x : Vec}, L[i]? = some x → Walk (nxV R) n x y → Walk (preL (linksV R L)) n g i
  | 0, i, x, hi, w => by
    have := w.zero
    subst this
    obtain ⟨a1, b1⟩ := List.getElem?_eq_some_iff.mp hi
    obtain ⟨a2, b2⟩ := List.getElem?_eq_some_iff.mp hg
    have : i = g := (List.getElem_inj r.fd.nd).mp (b1.trans b2.symm)
    rw [this]
    exact .nil
  | n + 1, i, x, hi, w => by
    obtain ⟨q, h1, h2⟩ := w.head
    obtain ⟨t, q1, q2, q3⟩ := mem_nxV.mp h1
    have hq : q ∈ L := r.fd.closed x (List.mem_of_getElem? hi) q h1
    have ih := r.walk2 hg (idx_get hq) h2
    refine .snoc ih (mem_preL.mpr ⟨by rw [linksV_len]; exact (List.getElem?_eq_some_iff.mp hi).1, t, ?_⟩)
    rw [linksV_at hi]
    exact mem_linkRow.mpr ⟨q1, q2, by rw [q3]⟩
/-- the steps from the start -/
theorem Rch.st0 {R : Rule} {m : Nat} {N : Int} {s : Vec} {L : List Vec} (r : Rch R m N s L) {g : Nat} {y : Vec} (hg : L[g]? = some y) {st : Steps} (hst : StOk (linksV R L) g st) : ∃ d, st[0]? = some (some d) ∧ Dist (nxV R) s y d ∧ d < L.length := by
  obtain ⟨n, w⟩ := r.fd.come y (List.mem_of_getElem? hg)
  have w2 := r.walk2 hg r.fd.hd w
  obtain ⟨d, hd⟩ := walk_dist w2
  have hl : 0 < (linksV R L).length := by rw [linksV_len]; exact r.pos
  refine ⟨d, (hst.dist 0 hl d).mpr hd, ⟨?_, fun k wk => hd.2 k (r.walk2 hg r.fd.hd wk)⟩, ?_⟩
  · obtain ⟨x, h1, h2⟩ := r.walk1 hg hd.1
    rw [r.fd.hd] at h1
    cases h1
    exact h2
  · have := dist_lt r.lk hl hd
    rw [linksV_len] at this
    exact this
/-- the run goes to the goal -/
theorem Rch.run {R : Rule} {m : Nat} {N : Int} {s : Vec} {L : List Vec} (r : Rch R m N s L) {g : Nat} {y : Vec} (hg : L[g]? = some y) {st : Steps} (hst : StOk (linksV R L) g st) :
    ∀ {d i : Nat} {x : Vec}, L[i]? = some x → st[i]? = some (some d) → runEnd R x ((runOf (linksV R L) st d i).map fun (t : Nat) => (t : Int)) = some y
  | 0, i, x, hi, hs => by
    have hil : i < (linksV R L).length := by rw [linksV_len]; exact (List.getElem?_eq_some_iff.mp hi).1
    have := hst.goal hil hs
    subst this
    rw [hg] at hi
    cases hi
    rfl
  | d + 1, i, x, hi, hs => by
    have hil : i < (linksV R L).length := by rw [linksV_len]; exact (List.getElem?_eq_some_iff.mp hi).1
    obtain ⟨p, h1, h2, h3, h4, h5⟩ := runOf_succ hst r.lk hil hs
    rw [h5, List.map_cons]
    obtain ⟨q1, q2, q3, q4⟩ := r.link hi h2
    show (if _ then _ else none) = _
    have e : ((p.1 : Int)).toNat = p.1 := Int.toNat_natCast _
    rw [if_pos ⟨by omega, by omega, by rw [e]; exact q2⟩, e, after_eq_move (wfr_len r.wf) (r.hv (List.mem_of_getElem? hi)).len q1]
    exact r.run hg hst q4 h4
/-! ### the greatest count -/
def cnts (L : List Vec) (ks : Vec) : List Int := L.map fun x => insideV x ks
def best (L : List Vec) (ks : Vec) : Int := lmax (cnts L ks)
theorem cnts_ne {L : List Vec} {ks : Vec} (h : 0 < L.length) : cnts L ks ≠ [] := fun e => by
  have : (cnts L ks).length = L.length := List.length_map _
  rw [e] at this
  simp at this
  omega
end M
/-! ## Ma5 -/
/-! The ring: the mathematics. -/
namespace M
def one (a i : Nat) : Int := if i = a then 1 else 0
structure RingR (m : Nat) (R : Rule) : Prop where
  wf : WfR m R
  all : ∀ a, a < m → ∃ k, k < R.2.length ∧ (∀ j, at0 (takesOf R k) j = one a j) ∧ (∀ j, at0 (givesOf R k) j = one ((a + 1) % m) j)
  each : ∀ k, k < R.2.length → ∃ a, a < m ∧ (∀ j, at0 (takesOf R k) j = one a j) ∧ (∀ j, at0 (givesOf R k) j = one ((a + 1) % m) j)
/-! ### sums -/
theorem sum_zero_each {β : Type} {f : β → Int} : ∀ {l : List β}, (∀ i ∈ l, 0 ≤ f i) → (l.map f).sum = 0 → ∀ i ∈ l, f i = 0
  | [], _, _, i, hi => by cases hi
  | a :: l, h, hs, i, hi => by
    rw [List.map_cons, List.sum_cons] at hs
    have h1 := h a List.mem_cons_self
    have h2 : 0 ≤ (l.map f).sum := sum_nn fun e he => by
      obtain ⟨b, hb, e2⟩ := List.mem_map.mp he
      rw [← e2]; exact h b (List.mem_cons_of_mem _ hb)
    rcases List.mem_cons.mp hi with e | e
    · rw [e]; omega
    · exact sum_zero_each (fun i hi => h i (List.mem_cons_of_mem _ hi)) (by omega) i e
theorem sum_all_zero {β : Type} {f : β → Int} : ∀ {l : List β}, (∀ i ∈ l, f i = 0) → (l.map f).sum = 0
  | [], _ => by simp
  | a :: l, h => by
    rw [List.map_cons, List.sum_cons, h a List.mem_cons_self, sum_all_zero fun i hi => h i (List.mem_cons_of_mem _ hi)]
    rfl
theorem sum_pos_some {β : Type} {f : β → Int} : ∀ {l : List β}, 0 < (l.map f).sum → ∃ i ∈ l, 0 < f i
  | [], h => by simp at h
  | a :: l, h => by
    rw [List.map_cons, List.sum_cons] at h
    by_cases ha : 0 < f a
    · exact ⟨a, List.mem_cons_self, ha⟩
    · obtain ⟨i, hi, h2⟩ := sum_pos_some (f := f) (l := l) (by omega)
      exact ⟨i, List.mem_cons_of_mem _ hi, h2⟩
theorem sum_one {f : Nat → Int} {a : Nat} : ∀ {m : Nat}, ((List.range m).map fun i => one a i * f i).sum = if a < m then f a else 0
  | 0 => by simp
  | m + 1 => by
    rw [List.range_succ, List.map_append, List.sum_append_int, sum_one (m := m), List.map_cons, List.map_nil, List.sum_cons, List.sum_nil]
    by_cases h : a < m
    · have e : one a m = 0 := if_neg (by omega)
      rw [if_pos h, if_pos (show a < m + 1 by omega), e]; omega
    · by_cases h2 : a = m
      · subst h2
        have e : one a a = 1 := if_pos rfl
        rw [if_neg h, if_pos (show a < a + 1 by omega), e]; omega
      · have e : one a m = 0 := if_neg (by omega)
        rw [if_neg h, if_neg (show ¬ a < m + 1 by omega), e]; omega
theorem sum_one' {f : Nat → Int} {a m : Nat} (h : a < m) : ((List.range m).map fun i => one a i * f i).sum = f a := by rw [sum_one, if_pos h]
/-! ### the way round -/
def wy (m : Nat) (ks : List Int) (i : Nat) : Nat := (ringWay m ks i).getD 0 0
theorem mem_way {m : Nat} {ks : List Int} {i st : Nat} : st ∈ ringWay m ks i ↔ st < m ∧ (((i + st) % m : Nat) : Int) ∈ ks := by
  unfold ringWay
  rw [List.mem_filter, List.mem_range, List.contains_iff_mem]
  have e : (((i + st) % m : Nat) : Int) = ((i : Int) + (st : Int)) % (m : Int) := by rw [Int.natCast_emod, Int.natCast_add]
  rw [e]
theorem way_least {m : Nat} {ks : List Int} {i : Nat} (h : ringWay m ks i ≠ []) : wy m ks i ∈ ringWay m ks i ∧ ∀ st ∈ ringWay m ks i, wy m ks i ≤ st := by
  have hp : (ringWay m ks i).Pairwise (· < ·) := List.Pairwise.filter _ List.pairwise_lt_range
  unfold wy
  cases e : ringWay m ks i with
  | nil => exact (h e).elim
  | cons a l =>
    rw [e] at hp
    refine ⟨List.mem_cons_self, fun st hs => ?_⟩
    rcases List.mem_cons.mp hs with q | q
    · rw [q]; exact Nat.le_refl _
    · exact Nat.le_of_lt (List.rel_of_pairwise_cons hp q)
theorem way_ne {m : Nat} {ks : List Int} (h : Lot m ks) {i : Nat} (hi : i < m) : ringWay m ks i ≠ [] := by
  obtain ⟨k, hk⟩ := List.exists_mem_of_ne_nil _ h.ne
  obtain ⟨h1, h2⟩ := h.lt k hk
  have hm : (k.toNat + m - i) % m ∈ ringWay m ks i := by
    refine mem_way.mpr ⟨Nat.mod_lt _ (by omega), ?_⟩
    have e : (i + (k.toNat + m - i) % m) % m = k.toNat := by
      rw [Nat.add_mod_mod, show i + (k.toNat + m - i) = k.toNat + m by omega, Nat.add_mod_right, Nat.mod_eq_of_lt (by omega)]
    rw [e, Int.toNat_of_nonneg h1]
    exact hk
  intro e
  rw [e] at hm
  cases hm
theorem wy_lt {m : Nat} {ks : List Int} (h : Lot m ks) {i : Nat} (hi : i < m) : wy m ks i < m := (mem_way.mp (way_least (way_ne h hi)).1).1
theorem wy_zero {m : Nat} {ks : List Int} (h : Lot m ks) {i : Nat} (hi : i < m) : wy m ks i = 0 ↔ (i : Int) ∈ ks := by
  have hw := way_least (way_ne h hi)
  constructor
  · intro e
    have := (mem_way.mp hw.1).2
    rw [e, Nat.add_zero, Nat.mod_eq_of_lt hi] at this
    exact this
  · intro hk
    have : 0 ∈ ringWay m ks i := mem_way.mpr ⟨by omega, by rw [Nat.add_zero, Nat.mod_eq_of_lt hi]; exact hk⟩
    have := hw.2 0 this
    omega
theorem wy_step {m : Nat} {ks : List Int} (h : Lot m ks) {i : Nat} (hi : i < m) (hk : (i : Int) ∉ ks) : wy m ks i = wy m ks ((i + 1) % m) + 1 := by
  have hi2 : (i + 1) % m < m := Nat.mod_lt _ (by omega)
  have h1 := way_least (way_ne h hi)
  have h2 := way_least (way_ne h hi2)
  have h0 : wy m ks i ≠ 0 := fun e => hk ((wy_zero h hi).mp e)
  have h3 := wy_lt h hi
  have a : wy m ks ((i + 1) % m) ≤ wy m ks i - 1 := h2.2 _ (mem_way.mpr ⟨by omega, by
    have := (mem_way.mp h1.1).2
    rw [Nat.mod_add_mod, show i + 1 + (wy m ks i - 1) = i + wy m ks i by omega]
    exact this⟩)
  have b : wy m ks i ≤ wy m ks ((i + 1) % m) + 1 := h1.2 _ (mem_way.mpr ⟨by omega, by
    have := (mem_way.mp h2.1).2
    rw [Nat.mod_add_mod] at this
    rw [show i + (wy m ks ((i + 1) % m) + 1) = i + 1 + wy m ks ((i + 1) % m) by omega]
    exact this⟩)
  omega
def phi (m : Nat) (f : Nat → Nat) (x : Vec) : Int := ((List.range m).map fun i => at0 x i * (f i : Int)).sum
theorem ringSteps_eq {m : Nat} {x : Vec} (h : x.length = m) (ks : List Int) : ringSteps x ks = phi m (wy m ks) x := by
  unfold ringSteps phi wy
  rw [h]
theorem phi_times {m : Nat} {f : Nat → Nat} (n : Int) (x : Vec) : phi m f (timesV n x) = n * phi m f x := by
  unfold phi
  have e : ((List.range m).map fun i => at0 (timesV n x) i * (f i : Int)) = ((List.range m).map fun i => at0 x i * (f i : Int)).map fun e => n * e := by
    rw [List.map_map]
    exact List.map_congr_left fun i _ => by rw [at0_timesV]; show _ = n * _; rw [Int.mul_assoc]
  rw [e]
  exact timesV_sum n _
theorem phi_nn {m : Nat} {N : Int} {f : Nat → Nat} {x : Vec} (h : Hv m N x) : 0 ≤ phi m f x := sum_nn fun e he => by
  obtain ⟨i, _, e2⟩ := List.mem_map.mp he
  rw [← e2]
  exact Int.mul_nonneg (hv_nn h i) (by omega)
/-- one goes from a to b -/
theorem phi_one {m : Nat} {f : Nat → Nat} {x y : Vec} {a b : Nat} (ha : a < m) (hb : b < m) (h : ∀ i, i < m → at0 y i = at0 x i - one a i + one b i) : phi m f y = phi m f x - f a + f b := by
  unfold phi
  have e : ((List.range m).map fun i => at0 y i * (f i : Int)) = (List.range m).map fun i => (at0 x i * (f i : Int) - one a i * (f i : Int)) + one b i * (f i : Int) :=
    List.map_congr_left fun i hi => by rw [h i (List.mem_range.mp hi), Int.add_mul, Int.sub_mul]
  rw [e, sum_map_add, sum_map_sub, sum_one' (f := fun i => (f i : Int)) ha, sum_one' (f := fun i => (f i : Int)) hb]
section
variable {m : Nat} {R : Rule} {N : Int}
theorem RingR.move (r : RingR m R) {x : Vec} (hx : Hv m N x) {a : Nat} (ha : a < m) (h1 : 1 ≤ at0 x a) : ∃ y, y ∈ nxV R x ∧ ∀ i, i < m → at0 y i = at0 x i - one a i + one ((a + 1) % m) i := by
  obtain ⟨k, hk, ht, hg⟩ := r.all a ha
  refine ⟨moveV R x k, mem_nxV.mpr ⟨k, hk, ?_, rfl⟩, fun i hi => ?_⟩
  · rw [canB_iff r.wf hx.len hk]
    intro i hi
    rw [ht]
    unfold one
    by_cases e : i = a
    · rw [if_pos e, e]; exact h1
    · rw [if_neg e]; exact hv_nn hx i
  · rw [at0_moveV (by rw [hx.len]; exact hi), ht, hg]
theorem RingR.moved (r : RingR m R) {x y : Vec} (hx : Hv m N x) (hy : y ∈ nxV R x) : ∃ a, a < m ∧ ∀ i, i < m → at0 y i = at0 x i - one a i + one ((a + 1) % m) i := by
  obtain ⟨k, h1, h2, h3⟩ := mem_nxV.mp hy
  obtain ⟨a, ha, ht, hg⟩ := r.each k h1
  refine ⟨a, ha, fun i hi => ?_⟩
  rw [← h3, at0_moveV (by rw [hx.len]; exact hi), ht, hg]
theorem RingR.gather (r : RingR m R) {ks : List Int} (hk : Lot m ks) : ∀ (n : Nat) {x : Vec}, Hv m N x → phi m (wy m ks) x = (n : Int) → ∃ y, Walk (nxV R) n x y ∧ phi m (wy m ks) y = 0
  | 0, x, hx, h => ⟨x, .nil, h⟩
  | n + 1, x, hx, h => by
    obtain ⟨a, ham, hp⟩ := sum_pos_some (f := fun i => at0 x i * (wy m ks i : Int)) (l := List.range m) (by
      show 0 < phi m (wy m ks) x
      rw [h]; omega)
    have ha : a < m := List.mem_range.mp ham
    have h0 := hv_nn hx a
    have hw : wy m ks a ≠ 0 := fun e => by
      rw [e] at hp
      simp at hp
    have h1 : at0 x a ≠ 0 := fun e => by
      rw [e] at hp
      simp at hp
    have hnk : (a : Int) ∉ ks := fun q => hw ((wy_zero hk ha).mpr q)
    obtain ⟨y, hy, hat⟩ := r.move hx ha (by omega)
    have hyv : Hv m N y := hv_walk r.wf hx (.snoc .nil hy)
    have hphi := phi_one (f := wy m ks) ha (Nat.mod_lt (a + 1) (show 0 < m by omega)) hat
    have hst := wy_step hk ha hnk
    obtain ⟨z, wz, hz⟩ := r.gather hk n hyv (by rw [hphi, h, hst]; omega)
    exact ⟨z, Walk.cons hy wz, hz⟩
theorem RingR.lower (r : RingR m R) {ks : List Int} (hk : Lot m ks) {n : Nat} {x y : Vec} (hx : Hv m N x) (w : Walk (nxV R) n x y) : phi m (wy m ks) x - n ≤ phi m (wy m ks) y := by
  induction w with
  | nil => simp
  | snoc w hz ih =>
    have h1 := ih hx
    have hv := hv_walk r.wf hx w
    obtain ⟨a, ha, hat⟩ := r.moved hv hz
    have hphi := phi_one (f := wy m ks) ha (Nat.mod_lt (a + 1) (show 0 < m by omega)) hat
    rw [hphi]
    by_cases hka : (a : Int) ∈ ks
    · have := (wy_zero hk ha).mpr hka
      rw [this]
      omega
    · have := wy_step hk ha hka
      rw [this]
      omega
theorem lot_zero (hm : 0 < m) : Lot m [0] := ⟨by simp, fun k hk => by rw [List.mem_singleton.mp hk]; omega, by simp⟩
def baseV (m : Nat) (N : Int) : Vec := (List.range m).map fun i => if i = 0 then N else 0
theorem base_eq {x : Vec} (hx : Hv m N x) (hm : 0 < m) (h : ∀ i, i < m → i ≠ 0 → at0 x i = 0) : x = baseV m N := by
  have hl : (baseV m N).length = m := by unfold baseV; rw [List.length_map, List.length_range]
  have h0 : at0 x 0 = N := by
    rw [← hx.sum, ← sum_at0' hx.len]
    have e : (List.range m).map (at0 x) = (List.range m).map fun i => one 0 i * at0 x i := List.map_congr_left fun i hi => by
      unfold one
      by_cases e : i = 0
      · rw [if_pos e]; omega
      · rw [if_neg e, h i (List.mem_range.mp hi) e]; rfl
    rw [e, sum_one' hm]
  refine vec_ext (by rw [hx.len, hl]) fun i hi => ?_
  rw [hx.len] at hi
  show _ = at0 ((List.range m).map fun i => if i = 0 then N else 0) i
  rw [at0_map_range hi]
  by_cases e : i = 0
  · rw [if_pos e, e]; exact h0
  · rw [if_neg e]; exact h i hi e
theorem RingR.from_base (r : RingR m R) (hm : 0 < m) : ∀ (q : Nat) {y : Vec}, Hv m N y → phi m (fun i => i) y = (q : Int) → ∃ n, Walk (nxV R) n (baseV m N) y
  | 0, y, hy, h => by
    have hz := sum_zero_each (f := fun i => at0 y i * ((fun i => i) i : Nat)) (l := List.range m) (fun i _ => Int.mul_nonneg (hv_nn hy i) (by omega)) h
    have := base_eq hy hm fun i hi h0 => by
      have h2 := hz i (List.mem_range.mpr hi)
      rcases Int.mul_eq_zero.mp h2 with e | e
      · exact e
      · have e' : (i : Int) = 0 := e
        omega
    rw [this]
    exact ⟨0, .nil⟩
  | q + 1, y, hy, h => by
    obtain ⟨a, ham, hp⟩ := sum_pos_some (f := fun i => at0 y i * ((fun i => i) i : Nat)) (l := List.range m) (by
      show 0 < phi m (fun i => i) y
      rw [h]; omega)
    have ha : a < m := List.mem_range.mp ham
    have h0 := hv_nn hy a
    have hp' : 0 < at0 y a * (a : Int) := hp
    have h1 : at0 y a ≠ 0 := fun e => by rw [e] at hp'; simp at hp'
    have h2 : a ≠ 0 := fun e => by rw [e] at hp'; simp at hp'
    let x : Vec := (List.range m).map fun i => at0 y i - one a i + one (a - 1) i
    have hxl : x.length = m := by show ((List.range m).map _).length = m; rw [List.length_map, List.length_range]
    have hxa : ∀ i, i < m → at0 x i = at0 y i - one a i + one (a - 1) i := fun i hi => at0_map_range hi
    have hxv : Hv m N x := by
      have h3 := hv_of hxl fun i hi => by
        rw [hxa i hi]
        have := hv_nn hy i
        unfold one
        by_cases e : i = a
        · subst e; rw [if_pos rfl]; by_cases e2 : i = i - 1
          · rw [if_pos e2]; omega
          · rw [if_neg e2]; omega
        · rw [if_neg e]; by_cases e2 : i = a - 1
          · rw [if_pos e2]; omega
          · rw [if_neg e2]; omega
      refine ⟨h3.len, h3.nn, ?_⟩
      have e : x.sum = ((List.range m).map fun i => (at0 y i - one a i * 1) + one (a - 1) i * 1).sum := by
        show ((List.range m).map _).sum = _
        congr 1
        exact List.map_congr_left fun i _ => by rw [Int.mul_one, Int.mul_one]
      rw [e, sum_map_add, sum_map_sub, sum_one' (f := fun _ => 1) ha, sum_one' (f := fun _ => 1) (show a - 1 < m by omega), sum_at0' hy.len, hy.sum]
      omega
    have hphi := phi_one (f := fun i => i) ha (show a - 1 < m by omega) hxa
    obtain ⟨n, w⟩ := r.from_base hm q hxv (by rw [hphi, h]; omega)
    obtain ⟨z, hz, hat⟩ := r.move hxv (show a - 1 < m by omega) (by
      rw [hxa _ (by omega)]
      have := hv_nn hy (a - 1)
      unfold one
      rw [if_neg (by omega), if_pos rfl]
      omega)
    have hzv : Hv m N z := hv_walk r.wf hxv (.snoc .nil hz)
    have e : z = y := by
      refine vec_ext (by rw [hzv.len, hy.len]) fun i hi => ?_
      rw [hzv.len] at hi
      rw [hat i hi, hxa i hi, show a - 1 + 1 = a by omega, Nat.mod_eq_of_lt ha]
      omega
    exact ⟨n + 1, .snoc w (by rw [← e]; exact hz)⟩
theorem RingR.all_reached (r : RingR m R) (hm : 0 < m) {x y : Vec} (hx : Hv m N x) (hy : Hv m N y) : ∃ n, Walk (nxV R) n x y := by
  have hl := lot_zero hm
  obtain ⟨z, w, hz⟩ := r.gather hl (phi m (wy m [0]) x).toNat hx (Int.toNat_of_nonneg (phi_nn hx)).symm
  have hzv := hv_walk r.wf hx w
  have hz0 := sum_zero_each (f := fun i => at0 z i * (wy m [0] i : Int)) (l := List.range m) (fun i _ => Int.mul_nonneg (hv_nn hzv i) (by omega)) hz
  have e := base_eq hzv hm fun i hi h0 => by
    have h2 := hz0 i (List.mem_range.mpr hi)
    rcases Int.mul_eq_zero.mp h2 with e | e
    · exact e
    · have e1 : wy m [0] i = 0 := by omega
      have := (wy_zero hl hi).mp e1
      rw [List.mem_singleton] at this
      omega
  rw [e] at w
  obtain ⟨n, w2⟩ := r.from_base hm (phi m (fun i => i) y).toNat hy (Int.toNat_of_nonneg (phi_nn hy)).symm
  exact ⟨_, Walk.trans w w2⟩
/-! ### what is inside -/
theorem sum_filter {β : Type} (p : β → Bool) (f : β → Int) : ∀ l : List β, ((l.filter p).map f).sum = (l.map fun i => if p i = true then f i else 0).sum
  | [] => rfl
  | a :: l => by
    rw [List.filter_cons, List.map_cons, List.sum_cons, ← sum_filter p f l]
    by_cases h : p a = true
    · rw [if_pos h, if_pos h, List.map_cons, List.sum_cons]
    · rw [if_neg h, if_neg h]; omega
theorem inside_eq {ks : List Int} (hk : Lot m ks) (x : Vec) : insideV x ks = ((List.range m).map fun (i : Nat) => if ks.contains (i : Int) = true then at0 x i else 0).sum := by
  rw [← sum_filter (fun (i : Nat) => ks.contains (i : Int)) (at0 x)]
  unfold insideV
  have hp : (ks.map Int.toNat).Perm ((List.range m).filter fun (i : Nat) => ks.contains (i : Int)) := by
    refine (List.perm_ext_iff_of_nodup ?_ ?_).mpr fun i => ?_
    · rw [List.nodup_iff_pairwise_ne, List.pairwise_map]
      refine List.Pairwise.imp_of_mem ?_ hk.up
      intro a b ha hb hab
      have := hk.lt a ha
      have := hk.lt b hb
      omega
    · exact List.Pairwise.filter _ List.nodup_range
    · rw [List.mem_map, List.mem_filter, List.mem_range, List.contains_iff_mem]
      constructor
      · rintro ⟨k, h1, rfl⟩
        obtain ⟨q1, q2⟩ := hk.lt k h1
        rw [Int.toNat_of_nonneg q1]
        exact ⟨by omega, h1⟩
      · rintro ⟨h1, h2⟩
        exact ⟨(i : Int), h2, Int.toNat_natCast _⟩
  have e : (ks.map fun k => at0 x k.toNat) = (ks.map Int.toNat).map (at0 x) := by rw [List.map_map]; rfl
  rw [e]
  exact perm_sum (hp.map _)
def outP (ks : List Int) (x : Vec) (i : Nat) : Int := if ks.contains (i : Int) = true then 0 else at0 x i
theorem in_out {ks : List Int} (hk : Lot m ks) {x : Vec} (hx : Hv m N x) : insideV x ks + ((List.range m).map (outP ks x)).sum = N := by
  rw [inside_eq hk, ← sum_map_add, ← hx.sum, ← sum_at0' hx.len]
  congr 1
  refine List.map_congr_left fun i _ => ?_
  unfold outP
  by_cases h : ks.contains (i : Int) = true
  · rw [if_pos h, if_pos h]; omega
  · rw [if_neg h, if_neg h]; omega
theorem outP_nn {ks : List Int} {x : Vec} (hx : Hv m N x) (i : Nat) : 0 ≤ outP ks x i := by
  unfold outP
  by_cases h : ks.contains (i : Int) = true
  · rw [if_pos h]; omega
  · rw [if_neg h]; exact hv_nn hx i
theorem inside_le {ks : List Int} (hk : Lot m ks) {x : Vec} (hx : Hv m N x) : insideV x ks ≤ N := by
  have h1 := in_out hk hx
  have h2 : 0 ≤ ((List.range m).map (outP ks x)).sum := sum_nn fun e he => by
    obtain ⟨i, _, e2⟩ := List.mem_map.mp he
    rw [← e2]; exact outP_nn hx i
  omega
theorem inside_full {ks : List Int} (hk : Lot m ks) {x : Vec} (hx : Hv m N x) : insideV x ks = N ↔ phi m (wy m ks) x = 0 := by
  have h1 := in_out hk hx
  constructor
  · intro h
    have h2 : ((List.range m).map (outP ks x)).sum = 0 := by omega
    have h3 := sum_zero_each (fun i _ => outP_nn hx i) h2
    refine sum_all_zero fun i hi => ?_
    have him := List.mem_range.mp hi
    have h4 := h3 i hi
    unfold outP at h4
    by_cases hc : ks.contains (i : Int) = true
    · have := (wy_zero hk him).mpr (List.contains_iff_mem.mp hc)
      rw [this]; simp
    · rw [if_neg hc] at h4
      rw [h4]; simp
  · intro h
    have h3 := sum_zero_each (f := fun i => at0 x i * (wy m ks i : Int)) (l := List.range m) (fun i _ => Int.mul_nonneg (hv_nn hx i) (by omega)) h
    have h2 : ((List.range m).map (outP ks x)).sum = 0 := sum_all_zero fun i hi => by
      have him := List.mem_range.mp hi
      unfold outP
      by_cases hc : ks.contains (i : Int) = true
      · rw [if_pos hc]
      · rw [if_neg hc]
        rcases Int.mul_eq_zero.mp (h3 i hi) with e | e
        · exact e
        · have e1 : wy m ks i = 0 := by omega
          exact (hc (List.contains_iff_mem.mpr ((wy_zero hk him).mp e1))).elim
    omega
end
end M
/-! ## Ma6 -/
/-! The greatest count: the mathematics. -/
namespace M
section
variable {m : Nat} {R : Rule} {N A B C : Int} {s : Vec} {L L1 L2 L3 : List Vec} {ks : Vec}
theorem best_ge {x : Vec} (h : x ∈ L) : insideV x ks ≤ best L ks := lmax_le _ (List.mem_map.mpr ⟨x, h, rfl⟩)
theorem best_some (h : 0 < L.length) : ∃ y ∈ L, insideV y ks = best L ks := by
  obtain ⟨y, hy, e⟩ := List.mem_map.mp (lmax_mem (cnts_ne (ks := ks) h))
  exact ⟨y, hy, e⟩
def goalIx (L : List Vec) (ks : Vec) : Nat := (cnts L ks).idxOf (best L ks)
theorem goal_at (h : 0 < L.length) : ∃ y, L[goalIx L ks]? = some y ∧ insideV y ks = best L ks := by
  have hm : best L ks ∈ cnts L ks := lmax_mem (cnts_ne h)
  have hl := List.idxOf_lt_length_of_mem hm
  have hl2 : goalIx L ks < L.length := by
    have e : (cnts L ks).length = L.length := List.length_map _
    rw [← e]; exact hl
  refine ⟨L[goalIx L ks]'hl2, List.getElem?_eq_getElem hl2, ?_⟩
  have h2 : (cnts L ks)[goalIx L ks]? = some (best L ks) := by
    show (cnts L ks)[(cnts L ks).idxOf (best L ks)]? = _
    rw [List.getElem?_eq_getElem hl]
    exact congrArg some (List.getElem_idxOf hl)
  unfold cnts at h2
  rw [List.getElem?_map, List.getElem?_eq_getElem hl2] at h2
  exact Option.some.inj h2
theorem goal_first {i : Nat} {x : Vec} (hi : L[i]? = some x) (hx : insideV x ks = best L ks) : goalIx L ks ≤ i := by
  rcases Nat.lt_or_ge i (goalIx L ks) with h | h
  · exfalso
    have hc : (cnts L ks)[i]? = some (best L ks) := by
      unfold cnts
      rw [List.getElem?_map, hi]
      show some (insideV x ks) = some _
      rw [hx]
    obtain ⟨h1, h2⟩ := List.getElem?_eq_some_iff.mp hc
    have hf := List.not_of_lt_findIdx (p := (· == best L ks)) (xs := cnts L ks) (i := i) h
    rw [h2] at hf
    simp at hf
  · exact h
theorem super_best {a1 a2 : Int} (r1 : Rch R m A (timesV a1 s) L1) (r2 : Rch R m B (timesV a2 s) L2) (r3 : Rch R m C (timesV (a1 + a2) s) L3) : best L1 ks + best L2 ks ≤ best L3 ks := by
  obtain ⟨x, hx, ex⟩ := best_some (ks := ks) r1.pos
  obtain ⟨y, hy, ey⟩ := best_some (ks := ks) r2.pos
  obtain ⟨n1, w1⟩ := r1.fd.come x hx
  obtain ⟨n2, w2⟩ := r2.fd.come y hy
  have hxv := r1.hv hx
  have hyv := r2.hv hy
  have b1 := walk_beside r1.wf r1.hs r2.hs w1
  have b2 := walk_beside r2.wf r2.hs hxv w2
  have l1 : (timesV a2 s).length = x.length := by rw [r2.hs.len, hxv.len]
  rw [plusV_comm l1] at b2
  have hw := Walk.trans b1 b2
  rw [← timesV_add] at hw
  have hm := r3.fd.all hw
  have hl : y.length = x.length := by rw [hyv.len, hxv.len]
  have := best_ge (ks := ks) hm
  rw [insideV_plus hl, ex, ey] at this
  omega
theorem ring_best (r : Rch R m N s L) (rr : RingR m R) (hk : Lot m ks) : best L ks = N := by
  have h1 : best L ks ≤ N := by
    obtain ⟨y, hy, e⟩ := best_some (ks := ks) r.pos
    rw [← e]
    exact inside_le hk (r.hv hy)
  obtain ⟨y, w, hy⟩ := rr.gather hk (phi m (wy m ks) s).toNat r.hs (Int.toNat_of_nonneg (phi_nn r.hs)).symm
  have hm := r.fd.all w
  have := best_ge (ks := ks) hm
  rw [(inside_full hk (r.hv hm)).mpr hy] at this
  omega
/-- in the ring the steps are those along the ring -/
theorem ring_dist (r : Rch R m N s L) (rr : RingR m R) (hk : Lot m ks) {st : Steps} (hst : StOk (linksV R L) (goalIx L ks) st) : ∃ d : Nat, st[0]? = some (some d) ∧ (d : Int) = phi m (wy m ks) s := by
  obtain ⟨y, hg, hin⟩ := goal_at (ks := ks) r.pos
  have hbest := ring_best r rr hk
  obtain ⟨d, h1, h2, _⟩ := r.st0 hg hst
  refine ⟨d, h1, ?_⟩
  have hyv := r.hv (List.mem_of_getElem? hg)
  have hphi : phi m (wy m ks) y = 0 := (inside_full hk hyv).mp (by rw [hin, hbest])
  have low := rr.lower hk r.hs h2.1
  rw [hphi] at low
  obtain ⟨z, w, hz⟩ := rr.gather hk (phi m (wy m ks) s).toNat r.hs (Int.toNat_of_nonneg (phi_nn r.hs)).symm
  have hzm := r.fd.all w
  obtain ⟨j, hj⟩ := List.getElem?_of_mem hzm
  have hfirst := goal_first (ks := ks) hj (by rw [(inside_full hk (r.hv hzm)).mpr hz, hbest])
  obtain ⟨k, hk1, wk⟩ := r.fd.order _ _ _ _ _ hfirst hg hj w
  have := h2.2 k wk
  have := phi_nn (f := wy m ks) r.hs
  omega
/-- more standings than most: the search ends without a list -/
theorem ring_none {most n : Nat} (rr : RingR m R) (hm : 1 ≤ m) (hs : Hv m (n : Int) s) (h1 : 1 ≤ most) (hb : most < bin (m - 1) n) : reach R s most = none := by
  refine search_none h1 (allV_nodup (m - 1) n) (fun y hy => ?_) (by rw [allV_len]; exact hb)
  have := (allV_mem (m - 1) n y).mp hy
  rw [show m - 1 + 1 = m by omega] at this
  exact rr.all_reached (by omega) hs this
end
/-- the run from the first place to the first greatest -/
def bestRun (R : Rule) (L : List Vec) (ks : Vec) (st : Steps) : List Int := (runOf (linksV R L) st ((st.getD 0 none).getD 0) 0).map fun (t : Nat) => (t : Int)
end M
/-! ## Q1 -/
/-! Appends; dicts of places; the search of the law. -/
namespace M
open PySem L2 Evl PyProof.Rows
section
variable {K : PySem.W.Frag} {σ : L2.St} {H H' : Hp} {ta tb te tx tl td tk : TE} {P : V → Hp → Prop} {α β : Type} {r : Rp α} {D : Ends} {tz : TS}
theorem r_appN {l : Addr} {xs : List V} (hl : H l = some (.lst xs)) (ho : EvP ta σ H fun w _ => w = .ref l) (h : EvP te σ H P) (hz : xs.length < 100000) (k : ∀ v H1, Ex H H1 → P v H1 → D.nx σ (upd H1 l (.lst (xs ++ [v])))) :
    tDrop (tBM K "list" rAppend ta (tCons te tNil)) D σ H :=
  ho.run fun w H1 e1 ew => by
    subst ew
    exact ⟨Or.inl ⟨rfl, xs, sq_of (e1 l _ hl)⟩, (h.mono e1).run fun v H2 e2 p => ⟨l, xs, v, rfl, rfl, (e1.trans e2) l _ hl, sz_lt hz, k v H2 (e1.trans e2) p⟩⟩
theorem r_app {l : Addr} {xs : List V} (hl : H l = some (.lst xs)) (ho : EvP ta σ H fun w _ => w = .ref l) (h : EvP te σ H P) (hz : xs.length < 100000) (k : ∀ v H1, Ex H H1 → P v H1 → tz D σ (upd H1 l (.lst (xs ++ [v])))) :
    tSeq (tDrop (tBM K "list" rAppend ta (tCons te tNil))) tz D σ H := r_appN (D := { D with nx := tz D }) hl ho h hz k
/-! ### the dict of places -/
def vKey (x : Vec) : List Key := x.map Sum.inl
theorem vKey_kV (x : Vec) : (vKey x).map kV = x.map V.int := by
  unfold vKey
  rw [List.map_map]
  rfl
theorem vKey_inj : ∀ {x y : Vec}, vKey x = vKey y → x = y
  | [], [], _ => rfl
  | [], _ :: _, h => by cases h
  | _ :: _, [], h => by cases h
  | a :: x, b :: y, h => by
    have h' : (Sum.inl a : Key) :: vKey x = Sum.inl b :: vKey y := h
    obtain ⟨h1, h2⟩ := List.cons.inj h'
    rw [Sum.inl.inj h1, vKey_inj h2]
def plFrom : Nat → List Vec → List (List Key × V)
  | _, [] => []
  | i, x :: xs => (vKey x, .int (i : Int)) :: plFrom (i + 1) xs
theorem pl_len : ∀ {L : List Vec} {i : Nat}, (plFrom i L).length = L.length
  | [], _ => rfl
  | _ :: L, i => by show (_ :: plFrom (i + 1) L).length = _; rw [List.length_cons, List.length_cons, pl_len]
theorem pl_in {x : Vec} : ∀ {L : List Vec} {i : Nat}, x ∈ L → valV (plFrom i L) (vKey x) = some (.int ((i + L.idxOf x : Nat) : Int))
  | [], _, h => by cases h
  | y :: L, i, h => by
    by_cases e : y = x
    · subst e
      have : valV (plFrom i (y :: L)) (vKey y) = some (.int (i : Int)) := valV_pos rfl
      rw [this, List.idxOf_cons_self]
      rfl
    · have h2 : x ∈ L := by
        rcases List.mem_cons.mp h with q | q
        · exact (e q.symm).elim
        · exact q
      have : valV (plFrom i (y :: L)) (vKey x) = valV (plFrom (i + 1) L) (vKey x) := valV_neg fun q => e (vKey_inj q)
      have e3 : (y :: L).idxOf x = L.idxOf x + 1 := by
        rw [List.idxOf_cons]
        have : (y == x) = false := by simpa using e
        rw [this]
        rfl
      rw [this, pl_in h2, e3]
      congr 3
      omega
theorem pl_no {x : Vec} : ∀ {L : List Vec} {i : Nat}, x ∉ L → valV (plFrom i L) (vKey x) = none
  | [], _, _ => rfl
  | y :: L, i, h => by
    have : valV (plFrom i (y :: L)) (vKey x) = valV (plFrom (i + 1) L) (vKey x) := valV_neg fun q => h (by rw [vKey_inj q]; exact List.mem_cons_self)
    rw [this]
    exact pl_no fun q => h (List.mem_cons_of_mem _ q)
theorem pl_app {x : Vec} : ∀ {L : List Vec} {i : Nat}, plFrom i (L ++ [x]) = plFrom i L ++ [(vKey x, .int ((i + L.length : Nat) : Int))]
  | [], i => rfl
  | y :: L, i => by
    show (_ :: plFrom (i + 1) (L ++ [x])) = _ :: (plFrom (i + 1) L ++ _)
    rw [pl_app]
    congr 3
    rw [List.length_cons]
    congr 3
    omega
theorem pl_put {x : Vec} {L : List Vec} (h : x ∉ L) : putK (plFrom 0 L) (vKey x) (.int (L.length : Int)) = plFrom 0 (L ++ [x]) := by
  rw [putK_new _ (pl_no h), pl_app, Nat.zero_add]
theorem vec_at {v : V} {x : Vec} (h : rVec H v x) : ∃ b, v = .ref b ∧ H b = some (.tup ((vKey x).map kV)) := by
  obtain ⟨b, vs, e, hb, pr⟩ := h
  refine ⟨b, e, ?_⟩
  rw [vKey_kV, ← rs_int pr]
  exact hb
theorem ed_nin {a : Addr} {L : List Vec} {x : Vec} (hk : Ed tk σ H rVec x) (hd : EvP td σ H fun w _ => w = .ref a) (ha : H a = some (.dT (plFrom 0 L))) : Ed (tDNotIn tk td) σ H rB (!decide (x ∈ L)) := fun H1 e Q q =>
  hk H1 e _ fun v H2 e2 p1 => hd H2 (e.trans e2) _ fun w H3 e3 p2 => by
    obtain ⟨b, rfl, hb⟩ := vec_at p1
    refine ⟨a, _, p2, DGet.t (((e.trans e2).trans e3) _ _ ha) (e3 _ _ hb), q _ H3 (e2.trans e3) ?_⟩
    show V.bl _ = V.bl _
    congr 2
    by_cases h : x ∈ L
    · rw [pl_in h, decide_eq_true h]; rfl
    · rw [pl_no h, decide_eq_false h]; rfl
theorem ed_din {a : Addr} {L : List Vec} {x : Vec} (hk : Ed tk σ H rVec x) (hd : EvP td σ H fun w _ => w = .ref a) (ha : H a = some (.dT (plFrom 0 L))) : Ed (tDIn tk td) σ H rB (decide (x ∈ L)) := fun H1 e Q q =>
  hk H1 e _ fun v H2 e2 p1 => hd H2 (e.trans e2) _ fun w H3 e3 p2 => by
    obtain ⟨b, rfl, hb⟩ := vec_at p1
    refine ⟨a, _, p2, DGet.t (((e.trans e2).trans e3) _ _ ha) (e3 _ _ hb), q _ H3 (e2.trans e3) ?_⟩
    show V.bl _ = V.bl _
    congr 1
    by_cases h : x ∈ L
    · rw [pl_in h, decide_eq_true h]; rfl
    · rw [pl_no h, decide_eq_false h]; rfl
theorem ed_dget {a : Addr} {L : List Vec} {x : Vec} (hd : EvP td σ H fun w _ => w = .ref a) (hk : Ed tk σ H rVec x) (ha : H a = some (.dT (plFrom 0 L))) (hx : x ∈ L) : Ed (tDGet td tk) σ H rN (L.idxOf x) := fun H1 e Q q =>
  hd H1 e _ fun w H2 e2 p2 => hk H2 (e.trans e2) _ fun v H3 e3 p1 => by
    obtain ⟨b, rfl, hb⟩ := vec_at p1
    have h := pl_in (i := 0) hx
    rw [Nat.zero_add] at h
    exact ⟨a, _, p2, by rw [← h]; exact DGet.t (((e.trans e2).trans e3) _ _ ha) hb, q _ H3 (e2.trans e3) rfl⟩
theorem r_dput {a : Addr} {L : List Vec} {x : Vec} (hd : EvP td σ H fun w _ => w = .ref a) (hk : Ed tk σ H rVec x) (ha : H a = some (.dT (plFrom 0 L))) (hv : Ed te σ H rI (L.length : Int)) (hx : x ∉ L) (hl : L.length < 100000)
    (k : ∀ H1, Ex H H1 → D.nx σ (upd H1 a (.dT (plFrom 0 (L ++ [x]))))) : sDPut td tk te D σ H :=
  hv.run fun v H1 e1 p => (hd.mono e1).run fun w H2 e2 p2 => (hk.mono (e1.trans e2)).run fun y H3 e3 p3 => by
    obtain ⟨b, rfl, hb⟩ := vec_at p3
    cases p
    have e := (e1.trans e2).trans e3
    refine ⟨a, _, p2, DPut.t (v := .int (L.length : Int)) (e _ _ ha) hb (by rw [pl_len]; exact sz_lt hl), ?_⟩
    rw [pl_put hx]
    exact k H3 e
end
/-! ### the searches, turn by turn -/
section
variable {α : Type} [DecidableEq α]
theorem addAll_in {most : Nat} {y : α} {ys L : List α} (h : y ∈ L) : addAll most (y :: ys) L = addAll most ys L := by rw [addAll, if_pos h]
theorem addAll_full {most : Nat} {y : α} {ys L : List α} (h : y ∉ L) (h2 : most ≤ L.length) : addAll most (y :: ys) L = none := by rw [addAll, if_neg h, if_pos h2]
theorem addAll_new {most : Nat} {y : α} {ys L : List α} (h : y ∉ L) (h2 : ¬ most ≤ L.length) : addAll most (y :: ys) L = addAll most ys (L ++ [y]) := by rw [addAll, if_neg h, if_neg h2]
theorem addAll_app {most : Nat} : ∀ {ys zs L : List α}, addAll most (ys ++ zs) L = (addAll most ys L).bind (addAll most zs)
  | [], _, _ => rfl
  | y :: ys, zs, L => by
    rw [List.cons_append]
    unfold addAll
    by_cases h : y ∈ L
    · rw [if_pos h, if_pos h]; exact addAll_app
    · rw [if_neg h, if_neg h]
      by_cases h2 : most ≤ L.length
      · rw [if_pos h2, if_pos h2]; rfl
      · rw [if_neg h2, if_neg h2]; exact addAll_app
end
/-- the row up to the deed i -/
def nxTo (R : Rule) (s : Vec) (i : Nat) : List Vec := ((List.range i).filter (canB R s)).map (moveV R s)
theorem nxTo_succ {R : Rule} {s : Vec} {i : Nat} : nxTo R s (i + 1) = nxTo R s i ++ (if canB R s i = true then [moveV R s i] else []) := by
  unfold nxTo
  rw [List.range_succ, List.filter_append, List.map_append]
  congr 1
  rw [List.filter_cons]
  by_cases h : canB R s i = true
  · rw [if_pos h, if_pos h]; rfl
  · rw [if_neg h, if_neg h]; rfl
theorem nxTo_split {R : Rule} {s : Vec} {i n : Nat} (h : i ≤ n) : ∃ zs, nxTo R s n = nxTo R s i ++ zs := by
  induction n with
  | zero => exact ⟨[], by rw [Nat.le_zero.mp h, List.append_nil]⟩
  | succ n ih =>
    rcases Nat.lt_or_eq_of_le h with q | q
    · obtain ⟨zs, e⟩ := ih (by omega)
      exact ⟨zs ++ _, by rw [nxTo_succ, e, List.append_assoc]⟩
    · exact ⟨[], by rw [q, List.append_nil]⟩
def sp__law_reach : Sp := sp3 rRule rVec rN (fun R s most => LenR s.length R ∧ s.length ≤ 1000 ∧ R.2.length ≤ 1000 ∧ 1 ≤ most ∧ most ≤ 40000) (fun R s most => pd (rO (rL rVec)) (reach R s most))
/-! _law_reach: slots rule 0, standing 1, most 2, listed 3, met 4, at 5, here 6, t 7, there 8 -/
def N__law_reach : List Str := ["rule", "standing", "most", "listed", "met", "at", "here", "t", "there"]
def t__law_reach (K : PySem.W.Frag) : TS :=
  (tSeq (tAsg (tLst (tCons (tVar 1) tNil)) (gName 3))
  (tSeq (tAsg (tDispT (tVar 1) (tC (.int 0))) (gName 4))
  (tSeq (tAsg (tC (.int 0)) (gName 5))
  (tSeq (tWhile (tTest (tOp oLt (tVar 5) (tCB (rLenS K) (tCons (tVar 3) tNil)))) (tSeq (tAsg (tOp (rIxL K) (tVar 3) (tVar 5)) (gName 6))
  (tSeq (tFor (iRng1 (tCons (tCB (rLenS K) (tCons (tOp (rIxT K) (tVar 0) (tC (.int 1))) tNil)) tNil)) (gName 7) (tIfS (tB (tCall sp__law_can [] E0 (tCons (tVar 0) (tCons (tVar 6) (tCons (tVar 7) tNil))))) (tSeq (tAsg (tCall sp__law_after [] E0 (tCons (tVar 0) (tCons (tVar 6) (tCons (tVar 7) tNil)))) (gName 8))
  (tIfS (tB (tDNotIn (tVar 8) (tVar 4))) (tSeq (tIfS (tTest (tOp oGe (tCB (rLenS K) (tCons (tVar 3) tNil)) (tVar 2))) (tRet (tC .non)) tNext)
  (tSeq (sDPut (tVar 4) (tVar 8) (tCB (rLenS K) (tCons (tVar 3) tNil)))
  (tDrop (tBM K "list" rAppend (tVar 3) (tCons (tVar 8) tNil))))) tNext)) tNext))
  (tAug 5 (tC (.int 1)) (ipI fun i j => i + j)))))
  (tRet (tVar 3))))))
section
variable {K : PySem.W.Frag} {vs : List V} {H : Hp} {Q : VK} {E : XK}
theorem bfs_at {α : Type} [DecidableEq α] {most f k : Nat} {nx : α → List α} {L : List α} {x : α} (h : L[k]? = some x) : bfs most nx (f + 1) k L = (addAll most (nx x) L).bind (bfs most nx f (k + 1)) := by
  rw [bfs, h]
  show (match addAll most (nx x) L with | none => none | some L' => bfs most nx f (k + 1) L') = _
  cases addAll most (nx x) L <;> rfl
theorem bfs_end {α : Type} [DecidableEq α] {most f k : Nat} {nx : α → List α} {L : List α} (h : L.length ≤ k) : bfs most nx (f + 1) k L = some L := by
  rw [bfs, List.getElem?_eq_none h]
theorem Tp.upd {H : Hp} {a : Addr} {o o' : HO} (h : H a = some o) (hn : ∀ xs, o ≠ .tup xs) : Tp H (upd H a o') := fun b xs hb => by
  have : b ≠ a := fun e => by
    rw [e, h] at hb
    exact hn xs (Option.some.inj hb)
  rw [upd_ne this]
  exact hb
theorem Tp.updL {H : Hp} {a : Addr} {xs : List V} {o' : HO} (h : H a = some (.lst xs)) : Tp H (L2.upd H a o') := Tp.upd h fun _ => by intro z; cases z
theorem Tp.updT {H : Hp} {a : Addr} {xs : List (List Key × V)} {o' : HO} (h : H a = some (.dT xs)) : Tp H (L2.upd H a o') := Tp.upd h fun _ => by intro z; cases z
theorem pure__law_reach (h : sp__law_reach vs H Q E) : t__law_reach K { nx := fun _ H' => Q .non H', rt := Q } (start N__law_reach vs) H := by
  obtain ⟨v1, v2, v3, R, s, most, rfl, r1, r2, r3, ⟨p1, p2, p3, p4, p5⟩, k⟩ := h
  cases r3
  refine r_asg (el_lst (r := rVec) (xs := [s]) (es_cons (ed_var rfl r2) es_nil) (by simp)) fun v H1 e1 ⟨l, us, ev, nl, hl, pr⟩ => ?_
  subst ev
  intro dc ndc
  have ldc : l ≠ dc := ne_of_none hl ndc
  have e1d : Ex H (upd H1 dc (.dT [])) := e1.trans (Ex.new ndc)
  refine ⟨v2, rfl, ?_⟩
  obtain ⟨b, eb, hb⟩ := vec_at (mon e1d r2)
  refine ⟨vKey s, b, .int 0, by rw [eb], upd_same, hb, ?_⟩
  have ndH : H dc = none := fresh_back e1 ndc
  have e2 : Ex H (upd (upd H1 dc (.dT [])) dc (.dT [(vKey s, .int 0)])) := Ex.mut e1d ndH
  have hl2 : (upd (upd H1 dc (.dT [])) dc (.dT [(vKey s, .int 0)])) l = some (.lst us) := by rw [upd_ne ldc, upd_ne ldc]; exact hl
  have hd2 : (upd (upd H1 dc (.dT [])) dc (.dT [(vKey s, .int 0)])) dc = some (.dT (plFrom 0 [s])) := upd_same
  have pr2 : Paired (rVec (upd (upd H1 dc (.dT [])) dc (.dT [(vKey s, .int 0)]))) us [s] := by
    have : Tp H1 (upd (upd H1 dc (.dT [])) dc (.dT [(vKey s, .int 0)])) := fun a xs ha => by
      rw [upd_ne (ne_of_none ha ndc), upd_ne (ne_of_none ha ndc)]; exact ha
    exact monT this pr
  show (tSeq _ _) _ _ (upd (upd H1 dc (.dT [])) dc (.dT [(vKey s, .int 0)]))
  generalize upd (upd H1 dc (.dT [])) dc (.dT [(vKey s, .int 0)]) = H2 at e2 hl2 hd2 pr2 ⊢
  refine r_asg (ed_int (n := 0)) fun w0 H3 e3 rw0 => ?_
  cases rw0
  refine r_while (fun q σ H' => Ex H H' ∧ ∃ (i : Nat) (L : List Vec) (us : List V) (a b c : Option V), q = most + 1 - i ∧ i ≤ L.length ∧ L.length ≤ most ∧ σ = [some v1, some v2, some (.int most), some (.ref l), some (.ref dc), some (.int i), a, b, c] ∧
    H' l = some (.lst us) ∧ H' dc = some (.dT (plFrom 0 L)) ∧ Paired (rVec H') us L ∧ (∀ x ∈ L, x.length = s.length) ∧ reach R s most = bfs most (nxV R) (most + 1 - i) i L) (most + 1) ?_ ?_
  · exact ⟨e2.trans e3, 0, [s], us, none, none, none, rfl, Nat.zero_le _, p4, rfl, e3 _ _ hl2, e3 _ _ hd2, mons e3 pr2, fun x hx => by rw [List.mem_singleton.mp hx], rfl⟩
  · rintro q σ H4 ⟨e4, i, L, us, a, b, c, rfl, hi, hL, rfl, hl4, hd4, pr4, hlen, heq⟩
    have hV : ∀ (l' : L2.St) H', l'[3]? = some (some (.ref l)) → Ex H4 H' → Ed (tVar 3) l' H' (rL rVec) L := fun l' H' h e => ed_var h ⟨l, us, rfl, e _ _ hl4, mons e pr4⟩
    refine ⟨_, et_test' (ed_lt (ed_var (r := rI) (x := (i : Int)) rfl rfl) (ed_lenL (hV _ _ rfl (Ex.refl _)))), ?_, ?_⟩
    · intro hb H5 e5
      have hil : i < L.length := by
        have := of_decide_eq_true hb
        omega
      obtain ⟨x, hx⟩ : ∃ x, L[i]? = some x := ⟨L[i]'hil, List.getElem?_eq_getElem hil⟩
      have hxl : x.length = s.length := hlen x (List.mem_of_getElem? hx)
      have hLx : LenR x.length R := by rw [hxl]; exact p1
      have heq2 : reach R s most = (addAll most (nxV R x) L).bind (bfs most (nxV R) (most - i) (i + 1)) := by
        rw [heq, show most + 1 - i = (most - i) + 1 by omega]
        exact bfs_at hx
      refine ⟨fun σ' H' => Ex H H' ∧ ∃ (L' : List Vec) (us : List V) (a b c : Option V), i + 1 ≤ L'.length ∧ L'.length ≤ most ∧ σ' = [some v1, some v2, some (.int most), some (.ref l), some (.ref dc), some (.int ((i : Int) + 1)), a, b, c] ∧
        H' l = some (.lst us) ∧ H' dc = some (.dT (plFrom 0 L')) ∧ Paired (rVec H') us L' ∧ (∀ x ∈ L', x.length = s.length) ∧ reach R s most = bfs most (nxV R) (most - i) (i + 1) L', ?_, ?_⟩
      · rintro σ2 H2' ⟨q1, L', us', a', b', c', q2, q3, q4, q5, q6, q7, q8, q9⟩
        refine ⟨most + 1 - (i + 1), by omega, q1, i + 1, L', us', a', b', c', rfl, q2, q3, by rw [q4]; congr 1, q5, q6, q7, q8, by rw [q9]; congr 1; omega⟩
      · refine r_asg (ed_ixL (hV _ _ rfl e5) (ed_var (r := rI) (x := (i : Int)) rfl rfl) hx) fun w H6 e6 rw6 => ?_
        refine r_forN (n := R.2.length) (ed_lenT (ed_p2 (ed_var (r := rRule) (x := R) rfl (mon ((e4.trans e5).trans e6) r1)))) (by omega) (fun t σ' H' => Ex H H' ∧ Tp H6 H' ∧ ∃ (Lc : List Vec) (uc : List V) (a c : Option V), σ' = [some v1, some v2, some (.int most), some (.ref l), some (.ref dc), some (.int i), some w, a, c] ∧
          H' l = some (.lst uc) ∧ H' dc = some (.dT (plFrom 0 Lc)) ∧ Paired (rVec H') uc Lc ∧ (∀ x ∈ Lc, x.length = s.length) ∧ Lc.length ≤ most ∧ i + 1 ≤ Lc.length ∧ addAll most (nxTo R x t) L = some Lc) ?_ ?_ ?_
        · intro H7 e7
          have e47 := (e5.trans e6).trans e7
          exact ⟨e4.trans e47, Ex.tp e7, L, us, _, _, rfl, e47 _ _ hl4, e47 _ _ hd4, mons e47 pr4, hlen, hL, hil, rfl⟩
        · rintro t σ' H7 ht ⟨e7, tp7, Lc, uc, a', c', rfl, hl7, hd7, pr7, hlen7, hLc, hiL, hadd⟩
          have rw7 : rVec H7 w x := Mon.mon tp7 rw6
          have hR : ∀ (l' : L2.St) H', l'[0]? = some (some v1) → Ex H7 H' → Ed (tVar 0) l' H' rRule R := fun l' H' h e => ed_var h (mon (e7.trans e) r1)
          have hW : ∀ (l' : L2.St) H', l'[6]? = some (some w) → Ex H7 H' → Ed (tVar 6) l' H' rVec x := fun l' H' h e => ed_var h (mon e rw7)
          have hT : ∀ (l' : L2.St) H', l'[7]? = some (some (.int (t : Int))) → Ed (tVar 7) l' H' rN t := fun l' H' h => ed_var h rfl
          have stay : canB R x t = false ∨ moveV R x t ∈ Lc → addAll most (nxTo R x (t + 1)) L = some Lc := fun hc => by
            rw [nxTo_succ, addAll_app, hadd]
            rcases hc with hc | hc
            · rw [if_neg (by rw [hc]; simp)]; rfl
            · by_cases hc2 : canB R x t = true
              · rw [if_pos hc2]
                show addAll most [moveV R x t] Lc = _
                rw [addAll_in hc]
                rfl
              · rw [if_neg hc2]; rfl
          refine r_ifN (et_B' (ev_call3 (x := R) (y := x) (z := t) (hR _ _ rfl (Ex.refl _)) (hW _ _ rfl (Ex.refl _)) (hT _ _ rfl) ⟨ht, hLx, by omega⟩ hq_d)) ?_ ?_
          · intro hc H8 e8
            refine r_asg (ev_call3 (P := fun w H5 => rVec H5 w (afterV R x t)) (x := R) (y := x) (z := t) (hR _ _ rfl e8) (hW _ _ rfl e8) (hT _ _ rfl) ⟨ht, hLx, by omega⟩ hq_d) fun y H9 e9 ry => ?_
            rw [after_eq_move hLx rfl ht] at ry
            have e79 := e8.trans e9
            have hdv : ∀ (l' : L2.St) H', l'[4]? = some (some (.ref dc)) → EvP (tVar 4) l' H' fun w _ => w = .ref dc := fun l' H' h => ev_v h
            have hlv : ∀ (l' : L2.St) H', l'[3]? = some (some (.ref l)) → EvP (tVar 3) l' H' fun w _ => w = .ref l := fun l' H' h => ev_v h
            have hY : ∀ (l' : L2.St) H', l'[8]? = some (some y) → Ex H9 H' → Ed (tVar 8) l' H' rVec (moveV R x t) := fun l' H' h e => ed_var h (mon e ry)
            have hL9 : ∀ (l' : L2.St) H', l'[3]? = some (some (.ref l)) → Ex H9 H' → Ed (tVar 3) l' H' (rL rVec) Lc := fun l' H' h e => ed_var h ⟨l, uc, rfl, e _ _ (e79 _ _ hl7), mons e (mons e79 pr7)⟩
            refine r_ifN (et_B' (ed_nin (hY _ _ rfl (Ex.refl _)) (hdv _ _ rfl) (e79 _ _ hd7))) ?_ ?_
            · intro hn H10 e10
              have hny : moveV R x t ∉ Lc := by simpa using hn
              refine r_if (et_test' (ed_ge (ed_lenL (hL9 _ _ rfl e10)) (ed_var (r := rI) (x := (most : Int)) rfl rfl))) ?_ ?_
              · intro hm H11 e11
                have hm' : most ≤ Lc.length := by
                  have := of_decide_eq_true hm
                  omega
                refine r_ret (ed_non (r := rL rVec) (x := reach R s most) ?_) fun w' H12 e12 p => k w' H12 ((((e7.trans e79).trans e10).trans e11).trans e12) p
                rw [heq2]
                obtain ⟨zs, hz⟩ := nxTo_split (R := R) (s := x) (show t + 1 ≤ R.2.length by omega)
                have : addAll most (nxV R x) L = none := by
                  show addAll most (nxTo R x R.2.length) L = none
                  rw [hz, nxTo_succ, if_pos hc, List.append_assoc, addAll_app, hadd]
                  show addAll most ([moveV R x t] ++ zs) Lc = none
                  exact addAll_full hny hm'
                rw [this]
                rfl
              · intro hm H11 e11
                have hm' : Lc.length < most := by
                  have := of_decide_eq_false hm
                  omega
                have e911 := e10.trans e11
                have e711 := e79.trans e911
                refine r_dput (D := { nx := _, rt := _, bk := _, ct := _ }) (hdv _ _ rfl) (hY _ _ rfl e911) (e711 _ _ hd7) (ed_lenL (hL9 _ _ rfl e911)) hny (by omega) fun H12 e12 => ?_
                have e712 := e711.trans e12
                have hl12 : (upd H12 dc (.dT (plFrom 0 (Lc ++ [moveV R x t])))) l = some (.lst uc) := by rw [upd_ne ldc]; exact e712 _ _ hl7
                refine r_appN hl12 (hlv _ _ rfl) (P := fun w _ => w = y) (ev_v rfl) (by rw [Paired.length pr7]; omega) fun v' H13 e13 ev => ?_
                subst ev
                have t12 : Tp H12 (upd H12 dc (.dT (plFrom 0 (Lc ++ [moveV R x t])))) := Tp.updT (e712 _ _ hd7)
                have t13 : Tp H13 (upd H13 l (.lst (uc ++ [v']))) := Tp.updL (e13 _ _ hl12)
                have tp : Tp H9 (upd H13 l (.lst (uc ++ [v']))) := (((Ex.tp (e911.trans e12)).trans t12).trans (Ex.tp e13)).trans t13
                have tp' : Tp H7 (upd H13 l (.lst (uc ++ [v']))) := (Ex.tp e79).trans tp
                refine ⟨Ex.mut ((Ex.mut ((e7.trans e712)) ndH).trans e13) nl, tp7.trans tp', Lc ++ [moveV R x t], uc ++ [v'], _, _, rfl, upd_same, ?_, ?_, ?_, ?_, ?_, ?_⟩
                · rw [upd_ne ldc.symm]; exact e13 _ _ upd_same
                · exact p_app (monT tp' pr7) (.cons (Mon.mon tp ry) .nil)
                · intro z hz
                  rcases List.mem_append.mp hz with q | q
                  · exact hlen7 z q
                  · rw [List.mem_singleton.mp q, moveV_len]; exact hxl
                · rw [List.length_append]; simp; omega
                · rw [List.length_append]; omega
                · rw [nxTo_succ, if_pos hc, addAll_app, hadd]
                  show addAll most [moveV R x t] Lc = _
                  rw [addAll_new hny (by omega)]
                  rfl
            · intro hn H10 e10
              have hny : moveV R x t ∈ Lc := by simpa using hn
              have e710 := e79.trans e10
              exact ⟨e7.trans e710, tp7.trans (Ex.tp e710), Lc, uc, _, _, rfl, e710 _ _ hl7, e710 _ _ hd7, mons e710 pr7, hlen7, hLc, hiL, stay (.inr hny)⟩
          · intro hc H8 e8
            exact ⟨e7.trans e8, tp7.trans (Ex.tp e8), Lc, uc, _, _, rfl, e8 _ _ hl7, e8 _ _ hd7, mons e8 pr7, hlen7, hLc, hiL, stay (.inl hc)⟩
        · rintro σ' H7 ⟨e7, tp7, Lc, uc, a', c', rfl, hl7, hd7, pr7, hlen7, hLc, hiL, hadd⟩
          refine r_augN rfl (ed_int (n := 1)) fun H8 e8 => ?_
          refine ⟨e7.trans e8, Lc, uc, _, _, _, hiL, hLc, rfl, e8 _ _ hl7, e8 _ _ hd7, mons e8 pr7, hlen7, ?_⟩
          rw [heq2]
          have : addAll most (nxV R x) L = some Lc := hadd
          rw [this]
          rfl
    · intro hb H5 e5
      have hil : L.length ≤ i := by
        have := of_decide_eq_false hb
        omega
      refine r_ret (ed_var (r := rO (rL rVec)) (x := reach R s most) rfl ?_) fun w H6 e6 p => k w H6 ((e4.trans e5).trans e6) p
      rw [heq, show most + 1 - i = (most - i) + 1 by omega, bfs_end hil]
      exact ⟨l, us, rfl, e5 _ _ hl4, mons e5 pr4⟩
end
end M
/-! ## Q2 -/
/-! The links of the law. -/
namespace M
open PySem L2 Evl PyProof.Rows
/-- not the list at l itself -/
def rNb {α : Type} (l : Addr) (r : Rp α) : Rp α := fun H v x => v ≠ .ref l ∧ r H v x
instance {α : Type} {l : Addr} {r : Rp α} [MX r] : MX (rNb l r) := ⟨fun e h => ⟨h.1, mon e h.2⟩⟩
theorem rNb_upd {α : Type} {r : Rp α} [Mon r] {H : Hp} {l : Addr} {xs ys : List V} {v : V} {x : List α} (hl : H l = some (.lst ys)) (h : rNb l (rL r) H v x) : rNb l (rL r) (upd H l (.lst xs)) v x := by
  obtain ⟨h1, a, vs, e, h2, h3⟩ := h
  refine ⟨h1, a, vs, e, ?_, monT (Tp.updL hl) h3⟩
  have : a ≠ l := fun q => h1 (by rw [e, q])
  rw [upd_ne this]
  exact h2
abbrev rLk : Rp (Nat × Nat) := rP rN rN
abbrev rRow : Rp (List (Nat × Nat)) := rL rLk
abbrev rLinks : Rp Links := rL rRow
section
variable {K : PySem.W.Frag} {σ : L2.St} {H H' : Hp} {ta tb te tx tl td tk : TE} {P : V → Hp → Prop} {α β : Type} {r : Rp α} {D : Ends} {tz : TS}
theorem ed_lenD {a : Addr} {L : List Vec} (hd : EvP td σ H fun w _ => w = .ref a) (ha : H a = some (.dT (plFrom 0 L))) : Ed (tCB rLenT (tCons td tNil)) σ H rI (L.length : Int) := fun H1 e Q q =>
  hd H1 e _ fun w H2 e2 p => ⟨a, _, by rw [p], (e.trans e2) _ _ ha, q _ H2 e2 (by show V.int _ = V.int _; rw [pl_len])⟩
theorem r_dputS {a : Addr} {L : List Vec} {x : Vec} (hd : EvP td σ H fun w _ => w = .ref a) (hk : Ed tk σ H rVec x) (ha : H a = some (.dT (plFrom 0 L))) (hv : Ed te σ H rI (L.length : Int)) (hx : x ∉ L) (hl : L.length < 100000)
    (k : ∀ H1, Ex H H1 → tz D σ (upd H1 a (.dT (plFrom 0 (L ++ [x]))))) : tSeq (sDPut td tk te) tz D σ H := r_dput (D := { D with nx := tz D }) hd hk ha hv hx hl k
theorem ed_isN {o : Option Nat} (ha : Ed ta σ H (rO rN) o) : Ed (tOp rIsN ta (tC .non)) σ H rB o.isNone := fun H1 e Q q =>
  ha H1 e _ fun v H2 e2 p => ⟨rfl, q _ H2 e2 (by
    show V.bl _ = V.bl _
    congr 1
    cases o with
    | none =>
      have : v = .non := p
      rw [this]; rfl
    | some d =>
      have : v = .int (d : Int) := p
      rw [this]; rfl)⟩
theorem ed_notN {o : Option Nat} (ha : Ed ta σ H (rO rN) o) : Ed (tOp rNotN ta (tC .non)) σ H rB o.isSome := fun H1 e Q q =>
  ha H1 e _ fun v H2 e2 p => ⟨rfl, q _ H2 e2 (by
    show V.bl _ = V.bl _
    congr 1
    cases o with
    | none =>
      have : v = .non := p
      rw [this]; rfl
    | some d =>
      have : v = .int (d : Int) := p
      rw [this]; rfl)⟩
theorem ed_eqDI {i j : Int} (ha : Ed ta σ H rI i) (hb : Ed tb σ H rI j) : Ed (tOp (rEqD K) ta tb) σ H rB (decide (i = j)) :=
  ed_op ha hb fun v w H1 _ p1 p2 Q k => by
    cases p1; cases p2
    refine ⟨.int i, .int j, .int i, .int j, rfl, rfl, ?_⟩
    have e : PyData.eqv (.int i) (.int j) = decide (i = j) := by simp [PyData.eqv, Bool.beq_eq_decide_eq]
    rw [e]
    exact k _ H1 (Ex.refl H1) rfl
end
def sp__law_links : Sp := sp2 rRule (rL rVec) (fun R L => L.length ≤ 40000 ∧ R.2.length ≤ 1000 ∧ L.Nodup ∧ (∃ m, m ≤ 1000 ∧ LenR m R ∧ ∀ x ∈ L, x.length = m) ∧ ∀ x ∈ L, ∀ y ∈ nxV R x, y ∈ L) (fun R L => pd rLinks (linksV R L))
/-! _law_links: slots rule 0, listed 1, places 2, standing 3, links 4, here 5, row 6, t 7 -/
def N__law_links : List Str := ["rule", "listed", "places", "standing", "links", "here", "row", "t"]
def t__law_links (K : PySem.W.Frag) : TS :=
  (tSeq (tAsg tDNewT (gName 2))
  (tSeq (tFor (iList K (tVar 1)) (gName 3) (sDPut (tVar 2) (tVar 3) (tCB rLenT (tCons (tVar 2) tNil))))
  (tSeq (tAsg (tLst tNil) (gName 4))
  (tSeq (tFor (iList K (tVar 1)) (gName 5) (tSeq (tAsg (tLst tNil) (gName 6))
  (tSeq (tFor (iRng1 (tCons (tCB (rLenS K) (tCons (tOp (rIxT K) (tVar 0) (tC (.int 1))) tNil)) tNil)) (gName 7) (tIfS (tB (tCall sp__law_can [] E0 (tCons (tVar 0) (tCons (tVar 5) (tCons (tVar 7) tNil))))) (tDrop (tBM K "list" rAppend (tVar 6) (tCons (tTup (tCons (tVar 7) (tCons (tDGet (tVar 2) (tCall sp__law_after [] E0 (tCons (tVar 0) (tCons (tVar 5) (tCons (tVar 7) tNil))))) tNil))) tNil))) tNext))
  (tDrop (tBM K "list" rAppend (tVar 4) (tCons (tVar 6) tNil))))))
  (tRet (tVar 4))))))
/-- the row up to the deed i -/
def rowTo (R : Rule) (L : List Vec) (x : Vec) (i : Nat) : List (Nat × Nat) := ((List.range i).filter (canB R x)).map fun t => (t, L.idxOf (moveV R x t))
theorem rowTo_succ {R : Rule} {L : List Vec} {x : Vec} {i : Nat} : rowTo R L x (i + 1) = rowTo R L x i ++ (if canB R x i = true then [(i, L.idxOf (moveV R x i))] else []) := by
  unfold rowTo
  rw [List.range_succ, List.filter_append, List.map_append]
  congr 1
  rw [List.filter_cons]
  by_cases h : canB R x i = true
  · rw [if_pos h, if_pos h]; rfl
  · rw [if_neg h, if_neg h]; rfl
theorem rowTo_len {R : Rule} {L : List Vec} {x : Vec} {i : Nat} : (rowTo R L x i).length ≤ i := by
  unfold rowTo
  rw [List.length_map]
  exact Nat.le_trans (List.length_filter_le _ _) (by rw [List.length_range]; exact Nat.le_refl _)
section
variable {K : PySem.W.Frag} {vs : List V} {H : Hp} {Q : VK} {E : XK}
theorem pure__law_links (h : sp__law_links vs H Q E) : t__law_links K { nx := fun _ H' => Q .non H', rt := Q } (start N__law_links vs) H := by
  obtain ⟨v1, v2, R, L, rfl, r1, ⟨la, us, rfl, hla, pla⟩, ⟨p1, p2, p3, ⟨m, p4, p5, p6⟩, p7⟩, k⟩ := h
  have hlen := Paired.length pla
  intro dc ndc
  have e1 : Ex H (upd H dc (.dT [])) := Ex.new ndc
  have hd1 : (upd H dc (.dT [])) dc = some (.dT (plFrom 0 [])) := upd_same
  show (tSeq _ _) _ _ (upd H dc (.dT []))
  generalize upd H dc (.dT []) = H1 at e1 hd1 ⊢
  refine r_forLa (us := us) (ev_v (i := 1) rfl) (e1 _ _ hla) (fun i σ' H' => Ex H H' ∧ H' dc = some (.dT (plFrom 0 (L.take i))) ∧ ∃ a, σ' = [some v1, some (.ref la), some (.ref dc), a, none, none, none, none])
    (fun H2 e2 => ⟨e1.trans e2, by rw [List.take_zero]; exact e2 _ _ hd1, none, rfl⟩) (fun i σ' H' p => p.1 _ _ hla) ?_ ?_
  · rintro i w σ' H' hw ⟨e3, hd3, a, rfl⟩
    obtain ⟨x, hx, rw'⟩ := p_get' pla hw
    have hil := (List.getElem?_eq_some_iff.mp hx).1
    have htl : (L.take i).length = i := by rw [List.length_take]; omega
    refine r_dput (L := L.take i) (x := x) (ev_v (i := 2) rfl) (ed_var rfl (mon e3 rw')) hd3 (ed_lenD (ev_v (i := 2) rfl) hd3) (fun hm => ?_) (by omega) fun H4 e4 => ?_
    · obtain ⟨j, hj⟩ := List.getElem?_of_mem hm
      have hj1 := (List.getElem?_eq_some_iff.mp hj).1
      rw [List.getElem?_take_of_lt (by omega)] at hj
      obtain ⟨a1, b1⟩ := List.getElem?_eq_some_iff.mp hj
      obtain ⟨a2, b2⟩ := List.getElem?_eq_some_iff.mp hx
      have := (List.getElem_inj p3).mp (b1.trans b2.symm)
      omega
    · refine ⟨Ex.mut (e3.trans e4) ndc, ?_, some w, rfl⟩
      rw [upd_same]
      congr 3
      rw [List.take_add_one, hx]
      rfl
  · rintro σ' H3 ⟨e3, hd3, a, rfl⟩
    rw [hlen, List.take_length] at hd3
    refine r_asg (el_lst (r := rV) (xs := []) es_nil (Nat.zero_le _)) fun v H4 e4 ⟨ll, ul, ev, nl, hll, pr⟩ => ?_
    subst ev
    obtain rfl : ul = [] := rv_eq pr
    have nlH : H ll = none := fresh_back e3 nl
    have ndl : dc ≠ ll := ne_of_none hd3 nl
    refine r_forLa (us := us) (ev_v (i := 1) rfl) ((e3.trans e4) _ _ hla) (fun i σ' H' => Ex H H' ∧ H' dc = some (.dT (plFrom 0 L)) ∧ ∃ rs a b c d, σ' = [some v1, some (.ref la), some (.ref dc), a, some (.ref ll), b, c, d] ∧ H' ll = some (.lst rs) ∧ Paired (rNb ll rRow H') rs ((L.take i).map (linkRow R L)))
      (fun H5 e5 => ⟨(e3.trans e4).trans e5, (e4.trans e5) _ _ hd3, [], _, _, _, _, rfl, e5 _ _ hll, by rw [List.take_zero]; exact .nil⟩) (fun i σ' H' p => p.1 _ _ hla) ?_ ?_
    · rintro i w σ' H5 hw ⟨e5, hd5, rs, a, b, c, d, rfl, hll5, pr5⟩
      obtain ⟨x, hx, rw'⟩ := p_get' pla hw
      have hil := (List.getElem?_eq_some_iff.mp hx).1
      have hxm := List.mem_of_getElem? hx
      have hxl := p6 x hxm
      have hLx : LenR x.length R := by rw [hxl]; exact p5
      have hrs : rs.length = i := by rw [Paired.length pr5, List.length_map, List.length_take]; omega
      refine r_asg (el_lst (r := rV) (xs := []) es_nil (Nat.zero_le _)) fun v H6 e6 ⟨rr, ur, ev, nr, hrr, pr⟩ => ?_
      subst ev
      obtain rfl : ur = [] := rv_eq pr
      have nrl : ll ≠ rr := ne_of_none hll5 nr
      refine r_forN (n := R.2.length) (ed_lenT (ed_p2 (ed_var (r := rRule) (x := R) rfl (mon (e5.trans e6) r1)))) (by omega) (fun t σ' H' => Ex H5 H' ∧ ∃ ur d, σ' = [some v1, some (.ref la), some (.ref dc), a, some (.ref ll), some w, some (.ref rr), d] ∧ H' rr = some (.lst ur) ∧ Paired (rLk H') ur (rowTo R L x t)) ?_ ?_ ?_
      · intro H7 e7
        exact ⟨e6.trans e7, [], _, rfl, e7 _ _ hrr, .nil⟩
      · rintro t σ' H7 ht ⟨e7, ur, d', rfl, hr7, pr7⟩
        have hR : ∀ (l' : L2.St) H', l'[0]? = some (some v1) → Ex H7 H' → Ed (tVar 0) l' H' rRule R := fun l' H' h e => ed_var h (mon ((e5.trans e7).trans e) r1)
        have hW : ∀ (l' : L2.St) H', l'[5]? = some (some w) → Ex H7 H' → Ed (tVar 5) l' H' rVec x := fun l' H' h e => ed_var h (mon ((e5.trans e7).trans e) rw')
        have hT : ∀ (l' : L2.St) H', l'[7]? = some (some (.int (t : Int))) → Ed (tVar 7) l' H' rN t := fun l' H' h => ed_var h rfl
        refine r_ifN (et_B' (ev_call3 (x := R) (y := x) (z := t) (hR _ _ rfl (Ex.refl _)) (hW _ _ rfl (Ex.refl _)) (hT _ _ rfl) ⟨ht, hLx, by omega⟩ hq_d)) ?_ ?_
        · intro hc H8 e8
          have hmem : moveV R x t ∈ L := p7 x hxm _ (mem_nxV.mpr ⟨t, ht, hc, rfl⟩)
          refine r_appN (e8 _ _ hr7) (ev_v (i := 6) rfl) (P := fun w' H' => rLk H' w' (t, L.idxOf (moveV R x t))) (ed_pair (hT _ _ rfl) (ed_dget (ev_v (i := 2) rfl) (ev_call3 (x := R) (y := x) (z := t) (hR _ _ rfl e8) (hW _ _ rfl e8) (hT _ _ rfl) ⟨ht, hLx, by omega⟩ fun H1 H2 w' e1' e2' hp => ?_) ((e7.trans e8) _ _ hd5) hmem)) (by rw [Paired.length pr7]; have := rowTo_len (R := R) (L := L) (x := x) (i := t); omega) fun v' H9 e9 hv' => ?_
          · have hp' : rVec H2 w' (afterV R x t) := hp
            rw [after_eq_move hLx rfl ht] at hp'
            exact hp'
          · have t9 : Tp H9 (upd H9 rr (.lst (ur ++ [v']))) := Tp.updL ((e8.trans e9) _ _ hr7)
            refine ⟨Ex.mut ((e7.trans e8).trans e9) nr, ur ++ [v'], _, rfl, upd_same, ?_⟩
            rw [rowTo_succ, if_pos hc]
            exact p_app (monT ((Ex.tp (e8.trans e9)).trans t9) pr7) (.cons (Mon.mon t9 hv') .nil)
        · intro hc H8 e8
          refine ⟨e7.trans e8, ur, _, rfl, e8 _ _ hr7, ?_⟩
          rw [rowTo_succ, if_neg (by rw [hc]; simp), List.append_nil]
          exact mons e8 pr7
      · rintro σ' H7 ⟨e7, ur, d', rfl, hr7, pr7⟩
        refine r_appN (e7 _ _ hll5) (ev_v (i := 4) rfl) (P := fun w' _ => w' = .ref rr) (ev_v (i := 6) rfl) (by rw [hrs]; omega) fun v' H8 e8 ev => ?_
        subst ev
        have hll8 := (e7.trans e8) _ _ hll5
        refine ⟨Ex.mut ((e5.trans e7).trans e8) nlH, by rw [upd_ne ndl]; exact (e7.trans e8) _ _ hd5, rs ++ [.ref rr], _, _, _, _, rfl, upd_same, ?_⟩
        rw [List.take_add_one, hx, List.map_append]
        refine p_app (Paired.mapP (mons (e7.trans e8) pr5) fun _ _ q => rNb_upd hll8 q) (.cons (rNb_upd hll8 ⟨fun z => nrl (V.ref.inj z).symm, rr, ur, rfl, e8 _ _ hr7, mons e8 pr7⟩) .nil)
    · rintro σ' H5 ⟨e5, hd5, rs, a, b, c, d, rfl, hll5, pr5⟩
      rw [hlen, List.take_length] at pr5
      refine r_ret (ed_var (r := rLinks) (x := linksV R L) rfl ⟨ll, rs, rfl, hll5, Paired.mapP pr5 fun _ _ q => q.2⟩) fun w H6 e6 p => k w H6 (e5.trans e6) p
end
end M
/-! ## Q3 -/
/-! The steps to a goal: lists of lists that change; loops over lists. -/
namespace M
open PySem L2 Evl PyProof.Rows
section
variable {K : PySem.W.Frag} {σ : L2.St} {H H' : Hp} {ta tb te tx tl td tk : TE} {P : V → Hp → Prop} {α β : Type} {r : Rp α} {s : Rp β} {D : Ends} {tz tu : TS} {g : TG}
theorem r_forGL {xs : List α} (h : Ed tl σ H (rL r) xs) (k : ∀ H1 a us, Ex H H1 → H1 a = some (.lst us) → Paired (r H1) us xs → ∃ Pv : Nat → L2.St → Hp → Prop, Pv 0 σ H1 ∧ (∀ i σ' H', Pv i σ' H' → H' a = some (.lst us)) ∧
    (∀ (i : Nat) (v : V) σ' H', us[i]? = some v → Pv i σ' H' → g v σ' H' fun σ2 H2 => tu { D with nx := Pv (i + 1), ct := Pv (i + 1), bk := D.nx } σ2 H2) ∧ (∀ σ' H', Pv xs.length σ' H' → D.nx σ' H')) : tFor (iList K tl) g tu D σ H :=
  h.run fun v H1 e ⟨a, us, ev, hv, pr⟩ => ⟨a, ev, ⟨us, SqL.of hv⟩, by
    obtain ⟨Pv, h0, hl, hs, hd⟩ := k H1 a us e hv pr
    have hlen := Paired.length pr
    exact for_list (xs := us) Pv h0 (fun i σ' H' hi p => SqL.of (hl i σ' H' p)) (fun i w σ' H' hi p => hs i w σ' H' hi p) (fun σ' H' p => hd σ' H' (by rwa [hlen] at p))⟩
theorem g_pair {i j : Nat} {v : V} {p : α × β} {Q : L2.St → Hp → Prop} (h : rP r s H v p) (k : ∀ v1 v2, r H v1 p.1 → s H v2 p.2 → Q ((σ.set i (some v1)).set j (some v2)) H) : gTup K 2 (gCons (gName i) (gCons (gName j) gNil)) v σ H Q := by
  obtain ⟨a, v1, v2, rfl, ha, h1, h2⟩ := h
  exact ⟨a, [v1, v2], rfl, SqT.of ha, rfl, v1, [v2], rfl, v2, [], rfl, rfl, k v1 v2 h1 h2⟩
theorem r_setLN {l : Addr} {xs : List V} {j : Nat} (hl : H l = some (.lst xs)) (h : EvP te σ H P) (ho : EvP ta σ H fun w _ => w = .ref l) (hi : Ed tb σ H rI (j : Int)) (hj : j < xs.length)
    (k : ∀ v H0 H1, Ex H H0 → Ex H0 H1 → P v H0 → D.nx σ (upd H1 l (.lst (xs.set j v)))) : tAsg te (gSub ta tb rSetL) D σ H :=
  h.run fun v H1 e1 p => (ho.mono e1).run fun w H2 e2 p2 => (hi.mono (e1.trans e2)).run fun i H3 e3 p3 => ⟨l, xs, (j : Int), j, p2, p3, ((e1.trans e2).trans e3) _ _ hl, ixN_nat hj, k v H1 H3 e1 (e2.trans e3) p⟩
end
def natL (l : List Nat) : List V := l.map fun (n : Nat) => V.int (n : Int)
def stV : Option Nat → V
  | none => .non
  | some d => .int (d : Int)
theorem stV_rs {H : Hp} : ∀ (st : Steps), Paired (rO rN H) (st.map stV) st
  | [] => .nil
  | none :: st => .cons rfl (stV_rs st)
  | some d :: st => .cons rfl (stV_rs st)
theorem stV_eq {H : Hp} : ∀ {vs : List V} {st : Steps}, Paired (rO rN H) vs st → vs = st.map stV
  | _, _, .nil => rfl
  | _, none :: st, .cons h t => by rw [List.map_cons, ← stV_eq t]; cases (show _ = V.non from h); rfl
  | _, some d :: st, .cons h t => by rw [List.map_cons, ← stV_eq t]; cases (show _ = V.int (d : Int) from h); rfl
theorem natL_rs {H : Hp} (l : List Nat) : Paired (rN H) (natL l) l := nat_rs l
theorem natL_eq {H : Hp} : ∀ {vs : List V} {l : List Nat}, Paired (rN H) vs l → vs = natL l
  | _, _, .nil => rfl
  | _, d :: st, .cons h t => by
    show _ = _ :: natL st
    rw [← natL_eq t]; cases (show _ = V.int (d : Int) from h); rfl
/-- a list of lists, all new since H -/
structure Bk (H : Hp) (bk : Addr) (as : List Addr) (B : List (List Nat)) (H' : Hp) : Prop where
  fb : H bk = none
  fa : ∀ a ∈ as, H a = none
  ne : ∀ a ∈ as, a ≠ bk
  nd : as.Nodup
  len : as.length = B.length
  top : H' bk = some (.lst (as.map V.ref))
  at_ : ∀ (j : Nat) (a : Addr) (b : List Nat), as[j]? = some a → B[j]? = some b → H' a = some (.lst (natL b))
theorem Bk.ex {H H' H'' : Hp} {bk : Addr} {as : List Addr} {B : List (List Nat)} (b : Bk H bk as B H') (e : Ex H' H'') : Bk H bk as B H'' :=
  ⟨b.fb, b.fa, b.ne, b.nd, b.len, e _ _ b.top, fun j a l h1 h2 => e _ _ (b.at_ j a l h1 h2)⟩
theorem Bk.other {H H' : Hp} {bk c : Addr} {as : List Addr} {B : List (List Nat)} {o : HO} (b : Bk H bk as B H') (h1 : c ∉ as) (h2 : c ≠ bk) : Bk H bk as B (upd H' c o) :=
  ⟨b.fb, b.fa, b.ne, b.nd, b.len, by rw [upd_ne h2.symm]; exact b.top, fun j a l q1 q2 => by
    have : a ≠ c := fun e => h1 (by rw [← e]; exact List.mem_of_getElem? q1)
    rw [upd_ne this]; exact b.at_ j a l q1 q2⟩
theorem Bk.app {H H' : Hp} {bk a : Addr} {as : List Addr} {B : List (List Nat)} {j x : Nat} {l : List Nat} (b : Bk H bk as B H') (ha : as[j]? = some a) (hl : B[j]? = some l) : Bk H bk as (B.set j (l ++ [x])) (upd H' a (.lst (natL l ++ [.int (x : Int)]))) := by
  have ham := List.mem_of_getElem? ha
  have hj := (List.getElem?_eq_some_iff.mp hl).1
  refine ⟨b.fb, b.fa, b.ne, b.nd, by rw [List.length_set]; exact b.len, by rw [upd_ne (b.ne a ham).symm]; exact b.top, fun i c q q1 q2 => ?_⟩
  by_cases e : i = j
  · subst e
    rw [ha] at q1
    cases q1
    rw [List.getElem?_set_self hj] at q2
    cases q2
    rw [upd_same]
    unfold natL
    rw [List.map_append]
    rfl
  · have hca : c ≠ a := fun z => by
      subst z
      obtain ⟨a1, b1⟩ := List.getElem?_eq_some_iff.mp q1
      obtain ⟨a2, b2⟩ := List.getElem?_eq_some_iff.mp ha
      exact e ((List.getElem_inj b.nd).mp (b1.trans b2.symm))
    rw [List.getElem?_set_ne (fun z => e z.symm)] at q2
    rw [upd_ne hca]
    exact b.at_ i c q q1 q2
theorem Bk.get {H H' : Hp} {bk : Addr} {as : List Addr} {B : List (List Nat)} (b : Bk H bk as B H') {j : Nat} (hj : j < B.length) : ∃ a, as[j]? = some a ∧ B[j]? = some (B.getD j []) ∧ H' a = some (.lst (natL (B.getD j []))) := by
  have h1 : B[j]? = some (B.getD j []) := by rw [List.getD_eq_getElem?_getD, List.getElem?_eq_getElem hj]; rfl
  have h2 : as[j]? = some (as[j]'(by rw [b.len]; exact hj)) := List.getElem?_eq_getElem _
  exact ⟨_, h2, h1, b.at_ j _ _ h2 h1⟩
section
variable {K : PySem.W.Frag} {σ : L2.St} {H H' : Hp} {ta tb te tx tl td tk : TE} {α : Type} {r : Rp α}
theorem turn_yes {dl : Addr} {Inv : Hp → Prop} (h : te σ H fun y H4 => ∃ acc, H4 dl = some (.lst acc) ∧ acc.length < sizeLine ∧ Inv (upd H4 dl (.lst (acc ++ [y])))) :
    tYes σ H (fun b H3 => if b = true then te σ H3 fun y H4 => ∃ acc, H4 dl = some (.lst acc) ∧ acc.length < sizeLine ∧ Inv (upd H4 dl (.lst (acc ++ [y]))) else Inv H3) := by
  show (if true = true then (te σ H fun y H4 => ∃ acc, H4 dl = some (.lst acc) ∧ acc.length < sizeLine ∧ Inv (upd H4 dl (.lst (acc ++ [y])))) else Inv H)
  rw [if_pos rfl]
  exact h
/-- [[] for row in links] -/
theorem ev_lists {xs : List α} {j : Nat} {vs : List Nat} (ha : Ed tl σ H (rL r) xs) (hz : xs.length ≤ 40000) (hw : ∀ x, wipe (wp' σ j x vs) vs = wipe σ vs) :
    EvP (tLc (iList K tl) (gName j) tYes (tLst tNil) vs) σ H (fun v H' => ∃ bk as, v = .ref bk ∧ Bk H bk as (xs.map fun _ => []) H') := fun H0 e Q q => ha H0 e _ fun v0 H1 e1 ⟨a, us, ev, hv, pr⟩ => ⟨a, ev, ⟨us, SqL.of hv⟩, fun D hD => by
  have hlen := Paired.length pr
  have hDH : H D = none := fresh_back (e.trans e1) hD
  refine lc_list (xs := us) (fun i H' => Ex H1 H' ∧ ∃ as, Bk H D as ((xs.take i).map fun _ => []) H') ⟨Ex.new hD, [], ?_⟩ (fun i H' _ p => SqL.of (p.1 _ _ hv)) (fun i w H' hi p => ?_) (fun H' p => ?_)
  · rw [List.take_zero]
    refine ⟨hDH, fun a h => ?_, fun a h => ?_, by simp, rfl, upd_same, fun j a b h => by simp at h⟩
    · cases h
    · cases h
  · obtain ⟨e2, as, b⟩ := p
    have hil := (List.getElem?_eq_some_iff.mp hi).1
    have hle : as.length = i := by rw [b.len, List.length_map, List.length_take]; omega
    refine ⟨hw w, ?_⟩
    refine turn_yes (Inv := fun H' => Ex H1 H' ∧ ∃ as, Bk H D as ((xs.take (i + 1)).map fun _ => []) H') ?_
    refine ⟨Nat.zero_le _, fun c nc => ?_⟩
    have hcD : D ≠ c := ne_of_none b.top nc
    have hca : c ∉ as := fun hm => by
      obtain ⟨i', hi'⟩ := List.getElem?_of_mem hm
      have hlt := (List.getElem?_eq_some_iff.mp hi').1
      obtain ⟨a', q1, q2, q3⟩ := b.get (j := i') (by rw [← b.len]; exact hlt)
      rw [hi'] at q1
      cases q1
      rw [nc] at q3
      cases q3
    have b2 := b.other (o := .lst []) hca hcD.symm
    refine ⟨as.map V.ref, b2.top, sz_lt (by rw [List.length_map]; omega), Ex.mut (e2.trans (Ex.new nc)) hD, as ++ [c], ?_⟩
    have b3 : Bk H D as ((xs.take i).map fun _ => []) (upd (upd H' c (.lst [])) D (.lst (as.map V.ref ++ [.ref c]))) → True := fun _ => trivial
    have ht : (xs.take (i + 1)).map (fun _ => ([] : List Nat)) = (xs.take i).map (fun _ => []) ++ [[]] := by
      have hx : xs[i]? = some (xs[i]'(by omega)) := List.getElem?_eq_getElem _
      rw [List.take_add_one, hx, List.map_append]
      rfl
    rw [ht]
    refine ⟨hDH, fun x hx => ?_, fun x hx => ?_, ?_, ?_, ?_, fun j x l q1 q2 => ?_⟩
    · rcases List.mem_append.mp hx with q | q
      · exact b.fa x q
      · rw [List.mem_singleton.mp q]; exact fresh_back ((e.trans e1).trans e2) nc
    · rcases List.mem_append.mp hx with q | q
      · exact b.ne x q
      · rw [List.mem_singleton.mp q]; exact hcD.symm
    · rw [List.nodup_append]
      exact ⟨b.nd, by simp, fun x hx y hy q => hca (by rw [List.mem_singleton.mp hy] at q; rw [← q]; exact hx)⟩
    · rw [List.length_append, List.length_append, b.len]; rfl
    · rw [upd_same, List.map_append]; rfl
    · by_cases hj : j < as.length
      · rw [List.getElem?_append_left hj] at q1
        rw [List.getElem?_append_left (by rw [← b.len]; exact hj)] at q2
        have := b2.at_ j x l q1 q2
        rw [upd_ne (b.ne x (List.mem_of_getElem? q1))]
        exact this
      · rw [List.getElem?_append_right (by omega)] at q1
        rw [List.getElem?_append_right (by rw [← b.len]; omega), ← b.len] at q2
        cases hq : j - as.length with
        | zero =>
          rw [hq] at q1 q2
          cases q1; cases q2
          rw [upd_ne hcD.symm, upd_same]
          rfl
        | succ z => rw [hq] at q1; simp at q1
  · obtain ⟨e2, as, b⟩ := p
    rw [hlen, List.take_length] at b
    exact q _ H' (e1.trans e2) ⟨D, as, rfl, b⟩⟩
end
end M
/-! ## Q4 -/
/-! The steps to a goal, in the law. -/
namespace M
open PySem L2 Evl PyProof.Rows
/-- links with few in a row -/
structure LkFit (LS : Links) (g : Nat) : Prop where
  ok : LkOk LS
  goal : g < LS.length
  many : LS.length ≤ 4000
  row : ∀ i, (LS.getD i []).length ≤ 8
/-- what is in the lists behind while row i is read, q of its links done -/
def BkTo (LS : Links) (i q : Nat) (B : List (List Nat)) : Prop := B.length = LS.length ∧ (∀ j, (B.getD j []).length ≤ 8 * i + q) ∧
  ∀ j a, a ∈ B.getD j [] ↔ (a < i ∧ ∃ t, (t, j) ∈ LS.getD a []) ∨ (a = i ∧ ∃ t, (t, j) ∈ (LS.getD i []).take q)
theorem BkTo.zero {LS : Links} : BkTo LS 0 0 (LS.map fun _ => []) := by
  have h0 : ∀ j, (LS.map fun _ => ([] : List Nat)).getD j [] = [] := fun j => by
    rw [List.getD_eq_getElem?_getD, List.getElem?_map]
    cases LS[j]? <;> rfl
  refine ⟨List.length_map _, fun j => by rw [h0]; simp, fun j a => ?_⟩
  rw [h0]
  constructor
  · intro h; cases h
  · rintro (⟨h, _⟩ | ⟨_, t, h⟩)
    · omega
    · rw [List.take_zero] at h; cases h
theorem getD_set {β : Type} {l : List β} {j k : Nat} {x d : β} (hj : j < l.length) : (l.set j x).getD k d = if k = j then x else l.getD k d := by
  rw [List.getD_eq_getElem?_getD, List.getD_eq_getElem?_getD]
  by_cases e : k = j
  · subst e; rw [List.getElem?_set_self hj, if_pos rfl]; rfl
  · rw [List.getElem?_set_ne (fun z => e z.symm), if_neg e]
theorem BkTo.step {LS : Links} {i q t j : Nat} {B : List (List Nat)} (h : BkTo LS i q B) (hp : (LS.getD i [])[q]? = some (t, j)) (hj : j < LS.length) : BkTo LS i (q + 1) (B.set j (B.getD j [] ++ [i])) := by
  obtain ⟨h1, h2, h3⟩ := h
  have hjB : j < B.length := by rw [h1]; exact hj
  refine ⟨by rw [List.length_set]; exact h1, fun k => ?_, fun k a => ?_⟩
  · rw [getD_set hjB]
    by_cases e : k = j
    · rw [if_pos e, List.length_append, List.length_singleton]; have := h2 j; omega
    · rw [if_neg e]; have := h2 k; omega
  · rw [getD_set hjB, List.take_add_one, hp]
    by_cases e : k = j
    · subst e
      rw [if_pos rfl, List.mem_append, h3 k a, List.mem_singleton]
      constructor
      · rintro ((⟨q1, q2⟩ | ⟨q1, t', q2⟩) | q1)
        · exact .inl ⟨q1, q2⟩
        · exact .inr ⟨q1, t', List.mem_append_left _ q2⟩
        · exact .inr ⟨q1, t, List.mem_append_right _ (by simp)⟩
      · rintro (⟨q1, q2⟩ | ⟨q1, t', q2⟩)
        · exact .inl (.inl ⟨q1, q2⟩)
        · rcases List.mem_append.mp q2 with q3 | q3
          · exact .inl (.inr ⟨q1, t', q3⟩)
          · exact .inr q1
    · rw [if_neg e, h3 k a]
      constructor
      · rintro (⟨q1, q2⟩ | ⟨q1, t', q2⟩)
        · exact .inl ⟨q1, q2⟩
        · exact .inr ⟨q1, t', List.mem_append_left _ q2⟩
      · rintro (⟨q1, q2⟩ | ⟨q1, t', q2⟩)
        · exact .inl ⟨q1, q2⟩
        · rcases List.mem_append.mp q2 with q3 | q3
          · exact .inr ⟨q1, t', q3⟩
          · have : (t', k) = (t, j) := by simpa using q3
            exact (e (Prod.mk.inj this).2).elim
theorem BkTo.row {LS : Links} {i : Nat} {B : List (List Nat)} (h : BkTo LS i (LS.getD i []).length B) (hr : (LS.getD i []).length ≤ 8) : BkTo LS (i + 1) 0 B := by
  obtain ⟨h1, h2, h3⟩ := h
  refine ⟨h1, fun j => by have := h2 j; omega, fun j a => ?_⟩
  rw [h3 j a, List.take_length, List.take_zero]
  constructor
  · rintro (⟨q1, q2⟩ | ⟨q1, t', q2⟩)
    · exact .inl ⟨by omega, q2⟩
    · exact .inl ⟨by omega, t', by rw [q1]; exact q2⟩
  · rintro (⟨q1, t', q2⟩ | ⟨q1, t', q2⟩)
    · by_cases e : a = i
      · subst e; exact .inr ⟨rfl, t', q2⟩
      · exact .inl ⟨by omega, t', q2⟩
    · cases q2
theorem BkTo.ok {LS : Links} {B : List (List Nat)} (h : BkTo LS LS.length 0 B) : BkOk LS B := by
  obtain ⟨h1, h2, h3⟩ := h
  refine ⟨h1, fun j a hj => ?_⟩
  rw [h3 j a, mem_preL]
  constructor
  · rintro (⟨q1, q2⟩ | ⟨q1, t', q2⟩)
    · exact ⟨q1, q2⟩
    · rw [List.take_zero] at q2; cases q2
  · exact fun q => .inl q
abbrev rSteps : Rp Steps := rL (rO rN)
def sp__law_steps_to : Sp := fun vs H Q _ => ∃ v1 gl LS g, vs = [v1, .ref gl] ∧ rLinks H v1 LS ∧ H gl = some (.lst [.int ((g : Nat) : Int)]) ∧ LkFit LS g ∧ ∀ w H' st, Ex H H' → rSteps H' w st → StOk LS g st → Q w H'
/-! _law_steps_to: slots links 0, goals 1, back 2, at 3, t 4, there 5, steps 6, waiting 7, k 8, row 9 -/
def N__law_steps_to : List Str := ["links", "goals", "back", "at", "t", "there", "steps", "waiting", "k", "row"]
def t__law_steps_to (K : PySem.W.Frag) : TS :=
  (tSeq (tAsg (tLc (iList K (tVar 0)) (gName 9) tYes (tLst tNil) [9]) (gName 2))
  (tSeq (tFor (iRng1 (tCons (tCB (rLenS K) (tCons (tVar 0) tNil)) tNil)) (gName 3) (tFor (iList K (tOp (rIxL K) (tVar 0) (tVar 3))) (gTup K 2 (gCons (gName 4) (gCons (gName 5) gNil))) (tDrop (tBM K "list" rAppend (tOp (rIxL K) (tVar 2) (tVar 5)) (tCons (tVar 3) tNil)))))
  (tSeq (tAsg (tLc (iList K (tVar 0)) (gName 9) tYes (tC .non) [9]) (gName 6))
  (tSeq (tAsg (tCB (rListS K) (tCons (tVar 1) tNil)) (gName 7))
  (tSeq (tFor (iList K (tVar 1)) (gName 3) (tAsg (tC (.int 0)) (gSub (tVar 6) (tVar 3) rSetL)))
  (tSeq (tAsg (tC (.int 0)) (gName 8))
  (tSeq (tWhile (tTest (tOp oLt (tVar 8) (tCB (rLenS K) (tCons (tVar 7) tNil)))) (tSeq (tFor (iList K (tOp (rIxL K) (tVar 2) (tOp (rIxL K) (tVar 7) (tVar 8)))) (gName 5) (tIfS (tTest (tOp rIsN (tOp (rIxL K) (tVar 6) (tVar 5)) (tC .non))) (tSeq (tAsg (tOp oAdd (tOp (rIxL K) (tVar 6) (tOp (rIxL K) (tVar 7) (tVar 8))) (tC (.int 1))) (gSub (tVar 6) (tVar 5) rSetL))
  (tDrop (tBM K "list" rAppend (tVar 7) (tCons (tVar 5) tNil)))) tNext))
  (tAug 8 (tC (.int 1)) (ipI fun i j => i + j))))
  (tRet (tVar 6)))))))))
/-- the search from behind, in the heap -/
structure BackSt (H : Hp) (bk wl sl : Addr) (as : List Addr) (B : List (List Nat)) (n g k : Nat) (H' : Hp) : Prop where
  ex : Ex H H'
  bk : Bk H bk as B H'
  it : ∃ L lv st, H' wl = some (.lst (natL L)) ∧ H' sl = some (.lst (st.map stV)) ∧ Bst (fun j => B.getD j []) g k L lv ∧ Lv n L lv st
/-- the same within the row of x at k, i of it done -/
structure BackRow (H : Hp) (bk wl sl : Addr) (as : List Addr) (B : List (List Nat)) (n g k x e i : Nat) (L lv : List Nat) (H' : Hp) : Prop where
  ex : Ex H H'
  bk : Bk H bk as B H'
  it : ∃ M mv st, H' wl = some (.lst (natL (L ++ M))) ∧ H' sl = some (.lst (st.map stV)) ∧ Brow (fun j => B.getD j []) g k e (L ++ M) (lv ++ mv) ∧ Lv n (L ++ M) (lv ++ mv) st ∧ ∀ y ∈ (B.getD x []).take i, y ∈ L ++ M
theorem natL_get {l : List Nat} {i x : Nat} (h : l[i]? = some x) : (natL l)[i]? = some (.int (x : Int)) := by
  unfold natL
  rw [List.getElem?_map, h]
  rfl
theorem natL_app {l : List Nat} {y : Nat} : natL (l ++ [y]) = natL l ++ [.int (y : Int)] := by
  unfold natL
  rw [List.map_append]
  rfl
theorem natL_inv {l : List Nat} {i : Nat} {v : V} (h : (natL l)[i]? = some v) : ∃ x, l[i]? = some x ∧ v = .int (x : Int) := by
  unfold natL at h
  rw [List.getElem?_map] at h
  cases e : l[i]? with
  | none => rw [e] at h; cases h
  | some x => rw [e] at h; exact ⟨x, rfl, (Option.some.inj h).symm⟩
theorem nodup_lt {n : Nat} {L : List Nat} (h : L.Nodup) (hl : ∀ i ∈ L, i < n) : L.length ≤ n := by
  have := nodup_sub (L := List.range n) h fun x hx => List.mem_range.mpr (hl x hx)
  rwa [List.length_range] at this
theorem Lv.isNone {n : Nat} {L lv : List Nat} {st : Steps} (h : Lv n L lv st) (hl : lv.length = L.length) {y : Nat} (hy : y < n) : ∃ o, st[y]? = some o ∧ (o = none ↔ y ∉ L) := by
  by_cases hm : y ∈ L
  · obtain ⟨p, hp⟩ := List.getElem?_of_mem hm
    have hlt := (List.getElem?_eq_some_iff.mp hp).1
    have := h.at_ p y _ hp (List.getElem?_eq_getElem (by rw [hl]; exact hlt))
    exact ⟨_, this, by simp [hm]⟩
  · exact ⟨none, h.no y hy hm, by simp [hm]⟩
theorem stV_get {st : Steps} {i : Nat} {o : Option Nat} (h : st[i]? = some o) : (st.map stV)[i]? = some (stV o) := by rw [List.getElem?_map, h]; rfl
section
variable {K : PySem.W.Frag} {vs : List V} {H : Hp} {Q : VK} {E : XK}
theorem r_forGA {σ : L2.St} {tl : TE} {g : TG} {tu : TS} {D : Ends} {a : Addr} {us : List V} (h : EvP tl σ H fun w _ => w = .ref a) (hx : H a = some (.lst us)) (Pv : Nat → L2.St → Hp → Prop) (h0 : ∀ H1, Ex H H1 → Pv 0 σ H1) (hl : ∀ i σ' H', Pv i σ' H' → H' a = some (.lst us))
    (hs : ∀ (i : Nat) (v : V) σ' H', us[i]? = some v → Pv i σ' H' → g v σ' H' fun σ2 H2 => tu { D with nx := Pv (i + 1), ct := Pv (i + 1), bk := D.nx } σ2 H2) (hd : ∀ σ' H', Pv us.length σ' H' → D.nx σ' H') : tFor (iList K tl) g tu D σ H :=
  h.run fun v H1 e ev => ⟨a, ev, ⟨us, SqL.of (e _ _ hx)⟩, for_list (xs := us) Pv (h0 H1 e) (fun i σ' H' _ p => SqL.of (hl i σ' H' p)) (fun i w σ' H' hi p => hs i w σ' H' hi p) hd⟩
theorem pure__law_steps_to (h : sp__law_steps_to vs H Q E) : t__law_steps_to K { nx := fun _ H' => Q .non H', rt := Q } (start N__law_steps_to vs) H := by
  obtain ⟨v1, gl, LS, g, rfl, r1, hgl, ⟨f1, f2, f3, f4⟩, k⟩ := h
  have hLS : ∀ (l' : L2.St) H', l'[0]? = some (some v1) → Ex H H' → Ed (tVar 0) l' H' rLinks LS := fun l' H' h e => ed_var h (mon e r1)
  refine r_asg (ev_lists (hLS _ _ rfl (Ex.refl _)) (by omega) (fun _ => rfl)) fun v H1 e1 ⟨bk, as, ev, b1⟩ => ?_
  subst ev
  have vBk : ∀ (l' : L2.St) H', l'[2]? = some (some (.ref bk)) → EvP (tVar 2) l' H' fun w _ => w = .ref bk := fun l' H' h => ev_v h
  -- the lists behind
  refine r_forN (n := LS.length) (ed_lenL (hLS _ _ rfl e1)) (by omega) (fun i σ' H' => Ex H H' ∧ ∃ B a b c, Bk H bk as B H' ∧ BkTo LS i 0 B ∧ σ' = [some v1, some (.ref gl), some (.ref bk), a, b, c, none, none, none, none])
    (fun H2 e2 => ⟨e1.trans e2, _, none, none, none, b1.ex e2, BkTo.zero, rfl⟩) ?_ ?_
  · rintro i σ' H2 hi ⟨e2, B, a, b, c, hB, hT, rfl⟩
    have hx : LS[i]? = some (LS.getD i []) := by rw [List.getD_eq_getElem?_getD, List.getElem?_eq_getElem hi]; rfl
    obtain ⟨lk, rws, elk, hlk, prk⟩ := id r1
    obtain ⟨wr, hwr, ra, us, rfl, hra, pra⟩ := p_get prk hx
    have hlen := Paired.length pra
    refine r_forGA (a := ra) (us := us) (EvP.imp (ed_ixL (r := rV) (xs := rws) (k := i) (y := .ref ra) (ed_var (r := rL rV) (x := rws) rfl ⟨lk, rws, elk, e2 _ _ hlk, rv_refl _⟩) (ed_var (r := rI) (x := (i : Int)) rfl rfl) hwr) fun _ _ _ q => q) (e2 _ _ hra) (fun q σ' H' => Ex H H' ∧ Tp H H' ∧ H' ra = some (.lst us) ∧ ∃ B b c, Bk H bk as B H' ∧ BkTo LS i q B ∧ σ' = [some v1, some (.ref gl), some (.ref bk), some (.int i), b, c, none, none, none, none]) (fun H3 e3 => ⟨e2.trans e3, Ex.tp (e2.trans e3), (e2.trans e3) _ _ hra, B, _, _, hB.ex e3, hT, rfl⟩) (fun q σ' H' p => p.2.2.1) ?_ ?_
    · rintro q v σ' H4 hv ⟨e4, tp4, hra4, B', b', c', hB', hT', rfl⟩
      obtain ⟨p, hp, rp⟩ := p_get' pra hv
      obtain ⟨t, j⟩ := p
      have hj : j < LS.length := f1 i _ (List.mem_of_getElem? hp)
      obtain ⟨a, ha, hb, hla⟩ := hB'.get (j := j) (by rw [hT'.1]; exact hj)
      refine g_pair (Mon.mon tp4 rp) fun w1 w2 hw1 hw2 => ?_
      cases hw2
      have hne : a ≠ ra := fun z => by
        have := hB'.fa a (List.mem_of_getElem? ha)
        rw [z, hra] at this
        cases this
      refine r_appN hla (P := fun w' _ => w' = .int (i : Int)) (EvP.imp (ed_ixL (r := rV) (xs := as.map V.ref) (k := j) (y := .ref a) (ed_var rfl ⟨bk, _, rfl, hB'.top, rv_refl _⟩) (ed_var (r := rI) (x := (j : Int)) rfl rfl) (by rw [List.getElem?_map, ha]; rfl)) fun _ _ _ q => q) (ev_v rfl) ?_ fun v' H5 e5 ev => ?_
      · unfold natL
        rw [List.length_map]
        have := hT'.2.1 j
        have := (List.getElem?_eq_some_iff.mp hp).1
        have := f4 i
        omega
      · subst ev
        have hB5 := (hB'.ex e5).app (x := i) ha hb
        refine ⟨Ex.mut (e4.trans e5) (hB'.fa a (List.mem_of_getElem? ha)), (tp4.trans (Ex.tp e5)).trans (Tp.updL (e5 _ _ hla)), by rw [upd_ne hne.symm]; exact e5 _ _ hra4, _, _, _, hB5, hT'.step hp hj, rfl⟩
    · rintro σ' H4 ⟨e4, tp4, hra4, B', b', c', hB', hT', rfl⟩
      rw [hlen] at hT'
      exact ⟨e4, B', _, _, _, hB', hT'.row (f4 i), rfl⟩
  · rintro σ' H2 ⟨e2, B, a, b, c, hB, hT, rfl⟩
    have hOk := hT.ok
    -- the steps, the ones that wait
    refine r_asg (el_mapL (r := rO rN) (s := rRow) (fun _ => none) (hLS _ _ rfl e2) (by omega) (fun _ => rfl) fun i x v H3 e3 hx rx => ed_non rfl) fun v H3 e3 ⟨sl, vs0, ev, nsl, hsl, prs⟩ => ?_
    subst ev
    refine r_asg (el_listL (r := rN) (xs := [g]) (ed_var rfl ⟨gl, _, rfl, (e2.trans e3) _ _ hgl, .cons rfl .nil⟩)) fun v H4 e4 ⟨wl, ws0, ev, nwl, hwl, prw⟩ => ?_
    subst ev
    have nslH := fresh_back e2 nsl
    have nwlH := fresh_back (e2.trans e3) nwl
    have nsw : sl ≠ wl := ne_of_none hsl nwl
    have hvs0 := stV_eq prs
    have hws0 := natL_eq prw
    subst hvs0 hws0
    have hB4 := hB.ex (e3.trans e4)
    have nsb : ∀ {H5 : Hp} {c : Addr}, Bk H bk as B H5 → H5 c = none → c ∉ as ∧ c ≠ bk := fun {H5 c} hb hc => by
      refine ⟨fun hm => ?_, (ne_of_none hb.top hc).symm⟩
      obtain ⟨i', hi'⟩ := List.getElem?_of_mem hm
      have hlt := (List.getElem?_eq_some_iff.mp hi').1
      obtain ⟨a', q1, q2, q3⟩ := hb.get (j := i') (by rw [← hb.len]; exact hlt)
      rw [hi'] at q1
      cases q1
      rw [hc] at q3
      cases q3
    obtain ⟨nsa, nsk⟩ := nsb hB nsl
    obtain ⟨nwa, nwk⟩ := nsb (hB.ex e3) nwl
    refine r_forLa (us := [.int (g : Int)]) (ev_v (i := 1) rfl) (((e2.trans e3).trans e4) _ _ hgl) (fun i σ' H' => Ex H H' ∧ Bk H bk as B H' ∧ H' wl = some (.lst (natL [g])) ∧ ∃ a b c, H' sl = some (.lst ((if i = 0 then LS.map (fun _ => none) else (List.replicate LS.length none).set g (some 0)).map stV)) ∧
      σ' = [some v1, some (.ref gl), some (.ref bk), a, b, c, some (.ref sl), some (.ref wl), none, none])
      (fun H5 e5 => ⟨((e2.trans e3).trans e4).trans e5, hB4.ex e5, e5 _ _ hwl, _, _, _, (e4.trans e5) _ _ hsl, rfl⟩) (fun i σ' H' p => p.1 _ _ hgl) ?_ ?_
    · rintro i v σ' H5 hi ⟨e5, hB5, hwl5, a, b, c, hsl5, rfl⟩
      cases i with
      | succ i => simp at hi
      | zero =>
        cases hi
        rw [if_pos rfl] at hsl5
        refine r_setLN (l := sl) (j := g) hsl5 (ed_int (n := 0)) (ev_v (i := 6) rfl) (ed_var (r := rI) (x := (g : Int)) rfl rfl) (by rw [List.length_map, List.length_map]; exact f2) fun v' H6 H7 e6 e7 ev => ?_
        cases ev
        refine ⟨Ex.mut ((e5.trans e6).trans e7) nslH, (hB5.ex (e6.trans e7)).other nsa nsk, by rw [upd_ne nsw.symm]; exact (e6.trans e7) _ _ hwl5, _, _, _, ?_, rfl⟩
        rw [upd_same, if_neg (by omega), List.map_set]
        congr 3
        apply List.ext_getElem?
        intro z
        rw [List.getElem?_map, List.getElem?_map, List.getElem?_map, List.getElem?_replicate]
        by_cases hz : z < LS.length
        · rw [if_pos hz, List.getElem?_eq_getElem hz]; rfl
        · rw [if_neg hz, List.getElem?_eq_none (by omega)]; rfl
    · rintro σ' H5 ⟨e5, hB5, hwl5, a, b, c, hsl5, rfl⟩
      have hsl5' : H5 sl = some (.lst (((List.replicate LS.length none).set g (some 0)).map stV)) := hsl5
      refine r_asg (ed_int (n := 0)) fun w0 H6 e6 rw0 => ?_
      cases rw0
      refine r_while (fun m σ' H' => ∃ (i : Nat) (a b c d : Option V), i ≤ LS.length ∧ m = LS.length - i ∧ BackSt H bk wl sl as B LS.length g i H' ∧ σ' = [some v1, some (.ref gl), some (.ref bk), a, b, c, some (.ref sl), some (.ref wl), some (.int i), d]) LS.length
        ⟨0, _, _, _, _, Nat.zero_le _, rfl, ⟨e5.trans e6, hB5.ex e6, [g], [0], _, e6 _ _ hwl5, e6 _ _ hsl5', Bst.start _ g, Lv.start f2⟩, rfl⟩ ?_
      rintro m σ' H7 ⟨i, a, b, c, d, hi, rfl, ⟨e7, hB7, L, lv, st, hwl7, hsl7, hb7, hv7⟩, rfl⟩
      have hLn : L.length ≤ LS.length := nodup_lt hb7.nd hv7.lt
      have hW : ∀ (l' : L2.St) H' M, l'[7]? = some (some (.ref wl)) → H' wl = some (.lst (natL (L ++ M))) → Ed (tVar 7) l' H' (rL rN) (L ++ M) := fun l' H' M h hw => ed_var h ⟨wl, _, rfl, hw, natL_rs _⟩
      refine ⟨_, et_test' (ed_lt (ed_var (r := rI) (x := (i : Int)) rfl rfl) (ed_lenL (r := rN) (xs := L) (ed_var rfl ⟨wl, _, rfl, hwl7, natL_rs _⟩))), ?_, ?_⟩
      · intro hlt H8 e8
        have hil : i < L.length := by
          have := of_decide_eq_true hlt
          omega
        obtain ⟨x, hx⟩ : ∃ x, L[i]? = some x := ⟨_, List.getElem?_eq_getElem hil⟩
        obtain ⟨e, he⟩ : ∃ e, lv[i]? = some e := ⟨lv[i]'(by rw [hb7.len]; exact hil), List.getElem?_eq_getElem _⟩
        have hxn : x < LS.length := hv7.lt x (List.mem_of_getElem? hx)
        obtain ⟨ax, hax, hbx, hlx⟩ := hB7.get (j := x) (by rw [hOk.1]; exact hxn)
        have hwk := hb7.at_ i x e hx he
        have nax : ax ∈ as := List.mem_of_getElem? hax
        have naw : ax ≠ wl := fun z => nwa (by rw [← z]; exact nax)
        have nasl : ax ≠ sl := fun z => nsa (by rw [← z]; exact nax)
        refine ⟨fun σ' H' => ∃ (a b c d : Option V), BackSt H bk wl sl as B LS.length g (i + 1) H' ∧ σ' = [some v1, some (.ref gl), some (.ref bk), a, b, c, some (.ref sl), some (.ref wl), some (.int ((i : Int) + 1)), d], ?_, ?_⟩
        · rintro σ2 H2' ⟨a', b', c', d', q1, rfl⟩
          exact ⟨LS.length - (i + 1), by omega, i + 1, _, _, _, _, by omega, rfl, q1, rfl⟩
        · refine r_forLa (a := ax) (us := natL (B.getD x [])) (EvP.imp (ed_ixL (r := rV) (xs := as.map V.ref) (k := x) (y := .ref ax) (ed_var rfl ⟨bk, _, rfl, e8 _ _ hB7.top, rv_refl _⟩) (ed_ixL (r := rN) (xs := L) (k := i) (y := x) (ed_var rfl ⟨wl, _, rfl, e8 _ _ hwl7, natL_rs _⟩) (ed_var (r := rI) (x := (i : Int)) rfl rfl) hx) (by rw [List.getElem?_map, hax]; rfl)) fun _ _ _ q => q) (e8 _ _ hlx)
            (fun q σ' H' => ∃ (a b c d : Option V), BackRow H bk wl sl as B LS.length g i x e q L lv H' ∧ σ' = [some v1, some (.ref gl), some (.ref bk), a, b, c, some (.ref sl), some (.ref wl), some (.int (i : Int)), d]) ?_ ?_ ?_ ?_
          · intro H9 e9
            have e79 := e8.trans e9
            exact ⟨_, _, _, _, ⟨e7.trans e79, hB7.ex e79, [], [], st, by rw [List.append_nil]; exact e79 _ _ hwl7, e79 _ _ hsl7, by rw [List.append_nil, List.append_nil]; exact hb7.row he, by rw [List.append_nil, List.append_nil]; exact hv7, fun y hy => by rw [List.take_zero] at hy; cases hy⟩, rfl⟩
          · rintro q σ' H' ⟨a', b', c', d', q1, rfl⟩
            exact q1.bk.at_ x ax _ hax hbx
          · rintro q v σ' H9 hv ⟨a', b', c', d', ⟨e9, hB9, M, mv, st', hwl9, hsl9, hrow, hlv, hdone⟩, rfl⟩
            obtain ⟨y, hy, rfl⟩ := natL_inv hv
            have hym : y ∈ B.getD x [] := List.mem_of_getElem? hy
            have hyn : y < LS.length := (mem_preL.mp ((hOk.2 x y hxn).mp hym)).1
            obtain ⟨o, ho, hon⟩ := hlv.isNone hrow.len hyn
            have hxM : (L ++ M)[i]? = some x := getElem?_append_some hx
            have heM : (lv ++ mv)[i]? = some e := getElem?_append_some he
            have hse := hlv.at_ i x e hxM heM
            have hS : ∀ (l' : L2.St) H', l'[6]? = some (some (.ref sl)) → Ex H9 H' → Ed (tVar 6) l' H' (rL (rO rN)) st' := fun l' H' h e => ed_var h ⟨sl, _, rfl, e _ _ hsl9, stV_rs _⟩
            have hdone' : ∀ M', (∀ z ∈ L ++ M, z ∈ L ++ M') → y ∈ L ++ M' → ∀ z ∈ (B.getD x []).take (q + 1), z ∈ L ++ M' := fun M' hs hyM z hz => by
              rw [List.take_add_one, hy] at hz
              rcases List.mem_append.mp hz with h | h
              · exact hs z (hdone z h)
              · have : z = y := by simpa using h
                rw [this]; exact hyM
            refine r_ifN (et_test' (ed_isN (ed_ixL (hS _ _ rfl (Ex.refl _)) (ed_var (r := rI) (x := (y : Int)) rfl rfl) ho))) ?_ ?_
            · intro hb H10 e10
              have hno : y ∉ L ++ M := hon.mp (by simpa using hb)
              refine r_setL (l := sl) (j := y) (e10 _ _ hsl9) (P := fun w _ => w = .int ((e + 1 : Nat) : Int)) (ed_add (i := (e : Int)) (j := 1) (ed_ixL (r := rO rN) (hS _ _ rfl e10) (ed_ixL (r := rN) (hW _ _ M rfl (e10 _ _ hwl9)) (ed_var (r := rI) (x := (i : Int)) rfl rfl) hxM) hse) ed_int) (ev_v (i := 6) rfl) (ed_var (r := rI) (x := (y : Int)) rfl rfl) (by rw [List.length_map, hlv.len]; exact hyn) fun v' H11 H12 e11 e12 ev => ?_
              subst ev
              have e912 := (e10.trans e11).trans e12
              have hw12 : (upd H12 sl (.lst ((st'.map stV).set y (.int ((e + 1 : Nat) : Int))))) wl = some (.lst (natL (L ++ M))) := by rw [upd_ne nsw.symm]; exact e912 _ _ hwl9
              refine r_appN hw12 (ev_v (i := 7) rfl) (P := fun w' _ => w' = .int (y : Int)) (ev_v (i := 5) rfl) ?_ fun v' H13 e13 ev => ?_
              · have := nodup_lt hrow.nd hlv.lt
                unfold natL
                rw [List.length_map]
                omega
              · subst ev
                have hs12 : (upd H12 sl (.lst ((st'.map stV).set y (.int ((e + 1 : Nat) : Int))))) sl = some (.lst ((st'.set y (some (e + 1))).map stV)) := by rw [upd_same, List.map_set]; rfl
                have hB13 := ((hB9.ex e912).other (o := .lst ((st'.map stV).set y (.int ((e + 1 : Nat) : Int)))) nsa nsk).ex e13
                refine ⟨_, _, _, _, ⟨Ex.mut ((Ex.mut (e9.trans e912) nslH).trans e13) nwlH, hB13.other nwa nwk, M ++ [y], mv ++ [e + 1], _, ?_, by rw [upd_ne nsw]; exact e13 _ _ hs12, ?_, ?_, ?_⟩, rfl⟩
                · rw [upd_same, ← List.append_assoc, natL_app]
                · have := hrow.add hwk hno hym
                  rw [List.append_assoc, List.append_assoc] at this
                  exact this
                · have := hlv.add hrow.len (e := e + 1) hyn hno
                  rw [List.append_assoc, List.append_assoc] at this
                  exact this
                · refine hdone' _ (fun z hz => ?_) ?_
                  · rw [← List.append_assoc]; exact List.mem_append_left _ hz
                  · rw [← List.append_assoc]; exact List.mem_append_right _ (by simp)
            · intro hb H10 e10
              have hyes : y ∈ L ++ M := by
                by_cases h : y ∈ L ++ M
                · exact h
                · rw [hon.mpr h] at hb; cases hb
              exact ⟨_, _, _, _, ⟨e9.trans e10, hB9.ex e10, M, mv, st', e10 _ _ hwl9, e10 _ _ hsl9, hrow, hlv, hdone' M (fun z hz => hz) hyes⟩, rfl⟩
          · rintro σ' H9 ⟨a', b', c', d', ⟨e9, hB9, M, mv, st', hwl9, hsl9, hrow, hlv, hdone⟩, rfl⟩
            refine r_augN rfl (ed_int (n := 1)) fun H10 e10 => ?_
            refine ⟨_, _, _, _, ⟨e9.trans e10, hB9.ex e10, L ++ M, lv ++ mv, st', e10 _ _ hwl9, e10 _ _ hsl9, hb7.fin hx he hrow fun y hy => hdone y ?_, hlv⟩, rfl⟩
            have hl : (natL (B.getD x [])).length = (B.getD x []).length := List.length_map _
            rw [hl, List.take_length]
            exact hy
      · intro hlt H8 e8
        have hil : L.length ≤ i := by
          have := of_decide_eq_false hlt
          omega
        have hik : i = L.length := Nat.le_antisymm hb7.kl hil
        subst hik
        exact r_ret (ed_var (r := rSteps) (x := st) rfl ⟨sl, _, rfl, e8 _ _ hsl7, stV_rs _⟩) fun w H9 e9 p => k w H9 st ((e7.trans e8).trans e9) p (st_end hOk f2 hb7 hv7)
end
end M
/-! ## Q5 -/
/-! The best run, in the law. -/
namespace M
open PySem L2 Evl PyProof.Rows
section
variable {K : PySem.W.Frag} {σ : L2.St} {H H' : Hp} {ta tb te tx tl td tk : TE}
theorem ed_index {xs : List Int} {y : Int} (ha : Ed ta σ H (rL rI) xs) (hb : Ed tb σ H rI y) (hy : y ∈ xs) : Ed (tBM K "list" (rIndex K) ta (tCons tb tNil)) σ H rN (xs.idxOf y) := fun H1 e Q q =>
  ha H1 e _ fun v H2 e2 ⟨a, vs, ev, hv, pr⟩ => by
    subst ev
    have hvs := rs_int pr
    subst hvs
    refine ⟨Or.inl ⟨rfl, _, SqL.of hv⟩, hb H2 (e.trans e2) _ fun w H3 e3 p => ?_⟩
    cases p
    have hl := List.idxOf_lt_length_of_mem hy
    refine ⟨a, _, .int y, xs.idxOf y, .int y, rfl, rfl, SqL.of (e3 _ _ hv), rfl, ?_, ?_, ?_, fun m z' hm hz => ?_, q _ H3 (e2.trans e3) rfl⟩
    · rw [List.all_map]; exact List.all_eq_true.mpr fun _ _ => rfl
    · rw [List.getElem?_map, List.getElem?_eq_getElem hl, List.getElem_idxOf]; rfl
    · show (y == y) = true
      simp
    · rw [List.getElem?_map] at hz
      cases hq : xs[m]? with
      | none => rw [hq] at hz; cases hz
      | some u =>
        rw [hq] at hz
        cases hz
        obtain ⟨h1, h2⟩ := List.getElem?_eq_some_iff.mp hq
        have hf := List.not_of_lt_findIdx (p := (· == y)) (xs := xs) (i := m) hm
        rw [h2] at hf
        exact hf
end
/-- the run is told by the steps, which are the only ones -/
def BestAt (R : Rule) (L : List Vec) (ks : Vec) (run : List Int) : Prop := ∃ st, StOk (linksV R L) (goalIx L ks) st ∧ run = bestRun R L ks st
theorem BestAt.uniq {R : Rule} {L : List Vec} {ks : Vec} {x y : List Int} (a : BestAt R L ks x) (b : BestAt R L ks y) : x = y := by
  obtain ⟨s, h1, rfl⟩ := a
  obtain ⟨t, h2, rfl⟩ := b
  rw [h1.uniq h2]
structure BestPre (R : Rule) (L : List Vec) (ks : Vec) : Prop where
  rc : ∃ m N s, Rch R m N s L ∧ m ≤ 1000 ∧ ∀ k ∈ ks, 0 ≤ k ∧ k < (m : Int)
  many : L.length ≤ 4000
  kinds : ks.length ≤ 1000
theorem Rch.fit {R : Rule} {m : Nat} {N : Int} {s : Vec} {L : List Vec} (r : Rch R m N s L) {g : Nat} (hg : g < L.length) (hL : L.length ≤ 4000) : LkFit (linksV R L) g := by
  refine ⟨r.lk, by rw [linksV_len]; exact hg, by rw [linksV_len]; exact hL, fun i => ?_⟩
  by_cases hi : i < L.length
  · rw [linksV_at (List.getElem?_eq_getElem hi)]
    have := rowTo_len (R := R) (L := L) (x := L[i]) (i := R.2.length)
    have := r.wf.few
    show (rowTo R L L[i] R.2.length).length ≤ 8
    omega
  · rw [List.getD_eq_getElem?_getD, List.getElem?_eq_none (by rw [linksV_len]; omega)]
    simp
def sp__law_best : Sp := sp3 rRule (rL rVec) rVec (fun R L ks => BestPre R L ks) (fun R L ks _ w H' => ∃ run, rVec H' w run ∧ BestAt R L ks run)
/-! _law_best: slots rule 0, listed 1, kinds 2, counts 3, links 4, steps 5, run 6, here 7, turn 8, t 9, there 10, standing 11 -/
def N__law_best : List Str := ["rule", "listed", "kinds", "counts", "links", "steps", "run", "here", "turn", "t", "there", "standing"]
def t__law_best (K : PySem.W.Frag) : TS :=
  (tSeq (tAsg (tLc (iList K (tVar 1)) (gName 11) tYes (tCall sp__law_inside [] E0 (tCons (tVar 11) (tCons (tVar 2) tNil))) [11]) (gName 3))
  (tSeq (tAsg (tCall sp__law_links [] E0 (tCons (tVar 0) (tCons (tVar 1) tNil))) (gName 4))
  (tSeq (tAsg (tCall sp__law_steps_to [] E0 (tCons (tVar 4) (tCons (tLst (tCons (tBM K "list" (rIndex K) (tVar 3) (tCons (tCB (L2.rMax K) (tCons (tVar 3) tNil)) tNil)) tNil)) tNil))) (gName 5))
  (tSeq (tAsg (tLst tNil) (gName 6))
  (tSeq (tAsg (tC (.int 0)) (gName 7))
  (tSeq (tFor (iRng1 (tCons (tCB (rLenS K) (tCons (tVar 1) tNil)) tNil)) (gName 8) (tFor (iList K (tOp (rIxL K) (tVar 4) (tVar 7))) (gTup K 2 (gCons (gName 9) (gCons (gName 10) gNil))) (tIfS (tAnd (tTest (tOp oGt (tOp (rIxL K) (tVar 5) (tVar 7)) (tC (.int 0)))) (tAnd (tTest (tOp rNotN (tOp (rIxL K) (tVar 5) (tVar 10)) (tC .non))) (tTest (tOp (rEqD K) (tOp (rIxL K) (tVar 5) (tVar 10)) (tOp oSub (tOp (rIxL K) (tVar 5) (tVar 7)) (tC (.int 1))))))) (tSeq (tDrop (tBM K "list" rAppend (tVar 6) (tCons (tVar 9) tNil)))
  (tSeq (tAsg (tVar 10) (gName 7))
  tBreak)) tNext)))
  (tRet (tCB (rTupOf K) (tCons (tVar 6) tNil)))))))))
section
variable {K : PySem.W.Frag} {vs : List V} {H : Hp} {Q : VK} {E : XK}
theorem find_at {LS : Links} {st : Steps} {d here q : Nat} {p : Nat × Nat} (hp : (LS.getD here [])[q]? = some p) (hn : nearer st d p = true) (hno : ∀ p' ∈ (LS.getD here []).take q, nearer st d p' = false) : (LS.getD here []).find? (nearer st d) = some p := by
  have hq := (List.getElem?_eq_some_iff.mp hp)
  have e : LS.getD here [] = (LS.getD here []).take q ++ (p :: (LS.getD here []).drop (q + 1)) := by
    rw [← hq.2, ← List.drop_eq_getElem_cons hq.1, List.take_append_drop]
  rw [e, List.find?_append]
  have h1 : ((LS.getD here []).take q).find? (nearer st d) = none := List.find?_eq_none.mpr fun x hx => by rw [hno x hx]; simp
  rw [h1, List.find?_cons, hn]
  rfl
theorem pure__law_best (h : sp__law_best vs H Q E) : t__law_best K { nx := fun _ H' => Q .non H', rt := Q } (start N__law_best vs) H := by
  obtain ⟨v1, v2, v3, R, L, ks, rfl, r1, r2, r3, ⟨⟨m, N, s, rc, hm, hks⟩, hL, hk1⟩, k⟩ := h
  have hL2 : ∀ (l' : L2.St) H', l'[1]? = some (some v2) → Ex H H' → Ed (tVar 1) l' H' (rL rVec) L := fun l' H' h e => ed_var h (mon e r2)
  -- the counts
  refine r_asg (El.ed (el_mapL (r := rI) (s := rVec) (fun x => insideV x ks) (hL2 _ _ rfl (Ex.refl _)) (by omega) (fun _ => rfl) fun i x v H1 e1 hx rx => ev_call2 (x := x) (y := ks) (ed_var rfl rx) (ed_var rfl (mon e1 r3)) ⟨fun k hk => by rw [(rc.hv (List.mem_of_getElem? hx)).len]; exact hks k hk, hk1⟩ hq_d)) fun cv H1 e1 rcv => ?_
  -- the links
  refine r_asg (ev_call2 (P := fun w H' => rLinks H' w (linksV R L)) (x := R) (y := L) (ed_var rfl (mon e1 r1)) (hL2 _ _ rfl e1) ⟨by omega, by have := rc.wf.few; omega, rc.fd.nd, ⟨m, hm, wfr_len rc.wf, fun x hx => (rc.hv hx).len⟩, rc.fd.closed⟩ hq_d) fun lv H2 e2 rlv => ?_
  -- the steps
  obtain ⟨y, hgy, _⟩ := goal_at (ks := ks) rc.pos
  have hg := (List.getElem?_eq_some_iff.mp hgy).1
  have hbm : best L ks ∈ cnts L ks := lmax_mem (cnts_ne rc.pos)
  have hC : Ed (tVar 3) [some v1, some v2, some v3, some cv, some lv, none, none, none, none, none, none, none] H2 (rL rI) (cnts L ks) := ed_var rfl (mon e2 rcv)
  have hix : El (tLst (tCons (tBM K "list" (rIndex K) (tVar 3) (tCons (tCB (L2.rMax K) (tCons (tVar 3) tNil)) tNil)) tNil)) [some v1, some v2, some v3, some cv, some lv, none, none, none, none, none, none, none] H2 rN [goalIx L ks] :=
    el_lst (es_cons (ed_index hC (ed_max hC (by unfold cnts; rw [List.length_map]; exact rc.pos)) hbm) es_nil) (by simp)
  refine r_asg (P := fun w H' => ∃ st, rSteps H' w st ∧ StOk (linksV R L) (goalIx L ks) st) (fun H0 e0 Q' q' => ⟨lv, rfl, hix H0 e0 _ fun v H5 e5 ⟨gl, ug, ev, ng, hgl, pg⟩ => ?_⟩) fun sv H3 e3 ⟨st, rst, hst⟩ => ?_
  · subst ev
    have hug := natL_eq pg
    subst hug
    exact ⟨lv, gl, linksV R L, goalIx L ks, rfl, mon (e0.trans e5) rlv, hgl, rc.fit hg hL, fun w H' st ex h1 h2 => q' w H' (e5.trans ex) ⟨st, h1, h2⟩⟩
  obtain ⟨d0, hd0, _, hd0L⟩ := rc.st0 hgy hst
  have hbr : bestRun R L ks st = (runOf (linksV R L) st d0 0).map fun (t : Nat) => (t : Int) := by
    unfold bestRun
    rw [List.getD_eq_getElem?_getD, hd0]
    rfl
  refine r_asg (el_lst (r := rV) (xs := []) es_nil (Nat.zero_le _)) fun v H4 e4 ⟨rl, ur, ev, nrl, hrl, pr⟩ => ?_
  subst ev
  obtain rfl : ur = [] := rv_eq pr
  refine r_asg (ed_int (n := 0)) fun w0 H5 e5 rw0 => ?_
  cases rw0
  have e05 : Ex H H5 := (((e1.trans e2).trans e3).trans e4).trans e5
  have nrH : H rl = none := fresh_back ((e1.trans e2).trans e3) nrl
  have e25 : Ex H3 H5 := e4.trans e5
  -- what stays: the heap H3, in which links and steps stand
  refine r_forN (n := L.length) (ed_lenL (hL2 _ _ rfl e05)) (by omega) (fun i σ' H' => Ex H3 H' ∧ ∃ (here c : Nat) (dn : List Nat) (a b q : Option V), σ' = [some v1, some v2, some v3, some cv, some lv, some sv, some (.ref rl), some (.int here), a, b, q, none] ∧
      H' rl = some (.lst (natL dn)) ∧ dn.length ≤ i ∧ here < L.length ∧ st[here]? = some (some c) ∧ c = d0 - i ∧ dn ++ runOf (linksV R L) st c here = runOf (linksV R L) st d0 0)
    (fun H6 e6 => ⟨e25.trans e6, 0, d0, [], none, none, none, rfl, (e5.trans e6) _ _ hrl, Nat.zero_le _, rc.pos, hd0, rfl, rfl⟩) ?_ ?_
  · rintro i σ' H6 hi ⟨e6, here, c, dn, a, b, q, rfl, hrl6, hdn, hhl, hst6, hc, hrun⟩
    have hhl2 : here < (linksV R L).length := by rw [linksV_len]; exact hhl
    have hrow : (linksV R L)[here]? = some ((linksV R L).getD here []) := by rw [List.getD_eq_getElem?_getD, List.getElem?_eq_getElem hhl2]; rfl
    obtain ⟨lk, rws, elk, hlk, prk⟩ := id (mon e3 rlv)
    obtain ⟨wr, hwr, ra, us, rfl, hra, pra⟩ := p_get prk hrow
    have hnra : ra ≠ rl := ne_of_none hra nrl
    have hlen := Paired.length pra
    have hS : ∀ (l' : L2.St) H', l'[5]? = some (some sv) → Ex H3 H' → Ed (tVar 5) l' H' rSteps st := fun l' H' h e => ed_var h (mon e rst)
    refine r_forGA (a := ra) (us := us) (EvP.imp (ed_ixL (r := rV) (xs := rws) (k := here) (y := .ref ra) (ed_var (r := rL rV) (x := rws) rfl ⟨lk, rws, elk, e6 _ _ hlk, rv_refl _⟩) (ed_var (r := rI) (x := (here : Int)) rfl rfl) hwr) fun _ _ _ q => q) (e6 _ _ hra)
      (fun z σ' H' => Ex H3 H' ∧ ∃ (b q : Option V), σ' = [some v1, some v2, some v3, some cv, some lv, some sv, some (.ref rl), some (.int here), some (.int i), b, q, none] ∧ H' rl = some (.lst (natL dn)) ∧ ∀ d, c = d + 1 → ∀ p' ∈ ((linksV R L).getD here []).take z, nearer st d p' = false)
      (fun H7 e7 => ⟨e6.trans e7, _, _, rfl, e7 _ _ hrl6, fun d _ p' hp' => by rw [List.take_zero] at hp'; cases hp'⟩) (fun z σ' H' p => p.1 _ _ hra) ?_ ?_
    · rintro z v σ' H7 hv ⟨e7, b', q', rfl, hrl7, hno⟩
      obtain ⟨p, hp, rp⟩ := p_get' pra hv
      obtain ⟨t, j⟩ := p
      have hj := (rc.link (List.getElem?_eq_getElem hhl) (List.mem_of_getElem? hp)).2.2.1
      refine g_pair (mon e7 rp) fun w1 w2 hw1 hw2 => ?_
      cases hw1; cases hw2
      obtain ⟨o, ho⟩ : ∃ o, st[j]? = some o := ⟨_, List.getElem?_eq_getElem (by rw [hst.len, linksV_len]; exact hj)⟩
      have eo : ∀ (l' : L2.St) H', l'[5]? = some (some sv) → l'[10]? = some (some (.int (j : Int))) → Ex H3 H' → Ed (tOp (rIxL K) (tVar 5) (tVar 10)) l' H' (rO rN) o := fun l' H' h h2 e => ed_ixL (hS l' H' h e) (ed_var (r := rI) (x := (j : Int)) h2 rfl) ho
      have eh : ∀ (l' : L2.St) H', l'[5]? = some (some sv) → l'[7]? = some (some (.int (here : Int))) → Ex H3 H' → Ed (tOp (rIxL K) (tVar 5) (tVar 7)) l' H' rI (c : Int) := fun l' H' h h2 e => ed_ixL (r := rO rN) (hS l' H' h e) (ed_var (r := rI) (x := (here : Int)) h2 rfl) hst6
      refine r_ifN (b := decide ((0 : Int) < (c : Int)) && (o.isSome && decide (((o.getD 0 : Nat) : Int) = (c : Int) - 1))) (et_and (et_test' (ed_gt (eh _ _ rfl rfl e7) (ed_int (n := 0)))) fun _ => et_and (et_test' (ed_notN (eo _ _ rfl rfl e7))) fun hs => ?_) ?_ ?_
      · cases o with
        | none => cases hs
        | some d' => exact et_test' (ed_eqDI (i := (d' : Int)) (eo _ _ rfl rfl e7) (ed_sub (eh _ _ rfl rfl e7) (ed_int (n := 1))))
      · intro hb H8 e8
        rw [Bool.and_eq_true, Bool.and_eq_true, decide_eq_true_eq, decide_eq_true_eq] at hb
        obtain ⟨hc0, hos, hoc⟩ := hb
        obtain ⟨d', rfl⟩ : ∃ d', o = some d' := by
          cases o with
          | none => cases hos
          | some d' => exact ⟨d', rfl⟩
        obtain ⟨d, rfl⟩ : ∃ d, c = d + 1 := ⟨c - 1, by omega⟩
        have hdd : d' = d := by
          have : ((d' : Nat) : Int) = ((d + 1 : Nat) : Int) - 1 := hoc
          omega
        subst hdd
        have hnear : nearer st d' (t, j) = true := by
          unfold nearer
          rw [ho]
          simp
        have hfind := find_at hp hnear (hno d' rfl)
        obtain ⟨p2, q1, q2, q3, q4, q5⟩ := runOf_succ hst rc.lk hhl2 hst6
        rw [hfind] at q1
        cases q1
        refine r_app ((e8) _ _ hrl7) (ev_v (i := 6) rfl) (P := fun w' _ => w' = .int (t : Int)) (ev_v (i := 9) rfl) (by unfold natL; rw [List.length_map]; omega) fun v' H9 e9 ev => ?_
        subst ev
        refine r_asg (P := fun w' _ => w' = .int (j : Int)) (ev_v (i := 10) rfl) fun v' H10 e10 ev => ?_
        subst ev
        refine ⟨(Ex.mut ((e7.trans e8).trans e9) nrl).trans e10, j, d', dn ++ [t], _, _, _, rfl, ?_, ?_, hj, ho, by omega, ?_⟩
        · rw [natL_app]; exact e10 _ _ upd_same
        · rw [List.length_append, List.length_singleton]; omega
        · rw [← hrun, q5, List.append_assoc]; rfl
      · intro hb H8 e8
        refine ⟨e7.trans e8, _, _, rfl, e8 _ _ hrl7, fun d hcd p' hp' => ?_⟩
        rw [List.take_add_one, hp] at hp'
        rcases List.mem_append.mp hp' with h | h
        · exact hno d hcd p' h
        · have : p' = (t, j) := by simpa using h
          rw [this]
          subst hcd
          unfold nearer
          rw [ho]
          cases o with
          | none => rfl
          | some d' =>
            have hne : d' ≠ d := fun z => by
              subst z
              rw [Bool.and_eq_false_iff, Bool.and_eq_false_iff, decide_eq_false_iff_not, decide_eq_false_iff_not] at hb
              rcases hb with hb | hb | hb
              · omega
              · cases hb
              · exact hb (by show ((d' : Nat) : Int) = _; omega)
            simpa using hne
    · rintro σ' H7 ⟨e7, b', q', rfl, hrl7, hno⟩
      rw [hlen, List.take_length] at hno
      refine ⟨e7, here, c, dn, _, _, _, rfl, hrl7, by omega, hhl, hst6, ?_, hrun⟩
      cases c with
      | zero => omega
      | succ d =>
        obtain ⟨p, q1, q2, _⟩ := hst.near rc.lk hhl2 hst6
        have := hno d rfl p q2
        have h2 := List.find?_some q1
        rw [this] at h2
        cases h2
  · rintro σ' H6 ⟨e6, here, c, dn, a, b, q, rfl, hrl6, hdn, hhl, hst6, hc, hrun⟩
    have hc0 : c = 0 := by omega
    subst hc0
    have hdn2 : dn = runOf (linksV R L) st d0 0 := by
      rw [← hrun]
      show dn = dn ++ []
      rw [List.append_nil]
    refine r_ret (ed_tupL (r := rI) (xs := bestRun R L ks st) (ed_var rfl ⟨rl, _, rfl, hrl6, ?_⟩)) fun w H7 e7 p => k w H7 (((((e1.trans e2).trans e3)).trans e6).trans e7) ⟨_, p, st, hst, rfl⟩
    rw [hbr, ← hdn2]
    have := int_rs (H := H6) (dn.map fun (t : Nat) => (t : Int))
    rw [List.map_map] at this
    exact this
end
end M
/-! ## Fw8 -/
/-! Defs that may raise; methods; a class that is made. -/
namespace M
open PySem L2 Evl PyProof.Rows
/-- where TooMany, MusterError and Search stand -/
structure Cs where
  tm : Addr
  me : Addr
  se : Addr
/-- the dict of a TooMany -/
def tmF : List (Str × V) := [(("part" : Str), V.str ("standings" : Str))]
def tMkTm (cs : Cs) : L2.St → Hp → XK → Prop := fun _ H Q => ∀ d, H d = none → Q (.ref cs.tm) (some d) (upd H d (.xd tmF))
def tRaiseTm (cs : Cs) (E : XK) : TS := fun _ σ H => tMkTm cs σ H fun cls d H' => E cls d H'
/-- try: .. except MusterError as e (slot i): .. -/
def tTryAs (K : PySem.W.Frag) (cs : Cs) (i : Nat) (tb : WX → TS) (ts : Addr → Value → Option Addr → TS) : TS := fun D σ H => tb (wAs K (.ref cs.me) i ts (fun _ _ _ _ => False) D) D σ H
/-- _law_is_too_many(e), e the exception that the suite holds -/
def tIsTm (cs : Cs) (a : Addr) (cls : Value) (d : Option Addr) (te : TE) : TE := fun σ H Q => te σ H fun x H1 => x = .ref a ∧ cls = .ref cs.tm ∧ ∃ dd, d = some dd ∧ H1 dd = some (.xd tmF) ∧ ∀ H', Ex H1 H' → Q (.bl true) H'
section
variable {P : Program} {w : World} {K : PySem.W.Frag} {mg : Str → Option Value} {base : Heap} {x m qual : Str} {st : Stmt} {N ps : List Str} {k : Nat} {sp : Sp} {C : Addr}
structure CalX (P : Program) (w : World) (K : PySem.W.Frag) (mg : Str → Option Value) (base : Heap) (k : Nat) (x : Str) (ps : List Str) (sp : Sp) : Prop where
  ex : ∃ f fd, FnOk P w K mg base (L2.CX P w) k f fd ps sp ∧ mg x = some (.ref f) ∧ PySem.W.keepIn K (.ref f) = true ∧ Binds K fd ps []
structure MCal (P : Program) (w : World) (K : PySem.W.Frag) (mg : Str → Option Value) (base : Heap) (k : Nat) (C : Addr) (m : Str) (ps : List Str) (sp : Sp) : Prop where
  ex : ∃ f fd, FnOk P w K mg base (L2.CX P w) k f fd ps sp ∧ Meth K C m f ∧ Binds K fd ps []
structure MkCal (P : Program) (w : World) (K : PySem.W.Frag) (mg : Str → Option Value) (base : Heap) (k : Nat) (C : Addr) (x : Str) (ps : List Str) (sp : Sp) : Prop where
  ex : ∃ f fd, FnOk P w K mg base (L2.CX P w) k f fd ps sp ∧ Mk K C f ∧ mg x = some (.ref C) ∧ Binds K fd ps []
structure MethAt (K : PySem.W.Frag) (C : Addr) (m qual : Str) (st : Stmt) (ps : List Str) : Prop where
  ex : ∃ f fd, FunD K m qual (defArgs st) (defBody st) (defScope st) [] [] f fd ∧ Meth K C m f ∧ Binds K fd ps []
structure InitAt (K : PySem.W.Frag) (mg : Str → Option Value) (C : Addr) (x qual : Str) (st : Stmt) (ps : List Str) : Prop where
  ex : ∃ f fd, FunD K "__init__" qual (defArgs st) (defBody st) (defScope st) [] [] f fd ∧ Mk K C f ∧ mg x = some (.ref C) ∧ Binds K fd ps []
/-- the context of the body of a def that may raise -/
abbrev CXx (P : Program) (w : World) (K : PySem.W.Frag) (mg : Str → Option Value) (base : Heap) (N : List Str) (qual : Str) (st : Stmt) (f : Addr) (cdv : Value) (A : Around) (outer : List Env) (s : Shared) (H : Hp) (E : XK) : Cx := cxOf (L2.CX P w) P w K mg base N qual (defScope st) f cdv A outer s H E
theorem calx_mk {t : XK → TS} (D : DefAt K mg x st ps) (S : FnScope N ps (defScope st)) (len : ∀ vs H Q E, sp vs H Q E → vs.length = ps.length)
    (der : ∀ f cdv A outer s H E, Room k (A.deeper (envOfC x (defScope st) s.heap.objs.size f cdv)) → PSs (CXx P w K mg base N x st f cdv A outer s H E) (defBody st) (t E))
    (pure : ∀ vs H Q E, sp vs H Q E → t E { nx := fun _ H' => Q .non H', rt := Q } (start N vs) H) : CalX P w K mg base (k + 1) x ps sp := by
  obtain ⟨f, fd, F, hm, hb⟩ := D.ex
  exact ⟨f, fd, F.ok S len (fun cdv A outer s H vs Q E hr h => ⟨t E, der f cdv A outer s H E hr, pure vs H Q E h⟩), hm, F.kp, hb⟩
theorem mcal_mk {t : XK → TS} (D : MethAt K C m qual st ps) (S : FnScope N ps (defScope st)) (len : ∀ vs H Q E, sp vs H Q E → vs.length = ps.length)
    (der : ∀ f cdv A outer s H E, Room k (A.deeper (envOfC qual (defScope st) s.heap.objs.size f cdv)) → PSs (CXx P w K mg base N qual st f cdv A outer s H E) (defBody st) (t E))
    (pure : ∀ vs H Q E, sp vs H Q E → t E { nx := fun _ H' => Q .non H', rt := Q } (start N vs) H) : MCal P w K mg base (k + 1) C m ps sp := by
  obtain ⟨f, fd, F, hm, hb⟩ := D.ex
  exact ⟨f, fd, F.ok S len (fun cdv A outer s H vs Q E hr h => ⟨t E, der f cdv A outer s H E hr, pure vs H Q E h⟩), hm, hb⟩
theorem mkcal_mk {t : XK → TS} (D : InitAt K mg C x qual st ps) (S : FnScope N ps (defScope st)) (len : ∀ vs H Q E, sp vs H Q E → vs.length = ps.length)
    (der : ∀ f cdv A outer s H E, Room k (A.deeper (envOfC qual (defScope st) s.heap.objs.size f cdv)) → PSs (CXx P w K mg base N qual st f cdv A outer s H E) (defBody st) (t E))
    (pure : ∀ vs H Q E, sp vs H Q E → t E { nx := fun _ H' => Q .non H', rt := Q } (start N vs) H) : MkCal P w K mg base (k + 1) C x ps sp := by
  obtain ⟨f, fd, F, hm, hg, hb⟩ := D.ex
  exact ⟨f, fd, F.ok S len (fun cdv A outer s H vs Q E hr h => ⟨t E, der f cdv A outer s H E hr, pure vs H Q E h⟩), hm, hg, hb⟩
end
section
variable {X : Cx} {k : Nat} {ps : List Str} {sp : Sp} {x m : Str} {p pos apos : Pos} {e o : Expr} {es : List Expr} {t : TA} {ta : TE} {C : Addr} {E : XK}
theorem pe_callX (c : CalX X.prog X.w X.K X.mg X.base k x ps sp) (hr : Room k X.A) (hg : Gl X x) (hx : Passes (L2.CX X.prog X.w) X E) (ha : PA X (e :: es) t)
    (hd : (x == ("__debug__" : Str)) = false := by decide) (hs : starEach (e :: es) X.env = (false, eval e X.env) :: starEach es X.env := by rfl) (hp : ((backTo pos (starEach es X.env)).any fun x => x.fst) = false := by rfl) :
    PE X (.Call (.Name x p) (e :: es) [] pos) (tCall sp [] E t) := by
  obtain ⟨f, fd, F, hm, hk, hb⟩ := c.ex
  exact pe_call F hr hg hm hk hb .nil hx ha hd hs hp
theorem pe_callXS {Es : L2.St → XK} (c : CalX X.prog X.w X.K X.mg X.base k x ps sp) (hr : Room k X.A) (hg : Gl X x) (hx : ∀ σ, PassesAt (L2.CX X.prog X.w) X σ (Es σ)) (ha : PA X (e :: es) t)
    (hd : (x == ("__debug__" : Str)) = false := by decide) (hs : starEach (e :: es) X.env = (false, eval e X.env) :: starEach es X.env := by rfl) (hp : ((backTo pos (starEach es X.env)).any fun x => x.fst) = false := by rfl) :
    PE X (.Call (.Name x p) (e :: es) [] pos) (tCallS sp Es t) := by
  obtain ⟨f, fd, F, hm, hk, hb⟩ := c.ex
  exact pe_callS F hr hg hm hk hb hx ha hd hs hp
theorem pe_globC {v : V} (hg : Gl X x) (h : ∃ u, X.mg x = some u ∧ RelV v u) (hd : (x == ("__debug__" : Str)) = false := by decide) : PE X (.Name x pos) (tC v) := by
  obtain ⟨u, hm, r⟩ := h
  exact pe_glob hg hm r hd
theorem pe_makeX (c : MkCal X.prog X.w X.K X.mg X.base k C x ps sp) (hr : Room (k + 1) X.A) (hg : Gl X x) (hx : Passes (L2.CX X.prog X.w) X E) (ha : PA X (e :: es) t)
    (hdb : (x == ("__debug__" : Str)) = false := by decide) (he : starEach (e :: es) X.env = (false, eval e X.env) :: starEach es X.env := by rfl) (hpl : (backTo pos (starEach es X.env)).any (·.1) = false := by rfl) :
    PE X (.Call (.Name x p) (e :: es) [] pos) (tMake C sp [] E t) := by
  obtain ⟨f, fd, F, M, hm, hb⟩ := c.ex
  exact pe_make M F hr hg hm hb .nil hx ha hdb he hpl
theorem pe_methX {pl : Sem Bool} (c : MCal X.prog X.w X.K X.mg X.base k C m ps sp) (cl : Cls X.K C) (hr : Room k X.A) (hx : Passes (L2.CX X.prog X.w) X E) (he : PE X o ta) (ha : PA X (e :: es) t)
    (hst : starEach (e :: es) X.env = (false, eval e X.env) :: starEach es X.env := by rfl) (hpl : (backTo pos (starEach es X.env)).any (·.1) = false := by rfl)
    (ht : eval (.Call (.Attribute o m apos) (e :: es) [] pos) X.env = (do
      let ov ← eval o X.env
      standAt apos.atName
      let (f, first) ← holding [ov] (getMethod ov m pl)
      callWith pos f first (backTo pos (starEach (e :: es) X.env)) (backToKw pos (keywordEach [] X.env))) := by rfl) :
    PE X (.Call (.Attribute o m apos) (e :: es) [] pos) (tMeth C m sp [] E ta t) := by
  obtain ⟨f, fd, F, M, hb⟩ := c.ex
  exact pe_meth he cl M F hr hb .nil hx ha hst hpl ht
end
/-- the built-ins, the classes -/
structure Txt (K : PySem.W.Frag) (mg : Str → Option Value) (cs : Cs) : Prop extends Bi mg where
  cl_Search : Cls K cs.se
  no : ∀ f ∈ (["rule", "listed", "places", "links", "came"] : List Str), NoAttr K cs.se f
  exm : PySem.W.exmOne K (.ref cs.tm) (.ref cs.me) = some true
  g_MOST_STANDINGS : ∃ u, mg "MOST_STANDINGS" = some u ∧ RelV (.int 3000) u
end M
/-! ## Q6 -/
/-! The program's search: the object, its links. -/
namespace M
open PySem L2 Evl PyProof.Rows
/-- the attributes of a Search -/
def srF (vr : V) (la pl lk cm : Addr) : List (Str × V) := [(("rule" : Str), vr), (("listed" : Str), .ref la), (("places" : Str), .ref pl), (("links" : Str), .ref lk), (("came" : Str), .ref cm)]
section
variable {vr : V} {la pl lk cm : Addr}
theorem n_lr : (("listed" : Str) == "rule") = false := by decide +kernel
theorem n_pr : (("places" : Str) == "rule") = false := by decide +kernel
theorem n_pl : (("places" : Str) == "listed") = false := by decide +kernel
theorem n_kr : (("links" : Str) == "rule") = false := by decide +kernel
theorem n_kl : (("links" : Str) == "listed") = false := by decide +kernel
theorem n_kp : (("links" : Str) == "places") = false := by decide +kernel
theorem n_cr : (("came" : Str) == "rule") = false := by decide +kernel
theorem n_cl : (("came" : Str) == "listed") = false := by decide +kernel
theorem n_cp : (("came" : Str) == "places") = false := by decide +kernel
theorem n_ck : (("came" : Str) == "links") = false := by decide +kernel
theorem srF_rule : List.lookup ("rule" : Str) (srF vr la pl lk cm) = some vr := by simp [srF, List.lookup]
theorem srF_listed : List.lookup ("listed" : Str) (srF vr la pl lk cm) = some (V.ref la) := by simp [srF, List.lookup, n_lr]
theorem srF_places : List.lookup ("places" : Str) (srF vr la pl lk cm) = some (V.ref pl) := by simp [srF, List.lookup, n_pr, n_pl]
theorem srF_links : List.lookup ("links" : Str) (srF vr la pl lk cm) = some (V.ref lk) := by simp [srF, List.lookup, n_kr, n_kl, n_kp]
theorem srF_came : List.lookup ("came" : Str) (srF vr la pl lk cm) = some (V.ref cm) := by simp [srF, List.lookup, n_cr, n_cl, n_cp, n_ck]
theorem srF_no {m : Str} (h1 : (m == "rule") = false) (h2 : (m == "listed") = false) (h3 : (m == "places") = false) (h4 : (m == "links") = false) (h5 : (m == "came") = false) : List.lookup m (srF vr la pl lk cm) = none := by simp [srF, List.lookup, h1, h2, h3, h4, h5]
end
section
variable {K : PySem.W.Frag} {mg : Str → Option Value} {cs : Cs} {σ : L2.St} {H H' : Hp} {ta tb te tx tl td tk : TE} {P : V → Hp → Prop} {α β : Type} {r : Rp α} {s : Rp β} {D : Ends} {tz tu : TS} {g : TG}
theorem ev_fld (T : Txt K mg cs) {x dx : Addr} {fs : List (Str × V)} {f : Str} {v : V} (hf : f ∈ (["rule", "listed", "places", "links", "came"] : List Str)) (h0 : EvP ta σ H fun w _ => w = .ref x) (hx : H x = some (.ins cs.se dx fs)) (hl : List.lookup f fs = some v) :
    EvP (tFld K ta f) σ H fun w _ => w = v := fun H1 e Q q => h0 H1 e _ fun w H2 e2 ew => ⟨x, cs.se, dx, fs, v, ew, (e.trans e2) _ _ hx, T.cl_Search, T.no f hf, hl, q v H2 e2 rfl⟩
theorem EvP.ed [MX r] {v : V} {x : α} (h : EvP te σ H fun w _ => w = v) (hr : r H v x) : Ed te σ H r x := fun H1 e Q q => h H1 e _ fun w H2 e2 ew => q w H2 e2 (by rw [ew]; exact mon (e.trans e2) hr)
theorem ints_lay : ∀ ns : List Int, PyData.canLayAll0 (ns.map PyData.int) = true
  | [] => rfl
  | _ :: r => by simp [PyData.canLayAll0, PyData.canLay0, ints_lay r]
theorem ints_depth : ∀ ns : List Int, PyData.depthAll (ns.map PyData.int) = 0
  | [] => rfl
  | _ :: r => by simp [PyData.depthAll, PyData.depth, ints_depth r]
theorem ints_shaped (ns : List Int) : SeqAt.shaped (.tuple (ns.map PyData.int)) = true := by
  simp [SeqAt.shaped, PyData.canLay0, PyData.depth, ints_lay, ints_depth]
/-- == of a tuple and None -/
theorem ed_eqNon {xs : List Int} (ha : Ed ta σ H rVec xs) (hb : EvP tb σ H fun w _ => w = .non) : Ed (tOp (rEqD K) ta tb) σ H rB false :=
  ev_op ha hb fun v w H1 _ p2 ⟨_, e0, p1⟩ Q q => by
    subst p2
    obtain ⟨a, vs, rfl, hv, pr⟩ := mon e0 p1
    have hvs := rs_int pr
    subst hvs
    have hall : ∀ ns : List Int, DpAll K H1 (ns.map V.int) (ns.map PyData.int) := fun ns => by
      induction ns with
      | nil => exact .nil
      | cons n ns ih => exact .cons (.int n) ih
    refine ⟨.tuple (xs.map PyData.int), .none, .tup (SqT.of hv) (hall xs), .non, ints_shaped xs, rfl, ?_⟩
    have e : PyData.eqv (.tuple (xs.map PyData.int)) .none = false := by simp [PyData.eqv]
    rw [e]
    exact q _ H1 (Ex.refl H1) rfl
end
/-- the search at the row of xx (known in H), its deeds up to t -/
structure LoSt (H : Hp) (la pl cm rr : Addr) (R : Rule) (L : List Vec) (xx : Vec) (most t : Nat) (Lc : List Vec) (H' : Hp) : Prop where
  sm : Sm [la, pl, cm] H H'
  tp : Tp H H'
  hla : ∃ uc, H' la = some (.lst uc) ∧ Paired (rVec H') uc Lc
  hpl : H' pl = some (.dT (plFrom 0 Lc))
  hcm : ∃ cc, H' cm = some (.lst cc) ∧ cc.length ≤ Lc.length
  hrr : ∃ ur, H' rr = some (.lst ur) ∧ Paired (rLk H') ur (rowTo R Lc xx t)
  mem : ∀ t', t' < t → canB R xx t' = true → moveV R xx t' ∈ Lc
  add : addAll most (nxTo R xx t) L = some Lc
  len : ∀ y ∈ Lc, y.length = xx.length
  le : Lc.length ≤ most
theorem LoSt.ex {H H' H'' : Hp} {la pl cm rr : Addr} {R : Rule} {L : List Vec} {xx : Vec} {most t : Nat} {Lc : List Vec} (h : LoSt H la pl cm rr R L xx most t Lc H') (e : Ex H' H'') : LoSt H la pl cm rr R L xx most t Lc H'' := by
  obtain ⟨h1, h2, ⟨uc, h3, h3'⟩, h4, ⟨cc, h5, h5'⟩, ⟨ur, h6, h6'⟩, h7, h8, h9, h10⟩ := h
  exact ⟨h1.trans (Ex.sm e), h2.trans (Ex.tp e), ⟨uc, e _ _ h3, mons e h3'⟩, e _ _ h4, ⟨cc, e _ _ h5, h5'⟩, ⟨ur, e _ _ h6, mons e h6'⟩, h7, h8, h9, h10⟩
/-- a search object, its rows so far not looked at -/
structure SrAt (cs : Cs) (H : Hp) (x dx : Addr) (vr : V) (la pl lk cm : Addr) (R : Rule) (L : List Vec) : Prop where
  ob : H x = some (.ins cs.se dx (srF vr la pl lk cm))
  ru : rRule H vr R
  hla : ∃ us, H la = some (.lst us) ∧ Paired (rVec H) us L
  hpl : H pl = some (.dT (plFrom 0 L))
  hcm : ∃ cc, H cm = some (.lst cc) ∧ cc.length ≤ L.length
  ne : la ≠ cm
theorem rowTo_app {R : Rule} {L : List Vec} {x y : Vec} {t : Nat} (h : ∀ t', t' < t → canB R x t' = true → moveV R x t' ∈ L) : rowTo R (L ++ [y]) x t = rowTo R L x t := by
  unfold rowTo
  refine List.map_congr_left fun t' ht => ?_
  rw [List.mem_filter, List.mem_range] at ht
  rw [List.idxOf_append, if_pos (h t' ht.1 ht.2)]
structure SrPre (R : Rule) (L : List Vec) (xx : Vec) (at_ most : Nat) : Prop where
  row : L[at_]? = some xx
  lr : LenR xx.length R
  few : R.2.length ≤ 1000 ∧ xx.length ≤ 1000
  lens : ∀ y ∈ L, y.length = xx.length
  le : L.length ≤ most
  most : most ≤ 40000
def sp_Search_links_of (cs : Cs) : Sp := fun vs H Q E => ∃ x dx vr la pl lk cm R L xx, ∃ (at_ most : Nat), vs = [.ref x, .int at_, .int most, .non] ∧ SrAt cs H x dx vr la pl lk cm R L ∧ SrPre R L xx at_ most ∧
  (∀ L' w H', addAll most (nxV R xx) L = some L' → Sm [la, pl, cm] H H' → Tp H H' → SrAt cs H' x dx vr la pl lk cm R L' → (∀ y ∈ nxV R xx, y ∈ L') → FL rLk H (linkRow R L' xx) w H' → Q w H') ∧
  (addAll most (nxV R xx) L = none → ∀ d H', Sm [la, pl, cm] H H' → H d = none → H' d = some (.xd tmF) → E (.ref cs.tm) (some d) H')
/-! Search.links_of: slots self 0, at 1, most 2, barrier 3, here 4, links 5, deed 6, there 7 -/
def N_Search_links_of : List Str := ["self", "at", "most", "barrier", "here", "links", "deed", "there"]
def t_Search_links_of (K : PySem.W.Frag) (cs : Cs) (E : XK) : TS :=
  (tSeq (tAsg (tOp (rIxL K) (tFld K (tVar 0) "listed") (tVar 1)) (gName 4))
  (tSeq (tAsg (tLst tNil) (gName 5))
  (tSeq (tIfS (tTest (tOp (rEqD K) (tVar 4) (tVar 3))) (tRet (tVar 5)) tNext)
  (tSeq (tFor (iRng1 (tCons (tCB (rLenS K) (tCons (tOp (rIxT K) (tFld K (tVar 0) "rule") (tC (.int 1))) tNil)) tNil)) (gName 6) (tIfS (tB (tCall sp_can_do [] E0 (tCons (tFld K (tVar 0) "rule") (tCons (tVar 4) (tCons (tVar 6) tNil))))) (tSeq (tAsg (tCall sp_moved_by [] E0 (tCons (tFld K (tVar 0) "rule") (tCons (tVar 4) (tCons (tVar 6) tNil)))) (gName 7))
  (tSeq (tIfS (tB (tDNotIn (tVar 7) (tFld K (tVar 0) "places"))) (tSeq (tIfS (tTest (tOp oGe (tCB (rLenS K) (tCons (tFld K (tVar 0) "listed") tNil)) (tVar 2))) (tRaiseTm cs E) tNext)
  (tSeq (sDPut (tFld K (tVar 0) "places") (tVar 7) (tCB (rLenS K) (tCons (tFld K (tVar 0) "listed") tNil)))
  (tSeq (tDrop (tBM K "list" rAppend (tFld K (tVar 0) "listed") (tCons (tVar 7) tNil)))
  (tDrop (tBM K "list" rAppend (tFld K (tVar 0) "came") (tCons (tTup (tCons (tVar 1) (tCons (tVar 6) tNil))) tNil)))))) tNext)
  (tDrop (tBM K "list" rAppend (tVar 5) (tCons (tTup (tCons (tVar 6) (tCons (tDGet (tFld K (tVar 0) "places") (tVar 7)) tNil))) tNil))))) tNext))
  (tRet (tVar 5))))))
section
variable {K : PySem.W.Frag} {mg : Str → Option Value} {cs : Cs} {vs : List V} {H : Hp} {Q : VK} {E : XK}
theorem len_Search_links_of (h : sp_Search_links_of cs vs H Q E) : vs.length = 4 := by
  obtain ⟨_, _, _, _, _, _, _, _, _, _, _, _, rfl, _⟩ := h
  rfl
theorem pure_Search_links_of (T : Txt K mg cs) (h : sp_Search_links_of cs vs H Q E) : t_Search_links_of K cs E { nx := fun _ H' => Q .non H', rt := Q } (start N_Search_links_of vs) H := by
  obtain ⟨x, dx, vr, la, pl, lk, cm, R, L, xx, at_, most, rfl, ⟨ob, ru, ⟨us, hla, pla⟩, hpl, ⟨cc, hcm, hcc⟩, nlc⟩, ⟨hrow, hlr, ⟨hf1, hf2⟩, hlens, hle, hmost⟩, kq, ke⟩ := h
  have nlp : la ≠ pl := ne_of hla hpl (fun z => nomatch z)
  have ncp : cm ≠ pl := ne_of hcm hpl (fun z => nomatch z)
  have nxl : x ≠ la := ne_of ob hla (fun z => nomatch z)
  have nxp : x ≠ pl := ne_of ob hpl (fun z => nomatch z)
  have nxc : x ≠ cm := ne_of ob hcm (fun z => nomatch z)
  have xno : x ∉ [la, pl, cm] := fun z => by
    simp only [List.mem_cons, List.not_mem_nil, or_false] at z
    rcases z with z | z | z
    · exact nxl z
    · exact nxp z
    · exact nxc z
  have obS : ∀ H', Sm [la, pl, cm] H H' → H' x = some (.ins cs.se dx (srF vr la pl lk cm)) := fun H' s => s _ _ xno ob
  have fl : ∀ (f : Str) (v : V) (l' : L2.St) H', f ∈ (["rule", "listed", "places", "links", "came"] : List Str) → List.lookup f (srF vr la pl lk cm) = some v → l'[0]? = some (some (.ref x)) → Sm [la, pl, cm] H H' → EvP (tFld K (tVar 0) f) l' H' fun w _ => w = v := fun f v l' H' hf hl h0 s => ev_fld T hf (ev_v h0) (obS H' s) hl
  have fLi : ∀ (l' : L2.St) H', l'[0]? = some (some (.ref x)) → Sm [la, pl, cm] H H' → EvP (tFld K (tVar 0) "listed") l' H' fun w _ => w = .ref la := fun l' H' h s => fl _ _ l' H' (by simp) srF_listed h s
  have fPl : ∀ (l' : L2.St) H', l'[0]? = some (some (.ref x)) → Sm [la, pl, cm] H H' → EvP (tFld K (tVar 0) "places") l' H' fun w _ => w = .ref pl := fun l' H' h s => fl _ _ l' H' (by simp) srF_places h s
  have fCm : ∀ (l' : L2.St) H', l'[0]? = some (some (.ref x)) → Sm [la, pl, cm] H H' → EvP (tFld K (tVar 0) "came") l' H' fun w _ => w = .ref cm := fun l' H' h s => fl _ _ l' H' (by simp) srF_came h s
  have fRu : ∀ (l' : L2.St) H', l'[0]? = some (some (.ref x)) → Sm [la, pl, cm] H H' → Tp H H' → Ed (tFld K (tVar 0) "rule") l' H' rRule R := fun l' H' h s t => EvP.ed (fl _ _ l' H' (by simp) srF_rule h s) (Mon.mon t ru)
  have s0 := Sm.refl [la, pl, cm] H
  refine r_asg (ed_ixL (r := rVec) (xs := L) (k := at_) (EvP.ed (fLi _ _ rfl s0) ⟨la, us, rfl, hla, pla⟩) (ed_var (r := rI) (x := (at_ : Int)) rfl rfl) hrow) fun w H1 e1 rw1 => ?_
  refine r_asg (el_lst (r := rV) (xs := []) es_nil (Nat.zero_le _)) fun v H2 e2 ⟨rr, ur, ev, nr, hrr, pr⟩ => ?_
  subst ev
  obtain rfl : ur = [] := rv_eq pr
  have e02 := e1.trans e2
  have nrH : H rr = none := fresh_back e1 nr
  have nra : rr ≠ la := (ne_of_none hla nrH).symm
  have nrp : rr ≠ pl := (ne_of_none hpl nrH).symm
  have nrc : rr ≠ cm := (ne_of_none hcm nrH).symm
  refine r_if (et_test' (ed_eqNon (ed_var (r := rVec) (x := xx) rfl (mon e2 rw1)) (ev_v rfl))) (fun z => nomatch z) fun _ H3 e3 => ?_
  have e03 := e02.trans e3
  have lo0 : LoSt H la pl cm rr R L xx most 0 L H3 := ⟨Ex.sm e03, Ex.tp e03, ⟨us, e03 _ _ hla, mons e03 pla⟩, e03 _ _ hpl, ⟨cc, e03 _ _ hcm, hcc⟩, ⟨[], e3 _ _ hrr, .nil⟩, fun t' h => by omega, rfl, hlens, hle⟩
  have rw3 := mon (e2.trans e3) rw1
  refine r_forN (n := R.2.length) (ed_lenT (ed_p2 (fRu _ _ rfl lo0.sm lo0.tp))) (by omega) (fun t σ' H' => Tp H3 H' ∧ ∃ Lc a b, LoSt H la pl cm rr R L xx most t Lc H' ∧ σ' = [some (.ref x), some (.int at_), some (.int most), some .non, some w, some (.ref rr), a, b]) (fun H4 e4 => ⟨Ex.tp e4, L, none, none, lo0.ex e4, rfl⟩) ?_ ?_
  · rintro t σ' H4 ht ⟨tp4, Lc, a, b, lo, rfl⟩
    have rw4 : rVec H4 w xx := Mon.mon tp4 rw3
    have hW : ∀ (l' : L2.St) H', l'[4]? = some (some w) → Ex H4 H' → Ed (tVar 4) l' H' rVec xx := fun l' H' h e => ed_var h (mon e rw4)
    have hT : ∀ (l' : L2.St) H', l'[6]? = some (some (.int (t : Int))) → Ed (tVar 6) l' H' rN t := fun l' H' h => ed_var h rfl
    refine r_ifN (et_B' (ev_call3 (x := R) (y := xx) (z := t) (fRu _ _ rfl lo.sm lo.tp) (hW _ _ rfl (Ex.refl _)) (hT _ _ rfl) ⟨ht, hlr, by omega⟩ hq_d)) ?_ ?_
    · intro hc H5 e5
      have lo5 := lo.ex e5
      refine r_asg (ev_call3 (P := fun w H5 => rVec H5 w (moveV R xx t)) (x := R) (y := xx) (z := t) (fRu _ _ rfl lo5.sm lo5.tp) (hW _ _ rfl e5) (hT _ _ rfl) ⟨ht, hlr, by omega⟩ hq_d) fun y H6 e6 ry => ?_
      have lo6 := lo5.ex e6
      have tp6 : Tp H3 H6 := (tp4.trans (Ex.tp e5)).trans (Ex.tp e6)
      -- what follows the if: the link is put in; the search then stands with the place in it
      have rest : ∀ (Lc' : List Vec) (H7 : Hp), Tp H6 H7 → Sm [la, pl, cm] H H7 → (∃ uc, H7 la = some (.lst uc) ∧ Paired (rVec H7) uc Lc') → H7 pl = some (.dT (plFrom 0 Lc')) → (∃ cc, H7 cm = some (.lst cc) ∧ cc.length ≤ Lc'.length) → (∃ ur, H7 rr = some (.lst ur) ∧ Paired (rLk H7) ur (rowTo R Lc' xx t)) →
          (∀ t', t' < t + 1 → canB R xx t' = true → moveV R xx t' ∈ Lc') → addAll most (nxTo R xx (t + 1)) L = some Lc' → (∀ y ∈ Lc', y.length = xx.length) → Lc'.length ≤ most →
          tDrop (tBM K "list" rAppend (tVar 5) (tCons (tTup (tCons (tVar 6) (tCons (tDGet (tFld K (tVar 0) "places") (tVar 7)) tNil))) tNil))
            { nx := fun σ' H' => Tp H3 H' ∧ ∃ Lc a b, LoSt H la pl cm rr R L xx most (t + 1) Lc H' ∧ σ' = [some (.ref x), some (.int at_), some (.int most), some .non, some w, some (.ref rr), a, b], rt := Q,
              bk := fun σ' H' => tRet (tVar 5) { nx := fun _ H' => Q .non H', rt := Q } σ' H', ct := fun σ' H' => Tp H3 H' ∧ ∃ Lc a b, LoSt H la pl cm rr R L xx most (t + 1) Lc H' ∧ σ' = [some (.ref x), some (.int at_), some (.int most), some .non, some w, some (.ref rr), a, b] }
            [some (.ref x), some (.int at_), some (.int most), some .non, some w, some (.ref rr), some (.int (t : Int)), some y] H7 := by
        rintro Lc' H7 tp7 sm7 ⟨uc, hl7, pr7⟩ hp7 ⟨cc7, hc7, hcc7⟩ ⟨ur, hr7, pu7⟩ hmem hadd hlen hle7
        have hyin : moveV R xx t ∈ Lc' := hmem t (by omega) hc
        refine r_appN hr7 (ev_v (i := 5) rfl) (P := fun w' H' => rLk H' w' (t, Lc'.idxOf (moveV R xx t))) (ed_pair (hT _ _ rfl) (ed_dget (fPl _ _ rfl sm7) (ed_var rfl (Mon.mon tp7 ry)) hp7 hyin)) (by rw [Paired.length pu7]; have := rowTo_len (R := R) (L := Lc') (x := xx) (i := t); omega) fun v' H8 e8 hv' => ?_
        have t8 : Tp H8 (upd H8 rr (.lst (ur ++ [v']))) := Tp.updL (e8 _ _ hr7)
        have t78 := (Ex.tp e8).trans t8
        refine ⟨(tp6.trans tp7).trans t78, Lc', _, _, ⟨(sm7.trans (Ex.sm e8)).new nrH, ((lo6.tp.trans tp7).trans t78), ⟨uc, by rw [upd_ne nra.symm]; exact e8 _ _ hl7, monT t78 pr7⟩, by rw [upd_ne nrp.symm]; exact e8 _ _ hp7, ⟨cc7, by rw [upd_ne nrc.symm]; exact e8 _ _ hc7, hcc7⟩, ⟨ur ++ [v'], upd_same, ?_⟩, hmem, hadd, hlen, hle7⟩, rfl⟩
        rw [rowTo_succ, if_pos hc]
        exact p_app (monT t78 pu7) (.cons (Mon.mon t8 hv') .nil)
      obtain ⟨sm6, tp06, ⟨uc, hl6, pr6⟩, hp6, ⟨cc6, hc6, hcc6⟩, ⟨ur, hr6, pu6⟩, hmem, hadd, hlen, hle6⟩ := lo6
      have hY : ∀ (l' : L2.St) H', l'[7]? = some (some y) → Tp H6 H' → Ed (tVar 7) l' H' rVec (moveV R xx t) := fun l' H' h e => ed_var h (Mon.mon e ry)
      have memt : ∀ Lc' : List Vec, (∀ z ∈ Lc, z ∈ Lc') → moveV R xx t ∈ Lc' → ∀ t', t' < t + 1 → canB R xx t' = true → moveV R xx t' ∈ Lc' := fun Lc' h1 h2 t' ht' hc' => by
        by_cases e : t' = t
        · rw [e]; exact h2
        · exact h1 _ (hmem t' (by omega) hc')
      refine r_if (et_B' (ed_nin (hY _ _ rfl (Tp.refl _)) (fPl _ _ rfl sm6) hp6)) ?_ ?_
      · intro hn H7 e7
        have hny : moveV R xx t ∉ Lc := by simpa using hn
        have sm7 := sm6.trans (Ex.sm e7)
        refine r_if (et_test' (ed_ge (ed_lenL (r := rVec) (xs := Lc) (EvP.ed (fLi _ _ rfl sm7) ⟨la, uc, rfl, e7 _ _ hl6, mons e7 pr6⟩)) (ed_var (r := rI) (x := (most : Int)) rfl rfl))) ?_ ?_
        · intro hm H8 e8
          have hm' : most ≤ Lc.length := by
            have := of_decide_eq_true hm
            omega
          intro d nd
          have sm8 := sm7.trans (Ex.sm e8)
          have ndH : H d = none := by
            cases hd : H d with
            | none => rfl
            | some o =>
              exfalso
              by_cases hin : d ∈ [la, pl, cm]
              · simp only [List.mem_cons, List.not_mem_nil, or_false] at hin
                rcases hin with z | z | z
                · rw [z, (e7.trans e8) _ _ hl6] at nd; cases nd
                · rw [z, (e7.trans e8) _ _ hp6] at nd; cases nd
                · rw [z, (e7.trans e8) _ _ hc6] at nd; cases nd
              · rw [sm8 _ _ hin hd] at nd; cases nd
          refine ke ?_ d _ (sm8.new ndH) ndH upd_same
          obtain ⟨zs, hz⟩ := nxTo_split (R := R) (s := xx) (show t + 1 ≤ R.2.length by omega)
          show addAll most (nxTo R xx R.2.length) L = none
          rw [hz, nxTo_succ, if_pos hc, List.append_assoc, addAll_app, hadd]
          exact addAll_full hny hm'
        · intro hm H8 e8
          have hm' : Lc.length < most := by
            have := of_decide_eq_false hm
            omega
          have e68 := e7.trans e8
          have sm8 := sm6.trans (Ex.sm e68)
          refine r_dputS (L := Lc) (x := moveV R xx t) (fPl _ _ rfl sm8) (hY _ _ rfl (Ex.tp e68)) (e68 _ _ hp6) (ed_lenL (r := rVec) (xs := Lc) (EvP.ed (fLi _ _ rfl sm8) ⟨la, uc, rfl, e68 _ _ hl6, mons e68 pr6⟩)) hny (by omega) fun H9 e9 => ?_
          have e69 := e68.trans e9
          have sm9 : Sm [la, pl, cm] H (upd H9 pl (.dT (plFrom 0 (Lc ++ [moveV R xx t])))) := (sm6.trans (Ex.sm e69)).upd (by simp)
          have tp9 : Tp H6 (upd H9 pl (.dT (plFrom 0 (Lc ++ [moveV R xx t])))) := (Ex.tp e69).trans (Tp.updT (e69 _ _ hp6))
          have hl9 : (upd H9 pl (.dT (plFrom 0 (Lc ++ [moveV R xx t])))) la = some (.lst uc) := by rw [upd_ne nlp]; exact e69 _ _ hl6
          have hc9 : (upd H9 pl (.dT (plFrom 0 (Lc ++ [moveV R xx t])))) cm = some (.lst cc6) := by rw [upd_ne ncp]; exact e69 _ _ hc6
          have hp9 : (upd H9 pl (.dT (plFrom 0 (Lc ++ [moveV R xx t])))) pl = some (.dT (plFrom 0 (Lc ++ [moveV R xx t]))) := upd_same
          have hr9 : (upd H9 pl (.dT (plFrom 0 (Lc ++ [moveV R xx t])))) rr = some (.lst ur) := by rw [upd_ne nrp]; exact e69 _ _ hr6
          show (tSeq _ _) _ _ (upd H9 pl (.dT (plFrom 0 (Lc ++ [moveV R xx t]))))
          generalize upd H9 pl (.dT (plFrom 0 (Lc ++ [moveV R xx t]))) = H10 at sm9 tp9 hl9 hc9 hp9 hr9 ⊢
          refine r_app hl9 (fLi _ _ rfl sm9) (P := fun w _ => w = y) (ev_v (i := 7) rfl) (by rw [Paired.length pr6]; omega) fun v' H11 e11 ev => ?_
          subst ev
          have sm11 : Sm [la, pl, cm] H (upd H11 la (.lst (uc ++ [v']))) := (sm9.trans (Ex.sm e11)).upd (by simp)
          have tp11 : Tp H6 (upd H11 la (.lst (uc ++ [v']))) := (tp9.trans (Ex.tp e11)).trans (Tp.updL (e11 _ _ hl9))
          have hl11 : (upd H11 la (.lst (uc ++ [v']))) la = some (.lst (uc ++ [v'])) := upd_same
          have hc11 : (upd H11 la (.lst (uc ++ [v']))) cm = some (.lst cc6) := by rw [upd_ne nlc.symm]; exact e11 _ _ hc9
          have hp11 : (upd H11 la (.lst (uc ++ [v']))) pl = some (.dT (plFrom 0 (Lc ++ [moveV R xx t]))) := by rw [upd_ne nlp.symm]; exact e11 _ _ hp9
          have hr11 : (upd H11 la (.lst (uc ++ [v']))) rr = some (.lst ur) := by rw [upd_ne nra]; exact e11 _ _ hr9
          generalize upd H11 la (.lst (uc ++ [v'])) = H12 at sm11 tp11 hl11 hc11 hp11 hr11 ⊢
          refine r_appN hc11 (fCm _ _ rfl sm11) (P := fun _ _ => True) (EvP.imp (ed_tup (r := rI) (xs := [(at_ : Int), (t : Int)]) (es_cons (ed_var rfl rfl) (es_cons (ed_var rfl rfl) es_nil)) (by simp)) fun _ _ _ _ => trivial) (by omega) fun v2 H13 e13 _ => ?_
          have hcm13 := e13 _ _ hc11
          have t13 : Tp H12 (upd H13 cm (.lst (cc6 ++ [v2]))) := (Ex.tp e13).trans (Tp.updL hcm13)
          have tp13 := tp11.trans t13
          refine rest (Lc ++ [moveV R xx t]) _ tp13 ((sm11.trans (Ex.sm e13)).upd (by simp)) ⟨_, by rw [upd_ne nlc]; exact e13 _ _ hl11, ?_⟩ (by rw [upd_ne ncp.symm]; exact e13 _ _ hp11) ⟨_, upd_same, by rw [List.length_append, List.length_append]; simp; omega⟩ ⟨ur, by rw [upd_ne nrc]; exact e13 _ _ hr11, ?_⟩ (memt _ (fun z hz => List.mem_append_left _ hz) (List.mem_append_right _ (by simp))) ?_ ?_ (by rw [List.length_append]; simp; omega)
          · exact p_app (monT tp13 pr6) (.cons (Mon.mon tp13 ry) .nil)
          · rw [rowTo_app hmem]; exact monT tp13 pu6
          · rw [nxTo_succ, if_pos hc, addAll_app, hadd]
            show addAll most [moveV R xx t] Lc = _
            rw [addAll_new hny (by omega)]
            rfl
          · intro z hz
            rcases List.mem_append.mp hz with q | q
            · exact hlen z q
            · rw [List.mem_singleton.mp q, moveV_len]
      · intro hn H7 e7
        have hny : moveV R xx t ∈ Lc := by simpa using hn
        refine rest Lc H7 (Ex.tp e7) (sm6.trans (Ex.sm e7)) ⟨uc, e7 _ _ hl6, mons e7 pr6⟩ (e7 _ _ hp6) ⟨cc6, e7 _ _ hc6, hcc6⟩ ⟨ur, e7 _ _ hr6, mons e7 pu6⟩ (memt _ (fun z hz => hz) hny) ?_ hlen hle6
        rw [nxTo_succ, if_pos hc, addAll_app, hadd]
        show addAll most [moveV R xx t] Lc = _
        rw [addAll_in hny]
        rfl
    · intro hc H5 e5
      obtain ⟨sm6, tp06, h1, h2, h3, ⟨ur, hr6, pu6⟩, hmem, hadd, hlen, hle6⟩ := lo.ex e5
      refine ⟨tp4.trans (Ex.tp e5), Lc, _, _, ⟨sm6, tp06, h1, h2, h3, ⟨ur, hr6, ?_⟩, fun t' ht' hc' => ?_, ?_, hlen, hle6⟩, rfl⟩
      · rw [rowTo_succ, if_neg (by rw [hc]; simp), List.append_nil]; exact pu6
      · by_cases e : t' = t
        · rw [e, hc] at hc'; cases hc'
        · exact hmem t' (by omega) hc'
      · rw [nxTo_succ, if_neg (by rw [hc]; simp), List.append_nil]; exact hadd
  · rintro σ' H4 ⟨tp4, Lc, a, b, lo, rfl⟩
    obtain ⟨sm4, tp04, h1, h2, h3, ⟨ur, hr4, pu4⟩, hmem, hadd, hlen, hle4⟩ := lo
    refine r_ret (P := fun w' _ => w' = .ref rr) (ev_v (i := 5) rfl) fun w' H5 e5 ew => ?_
    subst ew
    obtain ⟨uc, hl4, pr4⟩ := h1
    obtain ⟨c4, hc4, hcc4⟩ := h3
    refine kq Lc _ H5 hadd (sm4.trans (Ex.sm e5)) (tp04.trans (Ex.tp e5)) ⟨e5 _ _ (obS _ sm4), Mon.mon (tp04.trans (Ex.tp e5)) ru, ⟨uc, e5 _ _ hl4, mons e5 pr4⟩, e5 _ _ h2, ⟨c4, e5 _ _ hc4, hcc4⟩, nlc⟩ (fun y hy => ?_) ⟨rr, ur, rfl, nrH, e5 _ _ hr4, mons e5 pu4⟩
    obtain ⟨t, q1, q2, q3⟩ := mem_nxV.mp hy
    rw [← q3]
    exact hmem t q1 q2
end
end M
/-! ## Q7 -/
/-! The program's search: made. -/
namespace M
open PySem L2 Evl PyProof.Rows
theorem putF_new {f : Str} {v : V} : ∀ {fs : List (Str × V)}, List.lookup f fs = none → putF f v fs = fs ++ [(f, v)]
  | [], _ => rfl
  | (g, x) :: r, h => by
    have hg : ¬ g = f := fun e => by
      rw [e, List.lookup_cons_self] at h
      cases h
    have hr : List.lookup f r = none := by
      rw [List.lookup_cons] at h
      have : (f == g) = false := by simpa using fun e : f = g => hg e.symm
      rw [this] at h
      exact h
    show (if g = f then (g, v) :: r else (g, x) :: putF f v r) = _
    rw [if_neg hg, putF_new hr]
    rfl
/-- none of those lists -/
def rNo {α : Type} (ls : List Addr) (r : Rp α) : Rp α := fun H v x => (∀ l ∈ ls, v ≠ .ref l) ∧ r H v x
instance {α : Type} {ls : List Addr} {r : Rp α} [MX r] : MX (rNo ls r) := ⟨fun e h => ⟨h.1, mon e h.2⟩⟩
theorem rNo_upd {α : Type} {r : Rp α} [Mon r] {H : Hp} {ls : List Addr} {l : Addr} {xs ys : List V} {v : V} {x : List α} (hin : l ∈ ls) (hl : H l = some (.lst ys)) (h : rNo ls (rL r) H v x) : rNo ls (rL r) (upd H l (.lst xs)) v x := by
  obtain ⟨h1, a, vs, e, h2, h3⟩ := h
  refine ⟨h1, a, vs, e, ?_, monT (Tp.updL hl) h3⟩
  have : a ≠ l := fun q => h1 l hin (by rw [e, q])
  rw [upd_ne this]
  exact h2
theorem rNo_sm {α : Type} {r : Rp α} [Mon r] {H H' : Hp} {ls ks : List Addr} {v : V} {x : List α} (s : Sm ks H H') (t : Tp H H') (hk : ∀ k ∈ ks, k ∈ ls ∨ ∃ kv, H k = some (.dT kv)) (h : rNo ls (rL r) H v x) : rNo ls (rL r) H' v x := by
  obtain ⟨h1, a, vs, e, h2, h3⟩ := h
  refine ⟨h1, a, vs, e, s _ _ (fun z => ?_) h2, monT t h3⟩
  rcases hk a z with q | ⟨kv, q⟩
  · exact h1 a q e
  · rw [h2] at q; cases q
theorem Sm.transN {l l2 : List Addr} {H H1 H2 : Hp} (a : Sm l H H1) (b : Sm l2 H1 H2) (h : ∀ z ∈ l2, H z = none) : Sm l H H2 := fun x o n q => b x o (fun z => by rw [h x z] at q; cases q) (a x o n q)
/-- a search object with its links -/
def rSe (cs : Cs) : Rp (Rule × List Vec) := fun H v p => ∃ x dx vr la pl lk cm, v = .ref x ∧ SrAt cs H x dx vr la pl lk cm p.1 p.2 ∧ rLinks H (.ref lk) (linksV p.1 p.2)
theorem SrAt.ex {cs : Cs} {H H' : Hp} {x dx : Addr} {vr : V} {la pl lk cm : Addr} {R : Rule} {L : List Vec} (h : SrAt cs H x dx vr la pl lk cm R L) (e : Ex H H') : SrAt cs H' x dx vr la pl lk cm R L := by
  obtain ⟨h1, h2, ⟨us, h3, h3'⟩, h4, ⟨cc, h5, h5'⟩, h6⟩ := h
  exact ⟨e _ _ h1, mon e h2, ⟨us, e _ _ h3, mons e h3'⟩, e _ _ h4, ⟨cc, e _ _ h5, h5'⟩, h6⟩
instance {cs : Cs} : MX (rSe cs) := ⟨fun e ⟨x, dx, vr, la, pl, lk, cm, h1, h2, h3⟩ => ⟨x, dx, vr, la, pl, lk, cm, h1, h2.ex e, mon e h3⟩⟩
structure InPre (R : Rule) (s : Vec) (most : Nat) : Prop where
  lr : LenR s.length R
  few : R.2.length ≤ 1000 ∧ s.length ≤ 1000
  most : 1 ≤ most ∧ most ≤ 40000
def sp_Search___init__ (cs : Cs) : Sp := fun vs H Q E => ∃ x dx v1 v2 R s, ∃ (most : Nat), vs = [.ref x, v1, v2, .int most, .non] ∧ H x = some (.ins cs.se dx []) ∧ rRule H v1 R ∧ rVec H v2 s ∧ InPre R s most ∧
  (∀ L H', reach R s most = some L → Sm [x] H H' → Tp H H' → rSe cs H' (.ref x) (R, L) → Q .non H') ∧
  (reach R s most = none → ∀ d H', Sm [x] H H' → H d = none → H' d = some (.xd tmF) → E (.ref cs.tm) (some d) H')
/-! Search.__init__: slots self 0, rule 1, standing 2, most 3, barrier 4, at 5 -/
def N_Search___init__ : List Str := ["self", "rule", "standing", "most", "barrier", "at"]
def t_Search___init__ (K : PySem.W.Frag) (cs : Cs) (E : XK) : TS :=
  (tSeq (tIfS (tTest (tOp oLt (tVar 3) (tC (.int 1)))) (tRaiseTm cs E) tNext)
  (tSeq (sFld K (tVar 0) (tVar 1) "rule")
  (tSeq (sFld K (tVar 0) (tLst (tCons (tVar 2) tNil)) "listed")
  (tSeq (sFld K (tVar 0) tDNewT "places")
  (tSeq (sDPut (tFld K (tVar 0) "places") (tVar 2) (tC (.int 0)))
  (tSeq (sFld K (tVar 0) (tLst tNil) "links")
  (tSeq (sFld K (tVar 0) (tLst (tCons (tTup (tCons (tUn (rU fun i => .int (-i)) (tC (.int 1))) (tCons (tUn (rU fun i => .int (-i)) (tC (.int 1))) tNil))) tNil)) "came")
  (tSeq (tAsg (tC (.int 0)) (gName 5))
  (tWhile (tTest (tOp oLt (tVar 5) (tCB (rLenS K) (tCons (tFld K (tVar 0) "listed") tNil)))) (tSeq (tDrop (tBM K "list" rAppend (tFld K (tVar 0) "links") (tCons (tMeth cs.se "links_of" (sp_Search_links_of cs) [] E (tVar 0) (tCons (tVar 5) (tCons (tVar 3) (tCons (tVar 4) tNil)))) tNil)))
  (tAug 5 (tC (.int 1)) (ipI fun i j => i + j))))))))))))
section
variable {K : PySem.W.Frag} {mg : Str → Option Value} {cs : Cs} {σ : L2.St} {H : Hp} {ta tv : TE} {P : V → Hp → Prop} {D : Ends} {tz : TS}
theorem r_fld (T : Txt K mg cs) {x dx : Addr} {fs : List (Str × V)} {f : Str} (hf : f ∈ (["rule", "listed", "places", "links", "came"] : List Str)) (h : EvP tv σ H P) (h0 : EvP ta σ H fun w _ => w = .ref x) (hx : H x = some (.ins cs.se dx fs)) (hl : fs.length < 1000) (hn : List.lookup f fs = none)
    (k : ∀ v H0 H1, Ex H H0 → Ex H0 H1 → P v H0 → tz D σ (upd H1 x (.ins cs.se dx (fs ++ [(f, v)])))) : tSeq (sFld K ta tv f) tz D σ H :=
  h.run fun v H1 e1 p => (h0.mono e1).run fun w H2 e2 ew => ⟨x, cs.se, dx, fs, ew, (e1.trans e2) _ _ hx, T.cl_Search, T.no f hf, hl, by rw [putF_new hn]; exact k v H1 H2 e1 e2 p⟩
theorem ev_lst1 (h : EvP tv σ H P) : EvP (tLst (tCons tv tNil)) σ H (fun w H' => ∃ c cc, w = .ref c ∧ H c = none ∧ H' c = some (.lst cc) ∧ cc.length = 1) := fun H1 e Q q =>
  h H1 e _ fun w H2 e2 _ => ⟨by show 1 ≤ sizeLine; decide, fun c nc => q _ _ (e2.trans (Ex.new nc)) ⟨c, [w], rfl, fresh_back (e.trans e2) nc, upd_same, rfl⟩⟩
theorem r_bm {T : String} {r : V → List V → Hp → VK → Prop} {t : TA} (ho : EvP ta σ H P) (k : ∀ v H1, Ex H H1 → P v H1 → tyV K T v H1 ∧ t σ H1 fun xs H2 => r v xs H2 fun _ H3 => tz D σ H3) : tSeq (tDrop (tBM K T r ta t)) tz D σ H := ho.run k
theorem ev_dnew : EvP tDNewT σ H (fun v H' => ∃ p, v = .ref p ∧ H p = none ∧ H' p = some (.dT [])) := fun H1 e Q q p hp => q _ _ (Ex.new hp) ⟨p, rfl, fresh_back e hp, upd_same⟩
end
section
variable {K : PySem.W.Frag} {mg : Str → Option Value} {cs : Cs} {vs : List V} {H : Hp} {Q : VK} {E : XK}
theorem len_Search___init__ (h : sp_Search___init__ cs vs H Q E) : vs.length = 5 := by
  obtain ⟨_, _, _, _, _, _, _, rfl, _⟩ := h
  rfl
theorem pure_Search___init__ (T : Txt K mg cs) (h : sp_Search___init__ cs vs H Q E) : t_Search___init__ K cs E { nx := fun _ H' => Q .non H', rt := Q } (start N_Search___init__ vs) H := by
  obtain ⟨x, dx, v1, v2, R, s, most, rfl, hx, r1, r2, ⟨p1, ⟨p2, p3⟩, p4, p5⟩, kq, ke⟩ := h
  have vx : ∀ (l' : L2.St) H', l'[0]? = some (some (.ref x)) → EvP (tVar 0) l' H' fun w _ => w = .ref x := fun l' H' h => ev_v h
  have tpx : ∀ {H' : Hp} {fs fs' : List (Str × V)}, H' x = some (.ins cs.se dx fs) → Tp H' (upd H' x (.ins cs.se dx fs')) := fun {H' fs fs'} h => Tp.upd h fun _ z => nomatch z
  refine r_if (b := false) (EvT.to (et_test' (ed_lt (ed_var (r := rI) (x := (most : Int)) rfl rfl) (ed_int (n := 1)))) (decide_eq_false (by omega))) (fun z => nomatch z) fun _ H1 e1 => ?_
  -- self.rule
  refine r_fld T (by simp) (P := fun w _ => w = v1) (ev_v (i := 1) rfl) (vx _ _ rfl) (e1 _ _ hx) (by simp) rfl fun v H2 H3 e2 e3 ev => ?_
  subst ev
  have e13 := (e1.trans e2).trans e3
  have sm3 : Sm [x] H (upd H3 x (.ins cs.se dx ([] ++ [(("rule" : Str), v)]))) := (Ex.sm e13).upd (by simp)
  have tp3 : Tp H (upd H3 x (.ins cs.se dx ([] ++ [(("rule" : Str), v)]))) := (Ex.tp e13).trans (tpx (e13 _ _ hx))
  have hx3 : (upd H3 x (.ins cs.se dx ([] ++ [(("rule" : Str), v)]))) x = some (.ins cs.se dx [(("rule" : Str), v)]) := upd_same
  generalize upd H3 x (.ins cs.se dx ([] ++ [(("rule" : Str), v)])) = H4 at sm3 tp3 hx3 ⊢
  -- self.listed
  refine r_fld T (by simp) (el_lst (r := rVec) (xs := [s]) (es_cons (ed_var rfl (Mon.mon tp3 r2)) es_nil) (by simp)) (vx _ _ rfl) hx3 (by simp) (by simp [List.lookup, n_lr]) fun v5 H5 H6 e5 e6 ⟨la, us, ev, nla, hla, pla⟩ => ?_
  subst ev
  have nxl : la ≠ x := (ne_of_none hx3 nla).symm
  have e46 := e5.trans e6
  have sm6 : Sm [x] H (upd H6 x (.ins cs.se dx ([(("rule" : Str), v)] ++ [(("listed" : Str), .ref la)]))) := (sm3.trans (Ex.sm e46)).upd (by simp)
  have tq6 : Tp H6 (upd H6 x (.ins cs.se dx ([(("rule" : Str), v)] ++ [(("listed" : Str), .ref la)]))) := tpx (e46 _ _ hx3)
  have tp6 := (tp3.trans (Ex.tp e46)).trans tq6
  have hx6 : (upd H6 x (.ins cs.se dx ([(("rule" : Str), v)] ++ [(("listed" : Str), .ref la)]))) x = some (.ins cs.se dx [(("rule" : Str), v), (("listed" : Str), .ref la)]) := upd_same
  have hla6 : (upd H6 x (.ins cs.se dx ([(("rule" : Str), v)] ++ [(("listed" : Str), .ref la)]))) la = some (.lst us) := by rw [upd_ne nxl]; exact e6 _ _ hla
  have pla6 := monT ((Ex.tp e6).trans tq6) pla
  have fr : ∀ {H' : Hp} {c : Addr} {fs : List (Str × V)}, Sm [x] H H' → H' x = some (.ins cs.se dx fs) → H' c = none → H c = none := fun {H' c fs} s h n => by
    cases hc : H c with
    | none => rfl
    | some o =>
      by_cases e : c = x
      · rw [e, h] at n; cases n
      · rw [s c o (by simpa using e) hc] at n; cases n
  have nlaH : H la = none := fr sm3 hx3 nla
  generalize upd H6 x (.ins cs.se dx ([(("rule" : Str), v)] ++ [(("listed" : Str), .ref la)])) = H7 at sm6 tq6 tp6 hx6 hla6 pla6 ⊢
  -- self.places
  refine r_fld T (by simp) ev_dnew (vx _ _ rfl) hx6 (by simp) (by simp [List.lookup, n_pr, n_pl]) fun v8 H8 H9 e8 e9 ⟨pl, ev, npl, hpl⟩ => ?_
  subst ev
  have nxp : pl ≠ x := (ne_of_none hx6 npl).symm
  have nlp : la ≠ pl := ne_of_none hla6 npl
  have nplH : H pl = none := fr sm6 hx6 npl
  have e79 := e8.trans e9
  have sm9 : Sm [x] H (upd H9 x (.ins cs.se dx ([(("rule" : Str), v), (("listed" : Str), .ref la)] ++ [(("places" : Str), .ref pl)]))) := (sm6.trans (Ex.sm e79)).upd (by simp)
  have tq9 : Tp H9 (upd H9 x (.ins cs.se dx ([(("rule" : Str), v), (("listed" : Str), .ref la)] ++ [(("places" : Str), .ref pl)]))) := tpx (e79 _ _ hx6)
  have tp9 := (tp6.trans (Ex.tp e79)).trans tq9
  have hx9 : (upd H9 x (.ins cs.se dx ([(("rule" : Str), v), (("listed" : Str), .ref la)] ++ [(("places" : Str), .ref pl)]))) x = some (.ins cs.se dx [(("rule" : Str), v), (("listed" : Str), .ref la), (("places" : Str), .ref pl)]) := upd_same
  have hla9 : (upd H9 x (.ins cs.se dx ([(("rule" : Str), v), (("listed" : Str), .ref la)] ++ [(("places" : Str), .ref pl)]))) la = some (.lst us) := by rw [upd_ne nxl]; exact e79 _ _ hla6
  have hpl9 : (upd H9 x (.ins cs.se dx ([(("rule" : Str), v), (("listed" : Str), .ref la)] ++ [(("places" : Str), .ref pl)]))) pl = some (.dT (plFrom 0 [])) := by rw [upd_ne nxp]; exact e9 _ _ hpl
  have pla9 := monT ((Ex.tp e79).trans tq9) pla6
  generalize upd H9 x (.ins cs.se dx ([(("rule" : Str), v), (("listed" : Str), .ref la)] ++ [(("places" : Str), .ref pl)])) = H10 at sm9 tq9 tp9 hx9 hla9 hpl9 pla9 ⊢
  -- self.places[standing] = 0
  refine r_dputS (L := []) (x := s) (ev_fld T (by simp) (vx _ _ rfl) hx9 (by simp [List.lookup, n_pr, n_pl])) (ed_var rfl (Mon.mon tp9 r2)) hpl9 (ed_int (n := 0)) (by simp) (by simp) fun H11 e11 => ?_
  have sm12 : Sm [x] H (upd H11 pl (.dT (plFrom 0 ([] ++ [s])))) := (sm9.trans (Ex.sm e11)).new nplH
  have tq12 : Tp H10 (upd H11 pl (.dT (plFrom 0 ([] ++ [s])))) := (Ex.tp e11).trans (Tp.updT (e11 _ _ hpl9))
  have tp12 := tp9.trans tq12
  have hx12 : (upd H11 pl (.dT (plFrom 0 ([] ++ [s])))) x = some (.ins cs.se dx [(("rule" : Str), v), (("listed" : Str), .ref la), (("places" : Str), .ref pl)]) := by rw [upd_ne nxp.symm]; exact e11 _ _ hx9
  have hla12 : (upd H11 pl (.dT (plFrom 0 ([] ++ [s])))) la = some (.lst us) := by rw [upd_ne nlp]; exact e11 _ _ hla9
  have hpl12 : (upd H11 pl (.dT (plFrom 0 ([] ++ [s])))) pl = some (.dT (plFrom 0 [s])) := upd_same
  have pla12 := monT tq12 pla9
  generalize upd H11 pl (.dT (plFrom 0 ([] ++ [s]))) = H12 at sm12 tq12 tp12 hx12 hla12 hpl12 pla12 ⊢
  -- self.links
  refine r_fld T (by simp) (el_lst (r := rV) (xs := []) es_nil (Nat.zero_le _)) (vx _ _ rfl) hx12 (by simp) (by simp [List.lookup, n_kr, n_kl, n_kp]) fun v13 H13 H14 e13 e14 ⟨lk, ul, ev, nlk, hlk, pru⟩ => ?_
  subst ev
  obtain rfl : ul = [] := rv_eq pru
  have nxk : lk ≠ x := (ne_of_none hx12 nlk).symm
  have nkl : la ≠ lk := ne_of_none hla12 nlk
  have nkp : pl ≠ lk := ne_of_none hpl12 nlk
  have nlkH : H lk = none := fr sm12 hx12 nlk
  have e1214 := e13.trans e14
  have sm15 : Sm [x] H (upd H14 x (.ins cs.se dx ([(("rule" : Str), v), (("listed" : Str), .ref la), (("places" : Str), .ref pl)] ++ [(("links" : Str), .ref lk)]))) := (sm12.trans (Ex.sm e1214)).upd (by simp)
  have tq15 : Tp H14 (upd H14 x (.ins cs.se dx ([(("rule" : Str), v), (("listed" : Str), .ref la), (("places" : Str), .ref pl)] ++ [(("links" : Str), .ref lk)]))) := tpx (e1214 _ _ hx12)
  have tp15 := (tp12.trans (Ex.tp e1214)).trans tq15
  have hx15 : (upd H14 x (.ins cs.se dx ([(("rule" : Str), v), (("listed" : Str), .ref la), (("places" : Str), .ref pl)] ++ [(("links" : Str), .ref lk)]))) x = some (.ins cs.se dx [(("rule" : Str), v), (("listed" : Str), .ref la), (("places" : Str), .ref pl), (("links" : Str), .ref lk)]) := upd_same
  have hla15 : (upd H14 x (.ins cs.se dx ([(("rule" : Str), v), (("listed" : Str), .ref la), (("places" : Str), .ref pl)] ++ [(("links" : Str), .ref lk)]))) la = some (.lst us) := by rw [upd_ne nxl]; exact e1214 _ _ hla12
  have hpl15 : (upd H14 x (.ins cs.se dx ([(("rule" : Str), v), (("listed" : Str), .ref la), (("places" : Str), .ref pl)] ++ [(("links" : Str), .ref lk)]))) pl = some (.dT (plFrom 0 [s])) := by rw [upd_ne nxp]; exact e1214 _ _ hpl12
  have hlk15 : (upd H14 x (.ins cs.se dx ([(("rule" : Str), v), (("listed" : Str), .ref la), (("places" : Str), .ref pl)] ++ [(("links" : Str), .ref lk)]))) lk = some (.lst []) := by rw [upd_ne nxk]; exact e14 _ _ hlk
  have pla15 := monT ((Ex.tp e1214).trans tq15) pla12
  generalize upd H14 x (.ins cs.se dx ([(("rule" : Str), v), (("listed" : Str), .ref la), (("places" : Str), .ref pl)] ++ [(("links" : Str), .ref lk)])) = H15 at sm15 tq15 tp15 hx15 hla15 hpl15 hlk15 pla15 ⊢
  -- self.came
  have hpair : ∀ l' : L2.St, EvP (tTup (tCons (tUn (rU fun i => .int (-i)) (tC (.int 1))) (tCons (tUn (rU fun i => .int (-i)) (tC (.int 1))) tNil))) l' H15 (fun _ _ => True) := fun l' =>
    EvP.imp (ed_tup (r := rI) (xs := [-1, -1]) (es_cons (ed_neg (ed_int (n := 1))) (es_cons (ed_neg (ed_int (n := 1))) es_nil)) (by simp)) fun _ _ _ _ => trivial
  refine r_fld T (by simp) (ev_lst1 (hpair _)) (vx _ _ rfl) hx15 (by simp) (by simp [List.lookup, n_cr, n_cl, n_cp, n_ck]) fun v16 H16 H17 e16 e17 ⟨cm, cc, ev, ncm, hcm, hcc⟩ => ?_
  subst ev
  have nxc : cm ≠ x := (ne_of_none hx15 ncm).symm
  have ncl : la ≠ cm := ne_of_none hla15 ncm
  have ncp : pl ≠ cm := ne_of_none hpl15 ncm
  have nck : lk ≠ cm := ne_of_none hlk15 ncm
  have ncmH : H cm = none := fr sm15 hx15 ncm
  have e1517 := e16.trans e17
  have sm18 : Sm [x] H (upd H17 x (.ins cs.se dx ([(("rule" : Str), v), (("listed" : Str), .ref la), (("places" : Str), .ref pl), (("links" : Str), .ref lk)] ++ [(("came" : Str), .ref cm)]))) := (sm15.trans (Ex.sm e1517)).upd (by simp)
  have tq18 : Tp H17 (upd H17 x (.ins cs.se dx ([(("rule" : Str), v), (("listed" : Str), .ref la), (("places" : Str), .ref pl), (("links" : Str), .ref lk)] ++ [(("came" : Str), .ref cm)]))) := tpx (e1517 _ _ hx15)
  have tp18 := (tp15.trans (Ex.tp e1517)).trans tq18
  have at18 : SrAt cs (upd H17 x (.ins cs.se dx ([(("rule" : Str), v), (("listed" : Str), .ref la), (("places" : Str), .ref pl), (("links" : Str), .ref lk)] ++ [(("came" : Str), .ref cm)]))) x dx v la pl lk cm R [s] :=
    ⟨upd_same, Mon.mon tp18 r1, ⟨us, by rw [upd_ne nxl]; exact e1517 _ _ hla15, monT ((Ex.tp e1517).trans tq18) pla15⟩, by rw [upd_ne nxp]; exact e1517 _ _ hpl15, ⟨cc, by rw [upd_ne nxc]; exact e17 _ _ hcm, by rw [hcc]; simp⟩, ncl⟩
  have hlk18 : (upd H17 x (.ins cs.se dx ([(("rule" : Str), v), (("listed" : Str), .ref la), (("places" : Str), .ref pl), (("links" : Str), .ref lk)] ++ [(("came" : Str), .ref cm)]))) lk = some (.lst []) := by rw [upd_ne nxk]; exact e1517 _ _ hlk15
  generalize upd H17 x (.ins cs.se dx ([(("rule" : Str), v), (("listed" : Str), .ref la), (("places" : Str), .ref pl), (("links" : Str), .ref lk)] ++ [(("came" : Str), .ref cm)])) = H18 at sm18 tq18 tp18 at18 hlk18 ⊢
  refine r_asg (ed_int (n := 0)) fun w0 H19 e19 rw0 => ?_
  cases rw0
  have hfr : ∀ z ∈ [la, pl, cm], H z = none := fun z hz => by
    simp only [List.mem_cons, List.not_mem_nil, or_false] at hz
    rcases hz with q | q | q
    · rw [q]; exact nlaH
    · rw [q]; exact nplH
    · rw [q]; exact ncmH
  refine s_while (fun q σ H' => ∃ (i : Nat) (L : List Vec) (rs : List V), q = most + 1 - i ∧ i ≤ L.length ∧ L.length ≤ most ∧ σ = [some (.ref x), some v, some v2, some (.int most), some .non, some (.int i)] ∧ Sm [x] H H' ∧ Tp H H' ∧ SrAt cs H' x dx v la pl lk cm R L ∧
    H' lk = some (.lst rs) ∧ Paired (rNo [la, cm, lk] rRow H') rs ((L.take i).map (linkRow R L)) ∧ (∀ y ∈ L, y.length = s.length) ∧ (∀ y ∈ L.take i, ∀ z ∈ nxV R y, z ∈ L) ∧ reach R s most = bfs most (nxV R) (most + 1 - i) i L) (most + 1) ?_ ?_
  · exact ⟨0, [s], [], rfl, Nat.zero_le _, p4, rfl, sm18.trans (Ex.sm e19), tp18.trans (Ex.tp e19), at18.ex e19, e19 _ _ hlk18, .nil, fun y hy => by rw [List.mem_singleton.mp hy], fun y hy => (by rw [List.take_zero] at hy; cases hy), rfl⟩
  · rintro q σ H20 ⟨i, L, rs, rfl, hi, hL, rfl, sm20, tp20, at20, hlk20, prk, hlen, hcl, heq⟩
    obtain ⟨us20, hla20, pla20⟩ := at20.hla
    have fLi : ∀ (l' : L2.St) H', l'[0]? = some (some (.ref x)) → Ex H20 H' → Ed (tFld K (tVar 0) "listed") l' H' (rL rVec) L := fun l' H' h e => EvP.ed (ev_fld T (by simp) (ev_v h) (e _ _ at20.ob) srF_listed) ⟨la, us20, rfl, e _ _ hla20, mons e pla20⟩
    refine ⟨_, et_test' (ed_lt (ed_var (r := rI) (x := (i : Int)) rfl rfl) (ed_lenL (fLi _ _ rfl (Ex.refl _)))), ?_, ?_⟩
    · intro hb H21 e21
      have hil : i < L.length := by
        have := of_decide_eq_true hb
        omega
      obtain ⟨xx, hxx⟩ : ∃ y, L[i]? = some y := ⟨_, List.getElem?_eq_getElem hil⟩
      have hxl := hlen xx (List.mem_of_getElem? hxx)
      have heq2 : reach R s most = (addAll most (nxV R xx) L).bind (bfs most (nxV R) (most - i) (i + 1)) := by
        rw [heq, show most + 1 - i = (most - i) + 1 by omega]
        exact bfs_at hxx
      have at21 := at20.ex e21
      have hrs : rs.length = i := by rw [Paired.length prk, List.length_map, List.length_take]; omega
      refine ⟨fun σ' H' => ∃ (L' : List Vec) (rs : List V), i + 1 ≤ L'.length ∧ L'.length ≤ most ∧ σ' = [some (.ref x), some v, some v2, some (.int most), some .non, some (.int ((i : Int) + 1))] ∧ Sm [x] H H' ∧ Tp H H' ∧ SrAt cs H' x dx v la pl lk cm R L' ∧
        H' lk = some (.lst rs) ∧ Paired (rNo [la, cm, lk] rRow H') rs ((L'.take (i + 1)).map (linkRow R L')) ∧ (∀ y ∈ L', y.length = s.length) ∧ (∀ y ∈ L'.take (i + 1), ∀ z ∈ nxV R y, z ∈ L') ∧ reach R s most = bfs most (nxV R) (most - i) (i + 1) L', ?_, ?_⟩
      · rintro σ2 H2' ⟨L', rs', q2, q3, q4, q5, q6, q7, q8, q9, q10, q11, q12⟩
        refine ⟨most + 1 - (i + 1), by omega, i + 1, L', rs', rfl, q2, q3, by rw [q4]; congr 1, q5, q6, q7, q8, q9, q10, q11, by rw [q12]; congr 1; omega⟩
      · have fLk : EvP (tFld K (tVar 0) "links") [some (.ref x), some v, some v2, some (.int most), some .non, some (.int i)] H21 fun w _ => w = .ref lk := ev_fld T (by simp) (ev_v rfl) at21.ob srF_links
        refine r_bm fLk fun w22 H22 e22 ew => ?_
        subst ew
        have at22 := at21.ex e22
        have e2022 := e21.trans e22
        refine ⟨Or.inl ⟨rfl, rs, sq_of (e2022 _ _ hlk20)⟩, .ref x, rfl, x, dx, _, rfl, at22.ob, srF_no (by decide +kernel) (by decide +kernel) (by decide +kernel) (by decide +kernel) (by decide +kernel), _, rfl, _, rfl, _, rfl, ?_⟩
        refine ⟨x, dx, v, la, pl, lk, cm, R, L, xx, i, most, rfl, at22, ⟨hxx, by rw [hxl]; exact p1, ⟨p2, by omega⟩, fun y hy => by rw [hlen y hy, hxl], hL, p5⟩, ?_, ?_⟩
        · intro L' w23 H23 hadd sm23 tp23 at23 hclo ⟨rr, ur, ew, nrr, hrr, prr⟩
          subst ew
          obtain ⟨M, hM⟩ := addAll_pre hadd
          have hlk22 := e2022 _ _ hlk20
          have hlkno : lk ∉ [la, pl, cm] := fun z => by
            simp only [List.mem_cons, List.not_mem_nil, or_false] at z
            rcases z with z | z | z
            · exact nkl z.symm
            · exact nkp z.symm
            · exact nck z
          have hlk23 := sm23 _ _ hlkno hlk22
          refine ⟨lk, rs, .ref rr, rfl, rfl, hlk23, sz_lt (by omega), ?_⟩
          have hsm22 := (sm20.trans (Ex.sm e2022)).transN sm23 hfr
          have nrlk : rr ≠ lk := (ne_of_none hlk22 nrr).symm
          have nrla : rr ≠ la := by
            obtain ⟨u, h1, _⟩ := at22.hla
            exact (ne_of_none h1 nrr).symm
          have nrcm : rr ≠ cm := by
            obtain ⟨u, h1, _⟩ := at22.hcm
            exact (ne_of_none h1 nrr).symm
          have tpl : Tp H23 (upd H23 lk (.lst (rs ++ [.ref rr]))) := Tp.updL hlk23
          refine r_augN rfl (ed_int (n := 1)) fun H24 e24 => ?_
          have hlenL' : L.length ≤ L'.length := by rw [hM, List.length_append]; omega
          have htake : L'.take (i + 1) = L.take i ++ [xx] := by
            rw [hM, List.take_append_of_le_length (by omega), List.take_add_one, hxx]; rfl
          have hmemL : ∀ y ∈ L, y ∈ L' := fun y hy => by rw [hM]; exact List.mem_append_left _ hy
          have hrow : ∀ y ∈ L.take i, linkRow R L' y = linkRow R L y := fun y hy => by
            unfold linkRow
            refine List.map_congr_left fun t ht => ?_
            rw [List.mem_filter, List.mem_range] at ht
            rw [hM, List.idxOf_append, if_pos (hcl y hy _ (mem_nxV.mpr ⟨t, ht.1, ht.2, rfl⟩))]
          refine ⟨L', rs ++ [.ref rr], by omega, addAll_len hadd hL, rfl, (hsm22.new nlkH).trans (Ex.sm e24), (((tp20.trans (Ex.tp e2022)).trans tp23).trans tpl).trans (Ex.tp e24), SrAt.ex ?_ e24, e24 _ _ upd_same, mons e24 ?_, fun y hy => ?_, fun y hy z hz => ?_, ?_⟩
          · obtain ⟨g1, g2, ⟨u1, g3, g3'⟩, g4, ⟨u2, g5, g5'⟩, g6⟩ := at23
            exact ⟨by rw [upd_ne nxk.symm]; exact g1, Mon.mon tpl g2, ⟨u1, by rw [upd_ne nkl]; exact g3, monT tpl g3'⟩, by rw [upd_ne nkp]; exact g4, ⟨u2, by rw [upd_ne nck.symm]; exact g5, g5'⟩, g6⟩
          · rw [htake, List.map_append, List.map_congr_left hrow]
            have hks : ∀ k ∈ [la, pl, cm], k ∈ [la, cm, lk] ∨ ∃ kv, H22 k = some (.dT kv) := fun z hz => by
              simp only [List.mem_cons, List.not_mem_nil, or_false] at hz
              rcases hz with q | q | q
              · rw [q]; exact .inl (by simp)
              · rw [q]; exact .inr ⟨_, at22.hpl⟩
              · rw [q]; exact .inl (by simp)
            refine p_app (Paired.mapP prk fun _ _ q => rNo_upd (by simp) hlk23 (rNo_sm sm23 tp23 hks (mon e2022 q))) (.cons (rNo_upd (by simp) hlk23 ⟨fun l hl z => ?_, rr, ur, rfl, hrr, prr⟩) .nil)
            simp only [List.mem_cons, List.not_mem_nil, or_false] at hl
            have z' := V.ref.inj z
            rcases hl with q | q | q
            · exact nrla (z'.trans q)
            · exact nrcm (z'.trans q)
            · exact nrlk (z'.trans q)
          · rcases (addAll_mem hadd y).mp hy with q | q
            · exact hlen y q
            · obtain ⟨t, _, _, q3⟩ := mem_nxV.mp q
              rw [← q3, moveV_len]
              exact hxl
          · rw [htake] at hy
            rcases List.mem_append.mp hy with q | q
            · exact hmemL z (hcl y q z hz)
            · rw [List.mem_singleton.mp q] at hz; exact hclo z hz
          · rw [heq2, hadd]; rfl
        · intro hadd d H23 sm23 nd hd
          refine ke (by rw [heq2, hadd]; rfl) d H23 ((sm20.trans (Ex.sm e2022)).transN sm23 hfr) (fr (sm20.trans (Ex.sm e2022)) at22.ob nd) hd
    · intro hb H21 e21
      have hil : L.length ≤ i := by
        have := of_decide_eq_false hb
        omega
      have hfull : L.take i = L := List.take_of_length_le hil
      rw [hfull] at prk
      refine kq L H21 ?_ (sm20.trans (Ex.sm e21)) (tp20.trans (Ex.tp e21)) ⟨x, dx, v, la, pl, lk, cm, rfl, at20.ex e21, lk, rs, rfl, e21 _ _ hlk20, Paired.mapP (mons e21 prk) fun _ _ q => q.2⟩
      rw [heq, show most + 1 - i = (most - i) + 1 by omega, bfs_end hil]
end
end M
/-! ## Q8 -/
/-! The program's steps to a goal. -/
namespace M
open PySem L2 Evl PyProof.Rows
def sp_Search_steps_to (cs : Cs) : Sp := fun vs H Q E => ∃ x R L v2 y, vs = [.ref x, v2] ∧ rSe cs H (.ref x) (R, L) ∧ rVec H v2 y ∧ y ∈ L ∧ LkFit (linksV R L) (L.idxOf y) ∧
  ∀ w H' st, Ex H H' → rSteps H' w st → StOk (linksV R L) (L.idxOf y) st → Q w H'
/-! Search.steps_to: slots self 0, goal 1, steps 2, back 3, at 4, deed 5, there 6, front 7, here 8, standing 9 -/
def N_Search_steps_to : List Str := ["self", "goal", "steps", "back", "at", "deed", "there", "front", "here", "standing"]
def t_Search_steps_to (K : PySem.W.Frag) (cs : Cs) (E : XK) : TS :=
  (tSeq (tAsg (tLc (iList K (tFld K (tVar 0) "listed")) (gName 9) tYes (tC .non) [9]) (gName 2))
  (tSeq (tIfS (tB (tDNotIn (tVar 1) (tFld K (tVar 0) "places"))) (tRet (tVar 2)) tNext)
  (tSeq (tAsg (tLc (iList K (tFld K (tVar 0) "listed")) (gName 9) tYes (tLst tNil) [9]) (gName 3))
  (tSeq (tFor (iRng1 (tCons (tCB (rLenS K) (tCons (tFld K (tVar 0) "listed") tNil)) tNil)) (gName 4) (tFor (iList K (tOp (rIxL K) (tFld K (tVar 0) "links") (tVar 4))) (gTup K 2 (gCons (gName 5) (gCons (gName 6) gNil))) (tDrop (tBM K "list" rAppend (tOp (rIxL K) (tVar 3) (tVar 6)) (tCons (tVar 4) tNil)))))
  (tSeq (tAsg (tLst (tCons (tDGet (tFld K (tVar 0) "places") (tVar 1)) tNil)) (gName 7))
  (tSeq (tAsg (tC (.int 0)) (gSub (tVar 2) (tOp (rIxL K) (tVar 7) (tC (.int 0))) rSetL))
  (tSeq (tAsg (tC (.int 0)) (gName 4))
  (tSeq (tWhile (tTest (tOp oLt (tVar 4) (tCB (rLenS K) (tCons (tVar 7) tNil)))) (tSeq (tAsg (tOp (rIxL K) (tVar 7) (tVar 4)) (gName 8))
  (tSeq (tFor (iList K (tOp (rIxL K) (tVar 3) (tVar 8))) (gName 6) (tIfS (tTest (tOp rIsN (tOp (rIxL K) (tVar 2) (tVar 6)) (tC .non))) (tSeq (tAsg (tOp oAdd (tOp (rIxL K) (tVar 2) (tVar 8)) (tC (.int 1))) (gSub (tVar 2) (tVar 6) rSetL))
  (tDrop (tBM K "list" rAppend (tVar 7) (tCons (tVar 6) tNil)))) tNext))
  (tAug 4 (tC (.int 1)) (ipI fun i j => i + j)))))
  (tRet (tVar 2))))))))))
section
variable {K : PySem.W.Frag} {mg : Str → Option Value} {cs : Cs} {vs : List V} {H : Hp} {Q : VK} {E : XK}
theorem len_Search_steps_to (h : sp_Search_steps_to cs vs H Q E) : vs.length = 2 := by
  obtain ⟨_, _, _, _, _, rfl, _⟩ := h
  rfl
theorem pure_Search_steps_to (T : Txt K mg cs) (h : sp_Search_steps_to cs vs H Q E) : t_Search_steps_to K cs E { nx := fun _ H' => Q .non H', rt := Q } (start N_Search_steps_to vs) H := by
  obtain ⟨x, R, L0, v2, y0, rfl, ⟨x', dx, vr, la, pl, lk, cm, ex, at0', r1⟩, ry0, hy0, ⟨f1, f2, f3, f4⟩, k⟩ := h
  cases ex
  obtain ⟨us0, hla0, pla0⟩ := at0'.hla
  have hn : (linksV R L0).length = L0.length := linksV_len
  have hLi : ∀ (l' : L2.St) H', l'[0]? = some (some (.ref x)) → Ex H H' → Ed (tFld K (tVar 0) "listed") l' H' (rL rVec) L0 := fun l' H' h e => EvP.ed (ev_fld T (by simp) (ev_v h) (e _ _ at0'.ob) srF_listed) ⟨la, us0, rfl, e _ _ hla0, mons e pla0⟩
  have fPl : ∀ (l' : L2.St) H', l'[0]? = some (some (.ref x)) → Ex H H' → EvP (tFld K (tVar 0) "places") l' H' fun w _ => w = .ref pl := fun l' H' h e => ev_fld T (by simp) (ev_v h) (e _ _ at0'.ob) srF_places
  have fLk : ∀ (l' : L2.St) H', l'[0]? = some (some (.ref x)) → Ex H H' → EvP (tFld K (tVar 0) "links") l' H' fun w _ => w = .ref lk := fun l' H' h e => ev_fld T (by simp) (ev_v h) (e _ _ at0'.ob) srF_links
  generalize hLS : linksV R L0 = LS at *
  generalize hgg : L0.idxOf y0 = g at *
  -- the steps
  refine r_asg (el_mapL (r := rO rN) (s := rVec) (fun _ => none) (hLi _ _ rfl (Ex.refl _)) (by omega) (fun _ => rfl) fun i x v H3 e3 hx rx => ed_non rfl) fun v H3 e3 ⟨sl, vs0, ev, nsl, hsl, prs⟩ => ?_
  subst ev
  have hvs0 := stV_eq prs
  subst hvs0
  refine r_if (b := false) (EvT.to (et_B' (ed_nin (ed_var rfl (mon e3 ry0)) (fPl _ _ rfl e3) (e3 _ _ at0'.hpl))) (by simp [hy0])) (fun z => nomatch z) fun _ H3' e3' => ?_
  have e03' := e3.trans e3'
  -- the lists behind
  refine r_asg (ev_lists (r := rVec) (hLi _ _ rfl e03') (by omega) (fun _ => rfl)) fun v H1 e1 ⟨bk, as, ev, b1'⟩ => ?_
  subst ev
  have hmapL : (L0.map fun _ => ([] : List Nat)) = LS.map fun _ => [] := by
    apply List.ext_getElem?
    intro z
    rw [List.getElem?_map, List.getElem?_map]
    by_cases hz : z < L0.length
    · rw [List.getElem?_eq_getElem hz, List.getElem?_eq_getElem (by omega)]; rfl
    · rw [List.getElem?_eq_none (by omega), List.getElem?_eq_none (by omega)]; rfl
  have hmapS : (L0.map fun _ => (none : Option Nat)) = List.replicate LS.length none := by
    apply List.ext_getElem?
    intro z
    rw [List.getElem?_map, List.getElem?_replicate]
    by_cases hz : z < L0.length
    · rw [List.getElem?_eq_getElem hz, if_pos (by omega)]; rfl
    · rw [List.getElem?_eq_none (by omega), if_neg (by omega)]; rfl
  rw [hmapL] at b1'
  rw [hmapS] at hsl
  have b1 : Bk H bk as (LS.map fun _ => []) H1 := ⟨fresh_back e03' b1'.fb, fun a ha => fresh_back e03' (b1'.fa a ha), b1'.ne, b1'.nd, b1'.len, b1'.top, b1'.at_⟩
  have hsl3' := e3' _ _ hsl
  have nsk : sl ≠ bk := ne_of_none hsl3' b1'.fb
  have nsa : sl ∉ as := fun hm => by
    have := b1'.fa sl hm
    rw [hsl3'] at this
    cases this
  have e01 := e03'.trans e1
  have hsl1 := e1 _ _ hsl3'
  have nslH : H sl = none := nsl
  obtain ⟨lk', rws, elk, hlk, prk⟩ := id r1
  cases elk
  refine r_forN (n := L0.length) (ed_lenL (hLi _ _ rfl e01)) (by omega) (fun i σ' H' => Ex H H' ∧ ∃ B a b c, Bk H bk as B H' ∧ BkTo LS i 0 B ∧ H' sl = some (.lst ((List.replicate LS.length none).map stV)) ∧ σ' = [some (.ref x), some v2, some (.ref sl), some (.ref bk), a, b, c, none, none, none])
    (fun H2 e2 => ⟨e01.trans e2, _, none, none, none, b1.ex e2, BkTo.zero, e2 _ _ hsl1, rfl⟩) ?_ ?_
  · rintro i σ' H2 hi' ⟨e2, B, a, b, c, hB, hT, hsl2, rfl⟩
    have hi : i < LS.length := by omega
    have hx : LS[i]? = some (LS.getD i []) := by rw [List.getD_eq_getElem?_getD, List.getElem?_eq_getElem hi]; rfl
    obtain ⟨wr, hwr, ra, us, rfl, hra, pra⟩ := p_get prk hx
    have hlen := Paired.length pra
    refine r_forGA (a := ra) (us := us) (EvP.imp (ed_ixL (r := rV) (xs := rws) (k := i) (y := .ref ra) (EvP.ed (r := rL rV) (x := rws) (fLk _ _ rfl e2) ⟨lk, rws, rfl, e2 _ _ hlk, rv_refl _⟩) (ed_var (r := rI) (x := (i : Int)) rfl rfl) hwr) fun _ _ _ q => q) (e2 _ _ hra) (fun q σ' H' => Ex H H' ∧ Tp H H' ∧ H' ra = some (.lst us) ∧ ∃ B b c, Bk H bk as B H' ∧ BkTo LS i q B ∧ H' sl = some (.lst ((List.replicate LS.length none).map stV)) ∧ σ' = [some (.ref x), some v2, some (.ref sl), some (.ref bk), some (.int i), b, c, none, none, none]) (fun H3 e3 => ⟨e2.trans e3, Ex.tp (e2.trans e3), (e2.trans e3) _ _ hra, B, _, _, hB.ex e3, hT, e3 _ _ hsl2, rfl⟩) (fun q σ' H' p => p.2.2.1) ?_ ?_
    · rintro q v σ' H4 hv ⟨e4, tp4, hra4, B', b', c', hB', hT', hsl4, rfl⟩
      obtain ⟨p, hp, rp⟩ := p_get' pra hv
      obtain ⟨t, j⟩ := p
      have hj : j < LS.length := f1 i _ (List.mem_of_getElem? hp)
      obtain ⟨a, ha, hb, hla⟩ := hB'.get (j := j) (by rw [hT'.1]; exact hj)
      refine g_pair (Mon.mon tp4 rp) fun w1 w2 hw1 hw2 => ?_
      cases hw2
      have ham := List.mem_of_getElem? ha
      have hne : a ≠ ra := fun z => by
        have := hB'.fa a ham
        rw [z, hra] at this
        cases this
      have hnes : a ≠ sl := fun z => nsa (by rw [← z]; exact ham)
      refine r_appN hla (P := fun w' _ => w' = .int (i : Int)) (EvP.imp (ed_ixL (r := rV) (xs := as.map V.ref) (k := j) (y := .ref a) (ed_var rfl ⟨bk, _, rfl, hB'.top, rv_refl _⟩) (ed_var (r := rI) (x := (j : Int)) rfl rfl) (by rw [List.getElem?_map, ha]; rfl)) fun _ _ _ q => q) (ev_v rfl) ?_ fun v' H5 e5 ev => ?_
      · unfold natL
        rw [List.length_map]
        have := hT'.2.1 j
        have := (List.getElem?_eq_some_iff.mp hp).1
        have := f4 i
        omega
      · subst ev
        have hB5 := (hB'.ex e5).app (x := i) ha hb
        refine ⟨Ex.mut (e4.trans e5) (hB'.fa a ham), (tp4.trans (Ex.tp e5)).trans (Tp.updL (e5 _ _ hla)), by rw [upd_ne hne.symm]; exact e5 _ _ hra4, _, _, _, hB5, hT'.step hp hj, by rw [upd_ne hnes.symm]; exact e5 _ _ hsl4, rfl⟩
    · rintro σ' H4 ⟨e4, tp4, hra4, B', b', c', hB', hT', hsl4, rfl⟩
      rw [hlen] at hT'
      exact ⟨e4, B', _, _, _, hB', hT'.row (f4 i), hsl4, rfl⟩
  · rintro σ' H2 ⟨e2, B, a, b, c, hB, hT, hsl2, rfl⟩
    have hOk : BkOk LS B := by
      rw [← hn] at hT
      exact hT.ok
    -- the ones that wait
    have hgn : Ed (tDGet (tFld K (tVar 0) "places") (tVar 1)) [some (.ref x), some v2, some (.ref sl), some (.ref bk), a, b, c, none, none, none] H2 rN g := by
      rw [← hgg]
      exact ed_dget (fPl _ _ rfl e2) (ed_var rfl (mon e2 ry0)) (e2 _ _ at0'.hpl) hy0
    refine r_asg (el_lst (r := rN) (xs := [g]) (es_cons hgn es_nil) (by simp)) fun v H4 e4 ⟨wl, ws0, ev, nwl, hwl, prw⟩ => ?_
    subst ev
    have hws0 := natL_eq prw
    subst hws0
    have nwlH := fresh_back e2 nwl
    have nsw : sl ≠ wl := ne_of_none hsl2 nwl
    have nwk : wl ≠ bk := (ne_of_none hB.top nwl).symm
    have nwa : wl ∉ as := fun hm => by
      obtain ⟨i', hi'⟩ := List.getElem?_of_mem hm
      have hlt := (List.getElem?_eq_some_iff.mp hi').1
      obtain ⟨a', q1, q2, q3⟩ := hB.get (j := i') (by rw [← hB.len]; exact hlt)
      rw [hi'] at q1
      cases q1
      rw [nwl] at q3
      cases q3
    have hB4 := hB.ex e4
    refine r_setL (l := sl) (j := g) (e4 _ _ hsl2) (ed_int (n := 0)) (ev_v (i := 2) rfl) (ed_ixL (r := rN) (xs := [g]) (k := 0) (y := g) (ed_var rfl ⟨wl, _, rfl, hwl, natL_rs _⟩) (ed_int (n := 0)) rfl) (by rw [List.length_map, List.length_replicate]; exact f2) fun v' H5a H5b e5a e5b ev => ?_
    cases ev
    have e45 := e5a.trans e5b
    have hsl5 : (upd H5b sl (.lst (((List.replicate LS.length none).map stV).set g (.int 0)))) sl = some (.lst (((List.replicate LS.length none).set g (some 0)).map stV)) := by rw [upd_same, List.map_set]; rfl
    have hwl5 : (upd H5b sl (.lst (((List.replicate LS.length none).map stV).set g (.int 0)))) wl = some (.lst (natL [g])) := by rw [upd_ne nsw.symm]; exact e45 _ _ hwl
    have hB5 := (hB4.ex e45).other (o := .lst (((List.replicate LS.length none).map stV).set g (.int 0))) nsa nsk
    have e5 : Ex H (upd H5b sl (.lst (((List.replicate LS.length none).map stV).set g (.int 0)))) := Ex.mut ((e2.trans e4).trans e45) nslH
    generalize upd H5b sl (.lst (((List.replicate LS.length none).map stV).set g (.int 0))) = H5 at hsl5 hwl5 hB5 e5 ⊢
    refine r_asg (ed_int (n := 0)) fun w0 H6 e6 rw0 => ?_
    cases rw0
    refine r_while (fun m σ' H' => ∃ (i : Nat) (b c d e : Option V), i ≤ LS.length ∧ m = LS.length - i ∧ BackSt H bk wl sl as B LS.length g i H' ∧ σ' = [some (.ref x), some v2, some (.ref sl), some (.ref bk), some (.int i), b, c, some (.ref wl), d, e]) LS.length
      ⟨0, _, _, _, _, Nat.zero_le _, rfl, ⟨e5.trans e6, hB5.ex e6, [g], [0], _, e6 _ _ hwl5, e6 _ _ hsl5, Bst.start _ g, Lv.start f2⟩, rfl⟩ ?_
    rintro m σ' H7 ⟨i, b, c, d, e', hi, rfl, ⟨e7, hB7, L, lv, st, hwl7, hsl7, hb7, hv7⟩, rfl⟩
    have hLn : L.length ≤ LS.length := nodup_lt hb7.nd hv7.lt
    refine ⟨_, et_test' (ed_lt (ed_var (r := rI) (x := (i : Int)) rfl rfl) (ed_lenL (r := rN) (xs := L) (ed_var rfl ⟨wl, _, rfl, hwl7, natL_rs _⟩))), ?_, ?_⟩
    · intro hlt H8 e8
      have hil : i < L.length := by
        have := of_decide_eq_true hlt
        omega
      obtain ⟨xi, hx⟩ : ∃ x, L[i]? = some x := ⟨_, List.getElem?_eq_getElem hil⟩
      obtain ⟨e, he⟩ : ∃ e, lv[i]? = some e := ⟨lv[i]'(by rw [hb7.len]; exact hil), List.getElem?_eq_getElem _⟩
      have hxn : xi < LS.length := hv7.lt xi (List.mem_of_getElem? hx)
      obtain ⟨ax, hax, hbx, hlx⟩ := hB7.get (j := xi) (by rw [hOk.1]; exact hxn)
      have hwk := hb7.at_ i xi e hx he
      have nax : ax ∈ as := List.mem_of_getElem? hax
      have naw : ax ≠ wl := fun z => nwa (by rw [← z]; exact nax)
      have nasl : ax ≠ sl := fun z => nsa (by rw [← z]; exact nax)
      refine ⟨fun σ' H' => ∃ (b c d e : Option V), BackSt H bk wl sl as B LS.length g (i + 1) H' ∧ σ' = [some (.ref x), some v2, some (.ref sl), some (.ref bk), some (.int ((i : Int) + 1)), b, c, some (.ref wl), d, e], ?_, ?_⟩
      · rintro σ2 H2' ⟨a', b', c', d', q1, rfl⟩
        exact ⟨LS.length - (i + 1), by omega, i + 1, _, _, _, _, by omega, rfl, q1, rfl⟩
      · refine r_asg (P := fun w _ => w = .int (xi : Int)) (ed_ixL (r := rN) (xs := L) (k := i) (y := xi) (ed_var rfl ⟨wl, _, rfl, e8 _ _ hwl7, natL_rs _⟩) (ed_var (r := rI) (x := (i : Int)) rfl rfl) hx) fun w8 H8' e8' ew8 => ?_
        subst ew8
        have e88 := e8.trans e8'
        refine r_forLa (a := ax) (us := natL (B.getD xi [])) (EvP.imp (ed_ixL (r := rV) (xs := as.map V.ref) (k := xi) (y := .ref ax) (ed_var rfl ⟨bk, _, rfl, e88 _ _ hB7.top, rv_refl _⟩) (ed_var (r := rI) (x := (xi : Int)) rfl rfl) (by rw [List.getElem?_map, hax]; rfl)) fun _ _ _ q => q) (e88 _ _ hlx)
          (fun q σ' H' => ∃ (b c e' : Option V), BackRow H bk wl sl as B LS.length g i xi e q L lv H' ∧ σ' = [some (.ref x), some v2, some (.ref sl), some (.ref bk), some (.int (i : Int)), b, c, some (.ref wl), some (.int (xi : Int)), e']) ?_ ?_ ?_ ?_
        · intro H9 e9
          have e79 := e88.trans e9
          exact ⟨_, _, _, ⟨e7.trans e79, hB7.ex e79, [], [], st, by rw [List.append_nil]; exact e79 _ _ hwl7, e79 _ _ hsl7, by rw [List.append_nil, List.append_nil]; exact hb7.row he, by rw [List.append_nil, List.append_nil]; exact hv7, fun y hy => by rw [List.take_zero] at hy; cases hy⟩, rfl⟩
        · rintro q σ' H' ⟨a', b', c', q1, rfl⟩
          exact q1.bk.at_ xi ax _ hax hbx
        · rintro q v σ' H9 hv ⟨a', b', c', ⟨e9, hB9, M, mv, st', hwl9, hsl9, hrow, hlv, hdone⟩, rfl⟩
          obtain ⟨y, hy, rfl⟩ := natL_inv hv
          have hym : y ∈ B.getD xi [] := List.mem_of_getElem? hy
          have hyn : y < LS.length := (mem_preL.mp ((hOk.2 xi y hxn).mp hym)).1
          obtain ⟨o, ho, hon⟩ := hlv.isNone hrow.len hyn
          have hxM : (L ++ M)[i]? = some xi := getElem?_append_some hx
          have heM : (lv ++ mv)[i]? = some e := getElem?_append_some he
          have hse := hlv.at_ i xi e hxM heM
          have hS : ∀ (l' : L2.St) H', l'[2]? = some (some (.ref sl)) → Ex H9 H' → Ed (tVar 2) l' H' (rL (rO rN)) st' := fun l' H' h e => ed_var h ⟨sl, _, rfl, e _ _ hsl9, stV_rs _⟩
          have hdone' : ∀ M', (∀ z ∈ L ++ M, z ∈ L ++ M') → y ∈ L ++ M' → ∀ z ∈ (B.getD xi []).take (q + 1), z ∈ L ++ M' := fun M' hs hyM z hz => by
            rw [List.take_add_one, hy] at hz
            rcases List.mem_append.mp hz with h | h
            · exact hs z (hdone z h)
            · have : z = y := by simpa using h
              rw [this]; exact hyM
          refine r_ifN (et_test' (ed_isN (ed_ixL (hS _ _ rfl (Ex.refl _)) (ed_var (r := rI) (x := (y : Int)) rfl rfl) ho))) ?_ ?_
          · intro hb H10 e10
            have hno : y ∉ L ++ M := hon.mp (by simpa using hb)
            refine r_setL (l := sl) (j := y) (e10 _ _ hsl9) (P := fun w _ => w = .int ((e + 1 : Nat) : Int)) (ed_add (i := (e : Int)) (j := 1) (ed_ixL (r := rO rN) (hS _ _ rfl e10) (ed_var (r := rI) (x := (xi : Int)) rfl rfl) hse) ed_int) (ev_v (i := 2) rfl) (ed_var (r := rI) (x := (y : Int)) rfl rfl) (by rw [List.length_map, hlv.len]; exact hyn) fun v' H11 H12 e11 e12 ev => ?_
            subst ev
            have e912 := (e10.trans e11).trans e12
            have hw12 : (upd H12 sl (.lst ((st'.map stV).set y (.int ((e + 1 : Nat) : Int))))) wl = some (.lst (natL (L ++ M))) := by rw [upd_ne nsw.symm]; exact e912 _ _ hwl9
            refine r_appN hw12 (ev_v (i := 7) rfl) (P := fun w' _ => w' = .int (y : Int)) (ev_v (i := 6) rfl) ?_ fun v' H13 e13 ev => ?_
            · have := nodup_lt hrow.nd hlv.lt
              unfold natL
              rw [List.length_map]
              omega
            · subst ev
              have hs12 : (upd H12 sl (.lst ((st'.map stV).set y (.int ((e + 1 : Nat) : Int))))) sl = some (.lst ((st'.set y (some (e + 1))).map stV)) := by rw [upd_same, List.map_set]; rfl
              have hB13 := ((hB9.ex e912).other (o := .lst ((st'.map stV).set y (.int ((e + 1 : Nat) : Int)))) nsa nsk).ex e13
              refine ⟨_, _, _, ⟨Ex.mut ((Ex.mut (e9.trans e912) nslH).trans e13) nwlH, hB13.other nwa nwk, M ++ [y], mv ++ [e + 1], _, ?_, by rw [upd_ne nsw]; exact e13 _ _ hs12, ?_, ?_, ?_⟩, rfl⟩
              · rw [upd_same, ← List.append_assoc, natL_app]
              · have := hrow.add hwk hno hym
                rw [List.append_assoc, List.append_assoc] at this
                exact this
              · have := hlv.add hrow.len (e := e + 1) hyn hno
                rw [List.append_assoc, List.append_assoc] at this
                exact this
              · refine hdone' _ (fun z hz => ?_) ?_
                · rw [← List.append_assoc]; exact List.mem_append_left _ hz
                · rw [← List.append_assoc]; exact List.mem_append_right _ (by simp)
          · intro hb H10 e10
            have hyes : y ∈ L ++ M := by
              by_cases h : y ∈ L ++ M
              · exact h
              · rw [hon.mpr h] at hb; cases hb
            exact ⟨_, _, _, ⟨e9.trans e10, hB9.ex e10, M, mv, st', e10 _ _ hwl9, e10 _ _ hsl9, hrow, hlv, hdone' M (fun z hz => hz) hyes⟩, rfl⟩
        · rintro σ' H9 ⟨a', b', c', ⟨e9, hB9, M, mv, st', hwl9, hsl9, hrow, hlv, hdone⟩, rfl⟩
          refine r_augN rfl (ed_int (n := 1)) fun H10 e10 => ?_
          refine ⟨_, _, _, _, ⟨e9.trans e10, hB9.ex e10, L ++ M, lv ++ mv, st', e10 _ _ hwl9, e10 _ _ hsl9, hb7.fin hx he hrow fun y hy => hdone y ?_, hlv⟩, rfl⟩
          have hl : (natL (B.getD xi [])).length = (B.getD xi []).length := List.length_map _
          rw [hl, List.take_length]
          exact hy
    · intro hlt H8 e8
      have hil : L.length ≤ i := by
        have := of_decide_eq_false hlt
        omega
      have hik : i = L.length := Nat.le_antisymm hb7.kl hil
      subst hik
      exact r_ret (ed_var (r := rSteps) (x := st) rfl ⟨sl, _, rfl, e8 _ _ hsl7, stV_rs _⟩) fun w H9 e9 p => k w H9 st ((e7.trans e8).trans e9) p (st_end hOk f2 hb7 hv7)
end
end M
/-! ## Q9 -/
/-! The first run; most_at, least_left, best_run. -/
namespace M
open PySem L2 Evl PyProof.Rows
def sp_Search_first_run (cs : Cs) : Sp := fun vs H Q E => ∃ x R L v2 st g y m N s, vs = [.ref x, .int 0, v2] ∧ rSe cs H (.ref x) (R, L) ∧ rSteps H v2 st ∧ Rch R m N s L ∧ L[g]? = some y ∧ StOk (linksV R L) g st ∧ L.length ≤ 4000 ∧
  ∀ w H', Ex H H' → rVec H' w ((runOf (linksV R L) st ((st.getD 0 none).getD 0) 0).map fun (t : Nat) => (t : Int)) → Q w H'
/-- what the three defs ask -/
structure MoPre (R : Rule) (s ks : Vec) (n : Nat) : Prop where
  wf : ∃ m N, WfR m R ∧ Hv m N s ∧ m ≤ 1000 ∧ ∀ k ∈ ks, 0 ≤ k ∧ k < (m : Int)
  kinds : ks.length ≤ 1000
  many : n ≤ 1000
def sp_most_at (cs : Cs) : Sp := fun vs H Q E => ∃ v1 v2 v3 R s ks, ∃ (n : Nat), vs = [v1, v2, v3, .int n] ∧ rRule H v1 R ∧ rVec H v2 s ∧ rVec H v3 ks ∧ MoPre R s ks n ∧
  (∀ L w H', reach R (timesV n s) 3000 = some L → Ex H H' → w = .int (best L ks) → Q w H') ∧ (reach R (timesV n s) 3000 = none → ∀ d H', Ex H H' → H d = none → H' d = some (.xd tmF) → E (.ref cs.tm) (some d) H')
def sp_least_left (cs : Cs) : Sp := fun vs H Q E => ∃ v1 v2 v3 R s ks, ∃ (n : Nat), vs = [v1, v2, v3, .int n] ∧ rRule H v1 R ∧ rVec H v2 s ∧ rVec H v3 ks ∧ MoPre R s ks n ∧
  (∀ L w H', reach R (timesV n s) 3000 = some L → Ex H H' → w = .int ((n : Int) * s.sum - best L ks) → Q w H') ∧ (reach R (timesV n s) 3000 = none → ∀ d H', Ex H H' → H d = none → H' d = some (.xd tmF) → E (.ref cs.tm) (some d) H')
def sp_best_run (cs : Cs) : Sp := fun vs H Q E => ∃ v1 v2 v3 R s ks, ∃ (n : Nat), vs = [v1, v2, v3, .int n] ∧ rRule H v1 R ∧ rVec H v2 s ∧ rVec H v3 ks ∧ MoPre R s ks n ∧
  (∀ L w H' run, reach R (timesV n s) 3000 = some L → Ex H H' → rVec H' w run → BestAt R L ks run → Q w H') ∧ (reach R (timesV n s) 3000 = none → ∀ d H', Ex H H' → H d = none → H' d = some (.xd tmF) → E (.ref cs.tm) (some d) H')
/-! Search.first_run: slots self 0, at 1, steps 2, run 3, here 4, deed 5, there 6 -/
def N_Search_first_run : List Str := ["self", "at", "steps", "run", "here", "deed", "there"]
def t_Search_first_run (K : PySem.W.Frag) (cs : Cs) (E : XK) : TS :=
  (tSeq (tAsg (tLst tNil) (gName 3))
  (tSeq (tAsg (tVar 1) (gName 4))
  (tSeq (tWhile (tTest (tOp oGt (tOp (rIxL K) (tVar 2) (tVar 4)) (tC (.int 0)))) (tFor (iList K (tOp (rIxL K) (tFld K (tVar 0) "links") (tVar 4))) (gTup K 2 (gCons (gName 5) (gCons (gName 6) gNil))) (tIfS (tAnd (tTest (tOp rNotN (tOp (rIxL K) (tVar 2) (tVar 6)) (tC .non))) (tTest (tOp (rEqD K) (tOp (rIxL K) (tVar 2) (tVar 6)) (tOp oSub (tOp (rIxL K) (tVar 2) (tVar 4)) (tC (.int 1)))))) (tSeq (tDrop (tBM K "list" rAppend (tVar 3) (tCons (tVar 5) tNil)))
  (tSeq (tAsg (tVar 6) (gName 4))
  tBreak)) tNext)))
  (tRet (tCB (rTupOf K) (tCons (tVar 3) tNil))))))
/-! most_at: slots rule 0, start 1, kinds 2, n 3, search 4, standing 5 -/
def N_most_at : List Str := ["rule", "start", "kinds", "n", "search", "standing"]
def t_most_at (K : PySem.W.Frag) (cs : Cs) (E : XK) : TS :=
  (tSeq (tAsg (tMake cs.se (sp_Search___init__ cs) [] E (tCons (tVar 0) (tCons (tCall sp_times_all [] E0 (tCons (tVar 3) (tCons (tVar 1) tNil))) (tCons (tC (.int 3000)) (tCons (tC .non) tNil))))) (gName 4))
  (tRet (tCB (L2.rMax K) (tCons (tLc (iList K (tFld K (tVar 4) "listed")) (gName 5) tYes (tCall sp_count_in [] E0 (tCons (tVar 5) (tCons (tVar 2) tNil))) [5]) tNil))))
/-! least_left: slots rule 0, start 1, kinds 2, n 3 -/
def N_least_left : List Str := ["rule", "start", "kinds", "n"]
def t_least_left (K : PySem.W.Frag) (cs : Cs) (E : XK) : TS :=
  (tRet (tOp oSub (tOp oMul (tVar 3) (tCB (rSum K) (tCons (tCB (rListS K) (tCons (tVar 1) tNil)) tNil))) (tCall (sp_most_at cs) [] E (tCons (tVar 0) (tCons (tVar 1) (tCons (tVar 2) (tCons (tVar 3) tNil)))))))
/-! best_run: slots rule 0, start 1, kinds 2, n 3, search 4, counts 5, goal 6, standing 7 -/
def N_best_run : List Str := ["rule", "start", "kinds", "n", "search", "counts", "goal", "standing"]
def t_best_run (K : PySem.W.Frag) (cs : Cs) (E : XK) : TS :=
  (tSeq (tAsg (tMake cs.se (sp_Search___init__ cs) [] E (tCons (tVar 0) (tCons (tCall sp_times_all [] E0 (tCons (tVar 3) (tCons (tVar 1) tNil))) (tCons (tC (.int 3000)) (tCons (tC .non) tNil))))) (gName 4))
  (tSeq (tAsg (tLc (iList K (tFld K (tVar 4) "listed")) (gName 7) tYes (tCall sp_count_in [] E0 (tCons (tVar 7) (tCons (tVar 2) tNil))) [7]) (gName 5))
  (tSeq (tAsg (tOp (rIxL K) (tFld K (tVar 4) "listed") (tBM K "list" (rIndex K) (tVar 5) (tCons (tCB (L2.rMax K) (tCons (tVar 5) tNil)) tNil))) (gName 6))
  (tRet (tMeth cs.se "first_run" (sp_Search_first_run cs) [] E (tVar 4) (tCons (tC (.int 0)) (tCons (tMeth cs.se "steps_to" (sp_Search_steps_to cs) [] E (tVar 4) (tCons (tVar 6) tNil)) tNil)))))))
section
variable {K : PySem.W.Frag} {mg : Str → Option Value} {cs : Cs} {vs : List V} {H : Hp} {Q : VK} {E : XK} {σ : L2.St} {ta tb tc td : TE}
theorem len_Search_first_run (h : sp_Search_first_run cs vs H Q E) : vs.length = 3 := by
  obtain ⟨_, _, _, _, _, _, _, _, _, _, rfl, _⟩ := h
  rfl
theorem len_most_at (h : sp_most_at cs vs H Q E) : vs.length = 4 := by
  obtain ⟨_, _, _, _, _, _, _, rfl, _⟩ := h
  rfl
theorem len_least_left (h : sp_least_left cs vs H Q E) : vs.length = 4 := by
  obtain ⟨_, _, _, _, _, _, _, rfl, _⟩ := h
  rfl
theorem len_best_run (h : sp_best_run cs vs H Q E) : vs.length = 4 := by
  obtain ⟨_, _, _, _, _, _, _, rfl, _⟩ := h
  rfl
theorem pure_Search_first_run (T : Txt K mg cs) (h : sp_Search_first_run cs vs H Q E) : t_Search_first_run K cs E { nx := fun _ H' => Q .non H', rt := Q } (start N_Search_first_run vs) H := by
  obtain ⟨x, R, L, v2, st, g, y, m, N, s, rfl, ⟨x', dx, vr, la, pl, lk, cm, ex, at0', r1⟩, rst, rc, hgy, hst, hL, k⟩ := h
  cases ex
  have fLk : ∀ (l' : L2.St) H', l'[0]? = some (some (.ref x)) → Ex H H' → EvP (tFld K (tVar 0) "links") l' H' fun w _ => w = .ref lk := fun l' H' h e => ev_fld T (by simp) (ev_v h) (e _ _ at0'.ob) srF_links
  obtain ⟨lk', rws, elk, hlk, prk⟩ := id r1
  cases elk
  obtain ⟨d0, hd0, _, hd0L⟩ := rc.st0 hgy hst
  have hd0' : (st.getD 0 none).getD 0 = d0 := by
    rw [List.getD_eq_getElem?_getD, hd0]
    rfl
  rw [hd0'] at k
  refine r_asg (el_lst (r := rV) (xs := []) es_nil (Nat.zero_le _)) fun v H4 e4 ⟨rl, ur, ev, nrl, hrl, pr⟩ => ?_
  subst ev
  obtain rfl : ur = [] := rv_eq pr
  refine r_asg (P := fun w _ => w = .int ((0 : Nat) : Int)) (ev_v (i := 1) rfl) fun w0 H5 e5 rw0 => ?_
  subst rw0
  have e05 := e4.trans e5
  refine r_while (fun q σ' H' => Ex H H' ∧ ∃ (here : Nat) (dn : List Nat) (a b : Option V), σ' = [some (.ref x), some (.int 0), some v2, some (.ref rl), some (.int here), a, b] ∧
      H' rl = some (.lst (natL dn)) ∧ dn.length + q = d0 ∧ here < L.length ∧ st[here]? = some (some q) ∧ dn ++ runOf (linksV R L) st q here = runOf (linksV R L) st d0 0) d0
    ⟨e05, 0, [], none, none, rfl, e5 _ _ hrl, by simp, rc.pos, hd0, rfl⟩ ?_
  rintro c σ' H6 ⟨e6, here, dn, a, b, rfl, hrl6, hdn, hhl, hst6, hrun⟩
  have hhl2 : here < (linksV R L).length := by rw [linksV_len]; exact hhl
  have hS : ∀ (l' : L2.St) H', l'[2]? = some (some v2) → Ex H H' → Ed (tVar 2) l' H' rSteps st := fun l' H' h e => ed_var h (mon e rst)
  have eh : ∀ (l' : L2.St) H', l'[2]? = some (some v2) → l'[4]? = some (some (.int (here : Int))) → Ex H H' → Ed (tOp (rIxL K) (tVar 2) (tVar 4)) l' H' rI (c : Int) := fun l' H' h h2 e => ed_ixL (r := rO rN) (hS l' H' h e) (ed_var (r := rI) (x := (here : Int)) h2 rfl) hst6
  refine ⟨_, et_test' (ed_gt (eh _ _ rfl rfl e6) (ed_int (n := 0))), ?_, ?_⟩
  · intro hb H7 e7
    have hc0 : 0 < c := by
      have := of_decide_eq_true hb
      omega
    obtain ⟨d, rfl⟩ : ∃ d, c = d + 1 := ⟨c - 1, by omega⟩
    have e07 := e6.trans e7
    have hrow : (linksV R L)[here]? = some ((linksV R L).getD here []) := by rw [List.getD_eq_getElem?_getD, List.getElem?_eq_getElem hhl2]; rfl
    obtain ⟨wr, hwr, ra, us, rfl, hra, pra⟩ := p_get prk hrow
    have hnra : ra ≠ rl := ne_of_none hra nrl
    have hlen := Paired.length pra
    refine ⟨fun σ' H' => Ex H H' ∧ ∃ (here : Nat) (dn : List Nat) (a b : Option V), σ' = [some (.ref x), some (.int 0), some v2, some (.ref rl), some (.int here), a, b] ∧
      H' rl = some (.lst (natL dn)) ∧ dn.length + d = d0 ∧ here < L.length ∧ st[here]? = some (some d) ∧ dn ++ runOf (linksV R L) st d here = runOf (linksV R L) st d0 0, fun σ2 H2 p => ⟨d, by omega, p⟩, ?_⟩
    refine r_forGA (a := ra) (us := us) (EvP.imp (ed_ixL (r := rV) (xs := rws) (k := here) (y := .ref ra) (EvP.ed (r := rL rV) (x := rws) (fLk _ _ rfl e07) ⟨lk, rws, rfl, e07 _ _ hlk, rv_refl _⟩) (ed_var (r := rI) (x := (here : Int)) rfl rfl) hwr) fun _ _ _ q => q) (e07 _ _ hra)
      (fun z σ' H' => Ex H H' ∧ ∃ (a b : Option V), σ' = [some (.ref x), some (.int 0), some v2, some (.ref rl), some (.int here), a, b] ∧ H' rl = some (.lst (natL dn)) ∧ ∀ p' ∈ ((linksV R L).getD here []).take z, nearer st d p' = false)
      (fun H8 e8 => ⟨e07.trans e8, _, _, rfl, (e7.trans e8) _ _ hrl6, fun p' hp' => by rw [List.take_zero] at hp'; cases hp'⟩) (fun z σ' H' p => p.1 _ _ hra) ?_ ?_
    · rintro z v σ' H8 hv ⟨e8, a', b', rfl, hrl8, hno⟩
      obtain ⟨p, hp, rp⟩ := p_get' pra hv
      obtain ⟨t, j⟩ := p
      have hj := (rc.link (List.getElem?_eq_getElem hhl) (List.mem_of_getElem? hp)).2.2.1
      refine g_pair (mon e8 rp) fun w1 w2 hw1 hw2 => ?_
      cases hw1; cases hw2
      obtain ⟨o, ho⟩ : ∃ o, st[j]? = some o := ⟨_, List.getElem?_eq_getElem (by rw [hst.len, linksV_len]; exact hj)⟩
      have eo : ∀ (l' : L2.St) H', l'[2]? = some (some v2) → l'[6]? = some (some (.int (j : Int))) → Ex H H' → Ed (tOp (rIxL K) (tVar 2) (tVar 6)) l' H' (rO rN) o := fun l' H' h h2 e => ed_ixL (hS l' H' h e) (ed_var (r := rI) (x := (j : Int)) h2 rfl) ho
      refine r_ifN (b := o.isSome && decide (((o.getD 0 : Nat) : Int) = ((d + 1 : Nat) : Int) - 1)) (et_and (et_test' (ed_notN (eo _ _ rfl rfl e8))) fun hs => ?_) ?_ ?_
      · cases o with
        | none => cases hs
        | some d' => exact et_test' (ed_eqDI (i := (d' : Int)) (eo _ _ rfl rfl e8) (ed_sub (eh _ _ rfl rfl e8) (ed_int (n := 1))))
      · intro hb H9 e9
        rw [Bool.and_eq_true, decide_eq_true_eq] at hb
        obtain ⟨hos, hoc⟩ := hb
        obtain ⟨d', rfl⟩ : ∃ d', o = some d' := by
          cases o with
          | none => cases hos
          | some d' => exact ⟨d', rfl⟩
        have hdd : d' = d := by
          have : ((d' : Nat) : Int) = ((d + 1 : Nat) : Int) - 1 := hoc
          omega
        subst hdd
        have hnear : nearer st d' (t, j) = true := by
          unfold nearer
          rw [ho]
          simp
        have hfind := find_at hp hnear hno
        obtain ⟨p2, q1, q2, q3, q4, q5⟩ := runOf_succ hst rc.lk hhl2 hst6
        rw [hfind] at q1
        cases q1
        refine r_app (e9 _ _ hrl8) (ev_v (i := 3) rfl) (P := fun w' _ => w' = .int (t : Int)) (ev_v (i := 5) rfl) (by unfold natL; rw [List.length_map]; omega) fun v' H10 e10 ev => ?_
        subst ev
        refine r_asg (P := fun w' _ => w' = .int (j : Int)) (ev_v (i := 6) rfl) fun v' H11 e11 ev => ?_
        subst ev
        refine ⟨(Ex.mut ((e8.trans e9).trans e10) nrl).trans e11, j, dn ++ [t], _, _, rfl, ?_, ?_, hj, ho, ?_⟩
        · rw [natL_app]; exact e11 _ _ upd_same
        · rw [List.length_append, List.length_singleton]; omega
        · rw [← hrun, q5, List.append_assoc]; rfl
      · intro hb H9 e9
        refine ⟨e8.trans e9, _, _, rfl, e9 _ _ hrl8, fun p' hp' => ?_⟩
        rw [List.take_add_one, hp] at hp'
        rcases List.mem_append.mp hp' with h | h
        · exact hno p' h
        · have : p' = (t, j) := by simpa using h
          rw [this]
          unfold nearer
          rw [ho]
          cases o with
          | none => rfl
          | some d' =>
            have hne : d' ≠ d := fun z => by
              subst z
              rw [Bool.and_eq_false_iff, decide_eq_false_iff_not] at hb
              rcases hb with hb | hb
              · cases hb
              · exact hb (by show ((d' : Nat) : Int) = _; omega)
            simpa using hne
    · rintro σ' H8 ⟨e8, a', b', rfl, hrl8, hno⟩
      rw [hlen, List.take_length] at hno
      obtain ⟨p, q1, q2, _⟩ := hst.near rc.lk hhl2 hst6
      have := hno p q2
      have h2 := List.find?_some q1
      rw [this] at h2
      cases h2
  · intro hb H7 e7
    have hc0 : c = 0 := by
      have := of_decide_eq_false hb
      omega
    subst hc0
    have hdn2 : dn = runOf (linksV R L) st d0 0 := by
      rw [← hrun]
      show dn = dn ++ []
      rw [List.append_nil]
    refine r_ret (ed_tupL (r := rI) (xs := (runOf (linksV R L) st d0 0).map fun (t : Nat) => (t : Int)) (ed_var rfl ⟨rl, _, rfl, e7 _ _ hrl6, ?_⟩)) fun w H8 e8 p => k w H8 ((e6.trans e7).trans e8) p
    rw [← hdn2]
    have := int_rs (H := H7) (dn.map fun (t : Nat) => (t : Int))
    rw [List.map_map] at this
    exact this
/-- Search(rule, standing, most, None) -/
theorem ev_make {R : Rule} {s : Vec} {most : Nat} (hR : Ed ta σ H rRule R) (hs : Ed tb σ H rVec s) (pre : InPre R s most) (he : reach R s most = none → ∀ d H', Ex H H' → H d = none → H' d = some (.xd tmF) → E (.ref cs.tm) (some d) H') :
    EvP (tMake cs.se (sp_Search___init__ cs) [] E (tCons ta (tCons tb (tCons (tC (.int (most : Int))) (tCons (tC .non) tNil))))) σ H (fun w H' => ∃ L, reach R s most = some L ∧ rSe cs H' w (R, L)) := fun H0 e Q q =>
  hR H0 e _ fun v1 H1 e1 r1 => hs H1 (e.trans e1) _ fun v2 H2 e2 r2 => by
    intro x dx nx ndx nex
    have e02 := (e.trans e1).trans e2
    have eu : Ex H2 (upd (upd H2 dx (.own x)) x (.ins cs.se dx [])) := (Ex.new ndx).trans (Ex.new (by rw [upd_ne nex.symm]; exact nx))
    have exs : ∀ H', Sm [x] (upd (upd H2 dx (.own x)) x (.ins cs.se dx [])) H' → Ex H2 H' := fun H' s b o hb => s b o (by
      simp only [List.mem_singleton]
      exact ne_of_none hb nx) (eu b o hb)
    refine ⟨x, dx, v1, v2, R, s, most, rfl, upd_same, mon (e2.trans eu) r1, mon eu r2, pre, fun L H' hL sm tp rs => ⟨rfl, q _ H' ((e1.trans e2).trans (exs H' sm)) ⟨L, hL, rs⟩⟩, fun hn d H' sm nd hd => he hn d H' (e02.trans (exs H' sm)) ?_ hd⟩
    cases hc : H d with
    | none => rfl
    | some o =>
      rw [eu _ _ (e02 _ _ hc)] at nd
      cases nd
theorem MoPre.inp {R : Rule} {s ks : Vec} {n : Nat} (h : MoPre R s ks n) : InPre R (timesV n s) 3000 := by
  obtain ⟨m, N, hw, hs, hm, _⟩ := h.wf
  refine ⟨by rw [timesV_len, hs.len]; exact wfr_len hw, ⟨by have := hw.few; omega, by rw [timesV_len, hs.len]; exact hm⟩, by decide, by decide⟩
theorem MoPre.rch {R : Rule} {s ks : Vec} {n : Nat} {L : List Vec} (h : MoPre R s ks n) (hL : reach R (timesV n s) 3000 = some L) : L.length ≤ 3000 ∧ ∃ m N, Rch R m N (timesV n s) L ∧ m ≤ 1000 ∧ ∀ k ∈ ks, 0 ≤ k ∧ k < (m : Int) := by
  obtain ⟨m, N, hw, hs, hm, hk⟩ := h.wf
  exact ⟨search_len hL (by decide), m, _, ⟨hw, hv_times hs (by omega), search_found hL⟩, hm, hk⟩
/-- [count_in(standing, kinds) for standing in search.listed] -/
theorem el_counts (T : Txt K mg cs) {R : Rule} {L : List Vec} {ks : Vec} {v v3 : V} {i j k : Nat} {vs : List Nat} {m : Nat} {N : Int} {s : Vec} (hv : σ[i]? = some (some v)) (hse : rSe cs H v (R, L)) (rc : Rch R m N s L) (hks : ∀ k ∈ ks, 0 ≤ k ∧ k < (m : Int)) (hk1 : ks.length ≤ 1000) (hL : L.length ≤ 4000) (r3 : rVec H v3 ks)
    (hw : ∀ x, wipe (wp' σ j x vs) vs = wipe σ vs) (hj : ∀ x, (wp' σ j x vs)[j]? = some (some x)) (hk : ∀ x, (wp' σ j x vs)[k]? = some (some v3)) :
    El (tLc (iList K (tFld K (tVar i) "listed")) (gName j) tYes (tCall sp_count_in [] E0 (tCons (tVar j) (tCons (tVar k) tNil))) vs) σ H rI (cnts L ks) := by
  obtain ⟨x, dx, vr, la, pl, lk, cm, rfl, at_, _⟩ := hse
  obtain ⟨us, hla, pla⟩ := at_.hla
  exact el_mapL (r := rI) (s := rVec) (fun x => insideV x ks) (EvP.ed (ev_fld T (by simp) (ev_v hv) at_.ob srF_listed) ⟨la, us, rfl, hla, pla⟩) (by omega) hw fun i x v H1 e1 hx rx => ev_call2 (x := x) (y := ks) (ed_var (hj _) rx) (ed_var (hk _) (mon e1 r3)) ⟨fun k hk => by rw [(rc.hv (List.mem_of_getElem? hx)).len]; exact hks k hk, hk1⟩ hq_d
theorem pure_most_at (T : Txt K mg cs) (h : sp_most_at cs vs H Q E) : t_most_at K cs E { nx := fun _ H' => Q .non H', rt := Q } (start N_most_at vs) H := by
  obtain ⟨v1, v2, v3, R, s, ks, n, rfl, r1, r2, r3, pre, kq, ke⟩ := h
  have hn := pre.many
  obtain ⟨m0, N0, _, hs0, hm0, _⟩ := pre.wf
  refine r_asg (ev_make (most := 3000) (ed_var rfl r1) (ev_call2 (x := (n : Int)) (y := s) (ed_var rfl rfl) (ed_var rfl r2) ⟨by omega, by omega, by rw [hs0.len]; exact hm0⟩ hq_d) pre.inp ke) fun v H1 e1 ⟨L, hL, hse⟩ => ?_
  obtain ⟨hlen, m, N, rc, hm, hk⟩ := pre.rch hL
  have hc := El.ed (el_counts T (σ := [some v1, some v2, some v3, some (.int n), some v, none]) (i := 4) (j := 5) (k := 2) (vs := [5]) (v := v) (v3 := v3) rfl hse rc hk pre.kinds (by omega) (mon e1 r3) (fun _ => rfl) (fun _ => rfl) (fun _ => rfl))
  exact r_ret (ed_max hc (by unfold cnts; rw [List.length_map]; exact rc.pos)) fun w H2 e2 p => kq L w H2 hL (e1.trans e2) p
theorem ev_most {R : Rule} {s ks : Vec} {n : Nat} (ha : Ed ta σ H rRule R) (hb : Ed tb σ H rVec s) (hc : Ed tc σ H rVec ks) (hd : Ed td σ H rN n) (pre : MoPre R s ks n) (he : reach R (timesV n s) 3000 = none → ∀ d H', Ex H H' → H d = none → H' d = some (.xd tmF) → E (.ref cs.tm) (some d) H') :
    EvP (tCall (sp_most_at cs) [] E (tCons ta (tCons tb (tCons tc (tCons td tNil))))) σ H (fun w _ => ∃ L, reach R (timesV n s) 3000 = some L ∧ w = .int (best L ks)) := fun H0 e Q q =>
  ha H0 e _ fun v1 H1 e1 r1 => hb H1 (e.trans e1) _ fun v2 H2 e2 r2 => hc H2 ((e.trans e1).trans e2) _ fun v3 H3 e3 r3 => hd H3 (((e.trans e1).trans e2).trans e3) _ fun v4 H4 e4 r4 => by
    cases r4
    have e04 := (((e.trans e1).trans e2).trans e3).trans e4
    refine ⟨v1, v2, v3, R, s, ks, n, rfl, mon ((e2.trans e3).trans e4) r1, mon (e3.trans e4) r2, mon e4 r3, pre, fun L w H' hL ex hw => q w H' ((((e1.trans e2).trans e3).trans e4).trans ex) ⟨L, hL, hw⟩, fun hn d H' ex nd hd => he hn d H' (e04.trans ex) (fresh_back e04 nd) hd⟩
theorem ev_least {R : Rule} {s ks : Vec} {n : Nat} (ha : Ed ta σ H rRule R) (hb : Ed tb σ H rVec s) (hc : Ed tc σ H rVec ks) (hd : Ed td σ H rN n) (pre : MoPre R s ks n) (he : reach R (timesV n s) 3000 = none → ∀ d H', Ex H H' → H d = none → H' d = some (.xd tmF) → E (.ref cs.tm) (some d) H') :
    EvP (tCall (sp_least_left cs) [] E (tCons ta (tCons tb (tCons tc (tCons td tNil))))) σ H (fun w _ => ∃ L, reach R (timesV n s) 3000 = some L ∧ w = .int ((n : Int) * s.sum - best L ks)) := fun H0 e Q q =>
  ha H0 e _ fun v1 H1 e1 r1 => hb H1 (e.trans e1) _ fun v2 H2 e2 r2 => hc H2 ((e.trans e1).trans e2) _ fun v3 H3 e3 r3 => hd H3 (((e.trans e1).trans e2).trans e3) _ fun v4 H4 e4 r4 => by
    cases r4
    have e04 := (((e.trans e1).trans e2).trans e3).trans e4
    refine ⟨v1, v2, v3, R, s, ks, n, rfl, mon ((e2.trans e3).trans e4) r1, mon (e3.trans e4) r2, mon e4 r3, pre, fun L w H' hL ex hw => q w H' ((((e1.trans e2).trans e3).trans e4).trans ex) ⟨L, hL, hw⟩, fun hn d H' ex nd hd => he hn d H' (e04.trans ex) (fresh_back e04 nd) hd⟩
theorem ev_best {R : Rule} {s ks : Vec} {n : Nat} (ha : Ed ta σ H rRule R) (hb : Ed tb σ H rVec s) (hc : Ed tc σ H rVec ks) (hd : Ed td σ H rN n) (pre : MoPre R s ks n) (he : reach R (timesV n s) 3000 = none → ∀ d H', Ex H H' → H d = none → H' d = some (.xd tmF) → E (.ref cs.tm) (some d) H') :
    EvP (tCall (sp_best_run cs) [] E (tCons ta (tCons tb (tCons tc (tCons td tNil))))) σ H (fun w H' => ∃ L run, reach R (timesV n s) 3000 = some L ∧ rVec H' w run ∧ BestAt R L ks run) := fun H0 e Q q =>
  ha H0 e _ fun v1 H1 e1 r1 => hb H1 (e.trans e1) _ fun v2 H2 e2 r2 => hc H2 ((e.trans e1).trans e2) _ fun v3 H3 e3 r3 => hd H3 (((e.trans e1).trans e2).trans e3) _ fun v4 H4 e4 r4 => by
    cases r4
    have e04 := (((e.trans e1).trans e2).trans e3).trans e4
    refine ⟨v1, v2, v3, R, s, ks, n, rfl, mon ((e2.trans e3).trans e4) r1, mon (e3.trans e4) r2, mon e4 r3, pre, fun L w H' run hL ex hw hb => q w H' ((((e1.trans e2).trans e3).trans e4).trans ex) ⟨L, run, hL, hw, hb⟩, fun hn d H' ex nd hd => he hn d H' (e04.trans ex) (fresh_back e04 nd) hd⟩
theorem pure_least_left (T : Txt K mg cs) (h : sp_least_left cs vs H Q E) : t_least_left K cs E { nx := fun _ H' => Q .non H', rt := Q } (start N_least_left vs) H := by
  obtain ⟨v1, v2, v3, R, s, ks, n, rfl, r1, r2, r3, pre, kq, ke⟩ := h
  have hn := pre.many
  refine r_ret (P := fun w _ => ∃ L, reach R (timesV n s) 3000 = some L ∧ w = .int ((n : Int) * s.sum - best L ks)) (ev_op (ed_mul (ed_var (r := rI) (x := (n : Int)) rfl rfl) (ed_sum (El.ed (el_listT (ed_var rfl r2)))) (.inl ⟨by omega, by omega⟩)) (ev_most (ed_var rfl r1) (ed_var rfl r2) (ed_var rfl r3) (ed_var rfl rfl) pre ke) fun v w H1 e1 ⟨L, hL, hw⟩ ⟨_, e0, p1⟩ Q' q' => ?_) fun w H2 e2 ⟨L, hL, hw⟩ => kq L w H2 hL e2 hw
  cases p1
  subst hw
  exact ⟨_, _, rfl, rfl, q' _ H1 (Ex.refl H1) ⟨L, hL, rfl⟩⟩
theorem idx_of_get {L : List Vec} (hn : L.Nodup) {i : Nat} {y : Vec} (h : L[i]? = some y) : L.idxOf y = i := by
  have h2 := idx_get (List.mem_of_getElem? h)
  obtain ⟨a1, b1⟩ := List.getElem?_eq_some_iff.mp h2
  obtain ⟨a2, b2⟩ := List.getElem?_eq_some_iff.mp h
  exact (List.getElem_inj hn).mp (b1.trans b2.symm)
theorem pure_best_run (T : Txt K mg cs) (h : sp_best_run cs vs H Q E) : t_best_run K cs E { nx := fun _ H' => Q .non H', rt := Q } (start N_best_run vs) H := by
  obtain ⟨v1, v2, v3, R, s, ks, n, rfl, r1, r2, r3, pre, kq, ke⟩ := h
  have hn := pre.many
  obtain ⟨m0, N0, _, hs0, hm0, _⟩ := pre.wf
  refine r_asg (ev_make (most := 3000) (ed_var rfl r1) (ev_call2 (x := (n : Int)) (y := s) (ed_var rfl rfl) (ed_var rfl r2) ⟨by omega, by omega, by rw [hs0.len]; exact hm0⟩ hq_d) pre.inp ke) fun v H1 e1 ⟨L, hL, hse⟩ => ?_
  obtain ⟨hlen, m, N, rc, hm, hk⟩ := pre.rch hL
  refine r_asg (El.ed (el_counts T (σ := [some v1, some v2, some v3, some (.int n), some v, none, none, none]) (i := 4) (j := 7) (k := 2) (vs := [7]) (v := v) (v3 := v3) rfl hse rc hk pre.kinds (by omega) (mon e1 r3) (fun _ => rfl) (fun _ => rfl) (fun _ => rfl))) fun cv H2 e2 rcv => ?_
  obtain ⟨y, hgy, _⟩ := goal_at (ks := ks) rc.pos
  have hg := (List.getElem?_eq_some_iff.mp hgy).1
  have hbm : best L ks ∈ cnts L ks := lmax_mem (cnts_ne rc.pos)
  obtain ⟨x, dx, vr, la, pl, lk, cm, ev, at_, hlks⟩ := id (mon e2 hse)
  subst ev
  obtain ⟨us, hla, pla⟩ := at_.hla
  have hC : Ed (tVar 5) [some v1, some v2, some v3, some (.int n), some (.ref x), some cv, none, none] H2 (rL rI) (cnts L ks) := ed_var rfl rcv
  refine r_asg (ed_ixL (r := rVec) (xs := L) (k := goalIx L ks) (y := y) (EvP.ed (ev_fld T (by simp) (ev_v (i := 4) rfl) at_.ob srF_listed) ⟨la, us, rfl, hla, pla⟩) (ed_index hC (ed_max hC (by unfold cnts; rw [List.length_map]; exact rc.pos)) hbm) hgy) fun gv H3 e3 rgv => ?_
  have hidx := idx_of_get rc.fd.nd hgy
  have hse3 := mon (e2.trans e3) hse
  -- the two methods
  refine r_ret (P := fun w H' => ∃ run, rVec H' w run ∧ BestAt R L ks run) (fun H0 e0 Q' q' => ?_) fun w H4 e4 ⟨run, hr, hb⟩ => kq L w H4 run hL (((e1.trans e2).trans e3).trans e4) hr hb
  refine ⟨.ref x, rfl, x, dx, _, rfl, ((e3.trans e0)) _ _ at_.ob, srF_no (by decide +kernel) (by decide +kernel) (by decide +kernel) (by decide +kernel) (by decide +kernel), ?_⟩
  refine ⟨.ref x, rfl, x, dx, _, rfl, ((e3.trans e0)) _ _ at_.ob, srF_no (by decide +kernel) (by decide +kernel) (by decide +kernel) (by decide +kernel) (by decide +kernel), gv, rfl, ?_⟩
  refine ⟨x, R, L, gv, y, rfl, mon e0 hse3, mon e0 rgv, List.mem_of_getElem? hgy, by rw [hidx]; exact rc.fit hg (by omega), fun w H5 st e5 rst hst => ?_⟩
  rw [hidx] at hst
  refine ⟨x, R, L, w, st, goalIx L ks, y, m, N, _, rfl, mon (e0.trans e5) hse3, rst, rc, hgy, hst, by omega, fun w' H6 e6 hr => q' w' H6 (e5.trans e6) ⟨_, hr, st, hst, rfl⟩⟩
end
end M
/-! ## Q10 -/
/-! What the law asks of the three defs. -/
namespace M
open PySem L2 Evl PyProof.Rows
section
variable {K : PySem.W.Frag} {σ : L2.St} {H H' : Hp} {ta tb te tx tl td tk : TE}
theorem ints_dp {H1 : Hp} : ∀ ns : List Int, DpAll K H1 (ns.map V.int) (ns.map PyData.int)
  | [] => .nil
  | n :: ns => .cons (.int n) (ints_dp ns)
theorem ints_eqv : ∀ ns : List Int, PyData.eqvAll (ns.map PyData.int) (ns.map PyData.int) = true
  | [] => by simp [PyData.eqvAll]
  | n :: ns => by simp [PyData.eqvAll, PyData.eqv, ints_eqv ns]
/-- != of two tuples that are one row -/
theorem ed_neT {xs : List Int} (ha : Ed ta σ H rVec xs) (hb : Ed tb σ H rVec xs) : Ed (tOp (rNeD K) ta tb) σ H rB false :=
  ed_op ha hb fun v w H1 _ p1 p2 Q q => by
    obtain ⟨a, vs, rfl, hv, pr⟩ := p1
    obtain ⟨b, ws, rfl, hw, pr2⟩ := p2
    have hvs := rs_int pr
    have hws := rs_int pr2
    subst hvs hws
    refine ⟨.tuple (xs.map PyData.int), .tuple (xs.map PyData.int), .tup (SqT.of hv) (ints_dp xs), .tup (SqT.of hw) (ints_dp xs), ints_shaped xs, ints_shaped xs, ?_⟩
    have e : PyData.eqv (.tuple (xs.map PyData.int)) (.tuple (xs.map PyData.int)) = true := by
      simp [PyData.eqv, ints_eqv]
    rw [e]
    exact q _ H1 (Ex.refl H1) rfl
end
theorem BestAt.len {R : Rule} {m : Nat} {N : Int} {s : Vec} {L : List Vec} {ks run : Vec} (rc : Rch R m N s L) (b : BestAt R L ks run) : run.length ≤ L.length := by
  obtain ⟨st, hst, rfl⟩ := b
  obtain ⟨y, hg, _⟩ := goal_at (ks := ks) rc.pos
  obtain ⟨d, h1, _, h2⟩ := rc.st0 hg hst
  unfold bestRun
  rw [List.length_map, List.getD_eq_getElem?_getD, h1]
  show (runOf (linksV R L) st d 0).length ≤ _
  rw [runOf_len hst rc.lk (by rw [linksV_len]; exact rc.pos) h1]
  omega
/-- the run ends with the greatest count -/
theorem BestAt.ends {R : Rule} {m : Nat} {N : Int} {s : Vec} {L : List Vec} {ks run : Vec} (rc : Rch R m N s L) (b : BestAt R L ks run) : ∃ y, runEnd R s run = some y ∧ y.length = m ∧ insideV y ks = best L ks := by
  obtain ⟨st, hst, rfl⟩ := b
  obtain ⟨y, hg, hy⟩ := goal_at (ks := ks) rc.pos
  obtain ⟨d, h1, _, h2⟩ := rc.st0 hg hst
  refine ⟨y, ?_, (rc.hv (List.mem_of_getElem? hg)).len, hy⟩
  unfold bestRun
  rw [List.getD_eq_getElem?_getD, h1]
  exact rc.run hg hst rc.fd.hd h1
def sp__law_most_right : Sp := sp5 rRule rVec rVec rN rI (fun R s ks n due => MoPre R s ks n ∧ ∃ L, reach R (timesV n s) 3000 = some L ∧ due = best L ks) (fun _ _ _ _ _ => pd rB true)
def sp__law_all_right : Sp := sp5 rRule rVec rVec rN (rL rVec) (fun R s ks n L => MoPre R s ks n ∧ reach R (timesV n s) 3000 = some L) (fun _ _ _ _ _ => pd rB true)
structure FarPre (R : Rule) (s ks : Vec) (far : Nat) (dues : List Int) : Prop where
  mo : MoPre R s ks far
  L : ∃ L, reach R (timesV far s) 3000 = some L
  top : ∃ top, dues.length = top + 1 ∧ top < far ∧ far ≤ 2 * top ∧ top ≤ 100 ∧ ∀ i, i ≤ top → ∃ Li, reach R (timesV i s) 3000 = some Li ∧ dues[i]? = some (best Li ks)
def sp__law_far_right : Sp := sp5 rRule rVec rVec rN (rL rI) (fun R s ks far dues => FarPre R s ks far dues) (fun _ _ _ _ _ => pd rB true)
/-! _law_most_right: slots rule 0, start 1, kinds 2, n 3, due 4, told 5 -/
def N__law_most_right : List Str := ["rule", "start", "kinds", "n", "due", "told"]
def t__law_most_right (K : PySem.W.Frag) (cs : Cs) : TS :=
  (tSeq (tAsg (tCall (sp_most_at cs) [] E0 (tCons (tVar 0) (tCons (tVar 1) (tCons (tVar 2) (tCons (tVar 3) tNil))))) (gName 5))
  (tRet (tAndV (tCall sp__law_is_int [] E0 (tCons (tVar 5) tNil)) (tOp rEq (tVar 5) (tVar 4)))))
/-! _law_all_right: slots rule 0, start 1, kinds 2, n 3, listed 4, due 5, left 6, run 7, standing 8 -/
def N__law_all_right : List Str := ["rule", "start", "kinds", "n", "listed", "due", "left", "run", "standing"]
def t__law_all_right (K : PySem.W.Frag) (cs : Cs) : TS :=
  (tSeq (tAsg (tCB (L2.rMax K) (tCons (tLc (iList K (tVar 4)) (gName 8) tYes (tCall sp__law_inside [] E0 (tCons (tVar 8) (tCons (tVar 2) tNil))) [8]) tNil)) (gName 5))
  (tSeq (tAsg (tCall (sp_least_left cs) [] E0 (tCons (tVar 0) (tCons (tVar 1) (tCons (tVar 2) (tCons (tVar 3) tNil))))) (gName 6))
  (tSeq (tIfS (tOr (tNot (tB (tCall sp__law_is_int [] E0 (tCons (tVar 6) tNil)))) (tTest (tOp rNe (tVar 6) (tOp oSub (tOp oMul (tVar 3) (tCB (rSum K) (tCons (tCB (rListS K) (tCons (tVar 1) tNil)) tNil))) (tVar 5))))) (tRet (tC (.bl false))) tNext)
  (tSeq (tAsg (tCall (sp_best_run cs) [] E0 (tCons (tVar 0) (tCons (tVar 1) (tCons (tVar 2) (tCons (tVar 3) tNil))))) (gName 7))
  (tSeq (tIfS (tOr (tNot (tB (tCall sp__law_is_ints [] E0 (tCons (tVar 7) tNil)))) (tTest (tOp (rNeD K) (tVar 7) (tCall sp__law_best [] E0 (tCons (tVar 0) (tCons (tVar 4) (tCons (tVar 2) tNil))))))) (tRet (tC (.bl false))) tNext)
  (tRet (tCall sp__law_most_right [] E0 (tCons (tVar 0) (tCons (tVar 1) (tCons (tVar 2) (tCons (tVar 3) (tCons (tVar 5) tNil))))))))))))
/-! _law_far_right: slots rule 0, start 1, kinds 2, far 3, dues 4, told 5, top 6, run 7, end 8, n 9 -/
def N__law_far_right : List Str := ["rule", "start", "kinds", "far", "dues", "told", "top", "run", "end", "n"]
def t__law_far_right (K : PySem.W.Frag) (cs : Cs) : TS :=
  (tSeq (tAsg (tCall (sp_most_at cs) [] E0 (tCons (tVar 0) (tCons (tVar 1) (tCons (tVar 2) (tCons (tVar 3) tNil))))) (gName 5))
  (tSeq (tIfS (tNot (tB (tCall sp__law_is_int [] E0 (tCons (tVar 5) tNil)))) (tRet (tC (.bl false))) tNext)
  (tSeq (tAsg (tOp oSub (tCB (rLenS K) (tCons (tVar 4) tNil)) (tC (.int 1))) (gName 6))
  (tSeq (tIfS (tB (tCB (rAny K) (tCons (tLc (iRng2 (tCons (tOp oSub (tVar 3) (tVar 6)) (tCons (tOp oAdd (tVar 6) (tC (.int 1))) tNil))) (gName 9) tYes (tOp oLt (tVar 5) (tOp oAdd (tOp (rIxL K) (tVar 4) (tVar 9)) (tOp (rIxL K) (tVar 4) (tOp oSub (tVar 3) (tVar 9))))) [9]) tNil))) (tRet (tC (.bl false))) tNext)
  (tSeq (tAsg (tCall (sp_best_run cs) [] E0 (tCons (tVar 0) (tCons (tVar 1) (tCons (tVar 2) (tCons (tVar 3) tNil))))) (gName 7))
  (tSeq (tIfS (tNot (tB (tCall sp__law_is_ints [] E0 (tCons (tVar 7) tNil)))) (tRet (tC (.bl false))) tNext)
  (tSeq (tAsg (tCall sp__law_run_end [] E0 (tCons (tVar 0) (tCons (tCall sp__law_times [] E0 (tCons (tVar 3) (tCons (tVar 1) tNil))) (tCons (tVar 7) tNil)))) (gName 8))
  (tRet (tAndV (tOp rNotN (tVar 8) (tC .non)) (tOp rEq (tCall sp__law_inside [] E0 (tCons (tVar 8) (tCons (tVar 2) tNil))) (tVar 5)))))))))))
section
variable {K : PySem.W.Frag} {mg : Str → Option Value} {cs : Cs} {vs : List V} {H : Hp} {Q : VK} {E : XK}
theorem pure__law_most_right (T : Txt K mg cs) (h : sp__law_most_right vs H Q E) : t__law_most_right K cs { nx := fun _ H' => Q .non H', rt := Q } (start N__law_most_right vs) H := by
  obtain ⟨v1, v2, v3, v4, v5, R, s, ks, n, due, rfl, r1, r2, r3, r4, r5, ⟨pre, L, hL, hd⟩, k⟩ := h
  refine r_asg (ev_most (ed_var rfl r1) (ed_var rfl r2) (ed_var rfl r3) (ed_var rfl r4) pre fun hn => by rw [hL] at hn; cases hn) fun w H1 e1 ⟨L', hL', hw⟩ => ?_
  rw [hL] at hL'
  cases hL'
  have hT : ∀ (l' : L2.St) H', l'[5]? = some (some w) → Ed (tVar 5) l' H' rI (best L ks) := fun l' H' h => ed_var h hw
  refine r_ret (ed_andV (b := decide (best L ks = due)) (ev_call1 (x := best L ks) (hT _ _ rfl) trivial hq_d) fun _ => ed_eqI (hT _ _ rfl) (ed_var rfl (mon e1 r5))) fun w' H2 e2 p => k w' H2 (e1.trans e2) ?_
  rw [hd] at p
  have p' : rB H2 w' true := by simpa using p
  exact p'
theorem pure__law_all_right (T : Txt K mg cs) (h : sp__law_all_right vs H Q E) : t__law_all_right K cs { nx := fun _ H' => Q .non H', rt := Q } (start N__law_all_right vs) H := by
  obtain ⟨v1, v2, v3, v4, v5, R, s, ks, n, L, rfl, r1, r2, r3, r4, r5, ⟨pre, hL⟩, k⟩ := h
  obtain ⟨hlen, m, N, rc, hm, hk⟩ := pre.rch hL
  have hn := pre.many
  have noN : reach R (timesV n s) 3000 = none → ∀ (d : Addr) (H' : Hp), Ex H H' → H d = none → H' d = some (.xd tmF) → E0 (.ref cs.tm) (some d) H' := fun h => by rw [hL] at h; cases h
  refine r_asg (ed_max (El.ed (el_mapL (r := rI) (s := rVec) (fun x => insideV x ks) (ed_var rfl r5) (by omega) (fun _ => rfl) fun i x v H1 e1 hx rx => ev_call2 (x := x) (y := ks) (ed_var rfl rx) (ed_var rfl (mon e1 r3)) ⟨fun k hk' => by rw [(rc.hv (List.mem_of_getElem? hx)).len]; exact hk k hk', pre.kinds⟩ hq_d)) (by rw [List.length_map]; exact rc.pos)) fun w1 H1 e1 rw1 => ?_
  refine r_asg (ev_least (ed_var rfl (mon e1 r1)) (ed_var rfl (mon e1 r2)) (ed_var rfl (mon e1 r3)) (ed_var rfl (mon e1 r4)) pre fun hn => by rw [hL] at hn; cases hn) fun w2 H2 e2 ⟨L', hL', hw2⟩ => ?_
  rw [hL] at hL'
  cases hL'
  have e02 := e1.trans e2
  have hw2' : rI H2 w2 ((n : Int) * s.sum - best L ks) := hw2
  have hdue : rI H2 w1 (best L ks) := mon e2 rw1
  refine r_if (b := false) (EvT.to (et_or (a := false) (et_not (a := true) (et_B' (ev_call1 (x := (n : Int) * s.sum - best L ks) (ed_var rfl hw2') trivial hq_d))) fun _ => et_test' (ed_neI (ed_var (r := rI) rfl hw2') (ed_sub (ed_mul (i := (n : Int)) (j := s.sum) (ed_var rfl (mon e02 r4)) (ed_sum (El.ed (el_listT (ed_var rfl (mon e02 r2))))) (.inl ⟨by omega, by omega⟩)) (ed_var (r := rI) (x := best L ks) rfl hdue)))) (by simp)) (fun z => nomatch z) fun _ H3 e3 => ?_
  have e03 := e02.trans e3
  refine r_asg (ev_best (ed_var rfl (mon e03 r1)) (ed_var rfl (mon e03 r2)) (ed_var rfl (mon e03 r3)) (ed_var rfl (mon e03 r4)) pre fun hn => by rw [hL] at hn; cases hn) fun w4 H4 e4 ⟨L', run, hL', hw4, hb4⟩ => ?_
  rw [hL] at hL'
  cases hL'
  have e04 := e03.trans e4
  have hrl := hb4.len rc
  have hbest : ∀ (l' : L2.St), l'[0]? = some (some v1) → l'[4]? = some (some v5) → l'[2]? = some (some v3) → Ed (tCall sp__law_best [] E0 (tCons (tVar 0) (tCons (tVar 4) (tCons (tVar 2) tNil)))) l' H4 rVec run := fun l' h0 h4 h2 =>
    ev_call3 (x := R) (y := L) (z := ks) (ed_var h0 (mon e04 r1)) (ed_var h4 (mon e04 r5)) (ed_var h2 (mon e04 r3)) ⟨⟨m, N, _, rc, hm, hk⟩, by omega, pre.kinds⟩ fun H1' H2' w' _ _ ⟨run', hr', hb'⟩ => by rw [hb4.uniq hb']; exact hr'
  refine r_if (b := false) (EvT.to (et_or (a := false) (b := false) (et_not (a := true) (et_B' (ev_call1 (x := run) (ed_var rfl hw4) (by omega) hq_d))) fun _ => et_test' (ed_neT (ed_var rfl hw4) (hbest _ rfl rfl rfl))) rfl) (fun z => nomatch z) fun _ H5 e5 => ?_
  have e05 := e04.trans e5
  refine r_ret (ev_call5 (P := fun w H' => rB H' w true) (x := R) (y := s) (z := ks) (a := n) (b := best L ks) (ed_var rfl (mon e05 r1)) (ed_var rfl (mon e05 r2)) (ed_var rfl (mon e05 r3)) (ed_var rfl (mon e05 r4)) (ed_var rfl (mon ((e3.trans e4).trans e5) hdue)) ⟨pre, L, hL, rfl⟩ hq_d) fun w H6 e6 p => k w H6 (e05.trans e6) p
theorem pure__law_far_right (T : Txt K mg cs) (h : sp__law_far_right vs H Q E) : t__law_far_right K cs { nx := fun _ H' => Q .non H', rt := Q } (start N__law_far_right vs) H := by
  obtain ⟨v1, v2, v3, v4, v5, R, s, ks, far, dues, rfl, r1, r2, r3, r4, r5, ⟨pre, ⟨L, hL⟩, top, ht1, ht2, ht3, ht4, hdues⟩, k⟩ := h
  obtain ⟨hlen, m, N, rc, hm, hk⟩ := pre.rch hL
  have hn := pre.many
  refine r_asg (ev_most (ed_var rfl r1) (ed_var rfl r2) (ed_var rfl r3) (ed_var rfl r4) pre fun hn => by rw [hL] at hn; cases hn) fun w1 H1 e1 ⟨L', hL', hw1⟩ => ?_
  rw [hL] at hL'
  cases hL'
  have hw1' : ∀ H', rI H' w1 (best L ks) := fun _ => hw1
  refine r_if (b := false) (EvT.to (et_not (a := true) (et_B' (ev_call1 (x := best L ks) (ed_var rfl (hw1' _)) trivial hq_d))) rfl) (fun z => nomatch z) fun _ H2 e2 => ?_
  have e02 := e1.trans e2
  have hD : ∀ (l' : L2.St) H', l'[4]? = some (some v5) → Ex H H' → Ed (tVar 4) l' H' (rL rI) dues := fun l' H' h e => ed_var h (mon e r5)
  refine r_asg (P := fun w _ => w = .int (top : Int)) (EvP.imp (ed_sub (ed_lenL (hD _ _ rfl e02)) (ed_int (n := 1))) fun w H' _ p => ?_) fun w3 H3 e3 hw3 => ?_
  · have : w = .int ((dues.length : Int) - 1) := p
    rw [this, ht1]
    congr 1
    omega
  subst hw3
  have e03 := e02.trans e3
  cases r4
  have hany : Ed (tCB (rAny K) (tCons (tLc (iRng2 (tCons (tOp oSub (tVar 3) (tVar 6)) (tCons (tOp oAdd (tVar 6) (tC (.int 1))) tNil))) (gName 9) tYes (tOp oLt (tVar 5) (tOp oAdd (tOp (rIxL K) (tVar 4) (tVar 9)) (tOp (rIxL K) (tVar 4) (tOp oSub (tVar 3) (tVar 9))))) [9]) tNil)) [some v1, some v2, some v3, some (.int far), some v5, some w1, some (.int top), none, none, none] H3 rB false := by
    have hlo : Ed (tOp oSub (tVar 3) (tVar 6)) [some v1, some v2, some v3, some (.int far), some v5, some w1, some (.int top), none, none, none] H3 rI ((far : Int) - top) := ed_sub (ed_var rfl rfl) (ed_var rfl rfl)
    have hhi : Ed (tOp oAdd (tVar 6) (tC (.int 1))) [some v1, some v2, some v3, some (.int far), some v5, some w1, some (.int top), none, none, none] H3 rI ((top : Int) + 1) := ed_add (ed_var rfl rfl) ed_int
    have hel := el_lcR2 (r := rB) (σ := [some v1, some v2, some v3, some (.int far), some v5, some w1, some (.int top), none, none, none]) (H := H3) (lo := (far : Int) - top) (hi := (top : Int) + 1) (n := 2 * top + 1 - far) (j := 9) (vs := [9]) (t := tYes) (te := tOp oLt (tVar 5) (tOp oAdd (tOp (rIxL K) (tVar 4) (tVar 9)) (tOp (rIxL K) (tVar 4) (tOp oSub (tVar 3) (tVar 9))))) (fun _ => true) (fun _ => false) hlo hhi (by omega) ⟨by omega, by omega, by omega, by omega⟩ (by omega) (fun _ => rfl) (fun i H4 e4 hi => et_yes) (fun i H4 e4 hi _ => ?_)
    · refine Ed.to (ed_any (El.ed hel)) ?_
      rw [List.any_eq_false]
      intro b hb
      obtain ⟨_, _, e⟩ := List.mem_map.mp hb
      rw [← e]
      simp
    · have hi1 : far - top + i ≤ top := by omega
      obtain ⟨La, hLa, hda⟩ := hdues (far - top + i) hi1
      obtain ⟨Lb, hLb, hdb⟩ := hdues (top - i) (by omega)
      have ea : (far : Int) - top + i = ((far - top + i : Nat) : Int) := by omega
      have eb : (far : Int) - ((far : Int) - top + i) = ((top - i : Nat) : Int) := by omega
      have hcmp : best La ks + best Lb ks ≤ best L ks := by
        obtain ⟨m0, N0, hw, hs, _, _⟩ := pre.wf
        have rca : Rch R m0 _ (timesV ((far - top + i : Nat) : Int) s) La := ⟨hw, hv_times hs (by omega), search_found hLa⟩
        have rcb : Rch R m0 _ (timesV ((top - i : Nat) : Int) s) Lb := ⟨hw, hv_times hs (by omega), search_found hLb⟩
        have rcc : Rch R m0 ((far : Int) * N0) (timesV (((far - top + i : Nat) : Int) + ((top - i : Nat) : Int)) s) L := by
          have : (((far - top + i : Nat) : Int) + ((top - i : Nat) : Int)) = (far : Int) := by omega
          rw [this]
          exact ⟨hw, hv_times hs (by omega), search_found hL⟩
        exact super_best rca rcb rcc
      have e04 := e03.trans e4
      refine Ed.to (ed_lt (ed_var (r := rI) (x := best L ks) rfl (hw1' _)) (ed_add (ed_ixL (r := rI) (xs := dues) (k := far - top + i) (y := best La ks) (hD _ _ rfl e04) (by rw [← ea]; exact ed_var rfl rfl) hda) (ed_ixL (r := rI) (xs := dues) (k := top - i) (y := best Lb ks) (hD _ _ rfl e04) (by rw [← eb]; exact ed_sub (ed_var (r := rI) (x := (far : Int)) rfl rfl) (ed_var (r := rI) (x := (far : Int) - top + i) rfl rfl)) hdb))) (decide_eq_false (by omega))
  refine r_if (b := false) (et_B' hany) (fun z => nomatch z) fun _ H4 e4 => ?_
  have e04 := e03.trans e4
  refine r_asg (ev_best (ed_var rfl (mon e04 r1)) (ed_var rfl (mon e04 r2)) (ed_var rfl (mon e04 r3)) (ed_var rfl rfl) pre fun hn => by rw [hL] at hn; cases hn) fun w5 H5 e5 ⟨L', run, hL', hw5, hb5⟩ => ?_
  rw [hL] at hL'
  cases hL'
  have e05 := e04.trans e5
  have hrl := hb5.len rc
  refine r_if (b := false) (EvT.to (et_not (a := true) (et_B' (ev_call1 (x := run) (ed_var rfl hw5) (by omega) hq_d))) rfl) (fun z => nomatch z) fun _ H6 e6 => ?_
  have e06 := e05.trans e6
  obtain ⟨y, hy1, hy2, hy3⟩ := hb5.ends rc
  have hsl : (timesV (far : Int) s).length = m := rc.hs.len
  have hsl' : s.length = m := by rw [timesV_len] at hsl; exact hsl
  refine r_asg (P := fun w H' => rVec H' w y) (ev_call3 (x := R) (y := timesV far s) (z := run) (ed_var rfl (mon e06 r1)) (ev_call2 (x := (far : Int)) (y := s) (ed_var rfl rfl) (ed_var rfl (mon e06 r2)) ⟨by omega, by omega, by omega⟩ hq_d) (ed_var rfl (mon e6 hw5)) ⟨by rw [hsl]; exact wfr_len rc.wf, by omega, by have := rc.wf.few; omega, by omega⟩ fun H1' H2' w' _ _ hp => ?_) fun w7 H7 e7 hw7 => ?_
  · have hp' : (rO rVec) H2' w' (runEnd R (timesV far s) run) := hp
    rw [hy1] at hp'
    exact hp'
  have e07 := e06.trans e7
  have hnn : Ed (tOp rNotN (tVar 8) (tC .non)) [some v1, some v2, some v3, some (.int far), some v5, some w1, some (.int top), some w5, some w7, none] H7 rB true := fun H0 e Q' q => ⟨w7, rfl, rfl, by
    obtain ⟨a, _, rfl, _⟩ := id hw7
    exact q _ H0 (Ex.refl _) rfl⟩
  refine r_ret (ed_andV (b := decide (insideV y ks = best L ks)) hnn fun _ => ed_eqI (ev_call2 (x := y) (y := ks) (ed_var rfl hw7) (ed_var rfl (mon e07 r3)) ⟨fun k hk' => by rw [hy2]; exact hk k hk', pre.kinds⟩ hq_d) (ed_var rfl (hw1' _))) fun w' H8 e8 p => k w' H8 (e07.trans e8) ?_
  rw [hy3] at p
  have p' : rB H8 w' true := by simpa using p
  exact p'
end
end M
/-! ## Q11 -/
/-! What is refused. -/
namespace M
open PySem L2 Evl PyProof.Rows
def sp__law_refused : Sp := sp5 rI rRule rVec rVec rN (fun _ R s ks n => MoPre R s ks n ∧ reach R (timesV n s) 3000 = none) (fun _ _ _ _ _ => pd rB true)
/-! _law_refused: slots way 0, rule 1, start 2, kinds 3, n 4, e 5 -/
def N__law_refused : List Str := ["way", "rule", "start", "kinds", "n", "e"]
def t__law_refused (K : PySem.W.Frag) (cs : Cs) : TS :=
  (tSeq (tTryAs K cs 5 (fun W => (tIfS (tTest (tOp rEq (tVar 0) (tC (.int 0)))) (tDrop (tCallS (sp_most_at cs) (WE W) (tCons (tVar 1) (tCons (tVar 2) (tCons (tVar 3) (tCons (tVar 4) tNil)))))) (tIfS (tTest (tOp rEq (tVar 0) (tC (.int 1)))) (tDrop (tCallS (sp_least_left cs) (WE W) (tCons (tVar 1) (tCons (tVar 2) (tCons (tVar 3) (tCons (tVar 4) tNil)))))) (tDrop (tCallS (sp_best_run cs) (WE W) (tCons (tVar 1) (tCons (tVar 2) (tCons (tVar 3) (tCons (tVar 4) tNil))))))))) (fun a cls d => tRet (tIsTm cs a cls d (tVar 5))))
  (tRet (tC (.bl false))))
section
variable {K : PySem.W.Frag} {mg : Str → Option Value} {cs : Cs} {vs : List V} {H : Hp} {Q : VK} {E : XK}
theorem pure__law_refused (T : Txt K mg cs) (h : sp__law_refused vs H Q E) : t__law_refused K cs { nx := fun _ H' => Q .non H', rt := Q } (start N__law_refused vs) H := by
  obtain ⟨v1, v2, v3, v4, v5, way, R, s, ks, n, rfl, r1, r2, r3, r4, r5, ⟨pre, hN⟩, k⟩ := h
  cases r1
  cases r5
  have fin : ∀ (D : Ends) (d : Addr) (H' : Hp), D.rt = Q → Ex H H' → H' d = some (.xd tmF) → wAs K (.ref cs.me) 5 (fun a cls d => tRet (tIsTm cs a cls d (tVar 5))) (fun _ _ _ _ => False) D (.ref cs.tm) (some d) [some (.int way), some v2, some v3, some v4, some (.int n), none] H' := fun D d H' hD ex hd =>
    ⟨true, T.exm, fun _ a ha => ⟨.ref a, rfl, rfl, rfl, d, rfl, hd, fun H'' e => by rw [hD]; exact k _ H'' (ex.trans e) rfl⟩, fun z => nomatch z⟩
  show (tIfS _ _ _) _ _ _
  refine r_ifN (et_test' (ed_eqI (ed_var (r := rI) (x := way) rfl rfl) (ed_int (n := 0)))) (fun _ H1 e1 => ?_) (fun _ H1 e1 => ?_)
  · exact ⟨_, rfl, _, rfl, _, rfl, _, rfl, v2, v3, v4, R, s, ks, n, rfl, mon e1 r2, mon e1 r3, mon e1 r4, pre, fun L w H' hL => (by rw [hN] at hL; cases hL), fun _ d H' ex nd hd => fin _ d H' rfl (e1.trans ex) hd⟩
  · refine r_ifN (et_test' (ed_eqI (ed_var (r := rI) (x := way) rfl rfl) (ed_int (n := 1)))) (fun _ H2 e2 => ?_) (fun _ H2 e2 => ?_)
    · have e02 := e1.trans e2
      exact ⟨_, rfl, _, rfl, _, rfl, _, rfl, v2, v3, v4, R, s, ks, n, rfl, mon e02 r2, mon e02 r3, mon e02 r4, pre, fun L w H' hL => (by rw [hN] at hL; cases hL), fun _ d H' ex nd hd => fin _ d H' rfl (e02.trans ex) hd⟩
    · have e02 := e1.trans e2
      exact ⟨_, rfl, _, rfl, _, rfl, _, rfl, v2, v3, v4, R, s, ks, n, rfl, mon e02 r2, mon e02 r3, mon e02 r4, pre, fun L w H' run hL => (by rw [hN] at hL; cases hL), fun _ d H' ex nd hd => fin _ d H' rfl (e02.trans ex) hd⟩
end
end M
/-! ## Q12 -/
/-! The ring of the law. -/
namespace M
open PySem L2 Evl PyProof.Rows
/-- a deed of the ring: one goes from a on -/
def Rg (m a : Nat) (dd : Deed) : Prop := (∀ j, at0 dd.2.1 j = one a j) ∧ (∀ j, at0 dd.2.2 j = one ((a + 1) % m) j) ∧ WfD m dd
structure BldR (m : Nat) (d c l rw : Addr) (Hb H : Hp) (q : Nat) (as : List Nat) : Prop where
  sm : Sm [d, l, rw] Hb H
  dr : Dr d c H
  nl : NL l H q
  ro : ∃ us rows, H rw = some (.lst us) ∧ Paired (rDeed H) us rows ∧ Paired (fun dd a => Rg m a dd) rows as
section
variable {m : Nat} {d c l rw : Addr} {H0 Hb H : Hp} {q : Nat} {as : List Nat}
theorem BldR.ex (h : BldR m d c l rw Hb H q as) {H' : Hp} (e : Ex H H') : BldR m d c l rw Hb H' q as := by
  obtain ⟨sm, dr, nl, us, rows, h1, h2, h3⟩ := h
  exact ⟨sm.trans (Ex.sm e), dr.ex e, nl.ex e, us, rows, e _ _ h1, mons e h2, h3⟩
theorem BldR.popped (h : BldR m d c l rw Hb H (q + 1) as) (b : BSt d c l rw H0 Hb) {H' : Hp} (s : Sm [d, l] H H') (dr : Dr d c H') (nl : NL l H' q) : BldR m d c l rw Hb H' q as := by
  obtain ⟨sm, dr0, n0, us, rows, h1, h2, h3⟩ := h
  obtain ⟨n1, n2, n3, n4⟩ := b.ne
  refine ⟨sm.trans (s.more fun x hx => ?_), dr, nl, us, rows, s _ _ (by simp [n3, b.lr.symm]) h1, monT (dr0.tp2 n0.lst s) h2, h3⟩
  rcases List.mem_cons.mp hx with z | z
  · rw [z]; simp
  · rw [List.mem_singleton.mp z]; simp
theorem BldR.app (h : BldR m d c l rw Hb H q as) (b : BSt d c l rw H0 Hb) {w : V} {dd : Deed} {us : List V} {a : Nat} (hu : H rw = some (.lst us)) (hw : rDeed H w dd) (hd : Rg m a dd) : BldR m d c l rw Hb (upd H rw (.lst (us ++ [w]))) q (as ++ [a]) := by
  obtain ⟨sm, dr, ⟨ws, w1, w2⟩, us', rows, h1, h2, h3⟩ := h
  rw [hu] at h1
  cases h1
  obtain ⟨n1, n2, n3, n4⟩ := b.ne
  have tp : Tp H (upd H rw (.lst (us ++ [w]))) := tp_lst hu
  exact ⟨sm.upd (by simp), dr.other n3 n4, ⟨ws, by rw [upd_ne b.lr]; exact w1, w2⟩, us ++ [w], rows ++ [dd], upd_same, p_app (monT tp h2) (.cons (Mon.mon tp hw) .nil), p_app h3 (.cons hd .nil)⟩
theorem BldR.len (h : BldR m d c l rw Hb H q as) {us : List V} (hu : H rw = some (.lst us)) : us.length = as.length := by
  obtain ⟨_, _, _, us', rows, h1, h2, h3⟩ := h
  rw [hu] at h1
  cases h1
  rw [Paired.length h2, Paired.length h3]
end
section
variable {K : PySem.W.Frag} {σ : L2.St} {H : Hp} {ta tb tA tB tl tm te : TE} {m : Nat} {d c l rw : Addr} {H0 Hb : Hp} {q a : Nat} {as : List Nat} {D : Ends}
theorem bldR_row {id il ir : Nat} {PA PB : Vec → Prop} (b : BSt d c l rw H0 Hb) (h : BldR m d c l rw Hb H (q + 1) as) (hn : as.length ≤ 100) (hid : σ[id]? = some (some (.ref d))) (hil : σ[il]? = some (some (.ref l))) (hir : σ[ir]? = some (some (.ref rw)))
    (hA : ∀ H1, EvP tA σ H1 (fun v H' => ∃ x, rVec H' v x ∧ PA x)) (hB : ∀ H1, EvP tB σ H1 (fun v H' => ∃ x, rVec H' v x ∧ PB x)) (hw : ∀ z x y, PA x → PB y → Rg m a (z, x, y))
    (k : ∀ H', BldR m d c l rw Hb H' q (as ++ [a]) → D.nx σ H') :
    tDrop (tBM K "list" rAppend (tVar ir) (tCons (tTup (tCons (tCall sp__law_pop [] E0 (tCons (tVar id) (tCons (tVar il) tNil))) (tCons tA (tCons tB tNil)))) tNil)) D σ H := by
  obtain ⟨us, rows, hu, _⟩ := h.ro
  obtain ⟨n1, n2, n3, n4⟩ := b.ne
  refine ⟨_, hir, .inl ⟨rfl, _, SqL.of hu⟩, _, hid, _, hil, pop_str (E := E0) (q := q) n1 n2 h.dr h.nl fun z H1 s1 d1 nl1 => ?_⟩
  have b1 := h.popped b s1 d1 nl1
  refine (hA H1).run fun va H2 e2 ⟨x, hx, px⟩ => ?_
  refine (hB H2).run fun vb H3 e3 ⟨y, hy, py⟩ => ?_
  refine ⟨by show 3 ≤ sizeLine; decide, fun p np => ?_⟩
  have b4 := b1.ex ((e2.trans e3).trans (Ex.new (o := .tup [.str z, va, vb]) np))
  have hu1 := s1 _ _ (by simp [n3, b.lr.symm]) hu
  have hu4 := ((e2.trans e3).trans (Ex.new (o := .tup [.str z, va, vb]) np)) _ _ hu1
  have hw4 : rDeed (upd H3 p (.tup [.str z, va, vb])) (.ref p) (z, x, y) := ⟨p, _, _, _, rfl, upd_same, rfl, mon (e3.trans (Ex.new np)) hx, mon (Ex.new np) hy⟩
  exact ⟨rw, us, .ref p, rfl, rfl, hu4, sz_lt (by rw [b1.len hu1]; omega), k _ (b4.app b hu4 hw4 (hw z x y px py))⟩
end
theorem count_one (a j : Nat) : (((([a] : List Nat).count j : Nat)) : Int) = one a j := by
  unfold one
  by_cases h : j = a
  · subst h; rw [if_pos rfl]; simp
  · rw [if_neg h, List.count_cons_of_ne (fun z => h z.symm)]; rfl
/-- the rows of all places make a ring -/
theorem ring_of {m : Nat} {ks : List Str} {rows : List Deed} {as : List Nat} (hk : ks.length = m) (hm : m ≤ 8) (p : Paired (fun dd a => Rg m a dd) rows as) (hp : as.Perm (List.range m)) : RingR m (ks, rows) := by
  have hl : rows.length = m := by rw [Paired.length p, perm_len hp]
  have at_ : ∀ (k : Nat) (dd : Deed) (a : Nat), rows[k]? = some dd → as[k]? = some a → Rg m a dd := fun k dd a h1 h2 => by
    obtain ⟨a', h3, h4⟩ := p_get' p h1
    rw [h2] at h3
    cases h3
    exact h4
  have each : ∀ k, k < rows.length → ∃ a, a < m ∧ Rg m a (deedOf (ks, rows) k) := fun k hk' => by
    have h1 : rows[k]? = some (deedOf (ks, rows) k) := deed_get (R := (ks, rows)) hk'
    obtain ⟨a, h2, h3⟩ := p_get' p h1
    exact ⟨a, perm_lt hp a (List.mem_of_getElem? h2), h3⟩
  refine ⟨⟨hk, by show rows.length ≤ 8; omega, fun dd hd => ?_⟩, fun a ha => ?_, fun k hk' => ?_⟩
  · obtain ⟨k, hk1, e⟩ := List.getElem_of_mem hd
    have h1 : rows[k]? = some dd := by rw [List.getElem?_eq_getElem hk1, e]
    obtain ⟨a, h2, h3⟩ := p_get' p h1
    exact h3.2.2
  · have ham : a ∈ as := hp.mem_iff.mpr (List.mem_range.mpr ha)
    obtain ⟨k, hk1⟩ := List.getElem?_of_mem ham
    have hkl := (List.getElem?_eq_some_iff.mp hk1).1
    have hkr : k < rows.length := by rw [hl, ← perm_len hp]; exact hkl
    have h1 : rows[k]? = some (deedOf (ks, rows) k) := deed_get (R := (ks, rows)) hkr
    have h3 := at_ k _ a h1 hk1
    exact ⟨k, hkr, h3.1, h3.2.1⟩
  · obtain ⟨a, h1, h2⟩ := each k hk'
    exact ⟨a, h1, h2.1, h2.2.1⟩
def sp__law_ring_right : Sp := fun vs H Q _ => ∃ d c, vs = [.ref d] ∧ Dr d c H ∧ ∀ H', Q (.bl true) H'
/-! _law_ring_right: slots d 0, sizes 1, many 2, size 3, n 4, names 5, words 6, rows 7, at 8, rule 9, start 10, kinds 11, way 12, told 13, run 14, end 15, kind 16 -/
def N__law_ring_right : List Str := ["d", "sizes", "many", "size", "n", "names", "words", "rows", "at", "rule", "start", "kinds", "way", "told", "run", "end", "kind"]
def t__law_ring_right (K : PySem.W.Frag) (cs : Cs) : TS :=
  (tSeq (tAsg (tLst (tCons (tTup (tCons (tC (.int 3)) (tCons (tC (.int 5)) (tCons (tC (.int 15)) tNil)))) (tCons (tTup (tCons (tC (.int 3)) (tCons (tC (.int 4)) (tCons (tC (.int 19)) tNil)))) (tCons (tTup (tCons (tC (.int 4)) (tCons (tC (.int 6)) (tCons (tC (.int 4)) tNil)))) (tCons (tTup (tCons (tC (.int 4)) (tCons (tC (.int 5)) (tCons (tC (.int 5)) tNil)))) (tCons (tTup (tCons (tC (.int 5)) (tCons (tC (.int 1)) (tCons (tC (.int 13)) tNil)))) (tCons (tTup (tCons (tC (.int 5)) (tCons (tC (.int 2)) (tCons (tC (.int 7)) tNil)))) (tCons (tTup (tCons (tC (.int 6)) (tCons (tC (.int 3)) (tCons (tC (.int 3)) tNil)))) (tCons (tTup (tCons (tC (.int 6)) (tCons (tC (.int 5)) (tCons (tC (.int 2)) tNil)))) tNil))))))))) (gName 1))
  (tSeq (tAsg (tCall sp__law_pick [] E0 (tCons (tVar 0) (tCons (tVar 1) tNil))) (gTup K 3 (gCons (gName 2) (gCons (gName 3) (gCons (gName 4) gNil)))))
  (tSeq (tAsg (tCall sp__law_pool [] E0 tNil) (gName 5))
  (tSeq (tAsg (tCB (rTupOf K) (tCons (tLc (iRng1 (tCons (tVar 2) tNil)) (gName 16) tYes (tCall sp__law_pop [] E0 (tCons (tVar 0) (tCons (tVar 5) tNil))) [16]) tNil)) (gName 6))
  (tSeq (tAsg (tLst tNil) (gName 7))
  (tSeq (tFor (iList K (tCall sp__law_shuffled [] E0 (tCons (tVar 0) (tCons (tLstRg (tRg1 (tVar 2))) tNil)))) (gName 8) (tDrop (tBM K "list" rAppend (tVar 7) (tCons (tTup (tCons (tCall sp__law_pop [] E0 (tCons (tVar 0) (tCons (tVar 5) tNil))) (tCons (tCall sp__law_listed [] E0 (tCons (tVar 2) (tCons (tLst (tCons (tVar 8) tNil)) tNil))) (tCons (tCall sp__law_listed [] E0 (tCons (tVar 2) (tCons (tLst (tCons (tOp oMod (tCB rInt1 (tCons (tOp oAdd (tVar 8) (tC (.int 1))) tNil)) (tVar 2)) tNil)) tNil))) tNil)))) tNil))))
  (tSeq (tAsg (tTup (tCons (tVar 6) (tCons (tCB (rTupOf K) (tCons (tVar 7) tNil)) tNil))) (gName 9))
  (tSeq (tAsg (tCall sp__law_heap [] E0 (tCons (tVar 0) (tCons (tVar 2) (tCons (tVar 3) tNil)))) (gName 10))
  (tSeq (tAsg (tCall sp__law_some_kinds [] E0 (tCons (tVar 0) (tCons (tVar 2) tNil))) (gName 11))
  (tSeq (tAsg (tCall sp__law_draw [] E0 (tCons (tVar 0) (tCons (tC (.int 3)) tNil))) (gName 12))
  (tSeq (tIfS (tTest (tOp oGt (tCall sp__law_size_of_crowd [] E0 (tCons (tTup (tCons (tVar 9) (tCons (tVar 10) (tCons (tVar 10) tNil)))) (tCons (tVar 4) tNil))) (tC (.int 3000)))) (tRet (tCall sp__law_refused [] E0 (tCons (tVar 12) (tCons (tVar 9) (tCons (tVar 10) (tCons (tVar 11) (tCons (tVar 4) tNil))))))) tNext)
  (tSeq (tIfS (tTest (tOp rEq (tVar 12) (tC (.int 0)))) (tSeq (tAsg (tCall (sp_most_at cs) [] E0 (tCons (tVar 9) (tCons (tVar 10) (tCons (tVar 11) (tCons (tVar 4) tNil))))) (gName 13))
  (tRet (tAndV (tCall sp__law_is_int [] E0 (tCons (tVar 13) tNil)) (tOp rEq (tVar 13) (tOp oMul (tVar 4) (tVar 3)))))) tNext)
  (tSeq (tIfS (tTest (tOp rEq (tVar 12) (tC (.int 1)))) (tSeq (tAsg (tCall (sp_least_left cs) [] E0 (tCons (tVar 9) (tCons (tVar 10) (tCons (tVar 11) (tCons (tVar 4) tNil))))) (gName 13))
  (tRet (tAndV (tCall sp__law_is_int [] E0 (tCons (tVar 13) tNil)) (tOp rEq (tVar 13) (tC (.int 0)))))) tNext)
  (tSeq (tAsg (tCall (sp_best_run cs) [] E0 (tCons (tVar 9) (tCons (tVar 10) (tCons (tVar 11) (tCons (tVar 4) tNil))))) (gName 14))
  (tSeq (tIfS (tOr (tNot (tB (tCall sp__law_is_ints [] E0 (tCons (tVar 14) tNil)))) (tTest (tOp rNe (tCB (rLenS K) (tCons (tVar 14) tNil)) (tOp oMul (tVar 4) (tCall sp__law_ring_steps [] E0 (tCons (tVar 10) (tCons (tVar 11) tNil))))))) (tRet (tC (.bl false))) tNext)
  (tSeq (tAsg (tCall sp__law_run_end [] E0 (tCons (tVar 9) (tCons (tCall sp__law_times [] E0 (tCons (tVar 4) (tCons (tVar 10) tNil))) (tCons (tVar 14) tNil)))) (gName 15))
  (tRet (tAndV (tOp rNotN (tVar 15) (tC .non)) (tOp rEq (tCall sp__law_inside [] E0 (tCons (tVar 15) (tCons (tVar 11) tNil))) (tOp oMul (tVar 4) (tVar 3)))))))))))))))))))))
def ringSizes : List Vec := [[3, 5, 15], [3, 4, 19], [4, 6, 4], [4, 5, 5], [5, 1, 13], [5, 2, 7], [6, 3, 3], [6, 5, 2]]
theorem ring_size {x : Vec} (h : x ∈ ringSizes) : ∃ m sz n : Nat, x = [(m : Int), (sz : Int), (n : Int)] ∧ 3 ≤ m ∧ m ≤ 6 ∧ 1 ≤ sz ∧ sz ≤ 6 ∧ n ≤ 19 := by
  unfold ringSizes at h
  simp only [List.mem_cons, List.not_mem_nil, or_false] at h
  rcases h with h | h | h | h | h | h | h | h
  · exact ⟨3, 5, 15, h, by decide, by decide, by decide, by decide, by decide⟩
  · exact ⟨3, 4, 19, h, by decide, by decide, by decide, by decide, by decide⟩
  · exact ⟨4, 6, 4, h, by decide, by decide, by decide, by decide, by decide⟩
  · exact ⟨4, 5, 5, h, by decide, by decide, by decide, by decide, by decide⟩
  · exact ⟨5, 1, 13, h, by decide, by decide, by decide, by decide, by decide⟩
  · exact ⟨5, 2, 7, h, by decide, by decide, by decide, by decide, by decide⟩
  · exact ⟨6, 3, 3, h, by decide, by decide, by decide, by decide, by decide⟩
  · exact ⟨6, 5, 2, h, by decide, by decide, by decide, by decide, by decide⟩
section
variable {K : PySem.W.Frag} {mg : Str → Option Value} {cs : Cs} {vs : List V} {H : Hp} {Q : VK} {E : XK} {σ : L2.St} {a b c : TE}
theorem el_v3 {x y z : Int} (ha : Ed a σ H rI x) (hb : Ed b σ H rI y) (hc : Ed c σ H rI z) : Ed (tTup (tCons a (tCons b (tCons c tNil)))) σ H rVec [x, y, z] := ev_vec3 ha hb hc
theorem pure__law_ring_right (T : Txt K mg cs) (h : sp__law_ring_right vs H Q E) : t__law_ring_right K cs { nx := fun _ H' => Q .non H', rt := Q } (start N__law_ring_right vs) H := by
  obtain ⟨d, cc, rfl, hD, k⟩ := h
  -- the sizes
  refine r_asg (el_lst (r := rVec) (xs := ringSizes) (es_cons (el_v3 ed_int ed_int ed_int) (es_cons (el_v3 ed_int ed_int ed_int) (es_cons (el_v3 ed_int ed_int ed_int) (es_cons (el_v3 ed_int ed_int ed_int) (es_cons (el_v3 ed_int ed_int ed_int) (es_cons (el_v3 ed_int ed_int ed_int) (es_cons (el_v3 ed_int ed_int ed_int) (es_cons (el_v3 ed_int ed_int ed_int) es_nil)))))))) (by decide)) fun v H1 e1 ⟨zl, zus, ev, nzl, hzl, zpr⟩ => ?_
  subst ev
  have d1 := hD.ex e1
  have zd : zl ≠ d := (hD.ned nzl).1
  have zlen : zus.length = 8 := Paired.length zpr
  refine ⟨_, rfl, _, rfl, d, cc, zl, zus, rfl, zd, .inl hzl, by omega, by omega, d1, fun v H2 s2 d2 hv => ?_⟩
  obtain ⟨zi, hzi⟩ := List.getElem?_of_mem hv
  obtain ⟨x, hx, rx⟩ := p_get' zpr hzi
  obtain ⟨m, sz, n, rfl, m3, m6, sz1, sz6, n19⟩ := ring_size (List.mem_of_getElem? hx)
  obtain ⟨zt, zvs, rfl, hzt, zp⟩ := rx
  have hzvs := rs_int zp
  subst hzvs
  have hzt2 := (d1.tp s2) _ _ hzt
  refine ⟨zt, [.int m, .int sz, .int n], rfl, SqT.of hzt2, rfl, .int m, _, rfl, .int sz, _, rfl, .int n, [], rfl, rfl, ?_⟩
  -- names, kinds
  refine r_pool fun l H3 nl e3 nl3 => ?_
  obtain ⟨ld, lc⟩ := d2.ned nl
  refine r_kinds (d := d) (c := cc) (l := l) (n := m) (q := 20) rfl rfl (by decide) (by decide) (ed_var rfl rfl) (by omega) ld lc (d2.ex e3) (nl3.less (by omega)) fun p H4 ks s4 d4 nl4 hk4 hks => ?_
  have s24 : Sm [d] H2 H4 := ((Ex.sm e3).trans s4).less nl
  refine r_rows fun rw H7 nr e7 hr7 => ?_
  have B : BSt d cc l rw H2 H7 := bst_mk (H1 := H2) d2 s24 d4 nl nl4 nr e7 hr7
  have b0 : BldR m d cc l rw H7 H7 20 [] := ⟨Sm.refl _ _, d4.ex e7, nl4.ex e7, [], [], hr7, .nil, .nil⟩
  have hk7 : rT rS H7 (.ref p) ks := mon e7 hk4
  -- the rows
  show (tCall sp__law_shuffled [] E0 (tCons (tVar 0) (tCons (tLstRg (tRg1 (tVar 2))) tNil))) _ H7 _
  refine ⟨_, rfl, ?_⟩
  refine (el_listR (n := m) (ed_var (i := 2) rfl rfl) (by omega)).run fun v H8 e8 ⟨q, us, hv, nq, hq, pr⟩ => ?_
  subst hv
  have hus := rs_int pr
  rw [List.map_map] at hus
  subst hus
  refine ⟨d, cc, q, _, rfl, hq, by rw [List.length_map, List.length_range]; omega, (b0.ex e8).dr, fun v H9 s9 d9 ⟨la, ys, hv, nla, hla, pa⟩ => ?_⟩
  subst hv
  obtain ⟨as, has, pas⟩ := perm_ints pa
  subst has
  have las := perm_len pas
  obtain ⟨n1, n2, n3, n4⟩ := B.ne
  have b8 := b0.ex e8
  have b9 : BldR m d cc l rw H9 H9 20 [] := by
    obtain ⟨sm, dr0, ⟨ws, w1, w2⟩, us, rows, h1, h2, h3⟩ := b8
    exact ⟨Sm.refl _ _, d9, ⟨ws, s9 _ _ (by simp [n1]) w1, w2⟩, us, rows, s9 _ _ (by simp [n3]) h1, monT (dr0.tp s9) h2, h3⟩
  have B9 : BSt d cc l rw H2 H9 := ⟨(B.s0.trans (Ex.sm e8)).trans s9, B.d0, d9, B.l0, B.r0, B.lr, b9.nl.lst, ⟨_, b9.ro.choose_spec.choose_spec.1⟩⟩
  have hk9 : rT rS H9 (.ref p) ks := Mon.mon ((Ex.tp e8).trans (b8.dr.tp s9)) hk7
  have nal : la ≠ d := (b8.dr.ned nla).1
  have nll : la ≠ l := by
    obtain ⟨xs, h⟩ := b8.nl.lst
    exact (ne_of_none h nla).symm
  have nlr : la ≠ rw := by
    obtain ⟨us, rows, h, _⟩ := b8.ro
    exact (ne_of_none h nla).symm
  have hla' : ∀ H' q as, BldR m d cc l rw H9 H' q as → H' la = some (.lst (as.map fun _ => V.non)) ∨ H' la = some (.lst (natL as)) ∨ True := fun _ _ _ _ => .inr (.inr trivial)
  have keep : ∀ H' q as', BldR m d cc l rw H9 H' q as' → H' la = some (.lst (as.map fun (k : Nat) => V.int (k : Int))) := fun H' q as' b => b.sm _ _ (by simp [nal, nll, nlr]) hla
  refine ⟨la, rfl, ⟨_, SqL.of hla⟩, for_list (xs := as.map fun (k : Nat) => V.int (k : Int)) (fun i σ' H' => BldR m d cc l rw H9 H' (20 - i) (as.take i) ∧ ∃ av, σ' = [some (.ref d), some (.ref zl), some (.int m), some (.int sz), some (.int n), some (.ref l), some (.ref p), some (.ref rw), av, none, none, none, none, none, none, none, none])
    ⟨by rw [List.take_zero]; exact b9, none, rfl⟩ (fun i σ' H' _ p => SqL.of (keep _ _ _ p.1)) ?_ ?_⟩
  · rintro i w σ' H10 hi ⟨b10, av, rfl⟩
    rw [List.getElem?_map] at hi
    obtain ⟨a, ha, hv⟩ : ∃ a, as[i]? = some a ∧ w = .int (a : Int) := by
      cases hq : as[i]? with
      | none => rw [hq] at hi; cases hi
      | some y => rw [hq] at hi; exact ⟨y, rfl, (Option.some.inj hi).symm⟩
    subst hv
    have hil := (List.getElem?_eq_some_iff.mp ha).1
    have ham : a < m := perm_lt pas a (List.mem_of_getElem? ha)
    have hmod : (((a : Int) + 1) % (m : Int)) = (((a + 1) % m : Nat) : Int) := by rw [Int.natCast_emod, Int.natCast_add]; rfl
    have htl : (as.take i).length = i := by rw [List.length_take]; omega
    refine bldR_row (q := 20 - (i + 1)) (a := a) (as := as.take i) B9 (by rw [show 20 - (i + 1) + 1 = 20 - i by omega]; exact b10) (by omega) rfl rfl rfl (PA := fun x => Hv m 1 x ∧ ∀ j, at0 x j = one a j) (PB := fun x => Hv m 1 x ∧ ∀ j, at0 x j = one ((a + 1) % m) j)
      (fun H1 => (ev_listed (ks := [a]) (ed_var rfl rfl) (el_lst (es_cons (ed_var (r := rN) (x := a) rfl rfl) es_nil) (by simp)) (by omega) (by simp) (fun k hk => by rw [List.mem_singleton.mp hk]; exact ham)).imp fun v _ _ ⟨x, h1, h2, h3⟩ => ⟨x, h1, h2, fun j => by rw [h3, count_one]⟩)
      (fun H1 => (ev_listed (ks := [(a + 1) % m]) (ed_var rfl rfl) (el_lst (es_cons (ed_nat (ed_mod (ed_int1 (ed_add (ed_var (r := rI) (x := (a : Int)) rfl rfl) (ed_int (n := 1)))) (ed_var (r := rI) (x := (m : Int)) rfl rfl) (by omega)) hmod) es_nil) (by simp)) (by omega) (by simp) (fun k hk => by rw [List.mem_singleton.mp hk]; exact Nat.mod_lt _ (by omega))).imp fun v _ _ ⟨x, h1, h2, h3⟩ => ⟨x, h1, h2, fun j => by rw [h3, count_one]⟩)
      (fun z x y hx hy => ⟨hx.2, hy.2, 1, by decide, by decide, hx.1, hy.1⟩) fun H11 b11 => ?_
    refine ⟨?_, _, rfl⟩
    rw [List.take_add_one, ha]
    exact b11
  · rintro σ' H10 ⟨b10, av, rfl⟩
    rw [List.length_map, List.take_length] at b10
    obtain ⟨sm10, d10, nl10, us, rows, hrw, prw, prg⟩ := b10
    have hring := ring_of hks (by omega) prg pas
    have hk10 : rT rS H10 (.ref p) ks := Mon.mon (B9.tp sm10) hk9
    refine r_asg (ed_pair (r := rT rS) (s := rT rDeed) (x := ks) (y := rows) (ed_var rfl hk10) (ed_tupL (ed_var rfl ⟨rw, us, rfl, hrw, prw⟩))) fun rv H11 e11 rrv => ?_
    have d11 := d10.ex e11
    have rrv' : rRule H11 rv (ks, rows) := rrv
    generalize hR : ((ks, rows) : Rule) = R at rrv' hring
    -- start, kinds, way
    refine ⟨_, rfl, _, rfl, _, rfl, d, cc, m, sz, rfl, by omega, by omega, by omega, d11, fun sv H12 s12 d12 ⟨s, rs, hs⟩ => ?_⟩
    refine ⟨_, rfl, _, rfl, d, cc, m, rfl, by omega, m6, d12, fun kv H13 s13 d13 ⟨kl, rk, hlot⟩ => ?_⟩
    show tCall sp__law_draw [] E0 (tCons (tVar 0) (tCons (tC (.int 3)) tNil)) _ H13 _
    refine draw_run rfl ec (by decide) (by decide) d13 fun way H14 hway s14 d14 => ?_
    have rR : rRule H14 rv R := Mon.mon (((d11.tp s12).trans (d12.tp s13)).trans (d13.tp s14)) rrv'
    have rS' : rVec H14 sv s := Mon.mon ((d12.tp s13).trans (d13.tp s14)) rs
    have rK : rVec H14 kv kl := Mon.mon (d13.tp s14) rk
    have hm1 : 1 ≤ m := by omega
    have hkk : ∀ k ∈ kl, 0 ≤ k ∧ k < (m : Int) := hlot.lt
    have hkl8 : kl.length ≤ m := by
      have h1 : (kl.map Int.toNat).Nodup := by
        rw [List.nodup_iff_pairwise_ne, List.pairwise_map]
        refine List.Pairwise.imp_of_mem ?_ hlot.up
        intro a b ha hb hab
        have := hkk a ha
        have := hkk b hb
        omega
      have := nodup_sub (L := List.range m) h1 fun k hk => by
        obtain ⟨z, hz, e⟩ := List.mem_map.mp hk
        have := hkk z hz
        rw [← e]
        exact List.mem_range.mpr (by omega)
      rw [List.length_map, List.length_range] at this
      exact this
    have hklen : kl.length ≤ 1000 := by omega
    have pre : MoPre R s kl n := ⟨⟨m, _, hring.wf, hs, by omega, hkk⟩, hklen, by omega⟩
    have hsum : s.sum = (sz : Int) := hs.sum
    have hNt : Hv m (((n * sz : Nat)) : Int) (timesV (n : Int) s) := by
      have := hv_times hs (n := (n : Int)) (by omega)
      rw [Int.natCast_mul]
      exact this
    have hcrowd : crowdN s (n : Int) = (bin (m - 1) (n * sz) : Int) := by
      have := crowdN_eq (start := s) (n := n) (N := n * sz) (by rw [hsum, Int.natCast_mul])
      rw [hs.len] at this
      exact this
    have vR : ∀ (l' : L2.St) H', l'[9]? = some (some rv) → Ex H14 H' → Ed (tVar 9) l' H' rRule R := fun l' H' h e => ed_var h (mon e rR)
    have vS : ∀ (l' : L2.St) H', l'[10]? = some (some sv) → Ex H14 H' → Ed (tVar 10) l' H' rVec s := fun l' H' h e => ed_var h (mon e rS')
    have vK : ∀ (l' : L2.St) H', l'[11]? = some (some kv) → Ex H14 H' → Ed (tVar 11) l' H' rVec kl := fun l' H' h e => ed_var h (mon e rK)
    have vN : ∀ (l' : L2.St) H', l'[4]? = some (some (.int (n : Int))) → Ed (tVar 4) l' H' rN n := fun l' H' h => ed_var h rfl
    refine r_if (et_test' (ed_gt (ev_call2 (x := (R, s, s)) (y := n) (ed_trip (vR _ _ rfl (Ex.refl _)) (vS _ _ rfl (Ex.refl _)) (vS _ _ rfl (Ex.refl _))) (vN _ _ rfl) ⟨by show 1 ≤ s.length; rw [hs.len]; omega, by show s.length ≤ 1000; rw [hs.len]; omega, by omega, by show 0 ≤ s.sum; omega, by show s.sum ≤ 1000; omega⟩ hq_d) (ed_int (n := 3000)))) ?_ ?_
    · intro hb H15 e15
      have hbig : 3000 < bin (m - 1) (n * sz) := by
        have h0 := of_decide_eq_true hb
        have h1 : (3000 : Int) < crowdN s (n : Int) := h0
        rw [hcrowd] at h1
        omega
      have hnone : reach R (timesV (n : Int) s) 3000 = none := ring_none hring hm1 hNt (by decide) hbig
      exact r_ret (ev_call5 (P := fun w H' => rB H' w true) (x := (way : Int)) (y := R) (z := s) (a := kl) (b := n) (ed_var rfl rfl) (vR _ _ rfl e15) (vS _ _ rfl e15) (vK _ _ rfl e15) (vN _ _ rfl) ⟨pre, hnone⟩ hq_d) fun w H16 e16 p => by cases p; exact k H16
    · intro hb H15 e15
      have hfit : bin (m - 1) (n * sz) ≤ 3000 := by
        have h0 := of_decide_eq_false hb
        have h1 : ¬ (3000 : Int) < crowdN s (n : Int) := h0
        rw [hcrowd] at h1
        omega
      obtain ⟨L, hL⟩ := reach_some hring.wf hNt hm1 hfit (by decide)
      have rc : Rch R m ((n * sz : Nat) : Int) (timesV (n : Int) s) L := ⟨hring.wf, hNt, search_found hL⟩
      have hbest := ring_best (ks := kl) rc hring hlot
      have hLlen : L.length ≤ 3000 := search_len hL (by decide)
      have noN : ∀ {P : Prop}, reach R (timesV (n : Int) s) 3000 = none → P := fun h => by rw [hL] at h; cases h
      have hmul : ∀ (l' : L2.St) H', l'[4]? = some (some (.int (n : Int))) → l'[3]? = some (some (.int (sz : Int))) → Ed (tOp oMul (tVar 4) (tVar 3)) l' H' rI ((n * sz : Nat) : Int) := fun l' H' h1 h2 => by
        rw [Int.natCast_mul]
        exact ed_mul (ed_var h1 rfl) (ed_var h2 rfl) (.inl ⟨by omega, by omega⟩)
      refine r_if (et_test' (ed_eqI (ed_var (r := rI) (x := (way : Int)) rfl rfl) (ed_int (n := 0)))) ?_ ?_
      · intro _ H16 e16
        have ee := e15.trans e16
        refine r_asg (ev_most (vR _ _ rfl ee) (vS _ _ rfl ee) (vK _ _ rfl ee) (vN _ _ rfl) pre noN) fun w H17 e17 ⟨L', hL', hw⟩ => ?_
        rw [hL] at hL'
        cases hL'
        rw [hbest] at hw
        have hT : ∀ (l' : L2.St) H', l'[13]? = some (some w) → Ed (tVar 13) l' H' rI ((n * sz : Nat) : Int) := fun l' H' h => ed_var h hw
        refine r_ret (ed_andV (b := decide (((n * sz : Nat) : Int) = ((n * sz : Nat) : Int))) (ev_call1 (x := ((n * sz : Nat) : Int)) (hT _ _ rfl) trivial hq_d) fun _ => ed_eqI (hT _ _ rfl) (hmul _ _ rfl rfl)) fun w' H18 e18 p => ?_
        have p' : rB H18 w' true := by simpa using p
        cases p'
        exact k H18
      · intro _ H16 e16
        have ee := e15.trans e16
        refine r_if (et_test' (ed_eqI (ed_var (r := rI) (x := (way : Int)) rfl rfl) (ed_int (n := 1)))) ?_ ?_
        · intro _ H17 e17
          have ef := ee.trans e17
          refine r_asg (ev_least (vR _ _ rfl ef) (vS _ _ rfl ef) (vK _ _ rfl ef) (vN _ _ rfl) pre noN) fun w H18 e18 ⟨L', hL', hw⟩ => ?_
          rw [hL] at hL'
          cases hL'
          rw [hbest, hsum, ← Int.natCast_mul, Int.sub_self] at hw
          have hT : ∀ (l' : L2.St) H', l'[13]? = some (some w) → Ed (tVar 13) l' H' rI 0 := fun l' H' h => ed_var h hw
          refine r_ret (ed_andV (b := decide ((0 : Int) = 0)) (ev_call1 (x := (0 : Int)) (hT _ _ rfl) trivial hq_d) fun _ => ed_eqI (hT _ _ rfl) (ed_int (n := 0))) fun w' H19 e19 p => ?_
          have p' : rB H19 w' true := by simpa using p
          cases p'
          exact k H19
        · intro _ H17 e17
          have ef := ee.trans e17
          refine r_asg (ev_best (vR _ _ rfl ef) (vS _ _ rfl ef) (vK _ _ rfl ef) (vN _ _ rfl) pre noN) fun w H18 e18 ⟨L', run, hL', hw, hb5⟩ => ?_
          rw [hL] at hL'
          cases hL'
          have eg := ef.trans e18
          have hrl := hb5.len rc
          have hrlen : ((run.length : Nat) : Int) = (n : Int) * ringSteps s kl := by
            obtain ⟨st, hst, rfl⟩ := id hb5
            obtain ⟨dd, h1, h2⟩ := ring_dist rc hring hlot hst
            rw [phi_times] at h2
            rw [ringSteps_eq hs.len, ← h2]
            unfold bestRun
            rw [List.length_map, List.getD_eq_getElem?_getD, h1]
            show ((runOf (linksV R L) st dd 0).length : Int) = _
            rw [runOf_len hst rc.lk (by rw [linksV_len]; exact rc.pos) h1]
          have hphi : 0 ≤ ringSteps s kl := by rw [ringSteps_eq hs.len]; exact phi_nn hs
          have hel : ∀ e ∈ s, 0 ≤ e ∧ e ≤ 100000 := fun e he => by
            refine ⟨hs.nn e he, ?_⟩
            have : e ≤ s.sum := by
              have h2 : ∀ (s : Vec), (∀ e ∈ s, 0 ≤ e) → e ∈ s → e ≤ s.sum := fun s => by
                induction s with
                | nil => intro _ h; cases h
                | cons y s ih =>
                  intro hn hm
                  rw [List.sum_cons]
                  have h3 : 0 ≤ s.sum := sum_nn fun e he => hn e (List.mem_cons_of_mem _ he)
                  have h4 := hn y List.mem_cons_self
                  rcases List.mem_cons.mp hm with q | q
                  · rw [q]; omega
                  · have := ih (fun e he => hn e (List.mem_cons_of_mem _ he)) q; omega
              exact h2 s hs.nn he
            omega
          refine r_if (b := false) (EvT.to (et_or (a := false) (et_not (a := true) (et_B' (ev_call1 (x := run) (ed_var rfl hw) (by omega) hq_d))) fun _ => et_test' (ed_neI (ed_lenT (r := rI) (xs := run) (ed_var rfl hw)) (ed_mul (i := (n : Int)) (ed_var rfl rfl) (ev_call2 (x := s) (y := kl) (vS _ _ rfl eg) (vK _ _ rfl eg) ⟨by rw [hs.len]; omega, by omega, fun k hk => by rw [hs.len] at hk ⊢; exact way_ne hlot hk, hel⟩ hq_d) (.inl ⟨by omega, by omega⟩)))) (by rw [hrlen]; simp)) (fun z => nomatch z) fun _ H19 e19 => ?_
          have eh := eg.trans e19
          obtain ⟨y, hy1, hy2, hy3⟩ := hb5.ends rc
          have hsl : (timesV (n : Int) s).length = m := rc.hs.len
          refine r_asg (P := fun w H' => rVec H' w y) (ev_call3 (x := R) (y := timesV (n : Int) s) (z := run) (vR _ _ rfl eh) (ev_call2 (x := (n : Int)) (y := s) (ed_var rfl rfl) (vS _ _ rfl eh) ⟨by omega, by omega, by rw [hs.len]; omega⟩ hq_d) (ed_var rfl (mon e19 hw)) ⟨by rw [hsl]; exact wfr_len rc.wf, by omega, by have := rc.wf.few; omega, by omega⟩ fun H1' H2' w' _ _ hp => ?_) fun w7 H20 e20 hw7 => ?_
          · have hp' : (rO rVec) H2' w' (runEnd R (timesV (n : Int) s) run) := hp
            rw [hy1] at hp'
            exact hp'
          have ei := eh.trans e20
          have hnn : ∀ l' : L2.St, l'[15]? = some (some w7) → Ed (tOp rNotN (tVar 15) (tC .non)) l' H20 rB true := fun l' h0 H0 e Q' q => ⟨w7, h0, rfl, by
            obtain ⟨a, _, rfl, _⟩ := id hw7
            exact q _ H0 (Ex.refl _) rfl⟩
          refine r_ret (ed_andV (b := decide (insideV y kl = ((n * sz : Nat) : Int))) (hnn _ rfl) fun _ => ed_eqI (ev_call2 (x := y) (y := kl) (ed_var rfl hw7) (vK _ _ rfl ei) ⟨fun k hk' => by rw [hy2]; exact hkk k hk', pre.kinds⟩ hq_d) (hmul _ _ rfl rfl)) fun w' H21 e21 p => ?_
          rw [hy3, hbest] at p
          have p' : rB H21 w' true := by simpa using p
          cases p'
          exact k H21
end
end M
/-! ## Q13 -/
/-! The law. -/
namespace M
open PySem L2 Evl PyProof.Rows
def sp_law (K : PySem.W.Frag) : Sp := fun vs H Q _ => ∃ a, ∃ (ns : List Int), vs = [.ref a] ∧ SqL K H a (ns.map V.int) ∧ ns.length ≤ 63 ∧ ∀ H', Q (.bl true) H'
/-! law: slots script 0, d 1, task 2, room 3, rule 4, start 5, kinds 6, other 7, top 8, chosen 9, dues 10, n 11, listed 12, far 13, kind 14, standing 15 -/
def N_law : List Str := ["script", "d", "task", "room", "rule", "start", "kinds", "other", "top", "chosen", "dues", "n", "listed", "far", "kind", "standing"]
def t_law (K : PySem.W.Frag) (cs : Cs) : TS :=
  (tSeq (tAsg (tCall (sp__law_begin K) [] E0 (tCons (tVar 0) tNil)) (gName 1))
  (tSeq (tIfS (tB (tCall sp__law_rare [] E0 (tCons (tVar 1) (tCons (tC (.int 32)) tNil)))) (tRet (tCall sp__law_ring_right [] E0 (tCons (tVar 1) tNil))) tNext)
  (tSeq (tAsg (tCall sp__law_world [] E0 (tCons (tVar 1) tNil)) (gTup K 2 (gCons (gName 2) (gCons (gName 3) gNil))))
  (tSeq (tPar 4 5 (tCons (tOp (rIxT K) (tVar 2) (tC (.int 0))) (tCons (tOp (rIxT K) (tVar 2) (tC (.int 1))) tNil)))
  (tSeq (tAsg (tCall sp__law_some_kinds [] E0 (tCons (tVar 1) (tCons (tCB (rLenS K) (tCons (tVar 5) tNil)) tNil))) (gName 6))
  (tSeq (tIfS (tTest (tOp rEq (tCall sp__law_draw [] E0 (tCons (tVar 1) (tCons (tC (.int 2)) tNil))) (tC (.int 1)))) (tAsg (tCB (rTupOf K) (tCons (tLc (iRng1 (tCons (tCB (rLenS K) (tCons (tVar 5) tNil)) tNil)) (gName 14) (tTest (tOp oGt (tOp (rIxT K) (tOp (rIxT K) (tVar 2) (tC (.int 2))) (tVar 14)) (tC (.int 0)))) (tVar 14) [14]) tNil)) (gName 6)) tNext)
  (tSeq (tAsg (tCall sp__law_some_kinds [] E0 (tCons (tVar 1) (tCons (tCB (rLenS K) (tCons (tVar 5) tNil)) tNil))) (gName 7))
  (tSeq (tAsg (tCall sp__law_top [] E0 (tCons (tVar 2) (tCons (tC (.int 6)) (tCons (tVar 3) tNil)))) (gName 8))
  (tSeq (tAsg (tCall sp__law_draw [] E0 (tCons (tVar 1) (tCons (tOp oAdd (tVar 8) (tC (.int 1))) tNil))) (gName 9))
  (tSeq (tAsg (tLst tNil) (gName 10))
  (tSeq (tFor (iRng1 (tCons (tOp oAdd (tVar 8) (tC (.int 1))) tNil)) (gName 11) (tSeq (tAsg (tCall sp__law_reach [] E0 (tCons (tVar 4) (tCons (tCall sp__law_times [] E0 (tCons (tVar 11) (tCons (tVar 5) tNil))) (tCons (tC (.int 3000)) tNil)))) (gName 12))
  (tSeq (tDrop (tBM K "list" rAppend (tVar 10) (tCons (tCB (L2.rMax K) (tCons (tLc (iList K (tVar 12)) (gName 15) tYes (tCall sp__law_inside [] E0 (tCons (tVar 15) (tCons (tVar 6) tNil))) [15]) tNil)) tNil)))
  (tSeq (tIfS (tNot (tB (tCall sp__law_most_right [] E0 (tCons (tVar 4) (tCons (tVar 5) (tCons (tVar 6) (tCons (tVar 11) (tCons (tOp (rIxL K) (tVar 10) (tVar 11)) tNil)))))))) (tRet (tC (.bl false))) tNext)
  (tIfS (tTest (tOp rEq (tVar 11) (tVar 9))) (tIfS (tOr (tNot (tB (tCall sp__law_all_right [] E0 (tCons (tVar 4) (tCons (tVar 5) (tCons (tVar 6) (tCons (tVar 11) (tCons (tVar 12) tNil)))))))) (tNot (tB (tCall sp__law_all_right [] E0 (tCons (tVar 4) (tCons (tVar 5) (tCons (tVar 7) (tCons (tVar 11) (tCons (tVar 12) tNil))))))))) (tRet (tC (.bl false))) tNext) tNext)))))
  (tSeq (tAsg (tCB rMin2 (tCons (tOp oMul (tC (.int 2)) (tVar 8)) (tCons (tCall sp__law_top [] E0 (tCons (tVar 2) (tCons (tC (.int 20)) (tCons (tOp oMul (tC (.int 2)) (tVar 3)) tNil)))) tNil))) (gName 13))
  (tSeq (tIfS (tAnd (tTest (tOp oGt (tVar 13) (tVar 8))) (tNot (tB (tCall sp__law_far_right [] E0 (tCons (tVar 4) (tCons (tVar 5) (tCons (tVar 6) (tCons (tVar 13) (tCons (tVar 10) tNil))))))))) (tRet (tC (.bl false))) tNext)
  (tRet (tCall sp__law_most_right [] E0 (tCons (tVar 4) (tCons (tVar 5) (tCons (tVar 6) (tCons (tVar 9) (tCons (tOp (rIxL K) (tVar 10) (tVar 9)) tNil))))))))))))))))))))
/-- some kinds -/
structure Kd (m : Nat) (ks : List Int) : Prop where
  lt : ∀ k ∈ ks, 0 ≤ k ∧ k < (m : Int)
  few : ks.length ≤ 1000
theorem Lot.kd {m : Nat} {ks : List Int} (h : Lot m ks) (hm : m ≤ 1000) : Kd m ks := by
  refine ⟨h.lt, ?_⟩
  have h1 : (ks.map Int.toNat).Nodup := by
    rw [List.nodup_iff_pairwise_ne, List.pairwise_map]
    refine List.Pairwise.imp_of_mem ?_ h.up
    intro a b ha hb hab
    have := h.lt a ha
    have := h.lt b hb
    omega
  have := nodup_sub (L := List.range m) h1 fun k hk => by
    obtain ⟨z, hz, e⟩ := List.mem_map.mp hk
    have := h.lt z hz
    rw [← e]
    exact List.mem_range.mpr (by omega)
  rw [List.length_map, List.length_range] at this
  omega
/-- what the searches of the law stand on -/
structure LawPre (m : Nat) (R : Rule) (s : Vec) (sz room top : Nat) : Prop where
  wf : WfR m R
  hs : Hv m (sz : Int) s
  m1 : 1 ≤ m
  m6 : m ≤ 6
  z6 : sz ≤ 6
  r130 : room ≤ 130
  t6 : top ≤ 6
  crowd : ∀ j : Nat, j < top → crowdN s ((j + 1 : Nat) : Int) ≤ room
theorem LawPre.crow {m : Nat} {R : Rule} {s : Vec} {sz room top : Nat} (h : LawPre m R s sz room top) (n : Nat) : crowdN s (n : Int) = (bin (m - 1) (n * sz) : Int) := by
  have := crowdN_eq (start := s) (n := n) (N := n * sz) (by rw [h.hs.sum, Int.natCast_mul])
  rw [h.hs.len] at this
  exact this
theorem LawPre.hv {m : Nat} {R : Rule} {s : Vec} {sz room top : Nat} (h : LawPre m R s sz room top) (n : Nat) : Hv m ((n * sz : Nat) : Int) (timesV (n : Int) s) := by
  have := hv_times h.hs (n := (n : Int)) (by omega)
  rw [Int.natCast_mul]
  exact this
theorem LawPre.some_ {m : Nat} {R : Rule} {s : Vec} {sz room top : Nat} (h : LawPre m R s sz room top) {n : Nat} (hn : bin (m - 1) (n * sz) ≤ 3000) : ∃ L, reach R (timesV (n : Int) s) 3000 = some L := reach_some h.wf (h.hv n) h.m1 hn (by decide)
theorem LawPre.near {m : Nat} {R : Rule} {s : Vec} {sz room top : Nat} (h : LawPre m R s sz room top) {n : Nat} (hn : n ≤ top) : ∃ L, reach R (timesV (n : Int) s) 3000 = some L := by
  refine h.some_ ?_
  cases n with
  | zero => rw [Nat.zero_mul, bin_k0]; decide
  | succ j =>
    have h1 := h.crowd j (by omega)
    rw [h.crow] at h1
    have := h.r130
    omega
theorem LawPre.mo {m : Nat} {R : Rule} {s ks : Vec} {sz room top : Nat} (h : LawPre m R s sz room top) (hk : Kd m ks) {n : Nat} (hn : n ≤ 1000) : MoPre R s ks n := ⟨⟨m, _, h.wf, h.hs, by have := h.m6; omega, hk.lt⟩, hk.few, hn⟩
section
variable {K : PySem.W.Frag} {mg : Str → Option Value} {cs : Cs} {vs : List V} {H : Hp} {Q : VK} {E : XK} {σ : L2.St}
/-- what follows the kinds -/
theorem law_rest (T : Txt K mg cs) {a d c : Addr} {tv rv sv kv : V} {t : Task} {sz room m : Nat} {kl : Vec} {ck : Option V} (hD : Dr d c H) (ht : rTask H tv t) (hr : rRule H rv t.1) (hs : rVec H sv t.2.1) (hk : rVec H kv kl) (hkd : Kd m kl) (wt : WfT m t) (hsz : Hv m (sz : Int) t.2.1) (z6 : sz ≤ 6) (m1 : 1 ≤ m) (m6 : m ≤ 6) (hroom : room ≤ 130) (k : ∀ H', Q (.bl true) H') :
    (tSeq (tAsg (tCall sp__law_some_kinds [] E0 (tCons (tVar 1) (tCons (tCB (rLenS K) (tCons (tVar 5) tNil)) tNil))) (gName 7))
  (tSeq (tAsg (tCall sp__law_top [] E0 (tCons (tVar 2) (tCons (tC (.int 6)) (tCons (tVar 3) tNil)))) (gName 8))
  (tSeq (tAsg (tCall sp__law_draw [] E0 (tCons (tVar 1) (tCons (tOp oAdd (tVar 8) (tC (.int 1))) tNil))) (gName 9))
  (tSeq (tAsg (tLst tNil) (gName 10))
  (tSeq (tFor (iRng1 (tCons (tOp oAdd (tVar 8) (tC (.int 1))) tNil)) (gName 11) (tSeq (tAsg (tCall sp__law_reach [] E0 (tCons (tVar 4) (tCons (tCall sp__law_times [] E0 (tCons (tVar 11) (tCons (tVar 5) tNil))) (tCons (tC (.int 3000)) tNil)))) (gName 12))
  (tSeq (tDrop (tBM K "list" rAppend (tVar 10) (tCons (tCB (L2.rMax K) (tCons (tLc (iList K (tVar 12)) (gName 15) tYes (tCall sp__law_inside [] E0 (tCons (tVar 15) (tCons (tVar 6) tNil))) [15]) tNil)) tNil)))
  (tSeq (tIfS (tNot (tB (tCall sp__law_most_right [] E0 (tCons (tVar 4) (tCons (tVar 5) (tCons (tVar 6) (tCons (tVar 11) (tCons (tOp (rIxL K) (tVar 10) (tVar 11)) tNil)))))))) (tRet (tC (.bl false))) tNext)
  (tIfS (tTest (tOp rEq (tVar 11) (tVar 9))) (tIfS (tOr (tNot (tB (tCall sp__law_all_right [] E0 (tCons (tVar 4) (tCons (tVar 5) (tCons (tVar 6) (tCons (tVar 11) (tCons (tVar 12) tNil)))))))) (tNot (tB (tCall sp__law_all_right [] E0 (tCons (tVar 4) (tCons (tVar 5) (tCons (tVar 7) (tCons (tVar 11) (tCons (tVar 12) tNil))))))))) (tRet (tC (.bl false))) tNext) tNext)))))
  (tSeq (tAsg (tCB rMin2 (tCons (tOp oMul (tC (.int 2)) (tVar 8)) (tCons (tCall sp__law_top [] E0 (tCons (tVar 2) (tCons (tC (.int 20)) (tCons (tOp oMul (tC (.int 2)) (tVar 3)) tNil)))) tNil))) (gName 13))
  (tSeq (tIfS (tAnd (tTest (tOp oGt (tVar 13) (tVar 8))) (tNot (tB (tCall sp__law_far_right [] E0 (tCons (tVar 4) (tCons (tVar 5) (tCons (tVar 6) (tCons (tVar 13) (tCons (tVar 10) tNil))))))))) (tRet (tC (.bl false))) tNext)
  (tRet (tCall sp__law_most_right [] E0 (tCons (tVar 4) (tCons (tVar 5) (tCons (tVar 6) (tCons (tVar 9) (tCons (tOp (rIxL K) (tVar 10) (tVar 9)) tNil)))))))))))))) { nx := fun _ H' => Q .non H', rt := Q } [some (.ref a), some (.ref d), some tv, some (.int room), some rv, some sv, some kv, none, none, none, none, none, none, none, ck, none] H := by
  have hlen : t.2.1.length = m := hsz.len
  -- other
  refine ⟨_, rfl, ?_⟩
  refine (ed_lenT (r := rI) (xs := t.2.1) (ed_var (i := 5) rfl hs)).run fun v H1 e1 hv => ?_
  have hv' : v = .int (m : Int) := by
    have : v = .int (t.2.1.length : Int) := hv
    rw [this, hlen]
  subst hv'
  refine ⟨d, c, m, rfl, m1, m6, hD.ex e1, fun ov H2 s2 d2 ⟨ol, ro, hlot⟩ => ?_⟩
  have hod := hlot.kd (by omega)
  have tp2 : Tp H H2 := (Ex.tp e1).trans ((hD.ex e1).tp s2)
  have ht2 := Mon.mon tp2 ht
  have hr2 := Mon.mon tp2 hr
  have hs2 := Mon.mon tp2 hs
  have hk2 := Mon.mon tp2 hk
  have topPre : 1 ≤ t.2.1.length ∧ t.2.1.length ≤ 1000 ∧ 0 ≤ t.2.1.sum ∧ t.2.1.sum ≤ 1000 := by
    rw [hlen, hsz.sum]; omega
  -- top
  refine r_asg (P := fun v _ => ∃ k : Nat, v = .int (k : Int) ∧ k ≤ 6 ∧ ∀ j : Nat, j < k → crowdN t.2.1 ((j + 1 : Nat) : Int) ≤ room) (ev_call3 (x := t) (y := 6) (z := (room : Int)) (ed_var rfl ht2) (ed_c rfl) (ed_var rfl rfl) ⟨topPre.1, topPre.2.1, by decide, topPre.2.2.1, topPre.2.2.2⟩ fun _ _ w _ _ ⟨k, q1, q2, q3, _⟩ => ⟨k, q1, q2, q3⟩) fun v H3 e3 ⟨top, hv, htop, hcr⟩ => ?_
  subst hv
  have LP : LawPre m t.1 t.2.1 sz room top := ⟨wt.rule, hsz, m1, m6, z6, hroom, htop, hcr⟩
  -- chosen
  show tCall sp__law_draw [] E0 (tCons (tVar 1) (tCons (tOp oAdd (tVar 8) (tC (.int 1))) tNil)) _ H3 _
  refine draw_run (n := (top : Int) + 1) rfl (EvP.imp (ed_add (ed_var (r := rI) (x := (top : Int)) rfl rfl) (ed_int (n := 1))) fun _ _ _ q => q) (by omega) (by omega) (d2.ex e3) fun chosen H4 hch s4 d4 => ?_
  have tp4 : Tp H2 H4 := (Ex.tp e3).trans ((d2.ex e3).tp s4)
  have ht4 := Mon.mon tp4 ht2
  have hr4 := Mon.mon tp4 hr2
  have hs4 := Mon.mon tp4 hs2
  have hk4 := Mon.mon tp4 hk2
  have ho4 := Mon.mon tp4 ro
  -- dues
  refine r_rows fun dl H5 nd e5 hdl => ?_
  have vT : ∀ (l' : L2.St) H', l'[2]? = some (some tv) → Ex H4 H' → Ed (tVar 2) l' H' rTask t := fun l' H' h e => ed_var h (mon e ht4)
  have vR : ∀ (l' : L2.St) H', l'[4]? = some (some rv) → Ex H4 H' → Ed (tVar 4) l' H' rRule t.1 := fun l' H' h e => ed_var h (mon e hr4)
  have vS : ∀ (l' : L2.St) H', l'[5]? = some (some sv) → Ex H4 H' → Ed (tVar 5) l' H' rVec t.2.1 := fun l' H' h e => ed_var h (mon e hs4)
  have vK : ∀ (l' : L2.St) H', l'[6]? = some (some kv) → Ex H4 H' → Ed (tVar 6) l' H' rVec kl := fun l' H' h e => ed_var h (mon e hk4)
  have vO : ∀ (l' : L2.St) H', l'[7]? = some (some ov) → Ex H4 H' → Ed (tVar 7) l' H' rVec ol := fun l' H' h e => ed_var h (mon e ho4)
  have ht1 : (((top + 1 : Nat)) : Int) = (top : Int) + 1 := by omega
  refine r_forN (n := top + 1) (Ed.to (ed_add (ed_var (r := rI) (x := (top : Int)) rfl rfl) (ed_int (n := 1))) ht1.symm) (by omega) (fun i σ' H' => Ex H4 H' ∧ ∃ (dus : List Int) (b e : Option V), σ' = [some (.ref a), some (.ref d), some tv, some (.int room), some rv, some sv, some kv, some ov, some (.int top), some (.int chosen), some (.ref dl), b, e, none, ck, none] ∧
      H' dl = some (.lst (dus.map V.int)) ∧ dus.length = i ∧ ∀ j, j < i → ∃ L, reach t.1 (timesV (j : Int) t.2.1) 3000 = some L ∧ dus[j]? = some (best L kl)) ?_ ?_ ?_
  · intro H6 e6
    exact ⟨e5.trans e6, [], _, _, rfl, e6 _ _ hdl, rfl, fun j hj => by omega⟩
  · rintro i σ' H6 hi ⟨e6, dus, b, e, rfl, hdl6, hdn, hdu⟩
    obtain ⟨L', hL⟩ := LP.near (n := i) (by omega)
    have pre := LP.mo hkd (n := i) (by omega)
    have preO := LP.mo hod (n := i) (by omega)
    obtain ⟨hlenL, m', N, rc, hm', hk'⟩ := pre.rch hL
    have hmm : m' = m := by
      have h1 := rc.hs.len
      rw [timesV_len, hlen] at h1
      exact h1.symm
    subst hmm
    -- listed
    refine r_asg (P := fun w H' => rL rVec H' w L') (ev_call3 (x := t.1) (y := timesV (i : Int) t.2.1) (z := 3000) (vR _ _ rfl e6) (ev_call2 (x := (i : Int)) (y := t.2.1) (ed_var rfl rfl) (vS _ _ rfl e6) ⟨by omega, by omega, by omega⟩ hq_d) (ed_c rfl) ⟨by rw [timesV_len, hlen]; exact wfr_len LP.wf, by rw [timesV_len]; omega, by have := LP.wf.few; omega, by decide, by decide⟩ fun _ H2' w _ _ hp => ?_) fun lw H7 e7 rlw => ?_
    · have hp' : (rO (rL rVec)) H2' w (reach t.1 (timesV (i : Int) t.2.1) 3000) := hp
      rw [hL] at hp'
      exact hp'
    have e47 := e6.trans e7
    -- dues.append(max(..))
    refine r_app (e7 _ _ hdl6) (ev_v (i := 10) rfl) (P := fun w _ => w = .int (best L' kl)) (EvP.imp (ed_max (El.ed (el_mapL (r := rI) (s := rVec) (fun x => insideV x kl) (ed_var (i := 12) rfl rlw) (by omega) (fun _ => rfl) fun i x v H1 e1 hx rx => ev_call2 (x := x) (y := kl) (ed_var rfl rx) (vK _ _ rfl (e47.trans e1)) ⟨fun k hk => by rw [(rc.hv (List.mem_of_getElem? hx)).len]; exact hkd.lt k hk, hkd.few⟩ hq_d)) (by rw [List.length_map]; exact rc.pos)) fun _ _ _ q => q) (by rw [List.length_map]; omega) fun v' H8 e8 ev => ?_
    subst ev
    have hdl8 : (upd H8 dl (.lst (dus.map V.int ++ [.int (best L' kl)]))) dl = some (.lst ((dus ++ [best L' kl]).map V.int)) := by rw [upd_same, List.map_append]; rfl
    have e48 : Ex H4 (upd H8 dl (.lst (dus.map V.int ++ [.int (best L' kl)]))) := Ex.mut (e47.trans e8) nd
    have rl8 : rL rVec (upd H8 dl (.lst (dus.map V.int ++ [.int (best L' kl)]))) lw L' := by
      obtain ⟨la, us, q1, q2, q3⟩ := mon e8 rlw
      have hne : la ≠ dl := fun z => by
        rw [z, (e7.trans e8) _ _ hdl6] at q2
        cases q2
        obtain ⟨v0, h0, a0, _, h1, _⟩ := p_get q3 rc.fd.hd
        rw [List.getElem?_map] at h0
        cases hq : dus[0]? with
        | none => rw [hq] at h0; cases h0
        | some y => rw [hq, h1] at h0; cases h0
      exact ⟨la, us, q1, by rw [upd_ne hne]; exact q2, monT (Tp.updL ((e7.trans e8) _ _ hdl6)) q3⟩
    generalize upd H8 dl (.lst (dus.map V.int ++ [.int (best L' kl)])) = H9 at hdl8 e48 rl8 ⊢
    have hlast : (dus ++ [best L' kl])[i]? = some (best L' kl) := by
      rw [List.getElem?_append_right (by omega), hdn, Nat.sub_self]
      rfl
    have hdu' : ∀ j, j < i + 1 → ∃ L, reach t.1 (timesV (j : Int) t.2.1) 3000 = some L ∧ (dus ++ [best L' kl])[j]? = some (best L kl) := fun j hj => by
      by_cases hji : j = i
      · subst hji; exact ⟨L', hL, hlast⟩
      · obtain ⟨L2, h1, h2⟩ := hdu j (by omega)
        exact ⟨L2, h1, by rw [List.getElem?_append_left (by omega)]; exact h2⟩
    have vD : ∀ (l' : L2.St) H', l'[10]? = some (some (.ref dl)) → Ex H9 H' → Ed (tVar 10) l' H' (rL rI) (dus ++ [best L' kl]) := fun l' H' h e => ed_var h ⟨dl, _, rfl, e _ _ hdl8, int_rs _⟩
    have vL : ∀ (l' : L2.St) H', l'[12]? = some (some lw) → Ex H9 H' → Ed (tVar 12) l' H' (rL rVec) L' := fun l' H' h e => ed_var h (mon e rl8)
    have vI : ∀ (l' : L2.St) H', l'[11]? = some (some (.int (i : Int))) → Ed (tVar 11) l' H' rN i := fun l' H' h => ed_var h rfl
    refine r_if (b := false) (EvT.to (et_not (a := true) (et_B' (ev_call5 (x := t.1) (y := t.2.1) (z := kl) (a := i) (b := best L' kl) (vR _ _ rfl e48) (vS _ _ rfl e48) (vK _ _ rfl e48) (vI _ _ rfl) (ed_ixL (r := rI) (k := i) (vD _ _ rfl (Ex.refl _)) (ed_var (r := rI) (x := (i : Int)) rfl rfl) hlast) ⟨pre, L', hL, rfl⟩ hq_d))) rfl) (fun z => nomatch z) fun _ H10 e10 => ?_
    have e410 := e48.trans e10
    have fin : ∀ H', Ex H10 H' → Ex H4 H' ∧ ∃ (dus : List Int) (b e : Option V), [some (.ref a), some (.ref d), some tv, some (.int room), some rv, some sv, some kv, some ov, some (.int top), some (.int chosen), some (.ref dl), some (.int (i : Int)), some lw, none, ck, none] = [some (.ref a), some (.ref d), some tv, some (.int room), some rv, some sv, some kv, some ov, some (.int top), some (.int chosen), some (.ref dl), b, e, none, ck, none] ∧
      H' dl = some (.lst (dus.map V.int)) ∧ dus.length = i + 1 ∧ ∀ j, j < i + 1 → ∃ L, reach t.1 (timesV (j : Int) t.2.1) 3000 = some L ∧ dus[j]? = some (best L kl) := fun H' e' =>
      ⟨e410.trans e', dus ++ [best L' kl], _, _, rfl, (e10.trans e') _ _ hdl8, by rw [List.length_append, hdn]; rfl, hdu'⟩
    refine r_ifN (et_test' (ed_eqI (ed_var (r := rI) (x := (i : Int)) rfl rfl) (ed_var (r := rI) (x := (chosen : Int)) rfl rfl))) (fun _ H11 e11 => ?_) (fun _ H11 e11 => fin H11 e11)
    have e411 := e410.trans e11
    refine r_ifN (b := false) (EvT.to (et_or (a := false) (et_not (a := true) (et_B' (ev_call5 (x := t.1) (y := t.2.1) (z := kl) (a := i) (b := L') (vR _ _ rfl e411) (vS _ _ rfl e411) (vK _ _ rfl e411) (vI _ _ rfl) (vL _ _ rfl (e10.trans e11)) ⟨pre, hL⟩ hq_d))) fun _ => et_not (a := true) (et_B' (ev_call5 (x := t.1) (y := t.2.1) (z := ol) (a := i) (b := L') (vR _ _ rfl e411) (vS _ _ rfl e411) (vO _ _ rfl e411) (vI _ _ rfl) (vL _ _ rfl (e10.trans e11)) ⟨preO, hL⟩ hq_d))) rfl) (fun z => nomatch z) fun _ H12 e12 => fin H12 (e11.trans e12)
  · rintro σ' H6 ⟨e6, dus, b, e, rfl, hdl6, hdn, hdu⟩
    have vD : ∀ (l' : L2.St) H', l'[10]? = some (some (.ref dl)) → Ex H6 H' → Ed (tVar 10) l' H' (rL rI) dus := fun l' H' h e => ed_var h ⟨dl, _, rfl, e _ _ hdl6, int_rs _⟩
    -- far
    have hmn : EvP (tCall sp__law_top [] E0 (tCons (tVar 2) (tCons (tC (.int 20)) (tCons (tOp oMul (tC (.int 2)) (tVar 3)) tNil)))) [some (.ref a), some (.ref d), some tv, some (.int room), some rv, some sv, some kv, some ov, some (.int top), some (.int chosen), some (.ref dl), b, e, none, ck, none] H6 (fun v _ => ∃ k : Nat, v = .int (k : Int) ∧ k ≤ 20 ∧ ∀ j : Nat, j < k → crowdN t.2.1 ((j + 1 : Nat) : Int) ≤ 2 * room) :=
      ev_call3 (x := t) (y := 20) (z := 2 * (room : Int)) (vT _ _ rfl e6) (ed_c rfl) (ed_mul (ed_int (n := 2)) (ed_var (r := rI) (x := (room : Int)) rfl rfl) (.inl ⟨by decide, by decide⟩)) ⟨topPre.1, topPre.2.1, by decide, topPre.2.2.1, topPre.2.2.2⟩ fun _ _ w _ _ ⟨k, q1, q2, q3, _⟩ => ⟨k, q1, q2, q3⟩
    refine r_asg (P := fun v _ => ∃ far : Nat, v = .int (far : Int) ∧ far ≤ 2 * top ∧ ∀ j : Nat, j < far → crowdN t.2.1 ((j + 1 : Nat) : Int) ≤ 2 * room) (fun H0 e0 Q' q' => (ed_mul (i := 2) (j := (top : Int)) (ed_int (n := 2)) (ed_var (r := rI) (x := (top : Int)) rfl rfl) (.inl ⟨by decide, by decide⟩) : Ed (tOp oMul (tC (.int 2)) (tVar 8)) _ H6 rI _) H0 e0 _ fun v H1 e1 hv => hmn H1 (e0.trans e1) _ fun w H2 e2 ⟨kk, hw, hk20, hkc⟩ => ?_) fun v H7 e7 ⟨far, hv, hf1, hf2⟩ => ?_
    · cases hv
      subst hw
      refine ⟨_, _, rfl, q' _ H2 (e1.trans e2) ?_⟩
      by_cases hlt : (kk : Int) < 2 * (top : Int)
      · exact ⟨kk, by rw [if_pos hlt], by omega, hkc⟩
      · exact ⟨2 * top, by rw [if_neg hlt]; congr 1, Nat.le_refl _, fun j hj => hkc j (by omega)⟩
    subst hv
    have e67 := e6.trans e7
    obtain ⟨Lc, hLc, hdc⟩ := hdu chosen (by omega)
    -- far right
    have hfar : top < far → ∃ L, reach t.1 (timesV (far : Int) t.2.1) 3000 = some L := fun hgt => by
      refine LP.some_ ?_
      cases far with
      | zero => omega
      | succ j =>
        have h1 := hf2 j (by omega)
        rw [LP.crow] at h1
        omega
    refine r_if (b := false) (EvT.to (et_and (b := false) (et_test' (ed_gt (ed_var (r := rI) (x := (far : Int)) rfl rfl) (ed_var (r := rI) (x := (top : Int)) rfl rfl))) fun hgt => ?_) (by simp)) (fun z => nomatch z) fun _ H8 e8 => ?_
    · have hgt' : top < far := by
        have := of_decide_eq_true hgt
        omega
      exact EvT.to (et_not (a := true) (et_B' (ev_call5 (x := t.1) (y := t.2.1) (z := kl) (a := far) (b := dus) (vR _ _ rfl e67) (vS _ _ rfl e67) (vK _ _ rfl e67) (ed_var rfl rfl) (vD _ _ rfl e7) ⟨LP.mo hkd (by omega), hfar hgt', top, hdn, hgt', hf1, by omega, fun i hi => hdu i (by omega)⟩ hq_d))) rfl
    · have e68 := e67.trans e8
      refine r_ret (ev_call5 (P := fun w H' => rB H' w true) (x := t.1) (y := t.2.1) (z := kl) (a := chosen) (b := best Lc kl) (vR _ _ rfl e68) (vS _ _ rfl e68) (vK _ _ rfl e68) (ed_var rfl rfl) (ed_ixL (r := rI) (k := chosen) (vD _ _ rfl (e7.trans e8)) (ed_var (r := rI) (x := (chosen : Int)) rfl rfl) hdc) ⟨LP.mo hkd (by omega), Lc, hLc, rfl⟩ hq_d) fun w H9 e9 p => ?_
      cases p
      exact k H9
theorem pure_law (T : Txt K mg cs) (h : sp_law K vs H Q E) : t_law K cs { nx := fun _ H' => Q .non H', rt := Q } (start N_law vs) H := by
  obtain ⟨a, ns, rfl, hS, hn, k⟩ := h
  refine ⟨_, rfl, a, ns, rfl, hS, hn, fun d c H1 e1 nd nc hD => ?_⟩
  refine ⟨_, rfl, d, c, 32, rfl, by decide, by decide, hD, fun v H2 s2 d2 ⟨b, hb⟩ => ⟨b, hb, ?_⟩⟩
  refine ite2 (fun _ => ?_) (fun _ => ?_)
  · exact ⟨_, rfl, d, c, rfl, d2, fun H' => k H'⟩
  · refine ⟨_, rfl, d, c, rfl, d2, fun v H3 s3 d3 ⟨p, v1, t, room, m, hv, hp, m1, m6, hroom, ht, wt⟩ => ?_⟩
    subst hv
    refine ⟨p, [v1, .int room], rfl, SqT.of hp, rfl, v1, _, rfl, .int room, [], rfl, rfl, ?_⟩
    obtain ⟨szI, z1, z6, hsz⟩ := wt.start
    obtain ⟨sz, rfl⟩ : ∃ sz : Nat, szI = (sz : Int) := ⟨szI.toNat, by omega⟩
    obtain ⟨gz, _, _, hgz⟩ := wt.goal
    have hlen : t.2.1.length = m := hsz.len
    refine (ed_t1 (K := K) (r := rRule) (s := rVec) (c := rVec) (ed_var (i := 2) rfl ht)).run fun rv H4 e4 hrv => (ed_t2 (K := K) (r := rRule) (s := rVec) (c := rVec) (ed_var (i := 2) rfl (mon e4 ht))).run fun sv H5 e5 hsv => ⟨rv, sv, rfl, ?_⟩
    have e35 := e4.trans e5
    have ht5 := mon e35 ht
    have hrv5 := mon e5 hrv
    have d5 := d3.ex e35
    -- kinds
    refine ⟨_, rfl, ?_⟩
    refine (ed_lenT (r := rI) (xs := t.2.1) (ed_var (i := 5) rfl hsv)).run fun v H6 e6 hv => ?_
    have hv' : v = .int (m : Int) := by
      have : v = .int (t.2.1.length : Int) := hv
      rw [this, hlen]
    subst hv'
    refine ⟨d, c, m, rfl, m1, m6, d5.ex e6, fun kv H7 s7 d7 ⟨kl, rk, hlot⟩ => ?_⟩
    have tp7 : Tp H5 H7 := (Ex.tp e6).trans ((d5.ex e6).tp s7)
    refine draw_run (n := 2) rfl ec (by decide) (by decide) d7 fun r H8 hr s8 d8 => ?_
    have tp8 : Tp H5 H8 := tp7.trans (d7.tp s8)
    refine ⟨rfl, _, rfl, ?_⟩
    refine ite2 (fun _ => ?_) (fun _ => ?_)
    · have hsv8 := Mon.mon tp8 hsv
      have ht8 := Mon.mon tp8 ht5
      refine (ed_tupL (r := rI) (El.ed (el_lcR (r := rI) (σ := [some (.ref a), some (.ref d), some v1, some (.int room), some rv, some sv, some kv, none, none, none, none, none, none, none, none, none]) (n := m) (j := 14) (vs := [14]) (t := tTest (tOp oGt (tOp (rIxT K) (tOp (rIxT K) (tVar 2) (tC (.int 2))) (tVar 14)) (tC (.int 0)))) (te := tVar 14) (fun i => decide (0 < at0 t.2.2 i)) (fun i => (i : Int)) (tl := tCB (rLenS K) (tCons (tVar 5) tNil)) ?_ (by omega) (fun _ => rfl) (fun i H9 e9 hi => ?_) (fun i H9 e9 hi _ => ed_var rfl rfl)))).run fun kv2 H9 e9 rk2 => ?_
      · have := ed_lenT (K := K) (r := rI) (xs := t.2.1) (σ := [some (.ref a), some (.ref d), some v1, some (.int room), some rv, some sv, some kv, none, none, none, none, none, none, none, none, none]) (ed_var (i := 5) rfl hsv8)
        rw [hlen] at this
        exact this
      · exact et_test' (ed_gt (ed_ixT (r := rI) (k := i) (ed_t3 (r := rRule) (s := rVec) (c := rVec) (ed_var (i := 2) rfl (mon e9 ht8))) (ed_var (r := rI) (x := (i : Int)) rfl rfl) (at0_get (by rw [hgz.len]; exact hi))) (ed_int (n := 0)))
      · refine law_rest T (m := m) (sz := sz) (t := t) (d8.ex e9) (mon e9 ht8) (mon e9 (Mon.mon tp8 hrv5)) (mon e9 hsv8) rk2 ⟨fun k hk => ?_, ?_⟩ wt hsz (by omega) m1 m6 hroom k
        · obtain ⟨i, hi, rfl⟩ := List.mem_map.mp hk
          have := List.mem_range.mp (List.mem_filter.mp hi).1
          omega
        · rw [List.length_map]
          have := List.length_filter_le (fun i => decide (0 < at0 t.2.2 i)) (List.range m)
          rw [List.length_range] at this
          omega
    · exact law_rest T (m := m) (sz := sz) (t := t) d8 (Mon.mon tp8 ht5) (Mon.mon tp8 hrv5) (Mon.mon tp8 hsv) (Mon.mon (d7.tp s8) rk) (hlot.kd (by omega)) wt hsz (by omega) m1 m6 hroom k
end
end M
/-! ## Ex1 -/
/-! The exception that a suite holds, handed to a def: isinstance, its field. -/
namespace M
open PySem PySem.Spec L2 Evl PyProof.Rows
/-- what the class C must say -/
structure ExT (K : PySem.W.Frag) (C : Addr) : Prop where
  hcl : (PySem.W.clsIn K C).isSome = true
  hga : PySem.W.findIn K (.ref C) "__getattribute__" = some (some (.builtin "BaseException.__getattribute__"))
  hgt : PySem.W.findIn K (.ref C) "__getattr__" = some none
  hsub : PySem.W.subIn K (.ref C) (.type "BaseException") = some true
  hd : PySem.W.hasDictIn K C = true
  ha : PySem.W.findIn K (.ref C) "__class__" = some (some (.builtin "object.__class__"))
  hn : PySem.W.specialIn K (.builtin "object.__class__") "__get__" = some (some (.builtin "getset_descriptor.__get__"))
  ht : PySem.W.takesIn K (.builtin "object.__class__") = some true
  hm : PySem.W.mroIn K C (.type "object") = some true
section
variable {X : Cx} {pins : List (Addr × Obj)} {σ : L2.St} {H : Hp} {s : Shared} {a C d : Addr} {oe : Obj} {fs : List (Str × V)}
theorem inst_x (I : Inv X pins σ H s) (hp : (a, oe) ∈ X.pn) (hz : Zc (.ref C) (some d) oe) (hf : ∃ vs, oe.data = .fields vs) (hd : H d = some (.xd fs)) : ∃ (od : Obj) (mA : Str → Option Value), PySem.W.InstAt s.heap a oe C (some od) ∧ (∀ n, PySem.W.lookIn n od = some (mA n)) ∧ ∀ n, RelO (List.lookup n fs) (mA n) := by
  obtain ⟨ha, _⟩ := I.pin (a, oe) (List.mem_append_left _ hp)
  obtain ⟨vs, hdt⟩ := hf
  have hx : ObjOk X.prog X.w H s.heap d (.xd fs) := I.hok d _ hd
  obtain ⟨mA, hns, hr⟩ := hx
  obtain ⟨od, ho, hl⟩ := lookIn_ns hns
  exact ⟨od, mA, ⟨ha, hz.1, by unfold PySem.W.notCls; rw [hdt] <;> rfl, by rw [hz.2]; exact ho⟩, hl, hr⟩
def rIsX (K : PySem.W.Frag) (C a d : Addr) : List V → Hp → VK → Prop := fun xs H Q => ∃ (c : V) (cv : Value) (b : Bool) (fs : List (Str × V)), xs = [.ref a, c] ∧ H d = some (.xd fs) ∧ ClsV c cv ∧ PySem.W.kitOne K (.ref C) cv = some b ∧ Q (.bl b) H
def rIsXT (K : PySem.W.Frag) (C a d : Addr) : List V → Hp → VK → Prop := fun xs H Q => ∃ (tp : Addr) (cs : List V) (us : List Value) (b : Bool) (fs : List (Str × V)), xs = [.ref a, .ref tp] ∧ H d = some (.xd fs) ∧ H tp = some (.tup cs) ∧ Paired ClsV cs us ∧ PySem.W.kitAny K (.ref C) us = some b ∧ Q (.bl b) H
theorem call_isX (T : ExT X.K C) (hp : (a, oe) ∈ X.pn) (hz : Zc (.ref C) (some d) oe) (hf : ∃ vs, oe.data = .fields vs) : CallR X (.builtin "isinstance") (rIsX X.K C a d) := by
  intro pins s σ H xs us Q I r h
  obtain ⟨c, cv, b, fs, rfl, hd, k, e, q⟩ := h
  obtain ⟨u1, u2, rfl, r1, r2⟩ := vals2 r
  have e2 := k.eq r2
  subst e2
  cases (show u1 = Value.ref a from r1)
  obtain ⟨od, mA, J, _⟩ := inst_x I hp hz hf hd
  exact PySem.W.kia_one (PySem.W.kitx_exc T.hcl T.hga T.hgt T.hsub T.ha T.hn T.ht T.hm) I.kIn J e (fun z => nomatch z) fun tk => ⟨.bl b, H, I.tok tk, rfl, q⟩
theorem call_isXT (T : ExT X.K C) (hp : (a, oe) ∈ X.pn) (hz : Zc (.ref C) (some d) oe) (hf : ∃ vs, oe.data = .fields vs) : CallR X (.builtin "isinstance") (rIsXT X.K C a d) := by
  intro pins s σ H xs us Q I r h
  obtain ⟨tp, cs, ws, b, fs, rfl, hd, hT, k, e, q⟩ := h
  obtain ⟨u1, u2, rfl, r1, r2⟩ := vals2 r
  cases (show u2 = Value.ref tp from r2)
  cases (show u1 = Value.ref a from r1)
  obtain ⟨od, mA, J, _⟩ := inst_x I hp hz hf hd
  obtain ⟨_, its, rv, o, h1, h2, n, h3⟩ := (show ObjOk X.prog X.w H s.heap tp (.tup cs) from I.hok tp _ hT)
  have e3 := ClsV.all k rv
  subst e3
  obtain ⟨oc, odd, dt, sl⟩ := o
  simp only at h2 h3
  subst h2 h3
  exact PySem.W.kia_tup (PySem.W.kitx_exc T.hcl T.hga T.hgt T.hsub T.ha T.hn T.ht T.hm) I.kIn J h1 e (fun z => nomatch z) fun tk => ⟨.bl b, H, I.tok tk, rfl, q⟩
/-- err.n -/
def tXfX (a d : Addr) (n : Str) (te : TE) : TE := fun σ H Q => te σ H fun x H1 => x = .ref a ∧ ∃ (fs : List (Str × V)) (v : V), H1 d = some (.xd fs) ∧ List.lookup n fs = some v ∧ Q v H1
theorem pe_xfX {e : Expr} {te : TE} {pos : Pos} {n : Str} (T : ExT X.K C) (hno : PySem.W.findIn X.K (.ref C) n = some none) (hp : (a, oe) ∈ X.pn) (hz : Zc (.ref C) (some d) oe) (hf : ∃ vs, oe.data = .fields vs) (he : PE X e te)
    (hb : attributeBase e n X.env (eval e X.env) = eval e X.env := by rfl) : PE X (.Attribute e n pos) (tXfX a d n te) := by
  refine ⟨fun pins s σ H Q I h => ?_⟩
  refine attr_of hb (thn (he.run pins s σ H _ I h) fun u s1 hh => ?_)
  obtain ⟨x, H1, I1, rx, ex, fs, v, ea, l, q⟩ := hh
  subst ex
  obtain rfl : u = Value.ref a := rx
  obtain ⟨od, mA, J, hl, hr⟩ := inst_x I1 hp hz hf ea
  obtain ⟨u, hu, ru⟩ := RelO.some_of (v := v) (o := mA n) (by rw [← l]; exact hr n)
  exact HandSPX.exc_get I1.kIn J T.hga T.hgt T.hsub (PySem.W.findObj_own T.hd hno rfl (by rw [hl, hu])) (handed_of ru) ⟨v, H1, I1.tok _, ru, q⟩
end
/-! ### a def that is called with the exception in hand -/
theorem run_pin {CX : CXT} {P : Program} {w : World} {K : PySem.W.Frag} {mg : Str → Option Value} {base : Heap} {k : Nat} {f : Addr} {name qual : Str} {params : Arguments} {body : List Stmt} {scope : Scope} {dV kV doc pm cdv ct oc : Value} {an od : Option Addr}
    {osl : Array (Option Value)} {N ps : List Str} (lk : K.lookup f = some ⟨oc, od, .func (PySem.W.fnOf name qual params body scope dV kV doc pm an cdv ct), osl⟩) (hcd : PySem.W.codeIn K cdv qual = true) (S : FnScope N ps scope)
    {A : Around} {outer : List Env} {s : Shared} {H : Hp} {args : Args} {us : List Value} {vs : List V} {Q : VK} {E : XK} {p : Addr × Obj} {t : TS} (hr : L2H.RoomH (k + 1) A) (hpin : L2H.PinOk outer H s p) (e0 : Env0 P w K mg base A outer s H)
    (hb : BindsTo s (PySem.W.fnOf name qual params body scope dV kV doc pm an cdv ct) args (ps.zip us)) (r : Vals vs us) (hl : vs.length = ps.length)
    (ht : PSs (L2H.cxH CX P w K mg base N qual scope f cdv A outer s H E p) body t) (hq : t { nx := fun _ H' => Q .non H', rt := Q } (L2.start N vs) H) :
    codeAny (model P w) A (.call (.ref f) args) (CR CX outer P w H s Q E) s := by
  have KX : K.In s.heap := e0.mod.kin.keeps fun b o e => (e0.bs b o e).1
  have lim : s.heap.NoLimit := e0.mod.nolimit.keeps fun b o e => (e0.bs b o e).1
  have hkind : ∀ y ∈ ps.zip us, scope.names.lookup y.1 = some .local ∨ (scope.names.lookup y.1 = some .cell ∧ ((cellsFrom (s.heap.objs.size + 1) scope.names []).lookup y.1).isSome = true) := fun ⟨n, v⟩ hy => by
    rcases S.par n (List.of_mem_zip hy).1 with q | q
    · exact .inl q
    · exact .inr ⟨q, PySem.W.cellsFrom_some _ _ _ (.inl q)⟩
  refine codeAny_call_function hr.depth (KX _ _ lk) rfl S.co S.gen rfl (PySem.W.codeRec_of KX hcd) (hb _ _ _ _ ?_)
  refine wpAny_newFunctionEnv_cells S.kind hkind fun env he s1 x => ?_
  subst he
  refine ⟨lim.keeps x.toInCall.keep, codeAny_func ?_⟩
  have I : Inv (L2H.cxH CX P w K mg base N qual scope f cdv A outer s H E p) [] (L2.start N vs) H s1 := L2H.inv_startH S hpin e0 hl r x
  refine wpAny_mono (ht.run [] s1 (L2.start N vs) H _ I hq) (fun fl s' hs => ?_) fun e s' hs => hs
  have fin : ∀ {σ' : L2.St} {H' : Hp} {v : V} {u : Value}, Inv (L2H.cxH CX P w K mg base N qual scope f cdv A outer s H E p) [] σ' H' s' → RelV v u → Q v H' → CE outer P w H s Q u s' :=
    fun {σ' H' v u} J rv q => ⟨v, H', J.os, J.bare, J.base, J.hok, rv, q⟩
  cases fl with
  | ret u =>
    obtain ⟨v, σ', H', J, rv, q⟩ := hs
    exact fin J rv q
  | next =>
    obtain ⟨σ', H', J, q⟩ := hs
    exact fin (v := V.non) (u := Value.none) J rfl q
  | brk =>
    obtain ⟨_, _, _, q⟩ := hs
    exact False.elim q
  | cont =>
    obtain ⟨_, _, _, q⟩ := hs
    exact False.elim q
theorem pe_callPin {X : Cx} {x : Str} {st : Stmt} {N : List Str} {n1 : Str} {a : Addr} {oe : Obj} {pn : List (Addr × Obj)} {e : Expr} {te : TE} {t : TS} {p pos : Pos} {k : Nat} {P : Prop} {post : V → Hp → VK → Prop} (himp : ∀ v H1 Q, post v H1 Q → v = .ref a ∧ P ∧ t { nx := fun _ H' => Q .non H', rt := Q } (L2.start N [v]) H1) (D : DefAt X.K X.mg x st [n1]) (S : FnScope N [n1] (defScope st)) (hr : Room (k + 1) X.A) (hg : Gl X x)
    (der : P → ∀ f cdv A outer s H, L2H.RoomH (k + 1) A → PSs (L2H.cxH CX0 X.prog X.w X.K X.mg X.base N x (defScope st) f cdv A outer s H E0 (a, oe)) (defBody st) t) (he : PE (X.suite a ((a, oe) :: pn)) e te)
    (hdb : (x == ("__debug__" : Str)) = false := by decide) (hs : starEach (e :: []) X.env = (false, eval e X.env) :: starEach [] X.env := by rfl) (hpl : (backTo pos (starEach [] X.env)).any (·.1) = false := by rfl) :
    PE (X.suite a ((a, oe) :: pn)) (.Call (.Name x p) [e] [] pos) (fun σ H Q => te σ H fun v H1 => post v H1 Q) := by
  obtain ⟨f, fd, F, hm, hb⟩ := D.ex
  have hk := F.kp
  obtain ⟨oc, od, dV, kV, doc, pm, an, cdv, ct, osl, rfl, lk, hcd, _, _⟩ := F.ex
  refine ⟨fun pins s σ H Q I h => ?_⟩
  refine wpAny_Call_Name_kw (ld_glob (X := X.suite a ((a, oe) :: pn)) I hg hm ?_ hdb)
  refine PySem.W.callWith_K (h₀ := X.base) I.ok.mod.kin hk (thn ((pa_cons he pa_nil hs).run pos pins s σ H (fun vs H1 => ∃ v, vs = [v] ∧ post v H1 Q) I ?_) fun us s1 ⟨vs, H1, I1, r, q⟩ => ⟨I1.kIn, ?_⟩) hs hpl
  · have : (te σ H fun v H1 => ∃ w, [v] = [w] ∧ post w H1 Q) := by
      have e1 : (fun (v : V) (H1 : Hp) => post v H1 Q) = fun v H1 => ∃ w, [v] = [w] ∧ post w H1 Q := by
        funext v H1
        exact propext ⟨fun q => ⟨v, rfl, q⟩, fun ⟨w, e, q⟩ => by cases e; exact q⟩
      rw [← e1]
      exact h
    exact this
  · obtain ⟨v, rfl, hpost⟩ := q
    obtain ⟨rfl, hP, hq⟩ := himp v H1 Q hpost
    have hl : us.length = 1 := by rw [← r.length]; rfl
    have b := hb s1 us I1.kIn (by rw [List.append_nil]; exact hl)
    rw [List.append_nil] at b
    have P1 := I1.pin (a, oe) (List.mem_append_left _ List.mem_cons_self)
    have hpin : L2H.PinOk (X.suite a ((a, oe) :: pn)).stack H1 s1 (a, oe) := ⟨P1.1, P1.2.1, fun hm => (List.mem_cons.mp (I1.stkSub a hm)).elim P1.2.2.1 P1.2.2.2.1, P1.2.2.2.2⟩
    have hrA : L2H.RoomH (k + 1) (X.suite a ((a, oe) :: pn)).A := ⟨hr.dp, hr.un⟩
    refine wpAny_call (codeAny_mono (run_pin (CX := CX0) (E := E0) (k := k) lk hcd S hrA hpin I1.env0 b r rfl (der hP f cdv _ _ _ _ hrA) hq) fun r s' hq => ?_)
    cases r with
    | error e => exact hq.elim
    | ok fl =>
      cases fl with
      | ret u => exact I1.after hq
      | next => exact False.elim hq
      | brk => exact False.elim hq
      | cont => exact False.elim hq
end M
/-! ## Ex2 -/
/-! TooMany('standings'): an own exception whose __init__ says super().__init__('too many') and stores a field. -/
namespace M
open PySem PySem.W PySem.Calls PyProof.Rows PySem.HandSPX
/-! ### the text of __init__ -/
/-- what the written part says of TooMany, at C, its __init__ at fI, the cell of __class__ at cc, its code at cda -/
structure TmTxt0 (prog : Program) (K : Frag) (mg : Str → Option Value) (C fI cc cda : Addr) : Prop where
  gC : mg "TooMany" = some (.ref C)
  cls : ∃ nm q N bs bm sn sub ab col dd k0 k1 k2 k3 k5, K.lookup C = some (excClassObj nm q C N bs bm true sn sub ab col dd k0 k1 k2 k3 k5 "ValueError.__new__") ∧ refsVE bm = true
  sa : findIn K (.ref C) "__setattr__" = some (some (.builtin "object.__setattr__"))
  noN : findIn K (.ref C) "part" = some none
  iC : findIn K (.ref C) "__init__" = some (some (.ref fI))
  tC : typeIn K (.ref fI) = some (.type "function")
  kC : keepIn K (.ref C) = true
  exC : subIn K (.ref C) (.type "BaseException") = some true
  tyC : typeIn K (.ref C) = some (.type "type")
  fn : ∃ (oc : Value) (od : Option Addr) (doc pm : Value) (an : Option Addr) (ct : Value) (osl : Array (Option Value)),
    K.lookup fI = some ⟨oc, od, .func (ksFn "__init__" "TooMany.__init__" iA iB iS .none .none doc pm an (.ref cda) ct cc), osl⟩ ∧ codeIn K (.ref cda) "TooMany.__init__" = true
  code : ∃ ccl cdd vs ccs file tf, K.lookup cda = some ⟨ccl, cdd, .fields vs, ccs⟩ ∧ vs[2]? = some (.str file tf) ∧ ((prog.main.file : Str) == file) = true
  cell : ∃ cl cld csl, K.lookup cc = some ⟨cl, cld, .cell (some (.ref C)), csl⟩
  sup : mg "super" = none
  tp : nsIn K cStatics "thirdparty.any" = some none
  si : ks_superIn K C C "__init__" = some (some (.builtin "ValueError.__init__"))
  ve : subIn K (.ref C) (.type "ValueError") = some true
  se : mroIn K C (.ref C) = some true
  topn : (prog.main.scope.names.lookup ("super" : Str)).isSome = false
/-- what __init__ leaves of a fresh exception at x -/
structure InitEnd (h h' : Heap) (x C dx t1 : Addr) (v : Value) : Prop where
  keep : ∀ b o, b ≠ x → h.get? b = some o → h'.get? b = some o
  obj : h'.get? x = some { cls := .ref C, dict := some dx, data := .fields #[.ref t1, .none, .none, .none, .bool false, .none] }
  dbig : h.objs.size ≤ dx
  dne : dx ≠ x
  ns : h'.Ns1 dx (fun y => if y = "part" then some v else none)
/-- a made one -/
structure OwnMade (h h' : Heap) (e C d : Addr) (v : Value) : Prop where
  keep : ∀ b o, h.get? b = some o → h'.get? b = some o
  new : h.objs.size ≤ e
  obj : ∃ oe vs, h'.get? e = some oe ∧ oe.cls = .ref C ∧ oe.dict = some d ∧ oe.data = .fields vs ∧ vs[1]? = some .none
  dbig : h.objs.size ≤ d
  dne : d ≠ e
  ns : h'.Ns1 d (fun y => if y = "part" then some v else none)
section
variable {prog : Program} {w : World} {A : Around} {E : Value → Shared → Prop} {h : Heap} {g : Array GenState} {d : Drawn} {t : Nat} {os : OsState}
variable {nm q : Str} {C N : Addr} {bs bm : List Value} {hdct : Bool} {sn : List Str} {sub : List Value} {ab : Bool} {col : Option Bool} {dd : Option Addr} {k0 k1 k2 k3 k5 : Option Value}
/-- super().__init__(..), the bound built-in one, called -/
theorem call_bwV {u e t0 : Addr} {rest : List Value} {Q : Value → Shared → Prop}
    (hC : h.get? C = some (excClassObj nm q C N bs bm hdct sn sub ab col dd k0 k1 k2 k3 k5 "ValueError.__new__")) (he : h.get? e = some (excO C t0)) (hu : h.get? u = some (kxs_mw "ValueError.__init__" e)) (hrest : rest.length ≤ sizeLine)
    (hq : ∀ h' t1, (∀ b o, b ≠ e → h.get? b = some o → h'.get? b = some o) → h'.get? e = some (excO C t1) → Q .none ⟨h', g, d, t, os⟩) :
    wpAny (model prog w) A (call (.ref u) rest) Q E ⟨h, g, d, t, os⟩ := by
  refine wpAny_call (codeAny_of_tree ?_)
  show wpAny _ A.in1 (callAny (.ref u) ⟨rest, []⟩) _ _ _
  simp only [callAny]
  refine wpAny_bind (wpAny_load hu ?_)
  simp only [kxs_mw, show (Value.type "method-wrapper" == Value.type "method" || Value.type "method-wrapper" == Value.type "builtin_function_or_method" || Value.type "method-wrapper" == Value.type "method-wrapper") = true by decide, if_true]
  refine KFB.if_so (by decide) ?_
  refine wpAny_bind (check_bound_init F.excBase_ValueError.toExcCallFacts hC he rfl ?_)
  refine wpAny_bind (wpAny_pure (wpAny_pure ?_))
  refine ⟨plainId_quiet F.excBase_ValueError.init.plain _, codeAny_builtin F.excBase_ValueError.initEntry ?_⟩
  exact exc_init_tree (cls := .ref C) (t0 := t0) (dv := none) (c2 := .none) (c3 := .none) (b4 := .bool false) he hrest fun h' k e' t' => hq h' _ k e'
end
section
variable {prog : Program} {w : World} {A : Around} {E : Value → Shared → Prop} {R : Result → Shared → Prop} {s : Shared} {K : Frag} {mg mb : Str → Option Value} {C fI cc cda : Addr}
theorem tm_init (T : TmTxt0 prog K mg C fI cc cda) {x t0 : Addr} {v : Value} (X : K.In s.heap) (hlim : s.heap.NoLimit) (hgl : s.heap.Ns mainGlobals mg) (hbl : s.heap.Ns builtinsNs mb) (hmb : mb "super" = some (.type "super")) (hx : s.heap.get? x = some (excO C t0)) (hnx : K.lookup x = none) (hroom : A.depth < recursionLimit)
    (hq : ∀ h' tk dx t1, InitEnd s.heap h' x C dx t1 v → R (.ok (.ret .none)) { s with heap := h', toks := tk }) :
    codeAny (model prog w) A (.call (.ref fI) ⟨[.ref x, v], []⟩) R s := by
  obtain ⟨oc, od, doc, pm, an, ct, osl, ho, hcd⟩ := T.fn
  obtain ⟨nm, qn, N, bs, bm, sn, sub, ab, col, dd, k0, k1, k2, k3, k5, hC, hbm⟩ := T.cls
  obtain ⟨ccl, cdd, vs, ccs, file, tf, hcode, hvs, hfile⟩ := T.code
  obtain ⟨cl, cld, csl, hcell⟩ := T.cell
  have hcl : clsIn K C = some { name := nm, bases := bs, mro := .ref C :: bm, ns := N, qualname := qn, hasDict := true, slotNames := sn, subclasses := sub, abstract := ab, collection := col, hasDel := false } := by unfold clsIn; rw [hC] <;> rfl
  refine ks_codeAny_call_defAt (binds := [("self", .ref x), ("part", v)]) hroom (X _ _ ho) rfl hlim (codeRec_of X hcd) rfl (BindsTo.of_eq (by first | rfl | with_unfolding_all rfl)) ?cells ?locs (fun h₁ hns k => ?_) rfl rfl rfl
  case cells =>
    show ∀ y ∈ iS.names, y.2 ≠ NameKind.cell
    decide
  case locs =>
    intro y hy
    simp only [List.mem_cons, List.not_mem_nil, or_false] at hy
    rcases hy with rfl | rfl <;> rfl
  have X₁ : K.In h₁ := X.keeps k
  have hx₁ := k _ _ hx
  have I₁ : InstAt h₁ x (excO C t0) C none := ⟨hx₁, rfl, rfl, trivial⟩
  have hxC : x ≠ C := ks_ne X₁ I₁ hcl
  obtain ⟨oD, hD1, hD2⟩ : ∃ oD, h₁.get? C = some oD ∧ oD.data = .cls { name := nm, bases := bs, mro := .ref C :: bm, ns := N, qualname := qn, hasDict := true, slotNames := sn, subclasses := sub, abstract := ab, collection := col, hasDel := false } := ⟨_, X₁ _ _ hC, rfl⟩
  show PySem.wpAt _ _ _ (execs _ _) _ _ _
  refine ks_wpAt_execs_cons (ks_wpAt_Expr_any (ks_wpAt_MethodCall ?_))
  refine ks_wpAt_super_base (ar := { arg := "self", annotation := none, pos := ⟨43, 17, 43, 21⟩ }) rfl rfl (by decide) rfl (k _ _ (X _ _ ho)) rfl rfl rfl (k _ _ (X _ _ hcode)) rfl hvs hfile T.topn ?_
  refine ks_loadName_global rfl rfl (loadGlobal_builtin (hgl.keeps k) T.sup (hbl.keeps k) hmb ⟨rfl, ?_⟩)
  refine wpAny_loadName_free rfl rfl rfl ⟨_, k _ _ (X _ _ hcell), rfl⟩ ?_
  refine wpAny_loadName_local rfl rfl hns (v := .ref x) rfl ?_
  refine ks_wpAny_isType_cls hD1 hD2 ⟨rfl, ?_⟩
  refine ks_wpAny_call_super hD1 hD2 hx₁ rfl (fun c z => by cases z) (looks_mroIn X₁ T.se) (fun h₂ e₂ k₂ => ?_)
  have X₂ : K.In h₂ := X₁.keeps k₂
  have hx₂ := k₂ _ _ hx₁
  have I₂ : InstAt h₂ x (excO C t0) C none := ⟨hx₂, rfl, rfl, trivial⟩
  have si := T.si
  unfold ks_superIn at si
  rw [hcl] at si
  refine kxs_getMethod kxs_ValueError e₂ (looks_opaque X₂ T.tp) (l₀ := .ref C :: bm) (fun A Q E s k q => wpAny_bind ((looks_clsIn X₂ hcl) A _ E s k (wpAny_pure q))) rfl X₂ si (I₂.type.andThen (looks_subIn X₂ T.ve)) hxC (by decide) ?_
  refine kxs_callWith (i := "ValueError.__init__") (x := x) rfl ?_
  refine evalArgs_plain ?_
  show wpAny _ _ (spliced ((false, eval (.Constant (.str "too many") 0 ⟨44, 25, 44, 35⟩) _) :: backTo _ (starEach [] _))) _ _ _
  refine Calls.spliced_cons (Calls.Constant_str (Calls.spliced_nil ?_))
  have hu : (h₂.push (kxs_mw "ValueError.__init__" x)).get? h₂.objs.size = some (kxs_mw "ValueError.__init__" x) := Heap.get?_push_at rfl rfl
  refine ⟨hu, ?_⟩
  have k₃ : ∀ b o, h₂.get? b = some o → (h₂.push (kxs_mw "ValueError.__init__" x)).get? b = some o := fun b o e => Heap.get?_push_of_some _ e
  have X₃ : K.In (h₂.push (kxs_mw "ValueError.__init__" x)) := X₂.keeps k₃
  refine call_bwV (X₃ _ _ hC) (k₃ _ _ hx₂) hu (by rw [sizeLine_eq]; exact (by decide : 1 ≤ 16777216)) fun h₄ t1 k₄ hx₄ => ?_
  -- self.part = part
  have xK : ∀ b o, K.lookup b = some o → b ≠ x := fun b o e z => by
    rw [z, hnx] at e
    cases e
  have X₄ : K.In h₄ := fun b o e => k₄ b o (xK b o e) (X₃ _ _ e)
  have hnL : s.heap.objs.size ≠ x := Nat.ne_of_gt (Heap.lt_size hx)
  have hns₄ : h₄.Ns s.heap.objs.size fun y => List.lookup y [(("self" : Str), Value.ref x), (("part" : Str), v)].reverse := by
    obtain ⟨oL, es, ep, hL, r⟩ := hns
    exact ⟨oL, es, ep, k₄ _ _ hnL (k₃ _ _ (k₂ _ _ hL)), r⟩
  refine wpAt_of_wpAny ?_
  show wpAny _ _ (execs [iB2] _) _ _ _
  refine wpAny_execs_cons (plainObj_wpAny_Assign_Attribute ?_)
  refine wpAny_Name (wpAny_loadName_local rfl rfl hns₄ (v := v) rfl ?_) (by decide)
  refine wpAny_Name (wpAny_loadName_local rfl rfl hns₄ (v := .ref x) rfl ?_) (by decide)
  refine set_plain X₄ (ox := excO C t1) (od := none) ⟨hx₄, rfl, rfl, trivial⟩ T.sa ?_
  refine exc_osa X₄ hx₄ hcl (show refsVE (.ref C :: bm) = true from hbm) rfl T.noN (fun h₅ tk₅ dx k₅ dn dne hx₅ hn₅ => ?_)
  show wpAny _ _ (execs _ _) _ _ _
  refine wpAny_execs_nil (hq h₅ tk₅ dx t1 ⟨fun b o hb e => k₅ b o hb (k₄ b o hb (k₃ b o (k₂ b o (k b o e)))), hx₅, ?_, dne, hn₅⟩)
  have z1 : s.heap.objs.size < h₁.objs.size := hns.lt
  have z4 : s.heap.objs.size < h₄.objs.size := hns₄.lt
  have dn' : h₄.objs.size ≤ dx := dn
  omega
theorem one_size (v : Value) : [v].length ≤ sizeLine := by
  rw [sizeLine_eq]
  exact (by decide : 1 ≤ 16777216)
theorem tm_made (T : TmTxt0 prog K mg C fI cc cda) {v : Value} (X : K.In s.heap) (hlim : s.heap.NoLimit) (hgl : s.heap.Ns mainGlobals mg) (hbl : s.heap.Ns builtinsNs mb) (hmb : mb "super" = some (.type "super")) (hroom : A.depth + 1 < recursionLimit)
    (hq : ∀ h' tk e d, OwnMade s.heap h' e C d v → R (.ok (.ret (.ref e))) { s with heap := h', toks := tk }) :
    codeAny (model prog w) A (.call (.ref C) ⟨[v], []⟩) R s := by
  obtain ⟨nm, q, N, bs, bm, sn, sub, ab, col, dd, k0, k1, k2, k3, k5, hC, hbm⟩ := T.cls
  obtain ⟨hp, g, dr, tk, os⟩ := s
  have k : ∀ b o, hp.get? b = some o → ((hp.push (kdv_tup [v])).push (excO C hp.objs.size)).get? b = some o := fun b o e => Heap.get?_push_of_some _ (Heap.get?_push_of_some _ e)
  have hget : ((hp.push (kdv_tup [v])).push (excO C hp.objs.size)).get? (hp.objs.size + 1) = some (excO C hp.objs.size) := by heap_get
  have hnx : K.lookup (hp.objs.size + 1) = none := by
    cases e : K.lookup (hp.objs.size + 1) with
    | none => rfl
    | some o =>
      have z : hp.get? (hp.objs.size + 1) = some o := X _ _ e
      exact absurd (Nat.lt_of_succ_lt (Heap.lt_size z)) (Nat.lt_irrefl _)
  refine call_own F.excBase_ValueError (fun X => refsVE_contains X bm hbm) (X _ _ hC) (looks_findIn X T.iC) (fun self => bind_fn X self T.tC) (one_size v) ?_
  refine tm_init (s := ⟨(hp.push (kdv_tup [v])).push (excO C hp.objs.size), g, dr, tk, os⟩) T (X.keeps k) (hlim.keeps k) (hgl.keeps k) (hbl.keeps k) hmb hget hnx ?_ fun h' tk' dx t1 ⟨k', hx, dn, dne, hns⟩ => ?_
  · show A.depth + 1 < recursionLimit
    exact hroom
  · have old : ∀ b o, hp.get? b = some o → h'.get? b = some o := fun b o e => k' b o (Nat.ne_of_lt (Nat.lt_succ_of_lt (Heap.lt_size e))) (k b o e)
    have z : hp.objs.size + 1 + 1 ≤ dx := by
      first
        | (simpa only [Heap.size_push] using dn)
        | exact dn
        | (have q := dn; rw [Heap.size_push, Heap.size_push] at q; exact q)
    exact ⟨rfl, hq h' tk' (hp.objs.size + 1) dx ⟨old, Nat.le_succ _, ⟨_, _, hx, rfl, rfl, rfl, rfl⟩, Nat.le_trans (Nat.le_trans (Nat.le_succ _) (Nat.le_succ _)) z, dne, hns⟩⟩
end
end M
/-! ## Ex3 -/
/-! raise TooMany('standings'), by the rules. -/
namespace M
open PySem PySem.Spec PyProof.Rows L2 Evl
theorem relO_tm {v : V} {v' : Value} (r : RelV v v') (f : Str) : RelO (List.lookup f [(("part" : Str), v)]) (if f = "part" then some v' else none) := by
  by_cases hw : f = "part"
  · subst hw
    rw [if_pos rfl]
    have q : List.lookup ("part" : Str) [(("part" : Str), v)] = some v := by simp [List.lookup]
    rw [q]
    exact r
  · rw [if_neg hw]
    have qw : (f == ("part" : Str)) = false := by simpa using hw
    have q2 : List.lookup f [(("part" : Str), v)] = none := by simp [List.lookup, qw]
    rw [q2]
    trivial
theorem pmk_tm {X : Cx} {cs : Cs} {fI cc cda : Addr} {j : Nat} {p p2 pos : Pos} (T : TmTxt0 X.prog X.K X.mg cs.tm fI cc cda) (hr : Room 4 X.A) (hg : Gl X "TooMany" := by rfl)
    (he : starEach [.Constant (.str "standings") j p2] X.env = (false, eval (.Constant (.str "standings") j p2) X.env) :: starEach [] X.env := by rfl) (hpl : (backTo pos (starEach [] X.env)).any (·.1) = false := by rfl) :
    PMk X (.Call (.Name "TooMany" p) [.Constant (.str "standings") j p2] [] pos) (tMkTm cs) := by
  intro pins s σ H Q I h
  refine wpAny_Call_Name_kw (ld_glob I hg T.gC ?_)
  refine PySem.W.callWith_K (h₀ := X.base) I.ok.mod.kin T.kC (thn ((pa_cons pe_str pa_nil he).run pos pins s σ H (fun vs H1 => vs = [.str "standings"] ∧ ∀ d, H1 d = none → Q (.ref cs.tm) (some d) (upd H1 d (.xd tmF))) I ⟨rfl, h⟩) fun us s1 hh => ?_) he hpl
  obtain ⟨vs, H1, I1, r1, ev, q1⟩ := hh
  subst ev
  refine ⟨I1.kIn, ?_⟩
  cases r1 with
  | cons rv rn =>
    rename_i v' us'
    cases rn
    show wpAny _ _ (call (.ref cs.tm) [v']) _ _ _
    have hlim := I1.nolimit
    have hgl := I1.ok.mod.glob.keeps I1.bk
    obtain ⟨mb, hb0, hb1⟩ := I1.ok.mod.blt
    have hbl := hb0.keeps I1.bk
    have hmb : mb "super" = some (.type "super") := by
      rw [hb1 _ (by decide +kernel)]
      first | rfl | kernel_rfl
    obtain ⟨hp, g, dr, tk, os⟩ := s1
    refine wpAny_call (tm_made T I1.kIn hlim hgl hbl hmb (by have := hr.dp; omega) fun h' tk' e d M => ?_)
    show MkP X pins σ Q (.ref e) ⟨h', g, dr, tk', os⟩
    obtain ⟨oe, fv, hoe, hc, hd, hdat, h1⟩ := M.obj
    have hns := M.ns
    obtain ⟨G', g1, g2⟩ := restrict h' fun b => decide (b ≠ e)
    have gk : ∀ b, b ≠ e → G'.get? b = h'.get? b := fun b hb => g1 b (decide_eq_true hb)
    have ge : G'.get? e = none := g2 e (by simp)
    have old : ∀ b o, hp.get? b = some o → G'.get? b = some o := fun b o q => (gk b (Nat.ne_of_lt (Nat.lt_of_lt_of_le (Heap.lt_size q) M.new))).trans (M.keep b o q)
    have ob : ObjOk X.prog X.w (upd H1 d (.xd tmF)) G' d (.xd tmF) :=
      ⟨_, hns.at (fun o q => (gk d M.dne).trans q), fun f => relO_tm rv f⟩
    have J : Inv X pins σ (upd H1 d (.xd tmF)) ⟨G', g, dr, tk', os⟩ := I1.laid (t' := tk') old M.dbig ob
    refine ⟨e, oe, fv, ⟨G', g, dr, tk', os⟩, _, .ref cs.tm, some d, rfl, J, fun b o q => ?_, ge, hoe, ⟨hc, hd⟩, hdat, h1, ?_, rfl, I1.bare, raises_own T.exC T.tyC, q1 d (I1.hok.fresh M.dbig)⟩
    · by_cases hb : b = e
      · have q' : G'.get? b = some o := q
        rw [hb, ge] at q'; cases q'
      · exact (gk b hb).symm.trans q
    · rw [upd_ne (Ne.symm M.dne)]
      exact I1.hok.fresh M.new
/-- as cal_mk, the function object named -/
theorem fn_mk {P : Program} {w : World} {K : PySem.W.Frag} {mg : Str → Option Value} {base : Heap} {x : Str} {st : Stmt} {N ps : List Str} {k : Nat} {sp : Sp} {t : TS} {f : Addr} {fd : FuncData} (F : FnP K x st f fd) (S : FnScope N ps (defScope st))
    (len : ∀ vs H Q E, sp vs H Q E → vs.length = ps.length)
    (der : ∀ f cdv A outer s H E, Room k (A.deeper (envOfC x (defScope st) s.heap.objs.size f cdv)) → PSs (CXd P w K mg base N x st f cdv A outer s H E) (defBody st) t)
    (pure : ∀ vs H Q E, sp vs H Q E → t { nx := fun _ H' => Q .non H', rt := Q } (start N vs) H) : FnOk P w K mg base CX0 (k + 1) f fd ps sp :=
  F.ok S len (fun cdv A outer s H vs Q E hr h => ⟨t, PSs.nox (der f cdv A outer s H E hr), pure vs H Q E h⟩)
structure TmTxt (prog : Program) (K : PySem.W.Frag) (mg : Str → Option Value) (cs : Cs) : Prop where
  ex : ∃ fI cc cda, TmTxt0 prog K mg cs.tm fI cc cda
theorem ps_raiseTm {X : Cx} {cs : Cs} {E : XK} {j : Nat} {p p2 pos pos2 : Pos} (TM : TmTxt X.prog X.K X.mg cs) (hr : Room 4 X.A) (tk : Takes X fun cls d _ H => E cls d H) (hc : X.calm = true := by rfl) (hg : Gl X "TooMany" := by rfl)
    (he : starEach [.Constant (.str "standings") j p2] X.env = (false, eval (.Constant (.str "standings") j p2) X.env) :: starEach [] X.env := by rfl) (hpl : (backTo pos (starEach [] X.env)).any (·.1) = false := by rfl) :
    PS X (.Raise (some (.Call (.Name "TooMany" p) [.Constant (.str "standings") j p2] [] pos)) none pos2) (tRaiseTm cs E) := by
  obtain ⟨fI, cc, cda, T⟩ := TM.ex
  exact ps_raise hc tk (pmk_tm T hr hg he hpl)
end M
/-! ## Tx -/
/-! The defs of the text keep their promises. -/
namespace M
open PySem PySem.Spec L2 Evl PyProof.Rows
def strC : Expr → Str
  | .Constant (.str x) _ _ => x
  | _ => Str.empty
def binR : Expr → Expr
  | .BinOp _ _ r _ => r
  | e => e
def callO : Expr → Expr
  | .Call (.Attribute e _ _) _ _ _ => e
  | e => e
def stV0 : Stmt → Expr
  | .Assign _ v _ => v
  | .Return (some v) _ => v
  | _ => .Constant .none 0 ⟨0, 0, 0, 0⟩
def stAt (b : List Stmt) (i : Nat) : Expr := stV0 (b.getD i (.Pass ⟨0, 0, 0, 0⟩))
def strsOf (b : List Stmt) : Nat → Str
  | 0 => strC (stAt b 0)
  | 1 => strC (binR (stAt b 1))
  | _ => strC (binR (callO (stAt b 2)))
theorem pool_ok : PoolOk (strsOf (defBody s__law_pool)) := by
  show _ ∧ _ ∧ _
  refine ⟨?_, ?_, ?_⟩ <;> decide +kernel

theorem len__law_begin {K : PySem.W.Frag} {vs : List V} {H : Hp} {Q : VK} {E : XK} (h : sp__law_begin K vs H Q E) : vs.length = 1 := by
  first | exact sp1_len h | exact sp2_len h | exact sp3_len h | exact sp4_len h | exact sp5_len h | (obtain ⟨rfl, _⟩ := h; rfl) | (obtain ⟨_, rfl, _⟩ := h; rfl) | (obtain ⟨_, _, rfl, _⟩ := h; rfl) | (obtain ⟨_, _, _, rfl, _⟩ := h; rfl) | (obtain ⟨_, _, _, _, rfl, _⟩ := h; rfl) | (obtain ⟨_, _, _, _, _, rfl, _⟩ := h; rfl) | (obtain ⟨_, _, _, _, _, _, rfl, _⟩ := h; rfl) | (obtain ⟨_, _, _, _, _, _, _, rfl, _⟩ := h; rfl) | (obtain ⟨_, _, _, _, _, _, _, _, rfl, _⟩ := h; rfl) | (obtain ⟨_, _, _, _, _, _, _, _, _, rfl, _⟩ := h; rfl) | (obtain ⟨_, _, _, _, _, _, _, _, _, _, rfl, _⟩ := h; rfl) | (obtain ⟨_, _, _, _, _, _, _, _, _, _, _, rfl, _⟩ := h; rfl) | (obtain ⟨_, _, _, _, _, _, _, _, _, _, _, _, rfl, _⟩ := h; rfl) | (obtain ⟨_, _, _, _, _, _, _, _, _, _, _, _, _, rfl, _⟩ := h; rfl)

theorem len__law_draw {vs : List V} {H : Hp} {Q : VK} {E : XK} (h : sp__law_draw vs H Q E) : vs.length = 2 := by
  first | exact sp1_len h | exact sp2_len h | exact sp3_len h | exact sp4_len h | exact sp5_len h | (obtain ⟨rfl, _⟩ := h; rfl) | (obtain ⟨_, rfl, _⟩ := h; rfl) | (obtain ⟨_, _, rfl, _⟩ := h; rfl) | (obtain ⟨_, _, _, rfl, _⟩ := h; rfl) | (obtain ⟨_, _, _, _, rfl, _⟩ := h; rfl) | (obtain ⟨_, _, _, _, _, rfl, _⟩ := h; rfl) | (obtain ⟨_, _, _, _, _, _, rfl, _⟩ := h; rfl) | (obtain ⟨_, _, _, _, _, _, _, rfl, _⟩ := h; rfl) | (obtain ⟨_, _, _, _, _, _, _, _, rfl, _⟩ := h; rfl) | (obtain ⟨_, _, _, _, _, _, _, _, _, rfl, _⟩ := h; rfl) | (obtain ⟨_, _, _, _, _, _, _, _, _, _, rfl, _⟩ := h; rfl) | (obtain ⟨_, _, _, _, _, _, _, _, _, _, _, rfl, _⟩ := h; rfl) | (obtain ⟨_, _, _, _, _, _, _, _, _, _, _, _, rfl, _⟩ := h; rfl) | (obtain ⟨_, _, _, _, _, _, _, _, _, _, _, _, _, rfl, _⟩ := h; rfl)

theorem len__law_rare {vs : List V} {H : Hp} {Q : VK} {E : XK} (h : sp__law_rare vs H Q E) : vs.length = 2 := by
  first | exact sp1_len h | exact sp2_len h | exact sp3_len h | exact sp4_len h | exact sp5_len h | (obtain ⟨rfl, _⟩ := h; rfl) | (obtain ⟨_, rfl, _⟩ := h; rfl) | (obtain ⟨_, _, rfl, _⟩ := h; rfl) | (obtain ⟨_, _, _, rfl, _⟩ := h; rfl) | (obtain ⟨_, _, _, _, rfl, _⟩ := h; rfl) | (obtain ⟨_, _, _, _, _, rfl, _⟩ := h; rfl) | (obtain ⟨_, _, _, _, _, _, rfl, _⟩ := h; rfl) | (obtain ⟨_, _, _, _, _, _, _, rfl, _⟩ := h; rfl) | (obtain ⟨_, _, _, _, _, _, _, _, rfl, _⟩ := h; rfl) | (obtain ⟨_, _, _, _, _, _, _, _, _, rfl, _⟩ := h; rfl) | (obtain ⟨_, _, _, _, _, _, _, _, _, _, rfl, _⟩ := h; rfl) | (obtain ⟨_, _, _, _, _, _, _, _, _, _, _, rfl, _⟩ := h; rfl) | (obtain ⟨_, _, _, _, _, _, _, _, _, _, _, _, rfl, _⟩ := h; rfl) | (obtain ⟨_, _, _, _, _, _, _, _, _, _, _, _, _, rfl, _⟩ := h; rfl)

theorem len__law_pick {vs : List V} {H : Hp} {Q : VK} {E : XK} (h : sp__law_pick vs H Q E) : vs.length = 2 := by
  first | exact sp1_len h | exact sp2_len h | exact sp3_len h | exact sp4_len h | exact sp5_len h | (obtain ⟨rfl, _⟩ := h; rfl) | (obtain ⟨_, rfl, _⟩ := h; rfl) | (obtain ⟨_, _, rfl, _⟩ := h; rfl) | (obtain ⟨_, _, _, rfl, _⟩ := h; rfl) | (obtain ⟨_, _, _, _, rfl, _⟩ := h; rfl) | (obtain ⟨_, _, _, _, _, rfl, _⟩ := h; rfl) | (obtain ⟨_, _, _, _, _, _, rfl, _⟩ := h; rfl) | (obtain ⟨_, _, _, _, _, _, _, rfl, _⟩ := h; rfl) | (obtain ⟨_, _, _, _, _, _, _, _, rfl, _⟩ := h; rfl) | (obtain ⟨_, _, _, _, _, _, _, _, _, rfl, _⟩ := h; rfl) | (obtain ⟨_, _, _, _, _, _, _, _, _, _, rfl, _⟩ := h; rfl) | (obtain ⟨_, _, _, _, _, _, _, _, _, _, _, rfl, _⟩ := h; rfl) | (obtain ⟨_, _, _, _, _, _, _, _, _, _, _, _, rfl, _⟩ := h; rfl) | (obtain ⟨_, _, _, _, _, _, _, _, _, _, _, _, _, rfl, _⟩ := h; rfl)

theorem len__law_pool {vs : List V} {H : Hp} {Q : VK} {E : XK} (h : sp__law_pool vs H Q E) : vs.length = 0 := by
  first | exact sp1_len h | exact sp2_len h | exact sp3_len h | exact sp4_len h | exact sp5_len h | (obtain ⟨rfl, _⟩ := h; rfl) | (obtain ⟨_, rfl, _⟩ := h; rfl) | (obtain ⟨_, _, rfl, _⟩ := h; rfl) | (obtain ⟨_, _, _, rfl, _⟩ := h; rfl) | (obtain ⟨_, _, _, _, rfl, _⟩ := h; rfl) | (obtain ⟨_, _, _, _, _, rfl, _⟩ := h; rfl) | (obtain ⟨_, _, _, _, _, _, rfl, _⟩ := h; rfl) | (obtain ⟨_, _, _, _, _, _, _, rfl, _⟩ := h; rfl) | (obtain ⟨_, _, _, _, _, _, _, _, rfl, _⟩ := h; rfl) | (obtain ⟨_, _, _, _, _, _, _, _, _, rfl, _⟩ := h; rfl) | (obtain ⟨_, _, _, _, _, _, _, _, _, _, rfl, _⟩ := h; rfl) | (obtain ⟨_, _, _, _, _, _, _, _, _, _, _, rfl, _⟩ := h; rfl) | (obtain ⟨_, _, _, _, _, _, _, _, _, _, _, _, rfl, _⟩ := h; rfl) | (obtain ⟨_, _, _, _, _, _, _, _, _, _, _, _, _, rfl, _⟩ := h; rfl)

theorem len__law_pop {vs : List V} {H : Hp} {Q : VK} {E : XK} (h : sp__law_pop vs H Q E) : vs.length = 2 := by
  first | exact sp1_len h | exact sp2_len h | exact sp3_len h | exact sp4_len h | exact sp5_len h | (obtain ⟨rfl, _⟩ := h; rfl) | (obtain ⟨_, rfl, _⟩ := h; rfl) | (obtain ⟨_, _, rfl, _⟩ := h; rfl) | (obtain ⟨_, _, _, rfl, _⟩ := h; rfl) | (obtain ⟨_, _, _, _, rfl, _⟩ := h; rfl) | (obtain ⟨_, _, _, _, _, rfl, _⟩ := h; rfl) | (obtain ⟨_, _, _, _, _, _, rfl, _⟩ := h; rfl) | (obtain ⟨_, _, _, _, _, _, _, rfl, _⟩ := h; rfl) | (obtain ⟨_, _, _, _, _, _, _, _, rfl, _⟩ := h; rfl) | (obtain ⟨_, _, _, _, _, _, _, _, _, rfl, _⟩ := h; rfl) | (obtain ⟨_, _, _, _, _, _, _, _, _, _, rfl, _⟩ := h; rfl) | (obtain ⟨_, _, _, _, _, _, _, _, _, _, _, rfl, _⟩ := h; rfl) | (obtain ⟨_, _, _, _, _, _, _, _, _, _, _, _, rfl, _⟩ := h; rfl) | (obtain ⟨_, _, _, _, _, _, _, _, _, _, _, _, _, rfl, _⟩ := h; rfl)

theorem len__law_shuffled {vs : List V} {H : Hp} {Q : VK} {E : XK} (h : sp__law_shuffled vs H Q E) : vs.length = 2 := by
  first | exact sp1_len h | exact sp2_len h | exact sp3_len h | exact sp4_len h | exact sp5_len h | (obtain ⟨rfl, _⟩ := h; rfl) | (obtain ⟨_, rfl, _⟩ := h; rfl) | (obtain ⟨_, _, rfl, _⟩ := h; rfl) | (obtain ⟨_, _, _, rfl, _⟩ := h; rfl) | (obtain ⟨_, _, _, _, rfl, _⟩ := h; rfl) | (obtain ⟨_, _, _, _, _, rfl, _⟩ := h; rfl) | (obtain ⟨_, _, _, _, _, _, rfl, _⟩ := h; rfl) | (obtain ⟨_, _, _, _, _, _, _, rfl, _⟩ := h; rfl) | (obtain ⟨_, _, _, _, _, _, _, _, rfl, _⟩ := h; rfl) | (obtain ⟨_, _, _, _, _, _, _, _, _, rfl, _⟩ := h; rfl) | (obtain ⟨_, _, _, _, _, _, _, _, _, _, rfl, _⟩ := h; rfl) | (obtain ⟨_, _, _, _, _, _, _, _, _, _, _, rfl, _⟩ := h; rfl) | (obtain ⟨_, _, _, _, _, _, _, _, _, _, _, _, rfl, _⟩ := h; rfl) | (obtain ⟨_, _, _, _, _, _, _, _, _, _, _, _, _, rfl, _⟩ := h; rfl)

theorem len__law_listed {vs : List V} {H : Hp} {Q : VK} {E : XK} (h : sp__law_listed vs H Q E) : vs.length = 2 := by
  first | exact sp1_len h | exact sp2_len h | exact sp3_len h | exact sp4_len h | exact sp5_len h | (obtain ⟨rfl, _⟩ := h; rfl) | (obtain ⟨_, rfl, _⟩ := h; rfl) | (obtain ⟨_, _, rfl, _⟩ := h; rfl) | (obtain ⟨_, _, _, rfl, _⟩ := h; rfl) | (obtain ⟨_, _, _, _, rfl, _⟩ := h; rfl) | (obtain ⟨_, _, _, _, _, rfl, _⟩ := h; rfl) | (obtain ⟨_, _, _, _, _, _, rfl, _⟩ := h; rfl) | (obtain ⟨_, _, _, _, _, _, _, rfl, _⟩ := h; rfl) | (obtain ⟨_, _, _, _, _, _, _, _, rfl, _⟩ := h; rfl) | (obtain ⟨_, _, _, _, _, _, _, _, _, rfl, _⟩ := h; rfl) | (obtain ⟨_, _, _, _, _, _, _, _, _, _, rfl, _⟩ := h; rfl) | (obtain ⟨_, _, _, _, _, _, _, _, _, _, _, rfl, _⟩ := h; rfl) | (obtain ⟨_, _, _, _, _, _, _, _, _, _, _, _, rfl, _⟩ := h; rfl) | (obtain ⟨_, _, _, _, _, _, _, _, _, _, _, _, _, rfl, _⟩ := h; rfl)

theorem len__law_heap {vs : List V} {H : Hp} {Q : VK} {E : XK} (h : sp__law_heap vs H Q E) : vs.length = 3 := by
  first | exact sp1_len h | exact sp2_len h | exact sp3_len h | exact sp4_len h | exact sp5_len h | (obtain ⟨rfl, _⟩ := h; rfl) | (obtain ⟨_, rfl, _⟩ := h; rfl) | (obtain ⟨_, _, rfl, _⟩ := h; rfl) | (obtain ⟨_, _, _, rfl, _⟩ := h; rfl) | (obtain ⟨_, _, _, _, rfl, _⟩ := h; rfl) | (obtain ⟨_, _, _, _, _, rfl, _⟩ := h; rfl) | (obtain ⟨_, _, _, _, _, _, rfl, _⟩ := h; rfl) | (obtain ⟨_, _, _, _, _, _, _, rfl, _⟩ := h; rfl) | (obtain ⟨_, _, _, _, _, _, _, _, rfl, _⟩ := h; rfl) | (obtain ⟨_, _, _, _, _, _, _, _, _, rfl, _⟩ := h; rfl) | (obtain ⟨_, _, _, _, _, _, _, _, _, _, rfl, _⟩ := h; rfl) | (obtain ⟨_, _, _, _, _, _, _, _, _, _, _, rfl, _⟩ := h; rfl) | (obtain ⟨_, _, _, _, _, _, _, _, _, _, _, _, rfl, _⟩ := h; rfl) | (obtain ⟨_, _, _, _, _, _, _, _, _, _, _, _, _, rfl, _⟩ := h; rfl)

theorem len__law_some_kinds {vs : List V} {H : Hp} {Q : VK} {E : XK} (h : sp__law_some_kinds vs H Q E) : vs.length = 2 := by
  first | exact sp1_len h | exact sp2_len h | exact sp3_len h | exact sp4_len h | exact sp5_len h | (obtain ⟨rfl, _⟩ := h; rfl) | (obtain ⟨_, rfl, _⟩ := h; rfl) | (obtain ⟨_, _, rfl, _⟩ := h; rfl) | (obtain ⟨_, _, _, rfl, _⟩ := h; rfl) | (obtain ⟨_, _, _, _, rfl, _⟩ := h; rfl) | (obtain ⟨_, _, _, _, _, rfl, _⟩ := h; rfl) | (obtain ⟨_, _, _, _, _, _, rfl, _⟩ := h; rfl) | (obtain ⟨_, _, _, _, _, _, _, rfl, _⟩ := h; rfl) | (obtain ⟨_, _, _, _, _, _, _, _, rfl, _⟩ := h; rfl) | (obtain ⟨_, _, _, _, _, _, _, _, _, rfl, _⟩ := h; rfl) | (obtain ⟨_, _, _, _, _, _, _, _, _, _, rfl, _⟩ := h; rfl) | (obtain ⟨_, _, _, _, _, _, _, _, _, _, _, rfl, _⟩ := h; rfl) | (obtain ⟨_, _, _, _, _, _, _, _, _, _, _, _, rfl, _⟩ := h; rfl) | (obtain ⟨_, _, _, _, _, _, _, _, _, _, _, _, _, rfl, _⟩ := h; rfl)

theorem len__law_size_of_crowd {vs : List V} {H : Hp} {Q : VK} {E : XK} (h : sp__law_size_of_crowd vs H Q E) : vs.length = 2 := by
  first | exact sp1_len h | exact sp2_len h | exact sp3_len h | exact sp4_len h | exact sp5_len h | (obtain ⟨rfl, _⟩ := h; rfl) | (obtain ⟨_, rfl, _⟩ := h; rfl) | (obtain ⟨_, _, rfl, _⟩ := h; rfl) | (obtain ⟨_, _, _, rfl, _⟩ := h; rfl) | (obtain ⟨_, _, _, _, rfl, _⟩ := h; rfl) | (obtain ⟨_, _, _, _, _, rfl, _⟩ := h; rfl) | (obtain ⟨_, _, _, _, _, _, rfl, _⟩ := h; rfl) | (obtain ⟨_, _, _, _, _, _, _, rfl, _⟩ := h; rfl) | (obtain ⟨_, _, _, _, _, _, _, _, rfl, _⟩ := h; rfl) | (obtain ⟨_, _, _, _, _, _, _, _, _, rfl, _⟩ := h; rfl) | (obtain ⟨_, _, _, _, _, _, _, _, _, _, rfl, _⟩ := h; rfl) | (obtain ⟨_, _, _, _, _, _, _, _, _, _, _, rfl, _⟩ := h; rfl) | (obtain ⟨_, _, _, _, _, _, _, _, _, _, _, _, rfl, _⟩ := h; rfl) | (obtain ⟨_, _, _, _, _, _, _, _, _, _, _, _, _, rfl, _⟩ := h; rfl)

theorem len_times_all {vs : List V} {H : Hp} {Q : VK} {E : XK} (h : sp_times_all vs H Q E) : vs.length = 2 := by
  first | exact sp1_len h | exact sp2_len h | exact sp3_len h | exact sp4_len h | exact sp5_len h | (obtain ⟨rfl, _⟩ := h; rfl) | (obtain ⟨_, rfl, _⟩ := h; rfl) | (obtain ⟨_, _, rfl, _⟩ := h; rfl) | (obtain ⟨_, _, _, rfl, _⟩ := h; rfl) | (obtain ⟨_, _, _, _, rfl, _⟩ := h; rfl) | (obtain ⟨_, _, _, _, _, rfl, _⟩ := h; rfl) | (obtain ⟨_, _, _, _, _, _, rfl, _⟩ := h; rfl) | (obtain ⟨_, _, _, _, _, _, _, rfl, _⟩ := h; rfl) | (obtain ⟨_, _, _, _, _, _, _, _, rfl, _⟩ := h; rfl) | (obtain ⟨_, _, _, _, _, _, _, _, _, rfl, _⟩ := h; rfl) | (obtain ⟨_, _, _, _, _, _, _, _, _, _, rfl, _⟩ := h; rfl) | (obtain ⟨_, _, _, _, _, _, _, _, _, _, _, rfl, _⟩ := h; rfl) | (obtain ⟨_, _, _, _, _, _, _, _, _, _, _, _, rfl, _⟩ := h; rfl) | (obtain ⟨_, _, _, _, _, _, _, _, _, _, _, _, _, rfl, _⟩ := h; rfl)

theorem len_at_most {vs : List V} {H : Hp} {Q : VK} {E : XK} (h : sp_at_most vs H Q E) : vs.length = 2 := by
  first | exact sp1_len h | exact sp2_len h | exact sp3_len h | exact sp4_len h | exact sp5_len h | (obtain ⟨rfl, _⟩ := h; rfl) | (obtain ⟨_, rfl, _⟩ := h; rfl) | (obtain ⟨_, _, rfl, _⟩ := h; rfl) | (obtain ⟨_, _, _, rfl, _⟩ := h; rfl) | (obtain ⟨_, _, _, _, rfl, _⟩ := h; rfl) | (obtain ⟨_, _, _, _, _, rfl, _⟩ := h; rfl) | (obtain ⟨_, _, _, _, _, _, rfl, _⟩ := h; rfl) | (obtain ⟨_, _, _, _, _, _, _, rfl, _⟩ := h; rfl) | (obtain ⟨_, _, _, _, _, _, _, _, rfl, _⟩ := h; rfl) | (obtain ⟨_, _, _, _, _, _, _, _, _, rfl, _⟩ := h; rfl) | (obtain ⟨_, _, _, _, _, _, _, _, _, _, rfl, _⟩ := h; rfl) | (obtain ⟨_, _, _, _, _, _, _, _, _, _, _, rfl, _⟩ := h; rfl) | (obtain ⟨_, _, _, _, _, _, _, _, _, _, _, _, rfl, _⟩ := h; rfl) | (obtain ⟨_, _, _, _, _, _, _, _, _, _, _, _, _, rfl, _⟩ := h; rfl)

theorem len_can_do {vs : List V} {H : Hp} {Q : VK} {E : XK} (h : sp_can_do vs H Q E) : vs.length = 3 := by
  first | exact sp1_len h | exact sp2_len h | exact sp3_len h | exact sp4_len h | exact sp5_len h | (obtain ⟨rfl, _⟩ := h; rfl) | (obtain ⟨_, rfl, _⟩ := h; rfl) | (obtain ⟨_, _, rfl, _⟩ := h; rfl) | (obtain ⟨_, _, _, rfl, _⟩ := h; rfl) | (obtain ⟨_, _, _, _, rfl, _⟩ := h; rfl) | (obtain ⟨_, _, _, _, _, rfl, _⟩ := h; rfl) | (obtain ⟨_, _, _, _, _, _, rfl, _⟩ := h; rfl) | (obtain ⟨_, _, _, _, _, _, _, rfl, _⟩ := h; rfl) | (obtain ⟨_, _, _, _, _, _, _, _, rfl, _⟩ := h; rfl) | (obtain ⟨_, _, _, _, _, _, _, _, _, rfl, _⟩ := h; rfl) | (obtain ⟨_, _, _, _, _, _, _, _, _, _, rfl, _⟩ := h; rfl) | (obtain ⟨_, _, _, _, _, _, _, _, _, _, _, rfl, _⟩ := h; rfl) | (obtain ⟨_, _, _, _, _, _, _, _, _, _, _, _, rfl, _⟩ := h; rfl) | (obtain ⟨_, _, _, _, _, _, _, _, _, _, _, _, _, rfl, _⟩ := h; rfl)

theorem len_moved_by {vs : List V} {H : Hp} {Q : VK} {E : XK} (h : sp_moved_by vs H Q E) : vs.length = 3 := by
  first | exact sp1_len h | exact sp2_len h | exact sp3_len h | exact sp4_len h | exact sp5_len h | (obtain ⟨rfl, _⟩ := h; rfl) | (obtain ⟨_, rfl, _⟩ := h; rfl) | (obtain ⟨_, _, rfl, _⟩ := h; rfl) | (obtain ⟨_, _, _, rfl, _⟩ := h; rfl) | (obtain ⟨_, _, _, _, rfl, _⟩ := h; rfl) | (obtain ⟨_, _, _, _, _, rfl, _⟩ := h; rfl) | (obtain ⟨_, _, _, _, _, _, rfl, _⟩ := h; rfl) | (obtain ⟨_, _, _, _, _, _, _, rfl, _⟩ := h; rfl) | (obtain ⟨_, _, _, _, _, _, _, _, rfl, _⟩ := h; rfl) | (obtain ⟨_, _, _, _, _, _, _, _, _, rfl, _⟩ := h; rfl) | (obtain ⟨_, _, _, _, _, _, _, _, _, _, rfl, _⟩ := h; rfl) | (obtain ⟨_, _, _, _, _, _, _, _, _, _, _, rfl, _⟩ := h; rfl) | (obtain ⟨_, _, _, _, _, _, _, _, _, _, _, _, rfl, _⟩ := h; rfl) | (obtain ⟨_, _, _, _, _, _, _, _, _, _, _, _, _, rfl, _⟩ := h; rfl)

theorem len_count_in {vs : List V} {H : Hp} {Q : VK} {E : XK} (h : sp_count_in vs H Q E) : vs.length = 2 := by
  first | exact sp1_len h | exact sp2_len h | exact sp3_len h | exact sp4_len h | exact sp5_len h | (obtain ⟨rfl, _⟩ := h; rfl) | (obtain ⟨_, rfl, _⟩ := h; rfl) | (obtain ⟨_, _, rfl, _⟩ := h; rfl) | (obtain ⟨_, _, _, rfl, _⟩ := h; rfl) | (obtain ⟨_, _, _, _, rfl, _⟩ := h; rfl) | (obtain ⟨_, _, _, _, _, rfl, _⟩ := h; rfl) | (obtain ⟨_, _, _, _, _, _, rfl, _⟩ := h; rfl) | (obtain ⟨_, _, _, _, _, _, _, rfl, _⟩ := h; rfl) | (obtain ⟨_, _, _, _, _, _, _, _, rfl, _⟩ := h; rfl) | (obtain ⟨_, _, _, _, _, _, _, _, _, rfl, _⟩ := h; rfl) | (obtain ⟨_, _, _, _, _, _, _, _, _, _, rfl, _⟩ := h; rfl) | (obtain ⟨_, _, _, _, _, _, _, _, _, _, _, rfl, _⟩ := h; rfl) | (obtain ⟨_, _, _, _, _, _, _, _, _, _, _, _, rfl, _⟩ := h; rfl) | (obtain ⟨_, _, _, _, _, _, _, _, _, _, _, _, _, rfl, _⟩ := h; rfl)

theorem len__law_refused {vs : List V} {H : Hp} {Q : VK} {E : XK} (h : sp__law_refused vs H Q E) : vs.length = 5 := by
  first | exact sp1_len h | exact sp2_len h | exact sp3_len h | exact sp4_len h | exact sp5_len h | (obtain ⟨rfl, _⟩ := h; rfl) | (obtain ⟨_, rfl, _⟩ := h; rfl) | (obtain ⟨_, _, rfl, _⟩ := h; rfl) | (obtain ⟨_, _, _, rfl, _⟩ := h; rfl) | (obtain ⟨_, _, _, _, rfl, _⟩ := h; rfl) | (obtain ⟨_, _, _, _, _, rfl, _⟩ := h; rfl) | (obtain ⟨_, _, _, _, _, _, rfl, _⟩ := h; rfl) | (obtain ⟨_, _, _, _, _, _, _, rfl, _⟩ := h; rfl) | (obtain ⟨_, _, _, _, _, _, _, _, rfl, _⟩ := h; rfl) | (obtain ⟨_, _, _, _, _, _, _, _, _, rfl, _⟩ := h; rfl) | (obtain ⟨_, _, _, _, _, _, _, _, _, _, rfl, _⟩ := h; rfl) | (obtain ⟨_, _, _, _, _, _, _, _, _, _, _, rfl, _⟩ := h; rfl) | (obtain ⟨_, _, _, _, _, _, _, _, _, _, _, _, rfl, _⟩ := h; rfl) | (obtain ⟨_, _, _, _, _, _, _, _, _, _, _, _, _, rfl, _⟩ := h; rfl)

theorem len__law_is_int {vs : List V} {H : Hp} {Q : VK} {E : XK} (h : sp__law_is_int vs H Q E) : vs.length = 1 := by
  first | exact sp1_len h | exact sp2_len h | exact sp3_len h | exact sp4_len h | exact sp5_len h | (obtain ⟨rfl, _⟩ := h; rfl) | (obtain ⟨_, rfl, _⟩ := h; rfl) | (obtain ⟨_, _, rfl, _⟩ := h; rfl) | (obtain ⟨_, _, _, rfl, _⟩ := h; rfl) | (obtain ⟨_, _, _, _, rfl, _⟩ := h; rfl) | (obtain ⟨_, _, _, _, _, rfl, _⟩ := h; rfl) | (obtain ⟨_, _, _, _, _, _, rfl, _⟩ := h; rfl) | (obtain ⟨_, _, _, _, _, _, _, rfl, _⟩ := h; rfl) | (obtain ⟨_, _, _, _, _, _, _, _, rfl, _⟩ := h; rfl) | (obtain ⟨_, _, _, _, _, _, _, _, _, rfl, _⟩ := h; rfl) | (obtain ⟨_, _, _, _, _, _, _, _, _, _, rfl, _⟩ := h; rfl) | (obtain ⟨_, _, _, _, _, _, _, _, _, _, _, rfl, _⟩ := h; rfl) | (obtain ⟨_, _, _, _, _, _, _, _, _, _, _, _, rfl, _⟩ := h; rfl) | (obtain ⟨_, _, _, _, _, _, _, _, _, _, _, _, _, rfl, _⟩ := h; rfl)

theorem len__law_is_ints {vs : List V} {H : Hp} {Q : VK} {E : XK} (h : sp__law_is_ints vs H Q E) : vs.length = 1 := by
  first | exact sp1_len h | exact sp2_len h | exact sp3_len h | exact sp4_len h | exact sp5_len h | (obtain ⟨rfl, _⟩ := h; rfl) | (obtain ⟨_, rfl, _⟩ := h; rfl) | (obtain ⟨_, _, rfl, _⟩ := h; rfl) | (obtain ⟨_, _, _, rfl, _⟩ := h; rfl) | (obtain ⟨_, _, _, _, rfl, _⟩ := h; rfl) | (obtain ⟨_, _, _, _, _, rfl, _⟩ := h; rfl) | (obtain ⟨_, _, _, _, _, _, rfl, _⟩ := h; rfl) | (obtain ⟨_, _, _, _, _, _, _, rfl, _⟩ := h; rfl) | (obtain ⟨_, _, _, _, _, _, _, _, rfl, _⟩ := h; rfl) | (obtain ⟨_, _, _, _, _, _, _, _, _, rfl, _⟩ := h; rfl) | (obtain ⟨_, _, _, _, _, _, _, _, _, _, rfl, _⟩ := h; rfl) | (obtain ⟨_, _, _, _, _, _, _, _, _, _, _, rfl, _⟩ := h; rfl) | (obtain ⟨_, _, _, _, _, _, _, _, _, _, _, _, rfl, _⟩ := h; rfl) | (obtain ⟨_, _, _, _, _, _, _, _, _, _, _, _, _, rfl, _⟩ := h; rfl)

theorem len__law_ring_steps {vs : List V} {H : Hp} {Q : VK} {E : XK} (h : sp__law_ring_steps vs H Q E) : vs.length = 2 := by
  first | exact sp1_len h | exact sp2_len h | exact sp3_len h | exact sp4_len h | exact sp5_len h | (obtain ⟨rfl, _⟩ := h; rfl) | (obtain ⟨_, rfl, _⟩ := h; rfl) | (obtain ⟨_, _, rfl, _⟩ := h; rfl) | (obtain ⟨_, _, _, rfl, _⟩ := h; rfl) | (obtain ⟨_, _, _, _, rfl, _⟩ := h; rfl) | (obtain ⟨_, _, _, _, _, rfl, _⟩ := h; rfl) | (obtain ⟨_, _, _, _, _, _, rfl, _⟩ := h; rfl) | (obtain ⟨_, _, _, _, _, _, _, rfl, _⟩ := h; rfl) | (obtain ⟨_, _, _, _, _, _, _, _, rfl, _⟩ := h; rfl) | (obtain ⟨_, _, _, _, _, _, _, _, _, rfl, _⟩ := h; rfl) | (obtain ⟨_, _, _, _, _, _, _, _, _, _, rfl, _⟩ := h; rfl) | (obtain ⟨_, _, _, _, _, _, _, _, _, _, _, rfl, _⟩ := h; rfl) | (obtain ⟨_, _, _, _, _, _, _, _, _, _, _, _, rfl, _⟩ := h; rfl) | (obtain ⟨_, _, _, _, _, _, _, _, _, _, _, _, _, rfl, _⟩ := h; rfl)

theorem len__law_times {vs : List V} {H : Hp} {Q : VK} {E : XK} (h : sp__law_times vs H Q E) : vs.length = 2 := by
  first | exact sp1_len h | exact sp2_len h | exact sp3_len h | exact sp4_len h | exact sp5_len h | (obtain ⟨rfl, _⟩ := h; rfl) | (obtain ⟨_, rfl, _⟩ := h; rfl) | (obtain ⟨_, _, rfl, _⟩ := h; rfl) | (obtain ⟨_, _, _, rfl, _⟩ := h; rfl) | (obtain ⟨_, _, _, _, rfl, _⟩ := h; rfl) | (obtain ⟨_, _, _, _, _, rfl, _⟩ := h; rfl) | (obtain ⟨_, _, _, _, _, _, rfl, _⟩ := h; rfl) | (obtain ⟨_, _, _, _, _, _, _, rfl, _⟩ := h; rfl) | (obtain ⟨_, _, _, _, _, _, _, _, rfl, _⟩ := h; rfl) | (obtain ⟨_, _, _, _, _, _, _, _, _, rfl, _⟩ := h; rfl) | (obtain ⟨_, _, _, _, _, _, _, _, _, _, rfl, _⟩ := h; rfl) | (obtain ⟨_, _, _, _, _, _, _, _, _, _, _, rfl, _⟩ := h; rfl) | (obtain ⟨_, _, _, _, _, _, _, _, _, _, _, _, rfl, _⟩ := h; rfl) | (obtain ⟨_, _, _, _, _, _, _, _, _, _, _, _, _, rfl, _⟩ := h; rfl)

theorem len__law_under {vs : List V} {H : Hp} {Q : VK} {E : XK} (h : sp__law_under vs H Q E) : vs.length = 2 := by
  first | exact sp1_len h | exact sp2_len h | exact sp3_len h | exact sp4_len h | exact sp5_len h | (obtain ⟨rfl, _⟩ := h; rfl) | (obtain ⟨_, rfl, _⟩ := h; rfl) | (obtain ⟨_, _, rfl, _⟩ := h; rfl) | (obtain ⟨_, _, _, rfl, _⟩ := h; rfl) | (obtain ⟨_, _, _, _, rfl, _⟩ := h; rfl) | (obtain ⟨_, _, _, _, _, rfl, _⟩ := h; rfl) | (obtain ⟨_, _, _, _, _, _, rfl, _⟩ := h; rfl) | (obtain ⟨_, _, _, _, _, _, _, rfl, _⟩ := h; rfl) | (obtain ⟨_, _, _, _, _, _, _, _, rfl, _⟩ := h; rfl) | (obtain ⟨_, _, _, _, _, _, _, _, _, rfl, _⟩ := h; rfl) | (obtain ⟨_, _, _, _, _, _, _, _, _, _, rfl, _⟩ := h; rfl) | (obtain ⟨_, _, _, _, _, _, _, _, _, _, _, rfl, _⟩ := h; rfl) | (obtain ⟨_, _, _, _, _, _, _, _, _, _, _, _, rfl, _⟩ := h; rfl) | (obtain ⟨_, _, _, _, _, _, _, _, _, _, _, _, _, rfl, _⟩ := h; rfl)

theorem len__law_can {vs : List V} {H : Hp} {Q : VK} {E : XK} (h : sp__law_can vs H Q E) : vs.length = 3 := by
  first | exact sp1_len h | exact sp2_len h | exact sp3_len h | exact sp4_len h | exact sp5_len h | (obtain ⟨rfl, _⟩ := h; rfl) | (obtain ⟨_, rfl, _⟩ := h; rfl) | (obtain ⟨_, _, rfl, _⟩ := h; rfl) | (obtain ⟨_, _, _, rfl, _⟩ := h; rfl) | (obtain ⟨_, _, _, _, rfl, _⟩ := h; rfl) | (obtain ⟨_, _, _, _, _, rfl, _⟩ := h; rfl) | (obtain ⟨_, _, _, _, _, _, rfl, _⟩ := h; rfl) | (obtain ⟨_, _, _, _, _, _, _, rfl, _⟩ := h; rfl) | (obtain ⟨_, _, _, _, _, _, _, _, rfl, _⟩ := h; rfl) | (obtain ⟨_, _, _, _, _, _, _, _, _, rfl, _⟩ := h; rfl) | (obtain ⟨_, _, _, _, _, _, _, _, _, _, rfl, _⟩ := h; rfl) | (obtain ⟨_, _, _, _, _, _, _, _, _, _, _, rfl, _⟩ := h; rfl) | (obtain ⟨_, _, _, _, _, _, _, _, _, _, _, _, rfl, _⟩ := h; rfl) | (obtain ⟨_, _, _, _, _, _, _, _, _, _, _, _, _, rfl, _⟩ := h; rfl)

theorem len__law_minus {vs : List V} {H : Hp} {Q : VK} {E : XK} (h : sp__law_minus vs H Q E) : vs.length = 2 := by
  first | exact sp1_len h | exact sp2_len h | exact sp3_len h | exact sp4_len h | exact sp5_len h | (obtain ⟨rfl, _⟩ := h; rfl) | (obtain ⟨_, rfl, _⟩ := h; rfl) | (obtain ⟨_, _, rfl, _⟩ := h; rfl) | (obtain ⟨_, _, _, rfl, _⟩ := h; rfl) | (obtain ⟨_, _, _, _, rfl, _⟩ := h; rfl) | (obtain ⟨_, _, _, _, _, rfl, _⟩ := h; rfl) | (obtain ⟨_, _, _, _, _, _, rfl, _⟩ := h; rfl) | (obtain ⟨_, _, _, _, _, _, _, rfl, _⟩ := h; rfl) | (obtain ⟨_, _, _, _, _, _, _, _, rfl, _⟩ := h; rfl) | (obtain ⟨_, _, _, _, _, _, _, _, _, rfl, _⟩ := h; rfl) | (obtain ⟨_, _, _, _, _, _, _, _, _, _, rfl, _⟩ := h; rfl) | (obtain ⟨_, _, _, _, _, _, _, _, _, _, _, rfl, _⟩ := h; rfl) | (obtain ⟨_, _, _, _, _, _, _, _, _, _, _, _, rfl, _⟩ := h; rfl) | (obtain ⟨_, _, _, _, _, _, _, _, _, _, _, _, _, rfl, _⟩ := h; rfl)

theorem len__law_change {vs : List V} {H : Hp} {Q : VK} {E : XK} (h : sp__law_change vs H Q E) : vs.length = 2 := by
  first | exact sp1_len h | exact sp2_len h | exact sp3_len h | exact sp4_len h | exact sp5_len h | (obtain ⟨rfl, _⟩ := h; rfl) | (obtain ⟨_, rfl, _⟩ := h; rfl) | (obtain ⟨_, _, rfl, _⟩ := h; rfl) | (obtain ⟨_, _, _, rfl, _⟩ := h; rfl) | (obtain ⟨_, _, _, _, rfl, _⟩ := h; rfl) | (obtain ⟨_, _, _, _, _, rfl, _⟩ := h; rfl) | (obtain ⟨_, _, _, _, _, _, rfl, _⟩ := h; rfl) | (obtain ⟨_, _, _, _, _, _, _, rfl, _⟩ := h; rfl) | (obtain ⟨_, _, _, _, _, _, _, _, rfl, _⟩ := h; rfl) | (obtain ⟨_, _, _, _, _, _, _, _, _, rfl, _⟩ := h; rfl) | (obtain ⟨_, _, _, _, _, _, _, _, _, _, rfl, _⟩ := h; rfl) | (obtain ⟨_, _, _, _, _, _, _, _, _, _, _, rfl, _⟩ := h; rfl) | (obtain ⟨_, _, _, _, _, _, _, _, _, _, _, _, rfl, _⟩ := h; rfl) | (obtain ⟨_, _, _, _, _, _, _, _, _, _, _, _, _, rfl, _⟩ := h; rfl)

theorem len__law_plus {vs : List V} {H : Hp} {Q : VK} {E : XK} (h : sp__law_plus vs H Q E) : vs.length = 2 := by
  first | exact sp1_len h | exact sp2_len h | exact sp3_len h | exact sp4_len h | exact sp5_len h | (obtain ⟨rfl, _⟩ := h; rfl) | (obtain ⟨_, rfl, _⟩ := h; rfl) | (obtain ⟨_, _, rfl, _⟩ := h; rfl) | (obtain ⟨_, _, _, rfl, _⟩ := h; rfl) | (obtain ⟨_, _, _, _, rfl, _⟩ := h; rfl) | (obtain ⟨_, _, _, _, _, rfl, _⟩ := h; rfl) | (obtain ⟨_, _, _, _, _, _, rfl, _⟩ := h; rfl) | (obtain ⟨_, _, _, _, _, _, _, rfl, _⟩ := h; rfl) | (obtain ⟨_, _, _, _, _, _, _, _, rfl, _⟩ := h; rfl) | (obtain ⟨_, _, _, _, _, _, _, _, _, rfl, _⟩ := h; rfl) | (obtain ⟨_, _, _, _, _, _, _, _, _, _, rfl, _⟩ := h; rfl) | (obtain ⟨_, _, _, _, _, _, _, _, _, _, _, rfl, _⟩ := h; rfl) | (obtain ⟨_, _, _, _, _, _, _, _, _, _, _, _, rfl, _⟩ := h; rfl) | (obtain ⟨_, _, _, _, _, _, _, _, _, _, _, _, _, rfl, _⟩ := h; rfl)

theorem len__law_after {vs : List V} {H : Hp} {Q : VK} {E : XK} (h : sp__law_after vs H Q E) : vs.length = 3 := by
  first | exact sp1_len h | exact sp2_len h | exact sp3_len h | exact sp4_len h | exact sp5_len h | (obtain ⟨rfl, _⟩ := h; rfl) | (obtain ⟨_, rfl, _⟩ := h; rfl) | (obtain ⟨_, _, rfl, _⟩ := h; rfl) | (obtain ⟨_, _, _, rfl, _⟩ := h; rfl) | (obtain ⟨_, _, _, _, rfl, _⟩ := h; rfl) | (obtain ⟨_, _, _, _, _, rfl, _⟩ := h; rfl) | (obtain ⟨_, _, _, _, _, _, rfl, _⟩ := h; rfl) | (obtain ⟨_, _, _, _, _, _, _, rfl, _⟩ := h; rfl) | (obtain ⟨_, _, _, _, _, _, _, _, rfl, _⟩ := h; rfl) | (obtain ⟨_, _, _, _, _, _, _, _, _, rfl, _⟩ := h; rfl) | (obtain ⟨_, _, _, _, _, _, _, _, _, _, rfl, _⟩ := h; rfl) | (obtain ⟨_, _, _, _, _, _, _, _, _, _, _, rfl, _⟩ := h; rfl) | (obtain ⟨_, _, _, _, _, _, _, _, _, _, _, _, rfl, _⟩ := h; rfl) | (obtain ⟨_, _, _, _, _, _, _, _, _, _, _, _, _, rfl, _⟩ := h; rfl)

theorem len__law_run_end {vs : List V} {H : Hp} {Q : VK} {E : XK} (h : sp__law_run_end vs H Q E) : vs.length = 3 := by
  first | exact sp1_len h | exact sp2_len h | exact sp3_len h | exact sp4_len h | exact sp5_len h | (obtain ⟨rfl, _⟩ := h; rfl) | (obtain ⟨_, rfl, _⟩ := h; rfl) | (obtain ⟨_, _, rfl, _⟩ := h; rfl) | (obtain ⟨_, _, _, rfl, _⟩ := h; rfl) | (obtain ⟨_, _, _, _, rfl, _⟩ := h; rfl) | (obtain ⟨_, _, _, _, _, rfl, _⟩ := h; rfl) | (obtain ⟨_, _, _, _, _, _, rfl, _⟩ := h; rfl) | (obtain ⟨_, _, _, _, _, _, _, rfl, _⟩ := h; rfl) | (obtain ⟨_, _, _, _, _, _, _, _, rfl, _⟩ := h; rfl) | (obtain ⟨_, _, _, _, _, _, _, _, _, rfl, _⟩ := h; rfl) | (obtain ⟨_, _, _, _, _, _, _, _, _, _, rfl, _⟩ := h; rfl) | (obtain ⟨_, _, _, _, _, _, _, _, _, _, _, rfl, _⟩ := h; rfl) | (obtain ⟨_, _, _, _, _, _, _, _, _, _, _, _, rfl, _⟩ := h; rfl) | (obtain ⟨_, _, _, _, _, _, _, _, _, _, _, _, _, rfl, _⟩ := h; rfl)

theorem len__law_inside {vs : List V} {H : Hp} {Q : VK} {E : XK} (h : sp__law_inside vs H Q E) : vs.length = 2 := by
  first | exact sp1_len h | exact sp2_len h | exact sp3_len h | exact sp4_len h | exact sp5_len h | (obtain ⟨rfl, _⟩ := h; rfl) | (obtain ⟨_, rfl, _⟩ := h; rfl) | (obtain ⟨_, _, rfl, _⟩ := h; rfl) | (obtain ⟨_, _, _, rfl, _⟩ := h; rfl) | (obtain ⟨_, _, _, _, rfl, _⟩ := h; rfl) | (obtain ⟨_, _, _, _, _, rfl, _⟩ := h; rfl) | (obtain ⟨_, _, _, _, _, _, rfl, _⟩ := h; rfl) | (obtain ⟨_, _, _, _, _, _, _, rfl, _⟩ := h; rfl) | (obtain ⟨_, _, _, _, _, _, _, _, rfl, _⟩ := h; rfl) | (obtain ⟨_, _, _, _, _, _, _, _, _, rfl, _⟩ := h; rfl) | (obtain ⟨_, _, _, _, _, _, _, _, _, _, rfl, _⟩ := h; rfl) | (obtain ⟨_, _, _, _, _, _, _, _, _, _, _, rfl, _⟩ := h; rfl) | (obtain ⟨_, _, _, _, _, _, _, _, _, _, _, _, rfl, _⟩ := h; rfl) | (obtain ⟨_, _, _, _, _, _, _, _, _, _, _, _, _, rfl, _⟩ := h; rfl)

theorem len__law_ring_right {vs : List V} {H : Hp} {Q : VK} {E : XK} (h : sp__law_ring_right vs H Q E) : vs.length = 1 := by
  first | exact sp1_len h | exact sp2_len h | exact sp3_len h | exact sp4_len h | exact sp5_len h | (obtain ⟨rfl, _⟩ := h; rfl) | (obtain ⟨_, rfl, _⟩ := h; rfl) | (obtain ⟨_, _, rfl, _⟩ := h; rfl) | (obtain ⟨_, _, _, rfl, _⟩ := h; rfl) | (obtain ⟨_, _, _, _, rfl, _⟩ := h; rfl) | (obtain ⟨_, _, _, _, _, rfl, _⟩ := h; rfl) | (obtain ⟨_, _, _, _, _, _, rfl, _⟩ := h; rfl) | (obtain ⟨_, _, _, _, _, _, _, rfl, _⟩ := h; rfl) | (obtain ⟨_, _, _, _, _, _, _, _, rfl, _⟩ := h; rfl) | (obtain ⟨_, _, _, _, _, _, _, _, _, rfl, _⟩ := h; rfl) | (obtain ⟨_, _, _, _, _, _, _, _, _, _, rfl, _⟩ := h; rfl) | (obtain ⟨_, _, _, _, _, _, _, _, _, _, _, rfl, _⟩ := h; rfl) | (obtain ⟨_, _, _, _, _, _, _, _, _, _, _, _, rfl, _⟩ := h; rfl) | (obtain ⟨_, _, _, _, _, _, _, _, _, _, _, _, _, rfl, _⟩ := h; rfl)

theorem len__law_deed {vs : List V} {H : Hp} {Q : VK} {E : XK} (h : sp__law_deed vs H Q E) : vs.length = 3 := by
  first | exact sp1_len h | exact sp2_len h | exact sp3_len h | exact sp4_len h | exact sp5_len h | (obtain ⟨rfl, _⟩ := h; rfl) | (obtain ⟨_, rfl, _⟩ := h; rfl) | (obtain ⟨_, _, rfl, _⟩ := h; rfl) | (obtain ⟨_, _, _, rfl, _⟩ := h; rfl) | (obtain ⟨_, _, _, _, rfl, _⟩ := h; rfl) | (obtain ⟨_, _, _, _, _, rfl, _⟩ := h; rfl) | (obtain ⟨_, _, _, _, _, _, rfl, _⟩ := h; rfl) | (obtain ⟨_, _, _, _, _, _, _, rfl, _⟩ := h; rfl) | (obtain ⟨_, _, _, _, _, _, _, _, rfl, _⟩ := h; rfl) | (obtain ⟨_, _, _, _, _, _, _, _, _, rfl, _⟩ := h; rfl) | (obtain ⟨_, _, _, _, _, _, _, _, _, _, rfl, _⟩ := h; rfl) | (obtain ⟨_, _, _, _, _, _, _, _, _, _, _, rfl, _⟩ := h; rfl) | (obtain ⟨_, _, _, _, _, _, _, _, _, _, _, _, rfl, _⟩ := h; rfl) | (obtain ⟨_, _, _, _, _, _, _, _, _, _, _, _, _, rfl, _⟩ := h; rfl)

theorem len__law_rule {vs : List V} {H : Hp} {Q : VK} {E : XK} (h : sp__law_rule vs H Q E) : vs.length = 3 := by
  first | exact sp1_len h | exact sp2_len h | exact sp3_len h | exact sp4_len h | exact sp5_len h | (obtain ⟨rfl, _⟩ := h; rfl) | (obtain ⟨_, rfl, _⟩ := h; rfl) | (obtain ⟨_, _, rfl, _⟩ := h; rfl) | (obtain ⟨_, _, _, rfl, _⟩ := h; rfl) | (obtain ⟨_, _, _, _, rfl, _⟩ := h; rfl) | (obtain ⟨_, _, _, _, _, rfl, _⟩ := h; rfl) | (obtain ⟨_, _, _, _, _, _, rfl, _⟩ := h; rfl) | (obtain ⟨_, _, _, _, _, _, _, rfl, _⟩ := h; rfl) | (obtain ⟨_, _, _, _, _, _, _, _, rfl, _⟩ := h; rfl) | (obtain ⟨_, _, _, _, _, _, _, _, _, rfl, _⟩ := h; rfl) | (obtain ⟨_, _, _, _, _, _, _, _, _, _, rfl, _⟩ := h; rfl) | (obtain ⟨_, _, _, _, _, _, _, _, _, _, _, rfl, _⟩ := h; rfl) | (obtain ⟨_, _, _, _, _, _, _, _, _, _, _, _, rfl, _⟩ := h; rfl) | (obtain ⟨_, _, _, _, _, _, _, _, _, _, _, _, _, rfl, _⟩ := h; rfl)

theorem len__law_heap_task {vs : List V} {H : Hp} {Q : VK} {E : XK} (h : sp__law_heap_task vs H Q E) : vs.length = 2 := by
  first | exact sp1_len h | exact sp2_len h | exact sp3_len h | exact sp4_len h | exact sp5_len h | (obtain ⟨rfl, _⟩ := h; rfl) | (obtain ⟨_, rfl, _⟩ := h; rfl) | (obtain ⟨_, _, rfl, _⟩ := h; rfl) | (obtain ⟨_, _, _, rfl, _⟩ := h; rfl) | (obtain ⟨_, _, _, _, rfl, _⟩ := h; rfl) | (obtain ⟨_, _, _, _, _, rfl, _⟩ := h; rfl) | (obtain ⟨_, _, _, _, _, _, rfl, _⟩ := h; rfl) | (obtain ⟨_, _, _, _, _, _, _, rfl, _⟩ := h; rfl) | (obtain ⟨_, _, _, _, _, _, _, _, rfl, _⟩ := h; rfl) | (obtain ⟨_, _, _, _, _, _, _, _, _, rfl, _⟩ := h; rfl) | (obtain ⟨_, _, _, _, _, _, _, _, _, _, rfl, _⟩ := h; rfl) | (obtain ⟨_, _, _, _, _, _, _, _, _, _, _, rfl, _⟩ := h; rfl) | (obtain ⟨_, _, _, _, _, _, _, _, _, _, _, _, rfl, _⟩ := h; rfl) | (obtain ⟨_, _, _, _, _, _, _, _, _, _, _, _, _, rfl, _⟩ := h; rfl)

theorem len__law_group_task {vs : List V} {H : Hp} {Q : VK} {E : XK} (h : sp__law_group_task vs H Q E) : vs.length = 2 := by
  first | exact sp1_len h | exact sp2_len h | exact sp3_len h | exact sp4_len h | exact sp5_len h | (obtain ⟨rfl, _⟩ := h; rfl) | (obtain ⟨_, rfl, _⟩ := h; rfl) | (obtain ⟨_, _, rfl, _⟩ := h; rfl) | (obtain ⟨_, _, _, rfl, _⟩ := h; rfl) | (obtain ⟨_, _, _, _, rfl, _⟩ := h; rfl) | (obtain ⟨_, _, _, _, _, rfl, _⟩ := h; rfl) | (obtain ⟨_, _, _, _, _, _, rfl, _⟩ := h; rfl) | (obtain ⟨_, _, _, _, _, _, _, rfl, _⟩ := h; rfl) | (obtain ⟨_, _, _, _, _, _, _, _, rfl, _⟩ := h; rfl) | (obtain ⟨_, _, _, _, _, _, _, _, _, rfl, _⟩ := h; rfl) | (obtain ⟨_, _, _, _, _, _, _, _, _, _, rfl, _⟩ := h; rfl) | (obtain ⟨_, _, _, _, _, _, _, _, _, _, _, rfl, _⟩ := h; rfl) | (obtain ⟨_, _, _, _, _, _, _, _, _, _, _, _, rfl, _⟩ := h; rfl) | (obtain ⟨_, _, _, _, _, _, _, _, _, _, _, _, _, rfl, _⟩ := h; rfl)

theorem len__law_chain_task {vs : List V} {H : Hp} {Q : VK} {E : XK} (h : sp__law_chain_task vs H Q E) : vs.length = 2 := by
  first | exact sp1_len h | exact sp2_len h | exact sp3_len h | exact sp4_len h | exact sp5_len h | (obtain ⟨rfl, _⟩ := h; rfl) | (obtain ⟨_, rfl, _⟩ := h; rfl) | (obtain ⟨_, _, rfl, _⟩ := h; rfl) | (obtain ⟨_, _, _, rfl, _⟩ := h; rfl) | (obtain ⟨_, _, _, _, rfl, _⟩ := h; rfl) | (obtain ⟨_, _, _, _, _, rfl, _⟩ := h; rfl) | (obtain ⟨_, _, _, _, _, _, rfl, _⟩ := h; rfl) | (obtain ⟨_, _, _, _, _, _, _, rfl, _⟩ := h; rfl) | (obtain ⟨_, _, _, _, _, _, _, _, rfl, _⟩ := h; rfl) | (obtain ⟨_, _, _, _, _, _, _, _, _, rfl, _⟩ := h; rfl) | (obtain ⟨_, _, _, _, _, _, _, _, _, _, rfl, _⟩ := h; rfl) | (obtain ⟨_, _, _, _, _, _, _, _, _, _, _, rfl, _⟩ := h; rfl) | (obtain ⟨_, _, _, _, _, _, _, _, _, _, _, _, rfl, _⟩ := h; rfl) | (obtain ⟨_, _, _, _, _, _, _, _, _, _, _, _, _, rfl, _⟩ := h; rfl)

theorem len__law_random_task {vs : List V} {H : Hp} {Q : VK} {E : XK} (h : sp__law_random_task vs H Q E) : vs.length = 1 := by
  first | exact sp1_len h | exact sp2_len h | exact sp3_len h | exact sp4_len h | exact sp5_len h | (obtain ⟨rfl, _⟩ := h; rfl) | (obtain ⟨_, rfl, _⟩ := h; rfl) | (obtain ⟨_, _, rfl, _⟩ := h; rfl) | (obtain ⟨_, _, _, rfl, _⟩ := h; rfl) | (obtain ⟨_, _, _, _, rfl, _⟩ := h; rfl) | (obtain ⟨_, _, _, _, _, rfl, _⟩ := h; rfl) | (obtain ⟨_, _, _, _, _, _, rfl, _⟩ := h; rfl) | (obtain ⟨_, _, _, _, _, _, _, rfl, _⟩ := h; rfl) | (obtain ⟨_, _, _, _, _, _, _, _, rfl, _⟩ := h; rfl) | (obtain ⟨_, _, _, _, _, _, _, _, _, rfl, _⟩ := h; rfl) | (obtain ⟨_, _, _, _, _, _, _, _, _, _, rfl, _⟩ := h; rfl) | (obtain ⟨_, _, _, _, _, _, _, _, _, _, _, rfl, _⟩ := h; rfl) | (obtain ⟨_, _, _, _, _, _, _, _, _, _, _, _, rfl, _⟩ := h; rfl) | (obtain ⟨_, _, _, _, _, _, _, _, _, _, _, _, _, rfl, _⟩ := h; rfl)

theorem len__law_to_and_fro_task {vs : List V} {H : Hp} {Q : VK} {E : XK} (h : sp__law_to_and_fro_task vs H Q E) : vs.length = 1 := by
  first | exact sp1_len h | exact sp2_len h | exact sp3_len h | exact sp4_len h | exact sp5_len h | (obtain ⟨rfl, _⟩ := h; rfl) | (obtain ⟨_, rfl, _⟩ := h; rfl) | (obtain ⟨_, _, rfl, _⟩ := h; rfl) | (obtain ⟨_, _, _, rfl, _⟩ := h; rfl) | (obtain ⟨_, _, _, _, rfl, _⟩ := h; rfl) | (obtain ⟨_, _, _, _, _, rfl, _⟩ := h; rfl) | (obtain ⟨_, _, _, _, _, _, rfl, _⟩ := h; rfl) | (obtain ⟨_, _, _, _, _, _, _, rfl, _⟩ := h; rfl) | (obtain ⟨_, _, _, _, _, _, _, _, rfl, _⟩ := h; rfl) | (obtain ⟨_, _, _, _, _, _, _, _, _, rfl, _⟩ := h; rfl) | (obtain ⟨_, _, _, _, _, _, _, _, _, _, rfl, _⟩ := h; rfl) | (obtain ⟨_, _, _, _, _, _, _, _, _, _, _, rfl, _⟩ := h; rfl) | (obtain ⟨_, _, _, _, _, _, _, _, _, _, _, _, rfl, _⟩ := h; rfl) | (obtain ⟨_, _, _, _, _, _, _, _, _, _, _, _, _, rfl, _⟩ := h; rfl)

theorem len__law_turned {vs : List V} {H : Hp} {Q : VK} {E : XK} (h : sp__law_turned vs H Q E) : vs.length = 2 := by
  first | exact sp1_len h | exact sp2_len h | exact sp3_len h | exact sp4_len h | exact sp5_len h | (obtain ⟨rfl, _⟩ := h; rfl) | (obtain ⟨_, rfl, _⟩ := h; rfl) | (obtain ⟨_, _, rfl, _⟩ := h; rfl) | (obtain ⟨_, _, _, rfl, _⟩ := h; rfl) | (obtain ⟨_, _, _, _, rfl, _⟩ := h; rfl) | (obtain ⟨_, _, _, _, _, rfl, _⟩ := h; rfl) | (obtain ⟨_, _, _, _, _, _, rfl, _⟩ := h; rfl) | (obtain ⟨_, _, _, _, _, _, _, rfl, _⟩ := h; rfl) | (obtain ⟨_, _, _, _, _, _, _, _, rfl, _⟩ := h; rfl) | (obtain ⟨_, _, _, _, _, _, _, _, _, rfl, _⟩ := h; rfl) | (obtain ⟨_, _, _, _, _, _, _, _, _, _, rfl, _⟩ := h; rfl) | (obtain ⟨_, _, _, _, _, _, _, _, _, _, _, rfl, _⟩ := h; rfl) | (obtain ⟨_, _, _, _, _, _, _, _, _, _, _, _, rfl, _⟩ := h; rfl) | (obtain ⟨_, _, _, _, _, _, _, _, _, _, _, _, _, rfl, _⟩ := h; rfl)

theorem len__law_turned_rule {vs : List V} {H : Hp} {Q : VK} {E : XK} (h : sp__law_turned_rule vs H Q E) : vs.length = 3 := by
  first | exact sp1_len h | exact sp2_len h | exact sp3_len h | exact sp4_len h | exact sp5_len h | (obtain ⟨rfl, _⟩ := h; rfl) | (obtain ⟨_, rfl, _⟩ := h; rfl) | (obtain ⟨_, _, rfl, _⟩ := h; rfl) | (obtain ⟨_, _, _, rfl, _⟩ := h; rfl) | (obtain ⟨_, _, _, _, rfl, _⟩ := h; rfl) | (obtain ⟨_, _, _, _, _, rfl, _⟩ := h; rfl) | (obtain ⟨_, _, _, _, _, _, rfl, _⟩ := h; rfl) | (obtain ⟨_, _, _, _, _, _, _, rfl, _⟩ := h; rfl) | (obtain ⟨_, _, _, _, _, _, _, _, rfl, _⟩ := h; rfl) | (obtain ⟨_, _, _, _, _, _, _, _, _, rfl, _⟩ := h; rfl) | (obtain ⟨_, _, _, _, _, _, _, _, _, _, rfl, _⟩ := h; rfl) | (obtain ⟨_, _, _, _, _, _, _, _, _, _, _, rfl, _⟩ := h; rfl) | (obtain ⟨_, _, _, _, _, _, _, _, _, _, _, _, rfl, _⟩ := h; rfl) | (obtain ⟨_, _, _, _, _, _, _, _, _, _, _, _, _, rfl, _⟩ := h; rfl)

theorem len__law_mixed_rule {vs : List V} {H : Hp} {Q : VK} {E : XK} (h : sp__law_mixed_rule vs H Q E) : vs.length = 2 := by
  first | exact sp1_len h | exact sp2_len h | exact sp3_len h | exact sp4_len h | exact sp5_len h | (obtain ⟨rfl, _⟩ := h; rfl) | (obtain ⟨_, rfl, _⟩ := h; rfl) | (obtain ⟨_, _, rfl, _⟩ := h; rfl) | (obtain ⟨_, _, _, rfl, _⟩ := h; rfl) | (obtain ⟨_, _, _, _, rfl, _⟩ := h; rfl) | (obtain ⟨_, _, _, _, _, rfl, _⟩ := h; rfl) | (obtain ⟨_, _, _, _, _, _, rfl, _⟩ := h; rfl) | (obtain ⟨_, _, _, _, _, _, _, rfl, _⟩ := h; rfl) | (obtain ⟨_, _, _, _, _, _, _, _, rfl, _⟩ := h; rfl) | (obtain ⟨_, _, _, _, _, _, _, _, _, rfl, _⟩ := h; rfl) | (obtain ⟨_, _, _, _, _, _, _, _, _, _, rfl, _⟩ := h; rfl) | (obtain ⟨_, _, _, _, _, _, _, _, _, _, _, rfl, _⟩ := h; rfl) | (obtain ⟨_, _, _, _, _, _, _, _, _, _, _, _, rfl, _⟩ := h; rfl) | (obtain ⟨_, _, _, _, _, _, _, _, _, _, _, _, _, rfl, _⟩ := h; rfl)

theorem len__law_reversed_rule {vs : List V} {H : Hp} {Q : VK} {E : XK} (h : sp__law_reversed_rule vs H Q E) : vs.length = 1 := by
  first | exact sp1_len h | exact sp2_len h | exact sp3_len h | exact sp4_len h | exact sp5_len h | (obtain ⟨rfl, _⟩ := h; rfl) | (obtain ⟨_, rfl, _⟩ := h; rfl) | (obtain ⟨_, _, rfl, _⟩ := h; rfl) | (obtain ⟨_, _, _, rfl, _⟩ := h; rfl) | (obtain ⟨_, _, _, _, rfl, _⟩ := h; rfl) | (obtain ⟨_, _, _, _, _, rfl, _⟩ := h; rfl) | (obtain ⟨_, _, _, _, _, _, rfl, _⟩ := h; rfl) | (obtain ⟨_, _, _, _, _, _, _, rfl, _⟩ := h; rfl) | (obtain ⟨_, _, _, _, _, _, _, _, rfl, _⟩ := h; rfl) | (obtain ⟨_, _, _, _, _, _, _, _, _, rfl, _⟩ := h; rfl) | (obtain ⟨_, _, _, _, _, _, _, _, _, _, rfl, _⟩ := h; rfl) | (obtain ⟨_, _, _, _, _, _, _, _, _, _, _, rfl, _⟩ := h; rfl) | (obtain ⟨_, _, _, _, _, _, _, _, _, _, _, _, rfl, _⟩ := h; rfl) | (obtain ⟨_, _, _, _, _, _, _, _, _, _, _, _, _, rfl, _⟩ := h; rfl)

theorem len__law_reversed {vs : List V} {H : Hp} {Q : VK} {E : XK} (h : sp__law_reversed vs H Q E) : vs.length = 1 := by
  first | exact sp1_len h | exact sp2_len h | exact sp3_len h | exact sp4_len h | exact sp5_len h | (obtain ⟨rfl, _⟩ := h; rfl) | (obtain ⟨_, rfl, _⟩ := h; rfl) | (obtain ⟨_, _, rfl, _⟩ := h; rfl) | (obtain ⟨_, _, _, rfl, _⟩ := h; rfl) | (obtain ⟨_, _, _, _, rfl, _⟩ := h; rfl) | (obtain ⟨_, _, _, _, _, rfl, _⟩ := h; rfl) | (obtain ⟨_, _, _, _, _, _, rfl, _⟩ := h; rfl) | (obtain ⟨_, _, _, _, _, _, _, rfl, _⟩ := h; rfl) | (obtain ⟨_, _, _, _, _, _, _, _, rfl, _⟩ := h; rfl) | (obtain ⟨_, _, _, _, _, _, _, _, _, rfl, _⟩ := h; rfl) | (obtain ⟨_, _, _, _, _, _, _, _, _, _, rfl, _⟩ := h; rfl) | (obtain ⟨_, _, _, _, _, _, _, _, _, _, _, rfl, _⟩ := h; rfl) | (obtain ⟨_, _, _, _, _, _, _, _, _, _, _, _, rfl, _⟩ := h; rfl) | (obtain ⟨_, _, _, _, _, _, _, _, _, _, _, _, _, rfl, _⟩ := h; rfl)

theorem len__law_mixed_task {vs : List V} {H : Hp} {Q : VK} {E : XK} (h : sp__law_mixed_task vs H Q E) : vs.length = 2 := by
  first | exact sp1_len h | exact sp2_len h | exact sp3_len h | exact sp4_len h | exact sp5_len h | (obtain ⟨rfl, _⟩ := h; rfl) | (obtain ⟨_, rfl, _⟩ := h; rfl) | (obtain ⟨_, _, rfl, _⟩ := h; rfl) | (obtain ⟨_, _, _, rfl, _⟩ := h; rfl) | (obtain ⟨_, _, _, _, rfl, _⟩ := h; rfl) | (obtain ⟨_, _, _, _, _, rfl, _⟩ := h; rfl) | (obtain ⟨_, _, _, _, _, _, rfl, _⟩ := h; rfl) | (obtain ⟨_, _, _, _, _, _, _, rfl, _⟩ := h; rfl) | (obtain ⟨_, _, _, _, _, _, _, _, rfl, _⟩ := h; rfl) | (obtain ⟨_, _, _, _, _, _, _, _, _, rfl, _⟩ := h; rfl) | (obtain ⟨_, _, _, _, _, _, _, _, _, _, rfl, _⟩ := h; rfl) | (obtain ⟨_, _, _, _, _, _, _, _, _, _, _, rfl, _⟩ := h; rfl) | (obtain ⟨_, _, _, _, _, _, _, _, _, _, _, _, rfl, _⟩ := h; rfl) | (obtain ⟨_, _, _, _, _, _, _, _, _, _, _, _, _, rfl, _⟩ := h; rfl)

theorem len__law_task {vs : List V} {H : Hp} {Q : VK} {E : XK} (h : sp__law_task vs H Q E) : vs.length = 1 := by
  first | exact sp1_len h | exact sp2_len h | exact sp3_len h | exact sp4_len h | exact sp5_len h | (obtain ⟨rfl, _⟩ := h; rfl) | (obtain ⟨_, rfl, _⟩ := h; rfl) | (obtain ⟨_, _, rfl, _⟩ := h; rfl) | (obtain ⟨_, _, _, rfl, _⟩ := h; rfl) | (obtain ⟨_, _, _, _, rfl, _⟩ := h; rfl) | (obtain ⟨_, _, _, _, _, rfl, _⟩ := h; rfl) | (obtain ⟨_, _, _, _, _, _, rfl, _⟩ := h; rfl) | (obtain ⟨_, _, _, _, _, _, _, rfl, _⟩ := h; rfl) | (obtain ⟨_, _, _, _, _, _, _, _, rfl, _⟩ := h; rfl) | (obtain ⟨_, _, _, _, _, _, _, _, _, rfl, _⟩ := h; rfl) | (obtain ⟨_, _, _, _, _, _, _, _, _, _, rfl, _⟩ := h; rfl) | (obtain ⟨_, _, _, _, _, _, _, _, _, _, _, rfl, _⟩ := h; rfl) | (obtain ⟨_, _, _, _, _, _, _, _, _, _, _, _, rfl, _⟩ := h; rfl) | (obtain ⟨_, _, _, _, _, _, _, _, _, _, _, _, _, rfl, _⟩ := h; rfl)

theorem len__law_world {vs : List V} {H : Hp} {Q : VK} {E : XK} (h : sp__law_world vs H Q E) : vs.length = 1 := by
  first | exact sp1_len h | exact sp2_len h | exact sp3_len h | exact sp4_len h | exact sp5_len h | (obtain ⟨rfl, _⟩ := h; rfl) | (obtain ⟨_, rfl, _⟩ := h; rfl) | (obtain ⟨_, _, rfl, _⟩ := h; rfl) | (obtain ⟨_, _, _, rfl, _⟩ := h; rfl) | (obtain ⟨_, _, _, _, rfl, _⟩ := h; rfl) | (obtain ⟨_, _, _, _, _, rfl, _⟩ := h; rfl) | (obtain ⟨_, _, _, _, _, _, rfl, _⟩ := h; rfl) | (obtain ⟨_, _, _, _, _, _, _, rfl, _⟩ := h; rfl) | (obtain ⟨_, _, _, _, _, _, _, _, rfl, _⟩ := h; rfl) | (obtain ⟨_, _, _, _, _, _, _, _, _, rfl, _⟩ := h; rfl) | (obtain ⟨_, _, _, _, _, _, _, _, _, _, rfl, _⟩ := h; rfl) | (obtain ⟨_, _, _, _, _, _, _, _, _, _, _, rfl, _⟩ := h; rfl) | (obtain ⟨_, _, _, _, _, _, _, _, _, _, _, _, rfl, _⟩ := h; rfl) | (obtain ⟨_, _, _, _, _, _, _, _, _, _, _, _, _, rfl, _⟩ := h; rfl)

theorem len__law_top {vs : List V} {H : Hp} {Q : VK} {E : XK} (h : sp__law_top vs H Q E) : vs.length = 3 := by
  first | exact sp1_len h | exact sp2_len h | exact sp3_len h | exact sp4_len h | exact sp5_len h | (obtain ⟨rfl, _⟩ := h; rfl) | (obtain ⟨_, rfl, _⟩ := h; rfl) | (obtain ⟨_, _, rfl, _⟩ := h; rfl) | (obtain ⟨_, _, _, rfl, _⟩ := h; rfl) | (obtain ⟨_, _, _, _, rfl, _⟩ := h; rfl) | (obtain ⟨_, _, _, _, _, rfl, _⟩ := h; rfl) | (obtain ⟨_, _, _, _, _, _, rfl, _⟩ := h; rfl) | (obtain ⟨_, _, _, _, _, _, _, rfl, _⟩ := h; rfl) | (obtain ⟨_, _, _, _, _, _, _, _, rfl, _⟩ := h; rfl) | (obtain ⟨_, _, _, _, _, _, _, _, _, rfl, _⟩ := h; rfl) | (obtain ⟨_, _, _, _, _, _, _, _, _, _, rfl, _⟩ := h; rfl) | (obtain ⟨_, _, _, _, _, _, _, _, _, _, _, rfl, _⟩ := h; rfl) | (obtain ⟨_, _, _, _, _, _, _, _, _, _, _, _, rfl, _⟩ := h; rfl) | (obtain ⟨_, _, _, _, _, _, _, _, _, _, _, _, _, rfl, _⟩ := h; rfl)

theorem len__law_reach {vs : List V} {H : Hp} {Q : VK} {E : XK} (h : sp__law_reach vs H Q E) : vs.length = 3 := by
  first | exact sp1_len h | exact sp2_len h | exact sp3_len h | exact sp4_len h | exact sp5_len h | (obtain ⟨rfl, _⟩ := h; rfl) | (obtain ⟨_, rfl, _⟩ := h; rfl) | (obtain ⟨_, _, rfl, _⟩ := h; rfl) | (obtain ⟨_, _, _, rfl, _⟩ := h; rfl) | (obtain ⟨_, _, _, _, rfl, _⟩ := h; rfl) | (obtain ⟨_, _, _, _, _, rfl, _⟩ := h; rfl) | (obtain ⟨_, _, _, _, _, _, rfl, _⟩ := h; rfl) | (obtain ⟨_, _, _, _, _, _, _, rfl, _⟩ := h; rfl) | (obtain ⟨_, _, _, _, _, _, _, _, rfl, _⟩ := h; rfl) | (obtain ⟨_, _, _, _, _, _, _, _, _, rfl, _⟩ := h; rfl) | (obtain ⟨_, _, _, _, _, _, _, _, _, _, rfl, _⟩ := h; rfl) | (obtain ⟨_, _, _, _, _, _, _, _, _, _, _, rfl, _⟩ := h; rfl) | (obtain ⟨_, _, _, _, _, _, _, _, _, _, _, _, rfl, _⟩ := h; rfl) | (obtain ⟨_, _, _, _, _, _, _, _, _, _, _, _, _, rfl, _⟩ := h; rfl)

theorem len__law_most_right {vs : List V} {H : Hp} {Q : VK} {E : XK} (h : sp__law_most_right vs H Q E) : vs.length = 5 := by
  first | exact sp1_len h | exact sp2_len h | exact sp3_len h | exact sp4_len h | exact sp5_len h | (obtain ⟨rfl, _⟩ := h; rfl) | (obtain ⟨_, rfl, _⟩ := h; rfl) | (obtain ⟨_, _, rfl, _⟩ := h; rfl) | (obtain ⟨_, _, _, rfl, _⟩ := h; rfl) | (obtain ⟨_, _, _, _, rfl, _⟩ := h; rfl) | (obtain ⟨_, _, _, _, _, rfl, _⟩ := h; rfl) | (obtain ⟨_, _, _, _, _, _, rfl, _⟩ := h; rfl) | (obtain ⟨_, _, _, _, _, _, _, rfl, _⟩ := h; rfl) | (obtain ⟨_, _, _, _, _, _, _, _, rfl, _⟩ := h; rfl) | (obtain ⟨_, _, _, _, _, _, _, _, _, rfl, _⟩ := h; rfl) | (obtain ⟨_, _, _, _, _, _, _, _, _, _, rfl, _⟩ := h; rfl) | (obtain ⟨_, _, _, _, _, _, _, _, _, _, _, rfl, _⟩ := h; rfl) | (obtain ⟨_, _, _, _, _, _, _, _, _, _, _, _, rfl, _⟩ := h; rfl) | (obtain ⟨_, _, _, _, _, _, _, _, _, _, _, _, _, rfl, _⟩ := h; rfl)

theorem len__law_links {vs : List V} {H : Hp} {Q : VK} {E : XK} (h : sp__law_links vs H Q E) : vs.length = 2 := by
  first | exact sp1_len h | exact sp2_len h | exact sp3_len h | exact sp4_len h | exact sp5_len h | (obtain ⟨rfl, _⟩ := h; rfl) | (obtain ⟨_, rfl, _⟩ := h; rfl) | (obtain ⟨_, _, rfl, _⟩ := h; rfl) | (obtain ⟨_, _, _, rfl, _⟩ := h; rfl) | (obtain ⟨_, _, _, _, rfl, _⟩ := h; rfl) | (obtain ⟨_, _, _, _, _, rfl, _⟩ := h; rfl) | (obtain ⟨_, _, _, _, _, _, rfl, _⟩ := h; rfl) | (obtain ⟨_, _, _, _, _, _, _, rfl, _⟩ := h; rfl) | (obtain ⟨_, _, _, _, _, _, _, _, rfl, _⟩ := h; rfl) | (obtain ⟨_, _, _, _, _, _, _, _, _, rfl, _⟩ := h; rfl) | (obtain ⟨_, _, _, _, _, _, _, _, _, _, rfl, _⟩ := h; rfl) | (obtain ⟨_, _, _, _, _, _, _, _, _, _, _, rfl, _⟩ := h; rfl) | (obtain ⟨_, _, _, _, _, _, _, _, _, _, _, _, rfl, _⟩ := h; rfl) | (obtain ⟨_, _, _, _, _, _, _, _, _, _, _, _, _, rfl, _⟩ := h; rfl)

theorem len__law_steps_to {vs : List V} {H : Hp} {Q : VK} {E : XK} (h : sp__law_steps_to vs H Q E) : vs.length = 2 := by
  first | exact sp1_len h | exact sp2_len h | exact sp3_len h | exact sp4_len h | exact sp5_len h | (obtain ⟨rfl, _⟩ := h; rfl) | (obtain ⟨_, rfl, _⟩ := h; rfl) | (obtain ⟨_, _, rfl, _⟩ := h; rfl) | (obtain ⟨_, _, _, rfl, _⟩ := h; rfl) | (obtain ⟨_, _, _, _, rfl, _⟩ := h; rfl) | (obtain ⟨_, _, _, _, _, rfl, _⟩ := h; rfl) | (obtain ⟨_, _, _, _, _, _, rfl, _⟩ := h; rfl) | (obtain ⟨_, _, _, _, _, _, _, rfl, _⟩ := h; rfl) | (obtain ⟨_, _, _, _, _, _, _, _, rfl, _⟩ := h; rfl) | (obtain ⟨_, _, _, _, _, _, _, _, _, rfl, _⟩ := h; rfl) | (obtain ⟨_, _, _, _, _, _, _, _, _, _, rfl, _⟩ := h; rfl) | (obtain ⟨_, _, _, _, _, _, _, _, _, _, _, rfl, _⟩ := h; rfl) | (obtain ⟨_, _, _, _, _, _, _, _, _, _, _, _, rfl, _⟩ := h; rfl) | (obtain ⟨_, _, _, _, _, _, _, _, _, _, _, _, _, rfl, _⟩ := h; rfl)

theorem len__law_best {vs : List V} {H : Hp} {Q : VK} {E : XK} (h : sp__law_best vs H Q E) : vs.length = 3 := by
  first | exact sp1_len h | exact sp2_len h | exact sp3_len h | exact sp4_len h | exact sp5_len h | (obtain ⟨rfl, _⟩ := h; rfl) | (obtain ⟨_, rfl, _⟩ := h; rfl) | (obtain ⟨_, _, rfl, _⟩ := h; rfl) | (obtain ⟨_, _, _, rfl, _⟩ := h; rfl) | (obtain ⟨_, _, _, _, rfl, _⟩ := h; rfl) | (obtain ⟨_, _, _, _, _, rfl, _⟩ := h; rfl) | (obtain ⟨_, _, _, _, _, _, rfl, _⟩ := h; rfl) | (obtain ⟨_, _, _, _, _, _, _, rfl, _⟩ := h; rfl) | (obtain ⟨_, _, _, _, _, _, _, _, rfl, _⟩ := h; rfl) | (obtain ⟨_, _, _, _, _, _, _, _, _, rfl, _⟩ := h; rfl) | (obtain ⟨_, _, _, _, _, _, _, _, _, _, rfl, _⟩ := h; rfl) | (obtain ⟨_, _, _, _, _, _, _, _, _, _, _, rfl, _⟩ := h; rfl) | (obtain ⟨_, _, _, _, _, _, _, _, _, _, _, _, rfl, _⟩ := h; rfl) | (obtain ⟨_, _, _, _, _, _, _, _, _, _, _, _, _, rfl, _⟩ := h; rfl)

theorem len__law_all_right {vs : List V} {H : Hp} {Q : VK} {E : XK} (h : sp__law_all_right vs H Q E) : vs.length = 5 := by
  first | exact sp1_len h | exact sp2_len h | exact sp3_len h | exact sp4_len h | exact sp5_len h | (obtain ⟨rfl, _⟩ := h; rfl) | (obtain ⟨_, rfl, _⟩ := h; rfl) | (obtain ⟨_, _, rfl, _⟩ := h; rfl) | (obtain ⟨_, _, _, rfl, _⟩ := h; rfl) | (obtain ⟨_, _, _, _, rfl, _⟩ := h; rfl) | (obtain ⟨_, _, _, _, _, rfl, _⟩ := h; rfl) | (obtain ⟨_, _, _, _, _, _, rfl, _⟩ := h; rfl) | (obtain ⟨_, _, _, _, _, _, _, rfl, _⟩ := h; rfl) | (obtain ⟨_, _, _, _, _, _, _, _, rfl, _⟩ := h; rfl) | (obtain ⟨_, _, _, _, _, _, _, _, _, rfl, _⟩ := h; rfl) | (obtain ⟨_, _, _, _, _, _, _, _, _, _, rfl, _⟩ := h; rfl) | (obtain ⟨_, _, _, _, _, _, _, _, _, _, _, rfl, _⟩ := h; rfl) | (obtain ⟨_, _, _, _, _, _, _, _, _, _, _, _, rfl, _⟩ := h; rfl) | (obtain ⟨_, _, _, _, _, _, _, _, _, _, _, _, _, rfl, _⟩ := h; rfl)

theorem len__law_far_right {vs : List V} {H : Hp} {Q : VK} {E : XK} (h : sp__law_far_right vs H Q E) : vs.length = 5 := by
  first | exact sp1_len h | exact sp2_len h | exact sp3_len h | exact sp4_len h | exact sp5_len h | (obtain ⟨rfl, _⟩ := h; rfl) | (obtain ⟨_, rfl, _⟩ := h; rfl) | (obtain ⟨_, _, rfl, _⟩ := h; rfl) | (obtain ⟨_, _, _, rfl, _⟩ := h; rfl) | (obtain ⟨_, _, _, _, rfl, _⟩ := h; rfl) | (obtain ⟨_, _, _, _, _, rfl, _⟩ := h; rfl) | (obtain ⟨_, _, _, _, _, _, rfl, _⟩ := h; rfl) | (obtain ⟨_, _, _, _, _, _, _, rfl, _⟩ := h; rfl) | (obtain ⟨_, _, _, _, _, _, _, _, rfl, _⟩ := h; rfl) | (obtain ⟨_, _, _, _, _, _, _, _, _, rfl, _⟩ := h; rfl) | (obtain ⟨_, _, _, _, _, _, _, _, _, _, rfl, _⟩ := h; rfl) | (obtain ⟨_, _, _, _, _, _, _, _, _, _, _, rfl, _⟩ := h; rfl) | (obtain ⟨_, _, _, _, _, _, _, _, _, _, _, _, rfl, _⟩ := h; rfl) | (obtain ⟨_, _, _, _, _, _, _, _, _, _, _, _, _, rfl, _⟩ := h; rfl)

theorem len_law {K : PySem.W.Frag} {vs : List V} {H : Hp} {Q : VK} {E : XK} (h : sp_law K vs H Q E) : vs.length = 1 := by
  first | exact sp1_len h | exact sp2_len h | exact sp3_len h | exact sp4_len h | exact sp5_len h | (obtain ⟨rfl, _⟩ := h; rfl) | (obtain ⟨_, rfl, _⟩ := h; rfl) | (obtain ⟨_, _, rfl, _⟩ := h; rfl) | (obtain ⟨_, _, _, rfl, _⟩ := h; rfl) | (obtain ⟨_, _, _, _, rfl, _⟩ := h; rfl) | (obtain ⟨_, _, _, _, _, rfl, _⟩ := h; rfl) | (obtain ⟨_, _, _, _, _, _, rfl, _⟩ := h; rfl) | (obtain ⟨_, _, _, _, _, _, _, rfl, _⟩ := h; rfl) | (obtain ⟨_, _, _, _, _, _, _, _, rfl, _⟩ := h; rfl) | (obtain ⟨_, _, _, _, _, _, _, _, _, rfl, _⟩ := h; rfl) | (obtain ⟨_, _, _, _, _, _, _, _, _, _, rfl, _⟩ := h; rfl) | (obtain ⟨_, _, _, _, _, _, _, _, _, _, _, rfl, _⟩ := h; rfl) | (obtain ⟨_, _, _, _, _, _, _, _, _, _, _, _, rfl, _⟩ := h; rfl) | (obtain ⟨_, _, _, _, _, _, _, _, _, _, _, _, _, rfl, _⟩ := h; rfl)

/-! ### the caught exception, asked -/
structure IsTxt (K : PySem.W.Frag) (mg : Str → Option Value) (cs : Cs) : Prop where
  g_MusterError : mg "MusterError" = some (.ref cs.me)
  gl : ∀ x ∈ isNames, mg x = some (.ref (He.ga K x))
  gT : mg "TooMany" = some (.ref cs.tm)
  gL : mg "LimitError" = some (.ref (He.ga K "LimitError"))
  ex : ExT K cs.tm
  noP : PySem.W.findIn K (.ref cs.tm) "part" = some none
  kit : PySem.W.kitAny K (.ref cs.tm) (isNames.map fun x => .ref (He.ga K x)) = some false
  kTm : PySem.W.kitOne K (.ref cs.tm) (.ref cs.tm) = some true
  kLe : PySem.W.kitOne K (.ref cs.tm) (.ref (He.ga K "LimitError")) = some true
  D : DefAt K mg "_law_is_too_many" s__law_is_too_many ["e"]
  bi : mg "isinstance" = none
def t_is (K : PySem.W.Frag) (C a d : Addr) : TS :=
  tSeq (tIfS (tB (tCB (rIsXT K C a d) (tCons (tVar 0) (tCons (tTup (tCons (tC (.ref (He.ga K "BadText"))) (tCons (tC (.ref (He.ga K "BadName"))) (tCons (tC (.ref (He.ga K "Twice"))) (tCons (tC (.ref (He.ga K "Unknown"))) (tCons (tC (.ref (He.ga K "BadSize"))) (tCons (tC (.ref (He.ga K "NotEnough"))) (tCons (tC (.ref (He.ga K "TooLarge"))) (tCons (tC (.ref (He.ga K "NoMuster"))) (tCons (tC (.ref (He.ga K "Unlike"))) tNil)))))))))) tNil)))) (tRet (tC (.bl false))) tNext)
  (tRet (tAndV (tCB (rIsX K C a d) (tCons (tVar 0) (tCons (tC (.ref C)) tNil))) (tAndV (tCB (rIsX K C a d) (tCons (tVar 0) (tCons (tC (.ref (He.ga K "LimitError"))) tNil))) (tOp rEq (tXfX a d "part" (tVar 0)) (tC (.str "standings"))))))
theorem sc_is : FnScope ["e"] ["e"] (defScope s__law_is_too_many) := ⟨rfl, rfl, rfl, by decide +kernel, rfl, by decide +kernel, by decide +kernel⟩
theorem der_is {X : Cx} {cs : Cs} {a d : Addr} {oe : Obj} (IS : IsTxt X.K X.mg cs) (hz : Zc (.ref cs.tm) (some d) oe) (hf : ∃ vs, oe.data = .fields vs) (f : Addr) (cdv : Value) (A : Around) (outer : List Env) (s : Shared) (H : Hp) :
    PSs (L2H.cxH CX0 X.prog X.w X.K X.mg X.base ["e"] "_law_is_too_many" (defScope s__law_is_too_many) f cdv A outer s H E0 (a, oe)) (defBody s__law_is_too_many) (t_is X.K cs.tm a d) := by
  have hp : (a, oe) ∈ (L2H.cxH CX0 X.prog X.w X.K X.mg X.base ["e"] "_law_is_too_many" (defScope s__law_is_too_many) f cdv A outer s H E0 (a, oe)).pn := List.mem_cons_self
  have g : ∀ x ∈ isNames, X.mg x = some (.ref (He.ga X.K x)) := IS.gl
  exact (pss_cons (ps_if (pt_val (pe_callB (call_isXT IS.ex hp hz hf) (by rfl) IS.bi (by decide +kernel) (pa_cons (pv 0) (pa_cons (pe_tup (pa_cons (pe_glob (by rfl) (g "BadText" (by simp [isNames])) rfl) (pa_cons (pe_glob (by rfl) (g "BadName" (by simp [isNames])) rfl) (pa_cons (pe_glob (by rfl) (g "Twice" (by simp [isNames])) rfl) (pa_cons (pe_glob (by rfl) (g "Unknown" (by simp [isNames])) rfl)
    (pa_cons (pe_glob (by rfl) (g "BadSize" (by simp [isNames])) rfl) (pa_cons (pe_glob (by rfl) (g "NotEnough" (by simp [isNames])) rfl) (pa_cons (pe_glob (by rfl) (g "TooLarge" (by simp [isNames])) rfl) (pa_cons (pe_glob (by rfl) (g "NoMuster" (by simp [isNames])) rfl) (pa_cons (pe_glob (by rfl) (g "Unlike" (by simp [isNames])) rfl) pa_nil)))))))))) pa_nil)))) (pss_one (ps_ret pe_bl)) pss_nil)
    (pss_one (ps_ret (pe_and (pe_callB (call_isX IS.ex hp hz hf) (by rfl) IS.bi (by decide +kernel) (pa_cons (pv 0) (pa_cons (pe_glob (by rfl) IS.gT rfl) pa_nil))) (pe_and (pe_callB (call_isX IS.ex hp hz hf) (by rfl) IS.bi (by decide +kernel) (pa_cons (pv 0) (pa_cons (pe_glob (by rfl) IS.gL rfl) pa_nil))) (pe_one (pe_cmpR op_eq (pe_xfX IS.ex IS.noP hp hz hf (pv 0)) pe_str (nomark _))))))))
theorem pure_is {K : PySem.W.Frag} {mg : Str → Option Value} {cs : Cs} {a d : Addr} {H : Hp} {Q : VK} (IS : IsTxt K mg cs) (hd : H d = some (.xd tmF)) (k : ∀ H', Ex H H' → Q (.bl true) H') : t_is K cs.tm a d { nx := fun _ H' => Q .non H', rt := Q } (start ["e"] [.ref a]) H := by
  refine ⟨_, rfl, by show 9 ≤ sizeLine; decide, fun p hp => ?_⟩
  have e1 : Ex H (upd H p (.tup (isNames.map fun x => V.ref (He.ga K x)))) := Ex.new hp
  have hc : Paired ClsV (isNames.map fun x => V.ref (He.ga K x)) (isNames.map fun x => Value.ref (He.ga K x)) := by
    have : ∀ l : List Str, Paired ClsV (l.map fun x => V.ref (He.ga K x)) (l.map fun x => Value.ref (He.ga K x)) := fun l => by
      induction l with
      | nil => exact .nil
      | cons y l ih => exact .cons (.own _) ih
    exact this _
  refine ⟨p, _, _, false, tmF, rfl, e1 _ _ hd, upd_same, hc, IS.kit, _, rfl, ?_⟩
  show (if false = true then _ else _)
  rw [if_neg Bool.false_ne_true]
  refine ⟨_, rfl, .ref cs.tm, _, true, tmF, rfl, e1 _ _ hd, .own _, IS.kTm, true, rfl, ?_⟩
  refine ⟨_, rfl, .ref (He.ga K "LimitError"), _, true, tmF, rfl, e1 _ _ hd, .own _, IS.kLe, true, rfl, ?_⟩
  refine ⟨_, rfl, rfl, tmF, .str "standings", e1 _ _ hd, by simp [tmF, List.lookup], rfl, ?_⟩
  have : decide (V.str ("standings" : Str) = V.str ("standings" : Str)) = true := decide_eq_true rfl
  rw [this]
  exact k _ e1
theorem pe_isTm {X : Cx} {cs : Cs} {a : Addr} {oe : Obj} {cls : Value} {d : Option Addr} {pn : List (Addr × Obj)} {e : Expr} {te : TE} {p pos : Pos} (IS : IsTxt X.K X.mg cs) (hr : Room 4 X.A) (hz : Zc cls d oe) (hf : ∃ vs, oe.data = .fields vs) (he : PE (X.suite a ((a, oe) :: pn)) e te) (hg : Gl X "_law_is_too_many" := by rfl)
    (hs : starEach (e :: []) X.env = (false, eval e X.env) :: starEach [] X.env := by rfl) (hpl : (backTo pos (starEach [] X.env)).any (·.1) = false := by rfl) :
    PE (X.suite a ((a, oe) :: pn)) (.Call (.Name "_law_is_too_many" p) [e] [] pos) (tIsTm cs a cls d te) := by
  exact pe_callPin (X := X) (t := t_is X.K cs.tm a (d.getD 0)) (P := cls = .ref cs.tm ∧ ∃ dd, d = some dd) (k := 3) (p := p) (pos := pos) (pn := pn) (oe := oe) (post := fun v H1 Q => v = .ref a ∧ cls = .ref cs.tm ∧ ∃ dd, d = some dd ∧ H1 dd = some (.xd tmF) ∧ ∀ H', Ex H1 H' → Q (.bl true) H')
    (fun v H1 Q ⟨h2, h3, dd, h4, h5, h6⟩ => ⟨h2, ⟨h3, dd, h4⟩, by subst h2 h4; exact pure_is IS h5 h6⟩) IS.D sc_is hr hg (fun hP f cdv A outer s H _ => by
      obtain ⟨rfl, dd, rfl⟩ := hP
      exact der_is IS hz hf f cdv A outer s H) he (by decide) hs hpl

section
variable {P : Program} {w : World} {K : PySem.W.Frag} {mg : Str → Option Value} {base : Heap}
theorem sc__law_begin : FnScope N__law_begin ["script"] (defScope s__law_begin) := ⟨rfl, rfl, rfl, by decide +kernel, rfl, by decide +kernel, by decide +kernel⟩
theorem ok__law_begin (D : DefAt K mg "_law_begin" s__law_begin ["script"]) (T : Bi mg) : Cal P w K mg base 1 "_law_begin" ["script"] (sp__law_begin K) := by
  have nd := (sc__law_begin).nd
  refine cal_mk (t := t__law_begin K) (N := N__law_begin) D sc__law_begin (fun vs H Q E h => len__law_begin h) (fun f cdv A outer s H E hr => ?_) (fun vs H Q E h => pure__law_begin h)
  exact (pss_one (ps_ret (pe_lst (pa_cons (pe_lc (own := [("cell", 1)]) (g := (gName 1)) (tt := tYes) rfl nd (pi_list (pv 0)) (blkOk_by (own := [("cell", 1)]) (N := N__law_begin) (sc := defScope s__law_begin) (by decide +kernel)) (fun _ _ _ _ _ => (pg_name (i := 1) nd rfl (Or.inl rfl))) (fun _ _ _ _ _ => pts_nil) (fun _ _ _ _ _ => (pe_callTy call_int1 (by rfl) T.int_ (by decide +kernel) (pa_cons (pv 1) pa_nil)))) (pa_cons pe_int (pa_cons pe_int (pa_cons pe_int (pa_cons pe_int pa_nil))))))))
theorem sc__law_draw : FnScope N__law_draw ["d", "many"] (defScope s__law_draw) := ⟨rfl, rfl, rfl, by decide +kernel, rfl, by decide +kernel, by decide +kernel⟩
theorem ok__law_draw (D : DefAt K mg "_law_draw" s__law_draw ["d", "many"]) (T : Bi mg) : Cal P w K mg base 1 "_law_draw" ["d", "many"] sp__law_draw := by
  have nd := (sc__law_draw).nd
  refine cal_mk (t := t__law_draw K) (N := N__law_draw) D sc__law_draw (fun vs H Q E h => len__law_draw h) (fun f cdv A outer s H E hr => ?_) (fun vs H Q E h => pure__law_draw h)
  exact (pss_cons (ps_if (pt_cmpR op_gt (pe_ix ix_list (pv 0) pe_int (fun _ _ => rfl)) pe_int (nomark _)) (pss_cons (ps_set (i := 2) nd rfl (Or.inl rfl) (pe_ix ix_list (pv 0) pe_int (fun _ _ => rfl)))
  (pss_cons (ps_asg (pe_op op_fdiv (pv 2) (pv 1)) (pg_sub (pv 0) pe_int set_list))
  (pss_one (ps_ret (pe_op op_mod (pe_callTy call_int1 (by rfl) T.int_ (by decide +kernel) (pa_cons (pv 2) pa_nil)) (pv 1)))))) pss_nil)
  (pss_cons (ps_set (i := 3) nd rfl (Or.inl rfl) pe_int)
  (pss_cons (ps_if (pt_cmpR op_lt (pe_ix ix_list (pv 0) pe_int (fun _ _ => rfl)) (pe_callB call_len_seq (by rfl) T.len PySem.boot_len (pa_cons (pe_ix ix_list (pv 0) pe_int (fun _ _ => rfl)) pa_nil)) (nomark _)) (pss_cons (ps_set (i := 4) nd rfl (Or.inl rfl) (pe_ix ix_list (pe_ix ix_list (pv 0) pe_int (fun _ _ => rfl)) (pe_ix ix_list (pv 0) pe_int (fun _ _ => rfl)) (fun _ _ => rfl)))
  (pss_one (ps_set (i := 3) nd rfl (Or.inl rfl) (pe_op op_add (pe_op op_mul pe_int (pe_callB call_abs (by rfl) T.abs (by decide +kernel) (pa_cons (pv 4) pa_nil))) (pe_callTy call_int1 (by rfl) T.int_ (by decide +kernel) (pa_cons (pe_cmpR op_lt (pv 4) pe_int (nomark _)) pa_nil)))))) pss_nil)
  (pss_cons (ps_augS (pv 0) pe_int get_listP pe_int ip_add set_list)
  (pss_cons (ps_if (pt_cmpR op_ge (pv 3) (pe_op op_mul pe_int (pe_op op_pow pe_int pe_int)) (nomark _)) (pss_cons (ps_set (i := 2) nd rfl (Or.inl rfl) (pe_op op_mod (pe_callTy call_int1 (by rfl) T.int_ (by decide +kernel) (pa_cons (pe_op op_fdiv (pv 3) pe_int) pa_nil)) (pe_op op_shl pe_int pe_int)))
  (pss_cons (ps_asg (pe_op op_fdiv (pv 2) (pv 1)) (pg_sub (pv 0) pe_int set_list))
  (pss_one (ps_ret (pe_op op_mod (pe_callTy call_int1 (by rfl) T.int_ (by decide +kernel) (pa_cons (pv 2) pa_nil)) (pv 1)))))) pss_nil)
  (pss_cons (ps_asg (pe_op op_mod (pe_callTy call_int1 (by rfl) T.int_ (by decide +kernel) (pa_cons (pe_op op_add (pe_op op_add (pe_op op_add (pe_op op_mul (pe_ix ix_list (pv 0) pe_int (fun _ _ => rfl)) pe_int) (pe_op op_mul (pe_op op_mod (pe_callTy call_int1 (by rfl) T.int_ (by decide +kernel) (pa_cons (pv 3) pa_nil)) pe_int) pe_int)) (pe_op op_mul (pe_ix ix_list (pv 0) pe_int (fun _ _ => rfl)) pe_int)) pe_int) pa_nil)) pe_int) (pg_sub (pv 0) pe_int set_list))
  (pss_one (ps_ret (pe_op op_mod (pe_callTy call_int1 (by rfl) T.int_ (by decide +kernel) (pa_cons (pe_op op_fdiv (pe_ix ix_list (pv 0) pe_int (fun _ _ => rfl)) pe_int) pa_nil)) (pv 1))))))))))
theorem sc__law_rare : FnScope N__law_rare ["d", "many"] (defScope s__law_rare) := ⟨rfl, rfl, rfl, by decide +kernel, rfl, by decide +kernel, by decide +kernel⟩
theorem ok__law_rare (D : DefAt K mg "_law_rare" s__law_rare ["d", "many"]) (T : Bi mg) (c__law_draw : Cal P w K mg base 1 "_law_draw" ["d", "many"] sp__law_draw) : Cal P w K mg base 2 "_law_rare" ["d", "many"] sp__law_rare := by
  have nd := (sc__law_rare).nd
  refine cal_mk (t := t__law_rare K) (N := N__law_rare) D sc__law_rare (fun vs H Q E h => len__law_rare h) (fun f cdv A outer s H E hr => ?_) (fun vs H Q E h => pure__law_rare h)
  exact (pss_one (ps_ret (pe_cmpR op_eq (pe_callC c__law_draw (hr.mono (by decide)) rfl (pa_cons (pv 0) (pa_cons (pv 1) pa_nil))) (pe_op op_fdiv (pv 1) pe_int) (nomark _))))
theorem sc__law_pick : FnScope N__law_pick ["d", "row"] (defScope s__law_pick) := ⟨rfl, rfl, rfl, by decide +kernel, rfl, by decide +kernel, by decide +kernel⟩
theorem ok__law_pick (D : DefAt K mg "_law_pick" s__law_pick ["d", "row"]) (T : Bi mg) (c__law_draw : Cal P w K mg base 1 "_law_draw" ["d", "many"] sp__law_draw) : Cal P w K mg base 2 "_law_pick" ["d", "row"] sp__law_pick := by
  have nd := (sc__law_pick).nd
  refine cal_mk (t := t__law_pick K) (N := N__law_pick) D sc__law_pick (fun vs H Q E h => len__law_pick h) (fun f cdv A outer s H E hr => ?_) (fun vs H Q E h => pure__law_pick h)
  exact (pss_one (ps_ret (pe_ix ix_seq (pv 1) (pe_callC c__law_draw (hr.mono (by decide)) rfl (pa_cons (pv 0) (pa_cons (pe_callB call_len_seq (by rfl) T.len PySem.boot_len (pa_cons (pv 1) pa_nil)) pa_nil))) (fun _ _ => rfl))))
theorem sc__law_pool : FnScope N__law_pool [] (defScope s__law_pool) := ⟨rfl, rfl, rfl, by decide +kernel, rfl, by decide +kernel, by decide +kernel⟩
theorem ok__law_pool (D : DefAt K mg "_law_pool" s__law_pool []) (T : Bi mg) : Cal P w K mg base 1 "_law_pool" [] sp__law_pool := by
  have nd := (sc__law_pool).nd
  refine cal_mk (t := t__law_pool K (strsOf (defBody s__law_pool))) (N := N__law_pool) D sc__law_pool (fun vs H Q E h => len__law_pool h) (fun f cdv A outer s H E hr => ?_) (fun vs H Q E h => pure__law_pool pool_ok h)
  exact (pss_cons (ps_set (i := 0) nd rfl (Or.inl rfl) pe_str)
  (pss_cons (ps_set (i := 0) nd rfl (Or.inl rfl) (pe_op op_add_str (pv 0) pe_str))
  (pss_one (ps_ret (pe_split (pe_op op_add_str (pv 0) pe_str) pe_str)))))
theorem sc__law_pop : FnScope N__law_pop ["d", "row"] (defScope s__law_pop) := ⟨rfl, rfl, rfl, by decide +kernel, rfl, by decide +kernel, by decide +kernel⟩
theorem ok__law_pop (D : DefAt K mg "_law_pop" s__law_pop ["d", "row"]) (T : Bi mg) (c__law_draw : Cal P w K mg base 1 "_law_draw" ["d", "many"] sp__law_draw) : Cal P w K mg base 2 "_law_pop" ["d", "row"] sp__law_pop := by
  have nd := (sc__law_pop).nd
  refine cal_mk (t := t__law_pop K) (N := N__law_pop) D sc__law_pop (fun vs H Q E h => len__law_pop h) (fun f cdv A outer s H E hr => ?_) (fun vs H Q E h => pure__law_pop h)
  exact (pss_one (ps_ret (pe_bm PySem.F.plainAttrs_list PySem.F.slot_list_pop PySem.F.type_list_pop mt_popAt (pv 1) (pa_cons (pe_callC c__law_draw (hr.mono (by decide)) rfl (pa_cons (pv 0) (pa_cons (pe_callB call_len_seq (by rfl) T.len PySem.boot_len (pa_cons (pv 1) pa_nil)) pa_nil))) pa_nil))))
theorem sc__law_shuffled : FnScope N__law_shuffled ["d", "row"] (defScope s__law_shuffled) := ⟨rfl, rfl, rfl, by decide +kernel, rfl, by decide +kernel, by decide +kernel⟩
theorem ok__law_shuffled (D : DefAt K mg "_law_shuffled" s__law_shuffled ["d", "row"]) (T : Bi mg) (c__law_draw : Cal P w K mg base 1 "_law_draw" ["d", "many"] sp__law_draw) : Cal P w K mg base 2 "_law_shuffled" ["d", "row"] sp__law_shuffled := by
  have nd := (sc__law_shuffled).nd
  refine cal_mk (t := t__law_shuffled K) (N := N__law_shuffled) D sc__law_shuffled (fun vs H Q E h => len__law_shuffled h) (fun f cdv A outer s H E hr => ?_) (fun vs H Q E h => pure__law_shuffled h)
  exact (pss_cons (ps_set (i := 2) nd rfl (Or.inl rfl) (pe_callTy call_list_of (by rfl) T.list_ (by decide +kernel) (pa_cons (pv 1) pa_nil)))
  (pss_cons (ps_set (i := 3) nd rfl (Or.inl rfl) (pe_lst pa_nil))
  (pss_cons (ps_for PassesOwn.never rfl (pi_range1 (by rfl) T.range (pa_cons (pe_callB call_len_seq (by rfl) T.len PySem.boot_len (pa_cons (pv 2) pa_nil)) pa_nil)) (pg_name (i := 4) nd rfl (Or.inl rfl)) (pss_one (ps_expr (pe_bm PySem.F.plainAttrs_list PySem.F.slot_list_append PySem.F.type_list_append mt_append (pv 3) (pa_cons (pe_bm PySem.F.plainAttrs_list PySem.F.slot_list_pop PySem.F.type_list_pop mt_popAt (pv 2) (pa_cons (pe_callC c__law_draw (hr.mono (by decide)) rfl (pa_cons (pv 0) (pa_cons (pe_callB call_len_seq (by rfl) T.len PySem.boot_len (pa_cons (pv 2) pa_nil)) pa_nil))) pa_nil)) pa_nil)))))
  (pss_one (ps_ret (pv 3))))))
theorem sc__law_listed : FnScope N__law_listed ["many", "places"] (defScope s__law_listed) := ⟨rfl, rfl, rfl, by decide +kernel, rfl, by decide +kernel, by decide +kernel⟩
theorem ok__law_listed (D : DefAt K mg "_law_listed" s__law_listed ["many", "places"]) (T : Bi mg) : Cal P w K mg base 1 "_law_listed" ["many", "places"] sp__law_listed := by
  have nd := (sc__law_listed).nd
  refine cal_mk (t := t__law_listed K) (N := N__law_listed) D sc__law_listed (fun vs H Q E h => len__law_listed h) (fun f cdv A outer s H E hr => ?_) (fun vs H Q E h => pure__law_listed h)
  exact (pss_cons (ps_setLc (i := 3) (own := [("kind", 2)]) (g := (gName 2)) (tt := tYes) rfl nd rfl rfl (sw_true rfl rfl rfl (by decide +kernel)) (pi_range1 (by rfl) T.range (pa_cons (pv 0) pa_nil)) (blkOk_by (own := [("kind", 2)]) (N := N__law_listed) (sc := defScope s__law_listed) (by decide +kernel)) (fun _ _ _ _ _ => (pg_name (i := 2) nd rfl (Or.inl rfl))) (fun _ _ _ _ _ => pts_nil) (fun _ _ _ _ _ => pe_int))
  (pss_cons (ps_for PassesOwn.never rfl (pi_list (pv 1)) (pg_name (i := 2) nd rfl (Or.inl rfl)) (pss_one (ps_augS (pv 3) (pv 2) get_listP pe_int ip_add set_list)))
  (pss_one (ps_ret (pe_callTy call_tuple_of (by rfl) T.tuple_ (by decide +kernel) (pa_cons (pv 3) pa_nil))))))
theorem sc__law_heap : FnScope N__law_heap ["d", "many", "size"] (defScope s__law_heap) := ⟨rfl, rfl, rfl, by decide +kernel, rfl, by decide +kernel, by decide +kernel⟩
theorem ok__law_heap (D : DefAt K mg "_law_heap" s__law_heap ["d", "many", "size"]) (T : Bi mg) (c__law_draw : Cal P w K mg base 1 "_law_draw" ["d", "many"] sp__law_draw) : Cal P w K mg base 2 "_law_heap" ["d", "many", "size"] sp__law_heap := by
  have nd := (sc__law_heap).nd
  refine cal_mk (t := t__law_heap K) (N := N__law_heap) D sc__law_heap (fun vs H Q E h => len__law_heap h) (fun f cdv A outer s H E hr => ?_) (fun vs H Q E h => pure__law_heap h)
  exact (pss_cons (ps_setLc (i := 3) (own := [("kind", 5)]) (g := (gName 5)) (tt := tYes) rfl nd rfl rfl (sw_true rfl rfl rfl (by decide +kernel)) (pi_range1 (by rfl) T.range (pa_cons (pv 1) pa_nil)) (blkOk_by (own := [("kind", 5)]) (N := N__law_heap) (sc := defScope s__law_heap) (by decide +kernel)) (fun _ _ _ _ _ => (pg_name (i := 5) nd rfl (Or.inl rfl))) (fun _ _ _ _ _ => pts_nil) (fun _ _ _ _ _ => pe_int))
  (pss_cons (ps_for PassesOwn.never rfl (pi_range1 (by rfl) T.range (pa_cons (pv 2) pa_nil)) (pg_name (i := 4) nd rfl (Or.inl rfl)) (pss_one (ps_augS (pv 3) (pe_callC c__law_draw (hr.mono (by decide)) rfl (pa_cons (pv 0) (pa_cons (pv 1) pa_nil))) get_listP pe_int ip_add set_list)))
  (pss_one (ps_ret (pe_callTy call_tuple_of (by rfl) T.tuple_ (by decide +kernel) (pa_cons (pv 3) pa_nil))))))
theorem sc__law_some_kinds : FnScope N__law_some_kinds ["d", "many"] (defScope s__law_some_kinds) := ⟨rfl, rfl, rfl, by decide +kernel, rfl, by decide +kernel, by decide +kernel⟩
theorem ok__law_some_kinds (D : DefAt K mg "_law_some_kinds" s__law_some_kinds ["d", "many"]) (T : Bi mg) (c__law_shuffled : Cal P w K mg base 2 "_law_shuffled" ["d", "row"] sp__law_shuffled) (c__law_draw : Cal P w K mg base 1 "_law_draw" ["d", "many"] sp__law_draw) : Cal P w K mg base 3 "_law_some_kinds" ["d", "many"] sp__law_some_kinds := by
  have nd := (sc__law_some_kinds).nd
  refine cal_mk (t := t__law_some_kinds K) (N := N__law_some_kinds) D sc__law_some_kinds (fun vs H Q E h => len__law_some_kinds h) (fun f cdv A outer s H E hr => ?_) (fun vs H Q E h => pure__law_some_kinds h)
  exact (pss_cons (ps_set (i := 2) nd rfl (Or.inl rfl) (pe_callC c__law_shuffled (hr.mono (by decide)) rfl (pa_cons (pv 0) (pa_cons (pe_listRg rfl (by rfl) T.list_ (prg_1 (by rfl) T.range (pv 1))) pa_nil))))
  (pss_one (ps_ret (pe_callTy call_tuple_of (by rfl) T.tuple_ (by decide +kernel) (pa_cons (pe_callB cr_sorted (by rfl) T.sorted (by decide +kernel) (pa_cons (pe_slice sl_list (pv 2) po_none (po_some (pe_op op_add pe_int (pe_callC c__law_draw (hr.mono (by decide)) rfl (pa_cons (pv 0) (pa_cons (pv 1) pa_nil)))))) pa_nil)) pa_nil)))))
theorem sc__law_size_of_crowd : FnScope N__law_size_of_crowd ["task", "n"] (defScope s__law_size_of_crowd) := ⟨rfl, rfl, rfl, by decide +kernel, rfl, by decide +kernel, by decide +kernel⟩
theorem ok__law_size_of_crowd (D : DefAt K mg "_law_size_of_crowd" s__law_size_of_crowd ["task", "n"]) (T : Bi mg) : Cal P w K mg base 1 "_law_size_of_crowd" ["task", "n"] sp__law_size_of_crowd := by
  have nd := (sc__law_size_of_crowd).nd
  refine cal_mk (t := t__law_size_of_crowd K) (N := N__law_size_of_crowd) D sc__law_size_of_crowd (fun vs H Q E h => len__law_size_of_crowd h) (fun f cdv A outer s H E hr => ?_) (fun vs H Q E h => pure__law_size_of_crowd h)
  exact (pss_cons (ps_set (i := 2) nd rfl (Or.inl rfl) pe_int)
  (pss_cons (ps_set (i := 3) nd rfl (Or.inl rfl) (pe_op op_mul (pv 1) (pe_callB (cr_sum rfl) (by rfl) T.sum (by decide +kernel) (pa_cons (pe_callTy call_list_of (by rfl) T.list_ (by decide +kernel) (pa_cons (pe_ix ix_tup (pv 0) pe_int (fun _ _ => rfl)) pa_nil)) pa_nil))))
  (pss_cons (ps_for PassesOwn.never rfl (pi_range1 (by rfl) T.range (pa_cons (pe_op op_sub (pe_callB call_len_seq (by rfl) T.len PySem.boot_len (pa_cons (pe_ix ix_tup (pv 0) pe_int (fun _ _ => rfl)) pa_nil)) pe_int) pa_nil)) (pg_name (i := 4) nd rfl (Or.inl rfl)) (pss_one (ps_set (i := 2) nd rfl (Or.inl rfl) (pe_op op_fdiv (pe_op op_mul (pv 2) (pe_op op_add (pe_op op_add (pv 3) (pv 4)) pe_int)) (pe_op op_add (pv 4) pe_int)))))
  (pss_one (ps_ret (pv 2))))))
theorem sc_times_all : FnScope N_times_all ["times", "row"] (defScope s_times_all) := ⟨rfl, rfl, rfl, by decide +kernel, rfl, by decide +kernel, by decide +kernel⟩
theorem ok_times_all (D : DefAt K mg "times_all" s_times_all ["times", "row"]) (T : Bi mg) : Cal P w K mg base 1 "times_all" ["times", "row"] sp_times_all := by
  have nd := (sc_times_all).nd
  refine cal_mk (t := t_times_all K) (N := N_times_all) D sc_times_all (fun vs H Q E h => len_times_all h) (fun f cdv A outer s H E hr => ?_) (fun vs H Q E h => pure_times_all h)
  exact (pss_one (ps_ret (pe_callTy call_tuple_of (by rfl) T.tuple_ (by decide +kernel) (pa_cons (pe_lc (own := [("entry", 2)]) (g := (gName 2)) (tt := tYes) rfl nd (pi_tup (pv 1)) (blkOk_by (own := [("entry", 2)]) (N := N_times_all) (sc := defScope s_times_all) (by decide +kernel)) (fun _ _ _ _ _ => (pg_name (i := 2) nd rfl (Or.inl rfl))) (fun _ _ _ _ _ => pts_nil) (fun _ _ _ _ _ => (pe_op op_mul (pv 0) (pv 2)))) pa_nil))))
theorem sc_at_most : FnScope N_at_most ["one", "other"] (defScope s_at_most) := ⟨rfl, rfl, rfl, by decide +kernel, rfl, by decide +kernel, by decide +kernel⟩
theorem ok_at_most (D : DefAt K mg "at_most" s_at_most ["one", "other"]) (T : Bi mg) : Cal P w K mg base 1 "at_most" ["one", "other"] sp_at_most := by
  have nd := (sc_at_most).nd
  refine cal_mk (t := t_at_most K) (N := N_at_most) D sc_at_most (fun vs H Q E h => len_at_most h) (fun f cdv A outer s H E hr => ?_) (fun vs H Q E h => pure_at_most h)
  exact (pss_one (ps_ret (pe_callB (cr_all rfl) (by rfl) T.all (by decide +kernel) (pa_cons (pe_lc (own := [("left", 2), ("right", 3)]) (g := (gTup K 2 (gCons (gName 2) (gCons (gName 3) gNil)))) (tt := tYes) rfl nd (RZ.pi_zipA (by rfl) T.zip (pa_cons (pv 0) (pa_cons (pv 1) pa_nil))) (blkOk_by (own := [("left", 2), ("right", 3)]) (N := N_at_most) (sc := defScope s_at_most) (by decide +kernel)) (fun _ _ _ _ _ => (pg_tup rfl (pgs_cons (pg_name (i := 2) nd rfl (Or.inl rfl)) (pgs_cons (pg_name (i := 3) nd rfl (Or.inl rfl)) pgs_nil)))) (fun _ _ _ _ _ => pts_nil) (fun _ _ _ _ _ => (pe_cmpR op_le (pv 2) (pv 3) (nomark _)))) pa_nil))))
theorem sc_can_do : FnScope N_can_do ["rule", "standing", "deed"] (defScope s_can_do) := ⟨rfl, rfl, rfl, by decide +kernel, rfl, by decide +kernel, by decide +kernel⟩
theorem ok_can_do (D : DefAt K mg "can_do" s_can_do ["rule", "standing", "deed"]) (T : Bi mg) (c_at_most : Cal P w K mg base 1 "at_most" ["one", "other"] sp_at_most) : Cal P w K mg base 2 "can_do" ["rule", "standing", "deed"] sp_can_do := by
  have nd := (sc_can_do).nd
  refine cal_mk (t := t_can_do K) (N := N_can_do) D sc_can_do (fun vs H Q E h => len_can_do h) (fun f cdv A outer s H E hr => ?_) (fun vs H Q E h => pure_can_do h)
  exact (pss_one (ps_ret (pe_callC c_at_most (hr.mono (by decide)) rfl (pa_cons (pe_ix ix_tup (pe_ix ix_tup (pe_ix ix_tup (pv 0) pe_int (fun _ _ => rfl)) (pv 2) (fun _ _ => rfl)) pe_int (fun _ _ => rfl)) (pa_cons (pv 1) pa_nil)))))
theorem sc_moved_by : FnScope N_moved_by ["rule", "standing", "deed"] (defScope s_moved_by) := ⟨rfl, rfl, rfl, by decide +kernel, rfl, by decide +kernel, by decide +kernel⟩
theorem ok_moved_by (D : DefAt K mg "moved_by" s_moved_by ["rule", "standing", "deed"]) (T : Bi mg) : Cal P w K mg base 1 "moved_by" ["rule", "standing", "deed"] sp_moved_by := by
  have nd := (sc_moved_by).nd
  refine cal_mk (t := t_moved_by K) (N := N_moved_by) D sc_moved_by (fun vs H Q E h => len_moved_by h) (fun f cdv A outer s H E hr => ?_) (fun vs H Q E h => pure_moved_by h)
  exact (pss_cons (ps_asg (pe_ix ix_tup (pe_ix ix_tup (pv 0) pe_int (fun _ _ => rfl)) (pv 2) (fun _ _ => rfl)) (pg_tup rfl (pgs_cons (pg_name (i := 3) nd rfl (Or.inl rfl)) (pgs_cons (pg_name (i := 4) nd rfl (Or.inr rfl)) (pgs_cons (pg_name (i := 5) nd rfl (Or.inr rfl)) pgs_nil)))))
  (pss_one (ps_ret (pe_callTy call_tuple_of (by rfl) T.tuple_ (by decide +kernel) (pa_cons (pe_lc (own := [("kind", 6)]) (g := (gName 6)) (tt := tYes) rfl nd (pi_range1 (by rfl) T.range (pa_cons (pe_callB call_len_seq (by rfl) T.len PySem.boot_len (pa_cons (pv 1) pa_nil)) pa_nil)) (blkOk_by (own := [("kind", 6)]) (N := N_moved_by) (sc := defScope s_moved_by) (by decide +kernel)) (fun _ _ _ _ _ => (pg_name (i := 6) nd rfl (Or.inl rfl))) (fun _ _ _ _ _ => pts_nil) (fun _ _ _ _ _ => (pe_op op_add (pe_op op_sub (pe_ix ix_tup (pv 1) (pv 6) (fun _ _ => rfl)) (pe_ix ix_tup (pv 4) (pv 6) (fun _ _ => rfl))) (pe_ix ix_tup (pv 5) (pv 6) (fun _ _ => rfl))))) pa_nil)))))
theorem sc_Search_links_of : FnScope N_Search_links_of ["self", "at", "most", "barrier"] (defScope s_Search_links_of) := ⟨rfl, rfl, rfl, by decide +kernel, rfl, by decide +kernel, by decide +kernel⟩
theorem ok_Search_links_of {cs : Cs} (D : MethAt K cs.se "links_of" "Search.links_of" s_Search_links_of ["self", "at", "most", "barrier"]) (T : Txt K mg cs) (TM : TmTxt P K mg cs) (c_can_do : Cal P w K mg base 2 "can_do" ["rule", "standing", "deed"] sp_can_do) (c_moved_by : Cal P w K mg base 1 "moved_by" ["rule", "standing", "deed"] sp_moved_by) : MCal P w K mg base 5 cs.se "links_of" ["self", "at", "most", "barrier"] (sp_Search_links_of cs) := by
  have nd := (sc_Search_links_of).nd
  refine mcal_mk (t := fun E => t_Search_links_of K cs E) (N := N_Search_links_of) D sc_Search_links_of (fun vs H Q E h => len_Search_links_of h) (fun f cdv A outer s H E hr => ?_) (fun vs H Q E h => pure_Search_links_of T h)
  exact (pss_cons (ps_set (i := 4) nd rfl (Or.inl rfl) (pe_ix ix_list (pe_fld (pv 0) rfl) (pv 1) (fun _ _ => rfl)))
  (pss_cons (ps_set (i := 5) nd rfl (Or.inl rfl) (pe_lst pa_nil))
  (pss_cons (ps_if (pt_cmpR (op_eqD hr.units) (pv 4) (pv 3) (nomark _)) (pss_one (ps_ret (pv 5))) pss_nil)
  (pss_cons (ps_for (passes_of rfl) rfl (pi_range1 (by rfl) T.range (pa_cons (pe_callB call_len_seq (by rfl) T.len PySem.boot_len (pa_cons (pe_ix ix_tup (pe_fld (pv 0) rfl) pe_int (fun _ _ => rfl)) pa_nil)) pa_nil)) (pg_name (i := 6) nd rfl (Or.inl rfl)) (pss_one (ps_if (pt_val (pe_callC c_can_do (hr.mono (by decide)) rfl (pa_cons (pe_fld (pv 0) rfl) (pa_cons (pv 4) (pa_cons (pv 6) pa_nil))))) (pss_cons (ps_set (i := 7) nd rfl (Or.inl rfl) (pe_callC c_moved_by (hr.mono (by decide)) rfl (pa_cons (pe_fld (pv 0) rfl) (pa_cons (pv 4) (pa_cons (pv 6) pa_nil)))))
  (pss_cons (ps_if (pt_cmp (pc_dnotin (hu_of hr) (pv 7) (pe_fld (pv 0) rfl))) (pss_cons (ps_if (pt_cmpR op_ge (pe_callB call_len_seq (by rfl) T.len PySem.boot_len (pa_cons (pe_fld (pv 0) rfl) pa_nil)) (pv 2) (nomark _)) (pss_one (ps_raiseTm TM (hr.mono (by decide)) (takes_of rfl rfl rfl rfl))) pss_nil)
  (pss_cons (ps_dput (hu_of hr) (pe_fld (pv 0) rfl) (pv 7) (pe_callB call_len_seq (by rfl) T.len PySem.boot_len (pa_cons (pe_fld (pv 0) rfl) pa_nil)) rfl)
  (pss_cons (ps_expr (pe_bm PySem.F.plainAttrs_list PySem.F.slot_list_append PySem.F.type_list_append mt_append (pe_fld (pv 0) rfl) (pa_cons (pv 7) pa_nil)))
  (pss_one (ps_expr (pe_bm PySem.F.plainAttrs_list PySem.F.slot_list_append PySem.F.type_list_append mt_append (pe_fld (pv 0) rfl) (pa_cons (pe_tup (pa_cons (pv 1) (pa_cons (pv 6) pa_nil))) pa_nil))))))) pss_nil)
  (pss_one (ps_expr (pe_bm PySem.F.plainAttrs_list PySem.F.slot_list_append PySem.F.type_list_append mt_append (pv 5) (pa_cons (pe_tup (pa_cons (pv 6) (pa_cons (pe_dget (hu_of hr) (pe_fld (pv 0) rfl) (pv 7) (fun _ _ => rfl)) pa_nil))) pa_nil)))))) pss_nil)))
  (pss_one (ps_ret (pv 5)))))))
theorem sc_Search___init__ : FnScope N_Search___init__ ["self", "rule", "standing", "most", "barrier"] (defScope s_Search___init__) := ⟨rfl, rfl, rfl, by decide +kernel, rfl, by decide +kernel, by decide +kernel⟩
theorem ok_Search___init__ {cs : Cs} (D : InitAt K mg cs.se "Search" "Search.__init__" s_Search___init__ ["self", "rule", "standing", "most", "barrier"]) (T : Txt K mg cs) (TM : TmTxt P K mg cs) (c_Search_links_of : MCal P w K mg base 5 cs.se "links_of" ["self", "at", "most", "barrier"] (sp_Search_links_of cs)) : MkCal P w K mg base 6 cs.se "Search" ["self", "rule", "standing", "most", "barrier"] (sp_Search___init__ cs) := by
  have nd := (sc_Search___init__).nd
  refine mkcal_mk (t := fun E => t_Search___init__ K cs E) (N := N_Search___init__) D sc_Search___init__ (fun vs H Q E h => len_Search___init__ h) (fun f cdv A outer s H E hr => ?_) (fun vs H Q E h => pure_Search___init__ T h)
  exact (pss_cons (ps_if (pt_cmpR op_lt (pv 3) pe_int (nomark _)) (pss_one (ps_raiseTm TM (hr.mono (by decide)) (takes_of rfl rfl rfl rfl))) pss_nil)
  (pss_cons (ps_fld (pv 0) (pv 1) rfl)
  (pss_cons (ps_fld (pv 0) (pe_lst (pa_cons (pv 2) pa_nil)) rfl)
  (pss_cons (ps_fld (pv 0) pe_dnewT rfl)
  (pss_cons (ps_dput (hu_of hr) (pe_fld (pv 0) rfl) (pv 2) pe_int rfl)
  (pss_cons (ps_fld (pv 0) (pe_lst pa_nil) rfl)
  (pss_cons (ps_fld (pv 0) (pe_lst (pa_cons (pe_tup (pa_cons (pe_un un_neg pe_int) (pa_cons (pe_un un_neg pe_int) pa_nil))) pa_nil)) rfl)
  (pss_cons (ps_set (i := 5) nd rfl (Or.inl rfl) pe_int)
  (pss_one (ps_while (passes_of rfl) (pt_cmpR op_lt (pv 5) (pe_callB call_len_seq (by rfl) T.len PySem.boot_len (pa_cons (pe_fld (pv 0) rfl) pa_nil)) (nomark _)) (pss_cons (ps_expr (pe_bm PySem.F.plainAttrs_list PySem.F.slot_list_append PySem.F.type_list_append mt_append (pe_fld (pv 0) rfl) (pa_cons (pe_methX c_Search_links_of T.cl_Search (hr.mono (by decide)) (passes_call (takes_of rfl rfl rfl rfl) (fun _ _ _ _ h => h)) (pv 0) (pa_cons (pv 5) (pa_cons (pv 3) (pa_cons (pv 4) pa_nil)))) pa_nil)))
  (pss_one (ps_aug (i := 5) nd rfl (Or.inl rfl) pe_int ip_add)))))))))))))
theorem sc_count_in : FnScope N_count_in ["standing", "kinds"] (defScope s_count_in) := ⟨rfl, rfl, rfl, by decide +kernel, rfl, by decide +kernel, by decide +kernel⟩
theorem ok_count_in (D : DefAt K mg "count_in" s_count_in ["standing", "kinds"]) (T : Bi mg) : Cal P w K mg base 1 "count_in" ["standing", "kinds"] sp_count_in := by
  have nd := (sc_count_in).nd
  refine cal_mk (t := t_count_in K) (N := N_count_in) D sc_count_in (fun vs H Q E h => len_count_in h) (fun f cdv A outer s H E hr => ?_) (fun vs H Q E h => pure_count_in h)
  exact (pss_one (ps_ret (pe_callB (cr_sum rfl) (by rfl) T.sum (by decide +kernel) (pa_cons (pe_lc (own := [("kind", 2)]) (g := (gName 2)) (tt := tYes) rfl nd (pi_tup (pv 1)) (blkOk_by (own := [("kind", 2)]) (N := N_count_in) (sc := defScope s_count_in) (by decide +kernel)) (fun _ _ _ _ _ => (pg_name (i := 2) nd rfl (Or.inl rfl))) (fun _ _ _ _ _ => pts_nil) (fun _ _ _ _ _ => (pe_ix ix_tup (pv 0) (pv 2) (fun _ _ => rfl)))) pa_nil))))
theorem sc_most_at : FnScope N_most_at ["rule", "start", "kinds", "n"] (defScope s_most_at) := ⟨rfl, rfl, rfl, by decide +kernel, rfl, by decide +kernel, by decide +kernel⟩
theorem ok_most_at {cs : Cs} (D : DefAt K mg "most_at" s_most_at ["rule", "start", "kinds", "n"]) (T : Txt K mg cs) (c_times_all : Cal P w K mg base 1 "times_all" ["times", "row"] sp_times_all) (c_Search___init__ : MkCal P w K mg base 6 cs.se "Search" ["self", "rule", "standing", "most", "barrier"] (sp_Search___init__ cs)) (c_count_in : Cal P w K mg base 1 "count_in" ["standing", "kinds"] sp_count_in) : CalX P w K mg base 8 "most_at" ["rule", "start", "kinds", "n"] (sp_most_at cs) := by
  have nd := (sc_most_at).nd
  refine calx_mk (t := fun E => t_most_at K cs E) (N := N_most_at) D sc_most_at (fun vs H Q E h => len_most_at h) (fun f cdv A outer s H E hr => ?_) (fun vs H Q E h => pure_most_at T h)
  exact (pss_cons (ps_set (i := 4) nd rfl (Or.inl rfl) (pe_makeX c_Search___init__ (hr.mono (by decide)) rfl (passes_call (takes_of rfl rfl rfl rfl) (fun _ _ _ _ h => h)) (pa_cons (pv 0) (pa_cons (pe_callC c_times_all (hr.mono (by decide)) rfl (pa_cons (pv 3) (pa_cons (pv 1) pa_nil))) (pa_cons (pe_globC (by rfl) T.g_MOST_STANDINGS) (pa_cons pe_non pa_nil))))))
  (pss_one (ps_ret (pe_callB (cr_max rfl) (by rfl) T.max (by decide +kernel) (pa_cons (pe_lc (own := [("standing", 5)]) (g := (gName 5)) (tt := tYes) rfl nd (pi_list (pe_fld (pv 4) rfl)) (blkOk_by (own := [("standing", 5)]) (N := N_most_at) (sc := defScope s_most_at) (by decide +kernel)) (fun _ _ _ _ _ => (pg_name (i := 5) nd rfl (Or.inl rfl))) (fun _ _ _ _ _ => pts_nil) (fun _ _ _ _ _ => (pe_callC c_count_in (hr.mono (by decide)) rfl (pa_cons (pv 5) (pa_cons (pv 2) pa_nil))))) pa_nil)))))
theorem sc_least_left : FnScope N_least_left ["rule", "start", "kinds", "n"] (defScope s_least_left) := ⟨rfl, rfl, rfl, by decide +kernel, rfl, by decide +kernel, by decide +kernel⟩
theorem ok_least_left {cs : Cs} (D : DefAt K mg "least_left" s_least_left ["rule", "start", "kinds", "n"]) (T : Txt K mg cs) (c_most_at : CalX P w K mg base 8 "most_at" ["rule", "start", "kinds", "n"] (sp_most_at cs)) : CalX P w K mg base 9 "least_left" ["rule", "start", "kinds", "n"] (sp_least_left cs) := by
  have nd := (sc_least_left).nd
  refine calx_mk (t := fun E => t_least_left K cs E) (N := N_least_left) D sc_least_left (fun vs H Q E h => len_least_left h) (fun f cdv A outer s H E hr => ?_) (fun vs H Q E h => pure_least_left T h)
  exact (pss_one (ps_ret (pe_op op_sub (pe_op op_mul (pv 3) (pe_callB (cr_sum rfl) (by rfl) T.sum (by decide +kernel) (pa_cons (pe_callTy call_list_of (by rfl) T.list_ (by decide +kernel) (pa_cons (pv 1) pa_nil)) pa_nil))) (pe_callX c_most_at (hr.mono (by decide)) rfl (passes_call (takes_of rfl rfl rfl rfl) (fun _ _ _ _ h => h)) (pa_cons (pv 0) (pa_cons (pv 1) (pa_cons (pv 2) (pa_cons (pv 3) pa_nil))))))))
theorem sc_Search_steps_to : FnScope N_Search_steps_to ["self", "goal"] (defScope s_Search_steps_to) := ⟨rfl, rfl, rfl, by decide +kernel, rfl, by decide +kernel, by decide +kernel⟩
theorem ok_Search_steps_to {cs : Cs} (D : MethAt K cs.se "steps_to" "Search.steps_to" s_Search_steps_to ["self", "goal"]) (T : Txt K mg cs) : MCal P w K mg base 1 cs.se "steps_to" ["self", "goal"] (sp_Search_steps_to cs) := by
  have nd := (sc_Search_steps_to).nd
  refine mcal_mk (t := fun E => t_Search_steps_to K cs E) (N := N_Search_steps_to) D sc_Search_steps_to (fun vs H Q E h => len_Search_steps_to h) (fun f cdv A outer s H E hr => ?_) (fun vs H Q E h => pure_Search_steps_to T h)
  exact (pss_cons (ps_setLc (i := 2) (own := [("standing", 9)]) (g := (gName 9)) (tt := tYes) rfl nd rfl rfl (sw_true rfl rfl rfl (by decide +kernel)) (pi_list (pe_fld (pv 0) rfl)) (blkOk_by (own := [("standing", 9)]) (N := N_Search_steps_to) (sc := defScope s_Search_steps_to) (by decide +kernel)) (fun _ _ _ _ _ => (pg_name (i := 9) nd rfl (Or.inl rfl))) (fun _ _ _ _ _ => pts_nil) (fun _ _ _ _ _ => pe_non))
  (pss_cons (ps_if (pt_cmp (pc_dnotin (hu_of hr) (pv 1) (pe_fld (pv 0) rfl))) (pss_one (ps_ret (pv 2))) pss_nil)
  (pss_cons (ps_setLc (i := 3) (own := [("standing", 9)]) (g := (gName 9)) (tt := tYes) rfl nd rfl rfl (sw_true rfl rfl rfl (by decide +kernel)) (pi_list (pe_fld (pv 0) rfl)) (blkOk_by (own := [("standing", 9)]) (N := N_Search_steps_to) (sc := defScope s_Search_steps_to) (by decide +kernel)) (fun _ _ _ _ _ => (pg_name (i := 9) nd rfl (Or.inl rfl))) (fun _ _ _ _ _ => pts_nil) (fun _ _ _ _ _ => (pe_lst pa_nil)))
  (pss_cons (ps_for (passes_of rfl) rfl (pi_range1 (by rfl) T.range (pa_cons (pe_callB call_len_seq (by rfl) T.len PySem.boot_len (pa_cons (pe_fld (pv 0) rfl) pa_nil)) pa_nil)) (pg_name (i := 4) nd rfl (Or.inl rfl)) (pss_one (ps_for (passes_of rfl) rfl (pi_list (pe_ix ix_list (pe_fld (pv 0) rfl) (pv 4) (fun _ _ => rfl))) (pg_tup rfl (pgs_cons (pg_name (i := 5) nd rfl (Or.inl rfl)) (pgs_cons (pg_name (i := 6) nd rfl (Or.inl rfl)) pgs_nil))) (pss_one (ps_expr (pe_bm PySem.F.plainAttrs_list PySem.F.slot_list_append PySem.F.type_list_append mt_append (pe_ix ix_list (pv 3) (pv 6) (fun _ _ => rfl)) (pa_cons (pv 4) pa_nil)))))))
  (pss_cons (ps_set (i := 7) nd rfl (Or.inl rfl) (pe_lst (pa_cons (pe_dget (hu_of hr) (pe_fld (pv 0) rfl) (pv 1) (fun _ _ => rfl)) pa_nil)))
  (pss_cons (ps_asg pe_int (pg_sub (pv 2) (pe_ix ix_list (pv 7) pe_int (fun _ _ => rfl)) set_list))
  (pss_cons (ps_set (i := 4) nd rfl (Or.inl rfl) pe_int)
  (pss_cons (ps_while (passes_of rfl) (pt_cmpR op_lt (pv 4) (pe_callB call_len_seq (by rfl) T.len PySem.boot_len (pa_cons (pv 7) pa_nil)) (nomark _)) (pss_cons (ps_set (i := 8) nd rfl (Or.inl rfl) (pe_ix ix_list (pv 7) (pv 4) (fun _ _ => rfl)))
  (pss_cons (ps_for (passes_of rfl) rfl (pi_list (pe_ix ix_list (pv 3) (pv 8) (fun _ _ => rfl))) (pg_name (i := 6) nd rfl (Or.inl rfl)) (pss_one (ps_if (pt_cmpR op_isN1 (pe_ix ix_list (pv 2) (pv 6) (fun _ _ => rfl)) pe_non (nomark _)) (pss_cons (ps_asg (pe_op op_add (pe_ix ix_list (pv 2) (pv 8) (fun _ _ => rfl)) pe_int) (pg_sub (pv 2) (pv 6) set_list))
  (pss_one (ps_expr (pe_bm PySem.F.plainAttrs_list PySem.F.slot_list_append PySem.F.type_list_append mt_append (pv 7) (pa_cons (pv 6) pa_nil))))) pss_nil)))
  (pss_one (ps_aug (i := 4) nd rfl (Or.inl rfl) pe_int ip_add)))))
  (pss_one (ps_ret (pv 2)))))))))))
theorem sc_Search_first_run : FnScope N_Search_first_run ["self", "at", "steps"] (defScope s_Search_first_run) := ⟨rfl, rfl, rfl, by decide +kernel, rfl, by decide +kernel, by decide +kernel⟩
theorem ok_Search_first_run {cs : Cs} (D : MethAt K cs.se "first_run" "Search.first_run" s_Search_first_run ["self", "at", "steps"]) (T : Txt K mg cs) : MCal P w K mg base 1 cs.se "first_run" ["self", "at", "steps"] (sp_Search_first_run cs) := by
  have nd := (sc_Search_first_run).nd
  refine mcal_mk (t := fun E => t_Search_first_run K cs E) (N := N_Search_first_run) D sc_Search_first_run (fun vs H Q E h => len_Search_first_run h) (fun f cdv A outer s H E hr => ?_) (fun vs H Q E h => pure_Search_first_run T h)
  exact (pss_cons (ps_set (i := 3) nd rfl (Or.inl rfl) (pe_lst pa_nil))
  (pss_cons (ps_set (i := 4) nd rfl (Or.inl rfl) (pv 1))
  (pss_cons (ps_while (passes_of rfl) (pt_cmpR op_gt (pe_ix ix_list (pv 2) (pv 4) (fun _ _ => rfl)) pe_int (nomark _)) (pss_one (ps_for (passes_of rfl) rfl (pi_list (pe_ix ix_list (pe_fld (pv 0) rfl) (pv 4) (fun _ _ => rfl))) (pg_tup rfl (pgs_cons (pg_name (i := 5) nd rfl (Or.inl rfl)) (pgs_cons (pg_name (i := 6) nd rfl (Or.inl rfl)) pgs_nil))) (pss_one (ps_if (PW.pt (pw_and (pt_cmpR op_notN1 (pe_ix ix_list (pv 2) (pv 6) (fun _ _ => rfl)) pe_non (nomark _)) (pw_and1 (pt_cmpR (op_eqD hr.units) (pe_ix ix_list (pv 2) (pv 6) (fun _ _ => rfl)) (pe_op op_sub (pe_ix ix_list (pv 2) (pv 4) (fun _ _ => rfl)) pe_int) (nomark _))))) (pss_cons (ps_expr (pe_bm PySem.F.plainAttrs_list PySem.F.slot_list_append PySem.F.type_list_append mt_append (pv 3) (pa_cons (pv 5) pa_nil)))
  (pss_cons (ps_set (i := 4) nd rfl (Or.inl rfl) (pv 6))
  (pss_one ps_break))) pss_nil)))))
  (pss_one (ps_ret (pe_callTy call_tuple_of (by rfl) T.tuple_ (by decide +kernel) (pa_cons (pv 3) pa_nil)))))))
theorem sc_best_run : FnScope N_best_run ["rule", "start", "kinds", "n"] (defScope s_best_run) := ⟨rfl, rfl, rfl, by decide +kernel, rfl, by decide +kernel, by decide +kernel⟩
theorem ok_best_run {cs : Cs} (D : DefAt K mg "best_run" s_best_run ["rule", "start", "kinds", "n"]) (T : Txt K mg cs) (c_times_all : Cal P w K mg base 1 "times_all" ["times", "row"] sp_times_all) (c_Search___init__ : MkCal P w K mg base 6 cs.se "Search" ["self", "rule", "standing", "most", "barrier"] (sp_Search___init__ cs)) (c_count_in : Cal P w K mg base 1 "count_in" ["standing", "kinds"] sp_count_in) (c_Search_steps_to : MCal P w K mg base 1 cs.se "steps_to" ["self", "goal"] (sp_Search_steps_to cs)) (c_Search_first_run : MCal P w K mg base 1 cs.se "first_run" ["self", "at", "steps"] (sp_Search_first_run cs)) : CalX P w K mg base 8 "best_run" ["rule", "start", "kinds", "n"] (sp_best_run cs) := by
  have nd := (sc_best_run).nd
  refine calx_mk (t := fun E => t_best_run K cs E) (N := N_best_run) D sc_best_run (fun vs H Q E h => len_best_run h) (fun f cdv A outer s H E hr => ?_) (fun vs H Q E h => pure_best_run T h)
  exact (pss_cons (ps_set (i := 4) nd rfl (Or.inl rfl) (pe_makeX c_Search___init__ (hr.mono (by decide)) rfl (passes_call (takes_of rfl rfl rfl rfl) (fun _ _ _ _ h => h)) (pa_cons (pv 0) (pa_cons (pe_callC c_times_all (hr.mono (by decide)) rfl (pa_cons (pv 3) (pa_cons (pv 1) pa_nil))) (pa_cons (pe_globC (by rfl) T.g_MOST_STANDINGS) (pa_cons pe_non pa_nil))))))
  (pss_cons (ps_setLc (i := 5) (own := [("standing", 7)]) (g := (gName 7)) (tt := tYes) rfl nd rfl rfl (sw_true rfl rfl rfl (by decide +kernel)) (pi_list (pe_fld (pv 4) rfl)) (blkOk_by (own := [("standing", 7)]) (N := N_best_run) (sc := defScope s_best_run) (by decide +kernel)) (fun _ _ _ _ _ => (pg_name (i := 7) nd rfl (Or.inl rfl))) (fun _ _ _ _ _ => pts_nil) (fun _ _ _ _ _ => (pe_callC c_count_in (hr.mono (by decide)) rfl (pa_cons (pv 7) (pa_cons (pv 2) pa_nil)))))
  (pss_cons (ps_set (i := 6) nd rfl (Or.inl rfl) (pe_ix ix_list (pe_fld (pv 4) rfl) (pe_bm PySem.F.plainAttrs_list PySem.F.slot_list_index PySem.F.type_list_index mt_index (pv 5) (pa_cons (pe_callB (cr_max rfl) (by rfl) T.max (by decide +kernel) (pa_cons (pv 5) pa_nil)) pa_nil)) (fun _ _ => rfl)))
  (pss_one (ps_ret (pe_methX c_Search_first_run T.cl_Search (hr.mono (by decide)) (passes_call (takes_of rfl rfl rfl rfl) (fun _ _ _ _ h => h)) (pv 4) (pa_cons pe_int (pa_cons (pe_methX c_Search_steps_to T.cl_Search (hr.mono (by decide)) (passes_call (takes_of rfl rfl rfl rfl) (fun _ _ _ _ h => h)) (pv 4) (pa_cons (pv 6) pa_nil)) pa_nil))))))))
theorem sc__law_refused : FnScope N__law_refused ["way", "rule", "start", "kinds", "n"] (defScope s__law_refused) := ⟨rfl, rfl, rfl, by decide +kernel, rfl, by decide +kernel, by decide +kernel⟩
theorem ok__law_refused {cs : Cs} (D : DefAt K mg "_law_refused" s__law_refused ["way", "rule", "start", "kinds", "n"]) (T : Txt K mg cs) (IS : IsTxt K mg cs) (c_most_at : CalX P w K mg base 8 "most_at" ["rule", "start", "kinds", "n"] (sp_most_at cs)) (c_least_left : CalX P w K mg base 9 "least_left" ["rule", "start", "kinds", "n"] (sp_least_left cs)) (c_best_run : CalX P w K mg base 8 "best_run" ["rule", "start", "kinds", "n"] (sp_best_run cs)) : Cal P w K mg base 10 "_law_refused" ["way", "rule", "start", "kinds", "n"] sp__law_refused := by
  have nd := (sc__law_refused).nd
  refine cal_mk (t := t__law_refused K cs) (N := N__law_refused) D sc__law_refused (fun vs H Q E h => len__law_refused h) (fun f cdv A outer s H E hr => ?_) (fun vs H Q E h => pure__law_refused T h)
  exact (pss_cons (ps_try_as (i := 5) (tb := (fun W => (tIfS (tTest (tOp rEq (tVar 0) (tC (.int 0)))) (tDrop (tCallS (sp_most_at cs) (WE W) (tCons (tVar 1) (tCons (tVar 2) (tCons (tVar 3) (tCons (tVar 4) tNil)))))) (tIfS (tTest (tOp rEq (tVar 0) (tC (.int 1)))) (tDrop (tCallS (sp_least_left cs) (WE W) (tCons (tVar 1) (tCons (tVar 2) (tCons (tVar 3) (tCons (tVar 4) tNil)))))) (tDrop (tCallS (sp_best_run cs) (WE W) (tCons (tVar 1) (tCons (tVar 2) (tCons (tVar 3) (tCons (tVar 4) tNil)))))))))) (ts := (fun a cls d => tRet (tIsTm cs a cls d (tVar 5)))) (Wout := fun _ _ _ _ => False) rfl rfl nd rfl rfl ⟨rfl, by decide, .inl IS.g_MusterError⟩ takes0 (fun W pn xe tk _ => (pss_one (ps_if (pt_cmpR op_eq (pv 0) pe_int (nomark _)) (pss_one (ps_expr (pe_callXS c_most_at (hr.mono (by decide)) rfl (fun σ => passAt tk σ) (pa_cons (pv 1) (pa_cons (pv 2) (pa_cons (pv 3) (pa_cons (pv 4) pa_nil))))))) (pss_one (ps_if (pt_cmpR op_eq (pv 0) pe_int (nomark _)) (pss_one (ps_expr (pe_callXS c_least_left (hr.mono (by decide)) rfl (fun σ => passAt tk σ) (pa_cons (pv 1) (pa_cons (pv 2) (pa_cons (pv 3) (pa_cons (pv 4) pa_nil))))))) (pss_one (ps_expr (pe_callXS c_best_run (hr.mono (by decide)) rfl (fun σ => passAt tk σ) (pa_cons (pv 1) (pa_cons (pv 2) (pa_cons (pv 3) (pa_cons (pv 4) pa_nil)))))))))))) (fun a oe cls d pn hz hf => pss_one (ps_ret (pe_isTm IS (hr.mono (by decide)) hz hf (pv 5)))))
  (pss_one (ps_ret pe_bl)))
theorem sc__law_is_int : FnScope N__law_is_int ["thing"] (defScope s__law_is_int) := ⟨rfl, rfl, rfl, by decide +kernel, rfl, by decide +kernel, by decide +kernel⟩
theorem ok__law_is_int (D : DefAt K mg "_law_is_int" s__law_is_int ["thing"]) (T : Bi mg) : Cal P w K mg base 1 "_law_is_int" ["thing"] sp__law_is_int := by
  have nd := (sc__law_is_int).nd
  refine cal_mk (t := t__law_is_int K) (N := N__law_is_int) D sc__law_is_int (fun vs H Q E h => len__law_is_int h) (fun f cdv A outer s H E hr => ?_) (fun vs H Q E h => pure__law_is_int h)
  exact (pss_one (ps_ret (pe_and (pe_callB call_isi (by rfl) T.isinstance (by decide +kernel) (pa_cons (pv 0) (pa_cons (pe_bltn (v := .ty "int") (by rfl) T.int_ (by decide +kernel) rfl) pa_nil))) (pe_one (pe_not (pe_callB call_isi (by rfl) T.isinstance (by decide +kernel) (pa_cons (pv 0) (pa_cons (pe_bltn (v := .ty "bool") (by rfl) T.bool_ (by decide +kernel) rfl) pa_nil))))))))
theorem sc__law_is_ints : FnScope N__law_is_ints ["row"] (defScope s__law_is_ints) := ⟨rfl, rfl, rfl, by decide +kernel, rfl, by decide +kernel, by decide +kernel⟩
theorem ok__law_is_ints (D : DefAt K mg "_law_is_ints" s__law_is_ints ["row"]) (T : Bi mg) (c__law_is_int : Cal P w K mg base 1 "_law_is_int" ["thing"] sp__law_is_int) : Cal P w K mg base 2 "_law_is_ints" ["row"] sp__law_is_ints := by
  have nd := (sc__law_is_ints).nd
  refine cal_mk (t := t__law_is_ints K) (N := N__law_is_ints) D sc__law_is_ints (fun vs H Q E h => len__law_is_ints h) (fun f cdv A outer s H E hr => ?_) (fun vs H Q E h => pure__law_is_ints h)
  exact (pss_one (ps_ret (pe_and (pe_callB call_isi (by rfl) T.isinstance (by decide +kernel) (pa_cons (pv 0) (pa_cons (pe_bltn (v := .ty "tuple") (by rfl) T.tuple_ (by decide +kernel) rfl) pa_nil))) (pe_one (pe_callB (cr_all rfl) (by rfl) T.all (by decide +kernel) (pa_cons (pe_lc (own := [("part", 1)]) (g := (gName 1)) (tt := tYes) rfl nd (pi_tup (pv 0)) (blkOk_by (own := [("part", 1)]) (N := N__law_is_ints) (sc := defScope s__law_is_ints) (by decide +kernel)) (fun _ _ _ _ _ => (pg_name (i := 1) nd rfl (Or.inl rfl))) (fun _ _ _ _ _ => pts_nil) (fun _ _ _ _ _ => (pe_callC c__law_is_int (hr.mono (by decide)) rfl (pa_cons (pv 1) pa_nil)))) pa_nil))))))
theorem sc__law_ring_steps : FnScope N__law_ring_steps ["start", "kinds"] (defScope s__law_ring_steps) := ⟨rfl, rfl, rfl, by decide +kernel, rfl, by decide +kernel, by decide +kernel⟩
theorem ok__law_ring_steps (D : DefAt K mg "_law_ring_steps" s__law_ring_steps ["start", "kinds"]) (T : Bi mg) : Cal P w K mg base 1 "_law_ring_steps" ["start", "kinds"] sp__law_ring_steps := by
  have nd := (sc__law_ring_steps).nd
  refine cal_mk (t := t__law_ring_steps K) (N := N__law_ring_steps) D sc__law_ring_steps (fun vs H Q E h => len__law_ring_steps h) (fun f cdv A outer s H E hr => ?_) (fun vs H Q E h => pure__law_ring_steps h)
  exact (pss_cons (ps_set (i := 2) nd rfl (Or.inr rfl) (pe_callB call_len_seq (by rfl) T.len PySem.boot_len (pa_cons (pv 0) pa_nil)))
  (pss_cons (ps_set (i := 3) nd rfl (Or.inl rfl) pe_int)
  (pss_cons (ps_for PassesOwn.never rfl (pi_range1 (by rfl) T.range (pa_cons (pv 2) pa_nil)) (pg_name (i := 4) nd rfl (Or.inr rfl)) (pss_cons (ps_setLc (i := 5) (own := [("step", 6)]) (g := (gName 6)) (tt := (tTest (tOp (rIn K false) (tOp oMod (tCB rInt1 (tCons (tOp oAdd (tVar 4) (tVar 6)) tNil)) (tVar 2)) (tVar 1)))) rfl nd rfl rfl (sw_true rfl rfl rfl (by decide +kernel)) (pi_range1 (by rfl) T.range (pa_cons (pv 2) pa_nil)) (blkOk_by (own := [("step", 6)]) (N := N__law_ring_steps) (sc := defScope s__law_ring_steps) (by decide +kernel)) (fun _ _ _ _ _ => (pg_name (i := 6) nd rfl (Or.inl rfl))) (fun _ _ _ _ _ => (pts_one (pt_cmpR op_in_seq (pe_op op_mod (pe_callTy call_int1 (by rfl) T.int_ (by decide +kernel) (pa_cons (pe_op op_add (pv 4) (pv 6)) pa_nil)) (pv 2)) (pv 1) (by rfl)))) (fun _ _ _ _ _ => (pv 6)))
  (pss_one (ps_aug (i := 3) nd rfl (Or.inl rfl) (pe_op op_mul (pe_ix ix_tup (pv 0) (pv 4) (fun _ _ => rfl)) (pe_ix ix_list (pv 5) pe_int (fun _ _ => rfl))) ip_add))))
  (pss_one (ps_ret (pv 3))))))
theorem sc__law_times : FnScope N__law_times ["n", "row"] (defScope s__law_times) := ⟨rfl, rfl, rfl, by decide +kernel, rfl, by decide +kernel, by decide +kernel⟩
theorem ok__law_times (D : DefAt K mg "_law_times" s__law_times ["n", "row"]) (T : Bi mg) : Cal P w K mg base 1 "_law_times" ["n", "row"] sp__law_times := by
  have nd := (sc__law_times).nd
  refine cal_mk (t := t__law_times K) (N := N__law_times) D sc__law_times (fun vs H Q E h => len__law_times h) (fun f cdv A outer s H E hr => ?_) (fun vs H Q E h => pure__law_times h)
  exact (pss_one (ps_ret (pe_callTy call_tuple_of (by rfl) T.tuple_ (by decide +kernel) (pa_cons (pe_lc (own := [("part", 2)]) (g := (gName 2)) (tt := tYes) rfl nd (pi_tup (pv 1)) (blkOk_by (own := [("part", 2)]) (N := N__law_times) (sc := defScope s__law_times) (by decide +kernel)) (fun _ _ _ _ _ => (pg_name (i := 2) nd rfl (Or.inl rfl))) (fun _ _ _ _ _ => pts_nil) (fun _ _ _ _ _ => (pe_op op_mul (pv 0) (pv 2)))) pa_nil))))
theorem sc__law_under : FnScope N__law_under ["one", "other"] (defScope s__law_under) := ⟨rfl, rfl, rfl, by decide +kernel, rfl, by decide +kernel, by decide +kernel⟩
theorem ok__law_under (D : DefAt K mg "_law_under" s__law_under ["one", "other"]) (T : Bi mg) : Cal P w K mg base 1 "_law_under" ["one", "other"] sp__law_under := by
  have nd := (sc__law_under).nd
  refine cal_mk (t := t__law_under K) (N := N__law_under) D sc__law_under (fun vs H Q E h => len__law_under h) (fun f cdv A outer s H E hr => ?_) (fun vs H Q E h => pure__law_under h)
  exact (pss_one (ps_ret (pe_callB (cr_all rfl) (by rfl) T.all (by decide +kernel) (pa_cons (pe_lc (own := [("left", 2), ("right", 3)]) (g := (gTup K 2 (gCons (gName 2) (gCons (gName 3) gNil)))) (tt := tYes) rfl nd (RZ.pi_zipA (by rfl) T.zip (pa_cons (pv 0) (pa_cons (pv 1) pa_nil))) (blkOk_by (own := [("left", 2), ("right", 3)]) (N := N__law_under) (sc := defScope s__law_under) (by decide +kernel)) (fun _ _ _ _ _ => (pg_tup rfl (pgs_cons (pg_name (i := 2) nd rfl (Or.inl rfl)) (pgs_cons (pg_name (i := 3) nd rfl (Or.inl rfl)) pgs_nil)))) (fun _ _ _ _ _ => pts_nil) (fun _ _ _ _ _ => (pe_cmpR op_le (pv 2) (pv 3) (nomark _)))) pa_nil))))
theorem sc__law_can : FnScope N__law_can ["rule", "standing", "t"] (defScope s__law_can) := ⟨rfl, rfl, rfl, by decide +kernel, rfl, by decide +kernel, by decide +kernel⟩
theorem ok__law_can (D : DefAt K mg "_law_can" s__law_can ["rule", "standing", "t"]) (T : Bi mg) (c__law_under : Cal P w K mg base 1 "_law_under" ["one", "other"] sp__law_under) : Cal P w K mg base 2 "_law_can" ["rule", "standing", "t"] sp__law_can := by
  have nd := (sc__law_can).nd
  refine cal_mk (t := t__law_can K) (N := N__law_can) D sc__law_can (fun vs H Q E h => len__law_can h) (fun f cdv A outer s H E hr => ?_) (fun vs H Q E h => pure__law_can h)
  exact (pss_one (ps_ret (pe_callC c__law_under (hr.mono (by decide)) rfl (pa_cons (pe_ix ix_tup (pe_ix ix_tup (pe_ix ix_tup (pv 0) pe_int (fun _ _ => rfl)) (pv 2) (fun _ _ => rfl)) pe_int (fun _ _ => rfl)) (pa_cons (pv 1) pa_nil)))))
theorem sc__law_minus : FnScope N__law_minus ["one", "other"] (defScope s__law_minus) := ⟨rfl, rfl, rfl, by decide +kernel, rfl, by decide +kernel, by decide +kernel⟩
theorem ok__law_minus (D : DefAt K mg "_law_minus" s__law_minus ["one", "other"]) (T : Bi mg) : Cal P w K mg base 1 "_law_minus" ["one", "other"] sp__law_minus := by
  have nd := (sc__law_minus).nd
  refine cal_mk (t := t__law_minus K) (N := N__law_minus) D sc__law_minus (fun vs H Q E h => len__law_minus h) (fun f cdv A outer s H E hr => ?_) (fun vs H Q E h => pure__law_minus h)
  exact (pss_one (ps_ret (pe_callTy call_tuple_of (by rfl) T.tuple_ (by decide +kernel) (pa_cons (pe_lc (own := [("left", 2), ("right", 3)]) (g := (gTup K 2 (gCons (gName 2) (gCons (gName 3) gNil)))) (tt := tYes) rfl nd (RZ.pi_zipA (by rfl) T.zip (pa_cons (pv 0) (pa_cons (pv 1) pa_nil))) (blkOk_by (own := [("left", 2), ("right", 3)]) (N := N__law_minus) (sc := defScope s__law_minus) (by decide +kernel)) (fun _ _ _ _ _ => (pg_tup rfl (pgs_cons (pg_name (i := 2) nd rfl (Or.inl rfl)) (pgs_cons (pg_name (i := 3) nd rfl (Or.inl rfl)) pgs_nil)))) (fun _ _ _ _ _ => pts_nil) (fun _ _ _ _ _ => (pe_op op_sub (pv 2) (pv 3)))) pa_nil))))
theorem sc__law_change : FnScope N__law_change ["rule", "t"] (defScope s__law_change) := ⟨rfl, rfl, rfl, by decide +kernel, rfl, by decide +kernel, by decide +kernel⟩
theorem ok__law_change (D : DefAt K mg "_law_change" s__law_change ["rule", "t"]) (T : Bi mg) (c__law_minus : Cal P w K mg base 1 "_law_minus" ["one", "other"] sp__law_minus) : Cal P w K mg base 2 "_law_change" ["rule", "t"] sp__law_change := by
  have nd := (sc__law_change).nd
  refine cal_mk (t := t__law_change K) (N := N__law_change) D sc__law_change (fun vs H Q E h => len__law_change h) (fun f cdv A outer s H E hr => ?_) (fun vs H Q E h => pure__law_change h)
  exact (pss_one (ps_ret (pe_callC c__law_minus (hr.mono (by decide)) rfl (pa_cons (pe_ix ix_tup (pe_ix ix_tup (pe_ix ix_tup (pv 0) pe_int (fun _ _ => rfl)) (pv 1) (fun _ _ => rfl)) pe_int (fun _ _ => rfl)) (pa_cons (pe_ix ix_tup (pe_ix ix_tup (pe_ix ix_tup (pv 0) pe_int (fun _ _ => rfl)) (pv 1) (fun _ _ => rfl)) pe_int (fun _ _ => rfl)) pa_nil)))))
theorem sc__law_plus : FnScope N__law_plus ["one", "other"] (defScope s__law_plus) := ⟨rfl, rfl, rfl, by decide +kernel, rfl, by decide +kernel, by decide +kernel⟩
theorem ok__law_plus (D : DefAt K mg "_law_plus" s__law_plus ["one", "other"]) (T : Bi mg) : Cal P w K mg base 1 "_law_plus" ["one", "other"] sp__law_plus := by
  have nd := (sc__law_plus).nd
  refine cal_mk (t := t__law_plus K) (N := N__law_plus) D sc__law_plus (fun vs H Q E h => len__law_plus h) (fun f cdv A outer s H E hr => ?_) (fun vs H Q E h => pure__law_plus h)
  exact (pss_one (ps_ret (pe_callTy call_tuple_of (by rfl) T.tuple_ (by decide +kernel) (pa_cons (pe_lc (own := [("left", 2), ("right", 3)]) (g := (gTup K 2 (gCons (gName 2) (gCons (gName 3) gNil)))) (tt := tYes) rfl nd (RZ.pi_zipA (by rfl) T.zip (pa_cons (pv 0) (pa_cons (pv 1) pa_nil))) (blkOk_by (own := [("left", 2), ("right", 3)]) (N := N__law_plus) (sc := defScope s__law_plus) (by decide +kernel)) (fun _ _ _ _ _ => (pg_tup rfl (pgs_cons (pg_name (i := 2) nd rfl (Or.inl rfl)) (pgs_cons (pg_name (i := 3) nd rfl (Or.inl rfl)) pgs_nil)))) (fun _ _ _ _ _ => pts_nil) (fun _ _ _ _ _ => (pe_op op_add (pv 2) (pv 3)))) pa_nil))))
theorem sc__law_after : FnScope N__law_after ["rule", "standing", "t"] (defScope s__law_after) := ⟨rfl, rfl, rfl, by decide +kernel, rfl, by decide +kernel, by decide +kernel⟩
theorem ok__law_after (D : DefAt K mg "_law_after" s__law_after ["rule", "standing", "t"]) (T : Bi mg) (c__law_change : Cal P w K mg base 2 "_law_change" ["rule", "t"] sp__law_change) (c__law_plus : Cal P w K mg base 1 "_law_plus" ["one", "other"] sp__law_plus) : Cal P w K mg base 3 "_law_after" ["rule", "standing", "t"] sp__law_after := by
  have nd := (sc__law_after).nd
  refine cal_mk (t := t__law_after K) (N := N__law_after) D sc__law_after (fun vs H Q E h => len__law_after h) (fun f cdv A outer s H E hr => ?_) (fun vs H Q E h => pure__law_after h)
  exact (pss_one (ps_ret (pe_callC c__law_plus (hr.mono (by decide)) rfl (pa_cons (pv 1) (pa_cons (pe_callC c__law_change (hr.mono (by decide)) rfl (pa_cons (pv 0) (pa_cons (pv 2) pa_nil))) pa_nil)))))
theorem sc__law_run_end : FnScope N__law_run_end ["rule", "standing", "run"] (defScope s__law_run_end) := ⟨rfl, rfl, rfl, by decide +kernel, rfl, by decide +kernel, by decide +kernel⟩
theorem ok__law_run_end (D : DefAt K mg "_law_run_end" s__law_run_end ["rule", "standing", "run"]) (T : Bi mg) (c__law_is_int : Cal P w K mg base 1 "_law_is_int" ["thing"] sp__law_is_int) (c__law_can : Cal P w K mg base 2 "_law_can" ["rule", "standing", "t"] sp__law_can) (c__law_after : Cal P w K mg base 3 "_law_after" ["rule", "standing", "t"] sp__law_after) : Cal P w K mg base 4 "_law_run_end" ["rule", "standing", "run"] sp__law_run_end := by
  have nd := (sc__law_run_end).nd
  refine cal_mk (t := t__law_run_end K) (N := N__law_run_end) D sc__law_run_end (fun vs H Q E h => len__law_run_end h) (fun f cdv A outer s H E hr => ?_) (fun vs H Q E h => pure__law_run_end h)
  exact (pss_cons (ps_set (i := 3) nd rfl (Or.inl rfl) (pv 1))
  (pss_cons (ps_for PassesOwn.never rfl (pi_tup (pv 2)) (pg_name (i := 4) nd rfl (Or.inl rfl)) (pss_cons (ps_if (PW.pt (pw_or (pt_not (pt_val (pe_callC c__law_is_int (hr.mono (by decide)) rfl (pa_cons (pv 4) pa_nil)))) (pw_or (pt_not (pt_chain op_le op_lt pe_int (pv 4) (pe_callB call_len_seq (by rfl) T.len PySem.boot_len (pa_cons (pe_ix ix_tup (pv 0) pe_int (fun _ _ => rfl)) pa_nil)))) (pw_or1 (pt_not (pt_val (pe_callC c__law_can (hr.mono (by decide)) rfl (pa_cons (pv 0) (pa_cons (pv 3) (pa_cons (pv 4) pa_nil)))))))))) (pss_one (ps_ret pe_non)) pss_nil)
  (pss_one (ps_set (i := 3) nd rfl (Or.inl rfl) (pe_callC c__law_after (hr.mono (by decide)) rfl (pa_cons (pv 0) (pa_cons (pv 3) (pa_cons (pv 4) pa_nil))))))))
  (pss_one (ps_ret (pv 3)))))
theorem sc__law_inside : FnScope N__law_inside ["standing", "kinds"] (defScope s__law_inside) := ⟨rfl, rfl, rfl, by decide +kernel, rfl, by decide +kernel, by decide +kernel⟩
theorem ok__law_inside (D : DefAt K mg "_law_inside" s__law_inside ["standing", "kinds"]) (T : Bi mg) : Cal P w K mg base 1 "_law_inside" ["standing", "kinds"] sp__law_inside := by
  have nd := (sc__law_inside).nd
  refine cal_mk (t := t__law_inside K) (N := N__law_inside) D sc__law_inside (fun vs H Q E h => len__law_inside h) (fun f cdv A outer s H E hr => ?_) (fun vs H Q E h => pure__law_inside h)
  exact (pss_one (ps_ret (pe_callB (cr_sum rfl) (by rfl) T.sum (by decide +kernel) (pa_cons (pe_lc (own := [("kind", 2)]) (g := (gName 2)) (tt := tYes) rfl nd (pi_tup (pv 1)) (blkOk_by (own := [("kind", 2)]) (N := N__law_inside) (sc := defScope s__law_inside) (by decide +kernel)) (fun _ _ _ _ _ => (pg_name (i := 2) nd rfl (Or.inl rfl))) (fun _ _ _ _ _ => pts_nil) (fun _ _ _ _ _ => (pe_ix ix_tup (pv 0) (pv 2) (fun _ _ => rfl)))) pa_nil))))
theorem sc__law_ring_right : FnScope N__law_ring_right ["d"] (defScope s__law_ring_right) := ⟨rfl, rfl, rfl, by decide +kernel, rfl, by decide +kernel, by decide +kernel⟩
theorem ok__law_ring_right {cs : Cs} (D : DefAt K mg "_law_ring_right" s__law_ring_right ["d"]) (T : Txt K mg cs) (c__law_pick : Cal P w K mg base 2 "_law_pick" ["d", "row"] sp__law_pick) (c__law_pool : Cal P w K mg base 1 "_law_pool" [] sp__law_pool) (c__law_pop : Cal P w K mg base 2 "_law_pop" ["d", "row"] sp__law_pop) (c__law_shuffled : Cal P w K mg base 2 "_law_shuffled" ["d", "row"] sp__law_shuffled) (c__law_listed : Cal P w K mg base 1 "_law_listed" ["many", "places"] sp__law_listed) (c__law_heap : Cal P w K mg base 2 "_law_heap" ["d", "many", "size"] sp__law_heap) (c__law_some_kinds : Cal P w K mg base 3 "_law_some_kinds" ["d", "many"] sp__law_some_kinds) (c__law_draw : Cal P w K mg base 1 "_law_draw" ["d", "many"] sp__law_draw) (c__law_size_of_crowd : Cal P w K mg base 1 "_law_size_of_crowd" ["task", "n"] sp__law_size_of_crowd) (c__law_refused : Cal P w K mg base 10 "_law_refused" ["way", "rule", "start", "kinds", "n"] sp__law_refused) (c_most_at : CalX P w K mg base 8 "most_at" ["rule", "start", "kinds", "n"] (sp_most_at cs)) (c__law_is_int : Cal P w K mg base 1 "_law_is_int" ["thing"] sp__law_is_int) (c_least_left : CalX P w K mg base 9 "least_left" ["rule", "start", "kinds", "n"] (sp_least_left cs)) (c_best_run : CalX P w K mg base 8 "best_run" ["rule", "start", "kinds", "n"] (sp_best_run cs)) (c__law_is_ints : Cal P w K mg base 2 "_law_is_ints" ["row"] sp__law_is_ints) (c__law_ring_steps : Cal P w K mg base 1 "_law_ring_steps" ["start", "kinds"] sp__law_ring_steps) (c__law_times : Cal P w K mg base 1 "_law_times" ["n", "row"] sp__law_times) (c__law_run_end : Cal P w K mg base 4 "_law_run_end" ["rule", "standing", "run"] sp__law_run_end) (c__law_inside : Cal P w K mg base 1 "_law_inside" ["standing", "kinds"] sp__law_inside) : Cal P w K mg base 11 "_law_ring_right" ["d"] sp__law_ring_right := by
  have nd := (sc__law_ring_right).nd
  refine cal_mk (t := t__law_ring_right K cs) (N := N__law_ring_right) D sc__law_ring_right (fun vs H Q E h => len__law_ring_right h) (fun f cdv A outer s H E hr => ?_) (fun vs H Q E h => pure__law_ring_right T h)
  exact (pss_cons (ps_set (i := 1) nd rfl (Or.inl rfl) (pe_lst (pa_cons (pe_tup (pa_cons pe_int (pa_cons pe_int (pa_cons pe_int pa_nil)))) (pa_cons (pe_tup (pa_cons pe_int (pa_cons pe_int (pa_cons pe_int pa_nil)))) (pa_cons (pe_tup (pa_cons pe_int (pa_cons pe_int (pa_cons pe_int pa_nil)))) (pa_cons (pe_tup (pa_cons pe_int (pa_cons pe_int (pa_cons pe_int pa_nil)))) (pa_cons (pe_tup (pa_cons pe_int (pa_cons pe_int (pa_cons pe_int pa_nil)))) (pa_cons (pe_tup (pa_cons pe_int (pa_cons pe_int (pa_cons pe_int pa_nil)))) (pa_cons (pe_tup (pa_cons pe_int (pa_cons pe_int (pa_cons pe_int pa_nil)))) (pa_cons (pe_tup (pa_cons pe_int (pa_cons pe_int (pa_cons pe_int pa_nil)))) pa_nil))))))))))
  (pss_cons (ps_asg (pe_callC c__law_pick (hr.mono (by decide)) rfl (pa_cons (pv 0) (pa_cons (pv 1) pa_nil))) (pg_tup rfl (pgs_cons (pg_name (i := 2) nd rfl (Or.inl rfl)) (pgs_cons (pg_name (i := 3) nd rfl (Or.inl rfl)) (pgs_cons (pg_name (i := 4) nd rfl (Or.inl rfl)) pgs_nil)))))
  (pss_cons (ps_set (i := 5) nd rfl (Or.inr rfl) (pe_callC0 c__law_pool (hr.mono (by decide)) rfl))
  (pss_cons (ps_set (i := 6) nd rfl (Or.inl rfl) (pe_callTy call_tuple_of (by rfl) T.tuple_ (by decide +kernel) (pa_cons (pe_lc (own := [("kind", 16)]) (g := (gName 16)) (tt := tYes) rfl nd (pi_range1 (by rfl) T.range (pa_cons (pv 2) pa_nil)) (blkOk_by (own := [("kind", 16)]) (N := N__law_ring_right) (sc := defScope s__law_ring_right) (by decide +kernel)) (fun _ _ _ _ _ => (pg_name (i := 16) nd rfl (Or.inl rfl))) (fun _ _ _ _ _ => pts_nil) (fun _ _ _ _ _ => (pe_callC c__law_pop (hr.mono (by decide)) rfl (pa_cons (pv 0) (pa_cons (pv 5) pa_nil))))) pa_nil)))
  (pss_cons (ps_set (i := 7) nd rfl (Or.inl rfl) (pe_lst pa_nil))
  (pss_cons (ps_for PassesOwn.never rfl (pi_list (pe_callC c__law_shuffled (hr.mono (by decide)) rfl (pa_cons (pv 0) (pa_cons (pe_listRg rfl (by rfl) T.list_ (prg_1 (by rfl) T.range (pv 2))) pa_nil)))) (pg_name (i := 8) nd rfl (Or.inl rfl)) (pss_one (ps_expr (pe_bm PySem.F.plainAttrs_list PySem.F.slot_list_append PySem.F.type_list_append mt_append (pv 7) (pa_cons (pe_tup (pa_cons (pe_callC c__law_pop (hr.mono (by decide)) rfl (pa_cons (pv 0) (pa_cons (pv 5) pa_nil))) (pa_cons (pe_callC c__law_listed (hr.mono (by decide)) rfl (pa_cons (pv 2) (pa_cons (pe_lst (pa_cons (pv 8) pa_nil)) pa_nil))) (pa_cons (pe_callC c__law_listed (hr.mono (by decide)) rfl (pa_cons (pv 2) (pa_cons (pe_lst (pa_cons (pe_op op_mod (pe_callTy call_int1 (by rfl) T.int_ (by decide +kernel) (pa_cons (pe_op op_add (pv 8) pe_int) pa_nil)) (pv 2)) pa_nil)) pa_nil))) pa_nil)))) pa_nil)))))
  (pss_cons (ps_set (i := 9) nd rfl (Or.inl rfl) (pe_tup (pa_cons (pv 6) (pa_cons (pe_callTy call_tuple_of (by rfl) T.tuple_ (by decide +kernel) (pa_cons (pv 7) pa_nil)) pa_nil))))
  (pss_cons (ps_set (i := 10) nd rfl (Or.inl rfl) (pe_callC c__law_heap (hr.mono (by decide)) rfl (pa_cons (pv 0) (pa_cons (pv 2) (pa_cons (pv 3) pa_nil)))))
  (pss_cons (ps_set (i := 11) nd rfl (Or.inl rfl) (pe_callC c__law_some_kinds (hr.mono (by decide)) rfl (pa_cons (pv 0) (pa_cons (pv 2) pa_nil))))
  (pss_cons (ps_set (i := 12) nd rfl (Or.inl rfl) (pe_callC c__law_draw (hr.mono (by decide)) rfl (pa_cons (pv 0) (pa_cons pe_int pa_nil))))
  (pss_cons (ps_if (pt_cmpR op_gt (pe_callC c__law_size_of_crowd (hr.mono (by decide)) rfl (pa_cons (pe_tup (pa_cons (pv 9) (pa_cons (pv 10) (pa_cons (pv 10) pa_nil)))) (pa_cons (pv 4) pa_nil))) pe_int (nomark _)) (pss_one (ps_ret (pe_callC c__law_refused (hr.mono (by decide)) rfl (pa_cons (pv 12) (pa_cons (pv 9) (pa_cons (pv 10) (pa_cons (pv 11) (pa_cons (pv 4) pa_nil)))))))) pss_nil)
  (pss_cons (ps_if (pt_cmpR op_eq (pv 12) pe_int (nomark _)) (pss_cons (ps_set (i := 13) nd rfl (Or.inl rfl) (pe_callX c_most_at (hr.mono (by decide)) rfl passL (pa_cons (pv 9) (pa_cons (pv 10) (pa_cons (pv 11) (pa_cons (pv 4) pa_nil))))))
  (pss_one (ps_ret (pe_and (pe_callC c__law_is_int (hr.mono (by decide)) rfl (pa_cons (pv 13) pa_nil)) (pe_one (pe_cmpR op_eq (pv 13) (pe_op op_mul (pv 4) (pv 3)) (nomark _))))))) pss_nil)
  (pss_cons (ps_if (pt_cmpR op_eq (pv 12) pe_int (nomark _)) (pss_cons (ps_set (i := 13) nd rfl (Or.inl rfl) (pe_callX c_least_left (hr.mono (by decide)) rfl passL (pa_cons (pv 9) (pa_cons (pv 10) (pa_cons (pv 11) (pa_cons (pv 4) pa_nil))))))
  (pss_one (ps_ret (pe_and (pe_callC c__law_is_int (hr.mono (by decide)) rfl (pa_cons (pv 13) pa_nil)) (pe_one (pe_cmpR op_eq (pv 13) pe_int (nomark _))))))) pss_nil)
  (pss_cons (ps_set (i := 14) nd rfl (Or.inl rfl) (pe_callX c_best_run (hr.mono (by decide)) rfl passL (pa_cons (pv 9) (pa_cons (pv 10) (pa_cons (pv 11) (pa_cons (pv 4) pa_nil))))))
  (pss_cons (ps_if (PW.pt (pw_or (pt_not (pt_val (pe_callC c__law_is_ints (hr.mono (by decide)) rfl (pa_cons (pv 14) pa_nil)))) (pw_or1 (pt_cmpR op_ne (pe_callB call_len_seq (by rfl) T.len PySem.boot_len (pa_cons (pv 14) pa_nil)) (pe_op op_mul (pv 4) (pe_callC c__law_ring_steps (hr.mono (by decide)) rfl (pa_cons (pv 10) (pa_cons (pv 11) pa_nil)))) (nomark _))))) (pss_one (ps_ret pe_bl)) pss_nil)
  (pss_cons (ps_set (i := 15) nd rfl (Or.inl rfl) (pe_callC c__law_run_end (hr.mono (by decide)) rfl (pa_cons (pv 9) (pa_cons (pe_callC c__law_times (hr.mono (by decide)) rfl (pa_cons (pv 4) (pa_cons (pv 10) pa_nil))) (pa_cons (pv 14) pa_nil)))))
  (pss_one (ps_ret (pe_and (pe_cmpR op_notN1 (pv 15) pe_non (nomark _)) (pe_one (pe_cmpR op_eq (pe_callC c__law_inside (hr.mono (by decide)) rfl (pa_cons (pv 15) (pa_cons (pv 11) pa_nil))) (pe_op op_mul (pv 4) (pv 3)) (nomark _))))))))))))))))))))))
theorem sc__law_deed : FnScope N__law_deed ["d", "name", "many"] (defScope s__law_deed) := ⟨rfl, rfl, rfl, by decide +kernel, rfl, by decide +kernel, by decide +kernel⟩
theorem ok__law_deed (D : DefAt K mg "_law_deed" s__law_deed ["d", "name", "many"]) (T : Bi mg) (c__law_draw : Cal P w K mg base 1 "_law_draw" ["d", "many"] sp__law_draw) (c__law_heap : Cal P w K mg base 2 "_law_heap" ["d", "many", "size"] sp__law_heap) : Cal P w K mg base 3 "_law_deed" ["d", "name", "many"] sp__law_deed := by
  have nd := (sc__law_deed).nd
  refine cal_mk (t := t__law_deed K) (N := N__law_deed) D sc__law_deed (fun vs H Q E h => len__law_deed h) (fun f cdv A outer s H E hr => ?_) (fun vs H Q E h => pure__law_deed h)
  exact (pss_cons (ps_set (i := 3) nd rfl (Or.inl rfl) pe_int)
  (pss_cons (ps_set (i := 4) nd rfl (Or.inl rfl) (pe_callC c__law_draw (hr.mono (by decide)) rfl (pa_cons (pv 0) (pa_cons pe_int pa_nil))))
  (pss_cons (ps_if (pt_cmpR op_eq (pv 4) pe_int (nomark _)) (pss_one (ps_set (i := 3) nd rfl (Or.inl rfl) pe_int)) pss_nil)
  (pss_cons (ps_if (pt_cmpR op_eq (pv 4) pe_int (nomark _)) (pss_one (ps_set (i := 3) nd rfl (Or.inl rfl) pe_int)) pss_nil)
  (pss_cons (ps_set (i := 5) nd rfl (Or.inr rfl) (pe_callC c__law_heap (hr.mono (by decide)) rfl (pa_cons (pv 0) (pa_cons (pv 2) (pa_cons (pv 3) pa_nil)))))
  (pss_cons (ps_set (i := 6) nd rfl (Or.inl rfl) (pe_callC c__law_heap (hr.mono (by decide)) rfl (pa_cons (pv 0) (pa_cons (pv 2) (pa_cons (pv 3) pa_nil)))))
  (pss_cons (ps_if (pt_cmpR op_eq (pe_callC c__law_draw (hr.mono (by decide)) rfl (pa_cons (pv 0) (pa_cons pe_int pa_nil))) pe_int (nomark _)) (pss_cons (ps_set (i := 7) nd rfl (Or.inl rfl) (pe_ix ix_list (pe_lc (own := [("at", 9)]) (g := (gName 9)) (tt := (tTest (tOp oGt (tOp (rIxT K) (tVar 5) (tVar 9)) (tC (.int 0))))) rfl nd (pi_range1 (by rfl) T.range (pa_cons (pv 2) pa_nil)) (blkOk_by (own := [("at", 9)]) (N := N__law_deed) (sc := defScope s__law_deed) (by decide +kernel)) (fun _ _ _ _ _ => (pg_name (i := 9) nd rfl (Or.inl rfl))) (fun _ _ _ _ _ => (pts_one (pt_cmpR op_gt (pe_ix ix_tup (pv 5) (pv 9) (fun _ _ => rfl)) pe_int (nomark _)))) (fun _ _ _ _ _ => (pv 9))) pe_int (fun _ _ => rfl)))
  (pss_cons (ps_set (i := 8) nd rfl (Or.inl rfl) (pe_callTy call_list_of (by rfl) T.list_ (by decide +kernel) (pa_cons (pv 5) pa_nil)))
  (pss_cons (ps_augS (pv 8) (pv 7) get_listP pe_int ip_sub set_list)
  (pss_cons (ps_augS (pv 8) (pe_callC c__law_draw (hr.mono (by decide)) rfl (pa_cons (pv 0) (pa_cons (pv 2) pa_nil))) get_listP pe_int ip_add set_list)
  (pss_one (ps_set (i := 6) nd rfl (Or.inl rfl) (pe_callTy call_tuple_of (by rfl) T.tuple_ (by decide +kernel) (pa_cons (pv 8) pa_nil)))))))) pss_nil)
  (pss_one (ps_ret (pe_tup (pa_cons (pv 1) (pa_cons (pv 5) (pa_cons (pv 6) pa_nil)))))))))))))
theorem sc__law_rule : FnScope N__law_rule ["d", "many", "deeds"] (defScope s__law_rule) := ⟨rfl, rfl, rfl, by decide +kernel, rfl, by decide +kernel, by decide +kernel⟩
theorem ok__law_rule (D : DefAt K mg "_law_rule" s__law_rule ["d", "many", "deeds"]) (T : Bi mg) (c__law_pool : Cal P w K mg base 1 "_law_pool" [] sp__law_pool) (c__law_pop : Cal P w K mg base 2 "_law_pop" ["d", "row"] sp__law_pop) (c__law_draw : Cal P w K mg base 1 "_law_draw" ["d", "many"] sp__law_draw) (c__law_deed : Cal P w K mg base 3 "_law_deed" ["d", "name", "many"] sp__law_deed) : Cal P w K mg base 4 "_law_rule" ["d", "many", "deeds"] sp__law_rule := by
  have nd := (sc__law_rule).nd
  refine cal_mk (t := t__law_rule K) (N := N__law_rule) D sc__law_rule (fun vs H Q E h => len__law_rule h) (fun f cdv A outer s H E hr => ?_) (fun vs H Q E h => pure__law_rule h)
  exact (pss_cons (ps_set (i := 3) nd rfl (Or.inr rfl) (pe_callC0 c__law_pool (hr.mono (by decide)) rfl))
  (pss_cons (ps_set (i := 4) nd rfl (Or.inl rfl) (pe_callTy call_tuple_of (by rfl) T.tuple_ (by decide +kernel) (pa_cons (pe_lc (own := [("kind", 7)]) (g := (gName 7)) (tt := tYes) rfl nd (pi_range1 (by rfl) T.range (pa_cons (pv 1) pa_nil)) (blkOk_by (own := [("kind", 7)]) (N := N__law_rule) (sc := defScope s__law_rule) (by decide +kernel)) (fun _ _ _ _ _ => (pg_name (i := 7) nd rfl (Or.inl rfl))) (fun _ _ _ _ _ => pts_nil) (fun _ _ _ _ _ => (pe_callC c__law_pop (hr.mono (by decide)) rfl (pa_cons (pv 0) (pa_cons (pv 3) pa_nil))))) pa_nil)))
  (pss_cons (ps_if (pt_cmpR op_eq (pe_callC c__law_draw (hr.mono (by decide)) rfl (pa_cons (pv 0) (pa_cons pe_int pa_nil))) pe_int (nomark _)) (pss_one (ps_set (i := 3) nd rfl (Or.inr rfl) (pe_callC0 c__law_pool (hr.mono (by decide)) rfl))) pss_nil)
  (pss_cons (ps_setLc (i := 5) (own := [("t", 6)]) (g := (gName 6)) (tt := tYes) rfl nd rfl rfl (sw_true rfl rfl rfl (by decide +kernel)) (pi_range1 (by rfl) T.range (pa_cons (pv 2) pa_nil)) (blkOk_by (own := [("t", 6)]) (N := N__law_rule) (sc := defScope s__law_rule) (by decide +kernel)) (fun _ _ _ _ _ => (pg_name (i := 6) nd rfl (Or.inl rfl))) (fun _ _ _ _ _ => pts_nil) (fun _ _ _ _ _ => (pe_callC c__law_deed (hr.mono (by decide)) rfl (pa_cons (pv 0) (pa_cons (pe_callC c__law_pop (hr.mono (by decide)) rfl (pa_cons (pv 0) (pa_cons (pv 3) pa_nil))) (pa_cons (pv 1) pa_nil))))))
  (pss_one (ps_ret (pe_tup (pa_cons (pv 4) (pa_cons (pe_callTy call_tuple_of (by rfl) T.tuple_ (by decide +kernel) (pa_cons (pv 5) pa_nil)) pa_nil)))))))))
theorem sc__law_heap_task : FnScope N__law_heap_task ["d", "numbers"] (defScope s__law_heap_task) := ⟨rfl, rfl, rfl, by decide +kernel, rfl, by decide +kernel, by decide +kernel⟩
theorem ok__law_heap_task (D : DefAt K mg "_law_heap_task" s__law_heap_task ["d", "numbers"]) (T : Bi mg) (c__law_pool : Cal P w K mg base 1 "_law_pool" [] sp__law_pool) (c__law_pop : Cal P w K mg base 2 "_law_pop" ["d", "row"] sp__law_pop) (c__law_listed : Cal P w K mg base 1 "_law_listed" ["many", "places"] sp__law_listed) : Cal P w K mg base 3 "_law_heap_task" ["d", "numbers"] sp__law_heap_task := by
  have nd := (sc__law_heap_task).nd
  refine cal_mk (t := t__law_heap_task K) (N := N__law_heap_task) D sc__law_heap_task (fun vs H Q E h => len__law_heap_task h) (fun f cdv A outer s H E hr => ?_) (fun vs H Q E h => pure__law_heap_task h)
  exact (pss_cons (ps_set (i := 2) nd rfl (Or.inl rfl) (pe_callB (call_max2 rfl) (by rfl) T.max (by decide +kernel) (pa_cons pe_int (pa_cons (pe_op op_sub (pe_callB (cr_max rfl) (by rfl) T.max (by decide +kernel) (pa_cons (pe_callTy call_list_of (by rfl) T.list_ (by decide +kernel) (pa_cons (pv 1) pa_nil)) pa_nil)) pe_int) pa_nil))))
  (pss_cons (ps_set (i := 3) nd rfl (Or.inl rfl) (pe_op op_add (pv 2) pe_int))
  (pss_cons (ps_set (i := 4) nd rfl (Or.inr rfl) (pe_callC0 c__law_pool (hr.mono (by decide)) rfl))
  (pss_cons (ps_set (i := 5) nd rfl (Or.inl rfl) (pe_callTy call_tuple_of (by rfl) T.tuple_ (by decide +kernel) (pa_cons (pe_lc (own := [("kind", 11)]) (g := (gName 11)) (tt := tYes) rfl nd (pi_range1 (by rfl) T.range (pa_cons (pv 3) pa_nil)) (blkOk_by (own := [("kind", 11)]) (N := N__law_heap_task) (sc := defScope s__law_heap_task) (by decide +kernel)) (fun _ _ _ _ _ => (pg_name (i := 11) nd rfl (Or.inl rfl))) (fun _ _ _ _ _ => pts_nil) (fun _ _ _ _ _ => (pe_callC c__law_pop (hr.mono (by decide)) rfl (pa_cons (pv 0) (pa_cons (pv 4) pa_nil))))) pa_nil)))
  (pss_cons (ps_par (i := 6) (j := 7) (by rfl) nd rfl rfl (by decide) rfl rfl (pa_cons (pe_op op_sub (pv 3) pe_int) (pa_cons (pe_op op_sub (pv 3) pe_int) pa_nil)) (by rfl))
  (pss_cons (ps_set (i := 8) nd rfl (Or.inl rfl) (pe_lst pa_nil))
  (pss_cons (ps_for PassesOwn.never rfl (pi_range1 (by rfl) T.range (pa_cons (pe_op op_sub (pv 2) pe_int) pa_nil)) (pg_name (i := 9) nd rfl (Or.inl rfl)) (pss_one (ps_expr (pe_bm PySem.F.plainAttrs_list PySem.F.slot_list_append PySem.F.type_list_append mt_append (pv 8) (pa_cons (pe_tup (pa_cons (pe_callC c__law_pop (hr.mono (by decide)) rfl (pa_cons (pv 0) (pa_cons (pv 4) pa_nil))) (pa_cons (pe_callC c__law_listed (hr.mono (by decide)) rfl (pa_cons (pv 3) (pa_cons (pe_lst (pa_cons (pv 9) (pa_cons pe_int pa_nil))) pa_nil))) (pa_cons (pe_callC c__law_listed (hr.mono (by decide)) rfl (pa_cons (pv 3) (pa_cons (pe_lst (pa_cons (pe_op op_add (pv 9) pe_int) (pa_cons (pv 6) pa_nil))) pa_nil))) pa_nil)))) pa_nil)))))
  (pss_cons (ps_for PassesOwn.never rfl (pi_list (pv 1)) (pg_name (i := 10) nd rfl (Or.inl rfl)) (pss_one (ps_if (pt_cmpR op_eq (pv 10) pe_int (nomark _)) (pss_one (ps_expr (pe_bm PySem.F.plainAttrs_list PySem.F.slot_list_append PySem.F.type_list_append mt_append (pv 8) (pa_cons (pe_tup (pa_cons (pe_callC c__law_pop (hr.mono (by decide)) rfl (pa_cons (pv 0) (pa_cons (pv 4) pa_nil))) (pa_cons (pe_callC c__law_listed (hr.mono (by decide)) rfl (pa_cons (pv 3) (pa_cons (pe_lst (pa_cons pe_int pa_nil)) pa_nil))) (pa_cons (pe_callC c__law_listed (hr.mono (by decide)) rfl (pa_cons (pv 3) (pa_cons (pe_lst (pa_cons (pv 7) pa_nil)) pa_nil))) pa_nil)))) pa_nil)))) (pss_one (ps_expr (pe_bm PySem.F.plainAttrs_list PySem.F.slot_list_append PySem.F.type_list_append mt_append (pv 8) (pa_cons (pe_tup (pa_cons (pe_callC c__law_pop (hr.mono (by decide)) rfl (pa_cons (pv 0) (pa_cons (pv 4) pa_nil))) (pa_cons (pe_callC c__law_listed (hr.mono (by decide)) rfl (pa_cons (pv 3) (pa_cons (pe_lst (pa_cons (pe_op op_sub (pv 10) pe_int) (pa_cons pe_int pa_nil))) pa_nil))) (pa_cons (pe_callC c__law_listed (hr.mono (by decide)) rfl (pa_cons (pv 3) (pa_cons (pe_lst (pa_cons (pv 7) (pa_cons (pv 6) pa_nil))) pa_nil))) pa_nil)))) pa_nil)))))))
  (pss_cons (ps_expr (pe_bm PySem.F.plainAttrs_list PySem.F.slot_list_append PySem.F.type_list_append mt_append (pv 8) (pa_cons (pe_tup (pa_cons (pe_callC c__law_pop (hr.mono (by decide)) rfl (pa_cons (pv 0) (pa_cons (pv 4) pa_nil))) (pa_cons (pe_callC c__law_listed (hr.mono (by decide)) rfl (pa_cons (pv 3) (pa_cons (pe_lst (pa_cons (pv 6) (pa_cons (pv 7) pa_nil))) pa_nil))) (pa_cons (pe_callC c__law_listed (hr.mono (by decide)) rfl (pa_cons (pv 3) (pa_cons (pe_lst (pa_cons (pv 7) (pa_cons (pv 7) pa_nil))) pa_nil))) pa_nil)))) pa_nil)))
  (pss_one (ps_ret (pe_tup (pa_cons (pe_tup (pa_cons (pv 5) (pa_cons (pe_callTy call_tuple_of (by rfl) T.tuple_ (by decide +kernel) (pa_cons (pv 8) pa_nil)) pa_nil))) (pa_cons (pe_callC c__law_listed (hr.mono (by decide)) rfl (pa_cons (pv 3) (pa_cons (pe_lst (pa_cons pe_int pa_nil)) pa_nil))) (pa_cons (pe_callC c__law_listed (hr.mono (by decide)) rfl (pa_cons (pv 3) (pa_cons (pe_lst (pa_cons (pv 7) pa_nil)) pa_nil))) pa_nil)))))))))))))))
theorem sc__law_group_task : FnScope N__law_group_task ["d", "sizes"] (defScope s__law_group_task) := ⟨rfl, rfl, rfl, by decide +kernel, rfl, by decide +kernel, by decide +kernel⟩
theorem ok__law_group_task (D : DefAt K mg "_law_group_task" s__law_group_task ["d", "sizes"]) (T : Bi mg) (c__law_pool : Cal P w K mg base 1 "_law_pool" [] sp__law_pool) (c__law_pop : Cal P w K mg base 2 "_law_pop" ["d", "row"] sp__law_pop) (c__law_draw : Cal P w K mg base 1 "_law_draw" ["d", "many"] sp__law_draw) : Cal P w K mg base 3 "_law_group_task" ["d", "sizes"] sp__law_group_task := by
  have nd := (sc__law_group_task).nd
  refine cal_mk (t := t__law_group_task K) (N := N__law_group_task) D sc__law_group_task (fun vs H Q E h => len__law_group_task h) (fun f cdv A outer s H E hr => ?_) (fun vs H Q E h => pure__law_group_task h)
  exact (pss_cons (ps_set (i := 2) nd rfl (Or.inr rfl) (pe_callC0 c__law_pool (hr.mono (by decide)) rfl))
  (pss_cons (ps_set (i := 3) nd rfl (Or.inl rfl) (pe_callTy call_tuple_of (by rfl) T.tuple_ (by decide +kernel) (pa_cons (pe_lc (own := [("kind", 6)]) (g := (gName 6)) (tt := tYes) rfl nd (pi_range1 (by rfl) T.range (pa_cons pe_int pa_nil)) (blkOk_by (own := [("kind", 6)]) (N := N__law_group_task) (sc := defScope s__law_group_task) (by decide +kernel)) (fun _ _ _ _ _ => (pg_name (i := 6) nd rfl (Or.inl rfl))) (fun _ _ _ _ _ => pts_nil) (fun _ _ _ _ _ => (pe_callC c__law_pop (hr.mono (by decide)) rfl (pa_cons (pv 0) (pa_cons (pv 2) pa_nil))))) pa_nil)))
  (pss_cons (ps_set (i := 4) nd rfl (Or.inl rfl) (pe_lst pa_nil))
  (pss_cons (ps_for PassesOwn.never rfl (pi_list (pv 1)) (pg_name (i := 5) nd rfl (Or.inl rfl)) (pss_one (ps_expr (pe_bm PySem.F.plainAttrs_list PySem.F.slot_list_append PySem.F.type_list_append mt_append (pv 4) (pa_cons (pe_tup (pa_cons (pe_callC c__law_pop (hr.mono (by decide)) rfl (pa_cons (pv 0) (pa_cons (pv 2) pa_nil))) (pa_cons (pe_tup (pa_cons (pv 5) (pa_cons pe_int (pa_cons pe_int pa_nil)))) (pa_cons (pe_tup (pa_cons pe_int (pa_cons (pv 5) (pa_cons pe_int pa_nil)))) pa_nil)))) pa_nil)))))
  (pss_cons (ps_if (pt_cmpR op_eq (pe_callC c__law_draw (hr.mono (by decide)) rfl (pa_cons (pv 0) (pa_cons pe_int pa_nil))) pe_int (nomark _)) (pss_one (ps_expr (pe_bm PySem.F.plainAttrs_list PySem.F.slot_list_append PySem.F.type_list_append mt_append (pv 4) (pa_cons (pe_tup (pa_cons (pe_callC c__law_pop (hr.mono (by decide)) rfl (pa_cons (pv 0) (pa_cons (pv 2) pa_nil))) (pa_cons (pe_tup (pa_cons pe_int (pa_cons pe_int (pa_cons pe_int pa_nil)))) (pa_cons (pe_tup (pa_cons pe_int (pa_cons pe_int (pa_cons pe_int pa_nil)))) pa_nil)))) pa_nil)))) pss_nil)
  (pss_one (ps_ret (pe_tup (pa_cons (pe_tup (pa_cons (pv 3) (pa_cons (pe_callTy call_tuple_of (by rfl) T.tuple_ (by decide +kernel) (pa_cons (pv 4) pa_nil)) pa_nil))) (pa_cons (pe_tup (pa_cons pe_int (pa_cons pe_int (pa_cons pe_int pa_nil)))) (pa_cons (pe_tup (pa_cons pe_int (pa_cons pe_int (pa_cons pe_int pa_nil)))) pa_nil)))))))))))
theorem sc__law_chain_task : FnScope N__law_chain_task ["d", "many"] (defScope s__law_chain_task) := ⟨rfl, rfl, rfl, by decide +kernel, rfl, by decide +kernel, by decide +kernel⟩
theorem ok__law_chain_task (D : DefAt K mg "_law_chain_task" s__law_chain_task ["d", "many"]) (T : Bi mg) (c__law_pool : Cal P w K mg base 1 "_law_pool" [] sp__law_pool) (c__law_pop : Cal P w K mg base 2 "_law_pop" ["d", "row"] sp__law_pop) (c__law_draw : Cal P w K mg base 1 "_law_draw" ["d", "many"] sp__law_draw) (c__law_deed : Cal P w K mg base 3 "_law_deed" ["d", "name", "many"] sp__law_deed) (c__law_listed : Cal P w K mg base 1 "_law_listed" ["many", "places"] sp__law_listed) : Cal P w K mg base 4 "_law_chain_task" ["d", "many"] sp__law_chain_task := by
  have nd := (sc__law_chain_task).nd
  refine cal_mk (t := t__law_chain_task K) (N := N__law_chain_task) D sc__law_chain_task (fun vs H Q E h => len__law_chain_task h) (fun f cdv A outer s H E hr => ?_) (fun vs H Q E h => pure__law_chain_task h)
  exact (pss_cons (ps_set (i := 2) nd rfl (Or.inr rfl) (pe_callC0 c__law_pool (hr.mono (by decide)) rfl))
  (pss_cons (ps_set (i := 3) nd rfl (Or.inl rfl) (pe_callTy call_tuple_of (by rfl) T.tuple_ (by decide +kernel) (pa_cons (pe_lc (own := [("kind", 11)]) (g := (gName 11)) (tt := tYes) rfl nd (pi_range1 (by rfl) T.range (pa_cons (pv 1) pa_nil)) (blkOk_by (own := [("kind", 11)]) (N := N__law_chain_task) (sc := defScope s__law_chain_task) (by decide +kernel)) (fun _ _ _ _ _ => (pg_name (i := 11) nd rfl (Or.inl rfl))) (fun _ _ _ _ _ => pts_nil) (fun _ _ _ _ _ => (pe_callC c__law_pop (hr.mono (by decide)) rfl (pa_cons (pv 0) (pa_cons (pv 2) pa_nil))))) pa_nil)))
  (pss_cons (ps_set (i := 4) nd rfl (Or.inl rfl) (pe_lst pa_nil))
  (pss_cons (ps_for PassesOwn.never rfl (pi_range1 (by rfl) T.range (pa_cons (pe_op op_sub (pv 1) pe_int) pa_nil)) (pg_name (i := 5) nd rfl (Or.inl rfl)) (pss_cons (ps_set (i := 6) nd rfl (Or.inl rfl) (pe_op op_add pe_int (pe_callC c__law_draw (hr.mono (by decide)) rfl (pa_cons (pv 0) (pa_cons pe_int pa_nil)))))
  (pss_cons (ps_set (i := 7) nd rfl (Or.inl rfl) (pe_op op_add pe_int (pe_callC c__law_draw (hr.mono (by decide)) rfl (pa_cons (pv 0) (pa_cons (pv 6) pa_nil)))))
  (pss_cons (ps_setLc (i := 8) (own := [("kind", 11)]) (g := (gName 11)) (tt := tYes) rfl nd rfl rfl (sw_true rfl rfl rfl (by decide +kernel)) (pi_range1 (by rfl) T.range (pa_cons (pv 1) pa_nil)) (blkOk_by (own := [("kind", 11)]) (N := N__law_chain_task) (sc := defScope s__law_chain_task) (by decide +kernel)) (fun _ _ _ _ _ => (pg_name (i := 11) nd rfl (Or.inl rfl))) (fun _ _ _ _ _ => pts_nil) (fun _ _ _ _ _ => pe_int))
  (pss_cons (ps_setLc (i := 9) (own := [("kind", 11)]) (g := (gName 11)) (tt := tYes) rfl nd rfl rfl (sw_true rfl rfl rfl (by decide +kernel)) (pi_range1 (by rfl) T.range (pa_cons (pv 1) pa_nil)) (blkOk_by (own := [("kind", 11)]) (N := N__law_chain_task) (sc := defScope s__law_chain_task) (by decide +kernel)) (fun _ _ _ _ _ => (pg_name (i := 11) nd rfl (Or.inl rfl))) (fun _ _ _ _ _ => pts_nil) (fun _ _ _ _ _ => pe_int))
  (pss_cons (ps_asg (pv 7) (pg_sub (pv 8) (pv 5) set_list))
  (pss_cons (ps_asg (pv 7) (pg_sub (pv 9) (pe_op op_add (pv 5) pe_int) set_list))
  (pss_cons (ps_if (pt_cmpR op_gt (pv 6) (pv 7) (nomark _)) (pss_cons (ps_set (i := 10) nd rfl (Or.inl rfl) (pe_callC c__law_draw (hr.mono (by decide)) rfl (pa_cons (pv 0) (pa_cons (pv 1) pa_nil))))
  (pss_cons (ps_augS (pv 8) (pv 10) get_listP (pe_op op_sub (pv 6) (pv 7)) ip_add set_list)
  (pss_one (ps_augS (pv 9) (pv 10) get_listP (pe_op op_sub (pv 6) (pv 7)) ip_add set_list)))) pss_nil)
  (pss_one (ps_expr (pe_bm PySem.F.plainAttrs_list PySem.F.slot_list_append PySem.F.type_list_append mt_append (pv 4) (pa_cons (pe_tup (pa_cons (pe_callC c__law_pop (hr.mono (by decide)) rfl (pa_cons (pv 0) (pa_cons (pv 2) pa_nil))) (pa_cons (pe_callTy call_tuple_of (by rfl) T.tuple_ (by decide +kernel) (pa_cons (pv 8) pa_nil)) (pa_cons (pe_callTy call_tuple_of (by rfl) T.tuple_ (by decide +kernel) (pa_cons (pv 9) pa_nil)) pa_nil)))) pa_nil))))))))))))
  (pss_cons (ps_if (pt_cmpR op_eq (pe_callC c__law_draw (hr.mono (by decide)) rfl (pa_cons (pv 0) (pa_cons pe_int pa_nil))) pe_int (nomark _)) (pss_one (ps_expr (pe_bm PySem.F.plainAttrs_list PySem.F.slot_list_append PySem.F.type_list_append mt_append (pv 4) (pa_cons (pe_callC c__law_deed (hr.mono (by decide)) rfl (pa_cons (pv 0) (pa_cons (pe_callC c__law_pop (hr.mono (by decide)) rfl (pa_cons (pv 0) (pa_cons (pv 2) pa_nil))) (pa_cons (pv 1) pa_nil)))) pa_nil)))) pss_nil)
  (pss_one (ps_ret (pe_tup (pa_cons (pe_tup (pa_cons (pv 3) (pa_cons (pe_callTy call_tuple_of (by rfl) T.tuple_ (by decide +kernel) (pa_cons (pv 4) pa_nil)) pa_nil))) (pa_cons (pe_callC c__law_listed (hr.mono (by decide)) rfl (pa_cons (pv 1) (pa_cons (pe_lst (pa_cons pe_int pa_nil)) pa_nil))) (pa_cons (pe_callC c__law_listed (hr.mono (by decide)) rfl (pa_cons (pv 1) (pa_cons (pe_lst (pa_cons (pe_op op_sub (pv 1) pe_int) pa_nil)) pa_nil))) pa_nil)))))))))))
theorem sc__law_random_task : FnScope N__law_random_task ["d"] (defScope s__law_random_task) := ⟨rfl, rfl, rfl, by decide +kernel, rfl, by decide +kernel, by decide +kernel⟩
theorem ok__law_random_task (D : DefAt K mg "_law_random_task" s__law_random_task ["d"]) (T : Bi mg) (c__law_draw : Cal P w K mg base 1 "_law_draw" ["d", "many"] sp__law_draw) (c__law_rule : Cal P w K mg base 4 "_law_rule" ["d", "many", "deeds"] sp__law_rule) (c__law_heap : Cal P w K mg base 2 "_law_heap" ["d", "many", "size"] sp__law_heap) : Cal P w K mg base 5 "_law_random_task" ["d"] sp__law_random_task := by
  have nd := (sc__law_random_task).nd
  refine cal_mk (t := t__law_random_task K) (N := N__law_random_task) D sc__law_random_task (fun vs H Q E h => len__law_random_task h) (fun f cdv A outer s H E hr => ?_) (fun vs H Q E h => pure__law_random_task h)
  exact (pss_cons (ps_set (i := 1) nd rfl (Or.inl rfl) (pe_op op_add pe_int (pe_callC c__law_draw (hr.mono (by decide)) rfl (pa_cons (pv 0) (pa_cons pe_int pa_nil)))))
  (pss_cons (ps_set (i := 2) nd rfl (Or.inl rfl) (pe_callC c__law_rule (hr.mono (by decide)) rfl (pa_cons (pv 0) (pa_cons (pv 1) (pa_cons (pe_callC c__law_draw (hr.mono (by decide)) rfl (pa_cons (pv 0) (pa_cons pe_int pa_nil))) pa_nil)))))
  (pss_cons (ps_set (i := 3) nd rfl (Or.inl rfl) (pe_op op_add pe_int (pe_callC c__law_draw (hr.mono (by decide)) rfl (pa_cons (pv 0) (pa_cons pe_int pa_nil)))))
  (pss_one (ps_ret (pe_tup (pa_cons (pv 2) (pa_cons (pe_callC c__law_heap (hr.mono (by decide)) rfl (pa_cons (pv 0) (pa_cons (pv 1) (pa_cons (pv 3) pa_nil)))) (pa_cons (pe_callC c__law_heap (hr.mono (by decide)) rfl (pa_cons (pv 0) (pa_cons (pv 1) (pa_cons (pv 3) pa_nil)))) pa_nil)))))))))
theorem sc__law_to_and_fro_task : FnScope N__law_to_and_fro_task ["d"] (defScope s__law_to_and_fro_task) := ⟨rfl, rfl, rfl, by decide +kernel, rfl, by decide +kernel, by decide +kernel⟩
theorem ok__law_to_and_fro_task (D : DefAt K mg "_law_to_and_fro_task" s__law_to_and_fro_task ["d"]) (T : Bi mg) (c__law_random_task : Cal P w K mg base 5 "_law_random_task" ["d"] sp__law_random_task) (c__law_pick : Cal P w K mg base 2 "_law_pick" ["d", "row"] sp__law_pick) : Cal P w K mg base 6 "_law_to_and_fro_task" ["d"] sp__law_to_and_fro_task := by
  have nd := (sc__law_to_and_fro_task).nd
  refine cal_mk (t := t__law_to_and_fro_task K) (N := N__law_to_and_fro_task) D sc__law_to_and_fro_task (fun vs H Q E h => len__law_to_and_fro_task h) (fun f cdv A outer s H E hr => ?_) (fun vs H Q E h => pure__law_to_and_fro_task h)
  exact (pss_cons (ps_asg (pe_callC c__law_random_task (hr.mono (by decide)) rfl (pa_cons (pv 0) pa_nil)) (pg_tup rfl (pgs_cons (pg_name (i := 1) nd rfl (Or.inl rfl)) (pgs_cons (pg_name (i := 2) nd rfl (Or.inl rfl)) (pgs_cons (pg_name (i := 3) nd rfl (Or.inl rfl)) pgs_nil)))))
  (pss_cons (ps_if (pt_cmpR op_eq (pe_callB call_len_seq (by rfl) T.len PySem.boot_len (pa_cons (pe_ix ix_tup (pv 1) pe_int (fun _ _ => rfl)) pa_nil)) pe_int (nomark _)) (pss_one (ps_ret (pe_tup (pa_cons (pv 1) (pa_cons (pv 2) (pa_cons (pv 2) pa_nil)))))) pss_nil)
  (pss_cons (ps_asg (pe_callC c__law_pick (hr.mono (by decide)) rfl (pa_cons (pv 0) (pa_cons (pe_ix ix_tup (pv 1) pe_int (fun _ _ => rfl)) pa_nil))) (pg_tup rfl (pgs_cons (pg_name (i := 4) nd rfl (Or.inl rfl)) (pgs_cons (pg_name (i := 5) nd rfl (Or.inl rfl)) (pgs_cons (pg_name (i := 6) nd rfl (Or.inl rfl)) pgs_nil)))))
  (pss_one (ps_ret (pe_tup (pa_cons (pv 1) (pa_cons (pv 5) (pa_cons (pv 6) pa_nil)))))))))
theorem sc__law_turned : FnScope N__law_turned ["standing", "order"] (defScope s__law_turned) := ⟨rfl, rfl, rfl, by decide +kernel, rfl, by decide +kernel, by decide +kernel⟩
theorem ok__law_turned (D : DefAt K mg "_law_turned" s__law_turned ["standing", "order"]) (T : Bi mg) : Cal P w K mg base 1 "_law_turned" ["standing", "order"] sp__law_turned := by
  have nd := (sc__law_turned).nd
  refine cal_mk (t := t__law_turned K) (N := N__law_turned) D sc__law_turned (fun vs H Q E h => len__law_turned h) (fun f cdv A outer s H E hr => ?_) (fun vs H Q E h => pure__law_turned h)
  exact (pss_one (ps_ret (pe_callTy call_tuple_of (by rfl) T.tuple_ (by decide +kernel) (pa_cons (pe_lc (own := [("kind", 2)]) (g := (gName 2)) (tt := tYes) rfl nd (pi_list (pv 1)) (blkOk_by (own := [("kind", 2)]) (N := N__law_turned) (sc := defScope s__law_turned) (by decide +kernel)) (fun _ _ _ _ _ => (pg_name (i := 2) nd rfl (Or.inl rfl))) (fun _ _ _ _ _ => pts_nil) (fun _ _ _ _ _ => (pe_ix ix_tup (pv 0) (pv 2) (fun _ _ => rfl)))) pa_nil))))
theorem sc__law_turned_rule : FnScope N__law_turned_rule ["rule", "order", "places"] (defScope s__law_turned_rule) := ⟨rfl, rfl, rfl, by decide +kernel, rfl, by decide +kernel, by decide +kernel⟩
theorem ok__law_turned_rule (D : DefAt K mg "_law_turned_rule" s__law_turned_rule ["rule", "order", "places"]) (T : Bi mg) (c__law_turned : Cal P w K mg base 1 "_law_turned" ["standing", "order"] sp__law_turned) : Cal P w K mg base 2 "_law_turned_rule" ["rule", "order", "places"] sp__law_turned_rule := by
  have nd := (sc__law_turned_rule).nd
  refine cal_mk (t := t__law_turned_rule K) (N := N__law_turned_rule) D sc__law_turned_rule (fun vs H Q E h => len__law_turned_rule h) (fun f cdv A outer s H E hr => ?_) (fun vs H Q E h => pure__law_turned_rule h)
  exact (pss_cons (ps_set (i := 3) nd rfl (Or.inl rfl) (pe_lst pa_nil))
  (pss_cons (ps_for PassesOwn.never rfl (pi_list (pv 2)) (pg_name (i := 4) nd rfl (Or.inl rfl)) (pss_cons (ps_asg (pe_ix ix_tup (pe_ix ix_tup (pv 0) pe_int (fun _ _ => rfl)) (pv 4) (fun _ _ => rfl)) (pg_tup rfl (pgs_cons (pg_name (i := 5) nd rfl (Or.inl rfl)) (pgs_cons (pg_name (i := 6) nd rfl (Or.inl rfl)) (pgs_cons (pg_name (i := 7) nd rfl (Or.inl rfl)) pgs_nil)))))
  (pss_one (ps_expr (pe_bm PySem.F.plainAttrs_list PySem.F.slot_list_append PySem.F.type_list_append mt_append (pv 3) (pa_cons (pe_tup (pa_cons (pv 5) (pa_cons (pe_callC c__law_turned (hr.mono (by decide)) rfl (pa_cons (pv 6) (pa_cons (pv 1) pa_nil))) (pa_cons (pe_callC c__law_turned (hr.mono (by decide)) rfl (pa_cons (pv 7) (pa_cons (pv 1) pa_nil))) pa_nil)))) pa_nil))))))
  (pss_one (ps_ret (pe_tup (pa_cons (pe_callC c__law_turned (hr.mono (by decide)) rfl (pa_cons (pe_ix ix_tup (pv 0) pe_int (fun _ _ => rfl)) (pa_cons (pv 1) pa_nil))) (pa_cons (pe_callTy call_tuple_of (by rfl) T.tuple_ (by decide +kernel) (pa_cons (pv 3) pa_nil)) pa_nil)))))))
theorem sc__law_mixed_rule : FnScope N__law_mixed_rule ["d", "rule"] (defScope s__law_mixed_rule) := ⟨rfl, rfl, rfl, by decide +kernel, rfl, by decide +kernel, by decide +kernel⟩
theorem ok__law_mixed_rule (D : DefAt K mg "_law_mixed_rule" s__law_mixed_rule ["d", "rule"]) (T : Bi mg) (c__law_shuffled : Cal P w K mg base 2 "_law_shuffled" ["d", "row"] sp__law_shuffled) (c__law_turned_rule : Cal P w K mg base 2 "_law_turned_rule" ["rule", "order", "places"] sp__law_turned_rule) : Cal P w K mg base 3 "_law_mixed_rule" ["d", "rule"] sp__law_mixed_rule := by
  have nd := (sc__law_mixed_rule).nd
  refine cal_mk (t := t__law_mixed_rule K) (N := N__law_mixed_rule) D sc__law_mixed_rule (fun vs H Q E h => len__law_mixed_rule h) (fun f cdv A outer s H E hr => ?_) (fun vs H Q E h => pure__law_mixed_rule h)
  exact (pss_cons (ps_set (i := 2) nd rfl (Or.inl rfl) (pe_callC c__law_shuffled (hr.mono (by decide)) rfl (pa_cons (pv 0) (pa_cons (pe_listRg rfl (by rfl) T.list_ (prg_1 (by rfl) T.range (pe_callB call_len_seq (by rfl) T.len PySem.boot_len (pa_cons (pe_ix ix_tup (pv 1) pe_int (fun _ _ => rfl)) pa_nil)))) pa_nil))))
  (pss_cons (ps_set (i := 3) nd rfl (Or.inl rfl) (pe_callC c__law_shuffled (hr.mono (by decide)) rfl (pa_cons (pv 0) (pa_cons (pe_listRg rfl (by rfl) T.list_ (prg_1 (by rfl) T.range (pe_callB call_len_seq (by rfl) T.len PySem.boot_len (pa_cons (pe_ix ix_tup (pv 1) pe_int (fun _ _ => rfl)) pa_nil)))) pa_nil))))
  (pss_one (ps_ret (pe_tup (pa_cons (pe_callC c__law_turned_rule (hr.mono (by decide)) rfl (pa_cons (pv 1) (pa_cons (pv 2) (pa_cons (pv 3) pa_nil)))) (pa_cons (pv 2) (pa_cons (pv 3) pa_nil))))))))
theorem sc__law_reversed_rule : FnScope N__law_reversed_rule ["rule"] (defScope s__law_reversed_rule) := ⟨rfl, rfl, rfl, by decide +kernel, rfl, by decide +kernel, by decide +kernel⟩
theorem ok__law_reversed_rule (D : DefAt K mg "_law_reversed_rule" s__law_reversed_rule ["rule"]) (T : Bi mg) : Cal P w K mg base 1 "_law_reversed_rule" ["rule"] sp__law_reversed_rule := by
  have nd := (sc__law_reversed_rule).nd
  refine cal_mk (t := t__law_reversed_rule K) (N := N__law_reversed_rule) D sc__law_reversed_rule (fun vs H Q E h => len__law_reversed_rule h) (fun f cdv A outer s H E hr => ?_) (fun vs H Q E h => pure__law_reversed_rule h)
  exact (pss_one (ps_ret (pe_tup (pa_cons (pe_ix ix_tup (pv 0) pe_int (fun _ _ => rfl)) (pa_cons (pe_callTy call_tuple_of (by rfl) T.tuple_ (by decide +kernel) (pa_cons (pe_lc (own := [("name", 1), ("takes", 2), ("gives", 3)]) (g := (gTup K 3 (gCons (gName 1) (gCons (gName 2) (gCons (gName 3) gNil))))) (tt := tYes) rfl nd (pi_tup (pe_ix ix_tup (pv 0) pe_int (fun _ _ => rfl))) (blkOk_by (own := [("name", 1), ("takes", 2), ("gives", 3)]) (N := N__law_reversed_rule) (sc := defScope s__law_reversed_rule) (by decide +kernel)) (fun _ _ _ _ _ => (pg_tup rfl (pgs_cons (pg_name (i := 1) nd rfl (Or.inl rfl)) (pgs_cons (pg_name (i := 2) nd rfl (Or.inl rfl)) (pgs_cons (pg_name (i := 3) nd rfl (Or.inl rfl)) pgs_nil))))) (fun _ _ _ _ _ => pts_nil) (fun _ _ _ _ _ => (pe_tup (pa_cons (pv 1) (pa_cons (pv 3) (pa_cons (pv 2) pa_nil)))))) pa_nil)) pa_nil)))))
theorem sc__law_reversed : FnScope N__law_reversed ["task"] (defScope s__law_reversed) := ⟨rfl, rfl, rfl, by decide +kernel, rfl, by decide +kernel, by decide +kernel⟩
theorem ok__law_reversed (D : DefAt K mg "_law_reversed" s__law_reversed ["task"]) (T : Bi mg) (c__law_reversed_rule : Cal P w K mg base 1 "_law_reversed_rule" ["rule"] sp__law_reversed_rule) : Cal P w K mg base 2 "_law_reversed" ["task"] sp__law_reversed := by
  have nd := (sc__law_reversed).nd
  refine cal_mk (t := t__law_reversed K) (N := N__law_reversed) D sc__law_reversed (fun vs H Q E h => len__law_reversed h) (fun f cdv A outer s H E hr => ?_) (fun vs H Q E h => pure__law_reversed h)
  exact (pss_one (ps_ret (pe_tup (pa_cons (pe_callC c__law_reversed_rule (hr.mono (by decide)) rfl (pa_cons (pe_ix ix_tup (pv 0) pe_int (fun _ _ => rfl)) pa_nil)) (pa_cons (pe_ix ix_tup (pv 0) pe_int (fun _ _ => rfl)) (pa_cons (pe_ix ix_tup (pv 0) pe_int (fun _ _ => rfl)) pa_nil))))))
theorem sc__law_mixed_task : FnScope N__law_mixed_task ["d", "task"] (defScope s__law_mixed_task) := ⟨rfl, rfl, rfl, by decide +kernel, rfl, by decide +kernel, by decide +kernel⟩
theorem ok__law_mixed_task (D : DefAt K mg "_law_mixed_task" s__law_mixed_task ["d", "task"]) (T : Bi mg) (c__law_mixed_rule : Cal P w K mg base 3 "_law_mixed_rule" ["d", "rule"] sp__law_mixed_rule) (c__law_turned : Cal P w K mg base 1 "_law_turned" ["standing", "order"] sp__law_turned) (c__law_draw : Cal P w K mg base 1 "_law_draw" ["d", "many"] sp__law_draw) (c__law_reversed : Cal P w K mg base 2 "_law_reversed" ["task"] sp__law_reversed) : Cal P w K mg base 4 "_law_mixed_task" ["d", "task"] sp__law_mixed_task := by
  have nd := (sc__law_mixed_task).nd
  refine cal_mk (t := t__law_mixed_task K) (N := N__law_mixed_task) D sc__law_mixed_task (fun vs H Q E h => len__law_mixed_task h) (fun f cdv A outer s H E hr => ?_) (fun vs H Q E h => pure__law_mixed_task h)
  exact (pss_cons (ps_asg (pe_callC c__law_mixed_rule (hr.mono (by decide)) rfl (pa_cons (pv 0) (pa_cons (pe_ix ix_tup (pv 1) pe_int (fun _ _ => rfl)) pa_nil))) (pg_tup rfl (pgs_cons (pg_name (i := 2) nd rfl (Or.inl rfl)) (pgs_cons (pg_name (i := 3) nd rfl (Or.inl rfl)) (pgs_cons (pg_name (i := 4) nd rfl (Or.inl rfl)) pgs_nil)))))
  (pss_cons (ps_set (i := 5) nd rfl (Or.inl rfl) (pe_tup (pa_cons (pv 2) (pa_cons (pe_callC c__law_turned (hr.mono (by decide)) rfl (pa_cons (pe_ix ix_tup (pv 1) pe_int (fun _ _ => rfl)) (pa_cons (pv 3) pa_nil))) (pa_cons (pe_callC c__law_turned (hr.mono (by decide)) rfl (pa_cons (pe_ix ix_tup (pv 1) pe_int (fun _ _ => rfl)) (pa_cons (pv 3) pa_nil))) pa_nil)))))
  (pss_cons (ps_if (pt_cmpR op_eq (pe_callC c__law_draw (hr.mono (by decide)) rfl (pa_cons (pv 0) (pa_cons pe_int pa_nil))) pe_int (nomark _)) (pss_one (ps_ret (pe_callC c__law_reversed (hr.mono (by decide)) rfl (pa_cons (pv 5) pa_nil)))) pss_nil)
  (pss_one (ps_ret (pv 5))))))
theorem sc__law_task : FnScope N__law_task ["d"] (defScope s__law_task) := ⟨rfl, rfl, rfl, by decide +kernel, rfl, by decide +kernel, by decide +kernel⟩
theorem ok__law_task (D : DefAt K mg "_law_task" s__law_task ["d"]) (T : Bi mg) (c__law_draw : Cal P w K mg base 1 "_law_draw" ["d", "many"] sp__law_draw) (c__law_heap_task : Cal P w K mg base 3 "_law_heap_task" ["d", "numbers"] sp__law_heap_task) (c__law_group_task : Cal P w K mg base 3 "_law_group_task" ["d", "sizes"] sp__law_group_task) (c__law_chain_task : Cal P w K mg base 4 "_law_chain_task" ["d", "many"] sp__law_chain_task) (c__law_to_and_fro_task : Cal P w K mg base 6 "_law_to_and_fro_task" ["d"] sp__law_to_and_fro_task) (c__law_pick : Cal P w K mg base 2 "_law_pick" ["d", "row"] sp__law_pick) (c__law_random_task : Cal P w K mg base 5 "_law_random_task" ["d"] sp__law_random_task) (c__law_mixed_task : Cal P w K mg base 4 "_law_mixed_task" ["d", "task"] sp__law_mixed_task) : Cal P w K mg base 7 "_law_task" ["d"] sp__law_task := by
  have nd := (sc__law_task).nd
  refine cal_mk (t := t__law_task K) (N := N__law_task) D sc__law_task (fun vs H Q E h => len__law_task h) (fun f cdv A outer s H E hr => ?_) (fun vs H Q E h => pure__law_task h)
  exact (pss_cons (ps_set (i := 1) nd rfl (Or.inl rfl) (pe_callC c__law_draw (hr.mono (by decide)) rfl (pa_cons (pv 0) (pa_cons pe_int pa_nil))))
  (pss_cons (ps_if (pt_cmpR op_eq (pv 1) pe_int (nomark _)) (pss_one (ps_set (i := 2) nd rfl (Or.inl rfl) (pe_callC c__law_heap_task (hr.mono (by decide)) rfl (pa_cons (pv 0) (pa_cons (pe_lst (pa_cons pe_int (pa_cons pe_int pa_nil))) pa_nil))))) (pss_one (ps_if (pt_cmpR op_eq (pv 1) pe_int (nomark _)) (pss_one (ps_set (i := 2) nd rfl (Or.inl rfl) (pe_callC c__law_group_task (hr.mono (by decide)) rfl (pa_cons (pv 0) (pa_cons (pe_lst (pa_cons (pe_op op_add pe_int (pe_callC c__law_draw (hr.mono (by decide)) rfl (pa_cons (pv 0) (pa_cons pe_int pa_nil)))) pa_nil)) pa_nil))))) (pss_one (ps_if (pt_cmpR op_eq (pv 1) pe_int (nomark _)) (pss_one (ps_set (i := 2) nd rfl (Or.inl rfl) (pe_callC c__law_chain_task (hr.mono (by decide)) rfl (pa_cons (pv 0) (pa_cons (pe_op op_add pe_int (pe_callC c__law_draw (hr.mono (by decide)) rfl (pa_cons (pv 0) (pa_cons pe_int pa_nil)))) pa_nil))))) (pss_one (ps_if (pt_cmpR op_eq (pv 1) pe_int (nomark _)) (pss_one (ps_set (i := 2) nd rfl (Or.inl rfl) (pe_callC c__law_to_and_fro_task (hr.mono (by decide)) rfl (pa_cons (pv 0) pa_nil)))) (pss_one (ps_if (pt_cmpR op_eq (pv 1) pe_int (nomark _)) (pss_one (ps_set (i := 2) nd rfl (Or.inl rfl) (pe_callC c__law_group_task (hr.mono (by decide)) rfl (pa_cons (pv 0) (pa_cons (pe_lst (pa_cons pe_int (pa_cons pe_int pa_nil))) pa_nil))))) (pss_one (ps_if (pt_cmpR op_eq (pv 1) pe_int (nomark _)) (pss_one (ps_set (i := 2) nd rfl (Or.inl rfl) (pe_callC c__law_heap_task (hr.mono (by decide)) rfl (pa_cons (pv 0) (pa_cons (pe_lst (pa_cons (pe_callC c__law_pick (hr.mono (by decide)) rfl (pa_cons (pv 0) (pa_cons (pe_lst (pa_cons pe_int (pa_cons pe_int (pa_cons pe_int (pa_cons pe_int pa_nil))))) pa_nil))) pa_nil)) pa_nil))))) (pss_one (ps_set (i := 2) nd rfl (Or.inl rfl) (pe_callC c__law_random_task (hr.mono (by decide)) rfl (pa_cons (pv 0) pa_nil)))))))))))))))
  (pss_one (ps_ret (pe_callC c__law_mixed_task (hr.mono (by decide)) rfl (pa_cons (pv 0) (pa_cons (pv 2) pa_nil)))))))
theorem sc__law_world : FnScope N__law_world ["d"] (defScope s__law_world) := ⟨rfl, rfl, rfl, by decide +kernel, rfl, by decide +kernel, by decide +kernel⟩
theorem ok__law_world (D : DefAt K mg "_law_world" s__law_world ["d"]) (T : Bi mg) (c__law_draw : Cal P w K mg base 1 "_law_draw" ["d", "many"] sp__law_draw) (c__law_rule : Cal P w K mg base 4 "_law_rule" ["d", "many", "deeds"] sp__law_rule) (c__law_heap : Cal P w K mg base 2 "_law_heap" ["d", "many", "size"] sp__law_heap) (c__law_task : Cal P w K mg base 7 "_law_task" ["d"] sp__law_task) : Cal P w K mg base 8 "_law_world" ["d"] sp__law_world := by
  have nd := (sc__law_world).nd
  refine cal_mk (t := t__law_world K) (N := N__law_world) D sc__law_world (fun vs H Q E h => len__law_world h) (fun f cdv A outer s H E hr => ?_) (fun vs H Q E h => pure__law_world h)
  exact (pss_cons (ps_set (i := 1) nd rfl (Or.inl rfl) (pe_callC c__law_draw (hr.mono (by decide)) rfl (pa_cons (pv 0) (pa_cons pe_int pa_nil))))
  (pss_cons (ps_if (pt_cmpR op_eq (pv 1) pe_int (nomark _)) (pss_cons (ps_set (i := 2) nd rfl (Or.inl rfl) (pe_callC c__law_rule (hr.mono (by decide)) rfl (pa_cons (pv 0) (pa_cons pe_int (pa_cons pe_int pa_nil)))))
  (pss_cons (ps_set (i := 3) nd rfl (Or.inl rfl) (pe_callC c__law_heap (hr.mono (by decide)) rfl (pa_cons (pv 0) (pa_cons pe_int (pa_cons (pe_op op_add pe_int (pe_callC c__law_draw (hr.mono (by decide)) rfl (pa_cons (pv 0) (pa_cons pe_int pa_nil)))) pa_nil)))))
  (pss_one (ps_ret (pe_tup (pa_cons (pe_tup (pa_cons (pv 2) (pa_cons (pv 3) (pa_cons (pe_callC c__law_heap (hr.mono (by decide)) rfl (pa_cons (pv 0) (pa_cons pe_int (pa_cons pe_int pa_nil)))) pa_nil)))) (pa_cons pe_int pa_nil))))))) pss_nil)
  (pss_cons (ps_if (pt_cmpR op_eq (pv 1) pe_int (nomark _)) (pss_cons (ps_set (i := 4) nd rfl (Or.inl rfl) (pe_op op_add pe_int (pe_callC c__law_draw (hr.mono (by decide)) rfl (pa_cons (pv 0) (pa_cons pe_int pa_nil)))))
  (pss_cons (ps_set (i := 2) nd rfl (Or.inl rfl) (pe_callC c__law_rule (hr.mono (by decide)) rfl (pa_cons (pv 0) (pa_cons (pv 4) (pa_cons (pe_callC c__law_draw (hr.mono (by decide)) rfl (pa_cons (pv 0) (pa_cons pe_int pa_nil))) pa_nil)))))
  (pss_cons (ps_set (i := 3) nd rfl (Or.inl rfl) (pe_callC c__law_heap (hr.mono (by decide)) rfl (pa_cons (pv 0) (pa_cons (pv 4) (pa_cons (pe_op op_add pe_int (pe_callC c__law_draw (hr.mono (by decide)) rfl (pa_cons (pv 0) (pa_cons pe_int pa_nil)))) pa_nil)))))
  (pss_one (ps_ret (pe_tup (pa_cons (pe_tup (pa_cons (pv 2) (pa_cons (pv 3) (pa_cons (pv 3) pa_nil)))) (pa_cons pe_int pa_nil)))))))) pss_nil)
  (pss_one (ps_ret (pe_tup (pa_cons (pe_callC c__law_task (hr.mono (by decide)) rfl (pa_cons (pv 0) pa_nil)) (pa_cons pe_int pa_nil))))))))
theorem sc__law_top : FnScope N__law_top ["task", "most", "room"] (defScope s__law_top) := ⟨rfl, rfl, rfl, by decide +kernel, rfl, by decide +kernel, by decide +kernel⟩
theorem ok__law_top (D : DefAt K mg "_law_top" s__law_top ["task", "most", "room"]) (T : Bi mg) (c__law_size_of_crowd : Cal P w K mg base 1 "_law_size_of_crowd" ["task", "n"] sp__law_size_of_crowd) : Cal P w K mg base 2 "_law_top" ["task", "most", "room"] sp__law_top := by
  have nd := (sc__law_top).nd
  refine cal_mk (t := t__law_top K) (N := N__law_top) D sc__law_top (fun vs H Q E h => len__law_top h) (fun f cdv A outer s H E hr => ?_) (fun vs H Q E h => pure__law_top h)
  exact (pss_cons (ps_set (i := 3) nd rfl (Or.inl rfl) pe_int)
  (pss_cons (ps_while PassesOwn.never (PW.pt (pw_and (pt_cmpR op_lt (pv 3) (pv 1) (nomark _)) (pw_and1 (pt_cmpR op_le (pe_callC c__law_size_of_crowd (hr.mono (by decide)) rfl (pa_cons (pv 0) (pa_cons (pe_op op_add (pv 3) pe_int) pa_nil))) (pv 2) (nomark _))))) (pss_one (ps_aug (i := 3) nd rfl (Or.inl rfl) pe_int ip_add)))
  (pss_one (ps_ret (pv 3)))))
theorem sc__law_reach : FnScope N__law_reach ["rule", "standing", "most"] (defScope s__law_reach) := ⟨rfl, rfl, rfl, by decide +kernel, rfl, by decide +kernel, by decide +kernel⟩
theorem ok__law_reach (D : DefAt K mg "_law_reach" s__law_reach ["rule", "standing", "most"]) (T : Bi mg) (c__law_can : Cal P w K mg base 2 "_law_can" ["rule", "standing", "t"] sp__law_can) (c__law_after : Cal P w K mg base 3 "_law_after" ["rule", "standing", "t"] sp__law_after) : Cal P w K mg base 4 "_law_reach" ["rule", "standing", "most"] sp__law_reach := by
  have nd := (sc__law_reach).nd
  refine cal_mk (t := t__law_reach K) (N := N__law_reach) D sc__law_reach (fun vs H Q E h => len__law_reach h) (fun f cdv A outer s H E hr => ?_) (fun vs H Q E h => pure__law_reach h)
  exact (pss_cons (ps_set (i := 3) nd rfl (Or.inl rfl) (pe_lst (pa_cons (pv 1) pa_nil)))
  (pss_cons (ps_set (i := 4) nd rfl (Or.inl rfl) (pe_dispT (hu_of hr) (pv 1) pe_int))
  (pss_cons (ps_set (i := 5) nd rfl (Or.inl rfl) pe_int)
  (pss_cons (ps_while PassesOwn.never (pt_cmpR op_lt (pv 5) (pe_callB call_len_seq (by rfl) T.len PySem.boot_len (pa_cons (pv 3) pa_nil)) (nomark _)) (pss_cons (ps_set (i := 6) nd rfl (Or.inl rfl) (pe_ix ix_list (pv 3) (pv 5) (fun _ _ => rfl)))
  (pss_cons (ps_for PassesOwn.never rfl (pi_range1 (by rfl) T.range (pa_cons (pe_callB call_len_seq (by rfl) T.len PySem.boot_len (pa_cons (pe_ix ix_tup (pv 0) pe_int (fun _ _ => rfl)) pa_nil)) pa_nil)) (pg_name (i := 7) nd rfl (Or.inl rfl)) (pss_one (ps_if (pt_val (pe_callC c__law_can (hr.mono (by decide)) rfl (pa_cons (pv 0) (pa_cons (pv 6) (pa_cons (pv 7) pa_nil))))) (pss_cons (ps_set (i := 8) nd rfl (Or.inl rfl) (pe_callC c__law_after (hr.mono (by decide)) rfl (pa_cons (pv 0) (pa_cons (pv 6) (pa_cons (pv 7) pa_nil)))))
  (pss_one (ps_if (pt_cmp (pc_dnotin (hu_of hr) (pv 8) (pv 4))) (pss_cons (ps_if (pt_cmpR op_ge (pe_callB call_len_seq (by rfl) T.len PySem.boot_len (pa_cons (pv 3) pa_nil)) (pv 2) (nomark _)) (pss_one (ps_ret pe_non)) pss_nil)
  (pss_cons (ps_dput (hu_of hr) (pv 4) (pv 8) (pe_callB call_len_seq (by rfl) T.len PySem.boot_len (pa_cons (pv 3) pa_nil)) rfl)
  (pss_one (ps_expr (pe_bm PySem.F.plainAttrs_list PySem.F.slot_list_append PySem.F.type_list_append mt_append (pv 3) (pa_cons (pv 8) pa_nil)))))) pss_nil))) pss_nil)))
  (pss_one (ps_aug (i := 5) nd rfl (Or.inl rfl) pe_int ip_add)))))
  (pss_one (ps_ret (pv 3)))))))
theorem sc__law_most_right : FnScope N__law_most_right ["rule", "start", "kinds", "n", "due"] (defScope s__law_most_right) := ⟨rfl, rfl, rfl, by decide +kernel, rfl, by decide +kernel, by decide +kernel⟩
theorem ok__law_most_right {cs : Cs} (D : DefAt K mg "_law_most_right" s__law_most_right ["rule", "start", "kinds", "n", "due"]) (T : Txt K mg cs) (c_most_at : CalX P w K mg base 8 "most_at" ["rule", "start", "kinds", "n"] (sp_most_at cs)) (c__law_is_int : Cal P w K mg base 1 "_law_is_int" ["thing"] sp__law_is_int) : Cal P w K mg base 9 "_law_most_right" ["rule", "start", "kinds", "n", "due"] sp__law_most_right := by
  have nd := (sc__law_most_right).nd
  refine cal_mk (t := t__law_most_right K cs) (N := N__law_most_right) D sc__law_most_right (fun vs H Q E h => len__law_most_right h) (fun f cdv A outer s H E hr => ?_) (fun vs H Q E h => pure__law_most_right T h)
  exact (pss_cons (ps_set (i := 5) nd rfl (Or.inl rfl) (pe_callX c_most_at (hr.mono (by decide)) rfl passL (pa_cons (pv 0) (pa_cons (pv 1) (pa_cons (pv 2) (pa_cons (pv 3) pa_nil))))))
  (pss_one (ps_ret (pe_and (pe_callC c__law_is_int (hr.mono (by decide)) rfl (pa_cons (pv 5) pa_nil)) (pe_one (pe_cmpR op_eq (pv 5) (pv 4) (nomark _)))))))
theorem sc__law_links : FnScope N__law_links ["rule", "listed"] (defScope s__law_links) := ⟨rfl, rfl, rfl, by decide +kernel, rfl, by decide +kernel, by decide +kernel⟩
theorem ok__law_links (D : DefAt K mg "_law_links" s__law_links ["rule", "listed"]) (T : Bi mg) (c__law_can : Cal P w K mg base 2 "_law_can" ["rule", "standing", "t"] sp__law_can) (c__law_after : Cal P w K mg base 3 "_law_after" ["rule", "standing", "t"] sp__law_after) : Cal P w K mg base 4 "_law_links" ["rule", "listed"] sp__law_links := by
  have nd := (sc__law_links).nd
  refine cal_mk (t := t__law_links K) (N := N__law_links) D sc__law_links (fun vs H Q E h => len__law_links h) (fun f cdv A outer s H E hr => ?_) (fun vs H Q E h => pure__law_links h)
  exact (pss_cons (ps_set (i := 2) nd rfl (Or.inl rfl) pe_dnewT)
  (pss_cons (ps_for PassesOwn.never rfl (pi_list (pv 1)) (pg_name (i := 3) nd rfl (Or.inl rfl)) (pss_one (ps_dput (hu_of hr) (pv 2) (pv 3) (pe_callB call_len_dT (by rfl) T.len PySem.boot_len (pa_cons (pv 2) pa_nil)) rfl)))
  (pss_cons (ps_set (i := 4) nd rfl (Or.inl rfl) (pe_lst pa_nil))
  (pss_cons (ps_for PassesOwn.never rfl (pi_list (pv 1)) (pg_name (i := 5) nd rfl (Or.inl rfl)) (pss_cons (ps_set (i := 6) nd rfl (Or.inl rfl) (pe_lst pa_nil))
  (pss_cons (ps_for PassesOwn.never rfl (pi_range1 (by rfl) T.range (pa_cons (pe_callB call_len_seq (by rfl) T.len PySem.boot_len (pa_cons (pe_ix ix_tup (pv 0) pe_int (fun _ _ => rfl)) pa_nil)) pa_nil)) (pg_name (i := 7) nd rfl (Or.inl rfl)) (pss_one (ps_if (pt_val (pe_callC c__law_can (hr.mono (by decide)) rfl (pa_cons (pv 0) (pa_cons (pv 5) (pa_cons (pv 7) pa_nil))))) (pss_one (ps_expr (pe_bm PySem.F.plainAttrs_list PySem.F.slot_list_append PySem.F.type_list_append mt_append (pv 6) (pa_cons (pe_tup (pa_cons (pv 7) (pa_cons (pe_dget (hu_of hr) (pv 2) (pe_callC c__law_after (hr.mono (by decide)) rfl (pa_cons (pv 0) (pa_cons (pv 5) (pa_cons (pv 7) pa_nil)))) (fun _ _ => rfl)) pa_nil))) pa_nil)))) pss_nil)))
  (pss_one (ps_expr (pe_bm PySem.F.plainAttrs_list PySem.F.slot_list_append PySem.F.type_list_append mt_append (pv 4) (pa_cons (pv 6) pa_nil)))))))
  (pss_one (ps_ret (pv 4)))))))
theorem sc__law_steps_to : FnScope N__law_steps_to ["links", "goals"] (defScope s__law_steps_to) := ⟨rfl, rfl, rfl, by decide +kernel, rfl, by decide +kernel, by decide +kernel⟩
theorem ok__law_steps_to (D : DefAt K mg "_law_steps_to" s__law_steps_to ["links", "goals"]) (T : Bi mg) : Cal P w K mg base 1 "_law_steps_to" ["links", "goals"] sp__law_steps_to := by
  have nd := (sc__law_steps_to).nd
  refine cal_mk (t := t__law_steps_to K) (N := N__law_steps_to) D sc__law_steps_to (fun vs H Q E h => len__law_steps_to h) (fun f cdv A outer s H E hr => ?_) (fun vs H Q E h => pure__law_steps_to h)
  exact (pss_cons (ps_setLc (i := 2) (own := [("row", 9)]) (g := (gName 9)) (tt := tYes) rfl nd rfl rfl (sw_true rfl rfl rfl (by decide +kernel)) (pi_list (pv 0)) (blkOk_by (own := [("row", 9)]) (N := N__law_steps_to) (sc := defScope s__law_steps_to) (by decide +kernel)) (fun _ _ _ _ _ => (pg_name (i := 9) nd rfl (Or.inl rfl))) (fun _ _ _ _ _ => pts_nil) (fun _ _ _ _ _ => (pe_lst pa_nil)))
  (pss_cons (ps_for PassesOwn.never rfl (pi_range1 (by rfl) T.range (pa_cons (pe_callB call_len_seq (by rfl) T.len PySem.boot_len (pa_cons (pv 0) pa_nil)) pa_nil)) (pg_name (i := 3) nd rfl (Or.inl rfl)) (pss_one (ps_for PassesOwn.never rfl (pi_list (pe_ix ix_list (pv 0) (pv 3) (fun _ _ => rfl))) (pg_tup rfl (pgs_cons (pg_name (i := 4) nd rfl (Or.inl rfl)) (pgs_cons (pg_name (i := 5) nd rfl (Or.inl rfl)) pgs_nil))) (pss_one (ps_expr (pe_bm PySem.F.plainAttrs_list PySem.F.slot_list_append PySem.F.type_list_append mt_append (pe_ix ix_list (pv 2) (pv 5) (fun _ _ => rfl)) (pa_cons (pv 3) pa_nil)))))))
  (pss_cons (ps_setLc (i := 6) (own := [("row", 9)]) (g := (gName 9)) (tt := tYes) rfl nd rfl rfl (sw_true rfl rfl rfl (by decide +kernel)) (pi_list (pv 0)) (blkOk_by (own := [("row", 9)]) (N := N__law_steps_to) (sc := defScope s__law_steps_to) (by decide +kernel)) (fun _ _ _ _ _ => (pg_name (i := 9) nd rfl (Or.inl rfl))) (fun _ _ _ _ _ => pts_nil) (fun _ _ _ _ _ => pe_non))
  (pss_cons (ps_set (i := 7) nd rfl (Or.inl rfl) (pe_callTy call_list_of (by rfl) T.list_ (by decide +kernel) (pa_cons (pv 1) pa_nil)))
  (pss_cons (ps_for PassesOwn.never rfl (pi_list (pv 1)) (pg_name (i := 3) nd rfl (Or.inl rfl)) (pss_one (ps_asg pe_int (pg_sub (pv 6) (pv 3) set_list))))
  (pss_cons (ps_set (i := 8) nd rfl (Or.inl rfl) pe_int)
  (pss_cons (ps_while PassesOwn.never (pt_cmpR op_lt (pv 8) (pe_callB call_len_seq (by rfl) T.len PySem.boot_len (pa_cons (pv 7) pa_nil)) (nomark _)) (pss_cons (ps_for PassesOwn.never rfl (pi_list (pe_ix ix_list (pv 2) (pe_ix ix_list (pv 7) (pv 8) (fun _ _ => rfl)) (fun _ _ => rfl))) (pg_name (i := 5) nd rfl (Or.inl rfl)) (pss_one (ps_if (pt_cmpR op_isN1 (pe_ix ix_list (pv 6) (pv 5) (fun _ _ => rfl)) pe_non (nomark _)) (pss_cons (ps_asg (pe_op op_add (pe_ix ix_list (pv 6) (pe_ix ix_list (pv 7) (pv 8) (fun _ _ => rfl)) (fun _ _ => rfl)) pe_int) (pg_sub (pv 6) (pv 5) set_list))
  (pss_one (ps_expr (pe_bm PySem.F.plainAttrs_list PySem.F.slot_list_append PySem.F.type_list_append mt_append (pv 7) (pa_cons (pv 5) pa_nil))))) pss_nil)))
  (pss_one (ps_aug (i := 8) nd rfl (Or.inl rfl) pe_int ip_add))))
  (pss_one (ps_ret (pv 6))))))))))
theorem sc__law_best : FnScope N__law_best ["rule", "listed", "kinds"] (defScope s__law_best) := ⟨rfl, rfl, rfl, by decide +kernel, rfl, by decide +kernel, by decide +kernel⟩
theorem ok__law_best (D : DefAt K mg "_law_best" s__law_best ["rule", "listed", "kinds"]) (T : Bi mg) (c__law_inside : Cal P w K mg base 1 "_law_inside" ["standing", "kinds"] sp__law_inside) (c__law_links : Cal P w K mg base 4 "_law_links" ["rule", "listed"] sp__law_links) (c__law_steps_to : Cal P w K mg base 1 "_law_steps_to" ["links", "goals"] sp__law_steps_to) : Cal P w K mg base 5 "_law_best" ["rule", "listed", "kinds"] sp__law_best := by
  have nd := (sc__law_best).nd
  refine cal_mk (t := t__law_best K) (N := N__law_best) D sc__law_best (fun vs H Q E h => len__law_best h) (fun f cdv A outer s H E hr => ?_) (fun vs H Q E h => pure__law_best h)
  exact (pss_cons (ps_setLc (i := 3) (own := [("standing", 11)]) (g := (gName 11)) (tt := tYes) rfl nd rfl rfl (sw_true rfl rfl rfl (by decide +kernel)) (pi_list (pv 1)) (blkOk_by (own := [("standing", 11)]) (N := N__law_best) (sc := defScope s__law_best) (by decide +kernel)) (fun _ _ _ _ _ => (pg_name (i := 11) nd rfl (Or.inl rfl))) (fun _ _ _ _ _ => pts_nil) (fun _ _ _ _ _ => (pe_callC c__law_inside (hr.mono (by decide)) rfl (pa_cons (pv 11) (pa_cons (pv 2) pa_nil)))))
  (pss_cons (ps_set (i := 4) nd rfl (Or.inl rfl) (pe_callC c__law_links (hr.mono (by decide)) rfl (pa_cons (pv 0) (pa_cons (pv 1) pa_nil))))
  (pss_cons (ps_set (i := 5) nd rfl (Or.inl rfl) (pe_callC c__law_steps_to (hr.mono (by decide)) rfl (pa_cons (pv 4) (pa_cons (pe_lst (pa_cons (pe_bm PySem.F.plainAttrs_list PySem.F.slot_list_index PySem.F.type_list_index mt_index (pv 3) (pa_cons (pe_callB (cr_max rfl) (by rfl) T.max (by decide +kernel) (pa_cons (pv 3) pa_nil)) pa_nil)) pa_nil)) pa_nil))))
  (pss_cons (ps_set (i := 6) nd rfl (Or.inl rfl) (pe_lst pa_nil))
  (pss_cons (ps_set (i := 7) nd rfl (Or.inl rfl) pe_int)
  (pss_cons (ps_for PassesOwn.never rfl (pi_range1 (by rfl) T.range (pa_cons (pe_callB call_len_seq (by rfl) T.len PySem.boot_len (pa_cons (pv 1) pa_nil)) pa_nil)) (pg_name (i := 8) nd rfl (Or.inl rfl)) (pss_one (ps_for PassesOwn.never rfl (pi_list (pe_ix ix_list (pv 4) (pv 7) (fun _ _ => rfl))) (pg_tup rfl (pgs_cons (pg_name (i := 9) nd rfl (Or.inl rfl)) (pgs_cons (pg_name (i := 10) nd rfl (Or.inl rfl)) pgs_nil))) (pss_one (ps_if (PW.pt (pw_and (pt_cmpR op_gt (pe_ix ix_list (pv 5) (pv 7) (fun _ _ => rfl)) pe_int (nomark _)) (pw_and (pt_cmpR op_notN1 (pe_ix ix_list (pv 5) (pv 10) (fun _ _ => rfl)) pe_non (nomark _)) (pw_and1 (pt_cmpR (op_eqD hr.units) (pe_ix ix_list (pv 5) (pv 10) (fun _ _ => rfl)) (pe_op op_sub (pe_ix ix_list (pv 5) (pv 7) (fun _ _ => rfl)) pe_int) (nomark _)))))) (pss_cons (ps_expr (pe_bm PySem.F.plainAttrs_list PySem.F.slot_list_append PySem.F.type_list_append mt_append (pv 6) (pa_cons (pv 9) pa_nil)))
  (pss_cons (ps_set (i := 7) nd rfl (Or.inl rfl) (pv 10))
  (pss_one ps_break))) pss_nil)))))
  (pss_one (ps_ret (pe_callTy call_tuple_of (by rfl) T.tuple_ (by decide +kernel) (pa_cons (pv 6) pa_nil))))))))))
theorem sc__law_all_right : FnScope N__law_all_right ["rule", "start", "kinds", "n", "listed"] (defScope s__law_all_right) := ⟨rfl, rfl, rfl, by decide +kernel, rfl, by decide +kernel, by decide +kernel⟩
theorem ok__law_all_right {cs : Cs} (D : DefAt K mg "_law_all_right" s__law_all_right ["rule", "start", "kinds", "n", "listed"]) (T : Txt K mg cs) (c__law_inside : Cal P w K mg base 1 "_law_inside" ["standing", "kinds"] sp__law_inside) (c_least_left : CalX P w K mg base 9 "least_left" ["rule", "start", "kinds", "n"] (sp_least_left cs)) (c__law_is_int : Cal P w K mg base 1 "_law_is_int" ["thing"] sp__law_is_int) (c_best_run : CalX P w K mg base 8 "best_run" ["rule", "start", "kinds", "n"] (sp_best_run cs)) (c__law_is_ints : Cal P w K mg base 2 "_law_is_ints" ["row"] sp__law_is_ints) (c__law_best : Cal P w K mg base 5 "_law_best" ["rule", "listed", "kinds"] sp__law_best) (c__law_most_right : Cal P w K mg base 9 "_law_most_right" ["rule", "start", "kinds", "n", "due"] sp__law_most_right) : Cal P w K mg base 10 "_law_all_right" ["rule", "start", "kinds", "n", "listed"] sp__law_all_right := by
  have nd := (sc__law_all_right).nd
  refine cal_mk (t := t__law_all_right K cs) (N := N__law_all_right) D sc__law_all_right (fun vs H Q E h => len__law_all_right h) (fun f cdv A outer s H E hr => ?_) (fun vs H Q E h => pure__law_all_right T h)
  exact (pss_cons (ps_set (i := 5) nd rfl (Or.inl rfl) (pe_callB (cr_max rfl) (by rfl) T.max (by decide +kernel) (pa_cons (pe_lc (own := [("standing", 8)]) (g := (gName 8)) (tt := tYes) rfl nd (pi_list (pv 4)) (blkOk_by (own := [("standing", 8)]) (N := N__law_all_right) (sc := defScope s__law_all_right) (by decide +kernel)) (fun _ _ _ _ _ => (pg_name (i := 8) nd rfl (Or.inl rfl))) (fun _ _ _ _ _ => pts_nil) (fun _ _ _ _ _ => (pe_callC c__law_inside (hr.mono (by decide)) rfl (pa_cons (pv 8) (pa_cons (pv 2) pa_nil))))) pa_nil)))
  (pss_cons (ps_set (i := 6) nd rfl (Or.inl rfl) (pe_callX c_least_left (hr.mono (by decide)) rfl passL (pa_cons (pv 0) (pa_cons (pv 1) (pa_cons (pv 2) (pa_cons (pv 3) pa_nil))))))
  (pss_cons (ps_if (PW.pt (pw_or (pt_not (pt_val (pe_callC c__law_is_int (hr.mono (by decide)) rfl (pa_cons (pv 6) pa_nil)))) (pw_or1 (pt_cmpR op_ne (pv 6) (pe_op op_sub (pe_op op_mul (pv 3) (pe_callB (cr_sum rfl) (by rfl) T.sum (by decide +kernel) (pa_cons (pe_callTy call_list_of (by rfl) T.list_ (by decide +kernel) (pa_cons (pv 1) pa_nil)) pa_nil))) (pv 5)) (nomark _))))) (pss_one (ps_ret pe_bl)) pss_nil)
  (pss_cons (ps_set (i := 7) nd rfl (Or.inl rfl) (pe_callX c_best_run (hr.mono (by decide)) rfl passL (pa_cons (pv 0) (pa_cons (pv 1) (pa_cons (pv 2) (pa_cons (pv 3) pa_nil))))))
  (pss_cons (ps_if (PW.pt (pw_or (pt_not (pt_val (pe_callC c__law_is_ints (hr.mono (by decide)) rfl (pa_cons (pv 7) pa_nil)))) (pw_or1 (pt_cmpR (op_neD hr.units) (pv 7) (pe_callC c__law_best (hr.mono (by decide)) rfl (pa_cons (pv 0) (pa_cons (pv 4) (pa_cons (pv 2) pa_nil)))) (nomark _))))) (pss_one (ps_ret pe_bl)) pss_nil)
  (pss_one (ps_ret (pe_callC c__law_most_right (hr.mono (by decide)) rfl (pa_cons (pv 0) (pa_cons (pv 1) (pa_cons (pv 2) (pa_cons (pv 3) (pa_cons (pv 5) pa_nil)))))))))))))
theorem sc__law_far_right : FnScope N__law_far_right ["rule", "start", "kinds", "far", "dues"] (defScope s__law_far_right) := ⟨rfl, rfl, rfl, by decide +kernel, rfl, by decide +kernel, by decide +kernel⟩
theorem ok__law_far_right {cs : Cs} (D : DefAt K mg "_law_far_right" s__law_far_right ["rule", "start", "kinds", "far", "dues"]) (T : Txt K mg cs) (c_most_at : CalX P w K mg base 8 "most_at" ["rule", "start", "kinds", "n"] (sp_most_at cs)) (c__law_is_int : Cal P w K mg base 1 "_law_is_int" ["thing"] sp__law_is_int) (c_best_run : CalX P w K mg base 8 "best_run" ["rule", "start", "kinds", "n"] (sp_best_run cs)) (c__law_is_ints : Cal P w K mg base 2 "_law_is_ints" ["row"] sp__law_is_ints) (c__law_times : Cal P w K mg base 1 "_law_times" ["n", "row"] sp__law_times) (c__law_run_end : Cal P w K mg base 4 "_law_run_end" ["rule", "standing", "run"] sp__law_run_end) (c__law_inside : Cal P w K mg base 1 "_law_inside" ["standing", "kinds"] sp__law_inside) : Cal P w K mg base 9 "_law_far_right" ["rule", "start", "kinds", "far", "dues"] sp__law_far_right := by
  have nd := (sc__law_far_right).nd
  refine cal_mk (t := t__law_far_right K cs) (N := N__law_far_right) D sc__law_far_right (fun vs H Q E h => len__law_far_right h) (fun f cdv A outer s H E hr => ?_) (fun vs H Q E h => pure__law_far_right T h)
  exact (pss_cons (ps_set (i := 5) nd rfl (Or.inr rfl) (pe_callX c_most_at (hr.mono (by decide)) rfl passL (pa_cons (pv 0) (pa_cons (pv 1) (pa_cons (pv 2) (pa_cons (pv 3) pa_nil))))))
  (pss_cons (ps_if (pt_not (pt_val (pe_callC c__law_is_int (hr.mono (by decide)) rfl (pa_cons (pv 5) pa_nil)))) (pss_one (ps_ret pe_bl)) pss_nil)
  (pss_cons (ps_set (i := 6) nd rfl (Or.inl rfl) (pe_op op_sub (pe_callB call_len_seq (by rfl) T.len PySem.boot_len (pa_cons (pv 4) pa_nil)) pe_int))
  (pss_cons (ps_if (pt_val (pe_callB (cr_any rfl) (by rfl) T.any (by decide +kernel) (pa_cons (pe_lc (own := [("n", 9)]) (g := (gName 9)) (tt := tYes) rfl nd (pi_range2 (by rfl) T.range (pa_cons (pe_op op_sub (pv 3) (pv 6)) (pa_cons (pe_op op_add (pv 6) pe_int) pa_nil))) (blkOk_by (own := [("n", 9)]) (N := N__law_far_right) (sc := defScope s__law_far_right) (by decide +kernel)) (fun _ _ _ _ _ => (pg_name (i := 9) nd rfl (Or.inl rfl))) (fun _ _ _ _ _ => pts_nil) (fun _ _ _ _ _ => (pe_cmpR op_lt (pv 5) (pe_op op_add (pe_ix ix_list (pv 4) (pv 9) (fun _ _ => rfl)) (pe_ix ix_list (pv 4) (pe_op op_sub (pv 3) (pv 9)) (fun _ _ => rfl))) (nomark _)))) pa_nil))) (pss_one (ps_ret pe_bl)) pss_nil)
  (pss_cons (ps_set (i := 7) nd rfl (Or.inl rfl) (pe_callX c_best_run (hr.mono (by decide)) rfl passL (pa_cons (pv 0) (pa_cons (pv 1) (pa_cons (pv 2) (pa_cons (pv 3) pa_nil))))))
  (pss_cons (ps_if (pt_not (pt_val (pe_callC c__law_is_ints (hr.mono (by decide)) rfl (pa_cons (pv 7) pa_nil)))) (pss_one (ps_ret pe_bl)) pss_nil)
  (pss_cons (ps_set (i := 8) nd rfl (Or.inl rfl) (pe_callC c__law_run_end (hr.mono (by decide)) rfl (pa_cons (pv 0) (pa_cons (pe_callC c__law_times (hr.mono (by decide)) rfl (pa_cons (pv 3) (pa_cons (pv 1) pa_nil))) (pa_cons (pv 7) pa_nil)))))
  (pss_one (ps_ret (pe_and (pe_cmpR op_notN1 (pv 8) pe_non (nomark _)) (pe_one (pe_cmpR op_eq (pe_callC c__law_inside (hr.mono (by decide)) rfl (pa_cons (pv 8) (pa_cons (pv 2) pa_nil))) (pv 5) (nomark _)))))))))))))
theorem sc_law : FnScope N_law ["script"] (defScope s_law) := ⟨rfl, rfl, rfl, by decide +kernel, rfl, by decide +kernel, by decide +kernel⟩
theorem fn_law {cs : Cs} {f0 : Addr} {fd : FuncData} (F : FnP K "law" s_law f0 fd) (T : Txt K mg cs) (c__law_begin : Cal P w K mg base 1 "_law_begin" ["script"] (sp__law_begin K)) (c__law_rare : Cal P w K mg base 2 "_law_rare" ["d", "many"] sp__law_rare) (c__law_ring_right : Cal P w K mg base 11 "_law_ring_right" ["d"] sp__law_ring_right) (c__law_world : Cal P w K mg base 8 "_law_world" ["d"] sp__law_world) (c__law_some_kinds : Cal P w K mg base 3 "_law_some_kinds" ["d", "many"] sp__law_some_kinds) (c__law_draw : Cal P w K mg base 1 "_law_draw" ["d", "many"] sp__law_draw) (c__law_top : Cal P w K mg base 2 "_law_top" ["task", "most", "room"] sp__law_top) (c__law_times : Cal P w K mg base 1 "_law_times" ["n", "row"] sp__law_times) (c__law_reach : Cal P w K mg base 4 "_law_reach" ["rule", "standing", "most"] sp__law_reach) (c__law_inside : Cal P w K mg base 1 "_law_inside" ["standing", "kinds"] sp__law_inside) (c__law_most_right : Cal P w K mg base 9 "_law_most_right" ["rule", "start", "kinds", "n", "due"] sp__law_most_right) (c__law_all_right : Cal P w K mg base 10 "_law_all_right" ["rule", "start", "kinds", "n", "listed"] sp__law_all_right) (c__law_far_right : Cal P w K mg base 9 "_law_far_right" ["rule", "start", "kinds", "far", "dues"] sp__law_far_right) : FnOk P w K mg base CX0 12 f0 fd ["script"] (sp_law K) := by
  have nd := (sc_law).nd
  refine fn_mk (t := t_law K cs) (N := N_law) F sc_law (fun vs H Q E h => len_law h) (fun f cdv A outer s H E hr => ?_) (fun vs H Q E h => pure_law T h)
  exact (pss_cons (ps_set (i := 1) nd rfl (Or.inl rfl) (pe_callC c__law_begin (hr.mono (by decide)) rfl (pa_cons (pv 0) pa_nil)))
  (pss_cons (ps_if (pt_val (pe_callC c__law_rare (hr.mono (by decide)) rfl (pa_cons (pv 1) (pa_cons pe_int pa_nil)))) (pss_one (ps_ret (pe_callC c__law_ring_right (hr.mono (by decide)) rfl (pa_cons (pv 1) pa_nil)))) pss_nil)
  (pss_cons (ps_asg (pe_callC c__law_world (hr.mono (by decide)) rfl (pa_cons (pv 1) pa_nil)) (pg_tup rfl (pgs_cons (pg_name (i := 2) nd rfl (Or.inr rfl)) (pgs_cons (pg_name (i := 3) nd rfl (Or.inl rfl)) pgs_nil))))
  (pss_cons (ps_par (i := 4) (j := 5) (by rfl) nd rfl rfl (by decide) rfl rfl (pa_cons (pe_ix ix_tup (pv 2) pe_int (fun _ _ => rfl)) (pa_cons (pe_ix ix_tup (pv 2) pe_int (fun _ _ => rfl)) pa_nil)) (by rfl))
  (pss_cons (ps_set (i := 6) nd rfl (Or.inr rfl) (pe_callC c__law_some_kinds (hr.mono (by decide)) rfl (pa_cons (pv 1) (pa_cons (pe_callB call_len_seq (by rfl) T.len PySem.boot_len (pa_cons (pv 5) pa_nil)) pa_nil))))
  (pss_cons (ps_if (pt_cmpR op_eq (pe_callC c__law_draw (hr.mono (by decide)) rfl (pa_cons (pv 1) (pa_cons pe_int pa_nil))) pe_int (nomark _)) (pss_one (ps_set (i := 6) nd rfl (Or.inr rfl) (pe_callTy call_tuple_of (by rfl) T.tuple_ (by decide +kernel) (pa_cons (pe_lc (own := [("kind", 14)]) (g := (gName 14)) (tt := (tTest (tOp oGt (tOp (rIxT K) (tOp (rIxT K) (tVar 2) (tC (.int 2))) (tVar 14)) (tC (.int 0))))) rfl nd (pi_range1 (by rfl) T.range (pa_cons (pe_callB call_len_seq (by rfl) T.len PySem.boot_len (pa_cons (pv 5) pa_nil)) pa_nil)) (blkOk_by (own := [("kind", 14)]) (N := N_law) (sc := defScope s_law) (by decide +kernel)) (fun _ _ _ _ _ => (pg_name (i := 14) nd rfl (Or.inl rfl))) (fun _ _ _ _ _ => (pts_one (pt_cmpR op_gt (pe_ix ix_tup (pe_ix ix_tup (pv 2) pe_int (fun _ _ => rfl)) (pv 14) (fun _ _ => rfl)) pe_int (nomark _)))) (fun _ _ _ _ _ => (pv 14))) pa_nil)))) pss_nil)
  (pss_cons (ps_set (i := 7) nd rfl (Or.inl rfl) (pe_callC c__law_some_kinds (hr.mono (by decide)) rfl (pa_cons (pv 1) (pa_cons (pe_callB call_len_seq (by rfl) T.len PySem.boot_len (pa_cons (pv 5) pa_nil)) pa_nil))))
  (pss_cons (ps_set (i := 8) nd rfl (Or.inl rfl) (pe_callC c__law_top (hr.mono (by decide)) rfl (pa_cons (pv 2) (pa_cons pe_int (pa_cons (pv 3) pa_nil)))))
  (pss_cons (ps_set (i := 9) nd rfl (Or.inl rfl) (pe_callC c__law_draw (hr.mono (by decide)) rfl (pa_cons (pv 1) (pa_cons (pe_op op_add (pv 8) pe_int) pa_nil))))
  (pss_cons (ps_set (i := 10) nd rfl (Or.inl rfl) (pe_lst pa_nil))
  (pss_cons (ps_for PassesOwn.never rfl (pi_range1 (by rfl) T.range (pa_cons (pe_op op_add (pv 8) pe_int) pa_nil)) (pg_name (i := 11) nd rfl (Or.inl rfl)) (pss_cons (ps_set (i := 12) nd rfl (Or.inl rfl) (pe_callC c__law_reach (hr.mono (by decide)) rfl (pa_cons (pv 4) (pa_cons (pe_callC c__law_times (hr.mono (by decide)) rfl (pa_cons (pv 11) (pa_cons (pv 5) pa_nil))) (pa_cons pe_int pa_nil)))))
  (pss_cons (ps_expr (pe_bm PySem.F.plainAttrs_list PySem.F.slot_list_append PySem.F.type_list_append mt_append (pv 10) (pa_cons (pe_callB (cr_max rfl) (by rfl) T.max (by decide +kernel) (pa_cons (pe_lc (own := [("standing", 15)]) (g := (gName 15)) (tt := tYes) rfl nd (pi_list (pv 12)) (blkOk_by (own := [("standing", 15)]) (N := N_law) (sc := defScope s_law) (by decide +kernel)) (fun _ _ _ _ _ => (pg_name (i := 15) nd rfl (Or.inl rfl))) (fun _ _ _ _ _ => pts_nil) (fun _ _ _ _ _ => (pe_callC c__law_inside (hr.mono (by decide)) rfl (pa_cons (pv 15) (pa_cons (pv 6) pa_nil))))) pa_nil)) pa_nil)))
  (pss_cons (ps_if (pt_not (pt_val (pe_callC c__law_most_right (hr.mono (by decide)) rfl (pa_cons (pv 4) (pa_cons (pv 5) (pa_cons (pv 6) (pa_cons (pv 11) (pa_cons (pe_ix ix_list (pv 10) (pv 11) (fun _ _ => rfl)) pa_nil)))))))) (pss_one (ps_ret pe_bl)) pss_nil)
  (pss_one (ps_if (pt_cmpR op_eq (pv 11) (pv 9) (nomark _)) (pss_one (ps_if (PW.pt (pw_or (pt_not (pt_val (pe_callC c__law_all_right (hr.mono (by decide)) rfl (pa_cons (pv 4) (pa_cons (pv 5) (pa_cons (pv 6) (pa_cons (pv 11) (pa_cons (pv 12) pa_nil)))))))) (pw_or1 (pt_not (pt_val (pe_callC c__law_all_right (hr.mono (by decide)) rfl (pa_cons (pv 4) (pa_cons (pv 5) (pa_cons (pv 7) (pa_cons (pv 11) (pa_cons (pv 12) pa_nil))))))))))) (pss_one (ps_ret pe_bl)) pss_nil)) pss_nil))))))
  (pss_cons (ps_set (i := 13) nd rfl (Or.inl rfl) (pe_callB (call_min2 rfl) (by rfl) T.min (by decide +kernel) (pa_cons (pe_op op_mul pe_int (pv 8)) (pa_cons (pe_callC c__law_top (hr.mono (by decide)) rfl (pa_cons (pv 2) (pa_cons pe_int (pa_cons (pe_op op_mul pe_int (pv 3)) pa_nil)))) pa_nil))))
  (pss_cons (ps_if (PW.pt (pw_and (pt_cmpR op_gt (pv 13) (pv 8) (nomark _)) (pw_and1 (pt_not (pt_val (pe_callC c__law_far_right (hr.mono (by decide)) rfl (pa_cons (pv 4) (pa_cons (pv 5) (pa_cons (pv 6) (pa_cons (pv 13) (pa_cons (pv 10) pa_nil))))))))))) (pss_one (ps_ret pe_bl)) pss_nil)
  (pss_one (ps_ret (pe_callC c__law_most_right (hr.mono (by decide)) rfl (pa_cons (pv 4) (pa_cons (pv 5) (pa_cons (pv 6) (pa_cons (pv 9) (pa_cons (pe_ix ix_list (pv 10) (pv 9) (fun _ _ => rfl)) pa_nil)))))))))))))))))))))

end
end M
/-! ## Hx -/
/-! The head: the facts by names, the run of the top; the law. -/
namespace M
open PySem PySem.Spec PyProof.Rows L2
section
variable {K : PySem.W.Frag} {h : Heap} {mg : Str → Option Value} {file : Str}
theorem bi_ok (X : K.In h) (G : h.Ns mainGlobals mg) (c : He.SaysD faL fnL K) : Bi mg :=
  ⟨He.free_ok X G (c.fact 0 (f := .free "len") rfl), He.free_ok X G (c.fact 1 (f := .free "sum") rfl), He.free_ok X G (c.fact 2 (f := .free "max") rfl), He.free_ok X G (c.fact 3 (f := .free "min") rfl), He.free_ok X G (c.fact 4 (f := .free "all") rfl), He.free_ok X G (c.fact 5 (f := .free "any") rfl), He.free_ok X G (c.fact 6 (f := .free "abs") rfl), He.free_ok X G (c.fact 7 (f := .free "range") rfl), He.free_ok X G (c.fact 8 (f := .free "zip") rfl), He.free_ok X G (c.fact 9 (f := .free "sorted") rfl), He.free_ok X G (c.fact 10 (f := .free "isinstance") rfl), He.free_ok X G (c.fact 11 (f := .free "int") rfl), He.free_ok X G (c.fact 12 (f := .free "bool") rfl), He.free_ok X G (c.fact 13 (f := .free "tuple") rfl), He.free_ok X G (c.fact 14 (f := .free "list") rfl)⟩
theorem D__law_begin (X : K.In h) (G : h.Ns mainGlobals mg) (c : He.SaysD faL fnL K) : DefAt K mg "_law_begin" s__law_begin ["script"] := by
  obtain ⟨fd, F⟩ := c.def_ 0 (d := d__law_begin) rfl
  exact ⟨_, fd, F, He.glo_ok X G (c.fact 16 (f := .glo "_law_begin") rfl), F.bindsN fun _ _ _ _ _ _ us hl => match us, hl with | [_], _ => rfl⟩
theorem D__law_draw (X : K.In h) (G : h.Ns mainGlobals mg) (c : He.SaysD faL fnL K) : DefAt K mg "_law_draw" s__law_draw ["d", "many"] := by
  obtain ⟨fd, F⟩ := c.def_ 1 (d := d__law_draw) rfl
  exact ⟨_, fd, F, He.glo_ok X G (c.fact 17 (f := .glo "_law_draw") rfl), F.bindsN fun _ _ _ _ _ _ us hl => match us, hl with | [_, _], _ => rfl⟩
theorem D__law_rare (X : K.In h) (G : h.Ns mainGlobals mg) (c : He.SaysD faL fnL K) : DefAt K mg "_law_rare" s__law_rare ["d", "many"] := by
  obtain ⟨fd, F⟩ := c.def_ 2 (d := d__law_rare) rfl
  exact ⟨_, fd, F, He.glo_ok X G (c.fact 18 (f := .glo "_law_rare") rfl), F.bindsN fun _ _ _ _ _ _ us hl => match us, hl with | [_, _], _ => rfl⟩
theorem D__law_pick (X : K.In h) (G : h.Ns mainGlobals mg) (c : He.SaysD faL fnL K) : DefAt K mg "_law_pick" s__law_pick ["d", "row"] := by
  obtain ⟨fd, F⟩ := c.def_ 3 (d := d__law_pick) rfl
  exact ⟨_, fd, F, He.glo_ok X G (c.fact 19 (f := .glo "_law_pick") rfl), F.bindsN fun _ _ _ _ _ _ us hl => match us, hl with | [_, _], _ => rfl⟩
theorem D__law_pool (X : K.In h) (G : h.Ns mainGlobals mg) (c : He.SaysD faL fnL K) : DefAt K mg "_law_pool" s__law_pool [] := by
  obtain ⟨fd, F⟩ := c.def_ 4 (d := d__law_pool) rfl
  exact ⟨_, fd, F, He.glo_ok X G (c.fact 20 (f := .glo "_law_pool") rfl), F.bindsN fun _ _ _ _ _ _ us hl => match us, hl with | [], _ => rfl⟩
theorem D__law_pop (X : K.In h) (G : h.Ns mainGlobals mg) (c : He.SaysD faL fnL K) : DefAt K mg "_law_pop" s__law_pop ["d", "row"] := by
  obtain ⟨fd, F⟩ := c.def_ 5 (d := d__law_pop) rfl
  exact ⟨_, fd, F, He.glo_ok X G (c.fact 21 (f := .glo "_law_pop") rfl), F.bindsN fun _ _ _ _ _ _ us hl => match us, hl with | [_, _], _ => rfl⟩
theorem D__law_shuffled (X : K.In h) (G : h.Ns mainGlobals mg) (c : He.SaysD faL fnL K) : DefAt K mg "_law_shuffled" s__law_shuffled ["d", "row"] := by
  obtain ⟨fd, F⟩ := c.def_ 6 (d := d__law_shuffled) rfl
  exact ⟨_, fd, F, He.glo_ok X G (c.fact 22 (f := .glo "_law_shuffled") rfl), F.bindsN fun _ _ _ _ _ _ us hl => match us, hl with | [_, _], _ => rfl⟩
theorem D__law_listed (X : K.In h) (G : h.Ns mainGlobals mg) (c : He.SaysD faL fnL K) : DefAt K mg "_law_listed" s__law_listed ["many", "places"] := by
  obtain ⟨fd, F⟩ := c.def_ 7 (d := d__law_listed) rfl
  exact ⟨_, fd, F, He.glo_ok X G (c.fact 23 (f := .glo "_law_listed") rfl), F.bindsN fun _ _ _ _ _ _ us hl => match us, hl with | [_, _], _ => rfl⟩
theorem D__law_heap (X : K.In h) (G : h.Ns mainGlobals mg) (c : He.SaysD faL fnL K) : DefAt K mg "_law_heap" s__law_heap ["d", "many", "size"] := by
  obtain ⟨fd, F⟩ := c.def_ 8 (d := d__law_heap) rfl
  exact ⟨_, fd, F, He.glo_ok X G (c.fact 24 (f := .glo "_law_heap") rfl), F.bindsN fun _ _ _ _ _ _ us hl => match us, hl with | [_, _, _], _ => rfl⟩
theorem D__law_some_kinds (X : K.In h) (G : h.Ns mainGlobals mg) (c : He.SaysD faL fnL K) : DefAt K mg "_law_some_kinds" s__law_some_kinds ["d", "many"] := by
  obtain ⟨fd, F⟩ := c.def_ 9 (d := d__law_some_kinds) rfl
  exact ⟨_, fd, F, He.glo_ok X G (c.fact 25 (f := .glo "_law_some_kinds") rfl), F.bindsN fun _ _ _ _ _ _ us hl => match us, hl with | [_, _], _ => rfl⟩
theorem D__law_size_of_crowd (X : K.In h) (G : h.Ns mainGlobals mg) (c : He.SaysD faL fnL K) : DefAt K mg "_law_size_of_crowd" s__law_size_of_crowd ["task", "n"] := by
  obtain ⟨fd, F⟩ := c.def_ 10 (d := d__law_size_of_crowd) rfl
  exact ⟨_, fd, F, He.glo_ok X G (c.fact 26 (f := .glo "_law_size_of_crowd") rfl), F.bindsN fun _ _ _ _ _ _ us hl => match us, hl with | [_, _], _ => rfl⟩
theorem D_times_all (X : K.In h) (G : h.Ns mainGlobals mg) (c : He.SaysD faL fnL K) : DefAt K mg "times_all" s_times_all ["times", "row"] := by
  obtain ⟨fd, F⟩ := c.def_ 11 (d := d_times_all) rfl
  exact ⟨_, fd, F, He.glo_ok X G (c.fact 27 (f := .glo "times_all") rfl), F.bindsN fun _ _ _ _ _ _ us hl => match us, hl with | [_, _], _ => rfl⟩
theorem D_at_most (X : K.In h) (G : h.Ns mainGlobals mg) (c : He.SaysD faL fnL K) : DefAt K mg "at_most" s_at_most ["one", "other"] := by
  obtain ⟨fd, F⟩ := c.def_ 12 (d := d_at_most) rfl
  exact ⟨_, fd, F, He.glo_ok X G (c.fact 28 (f := .glo "at_most") rfl), F.bindsN fun _ _ _ _ _ _ us hl => match us, hl with | [_, _], _ => rfl⟩
theorem D_can_do (X : K.In h) (G : h.Ns mainGlobals mg) (c : He.SaysD faL fnL K) : DefAt K mg "can_do" s_can_do ["rule", "standing", "deed"] := by
  obtain ⟨fd, F⟩ := c.def_ 13 (d := d_can_do) rfl
  exact ⟨_, fd, F, He.glo_ok X G (c.fact 29 (f := .glo "can_do") rfl), F.bindsN fun _ _ _ _ _ _ us hl => match us, hl with | [_, _, _], _ => rfl⟩
theorem D_moved_by (X : K.In h) (G : h.Ns mainGlobals mg) (c : He.SaysD faL fnL K) : DefAt K mg "moved_by" s_moved_by ["rule", "standing", "deed"] := by
  obtain ⟨fd, F⟩ := c.def_ 14 (d := d_moved_by) rfl
  exact ⟨_, fd, F, He.glo_ok X G (c.fact 30 (f := .glo "moved_by") rfl), F.bindsN fun _ _ _ _ _ _ us hl => match us, hl with | [_, _, _], _ => rfl⟩
theorem D_Search_links_of (c : He.SaysD faL fnL K) : MethAt K (He.ga K "Search") "links_of" "Search.links_of" s_Search_links_of ["self", "at", "most", "barrier"] := by
  obtain ⟨fd, F⟩ := c.def_ 15 (d := d_Search_links_of) rfl
  exact ⟨_, fd, F, He.meth_ok (c.fact 94 (f := .meth "Search" "links_of") rfl), F.bindsN fun _ _ _ _ _ _ us hl => match us, hl with | [_, _, _, _], _ => rfl⟩
theorem D_Search___init__ (X : K.In h) (G : h.Ns mainGlobals mg) (c : He.SaysD faL fnL K) : InitAt K mg (He.ga K "Search") "Search" "Search.__init__" s_Search___init__ ["self", "rule", "standing", "most", "barrier"] := by
  obtain ⟨fd, F⟩ := c.def_ 16 (d := d_Search___init__) rfl
  exact ⟨_, fd, F, He.mkr_ok (c.fact 97 (f := .mkr "Search") rfl), He.glo_ok X G (c.fact 74 (f := .glo "Search") rfl), F.bindsN fun _ _ _ _ _ _ us hl => match us, hl with | [_, _, _, _, _], _ => rfl⟩
theorem D_count_in (X : K.In h) (G : h.Ns mainGlobals mg) (c : He.SaysD faL fnL K) : DefAt K mg "count_in" s_count_in ["standing", "kinds"] := by
  obtain ⟨fd, F⟩ := c.def_ 17 (d := d_count_in) rfl
  exact ⟨_, fd, F, He.glo_ok X G (c.fact 31 (f := .glo "count_in") rfl), F.bindsN fun _ _ _ _ _ _ us hl => match us, hl with | [_, _], _ => rfl⟩
theorem D_most_at (X : K.In h) (G : h.Ns mainGlobals mg) (c : He.SaysD faL fnL K) : DefAt K mg "most_at" s_most_at ["rule", "start", "kinds", "n"] := by
  obtain ⟨fd, F⟩ := c.def_ 18 (d := d_most_at) rfl
  exact ⟨_, fd, F, He.glo_ok X G (c.fact 32 (f := .glo "most_at") rfl), F.bindsN fun _ _ _ _ _ _ us hl => match us, hl with | [_, _, _, _], _ => rfl⟩
theorem D_least_left (X : K.In h) (G : h.Ns mainGlobals mg) (c : He.SaysD faL fnL K) : DefAt K mg "least_left" s_least_left ["rule", "start", "kinds", "n"] := by
  obtain ⟨fd, F⟩ := c.def_ 19 (d := d_least_left) rfl
  exact ⟨_, fd, F, He.glo_ok X G (c.fact 33 (f := .glo "least_left") rfl), F.bindsN fun _ _ _ _ _ _ us hl => match us, hl with | [_, _, _, _], _ => rfl⟩
theorem D_Search_steps_to (c : He.SaysD faL fnL K) : MethAt K (He.ga K "Search") "steps_to" "Search.steps_to" s_Search_steps_to ["self", "goal"] := by
  obtain ⟨fd, F⟩ := c.def_ 20 (d := d_Search_steps_to) rfl
  exact ⟨_, fd, F, He.meth_ok (c.fact 95 (f := .meth "Search" "steps_to") rfl), F.bindsN fun _ _ _ _ _ _ us hl => match us, hl with | [_, _], _ => rfl⟩
theorem D_Search_first_run (c : He.SaysD faL fnL K) : MethAt K (He.ga K "Search") "first_run" "Search.first_run" s_Search_first_run ["self", "at", "steps"] := by
  obtain ⟨fd, F⟩ := c.def_ 21 (d := d_Search_first_run) rfl
  exact ⟨_, fd, F, He.meth_ok (c.fact 96 (f := .meth "Search" "first_run") rfl), F.bindsN fun _ _ _ _ _ _ us hl => match us, hl with | [_, _, _], _ => rfl⟩
theorem D_best_run (X : K.In h) (G : h.Ns mainGlobals mg) (c : He.SaysD faL fnL K) : DefAt K mg "best_run" s_best_run ["rule", "start", "kinds", "n"] := by
  obtain ⟨fd, F⟩ := c.def_ 22 (d := d_best_run) rfl
  exact ⟨_, fd, F, He.glo_ok X G (c.fact 34 (f := .glo "best_run") rfl), F.bindsN fun _ _ _ _ _ _ us hl => match us, hl with | [_, _, _, _], _ => rfl⟩
theorem D__law_refused (X : K.In h) (G : h.Ns mainGlobals mg) (c : He.SaysD faL fnL K) : DefAt K mg "_law_refused" s__law_refused ["way", "rule", "start", "kinds", "n"] := by
  obtain ⟨fd, F⟩ := c.def_ 23 (d := d__law_refused) rfl
  exact ⟨_, fd, F, He.glo_ok X G (c.fact 35 (f := .glo "_law_refused") rfl), F.bindsN fun _ _ _ _ _ _ us hl => match us, hl with | [_, _, _, _, _], _ => rfl⟩
theorem D__law_is_int (X : K.In h) (G : h.Ns mainGlobals mg) (c : He.SaysD faL fnL K) : DefAt K mg "_law_is_int" s__law_is_int ["thing"] := by
  obtain ⟨fd, F⟩ := c.def_ 24 (d := d__law_is_int) rfl
  exact ⟨_, fd, F, He.glo_ok X G (c.fact 36 (f := .glo "_law_is_int") rfl), F.bindsN fun _ _ _ _ _ _ us hl => match us, hl with | [_], _ => rfl⟩
theorem D__law_is_ints (X : K.In h) (G : h.Ns mainGlobals mg) (c : He.SaysD faL fnL K) : DefAt K mg "_law_is_ints" s__law_is_ints ["row"] := by
  obtain ⟨fd, F⟩ := c.def_ 25 (d := d__law_is_ints) rfl
  exact ⟨_, fd, F, He.glo_ok X G (c.fact 37 (f := .glo "_law_is_ints") rfl), F.bindsN fun _ _ _ _ _ _ us hl => match us, hl with | [_], _ => rfl⟩
theorem D__law_ring_steps (X : K.In h) (G : h.Ns mainGlobals mg) (c : He.SaysD faL fnL K) : DefAt K mg "_law_ring_steps" s__law_ring_steps ["start", "kinds"] := by
  obtain ⟨fd, F⟩ := c.def_ 26 (d := d__law_ring_steps) rfl
  exact ⟨_, fd, F, He.glo_ok X G (c.fact 38 (f := .glo "_law_ring_steps") rfl), F.bindsN fun _ _ _ _ _ _ us hl => match us, hl with | [_, _], _ => rfl⟩
theorem D__law_times (X : K.In h) (G : h.Ns mainGlobals mg) (c : He.SaysD faL fnL K) : DefAt K mg "_law_times" s__law_times ["n", "row"] := by
  obtain ⟨fd, F⟩ := c.def_ 27 (d := d__law_times) rfl
  exact ⟨_, fd, F, He.glo_ok X G (c.fact 39 (f := .glo "_law_times") rfl), F.bindsN fun _ _ _ _ _ _ us hl => match us, hl with | [_, _], _ => rfl⟩
theorem D__law_under (X : K.In h) (G : h.Ns mainGlobals mg) (c : He.SaysD faL fnL K) : DefAt K mg "_law_under" s__law_under ["one", "other"] := by
  obtain ⟨fd, F⟩ := c.def_ 28 (d := d__law_under) rfl
  exact ⟨_, fd, F, He.glo_ok X G (c.fact 40 (f := .glo "_law_under") rfl), F.bindsN fun _ _ _ _ _ _ us hl => match us, hl with | [_, _], _ => rfl⟩
theorem D__law_can (X : K.In h) (G : h.Ns mainGlobals mg) (c : He.SaysD faL fnL K) : DefAt K mg "_law_can" s__law_can ["rule", "standing", "t"] := by
  obtain ⟨fd, F⟩ := c.def_ 29 (d := d__law_can) rfl
  exact ⟨_, fd, F, He.glo_ok X G (c.fact 41 (f := .glo "_law_can") rfl), F.bindsN fun _ _ _ _ _ _ us hl => match us, hl with | [_, _, _], _ => rfl⟩
theorem D__law_minus (X : K.In h) (G : h.Ns mainGlobals mg) (c : He.SaysD faL fnL K) : DefAt K mg "_law_minus" s__law_minus ["one", "other"] := by
  obtain ⟨fd, F⟩ := c.def_ 30 (d := d__law_minus) rfl
  exact ⟨_, fd, F, He.glo_ok X G (c.fact 42 (f := .glo "_law_minus") rfl), F.bindsN fun _ _ _ _ _ _ us hl => match us, hl with | [_, _], _ => rfl⟩
theorem D__law_change (X : K.In h) (G : h.Ns mainGlobals mg) (c : He.SaysD faL fnL K) : DefAt K mg "_law_change" s__law_change ["rule", "t"] := by
  obtain ⟨fd, F⟩ := c.def_ 31 (d := d__law_change) rfl
  exact ⟨_, fd, F, He.glo_ok X G (c.fact 43 (f := .glo "_law_change") rfl), F.bindsN fun _ _ _ _ _ _ us hl => match us, hl with | [_, _], _ => rfl⟩
theorem D__law_plus (X : K.In h) (G : h.Ns mainGlobals mg) (c : He.SaysD faL fnL K) : DefAt K mg "_law_plus" s__law_plus ["one", "other"] := by
  obtain ⟨fd, F⟩ := c.def_ 32 (d := d__law_plus) rfl
  exact ⟨_, fd, F, He.glo_ok X G (c.fact 44 (f := .glo "_law_plus") rfl), F.bindsN fun _ _ _ _ _ _ us hl => match us, hl with | [_, _], _ => rfl⟩
theorem D__law_after (X : K.In h) (G : h.Ns mainGlobals mg) (c : He.SaysD faL fnL K) : DefAt K mg "_law_after" s__law_after ["rule", "standing", "t"] := by
  obtain ⟨fd, F⟩ := c.def_ 33 (d := d__law_after) rfl
  exact ⟨_, fd, F, He.glo_ok X G (c.fact 45 (f := .glo "_law_after") rfl), F.bindsN fun _ _ _ _ _ _ us hl => match us, hl with | [_, _, _], _ => rfl⟩
theorem D__law_run_end (X : K.In h) (G : h.Ns mainGlobals mg) (c : He.SaysD faL fnL K) : DefAt K mg "_law_run_end" s__law_run_end ["rule", "standing", "run"] := by
  obtain ⟨fd, F⟩ := c.def_ 34 (d := d__law_run_end) rfl
  exact ⟨_, fd, F, He.glo_ok X G (c.fact 46 (f := .glo "_law_run_end") rfl), F.bindsN fun _ _ _ _ _ _ us hl => match us, hl with | [_, _, _], _ => rfl⟩
theorem D__law_inside (X : K.In h) (G : h.Ns mainGlobals mg) (c : He.SaysD faL fnL K) : DefAt K mg "_law_inside" s__law_inside ["standing", "kinds"] := by
  obtain ⟨fd, F⟩ := c.def_ 35 (d := d__law_inside) rfl
  exact ⟨_, fd, F, He.glo_ok X G (c.fact 47 (f := .glo "_law_inside") rfl), F.bindsN fun _ _ _ _ _ _ us hl => match us, hl with | [_, _], _ => rfl⟩
theorem D__law_ring_right (X : K.In h) (G : h.Ns mainGlobals mg) (c : He.SaysD faL fnL K) : DefAt K mg "_law_ring_right" s__law_ring_right ["d"] := by
  obtain ⟨fd, F⟩ := c.def_ 36 (d := d__law_ring_right) rfl
  exact ⟨_, fd, F, He.glo_ok X G (c.fact 48 (f := .glo "_law_ring_right") rfl), F.bindsN fun _ _ _ _ _ _ us hl => match us, hl with | [_], _ => rfl⟩
theorem D__law_deed (X : K.In h) (G : h.Ns mainGlobals mg) (c : He.SaysD faL fnL K) : DefAt K mg "_law_deed" s__law_deed ["d", "name", "many"] := by
  obtain ⟨fd, F⟩ := c.def_ 37 (d := d__law_deed) rfl
  exact ⟨_, fd, F, He.glo_ok X G (c.fact 49 (f := .glo "_law_deed") rfl), F.bindsN fun _ _ _ _ _ _ us hl => match us, hl with | [_, _, _], _ => rfl⟩
theorem D__law_rule (X : K.In h) (G : h.Ns mainGlobals mg) (c : He.SaysD faL fnL K) : DefAt K mg "_law_rule" s__law_rule ["d", "many", "deeds"] := by
  obtain ⟨fd, F⟩ := c.def_ 38 (d := d__law_rule) rfl
  exact ⟨_, fd, F, He.glo_ok X G (c.fact 50 (f := .glo "_law_rule") rfl), F.bindsN fun _ _ _ _ _ _ us hl => match us, hl with | [_, _, _], _ => rfl⟩
theorem D__law_heap_task (X : K.In h) (G : h.Ns mainGlobals mg) (c : He.SaysD faL fnL K) : DefAt K mg "_law_heap_task" s__law_heap_task ["d", "numbers"] := by
  obtain ⟨fd, F⟩ := c.def_ 39 (d := d__law_heap_task) rfl
  exact ⟨_, fd, F, He.glo_ok X G (c.fact 51 (f := .glo "_law_heap_task") rfl), F.bindsN fun _ _ _ _ _ _ us hl => match us, hl with | [_, _], _ => rfl⟩
theorem D__law_group_task (X : K.In h) (G : h.Ns mainGlobals mg) (c : He.SaysD faL fnL K) : DefAt K mg "_law_group_task" s__law_group_task ["d", "sizes"] := by
  obtain ⟨fd, F⟩ := c.def_ 40 (d := d__law_group_task) rfl
  exact ⟨_, fd, F, He.glo_ok X G (c.fact 52 (f := .glo "_law_group_task") rfl), F.bindsN fun _ _ _ _ _ _ us hl => match us, hl with | [_, _], _ => rfl⟩
theorem D__law_chain_task (X : K.In h) (G : h.Ns mainGlobals mg) (c : He.SaysD faL fnL K) : DefAt K mg "_law_chain_task" s__law_chain_task ["d", "many"] := by
  obtain ⟨fd, F⟩ := c.def_ 41 (d := d__law_chain_task) rfl
  exact ⟨_, fd, F, He.glo_ok X G (c.fact 53 (f := .glo "_law_chain_task") rfl), F.bindsN fun _ _ _ _ _ _ us hl => match us, hl with | [_, _], _ => rfl⟩
theorem D__law_random_task (X : K.In h) (G : h.Ns mainGlobals mg) (c : He.SaysD faL fnL K) : DefAt K mg "_law_random_task" s__law_random_task ["d"] := by
  obtain ⟨fd, F⟩ := c.def_ 42 (d := d__law_random_task) rfl
  exact ⟨_, fd, F, He.glo_ok X G (c.fact 54 (f := .glo "_law_random_task") rfl), F.bindsN fun _ _ _ _ _ _ us hl => match us, hl with | [_], _ => rfl⟩
theorem D__law_to_and_fro_task (X : K.In h) (G : h.Ns mainGlobals mg) (c : He.SaysD faL fnL K) : DefAt K mg "_law_to_and_fro_task" s__law_to_and_fro_task ["d"] := by
  obtain ⟨fd, F⟩ := c.def_ 43 (d := d__law_to_and_fro_task) rfl
  exact ⟨_, fd, F, He.glo_ok X G (c.fact 55 (f := .glo "_law_to_and_fro_task") rfl), F.bindsN fun _ _ _ _ _ _ us hl => match us, hl with | [_], _ => rfl⟩
theorem D__law_turned (X : K.In h) (G : h.Ns mainGlobals mg) (c : He.SaysD faL fnL K) : DefAt K mg "_law_turned" s__law_turned ["standing", "order"] := by
  obtain ⟨fd, F⟩ := c.def_ 44 (d := d__law_turned) rfl
  exact ⟨_, fd, F, He.glo_ok X G (c.fact 56 (f := .glo "_law_turned") rfl), F.bindsN fun _ _ _ _ _ _ us hl => match us, hl with | [_, _], _ => rfl⟩
theorem D__law_turned_rule (X : K.In h) (G : h.Ns mainGlobals mg) (c : He.SaysD faL fnL K) : DefAt K mg "_law_turned_rule" s__law_turned_rule ["rule", "order", "places"] := by
  obtain ⟨fd, F⟩ := c.def_ 45 (d := d__law_turned_rule) rfl
  exact ⟨_, fd, F, He.glo_ok X G (c.fact 57 (f := .glo "_law_turned_rule") rfl), F.bindsN fun _ _ _ _ _ _ us hl => match us, hl with | [_, _, _], _ => rfl⟩
theorem D__law_mixed_rule (X : K.In h) (G : h.Ns mainGlobals mg) (c : He.SaysD faL fnL K) : DefAt K mg "_law_mixed_rule" s__law_mixed_rule ["d", "rule"] := by
  obtain ⟨fd, F⟩ := c.def_ 46 (d := d__law_mixed_rule) rfl
  exact ⟨_, fd, F, He.glo_ok X G (c.fact 58 (f := .glo "_law_mixed_rule") rfl), F.bindsN fun _ _ _ _ _ _ us hl => match us, hl with | [_, _], _ => rfl⟩
theorem D__law_reversed_rule (X : K.In h) (G : h.Ns mainGlobals mg) (c : He.SaysD faL fnL K) : DefAt K mg "_law_reversed_rule" s__law_reversed_rule ["rule"] := by
  obtain ⟨fd, F⟩ := c.def_ 47 (d := d__law_reversed_rule) rfl
  exact ⟨_, fd, F, He.glo_ok X G (c.fact 59 (f := .glo "_law_reversed_rule") rfl), F.bindsN fun _ _ _ _ _ _ us hl => match us, hl with | [_], _ => rfl⟩
theorem D__law_reversed (X : K.In h) (G : h.Ns mainGlobals mg) (c : He.SaysD faL fnL K) : DefAt K mg "_law_reversed" s__law_reversed ["task"] := by
  obtain ⟨fd, F⟩ := c.def_ 48 (d := d__law_reversed) rfl
  exact ⟨_, fd, F, He.glo_ok X G (c.fact 60 (f := .glo "_law_reversed") rfl), F.bindsN fun _ _ _ _ _ _ us hl => match us, hl with | [_], _ => rfl⟩
theorem D__law_mixed_task (X : K.In h) (G : h.Ns mainGlobals mg) (c : He.SaysD faL fnL K) : DefAt K mg "_law_mixed_task" s__law_mixed_task ["d", "task"] := by
  obtain ⟨fd, F⟩ := c.def_ 49 (d := d__law_mixed_task) rfl
  exact ⟨_, fd, F, He.glo_ok X G (c.fact 61 (f := .glo "_law_mixed_task") rfl), F.bindsN fun _ _ _ _ _ _ us hl => match us, hl with | [_, _], _ => rfl⟩
theorem D__law_task (X : K.In h) (G : h.Ns mainGlobals mg) (c : He.SaysD faL fnL K) : DefAt K mg "_law_task" s__law_task ["d"] := by
  obtain ⟨fd, F⟩ := c.def_ 50 (d := d__law_task) rfl
  exact ⟨_, fd, F, He.glo_ok X G (c.fact 62 (f := .glo "_law_task") rfl), F.bindsN fun _ _ _ _ _ _ us hl => match us, hl with | [_], _ => rfl⟩
theorem D__law_world (X : K.In h) (G : h.Ns mainGlobals mg) (c : He.SaysD faL fnL K) : DefAt K mg "_law_world" s__law_world ["d"] := by
  obtain ⟨fd, F⟩ := c.def_ 51 (d := d__law_world) rfl
  exact ⟨_, fd, F, He.glo_ok X G (c.fact 63 (f := .glo "_law_world") rfl), F.bindsN fun _ _ _ _ _ _ us hl => match us, hl with | [_], _ => rfl⟩
theorem D__law_top (X : K.In h) (G : h.Ns mainGlobals mg) (c : He.SaysD faL fnL K) : DefAt K mg "_law_top" s__law_top ["task", "most", "room"] := by
  obtain ⟨fd, F⟩ := c.def_ 52 (d := d__law_top) rfl
  exact ⟨_, fd, F, He.glo_ok X G (c.fact 64 (f := .glo "_law_top") rfl), F.bindsN fun _ _ _ _ _ _ us hl => match us, hl with | [_, _, _], _ => rfl⟩
theorem D__law_reach (X : K.In h) (G : h.Ns mainGlobals mg) (c : He.SaysD faL fnL K) : DefAt K mg "_law_reach" s__law_reach ["rule", "standing", "most"] := by
  obtain ⟨fd, F⟩ := c.def_ 53 (d := d__law_reach) rfl
  exact ⟨_, fd, F, He.glo_ok X G (c.fact 65 (f := .glo "_law_reach") rfl), F.bindsN fun _ _ _ _ _ _ us hl => match us, hl with | [_, _, _], _ => rfl⟩
theorem D__law_most_right (X : K.In h) (G : h.Ns mainGlobals mg) (c : He.SaysD faL fnL K) : DefAt K mg "_law_most_right" s__law_most_right ["rule", "start", "kinds", "n", "due"] := by
  obtain ⟨fd, F⟩ := c.def_ 54 (d := d__law_most_right) rfl
  exact ⟨_, fd, F, He.glo_ok X G (c.fact 66 (f := .glo "_law_most_right") rfl), F.bindsN fun _ _ _ _ _ _ us hl => match us, hl with | [_, _, _, _, _], _ => rfl⟩
theorem D__law_links (X : K.In h) (G : h.Ns mainGlobals mg) (c : He.SaysD faL fnL K) : DefAt K mg "_law_links" s__law_links ["rule", "listed"] := by
  obtain ⟨fd, F⟩ := c.def_ 55 (d := d__law_links) rfl
  exact ⟨_, fd, F, He.glo_ok X G (c.fact 67 (f := .glo "_law_links") rfl), F.bindsN fun _ _ _ _ _ _ us hl => match us, hl with | [_, _], _ => rfl⟩
theorem D__law_steps_to (X : K.In h) (G : h.Ns mainGlobals mg) (c : He.SaysD faL fnL K) : DefAt K mg "_law_steps_to" s__law_steps_to ["links", "goals"] := by
  obtain ⟨fd, F⟩ := c.def_ 56 (d := d__law_steps_to) rfl
  exact ⟨_, fd, F, He.glo_ok X G (c.fact 68 (f := .glo "_law_steps_to") rfl), F.bindsN fun _ _ _ _ _ _ us hl => match us, hl with | [_, _], _ => rfl⟩
theorem D__law_best (X : K.In h) (G : h.Ns mainGlobals mg) (c : He.SaysD faL fnL K) : DefAt K mg "_law_best" s__law_best ["rule", "listed", "kinds"] := by
  obtain ⟨fd, F⟩ := c.def_ 57 (d := d__law_best) rfl
  exact ⟨_, fd, F, He.glo_ok X G (c.fact 69 (f := .glo "_law_best") rfl), F.bindsN fun _ _ _ _ _ _ us hl => match us, hl with | [_, _, _], _ => rfl⟩
theorem D__law_all_right (X : K.In h) (G : h.Ns mainGlobals mg) (c : He.SaysD faL fnL K) : DefAt K mg "_law_all_right" s__law_all_right ["rule", "start", "kinds", "n", "listed"] := by
  obtain ⟨fd, F⟩ := c.def_ 58 (d := d__law_all_right) rfl
  exact ⟨_, fd, F, He.glo_ok X G (c.fact 70 (f := .glo "_law_all_right") rfl), F.bindsN fun _ _ _ _ _ _ us hl => match us, hl with | [_, _, _, _, _], _ => rfl⟩
theorem D__law_far_right (X : K.In h) (G : h.Ns mainGlobals mg) (c : He.SaysD faL fnL K) : DefAt K mg "_law_far_right" s__law_far_right ["rule", "start", "kinds", "far", "dues"] := by
  obtain ⟨fd, F⟩ := c.def_ 59 (d := d__law_far_right) rfl
  exact ⟨_, fd, F, He.glo_ok X G (c.fact 71 (f := .glo "_law_far_right") rfl), F.bindsN fun _ _ _ _ _ _ us hl => match us, hl with | [_, _, _, _, _], _ => rfl⟩
theorem D_law (X : K.In h) (G : h.Ns mainGlobals mg) (c : He.SaysD faL fnL K) : DefAt K mg "law" s_law ["script"] := by
  obtain ⟨fd, F⟩ := c.def_ 60 (d := d_law) rfl
  exact ⟨_, fd, F, He.glo_ok X G (c.fact 72 (f := .glo "law") rfl), F.bindsN fun _ _ _ _ _ _ us hl => match us, hl with | [_], _ => rfl⟩
theorem D__law_is_too_many (X : K.In h) (G : h.Ns mainGlobals mg) (c : He.SaysD faL fnL K) : DefAt K mg "_law_is_too_many" s__law_is_too_many ["e"] := by
  obtain ⟨fd, F⟩ := c.def_ 61 (d := d__law_is_too_many) rfl
  exact ⟨_, fd, F, He.glo_ok X G (c.fact 73 (f := .glo "_law_is_too_many") rfl), F.bindsN fun _ _ _ _ _ _ us hl => match us, hl with | [_], _ => rfl⟩

theorem fi_ok {v a : Value} {n : Str} (q : fiB K v n a = true) : PySem.W.findIn K v n = some (some a) := He.eqO_ok q
theorem fin_ok {v : Value} {n : Str} (q : finB K v n = true) : PySem.W.findIn K v n = some none := He.eqO_ok q
theorem ob_ok {x : Option Bool} {b : Bool} (q : obB x b = true) : x = some b := of_decide_eq_true q
abbrev csK (K : PySem.W.Frag) : Cs := ⟨He.ga K "TooMany", He.ga K "MusterError", He.ga K "Search"⟩
theorem txt_ok (X : K.In h) (G : h.Ns mainGlobals mg) (c : He.SaysD faL fnL K) : Txt K mg (csK K) where
  toBi := bi_ok X G c
  cl_Search := He.cls_ok (c.fact 88 (f := .cls "Search") rfl)
  no := fun f hf => by
    simp only [List.mem_cons, List.not_mem_nil, or_false] at hf
    rcases hf with rfl | rfl | rfl | rfl | rfl
    · exact He.noat_ok (c.fact 89 (f := .noat "Search" "rule") rfl)
    · exact He.noat_ok (c.fact 90 (f := .noat "Search" "listed") rfl)
    · exact He.noat_ok (c.fact 91 (f := .noat "Search" "places") rfl)
    · exact He.noat_ok (c.fact 92 (f := .noat "Search" "links") rfl)
    · exact He.noat_ok (c.fact 93 (f := .noat "Search" "came") rfl)
  exm := He.exm_ok (c.fact 98 (f := .exm "TooMany" "MusterError" true) rfl)
  g_MOST_STANDINGS := by
    obtain ⟨t, e⟩ := He.int_ok X G (c.fact 87 (f := .int "MOST_STANDINGS" 3000) rfl)
    exact ⟨_, e, t, rfl⟩
theorem isn_ok (X : K.In h) (G : h.Ns mainGlobals mg) (c : He.SaysD faL fnL K) : ∀ x ∈ isNames, mg x = some (.ref (He.ga K x)) := fun x hx => by
  unfold isNames at hx
  simp only [List.mem_cons, List.not_mem_nil, or_false] at hx
  rcases hx with rfl | rfl | rfl | rfl | rfl | rfl | rfl | rfl | rfl
  · exact He.glo_ok X G (c.fact 78 (f := .glo "BadText") rfl)
  · exact He.glo_ok X G (c.fact 79 (f := .glo "BadName") rfl)
  · exact He.glo_ok X G (c.fact 80 (f := .glo "Twice") rfl)
  · exact He.glo_ok X G (c.fact 81 (f := .glo "Unknown") rfl)
  · exact He.glo_ok X G (c.fact 82 (f := .glo "BadSize") rfl)
  · exact He.glo_ok X G (c.fact 83 (f := .glo "NotEnough") rfl)
  · exact He.glo_ok X G (c.fact 84 (f := .glo "TooLarge") rfl)
  · exact He.glo_ok X G (c.fact 85 (f := .glo "NoMuster") rfl)
  · exact He.glo_ok X G (c.fact 86 (f := .glo "Unlike") rfl)
theorem ex_ok {P : Program} (X : K.In h) (G : h.Ns mainGlobals mg) (c : SaysX P.main.file K) (htop : (P.main.scope.names.lookup ("super" : Str)).isSome = false) : TmTxt P K mg (csK K) ∧ IsTxt K mg (csK K) := by
  have cd := c.d
  have e := c.e
  unfold exB at e
  obtain ⟨x1, e⟩ := He.ba e
  obtain ⟨x2, e⟩ := He.ba e
  obtain ⟨x3, e⟩ := He.ba e
  obtain ⟨x4, e⟩ := He.ba e
  obtain ⟨x5, e⟩ := He.ba e
  obtain ⟨x6, e⟩ := He.ba e
  obtain ⟨x7, e⟩ := He.ba e
  obtain ⟨x8, e⟩ := He.ba e
  obtain ⟨x9, e⟩ := He.ba e
  obtain ⟨x10, e⟩ := He.ba e
  obtain ⟨x11, e⟩ := He.ba e
  obtain ⟨x12, e⟩ := He.ba e
  obtain ⟨x13, e⟩ := He.ba e
  obtain ⟨x14, e⟩ := He.ba e
  obtain ⟨x15, e⟩ := He.ba e
  obtain ⟨x16, e⟩ := He.ba e
  obtain ⟨x17, e⟩ := He.ba e
  obtain ⟨x18, e⟩ := He.ba e
  obtain ⟨x19, e⟩ := He.ba e
  obtain ⟨x20, e⟩ := He.ba e
  obtain ⟨x21, x22⟩ := He.ba e
  obtain ⟨cc, cda, hfn, hcode, hcell⟩ := init_ok x7 c.t
  have gT : mg "TooMany" = some (.ref (He.ga K "TooMany")) := He.glo_ok X G (cd.fact 75 (f := .glo "TooMany") rfl)
  have noP : PySem.W.findIn K (.ref (He.ga K "TooMany")) "part" = some none := He.noat_ok (cd.fact 100 (f := .noat "TooMany" "part") rfl)
  refine ⟨⟨fIa K, cc, cda, ?_⟩, ?_⟩
  · exact { gC := gT, cls := clsB_ok x1, sa := fi_ok x2, noN := noP, iC := fi_ok x3, tC := of_decide_eq_true x4, kC := He.keep_ok (cd.fact 99 (f := .keep "TooMany") rfl), exC := ob_ok x5, tyC := of_decide_eq_true x6, fn := hfn, code := hcode, cell := hcell,
             sup := He.free_ok X G (cd.fact 15 (f := .free "super") rfl), tp := He.eqO_ok x8, si := He.eqO_ok x9, ve := ob_ok x10, se := ob_ok x11, topn := htop }
  · exact { g_MusterError := He.glo_ok X G (cd.fact 76 (f := .glo "MusterError") rfl), gl := isn_ok X G cd, gT := gT, gL := He.glo_ok X G (cd.fact 77 (f := .glo "LimitError") rfl),
             ex := ⟨x12, fi_ok x13, fin_ok x14, ob_ok x5, x15, fi_ok x16, of_decide_eq_true x17, ob_ok x18, ob_ok x19⟩, noP := noP, kit := ob_ok x20, kTm := ob_ok x21, kLe := ob_ok x22, D := D__law_is_too_many X G cd, bi := He.free_ok X G (cd.fact 10 (f := .free "isinstance") rfl) }
theorem all_ok {P : Program} {w : World} {base : Heap} (X : K.In h) (G : h.Ns mainGlobals mg) (T : Txt K mg (csK K)) (TM : TmTxt P K mg (csK K)) (IS : IsTxt K mg (csK K)) (c : He.SaysD faL fnL K) {f0 : Addr} {fd : FuncData} (F : FnP K "law" s_law f0 fd) : FnOk P w K mg base CX0 12 f0 fd ["script"] (sp_law K) := by
  have c__law_begin := ok__law_begin (P := P) (w := w) (base := base) (D__law_begin X G c) T.toBi
  have c__law_draw := ok__law_draw (P := P) (w := w) (base := base) (D__law_draw X G c) T.toBi
  have c__law_rare := ok__law_rare (P := P) (w := w) (base := base) (D__law_rare X G c) T.toBi c__law_draw
  have c__law_pick := ok__law_pick (P := P) (w := w) (base := base) (D__law_pick X G c) T.toBi c__law_draw
  have c__law_pool := ok__law_pool (P := P) (w := w) (base := base) (D__law_pool X G c) T.toBi
  have c__law_pop := ok__law_pop (P := P) (w := w) (base := base) (D__law_pop X G c) T.toBi c__law_draw
  have c__law_shuffled := ok__law_shuffled (P := P) (w := w) (base := base) (D__law_shuffled X G c) T.toBi c__law_draw
  have c__law_listed := ok__law_listed (P := P) (w := w) (base := base) (D__law_listed X G c) T.toBi
  have c__law_heap := ok__law_heap (P := P) (w := w) (base := base) (D__law_heap X G c) T.toBi c__law_draw
  have c__law_some_kinds := ok__law_some_kinds (P := P) (w := w) (base := base) (D__law_some_kinds X G c) T.toBi c__law_shuffled c__law_draw
  have c__law_size_of_crowd := ok__law_size_of_crowd (P := P) (w := w) (base := base) (D__law_size_of_crowd X G c) T.toBi
  have c_times_all := ok_times_all (P := P) (w := w) (base := base) (D_times_all X G c) T.toBi
  have c_at_most := ok_at_most (P := P) (w := w) (base := base) (D_at_most X G c) T.toBi
  have c_can_do := ok_can_do (P := P) (w := w) (base := base) (D_can_do X G c) T.toBi c_at_most
  have c_moved_by := ok_moved_by (P := P) (w := w) (base := base) (D_moved_by X G c) T.toBi
  have c_Search_links_of := ok_Search_links_of (P := P) (w := w) (base := base) (D_Search_links_of c) T TM c_can_do c_moved_by
  have c_Search___init__ := ok_Search___init__ (P := P) (w := w) (base := base) (D_Search___init__ X G c) T TM c_Search_links_of
  have c_count_in := ok_count_in (P := P) (w := w) (base := base) (D_count_in X G c) T.toBi
  have c_most_at := ok_most_at (P := P) (w := w) (base := base) (D_most_at X G c) T c_times_all c_Search___init__ c_count_in
  have c_least_left := ok_least_left (P := P) (w := w) (base := base) (D_least_left X G c) T c_most_at
  have c_Search_steps_to := ok_Search_steps_to (P := P) (w := w) (base := base) (D_Search_steps_to c) T
  have c_Search_first_run := ok_Search_first_run (P := P) (w := w) (base := base) (D_Search_first_run c) T
  have c_best_run := ok_best_run (P := P) (w := w) (base := base) (D_best_run X G c) T c_times_all c_Search___init__ c_count_in c_Search_steps_to c_Search_first_run
  have c__law_refused := ok__law_refused (P := P) (w := w) (base := base) (D__law_refused X G c) T IS c_most_at c_least_left c_best_run
  have c__law_is_int := ok__law_is_int (P := P) (w := w) (base := base) (D__law_is_int X G c) T.toBi
  have c__law_is_ints := ok__law_is_ints (P := P) (w := w) (base := base) (D__law_is_ints X G c) T.toBi c__law_is_int
  have c__law_ring_steps := ok__law_ring_steps (P := P) (w := w) (base := base) (D__law_ring_steps X G c) T.toBi
  have c__law_times := ok__law_times (P := P) (w := w) (base := base) (D__law_times X G c) T.toBi
  have c__law_under := ok__law_under (P := P) (w := w) (base := base) (D__law_under X G c) T.toBi
  have c__law_can := ok__law_can (P := P) (w := w) (base := base) (D__law_can X G c) T.toBi c__law_under
  have c__law_minus := ok__law_minus (P := P) (w := w) (base := base) (D__law_minus X G c) T.toBi
  have c__law_change := ok__law_change (P := P) (w := w) (base := base) (D__law_change X G c) T.toBi c__law_minus
  have c__law_plus := ok__law_plus (P := P) (w := w) (base := base) (D__law_plus X G c) T.toBi
  have c__law_after := ok__law_after (P := P) (w := w) (base := base) (D__law_after X G c) T.toBi c__law_change c__law_plus
  have c__law_run_end := ok__law_run_end (P := P) (w := w) (base := base) (D__law_run_end X G c) T.toBi c__law_is_int c__law_can c__law_after
  have c__law_inside := ok__law_inside (P := P) (w := w) (base := base) (D__law_inside X G c) T.toBi
  have c__law_ring_right := ok__law_ring_right (P := P) (w := w) (base := base) (D__law_ring_right X G c) T c__law_pick c__law_pool c__law_pop c__law_shuffled c__law_listed c__law_heap c__law_some_kinds c__law_draw c__law_size_of_crowd c__law_refused c_most_at c__law_is_int c_least_left c_best_run c__law_is_ints c__law_ring_steps c__law_times c__law_run_end c__law_inside
  have c__law_deed := ok__law_deed (P := P) (w := w) (base := base) (D__law_deed X G c) T.toBi c__law_draw c__law_heap
  have c__law_rule := ok__law_rule (P := P) (w := w) (base := base) (D__law_rule X G c) T.toBi c__law_pool c__law_pop c__law_draw c__law_deed
  have c__law_heap_task := ok__law_heap_task (P := P) (w := w) (base := base) (D__law_heap_task X G c) T.toBi c__law_pool c__law_pop c__law_listed
  have c__law_group_task := ok__law_group_task (P := P) (w := w) (base := base) (D__law_group_task X G c) T.toBi c__law_pool c__law_pop c__law_draw
  have c__law_chain_task := ok__law_chain_task (P := P) (w := w) (base := base) (D__law_chain_task X G c) T.toBi c__law_pool c__law_pop c__law_draw c__law_deed c__law_listed
  have c__law_random_task := ok__law_random_task (P := P) (w := w) (base := base) (D__law_random_task X G c) T.toBi c__law_draw c__law_rule c__law_heap
  have c__law_to_and_fro_task := ok__law_to_and_fro_task (P := P) (w := w) (base := base) (D__law_to_and_fro_task X G c) T.toBi c__law_random_task c__law_pick
  have c__law_turned := ok__law_turned (P := P) (w := w) (base := base) (D__law_turned X G c) T.toBi
  have c__law_turned_rule := ok__law_turned_rule (P := P) (w := w) (base := base) (D__law_turned_rule X G c) T.toBi c__law_turned
  have c__law_mixed_rule := ok__law_mixed_rule (P := P) (w := w) (base := base) (D__law_mixed_rule X G c) T.toBi c__law_shuffled c__law_turned_rule
  have c__law_reversed_rule := ok__law_reversed_rule (P := P) (w := w) (base := base) (D__law_reversed_rule X G c) T.toBi
  have c__law_reversed := ok__law_reversed (P := P) (w := w) (base := base) (D__law_reversed X G c) T.toBi c__law_reversed_rule
  have c__law_mixed_task := ok__law_mixed_task (P := P) (w := w) (base := base) (D__law_mixed_task X G c) T.toBi c__law_mixed_rule c__law_turned c__law_draw c__law_reversed
  have c__law_task := ok__law_task (P := P) (w := w) (base := base) (D__law_task X G c) T.toBi c__law_draw c__law_heap_task c__law_group_task c__law_chain_task c__law_to_and_fro_task c__law_pick c__law_random_task c__law_mixed_task
  have c__law_world := ok__law_world (P := P) (w := w) (base := base) (D__law_world X G c) T.toBi c__law_draw c__law_rule c__law_heap c__law_task
  have c__law_top := ok__law_top (P := P) (w := w) (base := base) (D__law_top X G c) T.toBi c__law_size_of_crowd
  have c__law_reach := ok__law_reach (P := P) (w := w) (base := base) (D__law_reach X G c) T.toBi c__law_can c__law_after
  have c__law_most_right := ok__law_most_right (P := P) (w := w) (base := base) (D__law_most_right X G c) T c_most_at c__law_is_int
  have c__law_links := ok__law_links (P := P) (w := w) (base := base) (D__law_links X G c) T.toBi c__law_can c__law_after
  have c__law_steps_to := ok__law_steps_to (P := P) (w := w) (base := base) (D__law_steps_to X G c) T.toBi
  have c__law_best := ok__law_best (P := P) (w := w) (base := base) (D__law_best X G c) T.toBi c__law_inside c__law_links c__law_steps_to
  have c__law_all_right := ok__law_all_right (P := P) (w := w) (base := base) (D__law_all_right X G c) T c__law_inside c_least_left c__law_is_int c_best_run c__law_is_ints c__law_best c__law_most_right
  have c__law_far_right := ok__law_far_right (P := P) (w := w) (base := base) (D__law_far_right X G c) T c_most_at c__law_is_int c_best_run c__law_is_ints c__law_times c__law_run_end c__law_inside
  exact fn_law (P := P) (w := w) (base := base) F T c__law_begin c__law_rare c__law_ring_right c__law_world c__law_some_kinds c__law_draw c__law_top c__law_times c__law_reach c__law_inside c__law_most_right c__law_all_right c__law_far_right
end
end M
open PySem PySem.W PySem.Calls PyProof.Rows
theorem PySem.Challenge.cw_mustersums_k75_whole_leftovers_holds : PySem.Challenge.rw_mustersums_k75_whole_leftovers.Holds := by
  w_on; o_law
  refine HandSHeadRun.head_any (r := OpenLaw.row PySem.Challenge.rw_mustersums_k75_whole_leftovers) (q := view (OpenLaw.row PySem.Challenge.rw_mustersums_k75_whole_leftovers).prog [77]) (H := M.hk) (ob := M.ob) (M := 8000) (loose := M.loose) (d := HandSHeadRun.topDef (OpenLaw.row PySem.Challenge.rw_mustersums_k75_whole_leftovers).prog 77) (kwd := []) M.ob_eq
    (by kernel_rfl) (fun s => by kernel_rfl) M.run (by kernel_rfl) (by kernel_rfl) (by kernel_rfl) (by rfl) (by first | assumption | decide +kernel) (by decide +kernel) ⟨rfl, rfl, rfl, rfl, rfl, by decide +kernel⟩ ?hw ?hc
  case hw => w_witness2
  case hc =>
    refine L2.walk_ofE (l := PySem.Challenge.rw_mustersums_k75_whole_leftovers) (n := 63) (k := 12) (x := "script") (CX := L2.CX0) rfl (by decide) (by kernel_rfl) ⟨rfl, by decide, by decide⟩ ?F (fun _ _ _ _ z => z)
    intro w mg fa h Y G hmg0
    obtain ⟨K, KX, c⟩ := Y
    have hmg : mg ("law" : PySem.Str) = some (.ref fa) := by
      have e : (HandSHeadRun.topDef (OpenLaw.row PySem.Challenge.rw_mustersums_k75_whole_leftovers).prog 77).name = ("law" : PySem.Str) := by kernel_rfl
      rw [← e]
      exact hmg0
    obtain ⟨TM, IS⟩ := M.ex_ok (P := (PySem.Challenge.rw_mustersums_k75_whole_leftovers).prog) KX G c (by kernel_rfl)
    have T := M.txt_ok KX G c.d
    obtain ⟨fd, F⟩ := c.d.def_ 60 (d := M.d_law) rfl
    have hga := He.glo_ok KX G (c.d.fact 72 (f := .glo "law") rfl)
    have b := L2.FunD.bindsA (ps := ["script"]) F fun _ _ _ _ _ _ us hl => match us, hl with | [_], _ => rfl
    have e0 := hmg.symm.trans hga
    cases e0
    exact ⟨K, fd, M.sp_law K, KX, fun s v => b s [v] rfl, fun H a ns hl _ hS => ⟨a, ns, rfl, hS, hl, fun _ => rfl⟩, fun base _ _ => M.all_ok (P := (PySem.Challenge.rw_mustersums_k75_whole_leftovers).prog) (w := w) (base := base) KX G T TM IS c.d F⟩
