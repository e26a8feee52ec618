import PyProof.Rows.All
import Wide.All
import OpenK.AllK
import Wide.FinOn
import HandS.Base
import HandS.Call
import HandS.Ends
import HandS.More
import HandS.Words
import HandS.WordsExc
import HandS.Defaults
import HandS.Exc
import HandS.ExcInit
import HandS.HeadHook1
import HandS.HeadHook2
import KE.KStateDown
import Lean
import HandS.Head0
import HandS.Head1
import HandS.Head2
import HandS.HeadEnd
import HandS.List
import HandS.Comp
import HandS.Dict
import HandS.Iter
import HandS.Codes
import HandS.IsInst
import KE.GoesMore
import KE.GoesZip
import KE.GoesEnumKw
import PyProof.Rows.CallKwBuiltin
import HandS.DictComp
import HandS.TupAny
import HandS.Deep
import HandS.Steps
import PyProof.Rows.TupDisplay
import HandS.Conv
import KE.SortCalls
import KE.SortKeyed
import HandS.Style
import KE.KRevSl
import HandS.ExcOwn
import HandS.Wide
import HandS.WideBits
import HandS.NoneIn
import KE.KDictPairs
import PySem.Challenge.RW_tokenfold_k96_whole_places_with_a_lid
/-! part Tx -/
set_option Elab.async false
set_option linter.all false
set_option maxRecDepth 100000
set_option maxHeartbeats 0
namespace TK
open PySem PySem.Spec PyProof.Rows L2
/-! the text by places -/
def top (i : Nat) : Stmt := PySem.Challenge.pw_tokenfold_k96_whole_places_with_a_lid.main.body.getD i (.Pass ⟨0, 0, 0, 0⟩)
abbrev s_TooGreat_init : Stmt := inClass (top 6) 0
abbrev s_is_count_nets : Stmt := top 15
abbrev s_is_name : Stmt := top 17
abbrev s_are_parts : Stmt := top 18
abbrev s_is_place : Stmt := top 19
abbrev s_is_firing : Stmt := top 20
abbrev s_part_wrong : Stmt := top 21
abbrev s_net_wrong : Stmt := top 22
abbrev s_must_net : Stmt := top 23
abbrev s_Look_init : Stmt := inClass (top 25) 0
abbrev s_Look_lacking : Stmt := inClass (top 25) 1
abbrev s_Look_behind : Stmt := inClass (top 25) 2
abbrev s_Look_can : Stmt := inClass (top 25) 3
abbrev s_is_count_firing : Stmt := top 26
abbrev s_look_at : Stmt := top 28
abbrev s_heap_fault : Stmt := top 29
abbrev s_must_heap : Stmt := top 30
abbrev s_Search_init : Stmt := inClass (top 33) 0
abbrev s_Search_go_on : Stmt := inClass (top 33) 1
abbrev s_Search_is_done : Stmt := inClass (top 33) 2
abbrev s_searched : Stmt := top 34
abbrev s_reach : Stmt := top 35
abbrev s_way : Stmt := top 36
abbrev s_dead : Stmt := top 37
abbrev s_is_over : Stmt := top 39
abbrev s_wide_can : Stmt := top 40
abbrev s_wide_behind : Stmt := top 41
abbrev s_widened : Stmt := top 42
abbrev s_greatest : Stmt := top 43
abbrev s_least : Stmt := top 44
abbrev s_Spot_init : Stmt := inClass (top 46) 0
abbrev s_Spot_pump : Stmt := inClass (top 46) 2
abbrev s_Growth_init : Stmt := inClass (top 47) 0
abbrev s_Growth_grow : Stmt := inClass (top 47) 1
abbrev s_Growth_put : Stmt := inClass (top 47) 2
abbrev s_wides_of : Stmt := top 48
abbrev s_place_number : Stmt := top 49
abbrev s_stair_of : Stmt := top 50
abbrev s_bound : Stmt := top 51
abbrev s_before : Stmt := top 53
abbrev s_over_some : Stmt := top 54
abbrev s_Levels_init : Stmt := inClass (top 55) 0
abbrev s_Levels_is_come_to : Stmt := inClass (top 55) 1
abbrev s_Levels_go_on : Stmt := inClass (top 55) 2
abbrev s_Levels_first_row : Stmt := inClass (top 55) 3
abbrev s_covered_by : Stmt := top 56
abbrev s_covered : Stmt := top 57
abbrev s_numbers_of : Stmt := top 59
abbrev s_sides : Stmt := top 60
abbrev s_lost : Stmt := top 61
abbrev s_is_siphon : Stmt := top 62
abbrev s_is_trap : Stmt := top 63
abbrev s_is_whole : Stmt := top 65
abbrev s_effects : Stmt := top 66
abbrev s_turned_about : Stmt := top 67
abbrev s_thing_wrong : Stmt := top 68
abbrev s_place_vectors : Stmt := top 69
abbrev s_sum_wrong : Stmt := top 70
abbrev s_L_at : Stmt := top 72
abbrev s_L_mixed : Stmt := top 73
abbrev s_L_purse : Stmt := top 74
abbrev s_L_draw : Stmt := top 75
abbrev s_L_parts : Stmt := top 76
abbrev s_L_even : Stmt := top 77
abbrev s_L_net : Stmt := top 78
abbrev s_L_start : Stmt := top 79
abbrev s_L_change : Stmt := top 80
abbrev s_L_can : Stmt := top 81
abbrev s_L_heaps : Stmt := top 82
abbrev s_L_goal : Stmt := top 83
abbrev s_L_lidded : Stmt := top 84
abbrev s_L_beneath : Stmt := top 85
abbrev s_L_told : Stmt := top 86
abbrev s_L_free_right : Stmt := top 87
abbrev s_L_right : Stmt := top 88
abbrev s_law : Stmt := top 89
def d_TooGreat_init : He.DefD := ⟨("TooGreat", some "__init__"), "__init__", "TooGreat.__init__", defArgs s_TooGreat_init, defBody s_TooGreat_init, defScope s_TooGreat_init, [(.int 0)], []⟩
def d_is_count_nets : He.DefD := ⟨("is_count_nets", none), "is_count", "is_count", defArgs s_is_count_nets, defBody s_is_count_nets, defScope s_is_count_nets, [], []⟩
def d_is_name : He.DefD := ⟨("is_name", none), "is_name", "is_name", defArgs s_is_name, defBody s_is_name, defScope s_is_name, [], []⟩
def d_are_parts : He.DefD := ⟨("are_parts", none), "are_parts", "are_parts", defArgs s_are_parts, defBody s_are_parts, defScope s_are_parts, [], []⟩
def d_is_place : He.DefD := ⟨("is_place", none), "is_place", "is_place", defArgs s_is_place, defBody s_is_place, defScope s_is_place, [], []⟩
def d_is_firing : He.DefD := ⟨("is_firing", none), "is_firing", "is_firing", defArgs s_is_firing, defBody s_is_firing, defScope s_is_firing, [], []⟩
def d_part_wrong : He.DefD := ⟨("part_wrong", none), "part_wrong", "part_wrong", defArgs s_part_wrong, defBody s_part_wrong, defScope s_part_wrong, [], []⟩
def d_net_wrong : He.DefD := ⟨("net_wrong", none), "net_wrong", "net_wrong", defArgs s_net_wrong, defBody s_net_wrong, defScope s_net_wrong, [], []⟩
def d_must_net : He.DefD := ⟨("must_net", none), "must_net", "must_net", defArgs s_must_net, defBody s_must_net, defScope s_must_net, [], []⟩
def d_Look_init : He.DefD := ⟨("Look", some "__init__"), "__init__", "Look.__init__", defArgs s_Look_init, defBody s_Look_init, defScope s_Look_init, [], []⟩
def d_Look_lacking : He.DefD := ⟨("Look", some "lacking"), "lacking", "Look.lacking", defArgs s_Look_lacking, defBody s_Look_lacking, defScope s_Look_lacking, [], []⟩
def d_Look_behind : He.DefD := ⟨("Look", some "behind"), "behind", "Look.behind", defArgs s_Look_behind, defBody s_Look_behind, defScope s_Look_behind, [], []⟩
def d_Look_can : He.DefD := ⟨("Look", some "can"), "can", "Look.can", defArgs s_Look_can, defBody s_Look_can, defScope s_Look_can, [], []⟩
def d_is_count_firing : He.DefD := ⟨("is_count_firing", none), "is_count", "is_count", defArgs s_is_count_firing, defBody s_is_count_firing, defScope s_is_count_firing, [], []⟩
def d_look_at : He.DefD := ⟨("look_at", none), "look_at", "look_at", defArgs s_look_at, defBody s_look_at, defScope s_look_at, [], []⟩
def d_heap_fault : He.DefD := ⟨("heap_fault", none), "heap_fault", "heap_fault", defArgs s_heap_fault, defBody s_heap_fault, defScope s_heap_fault, [], []⟩
def d_must_heap : He.DefD := ⟨("must_heap", none), "must_heap", "must_heap", defArgs s_must_heap, defBody s_must_heap, defScope s_must_heap, [], []⟩
def d_Search_init : He.DefD := ⟨("Search", some "__init__"), "__init__", "Search.__init__", defArgs s_Search_init, defBody s_Search_init, defScope s_Search_init, [], []⟩
def d_Search_go_on : He.DefD := ⟨("Search", some "go_on"), "go_on", "Search.go_on", defArgs s_Search_go_on, defBody s_Search_go_on, defScope s_Search_go_on, [.non], []⟩
def d_Search_is_done : He.DefD := ⟨("Search", some "is_done"), "is_done", "Search.is_done", defArgs s_Search_is_done, defBody s_Search_is_done, defScope s_Search_is_done, [], []⟩
def d_searched : He.DefD := ⟨("searched", none), "searched", "searched", defArgs s_searched, defBody s_searched, defScope s_searched, [], []⟩
def d_reach : He.DefD := ⟨("reach", none), "reach", "reach", defArgs s_reach, defBody s_reach, defScope s_reach, [], [("most", (.int 2000))]⟩
def d_way : He.DefD := ⟨("way", none), "way", "way", defArgs s_way, defBody s_way, defScope s_way, [], [("most", (.int 2000))]⟩
def d_dead : He.DefD := ⟨("dead", none), "dead", "dead", defArgs s_dead, defBody s_dead, defScope s_dead, [], [("most", (.int 2000))]⟩
def d_is_over : He.DefD := ⟨("is_over", none), "is_over", "is_over", defArgs s_is_over, defBody s_is_over, defScope s_is_over, [], []⟩
def d_wide_can : He.DefD := ⟨("wide_can", none), "wide_can", "wide_can", defArgs s_wide_can, defBody s_wide_can, defScope s_wide_can, [], []⟩
def d_wide_behind : He.DefD := ⟨("wide_behind", none), "wide_behind", "wide_behind", defArgs s_wide_behind, defBody s_wide_behind, defScope s_wide_behind, [], []⟩
def d_widened : He.DefD := ⟨("widened", none), "widened", "widened", defArgs s_widened, defBody s_widened, defScope s_widened, [], []⟩
def d_greatest : He.DefD := ⟨("greatest", none), "greatest", "greatest", defArgs s_greatest, defBody s_greatest, defScope s_greatest, [], []⟩
def d_least : He.DefD := ⟨("least", none), "least", "least", defArgs s_least, defBody s_least, defScope s_least, [], []⟩
def d_Spot_init : He.DefD := ⟨("Spot", some "__init__"), "__init__", "Spot.__init__", defArgs s_Spot_init, defBody s_Spot_init, defScope s_Spot_init, [], []⟩
def d_Spot_pump : He.DefD := ⟨("Spot", some "pump"), "pump", "Spot.pump", defArgs s_Spot_pump, defBody s_Spot_pump, defScope s_Spot_pump, [], []⟩
def d_Growth_init : He.DefD := ⟨("Growth", some "__init__"), "__init__", "Growth.__init__", defArgs s_Growth_init, defBody s_Growth_init, defScope s_Growth_init, [], []⟩
def d_Growth_grow : He.DefD := ⟨("Growth", some "grow"), "grow", "Growth.grow", defArgs s_Growth_grow, defBody s_Growth_grow, defScope s_Growth_grow, [], []⟩
def d_Growth_put : He.DefD := ⟨("Growth", some "put"), "put", "Growth.put", defArgs s_Growth_put, defBody s_Growth_put, defScope s_Growth_put, [], []⟩
def d_wides_of : He.DefD := ⟨("wides_of", none), "wides_of", "wides_of", defArgs s_wides_of, defBody s_wides_of, defScope s_wides_of, [], []⟩
def d_place_number : He.DefD := ⟨("place_number", none), "place_number", "place_number", defArgs s_place_number, defBody s_place_number, defScope s_place_number, [], []⟩
def d_stair_of : He.DefD := ⟨("stair_of", none), "stair_of", "stair_of", defArgs s_stair_of, defBody s_stair_of, defScope s_stair_of, [], []⟩
def d_bound : He.DefD := ⟨("bound", none), "bound", "bound", defArgs s_bound, defBody s_bound, defScope s_bound, [], [("most", (.int 2000))]⟩
def d_before : He.DefD := ⟨("before", none), "before", "before", defArgs s_before, defBody s_before, defScope s_before, [], []⟩
def d_over_some : He.DefD := ⟨("over_some", none), "over_some", "over_some", defArgs s_over_some, defBody s_over_some, defScope s_over_some, [], []⟩
def d_Levels_init : He.DefD := ⟨("Levels", some "__init__"), "__init__", "Levels.__init__", defArgs s_Levels_init, defBody s_Levels_init, defScope s_Levels_init, [], []⟩
def d_Levels_is_come_to : He.DefD := ⟨("Levels", some "is_come_to"), "is_come_to", "Levels.is_come_to", defArgs s_Levels_is_come_to, defBody s_Levels_is_come_to, defScope s_Levels_is_come_to, [], []⟩
def d_Levels_go_on : He.DefD := ⟨("Levels", some "go_on"), "go_on", "Levels.go_on", defArgs s_Levels_go_on, defBody s_Levels_go_on, defScope s_Levels_go_on, [], []⟩
def d_Levels_first_row : He.DefD := ⟨("Levels", some "first_row"), "first_row", "Levels.first_row", defArgs s_Levels_first_row, defBody s_Levels_first_row, defScope s_Levels_first_row, [], []⟩
def d_covered_by : He.DefD := ⟨("covered_by", none), "covered_by", "covered_by", defArgs s_covered_by, defBody s_covered_by, defScope s_covered_by, [], []⟩
def d_covered : He.DefD := ⟨("covered", none), "covered", "covered", defArgs s_covered, defBody s_covered, defScope s_covered, [], [("most", (.int 2000))]⟩
def d_numbers_of : He.DefD := ⟨("numbers_of", none), "numbers_of", "numbers_of", defArgs s_numbers_of, defBody s_numbers_of, defScope s_numbers_of, [], []⟩
def d_sides : He.DefD := ⟨("sides", none), "sides", "sides", defArgs s_sides, defBody s_sides, defScope s_sides, [], []⟩
def d_lost : He.DefD := ⟨("lost", none), "lost", "lost", defArgs s_lost, defBody s_lost, defScope s_lost, [], []⟩
def d_is_siphon : He.DefD := ⟨("is_siphon", none), "is_siphon", "is_siphon", defArgs s_is_siphon, defBody s_is_siphon, defScope s_is_siphon, [], []⟩
def d_is_trap : He.DefD := ⟨("is_trap", none), "is_trap", "is_trap", defArgs s_is_trap, defBody s_is_trap, defScope s_is_trap, [], []⟩
def d_is_whole : He.DefD := ⟨("is_whole", none), "is_whole", "is_whole", defArgs s_is_whole, defBody s_is_whole, defScope s_is_whole, [], []⟩
def d_effects : He.DefD := ⟨("effects", none), "effects", "effects", defArgs s_effects, defBody s_effects, defScope s_effects, [], []⟩
def d_turned_about : He.DefD := ⟨("turned_about", none), "turned_about", "turned_about", defArgs s_turned_about, defBody s_turned_about, defScope s_turned_about, [], []⟩
def d_thing_wrong : He.DefD := ⟨("thing_wrong", none), "thing_wrong", "thing_wrong", defArgs s_thing_wrong, defBody s_thing_wrong, defScope s_thing_wrong, [], []⟩
def d_place_vectors : He.DefD := ⟨("place_vectors", none), "place_vectors", "place_vectors", defArgs s_place_vectors, defBody s_place_vectors, defScope s_place_vectors, [], []⟩
def d_sum_wrong : He.DefD := ⟨("sum_wrong", none), "sum_wrong", "sum_wrong", defArgs s_sum_wrong, defBody s_sum_wrong, defScope s_sum_wrong, [], []⟩
def d_L_at : He.DefD := ⟨("_law_at", none), "_law_at", "_law_at", defArgs s_L_at, defBody s_L_at, defScope s_L_at, [], []⟩
def d_L_mixed : He.DefD := ⟨("_law_mixed", none), "_law_mixed", "_law_mixed", defArgs s_L_mixed, defBody s_L_mixed, defScope s_L_mixed, [], []⟩
def d_L_purse : He.DefD := ⟨("_law_purse", none), "_law_purse", "_law_purse", defArgs s_L_purse, defBody s_L_purse, defScope s_L_purse, [], []⟩
def d_L_draw : He.DefD := ⟨("_law_draw", none), "_law_draw", "_law_draw", defArgs s_L_draw, defBody s_L_draw, defScope s_L_draw, [], []⟩
def d_L_parts : He.DefD := ⟨("_law_parts", none), "_law_parts", "_law_parts", defArgs s_L_parts, defBody s_L_parts, defScope s_L_parts, [], []⟩
def d_L_even : He.DefD := ⟨("_law_even", none), "_law_even", "_law_even", defArgs s_L_even, defBody s_L_even, defScope s_L_even, [], []⟩
def d_L_net : He.DefD := ⟨("_law_net", none), "_law_net", "_law_net", defArgs s_L_net, defBody s_L_net, defScope s_L_net, [], []⟩
def d_L_start : He.DefD := ⟨("_law_start", none), "_law_start", "_law_start", defArgs s_L_start, defBody s_L_start, defScope s_L_start, [], []⟩
def d_L_change : He.DefD := ⟨("_law_change", none), "_law_change", "_law_change", defArgs s_L_change, defBody s_L_change, defScope s_L_change, [], []⟩
def d_L_can : He.DefD := ⟨("_law_can", none), "_law_can", "_law_can", defArgs s_L_can, defBody s_L_can, defScope s_L_can, [], []⟩
def d_L_heaps : He.DefD := ⟨("_law_heaps", none), "_law_heaps", "_law_heaps", defArgs s_L_heaps, defBody s_L_heaps, defScope s_L_heaps, [], []⟩
def d_L_goal : He.DefD := ⟨("_law_goal", none), "_law_goal", "_law_goal", defArgs s_L_goal, defBody s_L_goal, defScope s_L_goal, [], []⟩
def d_L_lidded : He.DefD := ⟨("_law_lidded", none), "_law_lidded", "_law_lidded", defArgs s_L_lidded, defBody s_L_lidded, defScope s_L_lidded, [], []⟩
def d_L_beneath : He.DefD := ⟨("_law_beneath", none), "_law_beneath", "_law_beneath", defArgs s_L_beneath, defBody s_L_beneath, defScope s_L_beneath, [], []⟩
def d_L_told : He.DefD := ⟨("_law_told", none), "_law_told", "_law_told", defArgs s_L_told, defBody s_L_told, defScope s_L_told, [], []⟩
def d_L_free_right : He.DefD := ⟨("_law_free_right", none), "_law_free_right", "_law_free_right", defArgs s_L_free_right, defBody s_L_free_right, defScope s_L_free_right, [], []⟩
def d_L_right : He.DefD := ⟨("_law_right", none), "_law_right", "_law_right", defArgs s_L_right, defBody s_L_right, defScope s_L_right, [], []⟩
def d_law : He.DefD := ⟨("law", none), "law", "law", defArgs s_law, defBody s_law, defScope s_law, [], []⟩
def fn0 : List He.DefD := [d_TooGreat_init, d_is_count_nets, d_is_name, d_are_parts, d_is_place, d_is_firing, d_part_wrong, d_net_wrong, d_must_net, d_Look_init, d_Look_lacking, d_Look_behind, d_Look_can, d_is_count_firing, d_look_at, d_heap_fault, d_must_heap, d_Search_init, d_Search_go_on, d_Search_is_done, d_searched, d_reach, d_way, d_dead, d_is_over, d_wide_can, d_wide_behind, d_widened, d_greatest, d_least]
def fn1 : List He.DefD := [d_Spot_init, d_Spot_pump, d_Growth_init, d_Growth_grow, d_Growth_put, d_wides_of, d_place_number, d_stair_of, d_bound, d_before, d_over_some, d_Levels_init, d_Levels_is_come_to, d_Levels_go_on, d_Levels_first_row, d_covered_by, d_covered, d_numbers_of, d_sides, d_lost, d_is_siphon, d_is_trap, d_is_whole, d_effects, d_turned_about, d_thing_wrong, d_place_vectors, d_sum_wrong, d_L_at, d_L_mixed]
def fn2 : List He.DefD := [d_L_purse, d_L_draw, d_L_parts, d_L_even, d_L_net, d_L_start, d_L_change, d_L_can, d_L_heaps, d_L_goal, d_L_lidded, d_L_beneath, d_L_told, d_L_free_right, d_L_right, d_law]
def fn : List He.DefD := fn0 ++ fn1 ++ fn2
def fa0 : List He.Fa := [.glo "is_count_nets", .glo "is_name", .glo "are_parts", .glo "is_place", .glo "is_firing", .glo "part_wrong", .glo "net_wrong", .glo "must_net", .glo "is_count_firing", .glo "look_at", .glo "heap_fault", .glo "must_heap", .glo "searched", .glo "reach", .glo "way", .glo "dead", .glo "is_over", .glo "wide_can", .glo "wide_behind", .glo "widened", .glo "greatest", .glo "least", .glo "wides_of", .glo "place_number", .glo "stair_of", .glo "bound", .glo "before", .glo "over_some", .glo "covered_by", .glo "covered"]
def fa1 : List He.Fa := [.glo "numbers_of", .glo "sides", .glo "lost", .glo "is_siphon", .glo "is_trap", .glo "is_whole", .glo "effects", .glo "turned_about", .glo "thing_wrong", .glo "place_vectors", .glo "sum_wrong", .glo "_law_at", .glo "_law_mixed", .glo "_law_purse", .glo "_law_draw", .glo "_law_parts", .glo "_law_even", .glo "_law_net", .glo "_law_start", .glo "_law_change", .glo "_law_can", .glo "_law_heaps", .glo "_law_goal", .glo "_law_lidded", .glo "_law_beneath", .glo "_law_told", .glo "_law_free_right", .glo "_law_right", .glo "law", .glo "TooGreat"]
def fa2 : List He.Fa := [.noat "TooGreat" "most", .glo "Look", .cls "Look", .mkr "Look", .meth "Look" "lacking", .meth "Look" "behind", .meth "Look" "can", .noat "Look" "begin", .noat "Look" "gives", .noat "Look" "labels", .noat "Look" "names", .noat "Look" "places", .noat "Look" "takes", .glo "Search", .cls "Search", .mkr "Search", .meth "Search" "go_on", .meth "Search" "is_done", .noat "Search" "heaps", .noat "Search" "look", .noat "Search" "most", .noat "Search" "numbers", .noat "Search" "rows", .noat "Search" "steps", .glo "Spot", .cls "Spot", .mkr "Spot", .meth "Spot" "pump", .noat "Spot" "came_by", .noat "Spot" "depth"]
def fa3 : List He.Fa := [.noat "Spot" "parent", .noat "Spot" "pumps", .noat "Spot" "tail", .noat "Spot" "wide", .glo "Growth", .cls "Growth", .mkr "Growth", .meth "Growth" "grow", .meth "Growth" "put", .noat "Growth" "look", .noat "Growth" "spots", .noat "Growth" "there", .glo "Levels", .cls "Levels", .mkr "Levels", .meth "Levels" "is_come_to", .meth "Levels" "go_on", .meth "Levels" "first_row", .noat "Levels" "fresh", .noat "Levels" "levels", .noat "Levels" "look", .noat "Levels" "most", .free "len", .free "isinstance", .free "int", .free "bool", .free "str", .free "tuple", .free "list", .free "dict"]
def fa4 : List He.Fa := [.free "zip", .free "enumerate", .free "range", .free "all", .free "any", .free "max", .free "sum", .free "sorted", .int "MOST_SIGNS" 8, .int "MOST_COUNT" 999999999, .int "MOST_PLACES" 40, .int "MOST_FIRINGS" 60, .str "SMALL" "abcdefghijklmnopqrstuvwxyz", .str "FIGURES" "0123456789"]
def fa : List He.Fa := fa0 ++ fa1 ++ fa2 ++ fa3 ++ fa4

/-! what the head tells: facts by names, defs, and one Bool more -/
/-- an error's class: its object, as the rules of errors ask it -/
def oexIn (C : Addr) (cd : ClassData) (l : List (Option Value)) : Bool := match cd.mro, l with
  | .ref C' :: bm, [_, _, _, _, some (.builtin n), _] => decide (C' = C) && (decide (n = "ValueError.__new__") && (!cd.hasDel && (cd.hasDict && PySem.HandSPX.refsVE bm)))
  | _, _ => false
def oexAt (C : Addr) : Option Obj → Bool
  | some ⟨.type c, _, .cls cd, sl⟩ => decide (c = "type") && oexIn C cd sl.toList
  | _ => false
def oexB (K : PySem.W.Frag) (C : Addr) : Bool := oexAt C (K.lookup C) && (He.eqO (PySem.W.findIn K (.ref C) "__setattr__") (some (some (.builtin "object.__setattr__"))) && (decide (PySem.W.subIn K (.ref C) (.type "BaseException") = some true) && (decide (PySem.W.typeIn K (.ref C) = some (.type "type")) && PySem.W.keepIn K (.ref C))))
theorem oexIn_ok {C : Addr} {cd : ClassData} {l : List (Option Value)} (h : oexIn C cd l = true) : ∃ bm k0 k1 k2 k3 k5, cd.mro = .ref C :: bm ∧ l = [k0, k1, k2, k3, some (.builtin "ValueError.__new__"), k5] ∧ cd.hasDel = false ∧ cd.hasDict = true ∧ PySem.HandSPX.refsVE bm = true := by
  unfold oexIn at h
  split at h
  · rename_i C2 bm k0 k1 k2 k3 n k5 e1
    obtain ⟨g3, g4⟩ := He.ba h
    obtain ⟨g5, g6⟩ := He.ba g4
    obtain ⟨g7, g8⟩ := He.ba g6
    obtain ⟨g9, g10⟩ := He.ba g8
    have e3 : C2 = C := of_decide_eq_true g3
    have e4 : n = "ValueError.__new__" := of_decide_eq_true g5
    subst e3
    subst e4
    exact ⟨bm, k0, k1, k2, k3, k5, e1, rfl, by simpa using g7, g9, g10⟩
  · cases h
theorem oexAt_ok {C : Addr} {o : Option Obj} (h : oexAt C o = true) : ∃ nm q N bs bm sn sub ab col dd k0 k1 k2 k3 k5, o = some (excClassObj nm q C N bs bm true sn sub ab col dd k0 k1 k2 k3 k5 "ValueError.__new__") ∧ PySem.HandSPX.refsVE bm = true := by
  unfold oexAt at h
  split at h
  · rename_i c od cd sl
    obtain ⟨g1, g2⟩ := He.ba h
    obtain rfl : c = "type" := of_decide_eq_true g1
    obtain ⟨bm, k0, k1, k2, k3, k5, e1, e2, e3, e4, e5⟩ := oexIn_ok g2
    obtain ⟨nm, bs, mro, ns, qn, hd, sn, sub, ab, col, del⟩ := cd
    obtain ⟨l⟩ := sl
    simp only at e1 e2 e3 e4
    subst e1 e2 e3 e4
    exact ⟨_, _, _, _, bm, _, _, _, _, _, _, _, _, _, _, rfl, e5⟩
  · cases h
theorem oexB_ok {K : PySem.W.Frag} {C : Addr} (h : oexB K C = true) : OexC K C := by
  obtain ⟨h1, h2⟩ := He.ba h
  obtain ⟨h3, h4⟩ := He.ba h2
  obtain ⟨h5, h6⟩ := He.ba h4
  obtain ⟨h7, h8⟩ := He.ba h6
  exact ⟨oexAt_ok h1, He.eqO_ok h3, of_decide_eq_true h5, of_decide_eq_true h7, h8⟩
def exB (K : PySem.W.Frag) : Bool :=
  He.tupB K "WORDS" [.str "place", .str "fire", .str "as"] && (oexB K (He.ga K "TooGreat") && (He.eqO (PySem.W.findIn K (.ref (He.ga K "TooGreat")) "__init__") (some (some (.ref (He.fAd K ("TooGreat", some "__init__"))))) &&
    (decide (PySem.W.typeIn K (.ref (He.fAd K ("TooGreat", some "__init__"))) = some (.type "function")) && (decide (PySem.W.exmOne K (.ref (He.ga K "TooGreat")) (.ref (He.ga K "TooGreat")) = some true) && He.eqO (PySem.W.nsIn K mainGlobals "WORDS") (some (some (.ref (He.ga K "WORDS"))))))))
abbrev AlB : Type := He.AlD × Bool
def obsB (K : PySem.W.Frag) : AlB := (He.obsD fa fn K, exB K)
def SaysB (K : PySem.W.Frag) : Prop := obsB K = (He.valD fn, true)
/-! the facts, by names -/
structure Env (K : PySem.W.Frag) (mg : Str → Option Value) : Prop where
  says : SaysB K
  at_ : ∃ h : Heap, K.In h ∧ h.Ns mainGlobals mg
namespace Env
variable {K : PySem.W.Frag} {mg : Str → Option Value}
theorem d (E : Env K mg) : He.SaysD fa fn K := congrArg (fun z : AlB => z.1) E.says
theorem x (E : Env K mg) : exB K = true := congrArg (fun z : AlB => z.2) E.says
theorem g_is_count_nets (E : Env K mg) : mg "is_count_nets" = some (.ref (He.ga K "is_count_nets")) := let ⟨_, X, G⟩ := E.at_; He.glo_ok X G (E.d.fact 0 (f := .glo "is_count_nets"))
theorem g_is_name (E : Env K mg) : mg "is_name" = some (.ref (He.ga K "is_name")) := let ⟨_, X, G⟩ := E.at_; He.glo_ok X G (E.d.fact 1 (f := .glo "is_name"))
theorem g_are_parts (E : Env K mg) : mg "are_parts" = some (.ref (He.ga K "are_parts")) := let ⟨_, X, G⟩ := E.at_; He.glo_ok X G (E.d.fact 2 (f := .glo "are_parts"))
theorem g_is_place (E : Env K mg) : mg "is_place" = some (.ref (He.ga K "is_place")) := let ⟨_, X, G⟩ := E.at_; He.glo_ok X G (E.d.fact 3 (f := .glo "is_place"))
theorem g_is_firing (E : Env K mg) : mg "is_firing" = some (.ref (He.ga K "is_firing")) := let ⟨_, X, G⟩ := E.at_; He.glo_ok X G (E.d.fact 4 (f := .glo "is_firing"))
theorem g_part_wrong (E : Env K mg) : mg "part_wrong" = some (.ref (He.ga K "part_wrong")) := let ⟨_, X, G⟩ := E.at_; He.glo_ok X G (E.d.fact 5 (f := .glo "part_wrong"))
theorem g_net_wrong (E : Env K mg) : mg "net_wrong" = some (.ref (He.ga K "net_wrong")) := let ⟨_, X, G⟩ := E.at_; He.glo_ok X G (E.d.fact 6 (f := .glo "net_wrong"))
theorem g_must_net (E : Env K mg) : mg "must_net" = some (.ref (He.ga K "must_net")) := let ⟨_, X, G⟩ := E.at_; He.glo_ok X G (E.d.fact 7 (f := .glo "must_net"))
theorem g_is_count_firing (E : Env K mg) : mg "is_count_firing" = some (.ref (He.ga K "is_count_firing")) := let ⟨_, X, G⟩ := E.at_; He.glo_ok X G (E.d.fact 8 (f := .glo "is_count_firing"))
theorem g_look_at (E : Env K mg) : mg "look_at" = some (.ref (He.ga K "look_at")) := let ⟨_, X, G⟩ := E.at_; He.glo_ok X G (E.d.fact 9 (f := .glo "look_at"))
theorem g_heap_fault (E : Env K mg) : mg "heap_fault" = some (.ref (He.ga K "heap_fault")) := let ⟨_, X, G⟩ := E.at_; He.glo_ok X G (E.d.fact 10 (f := .glo "heap_fault"))
theorem g_must_heap (E : Env K mg) : mg "must_heap" = some (.ref (He.ga K "must_heap")) := let ⟨_, X, G⟩ := E.at_; He.glo_ok X G (E.d.fact 11 (f := .glo "must_heap"))
theorem g_searched (E : Env K mg) : mg "searched" = some (.ref (He.ga K "searched")) := let ⟨_, X, G⟩ := E.at_; He.glo_ok X G (E.d.fact 12 (f := .glo "searched"))
theorem g_reach (E : Env K mg) : mg "reach" = some (.ref (He.ga K "reach")) := let ⟨_, X, G⟩ := E.at_; He.glo_ok X G (E.d.fact 13 (f := .glo "reach"))
theorem g_way (E : Env K mg) : mg "way" = some (.ref (He.ga K "way")) := let ⟨_, X, G⟩ := E.at_; He.glo_ok X G (E.d.fact 14 (f := .glo "way"))
theorem g_dead (E : Env K mg) : mg "dead" = some (.ref (He.ga K "dead")) := let ⟨_, X, G⟩ := E.at_; He.glo_ok X G (E.d.fact 15 (f := .glo "dead"))
theorem g_is_over (E : Env K mg) : mg "is_over" = some (.ref (He.ga K "is_over")) := let ⟨_, X, G⟩ := E.at_; He.glo_ok X G (E.d.fact 16 (f := .glo "is_over"))
theorem g_wide_can (E : Env K mg) : mg "wide_can" = some (.ref (He.ga K "wide_can")) := let ⟨_, X, G⟩ := E.at_; He.glo_ok X G (E.d.fact 17 (f := .glo "wide_can"))
theorem g_wide_behind (E : Env K mg) : mg "wide_behind" = some (.ref (He.ga K "wide_behind")) := let ⟨_, X, G⟩ := E.at_; He.glo_ok X G (E.d.fact 18 (f := .glo "wide_behind"))
theorem g_widened (E : Env K mg) : mg "widened" = some (.ref (He.ga K "widened")) := let ⟨_, X, G⟩ := E.at_; He.glo_ok X G (E.d.fact 19 (f := .glo "widened"))
theorem g_greatest (E : Env K mg) : mg "greatest" = some (.ref (He.ga K "greatest")) := let ⟨_, X, G⟩ := E.at_; He.glo_ok X G (E.d.fact 20 (f := .glo "greatest"))
theorem g_least (E : Env K mg) : mg "least" = some (.ref (He.ga K "least")) := let ⟨_, X, G⟩ := E.at_; He.glo_ok X G (E.d.fact 21 (f := .glo "least"))
theorem g_wides_of (E : Env K mg) : mg "wides_of" = some (.ref (He.ga K "wides_of")) := let ⟨_, X, G⟩ := E.at_; He.glo_ok X G (E.d.fact 22 (f := .glo "wides_of"))
theorem g_place_number (E : Env K mg) : mg "place_number" = some (.ref (He.ga K "place_number")) := let ⟨_, X, G⟩ := E.at_; He.glo_ok X G (E.d.fact 23 (f := .glo "place_number"))
theorem g_stair_of (E : Env K mg) : mg "stair_of" = some (.ref (He.ga K "stair_of")) := let ⟨_, X, G⟩ := E.at_; He.glo_ok X G (E.d.fact 24 (f := .glo "stair_of"))
theorem g_bound (E : Env K mg) : mg "bound" = some (.ref (He.ga K "bound")) := let ⟨_, X, G⟩ := E.at_; He.glo_ok X G (E.d.fact 25 (f := .glo "bound"))
theorem g_before (E : Env K mg) : mg "before" = some (.ref (He.ga K "before")) := let ⟨_, X, G⟩ := E.at_; He.glo_ok X G (E.d.fact 26 (f := .glo "before"))
theorem g_over_some (E : Env K mg) : mg "over_some" = some (.ref (He.ga K "over_some")) := let ⟨_, X, G⟩ := E.at_; He.glo_ok X G (E.d.fact 27 (f := .glo "over_some"))
theorem g_covered_by (E : Env K mg) : mg "covered_by" = some (.ref (He.ga K "covered_by")) := let ⟨_, X, G⟩ := E.at_; He.glo_ok X G (E.d.fact 28 (f := .glo "covered_by"))
theorem g_covered (E : Env K mg) : mg "covered" = some (.ref (He.ga K "covered")) := let ⟨_, X, G⟩ := E.at_; He.glo_ok X G (E.d.fact 29 (f := .glo "covered"))
theorem g_numbers_of (E : Env K mg) : mg "numbers_of" = some (.ref (He.ga K "numbers_of")) := let ⟨_, X, G⟩ := E.at_; He.glo_ok X G (E.d.fact 30 (f := .glo "numbers_of"))
theorem g_sides (E : Env K mg) : mg "sides" = some (.ref (He.ga K "sides")) := let ⟨_, X, G⟩ := E.at_; He.glo_ok X G (E.d.fact 31 (f := .glo "sides"))
theorem g_lost (E : Env K mg) : mg "lost" = some (.ref (He.ga K "lost")) := let ⟨_, X, G⟩ := E.at_; He.glo_ok X G (E.d.fact 32 (f := .glo "lost"))
theorem g_is_siphon (E : Env K mg) : mg "is_siphon" = some (.ref (He.ga K "is_siphon")) := let ⟨_, X, G⟩ := E.at_; He.glo_ok X G (E.d.fact 33 (f := .glo "is_siphon"))
theorem g_is_trap (E : Env K mg) : mg "is_trap" = some (.ref (He.ga K "is_trap")) := let ⟨_, X, G⟩ := E.at_; He.glo_ok X G (E.d.fact 34 (f := .glo "is_trap"))
theorem g_is_whole (E : Env K mg) : mg "is_whole" = some (.ref (He.ga K "is_whole")) := let ⟨_, X, G⟩ := E.at_; He.glo_ok X G (E.d.fact 35 (f := .glo "is_whole"))
theorem g_effects (E : Env K mg) : mg "effects" = some (.ref (He.ga K "effects")) := let ⟨_, X, G⟩ := E.at_; He.glo_ok X G (E.d.fact 36 (f := .glo "effects"))
theorem g_turned_about (E : Env K mg) : mg "turned_about" = some (.ref (He.ga K "turned_about")) := let ⟨_, X, G⟩ := E.at_; He.glo_ok X G (E.d.fact 37 (f := .glo "turned_about"))
theorem g_thing_wrong (E : Env K mg) : mg "thing_wrong" = some (.ref (He.ga K "thing_wrong")) := let ⟨_, X, G⟩ := E.at_; He.glo_ok X G (E.d.fact 38 (f := .glo "thing_wrong"))
theorem g_place_vectors (E : Env K mg) : mg "place_vectors" = some (.ref (He.ga K "place_vectors")) := let ⟨_, X, G⟩ := E.at_; He.glo_ok X G (E.d.fact 39 (f := .glo "place_vectors"))
theorem g_sum_wrong (E : Env K mg) : mg "sum_wrong" = some (.ref (He.ga K "sum_wrong")) := let ⟨_, X, G⟩ := E.at_; He.glo_ok X G (E.d.fact 40 (f := .glo "sum_wrong"))
theorem g_L_at (E : Env K mg) : mg "_law_at" = some (.ref (He.ga K "_law_at")) := let ⟨_, X, G⟩ := E.at_; He.glo_ok X G (E.d.fact 41 (f := .glo "_law_at"))
theorem g_L_mixed (E : Env K mg) : mg "_law_mixed" = some (.ref (He.ga K "_law_mixed")) := let ⟨_, X, G⟩ := E.at_; He.glo_ok X G (E.d.fact 42 (f := .glo "_law_mixed"))
theorem g_L_purse (E : Env K mg) : mg "_law_purse" = some (.ref (He.ga K "_law_purse")) := let ⟨_, X, G⟩ := E.at_; He.glo_ok X G (E.d.fact 43 (f := .glo "_law_purse"))
theorem g_L_draw (E : Env K mg) : mg "_law_draw" = some (.ref (He.ga K "_law_draw")) := let ⟨_, X, G⟩ := E.at_; He.glo_ok X G (E.d.fact 44 (f := .glo "_law_draw"))
theorem g_L_parts (E : Env K mg) : mg "_law_parts" = some (.ref (He.ga K "_law_parts")) := let ⟨_, X, G⟩ := E.at_; He.glo_ok X G (E.d.fact 45 (f := .glo "_law_parts"))
theorem g_L_even (E : Env K mg) : mg "_law_even" = some (.ref (He.ga K "_law_even")) := let ⟨_, X, G⟩ := E.at_; He.glo_ok X G (E.d.fact 46 (f := .glo "_law_even"))
theorem g_L_net (E : Env K mg) : mg "_law_net" = some (.ref (He.ga K "_law_net")) := let ⟨_, X, G⟩ := E.at_; He.glo_ok X G (E.d.fact 47 (f := .glo "_law_net"))
theorem g_L_start (E : Env K mg) : mg "_law_start" = some (.ref (He.ga K "_law_start")) := let ⟨_, X, G⟩ := E.at_; He.glo_ok X G (E.d.fact 48 (f := .glo "_law_start"))
theorem g_L_change (E : Env K mg) : mg "_law_change" = some (.ref (He.ga K "_law_change")) := let ⟨_, X, G⟩ := E.at_; He.glo_ok X G (E.d.fact 49 (f := .glo "_law_change"))
theorem g_L_can (E : Env K mg) : mg "_law_can" = some (.ref (He.ga K "_law_can")) := let ⟨_, X, G⟩ := E.at_; He.glo_ok X G (E.d.fact 50 (f := .glo "_law_can"))
theorem g_L_heaps (E : Env K mg) : mg "_law_heaps" = some (.ref (He.ga K "_law_heaps")) := let ⟨_, X, G⟩ := E.at_; He.glo_ok X G (E.d.fact 51 (f := .glo "_law_heaps"))
theorem g_L_goal (E : Env K mg) : mg "_law_goal" = some (.ref (He.ga K "_law_goal")) := let ⟨_, X, G⟩ := E.at_; He.glo_ok X G (E.d.fact 52 (f := .glo "_law_goal"))
theorem g_L_lidded (E : Env K mg) : mg "_law_lidded" = some (.ref (He.ga K "_law_lidded")) := let ⟨_, X, G⟩ := E.at_; He.glo_ok X G (E.d.fact 53 (f := .glo "_law_lidded"))
theorem g_L_beneath (E : Env K mg) : mg "_law_beneath" = some (.ref (He.ga K "_law_beneath")) := let ⟨_, X, G⟩ := E.at_; He.glo_ok X G (E.d.fact 54 (f := .glo "_law_beneath"))
theorem g_L_told (E : Env K mg) : mg "_law_told" = some (.ref (He.ga K "_law_told")) := let ⟨_, X, G⟩ := E.at_; He.glo_ok X G (E.d.fact 55 (f := .glo "_law_told"))
theorem g_L_free_right (E : Env K mg) : mg "_law_free_right" = some (.ref (He.ga K "_law_free_right")) := let ⟨_, X, G⟩ := E.at_; He.glo_ok X G (E.d.fact 56 (f := .glo "_law_free_right"))
theorem g_L_right (E : Env K mg) : mg "_law_right" = some (.ref (He.ga K "_law_right")) := let ⟨_, X, G⟩ := E.at_; He.glo_ok X G (E.d.fact 57 (f := .glo "_law_right"))
theorem g_law (E : Env K mg) : mg "law" = some (.ref (He.ga K "law")) := let ⟨_, X, G⟩ := E.at_; He.glo_ok X G (E.d.fact 58 (f := .glo "law"))
theorem g_TooGreat (E : Env K mg) : mg "TooGreat" = some (.ref (He.ga K "TooGreat")) := let ⟨_, X, G⟩ := E.at_; He.glo_ok X G (E.d.fact 59 (f := .glo "TooGreat"))
theorem n_TooGreat_most (E : Env K mg) : NoAttr K (He.ga K "TooGreat") "most" := He.noat_ok (E.d.fact 60 (f := .noat "TooGreat" "most"))
theorem g_Look (E : Env K mg) : mg "Look" = some (.ref (He.ga K "Look")) := let ⟨_, X, G⟩ := E.at_; He.glo_ok X G (E.d.fact 61 (f := .glo "Look"))
theorem c_Look (E : Env K mg) : Cls K (He.ga K "Look") := He.cls_ok (E.d.fact 62 (f := .cls "Look"))
theorem k_Look (E : Env K mg) : Mk K (He.ga K "Look") (He.fAd K ("Look", some "__init__")) := He.mkr_ok (E.d.fact 63 (f := .mkr "Look"))
theorem m_Look_lacking (E : Env K mg) : Meth K (He.ga K "Look") "lacking" (He.fAd K ("Look", some "lacking")) := He.meth_ok (E.d.fact 64 (f := .meth "Look" "lacking"))
theorem m_Look_behind (E : Env K mg) : Meth K (He.ga K "Look") "behind" (He.fAd K ("Look", some "behind")) := He.meth_ok (E.d.fact 65 (f := .meth "Look" "behind"))
theorem m_Look_can (E : Env K mg) : Meth K (He.ga K "Look") "can" (He.fAd K ("Look", some "can")) := He.meth_ok (E.d.fact 66 (f := .meth "Look" "can"))
theorem n_Look_begin (E : Env K mg) : NoAttr K (He.ga K "Look") "begin" := He.noat_ok (E.d.fact 67 (f := .noat "Look" "begin"))
theorem n_Look_gives (E : Env K mg) : NoAttr K (He.ga K "Look") "gives" := He.noat_ok (E.d.fact 68 (f := .noat "Look" "gives"))
theorem n_Look_labels (E : Env K mg) : NoAttr K (He.ga K "Look") "labels" := He.noat_ok (E.d.fact 69 (f := .noat "Look" "labels"))
theorem n_Look_names (E : Env K mg) : NoAttr K (He.ga K "Look") "names" := He.noat_ok (E.d.fact 70 (f := .noat "Look" "names"))
theorem n_Look_places (E : Env K mg) : NoAttr K (He.ga K "Look") "places" := He.noat_ok (E.d.fact 71 (f := .noat "Look" "places"))
theorem n_Look_takes (E : Env K mg) : NoAttr K (He.ga K "Look") "takes" := He.noat_ok (E.d.fact 72 (f := .noat "Look" "takes"))
theorem g_Search (E : Env K mg) : mg "Search" = some (.ref (He.ga K "Search")) := let ⟨_, X, G⟩ := E.at_; He.glo_ok X G (E.d.fact 73 (f := .glo "Search"))
theorem c_Search (E : Env K mg) : Cls K (He.ga K "Search") := He.cls_ok (E.d.fact 74 (f := .cls "Search"))
theorem k_Search (E : Env K mg) : Mk K (He.ga K "Search") (He.fAd K ("Search", some "__init__")) := He.mkr_ok (E.d.fact 75 (f := .mkr "Search"))
theorem m_Search_go_on (E : Env K mg) : Meth K (He.ga K "Search") "go_on" (He.fAd K ("Search", some "go_on")) := He.meth_ok (E.d.fact 76 (f := .meth "Search" "go_on"))
theorem m_Search_is_done (E : Env K mg) : Meth K (He.ga K "Search") "is_done" (He.fAd K ("Search", some "is_done")) := He.meth_ok (E.d.fact 77 (f := .meth "Search" "is_done"))
theorem n_Search_heaps (E : Env K mg) : NoAttr K (He.ga K "Search") "heaps" := He.noat_ok (E.d.fact 78 (f := .noat "Search" "heaps"))
theorem n_Search_look (E : Env K mg) : NoAttr K (He.ga K "Search") "look" := He.noat_ok (E.d.fact 79 (f := .noat "Search" "look"))
theorem n_Search_most (E : Env K mg) : NoAttr K (He.ga K "Search") "most" := He.noat_ok (E.d.fact 80 (f := .noat "Search" "most"))
theorem n_Search_numbers (E : Env K mg) : NoAttr K (He.ga K "Search") "numbers" := He.noat_ok (E.d.fact 81 (f := .noat "Search" "numbers"))
theorem n_Search_rows (E : Env K mg) : NoAttr K (He.ga K "Search") "rows" := He.noat_ok (E.d.fact 82 (f := .noat "Search" "rows"))
theorem n_Search_steps (E : Env K mg) : NoAttr K (He.ga K "Search") "steps" := He.noat_ok (E.d.fact 83 (f := .noat "Search" "steps"))
theorem g_Spot (E : Env K mg) : mg "Spot" = some (.ref (He.ga K "Spot")) := let ⟨_, X, G⟩ := E.at_; He.glo_ok X G (E.d.fact 84 (f := .glo "Spot"))
theorem c_Spot (E : Env K mg) : Cls K (He.ga K "Spot") := He.cls_ok (E.d.fact 85 (f := .cls "Spot"))
theorem k_Spot (E : Env K mg) : Mk K (He.ga K "Spot") (He.fAd K ("Spot", some "__init__")) := He.mkr_ok (E.d.fact 86 (f := .mkr "Spot"))
theorem m_Spot_pump (E : Env K mg) : Meth K (He.ga K "Spot") "pump" (He.fAd K ("Spot", some "pump")) := He.meth_ok (E.d.fact 87 (f := .meth "Spot" "pump"))
theorem n_Spot_came_by (E : Env K mg) : NoAttr K (He.ga K "Spot") "came_by" := He.noat_ok (E.d.fact 88 (f := .noat "Spot" "came_by"))
theorem n_Spot_depth (E : Env K mg) : NoAttr K (He.ga K "Spot") "depth" := He.noat_ok (E.d.fact 89 (f := .noat "Spot" "depth"))
theorem n_Spot_parent (E : Env K mg) : NoAttr K (He.ga K "Spot") "parent" := He.noat_ok (E.d.fact 90 (f := .noat "Spot" "parent"))
theorem n_Spot_pumps (E : Env K mg) : NoAttr K (He.ga K "Spot") "pumps" := He.noat_ok (E.d.fact 91 (f := .noat "Spot" "pumps"))
theorem n_Spot_tail (E : Env K mg) : NoAttr K (He.ga K "Spot") "tail" := He.noat_ok (E.d.fact 92 (f := .noat "Spot" "tail"))
theorem n_Spot_wide (E : Env K mg) : NoAttr K (He.ga K "Spot") "wide" := He.noat_ok (E.d.fact 93 (f := .noat "Spot" "wide"))
theorem g_Growth (E : Env K mg) : mg "Growth" = some (.ref (He.ga K "Growth")) := let ⟨_, X, G⟩ := E.at_; He.glo_ok X G (E.d.fact 94 (f := .glo "Growth"))
theorem c_Growth (E : Env K mg) : Cls K (He.ga K "Growth") := He.cls_ok (E.d.fact 95 (f := .cls "Growth"))
theorem k_Growth (E : Env K mg) : Mk K (He.ga K "Growth") (He.fAd K ("Growth", some "__init__")) := He.mkr_ok (E.d.fact 96 (f := .mkr "Growth"))
theorem m_Growth_grow (E : Env K mg) : Meth K (He.ga K "Growth") "grow" (He.fAd K ("Growth", some "grow")) := He.meth_ok (E.d.fact 97 (f := .meth "Growth" "grow"))
theorem m_Growth_put (E : Env K mg) : Meth K (He.ga K "Growth") "put" (He.fAd K ("Growth", some "put")) := He.meth_ok (E.d.fact 98 (f := .meth "Growth" "put"))
theorem n_Growth_look (E : Env K mg) : NoAttr K (He.ga K "Growth") "look" := He.noat_ok (E.d.fact 99 (f := .noat "Growth" "look"))
theorem n_Growth_spots (E : Env K mg) : NoAttr K (He.ga K "Growth") "spots" := He.noat_ok (E.d.fact 100 (f := .noat "Growth" "spots"))
theorem n_Growth_there (E : Env K mg) : NoAttr K (He.ga K "Growth") "there" := He.noat_ok (E.d.fact 101 (f := .noat "Growth" "there"))
theorem g_Levels (E : Env K mg) : mg "Levels" = some (.ref (He.ga K "Levels")) := let ⟨_, X, G⟩ := E.at_; He.glo_ok X G (E.d.fact 102 (f := .glo "Levels"))
theorem c_Levels (E : Env K mg) : Cls K (He.ga K "Levels") := He.cls_ok (E.d.fact 103 (f := .cls "Levels"))
theorem k_Levels (E : Env K mg) : Mk K (He.ga K "Levels") (He.fAd K ("Levels", some "__init__")) := He.mkr_ok (E.d.fact 104 (f := .mkr "Levels"))
theorem m_Levels_is_come_to (E : Env K mg) : Meth K (He.ga K "Levels") "is_come_to" (He.fAd K ("Levels", some "is_come_to")) := He.meth_ok (E.d.fact 105 (f := .meth "Levels" "is_come_to"))
theorem m_Levels_go_on (E : Env K mg) : Meth K (He.ga K "Levels") "go_on" (He.fAd K ("Levels", some "go_on")) := He.meth_ok (E.d.fact 106 (f := .meth "Levels" "go_on"))
theorem m_Levels_first_row (E : Env K mg) : Meth K (He.ga K "Levels") "first_row" (He.fAd K ("Levels", some "first_row")) := He.meth_ok (E.d.fact 107 (f := .meth "Levels" "first_row"))
theorem n_Levels_fresh (E : Env K mg) : NoAttr K (He.ga K "Levels") "fresh" := He.noat_ok (E.d.fact 108 (f := .noat "Levels" "fresh"))
theorem n_Levels_levels (E : Env K mg) : NoAttr K (He.ga K "Levels") "levels" := He.noat_ok (E.d.fact 109 (f := .noat "Levels" "levels"))
theorem n_Levels_look (E : Env K mg) : NoAttr K (He.ga K "Levels") "look" := He.noat_ok (E.d.fact 110 (f := .noat "Levels" "look"))
theorem n_Levels_most (E : Env K mg) : NoAttr K (He.ga K "Levels") "most" := He.noat_ok (E.d.fact 111 (f := .noat "Levels" "most"))
theorem b_len (E : Env K mg) : mg "len" = none := let ⟨_, X, G⟩ := E.at_; He.free_ok X G (E.d.fact 112 (f := .free "len"))
theorem b_isinstance (E : Env K mg) : mg "isinstance" = none := let ⟨_, X, G⟩ := E.at_; He.free_ok X G (E.d.fact 113 (f := .free "isinstance"))
theorem b_int (E : Env K mg) : mg "int" = none := let ⟨_, X, G⟩ := E.at_; He.free_ok X G (E.d.fact 114 (f := .free "int"))
theorem b_bool (E : Env K mg) : mg "bool" = none := let ⟨_, X, G⟩ := E.at_; He.free_ok X G (E.d.fact 115 (f := .free "bool"))
theorem b_str (E : Env K mg) : mg "str" = none := let ⟨_, X, G⟩ := E.at_; He.free_ok X G (E.d.fact 116 (f := .free "str"))
theorem b_tuple (E : Env K mg) : mg "tuple" = none := let ⟨_, X, G⟩ := E.at_; He.free_ok X G (E.d.fact 117 (f := .free "tuple"))
theorem b_list (E : Env K mg) : mg "list" = none := let ⟨_, X, G⟩ := E.at_; He.free_ok X G (E.d.fact 118 (f := .free "list"))
theorem b_dict (E : Env K mg) : mg "dict" = none := let ⟨_, X, G⟩ := E.at_; He.free_ok X G (E.d.fact 119 (f := .free "dict"))
theorem b_zip (E : Env K mg) : mg "zip" = none := let ⟨_, X, G⟩ := E.at_; He.free_ok X G (E.d.fact 120 (f := .free "zip"))
theorem b_enumerate (E : Env K mg) : mg "enumerate" = none := let ⟨_, X, G⟩ := E.at_; He.free_ok X G (E.d.fact 121 (f := .free "enumerate"))
theorem b_range (E : Env K mg) : mg "range" = none := let ⟨_, X, G⟩ := E.at_; He.free_ok X G (E.d.fact 122 (f := .free "range"))
theorem b_all (E : Env K mg) : mg "all" = none := let ⟨_, X, G⟩ := E.at_; He.free_ok X G (E.d.fact 123 (f := .free "all"))
theorem b_any (E : Env K mg) : mg "any" = none := let ⟨_, X, G⟩ := E.at_; He.free_ok X G (E.d.fact 124 (f := .free "any"))
theorem b_max (E : Env K mg) : mg "max" = none := let ⟨_, X, G⟩ := E.at_; He.free_ok X G (E.d.fact 125 (f := .free "max"))
theorem b_sum (E : Env K mg) : mg "sum" = none := let ⟨_, X, G⟩ := E.at_; He.free_ok X G (E.d.fact 126 (f := .free "sum"))
theorem b_sorted (E : Env K mg) : mg "sorted" = none := let ⟨_, X, G⟩ := E.at_; He.free_ok X G (E.d.fact 127 (f := .free "sorted"))
theorem i_MOST_SIGNS (E : Env K mg) : ∃ t, mg "MOST_SIGNS" = some (.int 8 t) := let ⟨_, X, G⟩ := E.at_; He.int_ok X G (E.d.fact 128 (f := .int "MOST_SIGNS" 8))
theorem i_MOST_COUNT (E : Env K mg) : ∃ t, mg "MOST_COUNT" = some (.int 999999999 t) := let ⟨_, X, G⟩ := E.at_; He.int_ok X G (E.d.fact 129 (f := .int "MOST_COUNT" 999999999))
theorem i_MOST_PLACES (E : Env K mg) : ∃ t, mg "MOST_PLACES" = some (.int 40 t) := let ⟨_, X, G⟩ := E.at_; He.int_ok X G (E.d.fact 130 (f := .int "MOST_PLACES" 40))
theorem i_MOST_FIRINGS (E : Env K mg) : ∃ t, mg "MOST_FIRINGS" = some (.int 60 t) := let ⟨_, X, G⟩ := E.at_; He.int_ok X G (E.d.fact 131 (f := .int "MOST_FIRINGS" 60))
theorem t_SMALL (E : Env K mg) : ∃ t, mg "SMALL" = some (.str "abcdefghijklmnopqrstuvwxyz" t) := let ⟨_, X, G⟩ := E.at_; He.str_ok X G (E.d.fact 132 (f := .str "SMALL" "abcdefghijklmnopqrstuvwxyz"))
theorem t_FIGURES (E : Env K mg) : ∃ t, mg "FIGURES" = some (.str "0123456789" t) := let ⟨_, X, G⟩ := E.at_; He.str_ok X G (E.d.fact 133 (f := .str "FIGURES" "0123456789"))
theorem f_TooGreat_init (E : Env K mg) : ∃ fd, FunD K "__init__" "TooGreat.__init__" (defArgs s_TooGreat_init) (defBody s_TooGreat_init) (defScope s_TooGreat_init) [(.int 0)] [] (He.fAd K ("TooGreat", some "__init__")) fd := E.d.def_ 0 (d := d_TooGreat_init)
theorem f_is_count_nets (E : Env K mg) : ∃ fd, FunD K "is_count" "is_count" (defArgs s_is_count_nets) (defBody s_is_count_nets) (defScope s_is_count_nets) [] [] (He.fAd K ("is_count_nets", none)) fd := E.d.def_ 1 (d := d_is_count_nets)
theorem f_is_name (E : Env K mg) : ∃ fd, FunD K "is_name" "is_name" (defArgs s_is_name) (defBody s_is_name) (defScope s_is_name) [] [] (He.fAd K ("is_name", none)) fd := E.d.def_ 2 (d := d_is_name)
theorem f_are_parts (E : Env K mg) : ∃ fd, FunD K "are_parts" "are_parts" (defArgs s_are_parts) (defBody s_are_parts) (defScope s_are_parts) [] [] (He.fAd K ("are_parts", none)) fd := E.d.def_ 3 (d := d_are_parts)
theorem f_is_place (E : Env K mg) : ∃ fd, FunD K "is_place" "is_place" (defArgs s_is_place) (defBody s_is_place) (defScope s_is_place) [] [] (He.fAd K ("is_place", none)) fd := E.d.def_ 4 (d := d_is_place)
theorem f_is_firing (E : Env K mg) : ∃ fd, FunD K "is_firing" "is_firing" (defArgs s_is_firing) (defBody s_is_firing) (defScope s_is_firing) [] [] (He.fAd K ("is_firing", none)) fd := E.d.def_ 5 (d := d_is_firing)
theorem f_part_wrong (E : Env K mg) : ∃ fd, FunD K "part_wrong" "part_wrong" (defArgs s_part_wrong) (defBody s_part_wrong) (defScope s_part_wrong) [] [] (He.fAd K ("part_wrong", none)) fd := E.d.def_ 6 (d := d_part_wrong)
theorem f_net_wrong (E : Env K mg) : ∃ fd, FunD K "net_wrong" "net_wrong" (defArgs s_net_wrong) (defBody s_net_wrong) (defScope s_net_wrong) [] [] (He.fAd K ("net_wrong", none)) fd := E.d.def_ 7 (d := d_net_wrong)
theorem f_must_net (E : Env K mg) : ∃ fd, FunD K "must_net" "must_net" (defArgs s_must_net) (defBody s_must_net) (defScope s_must_net) [] [] (He.fAd K ("must_net", none)) fd := E.d.def_ 8 (d := d_must_net)
theorem f_Look_init (E : Env K mg) : ∃ fd, FunD K "__init__" "Look.__init__" (defArgs s_Look_init) (defBody s_Look_init) (defScope s_Look_init) [] [] (He.fAd K ("Look", some "__init__")) fd := E.d.def_ 9 (d := d_Look_init)
theorem f_Look_lacking (E : Env K mg) : ∃ fd, FunD K "lacking" "Look.lacking" (defArgs s_Look_lacking) (defBody s_Look_lacking) (defScope s_Look_lacking) [] [] (He.fAd K ("Look", some "lacking")) fd := E.d.def_ 10 (d := d_Look_lacking)
theorem f_Look_behind (E : Env K mg) : ∃ fd, FunD K "behind" "Look.behind" (defArgs s_Look_behind) (defBody s_Look_behind) (defScope s_Look_behind) [] [] (He.fAd K ("Look", some "behind")) fd := E.d.def_ 11 (d := d_Look_behind)
theorem f_Look_can (E : Env K mg) : ∃ fd, FunD K "can" "Look.can" (defArgs s_Look_can) (defBody s_Look_can) (defScope s_Look_can) [] [] (He.fAd K ("Look", some "can")) fd := E.d.def_ 12 (d := d_Look_can)
theorem f_is_count_firing (E : Env K mg) : ∃ fd, FunD K "is_count" "is_count" (defArgs s_is_count_firing) (defBody s_is_count_firing) (defScope s_is_count_firing) [] [] (He.fAd K ("is_count_firing", none)) fd := E.d.def_ 13 (d := d_is_count_firing)
theorem f_look_at (E : Env K mg) : ∃ fd, FunD K "look_at" "look_at" (defArgs s_look_at) (defBody s_look_at) (defScope s_look_at) [] [] (He.fAd K ("look_at", none)) fd := E.d.def_ 14 (d := d_look_at)
theorem f_heap_fault (E : Env K mg) : ∃ fd, FunD K "heap_fault" "heap_fault" (defArgs s_heap_fault) (defBody s_heap_fault) (defScope s_heap_fault) [] [] (He.fAd K ("heap_fault", none)) fd := E.d.def_ 15 (d := d_heap_fault)
theorem f_must_heap (E : Env K mg) : ∃ fd, FunD K "must_heap" "must_heap" (defArgs s_must_heap) (defBody s_must_heap) (defScope s_must_heap) [] [] (He.fAd K ("must_heap", none)) fd := E.d.def_ 16 (d := d_must_heap)
theorem f_Search_init (E : Env K mg) : ∃ fd, FunD K "__init__" "Search.__init__" (defArgs s_Search_init) (defBody s_Search_init) (defScope s_Search_init) [] [] (He.fAd K ("Search", some "__init__")) fd := E.d.def_ 17 (d := d_Search_init)
theorem f_Search_go_on (E : Env K mg) : ∃ fd, FunD K "go_on" "Search.go_on" (defArgs s_Search_go_on) (defBody s_Search_go_on) (defScope s_Search_go_on) [.non] [] (He.fAd K ("Search", some "go_on")) fd := E.d.def_ 18 (d := d_Search_go_on)
theorem f_Search_is_done (E : Env K mg) : ∃ fd, FunD K "is_done" "Search.is_done" (defArgs s_Search_is_done) (defBody s_Search_is_done) (defScope s_Search_is_done) [] [] (He.fAd K ("Search", some "is_done")) fd := E.d.def_ 19 (d := d_Search_is_done)
theorem f_searched (E : Env K mg) : ∃ fd, FunD K "searched" "searched" (defArgs s_searched) (defBody s_searched) (defScope s_searched) [] [] (He.fAd K ("searched", none)) fd := E.d.def_ 20 (d := d_searched)
theorem f_reach (E : Env K mg) : ∃ fd, FunD K "reach" "reach" (defArgs s_reach) (defBody s_reach) (defScope s_reach) [] [("most", (.int 2000))] (He.fAd K ("reach", none)) fd := E.d.def_ 21 (d := d_reach)
theorem f_way (E : Env K mg) : ∃ fd, FunD K "way" "way" (defArgs s_way) (defBody s_way) (defScope s_way) [] [("most", (.int 2000))] (He.fAd K ("way", none)) fd := E.d.def_ 22 (d := d_way)
theorem f_dead (E : Env K mg) : ∃ fd, FunD K "dead" "dead" (defArgs s_dead) (defBody s_dead) (defScope s_dead) [] [("most", (.int 2000))] (He.fAd K ("dead", none)) fd := E.d.def_ 23 (d := d_dead)
theorem f_is_over (E : Env K mg) : ∃ fd, FunD K "is_over" "is_over" (defArgs s_is_over) (defBody s_is_over) (defScope s_is_over) [] [] (He.fAd K ("is_over", none)) fd := E.d.def_ 24 (d := d_is_over)
theorem f_wide_can (E : Env K mg) : ∃ fd, FunD K "wide_can" "wide_can" (defArgs s_wide_can) (defBody s_wide_can) (defScope s_wide_can) [] [] (He.fAd K ("wide_can", none)) fd := E.d.def_ 25 (d := d_wide_can)
theorem f_wide_behind (E : Env K mg) : ∃ fd, FunD K "wide_behind" "wide_behind" (defArgs s_wide_behind) (defBody s_wide_behind) (defScope s_wide_behind) [] [] (He.fAd K ("wide_behind", none)) fd := E.d.def_ 26 (d := d_wide_behind)
theorem f_widened (E : Env K mg) : ∃ fd, FunD K "widened" "widened" (defArgs s_widened) (defBody s_widened) (defScope s_widened) [] [] (He.fAd K ("widened", none)) fd := E.d.def_ 27 (d := d_widened)
theorem f_greatest (E : Env K mg) : ∃ fd, FunD K "greatest" "greatest" (defArgs s_greatest) (defBody s_greatest) (defScope s_greatest) [] [] (He.fAd K ("greatest", none)) fd := E.d.def_ 28 (d := d_greatest)
theorem f_least (E : Env K mg) : ∃ fd, FunD K "least" "least" (defArgs s_least) (defBody s_least) (defScope s_least) [] [] (He.fAd K ("least", none)) fd := E.d.def_ 29 (d := d_least)
theorem f_Spot_init (E : Env K mg) : ∃ fd, FunD K "__init__" "Spot.__init__" (defArgs s_Spot_init) (defBody s_Spot_init) (defScope s_Spot_init) [] [] (He.fAd K ("Spot", some "__init__")) fd := E.d.def_ 30 (d := d_Spot_init)
theorem f_Spot_pump (E : Env K mg) : ∃ fd, FunD K "pump" "Spot.pump" (defArgs s_Spot_pump) (defBody s_Spot_pump) (defScope s_Spot_pump) [] [] (He.fAd K ("Spot", some "pump")) fd := E.d.def_ 31 (d := d_Spot_pump)
theorem f_Growth_init (E : Env K mg) : ∃ fd, FunD K "__init__" "Growth.__init__" (defArgs s_Growth_init) (defBody s_Growth_init) (defScope s_Growth_init) [] [] (He.fAd K ("Growth", some "__init__")) fd := E.d.def_ 32 (d := d_Growth_init)
theorem f_Growth_grow (E : Env K mg) : ∃ fd, FunD K "grow" "Growth.grow" (defArgs s_Growth_grow) (defBody s_Growth_grow) (defScope s_Growth_grow) [] [] (He.fAd K ("Growth", some "grow")) fd := E.d.def_ 33 (d := d_Growth_grow)
theorem f_Growth_put (E : Env K mg) : ∃ fd, FunD K "put" "Growth.put" (defArgs s_Growth_put) (defBody s_Growth_put) (defScope s_Growth_put) [] [] (He.fAd K ("Growth", some "put")) fd := E.d.def_ 34 (d := d_Growth_put)
theorem f_wides_of (E : Env K mg) : ∃ fd, FunD K "wides_of" "wides_of" (defArgs s_wides_of) (defBody s_wides_of) (defScope s_wides_of) [] [] (He.fAd K ("wides_of", none)) fd := E.d.def_ 35 (d := d_wides_of)
theorem f_place_number (E : Env K mg) : ∃ fd, FunD K "place_number" "place_number" (defArgs s_place_number) (defBody s_place_number) (defScope s_place_number) [] [] (He.fAd K ("place_number", none)) fd := E.d.def_ 36 (d := d_place_number)
theorem f_stair_of (E : Env K mg) : ∃ fd, FunD K "stair_of" "stair_of" (defArgs s_stair_of) (defBody s_stair_of) (defScope s_stair_of) [] [] (He.fAd K ("stair_of", none)) fd := E.d.def_ 37 (d := d_stair_of)
theorem f_bound (E : Env K mg) : ∃ fd, FunD K "bound" "bound" (defArgs s_bound) (defBody s_bound) (defScope s_bound) [] [("most", (.int 2000))] (He.fAd K ("bound", none)) fd := E.d.def_ 38 (d := d_bound)
theorem f_before (E : Env K mg) : ∃ fd, FunD K "before" "before" (defArgs s_before) (defBody s_before) (defScope s_before) [] [] (He.fAd K ("before", none)) fd := E.d.def_ 39 (d := d_before)
theorem f_over_some (E : Env K mg) : ∃ fd, FunD K "over_some" "over_some" (defArgs s_over_some) (defBody s_over_some) (defScope s_over_some) [] [] (He.fAd K ("over_some", none)) fd := E.d.def_ 40 (d := d_over_some)
theorem f_Levels_init (E : Env K mg) : ∃ fd, FunD K "__init__" "Levels.__init__" (defArgs s_Levels_init) (defBody s_Levels_init) (defScope s_Levels_init) [] [] (He.fAd K ("Levels", some "__init__")) fd := E.d.def_ 41 (d := d_Levels_init)
theorem f_Levels_is_come_to (E : Env K mg) : ∃ fd, FunD K "is_come_to" "Levels.is_come_to" (defArgs s_Levels_is_come_to) (defBody s_Levels_is_come_to) (defScope s_Levels_is_come_to) [] [] (He.fAd K ("Levels", some "is_come_to")) fd := E.d.def_ 42 (d := d_Levels_is_come_to)
theorem f_Levels_go_on (E : Env K mg) : ∃ fd, FunD K "go_on" "Levels.go_on" (defArgs s_Levels_go_on) (defBody s_Levels_go_on) (defScope s_Levels_go_on) [] [] (He.fAd K ("Levels", some "go_on")) fd := E.d.def_ 43 (d := d_Levels_go_on)
theorem f_Levels_first_row (E : Env K mg) : ∃ fd, FunD K "first_row" "Levels.first_row" (defArgs s_Levels_first_row) (defBody s_Levels_first_row) (defScope s_Levels_first_row) [] [] (He.fAd K ("Levels", some "first_row")) fd := E.d.def_ 44 (d := d_Levels_first_row)
theorem f_covered_by (E : Env K mg) : ∃ fd, FunD K "covered_by" "covered_by" (defArgs s_covered_by) (defBody s_covered_by) (defScope s_covered_by) [] [] (He.fAd K ("covered_by", none)) fd := E.d.def_ 45 (d := d_covered_by)
theorem f_covered (E : Env K mg) : ∃ fd, FunD K "covered" "covered" (defArgs s_covered) (defBody s_covered) (defScope s_covered) [] [("most", (.int 2000))] (He.fAd K ("covered", none)) fd := E.d.def_ 46 (d := d_covered)
theorem f_numbers_of (E : Env K mg) : ∃ fd, FunD K "numbers_of" "numbers_of" (defArgs s_numbers_of) (defBody s_numbers_of) (defScope s_numbers_of) [] [] (He.fAd K ("numbers_of", none)) fd := E.d.def_ 47 (d := d_numbers_of)
theorem f_sides (E : Env K mg) : ∃ fd, FunD K "sides" "sides" (defArgs s_sides) (defBody s_sides) (defScope s_sides) [] [] (He.fAd K ("sides", none)) fd := E.d.def_ 48 (d := d_sides)
theorem f_lost (E : Env K mg) : ∃ fd, FunD K "lost" "lost" (defArgs s_lost) (defBody s_lost) (defScope s_lost) [] [] (He.fAd K ("lost", none)) fd := E.d.def_ 49 (d := d_lost)
theorem f_is_siphon (E : Env K mg) : ∃ fd, FunD K "is_siphon" "is_siphon" (defArgs s_is_siphon) (defBody s_is_siphon) (defScope s_is_siphon) [] [] (He.fAd K ("is_siphon", none)) fd := E.d.def_ 50 (d := d_is_siphon)
theorem f_is_trap (E : Env K mg) : ∃ fd, FunD K "is_trap" "is_trap" (defArgs s_is_trap) (defBody s_is_trap) (defScope s_is_trap) [] [] (He.fAd K ("is_trap", none)) fd := E.d.def_ 51 (d := d_is_trap)
theorem f_is_whole (E : Env K mg) : ∃ fd, FunD K "is_whole" "is_whole" (defArgs s_is_whole) (defBody s_is_whole) (defScope s_is_whole) [] [] (He.fAd K ("is_whole", none)) fd := E.d.def_ 52 (d := d_is_whole)
theorem f_effects (E : Env K mg) : ∃ fd, FunD K "effects" "effects" (defArgs s_effects) (defBody s_effects) (defScope s_effects) [] [] (He.fAd K ("effects", none)) fd := E.d.def_ 53 (d := d_effects)
theorem f_turned_about (E : Env K mg) : ∃ fd, FunD K "turned_about" "turned_about" (defArgs s_turned_about) (defBody s_turned_about) (defScope s_turned_about) [] [] (He.fAd K ("turned_about", none)) fd := E.d.def_ 54 (d := d_turned_about)
theorem f_thing_wrong (E : Env K mg) : ∃ fd, FunD K "thing_wrong" "thing_wrong" (defArgs s_thing_wrong) (defBody s_thing_wrong) (defScope s_thing_wrong) [] [] (He.fAd K ("thing_wrong", none)) fd := E.d.def_ 55 (d := d_thing_wrong)
theorem f_place_vectors (E : Env K mg) : ∃ fd, FunD K "place_vectors" "place_vectors" (defArgs s_place_vectors) (defBody s_place_vectors) (defScope s_place_vectors) [] [] (He.fAd K ("place_vectors", none)) fd := E.d.def_ 56 (d := d_place_vectors)
theorem f_sum_wrong (E : Env K mg) : ∃ fd, FunD K "sum_wrong" "sum_wrong" (defArgs s_sum_wrong) (defBody s_sum_wrong) (defScope s_sum_wrong) [] [] (He.fAd K ("sum_wrong", none)) fd := E.d.def_ 57 (d := d_sum_wrong)
theorem f_L_at (E : Env K mg) : ∃ fd, FunD K "_law_at" "_law_at" (defArgs s_L_at) (defBody s_L_at) (defScope s_L_at) [] [] (He.fAd K ("_law_at", none)) fd := E.d.def_ 58 (d := d_L_at)
theorem f_L_mixed (E : Env K mg) : ∃ fd, FunD K "_law_mixed" "_law_mixed" (defArgs s_L_mixed) (defBody s_L_mixed) (defScope s_L_mixed) [] [] (He.fAd K ("_law_mixed", none)) fd := E.d.def_ 59 (d := d_L_mixed)
theorem f_L_purse (E : Env K mg) : ∃ fd, FunD K "_law_purse" "_law_purse" (defArgs s_L_purse) (defBody s_L_purse) (defScope s_L_purse) [] [] (He.fAd K ("_law_purse", none)) fd := E.d.def_ 60 (d := d_L_purse)
theorem f_L_draw (E : Env K mg) : ∃ fd, FunD K "_law_draw" "_law_draw" (defArgs s_L_draw) (defBody s_L_draw) (defScope s_L_draw) [] [] (He.fAd K ("_law_draw", none)) fd := E.d.def_ 61 (d := d_L_draw)
theorem f_L_parts (E : Env K mg) : ∃ fd, FunD K "_law_parts" "_law_parts" (defArgs s_L_parts) (defBody s_L_parts) (defScope s_L_parts) [] [] (He.fAd K ("_law_parts", none)) fd := E.d.def_ 62 (d := d_L_parts)
theorem f_L_even (E : Env K mg) : ∃ fd, FunD K "_law_even" "_law_even" (defArgs s_L_even) (defBody s_L_even) (defScope s_L_even) [] [] (He.fAd K ("_law_even", none)) fd := E.d.def_ 63 (d := d_L_even)
theorem f_L_net (E : Env K mg) : ∃ fd, FunD K "_law_net" "_law_net" (defArgs s_L_net) (defBody s_L_net) (defScope s_L_net) [] [] (He.fAd K ("_law_net", none)) fd := E.d.def_ 64 (d := d_L_net)
theorem f_L_start (E : Env K mg) : ∃ fd, FunD K "_law_start" "_law_start" (defArgs s_L_start) (defBody s_L_start) (defScope s_L_start) [] [] (He.fAd K ("_law_start", none)) fd := E.d.def_ 65 (d := d_L_start)
theorem f_L_change (E : Env K mg) : ∃ fd, FunD K "_law_change" "_law_change" (defArgs s_L_change) (defBody s_L_change) (defScope s_L_change) [] [] (He.fAd K ("_law_change", none)) fd := E.d.def_ 66 (d := d_L_change)
theorem f_L_can (E : Env K mg) : ∃ fd, FunD K "_law_can" "_law_can" (defArgs s_L_can) (defBody s_L_can) (defScope s_L_can) [] [] (He.fAd K ("_law_can", none)) fd := E.d.def_ 67 (d := d_L_can)
theorem f_L_heaps (E : Env K mg) : ∃ fd, FunD K "_law_heaps" "_law_heaps" (defArgs s_L_heaps) (defBody s_L_heaps) (defScope s_L_heaps) [] [] (He.fAd K ("_law_heaps", none)) fd := E.d.def_ 68 (d := d_L_heaps)
theorem f_L_goal (E : Env K mg) : ∃ fd, FunD K "_law_goal" "_law_goal" (defArgs s_L_goal) (defBody s_L_goal) (defScope s_L_goal) [] [] (He.fAd K ("_law_goal", none)) fd := E.d.def_ 69 (d := d_L_goal)
theorem f_L_lidded (E : Env K mg) : ∃ fd, FunD K "_law_lidded" "_law_lidded" (defArgs s_L_lidded) (defBody s_L_lidded) (defScope s_L_lidded) [] [] (He.fAd K ("_law_lidded", none)) fd := E.d.def_ 70 (d := d_L_lidded)
theorem f_L_beneath (E : Env K mg) : ∃ fd, FunD K "_law_beneath" "_law_beneath" (defArgs s_L_beneath) (defBody s_L_beneath) (defScope s_L_beneath) [] [] (He.fAd K ("_law_beneath", none)) fd := E.d.def_ 71 (d := d_L_beneath)
theorem f_L_told (E : Env K mg) : ∃ fd, FunD K "_law_told" "_law_told" (defArgs s_L_told) (defBody s_L_told) (defScope s_L_told) [] [] (He.fAd K ("_law_told", none)) fd := E.d.def_ 72 (d := d_L_told)
theorem f_L_free_right (E : Env K mg) : ∃ fd, FunD K "_law_free_right" "_law_free_right" (defArgs s_L_free_right) (defBody s_L_free_right) (defScope s_L_free_right) [] [] (He.fAd K ("_law_free_right", none)) fd := E.d.def_ 73 (d := d_L_free_right)
theorem f_L_right (E : Env K mg) : ∃ fd, FunD K "_law_right" "_law_right" (defArgs s_L_right) (defBody s_L_right) (defScope s_L_right) [] [] (He.fAd K ("_law_right", none)) fd := E.d.def_ 74 (d := d_L_right)
theorem f_law (E : Env K mg) : ∃ fd, FunD K "law" "law" (defArgs s_law) (defBody s_law) (defScope s_law) [] [] (He.fAd K ("law", none)) fd := E.d.def_ 75 (d := d_law)
end Env
end TK

/-! part Hd -/
set_option Elab.async false
set_option linter.all false
set_option maxRecDepth 100000
set_option maxHeartbeats 0
namespace TK
open PySem PySem.Spec PyProof.Rows L2
def loose0 : List PySem.Str := ["NetError", "NoNet", "NoHeap", "NoPlace", "Stuck", "TooGreat", "WORDS", "SMALL", "FIGURES", "MOST_SIGNS", "MOST_COUNT", "MOST_PLACES", "MOST_FIRINGS", "is_count", "is_count_nets", "is_name", "are_parts", "is_place", "is_firing", "part_wrong", "net_wrong", "must_net", "Look", "is_count_firing", "look_at", "heap_fault", "must_heap", "MOST_HEAPS", "Search", "searched"]
def loose1 : List PySem.Str := ["reach", "way", "dead", "is_over", "wide_can", "wide_behind", "widened", "greatest", "least", "Spot", "Growth", "wides_of", "place_number", "stair_of", "bound", "before", "over_some", "Levels", "covered_by", "covered", "numbers_of", "sides", "lost", "is_siphon", "is_trap", "is_whole", "effects", "turned_about", "thing_wrong", "place_vectors"]
def loose2 : List PySem.Str := ["sum_wrong", "_law_at", "_law_mixed", "_law_purse", "_law_draw", "_law_parts", "_law_even", "_law_net", "_law_start", "_law_change", "_law_can", "_law_heaps", "_law_goal", "_law_lidded", "_law_beneath", "_law_told", "_law_free_right", "_law_right"]
def loose : List PySem.Str := loose0 ++ loose1 ++ loose2

/-! the look's lists, made plain before they are asked -/
def frL {α : Type} : List Addr → (List Addr → α) → α
  | [], k => k []
  | a :: r, k => HandSHeadRun.frNat a fun a => frL r fun r => k (a :: r)
theorem frL_eq {α : Type} : ∀ (l : List Addr) (k : List Addr → α), frL l k = k l
  | [], _ => rfl
  | a :: r, k => by
    show HandSHeadRun.frNat a (fun a => frL r fun r => k (a :: r)) = _
    rw [HandSHeadRun.frNat_eq, frL_eq r]
/-- those not met so far, met from now on (a bit each) -/
def scanF {α : Type} : List Addr → Nat → List Addr → (Nat → List Addr → α) → α
  | [], m, acc, k => k m acc
  | a :: r, m, acc, k => match Nat.beq (Nat.land (Nat.shiftRight m a) 1) 1 with
    | true => scanF r m acc k
    | false => HandSHeadRun.frNat a fun a => HandSHeadRun.frNat (Nat.lor m (Nat.shiftLeft 1 a)) fun m => scanF r m (a :: acc) k
theorem scanF_eq {α : Type} : ∀ (l : List Addr) (m : Nat) (acc : List Addr) (k : Nat → List Addr → α), ∃ m' acc', scanF l m acc k = k m' acc'
  | [], m, acc, k => ⟨m, acc, rfl⟩
  | a :: r, m, acc, k => by
    unfold scanF
    split
    · exact scanF_eq r m acc k
    · rw [HandSHeadRun.frNat_eq, HandSHeadRun.frNat_eq]
      exact scanF_eq r _ _ k
/-- level by level: what the objects of the last name -/
def levF {α : Type} (g : Addr → Option Obj) : Nat → List Addr → Nat → List Addr → (List Addr → α) → α
  | 0, f, _, al, k => k (al ++ f)
  | n + 1, f, m, al, k => scanF (f.flatMap fun a => match g a with
    | some o => He.refsD o
    | none => []) m [] fun m' f' => levF g n f' m' (al ++ f) k
theorem levF_eq {α : Type} (g : Addr → Option Obj) : ∀ (n : Nat) (f : List Addr) (m : Nat) (al : List Addr) (k : List Addr → α), ∃ L, levF g n f m al k = k L
  | 0, f, m, al, k => ⟨al ++ f, rfl⟩
  | n + 1, f, m, al, k => by
    obtain ⟨m', f', e⟩ := scanF_eq (f.flatMap fun a => match g a with
      | some o => He.refsD o
      | none => []) m [] fun m' f' => levF g n f' m' (al ++ f) k
    obtain ⟨L, e2⟩ := levF_eq g n f' m' (al ++ f) k
    exact ⟨L, e.trans e2⟩
def frK {α : Type} (g : Addr → Option Obj) : List Addr → (PySem.W.Frag → α) → α
  | [], k => k []
  | a :: r, k => match g a with
    | some ⟨c, d, .seq its n, sl⟩ => frK g r fun K => k ((a, ⟨c, d, .seq its n, sl⟩) :: K)
    | some ⟨c, d, .dict es n, sl⟩ => frK g r fun K => k ((a, ⟨c, d, .dict es n, sl⟩) :: K)
    | some ⟨c, d, .func fd, sl⟩ => frK g r fun K => k ((a, ⟨c, d, .func fd, sl⟩) :: K)
    | some ⟨c, d, .cls cd, sl⟩ => frK g r fun K => k ((a, ⟨c, d, .cls cd, sl⟩) :: K)
    | some ⟨c, d, .fields vs, sl⟩ => frK g r fun K => k ((a, ⟨c, d, .fields vs, sl⟩) :: K)
    | some o => frK g r fun K => k ((a, o) :: K)
    | none => frK g r k
theorem frK_eq {α : Type} (g : Addr → Option Obj) : ∀ (l : List Addr) (k : PySem.W.Frag → α), frK g l k = k (He.frG g l)
  | [], _ => rfl
  | a :: r, k => by
    unfold frK He.frG
    rw [List.filterMap_cons]
    cases h : g a with
    | none => simp only [h, Option.map_none]; exact frK_eq g r k
    | some o =>
      obtain ⟨c, d, dt, sl⟩ := o
      cases dt <;> (simp only [Option.map_some]; exact frK_eq g r _)
def obsBG (g : Addr → Option Obj) : AlB := levF g 4 [mainGlobals] (Nat.shiftLeft 1 mainGlobals) [] fun as => frK g as obsB
theorem obsBG_is (g : Addr → Option Obj) : ∃ L, obsBG g = obsB (He.frG g L) := by
  obtain ⟨L, e⟩ := levF_eq g 4 [mainGlobals] (Nat.shiftLeft 1 mainGlobals) [] fun as => frK g as obsB
  exact ⟨L, e.trans (frK_eq g L obsB)⟩
def hookB : PySem.W.Hook where
  α := AlB
  obs := fun s => obsBG s.heap.get?
  val := fun _ => (He.valD fn, true)
  says := fun _ h => ∃ K : PySem.W.Frag, K.In h ∧ SaysB K
  of := fun _ s e => by
    obtain ⟨L, h⟩ := obsBG_is s.heap.get?
    exact ⟨_, He.frG_in, h.symm.trans e⟩
  keeps := fun _ _ _ ⟨K, hK, c⟩ k => ⟨K, PySem.W.Frag.In.keeps hK k, c⟩
theorem obsBG_eq {g : Addr → Option Obj} {s : Shared} (h : ∀ a, g a = s.heap.get? a) : obsBG g = hookB.obs s := by
  have e : g = s.heap.get? := funext h
  rw [e] <;> rfl
abbrev R : PySem.W.OpenRow := PySem.W.OpenLaw.row PySem.Challenge.rw_tokenfold_k96_whole_places_with_a_lid
def ob (s : PySem.W.SharedT) : AlB := obsBG (HandSHeadRun.getT s)
theorem ob_eq (s : PySem.W.SharedT) : ob s = hookB.obs s.abs := obsBG_eq (HandSHeadRun.getT_eq s)
theorem run (w : World) : HandSHeadRun.RunEq R (PySem.W.view R.prog [89]) hookB ob 20000 loose w := by
  intro os
  kernel_rfl
end TK

/-! part P1 -/
set_option Elab.async false
set_option linter.all false
set_option maxRecDepth 100000
set_option maxHeartbeats 4000000
/-! PG, part 1: what is known for good (G) below the heap as it stands (H), steps, judgements, their basic rules. -/
namespace PG
open PySem PySem.Spec PyProof.Rows L2

/-! ### worlds -/
abbrev Ex (H H' : Hp) : Prop := ∀ a o, H a = some o → H' a = some o
theorem Ex.refl (H : Hp) : Ex H H := fun _ _ h => h
theorem Ex.trans {H H1 H2 : Hp} (a : Ex H H1) (b : Ex H1 H2) : Ex H H2 := fun x o h => b x o (a x o h)
theorem Ex.none {H H' : Hp} (e : Ex H H') {a : Addr} (h : H' a = Option.none) : H a = Option.none := by
  cases q : H a with
  | none => rfl
  | some o =>
    rw [e a o q] at h
    cases h
theorem Ex.new {H : Hp} {p : Addr} {o : HO} (h : H p = Option.none) : Ex H (upd H p o) := fun a u e => by
  rw [upd_ne (ne_of_none e h)]
  exact e

/-- from (G, H) to (G', H'): what is known stays known and true, what stood stands but at S, what is known anew is new -/
structure Stp (S : List Addr) (G H G' H' : Hp) : Prop where
  g : Ex G G'
  i : Ex G' H'
  h : ∀ a o, H a = some o → ∃ o', H' a = some o' ∧ (a ∉ S → o' = o) ∧ (∀ xs, o' = .tup xs → o = .tup xs)
  n : ∀ a o, G' a = some o → G a = Option.none → H a = Option.none ∨ ∃ xs, H a = some (.tup xs)
section
variable {S S' : List Addr} {G H G1 H1 G2 H2 : Hp} {p : Addr} {o o' : HO}
theorem Stp.refl (e : Ex G H) : Stp S G H G H := ⟨Ex.refl _, e, fun a o h => ⟨o, h, fun _ => rfl, fun _ e => e⟩, fun a o h h' => by rw [h] at h'; cases h'⟩
theorem Stp.ex (s : Stp [] G H G1 H1) : Ex H H1 := fun a o h => by
  obtain ⟨o', h', e, _⟩ := s.h a o h
  rw [e (List.not_mem_nil)] at h'
  exact h'
theorem Stp.mono (s : Stp S G H G1 H1) (hs : ∀ a ∈ S, a ∈ S') : Stp S' G H G1 H1 := ⟨s.g, s.i, fun a o h => by
  obtain ⟨o', h1, h2, h3⟩ := s.h a o h
  exact ⟨o', h1, fun z => h2 fun q => z (hs a q), h3⟩, s.n⟩
theorem Stp.any (s : Stp [] G H G1 H1) : Stp S G H G1 H1 := s.mono fun _ h => nomatch h
theorem Stp.trans (a : Stp S G H G1 H1) (b : Stp S G1 H1 G2 H2) : Stp S G H G2 H2 := by
  refine ⟨a.g.trans b.g, b.i, fun x o h => ?_, fun x o h h' => ?_⟩
  · obtain ⟨o1, h1, e1, f1⟩ := a.h x o h
    obtain ⟨o2, h2, e2, f2⟩ := b.h x o1 h1
    exact ⟨o2, h2, fun z => (e2 z).trans (e1 z), fun xs z => f1 xs (f2 xs z)⟩
  · cases q : G1 x with
    | some u => exact a.n x u q h'
    | none =>
      have z := b.n x o h q
      cases r : H x with
      | none => exact .inl rfl
      | some v =>
        obtain ⟨v', hv, _, f1⟩ := a.h x v r
        rcases z with z | ⟨xs, z⟩
        · rw [hv] at z
          cases z
        · rw [hv] at z
          exact .inr ⟨xs, by rw [f1 xs (Option.some.inj z)]⟩
/-- nothing known anew is wanted -/
theorem Stp.keepG (s : Stp S G H G1 H1) : Stp S G H G H1 := ⟨Ex.refl _, s.g.trans s.i, s.h, fun a o h h' => by rw [h] at h'; cases h'⟩
theorem Stp.newP (e : Ex G H) (hp : H p = Option.none) : Stp S G H (upd G p o) (upd H p o) := by
  have gp : G p = Option.none := e.none hp
  refine ⟨Ex.new gp, fun a u h => ?_, fun a u h => ⟨u, by rw [upd_ne (ne_of_none h hp)]; exact h, fun _ => rfl, fun _ e => e⟩, fun a u h h' => .inl ?_⟩
  · by_cases q : a = p
    · subst q
      rw [upd_same] at h ⊢
      exact h
    · rw [upd_ne q] at h ⊢
      exact e a u h
  · by_cases q : a = p
    · rw [q]; exact hp
    · rw [upd_ne q, h'] at h
      cases h
theorem Stp.newO (e : Ex G H) (hp : H p = Option.none) : Stp S G H G (upd H p o) :=
  ⟨Ex.refl _, e.trans (Ex.new hp), fun a u h => ⟨u, by rw [upd_ne (ne_of_none h hp)]; exact h, fun _ => rfl, fun _ e => e⟩, fun a u h h' => by rw [h] at h'; cases h'⟩
theorem Stp.mut (s : Stp S G H G1 H1) (hg : G1 p = Option.none) (hs : H p = Option.none ∨ p ∈ S) (hnt : ∀ xs, o ≠ .tup xs := by intro _ h; cases h) : Stp S G H G1 (upd H1 p o) := by
  refine ⟨s.g, fun a u h => ?_, fun a u h => ?_, s.n⟩
  · rw [upd_ne (ne_of_none h hg)]
    exact s.i a u h
  · by_cases q : a = p
    · subst q
      refine ⟨o, upd_same, fun z => ?_, fun xs z => absurd z (hnt xs)⟩
      rcases hs with hs | hs
      · rw [hs] at h; cases h
      · exact absurd hs z
    · obtain ⟨u', h1, h2⟩ := s.h a u h
      exact ⟨u', by rw [upd_ne q]; exact h1, h2⟩
theorem Stp.frz (s : Stp S G H G1 H1) (hp : H1 p = some o) (h0 : H p = Option.none) : Stp S G H (upd G1 p o) H1 := by
  have up : Ex G1 (upd G1 p o) := fun a u h => by
    by_cases q : a = p
    · subst q
      rw [upd_same, ← hp]
      exact s.i a u h
    · rw [upd_ne q]
      exact h
  refine ⟨s.g.trans up, fun a u h => ?_, s.h, fun a u h h' => ?_⟩
  · by_cases q : a = p
    · subst q
      rw [upd_same] at h
      rw [hp]
      exact h
    · rw [upd_ne q] at h
      exact s.i a u h
  · by_cases q : a = p
    · rw [q]; exact .inl h0
    · rw [upd_ne q] at h
      exact s.n a u h h'
/-- a tuple that stands, known from now on -/
theorem Stp.frzT {ys : List V} (s : Stp S G H G1 H1) (hp : H1 p = some (.tup ys)) : Stp S G H (upd G1 p (.tup ys)) H1 ∧ Ex G1 (upd G1 p (.tup ys)) := by
  have up : Ex G1 (upd G1 p (.tup ys)) := fun a u h => by
    by_cases q : a = p
    · subst q
      rw [upd_same, ← hp]
      exact s.i a u h
    · rw [upd_ne q]
      exact h
  refine ⟨⟨s.g.trans up, fun a u h => ?_, s.h, fun a u h h' => ?_⟩, up⟩
  · by_cases q : a = p
    · subst q
      rw [upd_same] at h
      rw [hp]
      exact h
    · rw [upd_ne q] at h
      exact s.i a u h
  · by_cases q : a = p
    · subst q
      cases r : H a with
      | none => exact .inl rfl
      | some v =>
        obtain ⟨v', hv, _, f⟩ := s.h a v r
        rw [hp] at hv
        exact .inr ⟨ys, by rw [f ys (Option.some.inj hv).symm]⟩
    · rw [upd_ne q] at h
      exact s.n a u h h'
/-- two parts of what is known -/
def mer (G1 G2 : Hp) : Hp := fun a => match G1 a with
  | some o => some o
  | none => G2 a
theorem mer_l {G1 G2 : Hp} : Ex G1 (mer G1 G2) := fun a o h => by
  unfold mer
  rw [h]
theorem mer_r {G1 G2 H : Hp} (e1 : Ex G1 H) (e2 : Ex G2 H) : Ex G2 (mer G1 G2) := fun a o h => by
  unfold mer
  cases q : G1 a with
  | none => exact h
  | some u =>
    have r := e1 a u q
    rw [e2 a o h] at r
    show some u = some o
    rw [Option.some.inj r]
theorem Stp.lift (e1 : Ex G1 H) (eg : Ex G G1) (s : Stp [] G H G2 H2) : Stp [] G1 H (mer G1 G2) H2 ∧ Ex G2 (mer G1 G2) := by
  have e1' : Ex G1 H2 := e1.trans s.ex
  refine ⟨⟨mer_l, fun a o h => ?_, s.h, fun a o h h' => ?_⟩, mer_r e1' s.i⟩
  · unfold mer at h
    cases q : G1 a with
    | none =>
      rw [q] at h
      exact s.i a o h
    | some u =>
      rw [q] at h
      exact e1' a o (q.trans h)
  · unfold mer at h
    rw [h'] at h
    exact s.n a o h (eg.none h')
/-- an object that may be changed: it stands, and is not known for good -/
structure Own (G H : Hp) (p : Addr) (o : HO) : Prop where
  h : H p = some o
  g : G p = Option.none
theorem Own.step (w : Own G H p o) (s : Stp S G H G1 H1) (hp : p ∉ S) (hnt : ∀ xs, o ≠ .tup xs := by intro _ h; cases h) : Own G1 H1 p o := by
  obtain ⟨o', h1, h2, _⟩ := s.h p o w.h
  rw [h2 hp] at h1
  refine ⟨h1, ?_⟩
  cases q : G1 p with
  | none => rfl
  | some u =>
    rcases s.n p u q w.g with z | ⟨xs, z⟩
    · rw [w.h] at z
      cases z
    · rw [w.h] at z
      exact absurd (Option.some.inj z) (hnt xs)
theorem Own.step0 (w : Own G H p o) (s : Stp [] G H G1 H1) (hnt : ∀ xs, o ≠ .tup xs := by intro _ h; cases h) : Own G1 H1 p o := w.step s List.not_mem_nil hnt
theorem Own.stepK (w : Own G H p o) (s : Stp [] G H G H1) : Own G H1 p o := ⟨s.ex p o w.h, w.g⟩
theorem Own.new (e : Ex G H) (hp : H p = Option.none) : Own G (upd H p o) p o := ⟨upd_same, e.none hp⟩
theorem Own.upd (w : Own G H p o) : Own G (upd H p o') p o' := ⟨upd_same, w.g⟩
theorem Own.ne (w : Own G H p o) {a : Addr} {u : HO} (h : G a = some u) : a ≠ p := ne_of_none h w.g
theorem Own.other {q : Addr} {u : HO} (w : Own G H p o) (h : p ≠ q) : Own G (L2.upd H q u) p o := ⟨by rw [upd_ne h]; exact w.h, w.g⟩
end

/-! ### data -/
/-- data of the form (text, whole number) -/
def isPr : PyData → Bool
  | .tuple [.str _, .int _] => true
  | _ => false
/-- such data alone: a tuple of these may be known to the last sign -/
def plD (ds : List PyData) : Bool := ds.all isPr
/-- the value v is this data, by what is known -/
inductive Rp (G : Hp) : V → PyData → Prop
  | non : Rp G .non .none
  | bl (b : Bool) : Rp G (.bl b) (.bool b)
  | int (i : Int) : Rp G (.int i) (.int i)
  | str (x : Str) : Rp G (.str x) (.str x)
  | lst {a : Addr} {xs : List V} {ds : List PyData} : G a = some (.lst xs) → Paired (Rp G) xs ds → Rp G (.ref a) (.list ds)
  | tup {a : Addr} {xs : List V} {ds : List PyData} : G a = some (.tup xs) → Paired (Rp G) xs ds → Rp G (.ref a) (.tuple ds)
  | prt {a : Addr} {o : Obj} {xs : List V} {ds : List PyData} : G a = some (.frz o (.tup xs)) → plD ds = true → Paired (Rp G) xs ds → Rp G (.ref a) (.tuple ds)
end PG

/-! part P2 -/
set_option Elab.async false
set_option linter.all false
set_option maxRecDepth 100000
set_option maxHeartbeats 4000000
/-! PG, part 2: data, judgements, basic rules. -/
namespace PG
open PySem PySem.Spec PyProof.Rows L2

section
variable {G G' : Hp}
mutual
theorem Rp.mono (e : Ex G G') : ∀ (d : PyData) (v : V), Rp G v d → Rp G' v d
  | .none, _, h => by cases h; exact .non
  | .bool _, _, h => by cases h; exact .bl _
  | .int _, _, h => by cases h; exact .int _
  | .str _, _, h => by cases h; exact .str _
  | .list ds, _, h => by
    cases h with
    | lst h1 h2 => exact .lst (e _ _ h1) (Rp.monoAll e ds _ h2)
  | .tuple ds, _, h => by
    cases h with
    | tup h1 h2 => exact .tup (e _ _ h1) (Rp.monoAll e ds _ h2)
    | prt h1 hp h2 => exact .prt (e _ _ h1) hp (Rp.monoAll e ds _ h2)
  | .dict _, _, h => by cases h
theorem Rp.monoAll (e : Ex G G') : ∀ (ds : List PyData) (vs : List V), Paired (Rp G) vs ds → Paired (Rp G') vs ds
  | [], _, h => by cases h; exact .nil
  | d :: ds, _, h => by
    cases h with
    | cons h1 h2 => exact .cons (Rp.mono e d _ h1) (Rp.monoAll e ds _ h2)
end
mutual
theorem Rp.dp (K : PySem.W.Frag) : ∀ (d : PyData) (v : V), Rp G v d → Dp K G v d
  | .none, _, h => by cases h; exact .non
  | .bool _, _, h => by cases h; exact .bl _
  | .int _, _, h => by cases h; exact .int _
  | .str _, _, h => by cases h; exact .str _
  | .list ds, _, h => by
    cases h with
    | lst h1 h2 => exact .lst (SqL.of h1) (Rp.dpAll K ds _ h2)
  | .tuple ds, _, h => by
    cases h with
    | tup h1 h2 => exact .tup (SqT.of h1) (Rp.dpAll K ds _ h2)
    | prt h1 hp h2 => exact .tup (.inl (.inr ⟨_, h1⟩)) (Rp.dpAll K ds _ h2)
  | .dict _, _, h => by cases h
theorem Rp.dpAll (K : PySem.W.Frag) : ∀ (ds : List PyData) (vs : List V), Paired (Rp G) vs ds → DpAll K G vs ds
  | [], _, h => by cases h; exact .nil
  | d :: ds, _, h => by
    cases h with
    | cons h1 h2 => exact .cons (Rp.dp K d _ h1) (Rp.dpAll K ds _ h2)
end
theorem Rp.int_eq {v : V} {i : Int} (h : Rp G v (.int i)) : v = .int i := by cases h; rfl
theorem Rp.str_eq {v : V} {x : Str} (h : Rp G v (.str x)) : v = .str x := by cases h; rfl
theorem Rp.bl_eq {v : V} {b : Bool} (h : Rp G v (.bool b)) : v = .bl b := by cases h; rfl
theorem Rp.non_eq {v : V} (h : Rp G v .none) : v = .non := by cases h; rfl
theorem Rp.tup_rd {v : V} {ds : List PyData} (h : Rp G v (.tuple ds)) : ∃ a xs, v = .ref a ∧ Rd G a (.tup xs) ∧ Paired (Rp G) xs ds := by
  cases h with
  | tup h1 h2 => exact ⟨_, _, rfl, .inl h1, h2⟩
  | prt h1 hp h2 => exact ⟨_, _, rfl, .inr ⟨_, h1⟩, h2⟩
theorem Rp.tup_eq {v : V} {ds : List PyData} (h : Rp G v (.tuple ds)) (hn : plD ds = false := by rfl) : ∃ a xs, v = .ref a ∧ G a = some (.tup xs) ∧ Paired (Rp G) xs ds := by
  cases h with
  | tup h1 h2 => exact ⟨_, _, rfl, h1, h2⟩
  | prt h1 hp h2 =>
    rw [hn] at hp
    cases hp
theorem rdX {G' : Hp} {a : Addr} {u : HO} (e : Ex G G') (h : Rd G a u) : Rd G' a u := by
  rcases h with h | ⟨o, h⟩
  · exact .inl (e _ _ h)
  · exact .inr ⟨o, e _ _ h⟩
theorem sqT_rd {K : PySem.W.Frag} {a : Addr} {xs : List V} (h : Rd G a (.tup xs)) : SqT K G a xs := .inl h
theorem Rp.lst_eq {v : V} {ds : List PyData} (h : Rp G v (.list ds)) : ∃ a xs, v = .ref a ∧ G a = some (.lst xs) ∧ Paired (Rp G) xs ds := by
  cases h with
  | lst h1 h2 => exact ⟨_, _, rfl, h1, h2⟩
end
theorem Paired.get {α β : Type} {F : α → β → Prop} : ∀ {xs : List α} {ys : List β} {i : Nat} {y : β}, Paired F xs ys → ys[i]? = some y → ∃ x, xs[i]? = some x ∧ F x y
  | _, _, _, _, .nil, e => by simp at e
  | _, _, 0, _, .cons r _, e => by simp at e; subst e; exact ⟨_, rfl, r⟩
  | _, _, i + 1, y, .cons _ t, e => by
    obtain ⟨x, h1, h2⟩ := Paired.get (i := i) (y := y) t (by simpa using e)
    exact ⟨x, by simpa using h1, h2⟩
theorem Paired.getL {α β : Type} {F : α → β → Prop} : ∀ {xs : List α} {ys : List β} {i : Nat} {x : α}, Paired F xs ys → xs[i]? = some x → ∃ y, ys[i]? = some y ∧ F x y
  | _, _, _, _, .nil, e => by simp at e
  | _, _, 0, _, .cons r _, e => by simp at e; subst e; exact ⟨_, rfl, r⟩
  | _, _, i + 1, y, .cons _ t, e => by
    obtain ⟨x, h1, h2⟩ := Paired.getL (i := i) (x := y) t (by simpa using e)
    exact ⟨x, by simpa using h1, h2⟩
theorem Paired.imp {α β : Type} {F F' : α → β → Prop} : ∀ {xs : List α} {ys : List β}, Paired F xs ys → (∀ x y, F x y → F' x y) → Paired F' xs ys
  | _, _, .nil, _ => .nil
  | _, _, .cons r t, k => .cons (k _ _ r) (Paired.imp t k)
theorem Paired.map_r {α β γ : Type} {F : α → γ → Prop} {f : β → γ} : ∀ {xs : List α} {ys : List β}, Paired F xs (ys.map f) → Paired (fun x y => F x (f y)) xs ys
  | [], [], _ => .nil
  | [], _ :: _, h => nomatch h
  | _ :: _, [], h => nomatch h
  | _ :: _, _ :: _, .cons r t => .cons r (Paired.map_r t)
theorem Paired.of_map_r {α β γ : Type} {F : α → γ → Prop} {f : β → γ} : ∀ {xs : List α} {ys : List β}, Paired (fun x y => F x (f y)) xs ys → Paired F xs (ys.map f)
  | _, _, .nil => .nil
  | _, _, .cons r t => .cons r (Paired.of_map_r t)
theorem Paired.app {α β : Type} {F : α → β → Prop} : ∀ {xs xs' : List α} {ys ys' : List β}, Paired F xs ys → Paired F xs' ys' → Paired F (xs ++ xs') (ys ++ ys')
  | _, _, _, _, .nil, h => h
  | _, _, _, _, .cons r t, h => .cons r (Paired.app t h)
/-- a heap of the net: a tuple of ints -/
abbrev tI (ns : List Int) : PyData := .tuple (ns.map .int)
theorem paired_ints {G : Hp} : ∀ {ns : List Int} {xs : List V}, Paired (Rp G) xs (ns.map .int) → xs = ns.map V.int
  | [], _, h => by cases h; rfl
  | n :: ns, _, h => by
    cases h with
    | cons h1 h2 =>
      rw [h1.int_eq, paired_ints h2]
      rfl
theorem ints_paired {G : Hp} : ∀ ns : List Int, Paired (Rp G) (ns.map V.int) (ns.map .int)
  | [] => .nil
  | n :: ns => .cons (.int n) (ints_paired ns)
theorem Rp.tI_rd {G : Hp} {v : V} {ns : List Int} (h : Rp G v (tI ns)) : ∃ a, v = .ref a ∧ Rd G a (.tup (ns.map V.int)) := by
  obtain ⟨a, xs, e, h1, h2⟩ := h.tup_rd
  rw [paired_ints h2] at h1
  exact ⟨a, e, h1⟩
theorem Rp.tI_eq {G : Hp} {v : V} {ns : List Int} (h : Rp G v (tI ns)) (hn : ns ≠ []) : ∃ a, v = .ref a ∧ G a = some (.tup (ns.map V.int)) := by
  obtain ⟨a, xs, e, h1, h2⟩ := h.tup_eq (by
    cases ns with
    | nil => exact absurd rfl hn
    | cons n ns => rfl)
  rw [paired_ints h2] at h1
  exact ⟨a, e, h1⟩
theorem Rp.tI_of {G : Hp} {a : Addr} {ns : List Int} (h : G a = some (.tup (ns.map V.int))) : Rp G (.ref a) (tI ns) := .tup h (ints_paired ns)
theorem Rp.lI_eq {G : Hp} {v : V} {ns : List Int} (h : Rp G v (.list (ns.map .int))) : ∃ a, v = .ref a ∧ G a = some (.lst (ns.map V.int)) := by
  obtain ⟨a, xs, e, h1, h2⟩ := h.lst_eq
  rw [paired_ints h2] at h1
  exact ⟨a, e, h1⟩
theorem bls_paired {G : Hp} : ∀ {bs : List Bool} {xs : List V}, Paired (Rp G) xs (bs.map .bool) → xs = bs.map V.bl
  | [], _, h => by cases h; rfl
  | n :: ns, _, h => by
    cases h with
    | cons h1 h2 =>
      rw [h1.bl_eq, bls_paired h2]
      rfl
theorem strs_paired {G : Hp} : ∀ {bs : List Str} {xs : List V}, Paired (Rp G) xs (bs.map .str) → xs = bs.map V.str
  | [], _, h => by cases h; rfl
  | n :: ns, _, h => by
    cases h with
    | cons h1 h2 =>
      rw [h1.str_eq, strs_paired h2]
      rfl

/-! ### relations of values -/
class MonoR (R : V → Hp → Prop) : Prop where
  mono : ∀ v G G', Ex G G' → R v G → R v G'
def RD (d : PyData) : V → Hp → Prop := fun v G => Rp G v d
def RV (c : V) : V → Hp → Prop := fun v _ => v = c
instance (d : PyData) : MonoR (RD d) := ⟨fun v _ _ e h => Rp.mono e d v h⟩
instance (c : V) : MonoR (RV c) := ⟨fun _ _ _ _ h => h⟩
/-- a list, a tuple of such -/
def LstR (Rs : List (V → Hp → Prop)) : V → Hp → Prop := fun v G => ∃ p vs, v = .ref p ∧ G p = some (.lst vs) ∧ Paired (fun v R => R v G) vs Rs
def TupR (Rs : List (V → Hp → Prop)) : V → Hp → Prop := fun v G => ∃ p vs, v = .ref p ∧ G p = some (.tup vs) ∧ Paired (fun v R => R v G) vs Rs

/-! ### the readings that every expression, statement has -/
section
variable {X : Cx}
def WE (X : Cx) (e : Expr) : TE := fun σ H Q => ∃ t, PE X e t ∧ t σ H Q
def WT (X : Cx) (e : Expr) : TT := fun σ H Q => ∃ t, PT X e t ∧ t σ H Q
def WA (X : Cx) (es : List Expr) : TA := fun σ H Q => ∃ t, PA X es t ∧ t σ H Q
def WS1 (X : Cx) (st : Stmt) : TS := fun D σ H => ∃ t, PS X st t ∧ t D σ H
def WS (X : Cx) (st : List Stmt) : TS := fun D σ H => ∃ t, PSs X st t ∧ t D σ H
def WG (X : Cx) (tg : Expr) : TG := fun v σ H Q => ∃ t, PG X tg t ∧ t v σ H Q
def WI (X : Cx) (tg iter : Expr) : TI := fun σ H R => ∃ t, PI X tg iter t ∧ t σ H R
def WTs (X : Cx) (ifs : List Expr) : TT := fun σ H Q => ∃ t, PTs X ifs t ∧ t σ H Q
theorem pe_self (e : Expr) : PE X e (WE X e) := ⟨fun pins s σ H Q I ⟨_, p, h⟩ => p.run pins s σ H Q I h⟩
theorem pt_self (e : Expr) : PT X e (WT X e) := ⟨fun pins s σ H Q I ⟨_, p, h⟩ => p.run pins s σ H Q I h⟩
theorem pa_self (es : List Expr) : PA X es (WA X es) := ⟨fun pos pins s σ H Q I ⟨_, p, h⟩ => p.run pos pins s σ H Q I h⟩
theorem ps_self (st : Stmt) : PS X st (WS1 X st) := ⟨fun pins s σ H Q I ⟨_, p, h⟩ => p.run pins s σ H Q I h⟩
theorem pss_self (st : List Stmt) : PSs X st (WS X st) := ⟨fun pins s σ H Q I ⟨_, p, h⟩ => p.run pins s σ H Q I h⟩
theorem pg_self (tg : Expr) : PG X tg (WG X tg) := ⟨fun pins s σ H v u Q I r ⟨_, p, h⟩ => p.run pins s σ H v u Q I r h⟩
theorem pi_self (tg iter : Expr) : PI X tg iter (WI X tg iter) := ⟨fun pins s σ H R I ⟨_, p, h⟩ => p.run pins s σ H R I h⟩
theorem pts_self (ifs : List Expr) : PTs X ifs (WTs X ifs) := ⟨fun pins s σ H Q I ⟨_, p, h⟩ => p.run pins s σ H Q I h⟩
end

/-! ### judgements -/
/-- e evaluates, by what is known, to a value of R, leaving all as it stands -/
def EE (X : Cx) (e : Expr) (σ : L2.St) (G : Hp) (R : V → Hp → Prop) : Prop := ∀ (H : Hp) (Q : VK), Ex G H → (∀ v G' H', Stp [] G H G' H' → R v G' → Q v H') → WE X e σ H Q
abbrev ED (X : Cx) (e : Expr) (σ : L2.St) (G : Hp) (d : PyData) : Prop := EE X e σ G (RD d)
/-- an argument list -/
def EA (X : Cx) (es : List Expr) (σ : L2.St) (G : Hp) (R : List V → Hp → Prop) : Prop := ∀ (H : Hp) (Q : List V → Hp → Prop), Ex G H → (∀ vs G' H', Stp [] G H G' H' → R vs G' → Q vs H') → WA X es σ H Q
/-- a test -/
def ET (X : Cx) (e : Expr) (σ : L2.St) (G : Hp) (b : Bool) : Prop := ∀ (H : Hp) (Q : Bool → Hp → Prop), Ex G H → (∀ H', Stp [] G H G H' → Q b H') → WT X e σ H Q
def ETs (X : Cx) (ifs : List Expr) (σ : L2.St) (G : Hp) (b : Bool) : Prop := ∀ (H : Hp) (Q : Bool → Hp → Prop), Ex G H → (∀ H', Stp [] G H G H' → Q b H') → WTs X ifs σ H Q
/-- a store to a target -/
def EG (X : Cx) (tg : Expr) (v : V) (σ : L2.St) (G : Hp) (σ' : L2.St) : Prop := ∀ (H : Hp) (Q : L2.St → Hp → Prop), Ex G H → (∀ H', Stp [] G H G H' → Q σ' H') → WG X tg v σ H Q
/-- what a for walks: n turns, the i-th item of Y i -/
structure IsIt (J : It) (n : Nat) (Y : Nat → V → Hp → Prop) (G : Hp) : Prop where
  stop : ∀ H, Ex G H → J.stop n H
  go : ∀ i H, Ex G H → i < n → J.go i H
  yld : ∀ i G' H v H', Ex G G' → Ex G' H → i < n → J.yld i H v H' → ∃ G2, Stp [] G' H G2 H' ∧ Y i v G2
def EI (X : Cx) (tg iter : Expr) (σ : L2.St) (G : Hp) (n : Nat) (Y : Nat → V → Hp → Prop) : Prop :=
  ∀ (H : Hp) (R : It → Hp → Prop), Ex G H → (∀ J G' H', Stp [] G H G' H' → IsIt J n Y G' → R J H') → WI X tg iter σ H R

section
variable {X : Cx} {σ : L2.St} {G G1 H : Hp} {e a b c : Expr} {es : List Expr} {R R' Ra Rb : V → Hp → Prop} {pos p : Pos}
theorem EE.mono [m : MonoR R] (h : EE X e σ G R) (eg : Ex G G1) : EE X e σ G1 R := fun H Q e1 k => by
  refine h H Q (eg.trans e1) fun v G' H' s r => ?_
  obtain ⟨s2, e2⟩ := s.lift e1 eg
  exact k v _ H' s2 (m.mono _ _ _ e2 r)
theorem EE.imp (h : EE X e σ G R) (k : ∀ v G', Ex G G' → R v G' → R' v G') : EE X e σ G R' := fun H Q e1 q => h H Q e1 fun v G' H' s r => q v G' H' s (k v G' s.g r)
theorem ET.mono {t : Bool} (h : ET X e σ G t) (eg : Ex G G1) : ET X e σ G1 t := fun H Q e1 k =>
  h H Q (eg.trans e1) fun H' s => k H' (s.lift e1 eg).1.keepG
/-- two in a row -/
theorem two [Monoa : MonoR Ra] [MonoR Rb] (ha : EE X a σ G Ra) (hb : EE X b σ G Rb) {K : V → V → Hp → Prop} (e : Ex G H) (k : ∀ x y G' H', Stp [] G H G' H' → Ra x G' → Rb y G' → K x y H') :
    WE X a σ H fun x H1 => WE X b σ H1 fun y H2 => K x y H2 :=
  ha H _ e fun x G1 H1 s1 r1 => (hb.mono s1.g) H1 _ s1.i fun y G2 H2 s2 r2 => k x y G2 H2 (s1.trans s2) (Monoa.mono _ _ _ s2.g r1) r2
theorem ee_var {i : Nat} {x : Str} {v : V} (hs : σ[i]? = some (some v)) (r : R v G) (hN : X.N[i]? = some x := by rfl) (hv : Vis X.env.scope x := by first | exact Or.inl rfl | exact Or.inr (Or.inl rfl) | exact Or.inr (Or.inr rfl))
    (hd : (x == ("__debug__" : Str)) = false := by decide) (hcd : (x == ("__classdict__" : Str)) = false := by decide) : EE X (.Name x pos) σ G R := fun H Q e k =>
  ⟨_, pe_var hN hv hd hcd, v, hs, k v G H (Stp.refl e) r⟩
theorem ed_int {i : Int} {j : Nat} : ED X (.Constant (.int i) j pos) σ G (.int i) := fun H Q e k => ⟨_, pe_int, k _ G H (Stp.refl e) (.int i)⟩
theorem ed_str {i : Str} {j : Nat} : ED X (.Constant (.str i) j pos) σ G (.str i) := fun H Q e k => ⟨_, pe_str, k _ G H (Stp.refl e) (.str i)⟩
theorem ed_bl {i : Bool} {j : Nat} : ED X (.Constant (.bool i) j pos) σ G (.bool i) := fun H Q e k => ⟨_, pe_bl, k _ G H (Stp.refl e) (.bl i)⟩
theorem ed_non {j : Nat} : ED X (.Constant .none j pos) σ G .none := fun H Q e k => ⟨_, pe_non, k _ G H (Stp.refl e) .non⟩
/-- a name of the module -/
theorem ee_glob {x : Str} {v : V} {u : Value} (hg : Gl X x) (hm : X.mg x = some u) (r : RelV v u) (q : R v G) (hd : (x == ("__debug__" : Str)) = false := by decide) : EE X (.Name x pos) σ G R := fun H Q e k =>
  ⟨_, pe_glob hg hm r hd, k v G H (Stp.refl e) q⟩
/-- a two-place operation on values -/
def RO (r : R2) (x y : V) (G : Hp) (R : V → Hp → Prop) : Prop := ∀ (H : Hp) (Q : VK), Ex G H → (∀ v G' H', Stp [] G H G' H' → R v G' → Q v H') → r x y H Q
theorem RO.val {r : R2} {x y v : V} (h : ∀ (H : Hp) (Q : VK), Ex G H → Q v H → r x y H Q) (q : R v G) : RO r x y G R := fun H Q e k => h H Q e (k v G H (Stp.refl e) q)
theorem ee_op {op : Operator} {r : R2} [MonoR Ra] [MonoR Rb] (ho : OpR X (binaryOp op) r) (ha : EE X a σ G Ra) (hb : EE X b σ G Rb) (hr : ∀ x y G', Ex G G' → Ra x G' → Rb y G' → RO r x y G' R) : EE X (.BinOp a op b pos) σ G R := fun H Q e k =>
  ⟨_, pe_op ho (pe_self a) (pe_self b), two ha hb e fun x y G' H' s r1 r2 => hr x y G' s.g r1 r2 H' Q s.i fun v G2 H2 s2 q => k v G2 H2 (s.trans s2) q⟩
theorem ee_cmp {op : CmpOp} {r : R2} [MonoR Ra] [MonoR Rb] (ho : OpR X (compareOp op) r) (ha : EE X a σ G Ra) (hb : EE X b σ G Rb) (hr : ∀ x y G', Ex G G' → Ra x G' → Rb y G' → RO r x y G' R) (hm : behindInMarks op b = false) : EE X (.Compare a [op] [b] pos) σ G R := fun H Q e k =>
  ⟨_, pe_cmpR ho (pe_self a) (pe_self b) hm, two ha hb e fun x y G' H' s r1 r2 => hr x y G' s.g r1 r2 H' Q s.i fun v G2 H2 s2 q => k v G2 H2 (s.trans s2) q⟩
/-- a comparison as a test -/
theorem et_cmp {op : CmpOp} {r : R2} {t : Bool} [MonoR Ra] [MonoR Rb] (ho : OpR X (compareOp op) r) (ha : EE X a σ G Ra) (hb : EE X b σ G Rb) (hr : ∀ x y G', Ex G G' → Ra x G' → Rb y G' → RO r x y G' (RD (.bool t))) (hm : behindInMarks op b = false) : ET X (.Compare a [op] [b] pos) σ G t := fun H Q e k =>
  ⟨_, pt_cmpR ho (pe_self a) (pe_self b) hm, two ha hb e fun x y G' H' s r1 r2 => hr x y G' s.g r1 r2 H' _ s.i fun v G2 H2 s2 q => ⟨t, q.bl_eq, k H2 (s.trans s2).keepG⟩⟩
section
variable {i j : Int}
theorem ed_add (ha : ED X a σ G (.int i)) (hb : ED X b σ G (.int j)) : ED X (.BinOp a .Add b pos) σ G (.int (i + j)) :=
  ee_op op_add ha hb fun x y G' _ rx ry => by
    rw [rx.int_eq, ry.int_eq]
    exact .val (fun H Q _ q => ⟨i, j, rfl, rfl, q⟩) (.int _)
theorem ed_sub (ha : ED X a σ G (.int i)) (hb : ED X b σ G (.int j)) : ED X (.BinOp a .Sub b pos) σ G (.int (i - j)) :=
  ee_op op_sub ha hb fun x y G' _ rx ry => by
    rw [rx.int_eq, ry.int_eq]
    exact .val (fun H Q _ q => ⟨i, j, rfl, rfl, q⟩) (.int _)
theorem ed_mul (ha : ED X a σ G (.int i)) (hb : ED X b σ G (.int j)) (hc : CMul i j) : ED X (.BinOp a .Mult b pos) σ G (.int (i * j)) :=
  ee_op op_mul ha hb fun x y G' _ rx ry => by
    rw [rx.int_eq, ry.int_eq]
    exact .val (fun H Q _ q => ⟨i, j, rfl, rfl, hc, q⟩) (.int _)
/-- a rule for two ints that tells a Bool -/
theorem ro_ib {r : Int → Int → Bool} {x y : V} {G : Hp} (rx : Rp G x (.int i)) (ry : Rp G y (.int j)) {t : Bool} (ht : r i j = t) : RO (rI0 fun i j => .bl (r i j)) x y G (RD (.bool t)) := by
  rw [rx.int_eq, ry.int_eq, ← ht]
  exact .val (fun H Q _ q => ⟨i, j, rfl, rfl, q⟩) (.bl _)
theorem ed_lt (ha : ED X a σ G (.int i)) (hb : ED X b σ G (.int j)) : ED X (.Compare a [.Lt] [b] pos) σ G (.bool (decide (i < j))) := ee_cmp op_lt ha hb (fun _ _ _ _ rx ry => ro_ib rx ry rfl) (nomark _)
theorem ed_le (ha : ED X a σ G (.int i)) (hb : ED X b σ G (.int j)) : ED X (.Compare a [.LtE] [b] pos) σ G (.bool (decide (i ≤ j))) := ee_cmp op_le ha hb (fun _ _ _ _ rx ry => ro_ib rx ry rfl) (nomark _)
theorem ed_gt (ha : ED X a σ G (.int i)) (hb : ED X b σ G (.int j)) : ED X (.Compare a [.Gt] [b] pos) σ G (.bool (decide (j < i))) := ee_cmp op_gt ha hb (fun _ _ _ _ rx ry => ro_ib (r := fun i j => decide (j < i)) rx ry rfl) (nomark _)
theorem ed_ge (ha : ED X a σ G (.int i)) (hb : ED X b σ G (.int j)) : ED X (.Compare a [.GtE] [b] pos) σ G (.bool (decide (j ≤ i))) := ee_cmp op_ge ha hb (fun _ _ _ _ rx ry => ro_ib (r := fun i j => decide (j ≤ i)) rx ry rfl) (nomark _)
theorem et_lt (ha : ED X a σ G (.int i)) (hb : ED X b σ G (.int j)) : ET X (.Compare a [.Lt] [b] pos) σ G (decide (i < j)) := et_cmp op_lt ha hb (fun _ _ _ _ rx ry => ro_ib rx ry rfl) (nomark _)
theorem et_le (ha : ED X a σ G (.int i)) (hb : ED X b σ G (.int j)) : ET X (.Compare a [.LtE] [b] pos) σ G (decide (i ≤ j)) := et_cmp op_le ha hb (fun _ _ _ _ rx ry => ro_ib rx ry rfl) (nomark _)
theorem et_gt (ha : ED X a σ G (.int i)) (hb : ED X b σ G (.int j)) : ET X (.Compare a [.Gt] [b] pos) σ G (decide (j < i)) := et_cmp op_gt ha hb (fun _ _ _ _ rx ry => ro_ib (r := fun i j => decide (j < i)) rx ry rfl) (nomark _)
theorem et_ge (ha : ED X a σ G (.int i)) (hb : ED X b σ G (.int j)) : ET X (.Compare a [.GtE] [b] pos) σ G (decide (j ≤ i)) := et_cmp op_ge ha hb (fun _ _ _ _ rx ry => ro_ib (r := fun i j => decide (j ≤ i)) rx ry rfl) (nomark _)
end
/-! == of data; is None -/
section
variable {d d' : PyData}
theorem ro_eqD {K : PySem.W.Frag} {x y : V} {G : Hp} (rx : Rp G x d) (ry : Rp G y d') (sd : SeqAt.shaped d = true) (se : SeqAt.shaped d' = true) : RO (rEqD K) x y G (RD (.bool (PyData.eqv d d'))) :=
  .val (fun H Q e q => ⟨d, d', Rp.dp K _ _ (Rp.mono e _ _ rx), Rp.dp K _ _ (Rp.mono e _ _ ry), sd, se, q⟩) (.bl _)
theorem ro_neD {K : PySem.W.Frag} {x y : V} {G : Hp} (rx : Rp G x d) (ry : Rp G y d') (sd : SeqAt.shaped d = true) (se : SeqAt.shaped d' = true) : RO (rNeD K) x y G (RD (.bool (!PyData.eqv d d'))) :=
  .val (fun H Q e q => ⟨d, d', Rp.dp K _ _ (Rp.mono e _ _ rx), Rp.dp K _ _ (Rp.mono e _ _ ry), sd, se, q⟩) (.bl _)
theorem ed_eq {k : Nat} (hr : Room k X.A) (ha : ED X a σ G d) (hb : ED X b σ G d') (sd : SeqAt.shaped d = true) (se : SeqAt.shaped d' = true) : ED X (.Compare a [.Eq] [b] pos) σ G (.bool (PyData.eqv d d')) := ee_cmp (op_eqD hr.units) ha hb (fun _ _ _ _ rx ry => ro_eqD rx ry sd se) (nomark _)
theorem ed_ne {k : Nat} (hr : Room k X.A) (ha : ED X a σ G d) (hb : ED X b σ G d') (sd : SeqAt.shaped d = true) (se : SeqAt.shaped d' = true) : ED X (.Compare a [.NotEq] [b] pos) σ G (.bool (!PyData.eqv d d')) := ee_cmp (op_neD hr.units) ha hb (fun _ _ _ _ rx ry => ro_neD rx ry sd se) (nomark _)
theorem et_eq {k : Nat} (hr : Room k X.A) (ha : ED X a σ G d) (hb : ED X b σ G d') (sd : SeqAt.shaped d = true) (se : SeqAt.shaped d' = true) : ET X (.Compare a [.Eq] [b] pos) σ G (PyData.eqv d d') := et_cmp (op_eqD hr.units) ha hb (fun _ _ _ _ rx ry => ro_eqD rx ry sd se) (nomark _)
theorem et_ne {k : Nat} (hr : Room k X.A) (ha : ED X a σ G d) (hb : ED X b σ G d') (sd : SeqAt.shaped d = true) (se : SeqAt.shaped d' = true) : ET X (.Compare a [.NotEq] [b] pos) σ G (!PyData.eqv d d') := et_cmp (op_neD hr.units) ha hb (fun _ _ _ _ rx ry => ro_neD rx ry sd se) (nomark _)
/-- is None, by whether it is -/
theorem ee_isN [MonoR Ra] {t : Bool} (ha : EE X a σ G Ra) (ht : ∀ v G', Ra v G' → decide (v = .non) = t) {j pos'} : ED X (.Compare a [.Is] [.Constant .none j pos'] pos) σ G (.bool t) :=
  ee_cmp op_isN ha (Rb := RD .none) ed_non (fun x y G' _ rx ry => by
    rw [ry.non_eq, ← ht x G' rx]
    exact .val (fun H Q _ q => ⟨rfl, q⟩) (.bl _)) (nomark _)
theorem ee_notN [MonoR Ra] {t : Bool} (ha : EE X a σ G Ra) (ht : ∀ v G', Ra v G' → (!decide (v = .non)) = t) {j pos'} : ED X (.Compare a [.IsNot] [.Constant .none j pos'] pos) σ G (.bool t) :=
  ee_cmp op_notN ha (Rb := RD .none) ed_non (fun x y G' _ rx ry => by
    rw [ry.non_eq, ← ht x G' rx]
    exact .val (fun H Q _ q => ⟨rfl, q⟩) (.bl _)) (nomark _)
end
/-! tests -/
theorem et_val {t : Bool} (h : ED X e σ G (.bool t)) (he : ∀ whole, isTrue e X.env whole = (do let v ← whole; standAt e.pos; holding [v] (truthy v)) := by intro _; rfl) : ET X e σ G t := fun H Q e1 k =>
  ⟨_, pt_val (pe_self e) he, h H _ e1 fun v G' H' s r => ⟨t, r.bl_eq, k H' s.keepG⟩⟩
theorem et_isN [MonoR Ra] {t : Bool} (ha : EE X a σ G Ra) (ht : ∀ v G', Ra v G' → decide (v = .non) = t) {j pos'} : ET X (.Compare a [.Is] [.Constant .none j pos'] pos) σ G t :=
  et_cmp op_isN ha (Rb := RD .none) ed_non (fun x y G' _ rx ry => by
    rw [ry.non_eq, ← ht x G' rx]
    exact .val (fun H Q _ q => ⟨rfl, q⟩) (.bl _)) (nomark _)
theorem et_notN [MonoR Ra] {t : Bool} (ha : EE X a σ G Ra) (ht : ∀ v G', Ra v G' → (!decide (v = .non)) = t) {j pos'} : ET X (.Compare a [.IsNot] [.Constant .none j pos'] pos) σ G t :=
  et_cmp op_notN ha (Rb := RD .none) ed_non (fun x y G' _ rx ry => by
    rw [ry.non_eq, ← ht x G' rx]
    exact .val (fun H Q _ q => ⟨rfl, q⟩) (.bl _)) (nomark _)
theorem et_not {t : Bool} (h : ET X a σ G t) : ET X (.UnaryOp .Not a pos) σ G (!t) := fun H Q e k => ⟨_, pt_not (pt_self a), h H _ e fun H' s => k H' s⟩
theorem et_is {t u : Bool} (h : ET X a σ G t) (e : t = u) : ET X a σ G u := e ▸ h
theorem ee_is {d d' : PyData} (h : ED X a σ G d) (e : d = d') : ED X a σ G d' := e ▸ h
/-- and, or as tests: a chain -/
def EW (X : Cx) (e : Expr) (σ : L2.St) (G : Hp) (b : Bool) : Prop := ∀ (H : Hp) (Q : Bool → Hp → Prop), Ex G H → (∀ H', Stp [] G H G H' → Q b H') → ∃ t, PW X e t ∧ t σ H Q
def WW (X : Cx) (e : Expr) : TT := fun σ H Q => ∃ t, PW X e t ∧ t σ H Q
theorem pw_self (e : Expr) : PW X e (WW X e) := ⟨fun whole pins s σ H Q I ⟨_, p, h⟩ => p.run whole pins s σ H Q I h⟩
theorem EW.t {t : Bool} (h : EW X e σ G t) : ET X e σ G t := fun H Q e1 k => by
  obtain ⟨t', p, q⟩ := h H Q e1 k
  exact ⟨t', p.pt, q⟩
theorem ew_and1 {t : Bool} (h : ET X a σ G t) : EW X (.BoolOp .And [a] pos) σ G t := fun H Q e k => ⟨_, pw_and1 (pt_self a), h H Q e k⟩
theorem ew_or1 {t : Bool} (h : ET X a σ G t) : EW X (.BoolOp .Or [a] pos) σ G t := fun H Q e k => ⟨_, pw_or1 (pt_self a), h H Q e k⟩
theorem ew_and {t u : Bool} (ha : ET X a σ G t) (hb : t = true → EW X (.BoolOp .And (b :: es) pos) σ G u) : EW X (.BoolOp .And (a :: b :: es) pos) σ G (t && u) := fun H Q e k => by
  refine ⟨_, pw_and (pt_self a) (pw_self _), ha H _ e fun H' s => ?_⟩
  cases t with
  | true => exact iteT (hb rfl H' Q s.i fun H2 s2 => k H2 (s.trans s2))
  | false => exact iteF (k H' s)
theorem ew_or {t u : Bool} (ha : ET X a σ G t) (hb : t = false → EW X (.BoolOp .Or (b :: es) pos) σ G u) : EW X (.BoolOp .Or (a :: b :: es) pos) σ G (t || u) := fun H Q e k => by
  refine ⟨_, pw_or (pt_self a) (pw_self _), ha H _ e fun H' s => ?_⟩
  cases t with
  | true => exact iteT (k H' s)
  | false => exact iteF (hb rfl H' Q s.i fun H2 s2 => k H2 (s.trans s2))
theorem et_and {t u : Bool} (ha : ET X a σ G t) (hb : t = true → ET X b σ G u) : ET X (.BoolOp .And [a, b] pos) σ G (t && u) := (ew_and ha fun z => ew_and1 (hb z)).t
theorem et_or {t u : Bool} (ha : ET X a σ G t) (hb : t = false → ET X b σ G u) : ET X (.BoolOp .Or [a, b] pos) σ G (t || u) := (ew_or ha fun z => ew_or1 (hb z)).t
/-! and, or, not as values (truths) -/
theorem ed_and1 {d : PyData} {op} (h : ED X a σ G d) : ED X (.BoolOp op [a] pos) σ G d := fun H Q e k => ⟨_, pe_one (pe_self a), h H Q e k⟩
theorem ed_and {t : Bool} {u : Bool} (ha : ED X a σ G (.bool t)) (hb : t = true → ED X (.BoolOp .And (b :: es) pos) σ G (.bool u)) : ED X (.BoolOp .And (a :: b :: es) pos) σ G (.bool (t && u)) := fun H Q e k => by
  refine ⟨_, pe_and (pe_self a) (pe_self _), ha H _ e fun v G1 H1 s r => ⟨t, r.bl_eq, ?_⟩⟩
  cases t with
  | true => exact iteT ((hb rfl).mono s.g H1 Q s.i fun v G2 H2 s2 r2 => k v G2 H2 (s.trans s2) r2)
  | false => exact iteF (k _ G1 H1 s (.bl false))
theorem ed_or {t : Bool} {u : Bool} (ha : ED X a σ G (.bool t)) (hb : t = false → ED X (.BoolOp .Or (b :: es) pos) σ G (.bool u)) : ED X (.BoolOp .Or (a :: b :: es) pos) σ G (.bool (t || u)) := fun H Q e k => by
  refine ⟨_, pe_or (pe_self a) (pe_self _), ha H _ e fun v G1 H1 s r => ⟨t, r.bl_eq, ?_⟩⟩
  cases t with
  | true => exact iteT (k _ G1 H1 s (.bl true))
  | false => exact iteF ((hb rfl).mono s.g H1 Q s.i fun v G2 H2 s2 r2 => k v G2 H2 (s.trans s2) r2)
theorem ed_not {t : Bool} (ha : ED X a σ G (.bool t)) : ED X (.UnaryOp .Not a pos) σ G (.bool (!t)) := fun H Q e k => 
  ⟨_, pe_not (pe_self a), ha H _ e fun v G1 H1 s r => ⟨t, r.bl_eq, k _ G1 H1 s (.bl _)⟩⟩
theorem ee_if {t : Bool} [MonoR R] (hc : ET X c σ G t) (ha : t = true → EE X a σ G R) (hb : t = false → EE X b σ G R) : EE X (.IfExp c a b pos) σ G R := fun H Q e k => by
  refine ⟨_, pe_ifExp (pt_self c) (pe_self a) (pe_self b), hc H _ e fun H1 s => ?_⟩
  cases t with
  | true => exact iteT (ha rfl H1 Q s.i fun v G2 H2 s2 r2 => k v G2 H2 (s.trans s2) r2)
  | false => exact iteF (hb rfl H1 Q s.i fun v G2 H2 s2 r2 => k v G2 H2 (s.trans s2) r2)
/-! arguments -/
class MonoA (R : List V → Hp → Prop) : Prop where
  mono : ∀ v G G', Ex G G' → R v G → R v G'
def ANil : List V → Hp → Prop := fun vs _ => vs = []
def ACons (R : V → Hp → Prop) (Rs : List V → Hp → Prop) : List V → Hp → Prop := fun vs G => ∃ v r, vs = v :: r ∧ R v G ∧ Rs r G
instance : MonoA ANil := ⟨fun _ _ _ _ h => h⟩
instance (R : V → Hp → Prop) (Rs : List V → Hp → Prop) [m : MonoR R] [n : MonoA Rs] : MonoA (ACons R Rs) := ⟨fun _ _ _ e ⟨v, r, h1, h2, h3⟩ => ⟨v, r, h1, m.mono _ _ _ e h2, n.mono _ _ _ e h3⟩⟩
theorem EA.mono {Rs : List V → Hp → Prop} [m : MonoA Rs] (h : EA X es σ G Rs) (eg : Ex G G1) : EA X es σ G1 Rs := fun H Q e1 k => by
  refine h H Q (eg.trans e1) fun v G' H' s r => ?_
  obtain ⟨s2, e2⟩ := s.lift e1 eg
  exact k v _ H' s2 (m.mono _ _ _ e2 r)
theorem ea_nil : EA X [] σ G ANil := fun H Q e k => ⟨_, pa_nil, k [] G H (Stp.refl e) rfl⟩
theorem ea_cons {Rs : List V → Hp → Prop} [m : MonoR R] [MonoA Rs] (h : EE X e σ G R) (hr : EA X es σ G Rs) (hs : starEach (e :: es) X.env = (false, eval e X.env) :: starEach es X.env := by rfl) : EA X (e :: es) σ G (ACons R Rs) := fun H Q e1 k =>
  ⟨_, pa_cons (pe_self e) (pa_self es) hs, h H _ e1 fun v G1 H1 s1 r1 => hr.mono s1.g H1 _ s1.i fun vs G2 H2 s2 r2 => k (v :: vs) G2 H2 (s1.trans s2) ⟨v, vs, rfl, m.mono _ _ _ s2.g r1, r2⟩⟩
end
end PG

/-! part P3 -/
set_option Elab.async false
set_option linter.all false
set_option maxRecDepth 100000
set_option maxHeartbeats 4000000
/-! PG, part 3: calls, displays, subscripts, fields. -/
namespace PG
open PySem PySem.Spec PyProof.Rows L2

theorem small {n : Nat} (h : n ≤ 100000) : n ≤ sizeLine := Nat.le_trans h (by decide)
theorem small' {n : Nat} (h : n < 100000) : n < sizeLine := Nat.lt_of_lt_of_le h (by decide)
theorem Stp.weak {G G1 H G2 H2 : Hp} (e : Ex G G1) (s : Stp [] G1 H G2 H2) : Stp [] G H G H2 :=
  ⟨Ex.refl _, (e.trans s.g).trans s.i, s.h, fun a o h h' => by rw [h] at h'; cases h'⟩
theorem Own.exU {G H : Hp} {p : Addr} {o : HO} (w : Own G H p o) (e : Ex G H) : Ex (L2.upd G p o) H := fun a u h => by
  by_cases q : a = p
  · subst q
    rw [upd_same] at h
    rw [w.h]
    exact h
  · rw [upd_ne q] at h
    exact e a u h
theorem Own.exG {G H : Hp} {p : Addr} {o : HO} (w : Own G H p o) : Ex G (L2.upd G p o) := Ex.new w.g

section
variable {X : Cx} {σ : L2.St} {G G1 H : Hp} {e a b c o : Expr} {es : List Expr} {R R' Ra Rb : V → Hp → Prop} {Rs : List V → Hp → Prop} {pos p apos : Pos}
/-! ### arguments as data -/
def AD (ds : List PyData) : List V → Hp → Prop := fun vs G => Paired (Rp G) vs ds
instance (ds : List PyData) : MonoA (AD ds) := ⟨fun v _ _ e h => Rp.monoAll e ds v h⟩
theorem ad_nil : EA X [] σ G (AD []) := fun H Q e k => ⟨_, pa_nil, k [] G H (Stp.refl e) .nil⟩
theorem ad_cons {d : PyData} {ds : List PyData} (h : ED X e σ G d) (hr : EA X es σ G (AD ds)) (hs : starEach (e :: es) X.env = (false, eval e X.env) :: starEach es X.env := by rfl) : EA X (e :: es) σ G (AD (d :: ds)) := fun H Q e1 k =>
  ⟨_, pa_cons (pe_self e) (pa_self es) hs, h H _ e1 fun v G1 H1 s1 r1 => hr.mono s1.g H1 _ s1.i fun vs G2 H2 s2 r2 => k (v :: vs) G2 H2 (s1.trans s2) (.cons (Rp.mono s2.g _ _ r1) r2)⟩
theorem AD.one {d : PyData} {vs : List V} (h : AD [d] vs G) : ∃ v, vs = [v] ∧ Rp G v d := by
  cases h with
  | cons r t => cases t; exact ⟨_, rfl, r⟩
theorem AD.two {d d' : PyData} {vs : List V} (h : AD [d, d'] vs G) : ∃ v v', vs = [v, v'] ∧ Rp G v d ∧ Rp G v' d' := by
  cases h with
  | cons r t =>
    cases t with
    | cons r' t => cases t; exact ⟨_, _, rfl, r, r'⟩
theorem ACons.one {vs : List V} (h : ACons R ANil vs G) : ∃ v, vs = [v] ∧ R v G := by
  obtain ⟨v, r, rfl, h1, rfl⟩ := h
  exact ⟨v, rfl, h1⟩
theorem ACons.two {vs : List V} (h : ACons R (ACons R' ANil) vs G) : ∃ v v', vs = [v, v'] ∧ R v G ∧ R' v' G := by
  obtain ⟨v, r, rfl, h1, v', r', rfl, h2, rfl⟩ := h
  exact ⟨v, v', rfl, h1, h2⟩

/-! ### displays -/
theorem ee_tup [MonoA Rs] (h : EA X es σ G Rs) (hl : es.length ≤ 1000) (hv : ∀ vs G', Rs vs G' → vs.length = es.length) {x1} (k : ∀ vs G' p, Ex G G' → Rs vs G' → G' p = none → R (.ref p) (upd G' p (.tup vs))) : EE X (.Tuple es x1 pos) σ G R := fun H Q e q =>
  ⟨_, pe_tup (pa_self es), h H _ e fun vs G1 H1 s1 r1 => ⟨small (by rw [hv _ _ r1]; omega), fun p hp => q _ _ _ (s1.trans (Stp.newP s1.i hp)) (k vs G1 p s1.g r1 (s1.i.none hp))⟩⟩
theorem AD.len {ds : List PyData} {vs : List V} (h : AD ds vs G) : vs.length = ds.length := Paired.length h
theorem ed_tup {ds : List PyData} (h : EA X es σ G (AD ds)) (hl : ds.length ≤ 1000 := by decide) {x1} : ED X (.Tuple es x1 pos) σ G (.tuple ds) := fun H Q e q =>
  ⟨_, pe_tup (pa_self es), h H _ e fun vs G1 H1 s1 r1 => ⟨small (by rw [r1.len]; omega), fun p hp => q _ _ _ (s1.trans (Stp.newP s1.i hp)) (.tup upd_same (Rp.monoAll (Ex.new (s1.i.none hp)) _ _ r1))⟩⟩
theorem ed_lst {ds : List PyData} (h : EA X es σ G (AD ds)) (hl : ds.length ≤ 1000 := by decide) : ED X (.List es pos) σ G (.list ds) := fun H Q e q =>
  ⟨_, pe_lst (pa_self es), h H _ e fun vs G1 H1 s1 r1 => ⟨small (by rw [r1.len]; omega), fun p hp => q _ _ _ (s1.trans (Stp.newP s1.i hp)) (.lst upd_same (Rp.monoAll (Ex.new (s1.i.none hp)) _ _ r1))⟩⟩

/-! ### subscripts -/
theorem paired_atI {α β : Type} {F : α → β → Prop} {xs : List α} {ys : List β} {i : Int} {y : β} (h : Paired F xs ys) (e : atI ys i = some y) : ∃ x, atI xs i = some x ∧ F x y := by
  unfold atI at e ⊢
  rw [Paired.length h]
  cases q : ixN ys.length i with
  | none => rw [q] at e; cases e
  | some j =>
    rw [q] at e
    exact Paired.get h e
theorem ed_ixL {ds : List PyData} {i : Int} {d : PyData} (ha : ED X a σ G (.list ds)) (hb : ED X b σ G (.int i)) (h : atI ds i = some d) (hs : PlainIx b := by intro _ _; rfl) : ED X (.Subscript a b pos) σ G d := fun H Q e k =>
  ⟨_, pe_ix ix_list (pe_self a) (pe_self b) hs, two ha hb e fun x y G' H' s rx ry => by
    obtain ⟨p, xs, rfl, h1, h2⟩ := rx.lst_eq
    obtain ⟨v, hv, rv⟩ := paired_atI h2 h
    exact ⟨p, xs, i, v, rfl, ry.int_eq, SqL.of (s.i _ _ h1), hv, k v G' H' s rv⟩⟩
theorem ed_ixT {ds : List PyData} {i : Int} {d : PyData} (ha : ED X a σ G (.tuple ds)) (hb : ED X b σ G (.int i)) (h : atI ds i = some d) (hs : PlainIx b := by intro _ _; rfl) : ED X (.Subscript a b pos) σ G d := fun H Q e k =>
  ⟨_, pe_ix ix_tup (pe_self a) (pe_self b) hs, two ha hb e fun x y G' H' s rx ry => by
    obtain ⟨p, xs, rfl, h1, h2⟩ := rx.tup_rd
    obtain ⟨v, hv, rv⟩ := paired_atI h2 h
    exact ⟨p, xs, i, v, rfl, ry.int_eq, sqT_rd (rdX s.i h1), hv, k v G' H' s rv⟩⟩
/-- an item of a list that stands at p, by its value -/
theorem ee_ixL {p : Addr} {xs : List V} {i : Int} {v : V} (ha : EE X a σ G (RV (.ref p))) (hp : G p = some (.lst xs)) (hb : ED X b σ G (.int i)) (h : atI xs i = some v) (r : R v G) [m : MonoR R] (hs : PlainIx b := by intro _ _; rfl) : EE X (.Subscript a b pos) σ G R := fun H Q e k =>
  ⟨_, pe_ix ix_list (pe_self a) (pe_self b) hs, two ha hb e fun x y G' H' s rx ry => ⟨p, xs, i, v, rx, ry.int_eq, SqL.of (s.i _ _ (s.g _ _ hp)), h, k v G' H' s (m.mono _ _ _ s.g r)⟩⟩
theorem ee_ixT {p : Addr} {xs : List V} {i : Int} {v : V} (ha : EE X a σ G (RV (.ref p))) (hp : G p = some (.tup xs)) (hb : ED X b σ G (.int i)) (h : atI xs i = some v) (r : R v G) [m : MonoR R] (hs : PlainIx b := by intro _ _; rfl) : EE X (.Subscript a b pos) σ G R := fun H Q e k =>
  ⟨_, pe_ix ix_tup (pe_self a) (pe_self b) hs, two ha hb e fun x y G' H' s rx ry => ⟨p, xs, i, v, rx, ry.int_eq, SqT.of (s.i _ _ (s.g _ _ hp)), h, k v G' H' s (m.mono _ _ _ s.g r)⟩⟩
/-- a sign of a text -/
theorem ed_ixS {z : Str} {i : Int} {c : Nat} (ha : ED X a σ G (.str z)) (hb : ED X b σ G (.int i)) (hz : z.length ≤ 100000) (h : atI z.cps.toList i = some c) (hs : PlainIx b := by intro _ _; rfl) : ED X (.Subscript a b pos) σ G (.str ⟨#[c]⟩) := fun H Q e k =>
  ⟨_, pe_ix ix_str (pe_self a) (pe_self b) hs, two ha hb e fun x y G' H' s rx ry => ⟨z, i, c, rx.str_eq, ry.int_eq, small hz, h, k _ G' H' s (.str _)⟩⟩
/-! dicts -/
/-- a dict at p with text and int keys -/
theorem ee_dgetK {k : Nat} {q : Addr} {kvs : List (Key × V)} {y : Key} {d : PyData} {v : V} (hr : Room k X.A) (ha : EE X a σ G (RV (.ref q))) (hp : G q = some (.dK kvs)) (hb : ED X b σ G d) (hd : ∀ v G', Rp G' v d → v = kV y) (h : valV kvs y = some v) (r : R v G) [m : MonoR R]
    (hs : NoSl b := by intro _ _; rfl) : EE X (.Subscript a b pos) σ G R := fun H Q e k =>
  ⟨_, pe_dget (hu_of hr) (pe_self a) (pe_self b) hs, two ha hb e fun x z G' H' s rx rz => ⟨q, v, rx, by rw [hd _ _ rz, ← h]; exact DGet.k (s.i _ _ (s.g _ _ hp)), k v G' H' s (m.mono _ _ _ s.g r)⟩⟩
/-- .. with tuple keys, asked by a tuple of ints -/
theorem ints_keys (ns : List Int) : ns.map V.int = (ns.map (Sum.inl : Int → Key)).map kV := by rw [List.map_map]; rfl
theorem ee_dgetT {k : Nat} {q : Addr} {kvs : List (List Key × V)} {ns : List Int} {v : V} (hne : ns ≠ []) (hr : Room k X.A) (ha : EE X a σ G (RV (.ref q))) (hp : G q = some (.dT kvs)) (hb : ED X b σ G (tI ns)) (h : valV kvs (ns.map Sum.inl) = some v) (r : R v G) [m : MonoR R]
    (hs : NoSl b := by intro _ _; rfl) : EE X (.Subscript a b pos) σ G R := fun H Q e k =>
  ⟨_, pe_dget (hu_of hr) (pe_self a) (pe_self b) hs, two ha hb e fun x z G' H' s rx rz => by
    obtain ⟨t, rfl, ht⟩ := rz.tI_eq hne
    rw [ints_keys] at ht
    refine ⟨q, v, rx, ?_, k v G' H' s (m.mono _ _ _ s.g r)⟩
    rw [← h]
    exact DGet.t (s.i _ _ (s.g _ _ hp)) (s.i _ _ ht)⟩
theorem et_inK {k : Nat} {q : Addr} {kvs : List (Key × V)} {y : Key} {d : PyData} (hr : Room k X.A) (ha : ED X a σ G d) (hb : EE X b σ G (RV (.ref q))) (hp : G q = some (.dK kvs)) (hd : ∀ v G', Rp G' v d → v = kV y) (hmk : behindInMarks .In b = false := by rfl) : ET X (.Compare a [.In] [b] pos) σ G (valV kvs y).isSome := fun H Q e k =>
  ⟨_, pt_cmp (pc_din (hu_of hr) (pe_self a) (pe_self b)) hmk, two ha hb e fun z x G' H' s rz rx => ⟨q, valV kvs y, rx, by rw [hd _ _ rz]; exact DGet.k (s.i _ _ (s.g _ _ hp)), _, rfl, k H' s.keepG⟩⟩
theorem et_notInK {k : Nat} {q : Addr} {kvs : List (Key × V)} {y : Key} {d : PyData} (hr : Room k X.A) (ha : ED X a σ G d) (hb : EE X b σ G (RV (.ref q))) (hp : G q = some (.dK kvs)) (hd : ∀ v G', Rp G' v d → v = kV y) (hmk : behindInMarks .NotIn b = false := by rfl) : ET X (.Compare a [.NotIn] [b] pos) σ G (!(valV kvs y).isSome) := fun H Q e k =>
  ⟨_, pt_cmp (pc_dnotin (hu_of hr) (pe_self a) (pe_self b)) hmk, two ha hb e fun z x G' H' s rz rx => ⟨q, valV kvs y, rx, by rw [hd _ _ rz]; exact DGet.k (s.i _ _ (s.g _ _ hp)), _, rfl, k H' s.keepG⟩⟩
theorem ed_notInK {k : Nat} {q : Addr} {kvs : List (Key × V)} {y : Key} {d : PyData} (hr : Room k X.A) (ha : ED X a σ G d) (hb : EE X b σ G (RV (.ref q))) (hp : G q = some (.dK kvs)) (hd : ∀ v G', Rp G' v d → v = kV y) (hmk : behindInMarks .NotIn b = false := by rfl) : ED X (.Compare a [.NotIn] [b] pos) σ G (.bool (!(valV kvs y).isSome)) := fun H Q e k =>
  ⟨_, pe_cmp (pc_dnotin (hu_of hr) (pe_self a) (pe_self b)) hmk, two ha hb e fun z x G' H' s rz rx => ⟨q, valV kvs y, rx, by rw [hd _ _ rz]; exact DGet.k (s.i _ _ (s.g _ _ hp)), k _ G' H' s (.bl _)⟩⟩
theorem et_inT {k : Nat} {q : Addr} {kvs : List (List Key × V)} {ns : List Int} (hne : ns ≠ []) (hr : Room k X.A) (ha : ED X a σ G (tI ns)) (hb : EE X b σ G (RV (.ref q))) (hp : G q = some (.dT kvs)) (hmk : behindInMarks .In b = false := by rfl) : ET X (.Compare a [.In] [b] pos) σ G (valV kvs (ns.map Sum.inl)).isSome := fun H Q e k =>
  ⟨_, pt_cmp (pc_din (hu_of hr) (pe_self a) (pe_self b)) hmk, two ha hb e fun z x G' H' s rz rx => by
    obtain ⟨t, rfl, ht⟩ := rz.tI_eq hne
    rw [ints_keys] at ht
    exact ⟨q, _, rx, DGet.t (s.i _ _ (s.g _ _ hp)) (s.i _ _ ht), _, rfl, k H' s.keepG⟩⟩
theorem et_notInT {k : Nat} {q : Addr} {kvs : List (List Key × V)} {ns : List Int} (hne : ns ≠ []) (hr : Room k X.A) (ha : ED X a σ G (tI ns)) (hb : EE X b σ G (RV (.ref q))) (hp : G q = some (.dT kvs)) (hmk : behindInMarks .NotIn b = false := by rfl) : ET X (.Compare a [.NotIn] [b] pos) σ G (!(valV kvs (ns.map Sum.inl)).isSome) := fun H Q e k =>
  ⟨_, pt_cmp (pc_dnotin (hu_of hr) (pe_self a) (pe_self b)) hmk, two ha hb e fun z x G' H' s rz rx => by
    obtain ⟨t, rfl, ht⟩ := rz.tI_eq hne
    rw [ints_keys] at ht
    exact ⟨q, _, rx, DGet.t (s.i _ _ (s.g _ _ hp)) (s.i _ _ ht), _, rfl, k H' s.keepG⟩⟩

/-! ### fields -/
theorem ee_fld {q C dx : Addr} {fs : List (Str × V)} {f : Str} {v : V} (ha : EE X a σ G (RV (.ref q))) (hq : G q = some (.ins C dx fs)) (hc : Cls X.K C) (hn : NoAttr X.K C f) (hl : fs.lookup f = some v) (r : R v G) [m : MonoR R]
    (hb : attributeBase a f X.env (eval a X.env) = eval a X.env := by rfl) : EE X (.Attribute a f pos) σ G R := fun H Q e k =>
  ⟨_, pe_fld (pe_self a) hb, ha H _ e fun x G' H' s rx => ⟨q, C, dx, fs, v, rx, s.i _ _ (s.g _ _ hq), hc, hn, hl, k v G' H' s (m.mono _ _ _ s.g r)⟩⟩

/-! ### calls of the text's own -/
/-- the promise of a def that changes nothing -/
def Pur (pre : List V → Hp → (V → Hp → Prop) → Prop) : Sp := fun vs H Q _ => ∃ G R, Ex G H ∧ pre vs G R ∧ ∀ v G' H', Stp [] G H G' H' → R v G' → Q v H'
theorem ee_call {k j : Nat} {x : Str} {pre : List V → Hp → (V → Hp → Prop) → Prop} {dvs : List V} (c : C8.Cal X.prog X.w X.K X.mg X.base k x (Pur pre) dvs) (hr : Room j X.A) (hk : k ≤ j) (hg : Gl X x) (ha : EA X (e :: es) σ G Rs)
    (hp : ∀ vs G', Ex G G' → Rs vs G' → pre (vs ++ dvs) G' R) (hdb : (x == ("__debug__" : Str)) = false := by decide) (he : starEach (e :: es) X.env = (false, eval e X.env) :: starEach es X.env := by rfl) (hpl : (backTo pos (starEach es X.env)).any (·.1) = false := by rfl) :
    EE X (.Call (.Name x p) (e :: es) [] pos) σ G R := fun H Q ex q =>
  ⟨_, C8.pe_c c hr hk hg (pa_self _) hdb he hpl, ha H _ ex fun vs G1 H1 s1 r1 => ⟨G1, R, s1.i, hp vs G1 s1.g r1, fun v G2 H2 s2 r2 => q v G2 H2 (s1.trans s2) r2⟩⟩
theorem ee_meth {k j : Nat} {C q dx : Addr} {fs : List (Str × V)} {m : Str} {pre : List V → Hp → (V → Hp → Prop) → Prop} {dvs : List V} {pl : Sem Bool} (c : C8.Met X.prog X.w X.K X.mg X.base k C m (Pur pre) dvs) (hr : Room j X.A) (hk : k ≤ j)
    (ho : EE X o σ G (RV (.ref q))) (hq : G q = some (.ins C dx fs)) (hl : fs.lookup m = none) [MonoA Rs] (ha : EA X (e :: es) σ G Rs) (hp : ∀ vs G', Ex G G' → Rs vs G' → pre (.ref q :: (vs ++ dvs)) G' R)
    (hst : starEach (e :: es) X.env = (false, eval e X.env) :: starEach es X.env := by rfl) (hpl : (backTo pos (starEach es X.env)).any (·.1) = false := by rfl)
    (ht : eval (.Call (.Attribute o m apos) (e :: es) [] pos) X.env = (do
      let ov ← eval o X.env
      standAt apos.atName
      let (f, first) ← holding [ov] (getMethod ov m pl)
      callWith pos f first (backTo pos (starEach (e :: es) X.env)) (backToKw pos (keywordEach [] X.env))) := by rfl) :
    EE X (.Call (.Attribute o m apos) (e :: es) [] pos) σ G R := fun H Q ex qq =>
  ⟨_, C8.pe_mt c hr hk (pe_self o) (pa_self _) hst hpl ht, ho H _ ex fun x G1 H1 s1 r1 => ⟨q, dx, fs, r1, s1.i _ _ (s1.g _ _ hq), hl, ha.mono s1.g H1 _ s1.i fun vs G2 H2 s2 r2 => by
    rw [show x = .ref q from r1]
    exact ⟨G2, R, s2.i, hp vs G2 (s1.g.trans s2.g) r2, fun v G3 H3 s3 r3 => qq v G3 H3 ((s1.trans s2).trans s3) r3⟩⟩⟩
theorem ee_meth0 {k j : Nat} {C q dx : Addr} {fs : List (Str × V)} {m : Str} {pre : List V → Hp → (V → Hp → Prop) → Prop} {dvs : List V} {pl : Sem Bool} (c : C8.Met X.prog X.w X.K X.mg X.base k C m (Pur pre) dvs) (hr : Room j X.A) (hk : k ≤ j)
    (ho : EE X o σ G (RV (.ref q))) (hq : G q = some (.ins C dx fs)) (hl : fs.lookup m = none) (hp : ∀ G', Ex G G' → pre (.ref q :: ([] ++ dvs)) G' R)
    (ht : eval (.Call (.Attribute o m apos) [] [] pos) X.env = (do
      let ov ← eval o X.env
      standAt apos.atName
      let (f, first) ← holding [ov] (getMethod ov m pl)
      callWith pos f first (backTo pos (starEach [] X.env)) (backToKw pos (keywordEach [] X.env))) := by rfl) :
    EE X (.Call (.Attribute o m apos) [] [] pos) σ G R := fun H Q ex qq =>
  ⟨_, C8.pe_mt0 c hr hk (pe_self o) ht, ho H _ ex fun x G1 H1 s1 r1 => ⟨q, dx, fs, r1, s1.i _ _ (s1.g _ _ hq), hl, by
    rw [show x = .ref q from r1]
    exact ⟨G1, R, s1.i, hp G1 s1.g, fun v G3 H3 s3 r3 => qq v G3 H3 (s1.trans s3) r3⟩⟩⟩

/-! ### built-in calls -/
def RC (r : List V → Hp → VK → Prop) (vs : List V) (G : Hp) (R : V → Hp → Prop) : Prop := ∀ (H : Hp) (Q : VK), Ex G H → (∀ v G' H', Stp [] G H G' H' → R v G' → Q v H') → r vs H Q
theorem RC.val {r : List V → Hp → VK → Prop} {vs : List V} {v : V} (h : ∀ (H : Hp) (Q : VK), Ex G H → Q v H → r vs H Q) (q : R v G) : RC r vs G R := fun H Q e k => h H Q e (k v G H (Stp.refl e) q)
theorem ee_cb {id : String} {x : Str} {r : List V → Hp → VK → Prop} (hc : CallR X (.builtin id) r) (hm : X.mg x = none) (hv : bootBuiltins x = some (.builtin id)) (ha : EA X (e :: es) σ G Rs) (h : ∀ vs G', Ex G G' → Rs vs G' → RC r vs G' R) (hg : Gl X x := by rfl)
    (hn : x ≠ "__name__" := by decide) (hdb : (x == ("__debug__" : Str)) = false := by decide) (he : starEach (e :: es) X.env = (false, eval e X.env) :: starEach es X.env := by rfl) (hpl : (backTo pos (starEach es X.env)).any (·.1) = false := by rfl) :
    EE X (.Call (.Name x p) (e :: es) [] pos) σ G R := fun H Q ex q =>
  ⟨_, pe_callB hc hg hm hv (pa_self _) hn hdb he hpl, ha H _ ex fun vs G1 H1 s1 r1 => h vs G1 s1.g r1 H1 Q s1.i fun v G2 H2 s2 r2 => q v G2 H2 (s1.trans s2) r2⟩
theorem ee_cty {T : String} {x : Str} {r : List V → Hp → VK → Prop} (hc : CallR X (.type T) r) (hm : X.mg x = none) (hv : bootBuiltins x = some (.type T)) (ha : EA X (e :: es) σ G Rs) (h : ∀ vs G', Ex G G' → Rs vs G' → RC r vs G' R) (hg : Gl X x := by rfl)
    (hn : x ≠ "__name__" := by decide) (hdb : (x == ("__debug__" : Str)) = false := by decide) (he : starEach (e :: es) X.env = (false, eval e X.env) :: starEach es X.env := by rfl) (hpl : (backTo pos (starEach es X.env)).any (·.1) = false := by rfl) :
    EE X (.Call (.Name x p) (e :: es) [] pos) σ G R := fun H Q ex q =>
  ⟨_, pe_callTy hc hg hm hv (pa_self _) hn hdb he hpl, ha H _ ex fun vs G1 H1 s1 r1 => h vs G1 s1.g r1 H1 Q s1.i fun v G2 H2 s2 r2 => q v G2 H2 (s1.trans s2) r2⟩
end
end PG

/-! part P4 -/
set_option Elab.async false
set_option linter.all false
set_option maxRecDepth 100000
set_option maxHeartbeats 4000000
/-! PG, part 4: built-ins, statements, loops, comprehensions. -/
namespace PG
open PySem PySem.Spec PyProof.Rows L2

section
variable {X : Cx} {σ σ' : L2.St} {G G1 H : Hp} {e a b c o l : Expr} {es : List Expr} {R R' Ra Rb : V → Hp → Prop} {Rs : List V → Hp → Prop} {pos p apos : Pos}
/-! ### built-ins over data -/
theorem ea1 (h : EE X e σ G R) [MonoR R] (hs : starEach [e] X.env = (false, eval e X.env) :: starEach [] X.env := by rfl) : EA X [e] σ G (ACons R ANil) := ea_cons h ea_nil hs
theorem ed_lenL {ds : List PyData} (ha : ED X a σ G (.list ds)) (hm : X.mg "len" = none) (hg : Gl X "len" := by rfl) (he : starEach [a] X.env = (false, eval a X.env) :: starEach [] X.env := by rfl) : ED X (.Call (.Name "len" p) [a] [] pos) σ G (.int ds.length) :=
  ee_cb call_len_seq hm boot_len (ea1 ha he) (fun vs G' _ r0 => by
    obtain ⟨v, rfl, r⟩ := ACons.one r0
    obtain ⟨q, xs, rfl, h1, h2⟩ := Rp.lst_eq r
    exact .val (v := .int ds.length) (fun H Q e q => ⟨_, xs, rfl, .inl (SqL.of (e _ _ h1)), by rw [Paired.length h2]; exact q⟩) (.int _)) hg (he := he)
theorem ed_lenT {ds : List PyData} (ha : ED X a σ G (.tuple ds)) (hm : X.mg "len" = none) (hg : Gl X "len" := by rfl) (he : starEach [a] X.env = (false, eval a X.env) :: starEach [] X.env := by rfl) : ED X (.Call (.Name "len" p) [a] [] pos) σ G (.int ds.length) :=
  ee_cb call_len_seq hm boot_len (ea1 ha he) (fun vs G' _ r0 => by
    obtain ⟨v, rfl, r⟩ := ACons.one r0
    obtain ⟨q, xs, rfl, h1, h2⟩ := Rp.tup_rd r
    exact .val (v := .int ds.length) (fun H Q e q => ⟨_, xs, rfl, .inr (sqT_rd (rdX e h1)), by rw [Paired.length h2]; exact q⟩) (.int _)) hg (he := he)
theorem ed_lenS {z : Str} (ha : ED X a σ G (.str z)) (hz : z.length ≤ 100000) (hm : X.mg "len" = none) (hg : Gl X "len" := by rfl) (he : starEach [a] X.env = (false, eval a X.env) :: starEach [] X.env := by rfl) : ED X (.Call (.Name "len" p) [a] [] pos) σ G (.int z.length) :=
  ee_cb call_len_str hm boot_len (ea1 ha he) (fun vs G' _ r0 => by
    obtain ⟨v, rfl, r⟩ := ACons.one r0
    rw [Rp.str_eq r]
    exact .val (v := .int z.length) (fun H Q e q => ⟨_, rfl, small hz, q⟩) (.int _)) hg (he := he)
theorem ed_lenV {q : Addr} {xs : List V} (ha : EE X a σ G (RV (.ref q))) (hq : G q = some (.lst xs)) (hm : X.mg "len" = none) (hg : Gl X "len" := by rfl) (he : starEach [a] X.env = (false, eval a X.env) :: starEach [] X.env := by rfl) : ED X (.Call (.Name "len" p) [a] [] pos) σ G (.int xs.length) :=
  ee_cb call_len_seq hm boot_len (ea1 ha he) (fun vs G' eg r0 => by
    obtain ⟨v, rfl, r⟩ := ACons.one r0
    rw [show v = .ref q from r]
    exact .val (v := .int xs.length) (fun H Q e k => ⟨_, xs, rfl, .inl (SqL.of (e _ _ (eg _ _ hq))), k⟩) (.int _)) hg (he := he)
/-- the type's name of data -/
def tyD : PyData → String
  | .none => "NoneType"
  | .bool _ => "bool"
  | .int _ => "int"
  | .str _ => "str"
  | .list _ => "list"
  | .tuple _ => "tuple"
  | .dict _ => "dict"
theorem tyD_of {K : PySem.W.Frag} {G : Hp} {d : PyData} {v : V} (h : Rp G v d) : TyX K G v (.type (tyD d)) := by
  cases h with
  | non => exact .base .non
  | bl b => exact .base (.bl b)
  | int i => exact .base (.int i)
  | str x => exact .base (.str x)
  | lst h1 _ => exact .base (.lst h1)
  | tup h1 _ => exact .base (.tup h1)
  | prt h1 _ _ => exact .fTuple h1
theorem ed_bltn {x : Str} {v : V} {u : Value} (hm : X.mg x = none) (hv : bootBuiltins x = some u) (r : RelV v u) (hg : Gl X x := by rfl) (hn : x ≠ "__name__" := by decide) (hd : (x == ("__debug__" : Str)) = false := by decide) : EE X (.Name x pos) σ G (RV v) := fun H Q e k =>
  ⟨_, pe_bltn hg hm hv r hn hd, k v G H (Stp.refl e) rfl⟩
theorem ed_isi {d : PyData} {n : Str} {T : String} {r : Bool} (ha : ED X a σ G d) (hmT : X.mg n = none) (hvT : bootBuiltins n = some (.type T)) (hk : kitB (tyD d) T = some r) (hm : X.mg "isinstance" = none) (hgT : Gl X n := by rfl) (hg : Gl X "isinstance" := by rfl)
    (hnT : n ≠ "__name__" := by decide) (hdT : (n == ("__debug__" : Str)) = false := by decide)
    (he : starEach [a, .Name n p] X.env = (false, eval a X.env) :: starEach [.Name n p] X.env := by rfl) (he2 : starEach [.Name n p] X.env = (false, eval (.Name n p) X.env) :: starEach [] X.env := by rfl) (hpl : (backTo pos (starEach [.Name n p] X.env)).any (·.1) = false := by rfl) {p2 : Pos} : ED X (.Call (.Name "isinstance" p2) [a, .Name n p] [] pos) σ G (.bool r) :=
  ee_cb call_isi hm (by decide +kernel) (ea_cons ha (ea1 (ed_bltn (v := .ty T) hmT hvT rfl hgT hnT hdT) he2) he) (fun vs G' eg q => by
    obtain ⟨v, v', rfl, r1, r2⟩ := ACons.two q
    rw [show v' = .ty T from r2]
    exact .val (v := .bl r) (fun H Q e k => ⟨v, .ty T, .type (tyD d), .type T, r, rfl, .ty T, tyD_of (Rp.mono e _ _ r1), kit_ty hk, k⟩) (.bl r)) hg (he := he) (hpl := hpl)
theorem ed_listL {ds : List PyData} (ha : ED X a σ G (.list ds)) (hm : X.mg "list" = none) (hg : Gl X "list" := by rfl) (he : starEach [a] X.env = (false, eval a X.env) :: starEach [] X.env := by rfl) : ED X (.Call (.Name "list" p) [a] [] pos) σ G (.list ds) :=
  ee_cty call_list_of hm (by decide +kernel) (ea1 ha he) (fun vs G' _ r0 => by
    obtain ⟨v, rfl, r⟩ := ACons.one r0
    obtain ⟨q, xs, rfl, h1, h2⟩ := Rp.lst_eq r
    exact fun H Q e k => ⟨_, xs, rfl, .inl (SqL.of (e _ _ h1)), fun l hl => k _ _ _ (Stp.newP e hl) (.lst upd_same (Rp.monoAll (Ex.new (e.none hl)) _ _ h2))⟩) hg (he := he)
theorem ed_listT {ds : List PyData} (ha : ED X a σ G (.tuple ds)) (hm : X.mg "list" = none) (hg : Gl X "list" := by rfl) (he : starEach [a] X.env = (false, eval a X.env) :: starEach [] X.env := by rfl) : ED X (.Call (.Name "list" p) [a] [] pos) σ G (.list ds) :=
  ee_cty call_list_of hm (by decide +kernel) (ea1 ha he) (fun vs G' _ r0 => by
    obtain ⟨v, rfl, r⟩ := ACons.one r0
    obtain ⟨q, xs, rfl, h1, h2⟩ := Rp.tup_rd r
    exact fun H Q e k => ⟨_, xs, rfl, .inr (sqT_rd (rdX e h1)), fun l hl => k _ _ _ (Stp.newP e hl) (.lst upd_same (Rp.monoAll (Ex.new (e.none hl)) _ _ h2))⟩) hg (he := he)
theorem ed_tupL {ds : List PyData} (ha : ED X a σ G (.list ds)) (hm : X.mg "tuple" = none) (hg : Gl X "tuple" := by rfl) (he : starEach [a] X.env = (false, eval a X.env) :: starEach [] X.env := by rfl) : ED X (.Call (.Name "tuple" p) [a] [] pos) σ G (.tuple ds) :=
  ee_cty call_tuple_of hm (by decide +kernel) (ea1 ha he) (fun vs G' _ r0 => by
    obtain ⟨v, rfl, r⟩ := ACons.one r0
    obtain ⟨q, xs, rfl, h1, h2⟩ := Rp.lst_eq r
    exact fun H Q e k => ⟨_, xs, rfl, .inl ⟨SqL.of (e _ _ h1), fun l hl => k _ _ _ (Stp.newP e hl) (.tup upd_same (Rp.monoAll (Ex.new (e.none hl)) _ _ h2))⟩⟩) hg (he := he)
/-- all, any of a list of truths -/
theorem ed_all {bs : List Bool} (hc : X.calm = true) (ha : ED X a σ G (.list (bs.map .bool))) (hm : X.mg "all" = none) (hg : Gl X "all" := by rfl) (he : starEach [a] X.env = (false, eval a X.env) :: starEach [] X.env := by rfl) : ED X (.Call (.Name "all" p) [a] [] pos) σ G (.bool (bs.all id)) :=
  ee_cb (cr_all hc) hm (by decide +kernel) (ea1 ha he) (fun vs G' _ r0 => by
    obtain ⟨v, rfl, r⟩ := ACons.one r0
    obtain ⟨q, xs, rfl, h1, h2⟩ := Rp.lst_eq r
    rw [bls_paired h2] at h1
    exact .val (v := .bl (bs.all id)) (fun H Q e k => ⟨_, bs, rfl, SqL.of (e _ _ h1), k⟩) (.bl _)) hg (he := he)
theorem ed_any {bs : List Bool} (hc : X.calm = true) (ha : ED X a σ G (.list (bs.map .bool))) (hm : X.mg "any" = none) (hg : Gl X "any" := by rfl) (he : starEach [a] X.env = (false, eval a X.env) :: starEach [] X.env := by rfl) : ED X (.Call (.Name "any" p) [a] [] pos) σ G (.bool (bs.any id)) :=
  ee_cb (cr_any hc) hm (by decide +kernel) (ea1 ha he) (fun vs G' _ r0 => by
    obtain ⟨v, rfl, r⟩ := ACons.one r0
    obtain ⟨q, xs, rfl, h1, h2⟩ := Rp.lst_eq r
    rw [bls_paired h2] at h1
    exact .val (v := .bl (bs.any id)) (fun H Q e k => ⟨_, bs, rfl, SqL.of (e _ _ h1), k⟩) (.bl _)) hg (he := he)
theorem ed_sum {ns : List Int} (hc : X.calm = true) (ha : ED X a σ G (.list (ns.map .int))) (hm : X.mg "sum" = none) (hg : Gl X "sum" := by rfl) (he : starEach [a] X.env = (false, eval a X.env) :: starEach [] X.env := by rfl) : ED X (.Call (.Name "sum" p) [a] [] pos) σ G (.int ns.sum) :=
  ee_cb (cr_sum hc) hm (by decide +kernel) (ea1 ha he) (fun vs G' _ r0 => by
    obtain ⟨v, rfl, r⟩ := ACons.one r0
    obtain ⟨q, rfl, h1⟩ := Rp.lI_eq r
    exact .val (v := .int ns.sum) (fun H Q e k => ⟨_, ns, rfl, SqL.of (e _ _ h1), k⟩) (.int _)) hg (he := he)
theorem ed_max {ns : List Int} {m : Int} (hc : X.calm = true) (ha : ED X a σ G (.list (ns.map .int))) (h1 : m ∈ ns) (h2 : ∀ y ∈ ns, y ≤ m) (hm : X.mg "max" = none) (hg : Gl X "max" := by rfl) (he : starEach [a] X.env = (false, eval a X.env) :: starEach [] X.env := by rfl) : ED X (.Call (.Name "max" p) [a] [] pos) σ G (.int m) :=
  ee_cb (cr_max hc) hm (by decide +kernel) (ea1 ha he) (fun vs G' _ r0 => by
    obtain ⟨v, rfl, r⟩ := ACons.one r0
    obtain ⟨q, rfl, hq⟩ := Rp.lI_eq r
    exact .val (v := .int m) (fun H Q e k => ⟨_, ns, rfl, SqL.of (e _ _ hq), List.length_pos_of_mem h1, fun m' h1' h2' => by
      have e1 := h2 m' h1'
      have e2 := h2' m h1
      rw [show m' = m by omega]
      exact k⟩) (.int _)) hg (he := he)
theorem ed_max2 {i j : Int} (hc : X.calm = true) (ha : ED X a σ G (.int i)) (hb : ED X b σ G (.int j)) (hm : X.mg "max" = none) (hg : Gl X "max" := by rfl) (he : starEach [a, b] X.env = (false, eval a X.env) :: starEach [b] X.env := by rfl) (he2 : starEach [b] X.env = (false, eval b X.env) :: starEach [] X.env := by rfl)
    (hpl : (backTo pos (starEach [b] X.env)).any (·.1) = false := by rfl) : ED X (.Call (.Name "max" p) [a, b] [] pos) σ G (.int (if j > i then j else i)) :=
  ee_cb (call_max2 hc) hm (by decide +kernel) (ea_cons ha (ea1 hb he2) he) (fun vs G' _ r0 => by
    obtain ⟨v, v', rfl, r1, r2⟩ := ACons.two r0
    rw [Rp.int_eq r1, Rp.int_eq r2]
    exact .val (fun H Q e k => ⟨_, _, rfl, k⟩) (.int _)) hg (he := he) (hpl := hpl)
theorem ed_intB {t : Bool} (ha : ED X a σ G (.bool t)) (hm : X.mg "int" = none) (hg : Gl X "int" := by rfl) (he : starEach [a] X.env = (false, eval a X.env) :: starEach [] X.env := by rfl) : ED X (.Call (.Name "int" p) [a] [] pos) σ G (.int (if t then 1 else 0)) :=
  ee_cty call_int1 hm (by decide +kernel) (ea1 ha he) (fun vs G' _ r0 => by
    obtain ⟨v, rfl, r⟩ := ACons.one r0
    rw [Rp.bl_eq r]
    exact .val (fun H Q e k => .inr ⟨_, rfl, k⟩) (.int _)) hg (he := he)

/-! ### targets -/
theorem eg_name {i : Nat} {x : Str} {v : V} (hN : X.N.Nodup) (hi : X.N[i]? = some x := by rfl) (hx : Loc X.env.scope x := by first | exact Or.inl rfl | exact Or.inr rfl) (hf : X.fn x = true ∨ X.env.scope.names.lookup x = some .local := by first | exact .inl rfl | exact .inr rfl | assumption) :
    EG X (.Name x pos) v σ G (σ.set i (some v)) := fun H Q e k => ⟨_, pg_name hN hi hx hf, k H (Stp.refl e)⟩
/-- a, b = a tuple of two that stands -/
theorem eg_tup2 {x y : Expr} {q : Addr} {u v : V} {σ1 σ2 : L2.St} {k : Nat} (hc : X.calm = true) (hq : G q = some (.tup [u, v])) (h1 : EG X x u σ G σ1) (h2 : EG X y v σ1 G σ2)
    (hs1 : (assignEach [x, y] X.env).map (·.2) = assign x X.env :: (assignEach [y] X.env).map (·.2) := by rfl) (hs2 : (assignEach [y] X.env).map (·.2) = assign y X.env :: (assignEach [] X.env).map (·.2) := by rfl)
    (hn : (assignEach [x, y] X.env).length = 2 := by rfl) (hst : (assignEach [x, y] X.env).findIdx? (·.1) = none := by rfl) : EG X (.Tuple [x, y] k pos) (.ref q) σ G σ2 := fun H Q e k =>
  ⟨_, pg_tup hc (pgs_cons (pg_self x) (pgs_cons (pg_self y) pgs_nil hs2) hs1) hn hst, q, [u, v], rfl, SqT.of (e _ _ hq), rfl, u, [v], rfl, h1 H _ e fun H1 s1 => ⟨v, [], rfl, h2 H1 _ s1.i fun H2 s2 => ⟨rfl, k H2 (s1.trans s2)⟩⟩⟩
theorem EG.mono {tg : Expr} {v : V} (h : EG X tg v σ G σ') (eg : Ex G G1) : EG X tg v σ G1 σ' := fun H Q e1 k =>
  h H Q (eg.trans e1) fun H' s => k H' (s.lift e1 eg).1.keepG

/-! ### statements -/
variable {D : Ends} {rest A B : List Stmt} {st : Stmt}
theorem ws_cons (h : WS1 X st { D with nx := WS X rest D } σ H) : WS X (st :: rest) D σ H := by
  obtain ⟨t, p, q⟩ := h
  exact ⟨_, pss_cons p (pss_self rest), q⟩
theorem ws_nil (h : D.nx σ H) : WS X [] D σ H := ⟨_, pss_nil, h⟩
theorem ws_set {i : Nat} {x : Str} {pos' : Pos} (hN : X.N.Nodup) (he : EE X e σ G R) (ex : Ex G H) (k : ∀ v G' H', Stp [] G H G' H' → R v G' → WS X rest D (σ.set i (some v)) H') (hi : X.N[i]? = some x := by rfl) (hx : Loc X.env.scope x := by first | exact Or.inl rfl | exact Or.inr rfl)
    (hs : swapsWith e (some (.Name x pos')) pos.line X.env = pure false := by rfl) (hf : X.fn x = true ∨ X.env.scope.names.lookup x = some .local := by first | exact .inl rfl | exact .inr rfl | assumption) : WS X (.Assign [.Name x pos'] e pos :: rest) D σ H :=
  ws_cons ⟨_, ps_set hN hi hx (pe_self e) hs hf, he H _ ex k⟩
/-- target = e -/
theorem ws_asg {tg : Expr} (he : EE X e σ G R) (ex : Ex G H) (k : ∀ v G' H', Stp [] G H G' H' → R v G' → WG X tg v σ H' (WS X rest D)) (hs : swapsWithSole [tg] e pos.line X.env = pure false := by rfl) (hw : swappedStores [tg] e X.env = pure none := by rfl)
    (h1 : (assignEach [tg] X.env).map (·.2) = [assign tg X.env] := by rfl) : WS X (.Assign [tg] e pos :: rest) D σ H :=
  ws_cons ⟨_, ps_asg (pe_self e) (pg_self tg) hs hw h1, he H _ ex k⟩
theorem ws_if {t : Bool} (hc : ET X c σ G t) (ex : Ex G H) (k : ∀ H', Stp [] G H G H' → if t = true then WS X A { D with nx := WS X rest D } σ H' else WS X B { D with nx := WS X rest D } σ H') : WS X (.If c A B pos :: rest) D σ H :=
  ws_cons ⟨_, ps_if (pt_self c) (pss_self A) (pss_self B), hc H _ ex k⟩
theorem ws_ifF (hc : ET X c σ G false) (ex : Ex G H) (k : ∀ H', Stp [] G H G H' → WS X B { D with nx := WS X rest D } σ H') : WS X (.If c A B pos :: rest) D σ H := ws_if hc ex fun H' s => iteF (k H' s)
theorem ws_ifT (hc : ET X c σ G true) (ex : Ex G H) (k : ∀ H', Stp [] G H G H' → WS X A { D with nx := WS X rest D } σ H') : WS X (.If c A B pos :: rest) D σ H := ws_if hc ex fun H' s => iteT (k H' s)
/-- if test that does not hold, no else -/
theorem ws_skip (hc : ET X c σ G false) (ex : Ex G H) (k : ∀ H', Stp [] G H G H' → WS X rest D σ H') : WS X (.If c A [] pos :: rest) D σ H := ws_ifF hc ex fun H' s => ws_nil (k H' s)
theorem ws_ret (he : EE X e σ G R) (ex : Ex G H) (k : ∀ v G' H', Stp [] G H G' H' → R v G' → D.rt v H') : WS X (.Return (some e) pos :: rest) D σ H :=
  ws_cons ⟨_, ps_ret (pe_self e), he H _ ex k⟩
theorem ws_retN (k : D.rt .non H) : WS X (.Return none pos :: rest) D σ H := ws_cons ⟨_, ps_retN, k⟩
theorem ws_expr (he : EE X e σ G R) (ex : Ex G H) (k : ∀ v G' H', Stp [] G H G' H' → R v G' → WS X rest D σ H') (hs : swapsWith e none pos.line X.env = pure false := by rfl) : WS X (.Expr e pos :: rest) D σ H :=
  ws_cons ⟨_, ps_expr (pe_self e) hs, he H _ ex k⟩
/-- x += e, whole numbers -/
theorem ws_augI {i : Nat} {x : Str} {pos' : Pos} {n m : Int} (hN : X.N.Nodup) (hsi : σ[i]? = some (some (.int n))) (he : ED X e σ G (.int m)) (ex : Ex G H) (k : ∀ H', Stp [] G H G H' → WS X rest D (σ.set i (some (.int (n + m)))) H') (hi : X.N[i]? = some x := by rfl) (hx : Loc X.env.scope x := by first | exact Or.inl rfl | exact Or.inr rfl)
    (hf : X.fn x = true ∨ X.env.scope.names.lookup x = some .local := by first | exact .inl rfl | exact .inr rfl | assumption) : WS X (.AugAssign (.Name x pos') .Add e pos :: rest) D σ H :=
  ws_cons ⟨_, ps_aug hN hi hx (pe_self e) ip_add hf, _, hsi, he H _ ex fun v G' H' s r => ⟨n, m, rfl, r.int_eq, k H' s.keepG⟩⟩
/-- o.append(e), o a list that may be changed -/
theorem ws_append {q : Addr} {xs : List V} {cpos : Pos} {cm : Expr} (ho : EE X o σ G (RV (.ref q))) (w : Own G H q (.lst xs)) (hl : xs.length < 100000) [MonoR R] (he : EE X e σ G R) (ex : Ex G H)
    (k : ∀ v G' H', Stp [] G H G' H' → R v G' → Own G' H' q (.lst xs) → WS X rest D σ (L2.upd H' q (.lst (xs ++ [v])))) (hs : swapsWith (.Call (.Attribute o "append" apos) [e] [] cpos) none pos.line X.env = pure false := by rfl)
    (hst : starEach [e] X.env = (false, eval e X.env) :: starEach [] X.env := by rfl) (hE : PE X (.Call (.Attribute o "append" apos) [e] [] cpos) (tBM X.K "list" rAppend (WE X o) (tCons (WE X e) tNil)) := by
      exact pe_bm PySem.F.plainAttrs_list PySem.F.slot_list_append PySem.F.type_list_append mt_append (pe_self _) (pa_cons (pe_self _) pa_nil)) : WS X (.Expr (.Call (.Attribute o "append" apos) [e] [] cpos) pos :: rest) D σ H := by
  refine ws_cons ⟨_, ps_expr hE hs, ho H _ ex fun v G1 H1 s1 r1 => ?_⟩
  have w1 := w.step0 s1
  rw [show v = .ref q from r1]
  refine ⟨.inl ⟨rfl, _, SqL.of w1.h⟩, (he.mono s1.g) H1 _ s1.i fun y G2 H2 s2 r2 => ?_⟩
  have w2 := w1.step0 s2
  exact ⟨q, xs, y, rfl, rfl, w2.h, small' hl, k y G2 H2 (s1.trans s2) r2 w2⟩
/-- o[i] = e, o a list that may be changed -/
theorem ws_setL {q : Addr} {xs : List V} {i : Expr} {n : Int} {j : Nat} {pos' : Pos} (he : EE X e σ G R) [MonoR R] (ho : EE X o σ G (RV (.ref q))) (hi : ED X i σ G (.int n)) (w : Own G H q (.lst xs)) (hj : ixN xs.length n = some j) (ex : Ex G H)
    (k : ∀ v G' H', Stp [] G H G' H' → R v G' → Own G' H' q (.lst xs) → WS X rest D σ (L2.upd H' q (.lst (xs.set j v)))) (hs : swapsWithSole [.Subscript o i pos'] e pos.line X.env = pure false := by rfl) (hw : swappedStores [.Subscript o i pos'] e X.env = pure none := by rfl)
    (h1 : (assignEach [.Subscript o i pos'] X.env).map (·.2) = [assign (.Subscript o i pos') X.env] := by rfl)
    (ha : ∀ v, assign (.Subscript o i pos') X.env v = (do
      let ov ← holding [v] (eval o X.env)
      let iv ← holding [v, ov] (eval i X.env)
      standAt pos'
      holding [v, ov, iv] (setItem ov iv v)
      release [v, ov, iv] []) := by intro _; rfl) : WS X (.Assign [.Subscript o i pos'] e pos :: rest) D σ H := by
  refine ws_cons ⟨_, ps_asg (pe_self e) (pg_sub (pe_self o) (pe_self i) set_list ha) hs hw h1, he H _ ex fun v G1 H1 s1 r1 => ?_⟩
  refine (ho.mono s1.g) H1 _ s1.i fun x G2 H2 s2 r2 => (hi.mono (s1.g.trans s2.g)) H2 _ s2.i fun y G3 H3 s3 r3 => ?_
  have s := (s1.trans s2).trans s3
  have w3 := w.step0 s
  exact ⟨q, xs, n, j, r2, r3.int_eq, w3.h, hj, k v G3 H3 s (MonoR.mono _ _ _ (s2.g.trans s3.g) r1) w3⟩
/-- d[k] = e, text and int keys, a dict that may be changed -/
theorem ws_dputK {k : Nat} {q : Addr} {kvs : List (Key × V)} {i : Expr} {y : Key} {d : PyData} {pos' : Pos} (hr : Room k X.A) (he : EE X e σ G R) [MonoR R] (ho : EE X o σ G (RV (.ref q))) (hi : ED X i σ G d) (hd : ∀ v G', Rp G' v d → v = kV y) (w : Own G H q (.dK kvs)) (hl : kvs.length < 100000) (ex : Ex G H)
    (k : ∀ v G' H', Stp [] G H G' H' → R v G' → Own G' H' q (.dK kvs) → WS X rest D σ (L2.upd H' q (.dK (putK kvs y v)))) (hs : swapsWith e (some (.Subscript o i pos')) pos.line X.env = pure false := by rfl) : WS X (.Assign [.Subscript o i pos'] e pos :: rest) D σ H := by
  refine ws_cons ⟨_, ps_dput (hu_of hr) (pe_self o) (pe_self i) (pe_self e) hs, he H _ ex fun v G1 H1 s1 r1 => ?_⟩
  refine (ho.mono s1.g) H1 _ s1.i fun x G2 H2 s2 r2 => (hi.mono (s1.g.trans s2.g)) H2 _ s2.i fun z G3 H3 s3 r3 => ?_
  have s := (s1.trans s2).trans s3
  have w3 := w.step0 s
  rw [hd _ _ r3]
  exact ⟨q, _, r2, DPut.k w3.h (small' hl), k v G3 H3 s (MonoR.mono _ _ _ (s2.g.trans s3.g) r1) w3⟩
/-- .. tuple keys -/
theorem ws_dputT {k : Nat} {q : Addr} {kvs : List (List Key × V)} {i : Expr} {ns : List Int} {pos' : Pos} (hne : ns ≠ []) (hr : Room k X.A) (he : EE X e σ G R) [MonoR R] (ho : EE X o σ G (RV (.ref q))) (hi : ED X i σ G (tI ns)) (w : Own G H q (.dT kvs)) (hl : kvs.length < 100000) (ex : Ex G H)
    (k : ∀ v G' H', Stp [] G H G' H' → R v G' → Own G' H' q (.dT kvs) → WS X rest D σ (L2.upd H' q (.dT (putK kvs (ns.map Sum.inl) v)))) (hs : swapsWith e (some (.Subscript o i pos')) pos.line X.env = pure false := by rfl) : WS X (.Assign [.Subscript o i pos'] e pos :: rest) D σ H := by
  refine ws_cons ⟨_, ps_dput (hu_of hr) (pe_self o) (pe_self i) (pe_self e) hs, he H _ ex fun v G1 H1 s1 r1 => ?_⟩
  refine (ho.mono s1.g) H1 _ s1.i fun x G2 H2 s2 r2 => (hi.mono (s1.g.trans s2.g)) H2 _ s2.i fun z G3 H3 s3 r3 => ?_
  have s := (s1.trans s2).trans s3
  have w3 := w.step0 s
  obtain ⟨t, rfl, ht⟩ := Rp.tI_eq r3 hne
  rw [ints_keys] at ht
  exact ⟨q, _, r2, DPut.t w3.h (s.i _ _ ht) (small' hl), k v G3 H3 s (MonoR.mono _ _ _ (s2.g.trans s3.g) r1) w3⟩
/-- o.f = e, o an instance that may be changed -/
theorem ws_fld {q C dx : Addr} {fs : List (Str × V)} {f : Str} {pos' : Pos} (he : EE X e σ G R) [MonoR R] (ho : EE X o σ G (RV (.ref q))) (w : Own G H q (.ins C dx fs)) (hc : Cls X.K C) (hn : NoAttr X.K C f) (hl : fs.length < 1000) (ex : Ex G H)
    (k : ∀ v G' H', Stp [] G H G' H' → R v G' → Own G' H' q (.ins C dx fs) → WS X rest D σ (L2.upd H' q (.ins C dx (putF f v fs)))) (hs : swapsWith e (some (.Attribute o f pos')) pos.line X.env = pure false := by rfl) : WS X (.Assign [.Attribute o f pos'] e pos :: rest) D σ H := by
  refine ws_cons ⟨_, ps_fld (pe_self o) (pe_self e) hs, he H _ ex fun v G1 H1 s1 r1 => ?_⟩
  refine (ho.mono s1.g) H1 _ s1.i fun x G2 H2 s2 r2 => ?_
  have s := s1.trans s2
  have w3 := w.step0 s
  exact ⟨q, C, dx, fs, r2, w3.h, hc, hn, hl, k v G2 H2 s (MonoR.mono _ _ _ s2.g r1) w3⟩

/-! ### what a for walks -/
variable {tg : Expr}
def YV (xs : List V) : Nat → V → Hp → Prop := fun i v _ => xs[i]? = some v
def YD (ds : List PyData) : Nat → V → Hp → Prop := fun i v G => ∃ d, ds[i]? = some d ∧ Rp G v d
theorem isIt_list {K : PySem.W.Frag} {q : Addr} {xs : List V} (h : G q = some (.lst xs)) : IsIt (Itl K q) xs.length (YV xs) G where
  stop := fun H e => ⟨xs, SqL.of (e _ _ h), Nat.le_refl _⟩
  go := fun i H e hi => ⟨xs, xs[i], SqL.of (e _ _ h), List.getElem?_eq_getElem hi⟩
  yld := fun i G' H v H' eg e hi y => by
    obtain ⟨rfl, y⟩ := y
    exact ⟨G', Stp.refl e, y xs (SqL.of (e _ _ (eg _ _ h)))⟩
theorem isIt_tup {K : PySem.W.Frag} {q : Addr} {xs : List V} (h : Rd G q (.tup xs)) : IsIt (Itt K q) xs.length (YV xs) G where
  stop := fun H e => ⟨xs, sqT_rd (rdX e h), Nat.le_refl _⟩
  go := fun i H e hi => ⟨xs, xs[i], sqT_rd (rdX e h), List.getElem?_eq_getElem hi⟩
  yld := fun i G' H v H' eg e hi y => by
    obtain ⟨rfl, y⟩ := y
    exact ⟨G', Stp.refl e, y xs (sqT_rd (rdX e (rdX eg h)))⟩
theorem IsIt.imp {J : It} {n : Nat} {Y Y' : Nat → V → Hp → Prop} (h : IsIt J n Y G) (k : ∀ i v G', Ex G G' → Y i v G' → Y' i v G') : IsIt J n Y' G :=
  ⟨h.stop, h.go, fun i G' H v H' eg e hi y => by
    obtain ⟨G2, s, q⟩ := h.yld i G' H v H' eg e hi y
    exact ⟨G2, s, k i v G2 (eg.trans s.g) q⟩⟩
theorem yd_of {xs : List V} {ds : List PyData} (h : Paired (Rp G) xs ds) (i : Nat) (v : V) (G' : Hp) (eg : Ex G G') (y : YV xs i v G') : YD ds i v G' := by
  obtain ⟨d, h1, h2⟩ := Paired.getL h y
  exact ⟨d, h1, Rp.mono eg _ _ h2⟩
theorem ei_list {ds : List PyData} (ha : ED X l σ G (.list ds)) : EI X tg l σ G ds.length (YD ds) := fun H R e k =>
  ⟨_, pi_list (pe_self l), ha H _ e fun v G1 H1 s r => by
    obtain ⟨q, xs, rfl, h1, h2⟩ := Rp.lst_eq r
    refine ⟨q, rfl, ⟨xs, SqL.of (s.i _ _ h1)⟩, k _ G1 H1 s ?_⟩
    rw [← Paired.length h2]
    exact (isIt_list h1).imp (yd_of h2)⟩
theorem ei_tup {ds : List PyData} (ha : ED X l σ G (.tuple ds)) : EI X tg l σ G ds.length (YD ds) := fun H R e k =>
  ⟨_, pi_tup (pe_self l), ha H _ e fun v G1 H1 s r => by
    obtain ⟨q, xs, rfl, h1, h2⟩ := Rp.tup_rd r
    refine ⟨q, rfl, ⟨xs, sqT_rd (rdX s.i h1)⟩, k _ G1 H1 s ?_⟩
    rw [← Paired.length h2]
    exact (isIt_tup h1).imp (yd_of h2)⟩
theorem ei_listV {q : Addr} {xs : List V} (ha : EE X l σ G (RV (.ref q))) (hq : G q = some (.lst xs)) : EI X tg l σ G xs.length (YV xs) := fun H R e k =>
  ⟨_, pi_list (pe_self l), ha H _ e fun v G1 H1 s r => ⟨q, r, ⟨xs, SqL.of (s.i _ _ (s.g _ _ hq))⟩, k _ G1 H1 s (isIt_list (s.g _ _ hq))⟩⟩
def YN : Nat → V → Hp → Prop := fun i v _ => v = .int i
theorem ei_range {n : Nat} (ha : ED X a σ G (.int n)) (hn : (n : Int) < 2 ^ 62) (hm : X.mg "range" = none) (hg : Gl X "range" := by rfl) (hs : starEach [a] X.env = [(false, eval a X.env)] := by rfl) (he : starEach [a] X.env = (false, eval a X.env) :: starEach [] X.env := by rfl) : EI X tg (.Call (.Name "range" p) [a] [] pos) σ G n YN := fun H R e k =>
  ⟨_, pi_range1 hg hm (pa_self _) hs, (ea1 ha he) H _ e fun vs G1 H1 s r0 => by
    obtain ⟨v, rfl, r⟩ := ACons.one r0
    refine ⟨n, by rw [Rp.int_eq r], by omega, hn, k _ G1 H1 s ⟨fun H e => ?_, fun i H e hi => ?_, fun i G' H v H' eg e hi y => ?_⟩⟩
    · show (n : Int).toNat ≤ n
      omega
    · show i < (n : Int).toNat
      omega
    · obtain ⟨rfl, rfl⟩ := y
      exact ⟨G', Stp.refl e, by show V.int (0 + (i : Int)) = V.int i; rw [Int.zero_add]⟩⟩
def YS (z : Str) : Nat → V → Hp → Prop := fun i v _ => ∃ c, z.cps[i]? = some c ∧ v = .str ⟨#[c]⟩
theorem ei_str {z : Str} (ha : ED X l σ G (.str z)) : EI X tg l σ G z.cps.size (YS z) := fun H R e k =>
  ⟨_, pi_str (pe_self l), ha H _ e fun v G1 H1 s r => ⟨z, r.str_eq, k _ G1 H1 s ⟨fun H e => Nat.le_refl _, fun i H e hi => hi, fun i G' H v H' eg e hi y => by
    obtain ⟨rfl, c, h1, h2⟩ := y
    exact ⟨G', Stp.refl e, c, h1, h2⟩⟩⟩⟩
/-- enumerate of a list -/
def YE (ds : List PyData) : Nat → V → Hp → Prop := fun i v G => ∃ d x q, ds[i]? = some d ∧ v = .ref q ∧ G q = some (.tup [.int i, x]) ∧ Rp G x d
theorem ei_enumL {elts : List Expr} {kk : Nat} {tpos : Pos} {ds : List PyData} (ha : ED X l σ G (.list ds)) (hm : X.mg "enumerate" = none) (hg : Gl X "enumerate" := by rfl) (hs : starEach [l] X.env = [(false, eval l X.env)] := by rfl) (he : starEach [l] X.env = (false, eval l X.env) :: starEach [] X.env := by rfl) :
    EI X (.Tuple elts kk tpos) (.Call (.Name "enumerate" p) [l] [] pos) σ G ds.length (YE ds) := fun H R e k =>
  ⟨_, pi_enum hg hm (pa_self _) hs, (ea1 ha he) H _ e fun vs G1 H1 s r0 => by
    obtain ⟨v, rfl, r⟩ := ACons.one r0
    obtain ⟨q, xs, rfl, h1, h2⟩ := Rp.lst_eq r
    refine ⟨q, xs, rfl, SqL.of (s.i _ _ h1), k _ G1 H1 s ⟨fun H e => ?_, fun i H e hi => ?_, fun i G' H v H' eg e hi y => ?_⟩⟩
    · exact ⟨xs, SqL.of (e _ _ h1), by rw [Paired.length h2]; exact Nat.le_refl _⟩
    · exact ⟨xs, _, SqL.of (e _ _ h1), List.getElem?_eq_getElem (by rw [Paired.length h2]; exact hi)⟩
    · obtain ⟨T, x, rfl, hT, rfl, hx⟩ := y
      obtain ⟨d, hd, rd⟩ := Paired.getL h2 (hx xs (SqL.of (e _ _ (eg _ _ h1))))
      exact ⟨_, Stp.newP e hT, d, x, T, hd, rfl, upd_same, Rp.mono (eg.trans (Ex.new (e.none hT))) _ _ rd⟩⟩

/-! ### for -/
theorem ws_for {n : Nat} {Y : Nat → V → Hp → Prop} {iter : Expr} {body : List Stmt} (hp : PassesOwn (model X.prog X.w) X.A X.env X.xe) (hc : X.calm = true) (hi : EI X tg iter σ G n Y) (ex : Ex G H)
    (k : ∀ G1 H1, Stp [] G H G1 H1 → ∃ Iv : Nat → L2.St → Hp → Hp → Prop, Iv 0 σ G1 H1 ∧
      (∀ i σ' G' H', i < n → Ex G1 G' → Ex G' H' → Iv i σ' G' H' → ∀ x G2 H2, Stp [] G' H' G2 H2 → Y i x G2 →
        WG X tg x σ' H2 fun σ2 H3 => WS X body { D with nx := fun σ H => ∃ G', Ex G1 G' ∧ Ex G' H ∧ Iv (i + 1) σ G' H, ct := fun σ H => ∃ G', Ex G1 G' ∧ Ex G' H ∧ Iv (i + 1) σ G' H, bk := WS X rest D } σ2 H3) ∧
      (∀ σ' G' H', Ex G1 G' → Ex G' H' → Iv n σ' G' H' → WS X rest D σ' H'))
    (hs : ∀ x, foldedSetIterable iter X.env x = pure x := by intro _; rfl) : WS X (.For tg iter body [] pos :: rest) D σ H := by
  refine ws_cons ⟨_, ps_for hp hc (pi_self tg iter) (pg_self tg) (pss_self body) hs, hi H _ ex fun J G1 H1 s1 it => ?_⟩
  obtain ⟨Iv, h0, hstep, hend⟩ := k G1 H1 s1
  refine ⟨fun i m σ H => m = n - i ∧ i ≤ n ∧ ∃ G', Ex G1 G' ∧ Ex G' H ∧ Iv i σ G' H, ⟨n, rfl, Nat.zero_le _, G1, Ex.refl _, s1.i, h0⟩, ?_⟩
  rintro i m σ' H' ⟨rfl, hin, G', e1, e2, iv⟩
  by_cases hlt : i < n
  · refine .inr ⟨it.go i H' (e1.trans e2) hlt, fun σ H => ∃ G', Ex G1 G' ∧ Ex G' H ∧ Iv (i + 1) σ G' H, fun σ2 H2 q => ⟨n - (i + 1), by omega, rfl, hlt, q⟩, fun x H2 y => ?_⟩
    obtain ⟨G2, s2, q⟩ := it.yld i G' H' x H2 e1 e2 hlt y
    exact hstep i σ' G' H' hlt e1 e2 iv x G2 H2 s2 q
  · have hn : i = n := by omega
    subst hn
    exact .inl ⟨it.stop H' (e1.trans e2), hend σ' G' H' e1 e2 iv⟩
/-! ### while -/
theorem ws_while {body : List Stmt} (hp : PassesOwn (model X.prog X.w) X.A X.env X.xe) (Iv : Nat → L2.St → Hp → Hp → Prop) (m0 : Nat) (h0 : Iv m0 σ G H) (ex : Ex G H)
    (step : ∀ m σ' G' H', Ex G G' → Ex G' H' → Iv m σ' G' H' → ∃ b G2, Ex G2 H' ∧ ET X c σ' G2 b ∧ ∀ H1, Stp [] G2 H' G2 H1 → if b = true then
      WS X body { D with nx := fun σ H => ∃ m' G', m' < m ∧ Ex G G' ∧ Ex G' H ∧ Iv m' σ G' H, ct := fun σ H => ∃ m' G', m' < m ∧ Ex G G' ∧ Ex G' H ∧ Iv m' σ G' H, bk := WS X rest D } σ' H1 else WS X rest D σ' H1) : WS X (.While c body [] pos :: rest) D σ H := by
  refine ws_cons ⟨_, ps_while hp (pt_self c) (pss_self body), ?_⟩
  refine ⟨fun m σ H => ∃ G', Ex G G' ∧ Ex G' H ∧ Iv m σ G' H, ⟨m0, G, Ex.refl _, ex, h0⟩, ?_⟩
  rintro m σ' H' ⟨G', e1, e2, iv⟩
  obtain ⟨b, G2, e3, hb, q⟩ := step m σ' G' H' e1 e2 iv
  refine hb H' _ e3 fun H1 s1 => ?_
  have q1 := q H1 s1
  cases b with
  | true =>
    rw [if_pos rfl] at q1 ⊢
    exact ⟨_, fun σ2 H2 ⟨m', G', hm, e1, e2, iv⟩ => ⟨m', hm, G', e1, e2, iv⟩, q1⟩
  | false =>
    rw [if_neg Bool.false_ne_true] at q1 ⊢
    exact q1
end
end PG

/-! part Q1 -/
set_option Elab.async false
set_option linter.all false
set_option maxRecDepth 100000
set_option maxHeartbeats 4000000
/-! PG, rules of my own: enumerate of a tuple. -/
namespace PG
open PySem PySem.Spec PyProof.Rows L2
open Sem (wp)

theorem meets_enum_new1 {v : Value} {o : Obj} {H : Heap → Prop} (B : Begins v o H) :
    Meets (Builtin.«enumerate.__new__» ⟨[.type "enumerate", v], []⟩) (fun _ R s => H s.heap ∧
      R (.ok (.ret (.ref (s.heap.push o).objs.size))) { s with heap := (s.heap.push o).push { cls := .type "enumerate", data := .fields #[.none, .bool false, .ref s.heap.objs.size, rawInt 0, .none, .none] } }) :=
  .of_wp fun prog w A R s h => by
    obtain ⟨hp, g, d, tk, os⟩ := s; obtain ⟨h1, h⟩ := h
    have hsub := sub_enumerate
    have q1 : ∀ {A' : Around} {E : Value → Shared → Prop} {Q : Value → Shared → Prop}, Q (.ref hp.objs.size) ⟨hp.push o, g, d, tk, os⟩ → wpAny (model prog w) A' (pyIter v) Q E ⟨hp, g, d, tk, os⟩ :=
      fun q => B.iter prog w _ _ ⟨hp, g, d, tk, os⟩ _ h1 q
    wp_walk using q1
    refine wpAny_stack_any fun st => wpAny_pure ?_
    split
    · rename_i c _ _ _ _ _
      cases (c == Value.type "enumerate")
      · wp_walk using q1
        exact ⟨_, rfl, h⟩
      · wp_walk using q1
        exact ⟨_, rfl, h⟩
    · wp_walk using q1
      exact ⟨_, rfl, h⟩
section
variable {prog : Program} {w : World} {A : Around} {E : Value → Shared → Prop} {s : Shared}
theorem call_enum1 {v : Value} {o : Obj} {H : Heap → Prop} {Q : Value → Shared → Prop} (B : Begins v o H) (h1 : H s.heap)
    (h : ∀ h', IsEnum h' (s.heap.objs.size + 1) s.heap.objs.size 0 .none → h'.get? s.heap.objs.size = some o → h'.objs.size = s.heap.objs.size + 2 →
      (∀ b o, s.heap.get? b = some o → h'.get? b = some o) → Q (.ref (s.heap.objs.size + 1)) { s with heap := h' }) :
    wpAny (model prog w) A (call (.type "enumerate") [v]) Q E s := by
  refine callType_new F.called_enumerate (by decide) (F.typeCall_enumerate_1 _) (F.newCall_enumerate_1 _) (fun obj => F.args_object_init_2 obj _) F.entry_enumerate_new
    (meets_enum_new1 B) ⟨h1, ?_⟩
  have hz : (s.heap.push o).objs.size = s.heap.objs.size + 1 := Heap.size_push ..
  show _ ∧ _
  rw [hz]
  have he : IsEnum ((s.heap.push o).push { cls := .type "enumerate", data := .fields #[.none, .bool false, .ref s.heap.objs.size, rawInt 0, .none, .none] }) (s.heap.objs.size + 1) s.heap.objs.size 0 .none := by
    have := Heap.get?_push_size (s.heap.push o) (o := { cls := .type "enumerate", data := .fields #[.none, .bool false, .ref s.heap.objs.size, rawInt 0, .none, .none] }) rfl
    rw [hz] at this; exact this
  refine ⟨⟨_, he, rfl⟩, h _ he (Heap.get?_push_of_some _ (Heap.get?_push_size _ B.free)) (by rw [Heap.size_push, hz]) fun b o x => Heap.get?_push_of_some _ (Heap.get?_push_of_some _ x)⟩
end
/-- the tuple at a, with numbers -/
def IteT (K : PySem.W.Frag) (a : Addr) : It :=
  ⟨fun i H => ∃ (xs : List V) (x : V), SqT K H a xs ∧ xs[i]? = some x, fun i H v H' => ∃ T x, v = .ref T ∧ H T = none ∧ H' = upd H T (.tup [.int (i : Nat), x]) ∧ ∀ xs, SqT K H a xs → xs[i]? = some x, fun i H => ∃ xs : List V, SqT K H a xs ∧ xs.length = i⟩
theorem turn_enumT {P : Program} {w : World} {K : PySem.W.Frag} {elts : List Expr} {kk : Nat} {tpos : Pos} (a e it : Addr) :
    Turn P w K (.Tuple elts kk tpos) (IteT K a) [e, it] e (fun i h => (∃ old, IsEnum h e it ((i : Nat) : Int) old) ∧ h.IsTupleIter it a i ∧ e ≠ it ∧ a ≠ it ∧ a ≠ e) where
  mem := by simp
  obj := fun i h st b hb => by
    obtain ⟨⟨old, he⟩, ⟨o, ho, hc, hd⟩, _⟩ := st
    have e' : b = e ∨ b = it := by simpa using hb
    rcases e' with z | z
    · rw [z]; exact ⟨_, he, fun v q => nomatch q⟩
    · rw [z]; exact ⟨o, ho, fun v q => by rw [hd] at q; cases q⟩
  keep := fun i h h' st k => let ⟨⟨old, he⟩, hi, hne⟩ := st; ⟨⟨old, k e (by simp) _ he⟩, hi.at fun o q => k it (by simp) o q, hne⟩
  item := by
    intro X hP hw hK hc i pins s σ H E I hf st hg
    subst hP hw hK
    obtain ⟨⟨old, he⟩, hit, hne, ha1, ha2⟩ := st
    obtain ⟨xs, x, hq, hx⟩ := hg
    obtain ⟨its, rv, p, hz⟩ := I.tuple hq
    obtain ⟨u, hu, ru⟩ := rv.get hx
    have hel : e < s.heap.objs.size := Heap.lt_size he
    have hil : it < s.heap.objs.size := by obtain ⟨_, q, _⟩ := hit; exact Heap.lt_size q
    have hlt : i < its.toArray.size := by
      have := (List.getElem?_eq_some_iff.mp hu).1
      simpa using this
    have hh : X.A.in1.handled = none := I.ok.hd hc
    refine wpAny_pyNext_enum_itemD (Draws.tuple hh it a ha1 its.toArray) he ⟨hit, p⟩ hlt hne (by simp; exact ⟨hne, ha2.symm⟩) fun x' h' tk hP ho st' hT hsz hk => ?_
    have ex : x' = u := by
      have q : its.toArray[i]? = some u := by simpa using hu
      rw [q] at hP
      exact (Option.some.inj hP).symm
    subst ex
    refine ⟨_, rfl, wpAny_letOwnedTupleGo_enum (s := { s with heap := h', toks := tk + 1 }) ho fun h'' he' sb => ?_⟩
    have hT2 : h''.get? s.heap.objs.size = some { cls := .type "tuple", data := .seq #[.int i tk, x'] } := (sb.2 _ (Nat.ne_of_gt hel)).trans hT
    have new : ObjOk X.prog X.w (upd H s.heap.objs.size (.tup [.int (i : Nat), x])) h'' s.heap.objs.size (.tup [.int (i : Nat), x]) :=
      ⟨by show 2 ≤ sizeLine; decide, [.int i tk, x'], .cons ⟨_, rfl⟩ (.cons ru .nil), ⟨_, hT2, rfl, _, rfl⟩⟩
    have I1 : Inv X pins σ (upd H s.heap.objs.size (.tup [.int (i : Nat), x])) { s with heap := h'', toks := tk + 1 } :=
      I.turnedNew (ch := [e, it]) (fun b ob hb q => (sb.2 b (fun z => hb (by simp [z]))).trans (hk b ob (fun z => hb (by simp [z])) (fun z => hb (by simp [z])) q)) hf (Nat.le_refl _) new
    refine ⟨.ref s.heap.objs.size, _, I1, rfl, ⟨_, x, rfl, I.hok.fresh (Nat.le_refl _), rfl, fun ys hy => by rw [I.tuple_inj hy hq]; exact hx⟩, ⟨⟨x', ?_⟩, st'.1.at fun o q => (sb.2 it (Ne.symm hne)).trans q, hne, ha1, ha2⟩, fun b hb => ?_⟩
    · have e1 : ((i + 1 : Nat) : Int) = (i : Int) + 1 := by omega
      rw [e1]; exact he'
    · have hb' : b < s.heap.objs.size := by
        have e' : b = e ∨ b = it := by simpa using hb
        rcases e' with z | z
        · rw [z]; exact hel
        · rw [z]; exact hil
      rw [upd_ne (Nat.ne_of_lt hb')]
      exact (hf b hb).1
  done := by
    intro X hP hw hK hc i pins s σ H E I hf st hg
    subst hP hw hK
    obtain ⟨⟨old, he⟩, hit, hne, ha1, ha2⟩ := st
    obtain ⟨xs, hq, hx⟩ := hg
    obtain ⟨its, rv, p, hz⟩ := I.tuple hq
    obtain ⟨f0, f1, f2, f3, f4, f5⟩ := hf it (by simp)
    have hl := rv.length
    have hi : i = its.toArray.size := by simp; omega
    subst hi
    have hh : X.A.in1.handled = none := I.ok.hd hc
    exact wpAny_pyNext_enum_endD (Draws.tuple hh it a ha1 its.toArray) he ⟨hit, p⟩ fun h' eb => ⟨rfl, I.turned (t' := s.toks) (fun b o hb q => eb b o hb q) f0 f1 f3 f4 f5⟩
  self := fun A i s Q E st h => let ⟨⟨_, he⟩, _⟩ := st; wpAny_pyIter_enum he h
def iEnumT (K : PySem.W.Frag) (ta : TA) : TI := fun σ H R => ta σ H fun vs H1 => ∃ a xs, vs = [.ref a] ∧ SqT K H1 a xs ∧ R (IteT K a) H1
theorem pi_enumT {X : Cx} {e : Expr} {ta : TA} {p pos tpos : Pos} {elts : List Expr} {kk : Nat} (hg : Gl X "enumerate") (hm : X.mg "enumerate" = none) (ha : PA X [e] ta) (hs : starEach [e] X.env = [(false, eval e X.env)] := by rfl) :
    PI X (.Tuple elts kk tpos) (.Call (.Name "enumerate" p) [e] [] pos) (iEnumT X.K ta) := by
  refine ⟨fun pins s σ H R I h => ?_⟩
  refine Call_ (ld_blt I hg hm boot_enumerate (PyProof.Rows.callWith_type1 (thn (ha.run pos pins s σ H _ I h) fun us s1 ⟨vs, H1, I1, r1, q1⟩ => ?_) hs rfl))
  obtain ⟨a, xs, ex, hq, q⟩ := q1
  subst ex
  cases r1 with
  | cons r rr =>
    cases rr
    cases r
    obtain ⟨its, rv, p', hz⟩ := I1.tuple hq
    have hal : a < s1.heap.objs.size := p'.lt
    refine call_enum1 (begins_tuple a its.toArray) p' fun h' he hit hsz hk => wpAny_pyIter_enum he ?_
    have I2 : Inv X pins σ H1 { s1 with heap := h' } := I1.kept (t' := s1.toks) hk
    refine ⟨s1.heap.objs.size + 1, [s1.heap.objs.size + 1, s1.heap.objs.size], _, _, H1, rfl, I2, turn_enumT a (s1.heap.objs.size + 1) s1.heap.objs.size, ⟨⟨.none, he⟩, ⟨_, hit, rfl, rfl⟩, Nat.succ_ne_self _, Nat.ne_of_lt hal, Nat.ne_of_lt (Nat.lt_succ_of_lt hal)⟩, fun b hb => ?_, q⟩
    have e' : b = s1.heap.objs.size + 1 ∨ b = s1.heap.objs.size := by simpa using hb
    have hle : s1.heap.objs.size ≤ b := by
      rcases e' with z | z
      · rw [z]; exact Nat.le_add_right _ _
      · rw [z]; exact Nat.le_refl _
    exact I1.fpOk hle (I1.hok.fresh hle)
section
variable {X : Cx} {σ : L2.St} {G H : Hp} {l : Expr} {pos p : Pos}
theorem ei_enumT {elts : List Expr} {kk : Nat} {tpos : Pos} {ds : List PyData} (ha : ED X l σ G (.tuple ds)) (hm : X.mg "enumerate" = none) (hg : Gl X "enumerate" := by rfl) (hs : starEach [l] X.env = [(false, eval l X.env)] := by rfl) (he : starEach [l] X.env = (false, eval l X.env) :: starEach [] X.env := by rfl) :
    EI X (.Tuple elts kk tpos) (.Call (.Name "enumerate" p) [l] [] pos) σ G ds.length (YE ds) := fun H R e k =>
  ⟨_, pi_enumT hg hm (pa_self _) hs, (ea1 ha he) H _ e fun vs G1 H1 s r0 => by
    obtain ⟨v, rfl, r⟩ := ACons.one r0
    obtain ⟨q, xs, rfl, h1, h2⟩ := Rp.tup_rd r
    refine ⟨q, xs, rfl, sqT_rd (rdX s.i h1), k _ G1 H1 s ⟨fun H e => ?_, fun i H e hi => ?_, fun i G' H v H' eg e hi y => ?_⟩⟩
    · exact ⟨xs, sqT_rd (rdX e h1), Paired.length h2⟩
    · exact ⟨xs, _, sqT_rd (rdX e h1), List.getElem?_eq_getElem (by rw [Paired.length h2]; exact hi)⟩
    · obtain ⟨T, x, rfl, hT, rfl, hx⟩ := y
      obtain ⟨d, hd, rd⟩ := Paired.getL h2 (hx xs (sqT_rd (rdX e (rdX eg h1))))
      exact ⟨_, Stp.newP e hT, d, x, T, hd, rfl, upd_same, Rp.mono (eg.trans (Ex.new (e.none hT))) _ _ rd⟩⟩
end
end PG

/-! part Q2 -/
set_option Elab.async false
set_option linter.all false
set_option maxRecDepth 100000
set_option maxHeartbeats 8000000
/-! PG, rules of my own: zip of two with its third argument true (all must end together). -/
namespace PySem
open Sem (wp)
abbrev IsZipS (h : Heap) (z TI TO : Addr) (f0 : Value) : Prop :=
  h.get? z = some { cls := .type "zip", dict := none, data := .fields #[f0, .bool false, .bool true, .ref TI, .ref TO], slots := #[] }
section
variable {prog : Program} {w : World} {A : Around} {E : Value → Shared → Prop} {s : Shared} {z TI TO i1 i2 : Addr} {fp1 fp2 : List Addr} {n1 n2 i : Nat} {P1 P2 : Nat → Value → Prop} {St1 St2 : Nat → Heap → Prop} {a1 a2 : Value}
theorem nextOrEnd_item {it : Addr} {fp : List Addr} {n : Nat} {P : Nat → Value → Prop} {St : Nat → Heap → Prop} (D : Draws prog w A it fp n P St) {Q : Option Value → Shared → Prop} (hi : i < n) (st : St i s.heap)
    (hQ : ∀ x h' tk, P i x → St (i + 1) h' → Heap.SameBut it s.heap h' → Q (some x) { s with heap := h', toks := tk }) : wpAny (model prog w) A (Builtin.SmallTypes.nextOrEnd (.ref it)) Q E s := by
  unfold Builtin.SmallTypes.nextOrEnd
  exact wpAny_bind (wpAny_attempt (D.item i s _ _ hi st fun x h' tk hP hs hb => wpAny_pure (hQ x h' tk hP hs hb)))
theorem nextOrEnd_done {it : Addr} {fp : List Addr} {n : Nat} {P : Nat → Value → Prop} {St : Nat → Heap → Prop} (D : Draws prog w A it fp n P St) {Q : Option Value → Shared → Prop} (st : St n s.heap)
    (hQ : ∀ h', Heap.ExtBut it s.heap h' → Q none { s with heap := h' }) : wpAny (model prog w) A (Builtin.SmallTypes.nextOrEnd (.ref it)) Q E s := by
  unfold Builtin.SmallTypes.nextOrEnd
  refine wpAny_bind (wpAny_attempt (D.done s _ _ st fun h' e hb he => ?_))
  obtain ⟨o, ho, hc⟩ := he
  exact wpAny_bind (wpAny_isInstance (T := "StopIteration") (b := true) ⟨o, ho, hc⟩ isSubtype_stop (wpAny_pure (hQ h' hb)))
theorem zipS_next_item {Q : Value → Shared → Prop} (S : ZipSep2 z TI TO i1 i2 fp1 fp2) (D1 : Draws prog w A i1 fp1 n1 P1 St1) (D2 : Draws prog w A i2 fp2 n2 P2 St2)
    (hz : IsZipS s.heap z TI TO .none) (hTI : IsTupOf2 s.heap TI (.ref i1) (.ref i2)) (hTO : IsTupOf2 s.heap TO a1 a2) (st1 : St1 i s.heap) (st2 : St2 i s.heap) (hlt1 : i < n1) (hlt2 : i < n2)
    (hQ : ∀ x1 x2 h' tk, P1 i x1 → P2 i x2 → IsZipS h' z TI TO (rawInt s.heap.objs.size) → IsTupOf2 h' TO x1 x2 → St1 (i + 1) h' → St2 (i + 1) h' → IsTupOf2 h' s.heap.objs.size x1 x2 → h'.objs.size = s.heap.objs.size + 1 →
      (∀ c o, c ≠ z → c ≠ TO → c ≠ i1 → c ≠ i2 → s.heap.get? c = some o → h'.get? c = some o) → Q (.ref s.heap.objs.size) { s with heap := h', toks := tk }) :
    wpAny (model prog w) A (Builtin.«zip.__next__» ⟨[.ref z], []⟩) (fun fin s' => ∃ v, fin = .done (.ret v) ∧ Q v s') E s := by
  obtain ⟨hp, g, d, tk0, os⟩ := s
  show wpAny _ _ (field (.ref z) 2 >>= _) _ _ _
  refine wpAny_bind (wpAny_field hz rfl (x := .bool true) rfl ?_)
  show wpAny _ _ (field (.ref z) 3 >>= _) _ _ _
  refine wpAny_bind (wpAny_field hz rfl (x := .ref TI) rfl ?_)
  refine wpAny_bind (wpAny_seqItems hTI rfl ?_)
  show wpAny _ _ (Builtin.SmallTypes.ownedTupleIsFree (.ref z) >>= _) _ _ _
  refine wpAny_bind ?_
  unfold Builtin.SmallTypes.ownedTupleIsFree
  refine wpAny_bind (wpAny_field hz rfl (x := .none) rfl (wpAny_pure ?_))
  simp only [if_true]
  refine wpAny_bind (wpAny_rule ?_)
  refine wpAny_bind (wpAny_field hz rfl (x := .ref TO) rfl ?_)
  refine wpAny_bind (wpAny_setField_rec hz (by simp) fun g0 hz0 hs0 => ?_)
  replace hz0 : IsZipS g0 z TI TO .ellipsis := hz0
  replace hs0 : Heap.SameBut z hp g0 := hs0
  refine wpAny_bind ?_
  simp only [List.zipIdx_cons, List.zipIdx_nil, List.forIn_cons, List.forIn_nil]
  refine wpAny_bind (wpAny_bind (wpAny_onRaise ?_))
  show wpAny _ _ (Builtin.SmallTypes.nextOrEnd (.ref i1)) _ _ ⟨g0, g, d, tk0, os⟩
  refine nextOrEnd_item D1 hlt1 (D1.over st1 hs0 S.zf1) fun x1 p1 tk1 hx1 sn1 hp1 => ?_
  replace hp1 : Heap.SameBut i1 g0 p1 := hp1
  have hU1 : IsTupOf2 p1 TO a1 a2 := hp1.extBut _ _ S.Ti1 (hs0.extBut _ _ S.TOz hTO)
  refine wpAny_bind (wpAny_seqItems (s := ⟨p1, g, d, tk1, os⟩) hU1 rfl ?_)
  refine wpAny_bind (updateSeq_IsTupOf2 (s := ⟨p1, g, d, tk1, os⟩) hU1 fun g1 hT1 hs1 => ?_)
  replace hT1 : IsTupOf2 g1 TO x1 a2 := hT1
  replace hs1 : Heap.SameBut TO p1 g1 := hs1
  refine wpAny_bind (wpAny_letGo (wpAny_pure ?_))
  refine wpAny_bind (wpAny_bind (wpAny_onRaise ?_))
  show wpAny _ _ (Builtin.SmallTypes.nextOrEnd (.ref i2)) _ _ ⟨g1, g, d, tk1, os⟩
  refine nextOrEnd_item D2 hlt2 (D2.over (D2.over (D2.over st2 hs0 S.zf2) hp1 S.sep1_2) hs1 S.Tf2) fun x2 p2 tk2 hx2 sn2 hp2 => ?_
  replace hp2 : Heap.SameBut i2 g1 p2 := hp2
  have hU2 : IsTupOf2 p2 TO x1 a2 := hp2.extBut _ _ S.Ti2 hT1
  refine wpAny_bind (wpAny_seqItems (s := ⟨p2, g, d, tk2, os⟩) hU2 rfl ?_)
  refine wpAny_bind (updateSeq_IsTupOf2 (s := ⟨p2, g, d, tk2, os⟩) hU2 fun g2 hT2 hs2 => ?_)
  replace hT2 : IsTupOf2 g2 TO x1 x2 := hT2
  replace hs2 : Heap.SameBut TO p2 g2 := hs2
  refine wpAny_bind (wpAny_letGo (wpAny_pure (wpAny_pure ?_)))
  refine wpAny_bind (wpAny_seqItems (s := ⟨g2, g, d, tk2, os⟩) hT2 rfl ?_)
  refine wpAny_bind (wpAny_newTuple ?_)
  have hsz : g2.objs.size = hp.objs.size := by rw [hs2.1, hp2.1, hs1.1, hp1.1, hs0.1]
  have hzz : IsZipS g2 z TI TO .ellipsis := (hs2.extBut _ _ S.TOz.symm (hp2.extBut _ _ S.zi2 (hs1.extBut _ _ S.TOz.symm (hp1.extBut _ _ S.zi1 hz0))))
  have hkk : ∀ c o, c ≠ z → c ≠ TO → c ≠ i1 → c ≠ i2 → hp.get? c = some o → g2.get? c = some o := fun c o cz cT c1 c2 e =>
    (hs2.extBut _ _ cT (hp2.extBut _ _ c2 (hs1.extBut _ _ cT (hp1.extBut _ _ c1 (hs0.extBut _ _ cz e)))))
  have hj1 : St1 (i + 1) g2 := (D1.over (D1.over (D1.over sn1 hs1 S.Tf1) hp2 S.sep2_1) hs2 S.Tf1)
  have hj2 : St2 (i + 1) g2 := (D2.over sn2 hs2 S.Tf2)
  have hzlt : z < g2.objs.size := Heap.lt_size hzz
  show wpAny _ _ (Builtin.SmallTypes.ownedTupleHandOut (.ref z) (.ref g2.objs.size) >>= _) _ _ ⟨g2.push { cls := .type "tuple", data := .seq #[x1, x2] }, g, d, tk2, os⟩
  refine wpAny_bind ?_
  unfold Builtin.SmallTypes.ownedTupleHandOut
  have hz₆ : IsZipS (g2.push { cls := .type "tuple", data := .seq #[x1, x2] }) z TI TO .ellipsis := Heap.get?_push_of_some _ hzz
  refine wpAny_bind (wpAny_setField_rec hz₆ (by simp) fun h₇ hz₇ hs₇ => ?_)
  replace hz₇ : IsZipS h₇ z TI TO (rawInt g2.objs.size) := hz₇
  refine wpAny_setField_rec hz₇ (by simp) fun h₈ hz₈ hs₈ => ?_
  replace hz₈ : IsZipS h₈ z TI TO (rawInt g2.objs.size) := hz₈
  replace hs₇ : Heap.SameBut z (g2.push { cls := .type "tuple", data := .seq #[x1, x2] }) h₇ := hs₇
  replace hs₈ : Heap.SameBut z h₇ h₈ := hs₈
  have up : ∀ c o, c ≠ z → g2.get? c = some o → h₈.get? c = some o := fun c o c1 e => hs₈.extBut _ _ c1 (hs₇.extBut _ _ c1 (Heap.get?_push_of_some _ e))
  have hT₈ : IsTupOf2 h₈ g2.objs.size x1 x2 := hs₈.extBut _ _ (Nat.ne_of_gt hzlt) (hs₇.extBut _ _ (Nat.ne_of_gt hzlt) (Heap.get?_push_size _ rfl))
  have hz8 : h₈.objs.size = g2.objs.size + 1 := by rw [hs₈.1, hs₇.1, Heap.size_push]
  rw [hsz] at hz₈ hT₈ hz8
  refine wpAny_pure ⟨_, rfl, ?_⟩
  show Q (.ref g2.objs.size) ⟨h₈, g, d, tk2, os⟩
  rw [hsz]
  exact hQ x1 x2 h₈ tk2 hx1 hx2 hz₈ (up _ _ S.TOz hT2) (D1.frame _ _ _ hj1 fun b hb o e => up b o (fun q => S.zf1 (q ▸ hb)) e) (D2.frame _ _ _ hj2 fun b hb o e => up b o (fun q => S.zf2 (q ▸ hb)) e) hT₈ hz8 fun c o cz cT c1 c2 e => up c o cz (hkk c o cz cT c1 c2 e)
theorem stop_raised {α : Type} (hh : A.handled = none) {Q : α → Shared → Prop} (hE : ∀ h' e, (∀ b o, s.heap.get? b = some o → h'.get? b = some o) → (∃ o, h'.get? e = some o ∧ o.cls = .type "StopIteration") → E (.ref e) { s with heap := h' }) :
    wpAny (model prog w) A (Builtin.SmallTypes.stopIteration : Sem α) Q E s := by
  unfold Builtin.SmallTypes.stopIteration
  refine wpAny_bind ?_
  simp only [newExc, newTuple]
  refine wpAny_bind (wpAny_newObj_type ?_ (by size_fits))
  refine wpAny_bind (m := firstArgMember _ _) (wpAny_of_eq (a := Value.none) (by first | rfl | (simp only [firstArgMember]; rfl)) ?_)
  refine wpAny_newObj_type ?_ (by size_fits)
  simp only [raiseNew]
  refine wpAny_bind (wpAny_handled ?_)
  rw [hh]
  refine wpAny_bind (wpAny_pure (wpAny_throw ?_))
  exact hE _ _ (fun b o q => Heap.get?_push_of_some _ (Heap.get?_push_of_some _ q)) ⟨_, Heap.get?_push_size _ rfl, rfl⟩
theorem zipS_next_end {Q : Fin → Shared → Prop} (hh : A.handled = none) (S : ZipSep2 z TI TO i1 i2 fp1 fp2) (D1 : Draws prog w A i1 fp1 n1 P1 St1) (D2 : Draws prog w A i2 fp2 n2 P2 St2)
    (hz : IsZipS s.heap z TI TO .none) (hTI : IsTupOf2 s.heap TI (.ref i1) (.ref i2)) (st1 : St1 n1 s.heap) (st2 : St2 n2 s.heap) (hf : ∀ h h' x, St2 n2 h → Heap.ExtBut x h h' → x ∉ fp2 → St2 n2 h')
    (hE : ∀ h' tk e, (∀ c o, c ≠ z → c ≠ TO → c ≠ i1 → c ≠ i2 → s.heap.get? c = some o → h'.get? c = some o) → (∃ o, h'.get? e = some o ∧ o.cls = .type "StopIteration") → E (.ref e) { s with heap := h', toks := tk }) (hTO : s.heap.get? TO = some { cls := .type "tuple", data := .seq #[a1, a2] }) :
    wpAny (model prog w) A (Builtin.«zip.__next__» ⟨[.ref z], []⟩) Q E s := by
  obtain ⟨hp, g, d, tk0, os⟩ := s
  show wpAny _ _ (field (.ref z) 2 >>= _) _ _ _
  refine wpAny_bind (wpAny_field hz rfl (x := .bool true) rfl ?_)
  show wpAny _ _ (field (.ref z) 3 >>= _) _ _ _
  refine wpAny_bind (wpAny_field hz rfl (x := .ref TI) rfl ?_)
  refine wpAny_bind (wpAny_seqItems hTI rfl ?_)
  show wpAny _ _ (Builtin.SmallTypes.ownedTupleIsFree (.ref z) >>= _) _ _ _
  refine wpAny_bind ?_
  unfold Builtin.SmallTypes.ownedTupleIsFree
  refine wpAny_bind (wpAny_field hz rfl (x := .none) rfl (wpAny_pure ?_))
  simp only [if_true]
  refine wpAny_bind (wpAny_rule ?_)
  refine wpAny_bind (wpAny_field hz rfl (x := .ref TO) rfl ?_)
  refine wpAny_bind (wpAny_setField_rec hz (by simp) fun g0 hz0 hs0 => ?_)
  replace hz0 : IsZipS g0 z TI TO .ellipsis := hz0
  replace hs0 : Heap.SameBut z hp g0 := hs0
  refine wpAny_bind ?_
  simp only [List.zipIdx_cons, List.zipIdx_nil, List.forIn_cons, List.forIn_nil]
  refine wpAny_bind (wpAny_bind (wpAny_onRaise ?_))
  show wpAny _ _ (Builtin.SmallTypes.nextOrEnd (.ref i1)) _ _ ⟨g0, g, d, tk0, os⟩
  refine nextOrEnd_done D1 (D1.over st1 hs0 S.zf1) fun q1 hq1 => ?_
  replace hq1 : Heap.ExtBut i1 g0 q1 := hq1
  have hz1 : IsZipS q1 z TI TO .ellipsis := hq1 _ _ S.zi1 hz0
  refine wpAny_bind (wpAny_setField_rec (s := ⟨q1, g, d, tk0, os⟩) hz1 (by simp) fun q2 hz2 hq2 => ?_)
  replace hq2 : Heap.SameBut z q1 q2 := hq2
  have st2' : St2 n2 q2 := D2.over (hf _ _ _ (D2.over st2 hs0 S.zf2) hq1 S.sep1_2) hq2 S.zf2
  -- what must have ended, too
  refine wpAny_bind (wpAny_bind ?_)
  show wpAny _ _ (forIn [(Value.ref i2, 1)] PUnit.unit _) _ _ _
  simp only [List.forIn_cons, List.forIn_nil]
  refine wpAny_bind (wpAny_bind (nextOrEnd_done (s := ⟨q2, g, d, tk0, os⟩) D2 st2' fun q3 hq3 => ?_))
  replace hq3 : Heap.ExtBut i2 q2 q3 := hq3
  show wpAny _ _ (pure _) _ _ _
  refine wpAny_pure (wpAny_pure (wpAny_bind (wpAny_rule (stop_raised hh fun h' e hk he => ?_))))
  exact hE h' tk0 e (fun c o cz cT c1 c2 x => hk _ _ (hq3 _ _ c2 (hq2.extBut _ _ cz (hq1 _ _ c1 (hs0.extBut _ _ cz x))))) he
end
end PySem

/-! part Q3 -/
set_option Elab.async false
set_option linter.all false
set_option maxRecDepth 100000
set_option maxHeartbeats 8000000
/-! PG, rules of my own: the walk over zip of two that must end together. -/
namespace PySem
open Sem (wp)
section
variable {prog : Program} {w : World} {A : Around} {E : Value → Shared → Prop} {s : Shared} {z TI TO i1 i2 : Addr} {fp1 fp2 : List Addr} {n1 n2 i : Nat} {P1 P2 : Nat → Value → Prop} {St1 St2 : Nat → Heap → Prop} {a1 a2 : Value}
theorem pyNext_zipS_item {Q : Option Value → Shared → Prop} (S : ZipSep2 z TI TO i1 i2 fp1 fp2) (D1 : Draws prog w A.in1 i1 fp1 n1 P1 St1) (D2 : Draws prog w A.in1 i2 fp2 n2 P2 St2)
    (hz : IsZipS s.heap z TI TO .none) (hTI : IsTupOf2 s.heap TI (.ref i1) (.ref i2)) (hTO : IsTupOf2 s.heap TO a1 a2) (st1 : St1 i s.heap) (st2 : St2 i s.heap) (hlt1 : i < n1) (hlt2 : i < n2)
    (hQ : ∀ x1 x2 h' tk, P1 i x1 → P2 i x2 → IsZipS h' z TI TO (rawInt s.heap.objs.size) → IsTupOf2 h' TO x1 x2 → St1 (i + 1) h' → St2 (i + 1) h' → IsTupOf2 h' s.heap.objs.size x1 x2 → h'.objs.size = s.heap.objs.size + 1 →
      (∀ c o, c ≠ z → c ≠ TO → c ≠ i1 → c ≠ i2 → s.heap.get? c = some o → h'.get? c = some o) → Q (some (.ref s.heap.objs.size)) { s with heap := h', toks := tk }) :
    wpAny (model prog w) A (pyNext (.ref z)) Q E s := by
  have hT : s.TypeIs (.ref z) "zip" := ⟨_, hz, rfl⟩
  unfold pyNext
  exact wpAny_bind (wpAny_attempt (wpAny_callSpecial?_slot (name := Str.ofString "__next__") hT F.slot_zip_next
    (wpAny_call_entry F.slot_zip_next hT F.entry_zip_next
      (zipS_next_item S D1 D2 hz hTI hTO st1 st2 hlt1 hlt2 fun x1 x2 h' tk y1 y2 b1 b2 d1 d2 b5 b6 b7 => wpAny_pure (hQ x1 x2 h' tk y1 y2 b1 b2 d1 d2 b5 b6 b7)) (F.args_zip_next_1 _))))
theorem pyNext_zipS_end {Q : Option Value → Shared → Prop} (hh : A.in1.handled = none) (S : ZipSep2 z TI TO i1 i2 fp1 fp2) (D1 : Draws prog w A.in1 i1 fp1 n1 P1 St1) (D2 : Draws prog w A.in1 i2 fp2 n2 P2 St2)
    (hz : IsZipS s.heap z TI TO .none) (hTI : IsTupOf2 s.heap TI (.ref i1) (.ref i2)) (hTO : IsTupOf2 s.heap TO a1 a2) (st1 : St1 n1 s.heap) (st2 : St2 n2 s.heap) (hf : ∀ h h' x, St2 n2 h → Heap.ExtBut x h h' → x ∉ fp2 → St2 n2 h')
    (hQ : ∀ h' tk, (∀ c o, c ≠ z → c ≠ TO → c ≠ i1 → c ≠ i2 → s.heap.get? c = some o → h'.get? c = some o) → Q none { s with heap := h', toks := tk }) : wpAny (model prog w) A (pyNext (.ref z)) Q E s := by
  have hT : s.TypeIs (.ref z) "zip" := ⟨_, hz, rfl⟩
  unfold pyNext
  refine wpAny_bind (wpAny_attempt (wpAny_callSpecial?_slot (name := Str.ofString "__next__") hT F.slot_zip_next
    (wpAny_call_entry F.slot_zip_next hT F.entry_zip_next (zipS_next_end hh S D1 D2 hz hTI st1 st2 hf (fun h' tk e hk he => ?_) hTO) (F.args_zip_next_1 _))))
  obtain ⟨o, ho, hc⟩ := he
  refine wpAny_bind (wpAny_isInstance (T := "StopIteration") (b := true) ⟨o, ho, hc⟩ isSubtype_stop ?_)
  exact wpAny_pure (hQ _ _ hk)
theorem letGo_zipS {elts : List Expr} {x1} {pos : Pos} {z TI TO T : Addr} {Q : Unit → Shared → Prop} (hz : IsZipS s.heap z TI TO (rawInt T))
    (hQ : ∀ h', IsZipS h' z TI TO .none → Heap.SameBut z s.heap h' → Q () { s with heap := h' }) :
    wpAny (model prog w) A (letOwnedTupleGo (.Tuple elts x1 pos) (.ref z) (.ref T)) Q E s := by
  unfold letOwnedTupleGo
  refine wpAny_bind (wpAny_load hz ?_)
  show wpAny _ _ (if (["enumerate", "zip", "dict_itemiterator", "dict_reverseitemiterator", "odict_iterator", "itertools.zip_longest", "itertools.pairwise"].contains "zip" &&
      (#[rawInt T, .bool false, .bool true, .ref TI, .ref TO] : Array Value)[0]? == some (rawInt T)) = true then _ else _) Q E s
  rw [if_pos (by simp)]
  refine wpAny_bind (wpAny_rule ?_)
  show wpAny _ _ (setField (.ref z) 0 .none) Q E s
  exact wpAny_setField_rec hz (by simp) fun h' hz' hs' => hQ h' hz' hs'
theorem pyIter_zipS {z TI TO : Addr} {f0 : Value} {Q : Value → Shared → Prop} (hz : IsZipS s.heap z TI TO f0) (h : Q (.ref z) s) : wpAny (model prog w) A (pyIter (.ref z)) Q E s := by
  have hT : s.TypeIs (.ref z) "zip" := ⟨_, hz, rfl⟩
  refine wpAny_pyIter_slot hT F.slot_zip_iter (wpAny_call_entry F.slot_zip_iter hT F.entry_zip_iter ?_ (F.args_zip_iter_1 _))
  show wpAny _ _ (ret (.ref z)) _ _ s
  exact wpAny_pure ⟨_, rfl, "zip", _, hT, F.slot_zip_next.lookup, h⟩
end
abbrev gzZS (h : Heap) (o1 o2 : Obj) : Heap := (gzO2 h o1 o2).push { cls := .type "zip", data := .fields #[.none, .bool false, .bool true, .ref ((h.push o1).push o2).objs.size, .ref (gzT2 h o1 o2).objs.size] }
theorem F.typeCall_zip_strict (a b c : Value) : checkTypeCall "zip" ⟨[a, b], [(Str.ofString "strict", c)]⟩ = pure () := by kernel_rfl
theorem F.newCall_zip_strict (a b c : Value) : checkBuiltinCall "zip.__new__" ⟨[.type "zip", a, b], [(Str.ofString "strict", c)]⟩ = pure () := by kernel_rfl
theorem F.args_object_init_strict (obj a b c : Value) : argsOk "object.__init__" ⟨[obj, a, b], [(Str.ofString "strict", c)]⟩ := by unfold argsOk; kernel_rfl
theorem meets_zipS_new {v1 v2 : Value} {o1 o2 : Obj} {H1 H2 : Heap → Prop} (B1 : Begins v1 o1 H1) (B2 : Begins v2 o2 H2) :
    Meets (Builtin.«zip.__new__» ⟨[.type "zip", v1, v2], [(Str.ofString "strict", .bool true)]⟩) (fun _ R s => (H1 s.heap ∧ H2 s.heap) ∧
      R (.ok (.ret (.ref (gzO2 s.heap o1 o2).objs.size))) { s with heap := gzZS s.heap o1 o2 }) :=
  .of_wp fun prog w A R s h => by
    obtain ⟨hp, g, d, tk, os⟩ := s; obtain ⟨⟨h1, h2⟩, h⟩ := h
    have hsub := sub_zip
    have q1 : ∀ {A' : Around} {E : Value → Shared → Prop} {Q : Value → Shared → Prop}, Q (.ref hp.objs.size) ⟨(hp.push o1), g, d, tk, os⟩ → wpAny (model prog w) A' (pyIter v1) Q E ⟨hp, g, d, tk, os⟩ :=
      fun q => B1.iter prog w _ _ ⟨hp, g, d, tk, os⟩ _ (B1.keeps _ _ h1 fun b o' e => e) q
    have q2 : ∀ {A' : Around} {E : Value → Shared → Prop} {Q : Value → Shared → Prop}, Q (.ref (hp.push o1).objs.size) ⟨((hp.push o1).push o2), g, d, tk, os⟩ → wpAny (model prog w) A' (pyIter v2) Q E ⟨(hp.push o1), g, d, tk, os⟩ :=
      fun q => B2.iter prog w _ _ ⟨(hp.push o1), g, d, tk, os⟩ _ (B2.keeps _ _ h2 fun b o' e => (Heap.get?_push_of_some _ e)) q
    have e1 : (Str.ofString "strict" == ("strict" : Str)) = true := by decide +kernel
    have e2 : (Str.ofString "strict" != ("strict" : Str)) = false := by decide +kernel
    have e3 : (("strict" : Str) == Str.ofString "strict") = true := by decide +kernel
    wp_walk using q1, q2
    exact ⟨_, rfl, h⟩
section
variable {prog : Program} {w : World} {A : Around} {E : Value → Shared → Prop} {s : Shared}
theorem zipS_begins {v1 v2 : Value} {o1 o2 : Obj} {H1 H2 : Heap → Prop} {Q : Value → Shared → Prop} (B1 : Begins v1 o1 H1) (B2 : Begins v2 o2 H2) (h1 : H1 s.heap) (h2 : H2 s.heap)
    (h : ∀ h', IsZipS h' (s.heap.objs.size + 4) (s.heap.objs.size + 2) (s.heap.objs.size + 3) .none → IsTupOf2 h' (s.heap.objs.size + 2) (.ref s.heap.objs.size) (.ref (s.heap.objs.size + 1)) →
      IsTupOf2 h' (s.heap.objs.size + 3) .none .none → h'.get? s.heap.objs.size = some o1 → h'.get? (s.heap.objs.size + 1) = some o2 → h'.objs.size = s.heap.objs.size + 5 →
      (∀ c o, s.heap.get? c = some o → h'.get? c = some o) → Q (.ref (s.heap.objs.size + 4)) { s with heap := h' }) :
    wpAny (model prog w) A (call (.type "zip") [v1, v2] [(Str.ofString "strict", .bool true)]) Q E s := by
  refine callType_newKw F.called_zip (by decide) (F.typeCall_zip_strict _ _ _) (F.newCall_zip_strict _ _ _) (fun obj => F.args_object_init_strict obj _ _ _) F.entry_zip_new
    (meets_zipS_new B1 B2) ⟨⟨h1, h2⟩, ?_⟩
  have z1 : (s.heap.push o1).objs.size = s.heap.objs.size + 1 := by rw [Heap.size_push]
  have z2 : ((s.heap.push o1).push o2).objs.size = s.heap.objs.size + 2 := by rw [Heap.size_push, z1]
  have zT : (gzT2 s.heap o1 o2).objs.size = s.heap.objs.size + 3 := by rw [Heap.size_push, z2]
  have zO : (gzO2 s.heap o1 o2).objs.size = s.heap.objs.size + 4 := by rw [Heap.size_push, zT]
  have zZ : (gzZS s.heap o1 o2).objs.size = s.heap.objs.size + 5 := by rw [Heap.size_push, zO]
  have gZ : (gzZS s.heap o1 o2).get? (gzO2 s.heap o1 o2).objs.size = some { cls := .type "zip", data := .fields #[.none, .bool false, .bool true, .ref ((s.heap.push o1).push o2).objs.size, .ref (gzT2 s.heap o1 o2).objs.size] } := Heap.get?_push_size _ rfl
  have gO : (gzZS s.heap o1 o2).get? (gzT2 s.heap o1 o2).objs.size = some { cls := .type "tuple", data := .seq #[.none, .none] } := Heap.get?_push_of_some _ (Heap.get?_push_size _ rfl)
  have gT : (gzZS s.heap o1 o2).get? ((s.heap.push o1).push o2).objs.size = some { cls := .type "tuple", data := .seq #[.ref s.heap.objs.size, .ref (s.heap.push o1).objs.size] } := Heap.get?_push_of_some _ (Heap.get?_push_of_some _ (Heap.get?_push_size _ rfl))
  have g1 : (gzZS s.heap o1 o2).get? s.heap.objs.size = some o1 := Heap.get?_push_of_some _ (Heap.get?_push_of_some _ (Heap.get?_push_of_some _ (Heap.get?_push_of_some _ (Heap.get?_push_size _ B1.free))))
  have g2 : (gzZS s.heap o1 o2).get? (s.heap.push o1).objs.size = some o2 := Heap.get?_push_of_some _ (Heap.get?_push_of_some _ (Heap.get?_push_of_some _ (Heap.get?_push_size _ B2.free)))
  rw [zO, zT, z2] at gZ
  rw [zT] at gO
  rw [z2, z1] at gT
  rw [z1] at g2
  show _ ∧ _
  rw [zO]
  exact ⟨⟨_, gZ, rfl⟩, h _ gZ gT gO g1 g2 zZ fun c o e => Heap.get?_push_of_some _ (Heap.get?_push_of_some _ (Heap.get?_push_of_some _ (Heap.get?_push_of_some _ (Heap.get?_push_of_some _ e))))⟩
/-- a built-in class called with keywords -/
theorem callWith_typeK {M : Model} {env : Env} {pos : Pos} {T : String} {e : Expr} {rest : List Expr} {kws : List Keyword} {Q : Value → Shared → Prop}
    (h : wpAny M A (spliced (backTo pos (starEach (e :: rest) env))) (fun vs s₁ => wpAny M A (evalAll ((backToKw pos (keywordEach kws env)).map (·.2)))
      (fun kvs s₂ => wpAny M A (call (.type T) vs (((backToKw pos (keywordEach kws env)).filterMap (·.1)).zip kvs)) Q E s₂) E s₁) E s)
    (he : backTo pos (starEach (e :: rest) env) = (false, eval e env) :: backTo pos (starEach rest env) := by rfl)
    (hplain : (backTo pos (starEach (e :: rest) env)).any (·.1) = false := by rfl)
    (hall : (backToKw pos (keywordEach kws env)).all (·.1.isSome) = true := by rfl)
    (hkw : (backToKw pos (keywordEach kws env)).any (·.1.isNone) = false := by rfl) :
    wpAny M A (callWith pos (.type T) [] (backTo pos (starEach (e :: rest) env)) (backToKw pos (keywordEach kws env))) Q E s := by
  have h2 : wpAny M A (evalArgs (.type T) true (backTo pos (starEach (e :: rest) env)) (backToKw pos (keywordEach kws env))) (fun a s₁ => wpAny M A (call (.type T) ([] ++ a.pos) a.kw) Q E s₁) E s := by
    rw [he] at h ⊢
    exact PyProof.Rows.evalArgs_kwB hall h
  unfold callWith
  refine wpAny_bind (wpAny_holding (wpAny_mono h2 (fun a s₁ h₁ => wpAny_bind (wpAny_standAt ?_)) fun _ _ x => x))
  simp only [hplain, hkw, Bool.or_false]
  refine wpAny_bind (wpAny_pure ?_)
  exact wpAny_bind (wpAny_mono h₁ (fun r s₂ hr => wpAny_bind (wpAny_holding (wpAny_point (wpAny_pure hr)))) fun _ _ x => x)
end
end PySem

/-! part P5 -/
set_option Elab.async false
set_option linter.all false
set_option maxRecDepth 100000
set_option maxHeartbeats 4000000
/-! PG, part 5: comprehensions. -/
namespace PG
open PySem PySem.Spec PyProof.Rows L2

theorem Paired.impR {α β : Type} {F F' : α → β → Prop} : ∀ {xs : List α} {ys : List β}, Paired F xs ys → (∀ x y, y ∈ ys → F x y → F' x y) → Paired F' xs ys
  | _, _, .nil, _ => .nil
  | _, _, .cons r t, k => .cons (k _ _ (List.mem_cons_self ..) r) (Paired.impR t fun x y m => k x y (List.mem_cons_of_mem _ m))
theorem range_succ_fm {α : Type} (f : Nat → Option α) (i : Nat) : (List.range (i + 1)).filterMap f = (List.range i).filterMap f ++ (match f i with
    | some a => [a]
    | none => []) := by
  rw [List.range_succ, List.filterMap_append]
  congr 1
  cases h : f i with
  | none => simp [h]
  | some a => simp [h]
section
variable {X : Cx} {σ : L2.St} {G H : Hp} {elt tg iter : Expr} {ifs : List Expr} {scope : Scope} {own : List (Str × Nat)} {pos : Pos} {n : Nat} {Y : Nat → V → Hp → Prop}
/-- the context of a comprehension's block -/
abbrev Blk (X : Cx) (scope : Scope) (s : Shared) (H : Hp) (C : Addr) (cl : List (Str × Addr)) (fp : List Addr) : Cx := X.blk s H scope (compEnvC scope cl C X.env) fp
/-- one turn of a comprehension -/
def Turn1 (X : Cx) (σ : L2.St) (tg : Expr) (ifs : List Expr) (elt : Expr) (scope : Scope) (vs : List Nat) (x : V) (G' : Hp) (r : Option (V → Hp → Prop)) : Prop :=
  ∃ σ', wipe σ' vs = wipe σ vs ∧ ∀ (s : Shared) (H : Hp) (C : Addr) (cl : List (Str × Addr)) (fp : List Addr), EG (Blk X scope s H C cl fp) tg x (wipe σ vs) G' σ' ∧
    (match r with
    | none => ETs (Blk X scope s H C cl fp) ifs σ' G' false
    | some R => ETs (Blk X scope s H C cl fp) ifs σ' G' true ∧ EE (Blk X scope s H C cl fp) elt σ' G' R)
theorem ets_nil : ETs X [] σ G true := fun H Q e k => ⟨_, pts_nil, k H (Stp.refl e)⟩
theorem ets_one {c : Expr} {t : Bool} (h : ET X c σ G t) : ETs X [c] σ G t := fun H Q e k => ⟨_, pts_one (pt_self c), h H Q e k⟩
theorem ee_lc (hc : X.calm = true) (hN : X.N.Nodup) (hi : EI X tg iter σ G n Y) (ok : BlkOk X.N X.env.scope scope own) (out : Nat → Option (V → Hp → Prop)) (hm : ∀ i R, i < n → out i = some R → MonoR R)
    (turn : ∀ i x G', Ex G G' → i < n → Y i x G' → Turn1 X σ tg ifs elt scope (own.map (·.2)) x G' (out i)) (hn : n ≤ 100000) (hs : ∀ x, foldedSetIterable iter X.env x = pure x := by intro _; rfl) :
    EE X (.ListComp elt [⟨tg, iter, ifs, 0⟩] scope pos) σ G (LstR ((List.range n).filterMap out)) := fun H Q ex k => by
  refine ⟨_, pe_lc hc hN (pi_self tg iter) ok
    (g := fun v σ H Q => ∀ s0 H0 C cl fp, WG (Blk X scope s0 H0 C cl fp) tg v σ H Q) (tt := fun σ H Q => ∀ s0 H0 C cl fp, WTs (Blk X scope s0 H0 C cl fp) ifs σ H Q) (te := fun σ H Q => ∀ s0 H0 C cl fp, WE (Blk X scope s0 H0 C cl fp) elt σ H Q)
    (fun s H C cl fp => ⟨fun pins s1 σ H1 v u Q I r h => (pg_self tg).run pins s1 σ H1 v u Q I r (h s H C cl fp)⟩)
    (fun s H C cl fp => ⟨fun pins s1 σ H1 Q I h => (pts_self ifs).run pins s1 σ H1 Q I (h s H C cl fp)⟩)
    (fun s H C cl fp => ⟨fun pins s1 σ H1 Q I h => (pe_self elt).run pins s1 σ H1 Q I (h s H C cl fp)⟩) hs, ?_⟩
  refine hi H _ ex fun J G1 H1 s1 it D hD => ?_
  -- the invariant
  refine ⟨fun i m H' => m = n - i ∧ i ≤ n ∧ ∃ G' vs, Stp [] G1 H1 G' H' ∧ Own G' H' D (.lst vs) ∧ Paired (fun v R => R v G') vs ((List.range i).filterMap out), ⟨n, rfl, Nat.zero_le _, G1, [], Stp.newO s1.i hD, Own.new s1.i hD, .nil⟩, ?_⟩
  rintro i m H' ⟨rfl, hin, G', vs, s2, w, pr⟩
  have eg : Ex G1 G' := s2.g
  by_cases hlt : i < n
  · refine .inr ⟨it.go i H' (eg.trans s2.i) hlt, fun H'' => ∃ G' vs, Stp [] G1 H1 G' H'' ∧ Own G' H'' D (.lst vs) ∧ Paired (fun v R => R v G') vs ((List.range (i + 1)).filterMap out), fun H'' q => ⟨n - (i + 1), by omega, rfl, hlt, q⟩, fun x H2 y => ?_⟩
    obtain ⟨G2, s3, yi⟩ := it.yld i G' H' x H2 eg s2.i hlt y
    have s23 := s2.trans s3
    have w2 := w.step0 s3
    obtain ⟨σ', hw, ht⟩ := turn i x G2 (s1.g.trans s23.g) hlt yi
    have pr2 : Paired (fun v R => R v G2) vs ((List.range i).filterMap out) := Paired.impR pr fun v R hR hv => by
      obtain ⟨j, hj, ej⟩ := List.mem_filterMap.mp hR
      have hj' : j < n := Nat.lt_trans (List.mem_range.mp hj) hlt
      exact (hm j R hj' ej).mono _ _ _ s3.g hv
    have vl : vs.length ≤ i := by
      rw [Paired.length pr]
      exact Nat.le_trans (List.length_filterMap_le _ _) (by simp)
    intro s0 H0 C cl fp
    refine (ht s0 H0 C cl fp).1 H2 _ s3.i fun H3 s4 => ⟨hw, ?_⟩
    have w3 := w2.step0 s4
    have s24 := s23.trans s4
    cases ho : out i with
    | none =>
      intro s0 H0 C cl fp
      have q := (ht s0 H0 C cl fp).2
      rw [ho] at q
      refine q H3 _ s4.i fun H4 s5 => iteF ⟨G2, vs, s24.trans s5, w3.step0 s5, ?_⟩
      rw [range_succ_fm, ho, List.append_nil]
      exact pr2
    | some R =>
      intro s0 H0 C cl fp
      have q := (ht s0 H0 C cl fp).2
      rw [ho] at q
      refine q.1 H3 _ s4.i fun H4 s5 => iteT ?_
      intro s0 H0 C cl fp
      have q2 := (ht s0 H0 C cl fp).2
      rw [ho] at q2
      refine q2.2 H4 _ s5.i fun v G5 H5 s6 r6 => ?_
      have s25 := s24.trans s5
      have s26 := s25.trans s6
      have w5 := (w3.step0 s5).step0 s6
      refine ⟨vs, w5.h, small' (by omega), G5, vs ++ [v], s26.mut w5.g (.inl hD), w5.upd, ?_⟩
      rw [range_succ_fm, ho]
      refine Paired.app (Paired.impR pr2 fun v' R' hR hv => ?_) (.cons r6 .nil)
      obtain ⟨j, hj, ej⟩ := List.mem_filterMap.mp hR
      have hj' : j < n := Nat.lt_trans (List.mem_range.mp hj) hlt
      exact (hm j R' hj' ej).mono _ _ _ s6.g hv
  · have hi' : i = n := by omega
    subst hi'
    refine .inl ⟨it.stop H' (eg.trans s2.i), ?_⟩
    have s3 := s2.frz w.h hD
    refine k (.ref D) _ H' (s1.trans s3) ⟨D, vs, rfl, upd_same, Paired.impR pr fun v R hR hv => ?_⟩
    obtain ⟨j, hj, ej⟩ := List.mem_filterMap.mp hR
    exact (hm j R (List.mem_range.mp hj) ej).mono _ _ _ (Ex.new w.g) hv
theorem lstR_data {G : Hp} {v : V} {ds : List PyData} (h : LstR (ds.map RD) v G) : Rp G v (.list ds) := by
  obtain ⟨p, vs, rfl, hp, q⟩ := h
  have q2 := Paired.map_r (f := RD) (F := fun (v : V) (R : V → Hp → Prop) => R v G) q
  exact .lst hp (Paired.imp q2 fun x y r => r)
/-- .. of data -/
theorem ed_lc (hc : X.calm = true) (hN : X.N.Nodup) (hi : EI X tg iter σ G n Y) (ok : BlkOk X.N X.env.scope scope own) (out : Nat → Option PyData)
    (turn : ∀ i x G', Ex G G' → i < n → Y i x G' → Turn1 X σ tg ifs elt scope (own.map (·.2)) x G' ((out i).map RD)) (hn : n ≤ 100000) (hs : ∀ x, foldedSetIterable iter X.env x = pure x := by intro _; rfl) :
    ED X (.ListComp elt [⟨tg, iter, ifs, 0⟩] scope pos) σ G (.list ((List.range n).filterMap out)) := by
  refine (ee_lc hc hN hi ok (fun i => (out i).map RD) (fun i R _ e => ?_) turn hn hs).imp fun v G' _ r => lstR_data ?_
  · obtain ⟨d, _, rfl⟩ := Option.map_eq_some_iff.mp e
    exact inferInstance
  · rw [← List.map_filterMap] at r
    exact r
theorem range_fm {α β : Type} (f : α → Option β) : ∀ l : List α, (List.range l.length).filterMap (fun i => l[i]?.bind f) = l.filterMap f
  | [] => rfl
  | a :: l => by
    rw [List.length_cons, List.range_succ_eq_map, List.filterMap_cons, List.filterMap_map]
    have ih := range_fm f l
    have e : (fun i => (a :: l)[i]?.bind f) ∘ Nat.succ = fun i => l[i]?.bind f := by
      funext i
      simp
    rw [e, ih]
    cases h : f a with
    | none => simp [h]
    | some b => simp [h]
/-- .. over data, item by item -/
theorem ed_lcD {zs : List PyData} (hc : X.calm = true) (hN : X.N.Nodup) (hi : EI X tg iter σ G zs.length (YD zs)) (ok : BlkOk X.N X.env.scope scope own) (f : PyData → Option PyData)
    (turn : ∀ z x G', Ex G G' → z ∈ zs → Rp G' x z → Turn1 X σ tg ifs elt scope (own.map (·.2)) x G' ((f z).map RD)) (hn : zs.length ≤ 100000) (hs : ∀ x, foldedSetIterable iter X.env x = pure x := by intro _; rfl) :
    ED X (.ListComp elt [⟨tg, iter, ifs, 0⟩] scope pos) σ G (.list (zs.filterMap f)) := by
  rw [← range_fm]
  refine ed_lc hc hN hi ok _ (fun i x G' eg hlt y => ?_) hn hs
  obtain ⟨d, hd, r⟩ := y
  rw [hd]
  exact turn d x G' eg (List.mem_of_getElem? hd) r
theorem fm_some {α β : Type} (f : α → β) : ∀ l : List α, l.filterMap (fun a => some (f a)) = l.map f
  | [] => rfl
  | a :: l => by rw [List.filterMap_cons, fm_some f l] <;> rfl
/-- .. over items that some data describe: l the items, src their data, f what comes of each -/
theorem ed_lcM {α : Type} {l : List α} {src : α → PyData} (hc : X.calm = true) (hN : X.N.Nodup) (hi : EI X tg iter σ G (l.map src).length (YD (l.map src))) (ok : BlkOk X.N X.env.scope scope own) (f : α → Option PyData)
    (turn : ∀ (i : Nat) (z : α) (x : V) (G' : Hp), Ex G G' → l[i]? = some z → Rp G' x (src z) → Turn1 X σ tg ifs elt scope (own.map (·.2)) x G' ((f z).map RD)) (hn : l.length ≤ 100000) (hs : ∀ x, foldedSetIterable iter X.env x = pure x := by intro _; rfl) :
    ED X (.ListComp elt [⟨tg, iter, ifs, 0⟩] scope pos) σ G (.list (l.filterMap f)) := by
  rw [← range_fm]
  rw [List.length_map] at hi
  refine ed_lc hc hN hi ok _ (fun i x G' eg hlt y => ?_) hn hs
  obtain ⟨d, hd, r⟩ := y
  rw [List.getElem?_map] at hd
  obtain ⟨z, hz, rfl⟩ := Option.map_eq_some_iff.mp hd
  rw [hz]
  exact turn i z x G' eg hz r
end
end PG

/-! part Q4 -/
set_option Elab.async false
set_option linter.all false
set_option maxRecDepth 100000
set_option maxHeartbeats 8000000
/-! PG, rules of my own: the walk over zip of two (lists, tuples) that must end together. -/
namespace PG
open PySem PySem.Spec PyProof.Rows L2
open Sem (wp)
inductive Knd | l | t
def Knd.sq (K : PySem.W.Frag) (H : Hp) : Knd → Addr → List V → Prop
  | .l => SqL K H
  | .t => SqT K H
def Knd.iter (h : Heap) : Knd → Addr → Addr → Nat → Prop
  | .l => h.IsListIter
  | .t => h.IsTupleIter
def Knd.is (h : Heap) : Knd → Addr → Array Value → Prop
  | .l => h.IsList
  | .t => h.IsTuple
def Knd.obj : Knd → Addr → Obj
  | .l, a => { cls := .type "list_iterator", data := .fields #[.ref a, .int 0 0] }
  | .t, a => { cls := .type "tuple_iterator", data := .fields #[.ref a, .int 0 0] }
theorem Knd.begins (k : Knd) (a : Addr) (items : Array Value) : Begins (.ref a) (k.obj a) fun h => k.is h a items := by
  cases k
  · exact begins_list a items
  · exact begins_tuple a items
theorem Knd.draws {prog : Program} {w : World} {A : Around} (k : Knd) (hh : A.handled = none) (it a : Addr) (hne : a ≠ it) (items : Array Value) :
    Draws prog w A it [it, a] items.size (fun i v => items[i]? = some v) (fun i h => k.iter h it a i ∧ k.is h a items) := by
  cases k
  · exact Draws.list hh it a hne items
  · exact Draws.tuple hh it a hne items
theorem Knd.read {X : Cx} {pins : List (Addr × Obj)} {σ : L2.St} {H : Hp} {s : Shared} (k : Knd) {a : Addr} {xs : List V} (I : Inv X pins σ H s) (h : k.sq X.K H a xs) : ∃ its : List Value, Vals xs its ∧ k.is s.heap a its.toArray ∧ a < s.heap.objs.size := by
  cases k
  · obtain ⟨its, rv, p, _⟩ := I.list h
    exact ⟨its, rv, p.isList, p.lt⟩
  · obtain ⟨its, rv, p, _⟩ := I.tuple h
    exact ⟨its, rv, p, p.lt⟩
theorem Knd.inj {X : Cx} {pins : List (Addr × Obj)} {σ : L2.St} {H : Hp} {s : Shared} (k : Knd) {a : Addr} {xs ys : List V} (I : Inv X pins σ H s) (h : k.sq X.K H a xs) (h' : k.sq X.K H a ys) : xs = ys := by
  cases k
  · exact I.list_inj h h'
  · exact I.tuple_inj h h'
theorem Knd.iter_at {h h' : Heap} (k : Knd) {it a : Addr} {i : Nat} (q : k.iter h it a i) (hk : ∀ o, h.get? it = some o → h'.get? it = some o) : k.iter h' it a i := by
  cases k
  · exact Heap.IsListIter.at q hk
  · exact Heap.IsTupleIter.at q hk
theorem Knd.iter_ex {h : Heap} (k : Knd) {it a : Addr} {i : Nat} (q : k.iter h it a i) : ∃ o, h.get? it = some o ∧ ∀ v, o.data ≠ .cell v := by
  cases k
  · obtain ⟨o, ho, hc, hd⟩ := q
    exact ⟨o, ho, fun v z => by rw [hd] at z; cases z⟩
  · obtain ⟨o, ho, hc, hd⟩ := q
    exact ⟨o, ho, fun v z => by rw [hd] at z; cases z⟩
theorem Knd.is_ext {h h' : Heap} (k : Knd) {a : Addr} {items : Array Value} (q : k.is h a items) (hk : ∀ o, h.get? a = some o → h'.get? a = some o) : k.is h' a items := by
  cases k
  · exact Heap.IsList.at q hk
  · exact Heap.IsTuple.at q hk
theorem Knd.iter_new {h : Heap} (k : Knd) {it a : Addr} (q : h.get? it = some (k.obj a)) : k.iter h it a 0 := by
  cases k
  · exact ⟨_, q, rfl, rfl⟩
  · exact ⟨_, q, rfl, rfl⟩
theorem Knd.apart {h : Heap} (k : Knd) {it a : Addr} {i : Nat} {items : Array Value} (h1 : k.iter h it a i) (p : k.is h a items) : a ≠ it := fun e => by
  subst e
  cases k
  · obtain ⟨o, ho, hc', _⟩ := p
    obtain ⟨o', ho', hc'', _⟩ := h1
    rw [ho] at ho'
    cases ho'
    rw [hc'] at hc''
    injection hc'' with q
    exact absurd q (by decide)
  · obtain ⟨o, ho, hc', _⟩ := p
    obtain ⟨o', ho', hc'', _⟩ := h1
    rw [ho] at ho'
    cases ho'
    rw [hc'] at hc''
    injection hc'' with q
    exact absurd q (by decide)
/-- pairs of the items of two of one length -/
def ItzS (K : PySem.W.Frag) (k1 k2 : Knd) (a b : Addr) : It :=
  ⟨fun i H => ∃ (xs ys : List V) (x y : V), k1.sq K H a xs ∧ k2.sq K H b ys ∧ xs[i]? = some x ∧ ys[i]? = some y,
    fun i H v H' => ∃ T x y, v = .ref T ∧ H T = none ∧ H' = upd H T (.tup [x, y]) ∧ (∀ xs, k1.sq K H a xs → xs[i]? = some x) ∧ ∀ ys, k2.sq K H b ys → ys[i]? = some y,
    fun i H => ∃ xs ys : List V, k1.sq K H a xs ∧ k2.sq K H b ys ∧ xs.length = i ∧ ys.length = i⟩
theorem turn_zipS {P : Program} {w : World} {K : PySem.W.Frag} {elts : List Expr} {kk : Nat} {tpos : Pos} {k1 k2 : Knd} {a b z TI TO i1 i2 : Addr} (D : ZipSep2 z TI TO i1 i2 [i1, a] [i2, b]) :
    Turn P w K (.Tuple elts kk tpos) (ItzS K k1 k2 a b) [z, TI, TO, i1, i2] z (fun i h => IsZipS h z TI TO .none ∧ IsTupOf2 h TI (.ref i1) (.ref i2) ∧ (∃ x y, IsTupOf2 h TO x y) ∧ k1.iter h i1 a i ∧ k2.iter h i2 b i) where
  mem := by simp
  obj := fun i h st c hc => by
    obtain ⟨hz, hTI, ⟨x, y, hTO⟩, h1, h2⟩ := st
    have e' : c = z ∨ c = TI ∨ c = TO ∨ c = i1 ∨ c = i2 := by simpa using hc
    rcases e' with q | q | q | q | q
    · rw [q]; exact ⟨_, hz, fun v q => nomatch q⟩
    · rw [q]; exact ⟨_, hTI, fun v q => nomatch q⟩
    · rw [q]; exact ⟨_, hTO, fun v q => nomatch q⟩
    · rw [q]; exact k1.iter_ex h1
    · rw [q]; exact k2.iter_ex h2
  keep := fun i h h' st k => by
    obtain ⟨hz, hTI, ⟨x, y, hTO⟩, h1, h2⟩ := st
    exact ⟨k z (by simp) _ hz, k TI (by simp) _ hTI, ⟨x, y, k TO (by simp) _ hTO⟩, k1.iter_at h1 fun o q => k i1 (by simp) o q, k2.iter_at h2 fun o q => k i2 (by simp) o q⟩
  item := by
    intro X hP hw hK hc i pins s σ H E I hf st hg
    subst hP hw hK
    obtain ⟨hz, hTI, ⟨x0, y0, hTO⟩, h1, h2⟩ := st
    obtain ⟨xs, ys, x, y, hqx, hqy, hx, hy⟩ := hg
    obtain ⟨its, rv, p, la⟩ := k1.read I hqx
    obtain ⟨its2, rv2, p2, lb⟩ := k2.read I hqy
    obtain ⟨u, hu, ru⟩ := rv.get hx
    obtain ⟨u2, hu2, ru2⟩ := rv2.get hy
    have hzl : z < s.heap.objs.size := Heap.lt_size hz
    have hh : X.A.in1.handled = none := I.ok.hd hc
    have n1 : a ≠ i1 := k1.apart h1 p
    have n2 : b ≠ i2 := k2.apart h2 p2
    have hlt1 : i < its.toArray.size := by
      have := (List.getElem?_eq_some_iff.mp hu).1
      simpa using this
    have hlt2 : i < its2.toArray.size := by
      have := (List.getElem?_eq_some_iff.mp hu2).1
      simpa using this
    refine pyNext_zipS_item D (k1.draws hh i1 a n1 its.toArray) (k2.draws hh i2 b n2 its2.toArray) hz hTI hTO ⟨h1, p⟩ ⟨h2, p2⟩ hlt1 hlt2 fun x1 x2 h' tk hP1 hP2 z' TO' st1' st2' hT hsz hk => ?_
    have ex1 : x1 = u := by
      have q : its.toArray[i]? = some u := by simpa using hu
      rw [q] at hP1
      exact (Option.some.inj hP1).symm
    have ex2 : x2 = u2 := by
      have q : its2.toArray[i]? = some u2 := by simpa using hu2
      rw [q] at hP2
      exact (Option.some.inj hP2).symm
    subst ex1
    subst ex2
    refine ⟨_, rfl, letGo_zipS (s := { s with heap := h', toks := tk }) z' fun h'' z'' sb => ?_⟩
    have hT2 : h''.get? s.heap.objs.size = some { cls := .type "tuple", data := .seq #[x1, x2] } := (sb.2 _ (Nat.ne_of_gt hzl)).trans hT
    have new : ObjOk X.prog X.w (upd H s.heap.objs.size (.tup [x, y])) h'' s.heap.objs.size (.tup [x, y]) :=
      ⟨by show 2 ≤ sizeLine; decide, [x1, x2], .cons ru (.cons ru2 .nil), ⟨_, hT2, rfl, _, rfl⟩⟩
    have I1 : Inv X pins σ (upd H s.heap.objs.size (.tup [x, y])) { s with heap := h'', toks := tk } :=
      I.turnedNew (t' := tk) (ch := [z, TI, TO, i1, i2]) (fun c o hb q => (sb.2 c (fun q' => hb (by simp [q']))).trans (hk c o (fun q' => hb (by simp [q'])) (fun q' => hb (by simp [q'])) (fun q' => hb (by simp [q'])) (fun q' => hb (by simp [q'])) q)) hf (Nat.le_refl _) new
    refine ⟨.ref s.heap.objs.size, _, I1, rfl, ⟨_, x, y, rfl, I.hok.fresh (Nat.le_refl _), rfl, fun l hl => by rw [k1.inj I hl hqx]; exact hx, fun l hl => by rw [k2.inj I hl hqy]; exact hy⟩, ⟨z'', ?_, ⟨x1, x2, ?_⟩, ?_, ?_⟩, fun c hcm => ?_⟩
    · exact (sb.2 _ D.TIz).trans (hk _ _ D.TIz D.TITO D.TIi1 D.TIi2 hTI)
    · exact (sb.2 _ D.TOz).trans TO'
    · exact k1.iter_at st1'.1 fun o q => (sb.2 _ D.zi1.symm).trans q
    · exact k2.iter_at st2'.1 fun o q => (sb.2 _ D.zi2.symm).trans q
    · have hlt : c < s.heap.objs.size := by
        have e' : c = z ∨ c = TI ∨ c = TO ∨ c = i1 ∨ c = i2 := by simpa using hcm
        rcases e' with q | q | q | q | q
        · rw [q]; exact hzl
        · rw [q]; exact Heap.lt_size hTI
        · rw [q]; exact Heap.lt_size hTO
        · rw [q]; obtain ⟨_, e1, _⟩ := k1.iter_ex h1; exact Heap.lt_size e1
        · rw [q]; obtain ⟨_, e2, _⟩ := k2.iter_ex h2; exact Heap.lt_size e2
      rw [upd_ne (Nat.ne_of_lt hlt)]
      exact (hf c hcm).1
  done := by
    intro X hP hw hK hc i pins s σ H E I hf st hg
    subst hP hw hK
    obtain ⟨hz, hTI, ⟨x0, y0, hTO⟩, h1, h2⟩ := st
    obtain ⟨xs, ys, hqx, hqy, e1, e2⟩ := hg
    obtain ⟨its, rv, p, la⟩ := k1.read I hqx
    obtain ⟨its2, rv2, p2, lb⟩ := k2.read I hqy
    have l1 := rv.length
    have l2 := rv2.length
    have hh : X.A.in1.handled = none := I.ok.hd hc
    have n1 : a ≠ i1 := k1.apart h1 p
    have n2 : b ≠ i2 := k2.apart h2 p2
    have i1' : i = its.toArray.size := by simp; omega
    have i2' : i = its2.toArray.size := by simp; omega
    refine pyNext_zipS_end hh D (k1.draws hh i1 a n1 its.toArray) (k2.draws hh i2 b n2 its2.toArray) hz hTI hTO (by rw [← i1']; exact ⟨h1, p⟩) (by rw [← i2']; exact ⟨h2, p2⟩) (fun h h' x st q hx => ?_) fun h' tk hk => ⟨rfl, I.turnedL (t' := tk) (ch := [z, TI, TO, i1, i2]) (fun c o hb q =>
      hk c o (fun q' => hb (by simp [q'])) (fun q' => hb (by simp [q'])) (fun q' => hb (by simp [q'])) (fun q' => hb (by simp [q'])) q) hf⟩
    exact ⟨k2.iter_at st.1 fun o r => q _ _ (fun z => hx (by simp [z])) r, k2.is_ext st.2 fun o r => q _ _ (fun z => hx (by simp [z])) r⟩
  self := fun A i s Q E st h => pyIter_zipS st.1 h
def iZipS (K : PySem.W.Frag) (ta : TA) : TI := fun σ H R => ta σ H fun vs H1 => ∃ (k1 k2 : Knd) (a b : Addr) (xs ys : List V), vs = [.ref a, .ref b] ∧ k1.sq K H1 a xs ∧ k2.sq K H1 b ys ∧ R (ItzS K k1 k2 a b) H1
theorem pi_zipS {X : Cx} {e e2 : Expr} {ta : TA} {p pos tpos kp p3 : Pos} {j : Nat} {elts : List Expr} {kk : Nat} (hg : Gl X "zip") (hm : X.mg "zip" = none) (ha : PA X [e, e2] ta)
    (hs : backTo pos (starEach [e, e2] X.env) = (false, eval e X.env) :: backTo pos (starEach [e2] X.env) := by rfl) (hpl : (backTo pos (starEach [e, e2] X.env)).any (·.1) = false := by rfl) :
    PI X (.Tuple elts kk tpos) (.Call (.Name "zip" p) [e, e2] [⟨some "strict", .Constant (.bool true) j p3, kp⟩] pos) (iZipS X.K ta) := by
  refine ⟨fun pins s σ H R I h => ?_⟩
  refine wpAny_Call_Name_kw (ld_blt I hg hm PyProof.Rows.boot_zip ?_)
  refine callWith_typeK (thn (ha.run pos pins s σ H _ I h) fun us s1 ⟨vs, H1, I1, r1, q1⟩ => ?_) hs hpl rfl rfl
  obtain ⟨k1, k2, a, b, xs, ys, ex, hqx, hqy, q⟩ := q1
  subst ex
  refine PyProof.Rows.kws_cons (Constant_bool (PyProof.Rows.kws_nil ?_))
  cases r1 with
  | cons r rr =>
    cases rr with
    | cons r' rr =>
      cases rr
      cases r
      cases r'
      obtain ⟨its, rv, p1, la⟩ := k1.read I1 hqx
      obtain ⟨its2, rv2, p2, lb⟩ := k2.read I1 hqy
      show wpAny _ _ (call (.type "zip") [.ref a, .ref b] [(Str.ofString "strict", .bool true)]) _ _ _
      refine zipS_begins (k1.begins a its.toArray) (k2.begins b its2.toArray) p1 p2 fun h' hz hTI hTO h1 h2 hsz hk => pyIter_zipS hz ?_
      have I2 : Inv X pins σ H1 { s1 with heap := h' } := I1.kept (t' := s1.toks) hk
      refine ⟨s1.heap.objs.size + 4, [s1.heap.objs.size + 4, s1.heap.objs.size + 2, s1.heap.objs.size + 3, s1.heap.objs.size, s1.heap.objs.size + 1], _, _, H1, rfl, I2, turn_zipS (zip_sep2 (N := s1.heap.objs.size) (fp1 := [a]) (fp2 := [b]) (fun c hc => by simp at hc; rw [hc]; exact la) (fun c hc => by simp at hc; rw [hc]; exact lb)),
        ⟨hz, hTI, ⟨_, _, hTO⟩, k1.iter_new h1, k2.iter_new h2⟩, fun c hcm => ?_, q⟩
      have e' : c = s1.heap.objs.size + 4 ∨ c = s1.heap.objs.size + 2 ∨ c = s1.heap.objs.size + 3 ∨ c = s1.heap.objs.size ∨ c = s1.heap.objs.size + 1 := by simpa using hcm
      have hle : s1.heap.objs.size ≤ c := by
        rcases e' with z | z | z | z | z
        · rw [z]; exact Nat.le_add_right _ _
        · rw [z]; exact Nat.le_add_right _ _
        · rw [z]; exact Nat.le_add_right _ _
        · rw [z]; exact Nat.le_refl _
        · rw [z]; exact Nat.le_add_right _ _
      exact I1.fpOk hle (I1.hok.fresh hle)
section
variable {X : Cx} {σ : L2.St} {G H : Hp} {a b : Expr} {pos p kp p3 : Pos}
/-- a list or a tuple of these data -/
def seqD : Knd → List PyData → PyData
  | .l, ds => .list ds
  | .t, ds => .tuple ds
theorem seqD_eq {k : Knd} {ds : List PyData} {v : V} (h : Rp G v (seqD k ds)) : ∃ q xs, v = .ref q ∧ Paired (Rp G) xs ds ∧ ∀ (K : PySem.W.Frag) (H : Hp), Ex G H → k.sq K H q xs := by
  cases k
  · obtain ⟨q, xs, e, h1, h2⟩ := Rp.lst_eq h
    exact ⟨q, xs, e, h2, fun K H e => SqL.of (e _ _ h1)⟩
  · obtain ⟨q, xs, e, h1, h2⟩ := Rp.tup_rd h
    exact ⟨q, xs, e, h2, fun K H e => sqT_rd (rdX e h1)⟩
def YZ (ds ds' : List PyData) : Nat → V → Hp → Prop := fun i v G => ∃ d d' x y q, ds[i]? = some d ∧ ds'[i]? = some d' ∧ v = .ref q ∧ G q = some (.tup [x, y]) ∧ Rp G x d ∧ Rp G y d'
theorem ei_zipS {elts : List Expr} {kk j : Nat} {tpos : Pos} {k1 k2 : Knd} {ds ds' : List PyData} (ha : ED X a σ G (seqD k1 ds)) (hb : ED X b σ G (seqD k2 ds')) (hl : ds.length = ds'.length) (hm : X.mg "zip" = none) (hg : Gl X "zip" := by rfl)
    (he : starEach [a, b] X.env = (false, eval a X.env) :: starEach [b] X.env := by rfl) (he2 : starEach [b] X.env = (false, eval b X.env) :: starEach [] X.env := by rfl)
    (hs : backTo pos (starEach [a, b] X.env) = (false, eval a X.env) :: backTo pos (starEach [b] X.env) := by rfl) (hpl : (backTo pos (starEach [a, b] X.env)).any (·.1) = false := by rfl) :
    EI X (.Tuple elts kk tpos) (.Call (.Name "zip" p) [a, b] [⟨some "strict", .Constant (.bool true) j p3, kp⟩] pos) σ G ds.length (YZ ds ds') := fun H R e k =>
  ⟨_, pi_zipS hg hm (pa_self _) hs hpl, (ea_cons ha (ea1 hb he2) he) H _ e fun vs G1 H1 s r0 => by
    obtain ⟨v, v', rfl, r1, r2⟩ := ACons.two r0
    obtain ⟨q, xs, rfl, px, hx⟩ := seqD_eq r1
    obtain ⟨q', ys, rfl, py, hy⟩ := seqD_eq r2
    refine ⟨k1, k2, q, q', xs, ys, rfl, hx _ _ s.i, hy _ _ s.i, k _ G1 H1 s ⟨fun H e => ?_, fun i H e hi => ?_, fun i G' H v H' eg e hi y => ?_⟩⟩
    · exact ⟨xs, ys, hx _ _ e, hy _ _ e, Paired.length px, by rw [Paired.length py, hl]⟩
    · exact ⟨xs, ys, _, _, hx _ _ e, hy _ _ e, List.getElem?_eq_getElem (by rw [Paired.length px]; exact hi), List.getElem?_eq_getElem (by rw [Paired.length py, ← hl]; exact hi)⟩
    · obtain ⟨T, x, y, rfl, hT, rfl, h1, h2⟩ := y
      obtain ⟨d, hd, rd⟩ := Paired.getL px (h1 xs (hx _ _ (eg.trans e)))
      obtain ⟨d', hd', rd'⟩ := Paired.getL py (h2 ys (hy _ _ (eg.trans e)))
      have up := Ex.new (o := .tup [x, y]) (e.none hT)
      exact ⟨_, Stp.newP e hT, d, d', x, y, T, hd, hd', rfl, upd_same, Rp.mono (eg.trans up) _ _ rd, Rp.mono (eg.trans up) _ _ rd'⟩⟩
end
end PG

/-! part P6 -/
set_option Elab.async false
set_option linter.all false
set_option maxRecDepth 100000
set_option maxHeartbeats 4000000
/-! PG, part 6: a def's promise by its body. -/
namespace PG
open PySem PySem.Spec PyProof.Rows L2
section
variable {P : Program} {w : World} {K : PySem.W.Frag} {mg : Str → Option Value} {base : Heap}
/-- the context of a def's body that lets no error out -/
abbrev XB (P : Program) (w : World) (K : PySem.W.Frag) (mg : Str → Option Value) (base : Heap) (N : List Str) (qual : Str) (scope : Scope) (f : Addr) (cdv : Value) (A : Around) (outer : List Env) (s : Shared) (H : Hp) (E : XK) : Cx :=
  (cxOf CX0 P w K mg base N qual scope f cdv A outer s H E).nox
theorem fn_pur {k : Nat} {nm qual : Str} {st : Stmt} {dvs : List V} {kws : List (Str × V)} {f : Addr} {fd : FuncData} {N ps : List Str} {pre : List V → Hp → (V → Hp → Prop) → Prop} (F : FunD K nm qual (defArgs st) (defBody st) (defScope st) dvs kws f fd) (S : FnScope N ps (defScope st))
    (len : ∀ vs G R, pre vs G R → vs.length = ps.length)
    (body : ∀ (cdv : Value) (A : Around) (outer : List Env) (s : Shared) (H : Hp) (vs : List V) (Q : VK) (E : XK), Room k (A.deeper (envOfC qual (defScope st) s.heap.objs.size f cdv)) → ∀ G R, Ex G H → pre vs G R → (∀ v G' H', Stp [] G H G' H' → R v G' → Q v H') →
      WS (XB P w K mg base N qual (defScope st) f cdv A outer s H E) (defBody st) { nx := fun _ H' => Q .non H', rt := Q } (start N vs) H) : FnOk P w K mg base CX0 (k + 1) f fd ps (Pur pre) :=
  F.ok S (fun vs H Q E ⟨G, R, _, h, _⟩ => len vs G R h) (fun cdv A outer s H vs Q E hr ⟨G, R, ex, h, q⟩ => ⟨_, PSs.nox (pss_self _), body cdv A outer s H vs Q E hr G R ex h q⟩)
theorem cal_pur {k : Nat} {x nm : Str} {st : Stmt} {dvs : List V} {ds : List Value} {kws : List (Str × V)} {f : Addr} {fd : FuncData} {N ps : List Str} {pre : List V → Hp → (V → Hp → Prop) → Prop} (F : FunD K nm nm (defArgs st) (defBody st) (defScope st) dvs kws f fd) (hm : mg x = some (.ref f)) {evs : List V} (b : Binds K fd ps ds) (d : Vals evs ds) (S : FnScope N ps (defScope st))
    (len : ∀ vs G R, pre vs G R → vs.length = ps.length)
    (body : ∀ (cdv : Value) (A : Around) (outer : List Env) (s : Shared) (H : Hp) (vs : List V) (Q : VK) (E : XK), Room k (A.deeper (envOfC nm (defScope st) s.heap.objs.size f cdv)) → ∀ G R, Ex G H → pre vs G R → (∀ v G' H', Stp [] G H G' H' → R v G' → Q v H') →
      WS (XB P w K mg base N nm (defScope st) f cdv A outer s H E) (defBody st) { nx := fun _ H' => Q .non H', rt := Q } (start N vs) H) : C8.Cal P w K mg base (k + 1) x (Pur pre) evs :=
  ⟨f, fd, ps, ds, fn_pur F S len body, hm, F.kp, b, d⟩
theorem met_pur {k : Nat} {m qual : Str} {C : Addr} {st : Stmt} {dvs : List V} {ds : List Value} {kws : List (Str × V)} {f : Addr} {fd : FuncData} {N ps : List Str} {pre : List V → Hp → (V → Hp → Prop) → Prop} (F : FunD K m qual (defArgs st) (defBody st) (defScope st) dvs kws f fd) (c : Cls K C) (hm : Meth K C m f) {evs : List V} (b : Binds K fd ps ds) (d : Vals evs ds) (S : FnScope N ps (defScope st))
    (len : ∀ vs G R, pre vs G R → vs.length = ps.length)
    (body : ∀ (cdv : Value) (A : Around) (outer : List Env) (s : Shared) (H : Hp) (vs : List V) (Q : VK) (E : XK), Room k (A.deeper (envOfC qual (defScope st) s.heap.objs.size f cdv)) → ∀ G R, Ex G H → pre vs G R → (∀ v G' H', Stp [] G H G' H' → R v G' → Q v H') →
      WS (XB P w K mg base N qual (defScope st) f cdv A outer s H E) (defBody st) { nx := fun _ H' => Q .non H', rt := Q } (start N vs) H) : C8.Met P w K mg base (k + 1) C m (Pur pre) evs :=
  ⟨f, fd, ps, ds, c, hm, fn_pur F S len body, b, d⟩
/-- what comes back is data -/
def PurD (pre : List V → Hp → PyData → Prop) : Sp := Pur fun vs G R => ∃ d, pre vs G d ∧ R = RD d
section
variable {X : Cx} {σ : L2.St} {G : Hp} {e : Expr} {es : List Expr} {Rs : List V → Hp → Prop} {pos p : Pos}
theorem ed_call {k j : Nat} {x : Str} {pre : List V → Hp → PyData → Prop} {dvs : List V} {d : PyData} (c : C8.Cal X.prog X.w X.K X.mg X.base k x (PurD pre) dvs) (hr : Room j X.A) (hk : k ≤ j) (ha : EA X (e :: es) σ G Rs)
    (hp : ∀ vs G', Ex G G' → Rs vs G' → pre (vs ++ dvs) G' d) (hg : Gl X x := by rfl) (hdb : (x == ("__debug__" : Str)) = false := by decide) (he : starEach (e :: es) X.env = (false, eval e X.env) :: starEach es X.env := by rfl) (hpl : (backTo pos (starEach es X.env)).any (·.1) = false := by rfl) :
    ED X (.Call (.Name x p) (e :: es) [] pos) σ G d := ee_call c hr hk hg ha (fun vs G' eg r => ⟨d, hp vs G' eg r, rfl⟩) hdb he hpl
end
end
end PG

/-! part P7 -/
set_option Elab.async false
set_option linter.all false
set_option maxRecDepth 100000
set_option maxHeartbeats 4000000
/-! PG, part 7: promises one by one; more rules. -/
namespace PG
open PySem PySem.Spec PyProof.Rows L2
class LenA (A : List V → Hp → Prop) (n : outParam Nat) : Prop where
  len : ∀ vs G, A vs G → vs.length = n
instance : LenA ANil 0 := ⟨fun vs G h => by rw [show vs = [] from h]; rfl⟩
instance (R : V → Hp → Prop) (Rs : List V → Hp → Prop) (n : Nat) [l : LenA Rs n] : LenA (ACons R Rs) (n + 1) := ⟨fun vs G ⟨v, r, h1, _, h3⟩ => by rw [h1, List.length_cons, l.len r G h3]⟩
section
variable {P : Program} {w : World} {K : PySem.W.Frag} {mg : Str → Option Value} {base : Heap}
/-- the promise: arguments of A give a value of R -/
def Pr (A : List V → Hp → Prop) (R : V → Hp → Prop) : Sp := Pur fun vs G R' => A vs G ∧ R' = R
/-- a body keeps it -/
abbrev BodyP (P : Program) (w : World) (K : PySem.W.Frag) (mg : Str → Option Value) (base : Heap) (N : List Str) (qual : Str) (st : Stmt) (f : Addr) (k : Nat) (A : List V → Hp → Prop) (R : V → Hp → Prop) : Prop :=
  ∀ (cdv : Value) (Ar : Around) (outer : List Env) (s : Shared) (H : Hp) (vs : List V) (Q : VK) (E : XK), Room k (Ar.deeper (envOfC qual (defScope st) s.heap.objs.size f cdv)) → ∀ G, Ex G H → A vs G → (∀ v G' H', Stp [] G H G' H' → R v G' → Q v H') →
      WS (XB P w K mg base N qual (defScope st) f cdv Ar outer s H E) (defBody st) { nx := fun _ H' => Q .non H', rt := Q } (start N vs) H
theorem cal_pr {k : Nat} {x nm : Str} {st : Stmt} {dvs : List V} {ds : List Value} {kws : List (Str × V)} {f : Addr} {fd : FuncData} {N ps : List Str} {A : List V → Hp → Prop} {R : V → Hp → Prop} (F : FunD K nm nm (defArgs st) (defBody st) (defScope st) dvs kws f fd) (hm : mg x = some (.ref f)) {evs : List V} (b : Binds K fd ps ds) (d : Vals evs ds) (S : FnScope N ps (defScope st))
    (len : ∀ vs G, A vs G → vs.length = ps.length) (body : BodyP P w K mg base N nm st f k A R) : C8.Cal P w K mg base (k + 1) x (Pr A R) evs :=
  cal_pur F hm b d S (fun vs G R' h => len vs G h.1) fun cdv Ar outer s H vs Q E hr G R' ex h q => by
    obtain ⟨h, rfl⟩ := h
    exact body cdv Ar outer s H vs Q E hr G ex h q
theorem met_pr {k : Nat} {m qual : Str} {C : Addr} {st : Stmt} {dvs : List V} {ds : List Value} {kws : List (Str × V)} {f : Addr} {fd : FuncData} {N ps : List Str} {A : List V → Hp → Prop} {R : V → Hp → Prop} (F : FunD K m qual (defArgs st) (defBody st) (defScope st) dvs kws f fd) (c : Cls K C) (hm : Meth K C m f) {evs : List V} (b : Binds K fd ps ds) (d : Vals evs ds) (S : FnScope N ps (defScope st))
    (len : ∀ vs G, A vs G → vs.length = ps.length) (body : BodyP P w K mg base N qual st f k A R) : C8.Met P w K mg base (k + 1) C m (Pr A R) evs :=
  met_pur F c hm b d S (fun vs G R' h => len vs G h.1) fun cdv Ar outer s H vs Q E hr G R' ex h q => by
    obtain ⟨h, rfl⟩ := h
    exact body cdv Ar outer s H vs Q E hr G ex h q
end
section
variable {X : Cx} {σ : L2.St} {G G1 H : Hp} {e a b c o l : Expr} {es : List Expr} {R R' Ra Rb : V → Hp → Prop} {Rs : List V → Hp → Prop} {pos p apos : Pos}
theorem ee_cal {k j : Nat} {x : Str} {A : List V → Hp → Prop} (c : C8.Cal X.prog X.w X.K X.mg X.base k x (Pr A R) []) (hr : Room j X.A) (ha : EA X (e :: es) σ G A) (hk : k ≤ j := by decide)
    (hg : Gl X x := by rfl) (hdb : (x == ("__debug__" : Str)) = false := by decide) (he : starEach (e :: es) X.env = (false, eval e X.env) :: starEach es X.env := by rfl) (hpl : (backTo pos (starEach es X.env)).any (·.1) = false := by rfl) :
    EE X (.Call (.Name x p) (e :: es) [] pos) σ G R := ee_call c hr hk hg ha (fun vs G' eg r => ⟨by rw [List.append_nil]; exact r, rfl⟩) hdb he hpl
theorem ee_mcal {k j : Nat} {C q dx : Addr} {fs : List (Str × V)} {m : Str} {R0 : V → Hp → Prop} {A : List V → Hp → Prop} {pl : Sem Bool} (c : C8.Met X.prog X.w X.K X.mg X.base k C m (Pr (ACons R0 A) R) []) (hr : Room j X.A)
    (ho : EE X o σ G (RV (.ref q))) (hq : G q = some (.ins C dx fs)) (hl : fs.lookup m = none) [mA : MonoA A] [m0 : MonoR R0] (h0 : R0 (.ref q) G) (ha : EA X (e :: es) σ G A) (hk : k ≤ j := by decide)
    (hst : starEach (e :: es) X.env = (false, eval e X.env) :: starEach es X.env := by rfl) (hpl : (backTo pos (starEach es X.env)).any (·.1) = false := by rfl)
    (ht : eval (.Call (.Attribute o m apos) (e :: es) [] pos) X.env = (do
      let ov ← eval o X.env
      standAt apos.atName
      let (f, first) ← holding [ov] (getMethod ov m pl)
      callWith pos f first (backTo pos (starEach (e :: es) X.env)) (backToKw pos (keywordEach [] X.env))) := by rfl) :
    EE X (.Call (.Attribute o m apos) (e :: es) [] pos) σ G R := ee_meth c hr hk ho hq hl ha (fun vs G' eg r => ⟨⟨_, _, rfl, m0.mono _ _ _ eg h0, by rw [List.append_nil]; exact r⟩, rfl⟩) hst hpl ht
theorem ee_mcal0 {k j : Nat} {C q dx : Addr} {fs : List (Str × V)} {m : Str} {R0 : V → Hp → Prop} {pl : Sem Bool} (c : C8.Met X.prog X.w X.K X.mg X.base k C m (Pr (ACons R0 ANil) R) []) (hr : Room j X.A)
    (ho : EE X o σ G (RV (.ref q))) (hq : G q = some (.ins C dx fs)) (hl : fs.lookup m = none) [m0 : MonoR R0] (h0 : R0 (.ref q) G) (hk : k ≤ j := by decide)
    (ht : eval (.Call (.Attribute o m apos) [] [] pos) X.env = (do
      let ov ← eval o X.env
      standAt apos.atName
      let (f, first) ← holding [ov] (getMethod ov m pl)
      callWith pos f first (backTo pos (starEach [] X.env)) (backToKw pos (keywordEach [] X.env))) := by rfl) :
    EE X (.Call (.Attribute o m apos) [] [] pos) σ G R := ee_meth0 c hr hk ho hq hl (fun G' eg => ⟨⟨_, _, rfl, m0.mono _ _ _ eg h0, rfl⟩, rfl⟩) ht
theorem ACons.three {R'' : V → Hp → Prop} {vs : List V} (h : ACons R (ACons R' (ACons R'' ANil)) vs G) : ∃ v v' v'', vs = [v, v', v''] ∧ R v G ∧ R' v' G ∧ R'' v'' G := by
  obtain ⟨v, r, rfl, h1, v', r', rfl, h2, v'', r'', rfl, h3, rfl⟩ := h
  exact ⟨v, v', v'', rfl, h1, h2, h3⟩
/-! chains -/
theorem ed_ch {op op' : CmpOp} {f g : Int → Int → Bool} {i j k : Int} (ho : OpR X (compareOp op) (rI0 fun i j => .bl (f i j))) (ho' : OpR X (compareOp op') (rI0 fun i j => .bl (g i j))) (ha : ED X a σ G (.int i)) (hb : ED X b σ G (.int j)) (hc : ED X c σ G (.int k))
    (hm : lastMarks [op, op'] [b, c] = false := by with_unfolding_all rfl) : ED X (.Compare a [op, op'] [b, c] pos) σ G (.bool (f i j && g j k)) := fun H Q e q =>
  ⟨_, pe_chain ho ho' (pe_self a) (pe_self b) (pe_self c) hm, two ha hb e fun x y G' H' s rx ry => by
    refine ⟨i, j, rx.int_eq, ry.int_eq, f i j, rfl, ?_⟩
    cases h : f i j with
    | true =>
      refine iteT ((hc.mono s.g) H' _ s.i fun z G2 H2 s2 rz => ⟨j, k, ry.int_eq, rz.int_eq, ?_⟩)
      have := q (.bl (f i j && g j k)) G2 H2 (s.trans s2) (.bl _)
      rw [h, Bool.true_and] at this
      exact this
    | false =>
      refine iteF ?_
      have := q (.bl (f i j && g j k)) G' H' s (.bl _)
      rw [h, Bool.false_and] at this
      exact this⟩
theorem et_ch {op op' : CmpOp} {f g : Int → Int → Bool} {i j k : Int} (ho : OpR X (compareOp op) (rI0 fun i j => .bl (f i j))) (ho' : OpR X (compareOp op') (rI0 fun i j => .bl (g i j))) (ha : ED X a σ G (.int i)) (hb : ED X b σ G (.int j)) (hc : ED X c σ G (.int k))
    (hm : lastMarks [op, op'] [b, c] = false := by with_unfolding_all rfl) : ET X (.Compare a [op, op'] [b, c] pos) σ G (f i j && g j k) := fun H Q e q =>
  ⟨_, pt_chain ho ho' (pe_self a) (pe_self b) (pe_self c) hm, two ha hb e fun x y G' H' s rx ry => by
    refine ⟨i, j, rx.int_eq, ry.int_eq, f i j, rfl, ?_⟩
    cases h : f i j with
    | true =>
      refine iteT ((hc.mono s.g) H' _ s.i fun z G2 H2 s2 rz => ⟨j, k, ry.int_eq, rz.int_eq, g j k, rfl, ?_⟩)
      have := q H2 (s.trans s2).keepG
      rw [h, Bool.true_and] at this
      exact this
    | false =>
      refine iteF ⟨false, rfl, ?_⟩
      have := q H' s.keepG
      rw [h, Bool.false_and] at this
      exact this⟩
/-! in -/
theorem ed_inSign {c : Nat} {z : Str} (ha : ED X a σ G (.str ⟨#[c]⟩)) (hb : ED X b σ G (.str z)) (hm : behindInMarks .In b = false := by with_unfolding_all rfl) : ED X (.Compare a [.In] [b] pos) σ G (.bool (decide (c ∈ z.cps.toList))) :=
  ee_cmp op_inS ha hb (fun x y G' _ rx ry => by
    rw [rx.str_eq, ry.str_eq]
    exact .val (fun H Q _ q => ⟨c, z, rfl, rfl, q⟩) (.bl _)) hm
theorem et_inSeq {p' : Addr} {x : V} {xs : List V} (ha : EE X a σ G (RV x)) (hb : EE X b σ G (RV (.ref p'))) (hx : ∀ H, Ex G H → SqL X.K H p' xs ∨ SqT X.K H p' xs) (fx : flatV x = true) (fs : xs.all flatV = true) (hm : behindInMarks .In b = false := by with_unfolding_all rfl) : ET X (.Compare a [.In] [b] pos) σ G (inV x xs) :=
  et_cmp op_in_seq ha hb (fun x' y G' eg rx ry => by
    rw [show x' = x from rx, show y = .ref p' from ry]
    exact .val (fun H Q e q => ⟨p', xs, rfl, hx H (eg.trans e), fx, fs, q⟩) (.bl _)) hm
theorem et_notInSeq {p' : Addr} {x : V} {xs : List V} (ha : EE X a σ G (RV x)) (hb : EE X b σ G (RV (.ref p'))) (hx : ∀ H, Ex G H → SqL X.K H p' xs ∨ SqT X.K H p' xs) (fx : flatV x = true) (fs : xs.all flatV = true) (hm : behindInMarks .NotIn b = false := by with_unfolding_all rfl) : ET X (.Compare a [.NotIn] [b] pos) σ G (!inV x xs) :=
  et_cmp op_notIn_seq ha hb (fun x' y G' eg rx ry => by
    rw [show x' = x from rx, show y = .ref p' from ry]
    exact .val (fun H Q e q => ⟨p', xs, rfl, hx H (eg.trans e), fx, fs, q⟩) (.bl _)) hm
theorem ed_inSeq {p' : Addr} {x : V} {xs : List V} (ha : EE X a σ G (RV x)) (hb : EE X b σ G (RV (.ref p'))) (hx : ∀ H, Ex G H → SqL X.K H p' xs ∨ SqT X.K H p' xs) (fx : flatV x = true) (fs : xs.all flatV = true) (hm : behindInMarks .In b = false := by with_unfolding_all rfl) : ED X (.Compare a [.In] [b] pos) σ G (.bool (inV x xs)) :=
  ee_cmp op_in_seq ha hb (fun x' y G' eg rx ry => by
    rw [show x' = x from rx, show y = .ref p' from ry]
    exact .val (fun H Q e q => ⟨p', xs, rfl, hx H (eg.trans e), fx, fs, q⟩) (.bl _)) hm
/-- in a list of data; by equality of data -/
theorem units65 {k : Nat} {A : Around} (r : Room (k + 1) A) : A.units + 65 < cLine := by have := r.un; omega
theorem et_inD {k : Nat} {d : PyData} {ds : List PyData} (hr : Room (k + 1) X.A) (ha : ED X a σ G d) (hb : ED X b σ G (.list ds)) (sd : SeqAt.shaped d = true) (se : SeqAt.shaped (.list ds) = true) (hm : behindInMarks .In b = false := by with_unfolding_all rfl) : ET X (.Compare a [.In] [b] pos) σ G (ds.any fun z => PyData.eqv z d) :=
  et_cmp (op_inD (units65 hr)) ha hb (fun x y G' _ rx ry => .val (fun H Q e q => ⟨d, ds, Rp.dp _ _ _ (Rp.mono e _ _ rx), Rp.dp _ _ _ (Rp.mono e _ _ ry), sd, se, q⟩) (.bl _)) hm
theorem et_notInD {k : Nat} {d : PyData} {ds : List PyData} (hr : Room (k + 1) X.A) (ha : ED X a σ G d) (hb : ED X b σ G (.list ds)) (sd : SeqAt.shaped d = true) (se : SeqAt.shaped (.list ds) = true) (hm : behindInMarks .NotIn b = false := by with_unfolding_all rfl) : ET X (.Compare a [.NotIn] [b] pos) σ G (!ds.any fun z => PyData.eqv z d) :=
  et_cmp (op_notInD (units65 hr)) ha hb (fun x y G' _ rx ry => .val (fun H Q e q => ⟨d, ds, Rp.dp _ _ _ (Rp.mono e _ _ rx), Rp.dp _ _ _ (Rp.mono e _ _ ry), sd, se, q⟩) (.bl _)) hm
/-! adding texts, tuples, lists -/
theorem ed_addS {y z : Str} (ha : ED X a σ G (.str y)) (hb : ED X b σ G (.str z)) (hl : y.length + z.length ≤ 100000 := by decide) : ED X (.BinOp a .Add b pos) σ G (.str (y ++ z)) :=
  ee_op op_add_str ha hb fun x y' G' _ rx ry => by
    rw [rx.str_eq, ry.str_eq]
    exact .val (fun H Q _ q => ⟨y, z, rfl, rfl, small hl, q⟩) (.str _)
theorem ed_addT {ds ds' : List PyData} (ha : ED X a σ G (.tuple ds)) (hb : ED X b σ G (.tuple ds')) (hl : ds.length + ds'.length ≤ 100000) : ED X (.BinOp a .Add b pos) σ G (.tuple (ds ++ ds')) :=
  ee_op op_catA ha hb fun x y G' _ rx ry => by
    obtain ⟨q1, xs, rfl, h1, p1⟩ := rx.tup_rd
    obtain ⟨q2, ys, rfl, h2, p2⟩ := ry.tup_rd
    refine fun H Q e k => ⟨q1, q2, xs, ys, rfl, rfl, sqT_rd (rdX e h1), sqT_rd (rdX e h2), small (by rw [Paired.length p1, Paired.length p2]; exact hl), fun z => ?_, fun _ z => ?_, fun _ _ t ht => ?_⟩
    · subst z
      cases p1
      exact k _ _ _ (Stp.refl e) ry
    · subst z
      cases p2
      rw [List.append_nil] at k
      exact k _ _ _ (Stp.refl e) rx
    · exact k _ _ _ (Stp.newP e ht) (.tup upd_same (Rp.monoAll (Ex.new (e.none ht)) _ _ (Paired.app p1 p2)))
theorem ed_addL {ds ds' : List PyData} (ha : ED X a σ G (.list ds)) (hb : ED X b σ G (.list ds')) (hl : ds.length + ds'.length ≤ 100000) : ED X (.BinOp a .Add b pos) σ G (.list (ds ++ ds')) :=
  ee_op op_cat ha hb fun x y G' _ rx ry => by
    obtain ⟨q1, xs, rfl, h1, p1⟩ := rx.lst_eq
    obtain ⟨q2, ys, rfl, h2, p2⟩ := ry.lst_eq
    exact fun H Q e k => ⟨q1, q2, xs, ys, rfl, rfl, e _ _ h1, e _ _ h2, small (by rw [Paired.length p1, Paired.length p2]; exact hl), fun t ht => k _ _ _ (Stp.newP e ht) (.lst upd_same (Rp.monoAll (Ex.new (e.none ht)) _ _ (Paired.app p1 p2)))⟩
/-! slices -/
theorem paired_take {α β : Type} {F : α → β → Prop} : ∀ (n : Nat) {xs : List α} {ys : List β}, Paired F xs ys → Paired F (xs.take n) (ys.take n)
  | 0, _, _, _ => by simp; exact .nil
  | n + 1, _, _, .nil => by simp; exact .nil
  | n + 1, _, _, .cons r t => by simp; exact .cons r (paired_take n t)
theorem paired_drop {α β : Type} {F : α → β → Prop} : ∀ (n : Nat) {xs : List α} {ys : List β}, Paired F xs ys → Paired F (xs.drop n) (ys.drop n)
  | 0, _, _, h => by simpa using h
  | n + 1, _, _, .nil => by simp; exact .nil
  | n + 1, _, _, .cons r t => by simp; exact paired_drop n t
def cutD (ds : List PyData) (lo hi : Option Int) : List PyData := (ds.drop (HT.sIx ds.length 0 lo)).take (HT.sIx ds.length ds.length hi - HT.sIx ds.length 0 lo)
theorem cut_paired {F : V → PyData → Prop} {xs : List V} {ds : List PyData} {lo hi : Option Int} (h : Paired F xs ds) : Paired F (cutV xs lo hi) (cutD ds lo hi) := by
  unfold cutV cutD
  rw [Paired.length h]
  exact paired_take _ (paired_drop _ h)
/-- a bound of a slice: a number, or none -/
def EO (X : Cx) (e : Option Expr) (σ : L2.St) (G : Hp) (i : Option Int) : Prop := ∀ (H : Hp) (Q : Option Int → Hp → Prop), Ex G H → (∀ H', Stp [] G H G H' → Q i H') → ∃ t, PO X e t ∧ t σ H Q
theorem eo_int {i : Int} (h : ED X e σ G (.int i)) : EO X (some e) σ G (some i) := fun H Q e1 k => ⟨_, po_some (pe_self e), h H _ e1 fun v G' H' s r => ⟨i, r.int_eq, k H' s.keepG⟩⟩
theorem EO.mono {lo : Option Expr} {i : Option Int} (h : EO X lo σ G i) (eg : Ex G G1) : EO X lo σ G1 i := fun H Q e1 k => h H Q (eg.trans e1) fun H' s => k H' (s.lift e1 eg).1.keepG
def WO (X : Cx) (e : Option Expr) : TO := fun σ H Q => ∃ t, PO X e t ∧ t σ H Q
theorem po_self (e : Option Expr) : PO X e (WO X e) := ⟨fun pins s σ H Q I ⟨_, p, h⟩ => p.run pins s σ H Q I h⟩
theorem ed_slT {lo hi : Option Expr} {i j : Option Int} {ds : List PyData} {p2 : Pos} (ha : ED X a σ G (.tuple ds)) (hl : EO X lo σ G i) (hh : EO X hi σ G j) : ED X (.Subscript a (.Slice lo hi none p2) pos) σ G (.tuple (cutD ds i j)) := fun H Q e k =>
  ⟨_, pe_slice sl_tupA (pe_self a) (po_self lo) (po_self hi), ha H _ e fun v G1 H1 s1 r1 => (hl.mono s1.g) H1 _ s1.i fun H2 s2 => (hh.mono s1.g) H2 _ s2.i fun H3 s3 => by
    have s := (s1.trans s2).trans s3
    obtain ⟨q, xs, rfl, h1, h2⟩ := Rp.tup_rd r1
    refine ⟨q, xs, rfl, sqT_rd (rdX s.i h1), fun z => k _ _ _ s ?_, fun _ t ht => k _ _ _ (s.trans (Stp.newP s.i ht)) (.tup upd_same (Rp.monoAll (Ex.new (s.i.none ht)) _ _ (cut_paired h2)))⟩
    have : cutD ds i j = ds := by
      unfold cutD
      rw [← Paired.length h2, z.1, z.2, Paired.length h2]
      simp
    rw [this]
    exact r1⟩
theorem ed_slL {lo hi : Option Expr} {i j : Option Int} {ds : List PyData} {p2 : Pos} (ha : ED X a σ G (.list ds)) (hl : EO X lo σ G i) (hh : EO X hi σ G j) : ED X (.Subscript a (.Slice lo hi none p2) pos) σ G (.list (cutD ds i j)) := fun H Q e k =>
  ⟨_, pe_slice sl_list (pe_self a) (po_self lo) (po_self hi), ha H _ e fun v G1 H1 s1 r1 => (hl.mono s1.g) H1 _ s1.i fun H2 s2 => (hh.mono s1.g) H2 _ s2.i fun H3 s3 => by
    have s := (s1.trans s2).trans s3
    obtain ⟨q, xs, rfl, h1, h2⟩ := Rp.lst_eq r1
    exact ⟨q, xs, rfl, SqL.of (s.i _ _ h1), fun t ht => k _ _ _ (s.trans (Stp.newP s.i ht)) (.lst upd_same (Rp.monoAll (Ex.new (s.i.none ht)) _ _ (cut_paired h2)))⟩⟩
theorem eo_none : EO X none σ G none := fun H Q e k => ⟨_, po_none, k H (Stp.refl e)⟩
end
end PG

/-! part Sc -/
set_option Elab.async false
set_option linter.all false
set_option maxRecDepth 100000
set_option maxHeartbeats 4000000
/-! TK: slots, scopes, bindings of the defs; written by gen_sc.py. -/
namespace TK
open PySem PySem.Spec PyProof.Rows L2 PG
variable {P : Program} {w : World} {K : PySem.W.Frag} {mg : Str → Option Value} {base : Heap}
/-! TooGreat_init: 0 self 1 most -/
abbrev N_TooGreat_init : List Str := ["self", "most"]
theorem sc_TooGreat_init : FnScope N_TooGreat_init ["self", "most"] (defScope s_TooGreat_init) := ⟨rfl, rfl, rfl, by decide +kernel, rfl, by decide +kernel, by decide +kernel⟩
/-! is_count_nets: 0 thing 1 least -/
abbrev N_is_count_nets : List Str := ["thing", "least"]
theorem sc_is_count_nets : FnScope N_is_count_nets ["thing", "least"] (defScope s_is_count_nets) := ⟨rfl, rfl, rfl, by decide +kernel, rfl, by decide +kernel, by decide +kernel⟩
theorem bd_is_count_nets {fd : FuncData} {f : Addr} (F : FunD K "is_count" "is_count" (defArgs s_is_count_nets) (defBody s_is_count_nets) (defScope s_is_count_nets) [] []  f fd) : Binds K fd ["thing", "least"] [] := F.bindsN fun _ _ _ _ _ _ us hl => match us, hl with | [_, _], _ => rfl
theorem cl_is_count_nets (E : Env K mg) {k : Nat} {A : List V → Hp → Prop} {R : V → Hp → Prop} [l : LenA A 2] (body : BodyP P w K mg base N_is_count_nets "is_count" s_is_count_nets (He.fAd K ("is_count_nets", none)) k A R) : C8.Cal P w K mg base (k + 1) "is_count_nets" (Pr A R) [] :=
  let ⟨_, F⟩ := E.f_is_count_nets
  cal_pr F E.g_is_count_nets (bd_is_count_nets F) .nil sc_is_count_nets l.len body
/-! is_name: 0 thing 1 sign -/
abbrev N_is_name : List Str := ["thing", "sign"]
theorem sc_is_name : FnScope N_is_name ["thing"] (defScope s_is_name) := ⟨rfl, rfl, rfl, by decide +kernel, rfl, by decide +kernel, by decide +kernel⟩
theorem bd_is_name {fd : FuncData} {f : Addr} (F : FunD K "is_name" "is_name" (defArgs s_is_name) (defBody s_is_name) (defScope s_is_name) [] []  f fd) : Binds K fd ["thing"] [] := F.bindsN fun _ _ _ _ _ _ us hl => match us, hl with | [_], _ => rfl
theorem cl_is_name (E : Env K mg) {k : Nat} {A : List V → Hp → Prop} {R : V → Hp → Prop} [l : LenA A 1] (body : BodyP P w K mg base N_is_name "is_name" s_is_name (He.fAd K ("is_name", none)) k A R) : C8.Cal P w K mg base (k + 1) "is_name" (Pr A R) [] :=
  let ⟨_, F⟩ := E.f_is_name
  cal_pr F E.g_is_name (bd_is_name F) .nil sc_is_name l.len body
/-! are_parts: 0 thing 1 part -/
abbrev N_are_parts : List Str := ["thing", "part"]
theorem sc_are_parts : FnScope N_are_parts ["thing"] (defScope s_are_parts) := ⟨rfl, rfl, rfl, by decide +kernel, rfl, by decide +kernel, by decide +kernel⟩
theorem bd_are_parts {fd : FuncData} {f : Addr} (F : FunD K "are_parts" "are_parts" (defArgs s_are_parts) (defBody s_are_parts) (defScope s_are_parts) [] []  f fd) : Binds K fd ["thing"] [] := F.bindsN fun _ _ _ _ _ _ us hl => match us, hl with | [_], _ => rfl
theorem cl_are_parts (E : Env K mg) {k : Nat} {A : List V → Hp → Prop} {R : V → Hp → Prop} [l : LenA A 1] (body : BodyP P w K mg base N_are_parts "are_parts" s_are_parts (He.fAd K ("are_parts", none)) k A R) : C8.Cal P w K mg base (k + 1) "are_parts" (Pr A R) [] :=
  let ⟨_, F⟩ := E.f_are_parts
  cal_pr F E.g_are_parts (bd_are_parts F) .nil sc_are_parts l.len body
/-! is_place: 0 thing 1 known -/
abbrev N_is_place : List Str := ["thing", "known"]
theorem sc_is_place : FnScope N_is_place ["thing", "known"] (defScope s_is_place) := ⟨rfl, rfl, rfl, by decide +kernel, rfl, by decide +kernel, by decide +kernel⟩
theorem bd_is_place {fd : FuncData} {f : Addr} (F : FunD K "is_place" "is_place" (defArgs s_is_place) (defBody s_is_place) (defScope s_is_place) [] []  f fd) : Binds K fd ["thing", "known"] [] := F.bindsN fun _ _ _ _ _ _ us hl => match us, hl with | [_, _], _ => rfl
theorem cl_is_place (E : Env K mg) {k : Nat} {A : List V → Hp → Prop} {R : V → Hp → Prop} [l : LenA A 2] (body : BodyP P w K mg base N_is_place "is_place" s_is_place (He.fAd K ("is_place", none)) k A R) : C8.Cal P w K mg base (k + 1) "is_place" (Pr A R) [] :=
  let ⟨_, F⟩ := E.f_is_place
  cal_pr F E.g_is_place (bd_is_place F) .nil sc_is_place l.len body
/-! is_firing: 0 thing 1 known -/
abbrev N_is_firing : List Str := ["thing", "known"]
theorem sc_is_firing : FnScope N_is_firing ["thing", "known"] (defScope s_is_firing) := ⟨rfl, rfl, rfl, by decide +kernel, rfl, by decide +kernel, by decide +kernel⟩
theorem bd_is_firing {fd : FuncData} {f : Addr} (F : FunD K "is_firing" "is_firing" (defArgs s_is_firing) (defBody s_is_firing) (defScope s_is_firing) [] []  f fd) : Binds K fd ["thing", "known"] [] := F.bindsN fun _ _ _ _ _ _ us hl => match us, hl with | [_, _], _ => rfl
theorem cl_is_firing (E : Env K mg) {k : Nat} {A : List V → Hp → Prop} {R : V → Hp → Prop} [l : LenA A 2] (body : BodyP P w K mg base N_is_firing "is_firing" s_is_firing (He.fAd K ("is_firing", none)) k A R) : C8.Cal P w K mg base (k + 1) "is_firing" (Pr A R) [] :=
  let ⟨_, F⟩ := E.f_is_firing
  cal_pr F E.g_is_firing (bd_is_firing F) .nil sc_is_firing l.len body
/-! part_wrong: 0 firing 1 numbers 2 at 3 parts 4 last 5 name 6 count -/
abbrev N_part_wrong : List Str := ["firing", "numbers", "at", "parts", "last", "name", "count"]
theorem sc_part_wrong : FnScope N_part_wrong ["firing", "numbers"] (defScope s_part_wrong) := ⟨rfl, rfl, rfl, by decide +kernel, rfl, by decide +kernel, by decide +kernel⟩
theorem bd_part_wrong {fd : FuncData} {f : Addr} (F : FunD K "part_wrong" "part_wrong" (defArgs s_part_wrong) (defBody s_part_wrong) (defScope s_part_wrong) [] []  f fd) : Binds K fd ["firing", "numbers"] [] := F.bindsN fun _ _ _ _ _ _ us hl => match us, hl with | [_, _], _ => rfl
theorem cl_part_wrong (E : Env K mg) {k : Nat} {A : List V → Hp → Prop} {R : V → Hp → Prop} [l : LenA A 2] (body : BodyP P w K mg base N_part_wrong "part_wrong" s_part_wrong (He.fAd K ("part_wrong", none)) k A R) : C8.Cal P w K mg base (k + 1) "part_wrong" (Pr A R) [] :=
  let ⟨_, F⟩ := E.f_part_wrong
  cal_pr F E.g_part_wrong (bd_part_wrong F) .nil sc_part_wrong l.len body
/-! net_wrong: 0 thing 1 numbers 2 k 3 place 4 known 5 firing 6 at -/
abbrev N_net_wrong : List Str := ["thing", "numbers", "k", "place", "known", "firing", "at"]
theorem sc_net_wrong : FnScope N_net_wrong ["thing"] (defScope s_net_wrong) := ⟨rfl, rfl, rfl, by decide +kernel, rfl, by decide +kernel, by decide +kernel⟩
theorem bd_net_wrong {fd : FuncData} {f : Addr} (F : FunD K "net_wrong" "net_wrong" (defArgs s_net_wrong) (defBody s_net_wrong) (defScope s_net_wrong) [] []  f fd) : Binds K fd ["thing"] [] := F.bindsN fun _ _ _ _ _ _ us hl => match us, hl with | [_], _ => rfl
theorem cl_net_wrong (E : Env K mg) {k : Nat} {A : List V → Hp → Prop} {R : V → Hp → Prop} [l : LenA A 1] (body : BodyP P w K mg base N_net_wrong "net_wrong" s_net_wrong (He.fAd K ("net_wrong", none)) k A R) : C8.Cal P w K mg base (k + 1) "net_wrong" (Pr A R) [] :=
  let ⟨_, F⟩ := E.f_net_wrong
  cal_pr F E.g_net_wrong (bd_net_wrong F) .nil sc_net_wrong l.len body
/-! must_net: 0 net 1 wrong -/
abbrev N_must_net : List Str := ["net", "wrong"]
theorem sc_must_net : FnScope N_must_net ["net"] (defScope s_must_net) := ⟨rfl, rfl, rfl, by decide +kernel, rfl, by decide +kernel, by decide +kernel⟩
theorem bd_must_net {fd : FuncData} {f : Addr} (F : FunD K "must_net" "must_net" (defArgs s_must_net) (defBody s_must_net) (defScope s_must_net) [] []  f fd) : Binds K fd ["net"] [] := F.bindsN fun _ _ _ _ _ _ us hl => match us, hl with | [_], _ => rfl
theorem cl_must_net (E : Env K mg) {k : Nat} {A : List V → Hp → Prop} {R : V → Hp → Prop} [l : LenA A 1] (body : BodyP P w K mg base N_must_net "must_net" s_must_net (He.fAd K ("must_net", none)) k A R) : C8.Cal P w K mg base (k + 1) "must_net" (Pr A R) [] :=
  let ⟨_, F⟩ := E.f_must_net
  cal_pr F E.g_must_net (bd_must_net F) .nil sc_must_net l.len body
/-! Look_init: 0 self 1 net 2 places 3 firings 4 name 5 begin 6 firing 7 rank 8 at 9 place 10 count -/
abbrev N_Look_init : List Str := ["self", "net", "places", "firings", "name", "begin", "firing", "rank", "at", "place", "count"]
theorem sc_Look_init : FnScope N_Look_init ["self", "net"] (defScope s_Look_init) := ⟨rfl, rfl, rfl, by decide +kernel, rfl, by decide +kernel, by decide +kernel⟩
theorem bd_Look_init {fd : FuncData} {f : Addr} (F : FunD K "__init__" "Look.__init__" (defArgs s_Look_init) (defBody s_Look_init) (defScope s_Look_init) [] []  f fd) : Binds K fd ["self", "net"] [] := F.bindsN fun _ _ _ _ _ _ us hl => match us, hl with | [_, _], _ => rfl
/-! Look_lacking: 0 self 1 heap 2 name 3 at 4 count -/
abbrev N_Look_lacking : List Str := ["self", "heap", "name", "at", "count"]
theorem sc_Look_lacking : FnScope N_Look_lacking ["self", "heap", "name"] (defScope s_Look_lacking) := ⟨rfl, rfl, rfl, by decide +kernel, rfl, by decide +kernel, by decide +kernel⟩
theorem bd_Look_lacking {fd : FuncData} {f : Addr} (F : FunD K "lacking" "Look.lacking" (defArgs s_Look_lacking) (defBody s_Look_lacking) (defScope s_Look_lacking) [] []  f fd) : Binds K fd ["self", "heap", "name"] [] := F.bindsN fun _ _ _ _ _ _ us hl => match us, hl with | [_, _, _], _ => rfl
theorem ml_Look_lacking (E : Env K mg) {k : Nat} {A : List V → Hp → Prop} {R : V → Hp → Prop} [l : LenA A 3] (body : BodyP P w K mg base N_Look_lacking "Look.lacking" s_Look_lacking (He.fAd K ("Look", some "lacking")) k A R) : C8.Met P w K mg base (k + 1) (He.ga K "Look") "lacking" (Pr A R) [] :=
  let ⟨_, F⟩ := E.f_Look_lacking
  met_pr F E.c_Look E.m_Look_lacking (bd_Look_lacking F) .nil sc_Look_lacking l.len body
/-! Look_behind: 0 self 1 heap 2 name 3 found 4 at 5 count -/
abbrev N_Look_behind : List Str := ["self", "heap", "name", "found", "at", "count"]
theorem sc_Look_behind : FnScope N_Look_behind ["self", "heap", "name"] (defScope s_Look_behind) := ⟨rfl, rfl, rfl, by decide +kernel, rfl, by decide +kernel, by decide +kernel⟩
theorem bd_Look_behind {fd : FuncData} {f : Addr} (F : FunD K "behind" "Look.behind" (defArgs s_Look_behind) (defBody s_Look_behind) (defScope s_Look_behind) [] []  f fd) : Binds K fd ["self", "heap", "name"] [] := F.bindsN fun _ _ _ _ _ _ us hl => match us, hl with | [_, _, _], _ => rfl
theorem ml_Look_behind (E : Env K mg) {k : Nat} {A : List V → Hp → Prop} {R : V → Hp → Prop} [l : LenA A 3] (body : BodyP P w K mg base N_Look_behind "Look.behind" s_Look_behind (He.fAd K ("Look", some "behind")) k A R) : C8.Met P w K mg base (k + 1) (He.ga K "Look") "behind" (Pr A R) [] :=
  let ⟨_, F⟩ := E.f_Look_behind
  met_pr F E.c_Look E.m_Look_behind (bd_Look_behind F) .nil sc_Look_behind l.len body
/-! Look_can: 0 self 1 heap 2 name -/
abbrev N_Look_can : List Str := ["self", "heap", "name"]
theorem sc_Look_can : FnScope N_Look_can ["self", "heap"] (defScope s_Look_can) := ⟨rfl, rfl, rfl, by decide +kernel, rfl, by decide +kernel, by decide +kernel⟩
theorem bd_Look_can {fd : FuncData} {f : Addr} (F : FunD K "can" "Look.can" (defArgs s_Look_can) (defBody s_Look_can) (defScope s_Look_can) [] []  f fd) : Binds K fd ["self", "heap"] [] := F.bindsN fun _ _ _ _ _ _ us hl => match us, hl with | [_, _], _ => rfl
theorem ml_Look_can (E : Env K mg) {k : Nat} {A : List V → Hp → Prop} {R : V → Hp → Prop} [l : LenA A 2] (body : BodyP P w K mg base N_Look_can "Look.can" s_Look_can (He.fAd K ("Look", some "can")) k A R) : C8.Met P w K mg base (k + 1) (He.ga K "Look") "can" (Pr A R) [] :=
  let ⟨_, F⟩ := E.f_Look_can
  met_pr F E.c_Look E.m_Look_can (bd_Look_can F) .nil sc_Look_can l.len body
/-! is_count_firing: 0 thing -/
abbrev N_is_count_firing : List Str := ["thing"]
theorem sc_is_count_firing : FnScope N_is_count_firing ["thing"] (defScope s_is_count_firing) := ⟨rfl, rfl, rfl, by decide +kernel, rfl, by decide +kernel, by decide +kernel⟩
theorem bd_is_count_firing {fd : FuncData} {f : Addr} (F : FunD K "is_count" "is_count" (defArgs s_is_count_firing) (defBody s_is_count_firing) (defScope s_is_count_firing) [] []  f fd) : Binds K fd ["thing"] [] := F.bindsN fun _ _ _ _ _ _ us hl => match us, hl with | [_], _ => rfl
theorem cl_is_count_firing (E : Env K mg) {k : Nat} {A : List V → Hp → Prop} {R : V → Hp → Prop} [l : LenA A 1] (body : BodyP P w K mg base N_is_count_firing "is_count" s_is_count_firing (He.fAd K ("is_count_firing", none)) k A R) : C8.Cal P w K mg base (k + 1) "is_count_firing" (Pr A R) [] :=
  let ⟨_, F⟩ := E.f_is_count_firing
  cal_pr F E.g_is_count_firing (bd_is_count_firing F) .nil sc_is_count_firing l.len body
/-! look_at: 0 net -/
abbrev N_look_at : List Str := ["net"]
theorem sc_look_at : FnScope N_look_at ["net"] (defScope s_look_at) := ⟨rfl, rfl, rfl, by decide +kernel, rfl, by decide +kernel, by decide +kernel⟩
theorem bd_look_at {fd : FuncData} {f : Addr} (F : FunD K "look_at" "look_at" (defArgs s_look_at) (defBody s_look_at) (defScope s_look_at) [] []  f fd) : Binds K fd ["net"] [] := F.bindsN fun _ _ _ _ _ _ us hl => match us, hl with | [_], _ => rfl
theorem cl_look_at (E : Env K mg) {k : Nat} {A : List V → Hp → Prop} {R : V → Hp → Prop} [l : LenA A 1] (body : BodyP P w K mg base N_look_at "look_at" s_look_at (He.fAd K ("look_at", none)) k A R) : C8.Cal P w K mg base (k + 1) "look_at" (Pr A R) [] :=
  let ⟨_, F⟩ := E.f_look_at
  cal_pr F E.g_look_at (bd_look_at F) .nil sc_look_at l.len body
/-! heap_fault: 0 many 1 thing 2 k 3 count -/
abbrev N_heap_fault : List Str := ["many", "thing", "k", "count"]
theorem sc_heap_fault : FnScope N_heap_fault ["many", "thing"] (defScope s_heap_fault) := ⟨rfl, rfl, rfl, by decide +kernel, rfl, by decide +kernel, by decide +kernel⟩
theorem bd_heap_fault {fd : FuncData} {f : Addr} (F : FunD K "heap_fault" "heap_fault" (defArgs s_heap_fault) (defBody s_heap_fault) (defScope s_heap_fault) [] []  f fd) : Binds K fd ["many", "thing"] [] := F.bindsN fun _ _ _ _ _ _ us hl => match us, hl with | [_, _], _ => rfl
theorem cl_heap_fault (E : Env K mg) {k : Nat} {A : List V → Hp → Prop} {R : V → Hp → Prop} [l : LenA A 2] (body : BodyP P w K mg base N_heap_fault "heap_fault" s_heap_fault (He.fAd K ("heap_fault", none)) k A R) : C8.Cal P w K mg base (k + 1) "heap_fault" (Pr A R) [] :=
  let ⟨_, F⟩ := E.f_heap_fault
  cal_pr F E.g_heap_fault (bd_heap_fault F) .nil sc_heap_fault l.len body
/-! must_heap: 0 net 1 heap 2 wrong -/
abbrev N_must_heap : List Str := ["net", "heap", "wrong"]
theorem sc_must_heap : FnScope N_must_heap ["net", "heap"] (defScope s_must_heap) := ⟨rfl, rfl, rfl, by decide +kernel, rfl, by decide +kernel, by decide +kernel⟩
theorem bd_must_heap {fd : FuncData} {f : Addr} (F : FunD K "must_heap" "must_heap" (defArgs s_must_heap) (defBody s_must_heap) (defScope s_must_heap) [] []  f fd) : Binds K fd ["net", "heap"] [] := F.bindsN fun _ _ _ _ _ _ us hl => match us, hl with | [_, _], _ => rfl
theorem cl_must_heap (E : Env K mg) {k : Nat} {A : List V → Hp → Prop} {R : V → Hp → Prop} [l : LenA A 2] (body : BodyP P w K mg base N_must_heap "must_heap" s_must_heap (He.fAd K ("must_heap", none)) k A R) : C8.Cal P w K mg base (k + 1) "must_heap" (Pr A R) [] :=
  let ⟨_, F⟩ := E.f_must_heap
  cal_pr F E.g_must_heap (bd_must_heap F) .nil sc_must_heap l.len body
/-! Search_init: 0 self 1 look 2 most -/
abbrev N_Search_init : List Str := ["self", "look", "most"]
theorem sc_Search_init : FnScope N_Search_init ["self", "look", "most"] (defScope s_Search_init) := ⟨rfl, rfl, rfl, by decide +kernel, rfl, by decide +kernel, by decide +kernel⟩
theorem bd_Search_init {fd : FuncData} {f : Addr} (F : FunD K "__init__" "Search.__init__" (defArgs s_Search_init) (defBody s_Search_init) (defScope s_Search_init) [] []  f fd) : Binds K fd ["self", "look", "most"] [] := F.bindsN fun _ _ _ _ _ _ us hl => match us, hl with | [_, _, _], _ => rfl
/-! Search_go_on: 0 self 1 wanted 2 at 3 heap 4 found 5 name 6 behind -/
abbrev N_Search_go_on : List Str := ["self", "wanted", "at", "heap", "found", "name", "behind"]
theorem sc_Search_go_on : FnScope N_Search_go_on ["self", "wanted"] (defScope s_Search_go_on) := ⟨rfl, rfl, rfl, by decide +kernel, rfl, by decide +kernel, by decide +kernel⟩
/-! Search_is_done: 0 self -/
abbrev N_Search_is_done : List Str := ["self"]
theorem sc_Search_is_done : FnScope N_Search_is_done ["self"] (defScope s_Search_is_done) := ⟨rfl, rfl, rfl, by decide +kernel, rfl, by decide +kernel, by decide +kernel⟩
theorem bd_Search_is_done {fd : FuncData} {f : Addr} (F : FunD K "is_done" "Search.is_done" (defArgs s_Search_is_done) (defBody s_Search_is_done) (defScope s_Search_is_done) [] []  f fd) : Binds K fd ["self"] [] := F.bindsN fun _ _ _ _ _ _ us hl => match us, hl with | [_], _ => rfl
theorem ml_Search_is_done (E : Env K mg) {k : Nat} {A : List V → Hp → Prop} {R : V → Hp → Prop} [l : LenA A 1] (body : BodyP P w K mg base N_Search_is_done "Search.is_done" s_Search_is_done (He.fAd K ("Search", some "is_done")) k A R) : C8.Met P w K mg base (k + 1) (He.ga K "Search") "is_done" (Pr A R) [] :=
  let ⟨_, F⟩ := E.f_Search_is_done
  met_pr F E.c_Search E.m_Search_is_done (bd_Search_is_done F) .nil sc_Search_is_done l.len body
/-! searched: 0 look 1 most 2 search -/
abbrev N_searched : List Str := ["look", "most", "search"]
theorem sc_searched : FnScope N_searched ["look", "most"] (defScope s_searched) := ⟨rfl, rfl, rfl, by decide +kernel, rfl, by decide +kernel, by decide +kernel⟩
theorem bd_searched {fd : FuncData} {f : Addr} (F : FunD K "searched" "searched" (defArgs s_searched) (defBody s_searched) (defScope s_searched) [] []  f fd) : Binds K fd ["look", "most"] [] := F.bindsN fun _ _ _ _ _ _ us hl => match us, hl with | [_, _], _ => rfl
theorem cl_searched (E : Env K mg) {k : Nat} {A : List V → Hp → Prop} {R : V → Hp → Prop} [l : LenA A 2] (body : BodyP P w K mg base N_searched "searched" s_searched (He.fAd K ("searched", none)) k A R) : C8.Cal P w K mg base (k + 1) "searched" (Pr A R) [] :=
  let ⟨_, F⟩ := E.f_searched
  cal_pr F E.g_searched (bd_searched F) .nil sc_searched l.len body
/-! reach: 0 net 1 most 2 search -/
abbrev N_reach : List Str := ["net", "most", "search"]
theorem sc_reach : FnScope N_reach ["net", "most"] (defScope s_reach) := ⟨rfl, rfl, rfl, by decide +kernel, rfl, by decide +kernel, by decide +kernel⟩
/-! way: 0 net 1 heap 2 most 3 look 4 search -/
abbrev N_way : List Str := ["net", "heap", "most", "look", "search"]
theorem sc_way : FnScope N_way ["net", "heap", "most"] (defScope s_way) := ⟨rfl, rfl, rfl, by decide +kernel, rfl, by decide +kernel, by decide +kernel⟩
/-! dead: 0 net 1 most 2 search 3 heap 4 some -/
abbrev N_dead : List Str := ["net", "most", "search", "heap", "some"]
theorem sc_dead : FnScope N_dead ["net", "most"] (defScope s_dead) := ⟨rfl, rfl, rfl, by decide +kernel, rfl, by decide +kernel, by decide +kernel⟩
/-! is_over: 0 one 1 other 2 a 3 b -/
abbrev N_is_over : List Str := ["one", "other", "a", "b"]
theorem sc_is_over : FnScope N_is_over ["one", "other"] (defScope s_is_over) := ⟨rfl, rfl, rfl, by decide +kernel, rfl, by decide +kernel, by decide +kernel⟩
theorem bd_is_over {fd : FuncData} {f : Addr} (F : FunD K "is_over" "is_over" (defArgs s_is_over) (defBody s_is_over) (defScope s_is_over) [] []  f fd) : Binds K fd ["one", "other"] [] := F.bindsN fun _ _ _ _ _ _ us hl => match us, hl with | [_, _], _ => rfl
theorem cl_is_over (E : Env K mg) {k : Nat} {A : List V → Hp → Prop} {R : V → Hp → Prop} [l : LenA A 2] (body : BodyP P w K mg base N_is_over "is_over" s_is_over (He.fAd K ("is_over", none)) k A R) : C8.Cal P w K mg base (k + 1) "is_over" (Pr A R) [] :=
  let ⟨_, F⟩ := E.f_is_over
  cal_pr F E.g_is_over (bd_is_over F) .nil sc_is_over l.len body
/-! wide_can: 0 look 1 heap 2 name 3 at 4 count -/
abbrev N_wide_can : List Str := ["look", "heap", "name", "at", "count"]
theorem sc_wide_can : FnScope N_wide_can ["look", "heap", "name"] (defScope s_wide_can) := ⟨rfl, rfl, rfl, by decide +kernel, rfl, by decide +kernel, by decide +kernel⟩
theorem bd_wide_can {fd : FuncData} {f : Addr} (F : FunD K "wide_can" "wide_can" (defArgs s_wide_can) (defBody s_wide_can) (defScope s_wide_can) [] []  f fd) : Binds K fd ["look", "heap", "name"] [] := F.bindsN fun _ _ _ _ _ _ us hl => match us, hl with | [_, _, _], _ => rfl
theorem cl_wide_can (E : Env K mg) {k : Nat} {A : List V → Hp → Prop} {R : V → Hp → Prop} [l : LenA A 3] (body : BodyP P w K mg base N_wide_can "wide_can" s_wide_can (He.fAd K ("wide_can", none)) k A R) : C8.Cal P w K mg base (k + 1) "wide_can" (Pr A R) [] :=
  let ⟨_, F⟩ := E.f_wide_can
  cal_pr F E.g_wide_can (bd_wide_can F) .nil sc_wide_can l.len body
/-! wide_behind: 0 look 1 heap 2 name 3 found 4 at 5 count -/
abbrev N_wide_behind : List Str := ["look", "heap", "name", "found", "at", "count"]
theorem sc_wide_behind : FnScope N_wide_behind ["look", "heap", "name"] (defScope s_wide_behind) := ⟨rfl, rfl, rfl, by decide +kernel, rfl, by decide +kernel, by decide +kernel⟩
theorem bd_wide_behind {fd : FuncData} {f : Addr} (F : FunD K "wide_behind" "wide_behind" (defArgs s_wide_behind) (defBody s_wide_behind) (defScope s_wide_behind) [] []  f fd) : Binds K fd ["look", "heap", "name"] [] := F.bindsN fun _ _ _ _ _ _ us hl => match us, hl with | [_, _, _], _ => rfl
theorem cl_wide_behind (E : Env K mg) {k : Nat} {A : List V → Hp → Prop} {R : V → Hp → Prop} [l : LenA A 3] (body : BodyP P w K mg base N_wide_behind "wide_behind" s_wide_behind (He.fAd K ("wide_behind", none)) k A R) : C8.Cal P w K mg base (k + 1) "wide_behind" (Pr A R) [] :=
  let ⟨_, F⟩ := E.f_wide_behind
  cal_pr F E.g_wide_behind (bd_wide_behind F) .nil sc_wide_behind l.len body
/-! widened: 0 heap 1 base 2 a 3 b -/
abbrev N_widened : List Str := ["heap", "base", "a", "b"]
theorem sc_widened : FnScope N_widened ["heap", "base"] (defScope s_widened) := ⟨rfl, rfl, rfl, by decide +kernel, rfl, by decide +kernel, by decide +kernel⟩
theorem bd_widened {fd : FuncData} {f : Addr} (F : FunD K "widened" "widened" (defArgs s_widened) (defBody s_widened) (defScope s_widened) [] []  f fd) : Binds K fd ["heap", "base"] [] := F.bindsN fun _ _ _ _ _ _ us hl => match us, hl with | [_, _], _ => rfl
theorem cl_widened (E : Env K mg) {k : Nat} {A : List V → Hp → Prop} {R : V → Hp → Prop} [l : LenA A 2] (body : BodyP P w K mg base N_widened "widened" s_widened (He.fAd K ("widened", none)) k A R) : C8.Cal P w K mg base (k + 1) "widened" (Pr A R) [] :=
  let ⟨_, F⟩ := E.f_widened
  cal_pr F E.g_widened (bd_widened F) .nil sc_widened l.len body
/-! greatest: 0 heaps 1 unlike 2 heap 3 some 4 one 5 ranks 6 count 7 rank -/
abbrev N_greatest : List Str := ["heaps", "unlike", "heap", "some", "one", "ranks", "count", "rank"]
theorem sc_greatest : FnScope N_greatest ["heaps"] (defScope s_greatest) := ⟨rfl, rfl, rfl, by decide +kernel, rfl, by decide +kernel, by decide +kernel⟩
theorem bd_greatest {fd : FuncData} {f : Addr} (F : FunD K "greatest" "greatest" (defArgs s_greatest) (defBody s_greatest) (defScope s_greatest) [] []  f fd) : Binds K fd ["heaps"] [] := F.bindsN fun _ _ _ _ _ _ us hl => match us, hl with | [_], _ => rfl
theorem cl_greatest (E : Env K mg) {k : Nat} {A : List V → Hp → Prop} {R : V → Hp → Prop} [l : LenA A 1] (body : BodyP P w K mg base N_greatest "greatest" s_greatest (He.fAd K ("greatest", none)) k A R) : C8.Cal P w K mg base (k + 1) "greatest" (Pr A R) [] :=
  let ⟨_, F⟩ := E.f_greatest
  cal_pr F E.g_greatest (bd_greatest F) .nil sc_greatest l.len body
/-! least: 0 heaps 1 found 2 heap 3 one -/
abbrev N_least : List Str := ["heaps", "found", "heap", "one"]
theorem sc_least : FnScope N_least ["heaps"] (defScope s_least) := ⟨rfl, rfl, rfl, by decide +kernel, rfl, by decide +kernel, by decide +kernel⟩
theorem bd_least {fd : FuncData} {f : Addr} (F : FunD K "least" "least" (defArgs s_least) (defBody s_least) (defScope s_least) [] []  f fd) : Binds K fd ["heaps"] [] := F.bindsN fun _ _ _ _ _ _ us hl => match us, hl with | [_], _ => rfl
theorem cl_least (E : Env K mg) {k : Nat} {A : List V → Hp → Prop} {R : V → Hp → Prop} [l : LenA A 1] (body : BodyP P w K mg base N_least "least" s_least (He.fAd K ("least", none)) k A R) : C8.Cal P w K mg base (k + 1) "least" (Pr A R) [] :=
  let ⟨_, F⟩ := E.f_least
  cal_pr F E.g_least (bd_least F) .nil sc_least l.len body
/-! Spot_init: 0 self 1 wide 2 parent 3 name -/
abbrev N_Spot_init : List Str := ["self", "wide", "parent", "name"]
theorem sc_Spot_init : FnScope N_Spot_init ["self", "wide", "parent", "name"] (defScope s_Spot_init) := ⟨rfl, rfl, rfl, by decide +kernel, rfl, by decide +kernel, by decide +kernel⟩
theorem bd_Spot_init {fd : FuncData} {f : Addr} (F : FunD K "__init__" "Spot.__init__" (defArgs s_Spot_init) (defBody s_Spot_init) (defScope s_Spot_init) [] []  f fd) : Binds K fd ["self", "wide", "parent", "name"] [] := F.bindsN fun _ _ _ _ _ _ us hl => match us, hl with | [_, _, _, _], _ => rfl
/-! Spot_pump: 0 self 1 here 2 wider -/
abbrev N_Spot_pump : List Str := ["self", "here", "wider"]
theorem sc_Spot_pump : FnScope N_Spot_pump ["self"] (defScope s_Spot_pump) := ⟨rfl, rfl, rfl, by decide +kernel, rfl, by decide +kernel, by decide +kernel⟩
theorem bd_Spot_pump {fd : FuncData} {f : Addr} (F : FunD K "pump" "Spot.pump" (defArgs s_Spot_pump) (defBody s_Spot_pump) (defScope s_Spot_pump) [] []  f fd) : Binds K fd ["self"] [] := F.bindsN fun _ _ _ _ _ _ us hl => match us, hl with | [_], _ => rfl
theorem ml_Spot_pump (E : Env K mg) {k : Nat} {A : List V → Hp → Prop} {R : V → Hp → Prop} [l : LenA A 1] (body : BodyP P w K mg base N_Spot_pump "Spot.pump" s_Spot_pump (He.fAd K ("Spot", some "pump")) k A R) : C8.Met P w K mg base (k + 1) (He.ga K "Spot") "pump" (Pr A R) [] :=
  let ⟨_, F⟩ := E.f_Spot_pump
  met_pr F E.c_Spot E.m_Spot_pump (bd_Spot_pump F) .nil sc_Spot_pump l.len body
/-! Growth_init: 0 self 1 look 2 most -/
abbrev N_Growth_init : List Str := ["self", "look", "most"]
theorem sc_Growth_init : FnScope N_Growth_init ["self", "look", "most"] (defScope s_Growth_init) := ⟨rfl, rfl, rfl, by decide +kernel, rfl, by decide +kernel, by decide +kernel⟩
theorem bd_Growth_init {fd : FuncData} {f : Addr} (F : FunD K "__init__" "Growth.__init__" (defArgs s_Growth_init) (defBody s_Growth_init) (defScope s_Growth_init) [] []  f fd) : Binds K fd ["self", "look", "most"] [] := F.bindsN fun _ _ _ _ _ _ us hl => match us, hl with | [_, _, _], _ => rfl
/-! Growth_grow: 0 self 1 most 2 at 3 spot 4 name -/
abbrev N_Growth_grow : List Str := ["self", "most", "at", "spot", "name"]
theorem sc_Growth_grow : FnScope N_Growth_grow ["self", "most"] (defScope s_Growth_grow) := ⟨rfl, rfl, rfl, by decide +kernel, rfl, by decide +kernel, by decide +kernel⟩
theorem bd_Growth_grow {fd : FuncData} {f : Addr} (F : FunD K "grow" "Growth.grow" (defArgs s_Growth_grow) (defBody s_Growth_grow) (defScope s_Growth_grow) [] []  f fd) : Binds K fd ["self", "most"] [] := F.bindsN fun _ _ _ _ _ _ us hl => match us, hl with | [_, _], _ => rfl
theorem ml_Growth_grow (E : Env K mg) {k : Nat} {A : List V → Hp → Prop} {R : V → Hp → Prop} [l : LenA A 2] (body : BodyP P w K mg base N_Growth_grow "Growth.grow" s_Growth_grow (He.fAd K ("Growth", some "grow")) k A R) : C8.Met P w K mg base (k + 1) (He.ga K "Growth") "grow" (Pr A R) [] :=
  let ⟨_, F⟩ := E.f_Growth_grow
  met_pr F E.c_Growth E.m_Growth_grow (bd_Growth_grow F) .nil sc_Growth_grow l.len body
/-! Growth_put: 0 self 1 spot 2 most -/
abbrev N_Growth_put : List Str := ["self", "spot", "most"]
theorem sc_Growth_put : FnScope N_Growth_put ["self", "spot", "most"] (defScope s_Growth_put) := ⟨rfl, rfl, rfl, by decide +kernel, rfl, by decide +kernel, by decide +kernel⟩
theorem bd_Growth_put {fd : FuncData} {f : Addr} (F : FunD K "put" "Growth.put" (defArgs s_Growth_put) (defBody s_Growth_put) (defScope s_Growth_put) [] []  f fd) : Binds K fd ["self", "spot", "most"] [] := F.bindsN fun _ _ _ _ _ _ us hl => match us, hl with | [_, _, _], _ => rfl
theorem ml_Growth_put (E : Env K mg) {k : Nat} {A : List V → Hp → Prop} {R : V → Hp → Prop} [l : LenA A 3] (body : BodyP P w K mg base N_Growth_put "Growth.put" s_Growth_put (He.fAd K ("Growth", some "put")) k A R) : C8.Met P w K mg base (k + 1) (He.ga K "Growth") "put" (Pr A R) [] :=
  let ⟨_, F⟩ := E.f_Growth_put
  met_pr F E.c_Growth E.m_Growth_put (bd_Growth_put F) .nil sc_Growth_put l.len body
/-! wides_of: 0 spots 1 spot -/
abbrev N_wides_of : List Str := ["spots", "spot"]
theorem sc_wides_of : FnScope N_wides_of ["spots"] (defScope s_wides_of) := ⟨rfl, rfl, rfl, by decide +kernel, rfl, by decide +kernel, by decide +kernel⟩
theorem bd_wides_of {fd : FuncData} {f : Addr} (F : FunD K "wides_of" "wides_of" (defArgs s_wides_of) (defBody s_wides_of) (defScope s_wides_of) [] []  f fd) : Binds K fd ["spots"] [] := F.bindsN fun _ _ _ _ _ _ us hl => match us, hl with | [_], _ => rfl
theorem cl_wides_of (E : Env K mg) {k : Nat} {A : List V → Hp → Prop} {R : V → Hp → Prop} [l : LenA A 1] (body : BodyP P w K mg base N_wides_of "wides_of" s_wides_of (He.fAd K ("wides_of", none)) k A R) : C8.Cal P w K mg base (k + 1) "wides_of" (Pr A R) [] :=
  let ⟨_, F⟩ := E.f_wides_of
  cal_pr F E.g_wides_of (bd_wides_of F) .nil sc_wides_of l.len body
/-! place_number: 0 look 1 place -/
abbrev N_place_number : List Str := ["look", "place"]
theorem sc_place_number : FnScope N_place_number ["look", "place"] (defScope s_place_number) := ⟨rfl, rfl, rfl, by decide +kernel, rfl, by decide +kernel, by decide +kernel⟩
theorem bd_place_number {fd : FuncData} {f : Addr} (F : FunD K "place_number" "place_number" (defArgs s_place_number) (defBody s_place_number) (defScope s_place_number) [] []  f fd) : Binds K fd ["look", "place"] [] := F.bindsN fun _ _ _ _ _ _ us hl => match us, hl with | [_, _], _ => rfl
theorem cl_place_number (E : Env K mg) {k : Nat} {A : List V → Hp → Prop} {R : V → Hp → Prop} [l : LenA A 2] (body : BodyP P w K mg base N_place_number "place_number" s_place_number (He.fAd K ("place_number", none)) k A R) : C8.Cal P w K mg base (k + 1) "place_number" (Pr A R) [] :=
  let ⟨_, F⟩ := E.f_place_number
  cal_pr F E.g_place_number (bd_place_number F) .nil sc_place_number l.len body
/-! stair_of: 0 spot 1 found 2 row 3 loop -/
abbrev N_stair_of : List Str := ["spot", "found", "row", "loop"]
theorem sc_stair_of : FnScope N_stair_of ["spot"] (defScope s_stair_of) := ⟨rfl, rfl, rfl, by decide +kernel, rfl, by decide +kernel, by decide +kernel⟩
theorem bd_stair_of {fd : FuncData} {f : Addr} (F : FunD K "stair_of" "stair_of" (defArgs s_stair_of) (defBody s_stair_of) (defScope s_stair_of) [] []  f fd) : Binds K fd ["spot"] [] := F.bindsN fun _ _ _ _ _ _ us hl => match us, hl with | [_], _ => rfl
theorem cl_stair_of (E : Env K mg) {k : Nat} {A : List V → Hp → Prop} {R : V → Hp → Prop} [l : LenA A 1] (body : BodyP P w K mg base N_stair_of "stair_of" s_stair_of (He.fAd K ("stair_of", none)) k A R) : C8.Cal P w K mg base (k + 1) "stair_of" (Pr A R) [] :=
  let ⟨_, F⟩ := E.f_stair_of
  cal_pr F E.g_stair_of (bd_stair_of F) .nil sc_stair_of l.len body
/-! bound: 0 net 1 place 2 most 3 look 4 at 5 spots 6 endless_spots 7 spot 8 count -/
abbrev N_bound : List Str := ["net", "place", "most", "look", "at", "spots", "endless_spots", "spot", "count"]
theorem sc_bound : FnScope N_bound ["net", "place", "most"] (defScope s_bound) := ⟨rfl, rfl, rfl, by decide +kernel, rfl, by decide +kernel, by decide +kernel⟩
/-! before: 0 look 1 heap 2 name 3 found 4 at 5 count -/
abbrev N_before : List Str := ["look", "heap", "name", "found", "at", "count"]
theorem sc_before : FnScope N_before ["look", "heap", "name"] (defScope s_before) := ⟨rfl, rfl, rfl, by decide +kernel, rfl, by decide +kernel, by decide +kernel⟩
theorem bd_before {fd : FuncData} {f : Addr} (F : FunD K "before" "before" (defArgs s_before) (defBody s_before) (defScope s_before) [] []  f fd) : Binds K fd ["look", "heap", "name"] [] := F.bindsN fun _ _ _ _ _ _ us hl => match us, hl with | [_, _, _], _ => rfl
theorem cl_before (E : Env K mg) {k : Nat} {A : List V → Hp → Prop} {R : V → Hp → Prop} [l : LenA A 3] (body : BodyP P w K mg base N_before "before" s_before (He.fAd K ("before", none)) k A R) : C8.Cal P w K mg base (k + 1) "before" (Pr A R) [] :=
  let ⟨_, F⟩ := E.f_before
  cal_pr F E.g_before (bd_before F) .nil sc_before l.len body
/-! over_some: 0 heap 1 some 2 one -/
abbrev N_over_some : List Str := ["heap", "some", "one"]
theorem sc_over_some : FnScope N_over_some ["heap", "some"] (defScope s_over_some) := ⟨rfl, rfl, rfl, by decide +kernel, rfl, by decide +kernel, by decide +kernel⟩
theorem bd_over_some {fd : FuncData} {f : Addr} (F : FunD K "over_some" "over_some" (defArgs s_over_some) (defBody s_over_some) (defScope s_over_some) [] []  f fd) : Binds K fd ["heap", "some"] [] := F.bindsN fun _ _ _ _ _ _ us hl => match us, hl with | [_, _], _ => rfl
theorem cl_over_some (E : Env K mg) {k : Nat} {A : List V → Hp → Prop} {R : V → Hp → Prop} [l : LenA A 2] (body : BodyP P w K mg base N_over_some "over_some" s_over_some (He.fAd K ("over_some", none)) k A R) : C8.Cal P w K mg base (k + 1) "over_some" (Pr A R) [] :=
  let ⟨_, F⟩ := E.f_over_some
  cal_pr F E.g_over_some (bd_over_some F) .nil sc_over_some l.len body
/-! Levels_init: 0 self 1 look 2 heap 3 most -/
abbrev N_Levels_init : List Str := ["self", "look", "heap", "most"]
theorem sc_Levels_init : FnScope N_Levels_init ["self", "look", "heap", "most"] (defScope s_Levels_init) := ⟨rfl, rfl, rfl, by decide +kernel, rfl, by decide +kernel, by decide +kernel⟩
theorem bd_Levels_init {fd : FuncData} {f : Addr} (F : FunD K "__init__" "Levels.__init__" (defArgs s_Levels_init) (defBody s_Levels_init) (defScope s_Levels_init) [] []  f fd) : Binds K fd ["self", "look", "heap", "most"] [] := F.bindsN fun _ _ _ _ _ _ us hl => match us, hl with | [_, _, _, _], _ => rfl
/-! Levels_is_come_to: 0 self -/
abbrev N_Levels_is_come_to : List Str := ["self"]
theorem sc_Levels_is_come_to : FnScope N_Levels_is_come_to ["self"] (defScope s_Levels_is_come_to) := ⟨rfl, rfl, rfl, by decide +kernel, rfl, by decide +kernel, by decide +kernel⟩
theorem bd_Levels_is_come_to {fd : FuncData} {f : Addr} (F : FunD K "is_come_to" "Levels.is_come_to" (defArgs s_Levels_is_come_to) (defBody s_Levels_is_come_to) (defScope s_Levels_is_come_to) [] []  f fd) : Binds K fd ["self"] [] := F.bindsN fun _ _ _ _ _ _ us hl => match us, hl with | [_], _ => rfl
theorem ml_Levels_is_come_to (E : Env K mg) {k : Nat} {A : List V → Hp → Prop} {R : V → Hp → Prop} [l : LenA A 1] (body : BodyP P w K mg base N_Levels_is_come_to "Levels.is_come_to" s_Levels_is_come_to (He.fAd K ("Levels", some "is_come_to")) k A R) : C8.Met P w K mg base (k + 1) (He.ga K "Levels") "is_come_to" (Pr A R) [] :=
  let ⟨_, F⟩ := E.f_Levels_is_come_to
  met_pr F E.c_Levels E.m_Levels_is_come_to (bd_Levels_is_come_to F) .nil sc_Levels_is_come_to l.len body
/-! Levels_go_on: 0 self 1 more 2 heap 3 name 4 level -/
abbrev N_Levels_go_on : List Str := ["self", "more", "heap", "name", "level"]
theorem sc_Levels_go_on : FnScope N_Levels_go_on ["self"] (defScope s_Levels_go_on) := ⟨rfl, rfl, rfl, by decide +kernel, rfl, by decide +kernel, by decide +kernel⟩
theorem bd_Levels_go_on {fd : FuncData} {f : Addr} (F : FunD K "go_on" "Levels.go_on" (defArgs s_Levels_go_on) (defBody s_Levels_go_on) (defScope s_Levels_go_on) [] []  f fd) : Binds K fd ["self"] [] := F.bindsN fun _ _ _ _ _ _ us hl => match us, hl with | [_], _ => rfl
theorem ml_Levels_go_on (E : Env K mg) {k : Nat} {A : List V → Hp → Prop} {R : V → Hp → Prop} [l : LenA A 1] (body : BodyP P w K mg base N_Levels_go_on "Levels.go_on" s_Levels_go_on (He.fAd K ("Levels", some "go_on")) k A R) : C8.Met P w K mg base (k + 1) (He.ga K "Levels") "go_on" (Pr A R) [] :=
  let ⟨_, F⟩ := E.f_Levels_go_on
  met_pr F E.c_Levels E.m_Levels_go_on (bd_Levels_go_on F) .nil sc_Levels_go_on l.len body
/-! Levels_first_row: 0 self 1 heap 2 found 3 level 4 some 5 name -/
abbrev N_Levels_first_row : List Str := ["self", "heap", "found", "level", "some", "name"]
theorem sc_Levels_first_row : FnScope N_Levels_first_row ["self"] (defScope s_Levels_first_row) := ⟨rfl, rfl, rfl, by decide +kernel, rfl, by decide +kernel, by decide +kernel⟩
theorem bd_Levels_first_row {fd : FuncData} {f : Addr} (F : FunD K "first_row" "Levels.first_row" (defArgs s_Levels_first_row) (defBody s_Levels_first_row) (defScope s_Levels_first_row) [] []  f fd) : Binds K fd ["self"] [] := F.bindsN fun _ _ _ _ _ _ us hl => match us, hl with | [_], _ => rfl
theorem ml_Levels_first_row (E : Env K mg) {k : Nat} {A : List V → Hp → Prop} {R : V → Hp → Prop} [l : LenA A 1] (body : BodyP P w K mg base N_Levels_first_row "Levels.first_row" s_Levels_first_row (He.fAd K ("Levels", some "first_row")) k A R) : C8.Met P w K mg base (k + 1) (He.ga K "Levels") "first_row" (Pr A R) [] :=
  let ⟨_, F⟩ := E.f_Levels_first_row
  met_pr F E.c_Levels E.m_Levels_first_row (bd_Levels_first_row F) .nil sc_Levels_first_row l.len body
/-! covered_by: 0 look 1 heap 2 most 3 search -/
abbrev N_covered_by : List Str := ["look", "heap", "most", "search"]
theorem sc_covered_by : FnScope N_covered_by ["look", "heap", "most"] (defScope s_covered_by) := ⟨rfl, rfl, rfl, by decide +kernel, rfl, by decide +kernel, by decide +kernel⟩
theorem bd_covered_by {fd : FuncData} {f : Addr} (F : FunD K "covered_by" "covered_by" (defArgs s_covered_by) (defBody s_covered_by) (defScope s_covered_by) [] []  f fd) : Binds K fd ["look", "heap", "most"] [] := F.bindsN fun _ _ _ _ _ _ us hl => match us, hl with | [_, _, _], _ => rfl
theorem cl_covered_by (E : Env K mg) {k : Nat} {A : List V → Hp → Prop} {R : V → Hp → Prop} [l : LenA A 3] (body : BodyP P w K mg base N_covered_by "covered_by" s_covered_by (He.fAd K ("covered_by", none)) k A R) : C8.Cal P w K mg base (k + 1) "covered_by" (Pr A R) [] :=
  let ⟨_, F⟩ := E.f_covered_by
  cal_pr F E.g_covered_by (bd_covered_by F) .nil sc_covered_by l.len body
/-! covered: 0 net 1 heap 2 most 3 look -/
abbrev N_covered : List Str := ["net", "heap", "most", "look"]
theorem sc_covered : FnScope N_covered ["net", "heap", "most"] (defScope s_covered) := ⟨rfl, rfl, rfl, by decide +kernel, rfl, by decide +kernel, by decide +kernel⟩
/-! numbers_of: 0 look 1 places 2 place 3 at -/
abbrev N_numbers_of : List Str := ["look", "places", "place", "at"]
theorem sc_numbers_of : FnScope N_numbers_of ["look", "places"] (defScope s_numbers_of) := ⟨rfl, rfl, rfl, by decide +kernel, rfl, by decide +kernel, by decide +kernel⟩
theorem bd_numbers_of {fd : FuncData} {f : Addr} (F : FunD K "numbers_of" "numbers_of" (defArgs s_numbers_of) (defBody s_numbers_of) (defScope s_numbers_of) [] []  f fd) : Binds K fd ["look", "places"] [] := F.bindsN fun _ _ _ _ _ _ us hl => match us, hl with | [_, _], _ => rfl
theorem cl_numbers_of (E : Env K mg) {k : Nat} {A : List V → Hp → Prop} {R : V → Hp → Prop} [l : LenA A 2] (body : BodyP P w K mg base N_numbers_of "numbers_of" s_numbers_of (He.fAd K ("numbers_of", none)) k A R) : C8.Cal P w K mg base (k + 1) "numbers_of" (Pr A R) [] :=
  let ⟨_, F⟩ := E.f_numbers_of
  cal_pr F E.g_numbers_of (bd_numbers_of F) .nil sc_numbers_of l.len body
/-! sides: 0 look 1 name 2 at 3 count -/
abbrev N_sides : List Str := ["look", "name", "at", "count"]
theorem sc_sides : FnScope N_sides ["look", "name"] (defScope s_sides) := ⟨rfl, rfl, rfl, by decide +kernel, rfl, by decide +kernel, by decide +kernel⟩
theorem bd_sides {fd : FuncData} {f : Addr} (F : FunD K "sides" "sides" (defArgs s_sides) (defBody s_sides) (defScope s_sides) [] []  f fd) : Binds K fd ["look", "name"] [] := F.bindsN fun _ _ _ _ _ _ us hl => match us, hl with | [_, _], _ => rfl
theorem cl_sides (E : Env K mg) {k : Nat} {A : List V → Hp → Prop} {R : V → Hp → Prop} [l : LenA A 2] (body : BodyP P w K mg base N_sides "sides" s_sides (He.fAd K ("sides", none)) k A R) : C8.Cal P w K mg base (k + 1) "sides" (Pr A R) [] :=
  let ⟨_, F⟩ := E.f_sides
  cal_pr F E.g_sides (bd_sides F) .nil sc_sides l.len body
/-! lost: 0 look 1 some 2 trap 3 found 4 name 5 takes 6 gives 7 near 8 far 9 at -/
abbrev N_lost : List Str := ["look", "some", "trap", "found", "name", "takes", "gives", "near", "far", "at"]
theorem sc_lost : FnScope N_lost ["look", "some", "trap"] (defScope s_lost) := ⟨rfl, rfl, rfl, by decide +kernel, rfl, by decide +kernel, by decide +kernel⟩
theorem bd_lost {fd : FuncData} {f : Addr} (F : FunD K "lost" "lost" (defArgs s_lost) (defBody s_lost) (defScope s_lost) [] []  f fd) : Binds K fd ["look", "some", "trap"] [] := F.bindsN fun _ _ _ _ _ _ us hl => match us, hl with | [_, _, _], _ => rfl
theorem cl_lost (E : Env K mg) {k : Nat} {A : List V → Hp → Prop} {R : V → Hp → Prop} [l : LenA A 3] (body : BodyP P w K mg base N_lost "lost" s_lost (He.fAd K ("lost", none)) k A R) : C8.Cal P w K mg base (k + 1) "lost" (Pr A R) [] :=
  let ⟨_, F⟩ := E.f_lost
  cal_pr F E.g_lost (bd_lost F) .nil sc_lost l.len body
/-! is_siphon: 0 net 1 places 2 look -/
abbrev N_is_siphon : List Str := ["net", "places", "look"]
theorem sc_is_siphon : FnScope N_is_siphon ["net", "places"] (defScope s_is_siphon) := ⟨rfl, rfl, rfl, by decide +kernel, rfl, by decide +kernel, by decide +kernel⟩
theorem bd_is_siphon {fd : FuncData} {f : Addr} (F : FunD K "is_siphon" "is_siphon" (defArgs s_is_siphon) (defBody s_is_siphon) (defScope s_is_siphon) [] []  f fd) : Binds K fd ["net", "places"] [] := F.bindsN fun _ _ _ _ _ _ us hl => match us, hl with | [_, _], _ => rfl
theorem cl_is_siphon (E : Env K mg) {k : Nat} {A : List V → Hp → Prop} {R : V → Hp → Prop} [l : LenA A 2] (body : BodyP P w K mg base N_is_siphon "is_siphon" s_is_siphon (He.fAd K ("is_siphon", none)) k A R) : C8.Cal P w K mg base (k + 1) "is_siphon" (Pr A R) [] :=
  let ⟨_, F⟩ := E.f_is_siphon
  cal_pr F E.g_is_siphon (bd_is_siphon F) .nil sc_is_siphon l.len body
/-! is_trap: 0 net 1 places 2 look -/
abbrev N_is_trap : List Str := ["net", "places", "look"]
theorem sc_is_trap : FnScope N_is_trap ["net", "places"] (defScope s_is_trap) := ⟨rfl, rfl, rfl, by decide +kernel, rfl, by decide +kernel, by decide +kernel⟩
theorem bd_is_trap {fd : FuncData} {f : Addr} (F : FunD K "is_trap" "is_trap" (defArgs s_is_trap) (defBody s_is_trap) (defScope s_is_trap) [] []  f fd) : Binds K fd ["net", "places"] [] := F.bindsN fun _ _ _ _ _ _ us hl => match us, hl with | [_, _], _ => rfl
theorem cl_is_trap (E : Env K mg) {k : Nat} {A : List V → Hp → Prop} {R : V → Hp → Prop} [l : LenA A 2] (body : BodyP P w K mg base N_is_trap "is_trap" s_is_trap (He.fAd K ("is_trap", none)) k A R) : C8.Cal P w K mg base (k + 1) "is_trap" (Pr A R) [] :=
  let ⟨_, F⟩ := E.f_is_trap
  cal_pr F E.g_is_trap (bd_is_trap F) .nil sc_is_trap l.len body
/-! is_whole: 0 thing -/
abbrev N_is_whole : List Str := ["thing"]
theorem sc_is_whole : FnScope N_is_whole ["thing"] (defScope s_is_whole) := ⟨rfl, rfl, rfl, by decide +kernel, rfl, by decide +kernel, by decide +kernel⟩
theorem bd_is_whole {fd : FuncData} {f : Addr} (F : FunD K "is_whole" "is_whole" (defArgs s_is_whole) (defBody s_is_whole) (defScope s_is_whole) [] []  f fd) : Binds K fd ["thing"] [] := F.bindsN fun _ _ _ _ _ _ us hl => match us, hl with | [_], _ => rfl
theorem cl_is_whole (E : Env K mg) {k : Nat} {A : List V → Hp → Prop} {R : V → Hp → Prop} [l : LenA A 1] (body : BodyP P w K mg base N_is_whole "is_whole" s_is_whole (He.fAd K ("is_whole", none)) k A R) : C8.Cal P w K mg base (k + 1) "is_whole" (Pr A R) [] :=
  let ⟨_, F⟩ := E.f_is_whole
  cal_pr F E.g_is_whole (bd_is_whole F) .nil sc_is_whole l.len body
/-! effects: 0 look 1 found 2 name 3 row 4 at 5 count -/
abbrev N_effects : List Str := ["look", "found", "name", "row", "at", "count"]
theorem sc_effects : FnScope N_effects ["look"] (defScope s_effects) := ⟨rfl, rfl, rfl, by decide +kernel, rfl, by decide +kernel, by decide +kernel⟩
theorem bd_effects {fd : FuncData} {f : Addr} (F : FunD K "effects" "effects" (defArgs s_effects) (defBody s_effects) (defScope s_effects) [] []  f fd) : Binds K fd ["look"] [] := F.bindsN fun _ _ _ _ _ _ us hl => match us, hl with | [_], _ => rfl
theorem cl_effects (E : Env K mg) {k : Nat} {A : List V → Hp → Prop} {R : V → Hp → Prop} [l : LenA A 1] (body : BodyP P w K mg base N_effects "effects" s_effects (He.fAd K ("effects", none)) k A R) : C8.Cal P w K mg base (k + 1) "effects" (Pr A R) [] :=
  let ⟨_, F⟩ := E.f_effects
  cal_pr F E.g_effects (bd_effects F) .nil sc_effects l.len body
/-! turned_about: 0 rows 1 many 2 row 3 at -/
abbrev N_turned_about : List Str := ["rows", "many", "row", "at"]
theorem sc_turned_about : FnScope N_turned_about ["rows", "many"] (defScope s_turned_about) := ⟨rfl, rfl, rfl, by decide +kernel, rfl, by decide +kernel, by decide +kernel⟩
theorem bd_turned_about {fd : FuncData} {f : Addr} (F : FunD K "turned_about" "turned_about" (defArgs s_turned_about) (defBody s_turned_about) (defScope s_turned_about) [] []  f fd) : Binds K fd ["rows", "many"] [] := F.bindsN fun _ _ _ _ _ _ us hl => match us, hl with | [_, _], _ => rfl
theorem cl_turned_about (E : Env K mg) {k : Nat} {A : List V → Hp → Prop} {R : V → Hp → Prop} [l : LenA A 2] (body : BodyP P w K mg base N_turned_about "turned_about" s_turned_about (He.fAd K ("turned_about", none)) k A R) : C8.Cal P w K mg base (k + 1) "turned_about" (Pr A R) [] :=
  let ⟨_, F⟩ := E.f_turned_about
  cal_pr F E.g_turned_about (bd_turned_about F) .nil sc_turned_about l.len body
/-! thing_wrong: 0 vectors 1 word 2 names 3 thing 4 one 5 at 6 name 7 row -/
abbrev N_thing_wrong : List Str := ["vectors", "word", "names", "thing", "one", "at", "name", "row"]
theorem sc_thing_wrong : FnScope N_thing_wrong ["vectors", "word", "names", "thing"] (defScope s_thing_wrong) := ⟨rfl, rfl, rfl, by decide +kernel, rfl, by decide +kernel, by decide +kernel⟩
theorem bd_thing_wrong {fd : FuncData} {f : Addr} (F : FunD K "thing_wrong" "thing_wrong" (defArgs s_thing_wrong) (defBody s_thing_wrong) (defScope s_thing_wrong) [] []  f fd) : Binds K fd ["vectors", "word", "names", "thing"] [] := F.bindsN fun _ _ _ _ _ _ us hl => match us, hl with | [_, _, _, _], _ => rfl
theorem cl_thing_wrong (E : Env K mg) {k : Nat} {A : List V → Hp → Prop} {R : V → Hp → Prop} [l : LenA A 4] (body : BodyP P w K mg base N_thing_wrong "thing_wrong" s_thing_wrong (He.fAd K ("thing_wrong", none)) k A R) : C8.Cal P w K mg base (k + 1) "thing_wrong" (Pr A R) [] :=
  let ⟨_, F⟩ := E.f_thing_wrong
  cal_pr F E.g_thing_wrong (bd_thing_wrong F) .nil sc_thing_wrong l.len body
/-! place_vectors: 0 look -/
abbrev N_place_vectors : List Str := ["look"]
theorem sc_place_vectors : FnScope N_place_vectors ["look"] (defScope s_place_vectors) := ⟨rfl, rfl, rfl, by decide +kernel, rfl, by decide +kernel, by decide +kernel⟩
theorem bd_place_vectors {fd : FuncData} {f : Addr} (F : FunD K "place_vectors" "place_vectors" (defArgs s_place_vectors) (defBody s_place_vectors) (defScope s_place_vectors) [] []  f fd) : Binds K fd ["look"] [] := F.bindsN fun _ _ _ _ _ _ us hl => match us, hl with | [_], _ => rfl
theorem cl_place_vectors (E : Env K mg) {k : Nat} {A : List V → Hp → Prop} {R : V → Hp → Prop} [l : LenA A 1] (body : BodyP P w K mg base N_place_vectors "place_vectors" s_place_vectors (He.fAd K ("place_vectors", none)) k A R) : C8.Cal P w K mg base (k + 1) "place_vectors" (Pr A R) [] :=
  let ⟨_, F⟩ := E.f_place_vectors
  cal_pr F E.g_place_vectors (bd_place_vectors F) .nil sc_place_vectors l.len body
/-! sum_wrong: 0 net 1 thing 2 look -/
abbrev N_sum_wrong : List Str := ["net", "thing", "look"]
theorem sc_sum_wrong : FnScope N_sum_wrong ["net", "thing"] (defScope s_sum_wrong) := ⟨rfl, rfl, rfl, by decide +kernel, rfl, by decide +kernel, by decide +kernel⟩
theorem bd_sum_wrong {fd : FuncData} {f : Addr} (F : FunD K "sum_wrong" "sum_wrong" (defArgs s_sum_wrong) (defBody s_sum_wrong) (defScope s_sum_wrong) [] []  f fd) : Binds K fd ["net", "thing"] [] := F.bindsN fun _ _ _ _ _ _ us hl => match us, hl with | [_, _], _ => rfl
theorem cl_sum_wrong (E : Env K mg) {k : Nat} {A : List V → Hp → Prop} {R : V → Hp → Prop} [l : LenA A 2] (body : BodyP P w K mg base N_sum_wrong "sum_wrong" s_sum_wrong (He.fAd K ("sum_wrong", none)) k A R) : C8.Cal P w K mg base (k + 1) "sum_wrong" (Pr A R) [] :=
  let ⟨_, F⟩ := E.f_sum_wrong
  cal_pr F E.g_sum_wrong (bd_sum_wrong F) .nil sc_sum_wrong l.len body
/-! L_at: 0 _law_script 1 _law_k -/
abbrev N_L_at : List Str := ["_law_script", "_law_k"]
theorem sc_L_at : FnScope N_L_at ["_law_script", "_law_k"] (defScope s_L_at) := ⟨rfl, rfl, rfl, by decide +kernel, rfl, by decide +kernel, by decide +kernel⟩
theorem bd_L_at {fd : FuncData} {f : Addr} (F : FunD K "_law_at" "_law_at" (defArgs s_L_at) (defBody s_L_at) (defScope s_L_at) [] []  f fd) : Binds K fd ["_law_script", "_law_k"] [] := F.bindsN fun _ _ _ _ _ _ us hl => match us, hl with | [_, _], _ => rfl
theorem cl_L_at (E : Env K mg) {k : Nat} {A : List V → Hp → Prop} {R : V → Hp → Prop} [l : LenA A 2] (body : BodyP P w K mg base N_L_at "_law_at" s_L_at (He.fAd K ("_law_at", none)) k A R) : C8.Cal P w K mg base (k + 1) "_law_at" (Pr A R) [] :=
  let ⟨_, F⟩ := E.f_L_at
  cal_pr F E.g_L_at (bd_L_at F) .nil sc_L_at l.len body
/-! L_mixed: 0 _law_cell 1 _law_k 2 _law_number -/
abbrev N_L_mixed : List Str := ["_law_cell", "_law_k", "_law_number"]
theorem sc_L_mixed : FnScope N_L_mixed ["_law_cell", "_law_k"] (defScope s_L_mixed) := ⟨rfl, rfl, rfl, by decide +kernel, rfl, by decide +kernel, by decide +kernel⟩
theorem bd_L_mixed {fd : FuncData} {f : Addr} (F : FunD K "_law_mixed" "_law_mixed" (defArgs s_L_mixed) (defBody s_L_mixed) (defScope s_L_mixed) [] []  f fd) : Binds K fd ["_law_cell", "_law_k"] [] := F.bindsN fun _ _ _ _ _ _ us hl => match us, hl with | [_, _], _ => rfl
theorem cl_L_mixed (E : Env K mg) {k : Nat} {A : List V → Hp → Prop} {R : V → Hp → Prop} [l : LenA A 2] (body : BodyP P w K mg base N_L_mixed "_law_mixed" s_L_mixed (He.fAd K ("_law_mixed", none)) k A R) : C8.Cal P w K mg base (k + 1) "_law_mixed" (Pr A R) [] :=
  let ⟨_, F⟩ := E.f_L_mixed
  cal_pr F E.g_L_mixed (bd_L_mixed F) .nil sc_L_mixed l.len body
/-! L_purse: 0 _law_script 1 _law_at_here 2 _law_cell -/
abbrev N_L_purse : List Str := ["_law_script", "_law_at_here", "_law_cell"]
theorem sc_L_purse : FnScope N_L_purse ["_law_script", "_law_at_here"] (defScope s_L_purse) := ⟨rfl, rfl, rfl, by decide +kernel, rfl, by decide +kernel, by decide +kernel⟩
theorem bd_L_purse {fd : FuncData} {f : Addr} (F : FunD K "_law_purse" "_law_purse" (defArgs s_L_purse) (defBody s_L_purse) (defScope s_L_purse) [] []  f fd) : Binds K fd ["_law_script", "_law_at_here"] [] := F.bindsN fun _ _ _ _ _ _ us hl => match us, hl with | [_, _], _ => rfl
theorem cl_L_purse (E : Env K mg) {k : Nat} {A : List V → Hp → Prop} {R : V → Hp → Prop} [l : LenA A 2] (body : BodyP P w K mg base N_L_purse "_law_purse" s_L_purse (He.fAd K ("_law_purse", none)) k A R) : C8.Cal P w K mg base (k + 1) "_law_purse" (Pr A R) [] :=
  let ⟨_, F⟩ := E.f_L_purse
  cal_pr F E.g_L_purse (bd_L_purse F) .nil sc_L_purse l.len body
/-! L_draw: 0 _law_purse_here 1 _law_out_of 2 _law_drawn 3 _law_number 4 _law_k -/
abbrev N_L_draw : List Str := ["_law_purse_here", "_law_out_of", "_law_drawn", "_law_number", "_law_k"]
theorem sc_L_draw : FnScope N_L_draw ["_law_purse_here", "_law_out_of"] (defScope s_L_draw) := ⟨rfl, rfl, rfl, by decide +kernel, rfl, by decide +kernel, by decide +kernel⟩
theorem bd_L_draw {fd : FuncData} {f : Addr} (F : FunD K "_law_draw" "_law_draw" (defArgs s_L_draw) (defBody s_L_draw) (defScope s_L_draw) [] []  f fd) : Binds K fd ["_law_purse_here", "_law_out_of"] [] := F.bindsN fun _ _ _ _ _ _ us hl => match us, hl with | [_, _], _ => rfl
theorem cl_L_draw (E : Env K mg) {k : Nat} {A : List V → Hp → Prop} {R : V → Hp → Prop} [l : LenA A 2] (body : BodyP P w K mg base N_L_draw "_law_draw" s_L_draw (He.fAd K ("_law_draw", none)) k A R) : C8.Cal P w K mg base (k + 1) "_law_draw" (Pr A R) [] :=
  let ⟨_, F⟩ := E.f_L_draw
  cal_pr F E.g_L_draw (bd_L_draw F) .nil sc_L_draw l.len body
/-! L_parts: 0 _law_purse_here 1 _law_names 2 _law_many 3 _law_found 4 _law_name -/
abbrev N_L_parts : List Str := ["_law_purse_here", "_law_names", "_law_many", "_law_found", "_law_name"]
theorem sc_L_parts : FnScope N_L_parts ["_law_purse_here", "_law_names", "_law_many"] (defScope s_L_parts) := ⟨rfl, rfl, rfl, by decide +kernel, rfl, by decide +kernel, by decide +kernel⟩
theorem bd_L_parts {fd : FuncData} {f : Addr} (F : FunD K "_law_parts" "_law_parts" (defArgs s_L_parts) (defBody s_L_parts) (defScope s_L_parts) [] []  f fd) : Binds K fd ["_law_purse_here", "_law_names", "_law_many"] [] := F.bindsN fun _ _ _ _ _ _ us hl => match us, hl with | [_, _, _], _ => rfl
theorem cl_L_parts (E : Env K mg) {k : Nat} {A : List V → Hp → Prop} {R : V → Hp → Prop} [l : LenA A 3] (body : BodyP P w K mg base N_L_parts "_law_parts" s_L_parts (He.fAd K ("_law_parts", none)) k A R) : C8.Cal P w K mg base (k + 1) "_law_parts" (Pr A R) [] :=
  let ⟨_, F⟩ := E.f_L_parts
  cal_pr F E.g_L_parts (bd_L_parts F) .nil sc_L_parts l.len body
/-! L_even: 0 _law_purse_here 1 _law_names 2 _law_one 3 _law_other 4 _law_choice 5 _law_both 6 _law_name 7 _law_third -/
abbrev N_L_even : List Str := ["_law_purse_here", "_law_names", "_law_one", "_law_other", "_law_choice", "_law_both", "_law_name", "_law_third"]
theorem sc_L_even : FnScope N_L_even ["_law_purse_here", "_law_names"] (defScope s_L_even) := ⟨rfl, rfl, rfl, by decide +kernel, rfl, by decide +kernel, by decide +kernel⟩
theorem bd_L_even {fd : FuncData} {f : Addr} (F : FunD K "_law_even" "_law_even" (defArgs s_L_even) (defBody s_L_even) (defScope s_L_even) [] []  f fd) : Binds K fd ["_law_purse_here", "_law_names"] [] := F.bindsN fun _ _ _ _ _ _ us hl => match us, hl with | [_, _], _ => rfl
theorem cl_L_even (E : Env K mg) {k : Nat} {A : List V → Hp → Prop} {R : V → Hp → Prop} [l : LenA A 2] (body : BodyP P w K mg base N_L_even "_law_even" s_L_even (He.fAd K ("_law_even", none)) k A R) : C8.Cal P w K mg base (k + 1) "_law_even" (Pr A R) [] :=
  let ⟨_, F⟩ := E.f_L_even
  cal_pr F E.g_L_even (bd_L_even F) .nil sc_L_even l.len body
/-! L_net: 0 _law_purse_here 1 _law_sort 2 _law_names 3 _law_places 4 _law_name 5 _law_firings 6 _law_k 7 _law_takes 8 _law_gives 9 _law_j 10 _law_label -/
abbrev N_L_net : List Str := ["_law_purse_here", "_law_sort", "_law_names", "_law_places", "_law_name", "_law_firings", "_law_k", "_law_takes", "_law_gives", "_law_j", "_law_label"]
theorem sc_L_net : FnScope N_L_net ["_law_purse_here", "_law_sort"] (defScope s_L_net) := ⟨rfl, rfl, rfl, by decide +kernel, rfl, by decide +kernel, by decide +kernel⟩
theorem bd_L_net {fd : FuncData} {f : Addr} (F : FunD K "_law_net" "_law_net" (defArgs s_L_net) (defBody s_L_net) (defScope s_L_net) [] []  f fd) : Binds K fd ["_law_purse_here", "_law_sort"] [] := F.bindsN fun _ _ _ _ _ _ us hl => match us, hl with | [_, _], _ => rfl
theorem cl_L_net (E : Env K mg) {k : Nat} {A : List V → Hp → Prop} {R : V → Hp → Prop} [l : LenA A 2] (body : BodyP P w K mg base N_L_net "_law_net" s_L_net (He.fAd K ("_law_net", none)) k A R) : C8.Cal P w K mg base (k + 1) "_law_net" (Pr A R) [] :=
  let ⟨_, F⟩ := E.f_L_net
  cal_pr F E.g_L_net (bd_L_net F) .nil sc_L_net l.len body
/-! L_start: 0 _law_net_here 1 _law_name 2 _law_begin -/
abbrev N_L_start : List Str := ["_law_net_here", "_law_name", "_law_begin"]
theorem sc_L_start : FnScope N_L_start ["_law_net_here"] (defScope s_L_start) := ⟨rfl, rfl, rfl, by decide +kernel, rfl, by decide +kernel, by decide +kernel⟩
theorem bd_L_start {fd : FuncData} {f : Addr} (F : FunD K "_law_start" "_law_start" (defArgs s_L_start) (defBody s_L_start) (defScope s_L_start) [] []  f fd) : Binds K fd ["_law_net_here"] [] := F.bindsN fun _ _ _ _ _ _ us hl => match us, hl with | [_], _ => rfl
theorem cl_L_start (E : Env K mg) {k : Nat} {A : List V → Hp → Prop} {R : V → Hp → Prop} [l : LenA A 1] (body : BodyP P w K mg base N_L_start "_law_start" s_L_start (He.fAd K ("_law_start", none)) k A R) : C8.Cal P w K mg base (k + 1) "_law_start" (Pr A R) [] :=
  let ⟨_, F⟩ := E.f_L_start
  cal_pr F E.g_L_start (bd_L_start F) .nil sc_L_start l.len body
/-! L_change: 0 _law_net_here 1 _law_heap 2 _law_firing 3 _law_to 4 _law_found 5 _law_k 6 _law_place 7 _law_parts_here 8 _law_side 9 _law_name 10 _law_count -/
abbrev N_L_change : List Str := ["_law_net_here", "_law_heap", "_law_firing", "_law_to", "_law_found", "_law_k", "_law_place", "_law_parts_here", "_law_side", "_law_name", "_law_count"]
theorem sc_L_change : FnScope N_L_change ["_law_net_here", "_law_heap", "_law_firing", "_law_to"] (defScope s_L_change) := ⟨rfl, rfl, rfl, by decide +kernel, rfl, by decide +kernel, by decide +kernel⟩
theorem bd_L_change {fd : FuncData} {f : Addr} (F : FunD K "_law_change" "_law_change" (defArgs s_L_change) (defBody s_L_change) (defScope s_L_change) [] []  f fd) : Binds K fd ["_law_net_here", "_law_heap", "_law_firing", "_law_to"] [] := F.bindsN fun _ _ _ _ _ _ us hl => match us, hl with | [_, _, _, _], _ => rfl
theorem cl_L_change (E : Env K mg) {k : Nat} {A : List V → Hp → Prop} {R : V → Hp → Prop} [l : LenA A 4] (body : BodyP P w K mg base N_L_change "_law_change" s_L_change (He.fAd K ("_law_change", none)) k A R) : C8.Cal P w K mg base (k + 1) "_law_change" (Pr A R) [] :=
  let ⟨_, F⟩ := E.f_L_change
  cal_pr F E.g_L_change (bd_L_change F) .nil sc_L_change l.len body
/-! L_can: 0 _law_net_here 1 _law_heap 2 _law_one 3 _law_count -/
abbrev N_L_can : List Str := ["_law_net_here", "_law_heap", "_law_one", "_law_count"]
theorem sc_L_can : FnScope N_L_can ["_law_net_here", "_law_heap"] (defScope s_L_can) := ⟨rfl, rfl, rfl, by decide +kernel, rfl, by decide +kernel, by decide +kernel⟩
theorem bd_L_can {fd : FuncData} {f : Addr} (F : FunD K "_law_can" "_law_can" (defArgs s_L_can) (defBody s_L_can) (defScope s_L_can) [] []  f fd) : Binds K fd ["_law_net_here", "_law_heap"] [] := F.bindsN fun _ _ _ _ _ _ us hl => match us, hl with | [_, _], _ => rfl
theorem cl_L_can (E : Env K mg) {k : Nat} {A : List V → Hp → Prop} {R : V → Hp → Prop} [l : LenA A 2] (body : BodyP P w K mg base N_L_can "_law_can" s_L_can (He.fAd K ("_law_can", none)) k A R) : C8.Cal P w K mg base (k + 1) "_law_can" (Pr A R) [] :=
  let ⟨_, F⟩ := E.f_L_can
  cal_pr F E.g_L_can (bd_L_can F) .nil sc_L_can l.len body
/-! L_heaps: 0 _law_net_here 1 _law_limit 2 _law_found 3 _law_steps 4 _law_row 5 _law_one 6 _law_later -/
abbrev N_L_heaps : List Str := ["_law_net_here", "_law_limit", "_law_found", "_law_steps", "_law_row", "_law_one", "_law_later"]
theorem sc_L_heaps : FnScope N_L_heaps ["_law_net_here", "_law_limit"] (defScope s_L_heaps) := ⟨rfl, rfl, rfl, by decide +kernel, rfl, by decide +kernel, by decide +kernel⟩
theorem bd_L_heaps {fd : FuncData} {f : Addr} (F : FunD K "_law_heaps" "_law_heaps" (defArgs s_L_heaps) (defBody s_L_heaps) (defScope s_L_heaps) [] []  f fd) : Binds K fd ["_law_net_here", "_law_limit"] [] := F.bindsN fun _ _ _ _ _ _ us hl => match us, hl with | [_, _], _ => rfl
theorem cl_L_heaps (E : Env K mg) {k : Nat} {A : List V → Hp → Prop} {R : V → Hp → Prop} [l : LenA A 2] (body : BodyP P w K mg base N_L_heaps "_law_heaps" s_L_heaps (He.fAd K ("_law_heaps", none)) k A R) : C8.Cal P w K mg base (k + 1) "_law_heaps" (Pr A R) [] :=
  let ⟨_, F⟩ := E.f_L_heaps
  cal_pr F E.g_L_heaps (bd_L_heaps F) .nil sc_L_heaps l.len body
/-! L_goal: 0 _law_purse_here 1 _law_net_here 2 _law_found 3 _law_place 4 _law_k 5 _law_at_here -/
abbrev N_L_goal : List Str := ["_law_purse_here", "_law_net_here", "_law_found", "_law_place", "_law_k", "_law_at_here"]
theorem sc_L_goal : FnScope N_L_goal ["_law_purse_here", "_law_net_here"] (defScope s_L_goal) := ⟨rfl, rfl, rfl, by decide +kernel, rfl, by decide +kernel, by decide +kernel⟩
theorem bd_L_goal {fd : FuncData} {f : Addr} (F : FunD K "_law_goal" "_law_goal" (defArgs s_L_goal) (defBody s_L_goal) (defScope s_L_goal) [] []  f fd) : Binds K fd ["_law_purse_here", "_law_net_here"] [] := F.bindsN fun _ _ _ _ _ _ us hl => match us, hl with | [_, _], _ => rfl
theorem cl_L_goal (E : Env K mg) {k : Nat} {A : List V → Hp → Prop} {R : V → Hp → Prop} [l : LenA A 2] (body : BodyP P w K mg base N_L_goal "_law_goal" s_L_goal (He.fAd K ("_law_goal", none)) k A R) : C8.Cal P w K mg base (k + 1) "_law_goal" (Pr A R) [] :=
  let ⟨_, F⟩ := E.f_L_goal
  cal_pr F E.g_L_goal (bd_L_goal F) .nil sc_L_goal l.len body
/-! L_lidded: 0 _law_net_here 1 _law_at_here 2 _law_lid 3 _law_name 4 _law_begin 5 _law_firings 6 _law_one 7 _law_label 8 _law_takes 9 _law_gives 10 _law_more 11 _law_less -/
abbrev N_L_lidded : List Str := ["_law_net_here", "_law_at_here", "_law_lid", "_law_name", "_law_begin", "_law_firings", "_law_one", "_law_label", "_law_takes", "_law_gives", "_law_more", "_law_less"]
theorem sc_L_lidded : FnScope N_L_lidded ["_law_net_here", "_law_at_here", "_law_lid"] (defScope s_L_lidded) := ⟨rfl, rfl, rfl, by decide +kernel, rfl, by decide +kernel, by decide +kernel⟩
theorem bd_L_lidded {fd : FuncData} {f : Addr} (F : FunD K "_law_lidded" "_law_lidded" (defArgs s_L_lidded) (defBody s_L_lidded) (defScope s_L_lidded) [] []  f fd) : Binds K fd ["_law_net_here", "_law_at_here", "_law_lid"] [] := F.bindsN fun _ _ _ _ _ _ us hl => match us, hl with | [_, _, _], _ => rfl
theorem cl_L_lidded (E : Env K mg) {k : Nat} {A : List V → Hp → Prop} {R : V → Hp → Prop} [l : LenA A 3] (body : BodyP P w K mg base N_L_lidded "_law_lidded" s_L_lidded (He.fAd K ("_law_lidded", none)) k A R) : C8.Cal P w K mg base (k + 1) "_law_lidded" (Pr A R) [] :=
  let ⟨_, F⟩ := E.f_L_lidded
  cal_pr F E.g_L_lidded (bd_L_lidded F) .nil sc_L_lidded l.len body
/-! L_beneath: 0 _law_net_here 1 _law_at_here 2 _law_lid 3 _law_limit 4 _law_found 5 _law_k 6 _law_heap 7 _law_one 8 _law_later -/
abbrev N_L_beneath : List Str := ["_law_net_here", "_law_at_here", "_law_lid", "_law_limit", "_law_found", "_law_k", "_law_heap", "_law_one", "_law_later"]
theorem sc_L_beneath : FnScope N_L_beneath ["_law_net_here", "_law_at_here", "_law_lid", "_law_limit"] (defScope s_L_beneath) := ⟨rfl, rfl, rfl, by decide +kernel, rfl, by decide +kernel, by decide +kernel⟩
theorem bd_L_beneath {fd : FuncData} {f : Addr} (F : FunD K "_law_beneath" "_law_beneath" (defArgs s_L_beneath) (defBody s_L_beneath) (defScope s_L_beneath) [] []  f fd) : Binds K fd ["_law_net_here", "_law_at_here", "_law_lid", "_law_limit"] [] := F.bindsN fun _ _ _ _ _ _ us hl => match us, hl with | [_, _, _, _], _ => rfl
theorem cl_L_beneath (E : Env K mg) {k : Nat} {A : List V → Hp → Prop} {R : V → Hp → Prop} [l : LenA A 4] (body : BodyP P w K mg base N_L_beneath "_law_beneath" s_L_beneath (He.fAd K ("_law_beneath", none)) k A R) : C8.Cal P w K mg base (k + 1) "_law_beneath" (Pr A R) [] :=
  let ⟨_, F⟩ := E.f_L_beneath
  cal_pr F E.g_L_beneath (bd_L_beneath F) .nil sc_L_beneath l.len body
/-! L_told: 0 _law_net_here 1 _law_goal_here 2 _law_caught 3 _law_found 4 e -/
abbrev N_L_told : List Str := ["_law_net_here", "_law_goal_here", "_law_caught", "_law_found", "e"]
theorem sc_L_told : FnScope N_L_told ["_law_net_here", "_law_goal_here"] (defScope s_L_told) := ⟨rfl, rfl, rfl, by decide +kernel, rfl, by decide +kernel, by decide +kernel⟩
theorem bd_L_told {fd : FuncData} {f : Addr} (F : FunD K "_law_told" "_law_told" (defArgs s_L_told) (defBody s_L_told) (defScope s_L_told) [] []  f fd) : Binds K fd ["_law_net_here", "_law_goal_here"] [] := F.bindsN fun _ _ _ _ _ _ us hl => match us, hl with | [_, _], _ => rfl
theorem cl_L_told (E : Env K mg) {k : Nat} {A : List V → Hp → Prop} {R : V → Hp → Prop} [l : LenA A 2] (body : BodyP P w K mg base N_L_told "_law_told" s_L_told (He.fAd K ("_law_told", none)) k A R) : C8.Cal P w K mg base (k + 1) "_law_told" (Pr A R) [] :=
  let ⟨_, F⟩ := E.f_L_told
  cal_pr F E.g_L_told (bd_L_told F) .nil sc_L_told l.len body
/-! L_free_right: 0 _law_purse_here 1 _law_net_here 2 _law_other 3 _law_at_here 4 _law_lid 5 _law_table 6 _law_heap 7 _law_turn 8 _law_goal_here 9 _law_told_here -/
abbrev N_L_free_right : List Str := ["_law_purse_here", "_law_net_here", "_law_other", "_law_at_here", "_law_lid", "_law_table", "_law_heap", "_law_turn", "_law_goal_here", "_law_told_here"]
theorem sc_L_free_right : FnScope N_L_free_right ["_law_purse_here", "_law_net_here", "_law_other", "_law_at_here", "_law_lid"] (defScope s_L_free_right) := ⟨rfl, rfl, rfl, by decide +kernel, rfl, by decide +kernel, by decide +kernel⟩
theorem bd_L_free_right {fd : FuncData} {f : Addr} (F : FunD K "_law_free_right" "_law_free_right" (defArgs s_L_free_right) (defBody s_L_free_right) (defScope s_L_free_right) [] []  f fd) : Binds K fd ["_law_purse_here", "_law_net_here", "_law_other", "_law_at_here", "_law_lid"] [] := F.bindsN fun _ _ _ _ _ _ us hl => match us, hl with | [_, _, _, _, _], _ => rfl
theorem cl_L_free_right (E : Env K mg) {k : Nat} {A : List V → Hp → Prop} {R : V → Hp → Prop} [l : LenA A 5] (body : BodyP P w K mg base N_L_free_right "_law_free_right" s_L_free_right (He.fAd K ("_law_free_right", none)) k A R) : C8.Cal P w K mg base (k + 1) "_law_free_right" (Pr A R) [] :=
  let ⟨_, F⟩ := E.f_L_free_right
  cal_pr F E.g_L_free_right (bd_L_free_right F) .nil sc_L_free_right l.len body
/-! L_right: 0 _law_purse_here 1 _law_net_here 2 _law_at_here 3 _law_name 4 _law_begin 5 _law_lid 6 _law_other 7 _law_due 8 _law_weights 9 _law_place 10 _law_heap 11 _law_told_here -/
abbrev N_L_right : List Str := ["_law_purse_here", "_law_net_here", "_law_at_here", "_law_name", "_law_begin", "_law_lid", "_law_other", "_law_due", "_law_weights", "_law_place", "_law_heap", "_law_told_here"]
theorem sc_L_right : FnScope N_L_right ["_law_purse_here", "_law_net_here"] (defScope s_L_right) := ⟨rfl, rfl, rfl, by decide +kernel, rfl, by decide +kernel, by decide +kernel⟩
theorem bd_L_right {fd : FuncData} {f : Addr} (F : FunD K "_law_right" "_law_right" (defArgs s_L_right) (defBody s_L_right) (defScope s_L_right) [] []  f fd) : Binds K fd ["_law_purse_here", "_law_net_here"] [] := F.bindsN fun _ _ _ _ _ _ us hl => match us, hl with | [_, _], _ => rfl
theorem cl_L_right (E : Env K mg) {k : Nat} {A : List V → Hp → Prop} {R : V → Hp → Prop} [l : LenA A 2] (body : BodyP P w K mg base N_L_right "_law_right" s_L_right (He.fAd K ("_law_right", none)) k A R) : C8.Cal P w K mg base (k + 1) "_law_right" (Pr A R) [] :=
  let ⟨_, F⟩ := E.f_L_right
  cal_pr F E.g_L_right (bd_L_right F) .nil sc_L_right l.len body
/-! law: 0 _law_script 1 _law_cell 2 _law_purse_here -/
abbrev N_law : List Str := ["_law_script", "_law_cell", "_law_purse_here"]
theorem sc_law : FnScope N_law ["_law_script"] (defScope s_law) := ⟨rfl, rfl, rfl, by decide +kernel, rfl, by decide +kernel, by decide +kernel⟩
theorem bd_law {fd : FuncData} {f : Addr} (F : FunD K "law" "law" (defArgs s_law) (defBody s_law) (defScope s_law) [] []  f fd) : Binds K fd ["_law_script"] [] := F.bindsN fun _ _ _ _ _ _ us hl => match us, hl with | [_], _ => rfl
theorem cl_law (E : Env K mg) {k : Nat} {A : List V → Hp → Prop} {R : V → Hp → Prop} [l : LenA A 1] (body : BodyP P w K mg base N_law "law" s_law (He.fAd K ("law", none)) k A R) : C8.Cal P w K mg base (k + 1) "law" (Pr A R) [] :=
  let ⟨_, F⟩ := E.f_law
  cal_pr F E.g_law (bd_law F) .nil sc_law l.len body
end TK

/-! part M0 -/
set_option Elab.async false
set_option linter.all false
set_option maxRecDepth 100000
set_option maxHeartbeats 4000000
/-! TK: nets as plain data. -/
namespace TK
open PySem PySem.Spec PyProof.Rows L2 PG
structure Fir where
  name : Str
  label : Str
  takes : List (Str × Int)
  gives : List (Str × Int)
structure Net where
  places : List (Str × Int)
  firings : List Fir
def pairD (p : Str × Int) : PyData := .tuple [.str p.1, .int p.2]
abbrev partsD (ps : List (Str × Int)) : PyData := .tuple (ps.map pairD)
def firD (f : Fir) : PyData := .tuple [.str f.name, .str f.label, partsD f.takes, partsD f.gives]
abbrev placesD (N : Net) : PyData := .tuple (N.places.map pairD)
abbrev firingsD (N : Net) : PyData := .tuple (N.firings.map firD)
abbrev netD (N : Net) : PyData := .tuple [placesD N, firingsD N]
theorem netD_pl (N : Net) : plD [placesD N, firingsD N] = false := by
  have : isPr (placesD N) = false := by
    show isPr (.tuple (N.places.map pairD)) = false
    cases N.places with
    | nil => rfl
    | cons p l =>
      cases l with
      | nil => rfl
      | cons q l => cases l <;> rfl
  unfold plD
  rw [List.all_cons, this, Bool.false_and]
abbrev SMALL : Str := "abcdefghijklmnopqrstuvwxyz"
abbrev FIGURES : Str := "0123456789"
abbrev wordsV : List V := [.str "place", .str "fire", .str "as"]
def okSigns (z : Str) : Bool := (match z.cps.toList with
  | c :: _ => decide (c ∈ SMALL.cps.toList)
  | [] => false) && z.cps.toList.all fun c => decide (c ∈ (SMALL ++ FIGURES).cps.toList)
def okName (z : Str) : Bool := (decide (1 ≤ (z.length : Int)) && decide ((z.length : Int) ≤ 8)) && (!inV (.str z) wordsV && okSigns z)
def Net.names (N : Net) : List Str := N.places.map (·.1)
abbrev ix (ns : List Str) (x : Str) : Nat := ns.idxOf x
structure OkP (ns : List Str) (ps : List (Str × Int)) : Prop where
  mem : ∀ p ∈ ps, p.1 ∈ ns
  cnt : ∀ p ∈ ps, 1 ≤ p.2 ∧ p.2 ≤ 999999999
  up : ps.Pairwise fun p q => ix ns p.1 < ix ns q.1
structure Wf (N : Net) : Prop where
  ne : N.places ≠ []
  len : N.places.length ≤ 40
  flen : N.firings.length ≤ 60
  nm : ∀ p ∈ N.places, okName p.1 = true
  bg : ∀ p ∈ N.places, 0 ≤ p.2 ∧ p.2 ≤ 999999999
  nd : N.names.Nodup
  fnm : ∀ f ∈ N.firings, okName f.name = true
  fnd : (N.firings.map (·.name)).Nodup
  lb : ∀ f ∈ N.firings, okName f.label = true ∨ f.label = ""
  tk : ∀ f ∈ N.firings, OkP N.names f.takes
  gv : ∀ f ∈ N.firings, OkP N.names f.gives
theorem nodup_len {α : Type} [DecidableEq α] : ∀ {l m : List α}, l.Nodup → (∀ x ∈ l, x ∈ m) → l.length ≤ m.length
  | [], _, _, _ => Nat.zero_le _
  | a :: l, m, h, hs => by
    rw [List.nodup_cons] at h
    have ha : a ∈ m := hs a (List.mem_cons_self ..)
    have := nodup_len (l := l) (m := m.erase a) h.2 fun x hx => by
      have hne : x ≠ a := fun e => h.1 (e ▸ hx)
      exact (List.mem_erase_of_ne hne).mpr (hs x (List.mem_cons_of_mem _ hx))
    have h2 := List.length_erase_of_mem ha
    have h3 : 0 < m.length := List.length_pos_of_mem ha
    rw [List.length_cons]
    omega
theorem OkP.len {ns : List Str} {ps : List (Str × Int)} (h : OkP ns ps) : ps.length ≤ ns.length := by
  have h1 : (ps.map fun p => ix ns p.1).Nodup := by
    rw [List.nodup_iff_pairwise_ne, List.pairwise_map]
    exact h.up.imp fun r => Nat.ne_of_lt r
  have h2 : (ps.map fun p => ix ns p.1) ⊆ List.range ns.length := fun x hx => by
    obtain ⟨p, hp, rfl⟩ := List.mem_map.mp hx
    exact List.mem_range.mpr (List.idxOf_lt_length_iff.mpr (h.mem p hp))
  have := nodup_len h1 h2
  simpa using this
end TK

/-! part F2 -/
set_option Elab.async false
set_option linter.all false
set_option maxRecDepth 100000
set_option maxHeartbeats 4000000
namespace TK
open PySem PySem.Spec PyProof.Rows L2 PG
variable {P : Program} {w : World} {K : PySem.W.Frag} {mg : Str → Option Value} {base : Heap}
theorem bt_int : bootBuiltins "int" = some (.type "int") := by decide +kernel
theorem bt_bool : bootBuiltins "bool" = some (.type "bool") := by decide +kernel
theorem bt_str : bootBuiltins "str" = some (.type "str") := by decide +kernel
theorem bt_tuple : bootBuiltins "tuple" = some (.type "tuple") := by decide +kernel
theorem kb_ii : kitB "int" "int" = some true := by decide +kernel
theorem kb_ib : kitB "int" "bool" = some false := by decide +kernel
theorem kb_ss : kitB "str" "str" = some true := by decide +kernel
theorem kb_tt : kitB "tuple" "tuple" = some true := by decide +kernel
section
variable {X : Cx} {σ : L2.St} {G : Hp} {pos : Pos}
/-- a number, a text of the module -/
theorem ed_gI {x : Str} {i : Int} (h : ∃ t, X.mg x = some (.int i t)) (hg : Gl X x := by rfl) (hd : (x == ("__debug__" : Str)) = false := by decide) : ED X (.Name x pos) σ G (.int i) :=
  let ⟨t, e⟩ := h
  ee_glob (v := .int i) hg e ⟨t, rfl⟩ (.int i) hd
theorem ed_gS {x : Str} {z : Str} (h : ∃ t, X.mg x = some (.str z t)) (hg : Gl X x := by rfl) (hd : (x == ("__debug__" : Str)) = false := by decide) : ED X (.Name x pos) σ G (.str z) :=
  let ⟨t, e⟩ := h
  ee_glob (v := .str z) hg e ⟨t, rfl⟩ (.str z) hd
end
theorem Env.words (E : Env K mg) (H : Hp) : SqT K H (He.ga K "WORDS") wordsV := He.tupB_ok (He.ba E.x).1 H
theorem Env.g_WORDS (E : Env K mg) : mg "WORDS" = some (.ref (He.ga K "WORDS")) := by
  obtain ⟨h, X, G⟩ := E.at_
  have x := E.x
  unfold exB at x
  have y := (He.ba (He.ba (He.ba (He.ba (He.ba x).2).2).2).2).2
  exact PySem.W.mg_of X G (He.eqO_ok y)
abbrev A1 (d : PyData) : List V → Hp → Prop := ACons (RD d) ANil
abbrev A2 (d d' : PyData) : List V → Hp → Prop := ACons (RD d) (ACons (RD d') ANil)
theorem atI_zero {α : Type} {a : α} {l : List α} : atI (a :: l) 0 = some a := by simp [atI, ixN]
theorem ok_is_count {i l : Int} (E : Env K mg) (h1 : l ≤ i) (h2 : i ≤ 999999999) : C8.Cal P w K mg base 1 "is_count_nets" (Pr (A2 (.int i) (.int l)) (RD (.bool true))) [] :=
  cl_is_count_nets E fun cdv A outer s H vs Q E' hr G ex a k => by
    obtain ⟨v1, v2, rfl, r1, r2⟩ := ACons.two a
    refine ws_ret (R := RD (.bool true)) ?_ ex k
    refine ee_is (ed_and (t := true) (ed_isi (d := .int i) (T := "int") (r := true) (ee_var (i := 0) rfl r1) E.b_int bt_int kb_ii E.b_isinstance) fun _ => ed_and (t := true) (ed_not (ed_isi (d := .int i) (T := "bool") (r := false) (ee_var (i := 0) rfl r1) E.b_bool bt_bool kb_ib E.b_isinstance)) fun _ =>
      ed_and1 (ed_ch (f := fun i j => decide (i ≤ j)) (g := fun i j => decide (i ≤ j)) op_le op_le (ee_var (i := 1) rfl r2) (ee_var (i := 0) rfl r1) (ed_gI E.i_MOST_COUNT))) (by simp [h1, h2])
theorem ok_is_name {z : Str} (E : Env K mg) (hz : z.length ≤ 100000) : C8.Cal P w K mg base 1 "is_name" (Pr (A1 (.str z)) (RD (.bool (okName z)))) [] :=
  cl_is_name E fun cdv A outer s H vs Q E' hr G ex a k => by
    obtain ⟨v1, rfl, r1⟩ := ACons.one a
    have e1 := r1.str_eq
    subst e1
    have t1 : ∀ {G}, Rp G (.str z) (.str z) := .str z
    refine ws_if (t := !(decide (1 ≤ (z.length : Int)) && decide ((z.length : Int) ≤ 8)) || inV (.str z) wordsV) (et_is (ew_or (t := false) (et_not (t := true) (et_val (ed_isi (d := .str z) (T := "str") (r := true) (ee_var (i := 0) rfl r1) E.b_str bt_str kb_ss E.b_isinstance))) fun _ => ew_or (et_not (et_ch (f := fun i j => decide (i ≤ j)) (g := fun i j => decide (i ≤ j)) op_le op_le ed_int (ed_lenS (ee_var (i := 0) rfl r1) hz E.b_len) (ed_gI E.i_MOST_SIGNS))) fun _ =>
      ew_or1 (et_inSeq (p' := He.ga K "WORDS") (xs := wordsV) (ee_var (i := 0) (v := .str z) rfl rfl) (ee_glob (v := .ref (He.ga K "WORDS")) (by rfl) E.g_WORDS rfl rfl) (fun H _ => .inr (E.words H)) rfl rfl)).t (by simp)) ex fun H1 s1 => ?_
    cases hb : !(decide (1 ≤ (z.length : Int)) && decide ((z.length : Int) ≤ 8)) || inV (.str z) wordsV with
    | true =>
      refine iteT (ws_ret (R := RD (.bool (okName z))) (ee_is (d := .bool false) ed_bl ?_) s1.i fun v G' H' s r => k v G' H' (s1.trans s) r)
      unfold okName
      revert hb
      cases inV (.str z) wordsV <;> cases (decide (1 ≤ (z.length : Int)) && decide ((z.length : Int) ≤ 8)) <;> simp
    | false =>
      refine iteF (ws_nil (ws_ret (R := RD (.bool (okName z))) ?_ s1.i fun v G' H' s r => k v G' H' (s1.trans s) r))
      rw [Bool.or_eq_false_iff, Bool.not_eq_false'] at hb
      obtain ⟨h1, h2⟩ := hb
      have e2 : okName z = okSigns z := by
        unfold okName
        rw [h1, h2]
        rfl
      rw [e2]
      unfold okSigns
      have hl : z.length = z.cps.toList.length := by simp [Str.length]
      rw [Bool.and_eq_true, decide_eq_true_eq, decide_eq_true_eq] at h1
      cases hc : z.cps.toList with
      | nil =>
        rw [hc] at hl
        simp at hl
        omega
      | cons c cs =>
        refine ed_and (ed_inSign (ed_ixS (i := 0) (ee_var (i := 0) rfl r1) ed_int hz (by rw [hc]; exact atI_zero)) (ed_gS E.t_SMALL)) fun _ => ed_and1 ?_
        rw [← hc]
        refine ee_is (ed_all (bs := z.cps.toList.map fun c => decide (c ∈ (SMALL ++ FIGURES).cps.toList)) rfl ?_ E.b_all) (by rw [List.all_map]; rfl)
        have e1 : (List.range z.cps.size).filterMap (fun i => z.cps.toList[i]?.bind fun c => some (PyData.bool (decide (c ∈ (SMALL ++ FIGURES).cps.toList)))) = (z.cps.toList.map fun c => decide (c ∈ (SMALL ++ FIGURES).cps.toList)).map PyData.bool := by
          rw [show z.cps.size = z.cps.toList.length by simp, range_fm, fm_some, List.map_map]
          rfl
        rw [← e1]
        refine ed_lc (own := [("sign", 1)]) rfl sc_is_name.nd (ei_str (ee_var (i := 0) rfl r1)) (blkOk_by (N := N_is_name) (sc := defScope s_is_name) (by decide +kernel)) _ (fun i x G' eg hi y => ?_) (by simpa [Str.length] using hz)
        obtain ⟨c', h3, rfl⟩ := y
        rw [show z.cps.toList[i]? = some c' by simpa using h3]
        refine ⟨_, ?_, fun s H C cl fp => ⟨eg_name (i := 1) sc_is_name.nd, ets_nil, ?_⟩⟩
        · rfl
        · exact ed_inSign (ee_var (i := 1) (R := RD _) rfl (.str _)) (ed_addS (ed_gS E.t_SMALL) (ed_gS E.t_FIGURES))
end TK

/-! part P8 -/
set_option Elab.async false
set_option linter.all false
set_option maxRecDepth 100000
set_option maxHeartbeats 4000000
/-! PG, part 8: loops that carry their step. -/
namespace PG
open PySem PySem.Spec PyProof.Rows L2
section
variable {X : Cx} {σ σ' : L2.St} {G G0 G1 H H0 H1 : Hp} {e a b c o l tg iter : Expr} {R : V → Hp → Prop} {pos p apos : Pos} {D : Ends} {rest body : List Stmt} {S : List Addr}
theorem wg {v : V} {Q : L2.St → Hp → Prop} (h : EG X tg v σ G σ') (ex : Ex G H) (k : ∀ H', Stp [] G H G H' → Q σ' H') : WG X tg v σ H Q := h H Q ex k
/-- what holds ahead of turn i: the step from (G0, H0) on, and Iv -/
def LI (S : List Addr) (G0 H0 G1 : Hp) (Iv : Nat → L2.St → Hp → Hp → Prop) (i : Nat) : L2.St → Hp → Prop := fun σ H => ∃ G', Ex G1 G' ∧ Stp S G0 H0 G' H ∧ Iv i σ G' H
/-- for, with the step from (G0, H0) on -/
theorem ws_forS {n : Nat} {Y : Nat → V → Hp → Prop} (hi : EI X tg iter σ G n Y) (hp : PassesOwn (model X.prog X.w) X.A X.env X.xe) (hc : X.calm = true) (s0 : Stp S G0 H0 G H) (Iv : Nat → L2.St → Hp → Hp → Prop)
    (h0 : ∀ G1 H1, Stp [] G H G1 H1 → Iv 0 σ G1 H1)
    (step : ∀ G1, Ex G G1 → ∀ i σ' G' H' G2 H2 x, i < n → Ex G1 G2 → Stp S G0 H0 G2 H2 → Iv i σ' G' H' → Stp [] G' H' G2 H2 → Y i x G2 →
        WG X tg x σ' H2 fun σ2 H3 => WS X body { D with nx := LI S G0 H0 G1 Iv (i + 1), ct := LI S G0 H0 G1 Iv (i + 1), bk := WS X rest D } σ2 H3)
    (fin : ∀ σ' G' H', Ex G G' → Stp S G0 H0 G' H' → Iv n σ' G' H' → WS X rest D σ' H')
    (hs : ∀ x, foldedSetIterable iter X.env x = pure x := by intro _; rfl) : WS X (.For tg iter body [] pos :: rest) D σ H := by
  refine ws_cons ⟨_, ps_for hp hc (pi_self tg iter) (pg_self tg) (pss_self body) hs, hi H _ s0.i fun J G1 H1 s1 it => ?_⟩
  refine ⟨fun i m σ H => m = n - i ∧ i ≤ n ∧ LI S G0 H0 G1 Iv i σ H, ⟨n, rfl, Nat.zero_le _, G1, Ex.refl _, s0.trans s1.any, h0 _ _ s1⟩, ?_⟩
  rintro i m σ' H' ⟨rfl, hin, G', e1, e2, iv⟩
  by_cases hlt : i < n
  · refine .inr ⟨it.go i H' (e1.trans e2.i) hlt, LI S G0 H0 G1 Iv (i + 1), fun σ2 H2 q => ⟨n - (i + 1), by omega, rfl, hlt, q⟩, fun x H2 y => ?_⟩
    obtain ⟨G2, s2, q⟩ := it.yld i G' H' x H2 e1 e2.i hlt y
    exact step G1 s1.g i σ' G' H' G2 H2 x hlt (e1.trans s2.g) (e2.trans s2.any) iv s2 q
  · have hn : i = n := by omega
    subst hn
    exact .inl ⟨it.stop H' (e1.trans e2.i), fin σ' G' H' (s1.g.trans e1) e2 iv⟩
/-- while, with the step from (G0, H0) on -/
def LW (S : List Addr) (G0 H0 G : Hp) (Iv : Nat → L2.St → Hp → Hp → Prop) (m : Nat) : L2.St → Hp → Prop := fun σ H => ∃ m' G', m' < m ∧ Ex G G' ∧ Stp S G0 H0 G' H ∧ Iv m' σ G' H
theorem ws_whileS (hp : PassesOwn (model X.prog X.w) X.A X.env X.xe) (s0 : Stp S G0 H0 G H) (Iv : Nat → L2.St → Hp → Hp → Prop) (m0 : Nat) (h0 : Iv m0 σ G H)
    (step : ∀ m σ' G' H', Ex G G' → Stp S G0 H0 G' H' → Iv m σ' G' H' → ∃ b G2, Ex G2 H' ∧ ET X c σ' G2 b ∧ ∀ H1, Stp [] G2 H' G2 H1 → if b = true then
      WS X body { D with nx := LW S G0 H0 G Iv m, ct := LW S G0 H0 G Iv m, bk := WS X rest D } σ' H1 else WS X rest D σ' H1) : WS X (.While c body [] pos :: rest) D σ H := by
  refine ws_cons ⟨_, ps_while hp (pt_self c) (pss_self body), ?_⟩
  refine ⟨fun m σ H => ∃ G', Ex G G' ∧ Stp S G0 H0 G' H ∧ Iv m σ G' H, ⟨m0, G, Ex.refl _, s0, h0⟩, ?_⟩
  rintro m σ' H' ⟨G', e1, e2, iv⟩
  obtain ⟨b, G2, e3, hb, q⟩ := step m σ' G' H' e1 e2 iv
  refine hb H' _ e3 fun H1 s1 => ?_
  have q1 := q H1 s1
  cases b with
  | true =>
    rw [if_pos rfl] at q1 ⊢
    exact ⟨_, fun σ2 H2 ⟨m', G', hm, e1, e2, iv⟩ => ⟨m', hm, G', e1, e2, iv⟩, q1⟩
  | false =>
    rw [if_neg Bool.false_ne_true] at q1 ⊢
    exact q1
/-! ### new things -/
/-- e gives a new thing -/
def EN (X : Cx) (e : Expr) (σ : L2.St) (G : Hp) (O : HO → Hp → Prop) : Prop := ∀ (H : Hp) (Q : VK), Ex G H → (∀ p o G' H', Stp [] G H G' H' → H p = none → Own G' H' p o → O o G' → Q (.ref p) H') → WE X e σ H Q
variable {n : Nat} {O : HO → Hp → Prop}
theorem Stp.fresh {p : Addr} (s : Stp [] G H G1 H1) (h : H1 p = none) : H p = none := s.ex.none h
theorem EN.ee (h : EN X e σ G O) (k : ∀ p o G', Ex G G' → O o G' → G' p = none → R (.ref p) (L2.upd G' p o)) : EE X e σ G R := fun H Q ex q =>
  h H Q ex fun p o G1 H1 s hp w r => q _ _ _ (s.frz w.h hp) (k p o G1 s.g r w.g)
theorem en_up {p : Addr} {o : HO} {Q : VK} (s : Stp [] G H G1 H1) (hp : H1 p = none) (r : O o G1) (k : ∀ p o G' H', Stp [] G H G' H' → H p = none → Own G' H' p o → O o G' → Q (.ref p) H') : Q (.ref p) (L2.upd H1 p o) :=
  k p o G1 _ (s.trans (Stp.newO s.i hp)) (s.fresh hp) (Own.new s.i hp) r
theorem en_dnewK : EN X (.Dict [] [] pos) σ G fun o _ => o = .dK [] := fun H Q ex k => ⟨_, pe_dnewK, fun p hp => en_up (O := fun o _ => o = .dK []) (Stp.refl ex) hp rfl k⟩
theorem en_dnewT : EN X (.Dict [] [] pos) σ G fun o _ => o = .dT [] := fun H Q ex k => ⟨_, pe_dnewT, fun p hp => en_up (O := fun o _ => o = .dT []) (Stp.refl ex) hp rfl k⟩
theorem en_lst {es : List Expr} {A : List V → Hp → Prop} [l : LenA A n] (h : EA X es σ G A) (hn : n ≤ 1000 := by decide) : EN X (.List es pos) σ G fun o G' => ∃ vs, o = .lst vs ∧ A vs G' := fun H Q ex k =>
  ⟨_, pe_lst (pa_self es), h H _ ex fun vs G1 H1 s r => ⟨small (by rw [l.len _ _ r]; omega), fun p hp => en_up (O := fun o G' => ∃ vs, o = .lst vs ∧ A vs G') s hp ⟨vs, rfl, r⟩ k⟩⟩
theorem en_lst0 : EN X (.List [] pos) σ G fun o _ => o = .lst [] := fun H Q ex k =>
  ⟨_, pe_lst (pa_self []), ea_nil H _ ex fun vs G1 H1 s r => by
    obtain rfl : vs = [] := r
    exact ⟨Nat.zero_le _, fun p hp => en_up (O := fun o _ => o = .lst []) s hp rfl k⟩⟩
/-- list(a) of a tuple -/
theorem en_listT {ds : List PyData} (ha : ED X a σ G (.tuple ds)) (hm : X.mg "list" = none) (hg : Gl X "list" := by rfl) (he : starEach [a] X.env = (false, eval a X.env) :: starEach [] X.env := by rfl) (hpl : (backTo pos (starEach [] X.env)).any (·.1) = false := by rfl) : EN X (.Call (.Name "list" p) [a] [] pos) σ G fun o G' => ∃ vs, o = .lst vs ∧ Paired (Rp G') vs ds := fun H Q ex k =>
  ⟨_, pe_callTy call_list_of hg hm (by decide +kernel) (pa_self _) (by decide) (by decide) he hpl, ea1 ha he H _ ex fun vs G1 H1 s r0 => by
    obtain ⟨v, rfl, r⟩ := ACons.one r0
    obtain ⟨q, xs, rfl, h1, h2⟩ := Rp.tup_rd r
    exact ⟨_, xs, rfl, .inr (sqT_rd (rdX s.i h1)), fun l hl => en_up (O := fun o G' => ∃ vs, o = .lst vs ∧ Paired (Rp G') vs ds) s hl ⟨xs, rfl, h2⟩ k⟩⟩
theorem EN.imp {O' : HO → Hp → Prop} (h : EN X e σ G O) (i : ∀ o G', O o G' → O' o G') : EN X e σ G O' := fun H Q ex k => h H Q ex fun p o G' H' s hp w r => k p o G' H' s hp w (i o G' r)
theorem en_listI {ns : List Int} (ha : ED X a σ G (tI ns)) (hm : X.mg "list" = none) (hg : Gl X "list" := by rfl) (he : starEach [a] X.env = (false, eval a X.env) :: starEach [] X.env := by rfl) (hpl : (backTo pos (starEach [] X.env)).any (·.1) = false := by rfl) : EN X (.Call (.Name "list" p) [a] [] pos) σ G fun o G' => o = .lst (ns.map V.int) :=
  (en_listT ha hm hg he hpl).imp fun o G' ⟨vs, e, r⟩ => by rw [e, paired_ints r]
theorem ws_setN {i : Nat} {x : Str} {pos' : Pos} (hN : X.N.Nodup) (he : EN X e σ G O) (ex : Ex G H) (k : ∀ q o G' H', Stp [] G H G' H' → H q = none → Own G' H' q o → O o G' → WS X rest D (σ.set i (some (.ref q))) H') (hi : X.N[i]? = some x := by rfl) (hx : Loc X.env.scope x := by first | exact Or.inl rfl | exact Or.inr rfl)
    (hs : swapsWith e (some (.Name x pos')) pos.line X.env = pure false := by rfl) (hf : X.fn x = true ∨ X.env.scope.names.lookup x = some .local := by first | exact .inl rfl | exact .inr rfl | assumption) : WS X (.Assign [.Name x pos'] e pos :: rest) D σ H :=
  ws_cons ⟨_, ps_set hN hi hx (pe_self e) hs hf, he H _ ex k⟩
theorem ed_neg {i : Int} (ha : ED X a σ G (.int i)) : ED X (.UnaryOp .USub a pos) σ G (.int (-i)) := fun H Q ex k =>
  ⟨_, pe_un un_neg (pe_self a), ha H _ ex fun v G' H' s r => ⟨i, r.int_eq, k _ G' H' s (.int _)⟩⟩
/-- a step that changes a thing that is new since -/
theorem Stp.loc {x : Addr} {G2 H2 : Hp} (a : Stp S G H G1 H1) (hx : H x = none) (b : Stp (x :: S) G1 H1 G2 H2) : Stp S G H G2 H2 := by
  refine ⟨a.g.trans b.g, b.i, fun y o h => ?_, fun y o h h' => ?_⟩
  · obtain ⟨o1, h1, e1, f1⟩ := a.h y o h
    obtain ⟨o2, h2, e2, f2⟩ := b.h y o1 h1
    refine ⟨o2, h2, fun z => ?_, fun xs z => f1 xs (f2 xs z)⟩
    have hne : y ≠ x := fun e => by rw [e, hx] at h; cases h
    rw [← e1 z]
    exact e2 fun m => by
      rcases List.mem_cons.mp m with m | m
      · exact hne m
      · exact z m
  · cases q : G1 y with
    | some u => exact a.n y u q h'
    | none =>
      have z := b.n y o h q
      cases r : H y with
      | none => exact .inl rfl
      | some v =>
        obtain ⟨v', hv, _, f1⟩ := a.h y v r
        rcases z with z | ⟨xs, z⟩
        · rw [hv] at z
          cases z
        · rw [hv] at z
          exact .inr ⟨xs, by rw [f1 xs (Option.some.inj z)]⟩
end
end PG

/-! part F3 -/
set_option Elab.async false
set_option linter.all false
set_option maxRecDepth 100000
set_option maxHeartbeats 4000000
namespace TK
open PySem PySem.Spec PyProof.Rows L2 PG
variable {P : Program} {w : World} {K : PySem.W.Frag} {mg : Str → Option Value} {base : Heap}
theorem atI_nat {α : Type} {l : List α} {i : Nat} {a : α} (h : l[i]? = some a) : atI l (i : Int) = some a := by
  have hl := (List.getElem?_eq_some_iff.mp h).1
  have h1 : (i : Int) < (l.length : Int) := by omega
  simp [atI, ixN, h1, h]
theorem pairD_eq {G : Hp} {v : V} {p : Str × Int} (h : Rp G v (pairD p)) : ∃ q, v = .ref q ∧ G q = some (.tup [.str p.1, .int p.2]) := by
  obtain ⟨q, xs, rfl, h1, h2⟩ := Rp.tup_eq h
  cases h2 with
  | cons a b =>
    cases b with
    | cons b c =>
      cases c
      rw [a.str_eq, b.int_eq] at h1
      exact ⟨q, rfl, h1⟩
/-- a dict by text keys that stands -/
def DK (kvs : List (Key × V)) : V → Hp → Prop := fun v G => ∃ q, v = .ref q ∧ G q = some (.dK kvs)
instance (kvs : List (Key × V)) : MonoR (DK kvs) := ⟨fun _ _ _ e ⟨q, h1, h2⟩ => ⟨q, h1, e _ _ h2⟩⟩
theorem okName_len {z : Str} (h : okName z = true) : z.length ≤ 100000 := by
  unfold okName at h
  simp only [Bool.and_eq_true, decide_eq_true_eq] at h
  have := h.1.2
  omega
theorem ok_are_parts {ps : List (Str × Int)} (E : Env K mg) (hn : ∀ p ∈ ps, okName p.1 = true) (hc : ∀ p ∈ ps, 1 ≤ p.2 ∧ p.2 ≤ 999999999) : C8.Cal P w K mg base 2 "are_parts" (Pr (A1 (partsD ps)) (RD (.bool true))) [] :=
  cl_are_parts E fun cdv A outer s H vs Q E' hr G ex a k => by
    obtain ⟨v1, rfl, r1⟩ := ACons.one a
    refine ws_skip (et_not (t := true) (et_val (ed_isi (d := partsD ps) (T := "tuple") (r := true) (ee_var (i := 0) rfl r1) E.b_tuple bt_tuple kb_tt E.b_isinstance))) ex fun H1 s1 => ?_
    refine ws_forS (ei_tup (ee_var (i := 0) rfl r1)) PassesOwn.never rfl s1 (fun i σ' _ _ => ∃ o, σ' = [some v1, o]) (fun _ _ _ => ⟨_, rfl⟩) ?_ ?_
    · rintro G1 eg i σ' G' H' G3 H3 x hi e1 s2 ⟨o, rfl⟩ s3 ⟨d, hd, rd⟩
      rw [List.getElem?_map] at hd
      obtain ⟨p, hp, rfl⟩ := Option.map_eq_some_iff.mp hd
      have hm := List.mem_of_getElem? hp
      refine wg (eg_name (i := 1) sc_are_parts.nd) s2.i fun H4 s4 => ?_
      refine ws_skip ?_ s4.i fun H5 s5 => ws_nil ⟨G3, e1, s2.trans (s4.trans s5), _, rfl⟩
      refine (ew_or (t := false) (et_not (t := true) (et_val (ed_isi (d := pairD p) (T := "tuple") (r := true) (ee_var (i := 1) rfl rd) E.b_tuple bt_tuple kb_tt E.b_isinstance))) fun _ =>
        ew_or (t := false) (et_is (et_ne hr (ed_lenT (ee_var (i := 1) rfl rd) E.b_len) ed_int rfl rfl) rfl) fun _ =>
        ew_or (t := false) (et_is (et_not (et_val (ee_cal (ok_is_name E (okName_len (hn p hm))) hr (ea1 (ed_ixT (i := 0) (ee_var (i := 1) rfl rd) ed_int rfl))))) (by rw [hn p hm]; rfl)) fun _ => 
        ew_or1 (et_not (t := true) (et_val (ee_cal (ok_is_count E (hc p hm).1 (hc p hm).2) hr (ea_cons (ed_ixT (i := 1) (ee_var (i := 1) rfl rd) ed_int rfl) (ea1 ed_int)))))).t
    · rintro σ' G' H' e1 s2 ⟨o, rfl⟩
      exact ws_ret (R := RD (.bool true)) ed_bl s2.i fun v G3 H3 s3 r3 => k v G3 H3 (s2.trans s3) r3
end TK

/-! part F4 -/
set_option Elab.async false
set_option linter.all false
set_option maxRecDepth 100000
set_option maxHeartbeats 4000000
namespace TK
open PySem PySem.Spec PyProof.Rows L2 PG
variable {P : Program} {w : World} {K : PySem.W.Frag} {mg : Str → Option Value} {base : Heap}
section
variable {X : Cx} {σ : L2.St} {G : Hp} {e a : Expr} {pos p : Pos}
theorem ed_isT {d : PyData} {ds : List PyData} (E : Env K X.mg) (ha : ED X a σ G (.tuple ds)) (hgT : Gl X "tuple" := by rfl) (hg : Gl X "isinstance" := by rfl)
    (he : starEach [a, .Name "tuple" p] X.env = (false, eval a X.env) :: starEach [.Name "tuple" p] X.env := by rfl) (he2 : starEach [.Name "tuple" p] X.env = (false, eval (.Name "tuple" p) X.env) :: starEach [] X.env := by rfl) (hpl : (backTo pos (starEach [.Name "tuple" p] X.env)).any (·.1) = false := by rfl) {p2 : Pos} : ED X (.Call (.Name "isinstance" p2) [a, .Name "tuple" p] [] pos) σ G (.bool true) :=
  ed_isi (d := .tuple ds) (T := "tuple") (r := true) ha E.b_tuple bt_tuple kb_tt E.b_isinstance hgT hg (he := he) (he2 := he2) (hpl := hpl)
end
theorem ok_is_place {pl : Str × Int} {kvs : List (Key × V)} (E : Env K mg) (hn : okName pl.1 = true) (hk : valV kvs (.inr pl.1) = none) (hc : 0 ≤ pl.2 ∧ pl.2 ≤ 999999999) : C8.Cal P w K mg base 3 "is_place" (Pr (ACons (RD (pairD pl)) (ACons (DK kvs) ANil)) (RD (.bool true))) [] :=
  cl_is_place E fun cdv A outer s H vs Q E' hr G ex a k => by
    obtain ⟨v1, v2, rfl, r1, q, rfl, r2⟩ := ACons.two a
    refine ws_skip (et_or (t := false) (et_not (t := true) (et_val (ed_isT (d := pairD pl) E (ee_var (i := 0) rfl r1)))) fun _ => et_is (et_ne hr (ed_lenT (ee_var (i := 0) rfl r1) E.b_len) ed_int rfl rfl) rfl) ex fun H1 s1 => ?_
    refine ws_ret (R := RD (.bool true)) ?_ s1.i fun v G' H' s r => k v G' H' (s1.trans s) r
    refine ee_is (ed_and (t := true) (ee_is (ee_cal (ok_is_name E (okName_len hn)) hr (ea1 (ed_ixT (i := 0) (ee_var (i := 0) rfl r1) ed_int rfl))) (by rw [hn])) fun _ => ed_and (t := true) (ee_is (ed_notInK (y := .inr pl.1) (kvs := kvs) hr (ed_ixT (i := 0) (ee_var (i := 0) rfl r1) ed_int rfl) (ee_var (i := 1) (v := .ref q) rfl rfl) r2 fun v G' r => Rp.str_eq r) (by rw [hk]; rfl)) fun _ =>
      ed_and1 (ee_cal (ok_is_count E hc.1 hc.2) hr (ea_cons (ed_ixT (i := 1) (ee_var (i := 0) rfl r1) ed_int rfl) (ea1 ed_int)))) rfl
theorem ok_is_firing {f : Fir} {kvs : List (Key × V)} {ns : List Str} (E : Env K mg) (hn : okName f.name = true) (hk : valV kvs (.inr f.name) = none) (hl : okName f.label = true ∨ f.label = "") (hs : ∀ x ∈ ns, okName x = true) (ht : OkP ns f.takes) (hg : OkP ns f.gives) :
    C8.Cal P w K mg base 3 "is_firing" (Pr (ACons (RD (firD f)) (ACons (DK kvs) ANil)) (RD (.bool true))) [] :=
  cl_is_firing E fun cdv A outer s H vs Q E' hr G ex a k => by
    obtain ⟨v1, v2, rfl, r1, q, rfl, r2⟩ := ACons.two a
    have hll : f.label.length ≤ 100000 := by
      rcases hl with h | h
      · exact okName_len h
      · rw [h]; decide
    refine ws_skip ((ew_or (t := false) (et_not (t := true) (et_val (ed_isT (d := firD f) E (ee_var (i := 0) rfl r1)))) fun _ => ew_or (t := false) (et_is (et_ne hr (ed_lenT (ee_var (i := 0) rfl r1) E.b_len) ed_int rfl rfl) rfl) fun _ =>
      ew_or (t := false) (et_is (et_not (et_val (ee_cal (ok_is_name E (okName_len hn)) hr (ea1 (ed_ixT (i := 0) (ee_var (i := 0) rfl r1) ed_int rfl))))) (by rw [hn]; rfl)) fun _ =>
      ew_or1 (et_is (et_inK (y := .inr f.name) (kvs := kvs) hr (ed_ixT (i := 0) (ee_var (i := 0) rfl r1) ed_int rfl) (ee_var (i := 1) (v := .ref q) rfl rfl) r2 fun v G' r => Rp.str_eq r) (by rw [hk]; rfl))).t) ex fun H1 s1 => ?_
    refine ws_skip (et_is (et_and (et_not (et_val (ee_cal (ok_is_name E hll) hr (ea1 (ed_ixT (i := 1) (ee_var (i := 0) rfl r1) ed_int rfl))))) fun hf => et_not (t := true) (et_and (t := true) (et_val (ed_isi (d := .str f.label) (T := "str") (r := true) (ed_ixT (i := 1) (ee_var (i := 0) rfl r1) ed_int rfl) E.b_str bt_str kb_ss E.b_isinstance)) fun _ =>
      et_is (et_eq hr (ed_ixT (i := 1) (ee_var (i := 0) rfl r1) ed_int rfl) ed_str ?_ (by decide +kernel)) ?_)) (by simp)) s1.i fun H2 s2 => ?_
    · rcases hl with h | h
      · rw [h] at hf; cases hf
      · rw [h]; decide +kernel
    · rcases hl with h | h
      · rw [h] at hf; cases hf
      · rw [h]; decide +kernel
    refine ws_ret (R := RD (.bool true)) ?_ s2.i fun v G' H' s r => k v G' H' ((s1.trans s2).trans s) r
    exact ee_is (ed_and (t := true) (ee_cal (ok_are_parts E (fun p hp => hs _ (ht.mem p hp)) ht.cnt) hr (ea1 (ed_ixT (i := 2) (ee_var (i := 0) rfl r1) ed_int rfl))) fun _ => ed_and1 (ee_cal (ok_are_parts E (fun p hp => hs _ (hg.mem p hp)) hg.cnt) hr (ea1 (ed_ixT (i := 3) (ee_var (i := 0) rfl r1) ed_int rfl)))) rfl
theorem ok_part_wrong {f : Fir} {kvs : List (Key × V)} {ns : List Str} (E : Env K mg) (hv : ∀ x ∈ ns, valV kvs (.inr x) = some (.int (ix ns x))) (ht : OkP ns f.takes) (hg : OkP ns f.gives) :
    C8.Cal P w K mg base 1 "part_wrong" (Pr (ACons (RD (firD f)) (ACons (DK kvs) ANil)) (RD .none)) [] :=
  cl_part_wrong E fun cdv A outer s H vs Q E' hr G ex a k => by
    obtain ⟨v1, v2, rfl, r1, q, rfl, r2⟩ := ACons.two a
    refine ws_set (i := 2) sc_part_wrong.nd (ed_int (i := 0)) ex fun v G1 H1 s1 r3 => ?_
    rw [Rp.int_eq r3]
    have r1' : Rp G1 v1 (firD f) := Rp.mono s1.g _ _ r1
    refine ws_forS (G := G1) (ei_tup (ds := [partsD f.takes, partsD f.gives]) (ee_is (ed_slT (i := some 2) (j := none) (ee_var (i := 0) rfl r1') (eo_int ed_int) eo_none) rfl)) PassesOwn.never rfl s1 (fun i σ' _ _ => ∃ n : Int, ∃ o3 o4 o5 o6, σ' = [some v1, some (.ref q), some (.int n), o3, o4, o5, o6]) (fun _ _ _ => ⟨0, _, _, _, _, rfl⟩) ?_ ?_
    · rintro G2 eg i σ' G' H' G3 H3 x hi e1 s2 ⟨n, o3, o4, o5, o6, rfl⟩ s3 ⟨d, hd, rd⟩
      obtain ⟨ps, rfl, hp⟩ : ∃ ps, d = partsD ps ∧ OkP ns ps := by
        have := List.mem_of_getElem? hd
        simp only [List.mem_cons, List.not_mem_nil, or_false] at this
        rcases this with rfl | rfl
        · exact ⟨_, rfl, ht⟩
        · exact ⟨_, rfl, hg⟩
      refine wg (eg_name (i := 3) sc_part_wrong.nd) s2.i fun H4 s4 => ?_
      refine ws_set (i := 4) sc_part_wrong.nd (ed_neg (ed_int (i := 1))) s4.i fun v G5 H5 s5 r5 => ?_
      rw [Rp.int_eq r5]
      have s05 := s2.trans (s4.trans s5)
      refine ws_forS (ei_tup (ee_var (i := 3) rfl (Rp.mono s5.g _ _ rd))) PassesOwn.never rfl s05 (fun i σ' _ _ => ∃ n l : Int, ∃ o5 o6, σ' = [some v1, some (.ref q), some (.int n), some x, some (.int l), o5, o6] ∧ ∀ p ∈ ps.drop i, l < ix ns p.1) (fun _ _ _ => ⟨n, -1, _, _, rfl, fun p _ => by omega⟩) ?_ ?_
      · rintro G6 eg6 i6 σ6 G6' H6' G7 H7 y hi6 e6 s7 ⟨n, l, o5, o6, rfl, hlt⟩ s8 ⟨d, hd, rd⟩
        rw [List.getElem?_map] at hd
        obtain ⟨p, hp6, rfl⟩ := Option.map_eq_some_iff.mp hd
        have hm := List.mem_of_getElem? hp6
        have hns := hp.mem p hm
        obtain ⟨t, rfl, hq⟩ := pairD_eq rd
        have r2' : G7 q = some (.dK kvs) := s7.g _ _ r2
        have hdrop : ps.drop i6 = p :: ps.drop (i6 + 1) := by
          obtain ⟨hl6, e6⟩ := List.getElem?_eq_some_iff.mp hp6
          rw [List.drop_eq_getElem_cons hl6, e6]
        refine wg (eg_tup2 rfl hq (eg_name (i := 5) sc_part_wrong.nd) (eg_name (i := 6) sc_part_wrong.nd)) s7.i fun H8 s8 => ?_
        have hlt1 : l < ix ns p.1 := hlt p (by rw [hdrop]; exact List.mem_cons_self ..)
        refine ws_skip (et_or (t := false) (et_is (et_notInK (y := .inr p.1) (kvs := kvs) hr (ee_var (i := 5) (R := RD (.str p.1)) rfl (.str _)) (ee_var (i := 1) (v := .ref q) rfl rfl) r2' fun v G' r => Rp.str_eq r) (by rw [hv _ hns]; rfl)) fun _ =>
          et_is (et_le (i := ix ns p.1) (j := l) (ee_dgetK (y := .inr p.1) hr (ee_var (i := 1) (v := .ref q) rfl rfl) r2' (ee_var (i := 5) (R := RD (.str p.1)) rfl (.str _)) (fun v G' r => Rp.str_eq r) (hv _ hns) (.int _)) (ee_var (i := 4) (R := RD (.int l)) rfl (.int _))) (by simp; omega)) s8.i fun H9 s9 => ?_
        refine ws_set (i := 4) (R := RD (.int (ix ns p.1))) sc_part_wrong.nd (ee_dgetK (y := .inr p.1) hr (ee_var (i := 1) (v := .ref q) rfl rfl) r2' (ee_var (i := 5) (R := RD (.str p.1)) rfl (.str _)) (fun v G' r => Rp.str_eq r) (hv _ hns) (.int _)) s9.i fun v G10 H10 s10 r10 => ?_
        rw [Rp.int_eq r10]
        refine ws_augI (i := 2) (n := n) (m := 1) sc_part_wrong.nd rfl ed_int s10.i fun H11 s11 => ws_nil ⟨G10, e6.trans s10.g, (((s7.trans s8).trans s9).trans s10).trans s11, n + 1, ix ns p.1, _, _, rfl, fun p' hp' => ?_⟩
        have up := hp.up
        have := List.pairwise_iff_getElem.mp up
        obtain ⟨j, hj, ej⟩ := List.mem_iff_getElem.mp hp'
        rw [List.getElem_drop] at ej
        rw [List.length_drop] at hj
        obtain ⟨hl6, e6'⟩ := List.getElem?_eq_some_iff.mp hp6
        have h7 := this i6 (i6 + 1 + j) hl6 (by omega) (by omega)
        rw [e6', ej] at h7
        omega
      · rintro σ6 G6 H6 e6 s6 ⟨n, l, o5, o6, rfl, _⟩
        exact ws_nil ⟨G6, e1.trans (s5.g.trans e6), s6, n, _, _, _, _, rfl⟩
    · rintro σ' G' H' e1 s2 ⟨n, o3, o4, o5, o6, rfl⟩
      exact ws_ret (R := RD .none) ed_non s2.i fun v G3 H3 s3 r3 => k v G3 H3 (s2.trans s3) r3
end TK

/-! part M1 -/
set_option Elab.async false
set_option linter.all false
set_option maxRecDepth 100000
set_option maxHeartbeats 4000000
/-! TK: firing, place by place. -/
namespace TK
open PySem PySem.Spec PyProof.Rows L2 PG
def cnt : List (Str × Int) → Str → Int
  | [], _ => 0
  | p :: ps, x => (if p.1 = x then p.2 else 0) + cnt ps x
def plus (ns : List Str) (s : Int) (ps : List (Str × Int)) (h : List Int) : List Int := (ns.zip h).map fun q => q.2 + s * cnt ps q.1
def stepP (ns : List Str) (s : Int) (h : List Int) (p : Str × Int) : List Int := h.set (ix ns p.1) (h.getD (ix ns p.1) 0 + s * p.2)
theorem ix_get {ns : List Str} (hn : ns.Nodup) {i : Nat} {x : Str} (h : ns[i]? = some x) : ix ns x = i := by
  obtain ⟨hl, e⟩ := List.getElem?_eq_some_iff.mp h
  have hm : x ∈ ns := List.mem_of_getElem? h
  have h1 : ix ns x < ns.length := List.idxOf_lt_length_iff.mpr hm
  have h2 : ns[ix ns x] = x := List.getElem_idxOf h1
  exact (List.getElem_inj hn).mp (h2.trans e.symm)
theorem ix_at {ns : List Str} {x : Str} (h : x ∈ ns) : ns[ix ns x]? = some x := by
  have h1 : ix ns x < ns.length := List.idxOf_lt_length_iff.mpr h
  rw [List.getElem?_eq_getElem h1, List.getElem_idxOf h1]
theorem plus_length {ns : List Str} {s : Int} {ps : List (Str × Int)} {h : List Int} (hl : h.length = ns.length) : (plus ns s ps h).length = ns.length := by
  unfold plus
  simp [hl]
theorem plus_get {ns : List Str} {s : Int} {ps : List (Str × Int)} {h : List Int} {k : Nat} {x : Str} {y : Int} (hx : ns[k]? = some x) (hy : h[k]? = some y) : (plus ns s ps h)[k]? = some (y + s * cnt ps x) := by
  unfold plus
  have : (ns.zip h)[k]? = some (x, y) := List.getElem?_zip_eq_some.mpr ⟨hx, hy⟩
  rw [List.getElem?_map, this] <;> rfl
theorem plus_nil {ns : List Str} {s : Int} {h : List Int} (hl : h.length = ns.length) : plus ns s [] h = h := by
  apply List.ext_getElem?
  intro k
  by_cases hk : k < ns.length
  · have hx := List.getElem?_eq_getElem hk
    have hy := List.getElem?_eq_getElem (l := h) (i := k) (by omega)
    rw [plus_get hx hy, hy]
    simp [cnt]
  · rw [List.getElem?_eq_none (by rw [plus_length hl]; omega), List.getElem?_eq_none (by omega)]
theorem stepP_length {ns : List Str} {s : Int} {h : List Int} {p : Str × Int} : (stepP ns s h p).length = h.length := by
  unfold stepP
  simp
theorem foldP {ns : List Str} (nd : ns.Nodup) {s : Int} : ∀ {ps : List (Str × Int)} {h : List Int}, (∀ p ∈ ps, p.1 ∈ ns) → h.length = ns.length → ps.foldl (stepP ns s) h = plus ns s ps h
  | [], h, _, hl => (plus_nil hl).symm
  | p :: ps, h, hm, hl => by
    rw [List.foldl_cons, foldP nd (fun q hq => hm q (List.mem_cons_of_mem _ hq)) (by rw [stepP_length, hl])]
    have hp := hm p (List.mem_cons_self ..)
    have hix := List.idxOf_lt_length_iff.mpr hp
    apply List.ext_getElem?
    intro k
    by_cases hk : k < ns.length
    · have hx := List.getElem?_eq_getElem hk
      have hy := List.getElem?_eq_getElem (l := h) (i := k) (by omega)
      rw [plus_get (ps := p :: ps) hx hy]
      by_cases e : ix ns p.1 = k
      · have ep : p.1 = ns[k] := by
          have := ix_at hp
          rw [e, hx] at this
          exact (Option.some.inj this).symm
        have hy2 : (stepP ns s h p)[k]? = some (h[k] + s * p.2) := by
          unfold stepP
          rw [e, List.getElem?_set_self (by omega)]
          simp [List.getD_eq_getElem?_getD, hy]
        rw [plus_get hx hy2]
        show _ = some (h[k] + s * ((if p.1 = ns[k] then p.2 else 0) + cnt ps ns[k]))
        rw [if_pos ep, Int.mul_add, Int.add_assoc]
      · have ep : ¬ p.1 = ns[k] := fun z => e (by rw [z]; exact ix_get nd hx)
        have hy2 : (stepP ns s h p)[k]? = some (h[k]) := by
          unfold stepP
          rw [List.getElem?_set_ne e, hy]
        rw [plus_get hx hy2]
        show _ = some (h[k] + s * ((if p.1 = ns[k] then p.2 else 0) + cnt ps ns[k]))
        rw [if_neg ep, Int.zero_add]
    · rw [List.getElem?_eq_none (by rw [plus_length (by rw [stepP_length, hl])]; omega), List.getElem?_eq_none (by rw [plus_length hl]; omega)]
theorem fold_take {α β : Type} (f : β → α → β) (b : β) {l : List α} {i : Nat} {a : α} (h : l[i]? = some a) : (l.take (i + 1)).foldl f b = f ((l.take i).foldl f b) a := by
  rw [List.take_succ, h, List.foldl_append]
  rfl
def canF (N : Net) (h : List Int) (f : Fir) : Bool := f.takes.all fun p => decide (p.2 ≤ h.getD (ix N.names p.1) 0)
def fire (N : Net) (h : List Int) (f : Fir) : List Int := plus N.names 1 f.gives (plus N.names (-1) f.takes h)
/-- a heap of the net -/
structure Hip (N : Net) (h : List Int) : Prop where
  len : h.length = N.names.length
  nn : ∀ x ∈ h, 0 ≤ x
theorem Hip.ne {N : Net} {h : List Int} (H : Hip N h) (W : Wf N) : h ≠ [] := fun e => by
  have h1 := H.len
  rw [e] at h1
  unfold Net.names at h1
  rw [List.length_map] at h1
  exact W.ne (List.length_eq_zero_iff.mp h1.symm)
theorem ne_of_len {N : Net} {h : List Int} (W : Wf N) (hl : h.length = N.names.length) : h ≠ [] := fun e => by
  rw [e] at hl
  unfold Net.names at hl
  rw [List.length_map] at hl
  exact W.ne (List.length_eq_zero_iff.mp hl.symm)
theorem names_len {N : Net} : N.names.length = N.places.length := by
  unfold Net.names
  rw [List.length_map]
theorem fire_length {N : Net} {h : List Int} {f : Fir} (hl : h.length = N.names.length) : (fire N h f).length = N.names.length := plus_length (plus_length hl)
theorem cnt_out : ∀ {ps : List (Str × Int)} {x : Str}, (∀ p ∈ ps, p.1 ≠ x) → cnt ps x = 0
  | [], _, _ => rfl
  | p :: ps, x, h => by
    unfold cnt
    rw [if_neg (h p (List.mem_cons_self ..)), cnt_out fun q hq => h q (List.mem_cons_of_mem _ hq)]
    rfl
theorem cnt_nn : ∀ {ps : List (Str × Int)} {x : Str}, (∀ p ∈ ps, 1 ≤ p.2) → 0 ≤ cnt ps x
  | [], _, _ => Int.le_refl _
  | p :: ps, x, h => by
    unfold cnt
    have h1 := h p (List.mem_cons_self ..)
    have h2 := cnt_nn (x := x) fun q hq => h q (List.mem_cons_of_mem _ hq)
    split <;> omega
theorem cnt_in {ns : List Str} : ∀ {ps : List (Str × Int)} {p : Str × Int}, (ps.Pairwise fun p q => ix ns p.1 < ix ns q.1) → p ∈ ps → cnt ps p.1 = p.2
  | q :: ps, p, h, hm => by
    rw [List.pairwise_cons] at h
    unfold cnt
    rcases List.mem_cons.mp hm with e | hm
    · subst e
      rw [if_pos rfl, cnt_out fun r hr e => by
        have := h.1 r hr
        rw [e] at this
        omega]
      omega
    · rw [if_neg (fun e => by
        have := h.1 p hm
        rw [e] at this
        omega), cnt_in h.2 hm]
      omega
theorem getD_of {h : List Int} {k : Nat} {y : Int} (hy : h[k]? = some y) : h.getD k 0 = y := by
  simp [List.getD_eq_getElem?_getD, hy]
/-- place by place -/
theorem canF_iff {N : Net} (W : Wf N) {h : List Int} (H : Hip N h) {f : Fir} (hf : f ∈ N.firings) : canF N h f = true ↔ ∀ (k : Nat) (x : Str) (y : Int), N.names[k]? = some x → h[k]? = some y → cnt f.takes x ≤ y := by
  unfold canF
  rw [List.all_eq_true]
  constructor
  · intro a k x y hx hy
    by_cases e : ∃ p ∈ f.takes, p.1 = x
    · obtain ⟨p, hp, rfl⟩ := e
      rw [cnt_in (W.tk f hf).up hp]
      have := of_decide_eq_true (a p hp)
      rw [ix_get W.nd hx, getD_of hy] at this
      exact this
    · rw [cnt_out fun p hp z => e ⟨p, hp, z⟩]
      exact H.nn y (List.mem_of_getElem? hy)
  · intro a p hp
    have hm := (W.tk f hf).mem p hp
    have hx := ix_at hm
    have hl := List.idxOf_lt_length_iff.mpr hm
    have hy := List.getElem?_eq_getElem (l := h) (i := ix N.names p.1) (by rw [H.len]; exact hl)
    have := a _ _ _ hx hy
    rw [cnt_in (W.tk f hf).up hp] at this
    rw [getD_of hy]
    exact decide_eq_true this
theorem fire_get {N : Net} {h : List Int} {f : Fir} {k : Nat} {x : Str} {y : Int} (hx : N.names[k]? = some x) (hy : h[k]? = some y) : (fire N h f)[k]? = some (y - cnt f.takes x + cnt f.gives x) := by
  have := plus_get (s := -1) (ps := f.takes) hx hy
  have := plus_get (s := 1) (ps := f.gives) hx this
  unfold fire
  rw [this]
  congr 1
  omega
theorem fire_hip {N : Net} (W : Wf N) {h : List Int} (H : Hip N h) {f : Fir} (hf : f ∈ N.firings) (c : canF N h f = true) : Hip N (fire N h f) := by
  refine ⟨fire_length H.len, fun z hz => ?_⟩
  obtain ⟨k, hk, e⟩ := List.mem_iff_getElem.mp hz
  rw [fire_length H.len] at hk
  have hx := List.getElem?_eq_getElem hk
  have hy := List.getElem?_eq_getElem (l := h) (i := k) (by rw [H.len]; exact hk)
  have h1 := fire_get (f := f) hx hy
  rw [List.getElem?_eq_getElem (by rw [fire_length H.len]; exact hk), e] at h1
  have h2 := (canF_iff W H hf).mp c k _ _ hx hy
  have h3 := cnt_nn (x := N.names[k]) (fun p hp => ((W.gv f hf).cnt p hp).1)
  have := Option.some.inj h1
  omega
theorem begin_hip {N : Net} (W : Wf N) : Hip N (N.places.map (·.2)) := ⟨by rw [names_len, List.length_map], fun z hz => by
  obtain ⟨p, hp, rfl⟩ := List.mem_map.mp hz
  exact (W.bg p hp).1⟩
end TK

/-! part F5 -/
set_option Elab.async false
set_option linter.all false
set_option maxRecDepth 100000
set_option maxHeartbeats 4000000
namespace TK
open PySem PySem.Spec PyProof.Rows L2 PG
variable {P : Program} {w : World} {K : PySem.W.Frag} {mg : Str → Option Value} {base : Heap}
/-- the first k names are numbered -/
structure NumK (ns : List Str) (k : Nat) (kvs : List (Key × V)) : Prop where
  len : kvs.length ≤ k
  is : ∀ x ∈ ns.take k, valV kvs (.inr x) = some (.int (ix ns x))
  no : ∀ x, x ∉ ns.take k → valV kvs (.inr x) = none
theorem NumK.nil {ns : List Str} : NumK ns 0 [] := ⟨Nat.le_refl _, fun x h => by simp at h, fun x _ => rfl⟩
theorem mem_take_succ {α : Type} {ns : List α} {k : Nat} {x y : α} (h : ns[k]? = some x) : y ∈ ns.take (k + 1) ↔ y ∈ ns.take k ∨ y = x := by
  rw [List.take_succ, h]
  simp
theorem NumK.put {ns : List Str} {k : Nat} {kvs : List (Key × V)} {x : Str} (a : NumK ns k kvs) (hn : ns.Nodup) (h : ns[k]? = some x) : NumK ns (k + 1) (putK kvs (.inr x) (.int (k : Nat))) := by
  refine ⟨Nat.le_trans (length_putK _ _ _) (Nat.succ_le_succ a.len), fun y hy => ?_, fun y hy => ?_⟩
  · rw [valV_put]
    by_cases e : y = x
    · subst e
      rw [if_pos rfl, ix_get hn h]
    · rw [if_neg (fun z => e (Sum.inr.inj z))]
      exact a.is y (((mem_take_succ h).mp hy).resolve_right e)
  · rw [mem_take_succ h, not_or] at hy
    rw [valV_put, if_neg (fun z => hy.2 (Sum.inr.inj z))]
    exact a.no y hy.1
theorem NumK.fresh {ns : List Str} {k : Nat} {kvs : List (Key × V)} {x : Str} (a : NumK ns k kvs) (hn : ns.Nodup) (h : ns[k]? = some x) : valV kvs (.inr x) = none := a.no x fun hm => by
  obtain ⟨j, hj, e⟩ := List.mem_iff_getElem.mp hm
  rw [List.getElem_take] at e
  rw [List.length_take] at hj
  obtain ⟨hl, e2⟩ := List.getElem?_eq_some_iff.mp h
  have := (List.getElem_inj hn).mp (e.trans e2.symm)
  omega
theorem okName_signs {z : Str} (h : okName z = true) : z.cps.toList.all (fun c => decide (c ∈ (SMALL ++ FIGURES).cps.toList)) = true := by
  unfold okName okSigns at h
  simp only [Bool.and_eq_true] at h
  exact h.2.2.2
theorem okName_str {z : Str} (h : okName z = true) : PyData.canLay0 (.str z) = true := by
  have h2 := okName_signs h
  have h3 : ∀ c ∈ (SMALL ++ FIGURES).cps.toList, c < 0x110000 := by decide +kernel
  rw [PyData.canLay0]
  unfold PyData.strOk
  rw [← Array.all_toList, List.all_eq_true]
  intro c hc
  rw [List.all_eq_true] at h2
  exact decide_eq_true (h3 c (of_decide_eq_true (h2 c hc)))
theorem canAll {α : Type} (f : α → PyData) : ∀ l : List α, (∀ x ∈ l, PyData.canLay0 (f x) = true) → PyData.canLayAll0 (l.map f) = true
  | [], _ => by rw [List.map_nil, PyData.canLayAll0]
  | a :: l, h => by
    rw [List.map_cons, PyData.canLayAll0, h a (List.mem_cons_self ..), canAll f l fun x hx => h x (List.mem_cons_of_mem _ hx)]
    rfl
theorem depAll {α : Type} (f : α → PyData) (n : Nat) : ∀ l : List α, (∀ x ∈ l, PyData.depth (f x) ≤ n) → PyData.depthAll (l.map f) ≤ n
  | [], _ => by rw [List.map_nil, PyData.depthAll]; exact Nat.zero_le _
  | a :: l, h => by
    rw [List.map_cons, PyData.depthAll]
    exact Nat.max_le.mpr ⟨h a (List.mem_cons_self ..), depAll f n l fun x hx => h x (List.mem_cons_of_mem _ hx)⟩
/-- of known depth -/
def shp (n : Nat) (d : PyData) : Prop := PyData.canLay0 d = true ∧ PyData.depth d ≤ n
theorem shp.of {n : Nat} {d : PyData} (h : shp n d) (hn : n ≤ 64 := by decide) : SeqAt.shaped d = true := by
  unfold SeqAt.shaped
  rw [h.1, Bool.true_and]
  exact decide_eq_true (Nat.le_trans h.2 hn)
theorem shp_tup {α : Type} {f : α → PyData} {n : Nat} {l : List α} (h : ∀ x ∈ l, shp n (f x)) : shp (n + 1) (.tuple (l.map f)) :=
  ⟨by rw [PyData.canLay0]; exact canAll f l fun x hx => (h x hx).1, by rw [PyData.depth]; exact Nat.succ_le_succ (depAll f n l fun x hx => (h x hx).2)⟩
theorem shp_lst {α : Type} {f : α → PyData} {n : Nat} {l : List α} (h : ∀ x ∈ l, shp n (f x)) : shp (n + 1) (.list (l.map f)) :=
  ⟨by rw [PyData.canLay0]; exact canAll f l fun x hx => (h x hx).1, by rw [PyData.depth]; exact Nat.succ_le_succ (depAll f n l fun x hx => (h x hx).2)⟩
theorem shp_int (i : Int) : shp 0 (.int i) := ⟨by rw [PyData.canLay0], by rw [PyData.depth]; exact Nat.le_refl _⟩
theorem shp_name {z : Str} (h : okName z = true) : shp 0 (.str z) := ⟨okName_str h, by rw [PyData.depth]; exact Nat.le_refl _⟩
theorem shp_tI (ns : List Int) : shp 1 (tI ns) := shp_tup fun x _ => shp_int x
theorem shp_t1 {n : Nat} {a : PyData} (h : shp n a) : shp (n + 1) (.tuple [a]) := shp_tup (f := id) (l := [a]) fun x hx => by
  simp at hx
  exact hx ▸ h
theorem shp_t2 {n : Nat} {a b : PyData} (h : shp n a) (h' : shp n b) : shp (n + 1) (.tuple [a, b]) := shp_tup (f := id) (l := [a, b]) fun x hx => by
  simp at hx
  rcases hx with rfl | rfl
  · exact h
  · exact h'
theorem shp_pair {p : Str × Int} (h : okName p.1 = true) : shp 1 (pairD p) := shp_t2 (shp_name h) (shp_int _)
theorem firD_len {f : Fir} : ∀ {ds : List PyData}, firD f = .tuple ds → ds.length = 4 := fun h => by
  have := PyData.tuple.inj h
  rw [← this]
  rfl
theorem ok_net_wrong {N : Net} (E : Env K mg) (W : Wf N) : C8.Cal P w K mg base 4 "net_wrong" (Pr (A1 (netD N)) (RD .none)) [] :=
  cl_net_wrong E fun cdv A outer s H vs Q E' hr G ex a k => by
    obtain ⟨v1, rfl, r1⟩ := ACons.one a
    have hnil : PyData.eqv (placesD N) (.tuple []) = false := by
      have := W.ne
      cases h : N.places with
      | nil => exact absurd h this
      | cons p ps =>
        show PyData.eqv (.tuple (N.places.map pairD)) (.tuple []) = false
        rw [h, List.map_cons, PyData.eqv, PyData.eqvAll]
    refine ws_skip (et_or (t := false) (et_not (t := true) (et_val (ed_isT (d := netD N) E (ee_var (i := 0) rfl r1)))) fun _ => et_is (et_ne hr (ed_lenT (ee_var (i := 0) rfl r1) E.b_len) ed_int rfl rfl) rfl) ex fun H1 s1 => ?_
    refine ws_skip ((ew_or (t := false) (et_not (t := true) (et_val (ed_isT (d := placesD N) E (ed_ixT (i := 0) (ee_var (i := 0) rfl r1) ed_int rfl)))) fun _ => ew_or (t := false) (et_not (t := true) (et_val (ed_isT (d := firingsD N) E (ed_ixT (i := 1) (ee_var (i := 0) rfl r1) ed_int rfl)))) fun _ =>
      ew_or1 (et_is (et_eq hr (ed_ixT (i := 0) (ee_var (i := 0) rfl r1) ed_int rfl) (ed_tup ad_nil) ((shp_tup fun p hp => shp_pair (W.nm p hp)).of) rfl) hnil)).t) s1.i fun H2 s2 => ?_
    refine ws_setN (i := 1) sc_net_wrong.nd en_dnewK s2.i fun q o G3 H3 s3 hq w3 ho => ?_
    subst ho
    have r3 : Rp G3 v1 (netD N) := Rp.mono s3.g _ _ r1
    have hqH : H q = none := (s1.trans s2).fresh hq
    refine ws_forS (ei_enumT (ed_ixT (i := 0) (d := placesD N) (ee_var (i := 0) rfl r3) ed_int rfl) E.b_enumerate) PassesOwn.never rfl ((s1.trans s2).trans s3)
      (fun i σ' G' H' => ∃ o2 o3 kvs, σ' = [some v1, some (.ref q), o2, o3, none, none, none] ∧ Own G' H' q (.dK kvs) ∧ NumK N.names i kvs) (fun G4 H4 s4 => ⟨_, _, [], rfl, w3.step0 s4, .nil⟩) ?_ ?_
    · rintro G1 eg i σ' G' H' G5 H5 x hi e1 s5 ⟨o2, o3, kvs, rfl, own, nk⟩ s6 ⟨d, y, t, hd, rfl, ht, ry⟩
      rw [List.getElem?_map] at hd
      obtain ⟨p, hp, rfl⟩ := Option.map_eq_some_iff.mp hd
      have hm := List.mem_of_getElem? hp
      have hns : N.names[i]? = some p.1 := by
        unfold Net.names
        rw [List.getElem?_map, hp]
        rfl
      have w5 := own.step0 s6
      refine wg (eg_tup2 rfl ht (eg_name (i := 2) sc_net_wrong.nd) (eg_name (i := 3) sc_net_wrong.nd)) s5.i fun H6 s7 => ?_
      have w6 := w5.step0 s7
      refine ws_skip (G := upd G5 q (.dK kvs)) (et_not (t := true) (et_val (ee_cal (ok_is_place (pl := p) (kvs := kvs) E (W.nm p hm) (nk.fresh W.nd hns) (W.bg p hm)) hr (ea_cons (ee_var (i := 3) rfl (Rp.mono w6.exG _ _ ry)) (ea1 (ee_var (i := 1) (R := DK kvs) rfl ⟨q, rfl, upd_same⟩)))))) (w6.exU s7.i) fun H7 s8 => ?_
      have s8' := Stp.weak w6.exG s8
      have w7 := w6.step0 s8'
      have hkl : kvs.length ≤ 40 := Nat.le_trans nk.len (Nat.le_trans (Nat.le_of_lt (by simpa using hi)) W.len)
      refine ws_dputK (y := .inr p.1) (R := RD (.int (i : Nat))) hr (ee_var (i := 2) rfl (.int _)) (ee_var (i := 1) rfl rfl) (ed_ixT (i := 0) (d := .str p.1) (ee_var (i := 3) rfl ry) ed_int rfl) (fun v G' r => Rp.str_eq r) w7 (by omega) s8'.i fun v G8 H8 s9 r9 w8 => ?_
      rw [Rp.int_eq r9]
      exact ws_nil ⟨G8, e1.trans s9.g, (((s5.trans s7).trans s8').trans s9).mut w8.g (.inl hqH), _, _, _, rfl, w8.upd, nk.put W.nd hns⟩
    · rintro σ' G' H' e1 s5 ⟨o2, o3, kvs, rfl, own, nk⟩
      have hnl : N.names.take (N.places.map pairD).length = N.names := by
        unfold Net.names
        rw [List.length_map, List.take_of_length_le (by rw [List.length_map]; exact Nat.le_refl _)]
      have nv : ∀ x ∈ N.names, valV kvs (.inr x) = some (.int (ix N.names x)) := fun x hx => nk.is x (by rw [hnl]; exact hx)
      refine ws_setN (i := 4) sc_net_wrong.nd en_dnewK s5.i fun q2 o G6 H6 s6 hq2 w62 ho => ?_
      subst ho
      have r6 : Rp G6 v1 (netD N) := Rp.mono (e1.trans s6.g) _ _ r3
      have hqH2 : H q2 = none := by
        cases z : H q2 with
        | none => rfl
        | some u =>
          obtain ⟨u', hu, _⟩ := s5.h _ _ z
          rw [hq2] at hu
          cases hu
      have w6 := own.step0 s6
      have hqq : q ≠ q2 := fun e => by
        have := own.h
        rw [e, hq2] at this
        cases this
      refine ws_forS (ei_enumT (ed_ixT (i := 1) (d := firingsD N) (ee_var (i := 0) rfl r6) ed_int rfl) E.b_enumerate) PassesOwn.never rfl (s5.trans s6)
        (fun i σ' G' H' => ∃ o2 o3 o5 o6 kvs2, σ' = [some v1, some (.ref q), o2, o3, some (.ref q2), o5, o6] ∧ Own G' H' q (.dK kvs) ∧ Own G' H' q2 (.dK kvs2) ∧ NumK (N.firings.map (·.name)) i kvs2) (fun G4 H4 s4 => ⟨_, _, _, _, [], rfl, w6.step0 s4, w62.step0 s4, .nil⟩) ?_ ?_
      · rintro G1 eg i σ' G7' H7' G7 H7 x hi e7 s7 ⟨o2, o3, o5, o6, kvs2, rfl, own1, own2, nk2⟩ s8 ⟨d, y, t, hd, rfl, ht, ry⟩
        rw [List.getElem?_map] at hd
        obtain ⟨f, hf, rfl⟩ := Option.map_eq_some_iff.mp hd
        have hm := List.mem_of_getElem? hf
        have hns : (N.firings.map (·.name))[i]? = some f.name := by
          rw [List.getElem?_map, hf]
          rfl
        have w71 := own1.step0 s8
        have w72 := own2.step0 s8
        refine wg (eg_tup2 rfl ht (eg_name (i := 2) sc_net_wrong.nd) (eg_name (i := 5) sc_net_wrong.nd)) s7.i fun H9 s9 => ?_
        have w91 := w71.step0 s9
        have w92 := w72.step0 s9
        refine ws_skip (G := upd G7 q2 (.dK kvs2)) (et_not (t := true) (et_val (ee_cal (ok_is_firing (f := f) (kvs := kvs2) (ns := N.names) E (W.fnm f hm) (nk2.fresh W.fnd hns) (W.lb f hm) (fun x hx => by
            obtain ⟨p, hp, rfl⟩ := List.mem_map.mp hx
            exact W.nm p hp) (W.tk f hm) (W.gv f hm)) hr (ea_cons (ee_var (i := 5) rfl (Rp.mono w92.exG _ _ ry)) (ea1 (ee_var (i := 4) (R := DK kvs2) rfl ⟨q2, rfl, upd_same⟩)))))) (w92.exU s9.i) fun H10 s10 => ?_
        have s10' := Stp.weak w92.exG s10
        have hkl : kvs2.length ≤ 60 := Nat.le_trans nk2.len (Nat.le_trans (Nat.le_of_lt (by simpa using hi)) W.flen)
        refine ws_dputK (y := .inr f.name) (R := RD (.int (i : Nat))) hr (ee_var (i := 2) rfl (.int _)) (ee_var (i := 4) rfl rfl) (ed_ixT (i := 0) (d := .str f.name) (ee_var (i := 5) rfl ry) ed_int rfl) (fun v G' r => Rp.str_eq r) (w92.step0 s10') (by omega) s10'.i fun v G11 H11 s11 r11 w11 => ?_
        rw [Rp.int_eq r11]
        have st : Stp [] G H G11 H11 := ((s7.trans s9).trans s10').trans s11
        have st2 := st.mut (o := .dK (putK kvs2 (.inr f.name) (.int (i : Nat)))) w11.g (.inl hqH2)
        have w111 : Own G11 (upd H11 q2 (.dK (putK kvs2 (.inr f.name) (.int (i : Nat))))) q (.dK kvs) := ((w91.step0 s10').step0 s11).other hqq
        refine ws_set (i := 6) (G := upd G11 q (.dK kvs)) (R := RD .none) sc_net_wrong.nd (ee_cal (ok_part_wrong (f := f) (kvs := kvs) (ns := N.names) E nv (W.tk f hm) (W.gv f hm)) hr (ea_cons (ee_var (i := 5) rfl (Rp.mono (s11.g.trans w111.exG) _ _ ry)) (ea1 (ee_var (i := 1) (R := DK kvs) rfl ⟨q, rfl, upd_same⟩)))) (w111.exU st2.i) fun v G12 H12 s12 r12 => ?_
        have s12' := Stp.weak w111.exG s12
        rw [Rp.non_eq r12]
        refine ws_skip (et_notN (Ra := RD .none) (ee_var (i := 6) rfl .non) fun v G' r => by rw [Rp.non_eq r]; rfl) s12'.i fun H13 s13 => ?_
        have s13' := s12'.trans s13
        exact ws_nil ⟨G11, e7.trans s11.g, st2.trans s13', _, _, _, _, _, rfl, w111.step0 s13', (w11.upd).step0 s13', nk2.put W.fnd hns⟩
      · rintro σ' G7 H7 e7 s7 ⟨o2, o3, o5, o6, kvs2, rfl, own1, own2, nk2⟩
        have r7 := Rp.mono e7 _ _ r6
        refine ws_skip (et_or (t := false) (et_is (et_gt (ed_lenT (ed_ixT (i := 0) (d := placesD N) (ee_var (i := 0) rfl r7) ed_int rfl) E.b_len) (ed_gI E.i_MOST_PLACES)) (by have := W.len; simp; omega)) fun _ => et_is (et_gt (ed_lenT (ed_ixT (i := 1) (d := firingsD N) (ee_var (i := 0) rfl r7) ed_int rfl) E.b_len) (ed_gI E.i_MOST_FIRINGS)) (by have := W.flen; simp; omega)) s7.i fun H8 s8 => ?_
        exact ws_ret (R := RD .none) ed_non s8.i fun v G3 H3 s9 r9 => k v G3 H3 ((s7.trans s8).trans s9) r9
theorem ok_must_net {N : Net} (E : Env K mg) (W : Wf N) : C8.Cal P w K mg base 5 "must_net" (Pr (A1 (netD N)) (RD .none)) [] :=
  cl_must_net E fun cdv A outer s H vs Q E' hr G ex a k => by
    obtain ⟨v1, rfl, r1⟩ := ACons.one a
    refine ws_set (i := 1) (R := RD .none) sc_must_net.nd (ee_cal (ok_net_wrong E W) hr (ea1 (ee_var (i := 0) rfl r1))) ex fun v G1 H1 s1 r => ?_
    rw [Rp.non_eq r]
    refine ws_skip (et_notN (Ra := RD .none) (ee_var (i := 1) rfl .non) fun v G' r => by rw [Rp.non_eq r]; rfl) s1.i fun H2 s2 => ?_
    exact ws_nil (k _ G1 H2 (s1.trans s2) .non)
end TK

/-! part P9 -/
set_option Elab.async false
set_option linter.all false
set_option maxRecDepth 100000
set_option maxHeartbeats 4000000
/-! PG, part 9: comprehensions as new things. -/
namespace PG
open PySem PySem.Spec PyProof.Rows L2
/-- name = {..} on one line, the name a local -/
theorem ps_setDc {X : Cx} {i : Nat} {y : Str} {py : Pos} {kx vx tg iter : Expr} {ifs : List Expr} {scope : Scope} {own : List (Str × Nat)} {pos spos : Pos} {wi : TI} {g : TG} {tt : TT} {tk tv : TE} (hc : X.calm = true) (hN : X.N.Nodup) (hy : X.N[i]? = some y) (hyl : X.env.scope.names.lookup y = some .local)
    (hsw : swapsWith (.DictComp kx vx [⟨tg, iter, ifs, 0⟩] scope pos) (some (.Name y py)) spos.line X.env = pure true) (hi : PI X tg iter wi) (ok : BlkOk X.N X.env.scope scope own)
    (hg : ∀ (s : Shared) (H : Hp) (C : Addr) (cl : List (Str × Addr)) (fp : List Addr), PG (X.blk s H scope (compEnvC scope cl C X.env) fp) tg g) (ht : ∀ (s : Shared) (H : Hp) (C : Addr) (cl : List (Str × Addr)) (fp : List Addr), PTs (X.blk s H scope (compEnvC scope cl C X.env) fp) ifs tt)
    (hk : ∀ (s : Shared) (H : Hp) (C : Addr) (cl : List (Str × Addr)) (fp : List Addr), PE (X.blk s H scope (compEnvC scope cl C X.env) fp) kx tk)
    (he : ∀ (s : Shared) (H : Hp) (C : Addr) (cl : List (Str × Addr)) (fp : List Addr), PE (X.blk s H scope (compEnvC scope cl C X.env) fp) vx tv) (hs : ∀ x, foldedSetIterable iter X.env x = pure x := by intro _; rfl) :
    PS X (.Assign [.Name y py] (.DictComp kx vx [⟨tg, iter, ifs, 0⟩] scope pos) spos) (tAsg (tDc wi g tt tk tv (own.map (·.2))) (gName i)) := by
  refine ⟨fun pins s σ H D I h => ?_⟩
  rw [exec_Assign_Name_used _ _ _ _ hsw]
  refine wpAny_bind (wpAny_standAt (wpAny_bind ?_))
  show wpAny _ X.A (do let _ ← comprehension (.DictComp kx vx [⟨tg, iter, ifs, 0⟩] scope pos) scope X.env (firstIterPos [⟨tg, iter, ifs, 0⟩] pos) newDict false (eval iter X.env) (some (assign (.Name y py) X.env))) _ _ s
  have h : tDc wi g tt tk tv (own.map (·.2)) σ H (fun x H1 => gName i x σ H1 D.nx) := h
  refine wpAny_bind (thn (dc_core (Qf := fun _ s' => SP X pins D .next s') hc hN I hi ok hg ht hk he hs h fun L C s' m H' I' q hn f => ?_) fun _ s' hq => wpAny_pure (wpAny_pure hq))
  show wpAny _ _ (assign (.Name y py) X.env (.ref L)) _ _ _
  refine wpAny_assign_Name (store_ok2 (v := V.ref L) I' hN hy (.inl hyl) rfl (fun s2 I2 ⟨a, sb, ha⟩ => ?_) (.inr hyl))
  obtain ⟨f0, f1, f2, f3, f4, f5⟩ := f
  have haC : C ≠ a := by
    rcases ha with z | z
    · rw [z]; exact f1
    · exact fun e => f4 y a z e.symm
  refine ⟨m, hn.sameBut sb haC, fun h3 sb3 => ?_⟩
  exact ⟨_, H', I2.turned (t' := s2.toks) (fun b o hb e => (sb3.2 b hb).trans e) f0 f1 f3 f4 f5, q⟩
section
variable {X : Cx} {σ : L2.St} {G H : Hp} {elt kx vx tg iter : Expr} {ifs : List Expr} {scope : Scope} {own : List (Str × Nat)} {pos : Pos} {n : Nat} {Y : Nat → V → Hp → Prop}
abbrev gB (X : Cx) (scope : Scope) (tg : Expr) : TG := fun v σ H Q => ∀ s0 H0 C cl fp, WG (Blk X scope s0 H0 C cl fp) tg v σ H Q
abbrev tB (X : Cx) (scope : Scope) (ifs : List Expr) : TT := fun σ H Q => ∀ s0 H0 C cl fp, WTs (Blk X scope s0 H0 C cl fp) ifs σ H Q
abbrev eB (X : Cx) (scope : Scope) (e : Expr) : TE := fun σ H Q => ∀ s0 H0 C cl fp, WE (Blk X scope s0 H0 C cl fp) e σ H Q
theorem gB_ok (tg : Expr) (s : Shared) (H : Hp) (C : Addr) (cl : List (Str × Addr)) (fp : List Addr) : L2.PG (X.blk s H scope (compEnvC scope cl C X.env) fp) tg (gB X scope tg) := ⟨fun pins s1 σ H1 v u Q I r h => (pg_self tg).run pins s1 σ H1 v u Q I r (h s H C cl fp)⟩
theorem tB_ok (ifs : List Expr) (s : Shared) (H : Hp) (C : Addr) (cl : List (Str × Addr)) (fp : List Addr) : PTs (X.blk s H scope (compEnvC scope cl C X.env) fp) ifs (tB X scope ifs) := ⟨fun pins s1 σ H1 Q I h => (pts_self ifs).run pins s1 σ H1 Q I (h s H C cl fp)⟩
theorem eB_ok (e : Expr) (s : Shared) (H : Hp) (C : Addr) (cl : List (Str × Addr)) (fp : List Addr) : PE (X.blk s H scope (compEnvC scope cl C X.env) fp) e (eB X scope e) := ⟨fun pins s1 σ H1 Q I h => (pe_self e).run pins s1 σ H1 Q I (h s H C cl fp)⟩
/-- what a list comprehension's reading asks -/
theorem lc_t (hi : EI X tg iter σ G n Y) (out : Nat → Option (V → Hp → Prop)) (hm : ∀ i R, i < n → out i = some R → MonoR R)
    (turn : ∀ i x G', Ex G G' → i < n → Y i x G' → Turn1 X σ tg ifs elt scope (own.map (·.2)) x G' (out i)) (hn : n ≤ 100000) (Q : VK) (ex : Ex G H)
    (k : ∀ p vs G' H', Stp [] G H G' H' → H p = none → Own G' H' p (.lst vs) → Paired (fun v R => R v G') vs ((List.range n).filterMap out) → Q (.ref p) H') :
    tLc (WI X tg iter) (gB X scope tg) (tB X scope ifs) (eB X scope elt) (own.map (·.2)) σ H Q := by
  refine hi H _ ex fun J G1 H1 s1 it D hD => ?_
  refine ⟨fun i m H' => m = n - i ∧ i ≤ n ∧ ∃ G' vs, Stp [] G1 H1 G' H' ∧ Own G' H' D (.lst vs) ∧ Paired (fun v R => R v G') vs ((List.range i).filterMap out), ⟨n, rfl, Nat.zero_le _, G1, [], Stp.newO s1.i hD, Own.new s1.i hD, .nil⟩, ?_⟩
  rintro i m H' ⟨rfl, hin, G', vs, s2, w, pr⟩
  have eg : Ex G1 G' := s2.g
  by_cases hlt : i < n
  · refine .inr ⟨it.go i H' (eg.trans s2.i) hlt, fun H'' => ∃ G' vs, Stp [] G1 H1 G' H'' ∧ Own G' H'' D (.lst vs) ∧ Paired (fun v R => R v G') vs ((List.range (i + 1)).filterMap out), fun H'' q => ⟨n - (i + 1), by omega, rfl, hlt, q⟩, fun x H2 y => ?_⟩
    obtain ⟨G2, s3, yi⟩ := it.yld i G' H' x H2 eg s2.i hlt y
    have s23 := s2.trans s3
    have w2 := w.step0 s3
    obtain ⟨σ', hw, ht⟩ := turn i x G2 (s1.g.trans s23.g) hlt yi
    have pr2 : Paired (fun v R => R v G2) vs ((List.range i).filterMap out) := Paired.impR pr fun v R hR hv => by
      obtain ⟨j, hj, ej⟩ := List.mem_filterMap.mp hR
      have hj' : j < n := Nat.lt_trans (List.mem_range.mp hj) hlt
      exact (hm j R hj' ej).mono _ _ _ s3.g hv
    have vl : vs.length ≤ i := by
      rw [Paired.length pr]
      exact Nat.le_trans (List.length_filterMap_le _ _) (by simp)
    intro s0 H0 C cl fp
    refine (ht s0 H0 C cl fp).1 H2 _ s3.i fun H3 s4 => ⟨hw, ?_⟩
    have w3 := w2.step0 s4
    have s24 := s23.trans s4
    cases ho : out i with
    | none =>
      intro s0 H0 C cl fp
      have q := (ht s0 H0 C cl fp).2
      rw [ho] at q
      refine q H3 _ s4.i fun H4 s5 => iteF ⟨G2, vs, s24.trans s5, w3.step0 s5, ?_⟩
      rw [range_succ_fm, ho, List.append_nil]
      exact pr2
    | some R =>
      intro s0 H0 C cl fp
      have q := (ht s0 H0 C cl fp).2
      rw [ho] at q
      refine q.1 H3 _ s4.i fun H4 s5 => iteT ?_
      intro s0 H0 C cl fp
      have q2 := (ht s0 H0 C cl fp).2
      rw [ho] at q2
      refine q2.2 H4 _ s5.i fun v G5 H5 s6 r6 => ?_
      have s25 := s24.trans s5
      have s26 := s25.trans s6
      have w5 := (w3.step0 s5).step0 s6
      refine ⟨vs, w5.h, small' (by omega), G5, vs ++ [v], s26.mut w5.g (.inl hD), w5.upd, ?_⟩
      rw [range_succ_fm, ho]
      refine Paired.app (Paired.impR pr2 fun v' R' hR hv => ?_) (.cons r6 .nil)
      obtain ⟨j, hj, ej⟩ := List.mem_filterMap.mp hR
      have hj' : j < n := Nat.lt_trans (List.mem_range.mp hj) hlt
      exact (hm j R' hj' ej).mono _ _ _ s6.g hv
  · have hi' : i = n := by omega
    subst hi'
    exact .inl ⟨it.stop H' (eg.trans s2.i), k D vs G' H' (s1.trans s2) (s1.fresh hD) w pr⟩
/-- what a dict comprehension's reading asks: text or int keys, no two alike -/
def TurnD (X : Cx) (σ : L2.St) (tg kx vx : Expr) (scope : Scope) (vs : List Nat) (x : V) (G' : Hp) (key : Key) (R : V → Hp → Prop) : Prop :=
  ∃ σ' d, wipe σ' vs = wipe σ vs ∧ (∀ v G', Rp G' v d → v = kV key) ∧ ∀ (s : Shared) (H : Hp) (C : Addr) (cl : List (Str × Addr)) (fp : List Addr), EG (Blk X scope s H C cl fp) tg x (wipe σ vs) G' σ' ∧
    ED (Blk X scope s H C cl fp) kx σ' G' d ∧ EE (Blk X scope s H C cl fp) vx σ' G' R
theorem dc_t (hi : EI X tg iter σ G n Y) (key : Nat → Key) (val : Nat → V → Hp → Prop) (hm : ∀ i, i < n → MonoR (val i)) (inj : ∀ i j, i < n → j < n → key i = key j → i = j)
    (turn : ∀ i x G', Ex G G' → i < n → Y i x G' → TurnD X σ tg kx vx scope (own.map (·.2)) x G' (key i) (val i)) (hn : n ≤ 100000) (Q : VK) (ex : Ex G H)
    (k : ∀ p kvs G' H', Stp [] G H G' H' → H p = none → Own G' H' p (.dK kvs) → kvs.length ≤ n → (∀ j, j < n → ∃ v, valV kvs (key j) = some v ∧ val j v G') → Q (.ref p) H') :
    tDc (WI X tg iter) (gB X scope tg) (tB X scope []) (eB X scope kx) (eB X scope vx) (own.map (·.2)) σ H Q := by
  refine hi H _ ex fun J G1 H1 s1 it D hD => ?_
  refine ⟨fun i m H' => m = n - i ∧ i ≤ n ∧ ∃ G' kvs, Stp [] G1 H1 G' H' ∧ Own G' H' D (.dK kvs) ∧ kvs.length ≤ i ∧ ∀ j, j < i → ∃ v, valV kvs (key j) = some v ∧ val j v G', ⟨n, rfl, Nat.zero_le _, G1, [], Stp.newO s1.i hD, Own.new s1.i hD, Nat.le_refl _, fun j hj => absurd hj (Nat.not_lt_zero _)⟩, ?_⟩
  rintro i m H' ⟨rfl, hin, G', kvs, s2, w, hl, pr⟩
  have eg : Ex G1 G' := s2.g
  by_cases hlt : i < n
  · refine .inr ⟨it.go i H' (eg.trans s2.i) hlt, fun H'' => ∃ G' kvs, Stp [] G1 H1 G' H'' ∧ Own G' H'' D (.dK kvs) ∧ kvs.length ≤ i + 1 ∧ ∀ j, j < i + 1 → ∃ v, valV kvs (key j) = some v ∧ val j v G', fun H'' q => ⟨n - (i + 1), by omega, rfl, hlt, q⟩, fun x H2 y => ?_⟩
    obtain ⟨G2, s3, yi⟩ := it.yld i G' H' x H2 eg s2.i hlt y
    have s23 := s2.trans s3
    have w2 := w.step0 s3
    obtain ⟨σ', d, hw, hd, ht⟩ := turn i x G2 (s1.g.trans s23.g) hlt yi
    intro s0 H0 C cl fp
    refine (ht s0 H0 C cl fp).1 H2 _ s3.i fun H3 s4 => ⟨hw, ?_⟩
    intro s0 H0 C cl fp
    refine ets_nil H3 _ s4.i fun H4 s5 => iteT ?_
    intro s0 H0 C cl fp
    refine (ht s0 H0 C cl fp).2.1 H4 _ s5.i fun u G5 H5 s6 r6 => ?_
    intro s0 H0 C cl fp
    have hmi := hm i hlt
    refine ((ht s0 H0 C cl fp).2.2.mono s6.g) H5 _ s6.i fun v G6 H6 s7 r7 => ?_
    have st := (((s23.trans s4).trans s5).trans s6).trans s7
    have w6 := (((w2.step0 s4).step0 s5).step0 s6).step0 s7
    refine ⟨kvs, key i, hd _ _ r6, w6.h, small' (by omega), G6, _, st.mut w6.g (.inl hD), w6.upd, Nat.le_trans (length_putK _ _ _) (Nat.succ_le_succ hl), fun j hj => ?_⟩
    rw [valV_put]
    by_cases e : j = i
    · subst e
      exact ⟨v, if_pos rfl, r7⟩
    · rw [if_neg fun z => e (inj _ _ (by omega) hlt z)]
      obtain ⟨u', h1, h2⟩ := pr j (by omega)
      exact ⟨u', h1, (hm j (by omega)).mono _ _ _ (((s3.g.trans (Ex.refl _)).trans s6.g).trans s7.g) h2⟩
  · have hi' : i = n := by omega
    subst hi'
    exact .inl ⟨it.stop H' (eg.trans s2.i), k D kvs G' H' (s1.trans s2) (s1.fresh hD) w hl pr⟩
def LcO (n : Nat) (out : Nat → Option (V → Hp → Prop)) : HO → Hp → Prop := fun o G' => ∃ vs, o = .lst vs ∧ Paired (fun v R => R v G') vs ((List.range n).filterMap out)
theorem en_lc (hc : X.calm = true) (hN : X.N.Nodup) (hi : EI X tg iter σ G n Y) (ok : BlkOk X.N X.env.scope scope own) (out : Nat → Option (V → Hp → Prop)) (hm : ∀ i R, i < n → out i = some R → MonoR R)
    (turn : ∀ i x G', Ex G G' → i < n → Y i x G' → Turn1 X σ tg ifs elt scope (own.map (·.2)) x G' (out i)) (hn : n ≤ 100000) (hs : ∀ x, foldedSetIterable iter X.env x = pure x := by intro _; rfl) :
    EN X (.ListComp elt [⟨tg, iter, ifs, 0⟩] scope pos) σ G (LcO n out) := fun H Q ex k =>
  ⟨_, pe_lc hc hN (pi_self tg iter) ok (gB_ok tg) (tB_ok ifs) (eB_ok elt) hs, lc_t hi out hm turn hn Q ex fun p vs G' H' s hp w r => k p _ G' H' s hp w ⟨vs, rfl, r⟩⟩
def DcO (n : Nat) (key : Nat → Key) (val : Nat → V → Hp → Prop) : HO → Hp → Prop := fun o G' => ∃ kvs, o = .dK kvs ∧ kvs.length ≤ n ∧ ∀ j, j < n → ∃ v, valV kvs (key j) = some v ∧ val j v G'
theorem en_dc (hc : X.calm = true) (hN : X.N.Nodup) (hi : EI X tg iter σ G n Y) (ok : BlkOk X.N X.env.scope scope own) (key : Nat → Key) (val : Nat → V → Hp → Prop) (hm : ∀ i, i < n → MonoR (val i)) (inj : ∀ i j, i < n → j < n → key i = key j → i = j)
    (turn : ∀ i x G', Ex G G' → i < n → Y i x G' → TurnD X σ tg kx vx scope (own.map (·.2)) x G' (key i) (val i)) (hn : n ≤ 100000) (hs : ∀ x, foldedSetIterable iter X.env x = pure x := by intro _; rfl) :
    EN X (.DictComp kx vx [⟨tg, iter, [], 0⟩] scope pos) σ G (DcO n key val) := fun H Q ex k =>
  ⟨_, pe_dc hc hN (pi_self tg iter) ok (gB_ok tg) (tB_ok []) (eB_ok kx) (eB_ok vx) hs, dc_t hi key val hm inj turn hn Q ex fun p kvs G' H' s hp w hl r => k p _ G' H' s hp w ⟨kvs, rfl, hl, r⟩⟩
/-! name = a comprehension on one line -/
variable {D : Ends} {rest : List Stmt}
theorem ws_setLc {i : Nat} {y : Str} {py spos : Pos} (hc : X.calm = true) (hN : X.N.Nodup) (hi : EI X tg iter σ G n Y) (ok : BlkOk X.N X.env.scope scope own) (out : Nat → Option (V → Hp → Prop)) (hm : ∀ i R, i < n → out i = some R → MonoR R)
    (turn : ∀ i x G', Ex G G' → i < n → Y i x G' → Turn1 X σ tg ifs elt scope (own.map (·.2)) x G' (out i)) (hn : n ≤ 100000) (ex : Ex G H)
    (k : ∀ p vs G' H', Stp [] G H G' H' → H p = none → Own G' H' p (.lst vs) → Paired (fun v R => R v G') vs ((List.range n).filterMap out) → WS X rest D (σ.set i (some (.ref p))) H')
    (hy : X.N[i]? = some y := by rfl) (hyl : X.env.scope.names.lookup y = some .local := by rfl) (hsw : swapsWith (.ListComp elt [⟨tg, iter, ifs, 0⟩] scope pos) (some (.Name y py)) spos.line X.env = pure true := by rfl) (hs : ∀ x, foldedSetIterable iter X.env x = pure x := by intro _; rfl) :
    WS X (.Assign [.Name y py] (.ListComp elt [⟨tg, iter, ifs, 0⟩] scope pos) spos :: rest) D σ H :=
  ws_cons ⟨_, ps_setLc hc hN hy hyl hsw (pi_self tg iter) ok (gB_ok tg) (tB_ok ifs) (eB_ok elt) hs, lc_t (Q := fun x H1 => gName i x σ H1 (WS X rest D)) hi out hm turn hn ex k⟩
theorem ws_setDc {i : Nat} {y : Str} {py spos : Pos} (hc : X.calm = true) (hN : X.N.Nodup) (hi : EI X tg iter σ G n Y) (ok : BlkOk X.N X.env.scope scope own) (key : Nat → Key) (val : Nat → V → Hp → Prop) (hm : ∀ i, i < n → MonoR (val i)) (inj : ∀ i j, i < n → j < n → key i = key j → i = j)
    (turn : ∀ i x G', Ex G G' → i < n → Y i x G' → TurnD X σ tg kx vx scope (own.map (·.2)) x G' (key i) (val i)) (hn : n ≤ 100000) (ex : Ex G H)
    (k : ∀ p kvs G' H', Stp [] G H G' H' → H p = none → Own G' H' p (.dK kvs) → kvs.length ≤ n → (∀ j, j < n → ∃ v, valV kvs (key j) = some v ∧ val j v G') → WS X rest D (σ.set i (some (.ref p))) H')
    (hy : X.N[i]? = some y := by rfl) (hyl : X.env.scope.names.lookup y = some .local := by rfl) (hsw : swapsWith (.DictComp kx vx [⟨tg, iter, [], 0⟩] scope pos) (some (.Name y py)) spos.line X.env = pure true := by rfl) (hs : ∀ x, foldedSetIterable iter X.env x = pure x := by intro _; rfl) :
    WS X (.Assign [.Name y py] (.DictComp kx vx [⟨tg, iter, [], 0⟩] scope pos) spos :: rest) D σ H :=
  ws_cons ⟨_, ps_setDc hc hN hy hyl hsw (pi_self tg iter) ok (gB_ok tg) (tB_ok []) (eB_ok kx) (eB_ok vx) hs, dc_t (Q := fun x H1 => gName i x σ H1 (WS X rest D)) hi key val hm inj turn hn ex k⟩
/-- .. of data -/
theorem lcD_of {n : Nat} {out : Nat → Option PyData} {vs : List V} {G' : Hp} (r : Paired (fun v R => R v G') vs ((List.range n).filterMap fun i => (out i).map RD)) : Paired (Rp G') vs ((List.range n).filterMap out) := by
  rw [← List.map_filterMap] at r
  exact Paired.imp (Paired.map_r (f := RD) (F := fun (v : V) (R : V → Hp → Prop) => R v G') r) fun x y r => r
theorem monoRD {out : Nat → Option PyData} {n : Nat} : ∀ i R, i < n → (out i).map RD = some R → MonoR R := fun i R _ e => by
  obtain ⟨d, _, rfl⟩ := Option.map_eq_some_iff.mp e
  exact inferInstance
end
end PG

/-! part P10 -/
set_option Elab.async false
set_option linter.all false
set_option maxRecDepth 100000
set_option maxHeartbeats 4000000
/-! PG, part 10: promises of any form; making. -/
namespace PG
open PySem PySem.Spec PyProof.Rows L2
section
variable {P : Program} {w : World} {K : PySem.W.Frag} {mg : Str → Option Value} {base : Heap}
abbrev BodyG (P : Program) (w : World) (K : PySem.W.Frag) (mg : Str → Option Value) (base : Heap) (N : List Str) (qual : Str) (st : Stmt) (f : Addr) (k : Nat) (sp : Sp) : Prop :=
  ∀ (cdv : Value) (Ar : Around) (outer : List Env) (s : Shared) (H : Hp) (vs : List V) (Q : VK) (E : XK), Room k (Ar.deeper (envOfC qual (defScope st) s.heap.objs.size f cdv)) → sp vs H Q E →
      WS (XB P w K mg base N qual (defScope st) f cdv Ar outer s H E) (defBody st) { nx := fun _ H' => Q .non H', rt := Q } (start N vs) H
theorem fn_g {k : Nat} {nm qual : Str} {st : Stmt} {dvs : List V} {kws : List (Str × V)} {f : Addr} {fd : FuncData} {N ps : List Str} {sp : Sp} (F : FunD K nm qual (defArgs st) (defBody st) (defScope st) dvs kws f fd) (S : FnScope N ps (defScope st))
    (len : ∀ vs H Q E, sp vs H Q E → vs.length = ps.length) (body : BodyG P w K mg base N qual st f k sp) : FnOk P w K mg base CX0 (k + 1) f fd ps sp :=
  F.ok S len (fun cdv A outer s H vs Q E hr h => ⟨_, PSs.nox (pss_self _), body cdv A outer s H vs Q E hr h⟩)
theorem cal_g {k : Nat} {x nm : Str} {st : Stmt} {dvs : List V} {ds : List Value} {kws : List (Str × V)} {f : Addr} {fd : FuncData} {N ps : List Str} {sp : Sp} (F : FunD K nm nm (defArgs st) (defBody st) (defScope st) dvs kws f fd) (hm : mg x = some (.ref f)) {evs : List V} (b : Binds K fd ps ds) (d : Vals evs ds) (S : FnScope N ps (defScope st))
    (len : ∀ vs H Q E, sp vs H Q E → vs.length = ps.length) (body : BodyG P w K mg base N nm st f k sp) : C8.Cal P w K mg base (k + 1) x sp evs :=
  ⟨f, fd, ps, ds, fn_g F S len body, hm, F.kp, b, d⟩
theorem met_g {k : Nat} {m qual : Str} {C : Addr} {st : Stmt} {dvs : List V} {ds : List Value} {kws : List (Str × V)} {f : Addr} {fd : FuncData} {N ps : List Str} {sp : Sp} (F : FunD K m qual (defArgs st) (defBody st) (defScope st) dvs kws f fd) (c : Cls K C) (hm : Meth K C m f) {evs : List V} (b : Binds K fd ps ds) (d : Vals evs ds) (S : FnScope N ps (defScope st))
    (len : ∀ vs H Q E, sp vs H Q E → vs.length = ps.length) (body : BodyG P w K mg base N qual st f k sp) : C8.Met P w K mg base (k + 1) C m sp evs :=
  ⟨f, fd, ps, ds, c, hm, fn_g F S len body, b, d⟩
theorem mak_g {k : Nat} {x qual : Str} {C : Addr} {st : Stmt} {dvs : List V} {ds : List Value} {kws : List (Str × V)} {f : Addr} {fd : FuncData} {N ps : List Str} {sp : Sp} (F : FunD K "__init__" qual (defArgs st) (defBody st) (defScope st) dvs kws f fd) (M : Mk K C f) (hm : mg x = some (.ref C)) {evs : List V} (b : Binds K fd ps ds) (d : Vals evs ds) (S : FnScope N ps (defScope st))
    (len : ∀ vs H Q E, sp vs H Q E → vs.length = ps.length) (body : BodyG P w K mg base N qual st f k sp) : C8.Mak P w K mg base (k + 1) x C sp evs :=
  ⟨f, fd, ps, ds, M, fn_g F S len body, hm, b, d⟩
/-- the promise of an __init__: of A's arguments, the fields Of -/
def Ini (C : Addr) (A : List V → Hp → Prop) (Of : List (Str × V) → Hp → Prop) : Sp := fun vs H Q _ => ∃ x dx rest G, vs = .ref x :: rest ∧ Ex G H ∧ Own G H x (.ins C dx []) ∧ A rest G ∧
  ∀ G' H' fs, Stp [x] G H G' H' → Own G' H' x (.ins C dx fs) → Of fs G' → Q .non H'
theorem Ini.len {C : Addr} {A : List V → Hp → Prop} {Of : List (Str × V) → Hp → Prop} {n : Nat} [l : LenA A n] : ∀ vs H Q E, Ini C A Of vs H Q E → vs.length = n + 1 := fun vs H Q E ⟨x, dx, rest, G, e, _, _, a, _⟩ => by
  rw [e, List.length_cons, l.len _ _ a]
end
section
variable {X : Cx} {σ σ' : L2.St} {G G0 G1 H H0 H1 : Hp} {e a b c o l tg iter : Expr} {es : List Expr} {R : V → Hp → Prop} {pos pp apos : Pos} {p : Addr} {D : Ends} {rest body : List Stmt} {S : List Addr}
theorem Own.frz {q : Addr} {o o' : HO} (w : Own G H p o) (hne : p ≠ q) : Own (L2.upd G q o') H p o := ⟨w.h, by rw [upd_ne hne]; exact w.g⟩
theorem Own.ne2 {q : Addr} {o : HO} (w : Own G H p o) (h : H q = none) : p ≠ q := ne_of_none w.h h
/-- what is made -/
def InsO (C : Addr) (Of : List (Str × V) → Hp → Prop) : HO → Hp → Prop := fun o G' => ∃ dx fs, o = .ins C dx fs ∧ Of fs G'
theorem en_make {k j : Nat} {x : Str} {C : Addr} {A : List V → Hp → Prop} {Of : List (Str × V) → Hp → Prop} (c : C8.Mak X.prog X.w X.K X.mg X.base k x C (Ini C A Of) []) (hr : Room j X.A) (ha : EA X (e :: es) σ G A) [MonoA A] (hk : k + 1 ≤ j := by decide) (hg : Gl X x := by rfl)
    (hdb : (x == ("__debug__" : Str)) = false := by decide) (he : starEach (e :: es) X.env = (false, eval e X.env) :: starEach es X.env := by rfl) (hpl : (backTo pos (starEach es X.env)).any (·.1) = false := by rfl) : EN X (.Call (.Name x pp) (e :: es) [] pos) σ G (InsO C Of) := fun H Q ex q =>
  ⟨_, C8.pe_mk c hr hk hg (pa_self _) hdb he hpl, ha H _ ex fun vs G1 H1 s1 a x dx hx hdx hne => by
    have hxd : upd H1 dx (.own x) x = none := by rw [upd_ne (Ne.symm hne)]; exact hx
    have st : Stp [] G H G1 (upd (upd H1 dx (.own x)) x (.ins C dx [])) := by
      have s2 : Stp [] G1 H1 G1 (upd H1 dx (.own x)) := Stp.newO s1.i hdx
      exact (s1.trans s2).trans (Stp.newO s2.i hxd)
    have hx0 : H x = none := s1.fresh hx
    refine ⟨x, dx, vs, G1, by rw [List.append_nil], st.i, ⟨upd_same, s1.i.none hx⟩, a, fun G' H' fs s3 w r => ⟨rfl, ?_⟩⟩
    exact q x _ G' H' (st.loc hx0 s3) hx0 w ⟨dx, fs, rfl, r⟩⟩
end
end PG

/-! part Sg -/
set_option Elab.async false
set_option linter.all false
set_option maxRecDepth 100000
set_option maxHeartbeats 4000000
/-! TK: promises of any form by the body; written by gen_sc.py. -/
namespace TK
open PySem PySem.Spec PyProof.Rows L2 PG
variable {P : Program} {w : World} {K : PySem.W.Frag} {mg : Str → Option Value} {base : Heap}
theorem ig_Look_init (E : Env K mg) {k : Nat} {sp : Sp} (len : ∀ vs H Q E, sp vs H Q E → vs.length = 2) (body : BodyG P w K mg base N_Look_init "Look.__init__" s_Look_init (He.fAd K ("Look", some "__init__")) k sp) : C8.Mak P w K mg base (k + 1) "Look" (He.ga K "Look") sp [] :=
  let ⟨_, F⟩ := E.f_Look_init
  mak_g F E.k_Look E.g_Look (bd_Look_init F) .nil sc_Look_init len body
theorem ig_Search_init (E : Env K mg) {k : Nat} {sp : Sp} (len : ∀ vs H Q E, sp vs H Q E → vs.length = 3) (body : BodyG P w K mg base N_Search_init "Search.__init__" s_Search_init (He.fAd K ("Search", some "__init__")) k sp) : C8.Mak P w K mg base (k + 1) "Search" (He.ga K "Search") sp [] :=
  let ⟨_, F⟩ := E.f_Search_init
  mak_g F E.k_Search E.g_Search (bd_Search_init F) .nil sc_Search_init len body
theorem ig_Spot_init (E : Env K mg) {k : Nat} {sp : Sp} (len : ∀ vs H Q E, sp vs H Q E → vs.length = 4) (body : BodyG P w K mg base N_Spot_init "Spot.__init__" s_Spot_init (He.fAd K ("Spot", some "__init__")) k sp) : C8.Mak P w K mg base (k + 1) "Spot" (He.ga K "Spot") sp [] :=
  let ⟨_, F⟩ := E.f_Spot_init
  mak_g F E.k_Spot E.g_Spot (bd_Spot_init F) .nil sc_Spot_init len body
theorem ig_Growth_init (E : Env K mg) {k : Nat} {sp : Sp} (len : ∀ vs H Q E, sp vs H Q E → vs.length = 3) (body : BodyG P w K mg base N_Growth_init "Growth.__init__" s_Growth_init (He.fAd K ("Growth", some "__init__")) k sp) : C8.Mak P w K mg base (k + 1) "Growth" (He.ga K "Growth") sp [] :=
  let ⟨_, F⟩ := E.f_Growth_init
  mak_g F E.k_Growth E.g_Growth (bd_Growth_init F) .nil sc_Growth_init len body
theorem mg_Growth_grow (E : Env K mg) {k : Nat} {sp : Sp} (len : ∀ vs H Q E, sp vs H Q E → vs.length = 2) (body : BodyG P w K mg base N_Growth_grow "Growth.grow" s_Growth_grow (He.fAd K ("Growth", some "grow")) k sp) : C8.Met P w K mg base (k + 1) (He.ga K "Growth") "grow" sp [] :=
  let ⟨_, F⟩ := E.f_Growth_grow
  met_g F E.c_Growth E.m_Growth_grow (bd_Growth_grow F) .nil sc_Growth_grow len body
theorem mg_Growth_put (E : Env K mg) {k : Nat} {sp : Sp} (len : ∀ vs H Q E, sp vs H Q E → vs.length = 3) (body : BodyG P w K mg base N_Growth_put "Growth.put" s_Growth_put (He.fAd K ("Growth", some "put")) k sp) : C8.Met P w K mg base (k + 1) (He.ga K "Growth") "put" sp [] :=
  let ⟨_, F⟩ := E.f_Growth_put
  met_g F E.c_Growth E.m_Growth_put (bd_Growth_put F) .nil sc_Growth_put len body
theorem ig_Levels_init (E : Env K mg) {k : Nat} {sp : Sp} (len : ∀ vs H Q E, sp vs H Q E → vs.length = 4) (body : BodyG P w K mg base N_Levels_init "Levels.__init__" s_Levels_init (He.fAd K ("Levels", some "__init__")) k sp) : C8.Mak P w K mg base (k + 1) "Levels" (He.ga K "Levels") sp [] :=
  let ⟨_, F⟩ := E.f_Levels_init
  mak_g F E.k_Levels E.g_Levels (bd_Levels_init F) .nil sc_Levels_init len body
theorem mg_Levels_go_on (E : Env K mg) {k : Nat} {sp : Sp} (len : ∀ vs H Q E, sp vs H Q E → vs.length = 1) (body : BodyG P w K mg base N_Levels_go_on "Levels.go_on" s_Levels_go_on (He.fAd K ("Levels", some "go_on")) k sp) : C8.Met P w K mg base (k + 1) (He.ga K "Levels") "go_on" sp [] :=
  let ⟨_, F⟩ := E.f_Levels_go_on
  met_g F E.c_Levels E.m_Levels_go_on (bd_Levels_go_on F) .nil sc_Levels_go_on len body
theorem cg_L_draw (E : Env K mg) {k : Nat} {sp : Sp} (len : ∀ vs H Q E, sp vs H Q E → vs.length = 2) (body : BodyG P w K mg base N_L_draw "_law_draw" s_L_draw (He.fAd K ("_law_draw", none)) k sp) : C8.Cal P w K mg base (k + 1) "_law_draw" sp [] :=
  let ⟨_, F⟩ := E.f_L_draw
  cal_g F E.g_L_draw (bd_L_draw F) .nil sc_L_draw len body
theorem cg_L_parts (E : Env K mg) {k : Nat} {sp : Sp} (len : ∀ vs H Q E, sp vs H Q E → vs.length = 3) (body : BodyG P w K mg base N_L_parts "_law_parts" s_L_parts (He.fAd K ("_law_parts", none)) k sp) : C8.Cal P w K mg base (k + 1) "_law_parts" sp [] :=
  let ⟨_, F⟩ := E.f_L_parts
  cal_g F E.g_L_parts (bd_L_parts F) .nil sc_L_parts len body
theorem cg_L_even (E : Env K mg) {k : Nat} {sp : Sp} (len : ∀ vs H Q E, sp vs H Q E → vs.length = 2) (body : BodyG P w K mg base N_L_even "_law_even" s_L_even (He.fAd K ("_law_even", none)) k sp) : C8.Cal P w K mg base (k + 1) "_law_even" sp [] :=
  let ⟨_, F⟩ := E.f_L_even
  cal_g F E.g_L_even (bd_L_even F) .nil sc_L_even len body
theorem cg_L_net (E : Env K mg) {k : Nat} {sp : Sp} (len : ∀ vs H Q E, sp vs H Q E → vs.length = 2) (body : BodyG P w K mg base N_L_net "_law_net" s_L_net (He.fAd K ("_law_net", none)) k sp) : C8.Cal P w K mg base (k + 1) "_law_net" sp [] :=
  let ⟨_, F⟩ := E.f_L_net
  cal_g F E.g_L_net (bd_L_net F) .nil sc_L_net len body
theorem cg_L_goal (E : Env K mg) {k : Nat} {sp : Sp} (len : ∀ vs H Q E, sp vs H Q E → vs.length = 2) (body : BodyG P w K mg base N_L_goal "_law_goal" s_L_goal (He.fAd K ("_law_goal", none)) k sp) : C8.Cal P w K mg base (k + 1) "_law_goal" sp [] :=
  let ⟨_, F⟩ := E.f_L_goal
  cal_g F E.g_L_goal (bd_L_goal F) .nil sc_L_goal len body
theorem cg_L_free_right (E : Env K mg) {k : Nat} {sp : Sp} (len : ∀ vs H Q E, sp vs H Q E → vs.length = 5) (body : BodyG P w K mg base N_L_free_right "_law_free_right" s_L_free_right (He.fAd K ("_law_free_right", none)) k sp) : C8.Cal P w K mg base (k + 1) "_law_free_right" sp [] :=
  let ⟨_, F⟩ := E.f_L_free_right
  cal_g F E.g_L_free_right (bd_L_free_right F) .nil sc_L_free_right len body
theorem cg_L_right (E : Env K mg) {k : Nat} {sp : Sp} (len : ∀ vs H Q E, sp vs H Q E → vs.length = 2) (body : BodyG P w K mg base N_L_right "_law_right" s_L_right (He.fAd K ("_law_right", none)) k sp) : C8.Cal P w K mg base (k + 1) "_law_right" sp [] :=
  let ⟨_, F⟩ := E.f_L_right
  cal_g F E.g_L_right (bd_L_right F) .nil sc_L_right len body
end TK

/-! part F6 -/
set_option Elab.async false
set_option linter.all false
set_option maxRecDepth 100000
set_option maxHeartbeats 4000000
namespace TK
open PySem PySem.Spec PyProof.Rows L2 PG
variable {P : Program} {w : World} {K : PySem.W.Frag} {mg : Str → Option Value} {base : Heap}
def rankD (ns : List Str) (ps : List (Str × Int)) : PyData := .list (ps.map fun p => .tuple [.int (ix ns p.1), .int p.2])
def Net.begin (N : Net) : List Int := N.places.map (·.2)
def PartK (N : Net) (sel : Fir → List (Str × Int)) : V → Hp → Prop := fun v G => ∃ q kvs, v = .ref q ∧ G q = some (.dK kvs) ∧ ∀ f ∈ N.firings, ∃ u, valV kvs (.inr f.name) = some u ∧ Rp G u (rankD N.names (sel f))
instance (N : Net) (sel : Fir → List (Str × Int)) : MonoR (PartK N sel) := ⟨fun _ _ _ e ⟨q, kvs, h1, h2, h3⟩ => ⟨q, kvs, h1, e _ _ h2, fun f hf => let ⟨u, a, b⟩ := h3 f hf; ⟨u, a, Rp.mono e _ _ b⟩⟩⟩
def LookF (N : Net) (fs : List (Str × V)) (G : Hp) : Prop := ∃ v1 v2 v3 v4 v5 v6, fs = [(("places" : Str), v1), (("begin" : Str), v2), (("names" : Str), v3), (("labels" : Str), v4), (("takes" : Str), v5), (("gives" : Str), v6)] ∧ Rp G v1 (.list (N.names.map .str)) ∧ Rp G v2 (tI N.begin) ∧ Rp G v3 (.list (N.firings.map fun f => .str f.name)) ∧ PartK N (·.takes) v5 G ∧ PartK N (·.gives) v6 G
theorem LookF.mono {N : Net} {fs : List (Str × V)} {G G' : Hp} (e : Ex G G') (h : LookF N fs G) : LookF N fs G' := by
  obtain ⟨v1, v2, v3, v4, v5, v6, h0, h1, h2, h3, h4, h5⟩ := h
  exact ⟨v1, v2, v3, v4, v5, v6, h0, Rp.mono e _ _ h1, Rp.mono e _ _ h2, Rp.mono e _ _ h3, MonoR.mono _ _ _ e h4, MonoR.mono _ _ _ e h5⟩
/-- a Look at the net -/
def LookR (K : PySem.W.Frag) (N : Net) : V → Hp → Prop := fun v G => ∃ q dx fs, v = .ref q ∧ G q = some (.ins (He.ga K "Look") dx fs) ∧ LookF N fs G
instance (N : Net) : MonoR (LookR K N) := ⟨fun _ _ _ e ⟨q, dx, fs, h1, h2, h3⟩ => ⟨q, dx, fs, h1, e _ _ h2, h3.mono e⟩⟩
def RAny : V → Hp → Prop := fun _ _ => True
instance : MonoR RAny := ⟨fun _ _ _ _ h => h⟩
theorem EE.any {X : Cx} {e : Expr} {σ : L2.St} {G : Hp} {R : V → Hp → Prop} (h : EE X e σ G R) : EE X e σ G RAny := h.imp fun _ _ _ _ => trivial
theorem names_inj {N : Net} (W : Wf N) {i j : Nat} {f g : Fir} (hi : N.firings[i]? = some f) (hj : N.firings[j]? = some g) (e : f.name = g.name) : i = j := by
  have h1 : (N.firings.map (·.name))[i]? = some f.name := by rw [List.getElem?_map, hi]; rfl
  have h2 : (N.firings.map (·.name))[j]? = some f.name := by rw [List.getElem?_map, hj, e]; rfl
  rw [← ix_get W.fnd h1, ix_get W.fnd h2]
abbrev XL (P : Program) (w : World) (K : PySem.W.Frag) (mg : Str → Option Value) (base : Heap) (cdv : Value) (Ar : Around) (outer : List PySem.Env) (s : Shared) (H : Hp) (E' : XK) : Cx := XB P w K mg base N_Look_init "Look.__init__" (defScope s_Look_init) (He.fAd K ("Look", some "__init__")) cdv Ar outer s H E'
/-- the dict of takes, gives -/
theorem en_parts {N : Net} (W : Wf N) {cdv : Value} {Ar : Around} {outer : List PySem.Env} {s : Shared} {H : Hp} {E' : XK} {σ : L2.St} {G : Hp} {sel : Fir → List (Str × Int)} {k : Nat} (hr : Room k (XL P w K mg base cdv Ar outer s H E').A) {qr : Addr} {kvr : List (Key × V)}
    (hqr : G qr = some (.dK kvr)) (hkr : ∀ x ∈ N.names, valV kvr (.inr x) = some (.int (ix N.names x))) (hsel : ∀ f ∈ N.firings, OkP N.names (sel f)) {v3 : V} (r3 : Rp G v3 (firingsD N)) {x0 x1 x2 x4 x5 x6 x8 x9 x10 : Option V} (hσ : σ = [x0, x1, x2, some v3, x4, x5, x6, some (.ref qr), x8, x9, x10])
    {kx vx tg iter : Expr} {scope : Scope} {pos : Pos} {own : List (Str × Nat)} 
    (hi : EI (XL P w K mg base cdv Ar outer s H E') tg iter σ G (N.firings.map firD).length (YD (N.firings.map firD))) (ok : BlkOk N_Look_init (defScope s_Look_init) scope own)
    (turn : ∀ f x G', Ex G G' → f ∈ N.firings → Rp G' x (firD f) → TurnD (XL P w K mg base cdv Ar outer s H E') σ tg kx vx scope (own.map (·.2)) x G' (.inr f.name) (RD (rankD N.names (sel f)))) (hs : ∀ x, foldedSetIterable iter (XL P w K mg base cdv Ar outer s H E').env x = pure x) :
    EE (XL P w K mg base cdv Ar outer s H E') (.DictComp kx vx [⟨tg, iter, [], 0⟩] scope pos) σ G (PartK N sel) := by
  have key : ∀ i, i < (N.firings.map firD).length → ∃ f, N.firings[i]? = some f := fun i h => by
    rw [List.length_map] at h
    exact ⟨_, List.getElem?_eq_getElem h⟩
  refine (en_dc rfl sc_Look_init.nd hi ok (fun i => .inr ((N.firings[i]?.map (·.name)).getD "")) (fun i => RD (((N.firings[i]?).map fun f => rankD N.names (sel f)).getD .none)) (fun i _ => inferInstance) (fun i j hi hj e => ?_) (fun i x G' eg h y => ?_) (by have := W.flen; simp; omega) hs).ee fun p o G' eg ⟨kvs, e, hl, r⟩ hp => ?_
  · obtain ⟨f, hf⟩ := key i hi
    obtain ⟨g, hg⟩ := key j hj
    rw [hf, hg] at e
    exact names_inj W hf hg (Sum.inr.inj e)
  · obtain ⟨f, hf⟩ := key i h
    obtain ⟨d, hd, rd⟩ := y
    rw [List.getElem?_map, hf] at hd
    obtain rfl := Option.some.inj hd
    rw [hf]
    exact turn f x G' eg (List.mem_of_getElem? hf) rd
  · subst e
    refine ⟨p, kvs, rfl, upd_same, fun f hf => ?_⟩
    obtain ⟨i, hi, ei⟩ := List.mem_iff_getElem.mp hf
    have hf' : N.firings[i]? = some f := by rw [List.getElem?_eq_getElem hi, ei]
    obtain ⟨v, h1, h2⟩ := r i (by rw [List.length_map]; exact hi)
    dsimp only at h1 h2
    rw [hf'] at h1 h2
    exact ⟨v, h1, Rp.mono (Ex.new hp) _ _ h2⟩
theorem blk_parts : BlkOk N_Look_init { kind := .function, names := [(".0", .local), ("firing", .local), ("rank", .cell)], isGenerator := false, isCoroutine := false } { kind := .function, names := [(".0", .local), ("place", .local), ("count", .local), ("rank", .free)], isGenerator := false, isCoroutine := false } [("place", 9), ("count", 10)] := blkOk_by (by decide +kernel)
theorem ok_Look_init {N : Net} (E : Env K mg) (W : Wf N) : C8.Mak P w K mg base 1 "Look" (He.ga K "Look") (Ini (He.ga K "Look") (A1 (netD N)) (LookF N)) [] :=
  ig_Look_init E Ini.len fun cdv A outer s H vs Q E' hr ⟨x, dx, rest, G, e, ex, own, a, k⟩ => by
    subst e
    obtain ⟨v1, rfl, r1⟩ := ACons.one a
    obtain ⟨qn, xs, rfl, h1, h2⟩ := Rp.tup_eq r1 (netD_pl N)
    cases h2 with
    | cons rp h2 =>
    cases h2 with
    | cons rf h2 =>
    cases h2
    rename_i vp vf
    refine ws_asg (R := RV (.ref qn)) (ee_var (i := 1) rfl rfl) ex fun v G1 H1 s1 r => ?_
    rw [show v = .ref qn from r]
    refine wg (eg_tup2 rfl (s1.g _ _ h1) (eg_name (i := 2) sc_Look_init.nd) (eg_name (i := 3) sc_Look_init.nd)) s1.i fun H2 s2 => ?_
    have s12 := s1.trans s2
    have own2 := own.step0 s12
    have rp2 := Rp.mono s12.g _ _ rp
    have rf2 := Rp.mono s12.g _ _ rf
    have fnames : N.places.filterMap (fun p => some (PyData.str p.1)) = N.names.map .str := by
      rw [fm_some]
      unfold Net.names
      rw [List.map_map]
      rfl
    have fbeg : N.places.filterMap (fun p => some (PyData.int p.2)) = N.begin.map .int := by
      rw [fm_some]
      unfold Net.begin
      rw [List.map_map]
      rfl
    have plen : N.places.length ≤ 100000 := by have := W.len; omega
    have flen : N.firings.length ≤ 100000 := by have := W.flen; omega
    refine ws_fld (R := RD (.list (N.names.map .str))) (ee_is (ed_lcM (l := N.places) (src := pairD) (own := [("name", 4), ("begin", 5)]) rfl sc_Look_init.nd (ei_tup (ee_var (i := 2) rfl rp2)) (blkOk_by (N := N_Look_init) (sc := defScope s_Look_init) (by decide +kernel)) (fun p => some (PyData.str p.1)) (fun i p x G' eg hp rx => ?_) plen) (by rw [fnames]))
      (ee_var (i := 0) rfl rfl) own2 E.c_Look E.n_Look_places (by decide) s12.i fun v3 G3 H3 s3 r3 own3 => ?_
    · obtain ⟨t, rfl, ht⟩ := pairD_eq rx
      refine ⟨_, ?_, fun s H C cl fp => ⟨eg_tup2 rfl ht (eg_name (i := 4) sc_Look_init.nd) (eg_name (i := 5) sc_Look_init.nd), ets_nil, ?_⟩⟩
      · rfl
      · exact ee_var (i := 4) rfl (.str _)
    have t3 := (s12.trans s3)
    have t3' : Stp [x] G H G3 (upd H3 x (.ins (He.ga K "Look") dx [(("places" : Str), v3)])) := t3.any.mut own3.g (.inr (List.mem_cons_self ..))
    have own3' := own3.upd (o' := .ins (He.ga K "Look") dx [(("places" : Str), v3)])
    refine ws_fld (R := RD (tI N.begin)) (ed_tupL (ee_is (ed_lcM (l := N.places) (src := pairD) (own := [("name", 4), ("begin", 5)]) rfl sc_Look_init.nd (ei_tup (ee_var (i := 2) rfl (Rp.mono s3.g _ _ rp2))) (blkOk_by (N := N_Look_init) (sc := defScope s_Look_init) (by decide +kernel)) (fun p => some (PyData.int p.2)) (fun i p x G' eg hp rx => ?_) plen) (by rw [fbeg])) E.b_tuple)
      (ee_var (i := 0) rfl rfl) own3' E.c_Look E.n_Look_begin (by simp) t3'.i fun v4 G4 H4 s4 r4 own4 => ?_
    · obtain ⟨t, rfl, ht⟩ := pairD_eq rx
      refine ⟨_, ?_, fun s H C cl fp => ⟨eg_tup2 rfl ht (eg_name (i := 4) sc_Look_init.nd) (eg_name (i := 5) sc_Look_init.nd), ets_nil, ?_⟩⟩
      · rfl
      · exact ee_var (i := 5) rfl (.int _)
    have t4 := (t3'.trans s4.any).mut (o := .ins (He.ga K "Look") dx [(("places" : Str), v3), (("begin" : Str), v4)]) own4.g (.inr (List.mem_cons_self ..))
    have own4' := own4.upd (o' := .ins (He.ga K "Look") dx [(("places" : Str), v3), (("begin" : Str), v4)])
    have rf4 := Rp.mono (s3.g.trans s4.g) _ _ rf2
    refine ws_fld (R := RD (.list (N.firings.map fun f => .str f.name))) (ee_is (ed_lcM (l := N.firings) (src := firD) (own := [("firing", 6)]) rfl sc_Look_init.nd (ei_tup (ee_var (i := 3) rfl rf4)) (blkOk_by (N := N_Look_init) (sc := defScope s_Look_init) (by decide +kernel)) (fun f => some (PyData.str f.name)) (fun i f x G' eg hp rx => ?_) flen) (by rw [fm_some]))
      (ee_var (i := 0) rfl rfl) own4' E.c_Look E.n_Look_names (by simp) t4.i fun v5 G5 H5 s5 r5 own5 => ?_
    · refine ⟨_, ?_, fun s H C cl fp => ⟨eg_name (i := 6) sc_Look_init.nd, ets_nil, ?_⟩⟩
      · rfl
      · exact ed_ixT (i := 0) (ee_var (i := 6) rfl rx) ed_int rfl
    have t5 := (t4.trans s5.any).mut (o := .ins (He.ga K "Look") dx [(("places" : Str), v3), (("begin" : Str), v4), (("names" : Str), v5)]) own5.g (.inr (List.mem_cons_self ..))
    have own5' := own5.upd (o' := .ins (He.ga K "Look") dx [(("places" : Str), v3), (("begin" : Str), v4), (("names" : Str), v5)])
    have rf5 := Rp.mono s5.g _ _ rf4
    have key : ∀ i, i < (N.firings.map firD).length → ∃ f, N.firings[i]? = some f := fun i h => by
      rw [List.length_map] at h
      exact ⟨_, List.getElem?_eq_getElem h⟩
    refine ws_fld (R := RAny) (EE.any (R := RAny) ((en_dc (own := [("firing", 6)]) rfl sc_Look_init.nd (ei_tup (ee_var (i := 3) rfl rf5)) (blkOk_by (N := N_Look_init) (sc := defScope s_Look_init) (by decide +kernel)) (fun i => .inr ((N.firings[i]?.map (·.name)).getD "")) (fun i => RAny) (fun i _ => inferInstance) (fun i j hi hj e => ?_) (fun i x G' eg h y => ?_) (by rw [List.length_map]; exact flen)).ee fun p o G' eg _ hp => trivial))
      (ee_var (i := 0) rfl rfl) own5' E.c_Look E.n_Look_labels (by simp) t5.i fun v6 G6 H6 s6 r6 own6 => ?_
    · obtain ⟨f, hf⟩ := key i hi
      obtain ⟨g, hg⟩ := key j hj
      rw [hf, hg] at e
      exact names_inj W hf hg (Sum.inr.inj e)
    · obtain ⟨f, hf⟩ := key i h
      obtain ⟨d, hd, rd⟩ := y
      rw [List.getElem?_map, hf] at hd
      obtain rfl := Option.some.inj hd
      rw [hf]
      refine ⟨_, .str f.name, ?_, fun v G r => Rp.str_eq r, fun s H C cl fp => ⟨eg_name (i := 6) sc_Look_init.nd, ?_, ?_⟩⟩
      · rfl
      · exact ed_ixT (i := 0) (ee_var (i := 6) rfl rd) ed_int rfl
      · exact EE.any (ed_ixT (i := 1) (ee_var (i := 6) rfl rd) ed_int rfl)
    have t6 := (t5.trans s6.any).mut (o := .ins (He.ga K "Look") dx [(("places" : Str), v3), (("begin" : Str), v4), (("names" : Str), v5), (("labels" : Str), v6)]) own6.g (.inr (List.mem_cons_self ..))
    have own6' := own6.upd (o' := .ins (He.ga K "Look") dx [(("places" : Str), v3), (("begin" : Str), v4), (("names" : Str), v5), (("labels" : Str), v6)])
    have rf6 := Rp.mono s6.g _ _ rf5
    have r36 : Rp G6 v3 (.list (N.names.map .str)) := Rp.mono (((s4.g.trans s5.g).trans s6.g)) _ _ r3
    refine ws_setN (i := 7) (G := upd G6 x (.ins (He.ga K "Look") dx [(("places" : Str), v3), (("begin" : Str), v4), (("names" : Str), v5), (("labels" : Str), v6)])) sc_Look_init.nd (en_dc (own := [("at", 8), ("name", 4)]) rfl sc_Look_init.nd
      (ei_enumL (ee_fld (R := RD (.list (N.names.map .str))) (ee_var (i := 0) (v := .ref x) rfl rfl) upd_same E.c_Look E.n_Look_places rfl (Rp.mono own6'.exG _ _ r36)) E.b_enumerate)
      (blkOk_by (N := N_Look_init) (sc := defScope s_Look_init) (by decide +kernel)) (fun i => .inr ((N.names[i]?).getD "")) (fun i => RD (.int (i : Nat))) (fun i _ => inferInstance) (fun i j hi hj e => ?_) (fun i y G' eg h y => ?_) (by rw [List.length_map]; unfold Net.names; rw [List.length_map]; exact plen)) (own6'.exU t6.i) fun qr o G7 H7 s7 hq7 own7 ho => ?_
    · rw [List.length_map] at hi hj
      rw [List.getElem?_eq_getElem hi, List.getElem?_eq_getElem hj] at e
      exact (List.getElem_inj W.nd).mp (Sum.inr.inj e)
    · obtain ⟨d, z, t, hd, rfl, ht, rz⟩ := y
      rw [List.getElem?_map] at hd
      obtain ⟨nm, hnm, rfl⟩ := Option.map_eq_some_iff.mp hd
      rw [hnm]
      refine ⟨_, .str nm, ?_, fun v G r => Rp.str_eq r, fun s H C cl fp => ⟨eg_tup2 rfl ht (eg_name (i := 8) sc_Look_init.nd) (eg_name (i := 4) sc_Look_init.nd), ?_, ?_⟩⟩
      · rfl
      · exact ee_var (i := 4) rfl rz
      · exact ee_var (i := 8) rfl (.int _)
    obtain ⟨kvr, rfl, hl7, r7⟩ := ho
    have s7' := Stp.weak own6'.exG s7
    have own7x := own6'.step0 s7'
    have own7q : Own G6 H7 qr (.dK kvr) := ⟨own7.h, (own6'.exG.trans s7.g).none own7.g⟩
    have s8 : Stp [] G6 _ (upd G6 qr (.dK kvr)) H7 := s7'.frz own7.h hq7
    have t8 := t6.trans s8.any
    have hxq : x ≠ qr := own6'.ne2 hq7
    have own8 := own7x.frz (o' := .dK kvr) hxq
    have hkr : ∀ y ∈ N.names, valV kvr (.inr y) = some (.int (ix N.names y)) := fun y hy => by
      have h1 := ix_at hy
      obtain ⟨hlt, _⟩ := List.getElem?_eq_some_iff.mp h1
      obtain ⟨u, h2, h3⟩ := r7 (ix N.names y) (by rw [List.length_map]; exact hlt)
      dsimp only at h2
      rw [h1] at h2
      rw [← Rp.int_eq h3]
      exact h2
    have rf8 := Rp.mono s8.g _ _ rf6
    refine ws_fld (R := PartK N (·.takes)) (en_parts (k := 0) W (P := P) (w := w) (base := base) (cdv := cdv) (Ar := A) (outer := outer) (s := s) (H := H) (E' := E') (own := [("firing", 6)]) hr upd_same hkr W.tk rf8 rfl (ei_tup (ee_var (i := 3) rfl rf8)) (blkOk_by (by decide +kernel)) (fun f y G' eg hf ry => ?_) (by intro _; rfl))
      (ee_var (i := 0) rfl rfl) own8 E.c_Look E.n_Look_takes (by simp) t8.i fun v7 G9 H9 s9 r9 own9 => ?_
    · refine ⟨_, .str f.name, ?_, fun v G r => Rp.str_eq r, fun s H C cl fp => ⟨eg_name (i := 6) sc_Look_init.nd, ?_, ?_⟩⟩
      · rfl
      · exact ed_ixT (i := 0) (ee_var (i := 6) rfl ry) ed_int rfl
      · refine ee_is (ed_lcM (l := f.takes) (src := pairD) (own := [("place", 9), ("count", 10)]) rfl sc_Look_init.nd (ei_tup (ed_ixT (i := 2) (d := partsD f.takes) (ee_var (i := 6) rfl ry) ed_int rfl)) blk_parts (fun p => some (.tuple [.int (ix N.names p.1), .int p.2])) (fun i p z G'' eg2 hp rx => ?_) (by have h1 := (W.tk f hf).len; have h2 := W.len; unfold Net.names at h1; rw [List.length_map] at h1; omega)) (by rw [fm_some]; rfl)
        obtain ⟨t, rfl, ht⟩ := pairD_eq rx
        refine ⟨_, ?_, fun s H C cl fp => ⟨eg_tup2 rfl ht (eg_name (i := 9) sc_Look_init.nd) (eg_name (i := 10) sc_Look_init.nd), ets_nil, ?_⟩⟩
        · rfl
        · exact ed_tup (hl := by simp) (ad_cons (ee_dgetK (y := .inr p.1) (R := RD (.int (ix N.names p.1))) hr (ee_var (i := 7) (v := .ref qr) rfl rfl) (eg2 _ _ (eg _ _ upd_same)) (ee_var (i := 9) (R := RD (.str p.1)) rfl (.str _)) (fun v G' r => Rp.str_eq r) (hkr _ ((W.tk f hf).mem p (List.mem_of_getElem? hp))) (.int _)) (ad_cons (ee_var (i := 10) rfl (.int _)) ad_nil))
    have t9 := (t8.trans s9.any).mut (o := .ins (He.ga K "Look") dx [(("places" : Str), v3), (("begin" : Str), v4), (("names" : Str), v5), (("labels" : Str), v6), (("takes" : Str), v7)]) own9.g (.inr (List.mem_cons_self ..))
    have own9' := own9.upd (o' := .ins (He.ga K "Look") dx [(("places" : Str), v3), (("begin" : Str), v4), (("names" : Str), v5), (("labels" : Str), v6), (("takes" : Str), v7)])
    have rf9 := Rp.mono s9.g _ _ rf8
    have hqr9 : G9 qr = some (.dK kvr) := s9.g _ _ upd_same
    refine ws_fld (R := PartK N (·.gives)) (en_parts (k := 0) W (P := P) (w := w) (base := base) (cdv := cdv) (Ar := A) (outer := outer) (s := s) (H := H) (E' := E') (own := [("firing", 6)]) hr hqr9 hkr W.gv rf9 rfl (ei_tup (ee_var (i := 3) rfl rf9)) (blkOk_by (by decide +kernel)) (fun f y G' eg hf ry => ?_) (by intro _; rfl))
      (ee_var (i := 0) rfl rfl) own9' E.c_Look E.n_Look_gives (by simp) t9.i fun v8 G10 H10 s10 r10 own10 => ?_
    · refine ⟨_, .str f.name, ?_, fun v G r => Rp.str_eq r, fun s H C cl fp => ⟨eg_name (i := 6) sc_Look_init.nd, ?_, ?_⟩⟩
      · rfl
      · exact ed_ixT (i := 0) (ee_var (i := 6) rfl ry) ed_int rfl
      · refine ee_is (ed_lcM (l := f.gives) (src := pairD) (own := [("place", 9), ("count", 10)]) rfl sc_Look_init.nd (ei_tup (ed_ixT (i := 3) (d := partsD f.gives) (ee_var (i := 6) rfl ry) ed_int rfl)) blk_parts (fun p => some (.tuple [.int (ix N.names p.1), .int p.2])) (fun i p z G'' eg2 hp rx => ?_) (by have h1 := (W.gv f hf).len; have h2 := W.len; unfold Net.names at h1; rw [List.length_map] at h1; omega)) (by rw [fm_some]; rfl)
        obtain ⟨t, rfl, ht⟩ := pairD_eq rx
        refine ⟨_, ?_, fun s H C cl fp => ⟨eg_tup2 rfl ht (eg_name (i := 9) sc_Look_init.nd) (eg_name (i := 10) sc_Look_init.nd), ets_nil, ?_⟩⟩
        · rfl
        · exact ed_tup (hl := by simp) (ad_cons (ee_dgetK (y := .inr p.1) (R := RD (.int (ix N.names p.1))) hr (ee_var (i := 7) (v := .ref qr) rfl rfl) (eg2 _ _ (eg _ _ hqr9)) (ee_var (i := 9) (R := RD (.str p.1)) rfl (.str _)) (fun v G' r => Rp.str_eq r) (hkr _ ((W.gv f hf).mem p (List.mem_of_getElem? hp))) (.int _)) (ad_cons (ee_var (i := 10) rfl (.int _)) ad_nil))
    have t10 := (t9.trans s10.any).mut (o := .ins (He.ga K "Look") dx [(("places" : Str), v3), (("begin" : Str), v4), (("names" : Str), v5), (("labels" : Str), v6), (("takes" : Str), v7), (("gives" : Str), v8)]) own10.g (.inr (List.mem_cons_self ..))
    refine ws_nil (k G10 _ _ t10 own10.upd ⟨v3, v4, v5, v6, v7, v8, rfl, ?_, ?_, ?_, MonoR.mono _ _ _ s10.g r9, r10⟩)
    · exact Rp.mono ((s7'.g.trans s8.g).trans (s9.g.trans s10.g)) _ _ r36
    · exact Rp.mono (((s5.g.trans s6.g).trans s8.g).trans (s9.g.trans s10.g)) _ _ r4
    · exact Rp.mono ((s6.g.trans s8.g).trans (s9.g.trans s10.g)) _ _ r5
theorem ok_look_at {N : Net} (E : Env K mg) (W : Wf N) : C8.Cal P w K mg base 6 "look_at" (Pr (A1 (netD N)) (LookR K N)) [] :=
  cl_look_at E fun cdv A outer s H vs Q E' hr G ex a k => by
    obtain ⟨v1, rfl, r1⟩ := ACons.one a
    refine ws_expr (R := RD .none) (ee_cal (ok_must_net E W) hr (ea1 (ee_var (i := 0) rfl r1))) ex fun v G1 H1 s1 r => ?_
    refine ws_ret (R := LookR K N) ((en_make (ok_Look_init E W) hr (ea1 (ee_var (i := 0) rfl (Rp.mono s1.g _ _ r1)))).ee fun p o G' eg ⟨dx, fs, e, lf⟩ hp => ?_) s1.i fun v G2 H2 s2 r2 => k v G2 H2 (s1.trans s2) r2
    subst e
    exact ⟨p, dx, fs, rfl, upd_same, lf.mono (Ex.new hp)⟩
end TK

/-! part P11 -/
set_option Elab.async false
set_option linter.all false
set_option maxRecDepth 100000
set_option maxHeartbeats 4000000
/-! PG, part 11: items changed in place. -/
namespace PG
open PySem PySem.Spec PyProof.Rows L2
section
variable {X : Cx} {σ σ' : L2.St} {G G0 G1 H H0 H1 : Hp} {e a b c o i l tg iter : Expr} {es : List Expr} {R : V → Hp → Prop} {pos pp apos : Pos} {p : Addr} {D : Ends} {rest body : List Stmt} {S : List Addr}
def gtL (K : PySem.W.Frag) : V → V → Hp → VK → Prop := fun o i H Q => ∃ p xs, ∃ j : Nat, ∃ v, o = .ref p ∧ i = .int (j : Int) ∧ SqL K H p xs ∧ xs[j]? = some v ∧ Q v H
theorem get_listN : PGet X (gtL X.K) := by
  intro pins s σ H x y v u Q I rx ry h
  obtain ⟨p, xs, j, z, rfl, rfl, hq, he, q⟩ := h
  cases rx
  obtain ⟨t, rfl⟩ := ry
  obtain ⟨its, r, pl, hz⟩ := I.list hq
  obtain ⟨w, ew, rw'⟩ := r.get he
  have hl := r.length
  have hn := line63
  have hj := (List.getElem?_eq_some_iff.mp he).1
  exact wpAny_getItem_list pl.isList (by omega) (by omega) (by simpa using ew) ⟨z, H, I, rw', q⟩
/-- o[i] op= e, an item of a list that may be changed -/
theorem ws_augL {q : Addr} {xs : List V} {j : Nat} {n m : Int} {f : Int → Int → Int} {op : Operator} {tpos : Pos} (hop : PIp X op (ipI f)) (ho : EE X o σ G (RV (.ref q))) (hi : ED X i σ G (.int (j : Int))) (he : ED X e σ G (.int m)) (w : Own G H q (.lst xs)) (hj : xs[j]? = some (.int n)) (ex : Ex G H)
    (k : ∀ H', Stp [] G H G H' → Own G H' q (.lst xs) → WS X rest D σ (L2.upd H' q (.lst (xs.set j (.int (f n m))))))
    (ha : ∀ ov iv new, augStore i ov iv new = (do holding [new, ov, iv] (setItem ov iv new); release [new, ov, iv] []; pure .next) := by intros; rfl) : WS X (.AugAssign (.Subscript o i tpos) op e pos :: rest) D σ H := by
  refine ws_cons ⟨_, ps_augS (pe_self o) (pe_self i) get_listN (pe_self e) hop set_list ha, ho H _ ex fun v G1 H1 s1 r1 => ?_⟩
  refine (hi.mono s1.g) H1 _ s1.i fun y G2 H2 s2 r2 => ?_
  have s12 := s1.trans s2
  have w2 := w.step0 s12
  refine ⟨q, xs, j, .int n, r1, Rp.int_eq r2, SqL.of w2.h, hj, ?_⟩
  refine (he.mono s12.g) H2 _ s2.i fun z G3 H3 s3 r3 => ?_
  have s := s12.trans s3
  have w3 := w.step0 s
  refine ⟨n, m, rfl, Rp.int_eq r3, q, xs, j, j, r1, Rp.int_eq r2, w3.h, ?_, k H3 s.keepG ⟨w3.h, w.g⟩⟩
  have hl := (List.getElem?_eq_some_iff.mp hj).1
  unfold ixN
  rw [if_pos (by omega), if_pos (by omega)]
  simp
theorem Turn1.test {ifs : List Expr} {elt : Expr} {scope : Scope} {vs : List Nat} {x : V} {G' : Hp} {t : Bool} {d : PyData}
    (h : ∃ σ', wipe σ' vs = wipe σ vs ∧ ∀ (s : Shared) (H : Hp) (C : Addr) (cl : List (Str × Addr)) (fp : List Addr), EG (Blk X scope s H C cl fp) tg x (wipe σ vs) G' σ' ∧ ETs (Blk X scope s H C cl fp) ifs σ' G' t ∧ (t = true → ED (Blk X scope s H C cl fp) elt σ' G' d)) :
    Turn1 X σ tg ifs elt scope vs x G' ((if t = true then some d else none).map RD) := by
  obtain ⟨σ', hw, h⟩ := h
  refine ⟨σ', hw, fun s H C cl fp => ⟨(h s H C cl fp).1, ?_⟩⟩
  obtain ⟨_, h2, h3⟩ := h s H C cl fp
  cases t with
  | true => exact ⟨h2, h3 rfl⟩
  | false => exact h2
theorem fm_if {α β : Type} (c : α → Bool) (f : α → β) : ∀ l : List α, l.filterMap (fun a => if c a = true then some (f a) else none) = (l.filter c).map f
  | [] => rfl
  | a :: l => by
    rw [List.filterMap_cons, List.filter_cons]
    cases hc : c a with
    | true =>
      rw [if_pos rfl, if_pos rfl, List.map_cons, ← fm_if c f l]
    | false =>
      rw [if_neg Bool.false_ne_true, if_neg Bool.false_ne_true, ← fm_if c f l]
end
end PG

/-! part F7 -/
set_option Elab.async false
set_option linter.all false
set_option maxRecDepth 100000
set_option maxHeartbeats 4000000
namespace TK
open PySem PySem.Spec PyProof.Rows L2 PG
variable {P : Program} {w : World} {K : PySem.W.Frag} {mg : Str → Option Value} {base : Heap}
theorem rankI_eq {G : Hp} {v : V} {i j : Int} (h : Rp G v (.tuple [.int i, .int j])) : ∃ q, v = .ref q ∧ G q = some (.tup [.int i, .int j]) := by
  obtain ⟨q, xs, rfl, h1, h2⟩ := Rp.tup_eq h
  cases h2 with
  | cons a b =>
    cases b with
    | cons b c =>
      cases c
      rw [a.int_eq, b.int_eq] at h1
      exact ⟨q, rfl, h1⟩
section
variable {X : Cx} {σ : L2.St} {G : Hp} {o b : Expr} {pos apos : Pos}
theorem ed_part {k : Nat} {q C dx : Addr} {fs : List (Str × V)} {fn : Str} {v : V} {N : Net} {sel : Fir → List (Str × Int)} {f : Fir} (hr : Room k X.A) (ho : EE X o σ G (RV (.ref q))) (hq : G q = some (.ins C dx fs)) (hc : Cls X.K C) (hn : NoAttr X.K C fn) (hl : fs.lookup fn = some v) (hp : PartK N sel v G) (hf : f ∈ N.firings) (hb : ED X b σ G (.str f.name))
    (hbs : attributeBase o fn X.env (eval o X.env) = eval o X.env := by rfl) (hs : NoSl b := by intro _ _; rfl) : ED X (.Subscript (.Attribute o fn apos) b pos) σ G (rankD N.names (sel f)) := by
  obtain ⟨qd, kvs, rfl, hd, h⟩ := hp
  obtain ⟨u, h1, h2⟩ := h f hf
  exact ee_dgetK (y := .inr f.name) (R := RD (rankD N.names (sel f))) hr (ee_fld (R := RV (.ref qd)) ho hq hc hn hl rfl hbs) hd hb (fun v G' r => Rp.str_eq r) h1 h2 hs
end
def RLack (b : Bool) : V → Hp → Prop := fun v _ => if b = true then v = .non else ∃ z, v = .str z
instance (b : Bool) : MonoR (RLack b) := ⟨fun _ _ _ _ h => h⟩
theorem tI_at {h : List Int} {k : Nat} (hk : k < h.length) : atI (h.map PyData.int) (k : Int) = some (.int (h.getD k 0)) := by
  refine L2.atI_nat ?_
  rw [List.getElem?_map, List.getElem?_eq_getElem hk]
  simp [List.getD_eq_getElem?_getD, hk]
theorem ix_lt {N : Net} {h : List Int} (hl : h.length = N.names.length) {x : Str} (hx : x ∈ N.names) : ix N.names x < h.length := by
  rw [hl]
  exact List.idxOf_lt_length_iff.mpr hx
abbrev LK (K : PySem.W.Frag) (N : Net) (h : List Int) (f : Fir) : List V → Hp → Prop := ACons (LookR K N) (ACons (RD (tI h)) (ACons (RD (.str f.name)) ANil))
theorem ok_lacking {N : Net} {h : List Int} {f : Fir} (E : Env K mg) (W : Wf N) (hf : f ∈ N.firings) (hl : h.length = N.names.length) : C8.Met P w K mg base 1 (He.ga K "Look") "lacking" (Pr (LK K N h f) (RLack (canF N h f))) [] :=
  ml_Look_lacking E fun cdv A outer s H vs Q E' hr G ex a k => by
    obtain ⟨v0, v1, v2, rfl, ⟨q, dx, fs, rfl, hq, v3, v4, v5, v6, v7, v8, rfl, hpl, hbg, hnm, htk, hgv⟩, r1, r2⟩ := ACons.three a
    refine ws_forS (Y := YD (f.takes.map fun p => .tuple [.int (ix N.names p.1), .int p.2])) (ei_list (ed_part hr (ee_var (i := 0) rfl rfl) hq E.c_Look E.n_Look_takes rfl htk hf (ee_var (i := 2) rfl r2))) PassesOwn.never rfl (Stp.refl (S := []) ex)
      (fun i σ' _ _ => ∃ o3 o4, σ' = [some (.ref q), some v1, some v2, o3, o4] ∧ ∀ p ∈ f.takes.take i, p.2 ≤ h.getD (ix N.names p.1) 0) (fun _ _ _ => ⟨_, _, rfl, fun p hp => by simp at hp⟩) ?_ ?_
    · rintro G1 eg i σ' G' H' G3 H3 x hi e1 s2 ⟨o3, o4, rfl, al⟩ s3 ⟨d, hd, rd⟩
      rw [List.getElem?_map] at hd
      obtain ⟨p, hp, rfl⟩ := Option.map_eq_some_iff.mp hd
      have hm := List.mem_of_getElem? hp
      obtain ⟨t, rfl, ht⟩ := rankI_eq rd
      have hns := (W.tk f hf).mem p hm
      have hix := ix_lt hl hns
      have r13 := Rp.mono (eg.trans e1) _ _ r1
      refine wg (eg_tup2 rfl ht (eg_name (i := 3) sc_Look_lacking.nd) (eg_name (i := 4) sc_Look_lacking.nd)) s2.i fun H4 s4 => ?_
      refine ws_if (et_lt (i := h.getD (ix N.names p.1) 0) (j := p.2) (ed_ixT (i := (ix N.names p.1 : Nat)) (ee_var (i := 1) rfl r13) (ee_var (i := 3) rfl (.int _)) (tI_at hix)) (ee_var (i := 4) rfl (.int _))) s4.i fun H5 s5 => ?_
      cases hb : decide (h.getD (ix N.names p.1) 0 < p.2) with
      | true =>
        have hcan : canF N h f = false := by
          unfold canF
          rw [List.all_eq_false]
          exact ⟨p, hm, by have := of_decide_eq_true hb; simp only [decide_eq_true_eq]; omega⟩
        refine iteT (ws_ret (R := RLack (canF N h f)) ((ed_ixL (i := (ix N.names p.1 : Nat)) (d := .str p.1) (ee_fld (R := RD (.list (N.names.map .str))) (ee_var (i := 0) rfl rfl) ((eg.trans e1) _ _ hq) E.c_Look E.n_Look_places rfl (Rp.mono (eg.trans e1) _ _ hpl)) (ee_var (i := 3) rfl (.int _)) (L2.atI_nat (by rw [List.getElem?_map, ix_at hns]; rfl))).imp fun v G' _ r => ?_) s5.i fun v G6 H6 s6 r6 => k v G6 H6 ((s2.trans (s4.trans s5)).trans s6) r6)
        show if canF N h f = true then _ else _
        rw [hcan]
        exact ⟨_, Rp.str_eq r⟩
      | false =>
        refine iteF (ws_nil (ws_nil ⟨G3, e1, s2.trans (s4.trans s5), _, _, rfl, fun p' hp' => ?_⟩))
        rcases (mem_take_succ hp).mp hp' with z | z
        · exact al p' z
        · subst z
          have := of_decide_eq_false hb
          omega
    · rintro σ' G' H' e1 s2 ⟨o3, o4, rfl, al⟩
      rw [List.length_map, List.take_length] at al
      have hcan : canF N h f = true := by
        unfold canF
        rw [List.all_eq_true]
        exact fun p hp => decide_eq_true (al p hp)
      refine ws_ret (R := RLack (canF N h f)) ((ed_non).imp fun v G' _ r => ?_) s2.i fun v G3 H3 s3 r3 => k v G3 H3 (s2.trans s3) r3
      show if canF N h f = true then _ else _
      rw [hcan]
      exact Rp.non_eq r
theorem ok_behind {N : Net} {h : List Int} {f : Fir} (E : Env K mg) (W : Wf N) (hf : f ∈ N.firings) (hl : h.length = N.names.length) : C8.Met P w K mg base 1 (He.ga K "Look") "behind" (Pr (LK K N h f) (RD (tI (fire N h f)))) [] :=
  ml_Look_behind E fun cdv A outer s H vs Q E' hr G ex a k => by
    obtain ⟨v0, v1, v2, rfl, ⟨q, dx, fs, rfl, hq, v3, v4, v5, v6, v7, v8, rfl, hpl, hbg, hnm, htk, hgv⟩, r1, r2⟩ := ACons.three a
    refine ws_setN (i := 3) sc_Look_behind.nd (en_listI (ee_var (i := 1) rfl r1) E.b_list) ex fun t o G1 H1 s1 ht w1 ho => ?_
    subst ho
    have lenF : ∀ (s : Int) (ps : List (Str × Int)) (h : List Int), h.length = N.names.length → (ps.foldl (stepP N.names s) h).length = N.names.length := fun s ps => by
      induction ps with
      | nil => exact fun h e => e
      | cons p ps ih => exact fun h e => ih _ (by rw [stepP_length, e])
    have setI : ∀ {hh : List Int} {k : Nat} {z : Int}, (hh.map V.int).set k (.int z) = (hh.set k z).map V.int := fun {hh k z} => by rw [List.map_set]
    have getI : ∀ {hh : List Int} {k : Nat}, k < hh.length → (hh.map V.int)[k]? = some (.int (hh.getD k 0)) := fun {hh k} hk => by
      rw [List.getElem?_map, List.getElem?_eq_getElem hk]
      simp [List.getD_eq_getElem?_getD, hk]
    have ht0 : H t = none := ht
    refine ws_forS (Y := YD (f.takes.map fun p => .tuple [.int (ix N.names p.1), .int p.2])) (ei_list (ed_part hr (ee_var (i := 0) rfl rfl) (s1.g _ _ hq) E.c_Look E.n_Look_takes rfl (MonoR.mono _ _ _ s1.g htk) hf (ee_var (i := 2) rfl (Rp.mono s1.g _ _ r2)))) PassesOwn.never rfl s1
      (fun i σ' G' H' => ∃ o4 o5, σ' = [some (.ref q), some v1, some v2, some (.ref t), o4, o5] ∧ Own G' H' t (.lst (((f.takes.take i).foldl (stepP N.names (-1)) h).map V.int))) (fun G2 H2 s2 => ⟨_, _, rfl, w1.step0 s2⟩) ?_ ?_
    · rintro G1' eg i σ' G' H' G3 H3 x hi e1 s2 ⟨o4, o5, rfl, own⟩ s3 ⟨d, hd, rd⟩
      rw [List.getElem?_map] at hd
      obtain ⟨p, hp, rfl⟩ := Option.map_eq_some_iff.mp hd
      have hm := List.mem_of_getElem? hp
      obtain ⟨u, rfl, hu⟩ := rankI_eq rd
      have hns := (W.tk f hf).mem p hm
      have own3 := own.step0 s3
      refine wg (eg_tup2 rfl hu (eg_name (i := 4) sc_Look_behind.nd) (eg_name (i := 5) sc_Look_behind.nd)) s2.i fun H4 s4 => ?_
      refine ws_augL (j := ix N.names p.1) (m := p.2) ip_sub (ee_var (i := 3) rfl rfl) (ee_var (i := 4) rfl (.int _)) (ee_var (i := 5) rfl (.int _)) (own3.step0 s4) (getI (ix_lt (lenF _ _ _ hl) hns)) s4.i fun H5 s5 w5 => ?_
      refine ws_nil ⟨G3, e1, (s2.trans (s4.trans s5)).mut w5.g (.inl ht0), _, _, rfl, ?_⟩
      rw [fold_take _ _ hp]
      have e2 : stepP N.names (-1) ((f.takes.take i).foldl (stepP N.names (-1)) h) p = ((f.takes.take i).foldl (stepP N.names (-1)) h).set (ix N.names p.1) (((f.takes.take i).foldl (stepP N.names (-1)) h).getD (ix N.names p.1) 0 - p.2) := by
        unfold stepP
        congr 1
        omega
      rw [e2, ← setI]
      exact w5.upd
    · rintro σ' G2 H2 e1 s2 ⟨o4, o5, rfl, own⟩
      rw [List.length_map, List.take_length, foldP W.nd (W.tk f hf).mem hl] at own
      have hl2 : (plus N.names (-1) f.takes h).length = N.names.length := plus_length hl
      have eg2 := s1.g.trans e1
      refine ws_forS (Y := YD (f.gives.map fun p => .tuple [.int (ix N.names p.1), .int p.2])) (ei_list (ed_part hr (ee_var (i := 0) rfl rfl) (eg2 _ _ hq) E.c_Look E.n_Look_gives rfl (MonoR.mono _ _ _ eg2 hgv) hf (ee_var (i := 2) rfl (Rp.mono eg2 _ _ r2)))) PassesOwn.never rfl s2
        (fun i σ' G' H' => ∃ o4 o5, σ' = [some (.ref q), some v1, some v2, some (.ref t), o4, o5] ∧ Own G' H' t (.lst (((f.gives.take i).foldl (stepP N.names 1) (plus N.names (-1) f.takes h)).map V.int))) (fun G2 H2 s2 => ⟨_, _, rfl, own.step0 s2⟩) ?_ ?_
      · rintro G1' eg i σ' G' H' G3 H3 x hi e1 s2 ⟨o4, o5, rfl, own⟩ s3 ⟨d, hd, rd⟩
        rw [List.getElem?_map] at hd
        obtain ⟨p, hp, rfl⟩ := Option.map_eq_some_iff.mp hd
        have hm := List.mem_of_getElem? hp
        obtain ⟨u, rfl, hu⟩ := rankI_eq rd
        have hns := (W.gv f hf).mem p hm
        have own3 := own.step0 s3
        refine wg (eg_tup2 rfl hu (eg_name (i := 4) sc_Look_behind.nd) (eg_name (i := 5) sc_Look_behind.nd)) s2.i fun H4 s4 => ?_
        refine ws_augL (j := ix N.names p.1) (m := p.2) ip_add (ee_var (i := 3) rfl rfl) (ee_var (i := 4) rfl (.int _)) (ee_var (i := 5) rfl (.int _)) (own3.step0 s4) (getI (ix_lt (lenF _ _ _ hl2) hns)) s4.i fun H5 s5 w5 => ?_
        refine ws_nil ⟨G3, e1, (s2.trans (s4.trans s5)).mut w5.g (.inl ht0), _, _, rfl, ?_⟩
        rw [fold_take _ _ hp]
        have e2 : stepP N.names 1 ((f.gives.take i).foldl (stepP N.names 1) (plus N.names (-1) f.takes h)) p = ((f.gives.take i).foldl (stepP N.names 1) (plus N.names (-1) f.takes h)).set (ix N.names p.1) (((f.gives.take i).foldl (stepP N.names 1) (plus N.names (-1) f.takes h)).getD (ix N.names p.1) 0 + p.2) := by
          unfold stepP
          congr 1
          omega
        rw [e2, ← setI]
        exact w5.upd
      · rintro σ' G3 H3 e3 s3 ⟨o4, o5, rfl, own⟩
        rw [List.length_map, List.take_length, foldP W.nd (W.gv f hf).mem hl2] at own
        have s4 := s3.frz own.h ht0
        refine ws_ret (R := RD (tI (fire N h f))) (ed_tupL (ee_var (i := 3) (R := RD (.list ((fire N h f).map .int))) rfl (.lst upd_same (ints_paired _))) E.b_tuple) s4.i fun v G5 H5 s5 r5 => k v G5 H5 (s4.trans s5) r5
theorem ok_can {N : Net} {h : List Int} (E : Env K mg) (W : Wf N) (hl : h.length = N.names.length) : C8.Met P w K mg base 2 (He.ga K "Look") "can" (Pr (ACons (LookR K N) (ACons (RD (tI h)) ANil)) (RD (.list ((N.firings.filter (canF N h)).map fun f => .str f.name)))) [] :=
  ml_Look_can E fun cdv A outer s H vs Q E' hr G ex a k => by
    obtain ⟨v0, v1, rfl, lk, r1⟩ := ACons.two a
    have lk' := lk
    obtain ⟨q, dx, fs, rfl, hq, v3, v4, v5, v6, v7, v8, rfl, hpl, hbg, hnm, htk, hgv⟩ := lk'
    refine ws_ret (R := RD (.list ((N.firings.filter (canF N h)).map fun f => .str f.name))) ?_ ex k
    refine ee_is (ed_lcM (l := N.firings) (src := fun f : Fir => PyData.str f.name) (own := [("name", 2)]) rfl sc_Look_can.nd (ei_list (ee_fld (R := RD (.list (N.firings.map fun f : Fir => PyData.str f.name))) (ee_var (i := 0) rfl rfl) hq E.c_Look E.n_Look_names rfl hnm)) (blkOk_by (N := N_Look_can) (sc := defScope s_Look_can) (by decide +kernel)) (fun f => if canF N h f = true then some (PyData.str f.name) else none) (fun i f x G' eg hp rx => Turn1.test ?_) (by have := W.flen; omega)) (by rw [fm_if])
    have hf := List.mem_of_getElem? hp
    refine ⟨_, ?_, fun s H C cl fp => ⟨eg_name (i := 2) sc_Look_can.nd, ?_, fun _ => ?_⟩⟩
    · rfl
    · refine ets_one (et_isN (Ra := RLack (canF N h f)) (ee_mcal (ok_lacking E W hf hl) hr (ee_var (i := 0) (v := .ref q) rfl rfl) (eg _ _ hq) rfl (MonoR.mono _ _ _ eg lk) (ea_cons (ee_var (i := 1) rfl (Rp.mono eg _ _ r1)) (ea1 (ee_var (i := 2) rfl rx)))) fun v G'' r => ?_)
      have r' : if canF N h f = true then v = .non else ∃ z, v = .str z := r
      cases hc : canF N h f with
      | true =>
        rw [hc, if_pos rfl] at r'
        rw [r']
        rfl
      | false =>
        rw [hc, if_neg Bool.false_ne_true] at r'
        obtain ⟨z, rfl⟩ := r'
        rfl
    · exact ee_var (i := 2) rfl rx
theorem ok_is_count_firing {i : Int} (E : Env K mg) (h : 0 ≤ i) : C8.Cal P w K mg base 1 "is_count_firing" (Pr (A1 (.int i)) (RD (.bool true))) [] :=
  cl_is_count_firing E fun cdv A outer s H vs Q E' hr G ex a k => by
    obtain ⟨v1, rfl, r1⟩ := ACons.one a
    refine ws_ret (R := RD (.bool true)) ?_ ex k
    exact ee_is (ed_and (t := true) (ed_isi (d := .int i) (T := "int") (r := true) (ee_var (i := 0) rfl r1) E.b_int bt_int kb_ii E.b_isinstance) fun _ => ed_and (t := true) (ed_not (ed_isi (d := .int i) (T := "bool") (r := false) (ee_var (i := 0) rfl r1) E.b_bool bt_bool kb_ib E.b_isinstance)) fun _ =>
      ed_and1 (ed_ge (ee_var (i := 0) rfl r1) ed_int)) (by simp [h])
theorem ok_heap_fault {h : List Int} {n : Nat} (E : Env K mg) (hl : h.length = n) (hn : n ≤ 1000) (nn : ∀ x ∈ h, 0 ≤ x) : C8.Cal P w K mg base 2 "heap_fault" (Pr (A2 (.int n) (tI h)) (RD .none)) [] :=
  cl_heap_fault E fun cdv A outer s H vs Q E' hr G ex a k => by
    obtain ⟨v1, v2, rfl, r1, r2⟩ := ACons.two a
    refine ws_skip (et_or (t := false) (et_not (t := true) (et_val (ed_isT (d := tI h) E (ee_var (i := 1) rfl r2)))) fun _ => et_is (et_ne hr (ed_lenT (ee_var (i := 1) rfl r2) E.b_len) (ee_var (i := 0) rfl r1) rfl rfl) (by rw [List.length_map, hl]; simp [PyData.eqv])) ex fun H1 s1 => ?_
    refine ws_forS (ei_enumT (ee_var (i := 1) rfl r2) E.b_enumerate) PassesOwn.never rfl s1 (fun i σ' G' H' => ∃ o2 o3, σ' = [some v1, some v2, o2, o3]) (fun _ _ _ => ⟨_, _, rfl⟩) ?_ ?_
    · rintro G1 eg i σ' G' H' G3 H3 x hi e1 s2 ⟨o2, o3, rfl⟩ s3 ⟨d, y, t, hd, rfl, ht, ry⟩
      rw [List.getElem?_map] at hd
      obtain ⟨z, hz, rfl⟩ := Option.map_eq_some_iff.mp hd
      refine wg (eg_tup2 rfl ht (eg_name (i := 2) sc_heap_fault.nd) (eg_name (i := 3) sc_heap_fault.nd)) s2.i fun H4 s4 => ?_
      refine ws_skip (et_not (t := true) (et_val (ee_cal (ok_is_count_firing E (nn z (List.mem_of_getElem? hz))) hr (ea1 (ee_var (i := 3) rfl ry))))) s4.i fun H5 s5 => ?_
      exact ws_nil ⟨G3, e1, s2.trans (s4.trans s5), _, _, rfl⟩
    · rintro σ' G' H' e1 s2 ⟨o2, o3, rfl⟩
      exact ws_ret (R := RD .none) ed_non s2.i fun v G3 H3 s3 r3 => k v G3 H3 (s2.trans s3) r3
theorem ok_must_heap {N : Net} {h : List Int} (E : Env K mg) (W : Wf N) (hh : Hip N h) : C8.Cal P w K mg base 3 "must_heap" (Pr (A2 (netD N) (tI h)) (RD .none)) [] :=
  cl_must_heap E fun cdv A outer s H vs Q E' hr G ex a k => by
    obtain ⟨v1, v2, rfl, r1, r2⟩ := ACons.two a
    have hl : h.length = (N.places.map pairD).length := by rw [hh.len, names_len, List.length_map]
    refine ws_set (i := 2) (R := RD .none) sc_must_heap.nd (ee_cal (ok_heap_fault E hl (by have := W.len; simp; omega) hh.nn) hr (ea_cons (ed_lenT (ed_ixT (i := 0) (d := placesD N) (ee_var (i := 0) rfl r1) ed_int rfl) E.b_len) (ea1 (ee_var (i := 1) rfl r2)))) ex fun v G1 H1 s1 r => ?_
    rw [Rp.non_eq r]
    refine ws_skip (et_notN (Ra := RD .none) (ee_var (i := 2) rfl .non) fun v G' r => by rw [Rp.non_eq r]; rfl) s1.i fun H2 s2 => ?_
    exact ws_nil (k _ G1 H2 (s1.trans s2) .non)
end TK

/-! part P12 -/
set_option Elab.async false
set_option linter.all false
set_option maxRecDepth 100000
set_option maxHeartbeats 4000000
/-! PG, part 12: changes by what stands in the heap. -/
namespace PG
open PySem PySem.Spec PyProof.Rows L2
section
variable {X : Cx} {σ σ' : L2.St} {G G0 G1 H H0 H1 : Hp} {e a b c o i l tg iter : Expr} {es : List Expr} {R : V → Hp → Prop} {O : HO → Hp → Prop} {pos pp apos : Pos} {p : Addr} {D : Ends} {rest body : List Stmt} {S : List Addr}
theorem EE.low (h : EE X e σ G R) {Q : VK} (s : Stp [] G H G1 H1) (k : ∀ v G' H', Stp [] G H G' H' → R v G' → Q v H') : WE X e σ H1 Q :=
  h H1 Q (s.g.trans s.i) fun v G' H' s2 r => k v G' H' (s.keepG.trans s2) r
theorem EN.low (h : EN X e σ G O) {Q : VK} (s : Stp [] G H G1 H1) (k : ∀ p o G' H', Stp [] G H G' H' → H p = none → Own G' H' p o → O o G' → Q (.ref p) H') : WE X e σ H1 Q :=
  h H1 Q (s.g.trans s.i) fun p o G' H' s2 hp w r => k p o G' H' (s.keepG.trans s2) (s.ex.none hp) w r
theorem ws_appendW {q : Addr} {xs : List V} {cpos : Pos} {Rk : V → Hp → Prop} (ho : EE X o σ G (RV (.ref q))) (ex : Ex G H) (hq : H q = some (.lst xs)) (hl : xs.length < 100000)
    (he : ∀ G1 H1 (K : VK), Stp [] G H G1 H1 → (∀ v H2, Rk v H2 → H2 q = some (.lst xs) → K v H2) → WE X e σ H1 K) (k : ∀ v H2, Rk v H2 → WS X rest D σ (L2.upd H2 q (.lst (xs ++ [v]))))
    (hs : swapsWith (.Call (.Attribute o "append" apos) [e] [] cpos) none pos.line X.env = pure false := by rfl) (hst : starEach [e] X.env = (false, eval e X.env) :: starEach [] X.env := by rfl)
    (hE : PE X (.Call (.Attribute o "append" apos) [e] [] cpos) (tBM X.K "list" rAppend (WE X o) (tCons (WE X e) tNil)) := by
      exact pe_bm PySem.F.plainAttrs_list PySem.F.slot_list_append PySem.F.type_list_append mt_append (pe_self _) (pa_cons (pe_self _) pa_nil)) : WS X (.Expr (.Call (.Attribute o "append" apos) [e] [] cpos) pos :: rest) D σ H := by
  refine ws_cons ⟨_, ps_expr hE hs, ho H _ ex fun v G1 H1 s1 r1 => ?_⟩
  rw [show v = .ref q from r1]
  exact ⟨.inl ⟨rfl, _, SqL.of (s1.ex _ _ hq)⟩, he G1 H1 _ s1 fun y H2 rk h2 => ⟨q, xs, y, rfl, rfl, h2, small' hl, k y H2 rk⟩⟩
/-- o.append(e), e a value -/
theorem ws_appendH {q : Addr} {xs : List V} {cpos : Pos} (ho : EE X o σ G (RV (.ref q))) (he : EE X e σ G R) (ex : Ex G H) (hq : H q = some (.lst xs)) (hl : xs.length < 100000) (k : ∀ v G' H', Stp [] G H G' H' → R v G' → WS X rest D σ (L2.upd H' q (.lst (xs ++ [v]))))
    (hs : swapsWith (.Call (.Attribute o "append" apos) [e] [] cpos) none pos.line X.env = pure false := by rfl) (hst : starEach [e] X.env = (false, eval e X.env) :: starEach [] X.env := by rfl)
    (hE : PE X (.Call (.Attribute o "append" apos) [e] [] cpos) (tBM X.K "list" rAppend (WE X o) (tCons (WE X e) tNil)) := by
      exact pe_bm PySem.F.plainAttrs_list PySem.F.slot_list_append PySem.F.type_list_append mt_append (pe_self _) (pa_cons (pe_self _) pa_nil)) : WS X (.Expr (.Call (.Attribute o "append" apos) [e] [] cpos) pos :: rest) D σ H :=
  ws_appendW (Rk := fun v H2 => ∃ G', Stp [] G H G' H2 ∧ R v G') ho ex hq hl (fun G1 H1 K s1 kk => he.low s1 fun v G' H' s r => kk v H' ⟨G', s, r⟩ (s.ex _ _ hq)) (fun v H2 ⟨G', s, r⟩ => k v G' H2 s r) hs hst hE
/-- .. a new thing -/
theorem ws_appendN {q : Addr} {xs : List V} {cpos : Pos} (ho : EE X o σ G (RV (.ref q))) (he : EN X e σ G O) (ex : Ex G H) (hq : H q = some (.lst xs)) (hl : xs.length < 100000) (k : ∀ t o G' H', Stp [] G H G' H' → H t = none → Own G' H' t o → O o G' → WS X rest D σ (L2.upd H' q (.lst (xs ++ [.ref t]))))
    (hs : swapsWith (.Call (.Attribute o "append" apos) [e] [] cpos) none pos.line X.env = pure false := by rfl) (hst : starEach [e] X.env = (false, eval e X.env) :: starEach [] X.env := by rfl)
    (hE : PE X (.Call (.Attribute o "append" apos) [e] [] cpos) (tBM X.K "list" rAppend (WE X o) (tCons (WE X e) tNil)) := by
      exact pe_bm PySem.F.plainAttrs_list PySem.F.slot_list_append PySem.F.type_list_append mt_append (pe_self _) (pa_cons (pe_self _) pa_nil)) : WS X (.Expr (.Call (.Attribute o "append" apos) [e] [] cpos) pos :: rest) D σ H :=
  ws_appendW (Rk := fun v H2 => ∃ t o G', v = .ref t ∧ Stp [] G H G' H2 ∧ H t = none ∧ Own G' H2 t o ∧ O o G') ho ex hq hl (fun G1 H1 K s1 kk => he.low s1 fun t o G' H' s ht w r => kk _ H' ⟨t, o, G', rfl, s, ht, w, r⟩ (s.ex _ _ hq)) (fun v H2 ⟨t, o, G', e, s, ht, w, r⟩ => by
    subst e
    exact k t o G' H2 s ht w r) hs hst hE
/-- d[i] = e by tuple keys, d as it stands in the heap -/
theorem ws_dputTH {k : Nat} {q : Addr} {kvs : List (List Key × V)} {i : Expr} {ns : List Int} {pos' : Pos} (hne : ns ≠ []) (hr : Room k X.A) (he : EE X e σ G R) [MonoR R] (ho : EE X o σ G (RV (.ref q))) (hi : ED X i σ G (tI ns)) (ex : Ex G H) (hq : H q = some (.dT kvs)) (hl : kvs.length < 100000)
    (k : ∀ v G' H', Stp [] G H G' H' → R v G' → WS X rest D σ (L2.upd H' q (.dT (putK kvs (ns.map Sum.inl) v)))) (hs : swapsWith e (some (.Subscript o i pos')) pos.line X.env = pure false := by rfl) : WS X (.Assign [.Subscript o i pos'] e pos :: rest) D σ H := by
  refine ws_cons ⟨_, ps_dput (hu_of hr) (pe_self o) (pe_self i) (pe_self e) hs, he H _ ex fun v G1 H1 s1 r1 => ?_⟩
  refine (ho.mono s1.g) H1 _ s1.i fun x G2 H2 s2 r2 => (hi.mono (s1.g.trans s2.g)) H2 _ s2.i fun z G3 H3 s3 r3 => ?_
  have s := (s1.trans s2).trans s3
  obtain ⟨t, rfl, ht⟩ := Rp.tI_eq r3 hne
  rw [ints_keys] at ht
  exact ⟨q, _, r2, DPut.t (s.ex _ _ hq) (s.i _ _ ht) (small' hl), k v G3 H3 s (MonoR.mono _ _ _ (s2.g.trans s3.g) r1)⟩
/-! more new things -/
theorem en_addL {ds ds' : List PyData} (ha : ED X a σ G (.list ds)) (hb : ED X b σ G (.list ds')) (hl : ds.length + ds'.length ≤ 100000) : EN X (.BinOp a .Add b pos) σ G fun o G' => ∃ vs, o = .lst vs ∧ Paired (Rp G') vs (ds ++ ds') := fun H Q e k =>
  ⟨_, pe_op op_cat (pe_self a) (pe_self b), two ha hb e fun x y G' H' s rx ry => by
    obtain ⟨q1, xs, rfl, h1, p1⟩ := Rp.lst_eq rx
    obtain ⟨q2, ys, rfl, h2, p2⟩ := Rp.lst_eq ry
    exact ⟨q1, q2, xs, ys, rfl, rfl, s.i _ _ h1, s.i _ _ h2, small (by rw [Paired.length p1, Paired.length p2]; exact hl), fun t ht => en_up (O := fun o G' => ∃ vs, o = .lst vs ∧ Paired (Rp G') vs (ds ++ ds')) s ht ⟨_, rfl, Paired.app p1 p2⟩ k⟩⟩
theorem en_tup {n : Nat} {A : List V → Hp → Prop} [l : LenA A n] (h : EA X es σ G A) (hn : n ≤ 1000 := by decide) {x1} : EN X (.Tuple es x1 pos) σ G fun o G' => ∃ vs, o = .tup vs ∧ A vs G' := fun H Q ex k =>
  ⟨_, pe_tup (pa_self es), h H _ ex fun vs G1 H1 s r => ⟨small (by rw [l.len _ _ r]; omega), fun p hp => en_up (O := fun o G' => ∃ vs, o = .tup vs ∧ A vs G') s hp ⟨vs, rfl, r⟩ k⟩⟩
/-- a new thing that is known again below: what of it was learned above a known thing more -/
theorem Own.low {o o' : HO} {q : Addr} (w : Own G1 H1 p o) (e : Ex G (L2.upd G q o')) (e2 : Ex (L2.upd G q o') G1) : Own G H1 p o := ⟨w.h, (e.trans e2).none w.g⟩
/-- x = C(..), by any promise -/
theorem ws_setM {k j : Nat} {i : Nat} {x y : Str} {C : Addr} {sp : Sp} {A : List V → Hp → Prop} {pos' : Pos} (hN : X.N.Nodup) (c : C8.Mak X.prog X.w X.K X.mg X.base k x C sp []) (hr : Room j X.A) (ha : EA X (e :: es) σ G A) (ex : Ex G H)
    (kk : ∀ vs G1 H1 z dx, Stp [] G H G1 H1 → H z = none → Own G1 H1 z (.ins C dx []) → A vs G1 → sp (.ref z :: vs) H1 (fun v H2 => v = .non ∧ WS X rest D (σ.set i (some (.ref z))) H2) C8.E0) (hk : k + 1 ≤ j := by decide) (hg : Gl X x := by rfl)
    (hi : X.N[i]? = some y := by rfl) (hx : Loc X.env.scope y := by first | exact Or.inl rfl | exact Or.inr rfl) (hs : swapsWith (.Call (.Name x pp) (e :: es) [] pos) (some (.Name y pos')) apos.line X.env = pure false := by rfl) (hf : X.fn y = true ∨ X.env.scope.names.lookup y = some .local := by first | exact .inl rfl | exact .inr rfl | assumption)
    (hdb : (x == ("__debug__" : Str)) = false := by decide) (he : starEach (e :: es) X.env = (false, eval e X.env) :: starEach es X.env := by rfl) (hpl : (backTo pos (starEach es X.env)).any (·.1) = false := by rfl) : WS X (.Assign [.Name y pos'] (.Call (.Name x pp) (e :: es) [] pos) apos :: rest) D σ H :=
  ws_cons ⟨_, ps_set hN hi hx (C8.pe_mk c hr hk hg (pa_self _) hdb he hpl) hs hf, ha H _ ex fun vs G1 H1 s1 a z dx hz hdx hne => by
    have hzd : L2.upd H1 dx (.own z) z = none := by rw [upd_ne (Ne.symm hne)]; exact hz
    have st : Stp [] G H G1 (L2.upd (L2.upd H1 dx (.own z)) z (.ins C dx [])) := by
      have s2 : Stp [] G1 H1 G1 (L2.upd H1 dx (.own z)) := Stp.newO s1.i hdx
      exact (s1.trans s2).trans (Stp.newO s2.i hzd)
    rw [List.append_nil]
    exact kk vs G1 _ z dx st (s1.fresh hz) ⟨upd_same, s1.i.none hz⟩ a⟩
end
end PG

/-! part M2 -/
set_option Elab.async false
set_option linter.all false
set_option maxRecDepth 100000
set_option maxHeartbeats 4000000
/-! TK: search in breadth, as plain lists. -/
namespace TK
open PySem PySem.Spec PyProof.Rows L2 PG
abbrev Hp' : Type := List Int
abbrev Succ : Type := Hp' → List (Str × Hp')
abbrev Fnd : Type := List (Hp' × List Str)
def heapsOf (f : Fnd) : List Hp' := f.map (·.1)
def addS (row : List Str) (f : Fnd) (s : Str × Hp') : Fnd := if s.2 ∈ heapsOf f then f else f ++ [(s.2, row ++ [s.1])]
def stepS (succ : Succ) (f : Fnd) (i : Nat) : Fnd := match f[i]? with
  | none => f
  | some p => (succ p.1).foldl (addS p.2) f
def st (succ : Succ) (b : Hp') : Nat → Fnd
  | 0 => [(b, [])]
  | n + 1 => stepS succ (st succ b n) n
theorem heapsOf_app (f g : Fnd) : heapsOf (f ++ g) = heapsOf f ++ heapsOf g := List.map_append ..
theorem addS_pre (row : List Str) (f : Fnd) (s : Str × Hp') : f <+: addS row f s := by
  unfold addS
  split
  · exact List.prefix_refl _
  · exact List.prefix_append _ _
theorem foldS_pre (row : List Str) : ∀ (l : List (Str × Hp')) (f : Fnd), f <+: l.foldl (addS row) f
  | [], f => List.prefix_refl _
  | s :: l, f => (addS_pre row f s).trans (foldS_pre row l _)
theorem stepS_pre (succ : Succ) (f : Fnd) (i : Nat) : f <+: stepS succ f i := by
  unfold stepS
  split
  · exact List.prefix_refl _
  · exact foldS_pre _ _ _
section
variable {succ : Succ} {b : Hp'}
theorem st_pre {i j : Nat} (h : i ≤ j) : st succ b i <+: st succ b j := by
  induction j with
  | zero =>
    obtain rfl : i = 0 := by omega
    exact List.prefix_refl _
  | succ j ih =>
    by_cases e : i = j + 1
    · subst e
      exact List.prefix_refl _
    · exact (ih (by omega)).trans (stepS_pre _ _ _)
theorem addS_nd {row : List Str} {f : Fnd} {s : Str × Hp'} (h : (heapsOf f).Nodup) : (heapsOf (addS row f s)).Nodup := by
  unfold addS
  split
  · exact h
  · rename_i hn
    rw [heapsOf_app, List.nodup_append]
    refine ⟨h, by simp [heapsOf], fun x hx y hy => ?_⟩
    have : y = s.2 := by simpa [heapsOf] using hy
    rw [this]
    exact fun e => hn (e ▸ hx)
theorem foldS_nd {row : List Str} : ∀ {l : List (Str × Hp')} {f : Fnd}, (heapsOf f).Nodup → (heapsOf (l.foldl (addS row) f)).Nodup
  | [], _, h => h
  | s :: l, f, h => by
    rw [List.foldl_cons]
    exact foldS_nd (l := l) (addS_nd h)
theorem st_nd : ∀ n, (heapsOf (st succ b n)).Nodup
  | 0 => by simp [st, heapsOf]
  | n + 1 => by
    show (heapsOf (stepS succ (st succ b n) n)).Nodup
    unfold stepS
    split
    · exact st_nd n
    · exact foldS_nd (st_nd n)
/-- what holds of the start and is kept holds of all -/
theorem foldS_all {P : Hp' → Prop} {row : List Str} : ∀ {l : List (Str × Hp')} {f : Fnd}, (∀ h ∈ heapsOf f, P h) → (∀ s ∈ l, P s.2) → ∀ h ∈ heapsOf (l.foldl (addS row) f), P h
  | [], _, h, _ => h
  | s :: l, f, h, hl => foldS_all (l := l) (fun x hx => by
      unfold addS at hx
      split at hx
      · exact h x hx
      · rw [heapsOf_app, List.mem_append] at hx
        rcases hx with hx | hx
        · exact h x hx
        · have : x = s.2 := by simpa [heapsOf] using hx
          rw [this]
          exact hl s (List.mem_cons_self ..)) fun t ht => hl t (List.mem_cons_of_mem _ ht)
theorem st_all {P : Hp' → Prop} (h0 : P b) (hs : ∀ h, P h → ∀ s ∈ succ h, P s.2) : ∀ n, ∀ h ∈ heapsOf (st succ b n), P h
  | 0 => fun h hh => by
    have : h = b := by simpa [st, heapsOf] using hh
    rw [this]
    exact h0
  | n + 1 => by
    show ∀ h ∈ heapsOf (stepS succ (st succ b n) n), P h
    unfold stepS
    have ih := st_all h0 hs n
    split
    · exact ih
    · rename_i p hp
      exact foldS_all ih (hs p.1 (ih _ (List.mem_map_of_mem (List.mem_of_getElem? hp))))
/-- the search ends: L heaps -/
structure Ends' (succ : Succ) (b : Hp') (L : Nat) : Prop where
  len : (st succ b L).length = L
theorem Ends'.le {L i : Nat} (e : Ends' succ b L) (h : i ≤ L) : (st succ b i).length ≤ L := by
  have := (st_pre (succ := succ) (b := b) h).length_le
  rw [e.len] at this
  exact this
theorem st_stop {i : Nat} (h : (st succ b i).length = i) : ∀ j, i ≤ j → st succ b j = st succ b i
  | 0, hj => by
    obtain rfl : i = 0 := by omega
    rfl
  | j + 1, hj => by
    by_cases e : i = j + 1
    · rw [e]
    · have ih := st_stop h j (by omega)
      show stepS succ (st succ b j) j = _
      unfold stepS
      rw [ih, List.getElem?_eq_none (by omega)]
theorem Ends'.done {L i : Nat} (e : Ends' succ b L) (hi : i ≤ L) (h : (st succ b i).length = i) : i = L := by
  have := st_stop h L hi
  have h2 := e.len
  rw [this, h] at h2
  exact h2
theorem addS_mem {row : List Str} {f : Fnd} {s : Str × Hp'} : s.2 ∈ heapsOf (addS row f s) := by
  unfold addS
  split
  · assumption
  · rw [heapsOf_app]
    simp [heapsOf]
theorem heapsOf_pre {f g : Fnd} (h : f <+: g) : heapsOf f <+: heapsOf g := h.map _
theorem foldS_mem {row : List Str} : ∀ {l : List (Str × Hp')} {f : Fnd} {s : Str × Hp'}, s ∈ l → s.2 ∈ heapsOf (l.foldl (addS row) f)
  | t :: l, f, s, h => by
    rcases List.mem_cons.mp h with rfl | h
    · exact (heapsOf_pre (foldS_pre row l _)).subset addS_mem
    · exact foldS_mem (l := l) h
theorem st_closed : ∀ n j p, j < n → (st succ b n)[j]? = some p → ∀ s ∈ succ p.1, s.2 ∈ heapsOf (st succ b n)
  | n + 1, j, p, hj, hp, s, hs => by
    have pre : st succ b n <+: st succ b (n + 1) := stepS_pre _ _ _
    have hlen : ∀ q, (st succ b n)[j]? = some q → q = p := fun q hq => by
      obtain ⟨t, ht⟩ := pre
      rw [← ht, List.getElem?_append_left (List.getElem?_eq_some_iff.mp hq).1, hq] at hp
      exact Option.some.inj hp
    by_cases e : j = n
    · subst e
      have hx : (st succ b (j + 1)) = stepS succ (st succ b j) j := rfl
      rw [hx]
      unfold stepS
      cases hq : (st succ b j)[j]? with
      | none =>
        rw [hx] at hp
        unfold stepS at hp
        rw [hq] at hp
        simp only at hp
        rw [hq] at hp
        cases hp
      | some q =>
        rw [hlen q hq]
        exact foldS_mem hs
    · cases hq : (st succ b n)[j]? with
      | none =>
        have hq' := List.getElem?_eq_none_iff.mp hq
        have hx : (st succ b (n + 1)) = st succ b n := by
          show stepS succ (st succ b n) n = _
          unfold stepS
          rw [List.getElem?_eq_none (by omega)]
        rw [hx, hq] at hp
        cases hp
      | some q =>
        have := st_closed n j q (by omega) hq s (by rw [hlen q hq]; exact hs)
        exact (heapsOf_pre pre).subset this
theorem Ends'.closed {L : Nat} (e : Ends' succ b L) : ∀ h ∈ heapsOf (st succ b L), ∀ s ∈ succ h, s.2 ∈ heapsOf (st succ b L) := fun h hh s hs => by
  obtain ⟨p, hp, rfl⟩ := List.mem_map.mp hh
  obtain ⟨j, hj, ej⟩ := List.mem_iff_getElem.mp hp
  exact st_closed L j p (by rw [e.len] at hj; exact hj) (by rw [List.getElem?_eq_getElem hj, ej]) s hs
theorem begin_mem (n : Nat) : b ∈ heapsOf (st succ b n) := (heapsOf_pre (st_pre (Nat.zero_le n))).subset (by simp [st, heapsOf])
/-! ### two searches side by side -/
variable {succ' : Succ} {φ : Hp' → Hp'}
def mapF (φ : Hp' → Hp') (f : Fnd) : Fnd := f.map fun p => (φ p.1, p.2)
theorem heapsOf_mapF (f : Fnd) : heapsOf (mapF φ f) = (heapsOf f).map φ := by
  unfold heapsOf mapF
  rw [List.map_map, List.map_map]
  rfl
theorem addS_map (inj : ∀ x y, φ x = φ y → x = y) (row : List Str) (f : Fnd) (s : Str × Hp') : addS row (mapF φ f) (s.1, φ s.2) = mapF φ (addS row f s) := by
  have e : φ s.2 ∈ heapsOf (mapF φ f) ↔ s.2 ∈ heapsOf f := by
    rw [heapsOf_mapF, List.mem_map]
    exact ⟨fun ⟨x, hx, e⟩ => inj _ _ e ▸ hx, fun h => ⟨_, h, rfl⟩⟩
  unfold addS
  by_cases h : s.2 ∈ heapsOf f
  · rw [if_pos h, if_pos (e.mpr h)]
  · rw [if_neg h, if_neg (fun z => h (e.mp z))]
    unfold mapF
    rw [List.map_append]
    rfl
theorem foldS_map (inj : ∀ x y, φ x = φ y → x = y) (row : List Str) : ∀ (l : List (Str × Hp')) (f : Fnd), (l.map fun s => (s.1, φ s.2)).foldl (addS row) (mapF φ f) = mapF φ (l.foldl (addS row) f)
  | [], _ => rfl
  | s :: l, f => by
    rw [List.map_cons, List.foldl_cons, List.foldl_cons, addS_map inj, foldS_map inj row l]
theorem st_map (inj : ∀ x y, φ x = φ y → x = y) : ∀ n, (∀ h ∈ heapsOf (st succ b n), succ' (φ h) = (succ h).map fun s => (s.1, φ s.2)) → st succ' (φ b) n = mapF φ (st succ b n)
  | 0, _ => rfl
  | n + 1, hs => by
    have ih := st_map inj n fun h hh => hs h ((heapsOf_pre (stepS_pre _ _ _)).subset hh)
    show stepS succ' (st succ' (φ b) n) n = mapF φ (stepS succ (st succ b n) n)
    rw [ih]
    unfold stepS
    have e : (mapF φ (st succ b n))[n]? = ((st succ b n)[n]?).map fun p => (φ p.1, p.2) := List.getElem?_map ..
    rw [e]
    cases hq : (st succ b n)[n]? with
    | none => rfl
    | some p =>
      simp only [Option.map_some]
      rw [hs p.1 ((heapsOf_pre (stepS_pre _ _ _)).subset (List.mem_map_of_mem (List.mem_of_getElem? hq))), foldS_map inj]
theorem mapF_length (f : Fnd) : (mapF φ f).length = f.length := List.length_map ..
end
/-! ### of a net -/
def succN (N : Net) : Succ := fun h => (N.firings.filter (canF N h)).map fun f => (f.name, fire N h f)
end TK

/-! part F8 -/
set_option Elab.async false
set_option linter.all false
set_option maxRecDepth 100000
set_option maxHeartbeats 4000000
namespace TK
open PySem PySem.Spec PyProof.Rows L2 PG
variable {P : Program} {w : World} {K : PySem.W.Frag} {mg : Str → Option Value} {base : Heap}
/-! ### the search in breadth -/
def rowD (row : List Str) : PyData := .list (row.map .str)
def stepD (N : Net) (F : List Hp') (h : Hp') : PyData := .list ((succN N h).map fun s => .tuple [.str s.1, .int (F.idxOf s.2 : Nat)])
abbrev keyI (h : Hp') : List Key := h.map Sum.inl
theorem keyI_inj {h g : Hp'} (e : keyI h = keyI g) : h = g := (List.map_inj_right (fun _ _ e => Sum.inl.inj e)).mp e
/-- the numbers of the heaps found -/
structure NumT (F hs : List Hp') (kvs : List (List Key × V)) : Prop where
  len : kvs.length = hs.length
  is : ∀ h ∈ hs, valV kvs (keyI h) = some (.int (F.idxOf h : Nat))
  no : ∀ h, h ∉ hs → valV kvs (keyI h) = none
theorem NumT.put {F hs : List Hp'} {kvs : List (List Key × V)} {h : Hp'} (a : NumT F hs kvs) (hn : h ∉ hs) (hF : F.idxOf h = hs.length) : NumT F (hs ++ [h]) (putK kvs (keyI h) (.int (hs.length : Nat))) := by
  refine ⟨?_, fun g hg => ?_, fun g hg => ?_⟩
  · rw [putK_new _ (a.no h hn), List.length_append, List.length_append, a.len] <;> rfl
  · rw [valV_put]
    by_cases e : g = h
    · subst e
      rw [if_pos rfl, hF]
    · rw [if_neg fun z => e (keyI_inj z)]
      refine a.is g ?_
      rw [List.mem_append] at hg
      exact hg.resolve_right fun z => e (by simpa using z)
  · rw [List.mem_append, not_or] at hg
    rw [valV_put, if_neg fun z => hg.2 (by simp [keyI_inj z])]
    exact a.no g hg.1
theorem NumT.get {F hs : List Hp'} {kvs : List (List Key × V)} (a : NumT F hs kvs) (h : Hp') : (valV kvs (keyI h)).isSome = decide (h ∈ hs) := by
  by_cases e : h ∈ hs
  · rw [a.is h e]
    simp [e]
  · rw [a.no h e]
    simp [e]
/-- the search as it stands: what was found, how many rows of steps are laid -/
structure SS (N : Net) (F : List Hp') (f : Fnd) (n : Nat) (G H : Hp) (a b c d : Addr) (hs rs ss : List V) (kvs : List (List Key × V)) : Prop where
  oa : Own G H a (.lst hs)
  ob : Own G H b (.dT kvs)
  oc : Own G H c (.lst rs)
  od : Own G H d (.lst ss)
  phs : Paired (Rp G) hs ((heapsOf f).map tI)
  pks : NumT F (heapsOf f) kvs
  prs : Paired (Rp G) rs (f.map fun p => rowD p.2)
  pss : Paired (Rp G) ss ((F.take n).map (stepD N F))
  ab : a ≠ b
  ac : a ≠ c
  ad : a ≠ d
  bc : b ≠ c
  bd : b ≠ d
  cd : c ≠ d
theorem SS.step {N : Net} {F : List Hp'} {f : Fnd} {n : Nat} {G H G' H' : Hp} {a b c d : Addr} {hs rs ss : List V} {kvs : List (List Key × V)} (x : SS N F f n G H a b c d hs rs ss kvs) (s : Stp [] G H G' H') : SS N F f n G' H' a b c d hs rs ss kvs :=
  ⟨x.oa.step0 s, x.ob.step0 s, x.oc.step0 s, x.od.step0 s, Rp.monoAll s.g _ _ x.phs, x.pks, Rp.monoAll s.g _ _ x.prs, Rp.monoAll s.g _ _ x.pss, x.ab, x.ac, x.ad, x.bc, x.bd, x.cd⟩
theorem SS.frz {N : Net} {F : List Hp'} {f : Fnd} {n : Nat} {G H : Hp} {a b c d t : Addr} {o : HO} {hs rs ss : List V} {kvs : List (List Key × V)} (x : SS N F f n G H a b c d hs rs ss kvs) (w : Own G H t o) (h : a ≠ t ∧ b ≠ t ∧ c ≠ t ∧ d ≠ t) : SS N F f n (upd G t o) H a b c d hs rs ss kvs :=
  ⟨x.oa.frz h.1, x.ob.frz h.2.1, x.oc.frz h.2.2.1, x.od.frz h.2.2.2, Rp.monoAll w.exG _ _ x.phs, x.pks, Rp.monoAll w.exG _ _ x.prs, Rp.monoAll w.exG _ _ x.pss, x.ab, x.ac, x.ad, x.bc, x.bd, x.cd⟩
/-- a thing of another place changed -/
theorem SS.oth {N : Net} {F : List Hp'} {f : Fnd} {n : Nat} {G H : Hp} {a b c d t : Addr} {o : HO} {hs rs ss : List V} {kvs : List (List Key × V)} (x : SS N F f n G H a b c d hs rs ss kvs) (h : a ≠ t ∧ b ≠ t ∧ c ≠ t ∧ d ≠ t) : SS N F f n G (upd H t o) a b c d hs rs ss kvs :=
  ⟨x.oa.other h.1, x.ob.other h.2.1, x.oc.other h.2.2.1, x.od.other h.2.2.2, x.phs, x.pks, x.prs, x.pss, x.ab, x.ac, x.ad, x.bc, x.bd, x.cd⟩
abbrev flS (vl : V) (m : Int) (a b c d : Addr) : List (Str × V) := [("look", vl), ("most", .int m), ("heaps", .ref a), ("numbers", .ref b), ("rows", .ref c), ("steps", .ref d)]
/-- the object -/
def SearchO (K : PySem.W.Frag) (N : Net) (G : Hp) (q : Addr) (m : Int) (a b c d : Addr) : Prop := ∃ dx vl, G q = some (.ins (He.ga K "Search") dx (flS vl m a b c d)) ∧ LookR K N vl G
theorem SearchO.mono {N : Net} {G G' : Hp} {q a b c d : Addr} {m : Int} (e : Ex G G') (h : SearchO K N G q m a b c d) : SearchO K N G' q m a b c d := by
  obtain ⟨dx, vl, h1, h2⟩ := h
  exact ⟨dx, vl, e _ _ h1, MonoR.mono _ _ _ e h2⟩
def wD : Option Hp' → PyData
  | none => .none
  | some h => tI h
theorem eqv_ints : ∀ x y : List Int, PyData.eqvAll (x.map .int) (y.map .int) = decide (x = y)
  | [], [] => by simp [PyData.eqvAll]
  | [], _ :: _ => by simp [PyData.eqvAll]
  | _ :: _, [] => by simp [PyData.eqvAll]
  | a :: x, b :: y => by
    rw [List.map_cons, List.map_cons, PyData.eqvAll, eqv_ints x y, PyData.eqv]
    by_cases e1 : a = b <;> by_cases e2 : x = y <;> simp [e1, e2]
theorem eqv_tI (x y : List Int) : PyData.eqv (tI x) (tI y) = decide (x = y) := by
  rw [PyData.eqv, eqv_ints]
theorem eqv_wD (x : Hp') (w : Option Hp') : PyData.eqv (tI x) (wD w) = decide (w = some x) := by
  cases w with
  | none => simp [wD, PyData.eqv]
  | some y =>
    rw [wD, eqv_tI]
    by_cases e : x = y
    · simp [e]
    · have : ¬ y = x := fun z => e z.symm
      simp [e, this]
theorem shp_wD : ∀ w : Option Hp', shp 1 (wD w)
  | none => ⟨by rw [wD, PyData.canLay0], by rw [wD, PyData.depth]; exact Nat.zero_le _⟩
  | some h => shp_tI h
/-- what the search is over -/
structure Sea (N : Net) (L : Nat) : Prop where
  W : Wf N
  e : Ends' (succN N) N.begin L
  le : L ≤ 40
abbrev stN (N : Net) (i : Nat) : Fnd := st (succN N) N.begin i
abbrev finN (N : Net) (L : Nat) : List Hp' := heapsOf (stN N L)
theorem Sea.hip {N : Net} {L : Nat} (S : Sea N L) (n : Nat) : ∀ h ∈ heapsOf (stN N n), Hip N h :=
  st_all (P := Hip N) (begin_hip S.W) (fun h hh s hs => by
    obtain ⟨f, hf, rfl⟩ := List.mem_map.mp hs
    rw [List.mem_filter] at hf
    exact fire_hip S.W hh hf.1 hf.2) n
theorem heapsOf_length (f : Fnd) : (heapsOf f).length = f.length := List.length_map ..
theorem pre_get {α : Type} {l m : List α} (h : l <+: m) {i : Nat} {x : α} (e : l[i]? = some x) : m[i]? = some x := by
  obtain ⟨t, rfl⟩ := h
  rw [List.getElem?_append_left (List.getElem?_eq_some_iff.mp e).1, e]
theorem idx_of {α : Type} [BEq α] [LawfulBEq α] {l : List α} (hn : l.Nodup) {i : Nat} {x : α} (h : l[i]? = some x) : l.idxOf x = i := by
  obtain ⟨hl, e⟩ := List.getElem?_eq_some_iff.mp h
  have h1 : l.idxOf x < l.length := List.idxOf_lt_length_iff.mpr (List.mem_of_getElem? h)
  have h2 : l[l.idxOf x] = x := List.getElem_idxOf h1
  exact (List.getElem_inj hn).mp (h2.trans e.symm)
theorem foldS_rows {n : Nat} {row : List Str} (hr : row.length ≤ n) : ∀ {l : List (Str × Hp')} {f : Fnd}, (∀ p ∈ f, p.2.length ≤ n + 1) → ∀ p ∈ l.foldl (addS row) f, p.2.length ≤ n + 1
  | [], _, h => h
  | s :: l, f, h => foldS_rows hr (l := l) fun p hp => by
    unfold addS at hp
    split at hp
    · exact h p hp
    · rw [List.mem_append] at hp
      rcases hp with hp | hp
      · exact h p hp
      · obtain rfl : p = (s.2, row ++ [s.1]) := by simpa using hp
        simp only [List.length_append, List.length_cons, List.length_nil]
        omega
theorem st_rows {succ : Succ} {b : Hp'} : ∀ n, ∀ p ∈ st succ b n, p.2.length ≤ n
  | 0 => fun p hp => by
    obtain rfl : p = (b, []) := by simpa [st] using hp
    exact Nat.le_refl _
  | n + 1 => by
    show ∀ p ∈ stepS succ (st succ b n) n, _
    unfold stepS
    have ih := st_rows (succ := succ) (b := b) n
    split
    · exact fun p hp => Nat.le_succ_of_le (ih p hp)
    · rename_i q hq
      exact foldS_rows (ih q (List.mem_of_getElem? hq)) fun p hp => Nat.le_succ_of_le (ih p hp)
def GoSp (K : PySem.W.Frag) (N : Net) (L : Nat) (wanted : Option Hp') : Sp := fun vs H Q _ => ∃ G q a b c d i wv m hs rs ss kvs, vs = [.ref q, wv] ∧ Ex G H ∧ SearchO K N G q m a b c d ∧ (40 < m) ∧ Rp G wv (wD wanted) ∧ SS N (finN N L) (stN N i) i G H a b c d hs rs ss kvs ∧ i < (stN N i).length ∧ i < L ∧
  ∀ G' H' f n hs rs ss kvs, Stp [a, b, c, d] G H G' H' → SS N (finN N L) f n G' H' a b c d hs rs ss kvs → ((f = stN N (i + 1) ∧ n = i + 1) ∨ (∃ h, wanted = some h ∧ h ∈ heapsOf f ∧ f <+: stN N L)) → Q .non H'

theorem bd_go0 {fd : FuncData} {f : Addr} (F : FunD K "go_on" "Search.go_on" (defArgs s_Search_go_on) (defBody s_Search_go_on) (defScope s_Search_go_on) [.non] [] f fd) : ∃ ds, Vals [.non] ds ∧ Binds K fd ["self", "wanted"] ds :=
  F.binds1 1 0 (by simp) rfl fun T kV doc pm an cdv ct us its h1 h2 => match us, its, h1, h2 with
    | [_], [_], _, _ => ⟨_, rfl, rfl⟩
theorem bd_go1 {fd : FuncData} {f : Addr} (F : FunD K "go_on" "Search.go_on" (defArgs s_Search_go_on) (defBody s_Search_go_on) (defScope s_Search_go_on) [.non] [] f fd) : ∃ ds, Vals [] ds ∧ Binds K fd ["self", "wanted"] ds :=
  F.binds1 2 1 (by simp) rfl fun T kV doc pm an cdv ct us its h1 h2 => match us, its, h1, h2 with
    | [_, _], [_], _, _ => ⟨_, rfl, rfl⟩
theorem paired_get' {F : V → PyData → Prop} {xs : List V} {ds : List PyData} {i : Nat} {d : PyData} (h : Paired F xs ds) (e : ds[i]? = some d) : ∃ x, xs[i]? = some x ∧ F x d := Paired.get h e
theorem paired_self {G : Hp} : ∀ l : List Str, Paired (fun (x : V) (z : Str) => Rp G x (.str z)) (l.map V.str) l
  | [] => .nil
  | z :: l => .cons (.str z) (paired_self l)
theorem body_go {N : Net} {L : Nat} {wanted : Option Hp'} (E : Env K mg) (S : Sea N L) : BodyG P w K mg base N_Search_go_on "Search.go_on" s_Search_go_on (He.fAd K ("Search", some "go_on")) 2 (GoSp K N L wanted) :=
  fun cdv A outer s H vs Q E' hr ⟨G, q, a, b, c, d, i, wv, m, hs, rs, ss, kvs, e, ex, ⟨dx, vl, hq, lk⟩, hm, rw', SS0, hi, hiL, k⟩ => by
    subst e
    have lk' := lk
    obtain ⟨ql, ldx, lfs, rfl, hql, lv3, lv4, lv5, lv6, lv7, lv8, rfl, _⟩ := lk'
    have Flen : (finN N L).length = L := by rw [heapsOf_length, S.e.len]
    have prei : stN N i <+: stN N L := st_pre (by omega)
    have sslen : ss.length = i := by
      rw [Paired.length SS0.pss, List.length_map, List.length_take, Flen]
      omega
    obtain ⟨p, hp⟩ : ∃ p, (stN N i)[i]? = some p := ⟨_, List.getElem?_eq_getElem hi⟩
    have hph : (heapsOf (stN N i))[i]? = some p.1 := by
      unfold heapsOf
      rw [List.getElem?_map, hp]
      rfl
    obtain ⟨vh, hvh, rvh⟩ := paired_get' (d := tI p.1) SS0.phs (by rw [List.getElem?_map, hph]; rfl)
    obtain ⟨vr, hvr, rvr⟩ := paired_get' (d := rowD p.2) SS0.prs (by rw [List.getElem?_map, hp]; rfl)
    have hip : Hip N p.1 := S.hip i _ (List.mem_of_getElem? hph)
    -- at, heap, found
    refine ws_set (i := 2) (G := upd G d (.lst ss)) (R := RD (.int ss.length)) sc_Search_go_on.nd (ed_lenV (ee_fld (R := RV (.ref d)) (ee_var (i := 0) rfl rfl) (SS0.od.exG _ _ hq) E.c_Search E.n_Search_steps rfl rfl) upd_same E.b_len) (SS0.od.exU ex) fun v G1 H1 s1 r1 => ?_
    rw [Rp.int_eq r1, sslen]
    have s1' := Stp.weak SS0.od.exG s1
    have SS1 := SS0.step s1'
    refine ws_set (i := 3) (G := upd G a (.lst hs)) (R := RV vh) sc_Search_go_on.nd (ee_ixL (i := (i : Int)) (ee_fld (R := RV (.ref a)) (ee_var (i := 0) rfl rfl) (SS1.oa.exG _ _ hq) E.c_Search E.n_Search_heaps rfl rfl) upd_same (ee_var (i := 2) rfl (.int _)) (L2.atI_nat hvh) rfl) (SS1.oa.exU s1'.i) fun v G2 H2 s2 r2 => ?_
    rw [show v = vh from r2]
    have s2' := Stp.weak SS1.oa.exG s2
    have s02 := s1'.trans s2'
    have SS2 := SS1.step s2'
    refine ws_setN (i := 4) sc_Search_go_on.nd en_lst0 s2'.i fun t o G3 H3 s3 ht w3 ho => ?_
    subst ho
    have s03 := s02.trans s3
    have ht0 : H t = none := s02.ex.none ht
    have SS3 := SS2.step s3
    have dist : a ≠ t ∧ b ≠ t ∧ c ≠ t ∧ d ≠ t := ⟨SS2.oa.ne2 ht, SS2.ob.ne2 ht, SS2.oc.ne2 ht, SS2.od.ne2 ht⟩
    have hq3 := s3.g _ _ hq
    have rvh3 := Rp.mono s3.g _ _ rvh
    -- the loop
    refine ws_forS (S := [a, b, c, d]) (Y := YD ((N.firings.filter (canF N p.1)).map fun f => .str f.name)) (ei_list (ee_mcal (ok_can E S.W hip.len) hr (ee_fld (R := RV (.ref ql)) (ee_var (i := 0) rfl rfl) hq3 E.c_Search E.n_Search_look rfl rfl) (s3.g _ _ hql) rfl (MonoR.mono _ _ _ s3.g lk) (ea1 (ee_var (i := 3) rfl rvh3)))) PassesOwn.never rfl s03.any
      (fun j σ' G' H' => ∃ o5 o6 hs rs kvs es, σ' = [some (.ref q), some wv, some (.int i), some vh, some (.ref t), o5, o6] ∧ SS N (finN N L) (((succN N p.1).take j).foldl (addS p.2) (stN N i)) i G' H' a b c d hs rs ss kvs ∧ Own G' H' t (.lst es) ∧ Paired (Rp G') es (((succN N p.1).take j).map fun s => .tuple [.str s.1, .int ((finN N L).idxOf s.2 : Nat)]))
      (fun G4 H4 s4 => ⟨_, _, _, _, _, [], rfl, SS3.step s4, w3.step0 s4, .nil⟩) ?_ ?_
    · rintro G1' eg j σ' G4' H4' G4 H4 x hj e4 s4 ⟨o5, o6, hs4, rs4, kvs4, es, rfl, SS4', w4', pes'⟩ s5 ⟨d', hd, rd⟩
      rw [List.getElem?_map] at hd
      obtain ⟨f, hf, rfl⟩ := Option.map_eq_some_iff.mp hd
      have hfm : f ∈ N.firings := (List.mem_filter.mp (List.mem_of_getElem? hf)).1
      have hsj : (succN N p.1)[j]? = some (f.name, fire N p.1 f) := by
        unfold succN
        rw [List.getElem?_map, hf]
        rfl
      have SS4 := SS4'.step s5
      have w4 := w4'.step0 s5
      have pes := Rp.monoAll s5.g _ _ pes'
      generalize hfj : ((succN N p.1).take j).foldl (addS p.2) (stN N i) = fj at SS4
      have egG : Ex G3 G4 := eg.trans e4
      have hq4 := egG _ _ hq3
      have hfj1 : ((succN N p.1).take (j + 1)).foldl (addS p.2) (stN N i) = addS p.2 fj (f.name, fire N p.1 f) := by rw [fold_take _ _ hsj, hfj]
      -- what is found stays within the last
      have preF : addS p.2 fj (f.name, fire N p.1 f) <+: stN N L := by
        rw [← hfj1]
        have h1 : (succN N p.1).take (j + 1) ++ (succN N p.1).drop (j + 1) = succN N p.1 := List.take_append_drop ..
        have h2 : stN N (i + 1) = (succN N p.1).foldl (addS p.2) (stN N i) := by
          show stepS _ _ _ = _
          unfold stepS
          rw [hp]
        have h3 : ((succN N p.1).take (j + 1)).foldl (addS p.2) (stN N i) <+: stN N (i + 1) := by
          rw [h2, ← h1, List.foldl_append, h1]
          exact foldS_pre _ _ _
        exact h3.trans (st_pre (by omega))
      have lenF : (addS p.2 fj (f.name, fire N p.1 f)).length ≤ L := by
        have := preF.length_le
        rw [S.e.len] at this
        exact this
      have lenfj : fj.length ≤ 40 := Nat.le_trans (addS_pre _ _ _).length_le (Nat.le_trans lenF S.le)
      have hslen : hs4.length = fj.length := by rw [Paired.length SS4.phs, List.length_map, heapsOf_length]
      have eslen : es.length ≤ 60 := by
        rw [Paired.length pes, List.length_map, List.length_take]
        have h1 : (succN N p.1).length ≤ N.firings.length := by
          unfold succN
          rw [List.length_map]
          exact List.length_filter_le ..
        have := S.W.flen
        omega
      refine wg (eg_name (i := 5) sc_Search_go_on.nd) s4.i fun H5 s6 => ?_
      have s46 := s4.trans s6.any
      refine ws_set (i := 6) (R := RD (tI (fire N p.1 f))) sc_Search_go_on.nd (ee_mcal (ok_behind E S.W hfm hip.len) hr (ee_fld (R := RV (.ref ql)) (ee_var (i := 0) rfl rfl) hq4 E.c_Search E.n_Search_look rfl rfl) (egG _ _ (s3.g _ _ hql)) rfl (MonoR.mono _ _ _ (s3.g.trans egG) lk)
        (ea_cons (ee_var (i := 3) rfl (Rp.mono egG _ _ rvh3)) (ea1 (ee_var (i := 5) rfl rd)))) s6.i fun vb G6 H6 s7 r7 => ?_
      have s07 := s46.trans s7.any
      have SS6 := (SS4.step s6).step s7
      have w6 := (w4.step0 s6).step0 s7
      have pes6 := Rp.monoAll s7.g _ _ pes
      have hq6 := s7.g _ _ hq4
      have rx : x = .str f.name := Rp.str_eq rd
      have gB := s7.g
      -- the last statement
      have tail : ∀ (D : Ends), (∀ σ Hx, LI [a, b, c, d] G H G1' (fun j σ' G' H' => ∃ o5 o6 hs rs kvs es, σ' = [some (.ref q), some wv, some (.int i), some vh, some (.ref t), o5, o6] ∧ SS N (finN N L) (((succN N p.1).take j).foldl (addS p.2) (stN N i)) i G' H' a b c d hs rs ss kvs ∧ Own G' H' t (.lst es) ∧ Paired (Rp G') es (((succN N p.1).take j).map fun s => .tuple [.str s.1, .int ((finN N L).idxOf s.2 : Nat)])) (j + 1) σ Hx → D.nx σ Hx) → ∀ (G7 H7 : Hp) (hs7 rs7 : List V) (kvs7 : List (List Key × V)), Ex G6 G7 → Stp [a, b, c, d] G H G7 H7 → SS N (finN N L) (addS p.2 fj (f.name, fire N p.1 f)) i G7 H7 a b c d hs7 rs7 ss kvs7 → Own G7 H7 t (.lst es) →
          WS (XB P w K mg base N_Search_go_on "Search.go_on" (defScope s_Search_go_on) (He.fAd K ("Search", some "go_on")) cdv A outer s H E') [((defBody s_Search_go_on).getD 3 (.Pass ⟨0, 0, 0, 0⟩) |> fun | .For _ _ bd _ _ => bd.getD 2 (.Pass ⟨0, 0, 0, 0⟩) | z => z)]
            D
            [some (.ref q), some wv, some (.int i), some vh, some (.ref t), some x, some vb] H7 := fun D hD G7 H7 hs7 rs7 kvs7 e7 s7 SS7 w7 => by
        have hin : fire N p.1 f ∈ heapsOf (addS p.2 fj (f.name, fire N p.1 f)) := addS_mem (s := (f.name, fire N p.1 f))
        refine ws_appendN (G := upd G7 b (.dT kvs7)) (ee_var (i := 4) (v := .ref t) rfl rfl) (en_tup (A := ACons (RD (.str f.name)) (ACons (RD (.int ((finN N L).idxOf (fire N p.1 f) : Nat))) ANil)) (ea_cons (ee_var (i := 5) rfl (by rw [rx]; exact .str _))
          (ea1 (ee_dgetT (ns := fire N p.1 f) (ne_of_len S.W (fire_length hip.len)) hr (ee_fld (R := RV (.ref b)) (ee_var (i := 0) rfl rfl) (SS7.ob.exG _ _ (e7 _ _ hq6)) E.c_Search E.n_Search_numbers rfl rfl) upd_same (ee_var (i := 6) rfl (Rp.mono (e7.trans SS7.ob.exG) _ _ r7)) (SS7.pks.is _ hin) (.int _))))) (SS7.ob.exU s7.i) w7.h (by omega) fun u o G8 H8 s8 hu w8 ho => ?_
        obtain ⟨us, rfl, hus⟩ := ho
        obtain ⟨u1, u2, rfl, ru1, ru2⟩ := ACons.two hus
        have w8' : Own G7 H8 u (.tup [u1, u2]) := ⟨w8.h, (SS7.ob.exG.trans s8.g).none w8.g⟩
        have s8' := Stp.weak SS7.ob.exG s8
        have s9 := s8'.frz w8.h hu
        have dist8 : a ≠ u ∧ b ≠ u ∧ c ≠ u ∧ d ≠ u := ⟨SS7.oa.ne2 hu, SS7.ob.ne2 hu, SS7.oc.ne2 hu, SS7.od.ne2 hu⟩
        have SS8 := ((SS7.step s8').frz w8' dist8).oth (o := .lst (es ++ [.ref u])) dist
        have w9 := (w7.step0 s8').frz (o' := .tup [u1, u2]) (w7.ne2 hu)
        refine ws_nil (hD _ _ ⟨_, e4.trans (gB.trans (e7.trans s9.g)), (s7.trans s9.any).mut w9.g (.inl ht0), _, _, hs7, rs7, kvs7, _, rfl, ?_, w9.upd, ?_⟩)
        · rw [hfj1]
          exact SS8
        · rw [List.take_succ, hsj, List.map_append]
          refine Paired.app (Rp.monoAll (e7.trans s9.g) _ _ pes6) (.cons (.tup upd_same ?_) .nil)
          rw [Rp.str_eq ru1, Rp.int_eq ru2]
          exact .cons (.str _) (.cons (.int _) .nil)
      refine ws_if (G := upd G6 b (.dT kvs4)) (et_notInT (ns := fire N p.1 f) (kvs := kvs4) (ne_of_len S.W (fire_length hip.len)) hr (ee_var (i := 6) rfl (Rp.mono SS6.ob.exG _ _ r7)) (ee_fld (R := RV (.ref b)) (ee_var (i := 0) rfl rfl) (SS6.ob.exG _ _ hq6) E.c_Search E.n_Search_numbers rfl rfl) upd_same) (SS6.ob.exU s07.i) fun H7 s8 => ?_
      have s8' := Stp.weak SS6.ob.exG s8
      have s08 := s07.trans s8'.any
      have SS7 := SS6.step s8'
      have w7 := w6.step0 s8'
      rw [SS6.pks.get]
      by_cases hin : fire N p.1 f ∈ heapsOf fj
      · -- found before
        have e1 : addS p.2 fj (f.name, fire N p.1 f) = fj := if_pos hin
        rw [decide_eq_true hin]
        refine iteF (ws_nil ?_)
        exact tail _ (fun _ _ z => z) G6 H7 hs4 rs4 kvs4 (Ex.refl _) s08 (by rw [e1]; exact SS7) w7
      · have e1 : addS p.2 fj (f.name, fire N p.1 f) = fj ++ [(fire N p.1 f, p.2 ++ [f.name])] := if_neg hin
        rw [decide_eq_false hin]
        have lenb : fj.length < 40 := by
          have h1 := lenF
          rw [e1, List.length_append] at h1
          have h2 := S.le
          simp at h1
          omega
        have hidx : (finN N L).idxOf (fire N p.1 f) = fj.length := by
          refine idx_of (st_nd L) (pre_get (heapsOf_pre preF) ?_)
          rw [e1, heapsOf_app, List.getElem?_append_right (by rw [heapsOf_length]; exact Nat.le_refl _), heapsOf_length]
          simp [heapsOf]
        refine iteT (ws_skip (G := upd G6 a (.lst hs4)) (et_is (et_eq hr (ed_lenV (ee_fld (R := RV (.ref a)) (ee_var (i := 0) rfl rfl) (SS7.oa.exG _ _ hq6) E.c_Search E.n_Search_heaps rfl rfl) upd_same E.b_len) (ee_fld (R := RD (.int m)) (ee_var (i := 0) rfl rfl) (SS7.oa.exG _ _ hq6) E.c_Search E.n_Search_most rfl (.int _)) rfl rfl) ?_) (SS7.oa.exU s08.i) fun H8 s9 => ?_)
        · rw [hslen, PyData.eqv]
          have : ¬ ((fj.length : Int) = m) := by omega
          simpa using this
        have s9' := Stp.weak SS7.oa.exG s9
        have s09 := s08.trans s9'.any
        have SS8 := SS7.step s9'
        have w8 := w7.step0 s9'
        refine ws_dputTH (G := upd G6 a (.lst hs4)) (R := RD (.int hs4.length)) (ns := fire N p.1 f) (ne_of_len S.W (fire_length hip.len)) hr (ed_lenV (ee_fld (R := RV (.ref a)) (ee_var (i := 0) rfl rfl) (SS8.oa.exG _ _ hq6) E.c_Search E.n_Search_heaps rfl rfl) upd_same E.b_len) (ee_fld (R := RV (.ref b)) (ee_var (i := 0) rfl rfl) (SS8.oa.exG _ _ hq6) E.c_Search E.n_Search_numbers rfl rfl) (ee_var (i := 6) rfl (Rp.mono SS8.oa.exG _ _ r7)) (SS8.oa.exU s09.i) SS8.ob.h (by rw [SS8.pks.len, heapsOf_length]; omega) fun v G9 H9 s10 r10 => ?_
        rw [Rp.int_eq r10, hslen]
        have s10' := Stp.weak SS8.oa.exG s10
        have SS9 := SS8.step s10'
        have w9 := w8.step0 s10'
        have s010 := (s09.trans s10'.any).mut (o := .dT (putK kvs4 (keyI (fire N p.1 f)) (.int (fj.length : Nat)))) SS9.ob.g (.inr (by simp))
        -- append the heap
        refine ws_appendH (G := G6) (R := RV vb) (ee_fld (R := RV (.ref a)) (ee_var (i := 0) rfl rfl) hq6 E.c_Search E.n_Search_heaps rfl rfl) (ee_var (i := 6) rfl rfl) s010.i (SS9.oa.other (u := .dT (putK kvs4 (keyI (fire N p.1 f)) (.int (fj.length : Nat)))) SS9.ab).h (by rw [hslen]; omega) fun v G10 H10 s11 r11 => ?_
        rw [show v = vb from r11]
        have s11' := Stp.weak (Ex.refl _) s11
        have oa := ((SS9.oa.other (u := .dT (putK kvs4 (keyI (fire N p.1 f)) (.int (fj.length : Nat)))) SS9.ab).step0 s11').upd (o' := .lst (hs4 ++ [vb]))
        have ob := ((SS9.ob.upd (o' := .dT (putK kvs4 (keyI (fire N p.1 f)) (.int (fj.length : Nat))))).step0 s11').other (u := .lst (hs4 ++ [vb])) SS9.ab.symm
        have oc := ((SS9.oc.other (u := .dT (putK kvs4 (keyI (fire N p.1 f)) (.int (fj.length : Nat)))) SS9.bc.symm).step0 s11').other (u := .lst (hs4 ++ [vb])) SS9.ac.symm
        have od := ((SS9.od.other (u := .dT (putK kvs4 (keyI (fire N p.1 f)) (.int (fj.length : Nat)))) SS9.bd.symm).step0 s11').other (u := .lst (hs4 ++ [vb])) SS9.ad.symm
        have ot := ((w9.other (u := .dT (putK kvs4 (keyI (fire N p.1 f)) (.int (fj.length : Nat)))) dist.2.1.symm).step0 s11').other (u := .lst (hs4 ++ [vb])) dist.1.symm
        have s011 := (s010.trans s11'.any).mut (o := .lst (hs4 ++ [vb])) SS9.oa.g (.inr (by simp))
        -- append the row
        have rs4get : rs4[i]? = some vr ∨ True := .inr trivial
        have hrow : (fj.map fun p => rowD p.2)[i]? = some (rowD p.2) := by
          have h1 : stN N i <+: fj := by rw [← hfj]; exact foldS_pre _ _ _
          rw [List.getElem?_map, pre_get h1 hp]
          rfl
        obtain ⟨vr4, hvr4, rvr4⟩ := paired_get' SS9.prs hrow
        refine ws_appendN (G := upd G6 c (.lst rs4)) (ee_fld (R := RV (.ref c)) (ee_var (i := 0) rfl rfl) (oc.exG _ _ hq6) E.c_Search E.n_Search_rows rfl rfl)
          (en_addL (ds := p.2.map .str) (ds' := [.str f.name]) (ee_ixL (i := (i : Int)) (R := RD (rowD p.2)) (ee_fld (R := RV (.ref c)) (ee_var (i := 0) rfl rfl) (oc.exG _ _ hq6) E.c_Search E.n_Search_rows rfl rfl) upd_same (ee_var (i := 2) rfl (.int _)) (L2.atI_nat hvr4) (Rp.mono oc.exG _ _ rvr4)) (ed_lst (ad_cons (ee_var (i := 5) rfl (by rw [rx]; exact .str _)) ad_nil) (by simp)) ?_) (oc.exU s011.i) oc.h (by rw [Paired.length SS9.prs, List.length_map]; omega) fun u o G11 H11 s12 hu w12 ho => ?_
        · have := st_rows (succ := succN N) (b := N.begin) i p (List.mem_of_getElem? hp)
          have := S.le
          simp only [List.length_map, List.length_cons, List.length_nil]
          omega
        obtain ⟨us, rfl, hus⟩ := ho
        have eus : us = (p.2 ++ [f.name]).map V.str := by
          rw [← List.map_singleton, ← List.map_append] at hus
          exact strs_paired hus
        subst eus
        have s12' := Stp.weak oc.exG s12
        have w12' : Own G6 H11 u (.lst ((p.2 ++ [f.name]).map V.str)) := ⟨w12.h, (oc.exG.trans s12.g).none w12.g⟩
        have s13 := s12'.frz w12.h hu
        have oa2 := ((oa.step0 s12').frz (o' := .lst ((p.2 ++ [f.name]).map V.str)) (oa.ne2 hu)).other (u := .lst (rs4 ++ [.ref u])) SS9.ac
        have ob2 := ((ob.step0 s12').frz (o' := .lst ((p.2 ++ [f.name]).map V.str)) (ob.ne2 hu)).other (u := .lst (rs4 ++ [.ref u])) SS9.bc
        have oc2 := ((oc.step0 s12').frz (o' := .lst ((p.2 ++ [f.name]).map V.str)) (oc.ne2 hu)).upd (o' := .lst (rs4 ++ [.ref u]))
        have od2 := ((od.step0 s12').frz (o' := .lst ((p.2 ++ [f.name]).map V.str)) (od.ne2 hu)).other (u := .lst (rs4 ++ [.ref u])) SS9.cd.symm
        have ot2 := ((ot.step0 s12').frz (o' := .lst ((p.2 ++ [f.name]).map V.str)) (ot.ne2 hu)).other (u := .lst (rs4 ++ [.ref u])) dist.2.2.1.symm
        have s013 := (s011.trans s13.any).mut (o := .lst (rs4 ++ [.ref u])) oc2.g (.inr (by simp))
        have SSn : SS N (finN N L) (addS p.2 fj (f.name, fire N p.1 f)) i (upd G6 u (.lst ((p.2 ++ [f.name]).map V.str))) (upd H11 c (.lst (rs4 ++ [.ref u]))) a b c d (hs4 ++ [vb]) (rs4 ++ [.ref u]) ss (putK kvs4 (keyI (fire N p.1 f)) (.int (fj.length : Nat))) := by
          refine ⟨oa2, ob2, oc2, od2, ?_, ?_, ?_, Rp.monoAll s13.g _ _ SS9.pss, SS9.ab, SS9.ac, SS9.ad, SS9.bc, SS9.bd, SS9.cd⟩
          · have em : (heapsOf (addS p.2 fj (f.name, fire N p.1 f))).map tI = (heapsOf fj).map tI ++ [tI (fire N p.1 f)] := by
              rw [e1, heapsOf_app, List.map_append]
              rfl
            rw [em]
            exact Paired.app (Rp.monoAll s13.g _ _ SS9.phs) (.cons (Rp.mono s13.g _ _ r7) .nil)
          · rw [e1, heapsOf_app]
            have := SS9.pks.put hin (by rw [hidx, heapsOf_length])
            rw [heapsOf_length] at this
            exact this
          · have em : (addS p.2 fj (f.name, fire N p.1 f)).map (fun p => rowD p.2) = fj.map (fun p => rowD p.2) ++ [rowD (p.2 ++ [f.name])] := by
              rw [e1, List.map_append]
              rfl
            rw [em]
            refine Paired.app (Rp.monoAll s13.g _ _ SS9.prs) (.cons (.lst upd_same ?_) .nil)
            exact Paired.of_map_r (paired_self _)
        -- come to what is wanted?
        refine ws_if (et_eq hr (ee_var (i := 6) rfl (Rp.mono s13.g _ _ r7)) (ee_var (i := 1) rfl (Rp.mono ((((s03.g.trans egG).trans gB)).trans s13.g) _ _ rw')) (shp_tI _).of (shp_wD wanted).of) s013.i fun H12 s14 => ?_
        rw [eqv_wD]
        by_cases hw : wanted = some (fire N p.1 f)
        · rw [decide_eq_true hw]
          refine iteT (ws_retN (k _ _ _ _ _ _ _ _ (s013.trans s14.any) (SSn.step s14) (.inr ⟨_, hw, addS_mem (s := (f.name, fire N p.1 f)), preF⟩)))
        · rw [decide_eq_false hw]
          refine iteF (ws_nil (ws_nil ?_))
          exact tail _ (fun _ _ z => z) _ H12 _ _ _ s13.g (s013.trans s14.any) (SSn.step s14) (ot2.step0 s14)
    · rintro σ' G4 H4 e4 s4 ⟨o5, o6, hs4, rs4, kvs4, es, rfl, SS4, w4, pes⟩
      rw [List.length_map] at SS4 pes
      have hall : (succN N p.1).take (N.firings.filter (canF N p.1)).length = succN N p.1 := by
        rw [List.take_of_length_le]
        unfold succN
        rw [List.length_map]
        exact Nat.le_refl _
      rw [hall] at SS4 pes
      have hst : (succN N p.1).foldl (addS p.2) (stN N i) = stN N (i + 1) := by
        show _ = stepS _ _ _
        unfold stepS
        rw [hp]
      rw [hst] at SS4
      have s5 := s4.frz w4.h ht0
      have SS5 := SS4.frz w4 dist
      have e5 : Ex G3 (upd G4 t (.lst es)) := e4.trans w4.exG
      have hFi : (finN N L)[i]? = some p.1 := pre_get (heapsOf_pre prei) hph
      refine ws_appendH (G := upd G4 t (.lst es)) (R := RV (.ref t)) (ee_fld (R := RV (.ref d)) (ee_var (i := 0) rfl rfl) (e5 _ _ hq3) E.c_Search E.n_Search_steps rfl rfl) (ee_var (i := 4) rfl rfl) s5.i SS5.od.h (by have := S.le; omega) fun v G5 H5 s6 r6 => ?_
      rw [show v = .ref t from r6]
      have SS6 := SS5.step s6
      have s7 := (s5.trans s6.any).mut (o := .lst (ss ++ [.ref t])) SS6.od.g (.inr (by simp))
      refine ws_nil (k G5 _ (stN N (i + 1)) (i + 1) _ _ _ _ s7 ⟨SS6.oa.other SS6.ad, SS6.ob.other SS6.bd, SS6.oc.other SS6.cd, SS6.od.upd, SS6.phs, SS6.pks, SS6.prs, ?_, SS6.ab, SS6.ac, SS6.ad, SS6.bc, SS6.bd, SS6.cd⟩ (.inl ⟨rfl, rfl⟩))
      have em : ((finN N L).take (i + 1)).map (stepD N (finN N L)) = ((finN N L).take i).map (stepD N (finN N L)) ++ [stepD N (finN N L) p.1] := by
        rw [List.take_succ, hFi, List.map_append]
        rfl
      rw [em]
      exact Paired.app SS6.pss (.cons (.lst (s6.g _ _ upd_same) (Rp.monoAll (w4.exG.trans s6.g) _ _ pes)) .nil)
theorem GoSp.len {N : Net} {L : Nat} {w : Option Hp'} : ∀ vs H Q E, GoSp K N L w vs H Q E → vs.length = 2 := fun vs H Q E ⟨G, q, a, b, c, d, i, wv, m, hs, rs, ss, kvs, e, _⟩ => by rw [e]; rfl
theorem ok_go1 {N : Net} {L : Nat} {wanted : Option Hp'} (E : Env K mg) (S : Sea N L) : C8.Met P w K mg base 3 (He.ga K "Search") "go_on" (GoSp K N L wanted) [] := by
  obtain ⟨fd, F⟩ := E.f_Search_go_on
  obtain ⟨ds, hd, hb⟩ := bd_go1 F
  exact met_g F E.c_Search E.m_Search_go_on hb hd sc_Search_go_on GoSp.len (body_go E S)
theorem ok_go0 {N : Net} {L : Nat} {wanted : Option Hp'} (E : Env K mg) (S : Sea N L) : C8.Met P w K mg base 3 (He.ga K "Search") "go_on" (GoSp K N L wanted) [.non] := by
  obtain ⟨fd, F⟩ := E.f_Search_go_on
  obtain ⟨ds, hd, hb⟩ := bd_go0 F
  exact met_g F E.c_Search E.m_Search_go_on hb hd sc_Search_go_on GoSp.len (body_go E S)
end TK

/-! part Q5 -/
set_option Elab.async false
set_option linter.all false
set_option maxRecDepth 100000
set_option maxHeartbeats 4000000
/-! PG, rules of my own: dicts by tuples as a display of one pair, as a comprehension. -/
namespace PG
open PySem PySem.Spec PyProof.Rows L2
/-- a tuple's value set in a new dict by tuples -/
theorem d_dictSetT {X : Cx} {pins : List (Addr × Obj)} {σ : L2.St} {H : Hp} {s : Shared} {E : Value → Shared → Prop} {D b : Addr} {kvs : List (List Key × V)} {k : List Key} {y v : V} {u r : Value} {Q : Unit → Shared → Prop} (hu : X.A.units + 1 < cLine) (I : Inv X pins σ H s) (hD : H D = some (.dT kvs))
    (hb : y = .ref b ∧ H b = some (.tup (k.map kV))) (hz : kvs.length < sizeLine) (ry : RelV y u) (rv : RelV v r) (h : ∀ s', Inv X pins σ (L2.upd H D (.dT (putK kvs k v))) s' → Q () s') : wpAny (model X.prog X.w) X.A (dictSet D u r) Q E s := by
  obtain ⟨rfl, eb⟩ := hb
  cases (show u = Value.ref b from ry)
  obtain ⟨z, hd, xs, rel, dd⟩ := dt_of I.hok hD
  have hzx : xs.length ≤ sizeLine := by rw [← Paired.length rel]; exact z
  have hl2 : (putK kvs k v).length ≤ sizeLine := by have := length_putK kvs k v; omega
  refine wpAny_dictSet_heap (hsz := hzx) (knd := tupleKind (mixKind X.prog X.w)) (show X.A.units < cLine by omega) (key_of I.hok eb) dd fun h' dd' hs => h _ ?_
  obtain ⟨q, es, ep, hq, h2, h3, h4, _, h5⟩ := dd'
  refine d_write I (by rw [hD]; exact True.intro) hs ⟨q, hq⟩ ⟨hl2, hd, _, (rel.put k eb rv).keeps fun c ys ec => ?_, q, es, ep, hq, h2, h3, h4, h5⟩
  rw [upd_ne (ne_of ec hD (fun z => nomatch z))]
  exact ec
/-- {k: v}, k a tuple -/
def tDisp1T (tk tv : TE) : TE := fun σ H Q => ∀ p, H p = none → tk σ (L2.upd H p (.dT [])) fun y H1 => tv σ H1 fun z H2 => ∃ b ks, H2 p = some (.dT []) ∧ (y = .ref b ∧ H2 b = some (.tup (ks.map kV))) ∧ Q (.ref p) (L2.upd H2 p (.dT [(ks, z)]))
theorem pe_disp1T {X : Cx} {k v : Expr} {pos : Pos} {tk tv : TE} (hu : X.A.units + 1 < cLine) (hk : PE X k tk) (hv : PE X v tv) : PE X (.Dict [some k] [v] pos) (tDisp1T tk tv) := by
  refine ⟨fun pins s σ H Q I q => ?_⟩
  have hn := I.hok.fresh (Nat.le_refl s.heap.objs.size)
  have I1 := I.laid (a := s.heap.objs.size) (o := .dT []) (h' := s.heap.push { cls := .type "dict", data := .dict #[] }) (t' := s.toks) (fun _ _ z => Heap.get?_push_of_some _ z) (Nat.le_refl _) (dt_empty s.heap I.big)
  refine wpAny_Dict_any rfl rfl (by simp) (by simp) (pairTrees_cons_walk (thn (hk.run pins _ σ _ _ I1 (q _ hn)) fun u s1 ⟨x, H1, I2, r1, q1⟩ => thn (hv.run pins s1 σ H1 _ I2 q1) fun w2 s2 ⟨y, H2, I3, r2, b, ks, hD, hb, q2⟩ => pairTrees_nil_walk ?_))
  unfold storeAll
  rw [List.forIn_cons]
  refine wpAny_bind (wpAny_bind (d_dictSetT hu I3 hD hb (show 0 < sizeLine by decide) r1 r2 fun s3 I4 => wpAny_pure ?_))
  simp only [List.forIn_nil]
  exact wpAny_pure ⟨.ref s.heap.objs.size, _, I4, rfl, q2⟩
def tDcT (wi : TI) (g : TG) (tt : TT) (tk tv : TE) (vs : List Nat) : TE := fun σ H Q => wi σ H fun J H1 => ∀ D, H1 D = none → ∃ W : Nat → Nat → Hp → Prop, (∃ m, W 0 m (L2.upd H1 D (.dT []))) ∧ ∀ i m H, W i m H →
  (J.stop i H ∧ Q (.ref D) H) ∨ (J.go i H ∧ ∃ Nx : Hp → Prop, (∀ H', Nx H' → ∃ m', m' < m ∧ W (i + 1) m' H') ∧ ∀ x H', J.yld i H x H' → g x (wipe σ vs) H' fun σ2 H2 => wipe σ2 vs = wipe σ vs ∧ tt σ2 H2 fun b H3 =>
    if b = true then tk σ2 H3 fun y H4 => tv σ2 H4 fun z H5 => ∃ kvs k b, y = V.ref b ∧ H5 b = some (.tup (k.map kV)) ∧ H5 D = some (.dT kvs) ∧ kvs.length < sizeLine ∧ Nx (L2.upd H5 D (.dT (putK kvs k z))) else Nx H3)
section
variable {X : Cx}
theorem dcT_core {pins : List (Addr × Obj)} {s : Shared} {σ : L2.St} {H : Hp} {Q : VK} {kx vx tg iter : Expr} {ifs : List Expr} {scope : Scope} {own : List (Str × Nat)} {pos pos' : Pos} {wi : TI} {g : TG} {tt : TT} {tk tv : TE} {use : Option (Value → Sem Unit)} {Qf : Value → Shared → Prop}
    (huu : X.A.units + 1 < cLine) (hc : X.calm = true) (hN : X.N.Nodup) (I : Inv X pins σ H s) (hi : PI X tg iter wi) (ok : BlkOk X.N X.env.scope scope own)
    (hg : ∀ (s : Shared) (H : Hp) (C : Addr) (cl : List (Str × Addr)) (fp : List Addr), L2.PG (X.blk s H scope (compEnvC scope cl C X.env) fp) tg g) (ht : ∀ (s : Shared) (H : Hp) (C : Addr) (cl : List (Str × Addr)) (fp : List Addr), PTs (X.blk s H scope (compEnvC scope cl C X.env) fp) ifs tt)
    (hk : ∀ (s : Shared) (H : Hp) (C : Addr) (cl : List (Str × Addr)) (fp : List Addr), PE (X.blk s H scope (compEnvC scope cl C X.env) fp) kx tk)
    (he : ∀ (s : Shared) (H : Hp) (C : Addr) (cl : List (Str × Addr)) (fp : List Addr), PE (X.blk s H scope (compEnvC scope cl C X.env) fp) vx tv) (hs : ∀ x, foldedSetIterable iter X.env x = pure x)
    (h : tDcT wi g tt tk tv (own.map (·.2)) σ H Q)
    (hRR : ∀ D C s' m H', Inv X pins σ H' s' → Q (.ref D) H' → s'.heap.Ns C m → FpOk X pins H' C → compPost (model X.prog X.w) X.A X.xe use Qf (.ref D) C (.ok .next) s') :
    wpAny (model X.prog X.w) X.A (comprehension (.DictComp kx vx [⟨tg, iter, ifs, 0⟩] scope pos) scope X.env pos' newDict false (eval iter X.env) use) Qf X.xe s := by
  have hfree : ∀ y ∈ scope.names, y.2 = .free → ∃ c, X.env.cells.lookup y.1 = some c := fun y hy e => by
    rcases ok.free y hy e with k | k
    · exact I.ok.has _ (.inl k)
    · exact I.ok.has _ (.inr k)
  refine wpAny_comprehension_free (use := use) rfl hs (closure_ok hfree) ok.kind (fun y hy e => by rw [ok.uniq y hy, e])
    (thn (hi.run pins s σ H _ I h) fun xv u1 hx => thn hx fun itv u2 h2 => ?_)
  obtain ⟨it, fp, tn, J, M2, e, J2, T, tt2, f2, q⟩ := h2
  subst e
  refine wpAny_newObj_type (newEnv_comp ?_)
  generalize hD : u2.heap.objs.size = D
  have hDn : M2 D = none := J2.hok.fresh (Nat.le_of_eq hD)
  obtain ⟨W, ⟨m0, w0⟩, turn⟩ := q D hDn
  -- the new list
  generalize hs3 : ({ u2 with heap := u2.heap.push { cls := .type "dict", data := .dict #[] } } : Shared) = u3
  have J3 : Inv X pins σ (upd M2 D (.dT [])) u3 := by
    rw [← hs3]
    refine J2.laid (t' := u2.toks) (fun b o e => Heap.get?_push_of_some _ e) (Nat.le_of_eq hD) ?_
    rw [← hD]
    exact dt_empty u2.heap J2.big
  have h3 : u3.heap = u2.heap.push { cls := .type "dict", data := .dict #[] } := by rw [← hs3]
  have sz : ∀ b ∈ fp, b < u2.heap.objs.size := fun b hb => by
    obtain ⟨o, e, _⟩ := T.obj _ _ tt2 b hb
    exact Heap.lt_size e
  have f3 : ∀ b ∈ fp, FpOk X pins (upd M2 D (.dT [])) b ∧ b < u3.heap.objs.size := fun b hb => by
    have hlt := sz b hb
    refine ⟨⟨?_, (f2 b hb).2⟩, by rw [h3, Heap.size_push]; exact Nat.lt_succ_of_lt hlt⟩
    rw [upd_ne (by rw [← hD]; exact Nat.ne_of_lt hlt)]
    exact (f2 b hb).1
  have tt3 : tn 0 u3.heap := T.keep _ _ _ tt2 fun b _ o e => by rw [h3]; exact Heap.get?_push_of_some _ e
  have J4 := block_start J3 ok hN f3
  have pg := hg u3 (upd M2 D (.dT [])) u3.heap.objs.size (cellsFrom (u3.heap.objs.size + 1) scope.names (cloFrom X.env.cells scope.names [])) fp
  have pt := ht u3 (upd M2 D (.dT [])) u3.heap.objs.size (cellsFrom (u3.heap.objs.size + 1) scope.names (cloFrom X.env.cells scope.names [])) fp
  have pk := hk u3 (upd M2 D (.dT [])) u3.heap.objs.size (cellsFrom (u3.heap.objs.size + 1) scope.names (cloFrom X.env.cells scope.names [])) fp
  have pe := he u3 (upd M2 D (.dT [])) u3.heap.objs.size (cellsFrom (u3.heap.objs.size + 1) scope.names (cloFrom X.env.cells scope.names [])) fp
  show codeAny _ _ (.compStart (.DictComp kx vx [⟨tg, iter, ifs, 0⟩] scope pos) 0 (.ref it) (.ref D) (compEnvC scope (cellsFrom (u3.heap.objs.size + 1) scope.names (cloFrom X.env.cells scope.names [])) u3.heap.objs.size X.env)) (compPost (model X.prog X.w) X.A X.xe use Qf (.ref D) u3.heap.objs.size) { u3 with heap := pushCells (u3.heap.push { cls := .type "dict", data := .dict #[] }) scope.names }
  have nfp : ∀ b ∈ fp, (upd M2 D (.dT [])) b = none := fun b hb => (f3 b hb).1.1
  generalize hce : compEnvC scope (cellsFrom (u3.heap.objs.size + 1) scope.names (cloFrom X.env.cells scope.names [])) u3.heap.objs.size X.env = ce at J4 pg pt pk pe ⊢
  have cL : ce.locals = u3.heap.objs.size := by subst hce; rfl
  generalize hH3 : upd M2 D (.dT []) = M3 at J3 J4 pg pt pk pe w0 nfp f3
  generalize hs4 : ({ u3 with heap := pushCells (u3.heap.push { cls := .type "dict", data := .dict #[] }) scope.names } : Shared) = u4 at J4 ⊢
  have tt4 : tn 0 u4.heap := T.keep _ _ _ tt3 fun b _ o e => by rw [← hs4]; exact pushCells_keeps _ _ _ _ (Heap.get?_push_of_some _ e)
  have stat : ∀ {σ' : L2.St} {H' : Hp} {s' : Shared}, Inv (X.blk u3 M3 scope ce fp) [] σ' H' s' → (∀ b ∈ fp, H' b = none) → ∀ b ∈ fp, FpOk (X.blk u3 M3 scope ce fp) [] H' b := fun {σ' H' s'} I' hn b hb =>
    ⟨hn b hb, (I'.ok.exf b hb).1, I'.ok.exfs b hb, .inl hb, fun x c e => (I'.ok.exf b hb).2 x c e, fun p hp => absurd (show p ∈ ([] : List (Addr × Obj)) ++ [] from hp) (by simp)⟩
  have loop : codeAny (model X.prog X.w) X.A (.compLoop (.DictComp kx vx [⟨tg, iter, ifs, 0⟩] scope pos) 0 (.ref it) (.ref D) ce) (compPost (model X.prog X.w) X.A X.xe use Qf (.ref D) u3.heap.objs.size) u4 := by
    refine compLoop_anyD (fun n s' => ∃ i H', Inv (X.blk u3 M3 scope ce fp) [] (wipe σ (own.map (·.2))) H' s' ∧ tn i s'.heap ∧ (∀ b ∈ fp, H' b = none) ∧ W i n H') ?_ m0 ⟨0, M3, J4, tt4, nfp, w0⟩
    rintro n u5 ⟨i, M5, J5, tt5, n5, w5⟩
    rcases turn i n M5 w5 with ⟨stop, qq⟩ | ⟨go, Nx, hNx, step⟩
    · have td := T.done (X.blk u3 M3 scope ce fp) rfl rfl rfl hc i [] u5 _ M5 (fun _ _ => False) J5 (stat J5 n5) tt5 stop
      refine thnF td fun r u6 ⟨hr, J6⟩ => ?_
      subst hr
      -- back in the def's context
      have J7 : Inv X pins σ M5 u6 := J3.call' (ch := fp) J6.os J6.base J6.hok J6.bare fun b hb => ⟨(f3 b hb).1.2.2.2.1, (f3 b hb).1.2.1, (f3 b hb).1.2.2.2.2.1, (f3 b hb).1.2.2.2.2.2⟩
      have nC : M5 u3.heap.objs.size = none := by
        have z : M5 ce.locals = none := J6.free
        rw [cL] at z
        exact z
      obtain ⟨m, hn, _⟩ := J6.loc
      have hn : u6.heap.Ns ce.locals m := hn
      rw [cL] at hn
      exact hRR D u3.heap.objs.size u6 m M5 J7 qq hn (J3.fpOk (Nat.le_refl _) nC)
    · have ti := T.item (X.blk u3 M3 scope ce fp) rfl rfl rfl hc i [] u5 _ M5 (fun _ _ => False) J5 (stat J5 n5) tt5 go
      refine thnF ti fun r u6 ⟨u, hr, h6⟩ => ?_
      subst hr
      refine thnF h6 fun _ u7 ⟨x, M7, J7, r7, y7, tt7, n7⟩ => ?_
      have J7' := J7.pinned (stat J7 n7) (T.obj _ _ tt7)
      refine thnF (pg.run _ u7 _ M7 x u _ J7' r7 (step x M7 y7)) fun _ u8 ⟨σ8, M8, J8, hw8, q8⟩ => ?_
      refine thnF (pt.run _ u8 σ8 M8 _ J8 q8) fun b u9 ⟨M9, J9, q9⟩ => ?_
      -- the turn's end
      have fin : ∀ {s' : Shared} {H' : Hp}, Inv (X.blk u3 M3 scope ce fp) ([] ++ pinsAt fp u7.heap) σ8 H' s' → Nx H' → ∃ m, m < n ∧ ∃ i H', Inv (X.blk u3 M3 scope ce fp) [] (wipe σ (own.map (·.2))) H' s' ∧ tn i s'.heap ∧ (∀ b ∈ fp, H' b = none) ∧ W i m H' := fun {s' H'} I' nx => by
        obtain ⟨m', hm, w'⟩ := hNx H' nx
        have pin' : ∀ b ∈ fp, ∀ o, u7.heap.get? b = some o → s'.heap.get? b = some o ∧ H' b = none := fun b hb o e =>
          let z := I'.pin (b, o) (List.mem_append_right _ (List.mem_append_right _ (mem_pinsAt hb e)))
          ⟨z.1, z.2.1⟩
        have hl : (wipe σ (own.map (·.2))).length = σ8.length := by rw [← hw8, wipe_length]
        refine ⟨m', hm, i + 1, H', (I'.unpinned (pins := [])).weak hl (fun j v e => ?_), T.keep _ _ _ tt7 fun b hb o e => (pin' b hb o e).1, fun b hb => ?_, w'⟩
        · rw [← hw8] at e
          exact (wipe_some e).1
        · obtain ⟨o, e, _⟩ := T.obj _ _ tt7 b hb
          exact (pin' b hb o e).2
      cases b with
      | false =>
        simp only [Bool.false_eq_true, if_false] at q9 ⊢
        exact fin J9 q9
      | true =>
        simp only [if_true] at q9 ⊢
        refine thnF (pk.run _ u9 σ8 M9 _ J9 q9) fun z u10 ⟨yk, M10, J10, r10, q10⟩ => ?_
        refine thnF (pe.run _ u10 σ8 M10 _ J10 q10) fun z2 u11 ⟨yv, M11, J11, r11, kvs, k, bb, ek, hb11, hD11, hz11, nx⟩ => ?_
        subst ek
        exact d_dictSetT (X := X.blk u3 M3 scope ce fp) huu J11 hD11 ⟨rfl, hb11⟩ hz11 r10 r11 fun u12 J12 => fin J12 nx
  exact codeAny_compStart_dict loop (T.self X.A 0 _ _ _ tt4 loop)
theorem pe_dcT {kx vx tg iter : Expr} {ifs : List Expr} {scope : Scope} {own : List (Str × Nat)} {pos : Pos} {wi : TI} {g : TG} {tt : TT} {tk tv : TE} (huu : X.A.units + 1 < cLine) (hc : X.calm = true) (hN : X.N.Nodup) (hi : PI X tg iter wi) (ok : BlkOk X.N X.env.scope scope own)
    (hg : ∀ (s : Shared) (H : Hp) (C : Addr) (cl : List (Str × Addr)) (fp : List Addr), L2.PG (X.blk s H scope (compEnvC scope cl C X.env) fp) tg g) (ht : ∀ (s : Shared) (H : Hp) (C : Addr) (cl : List (Str × Addr)) (fp : List Addr), PTs (X.blk s H scope (compEnvC scope cl C X.env) fp) ifs tt)
    (hk : ∀ (s : Shared) (H : Hp) (C : Addr) (cl : List (Str × Addr)) (fp : List Addr), PE (X.blk s H scope (compEnvC scope cl C X.env) fp) kx tk) (he : ∀ (s : Shared) (H : Hp) (C : Addr) (cl : List (Str × Addr)) (fp : List Addr), PE (X.blk s H scope (compEnvC scope cl C X.env) fp) vx tv) (hs : ∀ x, foldedSetIterable iter X.env x = pure x := by intro _; rfl) :
    PE X (.DictComp kx vx [⟨tg, iter, ifs, 0⟩] scope pos) (tDcT wi g tt tk tv (own.map (·.2))) := by
  refine ⟨fun pins s σ H Q I h => ?_⟩
  rw [arm_eval_DictComp]
  refine dcT_core huu hc hN I hi ok hg ht hk he hs h fun D C s' m H' I' q hn f => ⟨m, hn, fun h2 sb => ?_⟩
  obtain ⟨f0, f1, f2, f3, f4, f5⟩ := f
  exact ⟨.ref D, H', I'.turned (t' := s'.toks) (fun b o hb e => (sb.2 b hb).trans e) f0 f1 f3 f4 f5, rfl, q⟩
end
end PG

/-! part P13 -/
set_option Elab.async false
set_option linter.all false
set_option maxRecDepth 100000
set_option maxHeartbeats 4000000
/-! PG, part 13. -/
namespace PG
open PySem PySem.Spec PyProof.Rows L2
section
variable {X : Cx} {σ σ' : L2.St} {G G0 G1 H H0 H1 : Hp} {e a b c o i l tg iter kx vx elt : Expr} {es : List Expr} {R : V → Hp → Prop} {O : HO → Hp → Prop} {pos pp apos : Pos} {p : Addr} {D : Ends} {rest body : List Stmt} {S : List Addr}
theorem units1 {k : Nat} {A : Around} (r : Room k A) : A.units + 1 < cLine := by have := r.un; omega
theorem en_disp1T {k : Nat} {ns : List Int} (hne : ns ≠ []) (hr : Room k X.A) (ha : ED X a σ G (tI ns)) (hb : EE X b σ G R) [m : MonoR R] : EN X (.Dict [some a] [b] pos) σ G fun o G' => ∃ v, o = .dT [(ns.map Sum.inl, v)] ∧ R v G' := fun H Q ex q =>
  ⟨_, pe_disp1T (units1 hr) (pe_self a) (pe_self b), fun p hp => by
    have w0 : Own G (L2.upd H p (.dT [])) p (.dT []) := Own.new ex hp
    have st : Stp [] G H G (L2.upd H p (.dT [])) := Stp.newO ex hp
    refine two ha hb st.i fun x y G' H' s r1 r2 => ?_
    obtain ⟨t, rfl, ht⟩ := Rp.tI_eq r1 hne
    rw [ints_keys] at ht
    have w1 := w0.step0 s
    exact ⟨t, ns.map Sum.inl, w1.h, ⟨rfl, s.i _ _ ht⟩, q p _ G' _ ((st.trans s).mut w1.g (.inl hp)) hp w1.upd ⟨y, rfl, r2⟩⟩⟩
/-- o.f = a new thing -/
theorem ws_fldN {q C dx : Addr} {fs : List (Str × V)} {f : Str} {pos' : Pos} (he : EN X e σ G O) (ho : EE X o σ G (RV (.ref q))) (w : Own G H q (.ins C dx fs)) (hc : Cls X.K C) (hn : NoAttr X.K C f) (hl : fs.length < 1000) (ex : Ex G H)
    (k : ∀ t o' G' H', Stp [] G H G' H' → H t = none → Own G' H' t o' → O o' G' → Own G' H' q (.ins C dx fs) → WS X rest D σ (L2.upd H' q (.ins C dx (putF f (.ref t) fs)))) (hs : swapsWith e (some (.Attribute o f pos')) pos.line X.env = pure false := by rfl) : WS X (.Assign [.Attribute o f pos'] e pos :: rest) D σ H := by
  refine ws_cons ⟨_, ps_fld (pe_self o) (pe_self e) hs, he H _ ex fun t o' G1 H1 s1 ht w1 r1 => ?_⟩
  refine (ho.mono s1.g) H1 _ s1.i fun x G2 H2 s2 r2 => ?_
  have s2' := s2.keepG
  have s := s1.trans s2'
  have w3 := w.step0 s
  exact ⟨q, C, dx, fs, r2, w3.h, hc, hn, hl, k t o' G1 H2 s ht (w1.stepK s2') r1 w3⟩
/-! a dict comprehension by tuples -/
variable {ifs : List Expr} {scope : Scope} {own : List (Str × Nat)} {n : Nat} {Y : Nat → V → Hp → Prop}
def TurnT (X : Cx) (σ : L2.St) (tg kx vx : Expr) (scope : Scope) (vs : List Nat) (x : V) (G' : Hp) (ns : List Int) (R : V → Hp → Prop) : Prop :=
  ∃ σ', wipe σ' vs = wipe σ vs ∧ ∀ (s : Shared) (H : Hp) (C : Addr) (cl : List (Str × Addr)) (fp : List Addr), EG (Blk X scope s H C cl fp) tg x (wipe σ vs) G' σ' ∧
    ED (Blk X scope s H C cl fp) kx σ' G' (tI ns) ∧ EE (Blk X scope s H C cl fp) vx σ' G' R
/-- the keys so far, each once, in the order of their first place -/
def keysT (f : Nat → List Int) : Nat → List (List Int)
  | 0 => []
  | n + 1 => if f n ∈ keysT f n then keysT f n else keysT f n ++ [f n]
def RT : V → Hp → Prop := fun _ _ => True
instance : MonoR RT := ⟨fun _ _ _ _ h => h⟩
def DtO (ks : List (List Int)) : HO → Hp → Prop := fun o G' => ∃ kvs : List (List Key × V), o = .dT kvs ∧ kvs.map (·.1) = ks.map fun k => k.map Sum.inl
theorem putK_keys {kvs : List (List Key × V)} {ks : List (List Int)} {ns : List Int} {v : V} (h : kvs.map (·.1) = ks.map fun k => k.map Sum.inl) : (putK kvs (ns.map Sum.inl) v).map (·.1) = (if ns ∈ ks then ks else ks ++ [ns]).map fun k => k.map Sum.inl := by
  have inj : ∀ x y : List Int, x.map (Sum.inl : Int → Key) = y.map Sum.inl → x = y := fun x y e => (List.map_inj_right (fun _ _ e => Sum.inl.inj e)).mp e
  have hm : (kvs.any fun kv => decide (kv.1 = ns.map Sum.inl)) = true ↔ ns ∈ ks := by
    rw [List.any_eq_true]
    constructor
    · rintro ⟨kv, h1, h2⟩
      have h3 : kv.1 ∈ kvs.map (·.1) := List.mem_map_of_mem h1
      rw [h, of_decide_eq_true h2] at h3
      obtain ⟨z, hz, ez⟩ := List.mem_map.mp h3
      exact inj _ _ ez ▸ hz
    · intro hz
      have h3 : ns.map (Sum.inl : Int → Key) ∈ kvs.map (·.1) := by
        rw [h]
        exact List.mem_map_of_mem hz
      obtain ⟨kv, h4, h5⟩ := List.mem_map.mp h3
      exact ⟨kv, h4, decide_eq_true h5⟩
  unfold putK
  by_cases z : ns ∈ ks
  · rw [if_pos (hm.mpr z), if_pos z, ← h, List.map_map]
    refine List.map_congr_left fun p _ => ?_
    show (if p.1 = ns.map Sum.inl then (p.1, v) else p).1 = p.1
    split <;> rfl
  · rw [if_neg (fun q => z (hm.mp q)), if_neg z, List.map_append, List.map_append, h]
    rfl
theorem en_dcT {k : Nat} (hr : Room k X.A) (hc : X.calm = true) (hN : X.N.Nodup) (hi : EI X tg iter σ G n Y) (ok : BlkOk X.N X.env.scope scope own) (f : Nat → List Int) (hne : ∀ i, i < n → f i ≠ [])
    (turn : ∀ i x G', Ex G G' → i < n → Y i x G' → TurnT X σ tg kx vx scope (own.map (·.2)) x G' (f i) RT) (hn : n ≤ 100000) (hs : ∀ x, foldedSetIterable iter X.env x = pure x := by intro _; rfl) :
    EN X (.DictComp kx vx [⟨tg, iter, [], 0⟩] scope pos) σ G (DtO (keysT f n)) := fun H Q ex q => by
  refine ⟨_, pe_dcT (units1 hr) hc hN (pi_self tg iter) ok (gB_ok tg) (tB_ok []) (eB_ok kx) (eB_ok vx) hs, hi H _ ex fun J G1 H1 s1 it D hD => ?_⟩
  refine ⟨fun i m H' => m = n - i ∧ i ≤ n ∧ ∃ G' kvs, Stp [] G1 H1 G' H' ∧ Own G' H' D (.dT kvs) ∧ kvs.length ≤ i ∧ kvs.map (·.1) = (keysT f i).map fun k => k.map Sum.inl, ⟨n, rfl, Nat.zero_le _, G1, [], Stp.newO s1.i hD, Own.new s1.i hD, Nat.le_refl _, rfl⟩, ?_⟩
  rintro i m H' ⟨rfl, hin, G', kvs, s2, w, hl, pr⟩
  have eg : Ex G1 G' := s2.g
  by_cases hlt : i < n
  · refine .inr ⟨it.go i H' (eg.trans s2.i) hlt, fun H'' => ∃ G' kvs, Stp [] G1 H1 G' H'' ∧ Own G' H'' D (.dT kvs) ∧ kvs.length ≤ i + 1 ∧ kvs.map (·.1) = (keysT f (i + 1)).map fun k => k.map Sum.inl, fun H'' q => ⟨n - (i + 1), by omega, rfl, hlt, q⟩, fun x H2 y => ?_⟩
    obtain ⟨G2, s3, yi⟩ := it.yld i G' H' x H2 eg s2.i hlt y
    have s23 := s2.trans s3
    have w2 := w.step0 s3
    obtain ⟨σ', hw, ht⟩ := turn i x G2 (s1.g.trans s23.g) hlt yi
    intro s0 H0 C cl fp
    refine (ht s0 H0 C cl fp).1 H2 _ s3.i fun H3 s4 => ⟨hw, ?_⟩
    intro s0 H0 C cl fp
    refine ets_nil H3 _ s4.i fun H4 s5 => iteT ?_
    intro s0 H0 C cl fp
    refine (ht s0 H0 C cl fp).2.1 H4 _ s5.i fun u G5 H5 s6 r6 => ?_
    intro s0 H0 C cl fp
    refine ((ht s0 H0 C cl fp).2.2.mono s6.g) H5 _ s6.i fun v G6 H6 s7 r7 => ?_
    have st := (((s23.trans s4).trans s5).trans s6).trans s7
    have w6 := (((w2.step0 s4).step0 s5).step0 s6).step0 s7
    obtain ⟨t, rfl, ht2⟩ := Rp.tI_eq r6 (hne i hlt)
    rw [ints_keys] at ht2
    exact ⟨kvs, _, t, rfl, s7.i _ _ (s7.g _ _ ht2), w6.h, small' (by omega), G6, _, st.mut w6.g (.inl hD), w6.upd, Nat.le_trans (length_putK _ _ _) (Nat.succ_le_succ hl), putK_keys pr⟩
  · have hi' : i = n := by omega
    subst hi'
    exact .inl ⟨it.stop H' (eg.trans s2.i), q D _ G' H' (s1.trans s2) (s1.fresh hD) w ⟨kvs, rfl, pr⟩⟩
end
end PG

/-! part P14 -/
set_option Elab.async false
set_option linter.all false
set_option maxRecDepth 100000
set_option maxHeartbeats 4000000
/-! PG, part 14: calls that change things, as statements. -/
namespace PG
open PySem PySem.Spec PyProof.Rows L2
section
variable {X : Cx} {σ σ' : L2.St} {G G0 G1 G2 H H0 H1 H2 : Hp} {e a b c o i l tg iter kx vx elt : Expr} {es : List Expr} {R : V → Hp → Prop} {O : HO → Hp → Prop} {A : List V → Hp → Prop} {pos pp apos cpos : Pos} {p : Addr} {D : Ends} {rest body : List Stmt} {S S' : List Addr}
theorem Stp.locs (a : Stp S G H G1 H1) (hS : ∀ x ∈ S', x ∈ S ∨ H x = none) (b : Stp S' G1 H1 G2 H2) : Stp S G H G2 H2 := by
  refine ⟨a.g.trans b.g, b.i, fun y o h => ?_, fun y o h h' => ?_⟩
  · obtain ⟨o1, h1, e1, f1⟩ := a.h y o h
    obtain ⟨o2, h2, e2, f2⟩ := b.h y o1 h1
    refine ⟨o2, h2, fun z => ?_, fun xs z => f1 xs (f2 xs z)⟩
    rw [← e1 z]
    exact e2 fun m => by
      rcases hS y m with m | m
      · exact z m
      · rw [h] at m; cases m
  · cases q : G1 y with
    | some u => exact a.n y u q h'
    | none =>
      have z := b.n y o h q
      cases r : H y with
      | none => exact .inl rfl
      | some v =>
        obtain ⟨v', hv, _, f1⟩ := a.h y v r
        rcases z with z | ⟨xs, z⟩
        · rw [hv] at z
          cases z
        · rw [hv] at z
          exact .inr ⟨xs, by rw [f1 xs (Option.some.inj z)]⟩
theorem ws_meth0 {k j : Nat} {C q dx : Addr} {fs : List (Str × V)} {m : Str} {sp : Sp} {dvs : List V} {pl : Sem Bool} (cm : C8.Met X.prog X.w X.K X.mg X.base k C m sp dvs) (hr : Room j X.A) (ho : EE X o σ G (RV (.ref q))) (ex : Ex G H) (hq : G q = some (.ins C dx fs)) (hl : fs.lookup m = none)
    (kk : ∀ H1, Stp [] G H G H1 → sp (.ref q :: ([] ++ dvs)) H1 (fun _ H2 => WS X rest D σ H2) C8.E0) (hk : k ≤ j := by decide) (hs : swapsWith (.Call (.Attribute o m apos) [] [] cpos) none pos.line X.env = pure false := by rfl)
    (ht : eval (.Call (.Attribute o m apos) [] [] cpos) X.env = (do
      let ov ← eval o X.env
      standAt apos.atName
      let (f, first) ← holding [ov] (getMethod ov m pl)
      callWith cpos f first (backTo cpos (starEach [] X.env)) (backToKw cpos (keywordEach [] X.env))) := by rfl) : WS X (.Expr (.Call (.Attribute o m apos) [] [] cpos) pos :: rest) D σ H :=
  ws_cons ⟨_, ps_expr (C8.pe_mt0 cm hr hk (pe_self o) ht) hs, ho H _ ex fun x G1 H1 s1 r1 => ⟨q, dx, fs, r1, s1.i _ _ (s1.g _ _ hq), hl, by
    rw [show x = .ref q from r1]
    exact kk H1 s1.keepG⟩⟩
theorem ws_methA {k j : Nat} {C q dx : Addr} {fs : List (Str × V)} {m : Str} {sp : Sp} {dvs : List V} {pl : Sem Bool} (cm : C8.Met X.prog X.w X.K X.mg X.base k C m sp dvs) (hr : Room j X.A) (ho : EE X o σ G (RV (.ref q))) (ex : Ex G H) (hq : G q = some (.ins C dx fs)) (hl : fs.lookup m = none) (ha : EA X (e :: es) σ G A)
    (kk : ∀ vs G1 H1, Stp [] G H G1 H1 → A vs G1 → sp (.ref q :: (vs ++ dvs)) H1 (fun _ H2 => WS X rest D σ H2) C8.E0) (hk : k ≤ j := by decide) (hs : swapsWith (.Call (.Attribute o m apos) (e :: es) [] cpos) none pos.line X.env = pure false := by rfl)
    (hst : starEach (e :: es) X.env = (false, eval e X.env) :: starEach es X.env := by rfl) (hpl : (backTo cpos (starEach es X.env)).any (·.1) = false := by rfl)
    (ht : eval (.Call (.Attribute o m apos) (e :: es) [] cpos) X.env = (do
      let ov ← eval o X.env
      standAt apos.atName
      let (f, first) ← holding [ov] (getMethod ov m pl)
      callWith cpos f first (backTo cpos (starEach (e :: es) X.env)) (backToKw cpos (keywordEach [] X.env))) := by rfl) : WS X (.Expr (.Call (.Attribute o m apos) (e :: es) [] cpos) pos :: rest) D σ H :=
  ws_cons ⟨_, ps_expr (C8.pe_mt cm hr hk (pe_self o) (pa_self _) hst hpl ht) hs, ho H _ ex fun x G1 H1 s1 r1 => ⟨q, dx, fs, r1, s1.i _ _ (s1.g _ _ hq), hl, by
    rw [show x = .ref q from r1]
    exact ha H1 _ (s1.g.trans s1.i) fun vs G2 H2 s2 r2 => kk vs G2 H2 (s1.keepG.trans s2) r2⟩⟩
/-- x = f(..), f any def -/
theorem ws_setCal {k j i : Nat} {x y : Str} {sp : Sp} {dvs : List V} {pos' : Pos} (hN : X.N.Nodup) (cc : C8.Cal X.prog X.w X.K X.mg X.base k x sp dvs) (hr : Room j X.A) (ha : EA X (e :: es) σ G A) (ex : Ex G H)
    (kk : ∀ vs G1 H1, Stp [] G H G1 H1 → A vs G1 → sp (vs ++ dvs) H1 (fun v H2 => WS X rest D (σ.set i (some v)) H2) C8.E0) (hk : k ≤ j := by decide) (hg : Gl X x := by rfl)
    (hi : X.N[i]? = some y := by rfl) (hx : Loc X.env.scope y := by first | exact Or.inl rfl | exact Or.inr rfl) (hs : swapsWith (.Call (.Name x pp) (e :: es) [] pos) (some (.Name y pos')) apos.line X.env = pure false := by rfl) (hf : X.fn y = true ∨ X.env.scope.names.lookup y = some .local := by first | exact .inl rfl | exact .inr rfl | assumption)
    (hdb : (x == ("__debug__" : Str)) = false := by decide) (he : starEach (e :: es) X.env = (false, eval e X.env) :: starEach es X.env := by rfl) (hpl : (backTo pos (starEach es X.env)).any (·.1) = false := by rfl) : WS X (.Assign [.Name y pos'] (.Call (.Name x pp) (e :: es) [] pos) apos :: rest) D σ H :=
  ws_cons ⟨_, ps_set hN hi hx (C8.pe_c cc hr hk hg (pa_self _) hdb he hpl) hs hf, ha H _ ex fun vs G1 H1 s1 a => kk vs G1 H1 s1 a⟩
end
end PG

/-! part F9 -/
set_option Elab.async false
set_option linter.all false
set_option maxRecDepth 100000
set_option maxHeartbeats 4000000
namespace TK
open PySem PySem.Spec PyProof.Rows L2 PG
variable {P : Program} {w : World} {K : PySem.W.Frag} {mg : Str → Option Value} {base : Heap}
def SearchI (K : PySem.W.Frag) (N : Net) (F : List Hp') (m : Int) : Sp := fun vs H Q _ => ∃ x dx vl G, vs = [.ref x, vl, .int m] ∧ Ex G H ∧ Own G H x (.ins (He.ga K "Search") dx []) ∧ LookR K N vl G ∧ 1 ≤ m ∧
  ∀ G' H' a b c d hs rs ss kvs, Stp [x] G H G' H' → Own G' H' x (.ins (He.ga K "Search") dx (flS vl m a b c d)) → SS N F (stN N 0) 0 G' H' a b c d hs rs ss kvs → (H a = none ∧ H b = none ∧ H c = none ∧ H d = none) → Q .non H'
theorem SearchI.len {N : Net} {F : List Hp'} {m : Int} : ∀ vs H Q E, SearchI K N F m vs H Q E → vs.length = 3 := fun vs H Q E ⟨x, dx, vl, G, e, _⟩ => by rw [e]; rfl
theorem finN_begin {N : Net} {L : Nat} : (finN N L).idxOf N.begin = 0 := by
  have h : stN N 0 <+: stN N L := st_pre (Nat.zero_le _)
  refine idx_of (st_nd L) (pre_get (heapsOf_pre h) ?_)
  rfl
theorem ok_Search_init {N : Net} {L : Nat} {m : Int} (E : Env K mg) (W : Wf N) : C8.Mak P w K mg base 1 "Search" (He.ga K "Search") (SearchI K N (finN N L) m) [] :=
  ig_Search_init E SearchI.len fun cdv A outer s H vs Q E' hr ⟨x, dx, vl, G, e, ex, own, lk, hm, k⟩ => by
    subst e
    have lk' := lk
    obtain ⟨ql, ldx, lfs, rfl, hql, lv3, lv4, lv5, lv6, lv7, lv8, rfl, lp, lb, _⟩ := lk'
    refine ws_skip (et_is (et_lt (i := m) (j := 1) (ee_var (i := 2) rfl (.int _)) ed_int) (by simp; omega)) ex fun H1 s1 => ?_
    have w1 := own.step0 s1
    refine ws_fld (R := RV (.ref ql)) (ee_var (i := 1) rfl rfl) (ee_var (i := 0) rfl rfl) w1 E.c_Search E.n_Search_look (by decide) s1.i fun v G2 H2 s2 r2 w2 => ?_
    rw [show v = .ref ql from r2]
    have t2 := (s1.trans s2).any (S := [x]) |>.mut (o := .ins (He.ga K "Search") dx [(("look" : Str), V.ref ql)]) w2.g (.inr (by simp))
    have w2' := w2.upd (o' := .ins (He.ga K "Search") dx [(("look" : Str), V.ref ql)])
    refine ws_fld (R := RV (.int m)) (ee_var (i := 2) rfl rfl) (ee_var (i := 0) rfl rfl) w2' E.c_Search E.n_Search_most (by simp) t2.i fun v G3 H3 s3 r3 w3 => ?_
    rw [show v = .int m from r3]
    have t3 := (t2.trans s3.any).mut (o := .ins (He.ga K "Search") dx [(("look" : Str), V.ref ql), (("most" : Str), V.int m)]) w3.g (.inr (by simp))
    have w3' := w3.upd (o' := .ins (He.ga K "Search") dx [(("look" : Str), V.ref ql), (("most" : Str), V.int m)])
    have e3 := s2.g.trans s3.g
    have begE : ∀ {X : Cx} {σ : L2.St} {G4 : Hp} {o : Expr} {apos : Pos} (hK : X.K = K) (eg : Ex G3 G4) (ho : EE X o σ G4 (RV (.ref ql))) (hb : attributeBase o "begin" X.env (eval o X.env) = eval o X.env), ED X (.Attribute o "begin" apos) σ G4 (tI N.begin) := fun hK eg ho hb =>
      ee_fld (R := RD (tI N.begin)) ho (eg _ _ (e3 _ _ hql)) (by rw [hK]; exact E.c_Look) (by rw [hK]; exact E.n_Look_begin) rfl (Rp.mono (e3.trans eg) _ _ lb) hb
    refine ws_fldN (en_lst (A := ACons (RD (tI N.begin)) ANil) (ea1 (begE rfl (Ex.refl _) (ee_var (i := 1) rfl rfl) rfl))) (ee_var (i := 0) rfl rfl) w3' E.c_Search E.n_Search_heaps (by simp) t3.i fun a o G4 H4 s4 ha wa ho w4 => ?_
    obtain ⟨us, rfl, hus⟩ := ho
    obtain ⟨vb, rfl, rvb⟩ := ACons.one hus
    have xa := w4.ne2 (q := a) |> fun _ => (w3'.ne2 ha : x ≠ a)
    have fre : ∀ {G' H' : Hp} {q : Addr}, Stp [x] G H G' H' → H' q = none → H q = none := fun {G' H' q} t hq => by
      cases z : H q with
      | none => rfl
      | some u =>
        obtain ⟨u', hu, _⟩ := t.h _ _ z
        rw [hq] at hu
        cases hu
    have ha0 := fre t3 ha
    have t4 := (t3.trans s4.any).mut (o := .ins (He.ga K "Search") dx [(("look" : Str), V.ref ql), (("most" : Str), V.int m), (("heaps" : Str), V.ref a)]) w4.g (.inr (by simp))
    have w4' := w4.upd (o' := .ins (He.ga K "Search") dx [(("look" : Str), V.ref ql), (("most" : Str), V.int m), (("heaps" : Str), V.ref a)])
    have wa4 := wa.other (u := .ins (He.ga K "Search") dx [(("look" : Str), V.ref ql), (("most" : Str), V.int m), (("heaps" : Str), V.ref a)]) xa.symm
    refine ws_fldN (en_disp1T (ns := N.begin) (R := RD (.int 0)) ((begin_hip W).ne W) hr (begE rfl s4.g (ee_var (i := 1) rfl rfl) rfl) ed_int) (ee_var (i := 0) rfl rfl) w4' E.c_Search E.n_Search_numbers (by simp) t4.i fun b o G5 H5 s5 hb wb ho w5 => ?_
    obtain ⟨v0, rfl, rv0⟩ := ho
    rw [Rp.int_eq rv0] at wb
    have hb0 := fre t4 hb
    have xb : x ≠ b := w4'.ne2 hb
    have ab : a ≠ b := wa4.ne2 hb
    have t5 := (t4.trans s5.any).mut (o := .ins (He.ga K "Search") dx [(("look" : Str), V.ref ql), (("most" : Str), V.int m), (("heaps" : Str), V.ref a), (("numbers" : Str), V.ref b)]) w5.g (.inr (by simp))
    have w5' := w5.upd (o' := .ins (He.ga K "Search") dx [(("look" : Str), V.ref ql), (("most" : Str), V.int m), (("heaps" : Str), V.ref a), (("numbers" : Str), V.ref b)])
    have wa5 := (wa4.step0 s5).other (u := .ins (He.ga K "Search") dx [(("look" : Str), V.ref ql), (("most" : Str), V.int m), (("heaps" : Str), V.ref a), (("numbers" : Str), V.ref b)]) xa.symm
    have wb5 := wb.other (u := .ins (He.ga K "Search") dx [(("look" : Str), V.ref ql), (("most" : Str), V.int m), (("heaps" : Str), V.ref a), (("numbers" : Str), V.ref b)]) xb.symm
    refine ws_fldN (en_lst (A := ACons (RD (rowD [])) ANil) (ea1 (ed_lst ad_nil))) (ee_var (i := 0) rfl rfl) w5' E.c_Search E.n_Search_rows (by simp) t5.i fun c o G6 H6 s6 hc wc ho w6 => ?_
    obtain ⟨us, rfl, hus⟩ := ho
    obtain ⟨vr, rfl, rvr⟩ := ACons.one hus
    have hc0 := fre t5 hc
    have xc : x ≠ c := w5'.ne2 hc
    have ac : a ≠ c := wa5.ne2 hc
    have bc : b ≠ c := wb5.ne2 hc
    have t6 := (t5.trans s6.any).mut (o := .ins (He.ga K "Search") dx [(("look" : Str), V.ref ql), (("most" : Str), V.int m), (("heaps" : Str), V.ref a), (("numbers" : Str), V.ref b), (("rows" : Str), V.ref c)]) w6.g (.inr (by simp))
    have w6' := w6.upd (o' := .ins (He.ga K "Search") dx [(("look" : Str), V.ref ql), (("most" : Str), V.int m), (("heaps" : Str), V.ref a), (("numbers" : Str), V.ref b), (("rows" : Str), V.ref c)])
    have wa6 := (wa5.step0 s6).other (u := .ins (He.ga K "Search") dx [(("look" : Str), V.ref ql), (("most" : Str), V.int m), (("heaps" : Str), V.ref a), (("numbers" : Str), V.ref b), (("rows" : Str), V.ref c)]) xa.symm
    have wb6 := (wb5.step0 s6).other (u := .ins (He.ga K "Search") dx [(("look" : Str), V.ref ql), (("most" : Str), V.int m), (("heaps" : Str), V.ref a), (("numbers" : Str), V.ref b), (("rows" : Str), V.ref c)]) xb.symm
    have wc6 := wc.other (u := .ins (He.ga K "Search") dx [(("look" : Str), V.ref ql), (("most" : Str), V.int m), (("heaps" : Str), V.ref a), (("numbers" : Str), V.ref b), (("rows" : Str), V.ref c)]) xc.symm
    refine ws_fldN en_lst0 (ee_var (i := 0) rfl rfl) w6' E.c_Search E.n_Search_steps (by simp) t6.i fun d o G7 H7 s7 hd wd ho w7 => ?_
    subst ho
    have hd0 := fre t6 hd
    have xd : x ≠ d := w6'.ne2 hd
    have t7 := (t6.trans s7.any).mut (o := .ins (He.ga K "Search") dx (flS (.ref ql) m a b c d)) w7.g (.inr (by simp))
    refine ws_nil (k G7 _ a b c d [vb] [vr] [] _ t7 w7.upd ⟨(wa6.step0 s7).other xa.symm, (wb6.step0 s7).other xb.symm, (wc6.step0 s7).other xc.symm, wd.other xd.symm, ?_, ?_, ?_, .nil, ab, ac, wa6.ne2 hd, bc, wb6.ne2 hd, wc6.ne2 hd⟩ ⟨ha0, hb0, hc0, hd0⟩)
    · exact .cons (Rp.mono ((s5.g.trans s6.g).trans s7.g) _ _ rvb) .nil
    · refine ⟨rfl, fun h hh => ?_, fun h hh => ?_⟩
      · obtain rfl : h = N.begin := by simpa [stN, st, heapsOf] using hh
        rw [finN_begin]
        exact valV_pos (p := (keyI N.begin, V.int 0)) rfl
      · refine (valV_neg (p := (keyI N.begin, V.int 0)) fun e => hh ?_).trans rfl
        rw [← keyI_inj e]
        simp [stN, st, heapsOf]
    · exact .cons (Rp.mono s7.g _ _ rvr) .nil
/-- how far the search is, by what stands -/
def SDn (K : PySem.W.Frag) (na nd : Nat) : V → Hp → Prop := fun v G => ∃ q dx vl m a b c d xs ys, v = .ref q ∧ G q = some (.ins (He.ga K "Search") dx (flS vl m a b c d)) ∧ G a = some (.lst xs) ∧ G d = some (.lst ys) ∧ xs.length = na ∧ ys.length = nd
instance (na nd : Nat) : MonoR (SDn K na nd) := ⟨fun _ _ _ e ⟨q, dx, vl, m, a, b, c, d, xs, ys, h1, h2, h3, h4, h5⟩ => ⟨q, dx, vl, m, a, b, c, d, xs, ys, h1, e _ _ h2, e _ _ h3, e _ _ h4, h5⟩⟩
theorem ok_is_done {na nd : Nat} (E : Env K mg) : C8.Met P w K mg base 1 (He.ga K "Search") "is_done" (Pr (ACons (SDn K na nd) ANil) (RD (.bool (decide (nd = na))))) [] :=
  ml_Search_is_done E fun cdv A outer s H vs Q E' hr G ex as k => by
    obtain ⟨v0, rfl, q, dx, vl, m, a, b, c, d, xs, ys, rfl, hq, ha, hd, rfl, rfl⟩ := ACons.one as
    refine ws_ret (R := RD (.bool (decide (ys.length = xs.length)))) (ee_is (ed_eq (d := .int ys.length) (d' := .int xs.length) hr (ed_lenV (ee_fld (R := RV (.ref d)) (ee_var (i := 0) rfl rfl) hq E.c_Search E.n_Search_steps rfl rfl) hd E.b_len) (ed_lenV (ee_fld (R := RV (.ref a)) (ee_var (i := 0) rfl rfl) hq E.c_Search E.n_Search_heaps rfl rfl) ha E.b_len) rfl rfl) ?_) ex k
    rw [PyData.eqv]
    by_cases e : ys.length = xs.length
    · simp [e]
    · have : ¬ ((ys.length : Int) = (xs.length : Int)) := by omega
      simp [e, this]
/-- a search that came to its end -/
def SearchR (K : PySem.W.Frag) (N : Net) (L : Nat) : V → Hp → Prop := fun v G => ∃ q dx vl m a b c d hs rs ss kvs, v = .ref q ∧ G q = some (.ins (He.ga K "Search") dx (flS vl m a b c d)) ∧ G a = some (.lst hs) ∧ G b = some (.dT kvs) ∧ G c = some (.lst rs) ∧ G d = some (.lst ss) ∧
  Paired (Rp G) hs ((finN N L).map tI) ∧ Paired (Rp G) ss ((finN N L).map (stepD N (finN N L)))
instance (N : Net) (L : Nat) : MonoR (SearchR K N L) := ⟨fun _ _ _ e ⟨q, dx, vl, m, a, b, c, d, hs, rs, ss, kvs, h0, h1, h2, h3, h4, h5, h6, h7⟩ => ⟨q, dx, vl, m, a, b, c, d, hs, rs, ss, kvs, h0, e _ _ h1, e _ _ h2, e _ _ h3, e _ _ h4, e _ _ h5, Rp.monoAll e _ _ h6, Rp.monoAll e _ _ h7⟩⟩
/-- the four lists, known for good -/
theorem SS.all {N : Net} {F : List Hp'} {f : Fnd} {n : Nat} {G H G0 H0 : Hp} {a b c d : Addr} {hs rs ss : List V} {kvs : List (List Key × V)} (x : SS N F f n G H a b c d hs rs ss kvs) (s : Stp [] G0 H0 G H) (h0 : H0 a = none ∧ H0 b = none ∧ H0 c = none ∧ H0 d = none) :
    ∃ G', Ex G G' ∧ Stp [] G0 H0 G' H ∧ G' a = some (.lst hs) ∧ G' b = some (.dT kvs) ∧ G' c = some (.lst rs) ∧ G' d = some (.lst ss) := by
  have s1 := s.frz x.oa.h h0.1
  have b1 := x.ob.frz (o' := .lst hs) x.ab.symm
  have c1 := x.oc.frz (o' := .lst hs) x.ac.symm
  have d1 := x.od.frz (o' := .lst hs) x.ad.symm
  have s2 := s1.frz b1.h h0.2.1
  have c2 := c1.frz (o' := .dT kvs) x.bc.symm
  have d2 := d1.frz (o' := .dT kvs) x.bd.symm
  have s3 := s2.frz c2.h h0.2.2.1
  have d3 := d2.frz (o' := .lst rs) x.cd.symm
  have s4 := s3.frz d3.h h0.2.2.2
  refine ⟨_, ((x.oa.exG.trans b1.exG).trans c2.exG).trans d3.exG, s4, ?_, ?_, ?_, upd_same⟩
  · exact d3.exG _ _ (c2.exG _ _ (b1.exG _ _ upd_same))
  · exact d3.exG _ _ (c2.exG _ _ upd_same)
  · exact d3.exG _ _ upd_same
theorem ok_searched {N : Net} {L : Nat} {m : Int} (E : Env K mg) (S : Sea N L) (hm : 40 < m) : C8.Cal P w K mg base 4 "searched" (Pr (ACons (LookR K N) (ACons (RD (.int m)) ANil)) (SearchR K N L)) [] :=
  cl_searched E fun cdv A outer s H vs Q E' hr G ex a k => by
    obtain ⟨v0, v1, rfl, lk, r1⟩ := ACons.two a
    obtain rfl := Rp.int_eq r1
    refine ws_setM (i := 2) (A := ACons (LookR K N) (ACons (RD (.int m)) ANil)) sc_searched.nd (ok_Search_init (N := N) (L := L) (m := m) E S.W) hr (ea_cons (ee_var (i := 0) rfl lk) (ea1 (ee_var (i := 1) rfl r1))) ex fun us G1 H1 z dx s1 hz w1 as => ?_
    obtain ⟨vl, vm, rfl, lk1, rm⟩ := ACons.two as
    obtain rfl := Rp.int_eq rm
    refine ⟨z, dx, vl, G1, rfl, s1.i, w1, lk1, by omega, fun G2 H2 a b c d hs rs ss kvs s2 w2 SS2 fr => ⟨rfl, ?_⟩⟩
    have s02 := s1.locs (S' := [z]) (fun y hy => .inr (by
      obtain rfl : y = z := by simpa using hy
      exact hz)) s2
    have fr0 : H a = none ∧ H b = none ∧ H c = none ∧ H d = none := ⟨s1.fresh fr.1, s1.fresh fr.2.1, s1.fresh fr.2.2.1, s1.fresh fr.2.2.2⟩
    have s3 := s02.frz w2.h hz
    have hzs : a ≠ z ∧ b ≠ z ∧ c ≠ z ∧ d ≠ z := by
      have nz : ∀ {q : Addr}, H1 q = none → q ≠ z := fun {q} hq e => by
        have := w1.h
        rw [← e, hq] at this
        cases this
      exact ⟨nz fr.1, nz fr.2.1, nz fr.2.2.1, nz fr.2.2.2⟩
    have SS3 := SS2.frz w2 hzs
    have hq3 : (upd G2 z (.ins (He.ga K "Search") dx (flS vl m a b c d))) z = some (.ins (He.ga K "Search") dx (flS vl m a b c d)) := upd_same
    have eG3 := s2.g.trans w2.exG
    refine ws_whileS PassesOwn.never s3 (fun j σ' G' H' => ∃ i hs rs ss kvs, σ' = [some v0, some (.int m), some (.ref z)] ∧ SS N (finN N L) (stN N i) i G' H' a b c d hs rs ss kvs ∧ i ≤ L ∧ i ≤ (stN N i).length ∧ j = L - i) L ⟨0, hs, rs, ss, kvs, rfl, SS3, Nat.zero_le _, Nat.zero_le _, rfl⟩ ?_
    rintro j σ' G4 H4 e4 s4 ⟨i, hs4, rs4, ss4, kvs4, rfl, SS4, hiL, hil, rfl⟩
    have oa := SS4.oa
    have od := SS4.od.frz (o' := .lst hs4) SS4.ad.symm
    have eU : Ex (upd (upd G4 a (.lst hs4)) d (.lst ss4)) H4 := od.exU (oa.exU s4.i)
    have eUG : Ex G4 (upd (upd G4 a (.lst hs4)) d (.lst ss4)) := oa.exG.trans od.exG
    have lss : ss4.length = i := by
      rw [Paired.length SS4.pss, List.length_map, List.length_take, heapsOf_length, S.e.len]
      omega
    have lhs : hs4.length = (stN N i).length := by rw [Paired.length SS4.phs, List.length_map, heapsOf_length]
    refine ⟨!decide (i = (stN N i).length), _, eU, et_not (et_val (ee_mcal0 (ok_is_done (na := (stN N i).length) (nd := i) E) hr (ee_var (i := 2) (v := .ref z) rfl rfl) (eUG _ _ (e4 _ _ hq3)) rfl ⟨z, dx, vl, m, a, b, c, d, hs4, ss4, rfl, eUG _ _ (e4 _ _ hq3), od.exG _ _ upd_same, upd_same, lhs, lss⟩)), fun H5 s5 => ?_⟩
    have s5' := Stp.weak eUG s5
    by_cases hd : i = (stN N i).length
    · rw [decide_eq_true hd]
      refine iteF ?_
      have hL := S.e.done hiL hd.symm
      subst hL
      have SS5 := SS4.step s5'
      obtain ⟨G6, e6, s6, ha6, hb6, hc6, hd6⟩ := SS5.all (s4.trans s5') fr0
      refine ws_ret (R := SearchR K N i) (ee_var (i := 2) rfl ⟨z, dx, vl, m, a, b, c, d, hs4, rs4, ss4, kvs4, rfl, e6 _ _ (e4 _ _ hq3), ha6, hb6, hc6, hd6, Rp.monoAll e6 _ _ SS5.phs, ?_⟩) s6.i fun v G7 H7 s7 r7 => k v G7 H7 (s6.trans s7) r7
      have := SS5.pss
      rw [List.take_of_length_le (by rw [heapsOf_length, S.e.len]; exact Nat.le_refl _)] at this
      exact Rp.monoAll e6 _ _ this
    · rw [decide_eq_false hd]
      refine iteT ?_
      have SS5 := SS4.step s5'
      have hiL' : i < L := by
        rcases Nat.lt_or_ge i L with h | h
        · exact h
        · have : i = L := by omega
          subst this
          exact absurd S.e.len.symm hd
      refine ws_meth0 (ok_go0 (wanted := none) E S) hr (ee_var (i := 2) (v := .ref z) rfl rfl) (s4.trans s5').i (e4 _ _ hq3) rfl fun H6 s6 => ?_
      have SS6 := SS5.step s6
      refine ⟨G4, z, a, b, c, d, i, .non, m, hs4, rs4, ss4, kvs4, rfl, s6.i, ⟨dx, vl, e4 _ _ hq3, MonoR.mono _ _ _ (eG3.trans e4) lk1⟩, hm, .non, SS6, by omega, hiL', fun G7 H7 f n hs7 rs7 ss7 kvs7 s7 SS7 hf => ?_⟩
      rcases hf with ⟨rfl, rfl⟩ | ⟨h, hn, _⟩
      · refine ws_nil ⟨L - (i + 1), G7, by omega, e4.trans s7.g, ((s4.trans s5').trans s6).locs (fun y hy => .inr ?_) s7, i + 1, hs7, rs7, ss7, kvs7, rfl, SS7, hiL', ?_, rfl⟩
        · simp only [List.mem_cons, List.not_mem_nil, or_false] at hy
          rcases hy with rfl | rfl | rfl | rfl
          · exact fr0.1
          · exact fr0.2.1
          · exact fr0.2.2.1
          · exact fr0.2.2.2
        · have h1 : (stN N i).length ≤ (stN N (i + 1)).length := (st_pre (succ := succN N) (b := N.begin) (Nat.le_succ i)).length_le
          have h2 : ¬ i = (stN N i).length := hd
          omega
      · cases hn
end TK

/-! part F10 -/
set_option Elab.async false
set_option linter.all false
set_option maxRecDepth 100000
set_option maxHeartbeats 4000000
namespace TK
open PySem PySem.Spec PyProof.Rows L2 PG
variable {P : Program} {w : World} {K : PySem.W.Frag} {mg : Str → Option Value} {base : Heap}
theorem bk_reach {fd : FuncData} {f : Addr} (F : FunD K "reach" "reach" (defArgs s_reach) (defBody s_reach) (defScope s_reach) [] [("most", (.int 2000))] f fd) : ∃ ds, Vals [.int 2000] ds ∧ Binds K fd ["net", "most"] ds :=
  F.binds0 1 (by simp) rfl fun D doc pm an cdv ct us ks h1 h2 => match us, ks, h1, h2 with
    | [_], [_], _, _ => ⟨_, _, _, _, _, _, rfl, rfl, rfl⟩
theorem bk_dead {fd : FuncData} {f : Addr} (F : FunD K "dead" "dead" (defArgs s_dead) (defBody s_dead) (defScope s_dead) [] [("most", (.int 2000))] f fd) : ∃ ds, Vals [.int 2000] ds ∧ Binds K fd ["net", "most"] ds :=
  F.binds0 1 (by simp) rfl fun D doc pm an cdv ct us ks h1 h2 => match us, ks, h1, h2 with
    | [_], [_], _, _ => ⟨_, _, _, _, _, _, rfl, rfl, rfl⟩
theorem bk_way {fd : FuncData} {f : Addr} (F : FunD K "way" "way" (defArgs s_way) (defBody s_way) (defScope s_way) [] [("most", (.int 2000))] f fd) : ∃ ds, Vals [.int 2000] ds ∧ Binds K fd ["net", "heap", "most"] ds :=
  F.binds0 2 (by simp) rfl fun D doc pm an cdv ct us ks h1 h2 => match us, ks, h1, h2 with
    | [_, _], [_], _, _ => ⟨_, _, _, _, _, _, rfl, rfl, rfl⟩
section
variable {X : Cx} {σ : L2.St} {G : Hp} {e : Expr} {es : List Expr} {pos p : Pos} {R : V → Hp → Prop}
/-- a call that leaves the last parameters to their defaults -/
theorem ee_calD {k j : Nat} {x : Str} {A A' : List V → Hp → Prop} {dvs : List V} (c : C8.Cal X.prog X.w X.K X.mg X.base k x (Pr A' R) dvs) (hr : Room j X.A) (ha : EA X (e :: es) σ G A) (hA : ∀ vs G', A vs G' → A' (vs ++ dvs) G') (hk : k ≤ j := by decide)
    (hg : Gl X x := by rfl) (hdb : (x == ("__debug__" : Str)) = false := by decide) (he : starEach (e :: es) X.env = (false, eval e X.env) :: starEach es X.env := by rfl) (hpl : (backTo pos (starEach es X.env)).any (·.1) = false := by rfl) :
    EE X (.Call (.Name x p) (e :: es) [] pos) σ G R := ee_call c hr hk hg ha (fun vs G' eg r => ⟨hA vs G' r, rfl⟩) hdb he hpl
end
abbrev most0 : Int := 2000
theorem ok_reach {N : Net} {L : Nat} (E : Env K mg) (S : Sea N L) : C8.Cal P w K mg base 7 "reach" (Pr (ACons (RD (netD N)) (ACons (RD (.int 2000)) ANil)) (RD (.tuple [.list ((finN N L).map tI), .list ((finN N L).map (stepD N (finN N L)))]))) [.int 2000] := by
  obtain ⟨fd, F⟩ := E.f_reach
  obtain ⟨ds, hd, hb⟩ := bk_reach F
  refine cal_pr F E.g_reach hb hd sc_reach (LenA.len (A := ACons (RD (netD N)) (ACons (RD (.int 2000)) ANil))) fun cdv A outer s H vs Q E' hr G ex a k => ?_
  obtain ⟨v0, v1, rfl, r0, r1⟩ := ACons.two a
  refine ws_set (i := 2) (R := SearchR K N L) sc_reach.nd (ee_cal (ok_searched E S (by decide)) hr (ea_cons (ee_cal (ok_look_at E S.W) hr (ea1 (ee_var (i := 0) rfl r0))) (ea1 (ee_var (i := 1) rfl r1)))) ex fun v G1 H1 s1 r => ?_
  obtain ⟨q, dx, vl, m, a', b, c, d, hs, rs, ss, kvs, rfl, hq, ha, hb', hc, hd', phs, pss⟩ := r
  refine ws_ret (R := RD (.tuple [.list ((finN N L).map tI), .list ((finN N L).map (stepD N (finN N L)))])) (ed_tup (hl := by simp) (ad_cons (ee_fld (R := RD (.list ((finN N L).map tI))) (ee_var (i := 2) rfl rfl) hq E.c_Search E.n_Search_heaps rfl (.lst ha phs)) (ad_cons (ee_fld (R := RD (.list ((finN N L).map (stepD N (finN N L))))) (ee_var (i := 2) rfl rfl) hq E.c_Search E.n_Search_steps rfl (.lst hd' pss)) ad_nil))) s1.i fun v G2 H2 s2 r2 => k v G2 H2 (s1.trans s2) r2
def isDead (N : Net) (h : Hp') : Bool := (succN N h).isEmpty
theorem eqv_stepD (N : Net) (F : List Hp') (h : Hp') : PyData.eqv (stepD N F h) (.list []) = isDead N h := by
  unfold stepD isDead
  cases succN N h with
  | nil => rfl
  | cons s l => rw [List.map_cons, PyData.eqv, PyData.eqvAll]; rfl
theorem shp_stepD {N : Net} (W : Wf N) (F : List Hp') (h : Hp') : shp 2 (stepD N F h) := shp_lst fun s hs => by
  obtain ⟨f, hf, rfl⟩ := List.mem_map.mp hs
  exact shp_t2 (shp_name (W.fnm f (List.mem_filter.mp hf).1)) (shp_int _)
theorem ok_dead {N : Net} {L : Nat} (E : Env K mg) (S : Sea N L) : C8.Cal P w K mg base 7 "dead" (Pr (ACons (RD (netD N)) (ACons (RD (.int 2000)) ANil)) (RD (.list (((finN N L).filter (isDead N)).map tI)))) [.int 2000] := by
  obtain ⟨fd, F⟩ := E.f_dead
  obtain ⟨ds, hd, hb⟩ := bk_dead F
  refine cal_pr F E.g_dead hb hd sc_dead (LenA.len (A := ACons (RD (netD N)) (ACons (RD (.int 2000)) ANil))) fun cdv A outer s H vs Q E' hr G ex a k => ?_
  obtain ⟨v0, v1, rfl, r0, r1⟩ := ACons.two a
  refine ws_set (i := 2) (R := SearchR K N L) sc_dead.nd (ee_cal (ok_searched E S (by decide)) hr (ea_cons (ee_cal (ok_look_at E S.W) hr (ea1 (ee_var (i := 0) rfl r0))) (ea1 (ee_var (i := 1) rfl r1)))) ex fun v G1 H1 s1 r => ?_
  obtain ⟨q, dx, vl, m, a', b, c, d, hs, rs, ss, kvs, rfl, hq, ha, hb', hc, hd', phs, pss⟩ := r
  refine ws_ret (R := RD (.list (((finN N L).filter (isDead N)).map tI))) ?_ s1.i fun v G2 H2 s2 r2 => k v G2 H2 (s1.trans s2) r2
  have e1 : (List.range ((finN N L).map tI).length).filterMap (fun i => (finN N L)[i]?.bind fun h => if isDead N h = true then some (tI h) else none) = ((finN N L).filter (isDead N)).map tI := by
    rw [List.length_map, range_fm, fm_if]
  rw [← e1]
  refine ed_lc (own := [("heap", 3), ("some", 4)]) rfl sc_dead.nd (ei_zipS (k1 := .l) (k2 := .l) (ds := (finN N L).map tI) (ds' := (finN N L).map (stepD N (finN N L))) (ee_fld (R := RD (.list ((finN N L).map tI))) (ee_var (i := 2) rfl rfl) hq E.c_Search E.n_Search_heaps rfl (.lst ha phs)) (ee_fld (R := RD (.list ((finN N L).map (stepD N (finN N L))))) (ee_var (i := 2) rfl rfl) hq E.c_Search E.n_Search_steps rfl (.lst hd' pss)) (by simp) E.b_zip)
    (blkOk_by (N := N_dead) (sc := defScope s_dead) (by decide +kernel)) _ (fun i x G' eg hi y => ?_) (by have := S.le; rw [List.length_map, heapsOf_length, S.e.len]; omega)
  obtain ⟨d1, d2, u, v, t, h1, h2, rfl, ht, ru, rv⟩ := y
  rw [List.getElem?_map] at h1 h2
  obtain ⟨h, hh, rfl⟩ := Option.map_eq_some_iff.mp h1
  rw [hh] at h2
  obtain rfl := Option.some.inj h2
  rw [hh]
  refine Turn1.test ⟨_, ?_, fun s H C cl fp => ⟨eg_tup2 rfl ht (eg_name (i := 3) sc_dead.nd) (eg_name (i := 4) sc_dead.nd), ?_, fun _ => ?_⟩⟩
  · rfl
  · exact ets_one (et_is (et_eq hr (ee_var (i := 4) rfl rv) (ed_lst ad_nil) (shp_stepD S.W _ _).of rfl) (eqv_stepD N _ h))
  · exact ee_var (i := 3) rfl ru
/-- the row to a heap -/
def rowOf (N : Net) (L : Nat) (h : Hp') : List Str := (((stN N L)[(finN N L).idxOf h]?).map (·.2)).getD []
theorem ok_way {N : Net} {L : Nat} {h : Hp'} (E : Env K mg) (S : Sea N L) (hh : h ∈ finN N L) : C8.Cal P w K mg base 7 "way" (Pr (ACons (RD (netD N)) (ACons (RD (tI h)) (ACons (RD (.int 2000)) ANil))) (RD (.tuple [.str "row", rowD (rowOf N L h)]))) [.int 2000] := by
  obtain ⟨fd, F⟩ := E.f_way
  obtain ⟨ds, hd, hb⟩ := bk_way F
  refine cal_pr F E.g_way hb hd sc_way (LenA.len (A := ACons (RD (netD N)) (ACons (RD (tI h)) (ACons (RD (.int 2000)) ANil)))) fun cdv A outer s H vs Q E' hr G ex as k => ?_
  obtain ⟨v0, vh, v2, rfl, r0, rh, r2⟩ := ACons.three as
  obtain rfl := Rp.int_eq r2
  have hip := S.hip L h hh
  refine ws_set (i := 3) (R := LookR K N) sc_way.nd (ee_cal (ok_look_at E S.W) hr (ea1 (ee_var (i := 0) rfl r0))) ex fun vk G1 H1 s1 lk => ?_
  refine ws_expr (R := RD .none) (ee_cal (ok_must_heap E S.W hip) hr (ea_cons (ee_var (i := 0) rfl (Rp.mono s1.g _ _ r0)) (ea1 (ee_var (i := 1) rfl (Rp.mono s1.g _ _ rh))))) s1.i fun _ G2 H2 s2 _ => ?_
  have s02 := s1.trans s2
  refine ws_setM (i := 4) (A := ACons (LookR K N) (ACons (RD (.int 2000)) ANil)) sc_way.nd (ok_Search_init (N := N) (L := L) (m := 2000) E S.W) hr (ea_cons (ee_var (i := 3) rfl (MonoR.mono _ _ _ s2.g lk)) (ea1 (ee_var (i := 2) rfl (.int _)))) s02.i fun us G3 H3 z dx s3 hz w3 as3 => ?_
  obtain ⟨vl, vm, rfl, lk3, rm⟩ := ACons.two as3
  obtain rfl := Rp.int_eq rm
  refine ⟨z, dx, vl, G3, rfl, s3.i, w3, lk3, by omega, fun G4 H4 a b c d hs rs ss kvs s4 w4 SS4 fr => ⟨rfl, ?_⟩⟩
  have s03 := s02.trans s3
  have hz0 := s02.fresh hz
  have s04 := s03.locs (S' := [z]) (fun y hy => .inr (by
    obtain rfl : y = z := by simpa using hy
    exact hz0)) s4
  have fr0 : H a = none ∧ H b = none ∧ H c = none ∧ H d = none := ⟨s03.fresh fr.1, s03.fresh fr.2.1, s03.fresh fr.2.2.1, s03.fresh fr.2.2.2⟩
  have s5 := s04.frz w4.h hz0
  have hzs : a ≠ z ∧ b ≠ z ∧ c ≠ z ∧ d ≠ z := by
    have nz : ∀ {q : Addr}, H3 q = none → q ≠ z := fun {q} hq e => by
      have := w3.h
      rw [← e, hq] at this
      cases this
    exact ⟨nz fr.1, nz fr.2.1, nz fr.2.2.1, nz fr.2.2.2⟩
  have SS5 := SS4.frz w4 hzs
  have hq5 : (upd G4 z (.ins (He.ga K "Search") dx (flS vl 2000 a b c d))) z = some (.ins (He.ga K "Search") dx (flS vl 2000 a b c d)) := upd_same
  have eG5 : Ex G3 (upd G4 z (.ins (He.ga K "Search") dx (flS vl 2000 a b c d))) := s4.g.trans w4.exG
  have rh5 := Rp.mono ((s1.g.trans s2.g).trans (s3.g.trans eG5)) _ _ rh
  refine ws_whileS PassesOwn.never s5 (fun j σ' G' H' => ∃ f n hs rs ss kvs, σ' = [some v0, some vh, some (.int 2000), some vk, some (.ref z)] ∧ SS N (finN N L) f n G' H' a b c d hs rs ss kvs ∧
      ((f = stN N n ∧ n ≤ L ∧ n ≤ (stN N n).length ∧ j = L - n + 1) ∨ (h ∈ heapsOf f ∧ f <+: stN N L ∧ j = 0))) (L + 1) ⟨_, 0, hs, rs, ss, kvs, rfl, SS5, .inl ⟨rfl, Nat.zero_le _, Nat.zero_le _, rfl⟩⟩ ?_
  rintro j σ' G6 H6 e6 s6 ⟨f, n, hs6, rs6, ss6, kvs6, rfl, SS6, hf⟩
  have oa := SS6.oa
  have ob := SS6.ob.frz (o' := .lst hs6) SS6.ab.symm
  have od := (SS6.od.frz (o' := .lst hs6) SS6.ad.symm).frz (o' := .dT kvs6) SS6.bd.symm
  have eU : Ex (upd (upd (upd G6 a (.lst hs6)) b (.dT kvs6)) d (.lst ss6)) H6 := od.exU (ob.exU (oa.exU s6.i))
  have eUG : Ex G6 (upd (upd (upd G6 a (.lst hs6)) b (.dT kvs6)) d (.lst ss6)) := (oa.exG.trans ob.exG).trans od.exG
  have hqU := eUG _ _ (e6 _ _ hq5)
  have hbU : (upd (upd (upd G6 a (.lst hs6)) b (.dT kvs6)) d (.lst ss6)) b = some (.dT kvs6) := od.exG _ _ upd_same
  have lhs : hs6.length = f.length := by rw [Paired.length SS6.phs, List.length_map, heapsOf_length]
  refine ⟨!decide (h ∈ heapsOf f) && !decide (ss6.length = f.length), _, eU, et_and (et_is (et_notInT (ns := h) (kvs := kvs6) (hip.ne S.W) hr (ee_var (i := 1) rfl (Rp.mono (e6.trans eUG) _ _ rh5)) (ee_fld (R := RV (.ref b)) (ee_var (i := 4) rfl rfl) hqU E.c_Search E.n_Search_numbers rfl rfl) hbU) (by rw [SS6.pks.get])) fun _ =>
    et_not (et_val (ee_mcal0 (ok_is_done (na := f.length) (nd := ss6.length) E) hr (ee_var (i := 4) (v := .ref z) rfl rfl) hqU rfl ⟨z, dx, vl, 2000, a, b, c, d, hs6, ss6, rfl, hqU, od.exG _ _ (ob.exG _ _ upd_same), upd_same, lhs, rfl⟩)), fun H7 s7 => ?_⟩
  have s7' := Stp.weak eUG s7
  have s07 := s6.trans s7'
  have SS7 := SS6.step s7'
  by_cases hin : h ∈ heapsOf f
  · rw [decide_eq_true hin]
    refine iteF ?_
    have hpre : f <+: stN N L := by
      rcases hf with ⟨rfl, hnL, _⟩ | ⟨_, hp, _⟩
      · exact st_pre hnL
      · exact hp
    have ob7 := SS7.ob
    refine ws_ifT (G := upd G6 b (.dT kvs6)) (et_is (et_inT (ns := h) (kvs := kvs6) (hip.ne S.W) hr (ee_var (i := 1) rfl (Rp.mono (e6.trans ob7.exG) _ _ rh5)) (ee_fld (R := RV (.ref b)) (ee_var (i := 4) rfl rfl) (ob7.exG _ _ (e6 _ _ hq5)) E.c_Search E.n_Search_numbers rfl rfl) upd_same) (by rw [SS6.pks.get, decide_eq_true hin])) (ob7.exU s07.i) fun H8 s8 => ?_
    have s8' := Stp.weak ob7.exG s8
    have SS8 := SS7.step s8'
    obtain ⟨G9, e9, s9, ha9, hb9, hc9, hd9⟩ := SS8.all (s07.trans s8') fr0
    have hix : (heapsOf f).idxOf h < f.length := by
      rw [← heapsOf_length]
      exact List.idxOf_lt_length_iff.mpr hin
    have hget : (heapsOf f)[(heapsOf f).idxOf h]? = some h := by
      rw [List.getElem?_eq_getElem (by rw [heapsOf_length]; exact hix), List.getElem_idxOf]
    have hidx : (finN N L).idxOf h = (heapsOf f).idxOf h := idx_of (st_nd L) (pre_get (heapsOf_pre hpre) hget)
    have hfp : f[(finN N L).idxOf h]? = some (f[(heapsOf f).idxOf h]) := by rw [hidx]; exact List.getElem?_eq_getElem hix
    have hrow : rowOf N L h = (f[(heapsOf f).idxOf h]).2 := by
      unfold rowOf
      rw [pre_get hpre hfp]
      rfl
    obtain ⟨vr, hvr, rvr⟩ := paired_get' (d := rowD (rowOf N L h)) (Rp.monoAll e9 _ _ SS8.prs) (by rw [List.getElem?_map, hfp, hrow]; rfl)
    have hq9 := e9 _ _ (e6 _ _ hq5)
    have rh9 := Rp.mono (e6.trans e9) _ _ rh5
    refine ws_ret (R := RD (.tuple [.str "row", rowD (rowOf N L h)])) (ed_tup (hl := by simp) (ad_cons ed_str (ad_cons (ee_ixL (R := RD (rowD (rowOf N L h))) (i := ((finN N L).idxOf h : Nat)) (ee_fld (R := RV (.ref c)) (ee_var (i := 4) rfl rfl) hq9 E.c_Search E.n_Search_rows rfl rfl) hc9
      (ee_dgetT (ns := h) (R := RD (.int ((finN N L).idxOf h : Nat))) (hip.ne S.W) hr (ee_fld (R := RV (.ref b)) (ee_var (i := 4) rfl rfl) hq9 E.c_Search E.n_Search_numbers rfl rfl) hb9 (ee_var (i := 1) rfl rh9) (SS6.pks.is _ hin) (.int _)) (L2.atI_nat hvr) rvr) ad_nil))) s9.i fun v G10 H10 s10 r10 => k v G10 H10 (s9.trans s10) r10
  · rcases hf with ⟨rfl, hnL, hnl, rfl⟩ | ⟨hin', _⟩
    · have lss : ss6.length = n := by
        rw [Paired.length SS6.pss, List.length_map, List.length_take, heapsOf_length, S.e.len]
        omega
      have hnd : ¬ n = (stN N n).length := fun e => by
        have hL := S.e.done hnL e.symm
        subst hL
        exact hin hh
      have hnL' : n < L := by
        rcases Nat.lt_or_ge n L with q | q
        · exact q
        · have : n = L := by omega
          subst this
          exact absurd S.e.len.symm hnd
      rw [decide_eq_false hin, lss, decide_eq_false hnd]
      refine iteT ?_
      refine ws_methA (A := ACons (RD (tI h)) ANil) (ok_go1 (wanted := some h) E S) hr (ee_var (i := 4) (v := .ref z) rfl rfl) s07.i (e6 _ _ hq5) rfl (ea1 (ee_var (i := 1) rfl (Rp.mono e6 _ _ rh5))) fun us G8 H8 s8 as8 => ?_
      obtain ⟨vh8, rfl, rh8⟩ := ACons.one as8
      have SS8 := SS7.step s8
      refine ⟨G8, z, a, b, c, d, n, vh8, 2000, hs6, rs6, ss6, kvs6, rfl, s8.i, ⟨dx, vl, s8.g _ _ (e6 _ _ hq5), MonoR.mono _ _ _ ((eG5.trans e6).trans s8.g) lk3⟩, by decide, rh8, SS8, by omega, hnL', fun G9 H9 f' n' hs9 rs9 ss9 kvs9 s9 SS9 hf' => ?_⟩
      have s09 := (s07.trans s8).locs (S' := [a, b, c, d]) (fun y hy => .inr (by
        simp only [List.mem_cons, List.not_mem_nil, or_false] at hy
        rcases hy with rfl | rfl | rfl | rfl
        · exact fr0.1
        · exact fr0.2.1
        · exact fr0.2.2.1
        · exact fr0.2.2.2)) s9
      rcases hf' with ⟨rfl, rfl⟩ | ⟨h', hn, hin', hpre⟩
      · refine ws_nil ⟨L - (n + 1) + 1, G9, by omega, e6.trans (s8.g.trans s9.g), s09, _, n + 1, hs9, rs9, ss9, kvs9, rfl, SS9, .inl ⟨rfl, hnL', ?_, rfl⟩⟩
        have h1 : (stN N n).length ≤ (stN N (n + 1)).length := (st_pre (succ := succN N) (b := N.begin) (Nat.le_succ n)).length_le
        omega
      · obtain rfl := Option.some.inj hn
        exact ws_nil ⟨0, G9, by omega, e6.trans (s8.g.trans s9.g), s09, f', n', hs9, rs9, ss9, kvs9, rfl, SS9, .inr ⟨hin', hpre, rfl⟩⟩
    · exact absurd hin' hin
end TK

/-! part Q6 -/
set_option Elab.async false
set_option linter.all false
set_option maxRecDepth 100000
set_option maxHeartbeats 4000000
/-! PG, rules of my own: sorted of alike data, of a dict by tuples; list of a dict by tuples. -/
namespace PG
open PySem PySem.Spec PyProof.Rows L2
open PySem.W (EachIs dataLe AllAlike Sortable keyToks dataKind sortVals SortsAt)
section
variable {β : Type}
/-- the values of items in the order of their data -/
def sortP (f : β → PyData) (l : List (V × β)) : List (V × β) := l.mergeSort (dataLe false fun q => f q.2)
def sortB (f : β → PyData) (l : List β) : List β := l.mergeSort (dataLe false f)
theorem sortP_snd (f : β → PyData) (l : List (V × β)) : (sortP f l).map (·.2) = sortB f (l.map (·.2)) := PySem.W.sort_maps (fun q : V × β => q.2) fun a _ b _ => rfl
theorem each_vals : ∀ {ys : List V} {vs : List Value} {bs : List β}, Vals ys vs → ys.length = bs.length → EachIs (fun v (q : V × β) => RelV q.1 v) vs (ys.zip bs)
  | [], _, [], r, _ => by cases r; exact .nil
  | [], _, _ :: _, _, h => by simp at h
  | _ :: _, _, [], _, h => by simp at h
  | y :: ys, _, b :: bs, r, h => by
    cases r with
    | cons r t => exact .cons r (each_vals t (by simpa using h))
theorem vals_each : ∀ {vs : List Value} {qs : List (V × β)}, EachIs (fun v (q : V × β) => RelV q.1 v) vs qs → Vals (qs.map (·.1)) vs
  | _, _, .nil => .nil
  | _, _, .cons r t => .cons r (vals_each t)
theorem each_reads {h : Heap} : ∀ {vs : List Value} {ds : List PyData} {as : List Addr}, ReadsAll h vs ds as → EachIs (fun v d => ∃ as, Reads h v d as) vs ds
  | _, _, _, .nil => .nil
  | _, _, _, .cons r t => .cons ⟨_, r⟩ (each_reads t)
theorem each_keys {h : Heap} {f : β → PyData} {B : List PyData} (hal : AllAlike B) : ∀ {ys : List V} {vs : List Value} {bs : List β}, ys.length = bs.length → EachIs (fun v d => ∃ as, Reads h v d as) vs (bs.map f) → (∀ b ∈ bs, f b ∈ B) → EachIs (fun v (q : V × β) => (dataKind h B).keyOf v = some (keyToks (f q.2))) vs (ys.zip bs)
  | [], _, [], _, e, _ => by cases e; exact .nil
  | [], _, _ :: _, h, _, _ => by simp at h
  | _ :: _, _, [], h, _, _ => by simp at h
  | y :: ys, _, b :: bs, h, e, hb => by
    cases e with
    | cons r t =>
      obtain ⟨as, r⟩ := r
      exact .cons (PySem.W.dataKind_some hal (hb b (List.mem_cons_self ..)) r) (each_keys hal (by simpa using h) t fun c hc => hb c (List.mem_cons_of_mem _ hc))
end
section
variable {X : Cx}
def rSortA {β : Type} (K : PySem.W.Frag) (f : β → PyData) : List V → Hp → VK → Prop := fun xs H Q => ∃ (a : Addr) (ys : List V) (bs : List β), xs = [.ref a] ∧ SqL K H a ys ∧ DpAll K H ys (bs.map f) ∧ AllAlike (bs.map f) ∧ Sortable (bs.map f) ∧ (∀ b ∈ bs, (f b).depth ≤ 64) ∧
  ∀ p, H p = none → Q (.ref p) (L2.upd H p (.lst ((sortP f (ys.zip bs)).map (·.1))))
theorem dpAll_len {K : PySem.W.Frag} {H : Hp} : ∀ {ys : List V} {ds : List PyData}, DpAll K H ys ds → ys.length = ds.length
  | _, _, .nil => rfl
  | _, _, .cons _ t => by rw [List.length_cons, List.length_cons, dpAll_len t]
theorem cr_sortA {β : Type} {f : β → PyData} (hu : X.A.units + 100 < cLine) : CallR X (.builtin "sorted") (rSortA X.K f) := by
  intro pins s σ H vs us Q I r h
  obtain ⟨a, ys, bs, rfl, hs, hd, hal, hsb, hdp, q⟩ := h
  obtain ⟨its, rv, hl, hz⟩ := I.list hs
  rw [Vals.ref1 r]
  obtain ⟨as, hr⟩ := Dp.readsAll I _ _ _ hd rv
  have hlen : ys.length = bs.length := by rw [dpAll_len hd, List.length_map]
  have hz2 : its.length ≤ sizeLine := by rw [← rv.length]; exact hz
  have e0 := each_reads (ReadsAll.keeps (fun b o e => PySem.W.sorting_copy_old (vs := its) e) hr)
  refine PySem.W.sorted_vals (κ := dataKind _ (bs.map f)) hl.isList (SortsAt.data (s := { s with heap := PySem.W.sortingHeap (PySem.W.copyHeap s.heap its) (s.heap.objs.size + 1) its }) e0 hal hsb fun d hdm => ?_) hz2 ?_
  · obtain ⟨b, hb, rfl⟩ := List.mem_map.mp hdm
    have h1 := hdp b hb
    have h2 : X.A.in1.in1.units ≤ X.A.units + 2 := Nat.le_refl _
    omega
  · have e1 := PySem.W.sortVals_each (κ := dataKind (PySem.W.sortingHeap (PySem.W.copyHeap s.heap its) (s.heap.objs.size + 1) its) (bs.map f)) (rev := false) (fun q : V × β => keyToks (f q.2)) (each_vals (bs := bs) rv hlen) (each_keys (ys := ys) hal hlen e0 fun b hb => List.mem_map_of_mem hb)
    have e2 := vals_each e1
    obtain ⟨ep, he'⟩ := PyProof.Rows.sortedAll_at s.heap its (sortVals (dataKind (PySem.W.sortingHeap (PySem.W.copyHeap s.heap its) (s.heap.objs.size + 1) its) (bs.map f)) false its its).toArray
    have hlen2 : ((sortP f (ys.zip bs)).map (·.1)).length ≤ sizeLine := by
      unfold sortP
      rw [List.length_map, List.length_mergeSort, List.length_zip, hlen, Nat.min_self, ← hlen]
      exact hz
    exact ⟨.ref _, L2.upd H (s.heap.objs.size + 1) (.lst ((sortP f (ys.zip bs)).map (·.1))), I.laid (t' := s.toks) (fun _ _ => PyProof.Rows.sortedAll_old) (Nat.le_succ _) ⟨hlen2, _, ep, e2, he'⟩, rfl, q _ (I.hok.fresh (Nat.le_succ _))⟩
/-- sorted(d), d by tuples -/
def rSortDT : List V → Hp → VK → Prop := fun xs H Q => ∃ (d : Addr) (kvs : List (List Key × V)) (bs : List (List Int)), xs = [.ref d] ∧ Rd H d (.dT kvs) ∧ kvs.map (·.1) = bs.map (fun ns => ns.map Sum.inl) ∧ (∀ ns ∈ bs, ns ≠ []) ∧
  ∀ (p : Addr) (ts : List Addr), H p = none → ts.length = bs.length → (∀ q ∈ ts.zip bs, H q.1 = some (.tup (q.2.map V.int))) → Q (.ref p) (L2.upd H p (.lst ((sortP tI ((ts.map V.ref).zip bs)).map (·.1))))
theorem alike_ints : ∀ x y : List Int, PySem.W.alikeAll (x.map .int) (y.map .int) = true
  | [], _ => by simp [PySem.W.alikeAll]
  | _ :: _, [] => by simp [PySem.W.alikeAll]
  | a :: x, b :: y => by simp [PySem.W.alikeAll, PySem.W.alike, alike_ints x y]
theorem alike_tI (bs : List (List Int)) : AllAlike (bs.map tI) := fun d hd e he => by
  obtain ⟨x, _, rfl⟩ := List.mem_map.mp hd
  obtain ⟨y, _, rfl⟩ := List.mem_map.mp he
  rw [PySem.W.alike]
  exact alike_ints x y
theorem sortable_tI {bs : List (List Int)} (h : ∀ ns ∈ bs, ns ≠ []) : Sortable (bs.map tI) := .inl fun d hd => by
  obtain ⟨x, hx, rfl⟩ := List.mem_map.mp hd
  cases x with
  | nil => exact absurd rfl (h _ hx)
  | cons a x => exact ⟨.int a, x.map .int, rfl⟩
theorem depth_ints : ∀ x : List Int, PyData.depthAll (x.map .int) = 0
  | [] => by simp [PyData.depthAll]
  | a :: x => by simp [PyData.depthAll, PyData.depth, depth_ints x]
theorem depth_tI (x : List Int) : (tI x).depth = 1 := by rw [PyData.depth, depth_ints]
theorem ints_dpAll {K : PySem.W.Frag} {H : Hp} : ∀ b : List Int, DpAll K H (b.map V.int) (b.map PyData.int)
  | [] => .nil
  | i :: b => .cons (.int i) (ints_dpAll b)
theorem cr_sortDT (hcalm : X.calm = true) (hu : X.A.units + 100 < cLine) : CallR X (.builtin "sorted") rSortDT := by
  intro pins s σ H xs us Q I r h
  obtain ⟨d, kvs, bs, rfl, hd, hks, hne, q⟩ := h
  obtain ⟨u, rfl, rx⟩ := r.one
  cases rx
  obtain ⟨z, hsys, ks, pr, o, es, ep, ho, hx, hdt, he, hn⟩ := (show ObjOk X.prog X.w H s.heap d (.dT kvs) from hd.ok I.hok)
  have l1 : es.size = ks.length := size_of_entries he
  have l2 : kvs.length = ks.length := Paired.length pr
  have l3 : kvs.length = bs.length := by
    have := congrArg List.length hks
    rw [List.length_map, List.length_map] at this
    exact this
  refine Calls.call_function_entry PyProof.Rows.kind_sorted PyProof.Rows.plain_sorted PyProof.Rows.entry_sorted (PyProof.Rows.args_sorted1 _) ?_
  unfold Builtin.«sorted»
  refine wpAny_bind (m := checkCount "sorted" 1 1 _) (wpAny_pure ?_)
  refine wpAny_bind (PySem.W.kdu_collect (A := X.A.in1) (kdl_raw hsys hx hdt) (I.ok.hd hcalm) ho (by omega) fun h' tk acc hk it => ?_)
  have ea : acc.toList = (ks.map fun x : List Key × Addr × Value => x.2.1).map Value.ref := by
    have hl : acc.toList.length = ks.length := by rw [Array.length_toList, it.1]; exact l1
    apply List.ext_getElem?
    intro j
    rw [List.map_map, List.getElem?_map]
    cases hj : acc.toList[j]? with
    | none =>
      have h1 := List.getElem?_eq_none_iff.mp hj
      rw [List.getElem?_eq_none (by omega)] <;> rfl
    | some v =>
      obtain ⟨en, hen, hv⟩ := it.2 j v (by rw [← Array.getElem?_toList]; exact hj)
      have qe := entry_at he j
      rw [hen] at qe
      cases hb : ks[j]? with
      | none =>
        rw [hb] at qe
        exact nomatch (show some en = none from qe)
      | some b =>
        rw [hb] at qe
        have e2 : en = entryOfKey (tupleKind (mixKind X.prog X.w)) b := Option.some.inj qe
        rw [hv, e2]
        rfl
  have I1 : Inv X pins σ H { s with heap := h', toks := tk } := I.kept hk
  have hts : ∀ q ∈ (ks.map fun x : List Key × Addr × Value => x.2.1).zip bs, H q.1 = some (.tup (q.2.map V.int)) := by
    have kk := isKeys_of pr
    intro q hq
    obtain ⟨j, hj⟩ := List.mem_iff_getElem?.mp hq
    obtain ⟨h1, h2⟩ := List.getElem?_zip_eq_some.mp hj
    obtain ⟨kv, h3, h4⟩ := Paired.get kk h1
    have h5 : (kvs.map (·.1))[j]? = some kv.1 := by rw [List.getElem?_map, h3]; rfl
    rw [hks, List.getElem?_map, h2] at h5
    have h6 : kv.1 = q.2.map Sum.inl := (Option.some.inj h5).symm
    rw [h4, h6, ints_keys]
  have hdp : DpAll X.K H ((ks.map fun x : List Key × Addr × Value => x.2.1).map V.ref) (bs.map tI) := by
    have hl : (ks.map fun x : List Key × Addr × Value => x.2.1).length = bs.length := by rw [List.length_map]; omega
    revert hts hl
    generalize (ks.map fun x : List Key × Addr × Value => x.2.1) = ts
    intro hts hl
    clear q l3 hks hne
    induction ts generalizing bs with
    | nil =>
      cases bs with
      | nil => exact .nil
      | cons b bs => simp at hl
    | cons t ts ih =>
      cases bs with
      | nil => simp at hl
      | cons b bs =>
        refine .cons (.tup (SqT.of (hts (t, b) (by simp))) ?_) (ih (bs := bs) (fun q hq => hts q (by simp [hq])) (by simpa using hl))
        exact ints_dpAll b
  have rv : Vals ((ks.map fun x : List Key × Addr × Value => x.2.1).map V.ref) acc.toList := by rw [ea]; exact vals_refs _
  have hlen : ((ks.map fun x : List Key × Addr × Value => x.2.1).map V.ref).length = bs.length := by rw [List.length_map, List.length_map]; omega
  have hz2 : acc.toList.length ≤ sizeLine := by rw [← rv.length, hlen]; omega
  refine wpAny_bind (wpAny_newList ?_ hz2)
  have hoL : (h'.push (seqObj "list" acc.toList.toArray 0)).get? h'.objs.size = some (seqObj "list" acc.toList.toArray 0) := Heap.get?_push_size _ rfl
  show wpAny _ _ _ _ _ { s with heap := h'.push (seqObj "list" acc.toList.toArray 0), toks := tk }
  obtain ⟨as, hr⟩ := Dp.readsAll I1 _ _ _ hdp rv
  have hr2 : ReadsAll (h'.push (seqObj "list" acc.toList.toArray 0)) acc.toList (bs.map tI) as := ReadsAll.keeps (fun b o e => Heap.get?_push_of_some _ e) hr
  have hr3 := ReadsAll.keeps (h' := PySem.W.sortingHeap (h'.push (seqObj "list" acc.toList.toArray 0)) h'.objs.size acc.toList) (fun b o e => by
    have hlt : b < h'.objs.size := Heap.lt_size e
    exact PySem.W.sortingHeap_old (Nat.ne_of_lt hlt) (Heap.get?_push_of_some _ e)) hr
  have e0 := each_reads hr3
  have hal := alike_tI bs
  refine wpAny_bind (wpAny_holding (wpAny_call_entry PyProof.Rows.slot_list_sort ⟨_, hoL, rfl⟩ PyProof.Rows.entry_list_sort
    (PySem.W.list_sort_vals (κ := dataKind _ (bs.map tI)) hoL (SortsAt.data (s := { s with heap := PySem.W.sortingHeap (h'.push (seqObj "list" acc.toList.toArray 0)) h'.objs.size acc.toList, toks := tk }) e0 hal (sortable_tI hne) fun d hdm => ?_) hz2 ⟨_, rfl, ?_⟩) (PyProof.Rows.args_list_sort _)))
  · obtain ⟨b, hb, rfl⟩ := List.mem_map.mp hdm
    rw [depth_tI]
    have h2 : X.A.in1.in1.units ≤ X.A.units + 2 := Nat.le_refl _
    omega
  · have e1 := PySem.W.sortVals_each (κ := dataKind (PySem.W.sortingHeap (h'.push (seqObj "list" acc.toList.toArray 0)) h'.objs.size acc.toList) (bs.map tI)) (rev := false) (fun q : V × List Int => keyToks (tI q.2)) (each_vals (bs := bs) rv hlen) (each_keys (ys := (ks.map fun x : List Key × Addr × Value => x.2.1).map V.ref) hal hlen e0 fun b hb => List.mem_map_of_mem hb)
    have e2 := vals_each e1
    obtain ⟨ep', he'⟩ := PyProof.Rows.sortedHeap_at (vs := acc.toList) (out := (sortVals (dataKind (PySem.W.sortingHeap (h'.push (seqObj "list" acc.toList.toArray 0)) h'.objs.size acc.toList) (bs.map tI)) false acc.toList acc.toList).toArray) hoL
    have hlen2 : ((sortP tI (((ks.map fun x : List Key × Addr × Value => x.2.1).map V.ref).zip bs)).map (·.1)).length ≤ sizeLine := by
      unfold sortP
      rw [List.length_map, List.length_mergeSort, List.length_zip, hlen, Nat.min_self]
      omega
    refine wpAny_pure ⟨_, rfl, .ref h'.objs.size, L2.upd H h'.objs.size (.lst ((sortP tI (((ks.map fun x : List Key × Addr × Value => x.2.1).map V.ref).zip bs)).map (·.1))), I1.laid (t' := tk) (fun b u e => ?_) (Nat.le_refl _) ⟨hlen2, _, ep', e2, he'⟩, rfl, q _ _ (I1.hok.fresh (Nat.le_refl _)) (by rw [List.length_map]; omega) hts⟩
    have hb : b < h'.objs.size := Heap.lt_size e
    rw [PyProof.Rows.sortedHeap_old (Nat.ne_of_lt hb) (by rw [PyProof.Rows.size_push']; exact Nat.lt_succ_of_lt hb)]
    exact Heap.get?_push_of_some _ e
end
end PG

/-! part P15 -/
set_option Elab.async false
set_option linter.all false
set_option maxRecDepth 100000
set_option maxHeartbeats 4000000
/-! PG, part 15: sorted, list of dicts by tuples. -/
namespace PG
open PySem PySem.Spec PyProof.Rows L2
open PySem.W (EachIs dataLe AllAlike Sortable keyToks dataKind sortVals SortsAt)
section
variable {X : Cx} {σ σ' : L2.St} {G G0 G1 G2 H H0 H1 H2 : Hp} {e a b c o i l tg iter kx vx elt : Expr} {es : List Expr} {R : V → Hp → Prop} {O : HO → Hp → Prop} {A : List V → Hp → Prop} {pos pp apos cpos : Pos} {p : Addr} {S : List Addr}
theorem frzTs : ∀ (ts : List Addr) {G1 : Hp}, Stp S G H G1 H1 → (∀ t ∈ ts, ∃ ys, H1 t = some (.tup ys)) → ∃ G2, Stp S G H G2 H1 ∧ Ex G1 G2 ∧ ∀ t ∈ ts, ∀ ys, H1 t = some (.tup ys) → G2 t = some (.tup ys)
  | [], G1, s, _ => ⟨G1, s, Ex.refl _, fun t ht => by simp at ht⟩
  | t :: ts, G1, s, h => by
    obtain ⟨ys, hy⟩ := h t (List.mem_cons_self ..)
    obtain ⟨s1, e1⟩ := s.frzT hy
    obtain ⟨G2, s2, e2, k2⟩ := frzTs ts s1 fun t' ht' => h t' (List.mem_cons_of_mem _ ht')
    refine ⟨G2, s2, e1.trans e2, fun t' ht' ys' hy' => ?_⟩
    rcases List.mem_cons.mp ht' with z | z
    · subst z
      rw [hy] at hy'
      rw [← hy']
      exact e2 _ _ upd_same
    · exact k2 t' z ys' hy'
theorem units100 {k : Nat} {A : Around} (r : Room k A) : A.units + 100 < cLine := by have := r.un; omega
theorem paired_zip {F : V → PyData → Prop} {β : Type} {f : β → PyData} : ∀ {ys : List V} {bs : List β}, Paired F ys (bs.map f) → ∀ q ∈ ys.zip bs, F q.1 (f q.2)
  | _, [], h, q, hq => by simp at hq
  | _, b :: bs, h, q, hq => by
    cases h with
    | cons r t =>
      rw [List.zip_cons_cons] at hq
      rcases List.mem_cons.mp hq with z | z
      · subst z; exact r
      · exact paired_zip t q z
theorem paired_of_all {F : V → PyData → Prop} {β : Type} {f : β → PyData} : ∀ {l : List (V × β)}, (∀ q ∈ l, F q.1 (f q.2)) → Paired F (l.map (·.1)) ((l.map (·.2)).map f)
  | [], _ => .nil
  | q :: l, h => .cons (h q (List.mem_cons_self ..)) (paired_of_all fun q' hq' => h q' (List.mem_cons_of_mem _ hq'))
theorem sortP_paired {F : V → PyData → Prop} {β : Type} {f : β → PyData} {ys : List V} {bs : List β} (hl : ys.length = bs.length) (h : ∀ q ∈ ys.zip bs, F q.1 (f q.2)) : Paired F ((sortP f (ys.zip bs)).map (·.1)) ((sortB f bs).map f) := by
  have e : (sortP f (ys.zip bs)).map (·.2) = sortB f bs := by rw [sortP_snd, List.map_snd_zip (by omega)]
  rw [← e]
  exact paired_of_all fun q hq => h q ((List.mergeSort_perm _ _).mem_iff.mp hq)
theorem ed_sorted {k : Nat} {β : Type} {f : β → PyData} {bs : List β} (hr : Room k X.A) (ha : ED X a σ G (.list (bs.map f))) (hal : AllAlike (bs.map f)) (hsb : Sortable (bs.map f)) (hdp : ∀ b ∈ bs, (f b).depth ≤ 64) (hm : X.mg "sorted" = none) (hg : Gl X "sorted" := by rfl) (he : starEach [a] X.env = (false, eval a X.env) :: starEach [] X.env := by rfl) (hpl : (backTo pos (starEach [] X.env)).any (·.1) = false := by rfl) :
    ED X (.Call (.Name "sorted" pp) [a] [] pos) σ G (.list ((sortB f bs).map f)) :=
  ee_cb (cr_sortA (f := f) (units100 hr)) hm (by decide +kernel) (ea1 ha he) (fun vs G' _ r0 => by
    obtain ⟨v, rfl, r⟩ := ACons.one r0
    obtain ⟨q, xs, rfl, h1, h2⟩ := Rp.lst_eq r
    have hl : xs.length = bs.length := by rw [Paired.length h2, List.length_map]
    exact fun H Q e k => ⟨q, xs, bs, rfl, SqL.of (e _ _ h1), Rp.dpAll _ _ _ (Rp.monoAll e _ _ h2), hal, hsb, hdp, fun p hp => k _ _ _ (Stp.newP e hp) (.lst upd_same (Rp.monoAll (Ex.new (e.none hp)) _ _ (sortP_paired hl (paired_zip h2))))⟩) hg (he := he) (hpl := hpl)
/-- a dict by tuples of ints, its keys -/
def DTk (ks : List (List Int)) : V → Hp → Prop := fun v G => ∃ p kvs, v = .ref p ∧ G p = some (.dT kvs) ∧ kvs.map (·.1) = ks.map fun k => k.map Sum.inl
instance (ks : List (List Int)) : MonoR (DTk ks) := ⟨fun _ _ _ e ⟨p, kvs, h1, h2, h3⟩ => ⟨p, kvs, h1, e _ _ h2, h3⟩⟩
theorem EN.dtk {ks : List (List Int)} (h : EN X e σ G (DtO ks)) : EE X e σ G (DTk ks) := h.ee fun p o G' eg ⟨kvs, e, r⟩ hp => ⟨p, kvs, rfl, by rw [e]; exact upd_same, r⟩
theorem ed_sortDT {k : Nat} {ks : List (List Int)} (hr : Room k X.A) (hc : X.calm = true) (ha : EE X a σ G (DTk ks)) (hne : ∀ ns ∈ ks, ns ≠ []) (hm : X.mg "sorted" = none) (hg : Gl X "sorted" := by rfl) (he : starEach [a] X.env = (false, eval a X.env) :: starEach [] X.env := by rfl) (hpl : (backTo pos (starEach [] X.env)).any (·.1) = false := by rfl) :
    ED X (.Call (.Name "sorted" pp) [a] [] pos) σ G (.list ((sortB tI ks).map tI)) :=
  ee_cb (cr_sortDT hc (units100 hr)) hm (by decide +kernel) (ea1 ha he) (fun vs G' _ r0 => by
    obtain ⟨v, rfl, p, kvs, rfl, hp, hk⟩ := ACons.one r0
    refine fun H Q e k => ⟨p, kvs, ks, rfl, .inl (e _ _ hp), hk, hne, fun t ts ht hl hts => ?_⟩
    have hall : ∀ u ∈ ts, ∃ ys, H u = some (.tup ys) := fun u hu => by
      obtain ⟨j, hj, ej⟩ := List.mem_iff_getElem.mp hu
      have hz : (u, ks[j]'(by omega)) ∈ ts.zip ks := by
        refine List.mem_iff_getElem?.mpr ⟨j, List.getElem?_zip_eq_some.mpr ⟨?_, ?_⟩⟩
        · rw [List.getElem?_eq_getElem hj, ej]
        · exact List.getElem?_eq_getElem _
      exact ⟨_, hts _ hz⟩
    obtain ⟨G2, s2, e2, k2⟩ := frzTs (S := []) ts (Stp.refl e) hall
    refine k _ _ _ (s2.trans (Stp.newP s2.i ht)) (.lst upd_same (Rp.monoAll (Ex.new (s2.i.none ht)) _ _ (sortP_paired (by rw [List.length_map]; exact hl) fun q hq => ?_)))
    obtain ⟨j, hj⟩ := List.mem_iff_getElem?.mp hq
    obtain ⟨h1, h2⟩ := List.getElem?_zip_eq_some.mp hj
    rw [List.getElem?_map] at h1
    obtain ⟨u, hu, eu⟩ := Option.map_eq_some_iff.mp h1
    have hz : (u, q.2) ∈ ts.zip ks := List.mem_iff_getElem?.mpr ⟨j, List.getElem?_zip_eq_some.mpr ⟨hu, h2⟩⟩
    rw [← eu]
    exact Rp.tI_of (k2 u (List.mem_of_getElem? hu) _ (hts _ hz))) hg (he := he) (hpl := hpl)
theorem keys_tups {H : Hp} : ∀ {kvs : List (List Key × V)} {ks : List (List Int)} {ts : List Addr}, kvs.map (·.1) = ks.map (fun k => k.map Sum.inl) → Paired (fun (kv : List Key × V) (u : Addr) => H u = some (.tup (kv.1.map kV))) kvs ts → Paired (fun (ns : List Int) (u : Addr) => H u = some (.tup (ns.map V.int))) ks ts
  | [], [], _, _, h => by cases h; exact .nil
  | [], _ :: _, _, e, _ => by simp at e
  | _ :: _, [], _, e, _ => by simp at e
  | kv :: kvs, ns :: ks, _, e, h => by
    cases h with
    | cons r t =>
      rw [List.map_cons, List.map_cons] at e
      obtain ⟨e1, e2⟩ := List.cons.inj e
      refine .cons ?_ (keys_tups e2 t)
      rw [r, e1, ints_keys]
theorem tups_rp {H G2 : Hp} : ∀ {ks : List (List Int)} {ts : List Addr}, Paired (fun (ns : List Int) (u : Addr) => H u = some (.tup (ns.map V.int))) ks ts → (∀ u ∈ ts, ∀ ys, H u = some (.tup ys) → G2 u = some (.tup ys)) → Paired (Rp G2) (ts.map V.ref) (ks.map tI)
  | _, _, .nil, _ => .nil
  | _, _, .cons r t, k => .cons (Rp.tI_of (k _ (List.mem_cons_self ..) _ r)) (tups_rp t fun u hu ys hy => k u (List.mem_cons_of_mem _ hu) ys hy)
theorem ed_listDT {ks : List (List Int)} (hc : X.calm = true) (ha : EE X a σ G (DTk ks)) (hm : X.mg "list" = none) (hg : Gl X "list" := by rfl) (he : starEach [a] X.env = (false, eval a X.env) :: starEach [] X.env := by rfl) (hpl : (backTo pos (starEach [] X.env)).any (·.1) = false := by rfl) :
    ED X (.Call (.Name "list" pp) [a] [] pos) σ G (.list (ks.map tI)) :=
  ee_cty (call_list_dT hc) hm (by decide +kernel) (ea1 ha he) (fun vs G' _ r0 => by
    obtain ⟨v, rfl, p, kvs, rfl, hp, hk⟩ := ACons.one r0
    refine fun H Q e k => ⟨p, kvs, rfl, .inl (e _ _ hp), fun t ts ht hts => ?_⟩
    have hts' := keys_tups hk hts
    have hall : ∀ u ∈ ts, ∃ ys, H u = some (.tup ys) := fun u hu => by
      obtain ⟨j, hj⟩ := List.mem_iff_getElem?.mp hu
      obtain ⟨ns, _, h2⟩ := Paired.get hts' hj
      exact ⟨_, h2⟩
    obtain ⟨G2, s2, e2, k2⟩ := frzTs (S := []) ts (Stp.refl e) hall
    exact k _ _ _ (s2.trans (Stp.newP s2.i ht)) (.lst upd_same (Rp.monoAll (Ex.new (s2.i.none ht)) _ _ (tups_rp hts' k2)))) hg (he := he) (hpl := hpl)
theorem ei_listM {α : Type} {f : α → PyData} {bs : List α} (ha : ED X l σ G (.list (bs.map f))) : EI X tg l σ G bs.length (YD (bs.map f)) := by
  have := ei_list (tg := tg) ha
  rw [List.length_map] at this
  exact this
end
end PG

/-! part F11 -/
set_option Elab.async false
set_option linter.all false
set_option maxRecDepth 100000
set_option maxHeartbeats 4000000
namespace TK
open PySem PySem.Spec PyProof.Rows L2 PG
variable {P : Program} {w : World} {K : PySem.W.Frag} {mg : Str → Option Value} {base : Heap}
/-! ### wide heaps -/
def over (ns ms : List Int) : Bool := (ns.zip ms).all fun q => decide (q.2 ≤ q.1)
theorem ok_is_over {ns ms : List Int} (E : Env K mg) (hl : ns.length = ms.length) (hn : ns.length ≤ 1000) : C8.Cal P w K mg base 1 "is_over" (Pr (A2 (tI ns) (tI ms)) (RD (.bool (over ns ms)))) [] :=
  cl_is_over E fun cdv A outer s H vs Q E' hr G ex a k => by
    obtain ⟨v1, v2, rfl, r1, r2⟩ := ACons.two a
    have e1 : (List.range (ns.map PyData.int).length).filterMap (fun i => (ns.zip ms)[i]?.bind fun q => some (PyData.bool (decide (q.2 ≤ q.1)))) = ((ns.zip ms).map fun q => decide (q.2 ≤ q.1)).map PyData.bool := by
      have : (ns.map PyData.int).length = (ns.zip ms).length := by rw [List.length_map, List.length_zip]; omega
      rw [this, range_fm, fm_some, List.map_map]
      rfl
    refine ws_ret (R := RD (.bool (over ns ms))) ?_ ex k
    refine ee_is (ed_all (bs := (ns.zip ms).map fun q => decide (q.2 ≤ q.1)) rfl ?_ E.b_all) (by unfold over; rw [List.all_map]; rfl)
    rw [← e1]
    refine ed_lc (own := [("a", 2), ("b", 3)]) rfl sc_is_over.nd (ei_zipS (k1 := .t) (k2 := .t) (ds := ns.map .int) (ds' := ms.map .int) (ee_var (i := 0) rfl r1) (ee_var (i := 1) rfl r2) (by simpa using hl) E.b_zip) (blkOk_by (N := N_is_over) (sc := defScope s_is_over) (by decide +kernel)) _ (fun i x G' eg hi y => ?_) (by simp; omega)
    obtain ⟨d, d', u, v, q, h1, h2, rfl, hq, ru, rv⟩ := y
    rw [List.getElem?_map] at h1 h2
    obtain ⟨n, hn, rfl⟩ := Option.map_eq_some_iff.mp h1
    obtain ⟨m, hm, rfl⟩ := Option.map_eq_some_iff.mp h2
    rw [List.getElem?_zip_eq_some.mpr (show ns[i]? = some (n, m).1 ∧ ms[i]? = some (n, m).2 from ⟨hn, hm⟩)]
    refine ⟨_, ?_, fun s H C cl fp => ⟨eg_tup2 rfl hq (eg_name (i := 2) sc_is_over.nd) (eg_name (i := 3) sc_is_over.nd), ets_nil, ?_⟩⟩
    · rfl
    · rw [ru.int_eq, rv.int_eq]
      refine ee_is (ed_or (t := false) (ee_isN (ee_var (i := 2) (R := RD (.int n)) rfl (.int n)) fun v G' r => by rw [Rp.int_eq r]; rfl) fun _ => ed_and1 (ed_and (t := true) (ee_notN (ee_var (i := 3) (R := RD (.int m)) rfl (.int m)) fun v G' r => by rw [Rp.int_eq r]; rfl) fun _ => ed_and1 (ed_ge (ee_var (i := 2) rfl (.int n)) (ee_var (i := 3) rfl (.int m))))) (by simp)
theorem ok_wide_can {N : Net} {h : List Int} {f : Fir} (E : Env K mg) (W : Wf N) (hf : f ∈ N.firings) (hl : h.length = N.names.length) : C8.Cal P w K mg base 1 "wide_can" (Pr (LK K N h f) (RD (.bool (canF N h f)))) [] :=
  cl_wide_can E fun cdv A outer s H vs Q E' hr G ex a k => by
    obtain ⟨v0, v1, v2, rfl, ⟨q, dx, fs, rfl, hq, v3, v4, v5, v6, v7, v8, rfl, hpl, hbg, hnm, htk, hgv⟩, r1, r2⟩ := ACons.three a
    refine ws_ret (R := RD (.bool (canF N h f))) ?_ ex k
    refine ee_is (ed_all (bs := f.takes.map fun p => decide (p.2 ≤ h.getD (ix N.names p.1) 0)) rfl ?_ E.b_all) (by unfold canF; rw [List.all_map]; rfl)
    have hlen : f.takes.length ≤ 100000 := by have h1 := (W.tk f hf).len; have h2 := W.len; rw [names_len] at h1; omega
    refine ee_is (ed_lcM (l := f.takes) (src := fun p : Str × Int => .tuple [.int (ix N.names p.1), .int p.2]) (own := [("at", 3), ("count", 4)]) rfl sc_wide_can.nd (ei_list (ed_part hr (ee_var (i := 0) rfl rfl) hq E.c_Look E.n_Look_takes rfl htk hf (ee_var (i := 2) rfl r2)))
      (blkOk_by (N := N_wide_can) (sc := defScope s_wide_can) (by decide +kernel)) (fun p => some (.bool (decide (p.2 ≤ h.getD (ix N.names p.1) 0)))) (fun i p x G' eg hp rx => ?_) hlen) (by rw [fm_some, List.map_map]; rfl)
    obtain ⟨t, rfl, ht⟩ := rankI_eq rx
    have hns := (W.tk f hf).mem p (List.mem_of_getElem? hp)
    have r1' := Rp.mono eg _ _ r1
    refine ⟨_, ?_, fun s H C cl fp => ⟨eg_tup2 rfl ht (eg_name (i := 3) sc_wide_can.nd) (eg_name (i := 4) sc_wide_can.nd), ets_nil, ?_⟩⟩
    · rfl
    · refine ee_is (ed_or (t := false) (ee_isN (ed_ixT (i := (ix N.names p.1 : Nat)) (ee_var (i := 1) rfl r1') (ee_var (i := 3) rfl (.int _)) (tI_at (ix_lt hl hns))) fun v G' r => by rw [Rp.int_eq r]; rfl) fun _ => ed_and1 (ed_ge (ed_ixT (i := (ix N.names p.1 : Nat)) (ee_var (i := 1) rfl r1') (ee_var (i := 3) rfl (.int _)) (tI_at (ix_lt hl hns))) (ee_var (i := 4) rfl (.int _)))) (by simp)
theorem ok_wide_behind {N : Net} {h : List Int} {f : Fir} (E : Env K mg) (W : Wf N) (hf : f ∈ N.firings) (hl : h.length = N.names.length) : C8.Cal P w K mg base 1 "wide_behind" (Pr (LK K N h f) (RD (tI (fire N h f)))) [] :=
  cl_wide_behind E fun cdv A outer s H vs Q E' hr G ex a k => by
    obtain ⟨v0, v1, v2, rfl, ⟨q, dx, fs, rfl, hq, v3, v4, v5, v6, v7, v8, rfl, hpl, hbg, hnm, htk, hgv⟩, r1, r2⟩ := ACons.three a
    refine ws_setN (i := 3) sc_wide_behind.nd (en_listI (ee_var (i := 1) rfl r1) E.b_list) ex fun t o G1 H1 s1 ht w1 ho => ?_
    subst ho
    have lenF : ∀ (s : Int) (ps : List (Str × Int)) (h : List Int), h.length = N.names.length → (ps.foldl (stepP N.names s) h).length = N.names.length := fun s ps => by
      induction ps with
      | nil => exact fun h e => e
      | cons p ps ih => exact fun h e => ih _ (by rw [stepP_length, e])
    have setI : ∀ {hh : List Int} {k : Nat} {z : Int}, (hh.map V.int).set k (.int z) = (hh.set k z).map V.int := fun {hh k z} => by rw [List.map_set]
    have getI : ∀ {hh : List Int} {k : Nat}, k < hh.length → (hh.map V.int)[k]? = some (.int (hh.getD k 0)) := fun {hh k} hk => by
      rw [List.getElem?_map, List.getElem?_eq_getElem hk]
      simp [List.getD_eq_getElem?_getD, hk]
    have ht0 : H t = none := ht
    refine ws_forS (Y := YD (f.takes.map fun p => .tuple [.int (ix N.names p.1), .int p.2])) (ei_list (ed_part hr (ee_var (i := 0) rfl rfl) (s1.g _ _ hq) E.c_Look E.n_Look_takes rfl (MonoR.mono _ _ _ s1.g htk) hf (ee_var (i := 2) rfl (Rp.mono s1.g _ _ r2)))) PassesOwn.never rfl s1
      (fun i σ' G' H' => ∃ o4 o5, σ' = [some (.ref q), some v1, some v2, some (.ref t), o4, o5] ∧ Own G' H' t (.lst (((f.takes.take i).foldl (stepP N.names (-1)) h).map V.int))) (fun G2 H2 s2 => ⟨_, _, rfl, w1.step0 s2⟩) ?_ ?_
    · rintro G1' eg i σ' G' H' G3 H3 x hi e1 s2 ⟨o4, o5, rfl, own⟩ s3 ⟨d, hd, rd⟩
      rw [List.getElem?_map] at hd
      obtain ⟨p, hp, rfl⟩ := Option.map_eq_some_iff.mp hd
      have hm := List.mem_of_getElem? hp
      obtain ⟨u, rfl, hu⟩ := rankI_eq rd
      have hns := (W.tk f hf).mem p hm
      have own3 := own.step0 s3
      refine wg (eg_tup2 rfl hu (eg_name (i := 4) sc_wide_behind.nd) (eg_name (i := 5) sc_wide_behind.nd)) s2.i fun H4 s4 => ?_
      have own4 := own3.step0 s4
      have hixl := ix_lt (lenF (-1) (f.takes.take i) _ hl) hns
      refine ws_ifT (G := upd G3 t _) (et_notN (ee_ixL (R := RV _) (i := (ix N.names p.1 : Nat)) (ee_var (i := 3) rfl rfl) upd_same (ee_var (i := 4) rfl (.int _)) (L2.atI_nat (getI hixl)) rfl) fun v G' r => by rw [show v = _ from r]; rfl) (own4.exU s4.i) fun H5 s5 => ?_
      have s5' := Stp.weak own4.exG s5
      refine ws_augL (j := ix N.names p.1) (m := p.2) ip_sub (ee_var (i := 3) rfl rfl) (ee_var (i := 4) rfl (.int _)) (ee_var (i := 5) rfl (.int _)) (own4.step0 s5') (getI hixl) s5'.i fun H6 s6 w6 => ?_
      refine ws_nil (ws_nil ⟨G3, e1, ((s2.trans (s4.trans s5')).trans s6).mut w6.g (.inl ht0), _, _, rfl, ?_⟩)
      rw [fold_take _ _ hp]
      have e2 : stepP N.names (-1) ((f.takes.take i).foldl (stepP N.names (-1)) h) p = ((f.takes.take i).foldl (stepP N.names (-1)) h).set (ix N.names p.1) (((f.takes.take i).foldl (stepP N.names (-1)) h).getD (ix N.names p.1) 0 - p.2) := by
        unfold stepP
        congr 1
        omega
      rw [e2, ← setI]
      exact w6.upd
    · rintro σ' G2 H2 e1 s2 ⟨o4, o5, rfl, own⟩
      rw [List.length_map, List.take_length, foldP W.nd (W.tk f hf).mem hl] at own
      have hl2 : (plus N.names (-1) f.takes h).length = N.names.length := plus_length hl
      have eg2 := s1.g.trans e1
      refine ws_forS (Y := YD (f.gives.map fun p => .tuple [.int (ix N.names p.1), .int p.2])) (ei_list (ed_part hr (ee_var (i := 0) rfl rfl) (eg2 _ _ hq) E.c_Look E.n_Look_gives rfl (MonoR.mono _ _ _ eg2 hgv) hf (ee_var (i := 2) rfl (Rp.mono eg2 _ _ r2)))) PassesOwn.never rfl s2
        (fun i σ' G' H' => ∃ o4 o5, σ' = [some (.ref q), some v1, some v2, some (.ref t), o4, o5] ∧ Own G' H' t (.lst (((f.gives.take i).foldl (stepP N.names 1) (plus N.names (-1) f.takes h)).map V.int))) (fun G2 H2 s2 => ⟨_, _, rfl, own.step0 s2⟩) ?_ ?_
      · rintro G1' eg i σ' G' H' G3 H3 x hi e1 s2 ⟨o4, o5, rfl, own⟩ s3 ⟨d, hd, rd⟩
        rw [List.getElem?_map] at hd
        obtain ⟨p, hp, rfl⟩ := Option.map_eq_some_iff.mp hd
        have hm := List.mem_of_getElem? hp
        obtain ⟨u, rfl, hu⟩ := rankI_eq rd
        have hns := (W.gv f hf).mem p hm
        have own3 := own.step0 s3
        refine wg (eg_tup2 rfl hu (eg_name (i := 4) sc_wide_behind.nd) (eg_name (i := 5) sc_wide_behind.nd)) s2.i fun H4 s4 => ?_
        have own4 := own3.step0 s4
        have hixl := ix_lt (lenF 1 (f.gives.take i) _ hl2) hns
        refine ws_ifT (G := upd G3 t _) (et_notN (ee_ixL (R := RV _) (i := (ix N.names p.1 : Nat)) (ee_var (i := 3) rfl rfl) upd_same (ee_var (i := 4) rfl (.int _)) (L2.atI_nat (getI hixl)) rfl) fun v G' r => by rw [show v = _ from r]; rfl) (own4.exU s4.i) fun H5 s5 => ?_
        have s5' := Stp.weak own4.exG s5
        refine ws_augL (j := ix N.names p.1) (m := p.2) ip_add (ee_var (i := 3) rfl rfl) (ee_var (i := 4) rfl (.int _)) (ee_var (i := 5) rfl (.int _)) (own4.step0 s5') (getI hixl) s5'.i fun H6 s6 w6 => ?_
        refine ws_nil (ws_nil ⟨G3, e1, ((s2.trans (s4.trans s5')).trans s6).mut w6.g (.inl ht0), _, _, rfl, ?_⟩)
        rw [fold_take _ _ hp]
        have e2 : stepP N.names 1 ((f.gives.take i).foldl (stepP N.names 1) (plus N.names (-1) f.takes h)) p = ((f.gives.take i).foldl (stepP N.names 1) (plus N.names (-1) f.takes h)).set (ix N.names p.1) (((f.gives.take i).foldl (stepP N.names 1) (plus N.names (-1) f.takes h)).getD (ix N.names p.1) 0 + p.2) := by
          unfold stepP
          congr 1
          omega
        rw [e2, ← setI]
        exact w6.upd
      · rintro σ' G3 H3 e3 s3 ⟨o4, o5, rfl, own⟩
        rw [List.length_map, List.take_length, foldP W.nd (W.gv f hf).mem hl2] at own
        have s4 := s3.frz own.h ht0
        refine ws_ret (R := RD (tI (fire N h f))) (ed_tupL (ee_var (i := 3) (R := RD (.list ((fire N h f).map .int))) rfl (.lst upd_same (ints_paired _))) E.b_tuple) s4.i fun v G5 H5 s5 r5 => k v G5 H5 (s4.trans s5) r5
/-! keys, each once -/
theorem mem_keysT {f : Nat → List Int} {ns : List Int} : ∀ {n : Nat}, ns ∈ keysT f n ↔ ∃ i, i < n ∧ f i = ns
  | 0 => by simp [keysT]
  | n + 1 => by
    unfold keysT
    by_cases h : f n ∈ keysT f n
    · rw [if_pos h, mem_keysT]
      constructor
      · rintro ⟨i, hi, e⟩
        exact ⟨i, by omega, e⟩
      · rintro ⟨i, hi, e⟩
        by_cases z : i = n
        · subst z
          obtain ⟨j, hj, e2⟩ := mem_keysT.mp h
          exact ⟨j, hj, e2.trans e⟩
        · exact ⟨i, by omega, e⟩
    · rw [if_neg h, List.mem_append, mem_keysT]
      constructor
      · rintro (⟨i, hi, e⟩ | z)
        · exact ⟨i, by omega, e⟩
        · rw [List.mem_singleton] at z
          exact ⟨n, by omega, z.symm⟩
      · rintro ⟨i, hi, e⟩
        by_cases z : i = n
        · subst z
          exact .inr (by simp [e])
        · exact .inl ⟨i, by omega, e⟩
theorem keysT_len {f : Nat → List Int} : ∀ {n : Nat}, (keysT f n).length ≤ n
  | 0 => Nat.le_refl _
  | n + 1 => by
    unfold keysT
    have := keysT_len (f := f) (n := n)
    split
    · omega
    · rw [List.length_append]
      simp
      exact this
def keysOf (hs : List Hp') : List Hp' := keysT (fun i => hs[i]?.getD []) hs.length
theorem mem_keysOf {hs : List Hp'} {h : Hp'} : h ∈ keysOf hs ↔ h ∈ hs := by
  unfold keysOf
  rw [mem_keysT]
  constructor
  · rintro ⟨i, hi, e⟩
    rw [List.getElem?_eq_getElem hi] at e
    exact e ▸ List.getElem_mem _
  · intro hm
    obtain ⟨i, hi, e⟩ := List.mem_iff_getElem.mp hm
    exact ⟨i, hi, by rw [List.getElem?_eq_getElem hi, e]; rfl⟩
theorem keysOf_len {hs : List Hp'} : (keysOf hs).length ≤ hs.length := keysT_len
/-- a dict {heap: True for heap in heaps} -/
def leastS (acc : List Hp') (h : Hp') : List Hp' := if acc.any (over h) then acc else acc ++ [h]
def leastL (hs : List Hp') : List Hp' := (sortB tI (keysOf hs)).foldl leastS []
theorem mem_sortB {hs : List Hp'} {h : Hp'} : h ∈ sortB tI hs ↔ h ∈ hs := (List.mergeSort_perm _ _).mem_iff
theorem leastS_sub {P : Hp' → Prop} : ∀ {l acc : List Hp'}, (∀ h ∈ acc, P h) → (∀ h ∈ l, P h) → ∀ h ∈ l.foldl leastS acc, P h
  | [], _, ha, _ => ha
  | x :: l, acc, ha, hl => leastS_sub (l := l) (fun h hh => by
      unfold leastS at hh
      split at hh
      · exact ha h hh
      · rcases List.mem_append.mp hh with z | z
        · exact ha h z
        · rw [List.mem_singleton] at z
          subst z
          exact hl _ (List.mem_cons_self ..)) fun h hh => hl h (List.mem_cons_of_mem _ hh)
theorem leastS_len : ∀ {l acc : List Hp'}, (l.foldl leastS acc).length ≤ acc.length + l.length
  | [], _ => Nat.le_refl _
  | x :: l, acc => by
    have h1 := leastS_len (l := l) (acc := leastS acc x)
    have h2 : (leastS acc x).length ≤ acc.length + 1 := by
      unfold leastS
      split
      · omega
      · rw [List.length_append]
        simp
    rw [List.foldl_cons, List.length_cons]
    omega
theorem leastL_sub {hs : List Hp'} {h : Hp'} (hh : h ∈ leastL hs) : h ∈ hs := leastS_sub (P := (· ∈ hs)) (fun _ z => by simp at z) (fun h z => mem_keysOf.mp (mem_sortB.mp z)) h hh
theorem leastL_len {hs : List Hp'} : (leastL hs).length ≤ hs.length := by
  have h1 := leastS_len (l := sortB tI (keysOf hs)) (acc := [])
  have h2 : (sortB tI (keysOf hs)).length = (keysOf hs).length := List.length_mergeSort _
  have h3 := keysOf_len (hs := hs)
  unfold leastL
  simp at h1
  omega
/-- heaps of m places -/
structure OfLen (m : Nat) (hs : List Hp') : Prop where
  len : ∀ h ∈ hs, h.length = m
  pos : 1 ≤ m
  le : m ≤ 1000
  few : hs.length ≤ 2000
theorem OfLen.ne {m : Nat} {hs : List Hp'} (o : OfLen m hs) {h : Hp'} (hh : h ∈ hs) : h ≠ [] := fun e => by
  have := o.len h hh
  rw [e] at this
  have := o.pos
  simp at *
  omega
theorem ok_least {m : Nat} {hs : List Hp'} (E : Env K mg) (O : OfLen m hs) : C8.Cal P w K mg base 2 "least" (Pr (A1 (.list (hs.map tI))) (RD (.list ((leastL hs).map tI)))) [] :=
  cl_least E fun cdv A outer s H vs Q E' hr G ex a k => by
    obtain ⟨v0, rfl, r0⟩ := ACons.one a
    refine ws_setN (i := 1) sc_least.nd en_lst0 ex fun t o G1 H1 s1 ht w1 ho => ?_
    subst ho
    have lenS : (sortB tI (keysOf hs)).length ≤ 2000 := by
      have h2 : (sortB tI (keysOf hs)).length = (keysOf hs).length := List.length_mergeSort _
      have h3 := keysOf_len (hs := hs)
      have := O.few
      omega
    have oL : ∀ h ∈ sortB tI (keysOf hs), h.length = m := fun h hh => O.len h (mem_keysOf.mp (mem_sortB.mp hh))
    refine ws_forS (Y := YD ((sortB tI (keysOf hs)).map tI)) (ei_list (ed_sortDT (ks := keysOf hs) hr rfl ?_ (fun ns hns => O.ne (mem_keysOf.mp hns)) E.b_sorted)) PassesOwn.never rfl s1
      (fun i σ' G' H' => ∃ o2 o3 vs, σ' = [some v0, some (.ref t), o2, o3] ∧ Own G' H' t (.lst vs) ∧ Paired (Rp G') vs ((((sortB tI (keysOf hs)).take i).foldl leastS []).map tI)) (fun G2 H2 s2 => ⟨_, _, [], rfl, w1.step0 s2, .nil⟩) ?_ ?_
    · refine EN.dtk ?_
      show EN _ _ _ _ (DtO (keysT (fun i => hs[i]?.getD []) hs.length))
      refine en_dcT (Y := YD (hs.map tI)) (own := [("heap", 2)]) hr rfl sc_least.nd (ei_listM (ee_var (i := 0) rfl (Rp.mono s1.g _ _ r0))) (blkOk_by (N := N_least) (sc := defScope s_least) (by decide +kernel)) (fun i => hs[i]?.getD []) (fun i hi => by rw [List.getElem?_eq_getElem (by simpa using hi)]; exact O.ne (List.getElem_mem _)) (fun i x G' eg hi y => ?_) (by have := O.few; omega)
      obtain ⟨d, hd, rd⟩ := y
      rw [List.getElem?_map] at hd
      obtain ⟨h, hh, rfl⟩ := Option.map_eq_some_iff.mp hd
      rw [hh]
      refine ⟨_, ?_, fun s H C cl fp => ⟨eg_name (i := 2) sc_least.nd, ee_var (i := 2) rfl rd, ed_bl.imp fun _ _ _ _ => trivial⟩⟩
      rfl
    · rintro G1' eg i σ' G' H' G3 H3 x hi e1 s2 ⟨o2, o3, vs, rfl, own, pv⟩ s3 ⟨d, hd, rd⟩
      rw [List.getElem?_map] at hd
      obtain ⟨h, hh, rfl⟩ := Option.map_eq_some_iff.mp hd
      have hhl := oL h (List.mem_of_getElem? hh)
      generalize hacc : ((sortB tI (keysOf hs)).take i).foldl leastS [] = acc at pv
      have hacc1 : ((sortB tI (keysOf hs)).take (i + 1)).foldl leastS [] = leastS acc h := by rw [fold_take _ _ hh, hacc]
      have aL : ∀ g ∈ acc, g.length = m := by
        rw [← hacc]
        exact leastS_sub (P := fun g => g.length = m) (fun _ z => by simp at z) fun g hg => oL g (List.mem_of_mem_take hg)
      have alen : acc.length ≤ 2000 := by
        have h1 := leastS_len (l := (sortB tI (keysOf hs)).take i) (acc := [])
        rw [hacc] at h1
        have h2 : ((sortB tI (keysOf hs)).take i).length ≤ (sortB tI (keysOf hs)).length := List.length_take_le' ..
        simp at h1
        omega
      have own3 := own.step0 s3
      have pv3 := Rp.monoAll s3.g _ _ pv
      refine wg (eg_name (i := 2) sc_least.nd) s2.i fun H4 s4 => ?_
      have own4 := own3.step0 s4
      have rdl : Rp (upd G3 t (.lst vs)) (.ref t) (.list (acc.map tI)) := .lst upd_same (Rp.monoAll own4.exG _ _ pv3)
      refine ws_if (t := !acc.any (over h)) (G := upd G3 t (.lst vs)) (et_not (et_val (ee_is (ed_any (bs := acc.map (over h)) rfl ?_ E.b_any) (by rw [List.any_map]; rfl)))) (own4.exU s4.i) fun H5 s5 => ?_
      · refine ee_is (ed_lcM (l := acc) (src := tI) (own := [("one", 3)]) rfl sc_least.nd (ei_list (ee_var (i := 1) rfl rdl)) (blkOk_by (N := N_least) (sc := defScope s_least) (by decide +kernel)) (fun one => some (.bool (over h one))) (fun i one y G' eg hp rx => ?_) (by omega)) (by rw [fm_some, List.map_map]; rfl)
        refine ⟨_, ?_, fun s H C cl fp => ⟨eg_name (i := 3) sc_least.nd, ets_nil, ?_⟩⟩
        · rfl
        · exact ee_cal (ok_is_over E (by rw [hhl, aL one (List.mem_of_getElem? hp)]) (by rw [hhl]; exact O.le)) hr (ea_cons (ee_var (i := 2) rfl (Rp.mono (own4.exG.trans eg) _ _ rd)) (ea1 (ee_var (i := 3) rfl rx)))
      have s5' := Stp.weak own4.exG s5
      have own5 := own4.step0 s5'
      have hlv : vs.length < 100000 := by rw [Paired.length pv, List.length_map]; omega
      cases hb : acc.any (over h) with
      | true =>
        refine iteF (ws_nil (ws_nil ⟨G3, e1, s2.trans (s4.trans s5'), _, _, vs, rfl, own5, ?_⟩))
        rw [hacc1]
        unfold leastS
        rw [hb, if_pos rfl]
        exact pv3
      | false =>
        refine iteT (ws_appendH (R := RV x) (ee_var (i := 1) rfl rfl) (ee_var (i := 2) rfl rfl) s5'.i own5.h hlv fun v G6 H6 s6 r6 => ?_)
        have w6 := own5.step0 s6
        rw [show v = x from r6]
        refine ws_nil (ws_nil ⟨G6, e1.trans s6.g, ((s2.trans (s4.trans s5')).trans s6).mut w6.g (.inl ht), _, _, _, rfl, w6.upd, ?_⟩)
        rw [hacc1]
        unfold leastS
        rw [hb, if_neg Bool.false_ne_true, List.map_append]
        exact Paired.app (Rp.monoAll s6.g _ _ pv3) (.cons (Rp.mono s6.g _ _ rd) .nil)
    · rintro σ' G' H' e1 s2 ⟨o2, o3, vs, rfl, own, pv⟩
      rw [List.length_map, List.take_length] at pv
      have s3 := s2.frz own.h ht
      exact ws_ret (R := RD (.list ((leastL hs).map tI))) (ee_var (i := 1) rfl (.lst upd_same (Rp.monoAll own.exG _ _ pv))) s3.i fun v G3 H3 s4 r4 => k v G3 H3 (s3.trans s4) r4
end TK

/-! part F12 -/
set_option Elab.async false
set_option linter.all false
set_option maxRecDepth 100000
set_option maxHeartbeats 4000000
namespace TK
open PySem PySem.Spec PyProof.Rows L2 PG
open PySem.W (AllAlike Sortable)
variable {P : Program} {w : World} {K : PySem.W.Frag} {mg : Str → Option Value} {base : Heap}
def maxiB (ks : List Hp') (h : Hp') : Bool := !ks.any fun one => !decide (one = h) && over one h
def rankB (h : Hp') : PyData := .tuple [.list (h.map fun c => .tuple [.int 0, .int c]), tI h]
theorem blk_maxi : BlkOk N_greatest { kind := .function, names := [(".0", .local), ("heap", .cell), ("any", .globalImplicit), ("unlike", .cell)], isGenerator := false, isCoroutine := false } { kind := .function, names := [(".0", .local), ("one", .local), ("is_over", .globalImplicit), ("heap", .free)], isGenerator := false, isCoroutine := false } [("one", 4)] := blkOk_by (by decide +kernel)
theorem blk_rank : BlkOk N_greatest { kind := .function, names := [(".0", .local), ("heap", .local)], isGenerator := false, isCoroutine := false } { kind := .function, names := [(".0", .local), ("count", .local)], isGenerator := false, isCoroutine := false } [("count", 6)] := blkOk_by (by decide +kernel)
theorem alike_rank (hs : List Hp') : AllAlike (hs.map rankB) := fun d hd e he => by
  obtain ⟨x, _, rfl⟩ := List.mem_map.mp hd
  obtain ⟨y, _, rfl⟩ := List.mem_map.mp he
  have h1 : ∀ x y : List Int, PySem.W.alikeAll (x.map fun c => PyData.tuple [.int 0, .int c]) (y.map fun c => PyData.tuple [.int 0, .int c]) = true := fun x => by
    induction x with
    | nil => exact fun y => by simp [PySem.W.alikeAll]
    | cons a x ih =>
      intro y
      cases y with
      | nil => simp [PySem.W.alikeAll]
      | cons b y => simp [PySem.W.alikeAll, PySem.W.alike, ih y]
  simp [rankB, PySem.W.alike, PySem.W.alikeAll, h1, alike_ints]
theorem sortable_rank (hs : List Hp') : Sortable (hs.map rankB) := .inl fun d hd => by
  obtain ⟨x, hx, rfl⟩ := List.mem_map.mp hd
  exact ⟨_, _, rfl⟩
theorem depth_rank (h : Hp') : (rankB h).depth ≤ 64 := by
  have h1 : PyData.depthAll (h.map fun c => PyData.tuple [.int 0, .int c]) ≤ 1 := depAll _ 1 h fun c _ => by simp [PyData.depth, PyData.depthAll]
  have h2 := depth_tI h
  unfold rankB
  simp only [PyData.depth, PyData.depthAll] at *
  omega
theorem ok_greatest {m : Nat} {hs : List Hp'} (E : Env K mg) (O : OfLen m hs) : C8.Cal P w K mg base 2 "greatest" (Pr (A1 (.list (hs.map tI))) RAny) [] :=
  cl_greatest E fun cdv A outer s H vs Q E' hr G ex a k => by
    obtain ⟨v0, rfl, r0⟩ := ACons.one a
    have klen : (keysOf hs).length ≤ 2000 := Nat.le_trans keysOf_len O.few
    refine ws_set (i := 1) (R := RD (.list ((keysOf hs).map tI))) sc_greatest.nd (ed_listDT (ks := keysOf hs) rfl ?_ E.b_list) ex fun v1 G1 H1 s1 r1 => ?_
    · refine EN.dtk ?_
      show EN _ _ _ _ (DtO (keysT (fun i => hs[i]?.getD []) hs.length))
      refine en_dcT (Y := YD (hs.map tI)) (own := [("heap", 2)]) hr rfl sc_greatest.nd (ei_listM (ee_var (i := 0) rfl r0)) (blkOk_by (N := N_greatest) (sc := defScope s_greatest) (by decide +kernel)) (fun i => hs[i]?.getD []) (fun i hi => by rw [List.getElem?_eq_getElem (by simpa using hi)]; exact O.ne (List.getElem_mem _)) (fun i x G' eg hi y => ?_) (by have := O.few; omega)
      obtain ⟨d, hd, rd⟩ := y
      rw [List.getElem?_map] at hd
      obtain ⟨h, hh, rfl⟩ := Option.map_eq_some_iff.mp hd
      rw [hh]
      refine ⟨_, ?_, fun s H C cl fp => ⟨eg_name (i := 2) sc_greatest.nd, ee_var (i := 2) rfl rd, ed_bl.imp fun _ _ _ _ => trivial⟩⟩
      rfl
    refine ws_setLc (i := 3) (n := (keysOf hs).length) (Y := YD ((keysOf hs).map tI)) (own := [("heap", 2)]) rfl sc_greatest.nd (ei_listM (ee_var (i := 1) rfl r1)) (blkOk_by (N := N_greatest) (sc := defScope s_greatest) (by decide +kernel)) (fun i => ((keysOf hs)[i]?.bind fun h => if maxiB (keysOf hs) h = true then some (tI h) else none).map RD) monoRD (fun i x G' eg hi y => ?_) (by omega) s1.i fun q2 vs2 G2 H2 s2 hq2 w2 pv2 => ?_
    · obtain ⟨d, hd, rd⟩ := y
      rw [List.getElem?_map] at hd
      obtain ⟨h, hh, rfl⟩ := Option.map_eq_some_iff.mp hd
      rw [hh]
      refine Turn1.test ⟨_, ?_, fun s H C cl fp => ⟨eg_name (i := 2) sc_greatest.nd, ets_one (et_not (et_val (ee_is (ed_any (bs := (keysOf hs).map fun one => !decide (one = h) && over one h) rfl ?_ E.b_any) (by rw [List.any_map]; rfl)))), fun _ => ?_⟩⟩
      · rfl
      · refine ee_is (ed_lcM (l := keysOf hs) (src := tI) (own := [("one", 4)]) rfl sc_greatest.nd (ei_list (ee_var (i := 1) rfl (Rp.mono eg _ _ r1))) blk_maxi (fun one => some (.bool (!decide (one = h) && over one h))) (fun i one y G'' eg2 hp rx => ?_) (by omega)) (by rw [fm_some, List.map_map]; rfl)
        have e1 := O.len h (mem_keysOf.mp (List.mem_of_getElem? hh))
        have e2 := O.len one (mem_keysOf.mp (List.mem_of_getElem? hp))
        refine ⟨_, ?_, fun s H C cl fp => ⟨eg_name (i := 4) sc_greatest.nd, ets_nil, ?_⟩⟩
        · rfl
        · exact ed_and (ee_is (ed_ne hr (ee_var (i := 4) rfl rx) (ee_var (i := 2) rfl (Rp.mono eg2 _ _ rd)) (shp_tI _).of (shp_tI _).of) (by rw [eqv_tI])) fun _ => ed_and1 (ee_cal (ok_is_over E (by rw [e1, e2]) (by rw [e2]; exact O.le)) hr (ea_cons (ee_var (i := 4) rfl rx) (ea1 (ee_var (i := 2) rfl (Rp.mono eg2 _ _ rd)))))
      · exact ee_var (i := 2) rfl rd
    have pd2 := lcD_of pv2
    rw [range_fm, fm_if] at pd2
    have s02 := s1.trans s2
    have s3 := s02.frz w2.h (s1.fresh hq2)
    have rsome : Rp (upd G2 q2 (.lst vs2)) (.ref q2) (.list (((keysOf hs).filter (maxiB (keysOf hs))).map tI)) := .lst upd_same (Rp.monoAll w2.exG _ _ pd2)
    generalize hso : (keysOf hs).filter (maxiB (keysOf hs)) = so at rsome
    have solen : so.length ≤ 2000 := by rw [← hso]; exact Nat.le_trans (List.length_filter_le ..) klen
    have soL : ∀ h ∈ so, h.length = m := fun h hh => by
      rw [← hso] at hh
      exact O.len h (mem_keysOf.mp (List.mem_filter.mp hh).1)
    refine ws_setLc (i := 5) (n := so.length) (Y := YD (so.map tI)) (own := [("heap", 2)]) rfl sc_greatest.nd (ei_listM (ee_var (i := 3) rfl rsome)) (blkOk_by (N := N_greatest) (sc := defScope s_greatest) (by decide +kernel)) (fun i => (so[i]?.bind fun h => some (rankB h)).map RD) monoRD (fun i x G' eg hi y => ?_) (by omega) s3.i fun q4 vs4 G4 H4 s4 hq4 w4 pv4 => ?_
    · obtain ⟨d, hd, rd⟩ := y
      rw [List.getElem?_map] at hd
      obtain ⟨h, hh, rfl⟩ := Option.map_eq_some_iff.mp hd
      rw [hh]
      have hl := soL h (List.mem_of_getElem? hh)
      refine ⟨_, ?_, fun s H C cl fp => ⟨eg_name (i := 2) sc_greatest.nd, ets_nil, ?_⟩⟩
      · rfl
      · refine ed_tup (hl := by simp) (ad_cons (ee_is (ed_lcM (l := h) (src := PyData.int) (own := [("count", 6)]) rfl sc_greatest.nd (ei_tup (ee_var (i := 2) rfl rd)) blk_rank (fun c => some (.tuple [.int 0, .int c])) (fun i c y G'' eg2 hp rx => ?_) (by have := O.le; omega)) (by rw [fm_some])) (ad_cons (ee_var (i := 2) rfl rd) ad_nil))
        refine ⟨_, ?_, fun s H C cl fp => ⟨eg_name (i := 6) sc_greatest.nd, ets_nil, ?_⟩⟩
        · rfl
        · refine ee_if (t := false) (et_isN (Ra := RD (.int c)) (ee_var (i := 6) rfl rx) fun v G r => by rw [Rp.int_eq r]; rfl) (fun z => nomatch z) fun _ => ed_tup (hl := by simp) (ad_cons ed_int (ad_cons (ee_var (i := 6) rfl rx) ad_nil))
    have pd4 := lcD_of pv4
    rw [range_fm, fm_some] at pd4
    have s5 := (s3.trans s4).frz w4.h (s3.fresh hq4)
    refine ws_ret (R := RAny) (EE.any (R := RD (.list ((sortB rankB so).map tI))) ?_) s5.i fun v G6 H6 s6 r6 => k v G6 H6 (s5.trans s6) r6
    refine ee_is (ed_lcM (l := sortB rankB so) (src := rankB) (own := [("rank", 7), ("heap", 2)]) rfl sc_greatest.nd (ei_list (ed_sorted (f := rankB) hr (ee_var (i := 5) (R := RD (.list (so.map rankB))) rfl (.lst upd_same (Rp.monoAll w4.exG _ _ pd4))) (alike_rank so) (sortable_rank so) (fun b _ => depth_rank b) E.b_sorted)) (blkOk_by (N := N_greatest) (sc := defScope s_greatest) (by decide +kernel)) (fun h => some (tI h)) (fun i h x G' eg hp rx => ?_) ?_) (by rw [fm_some])
    · obtain ⟨t, xs, rfl, ht, hp2⟩ := Rp.tup_eq rx
      cases hp2 with
      | cons ra hp2 =>
      cases hp2 with
      | cons rb hp2 =>
      cases hp2
      refine ⟨_, ?_, fun s H C cl fp => ⟨eg_tup2 rfl ht (eg_name (i := 7) sc_greatest.nd) (eg_name (i := 2) sc_greatest.nd), ets_nil, ?_⟩⟩
      · rfl
      · exact ee_var (i := 2) rfl rb
    · have : (sortB rankB so).length = so.length := List.length_mergeSort _
      omega
end TK

/-! part F13 -/
set_option Elab.async false
set_option linter.all false
set_option maxRecDepth 100000
set_option maxHeartbeats 4000000
namespace TK
open PySem PySem.Spec PyProof.Rows L2 PG
variable {P : Program} {w : World} {K : PySem.W.Frag} {mg : Str → Option Value} {base : Heap}
/-! ### spots -/
abbrev flP (vw : V) (d : Int) (vp vc vu vt : V) : List (Str × V) := [("wide", vw), ("depth", .int d), ("parent", vp), ("came_by", vc), ("pumps", vu), ("tail", vt)]
/-- a spot and those ahead of it -/
inductive SpotV (K : PySem.W.Frag) (G : Hp) : V → List Hp' → Prop
  | nil : SpotV K G .non []
  | cons {q dx : Addr} {vw vp vc vu vt : V} {h : Hp'} {hs : List Hp'} {row : List Str} : G q = some (.ins (He.ga K "Spot") dx (flP vw hs.length vp vc vu vt)) → Rp G vw (tI h) → SpotV K G vp hs → Rp G vu (.list []) → Rp G vt (rowD row) → (row.length ≤ hs.length ∧ ∀ z ∈ row, okName z = true) → SpotV K G (.ref q) (h :: hs)
theorem SpotV.mono {G G' : Hp} (e : Ex G G') {v : V} {c : List Hp'} (h : SpotV K G v c) : SpotV K G' v c := by
  induction h with
  | nil => exact .nil
  | cons a b _ d f g ih => exact .cons (e _ _ a) (Rp.mono e _ _ b) ih (Rp.mono e _ _ d) (Rp.mono e _ _ f) g
def SpotR (K : PySem.W.Frag) (c : List Hp') : V → Hp → Prop := fun v G => SpotV K G v c
instance (c : List Hp') : MonoR (SpotR K c) := ⟨fun _ _ _ e h => SpotV.mono e h⟩
theorem SpotV.inv {G : Hp} {v : V} {h : Hp'} {hs : List Hp'} (x : SpotV K G v (h :: hs)) : ∃ q dx vw vp vc vu vt row, v = .ref q ∧ G q = some (.ins (He.ga K "Spot") dx (flP vw hs.length vp vc vu vt)) ∧ Rp G vw (tI h) ∧ SpotV K G vp hs ∧ Rp G vu (.list []) ∧ Rp G vt (rowD row) ∧ (row.length ≤ hs.length ∧ ∀ z ∈ row, okName z = true) := by
  cases x with
  | cons a b c d f g => exact ⟨_, _, _, _, _, _, _, _, rfl, a, b, c, d, f, g⟩
theorem SpotV.isN {G : Hp} {v : V} {c : List Hp'} (x : SpotV K G v c) : decide (v = .non) = decide (c = []) := by
  cases x with
  | nil => rfl
  | cons => rfl
def SpotF (K : PySem.W.Frag) (h : Hp') (hs : List Hp') (fs : List (Str × V)) (G : Hp) : Prop := ∃ vw vp vc vu vt row, fs = flP vw hs.length vp vc vu vt ∧ Rp G vw (tI h) ∧ SpotV K G vp hs ∧ Rp G vu (.list []) ∧ Rp G vt (rowD row) ∧ (row.length ≤ hs.length ∧ ∀ z ∈ row, okName z = true)
abbrev AS (K : PySem.W.Frag) (h : Hp') (hs : List Hp') (nm : Str) : List V → Hp → Prop := ACons (RD (tI h)) (ACons (SpotR K hs) (ACons (RD (.str nm)) ANil))
theorem ok_Spot_init {h : Hp'} {hs : List Hp'} {nm : Str} (E : Env K mg) (hn : hs.length ≤ 1000) (hnm : hs ≠ [] → okName nm = true) : C8.Mak P w K mg base 1 "Spot" (He.ga K "Spot") (Ini (He.ga K "Spot") (AS K h hs nm) (SpotF K h hs)) [] :=
  ig_Spot_init E Ini.len fun cdv A outer s H vs Q E' hr ⟨x, dx, rest, G, e, ex, own, a, k⟩ => by
    subst e
    obtain ⟨vw, vp, vn, rfl, rw', sp, rn⟩ := ACons.three a
    have dec : ∀ {v : V} {G : Hp}, SpotV K G v hs → (!decide (v = .non)) = !decide (hs = []) := fun z => by rw [z.isN]
    refine ws_fld (R := RV vw) (ee_var (i := 1) rfl rfl) (ee_var (i := 0) rfl rfl) own E.c_Spot E.n_Spot_wide (by decide) ex fun v G1 H1 s1 r1 w1 => ?_
    rw [show v = vw from r1]
    have t1 := (s1.any (S := [x])).mut (o := .ins (He.ga K "Spot") dx [(("wide" : Str), vw)]) w1.g (.inr (by simp))
    have w1' := w1.upd (o' := .ins (He.ga K "Spot") dx [(("wide" : Str), vw)])
    have sp1 : SpotV K G1 vp hs := SpotV.mono s1.g sp
    refine ws_fld (R := RD (.int hs.length)) (ee_if (t := !decide (hs = [])) (et_notN (Ra := SpotR K hs) (ee_var (i := 2) rfl sp1) fun v G r => dec r) (fun z => ?_) fun z => ?_) (ee_var (i := 0) rfl rfl) w1' E.c_Spot E.n_Spot_depth (by simp) t1.i fun v G2 H2 s2 r2 w2 => ?_
    · cases hs with
      | nil => cases z
      | cons g gs =>
        obtain ⟨q, qx, a1, a2, a3, a4, a5, row, rfl, hq, _⟩ := sp1.inv
        exact ee_is (ed_add (i := gs.length) (j := 1) (ee_fld (R := RD (.int gs.length)) (ee_var (i := 2) rfl rfl) hq E.c_Spot E.n_Spot_depth rfl (.int _)) ed_int) (by simp)
    · cases hs with
      | nil => exact ed_int
      | cons g gs => cases z
    rw [Rp.int_eq r2]
    have t2 := (t1.trans s2.any).mut (o := .ins (He.ga K "Spot") dx [(("wide" : Str), vw), (("depth" : Str), V.int hs.length)]) w2.g (.inr (by simp))
    have w2' := w2.upd (o' := .ins (He.ga K "Spot") dx [(("wide" : Str), vw), (("depth" : Str), V.int hs.length)])
    refine ws_fld (R := RV vp) (ee_var (i := 2) rfl rfl) (ee_var (i := 0) rfl rfl) w2' E.c_Spot E.n_Spot_parent (by simp) t2.i fun v G3 H3 s3 r3 w3 => ?_
    rw [show v = vp from r3]
    have t3 := (t2.trans s3.any).mut (o := .ins (He.ga K "Spot") dx [(("wide" : Str), vw), (("depth" : Str), V.int hs.length), (("parent" : Str), vp)]) w3.g (.inr (by simp))
    have w3' := w3.upd (o' := .ins (He.ga K "Spot") dx [(("wide" : Str), vw), (("depth" : Str), V.int hs.length), (("parent" : Str), vp)])
    refine ws_fld (R := RV vn) (ee_var (i := 3) rfl rfl) (ee_var (i := 0) rfl rfl) w3' E.c_Spot E.n_Spot_came_by (by simp) t3.i fun v G4 H4 s4 r4 w4 => ?_
    rw [show v = vn from r4]
    have t4 := (t3.trans s4.any).mut (o := .ins (He.ga K "Spot") dx [(("wide" : Str), vw), (("depth" : Str), V.int hs.length), (("parent" : Str), vp), (("came_by" : Str), vn)]) w4.g (.inr (by simp))
    have w4' := w4.upd (o' := .ins (He.ga K "Spot") dx [(("wide" : Str), vw), (("depth" : Str), V.int hs.length), (("parent" : Str), vp), (("came_by" : Str), vn)])
    have e4 : Ex G G4 := ((s1.g.trans s2.g).trans s3.g).trans s4.g
    have sp4 : SpotV K G4 vp hs := SpotV.mono e4 sp
    refine ws_fld (R := RD (.list [])) (ee_if (t := !decide (hs = [])) (et_notN (Ra := SpotR K hs) (ee_var (i := 2) rfl sp4) fun v G r => dec r) (fun z => ?_) fun _ => ed_lst ad_nil) (ee_var (i := 0) rfl rfl) w4' E.c_Spot E.n_Spot_pumps (by simp) t4.i fun v5 G5 H5 s5 r5 w5 => ?_
    · cases hs with
      | nil => cases z
      | cons g gs =>
        obtain ⟨q, qx, a1, a2, a3, a4, a5, row, rfl, hq, b1, b2, b3, _⟩ := sp4.inv
        exact ee_fld (R := RD (.list [])) (ee_var (i := 2) rfl rfl) hq E.c_Spot E.n_Spot_pumps rfl b3
    have t5 := (t4.trans s5.any).mut (o := .ins (He.ga K "Spot") dx [(("wide" : Str), vw), (("depth" : Str), V.int hs.length), (("parent" : Str), vp), (("came_by" : Str), vn), (("pumps" : Str), v5)]) w5.g (.inr (by simp))
    have w5' := w5.upd (o' := .ins (He.ga K "Spot") dx [(("wide" : Str), vw), (("depth" : Str), V.int hs.length), (("parent" : Str), vp), (("came_by" : Str), vn), (("pumps" : Str), v5)])
    have e5 := e4.trans s5.g
    have sp5 : SpotV K G5 vp hs := SpotV.mono e5 sp
    obtain ⟨row, hrow, hrl⟩ : ∃ row : List Str, EE (XB P w K mg base N_Spot_init "Spot.__init__" (defScope s_Spot_init) (He.fAd K ("Spot", some "__init__")) cdv A outer s H E') ((match defBody s_Spot_init with | [_, _, _, _, _, .Assign _ e _] => e | _ => .Constant .none 0 ⟨0, 0, 0, 0⟩)) [some (.ref x), some vw, some vp, some vn] G5 (RD (rowD row)) ∧ (row.length ≤ hs.length ∧ ∀ z ∈ row, okName z = true) := by
      cases hs with
      | nil => exact ⟨[], ee_if (t := false) (et_notN (Ra := SpotR K []) (ee_var (i := 2) rfl sp5) fun v G r => dec r) (fun z => nomatch z) fun _ => ed_lst ad_nil, Nat.le_refl _, fun z hz => by simp at hz⟩
      | cons g gs =>
        obtain ⟨q, qx, a1, a2, a3, a4, a5, row, rfl, hq, b1, b2, b3, b4, b5⟩ := sp5.inv
        refine ⟨row ++ [nm], ee_if (t := true) (et_notN (Ra := SpotR K (g :: gs)) (ee_var (i := 2) rfl sp5) fun v G r => dec r) (fun _ => ee_is (ed_addL (ds := row.map .str) (ds' := [.str nm]) (ee_fld (R := RD (rowD row)) (ee_var (i := 2) rfl rfl) hq E.c_Spot E.n_Spot_tail rfl b4) (ed_lst (ad_cons (ee_var (i := 3) rfl (Rp.mono e5 _ _ rn)) ad_nil) (by simp)) ?_) ?_) (fun z => nomatch z), ?_⟩
        · have := b5.1
          simp at hn ⊢
          omega
        · unfold rowD
          rw [List.map_append]
          rfl
        · refine ⟨by simp; exact b5.1, fun z hz => ?_⟩
          rcases List.mem_append.mp hz with y | y
          · exact b5.2 z y
          · rw [List.mem_singleton] at y
            subst y
            exact hnm (by simp)
    refine ws_fld (R := RD (rowD row)) hrow (ee_var (i := 0) rfl rfl) w5' E.c_Spot E.n_Spot_tail (by simp) t5.i fun v6 G6 H6 s6 r6 w6 => ?_
    have t6 := (t5.trans s6.any).mut (o := .ins (He.ga K "Spot") dx (flP vw hs.length vp vn v5 v6)) w6.g (.inr (by simp))
    exact ws_nil (k G6 _ _ t6 w6.upd ⟨vw, vp, vn, v5, v6, row, rfl, Rp.mono (e5.trans s6.g) _ _ rw', SpotV.mono (e5.trans s6.g) sp, Rp.mono s6.g _ _ r5, r6, hrl⟩)
def NoPump (h : Hp') (anc : List Hp') : Prop := ∀ a ∈ anc, a ≠ h → over h a = false
theorem ok_pump {m : Nat} {h : Hp'} {hs : List Hp'} (E : Env K mg) (hl : h.length = m) (hm : m ≤ 1000) (hls : ∀ a ∈ hs, a.length = m) (np : NoPump h hs) : C8.Met P w K mg base 2 (He.ga K "Spot") "pump" (Pr (ACons (SpotR K (h :: hs)) ANil) (RD .none)) [] :=
  ml_Spot_pump E fun cdv A outer s H vs Q E' hr G ex as k => by
    obtain ⟨v0, rfl, sp⟩ := ACons.one as
    have sp' : SpotV K G v0 (h :: hs) := sp
    obtain ⟨q, qx, a1, a2, a3, a4, a5, row, rfl, hq, b1, b2, b3, b4, b5⟩ := sp'.inv
    refine ws_set (i := 1) (R := RV a2) sc_Spot_pump.nd (ee_fld (R := RV a2) (ee_var (i := 0) rfl rfl) hq E.c_Spot E.n_Spot_parent rfl rfl) ex fun v G1 H1 s1 r1 => ?_
    rw [show v = a2 from r1]
    refine ws_whileS PassesOwn.never s1 (fun j σ' G' H' => ∃ v rest o2, σ' = [some (.ref q), some v, o2] ∧ SpotV K G' v rest ∧ (∀ a ∈ rest, a ∈ hs) ∧ j = rest.length) hs.length ⟨a2, hs, _, rfl, SpotV.mono s1.g b2, fun _ z => z, rfl⟩ ?_
    rintro j σ' G2 H2 e2 s2 ⟨v, rest, o2, rfl, sv, hsub, rfl⟩
    have hq2 := e2 _ _ (s1.g _ _ hq)
    refine ⟨!decide (rest = []), G2, s2.i, et_notN (Ra := SpotR K rest) (ee_var (i := 1) rfl sv) fun v G r => by rw [SpotV.isN r], fun H3 s3 => ?_⟩
    cases rest with
    | nil => exact iteF (ws_nil (k _ G2 H3 (s2.trans s3) .non))
    | cons g gs =>
      refine iteT ?_
      obtain ⟨q3, qx3, c1, c2, c3, c4, c5, row3, rfl, hq3, d1, d2, d3, d4, d5⟩ := sv.inv
      have gl := hls g (hsub g (List.mem_cons_self ..))
      refine ws_skip (et_is (et_and (et_is (et_ne hr (ee_fld (R := RD (tI g)) (ee_var (i := 1) rfl rfl) hq3 E.c_Spot E.n_Spot_wide rfl d1) (ee_fld (R := RD (tI h)) (ee_var (i := 0) rfl rfl) hq2 E.c_Spot E.n_Spot_wide rfl (Rp.mono (s1.g.trans e2) _ _ b1)) (shp_tI _).of (shp_tI _).of) (by rw [eqv_tI])) fun z =>
        et_val (ee_cal (ok_is_over E (by rw [hl, gl]) (by omega)) hr (ea_cons (ee_fld (R := RD (tI h)) (ee_var (i := 0) rfl rfl) hq2 E.c_Spot E.n_Spot_wide rfl (Rp.mono (s1.g.trans e2) _ _ b1)) (ea1 (ee_fld (R := RD (tI g)) (ee_var (i := 1) rfl rfl) hq3 E.c_Spot E.n_Spot_wide rfl d1))))) ?_) (s2.trans s3).i fun H4 s4 => ?_
      · by_cases e : g = h
        · simp [e]
        · rw [np g (hsub g (List.mem_cons_self ..)) e, Bool.and_false]
      refine ws_set (i := 1) (R := RV c2) sc_Spot_pump.nd (ee_fld (R := RV c2) (ee_var (i := 1) rfl rfl) hq3 E.c_Spot E.n_Spot_parent rfl rfl) ((s2.trans s3).trans s4).i fun v G5 H5 s5 r5 => ?_
      rw [show v = c2 from r5]
      exact ws_nil ⟨gs.length, G5, by simp, e2.trans s5.g, ((s2.trans s3).trans s4).trans s5, c2, gs, _, rfl, SpotV.mono s5.g d2, fun a ha => hsub a (List.mem_cons_of_mem _ ha), rfl⟩
end TK

/-! part F14 -/
set_option Elab.async false
set_option linter.all false
set_option maxRecDepth 100000
set_option maxHeartbeats 4000000
namespace TK
open PySem PySem.Spec PyProof.Rows L2 PG
variable {P : Program} {w : World} {K : PySem.W.Frag} {mg : Str → Option Value} {base : Heap}
/-! ### growth -/
/-- each heap comes from the one behind it -/
def Chn (N : Net) : List Hp' → Prop
  | [] => True
  | [_] => True
  | h :: a :: rest => (∃ s ∈ succN N a, s.2 = h) ∧ Chn N (a :: rest)
abbrev flG (vl : V) (a b : Addr) : List (Str × V) := [("look", vl), ("spots", .ref a), ("there", .ref b)]
structure GS (K : PySem.W.Frag) (N : Net) (hs : List Hp') (G H : Hp) (a b : Addr) (ss : List V) (kvs : List (List Key × V)) (cs : List (List Hp')) : Prop where
  oa : Own G H a (.lst ss)
  ob : Own G H b (.dT kvs)
  ps : Paired (SpotV K G) ss cs
  hd : cs.map List.head? = hs.map some
  dl : ∀ k c, cs[k]? = some c → c.length ≤ k + 1
  ch : ∀ c ∈ cs, Chn N c ∧ ∀ h ∈ c, h ∈ hs
  kl : kvs.length = hs.length
  ks : ∀ h, (valV kvs (keyI h)).isSome = decide (h ∈ hs)
  ab : a ≠ b
theorem spots_mono {G G' : Hp} (e : Ex G G') {ss : List V} {cs : List (List Hp')} (h : Paired (SpotV K G) ss cs) : Paired (SpotV K G') ss cs := Paired.imp h fun _ _ r => SpotV.mono e r
theorem GS.step {N : Net} {hs : List Hp'} {G H G' H' : Hp} {a b : Addr} {ss : List V} {kvs : List (List Key × V)} {cs : List (List Hp')} (x : GS K N hs G H a b ss kvs cs) (s : Stp [] G H G' H') : GS K N hs G' H' a b ss kvs cs :=
  ⟨x.oa.step0 s, x.ob.step0 s, spots_mono s.g x.ps, x.hd, x.dl, x.ch, x.kl, x.ks, x.ab⟩
theorem GS.frz {N : Net} {hs : List Hp'} {G H : Hp} {a b t : Addr} {o : HO} {ss : List V} {kvs : List (List Key × V)} {cs : List (List Hp')} (x : GS K N hs G H a b ss kvs cs) (w : Own G H t o) (h : a ≠ t ∧ b ≠ t) : GS K N hs (upd G t o) H a b ss kvs cs :=
  ⟨x.oa.frz h.1, x.ob.frz h.2, spots_mono w.exG x.ps, x.hd, x.dl, x.ch, x.kl, x.ks, x.ab⟩
theorem GS.len {N : Net} {hs : List Hp'} {G H : Hp} {a b : Addr} {ss : List V} {kvs : List (List Key × V)} {cs : List (List Hp')} (x : GS K N hs G H a b ss kvs cs) : cs.length = hs.length ∧ ss.length = hs.length := by
  have h1 : cs.length = hs.length := by
    have := congrArg List.length x.hd
    rw [List.length_map, List.length_map] at this
    exact this
  exact ⟨h1, by rw [Paired.length x.ps, h1]⟩
def addH (hs : List Hp') (h : Hp') : List Hp' := if h ∈ hs then hs else hs ++ [h]
def PutSp (K : PySem.W.Frag) (N : Net) (hs : List Hp') (h : Hp') (anc : List Hp') : Sp := fun vs H Q _ => ∃ G q dx vl a b v most ss kvs cs, vs = [.ref q, v, .int most] ∧ Ex G H ∧ G q = some (.ins (He.ga K "Growth") dx (flG vl a b)) ∧ SpotV K G v (h :: anc) ∧ GS K N hs G H a b ss kvs cs ∧ (hs.length : Int) < most ∧ hs.length ≤ 40 ∧
  (anc.length ≤ hs.length ∧ Chn N (h :: anc) ∧ ∀ g ∈ anc, g ∈ hs) ∧
  ∀ G' H' ss kvs cs, Stp [a, b] G H G' H' → GS K N (addH hs h) G' H' a b ss kvs cs → Q .non H'
theorem PutSp.len {N : Net} {hs anc : List Hp'} {h : Hp'} : ∀ vs H Q E, PutSp K N hs h anc vs H Q E → vs.length = 3 := fun vs H Q E ⟨G, q, dx, vl, a, b, v, most, ss, kvs, cs, e, _⟩ => by rw [e]; rfl
theorem ok_put {N : Net} {m : Nat} {hs anc : List Hp'} {h : Hp'} (E : Env K mg) (hne : h ≠ []) (hl : h.length = m) (hm : m ≤ 1000) (hls : ∀ a ∈ anc, a.length = m) (np : NoPump h anc) : C8.Met P w K mg base 3 (He.ga K "Growth") "put" (PutSp K N hs h anc) [] :=
  mg_Growth_put E PutSp.len fun cdv A outer s H vs Q E' hr ⟨G, q, dx, vl, a, b, v, most, ss, kvs, cs, e, ex, hq, sv, gs, hmo, h40, hanc, k⟩ => by
    subst e
    obtain ⟨q1, qx, a1, a2, a3, a4, a5, row, rfl, hq1, b1, b2, b3, b4, b5⟩ := sv.inv
    refine ws_expr (R := RD .none) (ee_mcal0 (ok_pump E hl hm hls np) hr (ee_var (i := 1) (v := .ref q1) rfl rfl) hq1 rfl sv) ex fun _ G1 H1 s1 _ => ?_
    have gs1 := gs.step s1
    have hq' := s1.g _ _ hq
    have hq1' := s1.g _ _ hq1
    have wideE : ∀ {X : Cx} {σ : L2.St} {G4 : Hp} {o : Expr} {apos : Pos} (hK : X.K = K) (eg : Ex G1 G4) (ho : EE X o σ G4 (RV (.ref q1))) (hb : attributeBase o "wide" X.env (eval o X.env) = eval o X.env), ED X (.Attribute o "wide" apos) σ G4 (tI h) := fun hK eg ho hb =>
      ee_fld (R := RD (tI h)) ho (eg _ _ hq1') (by rw [hK]; exact E.c_Spot) (by rw [hK]; exact E.n_Spot_wide) rfl (Rp.mono (s1.g.trans eg) _ _ b1) hb
    refine ws_if (G := upd G1 b (.dT kvs)) (et_notInT (ns := h) (kvs := kvs) hne hr (wideE rfl gs1.ob.exG (ee_var (i := 1) rfl rfl) rfl) (ee_fld (R := RV (.ref b)) (ee_var (i := 0) rfl rfl) (gs1.ob.exG _ _ hq') E.c_Growth E.n_Growth_there rfl rfl) upd_same) (gs1.ob.exU s1.i) fun H2 s2 => ?_
    have s2' := Stp.weak gs1.ob.exG s2
    have s02 := s1.trans s2'
    have gs2 := gs1.step s2'
    rw [gs.ks]
    by_cases hin : h ∈ hs
    · rw [decide_eq_true hin]
      refine iteF (ws_nil (ws_nil (k G1 H2 ss kvs cs s02.any ?_)))
      unfold addH
      rw [if_pos hin]
      exact gs2
    · rw [decide_eq_false hin]
      have hl2 := gs2.len
      refine iteT (ws_skip (G := upd G1 a (.lst ss)) (et_is (et_ge (i := ss.length) (j := most) (ed_lenV (ee_fld (R := RV (.ref a)) (ee_var (i := 0) rfl rfl) (gs2.oa.exG _ _ hq') E.c_Growth E.n_Growth_spots rfl rfl) upd_same E.b_len) (ee_var (i := 2) rfl (.int _))) (by rw [hl2.2]; simp; omega)) (gs2.oa.exU s02.i) fun H3 s3 => ?_)
      have s3' := Stp.weak gs2.oa.exG s3
      have s03 := s02.trans s3'
      have gs3 := gs2.step s3'
      refine ws_dputTH (G := G1) (R := RD (.bool true)) (ns := h) hne hr ed_bl (ee_fld (R := RV (.ref b)) (ee_var (i := 0) rfl rfl) hq' E.c_Growth E.n_Growth_there rfl rfl) (wideE rfl (Ex.refl _) (ee_var (i := 1) rfl rfl) rfl) s03.i gs3.ob.h (by rw [gs3.kl]; omega) fun v4 G4 H4 s4 r4 => ?_
      have gs4 := gs3.step s4
      have s04 := (s03.trans s4).any (S := [a, b]) |>.mut (o := .dT (putK kvs (keyI h) v4)) gs4.ob.g (.inr (by simp))
      refine ws_appendH (G := G4) (R := RV (.ref q1)) (ee_fld (R := RV (.ref a)) (ee_var (i := 0) rfl rfl) (s4.g _ _ hq') E.c_Growth E.n_Growth_spots rfl rfl) (ee_var (i := 1) rfl rfl) s04.i (gs4.oa.other (u := .dT (putK kvs (keyI h) v4)) gs4.ab).h (by rw [hl2.2]; omega) fun v5 G5 H5 s5 r5 => ?_
      rw [show v5 = .ref q1 from r5]
      have oa := ((gs4.oa.other (u := .dT (putK kvs (keyI h) v4)) gs4.ab).step0 s5)
      have ob := ((gs4.ob.upd (o' := .dT (putK kvs (keyI h) v4))).step0 s5)
      have s05 := (s04.trans s5.any).mut (o := .lst (ss ++ [.ref q1])) oa.g (.inr (by simp))
      refine ws_nil (ws_nil (k G5 _ (ss ++ [.ref q1]) (putK kvs (keyI h) v4) (cs ++ [h :: anc]) s05 ?_))
      have e5 : Ex G G5 := s1.g.trans (s4.g.trans s5.g)
      have ea : addH hs h = hs ++ [h] := if_neg hin
      rw [ea]
      refine ⟨oa.upd, ob.other gs4.ab.symm, Paired.app (spots_mono (s4.g.trans s5.g) gs3.ps) (.cons (SpotV.mono e5 sv) .nil), ?_, ?_, ?_, ?_, ?_, gs4.ab⟩
      · rw [List.map_append, List.map_append, gs3.hd]
        rfl
      · intro j c hc
        rcases Nat.lt_or_ge j cs.length with hj | hj
        · rw [List.getElem?_append_left hj] at hc
          exact gs3.dl j c hc
        · rw [List.getElem?_append_right hj] at hc
          have hj0 : j - cs.length = 0 := by
            have := (List.getElem?_eq_some_iff.mp hc).1
            simp at this
            omega
          rw [hj0] at hc
          obtain rfl := Option.some.inj hc
          rw [List.length_cons]
          have := hanc.1
          have := hl2.1
          omega
      · intro c hc
        rcases List.mem_append.mp hc with z | z
        · exact ⟨(gs3.ch c z).1, fun g hg => List.mem_append_left _ ((gs3.ch c z).2 g hg)⟩
        · rw [List.mem_singleton] at z
          subst z
          refine ⟨hanc.2.1, fun g hg => ?_⟩
          rcases List.mem_cons.mp hg with y | y
          · subst y; simp
          · exact List.mem_append_left _ (hanc.2.2 g y)
      · have hno : valV kvs (keyI h) = none := by
          have := gs.ks h
          rw [decide_eq_false hin] at this
          exact Option.not_isSome_iff_eq_none.mp (by rw [this]; exact Bool.false_ne_true)
        rw [putK_new _ hno, List.length_append, List.length_append, gs3.kl]
        rfl
      · intro g
        rw [valV_put]
        by_cases e : g = h
        · subst e
          simp
        · rw [if_neg fun z => e (keyI_inj z), gs3.ks]
          simp [e]
theorem heapsOf_fold {row : List Str} : ∀ (l : List (Str × Hp')) (f : Fnd), heapsOf (l.foldl (addS row) f) = l.foldl (fun acc s => addH acc s.2) (heapsOf f)
  | [], _ => rfl
  | s :: l, f => by
    rw [List.foldl_cons, List.foldl_cons, heapsOf_fold l]
    congr 1
    unfold addS addH
    split
    · rfl
    · rw [heapsOf_app]
      rfl
def NPump (N : Net) (L : Nat) : Prop := ∀ h c, Chn N (h :: c) → (∀ g ∈ h :: c, g ∈ finN N L) → NoPump h c
def GrowSp (K : PySem.W.Frag) (N : Net) (L : Nat) : Sp := fun vs H Q _ => ∃ G q dx vl a b most ss kvs cs, vs = [.ref q, .int most] ∧ Ex G H ∧ G q = some (.ins (He.ga K "Growth") dx (flG vl a b)) ∧ LookR K N vl G ∧ GS K N (heapsOf (stN N 0)) G H a b ss kvs cs ∧ 40 < most ∧
  ∀ G' H' ss kvs cs, Stp [a, b] G H G' H' → GS K N (finN N L) G' H' a b ss kvs cs → Q .non H'
theorem GrowSp.len {N : Net} {L : Nat} : ∀ vs H Q E, GrowSp K N L vs H Q E → vs.length = 2 := fun vs H Q E ⟨G, q, dx, vl, a, b, most, ss, kvs, cs, e, _⟩ => by rw [e]; rfl
theorem foldH_sub {l : List (Str × Hp')} {hs : List Hp'} : hs <+: l.foldl (fun acc s => addH acc s.2) hs := by
  induction l generalizing hs with
  | nil => exact List.prefix_refl _
  | cons s l ih =>
    refine List.IsPrefix.trans ?_ ih
    show hs <+: addH hs s.2
    unfold addH
    split
    · exact List.prefix_refl _
    · exact List.prefix_append _ _
theorem ok_grow {N : Net} {L : Nat} (E : Env K mg) (S : Sea N L) (NP : NPump N L) : C8.Met P w K mg base 4 (He.ga K "Growth") "grow" (GrowSp K N L) [] :=
  mg_Growth_grow E GrowSp.len fun cdv A outer s H vs Q E' hr ⟨G, q, dx, vl, a, b, most, ss, kvs, cs, e, ex, hq, lk, gs, hmo, k⟩ => by
    subst e
    have lk' := lk
    obtain ⟨ql, ldx, lfs, rfl, hql, lv3, lv4, lv5, lv6, lv7, lv8, rfl, lp, lb, lnm, _⟩ := lk'
    refine ws_set (i := 2) (R := RD (.int 0)) sc_Growth_grow.nd ed_int ex fun v G1 H1 s1 r1 => ?_
    rw [Rp.int_eq r1]
    have hq1 := s1.g _ _ hq
    refine ws_whileS (S := [a, b]) PassesOwn.never s1.any (fun j σ' G' H' => ∃ i ss kvs cs, ∃ o3 o4, σ' = [some (.ref q), some (.int most), some (.int (i : Nat)), o3, o4] ∧ GS K N (heapsOf (stN N i)) G' H' a b ss kvs cs ∧ i ≤ L ∧ i ≤ (stN N i).length ∧ j = L - i) L ⟨0, ss, kvs, cs, _, _, rfl, gs.step s1, Nat.zero_le _, Nat.zero_le _, rfl⟩ ?_
    rintro j σ' G2 H2 e2 s2 ⟨i, ss2, kvs2, cs2, o3, o4, rfl, gs2, hiL, hil, rfl⟩
    have hq2 := e2 _ _ hq1
    have hl2 := gs2.len
    rw [heapsOf_length] at hl2
    refine ⟨decide ((i : Int) < ss2.length), _, gs2.oa.exU s2.i, et_lt (i := (i : Nat)) (j := ss2.length) (ee_var (i := 2) rfl (.int _)) (ed_lenV (ee_fld (R := RV (.ref a)) (ee_var (i := 0) rfl rfl) (gs2.oa.exG _ _ hq2) E.c_Growth E.n_Growth_spots rfl rfl) upd_same E.b_len), fun H3 s3 => ?_⟩
    have s3' := Stp.weak gs2.oa.exG s3
    have s03 := s2.trans s3'.any
    have gs3 := gs2.step s3'
    by_cases hd : i < (stN N i).length
    · have hdec : decide ((i : Int) < ss2.length) = true := decide_eq_true (by rw [hl2.2]; omega)
      rw [hdec]
      refine iteT ?_
      have hiL' : i < L := by
        rcases Nat.lt_or_ge i L with h | h
        · exact h
        · have : i = L := by omega
          subst this
          have h2 : (stN N i).length = i := S.e.len
          have h3 : i < (stN N i).length := hd
          omega
      -- the spot
      obtain ⟨p, hp⟩ : ∃ p, (stN N i)[i]? = some p := ⟨_, List.getElem?_eq_getElem hd⟩
      have hph : (heapsOf (stN N i))[i]? = some p.1 := by
        unfold heapsOf
        rw [List.getElem?_map, hp]
        rfl
      obtain ⟨c, hc⟩ : ∃ c, cs2[i]? = some c := ⟨_, List.getElem?_eq_getElem (by rw [hl2.1]; exact hd)⟩
      have hch : c.head? = some p.1 := by
        have h1 : (cs2.map List.head?)[i]? = some c.head? := by rw [List.getElem?_map, hc]; rfl
        rw [gs2.hd, List.getElem?_map, hph] at h1
        exact (Option.some.inj h1).symm
      obtain ⟨anc, rfl⟩ : ∃ anc, c = p.1 :: anc := by
        cases c with
        | nil => cases hch
        | cons x anc => exact ⟨anc, by rw [Option.some.inj hch]⟩
      obtain ⟨vs, hvs, svs⟩ := Paired.get gs3.ps hc
      have hip : Hip N p.1 := S.hip i _ (List.mem_of_getElem? hph)
      have cmem := List.mem_of_getElem? hc
      have prei : heapsOf (stN N i) <+: finN N L := heapsOf_pre (st_pre (by omega))
      refine ws_set (i := 3) (G := upd G2 a (.lst ss2)) (R := RV vs) sc_Growth_grow.nd (ee_ixL (i := (i : Nat)) (ee_fld (R := RV (.ref a)) (ee_var (i := 0) rfl rfl) (gs3.oa.exG _ _ hq2) E.c_Growth E.n_Growth_spots rfl rfl) upd_same (ee_var (i := 2) rfl (.int _)) (L2.atI_nat hvs) rfl) (gs3.oa.exU s03.i) fun v4 G4 H4 s4 r4 => ?_
      rw [show v4 = vs from r4]
      have s4' := Stp.weak gs3.oa.exG s4
      have s04 := s03.trans s4'.any
      have gs4 := gs3.step s4'
      obtain ⟨q1, qx, a1, a2, a3, a4, a5, row, rfl, hq1s, b1, b2, b3, b4, b5⟩ := svs.inv
      have e12 : Ex G G2 := s1.g.trans e2
      refine ws_forS (S := [a, b]) (Y := YD (N.firings.map fun f : Fir => PyData.str f.name)) (ei_list (ee_fld (R := RD (.list (N.firings.map fun f : Fir => PyData.str f.name))) (ee_fld (R := RV (.ref ql)) (ee_var (i := 0) rfl rfl) hq2 E.c_Growth E.n_Growth_look rfl rfl) (e12 _ _ hql) E.c_Look E.n_Look_names rfl (Rp.mono e12 _ _ lnm))) PassesOwn.never rfl s04
        (fun j σ' G' H' => ∃ ss kvs cs, ∃ o4, σ' = [some (.ref q), some (.int most), some (.int (i : Nat)), some (.ref q1), o4] ∧ GS K N ((((N.firings.take j).filter (canF N p.1)).map fun f => (f.name, fire N p.1 f)).foldl (fun acc s => addH acc s.2) (heapsOf (stN N i))) G' H' a b ss kvs cs)
        (fun G5 H5 s5 => ⟨_, _, _, _, rfl, gs4.step s5⟩) ?_ ?_
      · rintro G1' eg j σ' G5' H5' G5 H5 x hj e5 s5 ⟨ss5, kvs5, cs5, o4', rfl, gs5'⟩ s6 ⟨d', hd', rd⟩
        rw [List.getElem?_map] at hd'
        obtain ⟨f, hf, rfl⟩ := Option.map_eq_some_iff.mp hd'
        have hfm := List.mem_of_getElem? hf
        have gs5 := gs5'.step s6
        have eG5 : Ex G2 G5 := eg.trans e5
        have hq5 := eG5 _ _ hq2
        have b15 := Rp.mono eG5 _ _ b1
        have lk5 : LookR K N (.ref ql) G5 := MonoR.mono _ _ _ (e12.trans eG5) lk
        have lookE : ∀ {G' : Hp} (eg' : Ex G5 G') {σ : L2.St} (h0 : σ[0]? = some (some (.ref q))), True := fun _ _ _ => trivial
        refine wg (eg_name (i := 4) sc_Growth_grow.nd) s5.i fun H6 s7 => ?_
        have s07 := s5.trans s7.any
        have gs6 := gs5.step s7
        refine ws_if (t := canF N p.1 f) (et_val (ee_cal (ok_wide_can E S.W hfm hip.len) hr (ea_cons (ee_fld (R := LookR K N) (ee_var (i := 0) (v := .ref q) rfl rfl) hq5 E.c_Growth E.n_Growth_look rfl lk5) (ea_cons (ee_fld (R := RD (tI p.1)) (ee_var (i := 3) (v := .ref q1) rfl rfl) (eG5 _ _ hq1s) E.c_Spot E.n_Spot_wide rfl b15) (ea1 (ee_var (i := 4) rfl rd)))))) s07.i fun H7 s8 => ?_
        have s08 := s07.trans s8.any
        have gs7 := gs6.step s8
        have htk : ∀ b : Bool, canF N p.1 f = b → (N.firings.take (j + 1)).filter (canF N p.1) = (N.firings.take j).filter (canF N p.1) ++ (if b then [f] else []) := fun b hb => by
          rw [List.take_succ, hf, List.filter_append]
          cases b <;> simp [hb]
        cases hcan : canF N p.1 f with
        | false =>
          refine iteF (ws_nil (ws_nil ⟨G5, e5, s08, ss5, kvs5, cs5, _, rfl, ?_⟩))
          rw [htk false hcan]
          simpa using gs7
        | true =>
          refine iteT ?_
          -- facts of the new heap
          generalize hhs : ((((N.firings.take j).filter (canF N p.1)).map fun f => (f.name, fire N p.1 f)).foldl (fun acc s => addH acc s.2) (heapsOf (stN N i))) = hsj at gs7
          have hstep : stN N (i + 1) = (succN N p.1).foldl (addS p.2) (stN N i) := by
            show stepS _ _ _ = _
            unfold stepS
            rw [hp]
          have hpre : hsj <+: finN N L := by
            have h1 : heapsOf (stN N (i + 1)) = (succN N p.1).foldl (fun acc s => addH acc s.2) (heapsOf (stN N i)) := by rw [hstep, heapsOf_fold]
            have h2 : hsj <+: heapsOf (stN N (i + 1)) := by
              rw [h1, ← hhs]
              have h3 : succN N p.1 = ((N.firings.take j).filter (canF N p.1)).map (fun f => (f.name, fire N p.1 f)) ++ ((N.firings.drop j).filter (canF N p.1)).map (fun f => (f.name, fire N p.1 f)) := by
                unfold succN
                rw [← List.map_append, ← List.filter_append, List.take_append_drop]
              rw [h3, List.foldl_append]
              exact foldH_sub
            exact h2.trans (heapsOf_pre (st_pre hiL'))
          have hsl : hsj.length ≤ 40 := by
            have := hpre.length_le
            rw [heapsOf_length, S.e.len] at this
            exact Nat.le_trans this S.le
          have hsub0 : heapsOf (stN N i) <+: hsj := by rw [← hhs]; exact foldH_sub
          have hsucc : (f.name, fire N p.1 f) ∈ succN N p.1 := List.mem_map.mpr ⟨f, List.mem_filter.mpr ⟨hfm, hcan⟩, rfl⟩
          have hpF : p.1 ∈ finN N L := prei.subset (List.mem_of_getElem? hph)
          have hnF : fire N p.1 f ∈ finN N L := S.e.closed _ hpF _ hsucc
          have cch := gs2.ch _ cmem
          have chn : Chn N (fire N p.1 f :: p.1 :: anc) := ⟨⟨_, hsucc, rfl⟩, cch.1⟩
          have allF : ∀ g ∈ fire N p.1 f :: p.1 :: anc, g ∈ finN N L := fun g hg => by
            rcases List.mem_cons.mp hg with z | z
            · subst z; exact hnF
            · exact prei.subset (cch.2 g z)
          have clen : (p.1 :: anc).length ≤ i + 1 := gs2.dl i _ hc
          have nlen : (fire N p.1 f).length = N.names.length := fire_length hip.len
          have lenall : ∀ g ∈ p.1 :: anc, g.length = N.names.length := fun g hg => (S.hip i g (cch.2 g hg)).len
          have nml : N.names.length ≤ 1000 := by rw [names_len]; have := S.W.len; omega
          refine ws_methA (A := ACons (SpotR K (fire N p.1 f :: p.1 :: anc)) (ACons (RD (.int most)) ANil)) (ok_put (N := N) (hs := hsj) E (ne_of_len S.W nlen) nlen nml lenall (NP _ _ chn allF)) hr (ee_var (i := 0) (v := .ref q) rfl rfl) s08.i hq5 rfl
            (ea_cons ((en_make (ok_Spot_init (h := fire N p.1 f) (hs := p.1 :: anc) (nm := f.name) E (by have := S.le; omega) (fun _ => S.W.fnm f hfm)) hr (ea_cons (ee_cal (ok_wide_behind E S.W hfm hip.len) hr (ea_cons (ee_fld (R := LookR K N) (ee_var (i := 0) (v := .ref q) rfl rfl) hq5 E.c_Growth E.n_Growth_look rfl lk5) (ea_cons (ee_fld (R := RD (tI p.1)) (ee_var (i := 3) (v := .ref q1) rfl rfl) (eG5 _ _ hq1s) E.c_Spot E.n_Spot_wide rfl b15) (ea1 (ee_var (i := 4) rfl rd)))))
              (ea_cons (ee_var (i := 3) (v := .ref q1) (R := SpotR K (p.1 :: anc)) rfl (SpotV.mono eG5 svs)) (ea1 (ee_var (i := 4) rfl rd))))).ee fun z o G' eg' ⟨zdx, zfs, ez, vw, vp, vc, vu, vt, zrow, efs, z1, z2, z3, z4, z5⟩ hz => ?_) (ea1 (ee_var (i := 1) rfl (.int _)))) fun us G8 H8 s9 as8 => ?_
          · subst ez efs
            exact .cons upd_same (Rp.mono (Ex.new hz) _ _ z1) (SpotV.mono (Ex.new hz) z2) (Rp.mono (Ex.new hz) _ _ z3) (Rp.mono (Ex.new hz) _ _ z4) z5
          · obtain ⟨u1, u2, rfl, ru1, ru2⟩ := ACons.two as8
            obtain rfl := Rp.int_eq ru2
            refine ⟨G8, q, dx, .ref ql, a, b, u1, most, ss5, kvs5, cs5, rfl, s9.i, s9.g _ _ hq5, ru1, gs7.step s9, by omega, hsl, ⟨?_, chn, fun g hg => hsub0.subset (cch.2 g hg)⟩, fun G9 H9 ss9 kvs9 cs9 s10 gs9 => ?_⟩
            · have := hsub0.length_le
              rw [heapsOf_length] at this
              omega
            · refine ws_nil (ws_nil ⟨G9, e5.trans (s9.g.trans s10.g), (s08.trans s9.any).trans s10, ss9, kvs9, cs9, _, rfl, ?_⟩)
              rw [htk true hcan]
              simp only [if_true, List.map_append, List.foldl_append, hhs]
              exact gs9
      · rintro σ' G5 H5 e5 s5 ⟨ss5, kvs5, cs5, o4', rfl, gs5⟩
        rw [List.length_map, List.take_length] at gs5
        have hstep : stN N (i + 1) = (succN N p.1).foldl (addS p.2) (stN N i) := by
          show stepS _ _ _ = _
          unfold stepS
          rw [hp]
        have heq : ((N.firings.filter (canF N p.1)).map fun f => (f.name, fire N p.1 f)).foldl (fun acc s => addH acc s.2) (heapsOf (stN N i)) = heapsOf (stN N (i + 1)) := by rw [hstep, heapsOf_fold]; rfl
        rw [heq] at gs5
        refine ws_augI (i := 2) (n := (i : Nat)) (m := 1) sc_Growth_grow.nd rfl ed_int s5.i fun H6 s6 => ws_nil ⟨L - (i + 1), G5, by omega, e2.trans (s4'.g.trans e5) |> fun z => e2.trans e5, s5.trans s6.any, i + 1, ss5, kvs5, cs5, _, _, rfl, gs5.step s6, hiL', ?_, rfl⟩
        have h1 : (stN N i).length ≤ (stN N (i + 1)).length := (st_pre (succ := succN N) (b := N.begin) (Nat.le_succ i)).length_le
        omega
    · have hdec : decide ((i : Int) < ss2.length) = false := decide_eq_false (by rw [hl2.2]; omega)
      rw [hdec]
      refine iteF (ws_nil ?_)
      have hil' : i ≤ (stN N i).length := hil
      have hd' : ¬ i < (stN N i).length := hd
      have hL := S.e.done hiL (show (stN N i).length = i by omega)
      subst hL
      have st := s1.any (S := [a, b]) |>.trans (Stp.refl (S := [a, b]) s1.i)
      exact k G2 H3 _ _ _ s03 gs3
end TK

/-! part P16 -/
set_option Elab.async false
set_option linter.all false
set_option maxRecDepth 100000
set_option maxHeartbeats 4000000
/-! PG, part 16. -/
namespace PG
open PySem PySem.Spec PyProof.Rows L2
section
variable {X : Cx} {σ σ' : L2.St} {G G0 G1 G2 H H0 H1 H2 : Hp} {e a b c o i l tg iter kx vx elt : Expr} {es : List Expr} {R R1 : V → Hp → Prop} {O : HO → Hp → Prop} {A : List V → Hp → Prop} {pos pp apos cpos : Pos} {p : Addr} {S : List Addr}
/-- a field of a thing that is told by a relation -/
theorem ee_fldX {f : Str} (ha : EE X a σ G R1) (h : ∀ v G', Ex G G' → R1 v G' → ∃ q C dx fs u, v = .ref q ∧ G' q = some (.ins C dx fs) ∧ Cls X.K C ∧ NoAttr X.K C f ∧ fs.lookup f = some u ∧ R u G') (hb : attributeBase a f X.env (eval a X.env) = eval a X.env := by rfl) : EE X (.Attribute a f pos) σ G R := fun H Q e k =>
  ⟨_, pe_fld (pe_self a) hb, ha H _ e fun x G' H' s rx => by
    obtain ⟨q, C, dx, fs, u, rfl, h1, h2, h3, h4, h5⟩ := h x G' s.g rx
    exact ⟨q, C, dx, fs, u, rfl, s.i _ _ h1, h2, h3, h4, k u G' H' s h5⟩⟩
/-- a list times a small number -/
theorem ed_rep {ds : List PyData} {n : Nat} (ha : ED X a σ G (.list ds)) (hb : ED X b σ G (.int n)) (hl : ds.length * n ≤ 100000) (hn : n ≤ 100000) : ED X (.BinOp a .Mult b pos) σ G (.list (List.replicate n ds).flatten) :=
  ee_op op_rep ha hb fun x y G' _ rx ry => by
    obtain ⟨q1, xs, rfl, h1, p1⟩ := Rp.lst_eq rx
    rw [Rp.int_eq ry]
    refine fun H Q e k => ⟨q1, n, xs, rfl, rfl, e _ _ h1, by omega, by omega, small (by rw [Paired.length p1]; exact hl), fun t ht => k _ _ _ (Stp.newP e ht) (.lst upd_same (Rp.monoAll (Ex.new (e.none ht)) _ _ ?_))⟩
    show Paired (Rp G') (List.replicate n xs).flatten (List.replicate n ds).flatten
    clear k hl hn hb ry
    induction n with
    | zero => exact .nil
    | succ n ih =>
      rw [List.replicate_succ, List.replicate_succ, List.flatten_cons, List.flatten_cons]
      exact Paired.app p1 ih
/-- l.index(e) -/
theorem ed_indexD {k : Nat} {ds : List PyData} {d z : PyData} {j : Nat} (hr : Room (k + 1) X.A) (ho : ED X o σ G (.list ds)) (he : ED X e σ G d) (sl : SeqAt.shaped (.list ds) = true) (sd : SeqAt.shaped d = true) (hz : ds[j]? = some z) (hj : PyData.eqv z d = true) (hno : ∀ (m : Nat) (z' : PyData), m < j → ds[m]? = some z' → PyData.eqv z' d = false)
    (hst : starEach [e] X.env = (false, eval e X.env) :: starEach [] X.env := by rfl) (hE : PE X (.Call (.Attribute o "index" apos) [e] [] cpos) (tBM X.K "list" (rIndexD X.K) (WE X o) (WA X [e])) := by
      exact pe_bm PySem.F.plainAttrs_list PySem.F.slot_list_index PySem.F.type_list_index (mt_indexD (units65 (by assumption))) (pe_self _) (pa_self _)) : ED X (.Call (.Attribute o "index" apos) [e] [] cpos) σ G (.int (j : Nat)) := fun H Q ex q =>
  ⟨_, hE, ho H _ ex fun v G1 H1 s1 r1 => by
    obtain ⟨p, xs, rfl, h1, h2⟩ := Rp.lst_eq r1
    refine ⟨.inl ⟨rfl, xs, SqL.of (s1.i _ _ h1)⟩, ((ea1 he hst).mono s1.g) H1 _ s1.i fun vs G2 H2 s2 r2 => ?_⟩
    obtain ⟨y, rfl, ry⟩ := ACons.one r2
    exact ⟨p, y, d, ds, j, z, rfl, rfl, Rp.dp _ _ _ (Rp.mono (s2.g.trans s2.i) _ _ r1), Rp.dp _ _ _ (Rp.mono s2.i _ _ ry), sl, sd, hz, hj, hno, q _ G2 H2 (s1.trans s2) (.int _)⟩⟩
/-- x not known -/
def dele (G : Hp) (x : Addr) : Hp := fun a => if a = x then none else G a
theorem dele_same {x : Addr} : dele G x x = none := by simp [dele]
theorem dele_ne {x y : Addr} (h : y ≠ x) : dele G x y = G y := by simp [dele, h]
theorem upd_dele {x : Addr} {o : HO} (h : G x = some o) : L2.upd (dele G x) x o = G := by
  funext y
  by_cases e : y = x
  · subst e
    rw [upd_same, h]
  · rw [upd_ne e, dele_ne e]
theorem Stp.del {x : Addr} {o : HO} (w : Own G H x o) (s : Stp S (L2.upd G x o) H G1 H1) : Stp S G H (dele G1 x) H1 := by
  refine ⟨fun y u h => ?_, fun y u h => ?_, s.h, fun y u h h' => ?_⟩
  · have hne : y ≠ x := w.ne h
    rw [dele_ne hne]
    exact s.g _ _ (by rw [upd_ne hne]; exact h)
  · by_cases e : y = x
    · subst e
      rw [dele_same] at h
      cases h
    · rw [dele_ne e] at h
      exact s.i _ _ h
  · by_cases e : y = x
    · subst e
      rw [dele_same] at h
      cases h
    · rw [dele_ne e] at h
      exact s.n y u h (by rw [upd_ne e]; exact h')
end
end PG

/-! part F15 -/
set_option Elab.async false
set_option linter.all false
set_option maxRecDepth 100000
set_option maxHeartbeats 4000000
namespace TK
open PySem PySem.Spec PyProof.Rows L2 PG
variable {P : Program} {w : World} {K : PySem.W.Frag} {mg : Str → Option Value} {base : Heap}
/-- the spots that were grown -/
def SpotsR (K : PySem.W.Frag) (hs : List Hp') : V → Hp → Prop := fun v G => ∃ p ss cs, v = .ref p ∧ G p = some (.lst ss) ∧ Paired (SpotV K G) ss cs ∧ cs.map List.head? = hs.map some ∧ ∀ c ∈ cs, c.length ≤ 41
instance (hs : List Hp') : MonoR (SpotsR K hs) := ⟨fun _ _ _ e ⟨p, ss, cs, h1, h2, h3, h4, h5⟩ => ⟨p, ss, cs, h1, e _ _ h2, spots_mono e h3, h4, h5⟩⟩
def GrowthF (K : PySem.W.Frag) (hs : List Hp') (fs : List (Str × V)) (G : Hp) : Prop := ∃ vl va b, fs = [(("look" : Str), vl), (("spots" : Str), va), (("there" : Str), V.ref b)] ∧ SpotsR K hs va G
/-- an __init__ that tells of what it made together with it -/
def IniU (C : Addr) (A : List V → Hp → Prop) (Of : List (Str × V) → Hp → Prop) : Sp := fun vs H Q _ => ∃ x dx rest G, vs = .ref x :: rest ∧ Ex G H ∧ Own G H x (.ins C dx []) ∧ A rest G ∧
  ∀ G' H' fs, Stp [x] G H G' H' → Own G' H' x (.ins C dx fs) → Of fs (upd G' x (.ins C dx fs)) → Q .non H'
theorem IniU.len {C : Addr} {A : List V → Hp → Prop} {Of : List (Str × V) → Hp → Prop} {n : Nat} [l : LenA A n] : ∀ vs H Q E, IniU C A Of vs H Q E → vs.length = n + 1 := fun vs H Q E ⟨x, dx, rest, G, e, _, _, a, _⟩ => by
  rw [e, List.length_cons, l.len _ _ a]
theorem ee_makeU {X : Cx} {σ : L2.St} {G : Hp} {e : Expr} {es : List Expr} {pos pp : Pos} {k j : Nat} {x : Str} {C : Addr} {A : List V → Hp → Prop} {Of : List (Str × V) → Hp → Prop} (c : C8.Mak X.prog X.w X.K X.mg X.base k x C (IniU C A Of) []) (hr : Room j X.A) (ha : EA X (e :: es) σ G A) (hk : k + 1 ≤ j := by decide) (hg : Gl X x := by rfl)
    (hdb : (x == ("__debug__" : Str)) = false := by decide) (he : starEach (e :: es) X.env = (false, eval e X.env) :: starEach es X.env := by rfl) (hpl : (backTo pos (starEach es X.env)).any (·.1) = false := by rfl) : EE X (.Call (.Name x pp) (e :: es) [] pos) σ G (fun v G' => ∃ q dx fs, v = .ref q ∧ G' q = some (.ins C dx fs) ∧ Of fs G') := fun H Q ex q =>
  ⟨_, C8.pe_mk c hr hk hg (pa_self _) hdb he hpl, ha H _ ex fun vs G1 H1 s1 a x dx hx hdx hne => by
    have hxd : upd H1 dx (.own x) x = none := by rw [upd_ne (Ne.symm hne)]; exact hx
    have st : Stp [] G H G1 (upd (upd H1 dx (.own x)) x (.ins C dx [])) := by
      have s2 : Stp [] G1 H1 G1 (upd H1 dx (.own x)) := Stp.newO s1.i hdx
      exact (s1.trans s2).trans (Stp.newO s2.i hxd)
    have hx0 : H x = none := s1.fresh hx
    refine ⟨x, dx, vs, G1, by rw [List.append_nil], st.i, ⟨upd_same, s1.i.none hx⟩, a, fun G' H' fs s3 w r => ⟨rfl, ?_⟩⟩
    exact q _ _ H' ((st.loc hx0 s3).frz w.h hx0) ⟨x, dx, fs, rfl, upd_same, r⟩⟩
theorem ok_Growth_init {N : Net} {L : Nat} {most : Int} (E : Env K mg) (S : Sea N L) (NP : NPump N L) (hmo : 40 < most) : C8.Mak P w K mg base 5 "Growth" (He.ga K "Growth") (IniU (He.ga K "Growth") (ACons (LookR K N) (ACons (RD (.int most)) ANil)) (GrowthF K (finN N L))) [] :=
  ig_Growth_init E IniU.len fun cdv A outer s H vs Q E' hr ⟨x, dx, rest, G, e, ex, own, as, k⟩ => by
    subst e
    obtain ⟨vl, vm, rfl, lk, rm⟩ := ACons.two as
    obtain rfl := Rp.int_eq rm
    have lk' : LookR K N vl G := lk
    obtain ⟨ql, ldx, lfs, rfl, hql, lv3, lv4, lv5, lv6, lv7, lv8, rfl, lp, lb, lnm, _⟩ := lk'
    have begE : ∀ {X : Cx} {σ : L2.St} {G4 : Hp} {o : Expr} {apos : Pos} (hK : X.K = K) (eg : Ex G G4) (ho : EE X o σ G4 (RV (.ref ql))) (hb : attributeBase o "begin" X.env (eval o X.env) = eval o X.env), ED X (.Attribute o "begin" apos) σ G4 (tI N.begin) := fun hK eg ho hb =>
      ee_fld (R := RD (tI N.begin)) ho (eg _ _ hql) (by rw [hK]; exact E.c_Look) (by rw [hK]; exact E.n_Look_begin) rfl (Rp.mono eg _ _ lb) hb
    refine ws_skip (et_is (et_lt (i := most) (j := 1) (ee_var (i := 2) rfl (.int _)) ed_int) (by simp; omega)) ex fun H1 s1 => ?_
    have w1 := own.step0 s1
    refine ws_fld (R := RV (.ref ql)) (ee_var (i := 1) rfl rfl) (ee_var (i := 0) rfl rfl) w1 E.c_Growth E.n_Growth_look (by decide) s1.i fun v G2 H2 s2 r2 w2 => ?_
    rw [show v = .ref ql from r2]
    have t2 := (s1.trans s2).any (S := [x]) |>.mut (o := .ins (He.ga K "Growth") dx [(("look" : Str), V.ref ql)]) w2.g (.inr (by simp))
    have w2' := w2.upd (o' := .ins (He.ga K "Growth") dx [(("look" : Str), V.ref ql)])
    have fre : ∀ {G' H' : Hp} {q : Addr}, Stp [x] G H G' H' → H' q = none → H q = none := fun {G' H' q} t hq => by
      cases z : H q with
      | none => rfl
      | some u =>
        obtain ⟨u', hu, _⟩ := t.h _ _ z
        rw [hq] at hu
        cases hu
    refine ws_fldN (en_lst (A := ACons (SpotR K [N.begin]) ANil) (ea1 ((en_make (ok_Spot_init (h := N.begin) (hs := []) (nm := "") E (by simp) (fun z => absurd rfl z)) hr (ea_cons (begE rfl s2.g (ee_var (i := 1) rfl rfl) rfl) (ea_cons (ed_non.imp fun v G' _ r => (show SpotR K [] v G' by rw [Rp.non_eq r]; exact .nil)) (ea1 ed_str)))).ee fun z o G' eg' ⟨zdx, zfs, ez, vw, vp, vc, vu, vt, zrow, efs, z1, z2, z3, z4, z5⟩ hz => ?_))) (ee_var (i := 0) rfl rfl) w2' E.c_Growth E.n_Growth_spots (by simp) t2.i fun a o G4 H4 s4 ha wa ho w4 => ?_
    · subst ez efs
      exact .cons upd_same (Rp.mono (Ex.new hz) _ _ z1) (SpotV.mono (Ex.new hz) z2) (Rp.mono (Ex.new hz) _ _ z3) (Rp.mono (Ex.new hz) _ _ z4) z5
    obtain ⟨us, rfl, hus⟩ := ho
    obtain ⟨vb, rfl, rvb⟩ := ACons.one hus
    have ha0 := fre t2 ha
    have xa : x ≠ a := w2'.ne2 ha
    have t4 := (t2.trans s4.any).mut (o := .ins (He.ga K "Growth") dx [(("look" : Str), V.ref ql), (("spots" : Str), V.ref a)]) w4.g (.inr (by simp))
    have w4' := w4.upd (o' := .ins (He.ga K "Growth") dx [(("look" : Str), V.ref ql), (("spots" : Str), V.ref a)])
    have wa4 := wa.other (u := .ins (He.ga K "Growth") dx [(("look" : Str), V.ref ql), (("spots" : Str), V.ref a)]) xa.symm
    refine ws_fldN (en_disp1T (ns := N.begin) (R := RD (.bool true)) ((begin_hip S.W).ne S.W) hr (begE rfl (s2.g.trans s4.g) (ee_var (i := 1) rfl rfl) rfl) ed_bl) (ee_var (i := 0) rfl rfl) w4' E.c_Growth E.n_Growth_there (by simp) t4.i fun b o G5 H5 s5 hb wb ho w5 => ?_
    obtain ⟨v0, rfl, rv0⟩ := ho
    have hb0 := fre t4 hb
    have xb : x ≠ b := w4'.ne2 hb
    have ab : a ≠ b := wa4.ne2 hb
    have t5 := (t4.trans s5.any).mut (o := .ins (He.ga K "Growth") dx (flG (.ref ql) a b)) w5.g (.inr (by simp))
    have w5' := w5.upd (o' := .ins (He.ga K "Growth") dx (flG (.ref ql) a b))
    have wa5 := (wa4.step0 s5).other (u := .ins (He.ga K "Growth") dx (flG (.ref ql) a b)) xa.symm
    have wb5 := wb.other (u := .ins (He.ga K "Growth") dx (flG (.ref ql) a b)) xb.symm
    have gs5 : GS K N (heapsOf (stN N 0)) G5 (upd H5 x (.ins (He.ga K "Growth") dx (flG (.ref ql) a b))) a b [vb] [(keyI N.begin, v0)] [[N.begin]] := by
      refine ⟨wa5, wb5, .cons (SpotV.mono s5.g rvb) .nil, rfl, ?_, ?_, rfl, ?_, ab⟩
      · intro j c hc
        match j, hc with
        | 0, hc => obtain rfl := Option.some.inj hc; exact Nat.le_refl _
        | j + 1, hc => simp at hc
      · intro c hc
        rw [List.mem_singleton] at hc
        subst hc
        exact ⟨True.intro, fun g hg => by simpa [stN, st, heapsOf] using hg⟩
      · intro h
        by_cases e : h = N.begin
        · subst e
          rw [valV_pos (p := (keyI N.begin, v0)) rfl]
          simp [stN, st, heapsOf]
        · rw [valV_neg (p := (keyI N.begin, v0)) fun z => e (keyI_inj z).symm]
          simp [stN, st, heapsOf, e]
          rfl
    have eU := w5'.exU t5.i
    have gsU := gs5.frz w5' ⟨xa.symm, xb.symm⟩
    refine ws_methA (G := upd G5 x (.ins (He.ga K "Growth") dx (flG (.ref ql) a b))) (A := ACons (RD (.int most)) ANil) (ok_grow E S NP) hr (ee_var (i := 0) (v := .ref x) rfl rfl) eU upd_same rfl (ea1 (ee_var (i := 2) rfl (.int _))) fun us G6 H6 s6 as6 => ?_
    obtain ⟨u1, rfl, ru1⟩ := ACons.one as6
    obtain rfl := Rp.int_eq ru1
    have e5 : Ex G (upd G5 x (.ins (He.ga K "Growth") dx (flG (.ref ql) a b))) := t5.g.trans w5'.exG
    refine ⟨G6, x, dx, .ref ql, a, b, most, [vb], [(keyI N.begin, v0)], [[N.begin]], rfl, s6.i, s6.g _ _ upd_same, MonoR.mono _ _ _ (e5.trans s6.g) lk, gsU.step s6, hmo, fun G7 H7 ss7 kvs7 cs7 s7 gs7 => ?_⟩
    have sall := (s6.any (S := [a, b])).trans s7
    have hx7 : G7 x = some (.ins (He.ga K "Growth") dx (flG (.ref ql) a b)) := sall.g _ _ upd_same
    -- the two things known too
    have b7 := gs7.ob.frz (o' := .lst ss7) gs7.ab.symm
    have sd := Stp.del w5' sall
    have sx : Stp [x] G H (dele G7 x) H7 := t5.locs (S' := [a, b]) (fun y hy => .inr (by
      simp only [List.mem_cons, List.not_mem_nil, or_false] at hy
      rcases hy with rfl | rfl
      · exact ha0
      · exact hb0)) sd
    have wx : Own (dele G7 x) H7 x (.ins (He.ga K "Growth") dx (flG (.ref ql) a b)) := ⟨gs7.oa.h |> fun _ => sall.i _ _ (sall.g _ _ upd_same), dele_same⟩
    have wa7 : Own (dele G7 x) H7 a (.lst ss7) := ⟨gs7.oa.h, by rw [dele_ne xa.symm]; exact gs7.oa.g⟩
    have sy := sx.frz wa7.h ha0
    have wx2 := wx.frz (o' := .lst ss7) xa
    refine ws_nil (k _ H7 _ sy wx2 ⟨.ref ql, .ref a, b, rfl, a, ss7, cs7, rfl, ?_, ?_, gs7.hd, fun c hc => ?_⟩)
    · rw [upd_ne xa.symm]
      exact upd_same
    · refine spots_mono (fun y u hu => ?_) gs7.ps
      by_cases ex : y = x
      · subst ex
        rw [upd_same, ← hu, hx7]
      · rw [upd_ne ex]
        by_cases ea : y = a
        · subst ea
          rw [gs7.oa.g] at hu
          cases hu
        · rw [upd_ne ea, dele_ne ex]
          exact hu
    · obtain ⟨j, hj⟩ := List.mem_iff_getElem?.mp hc
      have h1 := gs7.dl j c hj
      have h2 := (List.getElem?_eq_some_iff.mp hj).1
      have h3 := gs7.len.1
      rw [heapsOf_length, S.e.len] at h3
      have := S.le
      omega
end TK

/-! part F16 -/
set_option Elab.async false
set_option linter.all false
set_option maxRecDepth 100000
set_option maxHeartbeats 4000000
namespace TK
open PySem PySem.Spec PyProof.Rows L2 PG
variable {P : Program} {w : World} {K : PySem.W.Frag} {mg : Str → Option Value} {base : Heap}
theorem eqv_str (x y : Str) : PyData.eqv (.str x) (.str y) = (x == y) := by rw [PyData.eqv]
theorem shp_names {N : Net} (W : Wf N) : shp 1 (.list (N.names.map .str)) := shp_lst fun x hx => by
  obtain ⟨p, hp, rfl⟩ := List.mem_map.mp hx
  exact shp_name (W.nm p hp)
theorem name_ok {N : Net} (W : Wf N) {x : Str} (hx : x ∈ N.names) : okName x = true := by
  obtain ⟨p, hp, rfl⟩ := List.mem_map.mp hx
  exact W.nm p hp
theorem ok_place_number {N : Net} {x : Str} (E : Env K mg) (W : Wf N) (hx : x ∈ N.names) : C8.Cal P w K mg base 2 "place_number" (Pr (ACons (LookR K N) (ACons (RD (.str x)) ANil)) (RD (.int (ix N.names x : Nat)))) [] :=
  cl_place_number E fun cdv A outer s H vs Q E' hr G ex a k => by
    obtain ⟨v0, v1, rfl, ⟨q, dx, fs, rfl, hq, v3, v4, v5, v6, v7, v8, rfl, hpl, hbg, hnm, htk, hgv⟩, r1⟩ := ACons.two a
    have hok := name_ok W hx
    refine ws_skip (et_is (et_notInD hr (ee_var (i := 1) rfl r1) (ee_fld (R := RD (.list (N.names.map .str))) (ee_var (i := 0) rfl rfl) hq E.c_Look E.n_Look_places rfl hpl) (shp_name hok).of (shp_names W).of) ?_) ex fun H1 s1 => ?_
    · have : (N.names.map PyData.str).any (fun z => PyData.eqv z (.str x)) = true := List.any_eq_true.mpr ⟨.str x, List.mem_map_of_mem hx, by rw [eqv_str]; simp⟩
      rw [this]
      rfl
    · have h1 := ix_at hx
      refine ws_ret (R := RD (.int (ix N.names x : Nat))) (ed_indexD (d := .str x) (z := .str x) hr (ee_fld (R := RD (.list (N.names.map .str))) (ee_var (i := 0) rfl rfl) hq E.c_Look E.n_Look_places rfl hpl) (ee_var (i := 1) rfl r1) (shp_names W).of (shp_name hok).of (by rw [List.getElem?_map, h1]; rfl) (by rw [eqv_str]; simp) fun m z' hm hz => ?_) s1.i fun v G2 H2 s2 r2 => k v G2 H2 (s1.trans s2) r2
      rw [List.getElem?_map] at hz
      obtain ⟨y, hy, rfl⟩ := Option.map_eq_some_iff.mp hz
      rw [eqv_str]
      have hne : ¬ y = x := fun e => by
        subst e
        have := ix_get W.nd hy
        omega
      simpa using hne
theorem ok_stair_of {c : List Hp'} {h : Hp'} (E : Env K mg) (hc : c.length ≤ 1000) : C8.Cal P w K mg base 1 "stair_of" (Pr (ACons (SpotR K (h :: c)) ANil) RAny) [] :=
  cl_stair_of E fun cdv A outer s H vs Q E' hr G ex as k => by
    obtain ⟨v0, rfl, sp⟩ := ACons.one as
    have sp' : SpotV K G v0 (h :: c) := sp
    obtain ⟨q, qx, a1, a2, a3, a4, a5, row, rfl, hq, b1, b2, b3, b4, b5⟩ := sp'.inv
    refine ws_setLc (i := 1) (n := 0) (Y := YD []) (own := [("row", 2), ("loop", 3)]) rfl sc_stair_of.nd (ei_list (ds := []) (ee_fld (R := RD (.list [])) (ee_var (i := 0) rfl rfl) hq E.c_Spot E.n_Spot_pumps rfl b3)) (blkOk_by (N := N_stair_of) (sc := defScope s_stair_of) (by decide +kernel)) (fun _ => none) (fun i R h => absurd h (Nat.not_lt_zero _)) (fun i x G' eg h => absurd h (Nat.not_lt_zero _)) (by decide) ex fun p vs G1 H1 s1 hp w1 pv => ?_
    cases pv
    have s2 := s1.frz w1.h hp
    have e2 := s2.g
    have shr : shp 1 (rowD row) := shp_lst fun z hz => shp_name (b5.2 z hz)
    have hrl := b5.1
    refine ws_ret (R := RAny) (EE.any (R := RD _) (ed_addL (ds := []) (ds' := (List.replicate (if row = [] then 0 else 1) [PyData.tuple [rowD row, .list []]]).flatten) (ee_var (i := 1) (R := RD (.list [])) rfl (.lst upd_same .nil)) (ed_rep (ds := [.tuple [rowD row, .list []]]) (n := if row = [] then 0 else 1) (ed_lst (ad_cons (ed_tup (hl := by simp) (ad_cons (ed_listL (ee_fld (R := RD (rowD row)) (ee_var (i := 0) rfl rfl) (e2 _ _ hq) E.c_Spot E.n_Spot_tail rfl (Rp.mono e2 _ _ b4)) E.b_list) (ad_cons (ed_lst ad_nil) ad_nil))) ad_nil) (by simp))
      (ee_is (ed_intB (t := !decide (row = [])) (ee_is (ed_ne hr (ee_fld (R := RD (rowD row)) (ee_var (i := 0) rfl rfl) (e2 _ _ hq) E.c_Spot E.n_Spot_tail rfl (Rp.mono e2 _ _ b4)) (ed_lst ad_nil) shr.of rfl) ?_) E.b_int) ?_) ?_ ?_) ?_)) s2.i fun v G3 H3 s3 r3 => k v G3 H3 (s2.trans s3) r3
    · unfold rowD
      cases row with
      | nil => rfl
      | cons z row => rw [List.map_cons, PyData.eqv, PyData.eqvAll]; rfl
    · by_cases e : row = [] <;> simp [e]
    · split <;> simp
    · split <;> simp
    · split <;> simp
theorem ok_wides_of {hs : List Hp'} {m : Nat} (E : Env K mg) (O : OfLen m hs) : C8.Cal P w K mg base 3 "wides_of" (Pr (ACons (SpotsR K hs) ANil) RAny) [] :=
  cl_wides_of E fun cdv A outer s H vs Q E' hr G ex as k => by
    obtain ⟨v0, rfl, p, ss, cs, rfl, hp, ps, hd, hcl⟩ := ACons.one as
    have hlen : cs.length = hs.length := by
      have := congrArg List.length hd
      rw [List.length_map, List.length_map] at this
      exact this
    have hsl : ss.length = hs.length := by rw [Paired.length ps, hlen]
    refine ws_ret (R := RAny) (ee_cal (ok_greatest E O) hr (ea1 ?_)) ex k
    have e1 : (List.range ss.length).filterMap (fun i : Nat => (hs[i]?).map tI) = hs.map tI := by
      have : (fun i : Nat => (hs[i]?).map tI) = fun i : Nat => (hs[i]?).bind fun h => some (tI h) := by
        funext i
        cases hs[i]? <;> rfl
      rw [hsl, this, range_fm, fm_some]
    rw [← e1]
    refine ed_lc (own := [("spot", 1)]) rfl sc_wides_of.nd (ei_listV (ee_var (i := 0) rfl rfl) hp) (blkOk_by (N := N_wides_of) (sc := defScope s_wides_of) (by decide +kernel)) _ (fun i x G' eg hi y => ?_) (by have := O.few; omega)
    have y' : ss[i]? = some x := y
    obtain ⟨c, hc, sv⟩ := Paired.getL ps y'
    have hh : (cs.map List.head?)[i]? = some c.head? := by rw [List.getElem?_map, hc]; rfl
    rw [hd, List.getElem?_map] at hh
    obtain ⟨h, h1, h2⟩ := Option.map_eq_some_iff.mp hh
    obtain ⟨anc, rfl⟩ : ∃ anc, c = h :: anc := by
      cases c with
      | nil => cases h2
      | cons z anc => exact ⟨anc, by rw [Option.some.inj h2]⟩
    obtain ⟨q, qx, a1, a2, a3, a4, a5, row, rfl, hq, b1, _⟩ := (SpotV.mono eg sv).inv
    rw [h1]
    refine ⟨_, ?_, fun s H C cl fp => ⟨eg_name (i := 1) sc_wides_of.nd, ets_nil, ?_⟩⟩
    · rfl
    · exact ee_fld (R := RD (tI h)) (ee_var (i := 1) rfl rfl) hq E.c_Spot E.n_Spot_wide rfl b1
theorem bk_bound {fd : FuncData} {f : Addr} (F : FunD K "bound" "bound" (defArgs s_bound) (defBody s_bound) (defScope s_bound) [] [("most", (.int 2000))] f fd) : ∃ ds, Vals [.int 2000] ds ∧ Binds K fd ["net", "place", "most"] ds :=
  F.binds0 2 (by simp) rfl fun D doc pm an cdv ct us ks h1 h2 => match us, ks, h1, h2 with
    | [_, _], [_], _, _ => ⟨_, _, _, _, _, _, rfl, rfl, rfl⟩
def SpotA (K : PySem.W.Frag) : V → Hp → Prop := fun v G => ∃ h c, SpotV K G v (h :: c) ∧ c.length ≤ 1000
instance : MonoR (SpotA K) := ⟨fun _ _ _ e ⟨h, c, a, b⟩ => ⟨h, c, SpotV.mono e a, b⟩⟩
def BoundR (m : Int) : V → Hp → Prop := fun v G => ∃ q u1 u2 u3 u4, v = .ref q ∧ G q = some (.tup [u1, u2, u3, u4]) ∧ Rp G u1 (.str "most") ∧ Rp G u2 (.int m)
instance (m : Int) : MonoR (BoundR m) := ⟨fun _ _ _ e ⟨q, u1, u2, u3, u4, h1, h2, h3, h4⟩ => ⟨q, u1, u2, u3, u4, h1, e _ _ h2, Rp.mono e _ _ h3, Rp.mono e _ _ h4⟩⟩
theorem ee_lst0 {X : Cx} {σ : L2.St} {G : Hp} {a b : Expr} {pos : Pos} {R : V → Hp → Prop} {Rs : List (V → Hp → Prop)} [m : MonoR R] (ha : EE X a σ G (LstR (R :: Rs))) (hb : ED X b σ G (.int 0)) (hs : PlainIx b := by intro _ _; rfl) : EE X (.Subscript a b pos) σ G R := fun H Q e k =>
  ⟨_, pe_ix ix_list (pe_self a) (pe_self b) hs, ha H _ e fun x G1 H1 s1 ⟨p, vs, ex, hp, pv⟩ => (hb.mono s1.g) H1 _ s1.i fun y G2 H2 s2 ry => by
    subst ex
    cases pv with
    | cons r t =>
      exact ⟨p, _, 0, _, rfl, Rp.int_eq ry, SqL.of (s2.i _ _ (s2.g _ _ hp)), atI_zero, k _ G2 H2 (s1.trans s2) (m.mono _ _ _ s2.g r)⟩⟩
theorem ok_bound {N : Net} {L : Nat} {x : Str} {m : Int} (E : Env K mg) (S : Sea N L) (NP : NPump N L) (hx : x ∈ N.names) (h1 : m ∈ (finN N L).map fun h => h.getD (ix N.names x) 0) (h2 : ∀ y ∈ (finN N L).map fun h => h.getD (ix N.names x) 0, y ≤ m) :
    C8.Cal P w K mg base 7 "bound" (Pr (ACons (RD (netD N)) (ACons (RD (.str x)) (ACons (RD (.int 2000)) ANil))) (BoundR m)) [.int 2000] := by
  obtain ⟨fd, F⟩ := E.f_bound
  obtain ⟨ds, hd, hb⟩ := bk_bound F
  refine cal_pr F E.g_bound hb hd sc_bound (LenA.len (A := ACons (RD (netD N)) (ACons (RD (.str x)) (ACons (RD (.int 2000)) ANil)))) fun cdv A outer s H vs Q E' hr G ex as k => ?_
  obtain ⟨v0, v1, v2, rfl, r0, rx, r2⟩ := ACons.three as
  obtain rfl := Rp.int_eq r2
  have Flen : (finN N L).length = L := by rw [heapsOf_length, S.e.len]
  have hL := S.le
  have hlen : ∀ h ∈ finN N L, h.length = N.names.length := fun h hh => (S.hip L h hh).len
  have nml : N.names.length ≤ 40 := by rw [names_len]; exact S.W.len
  have hatl : ix N.names x < N.names.length := List.idxOf_lt_length_iff.mpr hx
  have O : OfLen N.names.length (finN N L) := ⟨hlen, by omega, by omega, by omega⟩
  refine ws_set (i := 3) (R := LookR K N) sc_bound.nd (ee_cal (ok_look_at E S.W) hr (ea1 (ee_var (i := 0) rfl r0))) ex fun vk G1 H1 s1 lk => ?_
  refine ws_set (i := 4) (R := RD (.int (ix N.names x : Nat))) sc_bound.nd (ee_cal (ok_place_number E S.W hx) hr (ea_cons (ee_var (i := 3) rfl lk) (ea1 (ee_var (i := 1) rfl (Rp.mono s1.g _ _ rx))))) s1.i fun v G2 H2 s2 r => ?_
  rw [Rp.int_eq r]
  have s02 := s1.trans s2
  refine ws_set (i := 5) (R := SpotsR K (finN N L)) sc_bound.nd (ee_fldX (ee_makeU (ok_Growth_init (most := 2000) E S NP (by decide)) hr (ea_cons (ee_var (i := 3) rfl (MonoR.mono _ _ _ s2.g lk)) (ea1 (ee_var (i := 2) rfl (.int _))))) fun v G' eg ⟨q, dx, fs, e, hq, vl, va, b, efs, sr⟩ => ⟨q, _, dx, fs, va, e, hq, E.c_Growth, E.n_Growth_spots, by rw [efs]; rfl, sr⟩) s02.i fun v5 G3 H3 s3 r5 => ?_
  obtain ⟨p, ss, cs, rfl, hp, ps, hdc, hcl⟩ := r5
  have s03 := s02.trans s3
  have hcsl : cs.length = (finN N L).length := by
    have := congrArg List.length hdc
    rw [List.length_map, List.length_map] at this
    exact this
  have hsl : ss.length = (finN N L).length := by rw [Paired.length ps, hcsl]
  have spotAt : ∀ {G' : Hp} {i : Nat} {y : V}, Ex G3 G' → ss[i]? = some y → ∃ h anc, (finN N L)[i]? = some h ∧ SpotV K G' y (h :: anc) ∧ anc.length ≤ 1000 := fun {G' i y} eg hy => by
    obtain ⟨c, hc, sv⟩ := Paired.getL ps hy
    have hh : (cs.map List.head?)[i]? = some c.head? := by rw [List.getElem?_map, hc]; rfl
    rw [hdc, List.getElem?_map] at hh
    obtain ⟨h, h1, h2⟩ := Option.map_eq_some_iff.mp hh
    have hcc := hcl c (List.mem_of_getElem? hc)
    cases c with
    | nil => cases h2
    | cons z anc =>
      obtain rfl := Option.some.inj h2
      rw [List.length_cons] at hcc
      exact ⟨h, anc, h1, SpotV.mono eg sv, by omega⟩
  -- no endless ones
  refine ws_setLc (i := 6) (n := ss.length) (Y := YV ss) (own := [("spot", 7)]) rfl sc_bound.nd (ei_listV (ee_var (i := 5) rfl rfl) hp) (blkOk_by (N := N_bound) (sc := defScope s_bound) (by decide +kernel)) (fun _ => none) (fun i R _ h => nomatch h) (fun i y G' eg hi hy => ?_) (by omega) s03.i fun q6 vs6 G4 H4 s4 hq6 w4 pv4 => ?_
  · obtain ⟨h, anc, hh, sv, _⟩ := spotAt eg hy
    obtain ⟨q, qx, a1, a2, a3, a4, a5, row, rfl, hq, b1, _⟩ := sv.inv
    refine ⟨_, ?_, fun s H C cl fp => ⟨eg_name (i := 7) sc_bound.nd, ?_⟩⟩
    · rfl
    · exact ets_one (et_isN (Ra := RD _) (ed_ixT (i := (ix N.names x : Nat)) (ee_fld (R := RD (tI h)) (ee_var (i := 7) rfl rfl) hq E.c_Spot E.n_Spot_wide rfl b1) (ee_var (i := 4) rfl (.int _)) (tI_at (by rw [hlen h (List.mem_of_getElem? hh)]; exact hatl))) fun v G r => by rw [Rp.int_eq r]; rfl)
  have enil : vs6 = [] := by
    have h1 : (List.range ss.length).filterMap (fun _ => (none : Option (V → Hp → Prop))) = [] := by
      induction List.range ss.length with
      | nil => rfl
      | cons a l ih => exact ih
    rw [h1] at pv4
    cases pv4
    rfl
  subst enil
  have s04 := (s03.trans s4).frz w4.h (s03.fresh hq6)
  have e4 : Ex G3 (upd G4 q6 (.lst [])) := s4.g.trans w4.exG
  refine ws_skip (et_is (et_ne hr (ee_var (i := 6) (R := RD (.list [])) rfl (.lst upd_same .nil)) (ed_lst ad_nil) rfl rfl) rfl) s04.i fun H5 s5 => ?_
  have s05 := s04.trans s5
  -- the count
  refine ws_set (i := 8) (R := RD (.int m)) sc_bound.nd (ed_max (ns := (finN N L).map fun h => h.getD (ix N.names x) 0) rfl ?_ h1 h2 E.b_max) s05.i fun v8 G6 H6 s6 r8 => ?_
  · have e1 : (List.range ss.length).filterMap (fun i : Nat => ((finN N L)[i]?).bind fun h => some (PyData.int (h.getD (ix N.names x) 0))) = ((finN N L).map fun h => h.getD (ix N.names x) 0).map .int := by
      rw [hsl, range_fm, fm_some, List.map_map]
      rfl
    rw [← e1]
    refine ed_lc (own := [("spot", 7)]) rfl sc_bound.nd (ei_listV (ee_var (i := 5) rfl rfl) (e4 _ _ hp)) (blkOk_by (N := N_bound) (sc := defScope s_bound) (by decide +kernel)) _ (fun i y G' eg hi hy => ?_) (by omega)
    obtain ⟨h, anc, hh, sv, _⟩ := spotAt (e4.trans eg) hy
    obtain ⟨q, qx, a1, a2, a3, a4, a5, row, rfl, hq, b1, _⟩ := sv.inv
    rw [hh]
    refine ⟨_, ?_, fun s H C cl fp => ⟨eg_name (i := 7) sc_bound.nd, ets_nil, ?_⟩⟩
    · rfl
    · exact ed_ixT (i := (ix N.names x : Nat)) (ee_fld (R := RD (tI h)) (ee_var (i := 7) rfl rfl) hq E.c_Spot E.n_Spot_wide rfl b1) (ee_var (i := 4) rfl (.int _)) (tI_at (by rw [hlen h (List.mem_of_getElem? hh)]; exact hatl))
  rw [Rp.int_eq r8]
  have s06 := s05.trans s6
  have e6 := e4.trans s6.g
  -- a spot with it
  let out : Nat → Option (V → Hp → Prop) := fun i => ((finN N L)[i]?).bind fun h => if decide (h.getD (ix N.names x) 0 = m) = true then some (SpotA K) else none
  obtain ⟨h0, hh0, em⟩ := List.mem_map.mp h1
  obtain ⟨i0, hi0⟩ := List.mem_iff_getElem?.mp hh0
  have hne : SpotA K ∈ (List.range ss.length).filterMap out := List.mem_filterMap.mpr ⟨i0, List.mem_range.mpr (by rw [hsl]; exact (List.getElem?_eq_some_iff.mp hi0).1), by
    show ((finN N L)[i0]?).bind _ = _
    rw [hi0]
    exact if_pos (decide_eq_true (show h0.getD (ix N.names x) 0 = m from em))⟩
  have hall : ∀ R ∈ (List.range ss.length).filterMap out, R = SpotA K := fun R hR => by
    obtain ⟨i, _, e⟩ := List.mem_filterMap.mp hR
    have e' : ((finN N L)[i]?).bind (fun h => if decide (h.getD (ix N.names x) 0 = m) = true then some (SpotA K) else none) = some R := e
    cases hz : (finN N L)[i]? with
    | none => rw [hz] at e'; cases e'
    | some h =>
      rw [hz] at e'
      simp only [Option.bind_some] at e'
      split at e'
      · exact (Option.some.inj e').symm
      · cases e'
  obtain ⟨Rs, eRs⟩ : ∃ Rs, (List.range ss.length).filterMap out = SpotA K :: Rs := by
    cases hc : (List.range ss.length).filterMap out with
    | nil => rw [hc] at hne; cases hne
    | cons R Rs => exact ⟨Rs, by rw [hall R (by rw [hc]; exact List.mem_cons_self ..)]⟩
  refine ws_set (i := 7) (R := SpotA K) sc_bound.nd (ee_lst0 (Rs := Rs) ?_ ed_int) s06.i fun v7 G7 H7 s7 r7 => ?_
  · rw [← eRs]
    refine ee_lc (own := [("spot", 7)]) rfl sc_bound.nd (ei_listV (ee_var (i := 5) rfl rfl) (e6 _ _ hp)) (blkOk_by (N := N_bound) (sc := defScope s_bound) (by decide +kernel)) out (fun i R hi hR => ?_) (fun i y G' eg hi hy => ?_) (by omega)
    · rw [hall R (List.mem_filterMap.mpr ⟨i, List.mem_range.mpr hi, hR⟩)]
      infer_instance
    · obtain ⟨h, anc, hh, sv, hal⟩ := spotAt (e6.trans eg) hy
      obtain ⟨q, qx, a1, a2, a3, a4, a5, row, rfl, hq, b1, _⟩ := sv.inv
      show Turn1 _ _ _ _ _ _ _ _ _ (((finN N L)[i]?).bind _)
      rw [hh]
      have test : ∀ (s : Shared) (H : Hp) (C : Addr) (cl : List (Str × Addr)) (fp : List Addr), True := fun _ _ _ _ _ => trivial
      simp only [Option.bind_some]
      by_cases hm : h.getD (ix N.names x) 0 = m
      · rw [if_pos (decide_eq_true hm)]
        refine ⟨_, ?_, fun s H C cl fp => ⟨eg_name (i := 7) sc_bound.nd, ?_, ?_⟩⟩
        · rfl
        · exact ets_one (et_is (et_eq hr (ed_ixT (i := (ix N.names x : Nat)) (ee_fld (R := RD (tI h)) (ee_var (i := 7) rfl rfl) hq E.c_Spot E.n_Spot_wide rfl b1) (ee_var (i := 4) rfl (.int _)) (tI_at (by rw [hlen h (List.mem_of_getElem? hh)]; exact hatl))) (ee_var (i := 8) (R := RD (.int m)) rfl (.int _)) rfl rfl) (by rw [PyData.eqv, hm]; simp))
        · exact ee_var (i := 7) rfl ⟨h, anc, sv, hal⟩
      · rw [if_neg (by simpa using hm)]
        refine ⟨_, ?_, fun s H C cl fp => ⟨eg_name (i := 7) sc_bound.nd, ?_⟩⟩
        · rfl
        · exact ets_one (et_is (et_eq hr (ed_ixT (i := (ix N.names x : Nat)) (ee_fld (R := RD (tI h)) (ee_var (i := 7) rfl rfl) hq E.c_Spot E.n_Spot_wide rfl b1) (ee_var (i := 4) rfl (.int _)) (tI_at (by rw [hlen h (List.mem_of_getElem? hh)]; exact hatl))) (ee_var (i := 8) (R := RD (.int m)) rfl (.int _)) rfl rfl) (by rw [PyData.eqv]; simpa using hm))
  obtain ⟨h7, c7, sv7, hl7⟩ := r7
  have s07 := s06.trans s7
  have e7 := e6.trans s7.g
  refine ws_ret (R := BoundR m) (ee_tup (Rs := ACons (RD (.str "most")) (ACons (RD (.int m)) (ACons RAny (ACons RAny ANil)))) (ea_cons ed_str (ea_cons (ee_var (i := 8) rfl (.int _)) (ea_cons (ee_cal (ok_stair_of (c := c7) (h := h7) E hl7) hr (ea1 (ee_var (i := 7) (R := SpotR K (h7 :: c7)) rfl sv7)))
    (ea1 (ee_cal (ok_wides_of E O) hr (ea1 (ee_var (i := 5) (R := SpotsR K (finN N L)) rfl ⟨p, ss, cs, rfl, e7 _ _ hp, spots_mono e7 ps, hdc, hcl⟩))))))) (by decide) (fun vs G' a => LenA.len _ _ a) fun vs G' p' eg a hp' => ?_) s07.i fun v G8 H8 s8 r8 => k v G8 H8 (s07.trans s8) r8
  obtain ⟨u1, r1, rfl, ru1, u2, r2', rfl, ru2, u3, r3, rfl, _, u4, r4, rfl, _, rfl⟩ := a
  exact ⟨p', u1, u2, u3, u4, rfl, upd_same, Rp.mono (Ex.new hp') _ _ ru1, Rp.mono (Ex.new hp') _ _ ru2⟩
end TK

/-! part P17 -/
set_option Elab.async false
set_option linter.all false
set_option maxRecDepth 100000
set_option maxHeartbeats 4000000
/-! PG, part 17. -/
namespace PG
open PySem PySem.Spec PyProof.Rows L2
section
variable {X : Cx} {σ σ' : L2.St} {G G0 G1 G2 H H0 H1 H2 : Hp} {e a b c o i l tg iter kx vx elt : Expr} {es : List Expr} {R R1 : V → Hp → Prop} {pos pp apos cpos : Pos} {p : Addr} {S : List Addr} {D : Ends} {rest : List Stmt}
/-- x += e, lists -/
theorem ws_augLs {i : Nat} {x : Str} {q : Addr} {xs : List V} {ds : List PyData} {pos' : Pos} (hN : X.N.Nodup) (hsi : σ[i]? = some (some (.ref q))) (he : ED X e σ G (.list ds)) (w : Own G H q (.lst xs)) (hl : xs.length + ds.length ≤ 100000) (ex : Ex G H)
    (k : ∀ zs G' H', Stp [] G H G' H' → Paired (Rp G') zs ds → Own G' H' q (.lst xs) → WS X rest D (σ.set i (some (.ref q))) (L2.upd H' q (.lst (xs ++ zs)))) (hi : X.N[i]? = some x := by rfl) (hx : Loc X.env.scope x := by first | exact Or.inl rfl | exact Or.inr rfl)
    (hf : X.fn x = true ∨ X.env.scope.names.lookup x = some .local := by first | exact .inl rfl | exact .inr rfl | assumption) : WS X (.AugAssign (.Name x pos') .Add e pos :: rest) D σ H :=
  ws_cons ⟨_, ps_aug hN hi hx (pe_self e) (show PIp X .Add rExt2 from fun pins s σ H x y v u Q I r1 r2 h => iop_ext pins s σ H x y v u Q I r1 r2 h) hf, _, hsi, he H _ ex fun v G' H' s r => by
    obtain ⟨b, zs, rfl, h1, h2⟩ := Rp.lst_eq r
    have w' := w.step0 s
    exact ⟨q, b, xs, zs, rfl, rfl, w'.h, s.i _ _ h1, small (by rw [Paired.length h2]; exact hl), k zs G' H' s h2 w'⟩⟩
theorem any_int {i : Int} : ∀ {l : List Int}, (l.map PyData.int).any (fun z => PyData.eqv z (.int i)) = decide (i ∈ l)
  | [] => by simp
  | a :: l => by
    rw [List.map_cons, List.any_cons, any_int, PyData.eqv]
    by_cases e : a = i
    · simp [e]
    · have : ¬ i = a := fun z => e z.symm
      simp [e, this]
theorem any_str {x : Str} : ∀ {l : List Str}, (l.map PyData.str).any (fun z => PyData.eqv z (.str x)) = decide (x ∈ l)
  | [] => by simp
  | a :: l => by
    rw [List.map_cons, List.any_cons, any_str, PyData.eqv]
    by_cases e : a = x
    · simp [e]
    · have : ¬ x = a := fun z => e z.symm
      simp [e, this]
end
end PG

/-! part F17 -/
set_option Elab.async false
set_option linter.all false
set_option maxRecDepth 100000
set_option maxHeartbeats 4000000
namespace TK
open PySem PySem.Spec PyProof.Rows L2 PG
variable {P : Program} {w : World} {K : PySem.W.Frag} {mg : Str → Option Value} {base : Heap}
/-! ### siphons, traps -/
def nums (N : Net) (ps : List Str) : List Int := (List.range N.names.length).filterMap fun i : Nat => (N.names[i]?).bind fun x => if decide (x ∈ ps) = true then some ((i : Nat) : Int) else none
theorem nums_len {N : Net} {ps : List Str} : (nums N ps).length ≤ N.names.length := Nat.le_trans (List.length_filterMap_le _ _) (by simp)
theorem mem_nums {N : Net} (nd : N.names.Nodup) {ps : List Str} {x : Str} (hx : x ∈ N.names) : ((ix N.names x : Nat) : Int) ∈ nums N ps ↔ x ∈ ps := by
  unfold nums
  rw [List.mem_filterMap]
  constructor
  · rintro ⟨i, hi, e⟩
    cases hz : N.names[i]? with
    | none => rw [hz] at e; cases e
    | some y =>
      rw [hz] at e
      simp only [Option.bind_some] at e
      split at e
      · rename_i hy
        have e1 := Option.some.inj e
        have e2 : i = ix N.names x := by omega
        subst e2
        rw [ix_at hx] at hz
        rw [Option.some.inj hz]
        exact of_decide_eq_true hy
      · cases e
  · intro h
    refine ⟨ix N.names x, List.mem_range.mpr (List.idxOf_lt_length_iff.mpr hx), ?_⟩
    rw [ix_at hx]
    simp [h]
theorem ok_numbers_of {N : Net} {ps : List Str} (E : Env K mg) (W : Wf N) (hp : ∀ x ∈ ps, x ∈ N.names) : C8.Cal P w K mg base 2 "numbers_of" (Pr (ACons (LookR K N) (ACons (RD (.list (ps.map .str))) ANil)) (RD (.list ((nums N ps).map .int)))) [] :=
  cl_numbers_of E fun cdv A outer s H vs Q E' hr G ex a k => by
    obtain ⟨v0, v1, rfl, ⟨q, dx, fs, rfl, hq, v3, v4, v5, v6, v7, v8, rfl, hpl, hbg, hnm, htk, hgv⟩, r1⟩ := ACons.two a
    have shps : shp 1 (.list (ps.map .str)) := shp_lst fun x hx => shp_name (name_ok W (hp x hx))
    refine ws_forS (ei_list (ee_var (i := 1) rfl r1)) PassesOwn.never rfl (Stp.refl (S := []) ex) (fun i σ' _ _ => ∃ o2 o3, σ' = [some (.ref q), some v1, o2, o3]) (fun _ _ _ => ⟨_, _, rfl⟩) ?_ ?_
    · rintro G1 eg i σ' G' H' G3 H3 x hi e1 s2 ⟨o2, o3, rfl⟩ s3 ⟨d, hd, rd⟩
      rw [List.getElem?_map] at hd
      obtain ⟨y, hy, rfl⟩ := Option.map_eq_some_iff.mp hd
      have hm := hp y (List.mem_of_getElem? hy)
      have eG := eg.trans e1
      refine wg (eg_name (i := 2) sc_numbers_of.nd) s2.i fun H4 s4 => ?_
      refine ws_skip (et_is (et_notInD hr (ee_var (i := 2) rfl rd) (ee_fld (R := RD (.list (N.names.map .str))) (ee_var (i := 0) rfl rfl) (eG _ _ hq) E.c_Look E.n_Look_places rfl (Rp.mono eG _ _ hpl)) (shp_name (name_ok W hm)).of (shp_names W).of) (by rw [any_str, decide_eq_true hm]; rfl)) s4.i fun H5 s5 => ?_
      exact ws_nil ⟨G3, e1, s2.trans (s4.trans s5), _, _, rfl⟩
    · rintro σ' G' H' e1 s2 ⟨o2, o3, rfl⟩
      refine ws_ret (R := RD (.list ((nums N ps).map .int))) ?_ s2.i fun v G3 H3 s3 r3 => k v G3 H3 (s2.trans s3) r3
      have ed : (nums N ps).map PyData.int = (List.range (N.names.map PyData.str).length).filterMap fun i : Nat => (N.names[i]?).bind fun x => if decide (x ∈ ps) = true then some (PyData.int (i : Int)) else none := by
        unfold nums
        rw [List.map_filterMap, List.length_map]
        congr 1
        funext i
        cases N.names[i]? with
        | none => rfl
        | some x =>
          simp only [Option.bind_some]
          split <;> rfl
      rw [ed]
      refine ed_lc (own := [("at", 3), ("place", 2)]) rfl sc_numbers_of.nd (ei_enumL (ee_fld (R := RD (.list (N.names.map .str))) (ee_var (i := 0) rfl rfl) (e1 _ _ hq) E.c_Look E.n_Look_places rfl (Rp.mono e1 _ _ hpl)) E.b_enumerate) (blkOk_by (N := N_numbers_of) (sc := defScope s_numbers_of) (by decide +kernel)) _ (fun i x G'' eg hi y => ?_) (by rw [List.length_map, names_len]; have := W.len; omega)
      obtain ⟨d, z, t, hd, rfl, ht, rz⟩ := y
      rw [List.getElem?_map] at hd
      obtain ⟨nm, hn, rfl⟩ := Option.map_eq_some_iff.mp hd
      rw [hn]
      have hmn := name_ok W (List.mem_of_getElem? hn)
      refine Turn1.test ⟨_, ?_, fun s H C cl fp => ⟨eg_tup2 rfl ht (eg_name (i := 3) sc_numbers_of.nd) (eg_name (i := 2) sc_numbers_of.nd), ?_, fun _ => ?_⟩⟩
      · rfl
      · exact ets_one (et_is (et_inD hr (ee_var (i := 2) rfl rz) (ee_var (i := 1) rfl (Rp.mono (e1.trans eg) _ _ r1)) (shp_name hmn).of shps.of) any_str)
      · exact ee_var (i := 3) rfl (.int _)
def sideD (N : Net) (ps : List (Str × Int)) : PyData := .list (ps.map fun p => .int (ix N.names p.1))
theorem ok_sides {N : Net} {f : Fir} (E : Env K mg) (W : Wf N) (hf : f ∈ N.firings) : C8.Cal P w K mg base 1 "sides" (Pr (ACons (LookR K N) (ACons (RD (.str f.name)) ANil)) (RD (.tuple [sideD N f.takes, sideD N f.gives]))) [] :=
  cl_sides E fun cdv A outer s H vs Q E' hr G ex a k => by
    obtain ⟨v0, v1, rfl, ⟨q, dx, fs, rfl, hq, v3, v4, v5, v6, v7, v8, rfl, hpl, hbg, hnm, htk, hgv⟩, r1⟩ := ACons.two a
    have hlt : f.takes.length ≤ 100000 := by have h1 := (W.tk f hf).len; have h2 := W.len; rw [names_len] at h1; omega
    have hlg : f.gives.length ≤ 100000 := by have h1 := (W.gv f hf).len; have h2 := W.len; rw [names_len] at h1; omega
    refine ws_ret (R := RD (.tuple [sideD N f.takes, sideD N f.gives])) (ed_tup (hl := by simp) (ad_cons (ee_is (ed_lcM (l := f.takes) (src := fun p : Str × Int => .tuple [.int (ix N.names p.1), .int p.2]) (own := [("at", 2), ("count", 3)]) rfl sc_sides.nd (ei_list (ed_part hr (ee_var (i := 0) rfl rfl) hq E.c_Look E.n_Look_takes rfl htk hf (ee_var (i := 1) rfl r1))) (blkOk_by (N := N_sides) (sc := defScope s_sides) (by decide +kernel)) (fun p => some (.int (ix N.names p.1))) (fun i p x G' eg hp rx => ?_) hlt) (by rw [fm_some]; rfl))
      (ad_cons (ee_is (ed_lcM (l := f.gives) (src := fun p : Str × Int => .tuple [.int (ix N.names p.1), .int p.2]) (own := [("at", 2), ("count", 3)]) rfl sc_sides.nd (ei_list (ed_part hr (ee_var (i := 0) rfl rfl) hq E.c_Look E.n_Look_gives rfl hgv hf (ee_var (i := 1) rfl r1))) (blkOk_by (N := N_sides) (sc := defScope s_sides) (by decide +kernel)) (fun p => some (.int (ix N.names p.1))) (fun i p x G' eg hp rx => ?_) hlg) (by rw [fm_some]; rfl)) ad_nil))) ex k
    · obtain ⟨t, rfl, ht⟩ := rankI_eq rx
      refine ⟨_, ?_, fun s H C cl fp => ⟨eg_tup2 rfl ht (eg_name (i := 2) sc_sides.nd) (eg_name (i := 3) sc_sides.nd), ets_nil, ?_⟩⟩
      · rfl
      · exact ee_var (i := 2) rfl (.int _)
    · obtain ⟨t, rfl, ht⟩ := rankI_eq rx
      refine ⟨_, ?_, fun s H C cl fp => ⟨eg_tup2 rfl ht (eg_name (i := 2) sc_sides.nd) (eg_name (i := 3) sc_sides.nd), ets_nil, ?_⟩⟩
      · rfl
      · exact ee_var (i := 2) rfl (.int _)
def nearF (t : Bool) (f : Fir) : List (Str × Int) := if t then f.takes else f.gives
def farF (t : Bool) (f : Fir) : List (Str × Int) := if t then f.gives else f.takes
def Kept (N : Net) (some_ : List Int) (t : Bool) : Prop := ∀ f ∈ N.firings, ((farF t f).any fun p => decide (((ix N.names p.1 : Nat) : Int) ∈ some_)) = true ∨ ∀ p ∈ nearF t f, ¬ ((ix N.names p.1 : Nat) : Int) ∈ some_
theorem ok_lost {N : Net} {so : List Int} {t : Bool} (E : Env K mg) (W : Wf N) (hk : Kept N so t) (hsl : so.length ≤ 1000) : C8.Cal P w K mg base 2 "lost" (Pr (ACons (LookR K N) (ACons (RD (.list (so.map .int))) (ACons (RD (.bool t)) ANil))) (RD (.list []))) [] :=
  cl_lost E fun cdv A outer s H vs Q E' hr G ex a k => by
    obtain ⟨v0, v1, v2, rfl, lk, r1, r2⟩ := ACons.three a
    obtain rfl := Rp.bl_eq r2
    have lk' : LookR K N v0 G := lk
    obtain ⟨q, dx, fs, rfl, hq, v3, v4, v5, v6, v7, v8, rfl, hpl, hbg, hnm, htk, hgv⟩ := lk'
    have shso : shp 1 (.list (so.map .int)) := shp_lst fun x _ => shp_int x
    refine ws_setN (i := 3) sc_lost.nd en_lst0 ex fun u o G1 H1 s1 hu w1 ho => ?_
    subst ho
    refine ws_forS (Y := YD (N.firings.map fun f : Fir => PyData.str f.name)) (ei_list (ee_fld (R := RD (.list (N.firings.map fun f : Fir => PyData.str f.name))) (ee_var (i := 0) rfl rfl) (s1.g _ _ hq) E.c_Look E.n_Look_names rfl (Rp.mono s1.g _ _ hnm))) PassesOwn.never rfl s1
      (fun i σ' G' H' => ∃ o4 o5 o6 o7 o8 o9, σ' = [some (.ref q), some v1, some (.bl t), some (.ref u), o4, o5, o6, o7, o8, o9] ∧ Own G' H' u (.lst [])) (fun G2 H2 s2 => ⟨_, _, _, _, _, _, rfl, w1.step0 s2⟩) ?_ ?_
    · rintro G1' eg i σ' G' H' G3 H3 x hi e1 s2 ⟨o4, o5, o6, o7, o8, o9, rfl, own⟩ s3 ⟨d, hd, rd⟩
      rw [List.getElem?_map] at hd
      obtain ⟨f, hf, rfl⟩ := Option.map_eq_some_iff.mp hd
      have hfm := List.mem_of_getElem? hf
      have own3 := own.step0 s3
      have eG := s1.g.trans (eg.trans e1)
      refine wg (eg_name (i := 4) sc_lost.nd) s2.i fun H4 s4 => ?_
      refine ws_asg (R := RD (.tuple [sideD N f.takes, sideD N f.gives])) (ee_cal (ok_sides E W hfm) hr (ea_cons (ee_var (i := 0) (R := LookR K N) rfl (MonoR.mono _ _ _ eG lk)) (ea1 (ee_var (i := 4) rfl rd)))) s4.i fun v G5 H5 s5 r5 => ?_
      obtain ⟨qt, xs, rfl, ht, hp2⟩ := Rp.tup_eq r5
      cases hp2 with
      | cons ra hp2 =>
      cases hp2 with
      | cons rb hp2 =>
      cases hp2
      rename_i va vb
      refine wg (eg_tup2 rfl ht (eg_name (i := 5) sc_lost.nd) (eg_name (i := 6) sc_lost.nd)) s5.i fun H6 s6 => ?_
      have s06 := ((s2.trans s4).trans s5).trans s6
      have own6 := ((own3.step0 s4).step0 s5).step0 s6
      refine ws_asg (R := RD (.tuple [sideD N (nearF t f), sideD N (farF t f)])) (ee_if (t := t) (et_val (ee_var (i := 2) rfl (.bl _))) (fun z => ?_) fun z => ?_) s06.i fun v G7 H7 s7 r7 => ?_
      · subst z
        exact ed_tup (hl := by simp) (ad_cons (ee_var (i := 5) rfl ra) (ad_cons (ee_var (i := 6) rfl rb) ad_nil))
      · subst z
        exact ed_tup (hl := by simp) (ad_cons (ee_var (i := 6) rfl rb) (ad_cons (ee_var (i := 5) rfl ra) ad_nil))
      obtain ⟨qt2, xs2, rfl, ht2, hp2⟩ := Rp.tup_eq r7
      cases hp2 with
      | cons rn hp2 =>
      cases hp2 with
      | cons rf hp2 =>
      cases hp2
      rename_i vn vf
      refine wg (eg_tup2 rfl ht2 (eg_name (i := 7) sc_lost.nd) (eg_name (i := 8) sc_lost.nd)) s7.i fun H8 s8 => ?_
      have s08 := (s06.trans s7).trans s8
      have own8 := (own6.step0 s7).step0 s8
      have e8 : Ex G G7 := eG.trans (s5.g.trans s7.g)
      have r18 := Rp.mono e8 _ _ r1
      have inE : ∀ {X : Cx} {σ : L2.St} {G9 : Hp} {a b : Expr} {pos : Pos} {j : Int} {kk : Nat} (hr : Room (kk + 1) X.A) (ha : ED X a σ G9 (.int j)) (hb : ED X b σ G9 (.list (so.map .int))) (hm : behindInMarks .In b = false), ED X (.Compare a [.In] [b] pos) σ G9 (.bool (decide (j ∈ so))) := fun hr ha hb hm =>
        ee_is (ee_cmp (op_inD (units65 hr)) ha hb (fun x y G' _ rx ry => .val (fun H Q e q => ⟨_, _, Rp.dp _ _ _ (Rp.mono e _ _ rx), Rp.dp _ _ _ (Rp.mono e _ _ ry), (shp_int _).of, shso.of, q⟩) (.bl _)) hm) (by rw [any_int])
      have hln : ∀ ps : List (Str × Int), (ps = f.takes ∨ ps = f.gives) → ps.length ≤ 40 := fun ps h => by
        have h2 := W.len
        rcases h with rfl | rfl
        · have h1 := (W.tk f hfm).len; rw [names_len] at h1; omega
        · have h1 := (W.gv f hfm).len; rw [names_len] at h1; omega
      have hfar : (farF t f).length ≤ 40 := hln _ (by unfold farF; cases t <;> simp)
      have hnear : (nearF t f).length ≤ 40 := hln _ (by unfold nearF; cases t <;> simp)
      refine ws_if (t := !(farF t f).any fun p => decide (((ix N.names p.1 : Nat) : Int) ∈ so)) (et_not (et_val (ee_is (ed_any (bs := (farF t f).map fun p => decide (((ix N.names p.1 : Nat) : Int) ∈ so)) rfl ?_ E.b_any) (by rw [List.any_map]; rfl)))) s08.i fun H9 s9 => ?_
      · refine ee_is (ed_lcM (l := farF t f) (src := fun p : Str × Int => .int (ix N.names p.1)) (own := [("at", 9)]) rfl sc_lost.nd (ei_list (ee_var (i := 8) rfl rf)) (blkOk_by (N := N_lost) (sc := defScope s_lost) (by decide +kernel)) (fun p => some (.bool (decide (((ix N.names p.1 : Nat) : Int) ∈ so)))) (fun i p y G'' eg2 hp rx => ?_) (by omega)) (by rw [fm_some, List.map_map]; rfl)
        refine ⟨_, ?_, fun s H C cl fp => ⟨eg_name (i := 9) sc_lost.nd, ets_nil, ?_⟩⟩
        · rfl
        · exact inE hr (ee_var (i := 9) rfl rx) (ee_var (i := 1) rfl (Rp.mono eg2 _ _ r18)) (by with_unfolding_all rfl)
      have s09 := s08.trans s9
      have own9 := own8.step0 s9
      have e79 : Ex G1' G7 := e1.trans (s5.g.trans s7.g)
      rcases hk f hfm with hany | hno
      · rw [hany]
        exact iteF (ws_nil (ws_nil ⟨G7, e79, s09, _, _, _, _, _, _, rfl, own9⟩))
      · cases hany : (farF t f).any fun p => decide (((ix N.names p.1 : Nat) : Int) ∈ so) with
        | true => exact iteF (ws_nil (ws_nil ⟨G7, e79, s09, _, _, _, _, _, _, rfl, own9⟩))
        | false =>
          refine iteT (ws_augLs (i := 3) (ds := []) sc_lost.nd rfl ?_ own9 (by simp) s09.i fun zs G10 H10 s10 pz w10 => ?_)
          · refine ee_is (ed_lcM (l := nearF t f) (src := fun p : Str × Int => .int (ix N.names p.1)) (own := [("at", 9)]) rfl sc_lost.nd (ei_list (ee_var (i := 7) rfl rn)) (blkOk_by (N := N_lost) (sc := defScope s_lost) (by decide +kernel)) (fun p => if decide (((ix N.names p.1 : Nat) : Int) ∈ so) = true then some (.int (ix N.names p.1)) else none) (fun i p y G'' eg2 hp rx => Turn1.test ?_) (by omega)) ?_
            · refine ⟨_, ?_, fun s H C cl fp => ⟨eg_name (i := 9) sc_lost.nd, ets_one (et_is (et_inD hr (ee_var (i := 9) rfl rx) (ee_var (i := 1) rfl (Rp.mono eg2 _ _ r18)) (shp_int _).of shso.of) any_int), fun _ => ee_var (i := 9) rfl rx⟩⟩
              rfl
            · rw [fm_if]
              congr 1
              have : (nearF t f).filter (fun p => decide (((ix N.names p.1 : Nat) : Int) ∈ so)) = [] := List.filter_eq_nil_iff.mpr fun p hp => by simpa using hno p hp
              rw [this]
              rfl
          · cases pz
            exact ws_nil (ws_nil ⟨G10, e79.trans s10.g, (s09.trans s10).mut w10.g (.inl hu), _, _, _, _, _, _, rfl, w10.upd⟩)
    · rintro σ' G' H' e1 s2 ⟨o4, o5, o6, o7, o8, o9, rfl, own⟩
      have s3 := s2.frz own.h hu
      exact ws_ret (R := RD (.list [])) (ee_var (i := 3) rfl (.lst upd_same .nil)) s3.i fun v G3 H3 s4 r4 => k v G3 H3 (s3.trans s4) r4
theorem ok_is_siphon {N : Net} {ps : List Str} (E : Env K mg) (W : Wf N) (hp : ∀ x ∈ ps, x ∈ N.names) (hk : Kept N (nums N ps) false) : C8.Cal P w K mg base 7 "is_siphon" (Pr (ACons (RD (netD N)) (ACons (RD (.list (ps.map .str))) ANil)) (RD (.bool true))) [] :=
  cl_is_siphon E fun cdv A outer s H vs Q E' hr G ex a k => by
    obtain ⟨v0, v1, rfl, r0, r1⟩ := ACons.two a
    have nl : (nums N ps).length ≤ 1000 := by have h1 := nums_len (N := N) (ps := ps); rw [names_len] at h1; have := W.len; omega
    refine ws_set (i := 2) (R := LookR K N) sc_is_siphon.nd (ee_cal (ok_look_at E W) hr (ea1 (ee_var (i := 0) rfl r0))) ex fun vk G1 H1 s1 lk => ?_
    exact ws_ret (R := RD (.bool true)) (ee_is (ed_eq hr (ee_cal (ok_lost E W hk nl) hr (ea_cons (ee_var (i := 2) rfl lk) (ea_cons (ee_cal (ok_numbers_of E W hp) hr (ea_cons (ee_var (i := 2) rfl lk) (ea1 (ee_var (i := 1) rfl (Rp.mono s1.g _ _ r1))))) (ea1 ed_bl)))) (ed_lst ad_nil) rfl rfl) rfl) s1.i fun v G2 H2 s2 r2 => k v G2 H2 (s1.trans s2) r2
theorem ok_is_trap {N : Net} {ps : List Str} (E : Env K mg) (W : Wf N) (hp : ∀ x ∈ ps, x ∈ N.names) (hk : Kept N (nums N ps) true) : C8.Cal P w K mg base 7 "is_trap" (Pr (ACons (RD (netD N)) (ACons (RD (.list (ps.map .str))) ANil)) (RD (.bool true))) [] :=
  cl_is_trap E fun cdv A outer s H vs Q E' hr G ex a k => by
    obtain ⟨v0, v1, rfl, r0, r1⟩ := ACons.two a
    have nl : (nums N ps).length ≤ 1000 := by have h1 := nums_len (N := N) (ps := ps); rw [names_len] at h1; have := W.len; omega
    refine ws_set (i := 2) (R := LookR K N) sc_is_trap.nd (ee_cal (ok_look_at E W) hr (ea1 (ee_var (i := 0) rfl r0))) ex fun vk G1 H1 s1 lk => ?_
    exact ws_ret (R := RD (.bool true)) (ee_is (ed_eq hr (ee_cal (ok_lost E W hk nl) hr (ea_cons (ee_var (i := 2) rfl lk) (ea_cons (ee_cal (ok_numbers_of E W hp) hr (ea_cons (ee_var (i := 2) rfl lk) (ea1 (ee_var (i := 1) rfl (Rp.mono s1.g _ _ r1))))) (ea1 ed_bl)))) (ed_lst ad_nil) rfl rfl) rfl) s1.i fun v G2 H2 s2 r2 => k v G2 H2 (s1.trans s2) r2
end TK

/-! part F18 -/
set_option Elab.async false
set_option linter.all false
set_option maxRecDepth 100000
set_option maxHeartbeats 4000000
namespace TK
open PySem PySem.Spec PyProof.Rows L2 PG
variable {P : Program} {w : World} {K : PySem.W.Frag} {mg : Str → Option Value} {base : Heap}
/-! ### sums -/
section
variable {X : Cx} {σ : L2.St} {G : Hp} {a b : Expr} {pos : Pos}
theorem rep_flat {α : Type} (x : α) : ∀ n : Nat, (List.replicate n [x]).flatten = List.replicate n x
  | 0 => rfl
  | n + 1 => by rw [List.replicate_succ, List.flatten_cons, rep_flat x n, List.replicate_succ]; rfl
theorem en_rep0 {n : Nat} {i : Int} (ha : ED X a σ G (.list [.int i])) (hb : ED X b σ G (.int n)) (hn : n ≤ 100000) : EN X (.BinOp a .Mult b pos) σ G fun o _ => o = .lst ((List.replicate n i).map V.int) := fun H Q e k =>
  ⟨_, pe_op op_rep (pe_self a) (pe_self b), two ha hb e fun x y G' H' s rx ry => by
    obtain ⟨q1, xs, rfl, h1, p1⟩ := Rp.lst_eq rx
    have exs : xs = [V.int i] := paired_ints (ns := [i]) p1
    subst exs
    refine ⟨q1, n, _, rfl, Rp.int_eq ry, s.i _ _ h1, by omega, by omega, small (by simpa using hn), fun t ht => en_up (O := fun o _ => o = .lst ((List.replicate n i).map V.int)) s ht ?_ k⟩
    show HO.lst (List.replicate n [V.int i]).flatten = _
    rw [rep_flat, List.map_replicate]⟩
end

def zeros (N : Net) : List Int := List.replicate N.names.length 0
theorem zeros_len (N : Net) : (zeros N).length = N.names.length := by unfold zeros; simp
theorem ok_effects {N : Net} (E : Env K mg) (W : Wf N) : C8.Cal P w K mg base 1 "effects" (Pr (ACons (LookR K N) ANil) (RD (.list (N.firings.map fun f => .list ((fire N (zeros N) f).map .int))))) [] :=
  cl_effects E fun cdv A outer s H vs Q E' hr G ex a k => by
    obtain ⟨v0, rfl, lk⟩ := ACons.one a
    have lk' : LookR K N v0 G := lk
    obtain ⟨q, dx, fs, rfl, hq, v3, v4, v5, v6, v7, v8, rfl, hpl, hbg, hnm, htk, hgv⟩ := lk'
    have nml : N.names.length ≤ 40 := by rw [names_len]; exact W.len
    have hl := zeros_len N
    have lenF : ∀ (s : Int) (ps : List (Str × Int)) (h : List Int), h.length = N.names.length → (ps.foldl (stepP N.names s) h).length = N.names.length := fun s ps => by
      induction ps with
      | nil => exact fun h e => e
      | cons p ps ih => exact fun h e => ih _ (by rw [stepP_length, e])
    have setI : ∀ {hh : List Int} {k : Nat} {z : Int}, (hh.map V.int).set k (.int z) = (hh.set k z).map V.int := fun {hh k z} => by rw [List.map_set]
    have getI : ∀ {hh : List Int} {k : Nat}, k < hh.length → (hh.map V.int)[k]? = some (.int (hh.getD k 0)) := fun {hh k} hk => by
      rw [List.getElem?_map, List.getElem?_eq_getElem hk]
      simp [List.getD_eq_getElem?_getD, hk]
    refine ws_setN (i := 1) sc_effects.nd en_lst0 ex fun u o G1 H1 s1 hu w1 ho => ?_
    subst ho
    refine ws_forS (Y := YD (N.firings.map fun f : Fir => PyData.str f.name)) (ei_list (ee_fld (R := RD (.list (N.firings.map fun f : Fir => PyData.str f.name))) (ee_var (i := 0) rfl rfl) (s1.g _ _ hq) E.c_Look E.n_Look_names rfl (Rp.mono s1.g _ _ hnm))) PassesOwn.never rfl s1
      (fun i σ' G' H' => ∃ o2 o3 o4 o5 vs, σ' = [some (.ref q), some (.ref u), o2, o3, o4, o5] ∧ Own G' H' u (.lst vs) ∧ Paired (Rp G') vs ((N.firings.take i).map fun f => .list ((fire N (zeros N) f).map .int))) (fun G2 H2 s2 => ⟨_, _, _, _, [], rfl, w1.step0 s2, .nil⟩) ?_ ?_
    · rintro G1' eg i σ' G' H' G3 H3 x hi e1 s2 ⟨o2, o3, o4, o5, vs, rfl, own, pv⟩ s3 ⟨d, hd, rd⟩
      rw [List.getElem?_map] at hd
      obtain ⟨f, hf, rfl⟩ := Option.map_eq_some_iff.mp hd
      have hfm := List.mem_of_getElem? hf
      have own3 := own.step0 s3
      have pv3 := Rp.monoAll s3.g _ _ pv
      have eG := s1.g.trans (eg.trans e1)
      have hvl : vs.length ≤ 60 := by
        rw [Paired.length pv, List.length_map, List.length_take]
        have := W.flen
        omega
      refine wg (eg_name (i := 2) sc_effects.nd) s2.i fun H4 s4 => ?_
      have own4 := own3.step0 s4
      have s04 := s2.trans s4
      refine ws_setN (i := 3) sc_effects.nd (en_rep0 (n := N.names.length) (i := 0) (ed_lst (ad_cons ed_int ad_nil)) (ee_is (ed_lenL (ee_fld (R := RD (.list (N.names.map .str))) (ee_var (i := 0) rfl rfl) (eG _ _ hq) E.c_Look E.n_Look_places rfl (Rp.mono eG _ _ hpl)) E.b_len) (by rw [List.length_map])) (by omega)) s04.i fun t o G5 H5 s5 ht w5 ho => ?_
      subst ho
      have s05 := s04.trans s5
      have own5 := own4.step0 s5
      have ht0 : H t = none := s04.fresh ht
      have hut : u ≠ t := own4.ne2 ht
      have e5 := eG.trans s5.g
      refine ws_forS (Y := YD (f.takes.map fun p => .tuple [.int (ix N.names p.1), .int p.2])) (ei_list (ed_part hr (ee_var (i := 0) rfl rfl) (e5 _ _ hq) E.c_Look E.n_Look_takes rfl (MonoR.mono _ _ _ e5 htk) hfm (ee_var (i := 2) rfl (Rp.mono s5.g _ _ rd)))) PassesOwn.never rfl s05
        (fun j σ' G' H' => ∃ o4 o5, σ' = [some (.ref q), some (.ref u), some x, some (.ref t), o4, o5] ∧ Own G' H' u (.lst vs) ∧ Own G' H' t (.lst (((f.takes.take j).foldl (stepP N.names (-1)) (zeros N)).map V.int))) (fun G2 H2 s2 => ⟨_, _, rfl, own5.step0 s2, w5.step0 s2⟩) ?_ ?_
      · rintro G6' eg6 j σ6 G7' H7' G7 H7 y hj e7 s7 ⟨o4, o5, rfl, ou, ot⟩ s8 ⟨d', hd', rd'⟩
        rw [List.getElem?_map] at hd'
        obtain ⟨p, hp, rfl⟩ := Option.map_eq_some_iff.mp hd'
        obtain ⟨z, rfl, hz⟩ := rankI_eq rd'
        have hns := (W.tk f hfm).mem p (List.mem_of_getElem? hp)
        refine wg (eg_tup2 rfl hz (eg_name (i := 4) sc_effects.nd) (eg_name (i := 5) sc_effects.nd)) s7.i fun H8 s9 => ?_
        have ot9 := (ot.step0 s8).step0 s9
        refine ws_augL (j := ix N.names p.1) (m := p.2) ip_sub (ee_var (i := 3) rfl rfl) (ee_var (i := 4) rfl (.int _)) (ee_var (i := 5) rfl (.int _)) ot9 (getI (ix_lt (lenF _ _ _ hl) hns)) s9.i fun H10 s10 w10 => ?_
        refine ws_nil ⟨G7, e7, (s7.trans (s9.trans s10)).mut w10.g (.inl ht0), _, _, rfl, (((ou.step0 s8).step0 s9).step0 s10).other hut, ?_⟩
        rw [fold_take _ _ hp]
        have e2 : stepP N.names (-1) ((f.takes.take j).foldl (stepP N.names (-1)) (zeros N)) p = ((f.takes.take j).foldl (stepP N.names (-1)) (zeros N)).set (ix N.names p.1) (((f.takes.take j).foldl (stepP N.names (-1)) (zeros N)).getD (ix N.names p.1) 0 - p.2) := by
          unfold stepP
          congr 1
          omega
        rw [e2, ← setI]
        exact w10.upd
      · rintro σ6 G6 H6 e6 s6 ⟨o4, o5, rfl, ou, ot⟩
        rw [List.length_map, List.take_length, foldP W.nd (W.tk f hfm).mem hl] at ot
        have hl2 : (plus N.names (-1) f.takes (zeros N)).length = N.names.length := plus_length hl
        have e56 := e5.trans e6
        refine ws_forS (Y := YD (f.gives.map fun p => .tuple [.int (ix N.names p.1), .int p.2])) (ei_list (ed_part hr (ee_var (i := 0) rfl rfl) (e56 _ _ hq) E.c_Look E.n_Look_gives rfl (MonoR.mono _ _ _ e56 hgv) hfm (ee_var (i := 2) rfl (Rp.mono (s5.g.trans e6) _ _ rd)))) PassesOwn.never rfl s6
          (fun j σ' G' H' => ∃ o4 o5, σ' = [some (.ref q), some (.ref u), some x, some (.ref t), o4, o5] ∧ Own G' H' u (.lst vs) ∧ Own G' H' t (.lst (((f.gives.take j).foldl (stepP N.names 1) (plus N.names (-1) f.takes (zeros N))).map V.int))) (fun G2 H2 s2 => ⟨_, _, rfl, ou.step0 s2, ot.step0 s2⟩) ?_ ?_
        · rintro G6' eg6 j σ6 G7' H7' G7 H7 y hj e7 s7 ⟨o4, o5, rfl, ou, ot⟩ s8 ⟨d', hd', rd'⟩
          rw [List.getElem?_map] at hd'
          obtain ⟨p, hp, rfl⟩ := Option.map_eq_some_iff.mp hd'
          obtain ⟨z, rfl, hz⟩ := rankI_eq rd'
          have hns := (W.gv f hfm).mem p (List.mem_of_getElem? hp)
          refine wg (eg_tup2 rfl hz (eg_name (i := 4) sc_effects.nd) (eg_name (i := 5) sc_effects.nd)) s7.i fun H8 s9 => ?_
          have ot9 := (ot.step0 s8).step0 s9
          refine ws_augL (j := ix N.names p.1) (m := p.2) ip_add (ee_var (i := 3) rfl rfl) (ee_var (i := 4) rfl (.int _)) (ee_var (i := 5) rfl (.int _)) ot9 (getI (ix_lt (lenF _ _ _ hl2) hns)) s9.i fun H10 s10 w10 => ?_
          refine ws_nil ⟨G7, e7, (s7.trans (s9.trans s10)).mut w10.g (.inl ht0), _, _, rfl, (((ou.step0 s8).step0 s9).step0 s10).other hut, ?_⟩
          rw [fold_take _ _ hp]
          have e2 : stepP N.names 1 ((f.gives.take j).foldl (stepP N.names 1) (plus N.names (-1) f.takes (zeros N))) p = ((f.gives.take j).foldl (stepP N.names 1) (plus N.names (-1) f.takes (zeros N))).set (ix N.names p.1) (((f.gives.take j).foldl (stepP N.names 1) (plus N.names (-1) f.takes (zeros N))).getD (ix N.names p.1) 0 + p.2) := by
            unfold stepP
            congr 1
            omega
          rw [e2, ← setI]
          exact w10.upd
        · rintro σ7 G7 H7 e7 s7 ⟨o4, o5, rfl, ou, ot⟩
          rw [List.length_map, List.take_length, foldP W.nd (W.gv f hfm).mem hl2] at ot
          have s8 := s7.frz ot.h ht0
          have ou8 := ou.frz (o' := .lst ((fire N (zeros N) f).map V.int)) hut
          refine ws_appendH (R := RV (.ref t)) (ee_var (i := 1) rfl rfl) (ee_var (i := 3) rfl rfl) s8.i ou8.h (by omega) fun v G9 H9 s9 r9 => ?_
          rw [show v = .ref t from r9]
          have ou9 := ou8.step0 s9
          refine ws_nil ⟨G9, e1.trans (s5.g.trans (e6.trans (e7.trans (ot.exG.trans s9.g)))), (s8.trans s9).mut ou9.g (.inl hu), _, _, _, _, _, rfl, ou9.upd, ?_⟩
          rw [List.take_succ, hf, List.map_append]
          exact Paired.app (Rp.monoAll (s5.g.trans (e6.trans (e7.trans (ot.exG.trans s9.g)))) _ _ pv3) (.cons (.lst (s9.g _ _ upd_same) (ints_paired _)) .nil)
    · rintro σ' G' H' e1 s2 ⟨o2, o3, o4, o5, vs, rfl, own, pv⟩
      rw [List.length_map, List.take_length] at pv
      have s3 := s2.frz own.h hu
      exact ws_ret (R := RD (.list (N.firings.map fun f => .list ((fire N (zeros N) f).map .int)))) (ee_var (i := 1) rfl (.lst upd_same (Rp.monoAll own.exG _ _ pv))) s3.i fun v G3 H3 s4 r4 => k v G3 H3 (s3.trans s4) r4
end TK

/-! part F19 -/
set_option Elab.async false
set_option linter.all false
set_option maxRecDepth 100000
set_option maxHeartbeats 4000000
namespace TK
open PySem PySem.Spec PyProof.Rows L2 PG
variable {P : Program} {w : World} {K : PySem.W.Frag} {mg : Str → Option Value} {base : Heap}
def colD (rows : List (List Int)) (k : Nat) : PyData := .list (rows.map fun r => .int (r.getD k 0))
theorem blk_turned : BlkOk N_turned_about { kind := .function, names := [(".0", .local), ("at", .cell), ("rows", .cell)], isGenerator := false, isCoroutine := false } { kind := .function, names := [(".0", .local), ("row", .local), ("at", .free)], isGenerator := false, isCoroutine := false } [("row", 2)] := blkOk_by (by decide +kernel)
theorem ok_turned_about {rows : List (List Int)} {m : Nat} (E : Env K mg) (hr : ∀ r ∈ rows, r.length = m) (hm : m ≤ 1000) (hl : rows.length ≤ 1000) : C8.Cal P w K mg base 1 "turned_about" (Pr (ACons (RD (.list (rows.map fun r => .list (r.map .int)))) (ACons (RD (.int m)) ANil)) (RD (.list ((List.range m).map (colD rows))))) [] :=
  cl_turned_about E fun cdv A outer s H vs Q E' hro G ex a k => by
    obtain ⟨v0, v1, rfl, r0, r1⟩ := ACons.two a
    refine ws_ret (R := RD (.list ((List.range m).map (colD rows)))) ?_ ex k
    rw [← fm_some]
    refine ed_lc (own := [("at", 3)]) rfl sc_turned_about.nd (ei_range (n := m) (ee_var (i := 1) rfl r1) (by omega) E.b_range) (blkOk_by (N := N_turned_about) (sc := defScope s_turned_about) (by decide +kernel)) _ (fun i x G' eg hi y => ?_) (by omega)
    have hx : x = .int i := y
    subst hx
    refine ⟨_, ?_, fun s H C cl fp => ⟨eg_name (i := 3) sc_turned_about.nd, ets_nil, ?_⟩⟩
    · rfl
    · refine ee_is (ed_lcM (l := rows) (src := fun r : List Int => .list (r.map .int)) (own := [("row", 2)]) rfl sc_turned_about.nd (ei_list (ee_var (i := 0) rfl (Rp.mono eg _ _ r0))) blk_turned (fun r => some (.int (r.getD i 0))) (fun j r y G'' eg2 hp rx => ?_) (by omega)) (by rw [fm_some]; rfl)
      refine ⟨_, ?_, fun s H C cl fp => ⟨eg_name (i := 2) sc_turned_about.nd, ets_nil, ?_⟩⟩
      · rfl
      · exact ed_ixL (i := (i : Nat)) (ee_var (i := 2) rfl rx) (ee_var (i := 3) rfl (.int _)) (tI_at (by rw [hr r (List.mem_of_getElem? hp)]; exact hi))
theorem ok_is_whole {i : Int} (E : Env K mg) : C8.Cal P w K mg base 1 "is_whole" (Pr (A1 (.int i)) (RD (.bool true))) [] :=
  cl_is_whole E fun cdv A outer s H vs Q E' hr G ex a k => by
    obtain ⟨v1, rfl, r1⟩ := ACons.one a
    refine ws_ret (R := RD (.bool true)) ?_ ex k
    exact ee_is (ed_and (t := true) (ed_isi (d := .int i) (T := "int") (r := true) (ee_var (i := 0) rfl r1) E.b_int bt_int kb_ii E.b_isinstance) fun _ => ed_and1 (ed_not (ed_isi (d := .int i) (T := "bool") (r := false) (ee_var (i := 0) rfl r1) E.b_bool bt_bool kb_ib E.b_isinstance))) rfl
theorem all_true : ∀ {α : Type} {l : List α}, (l.map fun _ => true).all id = true
  | _, [] => rfl
  | _, _ :: l => by rw [List.map_cons, List.all_cons, all_true]; rfl
def dotI (ws r : List Int) (m : Nat) : Int := ((List.range m).map fun k => ws.getD k 0 * r.getD k 0).sum
theorem ok_thing_wrong {ws : List Int} {rows : List (List Int)} {m : Nat} {nms : List PyData} (E : Env K mg) (hw : ws.length = m) (hm : m ≤ 1000) (hl : rows.length ≤ 1000) (hn : nms.length = rows.length) (hws : ∀ x ∈ ws, 0 ≤ x ∧ x ≤ 1) (hz : ∀ r ∈ rows, dotI ws r m = 0) :
    C8.Cal P w K mg base 2 "thing_wrong" (Pr (ACons (RD (.list ((List.range m).map (colD rows)))) (ACons RAny (ACons (RD (.list nms)) (ACons (RD (tI ws)) ANil)))) (RD .none)) [] :=
  cl_thing_wrong E fun cdv A outer s H vs Q E' hr G ex a k => by
    obtain ⟨v0, _, rfl, r0, v1, _, rfl, _, v2, _, rfl, r2, v3, _, rfl, r3, rfl⟩ := a
    refine ws_skip ((ew_or (t := false) (et_not (t := true) (et_val (ed_isT (d := tI ws) E (ee_var (i := 3) rfl r3)))) fun _ => ew_or (t := false) (et_is (et_ne hr (ed_lenT (ee_var (i := 3) rfl r3) E.b_len) (ed_lenL (ee_var (i := 0) rfl r0) E.b_len) rfl rfl) (by rw [List.length_map, List.length_map, List.length_range, hw, PyData.eqv]; simp)) fun _ =>
      ew_or1 (et_not (t := true) (et_val (ee_is (ed_all (bs := ws.map fun _ => true) rfl (ee_is (ed_lcM (l := ws) (src := PyData.int) (own := [("one", 4)]) rfl sc_thing_wrong.nd (ei_tup (ee_var (i := 3) rfl r3)) (blkOk_by (N := N_thing_wrong) (sc := defScope s_thing_wrong) (by decide +kernel)) (fun _ => some (.bool true)) (fun i x y G' eg hp rx => ?_) (by omega)) (by rw [fm_some, List.map_map]; rfl)) E.b_all) (by rw [all_true]))))).t) ex fun H1 s1 => ?_
    · refine ⟨_, ?_, fun s H C cl fp => ⟨eg_name (i := 4) sc_thing_wrong.nd, ets_nil, ?_⟩⟩
      · rfl
      · exact ee_cal (ok_is_whole E) hr (ea1 (ee_var (i := 4) rfl rx))
    refine ws_forS (ei_enumL (ee_var (i := 2) rfl r2) E.b_enumerate) PassesOwn.never rfl s1 (fun i σ' G' H' => ∃ o4 o5 o6 o7, σ' = [some v0, some v1, some v2, some v3, o4, o5, o6, o7]) (fun _ _ _ => ⟨_, _, _, _, rfl⟩) ?_ ?_
    · rintro G1 eg j σ' G' H' G3 H3 x hj e1 s2 ⟨o4, o5, o6, o7, rfl⟩ s3 ⟨d, y, t, hd, rfl, ht, ry⟩
      have eG := eg.trans e1
      obtain ⟨r, hrj⟩ : ∃ r, rows[j]? = some r := ⟨_, List.getElem?_eq_getElem (by omega)⟩
      refine wg (eg_tup2 rfl ht (eg_name (i := 5) sc_thing_wrong.nd) (eg_name (i := 6) sc_thing_wrong.nd)) s2.i fun H4 s4 => ?_
      refine ws_skip (et_is (et_ne hr (ee_is (ed_sum (ns := (List.range m).map fun k => ws.getD k 0 * r.getD k 0) rfl ?_ E.b_sum) rfl) ed_int rfl rfl) ?_) s4.i fun H5 s5 => ?_
      · have e2 : (List.range (ws.map PyData.int).length).filterMap (fun i => some (PyData.int (ws.getD i 0 * r.getD i 0))) = ((List.range m).map fun k => ws.getD k 0 * r.getD k 0).map .int := by
          rw [List.length_map, hw, fm_some, List.map_map]
          rfl
        rw [← e2]
        refine ed_lc (own := [("one", 4), ("row", 7)]) rfl sc_thing_wrong.nd (ei_zipS (k1 := .t) (k2 := .l) (ds := ws.map .int) (ds' := (List.range m).map (colD rows)) (ee_var (i := 3) rfl (Rp.mono eG _ _ r3)) (ee_var (i := 0) rfl (Rp.mono eG _ _ r0)) (by simp [hw]) E.b_zip) (blkOk_by (N := N_thing_wrong) (sc := defScope s_thing_wrong) (by decide +kernel)) _ (fun i z G'' eg2 hi yy => ?_) (by simp; omega)
        obtain ⟨d1, d2, u1, u2, tt, h1, h2, rfl, htt, ru1, ru2⟩ := yy
        rw [List.getElem?_map] at h1 h2
        obtain ⟨wi, hwi, rfl⟩ := Option.map_eq_some_iff.mp h1
        obtain ⟨ki, hki, rfl⟩ := Option.map_eq_some_iff.mp h2
        have hki' : ki = i := by
          have := (List.getElem?_eq_some_iff.mp hki).2
          simpa using this.symm
        subst hki'
        have hwb := hws wi (List.mem_of_getElem? hwi)
        refine ⟨_, ?_, fun s H C cl fp => ⟨eg_tup2 rfl htt (eg_name (i := 4) sc_thing_wrong.nd) (eg_name (i := 7) sc_thing_wrong.nd), ets_nil, ?_⟩⟩
        · rfl
        · refine ee_is (ed_mul (i := wi) (j := r.getD ki 0) (ee_var (i := 4) rfl ru1) (ed_ixL (i := (j : Nat)) (ee_var (i := 7) rfl ru2) (ee_var (i := 5) rfl (.int _)) (L2.atI_nat (by rw [List.getElem?_map, hrj]; rfl))) (.inl ⟨by omega, by omega⟩)) ?_
          rw [getD_of hwi]
      · have := hz r (List.mem_of_getElem? hrj)
        unfold dotI at this
        rw [this]
        rfl
      · exact ws_nil ⟨G3, e1, s2.trans (s4.trans s5), _, _, _, _, rfl⟩
    · rintro σ' G' H' e1 s2 ⟨o4, o5, o6, o7, rfl⟩
      exact ws_ret (R := RD .none) ed_non s2.i fun v G3 H3 s3 r3 => k v G3 H3 (s2.trans s3) r3
theorem ok_place_vectors {N : Net} (E : Env K mg) (W : Wf N) : C8.Cal P w K mg base 2 "place_vectors" (Pr (ACons (LookR K N) ANil) (RD (.list ((List.range N.names.length).map (colD (N.firings.map (fire N (zeros N)))))))) [] :=
  cl_place_vectors E fun cdv A outer s H vs Q E' hr G ex a k => by
    obtain ⟨v0, rfl, lk⟩ := ACons.one a
    have lk' : LookR K N v0 G := lk
    obtain ⟨q, dx, fs, rfl, hq, v3, v4, v5, v6, v7, v8, rfl, hpl, hbg, hnm, htk, hgv⟩ := lk'
    have nml : N.names.length ≤ 40 := by rw [names_len]; exact W.len
    refine ws_ret (R := RD (.list ((List.range N.names.length).map (colD (N.firings.map (fire N (zeros N))))))) (ee_cal (ok_turned_about (rows := N.firings.map (fire N (zeros N))) (m := N.names.length) E (fun r hr => ?_) (by omega) (by rw [List.length_map]; have := W.flen; omega)) hr
      (ea_cons (ee_is (ee_cal (ok_effects E W) hr (ea1 (ee_var (i := 0) (R := LookR K N) rfl lk))) (by rw [List.map_map]; rfl)) (ea1 (ee_is (ed_lenL (ee_fld (R := RD (.list (N.names.map .str))) (ee_var (i := 0) rfl rfl) hq E.c_Look E.n_Look_places rfl hpl) E.b_len) (by rw [List.length_map]))))) ex k
    obtain ⟨f, hf, rfl⟩ := List.mem_map.mp hr
    exact fire_length (zeros_len N)
theorem ok_sum_wrong {N : Net} {ws : List Int} (E : Env K mg) (W : Wf N) (hw : ws.length = N.names.length) (hws : ∀ x ∈ ws, 0 ≤ x ∧ x ≤ 1) (hz : ∀ f ∈ N.firings, dotI ws (fire N (zeros N) f) N.names.length = 0) : C8.Cal P w K mg base 7 "sum_wrong" (Pr (ACons (RD (netD N)) (ACons (RD (tI ws)) ANil)) (RD .none)) [] :=
  cl_sum_wrong E fun cdv A outer s H vs Q E' hr G ex a k => by
    obtain ⟨v0, v1, rfl, r0, r1⟩ := ACons.two a
    have nml : N.names.length ≤ 40 := by rw [names_len]; exact W.len
    refine ws_set (i := 2) (R := LookR K N) sc_sum_wrong.nd (ee_cal (ok_look_at E W) hr (ea1 (ee_var (i := 0) rfl r0))) ex fun vk G1 H1 s1 lk => ?_
    have lk' : LookR K N vk G1 := lk
    obtain ⟨q, dx, fs, rfl, hq, v3, v4, v5, v6, v7, v8, rfl, hpl, hbg, hnm, htk, hgv⟩ := lk'
    refine ws_ret (R := RD .none) (ee_cal (ok_thing_wrong (rows := N.firings.map (fire N (zeros N))) (nms := N.firings.map fun f => .str f.name) E hw (by omega) (by rw [List.length_map]; have := W.flen; omega) (by simp) hws fun r hr => ?_) hr
      (ea_cons (ee_cal (ok_place_vectors E W) hr (ea1 (ee_var (i := 2) (R := LookR K N) rfl lk))) (ea_cons (EE.any (ed_tup (hl := by simp) (ad_cons ed_str (ad_cons ed_str ad_nil)))) (ea_cons (ee_fld (R := RD (.list (N.firings.map fun f : Fir => PyData.str f.name))) (ee_var (i := 2) rfl rfl) hq E.c_Look E.n_Look_names rfl hnm) (ea1 (ee_var (i := 1) rfl (Rp.mono s1.g _ _ r1))))))) s1.i fun v G2 H2 s2 r2 => k v G2 H2 (s1.trans s2) r2
    obtain ⟨f, hf, rfl⟩ := List.mem_map.mp hr
    exact hz f hf
end TK

/-! part P18 -/
set_option Elab.async false
set_option linter.all false
set_option maxRecDepth 100000
set_option maxHeartbeats 4000000
/-! PG, part 18: a comprehension of two clauses; changes by what stands. -/
namespace PG
open PySem PySem.Spec PyProof.Rows L2
section
variable {X : Cx} {σ σ' : L2.St} {G G0 G1 G2 H H0 H1 H2 : Hp} {e a b c o i l tg iter tg1 iter1 elt : Expr} {es : List Expr} {R R1 : V → Hp → Prop} {pos pp apos cpos : Pos} {p : Addr} {S : List Addr} {D : Ends} {rest : List Stmt} {scope : Scope} {own : List (Str × Nat)} {vs1 : List Nat} {n n1 : Nat} {Y : Nat → V → Hp → Prop} {Y1 : Nat → Nat → V → Hp → Prop}
abbrev iB (X : Cx) (scope : Scope) (tg iter : Expr) : TI := fun σ H R => ∀ s0 H0 C cl fp, WI (Blk X scope s0 H0 C cl fp) tg iter σ H R
theorem iB_ok (tg iter : Expr) (s : Shared) (H : Hp) (C : Addr) (cl : List (Str × Addr)) (fp : List Addr) : PI (X.blk s H scope (compEnvC scope cl C X.env) fp) tg iter (iB X scope tg iter) := ⟨fun pins s1 σ H1 R I h => (pi_self tg iter).run pins s1 σ H1 R I (h s H C cl fp)⟩
def out2 (n n1 : Nat) (out : Nat → Nat → PyData) : List PyData := (List.range n).flatMap fun i => (List.range n1).map (out i)
theorem out2_succ (n n1 : Nat) (out : Nat → Nat → PyData) : out2 (n + 1) n1 out = out2 n n1 out ++ (List.range n1).map (out n) := by
  unfold out2
  rw [List.range_succ, List.flatMap_append]
  simp
theorem out2_len (n n1 : Nat) (out : Nat → Nat → PyData) : (out2 n n1 out).length = n * n1 := by
  induction n with
  | zero => simp [out2]
  | succ n ih => rw [out2_succ, List.length_append, ih, List.length_map, List.length_range, Nat.succ_mul]
theorem lc2_t (hi : EI X tg iter σ G n Y) (out : Nat → Nat → PyData)
    (turn : ∀ i x G', Ex G G' → i < n → Y i x G' → ∃ σ1, wipe σ1 (own.map (·.2)) = wipe σ (own.map (·.2)) ∧ ∀ (s : Shared) (H : Hp) (C : Addr) (cl : List (Str × Addr)) (fp : List Addr), EG (Blk X scope s H C cl fp) tg x (wipe σ (own.map (·.2))) G' σ1 ∧ EI (Blk X scope s H C cl fp) tg1 iter1 σ1 G' n1 (Y1 i) ∧
      ∀ j y G'', Ex G' G'' → j < n1 → Y1 i j y G'' → ∃ σ2, wipe σ2 vs1 = wipe σ1 vs1 ∧ ∀ (s : Shared) (H : Hp) (C : Addr) (cl : List (Str × Addr)) (fp : List Addr), EG (Blk X scope s H C cl fp) tg1 y (wipe σ1 vs1) G'' σ2 ∧ ED (Blk X scope s H C cl fp) elt σ2 G'' (out i j))
    (hn : n * n1 ≤ 10000) (Q : VK) (ex : Ex G H)
    (k : ∀ p vs G' H', Stp [] G H G' H' → H p = none → Own G' H' p (.lst vs) → Paired (Rp G') vs (out2 n n1 out) → Q (.ref p) H') :
    tLc2 (WI X tg iter) (gB X scope tg) (tB X scope []) (iB X scope tg1 iter1) (gB X scope tg1) (tB X scope []) (eB X scope elt) (own.map (·.2)) vs1 σ H Q := by
  refine hi H _ ex fun J G1 H1 s1 it D hD => ?_
  refine ⟨fun i m H' => m = n - i ∧ i ≤ n ∧ ∃ G' vs, Stp [] G1 H1 G' H' ∧ Own G' H' D (.lst vs) ∧ Paired (Rp G') vs (out2 i n1 out), ⟨n, rfl, Nat.zero_le _, G1, [], Stp.newO s1.i hD, Own.new s1.i hD, .nil⟩, ?_⟩
  rintro i m H' ⟨rfl, hin, G', vs, s2, w, pr⟩
  have eg : Ex G1 G' := s2.g
  by_cases hlt : i < n
  · refine .inr ⟨it.go i H' (eg.trans s2.i) hlt, fun H'' => ∃ G' vs, Stp [] G1 H1 G' H'' ∧ Own G' H'' D (.lst vs) ∧ Paired (Rp G') vs (out2 (i + 1) n1 out), fun H'' q => ⟨n - (i + 1), by omega, rfl, hlt, q⟩, fun x H2 y => ?_⟩
    obtain ⟨G2, s3, yi⟩ := it.yld i G' H' x H2 eg s2.i hlt y
    have s23 := s2.trans s3
    have w2 := w.step0 s3
    obtain ⟨σ1, hw, ht⟩ := turn i x G2 (s1.g.trans s23.g) hlt yi
    intro s0 H0 C cl fp
    refine (ht s0 H0 C cl fp).1 H2 _ s3.i fun H3 s4 => ⟨hw, ?_⟩
    intro s0 H0 C cl fp
    refine ets_nil H3 _ s4.i fun H4 s5 => iteT ?_
    intro s0 H0 C cl fp
    refine (ht s0 H0 C cl fp).2.1 H4 _ s5.i fun J1 G5 H5 s6 it1 => ?_
    have s25 := ((s23.trans s4).trans s5).trans s6
    have w5 := ((w2.step0 s4).step0 s5).step0 s6
    have pr5 : Paired (Rp G5) vs (out2 i n1 out ++ (List.range 0).map (out i)) := by
      rw [List.range_zero, List.map_nil, List.append_nil]
      exact Rp.monoAll (s3.g.trans s6.g) _ _ pr
    refine ⟨fun j m H' => m = n1 - j ∧ j ≤ n1 ∧ ∃ G' vs, Ex G5 G' ∧ Stp [] G1 H1 G' H' ∧ Own G' H' D (.lst vs) ∧ Paired (Rp G') vs (out2 i n1 out ++ (List.range j).map (out i)), ⟨n1, rfl, Nat.zero_le _, G5, vs, Ex.refl _, s25, w5, pr5⟩, ?_⟩
    rintro j m1 H6 ⟨rfl, hjn, G6, vs6, e6, s26, w6, pr6⟩
    by_cases hjl : j < n1
    · refine .inr ⟨it1.go j H6 (e6.trans s26.i) hjl, fun H'' => ∃ G' vs, Ex G5 G' ∧ Stp [] G1 H1 G' H'' ∧ Own G' H'' D (.lst vs) ∧ Paired (Rp G') vs (out2 i n1 out ++ (List.range (j + 1)).map (out i)), fun H'' q => ⟨n1 - (j + 1), by omega, rfl, hjl, q⟩, fun y H7 yy => ?_⟩
      obtain ⟨G7, s7, yj⟩ := it1.yld j G6 H6 y H7 e6 s26.i hjl yy
      obtain ⟨σ2, hw2, ht2⟩ := (ht s0 H0 C cl fp).2.2 j y G7 ((s6.g.trans e6).trans s7.g) hjl yj
      have w7 := w6.step0 s7
      intro s0 H0 C cl fp
      refine (ht2 s0 H0 C cl fp).1 H7 _ s7.i fun H8 s8 => ⟨hw2, ?_⟩
      intro s0 H0 C cl fp
      refine ets_nil H8 _ s8.i fun H9 s9 => iteT ?_
      intro s0 H0 C cl fp
      refine (ht2 s0 H0 C cl fp).2 H9 _ s9.i fun v G10 H10 s10 r10 => ?_
      have s210 := (((s26.trans s7).trans s8).trans s9).trans s10
      have w10 := ((w7.step0 s8).step0 s9).step0 s10
      have hvl : vs6.length < 100000 := by
        rw [Paired.length pr6, List.length_append, out2_len, List.length_map, List.length_range]
        have h1 : i * n1 ≤ n * n1 := Nat.mul_le_mul_right _ hin
        have h2 : n1 ≤ n * n1 := Nat.le_mul_of_pos_left _ (by omega)
        omega
      refine ⟨vs6, w10.h, small' hvl, G10, vs6 ++ [v], e6.trans (s7.g.trans s10.g), s210.mut w10.g (.inl hD), w10.upd, ?_⟩
      rw [List.range_succ, List.map_append, ← List.append_assoc]
      exact Paired.app (Rp.monoAll (s7.g.trans s10.g) _ _ pr6) (.cons r10 .nil)
    · have hj : j = n1 := by omega
      subst hj
      refine .inl ⟨it1.stop H6 (e6.trans s26.i), G6, vs6, s26, w6, ?_⟩
      rw [out2_succ]
      exact pr6
  · have hi' : i = n := by omega
    subst hi'
    exact .inl ⟨it.stop H' (eg.trans s2.i), k D vs G' H' (s1.trans s2) (s1.fresh hD) w pr⟩
theorem ws_setLc2 {i : Nat} {y : Str} {py spos : Pos} (hc : X.calm = true) (hN : X.N.Nodup) (hi : EI X tg iter σ G n Y) (ok : BlkOk X.N X.env.scope scope own) (hv : ∀ i ∈ vs1, i ∈ own.map (·.2)) (out : Nat → Nat → PyData)
    (turn : ∀ i x G', Ex G G' → i < n → Y i x G' → ∃ σ1, wipe σ1 (own.map (·.2)) = wipe σ (own.map (·.2)) ∧ ∀ (s : Shared) (H : Hp) (C : Addr) (cl : List (Str × Addr)) (fp : List Addr), EG (Blk X scope s H C cl fp) tg x (wipe σ (own.map (·.2))) G' σ1 ∧ EI (Blk X scope s H C cl fp) tg1 iter1 σ1 G' n1 (Y1 i) ∧
      ∀ j y G'', Ex G' G'' → j < n1 → Y1 i j y G'' → ∃ σ2, wipe σ2 vs1 = wipe σ1 vs1 ∧ ∀ (s : Shared) (H : Hp) (C : Addr) (cl : List (Str × Addr)) (fp : List Addr), EG (Blk X scope s H C cl fp) tg1 y (wipe σ1 vs1) G'' σ2 ∧ ED (Blk X scope s H C cl fp) elt σ2 G'' (out i j))
    (hn : n * n1 ≤ 10000) (ex : Ex G H)
    (k : ∀ p vs G' H', Stp [] G H G' H' → H p = none → Own G' H' p (.lst vs) → Paired (Rp G') vs (out2 n n1 out) → WS X rest D (σ.set i (some (.ref p))) H')
    (hy : X.N[i]? = some y := by rfl) (hyl : X.env.scope.names.lookup y = some .local := by rfl) (hsw : swapsWith (.ListComp elt [⟨tg, iter, [], 0⟩, ⟨tg1, iter1, [], 0⟩] scope pos) (some (.Name y py)) spos.line X.env = pure true := by rfl) (hs : ∀ x, foldedSetIterable iter X.env x = pure x := by intro _; rfl) (hs1 : ∀ env x, foldedSetIterable iter1 env x = pure x := by intro _ _; rfl) :
    WS X (.Assign [.Name y py] (.ListComp elt [⟨tg, iter, [], 0⟩, ⟨tg1, iter1, [], 0⟩] scope pos) spos :: rest) D σ H :=
  ws_cons ⟨_, ps_setLc2 hc hN hy hyl hsw (pi_self tg iter) ok hv (gB_ok tg) (tB_ok []) (iB_ok tg1 iter1) (gB_ok tg1) (tB_ok []) (eB_ok elt) hs hs1, lc2_t (Q := fun x H1 => gName i x σ H1 (WS X rest D)) hi out turn hn ex k⟩
/-- o[i] = e, by what stands -/
theorem ws_setLH {q : Addr} {xs : List V} {i : Expr} {n : Int} {j : Nat} {pos' : Pos} (he : EE X e σ G R) [MonoR R] (ho : EE X o σ G (RV (.ref q))) (hi : ED X i σ G (.int n)) (ex : Ex G H) (hq : H q = some (.lst xs)) (hj : ixN xs.length n = some j)
    (k : ∀ v G' H', Stp [] G H G' H' → R v G' → WS X rest D σ (L2.upd H' q (.lst (xs.set j v)))) (hs : swapsWithSole [.Subscript o i pos'] e pos.line X.env = pure false := by rfl) (hw : swappedStores [.Subscript o i pos'] e X.env = pure none := by rfl)
    (h1 : (assignEach [.Subscript o i pos'] X.env).map (·.2) = [assign (.Subscript o i pos') X.env] := by rfl)
    (ha : ∀ v, assign (.Subscript o i pos') X.env v = (do
      let ov ← holding [v] (eval o X.env)
      let iv ← holding [v, ov] (eval i X.env)
      standAt pos'
      holding [v, ov, iv] (setItem ov iv v)
      release [v, ov, iv] []) := by intro _; rfl) : WS X (.Assign [.Subscript o i pos'] e pos :: rest) D σ H := by
  refine ws_cons ⟨_, ps_asg (pe_self e) (pg_sub (pe_self o) (pe_self i) set_list ha) hs hw h1, he H _ ex fun v G1 H1 s1 r1 => ?_⟩
  refine (ho.mono s1.g) H1 _ s1.i fun x G2 H2 s2 r2 => (hi.mono (s1.g.trans s2.g)) H2 _ s2.i fun y G3 H3 s3 r3 => ?_
  have s := (s1.trans s2).trans s3
  exact ⟨q, xs, n, j, r2, r3.int_eq, s.ex _ _ hq, hj, k v G3 H3 s (MonoR.mono _ _ _ (s2.g.trans s3.g) r1)⟩
theorem ixN_nat {n j : Nat} (h : j < n) : ixN n (j : Int) = some j := by
  unfold ixN
  rw [if_pos (by omega), if_pos (by omega)]
  simp
end
end PG

/-! part M3 -/
set_option Elab.async false
set_option linter.all false
set_option maxRecDepth 100000
set_option maxHeartbeats 4000000
/-! TK: what must stand before a firing. -/
namespace TK
open PySem PySem.Spec PyProof.Rows L2 PG
/-- a number, not below nothing: as max(0, z) tells it -/
def pos0 (z : Int) : Int := if z > 0 then z else 0
def minus0 (ns : List Str) (ps : List (Str × Int)) (h : List Int) : List Int := (ns.zip h).map fun q => pos0 (q.2 - cnt ps q.1)
def stepB (ns : List Str) (h : List Int) (p : Str × Int) : List Int := h.set (ix ns p.1) (pos0 (h.getD (ix ns p.1) 0 - p.2))
theorem minus0_length {ns : List Str} {ps : List (Str × Int)} {h : List Int} (hl : h.length = ns.length) : (minus0 ns ps h).length = ns.length := by
  unfold minus0
  simp [hl]
theorem minus0_get {ns : List Str} {ps : List (Str × Int)} {h : List Int} {k : Nat} {x : Str} {y : Int} (hx : ns[k]? = some x) (hy : h[k]? = some y) : (minus0 ns ps h)[k]? = some (pos0 (y - cnt ps x)) := by
  unfold minus0
  have : (ns.zip h)[k]? = some (x, y) := List.getElem?_zip_eq_some.mpr ⟨hx, hy⟩
  rw [List.getElem?_map, this] <;> rfl
theorem stepB_length {ns : List Str} {h : List Int} {p : Str × Int} : (stepB ns h p).length = h.length := by
  unfold stepB
  simp
theorem pos0_nn (z : Int) : 0 ≤ pos0 z := by unfold pos0; split <;> omega
theorem pos0_id {z : Int} (h : 0 ≤ z) : pos0 z = z := by unfold pos0; split <;> omega
/-- one after another, or all at once (the heap holds no less than nothing) -/
theorem foldB {ns : List Str} (nd : ns.Nodup) : ∀ {ps : List (Str × Int)} {h : List Int}, (∀ p ∈ ps, p.1 ∈ ns) → (∀ p ∈ ps, 1 ≤ p.2) → h.length = ns.length → (∀ x ∈ h, 0 ≤ x) → ps.foldl (stepB ns) h = minus0 ns ps h
  | [], h, _, _, hl, hn => by
    apply List.ext_getElem?
    intro k
    by_cases hk : k < ns.length
    · have hx := List.getElem?_eq_getElem hk
      have hy := List.getElem?_eq_getElem (l := h) (i := k) (by omega)
      rw [minus0_get hx hy]
      show h[k]? = some (pos0 (h[k] - 0))
      rw [hy, Int.sub_zero, pos0_id (hn _ (List.getElem_mem _))]
    · rw [List.getElem?_eq_none (l := minus0 ns [] h) (by rw [minus0_length hl]; omega)]
      exact List.getElem?_eq_none (by show h.length ≤ k; omega)
  | p :: ps, h, hm, hc, hl, hn => by
    have hn2 : ∀ x ∈ stepB ns h p, 0 ≤ x := fun x hx => by
      unfold stepB at hx
      rcases List.mem_or_eq_of_mem_set hx with z | z
      · exact hn x z
      · rw [z]; exact pos0_nn _
    rw [List.foldl_cons, foldB nd (fun q hq => hm q (List.mem_cons_of_mem _ hq)) (fun q hq => hc q (List.mem_cons_of_mem _ hq)) (by rw [stepB_length, hl]) hn2]
    have hp := hm p (List.mem_cons_self ..)
    have hc1 := hc p (List.mem_cons_self ..)
    have hix := List.idxOf_lt_length_iff.mpr hp
    apply List.ext_getElem?
    intro k
    by_cases hk : k < ns.length
    · have hx := List.getElem?_eq_getElem hk
      have hy := List.getElem?_eq_getElem (l := h) (i := k) (by omega)
      rw [minus0_get (ps := p :: ps) hx hy]
      have hcn : 0 ≤ cnt ps ns[k] := cnt_nn fun q hq => hc q (List.mem_cons_of_mem _ hq)
      by_cases e : ix ns p.1 = k
      · have ep : p.1 = ns[k] := by
          have := ix_at hp
          rw [e, hx] at this
          exact (Option.some.inj this).symm
        have hy2 : (stepB ns h p)[k]? = some (pos0 (h[k] - p.2)) := by
          unfold stepB
          rw [e, List.getElem?_set_self (by omega)]
          simp [List.getD_eq_getElem?_getD, hy]
        rw [minus0_get hx hy2]
        show _ = some (pos0 (h[k] - ((if p.1 = ns[k] then p.2 else 0) + cnt ps ns[k])))
        rw [if_pos ep]
        congr 1
        unfold pos0
        split <;> split <;> split <;> omega
      · have ep : ¬ p.1 = ns[k] := fun z => e (by rw [z]; exact ix_get nd hx)
        have hy2 : (stepB ns h p)[k]? = some (h[k]) := by
          unfold stepB
          rw [List.getElem?_set_ne e, hy]
        rw [minus0_get hx hy2]
        show _ = some (pos0 (h[k] - ((if p.1 = ns[k] then p.2 else 0) + cnt ps ns[k])))
        rw [if_neg ep, Int.zero_add]
    · rw [List.getElem?_eq_none (by rw [minus0_length (by rw [stepB_length, hl])]; omega), List.getElem?_eq_none (by rw [minus0_length hl]; omega)]
/-- the least heap from which f leads to h or above -/
def befo (N : Net) (h : List Int) (f : Fir) : List Int := plus N.names 1 f.takes (minus0 N.names f.gives h)
theorem befo_length {N : Net} {h : List Int} {f : Fir} (hl : h.length = N.names.length) : (befo N h f).length = N.names.length := plus_length (minus0_length hl)
theorem befo_get {N : Net} {h : List Int} {f : Fir} {k : Nat} {x : Str} {y : Int} (hx : N.names[k]? = some x) (hy : h[k]? = some y) : (befo N h f)[k]? = some (pos0 (y - cnt f.gives x) + cnt f.takes x) := by
  have := plus_get (s := 1) (ps := f.takes) hx (minus0_get (ps := f.gives) hx hy)
  unfold befo
  rw [this]
  congr 1
  omega
theorem befo_hip {N : Net} (W : Wf N) {h : List Int} (H : Hip N h) {f : Fir} (hf : f ∈ N.firings) : Hip N (befo N h f) := by
  refine ⟨befo_length H.len, fun z hz => ?_⟩
  obtain ⟨k, hk, e⟩ := List.mem_iff_getElem.mp hz
  rw [befo_length H.len] at hk
  have hx := List.getElem?_eq_getElem hk
  have hy := List.getElem?_eq_getElem (l := h) (i := k) (by rw [H.len]; exact hk)
  have h1 := befo_get (f := f) hx hy
  rw [List.getElem?_eq_getElem (by rw [befo_length H.len]; exact hk), e] at h1
  have h2 := pos0_nn (h[k]'(by rw [H.len]; exact hk) - cnt f.gives N.names[k])
  have h3 := cnt_nn (x := N.names[k]) (fun p hp => ((W.tk f hf).cnt p hp).1)
  have := Option.some.inj h1
  omega
end TK

/-! part F20 -/
set_option Elab.async false
set_option linter.all false
set_option maxRecDepth 100000
set_option maxHeartbeats 4000000
namespace TK
open PySem PySem.Spec PyProof.Rows L2 PG
variable {P : Program} {w : World} {K : PySem.W.Frag} {mg : Str → Option Value} {base : Heap}
/-! ### cover -/
theorem ok_before {N : Net} {h : List Int} {f : Fir} (E : Env K mg) (W : Wf N) (hf : f ∈ N.firings) (hh : Hip N h) : C8.Cal P w K mg base 1 "before" (Pr (LK K N h f) (RD (tI (befo N h f)))) [] :=
  cl_before E fun cdv A outer s H vs Q E' hr G ex a k => by
    obtain ⟨v0, v1, v2, rfl, ⟨q, dx, fs, rfl, hq, v3, v4, v5, v6, v7, v8, rfl, hpl, hbg, hnm, htk, hgv⟩, r1, r2⟩ := ACons.three a
    have hl := hh.len
    refine ws_setN (i := 3) sc_before.nd (en_listI (ee_var (i := 1) rfl r1) E.b_list) ex fun t o G1 H1 s1 ht w1 ho => ?_
    subst ho
    have lenF : ∀ (s : Int) (ps : List (Str × Int)) (h : List Int), h.length = N.names.length → (ps.foldl (stepP N.names s) h).length = N.names.length := fun s ps => by
      induction ps with
      | nil => exact fun h e => e
      | cons p ps ih => exact fun h e => ih _ (by rw [stepP_length, e])
    have lenB : ∀ (ps : List (Str × Int)) (h : List Int), h.length = N.names.length → (ps.foldl (stepB N.names) h).length = N.names.length := fun ps => by
      induction ps with
      | nil => exact fun h e => e
      | cons p ps ih => exact fun h e => ih _ (by rw [stepB_length, e])
    have setI : ∀ {hh : List Int} {k : Nat} {z : Int}, (hh.map V.int).set k (.int z) = (hh.set k z).map V.int := fun {hh k z} => by rw [List.map_set]
    have getI : ∀ {hh : List Int} {k : Nat}, k < hh.length → (hh.map V.int)[k]? = some (.int (hh.getD k 0)) := fun {hh k} hk => by
      rw [List.getElem?_map, List.getElem?_eq_getElem hk]
      simp [List.getD_eq_getElem?_getD, hk]
    have ht0 : H t = none := ht
    refine ws_forS (Y := YD (f.gives.map fun p => .tuple [.int (ix N.names p.1), .int p.2])) (ei_list (ed_part hr (ee_var (i := 0) rfl rfl) (s1.g _ _ hq) E.c_Look E.n_Look_gives rfl (MonoR.mono _ _ _ s1.g hgv) hf (ee_var (i := 2) rfl (Rp.mono s1.g _ _ r2)))) PassesOwn.never rfl s1
      (fun i σ' G' H' => ∃ o4 o5, σ' = [some (.ref q), some v1, some v2, some (.ref t), o4, o5] ∧ Own G' H' t (.lst (((f.gives.take i).foldl (stepB N.names) h).map V.int))) (fun G2 H2 s2 => ⟨_, _, rfl, w1.step0 s2⟩) ?_ ?_
    · rintro G1' eg i σ' G' H' G3 H3 x hi e1 s2 ⟨o4, o5, rfl, own⟩ s3 ⟨d, hd, rd⟩
      rw [List.getElem?_map] at hd
      obtain ⟨p, hp, rfl⟩ := Option.map_eq_some_iff.mp hd
      have hm := List.mem_of_getElem? hp
      obtain ⟨u, rfl, hu⟩ := rankI_eq rd
      have hns := (W.gv f hf).mem p hm
      have own3 := own.step0 s3
      refine wg (eg_tup2 rfl hu (eg_name (i := 4) sc_before.nd) (eg_name (i := 5) sc_before.nd)) s2.i fun H4 s4 => ?_
      have own4 := own3.step0 s4
      have hixl := ix_lt (lenB (f.gives.take i) _ hl) hns
      have s04 := s2.trans s4
      refine ws_setLH (G := upd G3 t (.lst (((f.gives.take i).foldl (stepB N.names) h).map V.int))) (R := RD (.int (pos0 (((f.gives.take i).foldl (stepB N.names) h).getD (ix N.names p.1) 0 - p.2)))) (j := ix N.names p.1)
        (ee_is (ed_max2 (i := 0) rfl ed_int (ed_sub (ee_ixL (R := RD (.int (((f.gives.take i).foldl (stepB N.names) h).getD (ix N.names p.1) 0))) (i := (ix N.names p.1 : Nat)) (ee_var (i := 3) rfl rfl) upd_same (ee_var (i := 4) rfl (.int _)) (L2.atI_nat (getI hixl)) (.int _)) (ee_var (i := 5) rfl (.int _))) E.b_max) (by unfold pos0; rfl)) (ee_var (i := 3) rfl rfl) (ee_var (i := 4) rfl (.int _)) (own4.exU s04.i) own4.h (ixN_nat (by rw [List.length_map]; exact hixl)) fun v G5 H5 s5 r5 => ?_
      rw [Rp.int_eq r5]
      have s5' := Stp.weak own4.exG s5
      have own5 := own4.step0 s5'
      refine ws_nil ⟨G3, e1, (s04.trans s5').mut own5.g (.inl ht0), _, _, rfl, ?_⟩
      rw [fold_take _ _ hp, setI]
      exact own5.upd
    · rintro σ' G2 H2 e1 s2 ⟨o4, o5, rfl, own⟩
      rw [List.length_map, List.take_length, foldB W.nd (W.gv f hf).mem (fun p hp => ((W.gv f hf).cnt p hp).1) hl hh.nn] at own
      have hl2 : (minus0 N.names f.gives h).length = N.names.length := minus0_length hl
      have eg2 := s1.g.trans e1
      refine ws_forS (Y := YD (f.takes.map fun p => .tuple [.int (ix N.names p.1), .int p.2])) (ei_list (ed_part hr (ee_var (i := 0) rfl rfl) (eg2 _ _ hq) E.c_Look E.n_Look_takes rfl (MonoR.mono _ _ _ eg2 htk) hf (ee_var (i := 2) rfl (Rp.mono eg2 _ _ r2)))) PassesOwn.never rfl s2
        (fun i σ' G' H' => ∃ o4 o5, σ' = [some (.ref q), some v1, some v2, some (.ref t), o4, o5] ∧ Own G' H' t (.lst (((f.takes.take i).foldl (stepP N.names 1) (minus0 N.names f.gives h)).map V.int))) (fun G2 H2 s2 => ⟨_, _, rfl, own.step0 s2⟩) ?_ ?_
      · rintro G1' eg i σ' G' H' G3 H3 x hi e1 s2 ⟨o4, o5, rfl, own⟩ s3 ⟨d, hd, rd⟩
        rw [List.getElem?_map] at hd
        obtain ⟨p, hp, rfl⟩ := Option.map_eq_some_iff.mp hd
        have hm := List.mem_of_getElem? hp
        obtain ⟨u, rfl, hu⟩ := rankI_eq rd
        have hns := (W.tk f hf).mem p hm
        have own3 := own.step0 s3
        refine wg (eg_tup2 rfl hu (eg_name (i := 4) sc_before.nd) (eg_name (i := 5) sc_before.nd)) s2.i fun H4 s4 => ?_
        refine ws_augL (j := ix N.names p.1) (m := p.2) ip_add (ee_var (i := 3) rfl rfl) (ee_var (i := 4) rfl (.int _)) (ee_var (i := 5) rfl (.int _)) (own3.step0 s4) (getI (ix_lt (lenF _ _ _ hl2) hns)) s4.i fun H5 s5 w5 => ?_
        refine ws_nil ⟨G3, e1, (s2.trans (s4.trans s5)).mut w5.g (.inl ht0), _, _, rfl, ?_⟩
        rw [fold_take _ _ hp]
        have e2 : stepP N.names 1 ((f.takes.take i).foldl (stepP N.names 1) (minus0 N.names f.gives h)) p = ((f.takes.take i).foldl (stepP N.names 1) (minus0 N.names f.gives h)).set (ix N.names p.1) (((f.takes.take i).foldl (stepP N.names 1) (minus0 N.names f.gives h)).getD (ix N.names p.1) 0 + p.2) := by
          unfold stepP
          congr 1
          omega
        rw [e2, ← setI]
        exact w5.upd
      · rintro σ' G3 H3 e3 s3 ⟨o4, o5, rfl, own⟩
        rw [List.length_map, List.take_length, foldP W.nd (W.tk f hf).mem hl2] at own
        have s4 := s3.frz own.h ht0
        refine ws_ret (R := RD (tI (befo N h f))) (ed_tupL (ee_var (i := 3) (R := RD (.list ((befo N h f).map .int))) rfl (.lst upd_same (ints_paired _))) E.b_tuple) s4.i fun v G5 H5 s5 r5 => k v G5 H5 (s4.trans s5) r5
theorem ok_over_some {m : Nat} {h : Hp'} {hs : List Hp'} (E : Env K mg) (hl : h.length = m) (O : OfLen m hs) : C8.Cal P w K mg base 2 "over_some" (Pr (A2 (tI h) (.list (hs.map tI))) (RD (.bool (hs.any (over h))))) [] :=
  cl_over_some E fun cdv A outer s H vs Q E' hr G ex a k => by
    obtain ⟨v1, v2, rfl, r1, r2⟩ := ACons.two a
    refine ws_ret (R := RD (.bool (hs.any (over h)))) (ee_is (ed_any (bs := hs.map (over h)) rfl (ee_is (ed_lcM (l := hs) (src := tI) (own := [("one", 2)]) rfl sc_over_some.nd (ei_list (ee_var (i := 1) rfl r2)) (blkOk_by (N := N_over_some) (sc := defScope s_over_some) (by decide +kernel)) (fun one => some (.bool (over h one))) (fun i one y G' eg hp rx => ?_) (by have := O.few; omega)) (by rw [fm_some, List.map_map]; rfl)) E.b_any) (by rw [List.any_map]; rfl)) ex k
    refine ⟨_, ?_, fun s H C cl fp => ⟨eg_name (i := 2) sc_over_some.nd, ets_nil, ?_⟩⟩
    · rfl
    · exact ee_cal (ok_is_over E (by rw [hl, O.len one (List.mem_of_getElem? hp)]) (by rw [hl]; exact O.le)) hr (ea_cons (ee_var (i := 0) rfl (Rp.mono eg _ _ r1)) (ea1 (ee_var (i := 2) rfl rx)))
end TK

/-! part P19 -/
set_option Elab.async false
set_option linter.all false
set_option maxRecDepth 100000
set_option maxHeartbeats 4000000
/-! PG, part 19: a def that may let an error of its own out. -/
namespace PG
open PySem PySem.Spec PyProof.Rows L2
section
variable {P : Program} {w : World} {K : PySem.W.Frag} {mg : Str → Option Value} {base : Heap}
abbrev XX (P : Program) (w : World) (K : PySem.W.Frag) (mg : Str → Option Value) (base : Heap) (N : List Str) (qual : Str) (scope : Scope) (f : Addr) (cdv : Value) (A : Around) (outer : List Env) (s : Shared) (H : Hp) (E : XK) : Cx :=
  cxOf (L2.CX P w) P w K mg base N qual scope f cdv A outer s H E
section
variable {N : List Str} {qual : Str} {scope : Scope} {f : Addr} {cdv : Value} {A : Around} {outer : List Env} {s : Shared} {H : Hp} {E : XK}
theorem xx_takes : Takes (XX P w K mg base N qual scope f cdv A outer s H E) (fun cls d _ H => E cls d H) := takes_of rfl rfl rfl rfl
theorem xx_pass : Passes (L2.CX P w) (XX P w K mg base N qual scope f cdv A outer s H E) E := passes_call xx_takes fun _ _ _ _ h => h
theorem xx_own : PassesOwn (model P w) (XX P w K mg base N qual scope f cdv A outer s H E).A (XX P w K mg base N qual scope f cdv A outer s H E).env (XX P w K mg base N qual scope f cdv A outer s H E).xe := passes_of rfl
end
abbrev BodyX (P : Program) (w : World) (K : PySem.W.Frag) (mg : Str → Option Value) (base : Heap) (N : List Str) (qual : Str) (st : Stmt) (f : Addr) (k : Nat) (sp : Sp) : Prop :=
  ∀ (cdv : Value) (Ar : Around) (outer : List Env) (s : Shared) (H : Hp) (vs : List V) (Q : VK) (E : XK), Room k (Ar.deeper (envOfC qual (defScope st) s.heap.objs.size f cdv)) → sp vs H Q E →
      WS (XX P w K mg base N qual (defScope st) f cdv Ar outer s H E) (defBody st) { nx := fun _ H' => Q .non H', rt := Q } (start N vs) H
theorem fn_x {k : Nat} {nm qual : Str} {st : Stmt} {dvs : List V} {kws : List (Str × V)} {f : Addr} {fd : FuncData} {N ps : List Str} {sp : Sp} (F : FunD K nm qual (defArgs st) (defBody st) (defScope st) dvs kws f fd) (S : FnScope N ps (defScope st))
    (len : ∀ vs H Q E, sp vs H Q E → vs.length = ps.length) (body : BodyX P w K mg base N qual st f k sp) : FnOk P w K mg base (L2.CX P w) (k + 1) f fd ps sp :=
  F.ok S len (fun cdv A outer s H vs Q E hr h => ⟨_, pss_self _, body cdv A outer s H vs Q E hr h⟩)
structure CalX (P : Program) (w : World) (K : PySem.W.Frag) (mg : Str → Option Value) (base : Heap) (k : Nat) (x : Str) (sp : Sp) (dvs : List V) : Prop where
  ex : ∃ (f : Addr) (fd : FuncData) (ps : List Str) (ds : List Value), FnOk P w K mg base (L2.CX P w) k f fd ps sp ∧ mg x = some (.ref f) ∧ PySem.W.keepIn K (.ref f) = true ∧ Binds K fd ps ds ∧ Vals dvs ds
structure MetX (P : Program) (w : World) (K : PySem.W.Frag) (mg : Str → Option Value) (base : Heap) (k : Nat) (C : Addr) (m : Str) (sp : Sp) (dvs : List V) : Prop where
  ex : ∃ (f : Addr) (fd : FuncData) (ps : List Str) (ds : List Value), Cls K C ∧ Meth K C m f ∧ FnOk P w K mg base (L2.CX P w) k f fd ps sp ∧ Binds K fd ps ds ∧ Vals dvs ds
end
section
variable {X : Cx} {σ σ' : L2.St} {G G0 G1 G2 H H0 H1 H2 : Hp} {e a b c o : Expr} {es : List Expr} {R R1 : V → Hp → Prop} {A : List V → Hp → Prop} {pos pp apos cpos : Pos} {p : Addr} {S : List Addr} {D : Ends} {rest : List Stmt}
/-- o.m() as a statement, m may raise -/
theorem ws_methX0 {k j : Nat} {C q dx : Addr} {fs : List (Str × V)} {m : Str} {sp : Sp} {dvs : List V} {E : XK} {pl : Sem Bool} (cm : MetX X.prog X.w X.K X.mg X.base k C m sp dvs) (hx : Passes (L2.CX X.prog X.w) X E) (hr : Room j X.A) (ho : EE X o σ G (RV (.ref q))) (ex : Ex G H) (hq : G q = some (.ins C dx fs)) (hl : fs.lookup m = none)
    (kk : ∀ H1, Stp [] G H G H1 → sp (.ref q :: ([] ++ dvs)) H1 (fun _ H2 => WS X rest D σ H2) E) (hk : k ≤ j := by decide) (hs : swapsWith (.Call (.Attribute o m apos) [] [] cpos) none pos.line X.env = pure false := by rfl)
    (ht : eval (.Call (.Attribute o m apos) [] [] cpos) X.env = (do
      let ov ← eval o X.env
      standAt apos.atName
      let (f, first) ← holding [ov] (getMethod ov m pl)
      callWith cpos f first (backTo cpos (starEach [] X.env)) (backToKw cpos (keywordEach [] X.env))) := by rfl) : WS X (.Expr (.Call (.Attribute o m apos) [] [] cpos) pos :: rest) D σ H := by
  obtain ⟨f, fd, ps, ds, hC, hm, F, hb, hd⟩ := cm.ex
  exact ws_cons ⟨_, ps_expr (pe_meth0 (pe_self o) hC hm F (hr.mono hk) hb hd hx ht) hs, ho H _ ex fun x G1 H1 s1 r1 => ⟨q, dx, fs, r1, s1.i _ _ (s1.g _ _ hq), hl, by
    rw [show x = .ref q from r1]
    exact kk H1 s1.keepG⟩⟩
/-- return f(..), f may raise -/
theorem ws_retX {k j : Nat} {x : Str} {sp : Sp} {dvs : List V} {E : XK} (cc : CalX X.prog X.w X.K X.mg X.base k x sp dvs) (hx : Passes (L2.CX X.prog X.w) X E) (hr : Room j X.A) (ha : EA X (e :: es) σ G A) (ex : Ex G H)
    (kk : ∀ vs G1 H1, Stp [] G H G1 H1 → A vs G1 → sp (vs ++ dvs) H1 (fun v H2 => D.rt v H2) E) (hk : k ≤ j := by decide) (hg : Gl X x := by rfl)
    (hdb : (x == ("__debug__" : Str)) = false := by decide) (he : starEach (e :: es) X.env = (false, eval e X.env) :: starEach es X.env := by rfl) (hpl : (backTo pos (starEach es X.env)).any (·.1) = false := by rfl) : WS X (.Return (some (.Call (.Name x pp) (e :: es) [] pos)) apos :: rest) D σ H := by
  obtain ⟨f, fd, ps, ds, F, hm, hkp, hb, hd⟩ := cc.ex
  exact ws_cons ⟨_, ps_ret (pe_call F (hr.mono hk) hg hm hkp hb hd hx (pa_self _) hdb he hpl), ha H _ ex fun vs G1 H1 s1 a => kk vs G1 H1 s1 a⟩
end
end PG
namespace TK
open PySem PySem.Spec PyProof.Rows L2 PG
variable {P : Program} {w : World} {K : PySem.W.Frag} {mg : Str → Option Value} {base : Heap}
/-! ### TooGreat -/
abbrev cTG (K : PySem.W.Frag) : Addr := He.ga K "TooGreat"
def SpTG (K : PySem.W.Frag) : Sp := fun vs H Q _ => ∃ a m, vs = [.ref a, .int m] ∧ H a = some (exo a (cTG K) none) ∧
  ∀ dx, H dx = none → dx ≠ a → Q .non (upd (upd H dx (exd dx [("most", .int m)])) a (exo a (cTG K) (some dx)))
theorem tg_oex (E : Env K mg) : OexC K (cTG K) := by
  have h := E.x
  unfold exB at h
  exact oexB_ok (He.ba (He.ba h).2).1
theorem tg_init (E : Env K mg) : PySem.W.findIn K (.ref (cTG K)) "__init__" = some (some (.ref (He.fAd K ("TooGreat", some "__init__")))) := by
  have h := E.x
  unfold exB at h
  exact He.eqO_ok (He.ba (He.ba (He.ba h).2).2).1
theorem tg_ty (E : Env K mg) : PySem.W.typeIn K (.ref (He.fAd K ("TooGreat", some "__init__"))) = some (.type "function") := by
  have h := E.x
  unfold exB at h
  exact of_decide_eq_true (He.ba (He.ba (He.ba (He.ba h).2).2).2).1
theorem tg_exm (E : Env K mg) : PySem.W.exmOne K (.ref (cTG K)) (.ref (cTG K)) = some true := by
  have h := E.x
  unfold exB at h
  exact of_decide_eq_true (He.ba (He.ba (He.ba (He.ba (He.ba h).2).2).2).2).1
theorem bd_TG {fd : FuncData} {f : Addr} (F : FunD K "__init__" "TooGreat.__init__" (defArgs s_TooGreat_init) (defBody s_TooGreat_init) (defScope s_TooGreat_init) [.int 0] [] f fd) : ∃ ds, Vals [] ds ∧ Binds K fd ["self", "most"] ds :=
  F.binds1 2 1 (by simp) rfl fun T kV doc pm an cdv ct us its h1 h2 => match us, its, h1, h2 with
    | [_, _], [_], _, _ => ⟨_, rfl, rfl⟩
theorem fn_TG {fd : FuncData} {f : Addr} (E : Env K mg) (F : FunD K "__init__" "TooGreat.__init__" (defArgs s_TooGreat_init) (defBody s_TooGreat_init) (defScope s_TooGreat_init) [.int 0] [] f fd) : FnOk P w K mg base CX0 1 f fd ["self", "most"] (SpTG K) := by
  refine fn_g F sc_TooGreat_init (fun vs H Q E ⟨a, m, e, _⟩ => by rw [e]; rfl) fun cdv A outer s H vs Q E' hr ⟨a, m, e, ha, k⟩ => ?_
  subst e
  refine ws_cons ⟨_, ps_ost (pe_var (i := 0) rfl (Or.inl rfl)) (pe_var (i := 1) rfl (Or.inl rfl)), ?_⟩
  refine ⟨_, rfl, _, rfl, a, _, rfl, tg_oex E, E.n_TooGreat_most, .inl ⟨ha, fun dx h1 h2 => ws_nil (k dx h1 h2)⟩⟩
section
variable {N : List Str} {qual : Str} {scope : Scope} {f : Addr} {cdv : Value} {A : Around} {outer : List PySem.Env} {s : Shared} {H0 : Hp} {E' : XK} {σ : L2.St} {G H : Hp} {e : Expr} {m : Int} {p pos pos2 : Pos} {rest : List Stmt} {D : Ends}
theorem ws_raiseT {j : Nat} (E : Env K mg) (he : ED (XX P w K mg base N qual scope f cdv A outer s H0 E') e σ G (.int m)) (ex : Ex G H) (hr : Room j (XX P w K mg base N qual scope f cdv A outer s H0 E').A) (k : ∀ d H', Stp [] G H G H' → E' (.ref (cTG K)) (some d) H') (hk : 2 ≤ j := by decide)
    (hg : Gl (XX P w K mg base N qual scope f cdv A outer s H0 E') "TooGreat" := by rfl) (hs : starEach [e] (XX P w K mg base N qual scope f cdv A outer s H0 E').env = (false, eval e (XX P w K mg base N qual scope f cdv A outer s H0 E').env) :: starEach [] (XX P w K mg base N qual scope f cdv A outer s H0 E').env := by rfl) :
    WS (XX P w K mg base N qual scope f cdv A outer s H0 E') (.Raise (some (.Call (.Name "TooGreat" p) [e] [] pos)) none pos2 :: rest) D σ H := by
  obtain ⟨fd, F⟩ := E.f_TooGreat_init
  obtain ⟨ds, hd, hb⟩ := bd_TG F
  have F1 : FnOk P w K mg base CX0 1 (He.fAd K ("TooGreat", some "__init__")) fd ["self", "most"] (SpTG K) := fn_TG E F
  refine ws_cons ⟨_, ps_raise rfl xx_takes (pmk_oex (k := 1) (tg_oex E) (tg_init E) (tg_ty E) F1 (hr.mono hk) hb hd (fun _ _ _ _ _ _ _ h => h.elim) hg E.g_TooGreat (pa_self _) (he := hs)), ?_⟩
  refine (ea1 he hs) H _ ex fun vs G1 H1 s1 r0 => ?_
  obtain ⟨v, rfl, r⟩ := ACons.one r0
  rw [Rp.int_eq r]
  refine ⟨by simp, fun a ha => ⟨a, m, rfl, upd_same, fun dx h1 h2 => ⟨rfl, dx, [(("most" : Str), V.int m)], upd_same, ?_, ?_, ?_⟩⟩⟩
  · rw [upd_ne h2, upd_same]
  · rw [upd_ne h2] at h1
    exact h1
  · rw [upd_ne h2] at h1
    refine k dx _ ?_
    have st : Ex H1 (upd (del (upd (upd (upd H1 a (exo a (cTG K) none)) dx (exd dx [("most", .int m)])) a (exo a (cTG K) (some dx))) a) dx (.xd [("most", .int m)])) := fun b o hb => by
      have n1 : b ≠ a := ne_of_none hb ha
      have n2 : b ≠ dx := ne_of_none hb h1
      rw [upd_ne n2, del_ne n1, upd_ne n1, upd_ne n2, upd_ne n1]
      exact hb
    exact (s1.keepG).trans ⟨Ex.refl _, s1.keepG.i.trans st, fun b o hb => ⟨o, st b o hb, fun _ => rfl, fun _ e => e⟩, fun b o h h' => by rw [h] at h'; cases h'⟩
end
end TK

/-! part Q7 -/
set_option Elab.async false
set_option linter.all false
set_option maxRecDepth 100000
set_option maxHeartbeats 4000000
/-! a list from the last but one back to the first. -/
namespace PG
open PySem PySem.Spec PyProof.Rows L2
theorem pick_back (its : Array Value) (h1 : 1 ≤ its.size) : slicePick its (some (-2)) none (some (-1)) = its.toList.dropLast.reverse.toArray := by
  obtain ⟨l⟩ := its
  have h1' : 1 ≤ l.length := by simpa using h1
  unfold slicePick
  have hb : sliceBounds (some (-2)) none (some (-1)) l.toArray.size = (((l.length - 1 : Nat) : Int) - 1, -1, -1) := by
    unfold sliceBounds
    simp
    omega
  rw [hb]
  show ((sliceRange (((l.length - 1 : Nat) : Int) - 1) (-1) (-1)).filterMap (l.toArray[·]?)).toArray = _
  rw [PySem.W.krv_sliceRange, PySem.W.krv_range, List.filterMap_reverse]
  congr 2
  rw [List.dropLast_eq_take]
  have : ∀ n, n ≤ l.length → (List.range n).filterMap (fun x => l[x]?) = l.take n := fun n => by
    induction n with
    | zero => intro _; simp
    | succ n ih =>
      intro hn
      have hq : l[n]? = some (l[n]'(by omega)) := List.getElem?_eq_getElem (by omega)
      rw [List.range_succ, List.filterMap_append, ih (by omega), List.take_succ, hq]
      simp [hq]
  simpa using this (l.length - 1) (by omega)
section
variable {X : Cx} {σ : L2.St} {G : Hp} {e : Expr} {te : TE}
def tBack (K : PySem.W.Frag) (te : TE) : TE := fun σ H Q => te σ H fun x H1 => ∃ a xs, x = .ref a ∧ 1 ≤ xs.length ∧ SqL K H1 a xs ∧ ∀ p, H1 p = none → Q (.ref p) (upd H1 p (.lst xs.dropLast.reverse))
theorem vals_dropLast : ∀ {xs : List V} {us : List Value}, Vals xs us → Vals xs.dropLast us.dropLast
  | _, _, .nil => .nil
  | _, _, .cons r .nil => .nil
  | _, _, .cons r (.cons r2 t) => .cons r (vals_dropLast (.cons r2 t))
theorem pe_back {k j : Nat} {q1 q2 q3 q4 q5 pos : Pos} (he : PE X e te) : PE X (.Subscript e (.Slice (some (.UnaryOp .USub (.Constant (.int 2) j q4) q5)) none (some (.UnaryOp .USub (.Constant (.int 1) k q1) q2)) q3) pos) (tBack X.K te) := by
  have hlo : PO X (some (.UnaryOp .USub (.Constant (.int 2) j q4) q5)) (tPart (tUn (rU fun i => .int (-i)) (tC (.int 2)))) := po_some (pe_un un_neg pe_int)
  have hst : PO X (some (.UnaryOp .USub (.Constant (.int 1) k q1) q2)) (tPart (tUn (rU fun i => .int (-i)) (tC (.int 1)))) := po_some (pe_un un_neg pe_int)
  refine ⟨fun pins s0 σ0 H0 Q0 I0 h0 => ?_⟩
  refine Subscript_ (thn (he.run pins s0 σ0 H0 _ I0 h0) fun val sA ⟨x, HA, IA, rA, a, xs, ea, hne, hsq, hQ⟩ => ?_)
  rw [ea] at rA
  cases rA
  refine wpAny_Slice (thn (hlo.run pins sA σ0 HA (fun o H2 => o = some (-2) ∧ H2 = HA) IA ⟨2, rfl, -2, rfl, rfl, rfl⟩) fun va sB ⟨o1, HB, IB, isA, eo1, eB⟩ => ?_)
  rw [eo1] at isA
  rw [eB] at IB
  refine thn (po_none.run pins sB σ0 HA (fun o H2 => o = none ∧ H2 = HA) IB ⟨rfl, rfl⟩) fun vb sC ⟨o2, HC, IC, isB, eo2, eC⟩ => ?_
  rw [eo2] at isB
  rw [eC] at IC
  refine thn (hst.run pins sC σ0 HA (fun o H2 => o = some (-1) ∧ H2 = HA) IC ⟨1, rfl, -1, rfl, rfl, rfl⟩) fun vc sD ⟨o3, HD, ID, isC, eo3, eD⟩ => ?_
  rw [eo3] at isC
  rw [eD] at ID
  have IE : Inv X pins σ0 HA { sD with heap := sD.heap.push { cls := .type "slice", data := .fields #[va, vb, vc] } } := ID.kept (t' := sD.toks) fun b ob q => Heap.get?_push_of_some _ q
  obtain ⟨items, rel, isl, hsz⟩ := IE.list hsq
  have elen := rel.length
  show wpAny (model X.prog X.w) X.A (subscriptTail e (.Slice (some (.UnaryOp .USub (.Constant (.int 2) j q4) q5)) none (some (.UnaryOp .USub (.Constant (.int 1) k q1) q2)) q3) (.ref a) (.ref sD.heap.objs.size)) (EP X pins σ0 Q0) X.xe { sD with heap := sD.heap.push { cls := .type "slice", data := .fields #[va, vb, vc] } }
  refine tail_any (ops := [.ref a, .ref sD.heap.objs.size]) isl.isList.typeIs (PySem.slot_list_getitem.lookup) ?_ (by with_unfolding_all rfl)
  refine wpAny_getItem_list_slice isl.isList (Heap.IsSliceOf.new _ va vb vc) isA isB isC (by decide) ?_ (by rw [List.size_toArray]; omega)
  rw [pick_back _ (by rw [List.size_toArray]; omega)]
  refine ⟨.ref _, _, IE.laid (t' := sD.toks) (o := .lst xs.dropLast.reverse) (fun b ob q => Heap.get?_push_of_some _ q) (Nat.le_refl _) ⟨?_, _, 0, (vals_dropLast rel).reverse, Heap.get?_push_size _ rfl⟩, rfl, hQ _ (IE.hok.fresh (Nat.le_refl _))⟩
  rw [List.length_reverse, List.length_dropLast]
  omega
theorem ed_back {k j : Nat} {q1 q2 q3 q4 q5 pos : Pos} {ds : List PyData} (ha : ED X e σ G (.list ds)) (hn : 1 ≤ ds.length) : ED X (.Subscript e (.Slice (some (.UnaryOp .USub (.Constant (.int 2) j q4) q5)) none (some (.UnaryOp .USub (.Constant (.int 1) k q1) q2)) q3) pos) σ G (.list ds.dropLast.reverse) := fun H Q ex q =>
  ⟨_, pe_back (pe_self e), ha H _ ex fun v G1 H1 s1 r1 => by
    obtain ⟨p, xs, rfl, h1, h2⟩ := r1.lst_eq
    refine ⟨p, xs, rfl, by rw [Paired.length h2]; exact hn, SqL.of (s1.i _ _ h1), fun t ht => q _ _ _ (s1.trans (Stp.newP s1.i ht)) (.lst upd_same ?_)⟩
    refine Rp.monoAll (Ex.new (s1.i.none ht)) _ _ ?_
    have pd : ∀ {ys : List V} {es : List PyData}, Paired (Rp G1) ys es → Paired (Rp G1) ys.dropLast es.dropLast := fun {ys es} h => by
      rw [List.dropLast_eq_take, List.dropLast_eq_take, Paired.length h]
      exact paired_take _ h
    have pr : ∀ {ys : List V} {es : List PyData}, Paired (Rp G1) ys es → Paired (Rp G1) ys.reverse es.reverse := fun {ys es} h => by
      induction h with
      | nil => exact .nil
      | cons r t ih =>
        rw [List.reverse_cons, List.reverse_cons]
        exact Paired.app ih (.cons r .nil)
    exact pr (pd h2)⟩
end
end PG

/-! part M4 -/
set_option Elab.async false
set_option linter.all false
set_option maxRecDepth 100000
set_option maxHeartbeats 4000000
/-! TK: levels, backward. -/
namespace TK
open PySem PySem.Spec PyProof.Rows L2 PG
def moreL (N : Net) (fr : List Hp') : List Hp' := fr.flatMap fun h => N.firings.map (befo N h)
/-- the level as it stands, what of it is fresh -/
def lvl (N : Net) (g : Hp') : Nat → List Hp' × List Hp'
  | 0 => ([g], [g])
  | n + 1 => (leastL ((lvl N g n).1 ++ moreL N (lvl N g n).2), (leastL ((lvl N g n).1 ++ moreL N (lvl N g n).2)).filter fun h => !decide (h ∈ (lvl N g n).1))
abbrev lev (N : Net) (g : Hp') (n : Nat) : List Hp' := (lvl N g n).1
abbrev fre (N : Net) (g : Hp') (n : Nat) : List Hp' := (lvl N g n).2
def comes (N : Net) (g : Hp') (n : Nat) : Bool := (lev N g n).any (over N.begin)
variable {N : Net} {g : Hp'}
theorem fre_sub : ∀ {n : Nat} {h : Hp'}, h ∈ fre N g n → h ∈ lev N g n
  | 0, h, m => m
  | n + 1, h, m => (List.mem_filter.mp m).1
theorem fre_len : ∀ {n : Nat}, (fre N g n).length ≤ (lev N g n).length
  | 0 => Nat.le_refl _
  | n + 1 => List.length_filter_le ..
theorem mem_more {fr : List Hp'} {h : Hp'} : h ∈ moreL N fr ↔ ∃ x ∈ fr, ∃ f ∈ N.firings, befo N x f = h := by
  unfold moreL
  rw [List.mem_flatMap]
  constructor
  · rintro ⟨x, hx, hm⟩
    obtain ⟨f, hf, e⟩ := List.mem_map.mp hm
    exact ⟨x, hx, f, hf, e⟩
  · rintro ⟨x, hx, f, hf, e⟩
    exact ⟨x, hx, List.mem_map.mpr ⟨f, hf, e⟩⟩
theorem lev_hip (W : Wf N) (hg : Hip N g) : ∀ n, ∀ h ∈ lev N g n, Hip N h
  | 0, h, m => by
    obtain rfl : h = g := by
      have m' : h ∈ [g] := m
      simpa using m'
    exact hg
  | n + 1, h, m => by
    have m' : h ∈ leastL (lev N g n ++ moreL N (fre N g n)) := m
    rcases List.mem_append.mp (leastL_sub m') with z | z
    · exact lev_hip W hg n h z
    · obtain ⟨x, hx, f, hf, rfl⟩ := mem_more.mp z
      exact befo_hip W (lev_hip W hg n x (fre_sub hx)) hf
/-! over -/
theorem over_iff {x y : Hp'} (hl : x.length = y.length) : over x y = true ↔ ∀ (k : Nat) (a b : Int), x[k]? = some a → y[k]? = some b → b ≤ a := by
  unfold over
  rw [List.all_eq_true]
  constructor
  · intro h k a b ha hb
    have := h (a, b) (List.mem_iff_getElem?.mpr ⟨k, List.getElem?_zip_eq_some.mpr ⟨ha, hb⟩⟩)
    exact of_decide_eq_true this
  · rintro h ⟨a, b⟩ hm
    obtain ⟨k, hk⟩ := List.mem_iff_getElem?.mp hm
    obtain ⟨h1, h2⟩ := List.getElem?_zip_eq_some.mp hk
    exact decide_eq_true (h k a b h1 h2)
theorem over_refl (x : Hp') : over x x = true := (over_iff rfl).mpr fun k a b ha hb => by
  rw [ha] at hb
  rw [Option.some.inj hb]
  exact Int.le_refl _
theorem over_trans {x y z : Hp'} (h1 : x.length = y.length) (h2 : y.length = z.length) (a : over x y = true) (b : over y z = true) : over x z = true := by
  rw [over_iff (h1.trans h2)]
  intro k p q hp hq
  have hk : k < y.length := by
    have := (List.getElem?_eq_some_iff.mp hp).1
    omega
  have hr := List.getElem?_eq_getElem hk
  have e1 := (over_iff h1).mp a k _ _ hp hr
  have e2 := (over_iff h2).mp b k _ _ hr hq
  omega
/-- every heap listed is over one of the least -/
theorem leastS_cov {m : Nat} : ∀ {l acc : List Hp'}, (∀ h ∈ acc, h.length = m) → (∀ h ∈ l, h.length = m) → (∀ a ∈ acc, ∃ o ∈ l.foldl leastS acc, over a o = true) ∧ ∀ a ∈ l, ∃ o ∈ l.foldl leastS acc, over a o = true
  | [], acc, _, _ => ⟨fun a ha => ⟨a, ha, over_refl a⟩, fun a ha => by simp at ha⟩
  | x :: l, acc, ha, hl => by
    have hx := hl x (List.mem_cons_self ..)
    have ha' : ∀ h ∈ leastS acc x, h.length = m := fun h hh => by
      unfold leastS at hh
      split at hh
      · exact ha h hh
      · rcases List.mem_append.mp hh with z | z
        · exact ha h z
        · obtain rfl : h = x := by simpa using z
          exact hx
    have hl' : ∀ h ∈ l, h.length = m := fun h hh => hl h (List.mem_cons_of_mem _ hh)
    obtain ⟨i1, i2⟩ := leastS_cov ha' hl'
    have outlen : ∀ o ∈ l.foldl leastS (leastS acc x), o.length = m := leastS_sub (P := fun h => h.length = m) ha' hl'
    have sub : ∀ a ∈ acc, a ∈ leastS acc x := fun a h => by
      unfold leastS
      split
      · exact h
      · exact List.mem_append_left _ h
    rw [List.foldl_cons]
    refine ⟨fun a h => i1 a (sub a h), fun a h => ?_⟩
    rcases List.mem_cons.mp h with z | z
    · subst z
      cases hc : acc.any (over a) with
      | true =>
        obtain ⟨o, ho, e⟩ := List.any_eq_true.mp hc
        obtain ⟨o2, ho2, e2⟩ := i1 o (sub o ho)
        exact ⟨o2, ho2, over_trans (hx.trans (ha o ho).symm) ((ha o ho).trans (outlen o2 ho2).symm) e e2⟩
      | false =>
        refine i1 a ?_
        unfold leastS
        rw [hc, if_neg Bool.false_ne_true]
        exact List.mem_append_right _ (by simp)
    · exact i2 a z
theorem leastL_cov {m : Nat} {hs : List Hp'} (hl : ∀ h ∈ hs, h.length = m) {a : Hp'} (ha : a ∈ hs) : ∃ o ∈ leastL hs, over a o = true :=
  (leastS_cov (m := m) (acc := []) (fun h z => by simp at z) (fun h z => hl h (mem_keysOf.mp (mem_sortB.mp z)))).2 a (mem_sortB.mpr (mem_keysOf.mpr ha))
theorem over_get {x y : Hp'} (hl : x.length = y.length) (h : over x y = true) {k : Nat} {a b : Int} (ha : x[k]? = some a) (hb : y[k]? = some b) : b ≤ a := (over_iff hl).mp h k a b ha hb
/-! a firing, backward -/
/-- from m the firing leads over h just where m is over what must stand before -/
theorem befo_iff (W : Wf N) {m h : Hp'} (hm : Hip N m) (hh : Hip N h) {f : Fir} (hf : f ∈ N.firings) : over m (befo N h f) = true ↔ canF N m f = true ∧ over (fire N m f) h = true := by
  have e1 : m.length = (befo N h f).length := by rw [hm.len, befo_length hh.len]
  have e2 : (fire N m f).length = h.length := by rw [fire_length hm.len, hh.len]
  rw [over_iff e1, over_iff e2, canF_iff W hm hf]
  have key : ∀ k, k < N.names.length → ∃ x a b, N.names[k]? = some x ∧ m[k]? = some a ∧ h[k]? = some b := fun k hk => ⟨_, _, _, List.getElem?_eq_getElem hk, List.getElem?_eq_getElem (by rw [hm.len]; exact hk), List.getElem?_eq_getElem (by rw [hh.len]; exact hk)⟩
  constructor
  · intro H
    have H' : ∀ (k : Nat) (x : Str) (a b : Int), N.names[k]? = some x → m[k]? = some a → h[k]? = some b → pos0 (b - cnt f.gives x) + cnt f.takes x ≤ a := fun k x a b hx ha hb => H k a _ ha (befo_get hx hb)
    refine ⟨fun k x y hx hy => ?_, fun k a b ha hb => ?_⟩
    · obtain ⟨_, _, b, _, _, hb⟩ := key k (List.getElem?_eq_some_iff.mp hx).1
      have := H' k x y b hx hy hb
      have := pos0_nn (b - cnt f.gives x)
      omega
    · have hk : k < N.names.length := by
        have := (List.getElem?_eq_some_iff.mp hb).1
        rw [hh.len] at this
        exact this
      obtain ⟨x, a', b', hx, ha', hb'⟩ := key k hk
      rw [hb] at hb'
      obtain rfl := Option.some.inj hb'
      have := H' k x a' b hx ha' hb
      rw [fire_get hx ha'] at ha
      have ea := Option.some.inj ha
      have hp : b - cnt f.gives x ≤ pos0 (b - cnt f.gives x) := by unfold pos0; split <;> omega
      omega
  · rintro ⟨c, o⟩ k a b ha hb
    have hk : k < N.names.length := by
      have := (List.getElem?_eq_some_iff.mp ha).1
      rw [hm.len] at this
      exact this
    obtain ⟨x, a', b', hx, ha', hb'⟩ := key k hk
    rw [ha] at ha'
    obtain rfl := Option.some.inj ha'
    rw [befo_get hx hb'] at hb
    have eb := Option.some.inj hb
    have h1 := c k x a hx ha
    have h2 := o k _ b' (fire_get hx ha) hb'
    have : pos0 (b' - cnt f.gives x) ≤ a - cnt f.takes x := by unfold pos0; split <;> omega
    omega
/-- over one of the level -/
def covd (N : Net) (g m : Hp') (n : Nat) : Bool := (lev N g n).any (over m)
theorem covd_iff {m : Hp'} {n : Nat} : covd N g m n = true ↔ ∃ o ∈ lev N g n, over m o = true := by
  unfold covd
  rw [List.any_eq_true]
theorem lev_next (W : Wf N) (hg : Hip N g) {n : Nat} {m : Hp'} (hm : Hip N m) (h : ∃ o ∈ lev N g n ++ moreL N (fre N g n), over m o = true) : covd N g m (n + 1) = true := by
  obtain ⟨o, ho, e⟩ := h
  have hl : ∀ h ∈ lev N g n ++ moreL N (fre N g n), h.length = N.names.length := fun h hh => by
    rcases List.mem_append.mp hh with z | z
    · exact (lev_hip W hg n h z).len
    · obtain ⟨x, hx, f, hf, rfl⟩ := mem_more.mp z
      exact (befo_hip W (lev_hip W hg n x (fre_sub hx)) hf).len
  obtain ⟨o2, ho2, e2⟩ := leastL_cov hl ho
  exact covd_iff.mpr ⟨o2, ho2, over_trans (hm.len.trans (hl o ho).symm) ((hl o ho).trans (hl o2 (leastL_sub ho2)).symm) e e2⟩
theorem lev_up (W : Wf N) (hg : Hip N g) {n : Nat} {m : Hp'} (hm : Hip N m) (h : covd N g m n = true) : covd N g m (n + 1) = true := by
  obtain ⟨o, ho, e⟩ := covd_iff.mp h
  exact lev_next W hg hm ⟨o, List.mem_append_left _ ho, e⟩
/-- what leads into a level by one firing is over the next -/
theorem lev_befo (W : Wf N) (hg : Hip N g) : ∀ {n : Nat} {o : Hp'} {f : Fir} {m : Hp'}, o ∈ lev N g n → f ∈ N.firings → Hip N m → over m (befo N o f) = true → covd N g m (n + 1) = true
  | 0, o, f, m, ho, hf, hm, e => lev_next W hg hm ⟨_, List.mem_append_right _ (mem_more.mpr ⟨o, ho, f, hf, rfl⟩), e⟩
  | n + 1, o, f, m, ho, hf, hm, e => by
    by_cases hfr : o ∈ fre N g (n + 1)
    · exact lev_next W hg hm ⟨_, List.mem_append_right _ (mem_more.mpr ⟨o, hfr, f, hf, rfl⟩), e⟩
    · have hold : o ∈ lev N g n := by
        by_cases z : o ∈ lev N g n
        · exact z
        · exact absurd (List.mem_filter.mpr ⟨ho, by simpa using z⟩) hfr
      exact lev_up W hg hm (lev_befo W hg hold hf hm e)
theorem covd_fire (W : Wf N) (hg : Hip N g) {n : Nat} {m : Hp'} {f : Fir} (hm : Hip N m) (hf : f ∈ N.firings) (c : canF N m f = true) (h : covd N g (fire N m f) n = true) : covd N g m (n + 1) = true := by
  obtain ⟨o, ho, e⟩ := covd_iff.mp h
  exact lev_befo W hg ho hf hm ((befo_iff W hm (lev_hip W hg n o ho) hf).mpr ⟨c, e⟩)
/-- over a level but not the one ahead: a firing leads into that one -/
theorem covd_step (W : Wf N) (hg : Hip N g) {n : Nat} {m : Hp'} (hm : Hip N m) (h : covd N g m (n + 1) = true) (h0 : covd N g m n = false) : ∃ f ∈ N.firings, canF N m f = true ∧ covd N g (fire N m f) n = true := by
  obtain ⟨o, ho, e⟩ := covd_iff.mp h
  have ho' : o ∈ leastL (lev N g n ++ moreL N (fre N g n)) := ho
  rcases List.mem_append.mp (leastL_sub ho') with z | z
  · rw [covd_iff.mpr ⟨o, z, e⟩] at h0
    cases h0
  · obtain ⟨x, hx, f, hf, rfl⟩ := mem_more.mp z
    have hx' := fre_sub hx
    obtain ⟨c, e2⟩ := (befo_iff W hm (lev_hip W hg n x hx') hf).mp e
    exact ⟨f, hf, c, covd_iff.mpr ⟨x, hx', e2⟩⟩
/-- soundness: over a level, a row of firings leads over the goal -/
theorem lev_sound (W : Wf N) (hg : Hip N g) : ∀ {n : Nat} {m : Hp'}, Hip N m → covd N g m n = true → ∀ {P : Hp' → Prop}, P m → (∀ h, Hip N h → P h → ∀ f ∈ N.firings, canF N h f = true → P (fire N h f)) → ∃ z, P z ∧ over z g = true
  | 0, m, hm, h, P, p, _ => by
    obtain ⟨o, ho, e⟩ := covd_iff.mp h
    obtain rfl : o = g := by
      have ho' : o ∈ [g] := ho
      simpa using ho'
    exact ⟨m, p, e⟩
  | n + 1, m, hm, h, P, p, k => by
    cases h0 : covd N g m n with
    | true => exact lev_sound W hg hm h0 p k
    | false =>
      obtain ⟨f, hf, c, h1⟩ := covd_step W hg hm h h0
      exact lev_sound W hg (fire_hip W hm hf c) h1 (k m hm p f hf c) k
/-- completeness: nothing fresh, not over the level: no row of firings leads over the goal -/
theorem goal_cov (W : Wf N) (hg : Hip N g) : ∀ {n : Nat} {m : Hp'}, Hip N m → over m g = true → covd N g m n = true
  | 0, m, hm, e => covd_iff.mpr ⟨g, (show g ∈ [g] by simp), e⟩
  | n + 1, m, hm, e => lev_up W hg hm (goal_cov W hg hm e)
theorem fre_nil (W : Wf N) (hg : Hip N g) {n : Nat} (hf : fre N g n = []) {m : Hp'} (hm : Hip N m) (h : covd N g m (n + 1) = true) : covd N g m n = true := by
  obtain ⟨o, ho, e⟩ := covd_iff.mp h
  have ho' : o ∈ leastL (lev N g n ++ moreL N (fre N g n)) := ho
  rw [hf] at ho'
  rcases List.mem_append.mp (leastL_sub ho') with z | z
  · exact covd_iff.mpr ⟨o, z, e⟩
  · obtain ⟨x, hx, _⟩ := mem_more.mp z
    simp at hx
end TK

/-! part F21 -/
set_option Elab.async false
set_option linter.all false
set_option maxRecDepth 100000
set_option maxHeartbeats 4000000
namespace TK
open PySem PySem.Spec PyProof.Rows L2 PG
variable {P : Program} {w : World} {K : PySem.W.Frag} {mg : Str → Option Value} {base : Heap}
/-! ### cover: Levels -/
abbrev cLv (K : PySem.W.Frag) : Addr := He.ga K "Levels"
abbrev flL (vl : V) (a : Addr) (vf : V) : List (Str × V) := [("look", vl), ("most", .int 25), ("levels", .ref a), ("fresh", vf)]
abbrev hsD (hs : List Hp') : PyData := .list (hs.map tI)
def lvsD (N : Net) (g : Hp') (n : Nat) : List PyData := (List.range (n + 1)).map fun j => hsD (lev N g j)
theorem lvsD_succ (N : Net) (g : Hp') (n : Nat) : lvsD N g (n + 1) = lvsD N g n ++ [hsD (lev N g (n + 1))] := by
  unfold lvsD
  rw [List.range_succ, List.map_append] <;> rfl
theorem lvsD_len (N : Net) (g : Hp') (n : Nat) : (lvsD N g n).length = n + 1 := by unfold lvsD; simp
theorem atI_last {α : Type} {l : List α} {x : α} : atI (l ++ [x]) (-1) = some x := by
  unfold atI ixN
  rw [if_neg (by decide), if_pos (by rw [List.length_append, List.length_singleton]; omega)]
  have e : ((-1 : Int) + ((l ++ [x]).length : Int)).toNat = l.length := by rw [List.length_append, List.length_singleton]; omega
  rw [Option.bind_some, e]
  simp
theorem lvsD_last (N : Net) (g : Hp') : ∀ n : Nat, atI (lvsD N g n) (-1) = some (hsD (lev N g n))
  | 0 => rfl
  | n + 1 => by rw [lvsD_succ, atI_last]
structure LS (K : PySem.W.Frag) (N : Net) (g : Hp') (n : Nat) (G H : Hp) (x dx a : Addr) (vl vf : V) (ls : List V) : Prop where
  ox : Own G H x (.ins (cLv K) dx (flL vl a vf))
  oa : Own G H a (.lst ls)
  pl : Paired (Rp G) ls (lvsD N g n)
  rf : Rp G vf (hsD (fre N g n))
  lk : LookR K N vl G
  xa : x ≠ a
theorem LS.step {N : Net} {g : Hp'} {n : Nat} {G H G' H' : Hp} {x dx a : Addr} {vl vf : V} {ls : List V} (L : LS K N g n G H x dx a vl vf ls) (s : Stp [] G H G' H') : LS K N g n G' H' x dx a vl vf ls :=
  ⟨L.ox.step0 s, L.oa.step0 s, Rp.monoAll s.g _ _ L.pl, Rp.mono s.g _ _ L.rf, MonoR.mono _ _ _ s.g L.lk, L.xa⟩
/-- both known -/
abbrev LS.U (G : Hp) (x a : Addr) (ox oa : HO) : Hp := upd (upd G a oa) x ox
theorem LS.eU {N : Net} {g : Hp'} {n : Nat} {G H : Hp} {x dx a : Addr} {vl vf : V} {ls : List V} (L : LS K N g n G H x dx a vl vf ls) : Ex G (LS.U G x a (.ins (cLv K) dx (flL vl a vf)) (.lst ls)) := fun y o h => by
  have h1 : y ≠ x := L.ox.ne h
  have h2 : y ≠ a := L.oa.ne h
  unfold LS.U
  rw [upd_ne h1, upd_ne h2]
  exact h
theorem LS.eH {N : Net} {g : Hp'} {n : Nat} {G H : Hp} {x dx a : Addr} {vl vf : V} {ls : List V} (L : LS K N g n G H x dx a vl vf ls) (e : Ex G H) : Ex (LS.U G x a (.ins (cLv K) dx (flL vl a vf)) (.lst ls)) H := fun y o h => by
  unfold LS.U at h
  by_cases h1 : y = x
  · subst h1
    rw [upd_same] at h
    rw [L.ox.h]
    exact h
  · rw [upd_ne h1] at h
    by_cases h2 : y = a
    · subst h2
      rw [upd_same] at h
      rw [L.oa.h]
      exact h
    · rw [upd_ne h2] at h
      exact e _ _ h
theorem LS.ux {G : Hp} {x a : Addr} {ox oa : HO} : LS.U G x a ox oa x = some ox := upd_same
theorem LS.ua {G : Hp} {x a : Addr} {ox oa : HO} (h : x ≠ a) : LS.U G x a ox oa a = some oa := by unfold LS.U; rw [upd_ne (Ne.symm h), upd_same]
def LevI (K : PySem.W.Frag) (N : Net) (g : Hp') : Sp := fun vs H Q _ => ∃ x dx vl vg G, vs = [.ref x, vl, vg, .int 25] ∧ Ex G H ∧ Own G H x (.ins (cLv K) dx []) ∧ LookR K N vl G ∧ Rp G vg (tI g) ∧
  ∀ G' H' a vf ls, Stp [x] G H G' H' → LS K N g 0 G' H' x dx a vl vf ls → H a = none → Q .non H'
theorem LevI.len {N : Net} {g : Hp'} : ∀ vs H Q E, LevI K N g vs H Q E → vs.length = 4 := fun vs H Q E ⟨x, dx, vl, vg, G, e, _⟩ => by rw [e]; rfl
theorem ok_Levels_init {N : Net} {g : Hp'} (E : Env K mg) : C8.Mak P w K mg base 1 "Levels" (cLv K) (LevI K N g) [] :=
  ig_Levels_init E LevI.len fun cdv A outer s H vs Q E' hr ⟨x, dx, vl, vg, G, e, ex, own, lk, rg, k⟩ => by
    subst e
    refine ws_fld (R := RV vl) (ee_var (i := 1) rfl rfl) (ee_var (i := 0) rfl rfl) own E.c_Levels E.n_Levels_look (by decide) ex fun v G1 H1 s1 r1 w1 => ?_
    rw [show v = vl from r1]
    have t1 := s1.any (S := [x]) |>.mut (o := .ins (cLv K) dx [(("look" : Str), vl)]) w1.g (.inr (by simp))
    have w1' := w1.upd (o' := .ins (cLv K) dx [(("look" : Str), vl)])
    refine ws_fld (R := RV (.int 25)) (ee_var (i := 3) rfl rfl) (ee_var (i := 0) rfl rfl) w1' E.c_Levels E.n_Levels_most (by simp) t1.i fun v G2 H2 s2 r2 w2 => ?_
    rw [show v = .int 25 from r2]
    have t2 := (t1.trans s2.any).mut (o := .ins (cLv K) dx [(("look" : Str), vl), (("most" : Str), V.int 25)]) w2.g (.inr (by simp))
    have w2' := w2.upd (o' := .ins (cLv K) dx [(("look" : Str), vl), (("most" : Str), V.int 25)])
    have e2 := s1.g.trans s2.g
    have fre : ∀ {G' H' : Hp} {q : Addr}, Stp [x] G H G' H' → H' q = none → H q = none := fun {G' H' q} t hq => by
      cases z : H q with
      | none => rfl
      | some u =>
        obtain ⟨u', hu, _⟩ := t.h _ _ z
        rw [hq] at hu
        cases hu
    refine ws_fldN (en_lst (A := ACons (RD (.list [tI g])) ANil) (ea1 (ed_lst (hl := by simp) (ad_cons (ee_var (i := 2) rfl (Rp.mono e2 _ _ rg)) ad_nil)))) (ee_var (i := 0) rfl rfl) w2' E.c_Levels E.n_Levels_levels (by simp) t2.i fun a o G3 H3 s3 ha wa ho w3 => ?_
    obtain ⟨us, rfl, hus⟩ := ho
    obtain ⟨vb, rfl, rvb⟩ := ACons.one hus
    have xa : x ≠ a := w2'.ne2 ha
    have t3 := (t2.trans s3.any).mut (o := .ins (cLv K) dx [(("look" : Str), vl), (("most" : Str), V.int 25), (("levels" : Str), V.ref a)]) w3.g (.inr (by simp))
    have w3' := w3.upd (o' := .ins (cLv K) dx [(("look" : Str), vl), (("most" : Str), V.int 25), (("levels" : Str), V.ref a)])
    have wa3 := wa.other (u := .ins (cLv K) dx [(("look" : Str), vl), (("most" : Str), V.int 25), (("levels" : Str), V.ref a)]) xa.symm
    refine ws_fld (R := RD (.list [tI g])) (ed_lst (hl := by simp) (ad_cons (ee_var (i := 2) rfl (Rp.mono (e2.trans s3.g) _ _ rg)) ad_nil)) (ee_var (i := 0) rfl rfl) w3' E.c_Levels E.n_Levels_fresh (by simp) t3.i fun v G4 H4 s4 r4 w4 => ?_
    have t4 := (t3.trans s4.any).mut (o := .ins (cLv K) dx (flL vl a v)) w4.g (.inr (by simp))
    refine ws_nil (k G4 _ a v [vb] t4 ⟨w4.upd, (wa3.step0 s4).other xa.symm, .cons (Rp.mono s4.g _ _ rvb) .nil, r4, MonoR.mono _ _ _ ((e2.trans s3.g).trans s4.g) lk, xa⟩ (fre t2 ha))
/-- the object, known -/
def LevA (K : PySem.W.Frag) (N : Net) (g : Hp') (n : Nat) : V → Hp → Prop := fun v G => ∃ x dx a vl vf ls, v = .ref x ∧ G x = some (.ins (cLv K) dx (flL vl a vf)) ∧ G a = some (.lst ls) ∧ Paired (Rp G) ls (lvsD N g n) ∧ LookR K N vl G
instance (N : Net) (g : Hp') (n : Nat) : MonoR (LevA K N g n) := ⟨fun _ _ _ e ⟨x, dx, a, vl, vf, ls, h1, h2, h3, h4, h5⟩ => ⟨x, dx, a, vl, vf, ls, h1, e _ _ h2, e _ _ h3, Rp.monoAll e _ _ h4, MonoR.mono _ _ _ e h5⟩⟩
theorem LS.lev {N : Net} {g : Hp'} {n : Nat} {G H : Hp} {x dx a : Addr} {vl vf : V} {ls : List V} (L : LS K N g n G H x dx a vl vf ls) : LevA K N g n (.ref x) (LS.U G x a (.ins (cLv K) dx (flL vl a vf)) (.lst ls)) :=
  ⟨x, dx, a, vl, vf, ls, rfl, LS.ux, LS.ua L.xa, Rp.monoAll L.eU _ _ L.pl, MonoR.mono _ _ _ L.eU L.lk⟩
theorem ofLev {N : Net} {g : Hp'} {n : Nat} (W : Wf N) (hg : Hip N g) (hl : (lev N g n).length ≤ 2000) : OfLen N.names.length (lev N g n) := by
  have nml : N.names.length ≤ 40 := by rw [names_len]; exact W.len
  exact ⟨fun h hh => (lev_hip W hg n h hh).len, by rw [names_len]; exact List.length_pos_iff.mpr W.ne, by omega, hl⟩
theorem ok_is_come_to {N : Net} {g : Hp'} {n : Nat} (E : Env K mg) (W : Wf N) (hg : Hip N g) (hl : (lev N g n).length ≤ 2000) : C8.Met P w K mg base 3 (cLv K) "is_come_to" (Pr (ACons (LevA K N g n) ANil) (RD (.bool (comes N g n)))) [] :=
  ml_Levels_is_come_to E fun cdv A outer s H vs Q E' hr G ex as k => by
    obtain ⟨v0, rfl, x, dx, a, vl, vf, ls, rfl, hx, ha, pl, lk⟩ := ACons.one as
    have lk' := lk
    obtain ⟨ql, ldx, lfs, rfl, hql, lv3, lv4, lv5, lv6, lv7, lv8, rfl, lp, lb, _⟩ := lk'
    refine ws_ret (R := RD (.bool (comes N g n))) (ee_cal (ok_over_some E (begin_hip W).len (ofLev W hg hl)) hr (ea_cons (ee_fld (R := RD (tI N.begin)) (ee_fld (R := RV (.ref ql)) (ee_var (i := 0) rfl rfl) hx E.c_Levels E.n_Levels_look rfl rfl) hql E.c_Look E.n_Look_begin rfl lb)
      (ea1 (ed_ixL (ds := lvsD N g n) (i := -1) (ee_fld (R := RD (.list (lvsD N g n))) (ee_var (i := 0) rfl rfl) hx E.c_Levels E.n_Levels_levels rfl (.lst ha pl)) (ed_neg ed_int) (lvsD_last N g n))))) ex k
end TK

/-! part F22 -/
set_option Elab.async false
set_option linter.all false
set_option maxRecDepth 100000
set_option maxHeartbeats 4000000
namespace PG
open PySem PySem.Spec PyProof.Rows L2
section
variable {X : Cx} {σ : L2.St} {G H : Hp} {e o : Expr} {R : V → Hp → Prop} {pos : Pos} {D : Ends} {rest : List Stmt}
/-- o.f = e, by what stands -/
theorem ws_fldH {q C dx : Addr} {fs : List (Str × V)} {f : Str} {pos' : Pos} (he : EE X e σ G R) [MonoR R] (ho : EE X o σ G (RV (.ref q))) (hq : H q = some (.ins C dx fs)) (hc : Cls X.K C) (hn : NoAttr X.K C f) (hl : fs.length < 1000) (ex : Ex G H)
    (k : ∀ v G' H', Stp [] G H G' H' → R v G' → WS X rest D σ (L2.upd H' q (.ins C dx (putF f v fs)))) (hs : swapsWith e (some (.Attribute o f pos')) pos.line X.env = pure false := by rfl) : WS X (.Assign [.Attribute o f pos'] e pos :: rest) D σ H := by
  refine ws_cons ⟨_, ps_fld (pe_self o) (pe_self e) hs, he H _ ex fun v G1 H1 s1 r1 => ?_⟩
  refine (ho.mono s1.g) H1 _ s1.i fun x G2 H2 s2 r2 => ?_
  have s := s1.trans s2
  exact ⟨q, C, dx, fs, r2, s.ex _ _ hq, hc, hn, hl, k v G2 H2 s (MonoR.mono _ _ _ s2.g r1)⟩
end
end PG
namespace TK
open PySem PySem.Spec PyProof.Rows L2 PG
variable {P : Program} {w : World} {K : PySem.W.Frag} {mg : Str → Option Value} {base : Heap}
theorem any_tI {h : Hp'} : ∀ {l : List Hp'}, (l.map tI).any (fun z => PyData.eqv z (tI h)) = decide (h ∈ l)
  | [] => by simp
  | a :: l => by
    rw [List.map_cons, List.any_cons, any_tI, eqv_tI]
    by_cases e : a = h
    · simp [e]
    · have : ¬ h = a := fun z => e z.symm
      simp [e, this]
theorem shp_hs (hs : List Hp') : shp 2 (hsD hs) := shp_lst fun h _ => shp_tI h
theorem rpI_dele {G : Hp} {x : Addr} {o : HO} (hx : G x = some o) (ht : (∀ xs, o ≠ .tup xs) ∧ ∀ ob u, o ≠ .frz ob u) {v : V} {h : Hp'} (r : Rp G v (tI h)) : Rp (dele G x) v (tI h) := by
  cases r with
  | tup e h2 =>
    refine .tup ?_ (paired_ints h2 ▸ ints_paired h)
    rw [dele_ne fun z => by
      subst z
      rw [hx] at e
      exact ht.1 _ (Option.some.inj e)]
    exact e
  | @prt a' o' xs' ds' e hp h2 =>
    refine .prt (o := o') ?_ hp (paired_ints h2 ▸ ints_paired h)
    rw [dele_ne fun z => by
      subst z
      rw [hx] at e
      exact ht.2 _ _ (Option.some.inj e)]
    exact e
theorem rpHs_dele {G : Hp} {x : Addr} {o : HO} (hx : G x = some o) (ht : (∀ xs, o ≠ .tup xs) ∧ ∀ ob u, o ≠ .frz ob u) {v : V} {hs : List Hp'} (hv : v ≠ .ref x) (r : Rp G v (hsD hs)) : Rp (dele G x) v (hsD hs) := by
  obtain ⟨p, xs, rfl, e, pr⟩ := r.lst_eq
  refine .lst (by rw [dele_ne fun z => hv (by rw [z])]; exact e) ?_
  have : ∀ {xs : List V} {hs : List Hp'}, Paired (Rp G) xs (hs.map tI) → Paired (Rp (dele G x)) xs (hs.map tI) := fun {xs hs} => by
    induction hs generalizing xs with
    | nil => intro z; cases z; exact .nil
    | cons h hs ih =>
      intro z
      cases z with
      | cons r t => exact .cons (rpI_dele hx ht r) (ih t)
  exact this pr
/-- a list of heaps is not the list of levels -/
theorem hs_ne_lvs {G : Hp} {a : Addr} {ls : List V} {N : Net} {g : Hp'} {n : Nat} (ha : G a = some (.lst ls)) (pl : Paired (Rp G) ls (lvsD N g n)) {v : V} {hs : List Hp'} (r : Rp G v (hsD hs)) : v ≠ .ref a := fun e => by
  subst e
  obtain ⟨p, xs, e, e2, pr⟩ := r.lst_eq
  obtain rfl : a = p := by cases e; rfl
  rw [ha] at e2
  have e3 := Option.some.inj e2
  have e4 : ls = xs := by cases e3; rfl
  subst e4
  have h1 : (lvsD N g n)[0]? = some (hsD (lev N g 0)) := by
    unfold lvsD
    rw [List.getElem?_map, List.getElem?_range (by omega)]
    rfl
  obtain ⟨u, hu, ru⟩ := paired_get' pl h1
  obtain ⟨d, hd, rd⟩ := Paired.getL pr hu
  rw [List.getElem?_map] at hd
  obtain ⟨h, _, rfl⟩ := Option.map_eq_some_iff.mp hd
  obtain ⟨q1, ys, rfl, e5, _⟩ := ru.lst_eq
  obtain ⟨q2, e6, e7⟩ := rd.tI_rd
  cases e6
  rcases e7 with e7 | ⟨_, e7⟩
  · rw [e5] at e7
    cases e7
  · rw [e5] at e7
    cases e7
theorem more_out {N : Net} {fr : List Hp'} : out2 fr.length N.firings.length (fun i j => ((N.firings[j]?).map fun f => tI (befo N (fr.getD i []) f)).getD .none) = (moreL N fr).map tI := by
  have row : ∀ h : Hp', (List.range N.firings.length).map (fun j => ((N.firings[j]?).map fun f => tI (befo N h f)).getD .none) = (N.firings.map (befo N h)).map tI := fun h => by
    apply List.ext_getElem?
    intro k
    rw [List.getElem?_map, List.map_map, List.getElem?_map]
    by_cases hk : k < N.firings.length
    · rw [List.getElem?_range hk, List.getElem?_eq_getElem hk]
      simp [hk]
    · rw [List.getElem?_eq_none (l := List.range _) (by simpa using hk), List.getElem?_eq_none (l := N.firings) (by omega)]
      rfl
  unfold out2 moreL
  rw [List.map_flatMap]
  have e : ∀ l : List Hp', (List.range l.length).flatMap (fun i => (List.range N.firings.length).map (fun j => ((N.firings[j]?).map fun f => tI (befo N (l.getD i []) f)).getD .none)) = l.flatMap fun h => (N.firings.map (befo N h)).map tI := fun l => by
    induction l with
    | nil => rfl
    | cons h l ih =>
      rw [List.length_cons, List.range_succ_eq_map, List.flatMap_cons, List.flatMap_map, List.flatMap_cons, ← ih]
      congr 1
      exact row h
  exact e fr
theorem more_len {N : Net} (W : Wf N) {fr : List Hp'} : (moreL N fr).length ≤ fr.length * 60 := by
  unfold moreL
  induction fr with
  | nil => simp
  | cons h l ih =>
    rw [List.flatMap_cons, List.length_append, List.length_map, List.length_cons]
    have := W.flen
    omega
def GoX (K : PySem.W.Frag) (N : Net) (g : Hp') (n : Nat) : Sp := fun vs H Q E => ∃ G x dx a vl vf ls, vs = [.ref x] ∧ Ex G H ∧ LS K N g n G H x dx a vl vf ls ∧
  (∀ G' H' vf' ls', Stp [x, a] G H G' H' → (lev N g n).length ≤ 25 → n + 1 ≤ 25 → LS K N g (n + 1) G' H' x dx a vl vf' ls' → Q .non H') ∧ ∀ d H', Stp [] G H G H' → E (.ref (cTG K)) (some d) H'
theorem ok_lv_go {N : Net} {g : Hp'} {n : Nat} (E : Env K mg) (W : Wf N) (hg : Hip N g) (hl : (lev N g n).length ≤ 2000) (hn : n ≤ 30) : MetX P w K mg base 4 (cLv K) "go_on" (GoX K N g n) [] := by
  obtain ⟨fd, F⟩ := E.f_Levels_go_on
  refine ⟨_, fd, _, [], E.c_Levels, E.m_Levels_go_on, fn_x F sc_Levels_go_on (fun vs H Q E ⟨_, _, _, _, _, _, _, e, _⟩ => by rw [e]; rfl) fun cdv A outer s H vs Q E' hr ⟨G, x, dx, a, vl, vf, ls, e, ex, L, k, kE⟩ => ?_, bd_Levels_go_on F, .nil⟩
  subst e
  have nml : N.names.length ≤ 40 := by rw [names_len]; exact W.len
  have lk' := L.lk
  obtain ⟨ql, ldx, lfs, rfl, hql, lv3, lv4, lv5, lv6, lv7, lv8, rfl, lp, lb, lnm, _⟩ := lk'
  let U := LS.U G x a (.ins (cLv K) dx (flL (.ref ql) a vf)) (.lst ls)
  have eU : Ex G U := L.eU
  have eH : Ex U H := L.eH ex
  have Ux : U x = some (.ins (cLv K) dx (flL (.ref ql) a vf)) := LS.ux
  have Ua : U a = some (.lst ls) := LS.ua L.xa
  have plU := Rp.monoAll eU _ _ L.pl
  have lls : ls.length = n + 1 := by rw [Paired.length L.pl, lvsD_len]
  -- levels[-1], anywhere above U
  have lastE : ∀ {X : Cx} {σ : L2.St} {G4 : Hp} {o bx : Expr} {apos ipos : Pos} (hK : X.K = K) (eg : Ex U G4) (ho : EE X o σ G4 (RV (.ref x))) (hb : attributeBase o "levels" X.env (eval o X.env) = eval o X.env) (hbx : ED X bx σ G4 (.int (-1))) (hs : PlainIx bx), ED X (.Subscript (.Attribute o "levels" apos) bx ipos) σ G4 (hsD (lev N g n)) := fun hK eg ho hb hbx hs =>
    ed_ixL (ds := lvsD N g n) (i := -1) (ee_fld (R := RD (.list (lvsD N g n))) ho (eg _ _ Ux) (by rw [hK]; exact E.c_Levels) (by rw [hK]; exact E.n_Levels_levels) rfl (.lst (eg _ _ Ua) (Rp.monoAll eg _ _ plU)) hb) hbx (lvsD_last N g n) hs
  refine ws_if (G := U) (t := decide ((25 : Int) < (lev N g n).length) || decide ((25 : Int) < (n + 1 : Nat))) (et_or (et_gt (i := (lev N g n).length) (ee_is (ed_lenL (lastE rfl (Ex.refl _) (ee_var (i := 0) rfl rfl) rfl (ed_neg ed_int) (by intro _ _; rfl)) E.b_len) (by rw [List.length_map])) (ee_fld (R := RD (.int 25)) (ee_var (i := 0) rfl rfl) Ux E.c_Levels E.n_Levels_most rfl (.int _)))
    fun _ => et_gt (i := (n + 1 : Nat)) (ee_is (ed_lenV (ee_fld (R := RV (.ref a)) (ee_var (i := 0) rfl rfl) Ux E.c_Levels E.n_Levels_levels rfl rfl) Ua E.b_len) (by rw [lls])) (ee_fld (R := RD (.int 25)) (ee_var (i := 0) rfl rfl) Ux E.c_Levels E.n_Levels_most rfl (.int _))) eH fun H1 s1 => ?_
  by_cases hc : (lev N g n).length ≤ 25 ∧ n + 1 ≤ 25
  · have ec : (decide ((25 : Int) < (lev N g n).length) || decide ((25 : Int) < (n + 1 : Nat))) = false := by
      rw [Bool.or_eq_false_iff]
      exact ⟨decide_eq_false (by omega), decide_eq_false (by omega)⟩
    rw [ec]
    refine iteF (ws_nil ?_)
    have frl : (fre N g n).length ≤ 25 := Nat.le_trans fre_len hc.1
    have rfU := Rp.mono eU _ _ L.rf
    have fipU : ∀ h ∈ fre N g n, Hip N h := fun h hh => lev_hip W hg n h (fre_sub hh)
    -- more
    refine ws_setLc2 (i := 1) (n := (fre N g n).length) (n1 := N.firings.length) (Y := YD ((fre N g n).map tI)) (Y1 := fun _ => YD (N.firings.map fun f : Fir => PyData.str f.name)) (own := [("heap", 2), ("name", 3)]) (vs1 := [3]) rfl sc_Levels_go_on.nd
      (ei_listM (ee_fld (R := RD (hsD (fre N g n))) (ee_var (i := 0) rfl rfl) Ux E.c_Levels E.n_Levels_fresh rfl rfU)) (blkOk_by (N := N_Levels_go_on) (sc := defScope s_Levels_go_on) (by decide +kernel)) (by simp)
      (fun i j => ((N.firings[j]?).map fun f => tI (befo N ((fre N g n).getD i []) f)).getD .none) (fun i y G' eg hi ⟨d, hd, rd⟩ => ?_) (by have := W.flen; exact Nat.le_trans (Nat.mul_le_mul frl this) (by decide)) s1.i fun p vs G2 H2 s2 hp w2 pv => ?_
    · rw [List.getElem?_map] at hd
      obtain ⟨h, hh, rfl⟩ := Option.map_eq_some_iff.mp hd
      have eh : (fre N g n).getD i [] = h := by rw [List.getD_eq_getElem?_getD, hh]; rfl
      refine ⟨_, ?_, fun s H C cl fp => ⟨eg_name (i := 2) sc_Levels_go_on.nd, ei_listM (ee_fld (R := RD (.list (N.firings.map fun f : Fir => PyData.str f.name))) (ee_fld (R := RV (.ref ql)) (ee_var (i := 0) rfl rfl) (eg _ _ Ux) E.c_Levels E.n_Levels_look rfl rfl) (eg _ _ (eU _ _ hql)) E.c_Look E.n_Look_names rfl (Rp.mono (eU.trans eg) _ _ lnm)), fun j z G'' eg2 hj ⟨d', hd', rd'⟩ => ?_⟩⟩
      · rfl
      · rw [List.getElem?_map] at hd'
        obtain ⟨f, hf, rfl⟩ := Option.map_eq_some_iff.mp hd'
        refine ⟨_, ?_, fun s H C cl fp => ⟨eg_name (i := 3) sc_Levels_go_on.nd, ?_⟩⟩
        · rfl
        · rw [hf, eh]
          exact ee_cal (ok_before E W (List.mem_of_getElem? hf) (fipU h (List.mem_of_getElem? hh))) hr (ea_cons (ee_fld (R := LookR K N) (ee_var (i := 0) rfl rfl) ((eg.trans eg2) _ _ Ux) E.c_Levels E.n_Levels_look rfl (MonoR.mono _ _ _ (eU.trans (eg.trans eg2)) L.lk)) (ea_cons (ee_var (i := 2) rfl (Rp.mono eg2 _ _ rd)) (ea1 (ee_var (i := 3) rfl rd'))))
    rw [more_out] at pv
    have s02 := s1.trans s2
    have s03 := s02.frz w2.h (s1.fresh hp)
    have eU3 := s03.g
    have rmore : Rp (upd G2 p (.lst vs)) (.ref p) (hsD (moreL N (fre N g n))) := .lst upd_same (Rp.monoAll w2.exG _ _ pv)
    have mlen := more_len W (fr := fre N g n)
    have allhip : ∀ h ∈ lev N g n ++ moreL N (fre N g n), Hip N h := fun h hh => by
      rcases List.mem_append.mp hh with z | z
      · exact lev_hip W hg n h z
      · obtain ⟨y, hy, f, hf, rfl⟩ := mem_more.mp z
        exact befo_hip W (fipU y hy) hf
    have O : OfLen N.names.length (lev N g n ++ moreL N (fre N g n)) := ⟨fun h hh => (allhip h hh).len, by rw [names_len]; exact List.length_pos_iff.mpr W.ne, by omega, by rw [List.length_append]; omega⟩
    have lnext : lev N g (n + 1) = leastL (lev N g n ++ moreL N (fre N g n)) := rfl
    have nlen : (lev N g (n + 1)).length ≤ 2000 := Nat.le_trans (by rw [lnext]; exact leastL_len) O.few
    -- level
    refine ws_set (i := 4) (R := RD (hsD (lev N g (n + 1)))) sc_Levels_go_on.nd (ee_cal (ok_least E O) hr (ea1 (ee_is (ed_addL (lastE rfl eU3 (ee_var (i := 0) rfl rfl) rfl (ed_neg ed_int) (by intro _ _; rfl)) (ee_var (i := 1) rfl rmore) (by rw [List.length_map, List.length_map]; omega)) (by rw [List.map_append])))) s03.i fun v4 G4 H4 s4 r4 => ?_
    have s04 := s03.trans s4
    have e4 := s04.g
    -- self.fresh
    refine ws_fldH (R := RD (hsD (fre N g (n + 1)))) ?_ (ee_var (i := 0) rfl rfl) (s04.ex _ _ L.ox.h) E.c_Levels E.n_Levels_fresh (by simp) s04.i fun v5 G5 H5 s5 r5 => ?_
    · have efr : fre N g (n + 1) = (lev N g (n + 1)).filter fun h => !decide (h ∈ lev N g n) := rfl
      rw [efr, hsD, ← fm_if]
      refine ed_lcM (l := lev N g (n + 1)) (src := tI) (own := [("heap", 2)]) rfl sc_Levels_go_on.nd (ei_list (ee_var (i := 4) rfl r4)) (blkOk_by (N := N_Levels_go_on) (sc := defScope s_Levels_go_on) (by decide +kernel)) _ (fun i h y G' eg hh ry => Turn1.test ⟨_, ?_, fun s H C cl fp => ⟨eg_name (i := 2) sc_Levels_go_on.nd, ?_, fun _ => ?_⟩⟩) (by omega)
      · rfl
      · exact ets_one (et_is (et_notInD hr (ee_var (i := 2) rfl ry) (lastE rfl (e4.trans eg) (ee_var (i := 0) rfl rfl) rfl (ed_neg ed_int) (by intro _ _; rfl)) (shp_tI h).of (shp_hs _).of (by rfl)) (by rw [any_tI]))
      · exact ee_var (i := 2) rfl ry
    -- what is known without the object, the list of levels
    have s05 := s04.trans s5
    have own1 : Own (upd G a (.lst ls)) H x (.ins (cLv K) dx (flL (.ref ql) a vf)) := L.ox.frz L.xa
    have d1 : Stp [] (upd G a (.lst ls)) H (dele G5 x) H5 := Stp.del own1 s05
    have d2 : Stp [] G H (dele (dele G5 x) a) H5 := Stp.del L.oa d1
    have x5 : G5 x = some (.ins (cLv K) dx (flL (.ref ql) a vf)) := s05.g _ _ Ux
    have a5 : G5 a = some (.lst ls) := s05.g _ _ Ua
    have a5' : dele G5 x a = some (.lst ls) := by rw [dele_ne L.xa.symm]; exact a5
    have pl5 : Paired (Rp G5) ls (lvsD N g n) := Rp.monoAll s05.g _ _ plU
    have vx : ∀ {v : V} {hs : List Hp'}, Rp G5 v (hsD hs) → v ≠ .ref x := fun {v hs} r e => by
      subst e
      obtain ⟨q, ys, e, e2, _⟩ := r.lst_eq
      cases e
      rw [x5] at e2
      cases e2
    have low : ∀ {v : V} {hs : List Hp'}, Rp G5 v (hsD hs) → Rp (dele (dele G5 x) a) v (hsD hs) := fun {v hs} r =>
      rpHs_dele a5' ⟨(by intro _ h; cases h), (by intro _ _ h; cases h)⟩ (hs_ne_lvs a5 pl5 r) (rpHs_dele x5 ⟨(by intro _ h; cases h), (by intro _ _ h; cases h)⟩ (vx r) r)
    have r4' := low (Rp.mono s5.g _ _ r4)
    have r5' := low r5
    have gx : dele (dele G5 x) a x = none := by rw [dele_ne L.xa, dele_same]
    have ga : dele (dele G5 x) a a = none := dele_same
    have hx5 : H5 x = some (.ins (cLv K) dx (flL (.ref ql) a vf)) := s05.ex _ _ L.ox.h
    have ha5 : H5 a = some (.lst ls) := s05.ex _ _ L.oa.h
    have st6 := (d2.any (S := [x, a])).mut (o := .ins (cLv K) dx (flL (.ref ql) a v5)) gx (.inr (by simp))
    have ed2 := d2.g
    have L6 : LS K N g n (dele (dele G5 x) a) (upd H5 x (.ins (cLv K) dx (flL (.ref ql) a v5))) x dx a (.ref ql) v5 ls → True := fun _ => trivial
    have ox6 : Own (dele (dele G5 x) a) (upd H5 x (.ins (cLv K) dx (flL (.ref ql) a v5))) x (.ins (cLv K) dx (flL (.ref ql) a v5)) := ⟨upd_same, gx⟩
    have oa6 : Own (dele (dele G5 x) a) (upd H5 x (.ins (cLv K) dx (flL (.ref ql) a v5))) a (.lst ls) := ⟨by rw [upd_ne L.xa.symm]; exact ha5, ga⟩
    have lk6 : LookR K N (.ref ql) (dele (dele G5 x) a) := MonoR.mono _ _ _ ed2 L.lk
    -- append
    refine ws_appendH (G := upd (dele (dele G5 x) a) x (.ins (cLv K) dx (flL (.ref ql) a v5))) (R := RV v4) (ee_fld (R := RV (.ref a)) (ee_var (i := 0) rfl rfl) upd_same E.c_Levels E.n_Levels_levels rfl rfl) (ee_var (i := 4) rfl rfl) (ox6.exU st6.i) oa6.h (by omega) fun v7 G7 H7 s7 r7 => ?_
    rw [show v7 = v4 from r7]
    have s7' := Stp.weak ox6.exG s7
    have st7 := st6.trans s7'.any
    have ox7 := ox6.step0 s7'
    have oa7 := oa6.step0 s7'
    refine ws_nil (k (dele (dele G5 x) a) _ v5 _ (st7.mut (o := .lst (ls ++ [v4])) oa7.g (.inr (by simp))) hc.1 hc.2 ⟨ox7.other L.xa, oa7.upd, ?_, r5', lk6, L.xa⟩)
    rw [lvsD_succ]
    exact Paired.app (Rp.monoAll ed2 _ _ L.pl) (.cons r4' .nil)
  · have ec : (decide ((25 : Int) < (lev N g n).length) || decide ((25 : Int) < (n + 1 : Nat))) = true := by
      rw [Bool.or_eq_true, decide_eq_true_eq, decide_eq_true_eq]
      omega
    rw [ec]
    refine iteT (ws_raiseT (m := 25) E (ee_fld (R := RD (.int 25)) (ee_var (i := 0) rfl rfl) Ux E.c_Levels E.n_Levels_most rfl (.int _)) s1.i hr fun d H2 s2 => kE d H2 (Stp.weak eU (s1.trans s2)))
end TK

/-! part F23 -/
set_option Elab.async false
set_option linter.all false
set_option maxRecDepth 100000
set_option maxHeartbeats 4000000
namespace PG
open PySem PySem.Spec PyProof.Rows L2
section
variable {X : Cx} {σ : L2.St} {G H : Hp} {elt tg iter : Expr} {ifs : List Expr} {scope : Scope} {own : List (Str × Nat)} {pos : Pos} {D : Ends} {rest : List Stmt}
theorem ws_setLcM {α : Type} {l : List α} {src : α → PyData} {i : Nat} {y : Str} {py spos : Pos} (hc : X.calm = true) (hN : X.N.Nodup) (hi : EI X tg iter σ G (l.map src).length (YD (l.map src))) (ok : BlkOk X.N X.env.scope scope own) (f : α → Option PyData)
    (turn : ∀ (j : Nat) (z : α) (x : V) (G' : Hp), Ex G G' → l[j]? = some z → Rp G' x (src z) → Turn1 X σ tg ifs elt scope (own.map (·.2)) x G' ((f z).map RD)) (hn : l.length ≤ 100000) (ex : Ex G H)
    (k : ∀ p vs G' H', Stp [] G H G' H' → H p = none → Own G' H' p (.lst vs) → Paired (Rp G') vs (l.filterMap f) → WS X rest D (σ.set i (some (.ref p))) H')
    (hy : X.N[i]? = some y := by rfl) (hyl : X.env.scope.names.lookup y = some .local := by rfl) (hsw : swapsWith (.ListComp elt [⟨tg, iter, ifs, 0⟩] scope pos) (some (.Name y py)) spos.line X.env = pure true := by rfl) (hs : ∀ x, foldedSetIterable iter X.env x = pure x := by intro _; rfl) :
    WS X (.Assign [.Name y py] (.ListComp elt [⟨tg, iter, ifs, 0⟩] scope pos) spos :: rest) D σ H := by
  rw [List.length_map] at hi
  refine ws_setLc hc hN hi ok (fun i => (l[i]?.bind f).map RD) monoRD (fun i x G' eg hlt y => ?_) hn ex (fun p vs G' H' s hp w r => ?_) hy hyl hsw hs
  · obtain ⟨d, hd, r⟩ := y
    rw [List.getElem?_map] at hd
    obtain ⟨z, hz, rfl⟩ := Option.map_eq_some_iff.mp hd
    rw [hz]
    exact turn i z x G' eg hz r
  · have r2 := lcD_of r
    rw [range_fm] at r2
    exact k p vs G' H' s hp w r2
end
end PG
namespace TK
open PySem PySem.Spec PyProof.Rows L2 PG
variable {P : Program} {w : World} {K : PySem.W.Frag} {mg : Str → Option Value} {base : Heap}
theorem ei_listE {X : Cx} {tg l : Expr} {σ : L2.St} {G : Hp} {ds : List PyData} {n : Nat} (ha : ED X l σ G (.list ds)) (hn : ds.length = n) : EI X tg l σ G n (YD ds) := hn ▸ ei_list ha
theorem lvsD_drop (N : Net) (g : Hp') (n : Nat) : (lvsD N g n).dropLast.reverse = (List.range n).map fun i => hsD (lev N g (n - 1 - i)) := by
  have e : (lvsD N g n).dropLast = (List.range n).map fun j => hsD (lev N g j) := by
    unfold lvsD
    rw [List.range_succ, List.map_append]
    exact List.dropLast_concat
  rw [e, ← List.map_reverse, ← PySem.W.krv_range, List.map_map]
  rfl
theorem ok_first_row {N : Net} {g : Hp'} {n : Nat} (E : Env K mg) (W : Wf N) (hg : Hip N g) (hl : ∀ j, j ≤ n → (lev N g j).length ≤ 2000) (hn : n ≤ 1000) (hc : covd N g N.begin n = true) (h0 : ∀ j, j < n → covd N g N.begin j = false) :
    C8.Met P w K mg base 3 (cLv K) "first_row" (Pr (ACons (LevA K N g n) ANil) RAny) [] :=
  ml_Levels_first_row E fun cdv A outer s H vs Q E' hr G ex as k => by
    obtain ⟨v0, rfl, x, dx, a, vl, vf, ls, rfl, hx, ha, pl, lk⟩ := ACons.one as
    have lk' := lk
    obtain ⟨ql, ldx, lfs, rfl, hql, lv3, lv4, lv5, lv6, lv7, lv8, rfl, lp, lb, _⟩ := lk'
    refine ws_set (i := 1) (R := RD (tI N.begin)) sc_Levels_first_row.nd (ee_fld (R := RD (tI N.begin)) (ee_fld (R := RV (.ref ql)) (ee_var (i := 0) rfl rfl) hx E.c_Levels E.n_Levels_look rfl rfl) hql E.c_Look E.n_Look_begin rfl lb) ex fun vh G1 H1 s1 rh => ?_
    refine ws_setN (i := 2) sc_Levels_first_row.nd en_lst0 s1.i fun t o G2 H2 s2 ht w2 ho => ?_
    subst ho
    have s02 := s1.trans s2
    have ht0 := s1.fresh ht
    have hx2 := s02.g _ _ hx
    refine ws_forS (Y := YD ((List.range n).map fun i => hsD (lev N g (n - 1 - i)))) (n := n) ?_ PassesOwn.never rfl s02
      (fun i σ' G' H' => ∃ v3 v4 v5 vh h vs, σ' = [some (.ref x), some vh, some (.ref t), v3, v4, v5] ∧ Rp G' vh (tI h) ∧ Hip N h ∧ covd N g h (n - i) = true ∧ (∀ j, j < n - i → covd N g h j = false) ∧ Own G' H' t (.lst vs) ∧ vs.length = i)
      (fun G3 H3 s3 => ⟨_, _, _, vh, N.begin, [], rfl, Rp.mono (s2.g.trans s3.g) _ _ rh, begin_hip W, hc, h0, w2.step0 s3, rfl⟩) ?_ ?_
    · exact ei_listE (ee_is (ed_back (ds := lvsD N g n) (ee_fld (R := RD (.list (lvsD N g n))) (ee_var (i := 0) rfl rfl) hx2 E.c_Levels E.n_Levels_levels rfl (.lst (s02.g _ _ ha) (Rp.monoAll s02.g _ _ pl))) (by rw [lvsD_len]; omega)) (by rw [lvsD_drop])) (by simp)
    · rintro G1' eg i σ' G' H' G3 H3 y hi e1 s3 ⟨v3, v4, v5, vh, h, vs, rfl, rvh, hip, hcv, hno, own, hvs⟩ s4 ⟨d, hd, rd⟩
      rw [List.getElem?_map, List.getElem?_range hi] at hd
      obtain rfl := Option.some.inj hd
      have eG := s02.g.trans (eg.trans e1)
      have own3 := own.step0 s4
      have rvh3 := Rp.mono s4.g _ _ rvh
      have hl' := hl (n - 1 - i) (by omega)
      obtain ⟨f0, hf0, c0, v0⟩ := covd_step (n := n - 1 - i) W hg hip (by rw [show n - 1 - i + 1 = n - i by omega]; exact hcv) (hno _ (by omega))
      have O := ofLev W hg hl'
      have lk3 := MonoR.mono (R := LookR K N) _ _ _ eG lk
      have atL : ∀ {X : Cx} {σ : L2.St} {G4 : Hp} {o : Expr} {apos : Pos} (hK : X.K = K) (eg : Ex G3 G4) (ho : EE X o σ G4 (RV (.ref x))) (hb : attributeBase o "look" X.env (eval o X.env) = eval o X.env), EE X (.Attribute o "look" apos) σ G4 (RV (.ref ql)) := fun hK eg ho hb =>
        ee_fld (R := RV (.ref ql)) ho (eg _ _ (eG _ _ hx)) (by rw [hK]; exact E.c_Levels) (by rw [hK]; exact E.n_Levels_look) rfl rfl hb
      refine wg (eg_name (i := 3) sc_Levels_first_row.nd) s3.i fun H4 s5 => ?_
      have own4 := own3.step0 s5
      have s05 := s3.trans s5
      refine ws_setLcM (i := 4) (l := N.firings.filter (canF N h)) (src := fun f : Fir => PyData.str f.name) (own := [("name", 5)]) rfl sc_Levels_first_row.nd (ei_list (ee_mcal (ok_can E W hip.len) hr (atL rfl (Ex.refl _) (ee_var (i := 0) rfl rfl) rfl) (eG _ _ hql) rfl lk3 (ea1 (ee_var (i := 1) rfl rvh3)))) (blkOk_by (N := N_Levels_first_row) (sc := defScope s_Levels_first_row) (by decide +kernel))
        (fun f => if covd N g (fire N h f) (n - 1 - i) = true then some (PyData.str f.name) else none) (fun j f z G' eg' hf rz => Turn1.test ⟨_, ?_, fun s H C cl fp => ⟨eg_name (i := 5) sc_Levels_first_row.nd, ?_, fun _ => ?_⟩⟩) (by have := W.flen; exact Nat.le_trans (List.length_filter_le ..) (by omega)) s05.i fun p6 vs6 G5 H5 s6 hp6 w6 pv6 => ?_
      · rfl
      · have hfm : f ∈ N.firings := (List.mem_filter.mp (List.mem_of_getElem? hf)).1
        exact ets_one (et_val (ee_cal (ok_over_some E (fire_length hip.len) O) hr (ea_cons (ee_mcal (ok_behind E W hfm hip.len) hr (atL rfl eg' (ee_var (i := 0) rfl rfl) rfl) (eg' _ _ (eG _ _ hql)) rfl (MonoR.mono _ _ _ eg' lk3) (ea_cons (ee_var (i := 1) rfl (Rp.mono eg' _ _ rvh3)) (ea1 (ee_var (i := 5) rfl rz)))) (ea1 (ee_var (i := 3) rfl (Rp.mono eg' _ _ rd))))))
      · exact ee_var (i := 5) rfl rz
      rw [fm_if] at pv6
      have s6' := (Stp.refl s05.i).trans s6 |>.frz w6.h hp6
      have s06 := s05.trans s6'
      have own5 : Own (upd G5 p6 (.lst vs6)) H5 t (.lst vs) := own4.step0 s6'
      have r6 : Rp (upd G5 p6 (.lst vs6)) (.ref p6) (.list (((N.firings.filter (canF N h)).filter fun f => covd N g (fire N h f) (n - 1 - i)).map fun f => .str f.name)) := .lst upd_same (Rp.monoAll w6.exG _ _ pv6)
      -- the first of them
      obtain ⟨f, fs, efs⟩ : ∃ f fs, ((N.firings.filter (canF N h)).filter fun f => covd N g (fire N h f) (n - 1 - i)) = f :: fs := by
        cases hq : ((N.firings.filter (canF N h)).filter fun f => covd N g (fire N h f) (n - 1 - i)) with
        | nil =>
          have : f0 ∈ ((N.firings.filter (canF N h)).filter fun f => covd N g (fire N h f) (n - 1 - i)) := List.mem_filter.mpr ⟨List.mem_filter.mpr ⟨hf0, c0⟩, v0⟩
          rw [hq] at this
          cases this
        | cons f fs => exact ⟨f, fs, rfl⟩
      have hf : f ∈ ((N.firings.filter (canF N h)).filter fun f => covd N g (fire N h f) (n - 1 - i)) := by rw [efs]; exact List.mem_cons_self ..
      obtain ⟨hf1, cv⟩ := List.mem_filter.mp hf
      obtain ⟨hfm, cf⟩ := List.mem_filter.mp hf1
      rw [efs, List.map_cons] at r6
      refine ws_append (cm := .Name "x" ⟨0, 0, 0, 0⟩) (R := RD (.str f.name)) (ee_var (i := 2) rfl rfl) own5 (by omega) (ed_ixL (i := 0) (ee_var (i := 4) rfl r6) ed_int atI_zero) s06.i fun v7 G6 H6 s7 r7 w7 => ?_
      have s07 := (s06.trans s7).mut (o := .lst (vs ++ [v7])) w7.g (.inl ht0)
      have own7 := w7.upd (o' := .lst (vs ++ [v7]))
      have e37 := s6'.g.trans s7.g
      refine ws_set (i := 1) (R := RD (tI (fire N h f))) sc_Levels_first_row.nd (ee_mcal (ok_behind E W hfm hip.len) hr (atL rfl e37 (ee_var (i := 0) rfl rfl) rfl) (e37 _ _ (eG _ _ hql)) rfl (MonoR.mono _ _ _ e37 lk3) (ea_cons (ee_var (i := 1) rfl (Rp.mono e37 _ _ rvh3)) (ea1 (ed_ixL (i := 0) (ee_var (i := 4) rfl (Rp.mono s7.g _ _ r6)) ed_int atI_zero)))) s07.i fun v8 G7 H7 s8 r8 => ?_
      refine ws_nil ⟨G7, e1.trans (e37.trans s8.g), s07.trans s8, _, _, _, v8, fire N h f, _, rfl, r8, fire_hip W hip hfm cf, ?_, fun j hj => ?_, own7.step0 s8, by rw [List.length_append, hvs]; rfl⟩
      · rw [show n - (i + 1) = n - 1 - i by omega]
        exact cv
      · cases hz : covd N g (fire N h f) j with
        | false => rfl
        | true =>
          have := covd_fire W hg hip hfm cf hz
          rw [hno (j + 1) (by omega)] at this
          cases this
    · rintro σ' G' H' e' s' ⟨v3, v4, v5, vh', h', vs', rfl, _, _, _, _, own, _⟩
      exact ws_ret (R := RAny) (EE.any (ee_var (i := 2) (R := RV (.ref t)) rfl rfl)) s'.i fun v G5 H5 s5 r5 => k v G5 H5 (s'.trans s5) r5
end TK

/-! part F24 -/
set_option Elab.async false
set_option linter.all false
set_option maxRecDepth 100000
set_option maxHeartbeats 4000000
namespace TK
open PySem PySem.Spec PyProof.Rows L2 PG
variable {P : Program} {w : World} {K : PySem.W.Frag} {mg : Str → Option Value} {base : Heap}
/-- how the search backward ends: b: the goal is come to -/
def CovEnd (N : Net) (g : Hp') (b : Bool) : Prop := ∃ n, if b = true then covd N g N.begin n = true else covd N g N.begin n = false ∧ fre N g n = []
def covW (b : Bool) : Str := if b = true then "row" else "never"
def CovR (b : Bool) : V → Hp → Prop := fun v G => ∃ q u1 u2, v = .ref q ∧ G q = some (.tup [u1, u2]) ∧ Rp G u1 (.str (covW b))
instance (b : Bool) : MonoR (CovR b) := ⟨fun _ _ _ e ⟨q, u1, u2, h1, h2, h3⟩ => ⟨q, u1, u2, h1, e _ _ h2, Rp.mono e _ _ h3⟩⟩
/-- what a def of one net promises that may let TooGreat out -/
def CovX (K : PySem.W.Frag) (N : Net) (g : Hp') (A : List V → Hp → Prop) : Sp := fun vs H Q E => ∃ G, Ex G H ∧ A vs G ∧ (∀ v G' H' b, CovEnd N g b → Stp [] G H G' H' → CovR b v G' → Q v H') ∧ ∀ d G' H', Stp [] G H G' H' → E (.ref (cTG K)) (some d) H'
abbrev CovA (K : PySem.W.Frag) (N : Net) (g : Hp') : List V → Hp → Prop := ACons (LookR K N) (ACons (RD (tI g)) (ACons (RD (.int 25)) ANil))
theorem ok_covered_by {N : Net} {g : Hp'} (E : Env K mg) (W : Wf N) (hg : Hip N g) : CalX P w K mg base 5 "covered_by" (CovX K N g (CovA K N g)) [] := by
  obtain ⟨fd, F⟩ := E.f_covered_by
  refine ⟨_, fd, _, [], fn_x F sc_covered_by (fun vs H Q E ⟨G, _, a, _⟩ => LenA.len (A := CovA K N g) vs G a) fun cdv A outer s H vs Q E' hr ⟨G, ex, as, k, kE⟩ => ?_, E.g_covered_by, F.kp, bd_covered_by F, .nil⟩
  obtain ⟨v0, v1, v2, rfl, lk, rg, r2⟩ := ACons.three as
  obtain rfl := Rp.int_eq r2
  refine ws_setM (i := 3) (A := CovA K N g) sc_covered_by.nd (ok_Levels_init (N := N) (g := g) E) hr (ea_cons (ee_var (i := 0) rfl lk) (ea_cons (ee_var (i := 1) rfl rg) (ea1 (ee_var (i := 2) rfl (.int _))))) ex fun us G1 H1 x dx s1 hx w1 as1 => ?_
  obtain ⟨vl, vg, vm, rfl, lk1, rg1, rm⟩ := ACons.three as1
  obtain rfl := Rp.int_eq rm
  refine ⟨x, dx, vl, vg, G1, rfl, s1.i, w1, lk1, rg1, fun G2 H2 a vf ls s2 L2' ha => ⟨rfl, ?_⟩⟩
  have ha0 : H a = none := s1.fresh ha
  have s02 : Stp [] G H G2 H2 := s1.locs (S' := [x]) (fun y hy => .inr (by
    obtain rfl : y = x := by simpa using hy
    exact hx)) s2
  have LH : ∀ {n : Nat} {G H : Hp} {vf : V} {ls : List V}, LS K N g n G H x dx a vl vf ls → True := fun _ => trivial
  refine ws_whileS xx_own s02 (fun j σ' G' H' => ∃ n vf ls, j = 40 - n ∧ σ' = [some v0, some v1, some (.int 25), some (.ref x)] ∧ LS K N g n G' H' x dx a vl vf ls ∧ n ≤ 25 ∧ (∀ i, i ≤ n → (lev N g i).length ≤ 2000) ∧ ∀ i, i < n → covd N g N.begin i = false) 40
    ⟨0, vf, ls, rfl, rfl, L2', by omega, fun i hi => by rw [show i = 0 by omega]; exact (show ([g] : List Hp').length ≤ 2000 by simp), fun i hi => absurd hi (Nat.not_lt_zero _)⟩ ?_
  rintro j σ' G3 H3 e3 s3 ⟨n, vf, ls, rfl, rfl, L3, hn, hl, h0⟩
  have eU := L3.eU
  have eH := L3.eH s3.i
  refine ⟨!comes N g n, _, eH, et_not (et_val (ee_mcal0 (ok_is_come_to (n := n) E W hg (hl n (Nat.le_refl _))) hr (ee_var (i := 3) (v := .ref x) rfl rfl) LS.ux rfl L3.lev)), fun H4 s4 => ?_⟩
  have s4' := Stp.weak eU s4
  have L4 := L3.step s4'
  have s04 := s3.trans s4'
  -- both known for good
  have fz1 := s04.frz L4.oa.h ha0
  have fz2 := fz1.frz L4.ox.h hx
  have eU4 := L4.eU
  cases hc : comes N g n with
  | true =>
    refine iteF ?_
    refine ws_ret (R := CovR true) (ee_tup (Rs := ACons (RD (.str "row")) (ACons RAny ANil)) (ea_cons ed_str (ea1 (ee_mcal0 (ok_first_row E W hg hl (by omega) hc h0) hr (ee_var (i := 3) (v := .ref x) rfl rfl) LS.ux rfl L4.lev))) (by decide) (fun vs G' a => LenA.len _ _ a) fun vs G' p eg a hp => ?_) fz2.i fun v G5 H5 s5 r5 => k v G5 H5 true ⟨n, hc⟩ (fz2.trans s5) r5
    obtain ⟨u1, u2, rfl, r1, _⟩ := ACons.two a
    exact ⟨p, u1, u2, rfl, upd_same, Rp.mono (Ex.new hp) _ _ r1⟩
  | false =>
    refine iteT ?_
    have efr : PyData.eqv (hsD (fre N g n)) (.list []) = decide (fre N g n = []) := by
      cases fre N g n with
      | nil => rfl
      | cons h l => rw [hsD, List.map_cons, PyData.eqv, PyData.eqvAll]; simp
    refine ws_if (t := decide (fre N g n = [])) (et_is (et_eq hr (ee_fld (R := RD (hsD (fre N g n))) (ee_var (i := 3) (v := .ref x) rfl rfl) LS.ux E.c_Levels E.n_Levels_fresh rfl (Rp.mono eU4 _ _ L4.rf)) (ed_lst ad_nil) (shp_hs _).of rfl) efr) (L4.eH s04.i) fun H5 s5 => ?_
    have s5' := Stp.weak eU4 s5
    have L5 := L4.step s5'
    have s05 := s04.trans s5'
    by_cases hf : fre N g n = []
    · rw [decide_eq_true hf]
      refine iteT ?_
      have fz3 := (s05.frz L5.oa.h ha0).frz L5.ox.h hx
      refine ws_ret (R := CovR false) (ee_tup (Rs := ACons (RD (.str "never")) (ACons RAny ANil)) (ea_cons ed_str (ea1 (EE.any (ed_ixL (ds := lvsD N g n) (i := -1) (ee_fld (R := RD (.list (lvsD N g n))) (ee_var (i := 3) (v := .ref x) rfl rfl) LS.ux E.c_Levels E.n_Levels_levels rfl (.lst (LS.ua L5.xa) (Rp.monoAll L5.eU _ _ L5.pl))) (ed_neg ed_int) (lvsD_last N g n))))) (by decide) (fun vs G' a => LenA.len _ _ a) fun vs G' p eg a hp => ?_) fz3.i fun v G6 H6 s6 r6 => k v G6 H6 false ⟨n, hc, hf⟩ (fz3.trans s6) r6
      obtain ⟨u1, u2, rfl, r1, _⟩ := ACons.two a
      exact ⟨p, u1, u2, rfl, upd_same, Rp.mono (Ex.new hp) _ _ r1⟩
    · rw [decide_eq_false hf]
      refine iteF (ws_nil ?_)
      refine ws_methX0 (ok_lv_go (n := n) E W hg (hl n (Nat.le_refl _)) (by omega)) xx_pass hr (ee_var (i := 3) (v := .ref x) rfl rfl) (L5.eH s05.i) LS.ux rfl fun H6 s6 => ?_
      have s6' := Stp.weak L5.eU s6
      have L6 := L5.step s6'
      have s06 := s05.trans s6'
      refine ⟨_, x, dx, a, vl, vf, ls, rfl, s06.i, L6, fun G7 H7 vf' ls' s7 hl1 hn1 L7 => ?_, fun d H7 s7 => kE d _ H7 (s06.trans s7)⟩
      have s07 := s06.locs (S' := [x, a]) (fun y hy => .inr (by
        simp only [List.mem_cons, List.not_mem_nil, or_false] at hy
        rcases hy with rfl | rfl
        · exact hx
        · exact ha0)) s7
      refine ws_nil ⟨40 - (n + 1), G7, by omega, e3.trans (s4'.g.trans (s5'.g.trans (s6'.g.trans s7.g))), s07, n + 1, vf', ls', rfl, rfl, L7, hn1, fun i hi => ?_, fun i hi => ?_⟩
      · rcases Nat.lt_or_ge n i with z | z
        · rw [show i = n + 1 by omega]
          have h1 : (lev N g (n + 1)).length ≤ (lev N g n ++ moreL N (fre N g n)).length := leastL_len
          rw [List.length_append] at h1
          have h2 := more_len W (fr := fre N g n)
          have h3 := fre_len (N := N) (g := g) (n := n)
          omega
        · exact hl i z
      · rcases Nat.lt_or_ge i n with z | z
        · exact h0 i z
        · rw [show i = n by omega]
          exact hc
abbrev CovdA (N : Net) (g : Hp') : List V → Hp → Prop := ACons (RD (netD N)) (ACons (RD (tI g)) (ACons (RD (.int 25)) ANil))
theorem fn_covered {N : Net} {g : Hp'} {fd : FuncData} {f : Addr} (E : Env K mg) (W : Wf N) (hg : Hip N g) (F : FunD K "covered" "covered" (defArgs s_covered) (defBody s_covered) (defScope s_covered) [] [("most", .int 2000)] f fd) : FnOk P w K mg base (L2.CX P w) 7 f fd ["net", "heap", "most"] (CovX K N g (CovdA N g)) := by
  refine fn_x F sc_covered (fun vs H Q E ⟨G, _, a, _⟩ => LenA.len (A := CovdA N g) vs G a) fun cdv A outer s H vs Q E' hr ⟨G, ex, as, k, kE⟩ => ?_
  obtain ⟨v0, v1, v2, rfl, r0, r1, r2⟩ := ACons.three as
  refine ws_set (i := 3) (R := LookR K N) sc_covered.nd (ee_cal (ok_look_at E W) hr (ea1 (ee_var (i := 0) rfl r0))) ex fun v G1 H1 s1 lk => ?_
  refine ws_expr (R := RD .none) (ee_cal (ok_must_heap E W hg) hr (ea_cons (ee_var (i := 0) rfl (Rp.mono s1.g _ _ r0)) (ea1 (ee_var (i := 1) rfl (Rp.mono s1.g _ _ r1))))) s1.i fun _ G2 H2 s2 _ => ?_
  have s02 := s1.trans s2
  refine ws_retX (A := CovA K N g) (ok_covered_by E W hg) xx_pass hr (ea_cons (ee_var (i := 3) rfl (MonoR.mono _ _ _ s2.g lk)) (ea_cons (ee_var (i := 1) rfl (Rp.mono s02.g _ _ r1)) (ea1 (ee_var (i := 2) rfl (Rp.mono s02.g _ _ r2))))) s02.i fun us G3 H3 s3 as3 => ?_
  rw [List.append_nil]
  exact ⟨G3, s3.i, as3, fun v G4 H4 b hb s4 r4 => k v G4 H4 b hb ((s02.trans s3).trans s4) r4, fun d G4 H4 s4 => kE d G4 H4 ((s02.trans s3).trans s4)⟩
end TK

/-! part F25 -/
set_option Elab.async false
set_option linter.all false
set_option maxRecDepth 100000
set_option maxHeartbeats 4000000
namespace PG
open PySem PySem.Spec PyProof.Rows L2
section
variable {X : Cx} {CX' : CXT} {k n : Nat} {f : Addr} {fd : FuncData} {ps ks : List Str} {sp : Sp} {Ew : L2.St → XK} {x : Str} {p pos : Pos} {e : Expr} {es : List Expr} {kws : List Keyword} {t tk : TA} {g : List Value → List Value → List Value} {gV : List V → List V → List V}
/-- f(e, .., k = v): what it may let out is told at the slots as they stand -/
def tKw (n m : Nat) (sp : Sp) (gV : List V → List V → List V) (Ew : L2.St → XK) (t tk : TA) : TE := fun σ H Q => t σ H fun vs H1 => tk σ H1 fun zs H2 => vs.length = n ∧ zs.length = m ∧ sp (gV vs zs) H2 Q (Ew σ)
theorem pe_kw (F : FnOk X.prog X.w X.K X.mg X.base CX' k f fd ps sp) (hr : Room k X.A) (hg : Gl X x) (hm : X.mg x = some (.ref f)) (hk : PySem.W.keepIn X.K (.ref f) = true) (hb : KBn X.K fd ps n ks g gV) (hx : ∀ σ, PassesAt CX' X σ (Ew σ))
    (ha : PA X (e :: es) t) (hkw : PK X kws tk) (hall : (backToKw pos (keywordEach kws X.env)).all (·.1.isSome) = true := by rfl) (hks : (backToKw pos (keywordEach kws X.env)).filterMap (·.1) = ks := by rfl)
    (hdb : (x == ("__debug__" : Str)) = false := by decide) (he : starEach (e :: es) X.env = (false, eval e X.env) :: starEach es X.env := by rfl)
    (hpl : ((backTo pos (starEach (e :: es) X.env)).any (·.1) || (backToKw pos (keywordEach kws X.env)).any (·.1.isNone)) = false := by rfl) :
    PE X (.Call (.Name x p) (e :: es) kws pos) (tKw n ks.length sp gV Ew t tk) := by
  refine ⟨fun pins s0 σ0 H0 Q0 I0 h0 => ?_⟩
  refine wpAny_Call_Name_kw (ld_glob I0 hg hm ?_ hdb)
  refine PySem.W.callWith_KW (h₀ := X.base) I0.ok.mod.kin hk hall (thn (ha.run pos pins s0 σ0 H0 _ I0 h0) fun us sA ⟨vs, HA, IA, rA, qA⟩ => ?_) hpl he
  refine thn (hkw.run pos pins sA σ0 HA _ IA qA) fun ws sB ⟨zs, HB, IB, rB, len1, len2, hsp⟩ => ⟨IB.kIn, ?_⟩
  rw [hks]
  refine wpAny_call (codeAny_mono (F.run X.A X.stack sB HB ⟨us, ks.zip ws⟩ (g us ws) (gV vs zs) Q0 (Ew σ0) hr IB.env0 (hb.to sB us ws IB.kIn (rA.length.symm.trans len1) (rB.length.symm.trans len2)) (hb.rel rA rB) hsp) fun out s' hq => ?_)
  match out, hq with
  | .error er, hq => exact hx σ0 pins HB sB er s' IB hq
  | .ok (.ret u), hq => exact IB.after hq
  | .ok .next, hq => exact hq.elim
  | .ok .brk, hq => exact hq.elim
  | .ok .cont, hq => exact hq.elim
end
end PG
namespace TK
open PySem PySem.Spec PyProof.Rows L2 PG
variable {P : Program} {w : World} {K : PySem.W.Frag} {mg : Str → Option Value} {base : Heap}
theorem kb_covered {fd : FuncData} {f : Addr} (F : FunD K "covered" "covered" (defArgs s_covered) (defBody s_covered) (defScope s_covered) [] [("most", .int 2000)] f fd) : KBn K fd ["net", "heap", "most"] 2 ["most"] (fun us ws => us ++ ws) (fun us ws => us ++ ws) := by
  obtain ⟨oc, od, dV, kV, doc, pm, an, cdv, ct, osl, rfl, lk, hcd, hD, hK⟩ := F.ex
  rcases hD with ⟨_, rfl⟩ | ⟨e, _⟩
  · exact ⟨fun s us ws X l1 l2 => match us, ws, l1, l2 with
      | [_, _], [_], _, _ => BindsTo.of_eq rfl, fun r1 r2 => r1.append r2⟩
  · exact absurd rfl e
/-- what is told of a goal: a word, or nothing -/
def ToldR (N : Net) (g : Hp') : V → Hp → Prop := fun v _ => ∃ z : Str, v = .str z ∧ (z = "" ∨ ∃ b, CovEnd N g b ∧ z = covW b)
instance (N : Net) (g : Hp') : MonoR (ToldR N g) := ⟨fun _ _ _ _ h => h⟩
theorem ok_told {N : Net} {g : Hp'} (E : Env K mg) (W : Wf N) (hg : Hip N g) : C8.Cal P w K mg base 8 "_law_told" (Pr (A2 (netD N) (tI g)) (ToldR N g)) [] :=
  cl_L_told E fun cdv A outer s H vs Q E' hr G ex a k => by
    obtain ⟨v0, v1, rfl, r0, r1⟩ := ACons.two a
    obtain ⟨fd, F⟩ := E.f_covered
    refine ws_set (i := 2) (R := RD .none) sc_L_told.nd ed_non ex fun v2 G1 H1 s1 r2 => ?_
    rw [Rp.non_eq r2]
    refine ws_set (i := 3) (R := RD (.str "")) sc_L_told.nd ed_str s1.i fun v3 G2 H2 s2 r3 => ?_
    rw [Rp.str_eq r3]
    have s02 := s1.trans s2
    -- what is told at the end
    have fin : ∀ {σ : L2.St} {G3 H3 : Hp} {t : Bool} {v2 : V} {z : Str} {d0 : Stmt}, σ = [some v0, some v1, some v2, some (.str z), none] → Stp [] G H G3 H3 → decide (v2 = .non) = t → ToldR N g (.str z) G3 →
        WS (XB P w K mg base N_L_told "_law_told" (defScope s_L_told) (He.fAd K ("_law_told", none)) cdv A outer s H E') [(defBody s_L_told).getD 3 d0] { nx := fun _ H' => Q .non H', rt := Q } σ H3 := fun {σ G3 H3 t v2 z d0} eσ s3 et hz => by
      subst eσ
      refine ws_ret (R := ToldR N g) (EE.imp (R := RD (if t = true then .str z else .str "")) (ed_ixL (ds := [.str z, .str ""]) (i := if (!t) = true then 1 else 0) (ed_lst (hl := by simp) (ad_cons (ee_var (i := 3) rfl (.str z)) (ad_cons ed_str ad_nil))) (ed_intB (ee_notN (Ra := RV v2) (t := !t) (ee_var (i := 2) rfl rfl) fun v G r => by rw [show v = v2 from r, et]) E.b_int) ?_) fun v G' _ r => ?_) s3.i fun v G4 H4 s4 r4 => k v G4 H4 (s3.trans s4) r4
      · cases t <;> rfl
      · cases t with
        | true =>
          rw [Rp.str_eq r]
          exact hz
        | false =>
          rw [Rp.str_eq r]
          exact ⟨"", rfl, .inl rfl⟩
    refine ws_cons ⟨_, ps_try_as (i := 4) (c := .ref (cTG K)) (tb := fun W => tAsg (tOp (rIxT K) (tKw 2 1 (CovX K N g (CovdA N g)) (fun us ws => us ++ ws) (fun σ cls d H => W cls d σ H) (tCons (tVar 0) (tCons (tVar 1) tNil)) (tCons (tC (.int 25)) tNil)) (tC (.int 0))) (gName 3)) (ts := fun _ _ _ => tAsg (tVar 4) (gName 2)) (Wout := fun _ _ _ _ => False) rfl rfl sc_L_told.nd rfl rfl ⟨rfl, by decide, Or.inl E.g_TooGreat⟩ takes0
      (fun W' pn xe tk _ => pss_one (ps_set (i := 3) sc_L_told.nd rfl (Or.inl rfl) (by exact pe_ix ix_tup (by exact pe_kw (X := Cx.tr (XB P w K mg base N_L_told "_law_told" (defScope s_L_told) (He.fAd K ("_law_told", none)) cdv A outer s H E') pn xe) (fn_covered E W hg F) (hr.mono (by decide)) (by exact rfl) E.g_covered F.kp (kb_covered F) (fun σ => passAt tk σ) (pa_cons (pe_var (i := 0) rfl (Or.inl rfl)) (pa_cons (pe_var (i := 1) rfl (Or.inl rfl)) pa_nil)) (by exact pk_cons pe_int pk_nil)) pe_int (fun _ _ => rfl))))
      (fun a oe cls d pn hz hf => pss_one (ps_set (i := 2) sc_L_told.nd rfl (Or.inl rfl) (pe_var (i := 4) rfl (Or.inl rfl)))), ?_⟩
    refine ⟨v0, rfl, v1, rfl, rfl, rfl, G2, s2.i, ?_, fun v G3 H3 b hb s3 r3 => ?_, fun d G3 H3 s3 => ?_⟩
    · exact ⟨v0, _, rfl, Rp.mono s02.g _ _ r0, v1, _, rfl, Rp.mono s02.g _ _ r1, _, _, rfl, .int _, rfl⟩
    · obtain ⟨q, u1, u2, rfl, hq, ru⟩ := r3
      refine ⟨q, _, 0, u1, rfl, rfl, SqT.of (s3.i _ _ hq), rfl, ?_⟩
      rw [Rp.str_eq ru]
      exact fin (d0 := .Pass ⟨0, 0, 0, 0⟩) (t := true) rfl (s02.trans s3) rfl ⟨_, rfl, .inr ⟨b, hb, rfl⟩⟩
    · refine ⟨true, tg_exm E, fun _ q hq => ?_, fun z => nomatch z⟩
      refine ⟨_, rfl, ?_⟩
      exact fin (d0 := .Pass ⟨0, 0, 0, 0⟩) (t := false) rfl (s02.trans s3) rfl ⟨_, rfl, .inl rfl⟩
end TK

/-! part P20 -/
set_option Elab.async false
set_option linter.all false
set_option maxRecDepth 100000
set_option maxHeartbeats 4000000
/-! PG, part 20: expressions that draw from a purse. -/
namespace PG
open PySem PySem.Spec PyProof.Rows L2
/-- the purse at p: what is left of the great number, the cell, the count (at most b) -/
def Pu (G H : Hp) (p : Addr) (b : Nat) : Prop := ∃ a c n : Int, Own G H p (.lst [.int a, .int c, .int n]) ∧ 0 ≤ a ∧ a < 2 ^ 2000 ∧ 0 ≤ c ∧ c < 2147483647 ∧ 0 ≤ n ∧ n ≤ b
section
variable {S : List Addr} {G G1 G2 H H1 H2 : Hp} {p : Addr} {b b1 b2 b3 : Nat}
theorem Stp.liftS (e1 : Ex G1 H) (eg : Ex G G1) (s : Stp S G H G2 H2) (hS : ∀ a ∈ S, G1 a = none) : Stp S G1 H (mer G1 G2) H2 ∧ Ex G2 (mer G1 G2) := by
  have e1' : Ex G1 H2 := fun a o h => by
    obtain ⟨o', h1, h2, _⟩ := s.h a o (e1 a o h)
    rw [h2 fun m => by rw [hS a m] at h; cases h] at h1
    exact h1
  refine ⟨⟨mer_l, fun a o h => ?_, s.h, fun a o h h' => ?_⟩, mer_r e1' s.i⟩
  · unfold mer at h
    cases q : G1 a with
    | none =>
      rw [q] at h
      exact s.i a o h
    | some u =>
      rw [q] at h
      exact e1' a o (q.trans h)
  · unfold mer at h
    rw [h'] at h
    exact s.n a o h (eg.none h')
theorem Pu.step (h : Pu G H p b) (s : Stp [] G H G1 H1) : Pu G1 H1 p b := by
  obtain ⟨a, c, n, w, h⟩ := h
  exact ⟨a, c, n, w.step0 s, h⟩
theorem Pu.le (h : Pu G H p b) (hb : b ≤ b1) : Pu G H p b1 := by
  obtain ⟨a, c, n, w, h1, h2, h3, h4, h5, h6⟩ := h
  exact ⟨a, c, n, w, h1, h2, h3, h4, h5, by omega⟩
theorem Pu.low (h : Pu G1 H p b) (eg : Ex G G1) : Pu G H p b := by
  obtain ⟨a, c, n, w, h⟩ := h
  exact ⟨a, c, n, ⟨w.h, eg.none w.g⟩, h⟩
theorem Pu.frz {q : Addr} {o : HO} (h : Pu G H p b) (hq : p ≠ q) : Pu (L2.upd G q o) H p b := by
  obtain ⟨a, c, n, w, h⟩ := h
  exact ⟨a, c, n, ⟨w.h, by rw [upd_ne hq]; exact w.g⟩, h⟩
theorem Stp.weakS (e : Ex G G1) (s : Stp S G1 H G2 H2) : Stp S G H G H2 :=
  ⟨Ex.refl _, (e.trans s.g).trans s.i, s.h, fun a o h h' => by rw [h] at h'; cases h'⟩
theorem Pu.no (h : Pu G H p b) : G p = none := by
  obtain ⟨a, c, n, w, h⟩ := h
  exact w.g
theorem Pu.mer (h : Pu G2 H p b) (h1 : G1 p = none) : Pu (mer G1 G2) H p b := by
  obtain ⟨a, c, n, w, h⟩ := h
  exact ⟨a, c, n, ⟨w.h, by unfold PG.mer; rw [h1]; exact w.g⟩, h⟩
end
/-- e may draw: the count b becomes at most b' -/
def EP (X : Cx) (e : Expr) (σ : L2.St) (p : Addr) (b b' : Nat) (G : Hp) (R : V → Hp → Prop) : Prop := ∀ (H : Hp) (Q : VK), Ex G H → Pu G H p b → (∀ v G' H', Stp [p] G H G' H' → Pu G' H' p b' → R v G' → Q v H') → WE X e σ H Q
def EPA (X : Cx) (es : List Expr) (σ : L2.St) (p : Addr) (b b' : Nat) (G : Hp) (A : List V → Hp → Prop) : Prop := ∀ (H : Hp) (Q : List V → Hp → Prop), Ex G H → Pu G H p b → (∀ vs G' H', Stp [p] G H G' H' → Pu G' H' p b' → A vs G' → Q vs H') → WA X es σ H Q
def EPT (X : Cx) (e : Expr) (σ : L2.St) (p : Addr) (b b' : Nat) (G : Hp) (t : Bool → Prop) : Prop := ∀ (H : Hp) (Q : Bool → Hp → Prop), Ex G H → Pu G H p b → (∀ u G' H', t u → Stp [p] G H G' H' → Pu G' H' p b' → Q u H') → WT X e σ H Q
/-- some data of Φ -/
def RQ (Φ : PyData → Prop) : V → Hp → Prop := fun v G => ∃ d, Φ d ∧ Rp G v d
instance (Φ : PyData → Prop) : MonoR (RQ Φ) := ⟨fun _ _ _ e ⟨d, h, r⟩ => ⟨d, h, Rp.mono e _ _ r⟩⟩
/-- a whole number of Φ -/
def RI (Φ : Int → Prop) : V → Hp → Prop := fun v _ => ∃ i, v = .int i ∧ Φ i
instance (Φ : Int → Prop) : MonoR (RI Φ) := ⟨fun _ _ _ _ h => h⟩
section
variable {X : Cx} {σ : L2.St} {G G1 H H1 : Hp} {e a c o : Expr} {es : List Expr} {R Ra Rb : V → Hp → Prop} {A : List V → Hp → Prop} {pos pp apos cpos : Pos} {p : Addr} {b b1 b2 b3 : Nat} {D : Ends} {rest : List Stmt}
theorem EP.mono [m : MonoR R] (h : EP X e σ p b b1 G R) (eg : Ex G G1) : EP X e σ p b b1 G1 R := fun H Q e1 pu k =>
  h H Q (eg.trans e1) (pu.low eg) fun v G' H' s pu' r => by
    have hn := pu.no
    obtain ⟨s2, e2⟩ := s.liftS e1 eg (fun a ha => by
      obtain rfl : a = p := by simpa using ha
      exact hn)
    exact k v _ H' s2 (pu'.mer hn) (m.mono _ _ _ e2 r)
theorem EPA.mono [m : MonoA A] (h : EPA X es σ p b b1 G A) (eg : Ex G G1) : EPA X es σ p b b1 G1 A := fun H Q e1 pu k =>
  h H Q (eg.trans e1) (pu.low eg) fun v G' H' s pu' r => by
    have hn := pu.no
    obtain ⟨s2, e2⟩ := s.liftS e1 eg (fun a ha => by
      obtain rfl : a = p := by simpa using ha
      exact hn)
    exact k v _ H' s2 (pu'.mer hn) (m.mono _ _ _ e2 r)
theorem ep_ee (h : EE X e σ G R) : EP X e σ p b b G R := fun H Q ex pu k => h H Q ex fun v G' H' s r => k v G' H' s.any (pu.step s) r
theorem EP.le (h : EP X e σ p b b1 G R) (hb : b1 ≤ b2) : EP X e σ p b b2 G R := fun H Q ex pu k => h H Q ex pu fun v G' H' s pu' r => k v G' H' s (pu'.le hb) r
theorem EP.imp (h : EP X e σ p b b1 G Ra) (i : ∀ v G', Ex G G' → Ra v G' → R v G') : EP X e σ p b b1 G R := fun H Q ex pu k => h H Q ex pu fun v G' H' s pu' r => k v G' H' s pu' (i v G' s.g r)
theorem epa_ea (h : EA X es σ G A) : EPA X es σ p b b G A := fun H Q ex pu k => h H Q ex fun v G' H' s r => k v G' H' s.any (pu.step s) r
theorem epa_nil : EPA X [] σ p b b G ANil := epa_ea ea_nil
theorem epa_cons [m : MonoR R] [MonoA A] (h : EP X e σ p b b1 G R) (hr : EPA X es σ p b1 b2 G A) (hs : starEach (e :: es) X.env = (false, eval e X.env) :: starEach es X.env := by rfl) : EPA X (e :: es) σ p b b2 G (ACons R A) := fun H Q ex pu k =>
  ⟨_, pa_cons (pe_self e) (pa_self es) hs, h H _ ex pu fun v G1 H1 s1 pu1 r1 => hr.mono s1.g H1 _ s1.i pu1 fun vs G2 H2 s2 pu2 r2 => k (v :: vs) G2 H2 (s1.trans s2) pu2 ⟨v, vs, rfl, m.mono _ _ _ s2.g r1, r2⟩⟩
theorem ep_two [m : MonoR Ra] [MonoR Rb] (ha : EP X a σ p b b1 G Ra) (hb : EP X c σ p b1 b2 G Rb) {K : V → V → Hp → Prop} (ex : Ex G H) (pu : Pu G H p b) (k : ∀ x y G' H', Stp [p] G H G' H' → Pu G' H' p b2 → Ra x G' → Rb y G' → K x y H') :
    WE X a σ H fun x H1 => WE X c σ H1 fun y H2 => K x y H2 :=
  ha H _ ex pu fun x G1 H1 s1 pu1 r1 => (hb.mono s1.g) H1 _ s1.i pu1 fun y G2 H2 s2 pu2 r2 => k x y G2 H2 (s1.trans s2) pu2 (m.mono _ _ _ s2.g r1) r2
theorem ep_op {op : Operator} {r : R2} [MonoR Ra] [MonoR Rb] (ho : OpR X (binaryOp op) r) (ha : EP X a σ p b b1 G Ra) (hb : EP X c σ p b1 b2 G Rb) (hr : ∀ x y G', Ex G G' → Ra x G' → Rb y G' → RO r x y G' R) : EP X (.BinOp a op c pos) σ p b b2 G R := fun H Q ex pu k =>
  ⟨_, pe_op ho (pe_self a) (pe_self c), ep_two ha hb ex pu fun x y G' H' s pu' r1 r2 => hr x y G' s.g r1 r2 H' Q s.i fun v G2 H2 s2 q => k v G2 H2 (s.trans s2.any) (pu'.step s2) q⟩
theorem ept_cmp {op : CmpOp} {r : R2} {t : Bool → Prop} [MonoR Ra] [MonoR Rb] (ho : OpR X (compareOp op) r) (ha : EP X a σ p b b1 G Ra) (hb : EP X c σ p b1 b2 G Rb) (hr : ∀ x y G', Ex G G' → Ra x G' → Rb y G' → ∃ u, t u ∧ RO r x y G' (RD (.bool u))) (hm : behindInMarks op c = false) : EPT X (.Compare a [op] [c] pos) σ p b b2 G t := fun H Q ex pu k =>
  ⟨_, pt_cmpR ho (pe_self a) (pe_self c) hm, ep_two ha hb ex pu fun x y G' H' s pu' r1 r2 => by
    obtain ⟨u, hu, ro⟩ := hr x y G' s.g r1 r2
    exact ro H' _ s.i fun v G2 H2 s2 q => ⟨u, q.bl_eq, k u G2 H2 hu (s.trans s2.any) (pu'.step s2)⟩⟩
theorem ept_et {t : Bool} (h : ET X e σ G t) : EPT X e σ p b b G (fun u => u = t) := fun H Q ex pu k => h H Q ex fun H' s => k t G H' rfl s.any (pu.step s)
theorem EPT.le {t : Bool → Prop} (h : EPT X e σ p b b1 G t) (hb : b1 ≤ b2) : EPT X e σ p b b2 G t := fun H Q ex pu k => h H Q ex pu fun v G' H' r s pu' => k v G' H' r s (pu'.le hb)
theorem EPT.imp {t t' : Bool → Prop} (h : EPT X e σ p b b1 G t) (i : ∀ u, t u → t' u) : EPT X e σ p b b1 G t' := fun H Q ex pu k => h H Q ex pu fun v G' H' r s pu' => k v G' H' (i v r) s pu'
theorem EPT.mono {t : Bool → Prop} (h : EPT X e σ p b b1 G t) (eg : Ex G G1) : EPT X e σ p b b1 G1 t := fun H Q e1 pu k =>
  h H Q (eg.trans e1) (pu.low eg) fun u G' H' r s pu' => by
    have hn := pu.no
    obtain ⟨s2, e2⟩ := s.liftS e1 eg (fun a ha => by
      obtain rfl : a = p := by simpa using ha
      exact hn)
    exact k u _ H' r s2 (pu'.mer hn)
/-- a and c, c drawing only where a holds: any outcome -/
theorem ept_and (ha : EPT X a σ p b b1 G fun _ => True) (hc : EPT X c σ p b1 b2 G fun _ => True) (hb : b1 ≤ b2) : EPT X (.BoolOp .And [a, c] pos) σ p b b2 G fun _ => True := fun H Q ex pu k =>
  ⟨_, (pw_and (pt_self a) (pw_and1 (pt_self c))).pt, ha H _ ex pu fun u G1 H1 _ s1 pu1 => by
    cases u with
    | true => exact iteT ((hc.mono s1.g) H1 _ s1.i pu1 fun u G2 H2 h s2 pu2 => k u G2 H2 trivial (s1.trans s2) pu2)
    | false => exact iteF (k false G1 H1 trivial s1 (pu1.le hb))⟩
theorem ept_or (ha : EPT X a σ p b b1 G fun _ => True) (hc : EPT X c σ p b1 b2 G fun _ => True) (hb : b1 ≤ b2) : EPT X (.BoolOp .Or [a, c] pos) σ p b b2 G fun _ => True := fun H Q ex pu k =>
  ⟨_, (pw_or (pt_self a) (pw_or1 (pt_self c))).pt, ha H _ ex pu fun u G1 H1 _ s1 pu1 => by
    cases u with
    | true => exact iteT (k true G1 H1 trivial s1 (pu1.le hb))
    | false => exact iteF ((hc.mono s1.g) H1 _ s1.i pu1 fun u G2 H2 h s2 pu2 => k u G2 H2 trivial (s1.trans s2) pu2)⟩
theorem ept_any {t : Bool → Prop} (h : EPT X e σ p b b1 G t) : EPT X e σ p b b1 G fun _ => True := h.imp fun _ _ => trivial
/-! statements -/
theorem ws_setP {i : Nat} {x : Str} {pos' : Pos} (hN : X.N.Nodup) (he : EP X e σ p b b1 G R) (ex : Ex G H) (pu : Pu G H p b) (k : ∀ v G' H', Stp [p] G H G' H' → Pu G' H' p b1 → R v G' → WS X rest D (σ.set i (some v)) H') (hi : X.N[i]? = some x := by rfl) (hx : Loc X.env.scope x := by first | exact Or.inl rfl | exact Or.inr rfl)
    (hs : swapsWith e (some (.Name x pos')) pos.line X.env = pure false := by rfl) (hf : X.fn x = true ∨ X.env.scope.names.lookup x = some .local := by first | exact .inl rfl | exact .inr rfl | assumption) : WS X (.Assign [.Name x pos'] e pos :: rest) D σ H :=
  ws_cons ⟨_, ps_set hN hi hx (pe_self e) hs hf, he H _ ex pu k⟩
theorem ws_ifP {A B : List Stmt} {t : Bool → Prop} (hc : EPT X c σ p b b1 G t) (ex : Ex G H) (pu : Pu G H p b) (k : ∀ u G' H', t u → Stp [p] G H G' H' → Pu G' H' p b1 → if u = true then WS X A { D with nx := WS X rest D } σ H' else WS X B { D with nx := WS X rest D } σ H') : WS X (.If c A B pos :: rest) D σ H :=
  ws_cons ⟨_, ps_if (pt_self c) (pss_self A) (pss_self B), hc H _ ex pu fun u G' H' h s pu' => k u G' H' h s pu'⟩
theorem ws_retP (he : EP X e σ p b b1 G R) (ex : Ex G H) (pu : Pu G H p b) (k : ∀ v G' H', Stp [p] G H G' H' → Pu G' H' p b1 → R v G' → D.rt v H') : WS X (.Return (some e) pos :: rest) D σ H :=
  ws_cons ⟨_, ps_ret (pe_self e), he H _ ex pu k⟩
/-! calls that draw -/
/-- the promise of a def that draws: the purse first -/
def PrP (bb : Nat → Nat) (A : List V → Hp → Prop) (R : V → Hp → Prop) : Sp := fun vs H Q _ => ∃ p rest G b, vs = .ref p :: rest ∧ Ex G H ∧ Pu G H p b ∧ bb b ≤ 100000 ∧ A rest G ∧ ∀ v G' H', Stp [p] G H G' H' → Pu G' H' p (bb b) → R v G' → Q v H'
theorem PrP.len {bb : Nat → Nat} {n : Nat} [l : LenA A n] : ∀ vs H Q E, PrP bb A R vs H Q E → vs.length = n + 1 := fun vs H Q E ⟨p, rest, G, b, e, _, _, _, a, _⟩ => by
  rw [e, List.length_cons, l.len _ _ a]
theorem ep_cal {k j : Nat} {x : Str} {bb : Nat → Nat} (cc : C8.Cal X.prog X.w X.K X.mg X.base k x (PrP bb A R) []) (hr : Room j X.A) (hp : EE X e σ G (RV (.ref p))) (ha : EPA X es σ p b b1 G A) [MonoA A] (hb : bb b1 ≤ 100000) (hk : k ≤ j := by decide)
    (hg : Gl X x := by rfl) (hdb : (x == ("__debug__" : Str)) = false := by decide) (he : starEach (e :: es) X.env = (false, eval e X.env) :: starEach es X.env := by rfl) (hpl : (backTo pos (starEach es X.env)).any (·.1) = false := by rfl) :
    EP X (.Call (.Name x pp) (e :: es) [] pos) σ p b (bb b1) G R := fun H Q ex pu q =>
  ⟨_, C8.pe_c cc hr hk hg (pa_cons (pe_self e) (pa_self es) he) hdb he hpl, hp H _ ex fun v G1 H1 s1 r1 => (ha.mono s1.g) H1 _ s1.i (pu.step s1) fun vs G2 H2 s2 pu2 a2 => by
    rw [show v = .ref p from r1]
    refine ⟨p, vs, G2, b1, by rw [List.append_nil], s2.i, pu2, hb, a2, fun v G3 H3 s3 pu3 r3 => q v G3 H3 ((s1.any.trans s2).trans s3) pu3 r3⟩⟩
end
end PG

/-! part F26 -/
set_option Elab.async false
set_option linter.all false
set_option maxRecDepth 100000
set_option maxHeartbeats 4000000
namespace PG
open PySem PySem.Spec PyProof.Rows L2
section
variable {X : Cx} {σ : L2.St} {G : Hp} {a b : Expr} {pos p apos : Pos} {i j : Int}
theorem ed_mod (ha : ED X a σ G (.int i)) (hb : ED X b σ G (.int j)) (hj : 0 < j) : ED X (.BinOp a .Mod b pos) σ G (.int (i % j)) :=
  ee_op op_mod ha hb fun x y G' _ rx ry => by
    rw [rx.int_eq, ry.int_eq]
    exact .val (fun H Q _ q => ⟨i, j, rfl, rfl, hj, q⟩) (.int _)
theorem ed_fdiv (ha : ED X a σ G (.int i)) (hb : ED X b σ G (.int j)) (h0 : 0 < j) (h1 : j < 1073741824) : ED X (.BinOp a .FloorDiv b pos) σ G (.int (i / j)) :=
  ee_op op_fdiv ha hb fun x y G' _ rx ry => by
    rw [rx.int_eq, ry.int_eq]
    exact .val (fun H Q _ q => ⟨i, j, rfl, rfl, ⟨h0, h1⟩, q⟩) (.int _)
theorem ed_pow (ha : ED X a σ G (.int i)) (hb : ED X b σ G (.int j)) (hc : CPow i j) : ED X (.BinOp a .Pow b pos) σ G (.int (i ^ j.toNat)) :=
  ee_op op_pow ha hb fun x y G' _ rx ry => by
    rw [rx.int_eq, ry.int_eq]
    exact .val (fun H Q _ q => ⟨i, j, rfl, rfl, hc, q⟩) (.int _)
def CPowG (i j : Int) : Prop := 0 ≤ j ∧ (Builtin.Int.intBits i : Int) * j ≤ 2 ^ 27
theorem op_powG : OpR X (binaryOp .Pow) (rI CPowG fun i j => .int (i ^ j.toNat)) := opI fun _ _ _ _ _ _ _ hc q => pow_int hc.1 hc.2 q
theorem ed_powG (ha : ED X a σ G (.int i)) (hb : ED X b σ G (.int j)) (hc : CPowG i j) : ED X (.BinOp a .Pow b pos) σ G (.int (i ^ j.toNat)) :=
  ee_op op_powG ha hb fun x y G' _ rx ry => by
    rw [rx.int_eq, ry.int_eq]
    exact .val (fun H Q _ q => ⟨i, j, rfl, rfl, hc, q⟩) (.int _)
end
end PG
namespace TK
open PySem PySem.Spec PyProof.Rows L2 PG
variable {P : Program} {w : World} {K : PySem.W.Frag} {mg : Str → Option Value} {base : Heap}
/-! ### the law's purse -/
/-- the script: a list of whole numbers, known or of the base -/
def RScr (K : PySem.W.Frag) (ns : List Int) : V → Hp → Prop := fun v G => ∃ a, v = .ref a ∧ SqL K G a (ns.map V.int)
theorem sqL_ex {K : PySem.W.Frag} {G G' : Hp} {a : Addr} {xs : List V} (e : Ex G G') (h : SqL K G a xs) : SqL K G' a xs := h.imp (rdX e) id
instance (K : PySem.W.Frag) (ns : List Int) : MonoR (RScr K ns) := ⟨fun _ _ _ e ⟨a, h1, h2⟩ => ⟨a, h1, sqL_ex e h2⟩⟩
section
variable {X : Cx} {σ : L2.St} {G : Hp} {a b : Expr} {pos p : Pos} {ns : List Int}
theorem ed_lenScr (ha : EE X a σ G (RScr X.K ns)) (hm : X.mg "len" = none) (hg : Gl X "len" := by rfl) (he : starEach [a] X.env = (false, eval a X.env) :: starEach [] X.env := by rfl) (hpl : (backTo pos (starEach [] X.env)).any (·.1) = false := by rfl) : ED X (.Call (.Name "len" p) [a] [] pos) σ G (.int ns.length) :=
  ee_cb call_len_seq hm boot_len (ea1 ha he) (fun vs G' _ r0 => by
    obtain ⟨v, rfl, q, rfl, h⟩ := ACons.one r0
    exact .val (v := .int ns.length) (fun H Q e q' => ⟨_, ns.map V.int, rfl, .inl (sqL_ex e h), by rw [List.length_map]; exact q'⟩) (.int _)) hg (he := he) (hpl := hpl)
theorem ed_ixScr {i z : Int} (ha : EE X a σ G (RScr X.K ns)) (hb : ED X b σ G (.int i)) (h : atI (ns.map V.int) i = some (.int z)) (hs : PlainIx b := by intro _ _; rfl) : ED X (.Subscript a b pos) σ G (.int z) := fun H Q e k =>
  ⟨_, pe_ix ix_list (pe_self a) (pe_self b) hs, two ha hb e fun x y G' H' s ⟨p, ep, hp⟩ ry => by
    subst ep
    exact ⟨p, _, i, .int z, rfl, ry.int_eq, sqL_ex s.i hp, h, k _ G' H' s (.int _)⟩⟩
end
theorem ok_at {ns : List Int} {k : Nat} (E : Env K mg) : C8.Cal P w K mg base 1 "_law_at" (Pr (ACons (RScr K ns) (ACons (RD (.int k)) ANil)) (RI fun _ => True)) [] :=
  cl_L_at E fun cdv A outer s H vs Q E' hr G ex a q => by
    obtain ⟨v0, v1, rfl, r0, r1⟩ := ACons.two a
    refine ws_if (t := decide ((k : Int) < ns.length)) (et_is (et_lt (i := k) (j := (ns.length : Nat)) (ee_var (i := 1) rfl r1) (ed_lenScr (ee_var (i := 0) rfl r0) E.b_len)) rfl) ex fun H1 s1 => ?_
    by_cases h : k < ns.length
    · rw [decide_eq_true (by omega)]
      refine iteT (ws_ret (R := RI fun _ => True) (EE.imp (ed_ixScr (z := ns[k]) (i := (k : Nat)) (ee_var (i := 0) rfl r0) (ee_var (i := 1) rfl r1) (L2.atI_nat (by rw [List.getElem?_map, List.getElem?_eq_getElem h] <;> rfl))) fun v G' _ r => ⟨_, Rp.int_eq r, trivial⟩) s1.i fun v G2 H2 s2 r2 => q v G2 H2 (s1.trans s2) r2)
    · rw [decide_eq_false (by omega)]
      exact iteF (ws_nil (ws_ret (R := RI fun _ => True) (EE.imp (ed_int (i := 0)) fun v G' _ r => ⟨_, Rp.int_eq r, trivial⟩) s1.i fun v G2 H2 s2 r2 => q v G2 H2 (s1.trans s2) r2))
theorem mul_small {i j : Int} (h1 : -(2 ^ 64) < i) (h2 : i < 2 ^ 64) : CMul i j := .inl ⟨h1, h2⟩
theorem ok_mixed {c k : Int} (E : Env K mg) (h0 : 0 ≤ c) (h1 : c < 2147483647) (k0 : 0 ≤ k) (k1 : k ≤ 200000) : C8.Cal P w K mg base 1 "_law_mixed" (Pr (A2 (.int c) (.int k)) (RI fun z => 0 ≤ z ∧ z < 2147483587)) [] :=
  cl_L_mixed E fun cdv A outer s H vs Q E' hr G ex a q => by
    obtain ⟨v0, v1, rfl, r0, r1⟩ := ACons.two a
    refine ws_set (i := 2) (R := RD (.int ((c * 1103515245 + 7919 * k * k + k + 1) % 2147483647))) sc_L_mixed.nd (ed_mod (ed_add (ed_add (ed_add (ed_mul (ee_var (i := 0) rfl r0) ed_int (.inr (by decide))) (ed_mul (ed_mul ed_int (ee_var (i := 1) rfl r1) (.inl (by decide))) (ee_var (i := 1) rfl r1) (.inr ⟨by omega, by omega⟩))) (ee_var (i := 1) rfl r1)) ed_int) ed_int (by decide)) ex fun v G1 H1 s1 r => ?_
    generalize hz : (c * 1103515245 + 7919 * k * k + k + 1) % 2147483647 = z at r
    have z0 : 0 ≤ z := by rw [← hz]; exact Int.emod_nonneg _ (by decide)
    have z1 : z < 2147483647 := by rw [← hz]; exact Int.emod_lt_of_pos _ (by decide)
    refine ws_set (i := 2) (R := RD (.int ((z * z + 69621) % 2147483629))) sc_L_mixed.nd (ed_mod (ed_add (ed_mul (ee_var (i := 2) rfl r) (ee_var (i := 2) rfl r) (.inr ⟨by omega, by omega⟩)) ed_int) ed_int (by decide)) s1.i fun v G2 H2 s2 r' => ?_
    generalize hy : (z * z + 69621) % 2147483629 = y at r'
    have s02 := s1.trans s2
    refine ws_ret (R := RI fun z => 0 ≤ z ∧ z < 2147483587) (EE.imp (ed_mod (ed_mul (ee_var (i := 2) rfl r') ed_int (.inr (by decide))) ed_int (by decide)) fun v G' _ r => ⟨_, Rp.int_eq r, Int.emod_nonneg _ (by decide), Int.emod_lt_of_pos _ (by decide)⟩) s02.i fun v G3 H3 s3 r3 => q v G3 H3 (s02.trans s3) r3
/-- a new purse -/
def PurX (K : PySem.W.Frag) : Sp := fun vs H Q _ => ∃ (ns : List Int) (k : Nat) (v0 : V) (G : Hp), vs = [v0, .int k] ∧ k ≤ 10 ∧ Ex G H ∧ RScr K ns v0 G ∧ ∀ p G' H', Stp [] G H G' H' → H p = none → Pu G' H' p 20000 → Q (.ref p) H'
theorem ok_purse (E : Env K mg) : C8.Cal P w K mg base 2 "_law_purse" (PurX K) [] := by
  obtain ⟨fd, F⟩ := E.f_L_purse
  refine cal_g F E.g_L_purse (bd_L_purse F) .nil sc_L_purse (fun vs H Q E ⟨_, _, _, _, e, _⟩ => by rw [e]; rfl) fun cdv A outer s H vs Q E' hr ⟨ns, k, v0, G, e, hk, ex, r0, q⟩ => ?_
  subst e
  refine ws_set (i := 2) (R := RI fun _ => True) sc_L_purse.nd (ee_cal (ok_at (ns := ns) (k := k) E) hr (ea_cons (ee_var (i := 0) rfl r0) (ea1 (ee_var (i := 1) rfl (.int _))))) ex fun v G1 H1 s1 ⟨c, ec, _⟩ => ?_
  subst ec
  have hp60 : ((10 : Int) ^ (60 : Int).toNat) ^ (10 : Int).toNat < 2 ^ 2000 := by decide +kernel
  have hp60' : (0 : Int) < ((10 : Int) ^ (60 : Int).toNat) ^ (10 : Int).toNat := by decide +kernel
  refine ws_cons ⟨_, ps_ret (pe_self _), en_lst (A := ACons (RI fun z => 0 ≤ z ∧ z < 2 ^ 2000) (ACons (RI fun z => 0 ≤ z ∧ z < 2147483647) (ACons (RI fun z => 0 ≤ z ∧ z ≤ 20000) ANil))) (ea_cons
    (EE.imp (ed_mod (ed_max2 rfl (ed_sub (ee_var (i := 2) rfl (.int _)) (ed_pow ed_int ed_int ⟨by decide, by decide, by decide⟩)) ed_int E.b_max) (ed_powG (ed_pow ed_int ed_int ⟨by decide, by decide, by decide⟩) ed_int ⟨by decide, by decide +kernel⟩) hp60') fun v G' _ r => ⟨_, Rp.int_eq r, Int.emod_nonneg _ (by omega), Int.lt_trans (Int.emod_lt_of_pos _ hp60') hp60⟩)
    (ea_cons (EE.imp (ed_mod (ee_var (i := 2) rfl (.int _)) ed_int (by decide)) fun v G' _ r => ⟨_, Rp.int_eq r, Int.emod_nonneg _ (by decide), Int.emod_lt_of_pos _ (by decide)⟩)
    (ea1 (EE.imp (ed_mul (i := 1000) (j := (k : Int)) ed_int (ee_var (i := 1) rfl (.int _)) (.inl (by decide))) fun v G' _ r => ⟨_, Rp.int_eq r, by omega, by omega⟩)))) (by decide) H1 _ s1.i fun p o G2 H2 s2 hp w ⟨us, eo, a⟩ => ?_⟩
  subst eo
  obtain ⟨u1, u2, u3, rfl, ⟨x1, rfl, h1, h2⟩, ⟨x2, rfl, h3, h4⟩, ⟨x3, rfl, h5, h6⟩⟩ := ACons.three a
  exact q p G2 H2 (s1.trans s2) (s1.fresh hp) ⟨x1, x2, x3, w, h1, h2, h3, h4, h5, h6⟩
end TK

/-! part F27 -/
set_option Elab.async false
set_option linter.all false
set_option maxRecDepth 100000
set_option maxHeartbeats 4000000
namespace PG
open PySem PySem.Spec PyProof.Rows L2
section
variable {X : Cx} {σ : L2.St} {G : Hp} {o : Expr} {pos apos : Pos} {i : Int}
theorem ed_bits (ho : ED X o σ G (.int i)) (hbase : attributeBase o "bit_length" X.env (eval o X.env) = eval o X.env := by rfl) (hline : (apos.endLine == pos.line) = true := by rfl) : ED X (.Call (.Attribute o "bit_length" apos) [] [] pos) σ G (.int (Builtin.Int.intBits i : Nat)) := fun H Q ex k =>
  ⟨_, pe_bits (pe_self o) hbase hline, ho H _ ex fun v G1 H1 s r => ⟨i, Rp.int_eq r, k _ G1 H1 s (.int _)⟩⟩
end
end PG
namespace TK
open PySem PySem.Spec PyProof.Rows L2 PG
variable {P : Program} {w : World} {K : PySem.W.Frag} {mg : Str → Option Value} {base : Heap}
abbrev Dr (n : Int) : V → Hp → Prop := RI fun i => 0 ≤ i ∧ i < n
theorem bits_few {n : Int} (h0 : 1 ≤ n) (h1 : n ≤ 1000) : 1 + ((Builtin.Int.intBits n : Nat) : Int) / 30 = ((1 : Nat) : Int) := by
  have h : n.natAbs < 2 ^ 10 := by omega
  have b := PyProof.Rows.intBits_le h
  omega
theorem ok_draw {n : Int} (E : Env K mg) (h0 : 1 ≤ n) (h1 : n ≤ 1000) : C8.Cal P w K mg base 2 "_law_draw" (PrP (· + 1) (ACons (RD (.int n)) ANil) (Dr n)) [] :=
  cg_L_draw E PrP.len fun cdv A outer s H vs Q E' hr ⟨p, rest, G, b, e, ex, pu, hb, as, q⟩ => by
    obtain ⟨v1, rfl, r1⟩ := ACons.one as
    subst e
    have hb : b + 1 ≤ 100000 := hb
    obtain rfl := Rp.int_eq r1
    obtain ⟨a, c, m, wp, a0, a1, c0, c1, m0, m1⟩ := pu
    have hU : (upd G p (.lst [.int a, .int c, .int m])) p = some (.lst [.int a, .int c, .int m]) := upd_same
    refine ws_if (t := decide (0 < a)) (et_gt (ee_ixL (R := RD (.int a)) (i := 0) (ee_var (i := 0) rfl rfl) hU ed_int rfl (.int _)) ed_int) (wp.exU ex) fun H1 s1 => ?_
    have s1' := Stp.weak wp.exG s1
    have wp1 := wp.step0 s1'
    by_cases ha : 0 < a
    · rw [decide_eq_true ha]
      refine iteT ?_
      refine ws_set (i := 2) (G := upd G p (.lst [.int a, .int c, .int m])) (R := RD (.int (a % n))) sc_L_draw.nd (ed_mod (ee_ixL (R := RD (.int a)) (i := 0) (ee_var (i := 0) rfl rfl) hU ed_int rfl (.int _)) (ee_var (i := 1) rfl (.int _)) (by omega)) (wp1.exU s1'.i) fun v2 G2 H2 s2 r2 => ?_
      rw [Rp.int_eq r2]
      have s2' := Stp.weak wp1.exG s2
      have wp2 := wp1.step0 s2'
      refine ws_setLH (G := upd G p (.lst [.int a, .int c, .int m])) (R := RD (.int (a / n))) (n := 0) (j := 0) (ed_fdiv (ee_ixL (R := RD (.int a)) (i := 0) (ee_var (i := 0) rfl rfl) hU ed_int rfl (.int _)) (ee_var (i := 1) rfl (.int _)) (by omega) (by omega)) (ee_var (i := 0) rfl rfl) ed_int (wp2.exU (s1'.trans s2').i) wp2.h rfl fun v3 G3 H3 s3 r3 => ?_
      rw [Rp.int_eq r3]
      have s3' := Stp.weak wp2.exG s3
      have wp3 := wp2.step0 s3'
      have s03 := ((s1'.trans s2').trans s3').any (S := [p]) |>.mut (o := .lst [.int (a / n), .int c, .int m]) wp3.g (.inr (by simp))
      have hd : a / n ≤ a := Int.ediv_le_self n a0
      refine ws_ret (R := Dr n) (ee_var (i := 2) rfl ⟨_, rfl, Int.emod_nonneg _ (by omega), Int.emod_lt_of_pos _ (by omega)⟩) s03.i fun v4 G4 H4 s4 r4 => q v4 G4 H4 (s03.trans s4.any) ?_ r4
      exact Pu.step ⟨a / n, c, m, wp3.upd, Int.ediv_nonneg a0 (Int.le_trans (by decide) h0), Int.lt_of_le_of_lt hd a1, c0, c1, m0, (show m ≤ ((b + 1 : Nat) : Int) by clear a1; omega)⟩ s4
    · rw [decide_eq_false ha]
      refine iteF (ws_nil ?_)
      refine ws_set (i := 3) (R := RD (.int 0)) sc_L_draw.nd ed_int s1'.i fun v2 G2 H2 s2 r2 => ?_
      rw [Rp.int_eq r2]
      have s02 := s1'.trans s2
      have wp2 := wp1.step0 s2
      refine ws_forS (S := [p]) (Y := YN) (n := 1) (ei_range (n := 1) (ee_is (ed_add ed_int (ed_fdiv (ed_bits (ee_var (i := 1) rfl (.int _))) ed_int (by decide) (by decide))) (congrArg PyData.int (bits_few h0 h1))) (by decide) E.b_range) PassesOwn.never rfl s02.any
        (fun i σ' G' H' => ∃ o4 z, ∃ d : Int, σ' = [some (.ref p), some (.int n), none, some (.int z), o4] ∧ Own G' H' p (.lst [.int a, .int c, .int (m + d)]) ∧ d = i ∧ 0 ≤ z) (fun G3 H3 s3 => ⟨none, 0, 0, rfl, by rw [Int.add_zero]; exact wp2.step0 s3, rfl, by decide⟩) ?_ ?_
      · rintro G1' eg i σ' G' H' G3 H3 x hi e1 s3 ⟨o4, z, d, rfl, own, hd, z0⟩ s4 y
        obtain rfl : i = 0 := by omega
        obtain rfl : d = 0 := by rw [hd]; rfl
        rw [show x = .int ((0 : Nat) : Int) from y]
        refine wg (eg_name (i := 4) sc_L_draw.nd) s3.i fun H4 s5 => ?_
        have own4 := (own.step0 s4).step0 s5
        have s05 := s3.trans s5.any
        refine ws_setLH (G := upd G3 p (.lst [.int a, .int c, .int (m + 0)])) (R := RD (.int (m + 0 + 1))) (n := 2) (j := 2) (ed_add (ee_ixL (R := RD (.int (m + 0))) (i := 2) (ee_var (i := 0) rfl rfl) upd_same ed_int rfl (.int _)) ed_int) (ee_var (i := 0) rfl rfl) ed_int (own4.exU s05.i) own4.h rfl fun v3 G5 H5 s6 r3 => ?_
        rw [Rp.int_eq r3]
        have s6' := Stp.weak own4.exG s6
        have own5 := own4.step0 s6'
        have s06 := (s05.trans s6'.any).mut (o := .lst [.int a, .int c, .int (m + 0 + 1)]) own5.g (.inr (by simp))
        have own6 : Own G3 (upd H5 p (.lst [.int a, .int c, .int (m + 0 + 1)])) p (.lst [.int a, .int c, .int (m + 0 + 1)]) := own5.upd
        refine ws_set (i := 3) (G := upd G3 p (.lst [.int a, .int c, .int (m + 0 + 1)])) (R := RI fun z => 0 ≤ z) sc_L_draw.nd (ee_op op_add (Ra := RD (.int (z * 2147483587))) (Rb := RI fun z => 0 ≤ z ∧ z < 2147483587) (ed_mul (ee_var (i := 3) rfl (.int _)) ed_int (.inr (by decide)))
          (ee_cal (ok_mixed (c := c) (k := m + 0 + 1) E c0 c1 (by omega) (by omega)) hr (ea_cons (ee_ixL (R := RD (.int c)) (i := 1) (ee_var (i := 0) rfl rfl) upd_same ed_int rfl (.int _)) (ea1 (ee_ixL (R := RD (.int (m + 0 + 1))) (i := 2) (ee_var (i := 0) rfl rfl) upd_same ed_int rfl (.int _))))) fun x y G' _ rx ry => ?_) (own6.exU s06.i) fun v4 G6 H6 s7 r7 => ?_
        · obtain ⟨y', rfl, y0, y1⟩ := ry
          rw [Rp.int_eq rx]
          exact .val (fun H Q _ q => ⟨z * 2147483587, y', rfl, rfl, q⟩) ⟨_, rfl, by omega⟩
        obtain ⟨z', rfl, hz'⟩ := r7
        have s7' := Stp.weak own6.exG s7
        have own7 := own6.step0 s7'
        exact ws_nil ⟨G3, e1, s06.trans s7'.any, _, z', 1, rfl, by rw [Int.add_zero] at own7; exact own7, rfl, hz'⟩
      · rintro σ' G3 H3 e3 s3 ⟨o4, z, d, rfl, own, hd, z0⟩
        obtain rfl : d = 1 := by rw [hd]; rfl
        refine ws_ret (R := Dr n) (EE.imp (ed_mod (ee_var (i := 3) rfl (.int _)) (ee_var (i := 1) rfl (.int _)) (by omega)) fun v G' _ r => ⟨_, Rp.int_eq r, Int.emod_nonneg _ (by omega), Int.emod_lt_of_pos _ (by omega)⟩) s3.i fun v4 G4 H4 s4 r4 => q v4 G4 H4 (s3.trans s4.any) ?_ r4
        exact Pu.step ⟨a, c, m + 1, own, a0, a1, c0, c1, by clear a1; omega, (show m + 1 ≤ ((b + 1 : Nat) : Int) by clear a1; omega)⟩ s4
end TK

/-! part P21 -/
set_option Elab.async false
set_option linter.all false
set_option maxRecDepth 100000
set_option maxHeartbeats 4000000
/-! PG, part 21: more of what draws; unpacking. -/
namespace PG
open PySem PySem.Spec PyProof.Rows L2
section
variable {X : Cx} {σ σ' σ1 σ2 σ3 σ4 : L2.St} {G G0 G1 H H0 H1 : Hp} {e a c o tg iter elt x y z u : Expr} {es : List Expr} {R Ra Rb : V → Hp → Prop} {A : List V → Hp → Prop} {pos pp apos cpos : Pos} {p q : Addr} {b b1 b2 b3 : Nat} {D : Ends} {rest body : List Stmt} {S : List Addr} {v1 v2 v3 v4 : V} {k : Nat}
/-- a, b = a list of two that stands -/
theorem eg_lst2 (hc : X.calm = true) (hq : G q = some (.lst [v1, v2])) (h1 : EG X x v1 σ G σ1) (h2 : EG X y v2 σ1 G σ2)
    (hs1 : (assignEach [x, y] X.env).map (·.2) = assign x X.env :: (assignEach [y] X.env).map (·.2) := by rfl) (hs2 : (assignEach [y] X.env).map (·.2) = assign y X.env :: (assignEach [] X.env).map (·.2) := by rfl)
    (hn : (assignEach [x, y] X.env).length = 2 := by rfl) (hst : (assignEach [x, y] X.env).findIdx? (·.1) = none := by rfl) : EG X (.Tuple [x, y] k pos) (.ref q) σ G σ2 := fun H Q e kk =>
  ⟨_, pg_unl hc (pgs_cons (pg_self x) (pgs_cons (pg_self y) pgs_nil hs2) hs1) hn hst, q, [v1, v2], rfl, SqL.of (e _ _ hq), rfl, v1, [v2], rfl, h1 H _ e fun H1 s1 => ⟨v2, [], rfl, h2 H1 _ s1.i fun H2 s2 => ⟨rfl, kk H2 (s1.trans s2)⟩⟩⟩
/-- a, b, c, d = a tuple of four that stands -/
theorem eg_tup4 (hc : X.calm = true) (hq : G q = some (.tup [v1, v2, v3, v4])) (h1 : EG X x v1 σ G σ1) (h2 : EG X y v2 σ1 G σ2) (h3 : EG X z v3 σ2 G σ3) (h4 : EG X u v4 σ3 G σ4)
    (hs1 : (assignEach [x, y, z, u] X.env).map (·.2) = assign x X.env :: (assignEach [y, z, u] X.env).map (·.2) := by rfl) (hs2 : (assignEach [y, z, u] X.env).map (·.2) = assign y X.env :: (assignEach [z, u] X.env).map (·.2) := by rfl)
    (hs3 : (assignEach [z, u] X.env).map (·.2) = assign z X.env :: (assignEach [u] X.env).map (·.2) := by rfl) (hs4 : (assignEach [u] X.env).map (·.2) = assign u X.env :: (assignEach [] X.env).map (·.2) := by rfl)
    (hn : (assignEach [x, y, z, u] X.env).length = 4 := by rfl) (hst : (assignEach [x, y, z, u] X.env).findIdx? (·.1) = none := by rfl) : EG X (.Tuple [x, y, z, u] k pos) (.ref q) σ G σ4 := fun H Q e kk =>
  ⟨_, pg_tup hc (pgs_cons (pg_self x) (pgs_cons (pg_self y) (pgs_cons (pg_self z) (pgs_cons (pg_self u) pgs_nil hs4) hs3) hs2) hs1) hn hst, q, [v1, v2, v3, v4], rfl, SqT.of (e _ _ hq), rfl, v1, [v2, v3, v4], rfl, h1 H _ e fun H1 s1 => ⟨v2, [v3, v4], rfl, h2 H1 _ s1.i fun H2 s2 => ⟨v3, [v4], rfl, h3 H2 _ s2.i fun H3 s3 => ⟨v4, [], rfl, h4 H3 _ s3.i fun H4 s4 => ⟨rfl, kk H4 (((s1.trans s2).trans s3).trans s4)⟩⟩⟩⟩⟩
/-- target = e, e drawing -/
theorem ws_asgP (he : EP X e σ p b b1 G R) (ex : Ex G H) (pu : Pu G H p b) (k : ∀ v G' H', Stp [p] G H G' H' → Pu G' H' p b1 → R v G' → WG X tg v σ H' (WS X rest D)) (hs : swapsWithSole [tg] e pos.line X.env = pure false := by rfl) (hw : swappedStores [tg] e X.env = pure none := by rfl)
    (h1 : (assignEach [tg] X.env).map (·.2) = [assign tg X.env] := by rfl) : WS X (.Assign [tg] e pos :: rest) D σ H :=
  ws_cons ⟨_, ps_asg (pe_self e) (pg_self tg) hs hw h1, he H _ ex pu k⟩
/-- one of a list, drawn -/
theorem ep_ixL {ds : List PyData} (ha : ED X a σ G (.list ds)) (hi : EP X c σ p b b1 G (RI fun i => 0 ≤ i ∧ i < ds.length)) (hs : PlainIx c := by intro _ _; rfl) : EP X (.Subscript a c pos) σ p b b1 G (RQ (· ∈ ds)) := fun H Q ex pu k =>
  ⟨_, pe_ix ix_list (pe_self a) (pe_self c) hs, ep_two (ep_ee ha) hi ex pu fun x y G' H' s pu' rx ⟨i, ey, h0, h1⟩ => by
    obtain ⟨t, xs, rfl, e1, e2⟩ := Rp.lst_eq rx
    have hi : i.toNat < ds.length := by omega
    obtain ⟨v, hv, rv⟩ := Paired.get e2 (List.getElem?_eq_getElem hi)
    refine ⟨t, xs, i, v, rfl, ey, SqL.of (s.i _ _ e1), ?_, k v G' H' s pu' ⟨_, List.getElem_mem hi, rv⟩⟩
    have := L2.atI_nat hv
    rw [show ((i.toNat : Nat) : Int) = i by omega] at this
    exact this⟩
/-- the first so many of a list, as drawn -/
theorem ep_slL {ds : List PyData} {Φ : Int → Prop} {p2 : Pos} (ha : ED X a σ G (.list ds)) (hc : EP X c σ p b b1 G (RI Φ)) : EP X (.Subscript a (.Slice none (some c) none p2) pos) σ p b b1 G (RQ fun d => ∃ i : Int, Φ i ∧ d = .list (cutD ds none (some i))) := fun H Q ex pu k =>
  ⟨_, pe_slice sl_list (pe_self a) po_none (po_some (pe_self c)), ha H _ ex fun v G1 H1 s1 r1 => (hc.mono s1.g) H1 _ s1.i (pu.step s1) fun y G2 H2 s2 pu2 ⟨i, ey, hi⟩ => by
    have s := s1.any.trans s2
    obtain ⟨q, xs, rfl, h1, h2⟩ := Rp.lst_eq r1
    refine ⟨i, ey, q, xs, rfl, SqL.of (s2.i _ _ (s2.g _ _ h1)), fun t ht => ?_⟩
    have s3 : Stp [] G2 H2 (L2.upd G2 t (.lst (cutV xs none (some i)))) (L2.upd H2 t (.lst (cutV xs none (some i)))) := Stp.newP s2.i ht
    exact k _ _ _ (s.trans s3.any) (pu2.step s3) ⟨_, ⟨i, hi, rfl⟩, .lst upd_same (Rp.monoAll (s2.g.trans s3.g) _ _ (cut_paired h2))⟩⟩
/-- a list, then one of two -/
theorem ep_lst2 {i : Int} {e2 : Expr} [MonoR Ra] [MonoR Rb] (ha : EP X a σ p b b1 G Ra) (hb : EP X c σ p b1 b2 G Rb) (hi : ED X e2 σ G (.int i)) (h01 : i = 0 ∨ i = 1) [m : MonoR R] (k1 : ∀ v G', Ra v G' → R v G') (k2 : ∀ v G', Rb v G' → R v G') (hs : PlainIx e2 := by intro _ _; rfl)
    (hs1 : starEach [a, c] X.env = (false, eval a X.env) :: starEach [c] X.env := by rfl) (hs2 : starEach [c] X.env = (false, eval c X.env) :: starEach [] X.env := by rfl) : EP X (.Subscript (.List [a, c] apos) e2 pos) σ p b b2 G R := fun H Q ex pu k =>
  ⟨_, pe_ix ix_list (pe_lst (pa_self [a, c])) (pe_self e2) hs, (epa_cons ha (epa_cons hb epa_nil hs2) hs1) H _ ex pu fun vs G1 H1 s1 pu1 r1 => by
    obtain ⟨x1, x2, rfl, r1, r2⟩ := ACons.two r1
    refine ⟨small (by simp), fun t ht => ?_⟩
    have s2 : Stp [] G1 H1 (L2.upd G1 t (.lst [x1, x2])) (L2.upd H1 t (.lst [x1, x2])) := Stp.newP s1.i ht
    have s02 := s1.trans s2.any
    refine (hi.mono s02.g) _ _ s02.i fun y G3 H3 s3 r3 => ?_
    have s03 := s02.trans s3.any
    have eg := s2.g.trans s3.g
    rcases h01 with rfl | rfl
    · exact ⟨t, [x1, x2], 0, x1, rfl, Rp.int_eq r3, SqL.of (s3.i _ _ (s3.g _ _ upd_same)), rfl, k x1 G3 H3 s03 ((pu1.step s2).step s3) (m.mono _ _ _ eg (k1 _ _ r1))⟩
    · exact ⟨t, [x1, x2], 1, x2, rfl, Rp.int_eq r3, SqL.of (s3.i _ _ (s3.g _ _ upd_same)), rfl, k x2 G3 H3 s03 ((pu1.step s2).step s3) (m.mono _ _ _ eg (k2 _ _ r2))⟩⟩
end
end PG

/-! part P22 -/
set_option Elab.async false
set_option linter.all false
set_option maxRecDepth 100000
set_option maxHeartbeats 4000000
/-! PG, part 22: comprehensions and loops that draw. -/
namespace PG
open PySem PySem.Spec PyProof.Rows L2
section
variable {X : Cx} {σ σ' : L2.St} {G G0 G1 H H0 H1 : Hp} {e a c o tg iter elt : Expr} {es : List Expr} {R Ra Rb : V → Hp → Prop} {A : List V → Hp → Prop} {pos pp apos cpos : Pos} {p q : Addr} {b b0 b1 b2 b3 : Nat} {D : Ends} {rest body : List Stmt} {S : List Addr} {n : Nat} {Y : Nat → V → Hp → Prop} {scope : Scope} {own : List (Str × Nat)}
theorem Stp.locP {x : Addr} {G2 H2 : Hp} (s : Stp [p] G H G1 H1) (hx : H1 x = none) : H x = none := by
  cases z : H x with
  | none => rfl
  | some u =>
    obtain ⟨u', hu, _⟩ := s.h _ _ z
    rw [hx] at hu
    cases hu
/-- [elt for tg in iter], elt drawing at most w times a turn -/
theorem ep_lc {w : Nat} {R : Nat → V → Hp → Prop} (hm : ∀ i, MonoR (R i)) (hc : X.calm = true) (hN : X.N.Nodup) (hi : EI X tg iter σ G n Y) (ok : BlkOk X.N X.env.scope scope own)
    (turn : ∀ i x G', Ex G G' → i < n → Y i x G' → ∃ σ', wipe σ' (own.map (·.2)) = wipe σ (own.map (·.2)) ∧ ∀ (s : Shared) (H : Hp) (C : Addr) (cl : List (Str × Addr)) (fp : List Addr), EG (Blk X scope s H C cl fp) tg x (wipe σ (own.map (·.2))) G' σ' ∧
      EP (Blk X scope s H C cl fp) elt σ' p (b + i * w) (b + (i + 1) * w) G' (R i)) (hn : n ≤ 10000) (hs : ∀ x, foldedSetIterable iter X.env x = pure x := by intro _; rfl) :
    EP X (.ListComp elt [⟨tg, iter, [], 0⟩] scope pos) σ p b (b + n * w) G (LstR ((List.range n).map R)) := fun H Q ex pu k => by
  refine ⟨_, pe_lc hc hN (pi_self tg iter) ok (gB_ok tg) (tB_ok []) (eB_ok elt) hs, ?_⟩
  refine hi H _ ex fun J G1 H1 s1 it D hD => ?_
  have hpD : p ≠ D := fun z => by
    obtain ⟨_, _, _, w, _⟩ := pu.step s1
    rw [z] at w
    have := w.h
    rw [hD] at this
    cases this
  have pu1 : Pu G1 (L2.upd H1 D (.lst [])) p (b + 0 * w) := by
    rw [Nat.zero_mul]
    exact (pu.step s1).step (Stp.newO s1.i hD)
  refine ⟨fun i m H' => m = n - i ∧ i ≤ n ∧ ∃ G' vs, Stp [p] G1 H1 G' H' ∧ Pu G' H' p (b + i * w) ∧ Own G' H' D (.lst vs) ∧ Paired (fun v R => R v G') vs ((List.range i).map R), ⟨n, rfl, Nat.zero_le _, G1, [], (Stp.newO s1.i hD).any, pu1, Own.new s1.i hD, .nil⟩, ?_⟩
  rintro i m H' ⟨rfl, hin, G', vs, s2, pu2, w2, pr⟩
  have eg : Ex G1 G' := s2.g
  by_cases hlt : i < n
  · refine .inr ⟨it.go i H' (eg.trans s2.i) hlt, fun H'' => ∃ G' vs, Stp [p] G1 H1 G' H'' ∧ Pu G' H'' p (b + (i + 1) * w) ∧ Own G' H'' D (.lst vs) ∧ Paired (fun v R => R v G') vs ((List.range (i + 1)).map R), fun H'' q => ⟨n - (i + 1), by omega, rfl, hlt, q⟩, fun x H2 y => ?_⟩
    obtain ⟨G2, s3, yi⟩ := it.yld i G' H' x H2 eg s2.i hlt y
    have s23 := s2.trans s3.any
    obtain ⟨σ', hw, ht⟩ := turn i x G2 (s1.g.trans s23.g) hlt yi
    intro s0 H0 C cl fp
    refine (ht s0 H0 C cl fp).1 H2 _ s3.i fun H3 s4 => ⟨hw, ?_⟩
    intro s0 H0 C cl fp
    refine ets_nil H3 _ s4.i fun H4 s5 => iteT ?_
    intro s0 H0 C cl fp
    have w4 := ((w2.step0 s3).step0 s4).step0 s5
    refine (ht s0 H0 C cl fp).2 H4 _ s5.i (((pu2.step s3).step s4).step s5) fun v G5 H5 s6 pu5 r6 => ?_
    have s26 := ((s23.trans s4.any).trans s5.any).trans s6
    have w5 := w4.step s6 (by simpa using hpD.symm)
    have vl : vs.length ≤ i := by rw [Paired.length pr]; simp
    refine ⟨vs, w5.h, small' (by omega), G5, vs ++ [v], s26.mut w5.g (.inl hD), ?_, w5.upd, ?_⟩
    · obtain ⟨a', c', n', wp, hh⟩ := pu5
      exact ⟨a', c', n', wp.other hpD, hh⟩
    · rw [List.range_succ, List.map_append]
      refine Paired.app (Paired.impR pr fun v' R' hR hv => ?_) (.cons r6 .nil)
      obtain ⟨j, _, rfl⟩ := List.mem_map.mp hR
      exact (hm j).mono _ _ _ (s3.g.trans s6.g) hv
  · have hi' : i = n := by omega
    subst hi'
    refine .inl ⟨it.stop H' (eg.trans s2.i), ?_⟩
    have s3 := s2.frz w2.h hD
    refine k (.ref D) _ H' (s1.any.trans s3) ?_ ⟨D, vs, rfl, upd_same, Paired.impR pr fun v R' hR hv => ?_⟩
    · obtain ⟨a', c', n', wp, hh⟩ := pu2
      exact ⟨a', c', n', wp.frz hpD, hh⟩
    · obtain ⟨j, _, rfl⟩ := List.mem_map.mp hR
      exact (hm j).mono _ _ _ (Ex.new w2.g) hv
/-- tuple(a), a a list told item by item -/
theorem ep_tupL {Rs : List (V → Hp → Prop)} (hm : ∀ R ∈ Rs, MonoR R) (ha : EP X a σ p b b1 G (LstR Rs)) (hmm : X.mg "tuple" = none) (hg : Gl X "tuple" := by rfl) (he : starEach [a] X.env = (false, eval a X.env) :: starEach [] X.env := by rfl) (hpl : (backTo pos (starEach [] X.env)).any (·.1) = false := by rfl) : EP X (.Call (.Name "tuple" pp) [a] [] pos) σ p b b1 G (TupR Rs) := fun H Q ex pu k =>
  ⟨_, pe_callTy call_tuple_of hg hmm (by decide +kernel) (pa_cons (pe_self a) pa_nil he) (by decide) (by decide) he hpl, ha H _ ex pu fun v G1 H1 s1 pu1 ⟨q, xs, ev, h1, h2⟩ => by
    subst ev
    refine ⟨_, xs, rfl, .inl ⟨SqL.of (s1.i _ _ h1), fun l hl => ?_⟩⟩
    have s2 : Stp [] G1 H1 (L2.upd G1 l (.tup xs)) (L2.upd H1 l (.tup xs)) := Stp.newP s1.i hl
    exact k _ _ _ (s1.trans s2.any) (pu1.step s2) ⟨l, xs, rfl, upd_same, Paired.impR h2 fun v R hR hv => (hm R hR).mono _ _ _ s2.g hv⟩⟩
/-- items of some data each: the list, the tuple is some data -/
theorem rqs {Φ : Nat → PyData → Prop} : ∀ {l : List Nat} {xs : List V}, Paired (fun (v : V) (R : V → Hp → Prop) => R v G) xs (l.map fun i => RQ (Φ i)) → ∃ ds : List PyData, Paired (Rp G) xs ds ∧ Paired (fun (d : PyData) (i : Nat) => Φ i d) ds l
  | [], _, h => by
    cases h
    exact ⟨[], .nil, .nil⟩
  | i :: l, _, h => by
    cases h with
    | cons r t =>
      obtain ⟨d, hd, rd⟩ := r
      obtain ⟨ds, h1, h2⟩ := rqs t
      exact ⟨d :: ds, .cons rd h1, .cons hd h2⟩
theorem rqs_at {Φ : Nat → PyData → Prop} {n : Nat} {ds : List PyData} (h : Paired (fun (d : PyData) (i : Nat) => Φ i d) ds (List.range n)) : ds.length = n ∧ ∀ (i : Nat) (z : PyData), ds[i]? = some z → Φ i z := by
  refine ⟨by rw [Paired.length h, List.length_range], fun i z hz => ?_⟩
  obtain ⟨j, hj, r⟩ := Paired.getL h hz
  have hi : i < n := by
    have := (List.getElem?_eq_some_iff.mp hj).1
    simpa using this
  rw [List.getElem?_range hi] at hj
  rw [Option.some.inj hj]
  exact r
theorem lst_rq {Φ : Nat → PyData → Prop} {v : V} {n : Nat} (h : LstR ((List.range n).map fun i => RQ (Φ i)) v G) : RQ (fun d => ∃ ds : List PyData, d = .list ds ∧ ds.length = n ∧ ∀ (i : Nat) (z : PyData), ds[i]? = some z → Φ i z) v G := by
  obtain ⟨q, xs, rfl, h1, h2⟩ := h
  obtain ⟨ds, h3, h4⟩ := rqs h2
  obtain ⟨h5, h6⟩ := rqs_at h4
  exact ⟨_, ⟨ds, rfl, h5, h6⟩, .lst h1 h3⟩
theorem tup_rq {Φ : Nat → PyData → Prop} {v : V} {n : Nat} (h : TupR ((List.range n).map fun i => RQ (Φ i)) v G) : RQ (fun d => ∃ ds : List PyData, d = .tuple ds ∧ ds.length = n ∧ ∀ (i : Nat) (z : PyData), ds[i]? = some z → Φ i z) v G := by
  obtain ⟨q, xs, rfl, h1, h2⟩ := h
  obtain ⟨ds, h3, h4⟩ := rqs h2
  obtain ⟨h5, h6⟩ := rqs_at h4
  exact ⟨_, ⟨ds, rfl, h5, h6⟩, .tup h1 h3⟩
/-- for tg in range(e), e drawing -/
theorem ws_forR {Φ : Int → Prop} {rp : Pos} {fpos : Pos} (he : EP X e σ p b b1 G (RI Φ)) (hΦ : ∀ i, Φ i → 0 ≤ i ∧ i ≤ 10000) (ex : Ex G H) (pu : Pu G H p b) (hp : PassesOwn (model X.prog X.w) X.A X.env X.xe) (hc : X.calm = true) (hm : X.mg "range" = none)
    (k : ∀ (n : Nat) G1 H1, Φ n → Stp [p] G H G1 H1 → Pu G1 H1 p b1 → ∃ Iv : Nat → L2.St → Hp → Hp → Prop, Iv 0 σ G1 H1 ∧
      (∀ i σ' G' H', i < n → Ex G1 G' → Ex G' H' → Iv i σ' G' H' → WG X tg (.int (i : Nat)) σ' H' fun σ2 H3 => WS X body { D with nx := fun σ H => ∃ G', Ex G1 G' ∧ Ex G' H ∧ Iv (i + 1) σ G' H, ct := fun σ H => ∃ G', Ex G1 G' ∧ Ex G' H ∧ Iv (i + 1) σ G' H, bk := WS X rest D } σ2 H3) ∧
      (∀ σ' G' H', Ex G1 G' → Ex G' H' → Iv n σ' G' H' → WS X rest D σ' H'))
    (hg : Gl X "range" := by rfl) (hs : starEach [e] X.env = [(false, eval e X.env)] := by rfl) (hse : starEach [e] X.env = (false, eval e X.env) :: starEach [] X.env := by rfl) (hfs : ∀ x, foldedSetIterable (.Call (.Name "range" rp) [e] [] fpos) X.env x = pure x := by intro _; rfl) :
    WS X (.For tg (.Call (.Name "range" rp) [e] [] fpos) body [] pos :: rest) D σ H := by
  refine ws_cons ⟨_, ps_for hp hc (pi_range1 hg hm (pa_cons (pe_self e) pa_nil hse) hs) (pg_self tg) (pss_self body) hfs, ?_⟩
  refine he H _ ex pu fun v G1 H1 s1 pu1 ⟨n', ev, hn'⟩ => ?_
  subst ev
  obtain ⟨h0, h1⟩ := hΦ n' hn'
  obtain ⟨n, rfl⟩ : ∃ n : Nat, n' = n := ⟨n'.toNat, by omega⟩
  obtain ⟨Iv, i0, hstep, hend⟩ := k n G1 H1 hn' s1 pu1
  refine ⟨n, rfl, by omega, by omega, ?_⟩
  refine ⟨fun i m σ H => m = n - i ∧ i ≤ n ∧ ∃ G', Ex G1 G' ∧ Ex G' H ∧ Iv i σ G' H, ⟨n, rfl, Nat.zero_le _, G1, Ex.refl _, s1.i, i0⟩, ?_⟩
  rintro i m σ' H' ⟨rfl, hin, G', e1, e2, iv⟩
  by_cases hlt : i < n
  · refine .inr ⟨(show i < (n : Int).toNat by omega), fun σ H => ∃ G', Ex G1 G' ∧ Ex G' H ∧ Iv (i + 1) σ G' H, fun σ2 H2 q => ⟨n - (i + 1), by omega, rfl, hlt, q⟩, fun x H2 y => ?_⟩
    obtain ⟨rfl, rfl⟩ := y
    have := hstep i σ' G' _ hlt e1 e2 iv
    rw [← Int.zero_add (i : Int)] at this
    exact this
  · have hn : i = n := by omega
    subst hn
    exact .inl ⟨(show (i : Int).toNat ≤ i by omega), hend σ' G' H' e1 e2 iv⟩
end
end PG

/-! part Q8 -/
set_option Elab.async false
set_option linter.all false
set_option maxRecDepth 100000
set_option maxHeartbeats 4000000
/-! PG, part Q8: tuples that are known to the last sign; dict(a tuple of pairs). -/
namespace PG
open PySem PySem.Spec PyProof.Rows L2
section
variable {X : Cx} {es : List Expr} {t : TA} {pos : Pos}
def tTupF (t : TA) : TE := fun σ H Q => t σ H fun xs H1 => xs.length ≤ sizeLine ∧ ∀ p o, H1 p = none → o.dict = none → Q (.ref p) (L2.upd H1 p (.frz o (.tup xs)))
theorem pe_tupF {x1} (h : PA X es t) : PE X (.Tuple es x1 pos) (tTupF t) := by
  refine ⟨fun pins s σ H Q I hq => ?_⟩
  refine wpAny_Tuple_spliced (thn (h.run pos pins s σ H _ I hq) fun us s1 ⟨xs, H1, I1, r, z, q⟩ => ⟨by rw [← r.length]; exact z, ?_⟩)
  have hf : H1 s1.heap.objs.size = none := I1.hok.fresh (Nat.le_refl _)
  have ho := Heap.get?_push_size s1.heap (o := { cls := .type "tuple", data := .seq us.toArray }) rfl
  refine ⟨.ref s1.heap.objs.size, L2.upd H1 s1.heap.objs.size (.frz { cls := .type "tuple", data := .seq us.toArray } (.tup xs)), I1.laid (t' := s1.toks) (fun b u e => Heap.get?_push_of_some _ e) (Nat.le_refl _) ?_, rfl, q _ _ hf rfl⟩
  exact ⟨ho, z, us, r, ⟨_, ho, rfl, _, rfl⟩⟩
theorem call_tupF : CallR X (.type "tuple") (fun xs H Q => ∃ p ys, xs = [.ref p] ∧ SqL X.K H p ys ∧ ∀ l o, H l = none → o.dict = none → Q (.ref l) (L2.upd H l (.frz o (.tup ys)))) := by
  intro pins s σ H xs us Q I r h
  obtain ⟨p, ys, rfl, hq, q⟩ := h
  obtain ⟨u, rfl, rx⟩ := vals1 r
  cases rx
  obtain ⟨its, r', pl, hz⟩ := I.list hq
  have hlen := r'.length
  refine call_tuple_list pl.isList (fun h' kp => ?_) (by simp only [List.size_toArray] <;> omega)
  have I1 : Inv X pins σ H { s with heap := h' } := I.kept (t' := s.toks) kp
  have ho := Heap.get?_push_size h' (o := { cls := .type "tuple", data := .seq its.toArray }) rfl
  have I2 : Inv X pins σ (L2.upd H h'.objs.size (.frz { cls := .type "tuple", data := .seq its.toArray } (.tup ys))) { s with heap := h'.push { cls := .type "tuple", data := .seq its.toArray } } :=
    I1.laid (t' := s.toks) (fun b o e => Heap.get?_push_of_some _ e) (Nat.le_refl _) (show ObjOk X.prog X.w _ _ _ (.frz { cls := .type "tuple", data := .seq its.toArray } (.tup ys)) from ⟨ho, hz, its, r', IsTup.new _ _⟩)
  exact ⟨.ref h'.objs.size, _, I2, rfl, q _ _ (I1.hok.fresh (Nat.le_refl _)) rfl⟩
theorem pairs_ofU {pins : List (Addr × Obj)} {σ : L2.St} {H : Hp} {s : Shared} (I : Inv X pins σ H s) : ∀ {ps : List Addr} {kvs : List (Key × V)}, Paired (fun p kv => SqT X.K H p [kV kv.1, kv.2]) ps kvs →
    ∃ (prs : List (Key × Value)) (uvs : List (Value × Value)), KV kvs prs ∧ prs.length = ps.length ∧ uvs.length = ps.length ∧ ∀ (j : Nat) (u v : Value), uvs[j]? = some (u, v) → ∃ (b : Addr) (k : Key), ps[j]? = some b ∧ prs[j]? = some (k, v) ∧ IsTup s.heap b #[u, v] ∧ keyIs k u = true
  | _, _, .nil => ⟨[], [], .nil, rfl, rfl, fun j u v e => by simp at e⟩
  | _, _, .cons (a := p) (b := kv) h t => by
    obtain ⟨prs, uvs, r, hl, hl2, hp⟩ := pairs_ofU I t
    obtain ⟨its, rv, ht, _⟩ := I.tuple h
    obtain ⟨u, y, ei, ru, ry⟩ := vals2 rv
    subst ei
    refine ⟨(kv.1, y) :: prs, (u, y) :: uvs, .cons ⟨rfl, ry⟩ r, by rw [List.length_cons, List.length_cons, hl], by rw [List.length_cons, List.length_cons, hl2], fun j u' v' e => ?_⟩
    cases j with
    | zero =>
      have e' : (u, y) = (u', v') := Option.some.inj e
      cases e'
      exact ⟨p, kv.1, rfl, rfl, ht, kV_is (P := X.prog) (w := X.w) ru⟩
    | succ j =>
      obtain ⟨b, k, e1, e2, e3, e4⟩ := hp j u' v' (by simpa using e)
      exact ⟨b, k, by simpa using e1, by simpa using e2, e3, e4⟩
/-- dict(a tuple of pairs) -/
theorem call_dictF (hcalm : X.calm = true) : CallR X (.type "dict") (fun xs H Q => ∃ (a : Addr) (o : Obj) (ps : List Addr) (kvs : List (Key × V)), xs = [.ref a] ∧ H a = some (.frz o (.tup (ps.map V.ref))) ∧ o.dict = none ∧ Paired (fun p kv => SqT X.K H p [kV kv.1, kv.2]) ps kvs ∧
    ∀ p, H p = none → Q (.ref p) (L2.upd H p (.dK (mergeK [] kvs)))) := by
  intro pins s σ H xs us Q I r q
  obtain ⟨a, o, ps, kvs, ex, hq, hod, hp, q⟩ := q
  subst ex
  obtain ⟨u, eu, rx⟩ := vals1 r
  subst eu
  cases rx
  obtain ⟨ho, hz, its, rv, o', ho', hc, n, hdat⟩ := (show ObjOk X.prog X.w H s.heap a (.frz o (.tup (ps.map V.ref))) from I.hok a _ hq)
  rw [ho] at ho'
  cases ho'
  have ei := refs_at rv
  subst ei
  rw [List.length_map] at hz
  obtain ⟨prs, uvs, rel, hl, hl2, hpr⟩ := pairs_ofU I hp
  have P := PySem.PairArg.tuple (prog := X.prog) (w := X.w) a (ps.map Value.ref).toArray (fun j => ps.getD j 0) uvs
  refine PySem.call_dict_pairs (knd := mixKind X.prog X.w) (kvs := prs) P (I.ok.hd hcalm) ⟨⟨o, n, ho, hc, hod, hdat⟩, by simp [hl2], fun j k v hj => ?_⟩ ⟨by rw [hl, hl2], fun i key v hi => ?_⟩ (by rw [hl2]; exact hz) fun h' tk hd' k => ?_
  · obtain ⟨b, k', e1, e2, e3, e4⟩ := hpr j k v hj
    have eg : ps.getD j 0 = b := by rw [List.getD_eq_getElem?_getD, e1]; rfl
    exact ⟨by simp [e1, List.getD_eq_getElem?_getD], by show PySem.PairAt s.heap (ps.getD j 0) k v; rw [eg]; exact .inl e3⟩
  · obtain ⟨b, k', e1, e2, e3, e4⟩ := hpr i key v hi
    exact ⟨k', e2, e4⟩
  · have hm : (s.heap.objs.size == sysModules) = false := beq_eq_false_iff_ne.mpr (Nat.ne_of_gt I.big)
    have hlen : (mergeK [] kvs).length ≤ sizeLine := by
      refine Nat.le_trans (length_mergeK kvs []) ?_
      rw [List.length_nil, Nat.zero_add, rel.length, hl]
      exact hz
    exact ⟨.ref s.heap.objs.size, L2.upd H s.heap.objs.size (.dK (mergeK [] kvs)), I.laid (t' := tk) (fun b o e => k b o (by simp) e) (Nat.le_refl _) (show ObjOk X.prog X.w _ _ _ (.dK (mergeK [] kvs)) from ⟨hlen, hm, merged [] prs, KV.merge rel .nil, hd'⟩), rfl, q _ (I.hok.fresh (Nat.le_refl _))⟩
end
/-- a tuple of data, known to the last sign -/
def RF (ds : List PyData) : V → Hp → Prop := fun v G => ∃ a o xs, v = .ref a ∧ G a = some (.frz o (.tup xs)) ∧ o.dict = none ∧ Paired (Rp G) xs ds
instance (ds : List PyData) : MonoR (RF ds) := ⟨fun _ _ _ e ⟨a, o, xs, h1, h2, h3, h4⟩ => ⟨a, o, xs, h1, e _ _ h2, h3, Rp.monoAll e _ _ h4⟩⟩
theorem RF.rp {ds : List PyData} {v : V} {G : Hp} (h : RF ds v G) (hp : plD ds = true) : Rp G v (.tuple ds) := by
  obtain ⟨a, o, xs, rfl, h2, _, h4⟩ := h
  exact .prt h2 hp h4
section
variable {X : Cx} {σ : L2.St} {G G1 H H1 : Hp} {e a c o : Expr} {es : List Expr} {pos pp apos cpos : Pos} {ds : List PyData}
theorem ee_tupF (h : EA X es σ G (AD ds)) (hl : ds.length ≤ 1000) {x1} : EE X (.Tuple es x1 pos) σ G (RF ds) := fun H Q e q =>
  ⟨_, pe_tupF (pa_self es), h H _ e fun vs G1 H1 s1 r1 => ⟨small (by rw [r1.len]; omega), fun p ob hp hd => q _ _ _ (s1.trans (Stp.newP s1.i hp)) ⟨p, ob, vs, rfl, upd_same, hd, Rp.monoAll (Ex.new (s1.i.none hp)) _ _ r1⟩⟩⟩
theorem ee_tupLF (ha : ED X a σ G (.list ds)) (hm : X.mg "tuple" = none) (hg : Gl X "tuple" := by rfl) (he : starEach [a] X.env = (false, eval a X.env) :: starEach [] X.env := by rfl) (hpl : (backTo pos (starEach [] X.env)).any (·.1) = false := by rfl) : EE X (.Call (.Name "tuple" pp) [a] [] pos) σ G (RF ds) :=
  ee_cty call_tupF hm (by decide +kernel) (ea1 ha he) (fun vs G' _ r0 => by
    obtain ⟨v, rfl, r⟩ := ACons.one r0
    obtain ⟨q, xs, rfl, h1, h2⟩ := Rp.lst_eq r
    exact fun H Q e k => ⟨_, xs, rfl, SqL.of (e _ _ h1), fun l ob hl hd => k _ _ _ (Stp.newP e hl) ⟨l, ob, xs, rfl, upd_same, hd, Rp.monoAll (Ex.new (e.none hl)) _ _ h2⟩⟩) hg (he := he) (hpl := hpl)
end
end PG

/-! part F28 -/
set_option Elab.async false
set_option linter.all false
set_option maxRecDepth 100000
set_option maxHeartbeats 4000000
namespace PG
open PySem PySem.Spec PyProof.Rows L2
section
variable {X : Cx} {σ : L2.St} {G G1 H H1 : Hp} {e a c o : Expr} {es : List Expr} {R Ra Rb : V → Hp → Prop} {A : List V → Hp → Prop} {pos pp apos cpos : Pos} {p q : Addr} {b b1 b2 : Nat} {D : Ends} {rest : List Stmt} {n : Nat}
theorem Pu.ne {xs : List V} (pu : Pu G H p b) (w : Own G H q (.lst xs)) (h : H1 q = none) (s : ∀ a o, H1 a = some o → a ≠ q) (h1 : ∃ o, H1 p = some o) : p ≠ q := by
  obtain ⟨o, ho⟩ := h1
  exact s p o ho
theorem Pu.other {u : HO} (pu : Pu G H p b) (h : p ≠ q) : Pu G (L2.upd H q u) p b := by
  obtain ⟨a', c', n', w, hh⟩ := pu
  exact ⟨a', c', n', w.other h, hh⟩
theorem Pu.there (pu : Pu G H p b) (h : H q = none) : p ≠ q := by
  obtain ⟨a', c', n', w, hh⟩ := pu
  exact w.ne2 h
theorem ep_tup {x1 : Nat} [l : LenA A n] (h : EPA X es σ p b b1 G A) (hn : n ≤ 1000 := by decide) (kk : ∀ vs G' t, A vs G' → G' t = none → R (.ref t) (L2.upd G' t (.tup vs))) : EP X (.Tuple es x1 pos) σ p b b1 G R := fun H Q ex pu k =>
  ⟨_, pe_tup (pa_self es), h H _ ex pu fun vs G1 H1 s1 pu1 r1 => ⟨small (by rw [l.len _ _ r1]; omega), fun t ht => k _ _ _ (s1.trans (Stp.newP s1.i ht).any) (pu1.step (Stp.newP s1.i ht)) (kk vs G1 t r1 (s1.i.none ht))⟩⟩
/-- o.append(e), e drawing -/
theorem ws_appendP {xs : List V} (ho : EE X o σ G (RV (.ref q))) (w : Own G H q (.lst xs)) (hne : q ≠ p) (hl : xs.length < 100000) (he : EP X e σ p b b1 G R) (ex : Ex G H) (pu : Pu G H p b) [m : MonoR R]
    (k : ∀ v G' H', Stp [p] G H G' H' → Pu G' H' p b1 → R v G' → Own G' H' q (.lst xs) → WS X rest D σ (L2.upd H' q (.lst (xs ++ [v])))) (hs : swapsWith (.Call (.Attribute o "append" apos) [e] [] cpos) none pos.line X.env = pure false := by rfl)
    (hE : PE X (.Call (.Attribute o "append" apos) [e] [] cpos) (tBM X.K "list" rAppend (WE X o) (tCons (WE X e) tNil)) := by
      exact pe_bm PySem.F.plainAttrs_list PySem.F.slot_list_append PySem.F.type_list_append mt_append (pe_self _) (pa_cons (pe_self _) pa_nil)) : WS X (.Expr (.Call (.Attribute o "append" apos) [e] [] cpos) pos :: rest) D σ H := by
  refine ws_cons ⟨_, ps_expr hE hs, ho H _ ex fun v G1 H1 s1 r1 => ?_⟩
  have w1 := w.step0 s1
  rw [show v = .ref q from r1]
  refine ⟨.inl ⟨rfl, _, SqL.of w1.h⟩, (he.mono s1.g) H1 _ s1.i (pu.step s1) fun y G2 H2 s2 pu2 r2 => ?_⟩
  have w2 := w1.step s2 (by simpa using hne)
  exact ⟨q, xs, y, rfl, rfl, w2.h, small' hl, k y G2 H2 (s1.any.trans s2) pu2 r2 w2⟩
end
end PG
namespace TK
open PySem PySem.Spec PyProof.Rows L2 PG
variable {P : Program} {w : World} {K : PySem.W.Frag} {mg : Str → Option Value} {base : Heap}
/-- parts as the law draws them: each place once, in the order of the places, one or two of it -/
structure PS (ns : List Str) (i : Nat) (ps : List (Str × Int)) : Prop where
  mem : ∀ p ∈ ps, p.1 ∈ ns.take i
  cnt : ∀ p ∈ ps, 1 ≤ p.2 ∧ p.2 ≤ 2
  up : ps.Pairwise fun p q => ix ns p.1 < ix ns q.1
theorem PS.len {ns : List Str} {i : Nat} {ps : List (Str × Int)} (h : PS ns i ps) : ps.length ≤ ns.length := by
  have := nodup_len (l := ps.map (·.1)) (m := ns) (by
    rw [List.Nodup, List.pairwise_map]
    exact h.up.imp fun hlt e => by
      rw [e] at hlt
      exact absurd hlt (Nat.lt_irrefl _)) (fun z hz => by
    obtain ⟨p, hp, rfl⟩ := List.mem_map.mp hz
    exact List.mem_of_mem_take (h.mem p hp))
  rw [List.length_map] at this
  exact this
theorem PS.nil {ns : List Str} {i : Nat} : PS ns i [] := ⟨fun p h => by simp at h, fun p h => by simp at h, .nil⟩
theorem PS.succ {ns : List Str} {i : Nat} {ps : List (Str × Int)} (h : PS ns i ps) : PS ns (i + 1) ps := ⟨fun p hp => (List.take_subset_take_left ns (Nat.le_succ i)) (h.mem p hp), h.cnt, h.up⟩
theorem PS.add {ns : List Str} {i : Nat} {ps : List (Str × Int)} {x : Str} {z : Int} (h : PS ns i ps) (nd : ns.Nodup) (hx : ns[i]? = some x) (z0 : 1 ≤ z) (z1 : z ≤ 2) : PS ns (i + 1) (ps ++ [(x, z)]) := by
  have hi : ∀ p ∈ ps, ix ns p.1 < i := fun p hp => by
    obtain ⟨j, hj⟩ := List.mem_iff_getElem?.mp (h.mem p hp)
    have hji : j < i := by
      have := (List.getElem?_eq_some_iff.mp hj).1
      rw [List.length_take] at this
      omega
    rw [List.getElem?_take_of_lt hji] at hj
    rw [ix_get nd hj]
    exact hji
  refine ⟨fun p hp => ?_, fun p hp => ?_, ?_⟩
  · rcases List.mem_append.mp hp with q | q
    · exact h.succ.mem p q
    · obtain rfl : p = (x, z) := by simpa using q
      exact List.mem_iff_getElem?.mpr ⟨i, by rw [List.getElem?_take_of_lt (Nat.lt_succ_self i)]; exact hx⟩
  · rcases List.mem_append.mp hp with q | q
    · exact h.cnt p q
    · obtain rfl : p = (x, z) := by simpa using q
      exact ⟨z0, z1⟩
  · refine List.pairwise_append.mpr ⟨h.up, List.pairwise_singleton .., fun p hp q hq => ?_⟩
    obtain rfl : q = (x, z) := by simpa using hq
    rw [ix_get nd hx]
    exact hi p hp
def PSR (ns : List Str) : V → Hp → Prop := fun v G => ∃ ps : List (Str × Int), RF (ps.map pairD) v G ∧ PS ns ns.length ps
instance (ns : List Str) : MonoR (PSR ns) := ⟨fun v G G' e ⟨ps, r, h⟩ => ⟨ps, MonoR.mono _ _ _ e r, h⟩⟩
theorem plD_pairs (ps : List (Str × Int)) : plD (ps.map pairD) = true := by
  unfold plD
  rw [List.all_map]
  exact List.all_eq_true.mpr fun p _ => rfl
theorem ok_parts {ns : List Str} {m : Int} (E : Env K mg) (nd : ns.Nodup) (hl : ns.length ≤ 5) : C8.Cal P w K mg base 3 "_law_parts" (PrP (· + 2 * ns.length) (ACons (RD (.list (ns.map .str))) (ACons (RD (.int m)) ANil)) (PSR ns)) [] :=
  cg_L_parts E PrP.len fun cdv A outer s H vs Q E' hr ⟨p, rest, G, b, e, ex, pu, hb, as, q⟩ => by
    obtain ⟨v1, v2, rfl, r1, r2⟩ := ACons.two as
    subst e
    refine ws_setN (i := 3) sc_L_parts.nd en_lst0 ex fun t o G1 H1 s1 ht w1 ho => ?_
    subst ho
    have hpt := pu.there ht
    refine ws_forS (S := [p]) (Y := YD (ns.map .str)) (ei_list (ee_var (i := 1) rfl (Rp.mono s1.g _ _ r1))) PassesOwn.never rfl s1.any
      (fun i σ' G' H' => ∃ o4 vs ps, σ' = [some (.ref p), some v1, some v2, some (.ref t), o4] ∧ Pu G' H' p (b + 2 * i) ∧ Own G' H' t (.lst vs) ∧ Paired (Rp G') vs (ps.map pairD) ∧ PS ns i ps) (fun G2 H2 s2 => ⟨none, [], [], rfl, (pu.step s1).step s2, w1.step0 s2, .nil, .nil⟩) ?_ ?_
    · rintro G1' eg i σ' G' H' G3 H3 x hi e1 s2 ⟨o4, us, ps, rfl, pu2, own, pus, hps⟩ s3 ⟨d, hd, rd⟩
      rw [List.getElem?_map] at hd
      obtain ⟨nm, hn, rfl⟩ := Option.map_eq_some_iff.mp hd
      have hi5 : i < ns.length := (List.getElem?_eq_some_iff.mp hn).1
      refine wg (eg_name (i := 4) sc_L_parts.nd) s2.i fun H4 s4 => ?_
      have own4 := (own.step0 s3).step0 s4
      have pu4 := (pu2.step s3).step s4
      have s04 := s2.trans s4.any
      have pl4 := Rp.monoAll (s3.g.trans s4.g) _ _ pus
      have eG : Ex G G3 := s1.g.trans (eg.trans e1)
      have ul : us.length ≤ 5 := by
        rw [Paired.length pus, List.length_map]
        exact Nat.le_trans hps.len hl
      have bl : b + 2 * ns.length ≤ 100000 := hb
      refine ws_ifP (G := upd G3 t (.lst us)) (b1 := b + 2 * i + 1) (ept_and (b1 := b + 2 * i + 1) (ept_any (t := fun _ => True) (ept_cmp (op_eqD hr.units) (ep_cal (ok_draw (n := 3) E (by decide) (by decide)) hr (ee_var (i := 0) rfl rfl) (epa_cons (ep_ee ed_int) epa_nil) (show b + 2 * i + 1 ≤ 100000 by omega)) (ep_ee ed_int) (fun x y G' _ rx ry => ?_) (nomark _)))
        (ept_any (ept_et (et_lt (i := us.length) (j := m) (ed_lenV (ee_var (i := 3) rfl rfl) upd_same E.b_len) (ee_var (i := 2) rfl (Rp.mono (eG.trans own4.exG) _ _ r2))))) (Nat.le_refl _)) (own4.exU s04.i) (pu4.frz hpt) fun u G5 H5 _ s5 pu5 => ?_
      · obtain ⟨z, rfl, _⟩ := rx
        exact ⟨_, trivial, ro_eqD (.int z) ry rfl rfl⟩
      have s5' := Stp.weakS own4.exG s5
      have pu5' := pu5.low (own4.exG.trans s5.g)
      have s05 := s04.trans s5'
      have own5 := own4.step s5' (by simpa using hpt.symm)
      cases u with
      | false => exact iteF (ws_nil (ws_nil ⟨G3, e1, s05, x, us, ps, rfl, pu5'.le (by omega), own5, pl4, hps.succ⟩))
      | true =>
        refine iteT ?_
        refine ws_appendP (b1 := b + 2 * i + 1 + 1) (R := RQ fun d => ∃ z, d = pairD (nm, z) ∧ 1 ≤ z ∧ z ≤ 2) (ee_var (i := 3) rfl rfl) own5 hpt.symm (by omega) (ep_tup (A := ACons (RD (.str nm)) (ACons (RI fun z => 1 ≤ z ∧ z ≤ 2) ANil)) (epa_cons (ep_ee (ee_var (i := 4) rfl rd)) (epa_cons (ep_op op_add (Ra := RD (.int 1)) (Rb := RI fun z => 0 ≤ z ∧ z ≤ 1) (ep_ee ed_int)
          (ep_op op_fdiv (Ra := Dr 8) (Rb := RD (.int 6)) (ep_cal (ok_draw (n := 8) E (by decide) (by decide)) hr (ee_var (i := 0) rfl rfl) (epa_cons (ep_ee ed_int) epa_nil) (show b + 2 * i + 1 + 1 ≤ 100000 by omega)) (ep_ee ed_int) (fun x y G' _ ⟨z, ez, z0, z1⟩ ry => ?_)) (fun x y G' _ rx ⟨z, ez, z0, z1⟩ => ?_)) epa_nil)) (by decide) (fun vs G' q a hq => ?_)) s05.i pu5' fun v G6 H6 s6 pu6 r6 w6 => ?_
        · rw [ez, Rp.int_eq ry]
          exact .val (fun H Q _ q => ⟨z, 6, rfl, rfl, ⟨by decide, by decide⟩, q⟩) ⟨_, rfl, by omega, by omega⟩
        · rw [ez, Rp.int_eq rx]
          exact .val (fun H Q _ q => ⟨1, z, rfl, rfl, q⟩) ⟨_, rfl, by omega, by omega⟩
        · obtain ⟨u1, u2, rfl, ru1, z, rfl, z0, z1⟩ := ACons.two a
          exact ⟨_, ⟨z, rfl, z0, z1⟩, .tup upd_same (.cons (Rp.mono (Ex.new hq) _ _ ru1) (.cons (.int z) .nil))⟩
        · obtain ⟨d, ⟨z, rfl, z0, z1⟩, rd6⟩ := r6
          have s06 := (s05.trans s6).mut (o := .lst (us ++ [v])) w6.g (.inl ht)
          refine ws_nil (ws_nil ⟨G6, e1.trans s6.g, s06, x, us ++ [v], ps ++ [(nm, z)], rfl, (pu6.other hpt).le (by omega), w6.upd, ?_, hps.add nd hn z0 z1⟩)
          rw [List.map_append]
          exact Paired.app (Rp.monoAll s6.g _ _ pl4) (.cons rd6 .nil)
    · rintro σ' G3 H3 e3 s3 ⟨o4, us, ps, rfl, pu3, own, pus, hps⟩
      rw [List.length_map] at pu3 hps
      have s4 := s3.frz own.h ht
      have e4 := own.exG
      refine ws_retP (b1 := b + 2 * ns.length) (R := PSR ns) (ep_ee (EE.imp (ee_tupLF (ds := ps.map pairD) (ee_var (i := 3) (R := RD (.list (ps.map pairD))) rfl (.lst upd_same (Rp.monoAll e4 _ _ pus))) E.b_tuple) fun v G' _ r => ⟨ps, r, hps⟩)) s4.i (pu3.frz hpt) fun v G5 H5 s5 pu5 r5 => q v G5 H5 (s4.trans s5) pu5 r5
end TK

/-! part F29 -/
set_option Elab.async false
set_option linter.all false
set_option maxRecDepth 100000
set_option maxHeartbeats 4000000
namespace PG
open PySem PySem.Spec PyProof.Rows L2
section
variable {X : Cx} {σ : L2.St} {G : Hp} {a b : Expr} {pos : Pos}
theorem inV_strs {x : Str} : ∀ {ys : List Str}, inV (.str x) (ys.map V.str) = decide (x ∈ ys)
  | [] => by simp [inV]
  | y :: ys => by
    have ih := inV_strs (x := x) (ys := ys)
    unfold inV at ih ⊢
    rw [List.map_cons, List.any_cons, ih]
    by_cases e : y = x
    · subst e
      simp [eqV]
    · have : ¬ x = y := fun z => e z.symm
      simp [eqV, e, this]
theorem et_inStrs {x : Str} {ys : List Str} (ha : ED X a σ G (.str x)) (hb : ED X b σ G (.tuple (ys.map .str))) (hm : behindInMarks .In b = false := by with_unfolding_all rfl) : ET X (.Compare a [.In] [b] pos) σ G (decide (x ∈ ys)) :=
  et_cmp op_in_seq ha hb (fun x' y' G' eg rx ry => by
    obtain ⟨q, xs, rfl, h1, h2⟩ := Rp.tup_rd ry
    rw [Rp.str_eq rx, ← inV_strs]
    rw [strs_paired h2] at h1
    exact .val (fun H Q e q' => ⟨q, ys.map V.str, rfl, .inr (sqT_rd (rdX e h1)), rfl, by simp [flatV], q'⟩) (.bl _)) hm
theorem et_inStrsL {x : Str} {ys : List Str} (ha : ED X a σ G (.str x)) (hb : ED X b σ G (.list (ys.map .str))) (hm : behindInMarks .In b = false := by with_unfolding_all rfl) : ET X (.Compare a [.In] [b] pos) σ G (decide (x ∈ ys)) :=
  et_cmp op_in_seq ha hb (fun x' y' G' eg rx ry => by
    obtain ⟨q, xs, rfl, h1, h2⟩ := Rp.lst_eq ry
    rw [Rp.str_eq rx, ← inV_strs]
    rw [strs_paired h2] at h1
    exact .val (fun H Q e q' => ⟨q, ys.map V.str, rfl, .inl (SqL.of (e _ _ h1)), rfl, by simp [flatV], q'⟩) (.bl _)) hm
end
end PG
namespace TK
open PySem PySem.Spec PyProof.Rows L2 PG
variable {P : Program} {w : World} {K : PySem.W.Frag} {mg : Str → Option Value} {base : Heap}
theorem PS.one {ns : List Str} {x : Str} {z : Int} (hx : x ∈ ns) (z0 : 1 ≤ z) (z1 : z ≤ 2) : PS ns ns.length [(x, z)] := ⟨fun p hp => by
    obtain rfl : p = (x, z) := by simpa using hp
    rw [List.take_length]
    exact hx, fun p hp => by
    obtain rfl : p = (x, z) := by simpa using hp
    exact ⟨z0, z1⟩, List.pairwise_singleton ..⟩
theorem ix_pair {ns : List Str} (nd : ns.Nodup) : ns.Pairwise fun x y => ix ns x < ix ns y := by
  rw [List.pairwise_iff_getElem]
  intro i j hi hj hij
  rw [ix_get nd (List.getElem?_eq_getElem hi), ix_get nd (List.getElem?_eq_getElem hj)]
  exact hij
theorem PS.both {ns : List Str} (nd : ns.Nodup) (c : Str → Bool) : PS ns ns.length ((ns.filter c).map fun x => (x, 1)) := ⟨fun p hp => by
    obtain ⟨x, hx, rfl⟩ := List.mem_map.mp hp
    rw [List.take_length]
    exact (List.mem_filter.mp hx).1, fun p hp => by
    obtain ⟨x, hx, rfl⟩ := List.mem_map.mp hp
    exact ⟨(show (1 : Int) ≤ 1 by decide), (show (1 : Int) ≤ 2 by decide)⟩, by
    rw [List.pairwise_map]
    exact (ix_pair nd).sublist List.filter_sublist⟩
section
variable {X : Cx} {σ : L2.St} {G : Hp} {e a : Expr} {p : Addr} {b j : Nat} {n : Int} {pos pp : Pos}
theorem ep_draw (E : Env X.K X.mg) (h0 : 1 ≤ n) (h1 : n ≤ 1000) (hr : Room j X.A) (hp : EE X e σ G (RV (.ref p))) (ha : ED X a σ G (.int n)) (hb : b + 1 ≤ 100000) (hk : 2 ≤ j := by decide) (hg : Gl X "_law_draw" := by rfl)
    (he : starEach [e, a] X.env = (false, eval e X.env) :: starEach [a] X.env := by rfl) (he2 : starEach [a] X.env = (false, eval a X.env) :: starEach [] X.env := by rfl) (hpl : (backTo pos (starEach [a] X.env)).any (·.1) = false := by rfl) : EP X (.Call (.Name "_law_draw" pp) [e, a] [] pos) σ p b (b + 1) G (Dr n) :=
  ep_cal (bb := (· + 1)) (ok_draw E h0 h1) hr hp (epa_cons (ep_ee ha) epa_nil he2) hb hk hg (by decide) he hpl
end
def EvR (ns : List Str) : V → Hp → Prop := fun v G => ∃ (q : Addr) (u1 u2 : V) (t g : List (Str × Int)), v = .ref q ∧ G q = some (.lst [u1, u2]) ∧ RF (t.map pairD) u1 G ∧ RF (g.map pairD) u2 G ∧ PS ns ns.length t ∧ PS ns ns.length g
instance (ns : List Str) : MonoR (EvR ns) := ⟨fun v G G' e ⟨q, u1, u2, t, g, h1, h2, h3, h4, h5, h6⟩ => ⟨q, u1, u2, t, g, h1, e _ _ h2, MonoR.mono _ _ _ e h3, MonoR.mono _ _ _ e h4, h5, h6⟩⟩
theorem ee_evR {X : Cx} {σ : L2.St} {G : Hp} {a b : Expr} {pos : Pos} {ns : List Str} {t g : List (Str × Int)} (ha : EE X a σ G (RF (t.map pairD))) (hb : EE X b σ G (RF (g.map pairD))) (ht : PS ns ns.length t) (hg : PS ns ns.length g)
    (hs1 : starEach [a, b] X.env = (false, eval a X.env) :: starEach [b] X.env := by rfl) (hs2 : starEach [b] X.env = (false, eval b X.env) :: starEach [] X.env := by rfl) : EE X (.List [a, b] pos) σ G (EvR ns) :=
  EN.ee (en_lst (A := ACons (RF (t.map pairD)) (ACons (RF (g.map pairD)) ANil)) (ea_cons ha (ea1 hb hs2) hs1) (by decide)) fun p o G' _ ⟨vs, eo, a⟩ hp => by
    subst eo
    obtain ⟨u1, u2, rfl, r1, r2⟩ := ACons.two a
    exact ⟨p, u1, u2, t, g, rfl, upd_same, MonoR.mono _ _ _ (Ex.new hp) r1, MonoR.mono _ _ _ (Ex.new hp) r2, ht, hg⟩
theorem ee_one {X : Cx} {σ : L2.St} {G : Hp} {e : Expr} {pos p2 p3 : Pos} {x : Str} {z : Int} {j n1 n2 : Nat} (he : ED X e σ G (.str x)) (hs1 : starEach [e, .Constant (.int z) j p3] X.env = (false, eval e X.env) :: starEach [.Constant (.int z) j p3] X.env := by rfl)
    (hs2 : starEach [.Constant (.int z) j p3] X.env = (false, eval (.Constant (.int z) j p3) X.env) :: starEach [] X.env := by rfl) (hs3 : starEach [.Tuple [e, .Constant (.int z) j p3] n1 p2] X.env = (false, eval (.Tuple [e, .Constant (.int z) j p3] n1 p2) X.env) :: starEach [] X.env := by rfl) :
    EE X (.Tuple [.Tuple [e, .Constant (.int z) j p3] n1 p2] n2 pos) σ G (RF (([(x, z)] : List (Str × Int)).map pairD)) :=
  ee_tupF (ds := [pairD (x, z)]) (ad_cons (ed_tup (hl := by simp) (ad_cons he (ad_cons ed_int ad_nil hs2) hs1)) ad_nil hs3) (by simp)
theorem ok_even {ns : List Str} (E : Env K mg) (nd : ns.Nodup) (h1 : 1 ≤ ns.length) (hl : ns.length ≤ 5) (hok : ∀ x ∈ ns, okName x = true) : C8.Cal P w K mg base 3 "_law_even" (PrP (· + 4) (ACons (RD (.list (ns.map .str))) ANil) (EvR ns)) [] :=
  cg_L_even E PrP.len fun cdv A outer s H vs Q E' hr ⟨p, rest, G, b, e, ex, pu, hb, as, q⟩ => by
    obtain ⟨v1, rfl, r1⟩ := ACons.one as
    subst e
    have hb : b + 4 ≤ 100000 := hb
    have nm : ∀ {X : Cx} {σ : L2.St} {G' : Hp} {b' : Nat} {o c : Expr} {pos : Pos} (hn : ED X o σ G' (.list (ns.map .str))) (hc : EP X c σ p b' (b' + 1) G' (Dr ns.length)) (hs : PlainIx c), EP X (.Subscript o c pos) σ p b' (b' + 1) G' (RQ fun d => ∃ x ∈ ns, d = .str x) := fun hn hc hs =>
      EP.imp (ep_ixL hn (hc.imp fun v G' _ ⟨i, e, a, c⟩ => ⟨i, e, a, by rw [List.length_map]; exact c⟩) hs) fun v G' _ ⟨d, hd, rd⟩ => by
        obtain ⟨x, hx, rfl⟩ := List.mem_map.mp hd
        exact ⟨_, ⟨x, hx, rfl⟩, rd⟩
    have h10 : (1 : Int) ≤ ns.length := by omega
    have h11 : (ns.length : Int) ≤ 1000 := by omega
    refine ws_setP (i := 2) (b1 := b + 1) sc_L_even.nd (nm (ee_var (i := 1) rfl r1) (ep_draw (n := ns.length) E h10 h11 hr (ee_var (i := 0) rfl rfl) (ee_is (ed_lenL (ee_var (i := 1) rfl r1) E.b_len) (by rw [List.length_map])) (by omega)) (by intro _ _; rfl)) ex pu fun u2 G1 H1 s1 pu1 ⟨d, ⟨one, hone, ed⟩, rd⟩ => ?_
    subst ed
    have r11 := Rp.mono s1.g _ _ r1
    refine ws_setP (i := 3) (b1 := b + 1 + 1) sc_L_even.nd (nm (ee_var (i := 1) rfl r11) (ep_draw (n := ns.length) E h10 h11 hr (ee_var (i := 0) rfl rfl) (ee_is (ed_lenL (ee_var (i := 1) rfl r11) E.b_len) (by rw [List.length_map])) (by omega)) (by intro _ _; rfl)) s1.i pu1 fun u3 G2 H2 s2 pu2 ⟨d, ⟨oth, hoth, ed⟩, rd2⟩ => ?_
    subst ed
    have s02 := s1.trans s2
    refine ws_setP (i := 4) (b1 := b + 1 + 1 + 1) (R := Dr 3) sc_L_even.nd (ep_draw (n := 3) E (by decide) (by decide) hr (ee_var (i := 0) rfl rfl) ed_int (by omega)) s02.i pu2 fun u4 G3 H3 s3 pu3 ⟨ch, ec, c0, c1⟩ => ?_
    subst ec
    have s03 := s02.trans s3
    have e13 := s2.g.trans s3.g
    have r13 := Rp.mono e13 _ _ r11
    have rd3 := Rp.mono e13 _ _ rd
    have rd23 := Rp.mono s3.g _ _ rd2
    refine ws_if (t := decide (ch = 0) || decide (one = oth)) (et_or (et_is (et_eq hr (ee_var (i := 4) rfl (.int _)) ed_int rfl rfl) (by rw [PyData.eqv]; rfl)) fun _ => et_is (et_eq hr (ee_var (i := 2) rfl rd3) (ee_var (i := 3) rfl rd23) (shp_name (hok _ hone)).of (shp_name (hok _ hoth)).of) (by rw [PyData.eqv]; by_cases e : one = oth <;> simp [e])) s03.i fun H4 s4 => ?_
    have s04 := s03.trans s4.any
    have pu4 := pu3.step s4
    cases ht : (decide (ch = 0) || decide (one = oth)) with
    | true =>
      refine iteT (ws_ret (R := EvR ns) (ee_evR (t := [(one, 1)]) (g := [(oth, 1)]) (ee_one (ee_var (i := 2) rfl rd3)) (ee_one (ee_var (i := 3) rfl rd23)) (PS.one hone (by decide) (by decide)) (PS.one hoth (by decide) (by decide))) s04.i fun v G5 H5 s5 r5 => q v G5 H5 (s04.trans s5.any) ((pu4.step s5).le (by show b + 1 + 1 + 1 ≤ b + 4; omega)) r5)
    | false =>
      refine iteF (ws_nil ?_)
      have ch0 : ch ≠ 0 := fun z => by
        rw [decide_eq_true z, Bool.true_or] at ht
        cases ht
      refine ws_set (i := 5) (R := RF (((ns.filter fun x => decide (x ∈ [one, oth])).map fun x => ((x, 1) : Str × Int)).map pairD)) sc_L_even.nd (ee_tupLF (ds := ((ns.filter fun x => decide (x ∈ [one, oth])).map fun x => ((x, 1) : Str × Int)).map pairD) ?_ E.b_tuple) s04.i fun u5 G5 H5 s5 rb => ?_
      · rw [List.map_map, ← fm_if]
        refine ed_lcM (l := ns) (src := PyData.str) (own := [("_law_name", 6)]) rfl sc_L_even.nd (ei_list (ee_var (i := 1) rfl r13)) (blkOk_by (N := N_L_even) (sc := defScope s_L_even) (by decide +kernel)) _ (fun i x y G' eg hx ry => Turn1.test ⟨_, ?_, fun s H C cl fp => ⟨eg_name (i := 6) sc_L_even.nd, ?_, fun _ => ?_⟩⟩) (by omega)
        · rfl
        · exact ets_one (et_inStrs (ys := [one, oth]) (ee_var (i := 6) rfl ry) (ed_tup (ad_cons (ee_var (i := 2) rfl (Rp.mono eg _ _ rd3)) (ad_cons (ee_var (i := 3) rfl (Rp.mono eg _ _ rd23)) ad_nil)) (hl := by simp)))
        · exact ed_tup (ad_cons (ee_var (i := 6) rfl ry) (ad_cons ed_int ad_nil)) (hl := by simp)
      have s05 := s04.trans s5.any
      have pu5 := pu4.step s5
      refine ws_setP (i := 7) (b1 := b + 1 + 1 + 1 + 1) sc_L_even.nd (nm (ee_var (i := 1) rfl (Rp.mono s5.g _ _ r13)) (ep_draw (n := ns.length) E h10 h11 hr (ee_var (i := 0) rfl rfl) (ee_is (ed_lenL (ee_var (i := 1) rfl (Rp.mono s5.g _ _ r13)) E.b_len) (by rw [List.length_map])) (by omega)) (by intro _ _; rfl)) s05.i pu5 fun u7 G6 H6 s6 pu6 ⟨d, ⟨thd, hthd, ed⟩, rd6⟩ => ?_
      subst ed
      have s06 := s05.trans s6
      have rb6 : RF _ u5 G6 := MonoR.mono _ _ _ s6.g rb
      have pB := PS.both (ns := ns) nd fun x => decide (x ∈ [one, oth])
      have p3 := PS.one (ns := ns) (z := 2) hthd (by decide) (by decide)
      refine ws_retP (R := EvR ns) (b1 := b + 1 + 1 + 1 + 1) (ep_lst2 (i := ch - 1) (ep_ee (ee_evR (g := [(thd, 2)]) (ee_var (i := 5) rfl rb6) (ee_one (ee_var (i := 7) rfl rd6)) pB p3)) (ep_ee (ee_evR (t := [(thd, 2)]) (ee_one (ee_var (i := 7) rfl rd6)) (ee_var (i := 5) rfl rb6) p3 pB)) (ed_sub (ee_var (i := 4) rfl (.int _)) ed_int) (by omega) (fun _ _ r => r) (fun _ _ r => r)) s06.i pu6 fun v G7 H7 s7 pu7 r7 => q v G7 H7 (s06.trans s7) pu7 r7
end TK

/-! part F30 -/
set_option Elab.async false
set_option linter.all false
set_option maxRecDepth 100000
set_option maxHeartbeats 4000000
namespace PG
open PySem PySem.Spec PyProof.Rows L2
section
variable {X : Cx} {σ : L2.St} {G H : Hp} {e o : Expr} {R : V → Hp → Prop} {pos : Pos} {p q : Addr} {b b1 : Nat} {D : Ends} {rest : List Stmt}
/-- o[i] = e, e drawing -/
theorem ws_setLP {xs : List V} {i : Expr} {n : Int} {j : Nat} {pos' : Pos} (he : EP X e σ p b b1 G R) [m : MonoR R] (ho : EE X o σ G (RV (.ref q))) (hi : ED X i σ G (.int n)) (ex : Ex G H) (pu : Pu G H p b) (hq : H q = some (.lst xs)) (hne : q ≠ p) (hj : ixN xs.length n = some j)
    (k : ∀ v G' H', Stp [p] G H G' H' → Pu G' H' p b1 → R v G' → WS X rest D σ (L2.upd H' q (.lst (xs.set j v)))) (hs : swapsWithSole [.Subscript o i pos'] e pos.line X.env = pure false := by rfl) (hw : swappedStores [.Subscript o i pos'] e X.env = pure none := by rfl)
    (h1 : (assignEach [.Subscript o i pos'] X.env).map (·.2) = [assign (.Subscript o i pos') X.env] := by rfl)
    (ha : ∀ v, assign (.Subscript o i pos') X.env v = (do
      let ov ← holding [v] (eval o X.env)
      let iv ← holding [v, ov] (eval i X.env)
      standAt pos'
      holding [v, ov, iv] (setItem ov iv v)
      release [v, ov, iv] []) := by intro _; rfl) : WS X (.Assign [.Subscript o i pos'] e pos :: rest) D σ H := by
  refine ws_cons ⟨_, ps_asg (pe_self e) (pg_sub (pe_self o) (pe_self i) set_list ha) hs hw h1, he H _ ex pu fun v G1 H1 s1 pu1 r1 => ?_⟩
  refine (ho.mono s1.g) H1 _ s1.i fun x G2 H2 s2 r2 => (hi.mono (s1.g.trans s2.g)) H2 _ s2.i fun y G3 H3 s3 r3 => ?_
  have s23 := s2.trans s3
  obtain ⟨o', h2, h3, _⟩ := s1.h _ _ hq
  rw [h3 (by simpa using hne)] at h2
  exact ⟨q, xs, n, j, r2, r3.int_eq, s23.ex _ _ h2, hj, k v G3 H3 (s1.trans s23.any) (pu1.step s23) (m.mono _ _ _ s23.g r1)⟩
end
end PG
namespace TK
open PySem PySem.Spec PyProof.Rows L2 PG
variable {P : Program} {w : World} {K : PySem.W.Frag} {mg : Str → Option Value} {base : Heap}
def GoR (m : Nat) : V → Hp → Prop := RQ fun d => ∃ g : Hp', d = tI g ∧ g.length = m ∧ ∀ z ∈ g, 0 ≤ z
instance (m : Nat) : MonoR (GoR m) := inferInstanceAs (MonoR (RQ _))
theorem ok_goal {N : Net} (E : Env K mg) (W : Wf N) : C8.Cal P w K mg base 3 "_law_goal" (PrP (· + 5) (ACons (RD (netD N)) ANil) (GoR N.places.length)) [] := by
  obtain ⟨fd, F⟩ := E.f_L_goal
  refine cal_g F E.g_L_goal (bd_L_goal F) .nil sc_L_goal PrP.len fun cdv A outer s H vs Q E' hr ⟨p, rest, G, b, e, ex, pu, hb, as, q⟩ => ?_
  obtain ⟨v1, rfl, r1⟩ := ACons.one as
  subst e
  have hb : b + 5 ≤ 100000 := hb
  have pl := W.len
  have pn : 1 ≤ N.places.length := List.length_pos_iff.mpr W.ne
  refine ws_setLcM (i := 2) (l := N.places) (src := pairD) (own := [("_law_place", 3)]) rfl sc_L_goal.nd (ei_tup (ed_ixT (i := 0) (ee_var (i := 1) rfl r1) ed_int atI_zero)) (blkOk_by (N := N_L_goal) (sc := defScope s_L_goal) (by decide +kernel)) (fun _ => some (.int 0)) (fun j z x G' eg hz rx => ?_) (by omega) ex fun t us G1 H1 s1 ht w1 pu1 => ?_
  · refine ⟨_, ?_, fun s H C cl fp => ⟨eg_name (i := 3) sc_L_goal.nd, ets_nil, ed_int⟩⟩
    rfl
  rw [fm_some] at pu1
  have hus : us = (List.replicate N.places.length (0 : Int)).map V.int := by
    have e1 : N.places.map (fun _ => PyData.int 0) = (List.replicate N.places.length (0 : Int)).map .int := by
      rw [List.map_replicate]
      exact List.map_const' ..
    rw [e1] at pu1
    exact paired_ints pu1
  subst hus
  have hpt := pu.there ht
  refine ws_forR (Φ := fun i => 0 ≤ i ∧ i < 3) (b1 := b + 1) (ep_draw (n := 3) E (by decide) (by decide) hr (ee_var (i := 0) rfl rfl) ed_int (by omega)) (fun i hi => ⟨hi.1, by omega⟩) s1.i (pu.step s1) PassesOwn.never rfl E.b_range fun n G2 H2 hn s2 pu2 => ?_
  have w2 := w1.step s2 (by simpa using hpt.symm)
  have s02 := s1.any.trans s2
  refine ⟨fun i σ' G' H' => ∃ o4 o5, ∃ g : Hp', σ' = [some (.ref p), some v1, some (.ref t), none, o4, o5] ∧ Stp [p] G H G' H' ∧ Pu G' H' p (b + 1 + 2 * i) ∧ Own G' H' t (.lst (g.map V.int)) ∧ g.length = N.places.length ∧ ∀ z ∈ g, 0 ≤ z, ⟨none, none, List.replicate N.places.length (0 : Int), rfl, s02, pu2, w2, List.length_replicate .., fun z hz => by rw [List.eq_of_mem_replicate hz]; exact Int.le_refl _⟩, ?_, ?_⟩
  · rintro i σ' G' H' hi e1 e2 ⟨o4, o5, g, rfl, s3, pu3, own, gl, gn⟩
    have hi2 : i < 2 := by omega
    refine wg (eg_name (i := 4) sc_L_goal.nd) s3.i fun H4 s4 => ?_
    have own4 := own.step0 s4
    have pu4 := pu3.step s4
    have s04 := s3.trans s4.any
    refine ws_setP (i := 5) (G := upd G' t (.lst (g.map V.int))) (b1 := b + 1 + 2 * i + 1) (R := Dr N.places.length) sc_L_goal.nd (ep_draw (n := N.places.length) E (by omega) (by omega) hr (ee_var (i := 0) rfl rfl) (ee_is (ed_lenV (ee_var (i := 2) rfl rfl) upd_same E.b_len) (by rw [List.length_map, gl])) (by omega)) (own4.exU s04.i) (pu4.frz hpt) fun v5 G5 H5 s5 pu5 ⟨at_, ea, a0, a1⟩ => ?_
    subst ea
    have s5' := Stp.weakS own4.exG s5
    have pu5' := pu5.low (own4.exG.trans s5.g)
    have s05 := s04.trans s5'
    have own5 := own4.step s5' (by simpa using hpt.symm)
    obtain ⟨j, rfl⟩ : ∃ j : Nat, at_ = j := ⟨at_.toNat, by omega⟩
    have hj : j < g.length := by omega
    refine ws_setLP (G := upd G' t (.lst (g.map V.int))) (b1 := b + 1 + 2 * i + 1 + 1) (R := RI fun z => 0 ≤ z) (n := (j : Nat)) (j := j) (ep_op op_add (Ra := RD (.int (g.getD j 0 + 1))) (Rb := Dr 2) (ep_ee (ed_add (ee_ixL (R := RD (.int (g.getD j 0))) (i := (j : Nat)) (ee_var (i := 2) rfl rfl) upd_same (ee_var (i := 5) rfl (.int _)) (L2.atI_nat (by rw [List.getElem?_map, List.getElem?_eq_getElem hj]; simp [List.getD_eq_getElem?_getD, hj])) (.int _)) ed_int))
      (ep_draw (n := 2) E (by decide) (by decide) hr (ee_var (i := 0) rfl rfl) ed_int (by omega)) fun x y G' _ rx ⟨z, ez, z0, z1⟩ => ?_) (ee_var (i := 2) rfl rfl) (ee_var (i := 5) rfl (.int _)) (own5.exU s05.i) (pu5'.frz hpt) own5.h hpt.symm (ixN_nat (by rw [List.length_map]; exact hj)) fun v6 G6 H6 s6 pu6 ⟨z, ez, z0⟩ => ?_
    · rw [ez, Rp.int_eq rx]
      have g0 : 0 ≤ g.getD j 0 := by
        rw [List.getD_eq_getElem?_getD, List.getElem?_eq_getElem hj]
        exact gn _ (List.getElem_mem hj)
      exact .val (fun H Q _ q => ⟨_, z, rfl, rfl, q⟩) ⟨_, rfl, by omega⟩
    · subst ez
      have s6' := Stp.weakS own5.exG s6
      have pu6' := pu6.low (own5.exG.trans s6.g)
      have own6 := own5.step s6' (by simpa using hpt.symm)
      have s06 := (s05.trans s6').mut (o := .lst ((g.map V.int).set j (.int z))) own6.g (.inl ht)
      refine ws_nil ⟨G', e1, s06.i, some (.int (i : Nat)), some (.int (j : Nat)), g.set j z, rfl, s06, (pu6'.other hpt).le (by omega), ?_, by rw [List.length_set, gl], fun y hy => ?_⟩
      · rw [← List.map_set]
        exact own6.upd
      · rcases List.mem_or_eq_of_mem_set hy with h | h
        · exact gn y h
        · rw [h]; exact z0
  · rintro σ' G3 H3 e3 e4 ⟨o4, o5, g, rfl, s3, pu3, own, gl, gn⟩
    have s4 := s3.frz own.h ht
    refine ws_ret (R := GoR N.places.length) (EE.imp (ed_tupL (ee_var (i := 2) (R := RD (.list (g.map .int))) rfl (.lst upd_same (ints_paired _))) E.b_tuple) fun v G' _ r => ⟨_, ⟨g, rfl, gl, gn⟩, r⟩) s4.i fun v G5 H5 s5 r5 => q v G5 H5 (s4.trans s5.any) (((pu3.frz hpt).step s5).le (by show b + 1 + 2 * n ≤ b + 5; omega)) r5
end TK

/-! part F31 -/
set_option Elab.async false
set_option linter.all false
set_option maxRecDepth 100000
set_option maxHeartbeats 4000000
namespace PG
open PySem PySem.Spec PyProof.Rows L2
section
variable {X : Cx} {σ : L2.St} {G : Hp} {a : Expr} {pos p : Pos} {i : Int}
theorem ed_strI (ha : ED X a σ G (.int i)) (hb : i.natAbs.log2 < 1920) (hm : X.mg "str" = none) (hg : Gl X "str" := by rfl) (he : starEach [a] X.env = (false, eval a X.env) :: starEach [] X.env := by rfl) (hpl : (backTo pos (starEach [] X.env)).any (·.1) = false := by rfl) : ED X (.Call (.Name "str" p) [a] [] pos) σ G (.str (toString i)) :=
  ee_cty call_str_int hm (by decide +kernel) (ea1 ha he) (fun vs G' _ r0 => by
    obtain ⟨v, rfl, r⟩ := ACons.one r0
    exact .val (v := .str (toString i)) (fun H Q e k => ⟨i, by rw [Rp.int_eq r], hb, k⟩) (.str _)) hg (he := he) (hpl := hpl)
end
end PG
namespace TK
open PySem PySem.Spec PyProof.Rows L2 PG
variable {P : Program} {w : World} {K : PySem.W.Frag} {mg : Str → Option Value} {base : Heap}
abbrev five : List Str := ["pa", "b", "c2", "dd", "e"]
theorem five_cut {i : Int} (h0 : 1 ≤ i) (h1 : i ≤ 5) : cutD (five.map .str) none (some i) = (five.take i.toNat).map .str := by
  have : i = 1 ∨ i = 2 ∨ i = 3 ∨ i = 4 ∨ i = 5 := by omega
  rcases this with rfl | rfl | rfl | rfl | rfl <;> rfl
theorem five_nd (n : Nat) : (five.take n).Nodup := (show five.Nodup by decide +kernel).sublist (List.take_sublist ..)
theorem five_ok (n : Nat) : ∀ x ∈ five.take n, okName x = true := fun x hx => (show ∀ x ∈ five, okName x = true by decide +kernel) x (List.mem_of_mem_take hx)
abbrev tnm (k : Nat) : Str := "t" ++ Str.ofString (toString (k : Int))
/-- a net as the law draws them -/
structure GN (N : Net) : Prop where
  W : Wf N
  nm : ∃ n, 1 ≤ n ∧ n ≤ 5 ∧ N.names = five.take n
  bg : ∀ p ∈ N.places, 0 ≤ p.2 ∧ p.2 ≤ 2
  fl : N.firings.length ≤ 6
  tk : ∀ f ∈ N.firings, PS N.names N.names.length f.takes
  gv : ∀ f ∈ N.firings, PS N.names N.names.length f.gives
theorem PS.okP {ns : List Str} {n : Nat} {ps : List (Str × Int)} (h : PS ns n ps) : OkP ns ps := ⟨fun p hp => List.mem_of_mem_take (h.mem p hp), fun p hp => ⟨(h.cnt p hp).1, by have := (h.cnt p hp).2; omega⟩, h.up⟩
/-! firings, nets whose parts are known to the last sign -/
def FirF (G : Hp) (v : V) (f : Fir) : Prop := ∃ a v3 v4, v = .ref a ∧ G a = some (.tup [.str f.name, .str f.label, v3, v4]) ∧ RF (f.takes.map pairD) v3 G ∧ RF (f.gives.map pairD) v4 G
theorem FirF.mono {G G' : Hp} {v : V} {f : Fir} (e : Ex G G') (h : FirF G v f) : FirF G' v f := by
  obtain ⟨a, v3, v4, h1, h2, h3, h4⟩ := h
  exact ⟨a, v3, v4, h1, e _ _ h2, MonoR.mono _ _ _ e h3, MonoR.mono _ _ _ e h4⟩
theorem FirF.rp {G : Hp} {v : V} {f : Fir} (h : FirF G v f) : Rp G v (firD f) := by
  obtain ⟨a, v3, v4, rfl, h2, h3, h4⟩ := h
  exact .tup h2 (.cons (.str _) (.cons (.str _) (.cons (h3.rp (plD_pairs _)) (.cons (h4.rp (plD_pairs _)) .nil))))
theorem firs_mono {G G' : Hp} (e : Ex G G') {us : List V} {fs : List Fir} (h : Paired (FirF G) us fs) : Paired (FirF G') us fs := Paired.imp h fun _ _ r => r.mono e
theorem firs_rp {G : Hp} {us : List V} {fs : List Fir} (h : Paired (FirF G) us fs) : Paired (Rp G) us (fs.map firD) := Paired.of_map_r (Paired.imp h fun _ _ r => r.rp)
def RFir (f : Fir) : V → Hp → Prop := fun v G => FirF G v f
instance (f : Fir) : MonoR (RFir f) := ⟨fun _ _ _ e h => FirF.mono e h⟩
def NetF (N : Net) : V → Hp → Prop := fun v G => ∃ a v1 b us, v = .ref a ∧ G a = some (.tup [v1, .ref b]) ∧ Rp G v1 (placesD N) ∧ G b = some (.tup us) ∧ Paired (FirF G) us N.firings
instance (N : Net) : MonoR (NetF N) := ⟨fun _ _ _ e ⟨a, v1, b, us, h1, h2, h3, h4, h5⟩ => ⟨a, v1, b, us, h1, e _ _ h2, Rp.mono e _ _ h3, e _ _ h4, firs_mono e h5⟩⟩
theorem NetF.rp {N : Net} {v : V} {G : Hp} (h : NetF N v G) : Rp G v (netD N) := by
  obtain ⟨a, v1, b, us, rfl, h2, h3, h4, h5⟩ := h
  exact .tup h2 (.cons h3 (.cons (.tup h4 (firs_rp h5)) .nil))
end TK
namespace PG
open PySem PySem.Spec PyProof.Rows L2
section
variable {X : Cx} {σ : L2.St} {G : Hp} {a : Expr} {pos p : Pos} {q : Addr} {xs : List V}
def TupV (xs : List V) : V → Hp → Prop := fun v G => ∃ b, v = .ref b ∧ G b = some (.tup xs)
instance (xs : List V) : MonoR (TupV xs) := ⟨fun _ _ _ e ⟨b, h1, h2⟩ => ⟨b, h1, e _ _ h2⟩⟩
theorem ee_tupLV (ha : EE X a σ G (RV (.ref q))) (hq : G q = some (.lst xs)) (hm : X.mg "tuple" = none) (hg : Gl X "tuple" := by rfl) (he : starEach [a] X.env = (false, eval a X.env) :: starEach [] X.env := by rfl) (hpl : (backTo pos (starEach [] X.env)).any (·.1) = false := by rfl) : EE X (.Call (.Name "tuple" p) [a] [] pos) σ G (TupV xs) :=
  ee_cty call_tuple_of hm (by decide +kernel) (ea1 ha he) (fun vs G' eg r0 => by
    obtain ⟨v, rfl, r⟩ := ACons.one r0
    rw [show v = .ref q from r]
    exact fun H Q e k => ⟨_, xs, rfl, .inl ⟨SqL.of (e _ _ (eg _ _ hq)), fun l hl => k _ _ _ (Stp.newP e hl) ⟨l, rfl, upd_same⟩⟩⟩) hg (he := he) (hpl := hpl)
end
end PG

/-! part F32 -/
set_option Elab.async false
set_option linter.all false
set_option maxRecDepth 100000
set_option maxHeartbeats 4000000
namespace TK
open PySem PySem.Spec PyProof.Rows L2 PG
variable {P : Program} {w : World} {K : PySem.W.Frag} {mg : Str → Option Value} {base : Heap}
theorem mk_places : ∀ (ns : List Str) (ds : List PyData), ds.length = ns.length → (∀ (i : Nat) (z : PyData), ds[i]? = some z → ∃ c : Int, z = pairD ((ns[i]?).getD "", c) ∧ 0 ≤ c ∧ c ≤ 2) → ∃ ps : List (Str × Int), ds = ps.map pairD ∧ ps.map (·.1) = ns ∧ ∀ p ∈ ps, 0 ≤ p.2 ∧ p.2 ≤ 2
  | [], [], _, _ => ⟨[], rfl, rfl, fun p hp => by simp at hp⟩
  | [], _ :: _, h, _ => by simp at h
  | _ :: _, [], h, _ => by simp at h
  | x :: ns, d :: ds, h, k => by
    obtain ⟨c, e, c0, c1⟩ := k 0 d rfl
    obtain ⟨ps, h1, h2, h3⟩ := mk_places ns ds (by simpa using h) fun i z hz => k (i + 1) z (by simpa using hz)
    refine ⟨(x, c) :: ps, by rw [h1, e]; rfl, by rw [List.map_cons, h2], fun p hp => ?_⟩
    rcases List.mem_cons.mp hp with q | q
    · rw [q]; exact ⟨c0, c1⟩
    · exact h3 p q
structure FirOK (ns : List Str) (k : Nat) (f : Fir) : Prop where
  nm : f.name = tnm k
  lb : f.label ∈ (["", "x", "y", tnm k] : List Str)
  tk : PS ns ns.length f.takes
  gv : PS ns ns.length f.gives
theorem tnm_ok {k : Nat} (h : k < 6) : okName (tnm k) = true := by
  have : k = 0 ∨ k = 1 ∨ k = 2 ∨ k = 3 ∨ k = 4 ∨ k = 5 := by omega
  rcases this with rfl | rfl | rfl | rfl | rfl | rfl <;> decide +kernel
theorem tnm_inj {j k : Nat} (hj : j < 6) (hk : k < 6) (h : tnm j = tnm k) : j = k := by
  have : ∀ j k : Fin 6, tnm j = tnm k → j = k := by decide +kernel
  exact congrArg Fin.val (this ⟨j, hj⟩ ⟨k, hk⟩ h)
theorem gn_of {n : Nat} {ps : List (Str × Int)} {fs : List Fir} (h1 : 1 ≤ n) (h5 : n ≤ 5) (hp : ps.map (·.1) = five.take n) (hb : ∀ p ∈ ps, 0 ≤ p.2 ∧ p.2 ≤ 2) (hl : fs.length ≤ 6) (hf : ∀ (k : Nat) (f : Fir), fs[k]? = some f → FirOK (five.take n) k f) : GN ⟨ps, fs⟩ := by
  have hnames : (⟨ps, fs⟩ : Net).names = five.take n := hp
  have hpl : ps.length = n := by
    have := congrArg List.length hp
    rw [List.length_map, List.length_take] at this
    simp at this
    omega
  have at_ : ∀ f ∈ fs, ∃ k, k < 6 ∧ FirOK (five.take n) k f := fun f hm => by
    obtain ⟨k, hk⟩ := List.mem_iff_getElem?.mp hm
    exact ⟨k, by have := (List.getElem?_eq_some_iff.mp hk).1; omega, hf k f hk⟩
  refine ⟨⟨fun e => ?_, by show ps.length ≤ 40; omega, by show fs.length ≤ 60; omega, fun p hm => ?_, fun p hm => ?_, by rw [hnames]; exact five_nd n, fun f hm => ?_, ?_, fun f hm => ?_, fun f hm => ?_, fun f hm => ?_⟩, ⟨n, h1, h5, hnames⟩, hb, hl, fun f hm => ?_, fun f hm => ?_⟩
  · have : ps = [] := e
    rw [this] at hpl
    simp at hpl
    omega
  · exact five_ok n p.1 (hp ▸ List.mem_map_of_mem hm)
  · have := hb p hm
    omega
  · obtain ⟨k, hk, o⟩ := at_ f hm
    rw [o.nm]
    exact tnm_ok hk
  · show (fs.map (·.name)).Nodup
    rw [List.Nodup, List.pairwise_map, List.pairwise_iff_getElem]
    intro i j hi hj hij e
    have oi := hf i _ (List.getElem?_eq_getElem hi)
    have oj := hf j _ (List.getElem?_eq_getElem hj)
    rw [oi.nm, oj.nm] at e
    have := tnm_inj (by omega) (by omega) e
    omega
  · obtain ⟨k, hk, o⟩ := at_ f hm
    have := o.lb
    simp only [List.mem_cons, List.not_mem_nil, or_false] at this
    rcases this with q | q | q | q
    · exact .inr q
    · rw [q]; exact .inl (by decide +kernel)
    · rw [q]; exact .inl (by decide +kernel)
    · rw [q]; exact .inl (tnm_ok hk)
  · obtain ⟨k, hk, o⟩ := at_ f hm
    rw [hnames]
    exact o.tk.okP
  · obtain ⟨k, hk, o⟩ := at_ f hm
    rw [hnames]
    exact o.gv.okP
  · obtain ⟨k, hk, o⟩ := at_ f hm
    rw [hnames]
    exact o.tk
  · obtain ⟨k, hk, o⟩ := at_ f hm
    rw [hnames]
    exact o.gv
end TK

/-! part F33 -/
set_option Elab.async false
set_option linter.all false
set_option maxRecDepth 100000
set_option maxHeartbeats 4000000
namespace PG
open PySem PySem.Spec PyProof.Rows L2
section
variable {X : Cx} {σ : L2.St} {G H : Hp} {c : Expr} {pos : Pos} {p : Addr} {b b1 : Nat} {D : Ends} {rest A B : List Stmt}
/-- if, what comes behind told once -/
theorem ws_ifC {J : L2.St → Hp → Prop} {t : Bool → Prop} (hc : EPT X c σ p b b1 G t) (ex : Ex G H) (pu : Pu G H p b) (hj : ∀ σ H, J σ H → WS X rest D σ H)
    (k : (∀ σ H, J σ H → WS X rest D σ H) → ∀ u G' H', t u → Stp [p] G H G' H' → Pu G' H' p b1 → if u = true then WS X A { D with nx := WS X rest D } σ H' else WS X B { D with nx := WS X rest D } σ H') : WS X (.If c A B pos :: rest) D σ H := ws_ifP hc ex pu (k hj)
end
end PG
namespace TK
open PySem PySem.Spec PyProof.Rows L2 PG
variable {P : Program} {w : World} {K : PySem.W.Frag} {mg : Str → Option Value} {base : Heap}
def NetR : V → Hp → Prop := fun v G => ∃ N, GN N ∧ NetF N v G
instance : MonoR NetR := ⟨fun v G G' e ⟨N, g, h⟩ => ⟨N, g, MonoR.mono _ _ _ e h⟩⟩
theorem ok_net (E : Env K mg) : C8.Cal P w K mg base 4 "_law_net" (PrP (· + 200) (ACons (RI fun _ => True) ANil) NetR) [] :=
  cg_L_net E PrP.len fun cdv A outer s H vs Q E' hr ⟨p, rest, G, b, e, ex, pu, hb, as, q⟩ => by
    obtain ⟨v1, rfl, srt, rfl, _⟩ := ACons.one as
    subst e
    have hb : b + 200 ≤ 100000 := hb
    refine ws_setP (i := 2) (b1 := b + 1) sc_L_net.nd (ep_slL (ds := five.map .str) (Φ := fun i => 1 ≤ i ∧ i ≤ 5) (ed_lst (ad_cons ed_str (ad_cons ed_str (ad_cons ed_str (ad_cons ed_str (ad_cons ed_str ad_nil)))))) (ep_op op_add (Ra := RD (.int 1)) (Rb := Dr 5) (ep_ee ed_int) (ep_draw (n := 5) E (by decide) (by decide) hr (ee_var (i := 0) rfl rfl) ed_int (by omega)) fun x y G' _ rx ⟨z, ez, z0, z1⟩ => ?_)) ex pu fun v2 G1 H1 s1 pu1 ⟨d, ⟨i, ⟨i0, i1⟩, ed⟩, r2⟩ => ?_
    · rw [ez, Rp.int_eq rx]
      exact .val (fun H Q _ q => ⟨1, z, rfl, rfl, q⟩) ⟨_, rfl, by omega, by omega⟩
    subst ed
    rw [five_cut i0 i1] at r2
    generalize hn : i.toNat = n at r2
    have n1 : 1 ≤ n := by omega
    have n5 : n ≤ 5 := by omega
    generalize hns : five.take n = ns at r2
    have nsl : ns.length = n := by rw [← hns, List.length_take]; simp; omega
    have nd : ns.Nodup := hns ▸ five_nd n
    have hok : ∀ x ∈ ns, okName x = true := hns ▸ five_ok n
    refine ws_setP (i := 3) (b1 := b + 1 + n * 1) (R := RQ fun d => ∃ ds : List PyData, d = .tuple ds ∧ ds.length = n ∧ ∀ (i : Nat) (z : PyData), ds[i]? = some z → ∃ c : Int, z = pairD ((ns[i]?).getD "", c) ∧ 0 ≤ c ∧ c ≤ 2) sc_L_net.nd (EP.imp (ep_tupL (Rs := (List.range n).map fun i => RQ fun z => ∃ c : Int, z = pairD ((ns[i]?).getD "", c) ∧ 0 ≤ c ∧ c ≤ 2) (fun R hR => by
      obtain ⟨i, _, rfl⟩ := List.mem_map.mp hR
      infer_instance) (ep_lc (w := 1) (own := [("_law_name", 4)]) (fun i => inferInstance) rfl sc_L_net.nd (ei_listE (n := n) (ee_var (i := 2) rfl r2) (by rw [List.length_map, nsl])) (blkOk_by (N := N_L_net) (sc := defScope s_L_net) (by decide +kernel)) (fun i x G' eg hi y => ?_) (by omega)) E.b_tuple) fun v G' _ r => tup_rq r) s1.i pu1 fun v3 G2 H2 s2 pu2 ⟨d, ⟨ds, ed, dsl, dsk⟩, r3⟩ => ?_
    · obtain ⟨d, hd, rd⟩ := y
      rw [List.getElem?_map] at hd
      obtain ⟨x', hx', rfl⟩ := Option.map_eq_some_iff.mp hd
      refine ⟨_, ?_, fun s H C cl fp => ⟨eg_name (i := 4) sc_L_net.nd, EP.le (ep_tup (A := ACons (RD (.str x')) (ACons (RI fun z => 0 ≤ z ∧ z ≤ 2) ANil)) (b1 := b + 1 + i * 1 + 1) (epa_cons (ep_ee (ee_var (i := 4) rfl rd)) (epa_cons (ep_op op_fdiv (Ra := Dr 8) (Rb := RD (.int 3)) (ep_draw (n := 8) E (by decide) (by decide) hr (ee_var (i := 0) rfl rfl) ed_int (by omega)) (ep_ee ed_int) fun x y G' _ ⟨z, ez, z0, z1⟩ ry => ?_) epa_nil)) (by decide) fun vs G' q a hq => ?_) (by omega)⟩⟩
      · rfl
      · rw [ez, Rp.int_eq ry]
        exact .val (fun H Q _ q => ⟨z, 3, rfl, rfl, ⟨by decide, by decide⟩, q⟩) ⟨_, rfl, by omega, by omega⟩
      · obtain ⟨u1, u2, rfl, ru1, z, rfl, z0, z1⟩ := ACons.two a
        exact ⟨_, ⟨z, by rw [hx']; rfl, z0, z1⟩, .tup upd_same (.cons (Rp.mono (Ex.new hq) _ _ ru1) (.cons (.int z) .nil))⟩
    subst ed
    obtain ⟨ps, eds, hps, hpb⟩ := mk_places ns ds (by rw [dsl, nsl]) dsk
    subst eds
    have s02 := s1.trans s2
    have r22 := Rp.mono s2.g _ _ r2
    refine ws_setN (i := 5) sc_L_net.nd en_lst0 s02.i fun t o G3 H3 s3 ht w3 ho => ?_
    subst ho
    have s03 := s02.trans s3.any
    have ht0 := Stp.locP (G2 := G) (H2 := H) s02 ht
    have pu3 := pu2.step s3
    have hpt := pu2.there ht
    have e3 := s3.g
    refine ws_forR (Φ := fun i => 1 ≤ i ∧ i ≤ 6) (b1 := b + 1 + n * 1 + 1) (ep_op op_add (Ra := RD (.int 1)) (Rb := Dr 6) (ep_ee ed_int) (ep_draw (n := 6) E (by decide) (by decide) hr (ee_var (i := 0) rfl rfl) ed_int (by omega)) fun x y G' _ rx ⟨z, ez, z0, z1⟩ => ?_) (fun i hi => ⟨by omega, by omega⟩) s03.i pu3 PassesOwn.never rfl E.b_range fun m G4 H4 hm s4 pu4 => ?_
    · rw [ez, Rp.int_eq rx]
      exact .val (fun H Q _ q => ⟨1, z, rfl, rfl, q⟩) ⟨_, rfl, by omega, by omega⟩
    have w4 := w3.step s4 (by simpa using hpt.symm)
    refine ⟨fun i σ' G' H' => ∃ o6 o7 o8 o10, ∃ us : List V, ∃ fs : List Fir, σ' = [some (.ref p), some (.int srt), some v2, some v3, none, some (.ref t), o6, o7, o8, none, o10] ∧ Stp [p] G H G' H' ∧ Pu G' H' p (b + 1 + n * 1 + 1 + 26 * i) ∧ Own G' H' t (.lst us) ∧ Paired (FirF G') us fs ∧ fs.length = i ∧ ∀ (k : Nat) (f : Fir), fs[k]? = some f → FirOK ns k f,
      ⟨none, none, none, none, [], [], rfl, s03.trans s4, pu4, w4, .nil, rfl, fun k f h => by simp at h⟩, ?_, ?_⟩
    · rintro i σ' G' H' hi e1 e1' ⟨o6, o7, o8, o10, us, fs, rfl, s5, pu5, own, pus, fl, fk⟩
      have e20 : Ex G2 G' := e3.trans (s4.g.trans e1)
      have r25 := Rp.mono e20 _ _ r22
      refine wg (eg_name (i := 6) sc_L_net.nd) s5.i fun H6 s6 => ?_
      have s06 := s5.trans s6.any
      have pu6 := pu5.step s6
      have own6 := own.step0 s6
      have hptn : t ≠ p := hpt.symm
      have hi6 : i < 6 := by omega
      have hbb : b + 1 + n * 1 + 1 + 26 * i + 26 ≤ 100000 := by omega
      obtain ⟨c0, hc0⟩ : ∃ c, c = b + 1 + n * 1 + 1 + 26 * i := ⟨_, rfl⟩
      rw [← hc0] at pu6 hbb
      refine ws_asgP (b1 := c0 + 4) (R := EvR ns) (ep_cal (bb := (· + 4)) (ok_even E nd (by omega) (by omega) hok) hr (ee_var (i := 0) rfl rfl) (epa_cons (ep_ee (ee_var (i := 2) rfl r25)) epa_nil) (by show c0 + 4 ≤ 100000; omega)) s06.i pu6 fun ve G7 H7 s7 pu7 ⟨qe, w7, w8, tk, gv, ev, hqe, rw7, rw8, htk, hgv⟩ => ?_
      subst ev
      have s07 := s06.trans s7
      have own7 := own6.step s7 (by simpa using hptn)
      refine wg (eg_lst2 rfl hqe (eg_name (i := 7) sc_L_net.nd) (eg_name (i := 8) sc_L_net.nd)) s07.i fun H8 s8 => ?_
      have s08 := s07.trans s8.any
      have pu8 := pu7.step s8
      have own8 := own7.step0 s8
      have pus8 := firs_mono s7.g pus
      refine ws_ifC (b1 := c0 + 5) (t := fun _ => True) (J := fun σ H9 => ∃ G9 v7 v8, ∃ tk gv : List (Str × Int), σ = [some (.ref p), some (.int srt), some v2, some v3, none, some (.ref t), some (.int (i : Nat)), some v7, some v8, none, o10] ∧ Stp [p] G H G9 H9 ∧ Ex G' G9 ∧ Pu G9 H9 p (c0 + 25) ∧ Own G9 H9 t (.lst us) ∧ Paired (FirF G9) us fs ∧ RF (tk.map pairD) v7 G9 ∧ RF (gv.map pairD) v8 G9 ∧ PS ns ns.length tk ∧ PS ns ns.length gv)
        (ept_or (ept_any (ept_et (et_eq hr (ee_var (i := 1) rfl (.int _)) ed_int rfl rfl))) (ept_and (b1 := c0 + 4) (ept_any (ept_et (et_eq hr (ee_var (i := 1) rfl (.int _)) ed_int rfl rfl))) (ept_any (t := fun _ => True) (ept_cmp (op_eqD hr.units) (ep_draw (n := 3) E (by decide) (by decide) hr (ee_var (i := 0) rfl rfl) ed_int (by omega)) (ep_ee ed_int) (fun x y G' _ rx ry => ?_) (nomark _))) (by omega)) (by omega)) s08.i pu8 ?_ ?_
      · obtain ⟨z, rfl, _⟩ := rx
        exact ⟨_, trivial, ro_eqD (.int z) ry rfl rfl⟩
      · rintro σ9 H9 ⟨G9, v7, v8, tk, gv, rfl, s9, e9, pu9, own9, pus9, r7, r8, htk, hgv⟩
        have tl : (toString ((i : Nat) : Int)).length ≤ 5 := by
          have : i = 0 ∨ i = 1 ∨ i = 2 ∨ i = 3 ∨ i = 4 ∨ i = 5 := by omega
          rcases this with rfl | rfl | rfl | rfl | rfl | rfl <;> decide +kernel
        have tS : ∀ {X : Cx} {σ : L2.St} {Gx : Hp} {pos p1 p2 p3 : Pos} {e : Expr} {j : Nat} (hm : X.mg "str" = none) (he : ED X e σ Gx (.int (i : Nat))) (hg : Gl X "str") (hs : starEach [e] X.env = (false, eval e X.env) :: starEach [] X.env) (hpl : (backTo p2 (starEach [] X.env)).any (·.1) = false), ED X (.BinOp (.Constant (.str "t") j p1) .Add (.Call (.Name "str" p3) [e] [] p2) pos) σ Gx (.str (tnm i)) := fun hm he hg hs hpl =>
          ed_addS ed_str (ed_strI he (by
            have : i = 0 ∨ i = 1 ∨ i = 2 ∨ i = 3 ∨ i = 4 ∨ i = 5 := by omega
            rcases this with rfl | rfl | rfl | rfl | rfl | rfl <;> decide +kernel) hm hg hs hpl) (by
            have : i = 0 ∨ i = 1 ∨ i = 2 ∨ i = 3 ∨ i = 4 ∨ i = 5 := by omega
            rcases this with rfl | rfl | rfl | rfl | rfl | rfl <;> decide +kernel)
        refine ws_setP (i := 10) (b1 := c0 + 25 + 1) (R := RQ (· ∈ ((["", "x", "y", tnm i] : List Str).map PyData.str))) sc_L_net.nd (ep_ixL (ds := (["", "x", "y", tnm i] : List Str).map .str) (ed_lst (ad_cons ed_str (ad_cons ed_str (ad_cons ed_str (ad_cons (tS E.b_str (ee_var (i := 6) rfl (.int _)) (by rfl) (by rfl) (by rfl)) ad_nil)))) (hl := by simp)) (ep_draw (n := 4) E (by decide) (by decide) hr (ee_var (i := 0) rfl rfl) ed_int (by omega))) s9.i pu9 fun v10 G10 H10 s10 pu10 ⟨dl, hdl, rl⟩ => ?_
        obtain ⟨lb, hlb, rfl⟩ := List.mem_map.mp hdl
        have s010 := s9.trans s10
        have own10 := own9.step s10 (by simpa using hptn)
        have ul : us.length ≤ 6 := by rw [Paired.length pus9, fl]; omega
        refine ws_append (cm := .Name "x" ⟨0, 0, 0, 0⟩) (R := RFir ⟨tnm i, lb, tk, gv⟩) (ee_var (i := 5) rfl rfl) own10 (by omega) (ee_tup (Rs := ACons (RD (.str (tnm i))) (ACons (RD (.str lb)) (ACons (RF (tk.map pairD)) (ACons (RF (gv.map pairD)) ANil)))) (ea_cons (tS E.b_str (ee_var (i := 6) rfl (.int _)) (by rfl) (by rfl) (by rfl)) (ea_cons (ee_var (i := 10) rfl rl) (ea_cons (ee_var (i := 7) rfl (MonoR.mono _ _ _ s10.g r7)) (ea1 (ee_var (i := 8) rfl (MonoR.mono _ _ _ s10.g r8)))))) (by simp) (fun vs G' h => by rw [LenA.len _ _ h]; rfl) fun vs G' q e h hq => by
            obtain ⟨u1, _, rfl, h1, u2, _, rfl, h2, u3, _, rfl, h3, u4, _, rfl, h4, rfl⟩ := h
            rw [Rp.str_eq h1, Rp.str_eq h2]
            exact ⟨q, u3, u4, rfl, upd_same, MonoR.mono _ _ _ (Ex.new hq) h3, MonoR.mono _ _ _ (Ex.new hq) h4⟩) s010.i fun v11 G11 H11 s11 r11 w11 => ?_
        have s011 := (s010.trans s11.any).mut (o := .lst (us ++ [v11])) w11.g (.inl ht0)
        refine ws_nil ⟨G11, e1.trans (e9.trans (s10.g.trans s11.g)), s011.i, _, _, _, _, us ++ [v11], fs ++ [⟨tnm i, lb, tk, gv⟩], rfl, s011, ((pu10.step s11).other hpt).le (by omega), w11.upd, ?_, by rw [List.length_append, fl]; rfl, fun k f hk => ?_⟩
        · exact Paired.app (firs_mono (s10.g.trans s11.g) pus9) (.cons r11 .nil)
        · by_cases hkl : k < fs.length
          · rw [List.getElem?_append_left hkl] at hk
            exact fk k f hk
          · rw [List.getElem?_append_right (by omega)] at hk
            have hk0 : k - fs.length = 0 := by
              have := (List.getElem?_eq_some_iff.mp hk).1
              simpa using this
            rw [hk0] at hk
            obtain rfl := Option.some.inj hk
            have : k = i := by omega
            subst this
            exact ⟨rfl, hlb, htk, hgv⟩
      · intro hj u G9 H9 _ s9 pu9
        have s09 := s08.trans s9
        have own9 := own8.step s9 (by simpa using hptn)
        have pus9 := firs_mono s9.g pus8
        cases u with
        | false => exact iteF (ws_nil (hj _ _ ⟨G9, w7, w8, tk, gv, rfl, s09, s7.g.trans s9.g, pu9.le (by omega), own9, pus9, MonoR.mono _ _ _ s9.g rw7, MonoR.mono _ _ _ s9.g rw8, htk, hgv⟩))
        | true =>
          refine iteT ?_
          have r29 := Rp.mono (s7.g.trans s9.g) _ _ r25
          refine ws_asgP (b1 := c0 + 5 + 2 * (2 * ns.length)) (R := LstR ((List.range 2).map fun _ => PSR ns)) (ep_lc (n := 2) (w := 2 * ns.length) (R := fun _ => PSR ns) (own := [("_law_j", 9)]) (fun i => inferInstance) rfl sc_L_net.nd (ei_range (n := 2) ed_int (by decide) E.b_range) (blkOk_by (N := N_L_net) (sc := defScope s_L_net) (by decide +kernel)) (fun j x Gj eg hj y => ?_) (by omega)) s09.i pu9 fun vl G10 H10 s10 pu10 ⟨ql, ys, evl, hql, pys⟩ => ?_
          · refine ⟨_, ?_, fun s H C cl fp => ⟨eg_name (i := 9) sc_L_net.nd, EP.le (ep_cal (bb := (· + 2 * ns.length)) (ok_parts E nd (by omega) (m := 3)) hr (ee_var (i := 0) rfl rfl) (epa_cons (ep_ee (ee_var (i := 2) rfl (Rp.mono eg _ _ r29))) (epa_cons (ep_ee ed_int) epa_nil)) ?_) (by rw [Nat.add_mul, Nat.one_mul]; omega)⟩⟩
            · rfl
            · show c0 + 5 + j * (2 * ns.length) + 2 * ns.length ≤ 100000
              have : j * (2 * ns.length) ≤ 1 * (2 * ns.length) := Nat.mul_le_mul_right _ (by omega)
              omega
          subst evl
          have pys' : Paired (fun (v : V) (R : V → Hp → Prop) => R v G10) ys [PSR ns, PSR ns] := pys
          cases pys' with
          | cons p7 t7 =>
            cases t7 with
            | cons p8 t8 =>
              cases t8
              rename_i u7 u8
              obtain ⟨tk', q7, htk'⟩ := p7
              obtain ⟨gv', q8, hgv'⟩ := p8
              have s010 := s09.trans s10
              have own10 := own9.step s10 (by simpa using hptn)
              refine wg (eg_lst2 rfl hql (eg_name (i := 7) sc_L_net.nd) (eg_name (i := 8) sc_L_net.nd)) s010.i fun H11 s11 => ws_nil (hj _ _ ⟨G10, u7, u8, tk', gv', rfl, s010.trans s11.any, s7.g.trans (s9.g.trans s10.g), (pu10.step s11).le (by omega), own10.step0 s11, firs_mono s10.g pus9, q7, q8, htk', hgv'⟩)
    · rintro σ' G5 H5 e5 e5' ⟨o6, o7, o8, o10, us, fs, rfl, s5, pu5, own, pus, fl, fk⟩
      have s6 := s5.frz own.h ht0
      have e35 := (e3.trans s4.g).trans (e5.trans own.exG)
      refine ws_ret (R := NetR) (ee_tup (Rs := ACons (RD (.tuple (ps.map pairD))) (ACons (TupV us) ANil)) (ea_cons (ee_var (i := 3) rfl (Rp.mono e35 _ _ r3)) (ea1 (ee_tupLV (q := t) (ee_var (i := 5) rfl rfl) upd_same E.b_tuple))) (by simp) (fun vs G' h => by rw [LenA.len _ _ h]; rfl) fun vs G' q e h hq => by
        obtain ⟨u1, u2, rfl, h1, tb, rfl, h2⟩ := ACons.two h
        exact ⟨⟨ps, fs⟩, gn_of n1 n5 (by rw [hps, hns]) hpb (by omega) (by rw [hns]; exact fk), q, u1, tb, us, rfl, upd_same, Rp.mono (Ex.new hq) _ _ h1, Ex.new hq _ _ h2, firs_mono (own.exG.trans (e.trans (Ex.new hq))) pus⟩) s6.i fun v G7 H7 s7 r7 => q v G7 H7 (s6.trans s7.any) (((pu5.frz hpt).step s7).le (by show b + 1 + n * 1 + 1 + 26 * m ≤ b + 200; omega)) r7
end TK

/-! part M5 -/
set_option Elab.async false
set_option linter.all false
set_option maxRecDepth 100000
set_option maxHeartbeats 4000000
/-! TK: a net with a lid upon one place. -/
namespace TK
open PySem PySem.Spec PyProof.Rows L2 PG
abbrev lidS : Str := "lid"
def moreF (x : Str) (f : Fir) : Int := cnt f.gives x - cnt f.takes x
def lidF (x : Str) (f : Fir) : Fir := ⟨f.name, f.label, f.takes ++ (if 0 < moreF x f then [(lidS, moreF x f)] else []), f.gives ++ (if moreF x f < 0 then [(lidS, 0 - moreF x f)] else [])⟩
def lidN (N : Net) (a : Nat) (x : Str) (lid : Int) : Net := ⟨N.places ++ [(lidS, lid - N.begin.getD a 0)], N.firings.map (lidF x)⟩
def phi (a : Nat) (lid : Int) (h : Hp') : Hp' := h ++ [lid - h.getD a 0]
theorem phi_inj {a : Nat} {lid : Int} (x y : Hp') (e : phi a lid x = phi a lid y) : x = y := List.append_inj_left' e rfl
theorem cnt_app : ∀ {ps qs : List (Str × Int)} {x : Str}, cnt (ps ++ qs) x = cnt ps x + cnt qs x
  | [], qs, x => by show cnt qs x = 0 + cnt qs x; omega
  | p :: ps, qs, x => by
    show (if p.1 = x then p.2 else 0) + cnt (ps ++ qs) x = (if p.1 = x then p.2 else 0) + cnt ps x + cnt qs x
    rw [cnt_app]
    omega
theorem lid_no {N : Net} (g : GN N) : lidS ∉ N.names := by
  obtain ⟨n, _, _, e⟩ := g.nm
  rw [e]
  exact fun h => (show lidS ∉ five by decide +kernel) (List.mem_of_mem_take h)
theorem ps_cnt_le {ns : List Str} {n : Nat} {ps : List (Str × Int)} (h : PS ns n ps) (x : Str) : 0 ≤ cnt ps x ∧ cnt ps x ≤ 2 := by
  by_cases e : ∃ p ∈ ps, p.1 = x
  · obtain ⟨p, hp, rfl⟩ := e
    rw [cnt_in h.up hp]
    have := h.cnt p hp
    omega
  · rw [cnt_out fun p hp z => e ⟨p, hp, z⟩]
    omega
theorem more_le {N : Net} (g : GN N) {f : Fir} (hf : f ∈ N.firings) (x : Str) : -2 ≤ moreF x f ∧ moreF x f ≤ 2 := by
  have h1 := ps_cnt_le (g.tk f hf) x
  have h2 := ps_cnt_le (g.gv f hf) x
  unfold moreF
  omega
section
variable {N : Net} {a : Nat} {x : Str} {lid : Int}
theorem lid_names : (lidN N a x lid).names = N.names ++ [lidS] := by
  unfold Net.names lidN
  rw [List.map_append]
  rfl
theorem lid_begin : (lidN N a x lid).begin = phi a lid N.begin := by
  unfold Net.begin lidN phi
  rw [List.map_append]
  rfl
theorem ix_app {ns : List Str} {y : Str} (h : y ∈ ns) : ix (ns ++ [lidS]) y = ix ns y := by
  unfold ix
  rw [List.idxOf_append, if_pos h]
theorem ix_lid {ns : List Str} (h : lidS ∉ ns) : ix (ns ++ [lidS]) lidS = ns.length := by
  unfold ix
  rw [List.idxOf_append, if_neg h]
  simp
theorem okP_lid {ns : List Str} {ps : List (Str × Int)} {m : Int} (h : PS ns ns.length ps) (hn : lidS ∉ ns) (m0 : 0 < m) (m1 : m ≤ 2) : OkP (ns ++ [lidS]) (ps ++ [(lidS, m)]) := by
  refine ⟨fun p hp => ?_, fun p hp => ?_, ?_⟩
  · rcases List.mem_append.mp hp with q | q
    · exact List.mem_append_left _ (h.okP.mem p q)
    · obtain rfl : p = (lidS, m) := by simpa using q
      simp
  · rcases List.mem_append.mp hp with q | q
    · exact h.okP.cnt p q
    · obtain rfl : p = (lidS, m) := by simpa using q
      exact ⟨by show 1 ≤ m; omega, by show m ≤ 999999999; omega⟩
  · refine List.pairwise_append.mpr ⟨?_, List.pairwise_singleton .., fun p hp q hq => ?_⟩
    · exact h.up.imp_of_mem fun {p q} hp hq r => by
        rw [ix_app (h.okP.mem p hp), ix_app (h.okP.mem q hq)]
        exact r
    · obtain rfl : q = (lidS, m) := by simpa using hq
      rw [ix_app (h.okP.mem p hp), ix_lid hn]
      exact List.idxOf_lt_length_iff.mpr (h.okP.mem p hp)
theorem okP_app {ns : List Str} {ps : List (Str × Int)} (h : PS ns ns.length ps) : OkP (ns ++ [lidS]) (ps ++ []) := by
  rw [List.append_nil]
  refine ⟨fun p hp => List.mem_append_left _ (h.okP.mem p hp), h.okP.cnt, h.up.imp_of_mem fun {p q} hp hq r => ?_⟩
  rw [ix_app (h.okP.mem p hp), ix_app (h.okP.mem q hq)]
  exact r
theorem getD_bg (g : GN N) (ha : a < N.places.length) : 0 ≤ N.begin.getD a 0 ∧ N.begin.getD a 0 ≤ 2 := by
  have hl : a < N.begin.length := by unfold Net.begin; rw [List.length_map]; exact ha
  rw [getD_of (List.getElem?_eq_getElem hl)]
  have hm : N.begin[a] ∈ N.begin := List.getElem_mem hl
  unfold Net.begin at hm
  obtain ⟨p, hp, e⟩ := List.mem_map.mp hm
  have := g.bg p hp
  rw [← show p.2 = N.begin[a] from e]
  exact this
/-- the wider net is one, too -/
theorem lid_wf (g : GN N) (ha : a < N.places.length) (l0 : N.begin.getD a 0 ≤ lid) (l1 : lid ≤ N.begin.getD a 0 + 4) : Wf (lidN N a x lid) := by
  have hn := lid_no g
  have hb := getD_bg g ha
  refine ⟨fun e => ?_, ?_, ?_, fun p hp => ?_, fun p hp => ?_, ?_, fun f hf => ?_, ?_, fun f hf => ?_, fun f hf => ?_, fun f hf => ?_⟩
  · have : (lidN N a x lid).places.length = 0 := by rw [e]; rfl
    unfold lidN at this
    simp at this
  · show (N.places ++ [_]).length ≤ 40
    obtain ⟨n, h1, h5, e⟩ := g.nm
    have : N.names.length ≤ 5 := by rw [e, List.length_take]; exact Nat.le_trans (Nat.min_le_left ..) h5
    rw [names_len] at this
    simp
    omega
  · show (N.firings.map _).length ≤ 60
    rw [List.length_map]
    exact g.W.flen
  · rcases List.mem_append.mp hp with q | q
    · exact g.W.nm p q
    · obtain rfl : p = (lidS, lid - N.begin.getD a 0) := by simpa using q
      exact (show okName lidS = true by decide +kernel)
  · rcases List.mem_append.mp hp with q | q
    · exact g.W.bg p q
    · obtain rfl : p = (lidS, lid - N.begin.getD a 0) := by simpa using q
      exact ⟨by show 0 ≤ lid - N.begin.getD a 0; omega, by show lid - N.begin.getD a 0 ≤ 999999999; omega⟩
  · rw [lid_names, List.nodup_append]
    refine ⟨g.W.nd, by simp, fun y hy z hz e => ?_⟩
    obtain rfl : z = lidS := by simpa using hz
    exact hn (e ▸ hy)
  · obtain ⟨f', hf', rfl⟩ := List.mem_map.mp hf
    exact g.W.fnm f' hf'
  · show ((N.firings.map (lidF x)).map (·.name)).Nodup
    rw [List.map_map]
    exact g.W.fnd
  · obtain ⟨f', hf', rfl⟩ := List.mem_map.mp hf
    exact g.W.lb f' hf'
  · obtain ⟨f', hf', rfl⟩ := List.mem_map.mp hf
    rw [lid_names]
    have hm := more_le g hf' x
    show OkP _ (f'.takes ++ if 0 < moreF x f' then [(lidS, moreF x f')] else [])
    split
    · exact okP_lid (g.tk f' hf') hn (by omega) (by omega)
    · exact okP_app (g.tk f' hf')
  · obtain ⟨f', hf', rfl⟩ := List.mem_map.mp hf
    rw [lid_names]
    have hm := more_le g hf' x
    show OkP _ (f'.gives ++ if moreF x f' < 0 then [(lidS, 0 - moreF x f')] else [])
    split
    · exact okP_lid (g.gv f' hf') hn (by omega) (by omega)
    · exact okP_app (g.gv f' hf')
theorem cnt_lidT (g : GN N) {f : Fir} (hf : f ∈ N.firings) : cnt (lidF x f).takes lidS = if 0 < moreF x f then moreF x f else 0 := by
  show cnt (f.takes ++ if 0 < moreF x f then [(lidS, moreF x f)] else []) lidS = _
  rw [cnt_app, cnt_out fun p hp (e : p.1 = lidS) => lid_no g (e ▸ (g.tk f hf).okP.mem p hp)]
  split
  · show 0 + ((if lidS = lidS then moreF x f else 0) + 0) = _
    rw [if_pos rfl]
    omega
  · rfl
theorem cnt_lidG (g : GN N) {f : Fir} (hf : f ∈ N.firings) : cnt (lidF x f).gives lidS = if moreF x f < 0 then 0 - moreF x f else 0 := by
  show cnt (f.gives ++ if moreF x f < 0 then [(lidS, 0 - moreF x f)] else []) lidS = _
  rw [cnt_app, cnt_out fun p hp (e : p.1 = lidS) => lid_no g (e ▸ (g.gv f hf).okP.mem p hp)]
  split
  · show 0 + ((if lidS = lidS then 0 - moreF x f else 0) + 0) = _
    rw [if_pos rfl]
    omega
  · rfl
theorem cnt_one {m : Int} {y : Str} (h : y ≠ lidS) : cnt [(lidS, m)] y = 0 := cnt_out fun p hp e => h (by
  obtain rfl : p = (lidS, m) := by simpa using hp
  exact e.symm)
theorem cnt_T {f : Fir} {y : Str} (h : y ≠ lidS) : cnt (lidF x f).takes y = cnt f.takes y := by
  show cnt (f.takes ++ if 0 < moreF x f then [(lidS, moreF x f)] else []) y = _
  rw [cnt_app]
  split
  · rw [cnt_one h]; omega
  · show _ + 0 = _; omega
theorem cnt_G {f : Fir} {y : Str} (h : y ≠ lidS) : cnt (lidF x f).gives y = cnt f.gives y := by
  show cnt (f.gives ++ if moreF x f < 0 then [(lidS, 0 - moreF x f)] else []) y = _
  rw [cnt_app]
  split
  · rw [cnt_one h]; omega
  · show _ + 0 = _; omega
theorem nm_ne (g : GN N) {k : Nat} {y : Str} (h : N.names[k]? = some y) : y ≠ lidS := fun e => lid_no g (e ▸ List.mem_of_getElem? h)
/-- a firing of the wider net: the first net's, and what is lacking -/
theorem lid_fire (g : GN N) (ha : N.names[a]? = some x) {h : Hp'} (hl : h.length = N.names.length) {f : Fir} (hf : f ∈ N.firings) : fire (lidN N a x lid) (phi a lid h) (lidF x f) = phi a lid (fire N h f) := by
  have hal : a < N.names.length := (List.getElem?_eq_some_iff.mp ha).1
  have l1 : (phi a lid h).length = (lidN N a x lid).names.length := by rw [lid_names]; unfold phi; simp [hl]
  apply List.ext_getElem?
  intro k
  rcases Nat.lt_trichotomy k N.names.length with hk | hk | hk
  · have hx := List.getElem?_eq_getElem hk
    have hy := List.getElem?_eq_getElem (l := h) (i := k) (by omega)
    have hx' : (lidN N a x lid).names[k]? = some N.names[k] := by rw [lid_names, List.getElem?_append_left hk, hx]
    have hy' : (phi a lid h)[k]? = some (h[k]'(by omega)) := by unfold phi; rw [List.getElem?_append_left (by omega), hy]
    rw [fire_get hx' hy', cnt_T (nm_ne g hx), cnt_G (nm_ne g hx)]
    unfold phi
    rw [List.getElem?_append_left (by rw [fire_length hl]; exact hk), fire_get hx hy]
  · subst hk
    have hx' : (lidN N a x lid).names[N.names.length]? = some lidS := by rw [lid_names, List.getElem?_append_right (Nat.le_refl _)]; simp
    have hy' : (phi a lid h)[N.names.length]? = some (lid - h.getD a 0) := by unfold phi; rw [← hl, List.getElem?_append_right (Nat.le_refl _)]; simp
    have hya := List.getElem?_eq_getElem (l := h) (i := a) (by omega)
    rw [fire_get hx' hy', cnt_lidT g hf, cnt_lidG g hf]
    unfold phi
    rw [List.getElem?_append_right (by rw [fire_length hl]; exact Nat.le_refl _), fire_length hl, Nat.sub_self, getD_of (fire_get ha hya), getD_of hya]
    show some _ = some _
    congr 1
    unfold moreF
    split <;> split <;> omega
  · rw [List.getElem?_eq_none (by rw [fire_length l1, lid_names]; simp; omega), List.getElem?_eq_none (by unfold phi; rw [List.length_append, fire_length hl]; simp; omega)]
theorem phi_hip {h : Hp'} (H : Hip N h) (hb : h.getD a 0 ≤ lid) : Hip (lidN N a x lid) (phi a lid h) := ⟨by rw [lid_names]; unfold phi; simp [H.len], fun z hz => by
  unfold phi at hz
  rcases List.mem_append.mp hz with q | q
  · exact H.nn z q
  · obtain rfl : z = lid - h.getD a 0 := by simpa using q
    omega⟩
/-- .. it can fire where the first net's can without going beyond the lid -/
theorem lid_can (g : GN N) (ha : N.names[a]? = some x) (W' : Wf (lidN N a x lid)) {h : Hp'} (H : Hip N h) (hb : h.getD a 0 ≤ lid) {f : Fir} (hf : f ∈ N.firings) : canF (lidN N a x lid) (phi a lid h) (lidF x f) = (canF N h f && decide ((fire N h f).getD a 0 ≤ lid)) := by
  have hf' : lidF x f ∈ (lidN N a x lid).firings := List.mem_map_of_mem hf
  have hal : a < N.names.length := (List.getElem?_eq_some_iff.mp ha).1
  have hya := List.getElem?_eq_getElem (l := h) (i := a) (by rw [H.len]; exact hal)
  rw [Bool.eq_iff_iff, Bool.and_eq_true, canF_iff W' (phi_hip H hb) hf', canF_iff g.W H hf, decide_eq_true_iff, getD_of (fire_get ha hya)]
  have hxl : (lidN N a x lid).names[N.names.length]? = some lidS := by rw [lid_names, List.getElem?_append_right (Nat.le_refl _)]; simp
  have hyl : (phi a lid h)[N.names.length]? = some (lid - h.getD a 0) := by unfold phi; rw [← H.len, List.getElem?_append_right (Nat.le_refl _)]; simp
  rw [getD_of hya] at hyl hb
  constructor
  · intro c
    constructor
    · intro k y z hy hz
      have hk := (List.getElem?_eq_some_iff.mp hy).1
      have := c k y z (by rw [lid_names, List.getElem?_append_left hk, hy]) (by unfold phi; rw [List.getElem?_append_left (by rw [H.len]; exact hk), hz])
      rw [cnt_T (nm_ne g hy)] at this
      exact this
    · have := c _ _ _ hxl hyl
      rw [cnt_lidT g hf] at this
      unfold moreF at this
      split at this <;> omega
  · rintro ⟨c, d⟩ k y z hy hz
    rcases Nat.lt_trichotomy k N.names.length with hk | hk | hk
    · rw [lid_names, List.getElem?_append_left hk] at hy
      unfold phi at hz
      rw [List.getElem?_append_left (by rw [H.len]; exact hk)] at hz
      rw [cnt_T (nm_ne g hy)]
      exact c k y z hy hz
    · subst hk
      rw [hxl] at hy
      rw [hyl] at hz
      obtain rfl := Option.some.inj hy
      have ez := Option.some.inj hz
      rw [cnt_lidT g hf]
      unfold moreF
      split <;> omega
    · have := (List.getElem?_eq_some_iff.mp hy).1
      rw [lid_names] at this
      simp at this
      omega
/-- what the first net comes to beneath the lid -/
def succB (N : Net) (a : Nat) (lid : Int) : Succ := fun h => (succN N h).filter fun s => decide (s.2.getD a 0 ≤ lid)
theorem lid_succ (g : GN N) (ha : N.names[a]? = some x) (W' : Wf (lidN N a x lid)) {h : Hp'} (H : Hip N h) (hb : h.getD a 0 ≤ lid) : succN (lidN N a x lid) (phi a lid h) = (succB N a lid h).map fun s => (s.1, phi a lid s.2) := by
  have key : ∀ l : List Fir, (∀ f ∈ l, f ∈ N.firings) → ((l.map (lidF x)).filter (canF (lidN N a x lid) (phi a lid h))).map (fun f => (f.name, fire (lidN N a x lid) (phi a lid h) f)) = (((l.filter (canF N h)).map fun f => (f.name, fire N h f)).filter fun s => decide (s.2.getD a 0 ≤ lid)).map fun s => (s.1, phi a lid s.2) := by
    intro l
    induction l with
    | nil => intro _; rfl
    | cons f l ih =>
      intro hl
      have ih := ih fun f hf => hl f (List.mem_cons_of_mem _ hf)
      have hf := hl f (List.mem_cons_self ..)
      rw [List.map_cons, List.filter_cons, List.filter_cons, lid_can g ha W' H hb hf]
      cases c : canF N h f with
      | false => rw [Bool.false_and, if_neg Bool.false_ne_true, if_neg Bool.false_ne_true, ih]
      | true =>
        rw [Bool.true_and, if_pos rfl, List.map_cons, List.filter_cons]
        show _ = (if decide ((fire N h f).getD a 0 ≤ lid) = true then _ else _ : List _).map _
        by_cases d : (fire N h f).getD a 0 ≤ lid
        · rw [decide_eq_true d, if_pos rfl, if_pos rfl, List.map_cons, List.map_cons, ih, lid_fire g ha H.len hf]
          rfl
        · rw [decide_eq_false d, if_neg Bool.false_ne_true, if_neg Bool.false_ne_true, ih]
  exact key N.firings fun f hf => hf
abbrev stB (N : Net) (a : Nat) (lid : Int) (n : Nat) : Fnd := st (succB N a lid) N.begin n
theorem stB_hip (W : Wf N) (l0 : N.begin.getD a 0 ≤ lid) (n : Nat) : ∀ h ∈ heapsOf (stB N a lid n), Hip N h ∧ h.getD a 0 ≤ lid :=
  st_all (P := fun h => Hip N h ∧ h.getD a 0 ≤ lid) ⟨begin_hip W, l0⟩ (fun h hh s hs => by
    obtain ⟨h1, h2⟩ := List.mem_filter.mp hs
    obtain ⟨f, hf, rfl⟩ := List.mem_map.mp h1
    rw [List.mem_filter] at hf
    exact ⟨fire_hip W hh.1 hf.1 hf.2, of_decide_eq_true h2⟩) n
/-- the searches side by side -/
theorem lid_st (g : GN N) (ha : N.names[a]? = some x) (W' : Wf (lidN N a x lid)) (l0 : N.begin.getD a 0 ≤ lid) (n : Nat) : stN (lidN N a x lid) n = mapF (phi a lid) (stB N a lid n) := by
  have := st_map (succ := succB N a lid) (succ' := succN (lidN N a x lid)) (b := N.begin) (φ := phi a lid) phi_inj n fun h hh => by
    obtain ⟨h1, h2⟩ := stB_hip g.W l0 n h hh
    exact lid_succ g ha W' h1 h2
  rw [← lid_begin (N := N) (x := x)] at this
  exact this
theorem lid_sea (g : GN N) (ha : N.names[a]? = some x) (W' : Wf (lidN N a x lid)) (l0 : N.begin.getD a 0 ≤ lid) {L : Nat} (e : Ends' (succB N a lid) N.begin L) (h40 : L ≤ 40) : Sea (lidN N a x lid) L := ⟨W', ⟨by
  have := lid_st g ha W' l0 L
  show (stN (lidN N a x lid) L).length = L
  rw [this, mapF_length]
  exact e.len⟩, h40⟩
theorem lid_fin (g : GN N) (ha : N.names[a]? = some x) (W' : Wf (lidN N a x lid)) (l0 : N.begin.getD a 0 ≤ lid) (L : Nat) : finN (lidN N a x lid) L = (heapsOf (stB N a lid L)).map (phi a lid) := by
  unfold finN
  rw [lid_st g ha W' l0 L, heapsOf_mapF]
end
end TK

/-! part M6 -/
set_option Elab.async false
set_option linter.all false
set_option maxRecDepth 100000
set_option maxHeartbeats 4000000
/-! TK: no pumps where the search ends; what the lid does not bar. -/
namespace TK
open PySem PySem.Spec PyProof.Rows L2 PG
section
variable {N : Net} {L : Nat}
theorem Sea.fire_mem (S : Sea N L) {h : Hp'} (hh : h ∈ finN N L) {f : Fir} (hf : f ∈ N.firings) (c : canF N h f = true) : fire N h f ∈ finN N L :=
  S.e.closed h hh (f.name, fire N h f) (List.mem_map.mpr ⟨f, List.mem_filter.mpr ⟨hf, c⟩, rfl⟩)
/-- what leads from a0 to h leads on from what is over a0 -/
theorem shift (S : Sea N L) {a0 : Hp'} (ha : Hip N a0) : ∀ (c : List Hp') (h : Hp'), Chn N (h :: c) → (∀ g ∈ h :: c, Hip N g) → a0 ∈ h :: c → ∀ m ∈ finN N L, over m a0 = true →
    ∃ m' ∈ finN N L, ∀ (k : Nat) (p q r : Int), m[k]? = some p → h[k]? = some q → a0[k]? = some r → m'[k]? = some (p + q - r)
  | c, h, ch, hp, hm, m, mm, ov => by
    by_cases e : a0 = h
    · subst e
      refine ⟨m, mm, fun k p q r h1 h2 h3 => ?_⟩
      rw [h2] at h3
      rw [h1, Option.some.inj h3]
      congr 1
      omega
    · match c, ch, hp, hm with
      | [], _, _, hm => exact absurd (by simpa using hm) e
      | b :: rest, ch, hp, hm =>
        obtain ⟨⟨s, hs, es⟩, ch'⟩ := ch
        obtain ⟨f, hf, rfl⟩ := List.mem_map.mp hs
        rw [List.mem_filter] at hf
        have hbh := hp b (by simp)
        obtain ⟨m1, mm1, k1⟩ := shift S ha rest b ch' (fun g hg => hp g (List.mem_cons_of_mem _ hg)) ((List.mem_cons.mp hm).resolve_left e) m mm ov
        have hm1 := S.hip L m1 mm1
        have hmm := S.hip L m mm
        have hr := (over_iff (hmm.len.trans ha.len.symm)).mp ov
        have at_ : ∀ (k : Nat), k < N.names.length → ∃ p q r, m[k]? = some p ∧ b[k]? = some q ∧ a0[k]? = some r ∧ m1[k]? = some (p + q - r) ∧ r ≤ p := fun k hk => by
          have e1 := List.getElem?_eq_getElem (l := m) (i := k) (by rw [hmm.len]; exact hk)
          have e2 := List.getElem?_eq_getElem (l := b) (i := k) (by rw [hbh.len]; exact hk)
          have e3 := List.getElem?_eq_getElem (l := a0) (i := k) (by rw [ha.len]; exact hk)
          exact ⟨_, _, _, e1, e2, e3, k1 k _ _ _ e1 e2 e3, hr k _ _ e1 e3⟩
        have can1 : canF N m1 f = true := (canF_iff S.W hm1 hf.1).mpr fun k y z hy hz => by
          have hk := (List.getElem?_eq_some_iff.mp hy).1
          obtain ⟨p, q, r, e1, e2, e3, e4, e5⟩ := at_ k hk
          rw [e4] at hz
          have := Option.some.inj hz
          have c2 := (canF_iff S.W hbh hf.1).mp hf.2 k y q hy e2
          omega
        refine ⟨fire N m1 f, S.fire_mem mm1 hf.1 can1, fun k p q r h1 h2 h3 => ?_⟩
        have hk : k < N.names.length := by
          have := (List.getElem?_eq_some_iff.mp h3).1
          rw [ha.len] at this
          exact this
        obtain ⟨p', q', r', e1, e2, e3, e4, e5⟩ := at_ k hk
        rw [h1] at e1
        rw [h3] at e3
        obtain rfl := Option.some.inj e1
        obtain rfl := Option.some.inj e3
        have hy := List.getElem?_eq_getElem hk
        rw [← show fire N b f = h from es, fire_get hy e2] at h2
        have eq := Option.some.inj h2
        rw [fire_get hy e4]
        congr 1
        omega
theorem at_most (k : Nat) : ∀ l : List Hp', ∃ B : Nat, ∀ m ∈ l, m.getD k 0 < B
  | [] => ⟨0, fun m h => by simp at h⟩
  | m :: l => by
    obtain ⟨B, h⟩ := at_most k l
    refine ⟨B + (m.getD k 0).toNat + 1, fun z hz => ?_⟩
    rcases List.mem_cons.mp hz with e | e
    · rw [e]; omega
    · have := h z e; omega
/-- no heap come to is over one that it comes from -/
theorem npump (S : Sea N L) : NPump N L := fun h c ch hin a0 ha ne => by
  have hip : ∀ g ∈ h :: c, Hip N g := fun g hg => S.hip L g (hin g hg)
  have ha0 : Hip N a0 := hip a0 (List.mem_cons_of_mem _ ha)
  have hh : Hip N h := hip h (List.mem_cons_self ..)
  cases ov : over h a0 with
  | false => rfl
  | true =>
    exfalso
    have hr := (over_iff (hh.len.trans ha0.len.symm)).mp ov
    -- a place that holds more
    have hex : ∃ (k : Nat) (q r : Int), h[k]? = some q ∧ a0[k]? = some r ∧ r < q := by
      refine Classical.byContradiction fun no => ne (List.ext_getElem? fun k => ?_)
      by_cases hk : k < N.names.length
      · have e2 := List.getElem?_eq_getElem (l := h) (i := k) (by rw [hh.len]; exact hk)
        have e3 := List.getElem?_eq_getElem (l := a0) (i := k) (by rw [ha0.len]; exact hk)
        have h1 := hr k _ _ e2 e3
        have h2 : ¬ a0[k]'(by rw [ha0.len]; exact hk) < h[k]'(by rw [hh.len]; exact hk) := fun z => no ⟨k, _, _, e2, e3, z⟩
        rw [e2, e3]
        congr 1
        omega
      · rw [List.getElem?_eq_none (by rw [ha0.len]; omega), List.getElem?_eq_none (by rw [hh.len]; omega)]
    obtain ⟨k0, q0, r0, hq0, hr0, hlt⟩ := hex
    have hk0 : k0 < N.names.length := by
      have := (List.getElem?_eq_some_iff.mp hq0).1
      rw [hh.len] at this
      exact this
    have grow : ∀ n : Nat, ∃ m ∈ finN N L, over m a0 = true ∧ (n : Int) ≤ m.getD k0 0 := by
      intro n
      induction n with
      | zero =>
        refine ⟨a0, hin a0 (List.mem_cons_of_mem _ ha), over_refl a0, ?_⟩
        rw [getD_of hr0]
        exact ha0.nn _ (List.mem_of_getElem? hr0)
      | succ n ih =>
        obtain ⟨m, mm, om, hn⟩ := ih
        have hm := S.hip L m mm
        obtain ⟨m', mm', k1⟩ := shift S ha0 c h ch hip (List.mem_cons_of_mem _ ha) m mm om
        have hm' := S.hip L m' mm'
        have om' := (over_iff (hm.len.trans ha0.len.symm)).mp om
        refine ⟨m', mm', (over_iff (hm'.len.trans ha0.len.symm)).mpr fun k u v hu hv => ?_, ?_⟩
        · have hk : k < N.names.length := by
            have := (List.getElem?_eq_some_iff.mp hv).1
            rw [ha0.len] at this
            exact this
          have e1 := List.getElem?_eq_getElem (l := m) (i := k) (by rw [hm.len]; exact hk)
          have e2 := List.getElem?_eq_getElem (l := h) (i := k) (by rw [hh.len]; exact hk)
          have e4 := k1 k _ _ _ e1 e2 hv
          rw [hu] at e4
          have := Option.some.inj e4
          have h1 := om' k _ _ e1 hv
          have h2 := hr k _ _ e2 hv
          omega
        · have e1 := List.getElem?_eq_getElem (l := m) (i := k0) (by rw [hm.len]; exact hk0)
          rw [getD_of e1] at hn
          rw [getD_of (k1 k0 _ _ _ e1 hq0 hr0)]
          omega
    obtain ⟨B, hB⟩ := at_most k0 (finN N L)
    obtain ⟨m, mm, _, hn⟩ := grow B
    have := hB m mm
    omega
end
section
variable {N : Net} {a : Nat} {x : Str} {lid : Int} {L : Nat}
theorem st_congr {succ succ' : Succ} {b : Hp'} : ∀ n, (∀ h ∈ heapsOf (st succ b n), succ' h = succ h) → st succ' b n = st succ b n
  | 0, _ => rfl
  | n + 1, hs => by
    have ih := st_congr n fun h hh => hs h ((heapsOf_pre (stepS_pre _ _ _)).subset hh)
    show stepS succ' (st succ' b n) n = stepS succ (st succ b n) n
    rw [ih]
    unfold stepS
    cases hq : (st succ b n)[n]? with
    | none => rfl
    | some p =>
      simp only
      rw [hs p.1 ((heapsOf_pre (stepS_pre _ _ _)).subset (List.mem_map_of_mem (List.mem_of_getElem? hq)))]
theorem Sea.all (S : Sea N L) (n : Nat) {h : Hp'} (hh : h ∈ heapsOf (stN N n)) : h ∈ finN N L := by
  by_cases e : n ≤ L
  · exact (heapsOf_pre (st_pre e)).subset hh
  · have := st_stop S.e.len n (by omega)
    unfold stN at hh
    rw [this] at hh
    exact hh
theorem free_succ (S : Sea N L) (hm : ∀ h ∈ finN N L, h.getD a 0 ≤ lid) {h : Hp'} (hh : h ∈ finN N L) : succB N a lid h = succN N h := by
  unfold succB
  exact List.filter_eq_self.mpr fun s hs => decide_eq_true (hm _ (S.e.closed h hh s hs))
/-- nothing is barred: the same search -/
theorem free_st (S : Sea N L) (hm : ∀ h ∈ finN N L, h.getD a 0 ≤ lid) (n : Nat) : stB N a lid n = stN N n :=
  st_congr n fun h hh => free_succ S hm (S.all n hh)
theorem free_L (S : Sea N L) (hm : ∀ h ∈ finN N L, h.getD a 0 ≤ lid) {L' : Nat} (e : Ends' (succB N a lid) N.begin L') : L' = L := by
  have e' : Ends' (succN N) N.begin L' := ⟨by
    have := e.len
    have h2 := free_st S hm L'
    unfold stB stN at h2
    rw [h2] at this
    exact this⟩
  rcases Nat.le_total L' L with q | q
  · exact S.e.done q e'.len
  · exact (e'.done q S.e.len).symm
/-- the wider net, where nothing is barred -/
structure Free (N : Net) (a : Nat) (x : Str) (lid : Int) (L : Nat) : Prop where
  g : GN N
  ha : N.names[a]? = some x
  S : Sea N L
  S' : Sea (lidN N a x lid) L
  hm : ∀ h ∈ finN N L, h.getD a 0 ≤ lid
theorem Free.l0 (F : Free N a x lid L) : N.begin.getD a 0 ≤ lid := F.hm _ (begin_mem L)
theorem Free.st (F : Free N a x lid L) (n : Nat) : stN (lidN N a x lid) n = mapF (phi a lid) (stN N n) := by
  rw [lid_st F.g F.ha F.S'.W F.l0, free_st F.S F.hm]
theorem Free.fin (F : Free N a x lid L) : finN (lidN N a x lid) L = (finN N L).map (phi a lid) := by
  unfold finN
  rw [F.st, heapsOf_mapF]
theorem Free.mem (F : Free N a x lid L) {h : Hp'} (hh : h ∈ finN N L) : phi a lid h ∈ finN (lidN N a x lid) L := by
  rw [F.fin]
  exact List.mem_map_of_mem hh
theorem Free.dead (F : Free N a x lid L) : (finN (lidN N a x lid) L).filter (isDead (lidN N a x lid)) = ((finN N L).filter (isDead N)).map (phi a lid) := by
  rw [F.fin, List.filter_map]
  congr 1
  apply List.filter_congr
  intro h hh
  show isDead (lidN N a x lid) (phi a lid h) = isDead N h
  unfold isDead
  rw [lid_succ F.g F.ha F.S'.W (F.S.hip L h hh) (F.hm h hh), free_succ F.S F.hm hh, List.isEmpty_map]
theorem Free.row (F : Free N a x lid L) {h : Hp'} (hh : h ∈ finN N L) : rowOf (lidN N a x lid) L (phi a lid h) = rowOf N L h := by
  have hi : (finN N L).idxOf h < (finN N L).length := List.idxOf_lt_length_iff.mpr hh
  have h1 : (finN N L)[(finN N L).idxOf h]? = some h := by rw [List.getElem?_eq_getElem hi, List.getElem_idxOf]
  have h2 : (finN (lidN N a x lid) L)[(finN N L).idxOf h]? = some (phi a lid h) := by rw [F.fin, List.getElem?_map, h1]; rfl
  unfold rowOf
  rw [idx_of (st_nd L) h2, F.st]
  congr 1
  unfold mapF
  rw [List.getElem?_map, Option.map_map]
  rfl
theorem goal_hip {g : Hp'} (hg : Hip N g) : Hip (lidN N a x lid) (g ++ [0]) := ⟨by rw [lid_names, List.length_append, List.length_append, hg.len]; rfl, fun z hz => by
  rcases List.mem_append.mp hz with q | q
  · exact hg.nn z q
  · obtain rfl : z = 0 := by simpa using q
    exact Int.le_refl _⟩
theorem over_phi {z g : Hp'} (hl : z.length = g.length) (hb : z.getD a 0 ≤ lid) : over (phi a lid z) (g ++ [0]) = over z g := by
  unfold over phi
  rw [List.zip_append hl, List.all_append]
  show ((z.zip g).all _ && (decide (0 ≤ lid - z.getD a 0) && true)) = _
  rw [decide_eq_true (by omega)]
  simp
end
/-! what is covered, by the search that ends -/
section
variable {N : Net} {L : Nat} {g : Hp'}
theorem cov_yes (S : Sea N L) (hg : Hip N g) (h : CovEnd N g true) : ∃ z ∈ finN N L, over z g = true := by
  obtain ⟨n, hn⟩ := h
  rw [if_pos rfl] at hn
  exact lev_sound S.W hg (begin_hip S.W) hn (P := (· ∈ finN N L)) (begin_mem L) fun h _ hh f hf c => S.fire_mem hh hf c
theorem cov_no (S : Sea N L) (hg : Hip N g) (h : CovEnd N g false) : ∀ z ∈ finN N L, over z g = false := by
  obtain ⟨n, hn⟩ := h
  rw [if_neg Bool.false_ne_true] at hn
  intro z hz
  have := st_all (succ := succN N) (b := N.begin) (P := fun h => Hip N h ∧ covd N g h n = false) ⟨begin_hip S.W, hn.1⟩ (fun h hh s hs => by
    obtain ⟨f, hf, rfl⟩ := List.mem_map.mp hs
    rw [List.mem_filter] at hf
    refine ⟨fire_hip S.W hh.1 hf.1 hf.2, ?_⟩
    cases c : covd N g (fire N h f) n with
    | false => rfl
    | true =>
      have := fre_nil S.W hg hn.2 hh.1 (covd_fire S.W hg hh.1 hf.1 hf.2 c)
      rw [hh.2] at this
      cases this) L z hz
  cases o : over z g with
  | false => rfl
  | true =>
    have := goal_cov S.W hg (n := n) this.1 o
    rename_i t
    rw [t.2] at this
    cases this
end
theorem Free.told {N : Net} {a : Nat} {x : Str} {lid : Int} {L : Nat} (F : Free N a x lid L) {g : Hp'} (hg : Hip N g) {b b' : Bool} (h : CovEnd N g b) (h' : CovEnd (lidN N a x lid) (g ++ [0]) b') : b = b' := by
  have hg' : Hip (lidN N a x lid) (g ++ [0]) := goal_hip hg
  have ov : ∀ z ∈ finN N L, over (phi a lid z) (g ++ [0]) = over z g := fun z hz => over_phi ((F.S.hip L z hz).len.trans hg.len.symm) (F.hm z hz)
  cases b with
  | true =>
    cases b' with
    | true => rfl
    | false =>
      obtain ⟨z, hz, e⟩ := cov_yes F.S hg h
      have := cov_no F.S' hg' h' _ (F.mem hz)
      rw [ov z hz, e] at this
      cases this
  | false =>
    cases b' with
    | false => rfl
    | true =>
      obtain ⟨z', hz', e⟩ := cov_yes F.S' hg' h'
      rw [F.fin] at hz'
      obtain ⟨z, hz, rfl⟩ := List.mem_map.mp hz'
      rw [ov z hz] at e
      have := cov_no F.S hg h z hz
      rw [e] at this
      cases this
end TK

/-! part M7 -/
set_option Elab.async false
set_option linter.all false
set_option maxRecDepth 100000
set_option maxHeartbeats 4000000
/-! TK: both places together. -/
namespace TK
open PySem PySem.Spec PyProof.Rows L2 PG
section
variable {N : Net} {a : Nat} {x : Str} {lid : Int}
theorem sum_one (v : Nat → Int) : ∀ n : Nat, a < n → (∀ k, k < n → k ≠ a → v k = 0) → ((List.range n).map v).sum = v a
  | 0, h, _ => absurd h (Nat.not_lt_zero _)
  | n + 1, h, hv => by
    rw [List.range_succ, List.map_append, List.sum_append]
    show _ + (v n + 0) = _
    by_cases e : a = n
    · subst e
      have : ((List.range a).map v).sum = 0 := by
        have : (List.range a).map v = (List.range a).map fun _ => (0 : Int) := List.map_congr_left fun k hk => hv k (by have := List.mem_range.mp hk; omega) (by have := List.mem_range.mp hk; omega)
        rw [this]
        clear this h hv
        induction a with
        | zero => rfl
        | succ m ih => rw [List.range_succ, List.map_append, List.sum_append, ih]; rfl
      rw [this]
      omega
    · rw [sum_one v n (by omega) fun k hk => hv k (by omega), hv n (by omega) (fun z => e z.symm)]
      omega
def wtD (x : Str) (ps : List (Str × Int)) : List Int := ps.map fun p => if decide (p.1 ∈ [x, lidS]) = true then 1 else 0
theorem lid_len : (lidN N a x lid).names.length = N.names.length + 1 := by rw [lid_names]; simp
theorem wtD_length : (wtD x (lidN N a x lid).places).length = (lidN N a x lid).names.length := by
  unfold wtD
  rw [List.length_map, names_len]
theorem wtD_01 (ps : List (Str × Int)) : ∀ z ∈ wtD x ps, 0 ≤ z ∧ z ≤ 1 := fun z hz => by
  unfold wtD at hz
  obtain ⟨p, _, rfl⟩ := List.mem_map.mp hz
  split <;> omega
theorem wtD_get {k : Nat} {y : Str} (hy : (lidN N a x lid).names[k]? = some y) : (wtD x (lidN N a x lid).places).getD k 0 = if decide (y ∈ [x, lidS]) = true then 1 else 0 := by
  unfold Net.names at hy
  rw [List.getElem?_map] at hy
  obtain ⟨p, hp, rfl⟩ := Option.map_eq_some_iff.mp hy
  apply getD_of
  unfold wtD
  rw [List.getElem?_map, hp]
  rfl
theorem zero_get {M : Net} {k : Nat} (hk : k < M.names.length) : (zeros M)[k]? = some 0 := by
  unfold zeros
  rw [List.getElem?_replicate, if_pos hk]
theorem lid_dot (g : GN N) (ha : N.names[a]? = some x) : ∀ f ∈ (lidN N a x lid).firings, dotI (wtD x (lidN N a x lid).places) (fire (lidN N a x lid) (zeros (lidN N a x lid)) f) (lidN N a x lid).names.length = 0 := fun f' hf' => by
  obtain ⟨f, hf, rfl⟩ := List.mem_map.mp hf'
  have hal : a < N.names.length := (List.getElem?_eq_some_iff.mp ha).1
  unfold dotI
  rw [lid_len, List.range_succ, List.map_append, List.sum_append]
  have hxl : (lidN N a x lid).names[N.names.length]? = some lidS := by rw [lid_names, List.getElem?_append_right (Nat.le_refl _)]; simp
  have ent : ∀ {k : Nat} {y : Str}, (lidN N a x lid).names[k]? = some y → (fire (lidN N a x lid) (zeros (lidN N a x lid)) (lidF x f)).getD k 0 = cnt (lidF x f).gives y - cnt (lidF x f).takes y := fun {k y} hy => by
    rw [getD_of (fire_get hy (zero_get (List.getElem?_eq_some_iff.mp hy).1))]
    omega
  have nm : ∀ {k : Nat} {y : Str}, N.names[k]? = some y → (lidN N a x lid).names[k]? = some y := fun {k y} hy => by
    rw [lid_names, List.getElem?_append_left (List.getElem?_eq_some_iff.mp hy).1, hy]
  rw [sum_one (a := a) _ _ hal fun k hk hne => ?_]
  · show _ + (_ + 0) = _
    suffices e0 : (wtD x (lidN N a x lid).places).getD a 0 * (fire (lidN N a x lid) (zeros (lidN N a x lid)) (lidF x f)).getD a 0 + ((wtD x (lidN N a x lid).places).getD N.names.length 0 * (fire (lidN N a x lid) (zeros (lidN N a x lid)) (lidF x f)).getD N.names.length 0 + 0) = 0 by exact e0
    rw [wtD_get (nm ha), ent (nm ha), wtD_get hxl, ent hxl, cnt_T (nm_ne g ha), cnt_G (nm_ne g ha), cnt_lidT g hf, cnt_lidG g hf, if_pos (by simp), if_pos (by simp)]
    unfold moreF
    split <;> split <;> omega
  · have hy := List.getElem?_eq_getElem hk
    rw [wtD_get (nm hy), if_neg, Int.zero_mul]
    simp only [decide_eq_true_eq, List.mem_cons, List.not_mem_nil, or_false, not_or]
    refine ⟨fun e => hne ?_, nm_ne g hy⟩
    rw [← ix_get g.W.nd hy, e, ix_get g.W.nd ha]
theorem mem_numsX {M : Net} {ps : List Str} (nd : M.names.Nodup) {y : Str} (hy : y ∈ M.names) : ((ix M.names y : Nat) : Int) ∈ nums M ps ↔ y ∈ ps := by
  unfold nums
  rw [List.mem_filterMap]
  constructor
  · rintro ⟨i, _, e⟩
    cases hz : M.names[i]? with
    | none => rw [hz] at e; cases e
    | some z =>
      rw [hz] at e
      simp only [Option.bind_some] at e
      split at e
      · rename_i h
        have ei := Option.some.inj e
        have : i = ix M.names y := by omega
        subst this
        rw [ix_at hy] at hz
        rw [Option.some.inj hz]
        exact of_decide_eq_true h
      · cases e
  · intro h
    refine ⟨ix M.names y, List.mem_range.mpr (List.idxOf_lt_length_iff.mpr hy), ?_⟩
    rw [ix_at hy]
    simp [h]
theorem cnt_pos : ∀ {ps : List (Str × Int)} {y : Str}, 0 < cnt ps y → ∃ p ∈ ps, p.1 = y
  | [], y, h => by exact absurd h (by show ¬ (0 : Int) < 0; omega)
  | p :: ps, y, h => by
    by_cases e : p.1 = y
    · exact ⟨p, List.mem_cons_self .., e⟩
    · have h' : 0 < (if p.1 = y then p.2 else 0) + cnt ps y := h
      rw [if_neg e, Int.zero_add] at h'
      obtain ⟨q, hq, e⟩ := cnt_pos h'
      exact ⟨q, List.mem_cons_of_mem _ hq, e⟩
theorem pos_cnt {ns : List Str} {ps : List (Str × Int)} (h : OkP ns ps) {p : Str × Int} (hp : p ∈ ps) : 0 < cnt ps p.1 := by
  rw [cnt_in h.up hp]
  have := (h.cnt p hp).1
  omega
theorem lid_kept (g : GN N) (ha : N.names[a]? = some x) (W' : Wf (lidN N a x lid)) {ps : List Str} (hps : ∀ y, y ∈ ps ↔ y = x ∨ y = lidS) (t : Bool) : Kept (lidN N a x lid) (nums (lidN N a x lid) ps) t := fun f' hf' => by
  obtain ⟨f, hf, rfl⟩ := List.mem_map.mp hf'
  have hxn := nm_ne g ha
  have okT := W'.tk _ hf'
  have okG := W'.gv _ hf'
  have okF : ∀ p ∈ farF t (lidF x f), p.1 ∈ (lidN N a x lid).names := by cases t <;> first | exact okT.mem | exact okG.mem
  have okN : ∀ p ∈ nearF t (lidF x f), p.1 ∈ (lidN N a x lid).names := by cases t <;> first | exact okT.mem | exact okG.mem
  -- counts on both sides
  have cx1 : cnt (lidF x f).takes x = cnt f.takes x := cnt_T hxn
  have cx2 : cnt (lidF x f).gives x = cnt f.gives x := cnt_G hxn
  have cl1 := cnt_lidT (x := x) g hf
  have cl2 := cnt_lidG (x := x) g hf
  have n1 := (ps_cnt_le (g.tk f hf) x).1
  have n2 := (ps_cnt_le (g.gv f hf) x).1
  unfold moreF at cl1 cl2
  have far : (0 < cnt (farF t (lidF x f)) x ∨ 0 < cnt (farF t (lidF x f)) lidS) → ((farF t (lidF x f)).any fun p => decide (((ix (lidN N a x lid).names p.1 : Nat) : Int) ∈ nums (lidN N a x lid) ps)) = true := fun h => by
    rw [List.any_eq_true]
    rcases h with h | h
    · obtain ⟨p, hp, e⟩ := cnt_pos h
      exact ⟨p, hp, decide_eq_true ((mem_numsX W'.nd (okF p hp)).mpr ((hps p.1).mpr (.inl e)))⟩
    · obtain ⟨p, hp, e⟩ := cnt_pos h
      exact ⟨p, hp, decide_eq_true ((mem_numsX W'.nd (okF p hp)).mpr ((hps p.1).mpr (.inr e)))⟩
  by_cases hn : ∀ p ∈ nearF t (lidF x f), ¬ ((ix (lidN N a x lid).names p.1 : Nat) : Int) ∈ nums (lidN N a x lid) ps
  · exact .inr hn
  · refine .inl (far ?_)
    obtain ⟨p, hp, e⟩ : ∃ p ∈ nearF t (lidF x f), ((ix (lidN N a x lid).names p.1 : Nat) : Int) ∈ nums (lidN N a x lid) ps := by
      refine Classical.byContradiction fun no => hn fun p hp z => no ⟨p, hp, z⟩
    have e := (hps p.1).mp ((mem_numsX W'.nd (okN p hp)).mp e)
    cases t with
    | true =>
      have hc := pos_cnt okT hp
      show 0 < cnt (lidF x f).gives x ∨ 0 < cnt (lidF x f).gives lidS
      rcases e with e | e
      · rw [e, cx1] at hc
        rw [cx2, cl2]
        split <;> omega
      · rw [e, cl1] at hc
        rw [cx2, cl2]
        split at hc <;> split <;> omega
    | false =>
      have hc := pos_cnt okG hp
      show 0 < cnt (lidF x f).takes x ∨ 0 < cnt (lidF x f).takes lidS
      rcases e with e | e
      · rw [e, cx2] at hc
        rw [cx1, cl1]
        split <;> omega
      · rw [e, cl2] at hc
        rw [cx1, cl1]
        split at hc <;> split <;> omega
theorem ix_phi (g : GN N) (ha : N.names[a]? = some x) : ix (lidN N a x lid).names x = a := by
  rw [lid_names, ix_app (List.mem_of_getElem? ha), ix_get g.W.nd ha]
theorem phi_at {h : Hp'} (hl : a < h.length) : (phi a lid h).getD a 0 = h.getD a 0 := by
  unfold phi
  rw [List.getD_eq_getElem?_getD, List.getElem?_append_left hl, ← List.getD_eq_getElem?_getD]
end
end TK

/-! part F34 -/
set_option Elab.async false
set_option linter.all false
set_option maxRecDepth 100000
set_option maxHeartbeats 4000000
namespace TK
open PySem PySem.Spec PyProof.Rows L2 PG
variable {P : Program} {w : World} {K : PySem.W.Frag} {mg : Str → Option Value} {base : Heap}
theorem ok_start {N : Net} (E : Env K mg) (W : Wf N) : C8.Cal P w K mg base 1 "_law_start" (Pr (A1 (netD N)) (RD (tI N.begin))) [] :=
  cl_L_start E fun cdv A outer s H vs Q E' hr G ex a k => by
    obtain ⟨v0, rfl, r0⟩ := ACons.one a
    have hl : N.places.length ≤ 100000 := Nat.le_trans W.len (by decide)
    refine ws_ret (R := RD (tI N.begin)) (ed_tupL (ee_is (ed_lcM (l := N.places) (src := pairD) (own := [("_law_name", 1), ("_law_begin", 2)]) rfl sc_L_start.nd (ei_tup (ed_ixT (i := 0) (d := placesD N) (ee_var (i := 0) rfl r0) ed_int atI_zero)) (blkOk_by (N := N_L_start) (sc := defScope s_L_start) (by decide +kernel)) (fun p => some (PyData.int p.2)) (fun i p x G' eg hp rx => ?_) hl) ?_) E.b_tuple) ex k
    · obtain ⟨t, rfl, ht⟩ := pairD_eq rx
      refine ⟨_, ?_, fun s H C cl fp => ⟨eg_tup2 rfl ht (eg_name (i := 1) sc_L_start.nd) (eg_name (i := 2) sc_L_start.nd), ets_nil, ee_var (i := 2) rfl (.int _)⟩⟩
      rfl
    · rw [fm_some]
      unfold Net.begin
      rw [List.map_map]
      rfl
theorem ACons.four' {R1 R2 R3 R4 : V → Hp → Prop} {vs : List V} {G : Hp} (h : ACons R1 (ACons R2 (ACons R3 (ACons R4 ANil))) vs G) : ∃ v1 v2 v3 v4, vs = [v1, v2, v3, v4] ∧ R1 v1 G ∧ R2 v2 G ∧ R3 v3 G ∧ R4 v4 G := by
  obtain ⟨v, r, rfl, h1, v', r', rfl, h2, v'', r'', rfl, h3, v3, r3, rfl, h4, rfl⟩ := h
  exact ⟨v, v', v'', v3, rfl, h1, h2, h3, h4⟩
/-- the heap behind a change: takes off, gives to times -/
abbrev chg (N : Net) (h : Hp') (f : Fir) (to : Int) : Hp' := plus N.names to f.gives (plus N.names (-1) f.takes h)
theorem chg_get {N : Net} {h : Hp'} {f : Fir} {to : Int} {k : Nat} {x : Str} {y : Int} (hx : N.names[k]? = some x) (hy : h[k]? = some y) : (chg N h f to)[k]? = some (y + (-1) * cnt f.takes x + to * cnt f.gives x) :=
  plus_get (s := to) (ps := f.gives) hx (plus_get (s := -1) (ps := f.takes) hx hy)
theorem chg_next {fl h : Hp'} {i : Nat} {z : Int} (hl : fl.length = h.length) (hi : fl[i]? = some z) : (fl.take i ++ h.drop i).set i z = fl.take (i + 1) ++ h.drop (i + 1) := by
  have il := (List.getElem?_eq_some_iff.mp hi).1
  rw [List.set_append_right _ _ (by rw [List.length_take]; omega), List.length_take, Nat.min_eq_left (by omega), Nat.sub_self, List.take_succ, hi, List.drop_eq_getElem_cons (by omega), List.set_cons_zero, List.append_assoc]
  rfl
theorem ok_change {N : Net} {h : Hp'} {f : Fir} {to : Int} (E : Env K mg) (W : Wf N) (hf : f ∈ N.firings) (hl : h.length = N.names.length) (t0 : 0 ≤ to) (t1 : to ≤ 1) :
    C8.Cal P w K mg base 1 "_law_change" (Pr (ACons (RD (netD N)) (ACons (RD (tI h)) (ACons (RD (firD f)) (ACons (RD (.int to)) ANil)))) (RD (tI (chg N h f to)))) [] :=
  cl_L_change E fun cdv A outer s H vs Q E' hr G ex a k => by
    obtain ⟨v0, v1, v2, v3, rfl, r0, r1, r2, r3⟩ := ACons.four' a
    obtain rfl := Rp.int_eq r3
    refine ws_setN (i := 4) sc_L_change.nd (en_listI (ee_var (i := 1) rfl r1) E.b_list) ex fun t o G1 H1 s1 ht w1 ho => ?_
    subst ho
    have fll : (chg N h f to).length = h.length := by rw [hl]; exact plus_length (plus_length hl)
    generalize hfl : chg N h f to = fl at fll k
    refine ws_forS (S := []) (Y := YE (N.places.map pairD)) (ei_enumT (ed_ixT (i := 0) (d := placesD N) (ee_var (i := 0) rfl (Rp.mono s1.g _ _ r0)) ed_int atI_zero) E.b_enumerate) PassesOwn.never rfl s1
      (fun i σ' G' H' => ∃ o5 o6 o7 o8 o9 o10, σ' = [some v0, some v1, some v2, some (.int to), some (.ref t), o5, o6, o7, o8, o9, o10] ∧ Own G' H' t (.lst ((fl.take i ++ h.drop i).map V.int))) (fun G2 H2 s2 => ⟨_, _, _, _, _, _, rfl, w1.step0 s2⟩) ?_ ?_
    · rintro G1' eg i σ' G' H' G3 H3 x hi e1 s2 ⟨o5, o6, o7, o8, o9, o10, rfl, own⟩ s3 ⟨d, px, q, hd, rfl, hq, rp⟩
      rw [List.getElem?_map] at hd
      obtain ⟨p, hp, rfl⟩ := Option.map_eq_some_iff.mp hd
      have hx : N.names[i]? = some p.1 := by unfold Net.names; rw [List.getElem?_map, hp]; rfl
      have hin : i < N.names.length := (List.getElem?_eq_some_iff.mp hx).1
      have hil : i < h.length := by omega
      have hy := List.getElem?_eq_getElem hil
      refine wg (eg_tup2 rfl hq (eg_name (i := 5) sc_L_change.nd) (eg_name (i := 6) sc_L_change.nd)) s2.i fun H4 s4 => ?_
      have own4 := (own.step0 s3).step0 s4
      have s04 := s2.trans s4
      have r23 := Rp.mono (s1.g.trans (eg.trans e1)) _ _ r2
      have cl : i < (fl.take i ++ h.drop i).length := by rw [List.length_append, List.length_take, List.length_drop]; omega
      have c0 : (fl.take i ++ h.drop i).set i (h[i]) = fl.take i ++ h.drop i := by
        apply List.ext_getElem?
        intro m
        rw [List.getElem?_set]
        split
        · rename_i e
          subst e
          rw [List.getElem?_append_right (by rw [List.length_take]; omega), List.length_take, Nat.min_eq_left (by omega), Nat.sub_self, List.getElem?_drop, Nat.add_zero, hy]
        · rfl
      generalize hc : fl.take i ++ h.drop i = c at own4 cl c0
      let l2 : List (List (Str × Int) × Int) := [(f.takes, -1), (f.gives, to)]
      refine ws_forS (S := []) (Y := YD (l2.map fun q => .tuple [partsD q.1, .int q.2])) (ei_list (ed_lst (hl := by simp [l2]) (ad_cons (ed_tup (hl := by simp) (ad_cons (ed_ixT (i := 2) (d := partsD f.takes) (ee_var (i := 2) rfl r23) ed_int rfl) (ad_cons (ee_is (ed_neg ed_int) rfl) ad_nil))) (ad_cons (ed_tup (hl := by simp) (ad_cons (ed_ixT (i := 3) (d := partsD f.gives) (ee_var (i := 2) rfl r23) ed_int rfl) (ad_cons (ee_var (i := 3) rfl (.int _)) ad_nil))) ad_nil)))) PassesOwn.never rfl s04
        (fun j σ' G' H' => ∃ o7 o8 o9 o10, σ' = [some v0, some v1, some v2, some (.int to), some (.ref t), some (.int (i : Nat)), some px, o7, o8, o9, o10] ∧ Rp G' px (pairD p) ∧ Own G' H' t (.lst ((c.set i (h[i] + ((l2.take j).map fun q => q.2 * cnt q.1 p.1).sum)).map V.int))) (fun G5 H5 s5 => ⟨_, _, _, _, rfl, Rp.mono s5.g _ _ rp, by
          have := own4.step0 s5
          rw [← c0] at this
          rw [show h[i] + ((l2.take 0).map fun q => q.2 * cnt q.1 p.1).sum = h[i] by show h[i] + 0 = _; omega]
          exact this⟩) ?_ ?_
      · rintro G2' eg2 j σ5 G5 H5 G6 H6 x6 hj e2 s5 ⟨o7, o8, o9, o10, rfl, rp5, own5⟩ s6 ⟨d, hd, rd⟩
        rw [List.getElem?_map] at hd
        obtain ⟨ps, hps, rfl⟩ := Option.map_eq_some_iff.mp hd
        have hpm : ∀ z ∈ ps.1, z.1 ∈ N.names := by
          have := List.mem_of_getElem? hps
          simp only [l2, List.mem_cons, List.not_mem_nil, or_false] at this
          rcases this with rfl | rfl
          · exact (W.tk f hf).mem
          · exact (W.gv f hf).mem
        have hsd : -1 ≤ ps.2 ∧ ps.2 ≤ 1 := by
          have := List.mem_of_getElem? hps
          simp only [l2, List.mem_cons, List.not_mem_nil, or_false] at this
          rcases this with rfl | rfl
          · exact ⟨Int.le_refl (-1), by show (-1 : Int) ≤ 1; decide⟩
          · exact ⟨by show -1 ≤ to; omega, t1⟩
        obtain ⟨qs, ys, rfl, hqs, pys⟩ := Rp.tup_eq rd (by unfold plD; simp [isPr])
        obtain ⟨w7, w8, rfl, r7, r8⟩ := AD.two pys
        obtain rfl := Rp.int_eq r8
        refine wg (eg_tup2 rfl hqs (eg_name (i := 7) sc_L_change.nd) (eg_name (i := 8) sc_L_change.nd)) s5.i fun H7 s7 => ?_
        have own7 := (own5.step0 s6).step0 s7
        have s07 := s5.trans s7
        have rp6 := Rp.mono s6.g _ _ rp5
        generalize hz0 : h[i] + ((l2.take j).map fun q => q.2 * cnt q.1 p.1).sum = z0 at own7
        refine ws_forS (S := []) (Y := YD (ps.1.map pairD)) (ei_tup (ee_var (i := 7) rfl r7)) PassesOwn.never rfl s07
          (fun m σ' G' H' => ∃ o9 o10, σ' = [some v0, some v1, some v2, some (.int to), some (.ref t), some (.int (i : Nat)), some px, some w7, some (.int ps.2), o9, o10] ∧ Rp G' px (pairD p) ∧ Own G' H' t (.lst ((c.set i (z0 + ps.2 * cnt (ps.1.take m) p.1)).map V.int))) (fun G8 H8 s8 => ⟨_, _, rfl, Rp.mono s8.g _ _ rp6, by
            rw [show z0 + ps.2 * cnt (ps.1.take 0) p.1 = z0 by show z0 + ps.2 * 0 = z0; omega]
            exact own7.step0 s8⟩) ?_ ?_
        · rintro G3' eg3 m σ8 G8 H8 G9 H9 x9 hm e3 s8 ⟨o9, o10, rfl, rp8, own8⟩ s9 ⟨d, hd, rd⟩
          rw [List.getElem?_map] at hd
          obtain ⟨z, hz, rfl⟩ := Option.map_eq_some_iff.mp hd
          obtain ⟨qz, rfl, hqz⟩ := pairD_eq rd
          refine wg (eg_tup2 rfl hqz (eg_name (i := 9) sc_L_change.nd) (eg_name (i := 10) sc_L_change.nd)) s8.i fun H10 s10 => ?_
          have own10 := (own8.step0 s9).step0 s10
          have s010 := s8.trans s10
          have rp9 := Rp.mono s9.g _ _ rp8
          have hzn := hpm z (List.mem_of_getElem? hz)
          have nxt : cnt (ps.1.take (m + 1)) p.1 = cnt (ps.1.take m) p.1 + if z.1 = p.1 then z.2 else 0 := by
            rw [List.take_succ, hz, cnt_app]
            show _ + ((if z.1 = p.1 then z.2 else 0) + 0) = _
            omega
          refine ws_if (t := decide (z.1 = p.1)) (et_is (et_eq hr (ee_var (i := 9) rfl (.str _)) (ed_ixT (i := 0) (d := .str p.1) (ee_var (i := 6) rfl rp9) ed_int atI_zero) (shp_name (name_ok W hzn)).of (shp_name (name_ok W (List.mem_of_getElem? hx))).of) (by rw [PyData.eqv]; by_cases e : z.1 = p.1 <;> simp [e])) s010.i fun H11 s11 => ?_
          have own11 := own10.step0 s11
          have s011 := s010.trans s11
          by_cases e : z.1 = p.1
          · rw [decide_eq_true e]
            refine iteT ?_
            generalize hzz : z0 + ps.2 * cnt (ps.1.take m) p.1 = zz at own11
            refine ws_setLH (G := upd G9 t (.lst ((c.set i zz).map V.int))) (R := RD (.int (zz + ps.2 * z.2))) (n := (i : Nat)) (j := i) (ed_add (ee_ixL (R := RD (.int zz)) (i := (i : Nat)) (ee_var (i := 4) rfl rfl) upd_same (ee_var (i := 5) rfl (.int _)) (L2.atI_nat (by rw [List.getElem?_map, List.getElem?_set_self cl]; rfl)) (.int _)) (ed_mul (ee_var (i := 8) rfl (.int _)) (ee_var (i := 10) rfl (.int _)) (mul_small (by omega) (by omega)))) (ee_var (i := 4) rfl rfl) (ee_var (i := 5) rfl (.int _)) (own11.exU s011.i) own11.h (ixN_nat (by rw [List.length_map, List.length_set]; exact cl)) fun v H12g H12 s12 r12 => ?_
            rw [Rp.int_eq r12]
            have s12' := Stp.weak own11.exG s12
            have own12 := own11.step0 s12'
            have s012 := (s011.trans s12').mut (o := .lst (((c.set i zz).map V.int).set i (.int (zz + ps.2 * z.2)))) own12.g (.inl ht)
            refine ws_nil (ws_nil ⟨G9, e3, s012, _, _, rfl, rp9, ?_⟩)
            have ez : (c.set i (z0 + ps.2 * cnt (ps.1.take (m + 1)) p.1)).map V.int = ((c.set i zz).map V.int).set i (.int (zz + ps.2 * z.2)) := by
              rw [← List.map_set, List.set_set, nxt, if_pos e, Int.mul_add, ← hzz]
              congr 2
              omega
            rw [ez]
            exact own12.upd
          · rw [decide_eq_false e]
            refine iteF (ws_nil (ws_nil ⟨G9, e3, s011, _, _, rfl, rp9, ?_⟩))
            rw [nxt, if_neg e, Int.add_zero]
            exact own11
        · rintro σ8 G8 H8 e3 s8 ⟨o9, o10, rfl, rp8, own8⟩
          refine ws_nil ⟨G8, e2.trans e3, s8, _, _, _, _, rfl, rp8, ?_⟩
          rw [List.length_map, List.take_length] at own8
          have : h[i] + ((l2.take (j + 1)).map fun q => q.2 * cnt q.1 p.1).sum = z0 + ps.2 * cnt ps.1 p.1 := by
            rw [List.take_succ, hps, List.map_append, List.sum_append, ← hz0]
            show _ + (_ + (ps.2 * cnt ps.1 p.1 + 0)) = _
            omega
          rw [this]
          exact own8
      · rintro σ5 G5 H5 e2 s5 ⟨o7, o8, o9, o10, rfl, rp5, own5⟩
        refine ws_nil ⟨G5, e1.trans e2, s5, _, _, _, _, _, _, rfl, ?_⟩
        have hz : fl[i]? = some (h[i] + ((l2.take (l2.map fun q => PyData.tuple [partsD q.1, .int q.2]).length).map fun q => q.2 * cnt q.1 p.1).sum) := by
          rw [← hfl, chg_get hx hy]
          congr 1
          show _ = h[i] + ((-1) * cnt f.takes p.1 + (to * cnt f.gives p.1 + 0))
          omega
        rw [← hc, chg_next fll hz] at own5
        exact own5
    · rintro σ' G3 H3 e3 s3 ⟨o5, o6, o7, o8, o9, o10, rfl, own⟩
      rw [List.length_map, ← names_len, ← hl, List.drop_length, List.append_nil, ← fll, List.take_length] at own
      have s4 := s3.frz own.h ht
      refine ws_ret (R := RD (tI fl)) (ed_tupL (ee_var (i := 4) (R := RD (.list (fl.map .int))) rfl (.lst upd_same (ints_paired _))) E.b_tuple) s4.i fun v G5 H5 s5 r5 => k v G5 H5 (s4.trans s5) r5
end TK

/-! part F35 -/
set_option Elab.async false
set_option linter.all false
set_option maxRecDepth 100000
set_option maxHeartbeats 4000000
namespace TK
open PySem PySem.Spec PyProof.Rows L2 PG
variable {P : Program} {w : World} {K : PySem.W.Frag} {mg : Str → Option Value} {base : Heap}
theorem neg_none {M : Net} {h : Hp'} {f : Fir} (W : Wf M) (H : Hip M h) (hf : f ∈ M.firings) : PyData.eqv (.list (((chg M h f 0).filter fun c => decide (c < 0)).map .int)) (.list []) = canF M h f := by
  have e1 : PyData.eqv (.list (((chg M h f 0).filter fun c => decide (c < 0)).map .int)) (.list []) = ((chg M h f 0).filter fun c => decide (c < 0)).isEmpty := by
    cases ((chg M h f 0).filter fun c => decide (c < 0)) with
    | nil => rfl
    | cons s l => rw [List.map_cons, PyData.eqv, PyData.eqvAll]; rfl
  rw [e1, Bool.eq_iff_iff, List.isEmpty_iff, List.filter_eq_nil_iff, canF_iff W H hf]
  have cl : (chg M h f 0).length = M.names.length := plus_length (plus_length H.len)
  constructor
  · intro hn k x y hx hy
    have hm := List.mem_of_getElem? (chg_get (to := 0) (f := f) hx hy)
    have := hn _ hm
    simp only [decide_eq_true_eq] at this
    omega
  · intro c z hz
    obtain ⟨k, hk, e⟩ := List.mem_iff_getElem.mp hz
    rw [cl] at hk
    have hx := List.getElem?_eq_getElem hk
    have hy := List.getElem?_eq_getElem (l := h) (i := k) (by rw [H.len]; exact hk)
    have h1 := chg_get (to := 0) (f := f) hx hy
    rw [List.getElem?_eq_getElem (by rw [cl]; exact hk), e] at h1
    have h2 := c k _ _ hx hy
    have := Option.some.inj h1
    simp only [decide_eq_true_eq]
    omega
theorem blk_can : BlkOk N_L_can { kind := .function, names := [(".0", .local), ("_law_one", .local), ("_law_change", .globalImplicit), ("_law_heap", .cell), ("_law_net_here", .cell)], isGenerator := false, isCoroutine := false } { kind := .function, names := [(".0", .local), ("_law_count", .local)], isGenerator := false, isCoroutine := false } [("_law_count", 3)] := blkOk_by (by decide +kernel)
theorem ok_lcan {N : Net} {h : Hp'} (E : Env K mg) (W : Wf N) (Hh : Hip N h) : C8.Cal P w K mg base 2 "_law_can" (Pr (ACons (RD (netD N)) (ACons (RD (tI h)) ANil)) (RD (.list ((N.firings.filter (canF N h)).map firD)))) [] :=
  cl_L_can E fun cdv A outer s H vs Q E' hr G ex a k => by
    obtain ⟨v0, v1, rfl, r0, r1⟩ := ACons.two a
    refine ws_ret (R := RD (.list ((N.firings.filter (canF N h)).map firD))) ?_ ex k
    rw [← fm_if]
    refine ed_lcM (l := N.firings) (src := firD) (own := [("_law_one", 2)]) rfl sc_L_can.nd (ei_tup (ed_ixT (i := 1) (d := firingsD N) (ee_var (i := 0) rfl r0) ed_int rfl)) (blkOk_by (N := N_L_can) (sc := defScope s_L_can) (by decide +kernel)) _ (fun i f x G' eg hf rx => Turn1.test ⟨_, ?_, fun s H C cl fp => ⟨eg_name (i := 2) sc_L_can.nd, ?_, fun _ => ?_⟩⟩) (Nat.le_trans W.flen (by decide))
    · rfl
    · have hfm := List.mem_of_getElem? hf
      have cl : (chg N h f 0).length = N.names.length := plus_length (plus_length Hh.len)
      have cl' : (chg N h f 0).length ≤ 100000 := by rw [cl, names_len]; exact Nat.le_trans W.len (by decide)
      refine ets_one (et_is (et_eq hr (ee_is (d := .list ((chg N h f 0).filterMap fun c => if decide (c < 0) = true then some (PyData.int c) else none)) ?_ (by rw [fm_if])) (ed_lst ad_nil) ?_ rfl) (neg_none W Hh hfm))
      · refine ed_lcM (l := chg N h f 0) (src := PyData.int) (own := [("_law_count", 3)]) rfl sc_L_can.nd (ei_tup (ee_cal (ok_change E W hfm Hh.len (by decide) (by decide)) hr (ea_cons (ee_var (i := 0) rfl (Rp.mono eg _ _ r0)) (ea_cons (ee_var (i := 1) rfl (Rp.mono eg _ _ r1)) (ea_cons (ee_var (i := 2) rfl rx) (ea1 ed_int)))))) ?_ _ (fun j c y G'' eg2 hc ry => Turn1.test ⟨_, ?_, fun s H C cl fp => ⟨eg_name (i := 3) sc_L_can.nd, ?_, fun _ => ?_⟩⟩) cl'
        · exact blk_can
        · rfl
        · exact ets_one (et_lt (ee_var (i := 3) rfl ry) ed_int)
        · exact ee_var (i := 3) rfl ry
      · exact (shp_lst fun s hs => shp_int _).of
    · exact ee_var (i := 2) rfl rx
end TK

/-! part Q9 -/
set_option Elab.async false
set_option linter.all false
set_option maxRecDepth 100000
set_option maxHeartbeats 4000000
namespace TK
open PySem PySem.Spec PyProof.Rows L2 PG
/-- dict(parts).get(x, 0) is what the parts count of x -/
abbrev kvP (p : Str × Int) : Key × V := (.inr p.1, .int p.2)
theorem merge_cnt {x : Str} : ∀ {ps : List (Str × Int)} {acc : List (Key × V)}, (ps.map (·.1)).Nodup → valV (mergeK acc (ps.map kvP)) (.inr x) = if x ∈ ps.map (·.1) then some (.int (cnt ps x)) else valV acc (.inr x)
  | [], acc, _ => by simp [mergeK]
  | p :: ps, acc, nd => by
    rw [List.map_cons, List.nodup_cons] at nd
    have ih := merge_cnt (x := x) (ps := ps) (acc := putK acc (.inr p.1) (.int p.2)) nd.2
    show valV (mergeK (putK acc (.inr p.1) (.int p.2)) (ps.map kvP)) (.inr x) = _
    rw [ih, valV_put]
    by_cases e : x = p.1
    · subst e
      have h0 : cnt ps p.1 = 0 := cnt_out fun q hq z => nd.1 (z ▸ List.mem_map_of_mem (f := (·.1)) hq)
      rw [if_neg nd.1, if_pos rfl, if_pos (by simp)]
      show some (V.int p.2) = some (.int ((if p.1 = p.1 then p.2 else 0) + cnt ps p.1))
      rw [if_pos rfl, h0, Int.add_zero]
    · have e1 : cnt (p :: ps) x = cnt ps x := by
        show (if p.1 = x then p.2 else 0) + cnt ps x = _
        rw [if_neg fun z => e z.symm, Int.zero_add]
      rw [e1, if_neg (fun z => e (Sum.inr.inj z)), List.map_cons]
      by_cases m : x ∈ ps.map (·.1)
      · rw [if_pos m, if_pos (List.mem_cons_of_mem _ m)]
      · rw [if_neg m, if_neg (by rw [List.mem_cons, not_or]; exact ⟨e, m⟩)]
theorem merge_get {x : Str} {ps : List (Str × Int)} (nd : (ps.map (·.1)).Nodup) : (valV (mergeK [] (ps.map kvP)) (.inr x)).getD (.int 0) = .int (cnt ps x) := by
  rw [merge_cnt nd]
  by_cases m : x ∈ ps.map (·.1)
  · rw [if_pos m]; rfl
  · rw [if_neg m, cnt_out fun p hp (z : p.1 = x) => m (z ▸ List.mem_map_of_mem (f := (·.1)) hp)]
    rfl
theorem pairs_vals {G : Hp} : ∀ {xs : List V} {ps : List (Str × Int)}, Paired (Rp G) xs (ps.map pairD) → ∃ as : List Addr, xs = as.map V.ref ∧ Paired (fun p (kv : Key × V) => G p = some (.tup [kV kv.1, kv.2])) as (ps.map kvP)
  | [], [], _ => ⟨[], rfl, .nil⟩
  | [], _ :: _, h => nomatch h
  | _ :: _, [], h => nomatch h
  | _ :: _, p :: _, .cons r t => by
    obtain ⟨q, rfl, hq⟩ := pairD_eq r
    obtain ⟨as, rfl, h⟩ := pairs_vals t
    exact ⟨q :: as, rfl, .cons hq h⟩
theorem PS.nd {ns : List Str} {n : Nat} {ps : List (Str × Int)} (h : PS ns n ps) : (ps.map (·.1)).Nodup := by
  rw [List.Nodup, List.pairwise_map]
  exact h.up.imp fun r e => by
    rw [e] at r
    exact absurd r (Nat.lt_irrefl _)
section
variable {X : Cx} {σ : L2.St} {G : Hp} {e a b : Expr} {p pos apos cpos : Pos} {ps : List (Str × Int)} {x : Str}
theorem ed_cntOf {k : Nat} (hr : Room k X.A) (hc : X.calm = true) (nd : (ps.map (·.1)).Nodup) (he : EE X e σ G (RF (ps.map pairD))) (ha : ED X a σ G (.str x)) (hb : ED X b σ G (.int 0)) (hm : X.mg "dict" = none)
    (m : M2 X (.Call (.Name "dict" p) [e] [] pos) "get" apos a b cpos) (hg : Gl X "dict" := by rfl) (hs : starEach [e] X.env = (false, eval e X.env) :: starEach [] X.env := by rfl) (hpl : (backTo pos (starEach [] X.env)).any (·.1) = false := by rfl) :
    ED X (.Call (.Attribute (.Call (.Name "dict" p) [e] [] pos) "get" apos) [a, b] [] cpos) σ G (.int (cnt ps x)) := fun H Q ex q =>
  ⟨_, pe_dget2 (units1 hr) (pe_callTy (call_dictF hc) hg hm (by decide +kernel) (pa_self _) (by decide) (by decide) hs hpl) (pe_self a) (pe_self b) m, (ea1 he hs) H _ ex fun vs G1 H1 s1 r1 => by
    obtain ⟨v, rfl, ad, o, xs, rfl, h2, h3, h4⟩ := ACons.one r1
    obtain ⟨as, rfl, h5⟩ := pairs_vals h4
    refine ⟨ad, o, as, ps.map kvP, rfl, s1.i _ _ h2, h3, Paired.imp h5 fun p kv z => SqT.of (s1.i _ _ z), fun d hd => ⟨d, rfl, .inl ⟨_, .inl upd_same⟩, ?_⟩⟩
    have s2 : Stp [] G1 H1 (L2.upd G1 d (.dK (mergeK [] (ps.map kvP)))) (L2.upd H1 d (.dK (mergeK [] (ps.map kvP)))) := Stp.newP s1.i hd
    have s02 := s1.trans s2
    refine (ha.mono s02.g) _ _ s02.i fun y G3 H3 s3 r3 => (hb.mono (s02.g.trans s3.g)) H3 _ s3.i fun z G4 H4 s4 r4 => ?_
    have hd4 : H4 d = some (.dK (mergeK [] (ps.map kvP))) := s4.i _ _ ((s3.g.trans s4.g) _ _ upd_same)
    rw [Rp.str_eq r3, Rp.int_eq r4]
    refine ⟨_, DGet.k (k := .inr x) hd4, ?_⟩
    rw [merge_get nd]
    exact q _ G4 H4 ((s02.trans s3).trans s4) (.int _)⟩
end
end TK

/-! part F36 -/
set_option Elab.async false
set_option linter.all false
set_option maxRecDepth 100000
set_option maxHeartbeats 4000000
namespace PG
open PySem PySem.Spec PyProof.Rows L2
section
variable {X : Cx} {σ : L2.St} {G : Hp} {l tg : Expr} {q : Addr} {xs : List V}
theorem ei_tupV (ha : EE X l σ G (RV (.ref q))) (hq : G q = some (.tup xs)) : EI X tg l σ G xs.length (YV xs) := fun H R e k =>
  ⟨_, pi_tup (pe_self l), ha H _ e fun v G1 H1 s r => ⟨q, r, ⟨xs, SqT.of (s.i _ _ (s.g _ _ hq))⟩, k _ G1 H1 s (isIt_tup (.inl (s.g _ _ hq)))⟩⟩
end
end PG
namespace TK
open PySem PySem.Spec PyProof.Rows L2 PG
variable {P : Program} {w : World} {K : PySem.W.Frag} {mg : Str → Option Value} {base : Heap}
theorem ok_lidded {N : Net} {a : Nat} {x : Str} {lid : Int} (E : Env K mg) (g : GN N) (ha : N.names[a]? = some x) :
    C8.Cal P w K mg base 2 "_law_lidded" (Pr (ACons (NetF N) (ACons (RD (.int a)) (ACons (RD (.int lid)) ANil))) (RD (netD (lidN N a x lid)))) [] :=
  cl_L_lidded E fun cdv A outer s H vs Q E' hr G ex as k => by
    obtain ⟨v0, v1, v2, rfl, nf, r1, r2⟩ := ACons.three as
    obtain rfl := Rp.int_eq r1
    obtain rfl := Rp.int_eq r2
    obtain ⟨p, hp, rfl⟩ : ∃ p, N.places[a]? = some p ∧ p.1 = x := by
      unfold Net.names at ha
      rw [List.getElem?_map] at ha
      obtain ⟨p, hp, e⟩ := Option.map_eq_some_iff.mp ha
      exact ⟨p, hp, e⟩
    have hbeg : N.begin.getD a 0 = p.2 := getD_of (by unfold Net.begin; rw [List.getElem?_map, hp]; rfl)
    have r0 := nf.rp
    obtain ⟨qn, vp, b, us, rfl, hqn, rpl, hb, pus⟩ := nf
    have fl : N.firings.length ≤ 60 := g.W.flen
    have pl := g.W.len
    refine ws_asg (R := RD (pairD p)) (ed_ixT (i := (a : Nat)) (ed_ixT (i := 0) (d := placesD N) (ee_var (i := 0) rfl r0) ed_int atI_zero) (ee_var (i := 1) rfl (.int _)) (L2.atI_nat (by rw [List.getElem?_map, hp]; rfl))) ex fun v G1 H1 s1 r => ?_
    obtain ⟨qp, rfl, hqp⟩ := pairD_eq r
    refine wg (eg_tup2 rfl hqp (eg_name (i := 3) sc_L_lidded.nd) (eg_name (i := 4) sc_L_lidded.nd)) s1.i fun H2 s2 => ?_
    have s02 := s1.trans s2
    refine ws_setN (i := 5) sc_L_lidded.nd en_lst0 s02.i fun t o G3 H3 s3 ht w3 ho => ?_
    subst ho
    have s03 := s02.trans s3
    have ht0 := s02.fresh ht
    have hb3 := s03.g _ _ hb
    have pus3 := firs_mono s03.g pus
    refine ws_forS (S := []) (Y := YV us) (ei_tupV (q := b) (ee_ixT (p := qn) (xs := [vp, .ref b]) (i := 1) (ee_var (i := 0) rfl rfl) (s03.g _ _ hqn) ed_int rfl rfl) hb3) PassesOwn.never rfl s03
      (fun i σ' G' H' => ∃ o6 o7 o8 o9 o10 o11, ∃ ws : List V, σ' = [some (.ref qn), some (.int a), some (.int lid), some (.str p.1), some (.int p.2), some (.ref t), o6, o7, o8, o9, o10, o11] ∧ Own G' H' t (.lst ws) ∧ Paired (Rp G') ws (((N.firings.take i).map (lidF p.1)).map firD)) (fun G4 H4 s4 => ⟨_, _, _, _, _, _, [], rfl, w3.step0 s4, .nil⟩) ?_ ?_
    · rintro G1' eg i σ' G' H' G4 H4 xv hi e1 s4 ⟨o6, o7, o8, o9, o10, o11, ws, rfl, own, pws⟩ s5 y
      obtain ⟨f, hf, rf⟩ := Paired.getL pus3 (show us[i]? = some xv from y)
      have hfm := List.mem_of_getElem? hf
      have rf4 := rf.mono (eg.trans e1)
      obtain ⟨qf, v8, v9, rfl, hqf, r8, r9⟩ := rf4
      refine wg (eg_tup4 rfl hqf (eg_name (i := 6) sc_L_lidded.nd) (eg_name (i := 7) sc_L_lidded.nd) (eg_name (i := 8) sc_L_lidded.nd) (eg_name (i := 9) sc_L_lidded.nd)) s4.i fun H5 s6 => ?_
      have s05 := s4.trans s6
      have own5 := (own.step0 s5).step0 s6
      have pws5 := Rp.monoAll s5.g _ _ pws
      have hil : i < N.firings.length := (List.getElem?_eq_some_iff.mp hf).1
      refine ws_set (i := 10) (R := RD (.int (moreF p.1 f))) sc_L_lidded.nd (ed_sub (ed_cntOf hr rfl (g.gv f hfm).nd (ee_var (i := 9) rfl r9) (ee_var (i := 3) rfl (.str _)) ed_int E.b_dict ⟨rfl, rfl, rfl, rfl⟩) (ed_cntOf hr rfl (g.tk f hfm).nd (ee_var (i := 8) rfl r8) (ee_var (i := 3) rfl (.str _)) ed_int E.b_dict ⟨rfl, rfl, rfl, rfl⟩)) s05.i fun v10 G6 H6 s7 r10 => ?_
      rw [Rp.int_eq r10]
      generalize hm : moreF p.1 f = m
      have s06 := s05.trans s7
      have own6 := own5.step0 s7
      refine ws_set (i := 11) (R := RD (.tuple [partsD (if 0 < m then [(lidS, m)] else []), partsD (if m < 0 then [(lidS, 0 - m)] else [])])) sc_L_lidded.nd (ed_ixL (i := (if decide (0 < m) then 1 else 0) + 2 * (if decide (m < 0) then 1 else 0)) (ds := [.tuple [.tuple [], .tuple []], .tuple [.tuple [pairD (lidS, m)], .tuple []], .tuple [.tuple [], .tuple [pairD (lidS, 0 - m)]]])
        (ed_lst (hl := by simp) (ad_cons (ed_tup (hl := by simp) (ad_cons (ed_tup ad_nil (hl := by simp)) (ad_cons (ed_tup ad_nil (hl := by simp)) ad_nil))) (ad_cons (ed_tup (hl := by simp) (ad_cons (ed_tup (hl := by simp) (ad_cons (ed_tup (hl := by simp) (ad_cons ed_str (ad_cons (ee_var (i := 10) rfl (.int _)) ad_nil))) ad_nil)) (ad_cons (ed_tup ad_nil (hl := by simp)) ad_nil)))
          (ad_cons (ed_tup (hl := by simp) (ad_cons (ed_tup ad_nil (hl := by simp)) (ad_cons (ed_tup (hl := by simp) (ad_cons (ed_tup (hl := by simp) (ad_cons ed_str (ad_cons (ed_sub ed_int (ee_var (i := 10) rfl (.int _))) ad_nil))) ad_nil)) ad_nil))) ad_nil))))
        (ed_add (ed_intB (ed_gt (ee_var (i := 10) rfl (.int _)) ed_int) E.b_int) (ed_mul ed_int (ed_intB (ed_lt (ee_var (i := 10) rfl (.int _)) ed_int) E.b_int) (.inl (by decide)))) ?_) s06.i fun v11 G7 H7 s8 r11 => ?_
      · by_cases h1 : 0 < m
        · have h2 : ¬ m < 0 := by omega
          simp only [h1, h2, decide_true, decide_false, if_true, if_false]
          rfl
        · by_cases h2 : m < 0
          · simp only [h1, h2, decide_true, decide_false, if_true, if_false]
            rfl
          · simp only [h1, h2, decide_true, decide_false, if_true, if_false]
            rfl
      have s07 := s06.trans s8
      have own7 := own6.step0 s8
      have e47 : Ex G4 G7 := s7.g.trans s8.g
      have wl : ws.length ≤ 60 := by rw [Paired.length pws, List.length_map, List.length_map, List.length_take]; omega
      have tl : f.takes.length ≤ 40 := by have := (g.W.tk f hfm).len; rw [names_len] at this; omega
      have gl : f.gives.length ≤ 40 := by have := (g.W.gv f hfm).len; rw [names_len] at this; omega
      have ll : ∀ (c : Prop) [Decidable c] (z : Str × Int), ((if c then [z] else [] : List (Str × Int)).map pairD).length ≤ 1 := fun c _ z => by split <;> simp
      have rt7 : Rp G7 v8 (partsD f.takes) := (MonoR.mono _ _ _ e47 r8 : RF _ v8 G7).rp (plD_pairs _)
      have rg7 : Rp G7 v9 (partsD f.gives) := (MonoR.mono _ _ _ e47 r9 : RF _ v9 G7).rp (plD_pairs _)
      refine ws_append (cm := .Name "x" ⟨0, 0, 0, 0⟩) (R := RD (firD (lidF p.1 f))) (ee_var (i := 5) rfl rfl) own7 (by omega) (ed_tup (hl := by simp) (ad_cons (ee_var (i := 6) rfl (.str _)) (ad_cons (ee_var (i := 7) rfl (.str _)) (ad_cons (ee_is (ed_addT (ee_var (i := 8) rfl rt7) (ed_ixT (i := 0) (ee_var (i := 11) rfl r11) ed_int atI_zero) (by
          have := ll (0 < m) (lidS, m)
          have h2 : (f.takes.map pairD).length = f.takes.length := List.length_map ..
          omega)) (by rw [← List.map_append, ← hm]; rfl)) (ad_cons (ee_is (ed_addT (ee_var (i := 9) rfl rg7) (ed_ixT (i := 1) (ee_var (i := 11) rfl r11) ed_int rfl) (by
          have := ll (m < 0) (lidS, 0 - m)
          have h2 : (f.gives.map pairD).length = f.gives.length := List.length_map ..
          omega)) (by rw [← List.map_append, ← hm]; rfl)) ad_nil))))) s07.i fun v12 G8 H8 s9 r12 w8 => ?_
      have s08 := (s07.trans s9).mut (o := .lst (ws ++ [v12])) w8.g (.inl ht0)
      refine ws_nil ⟨G8, e1.trans (e47.trans s9.g), s08, _, _, _, _, _, _, ws ++ [v12], rfl, w8.upd, ?_⟩
      rw [List.take_succ, hf, List.map_append, List.map_append]
      exact Paired.app (Rp.monoAll (e47.trans s9.g) _ _ pws5) (.cons r12 .nil)
    · rintro σ' G4 H4 e4 s4 ⟨o6, o7, o8, o9, o10, o11, ws, rfl, own, pws⟩
      have hul : us.length = N.firings.length := Paired.length pus
      rw [hul, List.take_length] at pws
      have s5 := s4.frz own.h ht0
      have e5 : Ex G (upd G4 t (.lst ws)) := (s03.g.trans e4).trans own.exG
      refine ws_ret (R := RD (netD (lidN N a p.1 lid))) (ed_tup (hl := by simp) (ad_cons (ee_is (ed_addT (ed_ixT (i := 0) (d := placesD N) (ee_var (i := 0) rfl (Rp.mono e5 _ _ r0)) ed_int atI_zero) (ed_tup (ds := [pairD (lidS, lid - p.2)]) (hl := by simp) (ad_cons (ed_tup (hl := by simp) (ad_cons ed_str (ad_cons (ed_sub (ee_var (i := 2) rfl (.int _)) (ee_var (i := 4) rfl (.int _))) ad_nil))) ad_nil)) (by rw [List.length_map]; simp; omega)) (by
          unfold lidN
          rw [hbeg]
          show PyData.tuple (N.places.map pairD ++ [pairD (lidS, lid - p.2)]) = .tuple ((N.places ++ [(lidS, lid - p.2)]).map pairD)
          rw [List.map_append]
          rfl)) (ad_cons (ed_tupL (ee_var (i := 5) (R := RD (.list ((N.firings.map (lidF p.1)).map firD))) rfl (.lst upd_same (Rp.monoAll own.exG _ _ pws))) E.b_tuple) ad_nil))) s5.i fun v G6 H6 s6 r6 => k v G6 H6 (s5.trans s6) r6
end TK

/-! part F37 -/
set_option Elab.async false
set_option linter.all false
set_option maxRecDepth 100000
set_option maxHeartbeats 4000000
namespace TK
open PySem PySem.Spec PyProof.Rows L2 PG
variable {P : Program} {w : World} {K : PySem.W.Frag} {mg : Str → Option Value} {base : Heap}
theorem firs_eq {N : Net} {h : Hp'} : ∀ (l : List Fir) (acc : List Hp'), (l.map fun f => (f.name, fire N h f)).foldl (fun acc s => addH acc s.2) acc = l.foldl (fun acc f => addH acc (fire N h f)) acc
  | [], _ => rfl
  | f :: l, acc => firs_eq l _
def addB (a : Nat) (lid : Int) (acc : List Hp') (z : Hp') : List Hp' := if z.getD a 0 ≤ lid then addH acc z else acc
theorem firsB_eq {N : Net} {h : Hp'} {a : Nat} {lid : Int} : ∀ (l : List Fir) (acc : List Hp'), ((l.map fun f => (f.name, fire N h f)).filter fun s => decide (s.2.getD a 0 ≤ lid)).foldl (fun acc s => addH acc s.2) acc = l.foldl (fun acc f => addB a lid acc (fire N h f)) acc
  | [], _ => rfl
  | f :: l, acc => by
    rw [List.map_cons, List.filter_cons, List.foldl_cons]
    by_cases e : (fire N h f).getD a 0 ≤ lid
    · rw [if_pos (decide_eq_true e), List.foldl_cons, firsB_eq l, addB, if_pos e]
    · rw [if_neg (by simpa using e), firsB_eq l, addB, if_neg e]
theorem addH_len {acc : List Hp'} {z : Hp'} : (addH acc z).length ≤ acc.length + 1 := by
  unfold addH
  split
  · omega
  · simp
theorem fold_len {g : List Hp' → Fir → List Hp'} (hg : ∀ acc f, (g acc f).length ≤ acc.length + 1) : ∀ (l : List Fir) (acc : List Hp'), (l.foldl g acc).length ≤ acc.length + l.length
  | [], acc => Nat.le_refl _
  | f :: l, acc => by
    have h1 := fold_len hg l (g acc f)
    have h2 := hg acc f
    rw [List.foldl_cons, List.length_cons]
    omega
theorem heaps_get {f : Fnd} {n : Nat} {h : Hp'} (e : (heapsOf f)[n]? = some h) : ∃ p, f[n]? = some p ∧ p.1 = h := by
  unfold heapsOf at e
  rw [List.getElem?_map] at e
  obtain ⟨p, hp, e⟩ := Option.map_eq_some_iff.mp e
  exact ⟨p, hp, e⟩
theorem st_next {succ : Succ} {b : Hp'} {n : Nat} {h : Hp'} (e : (heapsOf (st succ b n))[n]? = some h) : heapsOf (st succ b (n + 1)) = (succ h).foldl (fun acc s => addH acc s.2) (heapsOf (st succ b n)) := by
  obtain ⟨p, hp, rfl⟩ := heaps_get e
  show heapsOf (stepS succ (st succ b n) n) = _
  unfold stepS
  rw [hp]
  exact heapsOf_fold _ _
theorem stB_next {N : Net} {a : Nat} {lid : Int} {n : Nat} {h : Hp'} (e : (heapsOf (stB N a lid n))[n]? = some h) : heapsOf (stB N a lid (n + 1)) = (N.firings.filter (canF N h)).foldl (fun acc f => addB a lid acc (fire N h f)) (heapsOf (stB N a lid n)) := by
  have := st_next e
  rw [show succB N a lid h = ((N.firings.filter (canF N h)).map fun f => (f.name, fire N h f)).filter fun s => decide (s.2.getD a 0 ≤ lid) from rfl, firsB_eq] at this
  exact this
theorem stN_next {N : Net} {n : Nat} {h : Hp'} (e : (heapsOf (stN N n))[n]? = some h) : heapsOf (stN N (n + 1)) = (N.firings.filter (canF N h)).foldl (fun acc f => addH acc (fire N h f)) (heapsOf (stN N n)) := by
  have := st_next e
  rw [show succN N h = (N.firings.filter (canF N h)).map fun f => (f.name, fire N h f) from rfl, firs_eq] at this
  exact this
/-- what was found beneath the lid: all of it, or more than forty -/
def DueR (N : Net) (a : Nat) (lid : Int) : V → Hp → Prop := fun v G => ∃ n, Rp G v (hsD (heapsOf (stB N a lid n))) ∧ (40 < (stB N a lid n).length ∨ (stB N a lid n).length = n ∧ n ≤ 40) ∧ (stB N a lid n).length ≤ 200
instance (N : Net) (a : Nat) (lid : Int) : MonoR (DueR N a lid) := ⟨fun _ _ _ e ⟨n, h1, h2⟩ => ⟨n, Rp.mono e _ _ h1, h2⟩⟩
theorem ok_beneath {N : Net} {a : Nat} {lid : Int} (E : Env K mg) (W : Wf N) (ha : a < N.names.length) (l0 : N.begin.getD a 0 ≤ lid) :
    C8.Cal P w K mg base 4 "_law_beneath" (Pr (ACons (RD (netD N)) (ACons (RD (.int a)) (ACons (RD (.int lid)) (ACons (RD (.int 40)) ANil)))) (DueR N a lid)) [] :=
  cl_L_beneath E fun cdv A outer s H vs Q E' hr G ex as k => by
    obtain ⟨v0, v1, v2, v3, rfl, r0, r1, r2, r3⟩ := ACons.four' as
    obtain rfl := Rp.int_eq r1
    obtain rfl := Rp.int_eq r2
    obtain rfl := Rp.int_eq r3
    refine ws_setN (i := 4) sc_L_beneath.nd (en_lst (A := ACons (RD (tI N.begin)) ANil) (ea1 (ee_cal (ok_start E W) hr (ea1 (ee_var (i := 0) rfl r0)))) (by decide)) ex fun t o G1 H1 s1 ht w1 ⟨us, eo, rb⟩ => ?_
    subst eo
    obtain ⟨ub, rfl, rub⟩ := ACons.one rb
    refine ws_set (i := 5) (R := RD (.int (0 : Nat))) sc_L_beneath.nd ed_int s1.i fun v5 G2 H2 s2 r5 => ?_
    rw [Rp.int_eq r5]
    have s02 := s1.trans s2
    have eG2 : Ex G G2 := s02.g
    refine ws_whileS (S := []) PassesOwn.never s02 (fun m σ' G' H' => ∃ n o6 o7 o8, ∃ ws : List V, σ' = [some v0, some (.int a), some (.int lid), some (.int 40), some (.ref t), some (.int (n : Nat)), o6, o7, o8] ∧ Own G' H' t (.lst ws) ∧ Paired (Rp G') ws ((heapsOf (stB N a lid n)).map tI) ∧ n ≤ 40 ∧ n ≤ (stB N a lid n).length ∧ (stB N a lid n).length ≤ 200 ∧ m = 41 - n) 41
      ⟨0, none, none, none, [ub], rfl, w1.step0 s2, .cons (Rp.mono s2.g _ _ rub) .nil, by omega, by omega, by show 1 ≤ 200; omega, rfl⟩ ?_
    rintro m σ' G3 H3 e3 s3 ⟨n, o6, o7, o8, ws, rfl, own, pws, n40, nl, l200, rfl⟩
    have wl : ws.length = (stB N a lid n).length := by rw [Paired.length pws, List.length_map, heapsOf_length]
    have hU : (upd G3 t (.lst ws)) t = some (.lst ws) := upd_same
    refine ⟨decide ((n : Int) < (ws.length : Nat)) && decide (((ws.length : Nat) : Int) ≤ 40), upd G3 t (.lst ws), own.exU s3.i, et_ch (f := fun i j => decide (i < j)) (g := fun i j => decide (i ≤ j)) op_lt op_le (ee_var (i := 5) rfl (.int _)) (ed_lenV (ee_var (i := 4) rfl rfl) hU E.b_len) (ee_var (i := 3) rfl (.int _)), fun H4 s4 => ?_⟩
    have s4' := Stp.weak own.exG s4
    have s04 := s3.trans s4'
    have own4 := own.step0 s4'
    by_cases hc : (n : Int) < (ws.length : Nat) ∧ ((ws.length : Nat) : Int) ≤ 40
    · rw [decide_eq_true hc.1, decide_eq_true hc.2]
      refine iteT ?_
      have hnl : n < (stB N a lid n).length := by omega
      have hle : (stB N a lid n).length ≤ 40 := by omega
      obtain ⟨h, hh⟩ : ∃ h, (heapsOf (stB N a lid n))[n]? = some h := ⟨_, List.getElem?_eq_getElem (by rw [heapsOf_length]; exact hnl)⟩
      have hip := (stB_hip W l0 n h (List.mem_of_getElem? hh)).1
      refine ws_set (i := 6) (G := upd G3 t (.lst ws)) (R := RD (tI h)) sc_L_beneath.nd (ed_ixL (i := (n : Nat)) (ee_var (i := 4) (R := RD (hsD (heapsOf (stB N a lid n)))) rfl (.lst hU (Rp.monoAll own4.exG _ _ pws))) (ee_var (i := 5) rfl (.int _)) (L2.atI_nat (by rw [List.getElem?_map, hh]; rfl))) (own4.exU s04.i) fun v6 G5 H5 s5 r6 => ?_
      have s5' := Stp.del own4 s5
      have ht5 : G5 t = some (.lst ws) := s5.g _ _ hU
      have r6' := rpI_dele ht5 ⟨(by intro _ h; cases h), (by intro _ _ h; cases h)⟩ r6
      have own5 := own4.step0 s5'
      have s05 := s04.trans s5'
      generalize hG6 : dele G5 t = G6 at s5' r6' own5 s05
      have e36 : Ex G3 G6 := s5'.g
      have pws6 := Rp.monoAll e36 _ _ pws
      have eG6 : Ex G G6 := eG2.trans (e3.trans e36)
      have cfl : (N.firings.filter (canF N h)).length ≤ 60 := Nat.le_trans (List.length_filter_le ..) W.flen
      refine ws_forS (S := []) (Y := YD ((N.firings.filter (canF N h)).map firD)) (ei_list (ee_cal (ok_lcan E W hip) hr (ea_cons (ee_var (i := 0) rfl (Rp.mono eG6 _ _ r0)) (ea1 (ee_var (i := 6) rfl r6'))))) PassesOwn.never rfl s05
        (fun j σ' G' H' => ∃ o7 o8, ∃ ws : List V, σ' = [some v0, some (.int a), some (.int lid), some (.int 40), some (.ref t), some (.int (n : Nat)), some v6, o7, o8] ∧ Own G' H' t (.lst ws) ∧ Paired (Rp G') ws ((((N.firings.filter (canF N h)).take j).foldl (fun acc f => addB a lid acc (fire N h f)) (heapsOf (stB N a lid n))).map tI)) (fun G7 H7 s7 => ⟨_, _, ws, rfl, own5.step0 s7, Rp.monoAll s7.g _ _ pws6⟩) ?_ ?_
      · rintro G1' eg j σ7 G7 H7 G8 H8 x hj e7 s8 ⟨o7, o8, ws7, rfl, own7, pws7⟩ s9 ⟨d, hd, rd⟩
        rw [List.getElem?_map] at hd
        obtain ⟨f, hf, rfl⟩ := Option.map_eq_some_iff.mp hd
        have hfm : f ∈ N.firings := (List.mem_filter.mp (List.mem_of_getElem? hf)).1
        generalize hacc : ((N.firings.filter (canF N h)).take j).foldl (fun acc f => addB a lid acc (fire N h f)) (heapsOf (stB N a lid n)) = acc at pws7
        have accl : acc.length ≤ 100 := by
          have h1 := fold_len (g := fun acc f => addB a lid acc (fire N h f)) (fun acc f => by unfold addB; split <;> first | exact addH_len | omega) ((N.firings.filter (canF N h)).take j) (heapsOf (stB N a lid n))
          rw [hacc, heapsOf_length] at h1
          have h2 : ((N.firings.filter (canF N h)).take j).length ≤ (N.firings.filter (canF N h)).length := by rw [List.length_take]; exact Nat.min_le_right ..
          omega
        have wl7 : ws7.length = acc.length := by rw [Paired.length pws7, List.length_map]
        refine wg (eg_name (i := 7) sc_L_beneath.nd) s8.i fun H9 s10 => ?_
        have own9 := (own7.step0 s9).step0 s10
        have s09 := s8.trans s10
        have e68 : Ex G6 G8 := eg.trans e7
        have pws9 := Rp.monoAll s9.g _ _ pws7
        refine ws_set (i := 8) (R := RD (tI (fire N h f))) sc_L_beneath.nd (ee_cal (ok_change (to := 1) E W hfm hip.len (by decide) (by decide)) hr (ea_cons (ee_var (i := 0) rfl (Rp.mono (eG6.trans e68) _ _ r0)) (ea_cons (ee_var (i := 6) rfl (Rp.mono e68 _ _ r6')) (ea_cons (ee_var (i := 7) rfl rd) (ea1 ed_int))))) s09.i fun v8 G10 H10 s11 r8 => ?_
        have s010 := s09.trans s11
        have own10 := own9.step0 s11
        have pws10 := Rp.monoAll s11.g _ _ pws9
        have hal : a < (fire N h f).length := by rw [fire_length hip.len]; exact ha
        have hy := List.getElem?_eq_getElem hal
        have nxt : ((N.firings.filter (canF N h)).take (j + 1)).foldl (fun acc f => addB a lid acc (fire N h f)) (heapsOf (stB N a lid n)) = addB a lid acc (fire N h f) := by rw [fold_take _ _ hf, hacc]
        refine ws_if (G := upd G10 t (.lst ws7)) (t := decide ((fire N h f).getD a 0 ≤ lid) && !decide (fire N h f ∈ acc)) (et_and (et_le (ed_ixT (i := (a : Nat)) (d := .int ((fire N h f).getD a 0)) (ee_var (i := 8) rfl (Rp.mono own10.exG _ _ r8)) (ee_var (i := 1) rfl (.int _)) (L2.atI_nat (by rw [List.getElem?_map, hy, getD_of hy]; rfl))) (ee_var (i := 2) rfl (.int _))) fun _ =>
          et_is (et_notInD hr (ee_var (i := 8) rfl (Rp.mono own10.exG _ _ r8)) (ee_var (i := 4) (v := .ref t) (R := RD (hsD acc)) rfl (.lst upd_same (Rp.monoAll own10.exG _ _ pws10))) (shp_tI _).of (shp_hs _).of) (by rw [any_tI])) (own10.exU s010.i) fun H11 s12 => ?_
        have s12' := Stp.weak own10.exG s12
        have s011 := s010.trans s12'
        have own11 := own10.step0 s12'
        by_cases hle2 : (fire N h f).getD a 0 ≤ lid
        · by_cases hin : fire N h f ∈ acc
          · rw [decide_eq_true hle2, decide_eq_true hin]
            refine iteF (ws_nil (ws_nil ⟨G10, e7.trans s11.g, s011, _, _, ws7, rfl, own11, ?_⟩))
            rw [nxt, addB, if_pos hle2, addH, if_pos hin]
            exact pws10
          · rw [decide_eq_true hle2, decide_eq_false hin]
            refine iteT ?_
            refine ws_append (cm := .Name "x" ⟨0, 0, 0, 0⟩) (R := RD (tI (fire N h f))) (ee_var (i := 4) rfl rfl) own11 (by omega) (ee_var (i := 8) rfl r8) s011.i fun v12 G12 H12 s13 r12 w12 => ?_
            have s012 := (s011.trans s13).mut (o := .lst (ws7 ++ [v12])) w12.g (.inl ht)
            refine ws_nil (ws_nil ⟨G12, e7.trans (s11.g.trans s13.g), s012, _, _, ws7 ++ [v12], rfl, w12.upd, ?_⟩)
            rw [nxt, addB, if_pos hle2, addH, if_neg hin, List.map_append]
            exact Paired.app (Rp.monoAll s13.g _ _ pws10) (.cons r12 .nil)
        · rw [decide_eq_false hle2]
          refine iteF (ws_nil (ws_nil ⟨G10, e7.trans s11.g, s011, _, _, ws7, rfl, own11, ?_⟩))
          rw [nxt, addB, if_neg hle2]
          exact pws10
      · rintro σ7 G7 H7 e7 s7 ⟨o7, o8, ws7, rfl, own7, pws7⟩
        rw [List.length_map, List.take_length, ← stB_next hh] at pws7
        have hl : (stB N a lid (n + 1)).length ≤ 200 := by
          have h1 := fold_len (g := fun acc f => addB a lid acc (fire N h f)) (fun acc f => by unfold addB; split <;> first | exact addH_len | omega) (N.firings.filter (canF N h)) (heapsOf (stB N a lid n))
          rw [← stB_next hh, heapsOf_length, heapsOf_length] at h1
          omega
        refine ws_set (i := 5) (R := RD (.int ((n + 1 : Nat) : Int))) sc_L_beneath.nd (ee_is (d := .int ((n : Int) + 1)) (ed_add (ee_var (i := 5) rfl (.int _)) ed_int) rfl) s7.i fun v9 G9 H9 s9 r9 => ?_
        rw [Rp.int_eq r9]
        have nl2 : n + 1 ≤ (stB N a lid (n + 1)).length := by
          have := (st_pre (succ := succB N a lid) (b := N.begin) (Nat.le_succ n)).length_le
          exact Nat.le_trans (show n + 1 ≤ (st (succB N a lid) N.begin n).length from hnl) this
        exact ws_nil ⟨41 - (n + 1), G9, by omega, e3.trans (e36.trans (e7.trans s9.g)), s7.trans s9, n + 1, _, _, _, ws7, rfl, own7.step0 s9, Rp.monoAll s9.g _ _ pws7, by omega, nl2, hl, rfl⟩
    · have hF : (decide ((n : Int) < (ws.length : Nat)) && decide (((ws.length : Nat) : Int) ≤ 40)) = false := by
        rw [Bool.and_eq_false_iff, decide_eq_false_iff_not, decide_eq_false_iff_not]
        omega
      rw [hF]
      refine iteF ?_
      have s5 := s04.frz own4.h ht
      refine ws_ret (R := DueR N a lid) (EE.imp (ee_var (i := 4) (v := .ref t) (R := RD (hsD (heapsOf (stB N a lid n)))) rfl (.lst upd_same (Rp.monoAll own4.exG _ _ pws))) fun v G' _ r => ⟨n, r, ?_, l200⟩) s5.i fun v G6 H6 s6 r6 => k v G6 H6 (s5.trans s6) r6
      omega
end TK

/-! part F38 -/
set_option Elab.async false
set_option linter.all false
set_option maxRecDepth 100000
set_option maxHeartbeats 4000000
namespace PG
open PySem PySem.Spec PyProof.Rows L2
section
variable {X : Cx} {σ σ' : L2.St} {G G0 G1 H H0 H1 : Hp} {tg iter : Expr} {pos : Pos} {D : Ends} {rest body : List Stmt} {S : List Addr}
/-- for, what it walks told by the heap as it stands -/
theorem ws_forH {n : Nat} {Y : Nat → V → Hp → Prop} (hi : ∀ R : It → Hp → Prop, (∀ J G' H', Stp [] G H G' H' → IsIt J n Y G' → R J H') → WI X tg iter σ H R) (hp : PassesOwn (model X.prog X.w) X.A X.env X.xe) (hc : X.calm = true) (s0 : Stp S G0 H0 G H) (Iv : Nat → L2.St → Hp → Hp → Prop)
    (h0 : ∀ G1 H1, Stp [] G H G1 H1 → Iv 0 σ G1 H1)
    (step : ∀ G1, Ex G G1 → ∀ i σ' G' H' G2 H2 x, i < n → Ex G1 G2 → Stp S G0 H0 G2 H2 → Iv i σ' G' H' → Stp [] G' H' G2 H2 → Y i x G2 →
        WG X tg x σ' H2 fun σ2 H3 => WS X body { D with nx := LI S G0 H0 G1 Iv (i + 1), ct := LI S G0 H0 G1 Iv (i + 1), bk := WS X rest D } σ2 H3)
    (fin : ∀ σ' G' H', Ex G G' → Stp S G0 H0 G' H' → Iv n σ' G' H' → WS X rest D σ' H')
    (hs : ∀ x, foldedSetIterable iter X.env x = pure x := by intro _; rfl) : WS X (.For tg iter body [] pos :: rest) D σ H := by
  refine ws_cons ⟨_, ps_for hp hc (pi_self tg iter) (pg_self tg) (pss_self body) hs, hi _ fun J G1 H1 s1 it => ?_⟩
  refine ⟨fun i m σ H => m = n - i ∧ i ≤ n ∧ LI S G0 H0 G1 Iv i σ H, ⟨n, rfl, Nat.zero_le _, G1, Ex.refl _, s0.trans s1.any, h0 _ _ s1⟩, ?_⟩
  rintro i m σ' H' ⟨rfl, hin, G', e1, e2, iv⟩
  by_cases hlt : i < n
  · refine .inr ⟨it.go i H' (e1.trans e2.i) hlt, LI S G0 H0 G1 Iv (i + 1), fun σ2 H2 q => ⟨n - (i + 1), by omega, rfl, hlt, q⟩, fun x H2 y => ?_⟩
    obtain ⟨G2, s2, q⟩ := it.yld i G' H' x H2 e1 e2.i hlt y
    exact step G1 s1.g i σ' G' H' G2 H2 x hlt (e1.trans s2.g) (e2.trans s2.any) iv s2 q
  · have hn : i = n := by omega
    subst hn
    exact .inl ⟨it.stop H' (e1.trans e2.i), fin σ' G' H' (s1.g.trans e1) e2 iv⟩
/-- if, what comes behind told once -/
theorem ws_ifJ {J : L2.St → Hp → Prop} {c : Expr} {A B : List Stmt} {t : Bool} (hc : ET X c σ G t) (ex : Ex G H) (hj : ∀ σ H, J σ H → WS X rest D σ H)
    (k : (∀ σ H, J σ H → WS X rest D σ H) → ∀ H', Stp [] G H G H' → if t = true then WS X A { D with nx := WS X rest D } σ H' else WS X B { D with nx := WS X rest D } σ H') : WS X (.If c A B pos :: rest) D σ H := ws_if hc ex (k hj)
end
end PG
namespace TK
open PySem PySem.Spec PyProof.Rows L2 PG
variable {P : Program} {w : World} {K : PySem.W.Frag} {mg : Str → Option Value} {base : Heap}
/-- none, or all heaps and how they follow -/
def TabR (N : Net) : V → Hp → Prop := fun v G => v = .non ∨ ∃ q u1 u2 n, v = .ref q ∧ G q = some (.lst [u1, u2]) ∧ Rp G u1 (hsD (heapsOf (stN N n))) ∧ (stN N n).length = n ∧ n ≤ 40
instance (N : Net) : MonoR (TabR N) := ⟨fun _ _ _ e h => by
  rcases h with h | ⟨q, u1, u2, n, h1, h2, h3, h4⟩
  · exact .inl h
  · exact .inr ⟨q, u1, u2, n, h1, e _ _ h2, Rp.mono e _ _ h3, h4⟩⟩
theorem idx_hs {acc : List Hp'} {z : Hp'} (h : z ∈ acc) : (acc.map tI)[acc.idxOf z]? = some (tI z) ∧ PyData.eqv (tI z) (tI z) = true ∧ ∀ (m : Nat) (z' : PyData), m < acc.idxOf z → (acc.map tI)[m]? = some z' → PyData.eqv z' (tI z) = false := by
  have hi : acc.idxOf z < acc.length := List.idxOf_lt_length_iff.mpr h
  refine ⟨by rw [List.getElem?_map, List.getElem?_eq_getElem hi, List.getElem_idxOf]; rfl, by rw [eqv_tI]; simp, fun m z' hm hz => ?_⟩
  rw [List.getElem?_map] at hz
  obtain ⟨y, hy, rfl⟩ := Option.map_eq_some_iff.mp hz
  rw [eqv_tI]
  refine decide_eq_false fun e => ?_
  subst e
  have := List.not_of_lt_findIdx (p := fun x => x == y) (xs := acc) (i := m) hm
  obtain ⟨hl, e⟩ := List.getElem?_eq_some_iff.mp hy
  simp [e] at this
theorem foldA_pre {g : Fir → Hp'} : ∀ (l : List Fir) (hs : List Hp'), hs <+: l.foldl (fun acc f => addH acc (g f)) hs
  | [], hs => List.prefix_refl _
  | f :: l, hs => List.IsPrefix.trans (by
      show hs <+: addH hs (g f)
      unfold addH
      split
      · exact List.prefix_refl _
      · exact List.prefix_append _ _) (foldA_pre l _)
theorem mem_addH {hs : List Hp'} {z : Hp'} : z ∈ addH hs z := by
  unfold addH
  split
  · assumption
  · simp
theorem noTF {xs : List V} : (∀ ys, HO.lst xs ≠ .tup ys) ∧ ∀ ob u, HO.lst xs ≠ .frz ob u := ⟨(by intro _ h; cases h), (by intro _ _ h; cases h)⟩
theorem ok_heaps {N : Net} (E : Env K mg) (W : Wf N) : C8.Cal P w K mg base 4 "_law_heaps" (Pr (ACons (RD (netD N)) (ACons (RD (.int 40)) ANil)) (TabR N)) [] :=
  cl_L_heaps E fun cdv A outer s H vs Q E' hr G ex as k => by
    obtain ⟨v0, v1, rfl, r0, r1⟩ := ACons.two as
    obtain rfl := Rp.int_eq r1
    refine ws_setN (i := 2) sc_L_heaps.nd (en_lst (A := ACons (RD (tI N.begin)) ANil) (ea1 (ee_cal (ok_start E W) hr (ea1 (ee_var (i := 0) rfl r0)))) (by decide)) ex fun t o G1 H1 s1 ht w1 ⟨us, eo, rb⟩ => ?_
    subst eo
    obtain ⟨ub, rfl, rub⟩ := ACons.one rb
    refine ws_setN (i := 3) sc_L_heaps.nd en_lst0 s1.i fun u o G2 H2 s2 hu wu ho => ?_
    subst ho
    have s02 := s1.trans s2
    have hu0 := s1.fresh hu
    have eG2 : Ex G G2 := s02.g
    have htu : t ≠ u := w1.ne2 hu
    refine ws_whileS (S := []) PassesOwn.never s02 (fun m σ' G' H' => ∃ n o4 o5 o6, ∃ ws ss : List V, σ' = [some v0, some (.int 40), some (.ref t), some (.ref u), o4, o5, o6] ∧ Own G' H' t (.lst ws) ∧ Own G' H' u (.lst ss) ∧ Paired (Rp G') ws ((heapsOf (stN N n)).map tI) ∧ ss.length = n ∧ n ≤ 40 ∧ n ≤ (stN N n).length ∧ (stN N n).length ≤ 200 ∧ m = 41 - n) 41
      ⟨0, none, none, none, [ub], [], rfl, w1.step0 s2, wu, .cons (Rp.mono s2.g _ _ rub) .nil, rfl, by omega, by omega, by show 1 ≤ 200; omega, rfl⟩ ?_
    rintro m σ' G3 H3 e3 s3 ⟨n, o4, o5, o6, ws, ss, rfl, ot, ou, pws, sl, n40, nl, l200, rfl⟩
    have wl : ws.length = (stN N n).length := by rw [Paired.length pws, List.length_map, heapsOf_length]
    have ou' := ou.frz (o' := .lst ws) htu.symm
    have hUt : (upd (upd G3 t (.lst ws)) u (.lst ss)) t = some (.lst ws) := by rw [upd_ne htu]; exact upd_same
    have hUu : (upd (upd G3 t (.lst ws)) u (.lst ss)) u = some (.lst ss) := upd_same
    have eU : Ex G3 (upd (upd G3 t (.lst ws)) u (.lst ss)) := ot.exG.trans ou'.exG
    refine ⟨decide (((ss.length : Nat) : Int) < (ws.length : Nat)) && decide (((ws.length : Nat) : Int) ≤ 40), upd (upd G3 t (.lst ws)) u (.lst ss), ou'.exU (ot.exU s3.i), et_ch (f := fun i j => decide (i < j)) (g := fun i j => decide (i ≤ j)) op_lt op_le (ed_lenV (ee_var (i := 3) rfl rfl) hUu E.b_len) (ed_lenV (ee_var (i := 2) rfl rfl) hUt E.b_len) (ee_var (i := 1) rfl (.int _)), fun H4 s4 => ?_⟩
    have s4' := Stp.weak eU s4
    have s04 := s3.trans s4'
    have ot4 := ot.step0 s4'
    have ou4 := ou.step0 s4'
    by_cases hc : ((ss.length : Nat) : Int) < (ws.length : Nat) ∧ ((ws.length : Nat) : Int) ≤ 40
    · rw [decide_eq_true hc.1, decide_eq_true hc.2]
      refine iteT ?_
      have hnl : n < (stN N n).length := by omega
      have hle : (stN N n).length ≤ 40 := by omega
      obtain ⟨h, hh⟩ : ∃ h, (heapsOf (stN N n))[n]? = some h := ⟨_, List.getElem?_eq_getElem (by rw [heapsOf_length]; exact hnl)⟩
      have hip : Hip N h := st_all (P := Hip N) (begin_hip W) (fun h hh s hs => by
        obtain ⟨f, hf, rfl⟩ := List.mem_map.mp hs
        rw [List.mem_filter] at hf
        exact fire_hip W hh hf.1 hf.2) n h (List.mem_of_getElem? hh)
      refine ws_setN (i := 4) sc_L_heaps.nd en_lst0 s04.i fun r o G5 H5 s5 hr5 wr ho => ?_
      subst ho
      have s05 := s04.trans s5
      have hr0 : H r = none := s04.fresh hr5
      have ot5 := ot4.step0 s5
      have ou5 := ou4.step0 s5
      have hrt : t ≠ r := ot4.ne2 hr5
      have hru : u ≠ r := ou4.ne2 hr5
      have pws5 := Rp.monoAll s5.g _ _ pws
      have eG5 : Ex G G5 := eG2.trans (e3.trans s5.g)
      have cfl : (N.firings.filter (canF N h)).length ≤ 60 := Nat.le_trans (List.length_filter_le ..) W.flen
      have ou5' := ou5.frz (o' := .lst ws) htu.symm
      have hT5 : (upd (upd G5 t (.lst ws)) u (.lst ss)) t = some (.lst ws) := by rw [upd_ne htu]; exact upd_same
      have eU5 : Ex G5 (upd (upd G5 t (.lst ws)) u (.lst ss)) := ot5.exG.trans ou5'.exG
      have hxl : ((heapsOf (stN N n)).map tI)[ss.length]? = some (tI h) := by rw [sl, List.getElem?_map, hh]; rfl
      refine ws_forH (S := []) (n := ((N.firings.filter (canF N h)).map firD).length) (Y := YD ((N.firings.filter (canF N h)).map firD)) (fun R kk => ⟨_, pi_list (C8.pe_c (ok_lcan E W hip) hr (by decide) rfl (pa_self _) (by decide) rfl rfl),
        (ea_cons (R := RV v0) (ee_var (i := 0) rfl rfl) (ea1 (R := RD (tI h)) (ed_ixL (i := ((ss.length : Nat) : Int)) (ee_var (i := 2) (v := .ref t) (R := RD (hsD (heapsOf (stN N n)))) rfl (.lst hT5 (Rp.monoAll eU5 _ _ pws5))) (ed_lenV (ee_var (i := 3) rfl rfl) upd_same E.b_len) (L2.atI_nat hxl))) :
          EA _ _ _ (upd (upd G5 t (.lst ws)) u (.lst ss)) (ACons (RV v0) (ACons (RD (tI h)) ANil))) H5 _ (ou5'.exU (ot5.exU s05.i)) fun vs G6 H6 s6 a6 => ?_⟩) PassesOwn.never rfl s05
        (fun j σ' G' H' => ∃ o5 o6, ∃ ws rs : List V, σ' = [some v0, some (.int 40), some (.ref t), some (.ref u), some (.ref r), o5, o6] ∧ Own G' H' t (.lst ws) ∧ Own G' H' u (.lst ss) ∧ Own G' H' r (.lst rs) ∧ rs.length = j ∧ Paired (Rp G') ws ((((N.firings.filter (canF N h)).take j).foldl (fun acc f => addH acc (fire N h f)) (heapsOf (stN N n))).map tI)) (fun G7 H7 s7 => ⟨_, _, ws, [], rfl, ot5.step0 s7, ou5.step0 s7, wr.step0 s7, rfl, Rp.monoAll s7.g _ _ pws5⟩) ?_ ?_
      · obtain ⟨v0', v1', rfl, e0, r1'⟩ := ACons.two a6
        obtain rfl : v0' = v0 := e0
        have sA := Stp.del ot5 (Stp.del ou5' s6)
        have hu6 : G6 u = some (.lst ss) := s6.g _ _ upd_same
        have ht6 : (dele G6 u) t = some (.lst ws) := by rw [dele_ne htu]; exact s6.g _ _ hT5
        refine ⟨dele (dele G6 u) t, RD (.list ((N.firings.filter (canF N h)).map firD)), sA.i, ⟨⟨_, _, rfl, Rp.mono (eG5.trans sA.g) _ _ r0, _, _, rfl, rpI_dele ht6 noTF (rpI_dele hu6 noTF r1'), rfl⟩, rfl⟩, fun v G7 H7 s7 r7 => ?_⟩
        obtain ⟨q, xs, rfl, h1, h2⟩ := Rp.lst_eq r7
        refine ⟨q, rfl, ⟨xs, SqL.of (s7.i _ _ h1)⟩, kk _ G7 H7 (sA.trans s7) ?_⟩
        rw [← Paired.length h2]
        exact (isIt_list h1).imp (yd_of h2)
      · rintro G1' eg j σ7 G7 H7 G8 H8 x hj e7 s8 ⟨o5, o6, ws7, rs, rfl, ot7, ou7, or7, rl, pws7⟩ s9 ⟨d, hd, rd⟩
        rw [List.getElem?_map] at hd
        obtain ⟨f, hf, rfl⟩ := Option.map_eq_some_iff.mp hd
        have hfm : f ∈ N.firings := (List.mem_filter.mp (List.mem_of_getElem? hf)).1
        have hpre := foldA_pre (g := fire N h) ((N.firings.filter (canF N h)).take j) (heapsOf (stN N n))
        have nxt : ((N.firings.filter (canF N h)).take (j + 1)).foldl (fun acc f => addH acc (fire N h f)) (heapsOf (stN N n)) = addH (((N.firings.filter (canF N h)).take j).foldl (fun acc f => addH acc (fire N h f)) (heapsOf (stN N n))) (fire N h f) := by rw [fold_take _ _ hf]
        have accl : (((N.firings.filter (canF N h)).take j).foldl (fun acc f => addH acc (fire N h f)) (heapsOf (stN N n))).length ≤ 100 := by
          have h1 := fold_len (g := fun acc f => addH acc (fire N h f)) (fun acc f => addH_len) ((N.firings.filter (canF N h)).take j) (heapsOf (stN N n))
          rw [heapsOf_length] at h1
          have h2 : ((N.firings.filter (canF N h)).take j).length ≤ (N.firings.filter (canF N h)).length := by rw [List.length_take]; exact Nat.min_le_right ..
          omega
        generalize hacc : ((N.firings.filter (canF N h)).take j).foldl (fun acc f => addH acc (fire N h f)) (heapsOf (stN N n)) = acc at pws7 hpre accl nxt
        have wl7 : ws7.length = acc.length := by rw [Paired.length pws7, List.length_map]
        have hjl : j ≤ 60 := by rw [List.length_map] at hj; omega
        refine wg (eg_name (i := 5) sc_L_heaps.nd) s8.i fun H9 s10 => ?_
        have ot9 := (ot7.step0 s9).step0 s10
        have ou9 := (ou7.step0 s9).step0 s10
        have or9 := (or7.step0 s9).step0 s10
        have s09 := s8.trans s10
        have e58 : Ex G5 G8 := eg.trans e7
        have pws9 := Rp.monoAll s9.g _ _ pws7
        have ou9' := ou9.frz (o' := .lst ws7) htu.symm
        have hT9 : (upd (upd G8 t (.lst ws7)) u (.lst ss)) t = some (.lst ws7) := by rw [upd_ne htu]; exact upd_same
        have eU9 : Ex G8 (upd (upd G8 t (.lst ws7)) u (.lst ss)) := ot9.exG.trans ou9'.exG
        have hxl9 : (acc.map tI)[ss.length]? = some (tI h) := by rw [sl, List.getElem?_map, pre_get hpre hh]; rfl
        refine ws_set (i := 6) (G := upd (upd G8 t (.lst ws7)) u (.lst ss)) (R := RD (tI (fire N h f))) sc_L_heaps.nd (ee_cal (ok_change (to := 1) E W hfm hip.len (by decide) (by decide)) hr (ea_cons (ee_var (i := 0) rfl (Rp.mono (eG5.trans (e58.trans eU9)) _ _ r0)) (ea_cons (R := RD (tI h)) (ed_ixL (i := ((ss.length : Nat) : Int)) (ee_var (i := 2) (v := .ref t) (R := RD (hsD acc)) rfl (.lst hT9 (Rp.monoAll eU9 _ _ pws9))) (ed_lenV (ee_var (i := 3) rfl rfl) upd_same E.b_len) (L2.atI_nat hxl9))
          (ea_cons (ee_var (i := 5) rfl (Rp.mono eU9 _ _ rd)) (ea1 ed_int))))) (ou9'.exU (ot9.exU s09.i)) fun v8 G10 H10 s11 r8 => ?_
        have sA := Stp.del ot9 (Stp.del ou9' s11)
        have hu10 : G10 u = some (.lst ss) := s11.g _ _ upd_same
        have ht10 : (dele G10 u) t = some (.lst ws7) := by rw [dele_ne htu]; exact s11.g _ _ hT9
        have r8' := rpI_dele ht10 noTF (rpI_dele hu10 noTF r8)
        have s010 := s09.trans sA
        have ot10 := ot9.step0 sA
        have ou10 := ou9.step0 sA
        have or10 := or9.step0 sA
        generalize hGA : dele (dele G10 u) t = GA at sA r8' s010 ot10 ou10 or10
        have pws10 := Rp.monoAll sA.g _ _ pws9
        have rd10 := Rp.mono sA.g _ _ rd
        refine ws_ifJ (G := upd GA t (.lst ws7)) (t := !decide (fire N h f ∈ acc)) (J := fun σ H' => ∃ G', ∃ ws' : List V, σ = [some v0, some (.int 40), some (.ref t), some (.ref u), some (.ref r), some x, some v8] ∧ Stp [] G H G' H' ∧ Ex GA G' ∧ Own G' H' t (.lst ws') ∧ Own G' H' u (.lst ss) ∧ Own G' H' r (.lst rs) ∧ Paired (Rp G') ws' ((addH acc (fire N h f)).map tI))
          (et_is (et_notInD hr (ee_var (i := 6) rfl (Rp.mono ot10.exG _ _ r8')) (ee_var (i := 2) (v := .ref t) (R := RD (hsD acc)) rfl (.lst upd_same (Rp.monoAll ot10.exG _ _ pws10))) (shp_tI _).of (shp_hs _).of) (by rw [any_tI])) (ot10.exU s010.i) ?_ ?_
        · rintro σ11 H11 ⟨G11, ws', rfl, s011, e11, ot11, ou11, or11, pws11⟩
          obtain ⟨hz, hj', hno⟩ := idx_hs (acc := addH acc (fire N h f)) (z := fire N h f) mem_addH
          refine ws_appendH (G := upd G11 t (.lst ws')) (R := RAny) (q := r) (xs := rs) (ee_var (i := 4) rfl rfl) (ee_tup (Rs := ACons RAny (ACons RAny ANil)) (ea_cons (EE.imp (ed_ixT (i := 0) (d := .str f.name) (ee_var (i := 5) rfl (Rp.mono (e11.trans ot11.exG) _ _ rd10)) ed_int atI_zero) fun _ _ _ _ => trivial) (ea1 (EE.imp (ed_indexD (j := (addH acc (fire N h f)).idxOf (fire N h f)) (d := tI (fire N h f)) hr (ee_var (i := 2) (v := .ref t) (R := RD (hsD (addH acc (fire N h f)))) rfl (.lst upd_same (Rp.monoAll ot11.exG _ _ pws11))) (ee_var (i := 6) rfl (Rp.mono (e11.trans ot11.exG) _ _ r8')) (shp_hs _).of (shp_tI _).of hz hj' hno) fun _ _ _ _ => trivial))) (by simp) (fun vs G' h => by rw [LenA.len _ _ h]; rfl) fun _ _ _ _ _ _ => trivial) (ot11.exU s011.i) or11.h (by omega) fun v12 G12 H12 s12 _ => ?_
          have s12' := Stp.weak ot11.exG s12
          have or12 := or11.step0 s12'
          have s012 := (s011.trans s12').mut (o := .lst (rs ++ [v12])) or12.g (.inl hr0)
          have ot12 := (ot11.step0 s12').other (u := .lst (rs ++ [v12])) hrt
          have ou12 := (ou11.step0 s12').other (u := .lst (rs ++ [v12])) hru
          exact ws_nil ⟨G11, e7.trans (sA.g.trans e11), s012, _, _, ws', rs ++ [v12], rfl, ot12, ou12, or12.upd, by rw [List.length_append, rl]; rfl, by rw [nxt]; exact pws11⟩
        · intro hjn H11 s12
          have s12' := Stp.weak ot10.exG s12
          have s011 := s010.trans s12'
          have ot11 := ot10.step0 s12'
          have ou11 := ou10.step0 s12'
          have or11 := or10.step0 s12'
          by_cases hin : fire N h f ∈ acc
          · rw [decide_eq_true hin]
            refine iteF (ws_nil (hjn _ _ ⟨GA, ws7, rfl, s011, Ex.refl _, ot11, ou11, or11, ?_⟩))
            rw [addH, if_pos hin]
            exact pws10
          · rw [decide_eq_false hin]
            refine iteT ?_
            refine ws_append (cm := .Name "x" ⟨0, 0, 0, 0⟩) (R := RD (tI (fire N h f))) (ee_var (i := 2) rfl rfl) ot11 (by omega) (ee_var (i := 6) rfl r8') s011.i fun v12 G12 H12 s13 r12 w12 => ?_
            have s012 := (s011.trans s13).mut (o := .lst (ws7 ++ [v12])) w12.g (.inl ht)
            refine ws_nil (hjn _ _ ⟨G12, ws7 ++ [v12], rfl, s012, s13.g, w12.upd, (ou11.step0 s13).other htu.symm, (or11.step0 s13).other hrt.symm, ?_⟩)
            rw [addH, if_neg hin, List.map_append]
            exact Paired.app (Rp.monoAll s13.g _ _ pws10) (.cons r12 .nil)
      · rintro σ7 G7 H7 e7 s7 ⟨o5, o6, ws7, rs, rfl, ot7, ou7, or7, rl, pws7⟩
        rw [List.length_map, List.take_length, ← stN_next hh] at pws7
        have hl : (stN N (n + 1)).length ≤ 200 := by
          have h1 := fold_len (g := fun acc f => addH acc (fire N h f)) (fun acc f => addH_len) (N.firings.filter (canF N h)) (heapsOf (stN N n))
          rw [← stN_next hh, heapsOf_length, heapsOf_length] at h1
          omega
        refine ws_append (cm := .Name "x" ⟨0, 0, 0, 0⟩) (R := RV (.ref r)) (ee_var (i := 3) rfl rfl) ou7 (by omega) (ee_var (i := 4) rfl rfl) s7.i fun v9 G9 H9 s9 r9 w9 => ?_
        have s09 := (s7.trans s9).mut (o := .lst (ss ++ [v9])) w9.g (.inl hu0)
        have nl2 : n + 1 ≤ (stN N (n + 1)).length := by
          have := (st_pre (succ := succN N) (b := N.begin) (Nat.le_succ n)).length_le
          exact Nat.le_trans (show n + 1 ≤ (st (succN N) N.begin n).length from hnl) this
        exact ws_nil ⟨41 - (n + 1), G9, by omega, e3.trans (s5.g.trans (e7.trans s9.g)), s09, n + 1, _, _, _, ws7, ss ++ [v9], rfl, (ot7.step0 s9).other htu, w9.upd, Rp.monoAll s9.g _ _ pws7, by rw [List.length_append, sl]; rfl, by omega, nl2, hl, rfl⟩
    · have hF : (decide (((ss.length : Nat) : Int) < (ws.length : Nat)) && decide (((ws.length : Nat) : Int) ≤ 40)) = false := by
        rw [Bool.and_eq_false_iff, decide_eq_false_iff_not, decide_eq_false_iff_not]
        omega
      rw [hF]
      refine iteF ?_
      have ou4' := ou4.frz (o' := .lst ws) htu.symm
      have s5 := (s04.frz ot4.h ht).frz ou4'.h hu0
      have hT : (upd (upd G3 t (.lst ws)) u (.lst ss)) t = some (.lst ws) := hUt
      have pws6 : Paired (Rp (upd (upd G3 t (.lst ws)) u (.lst ss))) ws ((heapsOf (stN N n)).map tI) := Rp.monoAll eU _ _ pws
      refine ws_if (t := decide (40 < ((ws.length : Nat) : Int))) (et_gt (ed_lenV (ee_var (i := 2) rfl rfl) hT E.b_len) (ee_var (i := 1) rfl (.int _))) s5.i fun H5 s6 => ?_
      have s06 := s5.trans s6
      by_cases h40 : 40 < ((ws.length : Nat) : Int)
      · rw [decide_eq_true h40]
        exact iteT (ws_ret (R := TabR N) (EE.imp ed_non fun v G' _ r => .inl (Rp.non_eq r)) s06.i fun v G6 H6 s7 r7 => k v G6 H6 (s06.trans s7) r7)
      · rw [decide_eq_false h40]
        refine iteF (ws_nil (ws_ret (R := TabR N) (EN.ee (en_lst (A := ACons (RV (.ref t)) (ACons (RV (.ref u)) ANil)) (ea_cons (ee_var (i := 2) rfl rfl) (ea1 (ee_var (i := 3) rfl rfl))) (by decide)) fun p o G' eg' ⟨vs, eo, a⟩ hp => ?_) s06.i fun v G6 H6 s7 r7 => k v G6 H6 (s06.trans s7) r7))
        subst eo
        obtain ⟨u1, u2, rfl, h1, h2⟩ := ACons.two a
        obtain rfl : u1 = .ref t := h1
        exact .inr ⟨p, _, u2, n, rfl, upd_same, .lst ((eg'.trans (Ex.new hp)) _ _ hT) (Rp.monoAll (eg'.trans (Ex.new hp)) _ _ pws6), by omega, n40⟩
end TK

/-! part F39 -/
set_option Elab.async false
set_option linter.all false
set_option maxRecDepth 100000
set_option maxHeartbeats 4000000
namespace TK
open PySem PySem.Spec PyProof.Rows L2 PG
variable {P : Program} {w : World} {K : PySem.W.Frag} {mg : Str → Option Value} {base : Heap}
theorem max_of : ∀ {l : List Int}, l ≠ [] → ∃ m ∈ l, ∀ y ∈ l, y ≤ m
  | [], h => absurd rfl h
  | [a], _ => ⟨a, by simp, fun y hy => by
    obtain rfl : y = a := by simpa using hy
    exact Int.le_refl _⟩
  | a :: b :: l, _ => by
    obtain ⟨m, hm, h⟩ := max_of (l := b :: l) (by simp)
    by_cases c : m ≤ a
    · exact ⟨a, List.mem_cons_self .., fun y hy => by
        rcases List.mem_cons.mp hy with e | e
        · rw [e]; exact Int.le_refl _
        · have := h y e; omega⟩
    · exact ⟨m, List.mem_cons_of_mem _ hm, fun y hy => by
        rcases List.mem_cons.mp hy with e | e
        · rw [e]; omega
        · exact h y e⟩
theorem eqvAll_hs : ∀ l : List Hp', PyData.eqvAll (l.map tI) (l.map tI) = true
  | [] => by simp [PyData.eqvAll]
  | h :: l => by
    rw [List.map_cons, PyData.eqvAll, eqvAll_hs l, eqv_tI]
    simp
theorem eqv_hs (l : List Hp') : PyData.eqv (hsD l) (hsD l) = true := by
  rw [PyData.eqv]
  exact eqvAll_hs l
theorem tI_phi {a : Nat} {lid : Int} (h : Hp') : tI (phi a lid h) = .tuple (h.map .int ++ [.int (lid - h.getD a 0)]) := by
  unfold phi
  show PyData.tuple ((h ++ [lid - h.getD a 0]).map .int) = _
  rw [List.map_append]
  rfl
section
variable {X : Cx} {σ : L2.St} {G : Hp} {e e2 c l : Expr} {es : List Expr} {p1 p2 p3 p4 p5 : Pos} {n1 a : Nat} {lid : Int} {h : Hp'}
/-- heap + (lid - heap[at],) -/
theorem ed_phi (he : ED X e σ G (tI h)) (he2 : ED X e2 σ G (tI h)) (hl : ED X l σ G (.int lid)) (hc : ED X c σ G (.int (a : Nat))) (ha : a < h.length) (h40 : h.length ≤ 1000) (hs : PlainIx c := by intro _ _; rfl)
    (hst : starEach [.BinOp l .Sub (.Subscript e2 c p3) p4] X.env = (false, eval (.BinOp l .Sub (.Subscript e2 c p3) p4) X.env) :: starEach [] X.env := by rfl) : ED X (.BinOp e .Add (.Tuple [.BinOp l .Sub (.Subscript e2 c p3) p4] n1 p2) p1) σ G (tI (phi a lid h)) := by
  rw [tI_phi]
  have hy := List.getElem?_eq_getElem ha
  refine ed_addT he (ed_tup (ds := [.int (lid - h.getD a 0)]) (hl := by simp) (ad_cons (ed_sub hl (ed_ixT (i := (a : Nat)) he2 hc (L2.atI_nat (by rw [List.getElem?_map, hy, getD_of hy]; rfl)) hs)) ad_nil hst)) (by rw [List.length_map]; simp; omega)
end
theorem shp_cov (b : Bool) : SeqAt.shaped (.str (covW b)) = true := by cases b <;> decide +kernel
theorem shp_told {z : Str} (h : z = "" ∨ ∃ b, z = covW b) : shp 0 (.str z) := by
  refine ⟨?_, by rw [PyData.depth]; exact Nat.le_refl _⟩
  rcases h with rfl | ⟨b, rfl⟩
  · decide +kernel
  · cases b <;> decide +kernel
end TK

/-! part F40 -/
set_option Elab.async false
set_option linter.all false
set_option maxRecDepth 100000
set_option maxHeartbeats 4000000
namespace TK
open PySem PySem.Spec PyProof.Rows L2 PG
variable {P : Program} {w : World} {K : PySem.W.Frag} {mg : Str → Option Value} {base : Heap}
/-- the two words told -/
def TwoR (A B : V → Hp → Prop) : V → Hp → Prop := fun v G => ∃ q u1 u2, v = .ref q ∧ G q = some (.lst [u1, u2]) ∧ A u1 G ∧ B u2 G
instance (A B : V → Hp → Prop) [m : MonoR A] [n : MonoR B] : MonoR (TwoR A B) := ⟨fun _ _ _ e ⟨q, u1, u2, h1, h2, h3, h4⟩ => ⟨q, u1, u2, h1, e _ _ h2, m.mono _ _ _ e h3, n.mono _ _ _ e h4⟩⟩
theorem row_len {row row' : List Str} (h : row = row') : (!PyData.eqv (.int ((row.map PyData.str).length : Nat)) (.int ((row'.map PyData.str).length : Nat))) = false := by
  subst h
  rw [PyData.eqv]
  simp
theorem ok_free_right {N : Net} {a : Nat} {x : Str} {lid : Int} {L : Nat} (E : Env K mg) (g : GN N) (ha : N.names[a]? = some x) (S' : Sea (lidN N a x lid) L) (e' : Ends' (succB N a lid) N.begin L) :
    C8.Cal P w K mg base 9 "_law_free_right" (PrP (· + 10) (ACons (RD (netD N)) (ACons (RD (netD (lidN N a x lid))) (ACons (RD (.int a)) (ACons (RD (.int lid)) ANil)))) (RD (.bool true))) [] :=
  cg_L_free_right E PrP.len fun cdv A outer s H vs Q E' hr ⟨p, rest, G, b, e, ex, pu, hb, as, q⟩ => by
    obtain ⟨v1, v2, v3, v4, rfl, r1, r2, r3, r4⟩ := ACons.four' as
    subst e
    obtain rfl := Rp.int_eq r3
    obtain rfl := Rp.int_eq r4
    have hb : b + 10 ≤ 100000 := hb
    have W := g.W
    have hal : a < N.names.length := (List.getElem?_eq_some_iff.mp ha).1
    have nml : N.names.length ≤ 40 := by rw [names_len]; exact W.len
    refine ws_set (i := 5) (R := TabR N) sc_L_free_right.nd (ee_cal (ok_heaps E W) hr (ea_cons (ee_var (i := 1) rfl r1) (ea1 ed_int))) ex fun v5 G1 H1 s1 r5 => ?_
    have pu1 := pu.step s1
    -- what is said at the end
    have fin : ∀ {D : Ends} {σ : L2.St} {G2 H2 : Hp} {c : Nat} {j : Nat} {p1 p2 : Pos} {rs : List Stmt}, D.rt = Q → c ≤ b + 10 → Stp [p] G H G2 H2 → Pu G2 H2 p c → WS (XB P w K mg base N_L_free_right "_law_free_right" (defScope s_L_free_right) (He.fAd K ("_law_free_right", none)) cdv A outer s H E') (.Return (some (.Constant (.bool true) j p1)) p2 :: rs) D σ H2 := fun hD hc s2 pu2 =>
      ws_ret (R := RD (.bool true)) ed_bl s2.i fun v G3 H3 s3 r3 => by
        rw [hD]
        exact q v G3 H3 (s2.trans s3.any) ((pu2.step s3).le hc) r3
    rcases r5 with rfl | ⟨qt, u1, u2, n, rfl, hqt, ru1, hn, n40⟩
    · refine ws_ifT (et_is (et_or (t := true) (u := false) (et_isN (Ra := RV .non) (t := true) (ee_var (i := 5) rfl rfl) fun v G r => by rw [show v = .non from r]; rfl) fun z => by cases z) rfl) s1.i fun H2 s2 => ?_
      exact fin rfl (by omega) (s1.trans s2).any (pu1.step s2)
    · have S : Sea N n := ⟨W, ⟨hn⟩, n40⟩
      have fne : (finN N n).map (fun h => h.getD a 0) ≠ [] := fun z => by
        have : N.begin ∈ finN N n := begin_mem (succ := succN N) (b := N.begin) n
        rw [List.map_eq_nil_iff.mp z] at this
        simp at this
      obtain ⟨m, hm1, hm2⟩ := max_of fne
      have flen : (finN N n).length ≤ 40 := by rw [heapsOf_length]; show (stN N n).length ≤ 40; omega
      have hal' : ∀ h ∈ finN N n, a < h.length := fun h hh => by rw [(S.hip n h hh).len]; exact hal
      refine ws_if (t := decide (lid < m)) (et_is (et_or (t := false) (et_isN (Ra := RV (.ref qt)) (t := false) (ee_var (i := 5) rfl rfl) fun v G r => by rw [show v = .ref qt from r]; rfl) fun _ => et_gt (ed_max (ns := (finN N n).map fun h => h.getD a 0) rfl (ee_is (ed_lcM (l := finN N n) (src := tI) (own := [("_law_heap", 6)]) rfl sc_L_free_right.nd
        (ei_list (ee_ixL (R := RD (hsD (finN N n))) (p := qt) (xs := [u1, u2]) (i := 0) (ee_var (i := 5) rfl rfl) hqt ed_int rfl ru1)) (blkOk_by (N := N_L_free_right) (sc := defScope s_L_free_right) (by decide +kernel)) (fun h => some (PyData.int (h.getD a 0))) (fun i h x' G' eg hh rx => ?_) (by omega)) ?_) hm1 hm2 E.b_max) (ee_var (i := 4) rfl (.int _))) (by simp)) s1.i fun H2 s2 => ?_
      · have hy := List.getElem?_eq_getElem (hal' h (List.mem_of_getElem? hh))
        refine ⟨_, ?_, fun s H C cl fp => ⟨eg_name (i := 6) sc_L_free_right.nd, ets_nil, ed_ixT (i := (a : Nat)) (ee_var (i := 6) rfl rx) (ee_var (i := 3) rfl (.int _)) (L2.atI_nat (by rw [List.getElem?_map, hy, getD_of hy]; rfl))⟩⟩
        rfl
      · rw [fm_some, List.map_map]
        rfl
      have s02 := s1.trans s2
      have pu2 := pu1.step s2
      by_cases hlm : lid < m
      · rw [decide_eq_true hlm]
        exact iteT (fin rfl (by omega) s02.any pu2)
      · rw [decide_eq_false hlm]
        refine iteF (ws_nil ?_)
        have hfree : ∀ h ∈ finN N n, h.getD a 0 ≤ lid := fun h hh => by
          have := hm2 _ (List.mem_map_of_mem (f := fun h : Hp' => h.getD a 0) hh)
          omega
        obtain rfl := free_L S hfree e'
        have F : Free N a x lid L := ⟨g, ha, S, S', hfree⟩
        have W' := S'.W
        have r11 := Rp.mono s1.g _ _ r1
        have r21 := Rp.mono s1.g _ _ r2
        have dl : ((finN N L).filter (isDead N)).length ≤ 40 := Nat.le_trans (List.length_filter_le ..) flen
        refine ws_skip (et_is (et_ne (d := hsD (((finN N L).filter (isDead N)).map (phi a lid))) (d' := hsD (((finN N L).filter (isDead N)).map (phi a lid))) hr (ee_is (ee_calD (ok_dead E S') hr (A := ACons (RD (netD (lidN N a x lid))) ANil) (ea1 (ee_var (i := 2) rfl r21)) (fun vs G' h => by
            obtain ⟨v, rfl, h1⟩ := ACons.one h
            exact ⟨v, _, rfl, h1, .int 2000, [], rfl, .int 2000, rfl⟩)) (by rw [F.dead]))
          (ee_is (ed_lcM (l := (finN N L).filter (isDead N)) (src := tI) (own := [("_law_heap", 6)]) rfl sc_L_free_right.nd (ei_list (ee_calD (ok_dead E S) hr (A := ACons (RD (netD N)) ANil) (ea1 (ee_var (i := 1) rfl r11)) (fun vs G' h => by
            obtain ⟨v, rfl, h1⟩ := ACons.one h
            exact ⟨v, _, rfl, h1, .int 2000, [], rfl, .int 2000, rfl⟩))) (blkOk_by (N := N_L_free_right) (sc := defScope s_L_free_right) (by decide +kernel)) (fun h => some (tI (phi a lid h))) (fun i h x' G' eg hh rx => ?_) (by omega)) ?_) (shp_hs _).of (shp_hs _).of) (by rw [eqv_hs]; rfl)) s02.i fun H3 s3 => ?_
        · have hm := List.mem_of_getElem? hh
          have hF := (List.mem_filter.mp hm).1
          refine ⟨_, ?_, fun s H C cl fp => ⟨eg_name (i := 6) sc_L_free_right.nd, ets_nil, ed_phi (ee_var (i := 6) rfl rx) (ee_var (i := 6) rfl rx) (ee_var (i := 4) rfl (.int _)) (ee_var (i := 3) rfl (.int _)) (hal' h hF) (by rw [(S.hip L h hF).len]; omega)⟩⟩
          rfl
        · rw [fm_some]
          show PyData.list _ = .list ((((finN N L).filter (isDead N)).map (phi a lid)).map tI)
          rw [List.map_map]
          rfl
        have s03 := s02.trans s3
        have pu3 := pu2.step s3
        refine ws_forS (S := [p]) (Y := YN) (n := 1) (ei_range (n := 1) ed_int (by decide) E.b_range) PassesOwn.never rfl s03.any
          (fun i σ' G' H' => ∃ o6 o7 o8 o9, σ' = [some (.ref p), some v1, some v2, some (.int a), some (.int lid), some (.ref qt), o6, o7, o8, o9] ∧ Pu G' H' p (b + 6 * i)) (fun G4 H4 s4 => ⟨_, _, _, _, rfl, pu3.step s4⟩) ?_ ?_
        · rintro G1' eg i σ' G' H' G4 H4 xt hi e1 s4 ⟨o6, o7, o8, o9, rfl, pu4⟩ s5 y
          obtain rfl : i = 0 := by omega
          have e04 : Ex G1 G4 := eg.trans e1
          have r14 := Rp.mono e04 _ _ r11
          have r24 := Rp.mono e04 _ _ r21
          have hqt4 := e04 _ _ hqt
          have ru4 := Rp.mono e04 _ _ ru1
          refine wg (eg_name (i := 7) sc_L_free_right.nd) s4.i fun H5 s6 => ?_
          have s05 := s4.trans s6.any
          have pu5 := (pu4.step s5).step s6
          have fl1 : 1 ≤ (finN N L).length := List.length_pos_of_mem (begin_mem (succ := succN N) (b := N.begin) L)
          refine ws_setP (i := 6) (b1 := b + 6 * 0 + 1) (R := RQ (· ∈ (finN N L).map tI)) sc_L_free_right.nd (ep_ixL (ds := (finN N L).map tI) (ee_ixL (R := RD (hsD (finN N L))) (p := qt) (xs := [u1, u2]) (i := 0) (ee_var (i := 5) rfl rfl) hqt4 ed_int rfl ru4)
            ((ep_draw (n := ((finN N L).length : Nat)) E (by omega) (by omega) hr (ee_var (i := 0) rfl rfl) (ee_is (ed_lenL (ee_ixL (R := RD (hsD (finN N L))) (p := qt) (xs := [u1, u2]) (i := 0) (ee_var (i := 5) rfl rfl) hqt4 ed_int rfl ru4) E.b_len) (by rw [List.length_map])) (by omega)).imp fun v G' _ ⟨i, e, h0, h1⟩ => ⟨i, e, h0, by rw [List.length_map]; exact h1⟩)) s05.i pu5 fun v6 G6 H6 s7 pu6 ⟨d6, hd6, r6⟩ => ?_
          obtain ⟨h, hh, rfl⟩ := List.mem_map.mp hd6
          have s06 := s05.trans s7
          have r16 := Rp.mono s7.g _ _ r14
          have r26 := Rp.mono s7.g _ _ r24
          refine ws_skip (et_is (et_ne hr (ed_lenL (ed_ixT (i := 1) (d := rowD (rowOf N L h)) (ee_calD (ok_way E S hh) hr (A := ACons (RD (netD N)) (ACons (RD (tI h)) ANil)) (ea_cons (ee_var (i := 1) rfl r16) (ea1 (ee_var (i := 6) rfl r6))) (fun vs G' h => by
              obtain ⟨v, v', rfl, h1, h2⟩ := ACons.two h
              exact ⟨v, _, rfl, h1, v', _, rfl, h2, .int 2000, [], rfl, .int 2000, rfl⟩)) ed_int rfl) E.b_len)
            (ed_lenL (ed_ixT (i := 1) (d := rowD (rowOf (lidN N a x lid) L (phi a lid h))) (ee_calD (ok_way E S' (F.mem hh)) hr (A := ACons (RD (netD (lidN N a x lid))) (ACons (RD (tI (phi a lid h))) ANil)) (ea_cons (ee_var (i := 2) rfl r26) (ea1 (ed_phi (ee_var (i := 6) rfl r6) (ee_var (i := 6) rfl r6) (ee_var (i := 4) rfl (.int _)) (ee_var (i := 3) rfl (.int _)) (hal' h hh) (by rw [(S.hip L h hh).len]; omega)))) (fun vs G' h => by
              obtain ⟨v, v', rfl, h1, h2⟩ := ACons.two h
              exact ⟨v, _, rfl, h1, v', _, rfl, h2, .int 2000, [], rfl, .int 2000, rfl⟩)) ed_int rfl) E.b_len) rfl rfl) (row_len (F.row hh).symm)) s06.i fun H7 s8 => ?_
          have s07 := s06.trans s8.any
          have pu7 := pu6.step s8
          refine ws_setP (i := 8) (b1 := b + 6 * 0 + 1 + 5) (R := GoR N.places.length) sc_L_free_right.nd (ep_cal (bb := (· + 5)) (ok_goal E W) hr (ee_var (i := 0) rfl rfl) (epa_cons (ep_ee (ee_var (i := 1) rfl r16)) epa_nil) (by show b + 6 * 0 + 1 + 5 ≤ 100000; omega)) s07.i pu7 fun v8 G8 H8 s9 pu8 ⟨d8, ⟨gl, ed8, gll, glp⟩, r8⟩ => ?_
          subst ed8
          have hg : Hip N gl := ⟨by rw [names_len]; exact gll, glp⟩
          have s08 := s07.trans s9
          have r18 := Rp.mono s9.g _ _ r16
          have r28 := Rp.mono s9.g _ _ r26
          refine ws_set (i := 9) (R := TwoR (ToldR N gl) (ToldR (lidN N a x lid) (gl ++ [0]))) sc_L_free_right.nd (EN.ee (en_lst (A := ACons (ToldR N gl) (ACons (ToldR (lidN N a x lid) (gl ++ [0])) ANil)) (ea_cons (ee_cal (ok_told E W hg) hr (ea_cons (ee_var (i := 1) rfl r18) (ea1 (ee_var (i := 8) rfl r8))))
            (ea1 (ee_cal (ok_told E W' (goal_hip hg)) hr (ea_cons (ee_var (i := 2) rfl r28) (ea1 (ee_is (ed_addT (ee_var (i := 8) rfl r8) (ed_tup (ds := [.int 0]) (ad_cons ed_int ad_nil)) (by rw [List.length_map, gll, ← names_len]; simp; omega)) (by
              show PyData.tuple (gl.map .int ++ [.int 0]) = .tuple ((gl ++ [0]).map .int)
              rw [List.map_append]
              rfl))))))) (by decide)) fun p o G' _ ⟨vs, eo, aa⟩ hp => by
                subst eo
                obtain ⟨t1, t2, rfl, h1, h2⟩ := ACons.two aa
                exact ⟨p, t1, t2, rfl, upd_same, h1, h2⟩) s08.i fun v9 G9 H9 s10 r9 => ?_
          obtain ⟨q9, t1, t2, rfl, hq9, ⟨z1, rfl, hz1⟩, z2, rfl, hz2⟩ := r9
          have s09 := s08.trans s10.any
          have pu9 := pu8.step s10
          have sz1 : shp 0 (.str z1) := shp_told (hz1.imp id fun ⟨b, _, e⟩ => ⟨b, e⟩)
          have sz2 : shp 0 (.str z2) := shp_told (hz2.imp id fun ⟨b, _, e⟩ => ⟨b, e⟩)
          have szl : shp 1 (.list [.str z1, .str z2]) := (shp_lst (n := 0) fun d hd => by
            simp only [List.mem_cons, List.not_mem_nil, or_false] at hd
            rcases hd with rfl | rfl
            · exact sz1
            · exact sz2 : shp 1 (.list (([z1, z2] : List Str).map PyData.str)))
          have rl9 : Rp G9 (.ref q9) (.list [.str z1, .str z2]) := .lst hq9 (.cons (.str _) (.cons (.str _) .nil))
          refine ws_skip (et_is (et_and (et_notInD hr ed_str (ee_var (i := 9) rfl rl9) (shp_told (.inl rfl)).of szl.of) fun _ => et_ne hr (ed_ixL (i := 0) (d := .str z1) (ee_var (i := 9) rfl rl9) ed_int rfl) (ed_ixL (i := 1) (d := .str z2) (ee_var (i := 9) rfl rl9) ed_int rfl) sz1.of sz2.of) ?_) s09.i fun H10 s11 => ?_
          · rcases hz1 with rfl | ⟨b1, c1, rfl⟩
            · rfl
            · rcases hz2 with rfl | ⟨b2, c2, rfl⟩
              · cases b1 <;> rfl
              · obtain rfl := F.told hg c1 c2
                have : PyData.eqv (.str (covW b1)) (.str (covW b1)) = true := by rw [PyData.eqv]; simp
                rw [this]
                simp
          · exact ws_nil ⟨G9, e1.trans (s7.g.trans (s9.g.trans s10.g)), s09.trans s11.any, _, _, _, _, rfl, (pu9.step s11).le (by omega)⟩
        · rintro σ' G4 H4 e4 s4 ⟨o6, o7, o8, o9, rfl, pu4⟩
          exact fin rfl (by omega) s4 pu4
end TK

/-! part F41 -/
set_option Elab.async false
set_option linter.all false
set_option maxRecDepth 100000
set_option maxHeartbeats 4000000
namespace PG
open PySem PySem.Spec PyProof.Rows L2
section
variable {X : Cx} {σ : L2.St} {G : Hp} {a b c : Expr} {pos p2 : Pos}
theorem ed_inStrsL {x : Str} {ys : List Str} (ha : ED X a σ G (.str x)) (hb : ED X b σ G (.list (ys.map .str))) (hm : behindInMarks .In b = false := by with_unfolding_all rfl) : ED X (.Compare a [.In] [b] pos) σ G (.bool (decide (x ∈ ys))) :=
  ee_cmp op_in_seq ha hb (fun x' y' G' eg rx ry => by
    obtain ⟨q, xs, rfl, h1, h2⟩ := Rp.lst_eq ry
    rw [Rp.str_eq rx, ← inV_strs]
    rw [strs_paired h2] at h1
    exact .val (fun H Q e q' => ⟨q, ys.map V.str, rfl, .inl (SqL.of (e _ _ h1)), rfl, by simp [flatV], q'⟩) (.bl _)) hm
end
end PG
namespace TK
open PySem PySem.Spec PyProof.Rows L2 PG
open PySem.W (AllAlike Sortable)
variable {P : Program} {w : World} {K : PySem.W.Frag} {mg : Str → Option Value} {base : Heap}
theorem alike_hs (hs : List Hp') : AllAlike (hs.map tI) := fun d hd e he => by
  obtain ⟨x, _, rfl⟩ := List.mem_map.mp hd
  obtain ⟨y, _, rfl⟩ := List.mem_map.mp he
  simp [PySem.W.alike, alike_ints]
theorem sortable_hs {hs : List Hp'} (h : ∀ z ∈ hs, z ≠ []) : Sortable (hs.map tI) := .inl fun d hd => by
  obtain ⟨x, hx, rfl⟩ := List.mem_map.mp hd
  cases x with
  | nil => exact absurd rfl (h _ hx)
  | cons a x => exact ⟨_, _, rfl⟩
/-- the first two of what is told of a bound -/
theorem ed_bound2 {X : Cx} {σ : L2.St} {G : Hp} {a : Expr} {m : Int} {j : Nat} {pos p2 p3 : Pos} (ha : EE X a σ G (BoundR m)) : ED X (.Subscript a (.Slice none (some (.Constant (.int 2) j p3)) none p2) pos) σ G (.tuple [.str "most", .int m]) := fun H Q e k =>
  ⟨_, pe_slice sl_tupA (pe_self a) (po_self none) (po_self _), ha H _ e fun v G1 H1 s1 ⟨q, u1, u2, u3, u4, ev, hq, r1, r2⟩ => eo_none H1 _ (s1.g.trans s1.i) fun H2 s2 => (eo_int ed_int) H2 _ s2.i fun H3 s3 => by
    subst ev
    have s13 : Stp [] G1 H1 G1 H3 := (s2.trans s3).lift s1.i s1.g |>.1.keepG
    have s := s1.trans s13
    refine ⟨q, [u1, u2, u3, u4], rfl, SqT.of (s.i _ _ hq), fun z => ?_, fun _ t ht => ?_⟩
    · exact absurd z.2 (show ¬ HT.sIx 4 4 (some 2) = 4 by decide)
    · have e2 : Stp [] G1 H3 (upd G1 t (.tup [u1, u2])) (upd H3 t (.tup [u1, u2])) := Stp.newP s.i ht
      exact k _ _ _ (s.trans e2) (.tup upd_same (.cons (Rp.mono e2.g _ _ r1) (.cons (Rp.mono e2.g _ _ r2) .nil)))⟩
end TK

/-! part F42 -/
set_option Elab.async false
set_option linter.all false
set_option maxRecDepth 100000
set_option maxHeartbeats 4000000
namespace TK
open PySem PySem.Spec PyProof.Rows L2 PG
variable {P : Program} {w : World} {K : PySem.W.Frag} {mg : Str → Option Value} {base : Heap}
theorem ok_right (E : Env K mg) : C8.Cal P w K mg base 10 "_law_right" (PrP (· + 12) (ACons NetR ANil) (RD (.bool true))) [] :=
  cg_L_right E PrP.len fun cdv A outer s H vs Q E' hr ⟨p, rest, G, b, e, ex, pu, hb, as, q⟩ => by
    obtain ⟨v1, rfl, N, g, nf⟩ := ACons.one as
    subst e
    have hb : b + 12 ≤ 100000 := hb
    have W := g.W
    have r1 := nf.rp
    have pl5 : 1 ≤ N.places.length ∧ N.places.length ≤ 5 := by
      obtain ⟨n, h1, h5, e⟩ := g.nm
      have : N.names.length = n := by rw [e, List.length_take]; simp; omega
      rw [names_len] at this
      omega
    refine ws_setP (i := 2) (b1 := b + 1) (R := Dr N.places.length) sc_L_right.nd (ep_draw (n := (N.places.length : Nat)) E (by omega) (by omega) hr (ee_var (i := 0) rfl rfl) (ee_is (ed_lenT (ed_ixT (i := 0) (d := placesD N) (ee_var (i := 1) rfl r1) ed_int atI_zero) E.b_len) (by rw [List.length_map])) (by omega)) ex pu fun v2 G1 H1 s1 pu1 ⟨at_, ea, a0, a1⟩ => ?_
    subst ea
    obtain ⟨a, rfl⟩ : ∃ a : Nat, at_ = a := ⟨at_.toNat, by omega⟩
    have hal : a < N.places.length := by omega
    obtain ⟨⟨x, beg⟩, hp⟩ : ∃ p, N.places[a]? = some p := ⟨_, List.getElem?_eq_getElem hal⟩
    have ha : N.names[a]? = some x := by unfold Net.names; rw [List.getElem?_map, hp]; rfl
    have hbeg : N.begin.getD a 0 = beg := getD_of (by unfold Net.begin; rw [List.getElem?_map, hp]; rfl)
    have r11 := Rp.mono s1.g _ _ r1
    refine ws_asg (R := RD (pairD (x, beg))) (ed_ixT (i := (a : Nat)) (ed_ixT (i := 0) (d := placesD N) (ee_var (i := 1) rfl r11) ed_int atI_zero) (ee_var (i := 2) rfl (.int _)) (L2.atI_nat (by rw [List.getElem?_map, hp]; rfl))) s1.i fun v G2 H2 s2 r => ?_
    obtain ⟨qp, rfl, hqp⟩ := pairD_eq r
    refine wg (eg_tup2 rfl hqp (eg_name (i := 3) sc_L_right.nd) (eg_name (i := 4) sc_L_right.nd)) s2.i fun H3 s3 => ?_
    have s03 := (s1.trans s2.any).trans s3.any
    have pu3 := (pu1.step s2).step s3
    refine ws_setP (i := 5) (b1 := b + 1 + 1) (R := RI fun z => beg ≤ z ∧ z ≤ beg + 4) sc_L_right.nd (ep_op op_add (Ra := RD (.int beg)) (Rb := Dr 5) (ep_ee (ee_var (i := 4) rfl (.int _))) (ep_draw (n := 5) E (by decide) (by decide) hr (ee_var (i := 0) rfl rfl) ed_int (by omega)) fun x y G' _ rx ⟨z, ez, z0, z1⟩ => ?_) s03.i pu3 fun v5 G4 H4 s4 pu4 ⟨lid, el, l0, l1⟩ => ?_
    · rw [ez, Rp.int_eq rx]
      exact .val (fun H Q _ q => ⟨beg, z, rfl, rfl, q⟩) ⟨_, rfl, by omega, by omega⟩
    subst el
    have s04 := s03.trans s4
    have l0' : N.begin.getD a 0 ≤ lid := by rw [hbeg]; exact l0
    have W' : Wf (lidN N a x lid) := lid_wf g hal l0' (by rw [hbeg]; exact l1)
    have nf4 : NetF N v1 G4 := MonoR.mono _ _ _ s04.g nf
    refine ws_set (i := 6) (R := RD (netD (lidN N a x lid))) sc_L_right.nd (ee_cal (ok_lidded E g ha) hr (ea_cons (ee_var (i := 1) rfl nf4) (ea_cons (ee_var (i := 2) rfl (.int _)) (ea1 (ee_var (i := 5) rfl (.int _)))))) s04.i fun v6 G5 H5 s5 r6 => ?_
    have s05 := s04.trans s5.any
    have pu5 := pu4.step s5
    have r15 := Rp.mono s05.g _ _ r1
    have hal' : a < N.names.length := by rw [names_len]; exact hal
    refine ws_set (i := 7) (R := DueR N a lid) sc_L_right.nd (ee_cal (ok_beneath E W hal' l0') hr (ea_cons (ee_var (i := 1) rfl r15) (ea_cons (ee_var (i := 2) rfl (.int _)) (ea_cons (ee_var (i := 5) rfl (.int _)) (ea1 ed_int))))) s05.i fun v7 G6 H6 s6 r7 => ?_
    have s06 := s05.trans s6.any
    have pu6 := pu5.step s6
    have r66 := Rp.mono s6.g _ _ r6
    have npl : (lidN N a x lid).places.length ≤ 40 := W'.len
    refine ws_set (i := 8) (R := RD (tI (wtD x (lidN N a x lid).places))) sc_L_right.nd (ed_tupL (ee_is (ed_lcM (l := (lidN N a x lid).places) (src := pairD) (own := [("_law_place", 9)]) rfl sc_L_right.nd (ei_tup (ed_ixT (i := 0) (d := placesD (lidN N a x lid)) (ee_var (i := 6) rfl r66) ed_int atI_zero)) (blkOk_by (N := N_L_right) (sc := defScope s_L_right) (by decide +kernel)) (fun pp => some (PyData.int (if decide (pp.1 ∈ [x, lidS]) = true then 1 else 0))) (fun i pp x' G' eg hh rx => ?_) (by omega)) ?_) E.b_tuple) s06.i fun v8 G7 H7 s7 r8 => ?_
    · refine ⟨_, ?_, fun s H C cl fp => ⟨eg_name (i := 9) sc_L_right.nd, ets_nil, ed_intB (ed_inStrsL (ys := [x, lidS]) (ed_ixT (i := 0) (d := .str pp.1) (ee_var (i := 9) rfl rx) ed_int atI_zero) (ed_lst (hl := by simp) (ad_cons (ee_var (i := 3) rfl (.str _)) (ad_cons ed_str ad_nil)))) E.b_int⟩⟩
      rfl
    · rw [fm_some]
      unfold wtD
      rw [List.map_map]
      rfl
    have s07 := s06.trans s7.any
    have pu7 := pu6.step s7
    have r67 := Rp.mono s7.g _ _ r66
    refine ws_skip (et_notN (Ra := RD .none) (t := false) (ee_cal (ok_sum_wrong E W' wtD_length (wtD_01 _) (lid_dot g ha)) hr (ea_cons (ee_var (i := 6) rfl r67) (ea1 (ee_var (i := 8) rfl r8)))) fun v G' r => by rw [Rp.non_eq r]; rfl) s07.i fun H8 s8 => ?_
    have s08 := s07.trans s8.any
    have pu8 := pu7.step s8
    have hx' : x ∈ (lidN N a x lid).names := by rw [lid_names]; exact List.mem_append_left _ (List.mem_of_getElem? ha)
    have hl' : lidS ∈ (lidN N a x lid).names := by rw [lid_names]; simp
    refine ws_skip (et_is (et_or (et_not (et_val (ee_cal (ok_is_trap (ps := [x, lidS]) E W' (fun y hy => ?_) (lid_kept g ha W' (fun y => by simp) true)) hr (ea_cons (ee_var (i := 6) rfl r67) (ea1 (ed_lst (hl := by simp) (ad_cons (ee_var (i := 3) rfl (.str _)) (ad_cons ed_str ad_nil)))))))) fun _ =>
      et_not (et_val (ee_cal (ok_is_siphon (ps := [lidS, x]) E W' (fun y hy => ?_) (lid_kept g ha W' (fun y => by simp [or_comm]) false)) hr (ea_cons (ee_var (i := 6) rfl r67) (ea1 (ed_lst (hl := by simp) (ad_cons ed_str (ad_cons (ee_var (i := 3) rfl (.str _)) ad_nil)))))))) rfl) s08.i fun H9 s9 => ?_
    · simp only [List.mem_cons, List.not_mem_nil, or_false] at hy
      rcases hy with rfl | rfl
      · exact hx'
      · exact hl'
    · simp only [List.mem_cons, List.not_mem_nil, or_false] at hy
      rcases hy with rfl | rfl
      · exact hl'
      · exact hx'
    have s09 := s08.trans s9.any
    have pu9 := pu8.step s9
    obtain ⟨n, rdue, hdue, d200⟩ := (MonoR.mono _ _ _ s7.g r7 : DueR N a lid v7 G7)
    have dl : (heapsOf (stB N a lid n)).length = (stB N a lid n).length := heapsOf_length _
    refine ws_if (t := decide (40 < (((stB N a lid n).length : Nat) : Int))) (et_gt (ee_is (ed_lenL (ee_var (i := 7) rfl rdue) E.b_len) (by rw [List.length_map, dl])) ed_int) s09.i fun H10 s10 => ?_
    have s010 := s09.trans s10.any
    have pu10 := pu9.step s10
    by_cases h40 : 40 < (((stB N a lid n).length : Nat) : Int)
    · rw [decide_eq_true h40]
      exact iteT (ws_ret (R := RD (.bool true)) ed_bl s010.i fun v G11 H11 s11 r11 => q v G11 H11 (s010.trans s11.any) ((pu10.step s11).le (by show b + 1 + 1 ≤ b + 12; omega)) r11)
    · rw [decide_eq_false h40]
      refine iteF (ws_nil ?_)
      have hn : (stB N a lid n).length = n ∧ n ≤ 40 := by omega
      have eB : Ends' (succB N a lid) N.begin n := ⟨hn.1⟩
      have S' : Sea (lidN N a x lid) n := lid_sea g ha W' l0' eB hn.2
      have hfin := lid_fin g ha W' l0' n
      have dip := stB_hip W l0' n
      have hal2 : ∀ h ∈ heapsOf (stB N a lid n), a < h.length := fun h hh => by rw [(dip h hh).1.len]; exact hal'
      have e710 : Ex G7 G7 := Ex.refl _
      have nml : N.names.length ≤ 40 := by rw [names_len]; omega
      have finne : ∀ z ∈ finN (lidN N a x lid) n, z ≠ [] := fun z hz => (S'.hip n z hz).ne W'
      refine ws_skip (et_is (et_ne (d := hsD (sortB tI (finN (lidN N a x lid) n))) (d' := hsD (sortB tI (finN (lidN N a x lid) n))) hr
        (ed_sorted (f := tI) (bs := finN (lidN N a x lid) n) hr (ed_ixT (i := 0) (d := hsD (finN (lidN N a x lid) n)) (ee_calD (ok_reach E S') hr (A := ACons (RD (netD (lidN N a x lid))) ANil) (ea1 (ee_var (i := 6) rfl r67)) (fun vs G' h => by
          obtain ⟨v, rfl, h1⟩ := ACons.one h
          exact ⟨v, _, rfl, h1, .int 2000, [], rfl, .int 2000, rfl⟩)) ed_int atI_zero) (alike_hs _) (sortable_hs finne) (fun z _ => by rw [depth_tI]; decide) E.b_sorted)
        (ed_sorted (f := tI) (bs := finN (lidN N a x lid) n) hr (ee_is (ed_lcM (l := heapsOf (stB N a lid n)) (src := tI) (own := [("_law_heap", 10)]) rfl sc_L_right.nd (ei_list (ee_var (i := 7) rfl rdue)) (blkOk_by (N := N_L_right) (sc := defScope s_L_right) (by decide +kernel)) (fun h => some (tI (phi a lid h))) (fun i h x' G' eg hh rx => ?_) (by omega)) ?_) (alike_hs _) (sortable_hs finne) (fun z _ => by rw [depth_tI]; decide) E.b_sorted)
        (shp_hs _).of (shp_hs _).of) (by rw [eqv_hs]; rfl)) s010.i fun H11 s11 => ?_
      · have hm := List.mem_of_getElem? hh
        refine ⟨_, ?_, fun s H C cl fp => ⟨eg_name (i := 10) sc_L_right.nd, ets_nil, ed_phi (ee_var (i := 10) rfl rx) (ee_var (i := 10) rfl rx) (ee_var (i := 5) rfl (.int _)) (ee_var (i := 2) rfl (.int _)) (hal2 h hm) (by rw [(dip h hm).1.len]; omega)⟩⟩
        rfl
      · rw [fm_some, hfin, List.map_map]
        rfl
      have s011 := s010.trans s11.any
      have pu11 := pu10.step s11
      -- the greatest count beneath the lid
      have fne : (heapsOf (stB N a lid n)).map (fun h => h.getD a 0) ≠ [] := fun z => by
        have : N.begin ∈ heapsOf (stB N a lid n) := begin_mem (succ := succB N a lid) (b := N.begin) n
        rw [List.map_eq_nil_iff.mp z] at this
        simp at this
      obtain ⟨m, hm1, hm2⟩ := max_of fne
      have hcol : (finN (lidN N a x lid) n).map (fun h => h.getD (ix (lidN N a x lid).names x) 0) = (heapsOf (stB N a lid n)).map fun h => h.getD a 0 := by
        rw [hfin, ix_phi g ha, List.map_map]
        exact List.map_congr_left fun h hh => phi_at (hal2 h hh)
      refine ws_set (i := 11) (R := BoundR m) sc_L_right.nd (ee_calD (ok_bound (x := x) (m := m) E S' (npump S') hx' (by rw [hcol]; exact hm1) (by rw [hcol]; exact hm2)) hr (A := ACons (RD (netD (lidN N a x lid))) (ACons (RD (.str x)) ANil)) (ea_cons (ee_var (i := 6) rfl r67) (ea1 (ee_var (i := 3) rfl (.str _)))) (fun vs G' h => by
          obtain ⟨v, v', rfl, h1, h2⟩ := ACons.two h
          exact ⟨v, _, rfl, h1, v', _, rfl, h2, .int 2000, [], rfl, .int 2000, rfl⟩)) s011.i fun v11 G12 H12 s12 r11 => ?_
      have s012 := s011.trans s12.any
      have pu12 := pu11.step s12
      have rdue12 := Rp.mono s12.g _ _ rdue
      refine ws_skip (et_is (et_ne hr (ed_bound2 (ee_var (i := 11) rfl r11)) (ed_tup (ds := [.str "most", .int m]) (hl := by simp) (ad_cons ed_str (ad_cons (ed_max (ns := (heapsOf (stB N a lid n)).map fun h => h.getD a 0) rfl (ee_is (ed_lcM (l := heapsOf (stB N a lid n)) (src := tI) (own := [("_law_heap", 10)]) rfl sc_L_right.nd
        (ei_list (ee_var (i := 7) rfl rdue12)) (blkOk_by (N := N_L_right) (sc := defScope s_L_right) (by decide +kernel)) (fun h => some (PyData.int (h.getD a 0))) (fun i h x' G' eg hh rx => ?_) (by omega)) ?_) hm1 hm2 E.b_max) ad_nil))) ?_ ?_) ?_) s012.i fun H13 s13 => ?_
      · have hy := List.getElem?_eq_getElem (hal2 h (List.mem_of_getElem? hh))
        refine ⟨_, ?_, fun s H C cl fp => ⟨eg_name (i := 10) sc_L_right.nd, ets_nil, ed_ixT (i := (a : Nat)) (ee_var (i := 10) rfl rx) (ee_var (i := 2) rfl (.int _)) (L2.atI_nat (by rw [List.getElem?_map, hy, getD_of hy]; rfl))⟩⟩
        rfl
      · rw [fm_some, List.map_map]
        rfl
      · exact (shp_t2 (shp_name (z := "most") (by decide +kernel)) (shp_int _)).of
      · exact (shp_t2 (shp_name (z := "most") (by decide +kernel)) (shp_int _)).of
      · have : PyData.eqv (.tuple [.str "most", .int m]) (.tuple [.str "most", .int m]) = true := by
          simp [PyData.eqv, PyData.eqvAll]
        rw [this]
        rfl
      have s013 := s012.trans s13.any
      have pu13 := pu12.step s13
      have r113 := Rp.mono s012.g _ _ r1
      have r613 := Rp.mono s12.g _ _ r67
      exact ws_retP (b1 := b + 1 + 1 + 10) (R := RD (.bool true)) (ep_cal (bb := (· + 10)) (ok_free_right E g ha S' eB) hr (ee_var (i := 0) rfl rfl) (epa_cons (ep_ee (ee_var (i := 1) rfl r113)) (epa_cons (ep_ee (ee_var (i := 6) rfl r613)) (epa_cons (ep_ee (ee_var (i := 2) rfl (.int _))) (epa_cons (ep_ee (ee_var (i := 5) rfl (.int _))) epa_nil)))) (by show b + 1 + 1 + 10 ≤ 100000; omega)) s013.i pu13 fun v14 G14 H14 s14 pu14 r14 => q v14 G14 H14 (s013.trans s14) (pu14.le (by show b + 1 + 1 + 10 ≤ b + 12; omega)) r14
end TK

/-! part F43 -/
set_option Elab.async false
set_option linter.all false
set_option maxRecDepth 100000
set_option maxHeartbeats 4000000
namespace PG
open PySem PySem.Spec PyProof.Rows L2
section
variable {X : Cx} {σ : L2.St} {G : Hp} {e a : Expr} {pos : Pos} {p : Addr} {b b1 : Nat} {t : Bool}
theorem ept_val (h : EP X e σ p b b1 G (RD (.bool t))) (he : ∀ whole, isTrue e X.env whole = (do let v ← whole; standAt e.pos; holding [v] (truthy v)) := by intro _; rfl) : EPT X e σ p b b1 G fun u => u = t := fun H Q ex pu k =>
  ⟨_, pt_val (pe_self e) he, h H _ ex pu fun v G' H' s pu' r => ⟨t, r.bl_eq, k t G' H' rfl s pu'⟩⟩
theorem ept_not (h : EPT X a σ p b b1 G fun u => u = t) : EPT X (.UnaryOp .Not a pos) σ p b b1 G fun u => u = !t := fun H Q ex pu k =>
  ⟨_, pt_not (pt_self a), h H _ ex pu fun u G' H' hu s pu' => k (!u) G' H' (by rw [hu]) s pu'⟩
end
end PG
namespace TK
open PySem PySem.Spec PyProof.Rows L2 PG
variable {P : Program} {w : World} {K : PySem.W.Frag} {mg : Str → Option Value} {base : Heap}
def spLaw (K : PySem.W.Frag) : Sp := fun vs H Q _ => ∃ (a : Addr) (ns : List Int), vs = [.ref a] ∧ SqL K H a (ns.map V.int) ∧ ∀ H', Q (.bl true) H'
theorem ok_law (E : Env K mg) {fd : FuncData} (F : FunD K "law" "law" (defArgs s_law) (defBody s_law) (defScope s_law) [] [] (He.fAd K ("law", none)) fd) : FnOk P w K mg base CX0 11 (He.fAd K ("law", none)) fd ["_law_script"] (spLaw K) :=
  fn_g F sc_law (fun vs H Q E ⟨a, ns, e, _⟩ => by rw [e]; rfl) fun cdv A outer s H vs Q E' hr ⟨a, ns, e, hs, q⟩ => by
    subst e
    refine ws_forS (S := []) (G0 := H) (H0 := H) (Y := YN) (n := 3) (ei_range (n := 3) ed_int (by decide) E.b_range) PassesOwn.never rfl (Stp.refl (Ex.refl H)) (fun i σ' G' H' => ∃ o1 o2, σ' = [some (.ref a), o1, o2]) (fun G1 H1 s1 => ⟨_, _, rfl⟩) ?_ ?_
    · rintro G1' eg i σ' G' H' G2 H2 x hi e1 s2 ⟨o1, o2, rfl⟩ s3 y
      rw [show x = .int (i : Nat) from y]
      refine wg (eg_name (i := 1) sc_law.nd) s2.i fun H3 s4 => ?_
      have s04 := s2.trans s4
      have hs3 : RScr K ns (.ref a) G2 := ⟨a, rfl, sqL_ex (eg.trans e1) hs⟩
      refine ws_setCal (i := 2) (A := ACons (RScr K ns) (ACons (RD (.int (i : Nat))) ANil)) sc_law.nd (ok_purse E) hr (ea_cons (ee_var (i := 0) rfl hs3) (ea1 (ee_var (i := 1) rfl (.int _)))) s04.i fun vs G4 H4 s5 a5 => ?_
      obtain ⟨u0, u1, rfl, hu0, hu1⟩ := ACons.two a5
      obtain rfl := Rp.int_eq hu1
      refine ⟨ns, i, u0, G4, rfl, by omega, s5.i, hu0, fun p G5 H5 s6 hp pu => ?_⟩
      have s05 := (s04.trans s5).trans s6
      have hp0 : H p = none := (s04.trans s5).fresh hp
      refine ws_ifP (b1 := 20000 + 1 + 200 + 12) (t := fun u => u = !true) (ept_not (ept_val (ep_cal (bb := (· + 12)) (ok_right E) hr (ee_var (i := 2) rfl rfl) (epa_cons (ep_cal (bb := (· + 200)) (ok_net E) hr (ee_var (i := 2) rfl rfl) (epa_cons (ep_lst2 (Ra := RI fun _ => True) (Rb := RI fun _ => True) (i := (i : Int) % 2) (ep_ee (EE.imp (ed_int (i := 0)) fun v G' _ r => ⟨_, Rp.int_eq r, trivial⟩))
        (EP.imp (ep_draw (n := 3) E (by decide) (by decide) hr (ee_var (i := 2) rfl rfl) ed_int (by decide)) fun v G' _ ⟨z, ez, _⟩ => ⟨z, ez, trivial⟩) (ed_mod (ee_var (i := 1) rfl (.int _)) ed_int (by decide)) (by omega) (fun _ _ r => r) (fun _ _ r => r)) epa_nil) (by decide)) epa_nil) (by decide)))) s05.i pu fun u G6 H6 hu s7 pu7 => ?_
      subst hu
      have s07 : Stp [] H H G6 H6 := s05.locs (S' := [p]) (fun y hy => .inr (by
        obtain rfl : y = p := by simpa using hy
        exact hp0)) s7
      exact iteF (ws_nil (ws_nil ⟨G6, e1.trans (s5.g.trans (s6.g.trans s7.g)), s07, _, _, rfl⟩))
    · rintro σ' G2 H2 e2 s2 ⟨o1, o2, rfl⟩
      exact ws_ret (R := RD (.bool true)) ed_bl s2.i fun v G3 H3 s3 r3 => by
        rw [Rp.bl_eq r3]
        exact q H3
end TK

/-! part E1 -/
set_option Elab.async false
set_option linter.all false
set_option maxRecDepth 100000
set_option maxHeartbeats 0
namespace TK
open PySem PySem.Spec PyProof.Rows L2
theorem facts {P : Program} {w : World} {K : PySem.W.Frag} {h : Heap} {mg : Str → Option Value} {f : Addr} (X : K.In h) (G : h.Ns mainGlobals mg) (hfa : mg ("law" : Str) = some (.ref f)) (c : SaysB K) :
    ∃ fd : FuncData, (∀ (s : Shared) (v : Value), BindsTo s fd ⟨[v], []⟩ [("_law_script", v)]) ∧ ∀ base : Heap, K.In base → base.Ns mainGlobals mg → FnOk P w K mg base CX0 11 f fd ["_law_script"] (spLaw K) := by
  have E : Env K mg := ⟨c, h, X, G⟩
  obtain ⟨fd, F⟩ := E.f_law
  have e := hfa.symm.trans E.g_law
  cases e
  have b := FunD.bindsA (ps := ["_law_script"]) F fun _ _ _ _ _ _ us hl => match us, hl with | [_], _ => rfl
  exact ⟨fd, fun s v => b s [v] rfl, fun base _ _ => ok_law E F⟩
end TK
open PySem PySem.W PySem.Calls PyProof.Rows
theorem PySem.Challenge.cw_tokenfold_k96_whole_places_with_a_lid_holds : PySem.Challenge.rw_tokenfold_k96_whole_places_with_a_lid.Holds := by
  w_on; o_law
  refine HandSHeadRun.head_any (r := OpenLaw.row PySem.Challenge.rw_tokenfold_k96_whole_places_with_a_lid) (q := view (OpenLaw.row PySem.Challenge.rw_tokenfold_k96_whole_places_with_a_lid).prog [89]) (H := TK.hookB) (ob := TK.ob) (M := 20000) (loose := TK.loose) (d := HandSHeadRun.topDef (OpenLaw.row PySem.Challenge.rw_tokenfold_k96_whole_places_with_a_lid).prog 89) (kwd := []) TK.ob_eq
    (by kernel_rfl) (fun s => by kernel_rfl) TK.run (by kernel_rfl) (by kernel_rfl) (by kernel_rfl) (by rfl) (by first | assumption | decide +kernel) (by decide +kernel) ⟨rfl, rfl, rfl, rfl, rfl, by decide +kernel⟩ ?hw ?hc
  case hw => w_witness2
  case hc =>
    refine L2.walk_ofE (l := PySem.Challenge.rw_tokenfold_k96_whole_places_with_a_lid) (n := 63) (k := 11) (x := "_law_script") (CX := L2.CX0) rfl (by decide) (by kernel_rfl) ⟨rfl, by decide, by decide⟩ ?F (fun _ _ _ _ z => z)
    intro w mg fa h Y G hmg0
    obtain ⟨K, KX, c⟩ := Y
    have hmg : mg ("law" : PySem.Str) = some (.ref fa) := by
      have e : (HandSHeadRun.topDef (OpenLaw.row PySem.Challenge.rw_tokenfold_k96_whole_places_with_a_lid).prog 89).name = ("law" : PySem.Str) := by kernel_rfl
      rw [← e]
      exact hmg0
    obtain ⟨fd, hb, hF⟩ := TK.facts (P := (PySem.Challenge.rw_tokenfold_k96_whole_places_with_a_lid).prog) (w := w) KX G hmg c
    exact ⟨K, fd, TK.spLaw K, KX, hb, fun H a ns hl _ hS => ⟨a, ns, rfl, hS, fun _ => rfl⟩, hF⟩
